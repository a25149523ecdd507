import PyProof.Rows.All
import Wide.All
import OpenK.AllK
import Wide.FinOn
import HandS.ForMost
import HandS.Conv
import HandS.WordsExc
import HandS.Text
import KE.KIntText
import HandS.ForExc
import HandS.TupAny
import HandS.TupMul
import HandS.TupLe
import HandS.SortInts
import KE.KDictKeyed
import HandS.ExcValue
import HandS.ExcInit
import HandS.Lambda
import HandS.SetFor
import HandS.Strs
import PyProof.Walks
import HandS.IsInst
import KE.DataMinMax
import KE.SortData
import PyProof.P3Eq
import KE.GoesMore
import HandS.ExcOwn
import HandS.Style
import HandS.Dict
import HandS.ClsMeth
import HandS.Property
import HandS.More
import OpenK.KMeth
import OpenK.KOps
import HandS.SlotsOwn
import PyProof.Rows.Range3
import PyProof.Conv_bool
import HandS.GenCall
import HandS.GenList
import HandS.TryMany
import HandS.ExcIs
import HandS.ExcField
import HandS.Exc
import PyProof.FactsAll.list_0
import PyProof.FactsAll.list_3
import PyProof.FactsAll.str_5
import PyProof.FactsSeq
import HandS.Star
import HandS.Defaults
import HandS.HeadHook2
import HandS.HeadEnd
import HandS.Head0
import HandS.Head1
import HandS.Head2
import HandS.HeadHook1
import HandS.HeadWalk
import KE.KNestM
import HandS.GenBody
import HandS.GenYield
import PySem.Challenge.RW_skipgrooves_k16_errors_and_their_classes
set_option Elab.async false
set_option linter.all false
set_option maxRecDepth 100000
set_option maxHeartbeats 0
/-! G.Lang: plain data, a small tree language, its total evaluator. No Python model in sight. -/
namespace G
open PySem

/-- plain data; frz is a list that is read only (the script); err: an error object that was made, not raised (v: the int it keeps) -/
inductive D where
  | non | bl (b : Bool) | int (i : Int) | str (s : Str) | tup (xs : List D) | lst (xs : List D) | frz (xs : List D) | err (c : Str) (v : Option Int)

mutual
def D.toPy : D → PyData
  | .non => .none
  | .bl b => .bool b
  | .int i => .int i
  | .str s => .str s
  | .tup xs => .tuple (D.toPys xs)
  | .lst xs => .list (D.toPys xs)
  | .frz xs => .list (D.toPys xs)
  | .err _ _ => .none
def D.toPys : List D → List PyData
  | [] => []
  | x :: xs => D.toPy x :: D.toPys xs
end
mutual
/-- == -/
def D.eq : D → D → Bool
  | .non, .non => true
  | .bl a, .bl b => a == b
  | .bl a, .int j => (if a then 1 else 0) == j
  | .int i, .bl b => i == (if b then 1 else 0)
  | .int i, .int j => i == j
  | .str x, .str y => decide (x = y)
  | .lst xs, .lst ys => D.eqs xs ys
  | .tup xs, .tup ys => D.eqs xs ys
  | _, _ => false
def D.eqs : List D → List D → Bool
  | [], [] => true
  | x :: xs, y :: ys => D.eq x y && D.eqs xs ys
  | _, _ => false
end
mutual
/-- what == may be asked of: no read-only list, texts of real signs, at most n deep -/
def D.shp : Nat → D → Bool
  | _, .non => true
  | _, .bl _ => true
  | _, .int _ => true
  | _, .str x => x.cps.all (· < 0x110000)
  | n + 1, .tup xs => D.shps n xs
  | n + 1, .lst xs => D.shps n xs
  | _, _ => false
def D.shps : Nat → List D → Bool
  | _, [] => true
  | n, x :: xs => D.shp n x && D.shps n xs
end
def D.flat : D → Bool
  | .non => true
  | .bl _ => true
  | .int _ => true
  | .str _ => true
  | _ => false

def D.isErr : D → Bool
  | .err _ _ => true
  | _ => false
def D.isNon : D → Bool
  | .non => true
  | _ => false
def D.isInt : D → Bool
  | .int _ => true
  | .bl _ => true
  | _ => false
def D.isBl : D → Bool
  | .bl _ => true
  | _ => false
def D.isStr : D → Bool
  | .str _ => true
  | _ => false
def D.isTup : D → Bool
  | .tup _ => true
  | _ => false
def D.isLst : D → Bool
  | .lst _ => true
  | .frz _ => true
  | _ => false

/-- a class whose errors keep an int, and its field -/
def exnF (x : Str) : Option Str := if x = ("InvalidText" : Str) then some "line" else if x = ("TooMany" : Str) then some "limit" else none
/-- the error classes that may be values -/
def errNames : List Str := ["InvalidRecord", "InvalidPlace", "InvalidNumber", "InvalidWord", "InvalidMenu", "InvalidHeard", "InvalidIndex", "NoTurn", "NotPlaying", "NothingToUndo", "InvalidText", "TooMany"]
/-- isinstance -/
def subE (n c : Str) : Bool := decide (n = c) || decide (c = "RecordError") || decide (c = "ValueError")
inductive Ob where
  | lst (xs : List D)
  | dct (kvs : List (D × D))
  /-- a player: record, number of turns, what is so, what was so -/
  | ply (r n w : D) (ps : List D)
/-- a slot: unset; a value; an object of one's own (p: handed in by the caller) -/
inductive Sl where
  | no | ro (d : D) | ow (p : Bool) (o : Ob)
/-- a result: data, or the object of a slot -/
inductive RV where
  | d (x : D) | own (i : Nat)
/-- what a def hands back: data, or a new object -/
inductive Rt where
  | d (x : D) | fr (o : Ob)
structure Exn where
  c : Str
  pl : Option (Str × Int) := none
inductive Out (S α : Type) where
  | ok (a : α) (s : S) | ex (c : Exn) (s : S) | no
abbrev Env := List Sl
abbrev Fn := List Sl → Out (List Sl) Rt

def Out.bind {S α β : Type} : Out S α → (α → S → Out S β) → Out S β
  | .ok a s, f => f a s
  | .ex c s, _ => .ex c s
  | .no, _ => .no
def Out.noex {S α : Type} : Out S α → Out S α
  | .ok a s => .ok a s
  | _ => .no

inductive Bop where
  | add | sub | mul | fdiv | mod | pow
  deriving DecidableEq
inductive Cop where
  | eq | ne | lt | le | gt | ge | isin | notin | is | isnot
  deriving DecidableEq
inductive Blt where
  | len | abs | int | str | bool | min2 | max2 | tuple | list | any | all | sum | maxl | minp | sorted | sset | isint | isbool | isstr | istuple | islist
  deriving DecidableEq
inductive Mth where
  | count | index | join | split
  deriving DecidableEq

/-- a method with one argument -/
inductive M1 where
  | spl | joi | lix
  deriving DecidableEq
/-- a data field of a player -/
inductive Fd where
  | rc | mn | nw
  deriving DecidableEq
/-- C(a) of an error's class, as a value; isinstance(a, c); a.f; in law: w(lambda: a), w a def that tells the field f of an error c, else None -/
inductive Xo where
  | mkx (c : Str) | isx (c : Str) | erf (f : Str) | tryl (w c f : Str)
inductive E where
  | var (i : Nat)
  /-- of a player in slot i: a field; len(o.past); o.past == []; o.MOST; isinstance(o, Player) -/
  | fld (f : Fd) (i : Nat) | plen (i : Nat) | pemp (i : Nat) | pmost (i : Nat) | isply (i : Nat)
  /-- Player.MOST -/
  | cmost
  /-- of a player in slot i, by the method at k: o.m(..), o.p, len(o), bool(o), a in o, o == a, o != a -/
  | mcall (k i : Nat) (es : E) | prop (k i : Nat) | olen (k i : Nat) | obool (k i : Nat) | oin (k : Nat) (a : E) (i : Nat) | oeq (k i : Nat) (a : E) | one (k i : Nat) (a : E)
  /-- list(o.lines()) -/
  | plist (i : Nat)
  /-- o.play(): the default is 1 -/
  | play0 (k i : Nat)
  /-- of errors -/
  | ext (o : Xo) (a : E)
  | lit (d : D)
  | con (x : Str) (d : D)
  | nil | cons (e es : E)
  | tup (es : E) | lst (es : E) | dnew
  | bin (o : Bop) (a b : E)
  | neg (a : E) | not (a : E)
  | cmp (o : Cop) (a b : E)
  | chn (o p : Cop) (a b c : E)
  | and (a b : E) | or (a b : E)
  | ifx (c a b : E)
  | idx (a b : E) | sl (a lo hi : E) | rev (a : E)
  | call (k : Nat) (es : E)
  | blt (b : Blt) (es : E)
  | mth (m : Mth) (o es : E)
  | m1 (o : M1) (a b : E)
  /-- None in a list -/
  | nin (a : E)
  /-- {text: int, ..}.get(x) -/
  | cget (kvs : List (Str × Int)) (a : E)
  /-- a dict {int: text, ..} of the module, by its name -/
  | gidx (nm : Str) (kvs : List (Int × Str)) (a : E)
  | rng1 (a : E) | rng2 (a b : E) | enm (a : E) | itr (a : E)
  | lrng (a : E) | trng (a : E) | srt (es : E)
  /-- a def that calls a lambda and tells the error's word; in the lambda: a call -/
  | tryc (w : Str) (ws : List (Str × Str)) (k : Nat) (es : E)
  | comp (vs : List Nat) (tg : List Nat) (it elt : E)
  | compc (vs : List Nat) (tg : List Nat) (it c elt : E)

/-- a clause: v_i = text; as v_n: v_i = text + str(v_n.f); return v_j; as v_n: return v_n.f -/
inductive Hk where
  | set (i : Nat) (t : Str) | setS (i n : Nat) (t f : Str) | retV (j : Nat) | retF (n : Nat) (f : Str)
inductive S where
  | skip | seq (a b : S)
  /-- o.now = e; o.past.append(o.now); o.now = o.past.pop() -/
  | pset (i : Nat) (e : E) | ppush (i : Nat) | ppop (i : Nat)
  /-- v_i = Player(..); v_i, v_j = Player(..), [(None, ())]; v_i, v_j = Player(v_r, v_n), Player(v_r, v_n) -/
  | asgN (i k : Nat) (es : E) | asgN1 (i j k : Nat) (es : E) | asgN2 (i j k r n : Nat)
  /-- try: b; except ..: .. -/
  | tryM (b : S) (hs : List (Str × Hk))
  | asg (i : Nat) (e : E)
  | asgO (i : Nat) (e : E)
  | asgT (is : List Nat) (e : E)
  | asgP (is : List Nat) (es : E)
  /-- side by side, the last of them a new list -/
  | asgL (is : List Nat) (es : E) (j : Nat)
  /-- x_j, x_i = [], x_k -/
  | asgH (j i k : Nat)
  | setI (i : Nat) (k e : E)
  | app (i : Nat) (e : E)
  | drop (e : E)
  | ret (e : E)
  | ite (c : E) (a b : S)
  | whl (n : Nat) (c : E) (b : S)
  | for1 (i : Nat) (it : E) (b : S)
  | forT (is : List Nat) (it : E) (b : S)
  | rais (x m : Str)
  /-- raise x(an int): kept in the field f -/
  | raisN (x f : Str) (e : E)
  /-- try: v_i = a call; except x as v_n: v_i = v_n.f -/
  | tryA (i n k : Nat) (es : E) (x f : Str)
  | brk | cnt
inductive Fl where
  | nx | rt (r : Rt) | bk | ct

/-! ### values -/
def big : Nat := 1000000
def cmpv : Cop → D → D → Option Bool
  | .eq, x, y => if D.shp 60 x && D.shp 60 y then some (D.eq x y) else none
  | .ne, x, y => if D.shp 60 x && D.shp 60 y then some (!D.eq x y) else none
  | .lt, .int i, .int j => some (decide (i < j))
  | .le, .int i, .int j => some (decide (i ≤ j))
  | .gt, .int i, .int j => some (decide (j < i))
  | .ge, .int i, .int j => some (decide (j ≤ i))
  | .isin, x, .tup ys => if x.flat && ys.all D.flat then some (ys.any fun z => D.eq z x) else none
  | .isin, x, .lst ys => if x.flat && ys.all D.flat then some (ys.any fun z => D.eq z x) else none
  | .notin, x, .tup ys => if x.flat && ys.all D.flat then some (!ys.any fun z => D.eq z x) else none
  | .notin, x, .lst ys => if x.flat && ys.all D.flat then some (!ys.any fun z => D.eq z x) else none
  | .is, x, .non => some x.isNon
  | .isnot, x, .non => some (!x.isNon)
  | .is, .bl a, .bl b => some (decide (a = b))
  | .isnot, .bl a, .bl b => some (!decide (a = b))
  | _, _, _ => none
def mulOk (i j : Int) : Bool := (decide (-(2 ^ 64) < i) && decide (i < 2 ^ 64)) || (decide (-(2 ^ 64) < j) && decide (j < 2 ^ 64))
def repD (xs : List D) (k : Int) : List D := (List.replicate k.toNat xs).flatten
def binv : Bop → D → D → Option D
  | .add, .int i, .int j => some (.int (i + j))
  | .add, .str a, .str b => if a.length + b.length ≤ big then some (.str (a ++ b)) else none
  | .add, .tup a, .tup b => if a.length + b.length ≤ big then some (.tup (a ++ b)) else none
  | .add, .lst a, .lst b => if a.length + b.length ≤ big then some (.lst (a ++ b)) else none
  | .sub, .int i, .int j => some (.int (i - j))
  | .mul, .int i, .int j => if mulOk i j then some (.int (i * j)) else none
  | .mul, .tup a, .int k => if a.length ≤ 1000 ∧ 0 ≤ k ∧ k ≤ 1000 then some (.tup (repD a k)) else none
  | .mul, .lst a, .int k => if a.length ≤ 1000 ∧ 0 ≤ k ∧ k ≤ 1000 then some (.lst (repD a k)) else none
  | .fdiv, .int i, .int j => if j ≠ 0 ∧ j.natAbs < 1073741824 then some (.int (i.fdiv j)) else none
  | .mod, .int i, .int j => if j ≠ 0 then some (.int (i.fmod j)) else none
  | .pow, .int i, .int j => if 0 ≤ j ∧ j ≤ 1000 ∧ i.natAbs < 2 ^ 64 then some (.int (i ^ j.toNat)) else none
  | _, _, _ => none
def atD (xs : List D) (i : Int) : Option D := if 0 ≤ i then xs[i.toNat]? else if -(xs.length : Int) ≤ i then xs[(i + xs.length).toNat]? else none
def idxv : D → D → Option D
  | .tup xs, .int i => atD xs i
  | .lst xs, .int i => atD xs i
  | .frz xs, .int i => atD xs i
  | _, _ => none
/-- a bound of a slice -/
def bnd (n d : Nat) : Option Int → Nat
  | none => d
  | some v => if v < 0 then (v + n).toNat else min v.toNat n
def cut {α : Type} (xs : List α) (lo hi : Option Int) : List α := (xs.drop (bnd xs.length 0 lo)).take (bnd xs.length xs.length hi - bnd xs.length 0 lo)
def slv (x : D) (lo hi : Option Int) : Option D := match x with
  | .tup xs => some (.tup (cut xs lo hi))
  | .lst xs => some (.lst (cut xs lo hi))
  | .str z => if z.length ≤ big then some (.str ⟨(cut z.cps.toList lo hi).toArray⟩) else none
  | _ => none
def intsD : List D → Option (List Int)
  | [] => some []
  | .int i :: r => (intsD r).map (i :: ·)
  | _ => none
def blsD : List D → Option (List Bool)
  | [] => some []
  | .bl i :: r => (blsD r).map (i :: ·)
  | _ => none
def strsD : List D → Option (List Str)
  | [] => some []
  | .str i :: r => (strsD r).map (i :: ·)
  | _ => none
def insI (a : Int) : List Int → List Int
  | [] => [a]
  | b :: r => if a ≤ b then a :: b :: r else b :: insI a r
def sortI : List Int → List Int
  | [] => []
  | a :: r => insI a (sortI r)
/-- sorted(set(..)) -/
def insU (a : Int) : List Int → List Int
  | [] => [a]
  | b :: r => if a < b then a :: b :: r else if a = b then b :: r else b :: insU a r
def sortU : List Int → List Int
  | [] => []
  | a :: r => insU a (sortU r)
def pairsD : List D → Option (List (Int × Int))
  | [] => some []
  | .tup [.int a, .int b] :: r => (pairsD r).map ((a, b) :: ·)
  | _ => none
def ltP (p q : Int × Int) : Bool := decide (p.1 < q.1) || (decide (p.1 = q.1) && decide (p.2 < q.2))
/-- min of pairs -/
def minP (p : Int × Int) (ps : List (Int × Int)) : Int × Int := ps.foldl (fun a y => if ltP y a then y else a) p
def bltv : Blt → List D → Option D
  | .len, [.tup xs] => some (.int xs.length)
  | .len, [.lst xs] => some (.int xs.length)
  | .len, [.frz xs] => some (.int xs.length)
  | .len, [.str z] => if z.length ≤ big then some (.int z.length) else none
  | .abs, [.int i] => some (.int (if i < 0 then -i else i))
  | .int, [.int i] => some (.int i)
  | .int, [.bl b] => some (.int (if b then 1 else 0))
  | .int, [.str z] => if z.length ≤ 640 then (intText? z).map .int else none
  | .bool, [.bl b] => some (.bl b)
  | .str, [.int i] => if i.natAbs < 2 ^ 1900 then some (.str (toString i : String)) else none
  | .min2, [.int i, .int j] => some (.int (if j < i then j else i))
  | .max2, [.int i, .int j] => some (.int (if j > i then j else i))
  | .tuple, [.tup xs] => some (.tup xs)
  | .tuple, [.lst xs] => some (.tup xs)
  | .list, [.tup xs] => some (.lst xs)
  | .list, [.lst xs] => some (.lst xs)
  | .any, [.lst xs] => (blsD xs).map fun l => .bl (l.any id)
  | .all, [.lst xs] => (blsD xs).map fun l => .bl (l.all id)
  | .sum, [.lst xs] => (intsD xs).map fun l => .int l.sum
  | .maxl, [.lst xs] => match intsD xs with
    | some (a :: r) => some (.int (r.foldl max a))
    | _ => none
  | .minp, [.lst xs] => match pairsD xs with
    | some (p :: ps) => some (let m := minP p ps; .tup [.int m.1, .int m.2])
    | _ => none
  | .sorted, [.lst xs] => (intsD xs).map fun l => .lst ((sortI l).map .int)
  | .sset, [.lst xs] => (intsD xs).bind fun l => if xs.length ≤ 1000 ∧ (sortU l).length < 63 then some (.lst ((sortU l).map .int)) else none
  | .isint, [x] => if x.isErr then none else some (.bl x.isInt)
  | .isbool, [x] => if x.isErr then none else some (.bl x.isBl)
  | .isstr, [x] => if x.isErr then none else some (.bl x.isStr)
  | .istuple, [x] => if x.isErr then none else some (.bl x.isTup)
  | .islist, [x] => if x.isErr then none else some (.bl x.isLst)
  | _, _ => none
def strIx (w : Str) : List Str → Nat → Option Nat
  | [], _ => none
  | x :: r, i => if x = w then some i else strIx w r (i + 1)
def m1v : M1 → D → D → Option D
  | .spl, .str s, .str t => if (t.length == 0) = false ∧ s.length ≤ big then some (.lst ((Txt.split s t).map .str)) else none
  | .joi, .str a, .lst xs => (strsD xs).bind fun ys => if (ys.map (·.length)).sum + ys.length * a.length ≤ 16000000 then some (.str (Txt.join a ys)) else none
  | .lix, .lst xs, .str w => (strsD xs).bind fun ys => (strIx w ys 0).map fun i => .int (i : Nat)
  | _, _, _ => none
def mthv : Mth → D → List D → Option D
  | .count, .lst xs, [.str w] => (strsD xs).map fun l => .int (l.filter fun y => decide (y = w)).length
  | .count, .lst xs, [.tup ys] => if xs.all (D.shp 60) && D.shp 60 (.tup ys) then some (.int (xs.filter fun y => D.eq y (.tup ys)).length) else none
  | _, _, _ => none
def dget (k : D) : List (D × D) → Option D
  | [] => none
  | (a, v) :: r => if D.eq a k then some v else dget k r
def dput (k v : D) : List (D × D) → List (D × D)
  | [] => [(k, v)]
  | (a, w) :: r => if D.eq a k then (a, v) :: r else (a, w) :: dput k v r
/-- a key of a dict: a tuple of intsD, truths, and such tuples -/
def rangeD (lo : Int) (n : Nat) : List D := (List.range n).map fun (i : Nat) => .int (lo + (i : Int))
def enumD (xs : List D) : List D := (List.range xs.length).zipWith (fun i x => .tup [.int (i : Nat), x]) xs

mutual
/-- hashable, at most n deep -/
def D.keyIn : Nat → D → Bool
  | _, .non => true
  | _, .bl _ => true
  | _, .int _ => true
  | _, .str _ => true
  | n + 1, .tup xs => D.keysIn n xs
  | _, _ => false
def D.keysIn : Nat → List D → Bool
  | _, [] => true
  | n, x :: xs => D.keyIn n x && D.keysIn n xs
end
/-- a key of a dict: a tuple -/
def D.key (d : D) : Bool := d.isTup && D.keyIn 8 d

/-! ### slots -/
def RV.val (δ : Env) : RV → Option D
  | .d x => some x
  | .own i => match δ[i]? with
    | some (.ow _ (.lst xs)) => some (.lst xs)
    | _ => none
def RV.arg (δ : Env) : RV → Option Sl
  | .d x => some (.ro x)
  | .own i => match δ[i]? with
    | some (.ow _ o) => some (.ow true o)
    | _ => none
def vals (δ : Env) : List RV → Option (List D)
  | [] => some []
  | r :: rs => match r.val δ, vals δ rs with
    | some x, some xs => some (x :: xs)
    | _, _ => none
def argsOf (δ : Env) : List RV → Option (List Sl)
  | [] => some []
  | r :: rs => match r.arg δ, argsOf δ rs with
    | some x, some xs => some (x :: xs)
    | _, _ => none
def datas : List RV → Option (List D)
  | [] => some []
  | .d x :: rs => (datas rs).map (x :: ·)
  | _ => none
/-- no object is handed in twice -/
def ownsOf : List RV → List Nat
  | [] => []
  | .own i :: rs => i :: ownsOf rs
  | _ :: rs => ownsOf rs
/-- the caller's slots behind a call -/
def back (δ : Env) : List RV → List Sl → Env
  | .own i :: rs, .ow _ o :: ss => match δ[i]? with
    | some (.ow p _) => back (δ.set i (.ow p o)) rs ss
    | _ => back δ rs ss
  | _ :: rs, _ :: ss => back δ rs ss
  | _, _ => δ
/-- a slot that may be stored to -/
def free (δ : Env) (i : Nat) : Bool := match δ[i]? with
  | some (.ow true _) => false
  | some _ => true
  | none => false
def setRo (δ : Env) (i : Nat) (x : D) : Option Env := if free δ i then some (δ.set i (.ro x)) else none
def setRos (δ : Env) : List Nat → List D → Option Env
  | [], [] => some δ
  | i :: is, x :: xs => match setRo δ i x with
    | some δ => setRos δ is xs
    | none => none
  | _, _ => none
def bindT (is : List Nat) (x : D) (δ : Env) : Option Env := match x with
  | .tup xs => setRos δ is xs
  | _ => none
def bindC (tg : List Nat) (x : D) (δ : Env) : Option Env := match tg with
  | [i] => setRo δ i x
  | _ => bindT tg x δ
def wipeE (δ : Env) : List Nat → Env
  | [] => δ
  | v :: vs => (wipeE δ vs).set v .no
def notOwn (δ : Env) (i : Nat) : Bool := match δ[i]? with
  | some (.ow _ _) => false
  | _ => true
/-- behind a comprehension its own names are what they were -/
def restE (δ0 : Env) (δ : Env) : List Nat → Env
  | [] => δ
  | v :: vs => (restE δ0 δ vs).set v (match δ0[v]? with | some s => s | none => .no)
def compL (f : D → Env → Out Env (Option D)) : List D → List D → Env → Out Env (List D)
  | [], acc, δ => .ok acc δ
  | x :: xs, acc, δ => match f x δ with
    | .ok (some y) δ => compL f xs (acc ++ [y]) δ
    | .ok none δ => compL f xs acc δ
    | _ => .no

def lift {S α : Type} (o : Option α) (s : S) : Out S α := match o with
  | some a => .ok a s
  | none => .no
def asBl : RV → Option Bool
  | .d (.bl b) => some b
  | _ => none

/-- x op y, where y may be an object of one's own -/
def cmpR (δ : Env) (o : Cop) (x y : RV) : Option Bool := match o, x, y with
  | .isin, .d k, .own i => (match δ[i]? with
    | some (.ow _ (.dct kvs)) => if k.key then some (dget k kvs).isSome else none
    | some (.ow _ (.lst ys)) => cmpv .isin k (.lst ys)
    | _ => none)
  | .notin, .d k, .own i => (match δ[i]? with
    | some (.ow _ (.dct kvs)) => if k.key then some (!(dget k kvs).isSome) else none
    | some (.ow _ (.lst ys)) => cmpv .notin k (.lst ys)
    | _ => none)
  | o, x, y => match x.val δ, y.val δ with
    | some x, some y => cmpv o x y
    | _, _ => none
def idxR (δ : Env) (x y : RV) : Option D := match x, y with
  | .own i, .d k => (match δ[i]? with
    | some (.ow _ (.dct kvs)) => if k.key then dget k kvs else none
    | some (.ow _ (.lst xs)) => idxv (.lst xs) k
    | _ => none)
  | .d x, .d k => idxv x k
  | _, _ => none
def binR (δ : Env) (o : Bop) (x y : RV) : Option D := match x.val δ, y.val δ with
  | some x, some y => binv o x y
  | _, _ => none
def nonE : E → Bool
  | .lit .non => true
  | _ => false
/-- a bound of a slice: left out, or an int -/
def asBnd : Bool → RV → Option (Option Int)
  | true, _ => some none
  | false, .d (.int i) => some (some i)
  | false, _ => none
def slR (δ : Env) (x : RV) (l h : Option Int) : Option D := match x.val δ with
  | some x => slv x l h
  | none => none
def revR (δ : Env) (x : RV) : Option D := match x.val δ with
  | some (.lst xs) => some (.lst xs.reverse)
  | _ => none
def bltR (δ : Env) (b : Blt) (rs : List RV) : Option D := match vals δ rs with
  | some ds => bltv b ds
  | none => none
def mthR (δ : Env) (m : Mth) (x : RV) (rs : List RV) : Option D := match x.val δ, vals δ rs with
  | some x, some ds => mthv m x ds
  | _, _ => none
def isLR (δ : Env) (x : RV) : Bool := match x.val δ with
  | some (.lst _) => true
  | _ => false
def m1R (δ : Env) (o : M1) (x y : RV) : Option D := match x.val δ, y.val δ with
  | some x, some y => m1v o x y
  | _, _ => none
/-- what the method is asked of -/
def m1ok (δ : Env) (o : M1) (x : RV) : Bool := match o, x with
  | .lix, x => isLR δ x
  | _, .d (.str _) => true
  | _, _ => false
def ninR (δ : Env) (x : RV) : Option D := match x.val δ with
  | some (.lst xs) => if xs.all (D.shp 60) then some (.bl (xs.any D.isNon)) else none
  | _ => none
def cgetR (kvs : List (Str × Int)) : RV → Option D
  | .d (.str z) => (match kvs.lookup z with
    | some i => some (.int i)
    | none => some .non)
  | _ => none
def gidxR (kvs : List (Int × Str)) : RV → Option D
  | .d (.int i) => (kvs.lookup i).map .str
  | _ => none
/-- the objects that were handed in, and nothing else, come back as objects -/
def okOuts : List Sl → List Sl → Bool
  | [], [] => true
  | .ow _ _ :: as, .ow _ _ :: os => okOuts as os
  | .ro _ :: as, .ro _ :: os => okOuts as os
  | _, _ => false
/-- a call: what it hands back, the slots behind it -/
def callR (T : List Fn) (k : Nat) (rs : List RV) (δ : Env) : Out Env Rt := match T[k]?, argsOf δ rs with
  | some f, some as => if (ownsOf rs).Nodup then (match f as with
    | .ok r os => if okOuts as os then .ok r (back δ rs os) else .no
    | .ex c os => if okOuts as os then .ex c (back δ rs os) else .no
    | .no => .no) else .no
  | _, _ => .no
def Rt.dat : Rt → Option D
  | .d x => some x
  | .fr (.lst xs) => some (.lst xs)
  | _ => none
def itv : D → Option (List D)
  | .tup xs => some xs
  | .lst xs => some xs
  | .frz xs => some xs
  | _ => none
def itR : RV → Option (List D)
  | .d x => itv x
  | _ => none
def rg1R : RV → Option (List D)
  | .d (.int n) => if -(big : Int) ≤ n ∧ n ≤ big then some (rangeD 0 n.toNat) else none
  | _ => none
def rg2R : RV → RV → Option (List D)
  | .d (.int i), .d (.int j) => if -(big : Int) ≤ i ∧ i ≤ big ∧ -(big : Int) ≤ j ∧ j ≤ big then some (rangeD i (j - i).toNat) else none
  | _, _ => none
def enmR : RV → Option (List D)
  | .d (.tup xs) => some (enumD xs)
  | .d (.lst xs) => some (enumD xs)
  | _ => none
def negR : RV → Option D
  | .d (.int i) => some (.int (-i))
  | _ => none
def asD : RV → Option D
  | .d x => some x
  | _ => none

/-! ### players -/
def plyA (δ : Env) (i : Nat) : Option (D × D × D × List D) := match δ[i]? with
  | some (.ow _ (.ply r n w ps)) => some (r, n, w, ps)
  | _ => none
def fldR (δ : Env) (f : Fd) (i : Nat) : Option D := match plyA δ i with
  | some (r, n, w, _) => some (match f with
    | .rc => r
    | .mn => n
    | .nw => w)
  | none => none
def plenR (δ : Env) (i : Nat) : Option D := match plyA δ i with
  | some (_, _, _, ps) => some (.int ps.length)
  | none => none
def pempR (δ : Env) (i : Nat) : Option D := match plyA δ i with
  | some (_, _, _, ps) => (cmpv .eq (.lst ps) (.lst [])).map .bl
  | none => none
def pmostR (δ : Env) (i : Nat) : Option D := match plyA δ i with
  | some _ => some (.int 60)
  | none => none
def isplyR (δ : Env) (i : Nat) : Option D := match δ[i]? with
  | some (.ow _ (.ply _ _ _ _)) => some (.bl true)
  | some (.ro (.tup _)) => some (.bl false)
  | _ => none
def isPly (δ : Env) (i : Nat) : Bool := (plyA δ i).isSome
def lineS (t : Str) : List Int → List D
  | [] => []
  | i :: r => .str (t ++ ((toString i : String) : Str)) :: lineS t r
def plistR (δ : Env) (i : Nat) : Option D := match plyA δ i with
  | some (_, _, .tup [_, .tup ts], _) => (match intsD ts with
    | some is => if is.all (fun i => decide (i.natAbs < 2 ^ 1900)) && decide (is.length < big) then some (.lst (lineS (Str.ofString "turn ") is)) else none
    | none => none)
  | _ => none
/-- what may stand on the right of == -/
def eqArg (δ : Env) : RV → Bool
  | .d (.tup _) => true
  | .own i => isPly δ i
  | _ => false
def rtI : Rt → Option D
  | .d (.int i) => if 0 ≤ i ∧ i ≤ big then some (.int i) else none
  | _ => none
def rtB : Rt → Option Bool
  | .d (.bl b) => some b
  | _ => none
def psetR (δ : Env) (i : Nat) (x : D) : Option Env := match δ[i]? with
  | some (.ow p (.ply r n _ ps)) => some (δ.set i (.ow p (.ply r n x ps)))
  | _ => none
def ppushR (δ : Env) (i : Nat) : Option Env := match δ[i]? with
  | some (.ow p (.ply r n w ps)) => if ps.length < big then some (δ.set i (.ow p (.ply r n w (ps ++ [w])))) else none
  | _ => none
def ppopR (δ : Env) (i : Nat) : Option Env := match δ[i]? with
  | some (.ow p (.ply r n _ ps)) => (match ps.getLast? with
    | some x => some (δ.set i (.ow p (.ply r n x ps.dropLast)))
    | none => none)
  | _ => none
def newP (r n : D) : Ob := .ply r n (.tup [.non, .tup []]) []
/-- Player(..): what its checks say -/
def makeR (T : List Fn) (k : Nat) (ds : List D) (δ : Env) : Out Env Ob := match T[k]?, ds with
  | some f, [r, n] => (match f [.ro r, .ro n] with
    | .ok _ _ => .ok (newP r n) δ
    | _ => .no)
  | _, _ => .no
def mkxR (c : Str) : RV → Option D
  | .d x => if c ∈ errNames then (match exnF c, x with
    | none, _ => some (.err c none)
    | some _, .int i => some (.err c (some i))
    | _, _ => none) else none
  | _ => none
def isxR (c : Str) : RV → Option D
  | .d (.err n _) => if n ∈ errNames then some (.bl (subE n c)) else none
  | _ => none
def erfR (f : Str) : RV → Option D
  | .d (.err n (some i)) => if n ∈ errNames ∧ exnF n = some f then some (.int i) else none
  | _ => none
/-- an expression in a lambda, told by its error's field -/
def tryF (c f : Str) : Out Env RV → Out Env RV
  | .ok _ δ => .ok (.d .non) δ
  | .ex e δ => (match e.pl with
    | some (g, v) => if e.c = c ∧ g = f then .ok (.d (.int v)) δ else .no
    | none => .no)
  | .no => .no
def extR : Xo → Out Env RV → Out Env RV
  | .mkx c, r => r.bind fun x δ => (lift (mkxR c x) δ).bind fun z δ => .ok (.d z) δ
  | .isx c, r => r.bind fun x δ => (lift (isxR c x) δ).bind fun z δ => .ok (.d z) δ
  | .erf f, r => r.bind fun x δ => (lift (erfR f x) δ).bind fun z δ => .ok (.d z) δ
  | .tryl _ c f, r => tryF c f r
/-- a call in a lambda comes to -/
def tryO (ws : List (Str × Str)) : Out Env Rt → Out Env RV
  | .ok _ δ => .ok (.d (.str (Str.ofString ""))) δ
  | .ex c δ => (match ws.lookup c.c with
    | some u => .ok (.d (.str u)) δ
    | none => .no)
  | .no => .no
/-! ### expressions -/
section
variable (T : List Fn)
mutual
def ev : E → Env → Out Env RV
  | .var i, δ => match δ[i]? with
    | some (.ro d) => .ok (.d d) δ
    | some (.ow _ _) => .ok (.own i) δ
    | _ => .no
  | .lit d, δ => .ok (.d d) δ
  | .con _ d, δ => .ok (.d d) δ
  | .tup es, δ => (evs es δ).bind fun rs δ => (lift (datas rs) δ).bind fun ds δ => .ok (.d (.tup ds)) δ
  | .lst es, δ => (evs es δ).bind fun rs δ => (lift (datas rs) δ).bind fun ds δ => .ok (.d (.lst ds)) δ
  | .bin o a b, δ => (ev a δ).bind fun x δ => (ev b δ).bind fun y δ => (lift (binR δ o x y) δ).bind fun z δ => .ok (.d z) δ
  | .neg a, δ => (ev a δ).bind fun x δ => (lift (negR x) δ).bind fun z δ => .ok (.d z) δ
  | .not a, δ => (ev a δ).bind fun x δ => (lift (asBl x) δ).bind fun b δ => .ok (.d (.bl (!b))) δ
  | .cmp o a b, δ => (ev a δ).bind fun x δ => (ev b δ).bind fun y δ => (lift (cmpR δ o x y) δ).bind fun t δ => .ok (.d (.bl t)) δ
  | .chn o p a b c, δ => (ev a δ).bind fun x δ => (ev b δ).bind fun y δ => (lift (cmpR δ o x y) δ).bind fun t δ =>
      if t then (ev c δ).bind fun z δ => (lift (cmpR δ p y z) δ).bind fun t δ => .ok (.d (.bl t)) δ else .ok (.d (.bl false)) δ
  | .and a b, δ => (ev a δ).bind fun x δ => (lift (asBl x) δ).bind fun t δ => if t then (ev b δ).bind fun y δ => (lift (asBl y) δ).bind fun u δ => .ok (.d (.bl u)) δ else .ok (.d (.bl false)) δ
  | .or a b, δ => (ev a δ).bind fun x δ => (lift (asBl x) δ).bind fun t δ => if t then .ok (.d (.bl true)) δ else (ev b δ).bind fun y δ => (lift (asBl y) δ).bind fun u δ => .ok (.d (.bl u)) δ
  | .ifx c a b, δ => (ev c δ).bind fun x δ => (lift (asBl x) δ).bind fun t δ => if t then ev a δ else ev b δ
  | .idx a b, δ => (ev a δ).bind fun x δ => (ev b δ).bind fun y δ => (lift (idxR δ x y) δ).bind fun z δ => .ok (.d z) δ
  | .sl a lo hi, δ => (ev a δ).bind fun x δ => (ev lo δ).bind fun l δ => (lift (asBnd (nonE lo) l) δ).bind fun l δ => (ev hi δ).bind fun h δ => (lift (asBnd (nonE hi) h) δ).bind fun h δ => (lift (slR δ x l h) δ).bind fun z δ => .ok (.d z) δ
  | .rev a, δ => (ev a δ).bind fun x δ => (lift (revR δ x) δ).bind fun z δ => .ok (.d z) δ
  | .call k es, δ => (evs es δ).bind fun rs δ => (callR T k rs δ).bind fun r δ => (lift r.dat δ).bind fun z δ => .ok (.d z) δ
  | .blt b es, δ => (evs es δ).bind fun rs δ => (lift (bltR δ b rs) δ).bind fun z δ => .ok (.d z) δ
  | .mth m o es, δ => (ev o δ).bind fun x δ => if isLR δ x then (evs es δ).bind fun rs δ => (lift (mthR δ m x rs) δ).bind fun z δ => .ok (.d z) δ else .no
  | .m1 o a b, δ => (ev a δ).bind fun x δ => if m1ok δ o x then (ev b δ).bind fun y δ => (lift (m1R δ o x y) δ).bind fun z δ => .ok (.d z) δ else .no
  | .nin a, δ => (ev a δ).bind fun x δ => (lift (ninR δ x) δ).bind fun z δ => .ok (.d z) δ
  | .cget kvs a, δ => (ev a δ).bind fun x δ => (lift (cgetR kvs x) δ).bind fun z δ => .ok (.d z) δ
  | .gidx _ kvs a, δ => (ev a δ).bind fun x δ => (lift (gidxR kvs x) δ).bind fun z δ => .ok (.d z) δ
  | .lrng it, δ => (evi it δ).bind fun xs δ => .ok (.d (.lst xs)) δ
  | .trng it, δ => (evi it δ).bind fun xs δ => .ok (.d (.tup xs)) δ
  | .tryc _ ws k es, δ => tryO ws ((evs es δ).bind fun rs δ => callR T k rs δ)
  | .ext o a, δ => extR o (ev a δ)
  | .fld f i, δ => (lift (fldR δ f i) δ).bind fun z δ => .ok (.d z) δ
  | .plen i, δ => (lift (plenR δ i) δ).bind fun z δ => .ok (.d z) δ
  | .pemp i, δ => (lift (pempR δ i) δ).bind fun z δ => .ok (.d z) δ
  | .pmost i, δ => (lift (pmostR δ i) δ).bind fun z δ => .ok (.d z) δ
  | .isply i, δ => (lift (isplyR δ i) δ).bind fun z δ => .ok (.d z) δ
  | .cmost, δ => .ok (.d (.int 60)) δ
  | .plist i, δ => (lift (plistR δ i) δ).bind fun z δ => .ok (.d z) δ
  | .mcall k i es, δ => if isPly δ i then (evs es δ).bind fun rs δ => (callR T k (.own i :: rs) δ).bind fun r δ => (lift r.dat δ).bind fun z δ => .ok (.d z) δ else .no
  | .play0 k i, δ => if isPly δ i then (callR T k [.own i, .d (.int 1)] δ).bind fun r δ => (lift r.dat δ).bind fun z δ => .ok (.d z) δ else .no
  | .prop k i, δ => if isPly δ i then (callR T k [.own i] δ).noex.bind fun r δ => (lift r.dat δ).bind fun z δ => .ok (.d z) δ else .no
  | .olen k i, δ => if isPly δ i then (callR T k [.own i] δ).noex.bind fun r δ => (lift (rtI r) δ).bind fun z δ => .ok (.d z) δ else .no
  | .obool k i, δ => if isPly δ i then (callR T k [.own i] δ).noex.bind fun r δ => (lift (rtB r) δ).bind fun z δ => .ok (.d (.bl z)) δ else .no
  | .oin k a i, δ => (ev a δ).bind fun x δ => if isPly δ i then (callR T k [.own i, x] δ).noex.bind fun r δ => (lift (rtB r) δ).bind fun z δ => .ok (.d (.bl z)) δ else .no
  | .oeq k i a, δ => if isPly δ i then (ev a δ).bind fun x δ => if isPly δ i && eqArg δ x then (callR T k [.own i, x] δ).noex.bind fun r δ => (lift (rtB r) δ).bind fun z δ => .ok (.d (.bl z)) δ else .no else .no
  | .one k i a, δ => if isPly δ i then (ev a δ).bind fun x δ => if isPly δ i && eqArg δ x then (callR T k [.own i, x] δ).noex.bind fun r δ => (lift (rtB r) δ).bind fun z δ => .ok (.d (.bl (!z))) δ else .no else .no
  | .srt es, δ => (evs es δ).bind fun rs δ => (lift (bltR δ .sset rs) δ).bind fun z δ => .ok (.d z) δ
  | .comp vs tg it elt, δ => (evi it δ).bind fun xs δ => if vs.all (notOwn δ) = true ∧ xs.length ≤ big then
      (compL (fun x δ' => (lift (bindC tg x (wipeE δ' vs)) δ').bind fun δ1 _ => (ev elt δ1).bind fun y δ2 => (lift (asD y) δ2).bind fun y δ => .ok (some y) δ) xs [] δ).bind fun ys δ' => .ok (.d (.lst ys)) (restE δ δ' vs) else .no
  | .compc vs tg it c elt, δ => (evi it δ).bind fun xs δ => if vs.all (notOwn δ) = true ∧ xs.length ≤ big then
      (compL (fun x δ' => (lift (bindC tg x (wipeE δ' vs)) δ').bind fun δ1 _ => (ev c δ1).bind fun t δ2 => (lift (asBl t) δ2).bind fun t δ2 =>
        if t then (ev elt δ2).bind fun y δ3 => (lift (asD y) δ3).bind fun y δ => .ok (some y) δ else .ok none δ2) xs [] δ).bind fun ys δ' => .ok (.d (.lst ys)) (restE δ δ' vs) else .no
  | _, _ => .no
/-- a row of expressions -/
def evs : E → Env → Out Env (List RV)
  | .nil, δ => .ok [] δ
  | .cons e es, δ => (ev e δ).bind fun r δ => (evs es δ).bind fun rs δ => .ok (r :: rs) δ
  | _, _ => .no
/-- what a loop walks -/
def evi : E → Env → Out Env (List D)
  | .rng1 a, δ => (ev a δ).bind fun x δ => lift (rg1R x) δ
  | .rng2 a b, δ => (ev a δ).bind fun x δ => (ev b δ).bind fun y δ => lift (rg2R x y) δ
  | .enm a, δ => (ev a δ).bind fun x δ => lift (enmR x) δ
  | .itr a, δ => (ev a δ).bind fun x δ => lift (itR x) δ
  | _, _ => .no
end

/-! ### new objects; what is handed back -/
def evF : E → Env → Out Env Ob
  | .lst es, δ => (evs T es δ).bind fun rs δ => (lift (datas rs) δ).bind fun ds δ => .ok (.lst ds) δ
  | .dnew, δ => .ok (.dct []) δ
  | .call k es, δ => (evs T es δ).bind fun rs δ => (callR T k rs δ).bind fun r δ => match r with
    | .fr o => .ok o δ
    | _ => .no
  | _, _ => .no
/-- x in return x: an object of one's own goes -/
def rtR (δ : Env) : RV → Option Rt
  | .d x => some (.d x)
  | .own i => match δ[i]? with
    | some (.ow false o) => some (.fr o)
    | _ => none
/-- the items of a returned tuple may be objects of one's own -/
def mine (δ : Env) : List RV → Bool
  | [] => true
  | .own i :: rs => (match δ[i]? with
    | some (.ow false (.lst _)) => true
    | _ => false) && mine δ rs
  | _ :: rs => mine δ rs
def evR : E → Env → Out Env Rt
  | .lst es, δ => (evs T es δ).bind fun rs δ => (lift (datas rs) δ).bind fun ds δ => .ok (.fr (.lst ds)) δ
  | .tup es, δ => (evs T es δ).bind fun rs δ => if mine δ rs then (lift (vals δ rs) δ).bind fun ds δ => .ok (.d (.tup ds)) δ else .no
  | .call k es, δ => (evs T es δ).bind fun rs δ => callR T k rs δ
  | e, δ => (ev T e δ).bind fun x δ => lift (rtR δ x) δ
def ownL (δ : Env) (i : Nat) : Bool := match δ[i]? with
  | some (.ow _ (.lst _)) => true
  | _ => false
def appR (δ : Env) (i : Nat) (y : D) : Option Env := match δ[i]? with
  | some (.ow p (.lst xs)) => if xs.length < big then some (δ.set i (.ow p (.lst (xs ++ [y])))) else none
  | _ => none
def setIR (δ : Env) (i : Nat) (k y : D) : Option Env := match δ[i]? with
  | some (.ow p (.lst xs)) => (match k with
    | .int j => if 0 ≤ j ∧ j < xs.length then some (δ.set i (.ow p (.lst (xs.set j.toNat y)))) else none
    | _ => none)
  | some (.ow p (.dct kvs)) => if k.key = true ∧ kvs.length < big then some (δ.set i (.ow p (.dct (dput k y kvs)))) else none
  | _ => none

/-! ### statements -/
def loopW (c : Env → Out Env Bool) (b : Env → Out Env Fl) : Nat → Env → Out Env Fl
  | 0, _ => .no
  | n + 1, δ => (c δ).bind fun t δ => if t then (b δ).bind fun f δ => (match f with
      | .nx => loopW c b n δ
      | .ct => loopW c b n δ
      | .bk => .ok .nx δ
      | .rt r => .ok (.rt r) δ) else .ok .nx δ
def loopF (g : D → Env → Option Env) (b : Env → Out Env Fl) : List D → Env → Out Env Fl
  | [], δ => .ok .nx δ
  | x :: xs, δ => (lift (g x δ) δ).bind fun δ _ => (b δ).bind fun f δ => (match f with
      | .nx => loopF g b xs δ
      | .ct => loopF g b xs δ
      | .bk => .ok .nx δ
      | .rt r => .ok (.rt r) δ)
def evB (c : E) (δ : Env) : Out Env Bool := (ev T c δ).bind fun x δ => lift (asBl x) δ
/-- a clause for an exception -/
def exh (hs : List (Str × Hk)) (c : Exn) (δ : Env) : Out Env Fl := match hs.lookup c.c with
  | none => .ex c δ
  | some (.set i t) => (lift (setRo δ i (.str t)) δ).bind fun δ _ => .ok .nx δ
  | some (.setS i n t f) => (match c.pl with
    | some (g, v) => if g = f ∧ n < δ.length then (lift ((bltv .str [.int v]).bind fun z => binv .add (.str t) z) δ).bind fun z δ => (lift (setRo (δ.set n .no) i z) δ).bind fun δ _ => .ok .nx (δ.set n .no) else .no
    | none => .no)
  | some (.retV j) => (match δ[j]? with
    | some (.ro d) => .ok (.rt (.d d)) δ
    | _ => .no)
  | some (.retF n f) => (match c.pl with
    | some (g, v) => if g = f ∧ n < δ.length then .ok (.rt (.d (.int v))) (δ.set n .no) else .no
    | none => .no)
def exs : S → Env → Out Env Fl
  | .skip, δ => .ok .nx δ
  | .pset i e, δ => (ev T e δ).bind fun x δ => (lift (asD x) δ).bind fun x δ => (lift (psetR δ i x) δ).bind fun δ _ => .ok .nx δ
  | .ppush i, δ => (lift (ppushR δ i) δ).bind fun δ _ => .ok .nx δ
  | .ppop i, δ => (lift (ppopR δ i) δ).bind fun δ _ => .ok .nx δ
  | .asgN i k es, δ => (evs T es δ).bind fun rs δ => (lift (datas rs) δ).bind fun ds δ => (makeR T k ds δ).bind fun o δ => if free δ i then .ok .nx (δ.set i (.ow false o)) else .no
  | .asgN1 i j k es, δ => (evs T es δ).bind fun rs δ => (lift (datas rs) δ).bind fun ds δ => (makeR T k ds δ).bind fun o δ =>
      if free δ i = true ∧ i ≠ j then (lift (setRo (δ.set i (.ow false o)) j (.lst [.tup [.non, .tup []]])) δ).bind fun δ _ => .ok .nx δ else .no
  | .asgN2 i j k r n, δ => match δ[r]?, δ[n]? with
    | some (.ro x), some (.ro y) => (makeR T k [x, y] δ).bind fun o δ => if free δ i = true ∧ free δ j = true ∧ i ≠ j then .ok .nx ((δ.set i (.ow false o)).set j (.ow false o)) else .no
    | _, _ => .no
  | .tryM b hs, δ => match exs b δ with
    | .ex c δ => exh hs c δ
    | r => r
  | .seq a b, δ => (exs a δ).bind fun f δ => match f with
    | .nx => exs b δ
    | f => .ok f δ
  | .asg i e, δ => (ev T e δ).bind fun x δ => (lift (asD x) δ).bind fun x δ => (lift (setRo δ i x) δ).bind fun δ _ => .ok .nx δ
  | .asgO i e, δ => (evF T e δ).bind fun o δ => if free δ i then .ok .nx (δ.set i (.ow false o)) else .no
  | .asgT is e, δ => (ev T e δ).bind fun x δ => (lift (asD x) δ).bind fun x δ => (lift (bindT is x δ) δ).bind fun δ _ => .ok .nx δ
  | .asgP is es, δ => (evs T es δ).bind fun rs δ => (lift (datas rs) δ).bind fun ds δ => (lift (setRos δ is ds) δ).bind fun δ _ => .ok .nx δ
  | .asgH j i k, δ => match δ[k]? with
    | some (.ro d) => if free δ j then (lift (setRo (δ.set j (.ow false (.lst []))) i d) δ).bind fun δ _ => .ok .nx δ else .no
    | _ => .no
  | .asgL is es j, δ => (evs T es δ).bind fun rs δ => (lift (datas rs) δ).bind fun ds δ => (lift (setRos δ is ds) δ).bind fun δ _ => if free δ j then .ok .nx (δ.set j (.ow false (.lst []))) else .no
  | .setI i k e, δ => (ev T e δ).bind fun x δ => (lift (asD x) δ).bind fun x δ => if notOwn δ i then .no else (ev T k δ).bind fun k δ => (lift (asD k) δ).bind fun k δ => (lift (setIR δ i k x) δ).bind fun δ _ => .ok .nx δ
  | .app i e, δ => if ownL δ i then (ev T e δ).bind fun x δ => (lift (asD x) δ).bind fun x δ => (lift (appR δ i x) δ).bind fun δ _ => .ok .nx δ else .no
  | .drop e, δ => (ev T e δ).bind fun _ δ => .ok .nx δ
  | .ret e, δ => (evR T e δ).bind fun r δ => .ok (.rt r) δ
  | .ite c a b, δ => (evB T c δ).bind fun t δ => if t then exs a δ else exs b δ
  | .whl n c b, δ => loopW (evB T c) (exs b) n δ
  | .for1 i it b, δ => (evi T it δ).bind fun xs δ => loopF (fun x δ => setRo δ i x) (exs b) xs δ
  | .forT is it b, δ => (evi T it δ).bind fun xs δ => loopF (bindT is) (exs b) xs δ
  | .rais c _, δ => .ex ⟨c, none⟩ δ
  | .raisN c f e, δ => (ev T e δ).bind fun x δ => match x with
    | .d (.int i) => .ex ⟨c, some (f, i)⟩ δ
    | _ => .no
  | .tryA i n k es c f, δ => match (evs T es δ).noex with
    | .ok rs δ => (match callR T k rs δ with
      | .ok (.d x) δ => (lift (setRo δ i x) δ).bind fun δ _ => .ok .nx δ
      | .ex e δ => (match e.pl with
        | some (g, v) => if e.c = c ∧ g = f ∧ n < δ.length then (lift (setRo (δ.set n .no) i (.int v)) δ).bind fun δ _ => .ok .nx (δ.set n .no) else .no
        | none => .no)
      | _ => .no)
    | _ => .no
  | .brk, δ => .ok .bk δ
  | .cnt, δ => .ok .ct δ
/-- what the caller's objects hold behind the call -/
def outs : List Sl → Env → Option (List Sl)
  | [], _ => some []
  | .ow _ _ :: as, .ow true o :: δ => (outs as δ).map (.ow true o :: ·)
  | .ow _ _ :: _, _ => none
  | a :: as, _ :: δ => (outs as δ).map (a :: ·)
  | _ :: _, [] => none
def argB : Sl → Bool
  | .ro _ => true
  | .ow b _ => b
  | .no => false
def run (n : Nat) (b : S) : Fn := fun as => if as.all argB = true ∧ as.length ≤ n then
  let δ := as ++ List.replicate (n - as.length) .no
  match exs T b δ with
  | .ok f δ => (match f, outs as δ with
    | .nx, some os => .ok (.d .non) os
    | .rt r, some os => .ok r os
    | _, _ => .no)
  | .ex c δ => (match outs as δ with
    | some os => .ex c os
    | none => .no)
  | .no => .no else .no
/-- the checks of __init__(self, ..), ahead of its stores -/
def runI (n : Nat) (b : S) : Fn := fun as => match exs T b (.no :: as ++ List.replicate (n - as.length - 1) .no) with
  | .ok .nx _ => .ok (.d .non) as
  | .ex c _ => .ex c as
  | _ => .no
end
end G
/-! G.Rep: how plain data stand in the layer's heap; slots against slots. -/
namespace G
open PySem L2

/-! ### data in a heap -/
/-- a class by its name -/
def clsA (K : PySem.W.Frag) (c : Str) : Option Addr := match PySem.W.nsIn K mainGlobals c with
  | some (some (.ref C)) => some C
  | _ => none
/-- an error object at a, not raised: of a class without a field of its own; of one that keeps an int -/
def ErrO (H : Hp) (c : Str) (C a : Addr) : Option Int → Prop
  | none => H a = some (ExO (.ref C) a)
  | some i => ∃ (f : Str) (dx : Addr), exnF c = some f ∧ H a = some (exo a C (some dx)) ∧ H dx = some (exd dx [(f, V.int i)])
mutual
def Rep (K : PySem.W.Frag) (H : Hp) : D → V → Prop
  | .non, v => v = .non
  | .bl b, v => v = .bl b
  | .int i, v => v = .int i
  | .str s, v => v = .str s
  | .tup xs, v => ∃ a vs, v = .ref a ∧ SqT K H a vs ∧ Reps K H xs vs
  | .lst xs, v => ∃ a vs, v = .ref a ∧ H a = some (.lst vs) ∧ Reps K H xs vs
  | .frz xs, v => ∃ a vs, v = .ref a ∧ SqL K H a vs ∧ Reps K H xs vs
  | .err c i, v => ∃ a C, v = .ref a ∧ clsA K c = some C ∧ ErrO H c C a i
def Reps (K : PySem.W.Frag) (H : Hp) : List D → List V → Prop
  | [], vs => vs = []
  | x :: xs, vs => ∃ v r, vs = v :: r ∧ Rep K H x v ∧ Reps K H xs r
end
section
variable {K : PySem.W.Frag} {H H' : Hp}
theorem Same.sqT {a : Addr} {xs : List V} (e : Same H H') (h : SqT K H a xs) : SqT K H' a xs := by
  rcases h with (h | ⟨o, h⟩) | h
  · exact .inl (.inl (e _ _ h))
  · exact .inl (.inr ⟨o, e _ _ h⟩)
  · exact .inr h
theorem ErrO.mono (e : Same H H') {c : Str} {C a : Addr} : ∀ {i : Option Int}, ErrO H c C a i → ErrO H' c C a i
  | none, h => e _ _ h
  | some _, ⟨f, dx, h1, h2, h3⟩ => ⟨f, dx, h1, e _ _ h2, e _ _ h3⟩
mutual
theorem Rep.mono (e : Same H H') : ∀ (d : D) (v : V), Rep K H d v → Rep K H' d v
  | .non, _, h => by simpa only [Rep] using h
  | .bl _, _, h => by simpa only [Rep] using h
  | .int _, _, h => by simpa only [Rep] using h
  | .str _, _, h => by simpa only [Rep] using h
  | .tup xs, v, h => by
    simp only [Rep] at h ⊢
    obtain ⟨a, vs, rfl, h1, h2⟩ := h
    exact ⟨a, vs, rfl, Same.sqT e h1, Reps.mono e xs vs h2⟩
  | .lst xs, v, h => by
    simp only [Rep] at h ⊢
    obtain ⟨a, vs, rfl, h1, h2⟩ := h
    exact ⟨a, vs, rfl, e _ _ h1, Reps.mono e xs vs h2⟩
  | .frz xs, v, h => by
    simp only [Rep] at h ⊢
    obtain ⟨a, vs, rfl, h1, h2⟩ := h
    exact ⟨a, vs, rfl, Same.seq e h1, Reps.mono e xs vs h2⟩
  | .err c i, v, h => by
    simp only [Rep] at h ⊢
    obtain ⟨a, C, rfl, h1, h2⟩ := h
    exact ⟨a, C, rfl, h1, h2.mono e⟩
theorem Reps.mono (e : Same H H') : ∀ (ds : List D) (vs : List V), Reps K H ds vs → Reps K H' ds vs
  | [], _, h => by simpa only [Reps] using h
  | x :: xs, vs, h => by
    simp only [Reps] at h ⊢
    obtain ⟨v, r, rfl, h1, h2⟩ := h
    exact ⟨v, r, rfl, Rep.mono e x v h1, Reps.mono e xs r h2⟩
end
theorem Reps.length : ∀ {ds : List D} {vs : List V}, Reps K H ds vs → vs.length = ds.length
  | [], _, h => by simp only [Reps] at h; rw [h]; rfl
  | x :: xs, vs, h => by
    simp only [Reps] at h
    obtain ⟨v, r, rfl, _, h2⟩ := h
    simp [Reps.length h2]
theorem Reps.nil : Reps K H [] [] := by simp only [Reps]
theorem Reps.cons {d : D} {v : V} {ds : List D} {vs : List V} (h : Rep K H d v) (r : Reps K H ds vs) : Reps K H (d :: ds) (v :: vs) := by
  simp only [Reps]
  exact ⟨v, vs, rfl, h, r⟩
theorem Reps.append : ∀ {ds es : List D} {vs us : List V}, Reps K H ds vs → Reps K H es us → Reps K H (ds ++ es) (vs ++ us)
  | [], _, _, _, h, g => by simp only [Reps] at h; subst h; exact g
  | x :: xs, _, vs, _, h, g => by
    simp only [Reps] at h
    obtain ⟨v, r, rfl, h1, h2⟩ := h
    exact Reps.cons h1 (Reps.append h2 g)
theorem Reps.get : ∀ {ds : List D} {vs : List V} {i : Nat} {d : D}, Reps K H ds vs → ds[i]? = some d → ∃ v, vs[i]? = some v ∧ Rep K H d v
  | [], _, _, _, _, e => by simp at e
  | x :: xs, vs, 0, d, h, e => by
    simp only [Reps] at h
    obtain ⟨v, r, rfl, h1, h2⟩ := h
    have e' : x = d := by simpa using e
    subst e'
    exact ⟨v, rfl, h1⟩
  | x :: xs, vs, i + 1, d, h, e => by
    simp only [Reps] at h
    obtain ⟨v, r, rfl, h1, h2⟩ := h
    obtain ⟨u, h3, h4⟩ := Reps.get (i := i) h2 (by simpa using e)
    exact ⟨u, by simpa using h3, h4⟩
theorem Reps.getV : ∀ {ds : List D} {vs : List V} {i : Nat} {v : V}, Reps K H ds vs → vs[i]? = some v → ∃ d, ds[i]? = some d ∧ Rep K H d v
  | [], _, _, _, h, e => by simp only [Reps] at h; subst h; simp at e
  | x :: xs, vs, 0, d, h, e => by
    simp only [Reps] at h
    obtain ⟨v, r, rfl, h1, h2⟩ := h
    have e' : v = d := by simpa using e
    subst e'
    exact ⟨x, rfl, h1⟩
  | x :: xs, vs, i + 1, d, h, e => by
    simp only [Reps] at h
    obtain ⟨v, r, rfl, h1, h2⟩ := h
    obtain ⟨u, h3, h4⟩ := Reps.getV (i := i) h2 (by simpa using e)
    exact ⟨u, by simpa using h3, h4⟩
theorem Reps.drop : ∀ {ds : List D} {vs : List V} (n : Nat), Reps K H ds vs → Reps K H (ds.drop n) (vs.drop n)
  | _, _, 0, h => h
  | [], _, n + 1, h => by simp only [Reps] at h; subst h; exact Reps.nil
  | x :: xs, vs, n + 1, h => by
    simp only [Reps] at h
    obtain ⟨v, r, rfl, h1, h2⟩ := h
    exact Reps.drop n h2
theorem Reps.take : ∀ {ds : List D} {vs : List V} (n : Nat), Reps K H ds vs → Reps K H (ds.take n) (vs.take n)
  | _, _, 0, h => Reps.nil
  | [], _, n + 1, h => by simp only [Reps] at h; subst h; exact Reps.nil
  | x :: xs, vs, n + 1, h => by
    simp only [Reps] at h
    obtain ⟨v, r, rfl, h1, h2⟩ := h
    exact Reps.cons h1 (Reps.take n h2)
theorem Reps.set : ∀ {ds : List D} {vs : List V} (n : Nat) {d : D} {v : V}, Reps K H ds vs → Rep K H d v → Reps K H (ds.set n d) (vs.set n v)
  | [], _, n, _, _, h, _ => by simp only [Reps] at h; subst h; exact Reps.nil
  | x :: xs, vs, 0, _, _, h, g => by
    simp only [Reps] at h
    obtain ⟨v, r, rfl, h1, h2⟩ := h
    exact Reps.cons g h2
  | x :: xs, vs, n + 1, _, _, h, g => by
    simp only [Reps] at h
    obtain ⟨v, r, rfl, h1, h2⟩ := h
    exact Reps.cons h1 (Reps.set n h2 g)
theorem Reps.reverse : ∀ {ds : List D} {vs : List V}, Reps K H ds vs → Reps K H ds.reverse vs.reverse
  | [], _, h => by simp only [Reps] at h; subst h; exact Reps.nil
  | x :: xs, vs, h => by
    simp only [Reps] at h
    obtain ⟨v, r, rfl, h1, h2⟩ := h
    rw [List.reverse_cons, List.reverse_cons]
    exact Reps.append (Reps.reverse h2) (Reps.cons h1 Reps.nil)
theorem Reps.rep {ds : List D} {vs : List V} (h : Reps K H ds vs) : ∀ n : Nat, Reps K H (List.replicate n ds).flatten (List.replicate n vs).flatten
  | 0 => Reps.nil
  | n + 1 => by
    rw [List.replicate_succ, List.replicate_succ, List.flatten_cons, List.flatten_cons]
    exact Reps.append h (Reps.rep h n)
theorem Reps.cut {ds : List D} {vs : List V} (h : Reps K H ds vs) (lo hi : Option Int) : Reps K H (cut ds lo hi) (cutV vs lo hi) := by
  have e : ∀ n d x, bnd n d x = HT.sIx n d x := fun n d x => by cases x <;> rfl
  unfold G.cut cutV
  rw [h.length, e, e]
  exact (h.drop _).take _
theorem Rep.flatV : ∀ {d : D} {v : V}, Rep K H d v → d.flat = true → L2.flatV v = true
  | .non, _, h, _ => by simp only [Rep] at h; subst h; rfl
  | .bl _, _, h, _ => by simp only [Rep] at h; subst h; rfl
  | .int _, _, h, _ => by simp only [Rep] at h; subst h; rfl
  | .str _, _, h, _ => by simp only [Rep] at h; subst h; rfl
  | .tup _, _, _, e => by cases e
  | .lst _, _, _, e => by cases e
  | .frz _, _, _, e => by cases e
  | .err _ _, _, _, e => by cases e
theorem Rep.eqV : ∀ {d e : D} {v u : V}, Rep K H d v → Rep K H e u → d.flat = true → e.flat = true → L2.eqV v u = D.eq d e
  | .non, e, _, _, h, g, _, f => by cases e <;> simp only [Rep, D.flat] at h g f <;> first | (subst h; subst g; simp [L2.eqV, D.eq]; done) | (subst h; subst g; rfl) | cases f
  | .bl _, e, _, _, h, g, _, f => by cases e <;> simp only [Rep, D.flat] at h g f <;> first | (subst h; subst g; simp [L2.eqV, D.eq]; done) | (subst h; subst g; rfl) | cases f
  | .int _, e, _, _, h, g, _, f => by cases e <;> simp only [Rep, D.flat] at h g f <;> first | (subst h; subst g; simp [L2.eqV, D.eq]; done) | (subst h; subst g; rfl) | cases f
  | .str _, e, _, _, h, g, _, f => by cases e <;> simp only [Rep, D.flat] at h g f <;> first | (subst h; subst g; simp [L2.eqV, D.eq]; done) | (subst h; subst g; rfl) | cases f
  | .tup _, _, _, _, _, _, e, _ => by cases e
  | .lst _, _, _, _, _, _, e, _ => by cases e
  | .frz _, _, _, _, _, _, e, _ => by cases e
  | .err _ _, _, _, _, _, _, e, _ => by cases e
theorem Reps.flatV : ∀ {ds : List D} {vs : List V}, Reps K H ds vs → ds.all D.flat = true → vs.all L2.flatV = true
  | [], _, h, _ => by simp only [Reps] at h; subst h; rfl
  | x :: xs, vs, h, e => by
    simp only [Reps] at h
    obtain ⟨v, r, rfl, h1, h2⟩ := h
    rw [List.all_cons, Bool.and_eq_true] at e ⊢
    exact ⟨Rep.flatV h1 e.1, Reps.flatV h2 e.2⟩
theorem Reps.inV {d : D} {v : V} (hv : Rep K H d v) (hd : d.flat = true) : ∀ {ds : List D} {vs : List V}, Reps K H ds vs → ds.all D.flat = true → L2.inV v vs = ds.any fun z => D.eq z d
  | [], _, h, _ => by simp only [Reps] at h; subst h; rfl
  | x :: xs, vs, h, e => by
    simp only [Reps] at h
    obtain ⟨w, r, rfl, h1, h2⟩ := h
    rw [List.all_cons, Bool.and_eq_true] at e
    have ih := Reps.inV hv hd h2 e.2
    unfold L2.inV at ih ⊢
    rw [List.any_cons, List.any_cons, ih, Rep.eqV h1 hv e.1 hd]
/-! data to the layer's data -/
mutual
theorem Rep.dp : ∀ (d : D) (v : V) (n : Nat), d.shp n = true → Rep K H d v → Dp K H v d.toPy
  | .non, _, _, _, h => by simp only [Rep] at h; subst h; exact .non
  | .bl _, _, _, _, h => by simp only [Rep] at h; subst h; exact .bl _
  | .int _, _, _, _, h => by simp only [Rep] at h; subst h; exact .int _
  | .str _, _, _, _, h => by simp only [Rep] at h; subst h; exact .str _
  | .tup xs, v, 0, s, h => by simp [D.shp] at s
  | .tup xs, v, n + 1, s, h => by
    simp only [Rep] at h
    obtain ⟨a, vs, rfl, h1, h2⟩ := h
    exact .tup h1 (Reps.dp xs vs n (by simpa only [D.shp] using s) h2)
  | .lst xs, v, 0, s, h => by simp [D.shp] at s
  | .lst xs, v, n + 1, s, h => by
    simp only [Rep] at h
    obtain ⟨a, vs, rfl, h1, h2⟩ := h
    exact .lst (SqL.of h1) (Reps.dp xs vs n (by simpa only [D.shp] using s) h2)
  | .frz xs, v, n, s, h => by cases n <;> simp [D.shp] at s
  | .err c i, v, n, s, h => by cases n <;> simp [D.shp] at s
theorem Reps.dp : ∀ (ds : List D) (vs : List V) (n : Nat), D.shps n ds = true → Reps K H ds vs → DpAll K H vs (D.toPys ds)
  | [], _, _, _, h => by simp only [Reps] at h; subst h; exact .nil
  | x :: xs, vs, n, s, h => by
    simp only [Reps] at h
    obtain ⟨v, r, rfl, h1, h2⟩ := h
    rw [D.shps, Bool.and_eq_true] at s
    exact .cons (Rep.dp x v n s.1 h1) (Reps.dp xs r n s.2 h2)
end
end
mutual
theorem eq_py : ∀ (a b : D) (n m : Nat), a.shp n = true → b.shp m = true → PyData.eqv a.toPy b.toPy = D.eq a b
  | .non, b, n, m, _, h => by cases b <;> first | (simp [D.toPy, D.eq, PyData.eqv]; done) | (cases m <;> simp [D.shp] at h)
  | .bl _, b, n, m, _, h => by cases b <;> first | (simp [D.toPy, D.eq, PyData.eqv]; done) | (cases m <;> simp [D.shp] at h)
  | .int _, b, n, m, _, h => by cases b <;> first | (simp [D.toPy, D.eq, PyData.eqv]; done) | (cases m <;> simp [D.shp] at h)
  | .str _, b, n, m, _, h => by
    cases b with
    | str y =>
      simp only [D.toPy, D.eq, PyData.eqv]
      rw [Bool.eq_iff_iff]
      simp
    | frz ys => cases m <;> simp [D.shp] at h
    | err c i => cases m <;> simp [D.shp] at h
    | _ => simp [D.toPy, D.eq, PyData.eqv]
  | .frz _, b, n, _, h, _ => by cases n <;> simp [D.shp] at h
  | .err _ _, b, n, _, h, _ => by cases n <;> simp [D.shp] at h
  | .tup xs, b, n, m, h, h' => by
    cases n with
    | zero => simp [D.shp] at h
    | succ n =>
      cases b with
      | tup ys =>
        cases m with
        | zero => simp [D.shp] at h'
        | succ m =>
          rw [D.shp] at h h'
          simp only [D.toPy, D.eq, PyData.eqv]
          exact eqs_py xs ys n m h h'
      | frz ys => cases m <;> simp [D.shp] at h'
      | err c i => cases m <;> simp [D.shp] at h'
      | _ => simp [D.toPy, D.eq, PyData.eqv]
  | .lst xs, b, n, m, h, h' => by
    cases n with
    | zero => simp [D.shp] at h
    | succ n =>
      cases b with
      | lst ys =>
        cases m with
        | zero => simp [D.shp] at h'
        | succ m =>
          rw [D.shp] at h h'
          simp only [D.toPy, D.eq, PyData.eqv]
          exact eqs_py xs ys n m h h'
      | frz ys => cases m <;> simp [D.shp] at h'
      | err c i => cases m <;> simp [D.shp] at h'
      | _ => simp [D.toPy, D.eq, PyData.eqv]
theorem eqs_py : ∀ (a b : List D) (n m : Nat), D.shps n a = true → D.shps m b = true → PyData.eqvAll (D.toPys a) (D.toPys b) = D.eqs a b
  | [], [], _, _, _, _ => by simp [D.toPys, D.eqs, PyData.eqvAll]
  | [], _ :: _, _, _, _, _ => by simp [D.toPys, D.eqs, PyData.eqvAll]
  | _ :: _, [], _, _, _, _ => by simp [D.toPys, D.eqs, PyData.eqvAll]
  | x :: xs, y :: ys, n, m, h, h' => by
    rw [D.shps, Bool.and_eq_true] at h h'
    simp only [D.toPys, D.eqs, PyData.eqvAll]
    rw [eq_py x y n m h.1 h'.1, eqs_py xs ys n m h.2 h'.2]
end
mutual
theorem lay_of : ∀ (d : D) (n : Nat), d.shp n = true → d.toPy.canLay0 = true ∧ d.toPy.depth ≤ n + 1
  | .non, n, _ => by simp [D.toPy, PyData.canLay0, PyData.depth]
  | .bl _, n, _ => by simp [D.toPy, PyData.canLay0, PyData.depth]
  | .int _, n, _ => by simp [D.toPy, PyData.canLay0, PyData.depth]
  | .str x, n, h => by
    have h' : x.cps.all (· < 0x110000) = true := by cases n <;> simpa only [D.shp] using h
    exact ⟨by simp only [D.toPy, PyData.canLay0, PyData.strOk]; exact h', by simp [D.toPy, PyData.depth]⟩
  | .frz _, n, h => by cases n <;> simp [D.shp] at h
  | .err _ _, n, h => by cases n <;> simp [D.shp] at h
  | .tup xs, n, h => by
    cases n with
    | zero => simp [D.shp] at h
    | succ n =>
      rw [D.shp] at h
      have q := lays_of xs n h
      simp only [D.toPy, PyData.canLay0, PyData.depth]
      exact ⟨q.1, by omega⟩
  | .lst xs, n, h => by
    cases n with
    | zero => simp [D.shp] at h
    | succ n =>
      rw [D.shp] at h
      have q := lays_of xs n h
      simp only [D.toPy, PyData.canLay0, PyData.depth]
      exact ⟨q.1, by omega⟩
theorem lays_of : ∀ (ds : List D) (n : Nat), D.shps n ds = true → PyData.canLayAll0 (D.toPys ds) = true ∧ PyData.depthAll (D.toPys ds) ≤ n + 1
  | [], _, _ => by simp [D.toPys, PyData.canLayAll0, PyData.depthAll]
  | x :: xs, n, h => by
    rw [D.shps, Bool.and_eq_true] at h
    have q := lay_of x n h.1
    have r := lays_of xs n h.2
    simp only [D.toPys, PyData.canLayAll0, PyData.depthAll, Bool.and_eq_true]
    exact ⟨⟨q.1, r.1⟩, by omega⟩
end
theorem shaped_of {d : D} (h : d.shp 60 = true) : SeqAt.shaped d.toPy = true := by
  have q := lay_of d 60 h
  unfold SeqAt.shaped
  rw [Bool.and_eq_true, decide_eq_true_eq]
  exact ⟨q.1, by omega⟩

/-! ### objects of one's own, slots -/
/-- the heap without what is at ows -/
def hid (ows : List Addr) (H : Hp) : Hp := fun a => if a ∈ ows then none else H a
theorem hid_same (ows : List Addr) (H : Hp) : Same (hid ows H) H := fun a o h => by
  unfold hid at h
  split at h
  · cases h
  · exact h
theorem hid_of {ows : List Addr} {H : Hp} {a : Addr} {o : HO} (h : H a = some o) (n : a ∉ ows) : hid ows H a = some o := by
  unfold hid
  rw [if_neg n]
  exact h
theorem hid_cons {p : Addr} {ows : List Addr} {H : Hp} : Same (hid (p :: ows) H) (hid ows H) := fun a o h => by
  unfold hid at h ⊢
  split at h
  · cases h
  · rename_i n
    rw [if_neg fun z => n (List.mem_cons_of_mem _ z)]
    exact h
theorem hid_sub {ps ows : List Addr} {H : Hp} (s : ∀ a ∈ ps, a ∈ ows) : Same (hid ows H) (hid ps H) := fun a o h => by
  unfold hid at h ⊢
  split at h
  · cases h
  · rename_i n
    rw [if_neg fun z => n (s a z)]
    exact h
theorem hid_new {ows : List Addr} {H : Hp} {p : Addr} {o : HO} (h : H p = none) : Same (hid ows H) (hid ows (upd H p o)) := fun a u e => by
  unfold hid at e ⊢
  split at e
  · cases e
  · rename_i n
    rw [if_neg n, upd_ne (ne_of_none e h)]
    exact e
end G
/-! G.Dct: dicts whose keys are nested tuples, held by the layer's .ext -/
namespace G
open PySem L2
mutual
def nkey : D → Option NestedKey
  | .non => some .none
  | .bl b => some (.num (if b = true then 1 else 0))
  | .int i => some (.num i)
  | .str s => some (.text s)
  | .tup xs => (nkeys xs).map .tup
  | .lst _ => none
  | .frz _ => none
  | .err _ _ => none
def nkeys : List D → Option (List NestedKey)
  | [] => some []
  | x :: xs => match nkey x, nkeys xs with
    | some k, some ks => some (k :: ks)
    | _, _ => none
end
mutual
theorem deq_beq : ∀ (a b : D) (x y : NestedKey), nkey a = some x → nkey b = some y → D.eq a b = NestedKey.beq x y
  | .non, b, x, y, h, g => by
    cases b <;> simp only [nkey, Option.some.injEq, Option.map_eq_some_iff, reduceCtorEq] at h g <;> first | (subst h; subst g; simp [D.eq, NestedKey.beq]; done) | (subst h; obtain ⟨_, _, rfl⟩ := g; simp [D.eq, NestedKey.beq])
  | .bl c, b, x, y, h, g => by
    cases b <;> simp only [nkey, Option.some.injEq, Option.map_eq_some_iff, reduceCtorEq] at h g <;> first | (subst h; subst g; cases c <;> simp [D.eq, NestedKey.beq]; done) | (rename_i c2; subst h; subst g; cases c <;> cases c2 <;> simp [D.eq, NestedKey.beq]; done) | (rename_i c2; subst h; subst g; cases c <;> simp only [D.eq, NestedKey.beq] <;> rw [Bool.eq_iff_iff] <;> simp; done) | (subst h; obtain ⟨_, _, rfl⟩ := g; simp [D.eq, NestedKey.beq])
  | .int c, b, x, y, h, g => by
    cases b <;> simp only [nkey, Option.some.injEq, Option.map_eq_some_iff, reduceCtorEq] at h g <;> first | (subst h; subst g; simp [D.eq, NestedKey.beq]; done) | (rename_i c2; subst h; subst g; cases c2 <;> simp only [D.eq, NestedKey.beq] <;> rw [Bool.eq_iff_iff] <;> simp; done) | (subst h; subst g; simp only [D.eq, NestedKey.beq]; rw [Bool.eq_iff_iff]; simp; done) | (subst h; obtain ⟨_, _, rfl⟩ := g; simp [D.eq, NestedKey.beq])
  | .str c, b, x, y, h, g => by
    cases b <;> simp only [nkey, Option.some.injEq, Option.map_eq_some_iff, reduceCtorEq] at h g <;> first | (subst h; subst g; simp [D.eq, NestedKey.beq]; done) | (subst h; obtain ⟨_, _, rfl⟩ := g; simp [D.eq, NestedKey.beq])
  | .lst _, _, _, _, h, _ => by simp [nkey] at h
  | .frz _, _, _, _, h, _ => by simp [nkey] at h
  | .err _ _, _, _, _, h, _ => by simp [nkey] at h
  | .tup xs, b, x, y, h, g => by
    simp only [nkey, Option.map_eq_some_iff] at h
    obtain ⟨ks, h1, rfl⟩ := h
    cases b <;> simp only [nkey, Option.some.injEq, Option.map_eq_some_iff, reduceCtorEq] at g
    case tup ys =>
      obtain ⟨ls, g1, rfl⟩ := g
      rw [D.eq, NestedKey.beq]
      exact deqs_beq xs ys ks ls h1 g1
    all_goals (subst g; simp [D.eq, NestedKey.beq])
theorem deqs_beq : ∀ (a b : List D) (x y : List NestedKey), nkeys a = some x → nkeys b = some y → D.eqs a b = NestedKey.beqAll x y
  | [], [], _, _, h, g => by simp only [nkeys, Option.some.injEq] at h g; subst h; subst g; simp [D.eqs, NestedKey.beqAll]
  | [], d :: ds, _, _, h, g => by
    simp only [nkeys, Option.some.injEq] at h g
    subst h
    split at g <;> first | cases g | skip
    simp [D.eqs, NestedKey.beqAll]
  | d :: ds, [], _, _, h, g => by
    simp only [nkeys, Option.some.injEq] at h g
    subst g
    split at h <;> first | cases h | skip
    simp [D.eqs, NestedKey.beqAll]
  | d :: ds, e :: es, _, _, h, g => by
    simp only [nkeys] at h g
    split at h <;> first | cases h | skip
    split at g <;> first | cases g | skip
    rename_i h1 h2 _ _ _ _ g1 g2
    rw [D.eqs, NestedKey.beqAll, deq_beq d e _ _ h1 g1, deqs_beq ds es _ _ h2 g2]
end
theorem deq_key {a b : D} {x y : NestedKey} (h : nkey a = some x) (g : nkey b = some y) : D.eq a b = decide (x = y) := by
  rw [deq_beq a b x y h g, NestedKey.decide_eq]
section
variable {X : Cx} {pins : List (Addr × Obj)} {σ : St} {H : Hp} {s : Shared}
mutual
theorem nested_is (I : Inv X pins σ H s) : ∀ (d : D) (k : NestedKey) (v : V) (u : Value), nkey d = some k → Rep X.K H d v → RelV v u → NestedIs s.heap k u
  | .non, k, v, u, h, r, q => by
    simp only [nkey, Option.some.injEq, Rep] at h r
    subst h; subst r; cases (show u = Value.none from q); exact .none
  | .bl b, k, v, u, h, r, q => by
    simp only [nkey, Option.some.injEq, Rep] at h r
    subst h; subst r; cases (show u = Value.bool b from q); exact .bool rfl
  | .int i, k, v, u, h, r, q => by
    simp only [nkey, Option.some.injEq, Rep] at h r
    subst h; subst r; obtain ⟨t, rfl⟩ := q; exact .int i t
  | .str i, k, v, u, h, r, q => by
    simp only [nkey, Option.some.injEq, Rep] at h r
    subst h; subst r; obtain ⟨t, rfl⟩ := q; exact .text i t
  | .lst _, _, _, _, h, _, _ => by simp [nkey] at h
  | .frz _, _, _, _, h, _, _ => by simp [nkey] at h
  | .err _ _, _, _, _, h, _, _ => by simp [nkey] at h
  | .tup xs, k, v, u, h, r, q => by
    simp only [nkey, Option.map_eq_some_iff, Rep] at h r
    obtain ⟨ks, h1, rfl⟩ := h
    obtain ⟨a, vs, rfl, h2, h3⟩ := r
    cases (show u = Value.ref a from q)
    obtain ⟨its, rv, ⟨o, e, c, n, d⟩, _⟩ := I.tuple h2
    exact .tup e c d (nested_all I xs ks vs its h1 h3 rv)
theorem nested_all (I : Inv X pins σ H s) : ∀ (ds : List D) (ks : List NestedKey) (vs : List V) (us : List Value), nkeys ds = some ks → Reps X.K H ds vs → Vals vs us → NestedAll s.heap ks us
  | [], ks, vs, us, h, r, q => by
    simp only [nkeys, Option.some.injEq, Reps] at h r
    subst h; subst r; cases q; exact .nil
  | d :: ds, ks, vs, us, h, r, q => by
    simp only [nkeys, Reps] at h r
    obtain ⟨v, rs, rfl, r1, r2⟩ := r
    split at h <;> first | cases h | skip
    rename_i h1 h2
    cases q with
    | cons q1 q2 => exact .cons (nested_is I d _ v _ h1 r1 q1) (nested_all I ds _ rs _ h2 r2 q2)
end
end

mutual
theorem keyIn_of : ∀ (d : D) (n : Nat), d.keyIn n = true → ∃ k, nkey d = some k ∧ k.depth ≤ n
  | .non, n, _ => ⟨_, rfl, by simp [NestedKey.depth]⟩
  | .bl _, n, _ => ⟨_, rfl, by simp [NestedKey.depth]⟩
  | .int _, n, _ => ⟨_, rfl, by simp [NestedKey.depth]⟩
  | .str _, n, _ => ⟨_, rfl, by simp [NestedKey.depth]⟩
  | .lst _, n, h => by cases n <;> simp [D.keyIn] at h
  | .frz _, n, h => by cases n <;> simp [D.keyIn] at h
  | .err _ _, n, h => by cases n <;> simp [D.keyIn] at h
  | .tup xs, n, h => by
    cases n with
    | zero => simp [D.keyIn] at h
    | succ n =>
      rw [D.keyIn] at h
      obtain ⟨ks, h1, h2⟩ := keysIn_of xs n h
      exact ⟨.tup ks, by simp only [nkey, h1, Option.map_some], by simp only [NestedKey.depth]; omega⟩
theorem keysIn_of : ∀ (ds : List D) (n : Nat), D.keysIn n ds = true → ∃ ks, nkeys ds = some ks ∧ NestedKey.depthAll ks ≤ n
  | [], n, _ => ⟨[], rfl, by simp [NestedKey.depthAll]⟩
  | d :: ds, n, h => by
    rw [D.keysIn, Bool.and_eq_true] at h
    obtain ⟨k, h1, h2⟩ := keyIn_of d n h.1
    obtain ⟨ks, h3, h4⟩ := keysIn_of ds n h.2
    exact ⟨k :: ks, by simp only [nkeys, h1, h3], by simp only [NestedKey.depthAll]; omega⟩
end
theorem key_of {K : PySem.W.Frag} {H : Hp} {k : D} {v : V} (h : k.key = true) (r : Rep K H k v) : ∃ nk a, nkey k = some nk ∧ nk.depth ≤ 8 ∧ v = .ref a := by
  unfold D.key at h
  rw [Bool.and_eq_true] at h
  obtain ⟨nk, h1, h2⟩ := keyIn_of k 8 h.2
  cases k with
  | tup xs =>
    simp only [Rep] at r
    obtain ⟨a, vs, rfl, _⟩ := r
    exact ⟨nk, a, h1, h2, rfl⟩
  | _ => exact absurd h.1 (by simp [D.isTup])

/-- the dict at p with the entries xs -/
def DctO (P : Program) (w : World) (p : Addr) (xs : List (NestedKey × Addr × Value)) : HO := .ext fun h =>
  ∃ o es ep, h.get? p = some o ∧ o.ExactDict ∧ o.data = .dict es ep ∧ es.toList = xs.map (entryOfKey (nestedKind P w))
/-- an entry of data against an entry of the dict -/
def Ent (K : PySem.W.Frag) (H : Hp) (kv : D × D) (x : NestedKey × Addr × Value) : Prop :=
  nkey kv.1 = some x.1 ∧ x.1.depth ≤ 8 ∧ Rep K H kv.1 (.ref x.2.1) ∧ ∃ u, Rep K H kv.2 u ∧ RelV u x.2.2
def DctAt (P : Program) (w : World) (K : PySem.W.Frag) (H : Hp) (p : Addr) (o : Option HO) (kvs : List (D × D)) : Prop :=
  ∃ xs, o = some (DctO P w p xs) ∧ (p == sysModules) = false ∧ Paired (Ent K H) kvs xs ∧ (xs.map (·.1)).Nodup ∧ kvs.length ≤ 2 * big
theorem Ent.mono {K : PySem.W.Frag} {H H' : Hp} (e : Same H H') {kv : D × D} {x : NestedKey × Addr × Value} (h : Ent K H kv x) : Ent K H' kv x := by
  obtain ⟨h1, h2, h3, u, h4, h5⟩ := h
  exact ⟨h1, h2, h3.mono e, u, h4.mono e, h5⟩
theorem DctAt.mono {P : Program} {w : World} {K : PySem.W.Frag} {H H' : Hp} {p : Addr} {o : Option HO} {kvs : List (D × D)} (e : Same H H') (h : DctAt P w K H p o kvs) : DctAt P w K H' p o kvs := by
  obtain ⟨xs, h1, h2, h3, h4⟩ := h
  exact ⟨xs, h1, h2, Paired.mapP h3 fun _ _ q => q.mono e, h4⟩
theorem ent_get {K : PySem.W.Frag} {H : Hp} {k : D} {nk : NestedKey} (hk : nkey k = some nk) : ∀ {kvs : List (D × D)} {xs : List (NestedKey × Addr × Value)}, Paired (Ent K H) kvs xs →
    (dget k kvs = none ∧ atKey xs nk = none) ∨ ∃ d u a val, dget k kvs = some d ∧ atKey xs nk = some (a, val) ∧ Rep K H d u ∧ RelV u val
  | [], _, .nil => .inl ⟨rfl, rfl⟩
  | kv :: kvs, x :: xs, .cons h r => by
    obtain ⟨h1, h2, h3, u, h4, h5⟩ := h
    have e := deq_key h1 hk
    unfold dget atKey
    rw [List.find?_cons]
    by_cases q : x.1 = nk
    · refine .inr ⟨kv.2, u, x.2.1, x.2.2, ?_, ?_, h4, h5⟩
      · rw [e, if_pos (by simp [q])]
      · simp [q]
    · have ih := ent_get hk r
      unfold atKey at ih
      rw [e, if_neg (by simp [q])]
      simp only [q, decide_false]
      exact ih
theorem ent_put {K : PySem.W.Frag} {H : Hp} {k v : D} {nk : NestedKey} {a : Addr} {u : V} {val : Value} (hk : nkey k = some nk) (hd : nk.depth ≤ 8) (rk : Rep K H k (.ref a)) (rv : Rep K H v u) (r : RelV u val) :
    ∀ {kvs : List (D × D)} {xs : List (NestedKey × Addr × Value)}, Paired (Ent K H) kvs xs → (xs.map (·.1)).Nodup → Paired (Ent K H) (dput k v kvs) (storedH xs nk a val)
  | [], _, .nil, _ => .cons ⟨hk, hd, rk, u, rv, r⟩ .nil
  | kv :: kvs, x :: xs, .cons h rr, nd => by
    obtain ⟨h1, h2, h3, u', h4, h5⟩ := id h
    rw [List.map_cons, List.nodup_cons] at nd
    have e := deq_key h1 hk
    have ih := ent_put hk hd rk rv r rr nd.2
    unfold dput
    by_cases q : x.1 = nk
    · rw [e, if_pos (by simp [q])]
      have hs : storedH (x :: xs) nk a val = (x.1, x.2.1, val) :: xs := by
        rw [storedH_old (p := x.2) (by unfold atKey; simp [q]), List.map_cons]
        congr 1
        · unfold putAt
          rw [if_pos q]
        · refine (List.map_congr_left fun y hy => ?_).trans (List.map_id' xs)
          unfold putAt
          rw [if_neg fun z => nd.1 (by rw [q, ← z]; exact List.mem_map_of_mem hy)]
      rw [hs]
      exact .cons ⟨h1, h2, h3, u, rv, r⟩ rr
    · rw [e, if_neg (by simp [q])]
      have hs : storedH (x :: xs) nk a val = x :: storedH xs nk a val := by
        have q1 : atKey (x :: xs) nk = atKey xs nk := by unfold atKey; rw [List.find?_cons]; simp [q]
        unfold storedH
        rw [q1]
        split
        · rw [List.map_cons]
          congr 1
          unfold putAt
          rw [if_neg q]
        · rfl
      rw [hs]
      exact .cons h ih
theorem stored_nodup {xs : List (NestedKey × Addr × Value)} {nk : NestedKey} {a : Addr} {val : Value} (nd : (xs.map (·.1)).Nodup) : ((storedH xs nk a val).map (·.1)).Nodup := by
  unfold storedH
  split
  · rw [List.map_map]
    have : (fun x : NestedKey × Addr × Value => x.1) ∘ putAt nk val = (·.1) := by
      funext x
      unfold putAt
      simp only [Function.comp]
      split <;> rfl
    rw [this]
    exact nd
  · rename_i h
    rw [List.map_append, List.nodup_append]
    refine ⟨nd, by simp, ?_⟩
    intro y hy z hz e
    have z' : z = nk := by simpa using hz
    subst z'
    obtain ⟨x, hx, hxe⟩ := List.mem_map.mp hy
    apply h
    unfold atKey
    have : (xs.find? fun x => decide (x.1 = z)).isSome := by
      rw [List.find?_isSome]
      exact ⟨x, hx, by simp [hxe, e]⟩
    simpa using this
theorem dput_len (k v : D) : ∀ kvs : List (D × D), (dput k v kvs).length ≤ kvs.length + 1
  | [] => by simp [dput]
  | kv :: kvs => by
    unfold dput
    split
    · simp
    · have := dput_len k v kvs
      simp only [List.length_cons]
      omega

section
variable {X : Cx} {pins : List (Addr × Obj)} {σ : St} {H Hh : Hp} {s : Shared} {p : Addr}
theorem DctAt.of (I : Inv X pins σ H s) (e : Same Hh H) {kvs : List (D × D)} (h : DctAt X.prog X.w X.K Hh p (H p) kvs) :
    ∃ xs, H p = some (DctO X.prog X.w p xs) ∧ (p == sysModules) = false ∧ Paired (Ent X.K Hh) kvs xs ∧ (xs.map (·.1)).Nodup ∧ s.heap.DictOfH (nestedKind X.prog X.w) p xs := by
  obtain ⟨xs, h1, h2, h3, h4, h5⟩ := h
  refine ⟨xs, h1, h2, h3, h4, ?_⟩
  obtain ⟨⟨o, es, ep, q1, q2, q3, q4⟩, _, _⟩ := I.hok p _ h1
  refine ⟨o, es, ep, q1, q2, q3, q4, fun x hx => ?_, h4⟩
  have q : ∀ {kvs : List (D × D)} {xs : List (NestedKey × Addr × Value)}, Paired (Ent X.K Hh) kvs xs → x ∈ xs → ∃ kv, Ent X.K Hh kv x := by
    intro kvs xs r
    induction r with
    | nil => intro hx; cases hx
    | cons r1 r2 ih =>
      intro hx
      rcases List.mem_cons.mp hx with rfl | hx
      · exact ⟨_, r1⟩
      · exact ih hx
  obtain ⟨kv, e1, e2, e3, _⟩ := q h3 hx
  exact ⟨nested_is I kv.1 _ _ _ e1 (e3.mono e) rfl, e2⟩
/-- x in d -/
def rInN (P : Program) (w : World) (K : PySem.W.Frag) (neg : Bool) : R2 := fun x y H Q => ∃ p Hh kvs k nk a, y = .ref p ∧ Same Hh H ∧ DctAt P w K Hh p (H p) kvs ∧ nkey k = some nk ∧ nk.depth ≤ 8 ∧ x = .ref a ∧ Rep K H k x ∧
  Q (.bl (if neg then !(dget k kvs).isSome else (dget k kvs).isSome)) H
theorem op_inN (hu : X.A.units + 20 < cLine) : OpR X (compareOp .In) (rInN X.prog X.w X.K false) := by
  intro pins s σ H x y v u Q I rx ry h
  obtain ⟨p, Hh, kvs, k, nk, a, rfl, sm, hd, h1, h2, rfl, h3, q⟩ := h
  cases (show u = Value.ref p from ry)
  cases (show v = Value.ref a from rx)
  obtain ⟨xs, e1, e2, e3, e4, e5⟩ := hd.of I sm
  refine wpAny_in_heap (knd := nestedKind X.prog X.w) (k := nk) (by show X.A.in1.units + 8 < cLine; show X.A.units + 1 + 8 < cLine; omega) ⟨nested_is I k nk _ _ h1 h3 rfl, h2⟩ e2 e5 ?_
  refine ⟨.bl (atKey xs nk).isSome, H, I.tok _, rfl, ?_⟩
  rcases ent_get h1 e3 with ⟨g1, g2⟩ | ⟨d, u', a', val, g1, g2, _, _⟩
  · rw [g2]; rw [g1] at q; exact q
  · rw [g2]; rw [g1] at q; exact q
theorem op_notinN (hu : X.A.units + 20 < cLine) : OpR X (compareOp .NotIn) (rInN X.prog X.w X.K true) := by
  intro pins s σ H x y v u Q I rx ry h
  obtain ⟨p, Hh, kvs, k, nk, a, rfl, sm, hd, h1, h2, rfl, h3, q⟩ := h
  cases (show u = Value.ref p from ry)
  cases (show v = Value.ref a from rx)
  obtain ⟨xs, e1, e2, e3, e4, e5⟩ := hd.of I sm
  have e6 : s.heap.DictKeyed (nestedKind X.prog X.w) p (pairsH xs) := ⟨xs, e5, rfl⟩
  refine notIn_keyed (knd := nestedKind X.prog X.w) (k := nk) (by show X.A.in1.units + 8 < cLine; show X.A.units + 1 + 8 < cLine; omega) ⟨nested_is I k nk _ _ h1 h3 rfl, h2⟩ e2 e6 ?_
  rw [valueAt_pairsH, Option.isSome_map]
  refine ⟨.bl (!(atKey xs nk).isSome), H, I.tok _, rfl, ?_⟩
  rcases ent_get h1 e3 with ⟨g1, g2⟩ | ⟨d, u', a', val, g1, g2, _, _⟩
  · rw [g2]; rw [g1] at q; exact q
  · rw [g2]; rw [g1] at q; exact q
/-- d[k], there -/
def rGetN (P : Program) (w : World) (K : PySem.W.Frag) : R2 := fun x y H Q => ∃ p Hh kvs k nk a d, x = .ref p ∧ Same Hh H ∧ DctAt P w K Hh p (H p) kvs ∧ nkey k = some nk ∧ nk.depth ≤ 8 ∧ y = .ref a ∧ Rep K H k y ∧
  dget k kvs = some d ∧ ∀ u, Rep K Hh d u → Q u H
theorem ix_dct (hu : X.A.units + 20 < cLine) : IxR X (rGetN X.prog X.w X.K) := by
  intro value slice pins s σ H x y v u Q I rx ry h hs
  obtain ⟨p, Hh, kvs, k, nk, a, d, rfl, sm, hd, h1, h2, rfl, h3, h4, q⟩ := h
  cases (show v = Value.ref p from rx)
  cases (show u = Value.ref a from ry)
  obtain ⟨xs, e1, e2, e3, e4, e5⟩ := hd.of I sm
  rcases ent_get h1 e3 with ⟨g1, g2⟩ | ⟨d', u', a', val, g1, g2, g3, g4⟩
  · rw [g1] at h4; cases h4
  · rw [g1] at h4; cases h4
    have fin : EP X pins σ Q val { s with toks := s.toks + (nestedKind X.prog X.w).draws nk } := ⟨u', H, I.tok _, g4, q _ g3⟩
    exact PyProof.Rows.subscriptTail_builtinR (x := val) e5.typeIs PySem.F.slot_dict_getitem.lookup
      (wpAny_getItem_heap (knd := nestedKind X.prog X.w) (k := nk) (Q := fun r s' => r = val ∧ EP X pins σ Q r s') (by show X.A.in1.units + 8 < cLine; show X.A.units + 1 + 8 < cLine; omega) ⟨nested_is I k nk _ _ h1 h3 rfl, h2⟩ e5 g2 ⟨rfl, fin⟩) hs
/-- d[k] = v -/
def rPutN (P : Program) (w : World) (K : PySem.W.Frag) : TSet := fun x y z H Q => ∃ p Hh kvs k nk a d, x = .ref p ∧ Same Hh H ∧ Hh p = none ∧ DctAt P w K Hh p (H p) kvs ∧ nkey k = some nk ∧ nk.depth ≤ 8 ∧ y = .ref a ∧ Rep K Hh k y ∧
  Rep K Hh d z ∧ kvs.length < big ∧ ∀ o, DctAt P w K Hh p (some o) (dput k d kvs) → Q (upd H p o)
theorem set_dct (hu : X.A.units + 20 < cLine) : PSet X (rPutN X.prog X.w X.K) := by
  intro pins s σ H x y z v u r Q I rx ry rz h
  obtain ⟨p, Hh, kvs, k, nk, a, d, rfl, sm, hn, hd, h1, h2, rfl, h3, h4, h5, q⟩ := h
  cases (show v = Value.ref p from rx)
  cases (show u = Value.ref a from ry)
  obtain ⟨xs, e1, e2, e3, e4, e5⟩ := hd.of I sm
  have hl : xs.length ≤ sizeLine := by
    have := Paired.length e3
    have hb : big ≤ sizeLine := by decide
    omega
  refine wpAny_setItem_heap (knd := nestedKind X.prog X.w) (k := nk) (hsz := hl) (by show X.A.in1.units + 8 < cLine; show X.A.units + 1 + 8 < cLine; omega) ⟨nested_is I k nk _ _ h1 (h3.mono sm) rfl, h2⟩ e5 fun h' dd' hs => ?_
  have mu : Mut (H p) := by rw [e1]; exact True.intro
  obtain ⟨o', es', ep', q1, q2, q3, q4, q5, q6⟩ := dd'
  refine ⟨upd H p (DctO X.prog X.w p (storedH xs nk a r)), ?_, q _ ⟨_, rfl, e2, ent_put h1 h2 h3 h4 rz e3 e4, stored_nodup e4, by have := dput_len k d kvs; omega⟩⟩
  refine d_write I mu hs ⟨o', q1⟩ ?_
  exact ⟨⟨o', es', ep', q1, q2, q3, q4⟩, ⟨o', q1⟩, fun g1 g2 ⟨o1, es1, ep1, z1, z2, z3, z4⟩ k => ⟨o1, es1, ep1, k _ z1, z2, z3, z4⟩⟩
/-- {} -/
def tDNewN (P : Program) (w : World) (K : PySem.W.Frag) : TE := fun _ H Q => ∀ p o, H p = none → (∀ Hh, DctAt P w K Hh p (some o) []) → Q (.ref p) (upd H p o)
theorem pe_dnewN {pos : Pos} : PE X (.Dict [] [] pos) (tDNewN X.prog X.w X.K) := ⟨fun pins s σ H Q I h =>
  wpAny_Dict_empty ⟨.ref s.heap.objs.size, _, I.laid (a := s.heap.objs.size) (o := DctO X.prog X.w s.heap.objs.size []) (t' := s.toks) (fun _ _ q => Heap.get?_push_of_some _ q) (Nat.le_refl _)
    ⟨⟨_, #[], 0, Heap.get?_push_size _ rfl, ⟨rfl, rfl, rfl⟩, rfl, rfl⟩, ⟨_, Heap.get?_push_size _ rfl⟩, fun g1 g2 ⟨o1, es1, ep1, z1, z2, z3, z4⟩ k => ⟨o1, es1, ep1, k _ z1, z2, z3, z4⟩⟩, rfl,
    h _ _ (I.hok.fresh (Nat.le_refl _)) fun Hh => ⟨[], rfl, beq_eq_false_iff_ne.mpr (Ne.symm (Nat.ne_of_lt I.big)), .nil, List.nodup_nil, Nat.zero_le _⟩⟩⟩
end
end G
/-! G.EnvR: slots of data against slots of the frame; what an evaluation promises. -/
namespace G
open PySem L2

/-- the class of players -/
def plC (K : PySem.W.Frag) : Option Addr := match PySem.W.nsIn K mainGlobals "Player" with
  | some (some (.ref C)) => some C
  | _ => none
def plyFs (vr vn vw : V) (q : Addr) : List (Str × V) := [("record_kept", vr), ("many", vn), ("now", vw), ("past", .ref q)]
/-- the addresses that an object is made of -/
def pastOf (fs : List (Str × V)) : List Addr := match fs.lookup ("past" : Str) with
  | some (.ref q) => [q]
  | _ => []
def foot (H : Hp) (a : Addr) : List Addr := a :: (match H a with
  | some (.ins _ _ fs) => pastOf fs
  | _ => [])
theorem foot_self {H : Hp} {a : Addr} : a ∈ foot H a := List.mem_cons_self
theorem foot_eq {H H' : Hp} {a : Addr} (h : H' a = H a) : foot H' a = foot H a := by unfold foot; rw [h]
theorem foot_lst {H : Hp} {a : Addr} {vs : List V} (h : H a = some (.lst vs)) : foot H a = [a] := by unfold foot; rw [h]
theorem pastOf_fs {vr vn vw : V} {q : Addr} : pastOf (plyFs vr vn vw q) = [q] := by
  unfold pastOf plyFs
  rw [show List.lookup ("past" : Str) [(("record_kept" : Str), vr), ("many", vn), ("now", vw), ("past", .ref q)] = some (.ref q) from by
    rw [List.lookup_cons, show ((("past" : Str) == ("record_kept" : Str))) = false from by decide +kernel]
    rw [List.lookup_cons, show ((("past" : Str) == ("many" : Str))) = false from by decide +kernel]
    rw [List.lookup_cons, show ((("past" : Str) == ("now" : Str))) = false from by decide +kernel]
    rw [List.lookup_cons, show ((("past" : Str) == ("past" : Str))) = true from by decide +kernel]]
theorem foot_ply {H : Hp} {a C dx q : Addr} {vr vn vw : V} (h : H a = some (.ins C dx (plyFs vr vn vw q))) : foot H a = [a, q] := by
  unfold foot
  rw [h]
  show a :: pastOf (plyFs vr vn vw q) = _
  rw [pastOf_fs]
/-- Hh: what is seen; H: what there is -/
def OwnOk (P : Program) (w : World) (K : PySem.W.Frag) (Hh : Hp) (H : Hp) (p : Addr) : Ob → Prop
  | .lst xs => ∃ vs, H p = some (.lst vs) ∧ Reps K Hh xs vs
  | .dct kvs => DctAt P w K Hh p (H p) kvs
  | .ply r n w ps => ∃ C dx vr vn vw q vs, plC K = some C ∧ H p = some (.ins C dx (plyFs vr vn vw q)) ∧ Rep K Hh r vr ∧ Rep K Hh n vn ∧ Rep K Hh w vw ∧ H q = some (.lst vs) ∧ Reps K Hh ps vs
/-- a thing, but no table -/
def NT : Option HO → Prop
  | none => False
  | some (.tbl _) => False
  | _ => True
theorem NT.ne {o : Option HO} (h : NT o) : o ≠ none := fun z => by rw [z] at h; exact h
theorem foot_dct {P : Program} {w : World} {K : PySem.W.Frag} {Hh H : Hp} {p : Addr} {kvs : List (D × D)} (h : DctAt P w K Hh p (H p) kvs) : foot H p = [p] ∧ NT (H p) := by
  obtain ⟨xs, h1, _⟩ := h
  unfold foot
  rw [h1]
  exact ⟨rfl, True.intro⟩
theorem OwnOk.keep {P : Program} {w : World} {K : PySem.W.Frag} {Hh Hh' H H' : Hp} {p : Addr} {b : Ob} (h : OwnOk P w K Hh H p b) (e : Same Hh Hh') (k : ∀ c ∈ foot H p, H' c = H c) : OwnOk P w K Hh' H' p b := by
  cases b with
  | lst xs =>
    obtain ⟨vs, h1, h2⟩ := h
    exact ⟨vs, (k p foot_self).trans h1, Reps.mono e xs vs h2⟩
  | dct kvs =>
    show DctAt P w K Hh' p (H' p) kvs
    rw [k p foot_self]
    exact DctAt.mono e h
  | ply r n w ps =>
    obtain ⟨C, dx, vr, vn, vw, q, vs, h0, h1, h2, h3, h4, h5, h6⟩ := h
    refine ⟨C, dx, vr, vn, vw, q, vs, h0, (k p foot_self).trans h1, Rep.mono e _ _ h2, Rep.mono e _ _ h3, Rep.mono e _ _ h4, (k q ?_).trans h5, Reps.mono e _ _ h6⟩
    rw [foot_ply h1]
    exact List.mem_cons_of_mem _ List.mem_cons_self
theorem OwnOk.mono {P : Program} {w : World} {K : PySem.W.Frag} {Hh Hh' H : Hp} {p : Addr} {b : Ob} (h : OwnOk P w K Hh H p b) (e : Same Hh Hh') : OwnOk P w K Hh' H p b := h.keep e fun _ _ => rfl
theorem OwnOk.nt {P : Program} {w : World} {K : PySem.W.Frag} {Hh H : Hp} {p c : Addr} {b : Ob} (h : OwnOk P w K Hh H p b) (hc : c ∈ foot H p) : NT (H c) := by
  cases b with
  | lst xs =>
    obtain ⟨vs, h1, h2⟩ := h
    rw [foot_lst h1] at hc
    cases List.mem_singleton.mp hc
    rw [h1]; exact True.intro
  | dct kvs =>
    obtain ⟨h1, h2⟩ := foot_dct h
    rw [h1] at hc
    cases List.mem_singleton.mp hc
    exact h2
  | ply r n w ps =>
    obtain ⟨C, dx, vr, vn, vw, q, vs, h0, h1, h2, h3, h4, h5, h6⟩ := h
    rw [foot_ply h1] at hc
    rcases List.mem_cons.mp hc with rfl | hc
    · rw [h1]; exact True.intro
    · cases List.mem_singleton.mp hc
      rw [h5]; exact True.intro
theorem OwnOk.some {P : Program} {w : World} {K : PySem.W.Frag} {Hh H : Hp} {p : Addr} {b : Ob} (h : OwnOk P w K Hh H p b) : H p ≠ none := (h.nt foot_self).ne

/-- the ground of a def's run: the text, the heap at the entry, the objects handed in that may change -/
structure Gr where
  P : Program
  w : World
  K : PySem.W.Frag
  H0 : Hp
  ps : List Addr
  /-- where the parameters were -/
  pv : Nat → Option (Option V)
  /-- a def that makes lambdas; where its table may be -/
  nd : Bool
  tp : Addr → Prop
/-- an address of the object at a; p: it was handed in -/
def Gr.okA (g : Gr) (p : Bool) (a c : Addr) : Prop := (p = true ∧ c ∈ g.ps ∧ c ∈ foot g.H0 a) ∨ g.H0 c = none
theorem Gr.okA.own {g : Gr} {a c : Addr} (h : g.okA false a c) : g.H0 c = none := by
  rcases h with ⟨z, _⟩ | h
  · cases z
  · exact h
theorem Gr.okA.out {g : Gr} {p : Bool} {a c : Addr} {o : HO} (h : g.okA p a c) (hc : c ∉ g.ps) (q : g.H0 c = some o) : False := by
  rcases h with ⟨_, z, _⟩ | h
  · exact hc z
  · rw [h] at q; cases q
def SlotR (g : Gr) (ows : List Addr) (H : Hp) (v : Option (Option V)) : Sl → Prop
  | .no => True
  | .ro d => ∃ x, v = some (some x) ∧ Rep g.K (hid ows H) d x
  | .ow p o => ∃ a, v = some (some (.ref a)) ∧ (∀ c ∈ foot H a, c ∈ ows ∧ g.okA p a c) ∧ OwnOk g.P g.w g.K (hid ows H) H a o
theorem SlotR.keep {g : Gr} {ows ows' : List Addr} {H H' : Hp} {v : Option (Option V)} {s : Sl} (sub : ∀ a ∈ ows, a ∈ ows') (e : Same (hid ows H) (hid ows' H')) (ho : ∀ a c, v = some (some (.ref a)) → (∃ p o, s = .ow p o) → c ∈ foot H a → H' c = H c) (h : SlotR g ows H v s) : SlotR g ows' H' v s := by
  cases s with
  | no => trivial
  | ro d =>
    obtain ⟨x, h1, h2⟩ := h
    exact ⟨x, h1, h2.mono e⟩
  | ow p o =>
    obtain ⟨a, h1, h2, h3⟩ := h
    have k : ∀ c ∈ foot H a, H' c = H c := fun c hc => ho a c h1 ⟨p, o, rfl⟩ hc
    refine ⟨a, h1, fun c hc => ?_, h3.keep e k⟩
    rw [foot_eq (k a foot_self)] at hc
    exact ⟨sub c (h2 c hc).1, (h2 c hc).2⟩

/-- the name of the lambdas that a law makes -/
def lawQ : Str := "law.<locals>.<lambda>"
/-- the maker's table at P; its code objects are no object of one's own -/
def TabH (ows : List Addr) (H : Hp) (P : Addr) : Prop := ∃ t, H P = some (.tbl t) ∧ TriplesOk t.toList ∧ ∀ (pos : Pos) (cv : Value), codeAmong pos t.toList = some cv → ∃ c, cv = .ref c ∧ hid ows H c = some (LamX.CodeO c lawQ)
theorem TabH.mono {ows ows' : List Addr} {H H' : Hp} {P : Addr} (h : TabH ows H P) (k : H' P = H P) (s : Same (hid ows H) (hid ows' H')) : TabH ows' H' P := by
  obtain ⟨t, h1, h2, h3⟩ := h
  refine ⟨t, k.trans h1, h2, fun pos cv hc => ?_⟩
  obtain ⟨c, e1, e2⟩ := h3 pos cv hc
  exact ⟨c, e1, s _ _ e2⟩
theorem TabH.some {ows : List Addr} {H : Hp} {P : Addr} (h : TabH ows H P) : ∃ t, H P = some (.tbl t) := ⟨h.choose, h.choose_spec.1⟩
theorem TabH.nt {ows : List Addr} {H : Hp} {P : Addr} (h : TabH ows H P) (n : NT (H P)) : False := by
  obtain ⟨t, k⟩ := h.some
  rw [k] at n
  exact n
structure EnvR (g : Gr) (ows : List Addr) (σ : St) (H : Hp) (δ : Env) : Prop where
  len : σ.length = δ.length
  base : ∀ a o, a ∉ g.ps → g.H0 a = some o → H a = some o
  psub : ∀ a ∈ g.ps, a ∈ ows
  dom : ∀ a ∈ ows, H a ≠ none
  slot : ∀ (i : Nat) (s : Sl), δ[i]? = some s → SlotR g ows H σ[i]? s
  inj : ∀ (i j : Nat) (p : Bool) (o : Ob) (q : Bool) (u : Ob) (a b : Addr), i ≠ j → δ[i]? = some (Sl.ow p o) → δ[j]? = some (Sl.ow q u) → σ[i]? = some (some (.ref a)) → σ[j]? = some (some (.ref b)) → ∀ c ∈ foot H a, c ∉ foot H b
  par : ∀ (i : Nat) (o : Ob), δ[i]? = some (Sl.ow true o) → σ[i]? = g.pv i
  tab : ∀ P ∈ g.ps, ∀ t, g.H0 P = some (.tbl t) → TabH ows H P
  need : g.nd = true → ∃ P ∈ g.ps, (∃ t, g.H0 P = some (.tbl t)) ∧ g.tp P
/-- more is hidden, what is seen stays -/
structure GrwS (ows : List Addr) (H : Hp) (ows' : List Addr) (H' : Hp) : Prop where
  sub : ∀ a ∈ ows, a ∈ ows'
  same : Same (hid ows H) (hid ows' H')
theorem GrwS.refl {ows : List Addr} {H : Hp} : GrwS ows H ows H := ⟨fun _ h => h, Same.refl _⟩
theorem GrwS.of {ows : List Addr} {H H' : Hp} (h : Same (hid ows H) (hid ows H')) : GrwS ows H ows H' := ⟨fun _ h => h, h⟩
theorem GrwS.trans {o1 o2 o3 : List Addr} {H1 H2 H3 : Hp} (a : GrwS o1 H1 o2 H2) (b : GrwS o2 H2 o3 H3) : GrwS o1 H1 o3 H3 := ⟨fun x h => b.sub x (a.sub x h), a.same.trans b.same⟩

section
variable {g : Gr} {ows : List Addr} {σ : St} {H H' : Hp} {δ : Env}
/-- the object of an own slot -/
theorem EnvR.own {i : Nat} {p : Bool} {o : Ob} {a : Addr} (e : EnvR g ows σ H δ) (hi : δ[i]? = some (.ow p o)) (ha : σ[i]? = some (some (.ref a))) : (∀ c ∈ foot H a, c ∈ ows ∧ g.okA p a c) ∧ OwnOk g.P g.w g.K (hid ows H) H a o := by
  obtain ⟨b, h1, h2, h3⟩ := e.slot i _ hi
  rw [ha] at h1
  have eb : a = b := by simpa using h1
  subst eb
  exact ⟨h2, h3⟩
theorem EnvR.apart {i j : Nat} {p q : Bool} {o u : Ob} (e : EnvR g ows σ H δ) (n : i ≠ j) (hi : δ[i]? = some (.ow p o)) (hj : δ[j]? = some (.ow q u)) : σ[i]? ≠ σ[j]? := fun z => by
  obtain ⟨a, h1, _⟩ := e.slot i _ hi
  exact e.inj i j p o q u a a n hi hj h1 (z ▸ h1) a foot_self foot_self
/-- a table is no part of a slot's object -/
theorem EnvR.noTab {i : Nat} {p : Bool} {o : Ob} {a P : Addr} {t : Array Value} (e : EnvR g ows σ H δ) (hi : δ[i]? = some (.ow p o)) (ha : σ[i]? = some (some (.ref a))) (hP : P ∈ g.ps) (ht : g.H0 P = some (.tbl t)) : P ∉ foot H a := fun z =>
  (e.tab P hP t ht).nt ((e.own hi ha).2.nt z)
theorem EnvR.fresh {p : Addr} (e : EnvR g ows σ H δ) (h : H p = none) : g.H0 p = none ∧ p ∉ ows := by
  have n : p ∉ ows := fun z => e.dom p z h
  refine ⟨?_, n⟩
  cases q : g.H0 p with
  | none => rfl
  | some o =>
    have := e.base p o (fun z => n (e.psub p z)) q
    rw [h] at this
    cases this
theorem EnvR.notFoot {i : Nat} {p : Bool} {o : Ob} {a q : Addr} (e : EnvR g ows σ H δ) (hi : δ[i]? = some (.ow p o)) (ha : σ[i]? = some (some (.ref a))) (h : H q = none) : q ∉ foot H a := fun z => (e.fresh h).2 ((e.own hi ha).1 q z).1
/-- what is hidden may grow, what the hidden ones hold stays -/
theorem EnvR.grown {ows' : List Addr} (e : EnvR g ows σ H δ) (b : ∀ a o, H a = some o → H' a = some o) (gw : GrwS ows H ows' H') (d : ∀ a ∈ ows', a ∈ ows ∨ H' a ≠ none) : EnvR g ows' σ H' δ := by
  have eq : ∀ a ∈ ows, H' a = H a := fun a ha => by
    cases q : H a with
    | none => exact absurd q (e.dom a ha)
    | some o => exact b a o q
  have ft : ∀ {i : Nat} {p : Bool} {o : Ob} {a : Addr}, δ[i]? = some (Sl.ow p o) → σ[i]? = some (some (.ref a)) → foot H' a = foot H a := fun hi ha => foot_eq (eq _ ((e.own hi ha).1 _ foot_self).1)
  refine ⟨e.len, fun a u hp q => b a u (e.base a u hp q), fun a ha => gw.sub a (e.psub a ha), fun a ha => ?_, fun i s q => ?_, fun i j p o q u x y n h1 h2 h3 h4 c hc => ?_, e.par, fun P hP t ht => (e.tab P hP t ht).mono (eq P (e.psub P hP)) gw.same, e.need⟩
  · rcases d a ha with h | h
    · rw [eq a h]; exact e.dom a h
    · exact h
  · refine (e.slot i s q).keep gw.sub gw.same fun a c ha ⟨p, o, z⟩ hc => ?_
    subst z
    exact eq c ((e.own q ha).1 c hc).1
  · rw [ft h1 h3] at hc
    rw [ft h2 h4]
    exact e.inj i j p o q u x y n h1 h2 h3 h4 c hc
theorem same_keep (b : ∀ a o, H a = some o → H' a = some o) : Same (hid ows H) (hid ows H') := fun a o h => by
  unfold hid at h ⊢
  split at h
  · cases h
  · rename_i n
    rw [if_neg n]
    exact b a o h
theorem EnvR.keep (e : EnvR g ows σ H δ) (b : ∀ a o, H a = some o → H' a = some o) : EnvR g ows σ H' δ := e.grown b (.of (same_keep b)) fun _ h => .inl h
theorem EnvR.new {p : Addr} {o : HO} (e : EnvR g ows σ H δ) (h : H p = none) : EnvR g ows σ (upd H p o) δ := e.keep fun a u q => by rw [upd_ne (ne_of_none q h)]; exact q
theorem par_set {i j : Nat} {s : Sl} {v : Option V} {o : Ob} (e : EnvR g ows σ H δ) (ht : ∀ o, s ≠ .ow true o) (q : (δ.set i s)[j]? = some (Sl.ow true o)) : (σ.set i v)[j]? = g.pv j := by
  by_cases h : i = j
  · subst h
    have hl : i < δ.length := by
      have := (List.getElem?_eq_some_iff.mp q).1
      rwa [List.length_set] at this
    rw [List.getElem?_set_self hl] at q
    exact absurd (Option.some.inj q) (ht o)
  · rw [List.getElem?_set_ne h] at q ⊢
    exact e.par j o q
theorem set_len {i : Nat} {s t : Sl} (q : (δ.set i s)[i]? = some t) : i < δ.length ∧ s = t := by
  have hl : i < δ.length := by
    have := (List.getElem?_eq_some_iff.mp q).1
    rwa [List.length_set] at this
  rw [List.getElem?_set_self hl] at q
  exact ⟨hl, Option.some.inj q⟩
/-- a slot is stored to -/
theorem EnvR.set {i : Nat} {s : Sl} {v : V} (e : EnvR g ows σ H δ) (h : SlotR g ows H (some (some v)) s) (hj : ∀ p o (a : Addr), s = .ow p o → v = V.ref a → ∀ j q u b, j ≠ i → δ[j]? = some (Sl.ow q u) → σ[j]? = some (some (.ref b)) → ∀ c ∈ foot H a, c ∉ foot H b) (ht : ∀ o, s ≠ .ow true o) :
    EnvR g ows (σ.set i (some v)) H (δ.set i s) := by
  refine ⟨by rw [List.length_set, List.length_set]; exact e.len, e.base, e.psub, e.dom, fun j t q => ?_, fun j k p o q u x y hjk h1 h2 h5 h6 c hc hc' => ?_, fun j o q => par_set e ht q, e.tab, e.need⟩
  · by_cases hji : j = i
    · subst hji
      obtain ⟨hl, rfl⟩ := set_len q
      rw [List.getElem?_set_self (by rw [e.len]; exact hl)]
      exact h
    · rw [List.getElem?_set_ne (Ne.symm hji)] at q ⊢
      exact e.slot j t q
  · by_cases h3 : j = i
    · subst h3
      obtain ⟨hl, es⟩ := set_len h1
      rw [List.getElem?_set_ne hjk] at h2 h6
      rw [List.getElem?_set_self (by rw [e.len]; exact hl)] at h5
      exact hj p o x es (by simpa using h5) k q u y (Ne.symm hjk) h2 h6 c hc hc'
    · by_cases h4 : k = i
      · subst h4
        obtain ⟨hl, es⟩ := set_len h2
        rw [List.getElem?_set_ne (Ne.symm hjk)] at h1 h5
        rw [List.getElem?_set_self (by rw [e.len]; exact hl)] at h6
        exact hj q u y es (by simpa using h6) j p o x hjk h1 h5 c hc' hc
      · rw [List.getElem?_set_ne (Ne.symm h3)] at h1 h5
        rw [List.getElem?_set_ne (Ne.symm h4)] at h2 h6
        exact e.inj j k p o q u x y hjk h1 h2 h5 h6 c hc hc'
theorem EnvR.setRo {i : Nat} {d : D} {v : V} (e : EnvR g ows σ H δ) (h : Rep g.K (hid ows H) d v) : EnvR g ows (σ.set i (some v)) H (δ.set i (.ro d)) :=
  e.set ⟨v, rfl, h⟩ (fun _ _ _ z => nomatch z) (fun _ z => nomatch z)
/-- a slot is forgotten -/
theorem EnvR.forget {i : Nat} {v : Option V} (e : EnvR g ows σ H δ) : EnvR g ows (σ.set i v) H (δ.set i .no) := by
  refine ⟨by rw [List.length_set, List.length_set]; exact e.len, e.base, e.psub, e.dom, fun j t q => ?_, fun j k p o q u x y hjk h1 h2 h5 h6 => ?_, fun j o q => par_set (s := .no) e (fun _ z => nomatch z) q, e.tab, e.need⟩
  · by_cases hji : j = i
    · subst hji
      obtain ⟨_, rfl⟩ := set_len q
      trivial
    · rw [List.getElem?_set_ne (Ne.symm hji)] at q ⊢
      exact e.slot j t q
  · have nj : ∀ {m p o}, (δ.set i .no)[m]? = some (Sl.ow p o) → m ≠ i ∧ δ[m]? = some (Sl.ow p o) := fun {m p o} h => by
      by_cases hm : m = i
      · subst hm
        obtain ⟨_, z⟩ := set_len h
        cases z
      · rw [List.getElem?_set_ne (Ne.symm hm)] at h
        exact ⟨hm, h⟩
    obtain ⟨a1, a2⟩ := nj h1
    obtain ⟨b1, b2⟩ := nj h2
    rw [List.getElem?_set_ne (Ne.symm a1)] at h5
    rw [List.getElem?_set_ne (Ne.symm b1)] at h6
    exact e.inj j k p o q u x y hjk a2 b2 h5 h6
theorem same_hide {ns : List Addr} (n : ∀ a ∈ ns, H a = none) (sm : ∀ a u, H a = some u → H' a = some u) : Same (hid ows H) (hid (ns ++ ows) H') := fun a u h => by
  unfold hid at h ⊢
  split at h
  · cases h
  · rename_i na
    rw [if_neg]
    · exact sm a u h
    · intro z
      rcases List.mem_append.mp z with z | z
      · rw [n a z] at h; cases h
      · exact na z
/-- objects that came behind H are hidden behind H' -/
theorem EnvR.hide {ns : List Addr} (e : EnvR g ows σ H δ) (n : ∀ a ∈ ns, H a = none) (sm : ∀ a u, H a = some u → H' a = some u) (hp : ∀ a ∈ ns, H' a ≠ none) : EnvR g (ns ++ ows) σ H' δ :=
  e.grown sm ⟨fun _ h => List.mem_append_right _ h, same_hide n sm⟩ fun a ha => by
    rcases List.mem_append.mp ha with h | h
    · exact .inr (hp a h)
    · exact .inl h
/-- an object at p that came behind H is one's own behind H' -/
theorem EnvR.ownNew {p : Addr} {o : HO} (e : EnvR g ows σ H δ) (n : H p = none) (sm : ∀ a u, H a = some u → H' a = some u) (hp : H' p = some o) : EnvR g (p :: ows) σ H' δ :=
  e.hide (ns := [p]) (fun a h => by cases List.mem_singleton.mp h; exact n) sm fun a h => by cases List.mem_singleton.mp h; rw [hp]; exact fun z => nomatch z
theorem hid_upd {c : Addr} {o : HO} (h : c ∈ ows) : hid ows (upd H c o) = hid ows H := by
  funext d
  unfold hid
  split
  · rfl
  · rename_i n
    exact upd_ne fun z => n (by rw [z]; exact h)
/-- a part of an own object is written; what it is made of stays -/
theorem EnvR.write {i : Nat} {a c : Addr} {b : Bool} {ob ob' : Ob} {o : HO} (e : EnvR g ows σ H δ) (hi : δ[i]? = some (Sl.ow b ob)) (ha : σ[i]? = some (some (.ref a))) (hc : c ∈ foot H a) (hf : foot (upd H c o) a = foot H a)
    (h : OwnOk g.P g.w g.K (hid ows H) (upd H c o) a ob') : EnvR g ows σ (upd H c o) (δ.set i (.ow b ob')) := by
  obtain ⟨h2, h4⟩ := e.own hi ha
  obtain ⟨hco, hck⟩ := h2 c hc
  have hh : hid ows (upd H c o) = hid ows H := hid_upd hco
  have hl : i < δ.length := (List.getElem?_eq_some_iff.mp hi).1
  -- other slots' objects do not hold c
  have other : ∀ {j : Nat} {p : Bool} {u : Ob} {x d : Addr}, j ≠ i → δ[j]? = some (Sl.ow p u) → σ[j]? = some (some (.ref x)) → d ∈ foot H x → upd H c o d = H d := fun {j p u x d} n hj hx hd =>
    upd_ne fun z => e.inj j i p u b ob x a n hj hi hx ha d hd (by rw [z]; exact hc)
  have nj : ∀ {m p u}, (δ.set i (.ow b ob'))[m]? = some (Sl.ow p u) → ∃ p' u', δ[m]? = some (Sl.ow p' u') := fun {m p u} h => by
    by_cases hm : m = i
    · subst hm; exact ⟨_, _, hi⟩
    · rw [List.getElem?_set_ne (Ne.symm hm)] at h
      exact ⟨_, _, h⟩
  have ft : ∀ {m : Nat} {p : Bool} {u : Ob} {x : Addr}, δ[m]? = some (Sl.ow p u) → σ[m]? = some (some (.ref x)) → foot (upd H c o) x = foot H x := fun {m p u x} hm hx => by
    by_cases z : m = i
    · subst z
      rw [ha] at hx
      cases hx
      exact hf
    · exact foot_eq (other z hm hx foot_self)
  refine ⟨by rw [List.length_set]; exact e.len, fun d u hd q => ?_, e.psub, fun d hd => ?_, fun j s q => ?_, fun j k p o' q u x y hjk h5 h6 h7 h8 d hd => ?_, fun j o' q => ?_, fun P hP t ht => (e.tab P hP t ht).mono (upd_ne fun z => e.noTab hi ha hP ht (by rw [z]; exact hc)) (by rw [hh]; exact Same.refl _), e.need⟩
  · rw [upd_ne]
    · exact e.base d u hd q
    · intro z
      subst z
      exact hck.out hd q
  · by_cases z : d = c
    · rw [z, upd_same]; exact fun z => nomatch z
    · rw [upd_ne z]; exact e.dom d hd
  · by_cases hji : j = i
    · subst hji
      obtain ⟨_, rfl⟩ := set_len q
      refine ⟨a, ha, fun d hd => ?_, ?_⟩
      · rw [hf] at hd
        exact h2 d hd
      · rw [hh]
        exact h
    · rw [List.getElem?_set_ne (Ne.symm hji)] at q
      refine (e.slot j s q).keep (fun _ h => h) (by rw [hh]; exact Same.refl _) fun x d hx ⟨p, u, z⟩ hd => ?_
      subst z
      exact other hji q hx hd
  · obtain ⟨_, _, a2⟩ := nj h5
    obtain ⟨_, _, b2⟩ := nj h6
    rw [ft a2 h7] at hd
    rw [ft b2 h8]
    exact e.inj j k _ _ _ _ x y hjk a2 b2 h7 h8 d hd
  · by_cases h : i = j
    · subst h
      obtain ⟨_, z⟩ := set_len q
      cases z
      exact e.par i _ hi
    · rw [List.getElem?_set_ne h] at q
      exact e.par j _ q
theorem hid_change {a : Addr} {o : HO} (h : a ∈ ows) : Same (hid ows H) (hid ows (upd H a o)) := by rw [hid_upd h]; exact Same.refl _
/-- the whole of an own list, dict -/
theorem EnvR.change {i : Nat} {a : Addr} {b : Bool} {ob ob' : Ob} {o : HO} (e : EnvR g ows σ H δ) (hi : δ[i]? = some (Sl.ow b ob)) (ha : σ[i]? = some (some (.ref a))) (h1 : foot H a = [a]) (h2 : foot (upd H a o) a = [a])
    (h : OwnOk g.P g.w g.K (hid ows H) (upd H a o) a ob') : EnvR g ows σ (upd H a o) (δ.set i (.ow b ob')) := e.write hi ha foot_self (h2.trans h1.symm) h
end

/-! ### results -/
/-- how an exception of the text is told: the class by its name, its own field -/
def ExR (cl : Str → Option Addr) (c : Exn) (H : Hp) (cv : Value) (d : Option Addr) : Prop :=
  ∃ a, cl c.c = some a ∧ cv = .ref a ∧ (match c.pl with
    | none => d = none
    | some (f, n) => ∃ p, d = some p ∧ H p = some (.xd [(f, .int n)]))
def RvR (g : Gr) (σ : St) (ows : List Addr) (H : Hp) : RV → V → Prop
  | .d x, v => Rep g.K (hid ows H) x v
  | .own i, v => σ[i]? = some (some v)
theorem RvR.mono {g : Gr} {ows ows' : List Addr} {σ : St} {H H' : Hp} {r : RV} {v : V} (e : GrwS ows H ows' H') (h : RvR g σ ows H r v) : RvR g σ ows' H' r v := by
  cases r with
  | d x => exact Rep.mono e.same x v h
  | own i => exact h
def RvRs (g : Gr) (σ : St) (ows : List Addr) (H : Hp) : List RV → List V → Prop
  | [], vs => vs = []
  | r :: rs, vs => ∃ v us, vs = v :: us ∧ RvR g σ ows H r v ∧ RvRs g σ ows H rs us
theorem RvRs.mono {g : Gr} {ows ows' : List Addr} {σ : St} {H H' : Hp} (e : GrwS ows H ows' H') : ∀ {rs : List RV} {vs : List V}, RvRs g σ ows H rs vs → RvRs g σ ows' H' rs vs
  | [], _, h => h
  | r :: rs, _, ⟨v, us, h1, h2, h3⟩ => ⟨v, us, h1, h2.mono e, RvRs.mono e h3⟩

/-- the wishes of a run; of an exception, by the slots -/
abbrev XS := St → XK
structure Wi where
  g : Gr
  σ : St
  cl : Str → Option Addr
  EX : XS
/-- an evaluation from H on: each good end is what Q wants, each exception what EX wants -/
def wpO {α β : Type} (W : Wi) (ows : List Addr) (H : Hp) (o : Out Env α) (R : List Addr → Hp → α → β → Prop) (Q : β → Hp → Prop) : Prop := match o with
  | .ok r δ => ∀ b ows' H', EnvR W.g ows' W.σ H' δ → GrwS ows H ows' H' → R ows' H' r b → Q b H'
  | .ex c δ => ∀ ows' H' cv d, EnvR W.g ows' W.σ H' δ → GrwS ows H ows' H' → ExR W.cl c H' cv d → W.EX W.σ cv d H'
  | .no => False
section
variable {α β γ ε : Type} {W : Wi} {ows ows1 : List Addr} {H H1 : Hp} {o : Out Env α} {R : List Addr → Hp → α → β → Prop} {Q Q' : β → Hp → Prop}
theorem wpO.from (e : GrwS ows H ows1 H1) (h : wpO W ows H o R Q) : wpO W ows1 H1 o R Q := by
  cases o with
  | ok r δ => exact fun b ows' H' er sm rr => h b ows' H' er (e.trans sm) rr
  | ex c δ => exact fun ows' H' cv d er sm x => h ows' H' cv d er (e.trans sm) x
  | no => exact h
theorem wpO.bind {f : α → Env → Out Env γ} {R2 : List Addr → Hp → γ → ε → Prop} {Q2 : ε → Hp → Prop} (h : wpO W ows H (o.bind f) R2 Q2) :
    wpO W ows H o R fun b H1 => ∃ r δ1 w1, o = .ok r δ1 ∧ EnvR W.g w1 W.σ H1 δ1 ∧ GrwS ows H w1 H1 ∧ R w1 H1 r b ∧ wpO W w1 H1 (f r δ1) R2 Q2 := by
  cases o with
  | ok r δ => exact fun b ows' H' er sm rr => ⟨r, δ, ows', rfl, er, sm, rr, wpO.from (o := f r δ) sm h⟩
  | ex c δ => exact h
  | no => exact h
theorem wpO.imp (h : wpO W ows H o R Q) (k : ∀ b H', Q b H' → Q' b H') : wpO W ows H o R Q' := by
  cases o with
  | ok r δ => exact fun b ows' H' er sm rr => k _ _ (h b ows' H' er sm rr)
  | ex c δ => exact h
  | no => exact h
theorem wpO.lift {a? : Option α} {δ : Env} {f : α → Env → Out Env γ} {R2 : List Addr → Hp → γ → ε → Prop} {Q2 : ε → Hp → Prop} (h : wpO W ows H ((G.lift a? δ).bind f) R2 Q2) : ∃ a, a? = some a ∧ wpO W ows H (f a δ) R2 Q2 := by
  cases a? with
  | none => exact h.elim
  | some a => exact ⟨a, rfl, h⟩
theorem wpO.noex {a? : Out Env α} {f : α → Env → Out Env γ} {R2 : List Addr → Hp → γ → ε → Prop} {Q2 : ε → Hp → Prop} (h : wpO W ows H (a?.noex.bind f) R2 Q2) : ∃ a δ, a? = .ok a δ ∧ wpO W ows H (f a δ) R2 Q2 := by
  cases a? with
  | ok a δ => exact ⟨a, δ, rfl, h⟩
  | ex c δ => exact h.elim
  | no => exact h.elim
end
end G
/-! G.TupRep: tuple * int, any small int. -/
namespace G
open PySem L2 PySem.Spec PyProof.Rows
theorem tuple_mul_same (l : Addr) (items : Array Value) (n : Nat) (dd : Option Addr) (sl : Array (Option Value)) (x : Int) (u : Tok) (c0 : (decide (x < -(2 ^ 63)) || decide (x ≥ 2 ^ 63)) = false) (c1 : (items.isEmpty || x == 1) = true) :
    Meets (Builtin.«tuple.__mul__» ⟨[.ref l, .int x u], []⟩) (fun _ R s => s.heap.get? l = some { cls := .type "tuple", dict := dd, data := .seq items n, slots := sl } ∧ R (.ok (.ret (Value.ref l))) s) :=
  .of_wp fun prog w A R s h => by
    obtain ⟨hp, g, d, tk, os⟩ := s
    obtain ⟨hl, h⟩ := h
    have f1 := AutoSeq1.idx_int
    wp_walk using wpAny_loadPart' hl
    repeat (first
      | (refine wpAny_ite_false (decide_eq_false (by rw [c0]; exact Bool.false_ne_true)) ?_; wp_walk using wpAny_loadPart' hl)
      | (refine wpAny_ite_true (decide_eq_true c1) ?_; wp_walk using wpAny_loadPart' hl))
    all_goals exact ⟨_, rfl, h⟩
theorem tuple_mul_none (l : Addr) (items : Array Value) (n : Nat) (dd : Option Addr) (sl : Array (Option Value)) (x : Int) (u : Tok) (c0 : (decide (x < -(2 ^ 63)) || decide (x ≥ 2 ^ 63)) = false) (c1 : (items.isEmpty || x == 1) = false) (c2 : (decide (x ≤ 0) || items.isEmpty) = true) :
    Meets (Builtin.«tuple.__mul__» ⟨[.ref l, .int x u], []⟩) (fun _ R s => s.heap.get? l = some { cls := .type "tuple", dict := dd, data := .seq items n, slots := sl } ∧
      R (.ok (.ret (Value.ref s.heap.objs.size))) { s with heap := s.heap.push { cls := Value.type "tuple", data := Data.seq #[] }, toks := s.toks }) :=
  .of_wp fun prog w A R s h => by
    obtain ⟨hp, g, d, tk, os⟩ := s
    obtain ⟨hl, h⟩ := h
    have f1 := AutoSeq1.idx_int
    wp_walk using wpAny_loadPart' hl
    repeat (first
      | (refine wpAny_ite_false (decide_eq_false (by rw [c0]; exact Bool.false_ne_true)) ?_; wp_walk using wpAny_loadPart' hl)
      | (refine wpAny_ite_false (decide_eq_false (by rw [c1]; exact Bool.false_ne_true)) ?_; wp_walk using wpAny_loadPart' hl)
      | (refine wpAny_ite_true (decide_eq_true c2) ?_; wp_walk using wpAny_loadPart' hl))
    all_goals exact ⟨_, rfl, h⟩
/-- t * k -/
def rRepA (K : PySem.W.Frag) : R2 := fun x y H Q => ∃ l k xs, x = .ref l ∧ y = .int k ∧ SqT K H l xs ∧ 0 ≤ k ∧ k ≤ 1000 ∧ xs.length ≤ 1000 ∧ ((xs = [] ∨ k = 1) → Q (.ref l) H) ∧ ∀ p, H p = none → Q (.ref p) (upd H p (.tup (List.replicate k.toNat xs).flatten))
theorem op_repA {X : Cx} : OpR X (binaryOp .Mult) (rRepA X.K) := by
  intro pins s σ H x y v u Q I rx ry h
  obtain ⟨l, k, xs, rfl, rfl, hT, h1, h2, hz, q1, q⟩ := h
  cases rx
  obtain ⟨t, rfl⟩ := ry
  obtain ⟨its, r, ⟨⟨cls, dd, data, sl⟩, ho, hc, n, hd⟩, hs⟩ := I.tuple hT
  simp only at hc hd
  subst hc hd
  have hle : its.length = xs.length := r.length.symm
  have c0 : (decide (k < -(2 ^ 63)) || decide (k ≥ 2 ^ 63)) = false := by
    rw [decide_eq_false (by omega), decide_eq_false (by omega)] <;> rfl
  have hi : its.toArray.isEmpty = xs.isEmpty := by
    cases its with
    | nil => cases xs with
      | nil => rfl
      | cons a b => cases hle
    | cons a b => cases xs with
      | nil => cases hle
      | cons a b => rfl
  by_cases hA : xs = [] ∨ k = 1
  · have c1 : (its.toArray.isEmpty || k == 1) = true := by
      rw [hi]
      rcases hA with rfl | rfl <;> simp
    exact wpAny_binaryOp_repeat_ref (T := "tuple") (U := "int") (by decide) ⟨_, ho, rfl⟩ (fun s' => typeIs_int s' k t) noFill_tuple_mul F.fills_int_mul F.slot_int_rmul repeat_tuple F.slot_int_index.lookup
      (call_meets F.slot_int_rmul (typeIs_int s k t) F.entry_int_rmul (F.args_int_rmul_2 _ _) (int_rmul_tuple k t l its.toArray n dd sl)
        ⟨ho, rfl, ⟨_, ho, rfl⟩, call_meets F.slot_tuple_mul ⟨_, ho, rfl⟩ F.entry_tuple_mul (F.args_tuple_mul_2 _ _) (tuple_mul_same l its.toArray n dd sl k t c0 c1) ⟨ho, ⟨.ref l, H, I, rfl, q1 hA⟩⟩⟩)
  · have hn : xs ≠ [] := fun z => hA (.inl z)
    have hk : k ≠ 1 := fun z => hA (.inr z)
    by_cases h0 : k = 0
    · have c1 : (its.toArray.isEmpty || k == 1) = false := by
        rw [hi, h0]
        cases xs with
        | nil => exact absurd rfl hn
        | cons a b => rfl
      have c2 : (decide (k ≤ 0) || its.toArray.isEmpty) = true := by rw [decide_eq_true (by omega)]; rfl
      have e : (List.replicate k.toNat xs).flatten = [] := by rw [h0]; rfl
      refine wpAny_binaryOp_repeat_ref (T := "tuple") (U := "int") (by decide) ⟨_, ho, rfl⟩ (fun s' => typeIs_int s' k t) noFill_tuple_mul F.fills_int_mul F.slot_int_rmul repeat_tuple F.slot_int_index.lookup
        (call_meets F.slot_int_rmul (typeIs_int s k t) F.entry_int_rmul (F.args_int_rmul_2 _ _) (int_rmul_tuple k t l its.toArray n dd sl)
          ⟨ho, rfl, ⟨_, ho, rfl⟩, call_meets F.slot_tuple_mul ⟨_, ho, rfl⟩ F.entry_tuple_mul (F.args_tuple_mul_2 _ _) (tuple_mul_none l its.toArray n dd sl k t c0 c1 c2) ⟨ho, ?_⟩⟩)
      rw [e] at q
      refine ⟨.ref s.heap.objs.size, _, I.laid (t' := s.toks) (o := .tup []) (fun b ob q => Heap.get?_push_of_some _ q) (Nat.le_refl _) ?_, rfl, q _ (I.hok.fresh (Nat.le_refl _))⟩
      exact ⟨Nat.zero_le _, [], .nil, IsTup.new _ _⟩
    · exact op_repT pins s σ H (.ref l) (.int k) _ _ Q I rfl ⟨t, rfl⟩ ⟨l, k, xs, rfl, rfl, hT, hn, by omega, h2, hz, q⟩
end G
/-! G.Vals: operators, calls, subscripts over data, by the layer's rules. -/
namespace G
open PySem L2

def Dom (ows : List Addr) (H : Hp) : Prop := ∀ a ∈ ows, H a ≠ none
def Grow (H H' : Hp) : Prop := H' = H ∨ ∃ p o, H p = none ∧ H' = upd H p o
/-- at most two new objects -/
def Grow2 (H H' : Hp) : Prop := ∃ H1, Grow H H1 ∧ Grow H1 H'
theorem Grow.two {H H' : Hp} (g : Grow H H') : Grow2 H H' := ⟨H, .inl rfl, g⟩
/-- what is wanted of the value z -/
def Fin (K : PySem.W.Frag) (ows : List Addr) (H : Hp) (z : D) (Q : VK) : Prop := ∀ v H', Grow2 H H' → Rep K (hid ows H') z v → Q v H'
/-- data, or a list of one's own as it is now -/
def RepV (K : PySem.W.Frag) (ows : List Addr) (H : Hp) (d : D) (v : V) : Prop :=
  Rep K (hid ows H) d v ∨ ∃ a xs vs, d = .lst xs ∧ v = .ref a ∧ H a = some (.lst vs) ∧ Reps K (hid ows H) xs vs
def RepVs (K : PySem.W.Frag) (ows : List Addr) (H : Hp) : List D → List V → Prop
  | [], vs => vs = []
  | d :: ds, vs => ∃ v r, vs = v :: r ∧ RepV K ows H d v ∧ RepVs K ows H ds r
section
variable {K : PySem.W.Frag} {ows : List Addr} {H : Hp} {Q : VK}
theorem RepV.int {i : Int} {v : V} (h : RepV K ows H (.int i) v) : v = .int i := by
  rcases h with h | ⟨_, _, _, e, _⟩
  · simpa only [Rep] using h
  · cases e
theorem RepV.bl {i : Bool} {v : V} (h : RepV K ows H (.bl i) v) : v = .bl i := by
  rcases h with h | ⟨_, _, _, e, _⟩
  · simpa only [Rep] using h
  · cases e
theorem RepV.str {i : Str} {v : V} (h : RepV K ows H (.str i) v) : v = .str i := by
  rcases h with h | ⟨_, _, _, e, _⟩
  · simpa only [Rep] using h
  · cases e
theorem RepV.non {v : V} (h : RepV K ows H .non v) : v = .non := by
  rcases h with h | ⟨_, _, _, e, _⟩
  · simpa only [Rep] using h
  · cases e
theorem RepV.tup {xs : List D} {v : V} (h : RepV K ows H (.tup xs) v) : Rep K (hid ows H) (.tup xs) v ∧ ∃ a vs, v = .ref a ∧ SqT K H a vs ∧ Reps K (hid ows H) xs vs := by
  rcases h with h | ⟨_, _, _, e, _⟩
  · refine ⟨h, ?_⟩
    simp only [Rep] at h
    obtain ⟨a, vs, e, h1, h2⟩ := h
    exact ⟨a, vs, e, Same.sqT (hid_same _ _) h1, h2⟩
  · cases e
theorem RepV.lst {xs : List D} {v : V} (h : RepV K ows H (.lst xs) v) : ∃ a vs, v = .ref a ∧ H a = some (.lst vs) ∧ Reps K (hid ows H) xs vs := by
  rcases h with h | ⟨a, ys, vs, e, h1, h2, h3⟩
  · simp only [Rep] at h
    obtain ⟨a, vs, e, h1, h2⟩ := h
    exact ⟨a, vs, e, hid_same _ _ _ _ h1, h2⟩
  · cases e
    exact ⟨a, vs, h1, h2, h3⟩
theorem RepV.frz {xs : List D} {v : V} (h : RepV K ows H (.frz xs) v) : ∃ a vs, v = .ref a ∧ SqL K H a vs ∧ Reps K (hid ows H) xs vs := by
  rcases h with h | ⟨_, _, _, e, _⟩
  · simp only [Rep] at h
    obtain ⟨a, vs, e, h1, h2⟩ := h
    exact ⟨a, vs, e, Same.seq (hid_same _ _) h1, h2⟩
  · cases e
theorem RepV.full {d : D} {v : V} (h : RepV K ows H d v) : Rep K H d v := by
  rcases h with h | ⟨a, ys, vs, rfl, h1, h2, h3⟩
  · exact h.mono (hid_same _ _)
  · simp only [Rep]
    exact ⟨a, vs, h1, h2, Reps.mono (hid_same _ _) _ _ h3⟩
theorem Fin.same {z : D} {v : V} (f : Fin K ows H z Q) (h : Rep K (hid ows H) z v) : Q v H := f v H (Grow.two (.inl rfl)) h
theorem Fin.int {i : Int} (f : Fin K ows H (.int i) Q) : Q (.int i) H := f.same (by simp only [Rep])
theorem Fin.bl {i : Bool} (f : Fin K ows H (.bl i) Q) : Q (.bl i) H := f.same (by simp only [Rep])
theorem Fin.str {i : Str} (f : Fin K ows H (.str i) Q) : Q (.str i) H := f.same (by simp only [Rep])
theorem dom_new (hd : Dom ows H) {p : Addr} (n : H p = none) : p ∉ ows := fun z => hd p z n
theorem Fin.lst {zs : List D} {vs : List V} (f : Fin K ows H (.lst zs) Q) (hd : Dom ows H) (r : Reps K (hid ows H) zs vs) (p : Addr) (n : H p = none) : Q (.ref p) (upd H p (.lst vs)) :=
  f _ _ (Grow.two (.inr ⟨p, _, n, rfl⟩)) (by
    simp only [Rep]
    exact ⟨p, vs, rfl, hid_of upd_same (dom_new hd n), Reps.mono (hid_new n) _ _ r⟩)
theorem Fin.tup {zs : List D} {vs : List V} (f : Fin K ows H (.tup zs) Q) (hd : Dom ows H) (r : Reps K (hid ows H) zs vs) (p : Addr) (n : H p = none) : Q (.ref p) (upd H p (.tup vs)) :=
  f _ _ (Grow.two (.inr ⟨p, _, n, rfl⟩)) (by
    simp only [Rep]
    exact ⟨p, vs, rfl, .inl (.inl (hid_of upd_same (dom_new hd n))), Reps.mono (hid_new n) _ _ r⟩)
end
/-- two data in, one out -/
def rD (K : PySem.W.Frag) (F : D → D → Option D) : R2 := fun x y H Q => ∃ ows a b z, Dom ows H ∧ RepV K ows H a x ∧ RepV K ows H b y ∧ F a b = some z ∧ Fin K ows H z Q
def rCD (K : PySem.W.Frag) (F : List D → Option D) : List V → Hp → VK → Prop := fun vs H Q => ∃ ows ds z, Dom ows H ∧ RepVs K ows H ds vs ∧ F ds = some z ∧ Fin K ows H z Q
theorem OpR.imp {X : Cx} {f : Value → Value → Sem Value} {r r' : R2} (h : OpR X f r) (k : ∀ x y H Q, r' x y H Q → r x y H Q) : OpR X f r' := fun pins s σ H x y v u Q I rx ry q => h pins s σ H x y v u Q I rx ry (k _ _ _ _ q)
theorem big_line : big ≤ sizeLine := by decide
section
variable {X : Cx}
theorem op_of {f : Value → Value → Sem Value} {F : D → D → Option D} (h : ∀ pins s σ H x y v u Q ows a b z, Inv X pins σ H s → RelV x v → RelV y u → Dom ows H → RepV X.K ows H a x → RepV X.K ows H b y → F a b = some z → Fin X.K ows H z Q →
    wpAny (model X.prog X.w) X.A (f v u) (EP X pins σ Q) X.xe s) : OpR X f (rD X.K F) := fun pins s σ H x y v u Q I rx ry ⟨ows, a, b, z, hd, ha, hb, e, f⟩ => h pins s σ H x y v u Q ows a b z I rx ry hd ha hb e f
theorem opD_add : OpR X (binaryOp .Add) (rD X.K (binv .add)) := op_of fun pins s σ H x y v u Q ows a b z I rx ry hd ha hb e f => by
  unfold binv at e
  split at e
  all_goals try contradiction
  · cases e
    rw [ha.int] at rx; rw [hb.int] at ry
    exact op_add pins s σ H _ _ _ _ Q I rx ry ⟨_, _, rfl, rfl, f.int⟩
  · rw [ha.str] at rx; rw [hb.str] at ry
    split at e <;> cases e
    exact op_add_str pins s σ H _ _ _ _ Q I rx ry ⟨_, _, rfl, rfl, Nat.le_trans (by assumption) big_line, f.str⟩
  · split at e <;> cases e
    obtain ⟨r1, p, vs, rfl, h1, h2⟩ := ha.tup
    obtain ⟨r2, q, us, rfl, h3, h4⟩ := hb.tup
    have l1 := h2.length
    have l2 := h4.length
    have bl := big_line
    refine op_catA pins s σ H _ _ _ _ Q I rx ry ⟨p, q, vs, us, rfl, rfl, h1, h3, by omega, fun e => ?_, fun n e => ?_, fun n m => f.tup hd (h2.append h4)⟩
    · subst e
      rename_i xs ys _ _
      have : xs = [] := List.eq_nil_of_length_eq_zero l1.symm
      subst this
      exact f.same r2
    · subst e
      rename_i xs ys _ _
      have : ys = [] := List.eq_nil_of_length_eq_zero l2.symm
      subst this
      rw [List.append_nil] at f
      exact f.same r1
  · split at e <;> cases e
    obtain ⟨p, vs, rfl, h1, h2⟩ := ha.lst
    obtain ⟨q, us, rfl, h3, h4⟩ := hb.lst
    have l1 := h2.length
    have l2 := h4.length
    have bl := big_line
    exact op_cat pins s σ H _ _ _ _ Q I rx ry ⟨p, q, vs, us, rfl, rfl, h1, h3, by omega, f.lst hd (h2.append h4)⟩
theorem opD_sub : OpR X (binaryOp .Sub) (rD X.K (binv .sub)) := op_of fun pins s σ H x y v u Q ows a b z I rx ry hd ha hb e f => by
  unfold binv at e
  split at e
  all_goals try contradiction
  cases e
  rw [ha.int] at rx; rw [hb.int] at ry
  exact op_sub pins s σ H _ _ _ _ Q I rx ry ⟨_, _, rfl, rfl, f.int⟩
theorem opD_mul : OpR X (binaryOp .Mult) (rD X.K (binv .mul)) := op_of fun pins s σ H x y v u Q ows a b z I rx ry hd ha hb e f => by
  unfold binv at e
  split at e
  all_goals try contradiction
  · rw [ha.int] at rx; rw [hb.int] at ry
    split at e <;> cases e
    rename_i m
    unfold mulOk at m
    simp only [Bool.or_eq_true, Bool.and_eq_true, decide_eq_true_eq] at m
    exact op_mul pins s σ H _ _ _ _ Q I rx ry ⟨_, _, rfl, rfl, m, f.int⟩
  · split at e <;> cases e
    rename_i hk
    obtain ⟨h1, h2, h3⟩ := hk
    obtain ⟨r1, p, vs, rfl, h4, h5⟩ := ha.tup
    have hb' := hb.int
    subst hb'
    have l1 := h5.length
    refine op_repA pins s σ H _ _ _ _ Q I rx ry ⟨p, _, vs, rfl, rfl, h4, h2, h3, by omega, fun e => ?_, f.tup hd (h5.rep _)⟩
    rcases e with rfl | rfl
    · rename_i xs _ _
      have : xs = [] := List.eq_nil_of_length_eq_zero l1.symm
      subst this
      have e2 : ∀ k, repD [] k = [] := fun k => by unfold repD; exact List.flatten_eq_nil_iff.mpr fun l hl => List.eq_of_mem_replicate hl
      rw [e2] at f
      exact f.same r1
    · have e2 : ∀ xs : List D, repD xs 1 = xs := fun xs => by show [xs].flatten = xs; simp
      rw [e2] at f
      exact f.same r1
  · split at e <;> cases e
    rename_i hk
    obtain ⟨h1, h2, h3⟩ := hk
    obtain ⟨p, vs, rfl, h4, h5⟩ := ha.lst
    have hb' := hb.int
    subst hb'
    have l1 := h5.length
    refine op_rep pins s σ H _ _ _ _ Q I rx ry ⟨p, _, vs, rfl, rfl, h4, by omega, by omega, ?_, f.lst hd (h5.rep _)⟩
    have : vs.length * Int.toNat _ ≤ 1000 * 1000 := Nat.mul_le_mul (by rw [l1]; exact h1) (Int.toNat_le.mpr h3)
    have bl := big_line
    unfold big at bl
    omega
theorem opD_fdiv : OpR X (binaryOp .FloorDiv) (rD X.K (binv .fdiv)) := op_of fun pins s σ H x y v u Q ows a b z I rx ry hd ha hb e f => by
  unfold binv at e
  split at e
  all_goals try contradiction
  rw [ha.int] at rx; rw [hb.int] at ry
  split at e <;> cases e
  rename_i m
  exact op_fdivN pins s σ H _ _ _ _ Q I rx ry ⟨_, _, rfl, rfl, m, f.int⟩
theorem opD_mod : OpR X (binaryOp .Mod) (rD X.K (binv .mod)) := op_of fun pins s σ H x y v u Q ows a b z I rx ry hd ha hb e f => by
  unfold binv at e
  split at e
  all_goals try contradiction
  rw [ha.int] at rx; rw [hb.int] at ry
  split at e <;> cases e
  rename_i m
  exact op_modN pins s σ H _ _ _ _ Q I rx ry ⟨_, _, rfl, rfl, m, f.int⟩
theorem opD_pow : OpR X (binaryOp .Pow) (rD X.K (binv .pow)) := op_of fun pins s σ H x y v u Q ows a b z I rx ry hd ha hb e f => by
  unfold binv at e
  split at e
  all_goals try contradiction
  rw [ha.int] at rx; rw [hb.int] at ry
  split at e <;> cases e
  rename_i m
  exact op_pow pins s σ H _ _ _ _ Q I rx ry ⟨_, _, rfl, rfl, ⟨m.1, by omega, m.2.2⟩, f.int⟩
def opOf : Bop → Operator
  | .add => .Add | .sub => .Sub | .mul => .Mult | .fdiv => .FloorDiv | .mod => .Mod | .pow => .Pow
theorem opD (o : Bop) : OpR X (binaryOp (opOf o)) (rD X.K (binv o)) := by
  cases o
  · exact opD_add
  · exact opD_sub
  · exact opD_mul
  · exact opD_fdiv
  · exact opD_mod
  · exact opD_pow
end

/-! ### comparisons -/
theorem Rep.isNon {K : PySem.W.Frag} {H : Hp} {d : D} {v : V} (h : Rep K H d v) : decide (v = V.non) = d.isNon := by
  cases d <;> simp only [Rep] at h
  case non => subst h; rfl
  case bl => subst h; rfl
  case int => subst h; rfl
  case str => subst h; rfl
  all_goals (obtain ⟨a, vs, rfl, _⟩ := h; rfl)
def rC (K : PySem.W.Frag) (o : Cop) : R2 := rD K fun a b => (cmpv o a b).map .bl
section
variable {X : Cx}
theorem op_cmp {f : Value → Value → Sem Value} {o : Cop} (h : ∀ pins s σ H x y v u Q ows a b t, Inv X pins σ H s → RelV x v → RelV y u → Dom ows H → RepV X.K ows H a x → RepV X.K ows H b y → cmpv o a b = some t → Q (.bl t) H →
    wpAny (model X.prog X.w) X.A (f v u) (EP X pins σ Q) X.xe s) : OpR X f (rC X.K o) := op_of fun pins s σ H x y v u Q ows a b z I rx ry hd ha hb e g => by
  obtain ⟨t, e1, e2⟩ := Option.map_eq_some_iff.mp e
  subst e2
  exact h pins s σ H x y v u Q ows a b t I rx ry hd ha hb e1 g.bl
theorem opC_eq (hu : X.A.units + 64 < cLine) : OpR X (compareOp .Eq) (rC X.K .eq) := op_cmp fun pins s σ H x y v u Q ows a b t I rx ry hd ha hb e q => by
  have e : (if D.shp 60 a && D.shp 60 b then some (D.eq a b) else none) = some t := e
  split at e <;> cases e
  rename_i m
  rw [Bool.and_eq_true] at m
  have q' := q
  rw [← eq_py a b 60 60 m.1 m.2] at q'
  exact op_eqD hu pins s σ H _ _ _ _ Q I rx ry ⟨_, _, Rep.dp _ _ 60 m.1 ha.full, Rep.dp _ _ 60 m.2 hb.full, shaped_of m.1, shaped_of m.2, q'⟩
theorem opC_ne (hu : X.A.units + 64 < cLine) : OpR X (compareOp .NotEq) (rC X.K .ne) := op_cmp fun pins s σ H x y v u Q ows a b t I rx ry hd ha hb e q => by
  have e : (if D.shp 60 a && D.shp 60 b then some (!D.eq a b) else none) = some t := e
  split at e <;> cases e
  rename_i m
  rw [Bool.and_eq_true] at m
  have q' := q
  rw [← eq_py a b 60 60 m.1 m.2] at q'
  exact op_neD hu pins s σ H _ _ _ _ Q I rx ry ⟨_, _, Rep.dp _ _ 60 m.1 ha.full, Rep.dp _ _ 60 m.2 hb.full, shaped_of m.1, shaped_of m.2, q'⟩
theorem opC_lt : OpR X (compareOp .Lt) (rC X.K .lt) := op_cmp fun pins s σ H x y v u Q ows a b t I rx ry hd ha hb e q => by
  unfold cmpv at e
  split at e
  all_goals try contradiction
  cases e
  rw [ha.int] at rx; rw [hb.int] at ry
  exact op_lt pins s σ H _ _ _ _ Q I rx ry ⟨_, _, rfl, rfl, q⟩
theorem opC_le : OpR X (compareOp .LtE) (rC X.K .le) := op_cmp fun pins s σ H x y v u Q ows a b t I rx ry hd ha hb e q => by
  unfold cmpv at e
  split at e
  all_goals try contradiction
  cases e
  rw [ha.int] at rx; rw [hb.int] at ry
  exact op_le pins s σ H _ _ _ _ Q I rx ry ⟨_, _, rfl, rfl, q⟩
theorem opC_gt : OpR X (compareOp .Gt) (rC X.K .gt) := op_cmp fun pins s σ H x y v u Q ows a b t I rx ry hd ha hb e q => by
  unfold cmpv at e
  split at e
  all_goals try contradiction
  cases e
  rw [ha.int] at rx; rw [hb.int] at ry
  exact op_gt pins s σ H _ _ _ _ Q I rx ry ⟨_, _, rfl, rfl, q⟩
theorem opC_ge : OpR X (compareOp .GtE) (rC X.K .ge) := op_cmp fun pins s σ H x y v u Q ows a b t I rx ry hd ha hb e q => by
  unfold cmpv at e
  split at e
  all_goals try contradiction
  cases e
  rw [ha.int] at rx; rw [hb.int] at ry
  exact op_ge pins s σ H _ _ _ _ Q I rx ry ⟨_, _, rfl, rfl, q⟩
theorem Reps.full {K : PySem.W.Frag} {ows : List Addr} {H : Hp} {ds : List D} {vs : List V} (h : Reps K (hid ows H) ds vs) : Reps K H ds vs := Reps.mono (hid_same _ _) _ _ h
theorem opC_in : OpR X (compareOp .In) (rC X.K .isin) := op_cmp fun pins s σ H x y v u Q ows a b t I rx ry hd ha hb e q => by
  unfold cmpv at e
  split at e
  all_goals try contradiction
  all_goals (split at e <;> cases e)
  all_goals (rename_i m; rw [Bool.and_eq_true] at m)
  · obtain ⟨_, p, vs, rfl, h1, h2⟩ := hb.tup
    rw [← Reps.inV ha.full m.1 h2.full m.2] at q
    exact op_in_seq pins s σ H _ _ _ _ Q I rx ry ⟨p, vs, rfl, .inr h1, ha.full.flatV m.1, h2.flatV m.2, q⟩
  · obtain ⟨p, vs, rfl, h1, h2⟩ := hb.lst
    rw [← Reps.inV ha.full m.1 h2.full m.2] at q
    exact op_in_seq pins s σ H _ _ _ _ Q I rx ry ⟨p, vs, rfl, .inl (SqL.of h1), ha.full.flatV m.1, h2.flatV m.2, q⟩
theorem opC_notin : OpR X (compareOp .NotIn) (rC X.K .notin) := op_cmp fun pins s σ H x y v u Q ows a b t I rx ry hd ha hb e q => by
  unfold cmpv at e
  split at e
  all_goals try contradiction
  all_goals (split at e <;> cases e)
  all_goals (rename_i m; rw [Bool.and_eq_true] at m)
  · obtain ⟨_, p, vs, rfl, h1, h2⟩ := hb.tup
    rw [← Reps.inV ha.full m.1 h2.full m.2] at q
    exact op_notIn_seq pins s σ H _ _ _ _ Q I rx ry ⟨p, vs, rfl, .inr h1, ha.full.flatV m.1, h2.flatV m.2, q⟩
  · obtain ⟨p, vs, rfl, h1, h2⟩ := hb.lst
    rw [← Reps.inV ha.full m.1 h2.full m.2] at q
    exact op_notIn_seq pins s σ H _ _ _ _ Q I rx ry ⟨p, vs, rfl, .inl (SqL.of h1), ha.full.flatV m.1, h2.flatV m.2, q⟩
theorem opC_is : OpR X (compareOp .Is) (rC X.K .is) := op_cmp fun pins s σ H x y v u Q ows a b t I rx ry hd ha hb e q => by
  unfold cmpv at e
  split at e
  all_goals try contradiction
  · rw [hb.non] at ry
    cases e
    have q' : Q (.bl (decide (x = V.non))) H := by rw [ha.full.isNon]; exact q
    exact op_isN pins s σ H _ _ _ _ Q I rx ry ⟨rfl, q'⟩
  · cases e
    rw [ha.bl] at rx; rw [hb.bl] at ry
    exact op_is_bl pins s σ H _ _ _ _ Q I rx ry ⟨_, _, rfl, rfl, q⟩
theorem opC_isnot : OpR X (compareOp .IsNot) (rC X.K .isnot) := op_cmp fun pins s σ H x y v u Q ows a b t I rx ry hd ha hb e q => by
  unfold cmpv at e
  split at e
  all_goals try contradiction
  · rw [hb.non] at ry
    cases e
    have q' : Q (.bl (!decide (x = V.non))) H := by
      rw [ha.full.isNon]
      exact q
    exact op_notN pins s σ H _ _ _ _ Q I rx ry ⟨rfl, q'⟩
  · cases e
    rw [ha.bl] at rx; rw [hb.bl] at ry
    exact op_isnot_bl pins s σ H _ _ _ _ Q I rx ry ⟨_, _, rfl, rfl, q⟩
def cOf : Cop → CmpOp
  | .eq => .Eq | .ne => .NotEq | .lt => .Lt | .le => .LtE | .gt => .Gt | .ge => .GtE | .isin => .In | .notin => .NotIn | .is => .Is | .isnot => .IsNot
theorem opC (hu : X.A.units + 64 < cLine) (o : Cop) : OpR X (compareOp (cOf o)) (rC X.K o) := by
  cases o
  · exact opC_eq hu
  · exact opC_ne hu
  · exact opC_lt
  · exact opC_le
  · exact opC_gt
  · exact opC_ge
  · exact opC_in
  · exact opC_notin
  · exact opC_is
  · exact opC_isnot
theorem OpR.or {f : Value → Value → Sem Value} {r r' : R2} (h : OpR X f r) (h' : OpR X f r') : OpR X f (fun x y H Q => r x y H Q ∨ r' x y H Q) := fun pins s σ H x y v u Q I rx ry q => by
  rcases q with q | q
  · exact h pins s σ H x y v u Q I rx ry q
  · exact h' pins s σ H x y v u Q I rx ry q
/-- .. and x in a dict -/
def rCN (P : Program) (w : World) (K : PySem.W.Frag) (o : Cop) : R2 := fun x y H Q => rC K o x y H Q ∨ (o = .isin ∧ rInN P w K false x y H Q) ∨ (o = .notin ∧ rInN P w K true x y H Q)
theorem opCN (hu : X.A.units + 64 < cLine) (o : Cop) : OpR X (compareOp (cOf o)) (rCN X.prog X.w X.K o) := fun pins s σ H x y v u Q I rx ry q => by
  rcases q with q | ⟨rfl, q⟩ | ⟨rfl, q⟩
  · exact opC hu o pins s σ H x y v u Q I rx ry q
  · exact op_inN (by omega) pins s σ H x y v u Q I rx ry q
  · exact op_notinN (by omega) pins s σ H x y v u Q I rx ry q

/-! ### subscripts, slices -/
theorem atD_at {K : PySem.W.Frag} {H : Hp} {ds : List D} {vs : List V} (h : Reps K H ds vs) {i : Int} {d : D} (e : atD ds i = some d) : ∃ v, atI vs i = some v ∧ Rep K H d v := by
  unfold atD at e
  have l := h.length
  unfold atI ixN
  split at e
  · rename_i h0
    obtain ⟨v, h1, h2⟩ := h.get e
    have hl := (List.getElem?_eq_some_iff.mp h1).1
    rw [if_pos h0, if_pos (by omega)]
    exact ⟨v, h1, h2⟩
  · rename_i h0
    split at e
    · rename_i h1
      rw [if_neg h0, if_pos (by rw [l]; exact h1), l]
      exact h.get e
    · cases e
theorem ixD : IxR X (rD X.K idxv) := by
  intro value slice pins s σ H x y v u Q I rx ry ⟨ows, a, b, z, hd, ha, hb, e, f⟩ hs
  unfold idxv at e
  split at e
  all_goals try contradiction
  · obtain ⟨_, p, vs, rfl, h1, h2⟩ := ha.tup
    rw [hb.int] at ry
    obtain ⟨w, g1, g2⟩ := atD_at h2 e
    exact ix_tup value slice pins s σ H _ _ _ _ Q I rx ry ⟨p, vs, _, w, rfl, rfl, h1, g1, f.same g2⟩ hs
  · obtain ⟨p, vs, rfl, h1, h2⟩ := ha.lst
    rw [hb.int] at ry
    obtain ⟨w, g1, g2⟩ := atD_at h2 e
    exact ix_list value slice pins s σ H _ _ _ _ Q I rx ry ⟨p, vs, _, w, rfl, rfl, SqL.of h1, g1, f.same g2⟩ hs
  · obtain ⟨p, vs, rfl, h1, h2⟩ := ha.frz
    rw [hb.int] at ry
    obtain ⟨w, g1, g2⟩ := atD_at h2 e
    exact ix_list value slice pins s σ H _ _ _ _ Q I rx ry ⟨p, vs, _, w, rfl, rfl, h1, g1, f.same g2⟩ hs
/-- .. or d[k] of a dict -/
def rIxN (P : Program) (w : World) (K : PySem.W.Frag) : R2 := fun x y H Q => rD K idxv x y H Q ∨ rGetN P w K x y H Q
theorem ixN (hu : X.A.units + 64 < cLine) : IxR X (rIxN X.prog X.w X.K) := ixD.or (ix_dct (by omega))
def rSlD (K : PySem.W.Frag) : V → Option Int → Option Int → Hp → VK → Prop := fun x lo hi H Q => ∃ ows a z, Dom ows H ∧ RepV K ows H a x ∧ slv a lo hi = some z ∧ Fin K ows H z Q
theorem bnd_eq (n d : Nat) (x : Option Int) : bnd n d x = HT.sIx n d x := by cases x <;> rfl
theorem slD : SlR X (rSlD X.K) := by
  intro pins s σ H x v vl vu lo hi sl Q I rx hs pl pu ⟨ows, a, z, hd, ha, e, f⟩
  unfold slv at e
  split at e
  all_goals try contradiction
  · cases e
    obtain ⟨r, p, vs, rfl, h1, h2⟩ := ha.tup
    have l := h2.length
    refine sl_tupA pins s σ H _ _ _ _ lo hi sl Q I rx hs pl pu ⟨p, vs, rfl, h1, fun w => ?_, fun _ => f.tup hd (h2.cut lo hi)⟩
    rename_i xs
    have e2 : cut xs lo hi = xs := by
      unfold cut
      rw [bnd_eq, bnd_eq, ← l, w.1, w.2, l]
      simp
    rw [e2] at f
    exact f.same r
  · cases e
    obtain ⟨p, vs, rfl, h1, h2⟩ := ha.lst
    exact sl_list pins s σ H _ _ _ _ lo hi sl Q I rx hs pl pu ⟨p, vs, rfl, SqL.of h1, f.lst hd (h2.cut lo hi)⟩
  · split at e <;> cases e
    rw [ha.str] at rx
    refine sl_str pins s σ H _ _ _ _ lo hi sl Q I rx hs pl pu ⟨_, rfl, Nat.le_trans (by assumption) big_line, ?_⟩
    exact f.str
end
end G
/-! G.SetU: sorted lists without repetitions. -/
namespace G
theorem insU_mem (a k : Int) : ∀ l, k ∈ insU a l ↔ k = a ∨ k ∈ l
  | [] => by simp [insU]
  | b :: r => by
    unfold insU
    split
    · simp
    · split
      · rename_i h; subst h; simp
      · simp only [List.mem_cons, insU_mem a k r]
        constructor
        · rintro (h | h | h)
          · exact .inr (.inl h)
          · exact .inl h
          · exact .inr (.inr h)
        · rintro (h | h | h)
          · exact .inr (.inl h)
          · exact .inl h
          · exact .inr (.inr h)
theorem sortU_mem (k : Int) : ∀ l, k ∈ sortU l ↔ k ∈ l
  | [] => by simp [sortU]
  | a :: r => by simp [sortU, insU_mem, sortU_mem k r]
theorem insU_up (a : Int) : ∀ l : List Int, l.Pairwise (· < ·) → (insU a l).Pairwise (· < ·)
  | [], _ => List.pairwise_singleton _ _
  | b :: r, h => by
    obtain ⟨h1, h2⟩ := List.pairwise_cons.mp h
    unfold insU
    split
    · rename_i q
      exact List.pairwise_cons.mpr ⟨fun x hx => by
        rcases List.mem_cons.mp hx with rfl | hx
        · exact q
        · exact Int.lt_trans q (h1 x hx), h⟩
    · split
      · exact h
      · rename_i q1 q2
        refine List.pairwise_cons.mpr ⟨fun x hx => ?_, insU_up a r h2⟩
        rcases (insU_mem a x r).1 hx with rfl | hx
        · omega
        · exact h1 x hx
theorem sortU_up : ∀ l : List Int, (sortU l).Pairwise (· < ·)
  | [] => .nil
  | a :: r => insU_up a _ (sortU_up r)
theorem nodup_up {l : List Int} (h : l.Pairwise (· < ·)) : l.Nodup := h.imp fun h => Int.ne_of_lt h
theorem sortU_the {l m : List Int} (u : m.Pairwise (· < ·)) (e : ∀ k, k ∈ m ↔ k ∈ l) : m = sortU l :=
  List.Perm.eq_of_pairwise (fun x y _ _ h1 h2 => absurd h2 (Int.not_lt.2 (Int.le_of_lt h1))) u (sortU_up l) ((List.perm_ext_iff_of_nodup (nodup_up u) (nodup_up (sortU_up l))).2 fun k => (e k).trans (sortU_mem k l).symm)
end G
/-! G.SetL: set(l) of a list of ints. -/
namespace G
open PySem PySem.Spec PyProof.Rows L2
/-- the empty set as it is made -/
abbrev so (w : World) : Obj := { cls := .type "set", dict := none, data := .set #[] 0 (.fresh 0 0 (!w.params.followText "set-order")) }
section
variable {P : Program} {w : World} {A : Around} {E : Value → Shared → Prop} {s : Shared}
abbrev SetMade (w : World) (s : Shared) (ns : List Int) (s2 : Shared) : Prop := ∃ h' tk c, s2 = { s with heap := h', toks := tk } ∧ SetR w h' s.heap.objs.size (fun j => decide (j ∈ ns)) c ∧ c ≤ ns.length ∧ (∀ b o, s.heap.get? b = some o → h'.get? b = some o)
theorem call_set_lst {l : Addr} {its : Array Value} (ns : List Int) {Q : Value → Shared → Prop} (nh : A.handled = none) (isl : s.heap.IsList l its) (are : IntsAre its.toList ns) (few : ns.length + 1 < scanBound)
    (k : ∀ s2, SetMade w s ns s2 → Q (.ref s.heap.objs.size) s2) : wpAny (model P w) A (call (.type "set") [.ref l]) Q E s := by
  have zs : its.size = ns.length := (Array.length_toList (xs := its)).symm.trans (IntsAre.length are)
  obtain ⟨c0, tl0, m0⟩ := F.called_set.mro
  have made0 := F.called_set.made
  have sub0 := F.called_set.sub
  refine wpAny_call (codeAny_of_tree ?_); show wpAny _ _ (callAny (.type "set") _) _ _ _
  refine wpAny_pure ⟨Code.quiet_builtin _ (by decide +kernel), codeAny_builtin F.entry_type_call ?_⟩; rw [Around.under_plain (weight_type_call_type "set" [.ref l] []) rfl]
  have nt := F.called_set.notType
  have cc := F.called_set.canCreate
  have ct := F.typeCall_set_1 (.ref l)
  all_goals repeat (any_goals (first | assumption | wp_step))
  refine codeAny_mono (code_set_led1 (.ref l) (E := E) (Q₁ := fun x s1 => x = .ref s.heap.objs.size ∧ s1 = { s with heap := s.heap.push (so w) }) ⟨rfl, rfl⟩) fun r s1 hr => ?_
  cases r with
  | error e => exact hr
  | ok fl =>
    cases fl with
    | ret x =>
      obtain ⟨rfl, rfl⟩ := hr
      have gS : (s.heap.push (so w)).get? s.heap.objs.size = some (so w) := Heap.get?_push_size _ rfl
      have tS : Shared.TypeIs { s with heap := s.heap.push (so w) } (.ref s.heap.objs.size) "set" := ⟨_, gS, rfl⟩
      have il := F.called_set.init.lookup
      have ib := F.called_set.init.bind (.ref s.heap.objs.size)
      all_goals repeat (any_goals (first | assumption | wp_step))
      refine codeAny_mono (codeAny_call_builtin (R := wants (fun r s2 => r = .none ∧ SetMade w s ns s2) E) F.called_set.init.plain F.entry_set_init (check_set_init_1 tS ?_)) fun r2 s2 hr2 => ?_
      · obtain ⟨ol, q1, q2, nl, q3⟩ := isl
        obtain ⟨oc, od, odt, osl⟩ := ol
        simp only at q2 q3
        subst q2 q3
        have q1' : (s.heap.push (so w)).get? l = some { cls := .type "list", dict := od, data := .seq its nl, slots := osl } := Heap.get?_push_of_some _ q1
        have s1 := F.sub_list_set
        have s2 := F.sub_list_frozenset
        have nd : (Value.type "list" == Value.type "dict") = false := by decide
        have isl1 : (s.heap.push (so w)).IsList l its := ⟨_, q1', rfl, nl, rfl⟩
        unfold Builtin.«set.__init__» noKeywords Builtin.Frozenset.updateFrom
        generalize hPI : pyIter = PI; wp_walk
        subst hPI
        refine wpAny_pyIter_list isl1 ?_
        refine wpAny_bind (wpAny_runValue ?_)
        have lt : l < s.heap.objs.size := Heap.lt_size q1
        have nh3 : A.in1.in1.in1.handled = none := by simp [nh]
        have nI : l ≠ (s.heap.push (so w)).objs.size := by rw [Heap.size_push]; exact Nat.ne_of_lt (Nat.lt_succ_of_lt lt)
        have nF : s.heap.objs.size ∉ [(s.heap.push (so w)).objs.size, l] := by
          rw [Heap.size_push]
          simp only [List.mem_cons, List.not_mem_nil, or_false, not_or]
          exact ⟨Nat.ne_of_lt (Nat.lt_succ_self _), Nat.ne_of_gt lt⟩
        have item : ∀ (i : Nat) (v : Value), its[i]? = some v → ∃ k t, ns[i]? = some k ∧ v = .int k t := fun i v hv => by
          have lti : i < ns.length := zs ▸ (Array.getElem?_eq_some_iff.mp hv).1
          obtain ⟨t, e⟩ := IntsAre.int_at are i v (by rw [Array.getElem?_toList]; exact hv)
          refine ⟨ns[i], t, List.getElem?_eq_getElem lti, ?_⟩
          rw [e]
          simp [List.getD, lti]
        refine set_update_ints ((Walks.list nh3 _ l nI its).toS) s.heap.objs.size nF ns zs few item (its.size - 0) 0 _ (by omega) (Nat.zero_le _) ⟨⟨_, Heap.get?_push_size _ rfl, rfl, rfl⟩, isl1.push _⟩ ?st ?go
        case st => exact ⟨0, Nat.le_refl 0, setR_new_at (Heap.get?_push_of_some _ gS)⟩
        case go =>
          intro s' c' mv hc hS
          obtain ⟨h', g2, d', tk', os'⟩ := s'
          cases (show g2 = s.gens from mv.gens)
          cases (show d' = s.drawn from mv.drawn)
          cases (show os' = s.os from mv.os)
          show wpAny _ _ _ _ _ _
          refine wpAny_pure ?_; show wpAny _ _ (ret Value.none) _ _ _
          rw [zs] at hc
          refine wpAny_pure ⟨rfl, h', tk', c', rfl, hS, hc, fun b o e => ?_⟩
          have b0 : b < s.heap.objs.size := Heap.lt_size e
          refine mv.heap b o ?_ (Heap.get?_push_of_some _ (Heap.get?_push_of_some _ e))
          rw [Heap.size_push]
          simp only [List.mem_cons, List.not_mem_nil, or_false, not_or]
          exact ⟨Nat.ne_of_lt b0, Nat.ne_of_lt (Nat.lt_succ_of_lt b0)⟩
      · cases r2 with
        | error e => exact hr2
        | ok f2 =>
          cases f2 with
          | ret r =>
            obtain ⟨rfl, sm⟩ := hr2
            have sm' := sm
            obtain ⟨h', tk, c, rfl, _⟩ := sm
            all_goals repeat (any_goals (first | assumption | wp_step))
            exact k _ sm'
          | _ => exact hr2.elim
    | _ => exact hr.elim
end
theorem setR_count {w : World} {h : Heap} {a : Addr} {ns : List Int} {c : Nat} (R : SetR w h a (fun j => decide (j ∈ ns)) c) : c = (sortU ns).length := by
  obtain ⟨o, es, ep, t, _, _, _, _, nd, mem, _, _, sz, _, _⟩ := R
  have p : (es.toList.map keyOf).Perm (sortU ns) := (List.perm_ext_iff_of_nodup nd (nodup_up (sortU_up ns))).2 fun k => by
    rw [← mem k, sortU_mem]
    simp
  have := p.length_eq
  rw [List.length_map, Array.length_toList, sz] at this
  exact this
/-- set(l) -/
def rMkSet (w : World) (K : PySem.W.Frag) : List V → Hp → VK → Prop := fun vs H Q => ∃ (p : Addr) (ns : List Int), vs = [.ref p] ∧ SqL K H p (ns.map V.int) ∧ ns.length + 1 < scanBound ∧
  ∀ a c, H a = none → c = (sortU ns).length → Q (.ref a) (upd H a (SetO w a (fun j => decide (j ∈ ns)) c))
section
variable {X : Cx}
theorem cr_mkSet (hc : X.calm = true) : CallR X (.type "set") (rMkSet X.w X.K) := by
  intro pins s σ H xs us Q I r h
  obtain ⟨p, ns, rfl, hs, few, q⟩ := h
  rw [Vals.ref1 r]
  obtain ⟨its, rv, ⟨o, n, ho, hcl, hdn, hd⟩, hlen⟩ := I.list hs
  refine call_set_lst ns (I.ok.hd hc) ⟨o, ho, hcl, n, hd⟩ (by simpa using ints_of_vals rv) few fun s2 ⟨h', tk, c, e, hR, hcn, hk⟩ => ?_
  subst e
  have hn : H s.heap.objs.size = none := I.hok.fresh (Nat.le_refl _)
  exact ⟨.ref _, upd H s.heap.objs.size (SetO X.w s.heap.objs.size (fun j => decide (j ∈ ns)) c), I.laid (t' := tk) hk (Nat.le_refl _) (setO_new hR), rfl, q _ _ hn (setR_count hR)⟩
end
end G
/-! G.Blts: calls of built-ins over data. -/
namespace G
open PySem L2
section
variable {K : PySem.W.Frag} {ows : List Addr} {H : Hp} {Q : VK}
theorem RepVs.one {d : D} {vs : List V} (h : RepVs K ows H [d] vs) : ∃ v, vs = [v] ∧ RepV K ows H d v := by
  obtain ⟨v, r, rfl, h1, h2⟩ := h
  cases h2
  exact ⟨v, rfl, h1⟩
theorem RepVs.two {d e : D} {vs : List V} (h : RepVs K ows H [d, e] vs) : ∃ v u, vs = [v, u] ∧ RepV K ows H d v ∧ RepV K ows H e u := by
  obtain ⟨v, r, rfl, h1, h2⟩ := h
  obtain ⟨u, rfl, h3⟩ := RepVs.one h2
  exact ⟨v, u, rfl, h1, h3⟩
theorem reps_ints : ∀ {ds : List D} {vs : List V} {ns : List Int}, Reps K H ds vs → intsD ds = some ns → vs = ns.map V.int
  | [], _, _, h, e => by simp only [Reps] at h; simp only [intsD, Option.some.injEq] at e; subst h; subst e; rfl
  | .int i :: ds, vs, ns, h, e => by
    simp only [Reps, Rep] at h
    obtain ⟨v, r, rfl, rfl, h2⟩ := h
    simp only [intsD, Option.map_eq_some_iff] at e
    obtain ⟨ms, e1, rfl⟩ := e
    rw [reps_ints h2 e1, List.map_cons]
  | .non :: _, _, _, _, e => by simp [intsD] at e
  | .bl _ :: _, _, _, _, e => by simp [intsD] at e
  | .str _ :: _, _, _, _, e => by simp [intsD] at e
  | .tup _ :: _, _, _, _, e => by simp [intsD] at e
  | .lst _ :: _, _, _, _, e => by simp [intsD] at e
  | .frz _ :: _, _, _, _, e => by simp [intsD] at e
  | .err _ _ :: _, _, _, _, e => by simp [intsD] at e
theorem reps_bls : ∀ {ds : List D} {vs : List V} {ns : List Bool}, Reps K H ds vs → blsD ds = some ns → vs = ns.map V.bl
  | [], _, _, h, e => by simp only [Reps] at h; simp only [blsD, Option.some.injEq] at e; subst h; subst e; rfl
  | .bl i :: ds, vs, ns, h, e => by
    simp only [Reps, Rep] at h
    obtain ⟨v, r, rfl, rfl, h2⟩ := h
    simp only [blsD, Option.map_eq_some_iff] at e
    obtain ⟨ms, e1, rfl⟩ := e
    rw [reps_bls h2 e1, List.map_cons]
  | .non :: _, _, _, _, e => by simp [blsD] at e
  | .int _ :: _, _, _, _, e => by simp [blsD] at e
  | .str _ :: _, _, _, _, e => by simp [blsD] at e
  | .tup _ :: _, _, _, _, e => by simp [blsD] at e
  | .lst _ :: _, _, _, _, e => by simp [blsD] at e
  | .frz _ :: _, _, _, _, e => by simp [blsD] at e
  | .err _ _ :: _, _, _, _, e => by simp [blsD] at e
theorem ints_reps : ∀ ns : List Int, Reps K H (ns.map D.int) (ns.map V.int)
  | [] => Reps.nil
  | n :: ns => Reps.cons (by simp only [Rep]) (ints_reps ns)
/-! ### sorted ints -/
theorem insI_perm (a : Int) : ∀ l, (insI a l).Perm (a :: l)
  | [] => .refl _
  | b :: r => by
    unfold insI
    split
    · exact .refl _
    · exact ((insI_perm a r).cons b).trans (List.Perm.swap a b r)
theorem sortI_perm : ∀ l, (sortI l).Perm l
  | [] => .refl _
  | a :: r => (insI_perm a _).trans ((sortI_perm r).cons a)
theorem insI_up (a : Int) : ∀ l : List Int, l.Pairwise (· ≤ ·) → (insI a l).Pairwise (· ≤ ·)
  | [], _ => List.pairwise_singleton _ _
  | b :: r, h => by
    obtain ⟨h1, h2⟩ := List.pairwise_cons.mp h
    unfold insI
    split
    · rename_i q
      exact List.pairwise_cons.mpr ⟨fun x hx => by
        rcases List.mem_cons.mp hx with rfl | hx
        · exact q
        · exact Int.le_trans q (h1 x hx), h⟩
    · rename_i q
      refine List.pairwise_cons.mpr ⟨fun x hx => ?_, insI_up a r h2⟩
      rcases List.mem_cons.mp ((insI_perm a r).mem_iff.mp hx) with rfl | hx
      · omega
      · exact h1 x hx
theorem sortI_up : ∀ l : List Int, (sortI l).Pairwise (· ≤ ·)
  | [] => .nil
  | a :: r => insI_up a _ (sortI_up r)
theorem sortI_the {l m : List Int} (p : m.Perm l) (u : m.Pairwise (· ≤ ·)) : m = sortI l :=
  List.Perm.eq_of_pairwise (fun x y _ _ h1 h2 => Int.le_antisymm h1 h2) u (sortI_up l) (p.trans (sortI_perm l).symm)
theorem foldl_max (r : List Int) : ∀ a : Int, (r.foldl max a ∈ a :: r) ∧ ∀ y ∈ a :: r, y ≤ r.foldl max a := by
  induction r with
  | nil => intro a; simp
  | cons b r ih =>
    intro a
    obtain ⟨h1, h2⟩ := ih (max a b)
    rw [List.foldl_cons]
    constructor
    · rcases List.mem_cons.mp h1 with h | h
      · rw [h]
        rcases Int.le_total a b with q | q
        · rw [Int.max_eq_right q]; simp
        · rw [Int.max_eq_left q]; simp
      · simp [h]
    · intro y hy
      have h3 := h2 (max a b) List.mem_cons_self
      rcases List.mem_cons.mp hy with rfl | hy
      · omega
      · rcases List.mem_cons.mp hy with rfl | hy
        · omega
        · exact h2 y (List.mem_cons_of_mem _ hy)
end
theorem CallR.imp {X : Cx} {f : Value} {r r' : List V → Hp → VK → Prop} (h : CallR X f r) (k : ∀ vs H Q, r' vs H Q → r vs H Q) : CallR X f r' := fun pins s σ H vs us Q I rx q => h pins s σ H vs us Q I rx (k _ _ _ q)
section
variable {X : Cx}
theorem call_of {f : Value} {F : List D → Option D} (h : ∀ pins s σ H vs us Q ows ds z, Inv X pins σ H s → Vals vs us → Dom ows H → RepVs X.K ows H ds vs → F ds = some z → Fin X.K ows H z Q →
    wpAny (model X.prog X.w) X.A (call f us) (EP X pins σ Q) X.xe s) : CallR X f (rCD X.K F) := fun pins s σ H vs us Q I rx ⟨ows, ds, z, hd, hr, e, g⟩ => h pins s σ H vs us Q ows ds z I rx hd hr e g
/-- the rule of a built-in on data -/
def bltF : Blt → Value
  | .len => .builtin "len" | .abs => .builtin "abs" | .int => .type "int" | .str => .type "str" | .bool => .type "bool" | .min2 => .builtin "min" | .max2 => .builtin "max" | .tuple => .type "tuple" | .list => .type "list"
  | .any => .builtin "any" | .all => .builtin "all" | .sum => .builtin "sum" | .maxl => .builtin "max" | .minp => .builtin "min" | .sorted => .builtin "sorted" | _ => .none
theorem cb_len : CallR X (.builtin "len") (rCD X.K (bltv .len)) := call_of fun pins s σ H vs us Q ows ds z I r hd hr e f => by
  unfold bltv at e
  split at e
  all_goals try contradiction
  · cases e
    obtain ⟨v, rfl, h⟩ := hr.one
    obtain ⟨_, p, us', rfl, h1, h2⟩ := h.tup
    refine call_len_seq pins s σ H _ us Q I r ⟨p, us', rfl, .inr h1, ?_⟩
    rw [h2.length]
    exact f.int
  · cases e
    obtain ⟨v, rfl, h⟩ := hr.one
    obtain ⟨p, us', rfl, h1, h2⟩ := h.lst
    refine call_len_seq pins s σ H _ us Q I r ⟨p, us', rfl, .inl (SqL.of h1), ?_⟩
    rw [h2.length]
    exact f.int
  · cases e
    obtain ⟨v, rfl, h⟩ := hr.one
    obtain ⟨p, us', rfl, h1, h2⟩ := h.frz
    refine call_len_seq pins s σ H _ us Q I r ⟨p, us', rfl, .inl h1, ?_⟩
    rw [h2.length]
    exact f.int
  · split at e <;> cases e
    obtain ⟨v, rfl, h⟩ := hr.one
    rw [h.str] at r
    exact call_len_str pins s σ H _ us Q I r ⟨_, rfl, Nat.le_trans (by assumption) big_line, f.int⟩
theorem cb_abs : CallR X (.builtin "abs") (rCD X.K (bltv .abs)) := call_of fun pins s σ H vs us Q ows ds z I r hd hr e f => by
  unfold bltv at e
  split at e
  all_goals try contradiction
  cases e
  obtain ⟨v, rfl, h⟩ := hr.one
  rw [h.int] at r
  exact call_abs pins s σ H _ us Q I r ⟨_, rfl, f.int⟩
theorem cb_int : CallR X (.type "int") (rCD X.K (bltv .int)) := call_of fun pins s σ H vs us Q ows ds z I r hd hr e f => by
  unfold bltv at e
  split at e
  all_goals try contradiction
  · cases e
    obtain ⟨v, rfl, h⟩ := hr.one
    rw [h.int] at r
    exact call_int1 pins s σ H _ us Q I r (.inl ⟨_, rfl, f.int⟩)
  · cases e
    obtain ⟨v, rfl, h⟩ := hr.one
    rw [h.bl] at r
    exact call_int1 pins s σ H _ us Q I r (.inr ⟨_, rfl, f.int⟩)
  · split at e
    · obtain ⟨i, e1, rfl⟩ := Option.map_eq_some_iff.mp e
      rename_i hl
      obtain ⟨v, rfl, h⟩ := hr.one
      rw [h.str] at r
      cases r with
      | cons r1 r2 =>
        cases r2
        obtain ⟨t, rfl⟩ := r1
        exact PySem.W.KIN.call_text e1 hl ⟨.int i, H, I.tok _, ⟨s.toks, rfl⟩, f.int⟩
    · cases e
theorem cb_bool : CallR X (.type "bool") (rCD X.K (bltv .bool)) := call_of fun pins s σ H vs us Q ows ds z I r hd hr e f => by
  unfold bltv at e
  split at e
  all_goals try contradiction
  cases e
  obtain ⟨v, rfl, h⟩ := hr.one
  rw [h.bl] at r
  exact call_bool1 pins s σ H _ us Q I r (.inr ⟨_, rfl, f.bl⟩)
theorem cb_str : CallR X (.type "str") (rCD X.K (bltv .str)) := call_of fun pins s σ H vs us Q ows ds z I r hd hr e f => by
  unfold bltv at e
  split at e
  all_goals try contradiction
  split at e <;> cases e
  rename_i m
  obtain ⟨v, rfl, h⟩ := hr.one
  rw [h.int] at r
  refine call_str_int pins s σ H _ us Q I r ⟨_, rfl, ?_, f.str⟩
  rename_i i _
  by_cases q : i.natAbs = 0
  · rw [q]; decide
  · have := (Nat.log2_lt q).mpr m
    omega
theorem cb_min2 (hc : X.calm = true) : CallR X (.builtin "min") (rCD X.K (bltv .min2)) := call_of fun pins s σ H vs us Q ows ds z I r hd hr e f => by
  unfold bltv at e
  split at e
  all_goals try contradiction
  cases e
  obtain ⟨v, u, rfl, h, g⟩ := hr.two
  rw [h.int, g.int] at r
  exact call_min2 hc pins s σ H _ us Q I r ⟨_, _, rfl, f.int⟩
theorem cb_max2 (hc : X.calm = true) : CallR X (.builtin "max") (rCD X.K (bltv .max2)) := call_of fun pins s σ H vs us Q ows ds z I r hd hr e f => by
  unfold bltv at e
  split at e
  all_goals try contradiction
  cases e
  obtain ⟨v, u, rfl, h, g⟩ := hr.two
  rw [h.int, g.int] at r
  exact call_max2 hc pins s σ H _ us Q I r ⟨_, _, rfl, f.int⟩
theorem cb_tuple : CallR X (.type "tuple") (rCD X.K (bltv .tuple)) := call_of fun pins s σ H vs us Q ows ds z I r hd hr e f => by
  unfold bltv at e
  split at e
  all_goals try contradiction
  · cases e
    obtain ⟨v, rfl, h⟩ := hr.one
    obtain ⟨r1, p, us', rfl, h1, h2⟩ := h.tup
    exact call_tuple_of pins s σ H _ us Q I r ⟨p, us', rfl, .inr ⟨h1, f.same r1⟩⟩
  · cases e
    obtain ⟨v, rfl, h⟩ := hr.one
    obtain ⟨p, us', rfl, h1, h2⟩ := h.lst
    exact call_tuple_of pins s σ H _ us Q I r ⟨p, us', rfl, .inl ⟨SqL.of h1, f.tup hd h2⟩⟩
theorem cb_list : CallR X (.type "list") (rCD X.K (bltv .list)) := call_of fun pins s σ H vs us Q ows ds z I r hd hr e f => by
  unfold bltv at e
  split at e
  all_goals try contradiction
  · cases e
    obtain ⟨v, rfl, h⟩ := hr.one
    obtain ⟨r1, p, us', rfl, h1, h2⟩ := h.tup
    exact call_list_of pins s σ H _ us Q I r ⟨p, us', rfl, .inr h1, f.lst hd h2⟩
  · cases e
    obtain ⟨v, rfl, h⟩ := hr.one
    obtain ⟨p, us', rfl, h1, h2⟩ := h.lst
    exact call_list_of pins s σ H _ us Q I r ⟨p, us', rfl, .inl (SqL.of h1), f.lst hd h2⟩
theorem cb_any (hc : X.calm = true) : CallR X (.builtin "any") (rCD X.K (bltv .any)) := call_of fun pins s σ H vs us Q ows ds z I r hd hr e f => by
  unfold bltv at e
  split at e
  all_goals try contradiction
  obtain ⟨bs, e1, rfl⟩ := Option.map_eq_some_iff.mp e
  obtain ⟨v, rfl, h⟩ := hr.one
  obtain ⟨p, us', rfl, h1, h2⟩ := h.lst
  rw [reps_bls h2 e1] at h1
  exact cr_any hc pins s σ H _ us Q I r ⟨p, bs, rfl, SqL.of h1, f.bl⟩
theorem cb_all (hc : X.calm = true) : CallR X (.builtin "all") (rCD X.K (bltv .all)) := call_of fun pins s σ H vs us Q ows ds z I r hd hr e f => by
  unfold bltv at e
  split at e
  all_goals try contradiction
  obtain ⟨bs, e1, rfl⟩ := Option.map_eq_some_iff.mp e
  obtain ⟨v, rfl, h⟩ := hr.one
  obtain ⟨p, us', rfl, h1, h2⟩ := h.lst
  rw [reps_bls h2 e1] at h1
  exact cr_all hc pins s σ H _ us Q I r ⟨p, bs, rfl, SqL.of h1, f.bl⟩
theorem cb_sum (hc : X.calm = true) : CallR X (.builtin "sum") (rCD X.K (bltv .sum)) := call_of fun pins s σ H vs us Q ows ds z I r hd hr e f => by
  unfold bltv at e
  split at e
  all_goals try contradiction
  obtain ⟨bs, e1, rfl⟩ := Option.map_eq_some_iff.mp e
  obtain ⟨v, rfl, h⟩ := hr.one
  obtain ⟨p, us', rfl, h1, h2⟩ := h.lst
  rw [reps_ints h2 e1] at h1
  exact cr_sum hc pins s σ H _ us Q I r ⟨p, bs, rfl, SqL.of h1, f.int⟩
theorem cb_maxl (hc : X.calm = true) : CallR X (.builtin "max") (rCD X.K (bltv .maxl)) := call_of fun pins s σ H vs us Q ows ds z I r hd hr e f => by
  unfold bltv at e
  split at e
  all_goals try contradiction
  split at e
  all_goals try contradiction
  cases e
  rename_i xs _ _ a rr e1
  obtain ⟨v, rfl, h⟩ := hr.one
  obtain ⟨p, us', rfl, h1, h2⟩ := h.lst
  rw [reps_ints h2 e1] at h1
  refine cr_max hc pins s σ H _ us Q I r ⟨p, a :: rr, rfl, SqL.of h1, by simp, fun m m1 m2 => ?_⟩
  obtain ⟨g1, g2⟩ := foldl_max rr a
  have : m = rr.foldl max a := Int.le_antisymm (g2 m m1) (m2 _ g1)
  rw [this]
  exact f.int
theorem reps_at {K : PySem.W.Frag} {H : Hp} : ∀ {ds : List D} {vs : List V}, Reps K H ds vs → ∀ (i : Nat) (v : V), vs[i]? = some v → ∃ d, ds[i]? = some d ∧ Rep K H d v
  | [], _, h, i, v, e => by simp only [Reps] at h; subst h; simp at e
  | d :: ds, _, h, i, v, e => by
    simp only [Reps] at h
    obtain ⟨u, us, rfl, h1, h2⟩ := h
    cases i with
    | zero =>
      have : u = v := by simpa using e
      subst this
      exact ⟨d, rfl, h1⟩
    | succ i => exact reps_at h2 i v (by simpa using e)
def pD (p : Int × Int) : PyData := .tuple [.int p.1, .int p.2]
theorem pairs_py : ∀ {xs : List D} {ps : List (Int × Int)}, pairsD xs = some ps → D.toPys xs = ps.map pD ∧ xs = ps.map fun p => .tup [.int p.1, .int p.2]
  | [], ps, e => by simp only [pairsD, Option.some.injEq] at e; subst e; exact ⟨rfl, rfl⟩
  | x :: xs, ps, e => by
    unfold pairsD at e
    split at e
    · rename_i z; cases z
    · rename_i a b r z
      cases z
      obtain ⟨qs, e1, rfl⟩ := Option.map_eq_some_iff.mp e
      obtain ⟨h1, h2⟩ := pairs_py e1
      exact ⟨by rw [D.toPys, h1, List.map_cons]; rfl, by rw [h2, List.map_cons]⟩
    · cases e
theorem lt_pD (p q : Int × Int) : PySem.W.dataLt (pD p) (pD q) = ltP p q := by
  have h := PySem.W.dataLt_ints [p.1, p.2] [q.1, q.2]
  refine Eq.trans (show PySem.W.dataLt (pD p) (pD q) = PySem.W.rowLt ([p.1, p.2].map .int) ([q.1, q.2].map .int) from rfl) (h.trans ?_)
  unfold ltP
  rw [Bool.eq_iff_iff]
  simp only [List.cons_lt_cons_iff, Bool.or_eq_true, Bool.and_eq_true, decide_eq_true_eq]
  have : ¬ (([] : List Int) < []) := by simp
  simp only [this, and_false, or_false]
theorem min_pD (p : Int × Int) : ∀ ps : List (Int × Int), PySem.W.minD (pD p) (ps.map pD) = pD (minP p ps) := by
  intro ps
  unfold PySem.W.minD minP
  induction ps generalizing p with
  | nil => rfl
  | cons q r ih =>
    rw [List.map_cons, List.foldl_cons, List.foldl_cons]
    simp only [lt_pD]
    rw [← ih]
    congr 1
    split <;> rfl
theorem alike_pD (ps : List (Int × Int)) : PySem.W.AlikeAll (ps.map pD) := by
  refine ⟨fun x hx y hy => ?_, fun x hx => ?_⟩
  · obtain ⟨p, _, rfl⟩ := List.mem_map.1 hx
    obtain ⟨q, _, rfl⟩ := List.mem_map.1 hy
    rfl
  · obtain ⟨p, _, rfl⟩ := List.mem_map.1 hx
    exact fun z => nomatch z
theorem depth_pD (ps : List (Int × Int)) : PyData.depthAll (ps.map pD) ≤ 3 := by
  induction ps with
  | nil => decide
  | cons p r ih =>
    rw [List.map_cons]
    simp only [PyData.depthAll]
    have : (pD p).depth ≤ 3 := by
      simp only [pD, PyData.depth, PyData.depthAll]
      decide
    omega
theorem pairs_shp (n : Nat) : ∀ {xs : List D} {l : List (Int × Int)}, pairsD xs = some l → D.shps (n + 1) xs = true
  | [], _, _ => by simp [D.shps]
  | x :: xs, l, h => by
    unfold pairsD at h
    split at h
    · rename_i e; cases e
    · rename_i a b r e
      cases e
      cases q : pairsD xs with
      | none => rw [q] at h; cases h
      | some l' =>
        rw [D.shps, pairs_shp n q, Bool.and_true]
        cases n <;> simp [D.shp, D.shps]
    · cases h
theorem shp_get {n : Nat} : ∀ {xs : List D} {i : Nat} {d : D}, D.shps n xs = true → xs[i]? = some d → D.shp n d = true
  | [], _, _, _, h => by simp at h
  | x :: xs, 0, d, s, h => by
    rw [D.shps, Bool.and_eq_true] at s
    have e : x = d := by simpa using h
    exact e ▸ s.1
  | x :: xs, i + 1, d, s, h => by
    rw [D.shps, Bool.and_eq_true] at s
    exact shp_get s.2 (by simpa using h)
theorem cb_minp (hc : X.calm = true) (hu : X.A.units + 64 < cLine) : CallR X (.builtin "min") (rCD X.K (bltv .minp)) := call_of fun pins s σ H vs us Q ows ds z I r hd hr e f => by
  unfold bltv at e
  split at e
  all_goals try contradiction
  split at e
  all_goals try contradiction
  cases e
  rename_i xs _ _ p ps e1
  obtain ⟨v, rfl, h⟩ := hr.one
  obtain ⟨a, us', rfl, h1, h2⟩ := h.lst
  obtain ⟨its, rv, hl, _⟩ := I.list (SqL.of h1)
  rw [Vals.ref1 r]
  obtain ⟨y1, y2⟩ := pairs_py e1
  obtain ⟨as, ra⟩ := Dp.readsAll I (D.toPys xs) us' its (Reps.dp xs us' 3 (pairs_shp 2 e1) (Reps.mono (hid_same _ _) _ _ h2)) rv
  rw [y1, List.map_cons] at ra
  have hz := depth_pD (p :: ps)
  rw [List.map_cons] at hz
  refine PySem.W.min_list_data (I.ok.hd hc) hl.isList (by simpa using ra) (by rw [← List.map_cons]; exact alike_pD (p :: ps)) (by omega) fun i w h' tk bs hv rd hk => ?_
  rw [min_pD] at rd
  have hi : its[i]? = some w := by simpa using hv
  obtain ⟨u, hu1, hu2⟩ : ∃ u, us'[i]? = some u ∧ RelV u w := by
    cases hq : us'[i]? with
    | none => rw [Vals.none_of rv hq] at hi; cases hi
    | some u =>
      obtain ⟨w', e1, e2⟩ := Vals.get rv hq
      rw [hi] at e1
      cases e1
      exact ⟨u, rfl, e2⟩
  obtain ⟨d, hd1, hd2⟩ := reps_at h2 i u hu1
  refine ⟨u, H, I.kept hk, hu2, ?_⟩
  have : d = .tup [.int (minP p ps).1, .int (minP p ps).2] := by
    rw [y2] at hd1
    obtain ⟨q, hq, rfl⟩ : ∃ q, (p :: ps)[i]? = some q ∧ d = .tup [.int q.1, .int q.2] := by
      rw [List.getElem?_map] at hd1
      cases hq : (p :: ps)[i]? with
      | none => rw [hq] at hd1; cases hd1
      | some q => rw [hq] at hd1; exact ⟨q, rfl, (Option.some.inj hd1).symm⟩
    obtain ⟨as2, r2⟩ := Dp.reads I _ u w (Rep.dp _ u 3 (shp_get (pairs_shp 2 e1) (by rw [y2]; exact hd1)) (Rep.mono (hid_same _ _) _ _ hd2)) hu2
    have := (Reads.unique (PySem.W.reads_keeps hk r2) _ _ rd).1
    have : pD q = pD (minP p ps) := by
      refine Eq.trans ?_ this
      simp only [pD, D.toPy, D.toPys]
    simp only [pD, PyData.tuple.injEq, List.cons.injEq, PyData.int.injEq, and_true] at this
    rw [this.1, this.2]
  rw [this] at hd2
  exact f.same hd2
theorem cb_sorted : CallR X (.builtin "sorted") (rCD X.K (bltv .sorted)) := call_of fun pins s σ H vs us Q ows ds z I r hd hr e f => by
  unfold bltv at e
  split at e
  all_goals try contradiction
  obtain ⟨ns, e1, rfl⟩ := Option.map_eq_some_iff.mp e
  obtain ⟨v, rfl, h⟩ := hr.one
  obtain ⟨p, us', rfl, h1, h2⟩ := h.lst
  rw [reps_ints h2 e1] at h1
  refine cr_sortedI pins s σ H _ us Q I r ⟨p, ns, rfl, SqL.of h1, fun ns' q hp hu hn => ?_⟩
  rw [sortI_the hp hu]
  exact f.lst hd (ints_reps _) q hn

/-! ### isinstance -/
def tyOf : D → String
  | .non => "NoneType" | .bl _ => "bool" | .int _ => "int" | .str _ => "str" | .tup _ => "tuple" | .lst _ => "list" | .frz _ => "list" | .err _ _ => ""
theorem Rep.ty {K : PySem.W.Frag} {H : Hp} {d : D} {v : V} (h : Rep K H d v) (ne : d.isErr = false) : TyX K H v (.type (tyOf d)) := by
  cases d <;> simp only [Rep] at h
  case non => subst h; exact .base .non
  case bl => subst h; exact .base (.bl _)
  case int => subst h; exact .base (.int _)
  case str => subst h; exact .base (.str _)
  case tup =>
    obtain ⟨a, vs, rfl, h1, _⟩ := h
    rcases h1 with (h1 | ⟨o, h1⟩) | ⟨o, its, n, h1, h2, _⟩
    · exact .base (.tup h1)
    · exact .fTuple h1
    · exact .kTuple h1 h2
  case lst =>
    obtain ⟨a, vs, rfl, h1, _⟩ := h
    exact .base (.lst h1)
  case frz =>
    obtain ⟨a, vs, rfl, h1, _⟩ := h
    rcases h1 with (h1 | ⟨o, h1⟩) | ⟨o, its, n, h1, h2, _⟩
    · exact .base (.lst h1)
    · exact .base (.frz h1)
    · exact .kList h1 h2
  case err => cases ne
def isTy : Blt → Option String
  | .isint => some "int" | .isbool => some "bool" | .isstr => some "str" | .istuple => some "tuple" | .islist => some "list"
  | _ => none
theorem isTy_err {b : Blt} {t : String} (h : isTy b = some t) {d z : D} (e : bltv b [d] = some z) : d.isErr = false := by
  cases b <;> simp only [isTy, Option.some.injEq, reduceCtorEq] at h <;> cases d <;> first | rfl | (exfalso; revert e; unfold bltv; simp [D.isErr])
theorem isTy_kit {b : Blt} {t : String} (h : isTy b = some t) (d : D) (ne : d.isErr = false) : ∃ r, bltv b [d] = some (.bl r) ∧ kitB (tyOf d) t = some r := by
  cases b <;> simp only [isTy, Option.some.injEq, reduceCtorEq] at h <;> subst h <;> cases d <;> first | (cases ne; done) | (refine ⟨true, rfl, ?_⟩; simp only [tyOf]; decide +kernel) | (refine ⟨false, rfl, ?_⟩; simp only [tyOf]; decide +kernel)
/-- isinstance(x, T) -/
def rIsD (K : PySem.W.Frag) (b : Blt) (t : String) : List V → Hp → VK → Prop := fun vs H Q => ∃ ows d x z, Dom ows H ∧ vs = [x, .ty t] ∧ RepV K ows H d x ∧ bltv b [d] = some z ∧ Fin K ows H z Q
theorem cb_is {b : Blt} {t : String} (h : isTy b = some t) : CallR X (.builtin "isinstance") (rIsD X.K b t) := by
  intro pins s σ H vs us Q I r ⟨ows, d, x, z, hd, e1, hr, e2, f⟩
  have ne := isTy_err h e2
  obtain ⟨k, e3, e4⟩ := isTy_kit h d ne
  rw [e2] at e3
  cases e3
  exact call_isi pins s σ H vs us Q I r ⟨x, .ty t, .type (tyOf d), .type t, k, e1, .ty t, hr.full.ty ne, kit_ty e4, f.bl⟩
end
end G
/-! G.EnumT: enumerate of a tuple. -/
namespace G
open PySem L2 PySem.Spec PyProof.Rows
open AutoSeq1 (wpAny_loadPart')
/-- the heap behind enumerate(t): the tuple's iterator, then the enumerate object -/
def enumHeap (h : Heap) (t : Addr) : Heap :=
  (h.push { cls := .type "tuple_iterator", data := .fields #[.ref t, .int 0 0] }).push { cls := .type "enumerate", data := .fields #[.none, .bool false, .ref h.objs.size, rawInt 0, .none, .none] }
theorem meets_enumT (t : Addr) (items : Array Value) (n : Nat) (dct : Option Addr) (sl : Array (Option Value)) :
    Meets (Builtin.«enumerate.__new__» ⟨[.type "enumerate", .ref t], []⟩) (fun _ R s => s.heap.get? t = some { cls := .type "tuple", dict := dct, data := .seq items n, slots := sl } ∧
      R (.ok (.ret (.ref (s.heap.push { cls := .type "tuple_iterator", data := .fields #[.ref t, .int 0 0] }).objs.size))) { s with heap := enumHeap s.heap t }) :=
  .of_wp fun prog w A R s h => by
    obtain ⟨hp, g, d, tk, os⟩ := s
    obtain ⟨hl, h⟩ := h
    have hsub := sub_enumerate
    have hT : Heap.IsTuple (Shared.heap ⟨hp, g, d, tk, os⟩) t items := ⟨_, hl, rfl, n, rfl⟩
    wp_walk using wpAny_loadPart' hl
    refine wpAny_stack_any fun st => wpAny_pure ?_
    split
    · rename_i c _ _ _ _ _
      cases (c == Value.type "enumerate") <;> (wp_walk using wpAny_loadPart' hl, wpAny_pyIter_tuple hT; exact ⟨_, rfl, h⟩)
    · wp_walk using wpAny_loadPart' hl, wpAny_pyIter_tuple hT
      exact ⟨_, rfl, h⟩
theorem call_enumT {prog : Program} {w : World} {A : Around} {E : Value → Shared → Prop} {s : Shared} {t : Addr} {items : Array Value} {Q : Value → Shared → Prop} (hT : s.heap.IsTuple t items)
    (h : ∀ h', IsEnum h' (s.heap.objs.size + 1) s.heap.objs.size 0 .none → h'.IsTupleIter s.heap.objs.size t 0 → (∀ b o, s.heap.get? b = some o → h'.get? b = some o) → Q (.ref (s.heap.objs.size + 1)) { s with heap := h' }) :
    wpAny (model prog w) A (call (.type "enumerate") [.ref t]) Q E s := by
  obtain ⟨⟨c, dct, dt, sl⟩, hl, hc, n, hd⟩ := hT
  have hc' : c = .type "tuple" := hc
  have hd' : dt = .seq items n := hd
  subst hc' hd'
  refine callType_new F.called_enumerate (by decide) (F.typeCall_enumerate_1 _) (F.newCall_enumerate_1 _) (fun obj => F.args_object_init_2 obj _) F.entry_enumerate_new (meets_enumT t items n dct sl) ⟨hl, ?_⟩
  have hz : (s.heap.push { cls := .type "tuple_iterator", data := .fields #[.ref t, .int 0 0] }).objs.size = s.heap.objs.size + 1 := Heap.size_push ..
  show _ ∧ _
  rw [hz]
  have he : IsEnum (enumHeap s.heap t) (s.heap.objs.size + 1) s.heap.objs.size 0 .none := by
    have q := Heap.get?_push_size (s.heap.push { cls := .type "tuple_iterator", data := .fields #[.ref t, .int 0 0] }) (o := { cls := .type "enumerate", data := .fields #[.none, .bool false, .ref s.heap.objs.size, rawInt 0, .none, .none] }) rfl
    rw [hz] at q
    exact q
  exact ⟨⟨_, he, rfl⟩, h _ he ⟨_, Heap.get?_push_of_some _ (Heap.get?_push_size _ rfl), rfl, rfl⟩ fun b o x => Heap.get?_push_of_some _ (Heap.get?_push_of_some _ x)⟩
/-- the tuple at a, each item in a new pair -/
def Iteu (K : PySem.W.Frag) (a : Addr) : It :=
  ⟨fun i H => ∃ (xs : List V) (x : V), SqT K H a xs ∧ xs[i]? = some x, fun i H v H' => ∃ T x, v = .ref T ∧ H T = none ∧ H' = upd H T (.tup [.int (i : Nat), x]) ∧ ∀ xs, SqT K H a xs → xs[i]? = some x, fun i H => ∃ xs : List V, SqT K H a xs ∧ xs.length = i⟩
theorem turn_enumT {P : Program} {w : World} {K : PySem.W.Frag} {elts : List Expr} {kk : Nat} {tpos : Pos} (a e it : Addr) :
    Turn P w K (.Tuple elts kk tpos) (Iteu K a) [e, it] e (fun i h => (∃ old, IsEnum h e it ((i : Nat) : Int) old) ∧ h.IsTupleIter it a i ∧ e ≠ it ∧ a ≠ it ∧ a ≠ e) where
  mem := by simp
  obj := fun i h st b hb => by
    obtain ⟨⟨old, he⟩, ⟨o, ho, hc, hd⟩, _⟩ := st
    rcases (show b = e ∨ b = it by simpa using hb) with z | z
    · rw [z]; exact ⟨_, he, fun v q => nomatch q⟩
    · rw [z]; exact ⟨o, ho, fun v q => by rw [hd] at q; cases q⟩
  keep := fun i h h' st k => let ⟨⟨old, he⟩, hi, hne⟩ := st; ⟨⟨old, k e (by simp) _ he⟩, hi.at fun o q => k it (by simp) o q, hne⟩
  item := by
    intro X hP hw hK hc i pins s σ H E I hf st hg
    subst hP hw hK
    obtain ⟨⟨old, he⟩, hit, hne, hai, hae⟩ := st
    obtain ⟨xs, x, hq, hx⟩ := hg
    obtain ⟨its, rv, p, hz⟩ := I.tuple hq
    obtain ⟨u, hu, ru⟩ := rv.get hx
    have hel : e < s.heap.objs.size := Heap.lt_size he
    have hil : it < s.heap.objs.size := by obtain ⟨_, q, _⟩ := hit; exact Heap.lt_size q
    have hi : i < its.toArray.size := by simpa using (List.getElem?_eq_some_iff.mp hu).1
    have D := Draws.tuple (prog := X.prog) (w := X.w) (A := X.A.in1) (show X.A.in1.handled = none from I.ok.hd hc) it a hai its.toArray
    refine wpAny_pyNext_enum_itemD D he ⟨hit, p⟩ hi hne (by simp only [List.mem_cons, List.not_mem_nil, or_false, not_or]; exact ⟨hne, Ne.symm hae⟩) fun u' h' tk hu' ho hst' hT hsz hk => ?_
    have eu : u' = u := by
      have q1 : its.toArray[i]? = some u' := hu'
      have q2 : its.toArray[i]? = some u := by simpa using hu
      rw [q1] at q2
      exact Option.some.inj q2
    subst eu
    refine ⟨_, rfl, wpAny_letOwnedTupleGo_enum (s := { s with heap := h', toks := tk + 1 }) ho fun h'' he' sb => ?_⟩
    have hT2 : h''.get? s.heap.objs.size = some { cls := .type "tuple", data := .seq #[.int i tk, u'] } := (sb.2 _ (Nat.ne_of_gt hel)).trans hT
    have new : ObjOk X.prog X.w (upd H s.heap.objs.size (.tup [.int (i : Nat), x])) h'' s.heap.objs.size (.tup [.int (i : Nat), x]) :=
      ⟨by show 2 ≤ sizeLine; decide, [.int i tk, u'], .cons ⟨_, rfl⟩ (.cons ru .nil), ⟨_, hT2, rfl, _, rfl⟩⟩
    have I1 : Inv X pins σ (upd H s.heap.objs.size (.tup [.int (i : Nat), x])) { s with heap := h'', toks := tk + 1 } :=
      I.turnedNew (ch := [e, it]) (fun b ob hb q => (sb.2 b (fun z => hb (by simp [z]))).trans (hk b ob (fun z => hb (by simp [z])) (fun z => hb (by simp [z])) q)) hf (Nat.le_refl _) new
    refine ⟨.ref s.heap.objs.size, _, I1, rfl, ⟨_, x, rfl, I.hok.fresh (Nat.le_refl _), rfl, fun ys hy => by rw [I.tuple_inj hy hq]; exact hx⟩, ⟨⟨u', ?_⟩, hst'.1.at fun o q => (sb.2 it (Ne.symm hne)).trans q, hne, hai, hae⟩, fun b hb => ?_⟩
    · rw [show ((i + 1 : Nat) : Int) = (i : Int) + 1 by omega]
      exact he'
    · have hb' : b < s.heap.objs.size := by
        rcases (show b = e ∨ b = it by simpa using hb) with z | z
        · rw [z]; exact hel
        · rw [z]; exact hil
      rw [upd_ne (Nat.ne_of_lt hb')]
      exact (hf b hb).1
  done := by
    intro X hP hw hK hc i pins s σ H E I hf st hg
    subst hP hw hK
    obtain ⟨⟨old, he⟩, hit, hne, hai, hae⟩ := st
    obtain ⟨xs, hq, hx⟩ := hg
    obtain ⟨its, rv, p, hz⟩ := I.tuple hq
    obtain ⟨f0, f1, f2, f3, f4, f5⟩ := hf it (by simp)
    have hl := rv.length
    have D := Draws.tuple (prog := X.prog) (w := X.w) (A := X.A.in1) (show X.A.in1.handled = none from I.ok.hd hc) it a hai its.toArray
    have hn : its.toArray.size = i := by rw [List.size_toArray, ← hl, hx]
    exact wpAny_pyNext_enum_endD D he ⟨by rw [hn]; exact hit, p⟩ fun h' eb => ⟨rfl, I.turned (t' := s.toks) (fun b o hb q => eb b o hb q) f0 f1 f3 f4 f5⟩
  self := fun A i s Q E st h => let ⟨⟨_, he⟩, _⟩ := st; wpAny_pyIter_enum he h
def iEnumT (K : PySem.W.Frag) (ta : TA) : TI := fun σ H R => ta σ H fun vs H1 => ∃ a xs, vs = [.ref a] ∧ SqT K H1 a xs ∧ R (Iteu K a) H1
theorem pi_enumT {X : Cx} {e : Expr} {ta : TA} {p pos tpos : Pos} {elts : List Expr} {kk : Nat} (hg : Gl X "enumerate") (hm : X.mg "enumerate" = none) (ha : PA X [e] ta) (hs : starEach [e] X.env = [(false, eval e X.env)]) :
    PI X (.Tuple elts kk tpos) (.Call (.Name "enumerate" p) [e] [] pos) (iEnumT X.K ta) := by
  refine ⟨fun pins s σ H R I h => ?_⟩
  refine Call_ (ld_blt I hg hm boot_enumerate (PyProof.Rows.callWith_type1 (thn (ha.run pos pins s σ H _ I h) fun us s1 ⟨vs, H1, I1, r1, q1⟩ => ?_) hs rfl))
  obtain ⟨a, xs, ex, hq, q⟩ := q1
  subst ex
  cases r1 with
  | cons r rr =>
    cases rr
    cases r
    obtain ⟨its, rv, p', hz⟩ := I1.tuple hq
    have hal : a < s1.heap.objs.size := p'.lt
    refine call_enumT p' fun h' he hit hk => wpAny_pyIter_enum he ?_
    have I2 : Inv X pins σ H1 { s1 with heap := h' } := I1.kept (t' := s1.toks) hk
    refine ⟨s1.heap.objs.size + 1, [s1.heap.objs.size + 1, s1.heap.objs.size], _, _, H1, rfl, I2, turn_enumT a (s1.heap.objs.size + 1) s1.heap.objs.size, ⟨⟨.none, he⟩, hit, Nat.succ_ne_self _, Nat.ne_of_lt hal, Nat.ne_of_lt (Nat.lt_succ_of_lt hal)⟩, fun b hb => ?_, q⟩
    have hle : s1.heap.objs.size ≤ b := by
      rcases (show b = s1.heap.objs.size + 1 ∨ b = s1.heap.objs.size by simpa using hb) with z | z
      · rw [z]; exact Nat.le_add_right _ _
      · rw [z]; exact Nat.le_refl _
    exact I1.fpOk hle (I1.hok.fresh hle)
end G
/-! G.Calls: what a def promises of data; a call against the caller's slots. -/
namespace G
open PySem L2

def Gr.At (g : Gr) (X : Cx) : Prop := g.P = X.prog ∧ g.w = X.w ∧ g.K = X.K
def ArgR (P : Program) (w : World) (K : PySem.W.Frag) (ows : List Addr) (H : Hp) : Sl → V → Prop
  | .no, _ => False
  | .ro d, v => Rep K (hid ows H) d v
  | .ow _ o, v => ∃ a, v = .ref a ∧ (∀ c ∈ foot H a, c ∈ ows) ∧ OwnOk P w K (hid ows H) H a o
/-- what the objects handed in are made of -/
def psOf (H : Hp) : List Sl → List V → List Addr
  | .ow _ _ :: as, .ref a :: vs => foot H a ++ psOf H as vs
  | _ :: as, _ :: vs => psOf H as vs
  | _, _ => []
/-- what is hidden behind a call: what was, and new things -/
structure Up (ows : List Addr) (H : Hp) (ows' : List Addr) (H' : Hp) : Prop where
  sub : ∀ a ∈ ows, a ∈ ows'
  new : ∀ a ∈ ows', a ∈ ows ∨ (H a = none ∧ H' a ≠ none)
/-- behind a call: what was, but for the objects handed in; these hold what is told -/
structure After (P : Program) (w : World) (K : PySem.W.Frag) (ows : List Addr) (as : List Sl) (vs : List V) (os : List Sl) (H H' : Hp) : Prop where
  keep : ∀ a o, a ∉ psOf H as vs → H a = some o → H' a = some o
  outs : ∀ (j : Nat) (q : Bool) (o : Ob), os[j]? = some (Sl.ow q o) → ∃ a, vs[j]? = some (.ref a) ∧ (∀ c ∈ foot H' a, c ∈ ows ∧ (c ∈ foot H a ∨ H c = none)) ∧ OwnOk P w K (hid ows H') H' a o
  there : ∀ a o, a ∈ psOf H as vs → H a = some o → H' a ≠ none
  apart : ∀ (i j : Nat) (p q : Bool) (o u : Ob) (a b : Addr), i ≠ j → os[i]? = some (Sl.ow p o) → os[j]? = some (Sl.ow q u) → vs[i]? = some (.ref a) → vs[j]? = some (.ref b) → ∀ c ∈ foot H' a, c ∉ foot H' b
/-- what was handed in is still there -/
structure ArgsR (P : Program) (w : World) (K : PySem.W.Frag) (ows : List Addr) (H : Hp) (as : List Sl) (vs : List V) : Prop where
  len : vs.length = as.length
  arg : ∀ (j : Nat) (s : Sl) (v : V), as[j]? = some s → vs[j]? = some v → ArgR P w K ows H s v
  apart : ∀ (i j : Nat) (p q : Bool) (o u : Ob) (a b : Addr), i ≠ j → as[i]? = some (Sl.ow p o) → as[j]? = some (Sl.ow q u) → vs[i]? = some (.ref a) → vs[j]? = some (.ref b) → ∀ c ∈ foot H a, c ∉ foot H b
/-- THE PROMISE of a def: what the evaluator says -/
def spD (P : Program) (w : World) (K : PySem.W.Frag) (cl : Str → Option Addr) (n : Nat) (m : Fn) : Sp := fun vs H Q E => ∃ ows as, vs.length = n ∧ Dom ows H ∧ ArgsR P w K ows H as vs ∧
  match m as with
  | .ok (.d x) os => ∀ v ows' H', Up ows H ows' H' → After P w K ows' as vs os H H' → Rep K (hid ows' H') x v → Q v H'
  | .ok (.fr o) os => ∀ p ows' H', Up ows H ows' H' → After P w K ows' as vs os H H' → (∀ c ∈ foot H' p, c ∈ ows' ∧ H c = none ∧ c ∉ psOf H' os vs) → OwnOk P w K (hid ows' H') H' p o → Q (.ref p) H'
  | .ex c os => ∀ ows' H' cv d, Up ows H ows' H' → After P w K ows' as vs os H H' → ExR cl c H' cv d → E cv d H'
  | .no => False
/-- a def of the module that keeps it, at level k -/
def FnAt (P : Program) (w : World) (K : PySem.W.Frag) (mg : Str → Option Value) (base : Heap) (cl : Str → Option Addr) (k : Nat) (x : Str) (n : Nat) (m : Fn) : Prop :=
  ∃ a fd ps, FnOk P w K mg base (L2.CX P w) k a fd ps (spD P w K cl n m) ∧ mg x = some (.ref a) ∧ PySem.W.keepIn K (.ref a) = true ∧ Binds K fd ps []
theorem FnAt.mono {P : Program} {w : World} {K : PySem.W.Frag} {mg : Str → Option Value} {base : Heap} {cl : Str → Option Addr} {j k : Nat} {x : Str} {n : Nat} {m : Fn} (h : FnAt P w K mg base cl j x n m) (e : j ≤ k) : FnAt P w K mg base cl k x n m := by
  obtain ⟨a, fd, ps, F, r⟩ := h
  exact ⟨a, fd, ps, F.mono e, r⟩

/-! ### back -/
theorem back_len : ∀ (rs : List RV) (os : List Sl) (δ : Env), (back δ rs os).length = δ.length
  | [], os, δ => by cases os <;> rfl
  | .d _ :: rs, [], δ => rfl
  | .d _ :: rs, o :: os, δ => by
    have := back_len rs os δ
    cases o <;> exact this
  | .own i :: rs, [], δ => rfl
  | .own i :: rs, .no :: os, δ => back_len rs os δ
  | .own i :: rs, .ro _ :: os, δ => back_len rs os δ
  | .own i :: rs, .ow _ o :: os, δ => by
    unfold back
    split
    · rw [back_len, List.length_set]
    · exact back_len rs os δ
theorem of_mem_owns {j : Nat} : ∀ (rs : List RV), j ∈ ownsOf rs → ∃ m : Nat, rs[m]? = some (RV.own j)
  | [], z => nomatch z
  | .d x :: rs, z => by
    obtain ⟨m, e⟩ := of_mem_owns rs z
    exact ⟨m + 1, e⟩
  | .own i :: rs, z => by
    rcases List.mem_cons.mp z with rfl | z
    · exact ⟨0, rfl⟩
    · obtain ⟨m, e⟩ := of_mem_owns rs z
      exact ⟨m + 1, e⟩
theorem back_get : ∀ (rs : List RV) (os : List Sl) (δ : Env), (∀ (m j : Nat), rs[m]? = some (.own j) → ∃ q o, os[m]? = some (Sl.ow q o)) → (∀ j ∈ ownsOf rs, ∃ p o, δ[j]? = some (Sl.ow p o)) → (ownsOf rs).Nodup →
    ∀ (j : Nat) (s : Sl), (back δ rs os)[j]? = some s → (j ∉ ownsOf rs ∧ δ[j]? = some s) ∨ ∃ (m : Nat) (q p : Bool) (o o0 : Ob), rs[m]? = some (.own j) ∧ os[m]? = some (Sl.ow q o) ∧ δ[j]? = some (Sl.ow p o0) ∧ s = .ow p o
  | [], os, δ, _, _, _, j, s, h => .inl ⟨by simp [ownsOf], by cases os <;> exact h⟩
  | .d _ :: rs, [], δ, h1, _, _, j, s, h => by
    refine .inl ⟨fun z => ?_, h⟩
    obtain ⟨m, e⟩ := of_mem_owns rs z
    obtain ⟨q, o, e2⟩ := h1 (m + 1) j (by simpa using e)
    cases e2
  | .d x :: rs, o :: os, δ, h1, h2, h3, j, s, h => by
    have hb : back δ (.d x :: rs) (o :: os) = back δ rs os := by cases o <;> rfl
    rw [hb] at h
    rcases back_get rs os δ (fun m j e => by simpa using h1 (m + 1) j (by simpa using e)) h2 h3 j s h with h | ⟨m, q, p, o', o0, e1, e2, e3⟩
    · exact .inl h
    · exact .inr ⟨m + 1, q, p, o', o0, by simpa using e1, by simpa using e2, e3⟩
  | .own i :: rs, [], δ, h1, _, _, j, s, h => by
    obtain ⟨q, o, e⟩ := h1 0 i rfl
    cases e
  | .own i :: rs, s0 :: os, δ, h1, h2, h3, j, s, h => by
    obtain ⟨q, o, e⟩ := h1 0 i rfl
    have e' : s0 = .ow q o := by simpa using e
    subst e'
    obtain ⟨p, o0, e0⟩ := h2 i List.mem_cons_self
    obtain ⟨n1, n2⟩ := List.nodup_cons.mp h3
    have hb : back δ (.own i :: rs) (.ow q o :: os) = back (δ.set i (.ow p o)) rs os := by
      show (match δ[i]? with | some (.ow p _) => back (δ.set i (.ow p o)) rs os | _ => back δ rs os) = _
      rw [e0]
    rw [hb] at h
    have hl : i < δ.length := (List.getElem?_eq_some_iff.mp e0).1
    rcases back_get rs os (δ.set i (.ow p o)) (fun m j e => by simpa using h1 (m + 1) j (by simpa using e)) (fun j hj => by
      have ne : i ≠ j := fun z => n1 (by rw [z]; exact hj)
      rw [List.getElem?_set_ne ne]
      exact h2 j (List.mem_cons_of_mem _ hj)) n2 j s h with ⟨g1, g2⟩ | ⟨m, q', p', o', o0', e1, e2, e3, e4⟩
    · by_cases z : j = i
      · subst z
        rw [List.getElem?_set_self hl] at g2
        exact .inr ⟨0, q, p, o, o0, rfl, rfl, e0, (Option.some.inj g2).symm⟩
      · rw [List.getElem?_set_ne (Ne.symm z)] at g2
        refine .inl ⟨fun hm => ?_, g2⟩
        rcases List.mem_cons.mp hm with rfl | hm
        · exact z rfl
        · exact g1 hm
    · have hj : j ∈ ownsOf rs := by
        have : ∀ (rs : List RV) (m : Nat), rs[m]? = some (RV.own j) → j ∈ ownsOf rs := fun rs => by
          induction rs with
          | nil => intro m e; simp at e
          | cons r rs ih =>
            intro m e
            cases m with
            | zero => have : r = .own j := by simpa using e
                      subst this; exact List.mem_cons_self
            | succ m =>
              have := ih m (by simpa using e)
              cases r with
              | d x => exact this
              | own i => exact List.mem_cons_of_mem _ this
        exact this rs m e1
      have ne : i ≠ j := fun z => n1 (by rw [z]; exact hj)
      rw [List.getElem?_set_ne ne] at e3
      exact .inr ⟨m + 1, q', p', o', o0', by simpa using e1, by simpa using e2, e3, e4⟩
theorem mem_owns {j : Nat} : ∀ (rs : List RV) (m : Nat), rs[m]? = some (RV.own j) → j ∈ ownsOf rs
  | [], m, e => by simp at e
  | r :: rs, 0, e => by
    have : r = .own j := by simpa using e
    subst this
    exact List.mem_cons_self
  | r :: rs, m + 1, e => by
    have := mem_owns rs m (by simpa using e)
    cases r with
    | d x => exact this
    | own i => exact List.mem_cons_of_mem _ this
theorem args_get {δ : Env} : ∀ {rs : List RV} {as : List Sl} (m : Nat) (r : RV), argsOf δ rs = some as → rs[m]? = some r → ∃ s, as[m]? = some s ∧ r.arg δ = some s
  | [], _, m, r, _, e => by simp at e
  | r0 :: rs, as, m, r, h, e => by
    unfold argsOf at h
    split at h
    · rename_i x xs h1 h2
      cases h
      cases m with
      | zero =>
        have : r0 = r := by simpa using e
        subst this
        exact ⟨x, rfl, h1⟩
      | succ m =>
        obtain ⟨s, e1, e2⟩ := args_get m r h2 (by simpa using e)
        exact ⟨s, by simpa using e1, e2⟩
    · cases h
theorem args_len {δ : Env} : ∀ {rs : List RV} {as : List Sl}, argsOf δ rs = some as → as.length = rs.length
  | [], _, h => by cases h; rfl
  | r0 :: rs, as, h => by
    unfold argsOf at h
    split at h
    · rename_i x xs h1 h2
      cases h
      simp [args_len h2]
    · cases h
theorem okOuts_get : ∀ {as os : List Sl} (m : Nat) (p : Bool) (o : Ob), okOuts as os = true → as[m]? = some (Sl.ow p o) → ∃ q u, os[m]? = some (Sl.ow q u)
  | [], _, m, _, _, _, e => by simp at e
  | a :: as, os, 0, p, o, h, e => by
    have : a = .ow p o := by simpa using e
    subst this
    cases os with
    | nil => simp [okOuts] at h
    | cons b os => cases b with
      | ow q u => exact ⟨q, u, rfl⟩
      | ro d => simp [okOuts] at h
      | no => simp [okOuts] at h
  | a :: as, os, m + 1, p, o, h, e => by
    cases os with
    | nil => cases a <;> simp [okOuts] at h
    | cons b os =>
      have h' : okOuts as os = true := by cases a <;> cases b <;> simp [okOuts] at h <;> exact h
      obtain ⟨q, u, e2⟩ := okOuts_get m p o h' (by simpa using e)
      exact ⟨q, u, by simpa using e2⟩
theorem rvrs_get {g : Gr} {ows : List Addr} {σ : St} {H : Hp} : ∀ {rs : List RV} {vs : List V} (m : Nat) (r : RV), RvRs g σ ows H rs vs → rs[m]? = some r → ∃ v, vs[m]? = some v ∧ RvR g σ ows H r v
  | [], _, m, r, _, e => by simp at e
  | r0 :: rs, _, m, r, ⟨v, us, h1, h2, h3⟩, e => by
    subst h1
    cases m with
    | zero =>
      have : r0 = r := by simpa using e
      subst this
      exact ⟨v, rfl, h2⟩
    | succ m =>
      obtain ⟨u, e1, e2⟩ := rvrs_get m r h3 (by simpa using e)
      exact ⟨u, by simpa using e1, e2⟩
theorem rvrs_len {g : Gr} {ows : List Addr} {σ : St} {H : Hp} : ∀ {rs : List RV} {vs : List V}, RvRs g σ ows H rs vs → vs.length = rs.length
  | [], _, h => by cases h; rfl
  | r0 :: rs, _, ⟨v, us, h1, h2, h3⟩ => by
    subst h1
    simp [rvrs_len h3]
theorem ps_mem {H : Hp} : ∀ {as : List Sl} {vs : List V} {c : Addr}, c ∈ psOf H as vs → ∃ (m : Nat) (p : Bool) (o : Ob) (a : Addr), as[m]? = some (Sl.ow p o) ∧ vs[m]? = some (.ref a) ∧ c ∈ foot H a
  | [], _, _, h => by simp [psOf] at h
  | s :: as, [], _, h => by cases s <;> simp [psOf] at h
  | s :: as, v :: vs, c, h => by
    have step : c ∈ psOf H as vs → ∃ (m : Nat) (p : Bool) (o : Ob) (a : Addr), (s :: as)[m]? = some (Sl.ow p o) ∧ (v :: vs)[m]? = some (.ref a) ∧ c ∈ foot H a := fun h => by
      obtain ⟨m, p, o, a, e1, e2, e3⟩ := ps_mem h
      exact ⟨m + 1, p, o, a, by simpa using e1, by simpa using e2, e3⟩
    cases s with
    | ow p o =>
      cases v with
      | ref b =>
        rcases List.mem_append.mp h with h | h
        · exact ⟨0, p, o, b, rfl, rfl, h⟩
        · exact step h
      | _ => exact step h
    | _ => exact step h
theorem mem_ps {H : Hp} : ∀ {as : List Sl} {vs : List V} {m : Nat} {p : Bool} {o : Ob} {a c : Addr}, as[m]? = some (Sl.ow p o) → vs[m]? = some (.ref a) → c ∈ foot H a → c ∈ psOf H as vs
  | [], _, m, _, _, _, _, h, _, _ => by simp at h
  | s :: as, [], m, _, _, _, _, _, h, _ => by simp at h
  | s :: as, v :: vs, 0, p, o, a, c, h1, h2, h3 => by
    have e1 : s = .ow p o := by simpa using h1
    have e2 : v = .ref a := by simpa using h2
    subst e1 e2
    exact List.mem_append_left _ h3
  | s :: as, v :: vs, m + 1, p, o, a, c, h1, h2, h3 => by
    have ih := mem_ps (H := H) (as := as) (vs := vs) (m := m) (by simpa using h1) (by simpa using h2) h3
    cases s with
    | ow q u =>
      cases v with
      | ref b => exact List.mem_append_right _ ih
      | _ => exact ih
    | _ => exact ih

section
variable {g : Gr} {ows ows' : List Addr} {σ : St} {H H' : Hp} {δ : Env} {rs : List RV} {as os : List Sl} {vs : List V}
theorem args_own (h : argsOf δ rs = some as) {i : Nat} {p : Bool} {o : Ob} (hi : as[i]? = some (Sl.ow p o)) : ∃ j, rs[i]? = some (.own j) ∧ ∃ q, δ[j]? = some (Sl.ow q o) := by
  have hl := args_len h
  have hi' : i < rs.length := by rw [← hl]; exact (List.getElem?_eq_some_iff.mp hi).1
  obtain ⟨s, e1, e2⟩ := args_get i rs[i] h (List.getElem?_eq_getElem hi')
  rw [hi] at e1
  cases e1
  cases hr : rs[i] with
  | d x => rw [hr] at e2; simp [RV.arg] at e2
  | own j =>
    rw [hr] at e2
    simp only [RV.arg] at e2
    split at e2
    · rename_i q u hq
      cases e2
      exact ⟨j, by rw [List.getElem?_eq_getElem hi', hr], q, hq⟩
    · cases e2
theorem own_args (h : argsOf δ rs = some as) {m j : Nat} (hm : rs[m]? = some (.own j)) : ∃ o, as[m]? = some (Sl.ow true o) ∧ ∃ q, δ[j]? = some (Sl.ow q o) := by
  obtain ⟨s, e1, e2⟩ := args_get m _ h hm
  simp only [RV.arg] at e2
  split at e2
  · rename_i q u hq
    cases e2
    exact ⟨u, e1, q, hq⟩
  · cases e2
theorem owns_once {k : Nat} : ∀ (rs : List RV) (i j : Nat), (ownsOf rs).Nodup → i ≠ j → rs[i]? = some (RV.own k) → rs[j]? = some (RV.own k) → False
  | [], i, j, _, _, e, _ => by simp at e
  | r :: rs, 0, 0, _, n, _, _ => n rfl
  | r :: rs, 0, j + 1, nd, _, e1, e2 => by
    have : r = .own k := by simpa using e1
    subst this
    exact (List.nodup_cons.mp nd).1 (mem_owns rs j (by simpa using e2))
  | r :: rs, i + 1, 0, nd, _, e1, e2 => by
    have : r = .own k := by simpa using e2
    subst this
    exact (List.nodup_cons.mp nd).1 (mem_owns rs i (by simpa using e1))
  | r :: rs, i + 1, j + 1, nd, n, e1, e2 => by
    refine owns_once rs i j ?_ (fun z => n (by rw [z])) (by simpa using e1) (by simpa using e2)
    cases r with
    | d x => exact nd
    | own k => exact (List.nodup_cons.mp nd).2
/-- the object that is handed in, in its slot -/
theorem arg_slot (r : RvRs g σ ows H rs vs) {m j : Nat} {a : Addr} (hm : rs[m]? = some (.own j)) (hv : vs[m]? = some (.ref a)) : σ[j]? = some (some (.ref a)) := by
  obtain ⟨v, e5, e6⟩ := rvrs_get m _ r hm
  rw [hv] at e5
  cases e5
  exact e6
theorem args_ok (e : EnvR g ows σ H δ) (h : argsOf δ rs = some as) (r : RvRs g σ ows H rs vs) (nd : (ownsOf rs).Nodup) : ArgsR g.P g.w g.K ows H as vs := by
  have hl := args_len h
  have hv := rvrs_len r
  refine ⟨by omega, fun j s v h1 h2 => ?_, fun i j p q o u a b hij h1 h2 h3 h4 => ?_⟩
  · have hj : j < rs.length := by rw [← hl]; exact (List.getElem?_eq_some_iff.mp h1).1
    obtain ⟨s', e1, e2⟩ := args_get j rs[j] h (List.getElem?_eq_getElem hj)
    rw [h1] at e1
    cases e1
    obtain ⟨v', e3, e4⟩ := rvrs_get j rs[j] r (List.getElem?_eq_getElem hj)
    rw [h2] at e3
    cases e3
    cases hr : rs[j] with
    | d x => rw [hr] at e2 e4; cases e2; exact e4
    | own i =>
      rw [hr] at e2 e4
      simp only [RV.arg] at e2
      split at e2
      · rename_i q u hq
        cases e2
        obtain ⟨a, g1, g2, g4⟩ := e.slot i _ hq
        have e4 : σ[i]? = some (some v) := e4
        rw [g1] at e4
        cases e4
        exact ⟨a, rfl, fun c hc => (g2 c hc).1, g4⟩
      · cases e2
  · obtain ⟨i', hi, p', hp⟩ := args_own h h1
    obtain ⟨j', hj, q', hq⟩ := args_own h h2
    have ne : i' ≠ j' := fun z => by
      subst z
      exact owns_once rs i j nd hij hi hj
    exact e.inj i' j' p' o q' u a b ne hp hq (arg_slot r hi h3) (arg_slot r hj h4)
/-- the caller's slots behind the call; ows' hides what is new, too -/
theorem back_ok (e : EnvR g ows σ H δ) (h : argsOf δ rs = some as) (r : RvRs g σ ows H rs vs) (nd : (ownsOf rs).Nodup) (ok : okOuts as os = true) (A : After g.P g.w g.K ows' as vs os H H') (U : Up ows H ows' H') : EnvR g ows' σ H' (back δ rs os) ∧ GrwS ows H ows' H' := by
  have AR := args_ok e h r nd
  have psin : ∀ c ∈ psOf H as vs, c ∈ ows := fun c hc => by
    obtain ⟨m, p, o, a, e1, e2, e3⟩ := ps_mem hc
    obtain ⟨b, g1, g2, _⟩ := AR.arg m _ _ e1 e2
    cases g1
    exact g2 c e3
  -- a part of what is handed in: of which slot
  have psat : ∀ c ∈ psOf H as vs, ∃ (m k : Nat) (q : Bool) (o : Ob) (a : Addr), rs[m]? = some (.own k) ∧ δ[k]? = some (Sl.ow q o) ∧ σ[k]? = some (some (.ref a)) ∧ c ∈ foot H a := fun c hc => by
    obtain ⟨m, p, o, a, e1, e2, e3⟩ := ps_mem hc
    obtain ⟨k, hk, q, hq⟩ := args_own h e1
    exact ⟨m, k, q, o, a, hk, hq, arg_slot r hk e2, e3⟩
  have sm : Same (hid ows H) (hid ows' H') := fun a o q => by
    unfold hid at q ⊢
    split at q
    · cases q
    · rename_i na
      have n' : a ∉ ows' := fun z => by
        rcases U.new a z with z | ⟨z, _⟩
        · exact na z
        · rw [z] at q; cases q
      rw [if_neg n']
      exact A.keep a o (fun z => na (psin a z)) q
  -- an own slot that was not handed in
  have stay : ∀ {j : Nat} {p : Bool} {o : Ob} {a c : Addr}, j ∉ ownsOf rs → δ[j]? = some (Sl.ow p o) → σ[j]? = some (some (.ref a)) → c ∈ foot H a → H' c = H c := fun {j p o a c} hj hd ha hc => by
    cases q : H c with
    | none => exact absurd q (e.dom c ((e.own hd ha).1 c hc).1)
    | some u =>
      refine A.keep c u (fun hm => ?_) q
      obtain ⟨m, k, q2, o2, b, hk, hq2, hb, hcb⟩ := psat c hm
      exact e.inj j k p o q2 o2 a b (fun z => hj (by rw [z]; exact mem_owns rs m hk)) hd hq2 ha hb c hc hcb
  -- which of both
  have side : ∀ {j : Nat} {s : Sl}, (back δ rs os)[j]? = some s → (j ∉ ownsOf rs ∧ δ[j]? = some s) ∨ ∃ (m : Nat) (q p : Bool) (o o0 : Ob), rs[m]? = some (.own j) ∧ os[m]? = some (Sl.ow q o) ∧ δ[j]? = some (Sl.ow p o0) ∧ s = .ow p o := fun {j s} hj =>
    back_get rs os δ (fun m j hm => by
      obtain ⟨o, e1, _⟩ := own_args h hm
      exact okOuts_get m true o ok e1) (fun j hj => by
      obtain ⟨m, hm⟩ := of_mem_owns rs hj
      obtain ⟨o, _, q, e2⟩ := own_args h hm
      exact ⟨q, o, e2⟩) nd j s hj
  have outA : ∀ {m j : Nat} {q : Bool} {o : Ob} {a : Addr}, rs[m]? = some (.own j) → os[m]? = some (Sl.ow q o) → σ[j]? = some (some (.ref a)) → vs[m]? = some (.ref a) ∧ (∀ c ∈ foot H' a, c ∈ ows' ∧ (c ∈ foot H a ∨ H c = none)) ∧ OwnOk g.P g.w g.K (hid ows' H') H' a o := fun {m j q o a} e1 e2 ha => by
    obtain ⟨b, e7, e8, e9⟩ := A.outs m q o e2
    have := arg_slot r e1 e7
    rw [ha] at this
    have eb : a = b := by simpa using this
    subst eb
    exact ⟨e7, e8, e9⟩
  have gw : GrwS ows H ows' H' := ⟨U.sub, sm⟩
  refine ⟨⟨by rw [back_len]; exact e.len, fun a u hp q => ?_, fun a ha => U.sub a (e.psub a ha), fun a ha => ?_, fun j s hj => ?_, fun i j p o q u x y hij h1 h2 h3 h4 c hc hc' => ?_, fun j o hj => ?_, fun a hP t ht => (e.tab a hP t ht).mono ?_ sm, e.need⟩, gw⟩
  rotate_right
  · obtain ⟨t2, k2⟩ := (e.tab a hP t ht).some
    refine (A.keep a _ (fun hm => ?_) k2).trans k2.symm
    obtain ⟨m, k, q2, o2, b, hk, hq2, hb, hcb⟩ := psat a hm
    exact e.noTab hq2 hb hP ht hcb
  · refine A.keep a u (fun hm => ?_) (e.base a u hp q)
    obtain ⟨m, k, q2, o2, b, hk, hq2, hb, hcb⟩ := psat a hm
    exact ((e.own hq2 hb).1 a hcb).2.out hp q
  · rcases U.new a ha with ha | ⟨_, ha⟩
    · cases q : H a with
      | none => exact absurd q (e.dom a ha)
      | some u =>
        by_cases hm : a ∈ psOf H as vs
        · exact A.there a u hm q
        · rw [A.keep a u hm q]; exact fun z => nomatch z
    · exact ha
  · rcases side hj with ⟨g1, g2⟩ | ⟨m, q, p, o, o0, e1, e2, e3, rfl⟩
    · refine (e.slot j s g2).keep U.sub sm fun a c ha ⟨p, o, z⟩ hc => ?_
      subst z
      exact stay g1 g2 ha hc
    · obtain ⟨a, k1, k2, k3⟩ := e.slot j _ e3
      obtain ⟨_, e8, e9⟩ := outA e1 e2 k1
      refine ⟨a, k1, fun c hc => ⟨(e8 c hc).1, ?_⟩, e9⟩
      rcases (e8 c hc).2 with z | z
      · exact (k2 c z).2
      · exact .inr (e.fresh z).1
  · rcases side h1 with ⟨g1, g2⟩ | ⟨m, q', p', o', o0, e1, e2, e3, z⟩
    · have f1 : foot H' x = foot H x := foot_eq (stay g1 g2 h3 foot_self)
      rw [f1] at hc
      rcases side h2 with ⟨g3, g4⟩ | ⟨m2, q2, p2, o2, o3, k1, k2, k3, z2⟩
      · rw [foot_eq (stay g3 g4 h4 foot_self)] at hc'
        exact e.inj i j p o q u x y hij g2 g4 h3 h4 c hc hc'
      · rcases ((outA k1 k2 h4).2.1 c hc').2 with z | z
        · exact e.inj i j p o p2 o3 x y hij g2 k3 h3 h4 c hc z
        · exact e.dom c ((e.own g2 h3).1 c hc).1 z
    · rcases side h2 with ⟨g3, g4⟩ | ⟨m2, q2, p2, o2, o3, k1, k2, k3, z2⟩
      · rw [foot_eq (stay g3 g4 h4 foot_self)] at hc'
        rcases ((outA e1 e2 h3).2.1 c hc).2 with z | z
        · exact e.inj i j p' o0 q u x y hij e3 g4 h3 h4 c z hc'
        · exact e.dom c ((e.own g4 h4).1 c hc').1 z
      · refine A.apart m m2 _ _ _ _ x y (fun z => ?_) e2 k2 (outA e1 e2 h3).1 (outA k1 k2 h4).1 c hc hc'
        subst z
        rw [e1] at k1
        cases k1
        exact hij rfl
  · rcases side hj with ⟨_, g2⟩ | ⟨_, _, p', _, o0, _, _, e3, e4⟩
    · exact e.par j _ g2
    · cases e4
      exact e.par j _ e3
end
end G
/-! G.Chk: does a small tree say what a piece of the text says? -/
namespace G
open PySem L2

mutual
def D.same : D → D → Bool
  | .non, .non => true
  | .bl a, .bl b => a == b
  | .int a, .int b => a == b
  | .str a, .str b => decide (a = b)
  | .tup a, .tup b => D.sames a b
  | .lst a, .lst b => D.sames a b
  | .frz a, .frz b => D.sames a b
  | _, _ => false
def D.sames : List D → List D → Bool
  | [], [] => true
  | a :: as, b :: bs => D.same a b && D.sames as bs
  | _, _ => false
end
mutual
theorem D.of_same : ∀ a b : D, D.same a b = true → a = b
  | .non, b, h => by cases b <;> simp [D.same] at h <;> rfl
  | .bl _, b, h => by cases b <;> simp [D.same] at h; rw [h]
  | .int _, b, h => by cases b <;> simp [D.same] at h; rw [h]
  | .str _, b, h => by cases b <;> simp [D.same] at h; rw [h]
  | .tup xs, b, h => by cases b <;> simp only [D.same, reduceCtorEq, Bool.false_eq_true] at h; rw [D.of_sames xs _ h]
  | .lst xs, b, h => by cases b <;> simp only [D.same, reduceCtorEq, Bool.false_eq_true] at h; rw [D.of_sames xs _ h]
  | .frz xs, b, h => by cases b <;> simp only [D.same, reduceCtorEq, Bool.false_eq_true] at h; rw [D.of_sames xs _ h]
theorem D.of_sames : ∀ a b : List D, D.sames a b = true → a = b
  | [], [], _ => rfl
  | [], _ :: _, h => by simp [D.sames] at h
  | _ :: _, [], h => by simp [D.sames] at h
  | a :: as, b :: bs, h => by
    rw [D.sames, Bool.and_eq_true] at h
    rw [D.of_same a b h.1, D.of_sames as bs h.2]
end

/-! ### side conditions, by the head -/
def headOk : Expr → Bool
  | .Starred .. => false
  | .Slice .. => false
  | .Set .. => false
  | _ => true
def notComp : Expr → Bool
  | .ListComp .. => false
  | .SetComp .. => false
  | .DictComp .. => false
  | _ => true
def notTest : Expr → Bool
  | .UnaryOp .Not _ _ => false
  | .BoolOp .. => false
  | .IfExp .. => false
  | .Compare .. => false
  | _ => true
def notCall0 : Expr → Bool
  | .Call (.Name ..) [] [] _ => false
  | _ => true
theorem star_ok {e : Expr} (h : headOk e = true) (es : List Expr) (env : PySem.Env) : starEach (e :: es) env = (false, eval e env) :: starEach es env := by
  cases e <;> first | rfl | cases h
theorem stars_ok : ∀ {es : List Expr} (h : es.all headOk = true) (env : PySem.Env) (pos : Pos), (backTo pos (starEach es env)).any (·.1) = false
  | [], _, env, pos => rfl
  | e :: es, h, env, pos => by
    rw [List.all_cons, Bool.and_eq_true] at h
    rw [star_ok h.1]
    show (false || (backTo pos (starEach es env)).any (·.1)) = false
    rw [stars_ok h.2]
    rfl
theorem behind_ok {e : Expr} (h : headOk e = true) (op : CmpOp) : behindInMarks op e = false := by
  cases e <;> first | rfl | cases h
theorem folded_ok {e : Expr} (h : headOk e = true) (env : PySem.Env) (x : Value) : foldedSetIterable e env x = pure x := by
  cases e <;> first | rfl | cases h
theorem plain_ok {e : Expr} (h : headOk e = true) : PlainIx e := by
  intro o i
  cases e <;> first | rfl | cases h
theorem swap_ok {e : Expr} (h : notComp e = true) (t : Option Expr) (l : Nat) (env : PySem.Env) : swapsWith e t l env = pure false := by
  cases e <;> first | rfl | cases h
theorem sole_ok {e : Expr} (h : notComp e = true) (t : Expr) (l : Nat) (env : PySem.Env) : swapsWithSole [t] e l env = pure false := swap_ok h _ _ _
theorem true_ok {e : Expr} (h : notTest e = true) (env : PySem.Env) (whole : Sem Value) : isTrue e env whole = (do let v ← whole; standAt e.pos; holding [v] (truthy v)) := by
  cases e with
  | UnaryOp op x p => cases op <;> first | rfl | cases h
  | _ => first | rfl | cases h
theorem base_ok {e : Expr} (h : notCall0 e = true) (a : Str) (env : PySem.Env) (whole : Sem Value) : attributeBase e a env whole = whole := by
  cases e with
  | Call f as ks p =>
    cases f with
    | Name x q =>
      cases as with
      | nil =>
        cases ks with
        | nil => cases h
        | cons a b => rfl
      | cons a b => rfl
    | _ => rfl
  | _ => rfl

/-- what the checker knows: slots, scope, the defs that may be called, the constants -/
structure Ct where
  N : List Str
  sc : Scope
  fns : List (Str × Nat)
  cons : List (Str × D)
  /-- the defs that tell an error's word -/
  wds : List (Str × List (Str × Str))
  /-- the methods of players: behind the defs -/
  mts : List (Str × Nat)
  /-- is there the generator lines()? -/
  lin : Bool
  /-- are the classes of errors told apart? -/
  exm : Bool
  /-- may errors be values? -/
  ers : Bool
  /-- the defs that tell an error's field: the def, the class, the field -/
  lms : List (Str × Str × Str)
def okName (x : Str) : Bool := !(x == ("__debug__" : Str)) && !(x == ("__classdict__" : Str)) && !(x == ("__name__" : Str))
theorem okN {x : Str} (h : okName x = true) : (x == ("__debug__" : Str)) = false ∧ (x == ("__classdict__" : Str)) = false ∧ (x == ("__name__" : Str)) = false := by
  unfold okName at h
  simp only [Bool.and_eq_true, Bool.not_eq_true'] at h
  exact ⟨h.1.1, h.1.2, h.2⟩
def visB (sc : Scope) (x : Str) : Bool := match sc.names.lookup x with
  | some .local => true
  | some .cell => true
  | some .free => true
  | _ => false
def locB (sc : Scope) (x : Str) : Bool := match sc.names.lookup x with
  | some .local => true
  | some .cell => true
  | _ => false
def glB (sc : Scope) (x : Str) : Bool := match sc.names.lookup x with
  | some .globalImplicit => true
  | _ => false
theorem vis_of {sc : Scope} {x : Str} (h : visB sc x = true) : Vis sc x := by
  unfold visB at h
  split at h
  · exact .inl (by assumption)
  · exact .inr (.inl (by assumption))
  · exact .inr (.inr (by assumption))
  · cases h
theorem loc_of {sc : Scope} {x : Str} (h : locB sc x = true) : Loc sc x := by
  unfold locB at h
  split at h
  · exact .inl (by assumption)
  · exact .inr (by assumption)
  · cases h
def bltN : Blt → Str
  | .len => "len" | .abs => "abs" | .int => "int" | .str => "str" | .bool => "bool" | .min2 => "min" | .max2 => "max" | .tuple => "tuple" | .list => "list" | .any => "any" | .all => "all" | .sum => "sum" | .maxl => "max" | .minp => "min" | .sorted => "sorted"
  | _ => "isinstance"
def bltArity : Blt → Nat
  | .min2 => 2 | .max2 => 2 | _ => 1
/-- the names that the layer's rules ask for as built-ins -/
def bltNames : List Str := ["len", "abs", "int", "str", "bool", "min", "max", "tuple", "list", "any", "all", "sum", "sorted", "isinstance", "range", "enumerate", "set"]
def litB : D → Const → Bool
  | .non, .none => true
  | .bl a, .bool b => a == b
  | .int a, .int b => a == b
  | .str a, .str b => decide (a = b)
  | _, _ => false
def lenE : E → Nat
  | .cons _ es => lenE es + 1
  | _ => 0
def notIf : Expr → Bool
  | .IfExp .. => false
  | _ => true
/-- the block's own names with their slots -/
def ownOf (N : List Str) (vs : List Nat) : List (Str × Nat) := vs.map fun v => (N.getD v Str.empty, v)
theorem ownOf_snd (N : List Str) (vs : List Nat) : (ownOf N vs).map (·.2) = vs := by
  unfold ownOf
  rw [List.map_map]
  exact List.map_id vs
def vsOk (c : Ct) (s : Scope) (vs : List Nat) : Bool := blkC c.N c.sc s (ownOf c.N vs)
/-- a name as a target; s: the block's own scope (of a def: what it is) -/
def nameT (N : List Str) (sc : Scope) (fn : Str → Bool) (i : Nat) (x : Str) : Bool := decide (N[i]? = some x) && locB sc x && (fn x || decide (sc.names.lookup x = some .local))
def namesT (N : List Str) (sc : Scope) (fn : Str → Bool) : List Nat → List Expr → Bool
  | [], [] => true
  | i :: is, .Name x _ :: l => nameT N sc fn i x && namesT N sc fn is l
  | _, _ => false
def isT (N : List Str) (sc : Scope) (fn : Str → Bool) (tg : List Nat) (t : Expr) : Bool := match tg, t with
  | [i], .Name x _ => nameT N sc fn i x
  | tg, .Tuple l _ _ => decide (tg.length ≠ 1) && namesT N sc fn tg l
  | _, _ => false
def fnB (s : Scope) : Str → Bool := fun x => s.names.lookup x == some .cell
def m1N : M1 → Str
  | .spl => "split" | .joi => "join" | .lix => "index"
/-- the pairs of a written dict -/
def kvB : List (Str × Int) → List (Option Expr) → List Expr → Bool
  | [], [], [] => true
  | (z, i) :: kvs, some (.Constant (.str a) _ _) :: ks, .Constant (.int b) _ _ :: vs => decide (a = z) && b == i && kvB kvs ks vs
  | _, _, _ => false
/-- a dict of the module, as a constant: .frz of pairs -/
def kvsOf : List D → Option (List (Int × Str))
  | [] => some []
  | .tup [.int i, .str z] :: r => (kvsOf r).map ((i, z) :: ·)
  | _ => none
def notFrz : D → Bool
  | .frz _ => false
  | _ => true
def frzKv (d : D) (kvs : List (Int × Str)) : Bool := match d with
  | .frz xs => decide (kvsOf xs = some kvs)
  | _ => false
def plyNames : List Str := ["record_kept", "many", "now", "past"]
def propNames : List Str := ["record", "turns", "needle", "heard"]
/-- a name with its slot -/
def slotB (c : Ct) (i : Nat) (x : Str) : Bool := decide (c.N[i]? = some x) && visB c.sc x && okName x
def fdN : Fd → Str
  | .rc => "record_kept" | .mn => "many" | .nw => "now"
/-- the method at k -/
def mtB (c : Ct) (k : Nat) (m : Str) (n : Nat) : Bool := decide (c.fns.length ≤ k) && decide (c.mts[k - c.fns.length]? = some (m, n))
/-- the forms of errors -/
def isX1 (c : Ct) (n : Str) (g : Ct → Expr → Bool) : Expr → Bool
  | .Call (.Name x _) [y] ks _ => ks.isEmpty && decide (x = n) && glB c.sc x && okName x && decide (n ∈ errNames) && g c y && headOk y && c.ers
  | _ => false
def isX2 (c : Ct) (n : Str) (g : Ct → Expr → Bool) : Expr → Bool
  | .Call (.Name f _) [y, .Name z _] ks _ => ks.isEmpty && decide (f = ("isinstance" : Str)) && glB c.sc f && g c y && headOk y && decide (z = n) && glB c.sc z && okName z && (decide (n ∈ errNames) || decide (n = ("RecordError" : Str)) || decide (n = ("ValueError" : Str))) && c.ers
  | _ => false
def isX3 (c : Ct) (f : Str) (g : Ct → Expr → Bool) : Expr → Bool
  | .Attribute y f2 _ => decide (f2 = f) && g c y && notCall0 y && c.ers
  | _ => false
def isX4 (c : Ct) (w n f : Str) (g : Ct → Expr → Bool) : Expr → Bool
  | .Call (.Name x _) [.Lambda ⟨[], [], none, [], [], none, []⟩ y scope _] ks _ => ks.isEmpty && decide (x = w) && glB c.sc x && okName x && decide ((w, n, f) ∈ c.lms) && LamX.lamSB c.sc scope && g { c with sc := scope, wds := [], lms := [], lin := false } y && headOk y
  | _ => false
def isX (c : Ct) (g : Ct → Expr → Bool) (x : Expr) : Xo → Bool
  | .mkx n => isX1 c n g x
  | .isx n => isX2 c n g x
  | .erf f => isX3 c f g x
  | .tryl w n f => isX4 c w n f g x
mutual
def isE (c : Ct) : E → Expr → Bool
  | .fld f i, .Attribute (.Name x _) nm _ => slotB c i x && decide (nm = fdN f) && decide (c.mts ≠ [])
  | .plen i, .Call (.Name f _) [.Attribute (.Name x _) nm _] ks _ => ks.isEmpty && glB c.sc f && decide (f = ("len" : Str)) && slotB c i x && decide (nm = ("past" : Str)) && decide (c.mts ≠ [])
  | .pemp i, .Compare (.Attribute (.Name x _) nm _) [op] [.List [] _] _ => decide (op = .Eq) && slotB c i x && decide (nm = ("past" : Str)) && decide (c.mts ≠ [])
  | .pmost i, .Attribute (.Name x _) nm _ => slotB c i x && decide (nm = ("MOST" : Str)) && decide (c.mts ≠ [])
  | .isply i, .Call (.Name f _) [.Name x _, .Name y _] ks _ => ks.isEmpty && glB c.sc f && decide (f = ("isinstance" : Str)) && slotB c i x && decide (y = ("Player" : Str)) && glB c.sc y && decide (c.mts ≠ [])
  | .cmost, .Attribute (.Name x _) nm _ => decide (x = ("Player" : Str)) && glB c.sc x && decide (nm = ("MOST" : Str)) && decide (c.mts ≠ [])
  | .plist i, .Call (.Name f _) [.Call (.Attribute (.Name x _) m apos) [] ks2 cpos] ks _ => ks.isEmpty && ks2.isEmpty && glB c.sc f && decide (f = ("list" : Str)) && slotB c i x && decide (m = ("lines" : Str)) && (apos.endLine == cpos.line) && c.lin
  | .mcall k i es, .Call (.Attribute (.Name x _) m apos) l ks cpos => ks.isEmpty && slotB c i x && mtB c k m (l.length + 1) && !propNames.contains m && decide (m ≠ ("__init__" : Str)) && isEs c es l && l.all headOk && (apos.endLine == cpos.line) && decide (l.length < 30)
  | .play0 k i, .Call (.Attribute (.Name x _) m apos) [] ks cpos => ks.isEmpty && slotB c i x && mtB c k "play" 2 && decide (m = ("play" : Str)) && (apos.endLine == cpos.line)
  | .prop k i, .Attribute (.Name x _) m _ => slotB c i x && mtB c k m 1 && propNames.contains m && decide (m ≠ ("__init__" : Str))
  | .olen k i, .Call (.Name f _) [.Name x _] ks _ => ks.isEmpty && glB c.sc f && decide (f = ("len" : Str)) && slotB c i x && mtB c k "__len__" 1
  | .obool k i, .Call (.Name f _) [.Name x _] ks _ => ks.isEmpty && glB c.sc f && decide (f = ("bool" : Str)) && slotB c i x && mtB c k "__bool__" 1
  | .oin k a i, .Compare y [op] [.Name x _] _ => decide (op = .In) && isE c a y && slotB c i x && mtB c k "__contains__" 2
  | .oeq k i a, .Compare (.Name x _) [op] [y] _ => decide (op = .Eq) && slotB c i x && isE c a y && headOk y && mtB c k "__eq__" 2
  | .var i, .Name x _ => decide (c.N[i]? = some x) && visB c.sc x && okName x
  | .lit d, .Constant k _ _ => litB d k
  | .con y d, .Name x _ => decide (x = y) && glB c.sc x && okName x && (match c.cons.lookup x with | some d' => D.same d' d && notFrz d | none => false)
  | .tup es, .Tuple l _ _ => isEs c es l && decide (lenE es ≤ 1000)
  | .lst es, .List l _ => isEs c es l && decide (lenE es ≤ 1000)
  | .bin o a b, .BinOp x op y _ => decide (op = opOf o) && isE c a x && isE c b y
  | .neg a, .UnaryOp op x _ => decide (op = .USub) && isE c a x
  | .not a, .UnaryOp op x _ => decide (op = .Not) && isE c a x && notIf x
  | .cmp o a b, .Compare x [op] [y] _ => decide (op = cOf o) && isE c a x && isE c b y && headOk y
  | .chn o p a b d, .Compare x [op, oq] [y, z] _ => decide (op = cOf o) && decide (oq = cOf p) && isE c a x && isE c b y && isE c d z && headOk y && headOk z
  | .and a b, .BoolOp op (x :: y :: r) pos => decide (op = .And) && isE c a x && notIf x && notIf y && (match r with | [] => isE c b y | z :: r => isE c b (.BoolOp .And (y :: z :: r) pos))
  | .or a b, .BoolOp op (x :: y :: r) pos => decide (op = .Or) && isE c a x && notIf x && notIf y && (match r with | [] => isE c b y | z :: r => isE c b (.BoolOp .Or (y :: z :: r) pos))
  | .ifx t a b, .IfExp x y z _ => isE c t x && notIf x && isE c a y && isE c b z
  | .idx a b, .Subscript x y _ => isE c a x && isE c b y && headOk y
  | .sl a lo hi, .Subscript x (.Slice l h none _) _ => isE c a x && (match l with | none => nonE lo | some y => isE c lo y && !nonE lo) && (match h with | none => nonE hi | some y => isE c hi y && !nonE hi)
  | .call k es, .Call (.Name f _) l ks _ => ks.isEmpty && decide (c.fns[k]? = some (f, l.length)) && glB c.sc f && okName f && isEs c es l && l.all headOk
  | .blt b es, .Call (.Name f _) l ks _ => ks.isEmpty && glB c.sc f && decide (f = bltN b) && (match isTy b with
      | some t => (match l with
        | [x, .Name y _] => isEs c es [x] && headOk x && decide (y = (t : Str)) && glB c.sc y
        | _ => false)
      | none => isEs c es l && l.all headOk && decide (l.length = bltArity b) && decide (bltF b ≠ .none))
  | .mth m o es, .Call (.Attribute x n apos) [y] ks cpos => ks.isEmpty && decide (m = .count) && decide (n = ("count" : Str)) && isE c o x && isEs c es [y] && headOk y && notCall0 x && (apos.endLine == cpos.line)
  | .m1 o a b, .Call (.Attribute x n apos) [y] ks cpos => ks.isEmpty && decide (n = m1N o) && isE c a x && isE c b y && headOk y && notCall0 x && (apos.endLine == cpos.line)
  | .nin a, .Compare (.Constant .none _ _) [op] [y] _ => decide (op = .In) && isE c a y && headOk y
  | .cget kvs a, .Call (.Attribute (.Dict ks vs _) n apos) [y] kws cpos => kws.isEmpty && decide (n = ("get" : Str)) && kvB kvs ks vs && decide ((kvs.map (·.1)).Nodup) && decide (kvs.length ≤ 15) && decide (kvs ≠ []) && isE c a y && headOk y && (apos.endLine == cpos.line)
  | .gidx nm kvs a, .Subscript (.Name x _) y _ => decide (x = nm) && glB c.sc x && okName x && (match c.cons.lookup x with | some d => frzKv d kvs | none => false) && isE c a y && headOk y
  | .rev a, .Subscript x (.Slice none none (some (.UnaryOp .USub (.Constant (.int 1) _ _) _)) _) _ => isE c a x
  | .lrng it, .Call (.Name f _) [x] ks _ => ks.isEmpty && glB c.sc f && decide (f = ("list" : Str)) && isR c it x
  | .tryc w ws k es, .Call (.Name x _) [.Lambda ⟨[], [], none, [], [], none, []⟩ (.Call (.Name f _) l ks2 _) scope _] ks _ => ks.isEmpty && ks2.isEmpty && decide (x = w) && glB c.sc x && okName x && decide ((w, ws) ∈ c.wds) && LamX.lamSB c.sc scope &&
    decide (c.fns[k]? = some (f, l.length)) && glB scope f && okName f && isEs { c with sc := scope, wds := [], lms := [], mts := [], lin := false, ers := false } es l && l.all headOk
  | .ext o a, x => isX c (fun c' y => isE c' a y) x o
  | .srt es, .Call (.Name f _) [.Call (.Name g _) l ks2 _] ks _ => ks.isEmpty && ks2.isEmpty && glB c.sc f && decide (f = ("sorted" : Str)) && glB c.sc g && decide (g = ("set" : Str)) && isEs c es l && l.all headOk && decide (l.length = 1)
  | .trng it, .Call (.Name f _) [x] ks _ => ks.isEmpty && glB c.sc f && decide (f = ("tuple" : Str)) && isR c it x
  | .comp vs tg it elt, .ListComp x [⟨t, i, [], a⟩] s _ => decide (a = 0) && isI c (tg.length != 1) it i && headOk i && isT c.N (relS s c.sc) (fnB s) tg t && vsOk c s vs && tg.all (vs.contains ·) && isE { c with sc := relS s c.sc } elt x
  | .compc vs tg it cd elt, .ListComp x [⟨t, i, [y], a⟩] s _ => decide (a = 0) && isI c (tg.length != 1) it i && headOk i && isT c.N (relS s c.sc) (fnB s) tg t && vsOk c s vs && tg.all (vs.contains ·) && isE { c with sc := relS s c.sc } elt x && isE { c with sc := relS s c.sc } cd y && notIf y
  | _, _ => false
def isEs (c : Ct) : E → List Expr → Bool
  | .nil, [] => true
  | .cons e es, x :: xs => isE c e x && headOk x && isEs c es xs
  | _, _ => false
/-- what a loop walks; en: the target is a tuple -/
def isI (c : Ct) (en : Bool) : E → Expr → Bool
  | .rng1 a, .Call (.Name f _) [x] ks _ => ks.isEmpty && glB c.sc f && decide (f = ("range" : Str)) && isE c a x && headOk x
  | .rng2 a b, .Call (.Name f _) [x, y] ks _ => ks.isEmpty && glB c.sc f && decide (f = ("range" : Str)) && isE c a x && headOk x && isE c b y && headOk y
  | .enm a, .Call (.Name f _) [x] ks _ => ks.isEmpty && en && glB c.sc f && decide (f = ("enumerate" : Str)) && isE c a x && headOk x
  | .itr a, x => isE c a x
  | _, _ => false
/-- range(..) as an argument of list, tuple -/
def isR (c : Ct) : E → Expr → Bool
  | .rng1 a, .Call (.Name f _) [x] ks _ => ks.isEmpty && glB c.sc f && decide (f = ("range" : Str)) && isE c a x && headOk x
  | .rng2 a b, .Call (.Name f _) [x, y] ks _ => ks.isEmpty && glB c.sc f && decide (f = ("range" : Str)) && isE c a x && headOk x && isE c b y && headOk y
  | _, _ => false
end
end G
/-! G.Snd1: the readings of small trees; one implication a construct. -/
namespace G
open PySem L2

abbrev Ps := List Addr × (Nat → Option (Option V))
/-- the code object of the def named law -/
def lawCode (K : PySem.W.Frag) (mg : Str → Option Value) : Option Addr := match mg "law" with
  | some (.ref a) => (match K.lookup a with
    | some o => (match o.data with
      | .func fd => (match fd.code with
        | .ref c => some c
        | _ => none)
      | _ => none)
    | none => none)
  | _ => none
/-- a slot's name that marks a def that makes lambdas -/
def lamN : Str := "<lambda>"
def tabP (K : PySem.W.Frag) (mg : Str → Option Value) (base : Heap) (P : Addr) : Prop := ∃ c, lawCode K mg = some c ∧ LamX.TabB base mg c P
abbrev gr (X : Cx) (H0 : Hp) (ps : Ps) : Gr := ⟨X.prog, X.w, X.K, H0, ps.1, ps.2, decide (lamN ∈ X.N), tabP X.K X.mg X.base⟩
section
variable (X : Cx) (T : List Fn) (cl : Str → Option Addr) (EX : XS)
def tE (e : E) : TE := fun σ H Q => ∃ H0 ps ows δ, EnvR (gr X H0 ps) ows σ H δ ∧ wpO ⟨gr X H0 ps, σ, cl, EX⟩ ows H (ev T e δ) (RvR (gr X H0 ps) σ) Q
def tEs (e : E) : TA := fun σ H Q => ∃ H0 ps ows δ, EnvR (gr X H0 ps) ows σ H δ ∧ wpO ⟨gr X H0 ps, σ, cl, EX⟩ ows H (evs T e δ) (RvRs (gr X H0 ps) σ) Q
def evb (T : List Fn) (e : E) (δ : Env) : Out Env Bool := (ev T e δ).bind fun x δ => lift (asBl x) δ
def tT (e : E) : TT := fun σ H Q => ∃ H0 ps ows δ, EnvR (gr X H0 ps) ows σ H δ ∧ wpO ⟨gr X H0 ps, σ, cl, EX⟩ ows H (evb T e δ) (fun _ _ (r : Bool) (b : Bool) => r = b) Q
/-- an iterator that yields these data -/
def WalksD (K : PySem.W.Frag) (ows : List Addr) (H0 : Hp) (xs : List D) (J : It) : Prop := ∀ (i : Nat) (H : Hp) (ows' : List Addr), Same (hid ows H0) (hid ows' H) → G.Dom ows' H →
  (i < xs.length → J.go i H ∧ ∀ v H1, J.yld i H v H1 → Grow H H1 ∧ ∀ d, xs[i]? = some d → Rep K (hid ows' H1) d v) ∧ (i = xs.length → J.stop i H)
def tI (e : E) : TI := fun σ H R => ∃ H0 ps ows δ, EnvR (gr X H0 ps) ows σ H δ ∧ wpO ⟨gr X H0 ps, σ, cl, EX⟩ ows H (evi T e δ) (fun ows' H' xs J => WalksD X.K ows' H' xs J) R
end
theorem _root_.L2.PE.imp {X : Cx} {e : Expr} {t t' : TE} (h : PE X e t) (k : ∀ σ H Q, t' σ H Q → t σ H Q) : PE X e t' := ⟨fun pins s σ H Q I q => h.run pins s σ H Q I (k _ _ _ q)⟩
theorem _root_.L2.PT.imp {X : Cx} {e : Expr} {t t' : TT} (h : PT X e t) (k : ∀ σ H Q, t' σ H Q → t σ H Q) : PT X e t' := ⟨fun pins s σ H Q I q => h.run pins s σ H Q I (k _ _ _ q)⟩
theorem _root_.L2.PW.imp {X : Cx} {e : Expr} {t t' : TT} (h : PW X e t) (k : ∀ σ H Q, t' σ H Q → t σ H Q) : PW X e t' := ⟨fun w pins s σ H Q I q => h.run w pins s σ H Q I (k _ _ _ q)⟩
theorem _root_.L2.PA.imp {X : Cx} {e : List Expr} {t t' : TA} (h : PA X e t) (k : ∀ σ H Q, t' σ H Q → t σ H Q) : PA X e t' := ⟨fun p pins s σ H Q I q => h.run p pins s σ H Q I (k _ _ _ q)⟩
theorem _root_.L2.PI.imp {X : Cx} {tg e : Expr} {t t' : TI} (h : PI X tg e t) (k : ∀ σ H Q, t' σ H Q → t σ H Q) : PI X tg e t' := ⟨fun pins s σ H Q I q => h.run pins s σ H Q I (k _ _ _ q)⟩

section
variable {X : Cx} {T : List Fn} {cl : Str → Option Addr} {EX : XS} {H0 : Hp} {ps : Ps} {ows : List Addr} {σ : St} {H : Hp} {δ : Env}
theorem EnvR.Dom {g : Gr} (e : EnvR g ows σ H δ) : G.Dom ows H := e.dom
theorem repV_of {g : Gr} {r : RV} {v : V} {d : D} (e : EnvR g ows σ H δ) (h : RvR g σ ows H r v) (q : r.val δ = some d) : RepV g.K ows H d v := by
  cases r with
  | d x => cases q; exact .inl h
  | own i =>
    simp only [RV.val] at q
    split at q
    · rename_i p xs hi
      cases q
      obtain ⟨a, h1, h2, vs, h4, h5⟩ := e.slot i _ hi
      have h : σ[i]? = some (some v) := h
      rw [h1] at h
      cases h
      exact .inr ⟨a, xs, vs, rfl, rfl, h4, h5⟩
    · cases q
theorem repVs_of {g : Gr} (e : EnvR g ows σ H δ) : ∀ {rs : List RV} {vs : List V} {ds : List D}, RvRs g σ ows H rs vs → vals δ rs = some ds → RepVs g.K ows H ds vs
  | [], _, _, h, q => by cases q; exact h
  | r :: rs, _, _, ⟨v, us, h1, h2, h3⟩, q => by
    unfold vals at q
    split at q
    · rename_i q1 q2
      cases q
      exact ⟨v, us, h1, repV_of e h2 q1, repVs_of e h3 q2⟩
    · cases q
theorem reps_of {g : Gr} : ∀ {rs : List RV} {vs : List V} {ds : List D}, RvRs g σ ows H rs vs → datas rs = some ds → Reps g.K (hid ows H) ds vs
  | [], _, _, h, q => by cases q; cases h; exact Reps.nil
  | .d x :: rs, _, _, ⟨v, us, h1, h2, h3⟩, q => by
    simp only [datas, Option.map_eq_some_iff] at q
    obtain ⟨ds, q1, rfl⟩ := q
    subst h1
    exact Reps.cons h2 (reps_of h3 q1)
  | .own i :: rs, _, _, _, q => by cases q
theorem EnvR.grow {g : Gr} {H1 : Hp} (e : EnvR g ows σ H δ) (h : Grow H H1) : EnvR g ows σ H1 δ ∧ GrwS ows H ows H1 := by
  rcases h with rfl | ⟨p, o, n, rfl⟩
  · exact ⟨e, .refl⟩
  · exact ⟨e.new n, .of (hid_new n)⟩
theorem EnvR.grow2 {g : Gr} {H1 : Hp} (e : EnvR g ows σ H δ) (h : Grow2 H H1) : EnvR g ows σ H1 δ ∧ GrwS ows H ows H1 := by
  obtain ⟨H2, g1, g2⟩ := h
  obtain ⟨e1, s1⟩ := e.grow g1
  obtain ⟨e2, s2⟩ := e1.grow g2
  exact ⟨e2, s1.trans s2⟩
theorem fin_of {g : Gr} {z : D} {Q : VK} (e : EnvR g ows σ H δ) (h : wpO ⟨g, σ, cl, EX⟩ ows H (.ok (.d z) δ) (RvR g σ) Q) : Fin g.K ows H z Q := fun v H1 gr r =>
  let ⟨e1, sm⟩ := e.grow2 gr
  h v ows H1 e1 sm r
/-- the good end: Q of the value at once -/
theorem ok_now {g : Gr} {α β : Type} {r : α} {R : List Addr → Hp → α → β → Prop} {Q : β → Hp → Prop} {b : β} (e : EnvR g ows σ H δ) (h : wpO ⟨g, σ, cl, EX⟩ ows H (.ok r δ) R Q) (hr : R ows H r b) : Q b H := h b ows H e .refl hr

theorem datas_len : ∀ {rs : List RV} {ds : List D}, datas rs = some ds → ds.length = rs.length
  | [], _, h => by cases h; rfl
  | .d x :: rs, _, h => by
    simp only [datas, Option.map_eq_some_iff] at h
    obtain ⟨ds, q1, rfl⟩ := h
    simp [datas_len q1]
  | .own _ :: _, _, h => by cases h
theorem evs_len : ∀ {es : E} {δ δ' : Env} {rs : List RV}, evs T es δ = .ok rs δ' → rs.length = lenE es
  | .nil, δ, δ', rs, h => by simp only [evs] at h; cases h; rfl
  | .cons a es, δ, δ', rs, h => by
    simp only [evs] at h
    cases h1 : ev T a δ with
    | ok r δ1 =>
      rw [h1] at h
      simp only [Out.bind] at h
      cases h2 : evs T es δ1 with
      | ok rs2 δ2 =>
        rw [h2] at h
        cases h
        simp [lenE, evs_len h2]
      | ex c s => rw [h2] at h; cases h
      | no => rw [h2] at h; cases h
    | ex c s => rw [h1] at h; cases h
    | no => rw [h1] at h; cases h
  | .var _, _, _, _, h | .lit _, _, _, _, h | .con _ _, _, _, _, h | .tup _, _, _, _, h | .lst _, _, _, _, h | .dnew, _, _, _, h | .bin _ _ _, _, _, _, h | .neg _, _, _, _, h | .not _, _, _, _, h
  | .cmp _ _ _, _, _, _, h | .chn _ _ _ _ _, _, _, _, h | .and _ _, _, _, _, h | .or _ _, _, _, _, h | .ifx _ _ _, _, _, _, h | .idx _ _, _, _, _, h | .sl _ _ _, _, _, _, h | .rev _, _, _, _, h
  | .call _ _, _, _, _, h | .blt _ _, _, _, _, h | .mth _ _ _, _, _, _, h | .rng1 _, _, _, _, h | .rng2 _ _, _, _, _, h | .enm _, _, _, _, h | .itr _, _, _, _, h | .lrng _, _, _, _, h | .trng _, _, _, _, h | .srt _, _, _, _, h | .tryc _ _ _ _, _, _, _, h
  | .comp _ _ _ _, _, _, _, h | .compc _ _ _ _ _, _, _, _, h => by simp only [evs] at h; cases h
theorem te_var {i : Nat} {Q : VK} (h : tE X T cl EX (.var i) σ H Q) : tVar i σ H Q := by
  obtain ⟨H0, ps, ows, δ, e, h⟩ := h
  simp only [ev] at h
  split at h
  · rename_i d hd
    obtain ⟨x, h1, h2⟩ := e.slot i _ hd
    exact ⟨x, h1, ok_now e h h2⟩
  · rename_i p o hd
    obtain ⟨a, h1, h2⟩ := e.slot i _ hd
    exact ⟨.ref a, h1, ok_now e h h1⟩
  · exact h.elim
theorem te_lit {d : D} {v : V} {Q : VK} (hv : ∀ H, Rep X.K H d v) (h : tE X T cl EX (.lit d) σ H Q) : tC v σ H Q := by
  obtain ⟨H0, ps, ows, δ, e, h⟩ := h
  exact ok_now e h (hv _)
theorem te_con {x : Str} {d : D} {v : V} {Q : VK} (hv : ∀ H, Rep X.K H d v) (h : tE X T cl EX (.con x d) σ H Q) : tC v σ H Q := by
  obtain ⟨H0, ps, ows, δ, e, h⟩ := h
  exact ok_now e h (hv _)
theorem te_nil {Q : List V → Hp → Prop} (h : tEs X T cl EX .nil σ H Q) : tNil σ H Q := by
  obtain ⟨H0, ps, ows, δ, e, h⟩ := h
  exact ok_now e h rfl
theorem te_cons {a es : E} {Q : List V → Hp → Prop} (h : tEs X T cl EX (.cons a es) σ H Q) : tCons (tE X T cl EX a) (tEs X T cl EX es) σ H Q := by
  obtain ⟨H0, ps, ows, δ, e, h⟩ := h
  simp only [evs] at h
  refine ⟨H0, ps, ows, δ, e, (wpO.bind h).imp fun x H1 ⟨r1, δ1, w1, _, e1, s1, rx, h1⟩ => ⟨H0, ps, w1, δ1, e1, (wpO.bind h1).imp fun vs H2 ⟨rs, δ2, w2, _, e2, s2, ry, h2⟩ => ?_⟩⟩
  exact ok_now e2 h2 ⟨x, vs, rfl, RvR.mono s2 rx, ry⟩
theorem te_tup {es : E} {Q : VK} (hz : lenE es ≤ 1000) (h : tE X T cl EX (.tup es) σ H Q) : tTup (tEs X T cl EX es) σ H Q := by
  obtain ⟨H0, ps, ows, δ, e, h⟩ := h
  simp only [ev] at h
  refine ⟨H0, ps, ows, δ, e, (wpO.bind h).imp fun vs H1 ⟨rs, δ1, w1, q1, e1, s1, rx, h1⟩ => ?_⟩
  obtain ⟨ds, q2, h2⟩ := wpO.lift h1
  have r := reps_of rx q2
  exact ⟨by rw [r.length, datas_len q2, evs_len q1]; exact Nat.le_trans hz (by decide), fun p n => (fin_of e1 h2).tup e1.dom r p n⟩
theorem te_lst {es : E} {Q : VK} (hz : lenE es ≤ 1000) (h : tE X T cl EX (.lst es) σ H Q) : tLst (tEs X T cl EX es) σ H Q := by
  obtain ⟨H0, ps, ows, δ, e, h⟩ := h
  simp only [ev] at h
  refine ⟨H0, ps, ows, δ, e, (wpO.bind h).imp fun vs H1 ⟨rs, δ1, w1, q1, e1, s1, rx, h1⟩ => ?_⟩
  obtain ⟨ds, q2, h2⟩ := wpO.lift h1
  have r := reps_of rx q2
  exact ⟨by rw [r.length, datas_len q2, evs_len q1]; exact Nat.le_trans hz (by decide), fun p n => (fin_of e1 h2).lst e1.dom r p n⟩
theorem te_bin {o : Bop} {a b : E} {Q : VK} (h : tE X T cl EX (.bin o a b) σ H Q) : tOp (rD X.K (binv o)) (tE X T cl EX a) (tE X T cl EX b) σ H Q := by
  obtain ⟨H0, ps, ows, δ, e, h⟩ := h
  simp only [ev] at h
  refine ⟨H0, ps, ows, δ, e, (wpO.bind h).imp fun x H1 ⟨r1, δ1, w1, _, e1, s1, rx, h1⟩ => ⟨H0, ps, w1, δ1, e1, (wpO.bind h1).imp fun y H2 ⟨r2, δ2, w2, _, e2, s2, ry, h2⟩ => ?_⟩⟩
  obtain ⟨z, hz, h3⟩ := wpO.lift h2
  unfold binR at hz
  split at hz
  · rename_i q1 q2
    exact ⟨w2, _, _, z, e2.dom, repV_of e2 (RvR.mono s2 rx) q1, repV_of e2 ry q2, hz, fin_of e2 h3⟩
  · cases hz
theorem te_neg {a : E} {Q : VK} (h : tE X T cl EX (.neg a) σ H Q) : tUn (rU fun i => .int (-i)) (tE X T cl EX a) σ H Q := by
  obtain ⟨H0, ps, ows, δ, e, h⟩ := h
  simp only [ev] at h
  refine ⟨H0, ps, ows, δ, e, (wpO.bind h).imp fun x H1 ⟨r1, δ1, w1, _, e1, s1, rx, h1⟩ => ?_⟩
  obtain ⟨z, hz, h3⟩ := wpO.lift h1
  unfold negR at hz
  split at hz
  · cases hz
    simp only [RvR, Rep] at rx
    exact ⟨_, rx, (fin_of e1 h3).int⟩
  · cases hz
theorem asBl_some {r : RV} {b : Bool} (h : asBl r = some b) : r = .d (.bl b) := by
  unfold asBl at h
  split at h
  · cases h; rfl
  · cases h
theorem te_not {a : E} {Q : VK} (h : tE X T cl EX (.not a) σ H Q) : tNotV (tE X T cl EX a) σ H Q := by
  obtain ⟨H0, ps, ows, δ, e, h⟩ := h
  simp only [ev] at h
  refine ⟨H0, ps, ows, δ, e, (wpO.bind h).imp fun x H1 ⟨r1, δ1, w1, _, e1, s1, rx, h1⟩ => ?_⟩
  obtain ⟨b, hb, h3⟩ := wpO.lift h1
  cases asBl_some hb
  simp only [RvR, Rep] at rx
  exact ⟨b, rx, (fin_of e1 h3).bl⟩
theorem dct_of {g : Gr} {i : Nat} {p : Bool} {kvs : List (D × D)} {v : V} (e : EnvR g ows σ H δ) (hi : δ[i]? = some (.ow p (.dct kvs))) (h : σ[i]? = some (some v)) : ∃ a, v = .ref a ∧ a ∈ ows ∧ (hid ows H) a = none ∧ DctAt g.P g.w g.K (hid ows H) a (H a) kvs := by
  obtain ⟨a, h1, h2, h3⟩ := e.slot i _ hi
  rw [h1] at h
  cases h
  have ho := (h2 a foot_self).1
  exact ⟨a, rfl, ho, by unfold hid; rw [if_pos ho], h3⟩
theorem rc_of {o : Cop} {r1 r2 : RV} {x y : V} {t : Bool} {Q : VK} (e : EnvR (gr X H0 ps) ows σ H δ) (rx : RvR (gr X H0 ps) σ ows H r1 x) (ry : RvR (gr X H0 ps) σ ows H r2 y) (hz : cmpR δ o r1 r2 = some t)
    (q : Fin X.K ows H (.bl t) Q) : rCN X.prog X.w X.K o x y H Q := by
  have plain : ∀ (a b : D), r1.val δ = some a → r2.val δ = some b → cmpv o a b = some t → rCN X.prog X.w X.K o x y H Q := fun a b h1 h2 h3 =>
    .inl ⟨ows, a, b, .bl t, e.dom, repV_of e rx h1, repV_of e ry h2, by show Option.map D.bl (cmpv o a b) = _; rw [h3]; rfl, q⟩
  unfold cmpR at hz
  split at hz
  · rename_i k i
    split at hz
    · rename_i kvs hi
      split at hz
      · rename_i hk
        cases hz
        obtain ⟨a, rfl, g2, g3, g4⟩ := dct_of e hi ry
        have rx : Rep X.K (hid ows H) k x := rx
        obtain ⟨nk, b, k1, k2, rfl⟩ := G.key_of hk rx
        exact .inr (.inl ⟨rfl, a, hid ows H, kvs, k, nk, b, rfl, hid_same _ _, g4, k1, k2, rfl, rx.mono (hid_same _ _), q.bl⟩)
      · cases hz
    · rename_i ys hi
      exact plain k (.lst ys) rfl (by simp only [RV.val, hi]) hz
    · cases hz
  · rename_i k i
    split at hz
    · rename_i kvs hi
      split at hz
      · rename_i hk
        cases hz
        obtain ⟨a, rfl, g2, g3, g4⟩ := dct_of e hi ry
        have rx : Rep X.K (hid ows H) k x := rx
        obtain ⟨nk, b, k1, k2, rfl⟩ := G.key_of hk rx
        exact .inr (.inr ⟨rfl, a, hid ows H, kvs, k, nk, b, rfl, hid_same _ _, g4, k1, k2, rfl, rx.mono (hid_same _ _), q.bl⟩)
      · cases hz
    · rename_i ys hi
      exact plain k (.lst ys) rfl (by simp only [RV.val, hi]) hz
    · cases hz
  · split at hz
    · rename_i h1 h2
      exact plain _ _ h1 h2 hz
    · cases hz
theorem te_cmp {o : Cop} {a b : E} {Q : VK} (h : tE X T cl EX (.cmp o a b) σ H Q) : tOp (rCN X.prog X.w X.K o) (tE X T cl EX a) (tE X T cl EX b) σ H Q := by
  obtain ⟨H0, ps, ows, δ, e, h⟩ := h
  simp only [ev] at h
  refine ⟨H0, ps, ows, δ, e, (wpO.bind h).imp fun x H1 ⟨r1, δ1, w1, _, e1, s1, rx, h1⟩ => ⟨H0, ps, w1, δ1, e1, (wpO.bind h1).imp fun y H2 ⟨r2, δ2, w2, _, e2, s2, ry, h2⟩ => ?_⟩⟩
  obtain ⟨t, hz, h3⟩ := wpO.lift h2
  exact rc_of e2 (RvR.mono s2 rx) ry hz (fin_of e2 h3)
theorem te_chn {o p : Cop} {a b c : E} {Q : VK} (h : tE X T cl EX (.chn o p a b c) σ H Q) : tChain (rCN X.prog X.w X.K o) (rCN X.prog X.w X.K p) (tE X T cl EX a) (tE X T cl EX b) (tE X T cl EX c) σ H Q := by
  obtain ⟨H0, ps, ows, δ, e, h⟩ := h
  simp only [ev] at h
  refine ⟨H0, ps, ows, δ, e, (wpO.bind h).imp fun x H1 ⟨r1, δ1, w1, _, e1, s1, rx, h1⟩ => ⟨H0, ps, w1, δ1, e1, (wpO.bind h1).imp fun y H2 ⟨r2, δ2, w2, _, e2, s2, ry, h2⟩ => ?_⟩⟩
  obtain ⟨t, hz, h3⟩ := wpO.lift h2
  refine rc_of e2 (RvR.mono s2 rx) ry hz fun v H3 gw rv => ?_
  obtain ⟨e3, s3⟩ := e2.grow2 gw
  simp only [Rep] at rv
  have h3 := wpO.from s3 h3
  refine ⟨t, rv, ?_⟩
  cases t with
  | false => exact iteF (ok_now e3 h3 (by simp only [RvR, Rep]))
  | true =>
    refine iteT ⟨H0, ps, w2, δ2, e3, (wpO.bind h3).imp fun z H4 ⟨r3, δ3, w3, _, e4, s4, rz, h4⟩ => ?_⟩
    obtain ⟨u, hu, h5⟩ := wpO.lift h4
    exact rc_of e4 (RvR.mono (s3.trans s4) ry) rz hu (fin_of e4 h5)
/-- a test from a value -/
theorem tt_te {a : E} {Q : Bool → Hp → Prop} (h : tT X T cl EX a σ H Q) : tE X T cl EX a σ H fun x H1 => ∃ k, x = .bl k ∧ Q k H1 := by
  obtain ⟨H0, ps, ows, δ, e, h⟩ := h
  unfold evb at h
  refine ⟨H0, ps, ows, δ, e, (wpO.bind h).imp fun x H1 ⟨r1, δ1, w1, _, e1, s1, rx, h1⟩ => ?_⟩
  cases hb : asBl r1 with
  | none => rw [hb] at h1; exact h1.elim
  | some b =>
    rw [hb] at h1
    cases asBl_some hb
    simp only [RvR, Rep] at rx
    exact ⟨b, rx, ok_now e1 h1 rfl⟩
theorem tt_not {a : E} {Q : Bool → Hp → Prop} (h : tT X T cl EX (.not a) σ H Q) : tNot (tT X T cl EX a) σ H Q := by
  obtain ⟨H0, ps, ows, δ, e, h⟩ := h
  refine ⟨H0, ps, ows, δ, e, ?_⟩
  unfold evb at h ⊢
  simp only [ev] at h
  cases h1 : ev T a δ with
  | ok r δ1 =>
    rw [h1] at h
    simp only [Out.bind] at h ⊢
    cases hb : asBl r with
    | none => rw [hb] at h; exact h
    | some b =>
      rw [hb] at h
      intro b' w' H' e' s' q
      cases q
      exact h (!b) w' H' e' s' rfl
  | ex c s => rw [h1] at h; exact h
  | no => rw [h1] at h; exact h
theorem tt_and {a b : E} {Q : Bool → Hp → Prop} (h : tT X T cl EX (.and a b) σ H Q) : tAnd (tT X T cl EX a) (tT X T cl EX b) σ H Q := by
  obtain ⟨H0, ps, ows, δ, e, h⟩ := h
  refine ⟨H0, ps, ows, δ, e, ?_⟩
  unfold evb at h ⊢
  simp only [ev] at h
  cases h1 : ev T a δ with
  | ok r δ1 =>
    rw [h1] at h
    simp only [Out.bind] at h ⊢
    cases hb : asBl r with
    | none => rw [hb] at h; exact h
    | some t =>
      rw [hb] at h
      intro t' w' H' e' s' q
      cases q
      cases t with
      | false => exact iteF (h false w' H' e' s' rfl)
      | true =>
        refine iteT ⟨H0, ps, w', δ1, e', wpO.from s' ?_⟩
        unfold evb
        simp only [lift, Out.bind, if_true] at h
        cases h2 : ev T b δ1 with
        | ok r2 δ2 =>
          rw [h2] at h
          simp only [Out.bind] at h ⊢
          cases hb2 : asBl r2 with
          | none => rw [hb2] at h; exact h
          | some u => rw [hb2] at h; exact h
        | ex c s => rw [h2] at h; exact h
        | no => rw [h2] at h; exact h
  | ex c s => rw [h1] at h; exact h
  | no => rw [h1] at h; exact h
theorem tt_or {a b : E} {Q : Bool → Hp → Prop} (h : tT X T cl EX (.or a b) σ H Q) : tOr (tT X T cl EX a) (tT X T cl EX b) σ H Q := by
  obtain ⟨H0, ps, ows, δ, e, h⟩ := h
  refine ⟨H0, ps, ows, δ, e, ?_⟩
  unfold evb at h ⊢
  simp only [ev] at h
  cases h1 : ev T a δ with
  | ok r δ1 =>
    rw [h1] at h
    simp only [Out.bind] at h ⊢
    cases hb : asBl r with
    | none => rw [hb] at h; exact h
    | some t =>
      rw [hb] at h
      intro t' w' H' e' s' q
      cases q
      cases t with
      | true => exact iteT (h true w' H' e' s' rfl)
      | false =>
        refine iteF ⟨H0, ps, w', δ1, e', wpO.from s' ?_⟩
        unfold evb
        simp only [lift, Out.bind, Bool.false_eq_true, if_false] at h
        cases h2 : ev T b δ1 with
        | ok r2 δ2 =>
          rw [h2] at h
          simp only [Out.bind] at h ⊢
          cases hb2 : asBl r2 with
          | none => rw [hb2] at h; exact h
          | some u => rw [hb2] at h; exact h
        | ex c s => rw [h2] at h; exact h
        | no => rw [h2] at h; exact h
  | ex c s => rw [h1] at h; exact h
  | no => rw [h1] at h; exact h
/-- the second part of and, or as a value: a truth -/
theorem te_last {b : E} {Q : VK} (h : wpO ⟨gr X H0 ps, σ, cl, EX⟩ ows H ((ev T b δ).bind fun y δ => (lift (asBl y) δ).bind fun u δ => .ok (.d (.bl u)) δ) (RvR (gr X H0 ps) σ) Q) (e : EnvR (gr X H0 ps) ows σ H δ) : tE X T cl EX b σ H Q := by
  refine ⟨H0, ps, ows, δ, e, ?_⟩
  cases h2 : ev T b δ with
  | ok r2 δ2 =>
    rw [h2] at h
    simp only [Out.bind] at h
    cases hb2 : asBl r2 with
    | none => rw [hb2] at h; exact h.elim
    | some u => rw [hb2] at h; cases asBl_some hb2; exact h
  | ex c s => rw [h2] at h; exact h
  | no => rw [h2] at h; exact h
theorem te_and {a b : E} {Q : VK} (h : tE X T cl EX (.and a b) σ H Q) : tAndV (tE X T cl EX a) (tE X T cl EX b) σ H Q := by
  obtain ⟨H0, ps, ows, δ, e, h⟩ := h
  simp only [ev] at h
  refine ⟨H0, ps, ows, δ, e, (wpO.bind h).imp fun x H1 ⟨r1, δ1, w1, _, e1, s1, rx, h1⟩ => ?_⟩
  obtain ⟨t, ht, h2⟩ := wpO.lift h1
  cases asBl_some ht
  simp only [RvR, Rep] at rx
  refine ⟨t, rx, ?_⟩
  cases t with
  | false => exact iteF (ok_now e1 h2 (by simp only [RvR, Rep]))
  | true => exact iteT (te_last h2 e1)
theorem te_or {a b : E} {Q : VK} (h : tE X T cl EX (.or a b) σ H Q) : tOrV (tE X T cl EX a) (tE X T cl EX b) σ H Q := by
  obtain ⟨H0, ps, ows, δ, e, h⟩ := h
  simp only [ev] at h
  refine ⟨H0, ps, ows, δ, e, (wpO.bind h).imp fun x H1 ⟨r1, δ1, w1, _, e1, s1, rx, h1⟩ => ?_⟩
  obtain ⟨t, ht, h2⟩ := wpO.lift h1
  cases asBl_some ht
  simp only [RvR, Rep] at rx
  refine ⟨t, rx, ?_⟩
  cases t with
  | true => exact iteT (ok_now e1 h2 (by simp only [RvR, Rep]))
  | false => exact iteF (te_last h2 e1)
theorem te_ifx {c a b : E} {Q : VK} (h : tE X T cl EX (.ifx c a b) σ H Q) : tIf (tT X T cl EX c) (tE X T cl EX a) (tE X T cl EX b) σ H Q := by
  obtain ⟨H0, ps, ows, δ, e, h⟩ := h
  refine ⟨H0, ps, ows, δ, e, ?_⟩
  unfold evb
  simp only [ev] at h
  cases h1 : ev T c δ with
  | ok r δ1 =>
    rw [h1] at h
    simp only [Out.bind] at h ⊢
    cases hb : asBl r with
    | none => rw [hb] at h; exact h
    | some t =>
      rw [hb] at h
      intro t' w' H' e' s' q
      cases q
      cases t with
      | true => exact iteT ⟨H0, ps, w', δ1, e', wpO.from s' h⟩
      | false => exact iteF ⟨H0, ps, w', δ1, e', wpO.from s' h⟩
  | ex c s => rw [h1] at h; exact h
  | no => rw [h1] at h; exact h
theorem te_idx {a b : E} {Q : VK} (h : tE X T cl EX (.idx a b) σ H Q) : tOp (rIxN X.prog X.w X.K) (tE X T cl EX a) (tE X T cl EX b) σ H Q := by
  obtain ⟨H0, ps, ows, δ, e, h⟩ := h
  simp only [ev] at h
  refine ⟨H0, ps, ows, δ, e, (wpO.bind h).imp fun x H1 ⟨r1, δ1, w1, _, e1, s1, rx, h1⟩ => ⟨H0, ps, w1, δ1, e1, (wpO.bind h1).imp fun y H2 ⟨r2, δ2, w2, _, e2, s2, ry, h2⟩ => ?_⟩⟩
  obtain ⟨z, hz, h3⟩ := wpO.lift h2
  have rx := RvR.mono s2 rx
  have f := fin_of e2 h3
  unfold idxR at hz
  split at hz
  · split at hz
    · rename_i kvs hi
      split at hz
      · rename_i hk
        obtain ⟨p, rfl, g2, g3, g4⟩ := dct_of e2 hi rx
        have ry : Rep X.K (hid w2 H2) _ y := ry
        obtain ⟨nk, b, k1, k2, rfl⟩ := G.key_of hk ry
        exact .inr ⟨p, hid w2 H2, kvs, _, nk, b, z, rfl, hid_same _ _, g4, k1, k2, rfl, ry.mono (hid_same _ _), hz, fun u ru => f.same ru⟩
      · cases hz
    · rename_i xs hi
      exact .inl ⟨w2, .lst xs, _, z, e2.dom, repV_of e2 rx (by simp only [RV.val, hi]), .inl ry, hz, f⟩
    · cases hz
  · exact .inl ⟨w2, _, _, z, e2.dom, .inl rx, .inl ry, hz, f⟩
  · cases hz
end
end G
/-! G.Cnt: list.count of texts. -/
namespace G
open PySem L2 PySem.Spec PyProof.Rows SeqAt
def eqS (w : Str) (v : Value) : Bool := match v with
  | .str n _ => n == w
  | _ => false
theorem reps_strs {K : PySem.W.Frag} {H : Hp} : ∀ {ds : List D} {vs : List V} {ns : List Str}, Reps K H ds vs → strsD ds = some ns → vs = ns.map V.str
  | [], _, _, h, e => by simp only [Reps] at h; simp only [strsD, Option.some.injEq] at e; subst h; subst e; rfl
  | .str i :: ds, vs, ns, h, e => by
    simp only [Reps, Rep] at h
    obtain ⟨v, r, rfl, rfl, h2⟩ := h
    simp only [strsD, Option.map_eq_some_iff] at e
    obtain ⟨ms, e1, rfl⟩ := e
    rw [reps_strs h2 e1, List.map_cons]
  | .non :: _, _, _, _, e => by simp [strsD] at e
  | .bl _ :: _, _, _, _, e => by simp [strsD] at e
  | .int _ :: _, _, _, _, e => by simp [strsD] at e
  | .tup _ :: _, _, _, _, e => by simp [strsD] at e
  | .lst _ :: _, _, _, _, e => by simp [strsD] at e
  | .frz _ :: _, _, _, _, e => by simp [strsD] at e
  | .err _ _ :: _, _, _, _, e => by simp [strsD] at e
theorem strs_count {w : Str} {A : Around} {s : Shared} {t : Tok} : ∀ {ns : List Str} {us : List Value}, Vals (ns.map V.str) us → us.countP (eqS w) = (ns.filter fun y => decide (y = w)).length ∧ ∀ y ∈ us, EqAt A s y (.str w t) (eqS w y)
  | [], _, .nil => ⟨rfl, fun y hy => by cases hy⟩
  | n :: ns, _, .cons r h => by
    obtain ⟨k, rfl⟩ := r
    obtain ⟨h1, h2⟩ := strs_count (w := w) (A := A) (s := s) (t := t) h
    refine ⟨?_, fun y hy => ?_⟩
    · rw [List.countP_cons, h1]
      show _ + (if (n == w) = true then 1 else 0) = (List.filter _ (n :: ns)).length
      rw [List.filter_cons]
      by_cases q : n = w
      · simp [q]
      · simp [q]
    · rcases List.mem_cons.mp hy with rfl | hy
      · exact EqAt.str_str n k w t
      · exact h2 y hy
/-- xs.count(w), texts -/
def rCntS (K : PySem.W.Frag) : V → List V → Hp → VK → Prop := fun x vs H Q => ∃ (p : Addr) (ns : List Str) (w : Str), x = .ref p ∧ vs = [.str w] ∧ SqL K H p (ns.map V.str) ∧ Q (.int (ns.filter fun y => decide (y = w)).length) H
theorem mt_cntS {X : Cx} : MtR X "list.count" (rCntS X.K) := by
  intro pins s σ H x xs v us Q I rx rxs h
  obtain ⟨p, ns, w, rfl, rfl, hs, q⟩ := h
  cases rx
  obtain ⟨u, rfl, ru⟩ := rxs.one
  obtain ⟨t, rfl⟩ := ru
  obtain ⟨its, rv, ⟨⟨cls, dd, data, sl⟩, n, ho, hc, hdn, hd⟩, hlen⟩ := I.list hs
  simp only at hc hd
  subst hc hd
  refine call_meets PySem.F.slot_list_count ⟨_, ho, rfl⟩ PySem.F.entry_list_count (PySem.F.args_list_count_2 _ _)
    (SeqAt.list_countAt p its.toArray n dd sl (.str w t) (eqS w)) ⟨ho, fun y hy => (strs_count rv).2 y (by simpa using hy), ?_⟩
  refine ⟨.int (ns.filter fun y => decide (y = w)).length, H, I.tok _, ⟨s.toks, ?_⟩, q⟩
  show Value.int ((its.toArray.toList.countP (eqS w) : Nat) : Int) s.toks = _
  rw [show its.toArray.toList = its from rfl, (strs_count (A := X.A) (s := s) (t := t) rv).1]
/-- what == tells of a value and data, by what stands there -/
noncomputable def eqR (h : Heap) (w : PyData) (v : Value) : Bool := by
  classical exact decide (∃ d as, Reads h v d as ∧ PyData.eqv d w = true)
theorem eqR_eq {h : Heap} {w d : PyData} {v : Value} {as : List Addr} (r : Reads h v d as) : eqR h w v = PyData.eqv d w := by
  unfold eqR
  rw [Bool.eq_iff_iff]
  simp only [decide_eq_true_eq]
  constructor
  · rintro ⟨d', as', r', q'⟩
    have := (Reads.unique r _ _ r').1
    rw [this]; exact q'
  · exact fun q => ⟨d, as, r, q⟩
/-- xs.count(t), t a tuple -/
def rCntD (K : PySem.W.Frag) : V → List V → Hp → VK → Prop := fun x vs H Q => ∃ (p : Addr) (ds : List D) (us : List V) (w : D) (v : V), x = .ref p ∧ vs = [v] ∧ SqL K H p us ∧ Reps K H ds us ∧ Rep K H w v ∧ ds.all (D.shp 60) = true ∧ w.shp 60 = true ∧ Q (.int (ds.filter fun y => D.eq y w).length) H
theorem cnt_all {X : Cx} {pins : List (Addr × Obj)} {s : Shared} {σ : L2.St} {H : Hp} (I : Inv X pins σ H s) (hu : X.A.in1.units + 64 < cLine) {w : D} {t : Value} {as : List Addr} (rw' : Reads s.heap t w.toPy as) (sw : w.shp 60 = true) : ∀ {ds : List D} {us : List V} {its : List Value}, Reps X.K H ds us → Vals us its → ds.all (D.shp 60) = true →
    its.countP (eqR s.heap w.toPy) = (ds.filter fun y => D.eq y w).length ∧ ∀ y ∈ its, EqAt X.A.in1 s y t (eqR s.heap w.toPy y)
  | [], _, _, h, r, _ => by simp only [Reps] at h; subst h; cases r; exact ⟨rfl, fun y hy => by cases hy⟩
  | d :: ds, _, _, h, r, hs => by
    simp only [Reps] at h
    obtain ⟨u, us, rfl, h1, h2⟩ := h
    cases r with
    | cons r1 r2 =>
      rename_i y ys
      rw [List.all_cons, Bool.and_eq_true] at hs
      obtain ⟨k1, k2⟩ := cnt_all I hu rw' sw h2 r2 hs.2
      obtain ⟨bs, rd⟩ := Dp.reads I _ u y (Rep.dp _ u 60 hs.1 h1) r1
      have e := eqR_eq (w := w.toPy) rd
      have e2 := eq_py d w 60 60 hs.1 sw
      refine ⟨?_, fun z hz => ?_⟩
      · rw [List.countP_cons, k1, e, e2, List.filter_cons]
        by_cases q : D.eq d w = true
        · simp [q]
        · simp [q]
      · rcases List.mem_cons.mp hz with rfl | hz
        · rw [e]
          exact eqAt_reads _ _ _ s z t bs as rd rw' (canLay_of_shaped (shaped_of hs.1)) (canLay_of_shaped (shaped_of sw)) (room_of_shaped (shaped_of hs.1) hu)
        · exact k2 z hz
theorem mt_cntD {X : Cx} (hu : X.A.in1.units + 64 < cLine) : MtR X "list.count" (rCntD X.K) := by
  intro pins s σ H x xs v us Q I rx rxs h
  obtain ⟨p, ds, us', w, v', rfl, rfl, hs, hr, hw, s1, s2, q⟩ := h
  cases rx
  obtain ⟨u, rfl, ru⟩ := rxs.one
  obtain ⟨as, rw'⟩ := Dp.reads I _ v' u (Rep.dp _ v' 60 s2 hw) ru
  obtain ⟨its, rv, ⟨⟨cls, dd, data, sl⟩, n, ho, hc, hdn, hd⟩, hlen⟩ := I.list hs
  simp only at hc hd
  subst hc hd
  obtain ⟨k1, k2⟩ := cnt_all I hu rw' s2 hr rv s1
  refine call_meets PySem.F.slot_list_count ⟨_, ho, rfl⟩ PySem.F.entry_list_count (PySem.F.args_list_count_2 _ _)
    (SeqAt.list_countAt p its.toArray n dd sl u (eqR s.heap w.toPy)) ⟨ho, fun y hy => k2 y (by simpa using hy), ?_⟩
  refine ⟨.int (ds.filter fun y => D.eq y w).length, H, I.tok _, ⟨s.toks, ?_⟩, q⟩
  show Value.int ((its.toArray.toList.countP (eqR s.heap w.toPy) : Nat) : Int) s.toks = _
  rw [show its.toArray.toList = its from rfl, k1]
def rCnt (K : PySem.W.Frag) : V → List V → Hp → VK → Prop := fun x vs H Q => rCntS K x vs H Q ∨ rCntD K x vs H Q
theorem mt_cnt {X : Cx} (hu : X.A.in1.units + 64 < cLine) : MtR X "list.count" (rCnt X.K) := fun pins s σ H x xs v us Q I rx rxs h => h.elim (mt_cntS pins s σ H x xs v us Q I rx rxs) (mt_cntD hu pins s σ H x xs v us Q I rx rxs)
theorem te_mth {X : Cx} {T : List Fn} {cl : Str → Option Addr} {EX : XS} {σ : L2.St} {H : Hp} {o es : G.E} {Q : VK} (h : tE X T cl EX (.mth .count o es) σ H Q) : tBM X.K "list" (rCnt X.K) (tE X T cl EX o) (tEs X T cl EX es) σ H Q := by
  obtain ⟨H0, ps, ows, δ, e, h⟩ := h
  simp only [ev] at h
  refine ⟨H0, ps, ows, δ, e, (wpO.bind h).imp fun x H1 ⟨r1, δ1, w1, _, e1, s1, rx, h1⟩ => ?_⟩
  split at h1
  · rename_i hl
    unfold isLR at hl
    split at hl
    · rename_i ys hy
      obtain ⟨p, us, rfl, k1, k2⟩ := (repV_of e1 rx hy).lst
      refine ⟨.inl ⟨rfl, us, SqL.of k1⟩, H0, ps, w1, δ1, e1, (wpO.bind h1).imp fun vs H2 ⟨rs, δ2, w2, _, e2, s2, ry, h2⟩ => ?_⟩
      obtain ⟨z, hz, h3⟩ := wpO.lift h2
      have f := fin_of e2 h3
      unfold mthR at hz
      split at hz
      · rename_i d ds q1 q2
        unfold mthv at hz
        split at hz <;> first | contradiction | skip
        rotate_left
        · split at hz <;> cases hz
          rename_i hsh
          rw [Bool.and_eq_true] at hsh
          obtain ⟨p', us', ep, m1, m2⟩ := (repV_of e2 (RvR.mono s2 rx) q1).lst
          cases ep
          obtain ⟨v, rfl, rv⟩ := (repVs_of e2 ry q2).one
          exact .inr ⟨p, _, us', _, v, rfl, rfl, SqL.of m1, Reps.mono (hid_same _ _) _ _ m2, rv.full, hsh.1, hsh.2, f.int⟩
        obtain ⟨ns, g1, rfl⟩ := Option.map_eq_some_iff.mp hz
        obtain ⟨p', us', ep, m1, m2⟩ := (repV_of e2 (RvR.mono s2 rx) q1).lst
        cases ep
        obtain ⟨v, rfl, rv⟩ := (repVs_of e2 ry q2).one
        refine .inl ⟨p, ns, _, rfl, by rw [rv.str], ?_, f.int⟩
        rw [← reps_strs m2 g1]
        exact SqL.of m1
      · cases hz
    · cases hl
  · exact h1.elim
end G
/-! G.Snd2: readings, further: slices, built-ins, calls, loops' sources. -/
namespace G
open PySem L2
section
variable {X : Cx} {T : List Fn} {cl : Str → Option Addr} {EX : XS} {H0 : Hp} {ps : Ps} {ows : List Addr} {σ : St} {H : Hp} {δ : Env}
def tO (X : Cx) (T : List Fn) (cl : Str → Option Addr) (EX : XS) (e : E) : TO := if nonE e = true then tNoPart else tPart (tE X T cl EX e)
theorem nonE_eq {e : E} (h : nonE e = true) : e = .lit .non := by
  unfold nonE at h
  split at h
  · rfl
  · cases h
theorem to_part {γ ε : Type} {e : E} {f : Option Int → Env → Out Env γ} {R : List Addr → Hp → γ → ε → Prop} {Q : ε → Hp → Prop} (er : EnvR (gr X H0 ps) ows σ H δ)
    (h : wpO ⟨gr X H0 ps, σ, cl, EX⟩ ows H ((ev T e δ).bind fun l δ => (lift (asBnd (nonE e) l) δ).bind f) R Q) :
    tO X T cl EX e σ H fun o H1 => ∃ δ1 w1, EnvR (gr X H0 ps) w1 σ H1 δ1 ∧ GrwS ows H w1 H1 ∧ wpO ⟨gr X H0 ps, σ, cl, EX⟩ w1 H1 (f o δ1) R Q := by
  unfold tO
  by_cases q : nonE e = true
  · rw [if_pos q]
    cases nonE_eq q
    exact ⟨δ, ows, er, .refl, h⟩
  · rw [if_neg q]
    refine ⟨H0, ps, ows, δ, er, (wpO.bind h).imp fun x H1 ⟨r1, δ1, w1, _, e1, s1, rx, h1⟩ => ?_⟩
    obtain ⟨o, ho, h2⟩ := wpO.lift h1
    have q' : nonE e = false := by simpa using q
    rw [q'] at ho
    unfold asBnd at ho
    split at ho
    · contradiction
    · cases ho
      simp only [RvR, Rep] at rx
      exact ⟨_, rx, δ1, w1, e1, s1, h2⟩
    · cases ho
theorem te_sl {a lo hi : E} {Q : VK} (h : tE X T cl EX (.sl a lo hi) σ H Q) : tSl (rSlD X.K) (tE X T cl EX a) (tO X T cl EX lo) (tO X T cl EX hi) σ H Q := by
  obtain ⟨H0, ps, ows, δ, e, h⟩ := h
  simp only [ev] at h
  refine ⟨H0, ps, ows, δ, e, (wpO.bind h).imp fun x H1 ⟨r1, δ1, w1, _, e1, s1, rx, h1⟩ => ?_⟩
  have imp : ∀ {e : E} {σ : St} {H : Hp} {P P' : Option Int → Hp → Prop}, tO X T cl EX e σ H P → (∀ o H', P o H' → P' o H') → tO X T cl EX e σ H P' := fun {e σ H P P'} t k => by
    unfold tO at t ⊢
    split at t
    · rename_i q; rw [if_pos q]; exact k _ _ t
    · rename_i q
      rw [if_neg q]
      obtain ⟨H0, ps, ows, δ, e, h⟩ := t
      exact ⟨H0, ps, ows, δ, e, h.imp fun x H' ⟨i, e1, e2⟩ => ⟨i, e1, k _ _ e2⟩⟩
  refine imp (to_part e1 h1) fun l H2 ⟨δ2, w2, e2, s2, h2⟩ => imp (to_part e2 h2) fun u H3 ⟨δ3, w3, e3, s3, h3⟩ => ?_
  obtain ⟨z, hz, h4⟩ := wpO.lift h3
  unfold slR at hz
  split at hz
  · rename_i q1
    exact ⟨w3, _, z, e3.dom, repV_of e3 (RvR.mono (s2.trans s3) rx) q1, hz, fin_of e3 h4⟩
  · cases hz
theorem te_blt {b : Blt} {es : E} {Q : VK} (h : tE X T cl EX (.blt b es) σ H Q) : tCB (rCD X.K (bltv b)) (tEs X T cl EX es) σ H Q := by
  obtain ⟨H0, ps, ows, δ, e, h⟩ := h
  simp only [ev] at h
  refine ⟨H0, ps, ows, δ, e, (wpO.bind h).imp fun vs H1 ⟨rs, δ1, w1, _, e1, s1, rx, h1⟩ => ?_⟩
  obtain ⟨z, hz, h2⟩ := wpO.lift h1
  unfold bltR at hz
  split at hz
  · rename_i q1
    exact ⟨w1, _, z, e1.dom, repVs_of e1 rx q1, hz, fin_of e1 h2⟩
  · cases hz
/-- isinstance(x, T): the class is a name -/
theorem te_is {b : Blt} {t : String} {a : E} {Q : VK} (h : tE X T cl EX (.blt b (.cons a .nil)) σ H Q) : tCB (rIsD X.K b t) (tCons (tE X T cl EX a) (tCons (tC (.ty t)) tNil)) σ H Q := by
  obtain ⟨H0, ps, ows, δ, e, h⟩ := h
  simp only [ev, evs] at h
  refine ⟨H0, ps, ows, δ, e, ?_⟩
  cases h1 : ev T a δ with
  | ok r δ1 =>
    rw [h1] at h
    simp only [Out.bind] at h
    intro v w1 H1 e1 s1 rx
    obtain ⟨z, hz, h2⟩ := wpO.lift h
    unfold bltR at hz
    split at hz
    · rename_i ds q1
      have h2 := wpO.from s1 h2
      have rr : RvRs (gr X H0 ps) σ w1 H1 [r] [v] := ⟨v, [], rfl, rx, rfl⟩
      have rv := repVs_of e1 rr q1
      cases ds with
      | nil => cases rv
      | cons d ds =>
        obtain ⟨v', r', g1, g2, g3⟩ := rv
        cases g1
        cases ds with
        | nil => exact ⟨w1, d, v, z, e1.dom, rfl, g2, hz, fin_of e1 h2⟩
        | cons d2 ds => obtain ⟨_, _, g4, _⟩ := g3; cases g4
    · cases hz
  | ex c s => rw [h1] at h; exact h
  | no => rw [h1] at h; exact h
/-! ### calls -/
/-- a new object at p, apart from the slots' objects -/
structure NewO (g : Gr) (ows : List Addr) (σ : St) (H : Hp) (δ : Env) (p : Addr) (o : Ob) : Prop where
  own : ∀ c ∈ foot H p, c ∈ ows ∧ g.H0 c = none
  apart : ∀ (i : Nat) (b : Bool) (u : Ob) (a : Addr), δ[i]? = some (Sl.ow b u) → σ[i]? = some (some (.ref a)) → ∀ c ∈ foot H p, c ∉ foot H a
  ok : OwnOk g.P g.w g.K (hid ows H) H p o
/-- what is wanted behind a call -/
def wpC (W : Wi) (ows : List Addr) (H : Hp) (o : Out Env Rt) (Q : VK) : Prop := match o with
  | .ok (.d x) δ => ∀ v ows' H', EnvR W.g ows' W.σ H' δ → GrwS ows H ows' H' → Rep W.g.K (hid ows' H') x v → Q v H'
  | .ok (.fr o) δ => ∀ p ows' H', EnvR W.g ows' W.σ H' δ → GrwS ows H ows' H' → p ∉ ows → NewO W.g ows' W.σ H' δ p o → Q (.ref p) H'
  | .ex c δ => ∀ ows' H' cv d, EnvR W.g ows' W.σ H' δ → GrwS ows H ows' H' → ExR W.cl c H' cv d → W.EX W.σ cv d H'
  | .no => False
theorem wpC.from {W : Wi} {ows ows1 : List Addr} {H H1 : Hp} {o : Out Env Rt} {Q : VK} (d : ∀ p, p ∉ ows1 → p ∉ ows) (e : GrwS ows H ows1 H1) (h : wpC W ows H o Q) : wpC W ows1 H1 o Q := by
  cases o with
  | ok r δ =>
    cases r with
    | d x => exact fun v ows' H' er sm rr => h v ows' H' er (e.trans sm) rr
    | fr o => exact fun p ows' H' er sm n k => h p ows' H' er (e.trans sm) (d p n) k
  | ex c δ => exact fun ows' H' cv d er sm x => h ows' H' cv d er (e.trans sm) x
  | no => exact h
theorem wpC.grw {W : Wi} {ows ows1 : List Addr} {H H1 : Hp} {o : Out Env Rt} {Q : VK} (e : GrwS ows H ows1 H1) (h : wpC W ows H o Q) : wpC W ows1 H1 o Q := h.from (fun p n z => n (e.sub p z)) e
theorem wpC.bind {α β : Type} {W : Wi} {ows : List Addr} {H : Hp} {o : Out Env α} {f : α → Env → Out Env Rt} {R : List Addr → Hp → α → β → Prop} {Q : VK} (h : wpC W ows H (o.bind f) Q) :
    wpO W ows H o R fun b H1 => ∃ r δ1 w1, o = .ok r δ1 ∧ EnvR W.g w1 W.σ H1 δ1 ∧ GrwS ows H w1 H1 ∧ R w1 H1 r b ∧ wpC W w1 H1 (f r δ1) Q := by
  cases o with
  | ok r δ => exact fun b w1 H' er sm rr => ⟨r, δ, w1, rfl, er, sm, rr, wpC.grw (o := f r δ) sm h⟩
  | ex c δ => exact h
  | no => exact h
theorem back_own : ∀ (rs : List RV) (os : List Sl) (δ : Env) (i : Nat) (b : Bool) (o : Ob), (back δ rs os)[i]? = some (Sl.ow b o) → ∃ b' o', δ[i]? = some (Sl.ow b' o')
  | [], os, δ, i, b, o, h => ⟨b, o, by cases os <;> exact h⟩
  | .d _ :: rs, [], δ, i, b, o, h => ⟨b, o, h⟩
  | .d _ :: rs, s :: os, δ, i, b, o, h => back_own rs os δ i b o (by cases s <;> exact h)
  | .own j :: rs, [], δ, i, b, o, h => ⟨b, o, h⟩
  | .own j :: rs, .no :: os, δ, i, b, o, h => back_own rs os δ i b o h
  | .own j :: rs, .ro _ :: os, δ, i, b, o, h => back_own rs os δ i b o h
  | .own j :: rs, .ow q u :: os, δ, i, b, o, h => by
    unfold back at h
    split at h
    · rename_i p o0 hj
      obtain ⟨b', o', h'⟩ := back_own rs os _ i b o h
      by_cases z : j = i
      · subst z
        exact ⟨p, o0, hj⟩
      · rw [List.getElem?_set_ne z] at h'
        exact ⟨b', o', h'⟩
    · exact back_own rs os δ i b o h
/-- the reading of a call: whatever it hands back -/
def tC0 (X : Cx) (T : List Fn) (cl : Str → Option Addr) (EX : XS) (k : Nat) (es : E) : TE := fun σ H Q => ∃ H0 ps ows δ, EnvR (gr X H0 ps) ows σ H δ ∧
  wpC ⟨gr X H0 ps, σ, cl, EX⟩ ows H ((evs T es δ).bind fun rs δ => callR T k rs δ) Q
/-- an object that no slot and no parameter holds is a thing to be seen -/
theorem EnvR.unhide {g : Gr} {p : Addr} (e : EnvR g ows σ H δ) (hs : ∀ (i : Nat) (b : Bool) (o : Ob) (a : Addr), δ[i]? = some (.ow b o) → σ[i]? = some (some (.ref a)) → p ∉ foot H a) (hp : p ∉ g.ps) : EnvR g (ows.filter fun a => decide (a ≠ p)) σ H δ := by
  have sub : ∀ a ∈ ows.filter (fun a => decide (a ≠ p)), a ∈ ows := fun a h => (List.mem_filter.mp h).1
  have inn : ∀ a ∈ ows, a ≠ p → a ∈ ows.filter (fun a => decide (a ≠ p)) := fun a h n => List.mem_filter.mpr ⟨h, decide_eq_true n⟩
  refine ⟨e.len, e.base, fun a ha => inn a (e.psub a ha) fun z => hp (by rw [← z]; exact ha), fun a ha => e.dom a (sub a ha), fun i s q => ?_, e.inj, e.par, fun P hP t ht => (e.tab P hP t ht).mono rfl (hid_sub sub), e.need⟩
  have := e.slot i s q
  cases s with
  | no => trivial
  | ro d =>
    obtain ⟨x, h1, h2⟩ := this
    exact ⟨x, h1, h2.mono (hid_sub sub)⟩
  | ow b o =>
    obtain ⟨a, h1, h2, h3⟩ := this
    exact ⟨a, h1, fun c hc => ⟨inn c (h2 c hc).1 fun z => hs i b o a q h1 (by rw [← z]; exact hc), (h2 c hc).2⟩, h3.mono (hid_sub sub)⟩
/-- a new list is handed on as a thing to be seen -/
theorem NewO.lst {g : Gr} {p : Addr} {xs : List D} {ows' : List Addr} {H' : Hp} (n : NewO g ows' σ H' δ p (.lst xs)) (e : EnvR g ows' σ H' δ) (sm : GrwS ows H ows' H') (np : p ∉ ows) (hp : p ∉ g.ps) :
    ∃ w, EnvR g w σ H' δ ∧ GrwS ows H w H' ∧ Rep g.K (hid w H') (.lst xs) (.ref p) := by
  have sub : ∀ a ∈ ows'.filter (fun a => decide (a ≠ p)), a ∈ ows' := fun a h => (List.mem_filter.mp h).1
  refine ⟨_, e.unhide (fun i b o a h1 h2 => n.apart i b o a h1 h2 p foot_self) hp, ⟨fun a ha => List.mem_filter.mpr ⟨sm.sub a ha, decide_eq_true fun z => np (by rw [← z]; exact ha)⟩, sm.same.trans (hid_sub sub)⟩, ?_⟩
  obtain ⟨vs, g1, g2⟩ := n.ok
  simp only [Rep]
  exact ⟨p, vs, rfl, hid_of g1 (fun z => by have := (List.mem_filter.mp z).2; simp at this), Reps.mono (hid_sub sub) _ _ g2⟩
/-- what the caller sees of a call -/
theorem callR_ok {W : Wi} {k : Nat} {f : Fn} {n : Nat} {Q : VK} {rs : List RV} {vs : List V} (hf : T[k]? = some f) (hl : vs.length = n) (e : EnvR W.g ows W.σ H δ) (rx : RvRs W.g W.σ ows H rs vs) (h : wpC W ows H (callR T k rs δ) Q) :
    spD W.g.P W.g.w W.g.K W.cl n f vs H Q (W.EX W.σ) := by
  unfold callR at h
  rw [hf] at h
  split at h
  · rename_i f' as hf' ha
    cases hf'
    split at h
    · rename_i nd
      refine ⟨ows, as, hl, e.dom, args_ok e ha rx nd, ?_⟩
      split at h
      · rename_i r os hr
        split at h
        · rename_i ok
          rw [hr]
          cases r with
          | d x =>
            intro v w' H' U A rv
            obtain ⟨b1, b2⟩ := back_ok e ha rx nd ok A U
            exact h v w' H' b1 b2 rv
          | fr o =>
            intro p w' H' U A np oo
            obtain ⟨b1, b2⟩ := back_ok e ha rx nd ok A U
            refine h p w' H' b1 b2 (fun z => e.dom p z (np p foot_self).2.1) ⟨fun c hc => ⟨(np c hc).1, (e.fresh (np c hc).2.1).1⟩, fun i b u a hi hs c hc hc' => ?_, oo⟩
            -- a slot's object holds nothing of it
            have hn := (np c hc).2.1
            have hp := (np c hc).2.2
            obtain ⟨b', o', h'⟩ := back_own rs os δ i b u hi
            by_cases z : i ∈ ownsOf rs
            · obtain ⟨m, hm⟩ := of_mem_owns rs z
              obtain ⟨o2, k1, _⟩ := own_args ha hm
              obtain ⟨q2, u2, k2⟩ := okOuts_get m true o2 ok k1
              obtain ⟨a2, k3, k4, k5⟩ := A.outs m q2 u2 k2
              have k6 := arg_slot rx hm k3
              rw [hs] at k6
              have ea : a = a2 := by simpa using k6
              subst ea
              exact hp (mem_ps k2 k3 hc')
            · have st : ∀ c ∈ foot H a, H' c = H c := fun c hc => by
                cases q : H c with
                | none => exact absurd q (e.dom c ((e.own h' hs).1 c hc).1)
                | some u =>
                  refine A.keep c u (fun hm => ?_) q
                  obtain ⟨m, p', o3, a3, e1, e2, e3⟩ := ps_mem hm
                  obtain ⟨k', hk, q', hq⟩ := args_own ha e1
                  exact e.inj i k' b' o' q' o3 a a3 (fun z' => z (by rw [z']; exact mem_owns rs m hk)) h' hq hs (arg_slot rx hk e2) c hc e3
              rw [foot_eq (st a foot_self)] at hc'
              exact e.dom c ((e.own h' hs).1 c hc').1 hn
        · exact h.elim
      · rename_i c os hr
        split at h
        · rename_i ok
          rw [hr]
          intro w' H' cv d U A xr
          obtain ⟨b1, b2⟩ := back_ok e ha rx nd ok A U
          exact h w' H' cv d b1 b2 xr
        · exact h.elim
      · exact h.elim
    · exact h.elim
  · exact h.elim
theorem te_call0 {k : Nat} {es : E} {x : Str} {f : Fn} {n : Nat} {Q : VK} (hf : T[k]? = some f) (hn : lenE es = n) (h : tC0 X T cl EX k es σ H Q) : tCallS (spD X.prog X.w X.K cl n f) EX (tEs X T cl EX es) σ H Q := by
  obtain ⟨H0, ps, ows, δ, e, h⟩ := h
  refine ⟨H0, ps, ows, δ, e, (wpC.bind h).imp fun vs H1 ⟨rs, δ1, w1, q1, e1, s1, rx, h1⟩ => ?_⟩
  exact callR_ok (W := ⟨gr X H0 ps, σ, cl, EX⟩) hf (by rw [rvrs_len rx, evs_len q1]; exact hn) e1 rx h1
/-- data of what is handed back -/
theorem wpC.dat {W : Wi} {γ ε : Type} {o : Out Env Rt} {f : D → Env → Out Env γ} {R : List Addr → Hp → γ → ε → Prop} {Q2 : ε → Hp → Prop} {Q : VK} (psub : ∀ a ∈ W.g.ps, a ∈ ows) (h : wpO W ows H (o.bind fun r δ => (lift r.dat δ).bind f) R Q2)
    (k : ∀ z δ' w' H' v, EnvR W.g w' W.σ H' δ' → GrwS ows H w' H' → Rep W.g.K (hid w' H') z v → wpO W w' H' (f z δ') R Q2 → Q v H') : wpC W ows H o Q := by
  cases o with
  | ok r δ2 =>
    cases r with
    | d x => exact fun v w' H' er sm rv => k x δ2 w' H' v er sm rv (wpO.from (o := f x δ2) sm h)
    | fr o =>
      cases o with
      | lst xs =>
        intro p w' H' er sm n oo
        obtain ⟨w, g1, g2, g3⟩ := oo.lst er sm n fun z => n (psub p z)
        exact k (.lst xs) δ2 w H' _ g1 g2 g3 (wpO.from (o := f (.lst xs) δ2) g2 h)
      | dct kvs => exact h.elim
      | ply _ _ _ _ => exact h.elim
  | ex c s => exact h
  | no => exact h
theorem te_call {k : Nat} {es : E} {Q : VK} (h : tE X T cl EX (.call k es) σ H Q) : tC0 X T cl EX k es σ H Q := by
  obtain ⟨H0, ps, ows, δ, e, h⟩ := h
  refine ⟨H0, ps, ows, δ, e, ?_⟩
  simp only [ev] at h
  cases h1 : evs T es δ with
  | ok rs δ1 =>
    rw [h1] at h
    exact wpC.dat (W := ⟨gr X H0 ps, σ, cl, EX⟩) (o := callR T k rs δ1) e.psub h fun z δ' w' H' v er sm rv h' => ok_now er h' rv
  | ex c s => rw [h1] at h; exact h
  | no => rw [h1] at h; exact h
end
end G
/-! G.Txs: methods of texts, list.index, None in a list, reading written dicts: readings and rules. -/
namespace G
open PySem PySem.Spec PyProof.Rows L2
def rM1 (K : PySem.W.Frag) (o : M1) : V → List V → Hp → VK → Prop := fun x vs H Q => ∃ y ows a b z, vs = [y] ∧ G.Dom ows H ∧ RepV K ows H a x ∧ RepV K ows H b y ∧ m1v o a b = some z ∧ Fin K ows H z Q
theorem strs_reps {K : PySem.W.Frag} {H : Hp} : ∀ ys : List Str, Reps K H (ys.map .str) (ys.map V.str)
  | [] => Reps.nil
  | y :: ys => Reps.cons (by simp only [Rep]) (strs_reps ys)
section
variable {X : Cx}
theorem mt_spl : MtR X "str.split" (rM1 X.K .spl) := by
  intro pins s σ H x xs v us Q I rx rxs h
  obtain ⟨y, ows, a, b, z, rfl, hd, ha, hb, e, f⟩ := h
  unfold m1v at e
  split at e <;> first | contradiction | skip
  split at e <;> cases e
  rename_i s1 s2 m
  rw [ha.str] at rx
  rw [hb.str] at rxs
  refine mt_split pins s σ H _ _ v us Q I rx rxs ⟨_, _, rfl, rfl, m.1, ?_, fun p n => f.lst hd (strs_reps _) p n⟩
  have := m.2
  rw [sizeLine_eq]
  unfold big at this
  omega
theorem mt_joi : MtR X "str.join" (rM1 X.K .joi) := by
  intro pins s σ H x xs v us Q I rx rxs h
  obtain ⟨y, ows, a, b, z, rfl, hd, ha, hb, e, f⟩ := h
  unfold m1v at e
  split at e <;> first | contradiction | skip
  obtain ⟨ys, e1, e2⟩ := Option.bind_eq_some_iff.mp e
  split at e2 <;> cases e2
  rename_i m
  rw [ha.str] at rx
  obtain ⟨p, us', rfl, h1, h2⟩ := hb.lst
  rw [reps_strs h2 e1] at h1
  exact mt_join pins s σ H _ _ v us Q I rx rxs ⟨_, p, ys, rfl, rfl, .inl (SqL.of h1), by omega, f.str⟩
theorem strIx_at {w : Str} : ∀ (ys : List Str) (i j : Nat), strIx w ys i = some j → i ≤ j ∧ ys[j - i]? = some w ∧ ∀ m z, i + m < j → ys[m]? = some z → z ≠ w
  | [], i, j, h => by simp [strIx] at h
  | y :: ys, i, j, h => by
    unfold strIx at h
    split at h
    · rename_i e
      cases h
      exact ⟨Nat.le_refl _, by simp [e], fun m z hm => absurd hm (by omega)⟩
    · rename_i e
      obtain ⟨h1, h2, h3⟩ := strIx_at ys (i + 1) j h
      refine ⟨by omega, ?_, fun m z hm hz => ?_⟩
      · rw [show j - i = (j - (i + 1)) + 1 by omega, List.getElem?_cons_succ]; exact h2
      · cases m with
        | zero => simp at hz; rw [← hz]; exact e
        | succ m => exact h3 m z (by omega) (by simpa using hz)
theorem mt_lix : MtR X "list.index" (rM1 X.K .lix) := by
  intro pins s σ H x xs v us Q I rx rxs h
  obtain ⟨y, ows, a, b, z, rfl, hd, ha, hb, e, f⟩ := h
  unfold m1v at e
  split at e <;> first | contradiction | skip
  obtain ⟨ys, e1, e2⟩ := Option.bind_eq_some_iff.mp e
  obtain ⟨j, e3, rfl⟩ := Option.map_eq_some_iff.mp e2
  obtain ⟨p, us', rfl, h1, h2⟩ := ha.lst
  rw [reps_strs h2 e1] at h1
  have hw : ∃ w, strIx w ys 0 = some j ∧ y = V.str w := ⟨_, e3, hb.str⟩
  obtain ⟨w, e3, hy⟩ := hw
  rw [hy] at rxs
  obtain ⟨_, k2, k3⟩ := strIx_at ys 0 j e3
  rw [Nat.sub_zero] at k2
  refine mt_index pins s σ H _ _ v us Q I rx rxs ⟨p, ys.map V.str, .str w, j, .str w, rfl, rfl, SqL.of h1, rfl, by simp [List.all_map, flatV], by rw [List.getElem?_map, k2]; rfl, by simp [eqV], fun m z' hm hz => ?_, f.int⟩
  rw [List.getElem?_map] at hz
  cases hq : ys[m]? with
  | none => rw [hq] at hz; cases hz
  | some u =>
    rw [hq] at hz
    cases hz
    have := k3 m u (by omega) hq
    show (u == w) = false
    simpa using this
end
/-! ### None in a list -/
theorem eq_non (d : D) : D.eq d .non = d.isNon := by cases d <;> simp [D.eq, D.isNon]
theorem any_all {X : Cx} {pins : List (Addr × Obj)} {s : Shared} {σ : L2.St} {H : Hp} (I : Inv X pins σ H s) : ∀ {ds : List D} {us : List V} {its : List Value}, Reps X.K H ds us → Vals us its → ds.all (D.shp 60) = true → its.any (eqR s.heap .none) = ds.any D.isNon
  | [], _, _, h, r, _ => by simp only [Reps] at h; subst h; cases r; rfl
  | d :: ds, _, _, h, r, hs => by
    simp only [Reps] at h
    obtain ⟨u, us, rfl, h1, h2⟩ := h
    cases r with
    | cons r1 r2 =>
      rename_i y ys
      rw [List.all_cons, Bool.and_eq_true] at hs
      obtain ⟨bs, rd⟩ := Dp.reads I _ u y (Rep.dp _ u 60 hs.1 h1) r1
      have e := eqR_eq (w := .none) rd
      have e2 := eq_py d .non 60 60 hs.1 (by rfl)
      rw [List.any_cons, List.any_cons, any_all I h2 r2 hs.2, e, show PyData.none = D.toPy .non from rfl, e2, eq_non]
def rNin (K : PySem.W.Frag) : R2 := fun x y H Q => ∃ ows ds, x = .non ∧ G.Dom ows H ∧ RepV K ows H (.lst ds) y ∧ ds.all (D.shp 60) = true ∧ Q (.bl (ds.any D.isNon)) H
theorem op_nin {X : Cx} (hu : X.A.in1.units + 64 < cLine) : OpR X (compareOp .In) (rNin X.K) := by
  intro pins s σ H x y v u Q I rx ry h
  obtain ⟨ows, ds, rfl, hd, hb, hs, q⟩ := h
  obtain ⟨p, us, rfl, h1, h2⟩ := hb.lst
  cases ry
  have ev : v = Value.none := rx
  subst ev
  obtain ⟨its, r, pl, hz⟩ := I.list (SqL.of h1)
  have h3 := Reps.mono (hid_same _ _) _ _ h2
  obtain ⟨k1, k2⟩ := cnt_all I hu (w := .non) (t := .none) (as := []) Reads.none (by rfl) h3 r hs
  refine SeqAt.in_listAt (eqR s.heap .none) pl.isList (fun w hw => k2 w (by simpa using hw)) ⟨.bl _, H, I, rfl, ?_⟩
  rw [show its.toArray.any (eqR s.heap .none) = its.any (eqR s.heap .none) by simp, any_all I h3 r hs]
  exact q
section
variable {X : Cx} {T : List Fn} {cl : Str → Option Addr} {EX : XS} {σ : L2.St} {H : Hp}
theorem te_m1s {o : M1} {a b : G.E} {Q : VK} (ho : o ≠ .lix) (h : tE X T cl EX (.m1 o a b) σ H Q) : tM1 (rM1 X.K o) (tE X T cl EX a) (tE X T cl EX b) σ H Q := by
  obtain ⟨H0, ps, ows, δ, e, h⟩ := h
  simp only [ev] at h
  refine ⟨H0, ps, ows, δ, e, (wpO.bind h).imp fun x H1 ⟨r1, δ1, w1, _, e1, s1, rx, h1⟩ => ?_⟩
  split at h1
  · rename_i hok
    refine ⟨?_, H0, ps, w1, δ1, e1, (wpO.bind h1).imp fun y H2 ⟨r2, δ2, w2, _, e2, s2, ry, h2⟩ => ?_⟩
    · unfold m1ok at hok
      split at hok
      · exact absurd rfl ho
      · have rx := (repV_of e1 rx (by rfl)).str
        exact ⟨_, rx⟩
      · cases hok
    · obtain ⟨z, hz, h3⟩ := wpO.lift h2
      unfold m1R at hz
      split at hz
      · rename_i q1 q2
        exact ⟨y, w2, _, _, z, rfl, e2.dom, repV_of e2 (RvR.mono s2 rx) q1, repV_of e2 ry q2, hz, fin_of e2 h3⟩
      · cases hz
  · exact h1.elim
theorem te_m1l {a b : G.E} {Q : VK} (h : tE X T cl EX (.m1 .lix a b) σ H Q) : tBM X.K "list" (rM1 X.K .lix) (tE X T cl EX a) (tCons (tE X T cl EX b) tNil) σ H Q := by
  obtain ⟨H0, ps, ows, δ, e, h⟩ := h
  simp only [ev] at h
  refine ⟨H0, ps, ows, δ, e, (wpO.bind h).imp fun x H1 ⟨r1, δ1, w1, _, e1, s1, rx, h1⟩ => ?_⟩
  split at h1
  · rename_i hok
    have hl : isLR δ1 r1 = true := hok
    unfold isLR at hl
    split at hl
    · rename_i ys hy
      obtain ⟨p, us, rfl, k1, k2⟩ := (repV_of e1 rx hy).lst
      refine ⟨.inl ⟨rfl, us, SqL.of k1⟩, H0, ps, w1, δ1, e1, (wpO.bind h1).imp fun y H2 ⟨r2, δ2, w2, _, e2, s2, ry, h2⟩ => ?_⟩
      obtain ⟨z, hz, h3⟩ := wpO.lift h2
      unfold m1R at hz
      split at hz
      · rename_i q1 q2
        exact ⟨y, w2, _, _, z, rfl, e2.dom, repV_of e2 (RvR.mono s2 rx) q1, repV_of e2 ry q2, hz, fin_of e2 h3⟩
      · cases hz
    · cases hl
  · exact h1.elim
theorem reps_rev {K : PySem.W.Frag} : ∀ {ds : List D} {vs : List V}, Reps K H ds vs → Reps K H ds.reverse vs.reverse
  | [], _, h => by simp only [Reps] at h; subst h; exact Reps.nil
  | d :: ds, _, h => by
    simp only [Reps] at h
    obtain ⟨v, r, rfl, h1, h2⟩ := h
    rw [List.reverse_cons, List.reverse_cons]
    exact Reps.append (reps_rev h2) (Reps.cons h1 Reps.nil)
theorem te_rev {a : G.E} {Q : VK} (h : tE X T cl EX (.rev a) σ H Q) : tRevL X.K (tE X T cl EX a) σ H Q := by
  obtain ⟨H0, ps, ows, δ, e, h⟩ := h
  simp only [ev] at h
  refine ⟨H0, ps, ows, δ, e, (wpO.bind h).imp fun x H1 ⟨r1, δ1, w1, _, e1, s1, rx, h1⟩ => ?_⟩
  obtain ⟨z, hz, h2⟩ := wpO.lift h1
  unfold revR at hz
  split at hz <;> cases hz
  rename_i xs q1
  obtain ⟨p, us, rfl, k1, k2⟩ := (repV_of e1 rx q1).lst
  exact ⟨p, us, rfl, SqL.of k1, fun q n => (fin_of e1 h2).lst e1.dom (reps_rev k2) q n⟩
theorem te_nin {a : G.E} {Q : VK} (h : tE X T cl EX (.nin a) σ H Q) : tOp (rNin X.K) (tC .non) (tE X T cl EX a) σ H Q := by
  obtain ⟨H0, ps, ows, δ, e, h⟩ := h
  simp only [ev] at h
  refine ⟨H0, ps, ows, δ, e, (wpO.bind h).imp fun x H1 ⟨r1, δ1, w1, _, e1, s1, rx, h1⟩ => ?_⟩
  obtain ⟨z, hz, h2⟩ := wpO.lift h1
  unfold ninR at hz
  split at hz <;> first | contradiction | skip
  split at hz <;> cases hz
  rename_i xs q1 m
  exact ⟨w1, xs, rfl, e1.dom, repV_of e1 rx q1, m, (fin_of e1 h2).bl⟩
/-! ### dicts that are written -/
/-- the module's dict {int: text, ..} -/
def DicR (K : PySem.W.Frag) (kvs : List (Int × Str)) (v : V) : Prop := ∃ (a : Addr) (es : Array DictEntry) (n : Nat), v = .ref a ∧ K.lookup a = some ⟨.type "dict", none, .dict es n, #[]⟩ ∧
  (∀ e ∈ es, ∃ k t, e.key = .int k t ∧ e.hash = hashInt k) ∧ ∀ i z, kvs.lookup i = some z → ∃ t, findBy (fun k v => Value.isInt k v) es i = some (.str z t)
def rGix (K : PySem.W.Frag) (kvs : List (Int × Str)) : R2 := fun x y H Q => ∃ i z, DicR K kvs x ∧ y = .int i ∧ kvs.lookup i = some z ∧ Q (.str z) H
theorem ix_dic {kvs : List (Int × Str)} : IxR X (rGix X.K kvs) := by
  intro value slice pins s σ H x y v u Q I rx ry h hs
  obtain ⟨i, z, ⟨a, es, n, rfl, hl, hk, hf⟩, rfl, e, q⟩ := h
  obtain rfl : v = Value.ref a := rx
  obtain ⟨t, rfl⟩ := ry
  obtain ⟨t2, e2⟩ := hf i z e
  have hm : s.heap.MapOf (intKind X.prog X.w) a (fun k => findBy (fun k v => Value.isInt k v) es k) := ⟨_, es, n, I.kIn _ _ hl, ⟨rfl, rfl, rfl⟩, rfl, fun e he => by
    obtain ⟨k, t, e1, e2⟩ := hk e he
    exact ⟨k, by rw [e1]; exact intKind_is X.prog X.w k t, e2⟩, fun _ => rfl⟩
  exact tail_any hm.typeIs slot_dict_getitem.lookup (wpAny_getItem_of (intKind_is X.prog X.w i t) hm e2 ⟨.str z, H, I.tok _, ⟨t2, rfl⟩, q⟩) hs
theorem te_gidx {nm : Str} {kvs : List (Int × Str)} {a : G.E} {v : V} {Q : VK} (hv : DicR X.K kvs v) (h : tE X T cl EX (.gidx nm kvs a) σ H Q) : tOp (rGix X.K kvs) (tC v) (tE X T cl EX a) σ H Q := by
  obtain ⟨H0, ps, ows, δ, e, h⟩ := h
  simp only [ev] at h
  refine ⟨H0, ps, ows, δ, e, (wpO.bind h).imp fun x H1 ⟨r1, δ1, w1, _, e1, s1, rx, h1⟩ => ?_⟩
  obtain ⟨z, hz, h2⟩ := wpO.lift h1
  unfold gidxR at hz
  split at hz <;> first | contradiction | skip
  obtain ⟨w, e3, rfl⟩ := Option.map_eq_some_iff.mp hz
  have rx := (repV_of e1 rx (by rfl)).int
  exact ⟨_, w, hv, rx, e3, (fin_of e1 h2).str⟩
/-- the pairs of a written dict -/
def trs (kvs : List (Str × Int)) : List (TE × TE) := kvs.map fun p => (tC (.str p.1), tC (.int p.2))
def kvV (kvs : List (Str × Int)) : List (Key × V) := kvs.map fun p => (.inr p.1, .int p.2)
theorem pairs_now : ∀ (kvs : List (Str × Int)) {σ : L2.St} {H : Hp} {Q : List (V × V) → Hp → Prop}, Q ((kvV kvs).map fun kv => (kV kv.1, kv.2)) H → tPairs (trs kvs) σ H Q
  | [], _, _, _, h => h
  | p :: kvs, σ, H, Q, h => pairs_now kvs (Q := fun ps H3 => Q ((V.str p.1, V.int p.2) :: ps) H3) h
theorem merge_new : ∀ (more kvs : List (Key × V)), (∀ p ∈ more, (kvs.any fun kv => decide (kv.1 = p.1)) = false) → (more.map (·.1)).Nodup → mergeK kvs more = kvs ++ more
  | [], kvs, _, _ => by simp [mergeK]
  | p :: more, kvs, h, nd => by
    simp only [List.map_cons, List.nodup_cons] at nd
    have hp := h p List.mem_cons_self
    have e : putK kvs p.1 p.2 = kvs ++ [p] := by unfold putK; rw [hp]; simp
    show mergeK (putK kvs p.1 p.2) more = _
    rw [e, merge_new more (kvs ++ [p]) (fun q hq => ?_) nd.2, List.append_assoc]
    · rfl
    · rw [List.any_append, h q (List.mem_cons_of_mem _ hq)]
      simp only [List.any_cons, List.any_nil, Bool.or_false, Bool.false_or, decide_eq_false_iff_not]
      intro z
      exact nd.1 (z ▸ List.mem_map_of_mem hq)
theorem val_kv (z : Str) : ∀ kvs : List (Str × Int), (valV (kvV kvs) (.inr z)).getD .non = match kvs.lookup z with | some i => V.int i | none => .non
  | [] => rfl
  | (x, i) :: kvs => by
    unfold valV kvV
    rw [List.map_cons, List.find?_cons, List.lookup_cons]
    by_cases e : z = x
    · subst e; simp
    · have e1 : decide ((Sum.inr x : Key) = .inr z) = false := decide_eq_false fun q => e (Sum.inr.inj q).symm
      have e2 : (z == x) = false := beq_eq_false_iff_ne.2 e
      simp only [e1, e2]
      exact val_kv z kvs
theorem te_cget {kvs : List (Str × Int)} {a : G.E} {Q : VK} (nd : (kvs.map (·.1)).Nodup) (h15 : kvs.length ≤ 15) (h : tE X T cl EX (.cget kvs a) σ H Q) : tDGet1 (tDisp (trs kvs)) (tE X T cl EX a) σ H Q := by
  obtain ⟨H0, ps, ows, δ, e, h⟩ := h
  simp only [ev] at h
  intro p hp
  refine pairs_now kvs ⟨upd_same, kvV kvs, rfl, by simpa [kvV] using h15, ?_⟩
  have hm : mergeK [] (kvV kvs) = kvV kvs := by
    have := merge_new (kvV kvs) [] (fun _ _ => rfl) (by
      unfold kvV
      rw [List.map_map]
      have : ((fun x => x.1) ∘ fun p : Str × Int => ((Sum.inr p.1 : Key), V.int p.2)) = (fun x => (Sum.inr x : Key)) ∘ (·.1) := rfl
      rw [this, ← List.map_map]
      exact List.Pairwise.map _ (fun a b hab z => hab (Sum.inr.inj z)) nd)
    simpa using this
  rw [hm]
  have eu : upd (upd H p (.dK [])) p (.dK (kvV kvs)) = upd H p (.dK (kvV kvs)) := by
    funext b
    by_cases hb : b = p
    · rw [hb, upd_same, upd_same]
    · rw [upd_ne hb, upd_ne hb, upd_ne hb]
  rw [eu]
  have e0 : EnvR (gr X H0 ps) ows σ (upd H p (.dK (kvV kvs))) δ := e.new hp
  have np := (e.fresh hp).2
  refine ⟨p, rfl, .inl ⟨_, .inl upd_same⟩, H0, ps, ows, δ, e0, (wpO.bind (wpO.from (.of (hid_new hp)) h)).imp fun x H1 ⟨r1, δ1, w1, _, e1, s1, rx, h1⟩ => ?_⟩
  obtain ⟨z, hz, h2⟩ := wpO.lift h1
  unfold cgetR at hz
  split at hz <;> first | contradiction | skip
  have rx := (repV_of e1 rx (by rfl)).str
  have hw : ∃ w, x = V.str w ∧ (match kvs.lookup w with | some i => some (D.int i) | none => some .non) = some z := ⟨_, rx, hz⟩
  clear hz
  obtain ⟨w, rx, hz⟩ := hw
  have k1 : H1 p = some (.dK (kvV kvs)) := hid_same _ _ _ _ (s1.same _ _ (hid_of upd_same np))
  refine ⟨valV (kvV kvs) (.inr w), .inl ⟨_, .inr w, .inl k1, rx, rfl⟩, ?_⟩
  rw [val_kv w kvs]
  have f := fin_of e1 h2
  split at hz
  · rename_i i hi
    cases hz
    first | exact f.int | (rw [hi]; exact f.int)
  · rename_i hi
    cases hz
    first | exact f.same (by simp only [Rep]) | (rw [hi]; exact f.same (by simp only [Rep]))
end
/-- what a constant of the module is -/
def ConR (K : PySem.W.Frag) (d : D) (v : V) : Prop := match d with
  | .frz xs => ∃ kvs, kvsOf xs = some kvs ∧ DicR K kvs v
  | d => ∀ H, Rep K H d v
theorem ConR.rep {K : PySem.W.Frag} {d : D} {v : V} (h : ConR K d v) (n : notFrz d = true) : ∀ H, Rep K H d v := by
  cases d <;> first | exact h | cases n
theorem pps_kv {X : Cx} {pos : Pos} : ∀ {kvs : List (Str × Int)} {ks : List (Option Expr)} {vs : List Expr}, kvB kvs ks vs = true → PPs X pos ks vs (trs kvs) ∧ ks.all (·.isSome) = true ∧ ks.length = vs.length ∧ ks.length = kvs.length
  | [], [], [], _ => ⟨pps_nil, rfl, rfl, rfl⟩
  | (z, i) :: kvs, some (.Constant (.str a) _ _) :: ks, .Constant (.int b) _ _ :: vs, h => by
    simp only [kvB, Bool.and_eq_true, decide_eq_true_eq, beq_iff_eq] at h
    obtain ⟨⟨rfl, rfl⟩, h⟩ := h
    obtain ⟨h1, h2, h3, h4⟩ := pps_kv h
    exact ⟨pps_cons pe_str pe_int h1, by rw [List.all_cons, h2]; rfl, by rw [List.length_cons, List.length_cons, h3], by rw [List.length_cons, List.length_cons, h4]⟩
theorem stars_few {X : Cx} {y : Expr} {cpos : Pos} (h : headOk y = true) : ((backTo cpos (starEach [y] X.env)).all (fun x => !x.1) && (backToKw cpos (keywordEach [] X.env)).all (fun x => x.1.isSome)
    && decide (([y] : List Expr).length + ([] : List Keyword).length + (if ([] : List Keyword).isEmpty then 0 else 1) < 30)) = true := by
  rw [star_ok h]; rfl
end G
/-! G.Srt: sorted(set(list of ints)). -/
namespace G
open PySem L2
theorem te_srt {X : Cx} {T : List Fn} {cl : Str → Option Addr} {EX : XS} {σ : L2.St} {H : Hp} {es : E} {Q : VK} (h : tE X T cl EX (.srt es) σ H Q) : tCB (rSortedSet X.w) (tCons (tCB (rMkSet X.w X.K) (tEs X T cl EX es)) tNil) σ H Q := by
  obtain ⟨H0, ps, ows, δ, e, h⟩ := h
  simp only [ev] at h
  refine ⟨H0, ps, ows, δ, e, (wpO.bind h).imp fun vs H1 ⟨rs, δ1, w1, _, e1, s1, rx, h1⟩ => ?_⟩
  obtain ⟨z, hz, h2⟩ := wpO.lift h1
  have f := fin_of e1 h2
  unfold bltR at hz
  split at hz
  · rename_i ds q1
    unfold bltv at hz
    split at hz <;> first | contradiction | skip
    obtain ⟨ns, g1, hz⟩ := Option.bind_eq_some_iff.mp hz
    split at hz <;> first | contradiction | skip
    cases hz
    rename_i few
    obtain ⟨v, rfl, rv⟩ := (repVs_of e1 rx q1).one
    obtain ⟨p, us, rfl, m1, m2⟩ := rv.lst
    have hlen := m2.length
    rw [reps_ints m2 g1] at m1 hlen
    rw [List.length_map] at hlen
    refine ⟨p, ns, rfl, SqL.of m1, by unfold scanBound; omega, fun a c hn hc => ?_⟩
    refine ⟨a, _, c, rfl, upd_same, by rw [hc]; omega, fun ns' p' u hm _ hp => ?_⟩
    have en : ns' = sortU ns := sortU_the u fun k => (hm k).trans (by simp)
    subst en
    have n1 : a ∉ _ := dom_new e1.dom hn
    have hpa : p' ≠ a := fun z => by rw [z, upd_same] at hp; cases hp
    refine f _ _ ⟨_, .inr ⟨a, _, hn, rfl⟩, .inr ⟨p', _, hp, rfl⟩⟩ ?_
    simp only [Rep]
    have hpH : H1 p' = none := by rwa [upd_ne hpa] at hp
    exact ⟨p', _, rfl, hid_of upd_same (dom_new e1.dom hpH), ints_reps _⟩
  · cases hz
end G
/-! G.Snd3: what loops walk; ranges as lists; comprehensions. -/
namespace G
open PySem L2
theorem reps_range {K : PySem.W.Frag} {H : Hp} (a : Int) (n : Nat) : Reps K H (rangeD a n) ((List.range n).map fun i => V.int (a + (i : Nat))) := by
  have h := ints_reps (K := K) (H := H) ((List.range n).map fun (i : Nat) => a + (i : Int))
  rw [List.map_map, List.map_map] at h
  exact h
theorem rangeD_len (a : Int) (n : Nat) : (rangeD a n).length = n := by unfold rangeD; rw [List.length_map, List.length_range]
theorem rangeD_get {a : Int} {n i : Nat} {d : D} (h : (rangeD a n)[i]? = some d) : i < n ∧ d = .int (a + (i : Nat)) := by
  unfold rangeD at h
  rw [List.getElem?_map, Option.map_eq_some_iff] at h
  obtain ⟨j, h1, rfl⟩ := h
  have hl := (List.getElem?_eq_some_iff.mp h1).1
  rw [List.length_range] at hl
  rw [List.getElem?_range hl] at h1
  cases h1
  exact ⟨hl, rfl⟩
theorem walks_rng {K : PySem.W.Frag} {ows : List Addr} {H0 : Hp} (a : Int) (n : Nat) : WalksD K ows H0 (rangeD a n) (Itr a n) := fun i H ows' sm hd => by
  rw [rangeD_len]
  refine ⟨fun h => ⟨h, fun v H1 ⟨e1, e2⟩ => ⟨.inl e1, fun d hdd => ?_⟩⟩, fun h => Nat.le_of_eq h.symm⟩
  obtain ⟨_, rfl⟩ := rangeD_get hdd
  subst e2
  simp only [Rep]
theorem walks_lst {K : PySem.W.Frag} {ows : List Addr} {H0 : Hp} {a : Addr} {xs : List D} (h : Rep K (hid ows H0) (.frz xs) (.ref a) ∨ Rep K (hid ows H0) (.lst xs) (.ref a)) : WalksD K ows H0 xs (Itl K a) := fun i H ows' sm hd => by
  obtain ⟨vs, h1, h2⟩ : ∃ vs, SqL K H a vs ∧ Reps K (hid ows' H) xs vs := by
    rcases h with h | h
    · obtain ⟨a', vs, e, h1, h2⟩ := RepV.frz (.inl (h.mono sm))
      cases e
      exact ⟨vs, h1, h2⟩
    · obtain ⟨a', vs, e, h1, h2⟩ := RepV.lst (.inl (h.mono sm))
      cases e
      exact ⟨vs, SqL.of h1, h2⟩
  refine ⟨fun hi => ?_, fun hi => ⟨vs, h1, by rw [h2.length]; omega⟩⟩
  have hi' : i < vs.length := by rw [h2.length]; exact hi
  refine ⟨⟨vs, vs[i], h1, List.getElem?_eq_getElem hi'⟩, fun v H1 ⟨e1, e2⟩ => ⟨.inl e1, fun d hdd => ?_⟩⟩
  subst e1
  obtain ⟨v', g1, g2⟩ := h2.get hdd
  have := e2 vs h1
  rw [g1] at this
  cases this
  exact g2
theorem walks_tup {K : PySem.W.Frag} {ows : List Addr} {H0 : Hp} {a : Addr} {xs : List D} (h : Rep K (hid ows H0) (.tup xs) (.ref a)) : WalksD K ows H0 xs (Itt K a) := fun i H ows' sm hd => by
  obtain ⟨_, a', vs, e, h1, h2⟩ := RepV.tup (.inl (h.mono sm))
  cases e
  refine ⟨fun hi => ?_, fun hi => ⟨vs, h1, by rw [h2.length]; omega⟩⟩
  have hi' : i < vs.length := by rw [h2.length]; exact hi
  refine ⟨⟨vs, vs[i], h1, List.getElem?_eq_getElem hi'⟩, fun v H1 ⟨e1, e2⟩ => ⟨.inl e1, fun d hdd => ?_⟩⟩
  subst e1
  obtain ⟨v', g1, g2⟩ := h2.get hdd
  have := e2 vs h1
  rw [g1] at this
  cases this
  exact g2
theorem enumD_len (xs : List D) : (enumD xs).length = xs.length := by simp [enumD]
theorem enumD_get {xs : List D} {i : Nat} {d : D} (h : (enumD xs)[i]? = some d) : ∃ x, xs[i]? = some x ∧ d = .tup [.int (i : Nat), x] := by
  unfold enumD at h
  rw [List.getElem?_zipWith] at h
  have hi : i < xs.length := by
    cases q : xs[i]? with
    | none =>
      rw [q] at h
      split at h <;> first | contradiction | (rename_i e; cases e)
    | some x => exact (List.getElem?_eq_some_iff.mp q).1
  rw [List.getElem?_range hi, List.getElem?_eq_getElem hi] at h
  cases h
  exact ⟨xs[i], List.getElem?_eq_getElem hi, rfl⟩
theorem enum_step {K : PySem.W.Frag} {ows' : List Addr} {H : Hp} {xs : List D} {vs : List V} {i : Nat} {T : Addr} {x : V} (hd : G.Dom ows' H) (n : H T = none) (h2 : Reps K (hid ows' H) xs vs) (hx : vs[i]? = some x) {d : D} (hdd : (enumD xs)[i]? = some d) : Rep K (hid ows' (upd H T (.tup [.int (i : Nat), x]))) d (.ref T) := by
  obtain ⟨y, g1, rfl⟩ := enumD_get hdd
  obtain ⟨v', g2, g3⟩ := h2.get g1
  rw [hx] at g2
  cases g2
  simp only [Rep]
  refine ⟨T, [.int (i : Nat), x], rfl, .inl (.inl (hid_of upd_same (dom_new hd n))), ?_⟩
  exact Reps.cons (by simp only [Rep]) (Reps.cons (g3.mono (hid_new n)) Reps.nil)
theorem walks_enumL {K : PySem.W.Frag} {ows : List Addr} {H0 : Hp} {a : Addr} {xs : List D} (h : Rep K (hid ows H0) (.lst xs) (.ref a)) : WalksD K ows H0 (enumD xs) (Ite K a) := fun i H ows' sm hd => by
  obtain ⟨a', vs, e, h1, h2⟩ := RepV.lst (.inl (h.mono sm))
  cases e
  rw [enumD_len]
  refine ⟨fun hi => ?_, fun hi => ⟨vs, SqL.of h1, by rw [h2.length]; omega⟩⟩
  have hi' : i < vs.length := by rw [h2.length]; exact hi
  refine ⟨⟨vs, vs[i], SqL.of h1, List.getElem?_eq_getElem hi'⟩, fun v H1 ⟨T, x, e1, n, e3, e4⟩ => ⟨.inr ⟨T, _, n, e3⟩, fun d hdd => ?_⟩⟩
  subst e1
  rw [e3]
  exact enum_step hd n h2 (e4 vs (SqL.of h1)) hdd
theorem walks_enumT {K : PySem.W.Frag} {ows : List Addr} {H0 : Hp} {a : Addr} {xs : List D} (h : Rep K (hid ows H0) (.tup xs) (.ref a)) : WalksD K ows H0 (enumD xs) (Iteu K a) := fun i H ows' sm hd => by
  obtain ⟨_, a', vs, e, h1, h2⟩ := RepV.tup (.inl (h.mono sm))
  cases e
  rw [enumD_len]
  refine ⟨fun hi => ?_, fun hi => ⟨vs, h1, by rw [h2.length]; omega⟩⟩
  have hi' : i < vs.length := by rw [h2.length]; exact hi
  refine ⟨⟨vs, vs[i], h1, List.getElem?_eq_getElem hi'⟩, fun v H1 ⟨T, x, e1, n, e3, e4⟩ => ⟨.inr ⟨T, _, n, e3⟩, fun d hdd => ?_⟩⟩
  subst e1
  rw [e3]
  exact enum_step hd n h2 (e4 vs h1) hdd

/-! ### sources -/
def iSeq (K : PySem.W.Frag) (tl : TE) : TI := fun σ H R => tl σ H fun x H1 => (∃ a, x = .ref a ∧ (∃ xs, SqL K H1 a xs) ∧ R (Itl K a) H1) ∨ (∃ a, x = .ref a ∧ (∃ xs, SqT K H1 a xs) ∧ R (Itt K a) H1)
theorem pi_seq {X : Cx} {tg l : Expr} {tl : TE} (hl : PE X l tl) : PI X tg l (iSeq X.K tl) := by
  refine ⟨fun pins s σ H R I h => thn (hl.run pins s σ H _ I h) fun v s1 ⟨x, H1, I1, r1, q1⟩ => ?_⟩
  have fp : ∀ b ∈ [s1.heap.objs.size], FpOk X pins H1 b := fun b hb => by
    cases (show b = s1.heap.objs.size by simpa using hb)
    exact I1.fpOk (Nat.le_refl _) (I1.hok.fresh (Nat.le_refl _))
  rcases q1 with ⟨a, e, ⟨xs, hq⟩, q⟩ | ⟨a, e, ⟨xs, hq⟩, q⟩ <;> (subst e; cases r1)
  · obtain ⟨its, rv, p, hz⟩ := I1.list hq
    exact wpAny_pyIter_list p.isList ⟨s1.heap.objs.size, [s1.heap.objs.size], _, _, H1, rfl, I1.kept (t' := s1.toks) fun b o e => Heap.get?_push_of_some _ e, turn_list a _, ⟨_, Heap.get?_push_size _ rfl, rfl, rfl⟩, fp, q⟩
  · obtain ⟨its, rv, p, hz⟩ := I1.tuple hq
    exact wpAny_pyIter_tuple (show s1.heap.IsTuple a its.toArray from p) ⟨s1.heap.objs.size, [s1.heap.objs.size], _, _, H1, rfl, I1.kept (t' := s1.toks) fun b o e => Heap.get?_push_of_some _ e, turn_tuple a _, ⟨_, Heap.get?_push_size _ rfl, rfl, rfl⟩, fp, q⟩
section
variable {X : Cx} {T : List Fn} {cl : Str → Option Addr} {EX : XS} {H0 : Hp} {ps : Ps} {ows : List Addr} {σ : St} {H : Hp} {δ : Env}
theorem wpO.now {α β : Type} {W : Wi} {o : Option α} {w1 : List Addr} {R : List Addr → Hp → α → β → Prop} {Q : β → Hp → Prop} {H1 : Hp} {δ1 : Env} (h : wpO W w1 H1 (G.lift o δ1) R Q) (e : EnvR W.g w1 W.σ H1 δ1) : ∃ a, o = some a ∧ ∀ b, R w1 H1 a b → Q b H1 := by
  cases o with
  | none => exact h.elim
  | some a => exact ⟨a, rfl, fun b r => h b w1 H1 e .refl r⟩
theorem ti_rng1 {a : E} {R : It → Hp → Prop} (h : tI X T cl EX (.rng1 a) σ H R) : iRng1 (tCons (tE X T cl EX a) tNil) σ H R := by
  obtain ⟨H0, ps, ows, δ, e, h⟩ := h
  simp only [evi] at h
  refine ⟨H0, ps, ows, δ, e, (wpO.bind h).imp fun x H1 ⟨r1, δ1, w1, _, e1, s1, rx, h1⟩ => ?_⟩
  obtain ⟨xs, hx, q⟩ := wpO.now h1 e1
  unfold rg1R at hx
  split at hx
  · split at hx <;> cases hx
    rename_i b
    simp only [RvR, Rep] at rx
    subst rx
    exact ⟨_, rfl, by unfold big at b; omega, by unfold big at b; omega, q _ (walks_rng _ _)⟩
  · cases hx
theorem ti_rng2 {a b : E} {R : It → Hp → Prop} (h : tI X T cl EX (.rng2 a b) σ H R) : iRng2 (tCons (tE X T cl EX a) (tCons (tE X T cl EX b) tNil)) σ H R := by
  obtain ⟨H0, ps, ows, δ, e, h⟩ := h
  simp only [evi] at h
  refine ⟨H0, ps, ows, δ, e, (wpO.bind h).imp fun x H1 ⟨r1, δ1, w1, _, e1, s1, rx, h1⟩ => ⟨H0, ps, w1, δ1, e1, (wpO.bind h1).imp fun y H2 ⟨r2, δ2, w2, _, e2, s2, ry, h2⟩ => ?_⟩⟩
  obtain ⟨xs, hx, q⟩ := wpO.now h2 e2
  unfold rg2R at hx
  split at hx
  · split at hx <;> cases hx
    rename_i b
    simp only [RvR, Rep] at rx ry
    subst rx ry
    exact ⟨_, _, rfl, by unfold big at b; omega, q _ (walks_rng _ _)⟩
  · cases hx
theorem ti_itr {a : E} {R : It → Hp → Prop} (h : tI X T cl EX (.itr a) σ H R) : iSeq X.K (tE X T cl EX a) σ H R := by
  obtain ⟨H0, ps, ows, δ, e, h⟩ := h
  simp only [evi] at h
  refine ⟨H0, ps, ows, δ, e, (wpO.bind h).imp fun x H1 ⟨r1, δ1, w1, _, e1, s1, rx, h1⟩ => ?_⟩
  obtain ⟨xs, hx, q⟩ := wpO.now h1 e1
  cases r1 with
  | own i => cases hx
  | d z =>
    have rx : Rep X.K (hid w1 H1) z x := rx
    unfold itR itv at hx
    simp only at hx
    split at hx <;> cases hx
    · obtain ⟨_, a', vs, rfl, h1, h2⟩ := RepV.tup (.inl rx)
      exact .inr ⟨a', rfl, ⟨vs, h1⟩, q _ (walks_tup rx)⟩
    · obtain ⟨a', vs, rfl, h1, h2⟩ := RepV.lst (.inl rx)
      exact .inl ⟨a', rfl, ⟨vs, SqL.of h1⟩, q _ (walks_lst (.inr rx))⟩
    · obtain ⟨a', vs, rfl, h1, h2⟩ := RepV.frz (.inl rx)
      exact .inl ⟨a', rfl, ⟨vs, h1⟩, q _ (walks_lst (.inl rx))⟩
def iEnm (K : PySem.W.Frag) (ta : TA) : TI := fun σ H R => ta σ H fun vs H1 => ∃ a, vs = [.ref a] ∧ ((∃ xs, SqL K H1 a xs ∧ R (Ite K a) H1) ∨ (∃ xs, SqT K H1 a xs ∧ R (Iteu K a) H1))
theorem ti_enm {a : E} {R : It → Hp → Prop} (h : tI X T cl EX (.enm a) σ H R) : iEnm X.K (tCons (tE X T cl EX a) tNil) σ H R := by
  obtain ⟨H0, ps, ows, δ, e, h⟩ := h
  simp only [evi] at h
  refine ⟨H0, ps, ows, δ, e, (wpO.bind h).imp fun x H1 ⟨r1, δ1, w1, _, e1, s1, rx, h1⟩ => ?_⟩
  obtain ⟨xs, hx, q⟩ := wpO.now h1 e1
  unfold enmR at hx
  split at hx
  · cases hx
    have rx : Rep X.K (hid w1 H1) (.tup _) x := rx
    obtain ⟨_, a', vs, rfl, h1, h2⟩ := RepV.tup (.inl rx)
    exact ⟨a', rfl, .inr ⟨vs, h1, q _ (walks_enumT rx)⟩⟩
  · cases hx
    have rx : Rep X.K (hid w1 H1) (.lst _) x := rx
    obtain ⟨a', vs, rfl, h1, h2⟩ := RepV.lst (.inl rx)
    exact ⟨a', rfl, .inl ⟨vs, SqL.of h1, q _ (walks_enumL rx)⟩⟩
  · cases hx
/-! ### list(range(..)), tuple(range(..)) -/
theorem rg_ok {a b : Int} (h1 : -(big : Int) ≤ a) (h2 : a ≤ big) (h3 : -(big : Int) ≤ b) (h4 : b ≤ big) : RgOk a b := by
  unfold RgOk
  unfold big at h1 h2 h3 h4
  omega
def tR (X : Cx) (T : List Fn) (cl : Str → Option Addr) (EX : XS) : E → St → Hp → (Int → Int → Hp → Prop) → Prop
  | .rng1 a => tRg1 (tE X T cl EX a)
  | .rng2 a b => tRg2 (tE X T cl EX a) (tE X T cl EX b)
  | _ => fun _ _ _ => False
theorem tr_of {it : E} {Q : Int → Int → Hp → Prop} (e : EnvR (gr X H0 ps) ows σ H δ)
    (h : wpO ⟨gr X H0 ps, σ, cl, EX⟩ ows H (evi T it δ) (fun _ H' xs (p : Int × Int) => RgOk p.1 p.2 ∧ xs = rangeD p.1 (p.2 - p.1).toNat) (fun p H' => Q p.1 p.2 H')) (hr : ∀ a, it ≠ .itr a) (he : ∀ a, it ≠ .enm a) : tR X T cl EX it σ H Q := by
  cases it <;> simp only [evi] at h <;> first | exact h.elim | skip
  case rng1 a =>
    refine ⟨H0, ps, ows, δ, e, (wpO.bind h).imp fun x H1 ⟨r1, δ1, w1, _, e1, s1, rx, h1⟩ => ?_⟩
    obtain ⟨xs, hx, q⟩ := wpO.now h1 e1
    unfold rg1R at hx
    split at hx
    · split at hx <;> cases hx
      rename_i b
      simp only [RvR, Rep] at rx
      exact ⟨_, rx, q (0, _) ⟨rg_ok (a := 0) (by decide) (by decide) b.1 b.2, by simp only [Int.sub_zero]⟩⟩
    · cases hx
  case rng2 a b =>
    refine ⟨H0, ps, ows, δ, e, (wpO.bind h).imp fun x H1 ⟨r1, δ1, w1, _, e1, s1, rx, h1⟩ => ⟨H0, ps, w1, δ1, e1, (wpO.bind h1).imp fun y H2 ⟨r2, δ2, w2, _, e2, s2, ry, h2⟩ => ?_⟩⟩
    obtain ⟨xs, hx, q⟩ := wpO.now h2 e2
    unfold rg2R at hx
    split at hx
    · split at hx <;> cases hx
      rename_i b
      simp only [RvR, Rep] at rx ry
      exact ⟨_, _, rx, ry, q (_, _) ⟨rg_ok b.1 b.2.1 b.2.2.1 b.2.2.2, rfl⟩⟩
    · cases hx
  case enm a => exact absurd rfl (he a)
  case itr a => exact absurd rfl (hr a)
theorem wpO.bind' {α β γ ε : Type} {W : Wi} {ows : List Addr} {H : Hp} {o : Out Env α} {f : α → Env → Out Env γ} {R : List Addr → Hp → α → β → Prop} {R2 : List Addr → Hp → γ → ε → Prop} {Q2 : ε → Hp → Prop} {Q : β → Hp → Prop} (h : wpO W ows H (o.bind f) R2 Q2)
    (k : ∀ r δ1 b w1 H1, EnvR W.g w1 W.σ H1 δ1 → GrwS ows H w1 H1 → R w1 H1 r b → wpO W w1 H1 (f r δ1) R2 Q2 → Q b H1) : wpO W ows H o R Q := (wpO.bind h).imp fun b H1 ⟨r, δ1, w1, _, e1, s1, rx, h1⟩ => k r δ1 b w1 H1 e1 s1 rx h1
theorem te_lrng {it : E} {Q : VK} (h : tE X T cl EX (.lrng it) σ H Q) (hr : ∀ a, it ≠ .itr a) (he : ∀ a, it ≠ .enm a) : tLstRg (tR X T cl EX it) σ H Q := by
  obtain ⟨H0, ps, ows, δ, e, h⟩ := h
  simp only [ev] at h
  refine tr_of e (wpO.bind' h fun xs δ1 p w1 H1 e1 _ ⟨r1, r2⟩ h1 => ⟨r1, fun q n => ?_⟩) hr he
  subst r2
  exact Fin.lst (fin_of e1 h1) e1.dom (reps_range _ _) q n
theorem te_trng {it : E} {Q : VK} (h : tE X T cl EX (.trng it) σ H Q) (hr : ∀ a, it ≠ .itr a) (he : ∀ a, it ≠ .enm a) : tTupRg (tR X T cl EX it) σ H Q := by
  obtain ⟨H0, ps, ows, δ, e, h⟩ := h
  simp only [ev] at h
  refine tr_of e (wpO.bind' h fun xs δ1 p w1 H1 e1 _ ⟨r1, r2⟩ h1 => ⟨r1, fun q n => ?_⟩) hr he
  subst r2
  exact Fin.tup (fin_of e1 h1) e1.dom (reps_range _ _) q n
end
end G
/-! G.Snd4: comprehensions. -/
namespace G
open PySem L2
theorem wipe_get (σ : St) (j : Nat) : ∀ vs : List Nat, (wipe σ vs)[j]? = if j ∈ vs then (if j < σ.length then some none else none) else σ[j]?
  | [] => by simp [wipe]
  | v :: vs => by
    unfold wipe
    rw [List.getElem?_set, wipe_get σ j vs, wipe_length]
    by_cases h : v = j
    · subst h
      simp
    · by_cases g : j ∈ vs
      · simp [h, g]
      · have h' : ¬ j = v := fun z => h z.symm
        simp [h, g, h']
theorem wipeE_length (δ : Env) : ∀ vs : List Nat, (wipeE δ vs).length = δ.length
  | [] => rfl
  | v :: vs => by unfold wipeE; rw [List.length_set, wipeE_length δ vs]
theorem wipeE_get (δ : Env) (j : Nat) : ∀ vs : List Nat, j ∉ vs → (wipeE δ vs)[j]? = δ[j]?
  | [], _ => rfl
  | v :: vs, h => by
    simp only [List.mem_cons, not_or] at h
    unfold wipeE
    rw [List.getElem?_set_ne (fun z => h.1 z.symm), wipeE_get δ j vs h.2]
theorem restE_length (δ0 δ : Env) : ∀ vs : List Nat, (restE δ0 δ vs).length = δ.length
  | [] => rfl
  | v :: vs => by unfold restE; rw [List.length_set, restE_length δ0 δ vs]
theorem restE_out (δ0 δ : Env) (j : Nat) : ∀ vs : List Nat, j ∉ vs → (restE δ0 δ vs)[j]? = δ[j]?
  | [], _ => rfl
  | v :: vs, h => by
    simp only [List.mem_cons, not_or] at h
    unfold restE
    rw [List.getElem?_set_ne (fun z => h.1 z.symm), restE_out δ0 δ j vs h.2]
theorem restE_in (δ0 δ : Env) (j : Nat) (s : Sl) : ∀ vs : List Nat, j ∈ vs → (restE δ0 δ vs)[j]? = some s → s = .no ∨ δ0[j]? = some s
  | [], h, _ => by simp at h
  | v :: vs, h, q => by
    unfold restE at q
    by_cases z : v = j
    · subst z
      rw [List.getElem?_set] at q
      simp only [if_true] at q
      split at q
      · split at q
        · rename_i s' hs
          cases q
          exact .inr hs
        · cases q; exact .inl rfl
      · cases q
    · rw [List.getElem?_set_ne z] at q
      exact restE_in δ0 δ j s vs ((List.mem_cons.mp h).resolve_left fun e => z e.symm) q
section
variable {X : Cx} {T : List Fn} {cl : Str → Option Addr} {EX : XS} {H0 : Hp} {ps : Ps} {ows : List Addr} {σ : St} {H : Hp} {δ : Env}
theorem EnvR.wiped {g : Gr} (e : EnvR g ows σ H δ) : ∀ vs : List Nat, EnvR g ows (wipe σ vs) H (wipeE δ vs)
  | [] => e
  | v :: vs => (e.wiped vs).forget
theorem wipe_set {v : V} {i : Nat} {vs : List Nat} (h : i ∈ vs) : wipe (σ.set i (some v)) vs = wipe σ vs := by
  refine List.ext_getElem? fun j => ?_
  rw [wipe_get, wipe_get, List.length_set]
  split
  · rfl
  · rename_i n
    rw [List.getElem?_set_ne fun z : i = j => n (z ▸ h)]

theorem wipe_idem {vs : List Nat} : wipe (wipe σ vs) vs = wipe σ vs := by
  refine List.ext_getElem? fun j => ?_
  rw [wipe_get, wipe_get, wipe_length]
  split <;> rfl
/-! ### targets -/
def gNames : List Nat → TGs
  | [] => gNil
  | i :: is => gCons (gName i) (gNames is)
def gT (K : PySem.W.Frag) (tg : List Nat) : TG := match tg with
  | [i] => gName i
  | tg => gTup K tg.length (gNames tg)
theorem free_set {i : Nat} {d : D} {δ1 : Env} (h : setRo δ i d = some δ1) : δ1 = δ.set i (.ro d) := by
  unfold setRo at h
  split at h <;> cases h
  rfl
theorem names_ok {g : Gr} {Q : St → Hp → Prop} : ∀ {tg : List Nat} {ds : List D} {vs : List V} {σ : St} {δ δ1 : Env}, EnvR g ows σ H δ → Reps g.K (hid ows H) ds vs → setRos δ tg ds = some δ1 →
    (∀ σ1, EnvR g ows σ1 H δ1 → (∀ ws : List Nat, (∀ i ∈ tg, i ∈ ws) → wipe σ1 ws = wipe σ ws) → Q σ1 H) → gNames tg vs σ H Q
  | [], [], vs, σ, δ, δ1, e, r, h, k => by
    simp only [Reps] at r
    subst r
    cases h
    exact ⟨rfl, k σ e fun _ _ => rfl⟩
  | [], _ :: _, vs, σ, δ, δ1, e, r, h, k => by cases h
  | _ :: _, [], vs, σ, δ, δ1, e, r, h, k => by cases h
  | i :: is, d :: ds, vs, σ, δ, δ1, e, r, h, k => by
    simp only [Reps] at r
    obtain ⟨v, us, rfl, r1, r2⟩ := r
    simp only [setRos] at h
    split at h
    · rename_i δ2 h2
      cases free_set h2
      refine ⟨v, us, rfl, names_ok (e.setRo r1) r2 h fun σ1 e1 k1 => k σ1 e1 fun ws hw => ?_⟩
      rw [k1 ws fun j hj => hw j (List.mem_cons_of_mem _ hj), wipe_set (hw i List.mem_cons_self)]
    · cases h
theorem setRos_len : ∀ {tg : List Nat} {ds : List D} {δ δ1 : Env}, setRos δ tg ds = some δ1 → ds.length = tg.length
  | [], [], _, _, _ => rfl
  | [], _ :: _, _, _, h => by cases h
  | _ :: _, [], _, _, h => by cases h
  | i :: is, d :: ds, δ, δ1, h => by
    simp only [setRos] at h
    split at h
    · rw [List.length_cons, List.length_cons, setRos_len h]
    · cases h
theorem tup_ok {g : Gr} {Q : St → Hp → Prop} {tg : List Nat} {d : D} {v : V} {δ1 : Env} (e : EnvR g ows σ H δ) (r : Rep g.K (hid ows H) d v) (h : bindT tg d δ = some δ1)
    (k : ∀ σ1, EnvR g ows σ1 H δ1 → (∀ ws : List Nat, (∀ i ∈ tg, i ∈ ws) → wipe σ1 ws = wipe σ ws) → Q σ1 H) : gTup g.K tg.length (gNames tg) v σ H Q := by
  unfold bindT at h
  split at h
  · obtain ⟨_, a, vs, rfl, h1, h2⟩ := RepV.tup (.inl r)
    exact ⟨a, vs, rfl, h1, by rw [h2.length]; exact setRos_len h, names_ok e h2 h k⟩
  · cases h
theorem bind_ok {g : Gr} {Q : St → Hp → Prop} {tg : List Nat} {d : D} {v : V} {δ1 : Env} (e : EnvR g ows σ H δ) (r : Rep g.K (hid ows H) d v) (h : bindC tg d δ = some δ1)
    (k : ∀ σ1, EnvR g ows σ1 H δ1 → (∀ ws : List Nat, (∀ i ∈ tg, i ∈ ws) → wipe σ1 ws = wipe σ ws) → Q σ1 H) : gT g.K tg v σ H Q := by
  unfold bindC at h
  unfold gT
  split at h
  · cases free_set h
    exact k _ (e.setRo r) fun ws hw => wipe_set (hw _ (by simp))
  · rename_i n
    first
      | exact tup_ok e r h k
      | (split
         · rename_i i; exact absurd rfl (n i)
         · exact tup_ok e r h k)

/-! ### the block's list -/
theorem EnvR.enter {D : Addr} {o : HO} (e : EnvR (gr X H0 ps) ows σ H δ) (n : H D = none) : EnvR (gr X (upd H0 D o) ps) (D :: ows) σ (upd H D o) δ := by
  have e2 : EnvR (gr X H0 ps) (D :: ows) σ (upd H D o) δ := e.ownNew n (fun a u q => by rw [upd_ne (ne_of_none q n)]; exact q) upd_same
  have nD : ∀ {c : Addr}, c ∈ ows → c ≠ D := fun {c} hc z => e.dom c hc (by rw [z]; exact n)
  refine ⟨e2.len, fun a u ha q => ?_, e2.psub, e2.dom, fun i s q => ?_, e2.inj, e2.par, fun P hP t ht => e2.tab P hP t ?_, fun hn => ?_⟩
  rotate_right
  · obtain ⟨P, hP, ⟨t, ht⟩, hp⟩ := e.need hn
    refine ⟨P, hP, ⟨t, ?_⟩, hp⟩
    show (upd H0 D o) P = _
    rw [upd_ne (nD (e.psub P hP))]
    exact ht
  rotate_right
  · have ht : (upd H0 D o) P = some (.tbl t) := ht
    rwa [upd_ne (nD (e.psub P hP))] at ht
  · by_cases z : a = D
    · subst z
      rw [show (gr X (upd H0 a o) ps).H0 a = (upd H0 a o) a from rfl, upd_same] at q
      rw [upd_same, q]
    · rw [show (gr X (upd H0 D o) ps).H0 a = (upd H0 D o) a from rfl, upd_ne z] at q
      exact e2.base a u ha q
  · have h2 := e2.slot i s q
    cases s with
    | no => trivial
    | ro d => exact h2
    | ow b u =>
      obtain ⟨a, g1, g2, g3⟩ := h2
      obtain ⟨a', k1, k2, _⟩ := e.slot i _ q
      rw [g1] at k1
      have ea : a = a' := by simpa using k1
      subst ea
      have na := nD (k2 a foot_self).1
      have fa : foot (upd H D o) a = foot H a := foot_eq (upd_ne na)
      refine ⟨a, g1, fun c hc => ⟨(g2 c hc).1, ?_⟩, g3⟩
      rw [fa] at hc
      have nc := nD (k2 c hc).1
      rcases (k2 c hc).2 with ⟨z1, z2, z3⟩ | z
      · exact .inl ⟨z1, z2, by rw [show (gr X (upd H0 D o) ps).H0 = upd H0 D o from rfl, foot_eq (upd_ne na)]; exact z3⟩
      · exact .inr (by show (upd H0 D o) c = none; rw [upd_ne nc]; exact z)
/-- no slot's object holds the block's list -/
theorem EnvR.offD {D : Addr} {o : HO} {i : Nat} {p : Bool} {u : Ob} {a : Addr} (e : EnvR (gr X (upd H0 D o) ps) ows σ H δ) (hD : D ∉ ps.1) (hi : δ[i]? = some (.ow p u)) (ha : σ[i]? = some (some (.ref a))) : ∀ c ∈ foot H a, c ≠ D := fun c hc z => by
  subst z
  rcases ((e.own hi ha).1 c hc).2 with ⟨_, z, _⟩ | z
  · exact hD z
  · have z : (upd H0 c o) c = none := z
    rw [upd_same] at z; cases z
theorem okA_chg {D a c : Addr} {o o' : HO} {p : Bool} (na : a ≠ D) (nc : c ≠ D) (h : (gr X (upd H0 D o) ps).okA p a c) : (gr X (upd H0 D o') ps).okA p a c := by
  rcases h with ⟨z1, z2, z3⟩ | z
  · refine .inl ⟨z1, z2, ?_⟩
    have z3 : c ∈ foot (upd H0 D o) a := z3
    show c ∈ foot (upd H0 D o') a
    rw [foot_eq (show (upd H0 D o) a = H0 a from upd_ne na)] at z3
    rw [foot_eq (show (upd H0 D o') a = H0 a from upd_ne na)]
    exact z3
  · have z : (upd H0 D o) c = none := z
    rw [upd_ne nc] at z
    exact .inr (by show (upd H0 D o') c = none; rw [upd_ne nc]; exact z)
theorem EnvR.chg {D : Addr} {o o' : HO} (e : EnvR (gr X (upd H0 D o) ps) ows σ H δ) (hw : D ∈ ows) (hD : D ∉ ps.1) : EnvR (gr X (upd H0 D o') ps) ows σ (upd H D o') δ := by
  have sm : Same (hid ows H) (hid ows (upd H D o')) := hid_change hw
  have ft : ∀ {i : Nat} {p : Bool} {u : Ob} {a : Addr}, δ[i]? = some (Sl.ow p u) → σ[i]? = some (some (.ref a)) → foot (upd H D o') a = foot H a := fun hi ha => foot_eq (upd_ne (e.offD hD hi ha _ foot_self))
  refine ⟨e.len, fun a u ha q => ?_, e.psub, fun a ha => ?_, fun i s q => ?_, fun i j p o q u x y n h1 h2 h3 h4 c hc => ?_, e.par, fun P hP t ht => ?_, fun hn => ?_⟩
  rotate_right
  · obtain ⟨P, hP, ⟨t, ht⟩, hp⟩ := e.need hn
    have ne : P ≠ D := fun z => hD (by rw [← z]; exact hP)
    refine ⟨P, hP, ⟨t, ?_⟩, hp⟩
    have ht : (upd H0 D o) P = some (.tbl t) := ht
    show (upd H0 D o') P = _
    rw [upd_ne ne] at ht ⊢
    exact ht
  rotate_right
  · have ne : P ≠ D := fun z => hD (by rw [← z]; exact hP)
    have ht : (upd H0 D o') P = some (.tbl t) := ht
    rw [upd_ne ne] at ht
    exact (e.tab P hP t (by show (upd H0 D o) P = _; rw [upd_ne ne]; exact ht)).mono (upd_ne ne) sm
  · have q : (upd H0 D o') a = some u := q
    by_cases z : a = D
    · subst z; rw [upd_same] at q ⊢; exact q
    · rw [upd_ne z] at q ⊢
      exact e.base a u ha (by show (upd H0 D o) a = _; rw [upd_ne z]; exact q)
  · by_cases z : a = D
    · rw [z, upd_same]; exact fun w => nomatch w
    · rw [upd_ne z]; exact e.dom a ha
  · have h2 := e.slot i s q
    cases s with
    | no => trivial
    | ro d =>
      obtain ⟨x, h3, h4⟩ := h2
      exact ⟨x, h3, h4.mono sm⟩
    | ow b u =>
      obtain ⟨a, g1, g2, g3⟩ := h2
      have na := e.offD hD q g1
      refine ⟨a, g1, fun c hc => ?_, g3.keep sm fun c hc => upd_ne (na c hc)⟩
      rw [ft q g1] at hc
      exact ⟨(g2 c hc).1, okA_chg (na a foot_self) (na c hc) (g2 c hc).2⟩
  · rw [ft h1 h3] at hc
    rw [ft h2 h4]
    exact e.inj i j p o q u x y n h1 h2 h3 h4 c hc
theorem EnvR.leave {D : Addr} {o : HO} {vs : List Nat} {H1 : Hp} {δ1 δe : Env} {ws : List Addr} (e1 : EnvR (gr X H0 ps) ows σ H1 δ1) (hn : vs.all (notOwn δ1) = true) (n : H1 D = none) (gw : GrwS ows H1 ws H) (E : EnvR (gr X (upd H0 D o) ps) ws (wipe σ vs) H (wipeE δe vs)) :
    EnvR (gr X H0 ps) (ws.filter fun a => decide (a ≠ D)) σ H (restE δ1 δe vs) ∧ GrwS ows H1 (ws.filter fun a => decide (a ≠ D)) H := by
  obtain ⟨n1, n2⟩ := e1.fresh n
  have hD : D ∉ ps.1 := fun z => n2 (e1.psub _ z)
  have sub : ∀ a ∈ ws.filter (fun a => decide (a ≠ D)), a ∈ ws := fun a h => (List.mem_filter.mp h).1
  have inn : ∀ a ∈ ws, a ≠ D → a ∈ ws.filter (fun a => decide (a ≠ D)) := fun a h n => List.mem_filter.mpr ⟨h, decide_eq_true n⟩
  have hs : Same (hid ws H) (hid (ws.filter fun a => decide (a ≠ D)) H) := hid_sub sub
  have out : ∀ {j : Nat} {b : Bool} {u : Ob}, (restE δ1 δe vs)[j]? = some (Sl.ow b u) → j ∉ vs ∧ (wipeE δe vs)[j]? = some (Sl.ow b u) ∧ (wipe σ vs)[j]? = σ[j]? := fun {j b u} q => by
    have nj : j ∉ vs := fun z => by
      rcases restE_in δ1 δe j _ vs z q with h | h
      · cases h
      · have := List.all_eq_true.mp hn j z
        unfold notOwn at this
        rw [h] at this
        cases this
    rw [restE_out _ _ _ _ nj] at q
    refine ⟨nj, by rw [wipeE_get _ _ _ nj]; exact q, by rw [wipe_get, if_neg nj]⟩
  refine ⟨⟨?_, fun a u ha q => ?_, fun a ha => inn a (gw.sub a (e1.psub a ha)) fun z => hD (by rw [← z]; exact ha), fun a ha => E.dom a (sub a ha), fun j s q => ?_, fun i j p u q w x y hij h1 h2 h3 h4 => ?_, fun j u q => ?_, fun P hP t ht => ?_, e1.need⟩, fun a ha => inn a (gw.sub a ha) fun z => n2 (by rw [← z]; exact ha), gw.same.trans hs⟩
  rotate_right
  · have ne : P ≠ D := fun z => hD (by rw [← z]; exact hP)
    exact (E.tab P hP t (by show (upd H0 D o) P = _; rw [upd_ne ne]; exact ht)).mono rfl hs
  · have := E.len
    rw [wipe_length, wipeE_length] at this
    rw [restE_length, this]
  · have q : H0 a = some u := q
    refine E.base a u ha ?_
    show (upd H0 D o) a = some u
    rw [upd_ne (ne_of_none q n1)]
    exact q
  · by_cases hj : j ∈ vs
    · rcases restE_in δ1 δe j s vs hj q with rfl | h
      · trivial
      · have := List.all_eq_true.mp hn j hj
        have h2 := e1.slot j s h
        unfold notOwn at this
        rw [h] at this
        cases s with
        | no => trivial
        | ro d =>
          obtain ⟨x, h3, h4⟩ := h2
          exact ⟨x, h3, (h4.mono gw.same).mono hs⟩
        | ow b u => cases this
    · cases s with
      | no => trivial
      | ro d =>
        rw [restE_out _ _ _ _ hj] at q
        have h2 := E.slot j (.ro d) (by rw [wipeE_get _ _ _ hj]; exact q)
        rw [wipe_get, if_neg hj] at h2
        obtain ⟨x, h3, h4⟩ := h2
        exact ⟨x, h3, h4.mono hs⟩
      | ow b u =>
        obtain ⟨k1, k2, k3⟩ := out q
        obtain ⟨a, g1, g2, g3⟩ := E.slot j _ k2
        have na := E.offD hD k2 g1
        rw [k3] at g1
        refine ⟨a, g1, fun c hc => ⟨inn c (g2 c hc).1 (na c hc), ?_⟩, g3.mono hs⟩
        rcases (g2 c hc).2 with ⟨z1, z2, z3⟩ | z
        · have z3 : c ∈ foot (upd H0 D o) a := z3
          rw [foot_eq (show (upd H0 D o) a = H0 a from upd_ne (na a foot_self))] at z3
          exact .inl ⟨z1, z2, z3⟩
        · have z : (upd H0 D o) c = none := z
          rw [upd_ne (na c hc)] at z
          exact .inr z
  · obtain ⟨_, a2, a3⟩ := out h1
    obtain ⟨_, b2, b3⟩ := out h2
    rw [← a3] at h3
    rw [← b3] at h4
    exact E.inj i j p u q w x y hij a2 b2 h3 h4
  · obtain ⟨_, a2, a3⟩ := out q
    rw [← a3]
    exact E.par j u a2
/-- the promise of a turn -/
def StepOk (X : Cx) (ps : Ps) (σ : St) (vs : List Nat) (f : D → Env → Out Env (Option D)) (g : TG) (tt : TT) (te : TE) : Prop :=
  ∀ (H0' : Hp) (ows' : List Addr) (x : V) (d : D) (δ : Env) (H : Hp) (r : Option D) (δ2 : Env) (KY : VK) (NX : Hp → Prop), EnvR (gr X H0' ps) ows' (wipe σ vs) H (wipeE δ vs) → Rep X.K (hid ows' H) d x → f d δ = .ok r δ2 →
    (∀ w2 H2 σ2, wipe σ2 vs = wipe σ vs → EnvR (gr X H0' ps) w2 σ2 H2 δ2 → GrwS ows' H w2 H2 → match r with | none => NX H2 | some y => ∀ v, Rep X.K (hid w2 H2) y v → KY v H2) →
    g x (wipe σ vs) H fun σ2 H2 => wipe σ2 vs = wipe σ vs ∧ tt σ2 H2 fun b H3 => if b = true then te σ2 H3 KY else NX H3
theorem lc_main {f : D → Env → Out Env (Option D)} {xs ys : List D} {H1 : Hp} {δ1 δe : Env} {J : It} {vs : List Nat} {g : TG} {tt : TT} {te : TE} {Q : VK} (hw : WalksD X.K ows H1 xs J) (e1 : EnvR (gr X H0 ps) ows σ H1 δ1) (hn : vs.all (notOwn δ1) = true) (hl : xs.length ≤ big)
    (hf : compL f xs [] δ1 = .ok ys δe) (hs : StepOk X ps σ vs f g tt te) (hq : ∀ v w' H', EnvR (gr X H0 ps) w' σ H' (restE δ1 δe vs) → GrwS ows H1 w' H' → Rep X.K (hid w' H') (.lst ys) v → Q v H') :
    ∀ D, H1 D = none → ∃ W : Nat → Nat → Hp → Prop, (∃ m, W 0 m (upd H1 D (.lst []))) ∧ ∀ i m H, W i m H →
  (J.stop i H ∧ Q (.ref D) H) ∨ (J.go i H ∧ ∃ Nx : Hp → Prop, (∀ H', Nx H' → ∃ m', m' < m ∧ W (i + 1) m' H') ∧ ∀ x H', J.yld i H x H' → g x (wipe σ vs) H' fun σ2 H2 => wipe σ2 vs = wipe σ vs ∧ tt σ2 H2 fun b H3 =>
    if b = true then te σ2 H3 fun y H4 => ∃ acc, H4 D = some (.lst acc) ∧ acc.length < sizeLine ∧ Nx (upd H4 D (.lst (acc ++ [y]))) else Nx H3) := by
  intro D n
  obtain ⟨n1, n2⟩ := e1.fresh n
  have hD : D ∉ ps.1 := fun z => n2 (e1.psub _ z)
  have at_D : ∀ {accV : List V} {ws : List Addr} {σ : St} {H : Hp} {δ : Env}, EnvR (gr X (upd H0 D (.lst accV)) ps) ws σ H δ → H D = some (.lst accV) := fun E => E.base D _ hD upd_same
  refine ⟨fun i m H => m = xs.length - i ∧ i ≤ xs.length ∧ ∃ ws δ' acc accV, EnvR (gr X (upd H0 D (.lst accV)) ps) ws (wipe σ vs) H (wipeE δ' vs) ∧ D ∈ ws ∧ GrwS ows H1 ws H ∧ Reps X.K (hid ws H) acc accV ∧ accV.length ≤ i ∧ compL f (xs.drop i) acc δ' = .ok ys δe,
    ⟨xs.length, rfl, Nat.zero_le _, D :: ows, δ1, [], [], (e1.enter n).wiped vs, List.mem_cons_self, ⟨fun a ha => List.mem_cons_of_mem _ ha, fun a u q => ?_⟩, Reps.nil, Nat.le_refl _, hf⟩, ?_⟩
  · have h := hid_same _ _ _ _ q
    have na : a ∉ ows := fun z => by unfold hid at q; rw [if_pos z] at q; cases q
    have ne : a ≠ D := ne_of_none h n
    exact hid_of (by rw [upd_ne ne]; exact h) (by simp only [List.mem_cons, not_or]; exact ⟨ne, na⟩)
  rintro i m H ⟨rfl, hi, ws, δ', acc, accV, E, hDw, sm, ra, hz, hc⟩
  obtain ⟨w1, w2⟩ := hw i H ws sm.same E.dom
  by_cases hlt : i < xs.length
  · refine .inr ⟨(w1 hlt).1, fun H' => xs.length - (i + 1) = xs.length - (i + 1) ∧ i + 1 ≤ xs.length ∧ ∃ ws δ' acc accV, EnvR (gr X (upd H0 D (.lst accV)) ps) ws (wipe σ vs) H' (wipeE δ' vs) ∧ D ∈ ws ∧ GrwS ows H1 ws H' ∧ Reps X.K (hid ws H') acc accV ∧ accV.length ≤ i + 1 ∧ compL f (xs.drop (i + 1)) acc δ' = .ok ys δe,
      fun H' h => ⟨xs.length - (i + 1), by omega, h⟩, fun x H' hy => ?_⟩
    obtain ⟨gw, rx⟩ := (w1 hlt).2 x H' hy
    obtain ⟨E', s1⟩ := E.grow gw
    have rx := rx xs[i] (List.getElem?_eq_getElem hlt)
    rw [List.drop_eq_getElem_cons hlt] at hc
    unfold compL at hc
    have ra1 := Reps.mono s1.same _ _ ra
    split at hc
    · rename_i y δ2 hfy
      refine hs _ _ x _ δ' H' _ δ2 _ _ E' rx hfy fun w2 H2 σ2 hσ E2 s2 v rv => ?_
      have hw2 := s2.sub D hDw
      refine ⟨accV, at_D E2, Nat.lt_of_le_of_lt (Nat.le_trans hz (Nat.le_trans hi hl)) (by decide), rfl, hlt, w2, δ2, acc ++ [y], accV ++ [v], ?_, hw2, ?_, ?_, by rw [List.length_append, List.length_singleton]; omega, hc⟩
      · have := (E2.wiped vs).chg (o' := .lst (accV ++ [v])) hw2 hD
        rw [hσ] at this
        exact this
      · exact ((sm.trans s1).trans s2).trans (.of (hid_change hw2))
      · exact Reps.mono (hid_change hw2) _ _ (Reps.append (Reps.mono s2.same _ _ ra1) (Reps.cons rv Reps.nil))
    · rename_i δ2 hfy
      refine hs _ _ x _ δ' H' _ δ2 _ _ E' rx hfy fun w2 H2 σ2 hσ E2 s2 => ?_
      refine ⟨rfl, hlt, w2, δ2, acc, accV, ?_, s2.sub D hDw, (sm.trans s1).trans s2, Reps.mono s2.same _ _ ra1, by omega, hc⟩
      have := E2.wiped vs
      rw [hσ] at this
      exact this
    · cases hc
  · have e : i = xs.length := by omega
    subst e
    rw [List.drop_length] at hc
    cases hc
    obtain ⟨lv, lg⟩ := e1.leave hn n sm E
    refine .inl ⟨w2 rfl, hq _ _ _ lv lg ?_⟩
    simp only [Rep]
    exact ⟨D, accV, rfl, hid_of (at_D E) (fun z => by have := (List.mem_filter.mp z).2; simp at this), Reps.mono (hid_sub fun a h => (List.mem_filter.mp h).1) _ _ ra⟩

/-! ### the two forms -/
theorem asD_some {r : RV} {y : D} (h : asD r = some y) : r = .d y := by
  cases r with
  | d x => cases h; rfl
  | own i => cases h
theorem step_comp {vs tg : List Nat} {elt : E} (htg : ∀ i ∈ tg, i ∈ vs) : StepOk X ps σ vs (fun x δ' => (lift (bindC tg x (wipeE δ' vs)) δ').bind fun δ1 _ => (ev T elt δ1).bind fun y δ2 => (lift (asD y) δ2).bind fun y δ => .ok (some y) δ) (gT X.K tg) tYes (tE X T cl EX elt) := by
  intro H0' ows' x d δ H r δ2 KY NX E rx hf k
  simp only at hf
  cases hb : bindC tg d (wipeE δ vs) with
  | none => rw [hb] at hf; cases hf
  | some δ1 =>
    rw [hb] at hf
    simp only [lift, Out.bind] at hf
    cases h1 : ev T elt δ1 with
    | ok y δ3 =>
      rw [h1] at hf
      simp only [Out.bind] at hf
      cases hy : asD y with
      | none => rw [hy] at hf; cases hf
      | some y' =>
        rw [hy] at hf
        cases hf
        cases asD_some hy
        refine bind_ok E rx hb fun σ1 e1 k1 => ⟨?_, ?_⟩
        · rw [k1 vs htg, wipe_idem]
        · show (if true = true then tE X T cl EX elt σ1 H KY else NX H)
          rw [if_pos rfl]
          refine ⟨H0', ps, ows', δ1, e1, ?_⟩
          rw [h1]
          exact fun v w2 H2 e2 s2 rv => k w2 H2 σ1 (by rw [k1 vs htg, wipe_idem]) e2 s2 v rv
    | ex c s => rw [h1] at hf; cases hf
    | no => rw [h1] at hf; cases hf
theorem step_compc {vs tg : List Nat} {c elt : E} (htg : ∀ i ∈ tg, i ∈ vs) : StepOk X ps σ vs (fun x δ' => (lift (bindC tg x (wipeE δ' vs)) δ').bind fun δ1 _ => (ev T c δ1).bind fun t δ2 => (lift (asBl t) δ2).bind fun t δ2 =>
        if t then (ev T elt δ2).bind fun y δ3 => (lift (asD y) δ3).bind fun y δ => .ok (some y) δ else .ok none δ2) (gT X.K tg) (tT X T cl EX c) (tE X T cl EX elt) := by
  intro H0' ows' x d δ H r δ2 KY NX E rx hf k
  simp only at hf
  cases hb : bindC tg d (wipeE δ vs) with
  | none => rw [hb] at hf; cases hf
  | some δ1 =>
    rw [hb] at hf
    simp only [lift, Out.bind] at hf
    cases h0 : ev T c δ1 with
    | ex c s => rw [h0] at hf; cases hf
    | no => rw [h0] at hf; cases hf
    | ok t δt =>
      rw [h0] at hf
      simp only [Out.bind] at hf
      cases ht : asBl t with
      | none => rw [ht] at hf; cases hf
      | some t' =>
        rw [ht] at hf
        simp only [lift, Out.bind] at hf
        refine bind_ok E rx hb fun σ1 e1 k1 => ?_
        have hσ : wipe σ1 vs = wipe σ vs := by rw [k1 vs htg, wipe_idem]
        refine ⟨hσ, H0', ps, ows', δ1, e1, ?_⟩
        unfold evb
        rw [h0]
        simp only [Out.bind]
        rw [ht]
        intro b w2 H2 e2 s2 hb2
        have hb2 : t' = b := hb2
        subst hb2
        cases t' with
        | false =>
          cases hf
          exact k w2 H2 σ1 hσ e2 s2
        | true =>
          rw [if_pos rfl]
          simp only [if_true] at hf
          refine ⟨H0', ps, w2, δt, e2, ?_⟩
          cases h1 : ev T elt δt with
          | ok y δ3 =>
            rw [h1] at hf
            simp only [Out.bind] at hf
            cases hy : asD y with
            | none => rw [hy] at hf; cases hf
            | some y' =>
              rw [hy] at hf
              cases hf
              cases asD_some hy
              exact fun v w3 H3 e3 s3 rv => k w3 H3 σ1 hσ e3 (s2.trans s3) v rv
          | ex c s => rw [h1] at hf; cases hf
          | no => rw [h1] at hf; cases hf
theorem te_lc {vs tg : List Nat} {it : E} {f : D → Env → Out Env (Option D)} {tt : TT} {te : TE} {Q : VK} (e : EnvR (gr X H0 ps) ows σ H δ) (hs : ∀ ps, StepOk X ps σ vs f (gT X.K tg) tt te)
    (h : wpO ⟨gr X H0 ps, σ, cl, EX⟩ ows H ((evi T it δ).bind fun xs δ => if vs.all (notOwn δ) = true ∧ xs.length ≤ big then (compL f xs [] δ).bind fun ys δ' => .ok (.d (.lst ys)) (restE δ δ' vs) else .no) (RvR (gr X H0 ps) σ) Q) :
    tLc (tI X T cl EX it) (gT X.K tg) tt te vs σ H Q := by
  refine ⟨H0, ps, ows, δ, e, wpO.bind' h fun xs δ1 J w1 H1 e1 g1 hw h1 => ?_⟩
  split at h1
  · rename_i hn
    cases hc : compL f xs [] δ1 with
    | ok ys δe =>
      rw [hc] at h1
      exact lc_main hw e1 hn.1 hn.2 hc (hs ps) fun v w' H' er sm rv => h1 v w' H' er sm rv
    | ex c s =>
      exfalso
      have : ∀ (xs acc : List D) (δ : Env), compL f xs acc δ ≠ .ex c s := fun xs => by
        induction xs with
        | nil => intro acc δ q; cases q
        | cons x xs ih =>
          intro acc δ q
          unfold compL at q
          split at q
          · exact ih _ _ q
          · exact ih _ _ q
          · cases q
      exact this _ _ _ hc
    | no => rw [hc] at h1; exact h1.elim
  · exact h1.elim
theorem te_comp {vs tg : List Nat} {it elt : E} {EX' : XS} {Q : VK} (htg : ∀ i ∈ tg, i ∈ vs) (h : tE X T cl EX (.comp vs tg it elt) σ H Q) : tLc (tI X T cl EX it) (gT X.K tg) tYes (tE X T cl EX' elt) vs σ H Q := by
  obtain ⟨H0, ps, ows, δ, e, h⟩ := h
  simp only [ev] at h
  exact te_lc e (fun _ => step_comp htg) h
theorem te_compc {vs tg : List Nat} {it c elt : E} {EX' : XS} {Q : VK} (htg : ∀ i ∈ tg, i ∈ vs) (h : tE X T cl EX (.compc vs tg it c elt) σ H Q) : tLc (tI X T cl EX it) (gT X.K tg) (tT X T cl EX' c) (tE X T cl EX' elt) vs σ H Q := by
  obtain ⟨H0, ps, ows, δ, e, h⟩ := h
  simp only [ev] at h
  exact te_lc e (fun _ => step_compc htg) h
end
end G
/-! G.Ply: players: fields, methods, properties, len, bool, in, == of one's own. -/
namespace G
open PySem PySem.Spec PyProof.Rows L2
/-- what is told of the class -/
structure PlyK (K : PySem.W.Frag) (mg : Str → Option Value) (C : Addr) : Prop where
  pl : plC K = some C
  gl : mg "Player" = some (.ref C)
  kp : PySem.W.keepIn K (.ref C) = true
  cls : Cls K C
  nf : ∀ f ∈ plyNames, NoAttr K C f
  most : ∃ u, Con K C "MOST" (.int 60) u
  cmost : ∃ mc u, ClX.CRead K C mc ∧ ClX.CVal K C mc "MOST" (.int 60) u
  nft : PySem.W.notFirst K C (.type "tuple") = true
  ty : PySem.W.findIn K (.ref C) "__class__" = some (some (.builtin "object.__class__")) ∧ PySem.W.specialIn K (.builtin "object.__class__") "__get__" = some (some (.builtin "getset_descriptor.__get__")) ∧
    PySem.W.takesIn K (.builtin "object.__class__") = some true ∧ PySem.W.mroIn K C (.type "object") = some true
  isi : PySem.W.kitOne K (.ref C) (.ref C) = some true ∧ PySem.W.kitOne K (.type "tuple") (.ref C) = some false
/-- where a method is -/
def MtF (K : PySem.W.Frag) (C : Addr) (m : Str) (a : Addr) : Prop := if propNames.contains m = true then ∃ p, PropOf K C m p a else Meth K C m a
/-- what __init__ promises: its checks pass, the fields stand -/
def spInit (K : PySem.W.Frag) (f : Fn)  : Sp := fun vs H Q _ => ∃ (ows : List Addr) (x dx C : Addr) (r n : G.D) (vr vn : V), vs = [.ref x, vr, vn] ∧ G.Dom ows H ∧ plC K = some C ∧ H x = some (.ins C dx []) ∧ x ∉ ows ∧ Rep K (hid ows H) r vr ∧ Rep K (hid ows H) n vn ∧
  (∃ a os, f [.ro r, .ro n] = .ok a os) ∧ ∀ (H' : Hp) (q : Addr) (vw : V), q ≠ x → H q = none → (∀ a o, a ≠ x → H a = some o → H' a = some o) → H' q = some (.lst []) → H' x = some (.ins C dx (plyFs vr vn vw q)) → Rep K (hid (x :: q :: ows) H') (.tup [.non, .tup []]) vw → Q .non H'
/-- a method, at level k: what it promises -/
def MtAt (P : Program) (w : World) (K : PySem.W.Frag) (mg : Str → Option Value) (base : Heap) (cl : Str → Option Addr) (k : Nat) (m : Str) (n : Nat) (f : Fn) : Prop :=
  ∃ C a, PlyK K mg C ∧ plyNames.contains m = false ∧ (m ≠ ("__init__" : Str) → MtF K C m a ∧ FnR P w K mg base (L2.CX P w) k a (spD P w K cl n f)) ∧ (m = ("play" : Str) → FnR P w K mg base (L2.CX P w) k a (fun vs H Q E => spD P w K cl n f (vs ++ [.int 1]) H Q E)) ∧ (m = ("__init__" : Str) → Mk K C a ∧ FnR P w K mg base (L2.CX P w) k a (spInit K f))
theorem MtAt.mono {P : Program} {w : World} {K : PySem.W.Frag} {mg : Str → Option Value} {base : Heap} {cl : Str → Option Addr} {j k : Nat} {m : Str} {n : Nat} {f : Fn} (h : MtAt P w K mg base cl j m n f) (e : j ≤ k) : MtAt P w K mg base cl k m n f := by
  obtain ⟨C, a, h1, h3, h4, h6, h5⟩ := h
  exact ⟨C, a, h1, h3, fun n => ⟨(h4 n).1, (h4 n).2.mono e⟩, fun n => (h6 n).mono e, fun n => ⟨(h5 n).1, (h5 n).2.mono e⟩⟩
theorem ply_look {m : Str} (h : plyNames.contains m = false) (vr vn vw : V) (q : Addr) : (plyFs vr vn vw q).lookup m = none := by
  unfold plyNames at h
  simp only [List.contains_cons, Bool.or_eq_false_iff] at h
  obtain ⟨h1, h2, h3, h4, _⟩ := h
  unfold plyFs
  rw [List.lookup_cons, h1, List.lookup_cons, h2, List.lookup_cons, h3, List.lookup_cons, h4]
  rfl
def fdV (f : Fd) (vr vn vw : V) : V := match f with
  | .rc => vr
  | .mn => vn
  | .nw => vw
theorem ply_fld (f : Fd) (vr vn vw : V) (q : Addr) : (plyFs vr vn vw q).lookup (fdN f) = some (fdV f vr vn vw) := by
  cases f
  · unfold plyFs fdN fdV
    rw [List.lookup_cons, show ((("record_kept" : Str) == ("record_kept" : Str))) = true from by decide +kernel]
  · unfold plyFs fdN fdV
    rw [List.lookup_cons, show ((("many" : Str) == ("record_kept" : Str))) = false from by decide +kernel, List.lookup_cons, show ((("many" : Str) == ("many" : Str))) = true from by decide +kernel]
  · unfold plyFs fdN fdV
    rw [List.lookup_cons, show ((("now" : Str) == ("record_kept" : Str))) = false from by decide +kernel, List.lookup_cons, show ((("now" : Str) == ("many" : Str))) = false from by decide +kernel, List.lookup_cons, show ((("now" : Str) == ("now" : Str))) = true from by decide +kernel]
theorem ply_past (vr vn vw : V) (q : Addr) : (plyFs vr vn vw q).lookup ("past" : Str) = some (.ref q) := by
  unfold plyFs
  rw [List.lookup_cons, show ((("past" : Str) == ("record_kept" : Str))) = false from by decide +kernel, List.lookup_cons, show ((("past" : Str) == ("many" : Str))) = false from by decide +kernel, List.lookup_cons, show ((("past" : Str) == ("now" : Str))) = false from by decide +kernel, List.lookup_cons, show ((("past" : Str) == ("past" : Str))) = true from by decide +kernel]
theorem fdN_mem (f : Fd) : fdN f ∈ plyNames := by cases f <;> simp [fdN, plyNames]
theorem past_mem : ("past" : Str) ∈ plyNames := by simp [plyNames]

/-! ### the callee's run, nothing let out -/
section
variable {X : Cx} {pins : List (Addr × Obj)} {σ : L2.St} {H : Hp} {s : Shared} {k : Nat} {f : Addr} {sp : Sp} {Q : VK} {us : List Value} {vs : List V} {E : L2.St → XK}
theorem runE {A : Around} (F : FnR X.prog X.w X.K X.mg X.base (L2.CX X.prog X.w) k f sp) (hr : Room k A) (e0 : Env0 X.prog X.w X.K X.mg X.base A X.stack s H) (hx : ∀ e s', L2.CX X.prog X.w X.stack H s (E σ) e s' → X.xe e s') (I : Inv X pins σ H s) (r : Vals vs us) (h : sp vs H Q (E σ)) : wpAny (model X.prog X.w) A (call (.ref f) us) (EP X pins σ Q) X.xe s := by
  refine wpAny_call (codeAny_mono (F A X.stack s H us vs Q (E σ) hr e0 r h) fun r s' hq => ?_)
  cases r with
  | error e => exact hx e s' hq
  | ok fl => cases fl with
    | ret u => exact I.after hq
    | _ => exact hq.elim
theorem run0 {A : Around} (F : FnR X.prog X.w X.K X.mg X.base (L2.CX X.prog X.w) k f sp) (hr : Room k A) (e0 : Env0 X.prog X.w X.K X.mg X.base A X.stack s H) (I : Inv X pins σ H s) (r : Vals vs us) (h : sp vs H Q E0) : wpAny (model X.prog X.w) A (call (.ref f) us) (EP X pins σ Q) X.xe s :=
  runE (E := fun _ => E0) F hr e0 (fun e s' z => passL pins σ H s e s' I z) I r h
theorem ins_at {a C dx : Addr} {fs : List (Str × V)} (I : Inv X pins σ H s) (ea : H a = some (.ins C dx fs)) : ∃ ox od, PySem.W.InstAt s.heap a ox C od := by
  obtain ⟨mA, J, _⟩ := ins_get I.hok ea
  obtain ⟨od, J, _⟩ := J.look
  exact ⟨_, _, J⟩
theorem ins_od {a C dx : Addr} {fs : List (Str × V)} (I : Inv X pins σ H s) (ea : H a = some (.ins C dx fs)) : ∃ ox od, PySem.W.InstAt s.heap a ox C (some od) ∧ True := by
  obtain ⟨mA, J, _⟩ := ins_get I.hok ea
  obtain ⟨od, J, _⟩ := J.look
  exact ⟨_, od, J, trivial⟩
end
/-! ### o.m(..) -/
def tMt (C : Addr) (m : Str) (sp : Sp) (E : L2.St → XK) (ta : TE) (t : TA) : TE := fun σ H Q => ta σ H fun x H1 => ∃ a dx fs, x = .ref a ∧ H1 a = some (.ins C dx fs) ∧ fs.lookup m = none ∧ t σ H1 fun vs H2 => sp (x :: vs) H2 Q (E σ)
section
variable {X : Cx} {k : Nat} {C f : Addr} {m : Str} {sp : Sp} {E : L2.St → XK} {o e : Expr} {es : List Expr} {ta : TE} {t : TA} {apos pos : Pos}
theorem pe_mt1 {pl : Sem Bool} (he : PE X o ta) (c : Cls X.K C) (hm : Meth X.K C m f) (F : FnR X.prog X.w X.K X.mg X.base (L2.CX X.prog X.w) k f sp) (hr : Room k X.A) (hx : ∀ σ, PassesAt (L2.CX X.prog X.w) X σ (E σ)) (ha : PA X (e :: es) t)
    (hst : starEach (e :: es) X.env = (false, eval e X.env) :: starEach es X.env) (hpl : (backTo pos (starEach es X.env)).any (·.1) = false)
    (ht : eval (.Call (.Attribute o m apos) (e :: es) [] pos) X.env = (do let ov ← eval o X.env; standAt apos.atName; let (f, first) ← holding [ov] (getMethod ov m pl); callWith pos f first (backTo pos (starEach (e :: es) X.env)) (backToKw pos (keywordEach [] X.env)))) :
    PE X (.Call (.Attribute o m apos) (e :: es) [] pos) (tMt C m sp E ta t) := ⟨fun pins s σ H Q I h => by
  refine PySem.W.methodCall_KW (pl := pl) (thn (he.run pins s σ H _ I h) fun u s1 ⟨x, H1, I1, rx, a, dx, fs, ex, ea, l, q⟩ => ?_) ht
  subst ex; obtain rfl : u = Value.ref a := rx
  refine getmeth_ok I1 ea c hm l (PySem.W.callWith_K (first := [.ref a]) (h₀ := X.base) I.ok.mod.kin hm.kp (thn (ha.run pos pins s1 σ H1 _ I1 q) fun us s2 ⟨vs, H2, I2, r, q2⟩ => ⟨I2.kIn, ?_⟩) hst hpl)
  exact runE (us := .ref a :: us) (vs := .ref a :: vs) F hr I2.env0 (fun e s' z => hx σ pins H2 s2 e s' I2 z) I2 (.cons rfl r) q2⟩
theorem pe_mt0 {pl : Sem Bool} (he : PE X o ta) (c : Cls X.K C) (hm : Meth X.K C m f) (F : FnR X.prog X.w X.K X.mg X.base (L2.CX X.prog X.w) k f sp) (hr : Room k X.A) (hx : ∀ σ, PassesAt (L2.CX X.prog X.w) X σ (E σ))
    (ht : eval (.Call (.Attribute o m apos) [] [] pos) X.env = (do let ov ← eval o X.env; standAt apos.atName; let (f, first) ← holding [ov] (getMethod ov m pl); callWith pos f first (backTo pos (starEach [] X.env)) (backToKw pos (keywordEach [] X.env)))) :
    PE X (.Call (.Attribute o m apos) [] [] pos) (tMt C m sp E ta tNil) := ⟨fun pins s σ H Q I h => by
  refine PySem.W.methodCall_KW (pl := pl) (thn (he.run pins s σ H _ I h) fun u s1 ⟨x, H1, I1, rx, a, dx, fs, ex, ea, l, q⟩ => ?_) ht
  subst ex; obtain rfl : u = Value.ref a := rx
  exact getmeth_ok I1 ea c hm l (PySem.W.callWith_K0 (first := [.ref a]) I1.kIn hm.kp (runE (us := [.ref a]) (vs := [.ref a]) F hr I1.env0 (fun e s' z => hx σ pins H1 s1 e s' I1 z) I1 (.cons rfl .nil) q))⟩
/-! ### len, bool, in, ==, != -/
def rLenO (C : Addr) (sp : Sp) : List V → Hp → VK → Prop := fun vs H Q => ∃ a dx fs, vs = [.ref a] ∧ H a = some (.ins C dx fs) ∧ sp [.ref a] H (fun v H' => ∃ n : Int, v = .int n ∧ 0 ≤ n ∧ n < 2 ^ 63 ∧ Q (.int n) H') E0
theorem cr_lenO (hm : Meth X.K C "__len__" f) (F : FnR X.prog X.w X.K X.mg X.base (L2.CX X.prog X.w) k f sp) (hr : Room (k + 1) X.A) : CallR X (.builtin "len") (rLenO C sp) := by
  intro pins s σ H xs us Q I r h
  obtain ⟨a, dx, fs, rfl, ea, q⟩ := h
  cases r with
  | @cons _ u0 _ ur ra rw' =>
    cases rw'
    obtain rfl : u0 = Value.ref a := ra
    obtain ⟨ox, od, J⟩ := ins_at I ea
    obtain ⟨mf, hF⟩ := I.fr
    refine PySem.W.len_K hF I.ok.mod.kin J hm.at_ hm.fn (wpAny_mono (run0 (us := [.ref a]) (vs := [.ref a]) F hr.in1 I.env0.in1 I (.cons rfl .nil) q) (fun u s' ⟨v, H', I', rv, n, ev, n0, n1, qn⟩ => ?_) fun _ _ z => z)
    subst ev
    obtain ⟨t, rfl⟩ := rv
    exact ⟨⟨n0, n1⟩, .int n, H', I'.tok _, ⟨_, rfl⟩, qn⟩
def rBoolO (C : Addr) (sp : Sp) : List V → Hp → VK → Prop := fun vs H Q => ∃ a dx fs, vs = [.ref a] ∧ H a = some (.ins C dx fs) ∧ sp [.ref a] H (fun v H' => ∃ b : Bool, v = .bl b ∧ Q (.bl b) H') E0
theorem bool_in {P : Program} {w : World} (a : Addr) : MeetsIn P w (Builtin.«bool.__new__» ⟨[.type "bool", .ref a], []⟩) (fun A R s => wpAny (model P w) A.in1 (truthy (.ref a)) (fun b s' => R (.ok (.ret (.bool b))) s') (fun e s' => R (.error e) s') s) :=
  .of_wp fun A R s h => by
    unfold Builtin.«bool.__new__»
    refine wpAny_bind (wpAny_of_eq (a := true) (by rfl) ?_)
    refine PySem.W.KFB.if_not rfl (wpAny_bind (wpAny_of_eq (a := true) F.conv_sub_bool ?_))
    refine PySem.W.KFB.if_not rfl (wpAny_bind (wpAny_of_eq (a := [.ref a]) (by rfl) ?_))
    exact wpAny_bind (wpAny_mono h (fun b s' q => wpAny_pure ⟨_, rfl, q⟩) fun _ _ z => z)
theorem cr_boolO (hm : Meth X.K C "__bool__" f) (F : FnR X.prog X.w X.K X.mg X.base (L2.CX X.prog X.w) k f sp) (hr : Room (k + 2) X.A) : CallR X (.type "bool") (rBoolO C sp) := by
  intro pins s σ H xs us Q I r h
  obtain ⟨a, dx, fs, rfl, ea, q⟩ := h
  cases r with
  | @cons _ u0 _ ur ra rw' =>
    cases rw'
    obtain rfl : u0 = Value.ref a := ra
    obtain ⟨ox, od, J⟩ := ins_at I ea
    obtain ⟨mf, hF⟩ := I.fr
    refine callType_newIn PySem.F.called_bool PySem.F.newNe_bool (PySem.F.typeCall_bool_1 _) (PySem.F.newCall_bool_1 _) (fun obj => PySem.F.args_object_init_2 obj _) PySem.F.entry_bool_new (bool_in a) ?_
    refine PySem.W.truthy_K hF I.ok.mod.kin J hm.at_ hm.fn (wpAny_mono (run0 (us := [.ref a]) (vs := [.ref a]) F hr.in1.in1 I.env0.in1.in1 I (.cons rfl .nil) q) (fun u s' ⟨v, H', I', rv, b, ev, qb⟩ => ?_) fun _ _ z => z)
    subst ev
    cases rv
    exact ⟨PySem.typeIs_bool _ _, .bl b, H', I', rfl, qb⟩
/-- y in o -/
def rInO (C : Addr) (sp : Sp) : R2 := fun x y H Q => ∃ a dx fs, y = .ref a ∧ H a = some (.ins C dx fs) ∧ sp [.ref a, x] H (fun v H' => ∃ b : Bool, v = .bl b ∧ Q (.bl b) H') E0
theorem op_inO (hm : Meth X.K C "__contains__" f) (F : FnR X.prog X.w X.K X.mg X.base (L2.CX X.prog X.w) k f sp) (hr : Room k X.A) : OpR X (compareOp .In) (rInO C sp) := by
  intro pins s σ H x y v u Q I rx ry h
  obtain ⟨a, dx, fs, rfl, ea, q⟩ := h
  obtain rfl : u = Value.ref a := ry
  obtain ⟨ox, od, J⟩ := ins_at I ea
  obtain ⟨mf, hF⟩ := I.fr
  refine PySem.W.in_K hF I.ok.mod.kin J hm.at_ hm.fn (wpAny_mono (run0 (us := [.ref a, v]) (vs := [.ref a, x]) F hr I.env0 I (.cons rfl (.cons rx .nil)) q) (fun w s' ⟨z, H', I', rz, b, ez, qb⟩ => ?_) fun _ _ z => z)
  subst ez
  cases rz
  exact wpAny_truthy_bool ⟨.bl b, H', I', rfl, qb⟩
/-- o == y, y a tuple or a player -/
def rEqO (K : PySem.W.Frag) (C : Addr) (sp : Sp) : R2 := fun x y H Q => ∃ a dx fs, x = .ref a ∧ H a = some (.ins C dx fs) ∧ ((∃ b ys, y = .ref b ∧ SqT K H b ys) ∨ ∃ b dy gs, y = .ref b ∧ H b = some (.ins C dy gs)) ∧ sp [.ref a, y] H (fun v H' => ∃ b : Bool, v = .bl b ∧ Q (.bl b) H') E0
theorem op_eqO (pk : PlyK X.K X.mg C) (hm : Meth X.K C "__eq__" f) (F : FnR X.prog X.w X.K X.mg X.base (L2.CX X.prog X.w) k f sp) (hr : Room k X.A) : OpR X (compareOp .Eq) (rEqO X.K C sp) := by
  intro pins s σ H x y v u Q I rx ry h
  obtain ⟨a, dx, fs, rfl, ea, hy, q⟩ := h
  obtain rfl : v = Value.ref a := rx
  obtain ⟨ox, od, J⟩ := ins_at I ea
  obtain ⟨mf, hF⟩ := I.fr
  have ty : ∃ tb, PySem.W.Looks (model X.prog X.w) s.heap (typeOf u) tb ∧ PySem.W.notFirst X.K C tb = true := by
    rcases hy with ⟨b, ys, rfl, hb⟩ | ⟨b, dy, gs, rfl, hb⟩
    · obtain rfl : u = Value.ref b := ry
      obtain ⟨its, _, p, _⟩ := I.tuple hb
      obtain ⟨o, ho, hc, _⟩ := p
      exact ⟨_, (PySem.W.Looks.ld ho).andThen (hc ▸ PySem.W.Looks.now), pk.nft⟩
    · obtain rfl : u = Value.ref b := ry
      obtain ⟨_, _, J'⟩ := ins_at I hb
      exact ⟨_, J'.type, by simp [PySem.W.notFirst]⟩
  obtain ⟨tb, hl, hn⟩ := ty
  refine PySem.W.cmp_K (op := .Eq) (tb := tb) hr.units0 hF I.ok.mod.kin J hl hn hm.at_ hm.fn (wpAny_mono (run0 (us := [.ref a, u]) (vs := [.ref a, y]) F hr I.env0 I (.cons rfl (.cons ry .nil)) q) (fun w s' ⟨z, H', I', rz, b, ez, qb⟩ => ?_) fun _ _ z => z)
  subst ez
  cases rz
  exact ⟨.bl b, H', I', rfl, qb⟩
/-- o.p, a property -/
theorem pe_propR {p a : Addr} (c : Cls X.K C) (hp : PropOf X.K C m p a) (F : FnR X.prog X.w X.K X.mg X.base (L2.CX X.prog X.w) k a sp) (hr : Room (k + 1) X.A) (he : PE X e ta) (hab : attributeBase e m X.env (eval e X.env) = eval e X.env) : PE X (.Attribute e m pos) (tProp C sp [] E0 ta) := ⟨fun pins s σ H Q I h => by
  refine attr_of hab (thn (he.run pins s σ H _ I h) fun u s1 ⟨x, H1, I1, rx, b, dx, fs, ex, ea, q⟩ => ?_)
  subst ex; obtain rfl : u = Value.ref b := rx
  obtain ⟨ox, od, J⟩ := ins_at I1 ea
  obtain ⟨rest, hrec⟩ := hp.rec_
  have I2 : Inv X pins σ H1 { s1 with toks := s1.toks + 1 } := I1.tok (s1.toks + 1)
  have ic : (PySem.W.clsIn X.K C).isSome = true := by obtain ⟨cd, hc, _⟩ := PySem.W.any_some c.hd; rw [hc]; rfl
  refine PySem.W.get_bind I1.kIn (ins_od I1 ea).choose_spec.choose_spec.1 (PySem.W.plainGet_of (c.get m)).1 (PySem.W.findObj_data ic hp.at_ hp.get hp.tak) (PySem.W.plainGet_of (c.get m)).2 (wpAny_call (PySem.W.prop_get (s := { s1 with toks := s1.toks + 1 }) I1.kIn hrec (codeAny_mono (F X.A.in1 X.stack { s1 with toks := s1.toks + 1 } H1 [.ref b] [.ref b] Q E0 hr.in1 I2.env0.in1 (.cons rfl .nil) q) fun r s' hq => ?_)))
  cases r with
  | error er => exact False.elim (passL (X := X.nox) pins σ H1 { s1 with toks := s1.toks + 1 } er s' (I2.wish _) hq)
  | ok fl => cases fl with
    | ret w =>
      obtain ⟨v, H', I3, rv, q3⟩ := I2.after hq
      exact wpAny_of_eq (PySem.W.handedOut_of (handed_of rv)) ⟨v, H', I3, rv, q3⟩
    | _ => exact hq.elim⟩
end
theorem mt_eval {o : Expr} {m : Str} {apos pos : Pos} {args : List Expr} {env : PySem.Env} (hf : methodCallForm (args.length + ([] : List Keyword).length) (backTo pos (starEach args env)) (backToKw pos (keywordEach [] env)) = true) (hl : (apos.endLine == pos.line) = true) (hb : attributeBase o m env (eval o env) = eval o env) :
    eval (.Call (.Attribute o m apos) args [] pos) env = (do let ov ← eval o env; standAt apos.atName; let (f, first) ← holding [ov] (getMethod ov m (do return (← importBound o env).getD true)); callWith pos f first (backTo pos (starEach args env)) (backToKw pos (keywordEach [] env))) := by
  rw [arm_eval_Call]
  show ((attributeBase o m env (eval o env)) >>= fun ov => standAt apos.atName >>= fun _ => methodCall o m apos pos env ov (args.length + ([] : List Keyword).length) (backTo pos (starEach args env)) (backToKw pos (keywordEach [] env))) = _
  have hp : methodCallPos true o env apos pos = pure pos := by unfold methodCallPos; simp [hl]
  unfold methodCall
  rw [hb, hf, hp]
  rfl
theorem mt_form {l : List Expr} {pos : Pos} {env : PySem.Env} (h : (backTo pos (starEach l env)).any (·.1) = false) (hn : l.length < 30) : methodCallForm (l.length + ([] : List Keyword).length) (backTo pos (starEach l env)) (backToKw pos (keywordEach [] env)) = true := by
  unfold methodCallForm
  have e : (backTo pos (starEach l env)).all (fun x => !x.1) = true := by
    rw [List.all_eq_not_any_not]
    simp only [Bool.not_not]
    rw [h]; rfl
  rw [e]
  show (true && (([] : List (Option Str × Sem Value)).all _) && decide (l.length + 0 + 0 < 30)) = true
  simp; omega
end G
/-! G.PlyE: readings of expressions about players. -/
namespace G
open PySem L2
theorem plyA_some {δ : Env} {i : Nat} {r n w : D} {ps : List D} (h : plyA δ i = some (r, n, w, ps)) : ∃ p, δ[i]? = some (.ow p (.ply r n w ps)) := by
  unfold plyA at h
  split at h
  · rename_i p r' n' w' ps' hi
    cases h
    exact ⟨p, hi⟩
  · cases h
theorem isPly_some {δ : Env} {i : Nat} (h : isPly δ i = true) : ∃ r n w ps, plyA δ i = some (r, n, w, ps) := by
  unfold isPly at h
  obtain ⟨⟨r, n, w, ps⟩, e⟩ := Option.isSome_iff_exists.mp h
  exact ⟨r, n, w, ps, e⟩
/-- a player in its slot -/
structure PlyAt (K : PySem.W.Frag) (ows : List Addr) (σ : L2.St) (H : Hp) (i : Nat) (C : Addr) (r n w : D) (ps : List D) (a dx : Addr) (vr vn vw : V) (q : Addr) (vs : List V) : Prop where
  at_ : σ[i]? = some (some (.ref a))
  ins : H a = some (.ins C dx (plyFs vr vn vw q))
  rr : Rep K (hid ows H) r vr
  rn : Rep K (hid ows H) n vn
  rw_ : Rep K (hid ows H) w vw
  past : H q = some (.lst vs)
  rp : Reps K (hid ows H) ps vs
theorem ply_at {g : Gr} {ows : List Addr} {σ : L2.St} {H : Hp} {δ : Env} {i : Nat} {r n w : D} {ps : List D} {mg : Str → Option Value} {C : Addr} (pk : PlyK g.K mg C) (e : EnvR g ows σ H δ) (h : plyA δ i = some (r, n, w, ps)) :
    ∃ a dx vr vn vw q vs, PlyAt g.K ows σ H i C r n w ps a dx vr vn vw q vs := by
  obtain ⟨p, hi⟩ := plyA_some h
  obtain ⟨a, h1, _, C', dx, vr, vn, vw, q, vs, k0, k1, k2, k3, k4, k5, k6⟩ := e.slot i _ hi
  rw [pk.pl] at k0
  cases k0
  exact ⟨a, dx, vr, vn, vw, q, vs, h1, k1, k2, k3, k4, k5, k6⟩
section
variable {X : Cx} {T : List Fn} {cl : Str → Option Addr} {EX : XS} {ows : List Addr} {σ : L2.St} {H : Hp} {δ : Env} {C : Addr} {Q : VK}
theorem te_fld (pk : PlyK X.K X.mg C) {f : Fd} {i : Nat} (h : tE X T cl EX (.fld f i) σ H Q) : tFld X.K (tVar i) (fdN f) σ H Q := by
  obtain ⟨H0, ps, ows, δ, e, h⟩ := h
  simp only [ev] at h
  obtain ⟨z, hz, h2⟩ := wpO.lift h
  unfold fldR at hz
  split at hz
  · rename_i r n w l hp
    cases hz
    obtain ⟨a, dx, vr, vn, vw, q, vs, P⟩ := ply_at (g := gr X H0 ps) pk e hp
    refine ⟨.ref a, P.at_, a, C, dx, _, _, rfl, P.ins, pk.cls, pk.nf _ (fdN_mem f), ply_fld f vr vn vw q, ?_⟩
    refine (fin_of e h2).same ?_
    cases f
    · exact P.rr
    · exact P.rn
    · exact P.rw_
  · cases hz
/-- o.past, the list itself -/
theorem te_past (pk : PlyK X.K X.mg C) {H0 : Hp} {ps : Ps} {i : Nat} {r n w : D} {l : List D} (e : EnvR (gr X H0 ps) ows σ H δ) (hp : plyA δ i = some (r, n, w, l)) (k : ∀ q vs, H q = some (.lst vs) → Reps X.K (hid ows H) l vs → Q (.ref q) H) : tFld X.K (tVar i) "past" σ H Q := by
  obtain ⟨a, dx, vr, vn, vw, q, vs, P⟩ := ply_at (g := gr X H0 ps) pk e hp
  exact ⟨.ref a, P.at_, a, C, dx, _, _, rfl, P.ins, pk.cls, pk.nf _ past_mem, ply_past vr vn vw q, k q vs P.past P.rp⟩
theorem te_plen (pk : PlyK X.K X.mg C) {i : Nat} (h : tE X T cl EX (.plen i) σ H Q) : tCB (rCD X.K (bltv .len)) (tCons (tFld X.K (tVar i) "past") tNil) σ H Q := by
  obtain ⟨H0, ps, ows, δ, e, h⟩ := h
  simp only [ev] at h
  obtain ⟨z, hz, h2⟩ := wpO.lift h
  unfold plenR at hz
  split at hz
  · rename_i r n w l hp
    cases hz
    exact te_past pk e hp fun q vs h1 h3 => ⟨ows, [.lst l], _, e.dom, ⟨.ref q, [], rfl, .inr ⟨q, l, vs, rfl, rfl, h1, h3⟩, rfl⟩, rfl, fin_of e h2⟩
  · cases hz
theorem te_pemp (pk : PlyK X.K X.mg C) {i : Nat} (h : tE X T cl EX (.pemp i) σ H Q) : tOp (rCN X.prog X.w X.K .eq) (tFld X.K (tVar i) "past") (tLst tNil) σ H Q := by
  obtain ⟨H0, ps, ows, δ, e, h⟩ := h
  simp only [ev] at h
  obtain ⟨z, hz, h2⟩ := wpO.lift h
  unfold pempR at hz
  split at hz
  · rename_i r n w l hp
    refine te_past pk e hp fun q vs h1 h3 => ⟨Nat.zero_le _, fun p np => ?_⟩
    have e1 := e.new (o := .lst []) np
    have nq : q ≠ p := ne_of_none h1 np
    have n2 := (e.fresh np).2
    refine .inl ⟨ows, .lst l, .lst [], z, e1.dom, .inr ⟨q, l, vs, rfl, rfl, by rw [upd_ne nq]; exact h1, Reps.mono (hid_new np) _ _ h3⟩, .inl ?_, hz, ?_⟩
    · simp only [Rep]
      exact ⟨p, [], rfl, hid_of upd_same n2, Reps.nil⟩
    · exact fin_of e1 (wpO.from (.of (hid_new np)) h2)
  · cases hz
theorem te_pmost (pk : PlyK X.K X.mg C) {i : Nat} (h : tE X T cl EX (.pmost i) σ H Q) : tCon X.K (tVar i) "MOST" σ H Q := by
  obtain ⟨H0, ps, ows, δ, e, h⟩ := h
  simp only [ev] at h
  obtain ⟨z, hz, h2⟩ := wpO.lift h
  unfold pmostR at hz
  split at hz
  · rename_i x hp
    obtain ⟨r, n, w, l⟩ := x
    cases hz
    obtain ⟨a, dx, vr, vn, vw, q, vs, P⟩ := ply_at (g := gr X H0 ps) pk e hp
    obtain ⟨u, hu⟩ := pk.most
    exact ⟨.ref a, P.at_, a, C, dx, _, _, u, rfl, P.ins, pk.cls, hu, ply_look (by decide +kernel) vr vn vw q, (fin_of e h2).int⟩
  · cases hz
theorem te_cmost (pk : PlyK X.K X.mg C) (h : tE X T cl EX .cmost σ H Q) : ClX.tCVal X.K (tC (.ref C)) "MOST" σ H Q := by
  obtain ⟨H0, ps, ows, δ, e, h⟩ := h
  simp only [ev] at h
  obtain ⟨mc, u, h1, h2⟩ := pk.cmost
  exact ⟨C, mc, _, u, rfl, h1, h2, (fin_of e h).int⟩
theorem te_isply (pk : PlyK X.K X.mg C) {i : Nat} (h : tE X T cl EX (.isply i) σ H Q) : tCB (rIsi X.K) (tCons (tVar i) (tCons (tC (.ref C)) tNil)) σ H Q := by
  obtain ⟨H0, ps, ows, δ, e, h⟩ := h
  simp only [ev] at h
  obtain ⟨z, hz, h2⟩ := wpO.lift h
  unfold isplyR at hz
  split at hz
  · rename_i b r n w l hi
    cases hz
    obtain ⟨a, dx, vr, vn, vw, q, vs, P⟩ := ply_at (g := gr X H0 ps) pk e (by unfold plyA; rw [hi])
    exact ⟨.ref a, P.at_, .ref a, .ref C, .ref C, .ref C, true, rfl, .own C, .base (.ins P.ins pk.cls pk.ty.1 pk.ty.2.1 pk.ty.2.2.1 pk.ty.2.2.2), pk.isi.1, (fin_of e h2).bl⟩
  · rename_i xs hi
    cases hz
    obtain ⟨v, h1, h3⟩ := e.slot i _ hi
    have h3 : Rep X.K (hid ows H) (.tup xs) v := h3
    simp only [Rep] at h3
    obtain ⟨a, us, rfl, hq, _⟩ := h3
    refine ⟨.ref a, h1, .ref a, .ref C, .type "tuple", .ref C, false, rfl, .own C, ?_, pk.isi.2, (fin_of e h2).bl⟩
    rcases Same.sqT (hid_same _ _) hq with (hq | ⟨o, hq⟩) | ⟨o, its, n, k1, k2, _⟩
    · exact .base (.tup hq)
    · exact .fTuple hq
    · exact .kTuple k1 k2
  · cases hz
/-! ### calls of methods -/
/-- the promise, where nothing is let out -/
theorem callR_ok0 {g : Gr} {k : Nat} {f : Fn} {n : Nat} {rs : List RV} {vs : List V} {r : Rt} {δ2 : Env} (hf : T[k]? = some f) (hl : vs.length = n) (e : EnvR g ows σ H δ) (rx : RvRs g σ ows H rs vs) (hr : callR T k rs δ = .ok r δ2)
    (h : wpC ⟨g, σ, cl, fun _ => E0⟩ ows H (.ok r δ2) Q) : spD g.P g.w g.K cl n f vs H Q E0 :=
  callR_ok (W := ⟨g, σ, cl, fun _ => E0⟩) hf hl e rx (by rw [hr]; exact h)
theorem te_mcall (pk : PlyK X.K X.mg C) {k i : Nat} {es : E} {f : Fn} {m : Str} (hm : plyNames.contains m = false) (hf : T[k]? = some f) (h : tE X T cl EX (.mcall k i es) σ H Q) : tMt C m (spD X.prog X.w X.K cl (lenE es + 1) f) EX (tVar i) (tEs X T cl EX es) σ H Q := by
  obtain ⟨H0, ps, ows, δ, e, h⟩ := h
  simp only [ev] at h
  split at h
  · rename_i hp
    obtain ⟨r, n, w, l, hp⟩ := isPly_some hp
    obtain ⟨a, dx, vr, vn, vw, q, us, P⟩ := ply_at (g := gr X H0 ps) pk e hp
    refine ⟨.ref a, P.at_, a, dx, _, rfl, P.ins, ply_look hm vr vn vw q, H0, ps, ows, δ, e, (wpO.bind h).imp fun vs H2 ⟨rs, δ2, w2, q2, e2, s2, rx, h2⟩ => ?_⟩
    refine callR_ok (W := ⟨gr X H0 ps, σ, cl, EX⟩) hf (by rw [List.length_cons, rvrs_len rx, evs_len q2]) e2 (rs := .own i :: rs) ⟨.ref a, vs, rfl, P.at_, rx⟩ ?_
    exact wpC.dat (W := ⟨gr X H0 ps, σ, cl, EX⟩) e2.psub h2 fun z δ' w' H' v er sm rv h' => ok_now er h' rv
  · exact h.elim
theorem te_play0 (pk : PlyK X.K X.mg C) {k i : Nat} {f : Fn} {m : Str} (hm : plyNames.contains m = false) (hf : T[k]? = some f) (h : tE X T cl EX (.play0 k i) σ H Q) : tMt C m (fun vs H Q E => spD X.prog X.w X.K cl 2 f (vs ++ [.int 1]) H Q E) EX (tVar i) tNil σ H Q := by
  obtain ⟨H0, ps, ows, δ, e, h⟩ := h
  simp only [ev] at h
  split at h
  · rename_i hp
    obtain ⟨r, n, w, l, hp⟩ := isPly_some hp
    obtain ⟨a, dx, vr, vn, vw, q, us, P⟩ := ply_at (g := gr X H0 ps) pk e hp
    refine ⟨.ref a, P.at_, a, dx, _, rfl, P.ins, ply_look hm vr vn vw q, ?_⟩
    refine callR_ok (W := ⟨gr X H0 ps, σ, cl, EX⟩) hf rfl e (rs := [.own i, .d (.int 1)]) ⟨.ref a, [.int 1], rfl, P.at_, .int 1, [], rfl, by simp only [RvR, Rep], rfl⟩ ?_
    exact wpC.dat (W := ⟨gr X H0 ps, σ, cl, EX⟩) e.psub h fun z δ' w' H' v er sm rv h' => ok_now er h' rv
  · exact h.elim
theorem te_prop (pk : PlyK X.K X.mg C) {k i : Nat} {f : Fn} (hf : T[k]? = some f) (h : tE X T cl EX (.prop k i) σ H Q) : tProp C (spD X.prog X.w X.K cl 1 f) [] E0 (tVar i) σ H Q := by
  obtain ⟨H0, ps, ows, δ, e, h⟩ := h
  simp only [ev] at h
  split at h
  · rename_i hp
    obtain ⟨r, n, w, l, hp⟩ := isPly_some hp
    obtain ⟨a, dx, vr, vn, vw, q, us, P⟩ := ply_at (g := gr X H0 ps) pk e hp
    obtain ⟨t, δ2, hr, h2⟩ := wpO.noex h
    refine ⟨.ref a, P.at_, a, dx, _, rfl, P.ins, ?_⟩
    refine callR_ok0 (g := gr X H0 ps) (rs := [.own i]) hf rfl e ⟨.ref a, [], rfl, P.at_, rfl⟩ hr ?_
    cases qd : t.dat with
    | none => rw [qd] at h2; exact h2.elim
    | some z =>
      rw [qd] at h2
      refine wpC.dat (W := ⟨gr X H0 ps, σ, cl, fun _ => E0⟩) (o := .ok t δ2) (R := RvR (gr X H0 ps) σ) (Q2 := Q) (f := fun z δ => Out.ok (RV.d z) δ) e.psub ?_ fun z δ' w' H' v er sm rv h' => h' v w' H' er .refl (show RvR _ _ _ _ (.d z) v from rv)
      show wpO _ _ _ ((lift t.dat δ2).bind fun z δ => Out.ok (RV.d z) δ) _ _
      rw [qd]
      exact h2
  · exact h.elim
theorem te_olen (pk : PlyK X.K X.mg C) {k i : Nat} {f : Fn} (hf : T[k]? = some f) (h : tE X T cl EX (.olen k i) σ H Q) : tCB (rLenO C (spD X.prog X.w X.K cl 1 f)) (tCons (tVar i) tNil) σ H Q := by
  obtain ⟨H0, ps, ows, δ, e, h⟩ := h
  simp only [ev] at h
  split at h
  · rename_i hp
    obtain ⟨r, n, w, l, hp⟩ := isPly_some hp
    obtain ⟨a, dx, vr, vn, vw, q, us, P⟩ := ply_at (g := gr X H0 ps) pk e hp
    obtain ⟨t, δ2, hr, h2⟩ := wpO.noex h
    obtain ⟨z, hz, h3⟩ := wpO.lift h2
    refine ⟨.ref a, P.at_, a, dx, _, rfl, P.ins, ?_⟩
    refine callR_ok0 (g := gr X H0 ps) (rs := [.own i]) hf rfl e ⟨.ref a, [], rfl, P.at_, rfl⟩ hr ?_
    unfold rtI at hz
    split at hz
    · split at hz <;> cases hz
      rename_i hb
      intro v w' H' er sm rv
      simp only [Rep] at rv
      refine ⟨_, rv, hb.1, Int.lt_of_le_of_lt hb.2 (by decide), ?_⟩
      exact h3 _ w' H' er sm (by simp only [RvR, Rep])
    · cases hz
  · exact h.elim
theorem rtB_some {r : Rt} {b : Bool} (h : rtB r = some b) : r = .d (.bl b) := by
  unfold rtB at h
  split at h
  · cases h; rfl
  · cases h
theorem te_obool (pk : PlyK X.K X.mg C) {k i : Nat} {f : Fn} (hf : T[k]? = some f) (h : tE X T cl EX (.obool k i) σ H Q) : tCB (rBoolO C (spD X.prog X.w X.K cl 1 f)) (tCons (tVar i) tNil) σ H Q := by
  obtain ⟨H0, ps, ows, δ, e, h⟩ := h
  simp only [ev] at h
  split at h
  · rename_i hp
    obtain ⟨r, n, w, l, hp⟩ := isPly_some hp
    obtain ⟨a, dx, vr, vn, vw, q, us, P⟩ := ply_at (g := gr X H0 ps) pk e hp
    obtain ⟨t, δ2, hr, h2⟩ := wpO.noex h
    obtain ⟨z, hz, h3⟩ := wpO.lift h2
    cases rtB_some hz
    refine ⟨.ref a, P.at_, a, dx, _, rfl, P.ins, ?_⟩
    refine callR_ok0 (g := gr X H0 ps) (rs := [.own i]) hf rfl e ⟨.ref a, [], rfl, P.at_, rfl⟩ hr fun v w' H' er sm rv => ?_
    simp only [Rep] at rv
    exact ⟨z, rv, h3 _ w' H' er sm (by simp only [RvR, Rep])⟩
  · exact h.elim
theorem te_oin (pk : PlyK X.K X.mg C) {k i : Nat} {a : E} {f : Fn} (hf : T[k]? = some f) (h : tE X T cl EX (.oin k a i) σ H Q) : tOp (rInO C (spD X.prog X.w X.K cl 2 f)) (tE X T cl EX a) (tVar i) σ H Q := by
  obtain ⟨H0, ps, ows, δ, e, h⟩ := h
  simp only [ev] at h
  refine ⟨H0, ps, ows, δ, e, (wpO.bind h).imp fun x H1 ⟨r1, δ1, w1, _, e1, s1, rx, h1⟩ => ?_⟩
  split at h1
  · rename_i hp
    obtain ⟨r, n, w, l, hp⟩ := isPly_some hp
    obtain ⟨a, dx, vr, vn, vw, q, us, P⟩ := ply_at (g := gr X H0 ps) pk e1 hp
    obtain ⟨t, δ2, hr, h2⟩ := wpO.noex h1
    obtain ⟨z, hz, h3⟩ := wpO.lift h2
    cases rtB_some hz
    refine ⟨.ref a, P.at_, a, dx, _, rfl, P.ins, ?_⟩
    refine callR_ok0 (g := gr X H0 ps) (rs := [.own i, r1]) hf rfl e1 ⟨.ref a, [x], rfl, P.at_, x, [], rfl, rx, rfl⟩ hr fun v w' H' er sm rv => ?_
    simp only [Rep] at rv
    exact ⟨z, rv, h3 _ w' H' er sm (by simp only [RvR, Rep])⟩
  · exact h1.elim
theorem te_oeq (pk : PlyK X.K X.mg C) {k i : Nat} {a : E} {f : Fn} (hf : T[k]? = some f) (h : tE X T cl EX (.oeq k i a) σ H Q) : tOp (rEqO X.K C (spD X.prog X.w X.K cl 2 f)) (tVar i) (tE X T cl EX a) σ H Q := by
  obtain ⟨H0, ps, ows, δ, e, h⟩ := h
  simp only [ev] at h
  split at h
  · rename_i hp
    obtain ⟨r, n, w, l, hp⟩ := isPly_some hp
    obtain ⟨a0, dx, vr, vn, vw, q, us, P⟩ := ply_at (g := gr X H0 ps) pk e hp
    refine ⟨.ref a0, P.at_, H0, ps, ows, δ, e, (wpO.bind h).imp fun x H1 ⟨r1, δ1, w1, _, e1, s1, rx, h1⟩ => ?_⟩
    split at h1
    · rename_i hq
      rw [Bool.and_eq_true] at hq
      obtain ⟨hq1, hq2⟩ := hq
      obtain ⟨r', n', w', l', hp'⟩ := isPly_some hq1
      obtain ⟨a, dx', vr', vn', vw', q', us', P'⟩ := ply_at (g := gr X H0 ps) pk e1 hp'
      have ea : a0 = a := by have := P.at_.symm.trans P'.at_; simpa using this
      subst ea
      obtain ⟨t, δ2, hr, h2⟩ := wpO.noex h1
      obtain ⟨z, hz, h3⟩ := wpO.lift h2
      cases rtB_some hz
      refine ⟨a0, dx', _, rfl, P'.ins, ?_, ?_⟩
      · unfold eqArg at hq2
        split at hq2
        · rename_i xs _
          have rx : Rep X.K (hid w1 H1) (.tup xs) x := rx
          simp only [Rep] at rx
          obtain ⟨b, ys, rfl, hb, _⟩ := rx
          exact .inl ⟨b, ys, rfl, Same.sqT (hid_same _ _) hb⟩
        · rename_i j _
          obtain ⟨r3, n3, w3, l3, hp3⟩ := isPly_some hq2
          obtain ⟨b, dy, _, _, _, _, _, P3⟩ := ply_at (g := gr X H0 ps) pk e1 hp3
          have rx : σ[j]? = some (some x) := rx
          rw [P3.at_] at rx
          cases rx
          exact .inr ⟨b, dy, _, rfl, P3.ins⟩
        · cases hq2
      · refine callR_ok0 (g := gr X H0 ps) (rs := [.own i, r1]) hf rfl e1 ⟨.ref a0, [x], rfl, P'.at_, x, [], rfl, rx, rfl⟩ hr fun v w' H' er sm rv => ?_
        simp only [Rep] at rv
        exact ⟨z, rv, h3 _ w' H' er sm (by simp only [RvR, Rep])⟩
    · exact h1.elim
  · exact h.elim
/-! ### list(o.lines()) -/
def lineV (i : Int) : V := .str ((Str.ofString "turn ") ++ ((toString i : String) : Str))
/-- what the generator hands out -/
def spLines (K : PySem.W.Frag) : SpG := fun vs H Q _ => ∃ (a C dx : Addr) (fs : List (Str × V)) (t1 t2 : Addr) (x : V) (is : List Int), vs = [.ref a] ∧ H a = some (.ins C dx fs) ∧ plC K = some C ∧ fs.lookup ("now" : Str) = some (V.ref t1) ∧ SqT K H t1 [x, .ref t2] ∧ SqT K H t2 (is.map V.int) ∧
  (∀ i ∈ is, i.natAbs < 2 ^ 1900) ∧ is.length < sizeLine ∧ Q (is.map lineV) H
theorem lines_rep {K : PySem.W.Frag} {H : Hp} : ∀ is : List Int, Reps K H (lineS (Str.ofString "turn ") is) (is.map lineV)
  | [] => Reps.nil
  | i :: r => by
    unfold lineS
    rw [List.map_cons]
    exact Reps.cons (by unfold lineV; simp only [Rep]) (lines_rep r)
theorem te_plist (pk : PlyK X.K X.mg C) {i : Nat} (h : tE X T cl EX (.plist i) σ H Q) : tListG (tMethG C "lines" (spLines X.K) [] E0 (tVar i) tNil) σ H Q := by
  obtain ⟨H0, ps, ows, δ, e, h⟩ := h
  simp only [ev] at h
  obtain ⟨z, hz, h2⟩ := wpO.lift h
  unfold plistR at hz
  split at hz
  · rename_i r n y ts l hp
    split at hz
    · rename_i is hi
      split at hz <;> cases hz
      rename_i hb
      rw [Bool.and_eq_true, decide_eq_true_eq] at hb
      obtain ⟨a, dx, vr, vn, vw, q, vs, P⟩ := ply_at (g := gr X H0 ps) pk e hp
      have hw := P.rw_
      simp only [Rep, Reps] at hw
      obtain ⟨t1, us, rfl, s1, v1, r1, rfl, _, v2, r2, rfl, ⟨t2, ws, rfl, s2, g2⟩, rfl⟩ := hw
      have s2' := Same.sqT (hid_same _ _) s2
      rw [reps_ints g2 hi] at s2'
      refine ⟨.ref a, P.at_, a, dx, _, rfl, P.ins, ply_look (by decide +kernel) vr vn (.ref t1) q, a, C, dx, _, t1, t2, v1, is, rfl, P.ins, pk.pl, ply_fld .nw vr vn (.ref t1) q, Same.sqT (hid_same _ _) s1, s2', fun j hj => ?_, ?_, fun p np => ?_⟩
      · exact of_decide_eq_true (List.all_eq_true.mp hb.1 j hj)
      · exact Nat.lt_of_lt_of_le hb.2 big_line
      · exact Fin.lst (fin_of e h2) e.dom (lines_rep is) p np
    · cases hz
  · cases hz
end
end G
/-! G.Lam: a lambda that is made and called at once; of all tables the maker's own alone is written. -/
namespace G
open PySem PySem.Spec PyProof.Rows L2 LamX
/-- all but the object at P stays -/
def ExtP (P : Addr) (H H' : Hp) : Prop := ∀ b o, b ≠ P → H b = some o → H' b = some o
/-- behind the making: each code object of the table is new or was in it -/
def TabN (H H1 : Hp) (P : Addr) (q : Str) : Prop := ∃ t, H1 P = some (.tbl t) ∧ TriplesOk t.toList ∧ ∀ (pos : Pos) (cv : Value), codeAmong pos t.toList = some cv → ∃ c, cv = .ref c ∧ H1 c = some (CodeO c q) ∧ (H c = none ∨ ∃ t0 pos0, H P = some (.tbl t0) ∧ codeAmong pos0 t0.toList = some (.ref c))
abbrev lq (X : Cx) : Str := X.env.qual ++ "<lambda>"
section
variable {X : Cx} {pins : List (Addr × Obj)} {σ : L2.St} {H : Hp} {s : Shared}
abbrev lobj (X : Cx) (params : Arguments) (body : Expr) (scope : Scope) (pm : Value) (c' : Addr) (ctv : Value) : Obj :=
  PySem.W.kla_obj "<lambda>" (lq X) params body scope (cloFrom X.env.cells scope.names []) pm c' ctv
theorem mk_lam {c P : Addr} {params : Arguments} {body : Expr} {scope : Scope} {pos : Pos} {E Q : Value → Shared → Prop} (I : Inv X pins σ H s) (TB : TabB X.base X.mg c P) (code : X.env.code = .ref c)
    (hT : TabS H P (lq X)) (df : defaultsOf params X.env = ([], [])) (fr : ∀ y ∈ scope.names, y.2 = .free → ∃ c, X.env.cells.lookup y.1 = some c)
    (k : ∀ (f c' : Addr) (pm ctv : Value) (H1 : Hp) (s' : Shared), Inv X pins σ H1 s' → ExtP P H H1 → TabN H H1 P (lq X) → s'.heap.get? f = some (lobj X params body scope pm c' ctv) → H1 f = none → f ∉ frs X.stack → H1 c' = some (CodeO c' (lq X)) → Q (.ref f) s') :
    wpAny (model X.prog X.w) X.A (eval (.Lambda params body scope pos) X.env) Q E s := by
  obtain ⟨ps, tP, tok, tnm⟩ := hT
  refine PySem.W.kla_eval df ?_
  have gP : s.heap.get? P = some { cls := .none, data := .fields ps } := I.hok P _ tP
  have bb : s.heap.BuiltinsAt X.mg P := TB.bm.keeps I.bk
  have nst : ∀ f, s.heap.objs.size ≤ f → f ∉ frs X.stack := fun f hf z => by
    rcases List.mem_cons.mp (I.stkSub _ z) with e | e
    · have lt := I.lt
      exact Nat.lt_irrefl _ (Nat.lt_of_lt_of_le lt (e ▸ hf))
    · exact absurd e fun z2 => I.nofs hf z2
  cases hc : codeAmong pos ps.toList with
  | some cv =>
    obtain ⟨c', rfl, hco⟩ := tnm pos cv hc
    refine PySem.W.kla_makeFunctionHit (mg := X.mg) (c := c) (P := P) (ps := ps) (closure_ok fr) I.ok.glob (I.mod.glob.keeps I.bk) code (TB.code.keeps I.bk) gP tok hc bb fun ctv h' tk kp sz => ?_
    have J : Inv X pins σ H { s with heap := h'.push (lobj X params body scope ((X.mg "__name__").getD .none) c' ctv), toks := tk } := I.kept fun b o e => Heap.get?_push_of_some _ (kp b o e)
    exact k h'.objs.size c' _ ctv H _ J (fun _ _ _ e => e) ⟨ps, tP, tok, fun pos' cv' hc' => by obtain ⟨c1, e1, e2⟩ := tnm pos' cv' hc'; exact ⟨c1, e1, e2, .inr ⟨ps, pos', tP, by rw [hc', e1]⟩⟩⟩ (Heap.get?_push_size _ rfl) (I.hok.fresh sz) (nst _ sz) hco
  | none =>
    refine PySem.W.kla_makeFunction (mg := X.mg) (c := c) (P := P) (ps := ps) (closure_ok fr) I.ok.glob (I.mod.glob.keeps I.bk) code (TB.code.keeps I.bk) gP tok hc TB.gP bb fun c' ctv h' tk kp ge lt hrec htb => ?_
    obtain ⟨c2, oc, vs, t, e0, ho, hd, hv⟩ := hrec
    cases e0
    have sz : s.heap.objs.size ≤ h'.objs.size := Nat.le_trans ge (Nat.le_of_lt lt)
    have nC : H c' = none := I.hok.fresh ge
    have nPC : P ≠ c' := ne_of_none tP nC
    have J := inv_table (t' := tk) (more := #[rawInt pos.line, rawInt pos.col, .ref c']) (h' := h'.push (lobj X params body scope ((X.mg "__name__").getD .none) c' ctv)) (q := lq X) I tP
      (fun b o hb e => Heap.get?_push_of_some _ (kp b o hb e)) (Heap.get?_push_of_some _ htb) ge ⟨oc, vs, t, Heap.get?_push_of_some _ ho, hd, hv⟩
    have ext : ExtP P H (upd (upd H P (.tbl (ps ++ #[rawInt pos.line, rawInt pos.col, .ref c']))) c' (CodeO c' (lq X))) := fun b o hb e => by
      rw [upd_ne (ne_of_none e nC), upd_ne hb]
      exact e
    have app : (ps ++ #[rawInt pos.line, rawInt pos.col, .ref c']).toList = ps.toList ++ [rawInt pos.line, rawInt pos.col, .ref c'] := by simp
    refine k h'.objs.size c' _ ctv _ _ J ext ⟨_, by rw [upd_ne nPC, upd_same], by rw [app]; exact PySem.TriplesOk_snoc _ _ _ _ tok, fun p' cv hcv => ?_⟩ (Heap.get?_push_size _ rfl) ?_ (nst _ sz) upd_same
    · rw [app] at hcv
      rcases among_app _ tok hcv with z | z
      · obtain ⟨c0, e1, e2⟩ := tnm p' cv z
        refine ⟨c0, e1, ext _ _ (fun z => ?_) e2, .inr ⟨ps, p', tP, by rw [z, e1]⟩⟩
        rw [z, tP] at e2
        exact codeO_ne ps (Option.some.inj e2).symm
      · exact ⟨c', z, upd_same, .inl nC⟩
    · have a1 : h'.objs.size ≠ c' := Nat.ne_of_gt lt
      have a2 : h'.objs.size ≠ P := Nat.ne_of_gt (Nat.lt_of_lt_of_le (Heap.lt_size gP) sz)
      rw [upd_ne a1, upd_ne a2]
      exact I.hok.fresh sz
/-- x(lambda: body): what it asks -/
def tLamP (X : Cx) (P : Addr) (TT : (XK → Hp → VK → Prop) → Hp → VK → Prop) (t : XK → TE) : TE := fun σ H Q => TabS H P (lq X) ∧ ∀ H1, ExtP P H H1 → TabN H H1 P (lq X) → TT (fun E H' Q' => t E σ H' Q') H1 Q
theorem pe_lamP {TT : (XK → Hp → VK → Prop) → Hp → VK → Prop} {x a : Str} {g c P : Addr} {k : Nat} {pg : Arguments} {bg : List Stmt} {sg : Scope} {dV kV doc pm cdv ct oc : Value} {an od : Option Addr} {osl : Array (Option Value)} {Ng : List Str}
    {params : Arguments} {body : Expr} {scope : Scope} {t : XK → TE} {p lpos pos : Pos} (hg : Gl X x) (hm : X.mg x = some (.ref g)) (hk : PySem.W.keepIn X.K (.ref g) = true)
    (lk : X.K.lookup g = some ⟨oc, od, .func (PySem.W.fnOf x x pg bg sg dV kV doc pm an cdv ct), osl⟩) (cg : PySem.W.codeIn X.K cdv x = true) (hb : L2.Binds X.K (PySem.W.fnOf x x pg bg sg dV kV doc pm an cdv ct) [a] []) (Sg : FnScope Ng [a] sg) (n0 : Ng[0]? = some a) (va : L2.Vis sg a)
    (gv : GivesTo X Ng x sg g cdv bg a (lq X) TT) (TB : TabB X.base X.mg c P) (code : X.env.code = .ref c) (hr : Room (k + 2) X.A) (L : LamS X.env.scope scope) (df : defaultsOf params X.env = ([], []))
    (bind0 : ∀ (q : Str) (cl : List (Str × Addr)) (pm cv ctv : Value), bindArgs (PySem.W.kla_fn "<lambda>" q params body scope cl pm cv ctv) ⟨[], []⟩ = pure [])
    (inner : ∀ (A : Around) (outer : List PySem.Env) (s : Shared) (H : Hp) (E : XK) (f c' : Addr), Room k (A.deeper (lamEnv X scope s.heap.objs.size f c')) → PE (lamCx X A outer s H E scope f c') body (t E))
    (d1 : (x == ("__debug__" : Str)) = false) (d2 : (a == ("__debug__" : Str)) = false) (d3 : (a == ("__classdict__" : Str)) = false) :
    PE X (.Call (.Name x p) [.Lambda params body scope lpos] [] pos) (tLamP X P TT t) := by
  refine ⟨fun pins s σ H Q I ⟨tab, h⟩ => wpAny_Call_Name_kw (ld_glob I hg hm (PySem.W.callWith_K (h₀ := X.base) I.ok.mod.kin hk ?_ (by rfl) (by rfl)) d1)⟩
  show wpAny _ _ (spliced ((false, eval (.Lambda params body scope lpos) X.env) :: backTo pos (starEach [] X.env))) _ _ s
  refine Calls.spliced_cons (mk_lam I TB code tab df (L.has I.ok) fun f c' pm' ctv H1 s' J ex tab1 of nf nfr hco => Calls.spliced_nil ⟨J.kIn, ?_⟩)
  refine wpAny_call (codeAny_mono (R := CR C8.CX0 X.stack X.prog X.w H1 s' Q C8.E0) ?_ fun r s2 hq => ?_)
  · refine run_ofS (N := Ng) (ps := [a]) (us := [.ref f]) (vs := [.ref f]) lk cg Sg hr J.env0 (hb s' [.ref f] J.kIn rfl) (.cons rfl .nil) rfl fun hr' => ?_
    obtain ⟨t', pt, qt⟩ := gv f c' s' H1 Q (fun E H' Q' => t E σ H' Q') (fun W pn xe E p1 p2 tk hW => pe_act (i := 0) J L of nf nfr (bind0 _ _ _ _ _) tk hW hr' (fun A outer s H hr2 => inner A outer s H E f c' hr2) n0 va d2 d3) hco (h H1 ex tab1)
    exact ⟨t', pt.nox, qt⟩
  · cases r with
    | error e => exact (show False from hq).elim
    | ok fl => cases fl with
      | ret u => exact J.after hq
      | _ => exact False.elim hq
end
end G
/-! G.Word: the def that calls a lambda and tells the error's word. -/
namespace G
open PySem L2 LamX
/-- the clauses: a class, the word that is stored -/
def isHds (sg : Scope) (f : Str) : List (Str × Str) → List ExceptHandler → Bool
  | [], [] => true
  | (e, w) :: ws, .ExceptHandler (some (.Name e' _)) none [.Assign [.Name f' _] (.Constant (.str w') _ _) _] _ :: hs => decide (e = e') && decide (f = f') && decide (w = w') && glB sg e && okName e && isHds sg f ws hs
  | _, _ => false
def isWord (sg : Scope) (a f : Str) (ws : List (Str × Str)) : List Stmt → Bool
  | [.Assign [.Name f1 _] (.Constant (.str w0) _ _) _, .Try [.Expr (.Call (.Name a' _) [] [] _) _] (h :: hs) [] [] _, .Return (some (.Name f2 _)) _] =>
    decide (f = f1) && decide (f = f2) && decide (a = a') && decide (w0 = Str.ofString "") && isHds sg f ws (h :: hs)
  | _ => false
/-- the word that is told of an exception of this class -/
def wordOf (K : PySem.W.Frag) (cl : Str → Option Addr) (q : Str → Prop) (cls : Value) : List (Str × Str) → Prop
  | [] => False
  | (e, w) :: r => ∃ C b, cl e = some C ∧ PySem.W.exmOne K cls (.ref C) = some b ∧ (b = true → q w) ∧ (b = false → wordOf K cl q cls r)
def TTw (K : PySem.W.Frag) (cl : Str → Option Addr) (ws : List (Str × Str)) : (XK → Hp → VK → Prop) → Hp → VK → Prop := fun tl H Q =>
  tl (fun cls _ H' => wordOf K cl (fun w => Q (.str w) H') cls ws) H (fun _ H' => Q (.str (Str.ofString "")) H')
theorem ps_len {X : Cx} {st : Stmt} {t : TS} (h : PS X st t) : PS X st (fun D σ H => σ.length = X.N.length → t D σ H) := ⟨fun pins s σ H D I q => h.run pins s σ H D I (q I.len)⟩
abbrev tsW (w : Str) : Addr → Value → Option Addr → TS := fun _ _ _ D σ H => σ.length = 2 → tAsg (tC (.str w)) (gName 1) D σ H
theorem ps_word {Z : Cx} {a f : Str} (hN : Z.N = [a, f]) (nd : Z.N.Nodup) (loc : Loc Z.env.scope f) (hfn : Z.fn f = true) {w : Str} {j : Nat} {p1 p2 p3 : Pos} : PS Z (.Assign [.Name f p1] (.Constant (.str w) j p2) p3) (fun D σ H => σ.length = 2 → tAsg (tC (.str w)) (gName 1) D σ H) := by
  have h : PS Z (.Assign [.Name f p1] (.Constant (.str w) j p2) p3) (tAsg (tC (.str w)) (gName 1)) := ps_set nd (by rw [hN]; rfl) loc pe_str (by rfl) (.inl hfn)
  refine ⟨fun pins s σ H D I q => (ps_len h).run pins s σ H D I fun hlen => q ?_⟩
  rw [hlen, hN]; rfl
theorem hds_ok {Z : Cx} {a f : Str} {cl : Str → Option Addr} (hN : Z.N = [a, f]) (nd : Z.N.Nodup) (loc : Loc Z.env.scope f) (hfn : Z.fn f = true) (hcl : ∀ e C, cl e = some C → Z.mg e = some (.ref C)) : ∀ (ws : List (Str × Str)) (hs : List ExceptHandler), (∀ p ∈ ws, ∃ C, cl p.1 = some C) → isHds Z.env.scope f ws hs = true →
    ∃ l, HdsOk Z hs l ∧ ∀ (D : Ends) (cls : Value) (d : Option Addr) (σ : L2.St) (H : Hp), wordOf Z.K cl (fun w => ∀ a, H a = none → tsW w a cls d D σ H) cls ws → wMany Z.K (fun _ _ _ _ => False) D l cls d σ H
  | [], [], _, _ => ⟨[], .nil, fun _ _ _ _ _ h => h⟩
  | [], _ :: _, _, h => by simp [isHds] at h
  | _ :: _, [], _, h => by simp [isHds] at h
  | (e, w) :: ws, hd :: hs, hc, h => by
    unfold isHds at h
    split at h <;> first | contradiction | skip
    rename_i q1 q2
    cases q1
    cases q2
    simp only [Bool.and_eq_true, decide_eq_true_eq] at h
    obtain ⟨⟨⟨⟨⟨rfl, rfl⟩, rfl⟩, h4⟩, h5⟩, h6⟩ := h
    obtain ⟨l, hl, hw⟩ := hds_ok hN nd loc hfn hcl ws _ (fun p hp => hc p (List.mem_cons_of_mem _ hp)) h6
    obtain ⟨C, eC⟩ := hc (e, w) List.mem_cons_self
    refine ⟨(.ref C, tsW w) :: l, .cons ⟨?_, (okN h5).1, .inl (hcl e C eC)⟩ (fun a oe cls d pn _ _ => pss_one ?_) hl, fun D cls d σ H hwo => ?_⟩
    · unfold glB at h4
      split at h4
      · assumption
      · cases h4
    · exact ps_word (Z := Z.suite a ((a, oe) :: pn)) hN nd loc hfn
    · obtain ⟨C', b, e1, e2, e3, e4⟩ := hwo
      have e1 : cl e = some C' := e1
      rw [eC] at e1
      cases e1
      exact ⟨b, e2, fun hb => e3 hb, fun hb => hw D cls d σ H (e4 hb)⟩
theorem wordOf_imp {K : PySem.W.Frag} {cl : Str → Option Addr} {q q' : Str → Prop} {cls : Value} : ∀ {ws : List (Str × Str)}, wordOf K cl q cls ws → (∀ w, q w → q' w) → wordOf K cl q' cls ws
  | [], h, _ => h
  | _ :: _, ⟨C, b, h1, h2, h3, h4⟩, k => ⟨C, b, h1, h2, fun e => k _ (h3 e), fun e => wordOf_imp (h4 e) k⟩
theorem word_gives {X : Cx} {Ng : List Str} {x a f q : Str} {sg : Scope} {g : Addr} {cdg : Value} {cl : Str → Option Addr} {ws : List (Str × Str)} {bg : List Stmt} (hN : Ng = [a, f]) (nd : Ng.Nodup) (loc : Loc sg f) (hcl : ∀ e C, cl e = some C → X.mg e = some (.ref C)) (hw : ∀ p ∈ ws, ∃ C, cl p.1 = some C)
    (h : isWord sg a f ws bg = true) (hd : (f == ("__debug__" : Str)) = false) (hcd : (f == ("__classdict__" : Str)) = false) : GivesTo X Ng x sg g cdg bg a q (TTw X.K cl ws) := by
  intro fa c' s H Q tl act hc hq
  unfold isWord at h
  split at h <;> first | contradiction | skip
  simp only [Bool.and_eq_true, decide_eq_true_eq] at h
  obtain ⟨⟨⟨⟨rfl, rfl⟩, rfl⟩, rfl⟩, hh⟩ := h
  let Z : Cx := (cxOf C8.CX0 X.prog X.w X.K X.mg X.base Ng x sg g cdg X.A X.stack s H C8.E0).nox
  have zN : Z.N = [a, f] := hN
  have znd : Z.N.Nodup := nd
  have zfn : Z.fn f = true := rfl
  obtain ⟨l, hl, lw⟩ := hds_ok (Z := Z) (cl := cl) zN znd loc zfn hcl ws _ hw hh
  have ret : ∀ p p', PS Z (.Return (some (.Name f p)) p') (tRet (tVar 1)) := fun p p' => ps_ret (X := Z) (pe_var (X := Z) (i := 1) (x := f) (by rw [zN]; rfl) (by rcases loc with z | z; exact .inl z; exact .inr (.inl z)) hd hcd)
  refine ⟨_, pss_cons (ps_word zN znd loc zfn) (pss_cons (ps_try_many (X := Z) (Wout := fun _ _ _ _ => False)
    (tb := fun W D σ H => ∃ Ech : XK, (∀ cls d σ' H', Ech cls d H' → W cls d σ' H') ∧ σ[0]? = some (some (.ref fa)) ∧ H c' = some (CodeO c' q) ∧ tl Ech H (fun _ H' => D.nx σ H'))
    rfl rfl takes_none5 (fun W pn xe tk _ => pss_one ⟨fun pins s' σ H' D I h' => ?_⟩) hl) (pss_one (ret _ _))), fun _ => ?_⟩
  · obtain ⟨Ech, hW, h1, h2, h3⟩ := h'
    exact (ps_expr (act W pn xe Ech _ _ tk hW)).run pins s' σ H' D I ⟨h1, h2, h3⟩
  · refine ⟨fun cls _ H' => wordOf X.K cl (fun w => Q (.str w) H') cls ws, fun cls d σ' H' hwo => lw _ cls d σ' H' (wordOf_imp hwo fun w hq a _ hlen => ?_), ?_, hc, ?_⟩
    · exact ⟨.str w, List.getElem?_set_self (by rw [hlen]; decide), hq⟩
    · rw [hN]; rfl
    · refine cast (congrArg (tl _ H) ?_) hq
      funext v H'
      rw [hN]
      exact propext ⟨fun z => ⟨_, rfl, z⟩, fun ⟨v, e, z⟩ => by cases e; exact z⟩
end G
/-! G.Try: a call in a lambda, the word of its error: against the slots. -/
namespace G
open PySem L2 LamX
theorem EnvR.ext {g : Gr} {ows : List Addr} {σ : St} {H H1 : Hp} {δ : G.Env} {P : Addr} {t : Array Value} (e : EnvR g ows σ H δ) (hP : P ∈ g.ps) (h0 : g.H0 P = some (.tbl t)) (x : ExtP P H H1) (n : TabN H H1 P lawQ) :
    EnvR g ows σ H1 δ ∧ GrwS ows H ows H1 := by
  have pow := e.psub P hP
  have sm : Same (hid ows H) (hid ows H1) := fun a o h => by
    unfold hid at h ⊢
    split at h
    · cases h
    · rename_i na
      rw [if_neg na]
      exact x a o (fun z => na (by rw [z]; exact pow)) h
  have eq : ∀ a ∈ ows, a ≠ P → H1 a = H a := fun a ha hne => by
    cases q : H a with
    | none => exact absurd q (e.dom a ha)
    | some o => exact x a o hne q
  have eqf : ∀ {i : Nat} {p : Bool} {o : Ob} {a c : Addr}, δ[i]? = some (Sl.ow p o) → σ[i]? = some (some (.ref a)) → c ∈ foot H a → H1 c = H c := fun {i p o a c} hi ha hc =>
    eq c ((e.own hi ha).1 c hc).1 fun z => e.noTab hi ha hP h0 (by rw [← z]; exact hc)
  obtain ⟨t1, n1, n2, n3⟩ := n
  have tb := e.tab P hP t h0
  have tP : TabH ows H1 P := by
    refine ⟨t1, n1, n2, fun pos cv hc => ?_⟩
    obtain ⟨c, e1, e2, e3⟩ := n3 pos cv hc
    refine ⟨c, e1, hid_of e2 fun hco => ?_⟩
    rcases e3 with e3 | ⟨t0, pos0, e3, e4⟩
    · exact e.dom c hco e3
    · obtain ⟨t2, k1, k2, k3⟩ := tb
      rw [k1] at e3
      cases e3
      obtain ⟨c2, k4, k5⟩ := k3 pos0 _ e4
      cases k4
      unfold hid at k5
      rw [if_pos hco] at k5
      cases k5
  refine ⟨⟨e.len, fun a u ha q => x a u (fun z => ha (by rw [z]; exact hP)) (e.base a u ha q), e.psub, fun a ha => ?_, fun i s q => ?_, fun i j p o q u y z hij h1 h2 h3 h4 c hc => ?_, e.par, fun P' hP' t' ht' => ?_, e.need⟩, .of sm⟩
  · by_cases hne : a = P
    · rw [hne, n1]; exact fun z => nomatch z
    · rw [eq a ha hne]; exact e.dom a ha
  · refine (e.slot i s q).keep (fun _ h => h) sm fun a c ha ⟨p, o, z⟩ hc => ?_
    subst z
    exact eqf q ha hc
  · rw [foot_eq (eqf h1 h3 foot_self)] at hc
    rw [foot_eq (eqf h2 h4 foot_self)]
    exact e.inj i j p o q u y z hij h1 h2 h3 h4 c hc
  · by_cases hne : P' = P
    · rw [hne]; exact tP
    · exact (e.tab P' hP' t' ht').mono (eq P' (e.psub P' hP') hne) sm
theorem TabH.tabS {ows : List Addr} {H : Hp} {P : Addr} (h : TabH ows H P) : TabS H P lawQ := by
  obtain ⟨t, h1, h2, h3⟩ := h
  refine ⟨t, h1, h2, fun pos cv hc => ?_⟩
  obtain ⟨c, e1, e2⟩ := h3 pos cv hc
  exact ⟨c, e1, hid_same _ _ _ _ e2⟩
/-- which class is which: leaf classes of the module -/
def Leafs (K : PySem.W.Frag) (cl : Str → Option Addr) (ws : List (Str × Str)) : Prop := (∀ p ∈ ws, ∃ C, cl p.1 = some C) ∧ ∀ (x : Str) (C : Addr), (ws.lookup x).isSome → cl x = some C → ∀ p ∈ ws, ∀ C', cl p.1 = some C' → PySem.W.exmOne K (.ref C) (.ref C') = some (decide (x = p.1))
theorem wordOf_leaf {K : PySem.W.Frag} {cl : Str → Option Addr} {q : Str → Prop} {x u : Str} {C : Addr} (hC : cl x = some C) : ∀ (ws : List (Str × Str)), (∀ p ∈ ws, ∃ C', cl p.1 = some C') → (∀ p ∈ ws, ∀ C', cl p.1 = some C' → PySem.W.exmOne K (.ref C) (.ref C') = some (decide (x = p.1))) →
    ws.lookup x = some u → q u → wordOf K cl q (.ref C) ws
  | [], _, _, h, _ => by simp at h
  | (e, w) :: r, h1, h2, h, hq => by
    obtain ⟨C', hC'⟩ := h1 (e, w) List.mem_cons_self
    refine ⟨C', decide (x = e), hC', h2 (e, w) List.mem_cons_self C' hC', fun hb => ?_, fun hb => ?_⟩
    · have hb : x = e := of_decide_eq_true hb
      subst hb
      simp at h
      rw [h]; exact hq
    · have hb : x ≠ e := of_decide_eq_false hb
      have h' : r.lookup x = some u := by
        rw [List.lookup_cons] at h
        rw [show (x == e) = false from beq_eq_false_iff_ne.2 hb] at h
        exact h
      exact wordOf_leaf hC r (fun p hp => h1 p (List.mem_cons_of_mem _ hp)) (fun p hp => h2 p (List.mem_cons_of_mem _ hp)) h' hq
theorem rv_str {g : Gr} {ows : List Addr} {σ : L2.St} {H : Hp} {u : Str} : RvR g σ ows H (.d (.str u)) (.str u) := by
  unfold RvR
  simp only [Rep]
theorem te_try {X : Cx} {T : List Fn} {cl : Str → Option Addr} {EX : XS} {σ : L2.St} {H : Hp} {Q : VK} {k : Nat} {es : G.E} {ws : List (Str × Str)} (hn : lamN ∈ X.N) (hq : lq X = lawQ) (lf : Leafs X.K cl ws)
    (h : ∃ H0 ps ows δ, EnvR (gr X H0 ps) ows σ H δ ∧ wpO ⟨gr X H0 ps, σ, cl, EX⟩ ows H (tryO ws ((evs T es δ).bind fun rs δ => callR T k rs δ)) (RvR (gr X H0 ps) σ) Q) :
    ∃ P, tabP X.K X.mg X.base P ∧ tLamP X P (TTw X.K cl ws) (fun E => tC0 X T cl (fun _ => E) k es) σ H Q := by
  obtain ⟨H0, ps, ows, δ, e, h⟩ := h
  obtain ⟨P, hP, ⟨t, ht⟩, tp⟩ := e.need (decide_eq_true hn)
  refine ⟨P, tp, by rw [hq]; exact (e.tab P hP t ht).tabS, fun H1 x1 n1 => ?_⟩
  rw [hq] at n1
  obtain ⟨e1, s1⟩ := e.ext hP ht x1 n1
  have h := wpO.from (W := ⟨gr X H0 ps, σ, cl, EX⟩) s1 h
  refine ⟨H0, ps, ows, δ, e1, ?_⟩
  cases hr : (evs T es δ).bind fun rs δ => callR T k rs δ with
  | ok r δ' =>
    rw [hr] at h
    cases r with
    | d y => exact fun v w' H' e2 s2 _ => h (.str (Str.ofString "")) w' H' e2 s2 rv_str
    | fr o => exact fun p w' H' e2 s2 np no => h (.str (Str.ofString "")) w' H' e2 s2 rv_str
  | ex c δ' =>
    rw [hr] at h
    simp only [tryO] at h
    intro w' H' cv d e2 s2 ⟨C, c1, c2, _⟩
    split at h
    · rename_i u hu
      rw [c2]
      exact wordOf_leaf c1 ws lf.1 (lf.2 c.c C (by rw [hu]; rfl) c1) hu (h (.str u) w' H' e2 s2 rv_str)
    · exact h.elim
  | no =>
    rw [hr] at h
    exact h.elim
end G
/-! G.Err: error objects as values. -/
namespace G
open PySem PySem.Spec PySem.Calls PyProof.Rows L2
/-! ### isinstance -/
section
variable {pr : Program} {wd : World} {Ar : Around} {Ex : Value → Shared → Prop} {z : Shared} {F : PySem.W.Frag} {y B : Addr} {oy : Obj} {oo : Option Obj}
theorem find_cls {B : Addr} (c : ExcC F B) : PySem.W.findObj F B oo "__class__" = some (.bind (.builtin "getset_descriptor.__get__") (.builtin "object.__class__")) := by
  obtain ⟨cd, hc, _⟩ := PySem.W.any_some c.hd
  unfold PySem.W.findObj; rw [hc, Option.bind_some, c.ha, Option.bind_some]; simp [c.hn, c.ht]
/-- e.__class__, with a dict of its own or without -/
theorem cls_of {G : Option Value → Shared → Prop} (c : ExcC F B) (X : F.In z.heap) (I : PySem.W.InstAt z.heap y oy B oo) (h : G (some (.ref B)) { z with toks := z.toks + 1 }) : wpAny (model pr wd) Ar (getAttr? (.ref y) "__class__") G Ex z := by
  have hf := find_cls (oo := oo) c
  obtain ⟨hp, g, d, t, os⟩ := z
  have l0 := I.type (M := model pr wd); have l1 := PySem.W.looks_findIn (M := model pr wd) X c.hg; have l2 := PySem.W.looks_findIn (M := model pr wd) X c.hk; have l3 := PySem.W.looks_find (M := model pr wd) X I hf
  have su : PySem.W.Looks (model pr wd) hp (isInstance (.ref y) (.type "BaseException")) true := l0.andThen (PySem.W.looks_subIn X c.hs)
  have ne : (Value.builtin "BaseException.__getattribute__" == Value.builtin "object.__getattribute__") = false := by decide +kernel
  have n1 : (onTheHeap (Value.ref B) && Value.builtin "BaseException.__getattribute__" == Value.builtin "object.__getattribute__") = false := by rw [ne]; rfl
  unfold getAttr? getAttrBy? getAttrBy; refine wpAny_bind (wpAny_mkText (wpAny_bind (wpAny_attempt (wpAny_holding (wpAny_bind (l0.at (wpAny_bind (l1.at ?_))))))))
  show wpAny _ _ (if (onTheHeap (Value.ref B) && Value.builtin "BaseException.__getattribute__" == Value.builtin "object.__getattribute__") = true then _ else _) _ _ _
  rw [n1, if_neg Bool.false_ne_true]; unfold getAttrByItsOwn hookBefore
  refine wpAny_bind ?_; rw [if_pos (show onTheHeap (Value.ref B) = true from rfl)]
  refine l2.at (wpAny_bind (wpAny_attempt (wpAny_holding ?_)))
  unfold callGetattribute; rw [show (false && onTheHeap (Value.builtin "BaseException.__getattribute__")) = false from rfl, if_neg Bool.false_ne_true]
  unfold boundAndCalled; rw [PySem.F.excAttr_ValueError.ga.bind (.ref y)]
  refine wpAny_bind (wpAny_pure ?_); show wpAny _ _ (call (.builtin "BaseException.__getattribute__") [.ref y, .str "__class__" t]) _ _ _
  refine wpAny_call (codeAny_call_builtin PySem.F.excAttr_ValueError.ga.plain PySem.F.entry_bexc_ga (@PySem.W.check_slot (model pr wd) _ _ ⟨hp, g, d, t + 1, os⟩ "BaseException.__getattribute__" "BaseException" "__getattribute__" (.ref y) [.str "__class__" t] [] _ (by decide +kernel) (by decide +kernel) su (PySem.F.args_bexc_ga (.ref y) (.str "__class__" t)) ?_))
  unfold Builtin.«object.__getattribute__»; refine wpAny_bind (wpAny_of_eq (a := ((Value.ref y : Value), [Value.str "__class__" t])) (by first | rfl | (simp only [slotArgs]; rfl)) ?_)
  refine wpAny_bind (wpAny_pure (wpAny_bind (l0.at (wpAny_bind (l3.at ?_))))); show wpAny _ _ (holding [Value.builtin "object.__class__"] (call (.builtin "getset_descriptor.__get__") [.builtin "object.__class__", .ref y, .ref B]) >>= ret) _ _ _
  refine wpAny_bind (wpAny_holding (wpAny_call (PySem.W.class_get (s := ⟨hp, g, d, t + 1, os⟩) (ox := oy) (od := oo) X I c.hm (wpAny_pure ?_))))
  show wpAny _ _ (handedOut (.ref B)) _ _ _; rw [PySem.W.handedOut_of (v := .ref B) rfl]
  first
    | exact wpAny_pure (wpAny_pure h)
    | exact wpAny_pure h
    | exact wpAny_pure (wpAny_bind (wpAny_pure (wpAny_pure h)))
theorem kit_err (c : ExcC F B) : PySem.W.KitX F (.ref y) (.ref B) (fun h => ∃ oy oo, PySem.W.InstAt h y oy B oo) := by
  obtain ⟨cd, hc, _⟩ := PySem.W.any_some c.hd
  have lk : ∃ c' d' cd' sl', F.lookup B = some ⟨c', d', .cls cd', sl'⟩ := by
    unfold PySem.W.clsIn at hc
    split at hc
    · rename_i ho; exact ⟨_, _, _, _, ho⟩
    · cases hc
  obtain ⟨c', d', cd', sl', ho⟩ := lk
  refine ⟨fun _ _ _ ⟨_, _, I⟩ => I.type, fun M h X _ => fun A' Q' E' s' k q => ?_, fun h tp dd its n sl X htp => Bool.eq_false_iff.mpr fun q => ?_, fun X ⟨_, _, I⟩ k => cls_of c X I k⟩
  · unfold isType loadHead; exact wpAny_bind (wpAny_loadPart (k _ _ (X _ _ ho)) (wpAny_pure q))
  · have e : B = tp := Value.ref.inj (beq_iff_eq.mp q)
    subst e
    have z := (X _ _ ho).symm.trans htp
    cases z
end
/-- an error object's own object -/
theorem err_inst {P : Program} {w : World} {H : Hp} {h : Heap} {c : Str} {C a : Addr} {i : Option Int} (ok : HOk P w H h) (e : ErrO H c C a i) : ∃ oy oo, PySem.W.InstAt h a oy C oo := by
  cases i with
  | none =>
    obtain ⟨⟨oe, vs, ho, hz, hd, _⟩, _, _⟩ := ok a _ (show H a = some (ExO (.ref C) a) from e)
    obtain ⟨oc, od, oda, osl⟩ := oe
    obtain ⟨h1, h2⟩ := hz
    dsimp only at h1 h2 hd
    subst h1 h2 hd
    exact ⟨_, none, ho, rfl, rfl, trivial⟩
  | some v =>
    obtain ⟨f, dx, hf, ha, hx⟩ := e
    obtain ⟨t1, ho⟩ := exo_at ok ha
    obtain ⟨mA, hns, _⟩ := exd_at ok hx
    obtain ⟨od, hod, _⟩ := lookIn_ns hns
    exact ⟨_, some od, ho, rfl, rfl, hod⟩
/-- isinstance(e, C): what it asks -/
def rIsErr (K : PySem.W.Frag) : List V → Hp → VK → Prop := fun xs H Q => ∃ (a C : Addr) (n : Str) (i : Option Int) (c : V) (cv : Value) (b : Bool), xs = [.ref a, c] ∧ ErrO H n C a i ∧ ExcC K C ∧ (∀ u, RelV c u → u = cv) ∧ PySem.W.kitOne K (.ref C) cv = some b ∧ Q (.bl b) H
theorem cr_isErr {X : Cx} : CallR X (.builtin "isinstance") (rIsErr X.K) := by
  intro pins s σ H xs us Q I r h
  obtain ⟨a, C, n, i, c, cv, b, rfl, he, hC, hcv, e, q⟩ := h
  cases r with
  | cons rx rr =>
    cases rr with
    | cons rt rr =>
      cases rr
      cases rx
      have ec := hcv _ rt
      subst ec
      exact PySem.W.kia_one (kit_err hC) I.kIn (err_inst I.hok he) e (fun z => nomatch z) fun tk => ⟨.bl b, H, I.kept (t' := tk) fun _ _ z => z, rfl, q⟩
/-! ### e.f -/
def tErf (K : PySem.W.Frag) (f : Str) (te : TE) : TE := fun σ H Q => te σ H fun x H1 => ∃ (a C : Addr) (n : Str) (i : Int), x = .ref a ∧ exnF n = some f ∧ ErrO H1 n C a (some i) ∧ XfC K C ∧ PySem.W.findIn K (.ref C) f = some none ∧ Q (.int i) H1
theorem pe_erf {X : Cx} {e : Expr} {te : TE} {pos : Pos} {f : Str} (he : PE X e te) (hb : attributeBase e f X.env (eval e X.env) = eval e X.env) : PE X (.Attribute e f pos) (tErf X.K f te) := by
  refine ⟨fun pins s σ H Q I h => ?_⟩
  refine attr_of hb (thn (he.run pins s σ H _ I h) fun u s1 hh => ?_)
  obtain ⟨x, H1, I1, rx, a, C, n, i, ex, hf, ⟨g, dx, hg, ha, hx⟩, T, hno, q⟩ := hh
  subst ex; obtain rfl : u = Value.ref a := rx
  rw [hf] at hg
  cases hg
  obtain ⟨t1, ho⟩ := exo_at I1.hok ha
  obtain ⟨mA, hns, hr⟩ := exd_at I1.hok hx
  obtain ⟨od, hod, hl⟩ := lookIn_ns hns
  have l : ([(f, V.int i)] : List (Str × V)).lookup f = some (.int i) := by simp
  obtain ⟨u, hu, ru⟩ := RelO.some_of (v := .int i) (o := mA f) (by rw [← l]; exact hr f)
  have J : PySem.W.InstAt s1.heap a ({ cls := .ref C, dict := some dx, data := .fields #[.ref t1, .none, .none, .none, .bool false, .none] } : Obj) C (some od) := ⟨ho, rfl, rfl, hod⟩
  exact HandSPX.exc_get I1.kIn J T.ga T.gg T.exC (PySem.W.findObj_own T.hdC hno rfl (by rw [hl, hu])) (handed_of ru) ⟨.int i, H1, I1.tok _, ru, q⟩
/-! ### C(e), C's own __init__ keeping sp: the object itself -/
def tMkV (C : Addr) (sp : Sp) (dvs : List V) (ta : TA) : TE := fun σ H Q => ta σ H fun vs H1 => vs.length ≤ 1000 ∧ ∀ a, H1 a = none → sp (.ref a :: (vs ++ dvs)) (upd H1 a (exo a C none)) (fun v H2 => v = .non ∧ Q (.ref a) H2) (fun _ _ _ => False)
theorem pe_mkv {X : Cx} {CX : CXT} {x : Str} {C fI : Addr} {k : Nat} {fd : FuncData} {ps : List Str} {sp : Sp} {ds : List Value} {dvs : List V} {e : Expr} {es : List Expr} {ta : TA} {p pos : Pos} (T : OexC X.K C) (iC : PySem.W.findIn X.K (.ref C) "__init__" = some (some (.ref fI)))
    (tI : PySem.W.typeIn X.K (.ref fI) = some (.type "function")) (F1 : FnOk X.prog X.w X.K X.mg X.base CX k fI fd ps sp) (hr : Room (k + 1) X.A) (hb : Binds X.K fd ps ds) (hd : Vals dvs ds) (hx : Passes CX X (fun _ _ _ => False)) (hg : Gl X x) (hm : X.mg x = some (.ref C))
    (ha : PA X (e :: es) ta) (hdb : (x == ("__debug__" : Str)) = false) (he : starEach (e :: es) X.env = (false, eval e X.env) :: starEach es X.env) (hpl : (backTo pos (starEach es X.env)).any (·.1) = false) : PE X (.Call (.Name x p) (e :: es) [] pos) (tMkV C sp dvs ta) := by
  refine ⟨fun pins s σ H Q I h => ?_⟩
  obtain ⟨nm, q, N, bs, bm, sn, sub, ab, col, dd, k0, k1, k2, k3, k5, hC, hbm⟩ := T.cls
  refine wpAny_Call_Name_kw (ld_glob I hg hm (PySem.W.callWith_K (h₀ := X.base) I.ok.mod.kin T.kC (thn (ha.run pos pins s σ H _ I h) fun us s1 ⟨vs, H1, I1, r1, hz, q1⟩ => ⟨I1.kIn, ?_⟩) he hpl) hdb)
  show wpAny _ _ (call (.ref C) us) _ _ _
  obtain ⟨hp, g, dr, tk, os⟩ := s1
  have hq := q1 (hp.objs.size + 1) (I1.hok.fresh (Nat.le_succ _))
  have I2 : Inv X pins σ (upd H1 (hp.objs.size + 1) (exo (hp.objs.size + 1) C none)) ⟨(hp.push (PySem.W.kdv_tup us)).push (PySem.HandSPX.excO C hp.objs.size), g, dr, tk, os⟩ :=
    I1.laid (t' := tk) (a := hp.objs.size + 1) (o := exo (hp.objs.size + 1) C none) (h' := (hp.push (PySem.W.kdv_tup us)).push (PySem.HandSPX.excO C hp.objs.size)) (fun b o e => Heap.get?_push_of_some _ (Heap.get?_push_of_some _ e)) (Nat.le_succ _) (exo_ok (t1 := hp.objs.size) (by heap_get))
  have r2 : Vals (V.ref (hp.objs.size + 1) :: (vs ++ dvs)) (Value.ref (hp.objs.size + 1) :: (us ++ ds)) := .cons rfl (r1.append hd)
  have hl : (Value.ref (hp.objs.size + 1) :: us ++ ds).length = ps.length := by
    rw [← F1.len _ _ _ _ hq]; exact r2.length.symm
  have hus : us.length ≤ sizeLine := by
    have := Paired.length r1; rw [sizeLine_eq]; omega
  refine wpAny_call (PySem.HandSPX.call_own F.excBase_ValueError (fun Y => PySem.HandSPX.refsVE_contains Y bm hbm) (I1.kIn _ _ hC) (PySem.W.looks_findIn I1.kIn iC) (fun self => PySem.W.bind_fn I1.kIn self tI) hus
    (codeAny_mono (F1.run _ X.stack _ _ ⟨Value.ref (hp.objs.size + 1) :: us, []⟩ (Value.ref (hp.objs.size + 1) :: (us ++ ds)) _ _ (fun _ _ _ => False) (hr.make C us []) (I2.env0.make C us []) (hb _ (Value.ref (hp.objs.size + 1) :: us) I2.kIn hl) r2 hq) fun r s' hq' => ?_))
  cases r with
  | error er => exact hx pins σ _ _ er s' I2 hq'
  | ok fl =>
    cases fl with
    | ret u =>
      obtain ⟨v, H2, I3, rv, ev, q2⟩ := I2.after hq'
      subst ev
      exact ⟨rv, ⟨.ref (hp.objs.size + 1), H2, I3, rfl, q2⟩⟩
    | next => exact False.elim hq'
    | brk => exact False.elim hq'
    | cont => exact False.elim hq'
/-- what __init__ keeps -/
def spI (C : Addr) (f : Str) : Sp := fun vs H Q _ => ∃ (a : Addr) (y : V), vs = [.ref a, y] ∧ H a = some (exo a C none) ∧ ∀ d, H d = none → d ≠ a → Q .non (upd (upd H d (exd d [(f, y)])) a (exo a C (some d)))
/-- what is told of the classes of errors that may be values -/
structure ErrK (K : PySem.W.Frag) (mg : Str → Option Value) : Prop where
  mks : ∀ n ∈ errNames, ∃ C, clsA K n = some C ∧ mg n = some (.ref C) ∧ ExcC K C ∧ PySem.W.keepIn K (.ref C) = true ∧ (exnF n = none → ∃ (B newId initId : String) (bmB : List Value), ExcBaseFacts B newId initId bmB ∧ PySem.W.excIn K C bmB newId = true) ∧
    ∀ f, exnF n = some f → OexC K C ∧ XfC K C ∧ PySem.W.findIn K (.ref C) f = some none ∧ ∀ P w base, ∃ fI fd, FnOk P w K mg base (L2.CX P w) 1 fI fd [("self" : Str), f] (spI C f) ∧ Binds K fd [("self" : Str), f] [] ∧ PySem.W.findIn K (.ref C) "__init__" = some (some (.ref fI)) ∧ PySem.W.typeIn K (.ref fI) = some (.type "function")
  is : ∀ n ∈ errNames, ∀ C, clsA K n = some C → ∀ c, (c ∈ errNames ∨ c = "RecordError") → ∃ D, mg c = some (.ref D) ∧ PySem.W.kitOne K (.ref C) (.ref D) = some (subE n c)
  ve : mg "ValueError" = none ∧ ∀ n ∈ errNames, ∀ C, clsA K n = some C → PySem.W.kitOne K (.ref C) (.type "ValueError") = some true
end G
/-! G.ErrE: errors as values, against the slots. -/
namespace G
open PySem PySem.Spec PyProof.Rows L2
section
variable {X : Cx} {T : List Fn} {cl : Str → Option Addr} {EX : XS} {σ : L2.St} {H : Hp} {Q : VK}
theorem mkxR_some {c : Str} {r : RV} {z : D} (h : mkxR c r = some z) : c ∈ errNames ∧ ((exnF c = none ∧ z = .err c none) ∨ ∃ f i, exnF c = some f ∧ r = .d (.int i) ∧ z = .err c (some i)) := by
  unfold mkxR at h
  split at h
  · split at h
    · rename_i hc
      split at h
      · rename_i e; cases h; exact ⟨hc, .inl ⟨e, rfl⟩⟩
      · cases h; exact ⟨hc, .inr ⟨_, _, by assumption, rfl, rfl⟩⟩
      · cases h
    · cases h
  · cases h
theorem clsA_inj {K : PySem.W.Frag} {c : Str} {C C' : Addr} (h : clsA K c = some C) (h' : clsA K c = some C') : C = C' := by rw [h] at h'; exact Option.some.inj h'
/-- C(e), a class without a field -/
theorem te_mkx0 {c : Str} {a : E} {C : Addr} (hn : exnF c = none) (hC : clsA X.K c = some C) (h : tE X T cl EX (.ext (.mkx c) a) σ H Q) : (fun σ H Q => tE X T cl EX a σ H fun _ H1 => ∀ p, H1 p = none → Q (.ref p) (upd H1 p (ExO (.ref C) p))) σ H Q := by
  obtain ⟨H0, ps, ows, δ, e, h⟩ := h
  simp only [ev, extR] at h
  refine ⟨H0, ps, ows, δ, e, (wpO.bind h).imp fun x H1 ⟨r1, δ1, w1, _, e1, s1, rx, h1⟩ => fun p np => ?_⟩
  obtain ⟨z, hz, h2⟩ := wpO.lift h1
  obtain ⟨_, ⟨_, rfl⟩ | ⟨f, i, e, _⟩⟩ := mkxR_some hz
  · have e2 := e1.new (o := ExO (.ref C) p) np
    refine h2 (.ref p) w1 _ e2 (.of (hid_new np)) ?_
    simp only [RvR, Rep]
    exact ⟨p, C, rfl, hC, hid_of upd_same (e1.fresh np).2⟩
  · rw [hn] at e; cases e
/-- C(e), an int kept -/
theorem te_mkxF {c f : Str} {a : E} {C : Addr} (hn : exnF c = some f) (hC : clsA X.K c = some C) (h : tE X T cl EX (.ext (.mkx c) a) σ H Q) : tMkV C (spI C f) [] (tCons (tE X T cl EX a) tNil) σ H Q := by
  obtain ⟨H0, ps, ows, δ, e, h⟩ := h
  simp only [ev, extR] at h
  refine ⟨H0, ps, ows, δ, e, (wpO.bind h).imp fun x H1 ⟨r1, δ1, w1, _, e1, s1, rx, h1⟩ => ⟨(show 1 ≤ 1000 by decide), fun p np => ?_⟩⟩
  obtain ⟨z, hz, h2⟩ := wpO.lift h1
  obtain ⟨_, ⟨e, _⟩ | ⟨g, i, e, rfl, rfl⟩⟩ := mkxR_some hz
  · rw [hn] at e; cases e
  · rw [hn] at e
    cases e
    have rx : x = .int i := by simpa only [RvR, Rep] using rx
    subst rx
    refine ⟨p, .int i, rfl, upd_same, fun d nd hd => ⟨rfl, ?_⟩⟩
    rw [upd_ne hd] at nd
    have eqH : upd (upd (upd H1 p (exo p C none)) d (exd d [(f, V.int i)])) p (exo p C (some d)) = upd (upd H1 d (exd d [(f, V.int i)])) p (exo p C (some d)) := by
      funext b
      by_cases h1 : b = p
      · subst h1; rw [upd_same, upd_same]
      · rw [upd_ne h1, upd_ne h1]
        by_cases h2 : b = d
        · subst h2; rw [upd_same, upd_same]
        · rw [upd_ne h2, upd_ne h2, upd_ne h1]
    rw [eqH]
    have e2 := e1.new (o := exd d [(f, V.int i)]) nd
    have np2 : upd H1 d (exd d [(f, V.int i)]) p = none := by rw [upd_ne (Ne.symm hd)]; exact np
    have e3 := e2.new (o := exo p C (some d)) np2
    have s3 := (hid_new (ows := w1) (o := exd d [(f, V.int i)]) nd).trans (hid_new (ows := w1) (o := exo p C (some d)) np2)
    refine h2 (.ref p) w1 _ e3 (.of s3) ?_
    simp only [RvR, Rep]
    refine ⟨p, C, rfl, hC, f, d, hn, hid_of upd_same (e1.fresh np).2, ?_⟩
    exact hid_of (by rw [upd_ne hd]; exact upd_same) (e1.fresh nd).2
/-- isinstance(a, c) -/
theorem te_isx {a : E} {c : Str} {cv : V} {cw : Value} (K : ErrK X.K X.mg) (hv : ∀ u, RelV cv u → u = cw) (hk : ∀ n ∈ errNames, ∀ C, clsA X.K n = some C → PySem.W.kitOne X.K (.ref C) cw = some (subE n c)) (h : tE X T cl EX (.ext (.isx c) a) σ H Q) :
    tCB (rIsErr X.K) (tCons (tE X T cl EX a) (tCons (tC cv) tNil)) σ H Q := by
  obtain ⟨H0, ps, ows, δ, e, h⟩ := h
  simp only [ev, extR] at h
  refine ⟨H0, ps, ows, δ, e, (wpO.bind h).imp fun x H1 ⟨r1, δ1, w1, _, e1, s1, rx, h1⟩ => ?_⟩
  obtain ⟨z, hz, h2⟩ := wpO.lift h1
  unfold isxR at hz
  split at hz
  · rename_i n i _
    split at hz
    · rename_i hn
      cases hz
      have rx : Rep X.K (hid w1 H1) (.err n i) x := rx
      simp only [Rep] at rx
      obtain ⟨p, C, rfl, hC, he⟩ := rx
      obtain ⟨C', k1, _, k3, _⟩ := K.mks n hn
      cases clsA_inj hC k1
      refine ⟨p, C, n, i, cv, cw, subE n c, rfl, he.mono (hid_same _ _), k3, hv, hk n hn C hC, ?_⟩
      exact (fin_of e1 h2).bl
    · cases hz
  · cases hz
/-- a.f -/
theorem te_erf {a : E} {f : Str} (K : ErrK X.K X.mg) (h : tE X T cl EX (.ext (.erf f) a) σ H Q) : tErf X.K f (tE X T cl EX a) σ H Q := by
  obtain ⟨H0, ps, ows, δ, e, h⟩ := h
  simp only [ev, extR] at h
  refine ⟨H0, ps, ows, δ, e, (wpO.bind h).imp fun x H1 ⟨r1, δ1, w1, _, e1, s1, rx, h1⟩ => ?_⟩
  obtain ⟨z, hz, h2⟩ := wpO.lift h1
  unfold erfR at hz
  split at hz
  · rename_i n i _
    split at hz
    · rename_i hn
      cases hz
      have rx : Rep X.K (hid w1 H1) (.err n (some i)) x := rx
      simp only [Rep] at rx
      obtain ⟨p, C, rfl, hC, he⟩ := rx
      obtain ⟨C', k1, _, _, _, _, k6⟩ := K.mks n hn.1
      cases clsA_inj hC k1
      obtain ⟨_, k7, k8, _⟩ := k6 f hn.2
      exact ⟨p, C, n, i, rfl, hn.2, he.mono (hid_same _ _), k7, k8, (fin_of e1 h2).int⟩
    · cases hz
  · cases hz
end
end G
/-! G.TryC: try with several clauses, some of them 'as n'. -/
namespace G
open PySem PySem.Spec PyProof.Rows L2
/-- behind the clause the name is gone -/
abbrev goneD (i : Nat) (D : Ends) : Ends := { nx := fun σ' H' => D.nx (σ'.set i none) H', rt := D.rt, bk := fun σ' H' => D.bk (σ'.set i none) H', ct := fun σ' H' => D.ct (σ'.set i none) H' }
/-- what the clauses wish of an exception -/
def wC (K : PySem.W.Frag) (Wout : WX) (D : Ends) : List (Value × (Ends → WX)) → WX
  | [] => Wout
  | (c, wx) :: r => fun cls d σ H => ∃ b, PySem.W.exmOne K cls c = some b ∧ (b = true → wx D cls d σ H) ∧ (b = false → wC K Wout D r cls d σ H)
inductive HdC (X : Cx) : List ExceptHandler → List (Value × (Ends → WX)) → Prop
  | nil : HdC X [] []
  | plain {x : Str} {c : Value} {ts : Addr → Value → Option Addr → TS} {b0 : Stmt} {su : List Stmt} {np p' : Pos} {hds : List ExceptHandler} {l : List (Value × (Ends → WX))} (hc : Names X x c)
      (hs : ∀ (a : Addr) (oe : Obj) (cls : Value) (d : Option Addr) (pn : List (Addr × Obj)), Zc cls d oe → (∃ vs, oe.data = .fields vs) → PSs (X.suite a ((a, oe) :: pn)) (b0 :: su) (ts a cls d)) (r : HdC X hds l) :
      HdC X (.ExceptHandler (some (.Name x np)) none (b0 :: su) p' :: hds) ((c, fun D cls d σ H => ∀ a, H a = none → ts a cls d D σ H) :: l)
  | named {x n : Str} {i : Nat} {c : Value} {ts : Addr → Value → Option Addr → TS} {b0 : Stmt} {su : List Stmt} {np p' : Pos} {hds : List ExceptHandler} {l : List (Value × (Ends → WX))} (hc : Names X x c) (hi : X.N[i]? = some n) (hl : X.env.kindOf n = some .local)
      (hs : ∀ (a : Addr) (oe : Obj) (cls : Value) (d : Option Addr) (pn : List (Addr × Obj)), Zc cls d oe → (∃ vs, oe.data = .fields vs) → PSs (X.suite a ((a, oe) :: pn)) (b0 :: su) (ts a cls d)) (r : HdC X hds l) :
      HdC X (.ExceptHandler (some (.Name x np)) (some n) (b0 :: su) p' :: hds) ((c, fun D cls d σ H => ∀ a, H a = none → ts a cls d (goneD i D) (σ.set i (some (.ref a))) H) :: l)
section
variable {X : Cx} {body : List Stmt} {h0 : ExceptHandler} {hds : List ExceptHandler} {l : List (Value × (Ends → WX))} {pos : Pos} {tb : WX → TS} {Wout : WX}
theorem ps_tryC (hN : X.N.Nodup) (stk : X.stack = X.env :: X.outer) (frm : X.env.frame = some X.env.locals) (tk : Takes X Wout)
    (hb : ∀ (W : WX) (pn : List (Addr × Obj)) (xe : Value → Shared → Prop), Takes (X.tr pn xe) W → PassesOwn (model X.prog X.w) X.A X.env xe → PSs (X.tr pn xe) body (tb W))
    (hh : HdC X (h0 :: hds) l) : PS X (.Try body (h0 :: hds) [] [] pos) (fun D σ H => tb (wC X.K Wout D l) D σ H) := by
  refine ⟨fun pins s σ H D I q0 => ?_⟩
  have ok := I.ok
  have fr : X.A.frames = some (X.env :: X.outer) := by rw [ok.frames, stk]
  refine wpAny_Try_except (wpAny_mono ((hb (wC X.K Wout D l) (X.pn ++ pins) (fun e s1 => wpAny (model X.prog X.w) X.A (noteFrame e X.env) (fun _ s2 => wpAny (model X.prog X.w) X.A (setFlight e none) (fun _ s3 => wpAny (model X.prog X.w) X.A (handleBy e X.env (h0 :: hds)) (SP X pins D) X.xe s3) X.xe s2) X.xe s1) (fun u s' xx => ?_) PassesOwn.looking).run [] s σ H D (I.toTry _) q0) (fun f s1 sp => ?_) (fun e s1 he => he))
  · obtain ⟨a, B, sI, pins', σ', H', cls, d, rfl, J', nb, up, sky, na, os, ag, w⟩ := xx
    have J : Inv X pins σ' H' sI := J'.ofTry ok
    have sky2 : Sky B (X.env :: X.outer) a (Zc cls d) X.env.locals s'.heap := by rw [← stk]; exact sky
    show wpAny (model X.prog X.w) X.A (noteFrame (.ref a) X.env) _ _ _
    refine Sky.land Zc.steady fr frm sky2 fun h3 fl3 up3 => ?_
    have J3 : Inv X pins σ' H' { s' with heap := h3 } := J.landed nb fl3.1 (up.trans up3) os ag
    obtain ⟨oe3, vs3, he3, hz3, hd3⟩ := fl3.there
    have off : a ∉ frs (X.env :: X.outer) := fun hm => by
      obtain ⟨_, o', e', hnf⟩ := fl3.2.2.1.mem hm
      rw [he3] at e'; cases e'; exact hnf _ hd3
    have nL : a ≠ X.env.locals := fun z => off (List.mem_filterMap.mpr ⟨X.env, List.mem_cons_self, by rw [frm, z]⟩)
    have nF : a ∉ X.fs := fun hm => by
      obtain ⟨e, he, q⟩ := List.mem_filterMap.mp hm; exact off (List.mem_filterMap.mpr ⟨e, List.mem_cons_of_mem _ he, q⟩)
    have S3 := J3.suite he3 hd3 na nL nF
    have look : ∀ {x : Str} {c : Value} {np : Pos} {Q : Value → Shared → Prop} {E : Value → Shared → Prop}, Names X x c → Q c { s' with heap := h3 } → wpAny (model X.prog X.w) (X.A.mark (some (.ref a))) (eval (.Name x np) X.env) Q E { s' with heap := h3 } := fun {x c np Q E} nm q => by
      obtain ⟨g1, g2, g3 | ⟨g3, g4, g5⟩⟩ := nm
      · exact ld_glob (X := X.suite a ((a, oe3) :: (X.pn ++ pins))) S3 g1 g3 q g2
      · exact ld_blt (X := X.suite a ((a, oe3) :: (X.pn ++ pins))) S3 g1 g3 g4 q g5 g2
    have LT : PySem.W.Looks (model X.prog X.w) h3 (typeOf (.ref a)) cls := fun A Q E s k q => wpAny_typeOf_ref (k _ _ he3) (by rw [hz3.1]; exact q)
    have go : ∀ {hs' : List ExceptHandler} {l' : List (Value × (Ends → WX))}, HdC X hs' l' → wC X.K Wout D l' cls d σ' H' → wpAny (model X.prog X.w) X.A (handleBy (.ref a) X.env hs') (SP X pins D) X.xe { s' with heap := h3 } := by
      intro hs' l' hk
      induction hk with
      | nil =>
        intro w
        refine wpAny_handleBy_nil ?_
        obtain ⟨k1, k2, k3, oe, vs, T, oT, ts', he, hz, hd, h1, hr⟩ := id fl3
        unfold PySem.passOn
        refine wpAny_bind (wpAny_field he hd h1 ?_)
        rw [if_neg (show ¬ ((Value.ref T == Value.none) = true) from by simp)]
        have fin : wpAny (model X.prog X.w) X.A (setFlight (.ref a) X.env.frame) (fun _ s4 => wpAny (model X.prog X.w) X.A (throw (.ref a) : Sem Flow) (SP X pins D) X.xe s4) X.xe { s' with heap := h3 } := by
          rw [frm]
          exact HandSPX.setFlight_upZ fl3 fun h4 hh4 up4 => wpAny_throw (tk _ _ ⟨a, B, sI, pins, σ', H', cls, d, rfl, J, nb, (up.trans up3).trans up4, .inr (.inr (by rw [stk]; exact hh4)), na, os, ag, w⟩)
        first | exact wpAny_bind (wpAny_pure (wpAny_bind fin)) | exact wpAny_bind fin
      | @plain x c ts b0 su np p' hds2 l2 hc hsu r ih =>
        intro w
        obtain ⟨b, hb1, yes, no⟩ := w
        refine wpAny_handleBy_cons (codeAny_handlers_test (look hc ((PySem.W.exm_one (M := model X.prog X.w) (J3.kIn) LT hb1).here ?_))) (by intro q; cases q)
        cases b with
        | true =>
          refine codeAny_handlers_suite (HandSPX.lands_againZ fl3 fun h4 fl4 up4 => ?_)
          have J4 : Inv X pins σ' H' { s' with heap := h4 } := J.landed nb fl4.1 ((up.trans up3).trans up4) os ag
          obtain ⟨oe4, vs4, he4, hz4, hd4⟩ := fl4.there
          refine wpAny_mono ((hsu a oe4 cls d (X.pn ++ pins) hz4 ⟨_, hd4⟩).run [] _ _ H' _ (J4.suite he4 hd4 na nL nF) (yes rfl a na)) (fun f s6 sp => ?_) (fun _ _ z => False.elim z)
          cases f with
          | ret u => obtain ⟨v6, σ6, H6, S6, r6, q6⟩ := sp; exact ⟨_, _, _, S6.unsuite ok, r6, q6⟩
          | next => obtain ⟨σ6, H6, S6, q6⟩ := sp; exact ⟨_, _, S6.unsuite ok, q6⟩
          | brk => obtain ⟨σ6, H6, S6, q6⟩ := sp; exact ⟨_, _, S6.unsuite ok, q6⟩
          | cont => obtain ⟨σ6, H6, S6, q6⟩ := sp; exact ⟨_, _, S6.unsuite ok, q6⟩
        | false => show wpAny _ X.A (handleBy (.ref a) X.env hds2) _ _ _; exact ih (no rfl)
      | @named x n i c ts b0 su np p' hds2 l2 hc hi hln hsu r ih =>
        intro w
        obtain ⟨b, hb1, yes, no⟩ := w
        refine wpAny_handleBy_cons (codeAny_handlers_test (look hc ((PySem.W.exm_one (M := model X.prog X.w) (J3.kIn) LT hb1).here ?_))) (by intro q; cases q)
        cases b with
        | true =>
          refine codeAny_handlers_suite_as (HandSPX.lands_againZ fl3 fun h4 fl4 up4 => ?_)
          have J4 : Inv X pins σ' H' { s' with heap := h4 } := J.landed nb fl4.1 ((up.trans up3).trans up4) os ag
          obtain ⟨oe4, vs4, he4, hz4, hd4⟩ := fl4.there
          refine store_ok (X := X.suite a ((a, oe4) :: (X.pn ++ pins))) (v := .ref a) (J4.suite he4 hd4 na nL nF) hN hi (.inl hln) rfl (fun s5 S5 => ?_) (.inr hln)
          refine wpAny_mono ((hsu a oe4 cls d (X.pn ++ pins) hz4 ⟨_, hd4⟩).run [] s5 _ H' _ S5 (yes rfl a na)) (fun f s6 sp => ?_) (fun _ _ z => False.elim z)
          have bye : ∀ {σ6 : L2.St} {H6 : Hp} {Q : Shared → Prop}, Inv (X.suite a ((a, oe4) :: (X.pn ++ pins))) [] σ6 H6 s6 → (∀ s7, Inv X pins (σ6.set i none) H6 s7 → Q s7) → wpAny (model X.prog X.w) X.A (do bindName X.env n .none; unbindBehindTheSuite X.env n p') (fun _ s7 => Q s7) X.xe s6 := fun S6 hq => gone_ok (S6.unsuite ok) hN hi hln hq
          cases f with
          | ret u => obtain ⟨v6, σ6, H6, S6, r6, q6⟩ := sp; exact bye S6 fun s7 J7 => ⟨_, _, _, J7, r6, q6⟩
          | next => obtain ⟨σ6, H6, S6, q6⟩ := sp; exact bye S6 fun s7 J7 => ⟨_, _, J7, q6⟩
          | brk => obtain ⟨σ6, H6, S6, q6⟩ := sp; exact bye S6 fun s7 J7 => ⟨_, _, J7, q6⟩
          | cont => obtain ⟨σ6, H6, S6, q6⟩ := sp; exact bye S6 fun s7 J7 => ⟨_, _, J7, q6⟩
        | false => show wpAny _ X.A (handleBy (.ref a) X.env hds2) _ _ _; exact ih (no rfl)
    exact go hh w
  · cases f with
    | ret u => obtain ⟨v, σ', H', J', r, q⟩ := sp; exact ⟨v, σ', H', J'.ofTry ok, r, q⟩
    | next => obtain ⟨σ', H', J', q⟩ := sp; exact wpAny_execs_nil ⟨σ', H', J'.ofTry ok, q⟩
    | brk => obtain ⟨σ', H', J', q⟩ := sp; exact ⟨σ', H', J'.ofTry ok, q⟩
    | cont => obtain ⟨σ', H', J', q⟩ := sp; exact ⟨σ', H', J'.ofTry ok, q⟩
end
end G
/-! G.Lim: the def that calls a lambda and tells the field of its error. -/
namespace G
open PySem L2 LamX
def isLim (sg : Scope) (a e n f : Str) : List Stmt → Bool
  | [.Try [.Expr (.Call (.Name a' _) [] [] _) _] [.ExceptHandler (some (.Name n' _)) (some e') [.Return (some (.Attribute (.Name e2 _) f' _)) _] _] [] [] _, .Return (some (.Constant .none _ _)) _] =>
    decide (a' = a) && decide (n' = n) && decide (e' = e) && decide (e2 = e) && decide (f' = f) && glB sg n && okName n && decide (sg.names.lookup e = some .local) && visB sg e && okName e
  | _ => false
/-- what is told: None, or the field -/
def TTl (C : Addr) (f : Str) : (XK → Hp → VK → Prop) → Hp → VK → Prop := fun tl H Q =>
  tl (fun cls d H' => cls = .ref C ∧ ∃ (dd : Addr) (fs : List (Str × V)) (v : V), d = some dd ∧ H' dd = some (.xd fs) ∧ fs.lookup f = some v ∧ Q v H') H (fun _ H' => Q .non H')
theorem lim_gives {X : Cx} {Ng : List Str} {x a e n f q : Str} {sg : Scope} {g C : Addr} {cdg : Value} {bg : List Stmt} (hN : Ng = [a, e]) (nd : Ng.Nodup) (hC : X.mg n = some (.ref C)) (xm : PySem.W.exmOne X.K (.ref C) (.ref C) = some true) (T : XfC X.K C) (noat : PySem.W.findIn X.K (.ref C) f = some none)
    (h : isLim sg a e n f bg = true) : GivesTo X Ng x sg g cdg bg a q (TTl C f) := by
  intro fa c' s H Q tl act hc hq
  unfold isLim at h
  split at h <;> first | contradiction | skip
  simp only [Bool.and_eq_true, decide_eq_true_eq] at h
  obtain ⟨⟨⟨⟨⟨⟨⟨⟨⟨rfl, rfl⟩, rfl⟩, rfl⟩, rfl⟩, h1⟩, h2⟩, h3⟩, h4⟩, h5⟩ := h
  rename_i a' p1 p2 p3 n' p4 e2 mp f' ap rp hp tp kk p5 p6
  let Z : Cx := (cxOf C8.CX0 X.prog X.w X.K X.mg X.base Ng x sg g cdg X.A X.stack s H C8.E0).nox
  have zN : Z.N = [a', e2] := hN
  have znd : Z.N.Nodup := nd
  have gl : Z.env.kindOf n' = some .globalImplicit := by
    unfold glB at h1
    split at h1
    · assumption
    · cases h1
  have nm : Names Z n' (.ref C) := ⟨gl, (okN h2).1, .inl hC⟩
  have kl : Z.env.kindOf e2 = some .local := h3
  refine ⟨_, pss_cons (ps_tryC (X := Z) (Wout := fun _ _ _ _ => False)
    (tb := fun W D σ H => ∃ Ech : XK, (∀ cls d σ' H', Ech cls d H' → W cls d σ' H') ∧ σ[0]? = some (some (.ref fa)) ∧ H c' = some (CodeO c' q) ∧ tl Ech H (fun _ H' => D.nx σ H'))
    znd rfl rfl takes_none5 (fun W pn xe tk _ => pss_one ⟨fun pins s' σ H' D I h' => ?_⟩)
    (.named (i := 1) (ts := fun a cls d D σ H => σ.length = 2 → tRet (tXf a cls d C f' (tVar 1)) D σ H) nm (by rw [zN]; rfl) kl (fun a oe cls d pn hz hv => pss_one ⟨fun pins s σ H D I q => (ps_len (ps_ret (X := Z.suite a ((a, oe) :: pn)) (pe_xf (pos := ap) T noat hz hv (pe_var (X := Z.suite a ((a, oe) :: pn)) (i := 1) (x := e2) (by show Z.N[1]? = _; rw [zN]; rfl) (vis_of h4) (okN h5).1 (okN h5).2.1)))).run pins s σ H D I fun hlen => q (by rw [hlen]; show Z.N.length = 2; rw [zN]; rfl)⟩) .nil)) (pss_one (ps_ret (X := Z) pe_non)), ?_⟩
  · obtain ⟨Ech, hW, g1, g2, g3⟩ := h'
    exact (ps_expr (act W pn xe Ech _ _ tk hW)).run pins s' σ H' D I ⟨g1, g2, g3⟩
  · refine ⟨fun cls d H' => cls = .ref C ∧ ∃ (dd : Addr) (fs : List (Str × V)) (v : V), d = some dd ∧ H' dd = some (.xd fs) ∧ fs.lookup f' = some v ∧ Q v H', fun cls d σ' H' ⟨ec, dd, fs, v, ed, hx, hl, hv⟩ => ?_, by rw [hN]; rfl, hc, hq⟩
    subst ec ed
    refine ⟨true, xm, fun _ b _ hlen => ?_, fun z => by cases z⟩
    rw [List.length_set] at hlen
    exact ⟨.ref b, List.getElem?_set_self (by rw [hlen]; decide), rfl, rfl, dd, fs, v, rfl, hx, hl, hv⟩
end G
/-! G.LimE: an expression in a lambda, told by its error's field: against the slots. -/
namespace G
open PySem L2 LamX
theorem te_tryl {X : Cx} {T : List Fn} {cl : Str → Option Addr} {EX : XS} {σ : L2.St} {H : Hp} {Q : VK} {w c f : Str} {a : G.E} {C : Addr} (hn : lamN ∈ X.N) (hq : lq X = lawQ) (hC : cl c = some C) (h : tE X T cl EX (.ext (.tryl w c f) a) σ H Q) :
    ∃ P, tabP X.K X.mg X.base P ∧ tLamP X P (TTl C f) (fun E => tE X T cl (fun _ => E) a) σ H Q := by
  obtain ⟨H0, ps, ows, δ, e, h⟩ := h
  simp only [ev, extR] at h
  obtain ⟨P, hP, ⟨t, ht⟩, tp⟩ := e.need (decide_eq_true hn)
  refine ⟨P, tp, by rw [hq]; exact (e.tab P hP t ht).tabS, fun H1 x1 n1 => ?_⟩
  rw [hq] at n1
  obtain ⟨e1, s1⟩ := e.ext hP ht x1 n1
  have g1 := wpO.from (W := ⟨gr X H0 ps, σ, cl, EX⟩) s1 h
  clear h
  refine ⟨H0, ps, ows, δ, e1, ?_⟩
  cases hr : ev T a δ with
  | ok r δ' =>
    rw [hr] at g1
    exact fun v w' H' e2 s2 _ => g1 .non w' H' e2 s2 (by simp only [RvR, Rep])
  | ex x δ' =>
    rw [hr] at g1
    simp only [tryF] at g1
    intro w' H' cv d e2 s2 ⟨C', c1, c2, c3⟩
    split at g1
    · rename_i g v hp
      split at g1
      · rename_i hx
        obtain ⟨rfl, rfl⟩ := hx
        have c1 : cl x.c = some C' := c1
        rw [hC] at c1
        cases c1
        rw [hp] at c3
        obtain ⟨p, rfl, k2⟩ := c3
        exact ⟨c2, p, [(g, .int v)], .int v, rfl, k2, by simp, g1 (.int v) w' H' e2 s2 (by simp only [RvR, Rep])⟩
      · exact g1.elim
    · exact g1.elim
  | no =>
    rw [hr] at g1
    exact g1.elim
end G
/-! G.Snd5: expressions: what checks is what runs. -/
namespace G
open PySem L2
/-- what the making of a lambda asks of its maker -/
structure WordOk (T : List Fn) (cl : Str → Option Addr) (X : Cx) (c : Ct) (k : Nat) (w : Str) (ws : List (Str × Str)) : Prop where
  nn : lamN ∈ X.N
  q : lq X = lawQ
  code : ∃ cc, lawCode X.K X.mg = some cc ∧ X.env.code = .ref cc
  lvl : ∃ j, k = j + 2 ∧ ∀ (i : Nat) (x : Str) (n : Nat), c.fns[i]? = some (x, n) → ∃ f, T[i]? = some f ∧ FnAt X.prog X.w X.K X.mg X.base cl j x n f
  leaf : Leafs X.K cl ws
  cls : ∀ e C, cl e = some C → X.mg e = some (.ref C)
  fn : ∃ (g : Addr) (a f : Str) (pg : Arguments) (bg : List Stmt) (sg : Scope) (dV kV doc pm cdv ct oc : Value) (an od : Option Addr) (osl : Array (Option Value)),
    X.mg w = some (.ref g) ∧ PySem.W.keepIn X.K (.ref g) = true ∧ X.K.lookup g = some ⟨oc, od, .func (PySem.W.fnOf w w pg bg sg dV kV doc pm an cdv ct), osl⟩ ∧ PySem.W.codeIn X.K cdv w = true ∧
    L2.Binds X.K (PySem.W.fnOf w w pg bg sg dV kV doc pm an cdv ct) [a] [] ∧ FnScope [a, f] [a] sg ∧ L2.Vis sg a ∧ Loc sg f ∧ isWord sg a f ws bg = true ∧ okName w = true ∧ okName a = true ∧ okName f = true
structure LimOk (T : List Fn) (cl : Str → Option Addr) (X : Cx) (c : Ct) (k : Nat) (w n f : Str) : Prop where
  nn : lamN ∈ X.N
  q : lq X = lawQ
  code : ∃ cc, lawCode X.K X.mg = some cc ∧ X.env.code = .ref cc
  lvl : ∃ j, k = j + 2 ∧ (∀ (i : Nat) (x : Str) (n : Nat), c.fns[i]? = some (x, n) → ∃ f, T[i]? = some f ∧ FnAt X.prog X.w X.K X.mg X.base cl j x n f) ∧
    (∀ (i : Nat) (x : Str) (n : Nat), c.mts[i]? = some (x, n) → ∃ f, T[c.fns.length + i]? = some f ∧ ∃ j', j' + 2 ≤ j ∧ MtAt X.prog X.w X.K X.mg X.base cl j' x n f) ∧ (c.ers = true → 2 ≤ j)
  cls : ∃ C, cl n = some C ∧ X.mg n = some (.ref C) ∧ PySem.W.exmOne X.K (.ref C) (.ref C) = some true ∧ XfC X.K C ∧ PySem.W.findIn X.K (.ref C) f = some none
  fn : ∃ (g : Addr) (a e : Str) (pg : Arguments) (bg : List Stmt) (sg : Scope) (dV kV doc pm cdv ct oc : Value) (an od : Option Addr) (osl : Array (Option Value)),
    X.mg w = some (.ref g) ∧ PySem.W.keepIn X.K (.ref g) = true ∧ X.K.lookup g = some ⟨oc, od, .func (PySem.W.fnOf w w pg bg sg dV kV doc pm an cdv ct), osl⟩ ∧ PySem.W.codeIn X.K cdv w = true ∧
    L2.Binds X.K (PySem.W.fnOf w w pg bg sg dV kV doc pm an cdv ct) [a] [] ∧ FnScope [a, e] [a] sg ∧ L2.Vis sg a ∧ isLim sg a e n f bg = true ∧ okName w = true ∧ okName a = true
structure CtOk (T : List Fn) (cl : Str → Option Addr) (X : Cx) (c : Ct) (EX : XS) (k : Nat) : Prop where
  N : X.N = c.N
  nd : X.N.Nodup
  sc : X.env.scope = c.sc
  calm : X.calm = true
  room : Room k X.A
  pass : ∀ σ, PassesAt (L2.CX X.prog X.w) X σ (EX σ)
  fns : ∀ (i : Nat) (x : Str) (n : Nat), c.fns[i]? = some (x, n) → ∃ f, T[i]? = some f ∧ FnAt X.prog X.w X.K X.mg X.base cl k x n f
  blt : ∀ x ∈ bltNames, X.mg x = none
  cons : ∀ x d, c.cons.lookup x = some d → ∃ u v, X.mg x = some u ∧ RelV v u ∧ ConR X.K d v
  lam : ∀ w ws, (w, ws) ∈ c.wds → WordOk T cl X c k w ws
  ply : c.mts ≠ [] → ∃ C, PlyK X.K X.mg C
  mts : ∀ (i : Nat) (x : Str) (n : Nat), c.mts[i]? = some (x, n) → ∃ f, T[c.fns.length + i]? = some f ∧ ∃ j, j + 2 ≤ k ∧ MtAt X.prog X.w X.K X.mg X.base cl j x n f
  err : c.ers = true → ErrK X.K X.mg ∧ 2 ≤ k
  lin : c.lin = true → ∃ C a j fd, PlyK X.K X.mg C ∧ Meth X.K C "lines" a ∧ j + 3 ≤ k ∧ GFn X.prog X.w X.K X.mg X.base j a fd ["self"] (spLines X.K) ∧ Binds X.K fd ["self"] []
  lim : ∀ w n f, (w, n, f) ∈ c.lms → LimOk T cl X c k w n f
section
variable {T : List Fn} {cl : Str → Option Addr} {X : Cx} {c : Ct} {EX : XS} {k : Nat}
theorem CtOk.gl (C : CtOk T cl X c EX k) {x : Str} (h : glB c.sc x = true) : Gl X x := by
  unfold Gl Env.kindOf
  rw [C.sc]
  unfold glB at h
  split at h
  · assumption
  · cases h
theorem CtOk.units (C : CtOk T cl X c EX k) : X.A.units + 64 < cLine := C.room.units
def Tri (T : List Fn) (cl : Str → Option Addr) (X : Cx) (EX : XS) (e : G.E) (x : Expr) : Prop :=
  PE X x (tE X T cl EX e) ∧ (notIf x = true → PT X x (tT X T cl EX e)) ∧ (∀ op l p, x = .BoolOp op l p → PW X x (tT X T cl EX e))
def GE (T : List Fn) (cl : Str → Option Addr) (e : G.E) : Prop := ∀ X c EX k x, CtOk T cl X c EX k → isE c e x = true → Tri T cl X EX e x
def GA (T : List Fn) (cl : Str → Option Addr) (e : G.E) : Prop := (∀ X c EX k l, CtOk T cl X c EX k → isEs c e l = true → PA X l (tEs X T cl EX e) ∧ l.all headOk = true) ∧ ∀ a r, e = .cons a r → GE T cl a
def isTupT : Expr → Bool
  | .Tuple .. => true
  | _ => false
def GI (T : List Fn) (cl : Str → Option Addr) (e : G.E) : Prop := ∀ X c EX k en tg x, CtOk T cl X c EX k → isI c en e x = true → (en = true → isTupT tg = true) → PI X tg x (tI X T cl EX e)
def GR (T : List Fn) (cl : Str → Option Addr) (e : G.E) : Prop := ∀ X c EX k x, CtOk T cl X c EX k → isR c e x = true → PRg X x (tR X T cl EX e) ∧ headOk x = true ∧ (∀ a, e ≠ .itr a) ∧ (∀ a, e ≠ .enm a)
theorem tri_plain {e : G.E} {x : Expr} (h : PE X x (tE X T cl EX e)) (nt : notTest x = true) : Tri T cl X EX e x :=
  ⟨h, fun _ => (pt_val h (true_ok nt X.env)).imp fun _ _ _ q => tt_te q, fun op l p z => by subst z; cases nt⟩
theorem ge_var (i : Nat) : GE T cl (.var i) := by
  intro X c EX k x C h
  unfold isE at h
  split at h <;> first | contradiction | skip
  all_goals (rename_i e; first | cases e | skip)
  simp only [Bool.and_eq_true, decide_eq_true_eq] at h
  exact tri_plain ((pe_var (by rw [C.N]; exact h.1.1) (by rw [C.sc]; exact vis_of h.1.2) (okN h.2).1 (okN h.2).2.1).imp fun _ _ _ q => te_var q) rfl
theorem ge_lit (d : D) : GE T cl (.lit d) := by
  intro X c EX k x C h
  cases x <;> simp only [isE, Bool.false_eq_true] at h
  rename_i kk j p
  unfold litB at h
  split at h <;> first | contradiction | skip
  · exact tri_plain (pe_non.imp fun _ _ _ q => te_lit (fun H => by simp only [Rep]) q) rfl
  · cases (by simpa using h : _ = _)
    exact tri_plain (pe_bl.imp fun _ _ _ q => te_lit (fun H => by simp only [Rep]) q) rfl
  · cases (by simpa using h : _ = _)
    exact tri_plain (pe_int.imp fun _ _ _ q => te_lit (fun H => by simp only [Rep]) q) rfl
  · cases (by simpa using h : _ = _)
    exact tri_plain (pe_str.imp fun _ _ _ q => te_lit (fun H => by simp only [Rep]) q) rfl
theorem ge_con (y : Str) (d : D) : GE T cl (.con y d) := by
  intro X c EX k x C h
  cases x <;> simp only [isE, Bool.false_eq_true] at h
  rename_i z p
  simp only [Bool.and_eq_true, decide_eq_true_eq] at h
  obtain ⟨⟨⟨h1, h2⟩, h3⟩, h4⟩ := h
  split at h4
  · rename_i d' hd
    rw [Bool.and_eq_true] at h4
    cases D.of_same _ _ h4.1
    obtain ⟨u, v, g1, g2, g3⟩ := C.cons _ _ hd
    exact tri_plain ((pe_glob (C.gl h2) g1 g2 (okN h3).1).imp fun _ _ _ q => te_con (g3.rep h4.2) q) rfl
  · cases h4
theorem ge_tup {es : G.E} (g : GA T cl es) : GE T cl (.tup es) := by
  intro X c EX k x C h
  cases x <;> simp only [isE, Bool.false_eq_true] at h
  simp only [Bool.and_eq_true, decide_eq_true_eq] at h
  exact tri_plain ((pe_tup (g.1 X c EX k _ C h.1).1).imp fun _ _ _ q => te_tup h.2 q) rfl
theorem ge_lst {es : G.E} (g : GA T cl es) : GE T cl (.lst es) := by
  intro X c EX k x C h
  cases x <;> simp only [isE, Bool.false_eq_true] at h
  simp only [Bool.and_eq_true, decide_eq_true_eq] at h
  exact tri_plain ((pe_lst (g.1 X c EX k _ C h.1).1).imp fun _ _ _ q => te_lst h.2 q) rfl
theorem ge_bin {o : Bop} {a b : G.E} (ga : GE T cl a) (gb : GE T cl b) : GE T cl (.bin o a b) := by
  intro X c EX k x C h
  cases x <;> simp only [isE, Bool.false_eq_true] at h
  simp only [Bool.and_eq_true, decide_eq_true_eq] at h
  obtain ⟨⟨rfl, h2⟩, h3⟩ := h
  exact tri_plain ((pe_op (opD o) (ga X c EX k _ C h2).1 (gb X c EX k _ C h3).1).imp fun _ _ _ q => te_bin q) rfl
theorem ge_neg {a : G.E} (ga : GE T cl a) : GE T cl (.neg a) := by
  intro X c EX k x C h
  cases x <;> simp only [isE, Bool.false_eq_true] at h
  simp only [Bool.and_eq_true, decide_eq_true_eq] at h
  obtain ⟨rfl, h2⟩ := h
  exact tri_plain ((pe_un un_neg (ga X c EX k _ C h2).1).imp fun _ _ _ q => te_neg q) rfl
theorem ge_not {a : G.E} (ga : GE T cl a) : GE T cl (.not a) := by
  intro X c EX k x C h
  cases x <;> simp only [isE, Bool.false_eq_true] at h
  simp only [Bool.and_eq_true, decide_eq_true_eq] at h
  obtain ⟨⟨rfl, h2⟩, h3⟩ := h
  obtain ⟨p1, p2, _⟩ := ga X c EX k _ C h2
  exact ⟨(pe_not p1).imp fun _ _ _ q => te_not q, fun _ => (pt_not (p2 h3)).imp fun _ _ _ q => tt_not q, fun _ _ _ z => (nomatch z)⟩
theorem ge_cmp {o : Cop} {a b : G.E} (ga : GE T cl a) (gb : GE T cl b) : GE T cl (.cmp o a b) := by
  intro X c EX k x C h
  unfold isE at h
  split at h <;> first | contradiction | skip
  all_goals (rename_i e; first | cases e | skip)
  simp only [Bool.and_eq_true, decide_eq_true_eq] at h
  obtain ⟨⟨⟨rfl, h2⟩, h3⟩, h4⟩ := h
  have p1 := (ga X c EX k _ C h2).1
  have p2 := (gb X c EX k _ C h3).1
  exact ⟨(pe_cmpR (opCN C.units o) p1 p2 (behind_ok h4 _)).imp fun _ _ _ q => te_cmp q, fun _ => (pt_cmpR (opCN C.units o) p1 p2 (behind_ok h4 _)).imp fun _ _ _ q => te_cmp (tt_te q), fun _ _ _ z => (nomatch z)⟩
theorem ge_chn {o p : Cop} {a b d : G.E} (ga : GE T cl a) (gb : GE T cl b) (gd : GE T cl d) : GE T cl (.chn o p a b d) := by
  intro X c EX k x C h
  unfold isE at h
  split at h <;> first | contradiction | skip
  all_goals (rename_i e; first | cases e | skip)
  simp only [Bool.and_eq_true, decide_eq_true_eq] at h
  obtain ⟨⟨⟨⟨⟨⟨rfl, rfl⟩, h2⟩, h3⟩, h4⟩, h5⟩, h6⟩ := h
  have p1 := (ga X c EX k _ C h2).1
  have p2 := (gb X c EX k _ C h3).1
  have p3 := (gd X c EX k _ C h4).1
  have hm : ∀ y z, headOk z = true → lastMarks [cOf o, cOf p] [y, z] = false := fun y z hz => by
    show behindInMarks (cOf p) z = false
    exact behind_ok hz _
  exact ⟨(pe_chain (opCN C.units o) (opCN C.units p) p1 p2 p3 (hm _ _ h6)).imp fun _ _ _ q => te_chn q, fun _ => (pt_chain (opCN C.units o) (opCN C.units p) p1 p2 p3 (hm _ _ h6)).imp fun _ _ _ q => te_chn (tt_te q), fun _ _ _ z => (nomatch z)⟩
theorem ge_and {a b : G.E} (ga : GE T cl a) (gb : GE T cl b) : GE T cl (.and a b) := by
  intro X c EX k x C h
  unfold isE at h
  split at h <;> first | contradiction | skip
  all_goals (rename_i e; first | cases e | skip)
  simp only [Bool.and_eq_true, decide_eq_true_eq] at h
  obtain ⟨⟨⟨⟨rfl, h2⟩, h3⟩, h4⟩, h5⟩ := h
  obtain ⟨p1, p2, _⟩ := ga X c EX k _ C h2
  split at h5
  · obtain ⟨q1, q2, _⟩ := gb X c EX k _ C h5
    have w := fun p => (pw_and (pos := p) (p2 h3) (pw_and1 (q2 h4))).imp fun _ _ _ q => tt_and q
    exact ⟨(pe_and p1 (pe_one q1)).imp fun _ _ _ q => te_and q, fun _ => PW.pt (w _), fun op l p z => w _⟩
  · obtain ⟨q1, _, q3⟩ := gb X c EX k _ C h5
    have w := (pw_and (p2 h3) (q3 _ _ _ rfl)).imp fun _ _ _ q => tt_and q
    exact ⟨(pe_and p1 q1).imp fun _ _ _ q => te_and q, fun _ => PW.pt w, fun op l p z => w⟩
theorem ge_or {a b : G.E} (ga : GE T cl a) (gb : GE T cl b) : GE T cl (.or a b) := by
  intro X c EX k x C h
  unfold isE at h
  split at h <;> first | contradiction | skip
  all_goals (rename_i e; first | cases e | skip)
  simp only [Bool.and_eq_true, decide_eq_true_eq] at h
  obtain ⟨⟨⟨⟨rfl, h2⟩, h3⟩, h4⟩, h5⟩ := h
  obtain ⟨p1, p2, _⟩ := ga X c EX k _ C h2
  split at h5
  · obtain ⟨q1, q2, _⟩ := gb X c EX k _ C h5
    have w := fun p => (pw_or (pos := p) (p2 h3) (pw_or1 (q2 h4))).imp fun _ _ _ q => tt_or q
    exact ⟨(pe_or p1 (pe_one q1)).imp fun _ _ _ q => te_or q, fun _ => PW.pt (w _), fun op l p z => w _⟩
  · obtain ⟨q1, _, q3⟩ := gb X c EX k _ C h5
    have w := (pw_or (p2 h3) (q3 _ _ _ rfl)).imp fun _ _ _ q => tt_or q
    exact ⟨(pe_or p1 q1).imp fun _ _ _ q => te_or q, fun _ => PW.pt w, fun op l p z => w⟩
theorem ge_ifx {t a b : G.E} (gt : GE T cl t) (ga : GE T cl a) (gb : GE T cl b) : GE T cl (.ifx t a b) := by
  intro X c EX k x C h
  cases x <;> simp only [isE, Bool.false_eq_true] at h
  simp only [Bool.and_eq_true, decide_eq_true_eq] at h
  obtain ⟨⟨⟨h1, h2⟩, h3⟩, h4⟩ := h
  exact ⟨(pe_ifExp ((gt X c EX k _ C h1).2.1 h2) (ga X c EX k _ C h3).1 (gb X c EX k _ C h4).1).imp fun _ _ _ q => te_ifx q, fun z => (by cases z), fun _ _ _ z => (nomatch z)⟩
theorem ge_idx {a b : G.E} (ga : GE T cl a) (gb : GE T cl b) : GE T cl (.idx a b) := by
  intro X c EX k x C h
  cases x <;> simp only [isE, Bool.false_eq_true] at h
  simp only [Bool.and_eq_true, decide_eq_true_eq] at h
  obtain ⟨⟨h1, h2⟩, h3⟩ := h
  exact tri_plain ((pe_ix (ixN C.units) (ga X c EX k _ C h1).1 (gb X c EX k _ C h2).1 (plain_ok h3)).imp fun _ _ _ q => te_idx q) rfl
theorem ge_sl {a lo hi : G.E} (ga : GE T cl a) (gl : GE T cl lo) (gh : GE T cl hi) : GE T cl (.sl a lo hi) := by
  intro X c EX k x C h
  unfold isE at h
  split at h <;> first | contradiction | skip
  all_goals (rename_i e; first | cases e | skip)
  simp only [Bool.and_eq_true, decide_eq_true_eq] at h
  obtain ⟨⟨h1, h2⟩, h3⟩ := h
  have part : ∀ {e : G.E} {l : Option Expr}, GE T cl e → (match l with | none => nonE e | some y => isE c e y && !nonE e) = true → PO X l (tO X T cl EX e) := fun {e l} g q => by
    unfold tO
    split at q
    · rw [if_pos q]; exact po_none
    · simp only [Bool.and_eq_true, Bool.not_eq_true'] at q
      rw [if_neg (by rw [q.2]; decide)]
      exact po_some (g X c EX k _ C q.1).1
  exact tri_plain ((pe_slice slD (ga X c EX k _ C h1).1 (part gl h2) (part gh h3)).imp fun _ _ _ q => te_sl q) rfl
theorem ga_nil : GA T cl .nil := by
  refine ⟨?_, fun _ _ z => by cases z⟩
  intro X c EX k l C h
  cases l <;> simp only [isEs, Bool.false_eq_true] at h
  exact ⟨pa_nil.imp fun _ _ _ q => te_nil q, rfl⟩
theorem ga_cons {a es : G.E} (ga : GE T cl a) (gs : GA T cl es) : GA T cl (.cons a es) := by
  refine ⟨?_, fun _ _ z => by cases z; exact ga⟩
  intro X c EX k l C h
  cases l <;> simp only [isEs, Bool.false_eq_true] at h
  simp only [Bool.and_eq_true] at h
  obtain ⟨p1, p2⟩ := gs.1 X c EX k _ C h.2
  exact ⟨(pa_cons (ga X c EX k _ C h.1.1).1 p1 (star_ok h.1.2 _ _)).imp fun _ _ _ q => te_cons q, by rw [List.all_cons, h.1.2, p2]; rfl⟩
theorem isEs_len : ∀ {es : G.E} {l : List Expr}, isEs c es l = true → lenE es = l.length
  | .nil, [], _ => rfl
  | .nil, _ :: _, h => by simp only [isEs, Bool.false_eq_true] at h
  | .cons e es, [], h => by simp only [isEs, Bool.false_eq_true] at h
  | .cons e es, x :: xs, h => by
    simp only [isEs, Bool.and_eq_true] at h
    simp only [lenE, List.length_cons, isEs_len h.2]
  | .var _, l, h | .lit _, l, h | .con _ _, l, h | .tup _, l, h | .lst _, l, h | .dnew, l, h | .bin _ _ _, l, h | .neg _, l, h | .not _, l, h
  | .cmp _ _ _, l, h | .chn _ _ _ _ _, l, h | .and _ _, l, h | .or _ _, l, h | .ifx _ _ _, l, h | .idx _ _, l, h | .sl _ _ _, l, h | .rev _, l, h
  | .call _ _, l, h | .blt _ _, l, h | .mth _ _ _, l, h | .rng1 _, l, h | .rng2 _ _, l, h | .enm _, l, h | .itr _, l, h | .lrng _, l, h | .trng _, l, h | .srt _, l, h | .tryc _ _ _ _, l, h
  | .comp _ _ _ _, l, h | .compc _ _ _ _ _, l, h => by simp only [isEs, Bool.false_eq_true] at h
theorem passAt_of {X : Cx} {CX : CXT} {E : XK} (h : Passes CX X E) : ∀ σ, PassesAt CX X σ E := fun σ pins H s e s' I q => h pins σ H s e s' I q
theorem pe_callS0 {f : Addr} {fd : FuncData} {ps : List Str} {sp : Sp} {E : L2.St → XK} {x : Str} {p pos : Pos} {CX : CXT} (F : FnOk X.prog X.w X.K X.mg X.base CX k f fd ps sp) (hr : Room k X.A) (hg : Gl X x) (hm : X.mg x = some (.ref f)) (hk : PySem.W.keepIn X.K (.ref f) = true) (hb : Binds X.K fd ps []) (hx : ∀ σ, PassesAt CX X σ (E σ))
    (hdb : (x == ("__debug__" : Str)) = false) : PE X (.Call (.Name x p) [] [] pos) (tCallS sp E tNil) :=
  ⟨fun pins s σ H Q I h => wpAny_Call_Name_kw (ld_glob I hg hm (PySem.W.callWith_K0 I.kIn hk (run_fnS (us := []) F hr hb (hx σ) I .nil h)) hdb)⟩
/-- a call, whatever it hands back -/
theorem pe_callG {i : Nat} {es : G.E} {f : Str} {l : List Expr} {p pos : Pos} (gs : GA T cl es) (C : CtOk T cl X c EX k) (h1 : c.fns[i]? = some (f, l.length)) (h2 : glB c.sc f = true) (h3 : okName f = true) (h4 : isEs c es l = true) (h5 : l.all headOk = true) :
    PE X (.Call (.Name f p) l [] pos) (tC0 X T cl EX i es) := by
  obtain ⟨m, hm, a, fd, ps, F, g1, g2, g3⟩ := C.fns i f _ h1
  obtain ⟨pa, ph⟩ := gs.1 X c EX k l C h4
  cases l with
  | nil =>
    refine (pe_callS0 F C.room (C.gl h2) g1 g2 g3 C.pass (okN h3).1).imp fun σ H Q q => ?_
    cases es <;> simp only [isEs, Bool.false_eq_true] at h4
    have z := te_call0 (x := f) hm (isEs_len (c := c) (es := .nil) (l := []) (by simp only [isEs])) q
    exact te_nil z
  | cons y l =>
    rw [List.all_cons, Bool.and_eq_true] at h5
    exact (pe_callS F C.room (C.gl h2) g1 g2 g3 C.pass pa (okN h3).1 (star_ok h5.1 _ _) (stars_ok h5.2 _ _)).imp fun σ H Q q => te_call0 (x := f) hm (isEs_len h4) q
theorem ge_call {i : Nat} {es : G.E} (gs : GA T cl es) : GE T cl (.call i es) := by
  intro X c EX k x C h
  unfold isE at h
  split at h <;> first | contradiction | skip
  all_goals (rename_i e; first | cases e | skip)
  simp only [Bool.and_eq_true, decide_eq_true_eq] at h
  obtain ⟨⟨⟨⟨⟨h0, h1⟩, h2⟩, h3⟩, h4⟩, h5⟩ := h
  cases List.isEmpty_iff.mp h0
  exact tri_plain ((pe_callG gs C h1 h2 h3 h4 h5).imp fun _ _ _ q => te_call q) rfl
theorem ge_mth {m : Mth} {o es : G.E} (go : GE T cl o) (gs : GA T cl es) : GE T cl (.mth m o es) := by
  intro X c EX k x C h
  unfold isE at h
  split at h <;> first | contradiction | skip
  all_goals (rename_i e; first | cases e | skip)
  simp only [Bool.and_eq_true, decide_eq_true_eq] at h
  obtain ⟨⟨⟨⟨⟨⟨⟨h0, rfl⟩, rfl⟩, h1⟩, h2⟩, h3⟩, h4⟩, h5⟩ := h
  cases List.isEmpty_iff.mp h0
  exact tri_plain ((pe_bm F.plainAttrs_list F.slot_list_count F.type_list_count (mt_cnt (by have := C.room.un; show X.A.units + 1 + 64 < cLine; omega)) (go X c EX k _ C h1).1 (gs.1 X c EX k _ C h2).1 (base_ok h4 _ _ _) (by rw [star_ok h3]; rfl) h5 (star_ok h3 _ _) rfl).imp fun _ _ _ q => te_mth q) rfl
theorem ge_m1 {o : G.M1} {a b : G.E} (ga : GE T cl a) (gb : GE T cl b) : GE T cl (.m1 o a b) := by
  intro X c EX k x C h
  unfold isE at h
  split at h <;> first | contradiction | skip
  all_goals (rename_i e; first | cases e | skip)
  simp only [Bool.and_eq_true, decide_eq_true_eq] at h
  obtain ⟨⟨⟨⟨⟨⟨h0, rfl⟩, h1⟩, h2⟩, h3⟩, h4⟩, h5⟩ := h
  cases List.isEmpty_iff.mp h0
  have p1 := (ga X c EX k _ C h1).1
  have p2 := (gb X c EX k _ C h2).1
  cases o
  · exact tri_plain ((pe_m1 F.slot_str_split F.type_str_split mt_spl p1 p2 (star_ok h3 _ _) (base_ok h4 _ _ _) h5).imp fun _ _ _ q => te_m1s (by decide) q) rfl
  · exact tri_plain ((pe_m1 F.slot_str_join F.type_str_join mt_joi p1 p2 (star_ok h3 _ _) (base_ok h4 _ _ _) h5).imp fun _ _ _ q => te_m1s (by decide) q) rfl
  · exact tri_plain ((pe_bm F.plainAttrs_list F.slot_list_index F.type_list_index mt_lix p1 (pa_cons p2 pa_nil (star_ok h3 _ _)) (base_ok h4 _ _ _) (by rw [star_ok h3]; rfl) h5 (star_ok h3 _ _) rfl).imp fun _ _ _ q => te_m1l q) rfl
theorem ge_nin {a : G.E} (ga : GE T cl a) : GE T cl (.nin a) := by
  intro X c EX k x C h
  unfold isE at h
  split at h <;> first | contradiction | skip
  all_goals (rename_i e; first | cases e | skip)
  simp only [Bool.and_eq_true, decide_eq_true_eq] at h
  obtain ⟨⟨rfl, h2⟩, h3⟩ := h
  have p2 := (ga X c EX k _ C h2).1
  have hu : X.A.in1.units + 64 < cLine := by have := C.room.un; show X.A.units + 1 + 64 < cLine; omega
  exact ⟨(pe_cmpR (op_nin hu) pe_non p2 (behind_ok h3 _)).imp fun _ _ _ q => te_nin q, fun _ => (pt_cmpR (op_nin hu) pe_non p2 (behind_ok h3 _)).imp fun _ _ _ q => te_nin (tt_te q), fun _ _ _ z => (nomatch z)⟩
theorem ge_cget {kvs : List (Str × Int)} {a : G.E} (ga : GE T cl a) : GE T cl (.cget kvs a) := by
  intro X c EX k x C h
  unfold isE at h
  split at h <;> first | contradiction | skip
  all_goals (rename_i e; first | cases e | skip)
  simp only [Bool.and_eq_true, decide_eq_true_eq] at h
  obtain ⟨⟨⟨⟨⟨⟨⟨⟨h0, rfl⟩, h1⟩, h2⟩, h3⟩, h4⟩, h5⟩, h6⟩, h7⟩ := h
  cases List.isEmpty_iff.mp h0
  obtain ⟨k1, k2, k3, k4⟩ := pps_kv (X := X) h1
  refine tri_plain ((pe_dget1 (by have := C.room.un; omega) (pe_disp k1 k2 k3 (fun z => h4 (List.eq_nil_of_length_eq_zero (by rw [← k4, z]; rfl))) (by omega)) (ga X c EX k _ C h5).1 ⟨rfl, stars_few h6, h7, by rw [star_ok h6]; rfl⟩).imp fun _ _ _ q => te_cget h2 h3 q) rfl
theorem ge_gidx {nm : Str} {kvs : List (Int × Str)} {a : G.E} (ga : GE T cl a) : GE T cl (.gidx nm kvs a) := by
  intro X c EX k x C h
  unfold isE at h
  split at h <;> first | contradiction | skip
  all_goals (rename_i e; first | cases e | skip)
  simp only [Bool.and_eq_true, decide_eq_true_eq] at h
  obtain ⟨⟨⟨⟨⟨rfl, h1⟩, h2⟩, h3⟩, h4⟩, h5⟩ := h
  split at h3 <;> first | contradiction | skip
  rename_i d hd
  obtain ⟨u, v, g1, g2, g3⟩ := C.cons _ _ hd
  unfold frzKv at h3
  split at h3 <;> first | contradiction | skip
  obtain ⟨kv, q1, q2⟩ := g3
  rw [decide_eq_true_eq, q1] at h3
  cases h3
  exact tri_plain ((pe_ix ix_dic (pe_glob (C.gl h1) g1 g2 (okN h2).1) (ga X c EX k _ C h4).1 (plain_ok h5)).imp fun _ _ _ q => te_gidx q2 q) rfl
theorem ge_rev {a : G.E} (ga : GE T cl a) : GE T cl (.rev a) := by
  intro X c EX k x C h
  unfold isE at h
  split at h <;> first | contradiction | skip
  all_goals (rename_i e; first | cases e | skip)
  exact tri_plain ((pe_revL (ga X c EX k _ C h).1).imp fun _ _ _ q => te_rev q) rfl
/-! ### players -/
theorem slot_split {i : Nat} {x : Str} (h : slotB c i x = true) : c.N[i]? = some x ∧ visB c.sc x = true ∧ okName x = true := by
  unfold slotB at h
  simp only [Bool.and_eq_true, decide_eq_true_eq] at h
  exact ⟨h.1.1, h.1.2, h.2⟩
theorem CtOk.slotE (C : CtOk T cl X c EX k) {i : Nat} {x : Str} {p : Pos} (h : slotB c i x = true) : PE X (.Name x p) (tVar i) := by
  obtain ⟨h1, h2, h3⟩ := slot_split h
  exact pe_var (by rw [C.N]; exact h1) (by rw [C.sc]; exact vis_of h2) (okN h3).1 (okN h3).2.1
theorem CtOk.mt (C : CtOk T cl X c EX k) {i : Nat} {m : Str} {n : Nat} (h : mtB c i m n = true) (hm : m ≠ ("__init__" : Str)) : ∃ f Cl a j, T[i]? = some f ∧ PlyK X.K X.mg Cl ∧ MtF X.K Cl m a ∧ plyNames.contains m = false ∧ j + 2 ≤ k ∧ FnR X.prog X.w X.K X.mg X.base (L2.CX X.prog X.w) j a (spD X.prog X.w X.K cl n f) := by
  unfold mtB at h
  simp only [Bool.and_eq_true, decide_eq_true_eq] at h
  obtain ⟨f, e1, j, hj, Cl, a, h1, h3, h4, _, _⟩ := C.mts _ _ _ h.2
  exact ⟨f, Cl, a, j, by rw [← e1]; congr 1; omega, h1, (h4 hm).1, h3, hj, (h4 hm).2⟩
theorem CtOk.ini (C : CtOk T cl X c EX k) {i : Nat} {n : Nat} (h : mtB c i "__init__" n = true) : ∃ f Cl a j, T[i]? = some f ∧ PlyK X.K X.mg Cl ∧ Mk X.K Cl a ∧ j + 2 ≤ k ∧ FnR X.prog X.w X.K X.mg X.base (L2.CX X.prog X.w) j a (spInit X.K f) := by
  unfold mtB at h
  simp only [Bool.and_eq_true, decide_eq_true_eq] at h
  obtain ⟨f, e1, j, hj, Cl, a, h1, h3, _, _, h5⟩ := C.mts _ _ _ h.2
  exact ⟨f, Cl, a, j, by rw [← e1]; congr 1; omega, h1, (h5 rfl).1, hj, (h5 rfl).2⟩
theorem meth_of {K : PySem.W.Frag} {Cl : Addr} {m : Str} {a : Addr} (h : MtF K Cl m a) (n : propNames.contains m = false) : Meth K Cl m a := by
  unfold MtF at h
  rw [n] at h
  exact h
theorem prop_of {K : PySem.W.Frag} {Cl : Addr} {m : Str} {a : Addr} (h : MtF K Cl m a) (n : propNames.contains m = true) : ∃ p, PropOf K Cl m p a := by
  unfold MtF at h
  rw [n] at h
  exact h
theorem call_past {x nm : Str} {i : Nat} {Cl : Addr} {p p2 : Pos} (C : CtOk T cl X c EX k) (h : slotB c i x = true) : PE X (.Attribute (.Name x p) nm p2) (tFld X.K (tVar i) nm) := pe_fld (C.slotE h) (base_ok rfl _ _ _)
theorem ge_fld (f : Fd) (i : Nat) : GE T cl (.fld f i) := by
  intro X c EX k x C h
  unfold isE at h
  split at h <;> first | contradiction | skip
  all_goals (rename_i e; first | cases e | skip)
  simp only [Bool.and_eq_true, decide_eq_true_eq] at h
  obtain ⟨⟨h1, rfl⟩, h3⟩ := h
  obtain ⟨Cl, pk⟩ := C.ply h3
  exact tri_plain ((pe_fld (C.slotE h1) (base_ok rfl _ _ _)).imp fun _ _ _ q => te_fld pk q) rfl
theorem ge_plen (i : Nat) : GE T cl (.plen i) := by
  intro X c EX k x C h
  unfold isE at h
  split at h <;> first | contradiction | skip
  all_goals (rename_i e; first | cases e | skip)
  simp only [Bool.and_eq_true, decide_eq_true_eq] at h
  obtain ⟨⟨⟨⟨⟨h0, h1⟩, rfl⟩, h2⟩, rfl⟩, h3⟩ := h
  cases List.isEmpty_iff.mp h0
  obtain ⟨Cl, pk⟩ := C.ply h3
  exact tri_plain ((pe_callB cb_len (C.gl h1) (C.blt "len" (by decide +kernel)) (by decide +kernel) (pa_cons (pe_fld (C.slotE h2) (base_ok rfl _ _ _)) pa_nil rfl) (by decide +kernel) (by decide +kernel) rfl rfl).imp fun _ _ _ q => te_plen pk q) rfl
theorem ge_pemp (i : Nat) : GE T cl (.pemp i) := by
  intro X c EX k x C h
  unfold isE at h
  split at h <;> first | contradiction | skip
  all_goals (rename_i e; first | cases e | skip)
  simp only [Bool.and_eq_true, decide_eq_true_eq] at h
  obtain ⟨⟨⟨rfl, h2⟩, rfl⟩, h3⟩ := h
  obtain ⟨Cl, pk⟩ := C.ply h3
  rename_i p1 p2 p3 p4
  have p1 : PE X (.Attribute (.Name _ p1) "past" p2) (tFld X.K (tVar i) "past") := pe_fld (C.slotE h2) (base_ok rfl _ _ _)
  have p2 : PE X (.List [] p3) (tLst tNil) := pe_lst pa_nil
  exact ⟨(pe_cmpR (opCN C.units .eq) p1 p2 (behind_ok rfl _)).imp fun _ _ _ q => te_pemp pk q, fun _ => (pt_cmpR (opCN C.units .eq) p1 p2 (behind_ok rfl _)).imp fun _ _ _ q => te_pemp pk (tt_te q), fun _ _ _ z => (nomatch z)⟩
theorem ge_pmost (i : Nat) : GE T cl (.pmost i) := by
  intro X c EX k x C h
  unfold isE at h
  split at h <;> first | contradiction | skip
  all_goals (rename_i e; first | cases e | skip)
  simp only [Bool.and_eq_true, decide_eq_true_eq] at h
  obtain ⟨⟨h1, rfl⟩, h3⟩ := h
  obtain ⟨Cl, pk⟩ := C.ply h3
  exact tri_plain ((pe_con (C.slotE h1) (base_ok rfl _ _ _)).imp fun _ _ _ q => te_pmost pk q) rfl
theorem player_name : ("Player" : Str) ≠ ("__name__" : Str) ∧ (("Player" : Str) == ("__debug__" : Str)) = false := by decide +kernel
theorem ge_cmost : GE T cl .cmost := by
  intro X c EX k x C h
  unfold isE at h
  split at h <;> first | contradiction | skip
  all_goals (rename_i e; first | cases e | skip)
  simp only [Bool.and_eq_true, decide_eq_true_eq] at h
  obtain ⟨⟨⟨rfl, h1⟩, rfl⟩, h3⟩ := h
  obtain ⟨Cl, pk⟩ := C.ply h3
  exact tri_plain ((ClX.pe_cval (pe_glob (v := .ref Cl) (C.gl h1) pk.gl rfl player_name.2) (base_ok rfl _ _ _)).imp fun _ _ _ q => te_cmost pk q) rfl
theorem ge_isply (i : Nat) : GE T cl (.isply i) := by
  intro X c EX k x C h
  unfold isE at h
  split at h <;> first | contradiction | skip
  all_goals (rename_i e; first | cases e | skip)
  simp only [Bool.and_eq_true, decide_eq_true_eq] at h
  obtain ⟨⟨⟨⟨⟨⟨h0, h1⟩, rfl⟩, h2⟩, rfl⟩, h4⟩, h3⟩ := h
  cases List.isEmpty_iff.mp h0
  obtain ⟨Cl, pk⟩ := C.ply h3
  exact tri_plain ((pe_callB call_isi (C.gl h1) (C.blt "isinstance" (by decide +kernel)) (by decide +kernel) (pa_cons (C.slotE h2) (pa_cons (pe_glob (v := .ref Cl) (C.gl h4) pk.gl rfl player_name.2) pa_nil rfl) rfl) (by decide +kernel) (by decide +kernel) rfl rfl).imp fun _ _ _ q => te_isply pk q) rfl
theorem ge_prop (m i : Nat) : GE T cl (.prop m i) := by
  intro X c EX k x C h
  unfold isE at h
  split at h <;> first | contradiction | skip
  all_goals (rename_i e; first | cases e | skip)
  simp only [Bool.and_eq_true, decide_eq_true_eq] at h
  obtain ⟨⟨⟨h1, h2⟩, h3⟩, h7⟩ := h
  obtain ⟨f, Cl, a, j, e1, pk, e2, e3, e4, F⟩ := C.mt h2 h7
  obtain ⟨p, hp⟩ := prop_of e2 h3
  exact tri_plain ((pe_propR pk.cls hp F (C.room.mono (by omega)) (C.slotE h1) (base_ok rfl _ _ _)).imp fun _ _ _ q => te_prop pk e1 q) rfl
theorem ge_olen (m i : Nat) : GE T cl (.olen m i) := by
  intro X c EX k x C h
  unfold isE at h
  split at h <;> first | contradiction | skip
  all_goals (rename_i e; first | cases e | skip)
  simp only [Bool.and_eq_true, decide_eq_true_eq] at h
  obtain ⟨⟨⟨⟨h0, h1⟩, rfl⟩, h2⟩, h3⟩ := h
  cases List.isEmpty_iff.mp h0
  obtain ⟨f, Cl, a, j, e1, pk, e2, e3, e4, F⟩ := C.mt h3 (by decide +kernel)
  exact tri_plain ((pe_callB (cr_lenO (meth_of e2 (by decide +kernel)) F (C.room.mono (by omega))) (C.gl h1) (C.blt "len" (by decide +kernel)) (by decide +kernel) (pa_cons (C.slotE h2) pa_nil rfl) (by decide +kernel) (by decide +kernel) rfl rfl).imp fun _ _ _ q => te_olen pk e1 q) rfl
theorem ge_obool (m i : Nat) : GE T cl (.obool m i) := by
  intro X c EX k x C h
  unfold isE at h
  split at h <;> first | contradiction | skip
  all_goals (rename_i e; first | cases e | skip)
  simp only [Bool.and_eq_true, decide_eq_true_eq] at h
  obtain ⟨⟨⟨⟨h0, h1⟩, rfl⟩, h2⟩, h3⟩ := h
  cases List.isEmpty_iff.mp h0
  obtain ⟨f, Cl, a, j, e1, pk, e2, e3, e4, F⟩ := C.mt h3 (by decide +kernel)
  exact tri_plain ((pe_callTy (cr_boolO (meth_of e2 (by decide +kernel)) F (C.room.mono (by omega))) (C.gl h1) (C.blt "bool" (by decide +kernel)) (by decide +kernel) (pa_cons (C.slotE h2) pa_nil rfl) (by decide +kernel) (by decide +kernel) rfl rfl).imp fun _ _ _ q => te_obool pk e1 q) rfl
theorem ge_oin {a : G.E} (ga : GE T cl a) (m i : Nat) : GE T cl (.oin m a i) := by
  intro X c EX k x C h
  unfold isE at h
  split at h <;> first | contradiction | skip
  all_goals (rename_i e; first | cases e | skip)
  simp only [Bool.and_eq_true, decide_eq_true_eq] at h
  obtain ⟨⟨⟨rfl, h1⟩, h2⟩, h3⟩ := h
  obtain ⟨f, Cl, b, j, e1, pk, e2, e3, e4, F⟩ := C.mt h3 (by decide +kernel)
  have op := op_inO (meth_of e2 (by decide +kernel)) F (C.room.mono (by omega))
  have p1 := (ga X c EX k _ C h1).1
  exact ⟨(pe_cmpR op p1 (C.slotE h2) (behind_ok rfl _)).imp fun _ _ _ q => te_oin pk e1 q, fun _ => (pt_cmpR op p1 (C.slotE h2) (behind_ok rfl _)).imp fun _ _ _ q => te_oin pk e1 (tt_te q), fun _ _ _ z => (nomatch z)⟩
theorem ge_oeq {a : G.E} (ga : GE T cl a) (m i : Nat) : GE T cl (.oeq m i a) := by
  intro X c EX k x C h
  unfold isE at h
  split at h <;> first | contradiction | skip
  all_goals (rename_i e; first | cases e | skip)
  simp only [Bool.and_eq_true, decide_eq_true_eq] at h
  obtain ⟨⟨⟨⟨rfl, h1⟩, h2⟩, h4⟩, h3⟩ := h
  obtain ⟨f, Cl, b, j, e1, pk, e2, e3, e4, F⟩ := C.mt h3 (by decide +kernel)
  have op := op_eqO pk (meth_of e2 (by decide +kernel)) F (C.room.mono (by omega))
  have p1 := (ga X c EX k _ C h2).1
  exact ⟨(pe_cmpR op (C.slotE h1) p1 (behind_ok h4 _)).imp fun _ _ _ q => te_oeq pk e1 q, fun _ => (pt_cmpR op (C.slotE h1) p1 (behind_ok h4 _)).imp fun _ _ _ q => te_oeq pk e1 (tt_te q), fun _ _ _ z => (nomatch z)⟩
theorem noStop0 {K : PySem.W.Frag} : NoStop K E0 := fun _ _ _ h => h.elim
theorem ge_plist (i : Nat) : GE T cl (.plist i) := by
  intro X c EX k x C h
  unfold isE at h
  split at h <;> first | contradiction | skip
  all_goals (rename_i e; first | cases e | skip)
  simp only [Bool.and_eq_true, decide_eq_true_eq] at h
  obtain ⟨⟨⟨⟨⟨⟨⟨h0, h1⟩, h2⟩, rfl⟩, h3⟩, rfl⟩, h4⟩, h5⟩ := h
  cases List.isEmpty_iff.mp h0
  cases List.isEmpty_iff.mp h1
  obtain ⟨Cl, a, j, fd, pk, hm, hj, F, hb⟩ := C.lin h5
  exact tri_plain ((pe_listG (pgen_meth0 (E := E0) (C.slotE h3) pk.cls hm F (C.room.mono (by omega)) hb .nil (mt_eval (mt_form rfl (by decide)) h4 (base_ok rfl _ _ _))) passL noStop0 (C.room.mono (by omega)) (C.gl h2) (C.blt "list" (by decide +kernel)) (by decide +kernel) (by decide +kernel) (by decide +kernel) rfl).imp fun _ _ _ q => te_plist pk q) rfl
theorem pe_mcallG {m i : Nat} {es : G.E} {y mn : Str} {l : List Expr} {p1 apos cpos : Pos} (gs : GA T cl es) (C : CtOk T cl X c EX k) (h1 : slotB c i y = true) (h2 : mtB c m mn (l.length + 1) = true) (h6 : propNames.contains mn = false) (h8 : mn ≠ ("__init__" : Str)) (h3 : isEs c es l = true) (h4 : l.all headOk = true) (h5 : (apos.endLine == cpos.line) = true) (h7 : l.length < 30) :
    PE X (.Call (.Attribute (.Name y p1) mn apos) l [] cpos) (tE X T cl EX (.mcall m i es)) := by
  have ht := mt_eval (o := .Name y p1) (m := mn) (env := X.env) (mt_form (stars_ok h4 X.env cpos) h7) h5 (base_ok rfl _ _ _)
  obtain ⟨f, Cl, b, j, e1, pk, e2, e3, e4, F⟩ := C.mt h2 h8
  obtain ⟨pa, _⟩ := gs.1 X c EX k _ C h3
  have hm := meth_of e2 h6
  cases l with
  | nil =>
    cases es <;> simp only [isEs, Bool.false_eq_true] at h3
    exact (pe_mt0 (C.slotE h1) pk.cls hm F (C.room.mono (by omega)) C.pass ht).imp fun σ H Q q => by
      obtain ⟨v, hv, a, dx, fs, h1, h2, h3, q⟩ := te_mcall pk e3 e1 q
      exact ⟨v, hv, a, dx, fs, h1, h2, h3, te_nil q⟩
  | cons y l =>
    rw [List.all_cons, Bool.and_eq_true] at h4
    exact (pe_mt1 (C.slotE h1) pk.cls hm (by rw [← isEs_len h3] at F; exact F) (C.room.mono (by omega)) C.pass pa (star_ok h4.1 _ _) (stars_ok h4.2 _ _) ht).imp fun σ H Q q => te_mcall pk e3 e1 q
theorem ge_play0 (m i : Nat) : GE T cl (.play0 m i) := by
  intro X c EX k x C h
  unfold isE at h
  split at h <;> first | contradiction | skip
  all_goals (rename_i e; first | cases e | skip)
  simp only [Bool.and_eq_true, decide_eq_true_eq] at h
  obtain ⟨⟨⟨⟨h0, h1⟩, h2⟩, rfl⟩, h4⟩ := h
  cases List.isEmpty_iff.mp h0
  unfold mtB at h2
  simp only [Bool.and_eq_true, decide_eq_true_eq] at h2
  obtain ⟨f, e1, j, hj, Cl, a, pk, h3, h5, h6, _⟩ := C.mts _ _ _ h2.2
  have e1 : T[m]? = some f := by rw [← e1]; congr 1; omega
  exact tri_plain ((pe_mt0 (C.slotE h1) pk.cls (meth_of (h5 (by decide +kernel)).1 (by decide +kernel)) (h6 rfl) (C.room.mono (by omega)) C.pass (mt_eval (mt_form rfl (by decide)) h4 (base_ok rfl _ _ _))).imp fun _ _ _ q => te_play0 pk h3 e1 q) rfl
theorem ge_mcall {es : G.E} (gs : GA T cl es) (m i : Nat) : GE T cl (.mcall m i es) := by
  intro X c EX k x C h
  unfold isE at h
  split at h <;> first | contradiction | skip
  all_goals (rename_i e; first | cases e | skip)
  simp only [Bool.and_eq_true, Bool.not_eq_true', decide_eq_true_eq] at h
  obtain ⟨⟨⟨⟨⟨⟨⟨⟨h0, h1⟩, h2⟩, h6⟩, h8⟩, h3⟩, h4⟩, h5⟩, h7⟩ := h
  cases List.isEmpty_iff.mp h0
  exact tri_plain (pe_mcallG gs C h1 h2 h6 h8 h3 h4 h5 h7) rfl
/-! ### built-ins -/
theorem blt_rule (C : CtOk T cl X c EX k) {b : Blt} (h : bltF b ≠ .none) : (∃ id, bootBuiltins (bltN b) = some (.builtin id) ∧ CallR X (.builtin id) (rCD X.K (bltv b))) ∨ (∃ id, bootBuiltins (bltN b) = some (.type id) ∧ CallR X (.type id) (rCD X.K (bltv b))) := by
  cases b
  case len => exact .inl ⟨_, by decide +kernel, cb_len⟩
  case abs => exact .inl ⟨_, by decide +kernel, cb_abs⟩
  case int => exact .inr ⟨_, by decide +kernel, cb_int⟩
  case str => exact .inr ⟨_, by decide +kernel, cb_str⟩
  case bool => exact .inr ⟨_, by decide +kernel, cb_bool⟩
  case min2 => exact .inl ⟨_, by decide +kernel, cb_min2 C.calm⟩
  case max2 => exact .inl ⟨_, by decide +kernel, cb_max2 C.calm⟩
  case tuple => exact .inr ⟨_, by decide +kernel, cb_tuple⟩
  case list => exact .inr ⟨_, by decide +kernel, cb_list⟩
  case any => exact .inl ⟨_, by decide +kernel, cb_any C.calm⟩
  case all => exact .inl ⟨_, by decide +kernel, cb_all C.calm⟩
  case sum => exact .inl ⟨_, by decide +kernel, cb_sum C.calm⟩
  case maxl => exact .inl ⟨_, by decide +kernel, cb_maxl C.calm⟩
  case minp => exact .inl ⟨_, by decide +kernel, cb_minp C.calm C.units⟩
  case sorted => exact .inl ⟨_, by decide +kernel, cb_sorted⟩
  all_goals exact absurd rfl h
theorem blt_name {b : Blt} : bltN b ∈ bltNames ∧ bltN b ≠ ("__name__" : Str) ∧ (bltN b == ("__debug__" : Str)) = false := by cases b <;> decide +kernel
theorem ty_name {b : Blt} {t : String} (h : isTy b = some t) : bltN b = ("isinstance" : Str) ∧ (t : Str) ∈ bltNames ∧ (t : Str) ≠ ("__name__" : Str) ∧ ((t : Str) == ("__debug__" : Str)) = false ∧ bootBuiltins (t : Str) = some (.type t) := by
  cases b <;> simp only [isTy, Option.some.injEq, reduceCtorEq] at h <;> subst h <;> decide +kernel
theorem blt_call (C : CtOk T cl X c EX k) {b : Blt} {l : List Expr} {p pos : Pos} {t : TA} (pa : PA X l t) (k2 : l.all headOk = true) (k3 : l.length = bltArity b) (k4 : bltF b ≠ .none) (h1 : glB c.sc (bltN b) = true) : PE X (.Call (.Name (bltN b) p) l [] pos) (tCB (rCD X.K (bltv b)) t) := by
  obtain ⟨n1, n2, n3⟩ := blt_name (b := b)
  have hm := C.blt _ n1
  cases l with
  | nil => cases b <;> simp [bltArity] at k3
  | cons y l =>
    rw [List.all_cons, Bool.and_eq_true] at k2
    rcases blt_rule C k4 with ⟨id, g1, g2⟩ | ⟨id, g1, g2⟩
    · exact pe_callB g2 (C.gl h1) hm g1 pa n2 n3 (star_ok k2.1 _ _) (stars_ok k2.2 _ _)
    · exact pe_callTy g2 (C.gl h1) hm g1 pa n2 n3 (star_ok k2.1 _ _) (stars_ok k2.2 _ _)
theorem ge_blt {b : Blt} {es : G.E} (gs : GA T cl es) : GE T cl (.blt b es) := by
  intro X c EX k x C h
  unfold isE at h
  split at h <;> first | contradiction | skip
  all_goals (rename_i e; first | cases e | skip)
  simp only [Bool.and_eq_true, decide_eq_true_eq] at h
  obtain ⟨⟨⟨h0, h1⟩, rfl⟩, h3⟩ := h
  cases List.isEmpty_iff.mp h0
  obtain ⟨n1, n2, n3⟩ := blt_name (b := b)
  have hm := C.blt _ n1
  split at h3
  · rename_i t ht
    obtain ⟨t1, t2, t3, t4, t5⟩ := ty_name ht
    split at h3
    · simp only [Bool.and_eq_true, decide_eq_true_eq] at h3
      obtain ⟨⟨⟨k1, k2⟩, rfl⟩, k4⟩ := h3
      obtain ⟨a, rfl, ka⟩ : ∃ a, es = .cons a .nil ∧ isEs c (.cons a .nil) [_] = true := by
        cases es <;> simp only [isEs, Bool.false_eq_true] at k1
        rename_i a es
        cases es <;> simp only [isEs, Bool.false_eq_true, Bool.and_false] at k1
        exact ⟨a, rfl, by simp only [isEs]; exact k1⟩
      have pa := (gs.1 X c EX k _ C ka).1
      have pi := (gs.2 a _ rfl X c EX k _ C (by simp only [isEs, Bool.and_eq_true] at ka; exact ka.1.1)).1
      refine tri_plain ((pe_callB (id := "isinstance") (cb_is ht) (C.gl h1) hm (by rw [t1]; decide +kernel) (pa_cons pi (pa_cons (pe_bltn (v := .ty t) (C.gl k4) (C.blt _ t2) t5 rfl t3 t4) pa_nil) (star_ok k2 _ _)) n2 n3 (star_ok k2 _ _) ?_).imp fun _ _ _ q => te_is q) rfl
      rfl
    · cases h3
  · simp only [Bool.and_eq_true, decide_eq_true_eq] at h3
    obtain ⟨⟨⟨k1, k2⟩, k3⟩, k4⟩ := h3
    exact tri_plain ((blt_call C (gs.1 X c EX k _ C k1).1 k2 k3 k4 h1).imp fun _ _ _ q => te_blt q) rfl
end
end G
/-! G.Snd5x: errors as values that check are sound. -/
namespace G
open PySem L2
section
variable {T : List Fn} {cl : Str → Option Addr} {X : Cx} {c : Ct} {EX : XS} {k : Nat}
theorem ge_mkx {n : Str} {a : G.E} (ga : GE T cl a) : GE T cl (.ext (.mkx n) a) := by
  intro X c EX k x C h
  have h : isX1 c n (fun c' y => isE c' a y) x = true := by
    rw [isE] at h
    exact h
  unfold isX1 at h
  split at h <;> first | contradiction | skip
  simp only [Bool.and_eq_true, decide_eq_true_eq] at h
  obtain ⟨⟨⟨⟨⟨⟨⟨h0, rfl⟩, h1⟩, h2⟩, h3⟩, h4⟩, h5⟩, h6⟩ := h
  cases List.isEmpty_iff.mp h0
  obtain ⟨K, hk⟩ := C.err h6
  obtain ⟨Cl, k1, k2, k3, k4, k5, k7⟩ := K.mks _ h3
  have pa := (ga X c EX k _ C h4).1
  rename_i x2 p1 y p2
  cases hf : exnF x2 with
  | none =>
    obtain ⟨B, newId, initId, bmB, b1, b2⟩ := k5 hf
    exact tri_plain ((pe_exc1 b1 b2 k2 k4 (C.gl h1) pa (star_ok h5 _ _) (okN h2).1).imp fun _ _ _ q => te_mkx0 hf k1 q) rfl
  | some f =>
    obtain ⟨g1, _, _, g3⟩ := k7 f hf
    obtain ⟨fI, fd, g4, g5, g6, g7⟩ := g3 X.prog X.w X.base
    exact tri_plain ((pe_mkv g1 g6 g7 g4 (C.room.mono hk) g5 .nil passL (C.gl h1) k2 (pa_cons pa pa_nil (star_ok h5 _ _)) (okN h2).1 (star_ok h5 _ _) rfl).imp fun _ _ _ q => te_mkxF hf k1 q) rfl
theorem ge_isx {n : Str} {a : G.E} (ga : GE T cl a) : GE T cl (.ext (.isx n) a) := by
  intro X c EX k x C h
  have h : isX2 c n (fun c' y => isE c' a y) x = true := by
    rw [isE] at h
    exact h
  unfold isX2 at h
  split at h <;> first | contradiction | skip
  simp only [Bool.and_eq_true, Bool.or_eq_true, decide_eq_true_eq] at h
  obtain ⟨⟨⟨⟨⟨⟨⟨⟨⟨h0, rfl⟩, h1⟩, h2⟩, h3⟩, rfl⟩, h4⟩, h5⟩, h6⟩, h7⟩ := h
  cases List.isEmpty_iff.mp h0
  obtain ⟨K, hk⟩ := C.err h7
  have pa := (ga X c EX k _ C h2).1
  have hm : X.mg "isinstance" = none := C.blt _ (by decide +kernel)
  rename_i p1 y z p2 p3
  by_cases hz : z = ("ValueError" : Str)
  · subst hz
    refine tri_plain ((pe_callB (id := "isinstance") cr_isErr (C.gl h1) hm (by decide +kernel) (pa_cons pa (pa_cons (pe_bltn (v := .ty "ValueError") (C.gl h4) K.ve.1 (by decide +kernel) rfl (by decide +kernel) (by decide +kernel)) pa_nil) (star_ok h3 _ _)) (by decide +kernel) (by decide +kernel) (star_ok h3 _ _) rfl).imp fun _ _ _ q => ?_) rfl
    refine te_isx (cw := .type "ValueError") K (fun u r => r) (fun m hm C hC => ?_) q
    rw [K.ve.2 m hm C hC]
    have : subE m "ValueError" = true := by unfold subE; simp
    rw [this]
  · have hc : z ∈ errNames ∨ z = ("RecordError" : Str) := by
      rcases h6 with (h | h) | h
      · exact .inl h
      · exact .inr h
      · exact absurd h hz
    obtain ⟨m0, hm0⟩ : ∃ m, m ∈ errNames := ⟨"TooMany", by decide +kernel⟩
    obtain ⟨C0, k1, _⟩ := K.mks m0 hm0
    obtain ⟨D, d1, _⟩ := K.is m0 hm0 C0 k1 z hc
    refine tri_plain ((pe_callB (id := "isinstance") cr_isErr (C.gl h1) hm (by decide +kernel) (pa_cons pa (pa_cons (pe_glob (v := .ref D) (C.gl h4) d1 rfl (okN h5).1) pa_nil) (star_ok h3 _ _)) (by decide +kernel) (by decide +kernel) (star_ok h3 _ _) rfl).imp fun _ _ _ q => ?_) rfl
    refine te_isx (cw := .ref D) K (fun u r => r) (fun m hm C hC => ?_) q
    obtain ⟨D', d2, d3⟩ := K.is m hm C hC z hc
    rw [d1] at d2
    cases d2
    exact d3
theorem ge_erf {f : Str} {a : G.E} (ga : GE T cl a) : GE T cl (.ext (.erf f) a) := by
  intro X c EX k x C h
  have h : isX3 c f (fun c' y => isE c' a y) x = true := by
    rw [isE] at h
    exact h
  unfold isX3 at h
  split at h <;> first | contradiction | skip
  simp only [Bool.and_eq_true, decide_eq_true_eq] at h
  obtain ⟨⟨⟨rfl, h1⟩, h2⟩, h3⟩ := h
  obtain ⟨K, hk⟩ := C.err h3
  exact tri_plain ((pe_erf (ga X c EX k _ C h1).1 (base_ok h2 _ _ _)).imp fun _ _ _ q => te_erf K q) rfl
end
end G
/-! G.Snd6: sources of loops, comprehensions, the theorem of expressions. -/
namespace G
open PySem L2 PySem.Spec PyProof.Rows
section
variable {T : List Fn} {cl : Str → Option Addr} {X : Cx} {c : Ct} {EX : XS} {k : Nat}
theorem pi_enm {e : Expr} {ta : TA} {p pos tpos : Pos} {elts : List Expr} {kk : Nat} (hg : Gl X "enumerate") (hm : X.mg "enumerate" = none) (ha : PA X [e] ta) (hs : starEach [e] X.env = [(false, eval e X.env)]) :
    PI X (.Tuple elts kk tpos) (.Call (.Name "enumerate" p) [e] [] pos) (iEnm X.K ta) := by
  refine ⟨fun pins s σ H R I h => Call_ (ld_blt I hg hm boot_enumerate (PyProof.Rows.callWith_type1 (thn (ha.run pos pins s σ H _ I h) fun us s1 ⟨vs, H1, I1, r1, q1⟩ => ?_) hs rfl))⟩
  obtain ⟨a, ex, q1⟩ := q1
  subst ex
  obtain ⟨rfl, _⟩ : us = [.ref a] ∧ True := by
    cases r1 with
    | cons r rr => cases rr; cases r; exact ⟨rfl, trivial⟩
  have fp : ∀ b ∈ [s1.heap.objs.size + 1, s1.heap.objs.size], FpOk X pins H1 b := fun b hb => by
    have hle : s1.heap.objs.size ≤ b := by
      rcases (show b = s1.heap.objs.size + 1 ∨ b = s1.heap.objs.size by simpa using hb) with z | z
      · rw [z]; exact Nat.le_add_right _ _
      · rw [z]; exact Nat.le_refl _
    exact I1.fpOk hle (I1.hok.fresh hle)
  rcases q1 with ⟨xs, hq, q⟩ | ⟨xs, hq, q⟩
  · obtain ⟨its, rv, p', hz⟩ := I1.list hq
    refine call_enumerate_list p'.isList fun h' he hit hsz hk => wpAny_pyIter_enum he ?_
    exact ⟨s1.heap.objs.size + 1, [s1.heap.objs.size + 1, s1.heap.objs.size], _, _, H1, rfl, I1.kept (t' := s1.toks) hk, turn_enum a (s1.heap.objs.size + 1) s1.heap.objs.size, ⟨⟨.none, he⟩, hit, Nat.succ_ne_self _⟩, fp, q⟩
  · obtain ⟨its, rv, p', hz⟩ := I1.tuple hq
    have hal : a < s1.heap.objs.size := p'.lt
    refine call_enumT p' fun h' he hit hk => wpAny_pyIter_enum he ?_
    exact ⟨s1.heap.objs.size + 1, [s1.heap.objs.size + 1, s1.heap.objs.size], _, _, H1, rfl, I1.kept (t' := s1.toks) hk, turn_enumT a (s1.heap.objs.size + 1) s1.heap.objs.size, ⟨⟨.none, he⟩, hit, Nat.succ_ne_self _, Nat.ne_of_lt hal, Nat.ne_of_lt (Nat.lt_succ_of_lt hal)⟩, fp, q⟩
theorem rg_names : ("range" : Str) ∈ bltNames ∧ ("list" : Str) ∈ bltNames ∧ ("tuple" : Str) ∈ bltNames ∧ ("enumerate" : Str) ∈ bltNames := by decide +kernel
theorem star_one {e : Expr} (h : headOk e = true) (env : PySem.Env) : starEach [e] env = [(false, eval e env)] := star_ok h _ _
theorem gr_rng1 {a : G.E} (ga : GE T cl a) : GR T cl (.rng1 a) := by
  intro X c EX k x C h
  unfold isR at h
  split at h <;> first | contradiction | skip
  all_goals (rename_i e; first | cases e | skip)
  simp only [Bool.and_eq_true, decide_eq_true_eq] at h
  obtain ⟨⟨⟨⟨h0, h1⟩, rfl⟩, h3⟩, h4⟩ := h
  cases List.isEmpty_iff.mp h0
  exact ⟨prg_1 (C.gl h1) (C.blt _ rg_names.1) (ga X c EX k _ C h3).1 (star_ok h4 _ _), rfl, fun _ => (nomatch ·), fun _ => (nomatch ·)⟩
theorem gr_rng2 {a b : G.E} (ga : GE T cl a) (gb : GE T cl b) : GR T cl (.rng2 a b) := by
  intro X c EX k x C h
  unfold isR at h
  split at h <;> first | contradiction | skip
  all_goals (rename_i e; first | cases e | skip)
  simp only [Bool.and_eq_true, decide_eq_true_eq] at h
  obtain ⟨⟨⟨⟨⟨⟨h0, h1⟩, rfl⟩, h3⟩, h4⟩, h5⟩, h6⟩ := h
  cases List.isEmpty_iff.mp h0
  exact ⟨prg_2 (C.gl h1) (C.blt _ rg_names.1) (ga X c EX k _ C h3).1 (gb X c EX k _ C h5).1 (star_ok h4 _ _) (star_ok h6 _ _) (stars_ok (by rw [List.all_cons, h6]; rfl) _ _), rfl, fun _ => (nomatch ·), fun _ => (nomatch ·)⟩
theorem gi_rng1 {a : G.E} (ga : GE T cl a) : GI T cl (.rng1 a) := by
  intro X c EX k en tg x C h _
  unfold isI at h
  split at h <;> first | contradiction | skip
  all_goals (rename_i e; first | cases e | skip)
  simp only [Bool.and_eq_true, decide_eq_true_eq] at h
  obtain ⟨⟨⟨⟨h0, h1⟩, rfl⟩, h3⟩, h4⟩ := h
  cases List.isEmpty_iff.mp h0
  exact (pi_range1 (C.gl h1) (C.blt _ rg_names.1) (pa_cons (ga X c EX k _ C h3).1 pa_nil (star_ok h4 _ _)) (star_one h4 _)).imp fun _ _ _ q => ti_rng1 q
theorem gi_rng2 {a b : G.E} (ga : GE T cl a) (gb : GE T cl b) : GI T cl (.rng2 a b) := by
  intro X c EX k en tg x C h _
  unfold isI at h
  split at h <;> first | contradiction | skip
  all_goals (rename_i e; first | cases e | skip)
  simp only [Bool.and_eq_true, decide_eq_true_eq] at h
  obtain ⟨⟨⟨⟨⟨⟨h0, h1⟩, rfl⟩, h3⟩, h4⟩, h5⟩, h6⟩ := h
  cases List.isEmpty_iff.mp h0
  exact (pi_range2 (C.gl h1) (C.blt _ rg_names.1) (pa_cons (ga X c EX k _ C h3).1 (pa_cons (gb X c EX k _ C h5).1 pa_nil (star_ok h6 _ _)) (star_ok h4 _ _)) (by rw [star_ok h4, star_one h6]) (star_one h6 _)).imp fun _ _ _ q => ti_rng2 q
theorem gi_enm {a : G.E} (ga : GE T cl a) : GI T cl (.enm a) := by
  intro X c EX k en tg x C h ht
  unfold isI at h
  split at h <;> first | contradiction | skip
  all_goals (rename_i e; first | cases e | skip)
  simp only [Bool.and_eq_true, decide_eq_true_eq] at h
  obtain ⟨⟨⟨⟨⟨h0, h1⟩, h2⟩, rfl⟩, h3⟩, h4⟩ := h
  cases List.isEmpty_iff.mp h0
  have hT := ht h1
  cases tg <;> simp only [isTupT, Bool.false_eq_true] at hT
  exact (pi_enm (C.gl h2) (C.blt _ rg_names.2.2.2) (pa_cons (ga X c EX k _ C h3).1 pa_nil (star_ok h4 _ _)) (star_one h4 _)).imp fun _ _ _ q => ti_enm q
theorem gi_itr {a : G.E} (ga : GE T cl a) : GI T cl (.itr a) := by
  intro X c EX k en tg x C h _
  have h : isE c a x = true := by simpa only [isI] using h
  exact (pi_seq (ga X c EX k _ C h).1).imp fun _ _ _ q => ti_itr q
theorem ge_lrng {it : G.E} (gr : GR T cl it) : GE T cl (.lrng it) := by
  intro X c EX k x C h
  unfold isE at h
  split at h <;> first | contradiction | skip
  all_goals (rename_i e; first | cases e | skip)
  simp only [Bool.and_eq_true, decide_eq_true_eq] at h
  obtain ⟨⟨⟨h0, h1⟩, rfl⟩, h3⟩ := h
  cases List.isEmpty_iff.mp h0
  obtain ⟨p1, p2, p3, p4⟩ := gr X c EX k _ C h3
  exact tri_plain ((pe_listRg C.calm (C.gl h1) (C.blt _ rg_names.2.1) p1 (star_ok p2 _ _)).imp fun _ _ _ q => te_lrng q p3 p4) rfl
theorem ge_trng {it : G.E} (gr : GR T cl it) : GE T cl (.trng it) := by
  intro X c EX k x C h
  unfold isE at h
  split at h <;> first | contradiction | skip
  all_goals (rename_i e; first | cases e | skip)
  simp only [Bool.and_eq_true, decide_eq_true_eq] at h
  obtain ⟨⟨⟨h0, h1⟩, rfl⟩, h3⟩ := h
  cases List.isEmpty_iff.mp h0
  obtain ⟨p1, p2, p3, p4⟩ := gr X c EX k _ C h3
  exact tri_plain ((pe_tupRg C.calm (C.gl h1) (C.blt _ rg_names.2.2.1) p1 (star_ok p2 _ _)).imp fun _ _ _ q => te_trng q p3 p4) rfl
theorem ge_srt {es : G.E} (gs : GA T cl es) : GE T cl (.srt es) := by
  intro X c EX k x C h
  unfold isE at h
  split at h <;> first | contradiction | skip
  all_goals (rename_i e; first | cases e | skip)
  simp only [Bool.and_eq_true, decide_eq_true_eq] at h
  obtain ⟨⟨⟨⟨⟨⟨⟨⟨h0, h1⟩, h2⟩, rfl⟩, h3⟩, rfl⟩, h4⟩, h5⟩, h6⟩ := h
  cases List.isEmpty_iff.mp h0
  cases List.isEmpty_iff.mp h1
  obtain ⟨y, rfl⟩ := List.length_eq_one_iff.1 h6
  rw [List.all_cons, Bool.and_eq_true] at h5
  rename_i p1 p2 p3 p4
  have pin : PE X (.Call (.Name "set" p2) [y] [] p3) (tCB (rMkSet X.w X.K) (tEs X T cl EX es)) := pe_callTy (cr_mkSet C.calm) (C.gl h3) (C.blt "set" (by decide +kernel)) (by decide +kernel) (gs.1 X c EX k _ C h4).1 (by decide +kernel) (by decide +kernel) (star_ok h5.1 _ _) (stars_ok h5.2 _ _)
  exact tri_plain ((pe_callB (cr_sortedSet C.calm) (C.gl h2) (C.blt "sorted" (by decide +kernel)) (by decide +kernel) (pa_cons pin pa_nil (star_ok rfl _ _)) (by decide +kernel) (by decide +kernel) (star_ok rfl _ _) rfl).imp fun _ _ _ q => te_srt q) rfl
/-! ### targets -/
/-- the names of targets: X.fn as told -/
theorem names_pg {fn : Str → Bool} (hN : X.N = c.N) (nd : X.N.Nodup) {sc : Scope} (hs : X.env.scope = sc) (hf : ∀ x, fn x = true → X.fn x = true) : ∀ {is : List Nat} {l : List Expr}, namesT c.N sc fn is l = true → PGs X l (gNames is)
    ∧ (assignEach l X.env).length = is.length ∧ (assignEach l X.env).findIdx? (·.1) = none
  | [], [], _ => ⟨pgs_nil, rfl, rfl⟩
  | [], _ :: _, h => by simp only [namesT, Bool.false_eq_true] at h
  | _ :: _, [], h => by simp only [namesT, Bool.false_eq_true] at h
  | i :: is, x :: l, h => by
    unfold namesT at h
    split at h <;> first | contradiction | skip
    rename_i e1 e2
    cases e1
    cases e2
    rw [Bool.and_eq_true] at h
    obtain ⟨h1, h2⟩ := h
    unfold nameT at h1
    simp only [Bool.and_eq_true, Bool.or_eq_true, decide_eq_true_eq] at h1
    obtain ⟨⟨k1, k2⟩, k3⟩ := h1
    obtain ⟨p1, p2, p3⟩ := names_pg hN nd hs hf h2
    refine ⟨pgs_cons (pg_name nd (by rw [hN]; exact k1) (by rw [hs]; exact loc_of k2) (k3.imp (hf _) fun z => by rw [hs]; exact z)) p1 rfl, ?_, ?_⟩
    · show (assignEach l X.env).length + 1 = _
      rw [p2]
      rfl
    · show List.findIdx? _ ((false, _) :: assignEach l X.env) = none
      rw [List.findIdx?_cons, p3]
      rfl
theorem pg_T {fn : Str → Bool} (hc : X.calm = true) (hN : X.N = c.N) (nd : X.N.Nodup) {sc : Scope} (hs : X.env.scope = sc) (hf : ∀ x, fn x = true → X.fn x = true) {tg : List Nat} {t : Expr} (h : isT c.N sc fn tg t = true) : PG X t (gT X.K tg) := by
  unfold isT at h
  split at h <;> first | contradiction | skip
  · unfold nameT at h
    simp only [Bool.and_eq_true, Bool.or_eq_true, decide_eq_true_eq] at h
    obtain ⟨⟨k1, k2⟩, k3⟩ := h
    exact pg_name nd (by rw [hN]; exact k1) (by rw [hs]; exact loc_of k2) (k3.imp (hf _) fun z => by rw [hs]; exact z)
  · rw [Bool.and_eq_true, decide_eq_true_eq] at h
    obtain ⟨p1, p2, p3⟩ := names_pg hN nd hs hf h.2
    unfold gT
    split
    · exact absurd rfl h.1
    · exact pg_tup hc p1 p2 p3
theorem CtOk.blk (C : CtOk T cl X c EX k) (s : Shared) (H : Hp) (scope : Scope) (cn : Addr) (cells : List (Str × Addr)) (fp : List Addr) : CtOk T cl (X.blk s H scope (compEnvC scope cells cn X.env) fp) { c with sc := relS scope c.sc } (fun _ => E0) k :=
  ⟨C.N, C.nd, by rw [← C.sc]; rfl, C.calm, C.room, passAt_of passL, C.fns, C.blt, C.cons, fun w ws z => have W := C.lam w ws z
    ⟨W.nn, W.q, W.code, W.lvl, W.leaf, W.cls, W.fn⟩, C.ply, C.mts, C.err, C.lin, fun w n f z => have W := C.lim w n f z
    ⟨W.nn, W.q, W.code, W.lvl, W.cls, W.fn⟩⟩
theorem isT_tup {N : List Str} {sc : Scope} {fn : Str → Bool} {tg : List Nat} {t : Expr} (h : isT N sc fn tg t = true) : (tg.length != 1) = true → isTupT t = true := by
  intro z
  unfold isT at h
  split at h <;> first | contradiction | rfl | (simp at z)
theorem CtOk.pg_blk (C : CtOk T cl X c EX k) (s : Shared) (H : Hp) {scope : Scope} (cn : Addr) (cells : List (Str × Addr)) (fp : List Addr) {tg : List Nat} {t : Expr} (h : isT c.N (relS scope c.sc) (fnB scope) tg t = true) : PG (X.blk s H scope (compEnvC scope cells cn X.env) fp) t (gT X.K tg) :=
  pg_T (X := X.blk s H scope (compEnvC scope cells cn X.env) fp) (c := c) C.calm C.N C.nd (by rw [← C.sc]; rfl) (fun _ z => z) h
theorem ge_comp {vs tg : List Nat} {it elt : G.E} (gi : GI T cl it) (ge : GE T cl elt) : GE T cl (.comp vs tg it elt) := by
  intro X c EX k x C h
  unfold isE at h
  split at h <;> first | contradiction | skip
  all_goals (rename_i e; first | cases e | skip)
  simp only [Bool.and_eq_true, decide_eq_true_eq] at h
  obtain ⟨⟨⟨⟨⟨⟨rfl, h1⟩, h2⟩, h3⟩, h4⟩, h5⟩, h6⟩ := h
  have ok := blkOk_by h4
  rw [← C.N, ← C.sc] at ok
  have htg : ∀ i ∈ tg, i ∈ vs := fun i hi => by simpa using List.all_eq_true.mp h5 i hi
  rename_i pos
  have pl := pe_lc (pos := pos) (tt := tYes) (te := tE X T cl (fun _ => E0) elt) C.calm C.nd (gi X c EX k _ _ _ C h1 (isT_tup h3)) ok (fun s H cn cells fp => C.pg_blk s H cn cells fp h3) (fun _ _ _ _ _ => pts_nil)
    (fun s H cn cells fp => (ge _ _ (fun _ => E0) k _ (C.blk s H _ cn cells fp) h6).1) (fun _ => folded_ok h2 _ _)
  rw [ownOf_snd] at pl
  exact tri_plain (pl.imp fun _ _ _ q => te_comp htg q) rfl
theorem ge_compc {vs tg : List Nat} {it cd elt : G.E} (gi : GI T cl it) (gc : GE T cl cd) (ge : GE T cl elt) : GE T cl (.compc vs tg it cd elt) := by
  intro X c EX k x C h
  unfold isE at h
  split at h <;> first | contradiction | skip
  all_goals (rename_i e; first | cases e | skip)
  simp only [Bool.and_eq_true, decide_eq_true_eq] at h
  obtain ⟨⟨⟨⟨⟨⟨⟨⟨rfl, h1⟩, h2⟩, h3⟩, h4⟩, h5⟩, h6⟩, h7⟩, h8⟩ := h
  have ok := blkOk_by h4
  rw [← C.N, ← C.sc] at ok
  have htg : ∀ i ∈ tg, i ∈ vs := fun i hi => by simpa using List.all_eq_true.mp h5 i hi
  rename_i pos
  have pl := pe_lc (pos := pos) (tt := tT X T cl (fun _ => E0) cd) (te := tE X T cl (fun _ => E0) elt) C.calm C.nd (gi X c EX k _ _ _ C h1 (isT_tup h3)) ok (fun s H cn cells fp => C.pg_blk s H cn cells fp h3)
    (fun s H cn cells fp => pts_one ((gc _ _ (fun _ => E0) k _ (C.blk s H _ cn cells fp) h7).2.1 h8))
    (fun s H cn cells fp => (ge _ _ (fun _ => E0) k _ (C.blk s H _ cn cells fp) h6).1) (fun _ => folded_ok h2 _ _)
  rw [ownOf_snd] at pl
  exact tri_plain (pl.imp fun _ _ _ q => te_compc htg q) rfl
/-- what checks in the lambda, at its own context -/
theorem CtOk.lamb {j : Nat} (C : CtOk T cl X c EX k) (hf : ∀ (i : Nat) (x : Str) (n : Nat), c.fns[i]? = some (x, n) → ∃ f, T[i]? = some f ∧ FnAt X.prog X.w X.K X.mg X.base cl j x n f) (A : Around) (outer : List PySem.Env) (s : Shared) (H : Hp) (E : XK) (scope : Scope) (f c' : Addr) (hr : Room j (A.deeper (LamX.lamEnv X scope s.heap.objs.size f c'))) :
    CtOk T cl (LamX.lamCx X A outer s H E scope f c') { c with sc := scope, wds := [], lms := [], mts := [], lin := false, ers := false } (fun _ => E) j :=
  ⟨C.N, C.nd, rfl, rfl, hr, passAt_of (passes_call (takes_of rfl rfl rfl rfl) (fun _ _ _ _ h => h)), hf, C.blt, C.cons, fun _ _ z => (nomatch z), fun z => absurd rfl z, fun _ _ _ z => (nomatch z), fun z => (nomatch z), fun z => (nomatch z), fun _ _ _ z => (nomatch z)⟩
theorem pe_ex {e : Expr} {t : Addr → TE} {p : Addr → Prop} (h : ∀ P, p P → PE X e (t P)) : PE X e (fun σ H Q => ∃ P, p P ∧ t P σ H Q) := ⟨fun pins s σ H Q I ⟨P, hp, hq⟩ => (h P hp).run pins s σ H Q I hq⟩
theorem ge_tryc {w : Str} {ws : List (Str × Str)} {i : Nat} {es : G.E} (gs : GA T cl es) : GE T cl (.tryc w ws i es) := by
  intro X c EX k x C h
  unfold isE at h
  split at h <;> first | contradiction | skip
  all_goals (rename_i e; first | cases e | skip)
  simp only [Bool.and_eq_true, decide_eq_true_eq] at h
  obtain ⟨⟨⟨⟨⟨⟨⟨⟨⟨⟨⟨h0, h1⟩, rfl⟩, h2⟩, h3⟩, h4⟩, h5⟩, h6⟩, h7⟩, h8⟩, h9⟩, h10⟩ := h
  cases List.isEmpty_iff.mp h0
  cases List.isEmpty_iff.mp h1
  have W := C.lam _ _ h4
  obtain ⟨j, rfl, hl⟩ := W.lvl
  obtain ⟨cc, hc1, hc2⟩ := W.code
  obtain ⟨g, a, f, pg, bg, sg, dV, kV, doc, pm, cdv, ct, oc, an, od, osl, w1, w2, w3, w4, w5, w6, w7, w8, w9, w10, w11, w12⟩ := W.fn
  rename_i x p1 f1 p2 l p3 sc1 p4 p5
  have gv := word_gives (X := X) (x := x) (g := g) (cdg := cdv) (q := lq X) (Ng := [a, f]) rfl w6.nd w8 W.cls W.leaf.1 w9 (okN w12).1 (okN w12).2.1
  suffices hp : PE X (.Call (.Name x p1) [.Lambda ⟨[], [], none, [], [], none, []⟩ (.Call (.Name f1 p2) l [] p3) sc1 p4] [] p5) (fun σ H Q => ∃ P, tabP X.K X.mg X.base P ∧ tLamP X P (TTw X.K cl ws) (fun E => tC0 X T cl (fun _ => E) i es) σ H Q) by
    refine tri_plain (hp.imp fun σ H Q q => ?_) rfl
    obtain ⟨H0, ps, ows, δ, e, q⟩ := q
    simp only [ev] at q
    exact te_try W.nn W.q W.leaf ⟨H0, ps, ows, δ, e, q⟩
  refine pe_ex fun P hP => ?_
  · obtain ⟨c2, q1, q2⟩ := hP
    rw [hc1] at q1
    cases q1
    exact pe_lamP (C.gl h2) w1 w2 w3 w4 w5 w6 rfl w7 gv q2 hc2 C.room (by rw [C.sc]; exact LamX.lamS_by h5) rfl (fun _ _ _ _ _ => rfl)
      (fun A outer s H E f c' hr => pe_callG gs (C.lamb hl A outer s H E _ f c' hr) h6 h7 h8 h9 h10) (okN w10).1 (okN w11).1 (okN w11).2.1
theorem CtOk.lambP {j : Nat} (C : CtOk T cl X c EX k) (hf : ∀ (i : Nat) (x : Str) (n : Nat), c.fns[i]? = some (x, n) → ∃ f, T[i]? = some f ∧ FnAt X.prog X.w X.K X.mg X.base cl j x n f)
    (hm : ∀ (i : Nat) (x : Str) (n : Nat), c.mts[i]? = some (x, n) → ∃ f, T[c.fns.length + i]? = some f ∧ ∃ j', j' + 2 ≤ j ∧ MtAt X.prog X.w X.K X.mg X.base cl j' x n f) (he : c.ers = true → 2 ≤ j)
    (A : Around) (outer : List PySem.Env) (s : Shared) (H : Hp) (E : XK) (scope : Scope) (f c' : Addr) (hr : Room j (A.deeper (LamX.lamEnv X scope s.heap.objs.size f c'))) :
    CtOk T cl (LamX.lamCx X A outer s H E scope f c') { c with sc := scope, wds := [], lms := [], lin := false } (fun _ => E) j :=
  ⟨C.N, C.nd, rfl, rfl, hr, passAt_of (passes_call (takes_of rfl rfl rfl rfl) (fun _ _ _ _ h => h)), hf, C.blt, C.cons, fun _ _ z => (nomatch z), C.ply, hm, fun z => ⟨(C.err z).1, he z⟩, fun z => (nomatch z), fun _ _ _ z => (nomatch z)⟩
theorem ge_tryl {w n f : Str} {a : G.E} (ga : GE T cl a) : GE T cl (.ext (.tryl w n f) a) := by
  intro X c EX k x C h
  have h : isX4 c w n f (fun c' y => isE c' a y) x = true := by
    rw [isE] at h
    exact h
  unfold isX4 at h
  split at h <;> first | contradiction | skip
  simp only [Bool.and_eq_true, decide_eq_true_eq] at h
  obtain ⟨⟨⟨⟨⟨⟨⟨h0, rfl⟩, h1⟩, h2⟩, h3⟩, h4⟩, h5⟩, h6⟩ := h
  cases List.isEmpty_iff.mp h0
  have W := C.lim _ _ _ h3
  obtain ⟨j, rfl, hl, hm, he⟩ := W.lvl
  obtain ⟨cc, hc1, hc2⟩ := W.code
  obtain ⟨Cl, k1, k2, k3, k4, k5⟩ := W.cls
  obtain ⟨g, a', e, pg, bg, sg, dV, kV, doc, pm, cdv, ct, oc, an, od, osl, w1, w2, w3, w4, w5, w6, w7, w8, w9, w10⟩ := W.fn
  rename_i x p1 y sc1 p4 p5
  have gv := lim_gives (X := X) (x := x) (g := g) (cdg := cdv) (q := lq X) (Ng := [a', e]) rfl w6.nd k2 k3 k4 k5 w8
  suffices hp : PE X (.Call (.Name x p1) [.Lambda ⟨[], [], none, [], [], none, []⟩ y sc1 p4] [] p5) (fun σ H Q => ∃ P, tabP X.K X.mg X.base P ∧ tLamP X P (TTl Cl f) (fun E => tE X T cl (fun _ => E) a) σ H Q) by
    exact tri_plain (hp.imp fun σ H Q q => te_tryl W.nn W.q k1 q) rfl
  refine pe_ex fun P hP => ?_
  · obtain ⟨c2, q1, q2⟩ := hP
    rw [hc1] at q1
    cases q1
    exact pe_lamP (C.gl h1) w1 w2 w3 w4 w5 w6 rfl w7 gv q2 hc2 C.room (by rw [C.sc]; exact LamX.lamS_by h4) rfl (fun _ _ _ _ _ => rfl)
      (fun A outer s H E f c' hr => (ga _ _ (fun _ => E) _ _ (C.lambP hl hm he A outer s H E _ f c' hr) h5).1) (okN w9).1 (okN w10).1 (okN w10).2.1
theorem g_all (T : List Fn) (cl : Str → Option Addr) (e : G.E) : GE T cl e ∧ GA T cl e ∧ GI T cl e ∧ GR T cl e := by
  have noE : ∀ {e : G.E}, (∀ c x, isE c e x = false) → GE T cl e := fun h X c EX k x C q => by rw [h] at q; cases q
  have noA : ∀ {e : G.E}, (∀ c x, isEs c e x = false) → (∀ a r, e ≠ .cons a r) → GA T cl e := fun h n => ⟨fun X c EX k x C q => (by rw [h] at q; cases q), fun a r z => absurd z (n a r)⟩
  have noI : ∀ {e : G.E}, (∀ c en x, isI c en e x = false) → GI T cl e := fun h X c EX k en tg x C q => by rw [h] at q; cases q
  have noR : ∀ {e : G.E}, (∀ c x, isR c e x = false) → GR T cl e := fun h X c EX k x C q => by rw [h] at q; cases q
  induction e with
  | var i => exact ⟨ge_var i, noA (fun _ _ => by simp only [isEs]) (fun _ _ => (nomatch ·)), noI (fun _ _ _ => by simp only [isI]), noR (fun _ _ => by simp only [isR])⟩
  | ext o a h => exact ⟨by cases o with
    | mkx n => exact ge_mkx h.1
    | isx n => exact ge_isx h.1
    | erf f => exact ge_erf h.1
    | tryl w n f => exact ge_tryl h.1, noA (fun _ _ => by simp only [isEs]) (fun _ _ => (nomatch ·)), noI (fun _ _ _ => by simp only [isI]), noR (fun _ _ => by simp only [isR])⟩
  | fld f i => exact ⟨ge_fld f i, noA (fun _ _ => by simp only [isEs]) (fun _ _ => (nomatch ·)), noI (fun _ _ _ => by simp only [isI]), noR (fun _ _ => by simp only [isR])⟩
  | plen i => exact ⟨ge_plen i, noA (fun _ _ => by simp only [isEs]) (fun _ _ => (nomatch ·)), noI (fun _ _ _ => by simp only [isI]), noR (fun _ _ => by simp only [isR])⟩
  | pemp i => exact ⟨ge_pemp i, noA (fun _ _ => by simp only [isEs]) (fun _ _ => (nomatch ·)), noI (fun _ _ _ => by simp only [isI]), noR (fun _ _ => by simp only [isR])⟩
  | pmost i => exact ⟨ge_pmost i, noA (fun _ _ => by simp only [isEs]) (fun _ _ => (nomatch ·)), noI (fun _ _ _ => by simp only [isI]), noR (fun _ _ => by simp only [isR])⟩
  | isply i => exact ⟨ge_isply i, noA (fun _ _ => by simp only [isEs]) (fun _ _ => (nomatch ·)), noI (fun _ _ _ => by simp only [isI]), noR (fun _ _ => by simp only [isR])⟩
  | cmost  => exact ⟨ge_cmost, noA (fun _ _ => by simp only [isEs]) (fun _ _ => (nomatch ·)), noI (fun _ _ _ => by simp only [isI]), noR (fun _ _ => by simp only [isR])⟩
  | mcall m i es h => exact ⟨ge_mcall h.2.1 m i, noA (fun _ _ => by simp only [isEs]) (fun _ _ => (nomatch ·)), noI (fun _ _ _ => by simp only [isI]), noR (fun _ _ => by simp only [isR])⟩
  | play0 m i => exact ⟨ge_play0 m i, noA (fun _ _ => by simp only [isEs]) (fun _ _ => (nomatch ·)), noI (fun _ _ _ => by simp only [isI]), noR (fun _ _ => by simp only [isR])⟩
  | prop m i => exact ⟨ge_prop m i, noA (fun _ _ => by simp only [isEs]) (fun _ _ => (nomatch ·)), noI (fun _ _ _ => by simp only [isI]), noR (fun _ _ => by simp only [isR])⟩
  | olen m i => exact ⟨ge_olen m i, noA (fun _ _ => by simp only [isEs]) (fun _ _ => (nomatch ·)), noI (fun _ _ _ => by simp only [isI]), noR (fun _ _ => by simp only [isR])⟩
  | obool m i => exact ⟨ge_obool m i, noA (fun _ _ => by simp only [isEs]) (fun _ _ => (nomatch ·)), noI (fun _ _ _ => by simp only [isI]), noR (fun _ _ => by simp only [isR])⟩
  | oin m a i h => exact ⟨ge_oin h.1 m i, noA (fun _ _ => by simp only [isEs]) (fun _ _ => (nomatch ·)), noI (fun _ _ _ => by simp only [isI]), noR (fun _ _ => by simp only [isR])⟩
  | oeq m i a h => exact ⟨ge_oeq h.1 m i, noA (fun _ _ => by simp only [isEs]) (fun _ _ => (nomatch ·)), noI (fun _ _ _ => by simp only [isI]), noR (fun _ _ => by simp only [isR])⟩
  | one m i a h => exact ⟨noE (fun _ x => by cases x <;> simp only [isE]), noA (fun _ _ => by simp only [isEs]) (fun _ _ => (nomatch ·)), noI (fun _ _ _ => by simp only [isI]), noR (fun _ _ => by simp only [isR])⟩
  | plist i => exact ⟨ge_plist i, noA (fun _ _ => by simp only [isEs]) (fun _ _ => (nomatch ·)), noI (fun _ _ _ => by simp only [isI]), noR (fun _ _ => by simp only [isR])⟩
  | lit d => exact ⟨ge_lit d, noA (fun _ _ => by simp only [isEs]) (fun _ _ => (nomatch ·)), noI (fun _ _ _ => by simp only [isI]), noR (fun _ _ => by simp only [isR])⟩
  | con x d => exact ⟨ge_con x d, noA (fun _ _ => by simp only [isEs]) (fun _ _ => (nomatch ·)), noI (fun _ _ _ => by simp only [isI]), noR (fun _ _ => by simp only [isR])⟩
  | nil => exact ⟨noE (fun _ x => by cases x <;> simp only [isE]), ga_nil, noI (fun _ _ _ => by simp only [isI]), noR (fun _ _ => by simp only [isR])⟩
  | cons e es h1 h2 => exact ⟨noE (fun _ x => by cases x <;> simp only [isE]), ga_cons h1.1 h2.2.1, noI (fun _ _ _ => by simp only [isI]), noR (fun _ _ => by simp only [isR])⟩
  | tup es h => exact ⟨ge_tup h.2.1, noA (fun _ _ => by simp only [isEs]) (fun _ _ => (nomatch ·)), noI (fun _ _ _ => by simp only [isI]), noR (fun _ _ => by simp only [isR])⟩
  | lst es h => exact ⟨ge_lst h.2.1, noA (fun _ _ => by simp only [isEs]) (fun _ _ => (nomatch ·)), noI (fun _ _ _ => by simp only [isI]), noR (fun _ _ => by simp only [isR])⟩
  | dnew => exact ⟨noE (fun _ x => by cases x <;> simp only [isE]), noA (fun _ _ => by simp only [isEs]) (fun _ _ => (nomatch ·)), noI (fun _ _ _ => by simp only [isI]), noR (fun _ _ => by simp only [isR])⟩
  | bin o a b ha hb => exact ⟨ge_bin ha.1 hb.1, noA (fun _ _ => by simp only [isEs]) (fun _ _ => (nomatch ·)), noI (fun _ _ _ => by simp only [isI]), noR (fun _ _ => by simp only [isR])⟩
  | neg a ha => exact ⟨ge_neg ha.1, noA (fun _ _ => by simp only [isEs]) (fun _ _ => (nomatch ·)), noI (fun _ _ _ => by simp only [isI]), noR (fun _ _ => by simp only [isR])⟩
  | not a ha => exact ⟨ge_not ha.1, noA (fun _ _ => by simp only [isEs]) (fun _ _ => (nomatch ·)), noI (fun _ _ _ => by simp only [isI]), noR (fun _ _ => by simp only [isR])⟩
  | cmp o a b ha hb => exact ⟨ge_cmp ha.1 hb.1, noA (fun _ _ => by simp only [isEs]) (fun _ _ => (nomatch ·)), noI (fun _ _ _ => by simp only [isI]), noR (fun _ _ => by simp only [isR])⟩
  | chn o p a b d ha hb hd => exact ⟨ge_chn ha.1 hb.1 hd.1, noA (fun _ _ => by simp only [isEs]) (fun _ _ => (nomatch ·)), noI (fun _ _ _ => by simp only [isI]), noR (fun _ _ => by simp only [isR])⟩
  | and a b ha hb => exact ⟨ge_and ha.1 hb.1, noA (fun _ _ => by simp only [isEs]) (fun _ _ => (nomatch ·)), noI (fun _ _ _ => by simp only [isI]), noR (fun _ _ => by simp only [isR])⟩
  | or a b ha hb => exact ⟨ge_or ha.1 hb.1, noA (fun _ _ => by simp only [isEs]) (fun _ _ => (nomatch ·)), noI (fun _ _ _ => by simp only [isI]), noR (fun _ _ => by simp only [isR])⟩
  | ifx t a b ht ha hb => exact ⟨ge_ifx ht.1 ha.1 hb.1, noA (fun _ _ => by simp only [isEs]) (fun _ _ => (nomatch ·)), noI (fun _ _ _ => by simp only [isI]), noR (fun _ _ => by simp only [isR])⟩
  | idx a b ha hb => exact ⟨ge_idx ha.1 hb.1, noA (fun _ _ => by simp only [isEs]) (fun _ _ => (nomatch ·)), noI (fun _ _ _ => by simp only [isI]), noR (fun _ _ => by simp only [isR])⟩
  | sl a lo hi ha hl hh => exact ⟨ge_sl ha.1 hl.1 hh.1, noA (fun _ _ => by simp only [isEs]) (fun _ _ => (nomatch ·)), noI (fun _ _ _ => by simp only [isI]), noR (fun _ _ => by simp only [isR])⟩
  | rev a ha => exact ⟨ge_rev ha.1, noA (fun _ _ => by simp only [isEs]) (fun _ _ => (nomatch ·)), noI (fun _ _ _ => by simp only [isI]), noR (fun _ _ => by simp only [isR])⟩
  | m1 o a b ha hb => exact ⟨ge_m1 ha.1 hb.1, noA (fun _ _ => by simp only [isEs]) (fun _ _ => (nomatch ·)), noI (fun _ _ _ => by simp only [isI]), noR (fun _ _ => by simp only [isR])⟩
  | nin a ha => exact ⟨ge_nin ha.1, noA (fun _ _ => by simp only [isEs]) (fun _ _ => (nomatch ·)), noI (fun _ _ _ => by simp only [isI]), noR (fun _ _ => by simp only [isR])⟩
  | cget kvs a ha => exact ⟨ge_cget ha.1, noA (fun _ _ => by simp only [isEs]) (fun _ _ => (nomatch ·)), noI (fun _ _ _ => by simp only [isI]), noR (fun _ _ => by simp only [isR])⟩
  | gidx nm kvs a ha => exact ⟨ge_gidx ha.1, noA (fun _ _ => by simp only [isEs]) (fun _ _ => (nomatch ·)), noI (fun _ _ _ => by simp only [isI]), noR (fun _ _ => by simp only [isR])⟩
  | call i es h => exact ⟨ge_call h.2.1, noA (fun _ _ => by simp only [isEs]) (fun _ _ => (nomatch ·)), noI (fun _ _ _ => by simp only [isI]), noR (fun _ _ => by simp only [isR])⟩
  | blt b es h => exact ⟨ge_blt h.2.1, noA (fun _ _ => by simp only [isEs]) (fun _ _ => (nomatch ·)), noI (fun _ _ _ => by simp only [isI]), noR (fun _ _ => by simp only [isR])⟩
  | mth m o es ho h => exact ⟨ge_mth ho.1 h.2.1, noA (fun _ _ => by simp only [isEs]) (fun _ _ => (nomatch ·)), noI (fun _ _ _ => by simp only [isI]), noR (fun _ _ => by simp only [isR])⟩
  | rng1 a ha => exact ⟨noE (fun _ x => by cases x <;> simp only [isE]), noA (fun _ _ => by simp only [isEs]) (fun _ _ => (nomatch ·)), gi_rng1 ha.1, gr_rng1 ha.1⟩
  | rng2 a b ha hb => exact ⟨noE (fun _ x => by cases x <;> simp only [isE]), noA (fun _ _ => by simp only [isEs]) (fun _ _ => (nomatch ·)), gi_rng2 ha.1 hb.1, gr_rng2 ha.1 hb.1⟩
  | enm a ha => exact ⟨noE (fun _ x => by cases x <;> simp only [isE]), noA (fun _ _ => by simp only [isEs]) (fun _ _ => (nomatch ·)), gi_enm ha.1, noR (fun _ _ => by simp only [isR])⟩
  | itr a ha => exact ⟨noE (fun _ x => by cases x <;> simp only [isE]), noA (fun _ _ => by simp only [isEs]) (fun _ _ => (nomatch ·)), gi_itr ha.1, noR (fun _ _ => by simp only [isR])⟩
  | lrng it h => exact ⟨ge_lrng h.2.2.2, noA (fun _ _ => by simp only [isEs]) (fun _ _ => (nomatch ·)), noI (fun _ _ _ => by simp only [isI]), noR (fun _ _ => by simp only [isR])⟩
  | tryc w ws k es h => exact ⟨ge_tryc h.2.1, noA (fun _ _ => by simp only [isEs]) (fun _ _ => (nomatch ·)), noI (fun _ _ _ => by simp only [isI]), noR (fun _ _ => by simp only [isR])⟩
  | srt es h => exact ⟨ge_srt h.2.1, noA (fun _ _ => by simp only [isEs]) (fun _ _ => (nomatch ·)), noI (fun _ _ _ => by simp only [isI]), noR (fun _ _ => by simp only [isR])⟩
  | trng it h => exact ⟨ge_trng h.2.2.2, noA (fun _ _ => by simp only [isEs]) (fun _ _ => (nomatch ·)), noI (fun _ _ _ => by simp only [isI]), noR (fun _ _ => by simp only [isR])⟩
  | comp vs tg it elt hi he => exact ⟨ge_comp hi.2.2.1 he.1, noA (fun _ _ => by simp only [isEs]) (fun _ _ => (nomatch ·)), noI (fun _ _ _ => by simp only [isI]), noR (fun _ _ => by simp only [isR])⟩
  | compc vs tg it cd elt hi hc he => exact ⟨ge_compc hi.2.2.1 hc.1 he.1, noA (fun _ _ => by simp only [isEs]) (fun _ _ => (nomatch ·)), noI (fun _ _ _ => by simp only [isI]), noR (fun _ _ => by simp only [isR])⟩
end
end G
/-! G.Snd7: statements: readings, one implication a construct. -/
namespace G
open PySem L2
/-- what the objects that were handed in are made of -/
def ftO (σ : St) (H : Hp) : List Sl → Nat → List Addr
  | [], _ => []
  | .ow true _ :: δ, i => (match σ[i]? with | some (some (.ref a)) => foot H a | _ => []) ++ ftO σ H δ (i + 1)
  | _ :: δ, i => ftO σ H δ (i + 1)
theorem mem_ftO {σ : St} {H : Hp} {c : Addr} : ∀ {δ : List Sl} {i : Nat}, c ∈ ftO σ H δ i → ∃ (j : Nat) (o : Ob) (a : Addr), δ[j]? = some (.ow true o) ∧ σ[i + j]? = some (some (.ref a)) ∧ c ∈ foot H a
  | [], i, h => by simp [ftO] at h
  | s :: δ, i, h => by
    have step : c ∈ ftO σ H δ (i + 1) → ∃ (j : Nat) (o : Ob) (a : Addr), (s :: δ)[j]? = some (.ow true o) ∧ σ[i + j]? = some (some (.ref a)) ∧ c ∈ foot H a := fun h => by
      obtain ⟨j, o, a, h1, h2, h3⟩ := mem_ftO h
      exact ⟨j + 1, o, a, by simpa using h1, by rw [show i + (j + 1) = i + 1 + j by omega]; exact h2, h3⟩
    cases s with
    | no => exact step h
    | ro d => exact step h
    | ow p o =>
      cases p with
      | false => exact step h
      | true =>
        rcases List.mem_append.mp h with h | h
        · split at h
          · rename_i a ha
            exact ⟨0, o, a, rfl, ha, h⟩
          · simp at h
        · exact step h
theorem ftO_mem {σ : St} {H : Hp} {c a : Addr} {o : Ob} : ∀ {δ : List Sl} {i j : Nat}, δ[j]? = some (.ow true o) → σ[i + j]? = some (some (.ref a)) → c ∈ foot H a → c ∈ ftO σ H δ i
  | [], i, j, h, _, _ => by simp at h
  | s :: δ, i, 0, h1, h2, h3 => by
    have e : s = .ow true o := by simpa using h1
    subst e
    have h2 : σ[i]? = some (some (.ref a)) := h2
    unfold ftO
    rw [h2]
    exact List.mem_append_left _ h3
  | s :: δ, i, j + 1, h1, h2, h3 => by
    have ih := ftO_mem (δ := δ) (i := i + 1) (j := j) (by simpa using h1) (by rw [show i + 1 + j = i + (j + 1) by omega]; exact h2) h3
    cases s with
    | no => exact ih
    | ro d => exact ih
    | ow p u =>
      cases p with
      | false => exact ih
      | true => exact List.mem_append_right _ ih
/-- what a def hands back; of: what its caller hides then -/
def RtR (g : Gr) (of oc : List Addr) (H : Hp) : Rt → V → Prop
  | .d x, v => Rep g.K (hid of H) x v
  | .fr o, v => ∃ p, v = .ref p ∧ (∀ c ∈ foot H p, c ∉ of ∧ c ∈ oc ∧ g.H0 c = none) ∧ OwnOk g.P g.w g.K (hid (foot H p ++ of) H) H p o
def endS (g : Gr) (o0 oc : List Addr) (D : Ends) (σ : St) (H : Hp) (δ : Env) : Fl → Prop
  | .nx => D.nx σ H
  | .bk => D.bk σ H
  | .ct => D.ct σ H
  | .rt r => ∀ v, RtR g (ftO σ H δ 0 ++ o0) oc H r v → D.rt v H
structure Sw where
  g : Gr
  cl : Str → Option Addr
  EX : XS
  o0 : List Addr
def wpS (W : Sw) (ows : List Addr) (H : Hp) (o : Out Env Fl) (D : Ends) : Prop := match o with
  | .ok f δ => ∀ σ' ows' H', EnvR W.g ows' σ' H' δ → GrwS ows H ows' H' → endS W.g W.o0 ows' D σ' H' δ f
  | .ex c δ => ∀ σ' ows' H' cv d, EnvR W.g ows' σ' H' δ → GrwS ows H ows' H' → ExR W.cl c H' cv d → W.EX σ' cv d H'
  | .no => False
section
variable {W : Sw} {ows ows1 : List Addr} {σ : St} {H H1 : Hp} {δ : Env} {D D' : Ends}
theorem wpS.from {o : Out Env Fl} (e : GrwS ows H ows1 H1) (h : wpS W ows H o D) : wpS W ows1 H1 o D := by
  cases o with
  | ok f δ => exact fun σ' ows' H' er gw => h σ' ows' H' er (e.trans gw)
  | ex c δ => exact fun σ' ows' H' cv d er gw => h σ' ows' H' cv d er (e.trans gw)
  | no => exact h
theorem wpS.bind {α β : Type} {o : Out Env α} {f : α → Env → Out Env Fl} {R : List Addr → Hp → α → β → Prop} {Q : β → Hp → Prop} (h : wpS W ows H (o.bind f) D)
    (k : ∀ r δ1 b w1 H1, o = .ok r δ1 → EnvR W.g w1 σ H1 δ1 → GrwS ows H w1 H1 → R w1 H1 r b → wpS W w1 H1 (f r δ1) D → Q b H1) : wpO ⟨W.g, σ, W.cl, W.EX⟩ ows H o R Q := by
  cases o with
  | ok r δ => exact fun b w1 H' er sm rr => k r δ b w1 H' rfl er sm rr (wpS.from (o := f r δ) sm h)
  | ex c δ => exact fun w1 H' cv d er sm x => h _ w1 H' cv d er sm x
  | no => exact h
theorem wpS.lift {α : Type} {a? : Option α} {f : α → Env → Out Env Fl} (h : wpS W ows H ((G.lift a? δ).bind f) D) : ∃ a, a? = some a ∧ wpS W ows H (f a δ) D := by
  cases a? with
  | none => exact h.elim
  | some a => exact ⟨a, rfl, h⟩
theorem wpS.seq {o : Out Env Fl} {f : Env → Out Env Fl} (h : wpS W ows H (o.bind fun fl δ => match fl with | .nx => f δ | fl => .ok fl δ) D) {N : St → Hp → Prop}
    (k : ∀ σ' ows' H' δ', EnvR W.g ows' σ' H' δ' → GrwS ows H ows' H' → wpS W ows' H' (f δ') D → N σ' H') : wpS W ows H o { D with nx := N } := by
  cases o with
  | ok fl δ =>
    intro σ' ows' H' er gw
    cases fl with
    | nx => exact k σ' ows' H' δ er gw (wpS.from (o := f δ) gw h)
    | rt r => exact h σ' ows' H' er gw
    | bk => exact h σ' ows' H' er gw
    | ct => exact h σ' ows' H' er gw
  | ex c δ => exact h
  | no => exact h
end
section
variable (X : Cx) (T : List Fn) (cl : Str → Option Addr) (EX : XS)
/-- the reading of a statement -/
def tS (s : S) : TS := fun D σ H => ∃ H0 ps o0 ows δ, EnvR (gr X H0 ps) ows σ H δ ∧ G.Dom o0 H0 ∧ (∀ a ∈ o0, a ∈ ows) ∧ wpS ⟨gr X H0 ps, cl, EX, o0⟩ ows H (exs T s δ) D
end
section
variable {X : Cx} {T : List Fn} {cl : Str → Option Addr} {EX : XS} {H0 : Hp} {ps : Ps} {ows o0 : List Addr} {σ : St} {H : Hp} {δ : Env} {D : Ends}
theorem ts_skip (h : tS X T cl EX .skip D σ H) : tNext D σ H := by
  obtain ⟨H0, ps, o0, ows, δ, e, d, so, h⟩ := h
  exact h σ ows H e .refl
theorem ts_brk (h : tS X T cl EX .brk D σ H) : tBreak D σ H := by
  obtain ⟨H0, ps, o0, ows, δ, e, d, so, h⟩ := h
  exact h σ ows H e .refl
theorem ts_cnt (h : tS X T cl EX .cnt D σ H) : tCont D σ H := by
  obtain ⟨H0, ps, o0, ows, δ, e, d, so, h⟩ := h
  exact h σ ows H e .refl
theorem ts_seq {a b : S} (h : tS X T cl EX (.seq a b) D σ H) : tSeq (tS X T cl EX a) (tS X T cl EX b) D σ H := by
  obtain ⟨H0, ps, o0, ows, δ, e, d, so, h⟩ := h
  simp only [exs] at h
  exact ⟨H0, ps, o0, ows, δ, e, d, so, wpS.seq h fun σ' ows' H' δ' er gw h' => ⟨H0, ps, o0, ows', δ', er, d, fun a ha => gw.sub a (so a ha), h'⟩⟩
theorem ts_asg {i : Nat} {a : E} (h : tS X T cl EX (.asg i a) D σ H) : tAsg (tE X T cl EX a) (gName i) D σ H := by
  obtain ⟨H0, ps, o0, ows, δ, e, d, so, h⟩ := h
  simp only [exs] at h
  refine ⟨H0, ps, ows, δ, e, wpS.bind h fun r δ1 x w1 H1 _ e1 g1 rx h1 => ?_⟩
  obtain ⟨y, hy, h2⟩ := h1.lift
  obtain ⟨δ2, h3, h4⟩ := h2.lift
  cases asD_some hy
  cases free_set h3
  exact h4 _ w1 H1 (e1.setRo rx) .refl
theorem ts_asgT {is : List Nat} {a : E} (h : tS X T cl EX (.asgT is a) D σ H) : tAsg (tE X T cl EX a) (gTup X.K is.length (gNames is)) D σ H := by
  obtain ⟨H0, ps, o0, ows, δ, e, d, so, h⟩ := h
  simp only [exs] at h
  refine ⟨H0, ps, ows, δ, e, wpS.bind h fun r δ1 x w1 H1 _ e1 g1 rx h1 => ?_⟩
  obtain ⟨y, hy, h2⟩ := h1.lift
  obtain ⟨δ2, h3, h4⟩ := h2.lift
  cases asD_some hy
  exact tup_ok e1 rx h3 fun σ1 e2 _ => h4 σ1 w1 H1 e2 .refl
theorem ts_ite {c : E} {a b : S} (h : tS X T cl EX (.ite c a b) D σ H) : tIfS (tT X T cl EX c) (tS X T cl EX a) (tS X T cl EX b) D σ H := by
  obtain ⟨H0, ps, o0, ows, δ, e, d, so, h⟩ := h
  simp only [exs] at h
  refine ⟨H0, ps, ows, δ, e, wpS.bind (o := evB T c δ) h fun t δ1 b' w1 H1 _ e1 g1 (rx : t = b') h1 => ?_⟩
  subst rx
  cases t with
  | true => exact iteT ⟨H0, ps, o0, w1, δ1, e1, d, fun a ha => g1.sub a (so a ha), h1⟩
  | false => exact iteF ⟨H0, ps, o0, w1, δ1, e1, d, fun a ha => g1.sub a (so a ha), h1⟩
theorem ts_drop {a : E} (h : tS X T cl EX (.drop a) D σ H) : tDrop (tE X T cl EX a) D σ H := by
  obtain ⟨H0, ps, o0, ows, δ, e, d, so, h⟩ := h
  simp only [exs] at h
  exact ⟨H0, ps, ows, δ, e, wpS.bind h fun r δ1 x w1 H1 _ e1 g1 rx h1 => h1 σ w1 H1 e1 .refl⟩
/-- what is wished of an error that is raised here -/
def exAt (EX : XS) (σ : St) : XK := EX σ
theorem ts_rais {x m : Str} {C : Addr} (hc : cl x = some C) (h : tS X T cl EX (.rais x m) D σ H) : EX σ (.ref C) none H := by
  obtain ⟨H0, ps, o0, ows, δ, e, d, so, h⟩ := h
  simp only [exs] at h
  exact h σ ows H (.ref C) none e .refl ⟨C, hc, rfl, rfl⟩
/-! ### new objects -/
/-- what is wanted of a new object -/
def wpF (W : Wi) (ows : List Addr) (H : Hp) (o : Out Env Ob) (Q : VK) : Prop := match o with
  | .ok o δ => ∀ p ows' H', EnvR W.g ows' W.σ H' δ → GrwS ows H ows' H' → NewO W.g ows' W.σ H' δ p o → Q (.ref p) H'
  | .ex c δ => ∀ ows' H' cv d, EnvR W.g ows' W.σ H' δ → GrwS ows H ows' H' → ExR W.cl c H' cv d → W.EX W.σ cv d H'
  | .no => False
def tF (X : Cx) (T : List Fn) (cl : Str → Option Addr) (EX : XS) (a : E) : TE := fun σ H Q => ∃ H0 ps ows δ, EnvR (gr X H0 ps) ows σ H δ ∧ wpF ⟨gr X H0 ps, σ, cl, EX⟩ ows H (evF T a δ) Q
theorem same_new {D : Addr} {u : HO} (n : H D = none) (nd : D ∉ ows) : Same (hid ows H) (hid (D :: ows) (upd H D u)) := fun a o q => by
  have h := hid_same _ _ _ _ q
  have na : a ∉ ows := fun z => by unfold hid at q; rw [if_pos z] at q; cases q
  have ne : a ≠ D := ne_of_none h n
  exact hid_of (by rw [upd_ne ne]; exact h) (by simp only [List.mem_cons, not_or]; exact ⟨ne, na⟩)
theorem grw_new {D : Addr} {u : HO} (n : H D = none) (nd : D ∉ ows) : GrwS ows H (D :: ows) (upd H D u) := ⟨fun a ha => List.mem_cons_of_mem _ ha, same_new n nd⟩
/-- a new list, dict at p -/
theorem newO_at {g : Gr} {p : Addr} {u : HO} {o : Ob} (e : EnvR g ows σ H δ) (n : H p = none) (hf : foot (upd H p u) p = [p]) (ok : OwnOk g.P g.w g.K (hid (p :: ows) (upd H p u)) (upd H p u) p o) : EnvR g (p :: ows) σ (upd H p u) δ ∧ NewO g (p :: ows) σ (upd H p u) δ p o := by
  obtain ⟨n1, n2⟩ := e.fresh n
  have e2 : EnvR g (p :: ows) σ (upd H p u) δ := e.ownNew n (fun a v q => by rw [upd_ne (ne_of_none q n)]; exact q) upd_same
  refine ⟨e2, fun c hc => ?_, fun i b v a hi ha c hc hc' => ?_, ok⟩
  · rw [hf] at hc
    cases List.mem_singleton.mp hc
    exact ⟨List.mem_cons_self, n1⟩
  · rw [hf] at hc
    cases List.mem_singleton.mp hc
    have na : a ≠ p := fun z => n2 (by rw [← z]; exact ((e.own hi ha).1 a foot_self).1)
    rw [foot_eq (upd_ne na)] at hc'
    exact e.notFoot hi ha n hc'
theorem wpF.now {o : Ob} {Q : VK} {W : Wi} {H1 : Hp} {δ1 : Env} {p : Addr} {u : HO} (h : wpF W ows H1 (.ok o δ1) Q) (e : EnvR W.g ows W.σ H1 δ1) (n : H1 p = none) (hf : foot (upd H1 p u) p = [p]) (ok : OwnOk W.g.P W.g.w W.g.K (hid (p :: ows) (upd H1 p u)) (upd H1 p u) p o) : Q (.ref p) (upd H1 p u) := by
  obtain ⟨n1, n2⟩ := e.fresh n
  obtain ⟨e2, no⟩ := newO_at e n hf ok
  exact h p _ _ e2 (grw_new n n2) no
theorem wpF.from {W : Wi} {ows1 : List Addr} {H H1 : Hp} {o : Out Env Ob} {Q : VK} (e : GrwS ows H ows1 H1) (h : wpF W ows H o Q) : wpF W ows1 H1 o Q := by
  cases o with
  | ok o δ => exact fun p w' H' er sm k => h p w' H' er (e.trans sm) k
  | ex c δ => exact fun w' H' cv d er sm x => h w' H' cv d er (e.trans sm) x
  | no => exact h
theorem wpF.bind {α β : Type} {W : Wi} {o : Out Env α} {f : α → Env → Out Env Ob} {R : List Addr → Hp → α → β → Prop} {Q : VK} {Q2 : β → Hp → Prop} (h : wpF W ows H (o.bind f) Q) (k : ∀ r δ1 b w1 H1, o = .ok r δ1 → EnvR W.g w1 W.σ H1 δ1 → R w1 H1 r b → wpF W w1 H1 (f r δ1) Q → Q2 b H1) : wpO W ows H o R Q2 := by
  cases o with
  | ok r δ => exact fun b w1 H' er sm rr => k r δ b w1 H' rfl er rr (wpF.from (o := f r δ) sm h)
  | ex c δ => exact h
  | no => exact h
theorem wpF.lift {α : Type} {W : Wi} {a? : Option α} {f : α → Env → Out Env Ob} {Q : VK} (h : wpF W ows H ((G.lift a? δ).bind f) Q) : ∃ a, a? = some a ∧ wpF W ows H (f a δ) Q := by
  cases a? with
  | none => exact h.elim
  | some a => exact ⟨a, rfl, h⟩
theorem foot_updl {p : Addr} {vs : List V} : foot (upd H p (.lst vs)) p = [p] := foot_lst upd_same
theorem tf_lst {es : E} {Q : VK} (hz : lenE es ≤ 1000) (h : tF X T cl EX (.lst es) σ H Q) : tLst (tEs X T cl EX es) σ H Q := by
  obtain ⟨H0, ps, ows, δ, e, h⟩ := h
  simp only [evF] at h
  refine ⟨H0, ps, ows, δ, e, wpF.bind h fun rs δ1 vs w1 H1 q1 e1 rx h1 => ?_⟩
  obtain ⟨ds, q2, h2⟩ := h1.lift
  have r := reps_of rx q2
  refine ⟨by rw [r.length, datas_len q2, evs_len q1]; exact Nat.le_trans hz (by decide), fun p n => h2.now e1 n foot_updl ⟨vs, upd_same, ?_⟩⟩
  exact Reps.mono (same_new n (e1.fresh n).2) _ _ r
theorem tf_dnew {Q : VK} (h : tF X T cl EX .dnew σ H Q) : tDNewN X.prog X.w X.K σ H Q := by
  obtain ⟨H0, ps, ows, δ, e, h⟩ := h
  simp only [evF] at h
  intro p o n hd
  have hd' : DctAt X.prog X.w X.K (hid (p :: ows) (upd H p o)) p ((upd H p o) p) [] := by rw [upd_same]; exact hd _
  exact wpF.now (W := ⟨gr X H0 ps, σ, cl, EX⟩) h e n (foot_dct hd').1 hd'
theorem tf_call {k : Nat} {es : E} {Q : VK} (h : tF X T cl EX (.call k es) σ H Q) : tC0 X T cl EX k es σ H Q := by
  obtain ⟨H0, ps, ows, δ, e, h⟩ := h
  refine ⟨H0, ps, ows, δ, e, ?_⟩
  simp only [evF] at h
  cases h1 : evs T es δ with
  | ok rs δ1 =>
    rw [h1] at h
    simp only [Out.bind] at h ⊢
    cases h2 : callR T k rs δ1 with
    | ok r δ2 =>
      rw [h2] at h
      simp only [Out.bind] at h
      cases r with
      | d x => exact h.elim
      | fr o => exact fun p w' H' er sm n k => h p w' H' er sm k
    | ex c s => rw [h2] at h; exact h
    | no => rw [h2] at h; exact h
  | ex c s => rw [h1] at h; exact h
  | no => rw [h1] at h; exact h
/-- a new object goes into its slot -/
theorem EnvR.put {g : Gr} {i : Nat} {p : Addr} {o : Ob} (e : EnvR g ows σ H δ) (no : NewO g ows σ H δ p o) : EnvR g ows (σ.set i (some (.ref p))) H (δ.set i (.ow false o)) :=
  e.set (s := .ow false o) ⟨p, rfl, fun c hc => ⟨(no.own c hc).1, .inr (no.own c hc).2⟩, no.ok⟩ (fun q u a hs hv j b w x hj hd hx c hc => by cases hv; exact no.apart j b w x hd hx c hc) (fun _ z => nomatch z)
theorem ts_asgO {i : Nat} {a : E} (h : tS X T cl EX (.asgO i a) D σ H) : tAsg (tF X T cl EX a) (gName i) D σ H := by
  obtain ⟨H0, ps, o0, ows, δ, e, d, so, h⟩ := h
  simp only [exs] at h
  refine ⟨H0, ps, ows, δ, e, ?_⟩
  cases h1 : evF T a δ with
  | ok o δ1 =>
    rw [h1] at h
    simp only [Out.bind] at h
    intro p w1 H1 e1 sm no
    split at h
    · exact h _ w1 H1 (e1.put no) sm
    · exact h.elim
  | ex c s =>
    rw [h1] at h
    exact fun w' H' cv d' er sm x => h σ w' H' cv d' er sm x
  | no => rw [h1] at h; exact h.elim
end
end G
/-! G.Txr: raise with an int that is kept; try: a call, except: the int that is kept. -/
namespace G
open PySem L2
section
variable {X : Cx} {T : List Fn} {cl : Str → Option Addr} {EX : XS} {σ : St} {H : Hp} {D : Ends}
/-- C(e), its int in the field f -/
abbrev tMkN (te : TE) (C : Addr) (f : Str) : St → Hp → XK → Prop := tMkO C (spI C f) [] (tCons te tNil)
theorem ts_raisN {x f : Str} {a : E} {C : Addr} (hc : cl x = some C) (h : tS X T cl EX (.raisN x f a) D σ H) : tMkN (tE X T cl EX a) C f σ H (fun cls d H' => EX σ cls d H') := by
  obtain ⟨H0, ps, o0, ows, δ, e, d, so, h⟩ := h
  simp only [exs] at h
  refine ⟨H0, ps, ows, δ, e, wpS.bind h fun r δ1 y w1 H1 _ e1 g1 rx h1 => ?_⟩
  refine ⟨show 1 ≤ 1000 by decide, fun b hb => ⟨b, y, rfl, upd_same, fun p hp hne => ⟨rfl, p, _, upd_same, (upd_ne hne).trans upd_same, ?_, ?_⟩⟩⟩
  · rw [upd_ne hne] at hp; exact hp
  · rw [upd_ne hne] at hp
    have eu : upd (del (upd (upd (upd H1 b (exo b C none)) p (exd p [(f, y)])) b (exo b C (some p))) b) p (.xd [(f, y)]) = upd H1 p (.xd [(f, y)]) := by
      funext c
      by_cases h1 : c = p
      · rw [h1, upd_same, upd_same]
      · rw [upd_ne h1, upd_ne h1]
        by_cases h2 : c = b
        · rw [h2, del_same, hb]
        · rw [del_ne h2, upd_ne h2, upd_ne h1, upd_ne h2]
    rw [eu]
    split at h1
    · have ri := (repV_of e1 rx (by rfl)).int
      subst ri
      exact h1 σ w1 _ (.ref C) (some p) (e1.new hp) (.of (hid_new hp)) ⟨C, hc, rfl, p, rfl, upd_same⟩
    · exact h1.elim
/-- the suite: v = n.f -/
def tSuA (n i : Nat) (C : Addr) (f : Str) : Addr → Value → Option Addr → TS := fun a cls d => tAsg (tXf a cls d C f (tVar n)) (gName i)
theorem ts_tryA {i n k m : Nat} {es : E} {x f : Str} {C : Addr} {g : Fn} {Wout : WX} (hf : T[k]? = some g) (hm : lenE es = m) (hc : cl x = some C) (xm : PySem.W.exmOne X.K (.ref C) (.ref C) = some true)
    (h : tS X T cl EX (.tryA i n k es x f) D σ H) :
    tAsg (tCallS (spD X.prog X.w X.K cl m g) (WE (wAs X.K (.ref C) n (tSuA n i C f) Wout D)) (tEs X T cl (fun _ => E0) es)) (gName i) D σ H := by
  obtain ⟨H0, ps, o0, ows, δ, e, dm, so, h⟩ := h
  simp only [exs] at h
  cases q1 : evs T es δ with
  | ok rs δ1 =>
    rw [q1] at h
    simp only [Out.noex] at h
    refine ⟨H0, ps, ows, δ, e, ?_⟩
    rw [q1]
    intro vs w1 H1 e1 s1 rx
    refine callR_ok (W := ⟨gr X H0 ps, σ, cl, WE (wAs X.K (.ref C) n (tSuA n i C f) Wout D)⟩) hf (by rw [rvrs_len rx, evs_len q1]; exact hm) e1 rx ?_
    replace h := wpS.from s1 h
    cases q2 : callR T k rs δ1 with
    | ok r δ2 =>
      rw [q2] at h
      cases r with
      | d y =>
        intro v w' H' e2 s2 rv
        simp only at h
        obtain ⟨δ3, h3, h4⟩ := h.lift
        cases free_set h3
        exact h4 _ w' H' (e2.setRo rv) s2
      | fr o => exact h.elim
    | ex c δ2 =>
      rw [q2] at h
      intro w' H' cv d e2 s2 xr
      simp only at h
      split at h
      · rename_i gf v hp
        split at h
        · rename_i hq
          obtain ⟨hq1, rfl, hln⟩ := hq
          obtain ⟨δ3, h3, h4⟩ := wpS.lift h
          cases free_set h3
          obtain ⟨C', k1, rfl, k2⟩ := xr
          rw [hq1] at k1
          have k1 : cl x = some C' := k1
          rw [hc] at k1
          cases k1
          rw [hp] at k2
          obtain ⟨p, rfl, k3⟩ := k2
          refine ⟨true, xm, fun _ a ha => ?_, fun z => nomatch z⟩
          refine ⟨.ref a, ?_, rfl, rfl, p, _, .int v, rfl, k3, by simp [List.lookup], ?_⟩
          · exact List.getElem?_set_self (Nat.lt_of_lt_of_eq hln e2.len.symm)
          · exact h4 _ w' H' (((e2.forget (i := n) (v := some (.ref a))).setRo (by simp only [Rep])).forget) s2
        · exact h.elim
      · exact h.elim
    | no => rw [q2] at h; exact h.elim
  | ex c δ1 => rw [q1] at h; exact h.elim
  | no => rw [q1] at h; exact h.elim
end
end G
/-! G.Snd8: statements, further: return, stores into objects, loops. -/
namespace G
open PySem L2
section
variable {X : Cx} {T : List Fn} {cl : Str → Option Addr} {EX : XS} {H0 : Hp} {ps : Ps} {ows o0 of : List Addr} {σ : St} {H : Hp} {δ : Env} {D : Ends}
/-- what the caller hides behind the run -/
theorem of_sub {g : Gr} (e : EnvR g ows σ H δ) (so : ∀ a ∈ o0, a ∈ ows) : ∀ a ∈ ftO σ H δ 0 ++ o0, a ∈ ows := fun c hc => by
  rcases List.mem_append.mp hc with h | h
  · obtain ⟨j, o, a, h1, h2, h3⟩ := mem_ftO h
    rw [Nat.zero_add] at h2
    exact ((e.own h1 h2).1 c h3).1
  · exact so c h
theorem same_newS {p : Addr} {u : HO} (so : ∀ a ∈ of, a ∈ ows) (n : H p = none) : Same (hid ows H) (hid (p :: of) (upd H p u)) := fun a o q => by
  have h := hid_same _ _ _ _ q
  have na : a ∉ ows := fun z => by unfold hid at q; rw [if_pos z] at q; cases q
  have ne : a ≠ p := ne_of_none h n
  exact hid_of (by rw [upd_ne ne]; exact h) (by simp only [List.mem_cons, not_or]; exact ⟨ne, fun z => na (so a z)⟩)
theorem tr_lst {es : E} (hz : lenE es ≤ 1000) (h : tS X T cl EX (.ret (.lst es)) D σ H) : tRet (tLst (tEs X T cl EX es)) D σ H := by
  obtain ⟨H0, ps, o0, ows, δ, e, d, so, h⟩ := h
  simp only [exs, evR] at h
  refine ⟨H0, ps, ows, δ, e, ?_⟩
  cases q1 : evs T es δ with
  | ok rs δ1 =>
    rw [q1] at h
    simp only [Out.bind] at h
    intro vs w1 H1 e1 sm rx
    cases q2 : datas rs with
    | none => rw [q2] at h; exact h.elim
    | some ds =>
      rw [q2] at h
      have h : wpS _ ows H (.ok (.rt (.fr (.lst ds))) δ1) D := h
      have r := reps_of rx q2
      refine ⟨by rw [r.length, datas_len q2, evs_len q1]; exact Nat.le_trans hz (by decide), fun p n => ?_⟩
      have z := e1.fresh n
      have so1 : ∀ a ∈ o0, a ∈ w1 := fun a ha => sm.sub a (so a ha)
      obtain ⟨e2, no⟩ := newO_at (o := .lst ds) (u := .lst vs) e1 n foot_updl ⟨vs, upd_same, Reps.mono (same_new n z.2) _ _ r⟩
      refine h σ (p :: w1) _ e2 (sm.trans (grw_new n z.2)) _ ⟨p, rfl, fun c hc => ?_, ?_⟩
      · have hc' := hc
        rw [foot_updl] at hc'
        cases List.mem_singleton.mp hc'
        refine ⟨fun hz => ?_, List.mem_cons_self, z.1⟩
        rcases List.mem_append.mp hz with h | h
        · obtain ⟨j, o, a, h1, h2, h3⟩ := mem_ftO h
          rw [Nat.zero_add] at h2
          exact no.apart j true o a h1 h2 _ hc h3
        · exact z.2 (so1 _ h)
      · rw [foot_updl]
        refine ⟨vs, upd_same, Reps.mono (same_newS (of := ftO σ (upd H1 p (.lst vs)) δ1 0 ++ o0) (fun a ha => ?_) n) _ _ r⟩
        rcases List.mem_append.mp ha with h | h
        · obtain ⟨j, o, b, h1, h2, h3⟩ := mem_ftO h
          rw [Nat.zero_add] at h2
          have hb := e1.own h1 h2
          have nb : b ≠ p := fun z' => z.2 (by rw [← z']; exact (hb.1 b foot_self).1)
          rw [foot_eq (upd_ne nb)] at h3
          exact (hb.1 a h3).1
        · exact so1 a h
  | ex c s => rw [q1] at h; exact fun w' H' cv d' er sm x => h σ w' H' cv d' er sm x
  | no => rw [q1] at h; exact h.elim
/-- an own object that was not handed in: nothing of it is hidden by the caller -/
theorem own_off {g : Gr} (e : EnvR g ows σ H δ) (d : G.Dom o0 g.H0) {i : Nat} {o : Ob} {a : Addr} (hi : δ[i]? = some (.ow false o)) (ha : σ[i]? = some (some (.ref a))) : ∀ c ∈ foot H a, c ∉ ftO σ H δ 0 ++ o0 := fun c hc hz => by
  rcases List.mem_append.mp hz with h | h
  · obtain ⟨j, o', b, h1, h2, h3⟩ := mem_ftO h
    rw [Nat.zero_add] at h2
    refine e.inj i j false o true o' a b (fun z => ?_) hi h1 ha h2 c hc h3
    subst z
    rw [hi] at h1
    cases h1
  · exact d c h ((e.own hi ha).1 c hc).2.own
theorem mine_reps {g : Gr} (e : EnvR g ows σ H δ) (so : ∀ a ∈ o0, a ∈ ows) (d : G.Dom o0 g.H0) : ∀ {rs : List RV} {ds : List G.D} {vs : List V}, RvRs g σ ows H rs vs → mine δ rs = true → vals δ rs = some ds → Reps g.K (hid (ftO σ H δ 0 ++ o0) H) ds vs
  | [], _, _, h, _, q => by cases q; cases h; exact Reps.nil
  | r :: rs, _, _, ⟨v, us, h1, h2, h3⟩, hm, q => by
    subst h1
    unfold vals at q
    split at q
    · rename_i x xs q1 q2
      cases q
      cases r with
      | d y =>
        cases q1
        exact Reps.cons (Rep.mono (hid_sub (of_sub e so)) _ _ h2) (mine_reps e so d h3 (by simpa only [mine] using hm) q2)
      | own i =>
        simp only [mine, Bool.and_eq_true] at hm
        obtain ⟨hm1, hm2⟩ := hm
        refine Reps.cons ?_ (mine_reps e so d h3 hm2 q2)
        split at hm1
        · rename_i ys hi
          simp only [RV.val, hi] at q1
          cases q1
          obtain ⟨a, g1, g2, ws, g4, g5⟩ := e.slot i _ hi
          have h2 : σ[i]? = some (some v) := h2
          rw [g1] at h2
          cases h2
          simp only [Rep]
          exact ⟨a, ws, rfl, hid_of g4 (own_off e d hi g1 a foot_self), Reps.mono (hid_sub (of_sub e so)) _ _ g5⟩
        · cases hm1
    · cases q
theorem ftO_new {g : Gr} {p : Addr} {u : HO} (e : EnvR g ows σ H δ) (n : H p = none) : ∀ a, a ∈ ftO σ (upd H p u) δ 0 → a ∈ ftO σ H δ 0 := fun a h => by
  obtain ⟨j, o, b, h1, h2, h3⟩ := mem_ftO h
  rw [Nat.zero_add] at h2
  have nb : b ≠ p := fun z => (e.fresh n).2 (by rw [← z]; exact ((e.own h1 h2).1 b foot_self).1)
  rw [foot_eq (upd_ne nb)] at h3
  exact ftO_mem h1 (by rw [Nat.zero_add]; exact h2) h3
theorem tr_tup {es : E} (hz : lenE es ≤ 1000) (h : tS X T cl EX (.ret (.tup es)) D σ H) : tRet (tTup (tEs X T cl EX es)) D σ H := by
  obtain ⟨H0, ps, o0, ows, δ, e, d, so, h⟩ := h
  simp only [exs, evR] at h
  refine ⟨H0, ps, ows, δ, e, ?_⟩
  cases q1 : evs T es δ with
  | ok rs δ1 =>
    rw [q1] at h
    simp only [Out.bind] at h
    intro vs w1 H1 e1 sm rx
    split at h
    · rename_i f o ho
      split at ho
      · rename_i hm
        cases q2 : vals δ1 rs with
        | none => rw [q2] at ho; cases ho
        | some ds =>
          rw [q2] at ho
          cases ho
          have h : wpS _ ows H (.ok (.rt (.d (.tup ds))) δ1) D := h
          have so1 : ∀ a ∈ o0, a ∈ w1 := fun a ha => sm.sub a (so a ha)
          have r := mine_reps (o0 := o0) e1 so1 d rx hm q2
          have hl : vs.length ≤ sizeLine := by rw [rvrs_len rx, evs_len q1]; exact Nat.le_trans hz (by decide)
          refine ⟨hl, fun p n => ?_⟩
          refine h σ w1 _ (e1.new n) (sm.trans (.of (hid_new n))) _ ?_
          have np : p ∉ ftO σ (upd H1 p (.tup vs)) δ1 0 ++ o0 := fun z => (e1.fresh n).2 (by
            rcases List.mem_append.mp z with z | z
            · exact of_sub e1 so1 p (List.mem_append_left _ (ftO_new e1 n p z))
            · exact so1 p z)
          show Rep X.K (hid (ftO σ (upd H1 p (.tup vs)) δ1 0 ++ o0) (upd H1 p (.tup vs))) (.tup ds) (.ref p)
          simp only [Rep]
          refine ⟨p, vs, rfl, .inl (.inl (hid_of upd_same np)), Reps.mono ((hid_new n).trans (hid_sub fun a ha => ?_)) _ _ r⟩
          rcases List.mem_append.mp ha with z | z
          · exact List.mem_append_left _ (ftO_new e1 n a z)
          · exact List.mem_append_right _ z
      · cases ho
    · rename_i c o ho
      split at ho
      · cases q2 : vals δ1 rs with
        | none => rw [q2] at ho; cases ho
        | some ds => rw [q2] at ho; cases ho
      · cases ho
    · exact h.elim
  | ex c s => rw [q1] at h; exact fun w' H' cv d' er sm x => h σ w' H' cv d' er sm x
  | no => rw [q1] at h; exact h.elim
theorem tr_call {k : Nat} {es : E} (h : tS X T cl EX (.ret (.call k es)) D σ H) : tRet (tC0 X T cl EX k es) D σ H := by
  obtain ⟨H0, ps, o0, ows, δ, e, d, so, h⟩ := h
  simp only [exs, evR] at h
  refine ⟨H0, ps, ows, δ, e, ?_⟩
  cases q : (evs T es δ).bind (fun rs δ => callR T k rs δ) with
  | ok r δ1 =>
    rw [q] at h
    cases r with
    | d x => exact fun v w' H' er sm rr => h σ w' H' er sm v (rr.mono (hid_sub (of_sub er fun a ha => sm.sub a (so a ha))))
    | fr o =>
      intro p w' H' er sm n no
      have so1 : ∀ a ∈ o0, a ∈ w' := fun a ha => sm.sub a (so a ha)
      refine h σ w' H' er sm _ ⟨p, rfl, fun c hc => ⟨fun hz => ?_, (no.own c hc).1, (no.own c hc).2⟩, no.ok.mono (hid_sub fun a ha => ?_)⟩
      · rcases List.mem_append.mp hz with h | h
        · obtain ⟨j, o', b, h1, h2, h3⟩ := mem_ftO h
          rw [Nat.zero_add] at h2
          exact no.apart j true o' b h1 h2 c hc h3
        · exact d c h (no.own c hc).2
      · rcases List.mem_append.mp ha with ha | ha
        · exact (no.own a ha).1
        · exact of_sub er so1 a ha
  | ex c s => rw [q] at h; exact fun w' H' cv d' er sm x => h σ w' H' cv d' er sm x
  | no => rw [q] at h; exact h.elim
theorem tr_val {a : E} (hp : evR T a δ = (ev T a δ).bind fun x δ => lift (rtR δ x) δ) (e : EnvR (gr X H0 ps) ows σ H δ) (d : G.Dom o0 H0) (so : ∀ a ∈ o0, a ∈ ows) (h : wpS ⟨gr X H0 ps, cl, EX, o0⟩ ows H (exs T (.ret a) δ) D) : tRet (tE X T cl EX a) D σ H := by
  simp only [exs] at h
  rw [hp] at h
  refine ⟨H0, ps, ows, δ, e, ?_⟩
  cases q1 : ev T a δ with
  | ok r δ1 =>
    rw [q1] at h
    simp only [Out.bind] at h
    intro v w1 H1 e1 sm rx
    cases q2 : rtR δ1 r with
    | none => rw [q2] at h; exact h.elim
    | some t =>
      rw [q2] at h
      have h : wpS _ ows H (.ok (.rt t) δ1) D := h
      have so1 : ∀ a ∈ o0, a ∈ w1 := fun a ha => sm.sub a (so a ha)
      refine h σ w1 H1 e1 sm v ?_
      cases r with
      | d x => cases q2; exact Rep.mono (hid_sub (of_sub e1 so1)) _ _ rx
      | own i =>
        unfold rtR at q2
        simp only at q2
        split at q2
        · rename_i o hi
          cases q2
          obtain ⟨b, g1, g2, g4⟩ := e1.slot i _ hi
          have rx : σ[i]? = some (some v) := rx
          rw [g1] at rx
          cases rx
          refine ⟨b, rfl, fun c hc => ⟨own_off e1 d hi g1 c hc, (g2 c hc).1, (g2 c hc).2.own⟩, g4.mono (hid_sub fun a ha => ?_)⟩
          rcases List.mem_append.mp ha with ha | ha
          · exact (g2 a ha).1
          · exact of_sub e1 so1 a ha
        · cases q2
  | ex c s => rw [q1] at h; exact fun w' H' cv d' er sm x => h σ w' H' cv d' er sm x
  | no => rw [q1] at h; exact h.elim
/-! ### stores into objects -/
theorem ts_app {i : Nat} {a : E} (h : tS X T cl EX (.app i a) D σ H) : tDrop (tBM X.K "list" rAppend (tVar i) (tCons (tE X T cl EX a) tNil)) D σ H := by
  obtain ⟨H0, ps, o0, ows, δ, e, d, so, h⟩ := h
  simp only [exs] at h
  split at h
  · rename_i hi
    unfold ownL at hi
    split at hi
    · rename_i p xs h0
      obtain ⟨b, g1, g2, vs, g4, g5⟩ := e.slot i _ h0
      refine ⟨.ref b, g1, ?_, H0, ps, ows, δ, e, wpS.bind h fun r δ1 x w1 H1 _ e1 gw rx h1 => ?_⟩
      · exact .inl ⟨rfl, vs, SqL.of g4⟩
      obtain ⟨y, hy, h2⟩ := h1.lift
      obtain ⟨δ2, h3, h4⟩ := h2.lift
      cases asD_some hy
      unfold appR at h3
      split at h3
      · rename_i q ys hj
        split at h3
        · rename_i hz
          cases h3
          obtain ⟨b', k1, k2, ws, k4, k5⟩ := e1.slot i _ hj
          rw [g1] at k1
          cases k1
          have ho := (k2 b foot_self).1
          refine ⟨b, ws, x, rfl, rfl, k4, by rw [k5.length]; exact Nat.lt_of_lt_of_le hz big_line, ?_⟩
          exact h4 σ w1 _ (e1.change hj g1 (foot_lst k4) foot_updl ⟨ws ++ [x], upd_same, Reps.append k5 (Reps.cons rx Reps.nil)⟩) (.of (hid_change ho))
        · cases h3
      · cases h3
    · cases hi
  · exact h.elim
theorem ts_setI {i : Nat} {kk a : E} (h : tS X T cl EX (.setI i kk a) D σ H) : tAsg (tE X T cl EX a) (gSub (tVar i) (tE X T cl EX kk) fun o j v H Q => rSetL o j v H Q ∨ rPutN X.prog X.w X.K o j v H Q) D σ H := by
  obtain ⟨H0, ps, o0, ows, δ, e, d, so, h⟩ := h
  simp only [exs] at h
  refine ⟨H0, ps, ows, δ, e, wpS.bind h fun r δ1 x w1 H1 _ e1 gw rx h1 => ?_⟩
  obtain ⟨y, hy, h2⟩ := h1.lift
  cases asD_some hy
  split at h2
  · exact h2.elim
  rename_i hn
  have hn : notOwn δ1 i = false := by simpa using hn
  unfold notOwn at hn
  split at hn
  · rename_i p o hi
    obtain ⟨b, g1, g2, g4⟩ := e1.slot i _ hi
    refine ⟨.ref b, g1, H0, ps, w1, δ1, e1, wpS.bind h2 fun r2 δ2 z w2 H2 _ e2 gw2 rz h3 => ?_⟩
    obtain ⟨w, hw, h4⟩ := h3.lift
    obtain ⟨δ3, h5, h6⟩ := h4.lift
    cases asD_some hw
    have rx : Rep X.K (hid w1 H1) y x := rx
    have rz : Rep X.K (hid w2 H2) w z := rz
    have rx := rx.mono gw2.same
    unfold setIR at h5
    split at h5
    · rename_i q ys hj
      obtain ⟨b', k1, k2, ws, k4, k5⟩ := e2.slot i _ hj
      rw [g1] at k1
      cases k1
      obtain ⟨j, rfl⟩ : ∃ j, w = .int j := by
        cases w <;> simp only [reduceCtorEq] at h5
        exact ⟨_, rfl⟩
      · simp only at h5
        split at h5
        · rename_i hz
          cases h5
          simp only [Rep] at rz
          subst rz
          refine .inl ⟨b, ws, j, j.toNat, rfl, rfl, k4, ?_, ?_⟩
          · rw [k5.length]
            unfold L2.ixN
            rw [if_pos hz.1, if_pos (by omega)]
          · exact h6 σ w2 _ (e2.change hj g1 (foot_lst k4) foot_updl ⟨ws.set j.toNat x, upd_same, Reps.set _ k5 rx⟩) (.of (hid_change (k2 b foot_self).1))
        · cases h5
    · rename_i q kvs hj
      split at h5
      · rename_i hz
        cases h5
        obtain ⟨a', ea, k2, k4, k5⟩ := dct_of (g := gr X H0 ps) (v := .ref b) e2 hj g1
        cases ea
        obtain ⟨nk, b', n1, n2, rfl⟩ := G.key_of hz.1 rz
        refine .inr ⟨b, hid w2 H2, kvs, w, nk, b', y, rfl, hid_same _ _, k4, k5, n1, n2, rfl, rz, rx, hz.2, fun o ho => ?_⟩
        have ho' : DctAt X.prog X.w X.K (hid w2 H2) b ((upd H2 b o) b) (dput w y kvs) := by rw [upd_same]; exact ho
        exact h6 σ w2 _ (e2.change hj g1 (foot_dct k5).1 (foot_dct ho').1 ho') (.of (hid_change k2))
      · cases h5
    · cases h5
  · cases hn
/-! ### loops -/
theorem wpS.loop {W : Sw} {o : Out Env Fl} {f : Env → Out Env Fl} {N : St → Hp → Prop} (h : wpS W ows H (o.bind fun fl δ => match fl with | .nx => f δ | .ct => f δ | .bk => .ok .nx δ | .rt r => .ok (.rt r) δ) D)
    (k : ∀ σ' ows' H' δ', EnvR W.g ows' σ' H' δ' → GrwS ows H ows' H' → wpS W ows' H' (f δ') D → N σ' H') : wpS W ows H o { D with nx := N, ct := N, bk := D.nx } := by
  cases o with
  | ok fl δ =>
    intro σ' ows' H' er gw
    cases fl with
    | nx => exact k σ' ows' H' δ er gw (wpS.from (o := f δ) gw h)
    | rt r => exact h σ' ows' H' er gw
    | bk => exact h σ' ows' H' er gw
    | ct => exact k σ' ows' H' δ er gw (wpS.from (o := f δ) gw h)
  | ex c δ => exact h
  | no => exact h
theorem ts_whl {n : Nat} {c : E} {b : S} (h : tS X T cl EX (.whl n c b) D σ H) : tWhile (tT X T cl EX c) (tS X T cl EX b) D σ H := by
  obtain ⟨H0, ps, o0, ows, δ, e, d, so, h⟩ := h
  simp only [exs] at h
  refine ⟨fun m σ H => ∃ ows δ, EnvR (gr X H0 ps) ows σ H δ ∧ (∀ a ∈ o0, a ∈ ows) ∧ wpS ⟨gr X H0 ps, cl, EX, o0⟩ ows H (loopW (evB T c) (exs T b) m δ) D, ⟨n, ows, δ, e, so, h⟩, ?_⟩
  rintro m σ H ⟨ows, δ, e, so, h⟩
  cases m with
  | zero => exact h.elim
  | succ m =>
    unfold loopW at h
    refine ⟨H0, ps, ows, δ, e, wpS.bind (o := evB T c δ) h fun t δ1 b' w1 H1 _ e1 g1 (rx : t = b') h1 => ?_⟩
    subst rx
    cases t with
    | false => exact iteF (h1 σ w1 H1 e1 .refl)
    | true =>
      refine iteT ⟨_, fun σ' H' w => ⟨m, Nat.lt_succ_self m, w⟩, H0, ps, o0, w1, δ1, e1, d, fun a ha => g1.sub a (so a ha), ?_⟩
      exact wpS.loop h1 fun σ' ows' H' δ' er gw h' => ⟨ows', δ', er, fun a ha => gw.sub a (g1.sub a (so a ha)), h'⟩
theorem for_main {b : S} {g : TG} {g' : G.D → Env → Option Env} {it : E} (hg : ∀ {ows σ H δ δ1 x v} {Q : St → Hp → Prop}, EnvR (gr X H0 ps) ows σ H δ → Rep X.K (hid ows H) x v → g' x δ = some δ1 → (∀ σ1, EnvR (gr X H0 ps) ows σ1 H δ1 → Q σ1 H) → g v σ H Q)
    (e : EnvR (gr X H0 ps) ows σ H δ) (d : G.Dom o0 H0) (so : ∀ a ∈ o0, a ∈ ows) (h : wpS ⟨gr X H0 ps, cl, EX, o0⟩ ows H ((evi T it δ).bind fun xs δ => loopF g' (exs T b) xs δ) D) : tFor (tI X T cl EX it) g (tS X T cl EX b) D σ H := by
  refine ⟨H0, ps, ows, δ, e, wpS.bind h fun xs δ1 J w1 H1 _ e1 g1 wd h1 => ?_⟩
  have so1 : ∀ a ∈ o0, a ∈ w1 := fun a ha => g1.sub a (so a ha)
  refine ⟨fun i m σ H => m = xs.length - i ∧ i ≤ xs.length ∧ ∃ ows' δ', EnvR (gr X H0 ps) ows' σ H δ' ∧ GrwS w1 H1 ows' H ∧ wpS ⟨gr X H0 ps, cl, EX, o0⟩ ows' H (loopF g' (exs T b) (xs.drop i) δ') D,
    ⟨xs.length, rfl, Nat.zero_le _, w1, δ1, e1, .refl, h1⟩, ?_⟩
  rintro i m σ H ⟨rfl, hi, ows', δ', E, gw, hb⟩
  obtain ⟨w1, w2⟩ := wd i H ows' gw.same E.dom
  by_cases hlt : i < xs.length
  · refine .inr ⟨(w1 hlt).1, fun σ' H' => xs.length - (i + 1) = xs.length - (i + 1) ∧ i + 1 ≤ xs.length ∧ ∃ ows' δ', EnvR (gr X H0 ps) ows' σ' H' δ' ∧ GrwS _ H1 ows' H' ∧ wpS ⟨gr X H0 ps, cl, EX, o0⟩ ows' H' (loopF g' (exs T b) (xs.drop (i + 1)) δ') D,
      fun σ' H' w => ⟨xs.length - (i + 1), by omega, w⟩, fun x H' hy => ?_⟩
    obtain ⟨gr1, rx⟩ := (w1 hlt).2 x H' hy
    obtain ⟨E', s1⟩ := E.grow gr1
    have rx := rx xs[i] (List.getElem?_eq_getElem hlt)
    rw [List.drop_eq_getElem_cons hlt] at hb
    unfold loopF at hb
    obtain ⟨δ2, h2, h3⟩ := (wpS.from s1 hb).lift
    refine hg E' rx h2 fun σ1 E1 => ⟨H0, ps, o0, ows', δ2, E1, d, fun a ha => gw.sub a (so1 a ha), ?_⟩
    exact wpS.loop h3 fun σ' ows2 H2 δ3 er g2 h' => ⟨rfl, hlt, ows2, δ3, er, (gw.trans s1).trans g2, h'⟩
  · have z : i = xs.length := by omega
    subst z
    rw [List.drop_length] at hb
    exact .inl ⟨w2 rfl, hb σ ows' H E .refl⟩
theorem ts_for1 {i : Nat} {it : E} {b : S} (h : tS X T cl EX (.for1 i it b) D σ H) : tFor (tI X T cl EX it) (gName i) (tS X T cl EX b) D σ H := by
  obtain ⟨H0, ps, o0, ows, δ, e, d, so, h⟩ := h
  simp only [exs] at h
  exact for_main (fun E rx hs k => by cases free_set hs; exact k _ (E.setRo rx)) e d so h
theorem ts_forT {is : List Nat} {it : E} {b : S} (h : tS X T cl EX (.forT is it b) D σ H) : tFor (tI X T cl EX it) (gTup X.K is.length (gNames is)) (tS X T cl EX b) D σ H := by
  obtain ⟨H0, ps, o0, ows, δ, e, d, so, h⟩ := h
  simp only [exs] at h
  exact for_main (fun E rx hs k => tup_ok E rx hs fun σ1 e1 _ => k σ1 e1) e d so h
/-! ### side by side -/
theorem ts_par2 {i j : Nat} {es : E} (h : tS X T cl EX (.asgP [i, j] es) D σ H) : tPar i j (tEs X T cl EX es) D σ H := by
  obtain ⟨H0, ps, o0, ows, δ, e, d, so, h⟩ := h
  simp only [exs] at h
  refine ⟨H0, ps, ows, δ, e, wpS.bind h fun rs δ1 vs w1 H1 _ e1 gw rx h1 => ?_⟩
  obtain ⟨ds, h2, h3⟩ := h1.lift
  obtain ⟨δ2, h4, h5⟩ := h3.lift
  obtain ⟨v, us, rfl, v2, us2, rfl, rfl, q⟩ := names_ok (tg := [i, j]) (Q := fun σ' H' => D.nx σ' H') e1 (reps_of rx h2) h4 fun σ1 E1 _ => h5 σ1 w1 H1 E1 .refl
  exact ⟨v, v2, rfl, q⟩
theorem ts_par3 {i j l : Nat} {es : E} (h : tS X T cl EX (.asgP [i, j, l] es) D σ H) : tPar3 i j l (tEs X T cl EX es) D σ H := by
  obtain ⟨H0, ps, o0, ows, δ, e, d, so, h⟩ := h
  simp only [exs] at h
  refine ⟨H0, ps, ows, δ, e, wpS.bind h fun rs δ1 vs w1 H1 _ e1 gw rx h1 => ?_⟩
  obtain ⟨ds, h2, h3⟩ := h1.lift
  obtain ⟨δ2, h4, h5⟩ := h3.lift
  obtain ⟨v, us, rfl, v2, us2, rfl, v3, us3, rfl, rfl, q⟩ := names_ok (tg := [i, j, l]) (Q := fun σ' H' => D.nx σ' H') e1 (reps_of rx h2) h4 fun σ1 E1 _ => h5 σ1 w1 H1 E1 .refl
  exact ⟨v, v2, v3, rfl, q⟩
theorem ts_parT {is : List Nat} {es : E} (hz : lenE es ≤ 1000) (h : tS X T cl EX (.asgP is es) D σ H) : tAsg (tTup (tEs X T cl EX es)) (gTup X.K is.length (gNames is)) D σ H := by
  obtain ⟨H0, ps, o0, ows, δ, e, d, so, h⟩ := h
  simp only [exs] at h
  refine ⟨H0, ps, ows, δ, e, ?_⟩
  cases q1 : evs T es δ with
  | ok rs δ1 =>
    rw [q1] at h
    simp only [Out.bind] at h
    intro vs w1 H1 e1 sm rx
    obtain ⟨ds, h2, h3⟩ := (wpS.from (ows1 := w1) sm h : wpS _ w1 H1 ((lift (datas rs) δ1).bind fun ds δ => (lift (setRos δ is ds) δ).bind fun δ _ => .ok .nx δ) D).lift
    obtain ⟨δ2, h4, h5⟩ := h3.lift
    have r := reps_of rx h2
    refine ⟨by rw [r.length, datas_len h2, evs_len q1]; exact Nat.le_trans hz (by decide), fun p n => ?_⟩
    refine ⟨p, vs, rfl, .inl (.inl upd_same), by rw [r.length]; exact setRos_len h4, ?_⟩
    exact names_ok (e1.new n) (Reps.mono (hid_new n) _ _ r) h4 fun σ1 E1 _ => h5 σ1 w1 _ E1 (.of (hid_new n))
  | ex c s => rw [q1] at h; exact fun w' H' cv d' er sm x => h σ w' H' cv d' er sm x
  | no => rw [q1] at h; exact h.elim
/-! ### side by side, the last of them a new list -/
theorem bind_assoc {S α β γ : Type} (o : Out S α) (f : α → S → Out S β) (g : β → S → Out S γ) : (o.bind f).bind g = o.bind fun a s => (f a s).bind g := by cases o <;> rfl
theorem newL {j : Nat} {p : Addr} {H1 : Hp} {σ1 : St} {δ1 : Env} (e1 : EnvR (gr X H0 ps) ows σ1 H1 δ1) (n : H1 p = none) (h : wpS ⟨gr X H0 ps, cl, EX, o0⟩ ows H1 (if free δ1 j then .ok .nx (δ1.set j (.ow false (.lst []))) else .no) D) : D.nx (σ1.set j (some (.ref p))) (upd H1 p (.lst [])) := by
  split at h
  · obtain ⟨n1, n2⟩ := e1.fresh n
    obtain ⟨e2, no⟩ := newO_at (o := .lst []) (u := .lst []) e1 n foot_updl ⟨[], upd_same, Reps.nil⟩
    exact h _ (p :: ows) _ (e2.put no) (grw_new n n2)
  · exact h.elim
theorem ts_h {j i k : Nat} (h : tS X T cl EX (.asgH j i k) D σ H) : tPar j i (tCons (tLst tNil) (tCons (tVar k) tNil)) D σ H := by
  obtain ⟨H0, ps, o0, ows, δ, e, d, so, h⟩ := h
  simp only [exs] at h
  split at h
  · rename_i y hy
    obtain ⟨v, hv, hr⟩ := e.slot k _ hy
    refine ⟨Nat.zero_le _, fun p n => ⟨v, hv, .ref p, v, rfl, ?_⟩⟩
    split at h
    · obtain ⟨δ2, q2, h3⟩ := h.lift
      cases free_set q2
      obtain ⟨n1, n2⟩ := e.fresh n
      obtain ⟨e2, no⟩ := newO_at (o := .lst []) (u := .lst []) e n foot_updl ⟨[], upd_same, Reps.nil⟩
      exact h3 _ (p :: ows) _ ((e2.put (i := j) no).setRo (hr.mono (same_new n n2))) (grw_new n n2)
    · exact h.elim
  · exact h.elim
theorem ts_l1 {i j : Nat} {a : E} (h : tS X T cl EX (.asgL [i] (.cons a .nil) j) D σ H) : tPar i j (tCons (tE X T cl EX a) (tCons (tLst tNil) tNil)) D σ H := by
  obtain ⟨H0, ps, o0, ows, δ, e, d, so, h⟩ := h
  simp only [exs, evs, bind_assoc] at h
  refine ⟨H0, ps, ows, δ, e, wpS.bind h fun r δ1 x w1 H1 _ e1 gw rx h1 => ?_⟩
  refine ⟨Nat.zero_le _, fun p n => ⟨x, .ref p, rfl, ?_⟩⟩
  simp only [Out.bind] at h1
  obtain ⟨ds, q1, h2⟩ := h1.lift
  cases r with
  | own k => simp only [datas, reduceCtorEq] at q1
  | d y =>
    simp only [datas, Option.map_some, Option.some.injEq] at q1
    subst q1
    obtain ⟨δ2, q2, h3⟩ := h2.lift
    simp only [setRos] at q2
    cases q3 : setRo δ1 i y with
    | none => rw [q3] at q2; cases q2
    | some δ3 =>
      rw [q3] at q2
      cases q2
      cases free_set q3
      exact newL (e1.setRo rx) n h3
theorem ts_l2 {i m j : Nat} {a b : E} (h : tS X T cl EX (.asgL [i, m] (.cons a (.cons b .nil)) j) D σ H) : tPar3 i m j (tCons (tE X T cl EX a) (tCons (tE X T cl EX b) (tCons (tLst tNil) tNil))) D σ H := by
  obtain ⟨H0, ps, o0, ows, δ, e, d, so, h⟩ := h
  simp only [exs, evs, bind_assoc] at h
  refine ⟨H0, ps, ows, δ, e, wpS.bind h fun r δ1 x w1 H1 _ e1 gw rx h1 => ?_⟩
  refine ⟨H0, ps, w1, δ1, e1, wpS.bind h1 fun r2 δ2 x2 w2 H2 _ e2 gw2 rx2 h2 => ?_⟩
  refine ⟨Nat.zero_le _, fun p n => ⟨x, x2, .ref p, rfl, ?_⟩⟩
  simp only [Out.bind] at h2
  obtain ⟨ds, q1, h3⟩ := h2.lift
  cases r with
  | own k => simp only [datas, reduceCtorEq] at q1
  | d y =>
    cases r2 with
    | own k => simp only [datas, Option.map_none, reduceCtorEq] at q1
    | d y2 =>
      simp only [datas, Option.map_some, Option.some.injEq] at q1
      subst q1
      obtain ⟨δ3, q2, h4⟩ := h3.lift
      simp only [setRos] at q2
      cases q3 : setRo δ2 i y with
      | none => rw [q3] at q2; cases q2
      | some δ4 =>
        rw [q3] at q2
        simp only at q2
        cases q4 : setRo δ4 m y2 with
        | none => rw [q4] at q2; cases q2
        | some δ5 =>
          rw [q4] at q2
          cases q2
          cases free_set q3
          cases free_set q4
          have e3 := e2.setRo (i := i) (RvR.mono gw2 rx)
          exact newL (e3.setRo rx2) n h4
end
end G
/-! G.Snp: statements about players; try with clauses. -/
namespace G
open PySem L2
section
variable {X : Cx} {T : List Fn} {cl : Str → Option Addr} {EX : XS} {H0 : Hp} {ps : Ps} {ows o0 : List Addr} {σ : St} {H : Hp} {δ : Env} {D : Ends} {C : Addr}
theorem put_now {vr vn vw y : V} {q : Addr} : putF "now" y (plyFs vr vn vw q) = plyFs vr vn y q := by
  unfold plyFs
  simp only [putF]
  rw [if_neg (by decide +kernel), if_neg (by decide +kernel)]
  first | rfl | simp
/-- what a player holds is written anew: now -/
theorem EnvR.now {i : Nat} {r n w x : G.D} {l : List G.D} {a dx q : Addr} {vr vn vw y : V} {vs : List V} (pk : PlyK X.K X.mg C) {p : Bool} (e : EnvR (gr X H0 ps) ows σ H δ) (hi : δ[i]? = some (.ow p (.ply r n w l))) (P : PlyAt X.K ows σ H i C r n w l a dx vr vn vw q vs) (hx : Rep X.K (hid ows H) x y) :
    EnvR (gr X H0 ps) ows σ (upd H a (.ins C dx (plyFs vr vn y q))) (δ.set i (.ow p (.ply r n x l))) ∧ a ∈ ows := by
  have hq : q ≠ a := fun z => by have h1 := P.past; rw [z, P.ins] at h1; cases h1
  refine ⟨e.write hi P.at_ foot_self (by rw [foot_ply upd_same, foot_ply P.ins]) ⟨C, dx, vr, vn, y, q, vs, pk.pl, upd_same, P.rr, P.rn, hx, by rw [upd_ne hq]; exact P.past, P.rp⟩, ((e.own hi P.at_).1 a foot_self).1⟩
theorem ts_pset (pk : PlyK X.K X.mg C) {i : Nat} {a : E} (h : tS X T cl EX (.pset i a) D σ H) : sFld X.K (tVar i) (tE X T cl EX a) "now" D σ H := by
  obtain ⟨H0, ps, o0, ows, δ, e, d, so, h⟩ := h
  simp only [exs] at h
  refine ⟨H0, ps, ows, δ, e, wpS.bind h fun r δ1 y w1 H1 _ e1 g1 rx h1 => ?_⟩
  obtain ⟨x, hx, h2⟩ := h1.lift
  obtain ⟨δ2, h3, h4⟩ := h2.lift
  cases asD_some hx
  unfold psetR at h3
  split at h3
  · rename_i p r n w l hi
    cases h3
    obtain ⟨b, dx, vr, vn, vw, q, vs, P⟩ := ply_at (g := gr X H0 ps) pk e1 (i := i) (r := r) (n := n) (w := w) (ps := l) (by unfold plyA; rw [hi])
    obtain ⟨e2, hb⟩ := e1.now pk hi P rx
    refine ⟨.ref b, P.at_, b, C, dx, _, rfl, P.ins, pk.cls, pk.nf _ (fdN_mem .nw), (show 4 < 1000 by decide), ?_⟩
    rw [put_now]
    exact h4 σ w1 _ e2 (.of (hid_change hb))
  · cases h3
theorem ts_ppush (pk : PlyK X.K X.mg C) {i : Nat} (h : tS X T cl EX (.ppush i) D σ H) : tDrop (tBM X.K "list" rAppend (tFld X.K (tVar i) "past") (tCons (tFld X.K (tVar i) "now") tNil)) D σ H := by
  obtain ⟨H0, ps, o0, ows, δ, e, d, so, h⟩ := h
  simp only [exs] at h
  obtain ⟨δ2, h3, h4⟩ := h.lift
  unfold ppushR at h3
  split at h3
  · rename_i p r n w l hi
    split at h3 <;> cases h3
    rename_i hz
    have hp : plyA δ i = some (r, n, w, l) := by unfold plyA; rw [hi]
    obtain ⟨a, dx, vr, vn, vw, q, vs, P⟩ := ply_at (g := gr X H0 ps) pk e hp
    refine ⟨.ref a, P.at_, a, C, dx, _, _, rfl, P.ins, pk.cls, pk.nf _ past_mem, ply_past vr vn vw q, .inl ⟨rfl, vs, SqL.of P.past⟩, ?_⟩
    refine ⟨.ref a, P.at_, a, C, dx, _, _, rfl, P.ins, pk.cls, pk.nf _ (fdN_mem .nw), ply_fld .nw vr vn vw q, ?_⟩
    refine ⟨q, vs, vw, rfl, rfl, P.past, by rw [P.rp.length]; exact Nat.lt_of_lt_of_le hz big_line, ?_⟩
    have hq : q ≠ a := fun z => by have h1 := P.past; rw [z, P.ins] at h1; cases h1
    have qf : q ∈ foot H a := by rw [foot_ply P.ins]; exact List.mem_cons_of_mem _ List.mem_cons_self
    have ia : (upd H q (.lst (vs ++ [vw]))) a = some (.ins C dx (plyFs vr vn vw q)) := by rw [upd_ne (Ne.symm hq)]; exact P.ins
    refine h4 σ ows _ (e.write hi P.at_ qf (by rw [foot_ply ia, foot_ply P.ins]) ⟨C, dx, vr, vn, vw, q, vs ++ [vw], pk.pl, ia, P.rr, P.rn, P.rw_, upd_same, Reps.append P.rp (Reps.cons P.rw_ Reps.nil)⟩) (.of (hid_change ((e.own hi P.at_).1 q qf).1))
  · cases h3
theorem reps_last {K : PySem.W.Frag} {Hh : Hp} {ds : List G.D} {vs : List V} {x : G.D} (h : Reps K Hh ds vs) (hl : ds.getLast? = some x) : ∃ v, vs[vs.length - 1]? = some v ∧ Rep K Hh x v ∧ Reps K Hh ds.dropLast vs.dropLast := by
  have e : ds[ds.length - 1]? = some x := by rw [← List.getLast?_eq_getElem?]; exact hl
  obtain ⟨v, h1, h2⟩ := h.get e
  refine ⟨v, by rw [h.length]; exact h1, h2, ?_⟩
  rw [List.dropLast_eq_take, List.dropLast_eq_take, h.length]
  exact h.take _
theorem ts_ppop (pk : PlyK X.K X.mg C) {i : Nat} (h : tS X T cl EX (.ppop i) D σ H) : sFld X.K (tVar i) (tBM0 X.K "list" rPop (tFld X.K (tVar i) "past")) "now" D σ H := by
  obtain ⟨H0, ps, o0, ows, δ, e, d, so, h⟩ := h
  simp only [exs] at h
  obtain ⟨δ2, h3, h4⟩ := h.lift
  unfold ppopR at h3
  split at h3
  · rename_i p r n w l hi
    split at h3 <;> cases h3
    rename_i x hx
    have hp : plyA δ i = some (r, n, w, l) := by unfold plyA; rw [hi]
    obtain ⟨a, dx, vr, vn, vw, q, vs, P⟩ := ply_at (g := gr X H0 ps) pk e hp
    obtain ⟨y, y1, y2, y3⟩ := reps_last P.rp hx
    have hq : q ≠ a := fun z => by have h1 := P.past; rw [z, P.ins] at h1; cases h1
    have qf : q ∈ foot H a := by rw [foot_ply P.ins]; exact List.mem_cons_of_mem _ List.mem_cons_self
    have ia : (upd H q (.lst vs.dropLast)) a = some (.ins C dx (plyFs vr vn vw q)) := by rw [upd_ne (Ne.symm hq)]; exact P.ins
    have hqo := ((e.own hi P.at_).1 q qf).1
    have e1 := e.write (ob' := .ply r n w l.dropLast) hi P.at_ qf (by rw [foot_ply ia, foot_ply P.ins]) ⟨C, dx, vr, vn, vw, q, vs.dropLast, pk.pl, ia, P.rr, P.rn, P.rw_, upd_same, y3⟩
    have hi1 : (δ.set i (.ow p (.ply r n w l.dropLast)))[i]? = some (.ow p (.ply r n w l.dropLast)) := List.getElem?_set_self (List.getElem?_eq_some_iff.mp hi).1
    have eh : hid ows (upd H q (.lst vs.dropLast)) = hid ows H := hid_upd hqo
    refine ⟨.ref a, P.at_, a, C, dx, _, _, rfl, P.ins, pk.cls, pk.nf _ past_mem, ply_past vr vn vw q, .inl ⟨rfl, vs, SqL.of P.past⟩, q, vs, y, rfl, rfl, P.past, y1, ?_⟩
    refine ⟨.ref a, P.at_, a, C, dx, _, rfl, ia, pk.cls, pk.nf _ (fdN_mem .nw), (show 4 < 1000 by decide), ?_⟩
    rw [put_now]
    obtain ⟨e2, hb⟩ := e1.now pk (x := x) hi1 ⟨P.at_, ia, by rw [eh]; exact P.rr, by rw [eh]; exact P.rn, by rw [eh]; exact P.rw_, upd_same, by rw [eh]; exact y3⟩ (by rw [eh]; exact y2)
    rw [List.set_set] at e2
    exact h4 σ ows _ e2 ((GrwS.of (hid_change hqo)).trans (.of (hid_change hb)))
  · cases h3
/-! ### Player(..) -/
def tMakeP (X : Cx) (C : Addr) (f : Fn) (t : TA) : TE := fun σ H Q => t σ H fun vs H1 => ∀ x dx, H1 x = Option.none → H1 dx = Option.none → dx ≠ x → spInit X.K f (V.ref x :: vs) (upd (upd H1 dx (.own x)) x (.ins C dx [])) (fun v H2 => v = .non ∧ Q (.ref x) H2) E0
theorem NewO.keep {g : Gr} {p : Addr} {o : Ob} {H' : Hp} {ows' : List Addr} (n : NewO g ows σ H δ p o) (e : EnvR g ows σ H δ) (b : ∀ a u, H a = some u → H' a = some u) (gw : GrwS ows H ows' H') : NewO g ows' σ H' δ p o := by
  have eq : ∀ c, c ∈ ows → H' c = H c := fun c hc => by
    cases q : H c with
    | none => exact absurd q (e.dom c hc)
    | some u => exact b c u q
  have fp : foot H' p = foot H p := foot_eq (eq p (n.own p foot_self).1)
  refine ⟨fun c hc => ?_, fun i q u a h1 h2 c hc => ?_, n.ok.keep gw.same fun c hc => eq c (n.own c hc).1⟩
  · rw [fp] at hc
    exact ⟨gw.sub c (n.own c hc).1, (n.own c hc).2⟩
  · rw [fp] at hc
    rw [foot_eq (eq a ((e.own h1 h2).1 a foot_self).1)]
    exact n.apart i q u a h1 h2 c hc
/-- a new player -/
theorem makeP {r n : G.D} {vr vn : V} {Q : VK} {f : Fn} {a : Rt} {os : List Sl} (pk : PlyK X.K X.mg C) (e : EnvR (gr X H0 ps) ows σ H δ) (hr : Rep X.K (hid ows H) r vr) (hn : Rep X.K (hid ows H) n vn) (hf : f [.ro r, .ro n] = .ok a os)
    (k : ∀ (x : Addr) (w' : List Addr) (H' : Hp), (∀ c ∈ foot H' x, H c = none) → EnvR (gr X H0 ps) w' σ H' δ → GrwS ows H w' H' → (∀ b o, H b = some o → H' b = some o) → NewO (gr X H0 ps) w' σ H' δ x (newP r n) → Q (.ref x) H') :
    ∀ x dx, H x = Option.none → H dx = Option.none → dx ≠ x → spInit X.K f [V.ref x, vr, vn] (upd (upd H dx (.own x)) x (.ins C dx [])) (fun v H2 => v = .non ∧ Q (.ref x) H2) E0 := by
  intro x dx hx hdx hne
  have up : ∀ b o, H b = some o → (upd (upd H dx (.own x)) x (.ins C dx [])) b = some o := fun b o q => by rw [upd_ne (ne_of_none q hx), upd_ne (ne_of_none q hdx)]; exact q
  have e1 := e.keep up
  have nx := (e.fresh hx).2
  refine ⟨ows, x, dx, C, r, n, vr, vn, rfl, e1.dom, pk.pl, upd_same, nx, hr.mono (same_keep up), hn.mono (same_keep up), ⟨a, os, hf⟩, fun H' q vw hq hqn hk hl hi hv => ⟨rfl, ?_⟩⟩
  rw [upd_ne hq] at hqn
  have hqd : q ≠ dx := fun z => by rw [z, upd_same] at hqn; cases hqn
  rw [upd_ne hqd] at hqn
  have kp : ∀ b o, H b = some o → H' b = some o := fun b o h => hk b o (ne_of_none h hx) (up b o h)
  have nn : ∀ b ∈ [x, q], H b = none := fun b hb => by
    rcases List.mem_cons.mp hb with rfl | hb
    · exact hx
    · cases List.mem_singleton.mp hb; exact hqn
  have e2 : EnvR (gr X H0 ps) ([x, q] ++ ows) σ H' δ := e.hide nn kp fun b hb => by
    rcases List.mem_cons.mp hb with rfl | hb
    · rw [hi]; exact fun z => nomatch z
    · cases List.mem_singleton.mp hb; rw [hl]; exact fun z => nomatch z
  have sm : Same (hid ows H) (hid ([x, q] ++ ows) H') := same_hide nn kp
  refine k x _ H' (fun c hc => by rw [foot_ply hi] at hc; exact nn c hc) e2 ⟨fun b hb => List.mem_append_right _ hb, sm⟩ kp ⟨fun c hc => ?_, fun i b u d h1 h2 c hc hc' => ?_, C, dx, vr, vn, vw, q, [], pk.pl, hi, hr.mono sm, hn.mono sm, hv, hl, Reps.nil⟩
  · rw [foot_ply hi] at hc
    exact ⟨List.mem_append_left _ hc, (e.fresh (nn c hc)).1⟩
  · rw [foot_ply hi] at hc
    have hn := nn c hc
    obtain ⟨a1, a2⟩ := e.own h1 h2
    have hd := (a1 d foot_self).1
    have eq : H' d = H d := by
      cases z : H d with
      | none => exact absurd z (e.dom d hd)
      | some o => exact kp d o z
    rw [foot_eq eq] at hc'
    exact e.dom c (a1 c hc').1 hn
theorem makeR_ok {k : Nat} {ds : List G.D} {o : Ob} {δ' : Env} (h : makeR T k ds δ = .ok o δ') : ∃ f r n a os, T[k]? = some f ∧ ds = [r, n] ∧ f [.ro r, .ro n] = .ok a os ∧ o = newP r n ∧ δ' = δ := by
  unfold makeR at h
  split at h
  · rename_i f r n hf
    split at h
    · rename_i a os hr
      cases h
      exact ⟨f, r, n, a, os, hf, rfl, hr, rfl, rfl⟩
    · cases h
  · cases h
theorem reps_two {K : PySem.W.Frag} {Hh : Hp} {r n : G.D} {vs : List V} (h : Reps K Hh [r, n] vs) : ∃ vr vn, vs = [vr, vn] ∧ Rep K Hh r vr ∧ Rep K Hh n vn := by
  simp only [Reps] at h
  obtain ⟨vr, _, rfl, h1, vn, _, rfl, h2, rfl⟩ := h
  exact ⟨vr, vn, rfl, h1, h2⟩
theorem wpS.make {W : Sw} {k : Nat} {ds : List G.D} {g : Ob → Env → Out Env Fl} (h : wpS W ows H ((makeR T k ds δ).bind g) D) : ∃ f r n a os, T[k]? = some f ∧ ds = [r, n] ∧ f [.ro r, .ro n] = .ok a os ∧ wpS W ows H (g (newP r n) δ) D := by
  cases q : makeR T k ds δ with
  | ok o δ' =>
    obtain ⟨f, r, n, a, os, h1, h2, h3, rfl, rfl⟩ := makeR_ok q
    rw [q] at h
    exact ⟨f, r, n, a, os, h1, h2, h3, h⟩
  | ex c δ' =>
    exfalso
    unfold makeR at q
    split at q
    · split at q <;> cases q
    · cases q
  | no => rw [q] at h; exact h.elim
theorem ts_asgN (pk : PlyK X.K X.mg C) {i k : Nat} {es : E} {f : Fn} (hf : T[k]? = some f) (h : tS X T cl EX (.asgN i k es) D σ H) : tAsg (tMakeP X C f (tEs X T cl EX es)) (gName i) D σ H := by
  obtain ⟨H0, ps, o0, ows, δ, e, d, so, h⟩ := h
  simp only [exs] at h
  refine ⟨H0, ps, ows, δ, e, wpS.bind h fun rs δ1 vs w1 H1 _ e1 g1 rx h1 => ?_⟩
  obtain ⟨ds, h2, h3⟩ := h1.lift
  obtain ⟨f', r, n, a, os, k1, rfl, k3, h4⟩ := wpS.make h3
  rw [hf] at k1
  cases k1
  obtain ⟨vr, vn, rfl, v1, v2⟩ := reps_two (reps_of rx h2)
  refine makeP (Q := fun y H' => gName i y σ H' D.nx) pk e1 v1 v2 k3 fun x w' H' _ e2 g2 _ no => ?_
  split at h4
  · exact h4 _ w' H' (e2.put no) g2
  · exact h4.elim
/-- side by side: a player, the list [(None, ())] -/
theorem ts_asgN1 (pk : PlyK X.K X.mg C) {i j k : Nat} {es : E} {f : Fn} (hf : T[k]? = some f) (h : tS X T cl EX (.asgN1 i j k es) D σ H) : tPar i j (tCons (tMakeP X C f (tEs X T cl EX es)) (tCons (tLst (tCons (tTup (tCons (tC .non) (tCons (tTup tNil) tNil))) tNil)) tNil)) D σ H := by
  obtain ⟨H0, ps, o0, ows, δ, e, d, so, h⟩ := h
  simp only [exs] at h
  refine ⟨H0, ps, ows, δ, e, wpS.bind h fun rs δ1 vs w1 H1 _ e1 g1 rx h1 => ?_⟩
  obtain ⟨ds, h2, h3⟩ := h1.lift
  obtain ⟨f', r, n, a, os, k1, rfl, k3, h4⟩ := wpS.make h3
  rw [hf] at k1
  cases k1
  obtain ⟨vr, vn, rfl, v1, v2⟩ := reps_two (reps_of rx h2)
  refine makeP (Q := fun y H' => tCons (tLst (tCons (tTup (tCons (tC .non) (tCons (tTup tNil) tNil))) tNil)) tNil σ H' fun xs H2 => ∃ v w, y :: xs = [v, w] ∧ D.nx ((σ.set i (some v)).set j (some w)) H2) pk e1 v1 v2 k3 fun x w' H' _ e2 g2 _ no => ?_
  split at h4
  · rename_i hc
    obtain ⟨δ2, q2, h5⟩ := h4.lift
    cases free_set q2
    refine ⟨Nat.zero_le _, fun p1 n1 => ⟨(show 2 ≤ sizeLine by decide), fun p2 n2 => ⟨(show 1 ≤ sizeLine by decide), fun p3 n3 => ⟨.ref x, .ref p3, rfl, ?_⟩⟩⟩⟩
    have f1 := e2.new (o := .tup []) n1
    have f2 := f1.new (o := .tup [.non, .ref p1]) n2
    have f3 := f2.new (o := .lst [.ref p2]) n3
    have s1 := hid_new (ows := w') (o := .tup []) n1
    have s2 := hid_new (ows := w') (o := .tup [.non, .ref p1]) n2
    have s3 := hid_new (ows := w') (o := .lst [.ref p2]) n3
    have kp : ∀ b u, H' b = some u → upd (upd (upd H' p1 (.tup [])) p2 (.tup [.non, .ref p1])) p3 (.lst [.ref p2]) b = some u := fun b u q => by
      have q1 : upd H' p1 (.tup []) b = some u := by rw [upd_ne (ne_of_none q n1)]; exact q
      have q2 : upd (upd H' p1 (.tup [])) p2 (.tup [.non, .ref p1]) b = some u := by rw [upd_ne (ne_of_none q1 n2)]; exact q1
      rw [upd_ne (ne_of_none q2 n3)]; exact q2
    have no3 := no.keep e2 kp (.of ((s1.trans s2).trans s3))
    refine h5 _ w' _ ((f3.put (i := i) no3).setRo (i := j) ?_) (g2.trans (.of ((s1.trans s2).trans s3)))
    have d1 := (e2.fresh n1).2
    have d2 := (f1.fresh n2).2
    have d3 := (f2.fresh n3).2
    simp only [Rep, Reps]
    refine ⟨p3, _, rfl, hid_of upd_same d3, .ref p2, [], rfl, ⟨p2, _, rfl, .inl (.inl (s3 _ _ (hid_of upd_same d2))), .non, _, rfl, rfl, .ref p1, [], rfl, ⟨p1, [], rfl, .inl (.inl (s3 _ _ (s2 _ _ (hid_of upd_same d1)))), rfl⟩, rfl⟩, rfl⟩
  · exact h4.elim
/-- side by side: two players of the same -/
theorem ts_asgN2 (pk : PlyK X.K X.mg C) {i j k r n : Nat} {f : Fn} (hf : T[k]? = some f) (h : tS X T cl EX (.asgN2 i j k r n) D σ H) : tPar i j (tCons (tMakeP X C f (tCons (tVar r) (tCons (tVar n) tNil))) (tCons (tMakeP X C f (tCons (tVar r) (tCons (tVar n) tNil))) tNil)) D σ H := by
  obtain ⟨H0, ps, o0, ows, δ, e, d, so, h⟩ := h
  simp only [exs] at h
  split at h
  · rename_i dr dn hr hn
    obtain ⟨f', r', n', a, os, k1, k2, k3, h4⟩ := wpS.make h
    rw [hf] at k1
    cases k1
    cases k2
    obtain ⟨vr, a1, a2⟩ := e.slot r _ hr
    obtain ⟨vn, b1, b2⟩ := e.slot n _ hn
    refine ⟨vr, a1, vn, b1, ?_⟩
    refine makeP (Q := fun z H1 => tCons (tMakeP X C f (tCons (tVar r) (tCons (tVar n) tNil))) tNil σ H1 fun xs H2 => ∃ v w, z :: xs = [v, w] ∧ D.nx ((σ.set i (some v)).set j (some w)) H2) pk e a2 b2 k3 fun x w1 H1 _ e1 g1 _ no1 => ?_
    refine ⟨vr, a1, vn, b1, ?_⟩
    refine makeP (Q := fun z H2 => ∃ v w, [V.ref x, z] = [v, w] ∧ D.nx ((σ.set i (some v)).set j (some w)) H2) pk e1 (a2.mono g1.same) (b2.mono g1.same) k3 fun y w2 H2 hy e2 g2 kp2 no2 => ?_
    split at h4
    · rename_i hc
      have no1' := no1.keep e1 kp2 g2
      refine ⟨.ref x, .ref y, rfl, ?_⟩
      refine h4 _ w2 H2 ((e2.put (i := i) no1').put (i := j) ⟨no2.own, fun m b u c hm hv d hd hd' => ?_, no2.ok⟩) (g1.trans g2)
      by_cases z : m = i
      · subst z
        obtain ⟨hl, es⟩ := set_len hm
        rw [List.getElem?_set_self (by rw [e2.len]; exact hl)] at hv
        cases hv
        have eqx : ∀ c, c ∈ w1 → H2 c = H1 c := fun c hc => by
          cases q : H1 c with
          | none => exact absurd q (e1.dom c hc)
          | some u => exact kp2 c u q
        rw [foot_eq (eqx x (no1.own x foot_self).1)] at hd'
        exact e1.dom d (no1.own d hd').1 (hy d hd)
      · rw [List.getElem?_set_ne (Ne.symm z)] at hm hv
        exact no2.apart m b u c hm hv d hd hd'
    · exact h4.elim
  · exact h.elim
end
end G
/-! G.Snd9: statements: the checker, the theorem. -/
namespace G
open PySem L2
/-! ### what is stored how -/
def swapB (sc : Scope) (v : Expr) (y : Str) (py : Pos) : Bool := match v with
  | .ListComp _ _ scope pos => (sc.names.lookup y == some .local) && (py.line == pos.line) && !(scope.names.any fun (n, k) => n == y && (k == .local || k == .cell))
  | _ => false
def notSD : Expr → Bool
  | .SetComp .. => false
  | .DictComp .. => false
  | _ => true
def fnK (sc : Scope) : Bool := match sc.kind with
  | .function => true
  | _ => false
theorem fnK_eq {sc : Scope} (h : fnK sc = true) : sc.kind = .function := by
  unfold fnK at h
  split at h
  · assumption
  · cases h
theorem swap_eq {sc : Scope} {v : Expr} {y : Str} {py : Pos} {l : Nat} {env : PySem.Env} (hs : env.scope = sc) (hk : sc.kind = .function) (hv : notSD v = true) : swapsWith v (some (.Name y py)) l env = pure (swapB sc v y py) := by
  cases v <;> first | rfl | (simp only [notSD, Bool.false_eq_true] at hv) | skip
  unfold swapsWith swapB Env.kindOf Env.blockKind
  rw [hs, hk]
  simp only [Expr.pos]
  rfl
/-- two or three plain names stored side by side -/
def swpB (sc : Scope) (ts vs : List Expr) : Option (Option (List Str)) :=
  if (!(ts.length == 2 || ts.length == 3) || vs.length != ts.length) = true then some none
  else if (vs.any fun | .Starred .. => true | _ => false) = true then some none
  else
    let line := (ts.head?.map (·.pos.line)).getD 0
    let names := ts.filterMap fun
      | .Name id pos => if sc.names.lookup id == some .local && pos.line == line then some id else none
      | _ => none
    if (names.length != ts.length || names.eraseDups.length != names.length) = true then some none
    else if vs.all (foldedForSure 8) = true then some none
    else if vs.all (constantsAlone 8) = true then none
    else some (some names)
theorem swp_eq {sc : Scope} {ts vs : List Expr} {k k2 : Nat} {p p2 : Pos} {env : PySem.Env} {r : Option (List Str)} (hs : env.scope = sc) (hk : sc.kind = .function) (h : swpB sc ts vs = some r) : swappedStores [.Tuple ts k p] (.Tuple vs k2 p2) env = pure r := by
  unfold swappedStores
  unfold swpB at h
  have hb : (env.blockKind != .function) = false := by unfold Env.blockKind; rw [hs, hk]; rfl
  have hkk : env.kindOf = fun x => sc.names.lookup x := by funext x; unfold Env.kindOf; rw [hs]
  simp only [hb, Bool.or_false, hkk]
  split at h
  · rename_i q; simp only [q, if_true]; cases h; rfl
  rename_i q
  simp only [q, if_false]
  refine Eq.trans (if_neg (by decide)) ?_
  split at h
  · rename_i q; cases h; exact if_pos q
  rename_i q; refine Eq.trans (if_neg q) ?_
  simp only at h
  split at h
  · rename_i q; cases h; exact if_pos q
  rename_i q; refine Eq.trans (if_neg q) ?_
  split at h
  · rename_i q; cases h; exact if_pos q
  rename_i q; refine Eq.trans (if_neg q) ?_
  split at h
  · cases h
  rename_i q; refine Eq.trans (if_neg q) ?_
  cases h
  rfl
/-! ### the checker -/
/-- a new object -/
def isF (c : Ct) : E → Expr → Bool
  | .lst es, .List l _ => isEs c es l && decide (lenE es ≤ 1000)
  | .dnew, .Dict ks vs _ => ks.isEmpty && vs.isEmpty
  | .call k es, .Call (.Name f _) l ks _ => ks.isEmpty && decide (c.fns[k]? = some (f, l.length)) && glB c.sc f && okName f && isEs c es l && l.all headOk
  | _, _ => false
def plainR : E → Bool
  | .lst _ => false
  | .tup _ => false
  | .call _ _ => false
  | _ => true
def isRt (c : Ct) : E → Expr → Bool
  | .lst es, .List l _ => isEs c es l && decide (lenE es ≤ 1000)
  | .tup es, .Tuple l _ _ => isEs c es l && decide (lenE es ≤ 1000)
  | .call k es, .Call (.Name f _) l ks _ => ks.isEmpty && decide (c.fns[k]? = some (f, l.length)) && glB c.sc f && okName f && isEs c es l && l.all headOk
  | e, x => plainR e && isE c e x
def isCmp : E → Bool
  | .comp .. => true
  | .compc .. => true
  | _ => false
def isT1 (c : Ct) (i : Nat) (x : Str) : Bool := nameT c.N c.sc (fun _ => true) i x
def isTs (c : Ct) (is : List Nat) (l : List Expr) : Bool := namesT c.N c.sc (fun _ => true) is l
def posLine (p : Pos) (q : Pos) : Bool := p.endLine == q.line
/-- stored side by side -/
def sideB (c : Ct) (l vs : List Expr) (is : List Nat) : Bool := match swpB c.sc l vs with
  | some (some ys) => decide (ys = is.map fun i => c.N.getD i Str.empty) && decide (is.Nodup) && ys.all fun y => decide (c.sc.names.lookup y = some .local)
  | _ => false
/-- the class that a clause names -/
def clsB (c : Ct) (xs : List Str) (z z2 : Str) : Bool := decide (z2 = z) && glB c.sc z && okName z && xs.contains z
/-- a clause's own name -/
def asB (c : Ct) (n : Nat) (m m2 : Str) : Bool := decide (c.N[n]? = some m) && decide (c.sc.names.lookup m = some .local) && decide (m2 = m) && okName m && visB c.sc m
/-- the clauses of a try -/
def hkB (c : Ct) (xs : List Str) : List (Str × Hk) → List ExceptHandler → Bool
  | [], [] => true
  | (z, .set i t) :: r, .ExceptHandler (some (.Name z2 _)) none [.Assign [.Name y _] (.Constant (.str t2) _ _) _] _ :: hs => clsB c xs z z2 && isT1 c i y && decide (t2 = t) && hkB c xs r hs
  | (z, .setS i n t f) :: r, .ExceptHandler (some (.Name z2 _)) (some m) [.Assign [.Name y _] (.BinOp (.Constant (.str t2) _ _) op (.Call (.Name s _) [.Attribute (.Name m2 _) f2 _] ks _) _) _] _ :: hs =>
    clsB c xs z z2 && isT1 c i y && decide (t2 = t) && decide (op = .Add) && ks.isEmpty && decide (s = ("str" : Str)) && glB c.sc s && asB c n m m2 && decide (f2 = f) && decide (exnF z = some f) && hkB c xs r hs
  | (z, .retV j) :: r, .ExceptHandler (some (.Name z2 _)) none [.Return (some (.Name y _)) _] _ :: hs => clsB c xs z z2 && slotB c j y && hkB c xs r hs
  | (z, .retF n f) :: r, .ExceptHandler (some (.Name z2 _)) (some m) [.Return (some (.Attribute (.Name m2 _) f2 _)) _] _ :: hs => clsB c xs z z2 && asB c n m m2 && decide (f2 = f) && decide (exnF z = some f) && hkB c xs r hs
  | _, _ => false
/-- Player(..) -/
def mkB (c : Ct) (k : Nat) (es : E) (f : Str) (l : List Expr) : Bool := decide (f = ("Player" : Str)) && glB c.sc f && isEs c es l && l.all headOk && mtB c k "__init__" 3 && decide (l.length = 2)
mutual
def isS (c : Ct) (xs : List Str) : S → Stmt → Bool
  | .pset i e, .Assign [.Attribute (.Name x _) nm _] v _ => slotB c i x && decide (nm = ("now" : Str)) && isE c e v && notComp v && decide (c.mts ≠ [])
  | .ppush i, .Expr (.Call (.Attribute (.Attribute (.Name x _) nm _) m apos) [.Attribute (.Name y _) nm2 _] ks cpos) _ => ks.isEmpty && slotB c i x && slotB c i y && decide (nm = ("past" : Str)) && decide (m = ("append" : Str)) && decide (nm2 = ("now" : Str)) && posLine apos cpos && decide (c.mts ≠ [])
  | .ppop i, .Assign [.Attribute (.Name x _) nm _] (.Call (.Attribute (.Attribute (.Name y _) nm2 _) m apos) [] ks cpos) _ => ks.isEmpty && slotB c i x && slotB c i y && decide (nm = ("now" : Str)) && decide (nm2 = ("past" : Str)) && decide (m = ("pop" : Str)) && posLine apos cpos && decide (c.mts ≠ [])
  | .asgN i k es, .Assign [.Name x p] (.Call (.Name f q) l ks pos) _ => ks.isEmpty && isT1 c i x && !swapB c.sc (.Call (.Name f q) l ks pos) x p && mkB c k es f l
  | .asgN1 i j k es, .Assign [.Tuple l _ _] (.Tuple [.Call (.Name f q) as ks pos, .List [.Tuple [.Constant .none j1 p1, .Tuple [] k1 p2] k2 p3] lp] _ _) _ => ks.isEmpty && isTs c [i, j] l && mkB c k es f as && sideB c l [.Call (.Name f q) as ks pos, .List [.Tuple [.Constant .none j1 p1, .Tuple [] k1 p2] k2 p3] lp] [i, j]
  | .asgN2 i j k r n, .Assign [.Tuple l _ _] (.Tuple [.Call (.Name f q) [.Name r1 rp, .Name n1 np] ks pos, .Call (.Name f2 q2) [.Name r2 rp2, .Name n2 np2] ks2 pos2] _ _) _ => ks.isEmpty && ks2.isEmpty && isTs c [i, j] l && mkB c k (.cons (.var r) (.cons (.var n) .nil)) f [.Name r1 rp, .Name n1 np] && mkB c k (.cons (.var r) (.cons (.var n) .nil)) f2 [.Name r2 rp2, .Name n2 np2] &&
    sideB c l [.Call (.Name f q) [.Name r1 rp, .Name n1 np] ks pos, .Call (.Name f2 q2) [.Name r2 rp2, .Name n2 np2] ks2 pos2] [i, j] && slotB c r r1 && slotB c n n1 && slotB c r r2 && slotB c n n2
  | .tryM b hs, .Try body hds [] [] _ => isSs c xs b body && hkB c xs hs hds && !hds.isEmpty && c.exm
  | .skip, .Pass _ => true
  | .brk, .Break _ => true
  | .cnt, .Continue _ => true
  | .asg i e, .Assign [.Name x p] v _ => isT1 c i x && isE c e v && notSD v && (!swapB c.sc v x p || isCmp e)
  | .asgO i e, .Assign [.Name x p] v _ => isT1 c i x && isF c e v && notSD v && !swapB c.sc v x p
  | .asgT is e, .Assign [.Tuple l _ _] v _ => isTs c is l && isE c e v && notComp v && (match v with | .Tuple .. => false | _ => true)
  | .asgP is es, .Assign [.Tuple l _ _] (.Tuple vs _ _) _ => isTs c is l && isEs c es vs && decide (lenE es ≤ 1000) && (match swpB c.sc l vs with
      | some none => true
      | some (some ys) => decide (ys = is.map fun i => c.N.getD i Str.empty) && decide (is.Nodup) && (is.length == 2 || is.length == 3) && decide (vs.length = is.length) && ys.all fun y => decide (c.sc.names.lookup y = some .local)
      | none => false)
  | .asgH j i k, .Assign [.Tuple l _ _] (.Tuple [.List [] lp, .Name y yp] _ _) _ => isTs c [j, i] l && decide (c.N[k]? = some y) && visB c.sc y && okName y && sideB c l [.List [] lp, .Name y yp] [j, i]
  | .asgL [i] (.cons a .nil) j, .Assign [.Tuple l _ _] (.Tuple [x, .List [] lp] _ _) _ => isTs c [i, j] l && isE c a x && headOk x && sideB c l [x, .List [] lp] [i, j]
  | .asgL [i, m] (.cons a (.cons b .nil)) j, .Assign [.Tuple l _ _] (.Tuple [x, y, .List [] lp] _ _) _ => isTs c [i, m, j] l && isE c a x && headOk x && isE c b y && headOk y && sideB c l [x, y, .List [] lp] [i, m, j]
  | .setI i k e, .Assign [.Subscript (.Name x _) y _] v _ => decide (c.N[i]? = some x) && visB c.sc x && okName x && isE c k y && headOk y && isE c e v && notComp v
  | .app i e, .Expr (.Call (.Attribute (.Name x _) m apos) [y] ks cpos) _ => ks.isEmpty && decide (m = ("append" : Str)) && decide (c.N[i]? = some x) && visB c.sc x && okName x && isE c e y && headOk y && posLine apos cpos
  | .drop e, .Expr x _ => isE c e x && notComp x
  | .ret e, .Return (some x) _ => isRt c e x
  | .ite t a b, .If x p q _ => isE c t x && notIf x && isSs c xs a p && isSs c xs b q
  | .whl _ t b, .While x p [] _ => isE c t x && notIf x && isSs c xs b p
  | .for1 i it b, .For (.Name y _) x p [] _ => isT1 c i y && isI c false it x && headOk x && isSs c xs b p
  | .forT is it b, .For (.Tuple l _ _) x p [] _ => isTs c is l && isI c true it x && headOk x && isSs c xs b p
  | .rais y m, .Raise (some (.Call (.Name x _) [.Constant (.str n) _ _] ks _)) none _ => ks.isEmpty && decide (x = y) && decide (n = m) && glB c.sc x && okName x && xs.contains x && decide (exnF x = none)
  | .raisN y f e, .Raise (some (.Call (.Name x _) [v] ks _)) none _ => ks.isEmpty && decide (x = y) && decide (exnF x = some f) && isE c e v && headOk v && glB c.sc x && okName x && xs.contains x
  | .tryA i n k es x f, .Try [.Assign [.Name y p] (.Call (.Name g gp) (a :: l) ks cp) _] [.ExceptHandler (some (.Name z _)) (some m) [.Assign [.Name y2 p2] (.Attribute (.Name m2 mp) f2 ap) _] _] [] [] _ =>
    ks.isEmpty && decide (c.fns[k]? = some (g, (a :: l).length)) && glB c.sc g && okName g && isEs c es (a :: l) && headOk a && l.all headOk && isT1 c i y && isT1 c i y2 && !swapB c.sc (.Call (.Name g gp) (a :: l) ks cp) y p && !swapB c.sc (.Attribute (.Name m2 mp) f2 ap) y2 p2 &&
    decide (z = x) && glB c.sc x && okName x && xs.contains x && decide (exnF x = some f) && decide (f2 = f) && decide (c.N[n]? = some m) && decide (c.sc.names.lookup m = some .local) && decide (m2 = m) && okName m && visB c.sc m
  | _, _ => false
def isSs (c : Ct) (xs : List Str) : S → List Stmt → Bool
  | .skip, [] => true
  | .seq a b, st :: r => isS c xs a st && isSs c xs b r
  | s, [st] => isS c xs s st
  | _, _ => false
end
end G
/-! G.Snq: try with clauses, against the evaluator. -/
namespace G
open PySem L2
section
variable {X : Cx} {T : List Fn} {cl : Str → Option Addr} {EX : XS} {σ : St} {H : Hp} {D : Ends}
abbrev outW (EX : XS) : WX := fun cls d σ H => EX σ cls d H
/-- what a clause asks -/
def wxOf (K : PySem.W.Frag) (C : Addr) : Hk → Ends → WX
  | .set i t => fun D cls d σ H => ∀ a, H a = none → tAsg (tC (.str t)) (gName i) D σ H
  | .setS i n t f => fun D cls d σ H => ∀ a, H a = none → tAsg (tOp (rD K (binv .add)) (tC (.str t)) (tCB (rCD K (bltv .str)) (tCons (tXf a cls d C f (tVar n)) tNil))) (gName i) (goneD n D) (σ.set n (some (.ref a))) H
  | .retV j => fun D cls d σ H => ∀ a, H a = none → tRet (tVar j) D σ H
  | .retF n f => fun D cls d σ H => ∀ a, H a = none → tRet (tXf a cls d C f (tVar n)) (goneD n D) (σ.set n (some (.ref a))) H
def wlOf (K : PySem.W.Frag) (cl : Str → Option Addr) : List (Str × Hk) → List (Value × (Ends → WX))
  | [] => []
  | (x, hk) :: r => (match cl x with
    | some C => (.ref C, wxOf K C hk)
    | none => (.none, fun _ _ _ _ _ => False)) :: wlOf K cl r
theorem exh_cons {x : Str} {hk : Hk} {hs : List (Str × Hk)} {c : Exn} {δ : Env} (h : c.c ≠ x) : exh ((x, hk) :: hs) c δ = exh hs c δ := by
  unfold exh
  rw [List.lookup_cons, show (c.c == x) = false from beq_eq_false_iff_ne.2 h]
theorem exh_hit {x : Str} {hk : Hk} {hs : List (Str × Hk)} {c : Exn} {δ : Env} (h : c.c = x) : exh ((x, hk) :: hs) c δ = exh [(x, hk)] c δ := by
  unfold exh
  rw [List.lookup_cons, List.lookup_cons, show (c.c == x) = true from beq_iff_eq.2 h]
theorem wc_ok {H0 : Hp} {ps : Ps} {o0 : List Addr} (exm : ∀ x y C C', cl x = some C → cl y = some C' → PySem.W.exmOne X.K (.ref C) (.ref C') = some (decide (x = y))) :
    ∀ (hs : List (Str × Hk)), (∀ p ∈ hs, ∃ C, cl p.1 = some C) → ∀ {c : Exn} {δ : Env} {w : List Addr} {σ : St} {H : Hp} {cv : Value} {d : Option Addr}, EnvR (gr X H0 ps) w σ H δ → (∀ a ∈ o0, a ∈ w) → ExR cl c H cv d → wpS ⟨gr X H0 ps, cl, EX, o0⟩ w H (exh hs c δ) D → wC X.K (outW EX) D (wlOf X.K cl hs) cv d σ H
  | [], _, c, δ, w, σ, H, cv, d, e, so, xr, h => h σ w H cv d e .refl xr
  | (x, hk) :: hs, hc, c, δ, w, σ, H, cv, d, e, so, xr, h => by
    obtain ⟨C, hC⟩ := hc (x, hk) List.mem_cons_self
    have hC : cl x = some C := hC
    obtain ⟨A, hA, ecv, hp⟩ := id xr
    subst ecv
    show wC X.K (outW EX) D ((match cl x with | some C => (Value.ref C, wxOf X.K C hk) | none => (Value.none, fun _ _ _ _ _ => False)) :: wlOf X.K cl hs) (.ref A) d σ H
    rw [hC]
    refine ⟨_, exm c.c x A C hA hC, fun hb => ?_, fun hb => ?_⟩
    · have hb : c.c = x := of_decide_eq_true hb
      rw [exh_hit hb] at h
      have hAC : A = C := by rw [hb, hC] at hA; exact (Option.some.inj hA).symm
      subst hAC
      unfold exh at h
      rw [List.lookup_cons, show (c.c == x) = true from beq_iff_eq.2 hb] at h
      cases hk with
      | set i t =>
        intro a _
        obtain ⟨δ2, h3, h4⟩ := h.lift
        cases free_set h3
        exact h4 _ w H (e.setRo (by simp only [Rep])) .refl
      | setS i n t f =>
        intro a _
        simp only at h
        split at h
        · rename_i g v hpl
          split at h
          · rename_i hq
            obtain ⟨rfl, hln⟩ := hq
            obtain ⟨z, hz, h2⟩ := h.lift
            obtain ⟨δ3, h3, h4⟩ := h2.lift
            cases free_set h3
            obtain ⟨s, s1, s2⟩ := Option.bind_eq_some_iff.mp hz
            rw [hpl] at hp
            obtain ⟨p, rfl, k3⟩ := hp
            refine ⟨.ref a, List.getElem?_set_self (Nat.lt_of_lt_of_eq hln e.len.symm), rfl, rfl, p, _, .int v, rfl, k3, by simp [List.lookup], ?_⟩
            refine ⟨w, [.int v], s, e.dom, ⟨.int v, [], rfl, .inl (by simp only [Rep]), rfl⟩, s1, fun u H1 g1 ru => ?_⟩
            obtain ⟨e1, gw1⟩ := e.grow2 g1
            refine ⟨w, .str t, s, z, e1.dom, .inl (by simp only [Rep]), .inl ru, s2, fun u2 H2 g2 ru2 => ?_⟩
            obtain ⟨e2, gw2⟩ := e1.grow2 g2
            exact h4 _ w H2 (((e2.forget (i := n) (v := some (.ref a))).setRo ru2).forget) (gw1.trans gw2)
          · exact h.elim
        · exact h.elim
      | retV j =>
        intro a _
        simp only at h
        split at h
        · rename_i y hj
          obtain ⟨v, hv, rv⟩ := e.slot j _ hj
          exact ⟨v, hv, h σ w H e .refl v (Rep.mono (hid_sub (of_sub e so)) _ _ rv)⟩
        · exact h.elim
      | retF n f =>
        intro a _
        simp only at h
        split at h
        · rename_i g v hpl
          split at h
          · rename_i hq
            obtain ⟨rfl, hln⟩ := hq
            rw [hpl] at hp
            obtain ⟨p, rfl, k3⟩ := hp
            refine ⟨.ref a, List.getElem?_set_self (Nat.lt_of_lt_of_eq hln e.len.symm), rfl, rfl, p, _, .int v, rfl, k3, by simp [List.lookup], ?_⟩
            exact h (σ.set n none) w H (e.forget (i := n) (v := none)) .refl (.int v) (by unfold RtR; simp only [Rep])
          · exact h.elim
        · exact h.elim
    · have hb : c.c ≠ x := of_decide_eq_false hb
      rw [exh_cons hb] at h
      exact wc_ok exm hs (fun p hp => hc p (List.mem_cons_of_mem _ hp)) e so xr h
theorem ts_tryM {b : S} {hs : List (Str × Hk)} (exm : ∀ x y C C', cl x = some C → cl y = some C' → PySem.W.exmOne X.K (.ref C) (.ref C') = some (decide (x = y))) (hc : ∀ p ∈ hs, ∃ C, cl p.1 = some C) (h : tS X T cl EX (.tryM b hs) D σ H) :
    tS X T cl (WE (wC X.K (outW EX) D (wlOf X.K cl hs))) b D σ H := by
  obtain ⟨H0, ps, o0, ows, δ, e, d, so, h⟩ := h
  simp only [exs] at h
  refine ⟨H0, ps, o0, ows, δ, e, d, so, ?_⟩
  cases hb : exs T b δ with
  | ok f δ1 => rw [hb] at h; exact h
  | no => rw [hb] at h; exact h
  | ex c δ1 =>
    rw [hb] at h
    intro σ' w' H' cv dd e' gw xr
    exact wc_ok exm hs hc e' (fun a ha => gw.sub a (so a ha)) xr (wpS.from gw h)
end
end G
/-! G.Snd10: the theorem of statements. -/
namespace G
open PySem L2
/-- a context beside: in the body of a try -/
structure Sib (X Z : Cx) : Prop where
  prog : Z.prog = X.prog
  w : Z.w = X.w
  K : Z.K = X.K
  mg : Z.mg = X.mg
  base : Z.base = X.base
  A : Z.A = X.A
theorem Sib.refl {X : Cx} : Sib X X := ⟨rfl, rfl, rfl, rfl, rfl, rfl⟩
structure SdOk (cl : Str → Option Addr) (X : Cx) (c : Ct) (EX : XS) (xs : List Str) : Prop where
  kind : c.sc.kind = .function
  fn : X.fn = fun _ => true
  own : PassesOwn (model X.prog X.w) X.A X.env X.xe
  takes : Takes X (outW EX)
  stk : X.stack = X.env :: X.outer
  frm : X.env.frame = some X.env.locals
  cls : ∀ x ∈ xs, ∃ C, cl x = some C ∧ X.mg x = some (.ref C)
  exn : ∀ x ∈ xs, ∀ f, exnF x = some f → ∃ C, cl x = some C ∧ X.mg x = some (.ref C) ∧ PySem.W.exmOne X.K (.ref C) (.ref C) = some true ∧ XfC X.K C ∧ PySem.W.findIn X.K (.ref C) f = some none ∧
    ∀ Z, Sib X Z → (Gl Z x → (x == ("__debug__" : Str)) = false → ∀ v te p pos, PE Z v te → headOk v = true → PMk Z (.Call (.Name x p) [v] [] pos) (tMkN te C f))
  exs : ∀ x ∈ xs, exnF x = none → ∃ C, cl x = some C ∧ ∀ Z, Sib X Z → (Gl Z x → (x == ("__debug__" : Str)) = false → ∀ m j p p2 pos, PMk Z (.Call (.Name x p) [.Constant (.str m) j p2] [] pos) (fun _ H Q => Q (.ref C) none H))
  exm : c.exm = true → ∀ x y C C', cl x = some C → cl y = some C' → PySem.W.exmOne X.K (.ref C) (.ref C') = some (decide (x = y))
theorem SdOk.tr {cl : Str → Option Addr} {X : Cx} {c : Ct} {EX : XS} {xs : List Str} (Y : SdOk cl X c EX xs) {W : WX} {pn : List (Addr × Obj)} {xe : Value → Shared → Prop} (tk : Takes (X.tr pn xe) W) (po : PassesOwn (model X.prog X.w) X.A X.env xe) : SdOk cl (X.tr pn xe) c (WE W) xs :=
  ⟨Y.kind, Y.fn, po, tk, Y.stk, Y.frm, Y.cls, fun x hx f hf => by
    obtain ⟨C, h1, h2, h3, h4, h5, h6⟩ := Y.exn x hx f hf
    exact ⟨C, h1, h2, h3, h4, h5, fun Z z => h6 Z ⟨z.prog, z.w, z.K, z.mg, z.base, z.A⟩⟩, fun x hx hn => by
    obtain ⟨C, h1, h2⟩ := Y.exs x hx hn
    exact ⟨C, h1, fun Z z => h2 Z ⟨z.prog, z.w, z.K, z.mg, z.base, z.A⟩⟩, Y.exm⟩
theorem _root_.L2.PS.imp {X : Cx} {e : Stmt} {t t' : TS} (h : PS X e t) (k : ∀ D σ H, t' D σ H → t D σ H) : PS X e t' := ⟨fun pins s σ H D I q => h.run pins s σ H D I (k _ _ _ q)⟩
theorem _root_.L2.PSs.imp {X : Cx} {e : List Stmt} {t t' : TS} (h : PSs X e t) (k : ∀ D σ H, t' D σ H → t D σ H) : PSs X e t' := ⟨fun pins s σ H D I q => h.run pins s σ H D I (k _ _ _ q)⟩
section
variable {T : List Fn} {cl : Str → Option Addr} {X : Cx} {c : Ct} {EX : XS} {k : Nat} {xs : List Str}
theorem PSet.or {t t' : TSet} (h : PSet X t) (h' : PSet X t') : PSet X (fun o j v H Q => t o j v H Q ∨ t' o j v H Q) := fun pins s σ H o i v ov iv u Q I r1 r2 r3 q => by
  rcases q with q | q
  · exact h pins s σ H o i v ov iv u Q I r1 r2 r3 q
  · exact h' pins s σ H o i v ov iv u Q I r1 r2 r3 q
theorem ge (C : CtOk T cl X c EX k) {e : G.E} {x : Expr} (h : isE c e x = true) : PE X x (tE X T cl EX e) := ((g_all T cl e).1 X c EX k x C h).1
theorem gt (C : CtOk T cl X c EX k) {e : G.E} {x : Expr} (h : isE c e x = true) (n : notIf x = true) : PT X x (tT X T cl EX e) := ((g_all T cl e).1 X c EX k x C h).2.1 n
theorem ga (C : CtOk T cl X c EX k) {e : G.E} {x : List Expr} (h : isEs c e x = true) : PA X x (tEs X T cl EX e) ∧ x.all headOk = true := (g_all T cl e).2.1.1 X c EX k x C h
theorem call_split {k' : Nat} {l : List Expr} {f : Str} {ks : List Keyword} {es : G.E} (h : (ks.isEmpty && decide (c.fns[k']? = some (f, l.length)) && glB c.sc f && okName f && isEs c es l && l.all headOk) = true) :
    ks = [] ∧ c.fns[k']? = some (f, l.length) ∧ glB c.sc f = true ∧ okName f = true ∧ isEs c es l = true ∧ l.all headOk = true := by
  simp only [Bool.and_eq_true, decide_eq_true_eq] at h
  obtain ⟨⟨⟨⟨⟨h0, h1⟩, h2⟩, h3⟩, h4⟩, h5⟩ := h
  exact ⟨List.isEmpty_iff.mp h0, h1, h2, h3, h4, h5⟩
theorem gf (C : CtOk T cl X c EX k) {e : G.E} {x : Expr} (h : isF c e x = true) : PE X x (tF X T cl EX e) := by
  unfold isF at h
  split at h <;> first | contradiction | skip
  · rw [Bool.and_eq_true, decide_eq_true_eq] at h
    exact (pe_lst (ga C h.1).1).imp fun _ _ _ q => tf_lst h.2 q
  · rw [Bool.and_eq_true] at h
    cases List.isEmpty_iff.mp h.1
    cases List.isEmpty_iff.mp h.2
    exact pe_dnewN.imp fun _ _ _ q => tf_dnew q
  · obtain ⟨rfl, h1, h2, h3, h4, h5⟩ := call_split h
    exact (pe_callG (g_all T cl _).2.1 C h1 h2 h3 h4 h5).imp fun _ _ _ q => tf_call q
theorem ps_rt (C : CtOk T cl X c EX k) {e : G.E} {x : Expr} {pos : Pos} (h : isRt c e x = true) : PS X (.Return (some x) pos) (tS X T cl EX (.ret e)) := by
  unfold isRt at h
  split at h
  · rw [Bool.and_eq_true, decide_eq_true_eq] at h
    exact (ps_ret (pe_lst (ga C h.1).1)).imp fun _ _ _ q => tr_lst h.2 q
  · rw [Bool.and_eq_true, decide_eq_true_eq] at h
    exact (ps_ret (pe_tup (ga C h.1).1)).imp fun _ _ _ q => tr_tup h.2 q
  · obtain ⟨rfl, h1, h2, h3, h4, h5⟩ := call_split h
    exact (ps_ret (pe_callG (g_all T cl _).2.1 C h1 h2 h3 h4 h5)).imp fun _ _ _ q => tr_call q
  · rw [Bool.and_eq_true] at h
    refine (ps_ret (ge C h.2)).imp fun D σ H ⟨H0, ps, o0, ows, δ, e', d, so, q⟩ => tr_val ?_ e' d so q
    cases e <;> first | rfl | (cases h.1)
theorem CtOk.loc (C : CtOk T cl X c EX k) {i : Nat} {x : Str} (h : isT1 c i x = true) : X.N[i]? = some x ∧ Loc X.env.scope x := by
  unfold isT1 nameT at h
  simp only [Bool.and_eq_true, decide_eq_true_eq] at h
  exact ⟨by rw [C.N]; exact h.1.1, by rw [C.sc]; exact loc_of h.1.2⟩
theorem ps_name (C : CtOk T cl X c EX k) (Y : SdOk cl X c EX xs) {i : Nat} {x : Str} {v : Expr} {te : TE} {p pos : Pos} (hi : isT1 c i x = true) (hv : notSD v = true) (hw : swapB c.sc v x p = false) (he : PE X v te) : PS X (.Assign [.Name x p] v pos) (tAsg te (gName i)) := by
  obtain ⟨h1, h2⟩ := C.loc hi
  exact ps_set C.nd h1 h2 he (by rw [swap_eq C.sc Y.kind hv, hw]) (.inl (by rw [Y.fn]))
theorem swap_comp (C : CtOk T cl X c EX k) (Y : SdOk cl X c EX xs) {i : Nat} {x : Str} {v : Expr} {e : G.E} {p pos : Pos} (hi : isT1 c i x = true) (hw : swapB c.sc v x p = true) (he : isE c e v = true) (hc : isCmp e = true) : PS X (.Assign [.Name x p] v pos) (tAsg (tE X T cl EX e) (gName i)) := by
  obtain ⟨n1, n2⟩ := C.loc hi
  have hsw : swapsWith v (some (.Name x p)) pos.line X.env = pure true := by rw [swap_eq C.sc Y.kind, hw]; cases v <;> first | rfl | (simp only [swapB, Bool.false_eq_true] at hw)
  have hl : X.env.scope.names.lookup x = some .local := by
    rw [C.sc]
    cases v <;> simp only [swapB, Bool.false_eq_true] at hw
    simp only [Bool.and_eq_true, beq_iff_eq] at hw
    exact hw.1.1
  cases e <;> simp only [isCmp, Bool.false_eq_true] at hc
  case comp vs tg it elt =>
    unfold isE at he
    split at he <;> first | contradiction | skip
    all_goals (rename_i ee; first | cases ee | skip)
    simp only [Bool.and_eq_true, decide_eq_true_eq] at he
    obtain ⟨⟨⟨⟨⟨⟨rfl, h1⟩, h2⟩, h3⟩, h4⟩, h5⟩, h6⟩ := he
    have ok := blkOk_by h4
    rw [← C.N, ← C.sc] at ok
    have htg : ∀ i ∈ tg, i ∈ vs := fun i hi => by simpa using List.all_eq_true.mp h5 i hi
    have pl := ps_setLc (tt := tYes) (te := tE X T cl (fun _ => E0) elt) C.calm C.nd n1 hl hsw ((g_all T cl it).2.2.1 X c EX k _ _ _ C h1 (isT_tup h3)) ok (fun s H cn cells fp => C.pg_blk s H cn cells fp h3) (fun _ _ _ _ _ => pts_nil)
      (fun s H cn cells fp => ((g_all T cl elt).1 _ _ (fun _ => E0) k _ (C.blk s H _ cn cells fp) h6).1) (fun _ => folded_ok h2 _ _)
    rw [ownOf_snd] at pl
    exact pl.imp fun D σ H q => te_comp htg q
  case compc vs tg it cd elt =>
    unfold isE at he
    split at he <;> first | contradiction | skip
    all_goals (rename_i ee; first | cases ee | skip)
    simp only [Bool.and_eq_true, decide_eq_true_eq] at he
    obtain ⟨⟨⟨⟨⟨⟨⟨⟨rfl, h1⟩, h2⟩, h3⟩, h4⟩, h5⟩, h6⟩, h7⟩, h8⟩ := he
    have ok := blkOk_by h4
    rw [← C.N, ← C.sc] at ok
    have htg : ∀ i ∈ tg, i ∈ vs := fun i hi => by simpa using List.all_eq_true.mp h5 i hi
    have pl := ps_setLc (tt := tT X T cl (fun _ => E0) cd) (te := tE X T cl (fun _ => E0) elt) C.calm C.nd n1 hl hsw ((g_all T cl it).2.2.1 X c EX k _ _ _ C h1 (isT_tup h3)) ok (fun s H cn cells fp => C.pg_blk s H cn cells fp h3)
      (fun s H cn cells fp => pts_one (((g_all T cl cd).1 _ _ (fun _ => E0) k _ (C.blk s H _ cn cells fp) h7).2.1 h8))
      (fun s H cn cells fp => ((g_all T cl elt).1 _ _ (fun _ => E0) k _ (C.blk s H _ cn cells fp) h6).1) (fun _ => folded_ok h2 _ _)
    rw [ownOf_snd] at pl
    exact pl.imp fun D σ H q => te_compc htg q
theorem ps_tupT (C : CtOk T cl X c EX k) (Y : SdOk cl X c EX xs) {is : List Nat} {l : List Expr} {v : Expr} {te : TE} {kk : Nat} {p pos : Pos} (hi : isTs c is l = true) (he : PE X v te) (hs : swapsWithSole [.Tuple l kk p] v pos.line X.env = pure false) (hw : swappedStores [.Tuple l kk p] v X.env = pure none) :
    PS X (.Assign [.Tuple l kk p] v pos) (tAsg te (gTup X.K is.length (gNames is))) := by
  obtain ⟨p1, p2, p3⟩ := names_pg (c := c) C.N C.nd C.sc (fun x _ => by rw [Y.fn]) hi
  exact ps_asg he (pg_tup C.calm p1 p2 p3) hs hw rfl
theorem pg_slot (C : CtOk T cl X c EX k) {i : Nat} {x : Str} {y : Expr} {te : TE} {q pos : Pos} (h1 : X.N[i]? = some x) (h2 : visB c.sc x = true) (h3 : okName x = true) (h4 : headOk y = true) (he : PE X y te) :
    PG X (.Subscript (.Name x q) y pos) (gSub (tVar i) te fun o j v H Q => rSetL o j v H Q ∨ rPutN X.prog X.w X.K o j v H Q) :=
  pg_sub (pe_var h1 (by rw [C.sc]; exact vis_of h2) (okN h3).1 (okN h3).2.1) he (PSet.or set_list (set_dct (by have := C.units; omega))) (by
    intro v
    cases y <;> first | rfl | cases h4)
theorem pe_app (C : CtOk T cl X c EX k) {i : Nat} {x : Str} {y : Expr} {te : TE} {q apos cpos : Pos} (h1 : X.N[i]? = some x) (h2 : visB c.sc x = true) (h3 : okName x = true) (h4 : headOk y = true) (he : PE X y te) (hl : posLine apos cpos = true) :
    PE X (.Call (.Attribute (.Name x q) "append" apos) [y] [] cpos) (tBM X.K "list" rAppend (tVar i) (tCons te tNil)) :=
  pe_bm F.plainAttrs_list F.slot_list_append rfl mt_append (pe_var h1 (by rw [C.sc]; exact vis_of h2) (okN h3).1 (okN h3).2.1) (pa_cons he pa_nil (star_ok h4 _ _)) rfl (by rw [star_ok h4]; rfl) hl (star_ok h4 _ _) rfl
theorem names_at {fn : Str → Bool} {sc : Scope} {N : List Str} : ∀ {is : List Nat} {l : List Expr}, namesT N sc fn is l = true → ∃ ps : List Pos, ps.length = is.length ∧ l = (is.zip ps).map (fun q => .Name (N.getD q.1 Str.empty) q.2) ∧ ∀ i ∈ is, N[i]? = some (N.getD i Str.empty)
  | [], [], _ => ⟨[], rfl, rfl, fun _ h => by simp at h⟩
  | [], _ :: _, h => by simp only [namesT, Bool.false_eq_true] at h
  | _ :: _, [], h => by simp only [namesT, Bool.false_eq_true] at h
  | i :: is, x :: l, h => by
    unfold namesT at h
    split at h <;> first | contradiction | skip
    rename_i e1 e2
    cases e1
    cases e2
    rw [Bool.and_eq_true] at h
    obtain ⟨h1, h2⟩ := h
    unfold nameT at h1
    simp only [Bool.and_eq_true, decide_eq_true_eq] at h1
    obtain ⟨ps, p1, p2, p3⟩ := names_at h2
    have hn := h1.1.1
    rename_i y p
    have hg : N.getD i Str.empty = y := by rw [List.getD_eq_getElem?_getD, hn]; rfl
    refine ⟨p :: ps, by simp [p1], by rw [p2]; simp only [List.zip_cons_cons, List.map_cons, hg], fun j hj => ?_⟩
    rcases List.mem_cons.mp hj with rfl | hj
    · rw [hg]; exact hn
    · exact p3 j hj
theorem ps_side (C : CtOk T cl X c EX k) (Y : SdOk cl X c EX xs) {is : List Nat} {es : G.E} {l vs : List Expr} {kt k2 : Nat} {p p2 pos : Pos} (h1 : isTs c is l = true) (h2 : isEs c es vs = true)
    (hw : swappedStores [.Tuple l kt p] (.Tuple vs k2 p2) X.env = pure (some (is.map fun i => c.N.getD i Str.empty))) (nd : is.Nodup) (hl : is.length = 2 ∨ is.length = 3) (hv : vs.length = is.length) (hlo : ∀ i ∈ is, c.sc.names.lookup (c.N.getD i Str.empty) = some .local) :
    PS X (.Assign [.Tuple l kt p] (.Tuple vs k2 p2) pos) (tS X T cl EX (.asgP is es)) := by
  obtain ⟨ps, p1, p3, p4⟩ := names_at h1
  have pa := (ga C h2).1
  rw [← C.N] at p3 p4 hw hlo
  rw [← C.sc] at hlo
  match is, hl, ps, p1, vs, hv, nd with
  | [i, j], _, [q1, q2], _, [a, b], _, nd =>
    subst p3
    have hij : i ≠ j := by simp at nd; exact nd
    exact (ps_par C.calm C.nd (p4 i (by simp)) (p4 j (by simp)) hij (hlo i (by simp)) (hlo j (by simp)) pa hw rfl).imp fun _ _ _ q => ts_par2 q
  | [i, j, m], _, [q1, q2, q3], _, [a, b, d], _, nd =>
    subst p3
    simp at nd
    exact (ps_par3 C.calm C.nd (p4 i (by simp)) (p4 j (by simp)) (p4 m (by simp)) nd.1.1 nd.1.2 nd.2 (hlo i (by simp)) (hlo j (by simp)) (hlo m (by simp)) pa hw rfl).imp fun _ _ _ q => ts_par3 q
theorem side_split {c : Ct} {l vs : List Expr} {is : List Nat} (h : sideB c l vs is = true) : swpB c.sc l vs = some (some (is.map fun i => c.N.getD i Str.empty)) ∧ is.Nodup ∧ ∀ i ∈ is, c.sc.names.lookup (c.N.getD i Str.empty) = some .local := by
  unfold sideB at h
  split at h
  · rename_i ys hq
    simp only [Bool.and_eq_true, decide_eq_true_eq] at h
    obtain ⟨⟨rfl, h2⟩, h3⟩ := h
    exact ⟨hq, h2, fun i hi => by
      have := List.all_eq_true.mp h3 (c.N.getD i Str.empty) (List.mem_map_of_mem hi)
      simpa using this⟩
  · cases h
theorem ps_l1 (C : CtOk T cl X c EX k) (Y : SdOk cl X c EX xs) {i j : Nat} {a : G.E} {l : List Expr} {x : Expr} {lp p p2 pos : Pos} {kt k2 : Nat} (h1 : isTs c [i, j] l = true) (h2 : isE c a x = true) (h3 : headOk x = true) (h4 : sideB c l [x, .List [] lp] [i, j] = true) :
    PS X (.Assign [.Tuple l kt p] (.Tuple [x, .List [] lp] k2 p2) pos) (tS X T cl EX (.asgL [i] (.cons a .nil) j)) := by
  obtain ⟨hw, nd, hlo⟩ := side_split h4
  obtain ⟨ps, p1, p3, p4⟩ := names_at h1
  have hw := swp_eq (k := kt) (k2 := k2) (p := p) (p2 := p2) C.sc Y.kind hw
  rw [← C.N] at p3 p4 hw hlo
  rw [← C.sc] at hlo
  match ps, p1 with
  | [q1, q2], _ =>
    subst p3
    have hij : i ≠ j := by simp at nd; exact nd
    exact (ps_par C.calm C.nd (p4 i (by simp)) (p4 j (by simp)) hij (hlo i (by simp)) (hlo j (by simp)) (pa_cons (ge C h2) (pa_cons (pe_lst pa_nil) pa_nil) (star_ok h3 _ _)) hw rfl).imp fun _ _ _ q => ts_l1 q
theorem ps_h (C : CtOk T cl X c EX k) (Y : SdOk cl X c EX xs) {j i m : Nat} {l : List Expr} {y : Str} {yp lp p p2 pos : Pos} {kt k2 : Nat} (h1 : isTs c [j, i] l = true) (h2 : c.N[m]? = some y) (h3 : visB c.sc y = true) (h5 : okName y = true) (h4 : sideB c l [.List [] lp, .Name y yp] [j, i] = true) :
    PS X (.Assign [.Tuple l kt p] (.Tuple [.List [] lp, .Name y yp] k2 p2) pos) (tS X T cl EX (.asgH j i m)) := by
  obtain ⟨hw, nd, hlo⟩ := side_split h4
  obtain ⟨ps, p1, p3, p4⟩ := names_at h1
  have hw := swp_eq (k := kt) (k2 := k2) (p := p) (p2 := p2) C.sc Y.kind hw
  have pv : PE X (.Name y yp) (tVar m) := pe_var (by rw [C.N]; exact h2) (by rw [C.sc]; exact vis_of h3) (okN h5).1 (okN h5).2.1
  rw [← C.N] at p3 p4 hw hlo
  rw [← C.sc] at hlo
  match ps, p1 with
  | [q1, q2], _ =>
    subst p3
    have hij : j ≠ i := by simp at nd; exact nd
    exact (ps_par C.calm C.nd (p4 j (by simp)) (p4 i (by simp)) hij (hlo j (by simp)) (hlo i (by simp)) (pa_cons (pe_lst pa_nil) (pa_cons pv pa_nil) rfl) hw rfl).imp fun _ _ _ q => ts_h q
theorem ps_l2 (C : CtOk T cl X c EX k) (Y : SdOk cl X c EX xs) {i m j : Nat} {a b : G.E} {l : List Expr} {x y : Expr} {lp p p2 pos : Pos} {kt k2 : Nat} (h1 : isTs c [i, m, j] l = true) (h2 : isE c a x = true) (h3 : headOk x = true) (h5 : isE c b y = true) (h6 : headOk y = true) (h4 : sideB c l [x, y, .List [] lp] [i, m, j] = true) :
    PS X (.Assign [.Tuple l kt p] (.Tuple [x, y, .List [] lp] k2 p2) pos) (tS X T cl EX (.asgL [i, m] (.cons a (.cons b .nil)) j)) := by
  obtain ⟨hw, nd, hlo⟩ := side_split h4
  obtain ⟨ps, p1, p3, p4⟩ := names_at h1
  have hw := swp_eq (k := kt) (k2 := k2) (p := p) (p2 := p2) C.sc Y.kind hw
  rw [← C.N] at p3 p4 hw hlo
  rw [← C.sc] at hlo
  match ps, p1 with
  | [q1, q2, q3], _ =>
    subst p3
    simp at nd
    exact (ps_par3 C.calm C.nd (p4 i (by simp)) (p4 m (by simp)) (p4 j (by simp)) nd.1.1 nd.1.2 nd.2 (hlo i (by simp)) (hlo m (by simp)) (hlo j (by simp)) (pa_cons (ge C h2) (pa_cons (ge C h5) (pa_cons (pe_lst pa_nil) pa_nil) (star_ok h6 _ _)) (star_ok h3 _ _)) hw rfl).imp fun _ _ _ q => ts_l2 q
/-- one statement is a list of one -/
theorem CtOk.tr (C : CtOk T cl X c EX k) {W : WX} {pn : List (Addr × Obj)} {xe : Value → Shared → Prop} (tk : Takes (X.tr pn xe) W) : CtOk T cl (X.tr pn xe) c (WE W) k :=
  ⟨C.N, C.nd, C.sc, C.calm, C.room, fun σ => passAt tk σ, C.fns, C.blt, C.cons, fun w ws z => have W := C.lam w ws z
    ⟨W.nn, W.q, W.code, W.lvl, W.leaf, W.cls, W.fn⟩, C.ply, C.mts, C.err, C.lin, fun w n f z => have W := C.lim w n f z
    ⟨W.nn, W.q, W.code, W.lvl, W.cls, W.fn⟩⟩
theorem CtOk.tr0 (C : CtOk T cl X c EX k) (pn : List (Addr × Obj)) (xe : Value → Shared → Prop) : CtOk T cl (X.tr pn xe) c (fun _ => E0) k :=
  ⟨C.N, C.nd, C.sc, C.calm, C.room, passAt_of passL, C.fns, C.blt, C.cons, fun w ws z => have W := C.lam w ws z
    ⟨W.nn, W.q, W.code, W.lvl, W.leaf, W.cls, W.fn⟩, C.ply, C.mts, C.err, C.lin, fun w n f z => have W := C.lim w n f z
    ⟨W.nn, W.q, W.code, W.lvl, W.cls, W.fn⟩⟩
theorem ps_tryA (C : CtOk T cl X c EX k) (Y : SdOk cl X c EX xs) {i n kk : Nat} {es : G.E} {x f y y2 m g : Str} {a : Expr} {l : List Expr} {p gp cp p1 np p2 mp ap p3 p4 p5 : Pos} (h1 : c.fns[kk]? = some (g, (a :: l).length)) (h2 : glB c.sc g = true) (h3 : okName g = true) (h4 : isEs c es (a :: l) = true) (h5 : headOk a = true) (h6 : l.all headOk = true)
    (h7 : isT1 c i y = true) (h8 : isT1 c i y2 = true) (h9 : swapB c.sc (.Call (.Name g gp) (a :: l) [] cp) y p = false) (h10 : swapB c.sc (.Attribute (.Name m mp) f ap) y2 p2 = false) (h11 : glB c.sc x = true) (h12 : okName x = true) (h13 : x ∈ xs) (h14 : exnF x = some f) (h15 : c.N[n]? = some m) (h16 : c.sc.names.lookup m = some .local) (h17 : okName m = true) (h18 : visB c.sc m = true) :
    PS X (.Try [.Assign [.Name y p] (.Call (.Name g gp) (a :: l) [] cp) p1] [.ExceptHandler (some (.Name x np)) (some m) [.Assign [.Name y2 p2] (.Attribute (.Name m mp) f ap) p3] p4] [] [] p5) (tS X T cl EX (.tryA i n kk es x f)) := by
  obtain ⟨A, k1, k2, k3, k4, k5, _⟩ := Y.exn x h13 f h14
  obtain ⟨F0, hm, fa, fd, ps, F, g1, g2, g3⟩ := C.fns kk g _ h1
  have hN : X.N[n]? = some m := by rw [C.N]; exact h15
  obtain ⟨i1, i2⟩ := C.loc h7
  obtain ⟨j1, j2⟩ := C.loc h8
  refine (ps_try_as (X := X) (i := n) (tb := fun W => tAsg (tCallS (spD X.prog X.w X.K cl (a :: l).length F0) (WE W) (tEs X T cl (fun _ => E0) es)) (gName i)) (ts := tSuA n i A f) (Wout := outW EX) Y.stk Y.frm C.nd hN (by unfold Env.kindOf; rw [C.sc]; exact h16) ⟨C.gl h11, (okN h12).1, .inl k2⟩ Y.takes ?_ ?_).imp fun D σ H q => ts_tryA hm (isEs_len h4) k1 k3 q
  · intro W pn xe tk po
    have C2 := C.tr0 pn xe
    obtain ⟨pa, _⟩ := (g_all T cl es).2.1.1 (X.tr pn xe) c (fun _ => E0) k _ C2 h4
    have pe := pe_callS (X := X.tr pn xe) (x := g) (p := gp) (pos := cp) (E := WE W) F C2.room (C2.gl h2) g1 g2 g3 (fun σ => passAt tk σ) pa (okN h3).1 (star_ok h5 _ _) (stars_ok h6 _ _)
    exact (pss_cons (ps_set (X := X.tr pn xe) C.nd i1 i2 pe (by rw [swap_eq C.sc Y.kind rfl, h9]) (.inl (by rw [Y.fn]))) pss_nil).imp fun _ _ _ q => q
  · intro aa oe cls d pn hz hv
    have pv : PE (X.suite aa ((aa, oe) :: pn)) (.Name m mp) (tVar n) := pe_var hN (by show Vis X.env.scope m; rw [C.sc]; exact vis_of h18) (okN h17).1 (okN h17).2.1
    have pe := pe_xf (pos := ap) k4 k5 hz hv pv
    exact (pss_cons (ps_set (X := X.suite aa ((aa, oe) :: pn)) C.nd j1 j2 pe (by rw [swap_eq C.sc Y.kind rfl, h10]) (.inl (by rw [Y.fn]))) pss_nil).imp fun _ _ _ q => q
theorem one_of {s : S} {st : Stmt} (h : PS X st (tS X T cl EX s)) : PSs X [st] (tS X T cl EX s) := (pss_cons h pss_nil).imp fun _ _ _ q => q
/-! ### players -/
theorem mk_split {m : Nat} {es : G.E} {f : Str} {l : List Expr} (h : mkB c m es f l = true) : f = ("Player" : Str) ∧ glB c.sc f = true ∧ isEs c es l = true ∧ l.all headOk = true ∧ mtB c m "__init__" 3 = true ∧ l.length = 2 := by
  unfold mkB at h
  simp only [Bool.and_eq_true, decide_eq_true_eq] at h
  obtain ⟨⟨⟨⟨⟨h1, h2⟩, h3⟩, h4⟩, h5⟩, h6⟩ := h
  exact ⟨h1, h2, h3, h4, h5, h6⟩
/-- Player(..) -/
theorem pe_player (C : CtOk T cl X c EX k) {m : Nat} {es : G.E} {f : Str} {l : List Expr} {q pos : Pos} {t : TA} (h : mkB c m es f l = true) (pa : PA X l t) : ∃ g Cl, T[m]? = some g ∧ PlyK X.K X.mg Cl ∧ PE X (.Call (.Name f q) l [] pos) (tMakeP X Cl g t) := by
  obtain ⟨rfl, h2, h3, h4, h5, h6⟩ := mk_split h
  obtain ⟨g, Cl, a, j, e1, pk, M, hj, F⟩ := C.ini h5
  refine ⟨g, Cl, e1, pk, ?_⟩
  match l, h6, h4, pa with
  | [x, y], _, h4, pa =>
    rw [List.all_cons, Bool.and_eq_true] at h4
    exact StX.pe_makeR M F (C.room.mono (by omega)) (C.gl h2) pk.gl passL pa player_name.2 (star_ok h4.1 _ _) (stars_ok h4.2 _ _)
theorem ps_pset (C : CtOk T cl X c EX k) {i : Nat} {e : G.E} {x : Str} {v : Expr} {p p2 pos : Pos} (h1 : slotB c i x = true) (h2 : isE c e v = true) (h3 : notComp v = true) (h4 : c.mts ≠ []) : PS X (.Assign [.Attribute (.Name x p) "now" p2] v pos) (tS X T cl EX (.pset i e)) := by
  obtain ⟨Cl, pk⟩ := C.ply h4
  exact (ps_fld (C.slotE h1) (ge C h2) (swap_ok h3 _ _ _)).imp fun _ _ _ q => ts_pset pk q
theorem pe_fldE (C : CtOk T cl X c EX k) {i : Nat} {x nm : Str} {p p2 : Pos} (h1 : slotB c i x = true) : PE X (.Attribute (.Name x p) nm p2) (tFld X.K (tVar i) nm) := pe_fld (C.slotE h1) (base_ok rfl _ _ _)
theorem ps_ppush (C : CtOk T cl X c EX k) {i : Nat} {x y : Str} {p p2 p3 q q2 apos cpos : Pos} (h1 : slotB c i x = true) (h2 : slotB c i y = true) (h3 : posLine apos cpos = true) (h4 : c.mts ≠ []) :
    PS X (.Expr (.Call (.Attribute (.Attribute (.Name x p) "past" p2) "append" apos) [.Attribute (.Name y q) "now" q2] [] cpos) p3) (tS X T cl EX (.ppush i)) := by
  obtain ⟨Cl, pk⟩ := C.ply h4
  have pe : PE X (.Call (.Attribute (.Attribute (.Name x p) "past" p2) "append" apos) [.Attribute (.Name y q) "now" q2] [] cpos) (tBM X.K "list" rAppend (tFld X.K (tVar i) "past") (tCons (tFld X.K (tVar i) "now") tNil)) :=
    pe_bm F.plainAttrs_list F.slot_list_append rfl mt_append (pe_fldE C h1) (pa_cons (pe_fldE C h2) pa_nil rfl) rfl rfl h3 rfl rfl
  exact (ps_expr pe rfl).imp fun _ _ _ q => ts_ppush pk q
theorem ps_ppop (C : CtOk T cl X c EX k) {i : Nat} {x y : Str} {p p2 pos q q2 apos cpos : Pos} (h1 : slotB c i x = true) (h2 : slotB c i y = true) (h3 : posLine apos cpos = true) (h4 : c.mts ≠ []) :
    PS X (.Assign [.Attribute (.Name x p) "now" p2] (.Call (.Attribute (.Attribute (.Name y q) "past" q2) "pop" apos) [] [] cpos) pos) (tS X T cl EX (.ppop i)) := by
  obtain ⟨Cl, pk⟩ := C.ply h4
  have pe : PE X (.Call (.Attribute (.Attribute (.Name y q) "past" q2) "pop" apos) [] [] cpos) (tBM0 X.K "list" rPop (tFld X.K (tVar i) "past")) :=
    pe_bm0 F.plainAttrs_list F.slot_list_pop rfl mt_pop (pe_fldE C h2) rfl h3
  exact (ps_fld (C.slotE h1) pe rfl).imp fun _ _ _ q => ts_ppop pk q
theorem ps_asgN (C : CtOk T cl X c EX k) (Y : SdOk cl X c EX xs) {i m : Nat} {es : G.E} {x f : Str} {l : List Expr} {p q cp pos : Pos} (h1 : isT1 c i x = true) (h2 : swapB c.sc (.Call (.Name f q) l [] cp) x p = false) (h3 : mkB c m es f l = true) : PS X (.Assign [.Name x p] (.Call (.Name f q) l [] cp) pos) (tS X T cl EX (.asgN i m es)) := by
  obtain ⟨g, Cl, e1, pk, pe⟩ := pe_player (q := q) (pos := cp) C h3 (ga C (mk_split h3).2.2.1).1
  exact (ps_name C Y h1 rfl h2 pe).imp fun _ _ _ q => ts_asgN pk e1 q
theorem ps_side2 (C : CtOk T cl X c EX k) (Y : SdOk cl X c EX xs) {i j : Nat} {t : TA} {l : List Expr} {a b : Expr} {p p2 pos : Pos} {kt k2 : Nat} (h1 : isTs c [i, j] l = true) (pa : PA X [a, b] t) (h4 : sideB c l [a, b] [i, j] = true) : PS X (.Assign [.Tuple l kt p] (.Tuple [a, b] k2 p2) pos) (tPar i j t) := by
  obtain ⟨hw, nd, hlo⟩ := side_split h4
  obtain ⟨ps, p1, p3, p4⟩ := names_at h1
  have hw := swp_eq (k := kt) (k2 := k2) (p := p) (p2 := p2) C.sc Y.kind hw
  rw [← C.N] at p3 p4 hw hlo
  rw [← C.sc] at hlo
  match ps, p1 with
  | [q1, q2], _ =>
    subst p3
    have hij : i ≠ j := by simp at nd; exact nd
    exact ps_par C.calm C.nd (p4 i (by simp)) (p4 j (by simp)) hij (hlo i (by simp)) (hlo j (by simp)) pa hw rfl
theorem pe_pair : PE X (.List [.Tuple [.Constant .none j1 p1, .Tuple [] k1 p2] k2 p3] lp) (tLst (tCons (tTup (tCons (tC .non) (tCons (tTup tNil) tNil))) tNil)) :=
  pe_lst (pa_cons (pe_tup (pa_cons pe_non (pa_cons (pe_tup pa_nil) pa_nil rfl) rfl)) pa_nil rfl)
/-! ### try -/
theorem names_of (C : CtOk T cl X c EX k) (Y : SdOk cl X c EX xs) {z z2 : Str} (h : clsB c xs z z2 = true) : ∃ A, cl z = some A ∧ z2 = z ∧ Names X z (.ref A) := by
  unfold clsB at h
  simp only [Bool.and_eq_true, decide_eq_true_eq] at h
  obtain ⟨⟨⟨h1, h2⟩, h3⟩, h4⟩ := h
  obtain ⟨A, g1, g2⟩ := Y.cls z (by simpa using h4)
  exact ⟨A, g1, h1, C.gl h2, (okN h3).1, .inl g2⟩
theorem as_of (C : CtOk T cl X c EX k) {n : Nat} {m m2 : Str} (h : asB c n m m2 = true) : X.N[n]? = some m ∧ X.env.kindOf m = some .local ∧ m2 = m ∧ okName m = true ∧ visB c.sc m = true := by
  unfold asB at h
  simp only [Bool.and_eq_true, decide_eq_true_eq] at h
  obtain ⟨⟨⟨⟨h1, h2⟩, h3⟩, h4⟩, h5⟩ := h
  exact ⟨by rw [C.N]; exact h1, by unfold Env.kindOf; rw [C.sc]; exact h2, h3, h4, h5⟩
theorem hd_all (C : CtOk T cl X c EX k) (Y : SdOk cl X c EX xs) : ∀ (hs : List (Str × Hk)) (hds : List ExceptHandler), hkB c xs hs hds = true → HdC X hds (wlOf X.K cl hs) ∧ ∀ p ∈ hs, ∃ A, cl p.1 = some A
  | [], [], _ => ⟨.nil, fun _ h => by simp at h⟩
  | [], _ :: _, h => by simp [hkB] at h
  | _ :: _, [], h => by simp [hkB] at h
  | (z, hk) :: hs, hd :: hds, h => by
    have fin : ∀ {A : Addr} {r : List (Str × Hk)}, cl z = some A → r = hs → wlOf X.K cl ((z, hk) :: hs) = (.ref A, wxOf X.K A hk) :: wlOf X.K cl hs := fun {A r} e _ => by
      show (match cl z with | some C => (Value.ref C, wxOf X.K C hk) | none => (Value.none, fun _ _ _ _ _ => False)) :: wlOf X.K cl hs = _
      rw [e]
    have both : ∀ {A : Addr}, cl z = some A → (∀ p ∈ hs, ∃ A, cl p.1 = some A) → ∀ p ∈ (z, hk) :: hs, ∃ A, cl p.1 = some A := fun {A} e r p hp => by
      rcases List.mem_cons.mp hp with rfl | hp
      · exact ⟨A, e⟩
      · exact r p hp
    unfold hkB at h
    split at h <;> first | contradiction | skip
    · rename_i q1 q2
      cases q1
      cases q2
      simp only [Bool.and_eq_true, decide_eq_true_eq] at h
      obtain ⟨⟨⟨h1, h2⟩, rfl⟩, h4⟩ := h
      obtain ⟨A, eA, rfl, nm⟩ := names_of C Y h1
      obtain ⟨r1, r2⟩ := hd_all C Y hs _ h4
      obtain ⟨j1, j2⟩ := C.loc h2
      rw [fin eA rfl]
      refine ⟨.plain nm (fun a oe cls d pn hz hv => pss_one (ps_set (X := X.suite a ((a, oe) :: pn)) C.nd j1 j2 pe_str (by rfl) (.inl (by rw [Y.fn])))) r1, both eA r2⟩
    · rename_i q1 q2
      cases q1
      cases q2
      simp only [Bool.and_eq_true, decide_eq_true_eq] at h
      obtain ⟨⟨⟨⟨⟨⟨⟨⟨⟨⟨h1, h2⟩, rfl⟩, rfl⟩, h3⟩, rfl⟩, h5⟩, h6⟩, rfl⟩, h7⟩, h4⟩ := h
      cases List.isEmpty_iff.mp h3
      obtain ⟨A, eA, rfl, nm⟩ := names_of C Y h1
      obtain ⟨r1, r2⟩ := hd_all C Y hs _ h4
      obtain ⟨j1, j2⟩ := C.loc h2
      obtain ⟨n1, n2, rfl, n4, n5⟩ := as_of C h6
      obtain ⟨A', e1, e2, e3, e4, e5, _⟩ := Y.exn _ (by unfold clsB at h1; simp only [Bool.and_eq_true] at h1; simpa using h1.2) _ h7
      rw [eA] at e1
      cases e1
      rw [fin eA rfl]
      refine ⟨.named nm n1 n2 (fun a oe cls d pn hz hv => ?_) r1, both eA r2⟩
      have pv : ∀ mp, PE (X.suite a ((a, oe) :: pn)) (.Name _ mp) (tVar _) := fun mp => pe_var n1 (by show Vis X.env.scope _; rw [C.sc]; exact vis_of n5) (okN n4).1 (okN n4).2.1
      have ps : ∀ mp ap sp cp, PE (X.suite a ((a, oe) :: pn)) (.Call (.Name "str" sp) [.Attribute (.Name _ mp) _ ap] [] cp) _ := fun mp ap sp cp =>
        pe_callTy (X := X.suite a ((a, oe) :: pn)) cb_str (C.gl h5) (C.blt "str" (by decide +kernel)) (by decide +kernel) (pa_cons (pe_xf (pos := ap) e4 e5 hz hv (pv mp)) pa_nil rfl) (by decide +kernel) (by decide +kernel) rfl rfl
      exact pss_one (ps_set (X := X.suite a ((a, oe) :: pn)) C.nd j1 j2 (pe_op (opD .add) pe_str (ps _ _ _ _)) (by rfl) (.inl (by rw [Y.fn])))
    · rename_i q1 q2
      cases q1
      cases q2
      simp only [Bool.and_eq_true] at h
      obtain ⟨⟨h1, h2⟩, h4⟩ := h
      obtain ⟨A, eA, rfl, nm⟩ := names_of C Y h1
      obtain ⟨r1, r2⟩ := hd_all C Y hs _ h4
      obtain ⟨s1, s2, s3⟩ := slot_split h2
      rw [fin eA rfl]
      exact ⟨.plain nm (fun a oe cls d pn hz hv => pss_one (ps_ret (X := X.suite a ((a, oe) :: pn)) (pe_var (by show X.N[_]? = _; rw [C.N]; exact s1) (by show Vis X.env.scope _; rw [C.sc]; exact vis_of s2) (okN s3).1 (okN s3).2.1))) r1, both eA r2⟩
    · rename_i q1 q2
      cases q1
      cases q2
      simp only [Bool.and_eq_true, decide_eq_true_eq] at h
      obtain ⟨⟨⟨⟨h1, h6⟩, rfl⟩, h7⟩, h4⟩ := h
      obtain ⟨A, eA, rfl, nm⟩ := names_of C Y h1
      obtain ⟨r1, r2⟩ := hd_all C Y hs _ h4
      obtain ⟨n1, n2, rfl, n4, n5⟩ := as_of C h6
      obtain ⟨A', e1, e2, e3, e4, e5, _⟩ := Y.exn _ (by unfold clsB at h1; simp only [Bool.and_eq_true] at h1; simpa using h1.2) _ h7
      rw [eA] at e1
      cases e1
      rw [fin eA rfl]
      refine ⟨.named nm n1 n2 (fun a oe cls d pn hz hv => ?_) r1, both eA r2⟩
      have pv : ∀ mp, PE (X.suite a ((a, oe) :: pn)) (.Name _ mp) (tVar _) := fun mp => pe_var n1 (by show Vis X.env.scope _; rw [C.sc]; exact vis_of n5) (okN n4).1 (okN n4).2.1
      exact pss_one (ps_ret (X := X.suite a ((a, oe) :: pn)) (pe_xf e4 e5 hz hv (pv _)))
theorem ps_tryG (C : CtOk T cl X c EX k) (Y : SdOk cl X c EX xs) {b : S} {hs : List (Str × Hk)} {body : List Stmt} {hds : List ExceptHandler} {pos : Pos} (exm : ∀ x y C C', cl x = some C → cl y = some C' → PySem.W.exmOne X.K (.ref C) (.ref C') = some (decide (x = y))) (hc : ∀ p ∈ hs, ∃ A, cl p.1 = some A) (hh : HdC X hds (wlOf X.K cl hs)) (ne : hds.isEmpty = false)
    (hb : ∀ (W : WX) (pn : List (Addr × Obj)) (xe : Value → Shared → Prop), Takes (X.tr pn xe) W → PassesOwn (model X.prog X.w) X.A X.env xe → PSs (X.tr pn xe) body (tS (X.tr pn xe) T cl (WE W) b)) : PS X (.Try body hds [] [] pos) (tS X T cl EX (.tryM b hs)) := by
  cases hds with
  | nil => cases ne
  | cons h0 hds => exact (ps_tryC (tb := fun W => tS X T cl (WE W) b) (Wout := outW EX) C.nd Y.stk Y.frm Y.takes (fun W pn xe tk po => (hb W pn xe tk po).imp fun _ _ _ q => q) hh).imp fun D σ H q => ts_tryM exm hc q
def Both (T : List Fn) (cl : Str → Option Addr) (s : S) : Prop := ∀ X c (EX : XS) k xs, CtOk T cl X c EX k → SdOk cl X c EX xs → (∀ st, isS c xs s st = true → PS X st (tS X T cl EX s)) ∧ (∀ l, isSs c xs s l = true → PSs X l (tS X T cl EX s))
/-- not a list of statements -/
def lone : S → Bool
  | .skip => false
  | .seq _ _ => false
  | _ => true
theorem both_lone {s : S} (hl : lone s = true) (h : ∀ X c EX k xs, CtOk T cl X c EX k → SdOk cl X c EX xs → ∀ st, isS c xs s st = true → PS X st (tS X T cl EX s)) : Both T cl s := by
  intro X c EX k xs C Y
  refine ⟨h X c EX k xs C Y, fun l q => ?_⟩
  unfold isSs at q
  split at q
  · cases hl
  · cases hl
  · exact one_of (h X c EX k xs C Y _ q)
  · cases q
theorem both_all (T : List Fn) (cl : Str → Option Addr) (s : S) : Both T cl s := by
  induction s with
  | skip =>
    intro X c EX k xs C Y
    have one : ∀ st, isS c xs .skip st = true → PS X st (tS X T cl EX .skip) := fun st h => by
      cases st <;> simp only [isS, Bool.false_eq_true] at h
      exact ps_pass.imp fun _ _ _ q => ts_skip q
    refine ⟨one, fun l q => ?_⟩
    cases l with
    | nil => exact pss_nil.imp fun _ _ _ q => ts_skip q
    | cons st r =>
      cases r with
      | nil => exact one_of (one _ (by simpa only [isSs] using q))
      | cons st2 r => simp only [isSs, Bool.false_eq_true] at q
  | seq a b ha hb =>
    intro X c EX k xs C Y
    refine ⟨fun st h => ?_, fun l q => ?_⟩
    · cases st <;> simp only [isS, Bool.false_eq_true] at h
    · cases l with
      | nil => simp only [isSs, Bool.false_eq_true] at q
      | cons st r =>
        simp only [isSs, Bool.and_eq_true] at q
        exact (pss_cons ((ha X c EX k xs C Y).1 _ q.1) ((hb X c EX k xs C Y).2 _ q.2)).imp fun _ _ _ w => ts_seq w
  | brk =>
    exact both_lone rfl fun X c EX k xs C Y st h => by
      cases st <;> simp only [isS, Bool.false_eq_true] at h
      exact ps_break.imp fun _ _ _ q => ts_brk q
  | cnt =>
    exact both_lone rfl fun X c EX k xs C Y st h => by
      cases st <;> simp only [isS, Bool.false_eq_true] at h
      exact ps_continue.imp fun _ _ _ q => ts_cnt q
  | asg i e =>
    exact both_lone rfl fun X c EX k xs C Y st h => by
      unfold isS at h
      split at h <;> first | contradiction | skip
      all_goals (rename_i z; first | cases z | skip)
      simp only [Bool.and_eq_true, Bool.or_eq_true, Bool.not_eq_true'] at h
      obtain ⟨⟨⟨h1, h2⟩, h3⟩, h4⟩ := h
      rcases h4 with h4 | h4
      · exact (ps_name C Y h1 h3 h4 (ge C h2)).imp fun _ _ _ q => ts_asg q
      · rename_i x p v pos
        cases hw : swapB c.sc v x p with
        | false => exact (ps_name C Y h1 h3 hw (ge C h2)).imp fun _ _ _ q => ts_asg q
        | true => exact (swap_comp C Y h1 hw h2 h4).imp fun _ _ _ q => ts_asg q
  | asgO i e =>
    exact both_lone rfl fun X c EX k xs C Y st h => by
      unfold isS at h
      split at h <;> first | contradiction | skip
      all_goals (rename_i z; first | cases z | skip)
      simp only [Bool.and_eq_true, Bool.not_eq_true'] at h
      obtain ⟨⟨⟨h1, h2⟩, h3⟩, h4⟩ := h
      exact (ps_name C Y h1 h3 h4 (gf C h2)).imp fun _ _ _ q => ts_asgO q
  | asgT is e =>
    exact both_lone rfl fun X c EX k xs C Y st h => by
      unfold isS at h
      split at h <;> first | contradiction | skip
      all_goals (rename_i z; first | cases z | skip)
      simp only [Bool.and_eq_true] at h
      obtain ⟨⟨⟨h1, h2⟩, h3⟩, h4⟩ := h
      refine (ps_tupT C Y h1 (ge C h2) (sole_ok h3 _ _ _) ?_).imp fun _ _ _ q => ts_asgT q
      rename_i l _ _ v _
      cases v <;> first | rfl | cases h4
  | asgP is es =>
    exact both_lone rfl fun X c EX k xs C Y st h => by
      unfold isS at h
      split at h <;> first | contradiction | skip
      all_goals (rename_i z; first | cases z | skip)
      simp only [Bool.and_eq_true, decide_eq_true_eq] at h
      obtain ⟨⟨⟨h1, h2⟩, h3⟩, h4⟩ := h
      split at h4
      · rename_i hq
        exact (ps_tupT C Y h1 (pe_tup (ga C h2).1) rfl (swp_eq C.sc Y.kind hq)).imp fun _ _ _ q => ts_parT h3 q
      · rename_i hq
        simp only [Bool.and_eq_true, Bool.or_eq_true, decide_eq_true_eq, beq_iff_eq] at h4
        obtain ⟨⟨⟨⟨k1, k2⟩, k3⟩, k4⟩, k5⟩ := h4
        subst k1
        exact ps_side C Y h1 h2 (swp_eq C.sc Y.kind hq) k2 k3 k4 (fun i hi => by
          have := List.all_eq_true.mp k5 (c.N.getD i Str.empty) (List.mem_map_of_mem hi)
          simpa using this)
      · cases h4
  | asgL is es j =>
    exact both_lone rfl fun X c EX k xs C Y st h => by
      unfold isS at h
      split at h <;> first | contradiction | skip
      all_goals (rename_i z; first | cases z | skip)
      · simp only [Bool.and_eq_true] at h
        obtain ⟨⟨⟨h1, h2⟩, h3⟩, h4⟩ := h
        exact ps_l1 C Y h1 h2 h3 h4
      · simp only [Bool.and_eq_true] at h
        obtain ⟨⟨⟨⟨⟨h1, h2⟩, h3⟩, h5⟩, h6⟩, h4⟩ := h
        exact ps_l2 C Y h1 h2 h3 h5 h6 h4
  | asgH j i m =>
    exact both_lone rfl fun X c EX k xs C Y st h => by
      unfold isS at h
      split at h <;> first | contradiction | skip
      all_goals (rename_i z; first | cases z | skip)
      simp only [Bool.and_eq_true, decide_eq_true_eq] at h
      obtain ⟨⟨⟨⟨h1, h2⟩, h3⟩, h5⟩, h4⟩ := h
      exact ps_h C Y h1 h2 h3 h5 h4
  | setI i kk e =>
    exact both_lone rfl fun X c EX k xs C Y st h => by
      unfold isS at h
      split at h <;> first | contradiction | skip
      all_goals (rename_i z; first | cases z | skip)
      simp only [Bool.and_eq_true, decide_eq_true_eq] at h
      obtain ⟨⟨⟨⟨⟨⟨h1, h2⟩, h3⟩, h4⟩, h5⟩, h6⟩, h7⟩ := h
      refine (ps_asg (ge C h6) (pg_slot C (by rw [C.N]; exact h1) h2 h3 h5 (ge C h4)) (sole_ok h7 _ _ _) ?_ rfl).imp fun _ _ _ q => ts_setI q
      rfl
  | app i e =>
    exact both_lone rfl fun X c EX k xs C Y st h => by
      unfold isS at h
      split at h <;> first | contradiction | skip
      all_goals (rename_i z; first | cases z | skip)
      simp only [Bool.and_eq_true, decide_eq_true_eq] at h
      obtain ⟨⟨⟨⟨⟨⟨⟨h0, rfl⟩, h1⟩, h2⟩, h3⟩, h4⟩, h5⟩, h6⟩ := h
      cases List.isEmpty_iff.mp h0
      exact (ps_expr (pe_app C (by rw [C.N]; exact h1) h2 h3 h5 (ge C h4) h6) rfl).imp fun _ _ _ q => ts_app q
  | drop e =>
    exact both_lone rfl fun X c EX k xs C Y st h => by
      unfold isS at h
      split at h <;> first | contradiction | skip
      all_goals (rename_i z; first | cases z | skip)
      simp only [Bool.and_eq_true] at h
      exact (ps_expr (ge C h.1) (swap_ok h.2 _ _ _)).imp fun _ _ _ q => ts_drop q
  | ret e =>
    exact both_lone rfl fun X c EX k xs C Y st h => by
      unfold isS at h
      split at h <;> first | contradiction | skip
      all_goals (rename_i z; first | cases z | skip)
      exact ps_rt C h
  | ite t a b ha hb =>
    exact both_lone rfl fun X c EX k xs C Y st h => by
      unfold isS at h
      split at h <;> first | contradiction | skip
      all_goals (rename_i z; first | cases z | skip)
      simp only [Bool.and_eq_true] at h
      obtain ⟨⟨⟨h1, h2⟩, h3⟩, h4⟩ := h
      exact (ps_if (gt C h1 h2) ((ha X c EX k xs C Y).2 _ h3) ((hb X c EX k xs C Y).2 _ h4)).imp fun _ _ _ q => ts_ite q
  | whl n t b hb =>
    exact both_lone rfl fun X c EX k xs C Y st h => by
      unfold isS at h
      split at h <;> first | contradiction | skip
      all_goals (rename_i z; first | cases z | skip)
      simp only [Bool.and_eq_true] at h
      obtain ⟨⟨h1, h2⟩, h3⟩ := h
      exact (ps_while Y.own (gt C h1 h2) ((hb X c EX k xs C Y).2 _ h3)).imp fun _ _ _ q => ts_whl q
  | for1 i it b hb =>
    exact both_lone rfl fun X c EX k xs C Y st h => by
      unfold isS at h
      split at h <;> first | contradiction | skip
      all_goals (rename_i z; first | cases z | skip)
      simp only [Bool.and_eq_true] at h
      obtain ⟨⟨⟨h1, h2⟩, h3⟩, h4⟩ := h
      obtain ⟨n1, n2⟩ := C.loc h1
      exact (ps_for Y.own C.calm ((g_all T cl it).2.2.1 X c EX k _ _ _ C h2 (fun z => nomatch z)) (pg_name C.nd n1 n2 (.inl (by rw [Y.fn]))) ((hb X c EX k xs C Y).2 _ h4) (fun _ => folded_ok h3 _ _)).imp fun _ _ _ q => ts_for1 q
  | forT is it b hb =>
    exact both_lone rfl fun X c EX k xs C Y st h => by
      unfold isS at h
      split at h <;> first | contradiction | skip
      all_goals (rename_i z; first | cases z | skip)
      simp only [Bool.and_eq_true] at h
      obtain ⟨⟨⟨h1, h2⟩, h3⟩, h4⟩ := h
      obtain ⟨p1, p2, p3⟩ := names_pg (c := c) C.N C.nd C.sc (fun x _ => by rw [Y.fn]) h1
      exact (ps_for Y.own C.calm ((g_all T cl it).2.2.1 X c EX k _ _ _ C h2 (fun _ => rfl)) (pg_tup C.calm p1 p2 p3) ((hb X c EX k xs C Y).2 _ h4) (fun _ => folded_ok h3 _ _)).imp fun _ _ _ q => ts_forT q
  | rais y m =>
    exact both_lone rfl fun X c EX k xs C Y st h => by
      unfold isS at h
      split at h <;> first | contradiction | skip
      all_goals (rename_i z; first | cases z | skip)
      simp only [Bool.and_eq_true, decide_eq_true_eq] at h
      obtain ⟨⟨⟨⟨⟨⟨h0, rfl⟩, rfl⟩, h1⟩, h2⟩, h3⟩, h4⟩ := h
      cases List.isEmpty_iff.mp h0
      obtain ⟨K, k1, k2⟩ := Y.exs _ (by simpa using h3) h4
      exact (ps_raise C.calm Y.takes (k2 X .refl (C.gl h1) (okN h2).1 _ _ _ _ _)).imp fun _ _ _ q => ts_rais k1 q
  | raisN y f e =>
    exact both_lone rfl fun X c EX k xs C Y st h => by
      unfold isS at h
      split at h <;> first | contradiction | skip
      all_goals (rename_i z; first | cases z | skip)
      simp only [Bool.and_eq_true, decide_eq_true_eq] at h
      obtain ⟨⟨⟨⟨⟨⟨⟨h0, rfl⟩, h1⟩, h2⟩, h3⟩, h4⟩, h5⟩, h6⟩ := h
      cases List.isEmpty_iff.mp h0
      obtain ⟨A, k1, _, _, _, _, k2⟩ := Y.exn _ (by simpa using h6) _ h1
      exact (ps_raise C.calm Y.takes (k2 X .refl (C.gl h4) (okN h5).1 _ _ _ _ (ge C h2) h3)).imp fun _ _ _ q => ts_raisN k1 q
  | tryA i n kk es x f =>
    exact both_lone rfl fun X c EX k xs C Y st h => by
      unfold isS at h
      split at h <;> first | contradiction | skip
      all_goals (rename_i z; first | cases z | skip)
      simp only [Bool.and_eq_true, decide_eq_true_eq, Bool.not_eq_true'] at h
      obtain ⟨⟨⟨⟨⟨⟨⟨⟨⟨⟨⟨⟨⟨⟨⟨⟨⟨⟨⟨⟨⟨h0, h1⟩, h2⟩, h3⟩, h4⟩, h5⟩, h6⟩, h7⟩, h8⟩, h9⟩, h10⟩, rfl⟩, h11⟩, h12⟩, h13⟩, h14⟩, rfl⟩, h15⟩, h16⟩, rfl⟩, h17⟩, h18⟩ := h
      cases List.isEmpty_iff.mp h0
      exact ps_tryA C Y h1 h2 h3 h4 h5 h6 h7 h8 h9 h10 h11 h12 (by simpa using h13) h14 h15 h16 h17 h18
  | pset i e =>
    exact both_lone rfl fun X c EX k xs C Y st h => by
      unfold isS at h
      split at h <;> first | contradiction | skip
      all_goals (rename_i z; first | cases z | skip)
      simp only [Bool.and_eq_true, decide_eq_true_eq] at h
      obtain ⟨⟨⟨⟨h1, rfl⟩, h2⟩, h3⟩, h4⟩ := h
      exact ps_pset C h1 h2 h3 h4
  | ppush i =>
    exact both_lone rfl fun X c EX k xs C Y st h => by
      unfold isS at h
      split at h <;> first | contradiction | skip
      all_goals (rename_i z; first | cases z | skip)
      simp only [Bool.and_eq_true, decide_eq_true_eq] at h
      obtain ⟨⟨⟨⟨⟨⟨⟨h0, h1⟩, h2⟩, rfl⟩, rfl⟩, rfl⟩, h3⟩, h4⟩ := h
      cases List.isEmpty_iff.mp h0
      exact ps_ppush C h1 h2 h3 h4
  | ppop i =>
    exact both_lone rfl fun X c EX k xs C Y st h => by
      unfold isS at h
      split at h <;> first | contradiction | skip
      all_goals (rename_i z; first | cases z | skip)
      simp only [Bool.and_eq_true, decide_eq_true_eq] at h
      obtain ⟨⟨⟨⟨⟨⟨⟨h0, h1⟩, h2⟩, rfl⟩, rfl⟩, rfl⟩, h3⟩, h4⟩ := h
      cases List.isEmpty_iff.mp h0
      exact ps_ppop C h1 h2 h3 h4
  | asgN i m es =>
    exact both_lone rfl fun X c EX k xs C Y st h => by
      unfold isS at h
      split at h <;> first | contradiction | skip
      all_goals (rename_i z; first | cases z | skip)
      simp only [Bool.and_eq_true, Bool.not_eq_true'] at h
      obtain ⟨⟨⟨h0, h1⟩, h2⟩, h3⟩ := h
      cases List.isEmpty_iff.mp h0
      exact ps_asgN C Y h1 h2 h3
  | asgN1 i j m es =>
    exact both_lone rfl fun X c EX k xs C Y st h => by
      unfold isS at h
      split at h <;> first | contradiction | skip
      all_goals (rename_i z; first | cases z | skip)
      simp only [Bool.and_eq_true] at h
      obtain ⟨⟨⟨h0, h1⟩, h2⟩, h3⟩ := h
      cases List.isEmpty_iff.mp h0
      obtain ⟨g, Cl, e1, pk, pe⟩ := pe_player C h2 (ga C (mk_split h2).2.2.1).1
      exact (ps_side2 C Y h1 (pa_cons pe (pa_cons pe_pair pa_nil rfl) rfl) h3).imp fun _ _ _ q => ts_asgN1 pk e1 q
  | asgN2 i j m r n =>
    exact both_lone rfl fun X c EX k xs C Y st h => by
      unfold isS at h
      split at h <;> first | contradiction | skip
      all_goals (rename_i z; first | cases z | skip)
      simp only [Bool.and_eq_true] at h
      obtain ⟨⟨⟨⟨⟨⟨⟨⟨⟨h0, h0'⟩, h1⟩, h2⟩, h3⟩, h4⟩, h5⟩, h6⟩, h7⟩, h8⟩ := h
      cases List.isEmpty_iff.mp h0
      cases List.isEmpty_iff.mp h0'
      obtain ⟨g, Cl, e1, pk, pe⟩ := pe_player C h2 (pa_cons (C.slotE h5) (pa_cons (C.slotE h6) pa_nil rfl) rfl)
      obtain ⟨g', Cl', e1', pk', pe'⟩ := pe_player C h3 (pa_cons (C.slotE h7) (pa_cons (C.slotE h8) pa_nil rfl) rfl)
      rw [e1] at e1'
      cases e1'
      have ec : Cl' = Cl := by have := pk'.pl; rw [pk.pl] at this; exact (Option.some.inj this).symm
      subst ec
      exact (ps_side2 C Y h1 (pa_cons pe (pa_cons pe' pa_nil rfl) rfl) h4).imp fun _ _ _ q => ts_asgN2 pk e1 q
  | tryM b hs hb =>
    exact both_lone rfl fun X c EX k xs C Y st h => by
      unfold isS at h
      split at h <;> first | contradiction | skip
      all_goals (rename_i z; first | cases z | skip)
      simp only [Bool.and_eq_true, Bool.not_eq_true'] at h
      obtain ⟨⟨⟨h1, h2⟩, h3⟩, h4⟩ := h
      obtain ⟨r1, r2⟩ := hd_all C Y hs _ h2
      exact ps_tryG C Y (Y.exm h4) r2 r1 h3 fun W pn xe tk po => (hb (X.tr pn xe) c (WE W) k xs (C.tr tk) (Y.tr tk po)).2 _ h1
end
end G
/-! G.Exn: an error of the program whose __init__ keeps an int: class R(ValueError); class C(R): def __init__(self, f): R.__init__(self, text); self.f = f. -/
namespace G
open PySem L2
section
variable {X : Cx} {e : Expr} {es : List Expr} {ta : TA} {p1 p2 pos : Pos} {x : Str} {R : Addr}
/-- R.__init__(self, ..), R a class over ValueError without an __init__ -/
theorem pe_cinit (hg : Gl X x) (hm : X.mg x = some (.ref R)) (sg : PySem.W.specialIn X.K (.ref R) "__getattribute__" = some (some (.builtin "type.__getattribute__"))) (rd : PySem.W.readsIn X.K R (.type "type") = true) (vV : PySem.W.findCls X.K (.ref R) (.type "type") "__init__" = some (.val (.builtin "ValueError.__init__")))
    (hdb : (x == ("__debug__" : Str)) = false) (ha : PA X (e :: es) ta) (he : starEach (e :: es) X.env = (false, eval e X.env) :: starEach es X.env) (hpl : (backTo pos (starEach es X.env)).any (·.1) = false)
    (hfew : ((backTo pos (starEach (e :: es) X.env)).all (fun x => !x.1) && (backToKw pos (keywordEach [] X.env)).all (fun x => x.1.isSome)
      && decide ((e :: es).length + ([] : List Keyword).length + (if ([] : List Keyword).isEmpty then 0 else 1) < 30)) = true) (hline : (p2.endLine == pos.line) = true) :
    PE X (.Call (.Attribute (.Name x p1) "__init__" p2) (e :: es) [] pos) (tVeI X.K ta) := by
  refine ⟨fun pins s σ H Q I h => ?_⟩
  rw [arm_eval_Call]
  show wpAny _ _ ((eval (.Name x p1) X.env) >>= fun ov => _) _ _ _
  refine wpAny_bind (ld_glob I hg hm (wpAny_bind (wpAny_standAt ?_)) hdb)
  have hform : methodCallForm ((e :: es).length + ([] : List Keyword).length) (backTo pos (starEach (e :: es) X.env)) (backToKw pos (keywordEach [] X.env)) = true := hfew
  have hpos : methodCallPos true (.Name x p1) X.env p2 pos = pure pos := by unfold methodCallPos; simp [hline]
  unfold methodCall
  rw [hform]
  refine wpAny_bind (wpAny_holding (PySem.W.method_cls I.kIn sg (PySem.W.cls_value I.kIn rd vV (by decide +kernel) ?_)))
  refine wpAny_bind (wpAny_of_eq hpos ?_)
  show wpAny _ _ (callWith pos (Value.builtin "ValueError.__init__") [] (backTo pos (starEach (e :: es) X.env)) []) _ _ _
  refine PyProof.Rows.callWith_method1 (thn (ha.run pos pins _ σ H _ (I.tok _) h) fun us s1 ⟨vs, H1, I1, r1, a, C, ws, ev, hl, T, ea, q⟩ => ?_) he hpl
  subst ev
  cases r1 with
  | @cons _ u0 _ ur ra rw' =>
    obtain rfl : u0 = Value.ref a := ra
    have hlen : ur.length ≤ PySem.sizeLine := by
      rw [← Paired.length rw', PySem.sizeLine_eq]
      omega
    exact oinit_ok T I1 ea hlen fun s' J => ⟨.non, H1, J, rfl, q⟩
end
/-- the body of such an __init__ -/
def isInit (R f : Str) : List Stmt → Bool
  | [.Expr (.Call (.Attribute (.Name r _) n ap) [.Name s1 _, .Constant (.str _) _ _] ks cp) _, .Assign [.Attribute (.Name s2 _) f2 _] (.Name f3 _) _] =>
    decide (r = R) && decide (n = ("__init__" : Str)) && decide (s1 = ("self" : Str)) && ks.isEmpty && decide (s2 = ("self" : Str)) && decide (f2 = f) && decide (f3 = f) && (ap.endLine == cp.line)
  | _ => false
/-- what is told of such a class -/
structure ExnD (K : PySem.W.Frag) (mg : Str → Option Value) (C : Addr) (x f : Str) : Prop where
  gl : mg x = some (.ref C)
  oex : OexC K C
  noat : PySem.W.findIn K (.ref C) f = some none
  xm : PySem.W.exmOne K (.ref C) (.ref C) = some true
  xf : XfC K C
  init : ∃ (R : Addr) (r : Str) (fI : Addr) (fd : FuncData) (params : Arguments) (body : List Stmt) (scope : Scope) (nm qual : Str), FunD K nm qual params body scope [] [] fI fd ∧ FnScope [("self" : Str), f] [("self" : Str), f] scope ∧ isInit r f body = true ∧ Binds K fd [("self" : Str), f] [] ∧
    PySem.W.findIn K (.ref C) "__init__" = some (some (.ref fI)) ∧ PySem.W.typeIn K (.ref fI) = some (.type "function") ∧ mg r = some (.ref R) ∧
    PySem.W.specialIn K (.ref R) "__getattribute__" = some (some (.builtin "type.__getattribute__")) ∧ PySem.W.readsIn K R (.type "type") = true ∧ PySem.W.findCls K (.ref R) (.type "type") "__init__" = some (.val (.builtin "ValueError.__init__")) ∧
    okName r = true ∧ glB scope r = true ∧ visB scope ("self" : Str) = true ∧ visB scope f = true ∧ okName f = true
theorem init_ok {P : Program} {w : World} {K : PySem.W.Frag} {mg : Str → Option Value} {base : Heap} {C : Addr} {x f : Str} (E : ExnD K mg C x f) : ∃ fI fd, FnOk P w K mg base (L2.CX P w) 1 fI fd [("self" : Str), f] (spI C f) ∧ Binds K fd [("self" : Str), f] [] ∧ PySem.W.findIn K (.ref C) "__init__" = some (some (.ref fI)) ∧ PySem.W.typeIn K (.ref fI) = some (.type "function") := by
  obtain ⟨R, r, fI, fd, params, body, scope, nm, qual, F, S, hb, bn, i1, i2, i3, i4, i5, i6, n1, n2, n3, n4, n5⟩ := E.init
  refine ⟨fI, fd, FunD.ok (k := 0) F S (fun vs H Q E ⟨_, _, h, _⟩ => by rw [h]; rfl) fun cdv A outer s H vs Q Ex hr hs => ?_, bn, i1, i2⟩
  obtain ⟨a, y, rfl, ha, hq⟩ := hs
  unfold isInit at hb
  split at hb <;> first | contradiction | skip
  simp only [Bool.and_eq_true, decide_eq_true_eq] at hb
  obtain ⟨⟨⟨⟨⟨⟨⟨rfl, rfl⟩, rfl⟩, h4⟩, rfl⟩, rfl⟩, rfl⟩, hln⟩ := hb
  cases List.isEmpty_iff.mp h4
  rename_i r p1 p2 p3 z j p4 p5 p6 p7 p71 f3 p9 p10
  have gl : Gl (cxOf (L2.CX P w) P w K mg base [("self" : Str), f3] qual scope fI cdv A outer s H Ex) r := by
    unfold Gl Env.kindOf
    unfold glB at n2
    split at n2
    · assumption
    · cases n2
  have ps : PE (cxOf (L2.CX P w) P w K mg base [("self" : Str), f3] qual scope fI cdv A outer s H Ex) (.Name "self" p7) (tVar 0) := pe_var rfl (vis_of n3)
  have ps1 : PE (cxOf (L2.CX P w) P w K mg base [("self" : Str), f3] qual scope fI cdv A outer s H Ex) (.Name "self" p3) (tVar 0) := pe_var rfl (vis_of n3)
  have pf : PE (cxOf (L2.CX P w) P w K mg base [("self" : Str), f3] qual scope fI cdv A outer s H Ex) (.Name f3 p9) (tVar 1) := pe_var rfl (vis_of n4) (okN n5).1 (okN n5).2.1
  refine ⟨_, pss_cons (ps_expr (pe_cinit (pos := p5) gl i3 i4 i5 i6 (okN n1).1 (pa_cons ps1 (pa_cons pe_str pa_nil)) rfl rfl rfl hln) rfl) (pss_cons (ps_ost (f := f3) ps pf rfl) pss_nil), ?_⟩
  refine ⟨.ref a, rfl, a, C, [.str z], rfl, show 1 ≤ 1000 by decide, E.oex, ha, ?_⟩
  exact ⟨y, rfl, .ref a, rfl, a, C, rfl, E.oex, E.noat, .inl ⟨ha, fun dx n ne => hq dx n ne⟩⟩
/-- raise C(e) -/
theorem mk_exn {X : Cx} {C : Addr} {x f : Str} {v : Expr} {te : TE} {p pos : Pos} (E : ExnD X.K X.mg C x f) (hr : Room 2 X.A) (tk : Passes (L2.CX X.prog X.w) X E0) (hg : Gl X x) (hd : (x == ("__debug__" : Str)) = false) (hv : PE X v te) (ho : headOk v = true) : PMk X (.Call (.Name x p) [v] [] pos) (tMkN te C f) := by
  obtain ⟨fI, fd, F, bn, i1, i2⟩ := init_ok (P := X.prog) (w := X.w) (base := X.base) E
  exact pmk_oex (X := X) (p := p) (pos := pos) E.oex i1 i2 F hr bn .nil tk hg E.gl (pa_cons hv pa_nil (star_ok ho _ _)) hd (star_ok ho _ _) rfl
end G
/-! G.SndF: a def whose body checks keeps what the evaluator says. -/
namespace G
open PySem L2
theorem outs_get : ∀ {as : List Sl} {δ : Env} {os : List Sl} {j : Nat} {q : Bool} {o : Ob}, outs as δ = some os → os[j]? = some (Sl.ow q o) → δ[j]? = some (Sl.ow true o) ∧ j < as.length
  | [], _, _, j, _, _, h, e => by cases h; simp at e
  | .ow _ _ :: as, [], _, j, _, _, h, e => by cases h
  | .ow _ _ :: as, .no :: δ, _, j, _, _, h, e => by cases h
  | .ow _ _ :: as, .ro _ :: δ, _, j, _, _, h, e => by cases h
  | .ow _ _ :: as, .ow false _ :: δ, _, j, _, _, h, e => by cases h
  | .ow _ _ :: as, .ow true u :: δ, os, j, q, o, h, e => by
    simp only [outs, Option.map_eq_some_iff] at h
    obtain ⟨r, h1, rfl⟩ := h
    cases j with
    | zero =>
      have : Sl.ow true u = Sl.ow q o := by simpa using e
      cases this
      exact ⟨rfl, Nat.zero_lt_succ _⟩
    | succ j =>
      obtain ⟨g1, g2⟩ := outs_get h1 (by simpa using e)
      exact ⟨by simpa using g1, Nat.succ_lt_succ g2⟩
  | .no :: as, [], _, j, _, _, h, e => by cases h
  | .ro _ :: as, [], _, j, _, _, h, e => by cases h
  | .no :: as, s :: δ, os, j, q, o, h, e => by
    simp only [outs, Option.map_eq_some_iff] at h
    obtain ⟨r, h1, rfl⟩ := h
    cases j with
    | zero => simp at e
    | succ j =>
      obtain ⟨g1, g2⟩ := outs_get h1 (by simpa using e)
      exact ⟨by simpa using g1, Nat.succ_lt_succ g2⟩
  | .ro _ :: as, s :: δ, os, j, q, o, h, e => by
    simp only [outs, Option.map_eq_some_iff] at h
    obtain ⟨r, h1, rfl⟩ := h
    cases j with
    | zero => simp at e
    | succ j =>
      obtain ⟨g1, g2⟩ := outs_get h1 (by simpa using e)
      exact ⟨by simpa using g1, Nat.succ_lt_succ g2⟩
section
variable {X : Cx} {T : List Fn} {cl : Str → Option Addr} {E : XK} {H : Hp} {ows : List Addr} {as : List Sl} {vs : List V} {N : List Str}
theorem env_start (n : Nat) (hm : lamN ∉ X.N) (hN : N.length = n) (hl : as.length ≤ n) (hb : as.all argB = true) (d : G.Dom ows H) (A : ArgsR X.prog X.w X.K ows H as vs) :
    EnvR (gr X H (psOf H as vs, fun i => (L2.start N vs)[i]?)) ows (L2.start N vs) H (as ++ List.replicate (n - as.length) .no) := by
  have at_ : ∀ {i : Nat} {s : Sl}, (as ++ List.replicate (n - as.length) Sl.no)[i]? = some s → (i < as.length ∧ as[i]? = some s ∧ (L2.start N vs)[i]? = (vs[i]?).map some) ∨ s = .no := fun {i s} h => by
    by_cases hi : i < as.length
    · rw [List.getElem?_append_left hi] at h
      refine .inl ⟨hi, h, ?_⟩
      unfold L2.start
      rw [List.getElem?_append_left (by rw [List.length_map, A.len]; exact hi), List.getElem?_map]
    · rw [List.getElem?_append_right (by omega)] at h
      have := List.mem_of_getElem? h
      exact .inr (List.eq_of_mem_replicate this)
  have ref_ : ∀ {i : Nat} {s : Sl} {a : Addr}, (as ++ List.replicate (n - as.length) Sl.no)[i]? = some s → s ≠ .no → (L2.start N vs)[i]? = some (some (.ref a)) → as[i]? = some s ∧ vs[i]? = some (.ref a) := fun {i s a} h hs ha => by
    rcases at_ h with ⟨_, h1, h2⟩ | z
    · rw [h2] at ha
      refine ⟨h1, ?_⟩
      cases q : vs[i]? with
      | none => rw [q] at ha; cases ha
      | some v => rw [q] at ha; simpa using ha
    · exact absurd z hs
  have pin : ∀ c ∈ psOf H as vs, c ∈ ows ∧ NT (H c) := fun c hc => by
    obtain ⟨m, p, o, a, e1, e2, e3⟩ := ps_mem hc
    obtain ⟨b, g1, g2, g3⟩ := A.arg m _ _ e1 e2
    cases g1
    exact ⟨g2 c e3, g3.nt e3⟩
  refine ⟨?_, fun a o _ h => h, fun a ha => (pin a ha).1, d, fun i s h => ?_, fun i j p o q u x y hij h1 h2 h3 h4 => ?_, fun i o h => rfl, fun P hP t ht => ?_, fun z => absurd (of_decide_eq_true z) hm⟩
  rotate_right
  · have mm := (pin P hP).2
    rw [show H P = some (.tbl t) from ht] at mm
    exact mm.elim
  · unfold L2.start
    rw [List.length_append, List.length_append, List.length_map, List.length_replicate, List.length_replicate, A.len, hN]
  · rcases at_ h with ⟨hi, h1, h2⟩ | rfl
    · have hv : i < vs.length := by rw [A.len]; exact hi
      have hv' := List.getElem?_eq_getElem hv
      have ar := A.arg i s _ h1 hv'
      rw [h2, hv']
      cases s with
      | no => trivial
      | ro d => exact ⟨_, rfl, ar⟩
      | ow b o =>
        obtain ⟨a, g1, g2, g3⟩ := ar
        have hb' : b = true := List.all_eq_true.mp hb _ (List.mem_of_getElem? h1)
        subst hb'
        exact ⟨a, by rw [g1]; rfl, fun c hc => ⟨g2 c hc, .inl ⟨rfl, mem_ps h1 (by rw [hv', g1]) hc, hc⟩⟩, g3⟩
    · trivial
  · obtain ⟨k1, k2⟩ := ref_ h1 (fun z => nomatch z) h3
    obtain ⟨m1, m2⟩ := ref_ h2 (fun z => nomatch z) h4
    exact A.apart i j p q o u x y hij k1 m1 k2 m2
/-- an object that was handed in, behind the run -/
theorem out_at {ows' : List Addr} {H' : Hp} {σ' : St} {δ' : Env} {os : List Sl} (hl : vs.length = as.length) (e : EnvR (gr X H (psOf H as vs, fun i => (L2.start N vs)[i]?)) ows' σ' H' δ') (ho : outs as δ' = some os) {j : Nat} {q : Bool} {o : Ob} (hj : os[j]? = some (Sl.ow q o)) :
    ∃ a, vs[j]? = some (.ref a) ∧ σ'[j]? = some (some (.ref a)) ∧ δ'[j]? = some (.ow true o) := by
  obtain ⟨g1, g2⟩ := outs_get ho hj
  obtain ⟨a, k1, _⟩ := e.slot j _ g1
  have hp : σ'[j]? = (L2.start N vs)[j]? := e.par j o g1
  have hv : j < vs.length := by rw [hl]; exact g2
  have : (L2.start N vs)[j]? = some (some vs[j]) := by
    unfold L2.start
    rw [List.getElem?_append_left (by rw [List.length_map]; exact hv), List.getElem?_map, List.getElem?_eq_getElem hv]
    rfl
  rw [k1, this] at hp
  refine ⟨a, ?_, k1, g1⟩
  rw [List.getElem?_eq_getElem hv]
  have e2 : V.ref a = vs[j] := by simpa using hp
  rw [← e2]
theorem after_of {ows' of : List Addr} {H' : Hp} {σ' : St} {δ' : Env} {os : List Sl} (hl : vs.length = as.length) (e : EnvR (gr X H (psOf H as vs, fun i => (L2.start N vs)[i]?)) ows' σ' H' δ') (ho : outs as δ' = some os) (hs : ∀ a ∈ of, a ∈ ows') (hf : ∀ a ∈ ftO σ' H' δ' 0, a ∈ of) : After X.prog X.w X.K of as vs os H H' := by
  refine ⟨fun a o n h => e.base a o n h, fun j q o hj => ?_, fun a o ha _ => e.dom a (e.psub a ha), fun i j p q o u a b hij h1 h2 h3 h4 => ?_⟩
  · obtain ⟨a, k1, k2, k3⟩ := out_at hl e ho hj
    obtain ⟨k4, k5⟩ := e.own k3 k2
    refine ⟨a, k1, fun c hc => ⟨hf c (ftO_mem (j := j) k3 (by rw [Nat.zero_add]; exact k2) hc), ?_⟩, k5.mono (hid_sub hs)⟩
    rcases (k4 c hc).2 with ⟨_, _, z⟩ | z
    · exact .inl z
    · exact .inr z
  · obtain ⟨a', k1, k2, k3⟩ := out_at hl e ho h1
    obtain ⟨b', m1, m2, m3⟩ := out_at hl e ho h2
    rw [h3] at k1
    rw [h4] at m1
    cases k1
    cases m1
    exact e.inj i j true o true u a b hij k3 m3 k2 m2
/-- what the caller hides then -/
theorem up_of {ows' : List Addr} {H' : Hp} {σ' : St} {δ' : Env} (A : ArgsR X.prog X.w X.K ows H as vs) (e : EnvR (gr X H (psOf H as vs, fun i => (L2.start N vs)[i]?)) ows' σ' H' δ') : Up ows H (ftO σ' H' δ' 0 ++ ows) H' := by
  refine ⟨fun a ha => List.mem_append_right _ ha, fun a ha => ?_⟩
  rcases List.mem_append.mp ha with h | h
  · obtain ⟨j, o, b, h1, h2, h3⟩ := mem_ftO h
    rw [Nat.zero_add] at h2
    obtain ⟨k1, k2⟩ := e.own h1 h2
    obtain ⟨k3, k4⟩ := k1 a h3
    rcases k4 with ⟨_, z, _⟩ | z
    · obtain ⟨m, p, u, x, e1, e2, e3⟩ := ps_mem z
      obtain ⟨y, g1, g2, _⟩ := A.arg m _ _ e1 e2
      cases g1
      exact .inl (g2 a e3)
    · exact .inr ⟨z, e.dom a k3⟩
  · exact .inl h
/-- the reading of the body gives the promise -/
theorem body_ok {b : S} {n m : Nat} {Q : VK} {bk ct : St → Hp → Prop} (hm : lamN ∉ X.N) (hN : N.length = n) (h : spD X.prog X.w X.K cl m (run T n b) vs H Q E) : tS X T cl (fun _ => E) b { nx := fun _ H' => Q .non H', rt := Q, bk := bk, ct := ct } (L2.start N vs) H := by
  obtain ⟨ows, as, hl, d, A, h⟩ := h
  by_cases hc : as.all argB = true ∧ as.length ≤ n
  · have hr : run T n b as = (match exs T b (as ++ List.replicate (n - as.length) .no) with
      | .ok f δ => (match f, outs as δ with
        | .nx, some os => .ok (.d .non) os
        | .rt r, some os => .ok r os
        | _, _ => .no)
      | .ex c δ => (match outs as δ with
        | some os => .ex c os
        | none => .no)
      | .no => .no) := if_pos hc
    refine ⟨H, (psOf H as vs, fun i => (L2.start N vs)[i]?), ows, ows, _, env_start n hm hN hc.2 hc.1 d A, d, fun _ h => h, ?_⟩
    cases he : exs T b (as ++ List.replicate (n - as.length) .no) with
    | ok f δ' =>
      rw [he] at hr
      simp only at hr
      cases ho : outs as δ' with
      | none =>
        rw [ho] at hr
        have hr : run T n b as = .no := by rw [hr]; cases f <;> rfl
        rw [hr] at h
        exact h.elim
      | some os =>
        rw [ho] at hr
        intro σ' ows' H' er gw
        have up := up_of A er
        have sub := of_sub er gw.sub
        have af := after_of A.len er ho sub fun a ha => List.mem_append_left _ ha
        cases f with
        | nx =>
          have hr : run T n b as = .ok (.d .non) os := hr
          rw [hr] at h
          exact h .non _ H' up af (by simp only [Rep])
        | rt r =>
          have hr : run T n b as = .ok r os := hr
          rw [hr] at h
          intro v rv
          cases r with
          | d x => exact h v _ H' up af rv
          | fr o =>
            obtain ⟨p, rfl, p1, p2⟩ := rv
            refine h p (foot H' p ++ (ftO σ' H' δ' 0 ++ ows)) H' ⟨fun a ha => List.mem_append_right _ (up.sub a ha), fun a ha => ?_⟩ (after_of A.len er ho (fun a ha => ?_) fun a ha => List.mem_append_right _ (List.mem_append_left _ ha)) (fun c hc => ⟨List.mem_append_left _ hc, (p1 c hc).2.2, fun hz => ?_⟩) p2
            · rcases List.mem_append.mp ha with ha | ha
              · exact .inr ⟨(p1 a ha).2.2, er.dom a (p1 a ha).2.1⟩
              · exact up.new a ha
            · rcases List.mem_append.mp ha with ha | ha
              · exact (p1 a ha).2.1
              · exact sub a ha
            · obtain ⟨j, q, u, a, e1, e2, e3⟩ := ps_mem hz
              obtain ⟨a', k1, k2, k3⟩ := out_at A.len er ho e1
              rw [e2] at k1
              cases k1
              exact (p1 c hc).1 (List.mem_append_left _ (ftO_mem (j := j) k3 (by rw [Nat.zero_add]; exact k2) e3))
        | bk =>
          have hr : run T n b as = .no := hr
          rw [hr] at h
          exact h.elim
        | ct =>
          have hr : run T n b as = .no := hr
          rw [hr] at h
          exact h.elim
    | ex c δ' =>
      rw [he] at hr
      simp only at hr
      cases ho : outs as δ' with
      | none =>
        rw [ho] at hr
        rw [hr] at h
        exact h.elim
      | some os =>
        rw [ho] at hr
        have hr : run T n b as = .ex c os := hr
        rw [hr] at h
        exact fun σ' ows' H' cv d' er gw x => h _ H' cv d' (up_of A er) (after_of A.len er ho (of_sub er gw.sub) fun a ha => List.mem_append_left _ ha) x
    | no =>
      rw [he] at hr
      have hr : run T n b as = .no := hr
      rw [hr] at h
      exact h.elim
  · have hr : run T n b as = .no := if_neg hc
    rw [hr] at h
    exact h.elim
/-- what is told of a module for its defs -/
structure ModOk (P : Program) (K : PySem.W.Frag) (mg : Str → Option Value) (cl : Str → Option Addr) (cons : List (Str × D)) (xs : List Str) : Prop where
  blt : ∀ x ∈ bltNames, mg x = none
  cons : ∀ x d, cons.lookup x = some d → ∃ u v, mg x = some u ∧ RelV v u ∧ ConR K d v
  exn : ∀ x ∈ xs, ∀ f, exnF x = some f → ∃ C, cl x = some C ∧ ExnD K mg C x f
  own : ∀ x C, cl x = some C → x ∈ xs
  exs : ∀ x ∈ xs, exnF x = none → ∃ C B newId initId bmB, cl x = some C ∧ ExcBaseFacts B newId initId bmB ∧ PySem.W.excIn K C bmB newId = true ∧ mg x = some (.ref C) ∧ PySem.W.keepIn K (.ref C) = true ∧ PySem.W.subIn K (.ref C) (.type "BaseException") = some true ∧ PySem.W.typeIn K (.ref C) = some (.type "type")
end
end G
/-! G.LawEnd: defs by names; the end of a law. -/
namespace G
open PySem L2
/-- what is told of players for a def -/
structure PlOk (P : Program) (w : World) (K : PySem.W.Frag) (mg : Str → Option Value) (base : Heap) (cl : Str → Option Addr) (k n : Nat) (T : List Fn) (mts : List (Str × Nat)) (lin exm ers : Bool) : Prop where
  ply : mts ≠ [] → ∃ C, PlyK K mg C
  mts : ∀ (i : Nat) (x : Str) (m : Nat), mts[i]? = some (x, m) → ∃ f, T[n + i]? = some f ∧ ∃ j, j + 2 ≤ k ∧ MtAt P w K mg base cl j x m f
  lin : lin = true → ∃ C a j fd, PlyK K mg C ∧ Meth K C "lines" a ∧ j + 3 ≤ k ∧ GFn P w K mg base j a fd ["self"] (spLines K) ∧ Binds K fd ["self"] []
  err : ers = true → ErrK K mg ∧ 2 ≤ k
  exm : exm = true → ∀ x y C C', cl x = some C → cl y = some C' → PySem.W.exmOne K (.ref C) (.ref C') = some (decide (x = y))
theorem plNo {P : Program} {w : World} {K : PySem.W.Frag} {mg : Str → Option Value} {base : Heap} {cl : Str → Option Addr} {k n : Nat} {T : List Fn} : PlOk P w K mg base cl k n T [] false false false :=
  ⟨fun z => absurd rfl z, fun _ _ _ z => (nomatch z), fun z => (nomatch z), fun z => (nomatch z), fun z => (nomatch z)⟩
section
variable {P : Program} {w : World} {K : PySem.W.Frag} {mg : Str → Option Value} {base : Heap} {cl : Str → Option Addr} {x qual : Str} {params : Arguments} {body : List Stmt} {scope : Scope} {dvs : List V} {f : Addr} {fd : FuncData} {N ps : List Str} {k : Nat} {T : List Fn} {b : S} {fns : List (Str × Nat)} {cons : List (Str × D)} {xs : List Str} {mts : List (Str × Nat)} {lin exm ers : Bool}
theorem ctx_ok {cdv : Value} {A : Around} {outer : List PySem.Env} {s : Shared} {H : Hp} {E : XK} (M : ModOk P K mg cl cons xs) (S : FnScope N ps scope) (hfn : ∀ (i : Nat) (y : Str) (n : Nat), fns[i]? = some (y, n) → ∃ g, T[i]? = some g ∧ FnAt P w K mg base cl k y n g) (hP : PlOk P w K mg base cl k fns.length T mts lin exm ers)
    (hk : 2 ≤ k ∨ ∀ x ∈ xs, exnF x = none) (hr : Room k (A.deeper (PyProof.Rows.envOfC qual scope s.heap.objs.size f cdv))) :
    CtOk T cl (cxOf (L2.CX P w) P w K mg base N qual scope f cdv A outer s H E) ⟨N, scope, fns, cons, [], mts, lin, exm, ers, []⟩ (fun _ => E) k ∧ SdOk cl (cxOf (L2.CX P w) P w K mg base N qual scope f cdv A outer s H E) ⟨N, scope, fns, cons, [], mts, lin, exm, ers, []⟩ (fun _ => E) xs := by
  refine ⟨⟨rfl, S.nd, rfl, rfl, hr, passAt_of (passes_call (takes_of rfl rfl rfl rfl) (fun _ _ _ _ h => h)), hfn, M.blt, M.cons, fun _ _ z => (nomatch z), hP.ply, hP.mts, hP.err, hP.lin, fun _ _ _ z => (nomatch z)⟩, S.kind, rfl, passes_of rfl, takes_of rfl rfl rfl rfl, rfl, rfl, fun y hy => ?_, fun y hy f hf => ?_, fun y hy hn => ?_, hP.exm⟩
  · cases hf : exnF y with
    | some f =>
      obtain ⟨C, h1, E1⟩ := M.exn y hy f hf
      exact ⟨C, h1, E1.gl⟩
    | none =>
      obtain ⟨C, B, newId, initId, bmB, h1, h2, h3, h4, h5, h6, h7⟩ := M.exs y hy hf
      exact ⟨C, h1, h4⟩
  · obtain ⟨C, h1, E1⟩ := M.exn y hy f hf
    exact ⟨C, h1, E1.gl, E1.xm, E1.xf, E1.noat, fun Z z hg hd v te p pos hv ho => mk_exn (X := Z) (by rw [z.K, z.mg]; exact E1) (by rw [z.A]; exact hr.mono (hk.resolve_right fun z => by rw [z y hy] at hf; cases hf)) passL hg hd hv ho⟩
  · obtain ⟨C, B, newId, initId, bmB, h1, h2, h3, h4, h5, h6, h7⟩ := M.exs y hy hn
    exact ⟨C, h1, fun Z z hg hd m j p p2 pos => by
      have zK := z.K
      have zm := z.mg
      have e3 : PySem.W.excIn Z.K C bmB newId = true := by rw [zK]; exact h3
      have e4 : Z.mg y = some (.ref C) := by rw [zm]; exact h4
      have e5 : PySem.W.keepIn Z.K (.ref C) = true := by rw [zK]; exact h5
      have e6 : PySem.W.subIn Z.K (.ref C) (.type "BaseException") = some true := by rw [zK]; exact h6
      have e7 : PySem.W.typeIn Z.K (.ref C) = some (.type "type") := by rw [zK]; exact h7
      exact pmk_own h2 e3 e4 e5 (raises_own e6 e7) hg hd⟩
theorem fn_okD (M : ModOk P K mg cl cons xs) (F : FunD K x qual params body scope dvs [] f fd) (S : FnScope N ps scope) (hfn : ∀ (i : Nat) (y : Str) (n : Nat), fns[i]? = some (y, n) → ∃ g, T[i]? = some g ∧ FnAt P w K mg base cl k y n g) (hP : PlOk P w K mg base cl k fns.length T mts lin exm ers)
    (hb : isSs ⟨N, scope, fns, cons, [], mts, lin, exm, ers, []⟩ xs b body = true) (hm : lamN ∉ N) (hk : 2 ≤ k ∨ ∀ x ∈ xs, exnF x = none := by decide +kernel) : FnOk P w K mg base (L2.CX P w) (k + 1) f fd ps (spD P w K cl ps.length (run T N.length b)) := by
  refine FunD.ok F S (fun vs H Q E ⟨_, _, h, _⟩ => h) fun cdv A outer s H vs Q E hr hs => ?_
  obtain ⟨C, Y⟩ := ctx_ok (H := H) (E := E) (outer := outer) M S hfn hP hk hr
  exact ⟨_, (both_all T cl b _ _ (fun _ => E) k xs C Y).2 _ hb, body_ok hm rfl hs⟩
theorem fn_atD (M : ModOk P K mg cl cons xs) (F : FunD K x qual params body scope [] [] f fd) (S : FnScope N ps scope) (hfn : ∀ (i : Nat) (y : Str) (n : Nat), fns[i]? = some (y, n) → ∃ g, T[i]? = some g ∧ FnAt P w K mg base cl k y n g) (hP : PlOk P w K mg base cl k fns.length T mts lin exm ers)
    (hb : isSs ⟨N, scope, fns, cons, [], mts, lin, exm, ers, []⟩ xs b body = true) (hm : lamN ∉ N) (gx : mg x = some (.ref f)) (bn : Binds K fd ps []) (hk : 2 ≤ k ∨ ∀ x ∈ xs, exnF x = none := by decide +kernel) : FnAt P w K mg base cl (k + 1) x ps.length (run T N.length b) :=
  ⟨f, fd, ps, fn_okD M F S hfn hP hb hm hk, gx, F.kp, bn⟩
/-- a method -/
theorem mt_atD {C : Addr} (pk : PlyK K mg C) (M : ModOk P K mg cl cons xs) (F : FunD K x qual params body scope dvs [] f fd) (S : FnScope N ps scope) (hfn : ∀ (i : Nat) (y : Str) (n : Nat), fns[i]? = some (y, n) → ∃ g, T[i]? = some g ∧ FnAt P w K mg base cl k y n g) (hP : PlOk P w K mg base cl k fns.length T mts lin exm ers)
    (hb : isSs ⟨N, scope, fns, cons, [], mts, lin, exm, ers, []⟩ xs b body = true) (hm : lamN ∉ N) (hf : MtF K C x f) (h1 : plyNames.contains x = false) (h2 : x ≠ ("__init__" : Str)) (bn : Binds K fd ps []) (hpl : x = ("play" : Str) → ∃ ds, Binds K fd ps ds ∧ Vals [V.int 1] ds) (hk : 2 ≤ k ∨ ∀ x ∈ xs, exnF x = none := by decide +kernel) :
    MtAt P w K mg base cl (k + 1) x ps.length (run T N.length b) := by
  have ok := fn_okD M F S hfn hP hb hm hk
  refine ⟨C, f, pk, h1, fun _ => ⟨hf, ?_⟩, fun z => ?_, fun z => absurd z h2⟩
  · have R := FnOk.raw ok bn .nil
    exact R.imp fun vs H Q E h => by rw [List.append_nil]; exact h
  · obtain ⟨ds, b1, b2⟩ := hpl z
    exact FnOk.raw ok b1 b2
end
theorem hid_nil (H : Hp) : hid [] H = H := by funext a; unfold hid; rw [if_neg (by simp)]
/-- the law's promise, from what the evaluator answers -/
theorem law_sp {P : Program} {w : World} {K : PySem.W.Frag} {cl : Str → Option Addr} {m : Fn} {ns : List Int} {H : Hp} {a : Addr} (hS : SqL K H a (ns.map V.int)) (h : ∃ os, m [.ro (.frz (ns.map .int))] = .ok (.d (.bl true)) os) :
    spD P w K cl 1 m [.ref a] H (fun v _ => v = .bl true) fun _ _ _ => False := by
  obtain ⟨os, h⟩ := h
  refine ⟨[], [.ro (.frz (ns.map .int))], rfl, fun _ z => by simp at z, ⟨rfl, fun j s v h1 h2 => ?_, fun i j p q o u a b _ h1 _ => ?_⟩, ?_⟩
  · cases j with
    | zero =>
      have e1 : Sl.ro (.frz (ns.map .int)) = s := by simpa using h1
      have e2 : V.ref a = v := by simpa using h2
      subst e1 e2
      show Rep K (hid [] H) (.frz (ns.map .int)) (.ref a)
      rw [hid_nil]
      simp only [Rep]
      exact ⟨a, _, rfl, hS, ints_reps ns⟩
    | succ j => simp at h1
  · cases i with
    | zero => simp at h1
    | succ i => simp at h1
  · rw [h]
    intro v w' H' _ _ rv
    simpa only [Rep] using rv
theorem walk_ofW {l : PySem.W.OpenLaw} {n k : Nat} {q : Program} {loose : List Str} {XP : (Str → Option Value) → Heap → Prop} {YP : World → Heap → Prop} {d : DefRec} {CX : World → CXT} {x : Str}
    (hn : l.most = some n) (hn2 : n ≤ sizeLine) (hdf : d.params.defaults = []) (hr : Room k callerA)
    (F : ∀ (w : World) (mg : Str → Option Value) (fa : Addr) (h : Heap), YP w h → h.Ns mainGlobals mg → mg d.name = some (.ref fa) →
      ∃ (K : PySem.W.Frag) (fd : FuncData) (sp : Sp), K.In h ∧ (∀ (s : Shared) (u : Value), BindsTo s fd ⟨[u], []⟩ [(x, u)]) ∧
        (∀ (H : Hp) (a : Addr) (ns : List Int), ns.length ≤ n → Only H → SqL K H a (ns.map V.int) → sp [.ref a] H (fun v _ => v = .bl true) fun _ _ _ => False) ∧
        ∀ base : Heap, K.In base → base.Ns mainGlobals mg → FnOk l.prog w K mg base (CX w) k fa fd [x] sp)
    (hCX : ∀ (w : World) (H : Hp) (s : Shared) (e : Value) (s' : Shared), CX w [] H s (fun _ _ _ => False) e s' → False) :
    PySem.W.WalkO q loose XP YP l.row.toRowW d [] (fun f vs => PySem.call f vs) := by
  refine Att.attach_call hn hdf fun w s₀ s₁ mg mb fa o pm cd doc a vs ns G Y ho hd hcd hmg hobj hints hlen hg => ?_
  obtain ⟨K, fd, sp, KX, hb, hsp, hF⟩ := F w mg fa _ Y G.T.g hmg
  exact law_call KX G.T.g G.T.b G.T.builtins G.T.nolimit hg hobj hints (Nat.le_trans hlen hn2) hr hF hb (fun H hO hS => hsp H a ns hlen hO hS) fun H e s' => hCX w H s₁ e s'
theorem no_cx {P : Program} : ∀ (w : World) (H : Hp) (s : Shared) (e : Value) (s' : Shared), L2.CX P w [] H s (fun _ _ _ => False) e s' → False := fun w H s e s' ⟨_, _, _, _, _, _, _, _, _, _, _, _, z⟩ => z
/-- the callees, one by one -/
def AllFn (P : Program) (w : World) (K : PySem.W.Frag) (mg : Str → Option Value) (base : Heap) (cl : Str → Option Addr) (k : Nat) : List (Str × Nat) → List Fn → Prop
  | [], _ => True
  | (y, n) :: l, f :: T => FnAt P w K mg base cl k y n f ∧ AllFn P w K mg base cl k l T
  | _ :: _, [] => False
theorem AllFn.get {P : Program} {w : World} {K : PySem.W.Frag} {mg : Str → Option Value} {base : Heap} {cl : Str → Option Addr} {k : Nat} : ∀ {l : List (Str × Nat)} {T : List Fn}, AllFn P w K mg base cl k l T → ∀ (i : Nat) (y : Str) (n : Nat), l[i]? = some (y, n) → ∃ g, T[i]? = some g ∧ FnAt P w K mg base cl k y n g
  | [], _, _, i, y, n, h => by simp at h
  | (z, m) :: l, f :: T, ⟨h1, h2⟩, 0, y, n, h => by
    have e : (z, m) = (y, n) := by simpa using h
    cases e
    exact ⟨f, rfl, h1⟩
  | (z, m) :: l, f :: T, ⟨h1, h2⟩, i + 1, y, n, h => by
    obtain ⟨g, g1, g2⟩ := h2.get i y n (by simpa using h)
    exact ⟨g, by simpa using g1, g2⟩
  | _ :: _, [], h, _, _, _, _ => h.elim
end G
/-! G.Rec: a def that calls itself, so deep and no deeper. -/
namespace G
open PySem L2
theorem fn_no {P : Program} {w : World} {K : PySem.W.Frag} {mg : Str → Option Value} {base : Heap} {cl : Str → Option Addr} {x qual : Str} {params : Arguments} {body : List Stmt} {scope : Scope} {f : Addr} {fd : FuncData} {ps : List Str} {k : Nat}
    (F : FunD K x qual params body scope [] [] f fd) (gx : mg x = some (.ref f)) (bn : Binds K fd ps []) : FnAt P w K mg base cl k x ps.length (fun _ => .no) := by
  refine ⟨f, fd, ps, ⟨fun vs H Q E h => ?_, fun A outer s H args us vs Q E _ _ _ _ h => ?_⟩, gx, F.kp, bn⟩
  · obtain ⟨_, _, h1, _⟩ := h
    exact h1
  · obtain ⟨_, _, _, _, _, h2⟩ := h
    exact h2.elim
end G
/-! G.Facts: what the head tells of a module: its defs, built-ins, errors, constants. -/
namespace G
open PySem L2
mutual
def repB (K : PySem.W.Frag) : D → Value → Bool
  | .non, .none => true
  | .bl b, .bool c => b == c
  | .int i, .int j _ => decide (i = j)
  | .str x, .str y _ => decide (x = y)
  | .tup xs, .ref a => (match K.lookup a with
    | some o => (match o.cls, o.data with
      | .type c, .seq its _ => decide (c = "tuple") && decide (its.size ≤ sizeLine) && repsB K xs its.toList
      | _, _ => false)
    | none => false)
  | _, _ => false
def repsB (K : PySem.W.Frag) : List D → List Value → Bool
  | [], [] => true
  | x :: xs, u :: us => repB K x u && repsB K xs us
  | _, _ => false
end
mutual
theorem repB_ok {K : PySem.W.Frag} : ∀ (d : D) (u : Value), repB K d u = true → ∃ v, RelV v u ∧ ∀ H, Rep K H d v
  | .non, u, h => by
    cases u <;> simp only [repB, Bool.false_eq_true] at h
    exact ⟨.non, rfl, fun H => by simp only [Rep]⟩
  | .bl b, u, h => by
    cases u <;> simp only [repB, Bool.false_eq_true] at h
    exact ⟨.bl b, by rw [eq_of_beq h]; rfl, fun H => by simp only [Rep]⟩
  | .int i, u, h => by
    cases u <;> simp only [repB, Bool.false_eq_true] at h
    rename_i j t
    exact ⟨.int i, ⟨t, by rw [of_decide_eq_true h]⟩, fun H => by simp only [Rep]⟩
  | .str i, u, h => by
    cases u <;> simp only [repB, Bool.false_eq_true] at h
    rename_i j t
    exact ⟨.str i, ⟨t, by rw [of_decide_eq_true h]⟩, fun H => by simp only [Rep]⟩
  | .tup xs, u, h => by
    cases u <;> simp only [repB, Bool.false_eq_true] at h
    rename_i a
    split at h
    · rename_i o ho
      split at h
      · rename_i c its n hc hd
        simp only [Bool.and_eq_true, decide_eq_true_eq] at h
        obtain ⟨⟨h1, h2⟩, h3⟩ := h
        obtain ⟨vs, k1, k2⟩ := repsB_ok xs _ h3
        refine ⟨.ref a, rfl, fun H => ?_⟩
        simp only [Rep]
        exact ⟨a, vs, rfl, .inr ⟨o, its, n, ho, by rw [hc, h1], hd, h2, k1⟩, k2 H⟩
      · cases h
    · cases h
  | .lst _, u, h => by cases u <;> simp only [repB, Bool.false_eq_true] at h
  | .frz _, u, h => by cases u <;> simp only [repB, Bool.false_eq_true] at h
  | .err _ _, u, h => by cases u <;> simp only [repB, Bool.false_eq_true] at h
theorem repsB_ok {K : PySem.W.Frag} : ∀ (ds : List D) (us : List Value), repsB K ds us = true → ∃ vs, Vals vs us ∧ ∀ H, Reps K H ds vs
  | [], [], _ => ⟨[], .nil, fun _ => Reps.nil⟩
  | [], _ :: _, h => by simp only [repsB, Bool.false_eq_true] at h
  | _ :: _, [], h => by simp only [repsB, Bool.false_eq_true] at h
  | d :: ds, u :: us, h => by
    simp only [repsB, Bool.and_eq_true] at h
    obtain ⟨v, h1, h2⟩ := repB_ok d u h.1
    obtain ⟨vs, h3, h4⟩ := repsB_ok ds us h.2
    exact ⟨v :: vs, .cons h1 h3, fun H => Reps.cons (h2 H) (h4 H)⟩
end
/-- a dict of the module, by its entries -/
def dicE : List (Int × Str) → List DictEntry → Bool
  | [], [] => true
  | (k, z) :: kvs, e :: es => (match e.key, e.val with
    | .int i _, .str y _ => decide (i = k) && decide (y = z)
    | _, _ => false) && decide (e.hash = hashInt k) && dicE kvs es
  | _, _ => false
theorem dicE_ok : ∀ {kvs : List (Int × Str)} {es : List DictEntry}, dicE kvs es = true → (∀ e ∈ es, ∃ k t, e.key = .int k t ∧ e.hash = hashInt k) ∧ ∀ i z, kvs.lookup i = some z → ∃ t, (es.find? fun e => Value.isInt i e.key).map (·.val) = some (.str z t)
  | [], [], _ => ⟨fun e he => by simp at he, fun i z h => by simp at h⟩
  | [], _ :: _, h => by simp [dicE] at h
  | _ :: _, [], h => by simp [dicE] at h
  | (k, z) :: kvs, e :: es, h => by
    simp only [dicE, Bool.and_eq_true, decide_eq_true_eq] at h
    obtain ⟨⟨h1, h2⟩, h3⟩ := h
    split at h1 <;> first | contradiction | skip
    rename_i i t y t2 hk hv
    simp only [Bool.and_eq_true, decide_eq_true_eq] at h1
    obtain ⟨rfl, rfl⟩ := h1
    obtain ⟨g1, g2⟩ := dicE_ok h3
    refine ⟨fun e' he => ?_, fun j w hl => ?_⟩
    · rcases List.mem_cons.mp he with rfl | he
      · exact ⟨_, _, hk, h2⟩
      · exact g1 e' he
    · rw [List.lookup_cons] at hl
      rw [List.find?_cons, hk]
      show ∃ t, Option.map _ (match (i == j) with | true => some e | false => _) = _
      by_cases q : j = i
      · subst q
        simp at hl
        subst hl
        simp [hv]
      · have e1 : (j == i) = false := beq_eq_false_iff_ne.2 q
        have e2 : (i == j) = false := beq_eq_false_iff_ne.2 fun z => q z.symm
        rw [e1] at hl
        rw [e2]
        exact g2 j w hl
def dicB (K : PySem.W.Frag) (kvs : List (Int × Str)) : Value → Bool
  | .ref a => (match K.lookup a with
    | some ⟨.type c, none, .dict es _, sl⟩ => decide (c = "dict") && decide (sl.size = 0) && dicE kvs es.toList
    | _ => false)
  | _ => false
theorem dicB_ok {K : PySem.W.Frag} {kvs : List (Int × Str)} {u : Value} (h : dicB K kvs u = true) : ∃ v, RelV v u ∧ DicR K kvs v := by
  unfold dicB at h
  split at h <;> first | contradiction | skip
  rename_i a
  split at h <;> first | contradiction | skip
  rename_i c es n sl hl
  simp only [Bool.and_eq_true, decide_eq_true_eq] at h
  obtain ⟨⟨rfl, h2⟩, h3⟩ := h
  cases Array.eq_empty_of_size_eq_zero h2
  obtain ⟨g1, g2⟩ := dicE_ok h3
  refine ⟨.ref a, rfl, a, es, n, rfl, hl, fun e he => g1 e (by simpa using he), fun i z q => ?_⟩
  obtain ⟨t, e⟩ := g2 i z q
  refine ⟨t, ?_⟩
  unfold findBy
  rw [← e, ← Array.find?_toList]
/-- the module's name stands for this -/
def conB (K : PySem.W.Frag) (q : Str × D) : Bool := match PySem.W.nsIn K mainGlobals q.1 with
  | some (some u) => (match q.2 with
    | .frz xs => (match kvsOf xs with
      | some kvs => dicB K kvs u
      | none => false)
    | d => repB K d u)
  | _ => false
theorem conB_ok {K : PySem.W.Frag} {d : D} {u : Value} (h : (match d with
    | .frz xs => (match kvsOf xs with
      | some kvs => dicB K kvs u
      | none => false)
    | d => repB K d u) = true) : ∃ v, RelV v u ∧ ConR K d v := by
  cases d with
  | frz xs =>
    simp only at h
    split at h <;> first | contradiction | skip
    rename_i kvs hk
    obtain ⟨v, h1, h2⟩ := dicB_ok h
    exact ⟨v, h1, kvs, hk, h2⟩
  | _ => exact repB_ok _ u h
def clX (K : PySem.W.Frag) (xs : List Str) : Str → Option Addr := fun x => if xs.contains x then some (He.ga K x) else none
theorem fact_of {fa : List He.Fa} {fn : List He.DefD} {K : PySem.W.Frag} (c : He.SaysD fa fn K) {f : He.Fa} (h : f ∈ fa) : f.ok K = true := by
  obtain ⟨i, hi⟩ := List.getElem?_of_mem h
  exact c.fact i hi
def hasFree (fa : List He.Fa) (x : Str) : Bool := fa.any fun f => match f with
  | .free y => decide (y = x)
  | _ => false
def hasExc (fa : List He.Fa) (x : Str) : Bool := fa.any fun f => match f with
  | .exc y => decide (y = x)
  | _ => false
def hasGlo (fa : List He.Fa) (x : Str) : Bool := fa.any fun f => match f with
  | .glo y => decide (y = x)
  | _ => false
theorem hasFree_ok {fa : List He.Fa} {x : Str} (h : hasFree fa x = true) : He.Fa.free x ∈ fa := by
  obtain ⟨f, h1, h2⟩ := List.any_eq_true.mp h
  cases f <;> simp only [Bool.false_eq_true] at h2
  rw [← of_decide_eq_true h2]
  exact h1
theorem hasExc_ok {fa : List He.Fa} {x : Str} (h : hasExc fa x = true) : He.Fa.exc x ∈ fa := by
  obtain ⟨f, h1, h2⟩ := List.any_eq_true.mp h
  cases f <;> simp only [Bool.false_eq_true] at h2
  rw [← of_decide_eq_true h2]
  exact h1
theorem hasGlo_ok {fa : List He.Fa} {x : Str} (h : hasGlo fa x = true) : He.Fa.glo x ∈ fa := by
  obtain ⟨f, h1, h2⟩ := List.any_eq_true.mp h
  cases f <;> simp only [Bool.false_eq_true] at h2
  rw [← of_decide_eq_true h2]
  exact h1
/-- what is told of a class whose __init__ keeps an int -/
def oexB (K : PySem.W.Frag) (C : Addr) : Bool := (match K.lookup C with
    | some ⟨.type t, _, .cls cd, sl⟩ => (match cd.mro, sl.toList with
      | .ref C' :: bm, [k0, k1, k2, k3, some (.builtin n), k5] => decide (t = "type") && decide (C' = C) && cd.hasDict && !cd.hasDel && decide (n = "ValueError.__new__") && PySem.HandSPX.refsVE bm
      | _, _ => false)
    | _ => false) && decide (PySem.W.findIn K (.ref C) "__setattr__" = some (some (.builtin "object.__setattr__"))) && decide (PySem.W.subIn K (.ref C) (.type "BaseException") = some true) && decide (PySem.W.typeIn K (.ref C) = some (.type "type")) && PySem.W.keepIn K (.ref C)
def exnB (K : PySem.W.Frag) (r x f : Str) : Bool := oexB K (He.ga K x) && decide (PySem.W.nsIn K mainGlobals x = some (some (.ref (He.ga K x)))) && decide (PySem.W.findIn K (.ref (He.ga K x)) f = some none) && decide (PySem.W.exmOne K (.ref (He.ga K x)) (.ref (He.ga K x)) = some true) && xfB K (He.ga K x) &&
  decide (PySem.W.findIn K (.ref (He.ga K x)) "__init__" = some (some (.ref (He.ma K (He.ga K x) "__init__")))) && decide (PySem.W.typeIn K (.ref (He.ma K (He.ga K x) "__init__")) = some (.type "function")) && decide (PySem.W.nsIn K mainGlobals r = some (some (.ref (He.ga K r)))) &&
  decide (PySem.W.specialIn K (.ref (He.ga K r)) "__getattribute__" = some (some (.builtin "type.__getattribute__"))) && PySem.W.readsIn K (He.ga K r) (.type "type") && (match PySem.W.findCls K (.ref (He.ga K r)) (.type "type") "__init__" with
    | some (.val (.builtin n)) => decide (n = "ValueError.__init__")
    | _ => false)
theorem oexB_ok {K : PySem.W.Frag} {C : Addr} (h : oexB K C = true) : OexC K C := by
  unfold oexB at h
  simp only [Bool.and_eq_true, decide_eq_true_eq] at h
  obtain ⟨⟨⟨⟨h1, h2⟩, h3⟩, h4⟩, h5⟩ := h
  refine ⟨?_, h2, h3, h4, h5⟩
  split at h1 <;> first | contradiction | skip
  rename_i t dd cd sl ho
  split at h1 <;> first | contradiction | skip
  rename_i C' bm k0 k1 k2 k3 n k5 hm hs
  simp only [Bool.and_eq_true, decide_eq_true_eq, Bool.not_eq_true'] at h1
  obtain ⟨⟨⟨⟨⟨rfl, rfl⟩, hd⟩, hl⟩, rfl⟩, hb⟩ := h1
  obtain ⟨nm, bs, mro, ns, qn, hdd, sn, sub, ab, col, del⟩ := cd
  dsimp only at hm hd hl
  subst hm hd hl
  obtain ⟨l⟩ := sl
  simp only at hs
  subst hs
  exact ⟨nm, qn, ns, bs, bm, sn, sub, ab, col, dd, k0, k1, k2, k3, k5, ho, hb⟩
theorem exn_ok {K : PySem.W.Frag} {h : Heap} {mg : Str → Option Value} {r x f nm qual : Str} {params : Arguments} {body : List Stmt} {scope : Scope} {fd : FuncData} (X : K.In h) (G : h.Ns mainGlobals mg) (hB : exnB K r x f = true) (F : FunD K nm qual params body scope [] [] (He.ma K (He.ga K x) "__init__") fd)
    (S : FnScope [("self" : Str), f] [("self" : Str), f] scope) (hb : isInit r f body = true) (bn : Binds K fd [("self" : Str), f] []) (hs : (okName r && glB scope r && visB scope ("self" : Str) && visB scope f && okName f) = true) : ExnD K mg (He.ga K x) x f := by
  unfold exnB at hB
  simp only [Bool.and_eq_true, decide_eq_true_eq] at hB hs
  obtain ⟨⟨⟨⟨⟨⟨⟨⟨⟨⟨b1, b2⟩, b3⟩, b4⟩, b5⟩, b6⟩, b7⟩, b8⟩, b9⟩, b10⟩, b11⟩ := hB
  obtain ⟨⟨⟨⟨s1, s2⟩, s3⟩, s4⟩, s5⟩ := hs
  refine ⟨PySem.W.mg_of X G b2, oexB_ok b1, b3, b4, xfB_ok b5, He.ga K r, r, _, fd, params, body, scope, nm, qual, F, S, hb, bn, b6, b7, PySem.W.mg_of X G b8, b9, b10, ?_, s1, s2, s3, s4, s5⟩
  split at b11 <;> first | contradiction | skip
  rename_i n e
  rw [e, of_decide_eq_true b11]
abbrev exnE (K : PySem.W.Frag) (q : Str × Str × Str) : Bool := exnB K q.1 q.2.1 q.2.2
/-! ### the hook -/
/-- what the names reach in n steps, and the statics -/
def asX (g : Addr → Option Obj) (n : Nat) : List Addr := He.asD g n ++ [cStatics]
abbrev AlG : Type := He.AlD × Bool
def obsG (n : Nat) (fa : List He.Fa) (fn : List He.DefD) (cons : List (Str × D)) (ens : List (Str × Str × Str)) (g : Addr → Option Obj) : AlG := (He.obsD fa fn (He.frG g (asX g n)), cons.all (conB (He.frG g (asX g n))) && ens.all (exnE (He.frG g (asX g n))))
def hookG (n : Nat) (fa : List He.Fa) (fn : List He.DefD) (cons : List (Str × D)) (ens : List (Str × Str × Str)) : PySem.W.Hook where
  α := AlG
  obs := fun s => obsG n fa fn cons ens s.heap.get?
  val := fun _ => (He.valD fn, true)
  says := fun _ h => ∃ K : PySem.W.Frag, K.In h ∧ He.SaysD fa fn K ∧ (cons.all (conB K) && ens.all (exnE K)) = true
  of := fun _ s e => ⟨He.frG s.heap.get? (asX s.heap.get? n), He.frG_in, congrArg Prod.fst e, congrArg Prod.snd e⟩
  keeps := fun _ _ _ ⟨K, hK, c⟩ k => ⟨K, PySem.W.Frag.In.keeps hK k, c⟩
theorem obsG_eq {n : Nat} {fa : List He.Fa} {fn : List He.DefD} {cons : List (Str × D)} {ens : List (Str × Str × Str)} {g : Addr → Option Obj} {s : Shared} (h : ∀ a, g a = s.heap.get? a) : obsG n fa fn cons ens g = (hookG n fa fn cons ens).obs s := by
  rw [funext h]
  rfl
theorem clX_mem {K : PySem.W.Frag} {xs : List Str} {x : Str} {C : Addr} (h : clX K xs x = some C) : x ∈ xs := by
  unfold clX at h
  split at h
  · rename_i q
    simpa using q
  · cases h
theorem mod_ok {P : Program} {K : PySem.W.Frag} {h : Heap} {mg : Str → Option Value} {fa : List He.Fa} {fn : List He.DefD} {cons : List (Str × D)} {xs : List Str} (X : K.In h) (G : h.Ns mainGlobals mg) (c : He.SaysD fa fn K) (hc : cons.all (conB K) = true)
    (hb : bltNames.all (hasFree fa) = true) (hx : (xs.all fun x => (exnF x).isSome || (hasExc fa x && hasGlo fa x)) = true) (hexn : ∀ x ∈ xs, ∀ f, exnF x = some f → ∃ C, clX K xs x = some C ∧ ExnD K mg C x f) : ModOk P K mg (clX K xs) cons xs := by
  refine ⟨fun x q => He.free_ok X G (fact_of c (hasFree_ok (List.all_eq_true.mp hb x q))), fun x d q => ?_, hexn, fun x C q => clX_mem q, fun x q hn => ?_⟩
  · have hm : (x, d) ∈ cons := PySem.mem_of_lookup q
    have z := List.all_eq_true.mp hc _ hm
    unfold conB at z
    split at z
    · rename_i u hu
      obtain ⟨v, h1, h2⟩ := conB_ok z
      exact ⟨u, v, PySem.W.mg_of X G hu, h1, h2⟩
    · cases z
  · have z := List.all_eq_true.mp hx x q
    rw [hn] at z
    simp only [Option.isSome_none, Bool.false_or, Bool.and_eq_true] at z
    have h1 := hasExc_ok z.1
    have h2 := hasGlo_ok z.2
    obtain ⟨e1, e2, e3, e4⟩ := He.exc_ok (fact_of c h1)
    exact ⟨He.ga K x, _, _, _, _, by unfold clX; rw [if_pos (by simpa using q)], F.excBase_ValueError, e1, He.glo_ok X G (fact_of c h2), e2, e3, e4⟩
/-! ### a dict with keys at the top: the run looks at one word of the world -/
def setF (w : World) (b : Bool) : World := ⟨w.draws, { w.params with followText := fun r => if r = "special-get-raises" then b else w.params.followText r }⟩
theorem setF_eq (w : World) : setF w (w.params.followText "special-get-raises") = w := by
  have e : (fun r => if r = "special-get-raises" then w.params.followText "special-get-raises" else w.params.followText r) = w.params.followText := by
    funext r
    by_cases h : r = "special-get-raises"
    · rw [if_pos h, h]
    · rw [if_neg h]
  unfold setF
  rw [e]
end G
/-! G.LawL: the end of a law that makes lambdas. -/
namespace G
open PySem L2
/-- such a law's promise; T: its table -/
def spL (K : PySem.W.Frag) (P : Addr) (m : Fn) : Sp := fun vs H Q E => ∃ (a : Addr) (ns : List Int), vs = [.ref a] ∧ SqL K H a (ns.map V.int) ∧ H P = some (.tbl #[]) ∧ (∃ os, m [.ro (.frz (ns.map .int))] = .ok (.d (.bl true)) os) ∧ ∀ H', Q (.bl true) H'
theorem sqL_hid {K : PySem.W.Frag} {H : Hp} {a P : Addr} {xs : List V} {t : Array Value} (h : SqL K H a xs) (hP : H P = some (.tbl t)) : SqL K (hid [P] H) a xs := by
  rcases h with h | h
  · refine .inl ?_
    rcases h with h | ⟨o, h⟩
    · exact .inl (hid_of h fun z => by rw [List.mem_singleton.mp z, hP] at h; cases h)
    · exact .inr ⟨o, hid_of h fun z => by rw [List.mem_singleton.mp z, hP] at h; cases h⟩
  · exact .inr h
section
variable {X : Cx} {T : List Fn} {cl : Str → Option Addr} {E : XK} {H : Hp} {N : List Str}
theorem env_startL {a P : Addr} {ns : List Int} (hP : H P = some (.tbl #[])) (tp : tabP X.K X.mg X.base P) (hl : 1 ≤ N.length) (h : SqL X.K H a (ns.map V.int)) (pv : Nat → Option (Option V)) :
    EnvR (gr X H ([P], pv)) [P] (L2.start N [.ref a]) H ([.ro (.frz (ns.map .int))] ++ List.replicate (N.length - 1) .no) := by
  have at_ : ∀ {i : Nat} {s : Sl}, ([Sl.ro (.frz (ns.map .int))] ++ List.replicate (N.length - 1) Sl.no)[i]? = some s → (i = 0 ∧ s = .ro (.frz (ns.map .int))) ∨ s = .no := fun {i s} q => by
    cases i with
    | zero => exact .inl ⟨rfl, by simpa using q.symm⟩
    | succ i => exact .inr (List.eq_of_mem_replicate (List.mem_of_getElem? (by simpa using q)))
  refine ⟨?_, fun a o _ q => q, fun a q => q, fun a q => ?_, fun i s q => ?_, fun i j p o q u _ _ _ h1 _ => ?_, fun i o q => ?_, fun P' hP' t ht => ?_, fun _ => ⟨P, List.mem_singleton.mpr rfl, ⟨_, hP⟩, tp⟩⟩
  · unfold L2.start
    simp only [List.length_append, List.length_map, List.length_replicate, List.length_cons, List.length_nil]
  · rw [List.mem_singleton.mp q, hP]; exact fun z => nomatch z
  · rcases at_ q with ⟨rfl, rfl⟩ | rfl
    · refine ⟨.ref a, rfl, ?_⟩
      simp only [Rep]
      exact ⟨a, _, rfl, sqL_hid h hP, ints_reps ns⟩
    · trivial
  · rcases at_ h1 with ⟨_, z⟩ | z <;> cases z
  · rcases at_ q with ⟨_, z⟩ | z <;> cases z
  · rw [List.mem_singleton.mp hP'] at ht ⊢
    have ht : H P = some (.tbl t) := ht
    rw [hP] at ht
    cases ht
    refine ⟨#[], hP, True.intro, fun pos cv hc => ?_⟩
    have z : codeAmong pos [] = some cv := hc
    simp [codeAmong] at z
theorem body_okL {b : S} {P a : Addr} {ns : List Int} {Q : VK} {bk ct : L2.St → Hp → Prop} (hP : H P = some (.tbl #[])) (tp : tabP X.K X.mg X.base P) (hl : 1 ≤ N.length) (h : SqL X.K H a (ns.map V.int)) (hm : ∃ os, run T N.length b [.ro (.frz (ns.map .int))] = .ok (.d (.bl true)) os) (hQ : ∀ H', Q (.bl true) H') :
    tS X T cl (fun _ => E) b { nx := fun _ H' => Q .non H', rt := Q, bk := bk, ct := ct } (L2.start N [.ref a]) H := by
  obtain ⟨os, hm⟩ := hm
  have hc : ([Sl.ro (.frz (ns.map .int))].all argB = true ∧ [Sl.ro (.frz (ns.map .int))].length ≤ N.length) := ⟨rfl, hl⟩
  unfold run at hm
  rw [if_pos hc] at hm
  refine ⟨H, ([P], fun _ => none), [P], [P], _, env_startL hP tp hl h _, fun a q => by rw [List.mem_singleton.mp q, hP]; exact fun z => (nomatch z), fun _ h => h, ?_⟩
  have hm : (match exs T b ([.ro (.frz (ns.map .int))] ++ List.replicate (N.length - 1) .no) with
      | .ok f δ => (match f, outs [.ro (.frz (ns.map .int))] δ with
        | .nx, some os => .ok (.d .non) os
        | .rt r, some os => .ok r os
        | _, _ => .no)
      | .ex c δ => (match outs [.ro (.frz (ns.map .int))] δ with
        | some os => .ex c os
        | none => .no)
      | .no => .no) = (.ok (.d (.bl true)) os : Out (List Sl) Rt) := hm
  cases he : exs T b ([.ro (.frz (ns.map .int))] ++ List.replicate (N.length - 1) .no) with
  | ok f δ' =>
    rw [he] at hm
    simp only at hm
    split at hm
    · cases hm
    · rename_i r os' _
      cases hm
      intro σ' ows' H' er gw v rv
      have rv : v = .bl true := by simpa only [RtR, Rep] using rv
      rw [rv]
      exact hQ H'
    · cases hm
  | ex c δ' =>
    rw [he] at hm
    simp only at hm
    split at hm <;> cases hm
  | no =>
    rw [he] at hm
    cases hm
end
/-- a def that tells an error's word, as the module has it -/
def WordD (K : PySem.W.Frag) (mg : Str → Option Value) (w : Str) (ws : List (Str × Str)) : Prop :=
  ∃ (g : Addr) (fd : FuncData) (a f : Str) (pg : Arguments) (bg : List Stmt) (sg : Scope), FunD K w w pg bg sg [] [] g fd ∧ mg w = some (.ref g) ∧ Binds K fd [a] [] ∧ FnScope [a, f] [a] sg ∧ L2.Vis sg a ∧ Loc sg f ∧ isWord sg a f ws bg = true ∧ okName w = true ∧ okName a = true ∧ okName f = true
theorem PlOk.mono {P : Program} {w : World} {K : PySem.W.Frag} {mg : Str → Option Value} {base : Heap} {cl : Str → Option Addr} {j k n : Nat} {T : List Fn} {mts : List (Str × Nat)} {lin exm ers : Bool} (h : PlOk P w K mg base cl j n T mts lin exm ers) (e : j ≤ k) : PlOk P w K mg base cl k n T mts lin exm ers :=
  ⟨h.ply, fun i x m q => by obtain ⟨f, g1, i', g2, g3⟩ := h.mts i x m q; exact ⟨f, g1, i', Nat.le_trans g2 e, g3⟩, fun z => by obtain ⟨C, a, i', fd, h1, h2, h3, h4⟩ := h.lin z; exact ⟨C, a, i', fd, h1, h2, Nat.le_trans h3 e, h4⟩, fun z => ⟨(h.err z).1, Nat.le_trans (h.err z).2 e⟩, h.exm⟩
/-- a def that tells an error's field, as the module has it -/
def LimD (K : PySem.W.Frag) (mg : Str → Option Value) (cl : Str → Option Addr) (w n f : Str) : Prop :=
  (∃ C, cl n = some C ∧ mg n = some (.ref C) ∧ PySem.W.exmOne K (.ref C) (.ref C) = some true ∧ XfC K C ∧ PySem.W.findIn K (.ref C) f = some none) ∧
  ∃ (g : Addr) (fd : FuncData) (a e : Str) (pg : Arguments) (bg : List Stmt) (sg : Scope), FunD K w w pg bg sg [] [] g fd ∧ mg w = some (.ref g) ∧ Binds K fd [a] [] ∧ FnScope [a, e] [a] sg ∧ L2.Vis sg a ∧ isLim sg a e n f bg = true ∧ okName w = true ∧ okName a = true
theorem fn_okL {P : Program} {w : World} {K : PySem.W.Frag} {mg : Str → Option Value} {base : Heap} {cl : Str → Option Addr} {params : Arguments} {body : List Stmt} {scope : Scope} {f Pt cc : Addr} {fd : FuncData} {N : List Str} {x0 : Str} {k : Nat} {T : List Fn} {b : S} {fns : List (Str × Nat)} {cons : List (Str × D)} {xs : List Str}
    {wds : List (Str × List (Str × Str))} {mts : List (Str × Nat)} {lin exm ers : Bool} {lms : List (Str × Str × Str)}
    (M : ModOk P K mg cl cons xs) (F : FunD K "law" "law" params body scope [] [] f fd) (gx : mg "law" = some (.ref f)) (S : FnScope N [x0] scope) (hfn : ∀ (i : Nat) (y : Str) (n : Nat), fns[i]? = some (y, n) → ∃ g, T[i]? = some g ∧ FnAt P w K mg base cl k y n g) (hP : PlOk P w K mg base cl k fns.length T mts lin exm ers)
    (hb : isSs ⟨N, scope, fns, cons, wds, mts, lin, exm, ers, lms⟩ xs b body = true) (hn : lamN ∈ N) (hl : 1 ≤ N.length) (hcl : ∀ e C, cl e = some C → mg e = some (.ref C)) (hlc : lawCode K mg = some cc) (TB : LamX.TabB base mg cc Pt) (hw : ∀ w ws, (w, ws) ∈ wds → WordD K mg w ws ∧ Leafs K cl ws) (hlm : ∀ w n f, (w, n, f) ∈ lms → LimD K mg cl w n f) :
    FnOk P w K mg base (L2.CX P w) (k + 3) f fd [x0] (spL K Pt (run T N.length b)) := by
  obtain ⟨oc, od, dV, kV, doc, pm, an, cdv, ct, osl, rfl, lk, hcd, _, _⟩ := F.ex
  have hcode : cdv = .ref cc := by
    unfold lawCode at hlc
    rw [gx] at hlc
    simp only [lk] at hlc
    cases cdv <;> first | (cases hlc; rfl) | cases hlc
  refine fn_of lk hcd S (fun vs H Q E ⟨_, _, h, _⟩ => by rw [h]; rfl) fun A outer s H vs Q E hr hs => ?_
  obtain ⟨a, ns, rfl, h1, h2, h3, h4⟩ := hs
  obtain ⟨C0, Y0⟩ := ctx_ok (k := k + 2) (H := H) (E := E) (outer := outer) (qual := "law") (f := f) (cdv := cdv) (s := s) M S (fun i y n h => by
    obtain ⟨g, g1, g2⟩ := hfn i y n h
    exact ⟨g, g1, g2.mono (Nat.le_add_right k 2)⟩) (hP.mono (Nat.le_add_right k 2)) (.inl (Nat.le_add_left 2 k)) hr
  have C : CtOk T cl (cxOf (L2.CX P w) P w K mg base N "law" scope f cdv A outer s H E) ⟨N, scope, fns, cons, wds, mts, lin, exm, ers, lms⟩ (fun _ => E) (k + 2) := by
    refine ⟨C0.N, C0.nd, C0.sc, C0.calm, C0.room, C0.pass, C0.fns, C0.blt, C0.cons, fun z ws h => ?_, C0.ply, C0.mts, C0.err, C0.lin, fun z n g h => ?_⟩
    · obtain ⟨⟨g, fdw, a', f', pg, bg, sg, Fw, e1, e2, e3, e4, e5, e6, e7, e8, e9⟩, lf⟩ := hw z ws h
      obtain ⟨oc', od', dV', kV', doc', pm', an', cdv', ct', osl', rfl, lk', hcd', _, _⟩ := Fw.ex
      exact ⟨hn, rfl, ⟨cc, hlc, hcode⟩, ⟨k, rfl, hfn⟩, lf, hcl, g, a', f', pg, bg, sg, dV', kV', doc', pm', cdv', ct', oc', an', od', osl', e1, Fw.kp, lk', hcd', e2, e3, e4, e5, e6, e7, e8, e9⟩
    · obtain ⟨c1, g, fdw, a', f', pg, bg, sg, Fw, e1, e2, e3, e4, e5, e6, e7⟩ := hlm z n g h
      obtain ⟨oc', od', dV', kV', doc', pm', an', cdv', ct', osl', rfl, lk', hcd', _, _⟩ := Fw.ex
      exact ⟨hn, rfl, ⟨cc, hlc, hcode⟩, ⟨k, rfl, hfn, hP.mts, fun z => (hP.err z).2⟩, c1, g, a', f', pg, bg, sg, dV', kV', doc', pm', cdv', ct', oc', an', od', osl', e1, Fw.kp, lk', hcd', e2, e3, e4, e5, e6, e7⟩
  have Y : SdOk cl (cxOf (L2.CX P w) P w K mg base N "law" scope f cdv A outer s H E) ⟨N, scope, fns, cons, wds, mts, lin, exm, ers, lms⟩ (fun _ => E) xs :=
    ⟨Y0.kind, Y0.fn, Y0.own, Y0.takes, Y0.stk, Y0.frm, Y0.cls, Y0.exn, Y0.exs, Y0.exm⟩
  exact ⟨_, (both_all T cl b _ _ (fun _ => E) (k + 2) xs C Y).2 _ hb, body_okL (X := cxOf (L2.CX P w) P w K mg base N "law" scope f cdv A outer s H E) h2 ⟨cc, hlc, TB⟩ hl h1 h3 h4⟩
end G
/-! G.FactsL: the head's hook for a law that makes lambdas: no table of code objects is among what is told; law's own is empty. -/
namespace G
open PySem L2
def isTab : Option Obj → Bool
  | some ⟨.none, none, .fields _, _⟩ => true
  | _ => false
def isTab0 : Option Obj → Bool
  | some ⟨.none, none, .fields vs, sl⟩ => vs.toList.isEmpty && sl.toList.isEmpty
  | _ => false
theorem isTab0_ok {o : Option Obj} (h : isTab0 o = true) : o = some (PySem.W.tabObj #[]) := by
  unfold isTab0 at h
  split at h
  · rename_i vs sl
    rw [Bool.and_eq_true] at h
    obtain ⟨h1, h2⟩ := h
    have e1 : vs = #[] := by
      have := List.isEmpty_iff.mp h1
      exact Array.toList_eq_nil_iff.mp this
    have e2 : sl = #[] := by
      have := List.isEmpty_iff.mp h2
      exact Array.toList_eq_nil_iff.mp this
    subst e1 e2
    rfl
  · cases h
def asT (g : Addr → Option Obj) (n : Nat) : List Addr := (He.asD g n).filter (fun a => !isTab (g a)) ++ [cStatics]
/-- law's code object and its table -/
def lawB (K : PySem.W.Frag) (g : Addr → Option Obj) : Bool := match PySem.W.tabIn K "law" with
  | some (c, P) => PySem.W.codeHdIn K c P && isTab0 (g P) && (K.lookup P).isNone
  | none => false
def obsT (n : Nat) (fa : List He.Fa) (fn : List He.DefD) (cons : List (Str × D)) (ens : List (Str × Str × Str)) (g : Addr → Option Obj) : AlG :=
  (He.obsD fa fn (He.frG g (asT g n)), (cons.all (conB (He.frG g (asT g n))) && ens.all (exnE (He.frG g (asT g n)))) && lawB (He.frG g (asT g n)) g)
def LawT (K : PySem.W.Frag) (h : Heap) : Prop := ∃ c P, PySem.W.tabIn K "law" = some (c, P) ∧ PySem.W.codeHdIn K c P = true ∧ h.get? P = some (PySem.W.tabObj #[]) ∧ K.lookup P = none
theorem lawB_ok {K : PySem.W.Frag} {h : Heap} (e : lawB K h.get? = true) : LawT K h := by
  unfold lawB at e
  split at e
  · rename_i c P hq
    simp only [Bool.and_eq_true] at e
    obtain ⟨⟨e1, e2⟩, e3⟩ := e
    exact ⟨c, P, hq, e1, isTab0_ok e2, Option.isNone_iff_eq_none.mp e3⟩
  · cases e
def hookT (n : Nat) (fa : List He.Fa) (fn : List He.DefD) (cons : List (Str × D)) (ens : List (Str × Str × Str)) : PySem.W.Hook where
  α := AlG
  obs := fun s => obsT n fa fn cons ens s.heap.get?
  val := fun _ => (He.valD fn, true)
  says := fun _ h => ∃ K : PySem.W.Frag, K.In h ∧ He.SaysD fa fn K ∧ (cons.all (conB K) && ens.all (exnE K)) = true ∧ LawT K h
  of := fun _ s e => by
    have e2 := congrArg Prod.snd e
    have e2 := Bool.and_eq_true_iff.mp e2
    exact ⟨He.frG s.heap.get? (asT s.heap.get? n), He.frG_in, congrArg Prod.fst e, e2.1, lawB_ok e2.2⟩
  keeps := fun _ _ _ ⟨K, hK, c, hc, cc, P, h1, h2, h3, h4⟩ k => ⟨K, PySem.W.Frag.In.keeps hK k, c, hc, cc, P, h1, h2, k _ _ h3, h4⟩
theorem obsT_eq {n : Nat} {fa : List He.Fa} {fn : List He.DefD} {cons : List (Str × D)} {ens : List (Str × Str × Str)} {g : Addr → Option Obj} {s : Shared} (h : ∀ a, g a = s.heap.get? a) : obsT n fa fn cons ens g = (hookT n fa fn cons ens).obs s := by
  rw [funext h]
  rfl
theorem lawCode_of {K : PySem.W.Frag} {h : Heap} {mg : Str → Option Value} {c P : Addr} (X : K.In h) (G : h.Ns mainGlobals mg) (ht : PySem.W.tabIn K "law" = some (c, P)) : lawCode K mg = some c := by
  unfold PySem.W.tabIn at ht
  split at ht
  · rename_i f hf
    have e1 := PySem.W.mg_of X G hf
    unfold lawCode
    rw [e1]
    split at ht
    · rename_i o od fd osl hfo
      simp only [hfo]
      split at ht
      · rename_i c' hc
        simp only [hc]
        split at ht
        · split at ht
          · cases ht; rfl
          · cases ht
        · cases ht
      · cases ht
    · cases ht
  · cases ht
def hasExm (fa : List He.Fa) (x y : Str) (b : Bool) : Bool := fa.any fun f => match f with
  | .exm x' y' b' => decide (x' = x) && decide (y' = y) && (b' == b)
  | _ => false
theorem hasExm_ok {fa : List He.Fa} {x y : Str} {b : Bool} (h : hasExm fa x y b = true) : He.Fa.exm x y b ∈ fa := by
  obtain ⟨f, h1, h2⟩ := List.any_eq_true.mp h
  cases f <;> simp only [Bool.false_eq_true] at h2
  simp only [Bool.and_eq_true, decide_eq_true_eq] at h2
  obtain ⟨⟨rfl, rfl⟩, h3⟩ := h2
  cases eq_of_beq h3
  exact h1
theorem mem_of_lookupS {x : Str} : ∀ {ws : List (Str × Str)}, (ws.lookup x).isSome = true → ∃ p ∈ ws, p.1 = x
  | [], h => by simp at h
  | (e, w) :: r, h => by
    rw [List.lookup_cons] at h
    cases q : x == e with
    | true => exact ⟨(e, w), List.mem_cons_self, (eq_of_beq q).symm⟩
    | false =>
      rw [q] at h
      obtain ⟨p, h1, h2⟩ := mem_of_lookupS h
      exact ⟨p, List.mem_cons_of_mem _ h1, h2⟩
theorem leafs_ok {fa : List He.Fa} {fn : List He.DefD} {K : PySem.W.Frag} {xs : List Str} {ws : List (Str × Str)} (c : He.SaysD fa fn K) (h1 : (ws.all fun p => xs.contains p.1) = true) (h2 : (ws.all fun p => ws.all fun q => hasExm fa p.1 q.1 (decide (p.1 = q.1))) = true) : Leafs K (clX K xs) ws := by
  have a1 : ∀ p ∈ ws, clX K xs p.1 = some (He.ga K p.1) := fun p hp => if_pos (List.all_eq_true.mp h1 p hp)
  refine ⟨fun p hp => ⟨_, a1 p hp⟩, fun x C hx hC p hp C' hC' => ?_⟩
  obtain ⟨p0, hp0, rfl⟩ := mem_of_lookupS hx
  rw [a1 p0 hp0] at hC
  rw [a1 p hp] at hC'
  cases hC
  cases hC'
  exact He.exm_ok (fact_of c (hasExm_ok (List.all_eq_true.mp (List.all_eq_true.mp h2 p0 hp0) p hp)))
theorem clX_mg {P : Program} {K : PySem.W.Frag} {mg : Str → Option Value} {cons : List (Str × D)} {xs : List Str} (M : ModOk P K mg (clX K xs) cons xs) : ∀ e C, clX K xs e = some C → mg e = some (.ref C) := fun e C h => by
  have h0 := h
  unfold clX at h
  split at h
  · rename_i hx
    cases hn : exnF e with
    | none =>
      obtain ⟨C', _, _, _, _, k1, _, _, k4, _⟩ := M.exs e (by simpa using hx) hn
      rw [h0] at k1
      cases k1
      exact k4
    | some f =>
      obtain ⟨C', k1, k4⟩ := M.exn e (by simpa using hx) f hn
      rw [h0] at k1
      cases k1
      exact k4.gl
  · cases h
/-- the end -/
theorem law_atS {l : PySem.W.OpenLaw} {w : World} {K : PySem.W.Frag} {mg : Str → Option Value} {h : Heap} {cons : List (Str × D)} {xs : List Str} {wds : List (Str × List (Str × Str))} {mts : List (Str × Nat)} {lin exm ers : Bool} {lms : List (Str × Str × Str)} {params : Arguments} {body : List Stmt} {scope : Scope} {f : Addr} {fd : FuncData} {N : List Str} {x0 : Str} {k n : Nat} {T : List Fn} {b : S} {fns : List (Str × Nat)}
    (X : K.In h) (G : h.Ns mainGlobals mg) (M : ModOk l.prog K mg (clX K xs) cons xs) (F : FunD K "law" "law" params body scope [] [] f fd) (gx : mg "law" = some (.ref f)) (S : FnScope N [x0] scope)
    (hfn : ∀ base : Heap, ∀ (i : Nat) (y : Str) (n : Nat), fns[i]? = some (y, n) → ∃ g, T[i]? = some g ∧ FnAt l.prog w K mg base (clX K xs) k y n g)
    (hP : ∀ base : Heap, PlOk l.prog w K mg base (clX K xs) k fns.length T mts lin exm ers)
    (hb : isSs ⟨N, scope, fns, cons, wds, mts, lin, exm, ers, lms⟩ xs b body = true) (hn : lamN ∈ N) (hl : 1 ≤ N.length) (hlT : LawT K h) (hw : ∀ w ws, (w, ws) ∈ wds → WordD K mg w ws ∧ Leafs K (clX K xs) ws)
    (hlm : ∀ w n f, (w, n, f) ∈ lms → LimD K mg (clX K xs) w n f)
    (hbind : ∀ (s : Shared) (u : Value), PySem.BindsTo s fd ⟨[u], []⟩ [(x0, u)]) (hlaw : ∀ ns : List Int, ns.length ≤ n → ∃ os, run T N.length b [.ro (.frz (ns.map .int))] = .ok (.d (.bl true)) os) :
    LamX.LawAtS l w K (L2.CX l.prog w) (k + 3) n x0 mg f h := by
  obtain ⟨c, P, h1, h2, h3, h4⟩ := hlT
  refine ⟨fd, [(c, P)], spL K P (run T N.length b), fun p hp => ?_, fun p hp => ?_, fun p hp => ?_, hbind, fun H a ns hln _ hT hS => ⟨a, ns, rfl, hS, hT (c, P) List.mem_cons_self, hlaw ns hln, fun _ => rfl⟩, fun base X' G' TB => ?_⟩
  · cases List.mem_singleton.mp hp; exact h3
  · cases List.mem_singleton.mp hp; exact h4
  · cases List.mem_singleton.mp hp; exact PySem.W.codeHd_of_K X h2
  · exact fn_okL M F gx S (hfn base) (hP base) hb hn hl (clX_mg M) (lawCode_of X G h1) (TB (c, P) List.mem_cons_self) hw hlm
end G
/-! G.Ini: what `__init__` of a player promises. -/
namespace G
open PySem PySem.Spec PyProof.Rows L2
/-- the stores of __init__ -/
def iniB (sc : Scope) : List Stmt → Bool
  | [.Assign [.Attribute (.Name s1 _) f1 _] (.Name r _) _, .Assign [.Attribute (.Name s2 _) f2 _] (.Name n _) _, .Assign [.Attribute (.Name s3 _) f3 _] (.Tuple [.Constant .none _ _, .Tuple [] _ _] _ _) _, .Assign [.Attribute (.Name s4 _) f4 _] (.List [] _) _] =>
    decide (s1 = ("self" : Str)) && decide (s2 = ("self" : Str)) && decide (s3 = ("self" : Str)) && decide (s4 = ("self" : Str)) && decide (f1 = ("record_kept" : Str)) && decide (f2 = ("many" : Str)) && decide (f3 = ("now" : Str)) && decide (f4 = ("past" : Str)) &&
      decide (r = ("record" : Str)) && decide (n = ("n" : Str)) && visB sc ("self" : Str) && visB sc ("record" : Str) && visB sc ("n" : Str)
  | _ => false
def tuPR : TE := tTup (tCons (tC .non) (tCons (tTup tNil) tNil))
def tStores (K : PySem.W.Frag) : TS := tSeq (sFld K (tVar 0) (tVar 1) "record_kept") (tSeq (sFld K (tVar 0) (tVar 2) "many") (tSeq (sFld K (tVar 0) tuPR "now") (tSeq (sFld K (tVar 0) (tLst tNil) "past") tNext)))
theorem stores_ps {X : Cx} {sc : Scope} {l : List Stmt} (h : iniB sc l = true) (hN : X.N = [("self" : Str), ("record" : Str), ("n" : Str)]) (hs : X.env.scope = sc) : PSs X l (tStores X.K) := by
  unfold iniB at h
  split at h
  · simp only [Bool.and_eq_true, decide_eq_true_eq] at h
    obtain ⟨⟨⟨⟨⟨⟨⟨⟨⟨⟨⟨⟨rfl, rfl⟩, rfl⟩, rfl⟩, rfl⟩, rfl⟩, rfl⟩, rfl⟩, rfl⟩, rfl⟩, h0⟩, h1⟩, h2⟩ := h
    have v0 : ∀ p, PE X (.Name ("self" : Str) p) (tVar 0) := fun p => pe_var (by rw [hN]; rfl) (by rw [hs]; exact vis_of h0) (by decide +kernel) (by decide +kernel)
    have v1 : ∀ p, PE X (.Name ("record" : Str) p) (tVar 1) := fun p => pe_var (by rw [hN]; rfl) (by rw [hs]; exact vis_of h1) (by decide +kernel) (by decide +kernel)
    have v2 : ∀ p, PE X (.Name ("n" : Str) p) (tVar 2) := fun p => pe_var (by rw [hN]; rfl) (by rw [hs]; exact vis_of h2) (by decide +kernel) (by decide +kernel)
    exact pss_cons (ps_fld (v0 _) (v1 _) (swap_ok rfl _ _ _)) (pss_cons (ps_fld (v0 _) (v2 _) (swap_ok rfl _ _ _)) (pss_cons (ps_fld (v0 _) (pe_tup (pa_cons pe_non (pa_cons (pe_tup pa_nil) pa_nil rfl) rfl)) (swap_ok rfl _ _ _)) (pss_cons (ps_fld (v0 _) (pe_lst pa_nil) (swap_ok rfl _ _ _)) pss_nil)))
  · cases h
theorem puts (vr vn vw : V) (q : Addr) : putF "past" (.ref q) (putF "now" vw (putF "many" vn (putF "record_kept" vr []))) = plyFs vr vn vw q := by
  have n1 : ¬ (("record_kept" : Str) = ("many" : Str)) := by decide +kernel
  have n2 : ¬ (("record_kept" : Str) = ("now" : Str)) := by decide +kernel
  have n3 : ¬ (("many" : Str) = ("now" : Str)) := by decide +kernel
  have n4 : ¬ (("record_kept" : Str) = ("past" : Str)) := by decide +kernel
  have n5 : ¬ (("many" : Str) = ("past" : Str)) := by decide +kernel
  have n6 : ¬ (("now" : Str) = ("past" : Str)) := by decide +kernel
  unfold plyFs
  simp only [putF, if_neg n1, if_neg n2, if_neg n3, if_neg n4, if_neg n5, if_neg n6]
theorem stores_read {K : PySem.W.Frag} {mg : Str → Option Value} {C x dx : Addr} {ows : List Addr} {vr vn : V} {H H2 : Hp} {Q : VK} {rt : VK} {bk ct : L2.St → Hp → Prop} (pk : PlyK K mg C) (dom : G.Dom ows H) (kp : ∀ a o, H a = some o → H2 a = some o) (hx2 : H2 x = some (.ins C dx [])) (hxs : H x = some (.ins C dx [])) (hxo : x ∉ ows)
    (k : ∀ (H' : Hp) (q : Addr) (vw : V), q ≠ x → H q = none → (∀ a o, a ≠ x → H a = some o → H' a = some o) → H' q = some (.lst []) → H' x = some (.ins C dx (plyFs vr vn vw q)) → Rep K (hid (x :: q :: ows) H') (.tup [.non, .tup []]) vw → Q .non H') :
    tStores K { nx := fun _ H' => Q .non H', rt := rt, bk := bk, ct := ct } [some (.ref x), some vr, some vn] H2 := by
  have nf : ∀ {f : Str}, f ∈ plyNames → NoAttr K C f := fun h => pk.nf _ h
  refine ⟨vr, rfl, .ref x, rfl, x, C, dx, [], rfl, hx2, pk.cls, nf (by simp [plyNames]), by decide, ?_⟩
  refine ⟨vn, rfl, .ref x, rfl, x, C, dx, _, rfl, upd_same, pk.cls, nf (by simp [plyNames]), by simp [putF], ?_⟩
  refine ⟨Nat.zero_le _, fun p1 n1 => ⟨(show 2 ≤ sizeLine by decide), fun p2 n2 => ?_⟩⟩
  have p1x : p1 ≠ x := fun z => by rw [z, upd_same] at n1; cases n1
  have n1' : H2 p1 = none := by rw [upd_ne p1x, upd_ne p1x] at n1; exact n1
  have p21 : p2 ≠ p1 := fun z => by rw [z, upd_same] at n2; cases n2
  have p2x : p2 ≠ x := fun z => by rw [z, upd_ne (Ne.symm p1x), upd_same] at n2; cases n2
  have n2' : H2 p2 = none := by rw [upd_ne p21, upd_ne p2x, upd_ne p2x] at n2; exact n2
  refine ⟨.ref x, rfl, x, C, dx, putF "many" vn (putF "record_kept" vr []), rfl, ?_, pk.cls, nf (by simp [plyNames]), ?_, ?_⟩
  · rw [upd_ne (Ne.symm p2x), upd_ne (Ne.symm p1x), upd_same]
  · have n1 : ¬ (("record_kept" : Str) = ("many" : Str)) := by decide +kernel
    simp [putF, n1]
  refine ⟨Nat.zero_le _, fun p3 n3 => ⟨.ref x, rfl, x, C, dx, putF "now" (.ref p2) (putF "many" vn (putF "record_kept" vr [])), rfl, ?_, pk.cls, nf (by simp [plyNames]), ?_, ?_⟩⟩
  · have p3x : p3 ≠ x := fun z => by rw [z, upd_same] at n3; cases n3
    rw [upd_ne (Ne.symm p3x), upd_same]
  · have n1 : ¬ (("record_kept" : Str) = ("many" : Str)) := by decide +kernel
    have n2 : ¬ (("record_kept" : Str) = ("now" : Str)) := by decide +kernel
    have n3 : ¬ (("many" : Str) = ("now" : Str)) := by decide +kernel
    simp [putF, n1, n2, n3]
  have p3x : p3 ≠ x := fun z => by rw [z, upd_same] at n3; cases n3
  rw [upd_ne p3x] at n3
  have p32 : p3 ≠ p2 := fun z => by rw [z, upd_same] at n3; cases n3
  rw [upd_ne p32] at n3
  have p31 : p3 ≠ p1 := fun z => by rw [z, upd_same] at n3; cases n3
  have n3' : H2 p3 = none := by rw [upd_ne p31, upd_ne p3x, upd_ne p3x] at n3; exact n3
  have back : ∀ {p : Addr}, H2 p = none → H p = none := fun {p} h => by
    cases q : H p with
    | none => rfl
    | some o => rw [kp _ _ q] at h; cases h
  have off : ∀ {p : Addr}, H2 p = none → p ∉ ows := fun {p} h hm => dom p hm (back h)
  refine k _ p3 (.ref p2) p3x (back n3') (fun a o ha q => ?_) ?_ ?_ ?_
  · have q2 := kp a o q
    rw [upd_ne ha, upd_ne (ne_of_none q2 n3'), upd_ne ha, upd_ne (ne_of_none q2 n2'), upd_ne (ne_of_none q2 n1'), upd_ne ha, upd_ne ha]
    exact q2
  · rw [upd_ne p3x, upd_same]
  · rw [upd_same, puts]
  · simp only [Rep, Reps]
    refine ⟨p2, _, rfl, .inl (.inl (hid_of ?_ ?_)), .non, _, rfl, rfl, .ref p1, [], rfl, ⟨p1, [], rfl, .inl (.inl (hid_of ?_ ?_)), rfl⟩, rfl⟩
    · rw [upd_ne p2x, upd_ne (Ne.symm p32), upd_ne p2x, upd_same]
    · simp only [List.mem_cons, not_or]
      exact ⟨p2x, Ne.symm p32, off n2'⟩
    · rw [upd_ne p1x, upd_ne (Ne.symm p31), upd_ne p1x, upd_ne (Ne.symm p21), upd_same]
    · simp only [List.mem_cons, not_or]
      exact ⟨p1x, Ne.symm p31, off n1'⟩
section
variable {P : Program} {w : World} {K : PySem.W.Frag} {mg : Str → Option Value} {base : Heap} {cl : Str → Option Addr} {x qual : Str} {params : Arguments} {body : List Stmt} {scope : Scope} {dvs : List V} {f : Addr} {fd : FuncData} {k : Nat} {T : List Fn} {e1 e2 : G.E} {fns : List (Str × Nat)} {cons : List (Str × D)} {xs : List Str}
/-- __init__ -/
theorem init_okD {C : Addr} (pk : PlyK K mg C) (mk : Mk K C f) (M : ModOk P K mg cl cons xs) (F : FunD K x qual params body scope dvs [] f fd) (S : FnScope [("self" : Str), ("record" : Str), ("n" : Str)] [("self" : Str), ("record" : Str), ("n" : Str)] scope)
    (hfn : ∀ (i : Nat) (y : Str) (n : Nat), fns[i]? = some (y, n) → ∃ g, T[i]? = some g ∧ FnAt P w K mg base cl k y n g)
    (hb : isSs ⟨[("self" : Str), ("record" : Str), ("n" : Str)], scope, fns, cons, [], [], false, false, false, []⟩ xs (.seq (.drop e1) (.drop e2)) (body.take 2) = true) (hi : iniB scope (body.drop 2) = true) (bn : Binds K fd [("self" : Str), ("record" : Str), ("n" : Str)] []) (hk : 2 ≤ k ∨ ∀ x ∈ xs, exnF x = none := by decide +kernel) :
    MtAt P w K mg base cl (k + 1) "__init__" 3 (runI T 3 (.seq (.drop e1) (.drop e2))) := by
  refine ⟨C, f, pk, by decide +kernel, fun z => absurd rfl z, fun z => absurd z (by decide +kernel), fun _ => ⟨mk, ?_⟩⟩
  have ok : FnOk P w K mg base (L2.CX P w) (k + 1) f fd [("self" : Str), ("record" : Str), ("n" : Str)] (spInit K (runI T 3 (.seq (.drop e1) (.drop e2)))) := by
    refine FunD.ok F S (fun vs H Q E ⟨_, _, _, _, _, _, _, _, e, _⟩ => by rw [e]; rfl) fun cdv A outer s H vs Q E hr ⟨ows, y, dx, C', r, n, vr, vn, e, dom, hC, hx, hxo, rr, rn, ⟨a, os, hf⟩, hq⟩ => ?_
    subst e
    rw [pk.pl] at hC
    cases hC
    obtain ⟨CO, Y⟩ := ctx_ok (H := H) (E := E) (outer := outer) (N := [("self" : Str), ("record" : Str), ("n" : Str)]) (qual := qual) (f := f) (cdv := cdv) (s := s) M S hfn plNo hk hr
    obtain ⟨s1, s2, rest, hbody, g1, g2⟩ : ∃ s1 s2 rest, body = s1 :: s2 :: rest ∧ isS ⟨[("self" : Str), ("record" : Str), ("n" : Str)], scope, fns, cons, [], [], false, false, false, []⟩ xs (.drop e1) s1 = true ∧ isS ⟨[("self" : Str), ("record" : Str), ("n" : Str)], scope, fns, cons, [], [], false, false, false, []⟩ xs (.drop e2) s2 = true := by
      rcases body with _ | ⟨s1, _ | ⟨s2, rest⟩⟩
      · simp [isSs] at hb
      · simp [isSs] at hb
      · have hb' : isSs ⟨[("self" : Str), ("record" : Str), ("n" : Str)], scope, fns, cons, [], [], false, false, false, []⟩ xs (.seq (.drop e1) (.drop e2)) [s1, s2] = true := hb
        simp only [isSs, Bool.and_eq_true] at hb'
        exact ⟨s1, s2, rest, rfl, hb'.1, hb'.2⟩
    subst hbody
    have dr : ∀ {e : G.E} {s : Stmt}, isS ⟨[("self" : Str), ("record" : Str), ("n" : Str)], scope, fns, cons, [], [], false, false, false, []⟩ xs (.drop e) s = true → ∃ z p, s = .Expr z p ∧ isE ⟨[("self" : Str), ("record" : Str), ("n" : Str)], scope, fns, cons, [], [], false, false, false, []⟩ e z = true ∧ notComp z = true := fun {e s} h => by
      unfold isS at h
      split at h <;> first | contradiction | skip
      all_goals (rename_i q; first | cases q | skip)
      simp only [Bool.and_eq_true] at h
      exact ⟨_, _, rfl, h.1, h.2⟩
    obtain ⟨z1, q1, rfl, i1, c1⟩ := dr g1
    obtain ⟨z2, q2, rfl, i2, c2⟩ := dr g2
    have d1 := ((g_all T cl e1).1 _ _ _ _ _ CO i1).1
    have d2 := ((g_all T cl e2).1 _ _ _ _ _ CO i2).1
    refine ⟨_, pss_cons (ps_expr d1 (swap_ok c1 _ _ _)) (pss_cons (ps_expr d2 (swap_ok c2 _ _ _)) (stores_ps hi rfl rfl)), ?_⟩
    have hf' : ∃ r1 δ1 r2 δ2, ev T e1 [.no, .ro r, .ro n] = .ok r1 δ1 ∧ ev T e2 δ1 = .ok r2 δ2 := by
      unfold runI at hf
      simp only [exs, List.length_cons, List.length_nil] at hf
      have l0 : (Sl.no :: [Sl.ro r, Sl.ro n] ++ List.replicate (3 - (0 + 1 + 1) - 1) Sl.no) = [.no, .ro r, .ro n] := rfl
      rw [l0] at hf
      cases q1 : ev T e1 [.no, .ro r, .ro n] with
      | ok r1 δ1 =>
        rw [q1] at hf
        simp only [Out.bind] at hf
        cases q2 : ev T e2 δ1 with
        | ok r2 δ2 => exact ⟨r1, δ1, r2, δ2, rfl, q2⟩
        | ex c δ => rw [q2] at hf; simp at hf
        | no => rw [q2] at hf; simp at hf
      | ex c δ => rw [q1] at hf; simp [Out.bind] at hf
      | no => rw [q1] at hf; simp [Out.bind] at hf
    obtain ⟨r1, δ1, r2, δ2, h1, h2⟩ := hf'
    have e0 : EnvR (gr (cxOf (L2.CX P w) P w K mg base [("self" : Str), ("record" : Str), ("n" : Str)] qual scope f cdv A outer s H E) H ([], fun _ => none)) ows (L2.start [("self" : Str), ("record" : Str), ("n" : Str)] [V.ref y, vr, vn]) H [.no, .ro r, .ro n] := by
      refine ⟨rfl, fun a o _ h => h, fun a ha => (nomatch ha), dom, fun i s h => ?_, fun i j p o q u a b _ h1 => ?_, fun i o h => ?_, fun P hP => (nomatch hP), fun z => absurd (of_decide_eq_true z) (by show lamN ∉ ([("self" : Str), ("record" : Str), ("n" : Str)] : List Str); decide +kernel)⟩
      · rcases i with _ | _ | _ | i
        · cases h; trivial
        · cases h; exact ⟨vr, rfl, rr⟩
        · cases h; exact ⟨vn, rfl, rn⟩
        · simp at h
      · rcases i with _ | _ | _ | i <;> simp at h1
      · rcases i with _ | _ | _ | i <;> simp at h
    refine ⟨H, ([], fun _ => none), ows, _, e0, ?_⟩
    rw [h1]
    intro v ows1 H1 er1 gw1 _
    refine ⟨H, ([], fun _ => none), ows1, _, er1, ?_⟩
    rw [h2]
    intro v2 ows2 H2 er2 gw2 _
    have kp : ∀ a o, H a = some o → H2 a = some o := fun a o h => er2.base a o (by intro z; cases z) h
    exact stores_read pk dom kp (kp _ _ hx) hx hxo hq
  have R := FnOk.raw ok bn .nil
  exact R.imp fun vs H Q E h => by rw [List.append_nil]; exact h
end
end G
/-! G.GFor: for loops in generator defs. -/
namespace G
open PySem PySem.Spec PyProof.Rows L2 GenW
section
variable {M : Model} {A : Around} {R : GenEnd} {Y : Protocol} {n : Nat} {s₀ : Shared} {c : Code} {fs : List Frame} {s : Shared} {env : PySem.Env}
  {K : Flow → Sem PySem.Fin} {J : Value → Sem PySem.Fin} {gd : Bool → Bool} {lv : List Value → List Value}
theorem seg_forS {target iter : Expr} {body orelse : List Stmt} {pos : Pos}
    (h : wpAny M (A.over c fs) (eval iter env) (fun v s1 => wpAny M (A.over c fs) (pyIter v) (fun it s2 => ∀ p, Seg M A R Y n s₀ (.forLoop target it body orelse env) (M.den (.forLoop target it body orelse env))
      (.ret (fun r => ((match r with | .ok f => (.pure f : Sem Flow) | .error e => .raise e).onRaise (cameBack env)).wrap K J gd lv) none (gd false) (lv []) c p [] :: fs) s2) (fun x s' => Seg M A R Y n s₀ c (J x) fs s') s1) (fun x s' => Seg M A R Y n s₀ c (J x) fs s') s)
    (hs : ∀ x, foldedSetIterable iter env x = pure x) : Seg M A R Y n s₀ c ((exec (.For target iter body orelse pos) env).wrap K J gd lv) fs s := by
  rw [exec_For]
  refine seg_bind_wrap (wpAny_standAt ?_)
  refine seg_bind_wrap (wpAny_mono h (fun v s1 h1 => ?_) fun _ _ z => z)
  refine seg_bind_wrap (wpAny_of_eq (hs v) ?_)
  refine seg_bind_wrap (wpAny_standAt ?_)
  refine seg_bind_wrap (wpAny_holding (wpAny_mono h1 (fun it s2 h2 => ?_) fun _ _ z => z))
  exact seg_call h2
end
/-- what becomes of an exception in a loop's code -/
def exOut (env : PySem.Env) (x : Value) : Sem PySem.Fin := (do noteFrame x env; theTreesLotGoes x : Sem Unit).wrap (fun _ => .raise x) .raise id id
section
variable {prog : Program} {w : World} {A : Around} {R : GenEnd} {Y : Protocol} {n : Nat} {s₀ : Shared} {fs : List Frame} {s : Shared} {env : PySem.Env}
theorem seg_forLoop {target : Expr} {it : Value} {body orelse : List Stmt}
    (h : wpAny (model prog w) (A.over (.forLoop target it body orelse env) fs) (pyNext it) (fun r s1 => match r with
        | none => Seg (model prog w) A R Y n s₀ (.forLoop target it body orelse env) (.pure (.again (.block orelse env))) fs s1
        | some v => wpAny (model prog w) (A.over (.forLoop target it body orelse env) fs) (letOwnedTupleGo target it v) (fun _ s2 => wpAny (model prog w) (A.over (.forLoop target it body orelse env) fs) (assign target env v) (fun _ s3 =>
            Seg (model prog w) A R Y n s₀ (.forLoop target it body orelse env) ((execs body env).wrap (fun f => match f with
              | .next | .cont => .pure (.again (.forLoop target it body orelse env))
              | .brk => .pure (.done .next)
              | .ret v => .pure (.done (.ret v))) (exOut env) id id) fs s3)
          (fun x s' => Seg (model prog w) A R Y n s₀ (.forLoop target it body orelse env) (exOut env x) fs s') s2) (fun x s' => Seg (model prog w) A R Y n s₀ (.forLoop target it body orelse env) (exOut env x) fs s') s1)
      (fun x s' => Seg (model prog w) A R Y n s₀ (.forLoop target it body orelse env) (exOut env x) fs s') s) :
    Seg (model prog w) A R Y n s₀ (.forLoop target it body orelse env) ((model prog w).den (.forLoop target it body orelse env)) fs s := by
  have eo : ∀ x, ((do noteFrame x env; theTreesLotGoes x : Sem Unit).bind fun _ => (.raise x : Sem PySem.Fin)) = exOut env x := fun x => by unfold exOut; exact Sem.bind_eq_wrap _ _
  show Seg _ A R Y n s₀ _ ((forTurn target it body orelse env).onRaise (fun x => do noteFrame x env; theTreesLotGoes x)) fs s
  rw [Sem.onRaise_eq_wrap, Sem.wrap_congr _ _ _ (fun _ => rfl) eo]
  unfold forTurn
  refine seg_bind_wrap (wpAny_standAt ?_)
  refine seg_bind_wrap (wpAny_onRaise (wpAny_mono h (fun r s1 h1 => ?_) fun _ _ h' => wpAny_standAt h'))
  cases r with
  | none => exact h1
  | some v =>
    refine seg_bind_wrap (wpAny_mono h1 (fun _ s2 h2 => ?_) fun _ _ z => z)
    refine seg_bind_wrap (wpAny_mono h2 (fun _ s3 h3 => ?_) fun _ _ z => z)
    show Seg _ A R Y n s₀ _ ((execs body env >>= _).wrap _ _ _ _) fs s3
    rw [Sem.bind_eq_wrap', Sem.wrap_wrap]
    rw [Sem.wrap_congr (execs body env) _ _ (K' := fun f => match f with
            | .next | .cont => .pure (.again (.forLoop target it body orelse env))
            | .brk => .pure (.done .next)
            | .ret v => .pure (.done (.ret v))) (H' := exOut env) (fun f => by cases f <;> rfl) (fun e => by rfl)]
    exact h3
theorem seg_block0 (h : Seg (model prog w) A R Y n s₀ (.block [] env) (.pure (.done .next)) fs s) : Seg (model prog w) A R Y n s₀ (.block [] env) ((model prog w).den (.block [] env)) fs s := h
end
/-! ### for -/
def tGFor (wi : TI) (g : TG) (tb : TGn) : TGn := fun D ys σ H => wi σ H fun J H1 => ∃ W : Nat → Nat → List V → L2.St → Hp → Prop, (∃ m, W 0 m ys σ H1) ∧ ∀ i m ys σ H, W i m ys σ H →
  (J.stop i H ∧ D.nx ys σ H) ∨ (J.go i H ∧ ∃ N : List V → L2.St → Hp → Prop, (∀ ys' σ' H', N ys' σ' H' → ∃ m', m' < m ∧ W (i + 1) m' ys' σ' H') ∧ ∀ x H', J.yld i H x H' → g x σ H' fun σ2 H2 => tb { D with nx := N, ct := N, bk := D.nx } ys σ2 H2)
section
variable {X : Cx} {tg iter : Expr} {body : List Stmt} {pos : Pos} {wi : TI} {g : TG} {tb : TGn}
theorem gs_for (hp : PassesOwn (model X.prog X.w) X.A X.env X.xe) (hc : X.calm = true) (hi : PI X tg iter wi) (hg : PG X tg g) (hb : GSs X body tb)
    (hs : ∀ x, foldedSetIterable iter X.env x = pure x := by intro _; rfl) : GS X (.For tg iter body [] pos) (tGFor wi g tb) := by
  refine ⟨fun A S ip R n ys s₀ c fs K J gd lv s σ H D gc hn k hI ht => ?_⟩
  obtain ⟨acc, cc, r, I⟩ := hI
  refine seg_forS ?_ hs
  rw [gc.over]
  refine wpAny_mono (hi.run _ s σ H _ I ht) (fun v s1 h1 => wpAny_mono h1 (fun itv s2 h2 => ?_) fun x s' hx => k.exc n s₀ x s' hx) fun x s' hx => k.exc n s₀ x s' hx
  obtain ⟨it, fp, tn, Jt, H2, e, I2, T, st2, f2, W, ⟨m0, w0⟩, turn⟩ := h2
  subst e
  intro p
  have hS : ∀ b ∈ fp, b ≠ S := fun b hb z => (f2 b hb).2.2.2.2.2 (S, lstObj acc cc) (List.mem_append_right _ List.mem_cons_self) z.symm
  have stat : ∀ {H' : Hp} {acc' : Array Value} {cc' : Nat}, (∀ b ∈ fp, H' b = none) → ∀ b ∈ fp, FpOk X ((S, lstObj acc' cc') :: ip) H' b := fun {H' acc' cc'} hn b hb => by
    obtain ⟨_, a1, a2, a3, a4, a5⟩ := f2 b hb
    refine ⟨hn b hb, a1, a2, a3, a4, fun q hq => ?_⟩
    rcases List.mem_append.mp hq with z | z
    · exact a5 q (List.mem_append_left _ z)
    · rcases List.mem_cons.mp z with z | z
      · rw [z]; exact Ne.symm (hS b hb)
      · exact a5 q (List.mem_append_right _ (List.mem_cons_of_mem _ z))
  have gl := fun (kk : Result → Sem PySem.Fin) => gc_loop (k := kk) (c' := .forLoop tg (.ref it) body [] X.env) (l := lv []) (kp := []) (p := p) gc rfl rfl
  have loop : ∀ (m n i : Nat) (ys : List V) (s₀ s : Shared) (σ : L2.St) (H : Hp), n + ys.length = sizeLine → W i m ys σ H → L2.GI X S ip ys σ H s → tn i s.heap → (∀ b ∈ fp, H b = none) →
      Seg (model X.prog X.w) A R (GY X S) n s₀ (.forLoop tg (.ref it) body [] X.env) ((model X.prog X.w).den (.forLoop tg (.ref it) body [] X.env))
        (.ret (fun r => ((match r with | .ok f => (.pure f : Sem Flow) | .error e => .raise e).onRaise (cameBack X.env)).wrap K J gd lv) none (gd false) (lv []) c p [] :: fs) s := by
    intro m
    induction m using Nat.strongRecOn with
    | ind m ih =>
      intro n i ys s₀ s σ H hn w hI st fr
      have ee : ∀ (n : Nat) (s₀ : Shared) (x : Value) (s' : Shared), X.xe x s' → Seg (model X.prog X.w) A R (GY X S) n s₀ (.forLoop tg (.ref it) body [] X.env) (exOut X.env x)
          (.ret (fun r => ((match r with | .ok f => (.pure f : Sem Flow) | .error e => .raise e).onRaise (cameBack X.env)).wrap K J gd lv) none (gd false) (lv []) c p [] :: fs) s' := fun n s₀ x s' hx => by
        refine seg_wrap ?_
        rw [(gl _).over]
        refine wpAny_bind (wpAny_mono (hp x s' hx) (fun _ s'' hcb => wpAny_theTreesLotGoes ?_) fun y s'' hcb => ?_)
        · exact seg_leaf (.error x) (seg_cameBack gc k hcb)
        · exact seg_leaf (.error y) (seg_cameBack gc k hcb)
      refine seg_forLoop ?_
      rw [(gl _).over]
      obtain ⟨acc, cc, r, I⟩ := hI
      rcases turn i m ys σ H w with ⟨stop, qn⟩ | ⟨go, N, hN, step⟩
      · refine wpAny_mono (T.done X rfl rfl rfl hc i _ s σ H X.xe I (stat fr) st stop) (fun r' s4 h4 => ?_) fun x s' hx => ee n s₀ x s' hx
        obtain ⟨hr, I4⟩ := h4
        subst hr
        refine seg_again rfl (seg_block0 ?_)
        exact seg_leaf (.ok .next) (k.ok n ys s₀ s4 .next hn ⟨σ, H, ⟨acc, cc, r, I4⟩, qn⟩)
      · refine wpAny_mono (T.item X rfl rfl rfl hc i _ s σ H X.xe I (stat fr) st go) (fun r' s4 h4 => ?_) fun x s' hx => ee n s₀ x s' hx
        obtain ⟨u, hr, h4⟩ := h4
        subst hr
        refine wpAny_mono h4 (fun _ s5 h5 => ?_) fun x s' hx => ee n s₀ x s' hx
        obtain ⟨x, H5, I5, r5, y5, st5, fr5⟩ := h5
        have I5' := I5.pinned (stat fr5) (T.obj _ _ st5)
        refine wpAny_mono (hg.run _ s5 σ H5 x u _ I5' r5 (step x H5 y5)) (fun _ s6 h6 => ?_) fun x s' hx => ee n s₀ x s' hx
        obtain ⟨σ6, H6, I6, q6⟩ := h6
        refine hb.run A S (ip ++ pinsAt fp s5.heap) R n ys s₀ _ _ _ _ id id s6 σ6 H6 { D with nx := N, ct := N, bk := D.nx } ⟨gc.pn, fun q hq => ?_, gc.apart, (gl _).over, (gl _).split, (gl _).guard, rfl⟩ hn
          ⟨fun n' ys' s₀' s7 f hn' hs => ?_, fun n' s₀' x s7 hx => ee n' s₀' x s7 hx⟩ ⟨acc, cc, r, I6⟩ q6
        · rcases List.mem_append.mp hq with z | z
          · exact gc.ip q z
          · exact hS _ (of_pinsAt z).1
        have drop : ∀ {ys' : List V} {σ7 : L2.St} {H7 : Hp}, L2.GI X S (ip ++ pinsAt fp s5.heap) ys' σ7 H7 s7 → L2.GI X S ip ys' σ7 H7 s7 ∧ tn (i + 1) s7.heap ∧ ∀ b ∈ fp, H7 b = none := fun {ys' σ7 H7} ⟨acc7, c7, r7, I7⟩ => by
          have I7' : Inv X (((S, lstObj acc7 c7) :: ip) ++ pinsAt fp s5.heap) σ7 H7 s7 := by rw [List.cons_append]; exact I7
          refine ⟨⟨acc7, c7, r7, I7'.unpinned⟩, T.keep _ _ _ st5 fun b hb o e => (I7'.pin (b, o) (List.mem_append_right _ (List.mem_append_right _ (mem_pinsAt hb e)))).1, fun b hb => ?_⟩
          obtain ⟨o, e, d⟩ := T.obj _ _ st5 b hb
          exact (I7'.pin (b, o) (List.mem_append_right _ (List.mem_append_right _ (mem_pinsAt hb e)))).2.1
        cases f with
        | next =>
          obtain ⟨σ7, H7, I7, n7⟩ := hs
          obtain ⟨g7, t7, f7⟩ := drop I7
          obtain ⟨m', hm, w7⟩ := hN ys' σ7 H7 n7
          exact seg_again rfl (ih m' hm n' (i + 1) ys' s₀' s7 σ7 H7 hn' w7 g7 t7 f7)
        | cont =>
          obtain ⟨σ7, H7, I7, n7⟩ := hs
          obtain ⟨g7, t7, f7⟩ := drop I7
          obtain ⟨m', hm, w7⟩ := hN ys' σ7 H7 n7
          exact seg_again rfl (ih m' hm n' (i + 1) ys' s₀' s7 σ7 H7 hn' w7 g7 t7 f7)
        | brk =>
          obtain ⟨σ7, H7, I7, n7⟩ := hs
          exact seg_leaf (.ok .next) (k.ok n' ys' s₀' s7 .next hn' ⟨σ7, H7, (drop I7).1, n7⟩)
        | ret v =>
          obtain ⟨x7, σ7, H7, I7, r7, n7⟩ := hs
          exact seg_leaf (.ok (.ret v)) (k.ok n' ys' s₀' s7 (.ret v) hn' ⟨x7, σ7, H7, (drop I7).1, r7, n7⟩)
  exact loop m0 n 0 ys s₀ s2 σ H2 hn w0 ⟨acc, cc, r, I2⟩ st2 fun b hb => (f2 b hb).1
end
end G
/-! Dig: how long a number's text is. -/
namespace G
open PySem
theorem nat_repr_len {n : Nat} (h : n < 10 ^ 600) : n.repr.length ≤ 600 := by
  rw [Nat.repr_eq_ofList_toDigits, String.length_ofList]
  exact (Nat.length_toDigits_le_iff (by decide) (by decide)).mpr h
theorem int_repr_len {i : Int} (h : i.natAbs < 10 ^ 600) : (toString i : String).length ≤ 601 := by
  show i.repr.length ≤ 601
  rw [Int.repr_eq_if]
  split
  · have := nat_repr_len (n := i.toNat) (by omega)
    omega
  · rw [String.length_append]
    have := nat_repr_len (n := (-i).toNat) (by omega)
    have e : ("-" : String).length = 1 := by decide
    omega
theorem pow_1900 : 2 ^ 1900 ≤ 10 ^ 600 := by decide +kernel
theorem ofString_len (s : String) : (Str.ofString s).length = s.length := by
  unfold Str.length Str.ofString
  rw [List.size_toArray, cpsOfBytes_string, List.length_map, String.length_toList]
theorem turn_len {i : Int} (h : i.natAbs < 2 ^ 1900) : (Str.ofString "turn ").length + ((toString i : String) : Str).length ≤ 606 := by
  have h1 := int_repr_len (Nat.lt_of_lt_of_le h pow_1900)
  have h2 : ((toString i : String) : Str).length = (toString i : String).length := ofString_len _
  have h3 : (Str.ofString "turn ").length = 5 := by decide +kernel
  omega
end G
/-! G.Lin: the generator `lines` of a player. -/
namespace G
open PySem PySem.Spec PyProof.Rows L2 GenW
theorem line_len {i : Int} (h : i.natAbs < 2 ^ 1900) : (Str.ofString "turn ").length + ((toString i : String) : Str).length ≤ sizeLine := by
  have h1 := turn_len h
  have h4 : 606 ≤ sizeLine := by decide
  omega
/-- the body of `lines` -/
def linB (sc : Scope) : List Stmt → Bool
  | [.For (.Name t _) (.Subscript (.Attribute (.Name s _) nm _) (.Constant (.int i) _ _) _) [.Expr (.Yield (some (.BinOp (.Constant (.str z) _ _) op (.Call (.Name g _) [.Name t2 _] ks _) _)) _) _] [] _] =>
    decide (t = ("turn" : Str)) && decide (s = ("self" : Str)) && decide (nm = ("now" : Str)) && decide (i = 1) && decide (z = Str.ofString "turn ") && decide (op = .Add) && decide (g = ("str" : Str)) && decide (t2 = ("turn" : Str)) && ks.isEmpty && glB sc ("str" : Str) && visB sc ("self" : Str) && visB sc ("turn" : Str) && locB sc ("turn" : Str)
  | _ => false
def tLine : TE := tOp (fun x y H Q => ∃ i j, x = V.str i ∧ y = V.str j ∧ i.length + j.length ≤ sizeLine ∧ Q (.str (i ++ j)) H) (tC (.str (Str.ofString "turn "))) (tCB (fun xs H Q => ∃ i : Int, xs = [.int i] ∧ i.natAbs.log2 < 1920 ∧ Q (.str (toString i)) H) (tCons (tVar 1) tNil))
def tLines (K : PySem.W.Frag) : TGn := tGThen (tGFor (iTup K (tOp (rIxT K) (tFld K (tVar 0) "now") (tC (.int 1)))) (gName 1) (tGThen (tGYield tLine) tG0)) tG0
theorem lines_gs {X : Cx} {sc : Scope} {body : List Stmt} (h : linB sc body = true) (hN : X.N = [("self" : Str), ("turn" : Str)]) (hs : X.env.scope = sc) (hm : X.mg ("str" : Str) = none) (hp : PassesOwn (model X.prog X.w) X.A X.env X.xe) (hc : X.calm = true) (hco : X.env.scope.isCoroutine = false) (hi : interactive X.env = false)
    (hf : X.fn ("turn" : Str) = true ∨ X.env.scope.names.lookup ("turn" : Str) = some .local) : GSs X body (tLines X.K) := by
  unfold linB at h
  split at h
  · simp only [Bool.and_eq_true, decide_eq_true_eq] at h
    obtain ⟨⟨⟨⟨⟨⟨⟨⟨⟨⟨⟨⟨rfl, rfl⟩, rfl⟩, rfl⟩, rfl⟩, rfl⟩, rfl⟩, rfl⟩, h0⟩, h1⟩, h2⟩, h3⟩, h4⟩ := h
    cases List.isEmpty_iff.mp h0
    have gl : Gl X ("str" : Str) := by
      unfold Gl Env.kindOf
      rw [hs]
      unfold glB at h1
      split at h1
      · assumption
      · cases h1
    have v0 : ∀ p, PE X (.Name ("self" : Str) p) (tVar 0) := fun p => pe_var (by rw [hN]; rfl) (by rw [hs]; exact vis_of h2) (by decide +kernel) (by decide +kernel)
    have v1 : ∀ p, PE X (.Name ("turn" : Str) p) (tVar 1) := fun p => pe_var (by rw [hN]; rfl) (by rw [hs]; exact vis_of h3) (by decide +kernel) (by decide +kernel)
    refine gss_cons (gs_for hp hc (pi_tup (pe_ix ix_tup (pe_fld (v0 _) (base_ok rfl _ _ _)) pe_int (plain_ok rfl))) (pg_name (by rw [hN]; decide +kernel) (by rw [hN]; rfl) (by rw [hs]; exact loc_of h4) hf) (gss_cons (gs_yield ?_ hco hi) gss_nil)) gss_nil
    exact pe_op op_add_str pe_str (pe_callTy call_str_int gl hm (by decide +kernel) (pa_cons (v1 _) pa_nil rfl) (by decide +kernel) (by decide +kernel) rfl rfl)
  · cases h
theorem lines_read {K : PySem.W.Frag} {a C dx t1 t2 : Addr} {fs : List (Str × V)} {x : V} {is : List Int} {H : Hp} {Q : List V → Hp → Prop} {R : List V → VK} {o : Option V} (c : Cls K C) (nf : NoAttr K C "now") (ha : H a = some (.ins C dx fs)) (hl : fs.lookup ("now" : Str) = some (V.ref t1)) (h1 : SqT K H t1 [x, .ref t2])
    (h2 : SqT K H t2 (is.map V.int)) (hb : ∀ i ∈ is, i.natAbs < 2 ^ 1900) (hn : is.length < sizeLine) (hq : Q (is.map lineV) H) : tLines K { nx := fun ys _ H' => Q ys H', rt := R } [] [some (V.ref a), o] H := by
  refine ⟨.ref a, rfl, a, C, dx, fs, .ref t1, rfl, ha, c, nf, hl, t1, _, 1, .ref t2, rfl, rfl, h1, rfl, t2, rfl, ⟨_, h2⟩, ?_⟩
  refine ⟨fun i m ys σ H' => m = is.length - i ∧ i ≤ is.length ∧ ys = (is.take i).map lineV ∧ (∃ o, σ = [some (V.ref a), o]) ∧ H' = H, ⟨is.length, by simp, Nat.zero_le _, by simp, ⟨o, rfl⟩, rfl⟩, ?_⟩
  rintro i m ys σ H' ⟨rfl, hi, rfl, ⟨o, rfl⟩, rfl⟩
  by_cases hlt : i < is.length
  · have gi : (is.map V.int)[i]? = some (V.int is[i]) := by simp [hlt]
    refine .inr ⟨⟨_, _, h2, gi⟩, fun ys' σ' H' => ys' = (is.take (i + 1)).map lineV ∧ (∃ o, σ' = [some (V.ref a), o]) ∧ H' = _, fun ys' σ' H' ⟨e1, e2, e3⟩ => ⟨is.length - (i + 1), by omega, rfl, hlt, e1, e2, e3⟩, ?_⟩
    rintro y H' ⟨rfl, hy⟩
    have e := hy _ h2
    rw [gi] at e
    cases e
    have hm : is[i] ∈ is := List.getElem_mem hlt
    refine ⟨by rw [List.length_map, List.length_take]; omega, _, rfl, is[i], rfl, ?_, ?_⟩
    · have := hb _ hm
      by_cases z : is[i].natAbs = 0
      · rw [z]; decide
      · have := (Nat.log2_lt z).mpr this
        omega
    · refine ⟨_, _, rfl, rfl, line_len (hb _ hm), ?_, ⟨some (V.int is[i]), rfl⟩, rfl⟩
      rw [List.take_add_one, List.map_append, List.getElem?_eq_getElem hlt]
      rfl
  · have e : i = is.length := by omega
    subst e
    refine .inl ⟨⟨_, h2, by simp⟩, ?_⟩
    rw [List.take_length]
    exact hq
/-- THE GENERATOR -/
theorem lines_ok {P : Program} {w : World} {K : PySem.W.Frag} {mg : Str → Option Value} {base : Heap} {C f : Addr} {name qual : Str} {params : Arguments} {body : List Stmt} {scope : Scope} {fd : FuncData} (pk : PlyK K mg C) (hm : mg ("str" : Str) = none)
    (F : FunD K name qual params body scope [] [] f fd) (S : GScope [("self" : Str), ("turn" : Str)] [("self" : Str)] scope) (hb : linB scope body = true) : GFn P w K mg base 2 f fd [("self" : Str)] (spLines K) := by
  obtain ⟨oc, od, dV, kV, doc, pm, an, cdv, ct, osl, rfl, lk, hcd, _, _⟩ := F.ex
  refine gfn_of lk hcd S (fun vs H Q E ⟨a, C, dx, fs, t1, t2, x, is, e, _⟩ => by rw [e]; rfl) fun A outer s H vs Q E pn hr ⟨a, C', dx, fs, t1, t2, x, is, e, ha, hc, hl, h1, h2, hb2, hn, hq⟩ => ?_
  subst e
  rw [pk.pl] at hc
  cases hc
  exact ⟨_, lines_gs (X := gcxOf P w K mg base _ qual scope f cdv A outer s H E pn) (sc := scope) hb rfl rfl hm owns_gcx rfl S.co (by unfold interactive; show (scope.kind == .module && _) = false; rw [S.kind]; rfl) (.inl rfl), lines_read pk.cls (pk.nf _ (by simp [plyNames])) ha hl h1 h2 hb2 hn hq⟩
end G
/-! G.FactsP: what the head tells of the class of players. -/
namespace G
open PySem L2
/-! ### properties -/
def pAt (K : PySem.W.Frag) (m : Str) : Addr := He.ma K (He.ga K "Player") m
/-- a property's getter -/
def gAt (K : PySem.W.Frag) (m : Str) : Addr := match PySem.W.recIn K (pAt K m) "property" with
  | some (.ref g :: _) => g
  | _ => 0
def fnA (K : PySem.W.Frag) (a : Addr) : He.FnW := match K.lookup a with
  | some ⟨_, _, .func fd, _⟩ => some (fd.name, fd.qualname, fd.params, fd.body, fd.scope, fd.globals, fd.closure, fd.builtins)
  | _ => none
structure PrD where
  m : Str
  qual : Str
  params : Arguments
  body : List Stmt
  scope : Scope
def PrD.val (d : PrD) : He.FnW := some (d.m, d.qual, d.params, .stmts d.body, d.scope, mainGlobals, [], builtinsNs)
def isNo : Value → Bool
  | .none => true
  | _ => false
def refHd (g : Addr) : Option (List Value) → Bool
  | some (.ref a :: _) => decide (a = g)
  | _ => false
def PrD.ok (K : PySem.W.Frag) (d : PrD) : Bool := decide (PySem.W.findIn K (.ref (He.ga K "Player")) d.m = some (some (.ref (pAt K d.m)))) && decide (PySem.W.specialIn K (.ref (pAt K d.m)) "__get__" = some (some (.builtin "property.__get__"))) &&
  decide (PySem.W.takesIn K (.ref (pAt K d.m)) = some true) && refHd (gAt K d.m) (PySem.W.recIn K (pAt K d.m) "property") && PySem.W.keepIn K (.ref (gAt K d.m)) && (match K.lookup (gAt K d.m) with
  | some ⟨_, _, .func fd, _⟩ => PySem.W.codeIn K fd.code d.qual && isNo fd.defaults
  | _ => false)
theorem PrD.prop {K : PySem.W.Frag} {d : PrD} (h : d.ok K = true) : PropOf K (He.ga K "Player") d.m (pAt K d.m) (gAt K d.m) := by
  unfold PrD.ok at h
  simp only [Bool.and_eq_true, decide_eq_true_eq] at h
  obtain ⟨⟨⟨⟨⟨h1, h2⟩, h3⟩, h4⟩, h5⟩, h6⟩ := h
  refine ⟨h1, h2, h3, ?_⟩
  unfold refHd at h4
  split at h4
  · rename_i a rest e
    exact ⟨rest, by rw [e, of_decide_eq_true h4]⟩
  · cases h4
theorem PrD.fun_ {K : PySem.W.Frag} {d : PrD} (h : d.ok K = true) (e : fnA K (gAt K d.m) = d.val) : ∃ fd, FunD K d.m d.qual d.params d.body d.scope [] [] (gAt K d.m) fd := by
  unfold PrD.ok at h
  simp only [Bool.and_eq_true, decide_eq_true_eq] at h
  obtain ⟨⟨_, h5⟩, h6⟩ := h
  unfold fnA at e
  split at h6
  · rename_i oc od fd osl q
    rw [q] at e
    simp only [Bool.and_eq_true] at h6
    obtain ⟨h6, h7⟩ := h6
    obtain ⟨n1, n2, n3, n4, n5, n6, n7, n8, n9, n10, n11, n12, n13, n14, n15⟩ := fd
    have e2 : (some (n1, n2, n3, n4, n5, n6, n7, n15) : He.FnW) = some (d.m, d.qual, d.params, .stmts d.body, d.scope, mainGlobals, [], builtinsNs) := e
    simp only [Option.some.injEq, Prod.mk.injEq] at e2
    obtain ⟨rfl, rfl, rfl, rfl, rfl, rfl, rfl, rfl⟩ := e2
    have dn : n8 = .none := by
      cases n8 <;> first | rfl | cases h7
    subst dn
    exact ⟨_, ⟨oc, od, .none, n9, n10, n11, n12, n13, n14, osl, rfl, q, h6, .inl ⟨rfl, rfl⟩, .inl rfl⟩, h5⟩
  · cases h6
/-! ### the class -/
def intIs (i : Int) : Value → Bool
  | .int j _ => decide (j = i)
  | _ => false
def plyB (K : PySem.W.Frag) : Bool := (match PySem.W.findIn K (.ref (He.ga K "Player")) "MOST" with
    | some (some u) => intIs 60 u && decide (PySem.W.specialIn K u "__get__" = some none)
    | _ => false) && PySem.W.readsIn K (He.ga K "Player") (.type "type") && decide (PySem.W.specialIn K (.ref (He.ga K "Player")) "__getattribute__" = some (some (.builtin "type.__getattribute__"))) &&
  (match PySem.W.findCls K (.ref (He.ga K "Player")) (.type "type") "MOST" with
    | some (.val u) => intIs 60 u
    | _ => false) && PySem.W.notFirst K (He.ga K "Player") (.type "tuple") && decide (PySem.W.findIn K (.ref (He.ga K "Player")) "__class__" = some (some (.builtin "object.__class__"))) &&
  decide (PySem.W.specialIn K (.builtin "object.__class__") "__get__" = some (some (.builtin "getset_descriptor.__get__"))) && decide (PySem.W.takesIn K (.builtin "object.__class__") = some true) && decide (PySem.W.mroIn K (He.ga K "Player") (.type "object") = some true) &&
  decide (PySem.W.kitOne K (.ref (He.ga K "Player")) (.ref (He.ga K "Player")) = some true) && decide (PySem.W.kitOne K (.type "tuple") (.ref (He.ga K "Player")) = some false)
theorem intIs_ok {i : Int} {u : Value} (h : intIs i u = true) : RelV (.int i) u := by
  cases u with
  | int j t => exact ⟨t, by rw [← of_decide_eq_true h]⟩
  | _ => cases h
def hasF (fa : List He.Fa) (p : He.Fa → Bool) : Bool := fa.any p
def isCls : He.Fa → Bool
  | .cls x => decide (x = ("Player" : Str))
  | _ => false
def isMkr : He.Fa → Bool
  | .mkr x => decide (x = ("Player" : Str))
  | _ => false
def isNoat (f : Str) : He.Fa → Bool
  | .noat x g => decide (x = ("Player" : Str)) && decide (g = f)
  | _ => false
def isMeth (f : Str) : He.Fa → Bool
  | .meth x g => decide (x = ("Player" : Str)) && decide (g = f)
  | _ => false
def isExm (y z : Str) (b : Bool) : He.Fa → Bool
  | .exm x g c => decide (x = y) && decide (g = z) && c == b
  | _ => false
section
variable {fa : List He.Fa} {fn : List He.DefD} {K : PySem.W.Frag}
theorem has_cls (h : fa.any isCls = true) : He.Fa.cls "Player" ∈ fa := by
  obtain ⟨f, h1, h2⟩ := List.any_eq_true.mp h
  cases f <;> simp only [isCls, Bool.false_eq_true] at h2
  rw [← of_decide_eq_true h2]; exact h1
theorem has_mkr (h : fa.any isMkr = true) : He.Fa.mkr "Player" ∈ fa := by
  obtain ⟨f, h1, h2⟩ := List.any_eq_true.mp h
  cases f <;> simp only [isMkr, Bool.false_eq_true] at h2
  rw [← of_decide_eq_true h2]; exact h1
theorem has_noat {m : Str} (h : fa.any (isNoat m) = true) : He.Fa.noat "Player" m ∈ fa := by
  obtain ⟨f, h1, h2⟩ := List.any_eq_true.mp h
  cases f <;> simp only [isNoat, Bool.false_eq_true, Bool.and_eq_true, decide_eq_true_eq] at h2
  rw [← h2.1, ← h2.2]; exact h1
theorem has_meth {m : Str} (h : fa.any (isMeth m) = true) : He.Fa.meth "Player" m ∈ fa := by
  obtain ⟨f, h1, h2⟩ := List.any_eq_true.mp h
  cases f <;> simp only [isMeth, Bool.false_eq_true, Bool.and_eq_true, decide_eq_true_eq] at h2
  rw [← h2.1, ← h2.2]; exact h1
theorem has_exm {x y : Str} {b : Bool} (h : fa.any (isExm x y b) = true) : He.Fa.exm x y b ∈ fa := by
  obtain ⟨f, h1, h2⟩ := List.any_eq_true.mp h
  cases f <;> simp only [isExm, Bool.false_eq_true, Bool.and_eq_true, decide_eq_true_eq] at h2
  rw [← h2.1.1, ← h2.1.2, ← eq_of_beq h2.2]; exact h1
theorem meth_of_fa (c : He.SaysD fa fn K) {m : Str} (h : fa.any (isMeth m) = true) : Meth K (He.ga K "Player") m (He.ma K (He.ga K "Player") m) := He.meth_ok (fact_of c (has_meth h))
theorem mkr_of_fa (c : He.SaysD fa fn K) (h : fa.any isMkr = true) : Mk K (He.ga K "Player") (He.ma K (He.ga K "Player") "__init__") := He.mkr_ok (fact_of c (has_mkr h))
theorem ply_ok {h : Heap} {mg : Str → Option Value} (X : K.In h) (G : h.Ns mainGlobals mg) (c : He.SaysD fa fn K) (hB : plyB K = true) (h1 : hasGlo fa "Player" = true) (h2 : fa.any isCls = true) (h3 : fa.any isMkr = true) (h4 : (plyNames.all fun f => fa.any (isNoat f)) = true) : PlyK K mg (He.ga K "Player") := by
  have g := fact_of c (hasGlo_ok h1)
  have e : PySem.W.nsIn K mainGlobals "Player" = some (some (.ref (He.ga K "Player"))) := He.eqO_ok g
  unfold plyB at hB
  simp only [Bool.and_eq_true, decide_eq_true_eq] at hB
  obtain ⟨⟨⟨⟨⟨⟨⟨⟨⟨⟨b1, b2⟩, b3⟩, b4⟩, b5⟩, b6⟩, b7⟩, b8⟩, b9⟩, b10⟩, b11⟩ := hB
  refine ⟨by unfold plC; rw [e], He.glo_ok X G g, (mkr_of_fa c h3).kp, He.cls_ok (fact_of c (has_cls h2)), fun f hf => He.noat_ok (fact_of c (has_noat (List.all_eq_true.mp h4 f hf))), ?_, ?_, b5, ⟨b6, b7, b8, b9⟩, b10, b11⟩
  · split at b1
    · rename_i u q
      simp only [Bool.and_eq_true, decide_eq_true_eq] at b1
      exact ⟨u, q, intIs_ok b1.1, b1.2, by decide +kernel⟩
    · cases b1
  · split at b4
    · rename_i u q
      exact ⟨.type "type", u, ⟨b2, b3⟩, q, intIs_ok b4⟩
    · cases b4
theorem exm_all (c : He.SaysD fa fn K) {xs : List Str} (h : (xs.all fun x => xs.all fun y => fa.any (isExm x y (decide (x = y)))) = true) : ∀ x y C C', clX K xs x = some C → clX K xs y = some C' → PySem.W.exmOne K (.ref C) (.ref C') = some (decide (x = y)) := by
  intro x y C C' h1 h2
  have m1 := clX_mem h1
  have m2 := clX_mem h2
  unfold clX at h1 h2
  rw [if_pos (by simpa using m1)] at h1
  rw [if_pos (by simpa using m2)] at h2
  cases h1
  cases h2
  exact He.exm_ok (fact_of c (has_exm (List.all_eq_true.mp (List.all_eq_true.mp h x m1) y m2)))
end
/-! ### the hook -/
abbrev AlP : Type := (He.AlD × Bool) × List He.FnW
def obsP (n : Nat) (fa : List He.Fa) (fn : List He.DefD) (pr : List PrD) (cons : List (Str × D)) (ens : List (Str × Str × Str)) (g : Addr → Option Obj) : AlP :=
  ((He.obsD fa fn (He.frG g (asX g n)), cons.all (conB (He.frG g (asX g n))) && ens.all (exnE (He.frG g (asX g n))) && (pr.all (PrD.ok (He.frG g (asX g n))) && plyB (He.frG g (asX g n)))), pr.map fun d => fnA (He.frG g (asX g n)) (gAt (He.frG g (asX g n)) d.m))
structure SaysP (fa : List He.Fa) (fn : List He.DefD) (pr : List PrD) (cons : List (Str × D)) (ens : List (Str × Str × Str)) (K : PySem.W.Frag) : Prop where
  c : He.SaysD fa fn K
  hc : (cons.all (conB K) && ens.all (exnE K)) = true
  pr : ∀ d ∈ pr, d.ok K = true ∧ fnA K (gAt K d.m) = d.val
  ply : plyB K = true
def hookP (n : Nat) (fa : List He.Fa) (fn : List He.DefD) (pr : List PrD) (cons : List (Str × D)) (ens : List (Str × Str × Str)) : PySem.W.Hook where
  α := AlP
  obs := fun s => obsP n fa fn pr cons ens s.heap.get?
  val := fun _ => ((He.valD fn, true), pr.map PrD.val)
  says := fun _ h => ∃ K : PySem.W.Frag, K.In h ∧ SaysP fa fn pr cons ens K
  of := fun _ s e => by
    have e1 := congrArg (fun z : AlP => z.1.1) e
    have e2 : (cons.all (conB (He.frG s.heap.get? (asX s.heap.get? n))) && ens.all (exnE (He.frG s.heap.get? (asX s.heap.get? n))) && (pr.all (PrD.ok (He.frG s.heap.get? (asX s.heap.get? n))) && plyB (He.frG s.heap.get? (asX s.heap.get? n)))) = true := congrArg (fun z : AlP => z.1.2) e
    have e3 : pr.map (fun d => fnA (He.frG s.heap.get? (asX s.heap.get? n)) (gAt (He.frG s.heap.get? (asX s.heap.get? n)) d.m)) = pr.map PrD.val := congrArg (fun z : AlP => z.2) e
    rw [Bool.and_eq_true, Bool.and_eq_true (pr.all _)] at e2
    exact ⟨He.frG s.heap.get? (asX s.heap.get? n), He.frG_in, e1, e2.1, fun d hd => ⟨List.all_eq_true.mp e2.2.1 d hd, List.map_inj_left.mp e3 d hd⟩, e2.2.2⟩
  keeps := fun _ _ _ ⟨K, hK, c⟩ k => ⟨K, PySem.W.Frag.In.keeps hK k, c⟩
theorem obsP_eq {n : Nat} {fa : List He.Fa} {fn : List He.DefD} {pr : List PrD} {cons : List (Str × D)} {ens : List (Str × Str × Str)} {g : Addr → Option Obj} {s : Shared} (h : ∀ a, g a = s.heap.get? a) : obsP n fa fn pr cons ens g = (hookP n fa fn pr cons ens).obs s := by
  rw [funext h]
  rfl
/-! ### methods, one by one -/
def AllMt (P : Program) (w : World) (K : PySem.W.Frag) (mg : Str → Option Value) (base : Heap) (cl : Str → Option Addr) (k : Nat) : List (Str × Nat) → List Fn → Prop
  | [], _ => True
  | (y, n) :: l, f :: T => (∃ j, j + 2 ≤ k ∧ MtAt P w K mg base cl j y n f) ∧ AllMt P w K mg base cl k l T
  | _ :: _, [] => False
theorem AllMt.get {P : Program} {w : World} {K : PySem.W.Frag} {mg : Str → Option Value} {base : Heap} {cl : Str → Option Addr} {k : Nat} : ∀ {l : List (Str × Nat)} {T : List Fn}, AllMt P w K mg base cl k l T → ∀ (i : Nat) (y : Str) (n : Nat), l[i]? = some (y, n) → ∃ g, T[i]? = some g ∧ ∃ j, j + 2 ≤ k ∧ MtAt P w K mg base cl j y n g
  | [], _, _, i, y, n, h => by simp at h
  | (z, m) :: l, f :: T, ⟨h1, h2⟩, 0, y, n, h => by
    have e : (z, m) = (y, n) := by simpa using h
    cases e
    exact ⟨f, rfl, h1⟩
  | (z, m) :: l, f :: T, ⟨h1, h2⟩, i + 1, y, n, h => by
    obtain ⟨g, g1, g2⟩ := h2.get i y n (by simpa using h)
    exact ⟨g, by simpa using g1, g2⟩
  | _ :: _, [], h, _, _, _, _ => h.elim
theorem AllMt.drop {P : Program} {w : World} {K : PySem.W.Frag} {mg : Str → Option Value} {base : Heap} {cl : Str → Option Addr} {k n : Nat} {l : List (Str × Nat)} {T : List Fn} (h : AllMt P w K mg base cl k l (T.drop n)) (i : Nat) (x : Str) (m : Nat) (e : l[i]? = some (x, m)) : ∃ f, T[n + i]? = some f ∧ ∃ j, j + 2 ≤ k ∧ MtAt P w K mg base cl j x m f := by
  obtain ⟨g, g1, g2⟩ := h.get i x m e
  rw [List.getElem?_drop] at g1
  exact ⟨g, g1, g2⟩
end G
/-! G.FactsX: what the head tells of errors as values. -/
namespace G
open PySem L2
def excB (K : PySem.W.Frag) (C : Addr) : Bool := decide (PySem.W.findIn K (.ref C) "__getattribute__" = some (some (.builtin "BaseException.__getattribute__"))) && decide (PySem.W.findIn K (.ref C) "__getattr__" = some none) && decide (PySem.W.subIn K (.ref C) (.type "BaseException") = some true) && PySem.W.hasDictIn K C &&
  decide (PySem.W.findIn K (.ref C) "__class__" = some (some (.builtin "object.__class__"))) && decide (PySem.W.specialIn K (.builtin "object.__class__") "__get__" = some (some (.builtin "getset_descriptor.__get__"))) && decide (PySem.W.takesIn K (.builtin "object.__class__") = some true) && decide (PySem.W.mroIn K C (.type "object") = some true)
theorem excB_ok {K : PySem.W.Frag} {C : Addr} (h : excB K C = true) : ExcC K C := by
  unfold excB at h
  simp only [Bool.and_eq_true, decide_eq_true_eq] at h
  obtain ⟨⟨⟨⟨⟨⟨⟨h1, h2⟩, h3⟩, h4⟩, h5⟩, h6⟩, h7⟩, h8⟩ := h
  exact ⟨h1, h2, h3, h4, h5, h6, h7, h8⟩
def errB (K : PySem.W.Frag) : Bool := errNames.all fun n => excB K (He.ga K n) && ((errNames ++ [("RecordError" : Str)]).all fun c => decide (PySem.W.kitOne K (.ref (He.ga K n)) (.ref (He.ga K c)) = some (subE n c))) && decide (PySem.W.kitOne K (.ref (He.ga K n)) (.type "ValueError") = some true)
theorem errK_ok {K : PySem.W.Frag} {h : Heap} {mg : Str → Option Value} {fa : List He.Fa} {fn : List He.DefD} {cons : List (Str × D)} {xs : List Str} (X : K.In h) (G : h.Ns mainGlobals mg) (c : He.SaysD fa fn K) (M : ∀ P, ModOk P K mg (clX K xs) cons xs) (hB : errB K = true)
    (h1 : ((errNames ++ [("RecordError" : Str)]).all fun n => hasGlo fa n) = true) (h2 : (errNames.all fun n => xs.contains n) = true) (h3 : hasFree fa "ValueError" = true) : ErrK K mg := by
  have glo : ∀ n, (n ∈ errNames ∨ n = ("RecordError" : Str)) → clsA K n = some (He.ga K n) ∧ mg n = some (.ref (He.ga K n)) := fun n hn => by
    have g := fact_of c (hasGlo_ok (List.all_eq_true.mp h1 n (by rcases hn with hn | rfl; exact List.mem_append_left _ hn; exact List.mem_append_right _ (List.mem_singleton.mpr rfl))))
    have e : PySem.W.nsIn K mainGlobals n = some (some (.ref (He.ga K n))) := He.eqO_ok g
    exact ⟨by unfold clsA; rw [e], He.glo_ok X G g⟩
  have at_ : ∀ n ∈ errNames, ∀ C, clsA K n = some C → C = He.ga K n := fun n hn C hC => by
    have := (glo n (.inl hn)).1
    rw [hC] at this
    exact Option.some.inj this
  have all : ∀ n ∈ errNames, excB K (He.ga K n) = true ∧ (∀ c ∈ errNames ++ [("RecordError" : Str)], PySem.W.kitOne K (.ref (He.ga K n)) (.ref (He.ga K c)) = some (subE n c)) ∧ PySem.W.kitOne K (.ref (He.ga K n)) (.type "ValueError") = some true := fun n hn => by
    have z := List.all_eq_true.mp hB n hn
    simp only [Bool.and_eq_true, decide_eq_true_eq] at z
    exact ⟨z.1.1, fun c hc => of_decide_eq_true (List.all_eq_true.mp z.1.2 c hc), z.2⟩
  refine ⟨fun n hn => ?_, fun n hn C hC c hc => ?_, He.free_ok X G (fact_of c (hasFree_ok h3)), fun n hn C hC => ?_⟩
  · have hx : n ∈ xs := by simpa using List.all_eq_true.mp h2 n hn
    have clx : clX K xs n = some (He.ga K n) := by unfold clX; rw [if_pos (by simpa using hx)]
    refine ⟨_, (glo n (.inl hn)).1, (glo n (.inl hn)).2, excB_ok (all n hn).1, ?_, fun hf => ?_, fun f hf => ?_⟩
    · cases hf : exnF n with
      | none =>
        obtain ⟨C, B, newId, initId, bmB, g1, g2, g3, g4, g5, _⟩ := (M default).exs n hx hf
        rw [clx] at g1
        cases g1
        exact g5
      | some f =>
        obtain ⟨C, g1, g2⟩ := (M default).exn n hx f hf
        rw [clx] at g1
        cases g1
        exact g2.oex.kC
    · obtain ⟨C, B, newId, initId, bmB, g1, g2, g3, g4, g5, _⟩ := (M default).exs n hx hf
      rw [clx] at g1
      cases g1
      exact ⟨B, newId, initId, bmB, g2, g3⟩
    · obtain ⟨C, g1, g2⟩ := (M default).exn n hx f hf
      rw [clx] at g1
      cases g1
      exact ⟨g2.oex, g2.xf, g2.noat, fun P w base => init_ok (P := P) (w := w) (base := base) g2⟩
  · rw [at_ n hn C hC]
    exact ⟨He.ga K c, (glo c hc).2, (all n hn).2.1 c (by rcases hc with hc | rfl; exact List.mem_append_left _ hc; exact List.mem_append_right _ (List.mem_singleton.mpr rfl))⟩
  · rw [at_ n hn C hC]
    exact (all n hn).2.2
end G
/-! G.FactsY: the head's hook for a law with players, errors as values and lambdas of its own. -/
namespace G
open PySem L2
abbrev frT (n : Nat) (g : Addr → Option Obj) : PySem.W.Frag := He.frG g (asT g n)
def obsY (n : Nat) (fa : List He.Fa) (fn : List He.DefD) (pr : List PrD) (cons : List (Str × D)) (ens : List (Str × Str × Str)) (g : Addr → Option Obj) : AlP :=
  ((He.obsD fa fn (frT n g), (cons.all (conB (frT n g)) && ens.all (exnE (frT n g))) && (pr.all (PrD.ok (frT n g)) && plyB (frT n g)) && (errB (frT n g) && lawB (frT n g) g)), pr.map fun d => fnA (frT n g) (gAt (frT n g) d.m))
structure SaysY (fa : List He.Fa) (fn : List He.DefD) (pr : List PrD) (cons : List (Str × D)) (ens : List (Str × Str × Str)) (K : PySem.W.Frag) : Prop extends SaysP fa fn pr cons ens K where
  err : errB K = true
def hookY (n : Nat) (fa : List He.Fa) (fn : List He.DefD) (pr : List PrD) (cons : List (Str × D)) (ens : List (Str × Str × Str)) : PySem.W.Hook where
  α := AlP
  obs := fun s => obsY n fa fn pr cons ens s.heap.get?
  val := fun _ => ((He.valD fn, true), pr.map PrD.val)
  says := fun _ h => ∃ K : PySem.W.Frag, K.In h ∧ SaysY fa fn pr cons ens K ∧ LawT K h
  of := fun _ s e => by
    have e1 := congrArg (fun z : AlP => z.1.1) e
    have e2 : ((cons.all (conB (frT n s.heap.get?)) && ens.all (exnE (frT n s.heap.get?))) && (pr.all (PrD.ok (frT n s.heap.get?)) && plyB (frT n s.heap.get?)) && (errB (frT n s.heap.get?) && lawB (frT n s.heap.get?) s.heap.get?)) = true := congrArg (fun z : AlP => z.1.2) e
    have e3 : pr.map (fun d => fnA (frT n s.heap.get?) (gAt (frT n s.heap.get?) d.m)) = pr.map PrD.val := congrArg (fun z : AlP => z.2) e
    have a1 := Bool.and_eq_true_iff.mp e2
    have a2 := Bool.and_eq_true_iff.mp a1.1
    have a3 := Bool.and_eq_true_iff.mp a2.2
    have a4 := Bool.and_eq_true_iff.mp a1.2
    exact ⟨frT n s.heap.get?, He.frG_in, ⟨⟨e1, a2.1, fun d hd => ⟨List.all_eq_true.mp a3.1 d hd, List.map_inj_left.mp e3 d hd⟩, a3.2⟩, a4.1⟩, lawB_ok a4.2⟩
  keeps := fun _ _ _ ⟨K, hK, c, cc, P, h1, h2, h3, h4⟩ k => ⟨K, PySem.W.Frag.In.keeps hK k, c, cc, P, h1, h2, k _ _ h3, h4⟩
theorem obsY_eq {n : Nat} {fa : List He.Fa} {fn : List He.DefD} {pr : List PrD} {cons : List (Str × D)} {ens : List (Str × Str × Str)} {g : Addr → Option Obj} {s : Shared} (h : ∀ a, g a = s.heap.get? a) : obsY n fa fn pr cons ens g = (hookY n fa fn pr cons ens).obs s := by
  rw [funext h]
  rfl
end G
/-! Mt1: records as plain data; runs in n turns and in more turns. No program in sight. -/
namespace G.M
structure Pl where
  rim : Bool
  p : Int
  deriving DecidableEq
structure Sc where
  a : Pl
  b : Pl
  j : Int
  e : Bool
  deriving DecidableEq
abbrev Rc := List Sc
abbrev St := Int × List Bool
inductive En where
  | out | off | caught
  deriving DecidableEq

def raw (p : Pl) (n : Int) : Int := if p.rim then p.p else n - 1 - p.p
def hit (s : Sc) (n t : Int) : Bool := decide (raw s.a n ≤ t) && decide (t ≤ raw s.b n)
def find (n t : Int) : Nat → Rc → Option (Nat × Sc)
  | _, [] => none
  | i, s :: r => if hit s n t then some (i, s) else find n t (i + 1) r
/-- al: a mark is kept of each scratch, not only of those that act every second time -/
def nxt (al : Bool) (r : Rc) (n : Int) (s : St) : St := match find n s.1 0 r with
  | none => (s.1 + 1, s.2)
  | some (i, c) => (s.1 + 1 + (if c.e && !(s.2.getD i false) then 0 else c.j), if al || c.e then s.2.set i (!(s.2.getD i false)) else s.2)
def Pl.ok (p : Pl) : Prop := 0 ≤ p.p ∧ p.p ≤ 5
def Sc.ok (s : Sc) : Prop := s.a.ok ∧ s.b.ok ∧ -3 ≤ s.j ∧ s.j ≤ 3 ∧ s.j ≠ 0
def Ok (r : Rc) : Prop := ∀ s ∈ r, s.ok

/-- from s it ends so behind k rounds -/
def Ends (f : St → St) (n : Int) : Nat → St → En → Prop
  | 0, s, e => (n ≤ s.1 ∧ e = .out) ∨ (s.1 < 0 ∧ e = .off)
  | k + 1, s, e => 0 ≤ s.1 ∧ s.1 < n ∧ Ends f n k (f s) e

theorem hit_id {s : Sc} (h : s.ok) {n t : Int} (d : Int) (hd : 0 ≤ d) (ht : t ≤ n - 7) : hit s (n + d) t = hit s n t := by
  obtain ⟨⟨h1, h2⟩, ⟨h3, h4⟩, _⟩ := h
  unfold hit raw
  rw [Bool.eq_iff_iff]
  simp only [Bool.and_eq_true, decide_eq_true_eq]
  split <;> split <;> omega
theorem hit_sh {s : Sc} (h : s.ok) {n t : Int} (d : Int) (hd : 0 ≤ d) (ht : 6 ≤ t) : hit s (n + d) (t + d) = hit s n t := by
  obtain ⟨⟨h1, h2⟩, ⟨h3, h4⟩, _⟩ := h
  unfold hit raw
  rw [Bool.eq_iff_iff]
  simp only [Bool.and_eq_true, decide_eq_true_eq]
  split <;> split <;> omega
theorem hit_mid {s : Sc} (h : s.ok) {n t : Int} (h6 : 6 ≤ t) (ht : t ≤ n - 7) : hit s n t = hit s 1000 500 := by
  obtain ⟨⟨h1, h2⟩, ⟨h3, h4⟩, _⟩ := h
  unfold hit raw
  rw [Bool.eq_iff_iff]
  simp only [Bool.and_eq_true, decide_eq_true_eq]
  split <;> split <;> omega
theorem find_eq {r : Rc} {n t m u : Int} (h : ∀ s ∈ r, hit s n t = hit s m u) : ∀ i, find n t i r = find m u i r := by
  induction r with
  | nil => intro i; rfl
  | cons s r ih =>
    intro i
    simp only [find]
    rw [h s (by simp), ih (fun x hx => h x (by simp [hx]))]
theorem find_some {n t : Int} {r : Rc} : ∀ {i k c}, find n t i r = some (k, c) → i ≤ k ∧ k < i + r.length ∧ r[k - i]? = some c ∧ hit c n t = true := by
  induction r with
  | nil => intro i k c h; simp [find] at h
  | cons s r ih =>
    intro i k c h
    simp only [find] at h
    split at h
    · rename_i hh
      cases h
      exact ⟨Nat.le_refl _, by simp, by simp, hh⟩
    · have := ih h
      obtain ⟨a, b, d, e⟩ := this
      refine ⟨by omega, by simp only [List.length_cons]; omega, ?_, e⟩
      have : k - i = (k - (i + 1)) + 1 := by omega
      rw [this]; simpa using d

def mid (r : Rc) : Option (Nat × Sc) := find 1000 500 0 r
theorem find_mid {r : Rc} (h : Ok r) {n t : Int} (h6 : 6 ≤ t) (ht : t ≤ n - 7) : find n t 0 r = mid r :=
  find_eq (fun s hs => hit_mid (h s hs) h6 ht) 0
theorem mid_ok {r : Rc} (h : Ok r) {i c} (hm : mid r = some (i, c)) : i < r.length ∧ c.ok ∧ r[i]? = some c := by
  obtain ⟨_, b, d, _⟩ := find_some hm
  refine ⟨by omega, h c ?_, by simpa using d⟩
  exact List.mem_of_getElem? d
/-- how far the needle comes in the middle, in a period -/
def vr (r : Rc) : Int := match mid r with
  | none => 1
  | some (_, c) => (if c.e then 2 else 1) + c.j
def per (r : Rc) : Nat := match mid r with
  | none => 1
  | some (_, c) => if c.e then 2 else 1
def many (r : Rc) : Int := match mid r with
  | none => 1
  | some (_, c) => max 1 (if (if c.e then 2 else 1) + c.j < 0 then -((if c.e then 2 else 1) + c.j) else (if c.e then 2 else 1) + c.j)
theorem many_eq (r : Rc) : many r = max 1 (if vr r < 0 then - vr r else vr r) := by
  unfold many vr
  split <;> simp
theorem vr_le {r : Rc} (h : Ok r) : -2 ≤ vr r ∧ vr r ≤ 5 := by
  unfold vr
  split
  · omega
  · rename_i i c e
    obtain ⟨_, ⟨_, _, a, b, _⟩, _⟩ := mid_ok h e
    split <;> omega
theorem many_le {r : Rc} (h : Ok r) : 1 ≤ many r ∧ many r ≤ 5 := by
  have := vr_le h
  rw [many_eq]; split <;> omega

theorem nxt_id {al} {r : Rc} (h : Ok r) {n t : Int} (ms) (d : Int) (hd : 0 ≤ d) (ht : t ≤ n - 7) : nxt al r (n + d) (t, ms) = nxt al r n (t, ms) := by
  unfold nxt
  simp only
  rw [find_eq (fun s hs => hit_id (h s hs) d hd ht) 0]
theorem nxt_sh {al} {r : Rc} (h : Ok r) {n t : Int} (ms) (d : Int) (hd : 0 ≤ d) (ht : 6 ≤ t) : nxt al r (n + d) (t + d, ms) = ((nxt al r n (t, ms)).1 + d, (nxt al r n (t, ms)).2) := by
  unfold nxt
  simp only
  rw [find_eq (fun s hs => hit_sh (h s hs) d hd ht) 0]
  split
  · simp only [Prod.mk.injEq, and_true]; omega
  · simp only [Prod.mk.injEq, and_true]; omega
theorem nxt_bd {al} {r : Rc} (h : Ok r) (n : Int) (s : St) : s.1 - 2 ≤ (nxt al r n s).1 ∧ (nxt al r n s).1 ≤ s.1 + 4 := by
  unfold nxt
  split
  · simp only; omega
  · rename_i i c e
    obtain ⟨_, _, d, _⟩ := find_some e
    obtain ⟨_, _, a, b, _⟩ := h c (List.mem_of_getElem? d)
    simp only
    split <;> omega
theorem nxt_len {al} (r : Rc) (n : Int) (s : St) : (nxt al r n s).2.length = s.2.length := by
  unfold nxt
  split
  · rfl
  · simp only; split <;> simp
/-- the middle scratch has its mark -/
def mk (r : Rc) (ms : List Bool) : Bool := match mid r with
  | none => false
  | some (i, c) => c.e && ms.getD i false
def phi (r : Rc) (s : St) : Int := s.1 - (if mk r s.2 then 1 else 0)
theorem phi_bd (r : Rc) (s : St) : s.1 - 1 ≤ phi r s ∧ phi r s ≤ s.1 := by
  unfold phi; split <;> omega
theorem getD_set_self {l : List Bool} {i : Nat} (h : i < l.length) (b d : Bool) : (l.set i b).getD i d = b := by
  simp [List.getD, h]
theorem phi_mid {r : Rc} (h : Ok r) {n : Int} {s : St} (hl : s.2.length = r.length) (h6 : 6 ≤ s.1) (ht : s.1 ≤ n - 7) :
    (vr r ≤ 0 → phi r (nxt false r n s) ≤ phi r s) ∧ (0 ≤ vr r → phi r s ≤ phi r (nxt false r n s)) := by
  unfold nxt phi mk vr
  rw [find_mid h h6 ht]
  cases e : mid r with
  | none => simp only; constructor <;> intro _ <;> simp <;> omega
  | some ic =>
    obtain ⟨i, c⟩ := ic
    obtain ⟨hi, ⟨_, _, a, b, _⟩, _⟩ := mid_ok h e
    have hi' : i < s.2.length := by omega
    simp only
    have hcs : c.e = true ∨ c.e = false := by cases c.e <;> simp
    have hms : s.2.getD i false = true ∨ s.2.getD i false = false := by cases s.2.getD i false <;> simp
    rcases hcs with hc | hc <;> rcases hms with hm | hm <;> simp only [Bool.false_and, Bool.true_and, Bool.not_false, Bool.not_true, Bool.or_true, Bool.or_false, if_true, if_false, Bool.false_eq_true, getD_set_self hi', hm, hc, reduceIte] <;> constructor <;> intro _ <;> omega

theorem ends_zero (f n s e) : Ends f n 0 s e ↔ (n ≤ s.1 ∧ e = .out) ∨ (s.1 < 0 ∧ e = .off) := Iff.rfl
theorem ends_succ (f n k s e) : Ends f n (k + 1) s e ↔ 0 ≤ s.1 ∧ s.1 < n ∧ Ends f n k (f s) e := Iff.rfl
theorem ends_det {f n} (hn : 0 ≤ n) : ∀ {k s e k' e'}, Ends f n k s e → Ends f n k' s e' → k = k' ∧ e = e' := by
  intro k
  induction k with
  | zero =>
    intro s e k' e' h h'
    cases k' with
    | zero => 
      simp only [ends_zero] at h h'
      rcases h with ⟨a, rfl⟩ | ⟨a, rfl⟩ <;> rcases h' with ⟨b, rfl⟩ | ⟨b, rfl⟩ <;> first | exact ⟨rfl, rfl⟩ | omega
    | succ k' => simp only [ends_zero, ends_succ] at h h'; omega
  | succ k ih =>
    intro s e k' e' h h'
    cases k' with
    | zero => simp only [ends_zero, ends_succ] at h h'; omega
    | succ k' =>
      have := ih h.2.2 h'.2.2
      exact ⟨by omega, this.2⟩

/-! ### one run beside the other -/
/-- the same turn, for ever -/
theorem same {r : Rc} (h : Ok r) (hv : vr r ≤ 0) {n d : Int} (hn : 40 ≤ n) (hd : 0 ≤ d) :
    ∀ k s e, s.2.length = r.length → phi r s ≤ 23 → (Ends (nxt false r n) n k s e ↔ Ends (nxt false r (n + d)) (n + d) k s e) := by
  intro k
  induction k with
  | zero =>
    intro s e hl hp
    have := phi_bd r s
    simp only [ends_zero]
    constructor <;> (intro h; rcases h with ⟨a, b⟩ | ⟨a, b⟩) <;> first | exact .inr ⟨a, b⟩ | omega
  | succ k ih =>
    intro s e hl hp
    have hb := phi_bd r s
    simp only [ends_succ]
    have e1 : nxt false r (n + d) s = nxt false r n s := nxt_id h s.2 d hd (by omega)
    rw [e1]
    by_cases h0 : 0 ≤ s.1
    · have hp' : phi r (nxt false r n s) ≤ 23 := by
        by_cases h6 : 6 ≤ s.1
        · have := (phi_mid h hl h6 (n := n) (by omega)).1 hv
          omega
        · have := nxt_bd (al := false) h n s
          have := phi_bd r (nxt false r n s)
          omega
      rw [ih (nxt false r n s) e (by rw [nxt_len]; exact hl) hp']
      constructor <;> (rintro ⟨a, b, c⟩; exact ⟨a, by omega, c⟩)
    · constructor <;> (rintro ⟨a, b, c⟩; omega)
/-- so many turns further in, for ever -/
theorem further {r : Rc} (h : Ok r) (hv : 0 ≤ vr r) {n d : Int} (hn : 40 ≤ n) (hd : 0 ≤ d) :
    ∀ k t ms e, ms.length = r.length → 7 ≤ phi r (t, ms) → (Ends (nxt false r n) n k (t, ms) e ↔ Ends (nxt false r (n + d)) (n + d) k (t + d, ms) e) := by
  intro k
  induction k with
  | zero =>
    intro t ms e hl hp
    have := phi_bd r (t, ms)
    simp only at this
    simp only [ends_zero]
    constructor <;> (intro h; rcases h with ⟨a, b⟩ | ⟨a, b⟩) <;> first | exact .inl ⟨by omega, b⟩ | omega
  | succ k ih =>
    intro t ms e hl hp
    have hb := phi_bd r (t, ms)
    simp only at hb
    simp only [ends_succ]
    have e1 : nxt false r (n + d) (t + d, ms) = ((nxt false r n (t, ms)).1 + d, (nxt false r n (t, ms)).2) := nxt_sh h ms d hd (by omega)
    rw [e1]
    by_cases h0 : t < n
    · have hp' : 7 ≤ phi r (nxt false r n (t, ms)) := by
        by_cases h6 : t ≤ n - 7
        · have := (phi_mid (s := (t, ms)) h hl (by simp only; omega) (n := n) h6).2 hv
          omega
        · have := nxt_bd (al := false) h n (t, ms)
          have := phi_bd r (nxt false r n (t, ms))
          simp only at *
          omega
      rw [ih (nxt false r n (t, ms)).1 (nxt false r n (t, ms)).2 e (by rw [nxt_len]; exact hl) hp']
      constructor <;> (rintro ⟨a, b, c⟩; exact ⟨by omega, by omega, c⟩)
    · constructor <;> (rintro ⟨a, b, c⟩; omega)
/-- a period in the middle -/
theorem period {r : Rc} (h : Ok r) {N t : Int} {ms : List Bool} (hl : ms.length = r.length) (h1 : 9 ≤ t) (h2 : t ≤ N - 12) (k : Nat) (e : En) :
    Ends (nxt false r N) N (k + per r) (t, ms) e ↔ Ends (nxt false r N) N k (t + vr r, ms) e := by
  have hf : ∀ u : Int, 6 ≤ u → u ≤ N - 7 → ∀ ms, nxt false r N (u, ms) = match mid r with
      | none => (u + 1, ms)
      | some (i, c) => (u + 1 + (if c.e && !(ms.getD i false) then 0 else c.j), if c.e then ms.set i (!(ms.getD i false)) else ms) := by
    intro u a b ms
    show nxt false r N (u, ms) = _
    unfold nxt
    simp only [find_mid h a b, Bool.false_or]
  unfold per vr
  have f1 := hf t (by omega) (by omega) ms
  cases em : mid r with
  | none =>
    rw [em] at f1
    simp only [ends_succ, f1]
    constructor
    · rintro ⟨a, b, c⟩; exact c
    · intro c; exact ⟨by omega, by omega, c⟩
  | some ic =>
    obtain ⟨i, c⟩ := ic
    obtain ⟨hi, ⟨_, _, a, b, _⟩, _⟩ := mid_ok h em
    have hi' : i < ms.length := by omega
    rw [em] at f1
    simp only at f1 ⊢
    cases hc : c.e
    · simp only [hc, Bool.false_and, Bool.false_eq_true, if_false] at f1
      simp only [Bool.false_eq_true, if_false, ends_succ, f1]
      have : t + 1 + c.j = t + (1 + c.j) := by omega
      rw [this]
      constructor
      · rintro ⟨a, b, c⟩; exact c
      · intro c; exact ⟨by omega, by omega, c⟩
    · simp only [hc, Bool.true_and, if_true] at f1
      simp only [if_true, ends_succ, f1]
      cases hm : ms.getD i false
      · have e1 : (ms.set i true).getD i false = true := getD_set_self hi' true false
        have e2 : (ms.set i true).set i false = ms := by
          rw [List.set_set]
          have : ms[i] = false := by simpa [List.getD, hi'] using hm
          rw [← this]; exact List.set_getElem_self hi'
        simp only [Bool.not_false, if_true]
        have f2 := hf (t + 1 + 0) (by omega) (by omega) (ms.set i true)
        rw [em] at f2
        simp only [hc, Bool.true_and, if_true, e1, Bool.not_true, Bool.false_eq_true, if_false, e2] at f2
        rw [f2]
        have : t + 1 + 0 + 1 + c.j = t + (2 + c.j) := by omega
        rw [this]
        constructor
        · rintro ⟨a, b, c, d, e⟩; exact e
        · intro c; exact ⟨by omega, by omega, by omega, by omega, c⟩
      · have e1 : (ms.set i false).getD i false = false := getD_set_self hi' false false
        have e2 : (ms.set i false).set i true = ms := by
          rw [List.set_set]
          have : ms[i] = true := by simpa [List.getD, hi'] using hm
          rw [← this]; exact List.set_getElem_self hi'
        simp only [Bool.not_true, Bool.false_eq_true, if_false]
        have f2 := hf (t + 1 + c.j) (by omega) (by omega) (ms.set i false)
        rw [em] at f2
        simp only [hc, Bool.true_and, if_true, e1, Bool.not_false, e2] at f2
        rw [f2]
        have : t + 1 + c.j + 1 + 0 = t + (2 + c.j) := by omega
        rw [this]
        constructor
        · rintro ⟨a, b, c, d, e⟩; exact e
        · intro c; exact ⟨by omega, by omega, by omega, by omega, c⟩
end G.M
/-! Mt2: runs in n turns and in n + q * many turns. -/
namespace G.M
theorem period' {r : Rc} (h : Ok r) {N t : Int} {ms : List Bool} (hl : ms.length = r.length) (h1 : 9 ≤ t) (h2 : t ≤ N - 12) {k : Nat} {e : En}
    (H : Ends (nxt false r N) N k (t, ms) e) : ∃ k', Ends (nxt false r N) N k' (t + vr r, ms) e := by
  have hp : per r = 1 ∨ per r = 2 := by
    unfold per; split
    · exact .inl rfl
    · split
      · exact .inr rfl
      · exact .inl rfl
  have b := nxt_bd (al := false) h N (t, ms)
  simp only at b
  match k, H with
  | 0, H => simp only [ends_zero] at H; omega
  | 1, H =>
    rcases hp with hp | hp
    · refine ⟨0, (period h hl h1 h2 0 e).1 ?_⟩
      rw [hp]; exact H
    · simp only [ends_zero, ends_succ] at H
      omega
  | k + 2, H =>
    rcases hp with hp | hp
    · refine ⟨k + 1, (period h hl h1 h2 (k + 1) e).1 ?_⟩
      rw [hp]; exact H
    · refine ⟨k, (period h hl h1 h2 k e).1 ?_⟩
      rw [hp]; exact H
theorem many_pos {r : Rc} (hv : 0 < vr r) : many r = vr r := by
  rw [many_eq]; split <;> omega
theorem many_neg {r : Rc} (hv : vr r < 0) : many r = -vr r := by
  rw [many_eq]; split <;> omega
theorem sm (q : Nat) (P : Int) : ((q + 1 : Nat) : Int) * P = q * P + P := by
  rw [Int.natCast_add, Int.add_mul]; omega
/-- periods one behind the other, inwards -/
theorem chain_up {r : Rc} (h : Ok r) (hv : 0 < vr r) {N : Int} {ms : List Bool} (hl : ms.length = r.length) {k : Nat} {e : En} :
    ∀ (q : Nat) (u : Int), 9 ≤ u → u + q * many r ≤ N - 12 + many r → Ends (nxt false r N) N k (u + q * many r, ms) e → Ends (nxt false r N) N (k + q * per r) (u, ms) e := by
  intro q
  have hm := many_pos hv
  induction q with
  | zero => intro u _ _ H; simpa using H
  | succ q ih =>
    intro u h9 hN H
    rw [sm] at hN H
    have hq : 0 ≤ (q : Int) * many r := Int.mul_nonneg (by omega) (by omega)
    have := ih (u + many r) (by omega) (by omega) (by rw [show u + many r + q * many r = u + (q * many r + many r) by omega]; exact H)
    rw [hm] at this
    have := (period h hl h9 (by omega) (k + q * per r) e).2 this
    rw [Nat.succ_mul, ← Nat.add_assoc]; exact this
theorem chain_up' {r : Rc} (h : Ok r) (hv : 0 < vr r) {N : Int} {ms : List Bool} (hl : ms.length = r.length) {e : En} :
    ∀ (q : Nat) (k : Nat) (u : Int), 9 ≤ u → u + q * many r ≤ N - 12 + many r → Ends (nxt false r N) N k (u, ms) e → ∃ k', Ends (nxt false r N) N k' (u + q * many r, ms) e := by
  intro q
  have hm := many_pos hv
  induction q with
  | zero => intro k u _ _ H; exact ⟨k, by simpa using H⟩
  | succ q ih =>
    intro k u h9 hN H
    rw [sm] at hN ⊢
    have hq : 0 ≤ (q : Int) * many r := Int.mul_nonneg (by omega) (by omega)
    obtain ⟨k', H'⟩ := period' h hl h9 (by omega) H
    rw [← hm] at H'
    have := ih k' (u + many r) (by omega) (by omega) H'
    rw [show u + (q * many r + many r) = u + many r + q * many r by omega]; exact this
/-- and outwards -/
theorem chain_dn {r : Rc} (h : Ok r) (hv : vr r < 0) {N : Int} {ms : List Bool} (hl : ms.length = r.length) {k : Nat} {e : En} :
    ∀ (q : Nat) (u : Int), 9 ≤ u → u + q * many r ≤ N - 12 → Ends (nxt false r N) N k (u, ms) e → Ends (nxt false r N) N (k + q * per r) (u + q * many r, ms) e := by
  intro q
  have hm := many_neg hv
  induction q with
  | zero => intro u _ _ H; simpa using H
  | succ q ih =>
    intro u h9 hN H
    rw [sm] at hN ⊢
    have hq : 0 ≤ (q : Int) * many r := Int.mul_nonneg (by omega) (by omega)
    have := ih u h9 (by omega) H
    rw [Nat.succ_mul, ← Nat.add_assoc]
    refine (period h hl (by omega) (by omega) (k + q * per r) e).2 ?_
    rw [show u + (q * many r + many r) + vr r = u + q * many r by omega]; exact this
theorem chain_dn' {r : Rc} (h : Ok r) (hv : vr r < 0) {N : Int} {ms : List Bool} (hl : ms.length = r.length) {e : En} :
    ∀ (q : Nat) (k : Nat) (u : Int), 9 ≤ u → u + q * many r ≤ N - 12 → Ends (nxt false r N) N k (u + q * many r, ms) e → ∃ k', Ends (nxt false r N) N k' (u, ms) e := by
  intro q
  have hm := many_neg hv
  induction q with
  | zero => intro k u _ _ H; exact ⟨k, by simpa using H⟩
  | succ q ih =>
    intro k u h9 hN H
    rw [sm] at hN H
    have hq : 0 ≤ (q : Int) * many r := Int.mul_nonneg (by omega) (by omega)
    obtain ⟨k', H'⟩ := period' h hl (by omega) (by omega) H
    rw [show u + (q * many r + many r) + vr r = u + q * many r by omega] at H'
    exact ih k' u h9 (by omega) H'
theorem mk_len (r : Rc) (n : Int) (s : St) (h : s.2.length = r.length) : (nxt false r n s).2.length = r.length := by rw [nxt_len]; exact h

theorem left {r : Rc} (h : Ok r) {n K : Int} (hn : 40 ≤ n) (h1 : 16 ≤ K) (h2 : K ≤ 22) :
    ∀ (k : Nat) (s : St) (e : En), s.2.length = r.length → s.1 < K → Ends (nxt false r n) n k s e → ∃ x, ∀ q : Nat, Ends (nxt false r (n + q * many r)) (n + q * many r) (k + q * x) s e := by
  have hmp := many_le h
  have hd : ∀ q : Nat, 0 ≤ (q : Int) * many r := fun q => Int.mul_nonneg (by omega) (by omega)
  rcases Int.lt_or_le 0 (vr r) with hv | hv
  · have hm := many_pos hv
    intro k
    induction k with
    | zero =>
      intro s e hl ht H
      simp only [ends_zero] at H
      refine ⟨0, fun q => ?_⟩
      simp only [Nat.mul_zero, Nat.add_zero, ends_zero]
      have := hd q
      rcases H with ⟨x, y⟩ | ⟨x, y⟩
      · omega
      · exact .inr ⟨by omega, y⟩
    | succ k ih =>
      intro s e hl ht H
      rw [ends_succ] at H
      obtain ⟨a, b, H⟩ := H
      have hb := nxt_bd (al := false) h n s
      have e1 : ∀ q : Nat, nxt false r (n + q * many r) s = nxt false r n s := fun q => nxt_id h s.2 _ (hd q) (by omega)
      by_cases hK : (nxt false r n s).1 < K
      · obtain ⟨x, hx⟩ := ih (nxt false r n s) e (mk_len r n s hl) hK H
        refine ⟨x, fun q => ?_⟩
        rw [Nat.add_right_comm, ends_succ, e1 q]
        exact ⟨a, by have := hd q; omega, hx q⟩
      · refine ⟨per r, fun q => ?_⟩
        rw [Nat.add_right_comm, ends_succ, e1 q]
        refine ⟨a, by have := hd q; omega, ?_⟩
        have hp := phi_bd r (nxt false r n s)
        have := (further h (by omega) hn (hd q) k (nxt false r n s).1 (nxt false r n s).2 e (mk_len r n s hl) (by show 7 ≤ phi r (nxt false r n s); omega)).1 H
        exact chain_up h hv (mk_len r n s hl) q (nxt false r n s).1 (by omega) (by omega) this
  · intro k s e hl ht H
    refine ⟨0, fun q => ?_⟩
    rw [Nat.mul_zero, Nat.add_zero]
    have hp := phi_bd r s
    exact (same h hv hn (hd q) k s e hl (by omega)).1 H
theorem left' {r : Rc} (h : Ok r) {n K : Int} (hn : 40 ≤ n) (h1 : 16 ≤ K) (h2 : K ≤ 22) (q : Nat) :
    ∀ (k : Nat) (s : St) (e : En), s.2.length = r.length → s.1 < K → Ends (nxt false r (n + q * many r)) (n + q * many r) k s e → ∃ k', Ends (nxt false r n) n k' s e := by
  have hmp := many_le h
  have hd : 0 ≤ (q : Int) * many r := Int.mul_nonneg (by omega) (by omega)
  rcases Int.lt_or_le 0 (vr r) with hv | hv
  · have hm := many_pos hv
    intro k
    induction k with
    | zero =>
      intro s e hl ht H
      simp only [ends_zero] at H
      refine ⟨0, ?_⟩
      simp only [ends_zero]
      rcases H with ⟨x, y⟩ | ⟨x, y⟩
      · omega
      · exact .inr ⟨by omega, y⟩
    | succ k ih =>
      intro s e hl ht H
      rw [ends_succ] at H
      obtain ⟨a, b, H⟩ := H
      have hb := nxt_bd (al := false) h n s
      have e1 : nxt false r (n + q * many r) s = nxt false r n s := nxt_id h s.2 _ hd (by omega)
      rw [e1] at H
      by_cases hK : (nxt false r n s).1 < K
      · obtain ⟨x, hx⟩ := ih (nxt false r n s) e (mk_len r n s hl) hK H
        exact ⟨x + 1, a, by omega, hx⟩
      · have hp := phi_bd r (nxt false r n s)
        obtain ⟨k', H'⟩ := chain_up' h hv (mk_len r n s hl) q k (nxt false r n s).1 (by omega) (by omega) H
        have := (further h (by omega) hn hd k' (nxt false r n s).1 (nxt false r n s).2 e (mk_len r n s hl) (by show 7 ≤ phi r (nxt false r n s); omega)).2 H'
        exact ⟨k' + 1, a, by omega, this⟩
  · intro k s e hl ht H
    have hp := phi_bd r s
    exact ⟨k, (same h hv hn hd k s e hl (by omega)).2 H⟩
theorem right {r : Rc} (h : Ok r) {n K : Int} (hn : 40 ≤ n) (h1 : 16 ≤ K) (h2 : K ≤ 22) :
    ∀ (k : Nat) (t : Int) (ms : List Bool) (e : En), ms.length = r.length → K ≤ t → Ends (nxt false r n) n k (t, ms) e → ∃ x, ∀ q : Nat, Ends (nxt false r (n + q * many r)) (n + q * many r) (k + q * x) (t + q * many r, ms) e := by
  have hmp := many_le h
  have hd : ∀ q : Nat, 0 ≤ (q : Int) * many r := fun q => Int.mul_nonneg (by omega) (by omega)
  rcases Int.lt_or_le (vr r) 0 with hv | hv
  · have hm := many_neg hv
    intro k
    induction k with
    | zero =>
      intro t ms e hl ht H
      simp only [ends_zero] at H
      refine ⟨0, fun q => ?_⟩
      simp only [Nat.mul_zero, Nat.add_zero, ends_zero]
      have := hd q
      rcases H with ⟨x, y⟩ | ⟨x, y⟩
      · exact .inl ⟨by omega, y⟩
      · omega
    | succ k ih =>
      intro t ms e hl ht H
      rw [ends_succ] at H
      obtain ⟨a, b, H⟩ := H
      simp only at a b
      have hb := nxt_bd (al := false) h n (t, ms)
      simp only at hb
      have e1 : ∀ q : Nat, nxt false r (n + q * many r) (t + q * many r, ms) = ((nxt false r n (t, ms)).1 + q * many r, (nxt false r n (t, ms)).2) := fun q => nxt_sh h ms _ (hd q) (by omega)
      by_cases hK : K ≤ (nxt false r n (t, ms)).1
      · obtain ⟨x, hx⟩ := ih (nxt false r n (t, ms)).1 (nxt false r n (t, ms)).2 e (mk_len r n (t, ms) hl) hK H
        refine ⟨x, fun q => ?_⟩
        rw [Nat.add_right_comm, ends_succ, e1 q]
        exact ⟨by have := hd q; simp only; omega, by simp only; omega, hx q⟩
      · refine ⟨per r, fun q => ?_⟩
        rw [Nat.add_right_comm, ends_succ, e1 q]
        refine ⟨by have := hd q; simp only; omega, by simp only; omega, ?_⟩
        have hp := phi_bd r (nxt false r n (t, ms))
        have := (same h (by omega) hn (hd q) k (nxt false r n (t, ms)) e (mk_len r n (t, ms) hl) (by omega)).1 H
        exact chain_dn h hv (mk_len r n (t, ms) hl) q (nxt false r n (t, ms)).1 (by omega) (by omega) this
  · intro k t ms e hl ht H
    refine ⟨0, fun q => ?_⟩
    rw [Nat.mul_zero, Nat.add_zero]
    have hp := phi_bd r (t, ms)
    simp only at hp
    exact (further h hv hn (hd q) k t ms e hl (by omega)).1 H
theorem right' {r : Rc} (h : Ok r) {n K : Int} (hn : 40 ≤ n) (h1 : 16 ≤ K) (h2 : K ≤ 22) (q : Nat) :
    ∀ (k : Nat) (t : Int) (ms : List Bool) (e : En), ms.length = r.length → K ≤ t → Ends (nxt false r (n + q * many r)) (n + q * many r) k (t + q * many r, ms) e → ∃ k', Ends (nxt false r n) n k' (t, ms) e := by
  have hmp := many_le h
  have hd : 0 ≤ (q : Int) * many r := Int.mul_nonneg (by omega) (by omega)
  rcases Int.lt_or_le (vr r) 0 with hv | hv
  · have hm := many_neg hv
    intro k
    induction k with
    | zero =>
      intro t ms e hl ht H
      simp only [ends_zero] at H
      refine ⟨0, ?_⟩
      simp only [ends_zero]
      rcases H with ⟨x, y⟩ | ⟨x, y⟩
      · exact .inl ⟨by omega, y⟩
      · omega
    | succ k ih =>
      intro t ms e hl ht H
      rw [ends_succ] at H
      obtain ⟨a, b, H⟩ := H
      simp only at a b
      have hb := nxt_bd (al := false) h n (t, ms)
      simp only at hb
      have e1 : nxt false r (n + q * many r) (t + q * many r, ms) = ((nxt false r n (t, ms)).1 + q * many r, (nxt false r n (t, ms)).2) := nxt_sh h ms _ hd (by omega)
      rw [e1] at H
      by_cases hK : K ≤ (nxt false r n (t, ms)).1
      · obtain ⟨x, hx⟩ := ih (nxt false r n (t, ms)).1 (nxt false r n (t, ms)).2 e (mk_len r n (t, ms) hl) hK H
        exact ⟨x + 1, by simp only; omega, by simp only; omega, hx⟩
      · have hp := phi_bd r (nxt false r n (t, ms))
        obtain ⟨k', H'⟩ := chain_dn' h hv (mk_len r n (t, ms) hl) q k (nxt false r n (t, ms)).1 (by omega) (by omega) H
        have := (same h (by omega) hn hd k' (nxt false r n (t, ms)) e (mk_len r n (t, ms) hl) (by omega)).2 H'
        exact ⟨k' + 1, by simp only; omega, by simp only; omega, this⟩
  · intro k t ms e hl ht H
    have hp := phi_bd r (t, ms)
    simp only at hp
    exact ⟨k, (further h hv hn hd k t ms e hl (by omega)).2 H⟩
end G.M
/-! Mt3: a run with what was seen; it comes to an end; marks of all scratches or of some. -/
namespace G.M
/-- (end, states met, the index of the first that comes again) -/
def runH (f : St → St) (n : Int) : Nat → St → List St → Option (En × List St × Nat)
  | 0, _, _ => none
  | k + 1, s, h => if 0 ≤ s.1 ∧ s.1 < n then (if s ∈ h then some (.caught, h, h.idxOf s) else runH f n k (f s) (h ++ [s]))
    else some (if n ≤ s.1 then .out else .off, h, 0)

theorem nodup_le : ∀ (N : Nat) (l : List Nat), l.Nodup → (∀ x ∈ l, x < N) → l.length ≤ N := by
  intro N
  induction N with
  | zero =>
    intro l _ h
    cases l with
    | nil => simp
    | cons a l => exact absurd (h a (by simp)) (by omega)
  | succ N ih =>
    intro l hn h
    by_cases hN : N ∈ l
    · have := ih (l.erase N) (hn.erase N) (fun x hx => by
        have h1 := h x (List.mem_of_mem_erase hx)
        have h2 := (hn.mem_erase_iff).1 hx
        omega)
      rw [List.length_erase_of_mem hN] at this
      omega
    · have := ih l hn (fun x hx => by
        have h1 := h x hx
        have : x ≠ N := fun e => hN (e ▸ hx)
        omega)
      omega
def bits : List Bool → Nat
  | [] => 0
  | b :: l => 2 * bits l + (if b then 1 else 0)
theorem bits_lt : ∀ l : List Bool, bits l < 2 ^ l.length := by
  intro l
  induction l with
  | nil => simp [bits]
  | cons b l ih => simp only [bits, List.length_cons, Nat.pow_succ]; split <;> omega
theorem bits_inj : ∀ l m : List Bool, l.length = m.length → bits l = bits m → l = m := by
  intro l
  induction l with
  | nil => intro m h _; cases m with
    | nil => rfl
    | cons _ _ => simp at h
  | cons b l ih => intro m h e; cases m with
    | nil => simp at h
    | cons c m =>
      simp only [bits] at e
      simp only [List.length_cons, Nat.add_right_cancel_iff] at h
      cases b <;> cases c <;> simp only [Bool.false_eq_true, if_true, if_false] at e
      · rw [ih m h (by omega)]
      · omega
      · omega
      · rw [ih m h (by omega)]
def code (L : Nat) (s : St) : Nat := s.1.toNat * 2 ^ L + bits s.2
def Good (L : Nat) (n : Int) (s : St) : Prop := 0 ≤ s.1 ∧ s.1 < n ∧ s.2.length = L
theorem code_inj {L n s u} (hs : Good L n s) (hu : Good L n u) (h : code L s = code L u) : s = u := by
  obtain ⟨a, b, c⟩ := hs
  obtain ⟨a', b', c'⟩ := hu
  have h1 := bits_lt s.2
  have h2 := bits_lt u.2
  rw [c] at h1; rw [c'] at h2
  unfold code at h
  have e1 : (s.1.toNat * 2 ^ L + bits s.2) / 2 ^ L = s.1.toNat := by
    rw [Nat.mul_comm, Nat.mul_add_div (Nat.two_pow_pos L), Nat.div_eq_of_lt h1, Nat.add_zero]
  have e2 : (u.1.toNat * 2 ^ L + bits u.2) / 2 ^ L = u.1.toNat := by
    rw [Nat.mul_comm, Nat.mul_add_div (Nat.two_pow_pos L), Nat.div_eq_of_lt h2, Nat.add_zero]
  have e3 : s.1.toNat = u.1.toNat := by rw [← e1, ← e2, h]
  rw [e3] at h
  have e4 := bits_inj s.2 u.2 (by omega) (by omega)
  have e5 : s.1 = u.1 := by omega
  exact Prod.ext e5 e4
theorem code_lt {L n s} (hs : Good L n s) : code L s < n.toNat * 2 ^ L := by
  obtain ⟨a, b, c⟩ := hs
  have h1 := bits_lt s.2
  rw [c] at h1
  unfold code
  have : (s.1.toNat + 1) * 2 ^ L ≤ n.toNat * 2 ^ L := Nat.mul_le_mul_right _ (by omega)
  rw [Nat.succ_mul] at this
  omega
theorem good_le {L n} {h : List St} (hn : h.Nodup) (hg : ∀ s ∈ h, Good L n s) : h.length ≤ n.toNat * 2 ^ L := by
  have : (h.map (code L)).Nodup := by
    rw [List.nodup_iff_pairwise_ne] at hn ⊢
    rw [List.pairwise_map]
    refine List.Pairwise.imp_of_mem ?_ hn
    intro a b ha hb hab e
    exact hab (code_inj (hg a ha) (hg b hb) e)
  have := nodup_le (n.toNat * 2 ^ L) (h.map (code L)) this (fun x hx => by
    obtain ⟨s, hs, rfl⟩ := List.mem_map.1 hx
    exact code_lt (hg s hs))
  simpa using this
theorem runH_some {f : St → St} {n : Int} {L : Nat} (hf : ∀ s, (f s).2.length = s.2.length) :
    ∀ k s h, s.2.length = L → h.Nodup → (∀ x ∈ h, Good L n x) → n.toNat * 2 ^ L < k + h.length → ∃ v, runH f n k s h = some v := by
  intro k
  induction k with
  | zero =>
    intro s h hl hn hg hk
    have := good_le hn hg
    omega
  | succ k ih =>
    intro s h hl hn hg hk
    simp only [runH]
    split
    · rename_i ho
      split
      · exact ⟨_, rfl⟩
      · rename_i hm
        refine ih (f s) (h ++ [s]) (by rw [hf]; exact hl) ?_ ?_ (by simp only [List.length_append, List.length_singleton]; omega)
        · rw [List.nodup_append]
          refine ⟨hn, by simp, ?_⟩
          intro a ha b hb e
          simp only [List.mem_singleton] at hb
          exact hm (hb ▸ e ▸ ha)
        · intro x hx
          rw [List.mem_append] at hx
          rcases hx with hx | hx
          · exact hg x hx
          · simp only [List.mem_singleton] at hx
            exact hx ▸ ⟨ho.1, ho.2, hl⟩
    · exact ⟨_, rfl⟩
/-- j rounds from x bring to s, on the record all the way -/
def Way (f : St → St) (n : Int) : Nat → St → St → Prop
  | 0, x, s => x = s
  | j + 1, x, s => 0 ≤ x.1 ∧ x.1 < n ∧ Way f n j (f x) s
theorem way_snoc {f n} : ∀ {j x s}, Way f n j x s → 0 ≤ s.1 → s.1 < n → Way f n (j + 1) x (f s) := by
  intro j
  induction j with
  | zero => intro x s h a b; cases h; exact ⟨a, b, rfl⟩
  | succ j ih => intro x s h a b; exact ⟨h.1, h.2.1, ih h.2.2 a b⟩
theorem way_ends {f n} : ∀ {j x s k e}, Way f n j x s → (Ends f n (k + j) x e ↔ Ends f n k s e) := by
  intro j
  induction j with
  | zero => intro x s k e h; cases h; rfl
  | succ j ih =>
    intro x s k e h
    rw [← Nat.add_assoc, ends_succ, ih h.2.2]
    exact ⟨fun H => H.2.2, fun H => ⟨h.1, h.2.1, H⟩⟩
theorem ends_ge {f n} (hn : 0 ≤ n) : ∀ {j x s k e}, Way f n j x s → Ends f n k x e → ∃ k', k = k' + j ∧ Ends f n k' s e := by
  intro j
  induction j with
  | zero => intro x s k e h H; cases h; exact ⟨k, rfl, H⟩
  | succ j ih =>
    intro x s k e h H
    cases k with
    | zero => obtain ⟨a, b, _⟩ := h; simp only [ends_zero] at H; omega
    | succ k =>
      obtain ⟨k', e1, e2⟩ := ih h.2.2 H.2.2
      exact ⟨k', by omega, e2⟩
/-- what was met so far: each comes to s -/
def Met (f : St → St) (n : Int) (h : List St) (s : St) : Prop := ∀ x ∈ h, ∃ j, Way f n (j + 1) x s
theorem met_snoc {f n h s} (H : Met f n h s) (a : 0 ≤ s.1) (b : s.1 < n) : Met f n (h ++ [s]) (f s) := by
  intro x hx
  rw [List.mem_append] at hx
  rcases hx with hx | hx
  · obtain ⟨j, hj⟩ := H x hx
    exact ⟨j + 1, way_snoc hj a b⟩
  · simp only [List.mem_singleton] at hx
    subst hx
    exact ⟨0, a, b, rfl⟩
theorem met_no {f n h s} (hn : 0 ≤ n) (H : Met f n h s) (hs : s ∈ h) : ∀ k e, ¬ Ends f n k s e := by
  intro k e hE
  obtain ⟨j, hj⟩ := H s hs
  obtain ⟨k', e1, e2⟩ := ends_ge hn hj hE
  have := ends_det hn hE e2
  omega
theorem runH_spec {f : St → St} {n : Int} (hn : 0 ≤ n) : ∀ k s h v, Met f n h s → runH f n k s h = some v →
    (v.1 = .caught ∧ ∀ k e, ¬ Ends f n k s e) ∨ (v.1 ≠ .caught ∧ h.length ≤ v.2.1.length ∧ Ends f n (v.2.1.length - h.length) s v.1) := by
  intro k
  induction k with
  | zero => intro s h v _ h'; simp [runH] at h'
  | succ k ih =>
    intro s h v hm hr
    simp only [runH] at hr
    split at hr
    · rename_i ho
      split at hr
      · rename_i hs
        cases hr
        exact .inl ⟨rfl, met_no hn hm hs⟩
      · rcases ih (f s) (h ++ [s]) v (met_snoc hm ho.1 ho.2) hr with ⟨a, b⟩ | ⟨a, b, c⟩
        · left
          refine ⟨a, fun k e H => ?_⟩
          cases k with
          | zero => simp only [ends_zero] at H; omega
          | succ k => exact b k e H.2.2
        · right
          simp only [List.length_append, List.length_singleton] at b c
          refine ⟨a, by omega, ?_⟩
          rw [show v.2.1.length - h.length = (v.2.1.length - (h.length + 1)) + 1 by omega]
          exact ⟨ho.1, ho.2, c⟩
    · rename_i ho
      cases hr
      right
      simp only [Nat.sub_self, ends_zero]
      refine ⟨by split <;> simp, Nat.le_refl _, ?_⟩
      by_cases h1 : n ≤ s.1
      · simp [h1]
      · simp only [h1, if_false, and_true]; right; omega
def fresh (r : Rc) : List Bool := List.replicate r.length false
def cr (al : Bool) (r : Rc) (n t : Int) : En × List St × Nat := (runH (nxt al r n) n 1000000 (t, fresh r) []).getD (.caught, [], 0)
theorem cr_eq {al r n t} (h3 : r.length ≤ 3) (hn : n ≤ 1000) : runH (nxt al r n) n 1000000 (t, fresh r) [] = some (cr al r n t) := by
  obtain ⟨v, hv⟩ := runH_some (f := nxt al r n) (n := n) (L := r.length) (nxt_len r n) 1000000 (t, fresh r) [] (by simp [fresh]) (by simp) (by simp) (by
    have : 2 ^ r.length ≤ 2 ^ 3 := Nat.pow_le_pow_right (by omega) h3
    have : n.toNat * 2 ^ r.length ≤ 1000 * 2 ^ 3 := Nat.mul_le_mul (by omega) this
    simp only [List.length_nil]; omega)
  unfold cr
  rw [hv]; rfl
def en (r : Rc) (n t : Int) : En := (cr false r n t).1
def ln (r : Rc) (n t : Int) : Nat := (cr false r n t).2.1.length
theorem cr_spec {al r n t} (h3 : r.length ≤ 3) (h0 : 0 ≤ n) (hn : n ≤ 1000) :
    ((cr al r n t).1 = .caught ∧ ∀ k e, ¬ Ends (nxt al r n) n k (t, fresh r) e) ∨ ((cr al r n t).1 ≠ .caught ∧ Ends (nxt al r n) n (cr al r n t).2.1.length (t, fresh r) (cr al r n t).1) := by
  rcases runH_spec h0 1000000 (t, fresh r) [] (cr al r n t) (by intro x hx; simp at hx) (cr_eq h3 hn) with h | ⟨a, _, c⟩
  · exact .inl h
  · exact .inr ⟨a, by simpa using c⟩
theorem ends_not {f n} : ∀ {k s e}, Ends f n k s e → e ≠ .caught := by
  intro k
  induction k with
  | zero => intro s e h; simp only [ends_zero] at h; rcases h with ⟨_, rfl⟩ | ⟨_, rfl⟩ <;> simp
  | succ k ih => intro s e h; exact ih h.2.2
theorem cr_of {al r n t k e} (h3 : r.length ≤ 3) (h0 : 0 ≤ n) (hn : n ≤ 1000) (h : Ends (nxt al r n) n k (t, fresh r) e) : (cr al r n t).1 = e ∧ (cr al r n t).2.1.length = k := by
  rcases cr_spec (al := al) (t := t) h3 h0 hn with ⟨_, b⟩ | ⟨_, b⟩
  · exact absurd h (b k e)
  · have := ends_det h0 h b
    exact ⟨this.2.symm, this.1.symm⟩
/-- marks that agree where they matter -/
def Agr (r : Rc) (ms ms' : List Bool) : Prop := ms.length = r.length ∧ ms'.length = r.length ∧ ∀ (i : Nat) (c : Sc), r[i]? = some c → c.e = true → ms.getD i false = ms'.getD i false
theorem getD_set_ne {l : List Bool} {i j : Nat} (h : i ≠ j) (b d : Bool) : (l.set i b).getD j d = l.getD j d := by
  simp [List.getD, List.getElem?_set, h]
theorem agr_nxt {r : Rc} {n t : Int} {ms ms'} (h : Agr r ms ms') : (nxt true r n (t, ms)).1 = (nxt false r n (t, ms')).1 ∧ Agr r (nxt true r n (t, ms)).2 (nxt false r n (t, ms')).2 := by
  obtain ⟨a, b, c⟩ := h
  have l1 := nxt_len (al := true) r n (t, ms)
  have l2 := nxt_len (al := false) r n (t, ms')
  refine ⟨?_, by rw [l1]; exact a, by rw [l2]; exact b, ?_⟩
  · unfold nxt
    cases hf : find n t 0 r with
    | none => simp only [hf]
    | some ic =>
      obtain ⟨i, d⟩ := ic
      obtain ⟨_, hi, hd, _⟩ := find_some hf
      simp only [Nat.sub_zero] at hd
      simp only [hf]
      rcases (by cases d.e <;> simp : d.e = true ∨ d.e = false) with hc | hc
      · rw [c i d hd hc]
      · simp only [hc, Bool.false_and]
  · unfold nxt
    cases hf : find n t 0 r with
    | none => simp only [hf]; exact c
    | some ic =>
      obtain ⟨i, d⟩ := ic
      obtain ⟨_, hi, hd, _⟩ := find_some hf
      simp only [Nat.sub_zero] at hd
      simp only [hf, Bool.true_or, Bool.false_or, if_true]
      intro j cj hj he
      by_cases hij : i = j
      · subst hij
        rw [hd] at hj
        cases hj
        rw [getD_set_self (by omega), he, if_pos rfl, getD_set_self (by omega), c i d hd he]
      · rw [getD_set_ne hij]
        split
        · rw [getD_set_ne hij]; exact c j cj hj he
        · exact c j cj hj he
theorem agr_ends {r : Rc} {n : Int} : ∀ k t ms ms' e, Agr r ms ms' → (Ends (nxt true r n) n k (t, ms) e ↔ Ends (nxt false r n) n k (t, ms') e) := by
  intro k
  induction k with
  | zero => intro t ms ms' e _; rfl
  | succ k ih =>
    intro t ms ms' e h
    have g := agr_nxt (n := n) (t := t) h
    rw [ends_succ, ends_succ]
    have := ih (nxt true r n (t, ms)).1 _ _ e g.2
    rw [show ((nxt true r n (t, ms)).1, (nxt true r n (t, ms)).2) = nxt true r n (t, ms) from rfl] at this
    rw [this, g.1]
theorem agr_fresh (r : Rc) : Agr r (fresh r) (fresh r) := ⟨by simp [fresh], by simp [fresh], fun _ _ _ _ => rfl⟩
/-- the law's reading of a run and the program's -/
theorem cr_true {r n t} (h3 : r.length ≤ 3) (h0 : 0 ≤ n) (hn : n ≤ 1000) : (cr true r n t).1 = en r n t ∧ (en r n t ≠ .caught → (cr true r n t).2.1.length = ln r n t) := by
  unfold en ln
  rcases cr_spec (al := false) (t := t) h3 h0 hn with ⟨a, b⟩ | ⟨a, b⟩
  · refine ⟨?_, fun h => absurd a h⟩
    rcases cr_spec (al := true) (t := t) h3 h0 hn with ⟨a', b'⟩ | ⟨a', b'⟩
    · rw [a, a']
    · exact absurd ((agr_ends _ t _ _ _ (agr_fresh r)).1 b') (b _ _)
  · have := cr_of h3 h0 hn ((agr_ends _ t _ _ _ (agr_fresh r)).2 b)
    exact ⟨this.1, fun _ => this.2⟩

/-! ### in n and in n + q * many turns -/
theorem en_left {r : Rc} (h : Ok r) (h3 : r.length ≤ 3) {n t : Int} (hn : 40 ≤ n) (ht : t < 22) (q : Nat) (hq : n + q * many r ≤ 1000) : en r (n + q * many r) t = en r n t := by
  have hmp := many_le h
  have hd : 0 ≤ (q : Int) * many r := Int.mul_nonneg (by omega) (by omega)
  unfold en
  rcases cr_spec (al := false) (t := t) h3 (n := n) (by omega) (by omega) with ⟨a, b⟩ | ⟨a, b⟩
  · rcases cr_spec (al := false) (t := t) h3 (n := n + q * many r) (by omega) hq with ⟨a', b'⟩ | ⟨a', b'⟩
    · rw [a, a']
    · obtain ⟨k', H⟩ := left' h hn (by omega) (K := 22) (by omega) q _ (t, fresh r) _ (by simp [fresh]) ht b'
      exact absurd H (b _ _)
  · obtain ⟨x, H⟩ := left h hn (by omega) (K := 22) (by omega) _ (t, fresh r) _ (by simp [fresh]) ht b
    exact (cr_of h3 (by omega) hq (H q)).1
theorem ln_left {r : Rc} (h : Ok r) (h3 : r.length ≤ 3) {n t : Int} (hn : 40 ≤ n) (hn' : n ≤ 1000) (ht : t < 22) (hc : en r n t ≠ .caught) : ∃ x : Nat, ∀ q : Nat, n + q * many r ≤ 1000 → ln r (n + q * many r) t = ln r n t + q * x := by
  have hmp := many_le h
  unfold en at hc
  unfold ln
  rcases cr_spec (al := false) (t := t) h3 (n := n) (by omega) (by omega) with ⟨a, b⟩ | ⟨a, b⟩
  · exact absurd a hc
  · obtain ⟨x, H⟩ := left h hn (by omega) (K := 22) (by omega) _ (t, fresh r) _ (by simp [fresh]) ht b
    refine ⟨x, fun q hq => ?_⟩
    have hd : 0 ≤ (q : Int) * many r := Int.mul_nonneg (by omega) (by omega)
    exact (cr_of h3 (by omega) hq (H q)).2
theorem en_right {r : Rc} (h : Ok r) (h3 : r.length ≤ 3) {n t : Int} (hn : 40 ≤ n) (ht : 16 ≤ t) (q : Nat) (hq : n + q * many r ≤ 1000) : en r (n + q * many r) (t + q * many r) = en r n t := by
  have hmp := many_le h
  have hd : 0 ≤ (q : Int) * many r := Int.mul_nonneg (by omega) (by omega)
  unfold en
  rcases cr_spec (al := false) (t := t) h3 (n := n) (by omega) (by omega) with ⟨a, b⟩ | ⟨a, b⟩
  · rcases cr_spec (al := false) (t := t + q * many r) h3 (n := n + q * many r) (by omega) hq with ⟨a', b'⟩ | ⟨a', b'⟩
    · rw [a, a']
    · obtain ⟨k', H⟩ := right' h hn (by omega) (K := 16) (by omega) q _ t (fresh r) _ (by simp [fresh]) ht b'
      exact absurd H (b _ _)
  · obtain ⟨x, H⟩ := right h hn (by omega) (K := 16) (by omega) _ t (fresh r) _ (by simp [fresh]) ht b
    exact (cr_of h3 (by omega) hq (H q)).1
theorem ln_right {r : Rc} (h : Ok r) (h3 : r.length ≤ 3) {n t : Int} (hn : 40 ≤ n) (hn' : n ≤ 1000) (ht : 16 ≤ t) (hc : en r n t ≠ .caught) : ∃ x : Nat, ∀ q : Nat, n + q * many r ≤ 1000 → ln r (n + q * many r) (t + q * many r) = ln r n t + q * x := by
  have hmp := many_le h
  unfold en at hc
  unfold ln
  rcases cr_spec (al := false) (t := t) h3 (n := n) (by omega) (by omega) with ⟨a, b⟩ | ⟨a, b⟩
  · exact absurd a hc
  · obtain ⟨x, H⟩ := right h hn (by omega) (K := 16) (by omega) _ t (fresh r) _ (by simp [fresh]) ht b
    refine ⟨x, fun q hq => ?_⟩
    have hd : 0 ≤ (q : Int) * many r := Int.mul_nonneg (by omega) (by omega)
    exact (cr_of h3 (by omega) hq (H q)).2
/-- at a place -/
theorem raw_add {p : Pl} (hp : p.ok) {n : Int} (hn : 40 ≤ n) (d : Int) : (p.rim = true ∧ raw p (n + d) = raw p n ∧ raw p n < 22 ∧ 0 ≤ raw p n) ∨ (p.rim = false ∧ raw p (n + d) = raw p n + d ∧ 16 ≤ raw p n ∧ raw p n < n) := by
  obtain ⟨a, b⟩ := hp
  unfold raw
  cases p.rim
  · right; simp only [Bool.false_eq_true, if_false]; exact ⟨trivial, by omega, by omega, by omega⟩
  · left; simp only [if_true]; exact ⟨trivial, trivial, by omega, by omega⟩
theorem en_at {r : Rc} (h : Ok r) (h3 : r.length ≤ 3) {p : Pl} (hp : p.ok) {n : Int} (hn : 40 ≤ n) (q : Nat) (hq : n + q * many r ≤ 1000) : en r (n + q * many r) (raw p (n + q * many r)) = en r n (raw p n) := by
  rcases raw_add hp hn (q * many r) with ⟨_, a, b, _⟩ | ⟨_, a, b, _⟩ <;> rw [a]
  · exact en_left h h3 hn b q hq
  · exact en_right h h3 hn b q hq
theorem ln_at {r : Rc} (h : Ok r) (h3 : r.length ≤ 3) {p : Pl} (hp : p.ok) {n : Int} (hn : 40 ≤ n) (hn' : n ≤ 1000) (hc : en r n (raw p n) ≠ .caught) : ∃ x : Nat, ∀ q : Nat, n + q * many r ≤ 1000 → ln r (n + q * many r) (raw p (n + q * many r)) = ln r n (raw p n) + q * x := by
  cases hr : p.rim
  · have g : ∀ d, raw p (n + d) = raw p n + d ∧ 16 ≤ raw p n := fun d => by
      rcases raw_add hp hn d with ⟨a, _⟩ | ⟨_, a, b, _⟩
      · rw [hr] at a; cases a
      · exact ⟨a, b⟩
    obtain ⟨x, H⟩ := ln_right h h3 hn hn' (g 0).2 hc
    exact ⟨x, fun q hq => by rw [(g _).1]; exact H q hq⟩
  · have g : ∀ d, raw p (n + d) = raw p n ∧ raw p n < 22 := fun d => by
      rcases raw_add hp hn d with ⟨_, a, b, _⟩ | ⟨a, _⟩
      · exact ⟨a, b⟩
      · rw [hr] at a; cases a
    obtain ⟨x, H⟩ := ln_left h h3 hn hn' (g 0).2 hc
    exact ⟨x, fun q hq => by rw [(g _).1]; exact H q hq⟩
end G.M
/-! Mt4: numbers of rounds and of places, by few turns. -/
namespace G.M
theorem runH_len {f : St → St} {n : Int} : ∀ k s h v, runH f n k s h = some v → v.2.1.length ≤ k + h.length := by
  intro k
  induction k with
  | zero => intro s h v e; simp [runH] at e
  | succ k ih =>
    intro s h v e
    simp only [runH] at e
    split at e
    · split at e
      · cases e; simp only; omega
      · have := ih _ _ v e
        simp only [List.length_append, List.length_singleton] at this
        omega
    · cases e; simp only; omega
theorem ln_le {r n t} (h3 : r.length ≤ 3) (hn : n ≤ 1000) : ln r n t ≤ 1000000 := runH_len _ _ _ _ (cr_eq (al := false) (t := t) h3 hn)
def few (r : Rc) (n : Int) : Int := if n < 40 + many r then n else 40 + (n - 40).fmod (many r)
/-- n is few or few and so many times many -/
theorem few_spec {r : Rc} (h : Ok r) {n : Int} (h1 : 1 ≤ n) : (few r n = n ∧ n < 40 + many r) ∨ (∃ q : Nat, 1 ≤ q ∧ n = few r n + q * many r ∧ (n - few r n).fdiv (many r) = q ∧ 40 ≤ few r n ∧ few r n < 40 + many r) := by
  have hm := many_le h
  unfold few
  by_cases hn : n < 40 + many r
  · left; simp [hn]
  · right
    simp only [hn, if_false]
    have e1 := Int.mul_fdiv_add_fmod (n - 40) (many r)
    have e2 := Int.fmod_nonneg_of_pos (n - 40) (b := many r) (by omega)
    have e3 := Int.fmod_lt_of_pos (n - 40) (b := many r) (by omega)
    have e4 : 1 ≤ (n - 40).fdiv (many r) := by
      rw [Int.fdiv_eq_ediv_of_nonneg _ (by omega)]
      rw [Int.le_ediv_iff_mul_le (by omega)]
      omega
    refine ⟨((n - 40).fdiv (many r)).toNat, by omega, ?_, ?_, by omega, by omega⟩
    · rw [Int.toNat_of_nonneg (by omega), Int.mul_comm]
      omega
    · rw [Int.toNat_of_nonneg (by omega)]
      have : n - (40 + (n - 40).fmod (many r)) = (n - 40).fdiv (many r) * many r := by rw [Int.mul_comm]; omega
      rw [this, Int.mul_fdiv_cancel _ (by omega)]
theorem few_bd {r : Rc} (h : Ok r) {n : Int} (h1 : 1 ≤ n) : 1 ≤ few r n ∧ few r n < 45 ∧ few r n ≤ n := by
  have hm := many_le h
  rcases few_spec h h1 with ⟨a, b⟩ | ⟨q, a, b, c, d, e⟩
  · omega
  · have : 0 ≤ (q : Int) * many r := Int.mul_nonneg (by omega) (by omega)
    omega
/-- how many rounds, as the program finds it; none: caught -/
def rdF (r : Rc) (n : Int) (p : Pl) : Option Int :=
  if en r (few r n) (raw p (few r n)) = .caught then none else
  if few r n = n then some (ln r (few r n) (raw p (few r n))) else
  some (ln r (few r n) (raw p (few r n)) + ((ln r (few r n + many r) (raw p (few r n + many r)) : Int) - ln r (few r n) (raw p (few r n))) * (n - few r n).fdiv (many r))
def rdD (r : Rc) (n : Int) (p : Pl) : Option Int := if en r n (raw p n) = .caught then none else some (ln r n (raw p n))
/-- the program's number of rounds is right -/
theorem rd_right {r : Rc} (h : Ok r) (h3 : r.length ≤ 3) {p : Pl} (hp : p.ok) {n : Int} (h1 : 1 ≤ n) (hn : n ≤ 1000) : rdF r n p = rdD r n p := by
  unfold rdF rdD
  have hm := many_le h
  have hfb := few_bd h h1
  rcases few_spec h h1 with ⟨a, b⟩ | ⟨q, a, b, c, d, e⟩
  · rw [a]; simp
  · have hq : (q : Int) ≠ 0 := by omega
    have hqm : 0 < (q : Int) * many r := Int.mul_pos (by omega) (by omega)
    have hne : few r n ≠ n := by omega
    generalize hfew : few r n = f at *
    rw [c]
    have e1 := en_at h h3 hp d q (by omega)
    rw [← b] at e1
    rw [e1]
    by_cases hc : en r f (raw p f) = .caught
    · simp [hc]
    · rw [if_neg hc, if_neg hc, if_neg hne]
      obtain ⟨x, H⟩ := ln_at h h3 hp d (by omega) hc
      have H1 := H 1 (by omega)
      have Hq := H q (by omega)
      rw [← b] at Hq
      rw [show f + ((1 : Nat) : Int) * many r = f + many r by omega] at H1
      rw [Hq, H1]
      congr 1
      rw [show ((ln r f (raw p f) + 1 * x : Nat) : Int) - ln r f (raw p f) = x by omega]
      rw [Int.mul_comm]
      simp
/-- from how many turns it ends so -/
def cntL (f : Nat → Bool) (a b : Nat) : Nat := ((List.range' a b).filter f).length
def cnt (r : Rc) (n : Int) (w : En) : Nat := ((List.range n.toNat).filter fun (i : Nat) => decide (en r n i = w)).length
theorem cnt_le (r n w) : cnt r n w ≤ n.toNat := by
  unfold cnt
  exact Nat.le_trans (List.length_filter_le _ _) (by simp)
theorem cntL_congr {f g : Nat → Bool} {a b c : Nat} (h : ∀ i, i < b → f (a + i) = g (c + i)) : cntL f a b = cntL g c b := by
  induction b generalizing a c with
  | zero => rfl
  | succ b ih =>
    unfold cntL at *
    simp only [List.range'_succ, List.filter_cons]
    have h0 := h 0 (by omega)
    simp only [Nat.add_zero] at h0
    rw [h0]
    have := ih (a := a + 1) (c := c + 1) (fun i hi => by
      have := h (i + 1) (by omega)
      rw [show a + 1 + i = a + (i + 1) by omega, show c + 1 + i = c + (i + 1) by omega]; exact this)
    split <;> simp [this]
theorem cntL_split (f : Nat → Bool) (a b c : Nat) : cntL f a (b + c) = cntL f a b + cntL f (a + b) c := by
  unfold cntL
  rw [← List.range'_append_1, List.filter_append, List.length_append]
theorem cnt_eq (r : Rc) (n : Int) (w : En) : cnt r n w = cntL (fun i => decide (en r n i = w)) 0 n.toNat := by
  unfold cnt cntL; rw [List.range_eq_range']
/-- what is new with many turns more -/
def new (r : Rc) (n : Int) (w : En) : Nat := cntL (fun i => decide (en r n i = w)) 16 (many r).toNat
theorem cnt_step {r : Rc} (h : Ok r) (h3 : r.length ≤ 3) {n : Int} (hn : 40 ≤ n) (hq : n + many r ≤ 1000) (w : En) : cnt r (n + many r) w = cnt r n w + new r (n + many r) w := by
  have hm := many_le h
  rw [cnt_eq, cnt_eq, show (n + many r).toNat = 16 + ((many r).toNat + (n.toNat - 16)) by omega, cntL_split, cntL_split]
  rw [show n.toNat = 16 + (n.toNat - 16) by omega, cntL_split]
  have e1 : cntL (fun i => decide (en r (n + many r) i = w)) 0 16 = cntL (fun i => decide (en r n i = w)) 0 16 := cntL_congr fun i hi => by
    have := en_left h h3 hn (t := ((0 + i : Nat) : Int)) (by omega) 1 (by omega)
    rw [show n + ((1 : Nat) : Int) * many r = n + many r by omega] at this
    rw [this]
  have e2 : cntL (fun i => decide (en r (n + many r) i = w)) (0 + 16 + (many r).toNat) (16 + (n.toNat - 16) - 16) = cntL (fun i => decide (en r n i = w)) (0 + 16) (n.toNat - 16) := by
    rw [show 16 + (n.toNat - 16) - 16 = n.toNat - 16 by omega]
    refine cntL_congr fun i hi => ?_
    have := en_right h h3 hn (t := ((0 + 16 + i : Nat) : Int)) (by omega) 1 (by omega)
    rw [show n + ((1 : Nat) : Int) * many r = n + many r by omega] at this
    rw [show (((0 + 16 + (many r).toNat + i : Nat)) : Int) = ((0 + 16 + i : Nat) : Int) + ((1 : Nat) : Int) * many r by omega, this]
  rw [e1, e2]
  unfold new
  simp only [Nat.zero_add]
  omega
theorem new_same {r : Rc} (h : Ok r) (h3 : r.length ≤ 3) {n : Int} (hn : 40 ≤ n) (q : Nat) (hq : n + q * many r ≤ 1000) (w : En) : new r (n + q * many r) w = new r n w := by
  have hm := many_le h
  unfold new
  refine cntL_congr fun i hi => ?_
  rw [en_left h h3 hn (t := ((16 + i : Nat) : Int)) (by omega) q hq]
theorem cnt_steps {r : Rc} (h : Ok r) (h3 : r.length ≤ 3) {n : Int} (hn : 40 ≤ n) (w : En) : ∀ q : Nat, n + q * many r ≤ 1000 → cnt r (n + q * many r) w = cnt r n w + q * new r n w := by
  have hm := many_le h
  intro q
  induction q with
  | zero => intro _; simp
  | succ q ih =>
    intro hq
    have hs : ((q + 1 : Nat) : Int) * many r = q * many r + many r := by rw [Int.natCast_add, Int.add_mul]; omega
    have hpos : 0 ≤ (q : Int) * many r := Int.mul_nonneg (by omega) (by omega)
    rw [hs] at hq ⊢
    rw [← Int.add_assoc, cnt_step h h3 (by omega) (by omega), ih (by omega)]
    rw [show n + q * many r + many r = n + ((q + 1 : Nat) : Int) * many r by rw [hs]; omega, new_same h h3 hn (q + 1) (by rw [hs]; omega)]
    rw [Nat.succ_mul]; omega
def cpF (r : Rc) (n : Int) (w : En) : Int :=
  if few r n = n then cnt r (few r n) w else cnt r (few r n) w + ((cnt r (few r n + many r) w : Int) - cnt r (few r n) w) * (n - few r n).fdiv (many r)
theorem cp_right {r : Rc} (h : Ok r) (h3 : r.length ≤ 3) {n : Int} (h1 : 1 ≤ n) (hn : n ≤ 1000) (w : En) : cpF r n w = cnt r n w := by
  unfold cpF
  have hm := many_le h
  rcases few_spec h h1 with ⟨a, b⟩ | ⟨q, a, b, c, d, e⟩
  · rw [a]; simp
  · have hqm : 0 < (q : Int) * many r := Int.mul_pos (by omega) (by omega)
    have hne : few r n ≠ n := by omega
    generalize hfew : few r n = f at *
    rw [c, if_neg hne]
    have Hq := cnt_steps h h3 d w q (by omega)
    have H1 := cnt_steps h h3 d w 1 (by omega)
    rw [← b] at Hq
    rw [show f + ((1 : Nat) : Int) * many r = f + many r by omega] at H1
    rw [Hq, H1]
    rw [show ((cnt r f w + 1 * new r f w : Nat) : Int) - cnt r f w = new r f w by omega]
    rw [Int.mul_comm]
    simp
end G.M
/-! Mt5: items that rise evenly; calendars of numbers. -/
namespace G.M
inductive It where
  | non | cau | num (k : Int)
  deriving DecidableEq
def ev3 (a b c : It) : Bool := match a, b, c with
  | .num x, .num y, .num z => decide (z - y = y - x)
  | a, b, c => decide (a = b) && decide (b = c)
theorem ev3_iff (a b c : It) : ev3 a b c = true ↔ (∃ x y z, a = .num x ∧ b = .num y ∧ c = .num z ∧ z - y = y - x) ∨ (a = b ∧ b = c ∧ ∀ x, a ≠ .num x) := by
  cases a <;> cases b <;> cases c <;> simp [ev3]
theorem ev3_num {a b c : It} {x : Int} (h : ev3 a b c = true) (ha : a = .num x) : ∃ y z, b = .num y ∧ c = .num z ∧ z - y = y - x := by
  rcases (ev3_iff a b c).1 h with ⟨x', y, z, h1, h2, h3, h4⟩ | ⟨_, _, h⟩
  · rw [ha] at h1; cases h1; exact ⟨y, z, h2, h3, h4⟩
  · exact absurd ha (h x)
theorem ev3_word {a b c : It} (h : ev3 a b c = true) (ha : ∀ x, a ≠ .num x) : b = a ∧ c = a := by
  rcases (ev3_iff a b c).1 h with ⟨x', y, z, h1, h2, h3, h4⟩ | ⟨h1, h2, _⟩
  · exact absurd h1 (ha x')
  · exact ⟨h1.symm, (h1.trans h2).symm⟩
theorem ev3_of_num {x y z : Int} (h : z - y = y - x) : ev3 (.num x) (.num y) (.num z) = true := by simp [ev3, h]
theorem ev3_of_word {a : It} (ha : ∀ x, a ≠ .num x) : ev3 a a a = true := (ev3_iff a a a).2 (.inr ⟨rfl, rfl, ha⟩)
theorem it_cases (a : It) : (∃ x, a = .num x) ∨ ∀ x, a ≠ .num x := by cases a <;> simp
/-- even by m, far out -/
def Even (G : Nat → It) (m B : Nat) : Prop := ∀ a, B ≤ a → ev3 (G a) (G (a + m)) (G (a + 2 * m)) = true
theorem even_more {G : Nat → It} {m B s : Nat} (hm : 1 ≤ m) (H : Even G m B) (W : ∀ a, B ≤ a → a < B + 2 * m → ev3 (G a) (G (a + s)) (G (a + 2 * s)) = true) : Even G s B := by
  intro a
  induction a using Nat.strongRecOn with
  | ind a ih =>
    intro hB
    by_cases h2 : a < B + 2 * m
    · exact W a hB h2
    · have e0 := ih (a - 2 * m) (by omega) (by omega)
      have e1 := ih (a - m) (by omega) (by omega)
      generalize hu : a - 2 * m = u at *
      have ha : a = u + 2 * m := by omega
      have ha' : a - m = u + m := by omega
      rw [ha'] at e1
      subst ha
      have m0 := H u (by omega)
      have m1 := H (u + s) (by omega)
      have m2 := H (u + 2 * s) (by omega)
      rw [show u + m + s = u + s + m by omega, show u + m + 2 * s = u + 2 * s + m by omega] at e1
      rw [show u + 2 * m + s = u + s + 2 * m by omega, show u + 2 * m + 2 * s = u + 2 * s + 2 * m by omega]
      rcases it_cases (G u) with ⟨x, hx⟩ | hx
      · obtain ⟨x1, x2, a1, a2, a3⟩ := ev3_num m0 hx
        obtain ⟨y, z, b1, b2, b3⟩ := ev3_num e0 hx
        obtain ⟨y1, y2, c1, c2, c3⟩ := ev3_num m1 b1
        obtain ⟨z1, z2, d1, d2, d3⟩ := ev3_num m2 b2
        obtain ⟨_, _, f1, f2, f3⟩ := ev3_num e1 a1
        rw [c1] at f1; cases f1
        rw [d1] at f2; cases f2
        rw [a2, c2, d2]
        exact ev3_of_num (by omega)
      · obtain ⟨a1, a2⟩ := ev3_word m0 hx
        obtain ⟨b1, b2⟩ := ev3_word e0 hx
        obtain ⟨c1, c2⟩ := ev3_word m1 (by rw [b1]; exact hx)
        obtain ⟨d1, d2⟩ := ev3_word m2 (by rw [b2]; exact hx)
        rw [a2, c2, d2, b1, b2]
        exact ev3_of_word hx
/-- what comes again, as an item -/
theorem even_at {G : Nat → It} {s B : Nat} (H : Even G s B) (a : Nat) (ha : B ≤ a) : ∀ q : Nat,
    (∀ x y, G a = .num x → G (a + s) = .num y → G (a + q * s) = .num (x + q * (y - x))) ∧ ((∀ x, G a ≠ .num x) → G (a + q * s) = G a) := by
  intro q
  constructor
  · intro x y hx hy
    suffices h : G (a + q * s) = .num (x + q * (y - x)) ∧ G (a + (q + 1) * s) = .num (x + (q + 1) * (y - x)) from h.1
    induction q with
    | zero => 
      refine ⟨by simpa using hx, ?_⟩
      simp only [Nat.zero_add, Nat.one_mul, hy]
      congr 1; simp; omega
    | succ q ih =>
      refine ⟨?_, ?_⟩
      · rw [ih.2]; push_cast; rfl
      · have e := H (a + q * s) (by have := Nat.zero_le (q * s); omega)
        obtain ⟨y', z', b1, b2, b3⟩ := ev3_num e ih.1
        rw [show a + q * s + s = a + (q + 1) * s by rw [Nat.succ_mul]; omega, ih.2] at b1
        cases b1
        rw [show a + (q + 1 + 1) * s = a + q * s + 2 * s by rw [Nat.succ_mul, Nat.succ_mul]; omega, b2]
        congr 1
        simp only [Int.natCast_add, Int.add_mul, Int.natCast_one, Int.one_mul] at *
        omega
  · intro hx
    induction q with
    | zero => simp
    | succ q ih =>
      have e := H (a + q * s) (by have := Nat.zero_le (q * s); omega)
      have := (ev3_word e (by rw [ih]; exact hx)).1
      rw [show a + (q + 1) * s = a + q * s + s by rw [Nat.succ_mul]; omega, this, ih]
/-- a calendar: so many early items, then so many that come again -/
structure Cal (G : Nat → It) (m s f : Nat) : Prop where
  s1 : 1 ≤ s
  sm : s ≤ m
  win : ∀ a, 40 ≤ a → a < 40 + 2 * m → ev3 (G a) (G (a + s)) (G (a + 2 * s)) = true
  least : ∀ u, 1 ≤ u → u < s → ∃ a, 40 ≤ a ∧ a < 40 + 2 * m ∧ ev3 (G a) (G (a + u)) (G (a + 2 * u)) = false
  f40 : f ≤ 40
  back : ∀ a, f ≤ a → a < 40 → ev3 (G a) (G (a + s)) (G (a + 2 * s)) = true
  stop : f = 0 ∨ ev3 (G (f - 1)) (G (f - 1 + s)) (G (f - 1 + 2 * s)) = false
theorem cal_even {G : Nat → It} {m s f : Nat} (C : Cal G m s f) (H : Even G m 40) : Even G s f := by
  have := even_more (by have := C.s1; have := C.sm; omega) H C.win
  intro a ha
  by_cases h : a < 40
  · exact C.back a ha h
  · exact this a (by omega)
def told (G : Nat → It) (s f n : Nat) : It := if n ≤ f then G (n - 1) else
  match G (f + (n - 1 - f) % s), G (f + (n - 1 - f) % s + s) with
  | .num x, .num y => .num (x + ((n - 1 - f) / s : Nat) * (y - x))
  | a, _ => a
theorem told_num {G : Nat → It} {s f n : Nat} {x y : Int} (h : ¬ n ≤ f) (hx : G (f + (n - 1 - f) % s) = .num x) (hy : G (f + (n - 1 - f) % s + s) = .num y) : told G s f n = .num (x + ((n - 1 - f) / s : Nat) * (y - x)) := by
  unfold told; rw [if_neg h, hx, hy]
theorem told_word {G : Nat → It} {s f n : Nat} (h : ¬ n ≤ f) (hx : ∀ x, G (f + (n - 1 - f) % s) ≠ .num x) : told G s f n = G (f + (n - 1 - f) % s) := by
  unfold told; rw [if_neg h]
  generalize G (f + (n - 1 - f) % s) = c at *
  cases c with
  | num x => exact absurd rfl (hx x)
  | non => rfl
  | cau => rfl
theorem told_eq {G : Nat → It} {s f : Nat} (hs : 1 ≤ s) (H : Even G s f) (n : Nat) (hn : 1 ≤ n) : told G s f n = G (n - 1) := by
  unfold told
  by_cases h : n ≤ f
  · rw [if_pos h]
  · rw [if_neg h]
    have e : n - 1 = f + (n - 1 - f) % s + (n - 1 - f) / s * s := by
      have := Nat.div_add_mod (n - 1 - f) s
      rw [Nat.mul_comm] at this
      omega
    have k := even_at H (f + (n - 1 - f) % s) (by omega) ((n - 1 - f) / s)
    rw [← e] at k
    have ev := H (f + (n - 1 - f) % s) (by omega)
    rcases it_cases (G (f + (n - 1 - f) % s)) with ⟨x, hx⟩ | hx
    · obtain ⟨y, z, b1, _, _⟩ := ev3_num ev hx
      rw [k.1 x y hx b1, hx, b1]
    · rw [k.2 hx]
      generalize G (f + (n - 1 - f) % s) = a at *
      cases a with
      | num x => exact absurd rfl (hx x)
      | non => rfl
      | cau => rfl
theorem no_shorter {G : Nat → It} {m s f : Nat} (C : Cal G m s f) (H : Even G m 40) (u : Nat) (hu : 1 ≤ u) (hus : u < s) : ∃ a, f ≤ a ∧ a < f + 3 * s ∧ ev3 (G a) (G (a + u)) (G (a + 2 * u)) = false := by
  refine Classical.byContradiction fun hc => ?_
  have W : ∀ a, f ≤ a → a < f + 2 * s → ev3 (G a) (G (a + u)) (G (a + 2 * u)) = true := by
    intro a h1 h2
    cases he : ev3 (G a) (G (a + u)) (G (a + 2 * u))
    · exact absurd ⟨a, h1, by omega, he⟩ hc
    · rfl
  have E := even_more C.s1 (cal_even C H) W
  obtain ⟨a, h1, h2, h3⟩ := C.least u hu hus
  have := E a (by have := C.f40; omega)
  rw [h3] at this; cases this
/-- the early part can't be shorter -/
theorem formed {G : Nat → It} {m s f : Nat} (C : Cal G m s f) (H : Even G m 40) (hf : f ≠ 0) :
    (∀ x y, G (f + s - 1) = .num x → G (f + s - 1 + s) = .num y → G (f - 1) ≠ .num (x - (y - x))) ∧ ((∀ x, G (f + s - 1) ≠ .num x) → G (f - 1) ≠ G (f + s - 1)) := by
  have st : ev3 (G (f - 1)) (G (f - 1 + s)) (G (f - 1 + 2 * s)) = false := by
    rcases C.stop with h | h
    · exact absurd h hf
    · exact h
  have h1 := C.s1
  rw [show f - 1 + s = f + s - 1 by omega, show f - 1 + 2 * s = f + s - 1 + s by omega] at st
  have ev := cal_even C H (f + s - 1) (by omega)
  constructor
  · intro x y hx hy e
    rw [hx, hy, e, ev3_of_num (by omega)] at st
    cases st
  · intro hx e
    have := (ev3_word ev hx).1
    rw [this, e, ev3_of_word hx] at st
    cases st
end G.M
/-! Mt6: the items of the two calendars rise evenly. -/
namespace G.M
theorem few_can {r : Rc} (h : Ok r) {n : Int} (hn : 40 ≤ n) : few r n = 40 + (n - 40).fmod (many r) := by
  unfold few
  split
  · rw [Int.fmod_eq_emod_of_nonneg _ (by have := many_le h; omega), Int.emod_eq_of_lt (by omega) (by omega)]; omega
  · rfl
theorem few_add {r : Rc} (h : Ok r) {n : Int} (hn : 40 ≤ n) : few r (n + many r) = few r n := by
  have hm := many_le h
  rw [few_can h hn, few_can h (by omega), show n + many r - 40 = n - 40 + many r by omega, Int.add_fmod_right]
def tim (r : Rc) (n : Int) : Int := (n - few r n).fdiv (many r)
theorem tim_add {r : Rc} (h : Ok r) {n : Int} (hn : 40 ≤ n) : tim r (n + many r) = tim r n + 1 := by
  have hm := many_le h
  unfold tim
  rw [few_add h hn, show n + many r - few r n = n - few r n + many r by omega, Int.fdiv_eq_ediv_of_nonneg _ (by omega), Int.fdiv_eq_ediv_of_nonneg _ (by omega), Int.add_ediv_of_dvd_right (Int.dvd_refl _), Int.ediv_self (by omega)]
theorem rd_can {r : Rc} (h : Ok r) {n : Int} (p : Pl) : rdF r n p = if en r (few r n) (raw p (few r n)) = .caught then none else
    some (ln r (few r n) (raw p (few r n)) + ((ln r (few r n + many r) (raw p (few r n + many r)) : Int) - ln r (few r n) (raw p (few r n))) * tim r n) := by
  unfold rdF tim
  split
  · rfl
  · split
    · rename_i e; rw [e]; simp
    · rfl
theorem cp_can {r : Rc} (h : Ok r) {n : Int} (w : En) : cpF r n w = cnt r (few r n) w + ((cnt r (few r n + many r) w : Int) - cnt r (few r n) w) * tim r n := by
  unfold cpF tim
  split
  · rename_i e; rw [e]; simp
  · rfl
def itR : Option Int → It
  | none => .cau
  | some k => .num k
def Gr (r : Rc) (p : Pl) (a : Nat) : It := if 0 ≤ raw p (a + 1) ∧ raw p (a + 1) < (a : Int) + 1 then itR (rdF r (a + 1) p) else .non
def Gc (r : Rc) (w : En) (a : Nat) : It := .num (cpF r (a + 1) w)
theorem lin {a b t : Int} : a + b * (t + 1 + 1) - (a + b * (t + 1)) = a + b * (t + 1) - (a + b * t) := by
  simp only [Int.mul_add, Int.mul_one]; omega
theorem raw_in {p : Pl} (hp : p.ok) {n : Int} (hn : 6 ≤ n) : 0 ≤ raw p n ∧ raw p n < n := by
  obtain ⟨a, b⟩ := hp
  unfold raw; split <;> omega
theorem even_r {r : Rc} (h : Ok r) {p : Pl} (hp : p.ok) : Even (Gr r p) (many r).toNat 40 := by
  have hm := many_le h
  intro a ha
  unfold Gr
  rw [if_pos (raw_in hp (by omega)), if_pos (raw_in hp (n := ((a + (many r).toNat : Nat) : Int) + 1) (by omega)), if_pos (raw_in hp (n := ((a + 2 * (many r).toNat : Nat) : Int) + 1) (by omega))]
  rw [show ((a + (many r).toNat : Nat) : Int) + 1 = (a : Int) + 1 + many r by omega, show ((a + 2 * (many r).toNat : Nat) : Int) + 1 = (a : Int) + 1 + many r + many r by omega]
  rw [rd_can h, rd_can h, rd_can h, few_add h (n := (a : Int) + 1 + many r) (by omega), few_add h (n := (a : Int) + 1) (by omega), tim_add h (n := (a : Int) + 1 + many r) (by omega), tim_add h (n := (a : Int) + 1) (by omega)]
  split
  · exact ev3_of_word (by intro x hx; cases hx)
  · exact ev3_of_num lin
theorem even_c {r : Rc} (h : Ok r) (w : En) : Even (Gc r w) (many r).toNat 40 := by
  have hm := many_le h
  intro a ha
  unfold Gc
  rw [show ((a + (many r).toNat : Nat) : Int) + 1 = (a : Int) + 1 + many r by omega, show ((a + 2 * (many r).toNat : Nat) : Int) + 1 = (a : Int) + 1 + many r + many r by omega]
  rw [cp_can h, cp_can h, cp_can h, few_add h (n := (a : Int) + 1 + many r) (by omega), few_add h (n := (a : Int) + 1) (by omega), tim_add h (n := (a : Int) + 1 + many r) (by omega), tim_add h (n := (a : Int) + 1) (by omega)]
  exact ev3_of_num lin
/-- numbers among the first items are small -/
def Small (G : Nat → It) : Prop := ∀ a x, a < 63 → G a = .num x → 0 ≤ x ∧ x ≤ 1000000
theorem small_r {r : Rc} (h : Ok r) (h3 : r.length ≤ 3) {p : Pl} (hp : p.ok) : Small (Gr r p) := by
  intro a x ha e
  unfold Gr at e
  split at e
  · rw [rd_right h h3 hp (by omega) (by omega)] at e
    unfold rdD at e
    split at e
    · cases e
    · simp only [itR, It.num.injEq] at e
      have := ln_le (r := r) (n := a + 1) (t := raw p (a + 1)) h3 (by omega)
      omega
  · cases e
theorem small_c {r : Rc} (h : Ok r) (h3 : r.length ≤ 3) (w : En) : Small (Gc r w) := by
  intro a x ha e
  unfold Gc at e
  rw [cp_right h h3 (by omega) (by omega)] at e
  simp only [It.num.injEq] at e
  have := cnt_le r (a + 1) w
  omega
end G.M
/-! Mt7: runs of given records, worked out; calendars are unique. -/
namespace G.M
def go (f : St → St) (n : Int) : Nat → Nat → St → Option (En × Nat)
  | 0, _, _ => none
  | k + 1, c, s => if n ≤ s.1 then some (.out, c) else if s.1 < 0 then some (.off, c) else go f n k (c + 1) (f s)
theorem go_some {f n} (hn : 0 ≤ n) : ∀ k c s e c', go f n k c s = some (e, c') → ∃ j, c' = c + j ∧ Ends f n j s e := by
  intro k
  induction k with
  | zero => intro c s e c' h; simp [go] at h
  | succ k ih =>
    intro c s e c' h
    simp only [go] at h
    split at h
    · cases h; exact ⟨0, rfl, .inl ⟨by assumption, rfl⟩⟩
    · split at h
      · cases h; exact ⟨0, rfl, .inr ⟨by assumption, rfl⟩⟩
      · obtain ⟨j, h1, h2⟩ := ih _ _ _ _ h
        exact ⟨j + 1, by omega, by omega, by omega, h2⟩
theorem go_none {f n} : ∀ k c s, go f n k c s = none → ∀ j e, Ends f n j s e → k ≤ j := by
  intro k
  induction k with
  | zero => intro c s h j e _; omega
  | succ k ih =>
    intro c s h j e hE
    simp only [go] at h
    split at h
    · cases h
    · split at h
      · cases h
      · cases j with
        | zero => simp only [ends_zero] at hE; omega
        | succ j => have := ih _ _ h j e hE.2.2; omega
theorem ends_le {al r n} (h0 : 0 ≤ n) {j t e} (h : Ends (nxt al r n) n j (t, fresh r) e) : j ≤ n.toNat * 2 ^ r.length + 1 := by
  obtain ⟨v, hv⟩ := runH_some (f := nxt al r n) (n := n) (L := r.length) (nxt_len r n) (n.toNat * 2 ^ r.length + 1) (t, fresh r) [] (by simp [fresh]) (by simp) (by simp) (by simp)
  have hl := runH_len _ _ _ _ hv
  rcases runH_spec h0 _ _ _ v (by intro x hx; simp at hx) hv with ⟨_, b⟩ | ⟨_, _, b⟩
  · exact absurd h (b _ _)
  · have := ends_det h0 h b
    simp only [List.length_nil, Nat.sub_zero, Nat.add_zero] at *
    omega
def fast (r : Rc) (n t : Int) : En × Nat := match go (nxt false r n) n (n.toNat * 2 ^ r.length + 2) 0 (t, fresh r) with
  | some p => p
  | none => (.caught, 0)
theorem fast_ok {r : Rc} (h3 : r.length ≤ 3) {n : Int} (h0 : 0 ≤ n) (hn : n ≤ 1000) (t : Int) : en r n t = (fast r n t).1 ∧ (en r n t ≠ .caught → ln r n t = (fast r n t).2) := by
  unfold fast
  cases hg : go (nxt false r n) n (n.toNat * 2 ^ r.length + 2) 0 (t, fresh r) with
  | some p =>
    obtain ⟨e, c⟩ := p
    obtain ⟨j, h1, h2⟩ := go_some h0 _ _ _ _ _ hg
    have := cr_of h3 h0 hn h2
    exact ⟨this.1, fun _ => by show ln r n t = c; rw [h1, Nat.zero_add]; exact this.2⟩
  | none =>
    rcases cr_spec (al := false) (t := t) h3 h0 hn with ⟨a, b⟩ | ⟨a, b⟩
    · exact ⟨a, fun h => absurd a h⟩
    · have := go_none _ _ _ hg _ _ b
      have := ends_le h0 b
      omega
def fastR (r : Rc) (p : Pl) (a : Nat) : It := if 0 ≤ raw p (a + 1) ∧ raw p (a + 1) < (a : Int) + 1 then
  (match fast r (a + 1) (raw p (a + 1)) with | (.caught, _) => .cau | (_, k) => .num k) else .non
theorem fastR_ok {r : Rc} (h : Ok r) (h3 : r.length ≤ 3) {p : Pl} (hp : p.ok) {a : Nat} (ha : a < 900) : Gr r p a = fastR r p a := by
  unfold Gr fastR
  split
  · rw [rd_right h h3 hp (by omega) (by omega)]
    unfold rdD
    obtain ⟨k1, k2⟩ := fast_ok h3 (n := a + 1) (by omega) (by omega) (raw p (a + 1))
    generalize hf : fast r (a + 1) (raw p (a + 1)) = q at *
    obtain ⟨e, c⟩ := q
    simp only at k1 k2
    cases e
    · rw [k1, if_neg (by simp), k2 (by rw [k1]; simp)]; rfl
    · rw [k1, if_neg (by simp), k2 (by rw [k1]; simp)]; rfl
    · rw [k1, if_pos rfl]; rfl
  · rfl
theorem cal_unique {G : Nat → It} {m s f s' f' : Nat} (C : Cal G m s f) (C' : Cal G m s' f') : s = s' ∧ f = f' := by
  have key : ∀ {s s' f f'}, Cal G m s f → Cal G m s' f' → ¬ s < s' := by
    intro s s' f f' C C' h
    obtain ⟨a, a1, a2, a3⟩ := C'.least s C.s1 h
    rw [C.win a a1 a2] at a3
    cases a3
  have hs : s = s' := by
    have := key C C'
    have := key C' C
    omega
  subst hs
  refine ⟨rfl, ?_⟩
  have key2 : ∀ {f f'}, Cal G m s f → Cal G m s f' → ¬ f < f' := by
    intro f f' C C' h
    rcases C'.stop with e | e
    · omega
    · have := C.back (f' - 1) (by omega) (by have := C'.f40; omega)
      rw [this] at e; cases e
  have := key2 C C'
  have := key2 C' C
  omega
theorem cal_congr {G X : Nat → It} {m s f : Nat} (h : ∀ a, a < 40 + 4 * m → G a = X a) (C : Cal X m s f) : Cal G m s f := by
  have sm := C.sm
  have f40 := C.f40
  refine ⟨C.s1, C.sm, ?_, ?_, C.f40, ?_, ?_⟩
  · intro a h1 h2; rw [h a (by omega), h (a + s) (by omega), h (a + 2 * s) (by omega)]; exact C.win a h1 h2
  · intro u h1 h2
    obtain ⟨a, a1, a2, a3⟩ := C.least u h1 h2
    exact ⟨a, a1, a2, by rw [h a (by omega), h (a + u) (by omega), h (a + 2 * u) (by omega)]; exact a3⟩
  · intro a h1 h2; rw [h a (by omega), h (a + s) (by omega), h (a + 2 * s) (by omega)]; exact C.back a h1 h2
  · rcases C.stop with e | e
    · exact .inl e
    · exact .inr (by rw [h (f - 1) (by omega), h (f - 1 + s) (by omega), h (f - 1 + 2 * s) (by omega)]; exact e)
def calB (G : Nat → It) (m s f : Nat) : Bool := decide (1 ≤ s) && decide (s ≤ m) && (List.range' 40 (2 * m)).all (fun a => ev3 (G a) (G (a + s)) (G (a + 2 * s))) &&
  (List.range' 1 (s - 1)).all (fun u => (List.range' 40 (2 * m)).any fun a => !ev3 (G a) (G (a + u)) (G (a + 2 * u))) && decide (f ≤ 40) &&
  (List.range' f (40 - f)).all (fun a => ev3 (G a) (G (a + s)) (G (a + 2 * s))) && (decide (f = 0) || !ev3 (G (f - 1)) (G (f - 1 + s)) (G (f - 1 + 2 * s)))
theorem cal_of {G : Nat → It} {m s f : Nat} (h : calB G m s f = true) : Cal G m s f := by
  simp only [calB, Bool.and_eq_true, Bool.or_eq_true, decide_eq_true_eq, List.all_eq_true, List.any_eq_true, List.mem_range'_1, Bool.not_eq_true'] at h
  obtain ⟨⟨⟨⟨⟨⟨h1, h2⟩, h3⟩, h4⟩, h5⟩, h6⟩, h7⟩ := h
  refine ⟨h1, h2, fun a a1 a2 => h3 a ⟨a1, a2⟩, ?_, h5, fun a a1 a2 => h6 a ⟨a1, by omega⟩, h7⟩
  intro u u1 u2
  obtain ⟨a, ⟨a1, a2⟩, a3⟩ := h4 u ⟨u1, by omega⟩
  exact ⟨a, a1, a2, a3⟩
/-- counts from ends that are known turn by turn -/
theorem cnt_of {r : Rc} {n : Nat} {w : En} (E : Nat → En) (h : ∀ t, t < n → en r n (t : Nat) = E t) : cnt r n w = ((List.range n).filter fun t => decide (E t = w)).length := by
  unfold cnt
  rw [Int.toNat_natCast]
  congr 1
  apply List.filter_congr
  intro t ht
  rw [h t (List.mem_range.1 ht)]
end G.M
/-! Mt8: what is heard for ever, in n and in n + d turns. -/
namespace G.M
def itr (f : St → St) : Nat → St → St
  | 0, s => s
  | k + 1, s => itr f k (f s)
theorem itr_add (f : St → St) : ∀ a b s, itr f (a + b) s = itr f b (itr f a s) := by
  intro a
  induction a with
  | zero => intro b s; rw [Nat.zero_add]; rfl
  | succ a ih => intro b s; rw [Nat.add_right_comm]; exact ih b (f s)
theorem itr_succ (f : St → St) (k s) : itr f (k + 1) s = f (itr f k s) := itr_add f k 1 s
/-- u is heard again and again -/
def Vis (f : St → St) (s : St) (u : Int) : Prop := ∀ N : Nat, ∃ k, N ≤ k ∧ (itr f k s).1 = u
theorem vis_tail (f : St → St) (m : Nat) (s : St) (u : Int) : Vis f (itr f m s) u ↔ Vis f s u := by
  constructor
  · intro h N
    obtain ⟨k, h1, h2⟩ := h N
    exact ⟨m + k, by omega, by rw [itr_add]; exact h2⟩
  · intro h N
    obtain ⟨k, h1, h2⟩ := h (m + N)
    refine ⟨k - m, by omega, ?_⟩
    rw [← itr_add, show m + (k - m) = k by omega]; exact h2
/-- never off the record -/
def On (f : St → St) (n : Int) (s : St) : Prop := ∀ k, 0 ≤ (itr f k s).1 ∧ (itr f k s).1 < n
theorem on_of {f : St → St} {n : Int} : ∀ {s}, (∀ k e, ¬ Ends f n k s e) → On f n s := by
  intro s h k
  induction k generalizing s with
  | zero =>
    refine Classical.byContradiction fun hc => ?_
    simp only [itr] at hc
    by_cases h1 : n ≤ s.1
    · exact h 0 .out (.inl ⟨h1, rfl⟩)
    · exact h 0 .off (.inr ⟨by omega, rfl⟩)
  | succ k ih =>
    refine ih (s := f s) fun j e H => ?_
    have h0 : 0 ≤ s.1 ∧ s.1 < n := Classical.byContradiction fun hc => by
      by_cases h1 : n ≤ s.1
      · exact h 0 .out (.inl ⟨h1, rfl⟩)
      · exact h 0 .off (.inr ⟨by omega, rfl⟩)
    exact h (j + 1) e ⟨h0.1, h0.2, H⟩
theorem on_tail {f : St → St} {n : Int} {s : St} (h : On f n s) (m : Nat) : On f n (itr f m s) := fun k => by rw [← itr_add]; exact h (m + k)
theorem itr_len (al r n) : ∀ k s, (itr (nxt al r n) k s).2.length = s.2.length := by
  intro k
  induction k with
  | zero => intro s; rfl
  | succ k ih => intro s; exact (ih _).trans (nxt_len r n s)
/-- the same turns for ever -/
theorem itr_same {r : Rc} (h : Ok r) (hv : vr r ≤ 0) {n d : Int} (hn : 40 ≤ n) (hd : 0 ≤ d) : ∀ k s, s.2.length = r.length → phi r s ≤ 16 → On (nxt false r n) n s →
    phi r (itr (nxt false r n) k s) ≤ 16 ∧ itr (nxt false r (n + d)) k s = itr (nxt false r n) k s := by
  intro k
  induction k with
  | zero => intro s _ hp _; exact ⟨hp, rfl⟩
  | succ k ih =>
    intro s hl hp ho
    have hb := phi_bd r s
    have h0 := ho 0
    simp only [itr] at h0 ⊢
    have e1 : nxt false r (n + d) s = nxt false r n s := nxt_id h s.2 d hd (by omega)
    rw [e1]
    refine ih _ (mk_len r n s hl) ?_ (on_tail ho 1)
    by_cases h6 : 6 ≤ s.1
    · have := (phi_mid h hl h6 (n := n) (by omega)).1 hv; omega
    · have := nxt_bd (al := false) h n s
      have := phi_bd r (nxt false r n s)
      omega
def sh (d : Int) (s : St) : St := (s.1 + d, s.2)
/-- further in for ever -/
theorem itr_far {r : Rc} (h : Ok r) (hv : 0 ≤ vr r) {n d : Int} (hn : 40 ≤ n) (hd : 0 ≤ d) (B : Int) (hB : 7 ≤ B) (hB' : B ≤ n - 9) : ∀ k s, s.2.length = r.length → B ≤ phi r s → On (nxt false r n) n s →
    B ≤ phi r (itr (nxt false r n) k s) ∧ itr (nxt false r (n + d)) k (sh d s) = sh d (itr (nxt false r n) k s) := by
  intro k
  induction k with
  | zero => intro s _ hp _; exact ⟨hp, rfl⟩
  | succ k ih =>
    intro s hl hp ho
    have hb := phi_bd r s
    have h0 := ho 0
    simp only [itr] at h0 ⊢
    have e1 : nxt false r (n + d) (sh d s) = sh d (nxt false r n s) := nxt_sh h s.2 d hd (by omega)
    rw [e1]
    refine ih _ (mk_len r n s hl) ?_ (on_tail ho 1)
    by_cases h6 : s.1 ≤ n - 7
    · have := (phi_mid h hl (by omega) (n := n) h6).2 hv; omega
    · have := nxt_bd (al := false) h n s
      have := phi_bd r (nxt false r n s)
      omega
theorem vis_sh {f g : St → St} {d : Int} {s : St} (h : ∀ k, itr g k (sh d s) = sh d (itr f k s)) (u : Int) : Vis g (sh d s) (u + d) ↔ Vis f s u := by
  constructor
  · intro H N
    obtain ⟨k, h1, h2⟩ := H N
    rw [h k] at h2
    exact ⟨k, h1, by simp only [sh] at h2; omega⟩
  · intro H N
    obtain ⟨k, h1, h2⟩ := H N
    exact ⟨k, h1, by rw [h k]; simp only [sh]; omega⟩
/-- in the middle the needle gets on -/
def chi (r : Rc) (s : St) : Int := 2 * phi r s + (if mk r s.2 then 1 else 0)
def chi' (r : Rc) (s : St) : Int := 2 * phi r s - (if mk r s.2 then 1 else 0)
theorem chi_mid {r : Rc} (h : Ok r) {n : Int} {s : St} (hl : s.2.length = r.length) (h6 : 6 ≤ s.1) (ht : s.1 ≤ n - 7) :
    (0 < vr r → chi r s + 1 ≤ chi r (nxt false r n s)) ∧ (vr r < 0 → chi' r (nxt false r n s) + 1 ≤ chi' r s) := by
  unfold nxt chi chi' phi mk vr
  rw [find_mid h h6 ht]
  cases e : mid r with
  | none => simp only; constructor <;> intro _ <;> simp <;> omega
  | some ic =>
    obtain ⟨i, c⟩ := ic
    obtain ⟨hi, ⟨_, _, a, b, _⟩, _⟩ := mid_ok h e
    have hi' : i < s.2.length := by omega
    simp only
    have hcs : c.e = true ∨ c.e = false := by cases c.e <;> simp
    have hms : s.2.getD i false = true ∨ s.2.getD i false = false := by cases s.2.getD i false <;> simp
    rcases hcs with hc | hc <;> rcases hms with hm | hm <;> simp only [Bool.false_and, Bool.true_and, Bool.not_false, Bool.not_true, Bool.or_true, Bool.or_false, if_true, if_false, Bool.false_eq_true, getD_set_self hi', hm, hc, reduceIte] <;> constructor <;> intro _ <;> omega
theorem chi_bd (r : Rc) (s : St) : 2 * phi r s ≤ chi r s ∧ chi r s ≤ 2 * phi r s + 1 ∧ 2 * phi r s - 1 ≤ chi' r s ∧ chi' r s ≤ 2 * phi r s := by
  unfold chi chi'; split <;> omega
/-- upwards it comes to the end -/
theorem reach {r : Rc} (h : Ok r) (hv : 0 < vr r) {n : Int} (hn : 40 ≤ n) : ∀ (m : Nat) (s : St), s.2.length = r.length → 7 ≤ phi r s → On (nxt false r n) n s → 2 * n - chi r s ≤ m → ∃ k, n - 9 ≤ phi r (itr (nxt false r n) k s) := by
  intro m
  induction m with
  | zero =>
    intro s hl hp ho hm
    have := phi_bd r s
    have := chi_bd r s
    have h0 := ho 0
    simp only [itr] at h0
    omega
  | succ m ih =>
    intro s hl hp ho hm
    have h1 := phi_bd r s
    have h0 := ho 0
    simp only [itr] at h0
    by_cases h6 : s.1 ≤ n - 7
    · have c1 := (chi_mid h hl (by omega) (n := n) h6).1 hv
      have c2 := (phi_mid h hl (by omega) (n := n) h6).2 (by omega)
      obtain ⟨k, hk⟩ := ih (nxt false r n s) (mk_len r n s hl) (by omega) (on_tail ho 1) (by omega)
      exact ⟨k + 1, hk⟩
    · exact ⟨0, by simp only [itr]; omega⟩
/-- downwards it comes out of the middle -/
theorem falls {r : Rc} (h : Ok r) (hv : vr r < 0) {n : Int} (hn : 40 ≤ n) : ∀ (m : Nat) (s : St), s.2.length = r.length → phi r s ≤ n - 10 → chi' r s ≤ m → (∀ k, 16 ≤ (itr (nxt false r n) k s).1) → False := by
  intro m
  induction m with
  | zero =>
    intro s hl hp hm hs
    have := phi_bd r s
    have := chi_bd r s
    have h0 := hs 0
    simp only [itr] at h0
    omega
  | succ m ih =>
    intro s hl hp hm hs
    have h1 := phi_bd r s
    have h0 := hs 0
    simp only [itr] at h0
    have c1 := (chi_mid h hl (by omega) (n := n) (by omega)).2 hv
    have c2 := (phi_mid h hl (by omega) (n := n) (by omega)).1 (by omega)
    exact ih (nxt false r n s) (mk_len r n s hl) (by omega) (by omega) fun k => hs (k + 1)
/-- where it is heard for ever: near the rim, in the same turns, or near the middle, further in -/
def RingOk (r : Rc) (n d : Int) (s s' : St) : Prop :=
  ((∀ u, Vis (nxt false r (n + d)) s' u ↔ Vis (nxt false r n) s u) ∧ ∀ u, Vis (nxt false r n) s u → u < 20) ∨
  ((∀ u, Vis (nxt false r (n + d)) s' (u + d) ↔ Vis (nxt false r n) s u) ∧ ∀ u, Vis (nxt false r n) s u → n - 9 ≤ u)
theorem ring_same {r : Rc} (h : Ok r) (hv : vr r ≤ 0) {n d : Int} (hn : 40 ≤ n) (hd : 0 ≤ d) {s : St} (hl : s.2.length = r.length) (hp : phi r s ≤ 16) (ho : On (nxt false r n) n s) : RingOk r n d s s := by
  have k := fun j => itr_same h hv hn hd j s hl hp ho
  refine .inl ⟨fun u => ?_, fun u hu => ?_⟩
  · unfold Vis
    simp only [(k _).2]
  · obtain ⟨j, _, hj⟩ := hu 0
    have := (k j).1
    have := phi_bd r (itr (nxt false r n) j s)
    omega
theorem ring_far {r : Rc} (h : Ok r) (hv : 0 ≤ vr r) {n d : Int} (hn : 40 ≤ n) (hd : 0 ≤ d) {s : St} (hl : s.2.length = r.length) (hp : 7 ≤ phi r s) (ho : On (nxt false r n) n s) (hq : vr r = 0 → n - 9 ≤ phi r s) : RingOk r n d s (sh d s) := by
  refine .inr ⟨vis_sh fun j => (itr_far h hv hn hd 7 (by omega) (by omega) j s hl hp ho).2, fun u hu => ?_⟩
  have : ∃ m, n - 9 ≤ phi r (itr (nxt false r n) m s) := by
    by_cases h0 : vr r = 0
    · exact ⟨0, hq h0⟩
    · exact reach h (by omega) hn (2 * n - chi r s).toNat s hl hp ho (by omega)
  obtain ⟨m, hm⟩ := this
  obtain ⟨j, _, hj⟩ := (vis_tail _ m s u).2 hu 0
  have := (itr_far h hv hn hd (n - 9) (by omega) (by omega) j (itr (nxt false r n) m s) (by rw [itr_len]; exact hl) hm (on_tail ho m)).1
  have := phi_bd r (itr (nxt false r n) j (itr (nxt false r n) m s))
  omega
end G.M
/-! Mt9: rings at places. -/
namespace G.M
theorem per_itr {r : Rc} (h : Ok r) {N t : Int} {ms : List Bool} (hl : ms.length = r.length) (h1 : 9 ≤ t) (h2 : t ≤ N - 12) : itr (nxt false r N) (per r) (t, ms) = (t + vr r, ms) := by
  have hf : ∀ u : Int, 6 ≤ u → u ≤ N - 7 → ∀ ms, nxt false r N (u, ms) = match mid r with
      | none => (u + 1, ms)
      | some (i, c) => (u + 1 + (if c.e && !(ms.getD i false) then 0 else c.j), if c.e then ms.set i (!(ms.getD i false)) else ms) := by
    intro u a b ms
    unfold nxt
    simp only [find_mid h a b, Bool.false_or]
    all_goals (cases mid r <;> rfl)
  unfold per vr
  have f1 := hf t (by omega) (by omega) ms
  cases em : mid r with
  | none =>
    rw [em] at f1
    simp only [itr, f1]
  | some ic =>
    obtain ⟨i, c⟩ := ic
    obtain ⟨hi, ⟨_, _, a, b, _⟩, _⟩ := mid_ok h em
    have hi' : i < ms.length := by omega
    rw [em] at f1
    simp only at f1 ⊢
    cases hc : c.e
    · simp only [hc, Bool.false_and, Bool.false_eq_true, if_false] at f1
      simp only [Bool.false_eq_true, if_false, itr, f1]
      rw [show t + 1 + c.j = t + (1 + c.j) by omega]
    · simp only [hc, Bool.true_and, if_true] at f1
      simp only [if_true, itr, f1]
      cases hm : ms.getD i false
      · have e1 : (ms.set i true).getD i false = true := getD_set_self hi' true false
        have e2 : (ms.set i true).set i false = ms := by
          rw [List.set_set]
          have : ms[i] = false := by simpa [List.getD, hi'] using hm
          rw [← this]; exact List.set_getElem_self hi'
        simp only [Bool.not_false, if_true]
        have f2 := hf (t + 1 + 0) (by omega) (by omega) (ms.set i true)
        rw [em] at f2
        simp only [hc, Bool.true_and, if_true, e1, Bool.not_true, Bool.false_eq_true, if_false, e2] at f2
        rw [f2, show t + 1 + 0 + 1 + c.j = t + (2 + c.j) by omega]
      · have e1 : (ms.set i false).getD i false = false := getD_set_self hi' false false
        have e2 : (ms.set i false).set i true = ms := by
          rw [List.set_set]
          have : ms[i] = true := by simpa [List.getD, hi'] using hm
          rw [← this]; exact List.set_getElem_self hi'
        simp only [Bool.not_true, Bool.false_eq_true, if_false]
        have f2 := hf (t + 1 + c.j) (by omega) (by omega) (ms.set i false)
        rw [em] at f2
        simp only [hc, Bool.true_and, if_true, e1, Bool.not_false, e2] at f2
        rw [f2, show t + 1 + c.j + 1 + 0 = t + (2 + c.j) by omega]
theorem up_itr {r : Rc} (h : Ok r) (hv : 0 < vr r) {N : Int} {ms : List Bool} (hl : ms.length = r.length) :
    ∀ (q : Nat) (u : Int), 9 ≤ u → u + q * many r ≤ N - 12 + many r → itr (nxt false r N) (q * per r) (u, ms) = (u + q * many r, ms) := by
  intro q
  have hm := many_pos hv
  induction q with
  | zero => intro u _ _; simp [itr]
  | succ q ih =>
    intro u h9 hN
    rw [sm] at hN ⊢
    have hq : 0 ≤ (q : Int) * many r := Int.mul_nonneg (by omega) (by omega)
    rw [Nat.succ_mul, Nat.add_comm, itr_add, per_itr h hl h9 (by omega), ← hm, ih (u + many r) (by omega) (by omega)]
    rw [show u + many r + q * many r = u + (q * many r + many r) by omega]
theorem dn_itr {r : Rc} (h : Ok r) (hv : vr r < 0) {N : Int} {ms : List Bool} (hl : ms.length = r.length) :
    ∀ (q : Nat) (u : Int), 9 ≤ u → u + q * many r ≤ N - 12 → itr (nxt false r N) (q * per r) (u + q * many r, ms) = (u, ms) := by
  intro q
  have hm := many_neg hv
  induction q with
  | zero => intro u _ _; simp [itr]
  | succ q ih =>
    intro u h9 hN
    rw [sm] at hN ⊢
    have hq : 0 ≤ (q : Int) * many r := Int.mul_nonneg (by omega) (by omega)
    rw [Nat.succ_mul, Nat.add_comm, itr_add, per_itr h hl (by omega) (by omega), show u + (q * many r + many r) + vr r = u + q * many r by omega, ih u h9 (by omega)]
theorem first_of (P : Nat → Prop) : (∀ k, P k) ∨ ∃ m, ¬ P m ∧ ∀ j, j < m → P j := by
  rcases Classical.em (∀ k, P k) with h | h
  · exact .inl h
  · right
    refine Classical.byContradiction fun hc => h fun k => ?_
    induction k using Nat.strongRecOn with
    | ind k ih => exact Classical.byContradiction fun hk => hc ⟨k, hk, ih⟩
theorem ring_at {r : Rc} (h : Ok r) {p : Pl} (hp : p.ok) {n : Int} (hn : 40 ≤ n) (q : Nat) (ho : On (nxt false r n) n (raw p n, fresh r)) :
    RingOk r n (q * many r) (raw p n, fresh r) (raw p (n + q * many r), fresh r) := by
  have hmp := many_le h
  have hd : 0 ≤ (q : Int) * many r := Int.mul_nonneg (by omega) (by omega)
  have hl : (fresh r).length = r.length := by simp [fresh]
  have hb := phi_bd r (raw p n, fresh r)
  simp only at hb
  have hr : raw p n = if p.rim then p.p else n - 1 - p.p := rfl
  have hr' : raw p (n + q * many r) = if p.rim then p.p else n + q * many r - 1 - p.p := rfl
  obtain ⟨p0, p5⟩ := hp
  cases hrim : p.rim
  · rw [hrim] at hr hr'
    simp only [Bool.false_eq_true, if_false] at hr hr'
    have hs : (raw p (n + q * many r), fresh r) = sh (q * many r) (raw p n, fresh r) := by
      show _ = (raw p n + q * many r, fresh r)
      rw [hr, hr', show n + q * many r - 1 - p.p = n - 1 - p.p + q * many r by omega]
    rw [hs]
    generalize raw p n = t at *
    rcases Int.lt_or_le (vr r) 0 with hv | hv
    · have hm := many_neg hv
      have same : ∀ m, (∀ j, j < m → 16 ≤ (itr (nxt false r n) j (t, fresh r)).1) → itr (nxt false r (n + q * many r)) m (sh (q * many r) (t, fresh r)) = sh (q * many r) (itr (nxt false r n) m (t, fresh r)) := by
        intro m
        induction m with
        | zero => intro _; rfl
        | succ m ih =>
          intro hj
          rw [itr_succ, itr_succ, ih (fun j hj' => hj j (by omega))]
          exact nxt_sh h _ _ hd (by have := hj m (by omega); omega)
      rcases first_of (fun k => 16 ≤ (itr (nxt false r n) k (t, fresh r)).1) with ha | ⟨m, hm1, hm2⟩
      · refine .inr ⟨vis_sh fun j => same j fun i _ => ha i, fun u hu => ?_⟩
        obtain ⟨j, _, hj⟩ := hu 0
        refine Classical.byContradiction fun hc => ?_
        have hb := phi_bd r (itr (nxt false r n) j (t, fresh r))
        exact falls h hv hn (chi' r (itr (nxt false r n) j (t, fresh r))).toNat (itr (nxt false r n) j (t, fresh r)) (by rw [itr_len]; exact hl) (by omega) (by omega) fun k => by rw [← itr_add]; exact ha (j + k)
      · have e1 := same m hm2
        have hm0 : 0 < m := by
          cases m with
          | zero => simp only [itr] at hm1; omega
          | succ m => omega
        have hprev := hm2 (m - 1) (by omega)
        have hst : itr (nxt false r n) m (t, fresh r) = nxt false r n (itr (nxt false r n) (m - 1) (t, fresh r)) := by
          have z := itr_succ (nxt false r n) (m - 1) (t, fresh r)
          rwa [show m - 1 + 1 = m by omega] at z
        have hbd := nxt_bd (al := false) h n (itr (nxt false r n) (m - 1) (t, fresh r))
        rw [← hst] at hbd
        have hl2 : (itr (nxt false r n) m (t, fresh r)).2.length = r.length := by rw [itr_len]; exact hl
        have ho2 := on_tail ho m
        have hb2 := phi_bd r (itr (nxt false r n) m (t, fresh r))
        have e3 := fun u => vis_tail (nxt false r n) m (t, fresh r) u
        have e4 := fun u => vis_tail (nxt false r (n + q * many r)) m (sh (q * many r) (t, fresh r)) u
        rw [e1] at e4
        generalize itr (nxt false r n) m (t, fresh r) = s' at *
        have e5 := dn_itr h hv (N := n + q * many r) hl2 q s'.1 (by omega) (by omega)
        have e6 := fun u => vis_tail (nxt false r (n + q * many r)) (q * per r) (sh (q * many r) s') u
        rw [show itr (nxt false r (n + q * many r)) (q * per r) (sh (q * many r) s') = s' from e5] at e6
        rcases ring_same h (by omega) hn hd hl2 (by omega) ho2 with ⟨a, b⟩ | ⟨a, b⟩
        · exact .inl ⟨fun u => ((e4 u).symm.trans (e6 u).symm).trans ((a u).trans (e3 u)), fun u hu => b u ((e3 u).2 hu)⟩
        · exact .inr ⟨fun u => ((e4 _).symm.trans (e6 _).symm).trans ((a u).trans (e3 u)), fun u hu => b u ((e3 u).2 hu)⟩
    · exact ring_far h hv hn hd hl (by omega) ho (by omega)
  · rw [hrim] at hr hr'
    simp only [if_true] at hr hr'
    have hs : raw p (n + q * many r) = raw p n := by omega
    rw [hs]
    generalize raw p n = t at *
    rcases Int.lt_or_le 0 (vr r) with hv | hv
    · have hm := many_pos hv
      have same : ∀ m, (∀ j, j < m → (itr (nxt false r n) j (t, fresh r)).1 < 16) → itr (nxt false r (n + q * many r)) m (t, fresh r) = itr (nxt false r n) m (t, fresh r) := by
        intro m
        induction m with
        | zero => intro _; rfl
        | succ m ih =>
          intro hj
          rw [itr_succ, itr_succ, ih (fun j hj' => hj j (by omega))]
          exact nxt_id h _ _ hd (by have := hj m (by omega); omega)
      rcases first_of (fun k => (itr (nxt false r n) k (t, fresh r)).1 < 16) with ha | ⟨m, hm1, hm2⟩
      · refine .inl ⟨fun u => ?_, fun u hu => ?_⟩
        · unfold Vis
          simp only [fun k => same k fun i _ => ha i]
        · obtain ⟨j, _, hj⟩ := hu 0
          have := ha j
          omega
      · have e1 := same m hm2
        have hm0 : 0 < m := by
          cases m with
          | zero => simp only [itr] at hm1; omega
          | succ m => omega
        have hprev := hm2 (m - 1) (by omega)
        have hst : itr (nxt false r n) m (t, fresh r) = nxt false r n (itr (nxt false r n) (m - 1) (t, fresh r)) := by
          have z := itr_succ (nxt false r n) (m - 1) (t, fresh r)
          rwa [show m - 1 + 1 = m by omega] at z
        have hbd := nxt_bd (al := false) h n (itr (nxt false r n) (m - 1) (t, fresh r))
        rw [← hst] at hbd
        have hl2 : (itr (nxt false r n) m (t, fresh r)).2.length = r.length := by rw [itr_len]; exact hl
        have ho2 := on_tail ho m
        have hb2 := phi_bd r (itr (nxt false r n) m (t, fresh r))
        have e3 := fun u => vis_tail (nxt false r n) m (t, fresh r) u
        have e4 := fun u => vis_tail (nxt false r (n + q * many r)) m (t, fresh r) u
        rw [e1] at e4
        generalize itr (nxt false r n) m (t, fresh r) = s' at *
        have e5 := up_itr h hv (N := n + q * many r) hl2 q s'.1 (by omega) (by omega)
        have e6 := fun u => vis_tail (nxt false r (n + q * many r)) (q * per r) s' u
        rw [show itr (nxt false r (n + q * many r)) (q * per r) s' = sh (q * many r) s' from e5] at e6
        rcases ring_far h (by omega) hn hd hl2 (by omega) ho2 (by omega) with ⟨a, b⟩ | ⟨a, b⟩
        · exact .inl ⟨fun u => ((e4 u).symm.trans (e6 u).symm).trans ((a u).trans (e3 u)), fun u hu => b u ((e3 u).2 hu)⟩
        · exact .inr ⟨fun u => ((e4 _).symm.trans (e6 _).symm).trans ((a u).trans (e3 u)), fun u hu => b u ((e3 u).2 hu)⟩
    · exact ring_same h hv hn hd hl (by omega) ho
end G.M
/-! Mt10: the ring of a run; small numbers of turns of the law and of the program. -/
namespace G.M
def ringT (v : En × List St × Nat) : List Int := (v.2.1.drop v.2.2).map (·.1)
theorem runH_path {f : St → St} {n : Int} (s0 : St) : ∀ k s h v, (∀ j, j < h.length → h[j]? = some (itr f j s0)) → s = itr f h.length s0 → runH f n k s h = some v → v.1 = .caught →
    (∀ j, j < v.2.1.length → v.2.1[j]? = some (itr f j s0)) ∧ v.2.2 < v.2.1.length ∧ itr f v.2.1.length s0 = itr f v.2.2 s0 := by
  intro k
  induction k with
  | zero => intro s h v _ _ e; simp [runH] at e
  | succ k ih =>
    intro s h v hp hs e hc
    simp only [runH] at e
    split at e
    · split at e
      · rename_i hm
        cases e
        have hi := List.idxOf_lt_length_of_mem hm
        refine ⟨hp, hi, ?_⟩
        have := hp _ hi
        rw [List.getElem?_eq_getElem hi, List.getElem_idxOf hi] at this
        rw [← hs]; exact Option.some.inj this
      · refine ih (f s) (h ++ [s]) v ?_ ?_ e hc
        · intro j hj
          simp only [List.length_append, List.length_singleton] at hj
          by_cases hj2 : j < h.length
          · rw [List.getElem?_append_left hj2]; exact hp j hj2
          · have : j = h.length := by omega
            subst this
            simp [hs]
        · simp only [List.length_append, List.length_singleton]
          rw [itr_succ, hs]
    · rename_i ho
      cases e
      simp only at hc
      split at hc <;> cases hc
theorem itr_loop {f : St → St} {s0 : St} {i L : Nat} (hi : i < L) (e : itr f L s0 = itr f i s0) : ∀ k, i ≤ k → itr f k s0 = itr f (i + (k - i) % (L - i)) s0 := by
  intro k
  induction k using Nat.strongRecOn with
  | ind k ih =>
    intro hk
    by_cases hL : k < L
    · rw [Nat.mod_eq_of_lt (by omega), show i + (k - i) = k by omega]
    · have := ih (k - (L - i)) (by omega) (by omega)
      have e2 : itr f k s0 = itr f (k - (L - i)) s0 := by
        rw [show k = L + (k - L) by omega, itr_add, e, ← itr_add]
        congr 1; omega
      rw [e2, this]
      congr 2
      rw [show k - i = (k - (L - i) - i) + (L - i) by omega, Nat.add_mod_right]
theorem mem_ring {f : St → St} {n : Int} {k : Nat} {s : St} {v : En × List St × Nat} (e : runH f n k s [] = some v) (hc : v.1 = .caught) (u : Int) : u ∈ ringT v ↔ Vis f s u := by
  obtain ⟨hp, hi, hl⟩ := runH_path s k s [] v (by intro j hj; simp at hj) rfl e hc
  obtain ⟨en, H, i⟩ := v
  simp only at hp hi hl
  unfold ringT
  simp only
  constructor
  · intro hu
    obtain ⟨x, hx, rfl⟩ := List.mem_map.1 hu
    obtain ⟨j, hj⟩ := List.mem_iff_getElem?.1 hx
    rw [List.getElem?_drop] at hj
    have hlt : i + j < H.length := (List.getElem?_eq_some_iff.1 hj).1
    have hx2 := hp _ hlt
    rw [hj] at hx2
    have hx3 : x = itr f (i + j) s := Option.some.inj hx2
    intro N
    refine ⟨i + j + N * (H.length - i), ?_, ?_⟩
    · have : N * 1 ≤ N * (H.length - i) := Nat.mul_le_mul_left N (by omega)
      omega
    · rw [itr_loop hi hl _ (by omega), show i + j + N * (H.length - i) - i = j + N * (H.length - i) by omega, Nat.add_mul_mod_self_right, Nat.mod_eq_of_lt (by omega), hx3]
  · intro hu
    obtain ⟨k, hk, rfl⟩ := hu i
    rw [itr_loop hi hl k hk]
    have hlt : (k - i) % (H.length - i) < H.length - i := Nat.mod_lt _ (by omega)
    refine List.mem_map.2 ⟨_, List.mem_iff_getElem?.2 ⟨(k - i) % (H.length - i), ?_⟩, rfl⟩
    rw [List.getElem?_drop]
    exact hp _ (by omega)
theorem runH_h {f : St → St} {n : Int} {L : Nat} (hf : ∀ s, (f s).2.length = s.2.length) : ∀ k s h v, s.2.length = L → h.Nodup → (∀ x ∈ h, Good L n x) → runH f n k s h = some v → v.2.1.Nodup ∧ ∀ x ∈ v.2.1, Good L n x := by
  intro k
  induction k with
  | zero => intro s h v _ _ _ e; simp [runH] at e
  | succ k ih =>
    intro s h v hl hn hg e
    simp only [runH] at e
    split at e
    · rename_i ho
      split at e
      · cases e; exact ⟨hn, hg⟩
      · rename_i hm
        refine ih (f s) (h ++ [s]) v (by rw [hf]; exact hl) ?_ ?_ e
        · rw [List.nodup_append]
          refine ⟨hn, by simp, ?_⟩
          intro a ha b hb z
          simp only [List.mem_singleton] at hb
          exact hm (hb ▸ z ▸ ha)
        · intro x hx
          rw [List.mem_append] at hx
          rcases hx with hx | hx
          · exact hg x hx
          · simp only [List.mem_singleton] at hx
            exact hx ▸ ⟨ho.1, ho.2, hl⟩
    · cases e; exact ⟨hn, hg⟩
def rT (al : Bool) (r : Rc) (n t : Int) : List Int := ringT (cr al r n t)
theorem rT_len {al r n t} (h3 : r.length ≤ 3) (h0 : 0 ≤ n) (hn : n ≤ 100) : (rT al r n t).length ≤ 800 := by
  have := runH_h (f := nxt al r n) (n := n) (L := r.length) (nxt_len r n) _ _ _ _ (by simp [fresh]) (by simp) (by simp) (cr_eq (al := al) (t := t) h3 (by omega))
  have hl := good_le this.1 this.2
  have : 2 ^ r.length ≤ 2 ^ 3 := Nat.pow_le_pow_right (by omega) h3
  have : n.toNat * 2 ^ r.length ≤ 100 * 2 ^ 3 := Nat.mul_le_mul (by omega) this
  unfold rT ringT
  rw [List.length_map, List.length_drop]
  omega
theorem rT_in {al r n t} (h3 : r.length ≤ 3) (hn : n ≤ 1000) : ∀ u ∈ rT al r n t, 0 ≤ u ∧ u < n := by
  have := runH_h (f := nxt al r n) (n := n) (L := r.length) (nxt_len r n) _ _ _ _ (by simp [fresh]) (by simp) (by simp) (cr_eq (al := al) (t := t) h3 hn)
  intro u hu
  obtain ⟨x, hx, rfl⟩ := List.mem_map.1 hu
  have := this.2 x (List.mem_of_mem_drop hx)
  exact ⟨this.1, this.2.1⟩
theorem agr_itr {r : Rc} {n : Int} : ∀ k t ms ms', Agr r ms ms' → (itr (nxt true r n) k (t, ms)).1 = (itr (nxt false r n) k (t, ms')).1 := by
  intro k
  induction k with
  | zero => intro t ms ms' _; rfl
  | succ k ih =>
    intro t ms ms' h
    have g := agr_nxt (n := n) (t := t) h
    have := ih (nxt true r n (t, ms)).1 _ _ g.2
    simp only [itr]
    rw [show ((nxt true r n (t, ms)).1, (nxt true r n (t, ms)).2) = nxt true r n (t, ms) from rfl] at this
    rw [this, g.1]
theorem mem_rT {al r n t} (h3 : r.length ≤ 3) (h0 : 0 ≤ n) (hn : n ≤ 1000) (hc : en r n t = .caught) (u : Int) : u ∈ rT al r n t ↔ Vis (nxt false r n) (t, fresh r) u := by
  have hc2 : (cr al r n t).1 = .caught := by
    cases al
    · exact hc
    · rw [(cr_true h3 h0 hn).1]; exact hc
  have := mem_ring (cr_eq (al := al) (t := t) h3 hn) hc2 u
  unfold rT
  rw [this]
  cases al
  · rfl
  · unfold Vis
    simp only [agr_itr _ t _ _ (agr_fresh r)]
theorem on_caught {r n t} (h3 : r.length ≤ 3) (h0 : 0 ≤ n) (hn : n ≤ 1000) (hc : en r n t = .caught) : On (nxt false r n) n (t, fresh r) := by
  rcases cr_spec (al := false) (t := t) h3 h0 hn with ⟨_, b⟩ | ⟨a, _⟩
  · exact on_of b
  · exact absurd hc a
def small (r : Rc) (n : Int) : Int := if n < 60 + many r then n else 60 + (n - 60).fmod (many r)
theorem small_spec {r : Rc} (h : Ok r) {n : Int} (hn : 100 ≤ n) : ∃ j k : Nat, small r n = few r n + j * many r ∧ n = small r n + k * many r ∧ (n - small r n).fdiv (many r) = k ∧ (n - few r n).fdiv (many r) = ((j + k : Nat) : Int) ∧
    60 ≤ small r n ∧ small r n < 65 ∧ 40 ≤ few r n ∧ few r n < 45 ∧ few r n ≠ n := by
  have hm := many_le h
  have hs : small r n = 60 + (n - 60).fmod (many r) := by unfold small; rw [if_neg (by omega)]
  have hf := few_can h (n := n) (by omega)
  have a1 := Int.mul_fdiv_add_fmod (n - 60) (many r)
  have a2 := Int.fmod_nonneg_of_pos (n - 60) (b := many r) (by omega)
  have a3 := Int.fmod_lt_of_pos (n - 60) (b := many r) (by omega)
  have b1 := Int.mul_fdiv_add_fmod (n - 40) (many r)
  have b2 := Int.fmod_nonneg_of_pos (n - 40) (b := many r) (by omega)
  have b3 := Int.fmod_lt_of_pos (n - 40) (b := many r) (by omega)
  have x1 : n - small r n = many r * (n - 60).fdiv (many r) := by omega
  have y1 : n - few r n = many r * (n - 40).fdiv (many r) := by omega
  have xd : (n - small r n).fdiv (many r) = (n - 60).fdiv (many r) := by rw [x1, Int.mul_comm, Int.mul_fdiv_cancel _ (by omega)]
  have yd : (n - few r n).fdiv (many r) = (n - 40).fdiv (many r) := by rw [y1, Int.mul_comm, Int.mul_fdiv_cancel _ (by omega)]
  generalize hX : (n - 60).fdiv (many r) = X at *
  generalize hY : (n - 40).fdiv (many r) = Y at *
  generalize small r n = S at *
  generalize few r n = F at *
  generalize hM : many r = M at *
  have hX0 : 0 ≤ X := by
    refine Classical.byContradiction fun hc => ?_
    have : M * X ≤ M * (-1) := Int.mul_le_mul_of_nonneg_left (by omega) (by omega)
    omega
  have hXY : X ≤ Y := by
    refine Classical.byContradiction fun hc => ?_
    have : M * (Y + 1) ≤ M * X := Int.mul_le_mul_of_nonneg_left (by omega) (by omega)
    rw [Int.mul_add] at this
    omega
  have hd : M * (Y - X) = M * Y - M * X := Int.mul_sub ..
  refine ⟨(Y - X).toNat, X.toNat, ?_, ?_, by omega, by omega, by omega, by omega, by omega, by omega, by omega⟩
  · rw [Int.toNat_of_nonneg (by omega), Int.mul_comm]; omega
  · rw [Int.toNat_of_nonneg hX0, Int.mul_comm]; omega
end G.M
/-! Mt11: what is heard first. -/
namespace G.M
/-- the turns heard first, at most m -/
def hd (f : St → St) (n : Int) : Nat → St → List Int
  | 0, _ => []
  | m + 1, s => if 0 ≤ s.1 ∧ s.1 < n then s.1 :: hd f n m (f s) else []
theorem hd_succ (f : St → St) (n : Int) (m s) : hd f n (m + 1) s = if 0 ≤ s.1 ∧ s.1 < n then s.1 :: hd f n m (f s) else [] := rfl
theorem hd_len (f : St → St) (n : Int) : ∀ m s, (hd f n m s).length ≤ m := by
  intro m
  induction m with
  | zero => intro s; simp [hd]
  | succ m ih =>
    intro s
    unfold hd
    split
    · simp only [List.length_cons]; have := ih (f s); omega
    · simp
theorem hd_take (f : St → St) (n : Int) : ∀ m M s, m ≤ M → hd f n m s = (hd f n M s).take m := by
  intro m
  induction m with
  | zero => intro M s _; simp [hd]
  | succ m ih =>
    intro M s h
    cases M with
    | zero => omega
    | succ M =>
      unfold hd
      split
      · rw [List.take_succ_cons, ih M (f s) (by omega)]
      · simp
theorem hd_agr {r : Rc} {n : Int} : ∀ m t ms ms', Agr r ms ms' → hd (nxt true r n) n m (t, ms) = hd (nxt false r n) n m (t, ms') := by
  intro m
  induction m with
  | zero => intro t ms ms' _; rfl
  | succ m ih =>
    intro t ms ms' h
    obtain ⟨a, b⟩ := agr_nxt (n := n) (t := t) h
    unfold hd
    have := ih (nxt true r n (t, ms)).1 _ _ b
    rw [show hd (nxt true r n) n m (nxt true r n (t, ms)) = hd (nxt true r n) n m ((nxt true r n (t, ms)).1, (nxt true r n (t, ms)).2) from rfl, this, a]
theorem hd_on {f : St → St} {n : Int} : ∀ m s, (∀ j, j < m → 0 ≤ (itr f j s).1 ∧ (itr f j s).1 < n) → hd f n m s = (List.range m).map fun j => (itr f j s).1 := by
  intro m
  induction m with
  | zero => intro s _; rfl
  | succ m ih =>
    intro s h
    unfold hd
    have h0 : 0 ≤ s.1 ∧ s.1 < n := h 0 (by omega)
    rw [if_pos h0, ih (f s) (fun j hj => h (j + 1) (by omega)), List.range_succ_eq_map, List.map_cons, List.map_map]
    rfl
theorem hd_off {f : St → St} {n : Int} : ∀ L s M, L ≤ M → ¬ (0 ≤ (itr f L s).1 ∧ (itr f L s).1 < n) → hd f n M s = hd f n L s := by
  intro L
  induction L with
  | zero =>
    intro s M _ h
    cases M with
    | zero => rfl
    | succ M => unfold hd; exact if_neg h
  | succ L ih =>
    intro s M hM h
    cases M with
    | zero => omega
    | succ M =>
      unfold hd
      rw [ih (f s) M (by omega) h]
/-- a run's states one after another -/
theorem runH_all {f : St → St} {n : Int} (s0 : St) : ∀ k s h v, (∀ j, j < h.length → h[j]? = some (itr f j s0) ∧ 0 ≤ (itr f j s0).1 ∧ (itr f j s0).1 < n) → s = itr f h.length s0 → runH f n k s h = some v →
    (∀ j, j < v.2.1.length → v.2.1[j]? = some (itr f j s0) ∧ 0 ≤ (itr f j s0).1 ∧ (itr f j s0).1 < n) ∧ (v.1 ≠ .caught → ¬ (0 ≤ (itr f v.2.1.length s0).1 ∧ (itr f v.2.1.length s0).1 < n)) := by
  intro k
  induction k with
  | zero => intro s h v _ _ e; simp [runH] at e
  | succ k ih =>
    intro s h v hp hs e
    simp only [runH] at e
    split at e
    · rename_i on
      split at e
      · cases e
        exact ⟨hp, fun h => absurd rfl h⟩
      · refine ih (f s) (h ++ [s]) v ?_ ?_ e
        · intro j hj
          simp only [List.length_append, List.length_singleton] at hj
          by_cases hj2 : j < h.length
          · rw [List.getElem?_append_left hj2]; exact hp j hj2
          · have : j = h.length := by omega
            subst this
            rw [← hs]
            exact ⟨by simp, on⟩
        · simp only [List.length_append, List.length_singleton]
          rw [itr_succ, hs]
    · rename_i ho
      cases e
      refine ⟨hp, fun _ => ?_⟩
      rw [← hs]; exact ho
def pos (v : En × List St × Nat) : List Int := v.2.1.map (·.1)
theorem pos_len (v) : (pos v).length = v.2.1.length := by simp [pos]
theorem pos_hd {f : St → St} {n : Int} {k s v} (e : runH f n k s [] = some v) : pos v = hd f n v.2.1.length s := by
  obtain ⟨hp, _⟩ := runH_all s k s [] v (by intro j hj; simp at hj) rfl e
  rw [hd_on _ _ fun j hj => (hp j hj).2]
  unfold pos
  refine List.ext_getElem? fun i => ?_
  rw [List.getElem?_map, List.getElem?_map]
  by_cases hi : i < v.2.1.length
  · rw [(hp i hi).1, List.getElem?_range hi]; rfl
  · rw [List.getElem?_eq_none (by omega), List.getElem?_eq_none (by simp; omega)]; rfl
/-- not caught: all is heard -/
theorem pos_all {f : St → St} {n : Int} {k s v} (e : runH f n k s [] = some v) (hc : v.1 ≠ .caught) (m : Nat) : hd f n m s = (pos v).take m := by
  obtain ⟨_, ho⟩ := runH_all s k s [] v (by intro j hj; simp at hj) rfl e
  rw [pos_hd e]
  by_cases hm : m ≤ v.2.1.length
  · exact hd_take f n m _ s hm
  · rw [hd_off v.2.1.length s m (by omega) (ho hc), List.take_of_length_le (by have := hd_len f n v.2.1.length s; omega)]
/-- caught: the ring once more -/
theorem pos_more {f : St → St} {n : Int} {k s v} (e : runH f n k s [] = some v) (hc : v.1 = .caught) (on : ∀ j, 0 ≤ (itr f j s).1 ∧ (itr f j s).1 < n) :
    v.2.2 < v.2.1.length ∧ ∀ q : Nat, hd f n (v.2.1.length + q * (v.2.1.length - v.2.2)) s ++ (pos v).drop v.2.2 = hd f n (v.2.1.length + (q + 1) * (v.2.1.length - v.2.2)) s := by
  obtain ⟨hp, hi, hl⟩ := runH_path s k s [] v (by intro j hj; simp at hj) rfl e hc
  refine ⟨hi, fun q => ?_⟩
  have lp := itr_loop hi hl
  rw [pos_hd e]
  generalize hL : v.2.1.length = L at *
  generalize hA : v.2.2 = A at *
  rw [hd_on _ _ fun j _ => on j, hd_on _ _ fun j _ => on j, hd_on _ _ fun j _ => on j]
  have e1 : L + (q + 1) * (L - A) = (L + q * (L - A)) + (L - A) := by rw [Nat.succ_mul]; omega
  rw [e1]
  refine List.ext_getElem? fun i => ?_
  by_cases h1 : i < L + q * (L - A)
  · rw [List.getElem?_append_left (by simpa using h1), List.getElem?_map, List.getElem?_map, List.getElem?_range h1, List.getElem?_range (by omega)]
  · rw [List.getElem?_append_right (by simpa using h1)]
    simp only [List.length_map, List.length_range]
    by_cases h2 : i < (L + q * (L - A)) + (L - A)
    · rw [List.getElem?_drop, List.getElem?_map, List.getElem?_map, List.getElem?_range (by omega), List.getElem?_range h2]
      simp only [Option.map_some, Option.some.injEq]
      have a1 := lp i (by omega)
      have a2 : (i - A) % (L - A) = i - (L + q * (L - A)) := by
        have : i - A = (i - (L + q * (L - A))) + (q + 1) * (L - A) := by rw [Nat.succ_mul]; omega
        rw [this, Nat.add_mul_mod_self_right, Nat.mod_eq_of_lt (by omega)]
      rw [a1, a2]
    · rw [List.getElem?_eq_none (by simp; omega), List.getElem?_eq_none (by simp; omega)]
theorem on_true {r n t} (h3 : r.length ≤ 3) (h0 : 0 ≤ n) (hn : n ≤ 1000) (hc : en r n t = .caught) : On (nxt true r n) n (t, fresh r) := by
  intro k
  rw [agr_itr k t _ _ (agr_fresh r)]
  exact on_caught h3 h0 hn hc k
theorem cr_len {al r n t} (h3 : r.length ≤ 3) (h0 : 0 ≤ n) (hn : n ≤ 100) : (cr al r n t).2.1.length ≤ 800 := by
  obtain ⟨nd, hg⟩ := runH_h (f := nxt al r n) (n := n) (L := r.length) (nxt_len r n) 1000000 (t, fresh r) [] (cr al r n t) (by simp [fresh]) (by simp) (by simp) (cr_eq h3 (by omega))
  have := good_le nd hg
  have : 2 ^ r.length ≤ 2 ^ 3 := Nat.pow_le_pow_right (by omega) h3
  have : n.toNat * 2 ^ r.length ≤ 100 * 2 ^ 3 := Nat.mul_le_mul (by omega) this
  omega
end G.M
/-! Mt12: records told back: does it sound so; two sounds that agree for long agree for ever; the least of rows. -/
namespace G.M
/-- does it go on so -/
def so (f : St → St) : St → List Int → Bool
  | _, [] => true
  | s, v :: vs => decide ((f s).1 = v) && so f (f s) vs
theorem so_hd {f : St → St} {n : Int} : ∀ (vs : List Int) (s : St), (∀ v ∈ vs, 0 ≤ v ∧ v < n) → so f s vs = decide (hd f n vs.length (f s) = vs) := by
  intro vs
  induction vs with
  | nil => intro s _; simp [so, hd]
  | cons v vs ih =>
    intro s h
    have h0 := h v (by simp)
    rw [List.length_cons, hd_succ]
    unfold so
    rw [ih (f s) fun x hx => h x (by simp [hx])]
    by_cases e : (f s).1 = v
    · rw [if_pos (by rw [e]; exact h0)]
      simp [e]
    · by_cases o : 0 ≤ (f s).1 ∧ (f s).1 < n
      · rw [if_pos o]; simp [e]
      · rw [if_neg o]; simp [e]
/-- the whole told value, its first turn with it -/
theorem so_all {f : St → St} {n : Int} {s : St} (v : Int) (vs : List Int) (hs : s.1 = v) (h : ∀ x ∈ v :: vs, 0 ≤ x ∧ x < n) : so f s vs = decide (hd f n (v :: vs).length s = v :: vs) := by
  rw [List.length_cons, hd_succ, so_hd vs s fun x hx => h x (by simp [hx])]
  have h0 := h v (by simp)
  rw [if_pos (by rw [hs]; exact h0), hs]
  simp
theorem fw {x y : Nat → Int} {A B p q N : Nat} (hx : ∀ k, A ≤ k → x (k + p) = x k) (hy : ∀ k, B ≤ k → y (k + q) = y k) (h : ∀ k, k < N → x k = y k) (h1 : A + p + q ≤ N) (h2 : B + p + q ≤ N) (hp : 0 < p) (hq : 0 < q) : ∀ k, x k = y k := by
  intro k
  induction k using Nat.strongRecOn with
  | ind k ih =>
    by_cases hk : k < N
    · exact h k hk
    · have a1 := hx (k - p) (by omega)
      have a2 := hy (k - p - q) (by omega)
      have a3 := hx (k - p - q) (by omega)
      have a4 := hy (k - q) (by omega)
      have b1 := ih (k - p) (by omega)
      have b2 := ih (k - p - q) (by omega)
      have b3 := ih (k - q) (by omega)
      rw [show k - p + p = k by omega] at a1
      rw [show k - p - q + q = k - p by omega] at a2
      rw [show k - p - q + p = k - q by omega] at a3
      rw [show k - q + q = k by omega] at a4
      omega
theorem cr_bd {al r n t} (h3 : r.length ≤ 3) (h0 : 0 ≤ n) (hn : n ≤ 100) : (cr al r n t).2.1.length ≤ 8 * n.toNat := by
  obtain ⟨nd, hg⟩ := runH_h (f := nxt al r n) (n := n) (L := r.length) (nxt_len r n) 1000000 (t, fresh r) [] (cr al r n t) (by simp [fresh]) (by simp) (by simp) (cr_eq h3 (by omega))
  have := good_le nd hg
  have : 2 ^ r.length ≤ 2 ^ 3 := Nat.pow_le_pow_right (by omega) h3
  have : n.toNat * 2 ^ r.length ≤ n.toNat * 2 ^ 3 := Nat.mul_le_mul (by omega) this
  omega
/-- a caught run comes again -/
theorem again {r : Rc} {n t : Int} (h3 : r.length ≤ 3) (hn : n ≤ 1000) (hc : en r n t = .caught) : (cr false r n t).2.2 < (cr false r n t).2.1.length ∧
    ∀ k, (cr false r n t).2.2 ≤ k → (itr (nxt false r n) (k + ((cr false r n t).2.1.length - (cr false r n t).2.2)) (t, fresh r)).1 = (itr (nxt false r n) k (t, fresh r)).1 := by
  obtain ⟨hp, hi, hl⟩ := runH_path (t, fresh r) 1000000 (t, fresh r) [] (cr false r n t) (by intro j hj; simp at hj) rfl (cr_eq (al := false) (t := t) h3 hn) hc
  refine ⟨hi, fun k hk => ?_⟩
  have e : k + ((cr false r n t).2.1.length - (cr false r n t).2.2) = (cr false r n t).2.1.length + (k - (cr false r n t).2.2) := by omega
  rw [e, itr_add, hl, ← itr_add]
  congr 3
  omega
theorem hd_all {r : Rc} {n t : Int} (h3 : r.length ≤ 3) (h0 : 0 ≤ n) (hn : n ≤ 1000) (hc : en r n t = .caught) (m : Nat) : hd (nxt false r n) n m (t, fresh r) = (List.range m).map fun j => (itr (nxt false r n) j (t, fresh r)).1 :=
  hd_on m _ fun j _ => on_caught h3 h0 hn hc j
/-- first turns that agree for long -/
theorem far_eq {r r' : Rc} {n t : Int} (h3 : r.length ≤ 3) (h3' : r'.length ≤ 3) (h0 : 0 ≤ n) (hn : n ≤ 100) (hc : en r n t = .caught) (hc' : en r' n t = .caught) :
    decide (hd (nxt false r n) n (16 * n.toNat) (t, fresh r) = hd (nxt false r' n) n (16 * n.toNat) (t, fresh r')) = decide (hd (nxt false r n) n (18 * n.toNat) (t, fresh r) = hd (nxt false r' n) n (18 * n.toNat) (t, fresh r')) := by
  obtain ⟨i1, p1⟩ := again h3 (by omega) hc
  obtain ⟨i2, p2⟩ := again h3' (by omega) hc'
  have b1 := cr_bd (al := false) (t := t) h3 h0 hn
  have b2 := cr_bd (al := false) (t := t) h3' h0 hn
  congr 1
  refine propext ⟨fun e => ?_, fun e => ?_⟩
  · rw [hd_all h3 h0 (by omega) hc, hd_all h3' h0 (by omega) hc'] at e ⊢
    have all := fw (x := fun k => (itr (nxt false r n) k (t, fresh r)).1) (y := fun k => (itr (nxt false r' n) k (t, fresh r')).1) (A := (cr false r n t).2.2) (B := (cr false r' n t).2.2) (p := (cr false r n t).2.1.length - (cr false r n t).2.2) (q := (cr false r' n t).2.1.length - (cr false r' n t).2.2) p1 p2 (N := 16 * n.toNat) (fun k hk => by
      have := congrArg (fun l => l[k]?) e
      simp only [List.getElem?_map, List.getElem?_range hk, Option.map_some, Option.some.injEq] at this
      exact this) (by omega) (by omega) (by omega) (by omega)
    exact List.map_congr_left fun k _ => all k
  · rw [hd_take _ _ (16 * n.toNat) (18 * n.toNat) _ (by omega), hd_take (nxt false r' n) _ (16 * n.toNat) (18 * n.toNat) _ (by omega), e]
theorem hd_len_on {r : Rc} {n t : Int} (h3 : r.length ≤ 3) (h0 : 0 ≤ n) (hn : n ≤ 1000) (hc : en r n t = .caught) (m : Nat) : (hd (nxt false r n) n m (t, fresh r)).length = m := by
  rw [hd_all h3 h0 hn hc]; simp
/-- not caught: all of it is short -/
theorem hd_short {r : Rc} {n t : Int} (h3 : r.length ≤ 3) (h0 : 0 ≤ n) (hn : n ≤ 100) (hc : en r n t ≠ .caught) (m : Nat) (hm : 8 * n.toNat ≤ m) : hd (nxt false r n) n m (t, fresh r) = pos (cr false r n t) := by
  have b := cr_bd (al := false) (t := t) h3 h0 hn
  rw [pos_all (cr_eq (al := false) (t := t) h3 (by omega)) hc, List.take_of_length_le (by rw [pos_len]; omega)]
/-- the ring again and again -/
theorem reps {f : St → St} {n : Int} {k s v} (e : runH f n k s [] = some v) (hc : v.1 = .caught) (on : ∀ j, 0 ≤ (itr f j s).1 ∧ (itr f j s).1 < n) (q : Nat) :
    (pos v).take v.2.2 ++ (List.replicate (q + 1) ((pos v).drop v.2.2)).flatten = hd f n (v.2.1.length + q * (v.2.1.length - v.2.2)) s := by
  obtain ⟨hi, hm⟩ := pos_more e hc on
  induction q with
  | zero =>
    rw [Nat.zero_mul, Nat.add_zero v.2.1.length, ← pos_hd e]
    simp
  | succ q ih =>
    rw [← hm q, ← ih, List.append_assoc]
    congr 1
    rw [List.replicate_succ', List.flatten_append]
    simp
/-- what tells all that is heard -/
def snd (r : Rc) (n t : Int) : Bool × List Int := if en r n t = .caught then (true, hd (nxt false r n) n (16 * n.toNat) (t, fresh r)) else (false, pos (cr false r n t))
/-- the law's own -/
def lsn (r : Rc) (n t : Int) : List Int := hd (nxt true r n) n (18 * n.toNat) (t, fresh r)
theorem lsn_eq (r : Rc) (n t : Int) : lsn r n t = hd (nxt false r n) n (18 * n.toNat) (t, fresh r) := hd_agr _ _ _ _ (agr_fresh r)
theorem snd_eq {r r' : Rc} {n t : Int} (h3 : r.length ≤ 3) (h3' : r'.length ≤ 3) (h1 : 1 ≤ n) (hn : n ≤ 100) : decide (snd r n t = snd r' n t) = decide (lsn r n t = lsn r' n t) := by
  rw [lsn_eq, lsn_eq]
  unfold snd
  by_cases hc : en r n t = .caught <;> by_cases hc' : en r' n t = .caught
  · rw [if_pos hc, if_pos hc', ← far_eq h3 h3' (by omega) hn hc hc']
    simp only [Prod.mk.injEq, true_and]
  · rw [if_pos hc, if_neg hc', decide_eq_false (by simp), hd_short h3' (by omega) hn hc' _ (by omega)]
    refine (decide_eq_false fun z => ?_).symm
    have l1 := hd_len_on h3 (by omega) (by omega) hc (18 * n.toNat)
    have l2 := cr_bd (al := false) (t := t) h3' (by omega) hn
    rw [z, pos_len] at l1
    omega
  · rw [if_neg hc, if_pos hc', decide_eq_false (by simp), hd_short h3 (by omega) hn hc _ (by omega)]
    refine (decide_eq_false fun z => ?_).symm
    have l1 := hd_len_on h3' (by omega) (by omega) hc' (18 * n.toNat)
    have l2 := cr_bd (al := false) (t := t) h3 (by omega) hn
    rw [← z, pos_len] at l1
    omega
  · rw [if_neg hc, if_neg hc', hd_short h3 (by omega) hn hc _ (by omega), hd_short h3' (by omega) hn hc' _ (by omega)]
    simp only [Prod.mk.injEq, true_and]
theorem hd_in (f : St → St) (n : Int) : ∀ m s, ∀ v ∈ hd f n m s, 0 ≤ v ∧ v < n := by
  intro m
  induction m with
  | zero => intro s v hv; simp [hd] at hv
  | succ m ih =>
    intro s v hv
    rw [hd_succ] at hv
    split at hv
    · rename_i o
      rcases List.mem_cons.1 hv with rfl | hv
      · exact o
      · exact ih _ _ hv
    · simp at hv
end G.M
/-! Enc: records, places and states as data; how the evaluator is worked. -/
namespace G
open PySem
open G.M (Pl Sc Rc St En)

theorem ofS_inj (a b : String) : (Str.ofString a = Str.ofString b) = (a = b) := by
  refine propext ⟨fun h => ?_, fun h => h ▸ rfl⟩
  rw [Str.ofString_eq_toList, Str.ofString_eq_toList] at h
  simp only [Str.mk.injEq, List.toArray_inj] at h
  have h2 : ∀ x y : List Char, x.map Char.toNat = y.map Char.toNat → x = y := by
    intro x
    induction x with
    | nil => intro y e; cases y with
      | nil => rfl
      | cons _ _ => simp at e
    | cons c x ih => intro y e; cases y with
      | nil => simp at e
      | cons d y =>
        simp only [List.map_cons, List.cons.injEq] at e
        rw [ih y e.2, Char.ext (UInt32.toNat_inj.1 e.1)]
  exact String.toList_inj.1 (h2 _ _ (by simpa using congrArg Array.toList h))
theorem ofS_ok (a : String) : (Str.ofString a).cps.all (· < 0x110000) = true := by
  rw [Str.ofString_eq_toList]
  simp only [List.size_toArray, List.length_map, List.all_toArray', List.all_map, List.all_eq_true, Function.comp, decide_eq_true_eq]
  intro c _
  rcases c.valid with h | h
  · show c.val.toNat < _
    have : c.val.toNat < 0xd800 := h
    omega
  · show c.val.toNat < _
    have : c.val.toNat < 0x110000 := h.2
    omega
def wS (b : Bool) : Str := if b then "rim" else "mid"
def wE : En → Str
  | .out => "out"
  | .off => "off"
  | .caught => "caught"
def dPl (p : Pl) : D := .tup [.str (wS p.rim), .int p.p]
def dEv (e : Bool) : D := .int (if e then 2 else 1)
def dSc (s : Sc) : D := .tup [dPl s.a, dPl s.b, .int s.j, dEv s.e]
def dRc (r : Rc) : D := .tup (r.map dSc)
def dMs (ms : List Bool) : D := .tup (ms.map .bl)
def dSt (s : St) : D := .tup [.int s.1, dMs s.2]
def dIs (xs : List Int) : List D := xs.map .int
theorem wS_ok (b : Bool) : (wS b).cps.all (· < 0x110000) = true := by unfold wS; split <;> exact ofS_ok _
theorem wE_ok (b : En) : (wE b).cps.all (· < 0x110000) = true := by cases b <;> exact ofS_ok _
theorem wS_rim (b : Bool) : (wS b = Str.ofString "rim") = (b = true) := by
  cases b <;> simp [wS, ofS_inj]
theorem wE_inj (a b : En) : (wE a = wE b) = (a = b) := by
  cases a <;> cases b <;> simp [wE, ofS_inj]
theorem eqs_map {α : Type} [DecidableEq α] (f : α → D) (h : ∀ a b, D.eq (f a) (f b) = decide (a = b)) : ∀ xs ys : List α, D.eqs (xs.map f) (ys.map f) = decide (xs = ys) := by
  intro xs
  induction xs with
  | nil => intro ys; cases ys <;> simp [D.eqs]
  | cons x xs ih => intro ys; cases ys with
    | nil => simp [D.eqs]
    | cons y ys => simp [D.eqs, h, ih, Bool.decide_and]
theorem eq_ms (a b : List Bool) : D.eq (dMs a) (dMs b) = decide (a = b) := by
  unfold dMs; rw [D.eq]; exact eqs_map _ (by intro a b; cases a <;> cases b <;> rfl) a b
theorem eq_st (a b : St) : D.eq (dSt a) (dSt b) = decide (a = b) := by
  obtain ⟨t, m⟩ := a; obtain ⟨u, l⟩ := b
  simp only [dSt, D.eq, D.eqs, eq_ms, Bool.and_true, Prod.mk.injEq, Bool.decide_and]
  congr 1
theorem keys_map {α : Type} (f : α → D) (n : Nat) (h : ∀ a, D.keyIn n (f a) = true) : ∀ xs : List α, D.keysIn n (xs.map f) = true := by
  intro xs
  induction xs with
  | nil => rfl
  | cons x xs ih => simp only [List.map_cons, D.keysIn, h, ih, Bool.and_true]
theorem key_st (s : St) : D.key (dSt s) = true := by
  simp only [D.key, dSt, dMs, D.isTup, D.keyIn, D.keysIn, Bool.true_and, Bool.and_true]
  exact keys_map _ _ (by intro a; rfl) _
theorem shps_map {α : Type} (f : α → D) (n : Nat) (h : ∀ a, D.shp n (f a) = true) : ∀ xs : List α, D.shps n (xs.map f) = true := by
  intro xs
  induction xs with
  | nil => simp [D.shps]
  | cons x xs ih => simp only [List.map_cons, D.shps, h, ih, Bool.and_true]
theorem shp_int (n i) : D.shp n (.int i) = true := by cases n <;> simp only [D.shp]
theorem shp_bl (n i) : D.shp n (.bl i) = true := by cases n <;> simp only [D.shp]
theorem shp_non (n) : D.shp n .non = true := by cases n <;> simp only [D.shp]
theorem shp_wS (n b) : D.shp n (.str (wS b)) = true := by cases n <;> simp only [D.shp, wS_ok]
theorem shp_wE (n b) : D.shp n (.str (wE b)) = true := by cases n <;> simp only [D.shp, wE_ok]
theorem shp_S (n b) : D.shp n (.str (Str.ofString b)) = true := by cases n <;> simp only [D.shp, ofS_ok]
theorem shp_dPl (n p) : D.shp (n + 1) (dPl p) = true := by simp only [dPl, D.shp, D.shps, wS_ok, shp_wS, shp_int, Bool.and_true]

/-! ### the tactic that works the evaluator -/
theorem lift_some {S α : Type} (a : α) (s : S) : lift (some a) s = .ok a s := rfl
theorem lift_none {S α : Type} (s : S) : lift (none : Option α) s = .no := rfl
theorem bnd_ok {S α β : Type} (a : α) (s : S) (f : α → S → Out S β) : (Out.ok a s).bind f = f a s := rfl
theorem bind_ex {S α β : Type} (c : Exn) (s : S) (f : α → S → Out S β) : (Out.ex c s : Out S α).bind f = .ex c s := rfl
theorem bind_no {S α β : Type} (f : α → S → Out S β) : (Out.no : Out S α).bind f = .no := rfl
theorem bind_ite {S α β : Type} {p : Prop} [Decidable p] (x y : Out S α) (f : α → S → Out S β) : (if p then x else y).bind f = if p then x.bind f else y.bind f := by split <;> rfl
theorem lift_ite {S α : Type} {p : Prop} [Decidable p] (x y : Option α) (s : S) : lift (if p then x else y) s = if p then lift x s else lift y s := by split <;> rfl
end G
/-! Ev: loops and comprehensions of the evaluator, in one piece. -/
namespace G
open PySem
/-- a slot that holds data, or nothing yet -/
def osl : Option D → Sl
  | none => .no
  | some d => .ro d
def frS : Sl → Bool
  | .ow true _ => false
  | _ => true
def noS : Sl → Bool
  | .ow _ _ => false
  | _ => true
theorem free_zero (s : Sl) (l : List Sl) : free (s :: l) 0 = frS s := by
  rcases s with _ | _ | ⟨b, _⟩
  · rfl
  · rfl
  · cases b <;> rfl
theorem free_succ (s : Sl) (l : List Sl) (i : Nat) : free (s :: l) (i + 1) = free l i := by simp [free]
theorem notOwn_zero (s : Sl) (l : List Sl) : notOwn (s :: l) 0 = noS s := by cases s <;> simp [notOwn, noS]
theorem notOwn_succ (s : Sl) (l : List Sl) (i : Nat) : notOwn (s :: l) (i + 1) = notOwn l i := by simp [notOwn]
theorem frS_ro (d) : frS (.ro d) = true := rfl
theorem frS_no : frS .no = true := rfl
theorem frS_ow (b o) : frS (.ow b o) = !b := by cases b <;> rfl
theorem frS_osl (a) : frS (osl a) = true := by cases a <;> rfl
theorem noS_ro (d) : noS (.ro d) = true := rfl
theorem noS_no : noS .no = true := rfl
theorem noS_ow (b o) : noS (.ow b o) = false := by cases b <;> rfl
theorem noS_osl (a) : noS (osl a) = true := by cases a <;> rfl
theorem osl_some (d) : osl (some d) = Sl.ro d := rfl
theorem osl_none : osl none = Sl.no := rfl
theorem fre_set {δ : Env} {v : Nat} (h : v < δ.length) (s : Sl) : free (δ.set v s) v = frS s := by
  rcases s with _ | _ | ⟨b, _⟩
  · simp [free, frS, h]
  · simp [free, frS, h]
  · cases b <;> simp [free, frS, h]
theorem asD_d (x : D) : asD (.d x) = some x := rfl
theorem asBl_d (x : Bool) : asBl (.d (.bl x)) = some x := rfl
theorem comp1 {T : List Fn} {v : Nat} {it elt : E} {δ : Env} {xs : List D} (h : D → D) (hit : evi T it δ = .ok xs δ) (hv : notOwn δ v = true) (hlt : v < δ.length) (hl : xs.length ≤ big)
    (hE : ∀ x ∈ xs, ev T elt (δ.set v (.ro x)) = .ok (.d (h x)) (δ.set v (.ro x))) : ev T (.comp [v] [v] it elt) δ = .ok (.d (.lst (xs.map h))) δ := by
  have key : ∀ (ys : List D) (acc : List D) (s : Sl), (∀ x ∈ ys, x ∈ xs) → ∃ s', compL (fun x δ' => (lift (bindC [v] x (wipeE δ' [v])) δ').bind fun δ1 _ => (ev T elt δ1).bind fun y δ2 => (lift (asD y) δ2).bind fun y δ => .ok (some y) δ) ys acc (δ.set v s) = .ok (acc ++ ys.map h) (δ.set v s') := by
    intro ys
    induction ys with
    | nil => intro acc s _; exact ⟨s, by simp [compL]⟩
    | cons y ys ih =>
      intro acc s hm
      have h1 : bindC [v] y (wipeE (δ.set v s) [v]) = some (δ.set v (.ro y)) := by
        simp only [bindC, wipeE, List.set_set, setRo]
        rw [fre_set hlt]
        simp [frS_no]
      simp only [compL, h1, lift_some, bnd_ok, hE y (hm y (by simp)), asD_d]
      obtain ⟨s', e⟩ := ih (acc ++ [h y]) (.ro y) (fun x hx => hm x (by simp [hx]))
      exact ⟨s', by rw [e]; simp⟩
  simp only [ev, hit, bnd_ok]
  rw [if_pos ⟨by simp [hv], hl⟩]
  obtain ⟨s', e⟩ := key xs [] δ[v] (fun _ h => h)
  rw [List.set_getElem_self] at e
  rw [e, bnd_ok]
  simp only [List.nil_append, restE, List.set_set, List.getElem?_eq_getElem hlt]
  rw [List.set_getElem_self]
theorem compc1 {T : List Fn} {v : Nat} {it c elt : E} {δ : Env} {xs : List D} (p : D → Bool) (h : D → D) (hit : evi T it δ = .ok xs δ) (hv : notOwn δ v = true) (hlt : v < δ.length) (hl : xs.length ≤ big)
    (hC : ∀ x ∈ xs, ev T c (δ.set v (.ro x)) = .ok (.d (.bl (p x))) (δ.set v (.ro x)))
    (hE : ∀ x ∈ xs, p x = true → ev T elt (δ.set v (.ro x)) = .ok (.d (h x)) (δ.set v (.ro x))) : ev T (.compc [v] [v] it c elt) δ = .ok (.d (.lst ((xs.filter p).map h))) δ := by
  have key : ∀ (ys : List D) (acc : List D) (s : Sl), (∀ x ∈ ys, x ∈ xs) → ∃ s', compL (fun x δ' => (lift (bindC [v] x (wipeE δ' [v])) δ').bind fun δ1 _ => (ev T c δ1).bind fun t δ2 => (lift (asBl t) δ2).bind fun t δ2 =>
        if t then (ev T elt δ2).bind fun y δ3 => (lift (asD y) δ3).bind fun y δ => .ok (some y) δ else .ok none δ2) ys acc (δ.set v s) = .ok (acc ++ (ys.filter p).map h) (δ.set v s') := by
    intro ys
    induction ys with
    | nil => intro acc s _; exact ⟨s, by simp [compL]⟩
    | cons y ys ih =>
      intro acc s hm
      have h1 : bindC [v] y (wipeE (δ.set v s) [v]) = some (δ.set v (.ro y)) := by
        simp only [bindC, wipeE, List.set_set, setRo]
        rw [fre_set hlt]
        simp [frS_no]
      cases hp : p y
      · simp only [compL, h1, lift_some, bnd_ok, hC y (hm y (by simp)), hp, asBl_d, Bool.false_eq_true, if_false]
        obtain ⟨s', e⟩ := ih acc (.ro y) (fun x hx => hm x (by simp [hx]))
        exact ⟨s', by rw [e]; simp [hp]⟩
      · simp only [compL, h1, lift_some, bnd_ok, hC y (hm y (by simp)), hp, asBl_d, if_true, hE y (hm y (by simp)) hp, asD_d]
        obtain ⟨s', e⟩ := ih (acc ++ [h y]) (.ro y) (fun x hx => hm x (by simp [hx]))
        exact ⟨s', by rw [e]; simp [hp]⟩
  simp only [ev, hit, bnd_ok]
  rw [if_pos ⟨by simp [hv], hl⟩]
  obtain ⟨s', e⟩ := key xs [] δ[v] (fun _ h => h)
  rw [List.set_getElem_self] at e
  rw [e, bnd_ok]
  simp only [List.nil_append, restE, List.set_set, List.getElem?_eq_getElem hlt]
  rw [List.set_getElem_self]
def enumF : Nat → List D → List D
  | _, [] => []
  | i, x :: xs => .tup [.int (i : Nat), x] :: enumF (i + 1) xs
theorem enumD_eq (xs : List D) : enumD xs = enumF 0 xs := by
  have : ∀ (xs : List D) (k : Nat), (List.range' k xs.length).zipWith (fun i x => D.tup [.int (i : Nat), x]) xs = enumF k xs := by
    intro xs
    induction xs with
    | nil => intro k; rfl
    | cons x xs ih => intro k; simp only [List.length_cons, List.range'_succ, List.zipWith_cons_cons, enumF, ih]
  unfold enumD
  rw [List.range_eq_range', this]
theorem blsD_map (l : List Bool) : blsD (l.map .bl) = some l := by
  induction l with
  | nil => rfl
  | cons b l ih => simp [blsD, ih]
theorem intsD_map (l : List Int) : intsD (l.map .int) = some l := by
  induction l with
  | nil => rfl
  | cons b l ih => simp [intsD, ih]
theorem strsD_map (l : List Str) : strsD (l.map .str) = some l := by
  induction l with
  | nil => rfl
  | cons b l ih => simp [strsD, ih]
theorem repD_one (x : D) (k : Nat) : repD [x] (k : Int) = List.replicate k x := by
  unfold repD
  simp only [Int.toNat_natCast]
  induction k with
  | zero => rfl
  | succ k ih => simp [List.replicate_succ, ih]
theorem bind_congr' {S α β : Type} {x x' : Out S α} {f : α → S → Out S β} (h : x = x') : x.bind f = x'.bind f := by rw [h]
section
variable {α β : Type} (a b : α) (l m : List α) (i j : Nat) (p q : Prop) (x y : Bool) (u v : Int)
theorem s1 : (a :: l)[0]? = some a := rfl
theorem s2 : (a :: l)[i + 1]? = l[i]? := rfl
theorem s3 : ([] : List α)[i]? = none := rfl
theorem s4 : (a :: l).set 0 b = b :: l := rfl
theorem s5 : (a :: l).set (i + 1) b = a :: l.set i b := rfl
theorem s6 (f : α → Bool) : (a :: l).all f = (f a && l.all f) := rfl
theorem s7 (f : α → Bool) : ([] : List α).all f = true := rfl
theorem s8 : (a :: l).length = l.length + 1 := rfl
theorem s9 : ([] : List α).length = 0 := rfl
theorem s10 : List.replicate (i + 1) a = a :: List.replicate i a := rfl
theorem s11 : List.replicate 0 a = [] := rfl
theorem s12 : (a :: l) ++ m = a :: (l ++ m) := rfl
theorem s13 : [] ++ m = m := rfl
theorem s14 : l ++ [] = l := List.append_nil l
theorem s15 : ([] : List α).Nodup = True := eq_true List.nodup_nil
theorem s16 : (a :: l).Nodup = (a ∉ l ∧ l.Nodup) := propext List.nodup_cons
theorem s17 : (a ∈ (b :: l)) = (a = b ∨ a ∈ l) := propext List.mem_cons
theorem s18 : (a ∈ ([] : List α)) = False := eq_false (by simp)
theorem s19 (f : α → β) : Option.map f (some a) = some (f a) := rfl
theorem s20 (f : α → β) : Option.map f none = none := rfl
theorem s21 : (x && true) = x := Bool.and_true x
theorem s22 : (true && x) = x := Bool.true_and x
theorem s23 : (x && false) = false := Bool.and_false x
theorem s24 : (false && x) = false := Bool.false_and x
theorem s25 : (x || true) = true := Bool.or_true x
theorem s26 : (true || x) = true := Bool.true_or x
theorem s27 : (x || false) = x := Bool.or_false x
theorem s28 : (false || x) = x := Bool.false_or x
theorem s29 : (!true) = false := rfl
theorem s30 : (!false) = true := rfl
theorem s31 : (p ∧ True) = p := and_true p
theorem s32 : (True ∧ p) = p := true_and p
theorem s33 : (p ∧ False) = False := and_false p
theorem s34 : (False ∧ p) = False := false_and p
theorem s35 : (p ∨ False) = p := or_false p
theorem s36 : (False ∨ p) = p := false_or p
theorem s37 : (¬ False) = True := not_false_eq_true
theorem s38 : (¬ True) = False := not_true_eq_false
theorem s39 {_ : Decidable True} : decide True = true := decide_eq_true trivial
theorem s40 {_ : Decidable False} : decide False = false := decide_eq_false not_false
theorem s41 [Decidable p] : (decide p = true) = p := decide_eq_true_eq
theorem s42 [Decidable p] : (decide p = false) = ¬ p := by simp
theorem s43 {_ : Decidable True} : (if True then a else b) = a := if_pos trivial
theorem s44 {_ : Decidable False} : (if False then a else b) = b := if_neg not_false
theorem s45 : (false = true) = False := by simp
theorem s46 : (true = false) = False := by simp
theorem s47 : (a = a) = True := eq_self a
theorem s48 : ((!x) = true) = (x = false) := by cases x <;> simp
theorem s49 : ((!x) = false) = (x = true) := by cases x <;> simp
theorem s50 : ((u == v) = true) = (u = v) := by simp
theorem s51 : ((u == v) = false) = (u ≠ v) := by simp
theorem s52 : (u == u) = true := by simp
theorem s53 : (¬ (p ∧ q)) = (p → ¬ q) := by simp
theorem s54 : (a ≠ b) = ¬ (a = b) := rfl
theorem s55 : (((OfNat.ofNat i : Nat)) : Int) = OfNat.ofNat i := rfl
theorem s56 {_ : Decidable (x = true)} : decide (x = true) = x := by simp
theorem s57 {_ : Decidable (x = false)} : decide (x = false) = !x := by cases x <;> simp
theorem s58 : (0 + i) = i := Nat.zero_add i
theorem s59 (f : α → β) : (l.map f).length = l.length := by simp
theorem s60 : (i ≤ i) = True := by simp
theorem s61 : (0 ≤ (i : Int)) = True := by simp
theorem s62 : ((i : Int).toNat) = i := by simp
theorem s63 : ((x && y) = true) = (x = true ∧ y = true) := by simp
theorem s64 : ((x || y) = true) = (x = true ∨ y = true) := by simp
end
theorem v_add (i j : Int) : binv .add (.int i) (.int j) = some (.int (i + j)) := rfl
theorem v_sub (i j : Int) : binv .sub (.int i) (.int j) = some (.int (i - j)) := rfl
theorem v_mul (i j : Int) : binv .mul (.int i) (.int j) = if mulOk i j = true then some (.int (i * j)) else none := rfl
theorem v_fdiv (i j : Int) : binv .fdiv (.int i) (.int j) = if j ≠ 0 ∧ j.natAbs < 1073741824 then some (.int (i.fdiv j)) else none := rfl
theorem v_mod (i j : Int) : binv .mod (.int i) (.int j) = if j ≠ 0 then some (.int (i.fmod j)) else none := rfl
theorem v_addT {a b : List D} (h : a.length + b.length ≤ big) : binv .add (.tup a) (.tup b) = some (.tup (a ++ b)) := by simp [binv, h]
theorem v_addL {a b : List D} (h : a.length + b.length ≤ big) : binv .add (.lst a) (.lst b) = some (.lst (a ++ b)) := by simp [binv, h]
theorem cut_to {α : Type} (xs : List α) (i : Nat) : cut xs none (some (i : Int)) = xs.take i := by
  unfold cut bnd
  have : ¬ ((i : Int) < 0) := by omega
  simp only [this, if_false, Int.toNat_natCast, List.drop_zero, Nat.sub_zero]
  rcases Nat.le_total i xs.length with h | h
  · rw [Nat.min_eq_left h]
  · rw [Nat.min_eq_right h, List.take_length, List.take_of_length_le h]
theorem cut_from {α : Type} (xs : List α) (i : Nat) : cut xs (some (i : Int)) none = xs.drop i := by
  unfold cut bnd
  have : ¬ ((i : Int) < 0) := by omega
  simp only [this, if_false, Int.toNat_natCast]
  rcases Nat.le_total i xs.length with h | h
  · rw [Nat.min_eq_left h]; exact List.take_of_length_le (by simp)
  · rw [Nat.min_eq_right h]; simp [List.drop_of_length_le h]
theorem sl_toT (xs : List D) (i : Nat) : slv (.tup xs) none (some (i : Int)) = some (.tup (xs.take i)) := by simp only [slv, cut_to]
theorem sl_toL (xs : List D) (i : Nat) : slv (.lst xs) none (some (i : Int)) = some (.lst (xs.take i)) := by simp only [slv, cut_to]
theorem sl_fromT (xs : List D) (i : Nat) : slv (.tup xs) (some (i : Int)) none = some (.tup (xs.drop i)) := by simp only [slv, cut_from]
theorem sl_fromL (xs : List D) (i : Nat) : slv (.lst xs) (some (i : Int)) none = some (.lst (xs.drop i)) := by simp only [slv, cut_from]
theorem sl_fromT1 (xs : List D) (i : Nat) : slv (.tup xs) (some ((i : Int) + 1)) none = some (.tup (xs.drop (i + 1))) := sl_fromT xs (i + 1)
theorem sl_fromL1 (xs : List D) (i : Nat) : slv (.lst xs) (some ((i : Int) + 1)) none = some (.lst (xs.drop (i + 1))) := sl_fromL xs (i + 1)
theorem rg1 {n : Nat} (h : n ≤ big) : rg1R (.d (.int n)) = some (rangeD 0 n) := by
  exact if_pos (by omega)
theorem rg2 {i j : Int} (h1 : -(big : Int) ≤ i) (h2 : i ≤ big) (h3 : -(big : Int) ≤ j) (h4 : j ≤ big) : rg2R (.d (.int i)) (.d (.int j)) = some (rangeD i (j - i).toNat) := by
  exact if_pos ⟨h1, h2, h3, h4⟩
theorem atL (xs : List D) (i : Nat) : atD xs (i : Int) = xs[i]? := by simp [atD]
theorem ixT0 (xs : List D) : idxv (.tup xs) (.int 0) = xs[0]? := atL xs 0
theorem ixT1 (xs : List D) : idxv (.tup xs) (.int 1) = xs[1]? := atL xs 1
theorem ixT2 (xs : List D) : idxv (.tup xs) (.int 2) = xs[2]? := atL xs 2
theorem ixT3 (xs : List D) : idxv (.tup xs) (.int 3) = xs[3]? := atL xs 3
theorem ixT4 (xs : List D) : idxv (.tup xs) (.int 4) = xs[4]? := atL xs 4
theorem ixT5 (xs : List D) : idxv (.tup xs) (.int 5) = xs[5]? := atL xs 5
theorem ixT6 (xs : List D) : idxv (.tup xs) (.int 6) = xs[6]? := atL xs 6
theorem ixL0 (xs : List D) : idxv (.lst xs) (.int 0) = xs[0]? := atL xs 0
theorem ixL1 (xs : List D) : idxv (.lst xs) (.int 1) = xs[1]? := atL xs 1
theorem ixL2 (xs : List D) : idxv (.lst xs) (.int 2) = xs[2]? := atL xs 2
theorem ixL3 (xs : List D) : idxv (.lst xs) (.int 3) = xs[3]? := atL xs 3
theorem ixL4 (xs : List D) : idxv (.lst xs) (.int 4) = xs[4]? := atL xs 4
theorem ixL5 (xs : List D) : idxv (.lst xs) (.int 5) = xs[5]? := atL xs 5
theorem ixL6 (xs : List D) : idxv (.lst xs) (.int 6) = xs[6]? := atL xs 6
theorem ixF0 (xs : List D) : idxv (.frz xs) (.int 0) = xs[0]? := atL xs 0
theorem ixF1 (xs : List D) : idxv (.frz xs) (.int 1) = xs[1]? := atL xs 1
theorem ixF2 (xs : List D) : idxv (.frz xs) (.int 2) = xs[2]? := atL xs 2
theorem ixF3 (xs : List D) : idxv (.frz xs) (.int 3) = xs[3]? := atL xs 3
theorem ixF4 (xs : List D) : idxv (.frz xs) (.int 4) = xs[4]? := atL xs 4
theorem ixF5 (xs : List D) : idxv (.frz xs) (.int 5) = xs[5]? := atL xs 5
theorem ixF6 (xs : List D) : idxv (.frz xs) (.int 6) = xs[6]? := atL xs 6
theorem ixTn (xs : List D) (n : Nat) : idxv (.tup xs) (.int n) = xs[n]? := atL xs n
theorem ixLn (xs : List D) (n : Nat) : idxv (.lst xs) (.int n) = xs[n]? := atL xs n
theorem ixFn (xs : List D) (n : Nat) : idxv (.frz xs) (.int n) = xs[n]? := atL xs n
section
variable (T : List Fn) (a b c : E) (δ : G.Env) (i k : Nat) (d : D) (x : Str) (o' : Bop) (o p : Cop) (t : Blt) (m : Mth)
theorem eR0 : evR T (.var i) δ = (ev T (.var i) δ).bind fun x δ => lift (rtR δ x) δ := rfl
theorem eR1 : evR T (.lit d) δ = (ev T (.lit d) δ).bind fun x δ => lift (rtR δ x) δ := rfl
theorem eR2 : evR T (.con x d) δ = (ev T (.con x d) δ).bind fun x δ => lift (rtR δ x) δ := rfl
theorem eR3 : evR T (.bin o' a b) δ = (ev T (.bin o' a b) δ).bind fun x δ => lift (rtR δ x) δ := rfl
theorem eR4 : evR T (.neg a) δ = (ev T (.neg a) δ).bind fun x δ => lift (rtR δ x) δ := rfl
theorem eR5 : evR T (.not a) δ = (ev T (.not a) δ).bind fun x δ => lift (rtR δ x) δ := rfl
theorem eR6 : evR T (.cmp o a b) δ = (ev T (.cmp o a b) δ).bind fun x δ => lift (rtR δ x) δ := rfl
theorem eR7 : evR T (.chn o p a b c) δ = (ev T (.chn o p a b c) δ).bind fun x δ => lift (rtR δ x) δ := rfl
theorem eR8 : evR T (.and a b) δ = (ev T (.and a b) δ).bind fun x δ => lift (rtR δ x) δ := rfl
theorem eR9 : evR T (.or a b) δ = (ev T (.or a b) δ).bind fun x δ => lift (rtR δ x) δ := rfl
theorem eR10 : evR T (.ifx a b c) δ = (ev T (.ifx a b c) δ).bind fun x δ => lift (rtR δ x) δ := rfl
theorem eR11 : evR T (.idx a b) δ = (ev T (.idx a b) δ).bind fun x δ => lift (rtR δ x) δ := rfl
theorem eR12 : evR T (.sl a b c) δ = (ev T (.sl a b c) δ).bind fun x δ => lift (rtR δ x) δ := rfl
theorem eR13 : evR T (.rev a) δ = (ev T (.rev a) δ).bind fun x δ => lift (rtR δ x) δ := rfl
theorem eR14 : evR T (.blt t a) δ = (ev T (.blt t a) δ).bind fun x δ => lift (rtR δ x) δ := rfl
theorem eR15 : evR T (.mth m a b) δ = (ev T (.mth m a b) δ).bind fun x δ => lift (rtR δ x) δ := rfl
theorem eR16 : evR T (.lrng a) δ = (ev T (.lrng a) δ).bind fun x δ => lift (rtR δ x) δ := rfl
theorem eR17 : evR T (.trng a) δ = (ev T (.trng a) δ).bind fun x δ => lift (rtR δ x) δ := rfl
theorem eRlst : evR T (.lst a) δ = (evs T a δ).bind fun rs δ => (lift (datas rs) δ).bind fun ds δ => .ok (.fr (.lst ds)) δ := rfl
theorem eRtup : evR T (.tup a) δ = (evs T a δ).bind fun rs δ => if mine δ rs then (lift (vals δ rs) δ).bind fun ds δ => .ok (.d (.tup ds)) δ else .no := rfl
theorem eRcall : evR T (.call k a) δ = (evs T a δ).bind fun rs δ => callR T k rs δ := rfl
end
section
open G.M
variable (xs : List D) (x y : D) (i j : Int) (b b' : Bool) (s : Str) (r : Rc) (p : Pl) (q : St)
theorem bl1 : bltv .len [.tup xs] = some (.int xs.length) := rfl
theorem bl2 : bltv .len [.lst xs] = some (.int xs.length) := rfl
theorem bl3 : bltv .len [.frz xs] = some (.int xs.length) := rfl
theorem bl4 : bltv .abs [.int i] = some (.int (if i < 0 then -i else i)) := rfl
theorem bl5 : bltv .int [.int i] = some (.int i) := rfl
theorem bl6 : bltv .int [.bl b] = some (.int (if b then 1 else 0)) := rfl
theorem bl7 : bltv .bool [.bl b] = some (.bl b) := rfl
theorem bl8 : bltv .min2 [.int i, .int j] = some (.int (if j < i then j else i)) := rfl
theorem bl9 : bltv .max2 [.int i, .int j] = some (.int (if j > i then j else i)) := rfl
theorem bl10 : bltv .tuple [.tup xs] = some (.tup xs) := rfl
theorem bl11 : bltv .tuple [.lst xs] = some (.tup xs) := rfl
theorem bl12 : bltv .list [.tup xs] = some (.lst xs) := rfl
theorem bl13 : bltv .list [.lst xs] = some (.lst xs) := rfl
theorem bl14 : bltv .any [.lst xs] = (blsD xs).map fun l => .bl (l.any id) := rfl
theorem bl15 : bltv .all [.lst xs] = (blsD xs).map fun l => .bl (l.all id) := rfl
theorem bl16 : bltv .sum [.lst xs] = (intsD xs).map fun l => .int l.sum := rfl
theorem bl17 : bltv .sorted [.lst xs] = (intsD xs).map fun l => .lst ((sortI l).map .int) := rfl
theorem bl18 : bltv .sset [.lst xs] = (intsD xs).bind fun l => if xs.length ≤ 1000 ∧ (sortU l).length < 63 then some (.lst ((sortU l).map .int)) else none := rfl
theorem bli0n  : bltv .isint [.non] = some (.bl false) := rfl
theorem bli0b (b : Bool) : bltv .isint [(.bl b)] = some (.bl true) := rfl
theorem bli0i (i : Int) : bltv .isint [(.int i)] = some (.bl true) := rfl
theorem bli0s (s : Str) : bltv .isint [(.str s)] = some (.bl false) := rfl
theorem bli0t (xs : List D) : bltv .isint [(.tup xs)] = some (.bl false) := rfl
theorem bli0l (xs : List D) : bltv .isint [(.lst xs)] = some (.bl false) := rfl
theorem bli0f (xs : List D) : bltv .isint [(.frz xs)] = some (.bl false) := rfl
theorem bli0 : bltv .isint [x] = if x.isErr then none else some (.bl x.isInt) := rfl
theorem bli1n  : bltv .isbool [.non] = some (.bl false) := rfl
theorem bli1b (b : Bool) : bltv .isbool [(.bl b)] = some (.bl true) := rfl
theorem bli1i (i : Int) : bltv .isbool [(.int i)] = some (.bl false) := rfl
theorem bli1s (s : Str) : bltv .isbool [(.str s)] = some (.bl false) := rfl
theorem bli1t (xs : List D) : bltv .isbool [(.tup xs)] = some (.bl false) := rfl
theorem bli1l (xs : List D) : bltv .isbool [(.lst xs)] = some (.bl false) := rfl
theorem bli1f (xs : List D) : bltv .isbool [(.frz xs)] = some (.bl false) := rfl
theorem bli1 : bltv .isbool [x] = if x.isErr then none else some (.bl x.isBl) := rfl
theorem bli2n  : bltv .isstr [.non] = some (.bl false) := rfl
theorem bli2b (b : Bool) : bltv .isstr [(.bl b)] = some (.bl false) := rfl
theorem bli2i (i : Int) : bltv .isstr [(.int i)] = some (.bl false) := rfl
theorem bli2s (s : Str) : bltv .isstr [(.str s)] = some (.bl true) := rfl
theorem bli2t (xs : List D) : bltv .isstr [(.tup xs)] = some (.bl false) := rfl
theorem bli2l (xs : List D) : bltv .isstr [(.lst xs)] = some (.bl false) := rfl
theorem bli2f (xs : List D) : bltv .isstr [(.frz xs)] = some (.bl false) := rfl
theorem bli2 : bltv .isstr [x] = if x.isErr then none else some (.bl x.isStr) := rfl
theorem bli3n  : bltv .istuple [.non] = some (.bl false) := rfl
theorem bli3b (b : Bool) : bltv .istuple [(.bl b)] = some (.bl false) := rfl
theorem bli3i (i : Int) : bltv .istuple [(.int i)] = some (.bl false) := rfl
theorem bli3s (s : Str) : bltv .istuple [(.str s)] = some (.bl false) := rfl
theorem bli3t (xs : List D) : bltv .istuple [(.tup xs)] = some (.bl true) := rfl
theorem bli3l (xs : List D) : bltv .istuple [(.lst xs)] = some (.bl false) := rfl
theorem bli3f (xs : List D) : bltv .istuple [(.frz xs)] = some (.bl false) := rfl
theorem bli3 : bltv .istuple [x] = if x.isErr then none else some (.bl x.isTup) := rfl
theorem bli4n  : bltv .islist [.non] = some (.bl false) := rfl
theorem bli4b (b : Bool) : bltv .islist [(.bl b)] = some (.bl false) := rfl
theorem bli4i (i : Int) : bltv .islist [(.int i)] = some (.bl false) := rfl
theorem bli4s (s : Str) : bltv .islist [(.str s)] = some (.bl false) := rfl
theorem bli4t (xs : List D) : bltv .islist [(.tup xs)] = some (.bl false) := rfl
theorem bli4l (xs : List D) : bltv .islist [(.lst xs)] = some (.bl true) := rfl
theorem bli4f (xs : List D) : bltv .islist [(.frz xs)] = some (.bl true) := rfl
theorem bli4 : bltv .islist [x] = if x.isErr then none else some (.bl x.isLst) := rfl
theorem k_isNon_non : D.isNon D.non = true := rfl
theorem k_isNon_bl : D.isNon (D.bl b) = false := rfl
theorem k_isNon_int : D.isNon (D.int i) = false := rfl
theorem k_isNon_str : D.isNon (D.str s) = false := rfl
theorem k_isNon_tup : D.isNon (D.tup xs) = false := rfl
theorem k_isNon_lst : D.isNon (D.lst xs) = false := rfl
theorem k_isNon_frz : D.isNon (D.frz xs) = false := rfl
theorem k_isInt_non : D.isInt D.non = false := rfl
theorem k_isInt_bl : D.isInt (D.bl b) = true := rfl
theorem k_isInt_int : D.isInt (D.int i) = true := rfl
theorem k_isInt_str : D.isInt (D.str s) = false := rfl
theorem k_isInt_tup : D.isInt (D.tup xs) = false := rfl
theorem k_isInt_lst : D.isInt (D.lst xs) = false := rfl
theorem k_isInt_frz : D.isInt (D.frz xs) = false := rfl
theorem k_isBl_non : D.isBl D.non = false := rfl
theorem k_isBl_bl : D.isBl (D.bl b) = true := rfl
theorem k_isBl_int : D.isBl (D.int i) = false := rfl
theorem k_isBl_str : D.isBl (D.str s) = false := rfl
theorem k_isBl_tup : D.isBl (D.tup xs) = false := rfl
theorem k_isBl_lst : D.isBl (D.lst xs) = false := rfl
theorem k_isBl_frz : D.isBl (D.frz xs) = false := rfl
theorem k_isStr_non : D.isStr D.non = false := rfl
theorem k_isStr_bl : D.isStr (D.bl b) = false := rfl
theorem k_isStr_int : D.isStr (D.int i) = false := rfl
theorem k_isStr_str : D.isStr (D.str s) = true := rfl
theorem k_isStr_tup : D.isStr (D.tup xs) = false := rfl
theorem k_isStr_lst : D.isStr (D.lst xs) = false := rfl
theorem k_isStr_frz : D.isStr (D.frz xs) = false := rfl
theorem k_isTup_non : D.isTup D.non = false := rfl
theorem k_isTup_bl : D.isTup (D.bl b) = false := rfl
theorem k_isTup_int : D.isTup (D.int i) = false := rfl
theorem k_isTup_str : D.isTup (D.str s) = false := rfl
theorem k_isTup_tup : D.isTup (D.tup xs) = true := rfl
theorem k_isTup_lst : D.isTup (D.lst xs) = false := rfl
theorem k_isTup_frz : D.isTup (D.frz xs) = false := rfl
theorem k_isLst_non : D.isLst D.non = false := rfl
theorem k_isLst_bl : D.isLst (D.bl b) = false := rfl
theorem k_isLst_int : D.isLst (D.int i) = false := rfl
theorem k_isLst_str : D.isLst (D.str s) = false := rfl
theorem k_isLst_tup : D.isLst (D.tup xs) = false := rfl
theorem k_isLst_lst : D.isLst (D.lst xs) = true := rfl
theorem k_isLst_frz : D.isLst (D.frz xs) = true := rfl
theorem k_flat_non : D.flat D.non = true := rfl
theorem k_flat_bl : D.flat (D.bl b) = true := rfl
theorem k_flat_int : D.flat (D.int i) = true := rfl
theorem k_flat_str : D.flat (D.str s) = true := rfl
theorem k_flat_tup : D.flat (D.tup xs) = false := rfl
theorem k_flat_lst : D.flat (D.lst xs) = false := rfl
theorem k_flat_frz : D.flat (D.frz xs) = false := rfl
theorem cm1 : cmpv .eq x y = if D.shp 60 x && D.shp 60 y then some (D.eq x y) else none := rfl
theorem cm2 : cmpv .ne x y = if D.shp 60 x && D.shp 60 y then some (!D.eq x y) else none := rfl
theorem cm3 : cmpv .lt (.int i) (.int j) = some (decide (i < j)) := rfl
theorem cm4 : cmpv .le (.int i) (.int j) = some (decide (i ≤ j)) := rfl
theorem cm5 : cmpv .gt (.int i) (.int j) = some (decide (j < i)) := rfl
theorem cm6 : cmpv .ge (.int i) (.int j) = some (decide (j ≤ i)) := rfl
theorem cm7 : cmpv .isin x (.tup xs) = if x.flat && xs.all D.flat then some (xs.any fun z => D.eq z x) else none := rfl
theorem cm8 : cmpv .isin x (.lst xs) = if x.flat && xs.all D.flat then some (xs.any fun z => D.eq z x) else none := rfl
theorem cm9 : cmpv .notin x (.tup xs) = if x.flat && xs.all D.flat then some (!xs.any fun z => D.eq z x) else none := rfl
theorem cm10 : cmpv .notin x (.lst xs) = if x.flat && xs.all D.flat then some (!xs.any fun z => D.eq z x) else none := rfl
theorem cm11 : cmpv .is x .non = some x.isNon := by cases x <;> rfl
theorem cm12 : cmpv .isnot x .non = some (!x.isNon) := by cases x <;> rfl
theorem cm13 : cmpv .is (.bl b) (.bl b') = some (decide (b = b')) := rfl
theorem cm14 : cmpv .isnot (.bl b) (.bl b') = some (!decide (b = b')) := rfl
theorem any0 {α : Type} (f : α → Bool) : ([] : List α).any f = false := rfl
theorem any1 {α : Type} (f : α → Bool) (a : α) (l : List α) : (a :: l).any f = (f a || l.any f) := rfl
theorem tRc : (dRc r).isTup = true := rfl
theorem lRc : bltv .len [dRc r] = some (.int r.length) := by simp only [dRc, bltv, List.length_map]
theorem tPl : (dPl p).isTup = true := rfl
theorem tSt : (dSt q).isTup = true := rfl
theorem nRc : (dRc r).isNon = false := rfl
theorem nPl : (dPl p).isNon = false := rfl
end
end G
/-! Ev2: what was seen, as a dict; courses as data. -/
namespace G
open PySem
open G.M (Pl Sc Rc St En)
def seenOf : Nat → List St → List (D × D)
  | _, [] => []
  | i, s :: h => (dSt s, .int (i : Nat)) :: seenOf (i + 1) h
theorem dget_seen (s : St) : ∀ (h : List St) (i : Nat), dget (dSt s) (seenOf i h) = if s ∈ h then some (.int ((i + h.idxOf s : Nat) : Int)) else none := by
  intro h
  induction h with
  | nil => intro i; simp [seenOf, dget]
  | cons a h ih =>
    intro i
    simp only [seenOf, dget, eq_st, ih]
    by_cases e : a = s
    · subst e; simp
    · have : ¬ s = a := fun x => e x.symm
      simp only [e, decide_false, Bool.false_eq_true, if_false, List.mem_cons, this, false_or]
      split
      · have : (a :: h).idxOf s = h.idxOf s + 1 := by
          rw [List.idxOf_cons]
          have : (a == s) = false := by simpa using e
          rw [this]; rfl
        rw [this]; congr 3; omega
      · rfl
theorem dput_seen (s : St) : ∀ (h : List St) (i : Nat), s ∉ h → dput (dSt s) (.int ((i + h.length : Nat) : Int)) (seenOf i h) = seenOf i (h ++ [s]) := by
  intro h
  induction h with
  | nil => intro i _; simp [seenOf, dput]
  | cons a h ih =>
    intro i hn
    simp only [List.mem_cons, not_or] at hn
    have e : ¬ a = s := fun x => hn.1 x.symm
    simp only [seenOf, dput, eq_st, e, decide_false, Bool.false_eq_true, if_false, List.cons_append]
    have := ih (i + 1) hn.2
    rw [show i + (a :: h).length = i + 1 + h.length by simp; omega, this]
theorem seen_len : ∀ (h : List St) (i : Nat), (seenOf i h).length = h.length := by
  intro h
  induction h with
  | nil => intro i; rfl
  | cons a h ih => intro i; simp [seenOf, ih]
def tOf (h : List St) : List D := h.map fun s => .int s.1
def dCo (v : En × List St × Nat) : D := if v.1 = .caught then .tup [.str (wE .caught), .lst ((tOf v.2.1).take v.2.2), .lst ((tOf v.2.1).drop v.2.2)] else .tup [.str (wE v.1), .lst (tOf v.2.1), .lst []]
theorem tOf_len (h : List St) : (tOf h).length = h.length := by simp [tOf]
theorem tOf_snoc (h : List St) (s : St) : tOf h ++ [.int s.1] = tOf (h ++ [s]) := by simp [tOf]
theorem max_if (a : Int) : (if 1 < a then a else 1) = max 1 a := by
  split <;> omega
theorem dCo0 (v) : idxv (dCo v) (.int 0) = some (.str (wE v.1)) := by
  unfold dCo
  split
  · rename_i h; rw [ixT0, s1, h]
  · rw [ixT0, s1]
theorem dCo_no {v : En × List St × Nat} (h : v.1 ≠ .caught) : dCo v = .tup [.str (wE v.1), .lst (tOf v.2.1), .lst []] := by unfold dCo; rw [if_neg h]
theorem dCo_yes {v : En × List St × Nat} (h : v.1 = .caught) : dCo v = .tup [.str (wE .caught), .lst ((tOf v.2.1).take v.2.2), .lst ((tOf v.2.1).drop v.2.2)] := by unfold dCo; rw [if_pos h]
theorem dCo_any (v) : ∃ a b, dCo v = .tup [.str (wE v.1), .lst a, .lst b] := by
  unfold dCo
  split
  · rename_i h; exact ⟨_, _, by rw [h]⟩
  · exact ⟨_, _, rfl⟩
theorem wE_caught (e : En) : (wE e = Str.ofString "caught") = (e = .caught) := wE_inj e .caught
theorem wE_out (e : En) : (wE e = Str.ofString "out") = (e = .out) := wE_inj e .out
theorem wE_off (e : En) : (wE e = Str.ofString "off") = (e = .off) := wE_inj e .off
theorem rangeD0 (n : Nat) : rangeD 0 n = (List.range n).map fun (i : Nat) => .int i := by simp [rangeD]
theorem mulOk_of {i j : Int} (h : -1000000 ≤ i) (h' : i ≤ 1000000) : mulOk i j = true := by
  unfold mulOk
  simp
  omega
theorem mulOk_of' {i j : Int} (h : -1000000 ≤ j) (h' : j ≤ 1000000) : mulOk i j = true := by
  unfold mulOk
  simp
  omega
end G
/-! Ev3: items and calendars as data. -/
namespace G
open PySem
open G.M (Pl Sc Rc St En It)
def dIt : It → D
  | .non => .non
  | .cau => .str (wE .caught)
  | .num k => .int k
theorem shp_dIt (n) (a : It) : D.shp n (dIt a) = true := by cases a <;> simp only [dIt, shp_non, shp_wE, shp_int]
theorem eq_dIt (a b : It) : D.eq (dIt a) (dIt b) = decide (a = b) := by
  cases a <;> cases b <;> simp [dIt, D.eq, M.It.num.injEq] <;> rfl
def dIts (G : Nat → It) (a n : Nat) : List D := (List.range' a n).map fun i => dIt (G i)
def dAg (G : Nat → It) (s : Nat) (a : Nat) : D := match G a, G (a + s) with
  | .num x, .num y => .tup [.int x, .int (y - x)]
  | b, _ => dIt b
def dCal (G : Nat → It) (s f : Nat) : D := .tup [.tup (dIts G 0 f), .tup ((List.range' f s).map (dAg G s))]
theorem get_dIts (G : Nat → It) {a n i : Nat} (h : i < n) : (dIts G a n)[i]? = some (dIt (G (a + i))) := by
  simp [dIts, List.getElem?_map, List.getElem?_range', h]
theorem dIts_len (G a n) : (dIts G a n).length = n := by simp [dIts]
theorem take_dIts (G : Nat → It) {a n k : Nat} (h : k ≤ n) : (dIts G a n).take k = dIts G a k := by
  unfold dIts
  rw [← List.map_take, show n = k + (n - k) by omega, ← List.range'_append_1, List.take_left' (by simp)]
theorem snoc_dIts (G : Nat → It) (a n : Nat) : dIts G a n ++ [dIt (G (a + n))] = dIts G a (n + 1) := by
  simp [dIts, List.range'_concat]
/-- a list that is handed in: data, or the caller's own -/
def hL (b : Bool) (xs : List D) : Sl := if b then .ow true (.lst xs) else .ro (.lst xs)
end G
/-! Ev4: the law's draws, its states. -/
namespace G
open PySem
open G.M (Pl Sc Rc St En It)
structure Src (a b : Int) : Prop where
  a0 : 0 ≤ a
  b0 : 0 ≤ b
  b1 : b < 2147483237
def dSrc (p : Bool) (a b : Int) : Sl := .ow p (.lst [.int a, .int b])
theorem fm0 {a b : Int} (h : 0 < b) : 0 ≤ a.fmod b := Int.fmod_nonneg_of_pos a h
theorem fm1 {a b : Int} (h : 0 < b) : a.fmod b < b := Int.fmod_lt_of_pos a h
theorem fd0 {a b : Int} (h : 0 ≤ a) (hb : 0 < b) : 0 ≤ a.fdiv b := Int.fdiv_nonneg h (by omega)
theorem fdle {a b : Int} (h : 0 ≤ a) (hb : 0 < b) : a.fdiv b ≤ a := by
  rw [Int.fdiv_eq_ediv_of_nonneg _ (by omega)]
  exact Int.ediv_le_self _ h
theorem v_pow17 : binv .pow (.int 10) (.int 17) = some (.int 100000000000000000) := by rfl
theorem v_pow30 : binv .pow (.int 10) (.int 30) = some (.int 1000000000000000000000000000000) := by rfl
theorem mulOk_r {i j : Int} (h : -(2 ^ 64) < j) (h' : j < 2 ^ 64) : mulOk i j = true := by
  unfold mulOk
  simp
  omega
theorem mulOk_l {i j : Int} (h : -(2 ^ 64) < i) (h' : i < 2 ^ 64) : mulOk i j = true := by
  unfold mulOk
  simp
  omega
/-- a state as the law keeps it: parities -/
def b2i (b : Bool) : Int := if b then 1 else 0
def dPa (ms : List Bool) : D := .tup (ms.map fun b => .int (b2i b))
def dSt2 (s : St) : D := .tup [.int s.1, dPa s.2]
theorem eq_pa (a b : List Bool) : D.eq (dPa a) (dPa b) = decide (a = b) := by
  unfold dPa; rw [D.eq]; exact eqs_map _ (by intro a b; cases a <;> cases b <;> rfl) a b
theorem eq_st2 (a b : St) : D.eq (dSt2 a) (dSt2 b) = decide (a = b) := by
  obtain ⟨t, m⟩ := a; obtain ⟨u, l⟩ := b
  simp only [dSt2, D.eq, D.eqs, eq_pa, Bool.and_true, Prod.mk.injEq, Bool.decide_and]
  congr 1
theorem key_st2 (s : St) : D.key (dSt2 s) = true := by
  simp only [D.key, dSt2, dPa, D.isTup, D.keyIn, D.keysIn, Bool.true_and, Bool.and_true]
  exact keys_map _ _ (by intro a; rfl) _
def seenL : Nat → List St → List (D × D)
  | _, [] => []
  | i, s :: h => (dSt2 s, .int (i : Nat)) :: seenL (i + 1) h
theorem dget_seenL (s : St) : ∀ (h : List St) (i : Nat), dget (dSt2 s) (seenL i h) = if s ∈ h then some (.int ((i + h.idxOf s : Nat) : Int)) else none := by
  intro h
  induction h with
  | nil => intro i; simp [seenL, dget]
  | cons a h ih =>
    intro i
    simp only [seenL, dget, eq_st2, ih]
    by_cases e : a = s
    · subst e; simp
    · have : ¬ s = a := fun x => e x.symm
      simp only [e, decide_false, Bool.false_eq_true, if_false, List.mem_cons, this, false_or]
      split
      · have : (a :: h).idxOf s = h.idxOf s + 1 := by
          rw [List.idxOf_cons]
          have : (a == s) = false := by simpa using e
          rw [this]; rfl
        rw [this]; congr 3; omega
      · rfl
theorem dput_seenL (s : St) : ∀ (h : List St) (i : Nat), s ∉ h → dput (dSt2 s) (.int ((i + h.length : Nat) : Int)) (seenL i h) = seenL i (h ++ [s]) := by
  intro h
  induction h with
  | nil => intro i _; simp [seenL, dput]
  | cons a h ih =>
    intro i hn
    simp only [List.mem_cons, not_or] at hn
    have e : ¬ a = s := fun x => hn.1 x.symm
    simp only [seenL, dput, eq_st2, e, decide_false, Bool.false_eq_true, if_false, List.cons_append]
    have := ih (i + 1) hn.2
    rw [show i + (a :: h).length = i + 1 + h.length by simp; omega, this]
theorem seenL_len : ∀ (h : List St) (i : Nat), (seenL i h).length = h.length := by
  intro h
  induction h with
  | nil => intro i; rfl
  | cons a h ih => intro i; simp [seenL, ih]
def dPy (v : En × List St × Nat) : D := .tup [.str (wE v.1), .lst (tOf v.2.1), if v.1 = .caught then .int (v.2.2 : Nat) else .non]
/-- counts and their parities -/
def par (cs : List Int) : List Bool := cs.map fun c => decide (c.fmod 2 = 1)
end G
/-! Eq: the evaluator's steps; what comes next stands where simp does not look. -/
namespace G
open PySem
class Kt (S α β : Type) where
  f : α → S → Out S β
def bq {S α β : Type} (x : Out S α) [k : Kt S α β] : Out S β := x.bind k.f
theorem bq_ok {S α β : Type} (a : α) (s : S) (f : α → S → Out S β) : @bq S α β (.ok a s) ⟨f⟩ = f a s := rfl
theorem bq_ex {S α β : Type} (c : Exn) (s : S) (f : α → S → Out S β) : @bq S α β (.ex c s) ⟨f⟩ = .ex c s := rfl
theorem bq_no {S α β : Type} (f : α → S → Out S β) : @bq S α β .no ⟨f⟩ = .no := rfl
theorem g_ev1 (T) (i) (δ) : ev T (.var i) δ = match δ[i]? with | some (.ro d) => .ok (.d d) δ | some (.ow _ _) => .ok (.own i) δ | _ => .no := rfl
theorem g_ev2 (T) (d) (δ) : ev T (.lit d) δ = .ok (.d d) δ := rfl
theorem g_ev3 (T) (x0) (d) (δ) : ev T (.con x0 d) δ = .ok (.d d) δ := rfl
theorem g_ev4 (T) (es) (δ) : ev T (.tup es) δ = @bq _ _ _ (evs T es δ) ⟨fun rs δ => @bq _ _ _ (lift (datas rs) δ) ⟨fun ds δ => .ok (.d (.tup ds)) δ⟩⟩ := rfl
theorem g_ev5 (T) (es) (δ) : ev T (.lst es) δ = @bq _ _ _ (evs T es δ) ⟨fun rs δ => @bq _ _ _ (lift (datas rs) δ) ⟨fun ds δ => .ok (.d (.lst ds)) δ⟩⟩ := rfl
theorem g_ev6 (T) (o) (a) (b) (δ) : ev T (.bin o a b) δ = @bq _ _ _ (ev T a δ) ⟨fun x δ => @bq _ _ _ (ev T b δ) ⟨fun y δ => @bq _ _ _ (lift (binR δ o x y) δ) ⟨fun z δ => .ok (.d z) δ⟩⟩⟩ := rfl
theorem g_ev7 (T) (a) (δ) : ev T (.neg a) δ = @bq _ _ _ (ev T a δ) ⟨fun x δ => @bq _ _ _ (lift (negR x) δ) ⟨fun z δ => .ok (.d z) δ⟩⟩ := rfl
theorem g_ev8 (T) (a) (δ) : ev T (.not a) δ = @bq _ _ _ (ev T a δ) ⟨fun x δ => @bq _ _ _ (lift (asBl x) δ) ⟨fun b δ => .ok (.d (.bl (!b))) δ⟩⟩ := rfl
theorem g_ev9 (T) (o) (a) (b) (δ) : ev T (.cmp o a b) δ = @bq _ _ _ (ev T a δ) ⟨fun x δ => @bq _ _ _ (ev T b δ) ⟨fun y δ => @bq _ _ _ (lift (cmpR δ o x y) δ) ⟨fun t δ => .ok (.d (.bl t)) δ⟩⟩⟩ := rfl
theorem g_ev10 (T) (o) (p) (a) (b) (c) (δ) : ev T (.chn o p a b c) δ = @bq _ _ _ (ev T a δ) ⟨fun x δ => @bq _ _ _ (ev T b δ) ⟨fun y δ => @bq _ _ _ (lift (cmpR δ o x y) δ) ⟨fun t δ => if t then @bq _ _ _ (ev T c δ) ⟨fun z δ => @bq _ _ _ (lift (cmpR δ p y z) δ) ⟨fun t δ => .ok (.d (.bl t)) δ⟩⟩ else .ok (.d (.bl false)) δ⟩⟩⟩ := rfl
theorem g_ev11 (T) (a) (b) (δ) : ev T (.and a b) δ = @bq _ _ _ (ev T a δ) ⟨fun x δ => @bq _ _ _ (lift (asBl x) δ) ⟨fun t δ => if t then @bq _ _ _ (ev T b δ) ⟨fun y δ => @bq _ _ _ (lift (asBl y) δ) ⟨fun u δ => .ok (.d (.bl u)) δ⟩⟩ else .ok (.d (.bl false)) δ⟩⟩ := rfl
theorem g_ev12 (T) (a) (b) (δ) : ev T (.or a b) δ = @bq _ _ _ (ev T a δ) ⟨fun x δ => @bq _ _ _ (lift (asBl x) δ) ⟨fun t δ => if t then .ok (.d (.bl true)) δ else @bq _ _ _ (ev T b δ) ⟨fun y δ => @bq _ _ _ (lift (asBl y) δ) ⟨fun u δ => .ok (.d (.bl u)) δ⟩⟩⟩⟩ := rfl
theorem g_ev13 (T) (c) (a) (b) (δ) : ev T (.ifx c a b) δ = @bq _ _ _ (ev T c δ) ⟨fun x δ => @bq _ _ _ (lift (asBl x) δ) ⟨fun t δ => if t then ev T a δ else ev T b δ⟩⟩ := rfl
theorem g_ev14 (T) (a) (b) (δ) : ev T (.idx a b) δ = @bq _ _ _ (ev T a δ) ⟨fun x δ => @bq _ _ _ (ev T b δ) ⟨fun y δ => @bq _ _ _ (lift (idxR δ x y) δ) ⟨fun z δ => .ok (.d z) δ⟩⟩⟩ := rfl
theorem g_ev15 (T) (a) (lo) (hi) (δ) : ev T (.sl a lo hi) δ = @bq _ _ _ (ev T a δ) ⟨fun x δ => @bq _ _ _ (ev T lo δ) ⟨fun l δ => @bq _ _ _ (lift (asBnd (nonE lo) l) δ) ⟨fun l δ => @bq _ _ _ (ev T hi δ) ⟨fun h δ => @bq _ _ _ (lift (asBnd (nonE hi) h) δ) ⟨fun h δ => @bq _ _ _ (lift (slR δ x l h) δ) ⟨fun z δ => .ok (.d z) δ⟩⟩⟩⟩⟩⟩ := rfl
theorem g_ev16 (T) (a) (δ) : ev T (.rev a) δ = @bq _ _ _ (ev T a δ) ⟨fun x δ => @bq _ _ _ (lift (revR δ x) δ) ⟨fun z δ => .ok (.d z) δ⟩⟩ := rfl
theorem g_ev17 (T) (k) (es) (δ) : ev T (.call k es) δ = @bq _ _ _ (evs T es δ) ⟨fun rs δ => @bq _ _ _ (callR T k rs δ) ⟨fun r δ => @bq _ _ _ (lift r.dat δ) ⟨fun z δ => .ok (.d z) δ⟩⟩⟩ := rfl
theorem g_ev18 (T) (b) (es) (δ) : ev T (.blt b es) δ = @bq _ _ _ (evs T es δ) ⟨fun rs δ => @bq _ _ _ (lift (bltR δ b rs) δ) ⟨fun z δ => .ok (.d z) δ⟩⟩ := rfl
theorem g_ev19 (T) (m) (o) (es) (δ) : ev T (.mth m o es) δ = @bq _ _ _ (ev T o δ) ⟨fun x δ => if isLR δ x then @bq _ _ _ (evs T es δ) ⟨fun rs δ => @bq _ _ _ (lift (mthR δ m x rs) δ) ⟨fun z δ => .ok (.d z) δ⟩⟩ else .no⟩ := rfl
theorem g_ev20 (T) (it) (δ) : ev T (.lrng it) δ = @bq _ _ _ (evi T it δ) ⟨fun xs δ => .ok (.d (.lst xs)) δ⟩ := rfl
theorem g_ev21 (T) (it) (δ) : ev T (.trng it) δ = @bq _ _ _ (evi T it δ) ⟨fun xs δ => .ok (.d (.tup xs)) δ⟩ := rfl
theorem g_evs1 (T) (δ) : evs T .nil δ = .ok [] δ := rfl
theorem g_evs2 (T) (e) (es) (δ) : evs T (.cons e es) δ = @bq _ _ _ (ev T e δ) ⟨fun r δ => @bq _ _ _ (evs T es δ) ⟨fun rs δ => .ok (r :: rs) δ⟩⟩ := rfl
theorem g_evi1 (T) (a) (δ) : evi T (.rng1 a) δ = @bq _ _ _ (ev T a δ) ⟨fun x δ => lift (rg1R x) δ⟩ := rfl
theorem g_evi2 (T) (a) (b) (δ) : evi T (.rng2 a b) δ = @bq _ _ _ (ev T a δ) ⟨fun x δ => @bq _ _ _ (ev T b δ) ⟨fun y δ => lift (rg2R x y) δ⟩⟩ := rfl
theorem g_evi3 (T) (a) (δ) : evi T (.enm a) δ = @bq _ _ _ (ev T a δ) ⟨fun x δ => lift (enmR x) δ⟩ := rfl
theorem g_evi4 (T) (a) (δ) : evi T (.itr a) δ = @bq _ _ _ (ev T a δ) ⟨fun x δ => lift (itR x) δ⟩ := rfl
theorem g_evF1 (T) (es) (δ) : evF T (.lst es) δ = @bq _ _ _ (evs T es δ) ⟨fun rs δ => @bq _ _ _ (lift (datas rs) δ) ⟨fun ds δ => .ok (.lst ds) δ⟩⟩ := rfl
theorem g_evF2 (T) (δ) : evF T .dnew δ = .ok (.dct []) δ := rfl
theorem g_evF3 (T) (k) (es) (δ) : evF T (.call k es) δ = @bq _ _ _ (evs T es δ) ⟨fun rs δ => @bq _ _ _ (callR T k rs δ) ⟨fun r δ => match r with | .fr o => .ok o δ | _ => .no⟩⟩ := rfl
theorem g_exs1 (T) (δ) : exs T .skip δ = .ok .nx δ := rfl
theorem g_exs2 (T) (a) (b) (δ) : exs T (.seq a b) δ = @bq _ _ _ (exs T a δ) ⟨fun f δ => match f with | .nx => exs T b δ | f => .ok f δ⟩ := rfl
theorem g_exs3 (T) (i) (e) (δ) : exs T (.asg i e) δ = @bq _ _ _ (ev T e δ) ⟨fun x δ => @bq _ _ _ (lift (asD x) δ) ⟨fun x δ => @bq _ _ _ (lift (setRo δ i x) δ) ⟨fun δ _ => .ok .nx δ⟩⟩⟩ := rfl
theorem g_exs4 (T) (i) (e) (δ) : exs T (.asgO i e) δ = @bq _ _ _ (evF T e δ) ⟨fun o δ => if free δ i then .ok .nx (δ.set i (.ow false o)) else .no⟩ := rfl
theorem g_exs5 (T) (is) (e) (δ) : exs T (.asgT is e) δ = @bq _ _ _ (ev T e δ) ⟨fun x δ => @bq _ _ _ (lift (asD x) δ) ⟨fun x δ => @bq _ _ _ (lift (bindT is x δ) δ) ⟨fun δ _ => .ok .nx δ⟩⟩⟩ := rfl
theorem g_exs6 (T) (is) (es) (δ) : exs T (.asgP is es) δ = @bq _ _ _ (evs T es δ) ⟨fun rs δ => @bq _ _ _ (lift (datas rs) δ) ⟨fun ds δ => @bq _ _ _ (lift (setRos δ is ds) δ) ⟨fun δ _ => .ok .nx δ⟩⟩⟩ := rfl
theorem g_exs7 (T) (i) (k) (e) (δ) : exs T (.setI i k e) δ = @bq _ _ _ (ev T e δ) ⟨fun x δ => @bq _ _ _ (lift (asD x) δ) ⟨fun x δ => if notOwn δ i then .no else @bq _ _ _ (ev T k δ) ⟨fun k δ => @bq _ _ _ (lift (asD k) δ) ⟨fun k δ => @bq _ _ _ (lift (setIR δ i k x) δ) ⟨fun δ _ => .ok .nx δ⟩⟩⟩⟩⟩ := rfl
theorem g_exs8 (T) (i) (e) (δ) : exs T (.app i e) δ = if ownL δ i then @bq _ _ _ (ev T e δ) ⟨fun x δ => @bq _ _ _ (lift (asD x) δ) ⟨fun x δ => @bq _ _ _ (lift (appR δ i x) δ) ⟨fun δ _ => .ok .nx δ⟩⟩⟩ else .no := rfl
theorem g_exs9 (T) (e) (δ) : exs T (.drop e) δ = @bq _ _ _ (ev T e δ) ⟨fun _ δ => .ok .nx δ⟩ := rfl
theorem g_exs10 (T) (e) (δ) : exs T (.ret e) δ = @bq _ _ _ (evR T e δ) ⟨fun r δ => .ok (.rt r) δ⟩ := rfl
theorem g_exs11 (T) (c) (a) (b) (δ) : exs T (.ite c a b) δ = @bq _ _ _ (evB T c δ) ⟨fun t δ => if t then exs T a δ else exs T b δ⟩ := rfl
theorem g_exs12 (T) (i) (it) (b) (δ) : exs T (.for1 i it b) δ = @bq _ _ _ (evi T it δ) ⟨fun xs δ => loopF (fun x δ => setRo δ i x) (exs T b) xs δ⟩ := rfl
theorem g_exs13 (T) (is) (it) (b) (δ) : exs T (.forT is it b) δ = @bq _ _ _ (evi T it δ) ⟨fun xs δ => loopF (bindT is) (exs T b) xs δ⟩ := rfl
theorem g_exs14 (T) (c) (x0) (δ) : exs T (.rais c x0) δ = .ex ⟨c, none⟩ δ := rfl
theorem g_exs15 (T) (δ) : exs T .brk δ = .ok .bk δ := rfl
theorem g_exs16 (T) (δ) : exs T .cnt δ = .ok .ct δ := rfl
theorem g_srt (T) (es) (δ) : ev T (.srt es) δ = @bq _ _ _ (evs T es δ) ⟨fun rs δ => @bq _ _ _ (lift (bltR δ .sset rs) δ) ⟨fun z δ => .ok (.d z) δ⟩⟩ := rfl
theorem g_tryc (T) (w) (ws) (k) (es) (δ) : ev T (.tryc w ws k es) δ = tryO ws (@bq _ _ _ (evs T es δ) ⟨fun rs δ => callR T k rs δ⟩) := rfl
theorem tryO_ok (ws) (r : Rt) (δ : G.Env) : tryO ws (.ok r δ) = .ok (.d (.str (Str.ofString ""))) δ := rfl
theorem tryO_ex (ws) (c : Exn) (δ : G.Env) : tryO ws (.ex c δ) = (match ws.lookup c.c with | some u => .ok (.d (.str u)) δ | none => .no) := rfl
theorem g_asgL (T) (is) (es) (j) (δ) : exs T (.asgL is es j) δ = @bq _ _ _ (evs T es δ) ⟨fun rs δ => @bq _ _ _ (lift (datas rs) δ) ⟨fun ds δ => @bq _ _ _ (lift (setRos δ is ds) δ) ⟨fun δ _ => if free δ j then .ok .nx (δ.set j (.ow false (.lst []))) else .no⟩⟩⟩ := rfl
theorem g_whl (T) (n) (c) (b) (δ) : exs T (.whl n c b) δ = loopW (evB T c) (exs T b) n δ := rfl
theorem g_evB (T) (c) (δ) : evB T c δ = @bq _ _ _ (ev T c δ) ⟨fun x δ => lift (asBl x) δ⟩ := rfl
section
variable (T : List Fn) (a b c : E) (δ : G.Env) (i k : Nat) (d : D) (x : Str) (o' : Bop) (o p : Cop) (t : Blt) (m : Mth)
theorem g_R0 : evR T (.var i) δ = @bq _ _ _ (ev T (.var i) δ) ⟨fun x δ => lift (rtR δ x) δ⟩ := rfl
theorem g_R1 : evR T (.lit d) δ = @bq _ _ _ (ev T (.lit d) δ) ⟨fun x δ => lift (rtR δ x) δ⟩ := rfl
theorem g_R2 : evR T (.con x d) δ = @bq _ _ _ (ev T (.con x d) δ) ⟨fun x δ => lift (rtR δ x) δ⟩ := rfl
theorem g_R3 : evR T (.bin o' a b) δ = @bq _ _ _ (ev T (.bin o' a b) δ) ⟨fun x δ => lift (rtR δ x) δ⟩ := rfl
theorem g_R4 : evR T (.neg a) δ = @bq _ _ _ (ev T (.neg a) δ) ⟨fun x δ => lift (rtR δ x) δ⟩ := rfl
theorem g_R5 : evR T (.not a) δ = @bq _ _ _ (ev T (.not a) δ) ⟨fun x δ => lift (rtR δ x) δ⟩ := rfl
theorem g_R6 : evR T (.cmp o a b) δ = @bq _ _ _ (ev T (.cmp o a b) δ) ⟨fun x δ => lift (rtR δ x) δ⟩ := rfl
theorem g_R7 : evR T (.chn o p a b c) δ = @bq _ _ _ (ev T (.chn o p a b c) δ) ⟨fun x δ => lift (rtR δ x) δ⟩ := rfl
theorem g_R8 : evR T (.and a b) δ = @bq _ _ _ (ev T (.and a b) δ) ⟨fun x δ => lift (rtR δ x) δ⟩ := rfl
theorem g_R9 : evR T (.or a b) δ = @bq _ _ _ (ev T (.or a b) δ) ⟨fun x δ => lift (rtR δ x) δ⟩ := rfl
theorem g_R10 : evR T (.ifx a b c) δ = @bq _ _ _ (ev T (.ifx a b c) δ) ⟨fun x δ => lift (rtR δ x) δ⟩ := rfl
theorem g_R11 : evR T (.idx a b) δ = @bq _ _ _ (ev T (.idx a b) δ) ⟨fun x δ => lift (rtR δ x) δ⟩ := rfl
theorem g_R12 : evR T (.sl a b c) δ = @bq _ _ _ (ev T (.sl a b c) δ) ⟨fun x δ => lift (rtR δ x) δ⟩ := rfl
theorem g_R13 : evR T (.rev a) δ = @bq _ _ _ (ev T (.rev a) δ) ⟨fun x δ => lift (rtR δ x) δ⟩ := rfl
theorem g_R14 : evR T (.blt t a) δ = @bq _ _ _ (ev T (.blt t a) δ) ⟨fun x δ => lift (rtR δ x) δ⟩ := rfl
theorem g_R15 : evR T (.mth m a b) δ = @bq _ _ _ (ev T (.mth m a b) δ) ⟨fun x δ => lift (rtR δ x) δ⟩ := rfl
theorem g_R16 : evR T (.lrng a) δ = @bq _ _ _ (ev T (.lrng a) δ) ⟨fun x δ => lift (rtR δ x) δ⟩ := rfl
theorem g_R17 : evR T (.trng a) δ = @bq _ _ _ (ev T (.trng a) δ) ⟨fun x δ => lift (rtR δ x) δ⟩ := rfl
theorem g_Rsrt : evR T (.srt a) δ = @bq _ _ _ (ev T (.srt a) δ) ⟨fun x δ => lift (rtR δ x) δ⟩ := rfl
theorem g_Rlst : evR T (.lst a) δ = @bq _ _ _ (evs T a δ) ⟨fun rs δ => @bq _ _ _ (lift (datas rs) δ) ⟨fun ds δ => .ok (.fr (.lst ds)) δ⟩⟩ := rfl
theorem g_Rtup : evR T (.tup a) δ = @bq _ _ _ (evs T a δ) ⟨fun rs δ => if mine δ rs then @bq _ _ _ (lift (vals δ rs) δ) ⟨fun ds δ => .ok (.d (.tup ds)) δ⟩ else .no⟩ := rfl
theorem g_Rcall : evR T (.call k a) δ = @bq _ _ _ (evs T a δ) ⟨fun rs δ => callR T k rs δ⟩ := rfl
end
end G
/-! Ev5: rings of the program and of the law agree. -/
namespace G
open PySem
open G.M (Pl Sc Rc St En It)
theorem up_len {l : List Int} {n : Nat} (h : l.Pairwise (· < ·)) (hb : ∀ x ∈ l, 0 ≤ x ∧ x < n) : l.length ≤ n := by
  have nd := nodup_up h
  have : (l.map Int.toNat).Nodup := by
    rw [List.nodup_iff_pairwise_ne, List.pairwise_map]
    refine List.Pairwise.imp_of_mem ?_ h
    intro a b ha hb2 hab e
    have := hb a ha
    have := hb b hb2
    omega
  have := M.nodup_le n (l.map Int.toNat) this (fun x hx => by
    obtain ⟨y, hy, rfl⟩ := List.mem_map.1 hx
    have := hb y hy
    omega)
  simpa using this
theorem map_up {l : List Int} (d : Int) (h : l.Pairwise (· < ·)) : (l.map (· + d)).Pairwise (· < ·) := by
  rw [List.pairwise_map]
  exact h.imp fun hab => by omega
def rgP (r : Rc) (n : Int) (p : Pl) : List Int := if M.en r (M.few r n) (M.raw p (M.few r n)) = .caught then sortU (M.rT false r (M.few r n) (M.raw p (M.few r n))) else []
def rgL (r : Rc) (n : Int) (p : Pl) : List Int := if M.en r (M.small r n) (M.raw p (M.small r n)) = .caught then sortU (M.rT true r (M.small r n) (M.raw p (M.small r n))) else []
theorem rgP_len {r : Rc} (h : M.Ok r) (h3 : r.length ≤ 3) {n : Int} (hn : 1 ≤ n) (p : Pl) : (rgP r n p).length < 63 := by
  have hb := M.few_bd h hn
  unfold rgP
  split
  · refine Nat.lt_of_le_of_lt (up_len (n := 45) (sortU_up _) fun x hx => ?_) (by omega)
    rw [sortU_mem] at hx
    have := M.rT_in h3 (by omega) x hx
    omega
  · simp
theorem ring_eq {r : Rc} (h : M.Ok r) (h3 : r.length ≤ 3) {p : Pl} (hp : p.ok) {n : Int} (hn : 100 ≤ n) :
    (rgL r n p).length < 63 ∧ (rgP r n p).map (fun t => if 2 * t < M.few r n then t else t + n - M.few r n) = (rgL r n p).map (fun t => if t < 30 then t else t + n - M.small r n) := by
  obtain ⟨j, k, e1, e2, e3, e4, b1, b2, b3, b4, b5⟩ := M.small_spec h hn
  have hl := rgP_len h h3 (n := n) (by omega) p
  have he := M.en_at h h3 hp b3 j (by omega)
  rw [← e1] at he
  unfold rgP at *
  unfold rgL
  rw [he]
  by_cases hc : M.en r (M.few r n) (M.raw p (M.few r n)) = .caught
  · rw [if_pos hc] at *
    rw [if_pos hc]
    have m1 := M.mem_rT (al := false) h3 (n := M.few r n) (t := M.raw p (M.few r n)) (by omega) (by omega) hc
    have m2 := M.mem_rT (al := true) h3 (n := M.small r n) (t := M.raw p (M.small r n)) (by omega) (by omega) (he.trans hc)
    have ro := M.ring_at h hp b3 j (M.on_caught h3 (by omega) (by omega) hc)
    unfold M.RingOk at ro
    rw [← e1] at ro
    generalize M.rT false r (M.few r n) (M.raw p (M.few r n)) = A at *
    generalize M.rT true r (M.small r n) (M.raw p (M.small r n)) = B at *
    rcases ro with ⟨a, b⟩ | ⟨a, b⟩
    · have eq : sortU A = sortU B := sortU_the (sortU_up A) fun u => by rw [sortU_mem, m1, m2, a]
      rw [← eq]
      refine ⟨hl, List.map_congr_left fun u hu => ?_⟩
      rw [sortU_mem, m1] at hu
      have := b u hu
      rw [if_pos (by omega), if_pos (by omega)]
    · have eq : (sortU A).map (· + (j : Int) * M.many r) = sortU B := sortU_the (map_up _ (sortU_up A)) fun u => by
        rw [List.mem_map, m2]
        constructor
        · rintro ⟨x, hx, rfl⟩
          rw [sortU_mem, m1] at hx
          exact (a x).2 hx
        · intro hu
          refine ⟨u - j * M.many r, ?_, by omega⟩
          rw [sortU_mem, m1, ← a]
          rw [show u - (j : Int) * M.many r + j * M.many r = u by omega]; exact hu
      rw [← eq]
      refine ⟨by rw [List.length_map]; exact hl, ?_⟩
      rw [List.map_map]
      refine List.map_congr_left fun u hu => ?_
      rw [sortU_mem, m1] at hu
      have := b u hu
      simp only [Function.comp]
      rw [if_neg (by omega), if_neg (by omega)]
      omega
  · rw [if_neg hc, if_neg hc]
    exact ⟨by simp, rfl⟩
/-- numbers of rounds, by the law's small number -/
theorem rd_eq {r : Rc} (h : M.Ok r) (h3 : r.length ≤ 3) {p : Pl} (hp : p.ok) {n : Int} (hn : 100 ≤ n) :
    M.en r (M.small r n) (M.raw p (M.small r n)) = M.en r (M.few r n) (M.raw p (M.few r n)) ∧ M.en r (M.small r n + M.many r) (M.raw p (M.small r n + M.many r)) = M.en r (M.few r n) (M.raw p (M.few r n)) ∧
    (M.en r (M.few r n) (M.raw p (M.few r n)) ≠ .caught → M.rdF r n p = some (M.ln r (M.small r n) (M.raw p (M.small r n)) + ((M.ln r (M.small r n + M.many r) (M.raw p (M.small r n + M.many r)) : Int) - M.ln r (M.small r n) (M.raw p (M.small r n))) * (n - M.small r n).fdiv (M.many r))) := by
  obtain ⟨j, k, e1, e2, e3, e4, b1, b2, b3, b4, b5⟩ := M.small_spec h hn
  have hm := M.many_le h
  have hj1 : M.small r n + M.many r = M.few r n + ((j + 1 : Nat) : Int) * M.many r := by rw [e1, M.sm]; omega
  refine ⟨by rw [e1]; exact M.en_at h h3 hp b3 j (by omega), by rw [hj1]; exact M.en_at h h3 hp b3 (j + 1) (by omega), fun hc => ?_⟩
  obtain ⟨x, H⟩ := M.ln_at h h3 hp b3 (by omega) hc
  have h0 := H j (by omega)
  have h1 := H (j + 1) (by omega)
  have h2 := H 1 (by omega)
  rw [← e1] at h0
  rw [← hj1] at h1
  rw [show M.few r n + ((1 : Nat) : Int) * M.many r = M.few r n + M.many r by omega] at h2
  unfold M.rdF
  rw [if_neg hc, if_neg b5, e3, e4, h0, h1, h2]
  congr 1
  rw [show ((M.ln r (M.few r n) (M.raw p (M.few r n)) + 1 * x : Nat) : Int) - M.ln r (M.few r n) (M.raw p (M.few r n)) = x by omega, show ((M.ln r (M.few r n) (M.raw p (M.few r n)) + (j + 1) * x : Nat) : Int) - ((M.ln r (M.few r n) (M.raw p (M.few r n)) + j * x : Nat) : Int) = x by rw [Nat.succ_mul]; omega]
  simp only [Int.natCast_add, Int.mul_add, Int.natCast_mul]
  rw [Int.mul_comm (j : Int) x]
  omega
theorem cp_eq {r : Rc} (h : M.Ok r) (h3 : r.length ≤ 3) {n : Int} (hn : 100 ≤ n) (w : En) :
    M.cpF r n w = M.cnt r (M.small r n) w + ((M.cnt r (M.small r n + M.many r) w : Int) - M.cnt r (M.small r n) w) * (n - M.small r n).fdiv (M.many r) := by
  obtain ⟨j, k, e1, e2, e3, e4, b1, b2, b3, b4, b5⟩ := M.small_spec h hn
  have hm := M.many_le h
  have hj1 : M.small r n + M.many r = M.few r n + ((j + 1 : Nat) : Int) * M.many r := by rw [e1, M.sm]; omega
  have h0 := M.cnt_steps h h3 b3 w j (by omega)
  have h1 := M.cnt_steps h h3 b3 w (j + 1) (by omega)
  have h2 := M.cnt_steps h h3 b3 w 1 (by omega)
  rw [← e1] at h0
  rw [← hj1] at h1
  rw [show M.few r n + ((1 : Nat) : Int) * M.many r = M.few r n + M.many r by omega] at h2
  unfold M.cpF
  rw [if_neg b5, e3, e4, h0, h1, h2]
  generalize M.new r (M.few r n) w = x
  generalize M.cnt r (M.few r n) w = c
  rw [show ((c + 1 * x : Nat) : Int) - c = x by omega, show ((c + (j + 1) * x : Nat) : Int) - ((c + j * x : Nat) : Int) = x by rw [Nat.succ_mul]; omega]
  simp only [Int.natCast_add, Int.mul_add, Int.natCast_mul]
  rw [Int.mul_comm (j : Int) x]
  omega
end G
/-! Ev6: small numbers of turns: the program's ring, end and rounds are the law's own. -/
namespace G
open PySem
open G.M (Pl Sc Rc St En It)
theorem rgS_len {r : Rc} (h3 : r.length ≤ 3) {n : Int} (hn : n ≤ 62) (t : Int) (al : Bool) : (sortU (M.rT al r n t)).length < 63 := by
  refine Nat.lt_of_le_of_lt (up_len (n := 62) (sortU_up _) fun x hx => ?_) (by omega)
  rw [sortU_mem] at hx
  have := M.rT_in h3 (by omega) x hx
  omega
theorem few_en {r : Rc} (h : M.Ok r) (h3 : r.length ≤ 3) {p : Pl} (hp : p.ok) {n : Int} (h1 : 1 ≤ n) (hn : n ≤ 1000) : M.en r (M.few r n) (M.raw p (M.few r n)) = M.en r n (M.raw p n) := by
  rcases M.few_spec h h1 with ⟨a, b⟩ | ⟨q, a, b, c, d, e⟩
  · rw [a]
  · have := M.en_at h h3 hp d q (by omega)
    rw [← b] at this
    exact this.symm
theorem ring_le {r : Rc} (h : M.Ok r) (h3 : r.length ≤ 3) {p : Pl} (hp : p.ok) {n : Int} (h1 : 1 ≤ n) (hn : n ≤ 62) :
    (rgP r n p).map (fun t => if 2 * t < M.few r n then t else t + n - M.few r n) = if M.en r n (M.raw p n) = .caught then sortU (M.rT true r n (M.raw p n)) else [] := by
  have he := few_en h h3 hp h1 (by omega)
  have hb := M.few_bd h h1
  unfold rgP
  rw [he]
  by_cases hc : M.en r n (M.raw p n) = .caught
  · rw [if_pos hc, if_pos hc]
    have hc' : M.en r (M.few r n) (M.raw p (M.few r n)) = .caught := he.trans hc
    have m1 := M.mem_rT (al := false) h3 (n := M.few r n) (t := M.raw p (M.few r n)) (by omega) (by omega) hc'
    have m2 := M.mem_rT (al := true) h3 (n := n) (t := M.raw p n) (by omega) (by omega) hc
    rcases M.few_spec h h1 with ⟨a, b⟩ | ⟨q, a, b, c, d, e⟩
    · rw [a] at m1 ⊢
      have eq : sortU (M.rT false r n (M.raw p n)) = sortU (M.rT true r n (M.raw p n)) := sortU_the (sortU_up _) fun u => by rw [sortU_mem, m1, m2]
      rw [← eq]
      refine (List.map_congr_left fun u _ => ?_).trans (List.map_id _)
      split <;> simp only [id] <;> omega
    · have ro := M.ring_at h hp d q (M.on_caught h3 (by omega) (by omega) hc')
      unfold M.RingOk at ro
      rw [← b] at ro
      generalize M.rT false r (M.few r n) (M.raw p (M.few r n)) = A at *
      generalize M.rT true r n (M.raw p n) = B at *
      have hd : (q : Int) * M.many r = n - M.few r n := by omega
      rw [hd] at ro
      rcases ro with ⟨x, y⟩ | ⟨x, y⟩
      · have eq : sortU A = sortU B := sortU_the (sortU_up A) fun u => by rw [sortU_mem, m1, m2, ← x]
        rw [← eq]
        refine (List.map_congr_left fun u hu => ?_).trans (List.map_id _)
        rw [sortU_mem, m1] at hu
        have := y u hu
        rw [if_pos (by omega)]; rfl
      · have eq : (sortU A).map (· + (n - M.few r n)) = sortU B := sortU_the (map_up _ (sortU_up A)) fun u => by
          rw [List.mem_map, m2]
          constructor
          · rintro ⟨z, hz, rfl⟩
            rw [sortU_mem, m1] at hz
            exact (x z).2 hz
          · intro hu
            refine ⟨u - (n - M.few r n), ?_, by omega⟩
            rw [sortU_mem, m1, ← x]
            rw [show u - (n - M.few r n) + (n - M.few r n) = u by omega]; exact hu
        rw [← eq]
        refine List.map_congr_left fun u hu => ?_
        rw [sortU_mem, m1] at hu
        have := y u hu
        rw [if_neg (by omega)]
        omega
  · rw [if_neg hc, if_neg hc]; rfl
end G
/-! Ev7: sounds as data, counts of them, the least of rows. -/
namespace G
open PySem
open G.M (Pl Sc Rc St En It)
def iL (l : List Int) : List D := l.map .int
theorem tOf_pos (h : List St) : tOf h = iL (h.map (·.1)) := by simp [tOf, iL]
theorem ints_iL (l : List Int) : intsD (iL l) = some l := intsD_map l
theorem iL_len (l : List Int) : (iL l).length = l.length := by simp [iL]
theorem iL_snoc (l : List Int) (a : Int) : iL l ++ [.int a] = iL (l ++ [a]) := by simp [iL]
theorem iL_take (l : List Int) (k : Nat) : (iL l).take k = iL (l.take k) := by simp [iL]
theorem iL_drop (l : List Int) (k : Nat) : (iL l).drop k = iL (l.drop k) := by simp [iL]
theorem iL_app (l m : List Int) : iL l ++ iL m = iL (l ++ m) := by simp [iL]
theorem shp_iLs (n : Nat) (l : List Int) : D.shps n (iL l) = true := shps_map _ _ (fun a => shp_int n a) l
theorem shp_iL (l : List Int) : D.shp 60 (.lst (iL l)) = true := by simp only [D.shp, shp_iLs]
theorem shp_iT (n : Nat) (l : List Int) : D.shp (n + 1) (.tup (iL l)) = true := by simp only [D.shp, shp_iLs]
theorem eqs_iL (a b : List Int) : D.eqs (iL a) (iL b) = decide (a = b) := eqs_map _ (by intro a b; simp only [D.eq]; by_cases h : a = b <;> simp [h]) a b
theorem eq_iT (a b : List Int) : D.eq (.tup (iL a)) (.tup (iL b)) = decide (a = b) := by rw [D.eq]; exact eqs_iL a b
/-- what sound_of tells -/
def dSnd (x : Bool × List Int) : D := if x.1 then .tup [.str "ever", .tup (iL x.2)] else .tup (iL x.2)
theorem eq_dSnd (x y : Bool × List Int) : D.eq (dSnd x) (dSnd y) = decide (x = y) := by
  obtain ⟨a, l⟩ := x
  obtain ⟨b, m⟩ := y
  cases a <;> cases b <;> simp only [dSnd, Bool.false_eq_true, if_false, if_true, Prod.mk.injEq, true_and, false_and, reduceCtorEq]
  · exact eq_iT l m
  · cases l <;> simp [D.eq, D.eqs, iL]
  · cases m <;> simp [D.eq, D.eqs, iL]
  · rw [D.eq]; simp only [D.eqs, D.eq, decide_true, Bool.true_and, Bool.and_true]; exact eqs_iL l m
theorem shp_dSnd (x : Bool × List Int) : D.shp 60 (dSnd x) = true := by
  unfold dSnd
  split
  · simp only [D.shp, D.shps, shp_iT, shp_iLs, ofS_ok, Bool.and_true, Bool.and_self]
  · exact shp_iT _ _
/-- how many of a menu sound like one -/
def cM (menu : List Rc) (n t : Int) (r : Rc) : Int := ((menu.filter fun r' => decide (M.lsn r' n t = M.lsn r n t)).length : Nat)
def cMs (menu : List Rc) (n t : Int) : List Int := menu.map (cM menu n t)
def mx (menu : List Rc) (n t : Int) : Int := match cMs menu n t with
  | a :: r => r.foldl max a
  | [] => 0
theorem cnt_prog {menu : List Rc} (h : ∀ r ∈ menu, r.length ≤ 3) {n t : Int} (h1 : 1 ≤ n) (hn : n ≤ 100) {r : Rc} (hr : r ∈ menu) :
    (((menu.map fun r => dSnd (M.snd r n t)).filter fun y => D.eq y (dSnd (M.snd r n t))).length : Int) = cM menu n t r := by
  unfold cM
  rw [List.filter_map, List.length_map]
  congr 2
  refine List.filter_congr fun r' hr' => ?_
  simp only [Function.comp]
  rw [eq_dSnd, M.snd_eq (h r' hr') (h r hr) h1 hn]
theorem cnt_law (menu : List Rc) (n t : Int) (r : Rc) :
    (((menu.map fun r => D.tup (iL (M.lsn r n t))).filter fun y => D.eq y (.tup (iL (M.lsn r n t)))).length : Int) = cM menu n t r := by
  unfold cM
  rw [List.filter_map, List.length_map]
  congr 2
  refine List.filter_congr fun r' hr' => ?_
  simp only [Function.comp]
  rw [eq_iT]
theorem max_cMs {menu : List Rc} (h : menu ≠ []) (n t : Int) : bltv .maxl [.lst (iL (cMs menu n t))] = some (.int (mx menu n t)) := by
  show (match intsD (iL (cMs menu n t)) with
    | some (a :: r) => some (D.int (r.foldl max a))
    | _ => none) = _
  rw [ints_iL]
  unfold mx
  cases hm : cMs menu n t with
  | nil => exact absurd (by simpa [cMs] using hm) h
  | cons a r => rfl
/-- the program's best -/
def bst : Option (Int × Int) → List (Int × Int) → Option (Int × Int)
  | b, [] => b
  | none, y :: ys => bst (some y) ys
  | some a, y :: ys => if y.1 < a.1 then bst (some y) ys else bst (some a) ys
theorem bst_min : ∀ (ys : List (Int × Int)) (a : Int × Int), (∀ y ∈ ys, a.2 < y.2) → ys.Pairwise (fun x y => x.2 < y.2) → bst (some a) ys = some (minP a ys) := by
  intro ys
  induction ys with
  | nil => intro a _ _; rfl
  | cons y ys ih =>
    intro a h p
    obtain ⟨p1, p2⟩ := List.pairwise_cons.1 p
    have hy := h y (by simp)
    unfold bst minP
    rw [List.foldl_cons]
    by_cases hl : y.1 < a.1
    · rw [if_pos hl, ih y p1 p2]
      have : ltP y a = true := by simp [ltP, hl]
      rw [this]; rfl
    · rw [if_neg hl, ih a (fun z hz => h z (by simp [hz])) p2]
      have : ltP y a = false := by
        unfold ltP
        rw [decide_eq_false hl, decide_eq_false (by omega : ¬ y.2 < a.2)]
        simp
      rw [this]; rfl
theorem pairs_map : ∀ ps : List (Int × Int), pairsD (ps.map fun p => .tup [.int p.1, .int p.2]) = some ps
  | [] => rfl
  | p :: ps => by rw [List.map_cons, pairsD, pairs_map ps]; rfl
/-! ### comprehensions over encoded items -/
section
variable {α : Type} {T : List Fn} {it c elt : E} {δ : G.Env}
theorem wipe_put {v : Nat} (hlt : v < δ.length) (s : Sl) (y : D) : bindC [v] y (wipeE (δ.set v s) [v]) = some (δ.set v (.ro y)) := by
  simp only [bindC, wipeE, List.set_set, setRo]
  rw [fre_set hlt]
  simp [frS_no]
theorem compM {v : Nat} {l : List α} (f g : α → D) (hit : evi T it δ = .ok (l.map f) δ) (hv : notOwn δ v = true) (hlt : v < δ.length) (hl : l.length ≤ big)
    (hE : ∀ a ∈ l, ev T elt (δ.set v (.ro (f a))) = .ok (.d (g a)) (δ.set v (.ro (f a)))) : ev T (.comp [v] [v] it elt) δ = .ok (.d (.lst (l.map g))) δ := by
  have key : ∀ (ys : List α) (acc : List D) (s : Sl), (∀ x ∈ ys, x ∈ l) → ∃ s', compL (fun x δ' => (lift (bindC [v] x (wipeE δ' [v])) δ').bind fun δ1 _ => (ev T elt δ1).bind fun y δ2 => (lift (asD y) δ2).bind fun y δ => .ok (some y) δ) (ys.map f) acc (δ.set v s) = .ok (acc ++ ys.map g) (δ.set v s') := by
    intro ys
    induction ys with
    | nil => intro acc s _; exact ⟨s, by simp [compL]⟩
    | cons y ys ih =>
      intro acc s hm
      simp only [List.map_cons, compL, wipe_put hlt, lift_some, bnd_ok, hE y (hm y (by simp)), asD_d]
      obtain ⟨s', e⟩ := ih (acc ++ [g y]) (.ro (f y)) (fun x hx => hm x (by simp [hx]))
      exact ⟨s', by rw [e]; simp⟩
  simp only [ev, hit, bnd_ok]
  rw [if_pos ⟨by simp [hv], by simpa using hl⟩]
  obtain ⟨s', e⟩ := key l [] δ[v] (fun _ h => h)
  rw [List.set_getElem_self] at e
  rw [e, bnd_ok]
  simp only [List.nil_append, restE, List.set_set, List.getElem?_eq_getElem hlt]
  rw [List.set_getElem_self]
theorem compcM {v : Nat} {l : List α} (f g : α → D) (p : α → Bool) (hit : evi T it δ = .ok (l.map f) δ) (hv : notOwn δ v = true) (hlt : v < δ.length) (hl : l.length ≤ big)
    (hC : ∀ a ∈ l, ev T c (δ.set v (.ro (f a))) = .ok (.d (.bl (p a))) (δ.set v (.ro (f a))))
    (hE : ∀ a ∈ l, p a = true → ev T elt (δ.set v (.ro (f a))) = .ok (.d (g a)) (δ.set v (.ro (f a)))) : ev T (.compc [v] [v] it c elt) δ = .ok (.d (.lst ((l.filter p).map g))) δ := by
  have key : ∀ (ys : List α) (acc : List D) (s : Sl), (∀ x ∈ ys, x ∈ l) → ∃ s', compL (fun x δ' => (lift (bindC [v] x (wipeE δ' [v])) δ').bind fun δ1 _ => (ev T c δ1).bind fun t δ2 => (lift (asBl t) δ2).bind fun t δ2 =>
        if t then (ev T elt δ2).bind fun y δ3 => (lift (asD y) δ3).bind fun y δ => .ok (some y) δ else .ok none δ2) (ys.map f) acc (δ.set v s) = .ok (acc ++ (ys.filter p).map g) (δ.set v s') := by
    intro ys
    induction ys with
    | nil => intro acc s _; exact ⟨s, by simp [compL]⟩
    | cons y ys ih =>
      intro acc s hm
      cases hp : p y
      · simp only [List.map_cons, compL, wipe_put hlt, lift_some, bnd_ok, hC y (hm y (by simp)), hp, asBl_d, Bool.false_eq_true, if_false]
        obtain ⟨s', e⟩ := ih acc (.ro (f y)) (fun x hx => hm x (by simp [hx]))
        exact ⟨s', by rw [e]; simp [hp]⟩
      · simp only [List.map_cons, compL, wipe_put hlt, lift_some, bnd_ok, hC y (hm y (by simp)), hp, asBl_d, if_true, hE y (hm y (by simp)) hp, asD_d]
        obtain ⟨s', e⟩ := ih (acc ++ [g y]) (.ro (f y)) (fun x hx => hm x (by simp [hx]))
        exact ⟨s', by rw [e]; simp [hp]⟩
  simp only [ev, hit, bnd_ok]
  rw [if_pos ⟨by simp [hv], by simpa using hl⟩]
  obtain ⟨s', e⟩ := key l [] δ[v] (fun _ h => h)
  rw [List.set_getElem_self] at e
  rw [e, bnd_ok]
  simp only [List.nil_append, restE, List.set_set, List.getElem?_eq_getElem hlt]
  rw [List.set_getElem_self]
/-- [i for i, x in enumerate(l) if ..]: u, v = u + 1 the names' slots, the last ones -/
theorem compcE {u : Nat} {δ0 : List Sl} {l : List α} (f : α → D) (p : α → Bool) (hu : u = δ0.length) (hit : evi T it (δ0 ++ [.no, .no]) = .ok (enumF 0 (l.map f)) (δ0 ++ [.no, .no])) (hl : l.length ≤ big)
    (hC : ∀ a ∈ l, ∀ i : Nat, ev T c (δ0 ++ [.ro (.int i), .ro (f a)]) = .ok (.d (.bl (p a))) (δ0 ++ [.ro (.int i), .ro (f a)]))
    (hE : ∀ a ∈ l, ∀ i : Nat, ev T elt (δ0 ++ [.ro (.int i), .ro (f a)]) = .ok (.d (.int i)) (δ0 ++ [.ro (.int i), .ro (f a)])) :
    ev T (.compc [u, u + 1] [u, u + 1] it c elt) (δ0 ++ [.no, .no]) = .ok (.d (.lst (((List.range l.length).filter fun i => (l[i]?).elim false p).map fun i => D.int (i : Nat)))) (δ0 ++ [.no, .no]) := by
  have bnd : ∀ (s t : Sl) (i : Nat) (y : D), bindC [u, u + 1] (.tup [.int i, y]) (wipeE (δ0 ++ [s, t]) [u, u + 1]) = some (δ0 ++ [.ro (.int i), .ro y]) := by
    intro s t i y
    subst hu
    have w : wipeE (δ0 ++ [s, t]) [δ0.length, δ0.length + 1] = δ0 ++ [.no, .no] := by
      simp only [wipeE]
      rw [List.set_append_right _ _ (by omega), List.set_append_right _ _ (by omega)]
      simp
    rw [w]
    have f1 : free (δ0 ++ [Sl.no, .no]) δ0.length = true := by simp [free]
    have f2 : ∀ q, free (δ0 ++ [q, Sl.no]) (δ0.length + 1) = true := by intro q; simp [free]
    simp only [bindC, bindT, setRos, setRo, f1, if_true]
    rw [List.set_append_right _ _ (by omega)]
    simp only [Nat.sub_self, List.set_cons_zero, f2, if_true]
    rw [List.set_append_right _ _ (by omega)]
    simp
  have key : ∀ (ys : List α) (k : Nat) (acc : List D) (s t : Sl), (∀ x ∈ ys, x ∈ l) → ∃ s' t', compL (fun x δ' => (lift (bindC [u, u + 1] x (wipeE δ' [u, u + 1])) δ').bind fun δ1 _ => (ev T c δ1).bind fun t δ2 => (lift (asBl t) δ2).bind fun t δ2 =>
        if t then (ev T elt δ2).bind fun y δ3 => (lift (asD y) δ3).bind fun y δ => .ok (some y) δ else .ok none δ2) (enumF k (ys.map f)) acc (δ0 ++ [s, t]) = .ok (acc ++ ((List.range' k ys.length).filter fun i => (ys[i - k]?).elim false p).map fun i => D.int (i : Nat)) (δ0 ++ [s', t']) := by
    intro ys
    induction ys with
    | nil => intro k acc s t _; exact ⟨s, t, by simp [compL, enumF]⟩
    | cons y ys ih =>
      intro k acc s t hm
      have hr : ((List.range' (k + 1) ys.length).filter fun i => ((y :: ys)[i - k]?).elim false p) = ((List.range' (k + 1) ys.length).filter fun i => (ys[i - (k + 1)]?).elim false p) := by
        refine List.filter_congr fun i hi => ?_
        have := (List.mem_range'_1.1 hi).1
        rw [show i - k = (i - (k + 1)) + 1 by omega, List.getElem?_cons_succ]
      have h0 : ((y :: ys)[k - k]?).elim false p = p y := by simp
      rw [List.length_cons, List.range'_succ, List.filter_cons, hr, h0]
      cases hp : p y
      · simp only [List.map_cons, enumF, compL, bnd, lift_some, bnd_ok, hC y (hm y (by simp)), hp, asBl_d, Bool.false_eq_true, if_false]
        exact ih (k + 1) acc _ _ (fun x hx => hm x (by simp [hx]))
      · simp only [List.map_cons, enumF, compL, bnd, lift_some, bnd_ok, hC y (hm y (by simp)), hp, asBl_d, if_true, hE y (hm y (by simp)), asD_d]
        obtain ⟨s', t', e⟩ := ih (k + 1) (acc ++ [.int k]) (.ro (.int k)) (.ro (f y)) (fun x hx => hm x (by simp [hx]))
        exact ⟨s', t', by rw [e]; simp⟩
  have hz : ∀ (ys : List D) k, (enumF k ys).length = ys.length := by
    intro ys
    induction ys with
    | nil => intro k; rfl
    | cons y ys ih => intro k; simp [enumF, ih]
  simp only [ev, hit, bnd_ok]
  have hv : [u, u + 1].all (notOwn (δ0 ++ [Sl.no, .no])) = true := by
    subst hu
    simp [notOwn]
  rw [if_pos ⟨hv, by rw [hz]; simpa using hl⟩]
  obtain ⟨s', t', e⟩ := key l 0 [] .no .no (fun _ h => h)
  rw [e, bnd_ok, List.range_eq_range']
  simp only [List.nil_append, Nat.sub_zero]
  congr 1
  subst hu
  simp only [restE]
  rw [List.set_append_right _ _ (by omega), List.set_append_right _ _ (by omega)]
  simp
end
/-- items drawn one after another: the source is changed -/
theorem compS {T : List Fn} {v : Nat} {it elt : E} {P : D → Prop} {Δ : Int → Int → List Sl} {δ : List Sl} {xs : List D} {a b : Int} (hs : Src a b) (hit : evi T it δ = .ok xs (Δ a b)) (hv : ∀ a b, notOwn (Δ a b) v = true) (hlt : ∀ a b, v < (Δ a b).length) (hc : ∀ a b a' b', (Δ a b)[v]? = (Δ a' b')[v]?) (hl : xs.length ≤ big)
    (hE : ∀ a b, Src a b → ∀ x, ∃ d a' b', Src a' b' ∧ P d ∧ ev T elt ((Δ a b).set v (.ro x)) = .ok (.d d) ((Δ a' b').set v (.ro x))) :
    ∃ ds a' b', Src a' b' ∧ ds.length = xs.length ∧ (∀ d ∈ ds, P d) ∧ ev T (.comp [v] [v] it elt) δ = .ok (.d (.lst ds)) (Δ a' b') := by
  have key : ∀ (ys : List D) (acc : List D) (s : Sl) (a b : Int), Src a b → ∃ ds a' b' s', Src a' b' ∧ ds.length = ys.length ∧ (∀ d ∈ ds, P d) ∧ compL (fun x δ' => (lift (bindC [v] x (wipeE δ' [v])) δ').bind fun δ1 _ => (ev T elt δ1).bind fun y δ2 => (lift (asD y) δ2).bind fun y δ => .ok (some y) δ) ys acc ((Δ a b).set v s) = .ok (acc ++ ds) ((Δ a' b').set v s') := by
    intro ys
    induction ys with
    | nil => intro acc s a b h; exact ⟨[], a, b, s, h, rfl, fun _ h => by simp at h, by simp [compL]⟩
    | cons y ys ih =>
      intro acc s a b h
      obtain ⟨d, a1, b1, h1, hd, e1⟩ := hE a b h y
      obtain ⟨ds, a2, b2, s', h2, l2, p2, e2⟩ := ih (acc ++ [d]) (.ro y) a1 b1 h1
      refine ⟨d :: ds, a2, b2, s', h2, by simp [l2], fun x hx => ?_, ?_⟩
      · rcases List.mem_cons.1 hx with rfl | hx
        · exact hd
        · exact p2 x hx
      · simp only [compL, wipe_put (hlt a b), lift_some, bnd_ok, e1, asD_d]
        rw [e2]; simp
  obtain ⟨ds, a2, b2, s', h2, l2, p2, e2⟩ := key xs [] ((Δ a b)[v]'(hlt a b)) a b hs
  refine ⟨ds, a2, b2, h2, l2, p2, ?_⟩
  rw [List.set_getElem_self] at e2
  simp only [ev, hit, bnd_ok]
  rw [if_pos ⟨by simp [hv], hl⟩, e2, bnd_ok]
  simp only [List.nil_append, restE, List.set_set]
  rw [hc a b a2 b2, List.getElem?_eq_getElem (hlt a2 b2)]
  simp only
  rw [List.set_getElem_self]
end G
/-! Eq8: the evaluator's steps for texts, written dicts, errors that keep an int. -/
namespace G
open PySem
theorem g_m1 (T) (o) (a) (b) (δ) : ev T (.m1 o a b) δ = @bq _ _ _ (ev T a δ) ⟨fun x δ => if m1ok δ o x then @bq _ _ _ (ev T b δ) ⟨fun y δ => @bq _ _ _ (lift (m1R δ o x y) δ) ⟨fun z δ => .ok (.d z) δ⟩⟩ else .no⟩ := rfl
theorem g_nin (T) (a) (δ) : ev T (.nin a) δ = @bq _ _ _ (ev T a δ) ⟨fun x δ => @bq _ _ _ (lift (ninR δ x) δ) ⟨fun z δ => .ok (.d z) δ⟩⟩ := rfl
theorem g_cget (T) (kvs) (a) (δ) : ev T (.cget kvs a) δ = @bq _ _ _ (ev T a δ) ⟨fun x δ => @bq _ _ _ (lift (cgetR kvs x) δ) ⟨fun z δ => .ok (.d z) δ⟩⟩ := rfl
theorem g_gidx (T) (nm) (kvs) (a) (δ) : ev T (.gidx nm kvs a) δ = @bq _ _ _ (ev T a δ) ⟨fun x δ => @bq _ _ _ (lift (gidxR kvs x) δ) ⟨fun z δ => .ok (.d z) δ⟩⟩ := rfl
theorem g_Rm1 (T) (o) (a) (b) (δ) : evR T (.m1 o a b) δ = @bq _ _ _ (ev T (.m1 o a b) δ) ⟨fun x δ => lift (rtR δ x) δ⟩ := rfl
theorem g_Rnin (T) (a) (δ) : evR T (.nin a) δ = @bq _ _ _ (ev T (.nin a) δ) ⟨fun x δ => lift (rtR δ x) δ⟩ := rfl
theorem g_Rcget (T) (kvs) (a) (δ) : evR T (.cget kvs a) δ = @bq _ _ _ (ev T (.cget kvs a) δ) ⟨fun x δ => lift (rtR δ x) δ⟩ := rfl
theorem g_Rgidx (T) (nm) (kvs) (a) (δ) : evR T (.gidx nm kvs a) δ = @bq _ _ _ (ev T (.gidx nm kvs a) δ) ⟨fun x δ => lift (rtR δ x) δ⟩ := rfl
theorem g_raisN (T) (c) (f) (e) (δ) : exs T (.raisN c f e) δ = @bq _ _ _ (ev T e δ) ⟨fun x δ => match x with | .d (.int i) => .ex ⟨c, some (f, i)⟩ δ | _ => .no⟩ := rfl
theorem g_asgH (T) (j i k) (δ) : exs T (.asgH j i k) δ = (match δ[k]? with | some (.ro d) => if free δ j then (lift (setRo (δ.set j (.ow false (.lst []))) i d) δ).bind fun δ _ => .ok .nx δ else .no | _ => .no) := rfl
/-- what a caught call does -/
def csA (i n : Nat) (c f : Str) : Out Env Rt → Out Env Fl
  | .ok (.d x) δ => (lift (setRo δ i x) δ).bind fun δ _ => .ok .nx δ
  | .ex e δ => (match e.pl with
    | some (g, v) => if e.c = c ∧ g = f ∧ n < δ.length then (lift (setRo (δ.set n .no) i (.int v)) δ).bind fun δ _ => .ok .nx (δ.set n .no) else .no
    | none => .no)
  | _ => .no
theorem g_tryA (T) (i n k) (es) (c f) (δ) : exs T (.tryA i n k es c f) δ = @bq _ _ _ ((evs T es δ).noex) ⟨fun rs δ => csA i n c f (callR T k rs δ)⟩ := by
  simp only [exs]
  cases evs T es δ with
  | ok rs δ1 =>
    simp only [Out.noex, bq_ok]
    cases callR T k rs δ1 with
    | ok r δ2 => cases r <;> rfl
    | ex c' δ2 => rfl
    | no => rfl
  | ex c δ1 => rfl
  | no => rfl
theorem bq_cs {S α : Type} (a : α) (s : S) : (Out.ok a s : Out S α).noex = .ok a s := rfl
theorem c_m1ok (δ) (z : Str) : m1ok δ .spl (.d (.str z)) = true ∧ m1ok δ .joi (.d (.str z)) = true := ⟨rfl, rfl⟩
/-! ### texts -/
section
open TL
theorem spl_ne (S : List Nat) : ∀ (l : List Nat) (k : Nat) (acc : List Nat), spl S k acc l ≠ []
  | [], k, acc => by rw [spl_nil]; simp
  | c :: r, 0, acc => by
    cases h : pre S (c :: r) with
    | true => rw [spl_hit h]; simp
    | false => rw [spl_miss h]; exact spl_ne S r 0 _
  | c :: r, k + 1, acc => spl_ne S r k acc
theorem pre_one {s c : Nat} {r : List Nat} (h : pre [s] (c :: r) = true) : c = s := by
  have : [c] = [s] := eq_of_beq h
  simpa using this
theorem joinL_spl (s : Nat) : ∀ (l acc : List Nat), joinL [s] (spl [s] 0 acc l) = acc ++ l
  | [], acc => by rw [spl_nil]; simp [joinL]
  | c :: r, acc => by
    cases h : pre [s] (c :: r) with
    | true =>
      rw [spl_hit h, pre_one h]
      have ih := joinL_spl s r []
      have hn := spl_ne [s] r 0 []
      show joinL [s] (acc :: spl [s] 0 [] r) = _
      cases hq : spl [s] 0 [] r with
      | nil => exact absurd hq hn
      | cons q rs =>
        rw [hq] at ih
        show acc ++ ([s] ++ joinL [s] (q :: rs)) = _
        rw [ih]
        rfl
    | false => rw [spl_miss h, joinL_spl s r _, List.append_assoc]; rfl
theorem joinL_len (s : Nat) : ∀ l : List (List Nat), (joinL [s] l).length ≤ (l.map List.length).sum + l.length
  | [] => by simp [joinL]
  | [p] => by simp [joinL]
  | p :: q :: r => by
    have ih := joinL_len s (q :: r)
    simp only [joinL, List.length_append, List.map_cons, List.sum_cons, List.length_cons, List.length_nil] at ih ⊢
    omega
theorem spl_sum (s : Nat) : ∀ (l acc : List Nat), ((spl [s] 0 acc l).map List.length).sum + (spl [s] 0 acc l).length = acc.length + l.length + 1
  | [], acc => by rw [spl_nil]; simp
  | c :: r, acc => by
    cases h : pre [s] (c :: r) with
    | true =>
      rw [spl_hit h]
      have ih := spl_sum s r []
      simp only [List.map_cons, List.sum_cons, List.length_cons, List.length_nil, Nat.sub_self] at ih ⊢
      show acc.length + _ + _ = _
      omega
    | false =>
      rw [spl_miss h]
      have ih := spl_sum s r (acc ++ [c])
      simp only [List.length_append, List.length_cons, List.length_nil] at ih ⊢
      omega
end
/-- a separator of one sign -/
structure Sep (y : Str) (s : Nat) : Prop where
  e : y.cps.toList = [s]
  k : y.cps.all (· < 256) = true
theorem sep_sp : Sep " " 32 := ⟨by decide +kernel, by decide +kernel⟩
theorem sep_nl : Sep "\n" 10 := ⟨by decide +kernel, by decide +kernel⟩
section
variable {y : Str} {s : Nat}
theorem Sep.spl (h : Sep y s) (x : Str) : (Txt.split x y).map (fun z => z.cps.toList) = TL.spl [s] 0 [] x.cps.toList := by
  have := TL.split_spl x y (by show y.cps.toList ≠ []; rw [h.e]; simp) (TL.kind_ok h.k)
  rw [show TL.tl y = [s] from h.e] at this
  exact this
theorem Sep.ne (h : Sep y s) (x : Str) : Txt.split x y ≠ [] := fun z => by
  have := h.spl x
  rw [z] at this
  exact spl_ne _ _ _ _ this.symm
theorem Sep.back (h : Sep y s) (x : Str) : Txt.join y (Txt.split x y) = x := by
  rw [TL.join_eq]
  refine TL.ext_tl ?_
  rw [TL.tl_join, show TL.tl y = [s] from h.e, show (Txt.split x y).map TL.tl = _ from h.spl x, joinL_spl]
  rfl
theorem Sep.sum (h : Sep y s) (x : Str) : ((Txt.split x y).map (·.length)).sum + (Txt.split x y).length = x.length + 1 := by
  have e := spl_sum s x.cps.toList []
  rw [← h.spl x, List.map_map, List.length_map] at e
  have f : ((fun l : List Nat => l.length) ∘ fun z : Str => z.cps.toList) = fun z : Str => z.length := by
    funext z
    exact (TL.len_tl z).symm
  rw [show (List.length ∘ fun z : Str => z.cps.toList) = fun z : Str => z.length from f] at e
  rw [TL.len_tl x]
  simpa using e
theorem Sep.jlen (h : Sep y s) (ps : List Str) : (Txt.join y ps).length ≤ (ps.map (·.length)).sum + ps.length := by
  rw [TL.join_eq, TL.len_tl, TL.tl_join, show TL.tl y = [s] from h.e]
  have e := joinL_len s (ps.map TL.tl)
  rw [List.map_map, List.length_map] at e
  have f : (List.length ∘ TL.tl) = fun z : Str => z.length := by
    funext z
    exact (TL.len_tl z).symm
  rw [f] at e
  exact e
theorem Sep.join (h : Sep y s) {ps : List Str} (hn : ps ≠ []) (hp : ∀ p ∈ ps, s ∉ p.cps.toList) : Txt.split (Txt.join y ps) y = ps :=
  TL.split_join (s := s) (S := []) h.e h.k hn hp
theorem Sep.len (h : Sep y s) : y.length = 1 := by rw [TL.len_tl, show TL.tl y = [s] from h.e]; rfl
theorem sum_mem : ∀ {ps : List Str} {p : Str}, p ∈ ps → p.length ≤ (ps.map (·.length)).sum
  | _ :: _, _, h => by
    rcases List.mem_cons.mp h with rfl | h
    · simp only [List.map_cons, List.sum_cons]; omega
    · have := sum_mem h
      simp only [List.map_cons, List.sum_cons]; omega
theorem Sep.part (h : Sep y s) {x p : Str} (hp : p ∈ Txt.split x y) : p.length ≤ x.length := by
  have a := h.sum x
  have b := sum_mem hp
  have c : 1 ≤ (Txt.split x y).length := List.length_pos_of_mem hp
  omega
theorem joinL_free {s : Nat} (S : List Nat) {t : Nat} (ht : t ∉ S) : ∀ {ps : List (List Nat)}, (∀ p ∈ ps, t ∉ p) → t ∉ TL.joinL S ps
  | [], _ => by simp [TL.joinL]
  | [p], h => h p (List.mem_singleton.mpr rfl)
  | p :: q :: r, h => by
    simp only [TL.joinL, List.mem_append, not_or]
    exact ⟨h p List.mem_cons_self, ht, joinL_free (s := s) S ht fun z hz => h z (List.mem_cons_of_mem _ hz)⟩
theorem Sep.free (h : Sep y s) {t : Nat} (ht : t ≠ s) {ps : List Str} (hp : ∀ p ∈ ps, t ∉ p.cps.toList) : t ∉ (Txt.join y ps).cps.toList := by
  rw [TL.join_eq]
  show t ∉ TL.tl _
  rw [TL.tl_join, show TL.tl y = [s] from h.e]
  refine joinL_free (s := s) [s] (by simpa using ht) fun p hq => ?_
  obtain ⟨z, hz, rfl⟩ := List.mem_map.mp hq
  exact hp z hz
end
theorem v_spl {x y : Str} {s : Nat} (h : Sep y s) (hl : x.length ≤ big) : m1v .spl (.str x) (.str y) = some (.lst ((Txt.split x y).map .str)) := by
  have e : (y.length == 0) = false := by rw [h.len]; rfl
  simp only [m1v]
  rw [if_pos ⟨e, hl⟩]
theorem v_joi {y : Str} {s : Nat} (h : Sep y s) {ps : List Str} (hl : (ps.map (·.length)).sum + ps.length ≤ 16000000) : m1v .joi (.str y) (.lst (ps.map .str)) = some (.str (Txt.join y ps)) := by
  simp only [m1v, strsD_map, Option.bind_some]
  rw [if_pos (by rw [h.len]; omega)]
mutual
theorem D.eq_self : ∀ (n : Nat) (d : D), D.shp n d = true → D.eq d d = true
  | _, .non, _ => by simp [D.eq]
  | _, .bl b, _ => by simp [D.eq]
  | _, .int i, _ => by simp [D.eq]
  | _, .str z, _ => by simp [D.eq]
  | 0, .tup xs, h => by simp [D.shp] at h
  | n + 1, .tup xs, h => by simp only [D.eq]; exact D.eqs_self n xs (by simpa [D.shp] using h)
  | 0, .lst xs, h => by simp [D.shp] at h
  | n + 1, .lst xs, h => by simp only [D.eq]; exact D.eqs_self n xs (by simpa [D.shp] using h)
  | 0, .frz xs, h => by simp [D.shp] at h
  | n + 1, .frz xs, h => by simp [D.shp] at h
theorem D.eqs_self : ∀ (n : Nat) (d : List D), D.shps n d = true → D.eqs d d = true
  | _, [], _ => by simp [D.eqs]
  | n, x :: xs, h => by
    simp only [D.shps, Bool.and_eq_true] at h
    simp only [D.eqs, D.eq_self n x h.1, D.eqs_self n xs h.2]
    rfl
end
theorem eqs_str : ∀ xs ys : List Str, D.eqs (xs.map .str) (ys.map .str) = decide (xs = ys)
  | [], [] => by simp [D.eqs]
  | [], _ :: _ => by simp [D.eqs]
  | _ :: _, [] => by simp [D.eqs]
  | x :: xs, y :: ys => by
    simp only [List.map_cons, D.eqs, eqs_str xs ys, D.eq]
    by_cases h : x = y <;> by_cases h2 : xs = ys <;> simp [h, h2]
/-- a text of real signs -/
def Real (x : Str) : Prop := ∀ c ∈ x.cps.toList, c < 0x110000
instance (x : Str) : Decidable (Real x) := inferInstanceAs (Decidable (∀ c ∈ x.cps.toList, c < 0x110000))
theorem Real.shp {x : Str} (h : Real x) (n : Nat) : D.shp n (.str x) = true := by
  have e : x.cps.all (· < 0x110000) = true := by
    rw [← Array.all_toList, List.all_eq_true]
    intro c hc
    exact decide_eq_true (h c hc)
  cases n <;> simpa [D.shp] using e
theorem shps_str (n : Nat) : ∀ xs : List Str, (∀ x ∈ xs, Real x) → D.shps n (xs.map .str) = true
  | [], _ => by simp [D.shps]
  | x :: xs, h => by
    rw [List.map_cons, D.shps, (h x List.mem_cons_self).shp n, shps_str n xs fun z hz => h z (List.mem_cons_of_mem _ hz)]
    rfl
theorem Real.app {x y : Str} (h : Real x) (k : Real y) : Real (x ++ y) := fun c hc => by
  have e : (x ++ y).cps.toList = x.cps.toList ++ y.cps.toList := TL.tl_append x y
  rw [e] at hc
  rcases List.mem_append.mp hc with q | q
  · exact h c q
  · exact k c q
theorem joinL_mem (S : List Nat) : ∀ {ps : List (List Nat)} {c : Nat}, c ∈ TL.joinL S ps → c ∈ S ∨ ∃ p ∈ ps, c ∈ p
  | [], _, h => by simp [TL.joinL] at h
  | [p], _, h => .inr ⟨p, List.mem_singleton.mpr rfl, h⟩
  | p :: q :: r, c, h => by
    simp only [TL.joinL, List.mem_append] at h
    rcases h with h | h | h
    · exact .inr ⟨p, List.mem_cons_self, h⟩
    · exact .inl h
    · rcases joinL_mem S h with q | ⟨z, hz, q⟩
      · exact .inl q
      · exact .inr ⟨z, List.mem_cons_of_mem _ hz, q⟩
theorem Real.join {y : Str} (hy : Real y) {ps : List Str} (h : ∀ p ∈ ps, Real p) : Real (Txt.join y ps) := fun c hc => by
  rw [TL.join_eq] at hc
  have hc : c ∈ TL.tl (Str.join y ps) := hc
  rw [TL.tl_join] at hc
  rcases joinL_mem _ hc with q | ⟨p, hp, q⟩
  · exact hy c q
  · obtain ⟨z, hz, rfl⟩ := List.mem_map.mp hp
    exact h z hz c q
theorem spl_mem (s : Nat) : ∀ (l acc p : List Nat) (c : Nat), p ∈ TL.spl [s] 0 acc l → c ∈ p → c ∈ acc ∨ c ∈ l
  | [], acc, p, c, h, hc => by
    rw [TL.spl_nil] at h
    cases List.mem_singleton.mp h
    exact .inl hc
  | d :: r, acc, p, c, h, hc => by
    cases hp : TL.pre [s] (d :: r) with
    | true =>
      rw [TL.spl_hit hp] at h
      rcases List.mem_cons.mp h with rfl | h
      · exact .inl hc
      · rcases spl_mem s r [] p c h hc with q | q
        · simp at q
        · exact .inr (List.mem_cons_of_mem _ q)
    | false =>
      rw [TL.spl_miss hp] at h
      rcases spl_mem s r _ p c h hc with q | q
      · rcases List.mem_append.mp q with q | q
        · exact .inl q
        · exact .inr (by rw [List.mem_singleton.mp q]; exact List.mem_cons_self)
      · exact .inr (List.mem_cons_of_mem _ q)
theorem Real.part {x y p : Str} {s : Nat} (hs : Sep y s) (h : Real x) (hp : p ∈ Txt.split x y) : Real p := fun c hc => by
  have e := hs.spl x
  have m : p.cps.toList ∈ TL.spl [s] 0 [] x.cps.toList := by rw [← e]; exact List.mem_map_of_mem hp
  rcases spl_mem s _ _ _ c m hc with q | q
  · simp at q
  · exact h c q
end G
/-! Eq9: the evaluator's steps for players and tries. -/
namespace G
open PySem
section
variable (T : List Fn) (f : Fd) (k i j : Nat) (es a : E) (δ : G.Env) (b : S) (hs : List (Str × Hk))
theorem g_fld : ev T (.fld f i) δ = @bq _ _ _ (lift (fldR δ f i) δ) ⟨fun z δ => .ok (.d z) δ⟩ := rfl
theorem g_plen : ev T (.plen i) δ = @bq _ _ _ (lift (plenR δ i) δ) ⟨fun z δ => .ok (.d z) δ⟩ := rfl
theorem g_pemp : ev T (.pemp i) δ = @bq _ _ _ (lift (pempR δ i) δ) ⟨fun z δ => .ok (.d z) δ⟩ := rfl
theorem g_pmost : ev T (.pmost i) δ = @bq _ _ _ (lift (pmostR δ i) δ) ⟨fun z δ => .ok (.d z) δ⟩ := rfl
theorem g_isply : ev T (.isply i) δ = @bq _ _ _ (lift (isplyR δ i) δ) ⟨fun z δ => .ok (.d z) δ⟩ := rfl
theorem g_cmost : ev T .cmost δ = .ok (.d (.int 60)) δ := rfl
theorem g_plist : ev T (.plist i) δ = @bq _ _ _ (lift (plistR δ i) δ) ⟨fun z δ => .ok (.d z) δ⟩ := rfl
theorem g_mcall : ev T (.mcall k i es) δ = if isPly δ i then @bq _ _ _ (evs T es δ) ⟨fun rs δ => @bq _ _ _ (callR T k (.own i :: rs) δ) ⟨fun r δ => @bq _ _ _ (lift r.dat δ) ⟨fun z δ => .ok (.d z) δ⟩⟩⟩ else .no := rfl
theorem g_play0 : ev T (.play0 k i) δ = if isPly δ i then @bq _ _ _ (callR T k [.own i, .d (.int 1)] δ) ⟨fun r δ => @bq _ _ _ (lift r.dat δ) ⟨fun z δ => .ok (.d z) δ⟩⟩ else .no := rfl
theorem g_prop : ev T (.prop k i) δ = if isPly δ i then @bq _ _ _ ((callR T k [.own i] δ).noex) ⟨fun r δ => @bq _ _ _ (lift r.dat δ) ⟨fun z δ => .ok (.d z) δ⟩⟩ else .no := rfl
theorem g_olen : ev T (.olen k i) δ = if isPly δ i then @bq _ _ _ ((callR T k [.own i] δ).noex) ⟨fun r δ => @bq _ _ _ (lift (rtI r) δ) ⟨fun z δ => .ok (.d z) δ⟩⟩ else .no := rfl
theorem g_obool : ev T (.obool k i) δ = if isPly δ i then @bq _ _ _ ((callR T k [.own i] δ).noex) ⟨fun r δ => @bq _ _ _ (lift (rtB r) δ) ⟨fun z δ => .ok (.d (.bl z)) δ⟩⟩ else .no := rfl
theorem g_oin : ev T (.oin k a i) δ = @bq _ _ _ (ev T a δ) ⟨fun x δ => if isPly δ i then @bq _ _ _ ((callR T k [.own i, x] δ).noex) ⟨fun r δ => @bq _ _ _ (lift (rtB r) δ) ⟨fun z δ => .ok (.d (.bl z)) δ⟩⟩ else .no⟩ := rfl
theorem g_oeq : ev T (.oeq k i a) δ = if isPly δ i then @bq _ _ _ (ev T a δ) ⟨fun x δ => if isPly δ i && eqArg δ x then @bq _ _ _ ((callR T k [.own i, x] δ).noex) ⟨fun r δ => @bq _ _ _ (lift (rtB r) δ) ⟨fun z δ => .ok (.d (.bl z)) δ⟩⟩ else .no⟩ else .no := rfl
theorem g_Rfld : evR T (.fld f i) δ = @bq _ _ _ (ev T (.fld f i) δ) ⟨fun x δ => lift (rtR δ x) δ⟩ := rfl
theorem g_Rplen : evR T (.plen i) δ = @bq _ _ _ (ev T (.plen i) δ) ⟨fun x δ => lift (rtR δ x) δ⟩ := rfl
theorem g_pset : exs T (.pset i a) δ = @bq _ _ _ (ev T a δ) ⟨fun x δ => @bq _ _ _ (lift (asD x) δ) ⟨fun x δ => @bq _ _ _ (lift (psetR δ i x) δ) ⟨fun δ _ => .ok .nx δ⟩⟩⟩ := rfl
theorem g_ppush : exs T (.ppush i) δ = @bq _ _ _ (lift (ppushR δ i) δ) ⟨fun δ _ => .ok .nx δ⟩ := rfl
theorem g_ppop : exs T (.ppop i) δ = @bq _ _ _ (lift (ppopR δ i) δ) ⟨fun δ _ => .ok .nx δ⟩ := rfl
theorem g_asgN : exs T (.asgN i k es) δ = @bq _ _ _ (evs T es δ) ⟨fun rs δ => @bq _ _ _ (lift (datas rs) δ) ⟨fun ds δ => @bq _ _ _ (makeR T k ds δ) ⟨fun o δ => if free δ i then .ok .nx (δ.set i (.ow false o)) else .no⟩⟩⟩ := rfl
theorem g_asgN1 : exs T (.asgN1 i j k es) δ = @bq _ _ _ (evs T es δ) ⟨fun rs δ => @bq _ _ _ (lift (datas rs) δ) ⟨fun ds δ => @bq _ _ _ (makeR T k ds δ) ⟨fun o δ => if free δ i = true ∧ i ≠ j then @bq _ _ _ (lift (setRo (δ.set i (.ow false o)) j (.lst [.tup [.non, .tup []]])) δ) ⟨fun δ _ => .ok .nx δ⟩ else .no⟩⟩⟩ := rfl
theorem g_mkx (c : Str) : ev T (.ext (.mkx c) a) δ = @bq _ _ _ (ev T a δ) ⟨fun x δ => @bq _ _ _ (lift (mkxR c x) δ) ⟨fun z δ => .ok (.d z) δ⟩⟩ := rfl
theorem g_isx (c : Str) : ev T (.ext (.isx c) a) δ = @bq _ _ _ (ev T a δ) ⟨fun x δ => @bq _ _ _ (lift (isxR c x) δ) ⟨fun z δ => .ok (.d z) δ⟩⟩ := rfl
theorem g_erf (c : Str) : ev T (.ext (.erf c) a) δ = @bq _ _ _ (ev T a δ) ⟨fun x δ => @bq _ _ _ (lift (erfR c x) δ) ⟨fun z δ => .ok (.d z) δ⟩⟩ := rfl
theorem g_tryl (w c g : Str) : ev T (.ext (.tryl w c g) a) δ = tryF c g (ev T a δ) := rfl
/-- what a try does with its body's end -/
def csM (hs : List (Str × Hk)) : Out Env Fl → Out Env Fl
  | .ex c δ => exh hs c δ
  | r => r
theorem g_tryM : exs T (.tryM b hs) δ = csM hs (exs T b δ) := by
  simp only [exs]
  cases exs T b δ <;> rfl
end
theorem csM_ok (hs) (f : Fl) (δ : G.Env) : csM hs (.ok f δ) = .ok f δ := rfl
theorem csM_ex (hs) (c : Exn) (δ : G.Env) : csM hs (.ex c δ) = exh hs c δ := rfl
theorem c_isPly0 (p : Bool) (r n w : D) (ps : List D) (l : List Sl) : isPly (.ow p (.ply r n w ps) :: l) 0 = true := rfl
theorem c_isPlyS (s : Sl) (l : List Sl) (i : Nat) : isPly (s :: l) (i + 1) = isPly l i := by simp [isPly, plyA]
theorem c_ply0 (p : Bool) (r n w : D) (ps : List D) (l : List Sl) : plyA (.ow p (.ply r n w ps) :: l) 0 = some (r, n, w, ps) := rfl
theorem c_plyS (s : Sl) (l : List Sl) (i : Nat) : plyA (s :: l) (i + 1) = plyA l i := by simp [plyA]
theorem ne_ok {S α : Type} (a : α) (s : S) : (Out.ok a s : Out S α).noex = .ok a s := rfl
theorem c_rtB (b : Bool) : rtB (.d (.bl b)) = some b := rfl
theorem c_rtI (n : Nat) (h : n ≤ big) : rtI (.d (.int n)) = some (.int n) := by
  show (if 0 ≤ (n : Int) ∧ (n : Int) ≤ big then some (D.int n) else none) = _
  rw [if_pos ⟨by omega, by omega⟩]
theorem c_eqArg (δ : G.Env) (xs : List D) : eqArg δ (.d (.tup xs)) = true := rfl
theorem c_isplyO (p : Bool) (r n w : D) (ps : List D) (s : Sl) (l : List Sl) : isplyR (s :: .ow p (.ply r n w ps) :: l) 1 = some (.bl true) := rfl
theorem c_isplyT (xs : List D) (s : Sl) (l : List Sl) : isplyR (s :: .ro (.tup xs) :: l) 1 = some (.bl false) := rfl
theorem c_pset0 (p : Bool) (r n w x : D) (ps : List D) (l : List Sl) : psetR (.ow p (.ply r n w ps) :: l) 0 x = some (.ow p (.ply r n x ps) :: l) := rfl
theorem c_ppush0 (p : Bool) (r n w : D) (ps : List D) (l : List Sl) (h : ps.length < 1000) : ppushR (.ow p (.ply r n w ps) :: l) 0 = some (.ow p (.ply r n w (ps ++ [w])) :: l) := by
  show (if ps.length < big then _ else _) = _
  rw [if_pos (by unfold big; omega)]
  rfl
theorem c_ppop0 (p : Bool) (r n w x : D) (ps : List D) (l : List Sl) : ppopR (.ow p (.ply r n w (ps ++ [x])) :: l) 0 = some (.ow p (.ply r n x ps) :: l) := by
  have e : (ps ++ [x]).getLast? = some x := by simp
  have d : (ps ++ [x]).dropLast = ps := by simp
  simp only [ppopR, List.getElem?_cons_zero, e, d, List.set_cons_zero]
end G
local macro_rules | `(tactic| simp! only [$ls,*] $[$loc:location]?) => `(tactic| simp -implicitDefEqProofs only [G.D.eq, G.D.eqs, G.atD, G.RV.val, G.RV.arg, G.vals, G.argsOf, G.datas, G.ownsOf, G.back, G.setRo, G.setRos, G.bindT, G.bindC, G.wipeE, G.restE, G.asBl, G.cmpR, G.idxR, G.binR, G.nonE, G.asBnd, G.slR, G.bltR, G.mthR, G.isLR, G.okOuts, G.callR, G.Rt.dat, G.itv, G.itR, G.enmR, G.negR, G.asD, G.rtR, G.mine, G.ownL, G.appR, G.setIR, G.outs, G.argB, G.run, G.ofS_inj, G.wS_rim, G.wE_inj, G.shp_int, G.shp_bl, G.shp_non, G.shp_wS, G.shp_wE, G.shp_S, G.shp_dPl, G.lift_some, G.lift_none, G.bnd_ok, G.bind_ex, G.bind_no, G.free_zero, G.free_succ, G.notOwn_zero, G.notOwn_succ, G.frS_ro, G.frS_no, G.frS_ow, G.frS_osl, G.noS_ro, G.noS_no, G.noS_ow, G.noS_osl, G.osl_some, G.osl_none, G.blsD_map, G.intsD_map, G.strsD_map, G.s1, G.s2, G.s3, G.s4, G.s5, G.s6, G.s7, G.s8, G.s9, G.s10, G.s11, G.s12, G.s13, G.s14, G.s15, G.s16, G.s17, G.s18, G.s19, G.s20, G.s21, G.s22, G.s23, G.s24, G.s25, G.s26, G.s27, G.s28, G.s29, G.s30, G.s31, G.s32, G.s33, G.s34, G.s35, G.s36, G.s37, G.s38, G.s39, G.s40, G.s41, G.s42, G.s43, G.s44, G.s45, G.s46, G.s47, G.s48, G.s49, G.s50, G.s51, G.s52, G.s53, G.s54, G.s55, G.s56, G.s57, G.s58, G.s59, G.s60, G.s61, G.s62, G.s63, G.s64, G.v_add, G.v_sub, G.v_mul, G.v_fdiv, G.v_mod, G.sl_toT, G.sl_toL, G.sl_fromT, G.sl_fromL, G.sl_fromT1, G.sl_fromL1, G.ixT0, G.ixT1, G.ixT2, G.ixT3, G.ixT4, G.ixT5, G.ixT6, G.ixL0, G.ixL1, G.ixL2, G.ixL3, G.ixL4, G.ixL5, G.ixL6, G.ixF0, G.ixF1, G.ixF2, G.ixF3, G.ixF4, G.ixF5, G.ixF6, G.ixTn, G.ixLn, G.ixFn, G.bl1, G.bl2, G.bl3, G.bl4, G.bl5, G.bl6, G.bl7, G.bl8, G.bl9, G.bl10, G.bl11, G.bl12, G.bl13, G.bl14, G.bl15, G.bl16, G.bl17, G.bl18, G.bli0n, G.bli0b, G.bli0i, G.bli0s, G.bli0t, G.bli0l, G.bli0f, G.bli1n, G.bli1b, G.bli1i, G.bli1s, G.bli1t, G.bli1l, G.bli1f, G.bli2n, G.bli2b, G.bli2i, G.bli2s, G.bli2t, G.bli2l, G.bli2f, G.bli3n, G.bli3b, G.bli3i, G.bli3s, G.bli3t, G.bli3l, G.bli3f, G.bli4n, G.bli4b, G.bli4i, G.bli4s, G.bli4t, G.bli4l, G.bli4f, G.k_isNon_non, G.k_isNon_bl, G.k_isNon_int, G.k_isNon_str, G.k_isNon_tup, G.k_isNon_lst, G.k_isNon_frz, G.k_isInt_non, G.k_isInt_bl, G.k_isInt_int, G.k_isInt_str, G.k_isInt_tup, G.k_isInt_lst, G.k_isInt_frz, G.k_isBl_non, G.k_isBl_bl, G.k_isBl_int, G.k_isBl_str, G.k_isBl_tup, G.k_isBl_lst, G.k_isBl_frz, G.k_isStr_non, G.k_isStr_bl, G.k_isStr_int, G.k_isStr_str, G.k_isStr_tup, G.k_isStr_lst, G.k_isStr_frz, G.k_isTup_non, G.k_isTup_bl, G.k_isTup_int, G.k_isTup_str, G.k_isTup_tup, G.k_isTup_lst, G.k_isTup_frz, G.k_isLst_non, G.k_isLst_bl, G.k_isLst_int, G.k_isLst_str, G.k_isLst_tup, G.k_isLst_lst, G.k_isLst_frz, G.k_flat_non, G.k_flat_bl, G.k_flat_int, G.k_flat_str, G.k_flat_tup, G.k_flat_lst, G.k_flat_frz, G.cm1, G.cm2, G.cm3, G.cm4, G.cm5, G.cm6, G.cm7, G.cm8, G.cm9, G.cm10, G.cm11, G.cm12, G.cm13, G.cm14, G.any0, G.any1, G.tRc, G.lRc, G.tPl, G.tSt, G.nRc, G.nPl, G.wE_caught, G.wE_out, G.wE_off, G.v_pow17, G.v_pow30, G.g_ev1, G.g_ev2, G.g_ev3, G.g_ev4, G.g_ev5, G.g_ev6, G.g_ev7, G.g_ev8, G.g_ev9, G.g_ev10, G.g_ev11, G.g_ev12, G.g_ev13, G.g_ev14, G.g_ev15, G.g_ev16, G.g_ev17, G.g_ev18, G.g_ev19, G.g_ev20, G.g_ev21, G.g_evs1, G.g_evs2, G.g_evi1, G.g_evi2, G.g_evi3, G.g_evi4, G.g_evF1, G.g_evF2, G.g_evF3, G.g_exs1, G.g_exs2, G.g_exs3, G.g_exs4, G.g_exs5, G.g_exs6, G.g_exs7, G.g_exs8, G.g_exs9, G.g_exs10, G.g_exs11, G.g_exs12, G.g_exs13, G.g_exs14, G.g_exs15, G.g_exs16, G.g_m1, G.g_nin, G.g_cget, G.g_gidx, G.g_raisN, G.g_tryA, G.g_Rm1, G.g_Rnin, G.g_Rcget, G.g_Rgidx, G.bq_cs, G.c_m1ok, G.g_srt, G.g_Rsrt, G.g_whl, G.g_asgL, G.g_asgH, G.g_mkx, G.g_isx, G.g_erf, G.g_tryl, G.g_fld, G.g_plen, G.g_pemp, G.g_pmost, G.g_isply, G.g_cmost, G.g_plist, G.g_mcall, G.g_play0, G.g_prop, G.g_olen, G.g_obool, G.g_oin, G.g_oeq, G.g_Rfld, G.g_Rplen, G.g_pset, G.g_ppush, G.g_ppop, G.g_asgN, G.g_asgN1, G.g_tryM, G.csM_ok, G.csM_ex, G.c_isPly0, G.c_isPlyS, G.c_ply0, G.c_plyS, G.fldR, G.plenR, G.pempR, G.pmostR, G.ne_ok, G.c_rtB, G.c_eqArg, G.c_isplyO, G.c_isplyT, G.c_pset0, G.g_evB, G.bq_ok, G.bq_ex, G.bq_no, G.g_R0, G.g_R1, G.g_R2, G.g_R3, G.g_R4, G.g_R5, G.g_R6, G.g_R7, G.g_R8, G.g_R9, G.g_R10, G.g_R11, G.g_R12, G.g_R13, G.g_R14, G.g_R15, G.g_R16, G.g_R17, G.g_Rlst, G.g_Rtup, G.g_Rcall, reduceIte, Nat.reduceAdd, Nat.reduceSub, Nat.reduceMul, Nat.reduceLT, Nat.reduceLeDiff, Nat.reduceEqDiff, Nat.reduceDiv, Nat.reduceMod, Int.reduceLE, Int.reduceLT, Int.reduceEq, Int.reduceNe, Int.reduceAdd, Int.reduceSub, Int.reduceMul, Int.reduceNeg, Int.reduceToNat, Int.reduceBEq, Int.reduceBNe, String.reduceEq, reduceCtorEq, Int.reduceAbs, Int.cast_ofNat_Int, $ls,*] $[$loc]?)
namespace G.k16
open PySem G
def w__wall_1 : E := (.lit (.bl true))
def b__wall_1 : S := .skip
def l__wall_1 : S := (.whl 1000000 w__wall_1 b__wall_1)
def b__wall : S := l__wall_1
def R__wall : Fn := run [] 1 b__wall

def b_is_from : S := (.ret (.and (.blt .isint (.cons (.var 0) .nil)) (.and (.not (.blt .isbool (.cons (.var 0) .nil))) (.chn .le .le (.var 1) (.var 0) (.var 2)))))
def R_is_from : Fn := run [] 3 b_is_from

def b_is_place : S := (.seq (.ite (.or (.not (.blt .istuple (.cons (.var 0) .nil))) (.or (.cmp .ne (.blt .len (.cons (.var 0) .nil)) (.lit (.int 2))) (.not (.blt .isstr (.cons (.idx (.var 0) (.lit (.int 0))) .nil))))) (.ret (.lit (.bl false))) .skip) (.ret (.and (.cmp .isin (.idx (.var 0) (.lit (.int 0))) (.con "SIDES" (.tup [(.str "rim"), (.str "mid")]))) (.call 0 (.cons (.idx (.var 0) (.lit (.int 1))) (.cons (.lit (.int 0)) (.cons (.con "MOST_PLACE" (.int 5)) .nil)))))))
def R_is_place : Fn := run [R_is_from] 1 b_is_place

def b_is_scratch : S := (.seq (.ite (.or (.not (.blt .istuple (.cons (.var 0) .nil))) (.or (.cmp .ne (.blt .len (.cons (.var 0) .nil)) (.lit (.int 4))) (.or (.not (.call 1 (.cons (.idx (.var 0) (.lit (.int 0))) .nil))) (.not (.call 1 (.cons (.idx (.var 0) (.lit (.int 1))) .nil)))))) (.ret (.lit (.bl false))) .skip) (.ret (.and (.call 0 (.cons (.idx (.var 0) (.lit (.int 2))) (.cons (.neg (.con "MOST_JUMP" (.int 3))) (.cons (.con "MOST_JUMP" (.int 3)) .nil)))) (.and (.cmp .ne (.idx (.var 0) (.lit (.int 2))) (.lit (.int 0))) (.call 0 (.cons (.idx (.var 0) (.lit (.int 3))) (.cons (.lit (.int 1)) (.cons (.lit (.int 2)) .nil))))))))
def R_is_scratch : Fn := run [R_is_from, R_is_place] 1 b_is_scratch

def x_has_record_1 : E := (.call 0 (.cons (.var 1) .nil))
def e_has_record_1 : E := (.comp [1] [1] (.itr (.var 0)) x_has_record_1)
def b_has_record : S := (.ret (.and (.blt .istuple (.cons (.var 0) .nil)) (.and (.cmp .le (.blt .len (.cons (.var 0) .nil)) (.con "MOST_SCRATCHES" (.int 3))) (.blt .all (.cons e_has_record_1 .nil)))))
def R_has_record : Fn := run [R_is_scratch] 2 b_has_record

def b_need_record : S := (.ite (.not (.call 0 (.cons (.var 0) .nil))) (.rais "InvalidRecord" "not a record") .skip)
def R_need_record : Fn := run [R_has_record] 1 b_need_record

def b_need_number : S := (.ite (.not (.call 0 (.cons (.var 0) (.cons (.var 1) (.cons (.var 2) .nil))))) (.rais "InvalidNumber" "no such number") .skip)
def R_need_number : Fn := run [R_is_from] 3 b_need_number

def b_raw_turn : S := (.ret (.ifx (.cmp .eq (.idx (.var 0) (.lit (.int 0))) (.lit (.str "rim"))) (.idx (.var 0) (.lit (.int 1))) (.bin .sub (.bin .sub (.var 1) (.lit (.int 1))) (.idx (.var 0) (.lit (.int 1))))))
def R_raw_turn : Fn := run [] 2 b_raw_turn

def b_turn_at : S := (.seq (.asg 2 (.call 0 (.cons (.var 0) (.cons (.var 1) .nil)))) (.ret (.ifx (.chn .le .lt (.lit (.int 0)) (.var 2) (.var 1)) (.var 2) (.lit .non))))
def R_turn_at : Fn := run [R_raw_turn] 3 b_turn_at

def b_need_turn : S := (.seq (.asg 2 (.call 0 (.cons (.var 0) (.cons (.var 1) .nil)))) (.seq (.ite (.cmp .is (.var 2) (.lit .non)) (.rais "NoTurn" "no such turn") .skip) (.ret (.var 2))))
def R_need_turn : Fn := run [R_turn_at] 3 b_need_turn

def b_acting_at_1 : S := (.ite (.chn .le .le (.call 0 (.cons (.idx (.var 4) (.lit (.int 0))) (.cons (.var 1) .nil))) (.var 2) (.call 0 (.cons (.idx (.var 4) (.lit (.int 1))) (.cons (.var 1) .nil)))) (.ret (.var 3)) .skip)
def l_acting_at_1 : S := (.forT [3, 4] (.enm (.var 0)) b_acting_at_1)
def b_acting_at : S := (.seq l_acting_at_1 (.ret (.lit .non)))
def R_acting_at : Fn := run [R_raw_turn] 5 b_acting_at

def b_next_of : S := (.seq (.asgT [3, 4] (.var 2)) (.seq (.asg 5 (.call 0 (.cons (.var 0) (.cons (.var 1) (.cons (.var 3) .nil))))) (.seq (.ite (.cmp .is (.var 5) (.lit .non)) (.ret (.tup (.cons (.bin .add (.var 3) (.lit (.int 1))) (.cons (.var 4) .nil)))) .skip) (.seq (.asgT [6, 7, 8, 9] (.idx (.var 0) (.var 5))) (.seq (.ite (.cmp .eq (.var 9) (.lit (.int 1))) (.ret (.tup (.cons (.bin .add (.bin .add (.var 3) (.lit (.int 1))) (.var 8)) (.cons (.var 4) .nil)))) .skip) (.seq (.asg 10 (.bin .add (.bin .add (.sl (.var 4) (.lit .non) (.var 5)) (.tup (.cons (.not (.idx (.var 4) (.var 5))) .nil))) (.sl (.var 4) (.bin .add (.var 5) (.lit (.int 1))) (.lit .non)))) (.ret (.tup (.cons (.bin .add (.bin .add (.var 3) (.lit (.int 1))) (.ifx (.idx (.var 4) (.var 5)) (.var 8) (.lit (.int 0)))) (.cons (.var 10) .nil))))))))))
def R_next_of : Fn := run [R_acting_at] 11 b_next_of

def b_fresh : S := (.ret (.bin .mul (.tup (.cons (.lit (.bl false)) .nil)) (.blt .len (.cons (.var 0) .nil))))
def R_fresh : Fn := run [] 1 b_fresh

def b__law_source : S := (.seq (.asg 2 (.ifx (.cmp .lt (.var 1) (.blt .len (.cons (.var 0) .nil))) (.blt .abs (.cons (.blt .int (.cons (.idx (.var 0) (.var 1)) .nil)) .nil)) (.bin .add (.bin .mul (.lit (.int 107)) (.var 1)) (.lit (.int 59))))) (.ret (.lst (.cons (.ifx (.cmp .gt (.var 2) (.bin .pow (.lit (.int 10)) (.lit (.int 17)))) (.var 2) (.lit (.int 0))) (.cons (.bin .mod (.blt .int (.cons (.bin .add (.bin .add (.bin .mul (.var 2) (.lit (.int 16807))) (.bin .mul (.lit (.int 10039)) (.var 1))) (.lit (.int 79))) .nil)) (.lit (.int 2147483237))) .nil)))))
def R__law_source : Fn := run [] 3 b__law_source

def b__law_draw : S := (.seq (.ite (.cmp .gt (.idx (.var 0) (.lit (.int 0))) (.lit (.int 0))) (.seq (.asg 2 (.bin .mod (.blt .int (.cons (.idx (.var 0) (.lit (.int 0))) .nil)) (.var 1))) (.seq (.setI 0 (.lit (.int 0)) (.bin .fdiv (.idx (.var 0) (.lit (.int 0))) (.var 1))) (.ret (.var 2)))) .skip) (.seq (.setI 0 (.lit (.int 1)) (.bin .mod (.blt .int (.cons (.bin .add (.bin .mul (.idx (.var 0) (.lit (.int 1))) (.lit (.int 48271))) (.lit (.int 83))) .nil)) (.lit (.int 2147483237)))) (.seq (.asg 3 (.bin .mod (.blt .int (.cons (.bin .mul (.idx (.var 0) (.lit (.int 1))) (.bin .add (.bin .fdiv (.idx (.var 0) (.lit (.int 1))) (.lit (.int 41))) (.lit (.int 26)))) .nil)) (.lit (.int 2147483179)))) (.ret (.bin .mod (.blt .int (.cons (.bin .fdiv (.var 3) (.lit (.int 32))) .nil)) (.var 1))))))
def R__law_draw : Fn := run [] 4 b__law_draw

def b__law_choice : S := (.ret (.idx (.var 1) (.call 0 (.cons (.var 0) (.cons (.blt .len (.cons (.var 1) .nil)) .nil)))))
def R__law_choice : Fn := run [R__law_draw] 2 b__law_choice

def b__law_kinds : S := (.seq (.ite (.or (.not (.ext (.isx "RecordError") (.var 0))) (.not (.ext (.isx "ValueError") (.var 0)))) (.ret (.lst .nil)) .skip) (.seq (.asg 1 (.lst (.cons (.ext (.isx "InvalidRecord") (.var 0)) (.cons (.ext (.isx "InvalidPlace") (.var 0)) (.cons (.ext (.isx "InvalidNumber") (.var 0)) .nil))))) (.seq (.asg 1 (.bin .add (.var 1) (.lst (.cons (.ext (.isx "InvalidWord") (.var 0)) (.cons (.ext (.isx "InvalidMenu") (.var 0)) (.cons (.ext (.isx "InvalidHeard") (.var 0)) .nil)))))) (.seq (.asg 1 (.bin .add (.var 1) (.lst (.cons (.ext (.isx "InvalidIndex") (.var 0)) (.cons (.ext (.isx "NoTurn") (.var 0)) (.cons (.ext (.isx "NotPlaying") (.var 0)) .nil)))))) (.ret (.bin .add (.var 1) (.lst (.cons (.ext (.isx "NothingToUndo") (.var 0)) (.cons (.ext (.isx "InvalidText") (.var 0)) (.cons (.ext (.isx "TooMany") (.var 0)) .nil))))))))))
def R__law_kinds : Fn := run [] 2 b__law_kinds

def b__law_made_errors : S := (.seq (.asg 2 (.lst (.cons (.ext (.mkx "InvalidRecord") (.var 0)) (.cons (.ext (.mkx "InvalidPlace") (.var 0)) (.cons (.ext (.mkx "InvalidNumber") (.var 0)) (.cons (.ext (.mkx "InvalidWord") (.var 0)) (.cons (.ext (.mkx "InvalidMenu") (.var 0)) .nil))))))) (.seq (.asg 2 (.bin .add (.var 2) (.lst (.cons (.ext (.mkx "InvalidHeard") (.var 0)) (.cons (.ext (.mkx "InvalidIndex") (.var 0)) (.cons (.ext (.mkx "NoTurn") (.var 0)) (.cons (.ext (.mkx "NotPlaying") (.var 0)) (.cons (.ext (.mkx "NothingToUndo") (.var 0)) .nil)))))))) (.ret (.bin .add (.var 2) (.lst (.cons (.ext (.mkx "InvalidText") (.var 1)) (.cons (.ext (.mkx "TooMany") (.var 1)) .nil)))))))
def R__law_made_errors : Fn := run [] 3 b__law_made_errors

def b_Player___init__ : S := (.seq (.drop (.call 1 (.cons (.var 1) .nil))) (.drop (.call 0 (.cons (.var 2) (.cons (.lit (.int 1)) (.cons (.bin .pow (.lit (.int 10)) (.lit (.int 30))) .nil))))))
def R_Player___init__ : Fn := runI [R_need_number, R_need_record] 3 b_Player___init__

def b_Player___len__ : S := (.ret (.plen 0))
def R_Player___len__ : Fn := run [R_Player___init__] 1 b_Player___len__

def b_Player_keep : S := (.seq (.ite (.cmp .ge (.plen 0) (.pmost 0)) (.raisN "TooMany" "limit" (.pmost 0)) .skip) (.seq (.ppush 0) (.pset 0 (.var 1))))
def R_Player_keep : Fn := run [R_Player___init__] 2 b_Player_keep

def b_Player_need_playing : S := (.ite (.cmp .is (.idx (.fld .nw 0) (.lit (.int 0))) (.lit .non)) (.rais "NotPlaying" "the needle is not on the record") .skip)
def R_Player_need_playing : Fn := run [R_Player___init__] 1 b_Player_need_playing

def w_Player_play_1 : E := (.and (.cmp .isnot (.var 2) (.lit .non)) (.cmp .lt (.blt .len (.cons (.var 3) .nil)) (.var 1)))
def b_Player_play_1 : S := (.seq (.app 3 (.idx (.var 2) (.lit (.int 0)))) (.seq (.asg 2 (.call 0 (.cons (.fld .rc 0) (.cons (.fld .mn 0) (.cons (.var 2) .nil))))) (.asg 2 (.ifx (.chn .le .lt (.lit (.int 0)) (.idx (.var 2) (.lit (.int 0))) (.fld .mn 0)) (.var 2) (.lit .non)))))
def l_Player_play_1 : S := (.whl 1000000 w_Player_play_1 b_Player_play_1)
def b_Player_play : S := (.seq (.ite (.not (.call 1 (.cons (.var 1) (.cons (.lit (.int 1)) (.cons (.lit (.int 20)) .nil))))) (.rais "InvalidNumber" "no such number of rounds") .skip) (.seq (.drop (.mcall 3 0 .nil)) (.seq (.asgL [2] (.cons (.idx (.fld .nw 0) (.lit (.int 0))) .nil) 3) (.seq l_Player_play_1 (.seq (.drop (.mcall 2 0 (.cons (.tup (.cons (.var 2) (.cons (.bin .add (.idx (.fld .nw 0) (.lit (.int 1))) (.blt .tuple (.cons (.var 3) .nil))) .nil))) .nil))) (.ret (.var 3)))))))
def R_Player_play : Fn := run [R_next_of, R_is_from, R_Player_keep, R_Player_need_playing] 4 b_Player_play

def b_Player_undo : S := (.seq (.ite (.pemp 0) (.rais "NothingToUndo" "nothing to undo") .skip) (.ppop 0))
def R_Player_undo : Fn := run [R_Player___init__] 1 b_Player_undo

def b_Player_needle : S := (.ret (.ifx (.cmp .is (.idx (.fld .nw 0) (.lit (.int 0))) (.lit .non)) (.lit .non) (.idx (.idx (.fld .nw 0) (.lit (.int 0))) (.lit (.int 0)))))
def R_Player_needle : Fn := run [R_Player___init__] 1 b_Player_needle

def b_Player_lift : S := (.seq (.drop (.mcall 1 0 .nil)) (.seq (.asg 1 (.idx (.idx (.fld .nw 0) (.lit (.int 0))) (.lit (.int 0)))) (.seq (.drop (.mcall 0 0 (.cons (.tup (.cons (.lit .non) (.cons (.idx (.fld .nw 0) (.lit (.int 1))) .nil))) .nil))) (.ret (.var 1)))))
def R_Player_lift : Fn := run [R_Player_keep, R_Player_need_playing] 2 b_Player_lift

def b_Player_nudge : S := (.seq (.ite (.not (.call 0 (.cons (.var 1) (.cons (.neg (.lit (.int 9))) (.cons (.lit (.int 9)) .nil))))) (.rais "InvalidNumber" "no such nudge") .skip) (.seq (.drop (.mcall 2 0 .nil)) (.seq (.asgT [2, 3] (.idx (.fld .nw 0) (.lit (.int 0)))) (.seq (.asg 4 (.ifx (.chn .le .lt (.lit (.int 0)) (.bin .add (.var 2) (.var 1)) (.fld .mn 0)) (.tup (.cons (.bin .add (.var 2) (.var 1)) (.cons (.var 3) .nil))) (.lit .non))) (.seq (.drop (.mcall 1 0 (.cons (.tup (.cons (.var 4) (.cons (.idx (.fld .nw 0) (.lit (.int 1))) .nil))) .nil))) (.ret (.ifx (.cmp .is (.var 4) (.lit .non)) (.lit .non) (.idx (.var 4) (.lit (.int 0))))))))))
def R_Player_nudge : Fn := run [R_is_from, R_Player_keep, R_Player_need_playing] 5 b_Player_nudge

def b_Player_put : S := (.seq (.ite (.not (.call 2 (.cons (.var 1) .nil))) (.rais "InvalidPlace" "not a place") .skip) (.seq (.asg 2 (.call 1 (.cons (.var 1) (.cons (.fld .mn 0) .nil)))) (.seq (.drop (.mcall 3 0 (.cons (.tup (.cons (.tup (.cons (.var 2) (.cons (.call 0 (.cons (.fld .rc 0) .nil)) .nil))) (.cons (.idx (.fld .nw 0) (.lit (.int 1))) .nil))) .nil))) (.ret (.var 2)))))
def R_Player_put : Fn := run [R_fresh, R_need_turn, R_is_place, R_Player_keep] 3 b_Player_put

def q_law_1 : S := (.ret (.and (.cmp .is (.mcall 7 9 .nil) (.lit .non)) (.and (.cmp .is (.ext (.tryl "_law_limit" "TooMany" "limit") (.mcall 6 9 (.cons (.lit (.int 1)) .nil))) (.lit .non)) (.cmp .eq (.olen 5 9) (.lit (.int 60))))))
def q_law_2 : S := (.ite (.cmp .ne (.prop 8 9) (.lit (.int 5))) (.ret (.lit (.bl false))) .skip)
def q_law_3 : S := (.ite (.cmp .ne (.var 11) (.bin .mul (.lst (.cons (.lit (.int 60)) .nil)) (.lit (.int 4)))) (.ret (.lit (.bl false))) .skip)
def q_law_4 : S := (.app 11 (.ext (.tryl "_law_limit" "TooMany" "limit") (.mcall 9 9 .nil)))
def q_law_5 : S := (.app 11 (.ext (.tryl "_law_limit" "TooMany" "limit") (.mcall 10 9 (.cons (.lit (.int 1)) .nil))))
def q_law_6 : S := (.app 11 (.ext (.tryl "_law_limit" "TooMany" "limit") (.mcall 6 9 (.cons (.lit (.int 1)) .nil))))
def q_law_7 : S := (.asgO 11 (.lst (.cons (.ext (.tryl "_law_limit" "TooMany" "limit") (.mcall 11 9 (.cons (.tup (.cons (.lit (.str "rim")) (.cons (.lit (.int 0)) .nil))) .nil))) .nil)))
def b_law_1 : S := (.drop (.mcall 11 9 (.cons (.tup (.cons (.lit (.str "rim")) (.cons (.bin .mod (.var 10) (.lit (.int 6))) .nil))) .nil)))
def l_law_1 : S := (.for1 10 (.rng1 (.lit (.int 60))) b_law_1)
def q_law_8 : S := (.asgN 9 12 (.cons (.tup .nil) (.cons (.lit (.int 99)) .nil)))
def q_law_9 : S := (.ite (.or (.cmp .ne (.ext (.erf "line") (.idx (.var 3) (.lit (.int 10)))) (.var 5)) (.cmp .ne (.ext (.erf "limit") (.idx (.var 3) (.lit (.int 11)))) (.var 5))) (.ret (.lit (.bl false))) .skip)
def x_law_1 : E := (.cmp .eq (.var 6) (.var 8))
def e_law_1 : E := (.comp [8] [8] (.rng1 (.lit (.int 12))) x_law_1)
def b_law_2 : S := (.ite (.cmp .ne (.call 0 (.cons (.var 7) .nil)) e_law_1) (.ret (.lit (.bl false))) .skip)
def l_law_2 : S := (.forT [6, 7] (.enm (.var 3)) b_law_2)
def q_law_10 : S := (.asg 3 (.call 1 (.cons (.var 4) (.cons (.var 5) .nil))))
def q_law_11 : S := (.asgP [4, 5] (.cons (.call 3 (.cons (.var 2) (.cons (.lst (.cons (.lit (.str "a")) (.cons (.lit (.str "groove")) (.cons (.lit (.str "")) (.cons (.lit (.str "no word")) .nil))))) .nil))) (.cons (.call 2 (.cons (.var 2) (.cons (.lit (.int 99)) .nil))) .nil)))
def q_law_12 : S := (.asgO 2 (.call 4 (.cons (.var 0) (.cons (.var 1) .nil))))
def b_law_3 : S := (.seq q_law_12 (.seq q_law_11 (.seq q_law_10 (.seq l_law_2 q_law_9))))
def l_law_3 : S := (.for1 1 (.rng1 (.bin .add (.lit (.int 1)) (.blt .min2 (.cons (.blt .len (.cons (.var 0) .nil)) (.cons (.lit (.int 4)) .nil))))) b_law_3)
def b_law : S := (.seq l_law_3 (.seq q_law_8 (.seq l_law_1 (.seq q_law_7 (.seq q_law_6 (.seq q_law_5 (.seq q_law_4 (.seq q_law_3 (.seq q_law_2 q_law_1)))))))))
def R_law : Fn := run [R__law_kinds, R__law_made_errors, R__law_draw, R__law_choice, R__law_source, R_Player___len__, R_Player_play, R_Player_undo, R_Player_needle, R_Player_lift, R_Player_nudge, R_Player_put, R_Player___init__] 13 b_law

end G.k16
namespace G.k16
open PySem G
open G.M (Pl Sc Rc St En)
structure OkR (r : Rc) : Prop where
  ok : M.Ok r
  le : r.length ≤ 3
theorem r_is_from (v lo hi : Int) : R_is_from [.ro (.int v), .ro (.int lo), .ro (.int hi)] = .ok (.d (.bl (decide (lo ≤ v ∧ v ≤ hi)))) [.ro (.int v), .ro (.int lo), .ro (.int hi)] := by
  simp only [R_is_from, b_is_from]
  by_cases h : lo ≤ v <;> simp! only [h]
theorem r_is_place {p : Pl} (h : p.ok) : R_is_place [.ro (dPl p)] = .ok (.d (.bl true)) [.ro (dPl p)] := by
  obtain ⟨h1, h2⟩ := h
  simp only [R_is_place, b_is_place, dPl]
  cases hr : p.rim <;> simp! only [r_is_from, h1, h2, wS, List.any_cons, List.any_nil, hr]
theorem r_is_scratch {s : Sc} (h : s.ok) : R_is_scratch [.ro (dSc s)] = .ok (.d (.bl true)) [.ro (dSc s)] := by
  obtain ⟨ha, hb, h1, h2, h3⟩ := h
  simp only [R_is_scratch, b_is_scratch, dSc, dEv]
  cases he : s.e <;> simp! only [r_is_from, r_is_place ha, r_is_place hb, h1, h2, h3]
theorem dRc_tup (r : Rc) : dRc r = .tup (r.map dSc) := rfl
theorem r_has_record {r : Rc} (h : OkR r) : R_has_record [.ro (dRc r)] = .ok (.d (.bl true)) [.ro (dRc r)] := by
  obtain ⟨h, hl⟩ := h
  have hc : ev [R_is_scratch] e_has_record_1 [.ro (.tup (r.map dSc)), .no] = .ok (.d (.lst ((r.map fun _ => true).map .bl))) [.ro (.tup (r.map dSc)), .no] := by
    have e : (r.map fun _ => true).map D.bl = (r.map dSc).map fun _ => D.bl true := by simp [List.map_map]
    rw [e]
    unfold e_has_record_1
    refine comp1 (fun _ => .bl true) (by simp! only []) (by rfl) (by simp) (by simp [big]; omega) ?_
    intro x hx
    obtain ⟨s, hs, rfl⟩ := List.mem_map.1 hx
    unfold x_has_record_1
    simp! only [r_is_scratch (h s hs)]
  have h2 : ((r.length : Int) ≤ 3) = True := eq_true (by omega)
  have h4 : ((r.map fun _ => true).all id) = true := by simp
  simp only [R_has_record, b_has_record, dRc]
  simp! only [hc, h4, h2]
theorem r_need_record {r : Rc} (h : OkR r) : R_need_record [.ro (dRc r)] = .ok (.d .non) [.ro (dRc r)] := by
  simp only [R_need_record, b_need_record]
  simp! only [r_has_record h]
theorem r_need_number {v lo hi : Int} (h : lo ≤ v) (h' : v ≤ hi) : R_need_number [.ro (.int v), .ro (.int lo), .ro (.int hi)] = .ok (.d .non) [.ro (.int v), .ro (.int lo), .ro (.int hi)] := by
  simp only [R_need_number, b_need_number]
  simp! only [r_is_from, h, h']
theorem r_raw_turn (p : Pl) (n : Int) : R_raw_turn [.ro (dPl p), .ro (.int n)] = .ok (.d (.int (M.raw p n))) [.ro (dPl p), .ro (.int n)] := by
  simp only [R_raw_turn, b_raw_turn, dPl]
  simp! only []
  cases h : p.rim <;> simp! only [M.raw, h]
theorem r_turn_at (p : Pl) (n : Int) : R_turn_at [.ro (dPl p), .ro (.int n)] = .ok (.d (if 0 ≤ M.raw p n ∧ M.raw p n < n then .int (M.raw p n) else .non)) [.ro (dPl p), .ro (.int n)] := by
  simp only [R_turn_at, b_turn_at]
  simp! only [r_raw_turn]
  by_cases h : 0 ≤ M.raw p n <;> by_cases h' : M.raw p n < n <;> simp! only [h, h']
theorem r_need_turn {p : Pl} {n : Int} (h : 0 ≤ M.raw p n) (h' : M.raw p n < n) : R_need_turn [.ro (dPl p), .ro (.int n)] = .ok (.d (.int (M.raw p n))) [.ro (dPl p), .ro (.int n)] := by
  simp only [R_need_turn, b_need_turn]
  simp! only [r_turn_at, h, h']
theorem b_acting (r0 : D) (n t : Int) (i : Nat) (s : Sc) : exs [R_raw_turn] b_acting_at_1 [.ro r0, .ro (.int n), .ro (.int t), .ro (.int i), .ro (dSc s)] =
    .ok (if M.hit s n t = true then .rt (.d (.int i)) else .nx) [.ro r0, .ro (.int n), .ro (.int t), .ro (.int i), .ro (dSc s)] := by
  simp only [b_acting_at_1, dSc, M.hit]
  by_cases h : M.raw s.a n ≤ t <;> simp! only [r_raw_turn, h]
  by_cases h' : t ≤ M.raw s.b n <;> simp! only [h']
theorem l_acting_at (r0 : D) (n t : Int) : ∀ (r : Rc) (i : Nat) (a b : Option D), ∃ a' b', loopF (bindT [3, 4]) (exs [R_raw_turn] b_acting_at_1) (enumF i (r.map dSc)) [.ro r0, .ro (.int n), .ro (.int t), osl a, osl b] =
    .ok (match M.find n t i r with | some (k, _) => .rt (.d (.int k)) | none => .nx) [.ro r0, .ro (.int n), .ro (.int t), osl a', osl b'] := by
  intro r
  induction r with
  | nil => intro i a b; exact ⟨a, b, rfl⟩
  | cons s r ih =>
    intro i a b
    simp only [List.map_cons, enumF, loopF, M.find]
    simp! only [b_acting]
    by_cases h : M.hit s n t = true
    · simp! only [h]
      exact ⟨some _, some _, rfl⟩
    · simp! only [h]
      exact ih (i + 1) (some _) (some _)
def oI : Option (Nat × Sc) → D
  | none => .non
  | some (k, _) => .int k
theorem r_acting_at (r : Rc) (n t : Int) : R_acting_at [.ro (dRc r), .ro (.int n), .ro (.int t)] = .ok (.d (oI (M.find n t 0 r))) [.ro (dRc r), .ro (.int n), .ro (.int t)] := by
  simp only [R_acting_at, b_acting_at, l_acting_at_1, dRc]
  simp! only []
  obtain ⟨a', b', h⟩ := l_acting_at (.tup (r.map dSc)) n t r 0 none none
  simp only [osl] at h
  simp! only [enumD_eq, h]
  cases M.find n t 0 r with
  | none => simp! only [oI]
  | some x => simp! only [oI]
end G.k16
namespace G.k16
open PySem G
open G.M (Pl Sc Rc St En)
theorem get_sc {r : Rc} {i : Nat} {c : Sc} (h : r[i]? = some c) : idxv (dRc r) (.int i) = some (dSc c) := by
  show atD _ _ = _
  rw [atL, List.getElem?_map, h]; rfl
theorem get_ms {ms : List Bool} {i : Nat} (h : i < ms.length) : (ms.map D.bl)[i]? = some (.bl (ms.getD i false)) := by
  rw [List.getElem?_map]; simp [h]
theorem put_ms {ms : List Bool} {i : Nat} (h : i < ms.length) (b : Bool) : (ms.map D.bl).take i ++ (.bl b :: (ms.map D.bl).drop (i + 1)) = (ms.set i b).map .bl := by
  rw [List.set_eq_take_append_cons_drop, if_pos h]; simp
theorem r_next_of {r : Rc} {s : St} (n : Int) (hl : s.2.length = r.length) (h3 : r.length ≤ 3) : R_next_of [.ro (dRc r), .ro (.int n), .ro (dSt s)] = .ok (.d (dSt (M.nxt false r n s))) [.ro (dRc r), .ro (.int n), .ro (dSt s)] := by
  obtain ⟨t, ms⟩ := s
  simp only at hl
  simp only [R_next_of, b_next_of, dSt]
  unfold M.nxt
  simp only
  cases hf : M.find n t 0 r with
  | none => simp! only [r_acting_at, hf, oI]
  | some ic =>
    obtain ⟨i, c⟩ := ic
    obtain ⟨_, hi, hc, _⟩ := M.find_some hf
    simp only [Nat.sub_zero, Nat.zero_add] at hc hi
    have hi' : i < ms.length := by omega
    have g := get_sc hc
    have g2 := get_ms hi'
    simp! only [r_acting_at, hf, oI, g, dSc, dEv]
    cases he : c.e
    · simp! only []
    · have hb : ∀ x : Bool, binv .add (.tup ((ms.map D.bl).take i)) (.tup [.bl x]) = some (.tup ((ms.map D.bl).take i ++ [.bl x])) := fun x => v_addT (by simp [big]; omega)
      have hb2 : ∀ x : Bool, binv .add (.tup ((ms.map D.bl).take i ++ [.bl x])) (.tup ((ms.map D.bl).drop (i + 1))) = some (.tup ((ms.set i x).map .bl)) := fun x => by
        rw [v_addT (by simp [big]; omega), List.append_assoc, List.singleton_append, put_ms hi']
      simp! only [dMs, g2, hb, hb2]
      cases hm : ms.getD i false <;> simp! only []
end G.k16
namespace G.k16
open PySem G
open G.M (Pl Sc Rc St En It)
theorem r_source0 (ns : List Int) (k : Nat) (c : Int) (m1 : ∀ i : Int, mulOk i 16807 = true) (m2 : ∀ i : Int, mulOk 10039 i = true) (m3 : ∀ i : Int, mulOk 107 i = true)  (hc : ¬ (100000000000000000 < c)) (h' : ((k : Int) < (ns.length : Int)) = False) (hC : 107 * (k : Int) + 59 = c) :
  R__law_source [.ro (.frz (ns.map .int)), .ro (.int k)] = .ok (.fr (.lst [.int 0, .int ((c * 16807 + 10039 * (k : Int) + 79).fmod 2147483237)])) [.ro (.frz (ns.map .int)), .ro (.int k)] := by
  simp only [R__law_source, b__law_source]
  simp! only [h', m1, m2, m3, gt_iff_lt, hC, hc]
theorem r_source (ns : List Int) (k : Nat) (hk : k ≤ 63) : ∃ a b, Src a b ∧ R__law_source [.ro (.frz (ns.map .int)), .ro (.int k)] = .ok (.fr (.lst [.int a, .int b])) [.ro (.frz (ns.map .int)), .ro (.int k)] := by
  have m1 : ∀ i : Int, mulOk i 16807 = true := fun i => mulOk_of' (by omega) (by omega)
  have m2 : ∀ i : Int, mulOk 10039 i = true := fun i => mulOk_of (by omega) (by omega)
  have m3 : ∀ i : Int, mulOk 107 i = true := fun i => mulOk_of (by omega) (by omega)
  have key : ∀ c : Int, 0 ≤ c → Src c ((c * 16807 + 10039 * (k : Int) + 79).fmod 2147483237) ∧ Src 0 ((c * 16807 + 10039 * (k : Int) + 79).fmod 2147483237) := fun c hc =>
    ⟨⟨hc, fm0 (by omega), fm1 (by omega)⟩, ⟨by omega, fm0 (by omega), fm1 (by omega)⟩⟩
  by_cases h : k < ns.length
  · have g : (ns.map D.int)[k]? = some (.int ns[k]) := by simp [h]
    have h' : ((k : Int) < (ns.length : Int)) = True := eq_true (by omega)
    have hc0 : 0 ≤ (if ns[k] < 0 then -ns[k] else ns[k]) := by split <;> omega
    generalize hC : (if ns[k] < 0 then -ns[k] else ns[k]) = c at *
    by_cases hc : 100000000000000000 < c
    · refine ⟨_, _, (key c hc0).1, ?_⟩
      simp only [R__law_source, b__law_source]
      simp! only [h', g, m1, m2, gt_iff_lt, hC, hc]
    · refine ⟨_, _, (key c hc0).2, ?_⟩
      simp only [R__law_source, b__law_source]
      simp! only [h', g, m1, m2, gt_iff_lt, hC, hc]
  · have h' : ((k : Int) < (ns.length : Int)) = False := eq_false (by omega)
    exact ⟨_, _, (key (107 * (k : Int) + 59) (by omega)).2, r_source0 ns k _ m1 m2 m3 (by omega) h' rfl⟩
theorem r_draw {a b : Int} (h : Src a b) {m : Int} (h1 : 1 ≤ m) (h2 : m < 1073741824) (p : Bool) : ∃ v a' b', Src a' b' ∧ 0 ≤ v ∧ v < m ∧
    R__law_draw [dSrc true a b, .ro (.int m)] = .ok (.d (.int v)) [dSrc true a' b', .ro (.int m)] := by
  obtain ⟨a0, b0, b1⟩ := h
  have m0 : ¬ m = 0 := by omega
  have m1 : (m.natAbs < 1073741824) = True := eq_true (by omega)
  simp only [R__law_draw, b__law_draw, dSrc]
  by_cases hp : 0 < a
  · refine ⟨a.fmod m, a.fdiv m, b, ⟨fd0 a0 (by omega), b0, b1⟩, fm0 (by omega), fm1 (by omega), ?_⟩
    simp! only [gt_iff_lt, hp, m0, m1, setIR]
  · have n0 : 0 ≤ (b * 48271 + 83).fmod 2147483237 := fm0 (by omega)
    have n1 : (b * 48271 + 83).fmod 2147483237 < 2147483237 := fm1 (by omega)
    have q1 : mulOk b 48271 = true := mulOk_of' (by omega) (by omega)
    generalize hc : (b * 48271 + 83).fmod 2147483237 = c at *
    have q2 : ∀ x, mulOk c x = true := fun x => mulOk_l (by omega) (by omega)
    refine ⟨(((c * (c.fdiv 41 + 26)).fmod 2147483179).fdiv 32).fmod m, a, c, ⟨a0, n0, n1⟩, fm0 (by omega), fm1 (by omega), ?_⟩
    simp! only [gt_iff_lt, hp, m0, m1, setIR, q1, hc, q2]
end G.k16
namespace G.k16
open PySem G
open G.M (Pl Sc Rc St En It)
theorem r_choice {a b : Int} (h : Src a b) (xs : List D) (h1 : 1 ≤ xs.length) (h2 : xs.length < 1000) : ∃ x a' b', Src a' b' ∧ x ∈ xs ∧
    R__law_choice [dSrc true a b, .ro (.lst xs)] = .ok (.d x) [dSrc true a' b', .ro (.lst xs)] := by
  obtain ⟨v, a', b', hs, h3, h4, e⟩ := r_draw h (m := xs.length) (by omega) (by omega) true
  have hv : v = (v.toNat : Nat) := by omega
  have hl : v.toNat < xs.length := by omega
  rw [hv] at e
  refine ⟨xs[v.toNat], a', b', hs, List.getElem_mem hl, ?_⟩
  have g : xs[v.toNat]? = some xs[v.toNat] := by simp [hl]
  simp only [R__law_choice, b__law_choice, dSrc] at *
  simp! only [e, g]
abbrev E5 (a b : Int) (m : Int) (r : Rc) (o3 o4 o5 o6 o7 : Option D) : List Sl := [dSrc true a b, .ro (.int m), .ro (dRc r), osl o3, osl o4, osl o5, osl o6, osl o7]
end G.k16
/-! Sv1: errors and their classes (k16). -/
namespace G.k16
open PySem G
def made (v : Int) : List D := [.err "InvalidRecord" none, .err "InvalidPlace" none, .err "InvalidNumber" none, .err "InvalidWord" none, .err "InvalidMenu" none, .err "InvalidHeard" none, .err "InvalidIndex" none, .err "NoTurn" none, .err "NotPlaying" none, .err "NothingToUndo" none, .err "InvalidText" (some v), .err "TooMany" (some v)]
theorem r_made (w : Str) (v : Int) : R__law_made_errors [.ro (.str w), .ro (.int v)] = .ok (.d (.lst (made v))) [.ro (.str w), .ro (.int v)] := by kernel_rfl
abbrev Tw : List Fn := [R__law_kinds, R__law_made_errors, R__law_draw, R__law_choice, R__law_source, R_Player___len__, R_Player_play, R_Player_undo, R_Player_needle, R_Player_lift, R_Player_nudge, R_Player_put, R_Player___init__]
theorem y_for (s0 s1 s2 s4 s5 : Sl) (v : Int) (o6 o7 : Option D) (s9 s10 s11 s12 : Sl) : exs Tw l_law_2 [s0, s1, s2, .ro (.lst (made v)), s4, s5, osl o6, osl o7, .no, s9, s10, s11, s12] = .ok .nx [s0, s1, s2, .ro (.lst (made v)), s4, s5, .ro (.int 11), .ro (.err "TooMany" (some v)), .no, s9, s10, s11, s12] := by
  cases o6 <;> cases o7 <;> kernel_rfl
def endS : S := .seq q_law_8 (.seq l_law_1 (.seq q_law_7 (.seq q_law_6 (.seq q_law_5 (.seq q_law_4 (.seq q_law_3 (.seq q_law_2 q_law_1)))))))
def outF : Out (List Sl) Fl → Bool
  | .ok (.rt (.d (.bl true))) (.ro _ :: _) => true
  | _ => false
theorem y_end (d0 : D) (s1 s2 s3 s4 s5 s6 s7 s8 s12 : Sl) : outF (exs Tw endS [.ro d0, s1, s2, s3, s4, s5, s6, s7, s8, .no, .no, .no, s12]) = true := by kernel_rfl
end G.k16
/-! Sv2: the law (k16). -/
namespace G.k16
open PySem G
abbrev EO (ns : List Int) (o1 : Option D) (s2 : Sl) (o3 o4 o5 o6 o7 : Option D) : List Sl := [.ro (.frz (ns.map .int)), osl o1, s2, osl o3, osl o4, osl o5, osl o6, osl o7, .no, .no, .no, .no, .no]
theorem seq_n {T : List Fn} {a b : S} {δ δ1 : List Sl} {x : Out (List Sl) Fl} (h1 : exs T a δ = .ok .nx δ1) (h2 : exs T b δ1 = x) : exs T (.seq a b) δ = x := by
  simp only [exs, h1, bnd_ok, h2]
theorem q12 (ns : List Int) (k : Nat) (hk : k ≤ 63) {s2 : Sl} (h2 : frS s2 = true) (o3 o4 o5 o6 o7 : Option D) : ∃ a b, Src a b ∧ exs Tw q_law_12 (EO ns (some (.int k)) s2 o3 o4 o5 o6 o7) = .ok .nx (EO ns (some (.int k)) (dSrc false a b) o3 o4 o5 o6 o7) := by
  obtain ⟨a, b, h, e⟩ := r_source ns k hk
  refine ⟨a, b, h, ?_⟩
  have t4 : Tw[4]? = some R__law_source := rfl
  simp only [q_law_12, EO, dSrc]
  generalize Tw = T at *
  simp! only [t4, e, h2]
theorem q11 (ns : List Int) (o1 : Option D) {a b : Int} (h : Src a b) (o3 o4 o5 o6 o7 : Option D) : ∃ w v a' b', Src a' b' ∧ exs Tw q_law_11 (EO ns o1 (dSrc false a b) o3 o4 o5 o6 o7) = .ok .nx (EO ns o1 (dSrc false a' b') o3 (some (.str w)) (some (.int v)) o6 o7) := by
  obtain ⟨x, a1, b1, h1, hx, e1⟩ := r_choice h [.str "a", .str "groove", .str "", .str "no word"] (by simp) (by simp)
  obtain ⟨v, a2, b2, h2, v0, v1, e2⟩ := r_draw h1 (m := 99) (by omega) (by omega) true
  have : ∃ w, x = .str w := by
    simp only [List.mem_cons, List.not_mem_nil, or_false] at hx
    rcases hx with rfl | rfl | rfl | rfl <;> exact ⟨_, rfl⟩
  obtain ⟨w, rfl⟩ := this
  refine ⟨w, v, a2, b2, h2, ?_⟩
  have t3 : Tw[3]? = some R__law_choice := rfl
  have t2 : Tw[2]? = some R__law_draw := rfl
  simp only [q_law_11, EO, dSrc] at *
  generalize Tw = T at *
  simp! only [t2, t3, e1, e2]
theorem q10 (ns : List Int) (o1 : Option D) (s2 : Sl) (o3 o6 o7 : Option D) (w : Str) (v : Int) : exs Tw q_law_10 (EO ns o1 s2 o3 (some (.str w)) (some (.int v)) o6 o7) = .ok .nx (EO ns o1 s2 (some (.lst (made v))) (some (.str w)) (some (.int v)) o6 o7) := by
  have e := r_made w v
  have t1 : Tw[1]? = some R__law_made_errors := rfl
  simp only [q_law_10, EO]
  generalize made v = m at *
  generalize Tw = T at *
  simp! only [t1, e]
theorem q9 (ns : List Int) (o1 : Option D) (s2 : Sl) (o4 o6 o7 : Option D) (v : Int) : exs Tw q_law_9 (EO ns o1 s2 (some (.lst (made v))) o4 (some (.int v)) o6 o7) = .ok .nx (EO ns o1 s2 (some (.lst (made v))) o4 (some (.int v)) o6 o7) := by
  have i1 : idxv (.lst (made v)) (.int 10) = some (.err "InvalidText" (some v)) := rfl
  have i2 : idxv (.lst (made v)) (.int 11) = some (.err "TooMany" (some v)) := rfl
  have f1 : erfR "line" (.d (.err "InvalidText" (some v))) = some (.int v) := rfl
  have f2 : erfR "limit" (.d (.err "TooMany" (some v))) = some (.int v) := rfl
  have c : cmpv .ne (.int v) (.int v) = some false := by simp [cmpv, D.shp, D.eq]
  simp only [q_law_9, EO]
  generalize made v = m at *
  generalize Tw = T at *
  simp! only [i1, i2, f1, f2, c]
theorem turn (ns : List Int) (k : Nat) (hk : k ≤ 63) {s2 : Sl} (h2 : frS s2 = true) (o3 o4 o5 o6 o7 : Option D) :
    ∃ t2 p3 p4 p5 p6 p7, frS t2 = true ∧ exs Tw b_law_3 (EO ns (some (.int k)) s2 o3 o4 o5 o6 o7) = .ok .nx (EO ns (some (.int k)) t2 p3 p4 p5 p6 p7) := by
  obtain ⟨a, b, h, e12⟩ := q12 ns k hk h2 o3 o4 o5 o6 o7
  obtain ⟨w, v, a1, b1, hs, e11⟩ := q11 ns (some (.int k)) h o3 o4 o5 o6 o7
  have e10 := q10 ns (some (.int k)) (dSrc false a1 b1) o3 o6 o7 w v
  have el : exs Tw l_law_2 (EO ns (some (.int k)) (dSrc false a1 b1) (some (.lst (made v))) (some (.str w)) (some (.int v)) o6 o7) = .ok .nx (EO ns (some (.int k)) (dSrc false a1 b1) (some (.lst (made v))) (some (.str w)) (some (.int v)) (some (.int 11)) (some (.err "TooMany" (some v)))) := y_for (.ro (.frz (ns.map .int))) (.ro (.int k)) (dSrc false a1 b1) (.ro (.str w)) (.ro (.int v)) v o6 o7 .no .no .no .no
  have e9 := q9 ns (some (.int k)) (dSrc false a1 b1) (some (.str w)) (some (.int 11)) (some (.err "TooMany" (some v))) v
  refine ⟨dSrc false a1 b1, some (.lst (made v)), some (.str w), some (.int v), some (.int 11), some (.err "TooMany" (some v)), rfl, ?_⟩
  unfold b_law_3
  exact seq_n e12 (seq_n e11 (seq_n e10 (seq_n el e9)))
theorem l_out (ns : List Int) : ∀ (m k : Nat) (o1 : Option D) (s2 : Sl) (o3 o4 o5 o6 o7 : Option D), k + m ≤ 63 → frS s2 = true →
    ∃ p1 t2 p3 p4 p5 p6 p7, loopF (fun x δ => setRo δ 1 x) (exs Tw b_law_3) ((List.range' k m).map fun (i : Nat) => D.int i) (EO ns o1 s2 o3 o4 o5 o6 o7) = .ok .nx (EO ns p1 t2 p3 p4 p5 p6 p7)
  | 0, k, o1, s2, o3, o4, o5, o6, o7, hk, h2 => ⟨o1, s2, o3, o4, o5, o6, o7, rfl⟩
  | m + 1, k, o1, s2, o3, o4, o5, o6, o7, hk, h2 => by
    have hs : setRo (EO ns o1 s2 o3 o4 o5 o6 o7) 1 (.int k) = some (EO ns (some (.int k)) s2 o3 o4 o5 o6 o7) := by
      simp only [EO]
      simp! only []
    obtain ⟨t2, p3, p4, p5, p6, p7, g2, e⟩ := turn ns k (by omega) h2 o3 o4 o5 o6 o7
    obtain ⟨w1, w2, w3, w4, w5, w6, w7, e2⟩ := l_out ns m (k + 1) (some (.int k)) t2 p3 p4 p5 p6 p7 (by omega) g2
    refine ⟨w1, w2, w3, w4, w5, w6, w7, ?_⟩
    rw [List.range'_succ, List.map_cons, loopF, hs]
    simp only [lift_some, bnd_ok, e]
    exact e2
theorem out_of {x : Out (List Sl) Fl} (h : outF x = true) : ∃ d δ, x = .ok (.rt (.d (.bl true))) (.ro d :: δ) := by
  unfold outF at h
  split at h
  · exact ⟨_, _, rfl⟩
  · cases h
theorem r_law (ns : List Int) (hl : ns.length ≤ 63) : R_law [.ro (.frz (ns.map .int))] = .ok (.d (.bl true)) [.ro (.frz (ns.map .int))] := by
  obtain ⟨p1, t2, p3, p4, p5, p6, p7, e⟩ := l_out ns (1 + min ns.length 4) 0 none .no none none none none none (by omega) rfl
  have g := rg1 (n := 1 + min ns.length 4) (by unfold big; omega)
  rw [rangeD0, List.range_eq_range'] at g
  have gm : (1 : Int) + (if (4 : Int) < (ns.length : Int) then 4 else (ns.length : Int)) = ((1 + min ns.length 4 : Nat) : Int) := by
    split <;> omega
  have e0 : exs Tw l_law_3 [.ro (.frz (ns.map .int)), .no, .no, .no, .no, .no, .no, .no, .no, .no, .no, .no, .no] = .ok .nx (EO ns p1 t2 p3 p4 p5 p6 p7) := by
    simp only [EO] at e
    simp! only [] at e
    simp only [l_law_3, EO]
    generalize Tw = T at *
    simp! only [gm, g, e]
  obtain ⟨d, δ, ye⟩ := out_of (y_end (.frz (ns.map .int)) (osl p1) t2 (osl p3) (osl p4) (osl p5) (osl p6) (osl p7) .no .no)
  have h : exs Tw b_law [.ro (.frz (ns.map .int)), .no, .no, .no, .no, .no, .no, .no, .no, .no, .no, .no, .no] = .ok (.rt (.d (.bl true))) (.ro d :: δ) := by
    unfold b_law
    exact seq_n e0 ye
  simp only [R_law]
  simp! only [h]
end G.k16
namespace G.k16
open PySem PySem.Spec PyProof.Rows L2 G
abbrev top (i : Nat) : Stmt := PySem.Challenge.pw_skipgrooves_k16_errors_and_their_classes.main.body.getD i (.Pass ⟨0, 0, 0, 0⟩)
def dd (x : Str) (i : Nat) : He.DefD := ⟨(x, none), x, x, defArgs (top i), defBody (top i), defScope (top i), [], []⟩
abbrev ini (i j : Nat) : Stmt := match top i with | .ClassDef _ _ _ b _ _ _ _ _ _ _ => b.getD j (.Pass ⟨0, 0, 0, 0⟩) | s => s
def di (x : Str) (qn : Str) (i j : Nat) : He.DefD := ⟨(x, some "__init__"), "__init__", qn, defArgs (ini i j), defBody (ini i j), defScope (ini i j), [], []⟩
def dm (x qn : Str) (i j : Nat) (df : List He.Dv) : He.DefD := ⟨("Player", some x), x, qn, defArgs (ini i j), defBody (ini i j), defScope (ini i j), df, []⟩
def dpr (x qn : Str) (i j : Nat) : PrD := ⟨x, qn, defArgs (ini i j), defBody (ini i j), defScope (ini i j)⟩
def fn : List He.DefD := [dd "_wall" 0, dd "is_from" 20, dd "is_place" 21, dd "is_scratch" 22, dd "has_record" 23, dd "need_record" 24, dd "need_number" 25, dd "raw_turn" 26, dd "turn_at" 27, dd "need_turn" 28, dd "acting_at" 29, dd "next_of" 30, dd "fresh" 32, dd "_law_source" 36, dd "_law_draw" 37, dd "_law_choice" 38, dd "_law_kinds" 39, dd "_law_made_errors" 40, dd "law" 42, dd "_law_limit" 41, di "InvalidText" "InvalidText.__init__" 13 0, di "TooMany" "TooMany.__init__" 14 0, dm "__init__" "Player.__init__" 34 1 [], dm "__len__" "Player.__len__" 34 17 [], dm "keep" "Player.keep" 34 6 [], dm "need_playing" "Player.need_playing" 34 7 [], dm "play" "Player.play" 34 9 [.int 1], dm "undo" "Player.undo" 34 13 [], dm "lift" "Player.lift" 34 11 [], dm "nudge" "Player.nudge" 34 10 [], dm "put" "Player.put" 34 8 []]
def pr : List PrD := [dpr "needle" "Player.needle" 34 4]
def fa : List He.Fa := [.free "len", .free "abs", .free "int", .free "str", .free "bool", .free "min", .free "max", .free "tuple", .free "list", .free "any", .free "all", .free "sum", .free "sorted", .free "isinstance", .free "range", .free "enumerate", .free "set", .glo "_wall", .glo "is_from", .glo "is_place", .glo "is_scratch", .glo "has_record", .glo "need_record", .glo "need_number", .glo "raw_turn", .glo "turn_at", .glo "need_turn", .glo "acting_at", .glo "next_of", .glo "fresh", .glo "_law_source", .glo "_law_draw", .glo "_law_choice", .glo "_law_kinds", .glo "_law_made_errors", .glo "law", .glo "_law_limit", .exc "InvalidHeard", .exc "InvalidIndex", .exc "InvalidMenu", .exc "InvalidNumber", .exc "InvalidPlace", .exc "InvalidRecord", .exc "InvalidWord", .exc "NoTurn", .exc "NotPlaying", .exc "NothingToUndo", .glo "InvalidHeard", .glo "InvalidIndex", .glo "InvalidMenu", .glo "InvalidNumber", .glo "InvalidPlace", .glo "InvalidRecord", .glo "InvalidText", .glo "InvalidWord", .glo "NoTurn", .glo "NotPlaying", .glo "NothingToUndo", .glo "TooMany", .glo "RecordError", .free "ValueError", .glo "Player", .cls "Player", .mkr "Player", .noat "Player" "record_kept", .noat "Player" "many", .noat "Player" "now", .noat "Player" "past", .meth "Player" "__init__", .meth "Player" "__len__", .meth "Player" "keep", .meth "Player" "need_playing", .meth "Player" "play", .meth "Player" "undo", .meth "Player" "lift", .meth "Player" "nudge", .meth "Player" "put", .exm "InvalidHeard" "InvalidHeard" true, .exm "InvalidHeard" "InvalidIndex" false, .exm "InvalidHeard" "InvalidMenu" false, .exm "InvalidHeard" "InvalidNumber" false, .exm "InvalidHeard" "InvalidPlace" false, .exm "InvalidHeard" "InvalidRecord" false, .exm "InvalidHeard" "InvalidText" false, .exm "InvalidHeard" "InvalidWord" false, .exm "InvalidHeard" "NoTurn" false, .exm "InvalidHeard" "NotPlaying" false, .exm "InvalidHeard" "NothingToUndo" false, .exm "InvalidHeard" "TooMany" false, .exm "InvalidIndex" "InvalidHeard" false, .exm "InvalidIndex" "InvalidIndex" true, .exm "InvalidIndex" "InvalidMenu" false, .exm "InvalidIndex" "InvalidNumber" false, .exm "InvalidIndex" "InvalidPlace" false, .exm "InvalidIndex" "InvalidRecord" false, .exm "InvalidIndex" "InvalidText" false, .exm "InvalidIndex" "InvalidWord" false, .exm "InvalidIndex" "NoTurn" false, .exm "InvalidIndex" "NotPlaying" false, .exm "InvalidIndex" "NothingToUndo" false, .exm "InvalidIndex" "TooMany" false, .exm "InvalidMenu" "InvalidHeard" false, .exm "InvalidMenu" "InvalidIndex" false, .exm "InvalidMenu" "InvalidMenu" true, .exm "InvalidMenu" "InvalidNumber" false, .exm "InvalidMenu" "InvalidPlace" false, .exm "InvalidMenu" "InvalidRecord" false, .exm "InvalidMenu" "InvalidText" false, .exm "InvalidMenu" "InvalidWord" false, .exm "InvalidMenu" "NoTurn" false, .exm "InvalidMenu" "NotPlaying" false, .exm "InvalidMenu" "NothingToUndo" false, .exm "InvalidMenu" "TooMany" false, .exm "InvalidNumber" "InvalidHeard" false, .exm "InvalidNumber" "InvalidIndex" false, .exm "InvalidNumber" "InvalidMenu" false, .exm "InvalidNumber" "InvalidNumber" true, .exm "InvalidNumber" "InvalidPlace" false, .exm "InvalidNumber" "InvalidRecord" false, .exm "InvalidNumber" "InvalidText" false, .exm "InvalidNumber" "InvalidWord" false, .exm "InvalidNumber" "NoTurn" false, .exm "InvalidNumber" "NotPlaying" false, .exm "InvalidNumber" "NothingToUndo" false, .exm "InvalidNumber" "TooMany" false, .exm "InvalidPlace" "InvalidHeard" false, .exm "InvalidPlace" "InvalidIndex" false, .exm "InvalidPlace" "InvalidMenu" false, .exm "InvalidPlace" "InvalidNumber" false, .exm "InvalidPlace" "InvalidPlace" true, .exm "InvalidPlace" "InvalidRecord" false, .exm "InvalidPlace" "InvalidText" false, .exm "InvalidPlace" "InvalidWord" false, .exm "InvalidPlace" "NoTurn" false, .exm "InvalidPlace" "NotPlaying" false, .exm "InvalidPlace" "NothingToUndo" false, .exm "InvalidPlace" "TooMany" false, .exm "InvalidRecord" "InvalidHeard" false, .exm "InvalidRecord" "InvalidIndex" false, .exm "InvalidRecord" "InvalidMenu" false, .exm "InvalidRecord" "InvalidNumber" false, .exm "InvalidRecord" "InvalidPlace" false, .exm "InvalidRecord" "InvalidRecord" true, .exm "InvalidRecord" "InvalidText" false, .exm "InvalidRecord" "InvalidWord" false, .exm "InvalidRecord" "NoTurn" false, .exm "InvalidRecord" "NotPlaying" false, .exm "InvalidRecord" "NothingToUndo" false, .exm "InvalidRecord" "TooMany" false, .exm "InvalidText" "InvalidHeard" false, .exm "InvalidText" "InvalidIndex" false, .exm "InvalidText" "InvalidMenu" false, .exm "InvalidText" "InvalidNumber" false, .exm "InvalidText" "InvalidPlace" false, .exm "InvalidText" "InvalidRecord" false, .exm "InvalidText" "InvalidText" true, .exm "InvalidText" "InvalidWord" false, .exm "InvalidText" "NoTurn" false, .exm "InvalidText" "NotPlaying" false, .exm "InvalidText" "NothingToUndo" false, .exm "InvalidText" "TooMany" false, .exm "InvalidWord" "InvalidHeard" false, .exm "InvalidWord" "InvalidIndex" false, .exm "InvalidWord" "InvalidMenu" false, .exm "InvalidWord" "InvalidNumber" false, .exm "InvalidWord" "InvalidPlace" false, .exm "InvalidWord" "InvalidRecord" false, .exm "InvalidWord" "InvalidText" false, .exm "InvalidWord" "InvalidWord" true, .exm "InvalidWord" "NoTurn" false, .exm "InvalidWord" "NotPlaying" false, .exm "InvalidWord" "NothingToUndo" false, .exm "InvalidWord" "TooMany" false, .exm "NoTurn" "InvalidHeard" false, .exm "NoTurn" "InvalidIndex" false, .exm "NoTurn" "InvalidMenu" false, .exm "NoTurn" "InvalidNumber" false, .exm "NoTurn" "InvalidPlace" false, .exm "NoTurn" "InvalidRecord" false, .exm "NoTurn" "InvalidText" false, .exm "NoTurn" "InvalidWord" false, .exm "NoTurn" "NoTurn" true, .exm "NoTurn" "NotPlaying" false, .exm "NoTurn" "NothingToUndo" false, .exm "NoTurn" "TooMany" false, .exm "NotPlaying" "InvalidHeard" false, .exm "NotPlaying" "InvalidIndex" false, .exm "NotPlaying" "InvalidMenu" false, .exm "NotPlaying" "InvalidNumber" false, .exm "NotPlaying" "InvalidPlace" false, .exm "NotPlaying" "InvalidRecord" false, .exm "NotPlaying" "InvalidText" false, .exm "NotPlaying" "InvalidWord" false, .exm "NotPlaying" "NoTurn" false, .exm "NotPlaying" "NotPlaying" true, .exm "NotPlaying" "NothingToUndo" false, .exm "NotPlaying" "TooMany" false, .exm "NothingToUndo" "InvalidHeard" false, .exm "NothingToUndo" "InvalidIndex" false, .exm "NothingToUndo" "InvalidMenu" false, .exm "NothingToUndo" "InvalidNumber" false, .exm "NothingToUndo" "InvalidPlace" false, .exm "NothingToUndo" "InvalidRecord" false, .exm "NothingToUndo" "InvalidText" false, .exm "NothingToUndo" "InvalidWord" false, .exm "NothingToUndo" "NoTurn" false, .exm "NothingToUndo" "NotPlaying" false, .exm "NothingToUndo" "NothingToUndo" true, .exm "NothingToUndo" "TooMany" false, .exm "TooMany" "InvalidHeard" false, .exm "TooMany" "InvalidIndex" false, .exm "TooMany" "InvalidMenu" false, .exm "TooMany" "InvalidNumber" false, .exm "TooMany" "InvalidPlace" false, .exm "TooMany" "InvalidRecord" false, .exm "TooMany" "InvalidText" false, .exm "TooMany" "InvalidWord" false, .exm "TooMany" "NoTurn" false, .exm "TooMany" "NotPlaying" false, .exm "TooMany" "NothingToUndo" false, .exm "TooMany" "TooMany" true]
def others : List Str := (["_wall", "RecordError", "InvalidRecord", "InvalidPlace", "InvalidNumber", "InvalidWord", "InvalidMenu", "InvalidHeard", "InvalidIndex", "NoTurn", "NotPlaying", "NothingToUndo", "InvalidText", "TooMany", "SIDES", "MOST_PLACE", "MOST_JUMP", "MOST_SCRATCHES", "is_from", "is_place", "is_scratch", "has_record", "need_record", "need_number", "raw_turn", "turn_at", "need_turn", "acting_at", "next_of", "fresh"] : List Str) ++ (["Player", "_law_source", "_law_draw", "_law_choice", "_law_kinds", "_law_made_errors", "_law_limit"] : List Str)
abbrev R : PySem.W.OpenRow := PySem.W.OpenLaw.row PySem.Challenge.rw_skipgrooves_k16_errors_and_their_classes
def cons : List (Str × D) := [("MOST_PLACE", (.int 5)), ("SIDES", (.tup [(.str "rim"), (.str "mid")])), ("MOST_JUMP", (.int 3)), ("MOST_SCRATCHES", (.int 3))]
def xs : List Str := ["InvalidHeard", "InvalidIndex", "InvalidMenu", "InvalidNumber", "InvalidPlace", "InvalidRecord", "InvalidText", "InvalidWord", "NoTurn", "NotPlaying", "NothingToUndo", "TooMany"]
def ens : List (Str × Str × Str) := [("RecordError", "InvalidText", "line"), ("RecordError", "TooMany", "limit")]
theorem si_InvalidText : FnScope ["self", "line"] ["self", "line"] (defScope (ini 13 0)) := ⟨by decide +kernel, by decide +kernel, by decide +kernel, by decide +kernel, by decide +kernel, by decide +kernel, by decide +kernel⟩
theorem si_TooMany : FnScope ["self", "limit"] ["self", "limit"] (defScope (ini 14 0)) := ⟨by decide +kernel, by decide +kernel, by decide +kernel, by decide +kernel, by decide +kernel, by decide +kernel, by decide +kernel⟩
theorem c__wall : isSs ⟨["k"], defScope (top 0), [], cons, [], [], false, false, false, []⟩ xs b__wall (defBody (top 0)) = true := by decide +kernel
theorem s__wall : FnScope ["k"] ["k"] (defScope (top 0)) := ⟨by decide +kernel, by decide +kernel, by decide +kernel, by decide +kernel, by decide +kernel, by decide +kernel, by decide +kernel⟩
theorem c_is_from : isSs ⟨["value", "low", "high"], defScope (top 20), [], cons, [], [], false, false, false, []⟩ xs b_is_from (defBody (top 20)) = true := by decide +kernel
theorem s_is_from : FnScope ["value", "low", "high"] ["value", "low", "high"] (defScope (top 20)) := ⟨by decide +kernel, by decide +kernel, by decide +kernel, by decide +kernel, by decide +kernel, by decide +kernel, by decide +kernel⟩
theorem c_is_place : isSs ⟨["value"], defScope (top 21), [("is_from", 3)], cons, [], [], false, false, false, []⟩ xs b_is_place (defBody (top 21)) = true := by decide +kernel
theorem s_is_place : FnScope ["value"] ["value"] (defScope (top 21)) := ⟨by decide +kernel, by decide +kernel, by decide +kernel, by decide +kernel, by decide +kernel, by decide +kernel, by decide +kernel⟩
theorem c_is_scratch : isSs ⟨["value"], defScope (top 22), [("is_from", 3), ("is_place", 1)], cons, [], [], false, false, false, []⟩ xs b_is_scratch (defBody (top 22)) = true := by decide +kernel
theorem s_is_scratch : FnScope ["value"] ["value"] (defScope (top 22)) := ⟨by decide +kernel, by decide +kernel, by decide +kernel, by decide +kernel, by decide +kernel, by decide +kernel, by decide +kernel⟩
theorem c_has_record : isSs ⟨["value", "one"], defScope (top 23), [("is_scratch", 1)], cons, [], [], false, false, false, []⟩ xs b_has_record (defBody (top 23)) = true := by decide +kernel
theorem s_has_record : FnScope ["value", "one"] ["value"] (defScope (top 23)) := ⟨by decide +kernel, by decide +kernel, by decide +kernel, by decide +kernel, by decide +kernel, by decide +kernel, by decide +kernel⟩
theorem c_need_record : isSs ⟨["value"], defScope (top 24), [("has_record", 1)], cons, [], [], false, false, false, []⟩ xs b_need_record (defBody (top 24)) = true := by decide +kernel
theorem s_need_record : FnScope ["value"] ["value"] (defScope (top 24)) := ⟨by decide +kernel, by decide +kernel, by decide +kernel, by decide +kernel, by decide +kernel, by decide +kernel, by decide +kernel⟩
theorem c_need_number : isSs ⟨["value", "low", "high"], defScope (top 25), [("is_from", 3)], cons, [], [], false, false, false, []⟩ xs b_need_number (defBody (top 25)) = true := by decide +kernel
theorem s_need_number : FnScope ["value", "low", "high"] ["value", "low", "high"] (defScope (top 25)) := ⟨by decide +kernel, by decide +kernel, by decide +kernel, by decide +kernel, by decide +kernel, by decide +kernel, by decide +kernel⟩
theorem c_raw_turn : isSs ⟨["place", "n"], defScope (top 26), [], cons, [], [], false, false, false, []⟩ xs b_raw_turn (defBody (top 26)) = true := by decide +kernel
theorem s_raw_turn : FnScope ["place", "n"] ["place", "n"] (defScope (top 26)) := ⟨by decide +kernel, by decide +kernel, by decide +kernel, by decide +kernel, by decide +kernel, by decide +kernel, by decide +kernel⟩
theorem c_turn_at : isSs ⟨["place", "n", "turn"], defScope (top 27), [("raw_turn", 2)], cons, [], [], false, false, false, []⟩ xs b_turn_at (defBody (top 27)) = true := by decide +kernel
theorem s_turn_at : FnScope ["place", "n", "turn"] ["place", "n"] (defScope (top 27)) := ⟨by decide +kernel, by decide +kernel, by decide +kernel, by decide +kernel, by decide +kernel, by decide +kernel, by decide +kernel⟩
theorem c_need_turn : isSs ⟨["place", "n", "turn"], defScope (top 28), [("turn_at", 2)], cons, [], [], false, false, false, []⟩ xs b_need_turn (defBody (top 28)) = true := by decide +kernel
theorem s_need_turn : FnScope ["place", "n", "turn"] ["place", "n"] (defScope (top 28)) := ⟨by decide +kernel, by decide +kernel, by decide +kernel, by decide +kernel, by decide +kernel, by decide +kernel, by decide +kernel⟩
theorem c_acting_at : isSs ⟨["record", "n", "turn", "index", "scratch"], defScope (top 29), [("raw_turn", 2)], cons, [], [], false, false, false, []⟩ xs b_acting_at (defBody (top 29)) = true := by decide +kernel
theorem s_acting_at : FnScope ["record", "n", "turn", "index", "scratch"] ["record", "n", "turn"] (defScope (top 29)) := ⟨by decide +kernel, by decide +kernel, by decide +kernel, by decide +kernel, by decide +kernel, by decide +kernel, by decide +kernel⟩
theorem c_next_of : isSs ⟨["record", "n", "state", "turn", "marks", "index", "first", "last", "jump", "every", "other"], defScope (top 30), [("acting_at", 3)], cons, [], [], false, false, false, []⟩ xs b_next_of (defBody (top 30)) = true := by decide +kernel
theorem s_next_of : FnScope ["record", "n", "state", "turn", "marks", "index", "first", "last", "jump", "every", "other"] ["record", "n", "state"] (defScope (top 30)) := ⟨by decide +kernel, by decide +kernel, by decide +kernel, by decide +kernel, by decide +kernel, by decide +kernel, by decide +kernel⟩
theorem c_fresh : isSs ⟨["record"], defScope (top 32), [], cons, [], [], false, false, false, []⟩ xs b_fresh (defBody (top 32)) = true := by decide +kernel
theorem s_fresh : FnScope ["record"] ["record"] (defScope (top 32)) := ⟨by decide +kernel, by decide +kernel, by decide +kernel, by decide +kernel, by decide +kernel, by decide +kernel, by decide +kernel⟩
theorem c__law_source : isSs ⟨["_law_script", "_law_k", "_law_cell"], defScope (top 36), [], cons, [], [], false, false, false, []⟩ xs b__law_source (defBody (top 36)) = true := by decide +kernel
theorem s__law_source : FnScope ["_law_script", "_law_k", "_law_cell"] ["_law_script", "_law_k"] (defScope (top 36)) := ⟨by decide +kernel, by decide +kernel, by decide +kernel, by decide +kernel, by decide +kernel, by decide +kernel, by decide +kernel⟩
theorem c__law_draw : isSs ⟨["_law_source_here", "_law_many", "_law_rest", "_law_wide"], defScope (top 37), [], cons, [], [], false, false, false, []⟩ xs b__law_draw (defBody (top 37)) = true := by decide +kernel
theorem s__law_draw : FnScope ["_law_source_here", "_law_many", "_law_rest", "_law_wide"] ["_law_source_here", "_law_many"] (defScope (top 37)) := ⟨by decide +kernel, by decide +kernel, by decide +kernel, by decide +kernel, by decide +kernel, by decide +kernel, by decide +kernel⟩
theorem c__law_choice : isSs ⟨["_law_source_here", "_law_some"], defScope (top 38), [("_law_draw", 2)], cons, [], [], false, false, false, []⟩ xs b__law_choice (defBody (top 38)) = true := by decide +kernel
theorem s__law_choice : FnScope ["_law_source_here", "_law_some"] ["_law_source_here", "_law_some"] (defScope (top 38)) := ⟨by decide +kernel, by decide +kernel, by decide +kernel, by decide +kernel, by decide +kernel, by decide +kernel, by decide +kernel⟩
theorem c__law_kinds : isSs ⟨["_law_e", "_law_told"], defScope (top 39), [], cons, [], [], false, false, true, []⟩ xs b__law_kinds (defBody (top 39)) = true := by decide +kernel
theorem s__law_kinds : FnScope ["_law_e", "_law_told"] ["_law_e"] (defScope (top 39)) := ⟨by decide +kernel, by decide +kernel, by decide +kernel, by decide +kernel, by decide +kernel, by decide +kernel, by decide +kernel⟩
theorem c__law_made_errors : isSs ⟨["_law_word", "_law_number", "_law_made"], defScope (top 40), [], cons, [], [], false, false, true, []⟩ xs b__law_made_errors (defBody (top 40)) = true := by decide +kernel
theorem s__law_made_errors : FnScope ["_law_word", "_law_number", "_law_made"] ["_law_word", "_law_number"] (defScope (top 40)) := ⟨by decide +kernel, by decide +kernel, by decide +kernel, by decide +kernel, by decide +kernel, by decide +kernel, by decide +kernel⟩
theorem c_Player___init__ : isSs ⟨["self", "record", "n"], defScope (ini 34 1), [("need_number", 3), ("need_record", 1)], cons, [], [], false, false, false, []⟩ xs b_Player___init__ ((defBody (ini 34 1)).take 2) = true := by decide +kernel
theorem s_Player___init__ : FnScope ["self", "record", "n"] ["self", "record", "n"] (defScope (ini 34 1)) := ⟨by decide +kernel, by decide +kernel, by decide +kernel, by decide +kernel, by decide +kernel, by decide +kernel, by decide +kernel⟩
theorem c_Player___len__ : isSs ⟨["self"], defScope (ini 34 17), [], cons, [], [("__init__", 3)], false, false, false, []⟩ xs b_Player___len__ (defBody (ini 34 17)) = true := by decide +kernel
theorem s_Player___len__ : FnScope ["self"] ["self"] (defScope (ini 34 17)) := ⟨by decide +kernel, by decide +kernel, by decide +kernel, by decide +kernel, by decide +kernel, by decide +kernel, by decide +kernel⟩
theorem c_Player_keep : isSs ⟨["self", "now"], defScope (ini 34 6), [], cons, [], [("__init__", 3)], false, false, false, []⟩ xs b_Player_keep (defBody (ini 34 6)) = true := by decide +kernel
theorem s_Player_keep : FnScope ["self", "now"] ["self", "now"] (defScope (ini 34 6)) := ⟨by decide +kernel, by decide +kernel, by decide +kernel, by decide +kernel, by decide +kernel, by decide +kernel, by decide +kernel⟩
theorem c_Player_need_playing : isSs ⟨["self"], defScope (ini 34 7), [], cons, [], [("__init__", 3)], false, false, false, []⟩ xs b_Player_need_playing (defBody (ini 34 7)) = true := by decide +kernel
theorem s_Player_need_playing : FnScope ["self"] ["self"] (defScope (ini 34 7)) := ⟨by decide +kernel, by decide +kernel, by decide +kernel, by decide +kernel, by decide +kernel, by decide +kernel, by decide +kernel⟩
theorem c_Player_play : isSs ⟨["self", "rounds", "state", "some"], defScope (ini 34 9), [("next_of", 3), ("is_from", 3)], cons, [], [("keep", 2), ("need_playing", 1)], false, false, false, []⟩ xs b_Player_play (defBody (ini 34 9)) = true := by decide +kernel
theorem s_Player_play : FnScope ["self", "rounds", "state", "some"] ["self", "rounds"] (defScope (ini 34 9)) := ⟨by decide +kernel, by decide +kernel, by decide +kernel, by decide +kernel, by decide +kernel, by decide +kernel, by decide +kernel⟩
theorem c_Player_undo : isSs ⟨["self"], defScope (ini 34 13), [], cons, [], [("__init__", 3)], false, false, false, []⟩ xs b_Player_undo (defBody (ini 34 13)) = true := by decide +kernel
theorem s_Player_undo : FnScope ["self"] ["self"] (defScope (ini 34 13)) := ⟨by decide +kernel, by decide +kernel, by decide +kernel, by decide +kernel, by decide +kernel, by decide +kernel, by decide +kernel⟩
theorem c_Player_needle : isSs ⟨["self"], defScope (ini 34 4), [], cons, [], [("__init__", 3)], false, false, false, []⟩ xs b_Player_needle (defBody (ini 34 4)) = true := by decide +kernel
theorem s_Player_needle : FnScope ["self"] ["self"] (defScope (ini 34 4)) := ⟨by decide +kernel, by decide +kernel, by decide +kernel, by decide +kernel, by decide +kernel, by decide +kernel, by decide +kernel⟩
theorem c_Player_lift : isSs ⟨["self", "turn"], defScope (ini 34 11), [], cons, [], [("keep", 2), ("need_playing", 1)], false, false, false, []⟩ xs b_Player_lift (defBody (ini 34 11)) = true := by decide +kernel
theorem s_Player_lift : FnScope ["self", "turn"] ["self"] (defScope (ini 34 11)) := ⟨by decide +kernel, by decide +kernel, by decide +kernel, by decide +kernel, by decide +kernel, by decide +kernel, by decide +kernel⟩
theorem c_Player_nudge : isSs ⟨["self", "by", "turn", "marks", "state"], defScope (ini 34 10), [("is_from", 3)], cons, [], [("keep", 2), ("need_playing", 1)], false, false, false, []⟩ xs b_Player_nudge (defBody (ini 34 10)) = true := by decide +kernel
theorem s_Player_nudge : FnScope ["self", "by", "turn", "marks", "state"] ["self", "by"] (defScope (ini 34 10)) := ⟨by decide +kernel, by decide +kernel, by decide +kernel, by decide +kernel, by decide +kernel, by decide +kernel, by decide +kernel⟩
theorem c_Player_put : isSs ⟨["self", "place", "turn"], defScope (ini 34 8), [("fresh", 1), ("need_turn", 2), ("is_place", 1)], cons, [], [("keep", 2)], false, false, false, []⟩ xs b_Player_put (defBody (ini 34 8)) = true := by decide +kernel
theorem s_Player_put : FnScope ["self", "place", "turn"] ["self", "place"] (defScope (ini 34 8)) := ⟨by decide +kernel, by decide +kernel, by decide +kernel, by decide +kernel, by decide +kernel, by decide +kernel, by decide +kernel⟩
theorem c_law : isSs ⟨["_law_script", "_law_k", "_law_source_here", "_law_made", "_law_word", "_law_number", "_law_at", "_law_e", "_law_other", "_law_player", "_law_turn", "_law_limits", "<lambda>"], defScope (top 42), [("_law_kinds", 1), ("_law_made_errors", 2), ("_law_draw", 2), ("_law_choice", 2), ("_law_source", 2)], cons, [], [("__len__", 1), ("play", 2), ("undo", 1), ("needle", 1), ("lift", 1), ("nudge", 2), ("put", 2), ("__init__", 3)], false, false, true, [("_law_limit", "TooMany", "limit")]⟩ xs b_law (defBody (top 42)) = true := by decide +kernel
theorem s_law : FnScope ["_law_script", "_law_k", "_law_source_here", "_law_made", "_law_word", "_law_number", "_law_at", "_law_e", "_law_other", "_law_player", "_law_turn", "_law_limits", "<lambda>"] ["_law_script"] (defScope (top 42)) := ⟨by decide +kernel, by decide +kernel, by decide +kernel, by decide +kernel, by decide +kernel, by decide +kernel, by decide +kernel⟩
abbrev hk : PySem.W.Hook := hookY 5 fa fn pr cons ens
def ob (s : PySem.W.SharedT) : AlP := obsY 5 fa fn pr cons ens (HandSHeadRun.getT s)
theorem ob_eq (s : PySem.W.SharedT) : ob s = hk.obs s.abs := obsY_eq (HandSHeadRun.getT_eq s)
theorem run (w : World) : HandSHeadRun.RunEq R (PySem.W.view R.prog [42]) hk ob 6000 others w := by
  intro os
  kernel_rfl
theorem m_ok {P : Program} {K : PySem.W.Frag} {h : Heap} {mg : Str → Option Value} (X : K.In h) (G : h.Ns mainGlobals mg) (c : He.SaysD fa fn K) (hc : (cons.all (conB K) && ens.all (exnE K)) = true) : ModOk P K mg (clX K xs) cons xs := by
  refine mod_ok X G c (He.ba hc).1 (by decide +kernel) (by decide +kernel) fun x hx f hf => ?_
  have key : ∀ x ∈ xs, exnF x = none ∨ x = "InvalidText" ∨ x = "TooMany" := by decide +kernel
  rcases key x hx with z | rfl | rfl
  · rw [z] at hf; cases hf
  · have e : exnF "InvalidText" = some "line" := by decide +kernel
    rw [e] at hf
    cases hf
    obtain ⟨fd, F⟩ := c.def_ 20 (d := di "InvalidText" "InvalidText.__init__" 13 0) rfl
    exact ⟨He.ga K "InvalidText", by unfold clX; rw [if_pos (by decide +kernel)], exn_ok X G (List.all_eq_true.mp (He.ba hc).2 ("RecordError", "InvalidText", "line") (by decide +kernel)) F si_InvalidText (by decide +kernel) (FunD.bindsN (ps := ["self", "line"]) F fun _ _ _ _ _ _ us hl => match us, hl with | [_, _], _ => rfl) (by decide +kernel)⟩
  · have e : exnF "TooMany" = some "limit" := by decide +kernel
    rw [e] at hf
    cases hf
    obtain ⟨fd, F⟩ := c.def_ 21 (d := di "TooMany" "TooMany.__init__" 14 0) rfl
    exact ⟨He.ga K "TooMany", by unfold clX; rw [if_pos (by decide +kernel)], exn_ok X G (List.all_eq_true.mp (He.ba hc).2 ("RecordError", "TooMany", "limit") (by decide +kernel)) F si_TooMany (by decide +kernel) (FunD.bindsN (ps := ["self", "limit"]) F fun _ _ _ _ _ _ us hl => match us, hl with | [_, _], _ => rfl) (by decide +kernel)⟩
theorem ek_ok {K : PySem.W.Frag} {h : Heap} {mg : Str → Option Value} (X : K.In h) (G : h.Ns mainGlobals mg) (c : SaysY fa fn pr cons ens K) : ErrK K mg := errK_ok X G c.c (fun P => m_ok X G c.c c.hc) c.err (by decide +kernel) (by decide +kernel) (by decide +kernel)
theorem pk_ok {K : PySem.W.Frag} {h : Heap} {mg : Str → Option Value} (X : K.In h) (G : h.Ns mainGlobals mg) (c : SaysY fa fn pr cons ens K) : PlyK K mg (He.ga K "Player") := ply_ok X G c.c c.ply (by decide +kernel) (by decide +kernel) (by decide +kernel) (by decide +kernel)
theorem f__wall {P : Program} {w : World} {K : PySem.W.Frag} {h : Heap} {mg : Str → Option Value} {base : Heap} (X : K.In h) (G : h.Ns mainGlobals mg) (c : SaysY fa fn pr cons ens K) (M : ModOk P K mg (clX K xs) cons xs) : FnAt P w K mg base (clX K xs) 3 "_wall" 1 R__wall := by
  obtain ⟨fd, F⟩ := c.c.def_ 0 (d := dd "_wall" 0) rfl
  exact fn_atD (k := 2) (fns := []) (T := []) M F s__wall (AllFn.get trivial) plNo c__wall (by decide +kernel) (He.glo_ok X G (c.c.fact 17 (f := .glo "_wall") rfl)) (FunD.bindsN F fun _ _ _ _ _ _ us hl => match us, hl with | [_], _ => rfl)
theorem f_is_from {P : Program} {w : World} {K : PySem.W.Frag} {h : Heap} {mg : Str → Option Value} {base : Heap} (X : K.In h) (G : h.Ns mainGlobals mg) (c : SaysY fa fn pr cons ens K) (M : ModOk P K mg (clX K xs) cons xs) : FnAt P w K mg base (clX K xs) 3 "is_from" 3 R_is_from := by
  obtain ⟨fd, F⟩ := c.c.def_ 1 (d := dd "is_from" 20) rfl
  exact fn_atD (k := 2) (fns := []) (T := []) M F s_is_from (AllFn.get trivial) plNo c_is_from (by decide +kernel) (He.glo_ok X G (c.c.fact 18 (f := .glo "is_from") rfl)) (FunD.bindsN F fun _ _ _ _ _ _ us hl => match us, hl with | [_, _, _], _ => rfl)
theorem f_is_place {P : Program} {w : World} {K : PySem.W.Frag} {h : Heap} {mg : Str → Option Value} {base : Heap} (X : K.In h) (G : h.Ns mainGlobals mg) (c : SaysY fa fn pr cons ens K) (M : ModOk P K mg (clX K xs) cons xs) : FnAt P w K mg base (clX K xs) 4 "is_place" 1 R_is_place := by
  obtain ⟨fd, F⟩ := c.c.def_ 2 (d := dd "is_place" 21) rfl
  exact fn_atD (k := 3) (fns := [("is_from", 3)]) (T := [R_is_from]) M F s_is_place (AllFn.get ⟨FnAt.mono (f_is_from X G c M) (by decide), trivial⟩) plNo c_is_place (by decide +kernel) (He.glo_ok X G (c.c.fact 19 (f := .glo "is_place") rfl)) (FunD.bindsN F fun _ _ _ _ _ _ us hl => match us, hl with | [_], _ => rfl)
theorem f_is_scratch {P : Program} {w : World} {K : PySem.W.Frag} {h : Heap} {mg : Str → Option Value} {base : Heap} (X : K.In h) (G : h.Ns mainGlobals mg) (c : SaysY fa fn pr cons ens K) (M : ModOk P K mg (clX K xs) cons xs) : FnAt P w K mg base (clX K xs) 5 "is_scratch" 1 R_is_scratch := by
  obtain ⟨fd, F⟩ := c.c.def_ 3 (d := dd "is_scratch" 22) rfl
  exact fn_atD (k := 4) (fns := [("is_from", 3), ("is_place", 1)]) (T := [R_is_from, R_is_place]) M F s_is_scratch (AllFn.get ⟨FnAt.mono (f_is_from X G c M) (by decide), FnAt.mono (f_is_place X G c M) (by decide), trivial⟩) plNo c_is_scratch (by decide +kernel) (He.glo_ok X G (c.c.fact 20 (f := .glo "is_scratch") rfl)) (FunD.bindsN F fun _ _ _ _ _ _ us hl => match us, hl with | [_], _ => rfl)
theorem f_has_record {P : Program} {w : World} {K : PySem.W.Frag} {h : Heap} {mg : Str → Option Value} {base : Heap} (X : K.In h) (G : h.Ns mainGlobals mg) (c : SaysY fa fn pr cons ens K) (M : ModOk P K mg (clX K xs) cons xs) : FnAt P w K mg base (clX K xs) 6 "has_record" 1 R_has_record := by
  obtain ⟨fd, F⟩ := c.c.def_ 4 (d := dd "has_record" 23) rfl
  exact fn_atD (k := 5) (fns := [("is_scratch", 1)]) (T := [R_is_scratch]) M F s_has_record (AllFn.get ⟨FnAt.mono (f_is_scratch X G c M) (by decide), trivial⟩) plNo c_has_record (by decide +kernel) (He.glo_ok X G (c.c.fact 21 (f := .glo "has_record") rfl)) (FunD.bindsN F fun _ _ _ _ _ _ us hl => match us, hl with | [_], _ => rfl)
theorem f_need_record {P : Program} {w : World} {K : PySem.W.Frag} {h : Heap} {mg : Str → Option Value} {base : Heap} (X : K.In h) (G : h.Ns mainGlobals mg) (c : SaysY fa fn pr cons ens K) (M : ModOk P K mg (clX K xs) cons xs) : FnAt P w K mg base (clX K xs) 7 "need_record" 1 R_need_record := by
  obtain ⟨fd, F⟩ := c.c.def_ 5 (d := dd "need_record" 24) rfl
  exact fn_atD (k := 6) (fns := [("has_record", 1)]) (T := [R_has_record]) M F s_need_record (AllFn.get ⟨FnAt.mono (f_has_record X G c M) (by decide), trivial⟩) plNo c_need_record (by decide +kernel) (He.glo_ok X G (c.c.fact 22 (f := .glo "need_record") rfl)) (FunD.bindsN F fun _ _ _ _ _ _ us hl => match us, hl with | [_], _ => rfl)
theorem f_need_number {P : Program} {w : World} {K : PySem.W.Frag} {h : Heap} {mg : Str → Option Value} {base : Heap} (X : K.In h) (G : h.Ns mainGlobals mg) (c : SaysY fa fn pr cons ens K) (M : ModOk P K mg (clX K xs) cons xs) : FnAt P w K mg base (clX K xs) 4 "need_number" 3 R_need_number := by
  obtain ⟨fd, F⟩ := c.c.def_ 6 (d := dd "need_number" 25) rfl
  exact fn_atD (k := 3) (fns := [("is_from", 3)]) (T := [R_is_from]) M F s_need_number (AllFn.get ⟨FnAt.mono (f_is_from X G c M) (by decide), trivial⟩) plNo c_need_number (by decide +kernel) (He.glo_ok X G (c.c.fact 23 (f := .glo "need_number") rfl)) (FunD.bindsN F fun _ _ _ _ _ _ us hl => match us, hl with | [_, _, _], _ => rfl)
theorem f_raw_turn {P : Program} {w : World} {K : PySem.W.Frag} {h : Heap} {mg : Str → Option Value} {base : Heap} (X : K.In h) (G : h.Ns mainGlobals mg) (c : SaysY fa fn pr cons ens K) (M : ModOk P K mg (clX K xs) cons xs) : FnAt P w K mg base (clX K xs) 3 "raw_turn" 2 R_raw_turn := by
  obtain ⟨fd, F⟩ := c.c.def_ 7 (d := dd "raw_turn" 26) rfl
  exact fn_atD (k := 2) (fns := []) (T := []) M F s_raw_turn (AllFn.get trivial) plNo c_raw_turn (by decide +kernel) (He.glo_ok X G (c.c.fact 24 (f := .glo "raw_turn") rfl)) (FunD.bindsN F fun _ _ _ _ _ _ us hl => match us, hl with | [_, _], _ => rfl)
theorem f_turn_at {P : Program} {w : World} {K : PySem.W.Frag} {h : Heap} {mg : Str → Option Value} {base : Heap} (X : K.In h) (G : h.Ns mainGlobals mg) (c : SaysY fa fn pr cons ens K) (M : ModOk P K mg (clX K xs) cons xs) : FnAt P w K mg base (clX K xs) 4 "turn_at" 2 R_turn_at := by
  obtain ⟨fd, F⟩ := c.c.def_ 8 (d := dd "turn_at" 27) rfl
  exact fn_atD (k := 3) (fns := [("raw_turn", 2)]) (T := [R_raw_turn]) M F s_turn_at (AllFn.get ⟨FnAt.mono (f_raw_turn X G c M) (by decide), trivial⟩) plNo c_turn_at (by decide +kernel) (He.glo_ok X G (c.c.fact 25 (f := .glo "turn_at") rfl)) (FunD.bindsN F fun _ _ _ _ _ _ us hl => match us, hl with | [_, _], _ => rfl)
theorem f_need_turn {P : Program} {w : World} {K : PySem.W.Frag} {h : Heap} {mg : Str → Option Value} {base : Heap} (X : K.In h) (G : h.Ns mainGlobals mg) (c : SaysY fa fn pr cons ens K) (M : ModOk P K mg (clX K xs) cons xs) : FnAt P w K mg base (clX K xs) 5 "need_turn" 2 R_need_turn := by
  obtain ⟨fd, F⟩ := c.c.def_ 9 (d := dd "need_turn" 28) rfl
  exact fn_atD (k := 4) (fns := [("turn_at", 2)]) (T := [R_turn_at]) M F s_need_turn (AllFn.get ⟨FnAt.mono (f_turn_at X G c M) (by decide), trivial⟩) plNo c_need_turn (by decide +kernel) (He.glo_ok X G (c.c.fact 26 (f := .glo "need_turn") rfl)) (FunD.bindsN F fun _ _ _ _ _ _ us hl => match us, hl with | [_, _], _ => rfl)
theorem f_acting_at {P : Program} {w : World} {K : PySem.W.Frag} {h : Heap} {mg : Str → Option Value} {base : Heap} (X : K.In h) (G : h.Ns mainGlobals mg) (c : SaysY fa fn pr cons ens K) (M : ModOk P K mg (clX K xs) cons xs) : FnAt P w K mg base (clX K xs) 4 "acting_at" 3 R_acting_at := by
  obtain ⟨fd, F⟩ := c.c.def_ 10 (d := dd "acting_at" 29) rfl
  exact fn_atD (k := 3) (fns := [("raw_turn", 2)]) (T := [R_raw_turn]) M F s_acting_at (AllFn.get ⟨FnAt.mono (f_raw_turn X G c M) (by decide), trivial⟩) plNo c_acting_at (by decide +kernel) (He.glo_ok X G (c.c.fact 27 (f := .glo "acting_at") rfl)) (FunD.bindsN F fun _ _ _ _ _ _ us hl => match us, hl with | [_, _, _], _ => rfl)
theorem f_next_of {P : Program} {w : World} {K : PySem.W.Frag} {h : Heap} {mg : Str → Option Value} {base : Heap} (X : K.In h) (G : h.Ns mainGlobals mg) (c : SaysY fa fn pr cons ens K) (M : ModOk P K mg (clX K xs) cons xs) : FnAt P w K mg base (clX K xs) 5 "next_of" 3 R_next_of := by
  obtain ⟨fd, F⟩ := c.c.def_ 11 (d := dd "next_of" 30) rfl
  exact fn_atD (k := 4) (fns := [("acting_at", 3)]) (T := [R_acting_at]) M F s_next_of (AllFn.get ⟨FnAt.mono (f_acting_at X G c M) (by decide), trivial⟩) plNo c_next_of (by decide +kernel) (He.glo_ok X G (c.c.fact 28 (f := .glo "next_of") rfl)) (FunD.bindsN F fun _ _ _ _ _ _ us hl => match us, hl with | [_, _, _], _ => rfl)
theorem f_fresh {P : Program} {w : World} {K : PySem.W.Frag} {h : Heap} {mg : Str → Option Value} {base : Heap} (X : K.In h) (G : h.Ns mainGlobals mg) (c : SaysY fa fn pr cons ens K) (M : ModOk P K mg (clX K xs) cons xs) : FnAt P w K mg base (clX K xs) 3 "fresh" 1 R_fresh := by
  obtain ⟨fd, F⟩ := c.c.def_ 12 (d := dd "fresh" 32) rfl
  exact fn_atD (k := 2) (fns := []) (T := []) M F s_fresh (AllFn.get trivial) plNo c_fresh (by decide +kernel) (He.glo_ok X G (c.c.fact 29 (f := .glo "fresh") rfl)) (FunD.bindsN F fun _ _ _ _ _ _ us hl => match us, hl with | [_], _ => rfl)
theorem f__law_source {P : Program} {w : World} {K : PySem.W.Frag} {h : Heap} {mg : Str → Option Value} {base : Heap} (X : K.In h) (G : h.Ns mainGlobals mg) (c : SaysY fa fn pr cons ens K) (M : ModOk P K mg (clX K xs) cons xs) : FnAt P w K mg base (clX K xs) 3 "_law_source" 2 R__law_source := by
  obtain ⟨fd, F⟩ := c.c.def_ 13 (d := dd "_law_source" 36) rfl
  exact fn_atD (k := 2) (fns := []) (T := []) M F s__law_source (AllFn.get trivial) plNo c__law_source (by decide +kernel) (He.glo_ok X G (c.c.fact 30 (f := .glo "_law_source") rfl)) (FunD.bindsN F fun _ _ _ _ _ _ us hl => match us, hl with | [_, _], _ => rfl)
theorem f__law_draw {P : Program} {w : World} {K : PySem.W.Frag} {h : Heap} {mg : Str → Option Value} {base : Heap} (X : K.In h) (G : h.Ns mainGlobals mg) (c : SaysY fa fn pr cons ens K) (M : ModOk P K mg (clX K xs) cons xs) : FnAt P w K mg base (clX K xs) 3 "_law_draw" 2 R__law_draw := by
  obtain ⟨fd, F⟩ := c.c.def_ 14 (d := dd "_law_draw" 37) rfl
  exact fn_atD (k := 2) (fns := []) (T := []) M F s__law_draw (AllFn.get trivial) plNo c__law_draw (by decide +kernel) (He.glo_ok X G (c.c.fact 31 (f := .glo "_law_draw") rfl)) (FunD.bindsN F fun _ _ _ _ _ _ us hl => match us, hl with | [_, _], _ => rfl)
theorem f__law_choice {P : Program} {w : World} {K : PySem.W.Frag} {h : Heap} {mg : Str → Option Value} {base : Heap} (X : K.In h) (G : h.Ns mainGlobals mg) (c : SaysY fa fn pr cons ens K) (M : ModOk P K mg (clX K xs) cons xs) : FnAt P w K mg base (clX K xs) 4 "_law_choice" 2 R__law_choice := by
  obtain ⟨fd, F⟩ := c.c.def_ 15 (d := dd "_law_choice" 38) rfl
  exact fn_atD (k := 3) (fns := [("_law_draw", 2)]) (T := [R__law_draw]) M F s__law_choice (AllFn.get ⟨FnAt.mono (f__law_draw X G c M) (by decide), trivial⟩) plNo c__law_choice (by decide +kernel) (He.glo_ok X G (c.c.fact 32 (f := .glo "_law_choice") rfl)) (FunD.bindsN F fun _ _ _ _ _ _ us hl => match us, hl with | [_, _], _ => rfl)
theorem f__law_kinds {P : Program} {w : World} {K : PySem.W.Frag} {h : Heap} {mg : Str → Option Value} {base : Heap} (X : K.In h) (G : h.Ns mainGlobals mg) (c : SaysY fa fn pr cons ens K) (M : ModOk P K mg (clX K xs) cons xs) : FnAt P w K mg base (clX K xs) 3 "_law_kinds" 1 R__law_kinds := by
  obtain ⟨fd, F⟩ := c.c.def_ 16 (d := dd "_law_kinds" 39) rfl
  exact fn_atD (k := 2) (fns := []) (T := []) M F s__law_kinds (AllFn.get trivial) ⟨fun z => absurd rfl z, fun _ _ _ z => (nomatch z), fun z => absurd z Bool.false_ne_true, fun _ => ⟨ek_ok X G c, by decide⟩, fun z => absurd z Bool.false_ne_true⟩ c__law_kinds (by decide +kernel) (He.glo_ok X G (c.c.fact 33 (f := .glo "_law_kinds") rfl)) (FunD.bindsN F fun _ _ _ _ _ _ us hl => match us, hl with | [_], _ => rfl)
theorem f__law_made_errors {P : Program} {w : World} {K : PySem.W.Frag} {h : Heap} {mg : Str → Option Value} {base : Heap} (X : K.In h) (G : h.Ns mainGlobals mg) (c : SaysY fa fn pr cons ens K) (M : ModOk P K mg (clX K xs) cons xs) : FnAt P w K mg base (clX K xs) 3 "_law_made_errors" 2 R__law_made_errors := by
  obtain ⟨fd, F⟩ := c.c.def_ 17 (d := dd "_law_made_errors" 40) rfl
  exact fn_atD (k := 2) (fns := []) (T := []) M F s__law_made_errors (AllFn.get trivial) ⟨fun z => absurd rfl z, fun _ _ _ z => (nomatch z), fun z => absurd z Bool.false_ne_true, fun _ => ⟨ek_ok X G c, by decide⟩, fun z => absurd z Bool.false_ne_true⟩ c__law_made_errors (by decide +kernel) (He.glo_ok X G (c.c.fact 34 (f := .glo "_law_made_errors") rfl)) (FunD.bindsN F fun _ _ _ _ _ _ us hl => match us, hl with | [_, _], _ => rfl)
theorem m_Player___init__ {P : Program} {w : World} {K : PySem.W.Frag} {h : Heap} {mg : Str → Option Value} {base : Heap} (X : K.In h) (G : h.Ns mainGlobals mg) (c : SaysY fa fn pr cons ens K) (M : ModOk P K mg (clX K xs) cons xs) : MtAt P w K mg base (clX K xs) 8 "__init__" 3 R_Player___init__ := by
  obtain ⟨fd, F⟩ := c.c.def_ 22 (d := dm "__init__" "Player.__init__" 34 1 []) rfl
  exact init_okD (k := 7) (fns := [("need_number", 3), ("need_record", 1)]) (T := [R_need_number, R_need_record]) (pk_ok X G c) (mkr_of_fa c.c (by decide +kernel)) M F s_Player___init__ (AllFn.get ⟨FnAt.mono (f_need_number X G c M) (by decide), FnAt.mono (f_need_record X G c M) (by decide), trivial⟩) c_Player___init__ (by decide +kernel) (FunD.bindsN F fun _ _ _ _ _ _ us hl => match us, hl with | [_, _, _], _ => rfl)
theorem m_Player___len__ {P : Program} {w : World} {K : PySem.W.Frag} {h : Heap} {mg : Str → Option Value} {base : Heap} (X : K.In h) (G : h.Ns mainGlobals mg) (c : SaysY fa fn pr cons ens K) (M : ModOk P K mg (clX K xs) cons xs) : MtAt P w K mg base (clX K xs) 11 "__len__" 1 R_Player___len__ := by
  obtain ⟨fd, F⟩ := c.c.def_ 23 (d := dm "__len__" "Player.__len__" 34 17 []) rfl
  exact mt_atD (k := 10) (fns := []) (T := [R_Player___init__]) (pk_ok X G c) M F s_Player___len__ (AllFn.get trivial) ⟨fun _ => ⟨_, pk_ok X G c⟩, AllMt.drop (n := 0) (l := [("__init__", 3)]) ⟨⟨8, by decide, m_Player___init__ X G c M⟩, trivial⟩, fun z => absurd z Bool.false_ne_true, fun z => absurd z Bool.false_ne_true, fun z => absurd z Bool.false_ne_true⟩ c_Player___len__ (by decide +kernel) (by unfold MtF; rw [if_neg (by decide +kernel)]; exact meth_of_fa c.c (by decide +kernel)) (by decide +kernel) (by decide +kernel) (FunD.bindsN F fun _ _ _ _ _ _ us hl => match us, hl with | [_], _ => rfl) (fun z => absurd z (by decide +kernel))
theorem m_Player_keep {P : Program} {w : World} {K : PySem.W.Frag} {h : Heap} {mg : Str → Option Value} {base : Heap} (X : K.In h) (G : h.Ns mainGlobals mg) (c : SaysY fa fn pr cons ens K) (M : ModOk P K mg (clX K xs) cons xs) : MtAt P w K mg base (clX K xs) 11 "keep" 2 R_Player_keep := by
  obtain ⟨fd, F⟩ := c.c.def_ 24 (d := dm "keep" "Player.keep" 34 6 []) rfl
  exact mt_atD (k := 10) (fns := []) (T := [R_Player___init__]) (pk_ok X G c) M F s_Player_keep (AllFn.get trivial) ⟨fun _ => ⟨_, pk_ok X G c⟩, AllMt.drop (n := 0) (l := [("__init__", 3)]) ⟨⟨8, by decide, m_Player___init__ X G c M⟩, trivial⟩, fun z => absurd z Bool.false_ne_true, fun z => absurd z Bool.false_ne_true, fun z => absurd z Bool.false_ne_true⟩ c_Player_keep (by decide +kernel) (by unfold MtF; rw [if_neg (by decide +kernel)]; exact meth_of_fa c.c (by decide +kernel)) (by decide +kernel) (by decide +kernel) (FunD.bindsN F fun _ _ _ _ _ _ us hl => match us, hl with | [_, _], _ => rfl) (fun z => absurd z (by decide +kernel))
theorem m_Player_need_playing {P : Program} {w : World} {K : PySem.W.Frag} {h : Heap} {mg : Str → Option Value} {base : Heap} (X : K.In h) (G : h.Ns mainGlobals mg) (c : SaysY fa fn pr cons ens K) (M : ModOk P K mg (clX K xs) cons xs) : MtAt P w K mg base (clX K xs) 11 "need_playing" 1 R_Player_need_playing := by
  obtain ⟨fd, F⟩ := c.c.def_ 25 (d := dm "need_playing" "Player.need_playing" 34 7 []) rfl
  exact mt_atD (k := 10) (fns := []) (T := [R_Player___init__]) (pk_ok X G c) M F s_Player_need_playing (AllFn.get trivial) ⟨fun _ => ⟨_, pk_ok X G c⟩, AllMt.drop (n := 0) (l := [("__init__", 3)]) ⟨⟨8, by decide, m_Player___init__ X G c M⟩, trivial⟩, fun z => absurd z Bool.false_ne_true, fun z => absurd z Bool.false_ne_true, fun z => absurd z Bool.false_ne_true⟩ c_Player_need_playing (by decide +kernel) (by unfold MtF; rw [if_neg (by decide +kernel)]; exact meth_of_fa c.c (by decide +kernel)) (by decide +kernel) (by decide +kernel) (FunD.bindsN F fun _ _ _ _ _ _ us hl => match us, hl with | [_], _ => rfl) (fun z => absurd z (by decide +kernel))
theorem m_Player_play {P : Program} {w : World} {K : PySem.W.Frag} {h : Heap} {mg : Str → Option Value} {base : Heap} (X : K.In h) (G : h.Ns mainGlobals mg) (c : SaysY fa fn pr cons ens K) (M : ModOk P K mg (clX K xs) cons xs) : MtAt P w K mg base (clX K xs) 14 "play" 2 R_Player_play := by
  obtain ⟨fd, F⟩ := c.c.def_ 26 (d := dm "play" "Player.play" 34 9 [.int 1]) rfl
  have b2 : Binds K fd ["self", "rounds"] [] := by
    obtain ⟨ds, v, b⟩ := FunD.binds1 (ps := ["self", "rounds"]) F 2 1 (by intro z; cases z) rfl fun T kV doc pm an cdv ct us its h1 h2 => match us, its, h1, h2 with | [_, _], [_], _, _ => ⟨_, rfl, rfl⟩
    cases v
    exact b
  have b1 := FunD.binds1 (ps := ["self", "rounds"]) F 1 0 (by intro z; cases z) rfl fun T kV doc pm an cdv ct us its h1 h2 => match us, its, h1, h2 with | [_], [_], _, _ => ⟨_, rfl, rfl⟩
  exact mt_atD (k := 13) (fns := [("next_of", 3), ("is_from", 3)]) (T := [R_next_of, R_is_from, R_Player_keep, R_Player_need_playing]) (pk_ok X G c) M F s_Player_play (AllFn.get ⟨FnAt.mono (f_next_of X G c M) (by decide), FnAt.mono (f_is_from X G c M) (by decide), trivial⟩) ⟨fun _ => ⟨_, pk_ok X G c⟩, AllMt.drop (n := 2) (l := [("keep", 2), ("need_playing", 1)]) ⟨⟨11, by decide, m_Player_keep X G c M⟩, ⟨11, by decide, m_Player_need_playing X G c M⟩, trivial⟩, fun z => absurd z Bool.false_ne_true, fun z => absurd z Bool.false_ne_true, fun z => absurd z Bool.false_ne_true⟩ c_Player_play (by decide +kernel) (by unfold MtF; rw [if_neg (by decide +kernel)]; exact meth_of_fa c.c (by decide +kernel)) (by decide +kernel) (by decide +kernel) (b2) (fun _ => b1.elim fun ds z => ⟨ds, z.2, z.1⟩)
theorem m_Player_undo {P : Program} {w : World} {K : PySem.W.Frag} {h : Heap} {mg : Str → Option Value} {base : Heap} (X : K.In h) (G : h.Ns mainGlobals mg) (c : SaysY fa fn pr cons ens K) (M : ModOk P K mg (clX K xs) cons xs) : MtAt P w K mg base (clX K xs) 11 "undo" 1 R_Player_undo := by
  obtain ⟨fd, F⟩ := c.c.def_ 27 (d := dm "undo" "Player.undo" 34 13 []) rfl
  exact mt_atD (k := 10) (fns := []) (T := [R_Player___init__]) (pk_ok X G c) M F s_Player_undo (AllFn.get trivial) ⟨fun _ => ⟨_, pk_ok X G c⟩, AllMt.drop (n := 0) (l := [("__init__", 3)]) ⟨⟨8, by decide, m_Player___init__ X G c M⟩, trivial⟩, fun z => absurd z Bool.false_ne_true, fun z => absurd z Bool.false_ne_true, fun z => absurd z Bool.false_ne_true⟩ c_Player_undo (by decide +kernel) (by unfold MtF; rw [if_neg (by decide +kernel)]; exact meth_of_fa c.c (by decide +kernel)) (by decide +kernel) (by decide +kernel) (FunD.bindsN F fun _ _ _ _ _ _ us hl => match us, hl with | [_], _ => rfl) (fun z => absurd z (by decide +kernel))
theorem m_Player_needle {P : Program} {w : World} {K : PySem.W.Frag} {h : Heap} {mg : Str → Option Value} {base : Heap} (X : K.In h) (G : h.Ns mainGlobals mg) (c : SaysY fa fn pr cons ens K) (M : ModOk P K mg (clX K xs) cons xs) : MtAt P w K mg base (clX K xs) 11 "needle" 1 R_Player_needle := by
  obtain ⟨p1, p2⟩ := c.pr (dpr "needle" "Player.needle" 34 4) (by unfold pr; simp)
  obtain ⟨fd, F⟩ := PrD.fun_ p1 p2
  exact mt_atD (k := 10) (fns := []) (T := [R_Player___init__]) (pk_ok X G c) M F s_Player_needle (AllFn.get trivial) ⟨fun _ => ⟨_, pk_ok X G c⟩, AllMt.drop (n := 0) (l := [("__init__", 3)]) ⟨⟨8, by decide, m_Player___init__ X G c M⟩, trivial⟩, fun z => absurd z Bool.false_ne_true, fun z => absurd z Bool.false_ne_true, fun z => absurd z Bool.false_ne_true⟩ c_Player_needle (by decide +kernel) (by unfold MtF; rw [if_pos (by decide +kernel)]; exact ⟨_, PrD.prop p1⟩) (by decide +kernel) (by decide +kernel) (FunD.bindsN F fun _ _ _ _ _ _ us hl => match us, hl with | [_], _ => rfl) (fun z => absurd z (by decide +kernel))
theorem m_Player_lift {P : Program} {w : World} {K : PySem.W.Frag} {h : Heap} {mg : Str → Option Value} {base : Heap} (X : K.In h) (G : h.Ns mainGlobals mg) (c : SaysY fa fn pr cons ens K) (M : ModOk P K mg (clX K xs) cons xs) : MtAt P w K mg base (clX K xs) 14 "lift" 1 R_Player_lift := by
  obtain ⟨fd, F⟩ := c.c.def_ 28 (d := dm "lift" "Player.lift" 34 11 []) rfl
  exact mt_atD (k := 13) (fns := []) (T := [R_Player_keep, R_Player_need_playing]) (pk_ok X G c) M F s_Player_lift (AllFn.get trivial) ⟨fun _ => ⟨_, pk_ok X G c⟩, AllMt.drop (n := 0) (l := [("keep", 2), ("need_playing", 1)]) ⟨⟨11, by decide, m_Player_keep X G c M⟩, ⟨11, by decide, m_Player_need_playing X G c M⟩, trivial⟩, fun z => absurd z Bool.false_ne_true, fun z => absurd z Bool.false_ne_true, fun z => absurd z Bool.false_ne_true⟩ c_Player_lift (by decide +kernel) (by unfold MtF; rw [if_neg (by decide +kernel)]; exact meth_of_fa c.c (by decide +kernel)) (by decide +kernel) (by decide +kernel) (FunD.bindsN F fun _ _ _ _ _ _ us hl => match us, hl with | [_], _ => rfl) (fun z => absurd z (by decide +kernel))
theorem m_Player_nudge {P : Program} {w : World} {K : PySem.W.Frag} {h : Heap} {mg : Str → Option Value} {base : Heap} (X : K.In h) (G : h.Ns mainGlobals mg) (c : SaysY fa fn pr cons ens K) (M : ModOk P K mg (clX K xs) cons xs) : MtAt P w K mg base (clX K xs) 14 "nudge" 2 R_Player_nudge := by
  obtain ⟨fd, F⟩ := c.c.def_ 29 (d := dm "nudge" "Player.nudge" 34 10 []) rfl
  exact mt_atD (k := 13) (fns := [("is_from", 3)]) (T := [R_is_from, R_Player_keep, R_Player_need_playing]) (pk_ok X G c) M F s_Player_nudge (AllFn.get ⟨FnAt.mono (f_is_from X G c M) (by decide), trivial⟩) ⟨fun _ => ⟨_, pk_ok X G c⟩, AllMt.drop (n := 1) (l := [("keep", 2), ("need_playing", 1)]) ⟨⟨11, by decide, m_Player_keep X G c M⟩, ⟨11, by decide, m_Player_need_playing X G c M⟩, trivial⟩, fun z => absurd z Bool.false_ne_true, fun z => absurd z Bool.false_ne_true, fun z => absurd z Bool.false_ne_true⟩ c_Player_nudge (by decide +kernel) (by unfold MtF; rw [if_neg (by decide +kernel)]; exact meth_of_fa c.c (by decide +kernel)) (by decide +kernel) (by decide +kernel) (FunD.bindsN F fun _ _ _ _ _ _ us hl => match us, hl with | [_, _], _ => rfl) (fun z => absurd z (by decide +kernel))
theorem m_Player_put {P : Program} {w : World} {K : PySem.W.Frag} {h : Heap} {mg : Str → Option Value} {base : Heap} (X : K.In h) (G : h.Ns mainGlobals mg) (c : SaysY fa fn pr cons ens K) (M : ModOk P K mg (clX K xs) cons xs) : MtAt P w K mg base (clX K xs) 14 "put" 2 R_Player_put := by
  obtain ⟨fd, F⟩ := c.c.def_ 30 (d := dm "put" "Player.put" 34 8 []) rfl
  exact mt_atD (k := 13) (fns := [("fresh", 1), ("need_turn", 2), ("is_place", 1)]) (T := [R_fresh, R_need_turn, R_is_place, R_Player_keep]) (pk_ok X G c) M F s_Player_put (AllFn.get ⟨FnAt.mono (f_fresh X G c M) (by decide), FnAt.mono (f_need_turn X G c M) (by decide), FnAt.mono (f_is_place X G c M) (by decide), trivial⟩) ⟨fun _ => ⟨_, pk_ok X G c⟩, AllMt.drop (n := 3) (l := [("keep", 2)]) ⟨⟨11, by decide, m_Player_keep X G c M⟩, trivial⟩, fun z => absurd z Bool.false_ne_true, fun z => absurd z Bool.false_ne_true, fun z => absurd z Bool.false_ne_true⟩ c_Player_put (by decide +kernel) (by unfold MtF; rw [if_neg (by decide +kernel)]; exact meth_of_fa c.c (by decide +kernel)) (by decide +kernel) (by decide +kernel) (FunD.bindsN F fun _ _ _ _ _ _ us hl => match us, hl with | [_, _], _ => rfl) (fun z => absurd z (by decide +kernel))
theorem l__law_limit {K : PySem.W.Frag} {h : Heap} {mg : Str → Option Value} (X : K.In h) (G : h.Ns mainGlobals mg) (c : SaysY fa fn pr cons ens K) : LimD K mg (clX K xs) "_law_limit" "TooMany" "limit" := by
  obtain ⟨C, h1, E⟩ := (m_ok (P := default) X G c.c c.hc).exn "TooMany" (by decide +kernel) "limit" (by decide +kernel)
  obtain ⟨fd, F⟩ := c.c.def_ 19 (d := dd "_law_limit" 41) rfl
  exact ⟨⟨C, h1, E.gl, E.xm, E.xf, E.noat⟩, _, fd, "_law_call", "_law_e", _, _, _, F, He.glo_ok X G (c.c.fact 36 (f := .glo "_law_limit") rfl), FunD.bindsN F fun _ _ _ _ _ _ us hl => match us, hl with | [_], _ => rfl, ⟨by decide +kernel, by decide +kernel, by decide +kernel, by decide +kernel, by decide +kernel, by decide +kernel, by decide +kernel⟩,
    vis_of (by decide +kernel), by decide +kernel, by decide +kernel, by decide +kernel⟩
theorem law_of (hlaw : ∀ ns : List Int, ns.length ≤ 63 → ∃ os, R_law [.ro (.frz (ns.map .int))] = .ok (.d (.bl true)) os) : PySem.Challenge.rw_skipgrooves_k16_errors_and_their_classes.Holds := by
  open PySem.W PySem.Calls in
  w_on; o_law
  refine HandSHeadRun.head_any (r := OpenLaw.row PySem.Challenge.rw_skipgrooves_k16_errors_and_their_classes) (q := view (OpenLaw.row PySem.Challenge.rw_skipgrooves_k16_errors_and_their_classes).prog [42]) (H := hk) (ob := ob) (M := 6000) (loose := others) (d := HandSHeadRun.topDef (OpenLaw.row PySem.Challenge.rw_skipgrooves_k16_errors_and_their_classes).prog 42) (kwd := []) ob_eq
    (by kernel_rfl) (fun s => by kernel_rfl) run (by kernel_rfl) (by kernel_rfl) (by kernel_rfl) (by rfl) (by first | assumption | decide +kernel) (by decide +kernel) ⟨rfl, rfl, rfl, rfl, rfl, by decide +kernel⟩ ?hw ?hc
  case hw => w_witness2
  case hc =>
    refine LamX.walk_ofTsE (l := PySem.Challenge.rw_skipgrooves_k16_errors_and_their_classes) (n := 63) (k := 19) (x := "_law_script") (CX := fun w => L2.CX PySem.Challenge.rw_skipgrooves_k16_errors_and_their_classes.prog w) rfl (by decide) (by kernel_rfl) ⟨rfl, by decide, by decide⟩ ?F no_cx
    intro w mg fa h Y G hmg0
    obtain ⟨K, KX, c, hT⟩ := Y
    have hmg : mg ("law" : PySem.Str) = some (.ref fa) := by
      have e : (HandSHeadRun.topDef (OpenLaw.row PySem.Challenge.rw_skipgrooves_k16_errors_and_their_classes).prog 42).name = ("law" : PySem.Str) := by kernel_rfl
      rw [← e]
      exact hmg0
    obtain ⟨fd, F⟩ := c.c.def_ 18 (d := dd "law" 42) rfl
    have gl := He.glo_ok KX G (c.c.fact 35 (f := .glo "law") rfl)
    have e := hmg.symm.trans gl
    cases e
    have b := FunD.bindsA (ps := ["_law_script"]) F fun _ _ _ _ _ _ us hl => match us, hl with | [_], _ => rfl
    have M := m_ok (P := PySem.Challenge.rw_skipgrooves_k16_errors_and_their_classes.prog) KX G c.c c.hc
    exact ⟨K, KX, law_atS (k := 16) (fns := [("_law_kinds", 1), ("_law_made_errors", 2), ("_law_draw", 2), ("_law_choice", 2), ("_law_source", 2)]) (T := [R__law_kinds, R__law_made_errors, R__law_draw, R__law_choice, R__law_source, R_Player___len__, R_Player_play, R_Player_undo, R_Player_needle, R_Player_lift, R_Player_nudge, R_Player_put, R_Player___init__]) KX G M F gl s_law (fun base => AllFn.get ⟨FnAt.mono (f__law_kinds KX G c M) (by decide), FnAt.mono (f__law_made_errors KX G c M) (by decide), FnAt.mono (f__law_draw KX G c M) (by decide), FnAt.mono (f__law_choice KX G c M) (by decide), FnAt.mono (f__law_source KX G c M) (by decide), trivial⟩) (fun base => ⟨fun _ => ⟨_, pk_ok KX G c⟩, AllMt.drop (n := 5) (l := [("__len__", 1), ("play", 2), ("undo", 1), ("needle", 1), ("lift", 1), ("nudge", 2), ("put", 2), ("__init__", 3)]) ⟨⟨11, by decide, m_Player___len__ KX G c M⟩, ⟨14, by decide, m_Player_play KX G c M⟩, ⟨11, by decide, m_Player_undo KX G c M⟩, ⟨11, by decide, m_Player_needle KX G c M⟩, ⟨14, by decide, m_Player_lift KX G c M⟩, ⟨14, by decide, m_Player_nudge KX G c M⟩, ⟨14, by decide, m_Player_put KX G c M⟩, ⟨8, by decide, m_Player___init__ KX G c M⟩, trivial⟩, fun z => absurd z Bool.false_ne_true, fun _ => ⟨ek_ok KX G c, by decide⟩, fun z => absurd z Bool.false_ne_true⟩) c_law (by decide +kernel) (by decide) hT (fun w ws hm => nomatch hm) (fun w n f hm => by cases List.mem_singleton.mp hm; exact l__law_limit KX G c) (fun s v => b s [v] rfl) (fun ns hl => hlaw ns hl)⟩
end G.k16
theorem PySem.Challenge.cw_skipgrooves_k16_errors_and_their_classes_holds : PySem.Challenge.rw_skipgrooves_k16_errors_and_their_classes.Holds := by
  exact G.k16.law_of fun ns h => ⟨_, G.k16.r_law ns h⟩
