import PyProof.Rows.All
import Wide.All
import OpenK.AllK
import Wide.FinOn
import HandS.ForMost
import HandS.ForExc
import HandS.TryMany
import HandS.ExcIs
import HandS.IsInst
import HandS.SortRule
import HandS.Wide
import HandS.SortInts
import HandS.SortKw
import KE.DataMinMax
import HandS.Deep
import HandS.Flt
import HandS.Conv
import PyProof.LongRange
import HandS.Rev
import HandS.EndBits
import KE.IntBitsLaws
import PySem.Challenge.RW_seer_k12_well_made_or_refused
set_option Elab.async false
set_option linter.all false
set_option maxRecDepth 100000
/-! # Sr: a small language of data, its meaning -/
namespace Sr
open PySem L2

/-- what holds others by names or numbers: an instance (its class, the names of its fields), a dict of ints -/
inductive Kd where
  | ins (c : Nat) (ns : List Str)
  | dct (ks : List Int)
/-- data; a list bears whether it is ours alone -/
inductive D where
  | non
  | bl (b : Bool)
  | int (i : Int)
  | str (x : Str)
  | tup (xs : List D)
  | lst (o : Bool) (xs : List D)
  | cel (o : Bool) (k : Kd) (xs : List D)

mutual
/-- no list of ours within -/
def D.un : D → Bool
  | .non => true
  | .bl _ => true
  | .int _ => true
  | .str _ => true
  | .tup xs => unL xs
  | .lst o xs => !o && unL xs
  | .cel o _ xs => !o && unL xs
def unL : List D → Bool
  | [] => true
  | x :: r => x.un && unL r
end
mutual
/-- no list of others within -/
def D.ns : D → Bool
  | .non => true
  | .bl _ => true
  | .int _ => true
  | .str _ => true
  | .tup xs => nsL xs
  | .lst o xs => o && nsL xs
  | .cel o _ xs => o && nsL xs
def nsL : List D → Bool
  | [] => true
  | x :: r => x.ns && nsL r
end
mutual
/-- given up: no list is ours any more -/
def D.shr : D → D
  | .non => .non
  | .bl b => .bl b
  | .int i => .int i
  | .str x => .str x
  | .tup xs => .tup (shrL xs)
  | .lst _ xs => .lst false (shrL xs)
  | .cel _ k xs => .cel false k (shrL xs)
def shrL : List D → List D
  | [] => []
  | x :: r => x.shr :: shrL r
end
/-- data that is too deep for any use -/
def deepP : Nat → PyData
  | 0 => .none
  | n + 1 => .list [deepP n]
mutual
def D.py : D → PyData
  | .non => .none
  | .bl b => .bool b
  | .int i => .int i
  | .str x => .str x
  | .tup xs => .tuple (pyL xs)
  | .lst _ xs => .list (pyL xs)
  | .cel _ _ _ => deepP 100
def pyL : List D → List PyData
  | [] => []
  | x :: r => x.py :: pyL r
end

abbrev Env := List (Option D)
def Env.at (e : Env) (i : Nat) : Option D := (e[i]?).getD none

inductive Bop where | add | sub | mul | fdv | mod | pow
  deriving DecidableEq
inductive Cop where | lt | le | gt | ge
  deriving DecidableEq
inductive B1 where | len | abs | int | list | tuple | sum | minL | maxL | isInt | isBool | isList | isTuple | isStr | sorted | minD | maxD | sortP
  deriving DecidableEq
inductive BN where | min2 | max2 | max3
  deriving DecidableEq

inductive T where
  | nil | cons (a r : T)
  | v (i : Nat) | w (i : Nat) | non | bl (b : Bool) | int (i : Int) | str (x : Str)
  | frz (a : T) | lend (a : T)
  | bin (o : Bop) (a b : T) | neg (a : T)
  | cmp (o : Cop) (a b : T) | eq (a b : T) | ne (a b : T) | isN (a : T) | nisN (a : T)
  | chain (o o' : Cop) (a b c : T)
  | and (a b : T) | or (a b : T) | not (a : T) | ife (c a b : T)
  | tup (a : T) | lst (a : T)
  | ix (a b : T) | sl (a lo hi : T)
  | call (f : Nat) (a : T)
  | b1 (k : B1) (a : T) | bn (k : BN) (a : T)
  | inn (a b : T) | nin (a b : T) | lrg (a b : T) | lrev (a : T)
  | rng1 (a : T) | rng2 (a b : T) | rng3 (a b : T) (c : Int) | zip (a b : T) | itr (a : T)
  | lc (tg : List Nat) (it c e : T)
  -- a field, read; taken out of what is new; a method; an instance; the last item, taken away
  | fld (c i : Nat) (f : Str) | fldv (c i : Nat) (f : Str) | mcl (c f i : Nat) (a : T) | mk (c f : Nat) (a : T) | pop (p : T)
  -- is True, is False; a dict: new, is a key there, what is there; a field of an instance that is given up
  | isT (g b : Bool) (a : T) | dnew | din (g : Bool) (a p : T) | dix (p a : T) | fldw (c i : Nat) (f : Str)
  -- a call with the field of an instance, a list of ours, as its one changed argument
  | cfl (c i : Nat) (fl : Str) (f : Nat) (a : T)
  -- statements
  | pass | seq (a b : T) | asg (i : Nat) (e : T) | upk (tg : List Nat) (e : T)
  | st (p i e : T) | app (i : Nat) (e : T) | apq (p e : T) | ex (e : T)
  | cond (c a b : T) | whl (ks : List Nat) (c b : T) | for_ (tg ks : List Nat) (it b : T) | fow (tg ks : List Nat) (a b : T)
  | ret (e : T) | brk | cnt | rse
  -- what is let out: a class by its number; a call that may let it out; try, its clauses, what they ask
  | sfl (c i : Nat) (f : Str) (a : T) | exP (f i : Nat) (k : Int) | dst (p i a : T)
  | rs (c : Nat) | exX (a : T) | asgX (i : Nat) (a : T) | tri (a hs : T) | hd (c i : Nat) (q : T) | isx (i t : Nat) | isxs (i : Nat) (ts : List Nat)

/-- the product of two toInts fits -/
abbrev mulOk (i j : Int) : Prop := IntMulOk i j
instance (i j : Int) : Decidable (mulOk i j) := by unfold mulOk IntMulOk; infer_instance

def binI : Bop → Int → Int → Option Int
  | .add, i, j => some (i + j)
  | .sub, i, j => some (i - j)
  | .mul, i, j => if mulOk i j then some (i * j) else none
  | .fdv, i, j => if j ≠ 0 ∧ j.natAbs.log2 < 9000 then some (i.fdiv j) else none
  | .mod, i, j => if j = 0 then none else some (i.fmod j)
  | .pow, i, j => if 0 ≤ j ∧ j ≤ 1000000 ∧ i.natAbs < 2 ^ 64 then some (i ^ j.toNat) else none
def cmpI : Cop → Int → Int → Bool
  | .lt, i, j => decide (i < j)
  | .le, i, j => decide (i ≤ j)
  | .gt, i, j => decide (j < i)
  | .ge, i, j => decide (j ≤ i)
def items : D → Option (List D)
  | .lst _ xs => some xs
  | .tup xs => some xs
  | _ => none
def atD (d : D) (k : Int) : Option D := match items d with
  | some xs => atI xs k
  | none => none
def lenD (d : D) : Option D := match items d with
  | some xs => some (.int xs.length)
  | none => none
def big : Nat := 1000000

/-- the classes; their fields -/
def cnm : Nat → Str
  | 0 => "Layer" | 1 => "Runner" | 2 => "Settling"
  | _ => ""
def cfl : Nat → List Str
  | 0 => ["laid", "last"]
  | 1 => ["program", "picks", "used", "ways", "frames"]
  | 2 => ["rows", "entry", "summaries", "way", "table", "ends", "turns", "grew"]
  | _ => []
/-- the place of a key -/
def posI (k : Int) : List Int → Option Nat
  | [] => none
  | g :: r => if g = k then some 0 else (posI k r).map (· + 1)
def getK (k : Int) : D → Option (Option D)
  | .cel _ (.dct ks) xs => if ks.length = xs.length then match posI k ks with
    | some j => some (xs[j]?)
    | none => some none
    else none
  | _ => none
def putK' (k v : Int) : D → Option D
  | .cel true (.dct ks) xs => if ks.length = xs.length ∧ ks.length < 1000000 ∧ ks.Nodup then match posI k ks with
    | some j => some (.cel true (.dct ks) (xs.set j (.int v)))
    | none => some (.cel true (.dct (ks ++ [k])) (xs ++ [.int v]))
    else none
  | _ => none
/-- the arguments of such a call: what is un, by value; the field, by its place -/
def isFld (c i : Nat) (fl : Str) : T → Bool
  | .fld c' i' f' => decide (c = c') && decide (i = i') && decide (fl = f')
  | _ => false
def pickO : List Bool → List (Option D) → Option D
  | [], _ => none
  | b :: io, o :: os => if b then (if os.all Option.isNone && io.all (!·) then o else none) else (match o with
    | none => pickO io os
    | some _ => none)
  | _, _ => none
def okNs (c : Nat) (ns : List Str) : Bool := ns.all fun s => (cfl c).contains s
def posS (f : Str) : List Str → Option Nat
  | [] => none
  | g :: r => if g = f then some 0 else (posS f r).map (· + 1)
def fldD (c : Nat) (f : Str) : D → Option D
  | .cel _ (.ins c' ns) xs => if c = c' then match posS f ns with
    | some j => xs[j]?
    | none => none
    else none
  | _ => none
def setFld (c : Nat) (f : Str) (g : D → Option D) : D → Option D
  | .cel true (.ins c' ns) xs => if c = c' then match posS f ns with
    | some j => match xs[j]? with
      | some x => match g x with
        | some y => some (.cel true (.ins c' ns) (xs.set j y))
        | none => none
      | none => none
    | none => none
    else none
  | _ => none
def putFld (c : Nat) (f : Str) (x : D) : D → Option D
  | .cel true (.ins c' ns) xs => if c = c' ∧ ns.length < 900 ∧ ns.length = xs.length then match posS f ns with
    | some j => some (.cel true (.ins c' ns) (xs.set j x))
    | none => some (.cel true (.ins c' (ns ++ [f])) (xs ++ [x]))
    else none
  | _ => none
/-- a bound of a slice -/
def cutD (xs : List D) (lo hi : Option Int) : List D := (xs.drop (HT.sIx xs.length 0 lo)).take (HT.sIx xs.length xs.length hi - HT.sIx xs.length 0 lo)
def slD (d : D) (lo hi : Option Int) : Option D := match d with
  | .lst _ xs => if unL xs then some (.lst true (cutD xs lo hi)) else none
  | .tup xs => if unL xs ∧ ¬ (HT.sIx xs.length 0 lo = 0 ∧ HT.sIx xs.length xs.length hi = xs.length) then some (.tup (cutD xs lo hi)) else none
  | _ => none
/-- what is read without a change -/
def isP : T → Bool
  | .v _ => true
  | .non => true
  | .bl _ => true
  | .int _ => true
  | .str _ => true
  | .bin _ a b => isP a && isP b
  | .neg a => isP a
  | .ix a b => isP a && isP b
  | .b1 .len a => isP a
  | .fld _ _ _ => true
  | _ => false
def evP : T → Env → Option D
  | .v i, e => e.at i
  | .non, _ => some .non
  | .bl b, _ => some (.bl b)
  | .int i, _ => some (.int i)
  | .str x, _ => some (.str x)
  | .bin o a b, e => match evP a e, evP b e with
    | some (.int i), some (.int j) => (binI o i j).map .int
    | _, _ => none
  | .neg a, e => match evP a e with
    | some (.int i) => some (.int (-i))
    | _ => none
  | .ix a b, e => match evP a e, evP b e with
    | some d, some (.int k) => atD d k
    | _, _ => none
  | .b1 .len a, e => match evP a e with
    | some d => lenD d
    | none => none
  | .fld c i f, e => match e.at i with
    | some d => fldD c f d
    | none => none
  | _, _ => none

def isNil : T → Bool
  | .nil => true
  | _ => false
def isPo : T → Bool
  | .nil => true
  | t => isP t
def evPo (t : T) (e : Env) : Option (Option Int) := match t with
  | .nil => some none
  | t => match evP t e with
    | some (.int i) => some (some i)
    | _ => none
def eqv (d e : D) : Bool := PyData.eqv d.py e.py
def eqOk (d : D) : Bool := SeqAt.shaped d.py
/-- is there an equal one among the items -/
def inD (x : D) (ys : List D) : Bool := ys.any fun y => eqv y x
/-- the binary operators by what is handed in -/
def binD (o : Bop) (x y : D) : Option D := match x, y with
  | .int i, .int j => (binI o i j).map .int
  | .lst oa xs, .lst ob ys => match o with
    | .add => if (oa || unL xs) && (ob || unL ys) && decide (xs.length + ys.length ≤ big) then some (.lst true (xs ++ ys)) else none
    | _ => none
  | .tup xs, .tup ys => match o with
    | .add => if unL xs && unL ys && !xs.isEmpty && decide (xs.length + ys.length ≤ big) then some (.tup (xs ++ ys)) else none
    | _ => none
  | .lst ow xs, .int k => match o with
    | .mul => if (ow && unL xs) && decide (xs.length * k.toNat ≤ big) && decide (k < 2 ^ 62) && decide (-(2 ^ 62) ≤ k) then some (.lst true (List.replicate k.toNat xs).flatten) else none
    | _ => none
  | _, _ => none
def toInts : List D → Option (List Int)
  | [] => some []
  | .int i :: r => match toInts r with
    | some l => some (i :: l)
    | none => none
  | _ => none
def insI (x : Int) : List Int → List Int
  | [] => [x]
  | y :: r => if x ≤ y then x :: y :: r else y :: insI x r
def sortI : List Int → List Int
  | [] => []
  | x :: r => insI x (sortI r)
/-- sorted, of fewer than 64 ints -/
def srtD (xs : List D) : Option D := match toInts xs with
  | some ns => if ns.length < 64 then some (.lst true ((sortI ns).map .int)) else none
  | none => none
/-- sorted, of fewer than 64 pairs of ints -/
def toPairs : List D → Option (List (Int × Int))
  | [] => some []
  | .tup [.int i, .int j] :: r => match toPairs r with
    | some l => some ((i, j) :: l)
    | none => none
  | _ => none
def ltP2 (x y : Int × Int) : Bool := decide (x.1 < y.1) || (decide (x.1 = y.1) && decide (x.2 < y.2))
def insP (x : Int × Int) : List (Int × Int) → List (Int × Int)
  | [] => [x]
  | y :: r => if ltP2 y x then y :: insP x r else x :: y :: r
def sortP : List (Int × Int) → List (Int × Int)
  | [] => []
  | x :: r => insP x (sortP r)
def ofP (p : Int × Int) : D := .tup [.int p.1, .int p.2]
def srtP (xs : List D) : Option D := match toPairs xs with
  | some ns => if ns.length < 64 then some (.lst true ((sortP ns).map ofP)) else none
  | none => none
/-- the least one, the greatest one -/
def minI : List Int → Int
  | [] => 0
  | [x] => x
  | x :: r => if minI r < x then minI r else x
def maxI : List Int → Int
  | [] => 0
  | [x] => x
  | x :: r => if x < maxI r then maxI r else x
def extD (f : List Int → Int) (xs : List D) : Option D := match toInts xs with
  | some ns => if 0 < ns.length then some (.int (f ns)) else none
  | none => none
def exdD (f : List Int → Int) (xs : List D) : Option D := match toInts xs with
  | some ns => if 0 < ns.length then some (.int (f ns)) else some .non
  | none => none
def b1D : B1 → D → Option D
  | .minD, .lst _ xs => exdD minI xs
  | .maxD, .lst _ xs => exdD maxI xs
  | .len, d => lenD d
  | .abs, .int i => some (.int (if i < 0 then -i else i))
  | .int, .int i => some (.int i)
  | .int, .bl b => some (.int (if b then 1 else 0))
  | .list, d => match items d with
    | some xs => if unL xs then some (.lst true xs) else none
    | none => none
  | .tuple, .lst _ xs => if unL xs then some (.tup xs) else none
  | .sum, .lst _ xs => (toInts xs).map fun l => .int l.sum
  | .sorted, .lst _ xs => srtD xs
  | .sortP, .lst _ xs => srtP xs
  | .minL, .lst _ xs => extD minI xs
  | .maxL, .lst _ xs => extD maxI xs
  | .isInt, .int _ => some (.bl true)
  | .isInt, .bl _ => some (.bl true)
  | .isInt, _ => some (.bl false)
  | .isBool, .bl _ => some (.bl true)
  | .isBool, _ => some (.bl false)
  | .isList, .lst _ _ => some (.bl true)
  | .isList, _ => some (.bl false)
  | .isTuple, .tup _ => some (.bl true)
  | .isTuple, _ => some (.bl false)
  | .isStr, .str _ => some (.bl true)
  | .isStr, _ => some (.bl false)
  | _, _ => none
def bnD : BN → List D → Option D
  | .min2, [.int i, .int j] => some (.int (if j < i then j else i))
  | .max2, [.int i, .int j] => some (.int (if j > i then j else i))
  | .max3, [.int i, .int j, .int k] => some (.int (if k > (if j > i then j else i) then k else (if j > i then j else i)))
  | _, _ => none

inductive Ag where | val (d : D) | var (i : Nat) | io (i : Nat) | own (d : D)
/-- what is to be changed is taken out -/
def agIo : List Ag → Env → Option Env
  | [], e => some e
  | .io i :: r, e => match e.at i with
    | some _ => agIo r (e.set i none)
    | none => none
  | _ :: r, e => agIo r e
/-- what is handed over: e ahead, e' what is left -/
def agD (e e' : Env) : List Ag → Option (List D)
  | [] => some []
  | .val d :: r => match agD e e' r with
    | some l => some (d.shr :: l)
    | none => none
  | .var i :: r => match e'.at i, agD e e' r with
    | some d, some l => some (d.shr :: l)
    | _, _ => none
  | .io i :: r => match e.at i, agD (e.set i none) e' r with
    | some d, some l => some (d :: l)
    | _, _ => none
  | .own d :: r => match agD e e' r with
    | some l => some (d :: l)
    | none => none
/-- what was lent is no more ours -/
def agFz : List Ag → Env → Env
  | [], e => e
  | .var i :: r, e => agFz r (match e.at i with
    | some d => e.set i (some d.shr)
    | none => e)
  | _ :: r, e => agFz r e
/-- what was changed comes back -/
def agBack : List Ag → List (Option D) → Env → Option Env
  | [], [], e => some e
  | .io i :: r, o :: os, e => agBack r os (e.set i o)
  | _ :: r, _ :: os, e => agBack r os e
  | _, _, _ => none
def nsO : List (Option D) → Bool
  | [] => true
  | some d :: r => d.ns && nsO r
  | none :: r => nsO r

def bindT : List Nat → D → Env → Option Env
  | [i], d, e => some (e.set i (some d))
  | [i, j], .tup [x, y], e => some ((e.set i (some x)).set j (some y))
  | [i, j, k], .tup [x, y, z], e => some (((e.set i (some x)).set j (some y)).set k (some z))
  | _, _, _ => none
def kill : List Nat → Env → Env
  | [], e => e
  | i :: r, e => kill r (e.set i none)
def loopC (f : D → Env → Option (Option D × Env)) : List D → Env → List D → Option (List D × Env)
  | [], e, acc => some (acc, e)
  | x :: r, e, acc => match f x e with
    | some (some d, e') => loopC f r e' (acc ++ [d])
    | some (none, e') => loopC f r e' acc
    | none => none
def zipD : List D → List D → List D
  | x :: xs, y :: ys => .tup [x, y] :: zipD xs ys
  | _, _ => []

/-- how many turns a range takes -/
def rngN (a b c : Int) : Nat := if a < b then ((b - a - 1) / c + 1).toNat else 0
def evF (c i : Nat) (fl : Str) : T → List Bool → Env → Option (List (Option D))
  | .nil, [], _ => some []
  | .cons a r, b :: io, e => match evF c i fl r io e with
    | some l => if b then (if isFld c i fl a then some (none :: l) else none) else (if isP a then match evP a e with
      | some d => if d.un then some (some d :: l) else none
      | none => none
      else none)
    | none => none
  | _, _, _ => none
def fillF (t : D) : List (Option D) → List D
  | [] => []
  | none :: l => t :: fillF t l
  | some d :: l => d.shr :: fillF t l
/-- the place of a store -/
def isPl : T → Bool
  | .v _ => true
  | .ix a b => isPl a && isP b
  | .fld _ _ _ => true
  | _ => false
def setAt (k : Int) (f : D → Option D) : D → Option D
  | .lst true xs => match ixN xs.length k with
    | some j => match xs[j]? with
      | some x => match f x with
        | some y => some (.lst true (xs.set j y))
        | none => none
      | none => none
    | none => none
  | .tup xs => match ixN xs.length k with
    | some j => match xs[j]? with
      | some x => match f x with
        | some y => some (.tup (xs.set j y))
        | none => none
      | none => none
    | none => none
  | _ => none
def setP : T → (D → Option D) → Env → Option Env
  | .v i, f, e => match e.at i with
    | some d => match f d with
      | some d => some (e.set i (some d))
      | none => none
    | none => none
  | .ix a b, f, e => match evP b e with
    | some (.int k) => setP a (setAt k f) e
    | _ => none
  | .fld c i g, f, e => match e.at i with
    | some d => match setFld c g f d with
      | some d => some (e.set i (some d))
      | none => none
    | none => none
  | _, _, _ => none
def putD (k : Int) (x : D) : D → Option D
  | .lst true xs => match ixN xs.length k with
    | some j => some (.lst true (xs.set j x))
    | none => none
  | _ => none
def appD (x : D) : D → Option D
  | .lst true xs => if xs.length < big then some (.lst true (xs ++ [x])) else none
  | _ => none
/-- without the last one -/
def popD : D → Option D
  | .lst true xs => if 0 < xs.length then some (.lst true xs.dropLast) else none
  | _ => none
/-- the called functions: which parameters are changed, what comes back -/
structure Fs where
  io : Nat → List Bool
  run : Nat → List D → Option (D × List (Option D))
  exc : Nat → List D → Option Nat

def callF (Φ : Fs) (f : Nat) (as : List Ag) (e : Env) : Option (D × Env) := match agIo as e with
  | some e' => match agD e e' as with
    | some ds => match Φ.run f ds with
      | some (r, os) => match agBack as os (if (r.ns && nsO os) = true then e' else agFz as e') with
        | some e => some (r, e)
        | none => none
      | none => none
    | none => none
  | none => none
/-- an instance that is made: the call of its __init__ -/
def makeF (Φ : Fs) (c f : Nat) (as : List Ag) (e : Env) : Option (D × Env) := match agIo as e with
  | some e' => match agD e e' as with
    | some ds => match Φ.run f (.cel true (.ins c []) [] :: ds) with
      | some (.non, some d :: os) => match agBack as os (if (d.ns && nsO os) = true then e' else agFz as e') with
        | some e => some (d, e)
        | none => none
      | _ => none
    | none => none
  | none => none
section
variable (Φ : Fs)
mutual
def evE : T → Env → Option (D × Env)
  | .v i, e => match e.at i with
    | some d => if d.un then some (d, e) else some (d, e.set i none)
    | none => none
  | .w i, e => match e.at i with
    | some d => some (d.shr, e.set i (some d.shr))
    | none => none
  | .non, e => some (.non, e)
  | .bl b, e => some (.bl b, e)
  | .int i, e => some (.int i, e)
  | .str x, e => some (.str x, e)
  | .frz a, e => match evE a e with
    | some (d, e) => some (d.shr, e)
    | none => none
  | .lend a, e => match evE a (e.map fun o => o.map D.shr) with
    | some (d, _) => if d.ns then some (d, e) else none
    | none => none
  | .bin o a b, e => match evE a e with
    | some (x, e) => match evE b e with
      | some (y, e) => (binD o x y).map fun d => (d, e)
      | none => none
    | none => none
  | .neg a, e => match evE a e with
    | some (.int i, e) => some (.int (-i), e)
    | _ => none
  | .cmp o a b, e => match evE a e with
    | some (.int i, e) => match evE b e with
      | some (.int j, e) => some (.bl (cmpI o i j), e)
      | _ => none
    | _ => none
  | .eq a b, e => match (if isP a && isP b then (evP a e).map fun d => (d, e) else evE a e) with
    | some (x, e) => match (if isP b then (evP b e).map fun d => (d, e) else evE b e) with
      | some (y, e) => if eqOk x && eqOk y then some (.bl (eqv x y), e) else none
      | none => none
    | none => none
  | .ne a b, e => match (if isP a && isP b then (evP a e).map fun d => (d, e) else evE a e) with
    | some (x, e) => match (if isP b then (evP b e).map fun d => (d, e) else evE b e) with
      | some (y, e) => if eqOk x && eqOk y then some (.bl (!eqv x y), e) else none
      | none => none
    | none => none
  | .inn a b, e => match (if isP a && isP b then (evP a e).map fun d => (d, e) else evE a e) with
    | some (x, e) => match (if isP b then (evP b e).map fun d => (d, e) else evE b e) with
      | some (.lst o ys, e) => if eqOk x && eqOk (.lst o ys) then some (.bl (inD x ys), e) else none
      | _ => none
    | none => none
  | .nin a b, e => match (if isP a && isP b then (evP a e).map fun d => (d, e) else evE a e) with
    | some (x, e) => match (if isP b then (evP b e).map fun d => (d, e) else evE b e) with
      | some (.lst o ys, e) => if eqOk x && eqOk (.lst o ys) then some (.bl (!inD x ys), e) else none
      | _ => none
    | none => none
  | .isN a, e => match (if isP a then (evP a e).map fun d => (d, e) else evE a e) with
    | some (.non, e) => some (.bl true, e)
    | some (_, e) => some (.bl false, e)
    | none => none
  | .nisN a, e => match (if isP a then (evP a e).map fun d => (d, e) else evE a e) with
    | some (.non, e) => some (.bl false, e)
    | some (_, e) => some (.bl true, e)
    | none => none
  | .chain o o' a b c, e => match evE a e with
    | some (.int i, e) => match evE b e with
      | some (.int j, e) => if cmpI o i j then match evE c e with
        | some (.int k, e) => some (.bl (cmpI o' j k), e)
        | _ => none
        else some (.bl false, e)
      | _ => none
    | _ => none
  | .and a b, e => match evE a e with
    | some (.bl true, e) => match evE b e with
      | some (.bl c, e) => some (.bl c, e)
      | _ => none
    | some (.bl false, e) => some (.bl false, e)
    | _ => none
  | .or a b, e => match evE a e with
    | some (.bl false, e) => match evE b e with
      | some (.bl c, e) => some (.bl c, e)
      | _ => none
    | some (.bl true, e) => some (.bl true, e)
    | _ => none
  | .not a, e => match evE a e with
    | some (.bl c, e) => some (.bl (!c), e)
    | _ => none
  | .ife c a b, e => match evE c e with
    | some (.bl c, e) => if c then evE a e else evE b e
    | _ => none
  | .tup a, e => match evL a e with
    | some (ds, e) => if ds.length ≤ big then some (.tup ds, e) else none
    | none => none
  | .lst a, e => match evL a e with
    | some (ds, e) => if ds.length ≤ big then some (.lst true ds, e) else none
    | none => none
  | .ix a b, e => if isP a && isP b then match evP (.ix a b) e with
      | some d => if d.un then some (d, e) else none
      | none => none
    else match evE a e with
    | some (x, e) => match evE b e with
      | some (.int k, e) => (atD x k).map fun d => (d, e)
      | _ => none
    | none => none
  | .sl a lo hi, e => if isPo lo && isPo hi then match (if isP a then (evP a e).map fun d => (d, e) else evE a e) with
    | some (x, e) => match evPo lo e with
      | some l => match evPo hi e with
        | some h => match slD x l h with
          | some d => some (d, e)
          | none => none
        | none => none
      | none => none
    | none => none
    else match evE a e with
    | some (x, e) => match (if isNil lo then some (none, e) else match evE lo e with
      | some (.int i, e) => some (some i, e)
      | _ => none) with
      | some (l, e) => match (if isNil hi then some (none, e) else match evE hi e with
        | some (.int i, e) => some (some i, e)
        | _ => none) with
        | some (h, e) => match slD x l h with
          | some d => some (d, e)
          | none => none
        | none => none
      | none => none
    | none => none
  | .call f a, e => match evG a (Φ.io f) e with
    | some (as, e) => match agIo as e with
      | some e' => match agD e e' as with
        | some ds => match Φ.run f ds with
          | some (r, os) => match agBack as os (if r.ns && nsO os then e' else agFz as e') with
            | some e => some (r, e)
            | none => none
          | none => none
        | none => none
      | none => none
    | none => none
  | .fld c i f, e => match evP (.fld c i f) e with
    | some d => if d.un then some (d, e) else none
    | none => none
  | .fldv c i f, e => match e.at i with
    | some d => match fldD c f d with
      | some x => some (x, e.set i none)
      | none => none
    | none => none
  | .mcl c f i a, e => match e.at i with
    | some (.cel true (.ins c' ns) _) => if c = c' ∧ okNs c ns = true then match Φ.io f with
      | true :: bs => match evG a bs e with
        | some (as, e) => callF Φ f (.io i :: as) e
        | none => none
      | _ => none
      else none
    | _ => none
  | .mk c f a, e => match Φ.io f with
    | true :: bs => match evG a bs e with
      | some (as, e) => makeF Φ c f as e
      | none => none
    | _ => none
  | .cfl c i fl f a, e => match e.at i with
    | some (.cel true (.ins c' ns) xs) => if c = c' then match posS fl ns with
      | some j => match xs[j]? with
        | some t => match evF c i fl a (Φ.io f) e with
          | some l => match Φ.run f (fillF t l) with
            | some (r, os) => match pickO (Φ.io f) os with
              | some t' => some (r, e.set i (some (.cel true (.ins c' ns) (xs.set j t'))))
              | none => none
            | none => none
          | none => none
        | none => none
      | none => none
      else none
    | _ => none
  | .isT g b a, e => match evE a e with
    | some (.bl c, e) => some (.bl ((c == b) != g), e)
    | _ => none
  | .dnew, e => some (.cel true (.dct []) [], e)
  | .din g a p, e => if isP a && isP p then match evP a e, evP p e with
    | some (.int k), some d => match getK k d with
      | some o => some (.bl (o.isSome != g), e)
      | none => none
    | _, _ => none
    else none
  | .dix p a, e => if isP a && isP p then match evP a e, evP p e with
    | some (.int k), some d => match getK k d with
      | some (some x) => if x.un then some (x, e) else none
      | _ => none
    | _, _ => none
    else none
  | .fldw c i f, e => match e.at i with
    | some d => match fldD c f d.shr with
      | some x => some (x, e.set i (some d.shr))
      | none => none
    | none => none
  | .pop p, e => if isPl p then match evP p e with
    | some (.lst true xs) => match xs[xs.length - 1]? with
      | some x => match setP p popD e with
        | some e => some (x, e)
        | none => none
      | none => none
    | _ => none
    else none
  | .b1 k a, e => match (if isP a then (evP a e).map fun d => (d, e) else evE a e) with
    | some (x, e) => (b1D k x).map fun d => (d, e)
    | none => none
  | .bn k a, e => match evL a e with
    | some (xs, e) => (bnD k xs).map fun d => (d, e)
    | none => none
  | .lrev a, e => match evE a e with
    | some (.lst _ xs, e) => if unL xs then some (.lst true xs.reverse, e) else none
    | _ => none
  | .lrg a b, e => match evE a e with
    | some (.int m, e) => match evE b e with
      | some (.int n, e) => if n - m ≤ big then some (.lst true ((List.range (n - m).toNat).map fun k => .int (m + (k : Nat))), e) else none
      | _ => none
    | _ => none
  | .lc tg it c el, e => match evI it e with
    | some (xs, e) => match loopC (fun x e => match bindT tg x e with
        | some e => match evE c e with
          | some (.bl true, e) => match evE el e with
            | some (d, e) => some (some d, kill tg e)
            | none => none
          | some (.bl false, e) => some (none, kill tg e)
          | _ => none
        | none => none) xs (kill tg e) [] with
      | some (ds, e) => some (.lst true ds, e)
      | none => none
    | none => none
  | _, _ => none
def evL : T → Env → Option (List D × Env)
  | .nil, e => some ([], e)
  | .cons a r, e => match evE a e with
    | some (x, e) => match evL r e with
      | some (xs, e) => some (x :: xs, e)
      | none => none
    | none => none
  | _, _ => none
/-- the arguments of a call -/
def evG : T → List Bool → Env → Option (List Ag × Env)
  | .nil, [], e => some ([], e)
  | .cons (.v i) r, b :: bs, e => match e.at i with
    | some _ => match evG r bs e with
      | some (as, e) => some ((if b then .io i else .var i) :: as, e)
      | none => none
    | none => none
  | .cons a r, b :: bs, e => match evE a e with
    | some (x, e) => match evG r bs e with
      | some (as, e) => some ((if b then .own x else .val x) :: as, e)
      | none => none
    | none => none
  | _, _, _ => none
/-- what is walked -/
def evI : T → Env → Option (List D × Env)
  | .rng1 a, e => match evE a e with
    | some (.int n, e) => if n ≤ big ∧ -(2 ^ 62) ≤ n then some ((List.range n.toNat).map fun k => .int (k : Nat), e) else none
    | _ => none
  | .rng2 a b, e => match evE a e with
    | some (.int m, e) => match evE b e with
      | some (.int n, e) => if -(2 ^ 62) ≤ m ∧ m < 2 ^ 62 ∧ -(2 ^ 62) ≤ n ∧ n < 2 ^ 62 ∧ n - m ≤ big then some ((List.range (n - m).toNat).map fun k => .int (m + (k : Nat)), e) else none
      | _ => none
    | _ => none
  | .rng3 a b c, e => match evE a e with
    | some (.int m, e) => match evE b e with
      | some (.int n, e) => if -(2 ^ 61) ≤ m ∧ m < 2 ^ 61 ∧ -(2 ^ 61) ≤ n ∧ n < 2 ^ 61 ∧ 0 < c ∧ c < 1000000000 ∧ n - m ≤ big then some ((List.range (rngN m n c)).map fun k => .int (m + (k : Nat) * c), e) else none
      | _ => none
    | _ => none
  | .zip a b, e => match evE a e with
    | some (.lst _ xs, e) => match evE b e with
      | some (.lst _ ys, e) => some (zipD (shrL xs) (shrL ys), e)
      | _ => none
    | _ => none
  | .itr a, e => match evE a e with
    | some (d, e) => (items d).map fun xs => (shrL xs, e)
    | none => none
  | _, _ => none
end
end

/-! ### statements -/
inductive Fl where | nx | rt (d : D) | bk | ct | xc (c : Nat)
/-- a new tuple or list of what is only read -/
def isQl : T → Bool
  | .nil => true
  | .cons (.tup b) r => isQl b && isQl r
  | .cons a r => isP a && isQl r
  | _ => false
def isQ : T → Bool
  | .tup a => isQl a
  | .lst a => isQl a
  | a => isP a
def evQl : T → Env → Option (List D)
  | .cons (.tup b) r, e => match evQl b e, evQl r e with
    | some d, some ds => if d.length ≤ big then some (.tup d :: ds) else none
    | _, _ => none
  | .cons a r, e => match evP a e, evQl r e with
    | some d, some ds => if d.un then some (d :: ds) else none
    | _, _ => none
  | _, _ => some []
def evQ : T → Env → Option D
  | .tup a, e => match evQl a e with
    | some ds => if ds.length ≤ big then some (.tup ds) else none
    | none => none
  | .lst a, e => match evQl a e with
    | some ds => if ds.length ≤ big then some (.lst true ds) else none
    | none => none
  | a, e => match evP a e with
    | some d => if d.un then some d else none
    | none => none
def loopF (ks : List Nat) (f : D → Env → Option (Fl × Env)) : List D → Env → Option (Fl × Env)
  | [], e => some (.nx, kill ks e)
  | x :: r, e => match f x e with
    | some (.nx, e) => loopF ks f r (kill ks e)
    | some (.ct, e) => loopF ks f r (kill ks e)
    | some (.bk, e) => some (.nx, kill ks e)
    | some (.rt d, e) => some (.rt d, e)
    | some (.xc c, e) => some (.xc c, e)
    | none => none
def whN (ks : List Nat) (c : Env → Option (D × Env)) (f : Env → Option (Fl × Env)) : Nat → Env → Option (Fl × Env)
  | 0, _ => none
  | n + 1, e => match c e with
    | some (.bl true, e) => match f e with
      | some (.nx, e) => whN ks c f n (kill ks e)
      | some (.ct, e) => whN ks c f n (kill ks e)
      | some (.bk, e) => some (.nx, kill ks e)
      | some (.rt d, e) => some (.rt d, e)
      | some (.xc c, e) => some (.xc c, e)
      | none => none
    | some (.bl false, e) => some (.nx, kill ks e)
    | _ => none
theorem whN_succ {ks c f n e} : whN ks c f (n + 1) e = (match c e with
    | some (.bl true, e) => match f e with
      | some (.nx, e) => whN ks c f n (kill ks e)
      | some (.ct, e) => whN ks c f n (kill ks e)
      | some (.bk, e) => some (.nx, kill ks e)
      | some (.rt d, e) => some (.rt d, e)
      | some (.xc c, e) => some (.xc c, e)
      | none => none
    | some (.bl false, e) => some (.nx, kill ks e)
    | _ => none) := rfl
open Classical in
noncomputable def whD (ks : List Nat) (c : Env → Option (D × Env)) (f : Env → Option (Fl × Env)) (e : Env) : Option (Fl × Env) :=
  if h : ∃ n, (whN ks c f n e).isSome = true then whN ks c f h.choose e else none
theorem of_whD {ks c f e r} (h : whD ks c f e = some r) : ∃ n, whN ks c f n e = some r := by
  unfold whD at h
  split at h
  · exact ⟨_, h⟩
  · cases h

/-- the classes of what is let out -/
def xnm : Nat → Str
  | 0 => "SeerError" | 1 => "NoStretch" | 2 => "NoRest" | 3 => "NoShape" | 4 => "NoBox" | 5 => "FixedBox" | 6 => "NoSum" | 7 => "NoStep" | 8 => "NoCall" | 9 => "NoStart" | 10 => "NoWay" | 11 => "ValueError"
  | _ => ""
def isub (c t : Nat) : Bool := c == t || t == 0 || t == 11
/-- what a clause asks of what was let out -/
def evXQ (c : Nat) : T → Option D
  | .bl b => some (.bl b)
  | .isx _ t => some (.bl (isub c t))
  | .isxs _ ts => some (.bl (ts.any (isub c)))
  | .not a => match evXQ c a with
    | some (.bl b) => some (.bl (!b))
    | _ => none
  | .and a b => match evXQ c a with
    | some (.bl true) => match evXQ c b with
      | some (.bl x) => some (.bl x)
      | _ => none
    | some (.bl false) => some (.bl false)
    | _ => none
  | .tup (.cons (.str s) (.cons a .nil)) => match evXQ c a with
    | some (.bl x) => some (.tup [.str s, .bl x])
    | _ => none
  | _ => none
def evXS (c : Nat) : T → Env → Option Env
  | .pass, e => some e
  | .seq a b, e => match evXS c a e with
    | some e => evXS c b e
    | none => none
  | .asg i q, e => match evXQ c q with
    | some d => some (e.set i (some d))
    | none => none
  | .cond q a b, e => match evXQ c q with
    | some (.bl x) => if x then evXS c a e else evXS c b e
    | _ => none
  | _, _ => none
/-- the clauses, one after another -/
def hndl : T → Nat → Env → Option (Fl × Env)
  | .nil, c, e => some (.xc c, e)
  | .cons (.hd h i q) r, c, e => if isub c h then match evXS c q (e.set i none) with
    | some e => some (.nx, e.set i none)
    | none => none
    else hndl r c e
  | _, _, _ => none
section
variable (Φ : Fs)
/-- what a call lets out -/
def exE : T → Env → Option (Nat × Env)
  | .call f a, e => if (Φ.io f).all (!·) then match evG Φ a (Φ.io f) e with
    | some (as, e) => match agD e e as with
      | some ds => match Φ.exc f ds with
        | some c => some (c, agFz as e)
        | none => none
      | none => none
    | none => none
    else none
  | .tup (.cons (.str _) (.cons (.call f a) .nil)), e => exE (.call f a) e
  | _, _ => none
noncomputable def evS : T → Env → Option (Fl × Env)
  | .pass, e => some (.nx, e)
  | .seq a b, e => match evS a e with
    | some (.nx, e) => evS b e
    | some r => some r
    | none => none
  | .asg i a, e => match evE Φ a e with
    | some (d, e) => some (.nx, e.set i (some d))
    | none => none
  | .upk tg a, e => match evE Φ a e with
    | some (d, e) => match bindT tg d e with
      | some e => some (.nx, e)
      | none => none
    | none => none
  | .st p i a, e => match evE Φ a e with
    | some (x, e) => if isPl p && isP i then match evP i e with
      | some (.int k) => match setP p (putD k x) e with
        | some e => some (.nx, e)
        | none => none
      | _ => none
      else none
    | none => none
  | .app i a, e => match e.at i with
    | some (.lst _ _) => match evE Φ a e with
      | some (x, e) => match setP (.v i) (appD x) e with
        | some e => some (.nx, e)
        | none => none
      | none => none
    | _ => none
  | .apq p a, e => if isPl p && isQ a then match evQ a e with
    | some x => match setP p (appD x) e with
      | some e => some (.nx, e)
      | none => none
    | none => none
    else none
  | .ex a, e => match evE Φ a e with
    | some (_, e) => some (.nx, e)
    | none => none
  | .cond c a b, e => match evE Φ c e with
    | some (.bl c, e) => if c then evS a e else evS b e
    | _ => none
  | .whl ks c b, e => whD ks (evE Φ c) (evS b) e
  | .for_ tg ks it b, e => match evI Φ it e with
    | some (xs, e) => loopF ks (fun x e => match bindT tg x e with
      | some e => evS b e
      | none => none) xs e
    | none => none
  | .fow tg ks a b, e => match evE Φ a e with
    | some (.lst true xs, e) => loopF ks (fun x e => match bindT tg x e with
      | some e => evS b e
      | none => none) xs e
    | _ => none
  | .ret a, e => match evE Φ a e with
    | some (d, e) => some (.rt d, e)
    | none => none
  | .brk, e => some (.bk, e)
  | .cnt, e => some (.ct, e)
  | .sfl c i f a, e => match evE Φ a e with
    | some (x, e) => match e.at i with
      | some d => match putFld c f x d with
        | some d => some (.nx, e.set i (some d))
        | none => none
      | none => none
    | none => none
  | .dst p i a, e => match evE Φ a e with
    | some (.int x, e) => if isPl p && isP i then match evP i e with
      | some (.int k) => match setP p (putK' k x) e with
        | some e => some (.nx, e)
        | none => none
      | _ => none
      else none
    | _ => none
  | .exP f i k, e => match e.at i with
    | some (.lst true xs) => match ixN xs.length k with
      | some j => match xs[j]? with
        | some d => match Φ.io f with
          | [true] => match Φ.run f [d] with
            | some (_, [some d']) => some (.nx, e.set i (some (.lst true (xs.set j d'))))
            | _ => none
          | _ => none
        | none => none
      | none => none
    | _ => none
  | .rs c, e => some (.xc c, e)
  | .exX a, e => match evE Φ a e with
    | some (_, e) => some (.nx, e)
    | none => match exE Φ a e with
      | some (c, e) => some (.xc c, e)
      | none => none
  | .asgX i a, e => match evE Φ a e with
    | some (d, e) => some (.nx, e.set i (some d))
    | none => match exE Φ a e with
      | some (c, e) => some (.xc c, e)
      | none => none
  | .tri a hs, e => match evS a e with
    | some (.xc c, e) => hndl hs c e
    | some r => some r
    | none => none
  | _, _ => none
end

/-! ### functions -/
/-- a def: its parameters, which of them are changed, how many names, its body -/
structure Df where
  io : List Bool
  names : Nat
  body : T
def outs : List Bool → Env → List (Option D)
  | [], _ => []
  | b :: r, e => (if b then e.head?.join else none) :: outs r e.tail
noncomputable def runDf (Φ : Fs) (d : Df) (as : List D) : Option (D × List (Option D)) :=
  if as.length = d.io.length then match evS Φ d.body (as.map some ++ List.replicate (d.names - as.length) none) with
    | some (.rt r, e) => some (r, outs d.io e)
    | some (.nx, e) => some (.non, outs d.io e)
    | _ => none
  else none
/-- what a def lets out -/
noncomputable def excDf (Φ : Fs) (d : Df) (as : List D) : Option Nat :=
  if as.length = d.io.length then match evS Φ d.body (as.map some ++ List.replicate (d.names - as.length) none) with
    | some (.xc c, _) => some c
    | _ => none
  else none
noncomputable def fnsN (P : Nat → Df) : Nat → Fs
  | 0 => ⟨fun f => (P f).io, fun _ _ => none, fun _ _ => none⟩
  | n + 1 => ⟨fun f => (P f).io, fun f as => runDf (fnsN P n) (P f) as, fun f as => excDf (fnsN P n) (P f) as⟩
end Sr
set_option Elab.async false
set_option linter.all false
set_option maxRecDepth 100000
/-! # Sr: how data stands in the heap -/
namespace Sr
open PySem L2

/-- the address's content is a list -/
def mutO : HO → Bool
  | .lst _ => true
  | .ins .. => true
  | .dK _ => true
  | .dT _ => true
  | _ => false
def IsLst (H : Hp) (a : Addr) : Prop := ∃ o, H a = some o ∧ mutO o = true
/-- what isinstance asks of a class -/
structure InsTy (K : PySem.W.Frag) (C : Addr) : Prop where
  cl : Cls K C
  ha : PySem.W.findIn K (.ref C) "__class__" = some (some (.builtin "object.__class__"))
  hn : PySem.W.specialIn K (.builtin "object.__class__") "__get__" = some (some (.builtin "getset_descriptor.__get__"))
  ht : PySem.W.takesIn K (.builtin "object.__class__") = some true
  hm : PySem.W.mroIn K C (.type "object") = some true
  ki : PySem.W.kitOne K (.ref C) (.type "int") = some false
  kb : PySem.W.kitOne K (.ref C) (.type "bool") = some false
  kl : PySem.W.kitOne K (.ref C) (.type "list") = some false
  kt : PySem.W.kitOne K (.ref C) (.type "tuple") = some false
  ks : PySem.W.kitOne K (.ref C) (.type "str") = some false
/-- what stands at a is an instance, a dict of those -/
def CelAt (K : PySem.W.Frag) (H : Hp) (a : Addr) (k : Kd) (vs : List V) : Prop := match k with
  | .ins c ns => ∃ C dx, PySem.W.nsIn K mainGlobals (cnm c) = some (some (.ref C)) ∧ (InsTy K C ∧ ns.length = vs.length) ∧ H a = some (.ins C dx (ns.zip vs))
  | .dct ks => ks.length = vs.length ∧ H a = some (.dK ((ks.map Sum.inl).zip vs))
theorem CelAt.mut {K : PySem.W.Frag} {H : Hp} {a : Addr} {k : Kd} {vs : List V} (h : CelAt K H a k vs) : IsLst H a := by
  cases k with
  | ins c ns => obtain ⟨C, dx, _, _, e⟩ := h; exact ⟨_, e, rfl⟩
  | dct ks => obtain ⟨_, e⟩ := h; exact ⟨_, e, rfl⟩
theorem CelAt.stay {K : PySem.W.Frag} {H H' : Hp} {a : Addr} {k : Kd} {vs : List V} (h : CelAt K H a k vs) (q : ∀ o, H a = some o → H' a = some o) : CelAt K H' a k vs := by
  cases k with
  | ins c ns => obtain ⟨C, dx, h1, h2, e⟩ := h; exact ⟨C, dx, h1, h2, q _ e⟩
  | dct ks => obtain ⟨h1, e⟩ := h; exact ⟨h1, q _ e⟩
/-- a list of the module -/
def KL (K : PySem.W.Frag) (a : Addr) (xs : List V) : Prop := ∃ (o : Obj) (its : Array Value) (n : Nat), K.lookup a = some o ∧ o.cls = .type "list" ∧ o.dict = none ∧ o.data = .seq its n ∧ its.size ≤ sizeLine ∧ Vals xs its.toList
mutual
/-- v stands for d; F: the lists of ours, S: the lists of others -/
inductive Rep (K : PySem.W.Frag) (H : Hp) : V → D → List Addr → List Addr → Prop
  | non : Rep K H .non .non [] []
  | bl (b : Bool) : Rep K H (.bl b) (.bl b) [] []
  | int (i : Int) : Rep K H (.int i) (.int i) [] []
  | str (x : Str) : Rep K H (.str x) (.str x) [] []
  | tup {a : Addr} {vs : List V} {ds : List D} {F S : List Addr} : Rd H a (.tup vs) → Reps K H vs ds F S → Rep K H (.ref a) (.tup ds) F S
  | shr {a : Addr} {vs : List V} {ds : List D} {S : List Addr} : Rd H a (.lst vs) → Reps K H vs ds [] S → Rep K H (.ref a) (.lst false ds) [] (a :: S)
  | mod {a : Addr} {vs : List V} {ds : List D} {S : List Addr} : KL K a vs → Reps K H vs ds [] S → Rep K H (.ref a) (.lst false ds) [] S
  | own {a : Addr} {vs : List V} {ds : List D} {F S : List Addr} : H a = some (.lst vs) → Reps K H vs ds F S → Rep K H (.ref a) (.lst true ds) (a :: F) S
  | cel {a : Addr} {k : Kd} {vs : List V} {ds : List D} {S : List Addr} : CelAt K H a k vs → Reps K H vs ds [] S → Rep K H (.ref a) (.cel false k ds) [] (a :: S)
  | celo {a : Addr} {k : Kd} {vs : List V} {ds : List D} {F S : List Addr} : CelAt K H a k vs → Reps K H vs ds F S → Rep K H (.ref a) (.cel true k ds) (a :: F) S
inductive Reps (K : PySem.W.Frag) (H : Hp) : List V → List D → List Addr → List Addr → Prop
  | nil : Reps K H [] [] [] []
  | cons {v : V} {d : D} {vs : List V} {ds : List D} {F S F' S' : List Addr} : Rep K H v d F S → Reps K H vs ds F' S' → Reps K H (v :: vs) (d :: ds) (F ++ F') (S ++ S')
end

section
variable {K : PySem.W.Frag} {H H' : Hp}

theorem Reps.len : ∀ {vs : List V} {ds : List D} {F S : List Addr}, Reps K H vs ds F S → vs.length = ds.length
  | _, [], _, _, h => by cases h; rfl
  | _, _ :: _, _, _, h => by cases h with | cons _ t => simp [t.len]

mutual
theorem shr_un : ∀ d : D, d.shr.un = true
  | .non => rfl
  | .bl _ => rfl
  | .int _ => rfl
  | .str _ => rfl
  | .tup xs => by rw [D.shr, D.un]; exact shrL_un xs
  | .lst _ xs => by rw [D.shr, D.un, shrL_un xs]; rfl
  | .cel _ _ xs => by rw [D.shr, D.un, shrL_un xs]; rfl
theorem shrL_un : ∀ ds : List D, unL (shrL ds) = true
  | [] => rfl
  | d :: ds => by rw [shrL, unL, shr_un d, shrL_un ds]; rfl
end
mutual
theorem shr_shr : ∀ d : D, d.shr.shr = d.shr
  | .non => rfl
  | .bl _ => rfl
  | .int _ => rfl
  | .str _ => rfl
  | .tup xs => by rw [D.shr, D.shr, shrL_shrL xs]
  | .lst _ xs => by rw [D.shr, D.shr, shrL_shrL xs]
  | .cel _ _ xs => by rw [D.shr, D.shr, shrL_shrL xs]
theorem shrL_shrL : ∀ ds : List D, shrL (shrL ds) = shrL ds
  | [] => rfl
  | d :: ds => by rw [shrL, shrL, shr_shr d, shrL_shrL ds]
end
mutual
theorem shr_of_un : ∀ d : D, d.un = true → d.shr = d
  | .non, _ => rfl
  | .bl _, _ => rfl
  | .int _, _ => rfl
  | .str _, _ => rfl
  | .tup xs, h => by rw [D.un] at h; rw [D.shr, shrL_of_un xs h]
  | .lst o xs, h => by
    simp only [D.un, Bool.and_eq_true, Bool.not_eq_true'] at h
    rw [D.shr, shrL_of_un xs h.2, h.1]
  | .cel o k xs, h => by
    simp only [D.un, Bool.and_eq_true, Bool.not_eq_true'] at h
    rw [D.shr, shrL_of_un xs h.2, h.1]
theorem shrL_of_un : ∀ ds : List D, unL ds = true → shrL ds = ds
  | [], _ => rfl
  | d :: ds, h => by
    simp only [unL, Bool.and_eq_true] at h
    rw [shrL, shr_of_un d h.1, shrL_of_un ds h.2]
end
/-- all that is of ours is a list -/
theorem Rep.lstF : ∀ {d : D} {v : V} {F S : List Addr}, Rep K H v d F S → ∀ a ∈ F, IsLst H a := by
  intro d
  apply D.rec (motive_1 := fun d => ∀ {v F S}, Rep K H v d F S → ∀ a ∈ F, IsLst H a) (motive_2 := fun ds => ∀ {vs F S}, Reps K H vs ds F S → ∀ a ∈ F, IsLst H a)
  · intro v F S h a ha; cases h; cases ha
  · intro b v F S h a ha; cases h; cases ha
  · intro i v F S h a ha; cases h; cases ha
  · intro x v F S h a ha; cases h; cases ha
  · intro xs ih v F S h a ha; cases h with | tup _ r => exact ih r a ha
  · intro o xs ih v F S h a ha
    cases h with
    | shr _ r => cases ha
    | mod _ r => cases ha
    | own e r =>
      rcases List.mem_cons.mp ha with rfl | ha
      · exact ⟨_, e, rfl⟩
      · exact ih r a ha
  · intro o k xs ih v F S h a ha
    cases h with
    | cel _ r => cases ha
    | celo e r =>
      rcases List.mem_cons.mp ha with rfl | ha
      · exact e.mut
      · exact ih r a ha
  · intro vs F S h a ha; cases h; cases ha
  · intro d ds i1 i2 vs F S h a ha
    cases h with
    | cons r t =>
      rcases List.mem_append.mp ha with ha | ha
      · exact i1 r a ha
      · exact i2 t a ha
theorem Reps.lstF : ∀ {ds : List D} {vs : List V} {F S : List Addr}, Reps K H vs ds F S → ∀ a ∈ F, IsLst H a
  | [], _, _, _, h, a, ha => by cases h; cases ha
  | _ :: _, _, _, _, h, a, ha => by
    cases h with
    | cons r t =>
      rcases List.mem_append.mp ha with ha | ha
      · exact r.lstF a ha
      · exact t.lstF a ha

/-- what stands is kept, but the lists at M -/
def Kept (H H' : Hp) (M : List Addr) : Prop := ∀ b o, H b = some o → b ∉ M → H' b = some o
theorem Kept.sqL {M : List Addr} {a : Addr} {xs : List V} (k : Kept H H' M) (h : Rd H a (.lst xs)) (n : a ∉ M) : Rd H' a (.lst xs) := by
  rcases h with h | ⟨o, h⟩
  · exact .inl (k _ _ h n)
  · exact .inr ⟨o, k _ _ h n⟩
theorem Kept.sqT {M : List Addr} {a : Addr} {xs : List V} (k : Kept H H' M) (m : ∀ b ∈ M, IsLst H b) (h : Rd H a (.tup xs)) : Rd H' a (.tup xs) := by
  rcases h with h | ⟨o, h⟩
  · refine .inl (k _ _ h fun z => ?_)
    obtain ⟨ys, e, hm⟩ := m _ z
    rw [h] at e; cases e; cases hm
  · refine .inr ⟨o, k _ _ h fun z => ?_⟩
    obtain ⟨ys, e, hm⟩ := m _ z
    rw [h] at e; cases e; cases hm
theorem Rep.kept {M : List Addr} (k : Kept H H' M) (m : ∀ b ∈ M, IsLst H b) : ∀ {d : D} {v : V} {F S : List Addr}, Rep K H v d F S → (∀ a ∈ F, a ∉ M) → (∀ a ∈ S, a ∉ M) → Rep K H' v d F S := by
  intro d
  apply D.rec (motive_1 := fun d => ∀ {v F S}, Rep K H v d F S → (∀ a ∈ F, a ∉ M) → (∀ a ∈ S, a ∉ M) → Rep K H' v d F S) (motive_2 := fun ds => ∀ {vs F S}, Reps K H vs ds F S → (∀ a ∈ F, a ∉ M) → (∀ a ∈ S, a ∉ M) → Reps K H' vs ds F S)
  · intro v F S h _ _; cases h; exact .non
  · intro b v F S h _ _; cases h; exact .bl b
  · intro i v F S h _ _; cases h; exact .int i
  · intro x v F S h _ _; cases h; exact .str x
  · intro xs ih v F S h hF hS; cases h with | tup e r => exact .tup (k.sqT m e) (ih r hF hS)
  · intro o xs ih v F S h hF hS
    cases h with
    | shr e r => exact .shr (k.sqL e (hS _ List.mem_cons_self)) (ih r hF fun a ha => hS a (List.mem_cons_of_mem _ ha))
    | mod e r => exact .mod e (ih r hF hS)
    | own e r => exact .own (k _ _ e (hF _ List.mem_cons_self)) (ih r (fun a ha => hF a (List.mem_cons_of_mem _ ha)) hS)
  · intro o kk xs ih v F S h hF hS
    cases h with
    | cel e r => exact .cel (e.stay fun o q => k _ _ q (hS _ List.mem_cons_self)) (ih r hF fun a ha => hS a (List.mem_cons_of_mem _ ha))
    | celo e r => exact .celo (e.stay fun o q => k _ _ q (hF _ List.mem_cons_self)) (ih r (fun a ha => hF a (List.mem_cons_of_mem _ ha)) hS)
  · intro vs F S h _ _; cases h; exact .nil
  · intro d ds i1 i2 vs F S h hF hS
    cases h with
    | cons r t => exact .cons (i1 r (fun a ha => hF a (List.mem_append_left _ ha)) fun a ha => hS a (List.mem_append_left _ ha)) (i2 t (fun a ha => hF a (List.mem_append_right _ ha)) fun a ha => hS a (List.mem_append_right _ ha))
theorem Reps.kept {M : List Addr} (k : Kept H H' M) (m : ∀ b ∈ M, IsLst H b) : ∀ {ds : List D} {vs : List V} {F S : List Addr}, Reps K H vs ds F S → (∀ a ∈ F, a ∉ M) → (∀ a ∈ S, a ∉ M) → Reps K H' vs ds F S
  | [], _, _, _, h, _, _ => by cases h; exact .nil
  | _ :: _, _, _, _, h, hF, hS => by
    cases h with
    | cons r t => exact .cons (r.kept k m (fun a ha => hF a (List.mem_append_left _ ha)) fun a ha => hS a (List.mem_append_left _ ha)) (t.kept k m (fun a ha => hF a (List.mem_append_right _ ha)) fun a ha => hS a (List.mem_append_right _ ha))
theorem Kept.same (k : Same H H') : Kept H H' [] := fun b o e _ => k b o e
theorem Rep.same (k : Same H H') {d : D} {v : V} {F S : List Addr} (r : Rep K H v d F S) : Rep K H' v d F S := r.kept (Kept.same k) (fun _ z => nomatch z) (fun _ _ z => nomatch z) fun _ _ z => nomatch z
theorem Reps.same (k : Same H H') {ds : List D} {vs : List V} {F S : List Addr} (r : Reps K H vs ds F S) : Reps K H' vs ds F S := r.kept (Kept.same k) (fun _ z => nomatch z) (fun _ _ z => nomatch z) fun _ _ z => nomatch z

/-- what is of others stands -/
theorem Rep.thereS : ∀ {d : D} {v : V} {F S : List Addr}, Rep K H v d F S → ∀ a ∈ S, H a ≠ none := by
  intro d
  apply D.rec (motive_1 := fun d => ∀ {v F S}, Rep K H v d F S → ∀ a ∈ S, H a ≠ none) (motive_2 := fun ds => ∀ {vs F S}, Reps K H vs ds F S → ∀ a ∈ S, H a ≠ none)
  · intro v F S h a ha; cases h; cases ha
  · intro b v F S h a ha; cases h; cases ha
  · intro i v F S h a ha; cases h; cases ha
  · intro x v F S h a ha; cases h; cases ha
  · intro xs ih v F S h a ha; cases h with | tup _ r => exact ih r a ha
  · intro o xs ih v F S h a ha
    cases h with
    | shr e r =>
      rcases List.mem_cons.mp ha with rfl | ha
      · rcases e with e | ⟨o, e⟩ <;> (rw [e]; simp)
      · exact ih r a ha
    | mod e r => exact ih r a ha
    | own e r => exact ih r a ha
  · intro o k xs ih v F S h a ha
    cases h with
    | cel e r =>
      rcases List.mem_cons.mp ha with rfl | ha
      · obtain ⟨o, q, _⟩ := e.mut
        rw [q]; simp
      · exact ih r a ha
    | celo e r => exact ih r a ha
  · intro vs F S h a ha; cases h; cases ha
  · intro d ds i1 i2 vs F S h a ha
    cases h with
    | cons r t =>
      rcases List.mem_append.mp ha with ha | ha
      · exact i1 r a ha
      · exact i2 t a ha
theorem Reps.thereS : ∀ {ds : List D} {vs : List V} {F S : List Addr}, Reps K H vs ds F S → ∀ a ∈ S, H a ≠ none
  | [], _, _, _, h, a, ha => by cases h; cases ha
  | _ :: _, _, _, _, h, a, ha => by
    cases h with
    | cons r t =>
      rcases List.mem_append.mp ha with ha | ha
      · exact r.thereS a ha
      · exact t.thereS a ha
/-- given up -/
theorem Rep.shrd : ∀ {d : D} {v : V} {F S : List Addr}, Rep K H v d F S → ∃ S', Rep K H v d.shr [] S' ∧ ∀ a ∈ S', a ∈ F ∨ a ∈ S := by
  intro d
  apply D.rec (motive_1 := fun d => ∀ {v F S}, Rep K H v d F S → ∃ S', Rep K H v d.shr [] S' ∧ ∀ a ∈ S', a ∈ F ∨ a ∈ S) (motive_2 := fun ds => ∀ {vs F S}, Reps K H vs ds F S → ∃ S', Reps K H vs (shrL ds) [] S' ∧ ∀ a ∈ S', a ∈ F ∨ a ∈ S)
  · intro v F S h; cases h; exact ⟨[], .non, fun _ z => nomatch z⟩
  · intro b v F S h; cases h; exact ⟨[], .bl b, fun _ z => nomatch z⟩
  · intro i v F S h; cases h; exact ⟨[], .int i, fun _ z => nomatch z⟩
  · intro x v F S h; cases h; exact ⟨[], .str x, fun _ z => nomatch z⟩
  · intro xs ih v F S h
    cases h with
    | tup e r =>
      obtain ⟨S', r', q⟩ := ih r
      exact ⟨S', .tup e r', q⟩
  · intro o xs ih v F S h
    cases h with
    | shr e r =>
      obtain ⟨S', r', q⟩ := ih r
      refine ⟨_ :: S', .shr e r', fun a ha => ?_⟩
      rcases List.mem_cons.mp ha with rfl | ha
      · exact .inr List.mem_cons_self
      · rcases q a ha with z | z
        · cases z
        · exact .inr (List.mem_cons_of_mem _ z)
    | mod e r =>
      obtain ⟨S', r', q⟩ := ih r
      exact ⟨S', .mod e r', q⟩
    | own e r =>
      obtain ⟨S', r', q⟩ := ih r
      refine ⟨_ :: S', .shr (Rd.of e) r', fun a ha => ?_⟩
      rcases List.mem_cons.mp ha with rfl | ha
      · exact .inl List.mem_cons_self
      · rcases q a ha with z | z
        · exact .inl (List.mem_cons_of_mem _ z)
        · exact .inr z
  · intro o k xs ih v F S h
    cases h with
    | cel e r =>
      obtain ⟨S', r', q⟩ := ih r
      refine ⟨_ :: S', .cel e r', fun a ha => ?_⟩
      rcases List.mem_cons.mp ha with rfl | ha
      · exact .inr List.mem_cons_self
      · rcases q a ha with z | z
        · cases z
        · exact .inr (List.mem_cons_of_mem _ z)
    | celo e r =>
      obtain ⟨S', r', q⟩ := ih r
      refine ⟨_ :: S', .cel e r', fun a ha => ?_⟩
      rcases List.mem_cons.mp ha with rfl | ha
      · exact .inl List.mem_cons_self
      · rcases q a ha with z | z
        · exact .inl (List.mem_cons_of_mem _ z)
        · exact .inr z
  · intro vs F S h; cases h; exact ⟨[], .nil, fun _ z => nomatch z⟩
  · intro d ds i1 i2 vs F S h
    cases h with
    | cons r t =>
      obtain ⟨S1, r1, q1⟩ := i1 r
      obtain ⟨S2, r2, q2⟩ := i2 t
      refine ⟨S1 ++ S2, .cons (F := []) (F' := []) r1 r2, fun a ha => ?_⟩
      rcases List.mem_append.mp ha with ha | ha
      · rcases q1 a ha with z | z
        · exact .inl (List.mem_append_left _ z)
        · exact .inr (List.mem_append_left _ z)
      · rcases q2 a ha with z | z
        · exact .inl (List.mem_append_right _ z)
        · exact .inr (List.mem_append_right _ z)
theorem Reps.shrd : ∀ {ds : List D} {vs : List V} {F S : List Addr}, Reps K H vs ds F S → ∃ S', Reps K H vs (shrL ds) [] S' ∧ ∀ a ∈ S', a ∈ F ∨ a ∈ S
  | [], _, _, _, h => by cases h; exact ⟨[], .nil, fun _ z => nomatch z⟩
  | _ :: _, _, _, _, h => by
    cases h with
    | cons r t =>
      obtain ⟨S1, r1, q1⟩ := r.shrd
      obtain ⟨S2, r2, q2⟩ := t.shrd
      refine ⟨S1 ++ S2, .cons (F := []) (F' := []) r1 r2, fun a ha => ?_⟩
      rcases List.mem_append.mp ha with ha | ha
      · rcases q1 a ha with z | z
        · exact .inl (List.mem_append_left _ z)
        · exact .inr (List.mem_append_left _ z)
      · rcases q2 a ha with z | z
        · exact .inl (List.mem_append_right _ z)
        · exact .inr (List.mem_append_right _ z)
theorem Rep.un : ∀ {d : D} {v : V} {F S : List Addr}, Rep K H v d F S → d.un = true → F = [] := by
  intro d
  apply D.rec (motive_1 := fun d => ∀ {v F S}, Rep K H v d F S → d.un = true → F = []) (motive_2 := fun ds => ∀ {vs F S}, Reps K H vs ds F S → unL ds = true → F = [])
  · intro v F S h _; cases h; rfl
  · intro b v F S h _; cases h; rfl
  · intro i v F S h _; cases h; rfl
  · intro x v F S h _; cases h; rfl
  · intro xs ih v F S h u; cases h with | tup e r => exact ih r (by simpa [D.un] using u)
  · intro o xs ih v F S h u
    cases h with
    | shr e r => rfl
    | mod e r => rfl
    | own e r => simp [D.un] at u
  · intro o k xs ih v F S h u
    cases h with
    | cel e r => rfl
    | celo e r => simp [D.un] at u
  · intro vs F S h _; cases h; rfl
  · intro d ds i1 i2 vs F S h u
    simp only [unL, Bool.and_eq_true] at u
    cases h with | cons r t => rw [i1 r u.1, i2 t u.2]; rfl
theorem Reps.un : ∀ {ds : List D} {vs : List V} {F S : List Addr}, Reps K H vs ds F S → unL ds = true → F = []
  | [], _, _, _, h, _ => by cases h; rfl
  | _ :: _, _, _, _, h, u => by
    simp only [unL, Bool.and_eq_true] at u
    cases h with | cons r t => rw [r.un u.1, t.un u.2]; rfl
theorem Rep.ns : ∀ {d : D} {v : V} {F S : List Addr}, Rep K H v d F S → d.ns = true → S = [] := by
  intro d
  apply D.rec (motive_1 := fun d => ∀ {v F S}, Rep K H v d F S → d.ns = true → S = []) (motive_2 := fun ds => ∀ {vs F S}, Reps K H vs ds F S → nsL ds = true → S = [])
  · intro v F S h _; cases h; rfl
  · intro b v F S h _; cases h; rfl
  · intro i v F S h _; cases h; rfl
  · intro x v F S h _; cases h; rfl
  · intro xs ih v F S h u; cases h with | tup e r => exact ih r (by simpa [D.ns] using u)
  · intro o xs ih v F S h u
    cases h with
    | shr e r => simp [D.ns] at u
    | mod e r => simp [D.ns] at u
    | own e r => exact ih r (by simpa [D.ns] using u)
  · intro o k xs ih v F S h u
    cases h with
    | cel e r => simp [D.ns] at u
    | celo e r => exact ih r (by simpa [D.ns] using u)
  · intro vs F S h _; cases h; rfl
  · intro d ds i1 i2 vs F S h u
    simp only [nsL, Bool.and_eq_true] at u
    cases h with | cons r t => rw [i1 r u.1, i2 t u.2]; rfl
theorem deepP_depth : ∀ n, n ≤ (deepP n).depth
  | 0 => Nat.zero_le _
  | n + 1 => by
    have := deepP_depth n
    rw [deepP, PyData.depth, PyData.depthAll, PyData.depthAll]
    omega
mutual
theorem Rep.dp : ∀ {d : D} {v : V} {F S : List Addr}, Rep K H v d F S → d.py.depth ≤ 64 → Dp K H v d.py
  | .non, _, _, _, h, _ => by cases h; exact .non
  | .bl b, _, _, _, h, _ => by cases h; exact .bl b
  | .int i, _, _, _, h, _ => by cases h; exact .int i
  | .str x, _, _, _, h, _ => by cases h; exact .str x
  | .tup xs, _, _, _, h, g => by
    rw [D.py, PyData.depth] at g
    cases h with | tup e r => exact .tup (.inl e) (r.dp (by omega))
  | .lst o xs, _, _, _, h, g => by
    rw [D.py, PyData.depth] at g
    cases h with
    | shr e r => exact .lst (.inl e) (r.dp (by omega))
    | mod e r => exact .lst (.inr e) (r.dp (by omega))
    | own e r => exact .lst (SqL.of e) (r.dp (by omega))
  | .cel o k xs, _, _, _, h, g => by
    have := deepP_depth 100
    rw [D.py] at g
    omega
theorem Reps.dp : ∀ {ds : List D} {vs : List V} {F S : List Addr}, Reps K H vs ds F S → PyData.depthAll (pyL ds) ≤ 64 → DpAll K H vs (pyL ds)
  | [], _, _, _, h, _ => by cases h; exact .nil
  | d :: ds, _, _, _, h, g => by
    rw [pyL, PyData.depthAll] at g
    cases h with | cons r t => exact .cons (r.dp (by omega)) (t.dp (by omega))
end
/-- the item at a place -/
theorem Reps.get : ∀ {ds : List D} {vs : List V} {F S : List Addr} {j : Nat} {d : D}, Reps K H vs ds F S → ds[j]? = some d →
    ∃ v F1 S1, vs[j]? = some v ∧ Rep K H v d F1 S1 ∧ (∀ a ∈ F1, a ∈ F) ∧ (∀ a ∈ S1, a ∈ S) ∧ (F.Nodup → F1.Nodup)
  | [], _, _, _, j, d, h, e => by simp at e
  | d0 :: ds, _, _, _, 0, d, h, e => by
    cases h with
    | cons r t =>
      simp at e; subst e
      exact ⟨_, _, _, rfl, r, fun a ha => List.mem_append_left _ ha, fun a ha => List.mem_append_left _ ha, fun n => (List.nodup_append.mp n).1⟩
  | d0 :: ds, _, _, _, j + 1, d, h, e => by
    cases h with
    | cons r t =>
      obtain ⟨v, F1, S1, e1, r1, f1, s1, n1⟩ := t.get (j := j) (by simpa using e)
      exact ⟨v, F1, S1, by simpa using e1, r1, fun a ha => List.mem_append_right _ (f1 a ha), fun a ha => List.mem_append_right _ (s1 a ha), fun n => n1 (List.nodup_append.mp n).2.1⟩
/-- the item at a place, and what else there is -/
theorem Reps.split : ∀ {ds : List D} {vs : List V} {F S : List Addr} {j : Nat} {d : D}, Reps K H vs ds F S → ds[j]? = some d →
    ∃ v Fa F1 Fb Sa S1 Sb, vs[j]? = some v ∧ Rep K H v d F1 S1 ∧ F = Fa ++ (F1 ++ Fb) ∧ S = Sa ++ (S1 ++ Sb) ∧
      ∀ (H' : Hp) (M : List Addr) (v' : V) (d' : D) (F1' S1' : List Addr), Kept H H' M → (∀ b ∈ M, IsLst H b) → (∀ a ∈ Fa ++ Fb, a ∉ M) → (∀ a ∈ Sa ++ Sb, a ∉ M) → Rep K H' v' d' F1' S1' →
        Reps K H' (vs.set j v') (ds.set j d') (Fa ++ (F1' ++ Fb)) (Sa ++ (S1' ++ Sb))
  | [], _, _, _, j, d, h, e => by simp at e
  | d0 :: ds, _, _, _, 0, d, h, e => by
    cases h with
    | @cons v0 _ vs0 _ F0 S0 F2 S2 r t =>
      simp at e; subst e
      refine ⟨v0, [], F0, F2, [], S0, S2, rfl, r, rfl, rfl, fun H' M v' d' F1' S1' k m hF hS r' => ?_⟩
      show Reps K H' (v' :: vs0) (d' :: ds) (F1' ++ F2) (S1' ++ S2)
      exact .cons r' (t.kept k m (fun a ha => hF a (by simpa using ha)) fun a ha => hS a (by simpa using ha))
  | d0 :: ds, _, _, _, j + 1, d, h, e => by
    cases h with
    | @cons v0 _ vs0 _ F0 S0 F2 S2 r t =>
      obtain ⟨v, Fa, F1, Fb, Sa, S1, Sb, e1, r1, eF, eS, put⟩ := t.split (j := j) (by simpa using e)
      refine ⟨v, F0 ++ Fa, F1, Fb, S0 ++ Sa, S1, Sb, by simpa using e1, r1, by rw [eF]; simp, by rw [eS]; simp, fun H' M v' d' F1' S1' k m hF hS r' => ?_⟩
      have q := put H' M v' d' F1' S1' k m (fun a ha => hF a (by rcases List.mem_append.mp ha with z | z <;> simp [z])) (fun a ha => hS a (by rcases List.mem_append.mp ha with z | z <;> simp [z])) r'
      have r0 := r.kept k m (fun a ha => hF a (by simp [ha])) (fun a ha => hS a (by simp [ha]))
      have z := Reps.cons r0 q
      simpa [List.append_assoc] using z
end
end Sr
set_option Elab.async false
set_option linter.all false
set_option maxRecDepth 100000
/-! # Sr: what stands while a def runs -/
namespace Sr
open PySem L2

/-- the entry of a def: its heap, what it may change, what it may only read, the slots that stay -/
structure Bs where
  H0 : Hp
  F0 : List Addr
  S0 : List Addr
  pr : List (Nat × V)
/-- no list, no tuple is longer than the line -/
def SzOk (H : Hp) : Prop := ∀ a xs, Rd H a (.lst xs) ∨ Rd H a (.tup xs) → xs.length ≤ sizeLine
theorem rd_upd {H : Hp} {p a : Addr} {o u : HO} (h : Rd (upd H p o) a u) : (a = p ∧ (o = u ∨ ∃ ob, o = .frz ob u)) ∨ Rd H a u := by
  by_cases e : a = p
  · subst e
    rcases h with h | ⟨ob, h⟩
    · rw [upd_same] at h; cases h; exact .inl ⟨rfl, .inl rfl⟩
    · rw [upd_same] at h; cases h; exact .inl ⟨rfl, .inr ⟨ob, rfl⟩⟩
  · rcases h with h | ⟨ob, h⟩
    · rw [upd_ne e] at h; exact .inr (.inl h)
    · rw [upd_ne e] at h; exact .inr (.inr ⟨ob, h⟩)
theorem SzOk.lst {H : Hp} {p : Addr} {vs : List V} (s : SzOk H) (z : vs.length ≤ sizeLine) : SzOk (upd H p (.lst vs)) := fun a xs h => by
  rcases h with h | h <;> rcases rd_upd h with ⟨_, e | ⟨_, e⟩⟩ | h
  · cases e; exact z
  · cases e
  · exact s a xs (.inl h)
  · cases e
  · cases e
  · exact s a xs (.inr h)
theorem SzOk.tup {H : Hp} {p : Addr} {vs : List V} (s : SzOk H) (z : vs.length ≤ sizeLine) : SzOk (upd H p (.tup vs)) := fun a xs h => by
  rcases h with h | h <;> rcases rd_upd h with ⟨_, e | ⟨_, e⟩⟩ | h
  · cases e
  · cases e
  · exact s a xs (.inl h)
  · cases e; exact z
  · cases e
  · exact s a xs (.inr h)
structure Okk (B : Bs) (H : Hp) (F S : List Addr) : Prop where
  nd : F.Nodup
  dj : ∀ a ∈ F, a ∉ S
  fF : ∀ a ∈ F, a ∈ B.F0 ∨ B.H0 a = none
  fS : ∀ a ∈ S, a ∈ B.F0 ∨ a ∈ B.S0 ∨ B.H0 a = none
  kp : Kept B.H0 H B.F0
  sz : SzOk H
abbrev Rt := V × D
abbrev Rs (K : PySem.W.Frag) (H : Hp) (R : List Rt) (F S : List Addr) : Prop := Reps K H (R.map (·.1)) (R.map (·.2)) F S
def W (K : PySem.W.Frag) (B : Bs) (H : Hp) (R : List Rt) : Prop := ∃ F S, Rs K H R F S ∧ Okk B H F S

section
variable {K : PySem.W.Frag} {B : Bs} {H H' : Hp} {R R' : List Rt} {F S F' S' : List Addr}

theorem Okk.less (o : Okk B H F S) (hF : ∀ a ∈ F', a ∈ F) (nF : F'.Nodup) (hS : ∀ a ∈ S', a ∈ S) : Okk B H F' S' :=
  ⟨nF, fun a x y => o.dj a (hF a x) (hS a y), fun a x => o.fF a (hF a x), fun a x => o.fS a (hS a x), o.kp, o.sz⟩
theorem Okk.perm (o : Okk B H F S) (pF : F.Perm F') (pS : S.Perm S') : Okk B H F' S' :=
  o.less (fun a h => pF.mem_iff.mpr h) (pF.nodup_iff.mp o.nd) fun a h => pS.mem_iff.mpr h
theorem Rs.perm (p : R.Perm R') : ∀ {F S}, Rs K H R F S → ∃ F' S', Rs K H R' F' S' ∧ F.Perm F' ∧ S.Perm S' := by
  induction p with
  | nil => intro F S h; exact ⟨_, _, h, .refl _, .refl _⟩
  | cons x _ ih =>
    intro F S h
    cases h with
    | cons r t =>
      obtain ⟨F', S', h', p1, p2⟩ := ih t
      exact ⟨_, _, .cons r h', p1.append_left _, p2.append_left _⟩
  | swap x y l =>
    intro F S h
    cases h with
    | cons r t =>
      cases t with
      | cons r' t =>
        refine ⟨_, _, .cons r' (.cons r t), ?_, ?_⟩
        · exact List.perm_append_comm_assoc _ _ _
        · exact List.perm_append_comm_assoc _ _ _
  | trans _ _ i1 i2 =>
    intro F S h
    obtain ⟨F1, S1, h1, a1, b1⟩ := i1 h
    obtain ⟨F2, S2, h2, a2, b2⟩ := i2 h1
    exact ⟨F2, S2, h2, a1.trans a2, b1.trans b2⟩
theorem W.perm (p : R.Perm R') (w : W K B H R) : W K B H R' := by
  obtain ⟨F, S, h, o⟩ := w
  obtain ⟨F', S', h', p1, p2⟩ := Rs.perm p h
  exact ⟨F', S', h', o.perm p1 p2⟩
theorem W.drop {x : Rt} (w : W K B H (x :: R)) : W K B H R := by
  obtain ⟨F, S, h, o⟩ := w
  cases h with
  | cons r t => exact ⟨_, _, t, o.less (fun a h => List.mem_append_right _ h) (List.nodup_append.mp o.nd).2.1 fun a h => List.mem_append_right _ h⟩
theorem W.dropN : ∀ {R1 : List Rt}, W K B H (R1 ++ R) → W K B H R
  | [], w => w
  | _ :: R1, w => W.dropN (R1 := R1) w.drop
/-- the first one stands for another data, with less of ours -/
theorem W.headW {v v' : V} {d d' : D} (w : W K B H ((v, d) :: R)) (h : ∀ F S, Rep K H v d F S → F.Nodup → ∃ F' S', Rep K H v' d' F' S' ∧ (∀ a ∈ F', a ∈ F) ∧ F'.Nodup ∧ ∀ a ∈ S', a ∈ S ∨ (a ∈ F ∧ a ∉ F')) : W K B H ((v', d') :: R) := by
  obtain ⟨F, S, h0, o⟩ := w
  cases h0 with
  | @cons _ _ _ _ F1 S1 F2 S2 r t =>
    obtain ⟨n1, n2, n3⟩ := List.nodup_append.mp o.nd
    obtain ⟨F', S', r', hF, nF, hS⟩ := h _ _ r n1
    refine ⟨F' ++ F2, S' ++ S2, .cons r' t, ⟨?_, fun a ha hs => ?_, fun a ha => ?_, fun a ha => ?_, o.kp, o.sz⟩⟩
    · exact List.nodup_append.mpr ⟨nF, n2, fun a ha b hb => n3 a (hF a ha) b hb⟩
    · rcases List.mem_append.mp ha with z | z <;> rcases List.mem_append.mp hs with y | y
      · rcases hS a y with q | ⟨q1, q2⟩
        · exact o.dj a (List.mem_append_left _ (hF a z)) (List.mem_append_left _ q)
        · exact q2 z
      · exact o.dj a (List.mem_append_left _ (hF a z)) (List.mem_append_right _ y)
      · rcases hS a y with q | ⟨q1, q2⟩
        · exact o.dj a (List.mem_append_right _ z) (List.mem_append_left _ q)
        · exact n3 a q1 a z rfl
      · exact o.dj a (List.mem_append_right _ z) (List.mem_append_right _ y)
    · rcases List.mem_append.mp ha with z | z
      · exact o.fF a (List.mem_append_left _ (hF a z))
      · exact o.fF a (List.mem_append_right _ z)
    · rcases List.mem_append.mp ha with z | z
      · rcases hS a z with q | ⟨q, _⟩
        · exact o.fS a (List.mem_append_left _ q)
        · rcases o.fF a (List.mem_append_left _ q) with y | y
          · exact .inl y
          · exact .inr (.inr y)
      · exact o.fS a (List.mem_append_right _ z)
theorem W.shr {v : V} {d : D} (w : W K B H ((v, d) :: R)) : W K B H ((v, d.shr) :: R) := w.headW fun F S r n => by
  obtain ⟨S', r', q⟩ := r.shrd
  exact ⟨[], S', r', (fun _ z => nomatch z), List.nodup_nil, fun a ha => (q a ha).elim (fun z => .inr ⟨z, (fun y => nomatch y)⟩) .inl⟩
theorem W.dup {v : V} {d : D} (w : W K B H ((v, d) :: R)) (u : d.un = true) : W K B H ((v, d) :: (v, d) :: R) := by
  obtain ⟨F, S, h, o⟩ := w
  cases h with
  | cons r t =>
    have e := r.un u
    subst e
    refine ⟨_, _, .cons r (.cons r t), ?_⟩
    exact o.less (fun a h => h) o.nd fun a h => by
      rcases List.mem_append.mp h with z | z
      · exact List.mem_append_left _ z
      · exact z
theorem W.add {v : V} {d : D} (w : W K B H R) (r : Rep K H v d [] []) : W K B H ((v, d) :: R) := by
  obtain ⟨F, S, h, o⟩ := w
  exact ⟨_, _, .cons (F := []) (S := []) r h, o⟩
theorem W.int (w : W K B H R) (i : Int) : W K B H ((.int i, .int i) :: R) := w.add (.int i)
theorem W.bl (w : W K B H R) (b : Bool) : W K B H ((.bl b, .bl b) :: R) := w.add (.bl b)
/-- a new tuple of the first ones -/
theorem Reps.app : ∀ {ds : List D} {vs : List V} {F S : List Addr} {ds' : List D} {vs' : List V} {F' S' : List Addr}, Reps K H vs ds F S → Reps K H vs' ds' F' S' → Reps K H (vs ++ vs') (ds ++ ds') (F ++ F') (S ++ S')
  | [], _, _, _, _, _, _, _, h, h' => by cases h; exact h'
  | _ :: _, _, _, _, _, _, _, _, h, h' => by
    cases h with
    | cons r t =>
      have q := Reps.cons r (t.app h')
      simpa [List.append_assoc] using q
theorem Reps.unapp : ∀ {ds : List D} {vs : List V} {ds' : List D} {vs' : List V} {F S : List Addr}, Reps K H (vs ++ vs') (ds ++ ds') F S → vs.length = ds.length → ∃ F1 S1 F2 S2, Reps K H vs ds F1 S1 ∧ Reps K H vs' ds' F2 S2 ∧ F = F1 ++ F2 ∧ S = S1 ++ S2
  | [], [], _, _, F, S, h, _ => ⟨[], [], F, S, .nil, h, rfl, rfl⟩
  | [], _ :: _, _, _, _, _, _, e => by simp at e
  | _ :: _, [], _, _, _, _, _, e => by simp at e
  | _ :: _, _ :: _, _, _, _, _, h, e => by
    cases h with
    | cons r t =>
      obtain ⟨F1, S1, F2, S2, a, b, c, d⟩ := t.unapp (by simpa using e)
      exact ⟨_, _, F2, S2, .cons r a, b, by rw [c, List.append_assoc], by rw [d, List.append_assoc]⟩
theorem Same.new {p : Addr} {o : HO} (h : H p = none) : Same H (upd H p o) := fun b u e => by rw [upd_ne (ne_of_none e h)]; exact e
theorem Okk.fresh {p : Addr} (o : Okk B H F S) (h : H p = none) (nF : ∀ a ∈ F, IsLst H a) : p ∉ F := fun z => by
  obtain ⟨xs, e, _⟩ := nF p z
  rw [h] at e; cases e
/-- nothing of what was there ahead of the def is new -/
theorem Okk.old {p : Addr} (o : Okk B H F S) (h : H p = none) : B.H0 p = none ∨ p ∈ B.F0 := by
  cases e : B.H0 p with
  | none => exact .inl rfl
  | some u =>
    refine .inr ?_
    by_cases z : p ∈ B.F0
    · exact z
    · have q := o.kp p u e z
      rw [h] at q; cases q
theorem Okk.newT {p : Addr} {vs : List V} (o : Okk B H F S) (h : H p = none) (z : vs.length ≤ sizeLine) : Okk B (upd H p (.tup vs)) F S :=
  ⟨o.nd, o.dj, o.fF, o.fS, fun b u e n => Same.new h b u (o.kp b u e n), o.sz.tup z⟩
theorem W.tupV {vs : List V} {ds : List D} {p : Addr} (w : W K B H ((vs.zip ds) ++ R)) (l : vs.length = ds.length) (h : H p = none) (z : vs.length ≤ sizeLine) : W K B (upd H p (.tup vs)) ((.ref p, .tup ds) :: R) := by
  obtain ⟨F, S, r, o⟩ := w
  unfold Rs at r
  rw [List.map_append, List.map_append, List.map_fst_zip (by omega), List.map_snd_zip (by omega)] at r
  obtain ⟨F1, S1, F2, S2, a, b, c, d⟩ := r.unapp l
  have k := Same.new (o := .tup vs) h
  refine ⟨_, _, .cons (.tup (Rd.of upd_same) (a.same k)) (Reps.same k b), ?_⟩
  rw [← c, ← d]
  exact o.newT h z
theorem Okk.newL {p : Addr} {vs : List V} (o : Okk B H F S) (h : H p = none) (nF : ∀ a ∈ F, IsLst H a) (nS : p ∉ S) (z : vs.length ≤ sizeLine) : Okk B (upd H p (.lst vs)) (p :: F) S :=
  ⟨List.nodup_cons.mpr ⟨o.fresh h nF, o.nd⟩, fun a ha hs => by
      rcases List.mem_cons.mp ha with rfl | ha
      · exact nS hs
      · exact o.dj a ha hs, fun a ha => by
      rcases List.mem_cons.mp ha with rfl | ha
      · exact (o.old h).symm
      · exact o.fF a ha, o.fS, fun b u e n => Same.new h b u (o.kp b u e n), o.sz.lst z⟩
/-- a new list of the first ones -/
theorem W.lstV {vs : List V} {ds : List D} {p : Addr} (w : W K B H ((vs.zip ds) ++ R)) (l : vs.length = ds.length) (h : H p = none) (z : vs.length ≤ sizeLine) : W K B (upd H p (.lst vs)) ((.ref p, .lst true ds) :: R) := by
  obtain ⟨F, S, r, o⟩ := w
  have r0 := r
  unfold Rs at r
  rw [List.map_append, List.map_append, List.map_fst_zip (by omega), List.map_snd_zip (by omega)] at r
  obtain ⟨F1, S1, F2, S2, a, b, c, d⟩ := r.unapp l
  have k := Same.new (o := .lst vs) h
  refine ⟨_, _, .cons (.own upd_same (a.same k)) (Reps.same k b), ?_⟩
  have e : p :: F1 ++ F2 = p :: F := by rw [c]; rfl
  rw [e, ← d]
  exact o.newL h r0.lstF (fun y => r0.thereS p y h) z
end
end Sr
set_option Elab.async false
set_option linter.all false
set_option maxRecDepth 100000
/-! # Sr: the text that stands for a term; readings -/
namespace Sr
open PySem PySem.Spec PyProof.Rows L2

/-! ### slots -/
def er : List (Option V) → Env → List Rt
  | some v :: σ, some d :: e => (v, d) :: er σ e
  | _ :: σ, _ :: e => er σ e
  | _, _ => []
theorem at_iff {e : Env} {i : Nat} {d : D} : e.at i = some d ↔ e[i]? = some (some d) := by
  unfold Env.at
  cases h : e[i]? with
  | none => simp
  | some o => simp
theorem er_none : ∀ {σ : List (Option V)} {e : Env} {i : Nat} {x : Option V}, er (σ.set i x) (e.set i none) = er σ (e.set i none)
  | [], _, _, _ => by simp
  | _ :: _, [], _, _ => by simp [er]
  | a :: σ, b :: e, 0, x => by cases a <;> cases x <;> rfl
  | a :: σ, b :: e, i + 1, x => by
    have ih := er_none (σ := σ) (e := e) (i := i) (x := x)
    cases a <;> cases b <;> simp only [List.set_cons_succ, er, ih]
theorem er_take : ∀ {σ : List (Option V)} {e : Env} {i : Nat} {v : V} {d : D}, σ[i]? = some (some v) → e[i]? = some (some d) → (er σ e).Perm ((v, d) :: er σ (e.set i none))
  | [], _, _, _, _, h, _ => by simp at h
  | _ :: _, [], _, _, _, _, h => by simp at h
  | a :: σ, b :: e, 0, v, d, h1, h2 => by
    simp at h1 h2; subst h1; subst h2
    exact .refl _
  | a :: σ, b :: e, i + 1, v, d, h1, h2 => by
    have ih := er_take (σ := σ) (e := e) (i := i) (by simpa using h1) (by simpa using h2)
    cases a with
    | none => exact ih
    | some u =>
      cases b with
      | none => exact ih
      | some c => exact (ih.cons _).trans (.swap _ _ _)
theorem set_back {e : Env} {i : Nat} {d : D} (h : e[i]? = some none) : (e.set i (some d)).set i none = e := by
  rw [List.set_set]
  apply List.ext_getElem?
  intro j
  by_cases hj : i = j
  · subst hj
    obtain ⟨hl, _⟩ := List.getElem?_eq_some_iff.mp h
    rw [List.getElem?_set_self hl, h]
  · rw [List.getElem?_set_ne hj]

def Fit (σ : List (Option V)) (e : Env) : Prop := σ.length = e.length ∧ ∀ (i : Nat) (d : D), e[i]? = some (some d) → ∃ v, σ[i]? = some (some v)
structure Wd (K : PySem.W.Frag) (B : Bs) (σ : L2.St) (e : Env) (Γ : List Rt) (H : Hp) : Prop where
  fit : Fit σ e
  pr : ∀ p ∈ B.pr, σ[p.1]? = some (some p.2)
  w : W K B H (Γ ++ er σ e)
section
variable {K : PySem.W.Frag} {B : Bs} {σ : L2.St} {e : Env} {Γ Γ' : List Rt} {H H' : Hp}
theorem Fit.none (f : Fit σ e) (i : Nat) : Fit σ (e.set i none) := ⟨by rw [List.length_set]; exact f.1, fun j d h => by
  by_cases hj : i = j
  · subst hj
    by_cases hl : i < e.length
    · rw [List.getElem?_set_self hl] at h; cases h
    · rw [List.getElem?_eq_none (by rw [List.length_set]; omega)] at h; cases h
  · rw [List.getElem?_set_ne hj] at h; exact f.2 j d h⟩
theorem Fit.put {i : Nat} {v : V} {d : D} (f : Fit σ e) (h : σ[i]? = some (some v)) : Fit σ (e.set i (some d)) := ⟨by rw [List.length_set]; exact f.1, fun j d' h' => by
  by_cases hj : i = j
  · subst hj; exact ⟨v, h⟩
  · rw [List.getElem?_set_ne hj] at h'; exact f.2 j d' h'⟩
theorem Fit.asg {i : Nat} {v : V} {d : D} (f : Fit σ e) (hi : i < σ.length) : Fit (σ.set i (some v)) (e.set i (some d)) := ⟨by rw [List.length_set, List.length_set]; exact f.1, fun j d' h' => by
  by_cases hj : i = j
  · subst hj; exact ⟨v, List.getElem?_set_self hi⟩
  · rw [List.getElem?_set_ne hj] at h'
    rw [List.getElem?_set_ne hj]; exact f.2 j d' h'⟩
theorem Wd.read {i : Nat} {d : D} (w : Wd K B σ e Γ H) (h : e.at i = some d) : ∃ v, σ[i]? = some (some v) ∧ W K B H ((v, d) :: (Γ ++ er σ (e.set i none))) := by
  have h' := at_iff.mp h
  obtain ⟨v, hv⟩ := w.fit.2 i d h'
  exact ⟨v, hv, w.w.perm (((er_take hv h').append_left Γ).trans List.perm_middle)⟩
theorem Wd.move {i : Nat} {d : D} {v : V} (w : Wd K B σ e Γ H) (h : e.at i = some d) (hv : σ[i]? = some (some v)) : Wd K B σ (e.set i none) ((v, d) :: Γ) H := by
  have h' := at_iff.mp h
  exact ⟨w.fit.none i, w.pr, w.w.perm (((er_take hv h').append_left Γ).trans List.perm_middle)⟩
/-- what was taken out of a slot is put back -/
theorem Wd.put {i : Nat} {d : D} {v : V} (w : Wd K B σ e ((v, d) :: Γ) H) (h : e[i]? = some none) (hv : σ[i]? = some (some v)) : Wd K B σ (e.set i (some d)) Γ H := by
  refine ⟨w.fit.put hv, w.pr, w.w.perm ?_⟩
  have hl : i < e.length := (List.getElem?_eq_some_iff.mp h).1
  have q := er_take (e := e.set i (some d)) (d := d) hv (List.getElem?_set_self hl)
  rw [set_back h] at q
  exact (List.perm_middle.symm.trans (q.symm.append_left Γ))
theorem Wd.copy {i : Nat} {d : D} {v : V} (w : Wd K B σ e Γ H) (h : e.at i = some d) (hv : σ[i]? = some (some v)) (u : d.un = true) : Wd K B σ e ((v, d) :: Γ) H := by
  have h' := at_iff.mp h
  have m := w.move h hv
  have p := er_take hv h'
  refine ⟨w.fit, w.pr, ?_⟩
  have q : W K B H ((v, d) :: (v, d) :: (Γ ++ er σ (e.set i none))) := W.dup m.w u
  exact q.perm ((List.perm_middle.symm.trans (p.symm.append_left Γ)).cons _)
theorem Wd.asg {i : Nat} {d : D} {v : V} (w : Wd K B σ e ((v, d) :: Γ) H) (hi : i < σ.length) (hp : ∀ p ∈ B.pr, p.1 ≠ i) : Wd K B (σ.set i (some v)) (e.set i (some d)) Γ H := by
  have hl : i < e.length := by rw [← w.fit.1]; exact hi
  have w1 : Wd K B σ (e.set i none) ((v, d) :: Γ) H := by
    refine ⟨w.fit.none i, w.pr, ?_⟩
    have hw := w.w
    cases h : e[i]? with
    | none => rw [List.getElem?_eq_none_iff] at h; omega
    | some o =>
      cases o with
      | none =>
        have : e.set i none = e := by
          apply List.ext_getElem?
          intro j
          by_cases hj : i = j
          · subst hj; rw [List.getElem?_set_self hl, h]
          · rw [List.getElem?_set_ne hj]
        rw [this]; exact hw
      | some d' =>
        obtain ⟨v', hv'⟩ := w.fit.2 i d' h
        have q := hw.perm (((er_take hv' h).append_left _).trans List.perm_middle)
        exact q.drop
  have w2 : Wd K B (σ.set i (some v)) (e.set i none) ((v, d) :: Γ) H := by
    refine ⟨⟨by rw [List.length_set]; exact w1.fit.1, fun j d' h' => ?_⟩, fun p hp' => ?_, by rw [er_none]; exact w1.w⟩
    · by_cases hj : i = j
      · subst hj; exact ⟨v, List.getElem?_set_self hi⟩
      · rw [List.getElem?_set_ne hj]; exact w1.fit.2 j d' h'
    · rw [List.getElem?_set_ne (Ne.symm (hp p hp'))]; exact w.pr p hp'
  have q := w2.put (i := i) (by rw [List.getElem?_set_self hl]) (List.getElem?_set_self hi)
  rw [List.set_set] at q
  exact q
theorem Wd.kill1 (w : Wd K B σ e Γ H) (i : Nat) : Wd K B σ (e.set i none) Γ H := by
  cases h : e.at i with
  | none =>
    have : e.set i none = e := by
      apply List.ext_getElem?
      intro j
      by_cases hj : i = j
      · subst hj
        by_cases hl : i < e.length
        · rw [List.getElem?_set_self hl]
          unfold Env.at at h
          cases q : e[i]? with
          | none => rw [List.getElem?_eq_none_iff] at q; omega
          | some o => rw [q] at h; simp at h; rw [h]
        · rw [List.getElem?_eq_none (by rw [List.length_set]; omega), List.getElem?_eq_none (by omega)]
      · rw [List.getElem?_set_ne hj]
    rw [this]; exact w
  | some d =>
    obtain ⟨v, hv⟩ := w.fit.2 i d (at_iff.mp h)
    have m := w.move h hv
    exact ⟨m.fit, m.pr, m.w.drop⟩
theorem Wd.kill (w : Wd K B σ e Γ H) (ks : List Nat) : Wd K B σ (Sr.kill ks e) Γ H := by
  induction ks generalizing e with
  | nil => exact w
  | cons i r ih => exact ih (w.kill1 i)
theorem Wd.drop {x : Rt} (w : Wd K B σ e (x :: Γ) H) : Wd K B σ e Γ H := ⟨w.fit, w.pr, w.w.drop⟩
theorem Wd.shr {v : V} {d : D} (w : Wd K B σ e ((v, d) :: Γ) H) : Wd K B σ e ((v, d.shr) :: Γ) H := ⟨w.fit, w.pr, w.w.shr⟩
theorem Wd.swap {x y : Rt} (w : Wd K B σ e (x :: y :: Γ) H) : Wd K B σ e (y :: x :: Γ) H := ⟨w.fit, w.pr, w.w.perm (.swap _ _ _)⟩
theorem Wd.int (w : Wd K B σ e Γ H) (i : Int) : Wd K B σ e ((.int i, .int i) :: Γ) H := ⟨w.fit, w.pr, w.w.int i⟩
theorem Wd.bl (w : Wd K B σ e Γ H) (b : Bool) : Wd K B σ e ((.bl b, .bl b) :: Γ) H := ⟨w.fit, w.pr, w.w.bl b⟩
theorem Wd.head {v : V} {d : D} (w : Wd K B σ e ((v, d) :: Γ) H) : ∃ F S, Rep K H v d F S := by
  obtain ⟨F, S, r, _⟩ := w.w
  cases r with | cons r _ => exact ⟨_, _, r⟩
theorem Wd.headInt {v : V} {i : Int} (w : Wd K B σ e ((v, .int i) :: Γ) H) : v = .int i := by
  obtain ⟨F, S, r⟩ := w.head; cases r; rfl
theorem Wd.headBl {v : V} {b : Bool} (w : Wd K B σ e ((v, .bl b) :: Γ) H) : v = .bl b := by
  obtain ⟨F, S, r⟩ := w.head; cases r; rfl
end

/-! ### the text of a term -/
/-- the names of a def; the functions' names -/
structure Nm where
  N : List Str
  fn : Nat → Str
  nf : Nat → Bool
  /-- the classes that are let out; those that are asked for -/
  xr : Nat → Bool
  xc : Nat → Bool
  /-- the classes; which function is a method of which, which is its __init__ -/
  kc : Nat → Bool
  mf : Nat → Nat → Bool
  kf : Nat → Nat → Bool
def visB (sc : Scope) (x : Str) : Bool := match sc.names.lookup x with
  | some .local => true
  | some .cell => true
  | some .free => true
  | _ => false
def glB (sc : Scope) (x : Str) : Bool := match sc.names.lookup x with
  | some .globalImplicit => true
  | _ => false
def bop : Bop → Operator → Bool
  | .add, .Add => true
  | .sub, .Sub => true
  | .mul, .Mult => true
  | .fdv, .FloorDiv => true
  | .mod, .Mod => true
  | .pow, .Pow => true
  | _, _ => false
def cop : Cop → CmpOp → Bool
  | .lt, .Lt => true
  | .le, .LtE => true
  | .gt, .Gt => true
  | .ge, .GtE => true
  | _, _ => false
def b1name : B1 → String
  | .len => "len"
  | .abs => "abs"
  | .int => "int"
  | .list => "list"
  | .tuple => "tuple"
  | .sum => "sum"
  | .minL => "min"
  | .maxL => "max"
  | .isInt => "isinstance"
  | .isBool => "isinstance"
  | .isList => "isinstance"
  | .isTuple => "isinstance"
  | .isStr => "isinstance"
  | .sorted => "sorted"
  | .sortP => "sorted"
  | .minD => "min"
  | .maxD => "max"
/-- with default=None -/
def isDf : B1 → Bool
  | .minD => true
  | .maxD => true
  | _ => false
def b1ty : B1 → Option String
  | .isInt => some "int"
  | .isBool => some "bool"
  | .isList => some "list"
  | .isTuple => some "tuple"
  | .isStr => some "str"
  | _ => none
def bnname : BN → String
  | .min2 => "min"
  | .max2 => "max"
  | .max3 => "max"
/-- the name of a built-in stands there -/
def bltB (sc : Scope) (s : String) (x : Str) : Bool := decide (x = Str.ofString s) && glB sc x
def nameB (n : Nm) (sc : Scope) (i : Nat) (x : Str) : Bool := decide (n.N[i]? = some x) && visB sc x && !(x == ("__debug__" : Str)) && !(x == ("__classdict__" : Str))
/-- a name that is stored -/
def locB (sc : Scope) (x : Str) : Bool := match sc.names.lookup x with
  | some .local => true
  | some .cell => true
  | _ => false
def tgB (n : Nm) (sc : Scope) : List Nat → Expr → Bool
  | [i], .Name x _ => decide (n.N[i]? = some x) && locB sc x
  | [i, j], .Tuple [.Name x _, .Name y _] _ _ => decide (n.N[i]? = some x) && locB sc x && decide (n.N[j]? = some y) && locB sc y
  | [i, j, k], .Tuple [.Name x _, .Name y _, .Name z _] _ _ => decide (n.N[i]? = some x) && locB sc x && decide (n.N[j]? = some y) && locB sc y && decide (n.N[k]? = some z) && locB sc z
  | _, _ => false
/-- the names of the targets, with their slots -/
def ownOf (n : Nm) (tg : List Nat) : List (Str × Nat) := tg.filterMap fun i => (n.N[i]?).map fun x => (x, i)
/-- a call of a name without keywords -/
def asCall : Expr → Option (Str × List Expr)
  | .Call (.Name x _) es [] _ => some (x, es)
  | _ => none
theorem asCall_of {e : Expr} {x : Str} {es : List Expr} (h : asCall e = some (x, es)) : ∃ p pos, e = .Call (.Name x p) es [] pos := by
  unfold asCall at h
  split at h
  · cases h; exact ⟨_, _, rfl⟩
  · cases h
def asInt : Expr → Option Int
  | .Constant (.int i) _ _ => some i
  | _ => none
theorem asInt_of {e : Expr} {i : Int} (h : asInt e = some i) : ∃ k p, e = .Constant (.int i) k p := by
  unfold asInt at h
  split at h
  · cases h; exact ⟨_, _, rfl⟩
  · cases h
def okTg : T → List Nat → Bool
  | .zip _ _, tg => decide (tg.length = 2)
  | _, _ => true
def isOp : Bool → CmpOp → Bool
  | false, .Is => true
  | true, .IsNot => true
  | _, _ => false
def inOp : Bool → CmpOp → Bool
  | false, .In => true
  | true, .NotIn => true
  | _, _ => false
/-- what may be lent -/
def okLend : T → Bool
  | .lc .. => true
  | .call .. => true
  | .b1 .. => true
  | _ => false
mutual
def chkE (n : Nm) : Scope → T → Expr → Bool
  | sc, .v i, .Name x _ => nameB n sc i x
  | sc, .w i, .Name x _ => nameB n sc i x
  | _, .non, .Constant .none _ _ => true
  | _, .bl b, .Constant (.bool c) _ _ => b == c
  | _, .int i, .Constant (.int j) _ _ => decide (i = j)
  | _, .str x, .Constant (.str y) _ _ => decide (x = y)
  | sc, .frz a, e => chkE n sc a e
  | sc, .lend a, e => okLend a && chkE n sc a e
  | sc, .bin o a b, .BinOp e p f _ => bop o p && chkE n sc a e && chkE n sc b f
  | sc, .neg a, .UnaryOp .USub e _ => chkE n sc a e
  | sc, .cmp o a b, .Compare e [p] [f] _ => cop o p && chkE n sc a e && chkE n sc b f
  | sc, .eq a b, .Compare e [.Eq] [f] _ => chkE n sc a e && chkE n sc b f
  | sc, .ne a b, .Compare e [.NotEq] [f] _ => chkE n sc a e && chkE n sc b f
  | sc, .inn a b, .Compare e [.In] [f] _ => !behindInMarks .In f && chkE n sc a e && chkE n sc b f
  | sc, .nin a b, .Compare e [.NotIn] [f] _ => !behindInMarks .NotIn f && chkE n sc a e && chkE n sc b f
  | sc, .isN a, .Compare e [.Is] [.Constant .none _ _] _ => chkE n sc a e
  | sc, .nisN a, .Compare e [.IsNot] [.Constant .none _ _] _ => chkE n sc a e
  | sc, .chain o o' a b c, .Compare e [p, q] [f, g] _ => cop o p && cop o' q && chkE n sc a e && chkE n sc b f && chkE n sc c g
  | sc, .and a b, .BoolOp .And (e :: f :: r) pos => chkE n sc a e && (match r with
    | [] => chkE n sc b f
    | _ => chkE n sc b (.BoolOp .And (f :: r) pos))
  | sc, .or a b, .BoolOp .Or (e :: f :: r) pos => chkE n sc a e && (match r with
    | [] => chkE n sc b f
    | _ => chkE n sc b (.BoolOp .Or (f :: r) pos))
  | sc, .not a, .UnaryOp .Not e _ => chkE n sc a e
  | sc, .ife c a b, .IfExp g e f _ => chkE n sc c g && chkE n sc a e && chkE n sc b f
  | sc, .tup a, .Tuple es _ _ => chkL n sc a es
  | sc, .lst a, .List es _ => chkL n sc a es
  | sc, .ix a b, .Subscript e f _ => chkE n sc a e && chkE n sc b f
  | sc, .sl a lo hi, .Subscript e (.Slice l h none _) _ => chkE n sc a e && (match l with
    | none => (match lo with | .nil => true | _ => false)
    | some f => chkE n sc lo f) && (match h with
    | none => (match hi with | .nil => true | _ => false)
    | some f => chkE n sc hi f)
  | sc, .fld c i f, .Attribute (.Name x _) g _ => decide (f = g) && (cfl c).contains f && n.kc c && nameB n sc i x
  | sc, .fldv c i f, .Attribute (.Name x _) g _ => decide (f = g) && (cfl c).contains f && n.kc c && nameB n sc i x
  | sc, .mcl c f i a, .Call (.Attribute (.Name x _) m apos) es [] cpos => decide (m = n.fn f) && (apos.endLine == cpos.line) && decide (es.length < 30) && n.mf f c && nameB n sc i x && chkL n sc a es
  | sc, .mk c f a, .Call (.Name x _) es [] _ => decide (x = cnm c) && n.kf c f && glB sc x && !(x == ("__debug__" : Str)) && chkL n sc a es
  | sc, .cfl c i fl f a, .Call (.Name x _) es [] _ => decide (x = n.fn f) && n.nf f && glB sc x && !(x == ("__debug__" : Str)) && n.kc c && chkL n sc a es
  | sc, .isT g b a, .Compare e [p] [.Constant (.bool c) _ _] _ => isOp g p && (b == c) && chkE n sc a e
  | _, .dnew, .Dict [] [] _ => true
  | sc, .din g a p, .Compare e [q] [f] _ => inOp g q && !behindInMarks q f && isP a && isP p && chkE n sc a e && chkE n sc p f
  | sc, .dix p a, .Subscript e f _ => isP a && isP p && chkE n sc p e && chkE n sc a f
  | sc, .fldw c i f, .Attribute (.Name x _) g _ => decide (f = g) && (cfl c).contains f && n.kc c && nameB n sc i x
  | sc, .pop p, .Call (.Attribute o m apos) [] [] cpos => decide (m = ("pop" : Str)) && (apos.endLine == cpos.line) && isPl p && chkE n sc p o
  | sc, .call f a, .Call (.Name x _) es [] _ => decide (x = n.fn f) && n.nf f && glB sc x && !(x == ("__debug__" : Str)) && chkL n sc a es
  | sc, .b1 k a, .Call (.Name x _) es [] _ => !isDf k && bltB sc (b1name k) x && (match b1ty k, es with
    | none, [e] => chkE n sc a e
    | some s, [e, .Name y _] => bltB sc s y && chkE n sc a e
    | _, _ => false)
  | sc, .b1 k a, .Call (.Name x _) [e] [⟨some nm, .Constant .none _ _, _⟩] _ => isDf k && decide (nm = ("default" : Str)) && bltB sc (b1name k) x && chkE n sc a e
  | sc, .lrev a, .Call (.Name x _) [.Call (.Name y _) [e] [] _] [] _ => bltB sc "list" x && bltB sc "reversed" y && chkE n sc a e
  | sc, .lrg a b, .Call (.Name x _) [.Call (.Name y _) [e, f] [] _] [] _ => bltB sc "list" x && bltB sc "range" y && chkE n sc a e && chkE n sc b f
  | sc, .bn k a, .Call (.Name x _) es [] _ => bltB sc (bnname k) x && chkL n sc a es
  | sc, .lc tg it c el, .ListComp e [⟨g, i, fs, as⟩] scope _ => decide (as = 0) && chkI n sc it i && tgB n scope tg g && okTg it tg && blkC n.N sc scope (ownOf n tg) && (match fs with
      | [] => (match c with | .bl true => true | _ => false)
      | [f] => chkE n (relS scope sc) c f
      | _ => false) && chkE n (relS scope sc) el e
  | _, _, _ => false
def chkL (n : Nm) : Scope → T → List Expr → Bool
  | _, .nil, [] => true
  | sc, .cons a r, e :: es => chkE n sc a e && chkL n sc r es
  | _, _, _ => false
def chkI (n : Nm) : Scope → T → Expr → Bool
  | sc, .rng1 a, e => match asCall e with
    | some (x, [y]) => bltB sc "range" x && chkE n sc a y
    | _ => false
  | sc, .rng2 a b, e => match asCall e with
    | some (x, [y, z]) => bltB sc "range" x && chkE n sc a y && chkE n sc b z
    | _ => false
  | sc, .rng3 a b c, e => match asCall e with
    | some (x, [y, z, u]) => bltB sc "range" x && chkE n sc a y && chkE n sc b z && decide (asInt u = some c)
    | _ => false
  | sc, .zip a b, e => match asCall e with
    | some (x, [y, z]) => bltB sc "zip" x && chkE n sc a y && chkE n sc b z
    | _ => false
  | sc, .itr a, e => chkE n sc a e
  | _, _, _ => false
end
end Sr
set_option Elab.async false
set_option linter.all false
set_option maxRecDepth 100000
set_option maxHeartbeats 1000000
/-! # Sr: what is read without a change -/
namespace Sr
open PySem PySem.Spec PyProof.Rows L2

/-! ### shapes -/
def plE : Expr → Bool
  | .Starred .. => false
  | .Slice .. => false
  | .Set .. => false
  | _ => true
section
variable {n : Nm}
theorem chk_star {a p} : ∀ {t sc}, chkE n sc t (.Starred a p) = false := by
  intro t
  induction t with
  | frz a ih => intro sc; rw [chkE]; exact ih
  | lend a ih => intro sc; rw [chkE, ih, Bool.and_false]
  | _ => intro sc; first | rfl | (rw [chkE]; done) | simp [chkE]
theorem chk_slice {a b c p} : ∀ {t sc}, chkE n sc t (.Slice a b c p) = false := by
  intro t
  induction t with
  | frz a ih => intro sc; rw [chkE]; exact ih
  | lend a ih => intro sc; rw [chkE, ih, Bool.and_false]
  | _ => intro sc; first | rfl | (rw [chkE]; done) | simp [chkE]
theorem chk_set {a b p} : ∀ {t sc}, chkE n sc t (.Set a b p) = false := by
  intro t
  induction t with
  | frz a ih => intro sc; rw [chkE]; exact ih
  | lend a ih => intro sc; rw [chkE, ih, Bool.and_false]
  | _ => intro sc; first | rfl | (rw [chkE]; done) | simp [chkE]
theorem chk_pl {t sc e} (h : chkE n sc t e = true) : plE e = true := by
  cases e <;> first | rfl | (rw [chk_star] at h; cases h) | (rw [chk_slice] at h; cases h) | (rw [chk_set] at h; cases h)
end
theorem star_pl {e : Expr} {es : List Expr} {env : PySem.Env} (h : plE e = true) : starEach (e :: es) env = (false, eval e env) :: starEach es env := by
  cases e <;> first | rfl | cases h
theorem plainIx_pl {e : Expr} (h : plE e = true) : PlainIx e := by
  intro o i
  cases e <;> first | rfl | cases h
theorem chk_b1 {n : Nm} {c : B1} {a : T} {sc : Scope} {e : Expr} (h : chkE n sc (.b1 c a) e = true) : (∃ x xp es pos, e = .Call (.Name x xp) es [] pos ∧ isDf c = false ∧ bltB sc (b1name c) x = true ∧ ((b1ty c = none ∧ ∃ y, es = [y] ∧ chkE n sc a y = true) ∨ ∃ ty y z zp, b1ty c = some ty ∧ es = [y, .Name z zp] ∧ bltB sc ty z = true ∧ chkE n sc a y = true)) ∨ ∃ x xp y kk p kp pos, e = .Call (.Name x xp) [y] [⟨some ("default" : Str), .Constant .none kk p, kp⟩] pos ∧ isDf c = true ∧ bltB sc (b1name c) x = true ∧ chkE n sc a y = true := by
  cases e <;> try (simp [chkE] at h; done)
  rename_i g es kw pos
  cases g <;> try (simp [chkE] at h; done)
  unfold chkE at h
  split at h <;> try (simp_all; done)
  · rename_i heq1 heq2
    cases heq1
    cases heq2
    simp only [Bool.and_eq_true, Bool.not_eq_true'] at h
    obtain ⟨⟨h0, h1⟩, h2⟩ := h
    refine .inl ⟨_, _, _, _, rfl, h0, h1, ?_⟩
    split at h2
    · rename_i y hc
      exact .inl ⟨hc, y, rfl, h2⟩
    · rename_i ty y z zp hc
      simp only [Bool.and_eq_true] at h2
      exact .inr ⟨ty, y, z, zp, hc, rfl, h2.1, h2.2⟩
    · cases h2
  · rename_i heq1 heq2
    cases heq1
    cases heq2
    simp only [Bool.and_eq_true, decide_eq_true_eq] at h
    obtain ⟨⟨⟨h0, rfl⟩, h1⟩, h2⟩ := h
    exact .inr ⟨_, _, _, _, _, _, _, rfl, h0, h1, h2⟩
/-! ### where a def's body stands -/
def bltNames : List Str := ["len", "abs", "int", "list", "tuple", "sum", "min", "max", "isinstance", "sorted", "range", "zip", "bool", "str", "reversed"]
/-- the promise of a function -/
def spOf (K : PySem.W.Frag) (Φ : Fs) (f : Nat) : Sp := fun vs H Q _ => ∃ (ds : List D) (r : D) (os : List (Option D)) (F S : List Addr),
  vs.length = (Φ.io f).length ∧ Reps K H vs ds F S ∧ Okk ⟨H, F, S, []⟩ H F S ∧ Φ.run f ds = some (r, os) ∧
  ∀ v H', W K ⟨H, F, S, []⟩ H' ((v, r) :: er (vs.map some) os) → Q v H'
/-- .. that may let something out -/
def spOfX (K : PySem.W.Frag) (mg : Str → Option Value) (xr : Nat → Bool) (Φ : Fs) (f : Nat) : Sp := fun vs H Q E => spOf K Φ f vs H Q E ∨ ∃ (ds : List D) (c : Nat) (F S : List Addr),
  vs.length = (Φ.io f).length ∧ Reps K H vs ds F S ∧ Okk ⟨H, F, S, []⟩ H F S ∧ Φ.exc f ds = some c ∧ ∀ C H', xr c = true → mg (xnm c) = some C → W K ⟨H, F, S, []⟩ H' [] → E C none H'
structure OkX (Φ : Fs) (k : Nat) (n : Nm) (X : Cx) (sc : Scope) : Prop where
  N : X.N = n.N
  nd : X.N.Nodup
  sc : X.env.scope = sc
  calm : X.calm = true
  own : PassesOwn (model X.prog X.w) X.A X.env X.xe
  lv1 : Room (k + 1) X.A
  lv : Room k X.A
  lv0 : Room 0 X.A
  bt : ∀ x ∈ bltNames, X.mg x = none
  fns : ∀ f, n.nf f = true → ∃ A fd ps, X.mg (n.fn f) = some (.ref A) ∧ PySem.W.keepIn X.K (.ref A) = true ∧ Binds X.K fd ps [] ∧ FnOk X.prog X.w X.K X.mg X.base CX0 k A fd ps (spOf X.K Φ f)
  fx : ∀ f, n.nf f = true → ∃ A fd ps, X.mg (n.fn f) = some (.ref A) ∧ PySem.W.keepIn X.K (.ref A) = true ∧ Binds X.K fd ps [] ∧ FnOk X.prog X.w X.K X.mg X.base (L2.CX X.prog X.w) k A fd ps (spOfX X.K X.mg n.xr Φ f)
  kc : ∀ c, n.kc c = true → ∃ C, PySem.W.nsIn X.K mainGlobals (cnm c) = some (some (.ref C)) ∧ InsTy X.K C ∧ ∀ f ∈ cfl c, NoAttr X.K C f
  mf : ∀ f c, n.mf f c = true → n.kc c = true ∧ n.fn f ∉ cfl c ∧ ∃ A fd ps C, PySem.W.nsIn X.K mainGlobals (cnm c) = some (some (.ref C)) ∧ Meth X.K C (n.fn f) A ∧ Binds X.K fd ps [] ∧ FnOk X.prog X.w X.K X.mg X.base CX0 k A fd ps (spOf X.K Φ f)
  kf : ∀ c f, n.kf c f = true → n.kc c = true ∧ ∃ A fd ps C, PySem.W.nsIn X.K mainGlobals (cnm c) = some (some (.ref C)) ∧ X.mg (cnm c) = some (.ref C) ∧ Mk X.K C A ∧ Binds X.K fd ps [] ∧ FnOk X.prog X.w X.K X.mg X.base CX0 k A fd ps (spOf X.K Φ f)

section
variable {Φ : Fs} {k : Nat} {n : Nm} {X : Cx} {sc : Scope}
theorem OkX.vis (O : OkX Φ k n X sc) {x : Str} (h : visB sc x = true) : Vis X.env.scope x := by
  rw [O.sc]
  unfold visB at h
  split at h
  · exact .inl (by assumption)
  · exact .inr (.inl (by assumption))
  · exact .inr (.inr (by assumption))
  · cases h
theorem OkX.gl (O : OkX Φ k n X sc) {x : Str} (h : glB sc x = true) : Gl X x := by
  show X.env.scope.names.lookup x = _
  rw [O.sc]
  unfold glB at h
  split at h
  · assumption
  · cases h
theorem nameB_iff {i : Nat} {x : Str} (h : nameB n sc i x = true) : n.N[i]? = some x ∧ visB sc x = true ∧ (x == ("__debug__" : Str)) = false ∧ (x == ("__classdict__" : Str)) = false := by
  unfold nameB at h
  simp only [Bool.and_eq_true, Bool.not_eq_true', decide_eq_true_eq] at h
  exact ⟨h.1.1.1, h.1.1.2, h.1.2, h.2⟩
theorem OkX.name (O : OkX Φ k n X sc) {i : Nat} {x : Str} {pos : Pos} (h : nameB n sc i x = true) : PE X (.Name x pos) (tVar i) := by
  obtain ⟨a, b, c, d⟩ := nameB_iff h
  exact pe_var (by rw [O.N]; exact a) (O.vis b) c d
theorem bltB_iff {s : String} {x : Str} (h : bltB sc s x = true) : x = Str.ofString s ∧ glB sc x = true := by
  unfold bltB at h
  simp only [Bool.and_eq_true, decide_eq_true_eq] at h
  exact h
theorem _root_.L2.PE.imp {e : Expr} {t t' : TE} (h : PE X e t) (i : ∀ σ H Q, t' σ H Q → t σ H Q) : PE X e t' := ⟨fun pins s σ H Q I q => h.run pins s σ H Q I (i σ H Q q)⟩
theorem _root_.L2.PT.imp {e : Expr} {t t' : TT} (h : PT X e t) (i : ∀ σ H Q, t' σ H Q → t σ H Q) : PT X e t' := ⟨fun pins s σ H Q I q => h.run pins s σ H Q I (i σ H Q q)⟩
theorem _root_.L2.PA.imp {e : List Expr} {t t' : TA} (h : PA X e t) (i : ∀ σ H Q, t' σ H Q → t σ H Q) : PA X e t' := ⟨fun p pins s σ H Q I q => h.run p pins s σ H Q I (i σ H Q q)⟩
theorem _root_.L2.PI.imp {tg e : Expr} {t t' : TI} (h : PI X tg e t) (i : ∀ σ H R, t' σ H R → t σ H R) : PI X tg e t' := ⟨fun pins s σ H R I q => h.run pins s σ H R I (i σ H R q)⟩
theorem _root_.L2.PS.imp {e : Stmt} {t t' : TS} (h : PS X e t) (i : ∀ D σ H, t' D σ H → t D σ H) : PS X e t' := ⟨fun pins s σ H D I q => h.run pins s σ H D I (i D σ H q)⟩
theorem _root_.L2.PSs.imp {e : List Stmt} {t t' : TS} (h : PSs X e t) (i : ∀ D σ H, t' D σ H → t D σ H) : PSs X e t' := ⟨fun pins s σ H D I q => h.run pins s σ H D I (i D σ H q)⟩
end

/-! ### the operators on ints -/
theorem op_fdv {X : Cx} : OpR X (binaryOp .FloorDiv) (rI (fun _ j => j ≠ 0 ∧ j.natAbs.log2 < 9000) fun i j => .int (i.fdiv j)) := opI fun i j _ _ _ _ _ hc q => floordiv_int hc.1 q (.inl (PyProof.noPylong_of_log2 hc.2))
theorem op_mulF {X : Cx} : OpR X (binaryOp .Mult) (rI (fun i j => IntMulOk i j) fun i j => .int (i * j)) := opI fun _ _ _ _ _ _ _ hc q => mul_int q hc
/-- the operator on two ints -/
def rBin (o : Bop) : R2 := fun x y H Q => ∃ i j r, x = .int i ∧ y = .int j ∧ binI o i j = some r ∧ Q (.int r) H
theorem op_bin {X : Cx} {o : Bop} {p : Operator} (h : bop o p = true) : OpR X (binaryOp p) (rBin o) := by
  intro pins s σ H x y v u Q I rx ry q
  obtain ⟨i, j, r, ex, ey, e, q⟩ := q
  cases o <;> cases p <;> first | cases h | skip
  · exact op_add pins s σ H x y v u Q I rx ry ⟨i, j, ex, ey, by cases e; exact q⟩
  · exact op_sub pins s σ H x y v u Q I rx ry ⟨i, j, ex, ey, by cases e; exact q⟩
  · simp only [binI] at e
    split at e
    · rename_i hm
      cases e
      exact op_mulF pins s σ H x y v u Q I rx ry ⟨i, j, ex, ey, hm, q⟩
    · cases e
  · simp only [binI] at e
    split at e
    · rename_i hm
      cases e
      exact op_fdv pins s σ H x y v u Q I rx ry ⟨i, j, ex, ey, hm, q⟩
    · cases e
  · simp only [binI] at e
    split at e
    · cases e
    · rename_i hm
      cases e
      exact op_modN pins s σ H x y v u Q I rx ry ⟨i, j, ex, ey, hm, q⟩
  · simp only [binI] at e
    split at e
    · rename_i hm
      cases e
      exact op_pow pins s σ H x y v u Q I rx ry ⟨i, j, ex, ey, hm, q⟩
    · cases e
def rCmp (o : Cop) : R2 := fun x y H Q => ∃ i j, x = .int i ∧ y = .int j ∧ Q (.bl (cmpI o i j)) H
theorem op_cmp {X : Cx} {o : Cop} {p : CmpOp} (h : cop o p = true) : OpR X (compareOp p) (rCmp o) := by
  intro pins s σ H x y v u Q I rx ry q
  obtain ⟨i, j, ex, ey, q⟩ := q
  cases o <;> cases p <;> first | cases h | skip
  · exact op_lt pins s σ H x y v u Q I rx ry ⟨i, j, ex, ey, q⟩
  · exact op_le pins s σ H x y v u Q I rx ry ⟨i, j, ex, ey, q⟩
  · exact op_gt pins s σ H x y v u Q I rx ry ⟨i, j, ex, ey, q⟩
  · exact op_ge pins s σ H x y v u Q I rx ry ⟨i, j, ex, ey, q⟩
theorem cop_mark {o : Cop} {p : CmpOp} (h : cop o p = true) (b : Expr) : behindInMarks p b = false := by
  cases o <;> cases p <;> first | exact absurd h (by decide) | exact nobehind b (by decide) (by decide)

/-! ### what is read without a change -/
/-- v stands for d, as a part of what there is -/
structure Brw (K : PySem.W.Frag) (B : Bs) (H : Hp) (R : List Rt) (v : V) (d : D) : Prop where
  ex : ∃ F S F1 S1, Rs K H R F S ∧ Okk B H F S ∧ Rep K H v d F1 S1 ∧ (∀ a ∈ F1, a ∈ F) ∧ (∀ a ∈ S1, a ∈ S) ∧ F1.Nodup
def tP (K : PySem.W.Frag) (t : T) : TE := fun σ H Q => ∃ B e Γ d, Wd K B σ e Γ H ∧ evP t e = some d ∧ ∀ v, Brw K B H (Γ ++ er σ e) v d → Q v H
section
variable {K : PySem.W.Frag} {B : Bs} {H : Hp} {R : List Rt} {v : V} {d : D}
theorem Brw.flat {v : V} {d : D} (w : W K B H R) (r : Rep K H v d [] []) : Brw K B H R v d := by
  obtain ⟨F, S, h, o⟩ := w
  exact ⟨F, S, [], [], h, o, r, (fun _ z => nomatch z), (fun _ z => nomatch z), List.nodup_nil⟩
theorem Brw.int {v : V} {i : Int} (b : Brw K B H R v (.int i)) : v = .int i := by
  obtain ⟨F, S, F1, S1, h, o, r, _⟩ := b.ex
  cases r; rfl
theorem Brw.rep (b : Brw K B H R v d) : ∃ F S, Rep K H v d F S := by
  obtain ⟨F, S, F1, S1, h, o, r, _⟩ := b.ex
  exact ⟨_, _, r⟩
theorem Brw.un (b : Brw K B H R v d) (u : d.un = true) : W K B H ((v, d) :: R) := by
  obtain ⟨F, S, F1, S1, h, o, r, f, s, nn⟩ := b.ex
  have e := r.un u
  subst e
  exact ⟨_, _, .cons r h, o.less (fun a z => z) o.nd fun a z => (List.mem_append.mp z).elim (s a) id⟩
theorem atI_of {α : Type} {xs : List α} {k : Int} {x : α} (h : atI xs k = some x) : ∃ j, ixN xs.length k = some j ∧ xs[j]? = some x := by
  unfold atI at h
  cases e : ixN xs.length k with
  | none => rw [e] at h; cases h
  | some j => rw [e] at h; exact ⟨j, rfl, h⟩
/-- the items of a list or a tuple -/
theorem Rep.items {F S : List Addr} {xs : List D} (r : Rep K H v d F S) (h : items d = some xs) : ∃ a vs F1 S1, v = .ref a ∧ (SqL K H a vs ∨ SqT K H a vs) ∧ Reps K H vs xs F1 S1 ∧ (∀ b ∈ F1, b ∈ F) ∧ (∀ b ∈ S1, b ∈ S) ∧ (F.Nodup → F1.Nodup) := by
  cases d with
  | tup ys =>
    cases h
    cases r with | tup e r => exact ⟨_, _, _, _, rfl, .inr (.inl e), r, fun _ z => z, fun _ z => z, id⟩
  | lst o ys =>
    cases h
    cases r with
    | mod e r => exact ⟨_, _, _, _, rfl, .inl (.inr e), r, fun _ z => z, fun _ z => z, fun _ => List.nodup_nil⟩
    | shr e r => exact ⟨_, _, _, _, rfl, .inl (.inl e), r, fun _ z => z, fun _ z => List.mem_cons_of_mem _ z, fun _ => List.nodup_nil⟩
    | own e r => exact ⟨_, _, _, _, rfl, .inl (SqL.of e), r, fun _ z => List.mem_cons_of_mem _ z, fun _ z => z, fun n => (List.nodup_cons.mp n).2⟩
  | _ => cases h
theorem Brw.item {k : Int} {x : D} (b : Brw K B H R v d) (h : atD d k = some x) : ∃ a vs u, v = .ref a ∧ (SqL K H a vs ∨ SqT K H a vs) ∧ atI vs k = some u ∧ Brw K B H R u x := by
  obtain ⟨F, S, F1, S1, h0, o, r, f, s, nn⟩ := b.ex
  unfold atD at h
  cases e : Sr.items d with
  | none => rw [e] at h; cases h
  | some xs =>
    rw [e] at h
    obtain ⟨a, vs, F2, S2, ev, q, rs, f2, s2, n2⟩ := r.items e
    obtain ⟨j, hj, hx⟩ := atI_of h
    obtain ⟨u, F3, S3, hu, r3, f3, s3, n3⟩ := rs.get hx
    refine ⟨a, vs, u, ev, q, ?_, ⟨F, S, F3, S3, h0, o, r3, fun z y => f z (f2 z (f3 z y)), fun z y => s z (s2 z (s3 z y)), n3 (n2 nn)⟩⟩
    unfold atI
    rw [rs.len, hj]
    exact hu
theorem posS_lookup : ∀ {ns : List Str} {vs : List V} {f : Str} {j : Nat} {u : V}, posS f ns = some j → vs[j]? = some u → (ns.zip vs).lookup f = some u
  | [], vs, f, j, u, h, _ => by cases h
  | g :: ns, [], f, j, u, h, hu => by simp at hu
  | g :: ns, v :: vs, f, j, u, h, hu => by
    rw [List.zip_cons_cons]
    unfold posS at h
    by_cases e : g = f
    · subst e
      rw [if_pos rfl] at h
      cases h
      simp at hu
      subst hu
      simp [List.lookup]
    · rw [if_neg e] at h
      cases hp : posS f ns with
      | none => rw [hp] at h; cases h
      | some k =>
        rw [hp] at h
        cases h
        have q : (f == g) = false := by simpa using Ne.symm e
        simp only [List.lookup, q]
        exact posS_lookup hp (by simpa using hu)
/-- a field of an instance -/
theorem Rep.fld {F S : List Addr} {c : Nat} {f : Str} {x : D} (r : Rep K H v d F S) (h : fldD c f d = some x) : ∃ a C dx fs u F1 S1, v = .ref a ∧ H a = some (.ins C dx fs) ∧ PySem.W.nsIn K mainGlobals (cnm c) = some (some (.ref C)) ∧ fs.lookup f = some u ∧ Rep K H u x F1 S1 ∧ (∀ b ∈ F1, b ∈ F) ∧ (∀ b ∈ S1, b ∈ S) ∧ (F.Nodup → F1.Nodup) := by
  unfold fldD at h
  split at h
  · rename_i o c' ns xs
    split at h
    · rename_i e
      subst e
      split at h
      · rename_i j hj
        cases r with
        | cel ca rs =>
          obtain ⟨C, dx, h1, h2, h3⟩ := ca
          obtain ⟨u, F3, S3, hu, r3, f3, s3, n3⟩ := rs.get h
          exact ⟨_, C, dx, _, u, F3, S3, rfl, h3, h1, posS_lookup hj hu, r3, f3, fun b z => List.mem_cons_of_mem _ (s3 b z), n3⟩
        | celo ca rs =>
          obtain ⟨C, dx, h1, h2, h3⟩ := ca
          obtain ⟨u, F3, S3, hu, r3, f3, s3, n3⟩ := rs.get h
          exact ⟨_, C, dx, _, u, F3, S3, rfl, h3, h1, posS_lookup hj hu, r3, fun b z => List.mem_cons_of_mem _ (f3 b z), s3, fun nd => n3 (List.nodup_cons.mp nd).2⟩
      · cases h
    · cases h
  · cases h
theorem Brw.fld {c : Nat} {f : Str} {x : D} (b : Brw K B H R v d) (h : fldD c f d = some x) : ∃ a C dx fs u, v = .ref a ∧ H a = some (.ins C dx fs) ∧ PySem.W.nsIn K mainGlobals (cnm c) = some (some (.ref C)) ∧ fs.lookup f = some u ∧ Brw K B H R u x := by
  obtain ⟨F, S, F1, S1, h0, o, r, ff, s, nn⟩ := b.ex
  obtain ⟨a, C, dx, fs, u, F2, S2, h1, h2, h3, h4, r2, f2, s2, n2⟩ := r.fld h
  exact ⟨a, C, dx, fs, u, h1, h2, h3, h4, F, S, F2, S2, h0, o, r2, fun z y => ff z (f2 z y), fun z y => s z (s2 z y), n2 nn⟩
end
/-- an item by its place: a list's or a tuple's -/
theorem ix_seqV {X : Cx} : IxR X (fun x y H Q => ∃ p xs i v, x = .ref p ∧ y = .int i ∧ (SqL X.K H p xs ∨ SqT X.K H p xs) ∧ atI xs i = some v ∧ Q v H) := by
  intro value slice pins s σ H x y v u Q I rx ry h hs
  obtain ⟨p, xs, i, z, ex, ey, q, hz, hq⟩ := h
  rcases q with q | q
  · exact ix_list value slice pins s σ H x y v u Q I rx ry ⟨p, xs, i, z, ex, ey, q, hz, hq⟩ hs
  · exact ix_tup value slice pins s σ H x y v u Q I rx ry ⟨p, xs, i, z, ex, ey, q, hz, hq⟩ hs
section
variable {Φ : Fs} {k : Nat} {n : Nm} {X : Cx} {sc : Scope}
theorem OkX.blt (O : OkX Φ k n X sc) {x : Str} (h : x ∈ bltNames) : X.mg x = none := O.bt x h
theorem chk_fld {c i : Nat} {f : Str} {e : Expr} (h : chkE n sc (.fld c i f) e = true) : ∃ x xp pos, e = .Attribute (.Name x xp) f pos ∧ f ∈ cfl c ∧ n.kc c = true ∧ nameB n sc i x = true := by
  cases e <;> try (simp [chkE] at h; done)
  rename_i o g pos
  cases o <;> try (simp [chkE] at h; done)
  simp only [chkE, Bool.and_eq_true, decide_eq_true_eq] at h
  obtain ⟨⟨⟨rfl, h2⟩, h3⟩, h4⟩ := h
  exact ⟨_, _, _, rfl, List.contains_iff_mem.mp h2, h3, h4⟩
theorem evP_ok : ∀ {t : T} {e : Expr}, OkX Φ k n X sc → isP t = true → chkE n sc t e = true → PE X e (tP X.K t) := by
  intro t
  induction t with
  | v i =>
    intro e O _ h
    cases e <;> try (simp [chkE] at h; done)
    rw [chkE] at h
    refine (O.name h).imp fun σ H Q q => ?_
    obtain ⟨B, env, Γ, d, w, hd, q⟩ := q
    rw [evP] at hd
    obtain ⟨v, hv, _⟩ := w.read hd
    refine ⟨v, hv, q v ?_⟩
    obtain ⟨F, S, r, o⟩ := w.w
    have p := ((er_take hv (at_iff.mp hd)).append_left Γ).trans List.perm_middle
    obtain ⟨F', S', r', p1, p2⟩ := Rs.perm p r
    cases r' with
    | cons r1 r2 => exact ⟨F, S, _, _, r, o, r1, fun a z => p1.mem_iff.mpr (List.mem_append_left _ z), fun a z => p2.mem_iff.mpr (List.mem_append_left _ z), (List.nodup_append.mp (p1.nodup_iff.mp o.nd)).1⟩
  | fld c i f =>
    intro e O _ h
    obtain ⟨x, xp, pos, rfl, hf, hk, hn⟩ := chk_fld h
    obtain ⟨C0, hC, hcls, hno⟩ := O.kc c hk
    refine (pe_fld (O.name hn) rfl).imp fun σ H Q q => ?_
    obtain ⟨B, env, Γ, d, w, hd, q⟩ := q
    rw [evP] at hd
    split at hd
    · rename_i d0 h0
      obtain ⟨v, hv, _⟩ := w.read h0
      have bv : Brw X.K B H (Γ ++ er σ env) v d0 := by
        obtain ⟨F, S, r, o⟩ := w.w
        have p := ((er_take hv (at_iff.mp h0)).append_left Γ).trans List.perm_middle
        obtain ⟨F', S', r', p1, p2⟩ := Rs.perm p r
        cases r' with
        | cons r1 r2 => exact ⟨F, S, _, _, r, o, r1, fun a z => p1.mem_iff.mpr (List.mem_append_left _ z), fun a z => p2.mem_iff.mpr (List.mem_append_left _ z), (List.nodup_append.mp (p1.nodup_iff.mp o.nd)).1⟩
      obtain ⟨a, C, dx, fs, u, rfl, h2, h3, h4, bu⟩ := bv.fld hd
      rw [hC] at h3
      cases h3
      exact ⟨_, hv, a, C0, dx, fs, u, rfl, h2, hcls.cl, hno f hf, h4, q u bu⟩
    · cases hd
  | non =>
    intro e O _ h
    cases e <;> try (simp [chkE] at h; done)
    rename_i c _ _
    cases c <;> try (simp [chkE] at h; done)
    refine pe_non.imp fun σ H Q q => ?_
    obtain ⟨B, env, Γ, d, w, hd, q⟩ := q
    cases hd
    exact q _ (.flat w.w .non)
  | bl b =>
    intro e O _ h
    cases e <;> try (simp [chkE] at h; done)
    rename_i c _ _
    cases c <;> try (simp [chkE] at h; done)
    rw [chkE, beq_iff_eq] at h
    subst h
    refine pe_bl.imp fun σ H Q q => ?_
    obtain ⟨B, env, Γ, d, w, hd, q⟩ := q
    cases hd
    exact q _ (.flat w.w (.bl _))
  | int i =>
    intro e O _ h
    cases e <;> try (simp [chkE] at h; done)
    rename_i c _ _
    cases c <;> try (simp [chkE] at h; done)
    rw [chkE, decide_eq_true_eq] at h
    subst h
    refine pe_int.imp fun σ H Q q => ?_
    obtain ⟨B, env, Γ, d, w, hd, q⟩ := q
    cases hd
    exact q _ (.flat w.w (.int _))
  | str x =>
    intro e O _ h
    cases e <;> try (simp [chkE] at h; done)
    rename_i c _ _
    cases c <;> try (simp [chkE] at h; done)
    rw [chkE, decide_eq_true_eq] at h
    subst h
    refine pe_str.imp fun σ H Q q => ?_
    obtain ⟨B, env, Γ, d, w, hd, q⟩ := q
    cases hd
    exact q _ (.flat w.w (.str _))
  | bin o a b iha ihb =>
    intro e O p h
    simp only [isP, Bool.and_eq_true] at p
    cases e <;> try (simp [chkE] at h; done)
    simp only [chkE, Bool.and_eq_true] at h
    refine (pe_op (op_bin h.1.1) (iha O p.1 h.1.2) (ihb O p.2 h.2)).imp fun σ H Q q => ?_
    obtain ⟨B, env, Γ, d, w, hd, q⟩ := q
    rw [evP] at hd
    split at hd
    · rename_i i j ha hb
      refine ⟨B, env, Γ, _, w, ha, fun v bv => ⟨B, env, Γ, _, w, hb, fun u bu => ?_⟩⟩
      rw [bv.int, bu.int]
      cases hr : binI o i j with
      | none => rw [hr] at hd; cases hd
      | some r =>
        rw [hr] at hd; cases hd
        exact ⟨i, j, r, rfl, rfl, hr, q _ (.flat w.w (.int _))⟩
    · cases hd
  | neg a iha =>
    intro e O p h
    simp only [isP] at p
    cases e <;> try (simp [chkE] at h; done)
    rename_i uo x _
    cases uo <;> try (simp [chkE] at h; done)
    simp only [chkE] at h
    refine (pe_un un_neg (iha O p h)).imp fun σ H Q q => ?_
    obtain ⟨B, env, Γ, d, w, hd, q⟩ := q
    rw [evP] at hd
    split at hd
    · rename_i i ha
      refine ⟨B, env, Γ, _, w, ha, fun v bv => ?_⟩
      rw [bv.int]
      cases hd
      exact ⟨i, rfl, q _ (.flat w.w (.int _))⟩
    · cases hd
  | ix a b iha ihb =>
    intro e O p h
    simp only [isP, Bool.and_eq_true] at p
    cases e <;> try (simp [chkE] at h; done)
    simp only [chkE, Bool.and_eq_true] at h
    refine (pe_ix ix_seqV (iha O p.1 h.1) (ihb O p.2 h.2) (plainIx_pl (chk_pl h.2))).imp fun σ H Q q => ?_
    obtain ⟨B, env, Γ, d, w, hd, q⟩ := q
    rw [evP] at hd
    split at hd
    · rename_i x kk ha hb
      refine ⟨B, env, Γ, _, w, ha, fun v bv => ⟨B, env, Γ, _, w, hb, fun u bu => ?_⟩⟩
      rw [bu.int]
      obtain ⟨ad, vs, z, ev, sq, hz, bz⟩ := bv.item hd
      exact ⟨ad, vs, kk, z, ev, rfl, sq, hz, q _ bz⟩
    · cases hd
  | b1 c a iha =>
    intro e O p h
    cases c <;> try (simp [isP] at p; done)
    simp only [isP] at p
    rcases chk_b1 h with ⟨f, xp, es, pos, rfl, _, h1, h2⟩ | ⟨_, _, _, _, _, _, _, _, h0, _⟩
    case inr => cases h0
    rcases h2 with ⟨_, x, rfl, h2⟩ | ⟨_, _, _, _, hc, _⟩
    case inr => cases hc
    obtain ⟨rfl, hg⟩ := bltB_iff h1
    refine (pe_callB call_len_seq (O.gl hg) (O.blt (by decide)) PySem.boot_len (pa_cons (iha O p h2) pa_nil (star_pl (chk_pl h2))) (he := star_pl (chk_pl h2))).imp fun σ H Q q => ?_
    obtain ⟨B, env, Γ, d, w, hd, q⟩ := q
    rw [evP] at hd
    split at hd
    · rename_i d' ha
      refine ⟨B, env, Γ, _, w, ha, fun v bv => ?_⟩
      unfold lenD at hd
      split at hd
      · rename_i xs hx
        cases hd
        obtain ⟨F, S, r⟩ := bv.rep
        obtain ⟨ad, vs, F1, S1, ev, sq, rs, _⟩ := r.items hx
        subst ev
        refine ⟨ad, vs, rfl, sq, ?_⟩
        rw [rs.len]
        exact q _ (.flat w.w (.int _))
      · cases hd
    · cases hd
  | _ => intro e O p h; simp [isP] at p
end
end Sr
set_option Elab.async false
set_option linter.all false
set_option maxRecDepth 100000
set_option maxHeartbeats 2000000
/-! # Sr: built-ins by what is handed in; readings of terms -/
namespace Sr
open PySem PySem.Spec PyProof.Rows L2

/-- a list by its text -/
theorem Rep.lstI {K : PySem.W.Frag} {H : Hp} {v : V} {o : Bool} {xs : List D} {F S : List Addr} (r : Rep K H v (.lst o xs) F S) : ∃ a vs F1 S1, v = .ref a ∧ SqL K H a vs ∧ Reps K H vs xs F1 S1 ∧ (∀ b ∈ F1, b ∈ F) ∧ (∀ b ∈ S1, b ∈ S) ∧ (F.Nodup → F1.Nodup) := by
  cases r with
  | mod e r => exact ⟨_, _, _, _, rfl, .inr e, r, fun _ z => z, fun _ z => z, fun _ => List.nodup_nil⟩
  | shr e r => exact ⟨_, _, _, _, rfl, .inl e, r, fun _ z => z, fun _ z => List.mem_cons_of_mem _ z, fun _ => List.nodup_nil⟩
  | own e r => exact ⟨_, _, _, _, rfl, SqL.of e, r, fun _ z => List.mem_cons_of_mem _ z, fun _ z => z, fun n => (List.nodup_cons.mp n).2⟩
/-- what is only read, beside -/
theorem W.beside {K : PySem.W.Frag} {B : Bs} {H : Hp} {R : List Rt} {F S : List Addr} {vs : List V} {ds : List D} {S1 : List Addr} (ok : Okk B H F S) {Fr Sr : List Addr} (rr : Rs K H R Fr Sr) (hF : ∀ a ∈ Fr, a ∈ F) (nF : Fr.Nodup) (hS : ∀ a ∈ Sr, a ∈ S)
    (r1 : Reps K H vs ds [] S1) (h1 : ∀ a ∈ S1, a ∈ S) : W K B H (vs.zip ds ++ R) := by
  refine ⟨[] ++ Fr, S1 ++ Sr, ?_, ok.less (fun a z => hF a (by simpa using z)) (by simpa using nF) fun a z => (List.mem_append.mp z).elim (h1 a) (hS a)⟩
  show Reps K H _ _ _ _
  rw [List.map_append, List.map_append, List.map_fst_zip (Nat.le_of_eq r1.len), List.map_snd_zip (Nat.le_of_eq r1.len.symm)]
  exact r1.app rr
theorem insI_perm (x : Int) : ∀ l : List Int, (insI x l).Perm (x :: l)
  | [] => List.Perm.refl _
  | y :: r => by
    unfold insI
    split
    · exact List.Perm.refl _
    · exact ((insI_perm x r).cons y).trans (List.Perm.swap x y r)
theorem sortI_perm : ∀ l : List Int, (sortI l).Perm l
  | [] => List.Perm.refl _
  | x :: r => (insI_perm x (sortI r)).trans ((sortI_perm r).cons x)
theorem insI_pw (x : Int) : ∀ l : List Int, l.Pairwise (· ≤ ·) → (insI x l).Pairwise (· ≤ ·)
  | [], _ => List.pairwise_cons.mpr ⟨fun _ h => (nomatch h), List.Pairwise.nil⟩
  | y :: r, h => by
    obtain ⟨h1, h2⟩ := List.pairwise_cons.mp h
    unfold insI
    split
    · rename_i c
      exact List.pairwise_cons.mpr ⟨fun z hz => by
        rcases List.mem_cons.mp hz with e | e
        · rw [e]; exact c
        · exact Int.le_trans c (h1 z e), h⟩
    · rename_i c
      refine List.pairwise_cons.mpr ⟨fun z hz => ?_, insI_pw x r h2⟩
      rcases List.mem_cons.mp ((insI_perm x r).mem_iff.mp hz) with e | e
      · rw [e]; omega
      · exact h1 z e
theorem sortI_pw : ∀ l : List Int, (sortI l).Pairwise (· ≤ ·)
  | [] => List.Pairwise.nil
  | x :: r => insI_pw x _ (sortI_pw r)
theorem sort_uniq : ∀ {l l' : List Int}, l.Perm l' → l.Pairwise (· ≤ ·) → l'.Pairwise (· ≤ ·) → l = l'
  | [], l', p, _, _ => (List.nil_perm.mp p).symm
  | a :: r, [], p, _, _ => nomatch List.perm_nil.mp p
  | a :: r, b :: r', p, h, h' => by
    obtain ⟨h1, h2⟩ := List.pairwise_cons.mp h
    obtain ⟨h3, h4⟩ := List.pairwise_cons.mp h'
    have e : a = b := by
      have ha := p.mem_iff.mp (List.mem_cons_self)
      have hb := p.mem_iff.mpr (List.mem_cons_self)
      rcases List.mem_cons.mp ha with e | e
      · exact e
      · rcases List.mem_cons.mp hb with e2 | e2
        · exact e2.symm
        · have := h1 b e2
          have := h3 a e
          omega
    subst e
    rw [sort_uniq (List.Perm.cons_inv p) h2 h4]
/-! ### built-in functions of one argument -/
def rB1 (K : PySem.W.Frag) (c : B1) : List V → Hp → VK → Prop := fun xs H Q => ∃ B R v x d, xs = [v] ∧ Brw K B H R v x ∧ b1D c x = some d ∧ ∀ u H', W K B H' ((u, d) :: R) → Q u H'
def rB1t (K : PySem.W.Frag) (c : B1) (ty : String) : List V → Hp → VK → Prop := fun xs H Q => ∃ B R v x d, xs = [v, .ty ty] ∧ Brw K B H R v x ∧ b1D c x = some d ∧ ∀ u H', W K B H' ((u, d) :: R) → Q u H'
section
variable {K : PySem.W.Frag} {B : Bs} {H : Hp} {R : List Rt} {v : V} {d x : D}
theorem Brw.w (b : Brw K B H R v d) : W K B H R := by
  obtain ⟨F, S, F1, S1, h, o, r, _⟩ := b.ex
  exact ⟨F, S, h, o⟩
theorem Brw.ofHead (w : W K B H ((v, d) :: R)) : Brw K B H ((v, d) :: R) v d := by
  obtain ⟨F, S, h, o⟩ := w
  have h0 := h
  cases h with
  | cons r t => exact ⟨_, _, _, _, h0, o, r, fun a z => List.mem_append_left _ z, fun a z => List.mem_append_left _ z, (List.nodup_append.mp o.nd).1⟩
/-- the type of what stands for d -/
def tyD : D → String
  | .non => "NoneType"
  | .bl _ => "bool"
  | .int _ => "int"
  | .str _ => "str"
  | .tup _ => "tuple"
  | .lst _ _ => "list"
  | .cel _ _ _ => "dict"
theorem Rep.ty {F S : List Addr} (r : Rep K H v d F S) (nc : ∀ o c ns xs, d ≠ .cel o (.ins c ns) xs) : TyX K H v (.type (tyD d)) := by
  cases r with
  | @cel _ k _ _ _ e r =>
    cases k with
    | ins c ns => exact absurd rfl (nc _ _ _ _)
    | dct ks => exact .base (.dK e.2)
  | @celo _ k _ _ _ _ e r =>
    cases k with
    | ins c ns => exact absurd rfl (nc _ _ _ _)
    | dct ks => exact .base (.dK e.2)
  | non => exact .base .non
  | bl b => exact .base (.bl b)
  | int i => exact .base (.int i)
  | str x => exact .base (.str x)
  | tup e r =>
    rcases e with e | ⟨o, e⟩
    · exact .base (.tup e)
    · exact .fTuple e
  | shr e r =>
    rcases e with e | ⟨o, e⟩
    · exact .base (.lst e)
    · exact .base (.frz e)
  | mod e r =>
    obtain ⟨o, its, m, e1, e2, _⟩ := e
    exact .kList e1 e2
  | own e r => exact .base (.lst e)
theorem Reps.ints : ∀ {ds : List D} {vs : List V} {F S : List Addr} {ns : List Int}, Reps K H vs ds F S → toInts ds = some ns → vs = ns.map V.int
  | [], _, _, _, ns, h, e => by
    cases h
    rw [toInts] at e
    cases e
    rfl
  | d :: ds, _, _, _, ns, h, e => by
    cases h with
    | cons r t =>
      cases d with
      | int i =>
        rw [toInts] at e
        cases q : toInts ds with
        | none => rw [q] at e; cases e
        | some l =>
          rw [q] at e
          cases e
          cases r
          rw [t.ints q]
          rfl
      | _ => simp [toInts] at e
/-- what is copied: nothing of ours within -/
theorem Brw.lst {xs : List D} (b : Brw K B H R v x) (e : items x = some xs) (u : unL xs = true) : ∃ a vs, v = .ref a ∧ (SqL K H a vs ∨ SqT K H a vs) ∧ vs.length = xs.length ∧ (∀ p, H p = none → vs.length ≤ sizeLine → W K B (upd H p (.lst vs)) ((.ref p, .lst true xs) :: R)) ∧ (∀ p, H p = none → vs.length ≤ sizeLine → W K B (upd H p (.tup vs)) ((.ref p, .tup xs) :: R)) := by
  obtain ⟨F, S, F1, S1, h0, o, r, f, s, nn⟩ := b.ex
  obtain ⟨a, vs, F2, S2, ev, q, rs, f2, s2, n2⟩ := r.items e
  have eF := rs.un u
  subst eF
  have w2 : W K B H ((vs.zip xs) ++ R) := by
    refine ⟨[] ++ F, S2 ++ S, ?_, o.less (fun a z => by simpa using z) (by simpa using o.nd) fun a z => (List.mem_append.mp z).elim (fun y => s a (s2 a y)) id⟩
    show Reps K H _ _ _ _
    rw [List.map_append, List.map_append, List.map_fst_zip (Nat.le_of_eq rs.len), List.map_snd_zip (Nat.le_of_eq rs.len.symm)]
    exact rs.app h0
  exact ⟨a, vs, ev, q, rs.len, fun p hp hz => w2.lstV rs.len hp hz, fun p hp hz => w2.tupV rs.len hp hz⟩
end
section
variable {X : Cx}
theorem szI {pins : List (Addr × Obj)} {σ : L2.St} {H : Hp} {s : Shared} (I : L2.Inv X pins σ H s) {p : Addr} {ys : List V} (h : SqL X.K H p ys ∨ SqT X.K H p ys) : ys.length ≤ sizeLine := by
  rcases h with h | h
  · obtain ⟨_, _, _, z⟩ := I.list h; exact z
  · obtain ⟨_, _, _, z⟩ := I.tuple h; exact z
theorem b1_len : CallR X (.builtin "len") (rB1 X.K .len) := by
  intro pins s σ H xs us Q I r h
  obtain ⟨B, R, v, x, d, ex, bv, e, q⟩ := h
  refine call_len_seq pins s σ H xs us Q I r ?_
  simp only [b1D, lenD] at e
  split at e
  · rename_i ys hy
    cases e
    obtain ⟨F, S, rr⟩ := bv.rep
    obtain ⟨ad, vs, F1, S1, ev, sq, rs, _⟩ := rr.items hy
    subst ev
    exact ⟨ad, vs, ex, sq, by rw [rs.len]; exact q _ _ (bv.w.int _)⟩
  · cases e
theorem b1_abs : CallR X (.builtin "abs") (rB1 X.K .abs) := by
  intro pins s σ H xs us Q I r h
  obtain ⟨B, R, v, x, d, ex, bv, e, q⟩ := h
  cases x <;> try (simp [b1D] at e; done)
  rename_i i
  simp only [b1D, Option.some.injEq] at e
  subst e
  rw [bv.int] at ex
  exact call_abs pins s σ H xs us Q I r ⟨i, ex, q _ _ (bv.w.int _)⟩
theorem b1_int : CallR X (.type "int") (rB1 X.K .int) := by
  intro pins s σ H xs us Q I r h
  obtain ⟨B, R, v, x, d, ex, bv, e, q⟩ := h
  refine call_int1 pins s σ H xs us Q I r ?_
  cases x <;> try (simp [b1D] at e; done)
  · rename_i b
    simp only [b1D, Option.some.injEq] at e
    subst e
    obtain ⟨F, S, rr⟩ := bv.rep
    cases rr
    exact .inr ⟨b, ex, q _ _ (bv.w.int _)⟩
  · rename_i i
    simp only [b1D, Option.some.injEq] at e
    subst e
    rw [bv.int] at ex
    exact .inl ⟨i, ex, q _ _ (bv.w.int _)⟩
theorem b1_list : CallR X (.type "list") (rB1 X.K .list) := by
  intro pins s σ H xs us Q I r h
  obtain ⟨B, R, v, x, d, ex, bv, e, q⟩ := h
  refine call_list_of pins s σ H xs us Q I r ?_
  simp only [b1D] at e
  split at e
  · rename_i ys hy
    split at e
    · rename_i hu
      cases e
      obtain ⟨a, vs, ev, sq, hl, m1, m2⟩ := bv.lst hy hu
      subst ev
      exact ⟨a, vs, ex, sq, fun l hl => q _ _ (m1 l hl (szI I sq))⟩
    · cases e
  · cases e
theorem b1_tuple : CallR X (.type "tuple") (rB1 X.K .tuple) := by
  intro pins s σ H xs us Q I r h
  obtain ⟨B, R, v, x, d, ex, bv, e, q⟩ := h
  refine call_tuple_of pins s σ H xs us Q I r ?_
  cases x <;> try (simp [b1D] at e; done)
  rename_i o ys
  simp only [b1D] at e
  split at e
  · rename_i hu
    cases e
    obtain ⟨F, S, F1, S1, h0, ok, rr, f, s', nn⟩ := bv.ex
    obtain ⟨a, vs, F2, S2, ev, sq, rs, f2, s2, _⟩ := rr.lstI
    have z := rs.un hu
    subst z
    subst ev
    exact ⟨a, vs, ex, .inl ⟨sq, fun l hl => q _ _ (W.tupV (W.beside ok h0 (fun a z => z) ok.nd (fun a z => z) rs fun a z => s' a (s2 a z)) rs.len hl (szI I (.inl sq)))⟩⟩
  · cases e
theorem b1_sum (hc : X.calm = true) : CallR X (.builtin "sum") (rB1 X.K .sum) := by
  intro pins s σ H xs us Q I r h
  obtain ⟨B, R, v, x, d, ex, bv, e, q⟩ := h
  refine cr_sum hc pins s σ H xs us Q I r ?_
  cases x <;> try (simp [b1D] at e; done)
  rename_i o ys
  simp only [b1D, Option.map_eq_some_iff] at e
  obtain ⟨ns, hn, rfl⟩ := e
  obtain ⟨F, S, rr⟩ := bv.rep
  cases rr with
  | mod e2 rs => exact ⟨_, ns, ex, by rw [← rs.ints hn]; exact .inr e2, q _ _ (bv.w.int _)⟩
  | shr e2 rs => exact ⟨_, ns, ex, by rw [← rs.ints hn]; exact .inl e2, q _ _ (bv.w.int _)⟩
  | own e2 rs => exact ⟨_, ns, ex, by rw [← rs.ints hn]; exact SqL.of e2, q _ _ (bv.w.int _)⟩
theorem Reps.ofInts {K : PySem.W.Frag} {H : Hp} : ∀ ns : List Int, Reps K H (ns.map V.int) (ns.map D.int) [] []
  | [] => .nil
  | n :: r => by
    have := Reps.cons (Rep.int (K := K) (H := H) n) (Reps.ofInts r)
    simpa using this
theorem b1_sorted : CallR X (.builtin "sorted") (rB1 X.K .sorted) := by
  intro pins s σ H xs us Q I r h
  obtain ⟨B, R, v, x, d, ex, bv, e, q⟩ := h
  cases x <;> try (simp [b1D] at e; done)
  rename_i o ys
  simp only [b1D, srtD] at e
  split at e
  · rename_i ns hn
    split at e
    · rename_i h64
      cases e
      refine cr_sorted pins s σ H xs us Q I r ?_
      obtain ⟨F, S, rr⟩ := bv.rep
      have fin : ∀ (ns' : List Int) (p : Addr), ns'.Perm ns → ns'.Pairwise (· ≤ ·) → H p = none → Q (.ref p) (upd H p (.lst (ns'.map V.int))) := fun ns' p hp hs hf => by
        have e := sort_uniq (hp.trans (sortI_perm ns).symm) hs (sortI_pw ns)
        subst e
        obtain ⟨F', S', rs, ok⟩ := bv.w
        refine q _ _ (W.lstV (vs := (sortI ns).map V.int) (ds := (sortI ns).map D.int) (W.beside ok rs (fun a z => z) ok.nd (fun a z => z) (Reps.ofInts _) (fun a z => nomatch z)) (by simp) hf ?_)
        rw [List.length_map, (sortI_perm ns).length_eq]
        exact small64 h64
      cases rr with
      | mod e2 rs => exact ⟨_, ns, ex, by rw [← rs.ints hn]; exact .inr e2, h64, fin⟩
      | shr e2 rs => exact ⟨_, ns, ex, by rw [← rs.ints hn]; exact .inl e2, h64, fin⟩
      | own e2 rs => exact ⟨_, ns, ex, by rw [← rs.ints hn]; exact SqL.of e2, h64, fin⟩
    · cases e
  · cases e
/-! ### sorted, of pairs -/
open Classical in
noncomputable def pk (H : Hp) (v : V) : Int × Int := if h : ∃ p : Int × Int, ∃ t, v = .ref t ∧ Rd H t (.tup [.int p.1, .int p.2]) then h.choose else (0, 0)
theorem tupOne {H : Hp} {t : Addr} {xs ys : List V} (h : Rd H t (.tup xs)) (h' : Rd H t (.tup ys)) : xs = ys := by
  rcases h with h | ⟨o, h⟩ <;> rcases h' with h' | ⟨o', h'⟩ <;> rw [h] at h' <;> cases h' <;> rfl
theorem pk_eq {H : Hp} {t : Addr} {i j : Int} (h : Rd H t (.tup [.int i, .int j])) : pk H (.ref t) = (i, j) := by
  have hx : ∃ p : Int × Int, ∃ t', V.ref t = .ref t' ∧ Rd H t' (.tup [.int p.1, .int p.2]) := ⟨(i, j), t, rfl, h⟩
  unfold pk
  rw [dif_pos hx]
  obtain ⟨t', e, z⟩ := hx.choose_spec
  cases e
  have := tupOne z h
  simp only [List.cons.injEq, V.int.injEq, and_true] at this
  exact Prod.ext this.1 this.2
theorem Reps.pairs {K : PySem.W.Frag} {H : Hp} : ∀ {ds : List D} {vs : List V} {F S : List Addr} {ps : List (Int × Int)}, Reps K H vs ds F S → toPairs ds = some ps → ps = vs.map (pk H) ∧ ∀ v ∈ vs, ∃ t, v = .ref t ∧ Rd H t (.tup [.int (pk H v).1, .int (pk H v).2])
  | [], _, _, _, ps, h, e => by
    cases h
    rw [toPairs] at e
    cases e
    exact ⟨rfl, fun _ z => nomatch z⟩
  | d :: ds, _, _, _, ps, h, e => by
    cases h with
    | @cons v _ vs _ F S F' S' r t =>
      unfold toPairs at e
      split at e
      · rename_i heq; exact nomatch heq
      · rename_i i j r' heq
        cases heq
        split at e
        · rename_i l hl
          cases e
          obtain ⟨e1, e2⟩ := Reps.pairs t hl
          cases r with
          | @tup a us _ _ _ ra rs =>
            have hu : us = [.int i, .int j] := by
              cases rs with
              | cons r1 rs =>
                cases rs with
                | cons r2 rs =>
                  cases rs
                  cases r1
                  cases r2
                  rfl
            subst hu
            have hp := pk_eq ra
            refine ⟨by rw [List.map_cons, hp, ← e1], fun v hv => ?_⟩
            rcases List.mem_cons.mp hv with z | z
            · subst z
              exact ⟨a, rfl, by rw [hp]; exact ra⟩
            · exact e2 v z
        · cases e
      · cases e
theorem ltP2_iff {x y : Int × Int} : ltP2 x y = true ↔ x.1 < y.1 ∨ (x.1 = y.1 ∧ x.2 < y.2) := by unfold ltP2; simp
theorem insP_perm (x : Int × Int) : ∀ l : List (Int × Int), (insP x l).Perm (x :: l)
  | [] => List.Perm.refl _
  | y :: r => by
    unfold insP
    split
    · exact ((insP_perm x r).cons y).trans (List.Perm.swap x y r)
    · exact List.Perm.refl _
theorem sortP_perm : ∀ l : List (Int × Int), (sortP l).Perm l
  | [] => List.Perm.refl _
  | x :: r => (insP_perm x (sortP r)).trans ((sortP_perm r).cons x)
abbrev leP (x y : Int × Int) : Prop := ltP2 y x = false
theorem leP_iff {x y : Int × Int} : leP x y ↔ x.1 < y.1 ∨ (x.1 = y.1 ∧ x.2 ≤ y.2) := by
  unfold leP
  rw [Bool.eq_false_iff, Ne, ltP2_iff]
  omega
theorem insP_pw (x : Int × Int) : ∀ l : List (Int × Int), l.Pairwise leP → (insP x l).Pairwise leP
  | [], _ => List.pairwise_cons.mpr ⟨fun _ h => (nomatch h), List.Pairwise.nil⟩
  | y :: r, h => by
    obtain ⟨h1, h2⟩ := List.pairwise_cons.mp h
    unfold insP
    split
    · rename_i c
      refine List.pairwise_cons.mpr ⟨fun z hz => ?_, insP_pw x r h2⟩
      rcases List.mem_cons.mp ((insP_perm x r).mem_iff.mp hz) with e | e
      · rw [e, leP_iff]
        rw [ltP2_iff] at c
        omega
      · exact h1 z e
    · rename_i c
      have c' : leP x y := by simpa using c
      exact List.pairwise_cons.mpr ⟨fun z hz => by
        rcases List.mem_cons.mp hz with e | e
        · rw [e]; exact c'
        · have := h1 z e
          rw [leP_iff] at this c' ⊢
          omega, h⟩
theorem sortP_pw : ∀ l : List (Int × Int), (sortP l).Pairwise leP
  | [] => List.Pairwise.nil
  | x :: r => insP_pw x _ (sortP_pw r)
theorem sortP_uniq : ∀ {l l' : List (Int × Int)}, l.Perm l' → l.Pairwise leP → l'.Pairwise leP → l = l'
  | [], l', p, _, _ => (List.nil_perm.mp p).symm
  | a :: r, [], p, _, _ => nomatch List.perm_nil.mp p
  | a :: r, b :: r', p, h, h' => by
    obtain ⟨h1, h2⟩ := List.pairwise_cons.mp h
    obtain ⟨h3, h4⟩ := List.pairwise_cons.mp h'
    have e : a = b := by
      have ha := p.mem_iff.mp (List.mem_cons_self)
      have hb := p.mem_iff.mpr (List.mem_cons_self)
      rcases List.mem_cons.mp ha with e | e
      · exact e
      · rcases List.mem_cons.mp hb with e2 | e2
        · exact e2.symm
        · have z1 := h1 b e2
          have z2 := h3 a e
          rw [leP_iff] at z1 z2
          exact Prod.ext (by omega) (by omega)
    subst e
    rw [sortP_uniq (List.Perm.cons_inv p) h2 h4]
/-- sorted, of pairs that may be locked -/
theorem cr_sortedPO' {X : Cx} : CallR X (.builtin "sorted") (fun vs H Q => ∃ (a : Addr) (xs : List V) (k : V → Int × Int), vs = [V.ref a] ∧ SqL X.K H a xs ∧ (∀ x ∈ xs, ∃ t, x = V.ref t ∧ Rd H t (.tup [.int (k x).1, .int (k x).2])) ∧
  ∀ ys p, SrtO.Srtd (ltP k) ys → SrtO.Stb (ltP k) ys xs → H p = none → Q (.ref p) (upd H p (.lst ys))) := by
  intro pins s σ H vs us Q I r h
  obtain ⟨a, xs, k, rfl, hs, hx, q⟩ := h
  obtain ⟨its, rv, hl, hz⟩ := I.list hs
  obtain ⟨u, rfl, ru⟩ := vals1 r
  obtain rfl : u = Value.ref a := ru
  obtain ⟨e1, e2⟩ := refs_back rv fun x m => by
    obtain ⟨t, e, _⟩ := hx x m
    exact ⟨t, e⟩
  refine SrtO.sorted_pairsO (k := fun u => k (backV u)) hl.isList (by rw [← rv.length]; exact hz) (fun v hv => ?_) fun h' d out h1 h2 kp hd hn => ?_
  · obtain ⟨t, rfl⟩ := e2 v hv
    have hm : V.ref t ∈ xs := by rw [e1]; exact List.mem_map.mpr ⟨_, hv, rfl⟩
    obtain ⟨t', e, ht⟩ := hx _ hm
    cases e
    obtain ⟨_, its2, r2, o, ho, hc, n, hd⟩ := ht.ok I.hok
    obtain ⟨u1, u2, rfl, ri, rj⟩ := vals2 r2
    obtain ⟨t1, rfl⟩ := ri
    obtain ⟨t2, rfl⟩ := rj
    exact ⟨t, o, t1, t2, n, rfl, ho, hc, hd⟩
  · have h3 : ∀ u ∈ out, ∃ a, u = Value.ref a := fun u hu => e2 u (h2.perm.mem_iff.mp hu)
    obtain ⟨n, hn⟩ := hn
    have hb : SrtO.Stb (ltP k) (out.map backV) xs := by
      rw [e1]
      exact SrtO.Stb.map (ltP_swo k) backV h2
    refine ⟨.ref d, upd H d (.lst (out.map backV)), I.laid (t' := s.toks) kp hd ⟨?_, out, n, vals_back h3, hn⟩, rfl, q _ d (SrtO.srtd_map h1) hb (I.hok.fresh hd)⟩
    rw [hb.len]
    exact hz
theorem reps_pk {K : PySem.W.Frag} {H : Hp} : ∀ {vs : List V}, (∀ v ∈ vs, ∃ t, v = .ref t ∧ Rd H t (.tup [.int (pk H v).1, .int (pk H v).2])) → Reps K H vs ((vs.map (pk H)).map ofP) [] []
  | [], _ => .nil
  | v :: vs, h => by
    obtain ⟨t, rfl, z⟩ := h v List.mem_cons_self
    have := Reps.cons (Rep.tup z (Reps.cons (F := []) (S := []) (F' := []) (S' := []) (Rep.int _) (Reps.cons (F := []) (S := []) (F' := []) (S' := []) (Rep.int _) Reps.nil))) (reps_pk (K := K) fun v hv => h v (List.mem_cons_of_mem _ hv))
    simpa [ofP] using this
theorem b1_sortP : CallR X (.builtin "sorted") (rB1 X.K .sortP) := by
  intro pins s σ H xs us Q I r h
  obtain ⟨B, R, v, x, d, ex, bv, e, q⟩ := h
  cases x <;> try (simp [b1D] at e; done)
  rename_i o ys
  simp only [b1D, srtP] at e
  split at e
  · rename_i ns hn
    split at e
    · rename_i h64
      cases e
      refine cr_sortedPO' pins s σ H xs us Q I r ?_
      obtain ⟨F, S, rr⟩ := bv.rep
      obtain ⟨a, vs, F1, S1, ev, sq, rs, _⟩ := rr.lstI
      obtain ⟨e1, e2⟩ := rs.pairs hn
      subst ev
      refine ⟨a, vs, pk H, ex, sq, e2, fun zs p h1 h2 hp => ?_⟩
      have hz : zs.map (pk H) = sortP ns := by
        refine sortP_uniq ((h2.perm.map _).trans (e1 ▸ (sortP_perm ns).symm)) ?_ (sortP_pw ns)
        refine List.pairwise_map.mpr (h1.imp fun {x y} z => ?_)
        have z' := SrtO.lexB_no.mp z
        rw [leP_iff]
        omega
      obtain ⟨F', S', rs', ok⟩ := bv.w
      have hl : zs.length = ns.length := by rw [h2.perm.length_eq, e1, List.length_map]
      refine q _ _ (hz ▸ W.lstV (vs := zs) (ds := (zs.map (pk H)).map ofP) (W.beside ok rs' (fun a z => z) ok.nd (fun a z => z) (reps_pk fun v hv => e2 v (h2.perm.mem_iff.mp hv)) (fun a z => nomatch z)) (by simp) hp ?_)
      rw [hl]
      exact small64 h64
    · cases e
  · cases e
theorem minI_mem : ∀ {l : List Int}, 0 < l.length → minI l ∈ l ∧ ∀ y ∈ l, minI l ≤ y
  | [], h => by simp at h
  | [x], _ => by simp [minI]
  | x :: y :: r, _ => by
    obtain ⟨h1, h2⟩ := minI_mem (l := y :: r) (by simp)
    have e : minI (x :: y :: r) = if minI (y :: r) < x then minI (y :: r) else x := rfl
    rw [e]
    split
    · rename_i c
      exact ⟨List.mem_cons_of_mem _ h1, fun z hz => by
        rcases List.mem_cons.mp hz with rfl | hz
        · omega
        · exact h2 z hz⟩
    · rename_i c
      exact ⟨List.mem_cons_self, fun z hz => by
        rcases List.mem_cons.mp hz with rfl | hz
        · exact Int.le_refl _
        · have := h2 z hz; omega⟩
theorem maxI_mem : ∀ {l : List Int}, 0 < l.length → maxI l ∈ l ∧ ∀ y ∈ l, y ≤ maxI l
  | [], h => by simp at h
  | [x], _ => by simp [maxI]
  | x :: y :: r, _ => by
    obtain ⟨h1, h2⟩ := maxI_mem (l := y :: r) (by simp)
    have e : maxI (x :: y :: r) = if x < maxI (y :: r) then maxI (y :: r) else x := rfl
    rw [e]
    split
    · rename_i c
      exact ⟨List.mem_cons_of_mem _ h1, fun z hz => by
        rcases List.mem_cons.mp hz with rfl | hz
        · omega
        · exact h2 z hz⟩
    · rename_i c
      exact ⟨List.mem_cons_self, fun z hz => by
        rcases List.mem_cons.mp hz with rfl | hz
        · exact Int.le_refl _
        · have := h2 z hz; omega⟩
theorem Rep.sqInts {K : PySem.W.Frag} {H : Hp} {v : V} {o : Bool} {xs : List D} {F S : List Addr} {ns : List Int} (rr : Rep K H v (.lst o xs) F S) (hn : toInts xs = some ns) : ∃ a, v = .ref a ∧ SqL K H a (ns.map V.int) := by
  cases rr with
  | mod e2 rs => exact ⟨_, rfl, by rw [← rs.ints hn]; exact .inr e2⟩
  | shr e2 rs => exact ⟨_, rfl, by rw [← rs.ints hn]; exact .inl e2⟩
  | own e2 rs => exact ⟨_, rfl, by rw [← rs.ints hn]; exact SqL.of e2⟩
theorem b1_min (hc : X.calm = true) : CallR X (.builtin "min") (rB1 X.K .minL) := by
  intro pins s σ H xs us Q I r h
  obtain ⟨B, R, v, x, d, ex, bv, e, q⟩ := h
  cases x <;> try (simp [b1D] at e; done)
  rename_i o ys
  simp only [b1D, extD] at e
  split at e
  · rename_i ns hn
    split at e
    · rename_i hl
      cases e
      obtain ⟨F, S, rr⟩ := bv.rep
      obtain ⟨a, rfl, hs⟩ := rr.sqInts hn
      refine cr_min hc pins s σ H xs us Q I r ⟨a, ns, ex, hs, hl, fun m hm hl2 => ?_⟩
      obtain ⟨g1, g2⟩ := minI_mem hl
      have e : m = minI ns := Int.le_antisymm (hl2 _ g1) (g2 m hm)
      rw [e]
      exact q _ _ (bv.w.int _)
    · cases e
  · cases e
theorem b1_max (hc : X.calm = true) : CallR X (.builtin "max") (rB1 X.K .maxL) := by
  intro pins s σ H xs us Q I r h
  obtain ⟨B, R, v, x, d, ex, bv, e, q⟩ := h
  cases x <;> try (simp [b1D] at e; done)
  rename_i o ys
  simp only [b1D, extD] at e
  split at e
  · rename_i ns hn
    split at e
    · rename_i hl
      cases e
      obtain ⟨F, S, rr⟩ := bv.rep
      obtain ⟨a, rfl, hs⟩ := rr.sqInts hn
      refine cr_max hc pins s σ H xs us Q I r ⟨a, ns, ex, hs, hl, fun m hm hl2 => ?_⟩
      obtain ⟨g1, g2⟩ := maxI_mem hl
      have e : m = maxI ns := Int.le_antisymm (g2 m hm) (hl2 _ g1)
      rw [e]
      exact q _ _ (bv.w.int _)
    · cases e
  · cases e
theorem min_rawD {prog : Program} {w : World} {A : Around} {E : Value → Shared → Prop} {s : Shared} {l : Addr} {its : List Value} {ns : List Int} {d : Value} {Q : Value → Shared → Prop} (hh : A.handled = none) (hl : s.heap.IsList l its.toArray) (hi : IntsAre its ns)
    (h0 : ns = [] → ∀ h' tk, (∀ b o, s.heap.get? b = some o → h'.get? b = some o) → Q d { s with heap := h', toks := tk })
    (h : 0 < ns.length → ∀ h' tk M t', (∀ b o, s.heap.get? b = some o → h'.get? b = some o) → M ∈ ns → (∀ a, a ∈ ns → M ≤ a) → Q (.int M t') { s with heap := h', toks := tk }) : wpAny (model prog w) A (call (.builtin "min") [.ref l] [(Str.ofString "default", d)]) Q E s := by
  obtain ⟨xs, e⟩ := hi.allInts.items
  have hn : numsOf (intItems xs).toList = ns := by rw [← e]; exact hi.numsOf
  rw [nums_intItems] at hn
  subst hn
  rw [e] at hl
  have hz : (intItems xs).size = xs.size := by simp [intItems]
  refine call_min_walkD (PySem.W.iter_listW (A := A.in1) hh hl fun s₂ e W st hfp hw hk => ?_)
  refine ⟨_, _, _, _, _, _, _, s.heap, (fun i j => decide (numAt xs i < numAt xs j)), rfl, W, st, hfp, hw, hk, fun h1 s' m => ?_, fun hp => ⟨fun i j vi vj s Q E _ hi hj q => CmpOf.ints_lt (numAt xs) (fun _ _ => intItems_at) i j vi vj s Q E hi hj q, fun v s' hP m => ?_⟩⟩
  · obtain ⟨h', tk, rfl, hk'⟩ := PySem.W.moved_old e rfl m
    exact h0 (by
      have : xs.size = 0 := by omega
      rw [← List.length_eq_zero_iff, List.length_map, Array.length_toList]; exact this) h' tk hk'
  · obtain ⟨h', tk, rfl, hk'⟩ := PySem.W.moved_old e rfl m
    obtain ⟨t, rfl⟩ := intItems_at hP
    rw [hz] at hp
    rw [hz]
    obtain ⟨h1, h2⟩ := argBest_lt (numAt xs) (xs.size - 1)
    refine h (by rw [List.length_map, Array.length_toList]; omega) h' tk _ t hk' ?_ fun a ha => ?_
    · rw [numAt_eq]; exact PySem.getD_mem (by rw [List.length_map, Array.length_toList]; omega)
    · obtain ⟨j, hj, rfl⟩ := mem_getD ha
      rw [List.length_map, Array.length_toList] at hj
      rw [← numAt_eq]; exact h2 j (by omega)
theorem b1_minD (hc : X.calm = true) : CallRK X (.builtin "min") [Str.ofString "default"] (fun xs zs H Q => zs = [.non] ∧ rB1 X.K .minD xs H Q) := by
  intro pins s σ H xs zs us ws Q I r rz h
  obtain ⟨ez, B, R, v, x, d, ex, bv, e, q⟩ := h
  cases x <;> try (simp [b1D] at e; done)
  rename_i o ys
  simp only [b1D, exdD] at e
  split at e
  · rename_i ns hn
    obtain ⟨F, S, rr⟩ := bv.rep
    obtain ⟨a, rfl, hs⟩ := rr.sqInts hn
    subst ex ez
    obtain ⟨its, rv, hl, _⟩ := I.list hs
    rw [Vals.ref1 r]
    obtain ⟨dv, rfl, rd⟩ : ∃ dv, ws = [dv] ∧ RelV .non dv := by
      cases rz with
      | cons a b => cases b; exact ⟨_, rfl, a⟩
    refine min_rawD (I.ok.hd hc) hl.isList rv.ints (fun hz h' tk hk => ?_) (fun hl' h' tk m t' hk h1 h2 => ?_)
    · rw [hz, if_neg (by simp)] at e
      cases e
      exact ⟨.non, H, I.kept hk, rd, q _ _ (bv.w.add .non)⟩
    · rw [if_pos hl'] at e
      cases e
      refine ⟨.int _, H, I.kept hk, ⟨_, rfl⟩, ?_⟩
      obtain ⟨g1, g2⟩ := minI_mem hl'
      have e : m = minI ns := Int.le_antisymm (h2 _ g1) (g2 m h1)
      rw [e]
      exact q _ _ (bv.w.int _)
  · cases e
theorem max_rawD {prog : Program} {w : World} {A : Around} {E : Value → Shared → Prop} {s : Shared} {l : Addr} {its : List Value} {ns : List Int} {d : Value} {Q : Value → Shared → Prop} (hh : A.handled = none) (hl : s.heap.IsList l its.toArray) (hi : IntsAre its ns)
    (h0 : ns = [] → ∀ h' tk, (∀ b o, s.heap.get? b = some o → h'.get? b = some o) → Q d { s with heap := h', toks := tk })
    (h : 0 < ns.length → ∀ h' tk M t', (∀ b o, s.heap.get? b = some o → h'.get? b = some o) → M ∈ ns → (∀ a, a ∈ ns → a ≤ M) → Q (.int M t') { s with heap := h', toks := tk }) : wpAny (model prog w) A (call (.builtin "max") [.ref l] [(Str.ofString "default", d)]) Q E s := by
  obtain ⟨xs, e⟩ := hi.allInts.items
  have hn : numsOf (intItems xs).toList = ns := by rw [← e]; exact hi.numsOf
  rw [nums_intItems] at hn
  subst hn
  rw [e] at hl
  have hz : (intItems xs).size = xs.size := by simp [intItems]
  refine call_max_walkD (PySem.W.iter_listW (A := A.in1) hh hl fun s₂ e W st hfp hw hk => ?_)
  refine ⟨_, _, _, _, _, _, _, s.heap, (fun i j => decide (numAt xs i > numAt xs j)), rfl, W, st, hfp, hw, hk, fun h1 s' m => ?_, fun hp => ⟨fun i j vi vj s Q E _ hi hj q => CmpOf.ints_gt (numAt xs) (fun _ _ => intItems_at) i j vi vj s Q E hi hj q, fun v s' hP m => ?_⟩⟩
  · obtain ⟨h', tk, rfl, hk'⟩ := PySem.W.moved_old e rfl m
    exact h0 (by
      have : xs.size = 0 := by omega
      rw [← List.length_eq_zero_iff, List.length_map, Array.length_toList]; exact this) h' tk hk'
  · obtain ⟨h', tk, rfl, hk'⟩ := PySem.W.moved_old e rfl m
    obtain ⟨t, rfl⟩ := intItems_at hP
    rw [hz] at hp
    rw [hz]
    obtain ⟨h1, h2⟩ := argBest_gt (numAt xs) (xs.size - 1)
    refine h (by rw [List.length_map, Array.length_toList]; omega) h' tk _ t hk' ?_ fun a ha => ?_
    · rw [numAt_eq]; exact PySem.getD_mem (by rw [List.length_map, Array.length_toList]; omega)
    · obtain ⟨j, hj, rfl⟩ := mem_getD ha
      rw [List.length_map, Array.length_toList] at hj
      rw [← numAt_eq]; exact h2 j (by omega)
theorem b1_maxD (hc : X.calm = true) : CallRK X (.builtin "max") [Str.ofString "default"] (fun xs zs H Q => zs = [.non] ∧ rB1 X.K .maxD xs H Q) := by
  intro pins s σ H xs zs us ws Q I r rz h
  obtain ⟨ez, B, R, v, x, d, ex, bv, e, q⟩ := h
  cases x <;> try (simp [b1D] at e; done)
  rename_i o ys
  simp only [b1D, exdD] at e
  split at e
  · rename_i ns hn
    obtain ⟨F, S, rr⟩ := bv.rep
    obtain ⟨a, rfl, hs⟩ := rr.sqInts hn
    subst ex ez
    obtain ⟨its, rv, hl, _⟩ := I.list hs
    rw [Vals.ref1 r]
    obtain ⟨dv, rfl, rd⟩ : ∃ dv, ws = [dv] ∧ RelV .non dv := by
      cases rz with
      | cons a b => cases b; exact ⟨_, rfl, a⟩
    refine max_rawD (I.ok.hd hc) hl.isList rv.ints (fun hz h' tk hk => ?_) (fun hl' h' tk m t' hk h1 h2 => ?_)
    · rw [hz, if_neg (by simp)] at e
      cases e
      exact ⟨.non, H, I.kept hk, rd, q _ _ (bv.w.add .non)⟩
    · rw [if_pos hl'] at e
      cases e
      refine ⟨.int _, H, I.kept hk, ⟨_, rfl⟩, ?_⟩
      obtain ⟨g1, g2⟩ := maxI_mem hl'
      have e : m = maxI ns := Int.le_antisymm (g2 m h1) (h2 _ g1)
      rw [e]
      exact q _ _ (bv.w.int _)
  · cases e
theorem isD {c : B1} {ty : String} {x : D} (h : b1ty c = some ty) : ∃ b, b1D c x = some (.bl b) ∧ kitB (tyD x) ty = some b := by
  cases c <;> (try (cases h; done)) <;> cases h <;> cases x <;> first | exact ⟨true, rfl, by simp only [tyD]; decide +kernel⟩ | exact ⟨false, rfl, by simp only [tyD]; decide +kernel⟩
theorem insTy {K : PySem.W.Frag} {C : Addr} (t : InsTy K C) {c : B1} {ty : String} {o : Bool} {k : Kd} {xs : List D} (h : b1ty c = some ty) : b1D c (.cel o k xs) = some (.bl false) ∧ PySem.W.kitOne K (.ref C) (.type ty) = some false := by
  cases c <;> (try (cases h; done)) <;> cases h
  · exact ⟨rfl, t.ki⟩
  · exact ⟨rfl, t.kb⟩
  · exact ⟨rfl, t.kl⟩
  · exact ⟨rfl, t.kt⟩
  · exact ⟨rfl, t.ks⟩
theorem b1_is {c : B1} {ty : String} (h : b1ty c = some ty) : CallR X (.builtin "isinstance") (rB1t X.K c ty) := by
  intro pins s σ H xs us Q I r hh
  obtain ⟨B, R, v, x, d, ex, bv, e, q⟩ := hh
  obtain ⟨F, S, rr⟩ := bv.rep
  by_cases nc : ∃ o c ns xs, x = .cel o (.ins c ns) xs
  · obtain ⟨o, c', ns, ys, rfl⟩ := nc
    obtain ⟨a, C, dx, fs, rfl, hH, t⟩ : ∃ a C dx fs, v = .ref a ∧ H a = some (.ins C dx fs) ∧ InsTy X.K C := by
      cases rr with
      | cel ca _ => obtain ⟨C, dx, _, t, hH⟩ := ca; exact ⟨_, C, dx, _, rfl, hH, t.1⟩
      | celo ca _ => obtain ⟨C, dx, _, t, hH⟩ := ca; exact ⟨_, C, dx, _, rfl, hH, t.1⟩
    obtain ⟨e1, e2⟩ := insTy t (o := o) (k := .ins c' ns) (xs := ys) h
    rw [e1] at e; cases e
    exact call_isi pins s σ H xs us Q I r ⟨.ref a, .ty ty, .ref C, .type ty, false, ex, .ty ty, .base (.ins hH t.cl t.ha t.hn t.ht t.hm), e2, q _ _ (bv.w.bl _)⟩
  obtain ⟨b, e1, e2⟩ := isD (x := x) h
  rw [e1] at e; cases e
  exact call_isi pins s σ H xs us Q I r ⟨v, .ty ty, .type (tyD x), .type ty, b, ex, .ty ty, rr.ty (fun o c ns xs z => nc ⟨o, c, ns, xs, z⟩), kit_ty e2, q _ _ (bv.w.bl _)⟩
end
end Sr
set_option Elab.async false
set_option linter.all false
set_option maxRecDepth 100000
set_option maxHeartbeats 2000000
/-! # Sr: terms and their text -/
namespace Sr
open PySem PySem.Spec PyProof.Rows L2

/-! ### readings -/
def agR : List Ag → List V → List Rt
  | .val d :: as, v :: vs => (v, d.shr) :: agR as vs
  | _ :: as, _ :: vs => agR as vs
  | _, _ => []
def agO : List Ag → List V → List Rt
  | .own d :: as, v :: vs => (v, d) :: agO as vs
  | _ :: as, _ :: vs => agO as vs
  | _, _ => []
def AgS (σ : L2.St) : List Ag → List V → Prop
  | [], [] => True
  | .val _ :: as, _ :: vs => AgS σ as vs
  | .own _ :: as, _ :: vs => AgS σ as vs
  | .var i :: as, v :: vs => σ[i]? = some (some v) ∧ AgS σ as vs
  | .io i :: as, v :: vs => σ[i]? = some (some v) ∧ AgS σ as vs
  | _, _ => False
/-- an iterator walks the items; hold: what is held meanwhile -/
structure ItOk (K : PySem.W.Frag) (B : Bs) (J : It) (xs : List D) (hold : List Rt) : Prop where
  go : ∀ i H R, W K B H (hold ++ R) → i < xs.length → J.go i H
  yld : ∀ i H R x H', W K B H (hold ++ R) → i < xs.length → J.yld i H x H' → ∃ d, xs[i]? = some d ∧ W K B H' ((x, d) :: (hold ++ R))
  stop : ∀ i H R, W K B H (hold ++ R) → xs.length ≤ i → J.stop i H
  small : ∀ {H R}, W K B H (hold ++ R) → xs.length ≤ sizeLine
section
variable (K : PySem.W.Frag) (Φ : Fs)
def tD (t : T) : TE := fun σ H Q => ∃ B e Γ d e', Wd K B σ e Γ H ∧ evE Φ t e = some (d, e') ∧ ∀ v H', Wd K B σ e' ((v, d) :: Γ) H' → Q v H'
def tT (t : T) : TT := fun σ H Q => ∃ B e Γ b e', Wd K B σ e Γ H ∧ evE Φ t e = some (.bl b, e') ∧ ∀ H', Wd K B σ e' Γ H' → Q b H'
def evO (a : T) (e : Env) : Option (D × Env) := if isP a then (evP a e).map fun d => (d, e) else evE Φ a e
def tO (t : T) : TE := fun σ H Q => ∃ B e Γ d e', Wd K B σ e Γ H ∧ evO Φ t e = some (d, e') ∧ ∀ v H' R, Brw K B H' R v d → Wd K B σ e' Γ H' → (∀ u z H'', W K B H'' ((u, z) :: R) → Wd K B σ e' ((u, z) :: Γ) H'') → Q v H'
def tLL (t : T) : TA := fun σ H Q => ∃ B e Γ ds e', Wd K B σ e Γ H ∧ evL Φ t e = some (ds, e') ∧ ∀ vs H', vs.length = ds.length → Wd K B σ e' (vs.zip ds ++ Γ) H' → Q vs H'
def tG (t : T) (io : List Bool) : TA := fun σ H Q => ∃ B e Γ as e', Wd K B σ e Γ H ∧ evG Φ t io e = some (as, e') ∧ ∀ vs H', AgS σ as vs → Wd K B σ e' (agO as vs ++ (agR as vs ++ Γ)) H' → Q vs H'
def tI (t : T) : TI := fun σ H R => ∃ B e Γ xs e', Wd K B σ e Γ H ∧ evI Φ t e = some (xs, e') ∧ ∀ J H' hold, ItOk K B J xs hold → Wd K B σ e' (hold ++ Γ) H' → R J H'
end
section
variable (Φ : Fs) (k : Nat) (n : Nm)
def SE (t : T) : Prop := ∀ {X : Cx} {sc : Scope} {e : Expr}, OkX Φ k n X sc → chkE n sc t e = true → PE X e (tD X.K Φ t)
def ST (t : T) : Prop := ∀ {X : Cx} {sc : Scope} {e : Expr}, OkX Φ k n X sc → chkE n sc t e = true → PT X e (tT X.K Φ t)
def SL (t : T) : Prop := ∀ {X : Cx} {sc : Scope} {es : List Expr}, OkX Φ k n X sc → chkL n sc t es = true → PA X es (tLL X.K Φ t)
def SG (t : T) : Prop := ∀ {io : List Bool} {X : Cx} {sc : Scope} {es : List Expr}, OkX Φ k n X sc → chkL n sc t es = true → PA X es (tG X.K Φ t io)
def SI (t : T) : Prop := ∀ {X : Cx} {sc : Scope} {g e : Expr}, (∀ a b, t ≠ .zip a b) → OkX Φ k n X sc → chkI n sc t e = true → PI X g e (tI X.K Φ t)
end

/-! ### tests -/
/-- a test of no form of its own -/
def plT : Expr → Bool
  | .UnaryOp .Not _ _ => false
  | .BoolOp .. => false
  | .IfExp .. => false
  | .Compare .. => false
  | _ => true
theorem isTrue_pl {e : Expr} {env : PySem.Env} (h : plT e = true) : ∀ whole, isTrue e env whole = (do let v ← whole; standAt e.pos; holding [v] (truthy v)) := by
  intro whole
  cases e <;> first | rfl | cases h | (rename_i o _ _; cases o <;> first | rfl | cases h)
section
variable {X : Cx}
def tIfT (tc ta tb : TT) : TT := fun σ H Q => tc σ H fun d H1 => if d = true then ta σ H1 Q else tb σ H1 Q
theorem pt_ifExp {c a b : Expr} {pos : Pos} {tc ta tb : TT} (hc : PT X c tc) (ha : PT X a ta) (hb : PT X b tb) : PT X (.IfExp c a b pos) (tIfT tc ta tb) := by
  refine ⟨fun pins s σ H Q I h => ?_⟩
  show wpAny _ _ (do if ← isTrue c X.env (eval c X.env) then isTrue a X.env (eval a X.env) else isTrue b X.env (eval b X.env)) _ _ _
  refine wpAny_bind (thn (hc.run pins s σ H _ I h) fun d s1 ⟨H1, I1, q1⟩ => ?_)
  cases d with
  | true => exact ha.run pins s1 σ H1 Q I1 q1
  | false => exact hb.run pins s1 σ H1 Q I1 q1
variable {Φ : Fs} {K : PySem.W.Frag}
/-- a test by its value -/
theorem tT_of {t : T} : ∀ σ H Q, tT K Φ t σ H Q → tD K Φ t σ H fun x H' => ∃ b, x = .bl b ∧ Q b H' := by
  rintro σ H Q ⟨B, e, Γ, b, e', w, h, q⟩
  refine ⟨B, e, Γ, _, e', w, h, fun v H' w' => ?_⟩
  have ev := w'.headBl
  subst ev
  exact ⟨b, rfl, q H' w'.drop⟩
theorem ST_of {e : Expr} {t : T} (h : PE X e (tD X.K Φ t)) (p : plT e = true) : PT X e (tT X.K Φ t) := (pt_val h (isTrue_pl p)).imp tT_of
end

/-! ### operands -/
section
variable {Φ : Fs} {k : Nat} {n : Nm} {X : Cx} {sc : Scope}
theorem SE.op {t : T} {e : Expr} (s : SE Φ k n t) (O : OkX Φ k n X sc) (h : chkE n sc t e = true) : PE X e (tO X.K Φ t) := by
  by_cases p : isP t = true
  · refine (evP_ok O p h).imp ?_
    rintro σ H Q ⟨B, e, Γ, d, e', w, hd, q⟩
    unfold evO at hd
    rw [if_pos p, Option.map_eq_some_iff] at hd
    obtain ⟨d', hd, ee⟩ := hd
    cases ee
    exact ⟨B, e, Γ, d, w, hd, fun v b => q v H _ b w fun u z H'' w' => ⟨w.fit, w.pr, w'⟩⟩
  · refine (s O h).imp ?_
    rintro σ H Q ⟨B, e, Γ, d, e', w, hd, q⟩
    unfold evO at hd
    rw [if_neg p] at hd
    exact ⟨B, e, Γ, d, e', w, hd, fun v H' w' => q v H' _ (Brw.ofHead w'.w) w'.drop fun u z H'' w'' => ⟨w'.fit, w'.pr, (w''.perm (.swap _ _ _)).drop⟩⟩

/-! ### names and constants -/
theorem SE_v (i : Nat) : SE Φ k n (.v i) := by
  intro X sc e O h
  cases e <;> try (simp [chkE] at h; done)
  rw [chkE] at h
  refine (O.name h).imp ?_
  rintro σ H Q ⟨B, env, Γ, d, e', w, hd, q⟩
  rw [evE] at hd
  split at hd
  · rename_i d0 h0
    obtain ⟨v, hv, _⟩ := w.read h0
    refine ⟨v, hv, ?_⟩
    split at hd
    · rename_i hu
      cases hd
      exact q v H (w.copy h0 hv hu)
    · cases hd
      exact q v H (w.move h0 hv)
  · cases hd
theorem SE_w (i : Nat) : SE Φ k n (.w i) := by
  intro X sc e O h
  cases e <;> try (simp [chkE] at h; done)
  rw [chkE] at h
  refine (O.name h).imp ?_
  rintro σ H Q ⟨B, env, Γ, d, e', w, hd, q⟩
  rw [evE] at hd
  split at hd
  · rename_i d0 h0
    obtain ⟨v, hv, _⟩ := w.read h0
    refine ⟨v, hv, ?_⟩
    cases hd
    have m := (w.move h0 hv).shr
    refine q v H ?_
    have hl : i < env.length := (List.getElem?_eq_some_iff.mp (at_iff.mp h0)).1
    have m2 : Wd X.K B σ (env.set i none) ((v, d0.shr) :: (v, d0.shr) :: Γ) H := ⟨m.fit, m.pr, W.dup m.w (shr_un d0)⟩
    have m3 := (m2.swap).put (i := i) (by rw [List.getElem?_set_self hl]) hv
    rw [List.set_set] at m3
    exact m3
  · cases hd
end
end Sr
set_option Elab.async false
set_option linter.all false
set_option maxRecDepth 100000
set_option maxHeartbeats 2000000
/-! # Sr: terms and their text, one by one -/
namespace Sr
open PySem PySem.Spec PyProof.Rows L2

/-- list + list, whatever the lists -/
def rCatS (K : PySem.W.Frag) : R2 := fun x y H Q => ∃ l b xs zs, x = .ref l ∧ y = .ref b ∧ SqL K H l xs ∧ SqL K H b zs ∧ xs.length + zs.length ≤ sizeLine ∧ ∀ p, H p = none → Q (.ref p) (upd H p (.lst (xs ++ zs)))
theorem op_catS {X : Cx} : OpR X (binaryOp .Add) (rCatS X.K) := by
  intro pins s σ H x y v u Q I rx ry h
  obtain ⟨l, b, xs, zs, rfl, rfl, hH, hB, hz, q⟩ := h
  cases rx
  cases ry
  obtain ⟨its, r, ⟨o, n, e, c1, c2, c3⟩, _⟩ := I.list hH
  obtain ⟨its2, r2, ⟨o2, n2, e2, d1, d2, d3⟩, _⟩ := I.list hB
  obtain ⟨cls, dd, data, sl⟩ := o
  obtain ⟨cls2, dd2, data2, sl2⟩ := o2
  simp only at c1 c2 c3 d1 d2 d3
  subst c1 c2 c3 d1 d2 d3
  have hl := r.length
  have hl2 := r2.length
  have ee : its.toArray ++ its2.toArray = (its ++ its2).toArray := by simp
  refine concat_meets ⟨_, e, rfl⟩ ⟨_, e2, rfl⟩ noFill_list_add seq_list_add PySem.F.slot_list_add PySem.F.entry_list_add (PySem.F.args_list_add_2 _ _) (list_addW l b its.toArray its2.toArray n n2 _ _ sl sl2 (by rw [List.size_toArray, List.size_toArray]; omega)) ⟨e, e2, ?_⟩
  rw [ee]
  exact ⟨.ref _, _, I.lnew (t' := s.toks) (r.append r2) (by rw [List.length_append]; omega), rfl, q _ I.fresh⟩
theorem big_le : big ≤ sizeLine := by rw [sizeLine_eq]; decide

section
variable {Φ : Fs} {k : Nat} {n : Nm}
theorem SE_non : SE Φ k n .non := by
  intro X sc e O h
  cases e <;> try (simp [chkE] at h; done)
  rename_i c _ _
  cases c <;> try (simp [chkE] at h; done)
  refine pe_non.imp ?_
  rintro σ H Q ⟨B, env, Γ, d, e', w, hd, q⟩
  cases hd
  exact q _ H ⟨w.fit, w.pr, w.w.add .non⟩
theorem SE_bl (b : Bool) : SE Φ k n (.bl b) := by
  intro X sc e O h
  cases e <;> try (simp [chkE] at h; done)
  rename_i c _ _
  cases c <;> try (simp [chkE] at h; done)
  rw [chkE, beq_iff_eq] at h
  subst h
  refine pe_bl.imp ?_
  rintro σ H Q ⟨B, env, Γ, d, e', w, hd, q⟩
  cases hd
  exact q _ H (w.bl _)
theorem SE_int (i : Int) : SE Φ k n (.int i) := by
  intro X sc e O h
  cases e <;> try (simp [chkE] at h; done)
  rename_i c _ _
  cases c <;> try (simp [chkE] at h; done)
  rw [chkE, decide_eq_true_eq] at h
  subst h
  refine pe_int.imp ?_
  rintro σ H Q ⟨B, env, Γ, d, e', w, hd, q⟩
  cases hd
  exact q _ H (w.int _)
theorem SE_str (x : Str) : SE Φ k n (.str x) := by
  intro X sc e O h
  cases e <;> try (simp [chkE] at h; done)
  rename_i c _ _
  cases c <;> try (simp [chkE] at h; done)
  rw [chkE, decide_eq_true_eq] at h
  subst h
  refine pe_str.imp ?_
  rintro σ H Q ⟨B, env, Γ, d, e', w, hd, q⟩
  cases hd
  exact q _ H ⟨w.fit, w.pr, w.w.add (.str _)⟩
theorem SE_frz {a : T} (s : SE Φ k n a) : SE Φ k n (.frz a) := by
  intro X sc e O h
  rw [chkE] at h
  refine (s O h).imp ?_
  rintro σ H Q ⟨B, env, Γ, d, e', w, hd, q⟩
  rw [evE] at hd
  split at hd
  · rename_i d0 e0 h0
    obtain ⟨rfl, rfl⟩ := Prod.mk.inj (Option.some.inj hd)
    exact ⟨B, env, Γ, d0, e0, w, h0, fun v H' w' => q v H' w'.shr⟩
  · cases hd
theorem shr_bl {d : D} {b : Bool} (h : d.shr = .bl b) : d = .bl b := by
  cases d <;> simp [D.shr] at h
  rw [h]
theorem ST_frz {a : T} (s : ST Φ k n a) : ST Φ k n (.frz a) := by
  intro X sc e O h
  rw [chkE] at h
  refine (s O h).imp ?_
  rintro σ H Q ⟨B, env, Γ, d, e', w, hd, q⟩
  rw [evE] at hd
  split at hd
  · rename_i d0 e0 h0
    simp only [Option.some.injEq, Prod.mk.injEq] at hd
    obtain ⟨h1, h2⟩ := hd
    have z := shr_bl h1
    subst z
    subst h2
    exact ⟨B, env, Γ, _, e0, w, h0, fun H' w' => q H' w'⟩
  · cases hd
theorem unL_app : ∀ xs ys : List D, unL (xs ++ ys) = (unL xs && unL ys)
  | [], ys => by simp [unL]
  | x :: xs, ys => by rw [List.cons_append, unL, unL, unL_app xs ys, Bool.and_assoc]
theorem reps_rep {K : PySem.W.Frag} {H : Hp} {vs : List V} {ds : List D} {S1 : List Addr} (r : Reps K H vs ds [] S1) : ∀ m : Nat, ∃ S', Reps K H (List.replicate m vs).flatten (List.replicate m ds).flatten [] S' ∧ ∀ a ∈ S', a ∈ S1
  | 0 => ⟨[], .nil, fun _ z => nomatch z⟩
  | m + 1 => by
    obtain ⟨S', r', h'⟩ := reps_rep r m
    refine ⟨S1 ++ S', ?_, fun a z => (List.mem_append.mp z).elim id (h' a)⟩
    rw [List.replicate_succ, List.replicate_succ, List.flatten_cons, List.flatten_cons]
    exact r.app r'
theorem len_rep {α : Type} (xs : List α) : ∀ m : Nat, (List.replicate m xs).flatten.length = m * xs.length
  | 0 => by simp
  | m + 1 => by rw [List.replicate_succ, List.flatten_cons, List.length_append, len_rep xs m, Nat.succ_mul, Nat.add_comm]
/-- the binary operators -/
def rBinD (K : PySem.W.Frag) (o : Bop) : R2 := fun x y H Q => ∃ B R a b d, W K B H ((y, b) :: (x, a) :: R) ∧ binD o a b = some d ∧ ∀ u H', W K B H' ((u, d) :: R) → Q u H'
theorem op_binD {X : Cx} {o : Bop} {p : Operator} (h : bop o p = true) : OpR X (binaryOp p) (rBinD X.K o) := by
  intro pins s σ H x y v u Q I rx ry hh
  obtain ⟨B, R, a, b, d, w, e, q⟩ := hh
  obtain ⟨F, S, rs, ok⟩ := w
  cases rs with
  | @cons _ _ _ _ Fb Sb _ _ rb rs =>
    cases rs with
    | @cons _ _ _ _ Fa Sa Fr Sr ra rr =>
      have hF : ∀ z ∈ Fr, z ∈ Fb ++ (Fa ++ Fr) := fun z hz => List.mem_append_right _ (List.mem_append_right _ hz)
      have hS : ∀ z ∈ Sr, z ∈ Sb ++ (Sa ++ Sr) := fun z hz => List.mem_append_right _ (List.mem_append_right _ hz)
      have nF : Fr.Nodup := (List.nodup_append.mp (List.nodup_append.mp ok.nd).2.1).2.1
      have wR : W X.K B H R := ⟨Fr, Sr, rr, ok.less hF nF hS⟩
      unfold binD at e
      split at e
      · rename_i i j
        cases ra; cases rb
        simp only [Option.map_eq_some_iff] at e
        obtain ⟨r, e, rfl⟩ := e
        exact op_bin h pins s σ H _ _ v u Q I rx ry ⟨i, j, r, rfl, rfl, e, q _ _ (wR.int r)⟩
      · rename_i oa xs ob ys
        split at e
        · split at e
          · rename_i c
            cases e
            simp only [Bool.and_eq_true, decide_eq_true_eq] at c
            cases p <;> try (simp [bop] at h; done)
            obtain ⟨aa, va, F1, S1, ea, sa, r1, f1, s1, n1⟩ := ra.lstI
            obtain ⟨ab, vb, F2, S2, eb, sb, r2, f2, s2, n2⟩ := rb.lstI
            have l1 := r1.len
            have l2 := r2.len
            have hz : va.length + vb.length ≤ sizeLine := by have := big_le; omega
            refine op_catS pins s σ H x y v u Q I rx ry ⟨aa, ab, va, vb, ea, eb, sa, sb, hz, fun p hp => q _ _ ?_⟩
            refine W.lstV (vs := va ++ vb) (ds := xs ++ ys) ?_ (by rw [List.length_append, List.length_append]; omega) hp (by rw [List.length_append]; exact hz)
            obtain ⟨m1, m2, m3⟩ := List.nodup_append.mp ok.nd
            obtain ⟨m4, m5, m6⟩ := List.nodup_append.mp m2
            refine ⟨(F1 ++ F2) ++ Fr, (S1 ++ S2) ++ Sr, ?_, ok.less (fun z hz => ?_) ?_ fun z hz => ?_⟩
            · show Reps X.K H _ _ _ _
              have ll : (va ++ vb).length = (xs ++ ys).length := by rw [List.length_append, List.length_append]; omega
              rw [List.map_append, List.map_append, List.map_fst_zip (Nat.le_of_eq ll), List.map_snd_zip (Nat.le_of_eq ll.symm)]
              exact (r1.app r2).app rr
            · rcases List.mem_append.mp hz with hz | hz
              · rcases List.mem_append.mp hz with hz | hz
                · exact List.mem_append_right _ (List.mem_append_left _ (f1 z hz))
                · exact List.mem_append_left _ (f2 z hz)
              · exact hF z hz
            · refine List.nodup_append.mpr ⟨List.nodup_append.mpr ⟨n1 m4, n2 m1, fun a ha b hb e => m3 b (f2 b hb) a (List.mem_append_left _ (f1 a ha)) e.symm⟩, nF, fun a ha b hb => ?_⟩
              rcases List.mem_append.mp ha with ha | ha
              · exact m6 a (f1 a ha) b hb
              · exact m3 a (f2 a ha) b (List.mem_append_right _ hb)
            · rcases List.mem_append.mp hz with hz | hz
              · rcases List.mem_append.mp hz with hz | hz
                · exact List.mem_append_right _ (List.mem_append_left _ (s1 z hz))
                · exact List.mem_append_left _ (s2 z hz)
              · exact hS z hz
          · cases e
        · cases e
      · rename_i xs ys
        split at e
        · split at e
          · rename_i c
            cases e
            simp only [Bool.and_eq_true, decide_eq_true_eq, Bool.not_eq_true', List.isEmpty_eq_false_iff] at c
            obtain ⟨⟨⟨c1, c2⟩, c3⟩, c4⟩ := c
            cases p <;> try (simp [bop] at h; done)
            cases ra with
            | @tup aa va _ _ S1 e1 r1 =>
              cases rb with
              | @tup ab vb _ _ S2 e2 r2 =>
                have z1 := r1.un c1
                have z2 := r2.un c2
                subst z1 z2
                have l1 := r1.len
                have l2 := r2.len
                have hz : va.length + vb.length ≤ sizeLine := by have := big_le; omega
                have hv : va ≠ [] := fun q => c3 (List.length_eq_zero_iff.mp (by rw [← l1, q]; rfl))
                refine op_catT pins s σ H _ _ v u Q I rx ry ⟨aa, ab, va, vb, rfl, rfl, .inl e1, .inl e2, hv, hz, fun hy => q _ _ ?_, fun _ p hp => q _ _ ?_⟩
                · have ey : ys = [] := List.length_eq_zero_iff.mp (by rw [← l2, hy]; rfl)
                  subst ey
                  rw [List.append_nil]
                  refine ⟨[] ++ Fr, Sa ++ Sr, .cons (.tup e1 r1) rr, ok.less (fun a z => hF a (by simpa using z)) (by simpa using nF) fun a z => ?_⟩
                  rcases List.mem_append.mp z with z | z
                  · exact List.mem_append_right _ (List.mem_append_left _ z)
                  · exact hS a z
                · refine W.tupV (vs := va ++ vb) (ds := xs ++ ys) (W.beside ok rr hF nF hS (r1.app r2) fun z hz => ?_) (by rw [List.length_append, List.length_append]; omega) hp (by rw [List.length_append]; exact hz)
                  rcases List.mem_append.mp hz with hz | hz
                  · exact List.mem_append_right _ (List.mem_append_left _ hz)
                  · exact List.mem_append_left _ hz
          · cases e
        · cases e
      · rename_i oa xs kk
        split at e
        · split at e
          · rename_i c
            cases e
            simp only [Bool.and_eq_true, decide_eq_true_eq] at c
            obtain ⟨⟨⟨c1, c2⟩, c3⟩, c4⟩ := c
            cases p <;> try (simp [bop] at h; done)
            cases rb
            cases ra with
            | shr e0 r1 => simp at c1
            | mod e0 r1 => simp at c1
            | @own a0 vs0 _ F1 S1 e0 r1 =>
              simp only [Bool.and_eq_true] at c1
              have z1 := r1.un c1.2
              subst z1
              have l1 := r1.len
              have hz : vs0.length * kk.toNat ≤ sizeLine := by have := big_le; rw [l1]; omega
              obtain ⟨S', r', h'⟩ := reps_rep r1 kk.toNat
              refine op_rep pins s σ H _ _ v u Q I rx ry ⟨a0, kk, vs0, rfl, rfl, e0, by omega, by omega, hz, fun p hp => q _ _ ?_⟩
              refine W.lstV (W.beside ok rr hF nF hS r' fun z hz => ?_) r'.len hp ?_
              · exact List.mem_append_right _ (List.mem_append_left _ (h' z hz))
              · rw [len_rep, Nat.mul_comm]; exact hz
          · cases e
        · cases e
      · cases e
theorem SE_bin {o : Bop} {a b : T} (sa : SE Φ k n a) (sb : SE Φ k n b) : SE Φ k n (.bin o a b) := by
  intro X sc e O h
  cases e <;> try (simp [chkE] at h; done)
  simp only [chkE, Bool.and_eq_true] at h
  refine (pe_op (op_binD h.1.1) (sa O h.1.2) (sb O h.2)).imp ?_
  rintro σ H Q ⟨B, env, Γ, d, e', w, hd, q⟩
  rw [evE] at hd
  split at hd
  · rename_i x e1 h1
    split at hd
    · rename_i y e2 h2
      rw [Option.map_eq_some_iff] at hd
      obtain ⟨d', hd, ee⟩ := hd
      obtain ⟨rfl, rfl⟩ := Prod.mk.inj ee
      refine ⟨B, env, Γ, x, e1, w, h1, fun v H1 w1 => ⟨B, e1, _, y, e2, w1, h2, fun u H2 w2 => ?_⟩⟩
      exact ⟨B, Γ ++ er σ e2, x, y, d', w2.w, hd, fun z H3 w3 => q z H3 ⟨w2.fit, w2.pr, w3⟩⟩
    · cases hd
  · cases hd
theorem SE_neg {a : T} (s : SE Φ k n a) : SE Φ k n (.neg a) := by
  intro X sc e O h
  cases e <;> try (simp [chkE] at h; done)
  rename_i uo x _
  cases uo <;> try (simp [chkE] at h; done)
  simp only [chkE] at h
  refine (pe_un un_neg (s O h)).imp ?_
  rintro σ H Q ⟨B, env, Γ, d, e', w, hd, q⟩
  rw [evE] at hd
  split at hd
  · rename_i i e1 h1
    obtain ⟨rfl, rfl⟩ := Prod.mk.inj (Option.some.inj hd)
    refine ⟨B, env, Γ, _, e1, w, h1, fun v H1 w1 => ?_⟩
    have ev := w1.headInt
    subst ev
    exact ⟨i, rfl, q _ H1 (w1.drop.int _)⟩
  · cases hd
theorem cmp_imp {K : PySem.W.Frag} {o : Cop} {a b : T} {σ : L2.St} {H : Hp} {Q : VK} (h : tD K Φ (.cmp o a b) σ H Q) : tOp (rCmp o) (tD K Φ a) (tD K Φ b) σ H Q := by
  obtain ⟨B, env, Γ, d, e', w, hd, q⟩ := h
  rw [evE] at hd
  split at hd
  · rename_i i e1 h1
    split at hd
    · rename_i j e2 h2
      obtain ⟨rfl, rfl⟩ := Prod.mk.inj (Option.some.inj hd)
      refine ⟨B, env, Γ, _, e1, w, h1, fun v H1 w1 => ⟨B, e1, _, _, e2, w1, h2, fun u H2 w2 => ?_⟩⟩
      have ev := w2.headInt
      have ew := w2.drop.headInt
      subst ev ew
      exact ⟨i, j, rfl, rfl, q _ H2 (w2.drop.drop.bl _)⟩
    · cases hd
  · cases hd
theorem SE_cmp {o : Cop} {a b : T} (sa : SE Φ k n a) (sb : SE Φ k n b) : SE Φ k n (.cmp o a b) := by
  intro X sc e O h
  cases e <;> try (simp [chkE] at h; done)
  rename_i l ops cs _
  match ops, cs, h with
  | [op], [c], h =>
    simp only [chkE, Bool.and_eq_true] at h
    exact (pe_cmpR (op_cmp h.1.1) (sa O h.1.2) (sb O h.2) (cop_mark h.1.1 _)).imp fun σ H Q q => cmp_imp q
theorem ST_cmp {o : Cop} {a b : T} (sa : SE Φ k n a) (sb : SE Φ k n b) : ST Φ k n (.cmp o a b) := by
  intro X sc e O h
  cases e <;> try (simp [chkE] at h; done)
  rename_i l ops cs _
  match ops, cs, h with
  | [op], [c], h =>
    simp only [chkE, Bool.and_eq_true] at h
    exact (pt_cmpR (op_cmp h.1.1) (sa O h.1.2) (sb O h.2) (cop_mark h.1.1 _)).imp fun σ H Q q => cmp_imp (tT_of σ H Q q)
end
end Sr
set_option Elab.async false
set_option linter.all false
set_option maxRecDepth 100000
set_option maxHeartbeats 2000000
/-! # Sr: terms and their text, one by one (2) -/
namespace Sr
open PySem PySem.Spec PyProof.Rows L2
theorem inj2 {α β : Type} {a c : α} {b d : β} (h : some (a, b) = some (c, d)) : a = c ∧ b = d := Prod.mk.inj (Option.some.inj h)
section
variable {Φ : Fs} {k : Nat} {n : Nm}

/-! ### == and != -/
def eqR (neg : Bool) (K : PySem.W.Frag) : R2 := if neg then rNeD K else rEqD K
theorem op_eqR {X : Cx} (hu : X.A.units + 64 < cLine) (neg : Bool) : OpR X (compareOp (if neg then .NotEq else .Eq)) (eqR neg X.K) := by
  cases neg with
  | true => exact op_neD hu
  | false => exact op_eqD hu
theorem dp64 {d : D} (h : eqOk d = true) : d.py.depth ≤ 64 := by
  unfold eqOk SeqAt.shaped at h
  simp only [Bool.and_eq_true, decide_eq_true_eq] at h
  exact h.2
theorem eqR_of {K : PySem.W.Frag} {neg : Bool} {H : Hp} {x y : V} {a b : D} {F S F' S' : List Addr} {Q : VK} (ra : Rep K H x a F S) (rb : Rep K H y b F' S') (c : (eqOk a && eqOk b) = true) (q : Q (.bl (if neg then !eqv a b else eqv a b)) H) : eqR neg K x y H Q := by
  simp only [Bool.and_eq_true] at c
  cases neg with
  | true => exact ⟨_, _, ra.dp (dp64 c.1), rb.dp (dp64 c.2), c.1, c.2, q⟩
  | false => exact ⟨_, _, ra.dp (dp64 c.1), rb.dp (dp64 c.2), c.1, c.2, q⟩
/-- both sides -/
def evEq (Φ : Fs) (neg : Bool) (a b : T) (e : Env) : Option (D × Env) := match (if isP a && isP b then (evP a e).map fun d => (d, e) else evE Φ a e) with
    | some (x, e) => match evO Φ b e with
      | some (y, e) => if eqOk x && eqOk y then some (.bl (if neg then !eqv x y else eqv x y), e) else none
      | none => none
    | none => none
theorem evE_eq (a b : T) (e : Env) : evE Φ (.eq a b) e = evEq Φ false a b e := by rw [evE]; rfl
theorem evE_ne (a b : T) (e : Env) : evE Φ (.ne a b) e = evEq Φ true a b e := by rw [evE]; rfl
/-- a reading of both sides -/
def tEq (K : PySem.W.Frag) (Φ : Fs) (neg : Bool) (a b : T) : TE := fun σ H Q => ∃ B e Γ d e', Wd K B σ e Γ H ∧ evEq Φ neg a b e = some (d, e') ∧ ∀ v H', Wd K B σ e' ((v, d) :: Γ) H' → Q v H'
theorem eq_sides {X : Cx} {sc : Scope} {a b : T} {x y : Expr} {neg : Bool} (sa : SE Φ k n a) (sb : SE Φ k n b) (O : OkX Φ k n X sc) (ha : chkE n sc a x = true) (hb : chkE n sc b y = true) :
    ∃ ta tb, PE X x ta ∧ PE X y tb ∧ ∀ σ H Q, tEq X.K Φ neg a b σ H Q → tOp (eqR neg X.K) ta tb σ H Q := by
  by_cases p : (isP a && isP b) = true
  · simp only [Bool.and_eq_true] at p
    refine ⟨_, _, evP_ok O p.1 ha, evP_ok O p.2 hb, ?_⟩
    rintro σ H Q ⟨B, env, Γ, d, e', w, hd, q⟩
    unfold evEq evO at hd
    rw [if_pos (by rw [p.1, p.2]; rfl), p.2] at hd
    simp only [if_true] at hd
    cases h1 : evP a env with
    | none => rw [h1] at hd; cases hd
    | some dx =>
      cases h2 : evP b env with
      | none => rw [h1] at hd; simp [h2] at hd
      | some dy =>
        rw [h1] at hd
        simp only [Option.map_some, h2] at hd
        split at hd
        · rename_i c
          obtain ⟨rfl, rfl⟩ := inj2 hd
          refine ⟨B, env, Γ, dx, w, h1, fun v bv => ⟨B, env, Γ, dy, w, h2, fun u bu => ?_⟩⟩
          obtain ⟨F, S, r1⟩ := bv.rep
          obtain ⟨F', S', r2⟩ := bu.rep
          exact eqR_of r1 r2 c (q _ H (w.bl _))
        · cases hd
  · refine ⟨_, _, sa O ha, sb.op O hb, ?_⟩
    rintro σ H Q ⟨B, env, Γ, d, e', w, hd, q⟩
    unfold evEq at hd
    rw [if_neg p] at hd
    split at hd
    · rename_i dx e1 h1
      split at hd
      · rename_i dy e2 h2
        split at hd
        · rename_i c
          obtain ⟨rfl, rfl⟩ := inj2 hd
          refine ⟨B, env, Γ, dx, e1, w, h1, fun v H1 w1 => ⟨B, e1, _, dy, e2, w1, h2, fun u H2 R bu w2 _ => ?_⟩⟩
          obtain ⟨F, S, r1⟩ := w2.head
          obtain ⟨F', S', r2⟩ := bu.rep
          exact eqR_of r1 r2 c (q _ H2 (w2.drop.bl _))
        · cases hd
      · cases hd
    · cases hd
theorem SE_eqs {neg : Bool} {a b : T} (sa : SE Φ k n a) (sb : SE Φ k n b) {X : Cx} {sc : Scope} {x y : Expr} {pos : Pos} (O : OkX Φ k n X sc) (ha : chkE n sc a x = true) (hb : chkE n sc b y = true) :
    PE X (.Compare x [if neg then .NotEq else .Eq] [y] pos) (tEq X.K Φ neg a b) := by
  obtain ⟨ta, tb, h1, h2, h3⟩ := eq_sides (neg := neg) sa sb O ha hb
  exact (pe_cmpR (op_eqR O.lv0.units neg) h1 h2 (by cases neg <;> exact nobehind _ (by decide) (by decide))).imp h3
theorem ST_eqs {neg : Bool} {a b : T} (sa : SE Φ k n a) (sb : SE Φ k n b) {X : Cx} {sc : Scope} {x y : Expr} {pos : Pos} (O : OkX Φ k n X sc) (ha : chkE n sc a x = true) (hb : chkE n sc b y = true) :
    PT X (.Compare x [if neg then .NotEq else .Eq] [y] pos) (tTest (tEq X.K Φ neg a b)) := by
  obtain ⟨ta, tb, h1, h2, h3⟩ := eq_sides (neg := neg) sa sb O ha hb
  exact (pt_cmpR (op_eqR O.lv0.units neg) h1 h2 (by cases neg <;> exact nobehind _ (by decide) (by decide))).imp fun σ H Q q => h3 σ H _ q
theorem chk_eq {a b : T} {sc : Scope} {e : Expr} (h : chkE n sc (.eq a b) e = true) : ∃ x y pos, e = .Compare x [.Eq] [y] pos ∧ (chkE n sc a x = true ∧ chkE n sc b y = true) := by
  cases e <;> try (simp [chkE] at h; done)
  rename_i l ops cs _
  rcases ops with _ | ⟨op, _ | ⟨op2, r⟩⟩
  · simp [chkE] at h
  · rcases cs with _ | ⟨c, _ | ⟨c2, r2⟩⟩
    · cases op <;> simp [chkE] at h
    · cases op <;> try (simp [chkE] at h; done)
      simp only [chkE, Bool.and_eq_true] at h
      exact ⟨_, _, _, rfl, h⟩
    · cases op <;> simp [chkE] at h
  · cases op <;> simp [chkE] at h
theorem chk_ne {a b : T} {sc : Scope} {e : Expr} (h : chkE n sc (.ne a b) e = true) : ∃ x y pos, e = .Compare x [.NotEq] [y] pos ∧ (chkE n sc a x = true ∧ chkE n sc b y = true) := by
  cases e <;> try (simp [chkE] at h; done)
  rename_i l ops cs _
  rcases ops with _ | ⟨op, _ | ⟨op2, r⟩⟩
  · simp [chkE] at h
  · rcases cs with _ | ⟨c, _ | ⟨c2, r2⟩⟩
    · cases op <;> simp [chkE] at h
    · cases op <;> try (simp [chkE] at h; done)
      simp only [chkE, Bool.and_eq_true] at h
      exact ⟨_, _, _, rfl, h⟩
    · cases op <;> simp [chkE] at h
  · cases op <;> simp [chkE] at h
theorem SE_eq {a b : T} (sa : SE Φ k n a) (sb : SE Φ k n b) : SE Φ k n (.eq a b) := by
  intro X sc e O h
  obtain ⟨x, y, pos, rfl, hh⟩ := chk_eq h
  refine (SE_eqs (neg := false) sa sb O hh.1 hh.2).imp ?_
  rintro σ H Q ⟨B, env, Γ, d, e', w, hd, q⟩
  exact ⟨B, env, Γ, d, e', w, by rw [evE_eq] at hd; exact hd, q⟩
theorem ST_eq {a b : T} (sa : SE Φ k n a) (sb : SE Φ k n b) : ST Φ k n (.eq a b) := by
  intro X sc e O h
  obtain ⟨x, y, pos, rfl, hh⟩ := chk_eq h
  refine (ST_eqs (neg := false) sa sb O hh.1 hh.2).imp fun σ H Q hq => ?_
  obtain ⟨B, env, Γ, d, e', w, hd, q⟩ := tT_of σ H Q hq
  exact ⟨B, env, Γ, d, e', w, by rw [evE_eq] at hd; exact hd, q⟩
theorem SE_ne {a b : T} (sa : SE Φ k n a) (sb : SE Φ k n b) : SE Φ k n (.ne a b) := by
  intro X sc e O h
  obtain ⟨x, y, pos, rfl, hh⟩ := chk_ne h
  refine (SE_eqs (neg := true) sa sb O hh.1 hh.2).imp ?_
  rintro σ H Q ⟨B, env, Γ, d, e', w, hd, q⟩
  exact ⟨B, env, Γ, d, e', w, by rw [evE_ne] at hd; exact hd, q⟩
theorem ST_ne {a b : T} (sa : SE Φ k n a) (sb : SE Φ k n b) : ST Φ k n (.ne a b) := by
  intro X sc e O h
  obtain ⟨x, y, pos, rfl, hh⟩ := chk_ne h
  refine (ST_eqs (neg := true) sa sb O hh.1 hh.2).imp fun σ H Q hq => ?_
  obtain ⟨B, env, Γ, d, e', w, hd, q⟩ := tT_of σ H Q hq
  exact ⟨B, env, Γ, d, e', w, by rw [evE_ne] at hd; exact hd, q⟩

/-! ### in -/
def inR (neg : Bool) (K : PySem.W.Frag) : R2 := if neg then rNotInD K else rInD K
theorem op_inR {X : Cx} (hu : X.A.units + 65 < cLine) (neg : Bool) : OpR X (compareOp (if neg then .NotIn else .In)) (inR neg X.K) := by
  cases neg with
  | true => exact op_notInD hu
  | false => exact op_inD hu
theorem inD_py (x : D) : ∀ ys : List D, ((pyL ys).any fun z => PyData.eqv z x.py) = inD x ys
  | [] => rfl
  | y :: ys => by
    have ih := inD_py x ys
    unfold inD at ih ⊢
    rw [pyL, List.any_cons, List.any_cons, ih]; rfl
theorem inR_of {K : PySem.W.Frag} {neg : Bool} {H : Hp} {x y : V} {a : D} {o : Bool} {ys : List D} {F S F' S' : List Addr} {Q : VK} (ra : Rep K H x a F S) (rb : Rep K H y (.lst o ys) F' S') (c : (eqOk a && eqOk (.lst o ys)) = true) (q : Q (.bl (if neg then !inD a ys else inD a ys)) H) : inR neg K x y H Q := by
  simp only [Bool.and_eq_true] at c
  cases neg with
  | true => exact ⟨_, _, ra.dp (dp64 c.1), rb.dp (dp64 c.2), c.1, c.2, by rw [inD_py]; exact q⟩
  | false => exact ⟨_, _, ra.dp (dp64 c.1), rb.dp (dp64 c.2), c.1, c.2, by rw [inD_py]; exact q⟩
/-- both sides -/
def evIn (Φ : Fs) (neg : Bool) (a b : T) (e : Env) : Option (D × Env) := match (if isP a && isP b then (evP a e).map fun d => (d, e) else evE Φ a e) with
    | some (x, e) => match evO Φ b e with
      | some (.lst o ys, e) => if eqOk x && eqOk (.lst o ys) then some (.bl (if neg then !inD x ys else inD x ys), e) else none
      | _ => none
    | none => none
theorem evE_inn (a b : T) (e : Env) : evE Φ (.inn a b) e = evIn Φ false a b e := by rw [evE]; rfl
theorem evE_nin (a b : T) (e : Env) : evE Φ (.nin a b) e = evIn Φ true a b e := by rw [evE]; rfl
/-- a reading of both sides -/
def tIn (K : PySem.W.Frag) (Φ : Fs) (neg : Bool) (a b : T) : TE := fun σ H Q => ∃ B e Γ d e', Wd K B σ e Γ H ∧ evIn Φ neg a b e = some (d, e') ∧ ∀ v H', Wd K B σ e' ((v, d) :: Γ) H' → Q v H'
theorem in_sides {X : Cx} {sc : Scope} {a b : T} {x y : Expr} {neg : Bool} (sa : SE Φ k n a) (sb : SE Φ k n b) (O : OkX Φ k n X sc) (ha : chkE n sc a x = true) (hb : chkE n sc b y = true) :
    ∃ ta tb, PE X x ta ∧ PE X y tb ∧ ∀ σ H Q, tIn X.K Φ neg a b σ H Q → tOp (inR neg X.K) ta tb σ H Q := by
  by_cases p : (isP a && isP b) = true
  · simp only [Bool.and_eq_true] at p
    refine ⟨_, _, evP_ok O p.1 ha, evP_ok O p.2 hb, ?_⟩
    rintro σ H Q ⟨B, env, Γ, d, e', w, hd, q⟩
    unfold evIn evO at hd
    rw [if_pos (by rw [p.1, p.2]; rfl), p.2] at hd
    simp only [if_true] at hd
    cases h1 : evP a env with
    | none => rw [h1] at hd; cases hd
    | some dx =>
      cases h2 : evP b env with
      | none => rw [h1] at hd; simp [h2] at hd
      | some dy =>
        rw [h1] at hd
        simp only [Option.map_some, h2] at hd
        cases dy <;> try (cases hd; done)
        rename_i o ys
        simp only at hd
        split at hd
        · rename_i c
          obtain ⟨rfl, rfl⟩ := inj2 hd
          refine ⟨B, env, Γ, dx, w, h1, fun v bv => ⟨B, env, Γ, _, w, h2, fun u bu => ?_⟩⟩
          obtain ⟨F, S, r1⟩ := bv.rep
          obtain ⟨F', S', r2⟩ := bu.rep
          exact inR_of r1 r2 c (q _ H (w.bl _))
        · cases hd
  · refine ⟨_, _, sa O ha, sb.op O hb, ?_⟩
    rintro σ H Q ⟨B, env, Γ, d, e', w, hd, q⟩
    unfold evIn at hd
    rw [if_neg p] at hd
    split at hd
    · rename_i dx e1 h1
      split at hd
      · rename_i o ys e2 h2
        split at hd
        · rename_i c
          obtain ⟨rfl, rfl⟩ := inj2 hd
          refine ⟨B, env, Γ, dx, e1, w, h1, fun v H1 w1 => ⟨B, e1, _, _, e2, w1, h2, fun u H2 R bu w2 _ => ?_⟩⟩
          obtain ⟨F, S, r1⟩ := w2.head
          obtain ⟨F', S', r2⟩ := bu.rep
          exact inR_of r1 r2 c (q _ H2 (w2.drop.bl _))
        · cases hd
      · cases hd
    · cases hd
theorem SE_ins {neg : Bool} {a b : T} (sa : SE Φ k n a) (sb : SE Φ k n b) {X : Cx} {sc : Scope} {x y : Expr} {pos : Pos} (O : OkX Φ k n X sc) (ha : chkE n sc a x = true) (hb : chkE n sc b y = true) (hm : behindInMarks (if neg then .NotIn else .In) y = false) :
    PE X (.Compare x [if neg then .NotIn else .In] [y] pos) (tIn X.K Φ neg a b) := by
  obtain ⟨ta, tb, h1, h2, h3⟩ := in_sides (neg := neg) sa sb O ha hb
  exact (pe_cmpR (op_inR (by have := O.lv0.un; omega) neg) h1 h2 hm).imp h3
theorem ST_ins {neg : Bool} {a b : T} (sa : SE Φ k n a) (sb : SE Φ k n b) {X : Cx} {sc : Scope} {x y : Expr} {pos : Pos} (O : OkX Φ k n X sc) (ha : chkE n sc a x = true) (hb : chkE n sc b y = true) (hm : behindInMarks (if neg then .NotIn else .In) y = false) :
    PT X (.Compare x [if neg then .NotIn else .In] [y] pos) (tTest (tIn X.K Φ neg a b)) := by
  obtain ⟨ta, tb, h1, h2, h3⟩ := in_sides (neg := neg) sa sb O ha hb
  exact (pt_cmpR (op_inR (by have := O.lv0.un; omega) neg) h1 h2 hm).imp fun σ H Q q => h3 σ H _ q
theorem chk_inn {a b : T} {sc : Scope} {e : Expr} (h : chkE n sc (.inn a b) e = true) : ∃ x y pos, e = .Compare x [.In] [y] pos ∧ (chkE n sc a x = true ∧ chkE n sc b y = true) ∧ behindInMarks .In y = false := by
  cases e <;> try (simp [chkE] at h; done)
  rename_i l ops cs _
  rcases ops with _ | ⟨op, _ | ⟨op2, r⟩⟩
  · simp [chkE] at h
  · rcases cs with _ | ⟨c, _ | ⟨c2, r2⟩⟩
    · cases op <;> simp [chkE] at h
    · cases op <;> try (simp [chkE] at h; done)
      simp only [chkE, Bool.and_eq_true, Bool.not_eq_true'] at h
      exact ⟨_, _, _, rfl, ⟨h.1.2, h.2⟩, h.1.1⟩
    · cases op <;> simp [chkE] at h
  · cases op <;> simp [chkE] at h
theorem chk_nin {a b : T} {sc : Scope} {e : Expr} (h : chkE n sc (.nin a b) e = true) : ∃ x y pos, e = .Compare x [.NotIn] [y] pos ∧ (chkE n sc a x = true ∧ chkE n sc b y = true) ∧ behindInMarks .NotIn y = false := by
  cases e <;> try (simp [chkE] at h; done)
  rename_i l ops cs _
  rcases ops with _ | ⟨op, _ | ⟨op2, r⟩⟩
  · simp [chkE] at h
  · rcases cs with _ | ⟨c, _ | ⟨c2, r2⟩⟩
    · cases op <;> simp [chkE] at h
    · cases op <;> try (simp [chkE] at h; done)
      simp only [chkE, Bool.and_eq_true, Bool.not_eq_true'] at h
      exact ⟨_, _, _, rfl, ⟨h.1.2, h.2⟩, h.1.1⟩
    · cases op <;> simp [chkE] at h
  · cases op <;> simp [chkE] at h
theorem SE_inn {a b : T} (sa : SE Φ k n a) (sb : SE Φ k n b) : SE Φ k n (.inn a b) := by
  intro X sc e O h
  obtain ⟨x, y, pos, rfl, hh⟩ := chk_inn h
  refine (SE_ins (neg := false) sa sb O hh.1.1 hh.1.2 hh.2).imp ?_
  rintro σ H Q ⟨B, env, Γ, d, e', w, hd, q⟩
  exact ⟨B, env, Γ, d, e', w, by rw [evE_inn] at hd; exact hd, q⟩
theorem ST_inn {a b : T} (sa : SE Φ k n a) (sb : SE Φ k n b) : ST Φ k n (.inn a b) := by
  intro X sc e O h
  obtain ⟨x, y, pos, rfl, hh⟩ := chk_inn h
  refine (ST_ins (neg := false) sa sb O hh.1.1 hh.1.2 hh.2).imp fun σ H Q hq => ?_
  obtain ⟨B, env, Γ, d, e', w, hd, q⟩ := tT_of σ H Q hq
  exact ⟨B, env, Γ, d, e', w, by rw [evE_inn] at hd; exact hd, q⟩
theorem SE_nin {a b : T} (sa : SE Φ k n a) (sb : SE Φ k n b) : SE Φ k n (.nin a b) := by
  intro X sc e O h
  obtain ⟨x, y, pos, rfl, hh⟩ := chk_nin h
  refine (SE_ins (neg := true) sa sb O hh.1.1 hh.1.2 hh.2).imp ?_
  rintro σ H Q ⟨B, env, Γ, d, e', w, hd, q⟩
  exact ⟨B, env, Γ, d, e', w, by rw [evE_nin] at hd; exact hd, q⟩
theorem ST_nin {a b : T} (sa : SE Φ k n a) (sb : SE Φ k n b) : ST Φ k n (.nin a b) := by
  intro X sc e O h
  obtain ⟨x, y, pos, rfl, hh⟩ := chk_nin h
  refine (ST_ins (neg := true) sa sb O hh.1.1 hh.1.2 hh.2).imp fun σ H Q hq => ?_
  obtain ⟨B, env, Γ, d, e', w, hd, q⟩ := tT_of σ H Q hq
  exact ⟨B, env, Γ, d, e', w, by rw [evE_nin] at hd; exact hd, q⟩

/-! ### is None -/
theorem Rep.non_iff {K : PySem.W.Frag} {H : Hp} {v : V} {d : D} {F S : List Addr} (r : Rep K H v d F S) : decide (v = .non) = (match d with | .non => true | _ => false) := by
  cases r <;> rfl
theorem isN_imp {K : PySem.W.Frag} {a : T} {σ : L2.St} {H : Hp} {Q : VK} (h : tD K Φ (.isN a) σ H Q) : tIsN (tO K Φ a) σ H Q := by
  obtain ⟨B, env, Γ, d, e', w, hd, q⟩ := h
  rw [evE] at hd
  change (match evO Φ a env with | some (.non, e) => some (D.bl true, e) | some (_, e) => some (.bl false, e) | none => none) = some (d, e') at hd
  split at hd
  · rename_i e1 h1
    obtain ⟨rfl, rfl⟩ := inj2 hd
    refine ⟨B, env, Γ, _, e1, w, h1, fun v H1 R bv w1 _ => ?_⟩
    obtain ⟨F, S, r⟩ := bv.rep
    rw [r.non_iff]
    exact q _ H1 (w1.bl _)
  · rename_i d1 e1 hn h1
    obtain ⟨rfl, rfl⟩ := inj2 hd
    refine ⟨B, env, Γ, _, e1, w, h1, fun v H1 R bv w1 _ => ?_⟩
    obtain ⟨F, S, r⟩ := bv.rep
    rw [r.non_iff]
    cases d1 <;> first | exact q _ H1 (w1.bl _) | exact (hn rfl).elim
  · cases hd
theorem nisN_imp {K : PySem.W.Frag} {a : T} {σ : L2.St} {H : Hp} {Q : VK} (h : tD K Φ (.nisN a) σ H Q) : tNotN (tO K Φ a) σ H Q := by
  obtain ⟨B, env, Γ, d, e', w, hd, q⟩ := h
  rw [evE] at hd
  change (match evO Φ a env with | some (.non, e) => some (D.bl false, e) | some (_, e) => some (.bl true, e) | none => none) = some (d, e') at hd
  split at hd
  · rename_i e1 h1
    obtain ⟨rfl, rfl⟩ := inj2 hd
    refine ⟨B, env, Γ, _, e1, w, h1, fun v H1 R bv w1 _ => ?_⟩
    obtain ⟨F, S, r⟩ := bv.rep
    rw [r.non_iff]
    exact q _ H1 (w1.bl _)
  · rename_i d1 e1 hn h1
    obtain ⟨rfl, rfl⟩ := inj2 hd
    refine ⟨B, env, Γ, _, e1, w, h1, fun v H1 R bv w1 _ => ?_⟩
    obtain ⟨F, S, r⟩ := bv.rep
    rw [r.non_iff]
    cases d1 <;> first | exact q _ H1 (w1.bl _) | exact (hn rfl).elim
  · cases hd
theorem chk_isN {a : T} {sc : Scope} {e : Expr} (h : chkE n sc (.isN a) e = true) : ∃ x j p p', e = .Compare x [.Is] [.Constant .none j p] p' ∧ chkE n sc a x = true := by
  cases e <;> try (simp [chkE] at h; done)
  rename_i l ops cs _
  rcases ops with _ | ⟨op, _ | ⟨op2, r⟩⟩
  · simp [chkE] at h
  · rcases cs with _ | ⟨c, _ | ⟨c2, r2⟩⟩
    · cases op <;> simp [chkE] at h
    · cases op <;> try (simp [chkE] at h; done)
      cases c <;> try (simp [chkE] at h; done)
      rename_i cc _ _
      cases cc <;> try (simp [chkE] at h; done)
      simp only [chkE] at h
      exact ⟨_, _, _, _, rfl, h⟩
    · cases op <;> simp [chkE] at h
  · cases op <;> simp [chkE] at h
theorem chk_nisN {a : T} {sc : Scope} {e : Expr} (h : chkE n sc (.nisN a) e = true) : ∃ x j p p', e = .Compare x [.IsNot] [.Constant .none j p] p' ∧ chkE n sc a x = true := by
  cases e <;> try (simp [chkE] at h; done)
  rename_i l ops cs _
  rcases ops with _ | ⟨op, _ | ⟨op2, r⟩⟩
  · simp [chkE] at h
  · rcases cs with _ | ⟨c, _ | ⟨c2, r2⟩⟩
    · cases op <;> simp [chkE] at h
    · cases op <;> try (simp [chkE] at h; done)
      cases c <;> try (simp [chkE] at h; done)
      rename_i cc _ _
      cases cc <;> try (simp [chkE] at h; done)
      simp only [chkE] at h
      exact ⟨_, _, _, _, rfl, h⟩
    · cases op <;> simp [chkE] at h
  · cases op <;> simp [chkE] at h
theorem SE_isN {a : T} (s : SE Φ k n a) : SE Φ k n (.isN a) := by
  intro X sc e O h
  obtain ⟨x, j, p, p', rfl, h⟩ := chk_isN h
  exact (pe_cmp (pc_isN (s.op O h))).imp fun σ H Q q => isN_imp q
theorem ST_isN {a : T} (s : SE Φ k n a) : ST Φ k n (.isN a) := by
  intro X sc e O h
  obtain ⟨x, j, p, p', rfl, h⟩ := chk_isN h
  exact (pt_cmp (pc_isN (s.op O h))).imp fun σ H Q q => isN_imp (tT_of σ H Q q)
theorem SE_nisN {a : T} (s : SE Φ k n a) : SE Φ k n (.nisN a) := by
  intro X sc e O h
  obtain ⟨x, j, p, p', rfl, h⟩ := chk_nisN h
  exact (pe_cmp (pc_notN (s.op O h))).imp fun σ H Q q => nisN_imp q
theorem ST_nisN {a : T} (s : SE Φ k n a) : ST Φ k n (.nisN a) := by
  intro X sc e O h
  obtain ⟨x, j, p, p', rfl, h⟩ := chk_nisN h
  exact (pt_cmp (pc_notN (s.op O h))).imp fun σ H Q q => nisN_imp (tT_of σ H Q q)

/-! ### chains -/
theorem chain_imp {K : PySem.W.Frag} {o o' : Cop} {a b c : T} {σ : L2.St} {H : Hp} {Q : VK} (h : tD K Φ (.chain o o' a b c) σ H Q) : tChain (rCmp o) (rCmp o') (tD K Φ a) (tD K Φ b) (tD K Φ c) σ H Q := by
  obtain ⟨B, env, Γ, d, e', w, hd, q⟩ := h
  rw [evE] at hd
  split at hd
  · rename_i i e1 h1
    split at hd
    · rename_i j e2 h2
      refine ⟨B, env, Γ, _, e1, w, h1, fun v H1 w1 => ⟨B, e1, _, _, e2, w1, h2, fun u H2 w2 => ?_⟩⟩
      have ev := w2.headInt
      have ew := w2.drop.headInt
      subst ev ew
      refine ⟨i, j, rfl, rfl, _, rfl, ?_⟩
      split at hd
      · rename_i hc
        rw [if_pos hc]
        split at hd
        · rename_i kk e3 h3
          obtain ⟨rfl, rfl⟩ := inj2 hd
          refine ⟨B, e2, _, _, e3, w2, h3, fun u' H3 w3 => ?_⟩
          have ez := w3.headInt
          subst ez
          exact ⟨j, kk, rfl, rfl, q _ H3 (w3.drop.drop.drop.bl _)⟩
        · cases hd
      · rename_i hc
        rw [if_neg hc]
        obtain ⟨rfl, rfl⟩ := inj2 hd
        exact q _ H2 (w2.drop.drop.bl _)
    · cases hd
  · cases hd
theorem chk_chain {o o' : Cop} {a b c : T} {sc : Scope} {e : Expr} (h : chkE n sc (.chain o o' a b c) e = true) : ∃ x p q y z pos, e = .Compare x [p, q] [y, z] pos ∧ cop o p = true ∧ cop o' q = true ∧ chkE n sc a x = true ∧ chkE n sc b y = true ∧ chkE n sc c z = true := by
  cases e <;> try (simp [chkE] at h; done)
  rename_i l ops cs _
  match ops, cs, h with
  | [p, q], [y, z], h =>
    simp only [chkE, Bool.and_eq_true] at h
    exact ⟨_, _, _, _, _, _, rfl, h.1.1.1.1, h.1.1.1.2, h.1.1.2, h.1.2, h.2⟩
theorem marks2 {o o' : Cop} {p q : CmpOp} (h1 : cop o p = true) (h2 : cop o' q = true) (y z : Expr) : lastMarks [p, q] [y, z] = false := by
  show behindInMarks q z = false
  exact cop_mark h2 z
theorem SE_chain {o o' : Cop} {a b c : T} (sa : SE Φ k n a) (sb : SE Φ k n b) (sc' : SE Φ k n c) : SE Φ k n (.chain o o' a b c) := by
  intro X sc e O h
  obtain ⟨x, p, q, y, z, pos, rfl, h1, h2, h3, h4, h5⟩ := chk_chain h
  exact (pe_chain (op_cmp h1) (op_cmp h2) (sa O h3) (sb O h4) (sc' O h5) (marks2 h1 h2 y z)).imp fun σ H Q q => chain_imp q
theorem ST_chain {o o' : Cop} {a b c : T} (sa : SE Φ k n a) (sb : SE Φ k n b) (sc' : SE Φ k n c) : ST Φ k n (.chain o o' a b c) := by
  intro X sc e O h
  obtain ⟨x, p, q, y, z, pos, rfl, h1, h2, h3, h4, h5⟩ := chk_chain h
  exact (pt_chain (op_cmp h1) (op_cmp h2) (sa O h3) (sb O h4) (sc' O h5) (marks2 h1 h2 y z)).imp fun σ H Q q => chain_imp (tT_of σ H Q q)

/-! ### and, or, not -/
theorem chk_and {a b : T} {sc : Scope} {e : Expr} (h : chkE n sc (.and a b) e = true) : ∃ x y r pos, e = .BoolOp .And (x :: y :: r) pos ∧ chkE n sc a x = true ∧ (r = [] ∧ chkE n sc b y = true ∨ chkE n sc b (.BoolOp .And (y :: r) pos) = true) := by
  cases e <;> try (simp [chkE] at h; done)
  rename_i op vs pos
  cases op <;> try (simp [chkE] at h; done)
  match vs, h with
  | x :: y :: [], h =>
    simp only [chkE, Bool.and_eq_true] at h
    exact ⟨x, y, [], pos, rfl, h.1, .inl ⟨rfl, h.2⟩⟩
  | x :: y :: z :: r, h =>
    simp only [chkE, Bool.and_eq_true] at h
    exact ⟨x, y, z :: r, pos, rfl, h.1, .inr h.2⟩
theorem chk_or {a b : T} {sc : Scope} {e : Expr} (h : chkE n sc (.or a b) e = true) : ∃ x y r pos, e = .BoolOp .Or (x :: y :: r) pos ∧ chkE n sc a x = true ∧ (r = [] ∧ chkE n sc b y = true ∨ chkE n sc b (.BoolOp .Or (y :: r) pos) = true) := by
  cases e <;> try (simp [chkE] at h; done)
  rename_i op vs pos
  cases op <;> try (simp [chkE] at h; done)
  match vs, h with
  | x :: y :: [], h =>
    simp only [chkE, Bool.and_eq_true] at h
    exact ⟨x, y, [], pos, rfl, h.1, .inl ⟨rfl, h.2⟩⟩
  | x :: y :: z :: r, h =>
    simp only [chkE, Bool.and_eq_true] at h
    exact ⟨x, y, z :: r, pos, rfl, h.1, .inr h.2⟩
theorem SE_and {a b : T} (sa : SE Φ k n a) (sb : SE Φ k n b) : SE Φ k n (.and a b) := by
  intro X sc e O h
  obtain ⟨x, y, r, pos, rfl, h1, h2⟩ := chk_and h
  have hb : PE X (.BoolOp .And (y :: r) pos) (tD X.K Φ b) := by
    rcases h2 with ⟨rfl, h2⟩ | h2
    · exact pe_one (sb O h2)
    · exact sb O h2
  refine (pe_and (sa O h1) hb).imp ?_
  rintro σ H Q ⟨B, env, Γ, d, e', w, hd, q⟩
  rw [evE] at hd
  split at hd
  · rename_i e1 h1
    split at hd
    · rename_i c e2 h2
      obtain ⟨rfl, rfl⟩ := inj2 hd
      refine ⟨B, env, Γ, _, e1, w, h1, fun v H1 w1 => ⟨true, w1.headBl, ?_⟩⟩
      rw [if_pos rfl]
      exact ⟨B, e1, Γ, _, e2, w1.drop, h2, fun u H2 w2 => q u H2 w2⟩
    · cases hd
  · rename_i e1 h1
    obtain ⟨rfl, rfl⟩ := inj2 hd
    refine ⟨B, env, Γ, _, e1, w, h1, fun v H1 w1 => ⟨false, w1.headBl, ?_⟩⟩
    rw [if_neg Bool.false_ne_true]
    exact q _ H1 (w1.drop.bl _)
  · cases hd
theorem SE_or {a b : T} (sa : SE Φ k n a) (sb : SE Φ k n b) : SE Φ k n (.or a b) := by
  intro X sc e O h
  obtain ⟨x, y, r, pos, rfl, h1, h2⟩ := chk_or h
  have hb : PE X (.BoolOp .Or (y :: r) pos) (tD X.K Φ b) := by
    rcases h2 with ⟨rfl, h2⟩ | h2
    · exact pe_one (sb O h2)
    · exact sb O h2
  refine (pe_or (sa O h1) hb).imp ?_
  rintro σ H Q ⟨B, env, Γ, d, e', w, hd, q⟩
  rw [evE] at hd
  split at hd
  · rename_i e1 h1
    split at hd
    · rename_i c e2 h2
      obtain ⟨rfl, rfl⟩ := inj2 hd
      refine ⟨B, env, Γ, _, e1, w, h1, fun v H1 w1 => ⟨false, w1.headBl, ?_⟩⟩
      rw [if_neg Bool.false_ne_true]
      exact ⟨B, e1, Γ, _, e2, w1.drop, h2, fun u H2 w2 => q u H2 w2⟩
    · cases hd
  · rename_i e1 h1
    obtain ⟨rfl, rfl⟩ := inj2 hd
    refine ⟨B, env, Γ, _, e1, w, h1, fun v H1 w1 => ⟨true, w1.headBl, ?_⟩⟩
    rw [if_pos rfl]
    exact q _ H1 (w1.drop.bl _)
  · cases hd
/-- a chain of and, or is one test, whatever its 'whole' is -/
def SW (Φ : Fs) (k : Nat) (n : Nm) (op : BoolOp) (t : T) : Prop := ∀ {X : Cx} {sc : Scope} {es : List Expr} {pos : Pos}, OkX Φ k n X sc → chkE n sc t (.BoolOp op es pos) = true → PW X (.BoolOp op es pos) (tT X.K Φ t)
theorem and_imp {K : PySem.W.Frag} {a b : T} {σ : L2.St} {H : Hp} {Q : Bool → Hp → Prop} (h : tT K Φ (.and a b) σ H Q) : tAnd (tT K Φ a) (tT K Φ b) σ H Q := by
  obtain ⟨B, env, Γ, d, e', w, hd, q⟩ := h
  rw [evE] at hd
  split at hd
  · rename_i e1 h1
    split at hd
    · rename_i c e2 h2
      obtain ⟨hc, rfl⟩ := inj2 hd
      cases hc
      refine ⟨B, env, Γ, _, e1, w, h1, fun H1 w1 => ?_⟩
      show if true = true then _ else _
      rw [if_pos rfl]
      exact ⟨B, e1, Γ, _, e2, w1, h2, q⟩
    · cases hd
  · rename_i e1 h1
    obtain ⟨hc, rfl⟩ := inj2 hd
    cases hc
    refine ⟨B, env, Γ, _, e1, w, h1, fun H1 w1 => ?_⟩
    show if false = true then _ else _
    rw [if_neg Bool.false_ne_true]
    exact q H1 w1
  · cases hd
theorem or_imp {K : PySem.W.Frag} {a b : T} {σ : L2.St} {H : Hp} {Q : Bool → Hp → Prop} (h : tT K Φ (.or a b) σ H Q) : tOr (tT K Φ a) (tT K Φ b) σ H Q := by
  obtain ⟨B, env, Γ, d, e', w, hd, q⟩ := h
  rw [evE] at hd
  split at hd
  · rename_i e1 h1
    split at hd
    · rename_i c e2 h2
      obtain ⟨hc, rfl⟩ := inj2 hd
      cases hc
      refine ⟨B, env, Γ, _, e1, w, h1, fun H1 w1 => ?_⟩
      show if false = true then _ else _
      rw [if_neg Bool.false_ne_true]
      exact ⟨B, e1, Γ, _, e2, w1, h2, q⟩
    · cases hd
  · rename_i e1 h1
    obtain ⟨hc, rfl⟩ := inj2 hd
    cases hc
    refine ⟨B, env, Γ, _, e1, w, h1, fun H1 w1 => ?_⟩
    show if true = true then _ else _
    rw [if_pos rfl]
    exact q H1 w1
  · cases hd
theorem _root_.L2.PW.imp {X : Cx} {e : Expr} {t t' : TT} (h : PW X e t) (i : ∀ σ H Q, t' σ H Q → t σ H Q) : PW X e t' := ⟨fun w pins s σ H Q I q => h.run w pins s σ H Q I (i σ H Q q)⟩
theorem SW_and {a b : T} (sa : ST Φ k n a) (sb : ST Φ k n b) (sw : SW Φ k n .And b) : SW Φ k n .And (.and a b) := by
  intro X sc es pos O h
  obtain ⟨x, y, r, pos', e, h1, h2⟩ := chk_and h
  cases e
  refine (pw_and (sa O h1) ?_).imp fun σ H Q q => and_imp q
  rcases h2 with ⟨rfl, h2⟩ | h2
  · exact pw_and1 (sb O h2)
  · exact sw O h2
theorem SW_or {a b : T} (sa : ST Φ k n a) (sb : ST Φ k n b) (sw : SW Φ k n .Or b) : SW Φ k n .Or (.or a b) := by
  intro X sc es pos O h
  obtain ⟨x, y, r, pos', e, h1, h2⟩ := chk_or h
  cases e
  refine (pw_or (sa O h1) ?_).imp fun σ H Q q => or_imp q
  rcases h2 with ⟨rfl, h2⟩ | h2
  · exact pw_or1 (sb O h2)
  · exact sw O h2
theorem ST_and {a b : T} (sw : SW Φ k n .And (.and a b)) : ST Φ k n (.and a b) := by
  intro X sc e O h
  obtain ⟨x, y, r, pos, rfl, h1, h2⟩ := chk_and h
  exact (sw O h).pt
theorem ST_or {a b : T} (sw : SW Φ k n .Or (.or a b)) : ST Φ k n (.or a b) := by
  intro X sc e O h
  obtain ⟨x, y, r, pos, rfl, h1, h2⟩ := chk_or h
  exact (sw O h).pt
theorem chk_not {a : T} {sc : Scope} {e : Expr} (h : chkE n sc (.not a) e = true) : ∃ x pos, e = .UnaryOp .Not x pos ∧ chkE n sc a x = true := by
  cases e <;> try (simp [chkE] at h; done)
  rename_i op x pos
  cases op <;> try (simp [chkE] at h; done)
  simp only [chkE] at h
  exact ⟨x, pos, rfl, h⟩
theorem SE_not {a : T} (s : SE Φ k n a) : SE Φ k n (.not a) := by
  intro X sc e O h
  obtain ⟨x, pos, rfl, h⟩ := chk_not h
  refine (pe_not (s O h)).imp ?_
  rintro σ H Q ⟨B, env, Γ, d, e', w, hd, q⟩
  rw [evE] at hd
  split at hd
  · rename_i c e1 h1
    obtain ⟨rfl, rfl⟩ := inj2 hd
    exact ⟨B, env, Γ, _, e1, w, h1, fun v H1 w1 => ⟨c, w1.headBl, q _ H1 (w1.drop.bl _)⟩⟩
  · cases hd
theorem ST_not {a : T} (s : ST Φ k n a) : ST Φ k n (.not a) := by
  intro X sc e O h
  obtain ⟨x, pos, rfl, h⟩ := chk_not h
  refine (pt_not (s O h)).imp ?_
  rintro σ H Q ⟨B, env, Γ, d, e', w, hd, q⟩
  rw [evE] at hd
  split at hd
  · rename_i c e1 h1
    obtain ⟨hc, rfl⟩ := inj2 hd
    cases hc
    exact ⟨B, env, Γ, _, e1, w, h1, q⟩
  · cases hd
theorem chk_ife {c a b : T} {sc : Scope} {e : Expr} (h : chkE n sc (.ife c a b) e = true) : ∃ x y z pos, e = .IfExp x y z pos ∧ chkE n sc c x = true ∧ chkE n sc a y = true ∧ chkE n sc b z = true := by
  cases e <;> try (simp [chkE] at h; done)
  simp only [chkE, Bool.and_eq_true] at h
  exact ⟨_, _, _, _, rfl, h.1.1, h.1.2, h.2⟩
theorem SE_ife {c a b : T} (s : ST Φ k n c) (sa : SE Φ k n a) (sb : SE Φ k n b) : SE Φ k n (.ife c a b) := by
  intro X sc e O h
  obtain ⟨x, y, z, pos, rfl, h1, h2, h3⟩ := chk_ife h
  refine (pe_ifExp (s O h1) (sa O h2) (sb O h3)).imp ?_
  rintro σ H Q ⟨B, env, Γ, d, e', w, hd, q⟩
  rw [evE] at hd
  split at hd
  · rename_i cc e1 h1
    refine ⟨B, env, Γ, cc, e1, w, h1, fun H1 w1 => ?_⟩
    cases cc with
    | true => exact ⟨B, e1, Γ, _, _, w1, by simpa using hd, q⟩
    | false => exact ⟨B, e1, Γ, _, _, w1, by simpa using hd, q⟩
  · cases hd
theorem ST_ife {c a b : T} (s : ST Φ k n c) (sa : ST Φ k n a) (sb : ST Φ k n b) : ST Φ k n (.ife c a b) := by
  intro X sc e O h
  obtain ⟨x, y, z, pos, rfl, h1, h2, h3⟩ := chk_ife h
  refine (pt_ifExp (s O h1) (sa O h2) (sb O h3)).imp ?_
  rintro σ H Q ⟨B, env, Γ, d, e', w, hd, q⟩
  rw [evE] at hd
  split at hd
  · rename_i cc e1 h1
    refine ⟨B, env, Γ, cc, e1, w, h1, fun H1 w1 => ?_⟩
    cases cc with
    | true => exact ⟨B, e1, Γ, _, _, w1, by simpa using hd, q⟩
    | false => exact ⟨B, e1, Γ, _, _, w1, by simpa using hd, q⟩
  · cases hd
end
end Sr
set_option Elab.async false
set_option linter.all false
set_option maxRecDepth 100000
set_option maxHeartbeats 2000000
/-! # Sr: calls -/
namespace Sr
open PySem PySem.Spec PyProof.Rows L2

/-! ### what is handed over, and comes back -/
def ioR : List Ag → List V → Env → List Rt
  | .io i :: as, v :: vs, e => match e.at i with
    | some d => (v, d) :: ioR as vs (e.set i none)
    | none => []
  | .own d :: as, v :: vs, e => (v, d) :: ioR as vs e
  | _ :: as, _ :: vs, e => ioR as vs e
  | _, _, _ => []
section
variable {K : PySem.W.Frag} {B : Bs} {σ : L2.St} {H H' : Hp}
theorem Wd.front {e : Env} {Γ Γ' : List Rt} (w : Wd K B σ e Γ H) (p : Γ.Perm Γ') : Wd K B σ e Γ' H := ⟨w.fit, w.pr, w.w.perm (p.append_right _)⟩
theorem take_io : ∀ {as : List Ag} {vs : List V} {e e2 : Env} {Γ : List Rt}, Wd K B σ e (agO as vs ++ Γ) H → AgS σ as vs → agIo as e = some e2 → Wd K B σ e2 (ioR as vs e ++ Γ) H
  | [], vs, e, e2, Γ, w, s, h => by
    cases h
    cases vs with
    | nil => exact w
    | cons _ _ => exact s.elim
  | .val d :: as, [], _, _, _, _, s, _ => s.elim
  | .own d :: as, [], _, _, _, _, s, _ => s.elim
  | .var d :: as, [], _, _, _, _, s, _ => s.elim
  | .io d :: as, [], _, _, _, _, s, _ => s.elim
  | .val d :: as, v :: vs, e, e2, Γ, w, s, h => take_io (as := as) (vs := vs) w s h
  | .own d :: as, v :: vs, e, e2, Γ, w, s, h => by
    have q := take_io (as := as) (vs := vs) (Γ := (v, d) :: Γ) (w.front List.perm_middle.symm) s h
    exact q.front List.perm_middle
  | .var i :: as, v :: vs, e, e2, Γ, w, s, h => take_io (as := as) (vs := vs) w s.2 h
  | .io i :: as, v :: vs, e, e2, Γ, w, s, h => by
    rw [agIo] at h
    split at h
    · rename_i d hd
      have q := take_io (as := as) (vs := vs) (Γ := (v, d) :: Γ) ((w.move hd s.1).front List.perm_middle.symm) s.2 h
      rw [ioR, hd]
      exact q.front List.perm_middle
    · cases h
theorem args_rep {σ : L2.St} {Fr Sr : List Addr} {e2 : Env} (P : ∀ i v d, σ[i]? = some (some v) → e2.at i = some d → ∃ F1 S1, Rep K H v d F1 S1 ∧ (∀ a ∈ F1, a ∈ Fr) ∧ ∀ a ∈ S1, a ∈ Sr) (U : Prop) :
    ∀ {as : List Ag} {vs : List V} {ds : List D} {e : Env} {Fi Si Fv Sv : List Addr}, (U → ∀ i, Ag.var i ∈ as → ∀ d, e2.at i = some d → d.un = true) → Rs K H (ioR as vs e) Fi Si → Rs K H (agR as vs) Fv Sv → AgS σ as vs → agD e e2 as = some ds →
      ∃ Sa, Reps K H vs ds Fi Sa ∧ ∀ a ∈ Sa, a ∈ Si ∨ a ∈ Fv ∨ a ∈ Sv ∨ (a ∈ Fr ∧ ¬ U) ∨ a ∈ Sr
  | [], vs, ds, e, Fi, Si, Fv, Sv, hU, h1, h2, s, h => by
    cases vs with
    | cons _ _ => exact s.elim
    | nil =>
      rw [agD] at h
      cases h
      cases h1
      exact ⟨[], .nil, fun _ z => nomatch z⟩
  | .val d :: as, [], _, _, _, _, _, _, _, _, _, s, _ => s.elim
  | .var d :: as, [], _, _, _, _, _, _, _, _, _, s, _ => s.elim
  | .io d :: as, [], _, _, _, _, _, _, _, _, _, s, _ => s.elim
  | .own d :: as, [], _, _, _, _, _, _, _, _, _, s, _ => s.elim
  | .own d0 :: as, v :: vs, ds, e, Fi, Si, Fv, Sv, hU, h1, h2, s, h => by
    rw [agD] at h
    split at h
    · rename_i l hl
      cases h
      rw [ioR] at h1
      cases h1 with
      | @cons _ _ _ _ F0 S0 F1 S1 r t =>
        obtain ⟨Sa, ra, qa⟩ := args_rep P U (as := as) (vs := vs) (fun u i hi => hU u i (List.mem_cons_of_mem _ hi)) t h2 s hl
        refine ⟨S0 ++ Sa, .cons r ra, fun a ha => ?_⟩
        rcases List.mem_append.mp ha with ha | ha
        · exact .inl (List.mem_append_left _ ha)
        · rcases qa a ha with z | z
          · exact .inl (List.mem_append_right _ z)
          · exact .inr z
    · cases h
  | .val d :: as, v :: vs, ds, e, Fi, Si, Fv, Sv, hU, h1, h2, s, h => by
    rw [agD] at h
    split at h
    · rename_i l hl
      cases h
      cases h2 with
      | @cons _ _ _ _ F0 S0 F1 S1 r t =>
        obtain ⟨Sa, ra, qa⟩ := args_rep P U (as := as) (vs := vs) (fun u i hi => hU u i (List.mem_cons_of_mem _ hi)) h1 t s hl
        obtain ⟨S', r', q'⟩ := r.shrd
        rw [shr_shr] at r'
        refine ⟨S' ++ Sa, .cons (F := []) r' ra, fun a ha => ?_⟩
        rcases List.mem_append.mp ha with ha | ha
        · rcases q' a ha with z | z
          · exact .inr (.inl (List.mem_append_left _ z))
          · exact .inr (.inr (.inl (List.mem_append_left _ z)))
        · rcases qa a ha with z | z | z | z | z
          · exact .inl z
          · exact .inr (.inl (List.mem_append_right _ z))
          · exact .inr (.inr (.inl (List.mem_append_right _ z)))
          · exact .inr (.inr (.inr (.inl z)))
          · exact .inr (.inr (.inr (.inr z)))
    · cases h
  | .var i :: as, v :: vs, ds, e, Fi, Si, Fv, Sv, hU, h1, h2, s, h => by
    rw [agD] at h
    split at h
    · rename_i d l hd hl
      cases h
      obtain ⟨Sa, ra, qa⟩ := args_rep P U (as := as) (vs := vs) (fun u i hi => hU u i (List.mem_cons_of_mem _ hi)) h1 h2 s.2 hl
      obtain ⟨F1, S1, r, f, g⟩ := P i v d s.1 hd
      obtain ⟨S', r', q'⟩ := r.shrd
      refine ⟨S' ++ Sa, .cons (F := []) r' ra, fun a ha => ?_⟩
      rcases List.mem_append.mp ha with ha | ha
      · rcases q' a ha with z | z
        · refine .inr (.inr (.inr (.inl ⟨f a z, fun u => ?_⟩)))
          rw [r.un (hU u i List.mem_cons_self d hd)] at z
          cases z
        · exact .inr (.inr (.inr (.inr (g a z))))
      · exact qa a ha
    · cases h
  | .io i :: as, v :: vs, ds, e, Fi, Si, Fv, Sv, hU, h1, h2, s, h => by
    rw [agD] at h
    split at h
    · rename_i d l hd hl
      cases h
      rw [ioR, hd] at h1
      cases h1 with
      | @cons _ _ _ _ F0 S0 F1 S1 r t =>
        obtain ⟨Sa, ra, qa⟩ := args_rep P U (as := as) (vs := vs) (fun u i hi => hU u i (List.mem_cons_of_mem _ hi)) t h2 s.2 hl
        refine ⟨S0 ++ Sa, .cons r ra, fun a ha => ?_⟩
        rcases List.mem_append.mp ha with ha | ha
        · exact .inl (List.mem_append_left _ ha)
        · rcases qa a ha with z | z
          · exact .inl (List.mem_append_right _ z)
          · exact .inr z
    · cases h
theorem Wd.put2 {e : Env} {Γ : List Rt} {i : Nat} {d : D} {v : V} (w : Wd K B σ e ((v, d) :: Γ) H) (hv : σ[i]? = some (some v)) : Wd K B σ (e.set i (some d)) Γ H := by
  have k := w.kill1 i
  have hl : i < e.length := by rw [← w.fit.1]; exact (List.getElem?_eq_some_iff.mp hv).1
  have q := k.put (i := i) (by rw [List.getElem?_set_self hl]) hv
  rw [List.set_set] at q
  exact q
theorem come_back : ∀ {as : List Ag} {vs : List V} {os : List (Option D)} {e e' : Env} {Γ : List Rt}, Wd K B σ e (er (vs.map some) os ++ Γ) H → AgS σ as vs → agBack as os e = some e' → Wd K B σ e' Γ H
  | [], vs, os, e, e', Γ, w, s, h => by
    cases os with
    | cons _ _ => simp [agBack] at h
    | nil =>
      rw [agBack] at h
      cases h
      cases vs with
      | cons _ _ => exact s.elim
      | nil => exact w
  | .val d :: as, [], _, _, _, _, _, s, _ => s.elim
  | .var d :: as, [], _, _, _, _, _, s, _ => s.elim
  | .io d :: as, [], _, _, _, _, _, s, _ => s.elim
  | .own d :: as, [], _, _, _, _, _, s, _ => s.elim
  | .own d :: as, v :: vs, os, e, e', Γ, w, s, h => by
    cases os with
    | nil => simp [agBack] at h
    | cons o os =>
      simp only [agBack] at h
      refine come_back (as := as) (vs := vs) ?_ s h
      cases o with
      | none => exact w
      | some d' => exact w.drop
  | .val d :: as, v :: vs, os, e, e', Γ, w, s, h => by
    cases os with
    | nil => simp [agBack] at h
    | cons o os =>
      simp only [agBack] at h
      refine come_back (as := as) (vs := vs) ?_ s h
      cases o with
      | none => exact w
      | some d' => exact w.drop
  | .var i :: as, v :: vs, os, e, e', Γ, w, s, h => by
    cases os with
    | nil => simp [agBack] at h
    | cons o os =>
      simp only [agBack] at h
      refine come_back (as := as) (vs := vs) ?_ s.2 h
      cases o with
      | none => exact w
      | some d' => exact w.drop
  | .io i :: as, v :: vs, os, e, e', Γ, w, s, h => by
    cases os with
    | nil => simp [agBack] at h
    | cons o os =>
      simp only [agBack] at h
      refine come_back (as := as) (vs := vs) ?_ s.2 h
      cases o with
      | none => exact w.kill1 i
      | some d' => exact Wd.put2 w s.1
theorem freeze : ∀ {as : List Ag} {e : Env} {Γ : List Rt}, Wd K B σ e Γ H → Wd K B σ (agFz as e) Γ H
  | [], e, Γ, w => w
  | .val d :: as, e, Γ, w => freeze (as := as) w
  | .io d :: as, e, Γ, w => freeze (as := as) w
  | .own d :: as, e, Γ, w => freeze (as := as) w
  | .var i :: as, e, Γ, w => by
    rw [agFz]
    refine freeze (as := as) ?_
    split
    · rename_i d hd
      obtain ⟨v, hv, _⟩ := w.read hd
      have m := (w.move hd hv).shr.put2 (i := i) hv
      rw [List.set_set] at m
      exact m
    · exact w
end
section
variable {K : PySem.W.Frag} {B : Bs} {H H' : Hp}
/-- behind a call -/
theorem W.call {R R' : List Rt} {F S Fa Sa Fr Sr : List Addr} {pr : List (Nat × V)} (o : Okk B H F S) (hF : ∀ a ∈ Fa ++ Fr, a ∈ F) (nF : (Fa ++ Fr).Nodup) (rr : Rs K H R Fr Sr) (hS : ∀ a ∈ Sr, a ∈ S) (hSa : ∀ a ∈ Sa, a ∈ F ∨ a ∈ S) (lF : ∀ a ∈ Fa, IsLst H a)
    (w : W K ⟨H, Fa, Sa, pr⟩ H' R') (c : (∀ F' S', Rs K H' R' F' S' → S' = []) ∨ ∀ a ∈ Sa, a ∉ Fr) : W K B H' (R' ++ R) := by
  obtain ⟨F', S', r', o'⟩ := w
  obtain ⟨n1, n2, n3⟩ := List.nodup_append.mp nF
  have kk : Rs K H' R Fr Sr := Reps.kept o'.kp lF rr (fun a ha h => n3 a h a ha rfl) (fun a ha h => o.dj a (hF a (List.mem_append_left _ h)) (hS a ha))
  have c' : ∀ a ∈ S', a ∉ Fr := by
    intro a ha hf
    rcases c with c | c
    · rw [c _ _ r'] at ha; cases ha
    · rcases o'.fS a ha with z | z | z
      · exact n3 a z a hf rfl
      · exact c a z hf
      · obtain ⟨xs, e, _⟩ := Reps.lstF rr a hf
        have z' : H a = none := z
        rw [e] at z'; cases z'
  refine ⟨F' ++ Fr, S' ++ Sr, ?_, ⟨?_, fun a ha hs => ?_, fun a ha => ?_, fun a ha => ?_, fun b u e n => ?_, o'.sz⟩⟩
  · show Reps K H' _ _ _ _
    rw [List.map_append, List.map_append]
    exact Reps.app r' kk
  · refine List.nodup_append.mpr ⟨o'.nd, n2, fun a ha b hb e => ?_⟩
    subst e
    rcases o'.fF a ha with z | z
    · exact n3 a z a hb rfl
    · obtain ⟨xs, e, _⟩ := Reps.lstF rr a hb
      have z' : H a = none := z
      rw [e] at z'; cases z'
  · rcases List.mem_append.mp ha with z | z <;> rcases List.mem_append.mp hs with y | y
    · exact o'.dj a z y
    · rcases o'.fF a z with q | q
      · exact o.dj a (hF a (List.mem_append_left _ q)) (hS a y)
      · exact Reps.thereS rr a y q
    · exact c' a y z
    · exact o.dj a (hF a (List.mem_append_right _ z)) (hS a y)
  · rcases List.mem_append.mp ha with z | z
    · rcases o'.fF a z with q | q
      · exact o.fF a (hF a (List.mem_append_left _ q))
      · exact (o.old q).symm
    · exact o.fF a (hF a (List.mem_append_right _ z))
  · rcases List.mem_append.mp ha with z | z
    · rcases o'.fS a z with q | q | q
      · rcases o.fF a (hF a (List.mem_append_left _ q)) with y | y
        · exact .inl y
        · exact .inr (.inr y)
      · rcases hSa a q with y | y
        · rcases o.fF a y with y | y
          · exact .inl y
          · exact .inr (.inr y)
        · exact o.fS a y
      · rcases o.old q with y | y
        · exact .inr (.inr y)
        · exact .inl y
    · exact o.fS a (hS a z)
  · refine o'.kp b u (o.kp b u e n) fun z => ?_
    rcases o.fF b (hF b (List.mem_append_left _ z)) with q | q
    · exact n q
    · rw [e] at q; cases q
theorem nsO_er : ∀ {vs : List V} {os : List (Option D)} {F S : List Addr}, nsO os = true → Rs K H (er (vs.map some) os) F S → S = []
  | [], os, F, S, _, h => by
    cases os <;> (simp only [List.map_nil, er] at h; cases h; rfl)
  | v :: vs, [], F, S, _, h => by
    simp only [List.map_cons, er] at h; cases h; rfl
  | v :: vs, none :: os, F, S, u, h => nsO_er (vs := vs) (os := os) u h
  | v :: vs, some d :: os, F, S, u, h => by
    simp only [nsO, Bool.and_eq_true] at u
    cases h with
    | cons r t =>
      rw [r.ns u.1, nsO_er (vs := vs) (os := os) u.2 t]; rfl
end

section
variable {Φ : Fs} {k : Nat} {n : Nm}
/-! ### lists of terms -/
theorem SL_nil : SL Φ k n .nil := by
  intro X sc es O h
  cases es <;> try (simp [chkL] at h; done)
  refine pa_nil.imp ?_
  rintro σ H Q ⟨B, e, Γ, ds, e', w, hd, q⟩
  rw [evL] at hd
  obtain ⟨rfl, rfl⟩ := inj2 hd
  exact q [] H rfl w
theorem chk_cons {a r : T} {sc : Scope} {es : List Expr} (h : chkL n sc (.cons a r) es = true) : ∃ x xs, es = x :: xs ∧ chkE n sc a x = true ∧ chkL n sc r xs = true := by
  cases es with
  | nil => simp [chkL] at h
  | cons x xs =>
    simp only [chkL, Bool.and_eq_true] at h
    exact ⟨x, xs, rfl, h.1, h.2⟩
theorem SL_cons {a r : T} (sa : SE Φ k n a) (sr : SL Φ k n r) : SL Φ k n (.cons a r) := by
  intro X sc es O h
  obtain ⟨x, xs, rfl, h1, h2⟩ := chk_cons h
  refine (pa_cons (sa O h1) (sr O h2) (star_pl (chk_pl h1))).imp ?_
  rintro σ H Q ⟨B, e, Γ, ds, e', w, hd, q⟩
  rw [evL] at hd
  split at hd
  · rename_i d e1 h3
    split at hd
    · rename_i ds' e2 h4
      obtain ⟨rfl, rfl⟩ := inj2 hd
      refine ⟨B, e, Γ, d, e1, w, h3, fun v H1 w1 => ⟨B, e1, _, ds', e2, w1, h4, fun vs H2 l w2 => ?_⟩⟩
      exact q (v :: vs) H2 (by simp [l]) (w2.front List.perm_middle)
    · cases hd
  · cases hd
theorem SG_nil : SG Φ k n .nil := by
  intro io X sc es O h
  cases es <;> try (simp [chkL] at h; done)
  refine pa_nil.imp ?_
  rintro σ H Q ⟨B, e, Γ, as, e', w, hd, q⟩
  cases io with
  | cons _ _ => simp [evG] at hd
  | nil =>
    rw [evG] at hd
    obtain ⟨rfl, rfl⟩ := inj2 hd
    exact q [] H trivial w
theorem SG_cons {a r : T} (sa : SE Φ k n a) (sr : SG Φ k n r) : SG Φ k n (.cons a r) := by
  intro io X sc es O h
  obtain ⟨x, xs, rfl, h1, h2⟩ := chk_cons h
  cases io with
  | nil =>
    refine (pa_cons (sa O h1) (sr (io := []) O h2) (star_pl (chk_pl h1))).imp ?_
    rintro σ H Q ⟨B, e, Γ, as, e', w, hd, q⟩
    cases a <;> simp [evG] at hd
  | cons b bs =>
    by_cases hv : ∃ i, a = .v i
    · obtain ⟨i, rfl⟩ := hv
      cases x <;> try (simp [chkE] at h1; done)
      rw [chkE] at h1
      refine (pa_cons (O.name h1) (sr (io := bs) O h2) (star_pl rfl)).imp ?_
      rintro σ H Q ⟨B, e, Γ, as, e', w, hd, q⟩
      rw [evG] at hd
      split at hd
      · rename_i d h3
        obtain ⟨v, hv, _⟩ := w.read h3
        split at hd
        · rename_i as' e2 h4
          obtain ⟨rfl, rfl⟩ := inj2 hd
          refine ⟨v, hv, B, e, Γ, as', e2, w, h4, fun vs H2 s w2 => ?_⟩
          cases b with
          | true => exact q (v :: vs) H2 ⟨hv, s⟩ w2
          | false => exact q (v :: vs) H2 ⟨hv, s⟩ w2
        · cases hd
      · cases hd
    · refine (pa_cons (sa O h1) (sr (io := bs) O h2) (star_pl (chk_pl h1))).imp ?_
      rintro σ H Q ⟨B, e, Γ, as, e', w, hd, q⟩
      have hd' : (match evE Φ a e with
        | some (x, e) => match evG Φ r bs e with
          | some (as, e) => some ((if b then Ag.own x else Ag.val x) :: as, e)
          | none => none
        | none => none) = some (as, e') := by
        rw [evG] at hd
        · exact hd
        · exact fun i hi => hv ⟨i, hi⟩
      split at hd'
      · rename_i d e1 h3
        split at hd'
        · rename_i as' e2 h4
          obtain ⟨rfl, rfl⟩ := inj2 hd'
          cases b with
          | false =>
            refine ⟨B, e, Γ, d, e1, w, h3, fun v H1 w1 => ⟨B, e1, _, as', e2, w1.shr, h4, fun vs H2 s w2 => ?_⟩⟩
            exact q (v :: vs) H2 s (w2.front (List.Perm.append_left _ List.perm_middle))
          | true =>
            refine ⟨B, e, Γ, d, e1, w, h3, fun v H1 w1 => ⟨B, e1, _, as', e2, w1, h4, fun vs H2 s w2 => ?_⟩⟩
            exact q (v :: vs) H2 s (w2.front ((List.Perm.append_left _ List.perm_middle).trans List.perm_middle))
        · cases hd'
      · cases hd'

/-! ### a call -/
theorem noStar {sc : Scope} {env : PySem.Env} {pos : Pos} : ∀ {es : List Expr} {t : T}, chkL n sc t es = true → (backTo pos (starEach es env)).any (·.1) = false
  | [], t, h => rfl
  | e :: es, t, h => by
    obtain ⟨a, r, rfl⟩ : ∃ a r, t = .cons a r := by cases t <;> first | exact ⟨_, _, rfl⟩ | simp [chkL] at h
    obtain ⟨x, xs, ee, h1, h2⟩ := chk_cons h
    cases ee
    rw [star_pl (chk_pl h1)]
    show (false || (backTo pos (starEach es env)).any (·.1)) = false
    rw [Bool.false_or]
    exact noStar h2

theorem agS_len {σ : L2.St} : ∀ {as : List Ag} {vs : List V}, AgS σ as vs → as.length = vs.length
  | [], [], _ => rfl
  | [], _ :: _, h => h.elim
  | .val _ :: _, [], h => h.elim
  | .var _ :: _, [], h => h.elim
  | .io _ :: _, [], h => h.elim
  | .own _ :: _, [], h => h.elim
  | .own _ :: as, _ :: vs, h => by rw [List.length_cons, List.length_cons, agS_len (as := as) (vs := vs) h]
  | .val _ :: as, _ :: vs, h => by rw [List.length_cons, List.length_cons, agS_len (as := as) (vs := vs) h]
  | .var _ :: as, _ :: vs, h => by rw [List.length_cons, List.length_cons, agS_len (as := as) (vs := vs) h.2]
  | .io _ :: as, _ :: vs, h => by rw [List.length_cons, List.length_cons, agS_len (as := as) (vs := vs) h.2]
theorem evG_len : ∀ {a : T} {io : List Bool} {e e' : Env} {as : List Ag}, evG Φ a io e = some (as, e') → as.length = io.length := by
  intro a
  induction a with
  | nil =>
    intro io e e' as h
    cases io with
    | nil => rw [evG] at h; obtain ⟨rfl, rfl⟩ := inj2 h; rfl
    | cons _ _ => simp [evG] at h
  | cons a r _ ih =>
    intro io e e' as h
    cases io with
    | nil => cases a <;> simp [evG] at h
    | cons b bs =>
      by_cases hv : ∃ i, a = .v i
      · obtain ⟨i, rfl⟩ := hv
        rw [evG] at h
        split at h
        · split at h
          · rename_i as' e2 h4
            obtain ⟨rfl, rfl⟩ := inj2 h
            rw [List.length_cons, List.length_cons, ih h4]
          · cases h
        · cases h
      · have hd' : (match evE Φ a e with
          | some (x, e) => match evG Φ r bs e with
            | some (as, e) => some ((if b then Ag.own x else Ag.val x) :: as, e)
            | none => none
          | none => none) = some (as, e') := by
          rw [evG] at h
          · exact h
          · exact fun i hi => hv ⟨i, hi⟩
        split at hd'
        · split at hd'
          · rename_i as' e2 h4
            obtain ⟨rfl, rfl⟩ := inj2 hd'
            rw [List.length_cons, List.length_cons, ih h4]
          · cases hd'
        · cases hd'
  | _ => intro io e e' as h; cases io <;> simp [evG] at h
theorem W.parts {K : PySem.W.Frag} {B : Bs} {H : Hp} {R1 R2 R3 : List Rt} (w : W K B H (R1 ++ (R2 ++ R3))) : ∃ F S F1 S1 F2 S2 F3 S3, Okk B H F S ∧ Rs K H R1 F1 S1 ∧ Rs K H R2 F2 S2 ∧ Rs K H R3 F3 S3 ∧ F = F1 ++ (F2 ++ F3) ∧ S = S1 ++ (S2 ++ S3) := by
  obtain ⟨F, S, r, o⟩ := w
  unfold Rs at r
  rw [List.map_append, List.map_append, List.map_append, List.map_append] at r
  obtain ⟨F1, S1, F2, S2, a, b, c, d⟩ := r.unapp (by simp)
  obtain ⟨F3, S3, F4, S4, a', b', c', d'⟩ := b.unapp (by simp)
  exact ⟨F, S, F1, S1, F3, S3, F4, S4, o, a, a', b', by rw [c, c'], by rw [d, d']⟩
theorem nodup_13 {α : Type} {a b c : List α} (h : (a ++ (b ++ c)).Nodup) : (a ++ c).Nodup := by
  obtain ⟨h1, h2, h3⟩ := List.nodup_append.mp h
  exact List.nodup_append.mpr ⟨h1, (List.nodup_append.mp h2).2.1, fun x hx y hy => h3 x hx y (List.mem_append_right _ hy)⟩
theorem er_root {K : PySem.W.Frag} {σ : L2.St} {e : Env} {Γ : List Rt} {H : Hp} {F S : List Addr} (r : Rs K H (Γ ++ er σ e) F S) {i : Nat} {v : V} {d : D} (hv : σ[i]? = some (some v)) (hd : e.at i = some d) :
    ∃ F1 S1, Rep K H v d F1 S1 ∧ (∀ a ∈ F1, a ∈ F) ∧ ∀ a ∈ S1, a ∈ S := by
  have p := ((er_take hv (at_iff.mp hd)).append_left Γ).trans List.perm_middle
  obtain ⟨F', S', r', p1, p2⟩ := Rs.perm p r
  cases r' with
  | cons r1 _ => exact ⟨_, _, r1, fun a z => p1.mem_iff.mpr (List.mem_append_left _ z), fun a z => p2.mem_iff.mpr (List.mem_append_left _ z)⟩
theorem at_set {e : Env} {i j : Nat} {o : Option D} : Env.at (e.set i o) j = if i = j ∧ i < e.length then o else e.at j := by
  unfold Env.at
  by_cases h : i = j
  · subst h
    by_cases hl : i < e.length
    · rw [List.getElem?_set_self hl, if_pos ⟨rfl, hl⟩]; rfl
    · rw [List.getElem?_eq_none (by rw [List.length_set]; omega), if_neg (fun z => hl z.2), List.getElem?_eq_none (Nat.le_of_not_lt hl)]
  · rw [List.getElem?_set_ne h, if_neg (fun z => h z.1)]
theorem at_lt {e : Env} {i : Nat} {d : D} (h : e.at i = some d) : i < e.length := (List.getElem?_eq_some_iff.mp (at_iff.mp h)).1
theorem fz_at : ∀ {as : List Ag} {e : Env} {i : Nat}, (agFz as e).at i = e.at i ∨ ∃ d, e.at i = some d ∧ (agFz as e).at i = some d.shr
  | [], e, i => .inl rfl
  | .val _ :: as, e, i => fz_at (as := as)
  | .io _ :: as, e, i => fz_at (as := as)
  | .own _ :: as, e, i => fz_at (as := as)
  | .var j :: as, e, i => by
    rw [agFz]
    split
    · rename_i d hd
      by_cases hij : j = i
      · subst hij
        have e1 : Env.at (e.set j (some d.shr)) j = some d.shr := by rw [at_set, if_pos ⟨rfl, at_lt hd⟩]
        rcases fz_at (as := as) (e := e.set j (some d.shr)) (i := j) with q | ⟨d', h1, h2⟩
        · exact .inr ⟨d, hd, q.trans e1⟩
        · rw [e1] at h1
          cases h1
          rw [shr_shr] at h2
          exact .inr ⟨d, hd, h2⟩
      · have e1 : Env.at (e.set j (some d.shr)) i = e.at i := by rw [at_set, if_neg (fun z => hij z.1)]
        rcases fz_at (as := as) (e := e.set j (some d.shr)) (i := i) with q | ⟨d', h1, h2⟩
        · exact .inl (q.trans e1)
        · exact .inr ⟨d', e1 ▸ h1, h2⟩
    · exact fz_at (as := as)
theorem fz_un : ∀ {as : List Ag} {e : Env} {i : Nat}, Ag.var i ∈ as → ∀ d, (agFz as e).at i = some d → d.un = true
  | [], e, i, h, _, _ => nomatch h
  | .val _ :: as, e, i, h, d, hd => fz_un (as := as) (by simpa using h) d hd
  | .io _ :: as, e, i, h, d, hd => fz_un (as := as) (by simpa using h) d hd
  | .own _ :: as, e, i, h, d, hd => fz_un (as := as) (by simpa using h) d hd
  | .var j :: as, e, i, h, d, hd => by
    by_cases hm : Ag.var i ∈ as
    · rw [agFz] at hd
      exact fz_un (as := as) hm d hd
    · have hij : i = j := by
        rcases List.mem_cons.mp h with z | z
        · cases z; rfl
        · exact absurd z hm
      subst hij
      rw [agFz] at hd
      split at hd
      · rename_i d0 h0
        have e1 : Env.at (e.set i (some d0.shr)) i = some d0.shr := by rw [at_set, if_pos ⟨rfl, at_lt h0⟩]
        rcases fz_at (as := as) (e := e.set i (some d0.shr)) (i := i) with q | ⟨d', h1, h2⟩
        · rw [q, e1] at hd; cases hd; exact shr_un _
        · rw [h2] at hd; cases hd; exact shr_un _
      · rename_i h0
        rcases fz_at (as := as) (e := e) (i := i) with q | ⟨d', h1, h2⟩
        · rw [q, h0] at hd; cases hd
        · rw [h2] at hd; cases hd; exact shr_un _
theorem agD_fz {as0 : List Ag} {e' : Env} : ∀ {as : List Ag} {e : Env}, agD e (agFz as0 e') as = agD e e' as
  | [], e => rfl
  | .val d :: as, e => by rw [agD, agD, agD_fz (as := as)]
  | .io i :: as, e => by rw [agD, agD, agD_fz (as := as)]
  | .own i :: as, e => by rw [agD, agD, agD_fz (as := as)]
  | .var i :: as, e => by
    rw [agD, agD, agD_fz (as := as)]
    rcases fz_at (as := as0) (e := e') (i := i) with q | ⟨d, h1, h2⟩
    · rw [q]
    · rw [h1, h2]
      cases agD e e' as <;> simp [shr_shr]
/-- the argument's lists and what else there is, at a call -/
theorem call_at' {K : PySem.W.Frag} {B : Bs} {σ : L2.St} {H : Hp} {f : Nat} {as : List Ag} {vs : List V} {ds : List D} {e1 e3 : Env} {Γ : List Rt} {r : D} {os : List (Option D)} {Q : VK} {E : XK} (U : Prop) (hl : vs.length = (Φ.io f).length) (w : Wd K B σ e3 (ioR as vs e1 ++ (agR as vs ++ Γ)) H) (s : AgS σ as vs)
    (hU : U → ∀ i, Ag.var i ∈ as → ∀ d, e3.at i = some d → d.un = true) (hN : ¬ U → r.ns = true ∧ nsO os = true) (hd : agD e1 e3 as = some ds) (hr : Φ.run f ds = some (r, os)) (q : ∀ v H', Wd K B σ e3 (er (vs.map some) os ++ ((v, r) :: Γ)) H' → Q v H') : spOf K Φ f vs H Q E := by
  have w0 : W K B H (ioR as vs e1 ++ (agR as vs ++ (Γ ++ er σ e3))) := by
    have := w.w
    simpa [List.append_assoc] using this
  obtain ⟨F, S, F1, S1, F2, S2, F3, S3, o, r1, r2, r3, eF, eS⟩ := w0.parts
  subst eF eS
  obtain ⟨Sa, ra, qa⟩ := args_rep (Fr := F3) (Sr := S3) (e2 := e3) (fun i v d hv hd => er_root r3 hv hd) U (as := as) (vs := vs) hU r1 r2 s hd
  obtain ⟨n1, n2, n3⟩ := List.nodup_append.mp o.nd
  have dj : ∀ a ∈ F1, a ∉ Sa := fun a ha hs => by
    rcases qa a hs with z | z | z | ⟨z, _⟩ | z
    · exact o.dj a (List.mem_append_left _ ha) (List.mem_append_left _ z)
    · exact n3 a ha a (List.mem_append_left _ z) rfl
    · exact o.dj a (List.mem_append_left _ ha) (List.mem_append_right _ (List.mem_append_left _ z))
    · exact n3 a ha a (List.mem_append_right _ z) rfl
    · exact o.dj a (List.mem_append_left _ ha) (List.mem_append_right _ (List.mem_append_right _ z))
  refine ⟨ds, r, os, F1, Sa, hl, ra, ⟨n1, dj, fun a z => .inl z, fun a z => .inr (.inl z), fun b u e _ => e, o.sz⟩, hr, fun v H' w' => ?_⟩
  have wc : W K B H' (((v, r) :: er (vs.map some) os) ++ (Γ ++ er σ e3)) := by
    refine W.call o (fun a ha => ?_) (nodup_13 o.nd) r3 (fun a z => List.mem_append_right _ (List.mem_append_right _ z)) (fun a ha => ?_) (Reps.lstF r1) w' ?_
    · rcases List.mem_append.mp ha with z | z
      · exact List.mem_append_left _ z
      · exact List.mem_append_right _ (List.mem_append_right _ z)
    · rcases qa a ha with z | z | z | ⟨z, _⟩ | z
      · exact .inr (List.mem_append_left _ z)
      · exact .inl (List.mem_append_right _ (List.mem_append_left _ z))
      · exact .inr (List.mem_append_right _ (List.mem_append_left _ z))
      · exact .inl (List.mem_append_right _ (List.mem_append_right _ z))
      · exact .inr (List.mem_append_right _ (List.mem_append_right _ z))
    · by_cases u : U
      · refine .inr fun a ha hf => ?_
        rcases qa a ha with z | z | z | ⟨z, y⟩ | z
        · exact o.dj a (List.mem_append_right _ (List.mem_append_right _ hf)) (List.mem_append_left _ z)
        · exact (List.nodup_append.mp n2).2.2 a z a hf rfl
        · exact o.dj a (List.mem_append_right _ (List.mem_append_right _ hf)) (List.mem_append_right _ (List.mem_append_left _ z))
        · exact y u
        · exact o.dj a (List.mem_append_right _ (List.mem_append_right _ hf)) (List.mem_append_right _ (List.mem_append_right _ z))
      · refine .inl fun F' S' rs => ?_
        obtain ⟨u1, u2⟩ := hN u
        cases rs with
        | cons r0 t0 => rw [r0.ns u1, nsO_er (vs := vs) u2 t0]; rfl
  have wd : Wd K B σ e3 (er (vs.map some) os ++ ((v, r) :: Γ)) H' := by
    refine ⟨w.fit, w.pr, wc.perm ?_⟩
    have p : (((v, r) :: er (vs.map some) os) ++ (Γ ++ er σ e3)).Perm ((er (vs.map some) os ++ ((v, r) :: Γ)) ++ er σ e3) := by
      rw [← List.append_assoc]
      exact List.Perm.append_right _ List.perm_middle.symm
    exact p
  exact q v H' wd
theorem call_at {K : PySem.W.Frag} {B : Bs} {σ : L2.St} {H : Hp} {f : Nat} {as : List Ag} {vs : List V} {ds : List D} {e1 e3 e' : Env} {Γ : List Rt} {r : D} {os : List (Option D)} {Q : VK} {E : XK} (U : Prop) (hl : vs.length = (Φ.io f).length) (w : Wd K B σ e3 (ioR as vs e1 ++ (agR as vs ++ Γ)) H) (s : AgS σ as vs)
    (hU : U → ∀ i, Ag.var i ∈ as → ∀ d, e3.at i = some d → d.un = true) (hN : ¬ U → r.ns = true ∧ nsO os = true) (hd : agD e1 e3 as = some ds) (hr : Φ.run f ds = some (r, os)) (hb : agBack as os e3 = some e') (q : ∀ v H', Wd K B σ e' ((v, r) :: Γ) H' → Q v H') : spOf K Φ f vs H Q E :=
  call_at' U hl w s hU hN hd hr fun v H' wd => q v H' (come_back wd s hb)
theorem SE_call {f : Nat} {a : T} (sg : SG Φ k n a) : SE Φ k n (.call f a) := by
  intro X sc e O h
  cases e <;> try (simp [chkE] at h; done)
  rename_i g es kw pos
  cases g <;> try (simp [chkE] at h; done)
  cases kw <;> try (simp [chkE] at h; done)
  rename_i x xp
  simp only [chkE, Bool.and_eq_true, decide_eq_true_eq, Bool.not_eq_true'] at h
  obtain ⟨⟨⟨⟨hx, hf⟩, hg⟩, hdb⟩, ha⟩ := h
  subst hx
  obtain ⟨A, fd, ps, hm, hk, hb, F⟩ := O.fns f hf
  have hcall : PE X (.Call (.Name (n.fn f) xp) es [] pos) (tCall (spOf X.K Φ f) [] E0 (tG X.K Φ a (Φ.io f))) := by
    cases es with
    | nil =>
      have ha2 := sg (io := Φ.io f) O ha
      refine (pe_call0 (E := E0) F O.lv (O.gl hg) hm hk hb .nil pass0 hdb).imp ?_
      rintro σ H Q ⟨B, e, Γ, as, e', w, hd, q⟩
      cases a <;> try (simp [chkL] at ha; done)
      cases hio : Φ.io f with
      | cons _ _ => rw [hio] at hd; simp [evG] at hd
      | nil =>
        rw [hio, evG] at hd
        obtain ⟨rfl, rfl⟩ := inj2 hd
        exact q [] H trivial w
    | cons y ys =>
      have hst : (backTo pos (starEach ys X.env)).any (·.1) = false := by
        obtain ⟨x0, xs0, e0⟩ : ∃ x0 xs0, a = .cons x0 xs0 := by cases a <;> first | exact ⟨_, _, rfl⟩ | simp [chkL] at ha
        subst e0
        obtain ⟨_, _, ee, _, h2⟩ := chk_cons ha
        cases ee
        exact noStar h2
      have hpl : plE y = true := by
        obtain ⟨x0, xs0, e0⟩ : ∃ x0 xs0, a = .cons x0 xs0 := by cases a <;> first | exact ⟨_, _, rfl⟩ | simp [chkL] at ha
        subst e0
        obtain ⟨_, _, ee, h1, _⟩ := chk_cons ha
        cases ee
        exact chk_pl h1
      exact pe_call F O.lv (O.gl hg) hm hk hb .nil pass0 (sg O ha) hdb (star_pl hpl) hst
  refine hcall.imp ?_
  rintro σ H Q ⟨B, env, Γ, d, e', w, hd, q⟩
  rw [evE] at hd
  split at hd
  · rename_i as e1 h1
    split at hd
    · rename_i e2 h2
      split at hd
      · rename_i ds h3
        split at hd
        · rename_i r os h4
          split at hd
          · rename_i e3 h5
            obtain ⟨rfl, rfl⟩ := inj2 hd
            refine ⟨B, env, Γ, as, e1, w, h1, fun vs H1 s w1 => ?_⟩
            show spOf X.K Φ f (vs ++ []) H1 Q E0
            rw [List.append_nil]
            have hl : vs.length = (Φ.io f).length := by rw [← agS_len s, evG_len h1]
            have w2 := take_io w1 s h2
            by_cases c : (r.ns && nsO os) = true
            · rw [if_pos c] at h5
              simp only [Bool.and_eq_true] at c
              exact call_at False hl w2 s (fun z => z.elim) (fun _ => c) h3 h4 h5 q
            · rw [if_neg c] at h5
              exact call_at True hl (freeze (as := as) w2) s (fun _ i hi d hd => fz_un hi d hd) (fun z => (z trivial).elim) (by rw [agD_fz]; exact h3) h4 h5 q
          · cases hd
        · cases hd
      · cases hd
    · cases hd
  · cases hd
theorem call_imp {f : Nat} {a : T} {K : PySem.W.Frag} {E : XK} : ∀ {σ : L2.St} {H : Hp} {Q : VK}, tD K Φ (.call f a) σ H Q → tG K Φ a (Φ.io f) σ H fun vs H1 => spOf K Φ f vs H1 Q E := by
  rintro σ H Q ⟨B, env, Γ, d, e', w, hd, q⟩
  rw [evE] at hd
  split at hd
  · rename_i as e1 h1
    split at hd
    · rename_i e2 h2
      split at hd
      · rename_i ds h3
        split at hd
        · rename_i r os h4
          split at hd
          · rename_i e3 h5
            obtain ⟨rfl, rfl⟩ := inj2 hd
            refine ⟨B, env, Γ, as, e1, w, h1, fun vs H1 s w1 => ?_⟩
            have hl : vs.length = (Φ.io f).length := by rw [← agS_len s, evG_len h1]
            have w2 := take_io w1 s h2
            by_cases c : (r.ns && nsO os) = true
            · rw [if_pos c] at h5
              simp only [Bool.and_eq_true] at c
              exact call_at False hl w2 s (fun z => z.elim) (fun _ => c) h3 h4 h5 q
            · rw [if_neg c] at h5
              exact call_at True hl (freeze (as := as) w2) s (fun _ i hi d hd => fz_un hi d hd) (fun z => (z trivial).elim) (by rw [agD_fz]; exact h3) h4 h5 q
          · cases hd
        · cases hd
      · cases hd
    · cases hd
  · cases hd
end
end Sr
set_option Elab.async false
set_option linter.all false
set_option maxRecDepth 100000
set_option maxHeartbeats 2000000
/-! # Sr: displays, items, slices, built-ins -/
namespace Sr
open PySem PySem.Spec PyProof.Rows L2
section
variable {Φ : Fs} {k : Nat} {n : Nm}
theorem Wd.tupN {K : PySem.W.Frag} {B : Bs} {σ : L2.St} {e : Env} {Γ : List Rt} {H : Hp} {vs : List V} {ds : List D} {p : Addr} (w : Wd K B σ e (vs.zip ds ++ Γ) H) (l : vs.length = ds.length) (hp : H p = none) (z : vs.length ≤ sizeLine) : Wd K B σ e ((.ref p, .tup ds) :: Γ) (upd H p (.tup vs)) := by
  refine ⟨w.fit, w.pr, ?_⟩
  have := w.w
  rw [List.append_assoc] at this
  exact this.tupV l hp z
theorem Wd.lstN {K : PySem.W.Frag} {B : Bs} {σ : L2.St} {e : Env} {Γ : List Rt} {H : Hp} {vs : List V} {ds : List D} {p : Addr} (w : Wd K B σ e (vs.zip ds ++ Γ) H) (l : vs.length = ds.length) (hp : H p = none) (z : vs.length ≤ sizeLine) : Wd K B σ e ((.ref p, .lst true ds) :: Γ) (upd H p (.lst vs)) := by
  refine ⟨w.fit, w.pr, ?_⟩
  have := w.w
  rw [List.append_assoc] at this
  exact this.lstV l hp z
theorem SE_tup {a : T} (s : SL Φ k n a) : SE Φ k n (.tup a) := by
  intro X sc e O h
  cases e <;> try (simp [chkE] at h; done)
  simp only [chkE] at h
  refine (pe_tup (s O h)).imp ?_
  rintro σ H Q ⟨B, env, Γ, d, e', w, hd, q⟩
  rw [evE] at hd
  split at hd
  · rename_i ds e1 h1
    split at hd
    · rename_i c
      obtain ⟨rfl, rfl⟩ := inj2 hd
      exact ⟨B, env, Γ, ds, e1, w, h1, fun vs H1 l w1 => ⟨by have := big_le; omega, fun p hp => q _ _ (w1.tupN l hp (by have := big_le; omega))⟩⟩
    · cases hd
  · cases hd
theorem SE_lst {a : T} (s : SL Φ k n a) : SE Φ k n (.lst a) := by
  intro X sc e O h
  cases e <;> try (simp [chkE] at h; done)
  simp only [chkE] at h
  refine (pe_lst (s O h)).imp ?_
  rintro σ H Q ⟨B, env, Γ, d, e', w, hd, q⟩
  rw [evE] at hd
  split at hd
  · rename_i ds e1 h1
    split at hd
    · rename_i c
      obtain ⟨rfl, rfl⟩ := inj2 hd
      exact ⟨B, env, Γ, ds, e1, w, h1, fun vs H1 l w1 => ⟨by have := big_le; omega, fun p hp => q _ _ (w1.lstN l hp (by have := big_le; omega))⟩⟩
    · cases hd
  · cases hd
/-- an item of what is let go -/
theorem Wd.item {K : PySem.W.Frag} {B : Bs} {σ : L2.St} {e : Env} {Γ : List Rt} {H : Hp} {v : V} {d x : D} {kk : Int} (w : Wd K B σ e ((v, d) :: Γ) H) (h : atD d kk = some x) :
    ∃ a vs u, v = .ref a ∧ (SqL K H a vs ∨ SqT K H a vs) ∧ atI vs kk = some u ∧ Wd K B σ e ((u, x) :: Γ) H := by
  obtain ⟨F, S, r, o⟩ := w.w
  cases r with
  | @cons _ _ _ _ F1 S1 F2 S2 r t =>
    unfold atD at h
    cases hi : Sr.items d with
    | none => rw [hi] at h; cases h
    | some xs =>
      rw [hi] at h
      obtain ⟨a, vs, F3, S3, ev, q, rs, f3, s3, n3⟩ := r.items hi
      obtain ⟨j, hj, hx⟩ := atI_of h
      obtain ⟨u, F4, S4, hu, r4, f4, s4, n4⟩ := rs.get hx
      refine ⟨a, vs, u, ev, q, ?_, w.fit, w.pr, ⟨F4 ++ F2, S4 ++ S2, .cons r4 t, ?_⟩⟩
      · unfold atI
        rw [rs.len, hj]
        exact hu
      · obtain ⟨n1, n2, nn⟩ := List.nodup_append.mp o.nd
        refine o.less (fun b hb => ?_) (List.nodup_append.mpr ⟨n4 (n3 n1), n2, fun b hb c hc => nn b (f3 b (f4 b hb)) c hc⟩) fun b hb => ?_
        · rcases List.mem_append.mp hb with z | z
          · exact List.mem_append_left _ (f3 b (f4 b z))
          · exact List.mem_append_right _ z
        · rcases List.mem_append.mp hb with z | z
          · exact List.mem_append_left _ (s3 b (s4 b z))
          · exact List.mem_append_right _ z
theorem SE_ix {a b : T} (sa : SE Φ k n a) (sb : SE Φ k n b) : SE Φ k n (.ix a b) := by
  intro X sc e O h
  by_cases p : (isP a && isP b) = true
  · refine (evP_ok O (t := .ix a b) (by simpa [isP] using p) h).imp ?_
    rintro σ H Q ⟨B, env, Γ, d, e', w, hd, q⟩
    rw [evE, if_pos p] at hd
    split at hd
    · rename_i d0 h0
      split at hd
      · rename_i u
        obtain ⟨rfl, rfl⟩ := inj2 hd
        refine ⟨B, env, Γ, d0, w, h0, fun v bv => q v H ⟨w.fit, w.pr, bv.un u⟩⟩
      · cases hd
    · cases hd
  · cases e <;> try (simp [chkE] at h; done)
    simp only [chkE, Bool.and_eq_true] at h
    refine (pe_ix ix_seqV (sa O h.1) (sb O h.2) (plainIx_pl (chk_pl h.2))).imp ?_
    rintro σ H Q ⟨B, env, Γ, d, e', w, hd, q⟩
    rw [evE, if_neg p] at hd
    split at hd
    · rename_i x e1 h1
      split at hd
      · rename_i kk e2 h2
        rw [Option.map_eq_some_iff] at hd
        obtain ⟨d', hd, ee⟩ := hd
        obtain ⟨rfl, rfl⟩ := Prod.mk.inj ee
        refine ⟨B, env, Γ, x, e1, w, h1, fun v H1 w1 => ⟨B, e1, _, _, e2, w1, h2, fun u H2 w2 => ?_⟩⟩
        have eu := w2.headInt
        subst eu
        obtain ⟨ad, vs, z, ev, sq, hz, wz⟩ := w2.drop.item hd
        exact ⟨ad, vs, kk, z, ev, rfl, sq, hz, q _ _ wz⟩
      · cases hd
    · cases hd

/-! ### slices -/
theorem cut_reps {K : PySem.W.Frag} {H : Hp} {vs : List V} {ds : List D} {S : List Addr} (r : Reps K H vs ds [] S) (lo hi : Option Int) : ∃ S', Reps K H (cutV vs lo hi) (cutD ds lo hi) [] S' ∧ ∀ a ∈ S', a ∈ S := by
  have d1 : ∀ {ds : List D} {vs : List V} {S : List Addr} (m : Nat), Reps K H vs ds [] S → ∃ S', Reps K H (vs.drop m) (ds.drop m) [] S' ∧ ∀ a ∈ S', a ∈ S := by
    intro ds
    induction ds with
    | nil => intro vs S m r; cases r; exact ⟨[], by simpa using Reps.nil, fun _ z => nomatch z⟩
    | cons d ds ih =>
      intro vs S m r
      generalize hF : ([] : List Addr) = F0 at r
      cases r with
      | @cons _ _ _ _ F1 S1 F2 S2 r t =>
        obtain ⟨rfl, rfl⟩ := List.append_eq_nil_iff.mp hF.symm
        cases m with
        | zero => exact ⟨S1 ++ S2, .cons (F := []) r t, fun _ z => z⟩
        | succ m =>
          obtain ⟨S', r', h'⟩ := ih m t
          exact ⟨S', r', fun a z => List.mem_append_right _ (h' a z)⟩
  have t1 : ∀ {ds : List D} {vs : List V} {S : List Addr} (m : Nat), Reps K H vs ds [] S → ∃ S', Reps K H (vs.take m) (ds.take m) [] S' ∧ ∀ a ∈ S', a ∈ S := by
    intro ds
    induction ds with
    | nil => intro vs S m r; cases r; exact ⟨[], by simpa using Reps.nil, fun _ z => nomatch z⟩
    | cons d ds ih =>
      intro vs S m r
      generalize hF : ([] : List Addr) = F0 at r
      cases r with
      | @cons _ _ _ _ F1 S1 F2 S2 r t =>
        obtain ⟨rfl, rfl⟩ := List.append_eq_nil_iff.mp hF.symm
        cases m with
        | zero => exact ⟨[], .nil, fun _ z => nomatch z⟩
        | succ m =>
          obtain ⟨S', r', h'⟩ := ih m t
          exact ⟨S1 ++ S', .cons (F := []) r r', fun a z => (List.mem_append.mp z).elim (fun y => List.mem_append_left _ y) fun y => List.mem_append_right _ (h' a y)⟩
  unfold cutV cutD
  rw [r.len]
  obtain ⟨S1, r1, h1⟩ := d1 (HT.sIx ds.length 0 lo) r
  obtain ⟨S2, r2, h2⟩ := t1 (HT.sIx ds.length ds.length hi - HT.sIx ds.length 0 lo) r1
  exact ⟨S2, r2, fun a z => h1 a (h2 a z)⟩
/-- a bound -/
def tPo (K : PySem.W.Frag) (t : T) : TO := fun σ H Q => ∃ B e Γ o, Wd K B σ e Γ H ∧ evPo t e = some o ∧ Q o H
theorem po_ok {X : Cx} {sc : Scope} {t : T} {l : Option Expr} (O : OkX Φ k n X sc) (h : (match l with | none => (match t with | .nil => true | _ => false) | some f => chkE n sc t f) = true) (p : isPo t = true) : PO X l (tPo X.K t) := by
  have imp : ∀ {to : TO}, PO X l to → (∀ σ H Q, tPo X.K t σ H Q → to σ H Q) → PO X l (tPo X.K t) := fun hp i => ⟨fun pins s σ H Q I q => hp.run pins s σ H Q I (i σ H Q q)⟩
  cases l with
  | none =>
    cases t <;> try (simp at h; done)
    refine imp po_none ?_
    rintro σ H Q ⟨B, e, Γ, o, w, ho, q⟩
    cases ho
    exact q
  | some f =>
    have h' : chkE n sc t f = true := h
    have hn : t ≠ .nil := by rintro rfl; simp [chkE] at h'
    have hp : isP t = true := by
      cases t <;> first | exact absurd rfl hn | exact p
    refine imp (po_some (evP_ok O hp h')) ?_
    rintro σ H Q ⟨B, e, Γ, o, w, ho, q⟩
    have ho' : (match evP t e with | some (.int i) => some (some i) | _ => none) = some o := by
      cases t <;> first | exact absurd rfl hn | exact ho
    split at ho'
    · rename_i i hi
      cases ho'
      exact ⟨B, e, Γ, _, w, hi, fun v bv => ⟨i, bv.int, q⟩⟩
    · cases ho'
/-- a slice of a list or a tuple -/
theorem sl_seq {X : Cx} : SlR X (fun x lo hi H Q => (∃ a xs, x = .ref a ∧ SqL X.K H a xs ∧ (xs.length ≤ sizeLine → ∀ p, H p = none → Q (.ref p) (upd H p (.lst (cutV xs lo hi))))) ∨ rSlT X.K x lo hi H Q) := by
  intro pins s σ H x v vl vu lo hi sl Q I rx hs pl pu q
  rcases q with ⟨a, xs, ex, hx, q⟩ | q
  · obtain ⟨_, _, _, z⟩ := I.list hx
    exact sl_list pins s σ H x v vl vu lo hi sl Q I rx hs pl pu ⟨a, xs, ex, hx, q z⟩
  · exact sl_tup pins s σ H x v vl vu lo hi sl Q I rx hs pl pu q
def evB (Φ : Fs) (t : T) (e : Env) : Option (Option Int × Env) := if isNil t then some (none, e) else match evE Φ t e with
  | some (.int i, e) => some (some i, e)
  | _ => none
def tB (K : PySem.W.Frag) (Φ : Fs) (t : T) : TO := fun σ H Q => ∃ B e Γ o e', Wd K B σ e Γ H ∧ evB Φ t e = some (o, e') ∧ ∀ H', Wd K B σ e' Γ H' → Q o H'
theorem pb_ok {X : Cx} {sc : Scope} {t : T} {l : Option Expr} (O : OkX Φ k n X sc) (h : (match l with | none => (match t with | .nil => true | _ => false) | some f => chkE n sc t f) = true) (st : SE Φ k n t) : PO X l (tB X.K Φ t) := by
  have imp : ∀ {to : TO}, PO X l to → (∀ σ H Q, tB X.K Φ t σ H Q → to σ H Q) → PO X l (tB X.K Φ t) := fun hp i => ⟨fun pins s σ H Q I q => hp.run pins s σ H Q I (i σ H Q q)⟩
  cases l with
  | none =>
    cases t <;> try (simp at h; done)
    refine imp po_none ?_
    rintro σ H Q ⟨B, e, Γ, o, e', w, ho, q⟩
    unfold evB at ho
    rw [if_pos (show isNil T.nil = true from rfl)] at ho
    cases ho
    exact q H w
  | some f =>
    have h' : chkE n sc t f = true := h
    have hn : isNil t = false := by cases t <;> first | rfl | simp [chkE] at h'
    refine imp (po_some (st O h')) ?_
    rintro σ H Q ⟨B, e, Γ, o, e', w, ho, q⟩
    unfold evB at ho
    rw [if_neg (by rw [hn]; decide)] at ho
    split at ho
    · rename_i i e1 hi
      obtain ⟨rfl, rfl⟩ := inj2 ho
      refine ⟨B, e, Γ, _, e1, w, hi, fun v H1 w1 => ?_⟩
      have ev := w1.headInt
      exact ⟨i, ev, q _ w1.drop⟩
    · cases ho
theorem SE_sl {a lo hi : T} (sa : SE Φ k n a) (sl : SE Φ k n lo) (sh : SE Φ k n hi) : SE Φ k n (.sl a lo hi) := by
  intro X sc e O h
  cases e <;> try (simp [chkE] at h; done)
  rename_i x s pos
  cases s <;> try (simp [chkE] at h; done)
  rename_i l u st p2
  cases st <;> try (simp [chkE] at h; done)
  simp only [chkE, Bool.and_eq_true] at h
  by_cases p : (isPo lo && isPo hi) = true
  case neg =>
    refine (pe_slice sl_seq (sa O h.1.1) (pb_ok O h.1.2 sl) (pb_ok O h.2 sh)).imp ?_
    rintro σ H Q ⟨B, env, Γ, d, e', w, hd, q⟩
    rw [evE, if_neg p] at hd
    change (match evE Φ a env with
      | some (x, e) => match evB Φ lo e with
        | some (l, e) => match evB Φ hi e with
          | some (h, e) => match slD x l h with
            | some d => some (d, e)
            | none => none
          | none => none
        | none => none
      | none => none) = some (d, e') at hd
    split at hd
    · rename_i dx e1 h1
      split at hd
      · rename_i l0 e2 h2
        split at hd
        · rename_i u0 e3 h3
          split at hd
          · rename_i d0 h4
            obtain ⟨rfl, rfl⟩ := inj2 hd
            refine ⟨B, env, Γ, dx, e1, w, h1, fun v H1 w1 => ⟨B, e1, _, l0, e2, w1, h2, fun H2 w2 => ⟨B, e2, _, u0, e3, w2, h3, fun H3 w3 => ?_⟩⟩⟩
            obtain ⟨F, S, rr, o⟩ := w3.w
            cases rr with
            | @cons _ _ _ _ F1 S1 F2 S2 r t =>
            have hF : ∀ z ∈ F2, z ∈ F1 ++ F2 := fun z hz => List.mem_append_right _ hz
            have hS : ∀ z ∈ S2, z ∈ S1 ++ S2 := fun z hz => List.mem_append_right _ hz
            have nF : F2.Nodup := (List.nodup_append.mp o.nd).2.1
            unfold slD at h4
            split at h4
            · rename_i ow xs
              split at h4
              · rename_i uu
                cases h4
                obtain ⟨ad, vs, F3, S3, ev, sq, rs, f2, s2, _⟩ := r.lstI
                have z := rs.un uu
                subst z
                obtain ⟨S4, r3, h3'⟩ := cut_reps rs l0 u0
                refine .inl ⟨ad, vs, ev, sq, fun hz p hp => q _ _ ⟨w3.fit, w3.pr, ?_⟩⟩
                exact W.lstV (W.beside o t hF nF hS r3 fun a z => List.mem_append_left _ (s2 a (h3' a z))) r3.len hp (Nat.le_trans (cutV_length _ _ _) hz)
              · cases h4
            · rename_i xs
              split at h4
              · rename_i uu
                cases h4
                cases r with
                | tup sq rs =>
                  have z := rs.un uu.1
                  subst z
                  obtain ⟨S4, r3, h3'⟩ := cut_reps rs l0 u0
                  refine .inr ⟨_, _, rfl, .inl sq, by rw [rs.len]; exact uu.2, fun p hp => q _ _ ⟨w3.fit, w3.pr, ?_⟩⟩
                  exact W.tupV (W.beside o t hF nF hS r3 fun a z => List.mem_append_left _ (h3' a z)) r3.len hp (Nat.le_trans (cutV_length _ _ _) (o.sz _ _ (.inr sq)))
              · cases h4
            · cases h4
          · cases hd
        · cases hd
      · cases hd
    · cases hd
  have p' := p
  simp only [Bool.and_eq_true] at p'
  refine (pe_slice sl_seq (sa.op O h.1.1) (po_ok O h.1.2 p'.1) (po_ok O h.2 p'.2)).imp ?_
  rintro σ H Q ⟨B, env, Γ, d, e', w, hd, q⟩
  rw [evE, if_pos p] at hd
  change (match evO Φ a env with
    | some (x, e) => match evPo lo e with
      | some l => match evPo hi e with
        | some h => match slD x l h with
          | some d => some (d, e)
          | none => none
        | none => none
      | none => none
    | none => none) = some (d, e') at hd
  split at hd
  · rename_i dx e1 h1
    split at hd
    · rename_i l0 h2
      split at hd
      · rename_i u0 h3
        split at hd
        · rename_i d0 h4
          obtain ⟨rfl, rfl⟩ := inj2 hd
          refine ⟨B, env, Γ, dx, e1, w, h1, fun v H1 R bv w1 back => ⟨B, e1, Γ, l0, w1, h2, B, e1, Γ, u0, w1, h3, ?_⟩⟩
          obtain ⟨F, S, F1, S1, rr, o, r, f, s, nn⟩ := bv.ex
          unfold slD at h4
          split at h4
          · rename_i ow xs
            split at h4
            · rename_i uu
              cases h4
              obtain ⟨ad, vs, F2, S2, ev, sq, rs, f2, s2, _⟩ := r.lstI
              have z := rs.un uu
              subst z
              obtain ⟨S3, r3, h3'⟩ := cut_reps rs l0 u0
              refine .inl ⟨ad, vs, ev, sq, fun hz p hp => q _ _ (back _ _ _ ?_)⟩
              refine W.lstV (W.beside o rr (fun a z => z) o.nd (fun a z => z) r3 fun a z => s a (s2 a (h3' a z))) r3.len hp (Nat.le_trans (cutV_length _ _ _) hz)
            · cases h4
          · rename_i xs
            split at h4
            · rename_i uu
              cases h4
              cases r with
              | tup sq rs =>
                have z := rs.un uu.1
                subst z
                obtain ⟨S3, r3, h3'⟩ := cut_reps rs l0 u0
                refine .inr ⟨_, _, rfl, .inl sq, by rw [rs.len]; exact uu.2, fun p hp => q _ _ (back _ _ _ ?_)⟩
                exact W.tupV (W.beside o rr (fun a z => z) o.nd (fun a z => z) r3 fun a z => s a (h3' a z)) r3.len hp (Nat.le_trans (cutV_length _ _ _) (o.sz _ _ (.inr sq)))
            · cases h4
          · cases h4
        · cases hd
      · cases hd
    · cases hd
  · cases hd

/-! ### built-ins -/
theorem b1_imp {K : PySem.W.Frag} {c : B1} {a : T} {σ : L2.St} {H : Hp} {Q : VK} (h : tD K Φ (.b1 c a) σ H Q) : tCB (rB1 K c) (tCons (tO K Φ a) tNil) σ H Q := by
  obtain ⟨B, env, Γ, d, e', w, hd, q⟩ := h
  rw [evE] at hd
  change (match evO Φ a env with | some (x, e) => (b1D c x).map fun d => (d, e) | none => none) = some (d, e') at hd
  split at hd
  · rename_i x e1 h1
    rw [Option.map_eq_some_iff] at hd
    obtain ⟨d', hd, ee⟩ := hd
    obtain ⟨rfl, rfl⟩ := Prod.mk.inj ee
    exact ⟨B, env, Γ, x, e1, w, h1, fun v H1 R bv w1 back => ⟨B, R, v, x, d', rfl, bv, hd, fun u H2 w2 => q _ _ (back _ _ _ w2)⟩⟩
  · cases hd
theorem b1d_imp {K : PySem.W.Frag} {c : B1} {a : T} {σ : L2.St} {H : Hp} {Q : VK} (h : tD K Φ (.b1 c a) σ H Q) : tCKw (fun xs zs H Q => zs = [.non] ∧ rB1 K c xs H Q) (tCons (tO K Φ a) tNil) (tCons (tC .non) tNil) σ H Q := by
  obtain ⟨B, env, Γ, d, e', w, hd, q⟩ := h
  rw [evE] at hd
  change (match evO Φ a env with | some (x, e) => (b1D c x).map fun d => (d, e) | none => none) = some (d, e') at hd
  split at hd
  · rename_i x e1 h1
    rw [Option.map_eq_some_iff] at hd
    obtain ⟨d', hd, ee⟩ := hd
    obtain ⟨rfl, rfl⟩ := Prod.mk.inj ee
    exact ⟨B, env, Γ, x, e1, w, h1, fun v H1 R bv w1 back => ⟨rfl, B, R, v, x, d', rfl, bv, hd, fun u H2 w2 => q _ _ (back _ _ _ w2)⟩⟩
  · cases hd
theorem b1t_imp {K : PySem.W.Frag} {c : B1} {ty : String} {a : T} {σ : L2.St} {H : Hp} {Q : VK} (h : tD K Φ (.b1 c a) σ H Q) : tCB (rB1t K c ty) (tCons (tO K Φ a) (tCons (tC (.ty ty)) tNil)) σ H Q := by
  obtain ⟨B, env, Γ, d, e', w, hd, q⟩ := h
  rw [evE] at hd
  change (match evO Φ a env with | some (x, e) => (b1D c x).map fun d => (d, e) | none => none) = some (d, e') at hd
  split at hd
  · rename_i x e1 h1
    rw [Option.map_eq_some_iff] at hd
    obtain ⟨d', hd, ee⟩ := hd
    obtain ⟨rfl, rfl⟩ := Prod.mk.inj ee
    exact ⟨B, env, Γ, x, e1, w, h1, fun v H1 R bv w1 back => ⟨B, R, v, x, d', rfl, bv, hd, fun u H2 w2 => q _ _ (back _ _ _ w2)⟩⟩
  · cases hd
theorem SE_b1 {c : B1} {a : T} (s : SE Φ k n a) : SE Φ k n (.b1 c a) := by
  intro X sc e O h
  rcases chk_b1 h with ⟨x, xp, es, pos, rfl, h0, h1, h2⟩ | ⟨x, xp, y, kk, p, kp, pos, rfl, h0, h1, hy⟩
  case inr =>
    obtain ⟨rfl, hg⟩ := bltB_iff h1
    have pa := pa_cons (s.op O hy) pa_nil (star_pl (chk_pl hy))
    have pk : PK X [⟨some ("default" : Str), .Constant .none kk p, kp⟩] (tCons (tC .non) tNil) := pk_cons (pe_non) pk_nil
    cases c <;> first | (cases h0; done) | skip
    · exact (pe_callBK (b1_minD O.calm) (O.gl hg) (O.blt (by decide)) (by decide +kernel) pa pk (he := by rw [star_pl (chk_pl hy)]; rfl) (hpl := by rw [star_pl (chk_pl hy)]; rfl)).imp fun σ H Q q => b1d_imp q
    · exact (pe_callBK (b1_maxD O.calm) (O.gl hg) (O.blt (by decide)) (by decide +kernel) pa pk (he := by rw [star_pl (chk_pl hy)]; rfl) (hpl := by rw [star_pl (chk_pl hy)]; rfl)).imp fun σ H Q q => b1d_imp q
  obtain ⟨rfl, hg⟩ := bltB_iff h1
  rcases h2 with ⟨hc, y, rfl, hy⟩ | ⟨ty, y, z, zp, hc, rfl, hz, hy⟩
  · have pa := pa_cons (s.op O hy) pa_nil (star_pl (chk_pl hy))
    cases c <;> first | (cases hc; done) | (cases h0; done) | skip
    · exact (pe_callB b1_len (O.gl hg) (O.blt (by decide)) PySem.boot_len pa (he := star_pl (chk_pl hy))).imp fun σ H Q q => b1_imp q
    · exact (pe_callB b1_abs (O.gl hg) (O.blt (by decide)) (by decide +kernel) pa (he := star_pl (chk_pl hy))).imp fun σ H Q q => b1_imp q
    · exact (pe_callTy b1_int (O.gl hg) (O.blt (by decide)) (by decide +kernel) pa (he := star_pl (chk_pl hy))).imp fun σ H Q q => b1_imp q
    · exact (pe_callTy b1_list (O.gl hg) (O.blt (by decide)) (by decide +kernel) pa (he := star_pl (chk_pl hy))).imp fun σ H Q q => b1_imp q
    · exact (pe_callTy b1_tuple (O.gl hg) (O.blt (by decide)) (by decide +kernel) pa (he := star_pl (chk_pl hy))).imp fun σ H Q q => b1_imp q
    · exact (pe_callB (b1_sum O.calm) (O.gl hg) (O.blt (by decide)) (by decide +kernel) pa (he := star_pl (chk_pl hy))).imp fun σ H Q q => b1_imp q
    · exact (pe_callB (b1_min O.calm) (O.gl hg) (O.blt (by decide)) (by decide +kernel) pa (he := star_pl (chk_pl hy))).imp fun σ H Q q => b1_imp q
    · exact (pe_callB (b1_max O.calm) (O.gl hg) (O.blt (by decide)) (by decide +kernel) pa (he := star_pl (chk_pl hy))).imp fun σ H Q q => b1_imp q
    · exact (pe_callB b1_sorted (O.gl hg) (O.blt (by decide)) (by decide +kernel) pa (he := star_pl (chk_pl hy))).imp fun σ H Q q => b1_imp q
    · exact (pe_callB b1_sortP (O.gl hg) (O.blt (by decide)) (by decide +kernel) pa (he := star_pl (chk_pl hy))).imp fun σ H Q q => b1_imp q
  · obtain ⟨rfl, hgz⟩ := bltB_iff hz
    have hb : PE X (.Name (Str.ofString ty) zp) (tC (.ty ty)) := by
      cases c <;> (try (cases hc; done)) <;> cases hc <;> exact pe_bltn (O.gl hgz) (O.blt (by decide)) (u := .type _) (by decide +kernel) rfl
    have pa := pa_cons (s.op O hy) (pa_cons hb pa_nil (star_pl rfl)) (star_pl (chk_pl hy))
    have hn : b1name c = "isinstance" := by cases c <;> first | (cases hc; done) | rfl
    rw [hn] at hg ⊢
    exact (pe_callB (b1_is hc) (O.gl hg) (O.blt (by decide)) (by decide +kernel) pa (he := star_pl (chk_pl hy))).imp fun σ H Q q => b1t_imp q
theorem bn_min {xs : List D} {d : D} (h : bnD .min2 xs = some d) : ∃ i j : Int, xs = [.int i, .int j] ∧ d = .int (if j < i then j else i) := by
  unfold bnD at h
  split at h
  · cases h; exact ⟨_, _, rfl, rfl⟩
  · rename_i hh; cases hh
  · rename_i hh; cases hh
  · cases h
theorem bn_max {xs : List D} {d : D} (h : bnD .max2 xs = some d) : ∃ i j : Int, xs = [.int i, .int j] ∧ d = .int (if j > i then j else i) := by
  unfold bnD at h
  split at h
  · rename_i hh; cases hh
  · cases h; exact ⟨_, _, rfl, rfl⟩
  · rename_i hh; cases hh
  · cases h
theorem bn_3 {xs : List D} {d : D} (h : bnD .max3 xs = some d) : ∃ i j k : Int, xs = [.int i, .int j, .int k] ∧ d = .int (if k > (if j > i then j else i) then k else (if j > i then j else i)) := by
  unfold bnD at h
  split at h
  · rename_i hh; cases hh
  · rename_i hh; cases hh
  · cases h; exact ⟨_, _, _, rfl, rfl⟩
  · cases h
theorem nu3 (i j k : Int) : nuMax3 (.int i) (.int j) (.int k) = some (.int (if k > (if j > i then j else i) then k else (if j > i then j else i))) := by
  have h : ∀ a b : Int, nuMax2 (.int a) (.int b) = some (.int (if b > a then b else a)) := fun a b => by
    show some (if decide (a < b) = true then V.int b else V.int a) = _
    by_cases c : a < b
    · simp [c]
    · simp [c]
  unfold nuMax3
  rw [h]
  exact h _ _
theorem SE_bn {c : BN} {a : T} (s : SL Φ k n a) : SE Φ k n (.bn c a) := by
  intro X sc e O h
  cases e <;> try (simp [chkE] at h; done)
  rename_i g es kw pos
  cases g <;> try (simp [chkE] at h; done)
  cases kw <;> try (simp [chkE] at h; done)
  simp only [chkE, Bool.and_eq_true] at h
  obtain ⟨h1, h2⟩ := h
  obtain ⟨rfl, hg⟩ := bltB_iff h1
  cases es with
  | nil =>
    refine ⟨fun pins s σ H Q I hh => ?_⟩
    obtain ⟨B, env, Γ, d, e', w, hd, q⟩ := hh
    cases a <;> try (simp [chkL] at h2; done)
    rw [evE, evL] at hd
    cases c <;> simp [bnD] at hd
  | cons y ys =>
    obtain ⟨x0, xs0, e0⟩ : ∃ x0 xs0, a = .cons x0 xs0 := by cases a <;> first | exact ⟨_, _, rfl⟩ | simp [chkL] at h2
    subst e0
    obtain ⟨_, _, ee, hy, hys⟩ := chk_cons h2
    cases ee
    have two : ∀ {σ : L2.St} {H : Hp} {Q : VK} {g : Int → Int → Int}, (∀ xs d, bnD c xs = some d → ∃ i j, xs = [.int i, .int j] ∧ d = .int (g i j)) → tD X.K Φ (.bn c (.cons x0 xs0)) σ H Q → tLL X.K Φ (.cons x0 xs0) σ H fun vs H1 => ∃ i j, vs = [.int i, .int j] ∧ Q (.int (g i j)) H1 := by
      rintro σ H Q g hg ⟨B, env, Γ, d, e', w, hd, q⟩
      rw [evE] at hd
      split at hd
      · rename_i xs e1 h3
        rw [Option.map_eq_some_iff] at hd
        obtain ⟨d', hd, ee⟩ := hd
        obtain ⟨rfl, rfl⟩ := Prod.mk.inj ee
        obtain ⟨i, j, rfl, rfl⟩ := hg _ _ hd
        refine ⟨B, env, Γ, _, e1, w, h3, fun vs H1 l w1 => ?_⟩
        match vs, l, w1 with
        | [v, u], _, w1 =>
          have e1 := w1.headInt
          have e2 := w1.drop.headInt
          subst e1 e2
          exact ⟨i, j, rfl, q _ _ (w1.drop.drop.int _)⟩
      · cases hd
    cases c with
    | min2 =>
      refine (pe_callB (call_min2 O.calm) (O.gl hg) (O.blt (by decide)) (by decide +kernel) (s O h2) (he := star_pl (chk_pl hy)) (hpl := noStar hys)).imp fun σ H Q q => ?_
      refine two (g := fun i j => if j < i then j else i) (fun xs d hd => ?_) q
      exact bn_min hd
    | max2 =>
      refine (pe_callB (call_max2 O.calm) (O.gl hg) (O.blt (by decide)) (by decide +kernel) (s O h2) (he := star_pl (chk_pl hy)) (hpl := noStar hys)).imp fun σ H Q q => ?_
      refine two (g := fun i j => if j > i then j else i) (fun xs d hd => ?_) q
      exact bn_max hd
    | max3 =>
      refine (pe_callB (call_max3Nu O.calm) (O.gl hg) (O.blt (by decide)) (by decide +kernel) (s O h2) (he := star_pl (chk_pl hy)) (hpl := noStar hys)).imp fun σ H Q q => ?_
      obtain ⟨B, env, Γ, d, e', w, hd, q⟩ := q
      rw [evE] at hd
      split at hd
      · rename_i xs e1 h3
        cases hb : bnD .max3 xs with
        | none => rw [hb] at hd; cases hd
        | some r =>
          rw [hb] at hd
          obtain ⟨rfl, rfl⟩ := inj2 hd
          obtain ⟨i, j, k0, rfl, rfl⟩ := bn_3 hb
          refine ⟨B, env, Γ, _, e1, w, h3, fun vs H1 hl w1 => ?_⟩
          obtain ⟨x, y, z, rfl⟩ : ∃ x y z, vs = [x, y, z] := by
            match vs, hl with
            | [x, y, z], _ => exact ⟨x, y, z, rfl⟩
          have w2 : Wd X.K B σ e1 ((x, .int i) :: (y, .int j) :: (z, .int k0) :: Γ) H1 := w1
          have ex := w2.headInt
          have ey := w2.drop.headInt
          have ez := w2.drop.drop.headInt
          subst ex ey ez
          exact ⟨_, _, _, _, rfl, nu3 i j k0, q _ _ (w2.drop.drop.drop.int _)⟩
      · cases hd
end
end Sr
set_option Elab.async false
set_option linter.all false
set_option maxRecDepth 100000
set_option maxHeartbeats 2000000
namespace PySem
open PyProof.Rows
section
variable {prog : Program} {w : World} {A : Around} {E : Value → Shared → Prop} {s : Shared}
theorem wpAny_extend_rangeL {R : Result → Shared → Prop} {r : Addr} {a b c : Int} {t u v : Tok} {n : Nat} (hh : A.handled = none) (hr : IsRange s.heap r a b c t u v) (hsmall : Builtin.Range.small a b c = false)
    (hn : Builtin.Range.rangeSize a b c = n) (hlen : n ≤ 2 ^ 24) (S : Addr) (res : Value) (c₀ : Nat) (hS : s.heap.get? S = some { cls := .type "list", data := .seq #[] c₀ })
    (hR : ∀ h' tk acc' c', (∀ b o, b ≠ S → s.heap.get? b = some o → h'.get? b = some o) → h'.get? S = some { cls := .type "list", dict := none, data := .seq acc' c', slots := #[] } →
      ItemsOf (fun i v => ∃ t, v = .int (a + i * c) t) acc' n → R (.ok (.ret res)) { s with heap := h', toks := tk }) :
    wpAny (model prog w) A.in1 (Builtin.List.listExtendWith (.ref S) (.ref r) res)
      (fun fin s' => match fin with | .done f => R (.ok f) s' | .again c' => c'.quiet = true ∧ codeAny (model prog w) A c' R s') (fun e s' => R (.error e) s') s := by
  have hSr : S ≠ r := fun e => by rw [e, hr] at hS; simp at hS
  have hSlt : S < s.heap.objs.size := Heap.lt_size hS
  have hSI : S ≠ s.heap.objs.size := Nat.ne_of_lt hSlt
  have hSf : S ∉ [s.heap.objs.size] := fun hm => hSI (List.mem_singleton.mp hm)
  have W := (Walks.longrange (prog := prog) (w := w) (A := A.in1) hh s.heap.objs.size a c n).toS
  have key : ∀ (h : Heap) (c₁ tk : Nat), IsLongIter h s.heap.objs.size (a + ((0 : Nat) : Int) * c) ((n : Int) - ((0 : Nat) : Int)) c → (∀ b o, b ≠ S → s.heap.get? b = some o → h.get? b = some o) →
      h.get? S = some { cls := .type "list", data := .seq #[] c₁ } → codeAny (model prog w) A (.builtin "list.extend.loop" ⟨[.ref S, .ref s.heap.objs.size, res], []⟩) R { s with heap := h, toks := tk } := by
    intro h c₁ tk hit hk hS₁
    refine codeAny_extend_loopS W (by rw [sizeLine_eq]; omega) S hSf res n 0 _ #[] c₁ rfl (Nat.zero_le _) hit hS₁ (ItemsOf.nil _) fun s' acc' c' hm hS' hacc => ?_
    rw [Moved.eq_with hm]
    refine hR s'.heap s'.toks acc' c' (fun b o hb e => hm.heap b o (fun hmem => ?_) (hk b o hb e)) hS' hacc
    rcases List.mem_cons.mp hmem with e' | hmem
    · exact hb e'
    · exact absurd (Heap.lt_size e) (by rw [List.mem_singleton.mp hmem]; exact Nat.lt_irrefl _)
  unfold Builtin.List.listExtendWith
  refine wpAny_bind (wpAny_typeOf (T := "range") ⟨_, hr, rfl⟩ ?_)
  have h1 : Builtin.List.listSameRef (.ref S) (.ref r) = false := by simp [Builtin.List.listSameRef, hSr]
  have h2 : (Value.type "range" == Value.type "list") = false := by decide
  have h3 : (Value.type "range" == Value.type "tuple") = false := by decide
  simp only [h1, h2, h3, Bool.or_false, Bool.false_eq_true, if_false]
  refine wpAny_bind (wpAny_pyIter_longrange hr hsmall ?_)
  refine wpAny_bind (wpAny_holding (wpAny_hint_range (n := n) (Heap.get?_push_of_some _ hr) hn hlen ?_))
  have hit₁ : IsLongIter (s.heap.push { cls := .type "longrange_iterator", data := .fields #[rawInt a, rawInt (Builtin.Range.rangeSize a b c), rawInt c] }) s.heap.objs.size (a + ((0 : Nat) : Int) * c) ((n : Int) - ((0 : Nat) : Int)) c := by
    show IsLongIter _ _ _ _ _; rw [hn]; simpa using Heap.get?_push_size _ rfl
  have hS₁ := Heap.get?_push_of_some { cls := .type "longrange_iterator", data := .fields #[rawInt a, rawInt (Builtin.Range.rangeSize a b c), rawInt c] } hS
  refine wpAny_ite_split (fun _ => ?_) (fun _ => wpAny_pure ⟨plainId_quiet F.plain_extend_loop _, key _ c₀ _ hit₁ (fun b o _ e => Heap.get?_push_of_some _ e) hS₁⟩)
  refine wpAny_bind (wpAny_rule ?_)
  refine wpAny_bind ?_
  show wpAny _ _ (updateSeq S (·.push .none) >>= fun _ => updateSeq S (·.pop)) _ _ _
  refine wpAny_bind (wpAny_updateSeq hS₁ rfl ?_)
  have hS₂ := Heap.get?_update_self (Obj.mapSeq (·.push Value.none)) hS₁ rfl
  refine wpAny_updateSeq (hz := by seq_fits) hS₂ rfl ?_
  have hS₃ := Heap.get?_update_self (Obj.mapSeq (·.pop)) hS₂ rfl
  refine wpAny_pure ⟨plainId_quiet F.plain_extend_loop _, key _ _ _ ?_ (fun b o hb e => ?_) hS₃⟩
  · exact (Heap.get?_update_other _ _ hSI).trans ((Heap.get?_update_other _ _ hSI).trans hit₁)
  · exact (Heap.get?_update_other _ _ (Ne.symm hb)).trans ((Heap.get?_update_other _ _ (Ne.symm hb)).trans (Heap.get?_push_of_some _ e))
theorem wpAny_list_init_rangeL {R : Result → Shared → Prop} {r : Addr} {a b c : Int} {t u v : Tok} {n : Nat} (hh : A.handled = none) (hr : IsRange s.heap r a b c t u v) (hsmall : Builtin.Range.small a b c = false)
    (hn : Builtin.Range.rangeSize a b c = n) (hlen : n ≤ 2 ^ 24) (S : Addr) (hS : s.heap.get? S = some { cls := .type "list", data := .seq #[] })
    (hR : ∀ h' tk acc' c', (∀ b o, b ≠ S → s.heap.get? b = some o → h'.get? b = some o) → h'.get? S = some { cls := .type "list", dict := none, data := .seq acc' c', slots := #[] } →
      ItemsOf (fun i v => ∃ t, v = .int (a + i * c) t) acc' n → R (.ok (.ret .none)) { s with heap := h', toks := tk }) :
    wpAny (model prog w) A.in1 (Builtin.«list.__init__» ⟨[.ref S, .ref r], []⟩)
      (fun fin s' => match fin with | .done f => R (.ok f) s' | .again c' => c'.quiet = true ∧ codeAny (model prog w) A c' R s') (fun e s' => R (.error e) s') s := by
  have hSr : S ≠ r := fun e => by rw [e, hr] at hS; simp at hS
  show wpAny _ _ (do let old ← Builtin.List.listItems (.ref S); Builtin.List.listUpdate (.ref S) (fun _ => #[]); letGo old.toList.reverse; Builtin.List.listExtendWith (.ref S) (.ref r) .none) _ _ s
  refine wpAny_bind ?_
  unfold Builtin.List.listItems
  refine wpAny_bind (wpAny_seqItems hS rfl (wpAny_pure ?_))
  show wpAny _ _ (updateSeq S (fun _ => #[]) >>= fun _ => letGo (#[] : Array Value).toList.reverse >>= fun _ => Builtin.List.listExtendWith (.ref S) (.ref r) .none) _ _ s
  refine wpAny_bind (wpAny_updateSeq hS rfl ?_)
  have hS₂ := Heap.get?_update_self (Obj.mapSeq (fun _ => (#[] : Array Value))) hS rfl
  have oth : ∀ b o, b ≠ S → s.heap.get? b = some o → (s.heap.update S (Obj.mapSeq (fun _ => (#[] : Array Value)))).get? b = some o :=
    fun b o hb e => (Heap.get?_update_other _ _ (Ne.symm hb)).trans e
  refine wpAny_bind (wpAny_letGo ?_)
  refine wpAny_extend_rangeL hh (oth r _ (Ne.symm hSr) hr) hsmall hn hlen S .none _ hS₂ fun h' tk acc' c' hk hS' hacc => ?_
  exact hR h' tk acc' c' (fun b o hb e => hk b o hb (oth b o hb e)) hS' hacc
theorem call_list_rangeA {Q : Value → Shared → Prop} {r : Addr} {a b c : Int} {t u v : Tok} {n : Nat} (hh : A.handled = none) (hr : IsRange s.heap r a b c t u v)
    (hn : Builtin.Range.rangeSize a b c = n) (hlen : n ≤ 2 ^ 24)
    (hQ : ∀ h' tk acc' c', (∀ b o, s.heap.get? b = some o → h'.get? b = some o) →
      h'.get? s.heap.objs.size = some { cls := .type "list", dict := none, data := .seq acc' c', slots := #[] } → ItemsOf (fun i v => ∃ t, v = .int (a + i * c) t) acc' n → Q (.ref s.heap.objs.size) { s with heap := h', toks := tk }) :
    wpAny (model prog w) A (call (.type "list") [.ref r]) Q E s := by
  cases hsm : Builtin.Range.small a b c with
  | true => exact call_list_range hh hr hsm hn hlen hQ
  | false =>
    refine callType_codes (Q₁ := fun obj s₁ => obj = .ref s.heap.objs.size ∧ s₁ = { s with heap := s.heap.push { cls := .type "list", data := .seq #[] } }) F.called_list (F.typeCall_list_1 _) F.entry_list_init
      (code_list_new _ ⟨rfl, rfl⟩) fun obj s₁ h₁ => ?_
    obtain ⟨rfl, rfl⟩ := h₁
    have hS : (s.heap.push { cls := .type "list", data := .seq #[] }).get? s.heap.objs.size = some { cls := .type "list", data := .seq #[] } := Heap.get?_push_size _ rfl
    refine ⟨⟨_, hS, rfl⟩, F.args_list_init_2 _ _, wpAny_list_init_rangeL (A := A.in1) hh (Heap.get?_push_of_some _ hr) hsm hn hlen _ hS fun h' tk acc' c' hk hS' hacc => ?_⟩
    exact ⟨rfl, hQ h' tk acc' c' (fun b o e => hk b o (Nat.ne_of_lt (Heap.lt_size e)) (Heap.get?_push_of_some _ e)) hS' hacc⟩
end
end PySem
namespace L2
open PySem PySem.Spec PyProof.Rows
def tLstRgA (te : St → Hp → (Int → Int → Hp → Prop) → Prop) : TE := fun σ H Q => te σ H fun a b H1 => (b - a).toNat ≤ 2 ^ 24 ∧ ∀ q, H1 q = none → Q (.ref q) (upd H1 q (.lst (rgV a b)))
theorem pe_listRgA {X : Cx} {e : Expr} {te : St → Hp → (Int → Int → Hp → Prop) → Prop} {p pos : Pos} (hc : X.calm = true) (hg : Gl X "list") (hm : X.mg "list" = none) (he : PRg X e te) (na : starEach [e] X.env = (false, eval e X.env) :: starEach [] X.env := by rfl) : PE X (.Call (.Name "list" p) [e] [] pos) (tLstRgA te) := by
  refine ⟨fun pins s σ H Q I h => ?_⟩
  refine Call_ (ld_blt I hg hm boot_list (PyProof.Rows.callWith_type1 (args_cons (thn (he pins s σ H _ I h) fun x s1 ⟨r, a, b, t, u, v, H1, ex, hr, I1, ok, q⟩ => args_nil ?_) na) na))
  subst ex
  refine call_list_rangeA (n := (b - a).toNat) (I1.ok.hd hc) hr (rangeSize_nat a b) ok fun h' tk acc c' hk e' hi => ?_
  refine ⟨.ref s1.heap.objs.size, upd H1 s1.heap.objs.size (.lst (rgV a b)), I1.laid hk (Nat.le_refl _) (show ObjOk X.prog X.w _ _ _ (.lst (rgV a b)) from ⟨?_, acc.toList, c', vals_rg hi, ?_⟩), rfl, q _ (I1.hok.fresh (Nat.le_refl _))⟩
  · rw [rgV_length, sizeLine_eq]; omega
  · rw [Array.toArray_toList]; exact e'
end L2

namespace RT
open PySem PySem.Spec PyProof.Rows L2
section
variable {prog : Program} {w : World} {A : Around} {E : Value → Shared → Prop} {s : Shared}
/-- list(reversed(list)): the new list takes the items from behind -/
theorem extend_rev {R : Result → Shared → Prop} {it l : Addr} {items : Array Value} (hh : A.handled = none) (hit : s.heap.IsRevIter it l ((items.size : Int) - 1)) (hl : s.heap.IsList l items) (hne : l ≠ it) (hn : items.size ≤ sizeLine) (S : Addr) (res : Value) (c₀ : Nat) (hSi : S ≠ it) (hSl : S ≠ l)
    (hS : s.heap.get? S = some { cls := .type "list", data := .seq #[] c₀ })
    (hR : ∀ h' tk acc' c', (∀ b o, b ≠ S → b ≠ it → s.heap.get? b = some o → h'.get? b = some o) → h'.get? S = some { cls := .type "list", dict := none, data := .seq acc' c', slots := #[] } →
      ItemsOf (fun i v => items[items.size - 1 - i]? = some v) acc' items.size → R (.ok (.ret res)) { s with heap := h', toks := tk }) :
    wpAny (model prog w) A.in1 (Builtin.List.listExtendWith (.ref S) (.ref it) res)
      (fun fin s' => match fin with | .done f => R (.ok f) s' | .again c' => c'.quiet = true ∧ codeAny (model prog w) A c' R s') (fun e s' => R (.error e) s') s := by
  have W := (Walks.listRev (prog := prog) (w := w) (A := A.in1) hh it l hne items).toS
  have hSf : S ∉ [it, l] := by simp only [List.mem_cons, List.not_mem_nil, or_false, not_or]; exact ⟨hSi, hSl⟩
  have hT : s.TypeIs (.ref it) "list_reverseiterator" := Heap.IsRevIter.typeIs (s := s) hit
  have h1 : Builtin.List.listSameRef (.ref S) (.ref it) = false := by simp [Builtin.List.listSameRef, hSi]
  unfold Builtin.List.listExtendWith
  refine wpAny_bind (wpAny_typeOf hT ?_)
  rw [if_neg (by rw [h1]; decide)]
  refine wpAny_bind (wpAny_pyIter_revIter (s := s) hit ?_)
  refine wpAny_bind (wpAny_holding ?_)
  unfold Builtin.List.listLengthHint
  refine wpAny_bind (wpAny_specialOf hT nolen_lri ?_)
  show wpAny _ A.in1 (specialOf (Value.ref it) (Str.ofString "__length_hint__") >>= _) _ _ _
  refine wpAny_bind (wpAny_specialOf hT hint_lri ?_)
  generalize hid : ("list_reverseiterator.__length_hint__" : String) = id0
  wp_delta
  rw [show splitId id0 = some ("list_reverseiterator", "__length_hint__") from by subst hid; decide +kernel]
  subst hid
  refine wpAny_bind (wpAny_isInstance (b := true) hT (by rw [isSubtype_type]; kernel_rfl) ?_)
  refine wpAny_pure ?_
  rw [if_neg (by decide)]
  have e0 : ((items.size : Nat) : Int) - 1 - ((0 : Nat) : Int) = (items.size : Int) - 1 := by omega
  refine wpAny_pure ⟨plainId_quiet F.plain_extend_loop _, codeAny_extend_loopS W hn _ hSf _ items.size 0 _ _ _ rfl (Nat.zero_le _) ⟨Nat.zero_le _, by rw [e0]; exact hit, hl⟩ hS (ItemsOf.nil _) fun s' acc' c' hm hS' hacc => ?_⟩
  rw [Moved.eq_with hm]
  refine hR s'.heap s'.toks acc' c' (fun b o hb hb2 e => hm.heap b o (fun hmem => ?_) e) hS' hacc
  rcases List.mem_cons.mp hmem with e' | hmem
  · exact hb e'
  · exact hb2 (List.mem_singleton.mp hmem)
theorem list_init_rev {R : Result → Shared → Prop} {it l : Addr} {items : Array Value} (hh : A.handled = none) (hit : s.heap.IsRevIter it l ((items.size : Int) - 1)) (hl : s.heap.IsList l items) (hne : l ≠ it) (hn : items.size ≤ sizeLine) (S : Addr) (hSi : S ≠ it) (hSl : S ≠ l)
    (hS : s.heap.get? S = some { cls := .type "list", data := .seq #[] })
    (hR : ∀ h' tk acc' c', (∀ b o, b ≠ S → b ≠ it → s.heap.get? b = some o → h'.get? b = some o) → h'.get? S = some { cls := .type "list", dict := none, data := .seq acc' c', slots := #[] } →
      ItemsOf (fun i v => items[items.size - 1 - i]? = some v) acc' items.size → R (.ok (.ret .none)) { s with heap := h', toks := tk }) :
    wpAny (model prog w) A.in1 (Builtin.«list.__init__» ⟨[.ref S, .ref it], []⟩)
      (fun fin s' => match fin with | .done f => R (.ok f) s' | .again c' => c'.quiet = true ∧ codeAny (model prog w) A c' R s') (fun e s' => R (.error e) s') s := by
  show wpAny _ _ (do let old ← Builtin.List.listItems (.ref S); Builtin.List.listUpdate (.ref S) (fun _ => #[]); letGo old.toList.reverse; Builtin.List.listExtendWith (.ref S) (.ref it) .none) _ _ s
  refine wpAny_bind ?_
  unfold Builtin.List.listItems
  refine wpAny_bind (wpAny_seqItems hS rfl (wpAny_pure ?_))
  show wpAny _ _ (updateSeq S (fun _ => #[]) >>= fun _ => letGo (#[] : Array Value).toList.reverse >>= fun _ => Builtin.List.listExtendWith (.ref S) (.ref it) .none) _ _ s
  refine wpAny_bind (wpAny_updateSeq hS rfl ?_)
  have hS₂ := Heap.get?_update_self (Obj.mapSeq (fun _ => (#[] : Array Value))) hS rfl
  have oth : ∀ b o, b ≠ S → s.heap.get? b = some o → (s.heap.update S (Obj.mapSeq (fun _ => (#[] : Array Value)))).get? b = some o :=
    fun b o hb e => (Heap.get?_update_other _ _ (Ne.symm hb)).trans e
  refine wpAny_bind (wpAny_letGo ?_)
  refine extend_rev hh (hit.at fun o e => oth it o (Ne.symm hSi) e) ?_ hne hn S .none _ hSi hSl hS₂ fun h' tk acc' c' hk hS' hacc => ?_
  · obtain ⟨o, e, r⟩ := hl
    exact ⟨o, oth l o (Ne.symm hSl) e, r⟩
  · exact hR h' tk acc' c' (fun b o hb hb2 e => hk b o hb hb2 (oth b o hb e)) hS' hacc
theorem call_list_rev {it l : Addr} {items : Array Value} {Q : Value → Shared → Prop} (hh : A.handled = none) (hit : s.heap.IsRevIter it l ((items.size : Int) - 1)) (hl : s.heap.IsList l items) (hne : l ≠ it) (hn : items.size ≤ sizeLine)
    (hQ : ∀ h' tk acc' c', (∀ b o, b ≠ it → s.heap.get? b = some o → h'.get? b = some o) →
      h'.get? s.heap.objs.size = some { cls := .type "list", dict := none, data := .seq acc' c', slots := #[] } → ItemsOf (fun i v => items[items.size - 1 - i]? = some v) acc' items.size → Q (.ref s.heap.objs.size) { s with heap := h', toks := tk }) :
    wpAny (model prog w) A (call (.type "list") [.ref it]) Q E s := by
  obtain ⟨oi, hoi, _⟩ := id hit
  obtain ⟨ol, hol, _⟩ := id hl
  have hSi : s.heap.objs.size ≠ it := Nat.ne_of_gt (Heap.lt_size hoi)
  have hSl : s.heap.objs.size ≠ l := Nat.ne_of_gt (Heap.lt_size hol)
  refine callType_codes (Q₁ := fun obj s₁ => obj = .ref s.heap.objs.size ∧ s₁ = { s with heap := s.heap.push { cls := .type "list", data := .seq #[] } }) F.called_list (F.typeCall_list_1 _) F.entry_list_init
    (code_list_new _ ⟨rfl, rfl⟩) fun obj s₁ h₁ => ?_
  obtain ⟨rfl, rfl⟩ := h₁
  have hS : (s.heap.push { cls := .type "list", data := .seq #[] }).get? s.heap.objs.size = some { cls := .type "list", data := .seq #[] } := Heap.get?_push_size _ rfl
  refine ⟨⟨_, hS, rfl⟩, F.args_list_init_2 _ _, list_init_rev (A := A.in1) hh (hit.at fun o e => Heap.get?_push_of_some _ e) (hl.push _) hne hn _ hSi hSl hS fun h' tk acc' c' hk hS' hacc => ?_⟩
  exact ⟨rfl, hQ h' tk acc' c' (fun b o hb e => hk b o (Nat.ne_of_lt (Heap.lt_size e)) hb (Heap.get?_push_of_some _ e)) hS' hacc⟩
end
def tLstRev (K : PySem.W.Frag) (te : TE) : TE := fun σ H Q => te σ H fun v H1 => ∃ (a : Addr) (xs : List V), v = .ref a ∧ SqL K H1 a xs ∧ ∀ q, H1 q = none → Q (.ref q) (upd H1 q (.lst xs.reverse))
theorem pe_lstRev {X : Cx} {e : Expr} {te : TE} {p p2 pos pos2 : Pos} (hc : X.calm = true) (hg : Gl X "list") (hm : X.mg "list" = none) (hg2 : Gl X "reversed") (hm2 : X.mg "reversed" = none) (he : PE X e te)
    (hs : starEach [e] X.env = (false, eval e X.env) :: starEach [] X.env := by rfl)
    (hs2 : starEach [.Call (.Name "reversed" p2) [e] [] pos2] X.env = (false, eval (.Call (.Name "reversed" p2) [e] [] pos2) X.env) :: starEach [] X.env := by rfl) :
    PE X (.Call (.Name "list" p) [.Call (.Name "reversed" p2) [e] [] pos2] [] pos) (tLstRev X.K te) := by
  refine ⟨fun pins s σ H Q I h => ?_⟩
  refine Call_ (ld_blt I hg hm boot_list (PyProof.Rows.callWith_type1 (args_cons (Call_ (ld_blt I hg2 hm2 PyProof.Rows.boot_reversed (PyProof.Rows.callWith_type1 (args_cons (thn (he.run pins s σ H _ I h) fun u s1 ⟨v, H1, I1, r1, q1⟩ => args_nil ?_) hs) hs rfl))) hs2) hs2 rfl))
  obtain ⟨a, xs, ev, hq, q⟩ := q1
  subst ev
  obtain rfl : u = Value.ref a := r1
  obtain ⟨its, rv, p', hz⟩ := I1.list hq
  refine call_reversed_list p'.isList (args_nil ?_)
  have hl := p'.isList
  obtain ⟨ol, hol, _⟩ := id hl
  have hne : a ≠ s1.heap.objs.size := Nat.ne_of_lt (Heap.lt_size hol)
  have hn : its.toArray.size ≤ sizeLine := by rw [List.size_toArray, ← rv.length]; exact hz
  refine call_list_rev (s := { s1 with heap := s1.heap.push (revObj a ((its.toArray.size : Int) - 1)) }) (I1.ok.hd hc) ⟨_, Heap.get?_push_size _ rfl, rfl, rfl⟩ (hl.push _) hne hn fun h' tk acc c' hk e' hi => ?_
  have hsz : s1.heap.objs.size ≤ (s1.heap.push (revObj a ((its.toArray.size : Int) - 1))).objs.size := by rw [Heap.size_push]; exact Nat.le_succ _
  have hk0 : ∀ b o, s1.heap.get? b = some o → h'.get? b = some o := fun b o e => hk b o (Nat.ne_of_lt (Heap.lt_size e)) (Heap.get?_push_of_some _ e)
  refine ⟨.ref (s1.heap.push (revObj a ((its.toArray.size : Int) - 1))).objs.size, upd H1 (s1.heap.push (revObj a ((its.toArray.size : Int) - 1))).objs.size (.lst xs.reverse), I1.laid (t' := tk) hk0 hsz (show ObjOk X.prog X.w _ _ _ (.lst xs.reverse) from ⟨by rw [List.length_reverse]; exact hz, acc.toList, c', vals_rev rv hi, ?_⟩), rfl, q _ (I1.hok.fresh hsz)⟩
  rw [Array.toArray_toList]
  exact e'
end RT
set_option Elab.async false
set_option linter.all false
set_option maxRecDepth 100000
set_option maxHeartbeats 2000000
/-! # Sr: what is walked; comprehensions -/
namespace Sr
open PySem PySem.Spec PyProof.Rows L2

/-! ### what is walked -/
/-- a list or a tuple, walked -/
def iSeq (K : PySem.W.Frag) (tl : TE) : TI := fun σ H R => tl σ H fun x H1 => ∃ a, x = .ref a ∧ (((∃ xs, SqL K H1 a xs) ∧ R (Itl K a) H1) ∨ ((∃ xs, SqT K H1 a xs) ∧ R (Itt K a) H1))
theorem pi_seq {X : Cx} {tg l : Expr} {tl : TE} (hl : PE X l tl) : PI X tg l (iSeq X.K tl) := by
  refine ⟨fun pins s σ H R I h => ?_⟩
  refine thn (hl.run pins s σ H _ I h) fun v s1 ⟨x, H1, I1, r1, q1⟩ => ?_
  obtain ⟨a, e, q⟩ := q1
  subst e
  cases r1
  rcases q with ⟨⟨xs, hq⟩, q⟩ | ⟨⟨xs, hq⟩, q⟩
  · obtain ⟨its, rv, p, hz⟩ := I1.list hq
    refine wpAny_pyIter_list p.isList ?_
    refine ⟨s1.heap.objs.size, [s1.heap.objs.size], _, _, H1, rfl, I1.kept (t' := s1.toks) fun b o e => Heap.get?_push_of_some _ e, turn_list a _, ⟨_, Heap.get?_push_size _ rfl, rfl, rfl⟩, fun b hb => ?_, q⟩
    have e : b = s1.heap.objs.size := by simpa using hb
    subst e
    exact I1.fpOk (Nat.le_refl _) (I1.hok.fresh (Nat.le_refl _))
  · obtain ⟨its, rv, p, hz⟩ := I1.tuple hq
    refine wpAny_pyIter_tuple (show s1.heap.IsTuple a its.toArray from p) ?_
    refine ⟨s1.heap.objs.size, [s1.heap.objs.size], _, _, H1, rfl, I1.kept (t' := s1.toks) fun b o e => Heap.get?_push_of_some _ e, turn_tuple a _, ⟨_, Heap.get?_push_size _ rfl, rfl, rfl⟩, fun b hb => ?_, q⟩
    have e : b = s1.heap.objs.size := by simpa using hb
    subst e
    exact I1.fpOk (Nat.le_refl _) (I1.hok.fresh (Nat.le_refl _))
section
variable {K : PySem.W.Frag} {B : Bs}
/-- an item of a list that is only read -/
theorem W.itemL {H : Hp} {R : List Rt} {a : Addr} {xs : List D} (w : W K B H ((.ref a, .lst false xs) :: R)) : ∃ vs, SqL K H a vs ∧ vs.length = xs.length ∧ vs.length ≤ sizeLine ∧ ∀ (i : Nat) x, vs[i]? = some x → ∃ d, xs[i]? = some d ∧ W K B H ((x, d) :: (.ref a, .lst false xs) :: R) := by
  obtain ⟨F, S, r, o⟩ := w
  cases r with
  | cons r0 t =>
    have r1 := r0
    cases r1 with
    | shr e rs =>
      refine ⟨_, .inl e, rs.len, o.sz _ _ (.inl e), fun i x hx => ?_⟩
      obtain ⟨hl, _⟩ := List.getElem?_eq_some_iff.mp hx
      obtain ⟨d, hd⟩ : ∃ d, xs[i]? = some d := ⟨xs[i]'(by rw [← rs.len]; exact hl), List.getElem?_eq_getElem _⟩
      obtain ⟨v, F1, S1, hv, rv, f1, s1, _⟩ := rs.get hd
      rw [hx] at hv
      cases hv
      have e1 : F1 = [] := List.eq_nil_iff_forall_not_mem.mpr fun b hb => nomatch f1 b hb
      subst e1
      refine ⟨d, hd, _, _, .cons rv (.cons r0 t), o.less (fun b hb => hb) o.nd fun b hb => ?_⟩
      rcases List.mem_append.mp hb with z | z
      · exact List.mem_append_left _ (List.mem_cons_of_mem _ (s1 b z))
      · exact z
    | @mod _ vs0 _ _ e rs =>
      have hz : vs0.length ≤ sizeLine := by
        obtain ⟨_, its, _, _, _, _, _, hz, r⟩ := e
        have q := r.length
        simp only [Array.length_toList] at q
        rw [← q] at hz; exact hz
      refine ⟨_, .inr e, rs.len, hz, fun i x hx => ?_⟩
      obtain ⟨hl, _⟩ := List.getElem?_eq_some_iff.mp hx
      obtain ⟨d, hd⟩ : ∃ d, xs[i]? = some d := ⟨xs[i]'(by rw [← rs.len]; exact hl), List.getElem?_eq_getElem _⟩
      obtain ⟨v, F1, S1, hv, rv, f1, s1, _⟩ := rs.get hd
      rw [hx] at hv
      cases hv
      have e1 : F1 = [] := List.eq_nil_iff_forall_not_mem.mpr fun b hb => nomatch f1 b hb
      subst e1
      refine ⟨d, hd, _, _, .cons rv (.cons r0 t), o.less (fun b hb => hb) o.nd fun b hb => ?_⟩
      rcases List.mem_append.mp hb with z | z
      · exact List.mem_append_left _ (s1 b z)
      · exact z
theorem W.itemT {H : Hp} {R : List Rt} {a : Addr} {xs : List D} (w : W K B H ((.ref a, .tup xs) :: R)) (u : unL xs = true) : ∃ vs, Rd H a (.tup vs) ∧ vs.length = xs.length ∧ ∀ (i : Nat) x, vs[i]? = some x → ∃ d, xs[i]? = some d ∧ W K B H ((x, d) :: (.ref a, .tup xs) :: R) := by
  obtain ⟨F, S, r, o⟩ := w
  cases r with
  | cons r0 t =>
    have r1 := r0
    cases r1 with
    | tup e rs =>
      have z := rs.un u
      subst z
      refine ⟨_, e, rs.len, fun i x hx => ?_⟩
      obtain ⟨hl, _⟩ := List.getElem?_eq_some_iff.mp hx
      obtain ⟨d, hd⟩ : ∃ d, xs[i]? = some d := ⟨xs[i]'(by rw [← rs.len]; exact hl), List.getElem?_eq_getElem _⟩
      obtain ⟨v, F1, S1, hv, rv, f1, s1, _⟩ := rs.get hd
      rw [hx] at hv
      cases hv
      have e1 : F1 = [] := List.eq_nil_iff_forall_not_mem.mpr fun b hb => nomatch f1 b hb
      subst e1
      refine ⟨d, hd, _, _, .cons rv (.cons r0 t), o.less (fun b hb => hb) o.nd fun b hb => ?_⟩
      rcases List.mem_append.mp hb with z | z
      · exact List.mem_append_left _ (s1 b z)
      · exact z
theorem get_some {α : Type} {xs : List α} {i : Nat} (h : i < xs.length) : ∃ x, xs[i]? = some x := ⟨xs[i], List.getElem?_eq_getElem h⟩
theorem it_list {a : Addr} {xs : List D} : ItOk K B (Itl K a) xs [(.ref a, .lst false xs)] where
  small := fun w => by
    obtain ⟨vs, e, l, z, _⟩ := W.itemL w
    rw [← l]; exact z
  go := fun i H R w h => by
    obtain ⟨vs, e, l, _⟩ := W.itemL w
    obtain ⟨x, hx⟩ := get_some (xs := vs) (i := i) (by omega)
    exact ⟨vs, x, e, hx⟩
  yld := fun i H R x H' w h y => by
    obtain ⟨vs, e, l, _, g⟩ := W.itemL w
    obtain ⟨e1, e2⟩ := y
    subst e1
    exact g i x (e2 vs e)
  stop := fun i H R w h => by
    obtain ⟨vs, e, l, _⟩ := W.itemL w
    exact ⟨vs, e, by omega⟩
theorem it_tup {a : Addr} {xs : List D} (u : unL xs = true) : ItOk K B (Itt K a) xs [(.ref a, .tup xs)] where
  small := fun w => by
    obtain ⟨vs, e, l, _⟩ := W.itemT w u
    obtain ⟨F, S, r, o⟩ := w
    rw [← l]; exact o.sz _ _ (.inr e)
  go := fun i H R w h => by
    obtain ⟨vs, e, l, _⟩ := W.itemT w u
    obtain ⟨x, hx⟩ := get_some (xs := vs) (i := i) (by omega)
    exact ⟨vs, x, .inl e, hx⟩
  yld := fun i H R x H' w h y => by
    obtain ⟨vs, e, l, g⟩ := W.itemT w u
    obtain ⟨e1, e2⟩ := y
    subst e1
    exact g i x (e2 vs (.inl e))
  stop := fun i H R w h => by
    obtain ⟨vs, e, l, _⟩ := W.itemT w u
    exact ⟨vs, .inl e, by omega⟩
theorem it_rng {lo : Int} {m : Nat} {f : Nat → D} (hf : ∀ i : Nat, f i = .int (lo + i)) (hm : m ≤ big) : ItOk K B (Itr lo m) ((List.range m).map f) [] where
  small := fun w => by rw [List.length_map, List.length_range]; exact Nat.le_trans hm big_le
  go := fun i H R w h => by rw [List.length_map, List.length_range] at h; exact h
  yld := fun i H R x H' w h y => by
    rw [List.length_map, List.length_range] at h
    obtain ⟨e1, e2⟩ := y
    subst e1
    subst e2
    refine ⟨f i, ?_, ?_⟩
    · rw [List.getElem?_map, List.getElem?_range h]; rfl
    · rw [hf]; exact W.int w _
  stop := fun i H R w h => by rw [List.length_map, List.length_range] at h; exact h
theorem it_rngC {lo c : Int} {m : Nat} {f : Nat → D} (hf : ∀ i : Nat, f i = .int (lo + (i : Nat) * c)) (hm : m ≤ big) : ItOk K B (Itc lo c m) ((List.range m).map f) [] where
  small := fun w => by rw [List.length_map, List.length_range]; exact Nat.le_trans hm big_le
  go := fun i H R w h => by rw [List.length_map, List.length_range] at h; exact h
  yld := fun i H R x H' w h y => by
    rw [List.length_map, List.length_range] at h
    obtain ⟨e1, e2⟩ := y
    subst e1
    subst e2
    refine ⟨f i, ?_, ?_⟩
    · rw [List.getElem?_map, List.getElem?_range h]; rfl
    · rw [hf]; exact W.int w _
  stop := fun i H R w h => by rw [List.length_map, List.length_range] at h; exact h
theorem zipD_len : ∀ xs ys : List D, (zipD xs ys).length = min xs.length ys.length
  | [], ys => by simp [zipD]
  | x :: xs, [] => by simp [zipD]
  | x :: xs, y :: ys => by simp only [zipD, List.length_cons, zipD_len xs ys]; omega
theorem zipD_get : ∀ {xs ys : List D} {i : Nat} {x y : D}, xs[i]? = some x → ys[i]? = some y → (zipD xs ys)[i]? = some (.tup [x, y])
  | [], _, _, _, _, h, _ => by simp at h
  | _ :: _, [], _, _, _, _, h => by simp at h
  | x :: xs, y :: ys, 0, _, _, h1, h2 => by simp at h1 h2; subst h1 h2; rfl
  | x :: xs, y :: ys, i + 1, _, _, h1, h2 => by
    simp only [zipD, List.getElem?_cons_succ] at h1 h2 ⊢
    exact zipD_get h1 h2
theorem it_zip {a b : Addr} {xs ys : List D} : ItOk K B (Itz K a b) (zipD xs ys) [(.ref a, .lst false xs), (.ref b, .lst false ys)] where
  small := fun w => by
    obtain ⟨vs, e, l, hz, _⟩ := W.itemL w
    rw [zipD_len]; omega
  go := fun i H R w h => by
    rw [zipD_len] at h
    obtain ⟨vs, e, l, _⟩ := W.itemL w
    obtain ⟨us, e', l', _⟩ := W.itemL (W.drop w)
    obtain ⟨x, hx⟩ := get_some (xs := vs) (i := i) (by omega)
    obtain ⟨y, hy⟩ := get_some (xs := us) (i := i) (by omega)
    exact ⟨vs, us, x, y, e, e', hx, hy⟩
  yld := fun i H R x H' w h y => by
    obtain ⟨vs, e, l, _, g⟩ := W.itemL w
    obtain ⟨T, x1, y1, e1, hT, e2, hx, hy⟩ := y
    subst e1 e2
    obtain ⟨d, hd, w1⟩ := g i x1 (hx vs e)
    have w2 : W K B H ((.ref b, .lst false ys) :: (x1, d) :: (.ref a, .lst false xs) :: R) := W.perm (by
      refine List.Perm.trans (l₂ := (x1, d) :: (.ref b, .lst false ys) :: (.ref a, .lst false xs) :: R) ?_ (.swap _ _ _)
      exact .cons _ (.swap _ _ _)) w1
    obtain ⟨us, e', l', _, g'⟩ := W.itemL w2
    obtain ⟨d', hd', w3⟩ := g' i y1 (hy us e')
    refine ⟨.tup [d, d'], zipD_get hd hd', ?_⟩
    have w4 : W K B H ((x1, d) :: (y1, d') :: (.ref a, .lst false xs) :: (.ref b, .lst false ys) :: R) := W.perm (by
      refine List.Perm.trans (l₂ := (y1, d') :: (x1, d) :: (.ref b, .lst false ys) :: (.ref a, .lst false xs) :: R) (.cons _ (.swap _ _ _)) ?_
      refine List.Perm.trans (.swap _ _ _) (.cons _ (.cons _ (.swap _ _ _)))) w3
    exact W.tupV (vs := [x1, y1]) (ds := [d, d']) w4 rfl hT (by show 2 ≤ sizeLine; decide)
  stop := fun i H R w h => by
    rw [zipD_len] at h
    obtain ⟨vs, e, l, _⟩ := W.itemL w
    obtain ⟨us, e', l', _⟩ := W.itemL (W.drop w)
    exact ⟨vs, us, e, e', by omega⟩
end
section
variable {Φ : Fs} {k : Nat} {n : Nm}
theorem SI_itr {a : T} (s : SE Φ k n a) : SI Φ k n (.itr a) := by
  intro X sc g e _ O h
  rw [chkI] at h
  refine (pi_seq (s O h)).imp ?_
  rintro σ H R ⟨B, env, Γ, xs, e', w, hd, q⟩
  rw [evI] at hd
  split at hd
  · rename_i d e1 h1
    rw [Option.map_eq_some_iff] at hd
    obtain ⟨ys, hy, ee⟩ := hd
    obtain ⟨rfl, rfl⟩ := Prod.mk.inj ee
    refine ⟨B, env, Γ, d, e1, w, h1, fun v H1 w1 => ?_⟩
    have w2 := w1.shr
    cases d with
    | tup zs =>
      cases hy
      obtain ⟨F, S, r⟩ := w2.head
      rw [D.shr] at r w2
      cases r with
      | @tup a vs _ _ _ e r => exact ⟨a, rfl, .inr ⟨⟨vs, .inl e⟩, q _ _ _ (it_tup (shrL_un _)) w2⟩⟩
    | lst o zs =>
      cases hy
      obtain ⟨F, S, r⟩ := w2.head
      rw [D.shr] at r w2
      cases r with
      | @shr a vs _ _ e r => exact ⟨a, rfl, .inl ⟨⟨vs, .inl e⟩, q _ _ _ it_list w2⟩⟩
      | @mod a vs _ _ e r => exact ⟨a, rfl, .inl ⟨⟨vs, .inr e⟩, q _ _ _ it_list w2⟩⟩
    | _ => cases hy
  · cases hd
theorem chk_r1 {a : T} {sc : Scope} {e : Expr} (h : chkI n sc (.rng1 a) e = true) : ∃ x xp y pos, e = .Call (.Name x xp) [y] [] pos ∧ bltB sc "range" x = true ∧ chkE n sc a y = true := by
  rw [chkI] at h
  split at h
  · rename_i x y hc
    obtain ⟨p, pos, rfl⟩ := asCall_of hc
    simp only [Bool.and_eq_true] at h
    exact ⟨_, _, _, _, rfl, h.1, h.2⟩
  · cases h
theorem SI_rng1 {a : T} (s : SE Φ k n a) : SI Φ k n (.rng1 a) := by
  intro X sc g e _ O h
  obtain ⟨x, xp, y, pos, rfl, h1, h2⟩ := chk_r1 h
  obtain ⟨rfl, hg⟩ := bltB_iff h1
  refine (pi_range1 (O.gl hg) (O.blt (by decide)) (pa_cons (s O h2) pa_nil (star_pl (chk_pl h2))) (star_pl (chk_pl h2))).imp ?_
  rintro σ H R ⟨B, env, Γ, xs, e', w, hd, q⟩
  rw [evI] at hd
  split at hd
  · rename_i m e1 h3
    split at hd
    · rename_i c
      obtain ⟨rfl, rfl⟩ := inj2 hd
      refine ⟨B, env, Γ, _, e1, w, h3, fun v H1 w1 => ?_⟩
      have ev := w1.headInt
      subst ev
      have hb : (big : Int) < 2 ^ 62 := by decide
      exact ⟨m, rfl, c.2, by omega, q _ _ _ (it_rng (fun i => by simp) (by omega)) w1.drop⟩
    · cases hd
  · cases hd
theorem chk_r2 {a b : T} {sc : Scope} {e : Expr} (h : chkI n sc (.rng2 a b) e = true) : ∃ x xp y z pos, e = .Call (.Name x xp) [y, z] [] pos ∧ bltB sc "range" x = true ∧ chkE n sc a y = true ∧ chkE n sc b z = true := by
  rw [chkI] at h
  split at h
  · rename_i x y z hc
    obtain ⟨p, pos, rfl⟩ := asCall_of hc
    simp only [Bool.and_eq_true] at h
    exact ⟨_, _, _, _, _, rfl, h.1.1, h.1.2, h.2⟩
  · cases h
theorem star1 {e : Expr} {env : PySem.Env} (h : plE e = true) : starEach [e] env = [(false, eval e env)] := star_pl h
theorem SI_rng2 {a b : T} (sa : SE Φ k n a) (sb : SE Φ k n b) : SI Φ k n (.rng2 a b) := by
  intro X sc g e _ O h
  obtain ⟨x, xp, y, z, pos, rfl, h1, h2, h3⟩ := chk_r2 h
  obtain ⟨rfl, hg⟩ := bltB_iff h1
  have py := chk_pl h2
  have pz := chk_pl h3
  refine (pi_range2 (O.gl hg) (O.blt (by decide)) (pa_cons (sa O h2) (pa_cons (sb O h3) pa_nil (star_pl pz)) (star_pl py)) (by rw [star_pl py, star1 pz]) (star1 pz)).imp ?_
  rintro σ H R ⟨B, env, Γ, xs, e', w, hd, q⟩
  rw [evI] at hd
  split at hd
  · rename_i m e1 h4
    split at hd
    · rename_i l e2 h5
      split at hd
      · rename_i c
        obtain ⟨rfl, rfl⟩ := inj2 hd
        refine ⟨B, env, Γ, _, e1, w, h4, fun v H1 w1 => ⟨B, e1, _, _, e2, w1, h5, fun u H2 w2 => ?_⟩⟩
        have eu := w2.headInt
        have ev := w2.drop.headInt
        subst eu ev
        exact ⟨m, l, rfl, ⟨c.1, c.2.1, c.2.2.1, c.2.2.2.1⟩, q _ _ _ (it_rng (fun i => rfl) (by omega)) w2.drop.drop⟩
      · cases hd
    · cases hd
  · cases hd
theorem SE_lrg {a b : T} (sa : SE Φ k n a) (sb : SE Φ k n b) : SE Φ k n (.lrg a b) := by
  intro X sc e O h
  cases e <;> try (simp [chkE] at h; done)
  rename_i g es ks pos
  cases g <;> try (simp [chkE] at h; done)
  rename_i x xp
  rcases es with _ | ⟨e1, _ | ⟨e2, es⟩⟩ <;> try (simp [chkE] at h; done)
  cases e1 <;> try (simp [chkE] at h; done)
  rename_i g2 es2 ks2 pos2
  cases g2 <;> try (simp [chkE] at h; done)
  rename_i y yp
  rcases es2 with _ | ⟨e2, _ | ⟨e3, _ | ⟨e4, es2⟩⟩⟩ <;> try (simp [chkE] at h; done)
  rcases ks2 with _ | ⟨k2, ks2⟩ <;> try (simp [chkE] at h; done)
  rcases ks with _ | ⟨k1, ks⟩ <;> try (simp [chkE] at h; done)
  simp only [chkE, Bool.and_eq_true] at h
  obtain ⟨⟨⟨h1, h2⟩, h3⟩, h4⟩ := h
  obtain ⟨rfl, hg⟩ := bltB_iff h1
  obtain ⟨rfl, hg2⟩ := bltB_iff h2
  have py := chk_pl h3
  have pz := chk_pl h4
  refine (pe_listRgA O.calm (O.gl hg) (O.blt (by decide)) (prg_2 (O.gl hg2) (O.blt (by decide)) (sa O h3) (sb O h4) (star_pl py) (star_pl pz) (by rw [star_pl pz]; rfl))).imp ?_
  rintro σ H Q ⟨B, env, Γ, d, e', w, hd, q⟩
  rw [evE] at hd
  split at hd
  · rename_i m e1 h5
    split at hd
    · rename_i l e2 h6
      split at hd
      · rename_i c
        obtain ⟨rfl, rfl⟩ := inj2 hd
        refine ⟨B, env, Γ, _, e1, w, h5, fun v H1 w1 => ⟨B, e1, _, _, e2, w1, h6, fun u H2 w2 => ?_⟩⟩
        have eu := w2.headInt
        have ev := w2.drop.headInt
        subst eu ev
        have hb : big = 1000000 := rfl
        refine ⟨m, l, rfl, rfl, by omega, fun p hp => ?_⟩
        have w3 := w2.drop.drop
        have el : rgV m l = (List.range (l - m).toNat).map fun k => V.int (m + (k : Nat)) := rfl
        have w4 : Wd X.K B σ e2 ((rgV m l).zip ((List.range (l - m).toNat).map fun k => Sr.D.int (m + (k : Nat))) ++ Γ) H2 := by
          refine ⟨w3.fit, w3.pr, ?_⟩
          rw [List.append_assoc]
          obtain ⟨F, S, rs, ok⟩ := w3.w
          have ri := Reps.ofInts (K := X.K) (H := H2) ((List.range (l - m).toNat).map fun (k : Nat) => m + (k : Int))
          rw [List.map_map, List.map_map] at ri
          exact W.beside ok rs (fun a z => z) ok.nd (fun a z => z) ri (fun a z => nomatch z)
        exact q _ _ (w4.lstN (by rw [rgV_length, List.length_map, List.length_range]) hp (by rw [rgV_length]; have := big_le; omega))
      · cases hd
    · cases hd
  · cases hd
theorem Reps.rev {K : PySem.W.Frag} {H : Hp} : ∀ {vs : List V} {ds : List Sr.D} {S : List Addr}, Reps K H vs ds [] S → ∃ S', Reps K H vs.reverse ds.reverse [] S' ∧ ∀ a ∈ S', a ∈ S
  | [], ds, S, h => by cases h; exact ⟨[], .nil, fun _ z => nomatch z⟩
  | v :: vs, ds, S, h => by
    generalize hF : ([] : List Addr) = F at h
    cases h with
    | @cons _ d _ ds F1 S1 F2 S2 r t =>
      obtain ⟨e1, e2⟩ := List.append_eq_nil_iff.mp hF.symm
      subst e1 e2
      obtain ⟨S', t', q⟩ := Reps.rev t
      rw [List.reverse_cons, List.reverse_cons]
      have z := Reps.app t' (Reps.cons r .nil)
      refine ⟨S' ++ (S1 ++ []), by simpa using z, fun a ha => ?_⟩
      rcases List.mem_append.mp ha with y | y
      · exact List.mem_append_right _ (q a y)
      · exact List.mem_append_left _ (by simpa using y)
theorem SE_lrev {a : T} (sa : SE Φ k n a) : SE Φ k n (.lrev a) := by
  intro X sc e O h
  cases e <;> try (simp [chkE] at h; done)
  rename_i g es ks pos
  cases g <;> try (simp [chkE] at h; done)
  rename_i x xp
  rcases es with _ | ⟨e1, _ | ⟨e2, es⟩⟩ <;> try (simp [chkE] at h; done)
  cases e1 <;> try (simp [chkE] at h; done)
  rename_i g2 es2 ks2 pos2
  cases g2 <;> try (simp [chkE] at h; done)
  rename_i y yp
  rcases es2 with _ | ⟨e2, _ | ⟨e3, es2⟩⟩ <;> try (simp [chkE] at h; done)
  rcases ks2 with _ | ⟨k2, ks2⟩ <;> try (simp [chkE] at h; done)
  rcases ks with _ | ⟨k1, ks⟩ <;> try (simp [chkE] at h; done)
  simp only [chkE, Bool.and_eq_true] at h
  obtain ⟨⟨h1, h2⟩, h3⟩ := h
  obtain ⟨rfl, hg⟩ := bltB_iff h1
  obtain ⟨rfl, hg2⟩ := bltB_iff h2
  refine (RT.pe_lstRev O.calm (O.gl hg) (O.blt (by decide)) (O.gl hg2) (O.blt (by decide)) (sa O h3) (star_pl (chk_pl h3))).imp ?_
  rintro σ H Q ⟨B, env, Γ, d, e', w, hd, q⟩
  rw [evE] at hd
  split at hd
  · rename_i o xs e1 h5
    split at hd
    · rename_i un
      obtain ⟨rfl, rfl⟩ := inj2 hd
      refine ⟨B, env, Γ, _, e1, w, h5, fun v H1 w1 => ?_⟩
      have w2 := w1.shr
      rw [D.shr, shrL_of_un xs un] at w2
      have key : ∃ a vs S1, v = .ref a ∧ SqL X.K H1 a vs ∧ Reps X.K H1 vs xs [] S1 ∧ vs.length ≤ sizeLine ∧ W X.K B H1 (vs.reverse.zip xs.reverse ++ (Γ ++ er σ e1)) := by
        obtain ⟨F, S, r, ok⟩ := w2.w
        cases r with
        | @cons _ _ _ _ F1 S1 F2 S2 r t =>
          have nd := List.nodup_append.mp ok.nd
          cases r with
          | @shr a vs _ S1 hr rs =>
            obtain ⟨S', rr, sub⟩ := rs.rev
            exact ⟨a, vs, S1, rfl, .inl hr, rs, ok.sz _ _ (.inl hr), W.beside ok t (fun b z => List.mem_append_right _ z) nd.2.1 (fun b z => List.mem_append_right _ z) rr fun b z => List.mem_append_left _ (List.mem_cons_of_mem _ (sub b z))⟩
          | @mod a vs _ S1 hk rs =>
            obtain ⟨S', rr, sub⟩ := rs.rev
            obtain ⟨ob, its, nn, k1, k2, k3, k4, k5, k6⟩ := hk
            refine ⟨a, vs, _, rfl, .inr ⟨ob, its, nn, k1, k2, k3, k4, k5, k6⟩, rs, by rw [k6.length, Array.length_toList]; exact k5, W.beside ok t (fun b z => List.mem_append_right _ z) nd.2.1 (fun b z => List.mem_append_right _ z) rr fun b z => List.mem_append_left _ (sub b z)⟩
      obtain ⟨a, vs, S1, rfl, hs, rs, hz, w3⟩ := key
      refine ⟨a, vs, rfl, hs, fun p hp => ?_⟩
      have w4 : Wd X.K B σ e1 (vs.reverse.zip xs.reverse ++ Γ) H1 := ⟨w2.fit, w2.pr, by rw [List.append_assoc]; exact w3⟩
      exact q _ _ (w4.lstN (by rw [List.length_reverse, List.length_reverse]; exact rs.len) hp (by rw [List.length_reverse]; exact hz))
    · cases hd
  · cases hd
theorem chk_r3 {a b : T} {c : Int} {sc : Scope} {e : Expr} (h : chkI n sc (.rng3 a b c) e = true) : ∃ x xp y z j p pos, e = .Call (.Name x xp) [y, z, .Constant (.int c) j p] [] pos ∧ bltB sc "range" x = true ∧ chkE n sc a y = true ∧ chkE n sc b z = true := by
  rw [chkI] at h
  split at h
  · rename_i x y z u hc
    obtain ⟨p, pos, rfl⟩ := asCall_of hc
    simp only [Bool.and_eq_true, decide_eq_true_eq] at h
    obtain ⟨⟨⟨h1, h2⟩, h3⟩, h4⟩ := h
    obtain ⟨j, p', rfl⟩ := asInt_of h4
    exact ⟨_, _, _, _, _, _, _, rfl, h1, h2, h3⟩
  · cases h
theorem rgc {m l c : Int} (c1 : -(2 ^ 61) ≤ m) (c2 : m < 2 ^ 61) (c3 : -(2 ^ 61) ≤ l) (c4 : l < 2 ^ 61) (c5 : 0 < c) (c6 : c < 1000000000) : RgC m l c (rngN m l c) := by
  have hc : c > 0 := c5
  have hr : Builtin.Range.rangeSize m l c = (rngN m l c : Int) := by
    unfold Builtin.Range.rangeSize rngN
    rw [if_pos hc]
    split
    · have : 0 ≤ (l - m - 1) / c := Int.ediv_nonneg (by omega) (by omega)
      omega
    · rfl
  have hu : (rngN m l c : Int) ≤ 2 ^ 62 := by
    unfold rngN
    split
    · have h1 : (l - m - 1) / c ≤ l - m - 1 := Int.ediv_le_self _ (by omega)
      have h2 : 0 ≤ (l - m - 1) / c := Int.ediv_nonneg (by omega) (by omega)
      omega
    · decide
  refine ⟨by omega, by omega, ?_, hr⟩
  unfold Builtin.Range.small
  rw [hr]
  simp only [Builtin.Range.rangeFitsLong, Bool.and_eq_true, Bool.or_eq_true, decide_eq_true_eq, beq_iff_eq, if_pos hc]
  omega
theorem rngN_le {m l c : Int} (c5 : 0 < c) (c7 : l - m ≤ big) : rngN m l c ≤ big := by
  unfold rngN
  split
  · have h1 : (l - m - 1) / c ≤ l - m - 1 := Int.ediv_le_self _ (by omega)
    omega
  · exact Nat.zero_le _
theorem SI_rng3 {a b : T} {c : Int} (sa : SE Φ k n a) (sb : SE Φ k n b) : SI Φ k n (.rng3 a b c) := by
  intro X sc g e _ O h
  obtain ⟨x, xp, y, z, j, p, pos, rfl, h1, h2, h3⟩ := chk_r3 h
  obtain ⟨rfl, hg⟩ := bltB_iff h1
  have py := chk_pl h2
  have pz := chk_pl h3
  refine (pi_range3 (O.gl hg) (O.blt (by decide)) (pa_cons (sa O h2) (pa_cons (sb O h3) (pa_cons pe_int pa_nil (star_pl rfl)) (star_pl pz)) (star_pl py)) (star_pl py) (by rw [star_pl pz]; rfl)).imp ?_
  rintro σ H R ⟨B, env, Γ, xs, e', w, hd, q⟩
  rw [evI] at hd
  split at hd
  · rename_i m e1 h4
    split at hd
    · rename_i l e2 h5
      split at hd
      · rename_i c'
        obtain ⟨rfl, rfl⟩ := inj2 hd
        refine ⟨B, env, Γ, _, e1, w, h4, fun v H1 w1 => ⟨B, e1, _, _, e2, w1, h5, fun u H2 w2 => ?_⟩⟩
        have eu := w2.headInt
        have ev := w2.drop.headInt
        subst eu ev
        exact ⟨m, l, c, _, rfl, rgc c'.1 c'.2.1 c'.2.2.1 c'.2.2.2.1 c'.2.2.2.2.1 c'.2.2.2.2.2.1, q _ _ _ (it_rngC (fun i => rfl) (rngN_le c'.2.2.2.2.1 c'.2.2.2.2.2.2)) w2.drop.drop⟩
      · cases hd
    · cases hd
  · cases hd
theorem chk_zip {a b : T} {sc : Scope} {e : Expr} (h : chkI n sc (.zip a b) e = true) : ∃ x xp y z pos, e = .Call (.Name x xp) [y, z] [] pos ∧ bltB sc "zip" x = true ∧ chkE n sc a y = true ∧ chkE n sc b z = true := by
  rw [chkI] at h
  split at h
  · rename_i x y z hc
    obtain ⟨p, pos, rfl⟩ := asCall_of hc
    simp only [Bool.and_eq_true] at h
    exact ⟨_, _, _, _, _, rfl, h.1.1, h.1.2, h.2⟩
  · cases h
theorem SI_zip {a b : T} (sa : SE Φ k n a) (sb : SE Φ k n b) {X : Cx} {sc : Scope} {es : List Expr} {kk : Nat} {tp : Pos} {e : Expr} (O : OkX Φ k n X sc) (h : chkI n sc (.zip a b) e = true) : PI X (.Tuple es kk tp) e (tI X.K Φ (.zip a b)) := by
  obtain ⟨x, xp, y, z, pos, rfl, h1, h2, h3⟩ := chk_zip h
  obtain ⟨rfl, hg⟩ := bltB_iff h1
  have py := chk_pl h2
  have pz := chk_pl h3
  refine (pi_zip (O.gl hg) (O.blt (by decide)) (pa_cons (sa O h2) (pa_cons (sb O h3) pa_nil (star_pl pz)) (star_pl py)) (star_pl py) (by rw [star_pl pz]; rfl)).imp ?_
  rintro σ H R ⟨B, env, Γ, xs, e', w, hd, q⟩
  rw [evI] at hd
  split at hd
  · rename_i o1 ys e1 h4
    split at hd
    · rename_i o2 zs e2 h5
      obtain ⟨rfl, rfl⟩ := inj2 hd
      refine ⟨B, env, Γ, _, e1, w, h4, fun v H1 w1 => ⟨B, e1, _, _, e2, w1.shr, h5, fun u H2 w2 => ?_⟩⟩
      have w3 := (w2.shr).swap
      rw [D.shr, D.shr] at w3
      obtain ⟨F, S, r⟩ := w3.head
      obtain ⟨F', S', r'⟩ := w3.drop.head
      have sq : ∀ {v ds F S}, Rep X.K H2 v (.lst false ds) F S → ∃ a vs, v = .ref a ∧ SqL X.K H2 a vs := fun r => by
        cases r with
        | shr e _ => exact ⟨_, _, rfl, .inl e⟩
        | mod e _ => exact ⟨_, _, rfl, .inr e⟩
      obtain ⟨a1, vs1, rfl, e1'⟩ := sq r
      obtain ⟨a2, vs2, rfl, e2'⟩ := sq r'
      exact ⟨a1, a2, vs1, vs2, rfl, e1', e2', q _ _ _ it_zip w3⟩
    · cases hd
  · cases hd
theorem foldS {e : Expr} {env : PySem.Env} (h : plE e = true) : ∀ x, foldedSetIterable e env x = pure x := by
  intro x
  cases e <;> first | rfl | cases h
theorem chkI_pl {t : T} {sc : Scope} {e : Expr} (h : chkI n sc t e = true) : plE e = true := by
  cases t with
  | rng1 a => obtain ⟨_, _, _, _, rfl, _⟩ := chk_r1 h; rfl
  | rng2 a b => obtain ⟨_, _, _, _, _, rfl, _⟩ := chk_r2 h; rfl
  | rng3 a b c => obtain ⟨_, _, _, _, _, _, _, rfl, _⟩ := chk_r3 h; rfl
  | zip a b => obtain ⟨_, _, _, _, _, rfl, _⟩ := chk_zip h; rfl
  | itr a => rw [chkI] at h; exact chk_pl h
  | _ => cases h
end
end Sr
set_option Elab.async false
set_option linter.all false
set_option maxRecDepth 100000
set_option maxHeartbeats 2000000
/-! # Sr: targets, comprehensions -/
namespace Sr
open PySem PySem.Spec PyProof.Rows L2

def gOf (K : PySem.W.Frag) : List Nat → TG
  | [i] => gName i
  | [i, j] => gTup K 2 (gCons (gName i) (gCons (gName j) gNil))
  | [i, j, k] => gTup K 3 (gCons (gName i) (gCons (gName j) (gCons (gName k) gNil)))
  | _ => fun _ _ _ _ => False
section
variable {n : Nm} {X : Cx} {sc : Scope}
theorem pg_ok {tg : List Nat} {g : Expr} (hN : X.N = n.N) (nd : X.N.Nodup) (hc : X.calm = true) (hl : ∀ x, locB sc x = true → Loc X.env.scope x ∧ (X.fn x = true ∨ X.env.scope.names.lookup x = some .local)) (h : tgB n sc tg g = true) : PG X g (gOf X.K tg) := by
  unfold tgB at h
  split at h
  · rename_i i x p
    simp only [Bool.and_eq_true, decide_eq_true_eq] at h
    exact pg_name nd (by rw [hN]; exact h.1) (hl x h.2).1 (hl x h.2).2
  · rename_i i j x p y p' kk tp
    simp only [Bool.and_eq_true, decide_eq_true_eq] at h
    obtain ⟨⟨⟨h1, h2⟩, h3⟩, h4⟩ := h
    exact pg_tup hc (pgs_cons (pg_name nd (by rw [hN]; exact h1) (hl x h2).1 (hl x h2).2) (pgs_cons (pg_name nd (by rw [hN]; exact h3) (hl y h4).1 (hl y h4).2) pgs_nil))
  · rename_i i j k x p y p' z p'' kk tp
    simp only [Bool.and_eq_true, decide_eq_true_eq] at h
    obtain ⟨⟨⟨⟨⟨h1, h2⟩, h3⟩, h4⟩, h5⟩, h6⟩ := h
    exact pg_tup hc (pgs_cons (pg_name nd (by rw [hN]; exact h1) (hl x h2).1 (hl x h2).2) (pgs_cons (pg_name nd (by rw [hN]; exact h3) (hl y h4).1 (hl y h4).2) (pgs_cons (pg_name nd (by rw [hN]; exact h5) (hl z h6).1 (hl z h6).2) pgs_nil)))
  · cases h
end
section
variable {K : PySem.W.Frag} {B : Bs}
theorem W.openT {H : Hp} {R : List Rt} {v : V} {ds : List D} (w : W K B H ((v, .tup ds) :: R)) : ∃ a vs, v = .ref a ∧ Rd H a (.tup vs) ∧ vs.length = ds.length ∧ W K B H (vs.zip ds ++ R) := by
  obtain ⟨F, S, r, o⟩ := w
  cases r with
  | cons r0 t =>
    cases r0 with
    | tup e rs =>
      refine ⟨_, _, rfl, e, rs.len, _, _, ?_, o⟩
      show Reps K H _ _ _ _
      rw [List.map_append, List.map_append, List.map_fst_zip (Nat.le_of_eq rs.len), List.map_snd_zip (Nat.le_of_eq rs.len.symm)]
      exact rs.app t
theorem set_ge {α : Type} {l : List α} {i : Nat} {x : α} (h : l.length ≤ i) : l.set i x = l := by
  apply List.ext_getElem?
  intro j
  by_cases hj : i = j
  · subst hj
    rw [List.getElem?_eq_none (by rw [List.length_set]; exact h), List.getElem?_eq_none h]
  · rw [List.getElem?_set_ne hj]
theorem Wd.asgT {σ : L2.St} {e : Env} {Γ : List Rt} {H : Hp} {i : Nat} {d : D} {v : V} (w : Wd K B σ e ((v, d) :: Γ) H) (hp : ∀ p ∈ B.pr, p.1 ≠ i) : Wd K B (σ.set i (some v)) (e.set i (some d)) Γ H := by
  by_cases hi : i < σ.length
  · exact w.asg hi hp
  · have hl : ¬ i < e.length := by rw [← w.fit.1]; exact hi
    rw [set_ge (by omega), set_ge (by omega)]
    exact w.drop
theorem bind_ok {tg : List Nat} {σ : L2.St} {e e' : Env} {Γ : List Rt} {H : Hp} {x : V} {d : D} {Q : L2.St → Hp → Prop} (h : bindT tg d e = some e') (w : Wd K B σ e ((x, d) :: Γ) H) (hp : ∀ p ∈ B.pr, p.1 ∉ tg)
    (q : ∀ σ', Wd K B σ' e' Γ H → (∀ i, i ∉ tg → σ'[i]? = σ[i]?) → σ'.length = σ.length → Q σ' H) : gOf K tg x σ H Q := by
  unfold bindT at h
  split at h
  · rename_i i
    cases h
    refine q _ (w.asgT fun p hh z => hp p hh (by simp [z])) (fun j hj => ?_) (by rw [List.length_set])
    rw [List.getElem?_set_ne (fun z => hj (by simp [z]))]
  · rename_i i j d1 d2
    cases h
    obtain ⟨a, vs, ev, e0, l, w2⟩ := W.openT w.w
    subst ev
    match vs, l, e0, w2 with
    | [v1, v2], _, e0, w2 =>
      have w3 : Wd K B σ e ((v1, d1) :: (v2, d2) :: Γ) H := ⟨w.fit, w.pr, w2⟩
      refine ⟨a, [v1, v2], rfl, .inl e0, rfl, v1, [v2], rfl, v2, [], rfl, rfl, ?_⟩
      have w4 := w3.asgT (i := i) fun p hh z => hp p hh (by simp [z])
      have w5 := w4.asgT (i := j) fun p hh z => hp p hh (by simp [z])
      refine q _ w5 (fun m hm => ?_) (by rw [List.length_set, List.length_set])
      rw [List.getElem?_set_ne (fun z => hm (by simp [z])), List.getElem?_set_ne (fun z => hm (by simp [z]))]
  · rename_i i j m d1 d2 d3
    cases h
    obtain ⟨a, vs, ev, e0, l, w2⟩ := W.openT w.w
    subst ev
    match vs, l, e0, w2 with
    | [v1, v2, v3], _, e0, w2 =>
      have w3 : Wd K B σ e ((v1, d1) :: (v2, d2) :: (v3, d3) :: Γ) H := ⟨w.fit, w.pr, w2⟩
      refine ⟨a, [v1, v2, v3], rfl, .inl e0, rfl, v1, [v2, v3], rfl, v2, [v3], rfl, v3, [], rfl, rfl, ?_⟩
      have w4 := w3.asgT (i := i) fun p hh z => hp p hh (by simp [z])
      have w5 := w4.asgT (i := j) fun p hh z => hp p hh (by simp [z])
      have w6 := w5.asgT (i := m) fun p hh z => hp p hh (by simp [z])
      refine q _ w6 (fun r hr => ?_) (by rw [List.length_set, List.length_set, List.length_set])
      rw [List.getElem?_set_ne (fun z => hr (by simp [z])), List.getElem?_set_ne (fun z => hr (by simp [z])), List.getElem?_set_ne (fun z => hr (by simp [z]))]
  · cases h
theorem er_congr : ∀ {σ σ' : List (Option V)} {e : Env}, σ.length = σ'.length → (∀ (i : Nat) (d : D), e[i]? = some (some d) → σ[i]? = σ'[i]?) → er σ e = er σ' e
  | [], [], e, _, _ => rfl
  | [], _ :: _, _, h, _ => by simp at h
  | _ :: _, [], _, h, _ => by simp at h
  | a :: σ, b :: σ', [], _, _ => by cases a <;> cases b <;> rfl
  | a :: σ, b :: σ', c :: e, h, q => by
    have ih : er σ e = er σ' e := er_congr (by simpa using h) fun i d hi => by simpa using q (i + 1) d (by simpa using hi)
    cases c with
    | none => cases a <;> cases b <;> simp only [er, ih]
    | some d =>
      have z := q 0 d rfl
      simp at z
      subst z
      cases a <;> simp only [er, ih]
theorem wipe_get {σ : L2.St} : ∀ {vs : List Nat} {i : Nat}, i ∉ vs → (wipe σ vs)[i]? = σ[i]? := fun h => wipe_out h
theorem wipe_in {σ : L2.St} : ∀ {vs : List Nat} {i : Nat}, i ∈ vs → i < σ.length → (wipe σ vs)[i]? = some none
  | [], i, h, _ => nomatch h
  | v :: vs, i, h, hl => by
    rw [wipe]
    by_cases hv : v = i
    · subst hv
      rw [List.getElem?_set_self (by rw [wipe_length]; exact hl)]
    · rw [List.getElem?_set_ne hv]
      exact wipe_in (by simpa [Ne.symm hv] using h) hl
theorem wipe_eq {σ σ2 : L2.St} {vs : List Nat} (hl : σ2.length = σ.length) (h : ∀ i, i ∉ vs → σ2[i]? = σ[i]?) : wipe σ2 vs = wipe σ vs := by
  apply List.ext_getElem?
  intro i
  by_cases hi : i ∈ vs
  · by_cases hb : i < σ.length
    · rw [wipe_in hi hb, wipe_in hi (by omega)]
    · rw [List.getElem?_eq_none (by rw [wipe_length]; omega), List.getElem?_eq_none (by rw [wipe_length]; omega)]
  · rw [wipe_get hi, wipe_get hi, h i hi]
theorem kill_none : ∀ {ks : List Nat} {e : Env} {i : Nat} {d : D}, (kill ks e)[i]? = some (some d) → i ∉ ks ∧ e[i]? = some (some d)
  | [], e, i, d, h => ⟨(fun z => nomatch z), h⟩
  | k :: ks, e, i, d, h => by
    rw [kill] at h
    obtain ⟨h1, h2⟩ := kill_none h
    by_cases hk : k = i
    · subst hk
      by_cases hl : k < e.length
      · rw [List.getElem?_set_self hl] at h2; cases h2
      · rw [List.getElem?_eq_none (by rw [List.length_set]; omega)] at h2; cases h2
    · rw [List.getElem?_set_ne hk] at h2
      exact ⟨by simp [h1, Ne.symm hk], h2⟩
/-- other slots, where nothing is told of those that differ -/
theorem Wd.slots {B' : Bs} {σ σ' : L2.St} {e : Env} {Γ : List Rt} {H : Hp} (w : Wd K B σ e Γ H) (hl : σ'.length = σ.length) (h : ∀ (i : Nat) (d : D), e[i]? = some (some d) → σ'[i]? = σ[i]?) (hB : B'.H0 = B.H0 ∧ B'.F0 = B.F0 ∧ B'.S0 = B.S0) (hp : ∀ p ∈ B'.pr, σ'[p.1]? = some (some p.2)) : Wd K B' σ' e Γ H := by
  refine ⟨⟨by rw [hl]; exact w.fit.1, fun i d hi => ?_⟩, hp, ?_⟩
  · rw [h i d hi]; exact w.fit.2 i d hi
  · rw [er_congr hl h]
    obtain ⟨F, S, r, o⟩ := w.w
    obtain ⟨b1, b2, b3⟩ := hB
    exact ⟨F, S, r, ⟨o.nd, o.dj, by rw [b1, b2]; exact o.fF, by rw [b1, b2, b3]; exact o.fS, by rw [b1, b2]; exact o.kp, o.sz⟩⟩
/-- the list at the head of what is held, with one item more -/
theorem Wd.app {σ : L2.St} {e : Env} {Γ : List Rt} {H : Hp} {y : V} {dy : D} {p : Addr} {acc : List D} (w : Wd K B σ e ((y, dy) :: (.ref p, .lst true acc) :: Γ) H) : ∃ vs, H p = some (.lst vs) ∧ vs.length = acc.length ∧ (vs.length < sizeLine → Wd K B σ e ((.ref p, .lst true (acc ++ [dy])) :: Γ) (upd H p (.lst (vs ++ [y])))) := by
  obtain ⟨F, S, r, o⟩ := w.w
  cases r with
  | @cons _ _ _ _ Fy Sy _ _ ry r =>
    cases r with
    | @cons _ _ _ _ Fp Sp Fr Sr rp rr =>
      cases rp with
      | @own _ vs _ F1 S1 e0 rs =>
        refine ⟨vs, e0, rs.len, fun hz => ?_⟩
        have hk : Kept H (upd H p (.lst (vs ++ [y]))) [p] := fun b u hb hn => by rw [upd_ne (by simpa using hn)]; exact hb
        have hm : ∀ b ∈ [p], IsLst H b := fun b hb => by
          have : b = p := by simpa using hb
          rw [this]; exact ⟨_, e0, rfl⟩
        obtain ⟨m1, m2, m3⟩ := List.nodup_append.mp o.nd
        obtain ⟨m4, m5, m6⟩ := List.nodup_append.mp m2
        have pF : p ∈ Fy ++ (p :: F1 ++ Fr) := by simp
        have nS : p ∉ Sy ++ (Sp ++ Sr) := o.dj p pF
        have nFy : p ∉ Fy := fun z => m3 p z p (by simp) rfl
        have nF1 : p ∉ F1 := (List.nodup_cons.mp m4).1
        have nFr : p ∉ Fr := fun z => m6 p (by simp) p z rfl
        have ry' := ry.kept hk hm (fun a ha z => nFy (by have : a = p := by simpa using z
                                                         rw [← this]; exact ha)) (fun a ha z => nS (by have : a = p := by simpa using z
                                                                                                       rw [← this]; simp [ha]))
        have rs' := Reps.kept hk hm rs (fun a ha z => nF1 (by have : a = p := by simpa using z
                                                              rw [← this]; exact ha)) (fun a ha z => nS (by have : a = p := by simpa using z
                                                                                                            rw [← this]; simp [ha]))
        have rr' := Reps.kept hk hm rr (fun a ha z => nFr (by have : a = p := by simpa using z
                                                              rw [← this]; exact ha)) (fun a ha z => nS (by have : a = p := by simpa using z
                                                                                                            rw [← this]; simp [ha]))
        have ra := Reps.app rs' (Reps.cons ry' .nil)
        refine ⟨w.fit, w.pr, _, _, .cons (.own upd_same ra) rr', ?_⟩
        have perm : (p :: (F1 ++ (Fy ++ [])) ++ Fr).Perm (Fy ++ (p :: F1 ++ Fr)) := by
          rw [List.append_nil]
          have h1 : (p :: (F1 ++ Fy) ++ Fr) = (p :: F1) ++ (Fy ++ Fr) := by simp
          rw [h1]
          exact (List.perm_append_comm_assoc _ _ _)
        refine ⟨perm.nodup_iff.mpr o.nd, fun a ha hs => ?_, fun a ha => o.fF a (perm.mem_iff.mp ha), fun a ha => ?_, fun b u hb hn => ?_, o.sz.lst (by rw [List.length_append, List.length_singleton]; omega)⟩
        · refine o.dj a (perm.mem_iff.mp ha) ?_
          simp only [List.append_nil, List.mem_append] at hs ⊢
          rcases hs with (z | z) | z
          · exact .inr (.inl z)
          · exact .inl z
          · exact .inr (.inr z)
        · refine o.fS a ?_
          simp only [List.append_nil, List.mem_append] at ha ⊢
          rcases ha with (z | z) | z
          · exact .inr (.inl z)
          · exact .inl z
          · exact .inr (.inr z)
        · have q := o.kp b u hb hn
          refine hk b u q fun z => ?_
          have : b = p := by simpa using z
          subst this
          rcases o.fF b pF with y1 | y1
          · exact hn y1
          · rw [hb] at y1; cases y1
end
section
variable {Φ : Fs} {k : Nat} {n : Nm}
theorem relS_eq {scope : Scope} {env : PySem.Env} : relabel scope env = relS scope env.scope := rfl
theorem OkX.blk {X : Cx} {sc : Scope} (O : OkX Φ k n X sc) (s : Shared) (H : Hp) (scope : Scope) (C : Addr) (cl : List (Str × Addr)) (fp : List Addr) : OkX Φ k n (X.blk s H scope (compEnvC scope cl C X.env) fp) (relS scope sc) :=
  ⟨O.N, O.nd, by show relabel scope X.env = _; rw [relS_eq, O.sc], O.calm, PassesOwn.never, O.lv1, O.lv, O.lv0, O.bt, O.fns, O.fx, O.kc, O.mf, O.kf⟩
theorem blk_loc {X : Cx} {sc : Scope} (O : OkX Φ k n X sc) (s : Shared) (H : Hp) (scope : Scope) (C : Addr) (cl : List (Str × Addr)) (fp : List Addr) : ∀ x, locB scope x = true → Loc (X.blk s H scope (compEnvC scope cl C X.env) fp).env.scope x ∧ ((X.blk s H scope (compEnvC scope cl C X.env) fp).fn x = true ∨ (X.blk s H scope (compEnvC scope cl C X.env) fp).env.scope.names.lookup x = some .local) := by
  intro x h
  unfold locB at h
  have e : (X.blk s H scope (compEnvC scope cl C X.env) fp).env.scope = relS scope X.env.scope := relS_eq
  rw [e]
  split at h
  · rename_i hh
    have q : (relS scope X.env.scope).names.lookup x = some .local := lookup_relS_keep (by decide) hh
    exact ⟨.inl q, .inr q⟩
  · rename_i hh
    have q : (relS scope X.env.scope).names.lookup x = some .cell := lookup_relS_keep (by decide) hh
    exact ⟨.inr q, .inl (by show (scope.names.lookup x == some .cell) = true; rw [hh]; rfl)⟩
  · cases h
theorem own_map {sc : Scope} {tg : List Nat} {g : Expr} (h : tgB n sc tg g = true) : (ownOf n tg).map (·.2) = tg := by
  unfold tgB at h
  split at h
  · simp only [Bool.and_eq_true, decide_eq_true_eq] at h
    simp [ownOf, h.1]
  · simp only [Bool.and_eq_true, decide_eq_true_eq] at h
    obtain ⟨⟨⟨h1, h2⟩, h3⟩, h4⟩ := h
    simp [ownOf, h1, h3]
  · simp only [Bool.and_eq_true, decide_eq_true_eq] at h
    obtain ⟨⟨⟨⟨⟨h1, h2⟩, h3⟩, h4⟩, h5⟩, h6⟩ := h
    simp [ownOf, h1, h3, h5]
  · cases h
/-- the parts of a comprehension's text -/
structure LcAt (n : Nm) (sc : Scope) (tg : List Nat) (it c el : T) (x g i : Expr) (fs : List Expr) (scope : Scope) : Prop where
  hi : chkI n sc it i = true
  ht : tgB n scope tg g = true
  ok : okTg it tg = true
  blk : blkC n.N sc scope (ownOf n tg) = true
  hf : (fs = [] ∧ c = .bl true) ∨ ∃ f, fs = [f] ∧ chkE n (relS scope sc) c f = true
  he : chkE n (relS scope sc) el x = true
theorem chk_lc {tg : List Nat} {it c el : T} {sc : Scope} {e : Expr} (h : chkE n sc (.lc tg it c el) e = true) : ∃ x g i fs scope pos, e = .ListComp x [⟨g, i, fs, 0⟩] scope pos ∧ LcAt n sc tg it c el x g i fs scope := by
  cases e <;> try (simp [chkE] at h; done)
  rename_i x gs scope pos
  rcases gs with _ | ⟨⟨g, i, fs, as⟩, _ | ⟨g2, r⟩⟩ <;> try (simp [chkE] at h; done)
  simp only [chkE, Bool.and_eq_true, decide_eq_true_eq] at h
  obtain ⟨⟨⟨⟨⟨⟨h1, h2⟩, h3⟩, h4⟩, h5⟩, h6⟩, h7⟩ := h
  subst h1
  refine ⟨x, g, i, fs, scope, pos, rfl, h2, h3, h4, h5, ?_, h7⟩
  split at h6
  · split at h6
    · exact .inl ⟨rfl, rfl⟩
    · cases h6
  · exact .inr ⟨_, rfl, h6⟩
  · cases h6
/-- its tests -/
def tTs (K : PySem.W.Frag) (Φ : Fs) (c : T) (fs : List Expr) : TT := match fs with
  | [] => tYes
  | _ => tT K Φ c
theorem SI_any {it : T} (s : SI Φ k n it) (sz : ∀ a b, it = .zip a b → SE Φ k n a ∧ SE Φ k n b) {X : Cx} {sc sc' : Scope} {tg : List Nat} {g e : Expr} (O : OkX Φ k n X sc) (ht : tgB n sc' tg g = true) (ok : okTg it tg = true) (h : chkI n sc it e = true) : PI X g e (tI X.K Φ it) := by
  cases it with
  | zip a b =>
    obtain ⟨sa, sb⟩ := sz a b rfl
    simp only [okTg, decide_eq_true_eq] at ok
    unfold tgB at ht
    split at ht <;> try (simp at ok; done)
    · exact SI_zip sa sb O h
    · cases ht
  | _ => exact s (fun a b z => by cases z) O h
theorem lc_imp {K : PySem.W.Frag} {tg : List Nat} {it c el : T} {fs : List Expr} (hc : fs = [] → c = .bl true) {σ : L2.St} {H : Hp} {Q : VK} (h : tD K Φ (.lc tg it c el) σ H Q) : tLc (tI K Φ it) (gOf K tg) (tTs K Φ c fs) (tD K Φ el) tg σ H Q := by
  obtain ⟨B, env, Γ, d, e', w, hd, q⟩ := h
  rw [evE] at hd
  split at hd
  · rename_i xs e1 h1
    split at hd
    · rename_i ds e2 h2
      obtain ⟨rfl, rfl⟩ := inj2 hd
      refine ⟨B, env, Γ, xs, e1, w, h1, fun J H1 hold it0 w1 D0 hD => ?_⟩
      -- the invariant
      let f := fun (x : D) (e : Env) => match bindT tg x e with
        | some e => match evE Φ c e with
          | some (.bl true, e) => match evE Φ el e with
            | some (d, e) => some (some d, kill tg e)
            | none => none
          | some (.bl false, e) => some (none, kill tg e)
          | _ => none
        | none => none
      let B' : Bs := { B with pr := [] }
      have toIt : ∀ {R H'}, W K B' H' R → W K B H' R := fun hw => by
        obtain ⟨F, S, r, o⟩ := hw
        exact ⟨F, S, r, ⟨o.nd, o.dj, o.fF, o.fS, o.kp, o.sz⟩⟩
      have ofIt : ∀ {R H'}, W K B H' R → W K B' H' R := fun hw => by
        obtain ⟨F, S, r, o⟩ := hw
        exact ⟨F, S, r, ⟨o.nd, o.dj, o.fF, o.fS, o.kp, o.sz⟩⟩
      refine ⟨fun i m H => m = xs.length - i ∧ i ≤ xs.length ∧ ∃ ei acc, Wd K B' (wipe σ tg) ei ((.ref D0, .lst true acc) :: (hold ++ Γ)) H ∧ (∀ (j : Nat) (d : D), ei[j]? = some (some d) → j ∉ tg) ∧ acc.length ≤ i ∧ xs.length ≤ sizeLine ∧ loopC f (xs.drop i) ei acc = some (ds, e2), ?_, ?_⟩
      · refine ⟨xs.length, by simp, Nat.zero_le _, kill tg e1, [], ?_, fun j d hj => (kill_none hj).1, Nat.le_refl _, ?_, h2⟩
        · have w2 : Wd K B σ (kill tg e1) (hold ++ Γ) H1 := w1.kill tg
          have w3 : Wd K B' (wipe σ tg) (kill tg e1) (hold ++ Γ) H1 := w2.slots (by rw [wipe_length]) (fun i d hi => wipe_get (kill_none hi).1) ⟨rfl, rfl, rfl⟩ fun p hp => nomatch hp
          exact w3.lstN (vs := []) (ds := []) rfl hD (Nat.zero_le _)
        · exact it0.small (R := Γ ++ er σ e1) (by have := w1.w; rwa [List.append_assoc] at this)
      · rintro i m H2 ⟨rfl, hi, ei, acc, w2, hk, hacc, hsz, hl⟩
        have wI : W K B H2 (hold ++ ((.ref D0, .lst true acc) :: (Γ ++ er (wipe σ tg) ei))) := by
          have := toIt w2.w
          refine this.perm ?_
          rw [List.cons_append, List.append_assoc]
          exact List.perm_middle.symm
        by_cases hlt : i < xs.length
        · obtain ⟨x0, hx0⟩ := get_some hlt
          have hdrop : xs.drop i = x0 :: xs.drop (i + 1) := by
            obtain ⟨hh, he⟩ := List.getElem?_eq_some_iff.mp hx0
            rw [List.drop_eq_getElem_cons hh, he]
          rw [hdrop, loopC] at hl
          refine .inr ⟨it0.go i H2 _ wI hlt, fun H' => ∃ ei acc, Wd K B' (wipe σ tg) ei ((.ref D0, .lst true acc) :: (hold ++ Γ)) H' ∧ (∀ (j : Nat) (d : D), ei[j]? = some (some d) → j ∉ tg) ∧ acc.length ≤ i + 1 ∧ loopC f (xs.drop (i + 1)) ei acc = some (ds, e2), ?_, ?_⟩
          · rintro H' ⟨ei', acc', a1, a2, a3, a4⟩
            exact ⟨xs.length - (i + 1), by omega, rfl, hlt, ei', acc', a1, a2, a3, hsz, a4⟩
          · intro x H' hy
            obtain ⟨d0, hd0, w3⟩ := it0.yld i H2 _ x H' wI hlt hy
            rw [hx0] at hd0
            cases hd0
            have w4 : Wd K B' (wipe σ tg) ei ((x, x0) :: (.ref D0, .lst true acc) :: (hold ++ Γ)) H' := by
              refine ⟨w2.fit, (fun p hp => nomatch hp), ofIt (w3.perm ?_)⟩
              refine .cons _ ?_
              show (hold ++ (V.ref D0, D.lst true acc) :: (Γ ++ er (wipe σ tg) ei)).Perm ((V.ref D0, D.lst true acc) :: ((hold ++ Γ) ++ er (wipe σ tg) ei))
              rw [List.append_assoc]
              exact List.perm_middle
            split at hl
            · rename_i d1 e3 hf
              simp only [f] at hf
              split at hf
              · rename_i e4 hb
                refine bind_ok hb w4 (fun p hp => nomatch hp) fun σ2 w5 hs hlen => ⟨?_, ?_⟩
                · exact wipe_eq (hlen.trans (wipe_length _ _)) fun i hi => (hs i hi).trans (wipe_get hi)
                split at hf
                · rename_i e5 hcc
                  split at hf
                  · rename_i d2 e6 hee
                    obtain ⟨rd, re⟩ := inj2 hf
                    cases rd
                    subst re
                    have step : ∀ H3, Wd K B' σ2 e5 ((.ref D0, .lst true acc) :: (hold ++ Γ)) H3 → (if true = true then tD K Φ el σ2 H3 fun y H4 => ∃ acc0, H4 D0 = some (.lst acc0) ∧ acc0.length < sizeLine ∧ ∃ ei acc, Wd K B' (wipe σ tg) ei ((.ref D0, .lst true acc) :: (hold ++ Γ)) (upd H4 D0 (.lst (acc0 ++ [y]))) ∧ (∀ (j : Nat) (d : D), ei[j]? = some (some d) → j ∉ tg) ∧ acc.length ≤ i + 1 ∧ loopC f (xs.drop (i + 1)) ei acc = some (ds, e2) else ∃ ei acc, Wd K B' (wipe σ tg) ei ((.ref D0, .lst true acc) :: (hold ++ Γ)) H3 ∧ (∀ (j : Nat) (d : D), ei[j]? = some (some d) → j ∉ tg) ∧ acc.length ≤ i + 1 ∧ loopC f (xs.drop (i + 1)) ei acc = some (ds, e2)) := by
                      intro H3 w6
                      rw [if_pos rfl]
                      refine ⟨B', e5, _, d1, e6, w6, hee, fun y H4 w7 => ?_⟩
                      obtain ⟨vs, ev, hl2, w8⟩ := w7.app
                      have hlt2 : vs.length < sizeLine := by omega
                      refine ⟨vs, ev, hlt2, kill tg e6, acc ++ [d1], ?_, fun j d hj => (kill_none hj).1, by simp; omega, hl⟩
                      exact ((w8 hlt2).kill tg).slots (by rw [wipe_length, hlen, wipe_length]) (fun i d hi => by
                        have h9 := (kill_none hi).1
                        rw [hs i h9]) ⟨rfl, rfl, rfl⟩ fun p hp => nomatch hp
                    unfold tTs
                    split
                    · have hcb := hc rfl
                      subst hcb
                      rw [evE] at hcc
                      obtain ⟨_, re⟩ := inj2 hcc
                      subst re
                      exact step H' w5
                    · exact ⟨B', e4, _, true, e5, w5, hcc, fun H3 w6 => step H3 w6⟩
                  · cases hf
                · rename_i e5 hcc
                  simp at hf
                · cases hf
              · cases hf
            · rename_i e3 hf
              simp only [f] at hf
              split at hf
              · rename_i e4 hb
                refine bind_ok hb w4 (fun p hp => nomatch hp) fun σ2 w5 hs hlen => ⟨?_, ?_⟩
                · exact wipe_eq (hlen.trans (wipe_length _ _)) fun i hi => (hs i hi).trans (wipe_get hi)
                split at hf
                · rename_i e5 hcc
                  split at hf
                  · simp at hf
                  · cases hf
                · rename_i e5 hcc
                  obtain ⟨_, re⟩ := inj2 hf
                  subst re
                  have fin : ∀ H3, Wd K B' σ2 e5 ((.ref D0, .lst true acc) :: (hold ++ Γ)) H3 → ∃ ei acc, Wd K B' (wipe σ tg) ei ((.ref D0, .lst true acc) :: (hold ++ Γ)) H3 ∧ (∀ (j : Nat) (d : D), ei[j]? = some (some d) → j ∉ tg) ∧ acc.length ≤ i + 1 ∧ loopC f (xs.drop (i + 1)) ei acc = some (ds, e2) := by
                    intro H3 w6
                    refine ⟨kill tg e5, acc, ?_, fun j d hj => (kill_none hj).1, by omega, hl⟩
                    exact (w6.kill tg).slots (by rw [wipe_length, hlen, wipe_length]) (fun i d hi => by
                      have h9 := (kill_none hi).1
                      rw [hs i h9]) ⟨rfl, rfl, rfl⟩ fun p hp => nomatch hp
                  unfold tTs
                  split
                  · have hcb := hc rfl
                    subst hcb
                    rw [evE] at hcc
                    have := (inj2 hcc).1
                    cases this
                  · refine ⟨B', e4, _, false, e5, w5, hcc, fun H3 w6 => ?_⟩
                    show if false = true then _ else _
                    rw [if_neg Bool.false_ne_true]
                    exact fin H3 w6
                · cases hf
              · cases hf
            · cases hl
        · have hie : i = xs.length := by omega
          subst hie
          rw [List.drop_length, loopC] at hl
          obtain ⟨rfl, rfl⟩ := inj2 hl
          refine .inl ⟨it0.stop _ H2 _ wI (Nat.le_refl _), q _ _ ?_⟩
          have w3 : Wd K B' (wipe σ tg) ei ((.ref D0, .lst true acc) :: Γ) H2 := by
            refine ⟨w2.fit, w2.pr, ?_⟩
            have := toIt w2.w
            have p2 : ((V.ref D0, D.lst true acc) :: (hold ++ Γ) ++ er (wipe σ tg) ei).Perm (hold ++ ((V.ref D0, D.lst true acc) :: (Γ ++ er (wipe σ tg) ei))) := by
              rw [List.cons_append, List.append_assoc]
              exact List.perm_middle.symm
            exact ofIt (W.dropN (this.perm p2))
          exact w3.slots (by rw [wipe_length]) (fun i d hi => (wipe_get (hk i d hi)).symm) ⟨rfl, rfl, rfl⟩ fun p hp => w.pr p hp
    · cases hd
  · cases hd
end
end Sr
set_option Elab.async false
set_option linter.all false
set_option maxRecDepth 100000
set_option maxHeartbeats 2000000
/-! # Sr: places that are stored to -/
namespace Sr
open PySem PySem.Spec PyProof.Rows L2

/-- what stands at a place -/
def PlV (K : PySem.W.Frag) (H : Hp) (σ : L2.St) (e : Env) : T → V → Prop
  | .v i, u => σ[i]? = some (some u)
  | .ix a b, u => ∃ q vs kk, PlV K H σ e a (.ref q) ∧ evP b e = some (.int kk) ∧ (H q = some (.lst vs) ∨ Rd H q (.tup vs)) ∧ atI vs kk = some u
  | .fld c i f, u => ∃ a C dx fs, σ[i]? = some (some (.ref a)) ∧ PySem.W.nsIn K mainGlobals (cnm c) = some (some (.ref C)) ∧ H a = some (.ins C dx fs) ∧ fs.lookup f = some u
  | _, _ => False
def tPl (K : PySem.W.Frag) (p : T) : TE := fun σ H Q => ∃ B e Γ, Wd K B σ e Γ H ∧ ∃ u, PlV K H σ e p u ∧ Q u H
section
variable {Φ : Fs} {k : Nat} {n : Nm} {X : Cx} {sc : Scope}
theorem pl_ok : ∀ {p : T} {e : Expr}, OkX Φ k n X sc → isPl p = true → chkE n sc p e = true → PE X e (tPl X.K p) := by
  intro p
  induction p with
  | v i =>
    intro e O _ h
    cases e <;> try (simp [chkE] at h; done)
    rw [chkE] at h
    refine (O.name h).imp ?_
    rintro σ H Q ⟨B, env, Γ, w, u, hu, q⟩
    exact ⟨u, hu, q⟩
  | ix a b iha _ =>
    intro e O hp h
    simp only [isPl, Bool.and_eq_true] at hp
    cases e <;> try (simp [chkE] at h; done)
    simp only [chkE, Bool.and_eq_true] at h
    refine (pe_ix ix_seqV (iha O hp.1 h.1) (evP_ok O hp.2 h.2) (plainIx_pl (chk_pl h.2))).imp ?_
    rintro σ H Q ⟨B, env, Γ, w, u, ⟨q0, vs, kk, h1, h2, h3, h4⟩, q⟩
    refine ⟨B, env, Γ, w, _, h1, B, env, Γ, _, w, h2, fun v bv => ?_⟩
    rw [bv.int]
    exact ⟨q0, vs, kk, u, rfl, rfl, h3.imp SqL.of .inl, h4, q⟩
  | fld c i f =>
    intro e O _ h
    obtain ⟨x, xp, pos, rfl, hf, hk, hn⟩ := chk_fld h
    obtain ⟨C0, hC, hcls, hno⟩ := O.kc c hk
    refine (pe_fld (O.name hn) rfl).imp ?_
    rintro σ H Q ⟨B, env, Γ, w, u, ⟨a, C, dx, fs, h1, h2, h3, h4⟩, q⟩
    rw [hC] at h2
    cases h2
    exact ⟨_, h1, a, C0, dx, fs, u, rfl, h3, hcls.cl, hno f hf, h4, q⟩
  | _ => intro e O hp h; simp [isPl] at hp
end
/-- a place within: what stands there, and how the whole is when that is changed in place -/
def Lens (K : PySem.W.Frag) (H : Hp) (σ : L2.St) (e : Env) (p : T) (f : D → Option D) (d d' : D) : Prop :=
  ∀ (v : V) (F S : List Addr), (∀ i, root p = some i → σ[i]? = some (some v)) → Rep K H v d F S → ∃ u du du' Fa F1 Fb Sa S1 Sb, F = Fa ++ (F1 ++ Fb) ∧ S = Sa ++ (S1 ++ Sb) ∧ Rep K H u du F1 S1 ∧ PlV K H σ e p u ∧ evP p e = some du ∧ f du = some du' ∧
    ∀ (H' : Hp) (M : List Addr) (F1' S1' : List Addr), Kept H H' M → (∀ b ∈ M, IsLst H b) → (∀ a ∈ Fa ++ Fb, a ∉ M) → (∀ a ∈ Sa ++ Sb, a ∉ M) → Rep K H' u du' F1' S1' → Rep K H' v d' (Fa ++ (F1' ++ Fb)) (Sa ++ (S1' ++ Sb))
where root : T → Option Nat
  | .v i => some i
  | .ix a _ => root a
  | .fld _ i _ => some i
  | _ => none
section
variable {K : PySem.W.Frag} {H : Hp} {σ : L2.St}
theorem set_self {α : Type} {l : List α} {j : Nat} {x : α} (h : l[j]? = some x) : l.set j x = l := by
  apply List.ext_getElem?
  intro i
  by_cases hi : j = i
  · subst hi
    rw [List.getElem?_set_self (List.getElem?_eq_some_iff.mp h).1, h]
  · rw [List.getElem?_set_ne hi]
theorem setP_ok : ∀ {p : T} {f : D → Option D} {e e' : Env}, setP p f e = some e' → ∃ i d d', Lens.root p = some i ∧ e.at i = some d ∧ e' = e.set i (some d') ∧ Lens K H σ e p f d d' := by
  intro p
  induction p with
  | v i =>
    intro f e e' h
    rw [setP] at h
    split at h
    · rename_i d hd
      split at h
      · rename_i d' hd'
        cases h
        refine ⟨i, d, d', rfl, hd, rfl, fun v F S hv r => ⟨v, d, d', [], F, [], [], S, [], by simp, by simp, r, hv i rfl, hd, hd', fun H' M F1' S1' _ _ _ _ r' => by simpa using r'⟩⟩
      · cases h
    · cases h
  | ix a b iha _ =>
    intro f e e' h
    rw [setP] at h
    split at h
    · rename_i kk hk
      obtain ⟨i, d, d', hr, hd, he, L⟩ := iha h
      refine ⟨i, d, d', hr, hd, he, fun v F S hv r => ?_⟩
      obtain ⟨u, du, du', Fa, F1, Fb, Sa, S1, Sb, eF, eS, r1, pl, hev, hf, put⟩ := L v F S hv r
      unfold setAt at hf
      split at hf
      · rename_i xs
        split at hf
        · rename_i j hj
          split at hf
          · rename_i x hx
            split at hf
            · rename_i y hy
              cases hf
              cases r1 with
              | @own q vs _ F2 _ e0 rs =>
                obtain ⟨w, Fa2, F3, Fb2, Sa2, S3, Sb2, hw, r3, eF2, eS2, put2⟩ := rs.split hx
                refine ⟨w, x, y, Fa ++ (q :: Fa2), F3, Fb2 ++ Fb, Sa ++ Sa2, S3, Sb2 ++ Sb, ?_, ?_, r3, ⟨q, vs, kk, pl, hk, .inl e0, ?_⟩, ?_, hy, fun H' M F1' S1' hkp hm hF hS r' => ?_⟩
                · rw [eF, eF2]; simp
                · rw [eS, eS2]; simp
                · unfold atI; rw [rs.len, hj]; exact hw
                · rw [evP, hev, hk]; show atD _ _ = _; unfold atD; simp only [items]; unfold atI; rw [hj]; exact hx
                · have nq : q ∉ M := hF q (by simp)
                  have z := put2 H' M w y F1' S1' hkp hm (fun a ha => hF a (by rcases List.mem_append.mp ha with y | y <;> simp [y])) (fun a ha => hS a (by rcases List.mem_append.mp ha with y | y <;> simp [y])) r'
                  rw [set_self hw] at z
                  have z2 := put H' M _ _ hkp hm (fun a ha => hF a (by rcases List.mem_append.mp ha with y | y <;> simp [y])) (fun a ha => hS a (by rcases List.mem_append.mp ha with y | y <;> simp [y])) (.own (hkp q _ e0 nq) z)
                  simpa [List.append_assoc] using z2
            · cases hf
          · cases hf
        · cases hf
      · rename_i xs
        split at hf
        · rename_i j hj
          split at hf
          · rename_i x hx
            split at hf
            · rename_i y hy
              cases hf
              cases r1 with
              | @tup q vs _ _ _ e0 rs =>
                obtain ⟨w, Fa2, F3, Fb2, Sa2, S3, Sb2, hw, r3, eF2, eS2, put2⟩ := rs.split hx
                refine ⟨w, x, y, Fa ++ Fa2, F3, Fb2 ++ Fb, Sa ++ Sa2, S3, Sb2 ++ Sb, ?_, ?_, r3, ⟨q, vs, kk, pl, hk, .inr e0, ?_⟩, ?_, hy, fun H' M F1' S1' hkp hm hF hS r' => ?_⟩
                · rw [eF, eF2]; simp
                · rw [eS, eS2]; simp
                · unfold atI; rw [rs.len, hj]; exact hw
                · rw [evP, hev, hk]; show atD _ _ = _; unfold atD; simp only [items]; unfold atI; rw [hj]; exact hx
                · have z := put2 H' M w y F1' S1' hkp hm (fun a ha => hF a (by rcases List.mem_append.mp ha with y | y <;> simp [y])) (fun a ha => hS a (by rcases List.mem_append.mp ha with y | y <;> simp [y])) r'
                  rw [set_self hw] at z
                  have z2 := put H' M _ _ hkp hm (fun a ha => hF a (by rcases List.mem_append.mp ha with y | y <;> simp [y])) (fun a ha => hS a (by rcases List.mem_append.mp ha with y | y <;> simp [y])) (.tup (hkp.sqT hm e0) z)
                  simpa [List.append_assoc] using z2
            · cases hf
          · cases hf
        · cases hf
      · cases hf
    · cases h
  | fld c i g =>
    intro f e e' h
    rw [setP] at h
    split at h
    · rename_i d hd
      split at h
      · rename_i d' hd'
        cases h
        refine ⟨i, d, d', rfl, hd, rfl, fun v F S hv r => ?_⟩
        unfold setFld at hd'
        split at hd'
        · rename_i c' ns xs
          split at hd'
          · rename_i ec
            subst ec
            split at hd'
            · rename_i j hj
              split at hd'
              · rename_i x hx
                split at hd'
                · rename_i y hy
                  cases hd'
                  cases r with
                  | @celo q _ vs _ F2 _ ca rs =>
                    obtain ⟨C, dx, h1, h2, h3⟩ := ca
                    obtain ⟨w, Fa2, F3, Fb2, Sa2, S3, Sb2, hw, r3, eF2, eS2, put2⟩ := rs.split hx
                    refine ⟨w, x, y, q :: Fa2, F3, Fb2, Sa2, S3, Sb2, by rw [eF2]; simp, eS2, r3, ⟨q, C, dx, _, hv i rfl, h1, h3, posS_lookup hj hw⟩, by rw [evP, hd]; simp only [fldD, if_pos, hj]; exact hx, hy, fun H' M F1' S1' hkp hm hF hS r' => ?_⟩
                    have nq : q ∉ M := hF q (by simp)
                    have z := put2 H' M w y F1' S1' hkp hm (fun a ha => hF a (by rcases List.mem_append.mp ha with y | y <;> simp [y])) hS r'
                    rw [set_self hw] at z
                    exact .celo (k := .ins c ns) ⟨C, dx, h1, h2, hkp q _ h3 nq⟩ z
                · cases hd'
              · cases hd'
            · cases hd'
          · cases hd'
        · cases hd'
      · cases h
    · cases h
  | _ => intro f e e' h; simp [setP] at h
/-- a list of ours at a place is changed: x, the data of xv, takes the place of the item j or comes behind -/
theorem store_ok' {B : Bs} {e e' : Env} {Γ : List Rt} {p : T} {f : D → Option D} {xv : V} {x : D} (G : List V → List V → Prop) (w : Wd K B σ e ((xv, x) :: Γ) H) (h : setP p f e = some e')
    (hf : ∀ du du' u F1 S1, f du = some du' → Rep K H u du F1 S1 → ∃ q vs ys F2 Fx0 Fy S2 Sx0 Sy vs', u = .ref q ∧ du' = .lst true ys ∧ H q = some (.lst vs) ∧ F1 = q :: (F2 ++ (Fx0 ++ Fy)) ∧ S1 = S2 ++ (Sx0 ++ Sy) ∧ G vs vs' ∧ vs'.length ≤ sizeLine ∧
      ∀ (H' : Hp) (M : List Addr) (Fx Sx : List Addr), Kept H H' M → (∀ b ∈ M, IsLst H b) → (∀ a ∈ F2 ++ Fy, a ∉ M) → (∀ a ∈ S2 ++ Sy, a ∉ M) → Rep K H' xv x Fx Sx → Reps K H' vs' ys (F2 ++ (Fx ++ Fy)) (S2 ++ (Sx ++ Sy))) :
    ∃ q vs vs', PlV K H σ e p (.ref q) ∧ H q = some (.lst vs) ∧ G vs vs' ∧ Wd K B σ e' Γ (upd H q (.lst vs')) := by
  obtain ⟨i, d, d', hr, hd, he, L⟩ := setP_ok (K := K) (H := H) (σ := σ) h
  obtain ⟨v, hv, w0⟩ := w.read hd
  obtain ⟨Ft, St, r0, o⟩ := w0
  cases r0 with
  | @cons _ _ _ _ F S FR SR rd r1 =>
    cases r1 with
    | @cons _ _ _ _ Fx Sx Fr Sr rx rr =>
      obtain ⟨u, du, du', Fa, F1, Fb, Sa, S1, Sb, eF, eS, ru, pl, _, hfu, put⟩ := L v F S (fun j hj => by rw [hr] at hj; cases hj; exact hv) rd
      obtain ⟨q, vs, ys, F2, Fx0, Fy, S2, Sx0, Sy, vs', eu, edu, hq, eF1, eS1, hG, hz, putx⟩ := hf du du' u F1 S1 hfu ru
      subst eu edu eF1 eS1 eF eS
      have hk : Kept H (upd H q (.lst vs')) [q] := fun b c hb hn => by rw [upd_ne (by simpa using hn)]; exact hb
      have hm : ∀ b ∈ [q], IsLst H b := fun b hb => by
        have : b = q := by simpa using hb
        rw [this]; exact ⟨_, hq, rfl⟩
      have nd := o.nd
      rw [List.nodup_iff_count] at nd
      have qF : q ∈ (Fa ++ (q :: (F2 ++ (Fx0 ++ Fy)) ++ Fb)) ++ (Fx ++ Fr) := by simp
      have nq : List.count q ((Fa ++ (q :: (F2 ++ (Fx0 ++ Fy)) ++ Fb)) ++ (Fx ++ Fr)) ≤ 1 := nd q
      simp only [List.count_append, List.count_cons_self] at nq
      have out : ∀ {l : List Addr}, List.count q l = 0 → ∀ a ∈ l, a ∉ [q] := fun {l} hc a ha hn => by
        have : a = q := by simpa using hn
        subst this
        exact absurd ha (List.count_eq_zero.mp hc)
      have outS : ∀ {l : List Addr}, (∀ a ∈ l, a ∈ (Sa ++ (S2 ++ (Sx0 ++ Sy) ++ Sb)) ++ (Sx ++ Sr)) → ∀ a ∈ l, a ∉ [q] := fun {l} hc a ha hn => by
        have : a = q := by simpa using hn
        subst this
        exact o.dj a qF (hc a ha)
      have rx' := rx.kept hk hm (out (by omega)) (outS fun a ha => by simp [ha])
      have rr' := Reps.kept hk hm rr (out (by omega)) (outS fun a ha => by simp [ha])
      have ry := putx _ [q] Fx Sx hk hm (out (by rw [List.count_append]; omega)) (outS fun a ha => by rcases List.mem_append.mp ha with y | y <;> simp [y]) rx'
      have rd' := put _ [q] _ _ hk hm (out (by rw [List.count_append]; omega)) (outS fun a ha => by rcases List.mem_append.mp ha with y | y <;> simp [y]) (.own upd_same ry)
      refine ⟨q, vs, vs', pl, hq, hG, ?_⟩
      have wn : W K B (upd H q (.lst vs')) ((v, d') :: (Γ ++ er σ (e.set i none))) := by
        refine ⟨_, _, .cons rd' rr', ?_⟩
        have sub : ∀ a, List.count a (Fa ++ (q :: (F2 ++ (Fx ++ Fy)) ++ Fb) ++ Fr) ≤ List.count a ((Fa ++ (q :: (F2 ++ (Fx0 ++ Fy)) ++ Fb)) ++ (Fx ++ Fr)) := fun a => by
          simp only [List.count_append, List.count_cons]; omega
        have mem : ∀ a, a ∈ (Fa ++ (q :: (F2 ++ (Fx ++ Fy)) ++ Fb) ++ Fr) → a ∈ ((Fa ++ (q :: (F2 ++ (Fx0 ++ Fy)) ++ Fb)) ++ (Fx ++ Fr)) := fun a ha => by
          have h1 := List.count_pos_iff.mpr ha
          exact List.count_pos_iff.mp (Nat.lt_of_lt_of_le h1 (sub a))
        have memS : ∀ a, a ∈ (Sa ++ ((S2 ++ (Sx ++ Sy)) ++ Sb) ++ Sr) → a ∈ ((Sa ++ (S2 ++ (Sx0 ++ Sy) ++ Sb)) ++ (Sx ++ Sr)) := fun a ha => by
          simp only [List.mem_append] at ha ⊢
          rcases ha with (z | (z | z | z) | z) | z <;> simp [z]
        refine ⟨List.nodup_iff_count.mpr fun a => Nat.le_trans (sub a) (nd a), fun a ha hs => o.dj a (mem a ha) (memS a hs), fun a ha => o.fF a (mem a ha), fun a ha => o.fS a (memS a ha), fun b c hb hn => ?_, o.sz.lst hz⟩
        refine hk b c (o.kp b c hb hn) fun z => ?_
        have : b = q := by simpa using z
        subst this
        rcases o.fF b qF with y1 | y1
        · exact hn y1
        · rw [hb] at y1; cases y1
      have wd : Wd K B σ (e.set i none) ((v, d') :: Γ) (upd H q (.lst vs')) := ⟨w.fit.none i, w.pr, wn⟩
      have z := wd.put2 (i := i) hv
      rw [List.set_set] at z
      rw [he]
      exact z
/-- x = the item k of the list at a place -/
theorem st_ok {B : Bs} {e e' : Env} {Γ : List Rt} {p : T} {k : Int} {xv : V} {x : D} (w : Wd K B σ e ((xv, x) :: Γ) H) (h : setP p (putD k x) e = some e') :
    ∃ q vs j, PlV K H σ e p (.ref q) ∧ H q = some (.lst vs) ∧ ixN vs.length k = some j ∧ Wd K B σ e' Γ (upd H q (.lst (vs.set j xv))) := by
  obtain ⟨q, vs, vs', h1, h2, ⟨j, hj, rfl⟩, h3⟩ := store_ok' (fun vs vs' => ∃ j, ixN vs.length k = some j ∧ vs' = vs.set j xv) w h (by
    intro du du' u F1 S1 hf r
    unfold putD at hf
    split at hf
    · rename_i xs
      split at hf
      · rename_i j hj
        cases hf
        cases r with
        | @own q vs _ F2 _ e0 rs =>
          have hlt : j < xs.length := (ixN_seq hj).2.1
          obtain ⟨w0, Fa, F3, Fb, Sa, S3, Sb, hw, r3, eF, eS, put⟩ := rs.split (List.getElem?_eq_getElem hlt)
          refine ⟨q, vs, _, Fa, F3, Fb, Sa, S3, Sb, vs.set j xv, rfl, rfl, e0, by rw [eF], eS, ⟨j, by rw [rs.len]; exact hj, rfl⟩, ?_, fun H' M Fx Sx hk hm hF hS r' => put H' M xv x Fx Sx hk hm hF hS r'⟩
          rw [List.length_set]
          obtain ⟨_, _, _, o⟩ := w.w
          exact o.sz q vs (.inl (.inl e0))
      · cases hf
    · cases hf)
  exact ⟨q, vs, j, h1, h2, hj, h3⟩
theorem app_ok {B : Bs} {e e' : Env} {Γ : List Rt} {i : Nat} {xv : V} {x : D} (w : Wd K B σ e ((xv, x) :: Γ) H) (h : setP (.v i) (appD x) e = some e') :
    ∃ q vs, σ[i]? = some (some (.ref q)) ∧ H q = some (.lst vs) ∧ vs.length < sizeLine ∧ Wd K B σ e' Γ (upd H q (.lst (vs ++ [xv]))) := by
  obtain ⟨q, vs, vs', h1, h2, ⟨hj, rfl⟩, h3⟩ := store_ok' (fun vs vs' => vs.length < sizeLine ∧ vs' = vs ++ [xv]) w h (by
    intro du du' u F1 S1 hf r
    unfold appD at hf
    split at hf
    · rename_i xs
      split at hf
      · rename_i hz
        cases hf
        cases r with
        | @own q vs _ F2 _ e0 rs =>
          have hlt : vs.length < sizeLine := by rw [rs.len]; exact Nat.lt_trans hz (by decide)
          refine ⟨q, vs, _, F2, [], [], S1, [], [], vs ++ [xv], rfl, rfl, e0, by simp, by simp, ⟨hlt, rfl⟩, ?_, fun H' M Fx Sx hk hm hF hS r' => ?_⟩
          · rw [List.length_append, List.length_singleton]; omega
          · have z := (Reps.kept hk hm rs (fun a ha => hF a (by simp [ha])) (fun a ha => hS a (by simp [ha]))).app (Reps.cons r' .nil)
            simpa using z
      · cases hf
    · cases hf)
  exact ⟨q, vs, h1, h2, hj, h3⟩
theorem PlV.same {H' : Hp} (k : Same H H') {e : Env} : ∀ {p : T} {u : V}, PlV K H σ e p u → PlV K H' σ e p u := by
  intro p
  induction p with
  | v i => intro u h; exact h
  | ix a b iha _ =>
    intro u h
    obtain ⟨q, vs, kk, h1, h2, h3, h4⟩ := h
    refine ⟨q, vs, kk, iha h1, h2, ?_, h4⟩
    rcases h3 with h3 | h3 | ⟨o, h3⟩
    · exact .inl (k _ _ h3)
    · exact .inr (.inl (k _ _ h3))
    · exact .inr (.inr ⟨o, k _ _ h3⟩)
  | fld c i f =>
    intro u h
    obtain ⟨a, C, dx, fs, h1, h2, h3, h4⟩ := h
    exact ⟨a, C, dx, fs, h1, h2, k _ _ h3, h4⟩
  | _ => intro u h; cases h
theorem PlV.one {e : Env} : ∀ {p : T} {u u' : V}, PlV K H σ e p u → PlV K H σ e p u' → u = u' := by
  intro p
  induction p with
  | v i =>
    intro u u' h h'
    have h1 : σ[i]? = some (some u) := h
    have h2 : σ[i]? = some (some u') := h'
    rw [h1] at h2; cases h2; rfl
  | ix a b iha _ =>
    intro u u' h h'
    obtain ⟨q, vs, kk, h1, h2, h3, h4⟩ := h
    obtain ⟨q', vs', kk', h1', h2', h3', h4'⟩ := h'
    have eq := iha h1 h1'
    cases eq
    rw [h2] at h2'; cases h2'
    have ev : vs = vs' := by
      rcases h3 with h3 | h3 | ⟨o, h3⟩ <;> rcases h3' with h3' | h3' | ⟨o', h3'⟩ <;> (rw [h3] at h3'; cases h3'; try rfl)
    subst ev
    rw [h4] at h4'; cases h4'; rfl
  | fld c i f =>
    intro u u' h h'
    obtain ⟨a, C, dx, fs, h1, h2, h3, h4⟩ := h
    obtain ⟨a', C', dx', fs', h1', h2', h3', h4'⟩ := h'
    rw [h1] at h1'; cases h1'
    rw [h3] at h3'; cases h3'
    rw [h4] at h4'; cases h4'; rfl
  | _ => intro u u' h; cases h
/-- a list of ours that is to grow stands at the place -/
theorem place_list {B : Bs} {e e' : Env} {Γ : List Rt} {p : T} {x : D} (w : Wd K B σ e Γ H) (h : setP p (appD x) e = some e') : ∃ q vs, PlV K H σ e p (.ref q) ∧ H q = some (.lst vs) := by
  obtain ⟨i, d, d', hr, hd, he, L⟩ := setP_ok (K := K) (H := H) (σ := σ) h
  obtain ⟨v, hv, w0⟩ := w.read hd
  obtain ⟨Ft, St, r0, o⟩ := w0
  cases r0 with
  | cons rd _ =>
    obtain ⟨u, du, du', Fa, F1, Fb, Sa, S1, Sb, eF, eS, ru, pl, _, hfu, _⟩ := L v _ _ (fun j hj => by rw [hr] at hj; cases hj; exact hv) rd
    unfold appD at hfu
    split at hfu
    · cases ru with
      | own e0 _ => exact ⟨_, _, pl, e0⟩
    · cases hfu
theorem app_okP {B : Bs} {e e' : Env} {Γ : List Rt} {p : T} {xv : V} {x : D} (w : Wd K B σ e ((xv, x) :: Γ) H) (h : setP p (appD x) e = some e') :
    ∃ q vs, PlV K H σ e p (.ref q) ∧ H q = some (.lst vs) ∧ vs.length < sizeLine ∧ Wd K B σ e' Γ (upd H q (.lst (vs ++ [xv]))) := by
  obtain ⟨q, vs, vs', h1, h2, ⟨hj, rfl⟩, h3⟩ := store_ok' (fun vs vs' => vs.length < sizeLine ∧ vs' = vs ++ [xv]) w h (by
    intro du du' u F1 S1 hf r
    unfold appD at hf
    split at hf
    · rename_i xs
      split at hf
      · rename_i hz
        cases hf
        cases r with
        | @own q vs _ F2 _ e0 rs =>
          have hlt : vs.length < sizeLine := by rw [rs.len]; exact Nat.lt_trans hz (by decide)
          refine ⟨q, vs, _, F2, [], [], S1, [], [], vs ++ [xv], rfl, rfl, e0, by simp, by simp, ⟨hlt, rfl⟩, ?_, fun H' M Fx Sx hk hm hF hS r' => ?_⟩
          · rw [List.length_append, List.length_singleton]; omega
          · have z := (Reps.kept hk hm rs (fun a ha => hF a (by simp [ha])) (fun a ha => hS a (by simp [ha]))).app (Reps.cons r' .nil)
            simpa using z
      · cases hf
    · cases hf)
  exact ⟨q, vs, h1, h2, hj, h3⟩
theorem last_app {α : Type} {l : List α} {x : α} (h : l[l.length - 1]? = some x) : l = l.dropLast ++ [x] := by
  have hl : l ≠ [] := by intro e; subst e; cases h
  obtain ⟨_, e⟩ := List.getElem?_eq_some_iff.mp h
  have := List.dropLast_concat_getLast hl
  rw [List.getLast_eq_getElem, e] at this
  exact this.symm
/-- the last item of a list of ours is taken away -/
theorem pop_ok {B : Bs} {e e' : Env} {Γ : List Rt} {p : T} {xs : List D} {x : D} (w : Wd K B σ e Γ H) (hv : evP p e = some (.lst true xs)) (hx : xs[xs.length - 1]? = some x) (h : setP p popD e = some e') :
    ∃ q vs y, PlV K H σ e p (.ref q) ∧ H q = some (.lst vs) ∧ vs[vs.length - 1]? = some y ∧ Wd K B σ e' ((y, x) :: Γ) (upd H q (.lst vs.dropLast)) := by
  obtain ⟨i, d, d', hr, hd, he, L⟩ := setP_ok (K := K) (H := H) (σ := σ) h
  obtain ⟨v, hvv, w0⟩ := w.read hd
  obtain ⟨Ft, St, r0, o⟩ := w0
  cases r0 with
  | @cons _ _ _ _ F S Fr Sr rd rr =>
    obtain ⟨u, du, du', Fa, F1, Fb, Sa, S1, Sb, eF, eS, ru, pl, hev, hfu, put⟩ := L v F S (fun j hj => by rw [hr] at hj; cases hj; exact hvv) rd
    rw [hv] at hev
    cases hev
    subst eF eS
    cases ru with
    | @own q vs _ F2 _ e0 rs =>
      have hfu' : du' = .lst true xs.dropLast := by
        simp only [popD] at hfu
        split at hfu
        · cases hfu; rfl
        · cases hfu
      subst hfu'
      have hlen := rs.len
      have hlt : xs.length - 1 < xs.length := (List.getElem?_eq_some_iff.mp hx).1
      obtain ⟨y, hy⟩ : ∃ y, vs[vs.length - 1]? = some y := ⟨_, List.getElem?_eq_getElem (by omega)⟩
      have ev := last_app hy
      have ex := last_app hx
      have rs' : Reps K H (vs.dropLast ++ [y]) (xs.dropLast ++ [x]) F2 S1 := by rw [← ev, ← ex]; exact rs
      obtain ⟨Fp, Sp, Fy, Sy, rp, ry, eF2, eS1⟩ := rs'.unapp (by rw [List.length_dropLast, List.length_dropLast, hlen])
      subst eF2 eS1
      have hk : Kept H (upd H q (.lst vs.dropLast)) [q] := fun b c hb hn => by rw [upd_ne (by simpa using hn)]; exact hb
      have hm : ∀ b ∈ [q], IsLst H b := fun b hb => by
        have : b = q := by simpa using hb
        rw [this]; exact ⟨_, e0, rfl⟩
      have nd := o.nd
      rw [List.nodup_iff_count] at nd
      have qF : q ∈ (Fa ++ (q :: (Fp ++ Fy) ++ Fb)) ++ Fr := by simp
      have nq := nd q
      simp only [List.count_append, List.count_cons_self] at nq
      have out : ∀ {l : List Addr}, List.count q l = 0 → ∀ a ∈ l, a ∉ [q] := fun {l} hc a ha hn => by
        have : a = q := by simpa using hn
        subst this
        exact absurd ha (List.count_eq_zero.mp hc)
      have outS : ∀ {l : List Addr}, (∀ a ∈ l, a ∈ (Sa ++ ((Sp ++ Sy) ++ Sb)) ++ Sr) → ∀ a ∈ l, a ∉ [q] := fun {l} hc a ha hn => by
        have : a = q := by simpa using hn
        subst this
        exact o.dj a qF (hc a ha)
      have ry' := Reps.kept hk hm ry (out (by omega)) (outS fun a ha => by simp [ha])
      have rr' := Reps.kept hk hm rr (out (by omega)) (outS fun a ha => by simp [ha])
      have rp' := Reps.kept hk hm rp (out (by omega)) (outS fun a ha => by simp [ha])
      have rd' := put _ [q] _ _ hk hm (out (by rw [List.count_append]; omega)) (outS fun a ha => by rcases List.mem_append.mp ha with y | y <;> simp [y]) (.own upd_same rp')
      have z : vs.dropLast.length ≤ sizeLine := by
        have := o.sz q vs (.inl (.inl e0))
        rw [List.length_dropLast]; omega
      refine ⟨q, vs, y, pl, e0, hy, ?_⟩
      cases ry' with
      | @cons _ _ _ _ F3 S3 F4 S4 r3 r4 =>
        cases r4
        simp only [List.append_nil] at *
        have wn : W K B (upd H q (.lst vs.dropLast)) ((v, d') :: (y, x) :: (Γ ++ er σ (e.set i none))) := by
          refine ⟨_, _, .cons rd' (.cons r3 rr'), ?_⟩
          have sub : ∀ a, List.count a ((Fa ++ (q :: Fp ++ Fb)) ++ (F3 ++ Fr)) ≤ List.count a ((Fa ++ (q :: (Fp ++ F3) ++ Fb)) ++ Fr) := fun a => by
            simp only [List.count_append, List.count_cons]; omega
          have mem : ∀ a, a ∈ ((Fa ++ (q :: Fp ++ Fb)) ++ (F3 ++ Fr)) → a ∈ ((Fa ++ (q :: (Fp ++ F3) ++ Fb)) ++ Fr) := fun a ha => by
            have h1 := List.count_pos_iff.mpr ha
            exact List.count_pos_iff.mp (Nat.lt_of_lt_of_le h1 (sub a))
          have memS : ∀ a, a ∈ ((Sa ++ (Sp ++ Sb)) ++ (S3 ++ Sr)) → a ∈ ((Sa ++ ((Sp ++ S3) ++ Sb)) ++ Sr) := fun a ha => by
            simp only [List.mem_append] at ha ⊢
            rcases ha with (z | z | z) | z | z <;> simp [z]
          refine ⟨List.nodup_iff_count.mpr fun a => Nat.le_trans (sub a) (nd a), fun a ha hs => o.dj a (mem a ha) (memS a hs), fun a ha => o.fF a (mem a ha), fun a ha => o.fS a (memS a ha), fun b c hb hn => ?_, o.sz.lst z⟩
          refine hk b c (o.kp b c hb hn) fun z => ?_
          have : b = q := by simpa using z
          subst this
          rcases o.fF b qF with y1 | y1
          · exact hn y1
          · rw [hb] at y1; cases y1
        have wd : Wd K B σ (e.set i none) ((v, d') :: (y, x) :: Γ) (upd H q (.lst vs.dropLast)) := ⟨w.fit.none i, w.pr, wn⟩
        have z := wd.put2 (i := i) hvv
        rw [List.set_set] at z
        rw [he]
        exact z
end
end Sr
set_option Elab.async false
set_option linter.all false
set_option maxRecDepth 100000
set_option maxHeartbeats 2000000
/-! # Sr: instances -/
namespace Sr
open PySem PySem.Spec PyProof.Rows L2
section
variable {Φ : Fs} {k : Nat} {n : Nm}
theorem SE_fld (c i : Nat) (f : Str) : SE Φ k n (.fld c i f) := by
  intro X sc e O h
  refine (evP_ok O (t := .fld c i f) rfl h).imp ?_
  rintro σ H Q ⟨B, env, Γ, d, e', w, hd, q⟩
  rw [evE] at hd
  split at hd
  · rename_i d0 h0
    split at hd
    · rename_i u
      obtain ⟨rfl, rfl⟩ := inj2 hd
      exact ⟨B, env, Γ, d0, w, h0, fun v bv => q v H ⟨w.fit, w.pr, bv.un u⟩⟩
    · cases hd
  · cases hd
/-- the field of an instance, the instance itself is given up -/
theorem Wd.takeF {K : PySem.W.Frag} {B : Bs} {σ : L2.St} {e : Env} {Γ : List Rt} {H : Hp} {i c : Nat} {f : Str} {d x : D} (w : Wd K B σ e Γ H) (hd : e.at i = some d) (hx : fldD c f d = some x) : ∃ a C dx fs u, σ[i]? = some (some (.ref a)) ∧ H a = some (.ins C dx fs) ∧ PySem.W.nsIn K mainGlobals (cnm c) = some (some (.ref C)) ∧ fs.lookup f = some u ∧ Wd K B σ (e.set i none) ((u, x) :: Γ) H := by
  obtain ⟨v, hv, _⟩ := w.read hd
  have m := w.move hd hv
  obtain ⟨F, S, r⟩ := m.head
  obtain ⟨a, C, dx, fs, u, F2, S2, h1, h2, h3, h4, r2, _⟩ := r.fld hx
  subst h1
  refine ⟨a, C, dx, fs, u, hv, h2, h3, h4, m.fit, m.pr, m.w.headW fun F' S' r' nd => ?_⟩
  obtain ⟨a', C', dx', fs', u', F3, S3, h1', h2', h3', h4', r3, f3, s3, n3⟩ := r'.fld hx
  cases h1'
  rw [h2] at h2'
  cases h2'
  rw [h4] at h4'
  cases h4'
  exact ⟨F3, S3, r3, f3, n3 nd, fun b z => .inl (s3 b z)⟩
theorem SE_fldv (c i : Nat) (f : Str) : SE Φ k n (.fldv c i f) := by
  intro X sc e O h
  have h' : chkE n sc (.fld c i f) e = true := by
    cases e <;> try (simp [chkE] at h; done)
    rename_i o g pos
    cases o <;> try (simp [chkE] at h; done)
    exact h
  obtain ⟨x, xp, pos, rfl, hf, hk, hn⟩ := chk_fld h'
  obtain ⟨C0, hC, hcls, hno⟩ := O.kc c hk
  refine (pe_fld (O.name hn) rfl).imp ?_
  rintro σ H Q ⟨B, env, Γ, d, e', w, hd, q⟩
  rw [evE] at hd
  split at hd
  · rename_i d0 h0
    split at hd
    · rename_i x0 hx
      obtain ⟨rfl, rfl⟩ := inj2 hd
      obtain ⟨a, C, dx, fs, u, h1, h2, h3, h4, w'⟩ := w.takeF h0 hx
      rw [hC] at h3
      cases h3
      exact ⟨_, h1, a, C0, dx, fs, u, rfl, h2, hcls.cl, hno f hf, h4, q u H w'⟩
    · cases hd
  · cases hd
theorem SE_pop (p : T) : SE Φ k n (.pop p) := by
  intro X sc e O h
  cases e <;> try (simp [chkE] at h; done)
  rename_i g es kw pos
  cases g <;> try (simp [chkE] at h; done)
  cases kw <;> try (simp [chkE] at h; done)
  cases es <;> try (simp [chkE] at h; done)
  rename_i o m apos
  simp only [chkE, Bool.and_eq_true, decide_eq_true_eq] at h
  obtain ⟨⟨⟨h1, h2⟩, h3⟩, h4⟩ := h
  subst h1
  have hbase : attributeBase o "pop" X.env (eval o X.env) = eval o X.env := by
    cases p <;> try (simp [isPl] at h3; done)
    · cases o <;> first | rfl | (simp [chkE] at h4; done)
    · cases o <;> first | rfl | (simp [chkE] at h4; done)
    · cases o <;> first | rfl | (simp [chkE] at h4; done)
  have pe := pe_bm0 (cpos := pos) (apos := apos) (name := "pop") PySem.F.plainAttrs_list PySem.F.slot_list_pop PySem.F.type_list_pop (mt_pop (X := X)) (pl_ok O h3 h4) hbase h2
  refine pe.imp ?_
  rintro σ H Q ⟨B, env, Γ, d, e', w, hd, q⟩
  rw [evE, if_pos h3] at hd
  split at hd
  · rename_i xs hv
    split at hd
    · rename_i x hx
      split at hd
      · rename_i e2 he
        obtain ⟨rfl, rfl⟩ := inj2 hd
        obtain ⟨qa, vs, y, g1, g2, g3, g4⟩ := pop_ok w hv hx he
        exact ⟨B, env, Γ, w, _, g1, .inl ⟨rfl, _, SqL.of g2⟩, qa, vs, y, rfl, rfl, g2, g3, q _ _ g4⟩
      · cases hd
    · cases hd
  · cases hd
theorem callF_ok {K : PySem.W.Frag} {B : Bs} {σ : L2.St} {H : Hp} {f : Nat} {as : List Ag} {vs : List V} {e e' : Env} {Γ : List Rt} {d : D} {Q : VK} {E : XK} (hl : vs.length = (Φ.io f).length) (w : Wd K B σ e (agO as vs ++ (agR as vs ++ Γ)) H) (s : AgS σ as vs) (hd : callF Φ f as e = some (d, e'))
    (q : ∀ v H', Wd K B σ e' ((v, d) :: Γ) H' → Q v H') : spOf K Φ f vs H Q E := by
  unfold callF at hd
  split at hd
  · rename_i e2 h2
    split at hd
    · rename_i ds h3
      split at hd
      · rename_i r os h4
        split at hd
        · rename_i e3 h5
          obtain ⟨rfl, rfl⟩ := inj2 hd
          have w2 := take_io w s h2
          by_cases c : (r.ns && nsO os) = true
          · rw [if_pos c] at h5
            simp only [Bool.and_eq_true] at c
            exact call_at False hl w2 s (fun z => z.elim) (fun _ => c) h3 h4 h5 q
          · rw [if_neg c] at h5
            exact call_at True hl (freeze (as := as) w2) s (fun _ i hi d hd => fz_un hi d hd) (fun z => (z trivial).elim) (by rw [agD_fz]; exact h3) h4 h5 q
        · cases hd
      · cases hd
    · cases hd
  · cases hd
theorem zip_none {f : Str} : ∀ {ns : List Str} {vs : List V}, f ∉ ns → (ns.zip vs).lookup f = none
  | [], _, _ => rfl
  | _ :: _, [], _ => rfl
  | g :: ns, v :: vs, h => by
    rw [List.zip_cons_cons]
    have q : (f == g) = false := by
      rw [beq_eq_false_iff_ne]
      intro e
      exact h (e ▸ List.mem_cons_self)
    simp only [List.lookup, q]
    exact zip_none fun z => h (List.mem_cons_of_mem _ z)
theorem any_all {α : Type} {l : List (Bool × α)} (h : l.any (·.1) = false) : l.all (fun x => !x.1) = true := by
  rw [List.all_eq_true]
  rw [List.any_eq_false] at h
  intro x hx
  simpa using h x hx
theorem meth_ht {x m : Str} {xp apos pos : Pos} {es : List Expr} {env : PySem.Env} (hline : (apos.endLine == pos.line) = true) (hst : (backTo pos (starEach es env)).any (·.1) = false) (hl : es.length < 30) :
    eval (.Call (.Attribute (.Name x xp) m apos) es [] pos) env = (do
      let ov ← eval (.Name x xp) env
      standAt apos.atName
      let (f, first) ← holding [ov] (getMethod ov m (do return (← importBound (.Name x xp) env).getD true))
      callWith pos f first (backTo pos (starEach es env)) (backToKw pos (keywordEach [] env))) := by
  have hb : attributeBase (.Name x xp) m env (eval (.Name x xp) env) = eval (.Name x xp) env := rfl
  have hform : methodCallForm (es.length + ([] : List Keyword).length) (backTo pos (starEach es env)) (backToKw pos (keywordEach [] env)) = true := by
    unfold methodCallForm
    simp only [Bool.and_eq_true, decide_eq_true_eq]
    refine ⟨⟨any_all hst, rfl⟩, ?_⟩
    show es.length + 0 + 0 < 30
    omega
  have hpos : methodCallPos true (.Name x xp) env apos pos = pure pos := by unfold methodCallPos; simp [hline]
  rw [arm_eval_Call, hb]
  unfold methodCall
  rw [hform, hpos]
  rfl
theorem SE_mcl {c f i : Nat} {a : T} (sg : SG Φ k n a) : SE Φ k n (.mcl c f i a) := by
  intro X sc e O h
  cases e <;> try (simp [chkE] at h; done)
  rename_i g es kw pos
  cases g <;> try (simp [chkE] at h; done)
  cases kw <;> try (simp [chkE] at h; done)
  rename_i o m apos
  cases o <;> try (simp [chkE] at h; done)
  rename_i x xp
  simp only [chkE, Bool.and_eq_true, decide_eq_true_eq] at h
  obtain ⟨⟨⟨⟨⟨hm, hline⟩, hlt⟩, hf⟩, hn⟩, ha⟩ := h
  subst hm
  obtain ⟨hk, hno, A, fd, ps, C, hC, M, hb, F⟩ := O.mf f c hf
  obtain ⟨C0, hC0, hcls, _⟩ := O.kc c hk
  rw [hC] at hC0
  cases hC0
  have hht := meth_ht (x := x) (m := n.fn f) (xp := xp) (env := X.env) hline (noStar (env := X.env) (pos := pos) ha) hlt
  have hcall : ∀ bs, PE X (.Call (.Attribute (.Name x xp) (n.fn f) apos) es [] pos) (tMeth C (n.fn f) (spOf X.K Φ f) [] E0 (tVar i) (tG X.K Φ a bs)) := by
    intro bs
    cases es with
    | nil =>
      have ha2 := sg (io := bs) O ha
      refine (pe_meth0 (E := E0) (O.name (pos := xp) hn) hcls.cl M F O.lv hb .nil pass0 (ht := hht)).imp ?_
      rintro σ H Q ⟨v, hv, h⟩
      refine ⟨v, hv, ?_⟩
      obtain ⟨a0, dx, fs, h1, h2, h3, B, e, Γ, as, e', w, hd, q⟩ := h
      refine ⟨a0, dx, fs, h1, h2, h3, ?_⟩
      cases a <;> try (simp [chkL] at ha; done)
      cases bs with
      | cons _ _ => simp [evG] at hd
      | nil =>
        rw [evG] at hd
        obtain ⟨rfl, rfl⟩ := inj2 hd
        exact q [] H trivial w
    | cons y ys =>
      have hst : (backTo pos (starEach ys X.env)).any (·.1) = false := by
        obtain ⟨x0, xs0, e0⟩ : ∃ x0 xs0, a = .cons x0 xs0 := by cases a <;> first | exact ⟨_, _, rfl⟩ | simp [chkL] at ha
        subst e0
        obtain ⟨_, _, ee, _, h2⟩ := chk_cons ha
        cases ee
        exact noStar h2
      have hpl : plE y = true := by
        obtain ⟨x0, xs0, e0⟩ : ∃ x0 xs0, a = .cons x0 xs0 := by cases a <;> first | exact ⟨_, _, rfl⟩ | simp [chkL] at ha
        subst e0
        obtain ⟨_, _, ee, h1, _⟩ := chk_cons ha
        cases ee
        exact chk_pl h1
      exact pe_meth (E := E0) (O.name (pos := xp) hn) hcls.cl M F O.lv hb .nil pass0 (sg O ha) (star_pl hpl) hst (ht := hht)
  cases hio : Φ.io f with
  | nil =>
    refine (hcall []).imp ?_
    rintro σ H Q ⟨B, env, Γ, d, e', w, hd, q⟩
    rw [evE] at hd
    split at hd
    · split at hd
      · rw [hio] at hd; cases hd
      · cases hd
    · cases hd
  | cons b bs =>
    refine (hcall bs).imp ?_
    rintro σ H Q ⟨B, env, Γ, d, e', w, hd, q⟩
    rw [evE] at hd
    split at hd
    · rename_i c' ns xs hi
      split at hd
      · rename_i hc
        obtain ⟨rfl, hok⟩ := hc
        rw [hio] at hd
        split at hd
        · rename_i bs' heq
          cases heq
          split at hd
          · rename_i as e1 h1
            obtain ⟨v, hv, wi⟩ := w.read hi
            obtain ⟨F0, S0, r0, _⟩ := wi
            cases r0 with
            | cons r1 _ =>
              cases r1 with
              | @celo a0 _ vs0 _ F1 _ ca rs =>
                obtain ⟨C1, dx, c1, c2, c3⟩ := ca
                rw [hC] at c1
                cases c1
                refine ⟨_, hv, a0, dx, _, rfl, c3, zip_none fun z => hno ?_, B, env, Γ, as, e1, w, h1, fun vs H1 s w1 => ?_⟩
                · unfold okNs at hok
                  exact List.contains_iff_mem.mp ((List.all_eq_true.mp hok) _ z)
                · show spOf X.K Φ f (_ :: (vs ++ [])) H1 Q E0
                  rw [List.append_nil]
                  refine callF_ok (as := .io i :: as) (vs := .ref a0 :: vs) ?_ w1 ⟨hv, s⟩ hd q
                  rw [hio, List.length_cons, List.length_cons, ← agS_len s, evG_len h1]
          · cases hd
        · cases hd
      · cases hd
    · cases hd
theorem rd_updN {H : Hp} {p a : Addr} {o u : HO} (h : Rd (upd H p o) a u) (h1 : o ≠ u) (h2 : ∀ ob, o ≠ .frz ob u) : Rd H a u := by
  rcases rd_upd h with ⟨_, e | ⟨_, e⟩⟩ | h
  · exact absurd e h1
  · exact absurd e (h2 _)
  · exact h
theorem SzOk.ins {H : Hp} {p C dx : Addr} {fs : List (Str × V)} (s : SzOk H) : SzOk (upd H p (.ins C dx fs)) := fun a xs h => by
  rcases h with h | h
  · exact s a xs (.inl (rd_updN h (by intro e; cases e) (by intro _ e; cases e)))
  · exact s a xs (.inr (rd_updN h (by intro e; cases e) (by intro _ e; cases e)))
theorem SzOk.ownA {H : Hp} {p x : Addr} (s : SzOk H) : SzOk (upd H p (.own x)) := fun a xs h => by
  rcases h with h | h
  · exact s a xs (.inl (rd_updN h (by intro e; cases e) (by intro _ e; cases e)))
  · exact s a xs (.inr (rd_updN h (by intro e; cases e) (by intro _ e; cases e)))
/-- a new instance without fields -/
theorem Wd.newI {K : PySem.W.Frag} {B : Bs} {σ : L2.St} {e : Env} {Γ : List Rt} {H : Hp} {x dx C : Addr} {c : Nat} (w : Wd K B σ e Γ H) (hx : H x = none) (hdx : H dx = none) (hne : dx ≠ x) (hC : PySem.W.nsIn K mainGlobals (cnm c) = some (some (.ref C))) (hT : InsTy K C) :
    Wd K B σ e ((.ref x, .cel true (.ins c []) []) :: Γ) (upd (upd H dx (.own x)) x (.ins C dx [])) := by
  obtain ⟨F, S, r, o⟩ := w.w
  have k1 : Same H (upd H dx (.own x)) := Same.new hdx
  have hx1 : upd H dx (.own x) x = none := by rw [upd_ne (Ne.symm hne)]; exact hx
  have k2 : Same H (upd (upd H dx (.own x)) x (.ins C dx [])) := fun b u e => Same.new hx1 b u (k1 b u e)
  have r2 : Rs K (upd (upd H dx (.own x)) x (.ins C dx [])) (Γ ++ er σ e) F S := Reps.same k2 r
  have r3 : Rep K (upd (upd H dx (.own x)) x (.ins C dx [])) (.ref x) (.cel true (.ins c []) []) [x] [] := .celo (k := .ins c []) ⟨C, dx, hC, ⟨hT, rfl⟩, upd_same⟩ .nil
  refine ⟨w.fit, w.pr, x :: F, S, Reps.cons r3 r2, ?_⟩
  refine ⟨List.nodup_cons.mpr ⟨o.fresh hx r.lstF, o.nd⟩, fun a ha hs => ?_, fun a ha => ?_, o.fS, fun b u e n => k2 b u (o.kp b u e n), (o.sz.ownA).ins⟩
  · rcases List.mem_cons.mp ha with rfl | ha
    · exact r.thereS _ hs hx
    · exact o.dj a ha hs
  · rcases List.mem_cons.mp ha with rfl | ha
    · exact (o.old hx).symm
    · exact o.fF a ha
theorem SE_mk {c f : Nat} {a : T} (sg : SG Φ k n a) : SE Φ k n (.mk c f a) := by
  intro X sc e O h
  cases e <;> try (simp [chkE] at h; done)
  rename_i g es kw pos
  cases g <;> try (simp [chkE] at h; done)
  cases kw <;> try (simp [chkE] at h; done)
  rename_i x xp
  simp only [chkE, Bool.and_eq_true, decide_eq_true_eq, Bool.not_eq_true'] at h
  obtain ⟨⟨⟨⟨hx, hf⟩, hg⟩, hdb⟩, ha⟩ := h
  subst hx
  obtain ⟨hk, A, fd, ps, C, hC, hm, M, hb, F⟩ := O.kf c f hf
  obtain ⟨C0, hC0, hT, _⟩ := O.kc c hk
  rw [hC] at hC0
  cases hC0
  have hcall : ∀ bs, PE X (.Call (.Name (cnm c) xp) es [] pos) (tMake C (spOf X.K Φ f) [] E0 (tG X.K Φ a bs)) := by
    intro bs
    cases es with
    | nil =>
      have ha2 := sg (io := bs) O ha
      refine (pe_make0 (E := E0) M F O.lv1 (O.gl hg) hm hb .nil pass0 hdb).imp ?_
      rintro σ H Q ⟨B, e, Γ, as, e', w, hd, q⟩
      cases a <;> try (simp [chkL] at ha; done)
      cases bs with
      | cons _ _ => simp [evG] at hd
      | nil =>
        rw [evG] at hd
        obtain ⟨rfl, rfl⟩ := inj2 hd
        exact q [] H trivial w
    | cons y ys =>
      have hst : (backTo pos (starEach ys X.env)).any (·.1) = false := by
        obtain ⟨x0, xs0, e0⟩ : ∃ x0 xs0, a = .cons x0 xs0 := by cases a <;> first | exact ⟨_, _, rfl⟩ | simp [chkL] at ha
        subst e0
        obtain ⟨_, _, ee, _, h2⟩ := chk_cons ha
        cases ee
        exact noStar h2
      have hpl : plE y = true := by
        obtain ⟨x0, xs0, e0⟩ : ∃ x0 xs0, a = .cons x0 xs0 := by cases a <;> first | exact ⟨_, _, rfl⟩ | simp [chkL] at ha
        subst e0
        obtain ⟨_, _, ee, h1, _⟩ := chk_cons ha
        cases ee
        exact chk_pl h1
      exact pe_make (E := E0) M F O.lv1 (O.gl hg) hm hb .nil pass0 (sg O ha) hdb (star_pl hpl) hst
  cases hio : Φ.io f with
  | nil =>
    refine (hcall []).imp ?_
    rintro σ H Q ⟨B, env, Γ, d, e', w, hd, q⟩
    rw [evE, hio] at hd
    cases hd
  | cons b bs =>
    refine (hcall bs).imp ?_
    rintro σ H Q ⟨B, env, Γ, d, e', w, hd, q⟩
    rw [evE, hio] at hd
    split at hd
    · rename_i bs' heq
      cases heq
      split at hd
      · rename_i as e1 h1
        refine ⟨B, env, Γ, as, e1, w, h1, fun vs H1 s w1 => ?_⟩
        intro x0 dx nx ndx ne
        show spOf X.K Φ f (_ :: (vs ++ [])) _ _ E0
        rw [List.append_nil]
        have wN := w1.newI (c := c) nx ndx ne hC hT
        have wN' : Wd X.K B σ e1 (agO (.own (.cel true (.ins c []) []) :: as) (.ref x0 :: vs) ++ (agR (.own (.cel true (.ins c []) []) :: as) (.ref x0 :: vs) ++ Γ)) (upd (upd H1 dx (.own x0)) x0 (.ins C dx [])) := wN
        have s' : AgS σ (.own (.cel true (.ins c []) []) :: as) (.ref x0 :: vs) := s
        have hl : (V.ref x0 :: vs).length = (Φ.io f).length := by rw [hio, List.length_cons, List.length_cons, ← agS_len s, evG_len h1]
        unfold makeF at hd
        split at hd
        · rename_i e2 h2
          split at hd
          · rename_i ds h3
            split at hd
            · rename_i d0 os h4
              split at hd
              · rename_i e3 h5
                obtain ⟨rfl, rfl⟩ := inj2 hd
                have w2 := take_io wN' s' h2
                have h3' : agD e1 e2 (.own (.cel true (.ins c []) []) :: as) = some (.cel true (.ins c []) [] :: ds) := by rw [agD, h3]
                have fin : ∀ {e4 : Env}, agBack as os e4 = some e3 → ∀ v H', Wd X.K B σ e4 (er ((V.ref x0 :: vs).map some) (some d0 :: os) ++ ((v, .non) :: Γ)) H' → v = .non ∧ Q (.ref x0) H' := by
                  intro e4 hb4 v H' w4
                  have w5 : Wd X.K B σ e4 ((.ref x0, d0) :: (er (vs.map some) os ++ ((v, .non) :: Γ))) H' := w4
                  have w6 : Wd X.K B σ e4 (er (vs.map some) os ++ ((v, .non) :: (.ref x0, d0) :: Γ)) H' := w5.front (by
                    refine (List.perm_middle.symm).trans ?_
                    exact (List.Perm.swap _ _ _).append_left _)
                  have w7 := come_back w6 s hb4
                  obtain ⟨F, S, r⟩ := w7.head
                  refine ⟨by cases r; rfl, q _ _ w7.drop⟩
                by_cases cc : (d0.ns && nsO os) = true
                · rw [if_pos cc] at h5
                  have cc2 : D.non.ns = true ∧ nsO (some d0 :: os) = true := ⟨rfl, cc⟩
                  exact call_at' False hl w2 s' (fun z => z.elim) (fun _ => cc2) h3' h4 (fin h5)
                · rw [if_neg cc] at h5
                  exact call_at' True hl (freeze (as := .own (.cel true (.ins c []) []) :: as) w2) s' (fun _ i hi d hd => fz_un hi d hd) (fun z => (z trivial).elim) (by rw [agD_fz]; exact h3') h4 (fin h5)
              · cases hd
            · cases hd
          · cases hd
        · cases hd
      · cases hd
    · cases hd
theorem putF_zip : ∀ {ns : List Str} {vs : List V} {f : Str} {y : V}, ns.length = vs.length → putF f y (ns.zip vs) = (match posS f ns with
    | some j => ns.zip (vs.set j y)
    | none => (ns ++ [f]).zip (vs ++ [y]))
  | [], [], f, y, _ => rfl
  | [], _ :: _, f, y, h => by simp at h
  | _ :: _, [], f, y, h => by simp at h
  | g :: ns, v :: vs, f, y, h => by
    have ih := putF_zip (ns := ns) (vs := vs) (f := f) (y := y) (by simpa using h)
    rw [List.zip_cons_cons, putF, posS]
    by_cases e : g = f
    · rw [if_pos e, if_pos e]; rfl
    · rw [if_neg e, if_neg e, ih]
      cases posS f ns <;> rfl
theorem posS_lt : ∀ {ns : List Str} {f : Str} {j : Nat}, posS f ns = some j → j < ns.length
  | [], f, j, h => by cases h
  | g :: ns, f, j, h => by
    rw [posS] at h
    split at h
    · cases h; simp
    · cases hp : posS f ns with
      | none => rw [hp] at h; cases h
      | some j' =>
        rw [hp] at h
        cases h
        have := posS_lt hp
        simp only [List.length_cons]
        show j' + 1 < _
        omega
/-- a field is set -/
theorem putFld_ok {K : PySem.W.Frag} {B : Bs} {σ : L2.St} {e : Env} {Γ : List Rt} {H : Hp} {i c : Nat} {f : Str} {d d' x : D} {xv : V} (w : Wd K B σ e ((xv, x) :: Γ) H) (hd : e.at i = some d) (hp : putFld c f x d = some d') :
    ∃ a C dx fs, σ[i]? = some (some (.ref a)) ∧ PySem.W.nsIn K mainGlobals (cnm c) = some (some (.ref C)) ∧ H a = some (.ins C dx fs) ∧ fs.length < 1000 ∧ Wd K B σ (e.set i (some d')) Γ (upd H a (.ins C dx (putF f xv fs))) := by
  obtain ⟨v, hv, w0⟩ := w.read hd
  unfold putFld at hp
  split at hp
  · rename_i c' ns xs
    split at hp
    · rename_i hc
      obtain ⟨rfl, h900, hlen⟩ := hc
      obtain ⟨Ft, St, r0, o⟩ := w0
      cases r0 with
      | @cons _ _ _ _ F1 S1 FR SR rd r1 =>
        cases r1 with
        | @cons _ _ _ _ Fx Sx Fr Sr rx rr =>
          cases rd with
          | @celo q _ vs _ F _ ca rs =>
            obtain ⟨C, dx, h1, h2, h3⟩ := ca
            let H2 : Hp := upd H q (.ins C dx (putF f xv (ns.zip vs)))
            have hk : Kept H H2 [q] := fun b c hb hn => by
              show upd H q _ b = _
              rw [upd_ne (by simpa using hn)]; exact hb
            have hm : ∀ b ∈ [q], IsLst H b := fun b hb => by
              have : b = q := by simpa using hb
              rw [this]; exact ⟨_, h3, rfl⟩
            have nd := o.nd
            have qF : q ∈ (q :: F) ++ (Fx ++ Fr) := by simp
            have nd2 : (q :: (F ++ (Fx ++ Fr))).Nodup := nd
            obtain ⟨nq, nd3⟩ := List.nodup_cons.mp nd2
            have out : ∀ {l : List Addr}, (∀ a ∈ l, a ∈ F ++ (Fx ++ Fr)) → ∀ a ∈ l, a ∉ [q] := fun {l} hc a ha hn => by
              have : a = q := by simpa using hn
              subst this
              exact nq (hc _ ha)
            have outS : ∀ {l : List Addr}, (∀ a ∈ l, a ∈ S1 ++ (Sx ++ Sr)) → ∀ a ∈ l, a ∉ [q] := fun {l} hc a ha hn => by
              have : a = q := by simpa using hn
              subst this
              exact o.dj a qF (hc a ha)
            have rx' := rx.kept hk hm (out fun a ha => by simp [ha]) (outS fun a ha => by simp [ha])
            have rr' := Reps.kept hk hm rr (out fun a ha => by simp [ha]) (outS fun a ha => by simp [ha])
            have key : ∃ F' S', Rep K H2 (.ref q) d' (q :: F') S' ∧ (∀ a, List.count a F' ≤ List.count a (F ++ Fx)) ∧ ∀ a ∈ S', a ∈ S1 ++ Sx := by
              split at hp
              · rename_i j hj
                cases hp
                have hlt : j < xs.length := hlen ▸ posS_lt hj
                obtain ⟨w0, Fa, F3, Fb, Sa, S3, Sb, hw, r3, eF, eS, put⟩ := rs.split (List.getElem?_eq_getElem hlt)
                have z := put H2 [q] xv x Fx Sx hk hm (out fun a ha => by rw [eF]; simp at ha ⊢; rcases ha with z | z <;> simp [z]) (outS fun a ha => by rw [eS]; simp at ha ⊢; rcases ha with z | z <;> simp [z]) rx'
                refine ⟨_, _, .celo (k := .ins c ns) (vs := vs.set j xv) ⟨C, dx, h1, ⟨h2.1, by rw [List.length_set]; exact h2.2⟩, ?_⟩ z, fun a => ?_, fun a ha => ?_⟩
                · show upd H q _ q = _
                  rw [upd_same, putF_zip h2.2, hj]
                · rw [eF]; simp only [List.count_append]; omega
                · rw [eS]; simp at ha ⊢; rcases ha with z | z | z <;> simp [z]
              · rename_i hj
                cases hp
                have rs' := Reps.kept hk hm rs (out fun a ha => by simp [ha]) (outS fun a ha => by simp [ha])
                have z := rs'.app (Reps.cons rx' .nil)
                refine ⟨_, _, .celo (k := .ins c (ns ++ [f])) (vs := vs ++ [xv]) ⟨C, dx, h1, ⟨h2.1, by simp [h2.2]⟩, ?_⟩ z, fun a => by simp, fun a ha => by simpa using ha⟩
                show upd H q _ q = _
                rw [upd_same, putF_zip h2.2, hj]
            obtain ⟨F', S', rd', hF', hS'⟩ := key
            refine ⟨q, C, dx, _, hv, h1, h3, ?_, ?_⟩
            · rw [List.length_zip]; omega
            · have wn : W K B H2 ((.ref q, d') :: (Γ ++ er σ (e.set i none))) := by
                refine ⟨_, _, .cons rd' rr', ?_⟩
                rw [List.nodup_iff_count] at nd
                have sub : ∀ a, List.count a ((q :: F') ++ Fr) ≤ List.count a ((q :: F) ++ (Fx ++ Fr)) := fun a => by
                  have := hF' a
                  simp only [List.count_append, List.count_cons] at this ⊢; omega
                have mem : ∀ a, a ∈ ((q :: F') ++ Fr) → a ∈ ((q :: F) ++ (Fx ++ Fr)) := fun a ha => by
                  have h1 := List.count_pos_iff.mpr ha
                  exact List.count_pos_iff.mp (Nat.lt_of_lt_of_le h1 (sub a))
                have memS : ∀ a, a ∈ S' ++ Sr → a ∈ S1 ++ (Sx ++ Sr) := fun a ha => by
                  rcases List.mem_append.mp ha with z | z
                  · rcases List.mem_append.mp (hS' a z) with y | y <;> simp [y]
                  · simp [z]
                refine ⟨List.nodup_iff_count.mpr fun a => Nat.le_trans (sub a) (nd a), fun a ha hs => o.dj a (mem a ha) (memS a hs), fun a ha => o.fF a (mem a ha), fun a ha => o.fS a (memS a ha), fun b c hb hn => ?_, o.sz.ins⟩
                refine hk b c (o.kp b c hb hn) fun z => ?_
                have : b = q := by simpa using z
                subst this
                rcases o.fF b qF with y1 | y1
                · exact hn y1
                · rw [hb] at y1; cases y1
              have wd : Wd K B σ (e.set i none) ((.ref q, d') :: Γ) H2 := ⟨w.fit.none i, w.pr, wn⟩
              have z := wd.put2 (i := i) hv
              rw [List.set_set] at z
              exact z
    · cases hp
  · cases hp
end
end Sr
set_option Elab.async false
set_option linter.all false
set_option maxRecDepth 100000
set_option maxHeartbeats 2000000
/-! # Sr: is True; dicts; a field that is given up -/
namespace Sr
open PySem PySem.Spec PyProof.Rows L2
section
variable {Φ : Fs} {k : Nat} {n : Nm}
/-! ### is True -/
theorem op_isB {X : Cx} {g : Bool} {p : CmpOp} (hp : isOp g p = true) : OpR X (compareOp p) (fun x y H Q => ∃ c b, x = .bl c ∧ y = .bl b ∧ Q (.bl ((c == b) != g)) H) := by
  intro pins s σ H x y v u Q I rx ry h
  obtain ⟨c, b, rfl, rfl, q⟩ := h
  cases rx
  cases ry
  cases g <;> cases p <;> (try (cases hp; done))
  · exact wpAny_is_plain rfl (fin_bl I q (by cases c <;> cases b <;> rfl))
  · exact wpAny_isNot_plain rfl (fin_bl I q (by cases c <;> cases b <;> rfl))
theorem chk_isT {g b : Bool} {a : T} {sc : Scope} {e : Expr} (h : chkE n sc (.isT g b a) e = true) : ∃ x p j pp pos, e = .Compare x [p] [.Constant (.bool b) j pp] pos ∧ isOp g p = true ∧ chkE n sc a x = true := by
  cases e <;> try (simp [chkE] at h; done)
  rename_i l ops cs _
  rcases ops with _ | ⟨op, _ | ⟨op2, r⟩⟩
  · simp [chkE] at h
  · rcases cs with _ | ⟨c, _ | ⟨c2, r2⟩⟩
    · simp [chkE] at h
    · cases c <;> try (simp [chkE] at h; done)
      rename_i cc _ _
      cases cc <;> try (simp [chkE] at h; done)
      simp only [chkE, Bool.and_eq_true, beq_iff_eq] at h
      obtain ⟨⟨h1, rfl⟩, h3⟩ := h
      exact ⟨_, _, _, _, _, rfl, h1, h3⟩
    · cases c <;> simp [chkE] at h
  · simp [chkE] at h
theorem isT_imp {K : PySem.W.Frag} {g b : Bool} {a : T} {σ : L2.St} {H : Hp} {Q : VK} (h : tD K Φ (.isT g b a) σ H Q) : tOp (fun x y H Q => ∃ c b, x = .bl c ∧ y = .bl b ∧ Q (.bl ((c == b) != g)) H) (tD K Φ a) (fun σ H Q => Q (.bl b) H) σ H Q := by
  obtain ⟨B, env, Γ, d, e', w, hd, q⟩ := h
  rw [evE] at hd
  split at hd
  · rename_i c e1 h1
    obtain ⟨rfl, rfl⟩ := inj2 hd
    refine ⟨B, env, Γ, _, e1, w, h1, fun v H1 w1 => ?_⟩
    have ev := w1.headBl
    subst ev
    exact ⟨c, b, rfl, rfl, q _ H1 (w1.drop.bl _)⟩
  · cases hd
theorem SE_isT {g b : Bool} {a : T} (s : SE Φ k n a) : SE Φ k n (.isT g b a) := by
  intro X sc e O h
  obtain ⟨x, p, j, pp, pos, rfl, hp, h⟩ := chk_isT h
  exact (pe_cmpR (op_isB hp) (s O h) pe_bl (by cases p <;> first | rfl | (cases g <;> cases hp))).imp fun σ H Q q => isT_imp q
theorem ST_isT {g b : Bool} {a : T} (s : SE Φ k n a) : ST Φ k n (.isT g b a) := by
  intro X sc e O h
  obtain ⟨x, p, j, pp, pos, rfl, hp, h⟩ := chk_isT h
  exact (pt_cmpR (op_isB hp) (s O h) pe_bl (by cases p <;> first | rfl | (cases g <;> cases hp))).imp fun σ H Q q => isT_imp (tT_of σ H Q q)
/-! ### a field that is given up -/
theorem shr_fld {K : PySem.W.Frag} {B : Bs} {σ : L2.St} {e : Env} {Γ : List Rt} {H : Hp} {i c : Nat} {f : Str} {d x : D} (w : Wd K B σ e Γ H) (hd : e.at i = some d) (hx : fldD c f d.shr = some x) : ∃ a C dx fs u, σ[i]? = some (some (.ref a)) ∧ H a = some (.ins C dx fs) ∧ PySem.W.nsIn K mainGlobals (cnm c) = some (some (.ref C)) ∧ fs.lookup f = some u ∧ Wd K B σ (e.set i (some d.shr)) ((u, x) :: Γ) H := by
  obtain ⟨v, hv, _⟩ := w.read hd
  have m := (w.move hd hv).shr
  have m2 := m.put2 (i := i) hv
  rw [List.set_set] at m2
  have hd2 : Env.at (e.set i (some d.shr)) i = some d.shr := by rw [at_set, if_pos ⟨rfl, at_lt hd⟩]
  have m3 := m2.copy hd2 hv (shr_un d)
  obtain ⟨F, S, r⟩ := m3.head
  obtain ⟨a, C, dx, fs, u, F2, S2, h1, h2, h3, h4, r2, _⟩ := r.fld hx
  subst h1
  refine ⟨a, C, dx, fs, u, hv, h2, h3, h4, m3.fit, m3.pr, m3.w.headW fun F' S' r' nd => ?_⟩
  obtain ⟨a', C', dx', fs', u', F3, S3, h1', h2', h3', h4', r3, f3, s3, n3⟩ := r'.fld hx
  cases h1'
  rw [h2] at h2'
  cases h2'
  rw [h4] at h4'
  cases h4'
  exact ⟨F3, S3, r3, f3, n3 nd, fun b z => .inl (s3 b z)⟩
theorem SE_fldw (c i : Nat) (f : Str) : SE Φ k n (.fldw c i f) := by
  intro X sc e O h
  have h' : chkE n sc (.fld c i f) e = true := by
    cases e <;> try (simp [chkE] at h; done)
    rename_i o g pos
    cases o <;> try (simp [chkE] at h; done)
    exact h
  obtain ⟨x, xp, pos, rfl, hf, hk, hn⟩ := chk_fld h'
  obtain ⟨C0, hC, hcls, hno⟩ := O.kc c hk
  refine (pe_fld (O.name hn) rfl).imp fun σ H Q q => ?_
  obtain ⟨B, env, Γ, d, e', w, hd, q⟩ := q
  rw [evE] at hd
  split at hd
  · rename_i d0 h0
    split at hd
    · rename_i x0 hx
      obtain ⟨rfl, rfl⟩ := inj2 hd
      obtain ⟨a, C, dx, fs, u, h1, h2, h3, h4, w'⟩ := shr_fld w h0 hx
      rw [hC] at h3
      cases h3
      exact ⟨_, h1, a, C0, dx, fs, u, rfl, h2, hcls.cl, hno f hf, h4, q u H w'⟩
    · cases hd
  · cases hd
/-! ### dicts -/
theorem SzOk.dct {H : Hp} {p : Addr} {kvs : List (L2.Key × V)} (s : SzOk H) : SzOk (upd H p (.dK kvs)) := fun a xs h => by
  rcases h with h | h
  · exact s a xs (.inl (rd_updN h (by intro e; cases e) (by intro _ e; cases e)))
  · exact s a xs (.inr (rd_updN h (by intro e; cases e) (by intro _ e; cases e)))
theorem SE_dnew : SE Φ k n .dnew := by
  intro X sc e O h
  cases e <;> try (simp [chkE] at h; done)
  rename_i ks vs pos
  cases ks <;> try (simp [chkE] at h; done)
  cases vs <;> try (simp [chkE] at h; done)
  refine pe_dnewK.imp fun σ H Q q => ?_
  obtain ⟨B, env, Γ, d, e', w, hd, q⟩ := q
  rw [evE] at hd
  obtain ⟨rfl, rfl⟩ := inj2 hd
  intro x hx
  refine q _ _ ?_
  obtain ⟨F, S, r, o⟩ := w.w
  have k1 : Same H (upd H x (.dK [])) := Same.new hx
  have r2 : Rs X.K (upd H x (.dK [])) (Γ ++ er σ env) F S := Reps.same k1 r
  have r3 : Rep X.K (upd H x (.dK [])) (.ref x) (.cel true (.dct []) []) [x] [] := .celo (k := .dct []) (vs := []) ⟨rfl, upd_same⟩ .nil
  refine ⟨w.fit, w.pr, x :: F, S, Reps.cons r3 r2, List.nodup_cons.mpr ⟨o.fresh hx r.lstF, o.nd⟩, fun a ha hs => ?_, fun a ha => ?_, o.fS, fun b u e n => k1 b u (o.kp b u e n), o.sz.dct⟩
  · rcases List.mem_cons.mp ha with rfl | ha
    · exact r.thereS _ hs hx
    · exact o.dj a ha hs
  · rcases List.mem_cons.mp ha with rfl | ha
    · exact (o.old hx).symm
    · exact o.fF a ha
theorem valV_zip {q : Int} : ∀ {ks : List Int} {vs : List V}, ks.length = vs.length → valV ((ks.map (Sum.inl : Int → L2.Key)).zip vs) (.inl q) = match posI q ks with
    | some j => vs[j]?
    | none => none
  | [], [], _ => rfl
  | [], _ :: _, h => by simp at h
  | _ :: _, [], h => by simp at h
  | g :: ks, v :: vs, h => by
    have ih := valV_zip (q := q) (ks := ks) (vs := vs) (by simpa using h)
    rw [List.map_cons, List.zip_cons_cons, posI]
    by_cases e : g = q
    · subst e
      rw [if_pos rfl, valV_pos rfl]; rfl
    · rw [if_neg e, valV_neg (by intro z; cases z; exact e rfl), ih]
      cases posI q ks <;> rfl
theorem posI_lt {q : Int} : ∀ {ks : List Int} {j : Nat}, posI q ks = some j → j < ks.length
  | [], j, h => by cases h
  | g :: ks, j, h => by
    rw [posI] at h
    split at h
    · cases h; simp
    · cases hp : posI q ks with
      | none => rw [hp] at h; cases h
      | some j' =>
        rw [hp] at h
        cases h
        have := posI_lt hp
        show j' + 1 < ks.length + 1
        omega
theorem putK_map {q : Int} {y : V} : ∀ {ks : List Int} {vs : List V}, ks.length = vs.length → ks.Nodup → ((ks.map (Sum.inl : Int → L2.Key)).zip vs).map (fun kv => if kv.1 = .inl q then (kv.1, y) else kv) = match posI q ks with
    | some j => (ks.map Sum.inl).zip (vs.set j y)
    | none => (ks.map Sum.inl).zip vs
  | [], [], _, _ => rfl
  | [], _ :: _, h, _ => by simp at h
  | _ :: _, [], h, _ => by simp at h
  | g :: ks, v :: vs, h, nd => by
    obtain ⟨n1, n2⟩ := List.nodup_cons.mp nd
    have ih := putK_map (q := q) (y := y) (ks := ks) (vs := vs) (by simpa using h) n2
    rw [List.map_cons, List.zip_cons_cons, List.map_cons, ih, posI]
    by_cases e : g = q
    · subst e
      have hp : posI g ks = none := by
        cases hp : posI g ks with
        | none => rfl
        | some j =>
          exfalso
          have : ∀ {ks : List Int} {j : Nat}, posI g ks = some j → g ∈ ks := by
            intro ks
            induction ks with
            | nil => intro j h; cases h
            | cons c r ih =>
              intro j h
              rw [posI] at h
              split at h
              · rename_i e; exact e ▸ List.mem_cons_self
              · cases hq : posI g r with
                | none => rw [hq] at h; cases h
                | some j' => exact List.mem_cons_of_mem _ (ih hq)
          exact n1 (this hp)
      rw [hp]
      simp
    · have ne : ¬ ((Sum.inl g : L2.Key) = Sum.inl q) := by intro z; cases z; exact e rfl
      rw [if_neg e]
      simp only [ne, if_false]
      cases posI q ks <;> rfl
theorem putK_zip {q : Int} {y : V} {ks : List Int} {vs : List V} (h : ks.length = vs.length) (nd : ks.Nodup) : putK ((ks.map (Sum.inl : Int → L2.Key)).zip vs) (.inl q) y = match posI q ks with
    | some j => (ks.map Sum.inl).zip (vs.set j y)
    | none => ((ks ++ [q]).map Sum.inl).zip (vs ++ [y]) := by
  unfold putK
  rw [valV_any, valV_zip h]
  cases hp : posI q ks with
  | none =>
    simp only [Option.isSome_none, Bool.false_eq_true, if_false]
    rw [List.map_append, List.zip_append (by rw [List.length_map]; exact h)]
    rfl
  | some j =>
    have hj := posI_lt hp
    have : (vs[j]?).isSome = true := by rw [List.getElem?_eq_getElem (by omega)]; rfl
    simp only [this, if_true]
    rw [putK_map h nd, hp]
theorem getK_ok {K : PySem.W.Frag} {B : Bs} {H : Hp} {R : List Rt} {v : V} {d : D} {q : Int} {o : Option D} (b : Brw K B H R v d) (h : getK q d = some o) : ∃ a o', v = .ref a ∧ DGet H a (.int q) o' ∧ o'.isSome = o.isSome ∧ ∀ x, o = some x → ∃ u, o' = some u ∧ Brw K B H R u x := by
  obtain ⟨F, S, F1, S1, h0, ok, r, ff, ss, nn⟩ := b.ex
  unfold getK at h
  split at h
  · rename_i ow ks xs
    split at h
    · rename_i hl
      have key : ∀ {a : Addr} {vs : List V} {F2 S2 : List Addr}, H a = some (.dK ((ks.map Sum.inl).zip vs)) → ks.length = vs.length → Reps K H vs xs F2 S2 → (∀ b ∈ F2, b ∈ F) → (∀ b ∈ S2, b ∈ S) → F2.Nodup → ∃ o', DGet H a (.int q) o' ∧ o'.isSome = o.isSome ∧ ∀ x, o = some x → ∃ u, o' = some u ∧ Brw K B H R u x := by
        intro a vs F2 S2 hH hl2 rs hF hS hN
        refine ⟨_, DGet.k (k := Sum.inl q) hH, ?_⟩
        rw [valV_zip hl2]
        split at h
        · rename_i j hj
          have e := Option.some.inj h
          try rw [hj]
          show (vs[j]?).isSome = o.isSome ∧ ∀ x, o = some x → ∃ u, vs[j]? = some u ∧ Brw K B H R u x
          have hlt := posI_lt hj
          rw [← e, List.getElem?_eq_getElem (show j < vs.length by omega), List.getElem?_eq_getElem (show j < xs.length by omega)]
          refine ⟨rfl, fun x hx => ?_⟩
          cases hx
          obtain ⟨u, F3, S3, hu, r3, f3, s3, n3⟩ := rs.get (List.getElem?_eq_getElem (show j < xs.length by omega))
          rw [List.getElem?_eq_getElem (show j < vs.length by omega)] at hu
          cases hu
          exact ⟨_, rfl, F, S, F3, S3, h0, ok, r3, fun z y => hF z (f3 z y), fun z y => hS z (s3 z y), n3 hN⟩
        · rename_i hj
          have e := Option.some.inj h
          try rw [hj]
          rw [← e]
          exact ⟨rfl, fun x hx => by cases hx⟩
      cases r with
      | cel ca rs =>
        obtain ⟨o', g1, g2, g3⟩ := key ca.2 ca.1 rs (fun _ z => nomatch z) (fun b z => ss b (List.mem_cons_of_mem _ z)) List.nodup_nil
        exact ⟨_, o', rfl, g1, g2, g3⟩
      | celo ca rs =>
        obtain ⟨o', g1, g2, g3⟩ := key ca.2 ca.1 rs (fun b z => ff b (List.mem_cons_of_mem _ z)) ss (List.nodup_cons.mp nn).2
        exact ⟨_, o', rfl, g1, g2, g3⟩
    · cases h
  · cases h
theorem chk_din {g : Bool} {a p : T} {sc : Scope} {e : Expr} (h : chkE n sc (.din g a p) e = true) : ∃ x q f pos, e = .Compare x [q] [f] pos ∧ inOp g q = true ∧ behindInMarks q f = false ∧ isP a = true ∧ isP p = true ∧ chkE n sc a x = true ∧ chkE n sc p f = true := by
  cases e <;> try (simp [chkE] at h; done)
  rename_i l ops cs _
  rcases ops with _ | ⟨op, _ | ⟨op2, r⟩⟩
  · simp [chkE] at h
  · rcases cs with _ | ⟨c, _ | ⟨c2, r2⟩⟩
    · simp [chkE] at h
    · simp only [chkE, Bool.and_eq_true, Bool.not_eq_true'] at h
      obtain ⟨⟨⟨⟨⟨h1, h2⟩, h3⟩, h4⟩, h5⟩, h6⟩ := h
      exact ⟨_, _, _, _, rfl, h1, h2, h3, h4, h5, h6⟩
    · simp [chkE] at h
  · simp [chkE] at h
theorem din_imp {K : PySem.W.Frag} {g : Bool} {a p : T} {σ : L2.St} {H : Hp} {Q : VK} (h : tD K Φ (.din g a p) σ H Q) : tP K a σ H fun y H1 => tP K p σ H1 fun x H2 => ∃ c o, x = .ref c ∧ DGet H2 c y o ∧ Q (.bl (cond g (!o.isSome) o.isSome)) H2 := by
  obtain ⟨B, env, Γ, d, e', w, hd, q⟩ := h
  rw [evE] at hd
  split at hd
  · split at hd
    · rename_i k1 d1 h1 h2
      split at hd
      · rename_i o ho
        obtain ⟨rfl, rfl⟩ := inj2 hd
        refine ⟨B, env, Γ, _, w, h1, fun v bv => ⟨B, env, Γ, _, w, h2, fun u bu => ?_⟩⟩
        rw [bv.int]
        obtain ⟨c, o', rfl, g1, g2, _⟩ := getK_ok bu ho
        refine ⟨c, o', rfl, g1, ?_⟩
        rw [g2]
        have e : (o.isSome != g) = cond g (!o.isSome) o.isSome := by cases g <;> simp
        rw [← e]
        exact q _ _ (w.bl _)
      · cases hd
    · cases hd
  · cases hd
theorem SE_din {g : Bool} {a p : T} : SE Φ k n (.din g a p) := by
  intro X sc e O h
  obtain ⟨x, op, f, pos, rfl, h1, h2, h3, h4, h5, h6⟩ := chk_din h
  have hu := hu_of O.lv0
  cases g <;> cases op <;> (try (cases h1; done))
  · refine (pe_cmp (pc_din hu (evP_ok O h3 h5) (evP_ok O h4 h6)) h2).imp fun σ H Q q => ?_
    exact din_imp q
  · refine (pe_cmp (pc_dnotin hu (evP_ok O h3 h5) (evP_ok O h4 h6)) h2).imp fun σ H Q q => ?_
    exact din_imp q
theorem ST_din {g : Bool} {a p : T} : ST Φ k n (.din g a p) := by
  intro X sc e O h
  obtain ⟨x, op, f, pos, rfl, h1, h2, h3, h4, h5, h6⟩ := chk_din h
  have hu := hu_of O.lv0
  cases g <;> cases op <;> (try (cases h1; done))
  · refine (pt_cmp (pc_din hu (evP_ok O h3 h5) (evP_ok O h4 h6)) h2).imp fun σ H Q q => ?_
    exact din_imp (tT_of σ H Q q)
  · refine (pt_cmp (pc_dnotin hu (evP_ok O h3 h5) (evP_ok O h4 h6)) h2).imp fun σ H Q q => ?_
    exact din_imp (tT_of σ H Q q)
theorem noSl_pl {e : Expr} (h : plE e = true) : NoSl e := by
  intro o i
  cases e <;> first | rfl | cases h
theorem SE_dix {p a : T} : SE Φ k n (.dix p a) := by
  intro X sc e O h
  cases e <;> try (simp [chkE] at h; done)
  simp only [chkE, Bool.and_eq_true] at h
  obtain ⟨⟨⟨h1, h2⟩, h3⟩, h4⟩ := h
  rename_i o i pos
  have ns : NoSl i := noSl_pl (chk_pl h4)
  refine (pe_dget (hu_of O.lv0) (evP_ok O h2 h3) (evP_ok O h1 h4) ns).imp fun σ H Q q => ?_
  obtain ⟨B, env, Γ, d, e', w, hd, q⟩ := q
  rw [evE] at hd
  split at hd
  · split at hd
    · rename_i k1 d1 g1 g2
      split at hd
      · rename_i x hx
        split at hd
        · rename_i hun
          obtain ⟨rfl, rfl⟩ := inj2 hd
          refine ⟨B, env, Γ, _, w, g2, fun u bu => ⟨B, env, Γ, _, w, g1, fun v bv => ?_⟩⟩
          rw [bv.int]
          obtain ⟨c, o', rfl, y1, y2, y3⟩ := getK_ok bu hx
          obtain ⟨u', rfl, bu'⟩ := y3 x rfl
          exact ⟨c, u', rfl, y1, q _ _ ⟨w.fit, w.pr, bu'.un hun⟩⟩
        · cases hd
      · cases hd
    · cases hd
  · cases hd
theorem dput_ok {K : PySem.W.Frag} {B : Bs} {σ : L2.St} {H : Hp} {e e' : Env} {Γ : List Rt} {p : T} {kk x : Int} (w : Wd K B σ e Γ H) (h : setP p (putK' kk x) e = some e') :
    ∃ q kvs, PlV K H σ e p (.ref q) ∧ H q = some (.dK kvs) ∧ kvs.length < sizeLine ∧ Wd K B σ e' Γ (upd H q (.dK (putK kvs (Sum.inl kk : L2.Key) (V.int x)))) := by
  obtain ⟨i, d, d', hr, hd, he, L⟩ := setP_ok (K := K) (H := H) (σ := σ) h
  obtain ⟨v, hvv, w0⟩ := w.read hd
  obtain ⟨Ft, St, r0, o⟩ := w0
  cases r0 with
  | @cons _ _ _ _ F S Fr Sr rd rr =>
    obtain ⟨u, du, du', Fa, F1, Fb, Sa, S1, Sb, eF, eS, ru, pl, hev, hfu, put⟩ := L v F S (fun j hj => by rw [hr] at hj; cases hj; exact hvv) rd
    subst eF eS
    clear hev
    unfold putK' at hfu
    split at hfu
    · rename_i ks xs
      split at hfu
      · rename_i hc
        obtain ⟨hl, hb, hnd⟩ := hc
        cases ru with
        | @celo q _ vs _ F2 _ ca rs =>
          obtain ⟨hlv, hq⟩ : ks.length = vs.length ∧ H q = some (.dK ((ks.map (Sum.inl : Int → L2.Key)).zip vs)) := ca
          let H2 : Hp := upd H q (.dK (putK ((ks.map (Sum.inl : Int → L2.Key)).zip vs) (Sum.inl kk : L2.Key) (V.int x)))
          have hk : Kept H H2 [q] := fun b c hb hn => by
            show upd H q _ b = _
            rw [upd_ne (by simpa using hn)]; exact hb
          have hm : ∀ b ∈ [q], IsLst H b := fun b hb => by
            have : b = q := by simpa using hb
            rw [this]; exact ⟨_, hq, rfl⟩
          have nd := o.nd
          rw [List.nodup_iff_count] at nd
          have qF : q ∈ (Fa ++ (q :: F2 ++ Fb)) ++ Fr := by simp
          have nq := nd q
          simp only [List.count_append, List.count_cons_self] at nq
          have out : ∀ {l : List Addr}, List.count q l = 0 → ∀ a ∈ l, a ∉ [q] := fun {l} hc a ha hn => by
            have : a = q := by simpa using hn
            subst this
            exact absurd ha (List.count_eq_zero.mp hc)
          have outS : ∀ {l : List Addr}, (∀ a ∈ l, a ∈ (Sa ++ (S1 ++ Sb)) ++ Sr) → ∀ a ∈ l, a ∉ [q] := fun {l} hc a ha hn => by
            have : a = q := by simpa using hn
            subst this
            exact o.dj a qF (hc a ha)
          have rr' := Reps.kept hk hm rr (out (by omega)) (outS fun a ha => by simp [ha])
          have key : ∃ F' S', Rep K H2 (.ref q) du' (q :: F') S' ∧ (∀ a, List.count a F' ≤ List.count a F2) ∧ ∀ a ∈ S', a ∈ S1 := by
            split at hfu
            · rename_i j hj
              cases hfu
              have hlt : j < xs.length := hl ▸ posI_lt hj
              obtain ⟨w0, Fc, F3, Fd, Sc, S3, Sd, hw, r3, eF, eS, put2⟩ := rs.split (List.getElem?_eq_getElem hlt)
              have z := put2 H2 [q] (.int x) (.int x) [] [] hk hm (out (by have := congrArg (List.count q) eF; simp only [List.count_append] at this ⊢; omega)) (outS fun a ha => by rw [eS]; simp at ha ⊢; rcases ha with z | z <;> simp [z]) (.int x)
              refine ⟨_, _, .celo (k := .dct ks) (vs := vs.set j (.int x)) ⟨by rw [List.length_set]; exact hlv, ?_⟩ z, fun a => ?_, fun a ha => ?_⟩
              · show upd H q _ q = _
                rw [upd_same, putK_zip hlv hnd, hj]
              · rw [eF]; simp only [List.count_append, List.count_nil]; omega
              · rw [eS]; simp at ha ⊢; rcases ha with z | z <;> simp [z]
            · rename_i hj
              cases hfu
              have rs' := Reps.kept hk hm rs (out (by omega)) (outS fun a ha => by simp [ha])
              have z := rs'.app (Reps.cons (.int x) .nil)
              refine ⟨_, _, .celo (k := .dct (ks ++ [kk])) (vs := vs ++ [.int x]) ⟨by simp [hlv], ?_⟩ z, fun a => by simp, fun a ha => by simpa using ha⟩
              show upd H q _ q = _
              rw [upd_same, putK_zip hlv hnd, hj]
          obtain ⟨F', S', ry, hF', hS'⟩ := key
          have c0 : List.count q F' = 0 := by have := hF' q; omega
          have rd' := put H2 [q] _ _ hk hm (out (by rw [List.count_append]; omega)) (outS fun a ha => by rcases List.mem_append.mp ha with y | y <;> simp [y]) ry
          refine ⟨q, _, pl, hq, ?_, ?_⟩
          · rw [List.length_zip, List.length_map]
            exact Nat.lt_of_le_of_lt (Nat.min_le_left _ _) (Nat.lt_trans hb (by decide))
          · have wn : W K B H2 ((v, d') :: (Γ ++ er σ (e.set i none))) := by
              refine ⟨_, _, .cons rd' rr', ?_⟩
              have sub : ∀ a, List.count a ((Fa ++ (q :: F' ++ Fb)) ++ Fr) ≤ List.count a ((Fa ++ (q :: F2 ++ Fb)) ++ Fr) := fun a => by
                have := hF' a
                simp only [List.count_append, List.count_cons] at this ⊢; omega
              have mem : ∀ a, a ∈ ((Fa ++ (q :: F' ++ Fb)) ++ Fr) → a ∈ ((Fa ++ (q :: F2 ++ Fb)) ++ Fr) := fun a ha => by
                have h1 := List.count_pos_iff.mpr ha
                exact List.count_pos_iff.mp (Nat.lt_of_lt_of_le h1 (sub a))
              have memS : ∀ a, a ∈ ((Sa ++ (S' ++ Sb)) ++ Sr) → a ∈ ((Sa ++ (S1 ++ Sb)) ++ Sr) := fun a ha => by
                simp only [List.mem_append] at ha ⊢
                rcases ha with (z | z | z) | z
                · simp [z]
                · simp [hS' a z]
                · simp [z]
                · simp [z]
              refine ⟨List.nodup_iff_count.mpr fun a => Nat.le_trans (sub a) (nd a), fun a ha hs => o.dj a (mem a ha) (memS a hs), fun a ha => o.fF a (mem a ha), fun a ha => o.fS a (memS a ha), fun b c hb hn => ?_, o.sz.dct⟩
              refine hk b c (o.kp b c hb hn) fun z => ?_
              have : b = q := by simpa using z
              subst this
              rcases o.fF b qF with y1 | y1
              · exact hn y1
              · rw [hb] at y1; cases y1
            have wd : Wd K B σ (e.set i none) ((v, d') :: Γ) H2 := ⟨w.fit.none i, w.pr, wn⟩
            have z := wd.put2 (i := i) hvv
            rw [List.set_set] at z
            rw [he]
            exact z
      · cases hfu
    · cases hfu
end
end Sr
set_option Elab.async false
set_option linter.all false
set_option maxRecDepth 100000
set_option maxHeartbeats 2000000
/-! # Sr: a call with a field as its changed argument -/
namespace Sr
open PySem PySem.Spec PyProof.Rows L2
/-- an instance of ours is taken apart into its fields, and put together again -/
theorem Wd.walkI {K : PySem.W.Frag} {B : Bs} {σ : L2.St} {e : Env} {Γ : List Rt} {H : Hp} {v : V} {c : Nat} {ns : List Str} {ds : List Sr.D} (w : Wd K B σ e ((v, .cel true (.ins c ns) ds) :: Γ) H) : ∃ a vs C dx, ∃ B' : Bs, v = .ref a ∧ H a = some (.ins C dx (ns.zip vs)) ∧ vs.length = ds.length ∧ B'.pr = B.pr ∧ Wd K B' σ e (vs.zip ds ++ Γ) H ∧ ∀ σ' e' Γ' H' ds', vs.length = List.length ds' → Wd K B' σ' e' (vs.zip ds' ++ Γ') H' → Wd K B σ' e' ((.ref a, .cel true (.ins c ns) ds') :: Γ') H' := by
  obtain ⟨F, S, r, o⟩ := w.w
  cases r with
  | @cons _ _ _ _ F1 S1 F2 S2 r t =>
    cases r with
    | @celo a _ vs _ F3 _ ca rs =>
      obtain ⟨C, dx, c1, c2, ha⟩ : ∃ C dx, PySem.W.nsIn K mainGlobals (cnm c) = some (some (.ref C)) ∧ (InsTy K C ∧ ns.length = vs.length) ∧ H a = some (.ins C dx (ns.zip vs)) := ca
      have nd : (a :: (F3 ++ F2)).Nodup := o.nd
      obtain ⟨n1, n2⟩ := List.nodup_cons.mp nd
      have hl := rs.len
      refine ⟨a, vs, C, dx, ⟨H, F3 ++ F2, S1 ++ S2, B.pr⟩, rfl, ha, hl, rfl, ⟨w.fit, w.pr, F3 ++ F2, S1 ++ S2, ?_, ⟨n2, fun b hb => o.dj b (List.mem_cons_of_mem a hb), fun b hb => .inl hb, fun b hb => .inr (.inl hb), fun b u e _ => e, o.sz⟩⟩, ?_⟩
      · have q := Reps.app rs t
        have e1 : ((vs.zip ds ++ Γ) ++ er σ e).map (·.1) = vs ++ (Γ ++ er σ e).map (·.1) := by
          have z := List.map_fst_zip (l₁ := vs) (l₂ := ds) (Nat.le_of_eq hl)
          rw [List.append_assoc, List.map_append (l₁ := vs.zip ds)]
          exact congrArg (· ++ _) z
        have e2 : ((vs.zip ds ++ Γ) ++ er σ e).map (·.2) = ds ++ (Γ ++ er σ e).map (·.2) := by
          have z := List.map_snd_zip (l₁ := vs) (l₂ := ds) (Nat.le_of_eq hl.symm)
          rw [List.append_assoc, List.map_append (l₁ := vs.zip ds)]
          exact congrArg (· ++ _) z
        unfold Rs
        rw [e1, e2]
        exact q
      · intro σ' e' Γ' H' ds' hl' w'
        obtain ⟨F', S', r', o'⟩ := w'.w
        have e1 : ((vs.zip ds' ++ Γ') ++ er σ' e').map (·.1) = vs ++ (Γ' ++ er σ' e').map (·.1) := by
          have z := List.map_fst_zip (l₁ := vs) (l₂ := ds') (Nat.le_of_eq hl')
          rw [List.append_assoc, List.map_append (l₁ := vs.zip ds')]
          exact congrArg (· ++ _) z
        have e2 : ((vs.zip ds' ++ Γ') ++ er σ' e').map (·.2) = ds' ++ (Γ' ++ er σ' e').map (·.2) := by
          have z := List.map_snd_zip (l₁ := vs) (l₂ := ds') (Nat.le_of_eq hl'.symm)
          rw [List.append_assoc, List.map_append (l₁ := vs.zip ds')]
          exact congrArg (· ++ _) z
        unfold Rs at r'
        rw [e1, e2] at r'
        obtain ⟨G1, U1, G2, U2, x1, x2, x3, x4⟩ := r'.unapp hl'
        subst x3 x4
        have ka : H' a = some (.ins C dx (ns.zip vs)) := o'.kp a _ ha n1
        have hn : H a ≠ none := by rw [ha]; simp
        have aF : a ∉ G1 ++ G2 := fun z => by
          rcases o'.fF a z with y | y
          · exact n1 y
          · exact hn y
        have aS : a ∉ U1 ++ U2 := fun z => by
          rcases o'.fS a z with y | y | y
          · exact n1 y
          · exact o.dj a List.mem_cons_self y
          · exact hn y
        refine ⟨w'.fit, w'.pr, a :: G1 ++ G2, U1 ++ U2, .cons (.celo (k := .ins c ns) ⟨C, dx, c1, c2, ka⟩ x1) x2, ⟨?_, fun b hb => ?_, fun b hb => ?_, fun b hb => ?_, fun b u e nb => ?_, o'.sz⟩⟩
        · exact List.nodup_cons.mpr ⟨aF, o'.nd⟩
        · rcases List.mem_cons.mp hb with z | z
          · subst z; exact aS
          · exact o'.dj b z
        · rcases List.mem_cons.mp hb with z | z
          · subst z; exact o.fF _ List.mem_cons_self
          · rcases o'.fF b z with y | y
            · exact o.fF b (List.mem_cons_of_mem a y)
            · exact (o.old y).symm
        · rcases o'.fS b hb with z | z | z
          · rcases o.fF b (List.mem_cons_of_mem a z) with y | y
            · exact .inl y
            · exact .inr (.inr y)
          · exact o.fS b z
          · rcases o.old z with y | y
            · exact .inr (.inr y)
            · exact .inl y
        · refine o'.kp b u (o.kp b u e nb) fun z => ?_
          rcases o.fF b (List.mem_cons_of_mem a z) with q | q
          · exact nb q
          · rw [e] at q; cases q
section
variable {Φ : Fs} {k : Nat} {n : Nm}
/-- the values by place: those that are handed over by value; the field's -/
def valR : List (Option D) → List V → List Rt
  | some d :: l, v :: vs => (v, d) :: valR l vs
  | none :: l, _ :: vs => valR l vs
  | _, _ => []
def fitU (u : V) : List (Option D) → List V → Prop
  | [], [] => True
  | some _ :: l, _ :: vs => fitU u l vs
  | none :: l, v :: vs => v = u ∧ fitU u l vs
  | _, _ => False
def asF (t : D) : List (Option D) → List Ag
  | [] => []
  | some d :: l => .val d :: asF t l
  | none :: l => .own t :: asF t l
theorem paNever {X : Cx} {es : List Expr} : PA X es (fun _ _ _ => False) := ⟨fun _ _ _ _ _ _ _ h => h.elim⟩
theorem peNever {X : Cx} {e : Expr} : PE X e (fun _ _ _ => False) := ⟨fun _ _ _ _ _ _ h => h.elim⟩
def tF (K : PySem.W.Frag) (c i : Nat) (fl : Str) (a : T) (io : List Bool) : TA := fun σ H Q => ∃ B e Γ l u, Wd K B σ e Γ H ∧ evF c i fl a io e = some l ∧ PlV K H σ e (.fld c i fl) u ∧ ∀ vs, fitU u l vs → Wd K B σ e (valR l vs ++ Γ) H → Q vs H
theorem pa_F {c i : Nat} {fl : Str} : ∀ {a : T} {io : List Bool} {X : Cx} {sc : Scope} {es : List Expr}, OkX Φ k n X sc → chkL n sc a es = true → PA X es (tF X.K c i fl a io) := by
  intro a
  induction a with
  | nil =>
    intro io X sc es O h
    cases es with
    | cons _ _ => simp [chkL] at h
    | nil =>
      refine pa_nil.imp ?_
      rintro σ H Q ⟨B, e, Γ, l, u, w, hd, pl, q⟩
      cases io with
      | cons _ _ => simp [evF] at hd
      | nil =>
        rw [evF] at hd
        cases hd
        exact q [] trivial w
  | cons x r _ ih =>
    intro io X sc es O h
    obtain ⟨y, ys, ee, h1, h2⟩ := chk_cons h
    subst ee
    cases io with
    | nil =>
      refine paNever.imp ?_
      rintro σ H Q ⟨B, e, Γ, l, u, w, hd, pl, q⟩
      simp [evF] at hd
    | cons b io =>
      cases b with
      | true =>
        by_cases hf : isFld c i fl x = true
        · have hx : x = .fld c i fl := by
            cases x <;> try (simp [isFld] at hf; done)
            simp only [isFld, Bool.and_eq_true, decide_eq_true_eq] at hf
            obtain ⟨⟨rfl, rfl⟩, rfl⟩ := hf
            rfl
          subst hx
          refine (pa_cons (pl_ok O (p := .fld c i fl) rfl h1) (ih (io := io) O h2) (star_pl (chk_pl h1))).imp ?_
          rintro σ H Q ⟨B, e, Γ, l, u, w, hd, pl, q⟩
          rw [evF] at hd
          split at hd
          · rename_i l' hl'
            rw [if_pos rfl, if_pos hf] at hd
            cases hd
            refine ⟨B, e, Γ, w, u, pl, B, e, Γ, l', u, w, hl', pl, fun vs fit w' => q (u :: vs) ⟨rfl, fit⟩ w'⟩
          · cases hd
        · refine paNever.imp ?_
          rintro σ H Q ⟨B, e, Γ, l, u, w, hd, pl, q⟩
          rw [evF] at hd
          split at hd
          · rw [if_pos rfl, if_neg hf] at hd
            cases hd
          · cases hd
      | false =>
        by_cases hp : isP x = true
        · refine (pa_cons (evP_ok O hp h1) (ih (io := io) O h2) (star_pl (chk_pl h1))).imp ?_
          rintro σ H Q ⟨B, e, Γ, l, u, w, hd, pl, q⟩
          rw [evF] at hd
          split at hd
          · rename_i l' hl'
            rw [if_neg (by simp), if_pos hp] at hd
            split at hd
            · rename_i d hdv
              split at hd
              · rename_i hun
                cases hd
                refine ⟨B, e, Γ, d, w, hdv, fun v bv => ?_⟩
                have w1 : Wd X.K B σ e ((v, d) :: Γ) H := ⟨w.fit, w.pr, bv.un hun⟩
                refine ⟨B, e, (v, d) :: Γ, l', u, w1, hl', pl, fun vs fit w' => q (v :: vs) fit ?_⟩
                exact w'.front List.perm_middle
              · cases hd
            · cases hd
          · cases hd
        · refine paNever.imp ?_
          rintro σ H Q ⟨B, e, Γ, l, u, w, hd, pl, q⟩
          rw [evF] at hd
          split at hd
          · rw [if_neg (by simp), if_neg hp] at hd
            cases hd
          · cases hd
  | _ =>
    intro io X sc es O h
    cases es <;> simp [chkL] at h
theorem asF_S {σ : L2.St} {u : V} {t : D} : ∀ {l : List (Option D)} {vs : List V}, fitU u l vs → AgS σ (asF t l) vs ∧ vs.length = l.length
  | [], [], _ => ⟨trivial, rfl⟩
  | [], _ :: _, h => h.elim
  | some _ :: _, [], h => h.elim
  | none :: _, [], h => h.elim
  | some _ :: l, _ :: vs, h => by
    obtain ⟨h1, h2⟩ := asF_S (l := l) (vs := vs) h
    exact ⟨h1, by simp [h2]⟩
  | none :: l, _ :: vs, h => by
    obtain ⟨h1, h2⟩ := asF_S (l := l) (vs := vs) h.2
    exact ⟨h1, by simp [h2]⟩
theorem asF_D {t : D} {e1 e3 : Env} : ∀ {l : List (Option D)}, agD e1 e3 (asF t l) = some (fillF t l)
  | [] => rfl
  | some d :: l => by rw [asF, agD, asF_D (l := l), fillF]
  | none :: l => by rw [asF, agD, asF_D (l := l), fillF]
theorem asF_var {t : D} {i : Nat} : ∀ {l : List (Option D)}, Ag.var i ∉ asF t l
  | [], h => nomatch h
  | some d :: l, h => by
    rcases List.mem_cons.mp h with z | z
    · cases z
    · exact asF_var z
  | none :: l, h => by
    rcases List.mem_cons.mp h with z | z
    · cases z
    · exact asF_var z
theorem evF_of {c i : Nat} {fl : Str} {e : Env} : ∀ {a : T} {io : List Bool} {l : List (Option D)}, evF c i fl a io e = some l → l.map Option.isNone = io ∧ ∀ d, some d ∈ l → d.un = true := by
  intro a
  induction a with
  | nil =>
    intro io l h
    cases io with
    | cons _ _ => simp [evF] at h
    | nil => rw [evF] at h; cases h; exact ⟨rfl, fun d z => nomatch z⟩
  | cons x r _ ih =>
    intro io l h
    cases io with
    | nil => simp [evF] at h
    | cons b io =>
      rw [evF] at h
      split at h
      · rename_i l' hl'
        obtain ⟨i1, i2⟩ := ih hl'
        cases b with
        | true =>
          rw [if_pos rfl] at h
          split at h
          · cases h
            refine ⟨by simp [i1], fun d z => ?_⟩
            rcases List.mem_cons.mp z with y | y
            · cases y
            · exact i2 d y
          · cases h
        | false =>
          rw [if_neg (by simp)] at h
          split at h
          · split at h
            · rename_i d0 _
              split at h
              · rename_i hun
                cases h
                refine ⟨by simp [i1], fun d z => ?_⟩
                rcases List.mem_cons.mp z with y | y
                · cases y; exact hun
                · exact i2 d y
              · cases h
            · cases h
          · cases h
      · cases h
  | _ =>
    intro io l h
    cases io <;> simp [evF] at h
theorem asF_R {t : D} : ∀ {l : List (Option D)} {vs : List V}, (∀ d, some d ∈ l → d.un = true) → agR (asF t l) vs = valR l vs
  | [], vs, _ => by cases vs <;> rfl
  | some d :: l, [], _ => rfl
  | none :: l, [], _ => rfl
  | some d :: l, v :: vs, h => by
    rw [asF, agR, valR, asF_R (l := l) (vs := vs) fun d z => h d (List.mem_cons_of_mem _ z), shr_of_un d (h d List.mem_cons_self)]
  | none :: l, v :: vs, h => by
    rw [asF, valR]
    show agR (asF t l) vs = _
    exact asF_R (l := l) (vs := vs) fun d z => h d (List.mem_cons_of_mem _ z)
theorem pick0 {t : D} {u : V} {e1 : Env} : ∀ {io : List Bool} {l os : List (Option D)} {vs : List V}, l.map Option.isNone = io → io.all (!·) = true → os.all Option.isNone = true → fitU u l vs → ioR (asF t l) vs e1 = [] ∧ er (vs.map some) os = []
  | _, [], os, vs, _, _, _, h => by
    cases vs with
    | cons _ _ => exact h.elim
    | nil => exact ⟨rfl, rfl⟩
  | io, none :: l, os, vs, h1, h2, _, _ => by
    subst h1
    simp at h2
  | io, some d :: l, os, [], _, _, _, h => h.elim
  | io, some d :: l, os, v :: vs, h1, h2, h3, h4 => by
    subst h1
    simp only [List.map_cons, List.all_cons, Bool.and_eq_true] at h2
    cases os with
    | nil => 
      obtain ⟨i1, _⟩ := pick0 (t := t) (u := u) (e1 := e1) (io := l.map Option.isNone) (l := l) (os := []) (vs := vs) rfl h2.2 rfl h4
      exact ⟨i1, rfl⟩
    | cons o os =>
      simp only [List.all_cons, Bool.and_eq_true] at h3
      obtain ⟨i1, i2⟩ := pick0 (t := t) (u := u) (e1 := e1) (io := l.map Option.isNone) (l := l) (os := os) (vs := vs) rfl h2.2 h3.2 h4
      cases o with
      | some _ => simp at h3
      | none => exact ⟨i1, i2⟩
theorem pick1 {t t' : D} {u : V} {e1 : Env} : ∀ {io : List Bool} {l os : List (Option D)} {vs : List V}, l.map Option.isNone = io → pickO io os = some t' → fitU u l vs → ioR (asF t l) vs e1 = [(u, t)] ∧ er (vs.map some) os = [(u, t')]
  | io, [], os, vs, h1, h2, _ => by
    subst h1
    cases h2
  | io, none :: l, os, [], _, _, h => h.elim
  | io, some _ :: l, os, [], _, _, h => h.elim
  | io, none :: l, os, v :: vs, h1, h2, h3 => by
    subst h1
    obtain ⟨rfl, h3⟩ := h3
    cases os with
    | nil => cases h2
    | cons o os =>
      simp only [List.map_cons, Option.isNone_none, pickO, if_true] at h2
      split at h2
      · rename_i hc
        simp only [Bool.and_eq_true] at hc
        subst h2
        obtain ⟨i1, i2⟩ := pick0 (t := t) (u := v) (e1 := e1) (io := l.map Option.isNone) (l := l) (os := os) (vs := vs) rfl hc.2 hc.1 h3
        refine ⟨?_, ?_⟩
        · show (v, t) :: ioR (asF t l) vs e1 = _
          rw [i1]
        · show (v, t') :: er (vs.map some) os = _
          rw [i2]
      · cases h2
  | io, some d :: l, os, v :: vs, h1, h2, h3 => by
    subst h1
    cases os with
    | nil => cases h2
    | cons o os =>
      simp only [List.map_cons, Option.isNone_some, pickO, Bool.false_eq_true, if_false] at h2
      cases o with
      | some _ => cases h2
      | none =>
        obtain ⟨i1, i2⟩ := pick1 (t := t) (e1 := e1) (io := l.map Option.isNone) (l := l) (os := os) (vs := vs) rfl h2 h3
        exact ⟨i1, i2⟩
theorem zip_splitI {vs : List V} {ds : List Sr.D} {j : Nat} {u : V} {d : Sr.D} (hv : vs[j]? = some u) (hd : ds[j]? = some d) : ∃ P Q : List Rt, vs.zip ds = P ++ (u, d) :: Q ∧ ∀ d' : Sr.D, vs.zip (ds.set j d') = P ++ (u, d') :: Q := by
  induction vs generalizing ds j with
  | nil => simp at hv
  | cons v vs ih =>
    cases ds with
    | nil => simp at hd
    | cons d0 ds =>
      cases j with
      | zero =>
        simp at hv hd
        subst hv hd
        exact ⟨[], vs.zip ds, rfl, fun d' => rfl⟩
      | succ j =>
        obtain ⟨P, Q, h1, h2⟩ := ih (by simpa using hv) (by simpa using hd)
        exact ⟨(v, d0) :: P, Q, by rw [List.zip_cons_cons, h1]; rfl, fun d' => by rw [List.set_cons_succ, List.zip_cons_cons, h2]; rfl⟩
theorem cfl_imp {K : PySem.W.Frag} {c i f : Nat} {fl : Str} {a : T} {σ : L2.St} {H : Hp} {Q : VK} (h : tD K Φ (.cfl c i fl f a) σ H Q) : tF K c i fl a (Φ.io f) σ H fun vs H1 => spOf K Φ f vs H1 Q E0 := by
  obtain ⟨B, env, Γ, d, e', w, hd, q⟩ := h
  rw [evE] at hd
  split at hd
  · rename_i c' ns xs hi
    split at hd
    · rename_i hc
      subst hc
      split at hd
      · rename_i j hj
        split at hd
        · rename_i t ht
          split at hd
          · rename_i l hl
            split at hd
            · rename_i r os hr
              split at hd
              · rename_i t' hp
                obtain ⟨rfl, rfl⟩ := inj2 hd
                obtain ⟨v, hv, wi⟩ := w.read hi
                obtain ⟨F0, S0, r0, _⟩ := wi
                obtain ⟨lio, lun⟩ := evF_of hl
                cases r0 with
                | cons r1 _ =>
                  cases r1 with
                  | @celo a0 _ vs0 _ F1 _ ca rs =>
                    obtain ⟨C1, dx, c1, c2, c3⟩ := ca
                    obtain ⟨u, F3, S3, hu, _⟩ := rs.get ht
                    have pl : PlV K H σ env (.fld c i fl) u := ⟨a0, C1, dx, _, hv, c1, c3, posS_lookup hj hu⟩
                    refine ⟨B, env, Γ, l, u, w, hl, pl, fun vs fit w1 => ?_⟩
                    obtain ⟨sS, sl⟩ := asF_S (σ := σ) (t := t) fit
                    have m := w1.move hi hv
                    obtain ⟨a1, vs1, C2, dx2, B', ev, hH, hlen, hpr, wk, back⟩ := m.walkI
                    cases ev
                    rw [c3] at hH
                    have hz : ns.zip vs0 = ns.zip vs1 := by
                      injection hH with z
                      injection z
                    have hlt := (List.getElem?_eq_some_iff.mp ht).1
                    obtain ⟨u1, hu1⟩ : ∃ u1, vs1[j]? = some u1 := ⟨_, List.getElem?_eq_getElem (by omega)⟩
                    have eu : u = u1 := by
                      have g1 := posS_lookup hj hu
                      have g2 := posS_lookup hj hu1
                      rw [hz, g2] at g1
                      cases g1; rfl
                    subst eu
                    obtain ⟨P, Q', hz1, hz2⟩ := zip_splitI hu1 ht
                    obtain ⟨p1, p2⟩ := pick1 (t := t) (t' := t') (e1 := env) lio hp fit
                    have w2 : Wd K B' σ (env.set i none) (ioR (asF t l) vs env ++ (agR (asF t l) vs ++ (P ++ (Q' ++ Γ)))) H := by
                      rw [p1, asF_R lun]
                      rw [hz1] at wk
                      refine wk.front ?_
                      simp only [List.append_assoc, List.cons_append, List.nil_append]
                      refine List.perm_middle.trans (List.Perm.cons _ ?_)
                      rw [← List.append_assoc, ← List.append_assoc P, ← List.append_assoc (valR l vs)]
                      rw [List.append_assoc (valR l vs)]
                      exact List.perm_append_comm_assoc _ _ _
                    refine call_at' (as := asF t l) (e1 := env) True ?_ w2 sS (fun _ i hi => absurd hi asF_var) (fun z => (z trivial).elim) asF_D hr fun v1 H1 w3 => ?_
                    · rw [sl, ← lio, List.length_map]
                    · rw [p2] at w3
                      have w4 : Wd K B' σ (env.set i none) (vs1.zip (xs.set j t') ++ ((v1, r) :: Γ)) H1 := by
                        rw [hz2]
                        refine w3.front ?_
                        simp only [List.append_assoc, List.cons_append, List.nil_append]
                        refine (List.Perm.cons _ ?_).trans List.perm_middle.symm
                        rw [← List.append_assoc, ← List.append_assoc P]
                        exact List.perm_middle.symm
                      have w5 := back _ _ _ _ (xs.set j t') (by rw [List.length_set]; exact hlen) w4
                      have w6 := w5.put2 (i := i) hv
                      rw [List.set_set] at w6
                      exact q _ _ w6
              · cases hd
            · cases hd
          · cases hd
        · cases hd
      · cases hd
    · cases hd
  · cases hd
theorem SE_cfl {c i f : Nat} {fl : Str} {a : T} : SE Φ k n (.cfl c i fl f a) := by
  intro X sc e O h
  cases e <;> try (simp [chkE] at h; done)
  rename_i g es kw pos
  cases g <;> try (simp [chkE] at h; done)
  cases kw <;> try (simp [chkE] at h; done)
  rename_i x xp
  simp only [chkE, Bool.and_eq_true, decide_eq_true_eq, Bool.not_eq_true'] at h
  obtain ⟨⟨⟨⟨⟨hx, hf⟩, hg⟩, hdb⟩, _⟩, ha⟩ := h
  subst hx
  obtain ⟨A, fd, ps, hm, hk, hb, F⟩ := O.fns f hf
  cases es with
  | nil =>
    refine peNever.imp fun σ H Q q => ?_
    obtain ⟨B, e, Γ, l, u, w, hd, pl, _⟩ := cfl_imp q
    cases a <;> try (simp [chkL] at ha; done)
    obtain ⟨B, env, Γ, d, e', w, hd, q⟩ := q
    rw [evE] at hd
    split at hd
    · split at hd
      · split at hd
        · split at hd
          · split at hd
            · rename_i l hl
              cases hio : Φ.io f with
              | nil =>
                rw [hio] at hd
                split at hd
                · simp [pickO] at hd
                · cases hd
              | cons _ _ => rw [hio] at hl; simp [evF] at hl
            · cases hd
          · cases hd
        · cases hd
      · cases hd
    · cases hd
  | cons y ys =>
    have hst : (backTo pos (starEach ys X.env)).any (·.1) = false := by
      obtain ⟨x0, xs0, e0⟩ : ∃ x0 xs0, a = .cons x0 xs0 := by cases a <;> first | exact ⟨_, _, rfl⟩ | simp [chkL] at ha
      subst e0
      obtain ⟨_, _, ee, _, h2⟩ := chk_cons ha
      cases ee
      exact noStar h2
    have hpl : plE y = true := by
      obtain ⟨x0, xs0, e0⟩ : ∃ x0 xs0, a = .cons x0 xs0 := by cases a <;> first | exact ⟨_, _, rfl⟩ | simp [chkL] at ha
      subst e0
      obtain ⟨_, _, ee, h1, _⟩ := chk_cons ha
      cases ee
      exact chk_pl h1
    refine (pe_call (E := E0) F O.lv (O.gl hg) hm hk hb .nil pass0 (pa_F (c := c) (i := i) (fl := fl) (io := Φ.io f) O ha) hdb (star_pl hpl) hst).imp fun σ H Q q => ?_
    obtain ⟨B, e, Γ, l, u, w, hd, pl, q2⟩ := cfl_imp q
    refine ⟨B, e, Γ, l, u, w, hd, pl, fun vs fit w' => ?_⟩
    show spOf X.K Φ f (vs ++ []) H Q E0
    rw [List.append_nil]
    exact q2 vs fit w'
end
end Sr
set_option Elab.async false
set_option linter.all false
set_option maxRecDepth 100000
set_option maxHeartbeats 2000000
/-! # Sr: all terms; statements -/
namespace Sr
open PySem PySem.Spec PyProof.Rows L2
section
variable {Φ : Fs} {k : Nat} {n : Nm}
/-! ### a comprehension -/
structure LcParts (Φ : Fs) (k : Nat) (n : Nm) (it c el : T) : Prop where
  i : SI Φ k n it
  iz : ∀ a b, it = .zip a b → SE Φ k n a ∧ SE Φ k n b
  c : ST Φ k n c
  el : SE Φ k n el
theorem lc_ht {X : Cx} {sc scope : Scope} {c : T} {fs : List Expr} (s : ST Φ k n c) (O : OkX Φ k n X sc) (hf : (fs = [] ∧ c = .bl true) ∨ ∃ f, fs = [f] ∧ chkE n (relS scope sc) c f = true) (s0 : Shared) (H : Hp) (C : Addr) (cl : List (Str × Addr)) (fp : List Addr) :
    PTs (X.blk s0 H scope (compEnvC scope cl C X.env) fp) fs (tTs X.K Φ c fs) := by
  rcases hf with ⟨rfl, _⟩ | ⟨f, rfl, hf⟩
  · exact pts_nil
  · exact pts_one (s (O.blk s0 H scope C cl fp) hf)
theorem SE_lc {tg : List Nat} {it c el : T} (P : LcParts Φ k n it c el) : SE Φ k n (.lc tg it c el) := by
  intro X sc e O h
  obtain ⟨x, g, i, fs, scope, pos, rfl, L⟩ := chk_lc h
  have hi := SI_any P.i P.iz O L.ht L.ok L.hi
  have z := pe_lc (pos := pos) (own := ownOf n tg) (g := gOf X.K tg) (tt := tTs X.K Φ c fs) (te := tD X.K Φ el) O.calm O.nd hi (blkOk_by (by rw [O.N, O.sc]; exact L.blk)) (fun s H C cl fp => pg_ok (X := X.blk s H scope (compEnvC scope cl C X.env) fp) O.N O.nd O.calm (blk_loc O s H scope C cl fp) L.ht) (fun s H C cl fp => lc_ht P.c O L.hf s H C cl fp) (fun s H C cl fp => P.el (O.blk s H scope C cl fp) L.he) (foldS (chkI_pl L.hi))
  refine z.imp fun σ H Q q => ?_
  rw [own_map L.ht]
  exact lc_imp (fun e => by
    rcases L.hf with ⟨_, h⟩ | ⟨f, h, _⟩
    · exact h
    · rw [e] at h; cases h) q

/-! ### all terms -/
structure AllT (Φ : Fs) (k : Nat) (n : Nm) (t : T) : Prop where
  e : SE Φ k n t
  tt : ST Φ k n t
  l : SL Φ k n t
  g : SG Φ k n t
  i : SI Φ k n t
  wa : SW Φ k n .And t
  wo : SW Φ k n .Or t
  iz : ∀ a b, t = .zip a b → SE Φ k n a ∧ SE Φ k n b
theorem noSE {t : T} (h : ∀ {sc : Scope} {e : Expr}, chkE n sc t e = false) : SE Φ k n t := fun O hh => by rw [h] at hh; cases hh
theorem noST {t : T} (h : ∀ {sc : Scope} {e : Expr}, chkE n sc t e = false) : ST Φ k n t := fun O hh => by rw [h] at hh; cases hh
theorem noSL {t : T} (h : ∀ {sc : Scope} {es : List Expr}, chkL n sc t es = false) : SL Φ k n t := fun O hh => by rw [h] at hh; cases hh
theorem noSG {t : T} (h : ∀ {sc : Scope} {es : List Expr}, chkL n sc t es = false) : SG Φ k n t := fun O hh => by rw [h] at hh; cases hh
theorem noSI {t : T} (h : ∀ {sc : Scope} {e : Expr}, chkI n sc t e = false) : SI Φ k n t := fun _ O hh => by rw [h] at hh; cases hh
theorem noSW {op : BoolOp} {t : T} (h : ∀ {sc : Scope} {es : List Expr} {p : Pos}, chkE n sc t (.BoolOp op es p) = false) : SW Φ k n op t := fun O hh => by rw [h] at hh; cases hh
theorem noBool {t : T} (h : ∀ a b, t ≠ .and a b) (h2 : ∀ a b, t ≠ .or a b) (h3 : ∀ a, t ≠ .frz a) {op : BoolOp} {sc : Scope} {es : List Expr} {p : Pos} : chkE n sc t (.BoolOp op es p) = false := by
  cases t <;> first | exact absurd rfl (h _ _) | exact absurd rfl (h2 _ _) | exact absurd rfl (h3 _) | rfl | (rw [chkE]; done) | (rename_i a; cases a <;> rfl) | simp [chkE]
/-- a test that is no form of its own, by its value -/
theorem ST_pl {t : T} (s : SE Φ k n t) (h : ∀ {sc : Scope} {e : Expr}, chkE n sc t e = true → plT e = true) : ST Φ k n t := fun O hh => ST_of (s O hh) (h hh)
theorem mkAll {t : T} (e : SE Φ k n t) (tt : ST Φ k n t) (hl : ∀ {sc : Scope} {es : List Expr}, chkL n sc t es = false) (hi : ∀ {sc : Scope} {e : Expr}, chkI n sc t e = false) (wa : SW Φ k n .And t) (wo : SW Φ k n .Or t) (iz : ∀ a b, t ≠ .zip a b) : AllT Φ k n t :=
  ⟨e, tt, noSL hl, noSG hl, noSI hi, wa, wo, fun a b z => absurd z (iz a b)⟩
theorem SW_frz {op : BoolOp} {a : T} (s : SW Φ k n op a) : SW Φ k n op (.frz a) := by
  intro X sc es pos O h
  rw [chkE] at h
  refine (s O h).imp ?_
  rintro σ H Q ⟨B, env, Γ, d, e', w, hd, q⟩
  rw [evE] at hd
  split at hd
  · rename_i d0 e0 h0
    simp only [Option.some.injEq, Prod.mk.injEq] at hd
    obtain ⟨h1, h2⟩ := hd
    have z := shr_bl h1
    subst z
    subst h2
    exact ⟨B, env, Γ, _, e0, w, h0, fun H' w' => q H' w'⟩
  · cases hd
theorem rs_frozen {K : PySem.W.Frag} {H : Hp} : ∀ {σ : List (Option V)} {e : Env} {F S : List Addr}, Rs K H (er σ e) F S → ∃ S', Rs K H (er σ (e.map fun o => o.map D.shr)) [] S' ∧ ∀ a ∈ S', a ∈ F ∨ a ∈ S := by
  intro σ e F S r
  have e1 : ∀ {σ : List (Option V)} {e : Env}, er σ (e.map fun o => o.map D.shr) = (er σ e).map fun p => (p.1, p.2.shr) := by
    intro σ
    induction σ with
    | nil => intro e; cases e <;> rfl
    | cons a σ ih =>
      intro e
      cases e with
      | nil => cases a <;> rfl
      | cons b e =>
        cases a with
        | none => exact ih
        | some v =>
          cases b with
          | none => exact ih
          | some d =>
            show (v, d.shr) :: er σ (e.map fun o => o.map D.shr) = (v, d.shr) :: (er σ e).map fun p => (p.1, p.2.shr)
            rw [ih]
  obtain ⟨S', r', q⟩ := Reps.shrd r
  refine ⟨S', ?_, q⟩
  rw [e1]
  have e2 : ∀ R : List Rt, shrL (R.map (·.2)) = (R.map fun p => (p.1, p.2.shr)).map (·.2) := fun R => by
    induction R with
    | nil => rfl
    | cons a r ih => simp only [List.map_cons, shrL, ih]
  have e3 : ∀ R : List Rt, R.map (·.1) = (R.map fun p => (p.1, p.2.shr)).map (·.1) := fun R => by
    induction R with
    | nil => rfl
    | cons a r ih => simp only [List.map_cons, ih]
  show Reps K H (((er σ e).map fun p => (p.1, p.2.shr)).map (·.1)) (((er σ e).map fun p => (p.1, p.2.shr)).map (·.2)) [] S'
  rw [← e2, ← e3]
  exact r'
/-- what is lent comes back -/
theorem lend_imp {K : PySem.W.Frag} {a : T} {σ : L2.St} {H : Hp} {Q : VK} (h : tD K Φ (.lend a) σ H Q) : tD K Φ a σ H Q := by
  obtain ⟨B, e, Γ, d, e', w, hd, q⟩ := h
  rw [evE] at hd
  split at hd
  · rename_i d0 e0 h0
    split at hd
    · rename_i hns
      obtain ⟨rfl, rfl⟩ := Prod.mk.inj (Option.some.inj hd)
      have w0 : W K B H ([] ++ (Γ ++ er σ e)) := w.w
      obtain ⟨F, S, F1, S1, F2, S2, F3, S3, o, r1, r2, r3, eF, eS⟩ := w0.parts
      cases r1
      obtain ⟨Sf, rf, qf⟩ := rs_frozen r3
      subst eF eS
      have wf : Wd K ⟨H, [], Sf, B.pr⟩ σ (e.map fun o => o.map D.shr) [] H := by
        refine ⟨⟨by rw [List.length_map]; exact w.fit.1, fun i d hi => ?_⟩, w.pr, ⟨[], Sf, rf, ⟨List.nodup_nil, (fun _ z => nomatch z), (fun _ z => nomatch z), fun a z => .inr (.inl z), fun b u e _ => e, o.sz⟩⟩⟩
        rw [List.getElem?_map] at hi
        cases hq : e[i]? with
        | none => rw [hq] at hi; cases hi
        | some x =>
          cases x with
          | none => rw [hq] at hi; cases hi
          | some d' => exact w.fit.2 i d' hq
      refine ⟨_, _, [], d0, e0, wf, h0, fun v H' w' => q v H' ?_⟩
      have w1 : W K ⟨H, [], Sf, B.pr⟩ H' [(v, d0)] := by
        have w2 : W K ⟨H, [], Sf, B.pr⟩ H' ((v, d0) :: ([] ++ er σ e0)) := w'.w
        have p : ((v, d0) :: ([] ++ er σ e0)).Perm (er σ e0 ++ [(v, d0)]) := by
          simpa using (List.perm_append_comm (l₁ := [(v, d0)]) (l₂ := er σ e0))
        exact W.dropN (w2.perm p)
      have r23 : Rs K H (Γ ++ er σ e) (F2 ++ F3) (S2 ++ S3) := by
        show Reps K H _ _ _ _
        rw [List.map_append, List.map_append]
        exact Reps.app r2 r3
      have wc : W K B H' ([(v, d0)] ++ (Γ ++ er σ e)) := by
        refine W.call (Fa := []) (Sa := Sf) (pr := B.pr) o (fun a ha => by simpa using ha) (by simpa using o.nd) r23 (fun a z => by simpa using z) (fun a ha => ?_) (fun _ z => (nomatch z)) w1 (.inl fun F' S' rs => ?_)
        · rcases qf a ha with z | z
          · exact .inl (by simp [z])
          · exact .inr (by simp [z])
        · cases rs with
          | cons r0 t0 => cases t0; rw [r0.ns hns]; rfl
      exact ⟨w.fit, w.pr, wc⟩
    · cases hd
  · cases hd
theorem SE_lend {a : T} (s : SE Φ k n a) : SE Φ k n (.lend a) := by
  intro X sc e O h
  rw [chkE, Bool.and_eq_true] at h
  exact (s O h.2).imp fun σ H Q q => lend_imp q
theorem lend_pl {a : T} {sc : Scope} {e : Expr} (h : chkE n sc (.lend a) e = true) : plT e = true := by
  rw [chkE, Bool.and_eq_true] at h
  obtain ⟨h0, h⟩ := h
  cases a <;> try (cases h0; done)
  · cases e <;> first | rfl | (simp [chkE] at h; done)
  · rcases chk_b1 h with ⟨_, _, _, _, rfl, _⟩ | ⟨_, _, _, _, _, _, _, rfl, _⟩ <;> rfl
  · obtain ⟨_, _, _, _, _, _, rfl, _⟩ := chk_lc h; rfl
theorem all_terms : ∀ t : T, AllT Φ k n t := by
  intro t
  induction t with
  | nil => exact ⟨noSE rfl, noST rfl, SL_nil, SG_nil, noSI rfl, noSW rfl, noSW rfl, fun a b z => by cases z⟩
  | cons a r ia ir => exact ⟨noSE rfl, noST rfl, SL_cons ia.e ir.l, SG_cons ia.e ir.g, noSI rfl, noSW rfl, noSW rfl, fun a b z => by cases z⟩
  | v i => exact mkAll (SE_v i) (ST_pl (SE_v i) fun {sc e} h => by cases e <;> first | rfl | (simp [chkE] at h; done)) rfl rfl (noSW (noBool (by simp) (by simp) (by simp))) (noSW (noBool (by simp) (by simp) (by simp))) (by simp)
  | w i => exact mkAll (SE_w i) (ST_pl (SE_w i) fun {sc e} h => by cases e <;> first | rfl | (simp [chkE] at h; done)) rfl rfl (noSW (noBool (by simp) (by simp) (by simp))) (noSW (noBool (by simp) (by simp) (by simp))) (by simp)
  | non => exact mkAll SE_non (ST_pl SE_non fun {sc e} h => by cases e <;> first | rfl | (simp [chkE] at h; done)) rfl rfl (noSW (noBool (by simp) (by simp) (by simp))) (noSW (noBool (by simp) (by simp) (by simp))) (by simp)
  | bl b => exact mkAll (SE_bl b) (ST_pl (SE_bl b) fun {sc e} h => by cases e <;> first | rfl | (simp [chkE] at h; done)) rfl rfl (noSW (noBool (by simp) (by simp) (by simp))) (noSW (noBool (by simp) (by simp) (by simp))) (by simp)
  | int i => exact mkAll (SE_int i) (ST_pl (SE_int i) fun {sc e} h => by cases e <;> first | rfl | (simp [chkE] at h; done)) rfl rfl (noSW (noBool (by simp) (by simp) (by simp))) (noSW (noBool (by simp) (by simp) (by simp))) (by simp)
  | str x => exact mkAll (SE_str x) (ST_pl (SE_str x) fun {sc e} h => by cases e <;> first | rfl | (simp [chkE] at h; done)) rfl rfl (noSW (noBool (by simp) (by simp) (by simp))) (noSW (noBool (by simp) (by simp) (by simp))) (by simp)
  | lend a ia =>
    have s : SE Φ k n (.lend a) := SE_lend ia.e
    exact mkAll s (ST_pl s fun {sc e} h => lend_pl h) rfl rfl (noSW (noBool (by simp) (by simp) (by simp))) (noSW (noBool (by simp) (by simp) (by simp))) (by simp)
  | frz a ia => exact mkAll (SE_frz ia.e) (ST_frz ia.tt) rfl rfl (SW_frz ia.wa) (SW_frz ia.wo) (by simp)
  | bin o a b ia ib => exact mkAll (SE_bin ia.e ib.e) (ST_pl (SE_bin ia.e ib.e) fun {sc e} h => by cases e <;> first | rfl | (simp [chkE] at h; done)) rfl rfl (noSW (noBool (by simp) (by simp) (by simp))) (noSW (noBool (by simp) (by simp) (by simp))) (by simp)
  | neg a ia => exact mkAll (SE_neg ia.e) (ST_pl (SE_neg ia.e) fun {sc e} h => by cases e <;> first | rfl | (simp [chkE] at h; done) | (rename_i o _ _; cases o <;> first | rfl | (simp [chkE] at h; done))) rfl rfl (noSW (noBool (by simp) (by simp) (by simp))) (noSW (noBool (by simp) (by simp) (by simp))) (by simp)
  | cmp o a b ia ib => exact mkAll (SE_cmp ia.e ib.e) (ST_cmp ia.e ib.e) rfl rfl (noSW (noBool (by simp) (by simp) (by simp))) (noSW (noBool (by simp) (by simp) (by simp))) (by simp)
  | eq a b ia ib => exact mkAll (SE_eq ia.e ib.e) (ST_eq ia.e ib.e) rfl rfl (noSW (noBool (by simp) (by simp) (by simp))) (noSW (noBool (by simp) (by simp) (by simp))) (by simp)
  | ne a b ia ib => exact mkAll (SE_ne ia.e ib.e) (ST_ne ia.e ib.e) rfl rfl (noSW (noBool (by simp) (by simp) (by simp))) (noSW (noBool (by simp) (by simp) (by simp))) (by simp)
  | isN a ia => exact mkAll (SE_isN ia.e) (ST_isN ia.e) rfl rfl (noSW (noBool (by simp) (by simp) (by simp))) (noSW (noBool (by simp) (by simp) (by simp))) (by simp)
  | nisN a ia => exact mkAll (SE_nisN ia.e) (ST_nisN ia.e) rfl rfl (noSW (noBool (by simp) (by simp) (by simp))) (noSW (noBool (by simp) (by simp) (by simp))) (by simp)
  | chain o o' a b c ia ib ic => exact mkAll (SE_chain ia.e ib.e ic.e) (ST_chain ia.e ib.e ic.e) rfl rfl (noSW (noBool (by simp) (by simp) (by simp))) (noSW (noBool (by simp) (by simp) (by simp))) (by simp)
  | and a b ia ib =>
    have sw : SW Φ k n .And (.and a b) := SW_and ia.tt ib.tt ib.wa
    exact mkAll (SE_and ia.e ib.e) (ST_and sw) rfl rfl sw (noSW rfl) (by simp)
  | or a b ia ib =>
    have sw : SW Φ k n .Or (.or a b) := SW_or ia.tt ib.tt ib.wo
    exact mkAll (SE_or ia.e ib.e) (ST_or sw) rfl rfl (noSW rfl) sw (by simp)
  | not a ia => exact mkAll (SE_not ia.e) (ST_not ia.tt) rfl rfl (noSW (noBool (by simp) (by simp) (by simp))) (noSW (noBool (by simp) (by simp) (by simp))) (by simp)
  | ife c a b ic ia ib => exact mkAll (SE_ife ic.tt ia.e ib.e) (ST_ife ic.tt ia.tt ib.tt) rfl rfl (noSW (noBool (by simp) (by simp) (by simp))) (noSW (noBool (by simp) (by simp) (by simp))) (by simp)
  | tup a ia => exact mkAll (SE_tup ia.l) (ST_pl (SE_tup ia.l) fun {sc e} h => by cases e <;> first | rfl | (simp [chkE] at h; done)) rfl rfl (noSW (noBool (by simp) (by simp) (by simp))) (noSW (noBool (by simp) (by simp) (by simp))) (by simp)
  | lst a ia => exact mkAll (SE_lst ia.l) (ST_pl (SE_lst ia.l) fun {sc e} h => by cases e <;> first | rfl | (simp [chkE] at h; done)) rfl rfl (noSW (noBool (by simp) (by simp) (by simp))) (noSW (noBool (by simp) (by simp) (by simp))) (by simp)
  | ix a b ia ib => exact mkAll (SE_ix ia.e ib.e) (ST_pl (SE_ix ia.e ib.e) fun {sc e} h => by cases e <;> first | rfl | (simp [chkE] at h; done)) rfl rfl (noSW (noBool (by simp) (by simp) (by simp))) (noSW (noBool (by simp) (by simp) (by simp))) (by simp)
  | sl a lo hi ia il ih => exact mkAll (SE_sl ia.e il.e ih.e) (ST_pl (SE_sl ia.e il.e ih.e) fun {sc e} h => by cases e <;> first | rfl | (simp [chkE] at h; done)) rfl rfl (noSW (noBool (by simp) (by simp) (by simp))) (noSW (noBool (by simp) (by simp) (by simp))) (by simp)
  | call f a ia => exact mkAll (SE_call ia.g) (ST_pl (SE_call ia.g) fun {sc e} h => by cases e <;> first | rfl | (simp [chkE] at h; done)) rfl rfl (noSW (noBool (by simp) (by simp) (by simp))) (noSW (noBool (by simp) (by simp) (by simp))) (by simp)
  | b1 c a ia => exact mkAll (SE_b1 ia.e) (ST_pl (SE_b1 ia.e) fun {sc e} h => by rcases chk_b1 h with ⟨_, _, _, _, rfl, _⟩ | ⟨_, _, _, _, _, _, _, rfl, _⟩ <;> rfl) rfl rfl (noSW (noBool (by simp) (by simp) (by simp))) (noSW (noBool (by simp) (by simp) (by simp))) (by simp)
  | lrev a ia => exact mkAll (SE_lrev ia.e) (ST_pl (SE_lrev ia.e) fun {sc e} h => by cases e <;> first | rfl | (simp [chkE] at h; done)) rfl rfl (noSW (noBool (by simp) (by simp) (by simp))) (noSW (noBool (by simp) (by simp) (by simp))) (by simp)
  | lrg a b ia ib => exact mkAll (SE_lrg ia.e ib.e) (ST_pl (SE_lrg ia.e ib.e) fun {sc e} h => by cases e <;> first | rfl | (simp [chkE] at h; done)) rfl rfl (noSW (noBool (by simp) (by simp) (by simp))) (noSW (noBool (by simp) (by simp) (by simp))) (by simp)
  | bn c a ia => exact mkAll (SE_bn ia.l) (ST_pl (SE_bn ia.l) fun {sc e} h => by cases e <;> first | rfl | (simp [chkE] at h; done)) rfl rfl (noSW (noBool (by simp) (by simp) (by simp))) (noSW (noBool (by simp) (by simp) (by simp))) (by simp)
  | inn a b ia ib => exact mkAll (SE_inn ia.e ib.e) (ST_inn ia.e ib.e) rfl rfl (noSW (noBool (by simp) (by simp) (by simp))) (noSW (noBool (by simp) (by simp) (by simp))) (by simp)
  | nin a b ia ib => exact mkAll (SE_nin ia.e ib.e) (ST_nin ia.e ib.e) rfl rfl (noSW (noBool (by simp) (by simp) (by simp))) (noSW (noBool (by simp) (by simp) (by simp))) (by simp)
  | rng1 a ia => exact ⟨noSE rfl, noST rfl, noSL rfl, noSG rfl, SI_rng1 ia.e, noSW rfl, noSW rfl, fun a b z => by cases z⟩
  | rng2 a b ia ib => exact ⟨noSE rfl, noST rfl, noSL rfl, noSG rfl, SI_rng2 ia.e ib.e, noSW rfl, noSW rfl, fun a b z => by cases z⟩
  | rng3 a b c ia ib => exact ⟨noSE rfl, noST rfl, noSL rfl, noSG rfl, SI_rng3 ia.e ib.e, noSW rfl, noSW rfl, fun a b z => by cases z⟩
  | zip a b ia ib => exact ⟨noSE rfl, noST rfl, noSL rfl, noSG rfl, fun hz => absurd rfl (hz a b), noSW rfl, noSW rfl, fun a' b' z => by cases z; exact ⟨ia.e, ib.e⟩⟩
  | itr a ia => exact ⟨noSE rfl, noST rfl, noSL rfl, noSG rfl, SI_itr ia.e, noSW rfl, noSW rfl, fun a b z => by cases z⟩
  | lc tg it c el ii ic ie =>
    have s : SE Φ k n (.lc tg it c el) := SE_lc (tg := tg) ⟨ii.i, ii.iz, ic.tt, ie.e⟩
    exact mkAll s (ST_pl s fun {sc e} h => by obtain ⟨_, _, _, _, _, _, rfl, _⟩ := chk_lc h; rfl) rfl rfl (noSW (noBool (by simp) (by simp) (by simp))) (noSW (noBool (by simp) (by simp) (by simp))) (by simp)
  | fld c i f => exact mkAll (SE_fld c i f) (ST_pl (SE_fld c i f) fun {sc e} h => by cases e <;> first | rfl | (simp [chkE] at h; done)) rfl rfl (noSW (noBool (by simp) (by simp) (by simp))) (noSW (noBool (by simp) (by simp) (by simp))) (by simp)
  | fldv c i f => exact mkAll (SE_fldv c i f) (ST_pl (SE_fldv c i f) fun {sc e} h => by cases e <;> first | rfl | (simp [chkE] at h; done)) rfl rfl (noSW (noBool (by simp) (by simp) (by simp))) (noSW (noBool (by simp) (by simp) (by simp))) (by simp)
  | mcl c f i a ia => exact mkAll (SE_mcl ia.g) (ST_pl (SE_mcl ia.g) fun {sc e} h => by cases e <;> first | rfl | (simp [chkE] at h; done)) rfl rfl (noSW (noBool (by simp) (by simp) (by simp))) (noSW (noBool (by simp) (by simp) (by simp))) (by simp)
  | mk c f a ia => exact mkAll (SE_mk ia.g) (ST_pl (SE_mk ia.g) fun {sc e} h => by cases e <;> first | rfl | (simp [chkE] at h; done)) rfl rfl (noSW (noBool (by simp) (by simp) (by simp))) (noSW (noBool (by simp) (by simp) (by simp))) (by simp)
  | cfl c i fl f a ia => exact mkAll SE_cfl (ST_pl SE_cfl fun {sc e} h => by cases e <;> first | rfl | (simp [chkE] at h; done)) rfl rfl (noSW (noBool (by simp) (by simp) (by simp))) (noSW (noBool (by simp) (by simp) (by simp))) (by simp)
  | isT g b a ia => exact mkAll (SE_isT ia.e) (ST_isT ia.e) rfl rfl (noSW (noBool (by simp) (by simp) (by simp))) (noSW (noBool (by simp) (by simp) (by simp))) (by simp)
  | dnew => exact mkAll SE_dnew (ST_pl SE_dnew fun {sc e} h => by cases e <;> first | rfl | (simp [chkE] at h; done)) rfl rfl (noSW (noBool (by simp) (by simp) (by simp))) (noSW (noBool (by simp) (by simp) (by simp))) (by simp)
  | din g a p ia ip => exact mkAll SE_din ST_din rfl rfl (noSW (noBool (by simp) (by simp) (by simp))) (noSW (noBool (by simp) (by simp) (by simp))) (by simp)
  | dix p a ip ia => exact mkAll SE_dix (ST_pl SE_dix fun {sc e} h => by cases e <;> first | rfl | (simp [chkE] at h; done)) rfl rfl (noSW (noBool (by simp) (by simp) (by simp))) (noSW (noBool (by simp) (by simp) (by simp))) (by simp)
  | fldw c i f => exact mkAll (SE_fldw c i f) (ST_pl (SE_fldw c i f) fun {sc e} h => by cases e <;> first | rfl | (simp [chkE] at h; done)) rfl rfl (noSW (noBool (by simp) (by simp) (by simp))) (noSW (noBool (by simp) (by simp) (by simp))) (by simp)
  | pop p ip => exact mkAll (SE_pop p) (ST_pl (SE_pop p) fun {sc e} h => by cases e <;> first | rfl | (simp [chkE] at h; done)) rfl rfl (noSW (noBool (by simp) (by simp) (by simp))) (noSW (noBool (by simp) (by simp) (by simp))) (by simp)
  | _ => exact ⟨noSE rfl, noST rfl, noSL rfl, noSG rfl, noSI rfl, noSW rfl, noSW rfl, fun a b z => by cases z⟩
end
end Sr
set_option Elab.async false
set_option linter.all false
set_option maxRecDepth 100000
set_option maxHeartbeats 2000000
/-! # Sr: statements -/
namespace Sr
open PySem PySem.Spec PyProof.Rows L2

/-- what stands where a statement ends -/
def Post (K : PySem.W.Frag) (B : Bs) (Γ : List Rt) (D : Ends) (Wx : Nat → L2.St → Hp → Prop) : Fl × Env → Prop
  | (.nx, e) => ∀ σ H, Wd K B σ e Γ H → D.nx σ H
  | (.rt d, e) => ∀ σ v H, Wd K B σ e ((v, d) :: Γ) H → D.rt v H
  | (.bk, e) => ∀ σ H, Wd K B σ e Γ H → D.bk σ H
  | (.ct, e) => ∀ σ H, Wd K B σ e Γ H → D.ct σ H
  | (.xc c, e) => ∀ σ H, Wd K B σ e Γ H → Wx c σ H
def tS (K : PySem.W.Frag) (Φ : Fs) (pr : List Nat) (Wx : Nat → L2.St → Hp → Prop) (t : T) : TS := fun D σ H => ∃ B e Γ r, (∀ p ∈ B.pr, p.1 ∈ pr) ∧ Wd K B σ e Γ H ∧ evS Φ t e = some r ∧ Post K B Γ D Wx r

/-! ### the text of a statement -/
def isLc : Expr → Bool
  | .ListComp .. => true
  | .SetComp .. => true
  | .DictComp .. => true
  | _ => false
def isTd : Expr → Bool
  | .Tuple .. => true
  | _ => false
/-- the text of a call that may let something out -/
def chkX (n : Nm) (sc : Scope) : T → Expr → Bool
  | .call f (.cons x a), e => chkE n sc (.call f (.cons x a)) e
  | .tup (.cons (.str s) (.cons (.call f (.cons x a)) .nil)), e => chkE n sc (.tup (.cons (.str s) (.cons (.call f (.cons x a)) .nil))) e
  | _, _ => false
/-- the text of what a clause asks and does -/
def chkXQ (n : Nm) (sc : Scope) : T → Expr → Bool
  | .bl b, .Constant (.bool c) _ _ => b == c
  | .isx i t, .Call (.Name x _) [.Name y _, .Name z _] [] _ => bltB sc "isinstance" x && nameB n sc i y && decide (z = xnm t) && glB sc z && !(z == ("__debug__" : Str)) && (n.xc t || decide (t = 11))
  | .isxs i ts, .Call (.Name x _) [.Name y _, .Tuple es _ _] [] _ => bltB sc "isinstance" x && nameB n sc i y && ts.all n.xc && decide (ts.length < 16) && decide (es.length = ts.length) && (ts.zip es).all fun p => match p with
    | (t, .Name z _) => decide (z = xnm t) && glB sc z && !(z == ("__debug__" : Str))
    | _ => false
  | .not a, .UnaryOp .Not e _ => chkXQ n sc a e
  | .and a b, .BoolOp .And [e, f] _ => chkXQ n sc a e && chkXQ n sc b f
  | .tup (.cons (.str s) (.cons a .nil)), .Tuple [.Constant (.str x) _ _, e] _ _ => decide (s = x) && chkXQ n sc a e
  | _, _ => false
def isQI : T → Bool
  | .isx .. => true
  | .isxs .. => true
  | _ => false
mutual
def chkXS (n : Nm) (sc : Scope) (pr : List Nat) : T → Stmt → Bool
  | .asg i q, .Assign [.Name x _] e _ => decide (n.N[i]? = some x) && locB sc x && !pr.contains i && !isLc e && chkXQ n sc q e
  | .cond q a b, .If g p r _ => isQI q && chkXQ n sc q g && chkXB n sc pr a p && chkXB n sc pr b r
  | _, _ => false
def chkXB (n : Nm) (sc : Scope) (pr : List Nat) : T → List Stmt → Bool
  | .pass, [] => true
  | .seq a r, s :: ss => chkXS n sc pr a s && chkXB n sc pr r ss
  | _, _ => false
end
/-- the slots that a clause reads -/
def xsl : T → Nat → Bool
  | .isx i _, j => decide (i = j)
  | .isxs i _, j => decide (i = j)
  | .not a, j => xsl a j
  | .and a b, j => xsl a j && xsl b j
  | .tup (.cons (.str _) (.cons a .nil)), j => xsl a j
  | .asg i q, j => decide (i ≠ j) && xsl q j
  | .cond q a b, j => xsl q j && xsl a j && xsl b j
  | .seq a r, j => xsl a j && xsl r j
  | .pass, _ => true
  | .bl _, _ => true
  | _, _ => false
/-- the text of the clauses -/
def chkH (n : Nm) (sc : Scope) (pr : List Nat) : T → List ExceptHandler → Bool
  | .nil, [] => true
  | .cons (.hd c i q) r, .ExceptHandler (some (.Name x _)) (some y) (s :: ss) _ :: hds => decide (x = xnm c) && n.xc c && glB sc x && !(x == ("__debug__" : Str)) && decide (n.N[i]? = some y) && decide (sc.names.lookup y = some .local) && !pr.contains i && chkXB n sc pr q (s :: ss) && xsl q i && chkH n sc pr r hds
  | _, _ => false
mutual
def chkS (n : Nm) (sc : Scope) (pr : List Nat) : T → Stmt → Bool
  | .pass, .Pass _ => true
  | .pass, .Expr (.Constant (.str _) _ _) _ => true
  | .asg i a, .Assign [.Name x _] e _ => decide (n.N[i]? = some x) && locB sc x && !pr.contains i && chkE n sc a e
  | .upk tg a, .Assign [.Tuple gs gk gp] e _ => tgB n sc tg (.Tuple gs gk gp) && tg.all (fun i => !pr.contains i) && !isLc e && !isTd e && chkE n sc a e
  | .st p i a, .Assign [.Subscript o f _] e _ => isPl p && isP i && chkE n sc p o && chkE n sc i f && chkE n sc a e
  | .dst p i a, .Assign [.Subscript o f _] e _ => isPl p && isP i && chkE n sc p o && chkE n sc i f && chkE n sc a e
  | .app i a, .Expr (.Call (.Attribute (.Name x _) m apos) [e] [] cpos) _ => decide (m = ("append" : Str)) && (apos.endLine == cpos.line) && nameB n sc i x && chkE n sc a e
  | .apq p a, .Expr (.Call (.Attribute o m apos) [e] [] cpos) _ => decide (m = ("append" : Str)) && (apos.endLine == cpos.line) && isPl p && chkE n sc p o && chkE n sc a e
  | .sfl c i f a, .Assign [.Attribute (.Name x _) g _] e _ => decide (f = g) && (cfl c).contains f && n.kc c && nameB n sc i x && chkE n sc a e
  | .exP f i k, .Expr (.Call (.Name x _) [.Subscript (.Name y yp) (.Constant (.int j) kk jp) sp] [] _) _ => decide (x = n.fn f) && n.nf f && glB sc x && !(x == ("__debug__" : Str)) && chkE n sc (.ix (.v i) (.int k)) (.Subscript (.Name y yp) (.Constant (.int j) kk jp) sp)
  | .ex a, .Expr e _ => !isLc e && chkE n sc a e
  | .cond c a b, .If g p q _ => chkE n sc c g && chkB n sc pr a p && chkB n sc pr b q
  | .whl ks c b, .While g p [] _ => chkE n sc c g && chkB n sc pr b p
  | .for_ tg ks it b, .For g i p [] _ => chkI n sc it i && tgB n sc tg g && okTg it tg && tg.all (fun i => !pr.contains i) && chkB n sc pr b p
  | .fow tg ks a b, .For g i p [] _ => chkE n sc a i && tgB n sc tg g && tg.all (fun i => !pr.contains i) && chkB n sc pr b p
  | .ret a, .Return (some e) _ => chkE n sc a e
  | .ret .non, .Return none _ => true
  | .brk, .Break _ => true
  | .cnt, .Continue _ => true
  | .rse, .Raise .. => true
  | .rs c, .Raise (some (.Call (.Name x _) [.Constant (.str _) _ _] [] _)) none _ => decide (x = xnm c) && n.xr c && glB sc x && !(x == ("__debug__" : Str))
  | .exX a, .Expr e _ => !isLc e && chkX n sc a e
  | .asgX i a, .Assign [.Name x _] e _ => decide (n.N[i]? = some x) && locB sc x && !pr.contains i && !isLc e && chkX n sc a e
  | .tri a hs, .Try p hds [] [] _ => chkB n sc pr a p && chkH n sc pr hs hds && !hds.isEmpty
  | _, _ => false
def chkB (n : Nm) (sc : Scope) (pr : List Nat) : T → List Stmt → Bool
  | .pass, [] => true
  | .seq a r, s :: ss => chkS n sc pr a s && chkB n sc pr r ss
  | _, _ => false
end

section
variable {Φ : Fs} {k : Nat} {n : Nm} {pr : List Nat} {Wx : Nat → L2.St → Hp → Prop} {X : Cx} {sc : Scope} {K : PySem.W.Frag} {B : Bs} {Γ Γ' : List Rt} {σ : L2.St} {e : Env} {H : Hp}
theorem OkX.loc (O : OkX Φ k n X sc) {x : Str} (h : locB sc x = true) : Loc X.env.scope x := by
  rw [O.sc]
  unfold locB at h
  split at h
  · exact .inl (by assumption)
  · exact .inr (by assumption)
  · cases h
theorem Wd.permG (w : Wd K B σ e Γ H) (p : Γ.Perm Γ') : Wd K B σ e Γ' H := ⟨w.fit, w.pr, w.w.perm (p.append_right _)⟩
theorem Wd.unhold {hold : List Rt} (w : Wd K B σ e (hold ++ Γ) H) : Wd K B σ e Γ H := ⟨w.fit, w.pr, W.dropN (by have := w.w; rwa [List.append_assoc] at this)⟩
/-- an assignment of a value to a name -/
theorem S_asg {i : Nat} {a : T} (hi : i ∉ pr) : ∀ D σ H, tS K Φ pr Wx (.asg i a) D σ H → tAsg (tD K Φ a) (gName i) D σ H := by
  rintro D σ H ⟨B, e, Γ, r, hp, w, h, q⟩
  rw [evS] at h
  split at h
  · rename_i d e1 h1
    cases h
    refine ⟨B, e, Γ, d, e1, w, h1, fun v H' w' => ?_⟩
    exact q _ _ (w'.asgT fun p hpp z => hi (z ▸ hp p hpp))
  · cases h
/-- name = value -/
def SAs (Φ : Fs) (k : Nat) (n : Nm) (pr : List Nat) (Wx : Nat → L2.St → Hp → Prop) (a : T) : Prop := ∀ {i : Nat} {x : Str} {p pos : Pos} {X : Cx} {sc : Scope} {e : Expr}, (∀ x, X.fn x = true) → i ∉ pr → n.N[i]? = some x → locB sc x = true → OkX Φ k n X sc → chkE n sc a e = true → PS X (.Assign [.Name x p] e pos) (tS X.K Φ pr Wx (.asg i a))
theorem sw_no {e : Expr} {t : Option Expr} {l : Nat} {env : PySem.Env} (h : isLc e = false) : swapsWith e t l env = pure false := by
  cases e <;> first | rfl | cases h
theorem SAs_pl {a : T} (s : SE Φ k n a) (h : ∀ {sc : Scope} {e : Expr}, chkE n sc a e = true → isLc e = false) : SAs Φ k n pr Wx a := by
  intro i x p pos X sc e hf hi hN hl O hc
  exact (ps_set O.nd (by rw [O.N]; exact hN) (O.loc hl) (s O hc) (sw_no (h hc)) (.inl (hf x))).imp (S_asg hi)
theorem SAs_frz {a : T} (s : SAs Φ k n pr Wx a) : SAs Φ k n pr Wx (.frz a) := by
  intro i x p pos X sc e hf hi hN hl O hc
  rw [chkE] at hc
  refine (s hf hi hN hl O hc).imp ?_
  rintro D σ H ⟨B, e, Γ, r, hp, w, h, q⟩
  rw [evS] at h
  split at h
  · rename_i d e1 h1
    cases h
    rw [evE] at h1
    split at h1
    · rename_i d0 e0 h0
      obtain ⟨rfl, rfl⟩ := inj2 h1
      refine ⟨B, e, Γ, (.nx, e0.set i (some d0)), hp, w, by rw [evS, h0], fun σ' H' w' => q σ' H' ?_⟩
      by_cases hl : i < e0.length
      · have hat : Sr.Env.at (e0.set i (some d0)) i = some d0 := at_iff.mpr (List.getElem?_set_self hl)
        obtain ⟨v, hv, _⟩ := w'.read hat
        have m := (w'.move hat hv).shr.put2 (i := i) hv
        rw [List.set_set, List.set_set] at m
        exact m
      · rw [set_ge (by omega)] at w' ⊢; exact w'
    · cases h1
  · cases h
theorem SAs_lc' {tg : List Nat} {it c el : T} (P : LcParts Φ k n it c el) {i : Nat} {y : Str} {p spos : Pos} {X : Cx} {sc : Scope} {e : Expr} (hf : ∀ x, X.fn x = true) (hN : n.N[i]? = some y) (hl : locB sc y = true) (O : OkX Φ k n X sc) (h : chkE n sc (.lc tg it c el) e = true) : PS X (.Assign [.Name y p] e spos) (tAsg (tD X.K Φ (.lc tg it c el)) (gName i)) := by
  have h0 := h
  obtain ⟨x, g, j, fs, scope, pos, rfl, L⟩ := chk_lc h
  have sw : swapsWith (.ListComp x [⟨g, j, fs, 0⟩] scope pos) (some (.Name y p)) spos.line X.env = pure (X.env.blockKind == .function && X.env.kindOf y == some .local && p.line == pos.line && !(scope.names.any fun (n, k) => n == y && (k == .local || k == .cell))) := rfl
  cases hc : (X.env.blockKind == .function && X.env.kindOf y == some .local && p.line == pos.line && !(scope.names.any fun (n, k) => n == y && (k == .local || k == .cell))) with
  | false =>
    rw [hc] at sw
    exact (ps_set O.nd (by rw [O.N]; exact hN) (O.loc hl) (SE_lc P O h0) sw (.inl (hf y)))
  | true =>
    rw [hc] at sw
    have hyl : X.env.scope.names.lookup y = some .local := by
      simp only [Bool.and_eq_true, beq_iff_eq] at hc
      exact hc.1.1.2
    have hi' := SI_any P.i P.iz O L.ht L.ok L.hi
    have z := ps_setLc (pos := pos) (spos := spos) (py := p) (i := i) (own := ownOf n tg) (g := gOf X.K tg) (tt := tTs X.K Φ c fs) (te := tD X.K Φ el) O.calm O.nd (by rw [O.N]; exact hN) hyl sw hi' (blkOk_by (by rw [O.N, O.sc]; exact L.blk)) (fun s H C cl fp => pg_ok (X := X.blk s H scope (compEnvC scope cl C X.env) fp) O.N O.nd O.calm (blk_loc O s H scope C cl fp) L.ht) (fun s H C cl fp => lc_ht P.c O L.hf s H C cl fp) (fun s H C cl fp => P.el (O.blk s H scope C cl fp) L.he) (foldS (chkI_pl L.hi))
    refine z.imp fun D σ H q => ?_
    rw [own_map L.ht]
    exact lc_imp (fun e => by
      rcases L.hf with ⟨_, h⟩ | ⟨f, h, _⟩
      · exact h
      · rw [e] at h; cases h) q
theorem SAs_lc {tg : List Nat} {it c el : T} (P : LcParts Φ k n it c el) : SAs Φ k n pr Wx (.lc tg it c el) := by
  intro i y p spos X sc e hf hi hN hl O h
  exact (SAs_lc' P hf hN hl O h).imp (S_asg hi)
theorem SAs_lend {a : T} : SAs Φ k n pr Wx (.lend a) := by
  intro i y p spos X sc e hf hi hN hl O h
  have h0 := h
  rw [chkE, Bool.and_eq_true] at h
  obtain ⟨ho, h⟩ := h
  cases a with
  | lc tg it c el => exact (SAs_lc' ⟨(all_terms it).i, (all_terms it).iz, (all_terms c).tt, (all_terms el).e⟩ hf hN hl O h).imp fun D σ H q => lend_imp (S_asg hi D σ H q)
  | call f a => exact SAs_pl (all_terms _).e (fun {sc e} h => by cases e <;> first | rfl | (simp [chkE] at h; done)) hf hi hN hl O h0
  | b1 c a => exact SAs_pl (all_terms _).e (fun {sc e} h => by cases e <;> first | rfl | (simp [chkE] at h; done)) hf hi hN hl O h0
  | _ => cases ho
theorem noLc {a : T} (h : ∀ {sc : Scope} {x gs s p}, chkE n sc a (.ListComp x gs s p) = false) (h1 : ∀ {sc : Scope} {x gs s p}, chkE n sc a (.SetComp x gs s p) = false) (h2 : ∀ {sc : Scope} {x y gs s p}, chkE n sc a (.DictComp x y gs s p) = false) {sc : Scope} {e : Expr} (hc : chkE n sc a e = true) : isLc e = false := by
  cases e <;> first | rfl | (rw [h] at hc; cases hc) | (rw [h1] at hc; cases hc) | (rw [h2] at hc; cases hc)
theorem all_asg : ∀ a : T, SAs Φ k n pr Wx a := by
  intro a
  induction a with
  | frz a ih => exact SAs_frz ih
  | lend a ih => exact SAs_lend
  | lc tg it c el _ _ _ => exact SAs_lc ⟨(all_terms it).i, (all_terms it).iz, (all_terms c).tt, (all_terms el).e⟩
  | _ => exact SAs_pl (all_terms _).e (noLc (by intros; rfl) (by intros; rfl) (by intros; rfl))
end
end Sr
set_option Elab.async false
set_option linter.all false
set_option maxRecDepth 100000
set_option maxHeartbeats 2000000
/-! # Sr: what is let out, and caught -/
namespace L2
open PySem PySem.Spec PyProof.Rows
/-- what clauses with names wish of an exception of the body, one after the other -/
def wManyAs (K : PySem.W.Frag) (Wout : WX) (D : Ends) : List (Value × Nat × (Addr → Value → Option Addr → TS)) → WX
  | [] => Wout
  | (c, i, ts) :: r => fun cls d σ H => ∃ b, PySem.W.exmOne K cls c = some b ∧
    (b = true → ∀ a, H a = none → ts a cls d { nx := fun σ' H' => D.nx (σ'.set i none) H', rt := D.rt, bk := fun σ' H' => D.bk (σ'.set i none) H', ct := fun σ' H' => D.ct (σ'.set i none) H' } (σ.set i (some (.ref a))) H) ∧
    (b = false → wManyAs K Wout D r cls d σ H)
inductive HdsAs (X : Cx) : List ExceptHandler → List (Value × Nat × (Addr → Value → Option Addr → TS)) → Prop
  | nil : HdsAs X [] []
  | cons {x n : Str} {c : Value} {i : Nat} {ts : Addr → Value → Option Addr → TS} {b₀ : Stmt} {suite : List Stmt} {np pos' : Pos} {hds : List ExceptHandler} {l : List (Value × Nat × (Addr → Value → Option Addr → TS))} (hc : Names X x c)
      (hi : X.N[i]? = some n) (hln : X.env.kindOf n = some .local)
      (hsu : ∀ (a : Addr) (oe : Obj) (cls : Value) (d : Option Addr) (pn : List (Addr × Obj)), Zc cls d oe → (∃ vs, oe.data = .fields vs) → PSs (X.suite a ((a, oe) :: pn)) (b₀ :: suite) (ts a cls d)) (r : HdsAs X hds l) :
      HdsAs X (.ExceptHandler (some (.Name x np)) (some n) (b₀ :: suite) pos' :: hds) ((c, i, ts) :: l)
section
variable {X : Cx} {body : List Stmt} {h₀ : ExceptHandler} {hds : List ExceptHandler} {l : List (Value × Nat × (Addr → Value → Option Addr → TS))} {pos : Pos} {tb : WX → TS} {Wout : WX}
theorem ps_try_manyAs (hs : X.stack = X.env :: X.outer) (hf : X.env.frame = some X.env.locals) (hN : X.N.Nodup) (tk : Takes X Wout)
    (hb : ∀ (W : WX) (pn : List (Addr × Obj)) (xe : Value → Shared → Prop), Takes (X.tr pn xe) W → PassesOwn (model X.prog X.w) X.A X.env xe → PSs (X.tr pn xe) body (tb W))
    (hh : HdsAs X (h₀ :: hds) l) : PS X (.Try body (h₀ :: hds) [] [] pos) (fun D σ H => tb (wManyAs X.K Wout D l) D σ H) := by
  refine ⟨fun pins s σ H D I h => ?_⟩
  have ok := I.ok
  have hfr : X.A.frames = some (X.env :: X.outer) := by rw [ok.frames, hs]
  refine wpAny_Try_except ?_
  refine wpAny_mono ((hb (wManyAs X.K Wout D l) (X.pn ++ pins) (fun e s₁ => wpAny (model X.prog X.w) X.A (noteFrame e X.env) (fun _ s₂ => wpAny (model X.prog X.w) X.A (setFlight e none) (fun _ s₃ =>
    wpAny (model X.prog X.w) X.A (handleBy e X.env (h₀ :: hds)) (SP X pins D) X.xe s₃) X.xe s₂) X.xe s₁) (fun u s' xx => ?_) PassesOwn.looking).run [] s σ H D (I.toTry _) h) (fun f s1 hsp => ?_) (fun e s1 he => he)
  · -- the catch
    obtain ⟨a, B, sI, pins', σ', H', cls, d, rfl, J', nb, up, sky, na, os, ag, w⟩ := xx
    have J : Inv X pins σ' H' sI := J'.ofTry ok
    have sky' : Sky B (X.env :: X.outer) a (Zc cls d) X.env.locals s'.heap := by rw [← hs]; exact sky
    show wpAny (model X.prog X.w) X.A (noteFrame (.ref a) X.env) _ _ _
    refine Sky.land Zc.steady hfr hf sky' fun h3 fl3 up3 => ?_
    have J3 : Inv X pins σ' H' { s' with heap := h3 } := J.landed nb fl3.1 (up.trans up3) os ag
    obtain ⟨oe3, vs3, he3, hz3, hd3⟩ := fl3.there
    have notFr : ∀ {h : Heap} {o : Obj} {vs : Array Value}, h.FunFrames B (X.env :: X.outer) → h.get? a = some o → o.data = .fields vs → a ∉ frs (X.env :: X.outer) := fun {h o vs} ff e dd hm => by
      obtain ⟨_, o', e', hnf⟩ := ff.mem hm
      rw [e] at e'; cases e'
      exact hnf _ dd
    have nfr := notFr fl3.2.2.1 he3 hd3
    have nL : a ≠ X.env.locals := fun z => nfr (List.mem_filterMap.mpr ⟨X.env, List.mem_cons_self, by rw [hf, z]⟩)
    have nF : a ∉ X.fs := fun hm => by
      obtain ⟨e, he, q⟩ := List.mem_filterMap.mp hm
      exact nfr (List.mem_filterMap.mpr ⟨e, List.mem_cons_of_mem _ he, q⟩)
    have S3 := J3.suite he3 hd3 na nL nF
    have go : ∀ {hds' : List ExceptHandler} {l' : List (Value × Nat × (Addr → Value → Option Addr → TS))}, HdsAs X hds' l' → wManyAs X.K Wout D l' cls d σ' H' →
        wpAny (model X.prog X.w) X.A (handleBy (.ref a) X.env hds') (SP X pins D) X.xe { s' with heap := h3 } := by
      intro hds' l' hk
      induction hk with
      | nil =>
        intro w
        refine wpAny_handleBy_nil ?_
        obtain ⟨k1, k2, k3, oe, vs, T, oT, ts', he, hz, hd, h1, hr⟩ := id fl3
        unfold PySem.passOn
        refine wpAny_bind (wpAny_field he hd h1 ?_)
        rw [if_neg (show ¬ ((Value.ref T == Value.none) = true) from by simp)]
        have fin : wpAny (model X.prog X.w) X.A (setFlight (.ref a) X.env.frame) (fun _ s4 => wpAny (model X.prog X.w) X.A (throw (.ref a) : Sem Flow) (SP X pins D) X.xe s4) X.xe { s' with heap := h3 } := by
          rw [hf]
          refine HandSPX.setFlight_upZ fl3 fun h4 hh4 up4 => wpAny_throw (tk _ _ ?_)
          exact ⟨a, B, sI, pins, σ', H', cls, d, rfl, J, nb, (up.trans up3).trans up4, .inr (.inr (by rw [hs]; exact hh4)), na, os, ag, w⟩
        first
          | exact wpAny_bind (wpAny_pure (wpAny_bind fin))
          | exact wpAny_bind fin
      | @cons x n c i ts b₀ suite np pos' hds2 l2 hc hi hln hsu r ih =>
        intro w
        have hloc : Loc X.env.scope n := .inl hln
        obtain ⟨b, hb1, hyes, hno⟩ := w
        refine wpAny_handleBy_cons (codeAny_handlers_test ?_) (by intro q; cases q)
        have LT : PySem.W.Looks (model X.prog X.w) h3 (typeOf (.ref a)) cls := fun A Q E s k q => wpAny_typeOf_ref (k _ _ he3) (by rw [hz3.1]; exact q)
        have LM := PySem.W.exm_one (M := model X.prog X.w) (J3.kIn) LT hb1
        have test : ∀ {Q : Value → Shared → Prop} {E : Value → Shared → Prop}, Q c { s' with heap := h3 } → wpAny (model X.prog X.w) (X.A.mark (some (.ref a))) (eval (.Name x np) X.env) Q E { s' with heap := h3 } := fun {Q E} q => by
          obtain ⟨hg, hdbg, hm | ⟨hm, hv, hnn⟩⟩ := hc
          · exact ld_glob (X := X.suite a ((a, oe3) :: (X.pn ++ pins))) S3 hg hm q hdbg
          · exact ld_blt (X := X.suite a ((a, oe3) :: (X.pn ++ pins))) S3 hg hm hv q hnn hdbg
        refine test (LM.here ?_)
        cases b with
        | true =>
          refine codeAny_handlers_suite_as ?_
          refine HandSPX.lands_againZ fl3 fun h4 fl4 up4 => ?_
          have J4 : Inv X pins σ' H' { s' with heap := h4 } := J.landed nb fl4.1 ((up.trans up3).trans up4) os ag
          obtain ⟨oe4, vs4, he4, hz4, hd4⟩ := fl4.there
          have S4 := J4.suite he4 hd4 na nL nF
          refine store_ok (X := X.suite a ((a, oe4) :: (X.pn ++ pins))) (v := .ref a) S4 hN hi hloc rfl (fun s5 S5 => ?_) (.inr hln)
          refine wpAny_mono ((hsu a oe4 cls d (X.pn ++ pins) hz4 ⟨_, hd4⟩).run [] s5 _ H' _ S5 (hyes rfl a na)) (fun f s6 hsp => ?_) (fun _ _ z => False.elim z)
          have end_ : ∀ {σ6 : St} {H6 : Hp} {Q : Shared → Prop}, Inv (X.suite a ((a, oe4) :: (X.pn ++ pins))) [] σ6 H6 s6 → (∀ s7, Inv X pins (σ6.set i none) H6 s7 → Q s7) →
              wpAny (model X.prog X.w) X.A (do bindName X.env n .none; unbindBehindTheSuite X.env n pos') (fun _ s7 => Q s7) X.xe s6 := fun {σ6 H6 Q} S6 hq => gone_ok (S6.unsuite ok) hN hi hln hq
          cases f with
          | next =>
            obtain ⟨σ6, H6, S6, q6⟩ := hsp
            exact end_ S6 fun s7 J7 => ⟨_, _, J7, q6⟩
          | brk =>
            obtain ⟨σ6, H6, S6, q6⟩ := hsp
            exact end_ S6 fun s7 J7 => ⟨_, _, J7, q6⟩
          | cont =>
            obtain ⟨σ6, H6, S6, q6⟩ := hsp
            exact end_ S6 fun s7 J7 => ⟨_, _, J7, q6⟩
          | ret u =>
            obtain ⟨v6, σ6, H6, S6, r6, q6⟩ := hsp
            exact end_ S6 fun s7 J7 => ⟨_, _, _, J7, r6, q6⟩
        | false =>
          show wpAny _ X.A (handleBy (.ref a) X.env hds2) _ _ _
          exact ih (hno rfl)
    exact go hh w
  · cases f with
    | next =>
      obtain ⟨σ', H', J', q⟩ := hsp
      exact wpAny_execs_nil ⟨σ', H', J'.ofTry ok, q⟩
    | brk =>
      obtain ⟨σ', H', J', q⟩ := hsp
      exact ⟨σ', H', J'.ofTry ok, q⟩
    | cont =>
      obtain ⟨σ', H', J', q⟩ := hsp
      exact ⟨σ', H', J'.ofTry ok, q⟩
    | ret u =>
      obtain ⟨v, σ', H', J', r, q⟩ := hsp
      exact ⟨v, σ', H', J'.ofTry ok, r, q⟩
end
/-- isinstance(e, (c1, ..)), e the exception that the suite holds -/
def rIsET (K : PySem.W.Frag) (D a : Addr) : List V → Hp → VK → Prop := fun xs H Q => ∃ (tp : Addr) (cs : List V) (us : List Value) (b : Bool), xs = [.ref a, .ref tp] ∧ H tp = some (.tup cs) ∧ Paired ClsV cs us ∧ PySem.W.kitAny K (.ref D) us = some b ∧ Q (.bl b) H
theorem call_isET {X : Cx} {a D : Addr} {oe : Obj} {pn : List (Addr × Obj)} (C : ExcC X.K D) (hz : Zc (.ref D) none oe) (hf : ∃ vs, oe.data = .fields vs) : CallR (X.suite a ((a, oe) :: pn)) (.builtin "isinstance") (rIsET X.K D a) := by
  intro pins s σ H xs us Q I r h
  obtain ⟨tp, cs, ws, b, rfl, hT, k, e, q⟩ := h
  obtain ⟨u1, u2, rfl, r1, r2⟩ := vals2 r
  cases (show u1 = Value.ref a from r1)
  cases (show u2 = Value.ref tp from r2)
  obtain ⟨hget, _⟩ := I.pin (a, oe) (List.mem_append.mpr (.inl List.mem_cons_self))
  obtain ⟨vs, hv⟩ := hf
  have J : PySem.W.InstAt s.heap a oe D none := by
    obtain ⟨oc, od, oda, osl⟩ := oe
    obtain ⟨h1, h2⟩ := hz
    dsimp only at h1 h2 hv
    subst h1 h2 hv
    exact ⟨hget, rfl, rfl, trivial⟩
  obtain ⟨_, its, rv, o, h1, h2, n, h3⟩ := (show ObjOk X.prog X.w H s.heap tp (.tup cs) from I.hok tp _ hT)
  have e3 := ClsV.all k rv
  subst e3
  obtain ⟨oc, od, dt, sl⟩ := o
  simp only at h2 h3
  subst h2 h3
  exact PySem.W.kia_tup (PySem.W.handS_kitx_exc C.hg C.hk C.hs C.hd C.ha C.hn C.ht C.hm) I.kIn J h1 e (fun z => nomatch z) fun tk => ⟨.bl b, H, I.tok tk, rfl, q⟩
end L2
namespace Sr
open PySem PySem.Spec PyProof.Rows L2
/-- what is known of the classes of what is let out -/
structure XOk (K : PySem.W.Frag) (mg : Str → Option Value) (xr xc : Nat → Bool) : Prop where
  rc : ∀ c, xr c = true → xc c = true
  cl : ∀ c, xr c = true → ∃ C, mg (xnm c) = some (.ref C) ∧ PySem.W.excIn K C HandSPX.veTail "ValueError.__new__" = true ∧ PySem.W.keepIn K (.ref C) = true ∧ PySem.W.typeIn K (.ref C) = some (.type "type") ∧ ExcC K C ∧ PySem.W.subIn K (.ref C) (.type "ValueError") = some true
  tc : ∀ t, xc t = true → ∃ T, mg (xnm t) = some (.ref T) ∧ PySem.W.subIn K (.ref T) (.type "BaseException") = some true ∧ PySem.W.hasDictIn K T = true ∧ PySem.W.typeIn K (.ref T) = some (.type "type")
  rel : ∀ c t C T, xr c = true → xc t = true → mg (xnm c) = some (.ref C) → mg (xnm t) = some (.ref T) → PySem.W.subIn K (.ref C) (.ref T) = some (isub c t)
  ve : (∃ c, xr c = true) → mg "ValueError" = none
section
variable {K : PySem.W.Frag} {mg : Str → Option Value} {xr xc : Nat → Bool} {c t : Nat} {C T : Addr}
theorem XOk.kit (O : XOk K mg xr xc) (hr : xr c = true) (ht : xc t = true) (hC : mg (xnm c) = some (.ref C)) (hT : mg (xnm t) = some (.ref T)) : PySem.W.kitOne K (.ref C) (.ref T) = some (isub c t) := by
  have r := O.rel c t C T hr ht hC hT
  unfold PySem.W.kitOne
  by_cases e : C = T
  · subst e
    rw [if_pos (by simp)]
    have r2 := O.rel c c C C hr (O.rc c hr) hC hC
    rw [r] at r2
    have z : isub c c = true := by simp [isub]
    rw [z] at r2
    exact r2.symm
  · rw [if_neg (by simpa using e)]
    obtain ⟨T', h1, h2, h3, h4⟩ := O.tc t ht
    rw [hT] at h1
    cases h1
    obtain ⟨cd, hcd, _⟩ := PySem.W.any_some h3
    have e2 : ((PySem.W.clsIn K T).isSome && PySem.W.typeIn K (.ref T) == some (.type "type")) = true := by rw [hcd, h4]; rfl
    show (if _ = true then _ else _) = _
    rw [if_pos e2]
    exact r
theorem XOk.exm (O : XOk K mg xr xc) (hr : xr c = true) (ht : xc t = true) (hC : mg (xnm c) = some (.ref C)) (hT : mg (xnm t) = some (.ref T)) : PySem.W.exmOne K (.ref C) (.ref T) = some (isub c t) := by
  obtain ⟨T', h1, h2, h3, h4⟩ := O.tc t ht
  rw [hT] at h1
  cases h1
  exact PySem.W.exm_ref h2 h3 h4 (O.rel c t C T hr ht hC hT)
theorem kit_ve (h : PySem.W.subIn K (.ref C) (.type "ValueError") = some true) : PySem.W.kitOne K (.ref C) (.type "ValueError") = some true := by
  unfold PySem.W.kitOne
  rw [if_neg (by simp)]
  unfold PySem.W.kitCls
  simp only
  rw [if_pos (by decide +kernel)]
  exact h
end
section
variable {Φ : Fs} {k : Nat} {n : Nm} {pr : List Nat} {Wx : Nat → L2.St → Hp → Prop} {X : Cx} {sc : Scope} {K : PySem.W.Frag} {B : Bs} {Γ Γ' : List Rt} {σ : L2.St} {e : Env} {H : Hp}
theorem Wd.newT {p : Addr} {vs : List V} (w : Wd K B σ e Γ H) (hp : H p = none) (hl : vs.length ≤ sizeLine) : Wd K B σ e Γ (upd H p (.tup vs)) := by
  obtain ⟨F, S, r, o⟩ := w.w
  refine ⟨w.fit, w.pr, F, S, Reps.same (Same.new hp) r, ⟨o.nd, o.dj, o.fF, o.fS, fun b u eb nb => ?_, o.sz.tup hl⟩⟩
  have := o.kp b u eb nb
  rw [upd_ne (fun z => by rw [z, hp] at this; cases this)]
  exact this
/-- a slot of which nothing is known may hold anything -/
theorem Wd.reslot {i : Nat} {o : Option V} (w : Wd K B σ e Γ H) (hp : ∀ p ∈ B.pr, p.1 ≠ i) : Wd K B (σ.set i o) (e.set i none) Γ H := by
  have w1 := w.kill1 i
  refine ⟨⟨by rw [List.length_set, List.length_set]; exact w.fit.1, fun j d h => ?_⟩, fun p hpp => ?_, by rw [er_none]; exact w1.w⟩
  · by_cases hj : i = j
    · subst hj
      by_cases hl : i < e.length
      · rw [List.getElem?_set_self hl] at h; cases h
      · rw [List.getElem?_eq_none (by rw [List.length_set]; omega)] at h; cases h
    · rw [List.getElem?_set_ne hj] at h ⊢
      exact w.fit.2 j d h
  · rw [List.getElem?_set_ne (Ne.symm (hp p hpp))]
    exact w.pr p hpp
/-- what a clause asks -/
def tXQ (K : PySem.W.Frag) (i c : Nat) (a : Addr) (t : T) : TE := fun σ H Q => ∃ B e Γ d, xsl t i = true ∧ σ[i]? = some (some (.ref a)) ∧ Wd K B σ e Γ H ∧ evXQ c t = some d ∧ ∀ v H', Wd K B σ e ((v, d) :: Γ) H' → Q v H'
theorem kitAny_c2 {K : PySem.W.Frag} {t c : Value} {cs : List Value} {b r : Bool} (h : PySem.W.kitOne K t c = some b) (hr : PySem.W.kitAny K t cs = some r) : PySem.W.kitAny K t (c :: cs) = some (b || r) := by
  have e : PySem.W.kitAny K t (c :: cs) = match PySem.W.kitOne K t c with
    | some true => some true
    | some false => PySem.W.kitAny K t cs
    | none => none := rfl
  rw [e, h]
  cases b with
  | true => rfl
  | false => simpa using hr
theorem pairedC : ∀ Ts : List Addr, Paired ClsV (Ts.map V.ref) (Ts.map Value.ref)
  | [] => .nil
  | T :: Ts => .cons (.own T) (pairedC Ts)
theorem names_pa {Y : Cx} {C : Addr} {c : Nat} (O : XOk Y.K Y.mg n.xr n.xc) (hr : n.xr c = true) (hC : Y.mg (xnm c) = some (.ref C)) (gl : ∀ x, glB sc x = true → Gl Y x) : ∀ {ts : List Nat} {es : List Expr}, (ts.all n.xc) = true → es.length = ts.length → ((ts.zip es).all fun p => match p with
    | (t, .Name z _) => decide (z = xnm t) && glB sc z && !(z == ("__debug__" : Str))
    | _ => false) = true → ∃ Ts : List Addr, Ts.length = ts.length ∧ PySem.W.kitAny Y.K (.ref C) (Ts.map Value.ref) = some (ts.any (isub c)) ∧ PA Y es (fun _ H Q => Q (Ts.map V.ref) H)
  | [], es, _, hl, _ => by
    cases es with
    | nil => exact ⟨[], rfl, rfl, pa_nil⟩
    | cons _ _ => simp at hl
  | t :: ts, es, h1, hl, h2 => by
    cases es with
    | nil => simp at hl
    | cons y es =>
      simp only [List.all_cons, Bool.and_eq_true] at h1
      simp only [List.zip_cons_cons, List.all_cons, Bool.and_eq_true] at h2
      obtain ⟨h2, h3⟩ := h2
      cases y <;> try (simp at h2; done)
      rename_i z zp
      simp only [Bool.and_eq_true, decide_eq_true_eq, Bool.not_eq_true'] at h2
      obtain ⟨⟨rfl, h4⟩, h5⟩ := h2
      obtain ⟨Ts, e1, e2, e3⟩ := names_pa O hr hC gl h1.2 (by simpa using hl) h3
      obtain ⟨T, hT, _⟩ := O.tc t h1.1
      refine ⟨T :: Ts, by simp [e1], ?_, (pa_cons (pe_glob (v := .ref T) (gl _ h4) hT rfl h5) e3 rfl).imp fun σ H Q q => q⟩
      rw [List.map_cons, List.any_cons]
      refine kitAny_c2 (O.kit hr h1.1 hC hT) e2
theorem star_xq {e : Expr} {t : T} {es : List Expr} {env : PySem.Env} (h : chkXQ n sc t e = true) : starEach (e :: es) env = (false, eval e env) :: starEach es env := by
  refine star_pl ?_
  cases e <;> first | rfl | (cases t <;> simp [chkXQ] at h)
theorem Wd.add2 {v : V} {d : D} (w : Wd K B σ e Γ H) (r : Rep K H v d [] []) : Wd K B σ e ((v, d) :: Γ) H := ⟨w.fit, w.pr, w.w.add r⟩
theorem XQ_all {a C : Addr} {oe : Obj} {pn : List (Addr × Obj)} {i c : Nat} (O : OkX Φ k n X sc) (XO : XOk X.K X.mg n.xr n.xc) (hr : n.xr c = true) (hC : X.mg (xnm c) = some (.ref C)) (hz : Zc (.ref C) none oe) (hf : ∃ vs, oe.data = .fields vs) :
    ∀ t : T, (∀ {e : Expr}, chkXQ n sc t e = true → PE (X.suite a ((a, oe) :: pn)) e (tXQ X.K i c a t)) ∧ (∀ b, t = .cons b .nil → ∀ {e : Expr}, chkXQ n sc b e = true → PE (X.suite a ((a, oe) :: pn)) e (tXQ X.K i c a b)) ∧ (∀ y b, t = .cons y (.cons b .nil) → ∀ {e : Expr}, chkXQ n sc b e = true → PE (X.suite a ((a, oe) :: pn)) e (tXQ X.K i c a b)) := by
  have gl : ∀ x, glB sc x = true → Gl (X.suite a ((a, oe) :: pn)) x := fun x h => O.gl h
  obtain ⟨C', hC', hex, hk, hty, hE, hve⟩ := XO.cl c hr
  rw [hC] at hC'
  cases hC'
  have nm : ∀ {j : Nat} {y : Str} {p : Pos}, nameB n sc j y = true → PE (X.suite a ((a, oe) :: pn)) (.Name y p) (tVar j) := fun {j y p} h => by
    obtain ⟨a1, b1, c1, d1⟩ := nameB_iff h
    exact pe_var (by show X.N[j]? = _; rw [O.N]; exact a1) (O.vis b1) c1 d1
  intro t
  induction t with
  | bl b =>
    refine ⟨?_, (fun _ z => nomatch z), fun _ _ z => nomatch z⟩
    intro e h
    cases e <;> try (simp [chkXQ] at h; done)
    rename_i cc _ _
    cases cc <;> try (simp [chkXQ] at h; done)
    rw [chkXQ, beq_iff_eq] at h
    subst h
    refine pe_bl.imp ?_
    rintro σ H Q ⟨B, e, Γ, d, _, _, w, hd, q⟩
    cases hd
    exact q _ _ (w.bl _)
  | isx j t =>
    refine ⟨?_, (fun _ z => nomatch z), fun _ _ z => nomatch z⟩
    intro e h
    unfold chkXQ at h
    split at h <;> try (simp_all; done)
    all_goals (rename_i heq; cases heq)
    simp only [Bool.and_eq_true, decide_eq_true_eq, Bool.not_eq_true', Bool.or_eq_true] at h
    obtain ⟨⟨⟨⟨⟨h1, h2⟩, rfl⟩, h4⟩, h5⟩, h6⟩ := h
    obtain ⟨rfl, hg⟩ := bltB_iff h1
    have cls : ∃ (v : V) (u : Value), (∀ zp : Pos, PE (X.suite a ((a, oe) :: pn)) (.Name (xnm t) zp) (tC v)) ∧ (∀ u', RelV v u' → u' = u) ∧ PySem.W.kitOne X.K (.ref C) u = some (isub c t) := by
      by_cases h7 : n.xc t = true
      · obtain ⟨T, hT, _⟩ := XO.tc t h7
        exact ⟨.ref T, .ref T, fun zp => pe_glob (gl _ h4) hT rfl h5, fun u' r => r, XO.kit hr h7 hC hT⟩
      · have h8 : t = 11 := by
          rcases h6 with h6 | h6
          · exact absurd h6 h7
          · exact h6
        subst h8
        refine ⟨.ty "ValueError", .type "ValueError", fun zp => pe_bltn (gl _ h4) (XO.ve ⟨c, hr⟩) (by decide +kernel) rfl (by decide) h5, fun u' r => r, ?_⟩
        have : isub c 11 = true := by simp [isub]
        rw [this]
        exact kit_ve hve
    obtain ⟨v, u, p1, p2, p3⟩ := cls
    refine (pe_callB (call_isE hE hz hf) (gl _ hg) (O.blt (by decide)) (by decide +kernel) (pa_cons (nm h2) (pa_cons (p1 _) pa_nil rfl) rfl)).imp ?_
    rintro σ H Q ⟨B, e, Γ, d, hx, hs, w, hd, q⟩
    simp only [xsl, decide_eq_true_eq] at hx
    subst hx
    cases hd
    exact ⟨_, hs, v, u, _, rfl, p2, p3, q _ _ (w.bl _)⟩
  | isxs j ts =>
    refine ⟨?_, (fun _ z => nomatch z), fun _ _ z => nomatch z⟩
    intro e h
    unfold chkXQ at h
    split at h <;> try (simp_all; done)
    all_goals (rename_i heq; cases heq)
    simp only [Bool.and_eq_true, decide_eq_true_eq] at h
    obtain ⟨⟨⟨⟨⟨h1, h2⟩, h3⟩, h4⟩, h5⟩, h6⟩ := h
    obtain ⟨rfl, hg⟩ := bltB_iff h1
    obtain ⟨Ts, e1, e2, e3⟩ := names_pa (Y := X.suite a ((a, oe) :: pn)) XO hr hC gl h3 h5 h6
    refine (pe_callB (call_isET hE hz hf) (gl _ hg) (O.blt (by decide)) (by decide +kernel) (pa_cons (nm h2) (pa_cons (pe_tup e3) pa_nil rfl) rfl)).imp ?_
    rintro σ H Q ⟨B, e, Γ, d, hx, hs, w, hd, q⟩
    simp only [xsl, decide_eq_true_eq] at hx
    subst hx
    cases hd
    have hlen : (Ts.map V.ref).length ≤ sizeLine := by rw [List.length_map, e1, sizeLine_eq]; omega
    refine ⟨_, hs, hlen, fun p hp => ⟨p, Ts.map V.ref, Ts.map Value.ref, _, rfl, upd_same, ?_, e2, q _ _ ((w.newT hp hlen).bl _)⟩⟩
    exact pairedC Ts
  | not a ih =>
    refine ⟨?_, (fun _ z => nomatch z), fun _ _ z => nomatch z⟩
    intro e h
    cases e <;> try (simp [chkXQ] at h; done)
    rename_i op _ _
    cases op <;> try (simp [chkXQ] at h; done)
    rw [chkXQ] at h
    refine (pe_not (ih.1 h)).imp ?_
    rintro σ H Q ⟨B, e, Γ, d, hx, hs, w, hd, q⟩
    rw [evXQ] at hd
    split at hd
    · rename_i b hb
      cases hd
      refine ⟨B, e, Γ, _, hx, hs, w, hb, fun v H' w' => ⟨b, w'.headBl, ?_⟩⟩
      exact q _ _ (w'.drop.bl _)
    · cases hd
  | and a b iha ihb =>
    refine ⟨?_, (fun _ z => nomatch z), fun _ _ z => nomatch z⟩
    intro e h
    unfold chkXQ at h
    split at h <;> try (simp_all; done)
    all_goals (rename_i heq; cases heq)
    simp only [Bool.and_eq_true] at h
    refine (pe_and (iha.1 h.1) (pe_one (ihb.1 h.2))).imp ?_
    rintro σ H Q ⟨B, e, Γ, d, hx, hs, w, hd, q⟩
    simp only [xsl, Bool.and_eq_true] at hx
    rw [evXQ] at hd
    split at hd
    · rename_i ha
      split at hd
      · rename_i x hb
        cases hd
        refine ⟨B, e, Γ, _, hx.1, hs, w, ha, fun v H' w' => ⟨true, w'.headBl, ?_⟩⟩
        exact ⟨B, e, Γ, _, hx.2, hs, w'.drop, hb, q⟩
      · cases hd
    · rename_i ha
      cases hd
      refine ⟨B, e, Γ, _, hx.1, hs, w, ha, fun v H' w' => ⟨false, w'.headBl, ?_⟩⟩
      exact q _ _ (w'.drop.bl _)
    · cases hd
  | cons b r ihb ihr =>
    refine ⟨by intro e h; simp [chkXQ] at h, fun b' z e h => ?_, fun y b' z e h => ?_⟩
    · cases z
      exact ihb.1 h
    · cases z
      exact ihr.2.1 _ rfl h
  | tup b ih =>
    refine ⟨?_, (fun _ z => nomatch z), fun _ _ z => nomatch z⟩
    intro e h
    unfold chkXQ at h
    split at h <;> try (simp_all; done)
    all_goals (rename_i heq; cases heq)
    simp only [Bool.and_eq_true, decide_eq_true_eq] at h
    obtain ⟨rfl, h2⟩ := h
    refine (pe_tup (pa_cons pe_str (pa_cons (ih.2.2 _ _ rfl h2) pa_nil (star_xq h2)) rfl)).imp ?_
    rintro σ H Q ⟨B, e, Γ, d, hx, hs, w, hd, q⟩
    simp only [xsl] at hx
    rw [evXQ] at hd
    split at hd
    · rename_i x hb
      cases hd
      refine ⟨B, e, Γ, _, hx, hs, w, hb, fun v H' w' => ⟨by rw [sizeLine_eq]; simp, fun p hp => q _ _ ?_⟩⟩
      have w2 := w'.add2 (Rep.str ‹Str›)
      exact ⟨w.fit, w.pr, W.tupV (vs := [.str ‹Str›, v]) (ds := [.str ‹Str›, .bl x]) w2.w rfl hp (by rw [sizeLine_eq]; simp)⟩
    · cases hd
  | _ => exact ⟨by intro e h; simp [chkXQ] at h, (fun _ z => nomatch z), fun _ _ z => nomatch z⟩
theorem XQ_ok {a C : Addr} {oe : Obj} {pn : List (Addr × Obj)} {i c : Nat} (O : OkX Φ k n X sc) (XO : XOk X.K X.mg n.xr n.xc) (hr : n.xr c = true) (hC : X.mg (xnm c) = some (.ref C)) (hz : Zc (.ref C) none oe) (hf : ∃ vs, oe.data = .fields vs) :
    ∀ {t : T} {e : Expr}, chkXQ n sc t e = true → PE (X.suite a ((a, oe) :: pn)) e (tXQ X.K i c a t) := fun {t} => (XQ_all O XO hr hC hz hf t).1
/-- what a clause does -/
def tXS' (K : PySem.W.Frag) (pr : List Nat) (i c : Nat) (a : Addr) (t : T) : TS := fun D σ H => ∃ B e Γ e', (∀ p ∈ B.pr, p.1 ∈ pr) ∧ xsl t i = true ∧ σ[i]? = some (some (.ref a)) ∧ Wd K B σ e Γ H ∧ evXS c t e = some e' ∧ ∀ σ' H', σ'[i]? = some (some (.ref a)) → Wd K B σ' e' Γ H' → D.nx σ' H'
theorem true_xq {e : Expr} {t : T} {env : PySem.Env} (hi : isQI t = true) (h : chkXQ n sc t e = true) : ∀ whole, isTrue e env whole = (do let v ← whole; standAt e.pos; holding [v] (truthy v)) := by
  intro whole
  cases t <;> first | (simp [isQI] at hi; done) | (cases e <;> first | rfl | (simp [chkXQ] at h; done))
theorem XS_all {a C : Addr} {oe : Obj} {pn : List (Addr × Obj)} {i c : Nat} (O : OkX Φ k n X sc) (hfn : ∀ x, X.fn x = true) (XO : XOk X.K X.mg n.xr n.xc) (hr : n.xr c = true) (hC : X.mg (xnm c) = some (.ref C)) (hz : Zc (.ref C) none oe) (hf : ∃ vs, oe.data = .fields vs) :
    ∀ t : T, (∀ {st : Stmt}, chkXS n sc pr t st = true → PS (X.suite a ((a, oe) :: pn)) st (tXS' X.K pr i c a t)) ∧ (∀ {sts : List Stmt}, chkXB n sc pr t sts = true → PSs (X.suite a ((a, oe) :: pn)) sts (tXS' X.K pr i c a t)) := by
  intro t
  induction t with
  | pass =>
    refine ⟨by intro st h; simp [chkXS] at h, fun {sts} h => ?_⟩
    cases sts with
    | nil =>
      refine pss_nil.imp ?_
      rintro D σ H ⟨B, e, Γ, e', hp, _, hs, w, hd, q⟩
      cases hd
      exact q σ H hs w
    | cons _ _ => simp [chkXB] at h
  | seq x r ia ir =>
    refine ⟨by intro st h; simp [chkXS] at h, fun {sts} h => ?_⟩
    cases sts with
    | nil => simp [chkXB] at h
    | cons s ss =>
      simp only [chkXB, Bool.and_eq_true] at h
      refine (pss_cons (ia.1 h.1) (ir.2 h.2)).imp ?_
      rintro D σ H ⟨B, e, Γ, e', hp, hx, hs, w, hd, q⟩
      simp only [xsl, Bool.and_eq_true] at hx
      rw [evXS] at hd
      split at hd
      · rename_i e1 h1
        exact ⟨B, e, Γ, e1, hp, hx.1, hs, w, h1, fun σ' H' hs' w' => ⟨B, e1, Γ, e', hp, hx.2, hs', w', hd, q⟩⟩
      · cases hd
  | asg j x _ =>
    refine ⟨fun {st} h => ?_, by intro sts h; simp [chkXB] at h⟩
    unfold chkXS at h
    split at h <;> try (simp_all; done)
    all_goals (rename_i heq; cases heq)
    simp only [Bool.and_eq_true, decide_eq_true_eq, Bool.not_eq_true', List.contains_eq_mem, decide_eq_false_iff_not] at h
    obtain ⟨⟨⟨⟨h1, h2⟩, h3⟩, h4⟩, h5⟩ := h
    refine (ps_set (X := X.suite a ((a, oe) :: pn)) O.nd (by show X.N[j]? = _; rw [O.N]; exact h1) (O.loc h2) (XQ_ok (i := i) O XO hr hC hz hf h5) (sw_no h4) (.inl (hfn _))).imp ?_
    rintro D σ H ⟨B, e, Γ, e', hp, hx, hs, w, hd, q⟩
    simp only [xsl, Bool.and_eq_true, decide_eq_true_eq] at hx
    rw [evXS] at hd
    split at hd
    · rename_i d hq
      cases hd
      refine ⟨B, e, Γ, d, hx.2, hs, w, hq, fun v H' w' => ?_⟩
      exact q _ _ (by rw [List.getElem?_set_ne hx.1]; exact hs) (w'.asgT fun p hpp z => h3 (z ▸ hp p hpp))
    · cases hd
  | cond g x y _ ix iy =>
    refine ⟨fun {st} h => ?_, by intro sts h; simp [chkXB] at h⟩
    unfold chkXS at h
    split at h <;> try (simp_all; done)
    all_goals (rename_i heq; cases heq)
    simp only [Bool.and_eq_true] at h
    refine (ps_if (pt_val (XQ_ok (i := i) O XO hr hC hz hf h.1.1.2) (true_xq h.1.1.1 h.1.1.2)) (ix.2 h.1.2) (iy.2 h.2)).imp ?_
    rintro D σ H ⟨B, e, Γ, e', hp, hx, hs, w, hd, q⟩
    simp only [xsl, Bool.and_eq_true] at hx
    rw [evXS] at hd
    split at hd
    · rename_i b hq
      refine ⟨B, e, Γ, _, hx.1.1, hs, w, hq, fun v H' w' => ⟨b, w'.headBl, ?_⟩⟩
      cases b with
      | true => rw [if_pos rfl] at hd ⊢; exact ⟨B, e, Γ, e', hp, hx.1.2, hs, w'.drop, hd, q⟩
      | false => rw [if_neg Bool.false_ne_true] at hd ⊢; exact ⟨B, e, Γ, e', hp, hx.2, hs, w'.drop, hd, q⟩
    · cases hd
  | _ => exact ⟨by intro st h; simp [chkXS] at h, by intro sts h; simp [chkXB] at h⟩
end
end Sr
set_option Elab.async false
set_option linter.all false
set_option maxRecDepth 100000
set_option maxHeartbeats 2000000
/-! # Sr: statements, loops -/
namespace Sr
open PySem PySem.Spec PyProof.Rows L2
section
variable (Φ : Fs) (k : Nat) (n : Nm) (pr : List Nat) (Wx : Nat → L2.St → Hp → Prop)
structure OkS (X : Cx) (sc : Scope) : Prop where
  x : OkX Φ k n X sc
  fn : ∀ x, X.fn x = true
  hs : X.stack = X.env :: X.outer
  hf : X.env.frame = some X.env.locals
  xk : XOk X.K X.mg n.xr n.xc
  tk : Takes X (fun cls d σ H => d = none ∧ ∃ c, n.xr c = true ∧ X.mg (xnm c) = some cls ∧ Wx c σ H)
def SS (t : T) : Prop := ∀ {X : Cx} {sc : Scope} {st : Stmt}, OkS Φ k n Wx X sc → chkS n sc pr t st = true → PS X st (tS X.K Φ pr Wx t)
def SB (t : T) : Prop := ∀ {X : Cx} {sc : Scope} {sts : List Stmt}, OkS Φ k n Wx X sc → chkB n sc pr t sts = true → PSs X sts (tS X.K Φ pr Wx t)
end
section
variable {Φ : Fs} {k : Nat} {n : Nm} {pr : List Nat} {Wx : Nat → L2.St → Hp → Prop} {X : Cx} {sc : Scope} {K : PySem.W.Frag} {B : Bs} {Γ Γ' : List Rt} {σ : L2.St} {e : Env} {H : Hp}
theorem SS_pass : SS Φ k n pr Wx .pass := by
  intro X sc st O h
  have i : ∀ D σ H, tS X.K Φ pr Wx .pass D σ H → tNext D σ H := by
    rintro D σ H ⟨B, e, Γ, r, hp, w, h, q⟩
    rw [evS] at h
    cases h
    exact q σ H w
  unfold chkS at h
  split at h <;> first | exact ps_pass.imp i | exact ps_doc.imp i | simp_all
theorem SB_pass : SB Φ k n pr Wx .pass := by
  intro X sc sts O h
  cases sts with
  | nil =>
    refine pss_nil.imp ?_
    rintro D σ H ⟨B, e, Γ, r, hp, w, h, q⟩
    rw [evS] at h
    cases h
    exact q σ H w
  | cons _ _ => simp [chkB] at h
theorem SB_seq {a r : T} (sa : SS Φ k n pr Wx a) (sr : SB Φ k n pr Wx r) : SB Φ k n pr Wx (.seq a r) := by
  intro X sc sts O h
  cases sts with
  | nil => simp [chkB] at h
  | cons s ss =>
    simp only [chkB, Bool.and_eq_true] at h
    refine (pss_cons (sa O h.1) (sr O h.2)).imp ?_
    rintro D σ H ⟨B, e, Γ, r, hp, w, h, q⟩
    rw [evS] at h
    split at h
    · rename_i e1 h1
      exact ⟨B, e, Γ, _, hp, w, h1, fun σ' H' w' => ⟨B, e1, Γ, r, hp, w', h, q⟩⟩
    · rename_i r1 hn h1
      cases h
      refine ⟨B, e, Γ, _, hp, w, h1, ?_⟩
      obtain ⟨f, e1⟩ := r
      cases f with
      | nx => exact absurd rfl (hn e1)
      | rt d => exact q
      | bk => exact q
      | ct => exact q
      | xc c => exact q
    · cases h
theorem SS_sfl {c i : Nat} {f : Str} {a : T} : SS Φ k n pr Wx (.sfl c i f a) := by
  intro X sc st O h
  unfold chkS at h
  split at h <;> try (simp_all; done)
  all_goals (rename_i heq; cases heq)
  simp only [Bool.and_eq_true, decide_eq_true_eq] at h
  obtain ⟨⟨⟨⟨h1, h2⟩, h3⟩, h4⟩, h5⟩ := h
  subst h1
  rename_i x xp ap e0 pos
  obtain ⟨C0, hC, hcls, hno⟩ := O.x.kc c h3
  have hsw : swapsWith e0 (some (.Attribute (.Name x xp) f ap)) pos.line X.env = pure false := by cases e0 <;> rfl
  refine (ps_fld (O.x.name (pos := xp) h4) ((all_terms a).e O.x h5) hsw).imp ?_
  rintro D σ H ⟨B, e, Γ, r, hp, w, h, q⟩
  rw [evS] at h
  split at h
  · rename_i x0 e1 h1
    split at h
    · rename_i d hd
      split at h
      · rename_i d' hd'
        cases h
        refine ⟨B, e, Γ, x0, e1, w, h1, fun v H' w' => ?_⟩
        obtain ⟨a0, C, dx, fs, g1, g2, g3, g4, g5⟩ := putFld_ok w' hd hd'
        rw [hC] at g2
        cases g2
        exact ⟨_, g1, a0, C0, dx, fs, rfl, g3, hcls.cl, hno f (List.contains_iff_mem.mp h2), g4, q _ _ g5⟩
      · cases h
    · cases h
  · cases h
theorem SS_asg {i : Nat} {a : T} : SS Φ k n pr Wx (.asg i a) := by
  intro X sc st O h
  unfold chkS at h
  split at h <;> try (simp_all; done)
  all_goals (rename_i heq; cases heq)
  simp only [Bool.and_eq_true, decide_eq_true_eq, Bool.not_eq_true', List.contains_eq_mem, decide_eq_false_iff_not] at h
  obtain ⟨⟨⟨h1, h2⟩, h3⟩, h4⟩ := h
  exact all_asg a O.fn h3 h1 h2 O.x h4
theorem ssw_no {e : Expr} {t : Expr} {l : Nat} {env : PySem.Env} (h : isLc e = false) : swapsWithSole [t] e l env = pure false := sw_no h
theorem stores_no {e : Expr} {g : Expr} {env : PySem.Env} (h : isTd e = false) : swappedStores [g] e env = pure none := by
  cases e <;> first | (cases g <;> rfl) | cases h
theorem SS_upk {tg : List Nat} {a : T} : SS Φ k n pr Wx (.upk tg a) := by
  intro X sc st O h
  unfold chkS at h
  split at h <;> try (simp_all; done)
  all_goals (rename_i heq; cases heq)
  simp only [Bool.and_eq_true, Bool.not_eq_true', List.contains_eq_mem, decide_eq_false_iff_not, List.all_eq_true] at h
  obtain ⟨⟨⟨⟨h1, h2⟩, h3⟩, h4⟩, h5⟩ := h
  refine (ps_asg ((all_terms a).e O.x h5) (pg_ok O.x.N O.x.nd O.x.calm (fun x hx => ⟨O.x.loc hx, .inl (O.fn x)⟩) h1) (ssw_no h3) (stores_no h4)).imp ?_
  rintro D σ H ⟨B, e, Γ, r, hp, w, h, q⟩
  rw [evS] at h
  split at h
  · rename_i d e1 h1
    split at h
    · rename_i e2 h2'
      cases h
      refine ⟨B, e, Γ, d, e1, w, h1, fun v H' w' => ?_⟩
      exact bind_ok h2' w' (fun p hpp z => h2 _ z (hp p hpp)) fun σ' w2 _ _ => q σ' H' w2
    · cases h
  · cases h
theorem SS_st {p i a : T} : SS Φ k n pr Wx (.st p i a) := by
  intro X sc st O h
  unfold chkS at h
  split at h <;> try (simp_all; done)
  all_goals (rename_i heq; cases heq)
  simp only [Bool.and_eq_true] at h
  obtain ⟨⟨⟨⟨h1, h2⟩, h3⟩, h4⟩, h5⟩ := h
  rename_i o f sp e0 pos
  have hsw : swapsWithSole [.Subscript o f sp] e0 pos.line X.env = pure false := by cases e0 <;> rfl
  have hst : swappedStores [.Subscript o f sp] e0 X.env = pure none := by cases e0 <;> rfl
  refine (ps_asg ((all_terms a).e O.x h5) (pg_sub (pl_ok O.x h1 h3) (evP_ok O.x h2 h4) set_list (by have := chk_pl h4; cases f <;> first | (intro _; rfl) | cases this)) hsw hst).imp ?_
  rintro D σ H ⟨B, e, Γ, r, hp, w, h, q⟩
  rw [evS] at h
  split at h
  · rename_i x e1 hx
    rw [if_pos (by rw [h1, h2]; rfl)] at h
    split at h
    · rename_i kk hk
      split at h
      · rename_i e2 h2'
        cases h
        refine ⟨B, e, Γ, x, e1, w, hx, fun v H' w' => ?_⟩
        obtain ⟨qa, vs, j, g1, g2, g3, g4⟩ := st_ok w' h2'
        refine ⟨B, e1, _, w', _, g1, B, e1, _, _, w', hk, fun u bu => ?_⟩
        rw [bu.int]
        exact ⟨qa, vs, kk, j, rfl, rfl, g2, g3, q _ _ g4⟩
      · cases h
    · cases h
  · cases h
theorem SS_dst {p i a : T} : SS Φ k n pr Wx (.dst p i a) := by
  intro X sc st O h
  unfold chkS at h
  split at h <;> try (simp_all; done)
  all_goals (rename_i heq; cases heq)
  simp only [Bool.and_eq_true] at h
  obtain ⟨⟨⟨⟨h1, h2⟩, h3⟩, h4⟩, h5⟩ := h
  rename_i o f sp e0 pos
  have hsw : swapsWith e0 (some (.Subscript o f sp)) pos.line X.env = pure false := by cases e0 <;> rfl
  refine (ps_dput (hu_of O.x.lv0) (pl_ok O.x h1 h3) (evP_ok O.x h2 h4) ((all_terms a).e O.x h5) hsw).imp ?_
  rintro D σ H ⟨B, e, Γ, r, hp, w, h, q⟩
  rw [evS] at h
  split at h
  · rename_i x e1 hx
    rw [if_pos (by rw [h1, h2]; rfl)] at h
    split at h
    · rename_i kk hk
      split at h
      · rename_i e2 h2'
        cases h
        refine ⟨B, e, Γ, .int x, e1, w, hx, fun v H' w' => ?_⟩
        have ev := w'.headInt
        subst ev
        have w2 := w'.drop
        obtain ⟨qa, kvs, g1, g2, g3, g4⟩ := dput_ok w2 h2'
        refine ⟨B, e1, Γ, w2, _, g1, B, e1, Γ, _, w2, hk, fun u bu => ?_⟩
        rw [bu.int]
        exact ⟨qa, _, rfl, DPut.k (k := Sum.inl kk) g2 g3, q _ _ g4⟩
      · cases h
    · cases h
  · cases h
theorem SS_app {i : Nat} {a : T} : SS Φ k n pr Wx (.app i a) := by
  intro X sc st O h
  unfold chkS at h
  split at h <;> try (simp_all; done)
  all_goals (rename_i heq; cases heq)
  simp only [Bool.and_eq_true, decide_eq_true_eq] at h
  obtain ⟨⟨⟨h1, h2⟩, h3⟩, h4⟩ := h
  subst h1
  rename_i x xp apos e0 cpos pos
  have pe := pe_bm (cpos := cpos) (apos := apos) (name := "append") PySem.F.plainAttrs_list PySem.F.slot_list_append PySem.F.type_list_append (mt_append (X := X)) (O.x.name (pos := xp) h3) (pa_cons ((all_terms a).e O.x h4) pa_nil (star_pl (chk_pl h4))) rfl (by
      rw [star_pl (chk_pl h4)]; rfl) h2 (star_pl (chk_pl h4)) rfl
  refine (ps_expr pe rfl).imp ?_
  rintro D σ H ⟨B, e, Γ, r, hp, w, h, q⟩
  rw [evS] at h
  split at h
  · rename_i ow xs hat
    split at h
    · rename_i y e1 h1
      split at h
      · rename_i e2 h2'
        cases h
        obtain ⟨v, hv, w0⟩ := w.read hat
        refine ⟨v, hv, ?_, B, e, Γ, y, e1, w, h1, fun u H' w' => ?_⟩
        · obtain ⟨F, S, r0, _⟩ := w0
          cases r0 with
          | cons r1 _ =>
            obtain ⟨p, vs, _, _, rfl, hsq, _⟩ := Rep.items r1 rfl
            cases r1 with
            | own e0 _ => exact .inl ⟨rfl, _, SqL.of e0⟩
            | mod e0 _ => exact .inl ⟨rfl, _, .inr e0⟩
            | shr e0 _ => exact .inl ⟨rfl, _, .inl e0⟩
        · obtain ⟨qa, vs, g1, g2, g3, g4⟩ := app_ok w' h2'
          rw [hv] at g1
          cases g1
          exact ⟨qa, vs, u, rfl, rfl, g2, g3, q _ _ g4⟩
      · cases h
    · cases h
  · cases h
theorem chk_tup {a : T} {e : Expr} (h : chkE n sc (.tup a) e = true) : ∃ es k p, e = .Tuple es k p ∧ chkL n sc a es = true := by
  cases e <;> try (simp [chkE] at h; done)
  rw [chkE] at h
  exact ⟨_, _, _, rfl, h⟩
/-- what is only read, or new -/
def tQ (K : PySem.W.Frag) (t : T) : TE := fun σ H Q => ∃ B e Γ d, Wd K B σ e Γ H ∧ evQ t e = some d ∧ ∀ v H', Same H H' → Wd K B σ e ((v, d) :: Γ) H' → Q v H'
def tQl (K : PySem.W.Frag) (t : T) : TA := fun σ H Q => ∃ B e Γ ds, Wd K B σ e Γ H ∧ evQl t e = some ds ∧ ∀ vs H', Same H H' → vs.length = ds.length → Wd K B σ e (vs.zip ds ++ Γ) H' → Q vs H'
theorem evQl_cons {a r : T} {e : Env} (h : ∀ b, a ≠ .tup b) : evQl (.cons a r) e = match evP a e, evQl r e with
    | some d, some ds => if d.un then some (d :: ds) else none
    | _, _ => none := by
  rw [evQl]
  all_goals first | rfl | exact fun b z => h b z
theorem isQl_consP {a r : T} (h : ∀ b, a ≠ .tup b) : isQl (.cons a r) = (isP a && isQl r) := by
  rw [isQl]
  all_goals first | rfl | exact fun b z => h b z
theorem ql_all : ∀ t : T, (∀ {es : List Expr}, OkX Φ k n X sc → isQl t = true → chkL n sc t es = true → PA X es (tQl X.K t)) ∧ ∀ b, t = .tup b → ∀ {es : List Expr}, OkX Φ k n X sc → isQl b = true → chkL n sc b es = true → PA X es (tQl X.K b) := by
  intro t
  induction t with
  | nil =>
    refine ⟨?_, fun _ z => nomatch z⟩
    intro es O _ h
    cases es with
    | nil =>
      refine pa_nil.imp ?_
      rintro σ H Q ⟨B, e, Γ, ds, w, h, q⟩
      rw [evQl] at h
      · cases h
        exact q [] H (Same.refl H) rfl w
      · intro a r z; cases z
      · intro a r z; cases z
    | cons _ _ => simp [chkL] at h
  | cons a r iha ihr =>
    refine ⟨?_, fun _ z => nomatch z⟩
    intro es O hq h
    cases es with
    | nil => simp [chkL] at h
    | cons x xs =>
      simp only [chkL, Bool.and_eq_true] at h
      by_cases ht : ∃ b, a = .tup b
      · obtain ⟨b, rfl⟩ := ht
        simp only [isQl, Bool.and_eq_true] at hq
        obtain ⟨es, k1, k2, rfl, hb⟩ := chk_tup h.1
        refine (pa_cons (pe_tup (iha.2 b rfl O hq.1 hb)) (ihr.1 O hq.2 h.2) (star_pl rfl)).imp ?_
        rintro σ H Q ⟨B, e, Γ, ds, w, hd, q⟩
        rw [evQl] at hd
        split at hd
        · rename_i d ds0 h1 h2
          split at hd
          · rename_i hl
            cases hd
            refine ⟨B, e, Γ, d, w, h1, fun vs H1 s1 hv w1 => ⟨by have := big_le; omega, fun p hp => ?_⟩⟩
            have w2 : Wd X.K B σ e ((.ref p, .tup d) :: Γ) (upd H1 p (.tup vs)) := ⟨w1.fit, w1.pr, by
              have := w1.w
              rw [List.append_assoc] at this
              exact W.tupV this hv hp (by have := big_le; omega)⟩
            refine ⟨B, e, (.ref p, .tup d) :: Γ, ds0, w2, h2, fun us H2 s2 hu w3 => q (.ref p :: us) H2 ((s1.trans (Same.new hp)).trans s2) (by simp [hu]) ?_⟩
            exact w3.permG List.perm_middle
          · cases hd
        · cases hd
      · have ht' : ∀ b, a ≠ .tup b := fun b z => ht ⟨b, z⟩
        rw [isQl_consP ht'] at hq
        simp only [Bool.and_eq_true] at hq
        refine (pa_cons (evP_ok O hq.1 h.1) (ihr.1 O hq.2 h.2) (star_pl (chk_pl h.1))).imp ?_
        rintro σ H Q ⟨B, e, Γ, ds, w, hd, q⟩
        rw [evQl_cons ht'] at hd
        split at hd
        · rename_i d ds0 h1 h2
          split at hd
          · rename_i hu
            cases hd
            refine ⟨B, e, Γ, d, w, h1, fun v bv => ?_⟩
            have w1 : Wd X.K B σ e ((v, d) :: Γ) H := ⟨w.fit, w.pr, bv.un hu⟩
            refine ⟨B, e, (v, d) :: Γ, ds0, w1, h2, fun vs H2 s2 hl w2 => q (v :: vs) H2 s2 (by simp [hl]) ?_⟩
            exact w2.permG List.perm_middle
          · cases hd
        · cases hd
  | tup b ih => exact ⟨by intro es O hq; simp [isQl] at hq, fun b' z => by cases z; exact ih.1⟩
  | _ => exact ⟨by intro es O hq; simp [isQl] at hq, fun _ z => nomatch z⟩
theorem ql_ok {t : T} {es : List Expr} (O : OkX Φ k n X sc) (hq : isQl t = true) (h : chkL n sc t es = true) : PA X es (tQl X.K t) := (ql_all t).1 O hq h
theorem q_ok {t : T} {e : Expr} (O : OkX Φ k n X sc) (hq : isQ t = true) (h : chkE n sc t e = true) : PE X e (tQ X.K t) := by
  have plain : isP t = true → (∀ a, t ≠ .tup a) → (∀ a, t ≠ .lst a) → PE X e (tQ X.K t) := fun p n1 n2 => by
    refine (evP_ok O p h).imp ?_
    rintro σ H Q ⟨B, e, Γ, d, w, hd, q⟩
    have z : evQ t e = match evP t e with
      | some d => if d.un then some d else none
      | none => none := by
      cases t <;> first | rfl | exact absurd rfl (n1 _) | exact absurd rfl (n2 _)
    rw [z] at hd
    split at hd
    · rename_i d0 h1
      split at hd
      · rename_i hu
        cases hd
        exact ⟨B, e, Γ, d, w, h1, fun v bv => q v H (Same.refl H) ⟨w.fit, w.pr, bv.un hu⟩⟩
      · cases hd
    · cases hd
  cases t with
  | tup a =>
    cases e <;> try (simp [chkE] at h; done)
    rw [chkE] at h
    refine (pe_tup (ql_ok O hq h)).imp ?_
    rintro σ H Q ⟨B, e, Γ, d, w, hd, q⟩
    rw [evQ] at hd
    split at hd
    · rename_i ds h1
      split at hd
      · rename_i hb
        cases hd
        refine ⟨B, e, Γ, ds, w, h1, fun vs H1 s1 hl w1 => ⟨by have := big_le; omega, fun p hp => q _ _ (s1.trans (Same.new hp)) ⟨w.fit, w.pr, ?_⟩⟩⟩
        have := w1.w
        rw [List.append_assoc] at this
        exact W.tupV this hl hp (by have := big_le; omega)
      · cases hd
    · cases hd
  | lst a =>
    cases e <;> try (simp [chkE] at h; done)
    rw [chkE] at h
    refine (pe_lst (ql_ok O hq h)).imp ?_
    rintro σ H Q ⟨B, e, Γ, d, w, hd, q⟩
    rw [evQ] at hd
    split at hd
    · rename_i ds h1
      split at hd
      · rename_i hb
        cases hd
        refine ⟨B, e, Γ, ds, w, h1, fun vs H1 s1 hl w1 => ⟨by have := big_le; omega, fun p hp => q _ _ (s1.trans (Same.new hp)) ⟨w.fit, w.pr, ?_⟩⟩⟩
        have := w1.w
        rw [List.append_assoc] at this
        exact W.lstV this hl hp (by have := big_le; omega)
      · cases hd
    · cases hd
  | _ => exact plain hq (by intro a z; cases z) (by intro a z; cases z)
theorem SS_apq {p a : T} : SS Φ k n pr Wx (.apq p a) := by
  intro X sc st O h
  unfold chkS at h
  split at h <;> try (simp_all; done)
  all_goals (rename_i heq; cases heq)
  simp only [Bool.and_eq_true, decide_eq_true_eq] at h
  obtain ⟨⟨⟨⟨h1, h2⟩, h3⟩, h4⟩, h5⟩ := h
  subst h1
  rename_i o apos e0 cpos pos
  by_cases hq : isQ a = true
  · have hbase : attributeBase o "append" X.env (eval o X.env) = eval o X.env := by
      cases p <;> try (simp [isPl] at h3; done)
      · cases o <;> first | rfl | (simp [chkE] at h4; done)
      · cases o <;> first | rfl | (simp [chkE] at h4; done)
      · cases o <;> first | rfl | (simp [chkE] at h4; done)
    have pe := pe_bm (cpos := cpos) (apos := apos) (name := "append") PySem.F.plainAttrs_list PySem.F.slot_list_append PySem.F.type_list_append (mt_append (X := X)) (pl_ok O.x h3 h4) (pa_cons (q_ok O.x hq h5) pa_nil (star_pl (chk_pl h5))) hbase (by
        rw [star_pl (chk_pl h5)]; rfl) h2 (star_pl (chk_pl h5)) rfl
    refine (ps_expr pe rfl).imp ?_
    rintro D σ H ⟨B, e, Γ, r, hp, w, h, q⟩
    rw [evS, if_pos (by rw [h3, hq]; rfl)] at h
    split at h
    · rename_i y h1
      split at h
      · rename_i e2 h2'
        cases h
        obtain ⟨qa, vs, g1, g2⟩ := place_list w h2'
        refine ⟨B, e, Γ, w, _, g1, .inl ⟨rfl, _, SqL.of g2⟩, B, e, Γ, y, w, h1, fun u H' sm w' => ?_⟩
        obtain ⟨qb, vs', k1, k2, k3, k4⟩ := app_okP w' h2'
        have := PlV.one (g1.same sm) k1
        cases this
        exact ⟨qa, vs', u, rfl, rfl, k2, k3, q _ _ k4⟩
      · cases h
    · cases h
  · refine ps_never.imp ?_
    rintro D σ H ⟨B, e, Γ, r, hp, w, h, q⟩
    rw [evS, if_neg (by rw [h3]; simpa using hq)] at h
    cases h
theorem SS_ex {a : T} : SS Φ k n pr Wx (.ex a) := by
  intro X sc st O h
  unfold chkS at h
  split at h <;> try (simp_all; done)
  all_goals (rename_i heq; cases heq)
  simp only [Bool.and_eq_true, Bool.not_eq_true'] at h
  refine (ps_expr ((all_terms a).e O.x h.2) (sw_no h.1)).imp ?_
  rintro D σ H ⟨B, e, Γ, r, hp, w, h, q⟩
  rw [evS] at h
  split at h
  · rename_i d e1 h1
    cases h
    exact ⟨B, e, Γ, d, e1, w, h1, fun v H' w' => q σ H' w'.drop⟩
  · cases h
theorem SS_cond {c a b : T} (sa : SB Φ k n pr Wx a) (sb : SB Φ k n pr Wx b) : SS Φ k n pr Wx (.cond c a b) := by
  intro X sc st O h
  unfold chkS at h
  split at h <;> try (simp_all; done)
  all_goals (rename_i heq; cases heq)
  simp only [Bool.and_eq_true] at h
  refine (ps_if ((all_terms c).tt O.x h.1.1) (sa O h.1.2) (sb O h.2)).imp ?_
  rintro D σ H ⟨B, e, Γ, r, hp, w, h, q⟩
  rw [evS] at h
  split at h
  · rename_i cb e1 h1
    refine ⟨B, e, Γ, cb, e1, w, h1, fun H' w' => ?_⟩
    cases cb with
    | true => rw [if_pos rfl] at h ⊢; exact ⟨B, e1, Γ, r, hp, w', h, q⟩
    | false => rw [if_neg Bool.false_ne_true] at h ⊢; exact ⟨B, e1, Γ, r, hp, w', h, q⟩
  · cases h
theorem SS_ret {a : T} : SS Φ k n pr Wx (.ret a) := by
  intro X sc st O h
  unfold chkS at h
  split at h <;> try (simp_all; done)
  · rename_i heq
    cases heq
    refine (ps_ret ((all_terms a).e O.x h)).imp ?_
    rintro D σ H ⟨B, e, Γ, r, hp, w, h, q⟩
    rw [evS] at h
    split at h
    · rename_i d e1 h1
      cases h
      exact ⟨B, e, Γ, d, e1, w, h1, fun v H' w' => q σ v H' w'⟩
    · cases h
  · rename_i heq
    cases heq
    refine ps_retN.imp ?_
    rintro D σ H ⟨B, e, Γ, r, hp, w, h, q⟩
    rw [evS, evE] at h
    cases h
    exact q σ .non H ⟨w.fit, w.pr, w.w.add .non⟩
theorem SS_brk : SS Φ k n pr Wx .brk := by
  intro X sc st O h
  unfold chkS at h
  split at h <;> try (simp_all; done)
  refine ps_break.imp ?_
  rintro D σ H ⟨B, e, Γ, r, hp, w, h, q⟩
  rw [evS] at h
  cases h
  exact q σ H w
theorem SS_cnt : SS Φ k n pr Wx .cnt := by
  intro X sc st O h
  unfold chkS at h
  split at h <;> try (simp_all; done)
  refine ps_continue.imp ?_
  rintro D σ H ⟨B, e, Γ, r, hp, w, h, q⟩
  rw [evS] at h
  cases h
  exact q σ H w
theorem SS_rse : SS Φ k n pr Wx .rse := by
  intro X sc st O h
  refine ps_never.imp ?_
  rintro D σ H ⟨B, e, Γ, r, hp, w, h, q⟩
  have z : evS Φ .rse e = none := rfl
  rw [z] at h
  cases h
theorem SS_whl {ks : List Nat} {c b : T} (sb : SB Φ k n pr Wx b) : SS Φ k n pr Wx (.whl ks c b) := by
  intro X sc st O h
  unfold chkS at h
  split at h <;> try (simp_all; done)
  all_goals (rename_i heq; cases heq)
  simp only [Bool.and_eq_true] at h
  refine (ps_while O.x.own ((all_terms c).tt O.x h.1) (sb O h.2)).imp ?_
  rintro D σ H ⟨B, e, Γ, r, hp, w, h, q⟩
  rw [evS] at h
  obtain ⟨m, hm⟩ := of_whD h
  refine ⟨fun m σ H => ∃ e, Wd X.K B σ e Γ H ∧ whN ks (evE Φ c) (evS Φ b) m e = some r, ⟨m, e, w, hm⟩, ?_⟩
  rintro m σ H ⟨e, w, h⟩
  cases m with
  | zero => simp [whN] at h
  | succ m =>
    rw [whN_succ] at h
    split at h
    · rename_i e1 h1
      refine ⟨B, e, Γ, true, e1, w, h1, fun H1 w1 => ?_⟩
      refine iteT ?_
      refine ⟨fun σ H => ∃ e, Wd X.K B σ e Γ H ∧ whN ks (evE Φ c) (evS Φ b) m e = some r, fun σ' H' hN => ⟨m, Nat.lt_succ_self m, hN⟩, ?_⟩
      rcases hb : evS Φ b e1 with _ | ⟨f, e2⟩
      · rw [hb] at h; cases h
      · rw [hb] at h
        refine ⟨B, e1, Γ, (f, e2), hp, w1, hb, ?_⟩
        cases f with
        | nx => exact fun σ H w2 => ⟨kill ks e2, w2.kill ks, h⟩
        | ct => exact fun σ H w2 => ⟨kill ks e2, w2.kill ks, h⟩
        | bk =>
          cases h
          exact fun σ H w2 => q σ H (w2.kill ks)
        | rt d =>
          cases h
          exact q
        | xc c =>
          cases h
          exact q
    · rename_i e1 h1
      cases h
      refine ⟨B, e, Γ, false, e1, w, h1, fun H1 w1 => ?_⟩
      refine iteF ?_
      exact q σ H1 (w1.kill ks)
    · cases h
theorem SS_for {tg ks : List Nat} {it b : T} (sb : SB Φ k n pr Wx b) : SS Φ k n pr Wx (.for_ tg ks it b) := by
  intro X sc st O h
  unfold chkS at h
  split at h <;> try (simp_all; done)
  all_goals (rename_i heq; cases heq)
  simp only [Bool.and_eq_true, Bool.not_eq_true', List.contains_eq_mem, decide_eq_false_iff_not, List.all_eq_true] at h
  obtain ⟨⟨⟨⟨h1, h2⟩, h3⟩, h4⟩, h5⟩ := h
  refine (ps_for O.x.own O.x.calm (SI_any (all_terms it).i (all_terms it).iz O.x h2 h3 h1) (pg_ok O.x.N O.x.nd O.x.calm (fun x hx => ⟨O.x.loc hx, .inl (O.fn x)⟩) h2) (sb O h5) (foldS (chkI_pl h1))).imp ?_
  rintro D σ H ⟨B, e, Γ, r, hp, w, h, q⟩
  rw [evS] at h
  split at h
  · rename_i xs e1 hxs
    refine ⟨B, e, Γ, xs, e1, w, hxs, fun J H1 hold it0 w1 => ?_⟩
    let f := fun (x : Sr.D) (e : Env) => match bindT tg x e with
      | some e => evS Φ b e
      | none => none
    have h : loopF ks f xs e1 = some r := h
    refine ⟨fun i m σ H => m = xs.length - i ∧ i ≤ xs.length ∧ ∃ ei, Wd X.K B σ ei (hold ++ Γ) H ∧ loopF ks f (xs.drop i) ei = some r, ⟨xs.length, by simp, Nat.zero_le _, e1, w1, h⟩, ?_⟩
    rintro i m σ2 H2 ⟨rfl, hi, ei, w2, hl⟩
    have wI : W X.K B H2 (hold ++ (Γ ++ er σ2 ei)) := by have := w2.w; rwa [List.append_assoc] at this
    by_cases hlt : i < xs.length
    · obtain ⟨x0, hx0⟩ := get_some hlt
      have hdrop : xs.drop i = x0 :: xs.drop (i + 1) := by
        obtain ⟨hh, he⟩ := List.getElem?_eq_some_iff.mp hx0
        rw [List.drop_eq_getElem_cons hh, he]
      rw [hdrop, loopF] at hl
      refine .inr ⟨it0.go i H2 _ wI hlt, fun σ H => ∃ ei, Wd X.K B σ ei (hold ++ Γ) H ∧ loopF ks f (xs.drop (i + 1)) ei = some r, ?_, ?_⟩
      · rintro σ' H' ⟨ei', a1, a2⟩
        exact ⟨xs.length - (i + 1), by omega, rfl, hlt, ei', a1, a2⟩
      · intro x H' hy
        obtain ⟨d0, hd0, w3⟩ := it0.yld i H2 _ x H' wI hlt hy
        rw [hx0] at hd0
        cases hd0
        have w4 : Wd X.K B σ2 ei ((x, x0) :: (hold ++ Γ)) H' := by
          refine ⟨w2.fit, w2.pr, ?_⟩
          have e0 : ((x, x0) :: (hold ++ Γ) ++ er σ2 ei) = (x, x0) :: (hold ++ (Γ ++ er σ2 ei)) := by simp
          rw [e0]
          exact w3
        cases hb : bindT tg x0 ei with
        | none => simp only [f, hb] at hl; cases hl
        | some e3 =>
          refine bind_ok hb w4 (fun p hpp z => h4 _ z (hp p hpp)) fun σ3 w5 _ _ => ?_
          rcases hv : evS Φ b e3 with _ | ⟨fl, e4⟩
          · simp only [f, hb, hv] at hl; cases hl
          · simp only [f, hb, hv] at hl
            refine ⟨B, e3, hold ++ Γ, (fl, e4), hp, w5, hv, ?_⟩
            cases fl with
            | nx => exact fun σ H w6 => ⟨kill ks e4, w6.kill ks, hl⟩
            | ct => exact fun σ H w6 => ⟨kill ks e4, w6.kill ks, hl⟩
            | bk =>
              cases hl
              exact fun σ H w6 => q σ H (w6.kill ks).unhold
            | rt d =>
              cases hl
              exact fun σ v H w6 => q σ v H (Wd.unhold (hold := hold) (w6.permG List.perm_middle.symm))
            | xc c =>
              cases hl
              exact fun σ H w6 => q σ H w6.unhold
    · have hie : i = xs.length := by omega
      subst hie
      rw [List.drop_length, loopF] at hl
      cases hl
      exact .inl ⟨it0.stop _ H2 _ wI (Nat.le_refl _), q σ2 H2 (w2.kill ks).unhold⟩
  · cases h
/-- a list whose items are taken out one by one -/
theorem Wd.walk {K : PySem.W.Frag} {B : Bs} {σ : L2.St} {e : Env} {Γ : List Rt} {H : Hp} {v : V} {ds : List Sr.D} (w : Wd K B σ e ((v, .lst true ds) :: Γ) H) : ∃ a vs, ∃ B' : Bs, v = .ref a ∧ H a = some (.lst vs) ∧ vs.length = ds.length ∧ B'.pr = B.pr ∧ Wd K B' σ e (vs.zip ds ++ Γ) H ∧ ∀ σ' e' Γ' H', Wd K B' σ' e' Γ' H' → H' a = some (.lst vs) ∧ Wd K B σ' e' Γ' H' := by
  obtain ⟨F, S, r, o⟩ := w.w
  cases r with
  | @cons _ _ _ _ F1 S1 F2 S2 r t =>
    cases r with
    | @own a vs _ F3 _ ha rs =>
      have nd : (a :: (F3 ++ F2)).Nodup := o.nd
      obtain ⟨n1, n2⟩ := List.nodup_cons.mp nd
      have hl := rs.len
      refine ⟨a, vs, ⟨H, F3 ++ F2, S1 ++ S2, B.pr⟩, rfl, ha, hl, rfl, ⟨w.fit, w.pr, F3 ++ F2, S1 ++ S2, ?_, ⟨n2, fun b hb => o.dj b (List.mem_cons_of_mem a hb), fun b hb => .inl hb, fun b hb => .inr (.inl hb), fun b u e _ => e, o.sz⟩⟩, ?_⟩
      · have q := Reps.app rs t
        have e1 : ((vs.zip ds ++ Γ) ++ er σ e).map (·.1) = vs ++ (Γ ++ er σ e).map (·.1) := by
          have z := List.map_fst_zip (l₁ := vs) (l₂ := ds) (Nat.le_of_eq hl)
          rw [List.append_assoc, List.map_append (l₁ := vs.zip ds)]
          exact congrArg (· ++ _) z
        have e2 : ((vs.zip ds ++ Γ) ++ er σ e).map (·.2) = ds ++ (Γ ++ er σ e).map (·.2) := by
          have z := List.map_snd_zip (l₁ := vs) (l₂ := ds) (Nat.le_of_eq hl.symm)
          rw [List.append_assoc, List.map_append (l₁ := vs.zip ds)]
          exact congrArg (· ++ _) z
        unfold Rs
        rw [e1, e2]
        exact q
      · intro σ' e' Γ' H' w'
        obtain ⟨F', S', r', o'⟩ := w'.w
        refine ⟨o'.kp a _ ha n1, w'.fit, w'.pr, F', S', r', o'.nd, o'.dj, fun b hb => ?_, fun b hb => ?_, fun b u e nb => ?_, o'.sz⟩
        · rcases o'.fF b hb with z | z
          · exact o.fF b (List.mem_cons_of_mem a z)
          · exact (o.old z).symm
        · rcases o'.fS b hb with z | z | z
          · rcases o.fF b (List.mem_cons_of_mem a z) with y | y
            · exact .inl y
            · exact .inr (.inr y)
          · exact o.fS b z
          · rcases o.old z with y | y
            · exact .inr (.inr y)
            · exact .inl y
        · refine o'.kp b u (o.kp b u e nb) fun z => ?_
          rcases o.fF b (List.mem_cons_of_mem a z) with q | q
          · exact nb q
          · rw [e] at q; cases q
/-- .. and is put together again, its items changed -/
theorem Wd.walk2 {K : PySem.W.Frag} {B : Bs} {σ : L2.St} {e : Env} {Γ : List Rt} {H : Hp} {v : V} {ds : List Sr.D} (w : Wd K B σ e ((v, .lst true ds) :: Γ) H) : ∃ a vs, ∃ B' : Bs, v = .ref a ∧ H a = some (.lst vs) ∧ vs.length = ds.length ∧ B'.pr = B.pr ∧ Wd K B' σ e (vs.zip ds ++ Γ) H ∧ ∀ σ' e' Γ' H' ds', vs.length = List.length ds' → Wd K B' σ' e' (vs.zip ds' ++ Γ') H' → Wd K B σ' e' ((.ref a, .lst true ds') :: Γ') H' := by
  obtain ⟨F, S, r, o⟩ := w.w
  cases r with
  | @cons _ _ _ _ F1 S1 F2 S2 r t =>
    cases r with
    | @own a vs _ F3 _ ha rs =>
      have nd : (a :: (F3 ++ F2)).Nodup := o.nd
      obtain ⟨n1, n2⟩ := List.nodup_cons.mp nd
      have hl := rs.len
      refine ⟨a, vs, ⟨H, F3 ++ F2, S1 ++ S2, B.pr⟩, rfl, ha, hl, rfl, ⟨w.fit, w.pr, F3 ++ F2, S1 ++ S2, ?_, ⟨n2, fun b hb => o.dj b (List.mem_cons_of_mem a hb), fun b hb => .inl hb, fun b hb => .inr (.inl hb), fun b u e _ => e, o.sz⟩⟩, ?_⟩
      · have q := Reps.app rs t
        have e1 : ((vs.zip ds ++ Γ) ++ er σ e).map (·.1) = vs ++ (Γ ++ er σ e).map (·.1) := by
          have z := List.map_fst_zip (l₁ := vs) (l₂ := ds) (Nat.le_of_eq hl)
          rw [List.append_assoc, List.map_append (l₁ := vs.zip ds)]
          exact congrArg (· ++ _) z
        have e2 : ((vs.zip ds ++ Γ) ++ er σ e).map (·.2) = ds ++ (Γ ++ er σ e).map (·.2) := by
          have z := List.map_snd_zip (l₁ := vs) (l₂ := ds) (Nat.le_of_eq hl.symm)
          rw [List.append_assoc, List.map_append (l₁ := vs.zip ds)]
          exact congrArg (· ++ _) z
        unfold Rs
        rw [e1, e2]
        exact q
      · intro σ' e' Γ' H' ds' hl' w'
        obtain ⟨F', S', r', o'⟩ := w'.w
        have e1 : ((vs.zip ds' ++ Γ') ++ er σ' e').map (·.1) = vs ++ (Γ' ++ er σ' e').map (·.1) := by
          have z := List.map_fst_zip (l₁ := vs) (l₂ := ds') (Nat.le_of_eq hl')
          rw [List.append_assoc, List.map_append (l₁ := vs.zip ds')]
          exact congrArg (· ++ _) z
        have e2 : ((vs.zip ds' ++ Γ') ++ er σ' e').map (·.2) = ds' ++ (Γ' ++ er σ' e').map (·.2) := by
          have z := List.map_snd_zip (l₁ := vs) (l₂ := ds') (Nat.le_of_eq hl'.symm)
          rw [List.append_assoc, List.map_append (l₁ := vs.zip ds')]
          exact congrArg (· ++ _) z
        unfold Rs at r'
        rw [e1, e2] at r'
        obtain ⟨G1, U1, G2, U2, x1, x2, x3, x4⟩ := r'.unapp hl'
        subst x3 x4
        have ka : H' a = some (.lst vs) := o'.kp a _ ha n1
        have hn : H a ≠ none := by rw [ha]; simp
        have aF : a ∉ G1 ++ G2 := fun z => by
          rcases o'.fF a z with y | y
          · exact n1 y
          · exact hn y
        have aS : a ∉ U1 ++ U2 := fun z => by
          rcases o'.fS a z with y | y | y
          · exact n1 y
          · exact o.dj a List.mem_cons_self y
          · exact hn y
        refine ⟨w'.fit, w'.pr, a :: G1 ++ G2, U1 ++ U2, .cons (.own ka x1) x2, ⟨?_, fun b hb => ?_, fun b hb => ?_, fun b hb => ?_, fun b u e nb => ?_, o'.sz⟩⟩
        · exact List.nodup_cons.mpr ⟨aF, o'.nd⟩
        · rcases List.mem_cons.mp hb with z | z
          · subst z; exact aS
          · exact o'.dj b z
        · rcases List.mem_cons.mp hb with z | z
          · subst z; exact o.fF _ List.mem_cons_self
          · rcases o'.fF b z with y | y
            · exact o.fF b (List.mem_cons_of_mem a y)
            · exact (o.old y).symm
        · rcases o'.fS b hb with z | z | z
          · rcases o.fF b (List.mem_cons_of_mem a z) with y | y
            · exact .inl y
            · exact .inr (.inr y)
          · exact o.fS b z
          · rcases o.old z with y | y
            · exact .inr (.inr y)
            · exact .inl y
        · refine o'.kp b u (o.kp b u e nb) fun z => ?_
          rcases o.fF b (List.mem_cons_of_mem a z) with q | q
          · exact nb q
          · rw [e] at q; cases q
def iOw (K : PySem.W.Frag) (Φ : Fs) (a : T) : TI := fun σ H R => ∃ B e Γ ds e', Wd K B σ e Γ H ∧ evE Φ a e = some (.lst true ds, e') ∧ ∀ p H', Wd K B σ e' ((.ref p, .lst true ds) :: Γ) H' → R (Itl K p) H'
theorem PI_ow {a : T} {X : Cx} {sc : Scope} {g e : Expr} (s : SE Φ k n a) (O : OkX Φ k n X sc) (h : chkE n sc a e = true) : PI X g e (iOw X.K Φ a) := by
  refine (pi_seq (s O h)).imp ?_
  rintro σ H R ⟨B, env, Γ, ds, e', w, hd, q⟩
  refine ⟨B, env, Γ, _, e', w, hd, fun v H1 w1 => ?_⟩
  obtain ⟨p, vs, B', rfl, hp, _⟩ := w1.walk
  exact ⟨p, rfl, .inl ⟨⟨vs, .inl (.inl hp)⟩, q p H1 w1⟩⟩
theorem zip_split {vs : List V} {ds : List Sr.D} {j : Nat} {u : V} {d : Sr.D} (hv : vs[j]? = some u) (hd : ds[j]? = some d) : ∃ P Q : List Rt, vs.zip ds = P ++ (u, d) :: Q ∧ ∀ d' : Sr.D, vs.zip (ds.set j d') = P ++ (u, d') :: Q := by
  induction vs generalizing ds j with
  | nil => simp at hv
  | cons v vs ih =>
    cases ds with
    | nil => simp at hd
    | cons d0 ds =>
      cases j with
      | zero =>
        simp at hv hd
        subst hv hd
        exact ⟨[], vs.zip ds, rfl, fun d' => rfl⟩
      | succ j =>
        obtain ⟨P, Q, h1, h2⟩ := ih (by simpa using hv) (by simpa using hd)
        exact ⟨(v, d0) :: P, Q, by rw [List.zip_cons_cons, h1]; rfl, fun d' => by rw [List.set_cons_succ, List.zip_cons_cons, h2]; rfl⟩
theorem SS_exP {f i : Nat} {kk : Int} : SS Φ k n pr Wx (.exP f i kk) := by
  intro X sc st O h
  unfold chkS at h
  split at h <;> try (simp_all; done)
  all_goals (rename_i heq; cases heq)
  simp only [Bool.and_eq_true, decide_eq_true_eq, Bool.not_eq_true'] at h
  obtain ⟨⟨⟨⟨hx, hf⟩, hg⟩, hdb⟩, h5⟩ := h
  subst hx
  obtain ⟨A, fd, ps, hm, hk, hb, F⟩ := O.x.fns f hf
  rename_i xp y yp j ck jp sp cpos pos
  have pe := pe_call (p := xp) (pos := cpos) (E := E0) F O.x.lv (O.x.gl hg) hm hk hb .nil pass0 (pa_cons (pl_ok O.x (p := .ix (.v i) (.int kk)) rfl h5) pa_nil (star_pl rfl)) hdb (star_pl rfl) rfl
  refine (ps_expr pe rfl).imp ?_
  rintro D σ H ⟨B, e, Γ, r, hp, w, h, q⟩
  rw [evS] at h
  split at h
  · rename_i xs hi
    split at h
    · rename_i j0 hj
      split at h
      · rename_i d hd
        split at h
        · rename_i hio
          split at h
          · rename_i r0 d' hr
            cases h
            obtain ⟨v, hv, _⟩ := w.read hi
            have m := w.move hi hv
            obtain ⟨a, vs, B', ev, ha, hl, hpr, wk, back⟩ := m.walk2
            subst ev
            have hlt := (List.getElem?_eq_some_iff.mp hd).1
            obtain ⟨u, hu⟩ : ∃ u, vs[j0]? = some u := ⟨_, List.getElem?_eq_getElem (by omega)⟩
            obtain ⟨P, Q, hz, hz'⟩ := zip_split hu hd
            refine ⟨B, e, Γ, w, u, ⟨a, vs, kk, hv, rfl, .inl ha, ?_⟩, ?_⟩
            · unfold atI; rw [hl, hj]; exact hu
            · show spOf X.K Φ f [u] H _ E0
              have w1 : Wd X.K B' σ (e.set i none) ((u, d) :: (P ++ (Q ++ Γ))) H := by
                rw [hz] at wk
                refine wk.front ?_
                simp only [List.append_assoc, List.cons_append]
                exact List.perm_middle
              refine call_at' (as := [.own d]) (vs := [u]) (e1 := e) True (by rw [hio]; rfl) w1 trivial (fun _ i hi => by simp at hi) (fun z => (z trivial).elim) rfl hr fun v1 H1 w2 => ?_
              have w3 : Wd X.K B' σ (e.set i none) ((u, d') :: (v1, r0) :: (P ++ (Q ++ Γ))) H1 := w2
              have w4 : Wd X.K B' σ (e.set i none) (vs.zip (xs.set j0 d') ++ Γ) H1 := by
                rw [hz']
                refine w3.swap.drop.front ?_
                simp only [List.append_assoc, List.cons_append]
                exact List.perm_middle.symm
              have w5 := back _ _ _ _ (xs.set j0 d') (by rw [List.length_set]; exact hl) w4
              have w6 := w5.put2 (i := i) hv
              rw [List.set_set] at w6
              exact q _ _ w6
          · cases h
        · cases h
      · cases h
    · cases h
  · cases h
theorem SS_fow {tg ks : List Nat} {a b : T} (sb : SB Φ k n pr Wx b) : SS Φ k n pr Wx (.fow tg ks a b) := by
  intro X sc st O h
  unfold chkS at h
  split at h <;> try (simp_all; done)
  all_goals (rename_i heq; cases heq)
  simp only [Bool.and_eq_true, Bool.not_eq_true', List.contains_eq_mem, decide_eq_false_iff_not, List.all_eq_true] at h
  obtain ⟨⟨⟨h1, h2⟩, h4⟩, h5⟩ := h
  refine (ps_for O.x.own O.x.calm (PI_ow (all_terms a).e O.x h1) (pg_ok O.x.N O.x.nd O.x.calm (fun x hx => ⟨O.x.loc hx, .inl (O.fn x)⟩) h2) (sb O h5) (foldS (chk_pl h1))).imp ?_
  rintro D σ H ⟨B, e, Γ, r, hp, w, h, q⟩
  rw [evS] at h
  split at h
  · rename_i xs e1 hxs
    refine ⟨B, e, Γ, xs, e1, w, hxs, fun p H1 w1 => ?_⟩
    obtain ⟨p', vs, B', ep, hpa, hlen, hpr, w1', back⟩ := w1.walk
    cases ep
    let f := fun (x : Sr.D) (e : Env) => match bindT tg x e with
      | some e => evS Φ b e
      | none => none
    have h : loopF ks f xs e1 = some r := h
    refine ⟨fun i m σ H => m = xs.length - i ∧ i ≤ xs.length ∧ ∃ ei, Wd X.K B' σ ei ((vs.drop i).zip (xs.drop i) ++ Γ) H ∧ loopF ks f (xs.drop i) ei = some r, ⟨xs.length, by simp, Nat.zero_le _, e1, w1', h⟩, ?_⟩
    rintro i m σ2 H2 ⟨rfl, hi, ei, w2, hl⟩
    have ha := (back _ _ _ _ w2).1
    by_cases hlt : i < xs.length
    · obtain ⟨x0, hx0⟩ := get_some hlt
      obtain ⟨v0, hv0⟩ := get_some (xs := vs) (i := i) (by omega)
      have hdrop : xs.drop i = x0 :: xs.drop (i + 1) := by
        obtain ⟨hh, he⟩ := List.getElem?_eq_some_iff.mp hx0
        rw [List.drop_eq_getElem_cons hh, he]
      have hdropv : vs.drop i = v0 :: vs.drop (i + 1) := by
        obtain ⟨hh, he⟩ := List.getElem?_eq_some_iff.mp hv0
        rw [List.drop_eq_getElem_cons hh, he]
      rw [hdrop, loopF] at hl
      rw [hdrop, hdropv, List.zip_cons_cons] at w2
      refine .inr ⟨⟨vs, v0, .inl (.inl ha), hv0⟩, fun σ H => ∃ ei, Wd X.K B' σ ei ((vs.drop (i + 1)).zip (xs.drop (i + 1)) ++ Γ) H ∧ loopF ks f (xs.drop (i + 1)) ei = some r, ?_, ?_⟩
      · rintro σ' H' ⟨ei', a1, a2⟩
        exact ⟨xs.length - (i + 1), by omega, rfl, hlt, ei', a1, a2⟩
      · intro x H' hy
        obtain ⟨e1, e2⟩ := hy
        subst e1
        have ex : v0 = x := by
          have := e2 vs (.inl (.inl ha))
          rw [hv0] at this
          cases this
          rfl
        subst ex
        cases hb : bindT tg x0 ei with
        | none => simp only [f, hb] at hl; cases hl
        | some e3 =>
          refine bind_ok hb w2 (fun p hpp z => h4 _ z (hp p (hpr ▸ hpp))) fun σ3 w5 _ _ => ?_
          rcases hv : evS Φ b e3 with _ | ⟨fl, e4⟩
          · simp only [f, hb, hv] at hl; cases hl
          · simp only [f, hb, hv] at hl
            refine ⟨B', e3, (vs.drop (i + 1)).zip (xs.drop (i + 1)) ++ Γ, (fl, e4), fun p hpp => hp p (hpr ▸ hpp), w5, hv, ?_⟩
            cases fl with
            | nx => exact fun σ H w6 => ⟨kill ks e4, w6.kill ks, hl⟩
            | ct => exact fun σ H w6 => ⟨kill ks e4, w6.kill ks, hl⟩
            | bk =>
              cases hl
              exact fun σ H w6 => q σ H (back _ _ _ _ (w6.kill ks)).2.unhold
            | rt d =>
              cases hl
              exact fun σ v H w6 => q σ v H (Wd.unhold (hold := (vs.drop (i + 1)).zip (xs.drop (i + 1))) ((back _ _ _ _ w6).2.permG List.perm_middle.symm))
            | xc c =>
              cases hl
              exact fun σ H w6 => q σ H (back _ _ _ _ w6).2.unhold
    · have hie : i = xs.length := by omega
      subst hie
      rw [List.drop_length, loopF] at hl
      cases hl
      exact .inl ⟨⟨vs, .inl (.inl ha), Nat.le_of_eq hlen⟩, q σ2 H2 ((back _ _ _ _ w2).2.kill ks).unhold⟩
  · cases h
theorem SS_rs {c : Nat} : SS Φ k n pr Wx (.rs c) := by
  intro X sc st O h
  unfold chkS at h
  split at h <;> try (simp_all; done)
  all_goals (rename_i heq; cases heq)
  simp only [Bool.and_eq_true, decide_eq_true_eq, Bool.not_eq_true'] at h
  obtain ⟨⟨⟨rfl, h2⟩, h3⟩, h4⟩ := h
  obtain ⟨C, hC, hex, hk, hty, hE, hve⟩ := O.xk.cl c h2
  refine (ps_raise O.x.calm O.tk (pmk_own PySem.F.excBase_ValueError hex hC hk (raises_own hE.hs hty) (O.x.gl h3) h4)).imp ?_
  rintro D σ H ⟨B, e, Γ, r, hp, w, h, q⟩
  rw [evS] at h
  cases h
  exact ⟨rfl, c, h2, hC, q σ H w⟩
/-- nothing comes back -/
theorem agBack_none : ∀ {as : List Ag} {e : Env} {bs : List Bool}, (∀ a ∈ as, ∀ i, a ≠ .io i) → agBack as (as.map fun _ => none) e = some e
  | [], e, _, _ => rfl
  | .val _ :: as, e, bs, h => agBack_none (as := as) (bs := bs) fun a ha => h a (List.mem_cons_of_mem _ ha)
  | .var _ :: as, e, bs, h => agBack_none (as := as) (bs := bs) fun a ha => h a (List.mem_cons_of_mem _ ha)
  | .own _ :: as, e, bs, h => agBack_none (as := as) (bs := bs) fun a ha => h a (List.mem_cons_of_mem _ ha)
  | .io i :: as, e, _, h => absurd rfl (h _ List.mem_cons_self i)
theorem agIo_none : ∀ {as : List Ag} {e : Env}, (∀ a ∈ as, ∀ i, a ≠ .io i) → agIo as e = some e
  | [], e, _ => rfl
  | .val _ :: as, e, h => agIo_none (as := as) fun a ha => h a (List.mem_cons_of_mem _ ha)
  | .var _ :: as, e, h => agIo_none (as := as) fun a ha => h a (List.mem_cons_of_mem _ ha)
  | .own _ :: as, e, h => agIo_none (as := as) fun a ha => h a (List.mem_cons_of_mem _ ha)
  | .io i :: as, e, h => absurd rfl (h _ List.mem_cons_self i)
theorem evG_noio : ∀ {a : T} {io : List Bool} {e e' : Env} {as : List Ag}, evG Φ a io e = some (as, e') → io.all (!·) = true → ∀ x ∈ as, ∀ i, x ≠ .io i := by
  intro a
  induction a with
  | nil =>
    intro io e e' as h hb
    cases io with
    | nil => rw [evG] at h; obtain ⟨rfl, rfl⟩ := inj2 h; exact fun _ z => nomatch z
    | cons _ _ => simp [evG] at h
  | cons a r _ ih =>
    intro io e e' as h hb
    cases io with
    | nil => cases a <;> simp [evG] at h
    | cons b bs =>
      simp only [List.all_cons, Bool.and_eq_true, Bool.not_eq_true'] at hb
      obtain ⟨rfl, hb⟩ := hb
      by_cases hv : ∃ i, a = .v i
      · obtain ⟨i, rfl⟩ := hv
        rw [evG] at h
        split at h
        · split at h
          · rename_i as' e2 h4
            obtain ⟨rfl, rfl⟩ := inj2 h
            intro x hx j
            rcases List.mem_cons.mp hx with z | z
            · subst z; simp
            · exact ih h4 hb x z j
          · cases h
        · cases h
      · have hd' : (match evE Φ a e with
          | some (x, e) => match evG Φ r bs e with
            | some (as, e) => some ((if false then Ag.own x else Ag.val x) :: as, e)
            | none => none
          | none => none) = some (as, e') := by
          rw [evG] at h
          · exact h
          · exact fun i hi => hv ⟨i, hi⟩
        split at hd'
        · split at hd'
          · rename_i as' e2 h4
            obtain ⟨rfl, rfl⟩ := inj2 hd'
            intro x hx j
            rcases List.mem_cons.mp hx with z | z
            · subst z; simp
            · exact ih h4 hb x z j
          · cases hd'
        · cases hd'
  | _ => intro io e e' as h; cases io <;> simp [evG] at h
theorem er_none' : ∀ {vs : List V} {m : Nat}, er (vs.map some) (List.replicate m none) = []
  | [], _ => by cases ‹Nat› <;> rfl
  | v :: vs, 0 => rfl
  | v :: vs, m + 1 => er_none' (vs := vs) (m := m)
/-- a call that lets something out -/
theorem exc_imp {mg : Str → Option Value} {xr : Nat → Bool} {K : PySem.W.Frag} {B : Bs} {σ : L2.St} {H : Hp} {f c : Nat} {a : T} {e e' : Env} {Γ : List Rt} {Q : VK} {E : L2.St → XK} (w : Wd K B σ e Γ H) (h : exE Φ (.call f a) e = some (c, e')) (q : ∀ C H', xr c = true → mg (xnm c) = some C → Wd K B σ e' Γ H' → E σ C none H') :
    tG K Φ a (Φ.io f) σ H fun vs H1 => spOfX K mg xr Φ f vs H1 Q (E σ) := by
  rw [exE] at h
  split at h
  · rename_i hio
    split at h
    · rename_i as e1 h1
      split at h
      · rename_i ds h2
        split at h
        · rename_i c' h3
          obtain ⟨rfl, rfl⟩ := inj2 h
          refine ⟨B, e, Γ, as, e1, w, h1, fun vs H1 s w1 => .inr ?_⟩
          have ni := evG_noio h1 hio
          have hl : vs.length = (Φ.io f).length := by rw [← agS_len s, evG_len h1]
          have w2 := take_io w1 s (agIo_none ni)
          have w3 := freeze (as := as) w2
          let Φ' : Fs := ⟨Φ.io, fun g ds' => if Φ.exc g ds' = some c' then some (.non, as.map fun _ => none) else none, Φ.exc⟩
          have hr : Φ'.run f ds = some (.non, as.map fun _ => none) := if_pos h3
          obtain ⟨ds', r', os', F, S, g1, g2, g3, g4, g5⟩ := call_at (Φ := Φ') (Q := fun _ H' => ∀ C, xr c' = true → mg (xnm c') = some C → E σ C none H') (E := E0) True hl w3 s (fun _ i hi d hd => fz_un hi d hd) (fun z => (z trivial).elim) (by rw [agD_fz]; exact h2) hr (agBack_none (bs := []) ni) (fun v H' w' C x1 x2 => q C H' x1 x2 w'.drop)
          have g4' : (if Φ.exc f ds' = some c' then some (D.non, as.map fun _ => (none : Option D)) else none) = some (r', os') := g4
          split at g4'
          · rename_i hex
            obtain ⟨rfl, rfl⟩ := inj2 g4'
            refine ⟨ds', c', F, S, g1, g2, g3, hex, fun C H' x1 x2 w' => g5 .non H' ?_ C x1 x2⟩
            have e0 : (as.map fun _ => (none : Option D)) = List.replicate as.length none := by
              rw [List.map_const']
            rw [e0, er_none']
            exact w'.add .non
          · cases g4'
        · cases h
      · cases h
    · cases h
  · cases h
/-- the rule of a call that may let something out -/
theorem PE_callX {f : Nat} {x a : T} {ex : Expr} {W : WX} (O : OkX Φ k n X sc) (tk : Takes X W) (h : chkE n sc (.call f (.cons x a)) ex = true) : PE X ex (tCallS (spOfX X.K X.mg n.xr Φ f) (WE W) (tG X.K Φ (.cons x a) (Φ.io f))) := by
  cases ex <;> try (simp [chkE] at h; done)
  rename_i g es kw pos
  cases g <;> try (simp [chkE] at h; done)
  cases kw <;> try (simp [chkE] at h; done)
  rename_i y xp
  simp only [chkE, Bool.and_eq_true, decide_eq_true_eq, Bool.not_eq_true'] at h
  obtain ⟨⟨⟨⟨hx, hf⟩, hg⟩, hdb⟩, ha⟩ := h
  subst hx
  obtain ⟨A, fd, ps, hm, hk, hb, F⟩ := O.fx f hf
  cases es with
  | nil => simp [chkL] at ha
  | cons y ys =>
    obtain ⟨_, _, ee, h1, h2⟩ := chk_cons ha
    cases ee
    exact pe_callS F O.lv (O.gl hg) hm hk hb (fun σ => passAt tk σ) ((all_terms (.cons x a)).g O ha) hdb (star_pl (chk_pl h1)) (noStar h2)
/-- an expression that may let something out -/
def tX (K : PySem.W.Frag) (Φ : Fs) (n : Nm) (mg : Str → Option Value) (W : WX) (t : T) : TE := fun σ H Q => ∃ B e Γ, Wd K B σ e Γ H ∧
  ((∃ d e', evE Φ t e = some (d, e') ∧ ∀ v H', Wd K B σ e' ((v, d) :: Γ) H' → Q v H') ∨ ∃ c e', evE Φ t e = none ∧ exE Φ t e = some (c, e') ∧ ∀ C H', n.xr c = true → mg (xnm c) = some C → Wd K B σ e' Γ H' → W C none σ H')
theorem evE_st {s : Str} {t : T} {e : Env} : evE Φ (.tup (.cons (.str s) (.cons t .nil))) e = match evE Φ t e with
    | some (d, e) => some (.tup [.str s, d], e)
    | none => none := by
  rw [evE]
  simp only [evL, evE]
  cases evE Φ t e with
  | none => rfl
  | some p =>
    obtain ⟨d, e'⟩ := p
    simp [big]
theorem chk_str {s : Str} {e : Expr} (h : chkE n sc (.str s) e = true) : ∃ k p, e = .Constant (.str s) k p := by
  cases e <;> try (simp [chkE] at h; done)
  rename_i c _ _
  cases c <;> try (simp [chkE] at h; done)
  rw [chkE, decide_eq_true_eq] at h
  subst h
  exact ⟨_, _, rfl⟩
theorem PE_X {t : T} {ex : Expr} {W : WX} (O : OkX Φ k n X sc) (tk : Takes X W) (h : chkX n sc t ex = true) : PE X ex (tX X.K Φ n X.mg W t) := by
  unfold chkX at h
  split at h
  · rename_i e0 f x a
    refine (PE_callX O tk h).imp ?_
    rintro σ H Q ⟨B, e, Γ, w, ⟨d, e', h1, q⟩ | ⟨c, e', h0, h1, q⟩⟩
    · obtain ⟨B', e2, Γ', as, e3, w', g1, g2⟩ := call_imp (Φ := Φ) (E := fun _ _ _ => True) (⟨B, e, Γ, d, e', w, h1, q⟩ : tD X.K Φ (.call f (.cons x a)) σ H Q)
      exact ⟨B', e2, Γ', as, e3, w', g1, fun vs H1 s w1 => .inl (g2 vs H1 s w1)⟩
    · exact exc_imp w h1 fun C H' x1 x2 w' => q C H' x1 x2 w'
  · rename_i e0 s f x a
    obtain ⟨es, q1, q2, rfl, h⟩ := chk_tup h
    obtain ⟨y, ys, rfl, h1, h2⟩ := chk_cons h
    obtain ⟨z, zs, rfl, h3, h4⟩ := chk_cons h2
    cases zs with
    | cons _ _ => simp [chkL] at h4
    | nil =>
      obtain ⟨_, _, rfl⟩ := chk_str h1
      refine (pe_tup (pa_cons pe_str (pa_cons (PE_callX O tk h3) pa_nil (star_pl (chk_pl h3))) rfl)).imp ?_
      rintro σ H Q ⟨B, e, Γ, w, ⟨d, e', h1, q⟩ | ⟨c, e', h0, h1, q⟩⟩
      · rw [evE_st] at h1
        split at h1
        · rename_i d2 e3 hd2
          obtain ⟨rfl, rfl⟩ := inj2 h1
          obtain ⟨B', e2', Γ', as, e3', w', g1, g2⟩ := call_imp (Φ := Φ) (E := WE W σ) (⟨B, e, Γ, d2, _, w, hd2, fun v H' w1 => ⟨by rw [sizeLine_eq]; simp, fun p hp => q _ _ ⟨w1.fit, w1.pr, Sr.W.tupV (vs := [.str s, v]) (ds := [.str s, d2]) (w1.w.add (.str s)) rfl hp (by rw [sizeLine_eq]; simp)⟩⟩⟩ : tD X.K Φ (.call f (.cons x a)) σ H fun v H1 => [V.str s, v].length ≤ sizeLine ∧ ∀ p, H1 p = none → Q (.ref p) (upd H1 p (.tup [.str s, v])))
          exact ⟨B', e2', Γ', as, e3', w', g1, fun vs H1 s w1 => .inl (g2 vs H1 s w1)⟩
        · cases h1
      · rw [exE] at h1
        exact exc_imp w h1 fun C H' x1 x2 w' => q C H' x1 x2 w'
  · cases h
theorem SS_exX {a : T} : SS Φ k n pr Wx (.exX a) := by
  intro X sc st O h
  unfold chkS at h
  split at h <;> try (simp_all; done)
  all_goals (rename_i heq; cases heq)
  simp only [Bool.and_eq_true, Bool.not_eq_true'] at h
  refine (ps_expr (PE_X O.x O.tk h.2) (sw_no h.1)).imp ?_
  rintro D σ H ⟨B, e, Γ, r, hp, w, h, q⟩
  rw [evS] at h
  split at h
  · rename_i d e1 h1
    cases h
    exact ⟨B, e, Γ, w, .inl ⟨d, e1, h1, fun v H' w' => q σ H' w'.drop⟩⟩
  · rename_i h0
    split at h
    · rename_i c e1 h1
      cases h
      exact ⟨B, e, Γ, w, .inr ⟨c, e1, h0, h1, fun C H' x1 x2 w' => ⟨rfl, c, x1, x2, q σ H' w'⟩⟩⟩
    · cases h
theorem SS_asgX {i : Nat} {a : T} : SS Φ k n pr Wx (.asgX i a) := by
  intro X sc st O h
  unfold chkS at h
  split at h <;> try (simp_all; done)
  all_goals (rename_i heq; cases heq)
  simp only [Bool.and_eq_true, decide_eq_true_eq, Bool.not_eq_true', List.contains_eq_mem, decide_eq_false_iff_not] at h
  obtain ⟨⟨⟨⟨h1, h2⟩, h3⟩, h4⟩, h5⟩ := h
  refine (ps_set O.x.nd (by rw [O.x.N]; exact h1) (O.x.loc h2) (PE_X O.x O.tk h5) (sw_no h4) (.inl (O.fn _))).imp ?_
  rintro D σ H ⟨B, e, Γ, r, hp, w, h, q⟩
  rw [evS] at h
  split at h
  · rename_i d e1 h1
    cases h
    exact ⟨B, e, Γ, w, .inl ⟨d, e1, h1, fun v H' w' => q _ _ (w'.asgT fun p hpp z => h3 (z ▸ hp p hpp))⟩⟩
  · rename_i h0
    split at h
    · rename_i c e1 h1
      cases h
      exact ⟨B, e, Γ, w, .inr ⟨c, e1, h0, h1, fun C H' x1 x2 w' => ⟨rfl, c, x1, x2, q σ H' w'⟩⟩⟩
    · cases h
/-- what a clause's suite is to do -/
def tHd (X : Cx) (n : Nm) (pr : List Nat) (i : Nat) (q : T) : Addr → Value → Option Addr → TS := fun a cls d D σ H => ∃ c C, n.xr c = true ∧ X.mg (xnm c) = some (.ref C) ∧ cls = .ref C ∧ d = none ∧
  ∃ B e Γ e', (∀ p ∈ B.pr, p.1 ∈ pr) ∧ xsl q i = true ∧ (i < σ.length → σ[i]? = some (some (.ref a))) ∧ Wd X.K B σ e Γ H ∧ evXS c q e = some e' ∧ ∀ σ' H', Wd X.K B σ' e' Γ H' → D.nx σ' H'
theorem hd_ok (O : OkS Φ k n Wx X sc) : ∀ {hs : T} {hds : List ExceptHandler}, chkH n sc pr hs hds = true → ∃ l, HdsAs X hds l ∧ ∀ {c : Nat} {C : Addr} {D : Ends} {B : Bs} {Γ : List Rt} {σ : L2.St} {e : Env} {H : Hp} {r : Fl × Env}, n.xr c = true → X.mg (xnm c) = some (.ref C) → (∀ p ∈ B.pr, p.1 ∈ pr) → Wd X.K B σ e Γ H → hndl hs c e = some r → Post X.K B Γ D Wx r →
      wManyAs X.K (fun cls d σ H => d = none ∧ ∃ c, n.xr c = true ∧ X.mg (xnm c) = some cls ∧ Wx c σ H) D l (.ref C) none σ H := by
  have key : ∀ {hds : List ExceptHandler} {hs : T}, chkH n sc pr hs hds = true → ∃ l, HdsAs X hds l ∧ ∀ {c : Nat} {C : Addr} {D : Ends} {B : Bs} {Γ : List Rt} {σ : L2.St} {e : Env} {H : Hp} {r : Fl × Env}, n.xr c = true → X.mg (xnm c) = some (.ref C) → (∀ p ∈ B.pr, p.1 ∈ pr) → Wd X.K B σ e Γ H → hndl hs c e = some r → Post X.K B Γ D Wx r →
      wManyAs X.K (fun cls d σ H => d = none ∧ ∃ c, n.xr c = true ∧ X.mg (xnm c) = some cls ∧ Wx c σ H) D l (.ref C) none σ H := by
    intro hds
    induction hds with
    | nil =>
      intro hs h
      have e : hs = .nil := by
        unfold chkH at h
        split at h
        · rfl
        · rename_i heq; cases heq
        · cases h
      subst e
      refine ⟨[], .nil, fun {c C D B Γ σ e H r} hr hC hp w h q => ?_⟩
      rw [hndl] at h
      cases h
      exact ⟨rfl, c, hr, hC, q σ H w⟩
    | cons hd0 hds ih =>
      intro hs h
      unfold chkH at h
      split at h
      · rename_i heq; cases heq
      · rename_i t i q r x np y b0 ss pos hds' heq
        cases heq
        simp only [Bool.and_eq_true, decide_eq_true_eq, Bool.not_eq_true', List.contains_eq_mem, decide_eq_false_iff_not] at h
        obtain ⟨⟨⟨⟨⟨⟨⟨⟨⟨rfl, h2⟩, h3⟩, h4⟩, h5⟩, h6⟩, h7⟩, h8⟩, h9⟩, h10⟩ := h
        obtain ⟨l, hl, hq⟩ := ih h10
        obtain ⟨T, hT, _⟩ := O.xk.tc t h2
        have hln : X.env.kindOf y = some .local := by
          show X.env.scope.names.lookup y = _
          rw [O.x.sc]; exact h6
        refine ⟨(.ref T, i, tHd X n pr i q) :: l, .cons ⟨O.x.gl h3, h4, .inl hT⟩ (by rw [O.x.N]; exact h5) hln (fun a oe cls d pn hz hf => ⟨fun pins s σ H D I hh => ?_⟩) hl, fun {c C D B Γ σ e H r'} hr hC hp w h q' => ?_⟩
        · obtain ⟨c, C, hr, hC, rfl, rfl, B, e, Γ, e', hp, hx, hs, w, hd, qq⟩ := hh
          refine ((XS_all (i := i) O.x O.fn O.xk hr hC hz hf q).2 h8).run pins s σ H D I ⟨B, e, Γ, e', hp, hx, hs ?_, w, hd, fun σ' H' _ w' => qq σ' H' w'⟩
          have hlen : σ.length = X.N.length := I.len
          rw [hlen, O.x.N]
          exact (List.getElem?_eq_some_iff.mp h5).1
        · rw [hndl] at h
          refine ⟨isub c t, O.xk.exm hr h2 hC hT, fun hb a ha => ?_, fun hb => ?_⟩
          · rw [if_pos hb] at h
            split at h
            · rename_i e2 hx
              cases h
              have ni : ∀ p ∈ B.pr, p.1 ≠ i := fun p hpp z => h7 (z ▸ hp p hpp)
              refine ⟨c, C, hr, hC, rfl, rfl, B, e.set i none, Γ, e2, hp, h9, fun hlt => List.getElem?_set_self (by simpa using hlt), w.reslot ni, hx, fun σ' H' w' => ?_⟩
              exact q' _ _ (w'.reslot ni)
            · cases h
          · rw [if_neg (by rw [hb]; exact Bool.false_ne_true)] at h
            exact hq hr hC hp w h q'
      · cases h
  exact fun {hs hds} h => key h
theorem SS_tri {a hs : T} (sa : ∀ Wx, SB Φ k n pr Wx a) : SS Φ k n pr Wx (.tri a hs) := by
  intro X sc st O h
  unfold chkS at h
  split at h <;> try (simp_all; done)
  all_goals (rename_i heq; cases heq)
  simp only [Bool.and_eq_true, Bool.not_eq_true'] at h
  obtain ⟨⟨h1, h2⟩, h3⟩ := h
  rename_i p hds pos
  cases hds with
  | nil => simp at h3
  | cons h0 hds =>
    obtain ⟨l, hl, hq⟩ := hd_ok O h2
    refine (ps_try_manyAs (tb := fun W => tS X.K Φ pr (fun c σ H => ∀ C, n.xr c = true → X.mg (xnm c) = some C → W C none σ H) a) O.hs O.hf O.x.nd O.tk (fun W pn xe tk own => ?_) hl).imp ?_
    · have Ox : OkX Φ k n (X.tr pn xe) sc := ⟨O.x.N, O.x.nd, O.x.sc, O.x.calm, own, O.x.lv1, O.x.lv, O.x.lv0, O.x.bt, O.x.fns, O.x.fx, O.x.kc, O.x.mf, O.x.kf⟩
      refine sa _ ⟨Ox, O.fn, O.hs, O.hf, O.xk, tk.imp ?_⟩ h1
      rintro cls d σ H ⟨rfl, c, x1, x2, z⟩
      exact z cls x1 x2
    · rintro D σ H ⟨B, e, Γ, r, hp, w, h, q⟩
      rw [evS] at h
      split at h
      · rename_i c e1 h1'
        refine ⟨B, e, Γ, (.xc c, e1), hp, w, h1', fun σ' H' w' C x1 x2 => ?_⟩
        obtain ⟨C', hC', _⟩ := O.xk.cl c x1
        rw [x2] at hC'
        cases hC'
        exact hq x1 x2 hp w' h q
      · rename_i r0 hr0 h1'
        cases h
        refine ⟨B, e, Γ, r, hp, w, h1', ?_⟩
        obtain ⟨f, e1⟩ := r
        cases f with
        | nx => exact q
        | rt d => exact q
        | bk => exact q
        | ct => exact q
        | xc c => exact absurd rfl (hr0 c e1)
      · cases h
structure AllS (Φ : Fs) (k : Nat) (n : Nm) (pr : List Nat) (Wx : Nat → L2.St → Hp → Prop) (t : T) : Prop where
  s : SS Φ k n pr Wx t
  b : SB Φ k n pr Wx t
theorem noSS {t : T} (h : ∀ {sc : Scope} {st : Stmt}, chkS n sc pr t st = false) : SS Φ k n pr Wx t := fun O hh => by rw [h] at hh; cases hh
theorem noSB {t : T} (h : ∀ {sc : Scope} {st : List Stmt}, chkB n sc pr t st = false) : SB Φ k n pr Wx t := fun O hh => by rw [h] at hh; cases hh
theorem all_stmts : ∀ (t : T) (Wx : Nat → L2.St → Hp → Prop), AllS Φ k n pr Wx t := by
  intro t
  induction t with
  | pass => exact fun Wx => ⟨SS_pass, SB_pass⟩
  | seq a r ia ir => exact fun Wx => ⟨noSS rfl, SB_seq (ia Wx).s (ir Wx).b⟩
  | asg i a _ => exact fun Wx => ⟨SS_asg, noSB rfl⟩
  | upk tg a _ => exact fun Wx => ⟨SS_upk, noSB rfl⟩
  | st p i a _ _ _ => exact fun Wx => ⟨SS_st, noSB rfl⟩
  | app i a _ => exact fun Wx => ⟨SS_app, noSB rfl⟩
  | apq p a _ _ => exact fun Wx => ⟨SS_apq, noSB rfl⟩
  | ex a _ => exact fun Wx => ⟨SS_ex, noSB rfl⟩
  | dst p i a _ _ _ => exact fun Wx => ⟨SS_dst, noSB rfl⟩
  | sfl c i f a _ => exact fun Wx => ⟨SS_sfl, noSB rfl⟩
  | exP f i kk => exact fun Wx => ⟨SS_exP, noSB rfl⟩
  | cond c a b _ ia ib => exact fun Wx => ⟨SS_cond (ia Wx).b (ib Wx).b, noSB rfl⟩
  | whl ks c b _ ib => exact fun Wx => ⟨SS_whl (ib Wx).b, noSB rfl⟩
  | for_ tg ks it b _ ib => exact fun Wx => ⟨SS_for (ib Wx).b, noSB rfl⟩
  | fow tg ks a b _ ib => exact fun Wx => ⟨SS_fow (ib Wx).b, noSB rfl⟩
  | ret a _ => exact fun Wx => ⟨SS_ret, noSB rfl⟩
  | brk => exact fun Wx => ⟨SS_brk, noSB rfl⟩
  | cnt => exact fun Wx => ⟨SS_cnt, noSB rfl⟩
  | rs c => exact fun Wx => ⟨SS_rs, noSB rfl⟩
  | exX a _ => exact fun Wx => ⟨SS_exX, noSB rfl⟩
  | asgX i a _ => exact fun Wx => ⟨SS_asgX, noSB rfl⟩
  | tri a hs ia _ => exact fun Wx => ⟨SS_tri fun Wx => (ia Wx).b, noSB rfl⟩
  | rse => exact fun Wx => ⟨SS_rse, noSB rfl⟩
  | _ => exact fun Wx => ⟨noSS rfl, noSB rfl⟩
end
end Sr
set_option Elab.async false
set_option linter.all false
set_option maxRecDepth 100000
set_option maxHeartbeats 2000000
/-! # Sr: defs, the law's end -/
namespace Sr
open PySem PySem.Spec PyProof.Rows L2

def prI : List Bool → Nat → List Nat
  | [], _ => []
  | b :: r, i => if b then i :: prI r (i + 1) else prI r (i + 1)
def prV : List Bool → List V → Nat → List (Nat × V)
  | b :: r, v :: vs, i => if b then (i, v) :: prV r vs (i + 1) else prV r vs (i + 1)
  | _, _, _ => []
theorem prV_I : ∀ {io : List Bool} {vs : List V} {i : Nat} {p : Nat × V}, p ∈ prV io vs i → p.1 ∈ prI io i
  | [], _, _, _, h => by simp [prV] at h
  | _ :: _, [], _, _, h => by simp [prV] at h
  | b :: io, v :: vs, i, p, h => by
    unfold prV at h
    unfold prI
    cases b with
    | true =>
      simp only [if_true] at h ⊢
      rcases List.mem_cons.mp h with rfl | h
      · exact List.mem_cons_self
      · exact List.mem_cons_of_mem _ (prV_I h)
    | false =>
      simp only [Bool.false_eq_true, if_false] at h ⊢
      exact prV_I h
theorem prV_at : ∀ {io : List Bool} {vs : List V} {i : Nat} {p : Nat × V}, p ∈ prV io vs i → i ≤ p.1 ∧ vs[p.1 - i]? = some p.2
  | [], _, _, _, h => by simp [prV] at h
  | _ :: _, [], _, _, h => by simp [prV] at h
  | b :: io, v :: vs, i, p, h => by
    unfold prV at h
    have rc : p ∈ prV io vs (i + 1) → i ≤ p.1 ∧ (v :: vs)[p.1 - i]? = some p.2 := fun h => by
      obtain ⟨h1, h2⟩ := prV_at h
      refine ⟨by omega, ?_⟩
      have e : p.1 - i = (p.1 - (i + 1)) + 1 := by omega
      rw [e]; simpa using h2
    cases b with
    | true =>
      simp only [if_true] at h
      rcases List.mem_cons.mp h with rfl | h
      · exact ⟨Nat.le_refl _, by simp⟩
      · exact rc h
    | false =>
      simp only [Bool.false_eq_true, if_false] at h
      exact rc h
theorem prV_mem : ∀ {io : List Bool} {vs : List V} {i j : Nat} {v : V}, io[j]? = some true → vs[j]? = some v → (i + j, v) ∈ prV io vs i
  | [], _, _, _, _, h, _ => by simp at h
  | _ :: _, [], _, _, _, _, h => by simp at h
  | b :: io, u :: vs, i, 0, v, h1, h2 => by
    simp at h1 h2; subst h1; subst h2
    unfold prV
    simp
  | b :: io, u :: vs, i, j + 1, v, h1, h2 => by
    have ih := prV_mem (i := i + 1) (io := io) (vs := vs) (j := j) (by simpa using h1) (by simpa using h2)
    have e : i + (j + 1) = i + 1 + j := by omega
    unfold prV
    rw [e]
    cases b with
    | true => exact List.mem_cons_of_mem _ ih
    | false => exact ih
theorem er_start : ∀ {vs : List V} {ds : List D} {m m' : Nat}, vs.length = ds.length → er (vs.map some ++ List.replicate m none) (ds.map some ++ List.replicate m' none) = vs.zip ds
  | [], [], 0, _, _ => by cases ‹Nat› <;> rfl
  | [], [], m + 1, 0, _ => rfl
  | [], [], m + 1, m' + 1, _ => by
    have := er_start (vs := []) (ds := []) (m := m) (m' := m') rfl
    simpa [List.replicate_succ, er] using this
  | [], _ :: _, _, _, h => by simp at h
  | _ :: _, [], _, _, h => by simp at h
  | v :: vs, d :: ds, m, m', h => by
    have := er_start (vs := vs) (ds := ds) (m := m) (m' := m') (by simpa using h)
    simp only [List.map_cons, List.cons_append, er, List.zip_cons_cons, this]
theorem W.sub {K : PySem.W.Frag} {B : Bs} {H : Hp} {R R' : List Rt} (s : R'.Sublist R) (w : W K B H R) : W K B H R' := by
  have key : ∀ {R R' : List Rt}, R'.Sublist R → ∀ {X : List Rt}, W K B H (X ++ R) → W K B H (X ++ R') := by
    intro R R' s
    induction s with
    | slnil => exact fun w => w
    | cons a _ ih => exact fun {X} w => ih (W.drop (w.perm List.perm_middle))
    | @cons_cons l1 l2 a _ ih =>
      intro X w
      have := ih (X := X ++ [a]) (by simpa using w)
      simpa using this
  simpa using key s (X := []) (by simpa using w)
theorem er_outs : ∀ {io : List Bool} {vs : List V} {σ : List (Option V)} {e : Env}, (∀ (j : Nat) (v : V), io[j]? = some true → vs[j]? = some v → σ[j]? = some (some v)) → (er (vs.map some) (outs io e)).Sublist (er σ e)
  | [], vs, σ, e, _ => by
    have : er (vs.map some) (outs [] e) = [] := by cases vs <;> rfl
    rw [this]; exact List.nil_sublist _
  | b :: io, [], σ, e, _ => by
    have : er (([] : List V).map some) (outs (b :: io) e) = [] := rfl
    rw [this]; exact List.nil_sublist _
  | b :: io, v :: vs, σ, e, h => by
    have ih : (er (vs.map some) (outs io e.tail)).Sublist (er σ.tail e.tail) := er_outs fun j u h1 h2 => by
      have := h (j + 1) u (by simpa using h1) (by simpa using h2)
      cases σ with
      | nil => simp at this
      | cons a σ => simpa using this
    have step : (er σ.tail e.tail).Sublist (er σ e) := by
      cases σ with
      | nil => cases e <;> exact .refl _
      | cons a σ =>
        cases e with
        | nil =>
          have e0 : er σ ([] : Env) = [] := by cases σ with
            | nil => rfl
            | cons a _ => cases a <;> rfl
          show (er σ ([] : Env)).Sublist _
          rw [e0]; exact List.nil_sublist _
        | cons c e =>
          cases a <;> cases c <;> first | exact .refl _ | exact List.sublist_cons_self _ _
    have plain : (er (some v :: vs.map some) (none :: outs io e.tail)).Sublist (er σ e) := ih.trans step
    cases b with
    | false => exact plain
    | true =>
      have h0 := h 0 v rfl rfl
      cases σ with
      | nil => simp at h0
      | cons a σ =>
        simp at h0; subst h0
        cases e with
        | nil => exact plain
        | cons c e =>
          cases c with
          | none => exact plain
          | some d => exact ih.cons_cons _

section
variable {P : Program} {w : World} {K : PySem.W.Frag} {mg : Str → Option Value} {base : Heap}
/-- the promise of one def -/
def spDf (K : PySem.W.Frag) (Φ : Fs) (d : Df) : Sp := fun vs H Q _ => ∃ (ds : List D) (r : D) (os : List (Option D)) (F S : List Addr),
  vs.length = d.io.length ∧ Reps K H vs ds F S ∧ Okk ⟨H, F, S, []⟩ H F S ∧ runDf Φ d ds = some (r, os) ∧
  ∀ v H', W K ⟨H, F, S, []⟩ H' ((v, r) :: er (vs.map some) os) → Q v H'
/-- what the text of a def is to be -/
structure DefT (n : Nm) (d : Df) (ps : List Str) (st : Stmt) : Prop where
  S : FnScope n.N ps (defScope st)
  hc : chkB n (defScope st) (prI d.io 0) d.body (defBody st) = true
  hl : d.io.length = ps.length
  hn : d.names = n.N.length
/-- .. that may let something out -/
def spDfX (K : PySem.W.Frag) (mg : Str → Option Value) (xr : Nat → Bool) (Φ : Fs) (d : Df) : Sp := fun vs H Q E => spDf K Φ d vs H Q E ∨ ∃ (ds : List D) (c : Nat) (F S : List Addr),
  vs.length = d.io.length ∧ Reps K H vs ds F S ∧ Okk ⟨H, F, S, []⟩ H F S ∧ excDf Φ d ds = some c ∧ ∀ C H', xr c = true → mg (xnm c) = some C → W K ⟨H, F, S, []⟩ H' [] → E C none H'
/-- the functions that may be called -/
structure FnsOk (P : Program) (w : World) (K : PySem.W.Frag) (mg : Str → Option Value) (base : Heap) (Φ : Fs) (k : Nat) (n : Nm) : Prop where
  xo : XOk K mg n.xr n.xc
  fns : ∀ f, n.nf f = true → ∃ A fd ps, mg (n.fn f) = some (.ref A) ∧ PySem.W.keepIn K (.ref A) = true ∧ Binds K fd ps [] ∧ FnOk P w K mg base CX0 k A fd ps (spOf K Φ f)
  fx : ∀ f, n.nf f = true → ∃ A fd ps, mg (n.fn f) = some (.ref A) ∧ PySem.W.keepIn K (.ref A) = true ∧ Binds K fd ps [] ∧ FnOk P w K mg base (L2.CX P w) k A fd ps (spOfX K mg n.xr Φ f)
  kc : ∀ c, n.kc c = true → ∃ C, PySem.W.nsIn K mainGlobals (cnm c) = some (some (.ref C)) ∧ InsTy K C ∧ ∀ f ∈ cfl c, NoAttr K C f
  mf : ∀ f c, n.mf f c = true → n.kc c = true ∧ n.fn f ∉ cfl c ∧ ∃ A fd ps C, PySem.W.nsIn K mainGlobals (cnm c) = some (some (.ref C)) ∧ Meth K C (n.fn f) A ∧ Binds K fd ps [] ∧ FnOk P w K mg base CX0 k A fd ps (spOf K Φ f)
  kf : ∀ c f, n.kf c f = true → n.kc c = true ∧ ∃ A fd ps C, PySem.W.nsIn K mainGlobals (cnm c) = some (some (.ref C)) ∧ mg (cnm c) = some (.ref C) ∧ Mk K C A ∧ Binds K fd ps [] ∧ FnOk P w K mg base CX0 k A fd ps (spOf K Φ f)
variable {Φ : Fs} {k : Nat} {n : Nm} {d : Df} {ps : List Str} {st : Stmt} {x qual : Str} {A : Addr} {fd : FuncData}
theorem body_ok (T : DefT n d ps st) (bt : ∀ x ∈ bltNames, mg x = none) (fns : FnsOk P w K mg base Φ k n) {cdv : Value} {Ar : Around} {outer : List PySem.Env} {s : Shared} {H : Hp} {E : XK} (hr : Room (k + 1) (Ar.deeper (envOfC qual (defScope st) s.heap.objs.size A cdv))) :
    PSs (cxOf CX0 P w K mg base n.N qual (defScope st) A cdv Ar outer s H E).nox (defBody st) (tS K Φ (prI d.io 0) (fun _ _ _ => False) d.body) :=
  (all_stmts d.body (fun _ _ _ => False)).b (X := (cxOf CX0 P w K mg base n.N qual (defScope st) A cdv Ar outer s H E).nox) (sc := defScope st) ⟨⟨rfl, T.S.nd, rfl, rfl, PassesOwn.never, hr, hr.mono (Nat.le_succ _), hr.mono (Nat.zero_le _), bt, fns.fns, fns.fx, fns.kc, fns.mf, fns.kf⟩, fun _ => rfl, rfl, rfl, fns.xo, takes0.imp (by rintro c d σ H ⟨_, _, _, _, z⟩; exact z)⟩ T.hc
theorem body_okX (T : DefT n d ps st) (bt : ∀ x ∈ bltNames, mg x = none) (fns : FnsOk P w K mg base Φ k n) {cdv : Value} {Ar : Around} {outer : List PySem.Env} {s : Shared} {H : Hp} {E : XK} (hr : Room (k + 1) (Ar.deeper (envOfC qual (defScope st) s.heap.objs.size A cdv))) :
    PSs (cxOf (L2.CX P w) P w K mg base n.N qual (defScope st) A cdv Ar outer s H E) (defBody st) (tS K Φ (prI d.io 0) (fun c _ H => ∀ C, n.xr c = true → mg (xnm c) = some C → E C none H) d.body) := by
  have tk : Takes (cxOf (L2.CX P w) P w K mg base n.N qual (defScope st) A cdv Ar outer s H E) (fun cls d _ H => E cls d H) := takes_of rfl rfl rfl rfl
  exact (all_stmts d.body (fun c _ H => ∀ C, n.xr c = true → mg (xnm c) = some C → E C none H)).b (X := cxOf (L2.CX P w) P w K mg base n.N qual (defScope st) A cdv Ar outer s H E) (sc := defScope st) ⟨⟨rfl, T.S.nd, rfl, rfl, passes_of rfl, hr, hr.mono (Nat.le_succ _), hr.mono (Nat.zero_le _), bt, fns.fns, fns.fx, fns.kc, fns.mf, fns.kf⟩, fun _ => rfl, rfl, rfl, fns.xo, tk.imp (by rintro c d σ H ⟨rfl, _, x1, x2, z⟩; exact z _ x1 x2)⟩ T.hc
theorem Okk.re {B B' : Bs} {H : Hp} {F S : List Addr} (o : Okk B H F S) (h : B'.H0 = B.H0 ∧ B'.F0 = B.F0 ∧ B'.S0 = B.S0) : Okk B' H F S := by
  obtain ⟨b1, b2, b3⟩ := h
  exact ⟨o.nd, o.dj, by rw [b1, b2]; exact o.fF, by rw [b1, b2, b3]; exact o.fS, by rw [b1, b2]; exact o.kp, o.sz⟩
/-- where a def's body begins -/
theorem wd_start {vs : List V} {ds : List D} {H : Hp} {F S : List Addr} {N : List Str} {io : List Bool} (hl : vs.length = io.length) (hN : io.length ≤ N.length) (r : Reps K H vs ds F S) (o : Okk ⟨H, F, S, []⟩ H F S) :
    Wd K ⟨H, F, S, prV io vs 0⟩ (L2.start N vs) (ds.map some ++ List.replicate (N.length - ds.length) none) [] H := by
  have l := r.len
  refine ⟨⟨?_, fun i d h => ?_⟩, fun p hp => ?_, F, S, ?_, o.re ⟨rfl, rfl, rfl⟩⟩
  · unfold L2.start
    rw [List.length_append, List.length_append, List.length_map, List.length_map, List.length_replicate, List.length_replicate, l]
  · by_cases hi : i < ds.length
    · refine ⟨vs[i]'(by omega), ?_⟩
      unfold L2.start
      rw [List.getElem?_append_left (by rw [List.length_map]; omega), List.getElem?_map, List.getElem?_eq_getElem (by omega)]; rfl
    · rw [List.getElem?_append_right (by rw [List.length_map]; omega), List.getElem?_replicate] at h
      split at h <;> cases h
  · obtain ⟨_, h2⟩ := prV_at hp
    simp only [Nat.sub_zero] at h2
    obtain ⟨hh, _⟩ := List.getElem?_eq_some_iff.mp h2
    unfold L2.start
    rw [List.getElem?_append_left (by rw [List.length_map]; exact hh), List.getElem?_map, h2]; rfl
  · show Reps K H _ _ _ _
    unfold L2.start
    rw [List.nil_append, er_start l, List.map_fst_zip (Nat.le_of_eq l), List.map_snd_zip (Nat.le_of_eq l.symm)]
    exact r
theorem runDf_some {ds : List D} {r : D} {os : List (Option D)} (h : runDf Φ d ds = some (r, os)) : ds.length = d.io.length ∧ ∃ f e, evS Φ d.body (ds.map some ++ List.replicate (d.names - ds.length) none) = some (f, e) ∧ (f = .rt r ∨ (f = .nx ∧ r = .non)) ∧ os = outs d.io e := by
  unfold runDf at h
  split at h
  · rename_i hl
    split at h
    · rename_i r' e he
      obtain ⟨rfl, rfl⟩ := inj2 h
      exact ⟨hl, _, _, he, .inl rfl, rfl⟩
    · rename_i e he
      obtain ⟨rfl, rfl⟩ := inj2 h
      exact ⟨hl, _, _, he, .inr ⟨rfl, rfl⟩, rfl⟩
    · cases h
  · cases h
theorem N_le (T : DefT n d ps st) : d.io.length ≤ n.N.length := by
  have := congrArg List.length T.S.pre
  rw [List.length_take] at this
  rw [T.hl]; omega
theorem fn_ok (F : Fun K x qual st A fd) (T : DefT n d ps st) (bt : ∀ x ∈ bltNames, mg x = none) (fns : FnsOk P w K mg base Φ k n) : FnOk P w K mg base CX0 (k + 2) A fd ps (spDf K Φ d) := by
  refine F.ok T.S (fun vs H Q E h => ?_) (fun cdv Ar outer s H vs Q E hr h => ⟨_, body_ok T bt fns hr, ?_⟩)
  · obtain ⟨_, _, _, _, _, h, _⟩ := h
    rw [h, T.hl]
  · obtain ⟨ds, r, os, F, S, hl, rr, o, hrun, q⟩ := h
    obtain ⟨_, f, e, he, hf, hos⟩ := runDf_some hrun
    have w0 := wd_start (N := n.N) hl (N_le T) rr o
    rw [T.hn] at he
    refine ⟨_, _, _, _, fun p hp => prV_I hp, w0, he, ?_⟩
    have fin : ∀ σ v H', Wd K ⟨H, F, S, prV d.io vs 0⟩ σ e [(v, r)] H' → Q v H' := fun σ v H' w1 => by
      refine q v H' ?_
      have s1 : ((v, r) :: er (vs.map some) os).Sublist ([(v, r)] ++ er σ e) := by
        rw [hos]
        exact (er_outs fun j u h1 h2 => by
          have := w1.pr _ (prV_mem (i := 0) h1 h2)
          simpa using this).cons_cons _
      obtain ⟨F1, S1, r1, o1⟩ := w1.w.sub s1
      exact ⟨F1, S1, r1, o1.re ⟨rfl, rfl, rfl⟩⟩
    rcases hf with rfl | ⟨rfl, rfl⟩
    · exact fin
    · exact fun σ H' w1 => fin σ .non H' ⟨w1.fit, w1.pr, w1.w.add .non⟩

theorem excDf_some {ds : List D} {c : Nat} (h : excDf Φ d ds = some c) : ds.length = d.io.length ∧ ∃ e, evS Φ d.body (ds.map some ++ List.replicate (d.names - ds.length) none) = some (.xc c, e) := by
  unfold excDf at h
  split at h
  · rename_i hl
    split at h
    · rename_i c' e he
      cases h
      exact ⟨hl, _, he⟩
    · cases h
  · cases h
theorem fn_okX (F : Fun K x qual st A fd) (T : DefT n d ps st) (bt : ∀ x ∈ bltNames, mg x = none) (fns : FnsOk P w K mg base Φ k n) : FnOk P w K mg base (L2.CX P w) (k + 2) A fd ps (spDfX K mg n.xr Φ d) := by
  refine F.okX T.S (fun vs H Q E h => ?_) (fun cdv Ar outer s H vs Q E hr h => ⟨_, body_okX T bt fns hr, ?_⟩)
  · rcases h with ⟨_, _, _, _, _, h, _⟩ | ⟨_, _, _, _, h, _⟩ <;> rw [h, T.hl]
  · rcases h with ⟨ds, r, os, F, S, hl, rr, o, hrun, q⟩ | ⟨ds, c, F, S, hl, rr, o, hrun, q⟩
    · obtain ⟨_, f, e, he, hf, hos⟩ := runDf_some hrun
      have w0 := wd_start (N := n.N) hl (N_le T) rr o
      rw [T.hn] at he
      refine ⟨_, _, _, _, fun p hp => prV_I hp, w0, he, ?_⟩
      have fin : ∀ σ v H', Wd K ⟨H, F, S, prV d.io vs 0⟩ σ e [(v, r)] H' → Q v H' := fun σ v H' w1 => by
        refine q v H' ?_
        have s1 : ((v, r) :: er (vs.map some) os).Sublist ([(v, r)] ++ er σ e) := by
          rw [hos]
          exact (er_outs fun j u h1 h2 => by
            have := w1.pr _ (prV_mem (i := 0) h1 h2)
            simpa using this).cons_cons _
        obtain ⟨F1, S1, r1, o1⟩ := w1.w.sub s1
        exact ⟨F1, S1, r1, o1.re ⟨rfl, rfl, rfl⟩⟩
      rcases hf with rfl | ⟨rfl, rfl⟩
      · exact fin
      · exact fun σ H' w1 => fin σ .non H' ⟨w1.fit, w1.pr, w1.w.add .non⟩
    · obtain ⟨_, e, he⟩ := excDf_some hrun
      have w0 := wd_start (N := n.N) hl (N_le T) rr o
      rw [T.hn] at he
      refine ⟨_, _, _, _, fun p hp => prV_I hp, w0, he, fun σ H' w1 C x1 x2 => ?_⟩
      obtain ⟨F1, S1, r1, o1⟩ := W.sub (List.nil_sublist _) w1.w
      exact q C H' x1 x2 ⟨F1, S1, r1, o1.re ⟨rfl, rfl, rfl⟩⟩
/-- all functions, by levels -/
structure FnAt (K : PySem.W.Frag) (mg : Str → Option Value) (n : Nm) (d : Df) (x : Str) : Prop where
  ex : ∃ N ps st A fd qual, DefT { n with N := N } d ps st ∧ Fun K x qual st A fd ∧ mg x = some (.ref A) ∧ Binds K fd ps []
/-- a method; an __init__ -/
structure MfAt (K : PySem.W.Frag) (n : Nm) (d : Df) (c : Nat) (x : Str) : Prop where
  kc : n.kc c = true
  no : x ∉ cfl c
  ex : ∃ N ps st A fd qual C, DefT { n with N := N } d ps st ∧ Fun K x qual st A fd ∧ PySem.W.nsIn K mainGlobals (cnm c) = some (some (.ref C)) ∧ Meth K C x A ∧ Binds K fd ps []
structure KfAt (K : PySem.W.Frag) (mg : Str → Option Value) (n : Nm) (d : Df) (c : Nat) : Prop where
  kc : n.kc c = true
  ex : ∃ N ps st A fd qual x C, DefT { n with N := N } d ps st ∧ Fun K x qual st A fd ∧ PySem.W.nsIn K mainGlobals (cnm c) = some (some (.ref C)) ∧ mg (cnm c) = some (.ref C) ∧ Mk K C A ∧ Binds K fd ps []
structure AllAt (K : PySem.W.Frag) (mg : Str → Option Value) (n : Nm) (Pd : Nat → Df) : Prop where
  fns : ∀ f, n.nf f = true → FnAt K mg n (Pd f) (n.fn f)
  kc : ∀ c, n.kc c = true → ∃ C, PySem.W.nsIn K mainGlobals (cnm c) = some (some (.ref C)) ∧ InsTy K C ∧ ∀ f ∈ cfl c, NoAttr K C f
  mf : ∀ f c, n.mf f c = true → MfAt K n (Pd f) c (n.fn f)
  kf : ∀ c f, n.kf c f = true → KfAt K mg n (Pd f) c
theorem FnsOk.toN (fns : FnsOk P w K mg base Φ k n) (N : List Str) : FnsOk P w K mg base Φ k { n with N := N } := ⟨fns.xo, fns.fns, fns.fx, fns.kc, fns.mf, fns.kf⟩
theorem all_fns {Pd : Nat → Df} (bt : ∀ x ∈ bltNames, mg x = none) (xo : XOk K mg n.xr n.xc) (h : AllAt K mg n Pd) : ∀ k, FnsOk P w K mg base (fnsN Pd k) (2 * k) n
  | 0 => by
    have no : ∀ f vs H Q E, ¬ spOf K (fnsN Pd 0) f vs H Q E := fun f vs H Q E h => by
      obtain ⟨_, _, _, _, _, _, _, _, h, _⟩ := h
      cases h
    have no2 : ∀ f vs H Q E, ¬ spOfX K mg n.xr (fnsN Pd 0) f vs H Q E := fun f vs H Q E h => by
      rcases h with h | ⟨_, _, _, _, _, _, _, h, _⟩
      · exact no f vs H Q E h
      · cases h
    refine ⟨xo, fun f hf => ?_, fun f hf => ?_, h.kc, fun f c hf => ?_, fun c f hf => ?_⟩
    · obtain ⟨N, ps, st, A, fd, qual, T, F, hm, hb⟩ := (h.fns f hf).ex
      exact ⟨A, fd, ps, hm, F.kp, hb, fun vs H Q E h => absurd h (no f vs H Q E), fun A outer s H args us vs Q E _ _ _ _ h => absurd h (no f vs H Q E)⟩
    · obtain ⟨N, ps, st, A, fd, qual, T, F, hm, hb⟩ := (h.fns f hf).ex
      exact ⟨A, fd, ps, hm, F.kp, hb, fun vs H Q E h => absurd h (no2 f vs H Q E), fun A outer s H args us vs Q E _ _ _ _ h => absurd h (no2 f vs H Q E)⟩
    · obtain ⟨k1, k2, N, ps, st, A, fd, qual, C, T, F, hC, M, hb⟩ := h.mf f c hf
      exact ⟨k1, k2, A, fd, ps, C, hC, M, hb, fun vs H Q E h => absurd h (no f vs H Q E), fun A outer s H args us vs Q E _ _ _ _ h => absurd h (no f vs H Q E)⟩
    · obtain ⟨k1, N, ps, st, A, fd, qual, x, C, T, F, hC, hm, M, hb⟩ := h.kf c f hf
      exact ⟨k1, A, fd, ps, C, hC, hm, M, hb, fun vs H Q E h => absurd h (no f vs H Q E), fun A outer s H args us vs Q E _ _ _ _ h => absurd h (no f vs H Q E)⟩
  | k + 1 => by
    refine ⟨xo, fun f hf => ?_, fun f hf => ?_, h.kc, fun f c hf => ?_, fun c f hf => ?_⟩
    · obtain ⟨N, ps, st, A, fd, qual, T, F, hm, hb⟩ := (h.fns f hf).ex
      have g := fn_ok (P := P) (w := w) (base := base) F T bt ((all_fns bt xo h k).toN N)
      exact ⟨A, fd, ps, hm, F.kp, hb, g⟩
    · obtain ⟨N, ps, st, A, fd, qual, T, F, hm, hb⟩ := (h.fns f hf).ex
      have g := fn_okX (P := P) (w := w) (base := base) F T bt ((all_fns bt xo h k).toN N)
      exact ⟨A, fd, ps, hm, F.kp, hb, g⟩
    · obtain ⟨k1, k2, N, ps, st, A, fd, qual, C, T, F, hC, M, hb⟩ := h.mf f c hf
      have g := fn_ok (P := P) (w := w) (base := base) F T bt ((all_fns bt xo h k).toN N)
      exact ⟨k1, k2, A, fd, ps, C, hC, M, hb, g⟩
    · obtain ⟨k1, N, ps, st, A, fd, qual, x, C, T, F, hC, hm, M, hb⟩ := h.kf c f hf
      have g := fn_ok (P := P) (w := w) (base := base) F T bt ((all_fns bt xo h k).toN N)
      exact ⟨k1, A, fd, ps, C, hC, hm, M, hb, g⟩

/-! ### the law's own def -/
def spLaw (K : PySem.W.Frag) : Sp := fun vs H Q _ => ∃ (a : Addr) (ns : List Int), vs = [.ref a] ∧ ns.length ≤ 63 ∧ (∀ z ∈ ns, Builtin.Int.intBits z ≤ 1048576) ∧ Only H ∧ SqL K H a (ns.map V.int) ∧ ∀ H', Q (.bl true) H'
theorem reps_ints {H : Hp} : ∀ ns : List Int, Reps K H (ns.map V.int) (ns.map D.int) [] []
  | [] => .nil
  | i :: ns => .cons (F := []) (S := []) (F' := []) (S' := []) (.int i) (reps_ints ns)
theorem ps_szOk {X : Cx} {sts : List Stmt} {t : TS} (h : PSs X sts t) : PSs X sts fun D σ H => SzOk H → t D σ H := ⟨fun pins s σ H D I q => h.run pins s σ H D I (q fun a xs z => by
  rcases z with z | z
  · obtain ⟨z, _⟩ := z.ok I.hok
    exact z
  · obtain ⟨z, _⟩ := z.ok I.hok
    exact z)⟩
theorem law_ok (F : Fun K x qual st A fd) (T : DefT n d ps st) (hio : d.io = [false]) (bt : ∀ x ∈ bltNames, mg x = none) (fns : FnsOk P w K mg base Φ k n)
    (hrun : ∀ ns : List Int, ns.length ≤ 63 → (∀ z ∈ ns, Builtin.Int.intBits z ≤ 1048576) → ∃ os, runDf Φ d [.lst false (ns.map D.int)] = some (.bl true, os)) : FnOk P w K mg base CX0 (k + 2) A fd ps (spLaw K) := by
  refine F.ok T.S (fun vs H Q E h => ?_) (fun cdv Ar outer s H vs Q E hr h => ⟨_, ps_szOk (body_ok T bt fns hr), fun sz => ?_⟩)
  · obtain ⟨_, _, rfl, _⟩ := h
    rw [← T.hl, hio]; rfl
  · obtain ⟨a, ns, rfl, h63, hb, hO, hS, q⟩ := h
    obtain ⟨os, hrun⟩ := hrun ns h63 hb
    obtain ⟨_, f, e, he, hf, hos⟩ := runDf_some hrun
    have rr : ∃ S, Reps K H [V.ref a] [.lst false (ns.map D.int)] [] S ∧ ∀ b ∈ S, b = a := by
      rcases hS with hS | hS
      · exact ⟨[a], .cons (S' := []) (.shr hS (reps_ints ns)) .nil, fun b hb => by simpa using hb⟩
      · exact ⟨[], .cons (S' := []) (.mod hS (reps_ints ns)) .nil, fun b hb => nomatch hb⟩
    obtain ⟨S, rr, _⟩ := rr
    have o : Okk ⟨H, [], S, []⟩ H [] S := ⟨List.nodup_nil, (fun _ z => nomatch z), (fun _ z => nomatch z), fun b hb => .inr (.inl hb), fun b o e _ => e, sz⟩
    have w0 := wd_start (N := n.N) (io := d.io) (by rw [hio]; rfl) (N_le T) rr o
    rw [T.hn] at he
    refine ⟨_, _, _, _, fun p hp => prV_I hp, w0, he, ?_⟩
    rcases hf with rfl | ⟨_, z⟩
    · intro σ v H' w1
      have := w1.headBl
      subst this
      exact q H'
    · cases z
end
/-- the law's end -/
theorem walk {l : PySem.W.OpenLaw} {q : Program} {loose : List Str} {XP : (Str → Option Value) → Heap → Prop} {YP : World → Heap → Prop} {d : DefRec} {K : Params → PySem.W.Frag} {k : Nat} {x : Str} (hk : k ≤ 220) (hn : l.most = some 63) (hdf : d.params.defaults = [])
    (hY : ∀ (w : World) (h : Heap), YP w h → (K w.params).In h)
    (F : ∀ (w : World) (mg : Str → Option Value) (fa : Addr) (h : Heap), (K w.params).In h → h.Ns mainGlobals mg → mg d.name = some (.ref fa) →
      ∃ fd : FuncData, (∀ (s : Shared) (u : Value), BindsTo s fd ⟨[u], []⟩ [(x, u)]) ∧ ∀ base : Heap, (K w.params).In base → base.Ns mainGlobals mg → FnOk l.prog w (K w.params) mg base CX0 k fa fd [x] (spLaw (K w.params))) :
    PySem.W.WalkO q loose XP YP l.row.toRowW d [] (fun f vs => PySem.call f vs) :=
  L2.walk_ofB (n := 63) (k := k) (x := x) (CX := fun _ => CX0) (sp := fun w => spLaw (K w.params)) hn (by decide) hdf (Room.mono (k := 220) ⟨rfl, by decide, by decide⟩ hk) hY F (fun _ _ a ns hl hb hO hS => ⟨a, ns, rfl, hl, hb, hO, hS, fun _ => rfl⟩) fun _ _ _ _ _ z => z
end Sr
set_option Elab.async false
set_option linter.all false
set_option maxRecDepth 100000
/-! # Sr: how a term is computed, by rules of rewriting -/
namespace Sr
open PySem PySem.Spec PyProof.Rows L2

/-- what comes next is not looked at before its turn -/
structure Tg {β : Type} (q : β) : Type where
def sat {α : Type} (o : Option (α × Env)) (Q : α → Env → Prop) (_ : Tg Q := ⟨⟩) : Prop := ∃ a e, o = some (a, e) ∧ Q a e
def opt {α : Type} (o : Option α) (Q : α → Prop) (_ : Tg Q := ⟨⟩) : Prop := ∃ a, o = some a ∧ Q a
def runs (o : Option (D × List (Option D))) (Q : D → List (Option D) → Prop) (_ : Tg Q := ⟨⟩) : Prop := ∃ r os, o = some (r, os) ∧ Q r os
@[simp] theorem runs_some {r : D} {os : List (Option D)} {Q : D → List (Option D) → Prop} : runs (some (r, os)) Q ↔ Q r os := ⟨fun ⟨_, _, h, q⟩ => (by cases h; exact q), fun q => ⟨_, _, rfl, q⟩⟩
@[simp] theorem sat_some {α : Type} {a : α} {e : Env} {Q : α → Env → Prop} : sat (some (a, e)) Q ↔ Q a e := ⟨fun ⟨_, _, h, q⟩ => (by cases h; exact q), fun q => ⟨_, _, rfl, q⟩⟩
@[simp] theorem sat_none {α : Type} {Q : α → Env → Prop} : sat none Q ↔ False := ⟨fun ⟨_, _, h, _⟩ => (by cases h), False.elim⟩
@[simp] theorem opt_some {α : Type} {a : α} {Q : α → Prop} : opt (some a) Q ↔ Q a := ⟨fun ⟨_, h, q⟩ => (by cases h; exact q), fun q => ⟨_, rfl, q⟩⟩
@[simp] theorem opt_none {α : Type} {Q : α → Prop} : opt none Q ↔ False := ⟨fun ⟨_, h, _⟩ => (by cases h), False.elim⟩
theorem sat_ite {α : Type} {c : Prop} [Decidable c] {x y : Option (α × Env)} {Q : α → Env → Prop} : sat (if c then x else y) Q ↔ if c then sat x Q else sat y Q := by split <;> exact Iff.rfl
theorem opt_ite {α : Type} {c : Prop} [Decidable c] {x y : Option α} {Q : α → Prop} : opt (if c then x else y) Q ↔ if c then opt x Q else opt y Q := by split <;> exact Iff.rfl
def isI (x : D) (Q : Int → Prop) (_ : Tg Q := ⟨⟩) : Prop := match x with
  | .int i => Q i
  | _ => False
def isB (x : D) (Q : Bool → Prop) (_ : Tg Q := ⟨⟩) : Prop := match x with
  | .bl b => Q b
  | _ => False
@[simp] theorem isI_int {i : Int} {Q : Int → Prop} : isI (.int i) Q ↔ Q i := Iff.rfl
@[simp] theorem isB_bl {b : Bool} {Q : Bool → Prop} : isB (.bl b) Q ↔ Q b := Iff.rfl
@[simp] theorem at_nil {i : Nat} : Env.at [] i = none := by unfold Env.at; simp
@[simp] theorem at_cons0 {o : Option D} {e : Env} : Env.at (o :: e) 0 = o := rfl
@[simp] theorem at_cons1 {o : Option D} {e : Env} {i : Nat} : Env.at (o :: e) (i + 1) = Env.at e i := rfl
@[simp] theorem un_int {i : Int} : (D.int i).un = true := by simp [D.un]
@[simp] theorem un_bl {b : Bool} : (D.bl b).un = true := by simp [D.un]
@[simp] theorem un_non : D.non.un = true := by simp [D.un]
@[simp] theorem un_str {x : Str} : (D.str x).un = true := by simp [D.un]
@[simp] theorem un_tup {x : List D} : (D.tup x).un = unL x := by simp [D.un]
@[simp] theorem un_own {x : List D} : (D.lst true x).un = false := by simp [D.un]
@[simp] theorem un_shr {x : List D} : (D.lst false x).un = unL x := by simp [D.un]
@[simp] theorem unL_nil : unL [] = true := by simp [unL]
@[simp] theorem unL_cons {d : D} {x : List D} : unL (d :: x) = (d.un && unL x) := by simp [unL]
@[simp] theorem unL_app' {x y : List D} : unL (x ++ y) = (unL x && unL y) := unL_app ..
@[simp] theorem unL_ints {ns : List Int} : unL (ns.map D.int) = true := by
  induction ns with
  | nil => rfl
  | cons a r ih => simp [ih]
@[simp] theorem ns_int {i : Int} : (D.int i).ns = true := by simp [D.ns]
@[simp] theorem ns_bl {b : Bool} : (D.bl b).ns = true := by simp [D.ns]
@[simp] theorem ns_non : D.non.ns = true := by simp [D.ns]
@[simp] theorem ns_str {x : Str} : (D.str x).ns = true := by simp [D.ns]
@[simp] theorem ns_tup {x : List D} : (D.tup x).ns = nsL x := by simp [D.ns]
@[simp] theorem ns_own {x : List D} : (D.lst true x).ns = nsL x := by simp [D.ns]
@[simp] theorem ns_shr {x : List D} : (D.lst false x).ns = false := by simp [D.ns]
@[simp] theorem nsL_nil : nsL [] = true := by simp [nsL]
@[simp] theorem nsL_cons {d : D} {x : List D} : nsL (d :: x) = (d.ns && nsL x) := by simp [nsL]
@[simp] theorem nsL_ints {ns : List Int} : nsL (ns.map D.int) = true := by
  induction ns with
  | nil => rfl
  | cons a r ih => simp [ih]
@[simp] theorem nsO_nil : nsO [] = true := by simp [nsO]
@[simp] theorem nsO_none {r : List (Option D)} : nsO (none :: r) = nsO r := by simp [nsO]
@[simp] theorem nsO_some {d : D} {r : List (Option D)} : nsO (some d :: r) = (d.ns && nsO r) := by simp [nsO]
@[simp] theorem shr_int {i : Int} : (D.int i).shr = .int i := rfl
@[simp] theorem shr_blD {b : Bool} : (D.bl b).shr = .bl b := rfl
@[simp] theorem shr_non : D.non.shr = .non := rfl
@[simp] theorem shr_str {x : Str} : (D.str x).shr = .str x := rfl
@[simp] theorem shr_tupD {x : List D} : (D.tup x).shr = .tup (shrL x) := rfl
@[simp] theorem shr_lst {o : Bool} {x : List D} : (D.lst o x).shr = .lst false (shrL x) := rfl
@[simp] theorem shrL_nil : shrL [] = [] := rfl
@[simp] theorem shrL_cons {d : D} {x : List D} : shrL (d :: x) = d.shr :: shrL x := rfl
@[simp] theorem shrL_ints {ns : List Int} : shrL (ns.map D.int) = ns.map D.int := by
  induction ns with
  | nil => rfl
  | cons a r ih => simp [ih]

variable {Φ : Fs} {e : Env} {Q : D → Env → Prop}
@[simp] theorem sat_v {i : Nat} : sat (evE Φ (.v i) e) Q ↔ opt (e.at i) fun d => if d.un = true then Q d e else Q d (e.set i none) := by
  rw [evE]
  cases e.at i with
  | none => simp
  | some d => simp only [sat_ite, sat_some, opt_some]
@[simp] theorem sat_w {i : Nat} : sat (evE Φ (.w i) e) Q ↔ opt (e.at i) fun d => Q d.shr (e.set i (some d.shr)) := by
  rw [evE]
  cases e.at i <;> simp
@[simp] theorem sat_non : sat (evE Φ .non e) Q ↔ Q .non e := by rw [evE]; simp
@[simp] theorem sat_bl {b : Bool} : sat (evE Φ (.bl b) e) Q ↔ Q (.bl b) e := by rw [evE]; simp
@[simp] theorem sat_int {i : Int} : sat (evE Φ (.int i) e) Q ↔ Q (.int i) e := by rw [evE]; simp
@[simp] theorem sat_str {x : Str} : sat (evE Φ (.str x) e) Q ↔ Q (.str x) e := by rw [evE]; simp
@[simp] theorem sat_frz {a : T} : sat (evE Φ (.frz a) e) Q ↔ sat (evE Φ a e) fun d e => Q d.shr e := by
  rw [evE]
  rcases evE Φ a e with _ | ⟨d, e⟩ <;> simp
@[simp] theorem sat_lend {a : T} : sat (evE Φ (.lend a) e) Q ↔ sat (evE Φ a (e.map fun o => o.map D.shr)) fun d _ => d.ns = true ∧ Q d e := by
  have h : evE Φ (.lend a) e = match evE Φ a (e.map fun o => o.map D.shr) with
    | some (d, _) => if d.ns then some (d, e) else none
    | none => none := by rw [evE] <;> rfl
  rw [h]
  generalize evE Φ a (e.map fun o => o.map D.shr) = o
  rcases o with _ | ⟨d, e1⟩
  · simp
  · simp only [sat_some]
    by_cases h : d.ns = true <;> simp [h]
@[simp] theorem sat_bin {o : Bop} {a b : T} : sat (evE Φ (.bin o a b) e) Q ↔ sat (evE Φ a e) fun x e => sat (evE Φ b e) fun y e => opt (binD o x y) fun d => Q d e := by
  rw [evE]
  rcases evE Φ a e with _ | ⟨x, e⟩
  · simp
  · simp only [sat_some]
    rcases evE Φ b e with _ | ⟨y, e⟩
    · simp
    · simp only [sat_some]
      cases binD o x y <;> simp
@[simp] theorem binD_add {i j : Int} : binD .add (.int i) (.int j) = some (.int (i + j)) := rfl
@[simp] theorem binD_sub {i j : Int} : binD .sub (.int i) (.int j) = some (.int (i - j)) := rfl
@[simp] theorem binD_mul {i j : Int} : binD .mul (.int i) (.int j) = if mulOk i j then some (.int (i * j)) else none := by
  show Option.map D.int (if mulOk i j then some (i * j) else none) = _
  split <;> rfl
@[simp] theorem binD_fdv {i j : Int} : binD .fdv (.int i) (.int j) = if j ≠ 0 ∧ j.natAbs.log2 < 9000 then some (.int (i.fdiv j)) else none := by
  show Option.map D.int (if j ≠ 0 ∧ j.natAbs.log2 < 9000 then some (i.fdiv j) else none) = _
  split <;> rfl
@[simp] theorem binD_mod {i j : Int} : binD .mod (.int i) (.int j) = if j = 0 then none else some (.int (i.fmod j)) := by
  show Option.map D.int (if j = 0 then none else some (i.fmod j)) = _
  split <;> rfl
@[simp] theorem binD_pow {i j : Int} : binD .pow (.int i) (.int j) = if 0 ≤ j ∧ j ≤ 1000000 ∧ i.natAbs < 2 ^ 64 then some (.int (i ^ j.toNat)) else none := by
  show Option.map D.int (if 0 ≤ j ∧ j ≤ 1000000 ∧ i.natAbs < 2 ^ 64 then some (i ^ j.toNat) else none) = _
  split <;> rfl
@[simp] theorem binD_cat {ox oy : Bool} {xs ys : List D} : binD .add (.lst ox xs) (.lst oy ys) = if ((ox || unL xs) && (oy || unL ys) && decide (xs.length + ys.length ≤ big)) = true then some (.lst true (xs ++ ys)) else none := rfl
@[simp] theorem sat_neg {a : T} : sat (evE Φ (.neg a) e) Q ↔ sat (evE Φ a e) fun x e => isI x fun i => Q (.int (-i)) e := by
  rw [evE]
  rcases evE Φ a e with _ | ⟨x, e⟩
  · simp
  · simp only [sat_some]
    cases x <;> simp [isI]
@[simp] theorem sat_cmp {o : Cop} {a b : T} : sat (evE Φ (.cmp o a b) e) Q ↔ sat (evE Φ a e) fun x e => isI x fun i => sat (evE Φ b e) fun y e => isI y fun j => Q (.bl (cmpI o i j)) e := by
  rw [evE]
  rcases evE Φ a e with _ | ⟨x, e⟩
  · simp
  · simp only [sat_some]
    cases x <;> simp only [isI, sat_none]
    rcases evE Φ b e with _ | ⟨y, e⟩
    · simp
    · simp only [sat_some]
      cases y <;> simp
@[simp] theorem cmp_lt {i j : Int} : cmpI .lt i j = decide (i < j) := rfl
@[simp] theorem cmp_le {i j : Int} : cmpI .le i j = decide (i ≤ j) := rfl
@[simp] theorem cmp_gt {i j : Int} : cmpI .gt i j = decide (j < i) := rfl
@[simp] theorem cmp_ge {i j : Int} : cmpI .ge i j = decide (j ≤ i) := rfl
/-- an operand: a pure one is only read -/
def rdE (Φ : Fs) (p : Bool) (a : T) (e : Env) : Option (D × Env) := if p = true then (evP a e).map fun d => (d, e) else evE Φ a e
@[simp] theorem rd_true {a : T} : sat (rdE Φ true a e) Q ↔ opt (evP a e) fun d => Q d e := by
  unfold rdE
  rw [if_pos rfl]
  cases evP a e <;> simp
@[simp] theorem rd_false {a : T} : sat (rdE Φ false a e) Q ↔ sat (evE Φ a e) Q := by
  unfold rdE
  rw [if_neg Bool.false_ne_true]
@[simp] theorem evP_v {i : Nat} : evP (.v i) e = e.at i := rfl
@[simp] theorem evP_non : evP .non e = some .non := rfl
@[simp] theorem evP_bl {b : Bool} : evP (.bl b) e = some (.bl b) := rfl
@[simp] theorem evP_int {i : Int} : evP (.int i) e = some (.int i) := rfl
@[simp] theorem evP_str {x : Str} : evP (.str x) e = some (.str x) := rfl
@[simp] theorem opt_bin {o : Bop} {a b : T} {Q : D → Prop} : opt (evP (.bin o a b) e) Q ↔ opt (evP a e) fun x => isI x fun i => opt (evP b e) fun y => isI y fun j => opt (binI o i j) fun r => Q (.int r) := by
  rw [evP]
  cases evP a e with
  | none => simp
  | some x =>
    cases evP b e with
    | none => cases x <;> simp [isI]
    | some y => cases x <;> cases y <;> simp only [isI, opt_some, opt_none] <;> (try exact Iff.rfl)
                rename_i i j
                cases binI o i j <;> simp
@[simp] theorem opt_neg {a : T} {Q : D → Prop} : opt (evP (.neg a) e) Q ↔ opt (evP a e) fun x => isI x fun i => Q (.int (-i)) := by
  rw [evP]
  cases evP a e with
  | none => simp
  | some x => cases x <;> simp [isI]
@[simp] theorem opt_ix {a b : T} {Q : D → Prop} : opt (evP (.ix a b) e) Q ↔ opt (evP a e) fun d => opt (evP b e) fun y => isI y fun k => opt (atD d k) Q := by
  rw [evP]
  cases evP a e with
  | none => simp
  | some x =>
    cases evP b e with
    | none => simp
    | some y => cases y <;> simp [isI]
@[simp] theorem opt_len {a : T} {Q : D → Prop} : opt (evP (.b1 .len a) e) Q ↔ opt (evP a e) fun d => opt (lenD d) Q := by
  rw [evP]
  cases evP a e <;> simp
@[simp] theorem binI_add {i j : Int} : binI .add i j = some (i + j) := rfl
@[simp] theorem binI_sub {i j : Int} : binI .sub i j = some (i - j) := rfl
@[simp] theorem binI_mul {i j : Int} : binI .mul i j = if mulOk i j then some (i * j) else none := rfl
@[simp] theorem binI_fdv {i j : Int} : binI .fdv i j = if j ≠ 0 ∧ j.natAbs.log2 < 9000 then some (i.fdiv j) else none := rfl
@[simp] theorem binI_mod {i j : Int} : binI .mod i j = if j = 0 then none else some (i.fmod j) := rfl
@[simp] theorem binI_pow {i j : Int} : binI .pow i j = if 0 ≤ j ∧ j ≤ 1000000 ∧ i.natAbs < 2 ^ 64 then some (i ^ j.toNat) else none := rfl
@[simp] theorem sat_eq {a b : T} : sat (evE Φ (.eq a b) e) Q ↔ sat (rdE Φ (isP a && isP b) a e) fun x e => sat (rdE Φ (isP b) b e) fun y e => (eqOk x = true ∧ eqOk y = true) ∧ Q (.bl (eqv x y)) e := by
  rw [evE]
  show sat (match rdE Φ (isP a && isP b) a e with | some (x, e) => _ | none => none) Q ↔ _
  rcases rdE Φ (isP a && isP b) a e with _ | ⟨x, e⟩
  · simp
  · simp only [sat_some]
    show sat (match rdE Φ (isP b) b e with | some (x, e) => _ | none => none) Q ↔ _
    rcases rdE Φ (isP b) b e with _ | ⟨y, e⟩
    · simp
    · simp only [sat_some, sat_ite, Bool.and_eq_true]
      split <;> simp_all
@[simp] theorem sat_ne {a b : T} : sat (evE Φ (.ne a b) e) Q ↔ sat (rdE Φ (isP a && isP b) a e) fun x e => sat (rdE Φ (isP b) b e) fun y e => (eqOk x = true ∧ eqOk y = true) ∧ Q (.bl (!eqv x y)) e := by
  rw [evE]
  show sat (match rdE Φ (isP a && isP b) a e with | some (x, e) => _ | none => none) Q ↔ _
  rcases rdE Φ (isP a && isP b) a e with _ | ⟨x, e⟩
  · simp
  · simp only [sat_some]
    show sat (match rdE Φ (isP b) b e with | some (x, e) => _ | none => none) Q ↔ _
    rcases rdE Φ (isP b) b e with _ | ⟨y, e⟩
    · simp
    · simp only [sat_some, sat_ite, Bool.and_eq_true]
      split <;> simp_all
def isNn : D → Bool
  | .non => true
  | _ => false
@[simp] theorem isNn_non : isNn .non = true := rfl
@[simp] theorem isNn_int {i : Int} : isNn (.int i) = false := rfl
@[simp] theorem isNn_bl {i : Bool} : isNn (.bl i) = false := rfl
@[simp] theorem isNn_tup {i : List D} : isNn (.tup i) = false := rfl
@[simp] theorem isNn_lst {o : Bool} {i : List D} : isNn (.lst o i) = false := rfl
@[simp] theorem isNn_str {i : Str} : isNn (.str i) = false := rfl
@[simp] theorem isNn_cel {o : Bool} {k : Kd} {i : List D} : isNn (.cel o k i) = false := rfl
@[simp] theorem sat_isN {a : T} : sat (evE Φ (.isN a) e) Q ↔ sat (rdE Φ (isP a) a e) fun x e => Q (.bl (isNn x)) e := by
  rw [evE]
  show sat (match rdE Φ (isP a) a e with | some (.non, e) => _ | some (_, e) => _ | none => none) Q ↔ _
  rcases rdE Φ (isP a) a e with _ | ⟨x, e⟩
  · simp
  · cases x <;> simp
@[simp] theorem sat_nisN {a : T} : sat (evE Φ (.nisN a) e) Q ↔ sat (rdE Φ (isP a) a e) fun x e => Q (.bl (!isNn x)) e := by
  rw [evE]
  show sat (match rdE Φ (isP a) a e with | some (.non, e) => _ | some (_, e) => _ | none => none) Q ↔ _
  rcases rdE Φ (isP a) a e with _ | ⟨x, e⟩
  · simp
  · cases x <;> simp
@[simp] theorem sat_chain {o o' : Cop} {a b c : T} : sat (evE Φ (.chain o o' a b c) e) Q ↔ sat (evE Φ a e) fun x e => isI x fun i => sat (evE Φ b e) fun y e => isI y fun j => if cmpI o i j = true then sat (evE Φ c e) fun z e => isI z fun k => Q (.bl (cmpI o' j k)) e else Q (.bl false) e := by
  rw [evE]
  rcases evE Φ a e with _ | ⟨x, e⟩
  · simp
  · simp only [sat_some]
    cases x <;> simp only [isI, sat_none]
    rcases evE Φ b e with _ | ⟨y, e⟩
    · simp
    · simp only [sat_some]
      cases y <;> simp only [sat_none]
      split
      · rcases evE Φ c e with _ | ⟨z, e⟩
        · simp
        · simp only [sat_some]
          cases z <;> simp
      · simp
@[simp] theorem sat_and {a b : T} : sat (evE Φ (.and a b) e) Q ↔ sat (evE Φ a e) fun x e => isB x fun c => if c = true then sat (evE Φ b e) fun y e => isB y fun c => Q (.bl c) e else Q (.bl false) e := by
  rw [evE]
  rcases evE Φ a e with _ | ⟨x, e⟩
  · simp
  · simp only [sat_some]
    cases x <;> simp only [isB, sat_none]
    rename_i c
    cases c
    · simp
    · simp only [if_true]
      rcases evE Φ b e with _ | ⟨y, e⟩
      · simp
      · simp only [sat_some]
        cases y <;> simp
@[simp] theorem sat_or {a b : T} : sat (evE Φ (.or a b) e) Q ↔ sat (evE Φ a e) fun x e => isB x fun c => if c = true then Q (.bl true) e else sat (evE Φ b e) fun y e => isB y fun c => Q (.bl c) e := by
  rw [evE]
  rcases evE Φ a e with _ | ⟨x, e⟩
  · simp
  · simp only [sat_some]
    cases x <;> simp only [isB, sat_none]
    rename_i c
    cases c
    · simp only [Bool.false_eq_true, if_false]
      rcases evE Φ b e with _ | ⟨y, e⟩
      · simp
      · simp only [sat_some]
        cases y <;> simp
    · simp
@[simp] theorem sat_not {a : T} : sat (evE Φ (.not a) e) Q ↔ sat (evE Φ a e) fun x e => isB x fun c => Q (.bl (!c)) e := by
  rw [evE]
  rcases evE Φ a e with _ | ⟨x, e⟩
  · simp
  · simp only [sat_some]
    cases x <;> simp [isB]
@[simp] theorem sat_ife {c a b : T} : sat (evE Φ (.ife c a b) e) Q ↔ sat (evE Φ c e) fun x e => isB x fun c => if c = true then sat (evE Φ a e) Q else sat (evE Φ b e) Q := by
  rw [evE]
  rcases evE Φ c e with _ | ⟨x, e⟩
  · simp
  · simp only [sat_some]
    cases x <;> simp only [isB, sat_none]
    simp only [sat_ite]
@[simp] theorem sat_nilL {Q : List D → Env → Prop} : sat (evL Φ .nil e) Q ↔ Q [] e := by rw [evL]; simp
@[simp] theorem sat_consL {a r : T} {Q : List D → Env → Prop} : sat (evL Φ (.cons a r) e) Q ↔ sat (evE Φ a e) fun x e => sat (evL Φ r e) fun xs e => Q (x :: xs) e := by
  rw [evL]
  rcases evE Φ a e with _ | ⟨x, e⟩
  · simp
  · simp only [sat_some]
    rcases evL Φ r e with _ | ⟨xs, e⟩ <;> simp
@[simp] theorem sat_tup {a : T} : sat (evE Φ (.tup a) e) Q ↔ sat (evL Φ a e) fun ds e => ds.length ≤ big ∧ Q (.tup ds) e := by
  rw [evE]
  rcases evL Φ a e with _ | ⟨ds, e⟩
  · simp
  · simp only [sat_some, sat_ite]
    by_cases h : ds.length ≤ big <;> simp [h]
@[simp] theorem sat_lst {a : T} : sat (evE Φ (.lst a) e) Q ↔ sat (evL Φ a e) fun ds e => ds.length ≤ big ∧ Q (.lst true ds) e := by
  rw [evE]
  rcases evL Φ a e with _ | ⟨ds, e⟩
  · simp
  · simp only [sat_some, sat_ite]
    by_cases h : ds.length ≤ big <;> simp [h]
theorem sat_ixP {a b : T} (p : (isP a && isP b) = true) : sat (evE Φ (.ix a b) e) Q ↔ opt (evP (.ix a b) e) fun d => d.un = true ∧ Q d e := by
  rw [evE, if_pos p]
  cases evP (.ix a b) e with
  | none => simp
  | some d =>
    simp only [opt_some]
    by_cases h : d.un = true <;> simp [h]
@[simp] theorem sat_ix {a b : T} : sat (evE Φ (.ix a b) e) Q ↔ if (isP a && isP b) = true then (opt (evP (.ix a b) e) fun d => d.un = true ∧ Q d e) else sat (evE Φ a e) fun x e => sat (evE Φ b e) fun y e => isI y fun k => opt (atD x k) fun d => Q d e := by
  by_cases p : (isP a && isP b) = true
  · rw [if_pos p]; exact sat_ixP p
  · rw [if_neg p, evE, if_neg p]
    rcases evE Φ a e with _ | ⟨x, e⟩
    · simp
    · simp only [sat_some]
      rcases evE Φ b e with _ | ⟨y, e⟩
      · simp
      · simp only [sat_some]
        cases y <;> simp only [isI, sat_none]
        rename_i k
        cases atD x k <;> simp
theorem evB_nil {Q : Option Int → Env → Prop} : sat (evB Φ .nil e) Q ↔ Q none e := by unfold evB; rw [if_pos (show isNil T.nil = true from rfl)]; simp
theorem evB_t {t : T} {Q : Option Int → Env → Prop} (h : isNil t = false) : sat (evB Φ t e) Q ↔ sat (evE Φ t e) fun x e => isI x fun i => Q (some i) e := by
  unfold evB
  rw [if_neg (by rw [h]; decide)]
  rcases evE Φ t e with _ | ⟨x, e⟩
  · simp
  · simp only [sat_some]
    cases x <;> simp [isI]
@[simp] theorem sat_sl {a lo hi : T} : sat (evE Φ (.sl a lo hi) e) Q ↔ if (isPo lo && isPo hi) = true then sat (rdE Φ (isP a) a e) fun x e => opt (evPo lo e) fun l => opt (evPo hi e) fun h => opt (slD x l h) fun d => Q d e else sat (evE Φ a e) fun x e => sat (evB Φ lo e) fun l e => sat (evB Φ hi e) fun h e => opt (slD x l h) fun d => Q d e := by
  rw [evE]
  by_cases p : (isPo lo && isPo hi) = true
  · rw [if_pos p, if_pos p]
    show sat (match rdE Φ (isP a) a e with | some (x, e) => _ | none => none) Q ↔ _
    rcases rdE Φ (isP a) a e with _ | ⟨x, e⟩
    · simp
    · simp only [sat_some]
      rcases evPo lo e with _ | l
      · simp
      · simp only [opt_some]
        rcases evPo hi e with _ | h
        · simp
        · simp only [opt_some]
          cases slD x l h <;> simp
  · rw [if_neg p, if_neg p]
    rcases evE Φ a e with _ | ⟨x, e⟩
    · simp
    · simp only [sat_some]
      show sat (match evB Φ lo e with | some (l, e) => _ | none => none) Q ↔ _
      rcases evB Φ lo e with _ | ⟨l, e⟩
      · simp
      · simp only [sat_some]
        show sat (match evB Φ hi e with | some (h, e) => _ | none => none) Q ↔ _
        rcases evB Φ hi e with _ | ⟨h, e⟩
        · simp
        · simp only [sat_some]
          cases slD x l h <;> simp
@[simp] theorem sat_b1 {k : B1} {a : T} : sat (evE Φ (.b1 k a) e) Q ↔ sat (rdE Φ (isP a) a e) fun x e => opt (b1D k x) fun d => Q d e := by
  rw [evE]
  show sat (match rdE Φ (isP a) a e with | some (x, e) => _ | none => none) Q ↔ _
  rcases rdE Φ (isP a) a e with _ | ⟨x, e⟩
  · simp
  · simp only [sat_some]
    cases b1D k x <;> simp
@[simp] theorem sat_bn {k : BN} {a : T} : sat (evE Φ (.bn k a) e) Q ↔ sat (evL Φ a e) fun xs e => opt (bnD k xs) fun d => Q d e := by
  rw [evE]
  rcases evL Φ a e with _ | ⟨xs, e⟩
  · simp
  · simp only [sat_some]
    cases bnD k xs <;> simp
def lL (d : D) (Q : List D → Prop) : Prop := match d with
  | .lst _ xs => Q xs
  | _ => False
@[simp] theorem lL_lst {o : Bool} {xs : List D} {Q : List D → Prop} : lL (.lst o xs) Q ↔ Q xs := Iff.rfl
@[simp] theorem sat_lrev {a : T} : sat (evE Φ (.lrev a) e) Q ↔ sat (evE Φ a e) fun x e => lL x fun xs => unL xs = true ∧ Q (.lst true xs.reverse) e := by
  rw [evE]
  rcases evE Φ a e with _ | ⟨x, e⟩
  · simp
  · simp only [sat_some]
    cases x <;> simp only [lL, sat_none]
    rename_i o xs
    by_cases h : unL xs = true
    · rw [if_pos h]; simp [h]
    · rw [if_neg h]; simp [h]
@[simp] theorem sat_lrg {a b : T} : sat (evE Φ (.lrg a b) e) Q ↔ sat (evE Φ a e) fun x e => isI x fun m => sat (evE Φ b e) fun y e => isI y fun n => n - m ≤ big ∧ Q (.lst true ((List.range (n - m).toNat).map fun k => .int (m + (k : Nat)))) e := by
  rw [evE]
  rcases evE Φ a e with _ | ⟨x, e⟩
  · simp
  · simp only [sat_some]
    cases x <;> simp only [isI, sat_none]
    rcases evE Φ b e with _ | ⟨y, e⟩
    · simp
    · simp only [sat_some]
      cases y <;> simp only [isI, sat_none]
      rename_i m n
      by_cases h : n - m ≤ big
      · rw [if_pos h]; simp [h]
      · rw [if_neg h]; simp [h]
@[simp] theorem isP_v {i : Nat} : isP (.v i) = true := rfl
@[simp] theorem isP_non : isP .non = true := rfl
@[simp] theorem isP_bl {i : Bool} : isP (.bl i) = true := rfl
@[simp] theorem isP_int {i : Int} : isP (.int i) = true := rfl
@[simp] theorem isP_str {i : Str} : isP (.str i) = true := rfl
@[simp] theorem isP_bin {o : Bop} {a b : T} : isP (.bin o a b) = (isP a && isP b) := rfl
@[simp] theorem isP_neg {a : T} : isP (.neg a) = isP a := rfl
@[simp] theorem isP_ix {a b : T} : isP (.ix a b) = (isP a && isP b) := rfl
@[simp] theorem isP_len {a : T} : isP (.b1 .len a) = isP a := rfl
@[simp] theorem isP_call {f : Nat} {a : T} : isP (.call f a) = false := rfl
@[simp] theorem isP_tup {a : T} : isP (.tup a) = false := rfl
@[simp] theorem isP_lst {a : T} : isP (.lst a) = false := rfl
@[simp] theorem isP_lc {a : List Nat} {i c l : T} : isP (.lc a i c l) = false := rfl
@[simp] theorem isP_sl {a b c : T} : isP (.sl a b c) = false := rfl
@[simp] theorem isP_bn {k : BN} {a : T} : isP (.bn k a) = false := rfl
@[simp] theorem isP_w {i : Nat} : isP (.w i) = false := rfl
@[simp] theorem isP_and {a b : T} : isP (.and a b) = false := rfl
@[simp] theorem isP_or {a b : T} : isP (.or a b) = false := rfl
@[simp] theorem isP_not {a : T} : isP (.not a) = false := rfl
@[simp] theorem isP_ife {a b c : T} : isP (.ife a b c) = false := rfl
@[simp] theorem isP_b1i {a : T} : isP (.b1 .int a) = false := rfl
@[simp] theorem isP_b1a {a : T} : isP (.b1 .abs a) = false := rfl
@[simp] theorem isP_b1l {a : T} : isP (.b1 .list a) = false := rfl
@[simp] theorem isP_b1t {a : T} : isP (.b1 .tuple a) = false := rfl
@[simp] theorem isP_lrev {a : T} : isP (.lrev a) = false := rfl
@[simp] theorem isP_lrg {a b : T} : isP (.lrg a b) = false := rfl
@[simp] theorem isP_b1s {a : T} : isP (.b1 .sum a) = false := rfl
@[simp] theorem isP_b1md {a : T} : isP (.b1 .minD a) = false := rfl
@[simp] theorem isP_b1Md {a : T} : isP (.b1 .maxD a) = false := rfl
@[simp] theorem isPo_nil : isPo .nil = true := rfl
@[simp] theorem isPo_v {i : Nat} : isPo (.v i) = true := rfl
@[simp] theorem isPo_int {i : Int} : isPo (.int i) = true := rfl
@[simp] theorem isPo_bin {o : Bop} {a b : T} : isPo (.bin o a b) = (isP a && isP b) := rfl
@[simp] theorem isPo_len {a : T} : isPo (.b1 .len a) = isP a := rfl
@[simp] theorem isPo_neg {a : T} : isPo (.neg a) = isP a := rfl
@[simp] theorem isPo_ix {a b : T} : isPo (.ix a b) = (isP a && isP b) := rfl
@[simp] theorem isPo_call {f : Nat} {a : T} : isPo (.call f a) = false := rfl
@[simp] theorem isPo_bn {f : BN} {a : T} : isPo (.bn f a) = false := rfl
@[simp] theorem evB_nil' {Q : Option Int → Env → Prop} : sat (evB Φ .nil e) Q ↔ Q none e := evB_nil
@[simp] theorem evB_call {f : Nat} {a : T} {Q : Option Int → Env → Prop} : sat (evB Φ (.call f a) e) Q ↔ sat (evE Φ (.call f a) e) fun x e => isI x fun i => Q (some i) e := evB_t rfl
@[simp] theorem evB_v {i : Nat} {Q : Option Int → Env → Prop} : sat (evB Φ (.v i) e) Q ↔ sat (evE Φ (.v i) e) fun x e => isI x fun i => Q (some i) e := evB_t rfl
@[simp] theorem evB_int {i : Int} {Q : Option Int → Env → Prop} : sat (evB Φ (.int i) e) Q ↔ sat (evE Φ (.int i) e) fun x e => isI x fun i => Q (some i) e := evB_t rfl
@[simp] theorem evB_bin {o : Bop} {a b : T} {Q : Option Int → Env → Prop} : sat (evB Φ (.bin o a b) e) Q ↔ sat (evE Φ (.bin o a b) e) fun x e => isI x fun i => Q (some i) e := evB_t rfl
@[simp] theorem evB_bn {o : BN} {a : T} {Q : Option Int → Env → Prop} : sat (evB Φ (.bn o a) e) Q ↔ sat (evE Φ (.bn o a) e) fun x e => isI x fun i => Q (some i) e := evB_t rfl
@[simp] theorem evPo_nil {Q : Option Int → Prop} : opt (evPo .nil e) Q ↔ Q none := by unfold evPo; simp
theorem opt_evPo {a : T} {Q : Option Int → Prop} (h : a ≠ .nil) : opt (evPo a e) Q ↔ opt (evP a e) fun x => isI x fun i => Q (some i) := by
  unfold evPo
  split
  · exact absurd rfl h
  · cases evP a e with
    | none => simp
    | some x => cases x <;> simp [isI]
@[simp] theorem evPo_v {i : Nat} {Q : Option Int → Prop} : opt (evPo (.v i) e) Q ↔ opt (e.at i) fun x => isI x fun i => Q (some i) := opt_evPo (by simp)
@[simp] theorem evPo_int {i : Int} {Q : Option Int → Prop} : opt (evPo (.int i) e) Q ↔ Q (some i) := by rw [opt_evPo (by simp)]; simp
@[simp] theorem evPo_bin {o : Bop} {a b : T} {Q : Option Int → Prop} : opt (evPo (.bin o a b) e) Q ↔ opt (evP (.bin o a b) e) fun x => isI x fun i => Q (some i) := opt_evPo (by simp)
@[simp] theorem evPo_len {a : T} {Q : Option Int → Prop} : opt (evPo (.b1 .len a) e) Q ↔ opt (evP (.b1 .len a) e) fun x => isI x fun i => Q (some i) := opt_evPo (by simp)
@[simp] theorem b1D_len {d : D} : b1D .len d = lenD d := by cases d <;> rfl
@[simp] theorem lenD_lst {o : Bool} {xs : List D} : lenD (.lst o xs) = some (.int xs.length) := rfl
@[simp] theorem lenD_tup {xs : List D} : lenD (.tup xs) = some (.int xs.length) := rfl
@[simp] theorem atD_lst {o : Bool} {xs : List D} {k : Int} : atD (.lst o xs) k = atI xs k := rfl
@[simp] theorem atD_tup {xs : List D} {k : Int} : atD (.tup xs) k = atI xs k := rfl
@[simp] theorem b1D_abs {i : Int} : b1D .abs (.int i) = some (.int (if i < 0 then -i else i)) := rfl
@[simp] theorem b1D_int {i : Int} : b1D .int (.int i) = some (.int i) := rfl
@[simp] theorem b1D_intb {b : Bool} : b1D .int (.bl b) = some (.int (if b then 1 else 0)) := rfl
@[simp] theorem b1D_list {o : Bool} {xs : List D} : b1D .list (.lst o xs) = if unL xs = true then some (.lst true xs) else none := rfl
@[simp] theorem b1D_listT {xs : List D} : b1D .list (.tup xs) = if unL xs = true then some (.lst true xs) else none := rfl
@[simp] theorem b1D_tuple {o : Bool} {xs : List D} : b1D .tuple (.lst o xs) = if unL xs = true then some (.tup xs) else none := rfl
@[simp] theorem b1D_sum {o : Bool} {xs : List D} : b1D .sum (.lst o xs) = (toInts xs).map fun l => .int l.sum := rfl
def tyI : D → Bool
  | .int _ => true
  | .bl _ => true
  | _ => false
@[simp] theorem b1D_minL {o : Bool} {xs : List D} : b1D .minL (.lst o xs) = extD minI xs := rfl
@[simp] theorem b1D_minD {o : Bool} {xs : List D} : b1D .minD (.lst o xs) = exdD minI xs := rfl
@[simp] theorem b1D_maxD {o : Bool} {xs : List D} : b1D .maxD (.lst o xs) = exdD maxI xs := rfl
@[simp] theorem b1D_maxL {o : Bool} {xs : List D} : b1D .maxL (.lst o xs) = extD maxI xs := rfl
@[simp] theorem b1D_sorted {o : Bool} {xs : List D} : b1D .sorted (.lst o xs) = srtD xs := rfl
@[simp] theorem b1D_isInt {d : D} : b1D .isInt d = some (.bl (tyI d)) := by cases d <;> rfl
@[simp] theorem tyI_int {i : Int} : tyI (.int i) = true := rfl
@[simp] theorem tyI_bl {i : Bool} : tyI (.bl i) = true := rfl
@[simp] theorem tyI_non : tyI .non = false := rfl
@[simp] theorem tyI_cel {o : Bool} {k : Kd} {i : List D} : tyI (.cel o k i) = false := rfl
@[simp] theorem tyI_tup {i : List D} : tyI (.tup i) = false := rfl
@[simp] theorem tyI_lst {o : Bool} {i : List D} : tyI (.lst o i) = false := rfl
@[simp] theorem tyI_str {i : Str} : tyI (.str i) = false := rfl
def tyB : D → Bool
  | .bl _ => true
  | _ => false
@[simp] theorem b1D_isBool {d : D} : b1D .isBool d = some (.bl (tyB d)) := by cases d <;> rfl
@[simp] theorem tyB_int {i : Int} : tyB (.int i) = false := rfl
@[simp] theorem tyB_bl {i : Bool} : tyB (.bl i) = true := rfl
@[simp] theorem tyB_non : tyB .non = false := rfl
@[simp] theorem tyB_cel {o : Bool} {k : Kd} {i : List D} : tyB (.cel o k i) = false := rfl
@[simp] theorem tyB_tup {i : List D} : tyB (.tup i) = false := rfl
@[simp] theorem tyB_lst {o : Bool} {i : List D} : tyB (.lst o i) = false := rfl
@[simp] theorem tyB_str {i : Str} : tyB (.str i) = false := rfl
def tyL : D → Bool
  | .lst _ _ => true
  | _ => false
@[simp] theorem b1D_isList {d : D} : b1D .isList d = some (.bl (tyL d)) := by cases d <;> rfl
@[simp] theorem tyL_int {i : Int} : tyL (.int i) = false := rfl
@[simp] theorem tyL_bl {i : Bool} : tyL (.bl i) = false := rfl
@[simp] theorem tyL_non : tyL .non = false := rfl
@[simp] theorem tyL_cel {o : Bool} {k : Kd} {i : List D} : tyL (.cel o k i) = false := rfl
@[simp] theorem tyL_tup {i : List D} : tyL (.tup i) = false := rfl
@[simp] theorem tyL_lst {o : Bool} {i : List D} : tyL (.lst o i) = true := rfl
def tyT : D → Bool
  | .tup _ => true
  | _ => false
@[simp] theorem b1D_isTuple {d : D} : b1D .isTuple d = some (.bl (tyT d)) := by cases d <;> rfl
@[simp] theorem tyT_int {i : Int} : tyT (.int i) = false := rfl
@[simp] theorem tyT_bl {i : Bool} : tyT (.bl i) = false := rfl
@[simp] theorem tyT_non : tyT .non = false := rfl
@[simp] theorem tyT_cel {o : Bool} {k : Kd} {i : List D} : tyT (.cel o k i) = false := rfl
@[simp] theorem tyT_tup {i : List D} : tyT (.tup i) = true := rfl
@[simp] theorem tyT_lst {o : Bool} {i : List D} : tyT (.lst o i) = false := rfl
@[simp] theorem bnD_min {i j : Int} : bnD .min2 [.int i, .int j] = some (.int (if j < i then j else i)) := rfl
@[simp] theorem bnD_max {i j : Int} : bnD .max2 [.int i, .int j] = some (.int (if j > i then j else i)) := rfl
@[simp] theorem bnD_max3 {i j k : Int} : bnD .max3 [.int i, .int j, .int k] = some (.int (if k > (if j > i then j else i) then k else (if j > i then j else i))) := rfl
@[simp] theorem eqOk_int {i : Int} : eqOk (.int i) = true := rfl
@[simp] theorem eqOk_bl {i : Bool} : eqOk (.bl i) = true := rfl
@[simp] theorem eqOk_non : eqOk .non = true := rfl
end Sr
set_option Elab.async false
set_option linter.all false
set_option maxRecDepth 100000
/-! # Sr: how statements are computed, by rules of rewriting -/
namespace Sr
open PySem PySem.Spec PyProof.Rows L2
variable {Φ : Fs} {e : Env} {Q : D → Env → Prop}
theorem ixN_nat {n j : Nat} (hj : j < n) : ixN n (j : Int) = some j := by
  unfold ixN
  rw [if_pos (by omega), if_pos (by omega)]
  simp

/-! ### calls -/
@[simp] theorem sat_nilG {Q : List Ag → Env → Prop} : sat (evG Φ .nil [] e) Q ↔ Q [] e := by rw [evG]; simp
@[simp] theorem sat_varG {i : Nat} {r : T} {b : Bool} {bs : List Bool} {Q : List Ag → Env → Prop} : sat (evG Φ (.cons (.v i) r) (b :: bs) e) Q ↔ opt (e.at i) fun _ => sat (evG Φ r bs e) fun as e => Q ((if b = true then .io i else .var i) :: as) e := by
  rw [evG]
  cases e.at i with
  | none => simp
  | some d =>
    simp only [opt_some]
    rcases evG Φ r bs e with _ | ⟨as, e⟩ <;> simp
def notV : T → Bool
  | .v _ => false
  | _ => true
@[simp] theorem sat_valG {a r : T} {bs : List Bool} {Q : List Ag → Env → Prop} (h : notV a = true) : sat (evG Φ (.cons a r) (false :: bs) e) Q ↔ sat (evE Φ a e) fun x e => sat (evG Φ r bs e) fun as e => Q (.val x :: as) e := by
  rw [evG]
  · simp only [Bool.false_eq_true, if_false]
    rcases evE Φ a e with _ | ⟨x, e⟩
    · simp
    · simp only [sat_some]
      rcases evG Φ r bs e with _ | ⟨as, e⟩ <;> simp
  · intro i hi
    subst hi
    cases h
@[simp] theorem sat_ownG {a r : T} {bs : List Bool} {Q : List Ag → Env → Prop} (h : notV a = true) : sat (evG Φ (.cons a r) (true :: bs) e) Q ↔ sat (evE Φ a e) fun x e => sat (evG Φ r bs e) fun as e => Q (.own x :: as) e := by
  rw [evG]
  · simp only [if_true]
    rcases evE Φ a e with _ | ⟨x, e⟩
    · simp
    · simp only [sat_some]
      rcases evG Φ r bs e with _ | ⟨as, e⟩ <;> simp
  · intro i hi
    subst hi
    cases h
@[simp] theorem notV_v {i : Nat} : notV (.v i) = false := rfl
/-- a call -/
@[simp] theorem sat_call {f : Nat} {a : T} : sat (evE Φ (.call f a) e) Q ↔ sat (evG Φ a (Φ.io f) e) fun as e => sat (callF Φ f as e) Q := by
  rw [evE]
  rcases evG Φ a (Φ.io f) e with _ | ⟨as, e⟩
  · simp
  · simp only [sat_some]; rfl
@[simp] theorem fnsN_io0 {P : Nat → Df} {n f : Nat} : (fnsN P n).io f = (P f).io := by cases n <;> rfl
@[simp] theorem sat_callF {f : Nat} {as : List Ag} : sat (callF Φ f as e) Q ↔ opt (agIo as e) fun e' => opt (agD e e' as) fun ds => runs (Φ.run f ds) fun r os => opt (agBack as os (if (r.ns && nsO os) = true then e' else agFz as e')) fun e => Q r e := by
  unfold callF
  cases agIo as e with
  | none => simp
  | some e' =>
    simp only [opt_some]
    cases agD e e' as with
    | none => simp
    | some ds =>
      simp only [opt_some]
      rcases Φ.run f ds with _ | ⟨r, os⟩
      · simp [runs]
      · unfold runs
        constructor
        · intro h
          refine ⟨r, os, rfl, ?_⟩
          simp only at h
          rcases hb : agBack as os (if (r.ns && nsO os) = true then e' else agFz as e') with _ | e2
          · rw [hb] at h; exact absurd h (by simp)
          · rw [hb] at h; rw [hb]; simpa using h
        · rintro ⟨r', os', h, q⟩
          cases h
          simp only
          rcases hb : agBack as os (if (r.ns && nsO os) = true then e' else agFz as e') with _ | e2
          · rw [hb] at q; exact absurd q (by simp)
          · rw [hb] at q; simpa using q
/-! ### statements -/
variable {R : Fl → Env → Prop}
def nxt (f : Fl) (e : Env) (q : Env → Prop) (R : Fl → Env → Prop) (_ : Tg q := ⟨⟩) (_ : Tg R := ⟨⟩) : Prop := match f with
  | .nx => q e
  | f => R f e
@[simp] theorem nxt_nx {q : Env → Prop} : nxt .nx e q R ↔ q e := Iff.rfl
@[simp] theorem nxt_rt {d : D} {q : Env → Prop} : nxt (.rt d) e q R ↔ R (.rt d) e := Iff.rfl
@[simp] theorem nxt_bk {q : Env → Prop} : nxt .bk e q R ↔ R .bk e := Iff.rfl
@[simp] theorem nxt_ct {q : Env → Prop} : nxt .ct e q R ↔ R .ct e := Iff.rfl
@[simp] theorem nxt_xc {c : Nat} {q : Env → Prop} : nxt (.xc c) e q R ↔ R (.xc c) e := Iff.rfl
@[simp] theorem sat_pass : sat (evS Φ .pass e) R ↔ R .nx e := by rw [evS]; simp
@[simp] theorem sat_seq {a b : T} : sat (evS Φ (.seq a b) e) R ↔ sat (evS Φ a e) fun f e => nxt f e (fun e => sat (evS Φ b e) R) R := by
  rw [evS]
  rcases evS Φ a e with _ | ⟨f, e⟩
  · simp
  · cases f <;> simp
@[simp] theorem sat_asg {i : Nat} {a : T} : sat (evS Φ (.asg i a) e) R ↔ sat (evE Φ a e) fun d e => R .nx (e.set i (some d)) := by
  rw [evS]
  rcases evE Φ a e with _ | ⟨d, e⟩ <;> simp
@[simp] theorem sat_upk {tg : List Nat} {a : T} : sat (evS Φ (.upk tg a) e) R ↔ sat (evE Φ a e) fun d e => opt (bindT tg d e) fun e => R .nx e := by
  rw [evS]
  rcases evE Φ a e with _ | ⟨d, e⟩
  · simp
  · simp only [sat_some]
    cases bindT tg d e <;> simp
@[simp] theorem sat_st {p i a : T} : sat (evS Φ (.st p i a) e) R ↔ sat (evE Φ a e) fun x e => (isPl p && isP i) = true ∧ opt (evP i e) fun y => isI y fun k => opt (setP p (putD k x) e) fun e => R .nx e := by
  rw [evS]
  rcases evE Φ a e with _ | ⟨x, e⟩
  · simp
  · simp only [sat_some, sat_ite]
    by_cases h : (isPl p && isP i) = true
    · rw [if_pos h]
      simp only [h, true_and]
      cases evP i e with
      | none => simp
      | some y =>
        cases y <;> simp only [opt_some, isI, sat_none]
        rename_i k
        cases setP p (putD k x) e <;> simp
    · simp [h]
def isLs : D → Bool
  | .lst _ _ => true
  | _ => false
@[simp] theorem isLs_lst {o : Bool} {xs : List D} : isLs (.lst o xs) = true := rfl
@[simp] theorem sat_app {i : Nat} {a : T} : sat (evS Φ (.app i a) e) R ↔ opt (e.at i) fun d => isLs d = true ∧ sat (evE Φ a e) fun x e => opt (setP (.v i) (appD x) e) fun e => R .nx e := by
  rw [evS]
  cases e.at i with
  | none => simp
  | some d =>
    cases d <;> simp only [opt_some, isLs, sat_none] <;> try simp
    rcases evE Φ a e with _ | ⟨x, e⟩
    · simp
    · simp only [sat_some]
      cases setP (.v i) (appD x) e <;> simp
@[simp] theorem sat_ex {a : T} : sat (evS Φ (.ex a) e) R ↔ sat (evE Φ a e) fun _ e => R .nx e := by
  rw [evS]
  rcases evE Φ a e with _ | ⟨d, e⟩ <;> simp
@[simp] theorem sat_cond {c a b : T} : sat (evS Φ (.cond c a b) e) R ↔ sat (evE Φ c e) fun x e => isB x fun c => if c = true then sat (evS Φ a e) R else sat (evS Φ b e) R := by
  rw [evS]
  rcases evE Φ c e with _ | ⟨x, e⟩
  · simp
  · simp only [sat_some]
    cases x <;> simp only [isB, sat_none]
    simp only [sat_ite]
@[simp] theorem sat_ret {a : T} : sat (evS Φ (.ret a) e) R ↔ sat (evE Φ a e) fun d e => R (.rt d) e := by
  rw [evS]
  rcases evE Φ a e with _ | ⟨d, e⟩ <;> simp
@[simp] theorem sat_brk : sat (evS Φ .brk e) R ↔ R .bk e := by rw [evS]; simp
@[simp] theorem sat_cnt : sat (evS Φ .cnt e) R ↔ R .ct e := by rw [evS]; simp
theorem sat_mono {α : Type} {o : Option (α × Env)} {Q Q' : α → Env → Prop} (h : sat o Q) (i : ∀ a e, Q a e → Q' a e) : sat o Q' := by
  obtain ⟨a, e, h, q⟩ := h
  exact ⟨a, e, h, i a e q⟩
theorem sat_loopF {ks : List Nat} {f : D → Env → Option (Fl × Env)} {xs : List D} (I : Nat → Env → Prop) (h0 : I 0 e)
    (hs : ∀ i x e, xs[i]? = some x → I i e → sat (f x e) fun f e => match f with
      | .nx => I (i + 1) (kill ks e)
      | .ct => I (i + 1) (kill ks e)
      | .bk => R .nx (kill ks e)
      | .rt d => R (.rt d) e
      | .xc c => R (.xc c) e)
    (hd : ∀ e, I xs.length e → R .nx (kill ks e)) : sat (loopF ks f xs e) R := by
  induction xs generalizing e I with
  | nil => rw [loopF]; simp; exact hd e h0
  | cons x xs ih =>
    rw [loopF]
    obtain ⟨g, e1, hf, z⟩ := hs 0 x e rfl h0
    rw [hf]
    cases g with
    | nx => exact ih (fun i e => I (i + 1) e) z (fun i y e hy => hs (i + 1) y e (by simpa using hy)) (fun e h => hd e (by simpa using h))
    | ct => exact ih (fun i e => I (i + 1) e) z (fun i y e hy => hs (i + 1) y e (by simpa using hy)) (fun e h => hd e (by simpa using h))
    | bk => simpa using z
    | rt d => simpa using z
    | xc d => simpa using z
/-- one turn of a for -/
noncomputable def forF (Φ : Fs) (tg : List Nat) (b : T) : D → Env → Option (Fl × Env) := fun x e => match bindT tg x e with
  | some e => evS Φ b e
  | none => none
@[simp] theorem sat_for {tg ks : List Nat} {it b : T} : sat (evS Φ (.for_ tg ks it b) e) R ↔ sat (evI Φ it e) fun xs e => sat (loopF ks (forF Φ tg b) xs e) R := by
  have h : evS Φ (.for_ tg ks it b) e = match evI Φ it e with
    | some (xs, e) => loopF ks (forF Φ tg b) xs e
    | none => none := by rw [evS]; rfl
  rw [h]
  rcases evI Φ it e with _ | ⟨xs, e⟩
  · simp
  · simp only [sat_some]
def lO (d : D) (Q : List D → Prop) : Prop := match d with
  | .lst true xs => Q xs
  | _ => False
@[simp] theorem lO_own {xs : List D} {Q : List D → Prop} : lO (.lst true xs) Q ↔ Q xs := Iff.rfl
/-- a for by an invariant -/
theorem sat_forI {tg ks : List Nat} {b : T} {xs : List D} (I : Nat → Env → Prop) (h0 : I 0 e)
    (hs : ∀ i x e, xs[i]? = some x → I i e → opt (bindT tg x e) fun e => sat (evS Φ b e) fun f e => match f with
      | .nx => I (i + 1) (kill ks e)
      | .ct => I (i + 1) (kill ks e)
      | .bk => R .nx (kill ks e)
      | .rt d => R (.rt d) e
      | .xc c => R (.xc c) e)
    (hd : ∀ e, I xs.length e → R .nx (kill ks e)) : sat (loopF ks (forF Φ tg b) xs e) R :=
  sat_loopF I h0 (fun i x e hx hI => by
    obtain ⟨e1, he, z⟩ := hs i x e hx hI
    unfold forF
    simp only [he]; exact z) hd
/-! ### iterators -/
variable {L : List D → Env → Prop}
@[simp] theorem sat_rng1 {a : T} : sat (evI Φ (.rng1 a) e) L ↔ sat (evE Φ a e) fun x e => isI x fun n => (n ≤ big ∧ -(2 ^ 62) ≤ n) ∧ L ((List.range n.toNat).map fun k => .int (k : Nat)) e := by
  rw [evI]
  rcases evE Φ a e with _ | ⟨x, e⟩
  · simp
  · simp only [sat_some]
    cases x <;> simp only [isI, sat_none]
    rename_i n
    simp only [sat_ite]
    split <;> rename_i h
    · simp only [h, sat_some]; simp
    · simp only [h, sat_none, false_and]
@[simp] theorem sat_rng2 {a b : T} : sat (evI Φ (.rng2 a b) e) L ↔ sat (evE Φ a e) fun x e => isI x fun m => sat (evE Φ b e) fun y e => isI y fun n => (-(2 ^ 62) ≤ m ∧ m < 2 ^ 62 ∧ -(2 ^ 62) ≤ n ∧ n < 2 ^ 62 ∧ n - m ≤ big) ∧ L ((List.range (n - m).toNat).map fun k => .int (m + (k : Nat))) e := by
  rw [evI]
  rcases evE Φ a e with _ | ⟨x, e⟩
  · simp
  · simp only [sat_some]
    cases x <;> simp only [isI, sat_none]
    rcases evE Φ b e with _ | ⟨y, e⟩
    · simp
    · simp only [sat_some]
      cases y <;> simp only [sat_none]
      simp only [sat_ite]
      split <;> rename_i h
      · simp only [h, sat_some]; simp
      · simp only [h, sat_none, false_and]
@[simp] theorem sat_rng3 {a b : T} {c : Int} : sat (evI Φ (.rng3 a b c) e) L ↔ sat (evE Φ a e) fun x e => isI x fun m => sat (evE Φ b e) fun y e => isI y fun n => (-(2 ^ 61) ≤ m ∧ m < 2 ^ 61 ∧ -(2 ^ 61) ≤ n ∧ n < 2 ^ 61 ∧ 0 < c ∧ c < 1000000000 ∧ n - m ≤ big) ∧ L ((List.range (rngN m n c)).map fun k => .int (m + (k : Nat) * c)) e := by
  rw [evI]
  rcases evE Φ a e with _ | ⟨x, e⟩
  · simp
  · simp only [sat_some]
    cases x <;> simp only [isI, sat_none]
    rcases evE Φ b e with _ | ⟨y, e⟩
    · simp
    · simp only [sat_some]
      cases y <;> simp only [sat_none]
      simp only [sat_ite]
      split <;> rename_i h
      · simp only [h, sat_some]; simp
      · simp only [h, sat_none, false_and]
@[simp] theorem sat_itr {a : T} : sat (evI Φ (.itr a) e) L ↔ sat (evE Φ a e) fun d e => opt (items d) fun xs => L (shrL xs) e := by
  rw [evI]
  rcases evE Φ a e with _ | ⟨d, e⟩
  · simp
  · simp only [sat_some]
    cases items d <;> simp
@[simp] theorem items_lst {o : Bool} {xs : List D} : items (.lst o xs) = some xs := rfl
@[simp] theorem items_tup {xs : List D} : items (.tup xs) = some xs := rfl
def isL (x : D) (Q : List D → Prop) (_ : Tg Q := ⟨⟩) : Prop := match x with
  | .lst _ xs => Q xs
  | _ => False
@[simp] theorem isL_lst {o : Bool} {xs : List D} {Q : List D → Prop} : isL (.lst o xs) Q ↔ Q xs := Iff.rfl
@[simp] theorem sat_zip {a b : T} : sat (evI Φ (.zip a b) e) L ↔ sat (evE Φ a e) fun x e => isL x fun xs => sat (evE Φ b e) fun y e => isL y fun ys => L (zipD (shrL xs) (shrL ys)) e := by
  rw [evI]
  rcases evE Φ a e with _ | ⟨x, e⟩
  · simp
  · simp only [sat_some]
    cases x <;> simp only [isL, sat_none]
    rcases evE Φ b e with _ | ⟨y, e⟩
    · simp
    · simp only [sat_some]
      cases y <;> simp
/-! ### comprehensions -/
def lcF (Φ : Fs) (tg : List Nat) (c el : T) : D → Env → Option (Option D × Env) := fun x e => match bindT tg x e with
        | some e => match evE Φ c e with
          | some (.bl true, e) => match evE Φ el e with
            | some (d, e) => some (some d, kill tg e)
            | none => none
          | some (.bl false, e) => some (none, kill tg e)
          | _ => none
        | none => none
theorem sat_lc {tg : List Nat} {it c el : T} : sat (evE Φ (.lc tg it c el) e) Q ↔ sat (evI Φ it e) fun xs e => sat (loopC (lcF Φ tg c el) xs (kill tg e) []) fun ds e => Q (.lst true ds) e := by
  rw [evE]
  rcases evI Φ it e with _ | ⟨xs, e⟩
  · simp
  · simp only [sat_some]
    show sat (match loopC (lcF Φ tg c el) xs (kill tg e) [] with | some (ds, e) => _ | none => none) Q ↔ _
    rcases loopC (lcF Φ tg c el) xs (kill tg e) [] with _ | ⟨ds, e⟩ <;> simp
theorem sat_lcF {tg : List Nat} {c el : T} {x : D} {Q : Option D → Env → Prop} : sat (lcF Φ tg c el x e) Q ↔ opt (bindT tg x e) fun e => sat (evE Φ c e) fun y e => isB y fun b => if b = true then sat (evE Φ el e) fun d e => Q (some d) (kill tg e) else Q none (kill tg e) := by
  unfold lcF
  cases bindT tg x e with
  | none => simp
  | some e =>
    simp only [opt_some]
    rcases evE Φ c e with _ | ⟨y, e⟩
    · simp
    · simp only [sat_some]
      cases y <;> simp only [isB, sat_none]
      rename_i b
      cases b
      · simp
      · simp only [if_true]
        rcases evE Φ el e with _ | ⟨d, e⟩ <;> simp
theorem loopC_mapE {f : D → Env → Option (Option D × Env)} {g : D → D} {xs : List D} {acc : List D} (h : ∀ x ∈ xs, f x e = some (some (g x), e)) : loopC f xs e acc = some (acc ++ xs.map g, e) := by
  induction xs generalizing acc with
  | nil => simp [loopC]
  | cons x xs ih =>
    rw [loopC, h x List.mem_cons_self]
    simp only
    rw [ih fun y hy => h y (List.mem_cons_of_mem _ hy)]
    simp
/-! ### targets, kills -/
@[simp] theorem bind1 {i : Nat} {d : D} : bindT [i] d e = some (e.set i (some d)) := by cases d <;> rfl
@[simp] theorem bind2 {i j : Nat} {x y : D} : bindT [i, j] (.tup [x, y]) e = some ((e.set i (some x)).set j (some y)) := rfl
@[simp] theorem bind3 {i j k : Nat} {x y z : D} : bindT [i, j, k] (.tup [x, y, z]) e = some (((e.set i (some x)).set j (some y)).set k (some z)) := rfl
@[simp] theorem kill_nil : kill [] e = e := rfl
@[simp] theorem kill_cons {i : Nat} {r : List Nat} : kill (i :: r) e = kill r (e.set i none) := rfl
/-! ### defs -/
theorem run_of {d : Df} {ds : List D} {r : D} {os : List (Option D)} (hl : ds.length = d.io.length) (h : sat (evS Φ d.body (ds.map some ++ List.replicate (d.names - ds.length) none)) fun f e => (match f with
      | .rt x => x = r
      | .nx => D.non = r
      | _ => False) ∧ outs d.io e = os) : runDf Φ d ds = some (r, os) := by
  obtain ⟨f, e, he, h1, h2⟩ := h
  unfold runDf
  rw [if_pos hl, he]
  cases f with
  | rt x => simp only at h1 ⊢; rw [h1, h2]
  | nx => simp only at h1 ⊢; rw [h1, h2]
  | bk => exact h1.elim
  | ct => exact h1.elim
  | xc c => exact h1.elim
@[simp] theorem outs_nil : outs [] e = [] := rfl
@[simp] theorem outs_f {io : List Bool} {o : Option D} : outs (false :: io) (o :: e) = none :: outs io e := rfl
@[simp] theorem outs_t {io : List Bool} {o : Option D} : outs (true :: io) (o :: e) = o :: outs io e := by cases o <;> rfl
@[simp] theorem fns_run {P : Nat → Df} {n f : Nat} {ds : List D} : (fnsN P (n + 1)).run f ds = runDf (fnsN P n) (P f) ds := rfl
@[simp] theorem fl_rt {d : D} {p : Prop} : True := trivial
/-! ### stores -/
@[simp] theorem isPl_v {i : Nat} : isPl (.v i) = true := rfl
@[simp] theorem isPl_ix {a b : T} : isPl (.ix a b) = (isPl a && isP b) := rfl
@[simp] theorem setP_v {i : Nat} {f : D → Option D} {Q : Env → Prop} : opt (setP (.v i) f e) Q ↔ opt (e.at i) fun d => opt (f d) fun d => Q (e.set i (some d)) := by
  rw [setP]
  cases e.at i with
  | none => simp
  | some d =>
    simp only [opt_some]
    cases f d <;> simp
@[simp] theorem setP_ix {a b : T} {f : D → Option D} {Q : Env → Prop} : opt (setP (.ix a b) f e) Q ↔ opt (evP b e) fun y => isI y fun k => opt (setP a (setAt k f) e) Q := by
  rw [setP]
  cases evP b e with
  | none => simp
  | some y => cases y <;> simp [isI]
@[simp] theorem appD_own {x : D} {xs : List D} : appD x (.lst true xs) = if xs.length < big then some (.lst true (xs ++ [x])) else none := rfl
/-! ### int lists -/
def cell (ns : List Int) (k : Int) : Int := ns.getD k.toNat 0
theorem atI_map (ns : List Int) {k : Int} (h0 : 0 ≤ k) (h : k < ns.length) : atI (ns.map D.int) k = some (.int (cell ns k)) := by
  have hk : k.toNat < ns.length := by omega
  have e : k = ((k.toNat : Nat) : Int) := by omega
  have : atI (ns.map D.int) ((k.toNat : Nat) : Int) = some (.int (cell ns k)) := by
    unfold atI
    rw [ixN_nat (by simpa using hk)]
    simp [cell, List.getD, List.getElem?_eq_getElem hk]
  rw [← e] at this
  exact this
theorem eqv_int {i j : Int} : eqv (.int i) (.int j) = decide (i = j) := by
  show PyData.eqv (.int i) (.int j) = _
  rw [PyData.eqv]
  rfl
@[simp] theorem opt_if {α : Type} {c : Prop} [Decidable c] {a : α} {Q : α → Prop} : opt (if c then some a else none) Q ↔ c ∧ Q a := by
  by_cases h : c <;> simp [h]
@[simp] theorem opt_if' {α : Type} {c : Prop} [Decidable c] {a : α} {Q : α → Prop} : opt (if c then none else some a) Q ↔ ¬ c ∧ Q a := by
  by_cases h : c <;> simp [h]
@[simp] theorem log2_ok {n : Nat} (h : n < 2 ^ 64) : (n.log2 < 9000) = True := by
  simp only [eq_iff_iff, iff_true]
  by_cases h0 : n = 0
  · subst h0; decide
  · have := (Nat.log2_lt h0).mpr h; omega
theorem mulOk_l {a b : Int} (h : a.natAbs < 2 ^ 64) : mulOk a b := IntMulOk.of_left (intBits_le_iff.mpr h)
theorem mulOk_r {a b : Int} (h : b.natAbs < 2 ^ 64) : mulOk a b := IntMulOk.of_right (intBits_le_iff.mpr h)
section
variable {a b b' : T} {n : Nat} {i : Int} {x : Str} {o : Bop} {c c' : Cop} {k : B1} {k' : BN} {l : List Nat}
@[simp] theorem notV_0 : notV (.non) = true := by simp [notV]
@[simp] theorem notV_1 {b : Bool} : notV (.bl b) = true := by simp [notV]
@[simp] theorem notV_2 : notV (.int i) = true := by simp [notV]
@[simp] theorem notV_3 : notV (.str x) = true := by simp [notV]
@[simp] theorem notV_4 : notV (.w n) = true := by simp [notV]
@[simp] theorem notV_5 : notV (.frz a) = true := by simp [notV]
@[simp] theorem notV_5' : notV (.lend a) = true := by simp [notV]
@[simp] theorem notV_6 : notV (.bin o a b) = true := by simp [notV]
@[simp] theorem notV_7 : notV (.neg a) = true := by simp [notV]
@[simp] theorem notV_8 : notV (.cmp c a b) = true := by simp [notV]
@[simp] theorem notV_9 : notV (.eq a b) = true := by simp [notV]
@[simp] theorem notV_10 : notV (.ne a b) = true := by simp [notV]
@[simp] theorem notV_11 : notV (.isN a) = true := by simp [notV]
@[simp] theorem notV_12 : notV (.nisN a) = true := by simp [notV]
@[simp] theorem notV_13 : notV (.chain c c' a b b') = true := by simp [notV]
@[simp] theorem notV_14 : notV (.and a b) = true := by simp [notV]
@[simp] theorem notV_15 : notV (.or a b) = true := by simp [notV]
@[simp] theorem notV_16 : notV (.not a) = true := by simp [notV]
@[simp] theorem notV_17 : notV (.ife a b b') = true := by simp [notV]
@[simp] theorem notV_18 : notV (.tup a) = true := by simp [notV]
@[simp] theorem notV_19 : notV (.lst a) = true := by simp [notV]
@[simp] theorem notV_20 : notV (.ix a b) = true := by simp [notV]
@[simp] theorem notV_21 : notV (.sl a b b') = true := by simp [notV]
@[simp] theorem notV_22 : notV (.call n a) = true := by simp [notV]
@[simp] theorem notV_lrev : notV (.lrev a) = true := by simp [notV]
@[simp] theorem notV_lrg : notV (.lrg a b) = true := by simp [notV]
@[simp] theorem notV_23 : notV (.b1 k a) = true := by simp [notV]
@[simp] theorem notV_24 : notV (.bn k' a) = true := by simp [notV]
@[simp] theorem notV_25 : notV (.lc l a b b') = true := by simp [notV]
end
@[simp] theorem agIo_nil {Q : Env → Prop} : opt (agIo [] e) Q ↔ Q e := by rw [agIo]; simp
@[simp] theorem agIo_val {d : D} {r : List Ag} {Q : Env → Prop} : opt (agIo (.val d :: r) e) Q ↔ opt (agIo r e) Q := by rw [agIo]; intro i h; cases h
@[simp] theorem agIo_own {d : D} {r : List Ag} {Q : Env → Prop} : opt (agIo (.own d :: r) e) Q ↔ opt (agIo r e) Q := by rw [agIo]; intro i h; cases h
@[simp] theorem agIo_var {d : Nat} {r : List Ag} {Q : Env → Prop} : opt (agIo (.var d :: r) e) Q ↔ opt (agIo r e) Q := by rw [agIo]; intro i h; cases h
@[simp] theorem agIo_io {i : Nat} {r : List Ag} {Q : Env → Prop} : opt (agIo (.io i :: r) e) Q ↔ opt (e.at i) fun _ => opt (agIo r (e.set i none)) Q := by
  rw [agIo]
  cases e.at i <;> simp
variable {e' : Env}
@[simp] theorem agD_nil {Q : List D → Prop} : opt (agD e e' []) Q ↔ Q [] := by rw [agD]; simp
@[simp] theorem agD_val {d : D} {r : List Ag} {Q : List D → Prop} : opt (agD e e' (.val d :: r)) Q ↔ opt (agD e e' r) fun l => Q (d.shr :: l) := by
  rw [agD]
  cases agD e e' r <;> simp
@[simp] theorem agD_own {d : D} {r : List Ag} {Q : List D → Prop} : opt (agD e e' (.own d :: r)) Q ↔ opt (agD e e' r) fun l => Q (d :: l) := by
  rw [agD]
  cases agD e e' r <;> simp
@[simp] theorem agD_var {i : Nat} {r : List Ag} {Q : List D → Prop} : opt (agD e e' (.var i :: r)) Q ↔ opt (e'.at i) fun d => opt (agD e e' r) fun l => Q (d.shr :: l) := by
  rw [agD]
  cases e'.at i with
  | none => simp
  | some d => cases agD e e' r <;> simp
@[simp] theorem agD_io {i : Nat} {r : List Ag} {Q : List D → Prop} : opt (agD e e' (.io i :: r)) Q ↔ opt (e.at i) fun d => opt (agD (e.set i none) e' r) fun l => Q (d :: l) := by
  rw [agD]
  cases e.at i with
  | none => simp
  | some d => cases agD (e.set i none) e' r <;> simp
@[simp] theorem agBack_nil {Q : Env → Prop} : opt (agBack [] [] e) Q ↔ Q e := by rw [agBack]; simp
@[simp] theorem agBack_val {d : D} {r : List Ag} {o : Option D} {os : List (Option D)} {Q : Env → Prop} : opt (agBack (.val d :: r) (o :: os) e) Q ↔ opt (agBack r os e) Q := by rw [agBack]; intro i h; cases h
@[simp] theorem agBack_own {d : D} {r : List Ag} {o : Option D} {os : List (Option D)} {Q : Env → Prop} : opt (agBack (.own d :: r) (o :: os) e) Q ↔ opt (agBack r os e) Q := by rw [agBack]; intro i h; cases h
@[simp] theorem agBack_var {d : Nat} {r : List Ag} {o : Option D} {os : List (Option D)} {Q : Env → Prop} : opt (agBack (.var d :: r) (o :: os) e) Q ↔ opt (agBack r os e) Q := by rw [agBack]; intro i h; cases h
@[simp] theorem agBack_io {i : Nat} {r : List Ag} {o : Option D} {os : List (Option D)} {Q : Env → Prop} : opt (agBack (.io i :: r) (o :: os) e) Q ↔ opt (agBack r os (e.set i o)) Q := by rw [agBack]
@[simp] theorem agFz_nil : agFz [] e = e := rfl
@[simp] theorem agFz_val {d : D} {r : List Ag} : agFz (.val d :: r) e = agFz r e := rfl
@[simp] theorem agFz_own {d : D} {r : List Ag} : agFz (.own d :: r) e = agFz r e := rfl
@[simp] theorem agFz_io {d : Nat} {r : List Ag} : agFz (.io d :: r) e = agFz r e := rfl
theorem agFz_var {i : Nat} {r : List Ag} {d : D} (h : e.at i = some d) : agFz (.var i :: r) e = agFz r (e.set i (some d.shr)) := by
  rw [agFz, h]
end Sr
namespace Sr
open PySem PySem.Spec PyProof.Rows L2
theorem atI_lit {α : Type} {xs : List α} {j : Nat} {x : α} (h : xs[j]? = some x) : atI xs (j : Int) = some x := by
  obtain ⟨hj, _⟩ := List.getElem?_eq_some_iff.mp h
  unfold atI
  rw [ixN_nat hj]; exact h
@[simp] theorem atI_0 {α : Type} {x : α} {xs : List α} : atI (x :: xs) 0 = some x := atI_lit (j := 0) rfl
@[simp] theorem atI_1 {α : Type} {x y : α} {xs : List α} : atI (x :: y :: xs) 1 = some y := atI_lit (j := 1) rfl
@[simp] theorem atI_2 {α : Type} {x y z : α} {xs : List α} : atI (x :: y :: z :: xs) 2 = some z := atI_lit (j := 2) rfl
@[simp] theorem atI_3 {α : Type} {x y z u : α} {xs : List α} : atI (x :: y :: z :: u :: xs) 3 = some u := atI_lit (j := 3) rfl
@[simp] theorem atI_4 {α : Type} {x y z u v : α} {xs : List α} : atI (x :: y :: z :: u :: v :: xs) 4 = some v := atI_lit (j := 4) rfl
@[simp] theorem atI_5 {α : Type} {x y z u v w : α} {xs : List α} : atI (x :: y :: z :: u :: v :: w :: xs) 5 = some w := atI_lit (j := 5) rfl
/-! ### what is let out -/
@[simp] theorem sat_rs {Φ : Fs} {e : Env} {R : Fl → Env → Prop} {c : Nat} : sat (evS Φ (.rs c) e) R ↔ R (.xc c) e := by rw [evS]; simp
theorem sat_exX {Φ : Fs} {e : Env} {R : Fl → Env → Prop} {a : T} (h : sat (evE Φ a e) fun _ e => R .nx e) : sat (evS Φ (.exX a) e) R := by
  obtain ⟨d, e', h, q⟩ := h
  exact ⟨.nx, e', by rw [evS, h], q⟩
theorem sat_asgX {Φ : Fs} {e : Env} {R : Fl → Env → Prop} {i : Nat} {a : T} (h : sat (evE Φ a e) fun d e => R .nx (e.set i (some d))) : sat (evS Φ (.asgX i a) e) R := by
  obtain ⟨d, e', h, q⟩ := h
  exact ⟨.nx, _, by rw [evS, h], q⟩
theorem exE_call {Φ : Fs} {e : Env} {f c : Nat} {a : T} {R : Env → Prop} (h : sat (evG Φ a (Φ.io f) e) fun as e' => opt (agD e' e' as) fun ds => Φ.run f ds = none ∧ Φ.exc f ds = some c ∧ R (agFz as e')) (hio : (Φ.io f).all (!·) = true) : evE Φ (.call f a) e = none ∧ ∃ e', exE Φ (.call f a) e = some (c, e') ∧ R e' := by
  obtain ⟨as, e1, h1, ds, h2, h3, h4, h5⟩ := h
  have ni := evG_noio h1 hio
  refine ⟨?_, agFz as e1, ?_, h5⟩
  · rw [evE, h1]
    simp only [agIo_none ni, h2, h3]
  · rw [exE, if_pos hio, h1]
    simp only [h2, h4]
theorem sat_exX_no {Φ : Fs} {e : Env} {R : Fl → Env → Prop} {f c : Nat} {a : T} (h : sat (evG Φ a (Φ.io f) e) fun as e' => opt (agD e' e' as) fun ds => Φ.run f ds = none ∧ Φ.exc f ds = some c ∧ R (.xc c) (agFz as e')) (hio : (Φ.io f).all (!·) = true) : sat (evS Φ (.exX (.call f a)) e) R := by
  obtain ⟨h1, e', h2, q⟩ := exE_call (R := R (.xc c)) h hio
  exact ⟨.xc c, e', by rw [evS, h1]; simp only [h2], q⟩
theorem sat_asgX_no2 {Φ : Fs} {e : Env} {R : Fl → Env → Prop} {i f c : Nat} {s : Str} {a : T} (h : sat (evG Φ a (Φ.io f) e) fun as e' => opt (agD e' e' as) fun ds => Φ.run f ds = none ∧ Φ.exc f ds = some c ∧ R (.xc c) (agFz as e')) (hio : (Φ.io f).all (!·) = true) : sat (evS Φ (.asgX i (.tup (.cons (.str s) (.cons (.call f a) .nil)))) e) R := by
  obtain ⟨h1, e', h2, q⟩ := exE_call (R := R (.xc c)) h hio
  have e3 : exE Φ (.tup (.cons (.str s) (.cons (.call f a) .nil))) e = exE Φ (.call f a) e := by
    conv => lhs; rw [exE]
  exact ⟨.xc c, e', by rw [evS, evE_st, h1]; simp only [e3, h2], q⟩
def trn (f : Fl) (e : Env) (hs : T) (R : Fl → Env → Prop) (_ : Tg R := ⟨⟩) : Prop := match f with
  | .xc c => sat (hndl hs c e) R
  | f => R f e
@[simp] theorem trn_xc {c : Nat} {e : Env} {hs : T} {R : Fl → Env → Prop} : trn (.xc c) e hs R ↔ sat (hndl hs c e) R := Iff.rfl
@[simp] theorem trn_nx {e : Env} {hs : T} {R : Fl → Env → Prop} : trn .nx e hs R ↔ R .nx e := Iff.rfl
@[simp] theorem trn_rt {d : D} {e : Env} {hs : T} {R : Fl → Env → Prop} : trn (.rt d) e hs R ↔ R (.rt d) e := Iff.rfl
@[simp] theorem sat_tri {Φ : Fs} {e : Env} {R : Fl → Env → Prop} {a hs : T} : sat (evS Φ (.tri a hs) e) R ↔ sat (evS Φ a e) fun f e => trn f e hs R := by
  rw [evS]
  rcases evS Φ a e with _ | ⟨f, e⟩
  · simp
  · cases f <;> simp [trn]
theorem exc_of {Φ : Fs} {d : Df} {ds : List D} {c : Nat} (hl : ds.length = d.io.length) (h : sat (evS Φ d.body (ds.map some ++ List.replicate (d.names - ds.length) none)) fun f _ => f = .xc c) : excDf Φ d ds = some c := by
  obtain ⟨f, e, he, rfl⟩ := h
  unfold excDf
  rw [if_pos hl, he]
theorem exc_run {Φ : Fs} {d : Df} {ds : List D} {c : Nat} (h : excDf Φ d ds = some c) : runDf Φ d ds = none := by
  unfold excDf at h
  unfold runDf
  split at h
  · rename_i hl
    rw [if_pos hl]
    split at h
    · rename_i c' e he
      rw [he]
    · cases h
  · cases h
@[simp] theorem fns_exc {P : Nat → Df} {n f : Nat} {ds : List D} : (fnsN P (n + 1)).exc f ds = excDf (fnsN P n) (P f) ds := rfl
/-- one statement, then the others -/
theorem sat_cut {Φ : Fs} {e : Env} {R : Fl → Env → Prop} {a b : T} (I : Env → Prop) (h1 : sat (evS Φ a e) fun f e => f = .nx ∧ I e) (h2 : ∀ e, I e → sat (evS Φ b e) R) : sat (evS Φ (.seq a b) e) R := by
  rw [sat_seq]
  exact sat_mono h1 fun f e ⟨hf, hi⟩ => by subst hf; exact h2 e hi
end Sr
namespace Sr
@[simp] theorem le_big {n : Nat} (h : n ≤ 1000000) : (n ≤ big) = True := eq_true h
end Sr
set_option Elab.async false
set_option linter.all false
set_option maxRecDepth 100000
/-! # Sr: equality of data -/
namespace Sr
open PySem PySem.Spec PyProof.Rows L2
def okN (n : Nat) (d : D) : Prop := d.py.canLay0 = true ∧ d.py.depth ≤ n
def okL (n : Nat) (xs : List D) : Prop := PyData.canLayAll0 (pyL xs) = true ∧ PyData.depthAll (pyL xs) ≤ n
theorem eqOk_iff {d : D} : eqOk d = true ↔ okN 64 d := by
  unfold eqOk SeqAt.shaped okN
  simp
@[simp] theorem okN_tup {n : Nat} {xs : List D} : okN (n + 1) (.tup xs) ↔ okL n xs := by
  unfold okN okL
  rw [D.py, PyData.canLay0, PyData.depth]
  constructor <;> (rintro ⟨h1, h2⟩; exact ⟨h1, by omega⟩)
@[simp] theorem okN_lst {n : Nat} {o : Bool} {xs : List D} : okN (n + 1) (.lst o xs) ↔ okL n xs := by
  unfold okN okL
  rw [D.py, PyData.canLay0, PyData.depth]
  constructor <;> (rintro ⟨h1, h2⟩; exact ⟨h1, by omega⟩)
@[simp] theorem okN_int {n : Nat} {i : Int} : okN (n + 1) (.int i) := by unfold okN; rw [D.py]; exact ⟨rfl, by rw [PyData.depth] <;> omega⟩
@[simp] theorem okN_bl {n : Nat} {i : Bool} : okN (n + 1) (.bl i) := by unfold okN; rw [D.py]; exact ⟨rfl, by rw [PyData.depth] <;> omega⟩
@[simp] theorem okN_non {n : Nat} : okN (n + 1) .non := by unfold okN; rw [D.py]; exact ⟨rfl, by rw [PyData.depth] <;> omega⟩
@[simp] theorem okL_nil {n : Nat} : okL n [] := by unfold okL; rw [pyL]; exact ⟨rfl, by rw [PyData.depthAll] <;> omega⟩
@[simp] theorem okL_cons {n : Nat} {d : D} {xs : List D} : okL n (d :: xs) ↔ okN n d ∧ okL n xs := by
  unfold okN okL
  rw [pyL, PyData.canLayAll0, PyData.depthAll, Bool.and_eq_true]
  constructor
  · rintro ⟨⟨h1, h2⟩, h3⟩; exact ⟨⟨h1, by omega⟩, h2, by omega⟩
  · rintro ⟨⟨h1, h2⟩, h3, h4⟩; exact ⟨⟨h1, h3⟩, by omega⟩
theorem okL_iff {n : Nat} {xs : List D} : okL n xs ↔ ∀ x ∈ xs, okN n x := by
  induction xs with
  | nil => simp
  | cons a r ih => simp [ih]
@[simp] theorem okL_ints {n : Nat} {ns : List Int} : okL (n + 1) (ns.map D.int) := by
  induction ns with
  | nil => simp
  | cons a r ih => simp [ih]
@[simp] theorem okL_app {n : Nat} {xs ys : List D} : okL n (xs ++ ys) ↔ okL n xs ∧ okL n ys := by
  induction xs with
  | nil => simp
  | cons a r ih => simp [ih, and_assoc]
@[simp] theorem eqOk_tup {xs : List D} : eqOk (.tup xs) = true ↔ okL 63 xs := by rw [eqOk_iff]; exact okN_tup (n := 63)
@[simp] theorem eqOk_lst {o : Bool} {xs : List D} : eqOk (.lst o xs) = true ↔ okL 63 xs := by rw [eqOk_iff]; exact okN_lst (n := 63)
theorem eqv_self {n : Nat} {d : D} (h : okN n d) : eqv d d = true := PySem.SeqAt.eqv_refl d.py h.1
@[simp] theorem eqv_i {i j : Int} : eqv (.int i) (.int j) = decide (i = j) := eqv_int
@[simp] theorem eqv_b {i j : Bool} : eqv (.bl i) (.bl j) = (i == j) := by unfold eqv; rw [D.py, D.py, PyData.eqv]
@[simp] theorem eqv_nn : eqv .non .non = true := by unfold eqv; rw [D.py, PyData.eqv]
@[simp] theorem eqv_ni {i : Int} : eqv .non (.int i) = false := by unfold eqv; rw [D.py, D.py, PyData.eqv]
@[simp] theorem eqv_in {i : Int} : eqv (.int i) .non = false := by unfold eqv; rw [D.py, D.py, PyData.eqv]
@[simp] theorem eqv_t0 : eqv (.tup []) (.tup []) = true := by unfold eqv; rw [D.py, PyData.eqv, pyL, PyData.eqvAll]
@[simp] theorem eqv_t {x y : D} {xs ys : List D} : eqv (.tup (x :: xs)) (.tup (y :: ys)) = (eqv x y && eqv (.tup xs) (.tup ys)) := by
  unfold eqv; rw [D.py, D.py, PyData.eqv, pyL, pyL, PyData.eqvAll, D.py, D.py, PyData.eqv]
@[simp] theorem eqv_l0 {o o' : Bool} : eqv (.lst o []) (.lst o' []) = true := by unfold eqv; rw [D.py, D.py, PyData.eqv, pyL, PyData.eqvAll]
@[simp] theorem eqv_l {o o' : Bool} {x y : D} {xs ys : List D} : eqv (.lst o (x :: xs)) (.lst o' (y :: ys)) = (eqv x y && eqv (.lst o xs) (.lst o' ys)) := by
  unfold eqv; rw [D.py, D.py, PyData.eqv, pyL, pyL, PyData.eqvAll, D.py, D.py, PyData.eqv]
@[simp] theorem eqv_nt {xs : List D} : eqv .non (.tup xs) = false := by unfold eqv; rw [D.py, D.py, PyData.eqv]
@[simp] theorem eqv_tn {xs : List D} : eqv (.tup xs) .non = false := by unfold eqv; rw [D.py, D.py, PyData.eqv]
variable {Φ : Fs} {e : Env} {Q : D → Env → Prop}
@[simp] theorem sat_inn {a b : T} : sat (evE Φ (.inn a b) e) Q ↔ sat (rdE Φ (isP a && isP b) a e) fun x e => sat (rdE Φ (isP b) b e) fun y e => isL y fun ys => (eqOk x = true ∧ eqOk y = true) ∧ Q (.bl (inD x ys)) e := by
  rw [evE]
  show sat (match rdE Φ (isP a && isP b) a e with | some (x, e) => _ | none => none) Q ↔ _
  rcases rdE Φ (isP a && isP b) a e with _ | ⟨x, e⟩
  · simp
  · simp only [sat_some]
    show sat (match rdE Φ (isP b) b e with | some (.lst o ys, e) => _ | _ => none) Q ↔ _
    rcases rdE Φ (isP b) b e with _ | ⟨y, e⟩
    · simp
    · simp only [sat_some]
      cases y <;> simp only [isL, sat_none]
      rename_i o ys
      simp only [sat_ite, Bool.and_eq_true]
      split <;> simp_all
@[simp] theorem sat_nin {a b : T} : sat (evE Φ (.nin a b) e) Q ↔ sat (rdE Φ (isP a && isP b) a e) fun x e => sat (rdE Φ (isP b) b e) fun y e => isL y fun ys => (eqOk x = true ∧ eqOk y = true) ∧ Q (.bl (!inD x ys)) e := by
  rw [evE]
  show sat (match rdE Φ (isP a && isP b) a e with | some (x, e) => _ | none => none) Q ↔ _
  rcases rdE Φ (isP a && isP b) a e with _ | ⟨x, e⟩
  · simp
  · simp only [sat_some]
    show sat (match rdE Φ (isP b) b e with | some (.lst o ys, e) => _ | _ => none) Q ↔ _
    rcases rdE Φ (isP b) b e with _ | ⟨y, e⟩
    · simp
    · simp only [sat_some]
      cases y <;> simp only [isL, sat_none]
      rename_i o ys
      simp only [sat_ite, Bool.and_eq_true]
      split <;> simp_all
@[simp] theorem inD_nil {x : D} : inD x [] = false := rfl
@[simp] theorem inD_cons {x y : D} {ys : List D} : inD x (y :: ys) = (eqv y x || inD x ys) := rfl
@[simp] theorem binD_tcat {xs ys : List D} : binD .add (.tup xs) (.tup ys) = if (unL xs && unL ys && !xs.isEmpty && decide (xs.length + ys.length ≤ big)) = true then some (.tup (xs ++ ys)) else none := rfl
@[simp] theorem sat_apq {p a : T} {R : Fl → Env → Prop} : sat (evS Φ (.apq p a) e) R ↔ (isPl p && isQ a) = true ∧ opt (evQ a e) fun x => opt (setP p (appD x) e) fun e => R .nx e := by
  rw [evS]
  by_cases h : (isPl p && isQ a) = true
  · rw [if_pos h]
    simp only [h, true_and]
    cases evQ a e with
    | none => simp
    | some x =>
      simp only [opt_some]
      cases setP p (appD x) e <;> simp
  · simp [h]
@[simp] theorem isQ_tup {a : T} : isQ (.tup a) = isQl a := by simp [isQ]
@[simp] theorem isQ_lst {a : T} : isQ (.lst a) = isQl a := by simp [isQ]
@[simp] theorem isQ_v {i : Nat} : isQ (.v i) = true := by simp [isQ]
@[simp] theorem isQ_int {i : Int} : isQ (.int i) = true := by simp [isQ]
@[simp] theorem isQ_non : isQ .non = true := by simp [isQ]
@[simp] theorem isQ_ix {a b : T} : isQ (.ix a b) = (isP a && isP b) := by simp [isQ]
@[simp] theorem isQ_bin {o : Bop} {a b : T} : isQ (.bin o a b) = (isP a && isP b) := by simp [isQ]
@[simp] theorem isQl_nil : isQl .nil = true := by simp [isQl]
def notTup : T → Bool
  | .tup _ => false
  | _ => true
@[simp] theorem notTup_v {i : Nat} : notTup (.v i) = true := by simp [notTup]
@[simp] theorem notTup_int {i : Int} : notTup (.int i) = true := by simp [notTup]
@[simp] theorem notTup_non : notTup .non = true := by simp [notTup]
@[simp] theorem notTup_bl {b : Bool} : notTup (.bl b) = true := by simp [notTup]
@[simp] theorem notTup_str {x : Str} : notTup (.str x) = true := by simp [notTup]
@[simp] theorem notTup_ix {a b : T} : notTup (.ix a b) = true := by simp [notTup]
@[simp] theorem notTup_bin {o : Bop} {a b : T} : notTup (.bin o a b) = true := by simp [notTup]
@[simp] theorem notTup_neg {a : T} : notTup (.neg a) = true := by simp [notTup]
@[simp] theorem notTup_b1 {c : B1} {a : T} : notTup (.b1 c a) = true := by simp [notTup]
theorem notTup_ne {a : T} (h : notTup a = true) : ∀ b, a ≠ .tup b := by
  intro b z
  subst z
  cases h
@[simp] theorem isQl_cons {a r : T} (h : notTup a = true) : isQl (.cons a r) = (isP a && isQl r) := isQl_consP (notTup_ne h)
@[simp] theorem isQl_tup {b r : T} : isQl (.cons (.tup b) r) = (isQl b && isQl r) := by rw [isQl]
@[simp] theorem opt_Ql_tup {b r : T} {Q : List D → Prop} : opt (evQl (.cons (.tup b) r) e) Q ↔ opt (evQl b e) fun d => opt (evQl r e) fun ds => d.length ≤ big ∧ Q (.tup d :: ds) := by
  rw [evQl]
  cases evQl b e with
  | none => simp
  | some d =>
    cases evQl r e with
    | none => simp
    | some ds =>
      simp only [opt_some, opt_ite, opt_none]
      by_cases c : d.length ≤ big
      · rw [if_pos c]; exact ⟨fun h => ⟨c, h⟩, fun h => h.2⟩
      · rw [if_neg c]; exact ⟨fun h => h.elim, fun h => absurd h.1 c⟩
@[simp] theorem opt_Ql_nil {Q : List D → Prop} : opt (evQl .nil e) Q ↔ Q [] := by
  rw [evQl]
  · simp
  · intro a r z; cases z
  · intro a r z; cases z
@[simp] theorem opt_Ql_cons {a r : T} {Q : List D → Prop} (h : notTup a = true) : opt (evQl (.cons a r) e) Q ↔ opt (evP a e) fun d => opt (evQl r e) fun ds => d.un = true ∧ Q (d :: ds) := by
  rw [evQl_cons (notTup_ne h)]
  cases evP a e with
  | none => simp
  | some d =>
    cases evQl r e with
    | none => simp
    | some ds =>
      simp only [opt_some]
      by_cases h : d.un = true <;> simp [h]
@[simp] theorem opt_Q_tup {a : T} {Q : D → Prop} : opt (evQ (.tup a) e) Q ↔ opt (evQl a e) fun ds => ds.length ≤ big ∧ Q (.tup ds) := by
  rw [evQ]
  cases evQl a e with
  | none => simp
  | some ds =>
    simp only [opt_some]
    by_cases h : ds.length ≤ big <;> simp [h]
@[simp] theorem opt_Q_lst {a : T} {Q : D → Prop} : opt (evQ (.lst a) e) Q ↔ opt (evQl a e) fun ds => ds.length ≤ big ∧ Q (.lst true ds) := by
  rw [evQ]
  cases evQl a e with
  | none => simp
  | some ds =>
    simp only [opt_some]
    by_cases h : ds.length ≤ big <;> simp [h]
theorem opt_Q_P {a : T} {Q : D → Prop} (h : evQ a e = match evP a e with
  | some d => if d.un then some d else none
  | none => none) : opt (evQ a e) Q ↔ opt (evP a e) fun d => d.un = true ∧ Q d := by
  rw [h]
  cases evP a e with
  | none => simp
  | some d =>
    simp only [opt_some]
    by_cases h : d.un = true <;> simp [h]
@[simp] theorem opt_Q_v {i : Nat} {Q : D → Prop} : opt (evQ (.v i) e) Q ↔ opt (evP (.v i) e) fun d => d.un = true ∧ Q d := opt_Q_P rfl
@[simp] theorem opt_Q_int {i : Int} {Q : D → Prop} : opt (evQ (.int i) e) Q ↔ opt (evP (.int i) e) fun d => d.un = true ∧ Q d := opt_Q_P rfl
@[simp] theorem opt_Q_ix {a b : T} {Q : D → Prop} : opt (evQ (.ix a b) e) Q ↔ opt (evP (.ix a b) e) fun d => d.un = true ∧ Q d := opt_Q_P rfl
@[simp] theorem opt_Q_bin {o : Bop} {a b : T} {Q : D → Prop} : opt (evQ (.bin o a b) e) Q ↔ opt (evP (.bin o a b) e) fun d => d.un = true ∧ Q d := opt_Q_P rfl
end Sr
set_option Elab.async false
set_option linter.all false
set_option maxRecDepth 100000
/-! # Sr: rules for instances -/
namespace Sr
open PySem PySem.Spec PyProof.Rows L2
section
variable {Φ : Fs} {e : Env} {Q : D → Env → Prop} {R : Fl → Env → Prop}
@[simp] theorem isP_fld {c i : Nat} {f : Str} : isP (.fld c i f) = true := rfl
@[simp] theorem isP_fldv {c i : Nat} {f : Str} : isP (.fldv c i f) = false := rfl
@[simp] theorem isP_mcl {c f i : Nat} {a : T} : isP (.mcl c f i a) = false := rfl
@[simp] theorem isP_mk {c f : Nat} {a : T} : isP (.mk c f a) = false := rfl
@[simp] theorem isP_pop {a : T} : isP (.pop a) = false := rfl
@[simp] theorem isPl_fld {c i : Nat} {f : Str} : isPl (.fld c i f) = true := rfl
@[simp] theorem opt_fld {c i : Nat} {f : Str} {Q : D → Prop} : opt (evP (.fld c i f) e) Q ↔ opt (e.at i) fun d => opt (fldD c f d) Q := by
  rw [evP]
  cases e.at i <;> simp
@[simp] theorem setP_fld {c i : Nat} {f : Str} {g : D → Option D} {Q : Env → Prop} : opt (setP (.fld c i f) g e) Q ↔ opt (e.at i) fun d => opt (setFld c f g d) fun d => Q (e.set i (some d)) := by
  rw [setP]
  cases e.at i with
  | none => simp
  | some d =>
    simp only [opt_some]
    cases setFld c f g d <;> simp
@[simp] theorem sat_fld {c i : Nat} {f : Str} : sat (evE Φ (.fld c i f) e) Q ↔ opt (e.at i) fun d => opt (fldD c f d) fun x => x.un = true ∧ Q x e := by
  rw [evE, evP]
  cases e.at i with
  | none => simp
  | some d =>
    simp only [opt_some]
    cases fldD c f d with
    | none => simp
    | some x =>
      simp only [opt_some]
      by_cases h : x.un = true <;> simp [h]
@[simp] theorem sat_fldv {c i : Nat} {f : Str} : sat (evE Φ (.fldv c i f) e) Q ↔ opt (e.at i) fun d => opt (fldD c f d) fun x => Q x (e.set i none) := by
  rw [evE]
  cases e.at i with
  | none => simp
  | some d =>
    simp only [opt_some]
    cases fldD c f d <;> simp
/-- an instance of ours, of a class -/
def isIns (c : Nat) : D → Bool
  | .cel true (.ins c' ns) _ => decide (c = c') && okNs c ns
  | _ => false
def hdT : List Bool → Bool
  | true :: _ => true
  | _ => false
@[simp] theorem hdT_true {r : List Bool} : hdT (true :: r) = true := rfl
@[simp] theorem hdT_false {r : List Bool} : hdT (false :: r) = false := rfl
@[simp] theorem hdT_nil : hdT [] = false := rfl
theorem hdT_of {l : List Bool} (h : hdT l = true) : l = true :: l.tail := by
  rcases l with _ | ⟨_ | _, r⟩ <;> simp_all
@[simp] theorem sat_mcl {c f i : Nat} {a : T} : sat (evE Φ (.mcl c f i a) e) Q ↔ opt (e.at i) fun d => isIns c d = true ∧ hdT (Φ.io f) = true ∧ sat (evG Φ a (Φ.io f).tail e) fun as e => sat (callF Φ f (.io i :: as) e) Q := by
  rw [evE]
  cases e.at i with
  | none => simp
  | some d =>
    simp only [opt_some]
    by_cases h : ∃ ns xs, d = .cel true (.ins c ns) xs ∧ okNs c ns = true
    · obtain ⟨ns, xs, rfl, hok⟩ := h
      have hi : isIns c (.cel true (.ins c ns) xs) = true := by simp [isIns, hok]
      simp only [hi, true_and, hok, and_self, if_true]
      by_cases hh : hdT (Φ.io f) = true
      · rw [hdT_of hh]
        simp only [hdT_true, true_and, List.tail_cons]
        rcases evG Φ a (Φ.io f).tail e with _ | ⟨as, e⟩
        · simp
        · simp only [sat_some]
      · rcases hq : Φ.io f with _ | ⟨_ | _, r⟩
        · simp
        · simp
        · rw [hq] at hh; exact absurd rfl hh
    · have hi : isIns c d = false := by
        rw [Bool.eq_false_iff]
        intro hi
        unfold isIns at hi
        split at hi
        · simp only [Bool.and_eq_true, decide_eq_true_eq] at hi
          obtain ⟨rfl, hi⟩ := hi
          exact h ⟨_, _, rfl, hi⟩
        · cases hi
      simp only [hi, Bool.false_eq_true, false_and, iff_false]
      split
      · rename_i heq
        cases heq
        split
        · rename_i hc
          obtain ⟨rfl, hc⟩ := hc
          exact absurd ⟨_, _, rfl, hc⟩ h
        · simp
      · simp
/-- what an __init__ gives back -/
def isMade (r : D) (os : List (Option D)) (Q : D → List (Option D) → Prop) (_ : Tg Q := ⟨⟩) : Prop := match r, os with
  | .non, some d :: os => Q d os
  | _, _ => False
@[simp] theorem isMade_non {d : D} {os : List (Option D)} {Q : D → List (Option D) → Prop} : isMade .non (some d :: os) Q ↔ Q d os := Iff.rfl
@[simp] theorem sat_mk {c f : Nat} {a : T} : sat (evE Φ (.mk c f a) e) Q ↔ hdT (Φ.io f) = true ∧ sat (evG Φ a (Φ.io f).tail e) fun as e => sat (makeF Φ c f as e) Q := by
  rw [evE]
  by_cases hh : hdT (Φ.io f) = true
  · rw [hdT_of hh]
    simp only [hdT_true, true_and, List.tail_cons]
    rcases evG Φ a (Φ.io f).tail e with _ | ⟨as, e⟩ <;> simp
  · rcases hq : Φ.io f with _ | ⟨_ | _, r⟩
    · simp
    · simp
    · rw [hq] at hh; exact absurd rfl hh
@[simp] theorem sat_makeF {c f : Nat} {as : List Ag} : sat (makeF Φ c f as e) Q ↔ opt (agIo as e) fun e' => opt (agD e e' as) fun ds => runs (Φ.run f (.cel true (.ins c []) [] :: ds)) fun r os => isMade r os fun d os => opt (agBack as os (if (d.ns && nsO os) = true then e' else agFz as e')) fun e => Q d e := by
  unfold makeF
  cases agIo as e with
  | none => simp
  | some e' =>
    simp only [opt_some]
    cases agD e e' as with
    | none => simp
    | some ds =>
      simp only [opt_some]
      rcases Φ.run f (.cel true (.ins c []) [] :: ds) with _ | ⟨r, os⟩
      · simp [runs]
      · rw [runs_some]
        cases r <;> try (simp [isMade]; done)
        rcases os with _ | ⟨_ | d, os⟩ <;> try (simp [isMade]; done)
        simp only [isMade_non]
        cases agBack as os (if (d.ns && nsO os) = true then e' else agFz as e') <;> simp
/-- a list of ours -/
def isOw (d : D) (Q : List D → Prop) (_ : Tg Q := ⟨⟩) : Prop := match d with
  | .lst true xs => Q xs
  | _ => False
@[simp] theorem isOw_own {xs : List D} {Q : List D → Prop} : isOw (.lst true xs) Q ↔ Q xs := Iff.rfl
@[simp] theorem sat_pop {p : T} : sat (evE Φ (.pop p) e) Q ↔ isPl p = true ∧ opt (evP p e) fun d => isOw d fun xs => opt (xs[xs.length - 1]?) fun x => opt (setP p popD e) fun e => Q x e := by
  rw [evE]
  by_cases h : isPl p = true
  · rw [if_pos h]
    simp only [h, true_and]
    cases evP p e with
    | none => simp
    | some d =>
      simp only [opt_some]
      cases d <;> try (simp [isOw]; done)
      rename_i o xs
      cases o <;> try (simp [isOw]; done)
      simp only [isOw_own]
      cases xs[xs.length - 1]? with
      | none => simp
      | some x =>
        simp only [opt_some]
        cases setP p popD e <;> simp
  · simp [h]
@[simp] theorem sat_sfl {c i : Nat} {f : Str} {a : T} : sat (evS Φ (.sfl c i f a) e) R ↔ sat (evE Φ a e) fun x e => opt (e.at i) fun d => opt (putFld c f x d) fun d => R .nx (e.set i (some d)) := by
  rw [evS]
  rcases evE Φ a e with _ | ⟨x, e⟩
  · simp
  · simp only [sat_some]
    cases e.at i with
    | none => simp
    | some d =>
      simp only [opt_some]
      cases putFld c f x d <;> simp
/-- one thing alone comes back -/
def isOne (os : List (Option D)) (Q : D → Prop) (_ : Tg Q := ⟨⟩) : Prop := match os with
  | [some d] => Q d
  | _ => False
@[simp] theorem isOne_one {d : D} {Q : D → Prop} : isOne [some d] Q ↔ Q d := Iff.rfl
@[simp] theorem sat_exP {f i : Nat} {k : Int} : sat (evS Φ (.exP f i k) e) R ↔ opt (e.at i) fun d => isOw d fun xs => opt (ixN xs.length k) fun j => opt (xs[j]?) fun d => Φ.io f = [true] ∧ runs (Φ.run f [d]) fun _ os => isOne os fun d' => R .nx (e.set i (some (.lst true (xs.set j d')))) := by
  rw [evS]
  cases e.at i with
  | none => simp
  | some d =>
    simp only [opt_some]
    cases d <;> try (simp [isOw]; done)
    rename_i o xs
    cases o <;> try (simp [isOw]; done)
    simp only [isOw_own]
    cases ixN xs.length k with
    | none => simp
    | some j =>
      simp only [opt_some]
      cases xs[j]? with
      | none => simp
      | some d =>
        simp only [opt_some]
        by_cases h : Φ.io f = [true]
        · rw [h]
          simp only [true_and]
          rcases Φ.run f [d] with _ | ⟨r, os⟩
          · simp [runs]
          · rw [runs_some]
            rcases os with _ | ⟨_ | d', _ | ⟨_, _⟩⟩ <;> simp [isOne]
        · simp only [h, false_and, iff_false]
          rcases hh : Φ.io f with _ | ⟨_ | _, _ | ⟨_, _⟩⟩ <;> simp_all
@[simp] theorem popD_lst {xs : List D} {Q : D → Prop} : opt (popD (.lst true xs)) Q ↔ 0 < xs.length ∧ Q (.lst true xs.dropLast) := by
  rw [popD]
  by_cases h : 0 < xs.length
  · rw [if_pos h]; simp [h]
  · rw [if_neg h]; simp [h]
/-- an instance of ours, its fields -/
def isInsX (c : Nat) (d : D) (Q : List Str → List D → Prop) (_ : Tg Q := ⟨⟩) : Prop := match d with
  | .cel true (.ins c' ns) xs => c = c' ∧ Q ns xs
  | _ => False
@[simp] theorem isP_cfl {c i f : Nat} {fl : Str} {a : T} : isP (.cfl c i fl f a) = false := rfl
@[simp] theorem sat_cfl {c i f : Nat} {fl : Str} {a : T} : sat (evE Φ (.cfl c i fl f a) e) Q ↔ opt (e.at i) fun d => isInsX c d fun ns xs => opt (posS fl ns) fun j => opt (xs[j]?) fun t => opt (evF c i fl a (Φ.io f) e) fun l => runs (Φ.run f (fillF t l)) fun r os => opt (pickO (Φ.io f) os) fun t' => Q r (e.set i (some (.cel true (.ins c ns) (xs.set j t')))) := by
  rw [evE]
  cases e.at i with
  | none => simp
  | some d =>
    simp only [opt_some]
    cases d <;> try (simp [isInsX]; done)
    rename_i o kd xs
    cases o <;> try (simp [isInsX]; done)
    cases kd <;> try (simp [isInsX]; done)
    rename_i c' ns
    by_cases hc : c = c'
    · subst hc
      simp only [isInsX, true_and, if_true]
      cases posS fl ns with
      | none => simp
      | some j =>
        simp only [opt_some]
        cases xs[j]? with
        | none => simp
        | some t =>
          simp only [opt_some]
          cases evF c i fl a (Φ.io f) e with
          | none => simp
          | some l =>
            simp only [opt_some]
            rcases Φ.run f (fillF t l) with _ | ⟨r, os⟩
            · simp [runs]
            · rw [runs_some]
              cases hp : pickO (Φ.io f) os <;> simp [hp]
    · simp [isInsX, hc]
@[simp] theorem isP_isT {g b : Bool} {a : T} : isP (.isT g b a) = false := rfl
@[simp] theorem isP_dnew : isP .dnew = false := rfl
@[simp] theorem isP_din {g : Bool} {a p : T} : isP (.din g a p) = false := rfl
@[simp] theorem isP_dix {a p : T} : isP (.dix p a) = false := rfl
@[simp] theorem isP_fldw {c i : Nat} {f : Str} : isP (.fldw c i f) = false := rfl
@[simp] theorem sat_isT {g b : Bool} {a : T} : sat (evE Φ (.isT g b a) e) Q ↔ sat (evE Φ a e) fun x e => isB x fun c => Q (.bl ((c == b) != g)) e := by
  rw [evE]
  rcases evE Φ a e with _ | ⟨x, e⟩
  · simp
  · simp only [sat_some]
    cases x <;> simp [isB]
@[simp] theorem sat_dnew : sat (evE Φ .dnew e) Q ↔ Q (.cel true (.dct []) []) e := by rw [evE]; simp
@[simp] theorem sat_din {g : Bool} {a p : T} : sat (evE Φ (.din g a p) e) Q ↔ (isP a && isP p) = true ∧ opt (evP a e) fun y => isI y fun k => opt (evP p e) fun d => opt (getK k d) fun o => Q (.bl (o.isSome != g)) e := by
  rw [evE]
  by_cases h : (isP a && isP p) = true
  · rw [if_pos h]
    simp only [h, true_and]
    cases evP a e with
    | none => simp
    | some y =>
      simp only [opt_some]
      cases y <;> simp only [isI, sat_none]
      rename_i k
      cases evP p e with
      | none => simp
      | some d =>
        simp only [opt_some]
        cases getK k d <;> simp
  · rw [if_neg h]; simp [h]
@[simp] theorem sat_dix {a p : T} : sat (evE Φ (.dix p a) e) Q ↔ (isP a && isP p) = true ∧ opt (evP a e) fun y => isI y fun k => opt (evP p e) fun d => opt (getK k d) fun o => opt o fun x => x.un = true ∧ Q x e := by
  rw [evE]
  by_cases h : (isP a && isP p) = true
  · rw [if_pos h]
    simp only [h, true_and]
    cases evP a e with
    | none => simp
    | some y =>
      simp only [opt_some]
      cases y <;> simp only [isI, sat_none]
      rename_i k
      cases evP p e with
      | none => simp
      | some d =>
        simp only [opt_some]
        rcases getK k d with _ | _ | x
        · simp
        · simp
        · simp only [opt_some]
          by_cases hu : x.un = true <;> simp [hu]
  · rw [if_neg h]; simp [h]
@[simp] theorem sat_fldw {c i : Nat} {f : Str} : sat (evE Φ (.fldw c i f) e) Q ↔ opt (e.at i) fun d => opt (fldD c f d.shr) fun x => Q x (e.set i (some d.shr)) := by
  rw [evE]
  cases e.at i with
  | none => simp
  | some d =>
    simp only [opt_some]
    cases fldD c f d.shr <;> simp
@[simp] theorem sat_dst {p i a : T} : sat (evS Φ (.dst p i a) e) R ↔ sat (evE Φ a e) fun x e => isI x fun x => (isPl p && isP i) = true ∧ opt (evP i e) fun y => isI y fun k => opt (setP p (putK' k x) e) fun e => R .nx e := by
  rw [evS]
  rcases evE Φ a e with _ | ⟨x, e⟩
  · simp
  · simp only [sat_some]
    cases x <;> simp only [isI, sat_none]
    rename_i x
    by_cases h : (isPl p && isP i) = true
    · rw [if_pos h]
      simp only [h, true_and]
      cases evP i e with
      | none => simp
      | some y =>
        simp only [opt_some]
        cases y <;> simp only [isI, sat_none]
        rename_i k
        cases setP p (putK' k x) e <;> simp
    · rw [if_neg h]; simp [h]
/-! ### an __init__ fills its instance -/
@[simp] theorem putFld_new {c : Nat} {f : Str} {x : D} {ns : List Str} {xs : List D} {Q : D → Prop} : opt (putFld c f x (.cel true (.ins c ns) xs)) Q ↔ (ns.length < 900 ∧ ns.length = xs.length) ∧ match posS f ns with
    | some j => Q (.cel true (.ins c ns) (xs.set j x))
    | none => Q (.cel true (.ins c (ns ++ [f])) (xs ++ [x])) := by
  rw [putFld]
  by_cases h : ns.length < 900 ∧ ns.length = xs.length
  · rw [if_pos ⟨rfl, h⟩]
    rw [and_iff_right h]
    cases posS f ns <;> simp
  · rw [if_neg fun z => h z.2]; simp [h]

/-- an instance of class 0 -/
def lyr (o : Bool) (a b : D) : D := .cel o (.ins 0 ["laid", "last"]) [a, b]
@[simp] theorem lyr_un {a b : D} : (lyr true a b).un = false := by simp [lyr, D.un]
@[simp] theorem lyr_ns {a b : D} : (lyr true a b).ns = (a.ns && b.ns) := by simp [lyr, D.ns, Bool.and_assoc]
@[simp] theorem lyr_is {a b : D} : isIns 0 (lyr true a b) = true := by show (decide (0 = 0) && okNs 0 ["laid", "last"]) = true; decide +kernel
@[simp] theorem lyr_shr {a b : D} {o : Bool} : (lyr o a b).shr = lyr false a.shr b.shr := by simp [lyr, D.shr]
@[simp] theorem lyr_laid {a b : D} {o : Bool} : fldD 0 "laid" (lyr o a b) = some a := rfl
@[simp] theorem lyr_s_laid {a b : D} {gg : D → Option D} {Q : D → Prop} : opt (setFld 0 "laid" gg (lyr true a b)) Q ↔ opt (gg a) fun y => Q (lyr true y b) := by
  have hz : setFld 0 "laid" gg (lyr true a b) = match gg a with | some y => some (lyr true y b) | none => none := rfl
  rw [hz]; cases gg a <;> simp
@[simp] theorem lyr_p_laid {a b : D} {y : D} {Q : D → Prop} : opt (putFld 0 "laid" y (lyr true a b)) Q ↔ Q (lyr true y b) := by
  have hz : putFld 0 "laid" y (lyr true a b) = some (lyr true y b) := rfl
  rw [hz]; simp
@[simp] theorem lyr_last {a b : D} {o : Bool} : fldD 0 "last" (lyr o a b) = some b := rfl
@[simp] theorem lyr_s_last {a b : D} {gg : D → Option D} {Q : D → Prop} : opt (setFld 0 "last" gg (lyr true a b)) Q ↔ opt (gg b) fun y => Q (lyr true a y) := by
  have hz : setFld 0 "last" gg (lyr true a b) = match gg b with | some y => some (lyr true a y) | none => none := rfl
  rw [hz]; cases gg b <;> simp
@[simp] theorem lyr_p_last {a b : D} {y : D} {Q : D → Prop} : opt (putFld 0 "last" y (lyr true a b)) Q ↔ Q (lyr true a y) := by
  have hz : putFld 0 "last" y (lyr true a b) = some (lyr true a y) := rfl
  rw [hz]; simp
/-- an instance of class 1 -/
def rnr (o : Bool) (a b c d e : D) : D := .cel o (.ins 1 ["program", "picks", "used", "ways", "frames"]) [a, b, c, d, e]
@[simp] theorem rnr_un {a b c d e : D} : (rnr true a b c d e).un = false := by simp [rnr, D.un]
@[simp] theorem rnr_ns {a b c d e : D} : (rnr true a b c d e).ns = (a.ns && b.ns && c.ns && d.ns && e.ns) := by simp [rnr, D.ns, Bool.and_assoc]
@[simp] theorem rnr_is {a b c d e : D} : isIns 1 (rnr true a b c d e) = true := by show (decide (1 = 1) && okNs 1 ["program", "picks", "used", "ways", "frames"]) = true; decide +kernel
@[simp] theorem rnr_shr {a b c d e : D} {o : Bool} : (rnr o a b c d e).shr = rnr false a.shr b.shr c.shr d.shr e.shr := by simp [rnr, D.shr]
@[simp] theorem rnr_program {a b c d e : D} {o : Bool} : fldD 1 "program" (rnr o a b c d e) = some a := rfl
@[simp] theorem rnr_s_program {a b c d e : D} {gg : D → Option D} {Q : D → Prop} : opt (setFld 1 "program" gg (rnr true a b c d e)) Q ↔ opt (gg a) fun y => Q (rnr true y b c d e) := by
  have hz : setFld 1 "program" gg (rnr true a b c d e) = match gg a with | some y => some (rnr true y b c d e) | none => none := rfl
  rw [hz]; cases gg a <;> simp
@[simp] theorem rnr_p_program {a b c d e : D} {y : D} {Q : D → Prop} : opt (putFld 1 "program" y (rnr true a b c d e)) Q ↔ Q (rnr true y b c d e) := by
  have hz : putFld 1 "program" y (rnr true a b c d e) = some (rnr true y b c d e) := rfl
  rw [hz]; simp
@[simp] theorem rnr_picks {a b c d e : D} {o : Bool} : fldD 1 "picks" (rnr o a b c d e) = some b := rfl
@[simp] theorem rnr_s_picks {a b c d e : D} {gg : D → Option D} {Q : D → Prop} : opt (setFld 1 "picks" gg (rnr true a b c d e)) Q ↔ opt (gg b) fun y => Q (rnr true a y c d e) := by
  have hz : setFld 1 "picks" gg (rnr true a b c d e) = match gg b with | some y => some (rnr true a y c d e) | none => none := rfl
  rw [hz]; cases gg b <;> simp
@[simp] theorem rnr_p_picks {a b c d e : D} {y : D} {Q : D → Prop} : opt (putFld 1 "picks" y (rnr true a b c d e)) Q ↔ Q (rnr true a y c d e) := by
  have hz : putFld 1 "picks" y (rnr true a b c d e) = some (rnr true a y c d e) := rfl
  rw [hz]; simp
@[simp] theorem rnr_used {a b c d e : D} {o : Bool} : fldD 1 "used" (rnr o a b c d e) = some c := rfl
@[simp] theorem rnr_s_used {a b c d e : D} {gg : D → Option D} {Q : D → Prop} : opt (setFld 1 "used" gg (rnr true a b c d e)) Q ↔ opt (gg c) fun y => Q (rnr true a b y d e) := by
  have hz : setFld 1 "used" gg (rnr true a b c d e) = match gg c with | some y => some (rnr true a b y d e) | none => none := rfl
  rw [hz]; cases gg c <;> simp
@[simp] theorem rnr_p_used {a b c d e : D} {y : D} {Q : D → Prop} : opt (putFld 1 "used" y (rnr true a b c d e)) Q ↔ Q (rnr true a b y d e) := by
  have hz : putFld 1 "used" y (rnr true a b c d e) = some (rnr true a b y d e) := rfl
  rw [hz]; simp
@[simp] theorem rnr_ways {a b c d e : D} {o : Bool} : fldD 1 "ways" (rnr o a b c d e) = some d := rfl
@[simp] theorem rnr_s_ways {a b c d e : D} {gg : D → Option D} {Q : D → Prop} : opt (setFld 1 "ways" gg (rnr true a b c d e)) Q ↔ opt (gg d) fun y => Q (rnr true a b c y e) := by
  have hz : setFld 1 "ways" gg (rnr true a b c d e) = match gg d with | some y => some (rnr true a b c y e) | none => none := rfl
  rw [hz]; cases gg d <;> simp
@[simp] theorem rnr_p_ways {a b c d e : D} {y : D} {Q : D → Prop} : opt (putFld 1 "ways" y (rnr true a b c d e)) Q ↔ Q (rnr true a b c y e) := by
  have hz : putFld 1 "ways" y (rnr true a b c d e) = some (rnr true a b c y e) := rfl
  rw [hz]; simp
@[simp] theorem rnr_frames {a b c d e : D} {o : Bool} : fldD 1 "frames" (rnr o a b c d e) = some e := rfl
@[simp] theorem rnr_s_frames {a b c d e : D} {gg : D → Option D} {Q : D → Prop} : opt (setFld 1 "frames" gg (rnr true a b c d e)) Q ↔ opt (gg e) fun y => Q (rnr true a b c d y) := by
  have hz : setFld 1 "frames" gg (rnr true a b c d e) = match gg e with | some y => some (rnr true a b c d y) | none => none := rfl
  rw [hz]; cases gg e <;> simp
@[simp] theorem rnr_p_frames {a b c d e : D} {y : D} {Q : D → Prop} : opt (putFld 1 "frames" y (rnr true a b c d e)) Q ↔ Q (rnr true a b c d y) := by
  have hz : putFld 1 "frames" y (rnr true a b c d e) = some (rnr true a b c d y) := rfl
  rw [hz]; simp
/-- an instance of class 2 -/
def stl (o : Bool) (a b c d e f g h : D) : D := .cel o (.ins 2 ["rows", "entry", "summaries", "way", "table", "ends", "turns", "grew"]) [a, b, c, d, e, f, g, h]
@[simp] theorem stl_un {a b c d e f g h : D} : (stl true a b c d e f g h).un = false := by simp [stl, D.un]
@[simp] theorem stl_ns {a b c d e f g h : D} : (stl true a b c d e f g h).ns = (a.ns && b.ns && c.ns && d.ns && e.ns && f.ns && g.ns && h.ns) := by simp [stl, D.ns, Bool.and_assoc]
@[simp] theorem stl_is {a b c d e f g h : D} : isIns 2 (stl true a b c d e f g h) = true := by show (decide (2 = 2) && okNs 2 ["rows", "entry", "summaries", "way", "table", "ends", "turns", "grew"]) = true; decide +kernel
@[simp] theorem stl_shr {a b c d e f g h : D} {o : Bool} : (stl o a b c d e f g h).shr = stl false a.shr b.shr c.shr d.shr e.shr f.shr g.shr h.shr := by simp [stl, D.shr]
@[simp] theorem stl_rows {a b c d e f g h : D} {o : Bool} : fldD 2 "rows" (stl o a b c d e f g h) = some a := rfl
@[simp] theorem stl_s_rows {a b c d e f g h : D} {gg : D → Option D} {Q : D → Prop} : opt (setFld 2 "rows" gg (stl true a b c d e f g h)) Q ↔ opt (gg a) fun y => Q (stl true y b c d e f g h) := by
  have hz : setFld 2 "rows" gg (stl true a b c d e f g h) = match gg a with | some y => some (stl true y b c d e f g h) | none => none := rfl
  rw [hz]; cases gg a <;> simp
@[simp] theorem stl_p_rows {a b c d e f g h : D} {y : D} {Q : D → Prop} : opt (putFld 2 "rows" y (stl true a b c d e f g h)) Q ↔ Q (stl true y b c d e f g h) := by
  have hz : putFld 2 "rows" y (stl true a b c d e f g h) = some (stl true y b c d e f g h) := rfl
  rw [hz]; simp
@[simp] theorem stl_entry {a b c d e f g h : D} {o : Bool} : fldD 2 "entry" (stl o a b c d e f g h) = some b := rfl
@[simp] theorem stl_s_entry {a b c d e f g h : D} {gg : D → Option D} {Q : D → Prop} : opt (setFld 2 "entry" gg (stl true a b c d e f g h)) Q ↔ opt (gg b) fun y => Q (stl true a y c d e f g h) := by
  have hz : setFld 2 "entry" gg (stl true a b c d e f g h) = match gg b with | some y => some (stl true a y c d e f g h) | none => none := rfl
  rw [hz]; cases gg b <;> simp
@[simp] theorem stl_p_entry {a b c d e f g h : D} {y : D} {Q : D → Prop} : opt (putFld 2 "entry" y (stl true a b c d e f g h)) Q ↔ Q (stl true a y c d e f g h) := by
  have hz : putFld 2 "entry" y (stl true a b c d e f g h) = some (stl true a y c d e f g h) := rfl
  rw [hz]; simp
@[simp] theorem stl_summaries {a b c d e f g h : D} {o : Bool} : fldD 2 "summaries" (stl o a b c d e f g h) = some c := rfl
@[simp] theorem stl_s_summaries {a b c d e f g h : D} {gg : D → Option D} {Q : D → Prop} : opt (setFld 2 "summaries" gg (stl true a b c d e f g h)) Q ↔ opt (gg c) fun y => Q (stl true a b y d e f g h) := by
  have hz : setFld 2 "summaries" gg (stl true a b c d e f g h) = match gg c with | some y => some (stl true a b y d e f g h) | none => none := rfl
  rw [hz]; cases gg c <;> simp
@[simp] theorem stl_p_summaries {a b c d e f g h : D} {y : D} {Q : D → Prop} : opt (putFld 2 "summaries" y (stl true a b c d e f g h)) Q ↔ Q (stl true a b y d e f g h) := by
  have hz : putFld 2 "summaries" y (stl true a b c d e f g h) = some (stl true a b y d e f g h) := rfl
  rw [hz]; simp
@[simp] theorem stl_way {a b c d e f g h : D} {o : Bool} : fldD 2 "way" (stl o a b c d e f g h) = some d := rfl
@[simp] theorem stl_s_way {a b c d e f g h : D} {gg : D → Option D} {Q : D → Prop} : opt (setFld 2 "way" gg (stl true a b c d e f g h)) Q ↔ opt (gg d) fun y => Q (stl true a b c y e f g h) := by
  have hz : setFld 2 "way" gg (stl true a b c d e f g h) = match gg d with | some y => some (stl true a b c y e f g h) | none => none := rfl
  rw [hz]; cases gg d <;> simp
@[simp] theorem stl_p_way {a b c d e f g h : D} {y : D} {Q : D → Prop} : opt (putFld 2 "way" y (stl true a b c d e f g h)) Q ↔ Q (stl true a b c y e f g h) := by
  have hz : putFld 2 "way" y (stl true a b c d e f g h) = some (stl true a b c y e f g h) := rfl
  rw [hz]; simp
@[simp] theorem stl_table {a b c d e f g h : D} {o : Bool} : fldD 2 "table" (stl o a b c d e f g h) = some e := rfl
@[simp] theorem stl_s_table {a b c d e f g h : D} {gg : D → Option D} {Q : D → Prop} : opt (setFld 2 "table" gg (stl true a b c d e f g h)) Q ↔ opt (gg e) fun y => Q (stl true a b c d y f g h) := by
  have hz : setFld 2 "table" gg (stl true a b c d e f g h) = match gg e with | some y => some (stl true a b c d y f g h) | none => none := rfl
  rw [hz]; cases gg e <;> simp
@[simp] theorem stl_p_table {a b c d e f g h : D} {y : D} {Q : D → Prop} : opt (putFld 2 "table" y (stl true a b c d e f g h)) Q ↔ Q (stl true a b c d y f g h) := by
  have hz : putFld 2 "table" y (stl true a b c d e f g h) = some (stl true a b c d y f g h) := rfl
  rw [hz]; simp
@[simp] theorem stl_ends {a b c d e f g h : D} {o : Bool} : fldD 2 "ends" (stl o a b c d e f g h) = some f := rfl
@[simp] theorem stl_s_ends {a b c d e f g h : D} {gg : D → Option D} {Q : D → Prop} : opt (setFld 2 "ends" gg (stl true a b c d e f g h)) Q ↔ opt (gg f) fun y => Q (stl true a b c d e y g h) := by
  have hz : setFld 2 "ends" gg (stl true a b c d e f g h) = match gg f with | some y => some (stl true a b c d e y g h) | none => none := rfl
  rw [hz]; cases gg f <;> simp
@[simp] theorem stl_p_ends {a b c d e f g h : D} {y : D} {Q : D → Prop} : opt (putFld 2 "ends" y (stl true a b c d e f g h)) Q ↔ Q (stl true a b c d e y g h) := by
  have hz : putFld 2 "ends" y (stl true a b c d e f g h) = some (stl true a b c d e y g h) := rfl
  rw [hz]; simp
@[simp] theorem stl_turns {a b c d e f g h : D} {o : Bool} : fldD 2 "turns" (stl o a b c d e f g h) = some g := rfl
@[simp] theorem stl_s_turns {a b c d e f g h : D} {gg : D → Option D} {Q : D → Prop} : opt (setFld 2 "turns" gg (stl true a b c d e f g h)) Q ↔ opt (gg g) fun y => Q (stl true a b c d e f y h) := by
  have hz : setFld 2 "turns" gg (stl true a b c d e f g h) = match gg g with | some y => some (stl true a b c d e f y h) | none => none := rfl
  rw [hz]; cases gg g <;> simp
@[simp] theorem stl_p_turns {a b c d e f g h : D} {y : D} {Q : D → Prop} : opt (putFld 2 "turns" y (stl true a b c d e f g h)) Q ↔ Q (stl true a b c d e f y h) := by
  have hz : putFld 2 "turns" y (stl true a b c d e f g h) = some (stl true a b c d e f y h) := rfl
  rw [hz]; simp
@[simp] theorem stl_grew {a b c d e f g h : D} {o : Bool} : fldD 2 "grew" (stl o a b c d e f g h) = some h := rfl
@[simp] theorem stl_s_grew {a b c d e f g h : D} {gg : D → Option D} {Q : D → Prop} : opt (setFld 2 "grew" gg (stl true a b c d e f g h)) Q ↔ opt (gg h) fun y => Q (stl true a b c d e f g y) := by
  have hz : setFld 2 "grew" gg (stl true a b c d e f g h) = match gg h with | some y => some (stl true a b c d e f g y) | none => none := rfl
  rw [hz]; cases gg h <;> simp
@[simp] theorem stl_p_grew {a b c d e f g h : D} {y : D} {Q : D → Prop} : opt (putFld 2 "grew" y (stl true a b c d e f g h)) Q ↔ Q (stl true a b c d e f g y) := by
  have hz : putFld 2 "grew" y (stl true a b c d e f g h) = some (stl true a b c d e f g y) := rfl
  rw [hz]; simp
end
end Sr
set_option Elab.async false
set_option linter.all false
set_option maxRecDepth 100000
set_option maxHeartbeats 4000000
namespace Sr
open PySem PySem.Spec PyProof.Rows L2
abbrev F_divisor : Nat := 0
abbrev F_stretch_x : Nat := 5
abbrev F_rest_has : Nat := 37
abbrev F_rest : Nat := 41
abbrev F_rest_inside : Nat := 42
abbrev F_rest_joined : Nat := 43
abbrev F_inverse : Nat := 44
abbrev F_rest_met : Nat := 45
abbrev F_rest_plus : Nat := 52
abbrev F_rest_times : Nat := 53
abbrev F_rest_parted : Nat := 54
abbrev F_rest_rested : Nat := 55
abbrev F_rest_loosened : Nat := 56
abbrev F_rest_under : Nat := 62
abbrev F_ask_box_x : Nat := 76
abbrev F_ask_sum_x : Nat := 77
abbrev F_ask_step_x : Nat := 78
abbrev F_ask_claim_x : Nat := 79
abbrev F_ask_call_x : Nat := 80
abbrev F_ask_statement_x : Nat := 81
abbrev F_ask_body_x : Nat := 82
abbrev F_well_made_x : Nat := 83
abbrev F__law_take_79a4 : Nat := 84
abbrev F__law_draw_5153 : Nat := 85
abbrev F__law_number_bdb4 : Nat := 86
abbrev F__law_off : Nat := 87
abbrev F__law_box_244c : Nat := 88
abbrev F__law_sum_8f62 : Nat := 89
abbrev F__law_step_a90e : Nat := 90
abbrev F__law_claim_850b : Nat := 91
abbrev F__law_any_40f3 : Nat := 92
abbrev F__law_call_7e49 : Nat := 93
abbrev F__law_plain_ebbc : Nat := 94
abbrev F__law_statement_9a11 : Nat := 95
abbrev F__law_body_9a11 : Nat := 96
abbrev F__law_program_0e2d : Nat := 97
abbrev F__law_copy_1206_f : Nat := 98
abbrev F__law_refusal : Nat := 99
abbrev F__law_under_base : Nat := 100
abbrev F__law_spots_o : Nat := 101
def d_divisor : Df := ⟨[false, false], 5, .seq (.asg 2 (.b1 .abs (.v 0))) (.seq (.asg 3 (.b1 .abs (.v 1))) (.seq (.whl [4] (.ne (.v 3) (.int 0)) (.seq (.asg 4 (.bin .mod (.v 2) (.v 3))) (.seq (.asg 2 (.v 3)) (.seq (.asg 3 (.v 4)) .pass)))) (.seq (.ret (.v 2)) .pass)))⟩
def d_stretch_x : Df := ⟨[false, false], 2, .seq (.cond (.and (.nisN (.v 0)) (.and (.nisN (.v 1)) (.cmp .gt (.v 0) (.v 1)))) (.seq (.rs 1) .pass) (.pass)) (.seq (.ret (.frz (.tup (.cons (.v 0) (.cons (.v 1) .nil))))) .pass)⟩
def d_rest_has : Df := ⟨[false, false], 2, .seq (.cond (.eq (.ix (.v 0) (.int 0)) (.int 0)) (.seq (.ret (.eq (.v 1) (.ix (.v 0) (.int 1)))) .pass) (.pass)) (.seq (.ret (.eq (.bin .mod (.bin .sub (.v 1) (.ix (.v 0) (.int 1))) (.ix (.v 0) (.int 0))) (.int 0))) .pass)⟩
def d_rest : Df := ⟨[false, false], 2, .seq (.cond (.cmp .lt (.v 0) (.int 0)) (.seq (.rse) .pass) (.pass)) (.seq (.cond (.eq (.v 0) (.int 0)) (.seq (.ret (.frz (.tup (.cons (.int 0) (.cons (.v 1) .nil))))) .pass) (.pass)) (.seq (.ret (.frz (.tup (.cons (.v 0) (.cons (.bin .mod (.v 1) (.v 0)) .nil))))) .pass))⟩
def d_rest_inside : Df := ⟨[false, false], 2, .seq (.cond (.not (.call F_rest_has (.cons (.v 1) (.cons (.ix (.v 0) (.int 1)) .nil)))) (.seq (.ret (.bl false)) .pass) (.pass)) (.seq (.cond (.eq (.ix (.v 1) (.int 0)) (.int 0)) (.seq (.ret (.eq (.ix (.v 0) (.int 0)) (.int 0))) .pass) (.pass)) (.seq (.ret (.eq (.bin .mod (.ix (.v 0) (.int 0)) (.ix (.v 1) (.int 0))) (.int 0))) .pass))⟩
def d_rest_joined : Df := ⟨[false, false], 3, .seq (.asg 2 (.call F_divisor (.cons (.bin .sub (.ix (.v 0) (.int 1)) (.ix (.v 1) (.int 1))) (.cons (.call F_divisor (.cons (.ix (.v 0) (.int 0)) (.cons (.ix (.v 1) (.int 0)) .nil))) .nil)))) (.seq (.ret (.frz (.call F_rest (.cons (.v 2) (.cons (.ix (.v 0) (.int 1)) .nil))))) .pass)⟩
def d_inverse : Df := ⟨[false, false], 8, .seq (.asg 2 (.v 1)) (.seq (.asg 3 (.bin .mod (.v 0) (.v 1))) (.seq (.asg 4 (.int 0)) (.seq (.asg 5 (.int 1)) (.seq (.whl [6, 7] (.ne (.v 3) (.int 0)) (.seq (.asg 6 (.bin .fdv (.v 2) (.v 3))) (.seq (.asg 7 (.bin .sub (.v 2) (.bin .mul (.v 6) (.v 3)))) (.seq (.asg 2 (.v 3)) (.seq (.asg 3 (.v 7)) (.seq (.asg 7 (.bin .sub (.v 4) (.bin .mul (.v 6) (.v 5)))) (.seq (.asg 4 (.v 5)) (.seq (.asg 5 (.v 7)) .pass)))))))) (.seq (.ret (.bin .mod (.v 4) (.v 1))) .pass)))))⟩
def d_rest_met : Df := ⟨[false, false], 5, .seq (.cond (.eq (.ix (.v 0) (.int 0)) (.int 0)) (.seq (.cond (.call F_rest_has (.cons (.v 1) (.cons (.ix (.v 0) (.int 1)) .nil))) (.seq (.ret (.v 0)) .pass) (.pass)) (.seq (.ret (.non)) .pass)) (.pass)) (.seq (.cond (.eq (.ix (.v 1) (.int 0)) (.int 0)) (.seq (.cond (.call F_rest_has (.cons (.v 0) (.cons (.ix (.v 1) (.int 1)) .nil))) (.seq (.ret (.v 1)) .pass) (.pass)) (.seq (.ret (.non)) .pass)) (.pass)) (.seq (.asg 2 (.call F_divisor (.cons (.ix (.v 0) (.int 0)) (.cons (.ix (.v 1) (.int 0)) .nil)))) (.seq (.asg 3 (.bin .sub (.ix (.v 1) (.int 1)) (.ix (.v 0) (.int 1)))) (.seq (.cond (.ne (.bin .mod (.v 3) (.v 2)) (.int 0)) (.seq (.ret (.non)) .pass) (.pass)) (.seq (.asg 4 (.bin .mul (.bin .fdv (.v 3) (.v 2)) (.call F_inverse (.cons (.bin .fdv (.ix (.v 0) (.int 0)) (.v 2)) (.cons (.bin .fdv (.ix (.v 1) (.int 0)) (.v 2)) .nil))))) (.seq (.ret (.frz (.call F_rest (.cons (.bin .mul (.bin .fdv (.ix (.v 0) (.int 0)) (.v 2)) (.ix (.v 1) (.int 0))) (.cons (.bin .add (.ix (.v 0) (.int 1)) (.bin .mul (.ix (.v 0) (.int 0)) (.bin .mod (.v 4) (.bin .fdv (.ix (.v 1) (.int 0)) (.v 2))))) .nil))))) .pass))))))⟩
def d_rest_plus : Df := ⟨[false, false], 2, .seq (.ret (.frz (.call F_rest (.cons (.call F_divisor (.cons (.ix (.v 0) (.int 0)) (.cons (.ix (.v 1) (.int 0)) .nil))) (.cons (.bin .add (.ix (.v 0) (.int 1)) (.ix (.v 1) (.int 1))) .nil))))) .pass⟩
def d_rest_times : Df := ⟨[false, false], 2, .seq (.ret (.frz (.call F_rest (.cons (.bin .mul (.ix (.v 0) (.int 0)) (.b1 .abs (.v 1))) (.cons (.bin .mul (.ix (.v 0) (.int 1)) (.v 1)) .nil))))) .pass⟩
def d_rest_parted : Df := ⟨[false, false], 2, .seq (.cond (.eq (.bin .mod (.ix (.v 0) (.int 0)) (.v 1)) (.int 0)) (.seq (.ret (.frz (.call F_rest (.cons (.bin .fdv (.ix (.v 0) (.int 0)) (.v 1)) (.cons (.bin .fdv (.ix (.v 0) (.int 1)) (.v 1)) .nil))))) .pass) (.pass)) (.seq (.ret (.frz (.tup (.cons (.int 1) (.cons (.int 0) .nil))))) .pass)⟩
def d_rest_rested : Df := ⟨[false, false], 3, .seq (.asg 2 (.call F_divisor (.cons (.ix (.v 0) (.int 0)) (.cons (.v 1) .nil)))) (.seq (.cond (.eq (.v 2) (.v 1)) (.seq (.ret (.frz (.tup (.cons (.int 0) (.cons (.bin .mod (.ix (.v 0) (.int 1)) (.v 1)) .nil))))) .pass) (.pass)) (.seq (.ret (.frz (.tup (.cons (.v 2) (.cons (.bin .mod (.ix (.v 0) (.int 1)) (.v 2)) .nil))))) .pass))⟩
def d_rest_loosened : Df := ⟨[false, false], 2, .seq (.ret (.frz (.call F_rest (.cons (.call F_divisor (.cons (.ix (.v 0) (.int 0)) (.cons (.v 1) .nil))) (.cons (.ix (.v 0) (.int 1)) .nil))))) .pass⟩
def d_rest_under : Df := ⟨[false, false], 2, .seq (.cond (.cmp .gt (.ix (.v 0) (.int 0)) (.int 0)) (.seq (.ret (.bin .sub (.v 1) (.bin .mod (.bin .sub (.v 1) (.ix (.v 0) (.int 1))) (.ix (.v 0) (.int 0))))) .pass) (.pass)) (.seq (.cond (.cmp .gt (.ix (.v 0) (.int 1)) (.v 1)) (.seq (.ret (.non)) .pass) (.pass)) (.seq (.ret (.frz (.ix (.v 0) (.int 1)))) .pass))⟩
def d_ask_box_x : Df := ⟨[false, false, false], 4, .seq (.asg 3 (.frz (.ix (.ix (.v 0) (.v 1)) (.int 0)))) (.seq (.cond (.or (.cmp .lt (.v 2) (.int 1)) (.cmp .gt (.v 2) (.ix (.ix (.v 0) (.v 1)) (.int 1)))) (.seq (.rs 4) .pass) (.pass)) (.seq (.cond (.and (.cmp .le (.v 2) (.v 3)) (.ne (.v 1) (.bin .sub (.b1 .len (.v 0)) (.int 1)))) (.seq (.rs 5) .pass) (.pass)) .pass))⟩
def d_ask_sum_x : Df := ⟨[false, false, false], 3, .seq (.cond (.ne (.b1 .len (.v 2)) (.bin .add (.ix (.ix (.v 0) (.v 1)) (.int 1)) (.int 1))) (.seq (.rs 6) .pass) (.pass)) .pass⟩
def d_ask_step_x : Df := ⟨[false], 1, .seq (.cond (.cmp .lt (.v 0) (.int 1)) (.seq (.rs 7) .pass) (.pass)) .pass⟩
def d_ask_claim_x : Df := ⟨[false, false, false], 3, .seq (.exX (.call F_ask_sum_x (.cons (.v 0) (.cons (.v 1) (.cons (.ix (.v 2) (.int 1)) .nil))))) (.seq (.cond (.eq (.ix (.v 2) (.int 0)) (.str "even")) (.seq (.exX (.call F_ask_step_x (.cons (.ix (.v 2) (.int 2)) .nil))) .pass) (.pass)) .pass)⟩
def d_ask_call_x : Df := ⟨[false, false, false], 4, .seq (.exX (.call F_ask_box_x (.cons (.v 0) (.cons (.v 1) (.cons (.ix (.v 2) (.int 1)) .nil))))) (.seq (.cond (.or (.cmp .lt (.ix (.v 2) (.int 2)) (.int 0)) (.cmp .ge (.ix (.v 2) (.int 2)) (.v 1))) (.seq (.rs 8) .pass) (.pass)) (.seq (.cond (.ne (.b1 .len (.ix (.v 2) (.int 3))) (.ix (.ix (.v 0) (.ix (.v 2) (.int 2))) (.int 0))) (.seq (.rs 8) .pass) (.pass)) (.seq (.for_ [3] [3] (.itr (.ix (.v 2) (.int 3))) (.seq (.exX (.call F_ask_sum_x (.cons (.v 0) (.cons (.v 1) (.cons (.v 3) .nil))))) .pass)) .pass)))⟩
def d_ask_statement_x : Df := ⟨[false, false, false], 5, .seq (.asg 3 (.frz (.ix (.v 2) (.int 0)))) (.seq (.cond (.or (.eq (.v 3) (.str "say")) (.or (.eq (.v 3) (.str "if")) (.eq (.v 3) (.str "while")))) (.seq (.exX (.call F_ask_claim_x (.cons (.v 0) (.cons (.v 1) (.cons (.ix (.v 2) (.int 1)) .nil))))) (.seq (.for_ [4] [4] (.itr (.sl (.v 2) (.int 2) .nil)) (.seq (.exX (.call F_ask_body_x (.cons (.v 0) (.cons (.v 1) (.cons (.v 4) .nil))))) .pass)) .pass)) (.seq (.cond (.eq (.v 3) (.str "call")) (.seq (.exX (.call F_ask_call_x (.cons (.v 0) (.cons (.v 1) (.cons (.v 2) .nil))))) .pass) (.seq (.exX (.call F_ask_box_x (.cons (.v 0) (.cons (.v 1) (.cons (.ix (.v 2) (.int 1)) .nil))))) (.seq (.cond (.eq (.v 3) (.str "any")) (.seq (.exX (.call F_stretch_x (.cons (.ix (.v 2) (.int 2)) (.cons (.ix (.v 2) (.int 3)) .nil)))) .pass) (.seq (.exX (.call F_ask_sum_x (.cons (.v 0) (.cons (.v 1) (.cons (.ix (.v 2) (.int 2)) .nil))))) (.seq (.cond (.ne (.v 3) (.str "set")) (.seq (.exX (.call F_ask_step_x (.cons (.ix (.v 2) (.int 3)) .nil))) .pass) (.pass)) .pass))) .pass))) .pass)) .pass)⟩
def d_ask_body_x : Df := ⟨[false, false, false], 4, .seq (.for_ [3] [3] (.itr (.v 2)) (.seq (.exX (.call F_ask_statement_x (.cons (.v 0) (.cons (.v 1) (.cons (.v 3) .nil))))) .pass)) .pass⟩
def d_well_made_x : Df := ⟨[false], 4, .seq (.cond (.eq (.b1 .len (.v 0)) (.int 0)) (.seq (.rs 3) .pass) (.pass)) (.seq (.for_ [1] [1, 2, 3] (.rng1 (.b1 .len (.v 0))) (.seq (.asg 2 (.frz (.ix (.ix (.v 0) (.v 1)) (.int 0)))) (.seq (.asg 3 (.frz (.ix (.ix (.v 0) (.v 1)) (.int 1)))) (.seq (.cond (.or (.cmp .lt (.v 3) (.int 1)) (.or (.cmp .lt (.v 2) (.int 0)) (.cmp .gt (.v 2) (.v 3)))) (.seq (.rs 3) .pass) (.pass)) (.seq (.exX (.call F_ask_body_x (.cons (.v 0) (.cons (.v 1) (.cons (.ix (.ix (.v 0) (.v 1)) (.int 2)) .nil))))) .pass))))) (.seq (.ret (.bl true)) .pass))⟩
def d__law_take_79a4 : Df := ⟨[true], 1, .seq (.st (.v 0) (.int 1) (.bin .add (.ix (.v 0) (.int 1)) (.int 1))) (.seq (.cond (.cmp .gt (.ix (.v 0) (.int 1)) (.b1 .len (.ix (.v 0) (.int 0)))) (.seq (.ret (.int 0)) .pass) (.pass)) (.seq (.ret (.frz (.ix (.ix (.v 0) (.int 0)) (.bin .sub (.ix (.v 0) (.int 1)) (.int 1))))) .pass))⟩
def d__law_draw_5153 : Df := ⟨[true, false], 2, .seq (.ret (.bin .mod (.bin .mod (.bin .mul (.call F__law_take_79a4 (.cons (.v 0) .nil)) (.int 48271)) (.int 1000003)) (.v 1))) .pass⟩
def d__law_number_bdb4 : Df := ⟨[true], 3, .seq (.asg 1 (.frz (.call F__law_take_79a4 (.cons (.v 0) .nil)))) (.seq (.asg 2 (.bin .mul (.bin .fdv (.v 1) (.int 5)) (.bin .pow (.int 48271) (.int 14)))) (.seq (.cond (.eq (.bin .mod (.v 1) (.int 5)) (.int 2)) (.seq (.ret (.bin .sub (.bin .mod (.v 2) (.bin .sub (.bin .mul (.int 2) (.bin .pow (.int 10) (.int 60))) (.int 1))) (.bin .sub (.bin .pow (.int 10) (.int 60)) (.int 1)))) .pass) (.pass)) (.seq (.cond (.eq (.bin .mod (.v 1) (.int 5)) (.int 3)) (.seq (.ret (.bin .sub (.bin .mod (.v 2) (.int 2001)) (.int 1000))) .pass) (.pass)) (.seq (.ret (.bin .sub (.bin .mod (.v 2) (.int 13)) (.int 6))) .pass))))⟩
def d__law_off : Df := ⟨[true, false], 2, .seq (.apq (.ix (.v 0) (.int 3)) (.v 1)) (.seq (.cond (.nin (.b1 .len (.ix (.v 0) (.int 3))) (.ix (.v 0) (.int 4))) (.seq (.ret (.bl false)) .pass) (.pass)) (.seq (.cond (.eq (.ix (.v 0) (.int 5)) (.str "")) (.seq (.st (.v 0) (.int 5) (.v 1)) .pass) (.pass)) (.seq (.ret (.bl true)) .pass)))⟩
def d__law_box_244c : Df := ⟨[true, false, false], 4, .seq (.cond (.call F__law_off (.cons (.v 0) (.cons (.str "NoBox") .nil))) (.seq (.ret (.frz (.ix (.lst (.cons (.int 0) (.cons (.bin .add (.ix (.v 1) (.int 1)) (.int 1)) (.cons (.neg (.int 1)) (.cons (.bin .add (.ix (.v 1) (.int 1)) (.int 7)) .nil))))) (.call F__law_draw_5153 (.cons (.v 0) (.cons (.int 4) .nil)))))) .pass) (.pass)) (.seq (.asg 3 (.int 1)) (.seq (.cond (.not (.v 2)) (.seq (.asg 3 (.frz (.bin .add (.ix (.v 1) (.int 0)) (.int 1)))) (.seq (.cond (.and (.cmp .gt (.ix (.v 1) (.int 0)) (.int 0)) (.call F__law_off (.cons (.v 0) (.cons (.str "FixedBox") .nil)))) (.seq (.ret (.bin .add (.int 1) (.call F__law_draw_5153 (.cons (.v 0) (.cons (.ix (.v 1) (.int 0)) .nil))))) .pass) (.pass)) .pass)) (.pass)) (.seq (.ret (.frz (.bin .add (.v 3) (.call F__law_draw_5153 (.cons (.v 0) (.cons (.bin .add (.bin .sub (.ix (.v 1) (.int 1)) (.v 3)) (.int 1)) .nil)))))) .pass)))⟩
def d__law_sum_8f62 : Df := ⟨[true, false], 6, .seq (.asg 2 (.frz (.ix (.v 1) (.int 1)))) (.seq (.cond (.call F__law_off (.cons (.v 0) (.cons (.str "NoSum") .nil))) (.seq (.asg 2 (.bin .sub (.bin .add (.v 2) (.bin .mul (.int 2) (.call F__law_draw_5153 (.cons (.v 0) (.cons (.int 2) .nil))))) (.int 1))) .pass) (.pass)) (.seq (.asg 3 (.lst (.cons (.call F__law_number_bdb4 (.cons (.v 0) .nil)) .nil))) (.seq (.asg 4 (.call F__law_draw_5153 (.cons (.v 0) (.cons (.int 1000000) .nil)))) (.seq (.for_ [5] [5] (.rng1 (.v 2)) (.seq (.app 3 (.ix (.lst (.cons (.int 0) (.cons (.int 1) (.cons (.neg (.int 1)) (.cons (.int 2) (.cons (.int 0) (.cons (.neg (.int 3)) (.cons (.int 1) (.cons (.bin .pow (.int 10) (.int 9)) .nil))))))))) (.bin .mod (.v 4) (.int 8)))) (.seq (.asg 4 (.bin .fdv (.v 4) (.int 8))) .pass))) (.seq (.ret (.v 3)) .pass)))))⟩
def d__law_step_a90e : Df := ⟨[true], 1, .seq (.cond (.call F__law_off (.cons (.v 0) (.cons (.str "NoStep") .nil))) (.seq (.ret (.frz (.ix (.lst (.cons (.int 0) (.cons (.bin .sub (.int 0) (.b1 .abs (.call F__law_number_bdb4 (.cons (.v 0) .nil)))) .nil))) (.call F__law_draw_5153 (.cons (.v 0) (.cons (.int 2) .nil)))))) .pass) (.pass)) (.seq (.ret (.bin .add (.int 1) (.b1 .abs (.call F__law_number_bdb4 (.cons (.v 0) .nil))))) .pass)⟩
def d__law_claim_850b : Df := ⟨[true, false], 4, .seq (.asg 2 (.frz (.ix (.lst (.cons (.str "under") (.cons (.str "same") (.cons (.str "even") .nil)))) (.call F__law_draw_5153 (.cons (.v 0) (.cons (.int 3) .nil)))))) (.seq (.asg 3 (.frz (.call F__law_sum_8f62 (.cons (.v 0) (.cons (.v 1) .nil))))) (.seq (.cond (.eq (.v 2) (.str "even")) (.seq (.ret (.frz (.tup (.cons (.v 2) (.cons (.v 3) (.cons (.call F__law_step_a90e (.cons (.v 0) .nil)) .nil)))))) .pass) (.pass)) (.seq (.ret (.frz (.tup (.cons (.v 2) (.cons (.v 3) .nil))))) .pass)))⟩
def d__law_any_40f3 : Df := ⟨[true, false, false], 7, .seq (.asg 3 (.frz (.call F__law_box_244c (.cons (.v 0) (.cons (.v 1) (.cons (.v 2) .nil)))))) (.seq (.asg 4 (.call F__law_number_bdb4 (.cons (.v 0) .nil))) (.seq (.asg 5 (.call F__law_number_bdb4 (.cons (.v 0) .nil))) (.seq (.cond (.cmp .gt (.v 4) (.v 5)) (.seq (.asg 6 (.v 4)) (.seq (.asg 4 (.v 5)) (.seq (.asg 5 (.v 6)) .pass))) (.pass)) (.seq (.cond (.call F__law_off (.cons (.v 0) (.cons (.str "NoStretch") .nil))) (.seq (.ret (.frz (.tup (.cons (.str "any") (.cons (.v 3) (.cons (.bin .add (.v 5) (.int 1)) (.cons (.bin .sub (.v 5) (.call F__law_draw_5153 (.cons (.v 0) (.cons (.int 2) .nil)))) .nil))))))) .pass) (.pass)) (.seq (.ret (.frz (.tup (.cons (.str "any") (.cons (.v 3) (.cons (.ix (.lst (.cons (.v 4) (.cons (.non) .nil))) (.bin .fdv (.call F__law_draw_5153 (.cons (.v 0) (.cons (.int 4) .nil))) (.int 3))) (.cons (.ix (.lst (.cons (.v 5) (.cons (.non) .nil))) (.bin .fdv (.call F__law_draw_5153 (.cons (.v 0) (.cons (.int 4) .nil))) (.int 3))) .nil))))))) .pass)))))⟩
def d__law_call_7e49 : Df := ⟨[true, false, false, false], 8, .seq (.asg 4 (.frz (.call F__law_box_244c (.cons (.v 0) (.cons (.v 2) (.cons (.v 3) .nil)))))) (.seq (.asg 5 (.call F__law_draw_5153 (.cons (.v 0) (.cons (.bn .max2 (.cons (.int 1) (.cons (.b1 .len (.v 1)) .nil))) .nil)))) (.seq (.cond (.or (.eq (.b1 .len (.v 1)) (.int 0)) (.call F__law_off (.cons (.v 0) (.cons (.str "NoCall") .nil)))) (.seq (.ret (.frz (.tup (.cons (.str "call") (.cons (.v 4) (.cons (.ix (.lst (.cons (.b1 .len (.v 1)) (.cons (.neg (.int 1)) (.cons (.bin .add (.b1 .len (.v 1)) (.int 1)) .nil)))) (.call F__law_draw_5153 (.cons (.v 0) (.cons (.int 3) .nil)))) (.cons (.lst (.nil)) .nil))))))) .pass) (.pass)) (.seq (.asg 6 (.frz (.ix (.ix (.v 1) (.v 5)) (.int 0)))) (.seq (.cond (.call F__law_off (.cons (.v 0) (.cons (.str "NoCall") .nil))) (.seq (.asg 6 (.frz (.bin .add (.v 6) (.ix (.lst (.cons (.int 1) (.cons (.neg (.int 1)) .nil))) (.bn .min2 (.cons (.v 6) (.cons (.call F__law_draw_5153 (.cons (.v 0) (.cons (.int 2) .nil))) .nil))))))) .pass) (.pass)) (.seq (.ret (.frz (.tup (.cons (.str "call") (.cons (.v 4) (.cons (.v 5) (.cons (.lc [7] (.rng1 (.v 6)) (.bl true) (.call F__law_sum_8f62 (.cons (.v 0) (.cons (.v 2) .nil)))) .nil))))))) .pass)))))⟩
def d__law_plain_ebbc : Df := ⟨[true, false, false, false, false], 7, .seq (.cond (.eq (.v 4) (.str "any")) (.seq (.ret (.frz (.call F__law_any_40f3 (.cons (.v 0) (.cons (.v 2) (.cons (.v 3) .nil)))))) .pass) (.pass)) (.seq (.cond (.eq (.v 4) (.str "call")) (.seq (.ret (.frz (.call F__law_call_7e49 (.cons (.v 0) (.cons (.v 1) (.cons (.v 2) (.cons (.v 3) .nil))))))) .pass) (.pass)) (.seq (.asg 5 (.frz (.call F__law_box_244c (.cons (.v 0) (.cons (.v 2) (.cons (.v 3) .nil)))))) (.seq (.asg 6 (.frz (.call F__law_sum_8f62 (.cons (.v 0) (.cons (.v 2) .nil))))) (.seq (.cond (.eq (.v 4) (.str "set")) (.seq (.ret (.frz (.tup (.cons (.str "set") (.cons (.v 5) (.cons (.v 6) .nil)))))) .pass) (.pass)) (.seq (.ret (.frz (.tup (.cons (.v 4) (.cons (.v 5) (.cons (.v 6) (.cons (.call F__law_step_a90e (.cons (.v 0) .nil)) .nil))))))) .pass)))))⟩
def d__law_statement_9a11 : Df := ⟨[true, false, false, false, false], 8, .seq (.st (.v 0) (.int 2) (.bin .sub (.ix (.v 0) (.int 2)) (.int 1))) (.seq (.asg 5 (.frz (.ix (.lst (.cons (.str "set") (.cons (.str "part") (.cons (.str "rest") (.cons (.str "any") (.cons (.str "call") (.cons (.str "say") (.cons (.str "if") (.cons (.str "while") .nil))))))))) (.call F__law_draw_5153 (.cons (.v 0) (.cons (.int 8) .nil)))))) (.seq (.cond (.and (.eq (.ix (.v 2) (.int 0)) (.ix (.v 2) (.int 1))) (.not (.v 3))) (.seq (.asg 5 (.frz (.ix (.lst (.cons (.str "say") (.cons (.str "if") (.cons (.str "while") .nil)))) (.call F__law_draw_5153 (.cons (.v 0) (.cons (.int 3) .nil)))))) .pass) (.pass)) (.seq (.cond (.and (.eq (.v 5) (.str "call")) (.eq (.b1 .len (.v 1)) (.int 0))) (.seq (.asg 5 (.str "set")) .pass) (.pass)) (.seq (.cond (.and (.eq (.v 4) (.int 4)) (.or (.eq (.v 5) (.str "if")) (.eq (.v 5) (.str "while")))) (.seq (.asg 5 (.str "say")) .pass) (.pass)) (.seq (.cond (.eq (.v 5) (.str "say")) (.seq (.ret (.frz (.tup (.cons (.str "say") (.cons (.call F__law_claim_850b (.cons (.v 0) (.cons (.v 2) .nil))) .nil))))) .pass) (.pass)) (.seq (.cond (.eq (.v 5) (.str "while")) (.seq (.ret (.frz (.tup (.cons (.str "while") (.cons (.call F__law_claim_850b (.cons (.v 0) (.cons (.v 2) .nil))) (.cons (.call F__law_body_9a11 (.cons (.v 0) (.cons (.v 1) (.cons (.v 2) (.cons (.v 3) (.cons (.bin .add (.v 4) (.int 1)) .nil)))))) .nil)))))) .pass) (.pass)) (.seq (.cond (.eq (.v 5) (.str "if")) (.seq (.asg 6 (.frz (.call F__law_claim_850b (.cons (.v 0) (.cons (.v 2) .nil))))) (.seq (.asg 7 (.frz (.call F__law_body_9a11 (.cons (.v 0) (.cons (.v 1) (.cons (.v 2) (.cons (.v 3) (.cons (.bin .add (.v 4) (.int 1)) .nil)))))))) (.seq (.ret (.frz (.tup (.cons (.str "if") (.cons (.v 6) (.cons (.v 7) (.cons (.call F__law_body_9a11 (.cons (.v 0) (.cons (.v 1) (.cons (.v 2) (.cons (.v 3) (.cons (.bin .add (.v 4) (.int 1)) .nil)))))) .nil))))))) .pass))) (.pass)) (.seq (.ret (.frz (.call F__law_plain_ebbc (.cons (.v 0) (.cons (.v 1) (.cons (.v 2) (.cons (.v 3) (.cons (.v 5) .nil)))))))) .pass))))))))⟩
def d__law_body_9a11 : Df := ⟨[true, false, false, false, false], 7, .seq (.asg 5 (.lst (.nil))) (.seq (.for_ [6] [6] (.rng1 (.bin .sub (.bin .add (.int 1) (.call F__law_draw_5153 (.cons (.v 0) (.cons (.int 4) .nil)))) (.bn .min2 (.cons (.int 1) (.cons (.v 4) .nil))))) (.seq (.cond (.cmp .gt (.ix (.v 0) (.int 2)) (.int 0)) (.seq (.app 5 (.call F__law_statement_9a11 (.cons (.v 0) (.cons (.v 1) (.cons (.v 2) (.cons (.v 3) (.cons (.v 4) .nil))))))) .pass) (.pass)) .pass)) (.seq (.ret (.frz (.v 5))) .pass))⟩
def d__law_program_0e2d : Df := ⟨[true], 8, .seq (.asg 1 (.lst (.nil))) (.seq (.asg 2 (.bin .add (.int 1) (.call F__law_draw_5153 (.cons (.v 0) (.cons (.int 5) .nil))))) (.seq (.for_ [3] [3, 4, 5, 6, 7] (.rng1 (.v 2)) (.seq (.asg 4 (.bin .add (.int 1) (.call F__law_draw_5153 (.cons (.v 0) (.cons (.int 4) .nil))))) (.seq (.asg 5 (.frz (.lst (.cons (.call F__law_draw_5153 (.cons (.v 0) (.cons (.bin .add (.v 4) (.int 1)) .nil))) (.cons (.v 4) .nil))))) (.seq (.asg 6 (.call F__law_off (.cons (.v 0) (.cons (.str "NoShape") .nil)))) (.seq (.asg 7 (.frz (.call F__law_body_9a11 (.cons (.v 0) (.cons (.b1 .list (.v 1)) (.cons (.v 5) (.cons (.eq (.v 3) (.bin .sub (.v 2) (.int 1))) (.cons (.int 0) .nil)))))))) (.seq (.cond (.v 6) (.seq (.asg 5 (.frz (.ix (.lst (.cons (.lst (.cons (.neg (.int 1)) (.cons (.v 4) .nil))) (.cons (.lst (.cons (.bin .add (.v 4) (.int 1)) (.cons (.v 4) .nil))) (.cons (.lst (.cons (.int 0) (.cons (.int 0) .nil))) .nil)))) (.call F__law_draw_5153 (.cons (.v 0) (.cons (.int 3) .nil)))))) .pass) (.pass)) (.seq (.app 1 (.tup (.cons (.ix (.v 5) (.int 0)) (.cons (.ix (.v 5) (.int 1)) (.cons (.v 7) .nil))))) .pass))))))) (.seq (.ret (.frz (.v 1))) .pass)))⟩
def d__law_copy_1206_f : Df := ⟨[false], 2, .seq (.cond (.b1 .isList (.v 0)) (.seq (.ret (.frz (.lc [1] (.itr (.v 0)) (.bl true) (.call F__law_copy_1206_f (.cons (.v 1) .nil))))) .pass) (.pass)) (.seq (.cond (.b1 .isTuple (.v 0)) (.seq (.ret (.frz (.b1 .tuple (.lc [1] (.itr (.v 0)) (.bl true) (.call F__law_copy_1206_f (.cons (.v 1) .nil)))))) .pass) (.pass)) (.seq (.ret (.v 0)) .pass))⟩
def d__law_refusal : Df := ⟨[false], 3, .seq (.asg 1 (.frz (.tup (.cons (.str "") (.cons (.bl false) .nil))))) (.seq (.tri (.seq (.asgX 1 (.tup (.cons (.str "") (.cons (.call F_well_made_x (.cons (.v 0) .nil)) .nil)))) .pass) (.cons (.hd 3 2 (.seq (.asg 1 (.tup (.cons (.str "NoShape") (.cons (.not (.isxs 2 [4, 5, 6, 7, 1, 8])) .nil)))) (.pass))) (.cons (.hd 4 2 (.seq (.asg 1 (.tup (.cons (.str "NoBox") (.cons (.not (.isxs 2 [3, 5, 6, 7, 1, 8])) .nil)))) (.pass))) (.cons (.hd 5 2 (.seq (.asg 1 (.tup (.cons (.str "FixedBox") (.cons (.not (.isxs 2 [4, 3, 6, 7, 1, 8])) .nil)))) (.pass))) (.cons (.hd 6 2 (.seq (.asg 1 (.tup (.cons (.str "NoSum") (.cons (.not (.isxs 2 [4, 5, 3, 7, 1, 8])) .nil)))) (.pass))) (.cons (.hd 7 2 (.seq (.asg 1 (.tup (.cons (.str "NoStep") (.cons (.not (.isxs 2 [4, 5, 6, 3, 1, 8])) .nil)))) (.pass))) (.cons (.hd 1 2 (.seq (.asg 1 (.tup (.cons (.str "NoStretch") (.cons (.not (.isxs 2 [4, 5, 6, 7, 3, 8])) .nil)))) (.pass))) (.cons (.hd 8 2 (.seq (.asg 1 (.tup (.cons (.str "NoCall") (.cons (.not (.isxs 2 [4, 5, 6, 7, 1, 3])) .nil)))) (.pass))) (.nil))))))))) (.seq (.ret (.frz (.v 1))) .pass))⟩
def d__law_under_base : Df := ⟨[false], 3, .seq (.asg 1 (.bl false)) (.seq (.tri (.seq (.exX (.call F_well_made_x (.cons (.v 0) .nil))) .pass) (.cons (.hd 0 2 (.seq (.asg 1 (.isx 2 11)) (.pass))) (.nil))) (.seq (.ret (.v 1)) .pass))⟩
def d__law_spots_o : Df := ⟨[false, false], 8, .seq (.asg 2 (.lst (.nil))) (.seq (.for_ [3] [3, 4, 5, 6] (.itr (.sl (.v 0) .nil (.int 2))) (.seq (.asg 4 (.bin .mod (.bin .mul (.v 3) (.int 48271)) (.int 1000003))) (.seq (.asg 5 (.frz (.ix (.lst (.cons (.str "NoShape") (.cons (.str "NoBox") (.cons (.str "FixedBox") (.cons (.str "NoSum") (.cons (.str "NoStep") (.cons (.str "NoStretch") (.cons (.str "NoCall") .nil)))))))) (.bin .mod (.v 4) (.int 7))))) (.seq (.asg 6 (.frz (.lc [7] (.rng1 (.b1 .len (.v 1))) (.eq (.ix (.v 1) (.v 7)) (.v 5)) (.bin .add (.v 7) (.int 1))))) (.seq (.cond (.and (.cmp .gt (.b1 .len (.v 6)) (.int 0)) (.cmp .gt (.bin .mod (.bin .fdv (.v 4) (.int 7)) (.int 8)) (.int 0))) (.seq (.app 2 (.ix (.v 6) (.bin .mod (.bin .fdv (.v 4) (.int 56)) (.b1 .len (.v 6))))) .pass) (.pass)) .pass))))) (.seq (.ret (.v 2)) .pass))⟩
def P0 : Nat → Df
  | 0 => d_divisor
  | 5 => d_stretch_x
  | _ => ⟨[], 0, .pass⟩
def N0 : Nat → Str
  | 0 => "divisor"
  | 5 => "stretch"
  | _ => ""
def P1 : Nat → Df
  | 5 => d_rest_has
  | 9 => d_rest
  | 10 => d_rest_inside
  | 11 => d_rest_joined
  | 12 => d_inverse
  | 13 => d_rest_met
  | 20 => d_rest_plus
  | 21 => d_rest_times
  | 22 => d_rest_parted
  | 23 => d_rest_rested
  | 24 => d_rest_loosened
  | 30 => d_rest_under
  | _ => ⟨[], 0, .pass⟩
def N1 : Nat → Str
  | 5 => "rest_has"
  | 9 => "rest"
  | 10 => "rest_inside"
  | 11 => "rest_joined"
  | 12 => "inverse"
  | 13 => "rest_met"
  | 20 => "rest_plus"
  | 21 => "rest_times"
  | 22 => "rest_parted"
  | 23 => "rest_rested"
  | 24 => "rest_loosened"
  | 30 => "rest_under"
  | _ => ""
def P2 : Nat → Df
  | 12 => d_ask_box_x
  | 13 => d_ask_sum_x
  | 14 => d_ask_step_x
  | 15 => d_ask_claim_x
  | 16 => d_ask_call_x
  | 17 => d_ask_statement_x
  | 18 => d_ask_body_x
  | 19 => d_well_made_x
  | 20 => d__law_take_79a4
  | 21 => d__law_draw_5153
  | 22 => d__law_number_bdb4
  | 23 => d__law_off
  | 24 => d__law_box_244c
  | 25 => d__law_sum_8f62
  | 26 => d__law_step_a90e
  | 27 => d__law_claim_850b
  | 28 => d__law_any_40f3
  | 29 => d__law_call_7e49
  | 30 => d__law_plain_ebbc
  | 31 => d__law_statement_9a11
  | _ => ⟨[], 0, .pass⟩
def N2 : Nat → Str
  | 12 => "ask_box"
  | 13 => "ask_sum"
  | 14 => "ask_step"
  | 15 => "ask_claim"
  | 16 => "ask_call"
  | 17 => "ask_statement"
  | 18 => "ask_body"
  | 19 => "well_made"
  | 20 => "_law_take"
  | 21 => "_law_draw"
  | 22 => "_law_number"
  | 23 => "_law_off"
  | 24 => "_law_box"
  | 25 => "_law_sum"
  | 26 => "_law_step"
  | 27 => "_law_claim"
  | 28 => "_law_any"
  | 29 => "_law_call"
  | 30 => "_law_plain"
  | 31 => "_law_statement"
  | _ => ""
def P3 : Nat → Df
  | 0 => d__law_body_9a11
  | 1 => d__law_program_0e2d
  | 2 => d__law_copy_1206_f
  | 3 => d__law_refusal
  | 4 => d__law_under_base
  | 5 => d__law_spots_o
  | _ => ⟨[], 0, .pass⟩
def N3 : Nat → Str
  | 0 => "_law_body"
  | 1 => "_law_program"
  | 2 => "_law_copy"
  | 3 => "_law_refusal"
  | 4 => "_law_under_base"
  | 5 => "_law_spots"
  | _ => ""
def P (i : Nat) : Df := match i / 32 with
  | 0 => P0 (i % 32)
  | 1 => P1 (i % 32)
  | 2 => P2 (i % 32)
  | 3 => P3 (i % 32)
  | _ => ⟨[], 0, .pass⟩
def fnm (i : Nat) : Str := match i / 32 with
  | 0 => N0 (i % 32)
  | 1 => N1 (i % 32)
  | 2 => N2 (i % 32)
  | 3 => N3 (i % 32)
  | _ => ""
@[simp] theorem P_divisor : P 0 = d_divisor := rfl
@[simp] theorem io_divisor : (d_divisor).io = [false, false] := rfl
@[simp] theorem P_stretch_x : P 5 = d_stretch_x := rfl
@[simp] theorem io_stretch_x : (d_stretch_x).io = [false, false] := rfl
@[simp] theorem P_rest_has : P 37 = d_rest_has := rfl
@[simp] theorem io_rest_has : (d_rest_has).io = [false, false] := rfl
@[simp] theorem P_rest : P 41 = d_rest := rfl
@[simp] theorem io_rest : (d_rest).io = [false, false] := rfl
@[simp] theorem P_rest_inside : P 42 = d_rest_inside := rfl
@[simp] theorem io_rest_inside : (d_rest_inside).io = [false, false] := rfl
@[simp] theorem P_rest_joined : P 43 = d_rest_joined := rfl
@[simp] theorem io_rest_joined : (d_rest_joined).io = [false, false] := rfl
@[simp] theorem P_inverse : P 44 = d_inverse := rfl
@[simp] theorem io_inverse : (d_inverse).io = [false, false] := rfl
@[simp] theorem P_rest_met : P 45 = d_rest_met := rfl
@[simp] theorem io_rest_met : (d_rest_met).io = [false, false] := rfl
@[simp] theorem P_rest_plus : P 52 = d_rest_plus := rfl
@[simp] theorem io_rest_plus : (d_rest_plus).io = [false, false] := rfl
@[simp] theorem P_rest_times : P 53 = d_rest_times := rfl
@[simp] theorem io_rest_times : (d_rest_times).io = [false, false] := rfl
@[simp] theorem P_rest_parted : P 54 = d_rest_parted := rfl
@[simp] theorem io_rest_parted : (d_rest_parted).io = [false, false] := rfl
@[simp] theorem P_rest_rested : P 55 = d_rest_rested := rfl
@[simp] theorem io_rest_rested : (d_rest_rested).io = [false, false] := rfl
@[simp] theorem P_rest_loosened : P 56 = d_rest_loosened := rfl
@[simp] theorem io_rest_loosened : (d_rest_loosened).io = [false, false] := rfl
@[simp] theorem P_rest_under : P 62 = d_rest_under := rfl
@[simp] theorem io_rest_under : (d_rest_under).io = [false, false] := rfl
@[simp] theorem P_ask_box_x : P 76 = d_ask_box_x := rfl
@[simp] theorem io_ask_box_x : (d_ask_box_x).io = [false, false, false] := rfl
@[simp] theorem P_ask_sum_x : P 77 = d_ask_sum_x := rfl
@[simp] theorem io_ask_sum_x : (d_ask_sum_x).io = [false, false, false] := rfl
@[simp] theorem P_ask_step_x : P 78 = d_ask_step_x := rfl
@[simp] theorem io_ask_step_x : (d_ask_step_x).io = [false] := rfl
@[simp] theorem P_ask_claim_x : P 79 = d_ask_claim_x := rfl
@[simp] theorem io_ask_claim_x : (d_ask_claim_x).io = [false, false, false] := rfl
@[simp] theorem P_ask_call_x : P 80 = d_ask_call_x := rfl
@[simp] theorem io_ask_call_x : (d_ask_call_x).io = [false, false, false] := rfl
@[simp] theorem P_ask_statement_x : P 81 = d_ask_statement_x := rfl
@[simp] theorem io_ask_statement_x : (d_ask_statement_x).io = [false, false, false] := rfl
@[simp] theorem P_ask_body_x : P 82 = d_ask_body_x := rfl
@[simp] theorem io_ask_body_x : (d_ask_body_x).io = [false, false, false] := rfl
@[simp] theorem P_well_made_x : P 83 = d_well_made_x := rfl
@[simp] theorem io_well_made_x : (d_well_made_x).io = [false] := rfl
@[simp] theorem P__law_take_79a4 : P 84 = d__law_take_79a4 := rfl
@[simp] theorem io__law_take_79a4 : (d__law_take_79a4).io = [true] := rfl
@[simp] theorem P__law_draw_5153 : P 85 = d__law_draw_5153 := rfl
@[simp] theorem io__law_draw_5153 : (d__law_draw_5153).io = [true, false] := rfl
@[simp] theorem P__law_number_bdb4 : P 86 = d__law_number_bdb4 := rfl
@[simp] theorem io__law_number_bdb4 : (d__law_number_bdb4).io = [true] := rfl
@[simp] theorem P__law_off : P 87 = d__law_off := rfl
@[simp] theorem io__law_off : (d__law_off).io = [true, false] := rfl
@[simp] theorem P__law_box_244c : P 88 = d__law_box_244c := rfl
@[simp] theorem io__law_box_244c : (d__law_box_244c).io = [true, false, false] := rfl
@[simp] theorem P__law_sum_8f62 : P 89 = d__law_sum_8f62 := rfl
@[simp] theorem io__law_sum_8f62 : (d__law_sum_8f62).io = [true, false] := rfl
@[simp] theorem P__law_step_a90e : P 90 = d__law_step_a90e := rfl
@[simp] theorem io__law_step_a90e : (d__law_step_a90e).io = [true] := rfl
@[simp] theorem P__law_claim_850b : P 91 = d__law_claim_850b := rfl
@[simp] theorem io__law_claim_850b : (d__law_claim_850b).io = [true, false] := rfl
@[simp] theorem P__law_any_40f3 : P 92 = d__law_any_40f3 := rfl
@[simp] theorem io__law_any_40f3 : (d__law_any_40f3).io = [true, false, false] := rfl
@[simp] theorem P__law_call_7e49 : P 93 = d__law_call_7e49 := rfl
@[simp] theorem io__law_call_7e49 : (d__law_call_7e49).io = [true, false, false, false] := rfl
@[simp] theorem P__law_plain_ebbc : P 94 = d__law_plain_ebbc := rfl
@[simp] theorem io__law_plain_ebbc : (d__law_plain_ebbc).io = [true, false, false, false, false] := rfl
@[simp] theorem P__law_statement_9a11 : P 95 = d__law_statement_9a11 := rfl
@[simp] theorem io__law_statement_9a11 : (d__law_statement_9a11).io = [true, false, false, false, false] := rfl
@[simp] theorem P__law_body_9a11 : P 96 = d__law_body_9a11 := rfl
@[simp] theorem io__law_body_9a11 : (d__law_body_9a11).io = [true, false, false, false, false] := rfl
@[simp] theorem P__law_program_0e2d : P 97 = d__law_program_0e2d := rfl
@[simp] theorem io__law_program_0e2d : (d__law_program_0e2d).io = [true] := rfl
@[simp] theorem P__law_copy_1206_f : P 98 = d__law_copy_1206_f := rfl
@[simp] theorem io__law_copy_1206_f : (d__law_copy_1206_f).io = [false] := rfl
@[simp] theorem P__law_refusal : P 99 = d__law_refusal := rfl
@[simp] theorem io__law_refusal : (d__law_refusal).io = [false] := rfl
@[simp] theorem P__law_under_base : P 100 = d__law_under_base := rfl
@[simp] theorem io__law_under_base : (d__law_under_base).io = [false] := rfl
@[simp] theorem P__law_spots_o : P 101 = d__law_spots_o := rfl
@[simp] theorem io__law_spots_o : (d__law_spots_o).io = [false, false] := rfl
end Sr
set_option Elab.async false
set_option linter.all false
set_option maxRecDepth 100000
set_option maxHeartbeats 4000000
namespace Sr
open PySem PySem.Spec PyProof.Rows L2
def d_law : Df := ⟨[false], 5, .seq (.asg 1 (.lst (.cons (.sl (.v 0) (.int 2) .nil) (.cons (.int 0) (.cons (.int 30) (.cons (.lst (.nil)) (.cons (.lst (.nil)) (.cons (.str "") .nil)))))))) (.seq (.ex (.call F__law_program_0e2d (.cons (.v 1) .nil))) (.seq (.asg 1 (.lst (.cons (.sl (.v 0) (.int 2) .nil) (.cons (.int 0) (.cons (.int 30) (.cons (.lst (.nil)) (.cons (.lend (.call F__law_spots_o (.cons (.v 0) (.cons (.ix (.v 1) (.int 3)) .nil)))) (.cons (.str "") .nil)))))))) (.seq (.asg 2 (.frz (.call F__law_program_0e2d (.cons (.v 1) .nil)))) (.seq (.cond (.and (.cmp .gt (.b1 .len (.v 0)) (.int 0)) (.eq (.bin .mod (.ix (.v 0) (.int 0)) (.int 9)) (.int 4))) (.seq (.asg 2 (.frz (.lst (.nil)))) (.seq (.st (.v 1) (.int 5) (.str "NoShape")) .pass)) (.pass)) (.seq (.asg 3 (.frz (.call F__law_copy_1206_f (.cons (.v 2) .nil)))) (.seq (.asg 4 (.frz (.call F__law_refusal (.cons (.v 3) .nil)))) (.seq (.cond (.or (.ne (.ix (.v 4) (.int 0)) (.ix (.v 1) (.int 5))) (.or (.isT true true (.ix (.v 4) (.int 1))) (.ne (.v 3) (.v 2)))) (.seq (.ret (.bl false)) .pass) (.pass)) (.seq (.ret (.or (.eq (.ix (.v 1) (.int 5)) (.str "")) (.call F__law_under_base (.cons (.v 3) .nil)))) .pass))))))))⟩
@[simp] theorem io_law : (d_law).io = [false] := rfl
end Sr
set_option Elab.async false
set_option linter.all false
namespace Sr
open PySem PySem.Spec PyProof.Rows L2
@[simp] theorem wx_0_1 : ((("if" : Str) = ("while" : Str)) = False) := by decide
@[simp] theorem wx_0_2 : ((("if" : Str) = ("set" : Str)) = False) := by decide
@[simp] theorem wx_0_3 : ((("if" : Str) = ("part" : Str)) = False) := by decide
@[simp] theorem wx_0_4 : ((("if" : Str) = ("rest" : Str)) = False) := by decide
@[simp] theorem wx_0_5 : ((("if" : Str) = ("any" : Str)) = False) := by decide
@[simp] theorem wx_0_6 : ((("if" : Str) = ("call" : Str)) = False) := by decide
@[simp] theorem wx_0_7 : ((("if" : Str) = ("say" : Str)) = False) := by decide
@[simp] theorem wx_0_8 : ((("if" : Str) = ("when" : Str)) = False) := by decide
@[simp] theorem wx_0_9 : ((("if" : Str) = ("go" : Str)) = False) := by decide
@[simp] theorem wx_0_10 : ((("if" : Str) = ("under" : Str)) = False) := by decide
@[simp] theorem wx_0_11 : ((("if" : Str) = ("same" : Str)) = False) := by decide
@[simp] theorem wx_0_12 : ((("if" : Str) = ("even" : Str)) = False) := by decide
@[simp] theorem wx_1_0 : ((("while" : Str) = ("if" : Str)) = False) := by decide
@[simp] theorem wx_1_2 : ((("while" : Str) = ("set" : Str)) = False) := by decide
@[simp] theorem wx_1_3 : ((("while" : Str) = ("part" : Str)) = False) := by decide
@[simp] theorem wx_1_4 : ((("while" : Str) = ("rest" : Str)) = False) := by decide
@[simp] theorem wx_1_5 : ((("while" : Str) = ("any" : Str)) = False) := by decide
@[simp] theorem wx_1_6 : ((("while" : Str) = ("call" : Str)) = False) := by decide
@[simp] theorem wx_1_7 : ((("while" : Str) = ("say" : Str)) = False) := by decide
@[simp] theorem wx_1_8 : ((("while" : Str) = ("when" : Str)) = False) := by decide
@[simp] theorem wx_1_9 : ((("while" : Str) = ("go" : Str)) = False) := by decide
@[simp] theorem wx_1_10 : ((("while" : Str) = ("under" : Str)) = False) := by decide
@[simp] theorem wx_1_11 : ((("while" : Str) = ("same" : Str)) = False) := by decide
@[simp] theorem wx_1_12 : ((("while" : Str) = ("even" : Str)) = False) := by decide
@[simp] theorem wx_2_0 : ((("set" : Str) = ("if" : Str)) = False) := by decide
@[simp] theorem wx_2_1 : ((("set" : Str) = ("while" : Str)) = False) := by decide
@[simp] theorem wx_2_3 : ((("set" : Str) = ("part" : Str)) = False) := by decide
@[simp] theorem wx_2_4 : ((("set" : Str) = ("rest" : Str)) = False) := by decide
@[simp] theorem wx_2_5 : ((("set" : Str) = ("any" : Str)) = False) := by decide
@[simp] theorem wx_2_6 : ((("set" : Str) = ("call" : Str)) = False) := by decide
@[simp] theorem wx_2_7 : ((("set" : Str) = ("say" : Str)) = False) := by decide
@[simp] theorem wx_2_8 : ((("set" : Str) = ("when" : Str)) = False) := by decide
@[simp] theorem wx_2_9 : ((("set" : Str) = ("go" : Str)) = False) := by decide
@[simp] theorem wx_2_10 : ((("set" : Str) = ("under" : Str)) = False) := by decide
@[simp] theorem wx_2_11 : ((("set" : Str) = ("same" : Str)) = False) := by decide
@[simp] theorem wx_2_12 : ((("set" : Str) = ("even" : Str)) = False) := by decide
@[simp] theorem wx_3_0 : ((("part" : Str) = ("if" : Str)) = False) := by decide
@[simp] theorem wx_3_1 : ((("part" : Str) = ("while" : Str)) = False) := by decide
@[simp] theorem wx_3_2 : ((("part" : Str) = ("set" : Str)) = False) := by decide
@[simp] theorem wx_3_4 : ((("part" : Str) = ("rest" : Str)) = False) := by decide
@[simp] theorem wx_3_5 : ((("part" : Str) = ("any" : Str)) = False) := by decide
@[simp] theorem wx_3_6 : ((("part" : Str) = ("call" : Str)) = False) := by decide
@[simp] theorem wx_3_7 : ((("part" : Str) = ("say" : Str)) = False) := by decide
@[simp] theorem wx_3_8 : ((("part" : Str) = ("when" : Str)) = False) := by decide
@[simp] theorem wx_3_9 : ((("part" : Str) = ("go" : Str)) = False) := by decide
@[simp] theorem wx_3_10 : ((("part" : Str) = ("under" : Str)) = False) := by decide
@[simp] theorem wx_3_11 : ((("part" : Str) = ("same" : Str)) = False) := by decide
@[simp] theorem wx_3_12 : ((("part" : Str) = ("even" : Str)) = False) := by decide
@[simp] theorem wx_4_0 : ((("rest" : Str) = ("if" : Str)) = False) := by decide
@[simp] theorem wx_4_1 : ((("rest" : Str) = ("while" : Str)) = False) := by decide
@[simp] theorem wx_4_2 : ((("rest" : Str) = ("set" : Str)) = False) := by decide
@[simp] theorem wx_4_3 : ((("rest" : Str) = ("part" : Str)) = False) := by decide
@[simp] theorem wx_4_5 : ((("rest" : Str) = ("any" : Str)) = False) := by decide
@[simp] theorem wx_4_6 : ((("rest" : Str) = ("call" : Str)) = False) := by decide
@[simp] theorem wx_4_7 : ((("rest" : Str) = ("say" : Str)) = False) := by decide
@[simp] theorem wx_4_8 : ((("rest" : Str) = ("when" : Str)) = False) := by decide
@[simp] theorem wx_4_9 : ((("rest" : Str) = ("go" : Str)) = False) := by decide
@[simp] theorem wx_4_10 : ((("rest" : Str) = ("under" : Str)) = False) := by decide
@[simp] theorem wx_4_11 : ((("rest" : Str) = ("same" : Str)) = False) := by decide
@[simp] theorem wx_4_12 : ((("rest" : Str) = ("even" : Str)) = False) := by decide
@[simp] theorem wx_5_0 : ((("any" : Str) = ("if" : Str)) = False) := by decide
@[simp] theorem wx_5_1 : ((("any" : Str) = ("while" : Str)) = False) := by decide
@[simp] theorem wx_5_2 : ((("any" : Str) = ("set" : Str)) = False) := by decide
@[simp] theorem wx_5_3 : ((("any" : Str) = ("part" : Str)) = False) := by decide
@[simp] theorem wx_5_4 : ((("any" : Str) = ("rest" : Str)) = False) := by decide
@[simp] theorem wx_5_6 : ((("any" : Str) = ("call" : Str)) = False) := by decide
@[simp] theorem wx_5_7 : ((("any" : Str) = ("say" : Str)) = False) := by decide
@[simp] theorem wx_5_8 : ((("any" : Str) = ("when" : Str)) = False) := by decide
@[simp] theorem wx_5_9 : ((("any" : Str) = ("go" : Str)) = False) := by decide
@[simp] theorem wx_5_10 : ((("any" : Str) = ("under" : Str)) = False) := by decide
@[simp] theorem wx_5_11 : ((("any" : Str) = ("same" : Str)) = False) := by decide
@[simp] theorem wx_5_12 : ((("any" : Str) = ("even" : Str)) = False) := by decide
@[simp] theorem wx_6_0 : ((("call" : Str) = ("if" : Str)) = False) := by decide
@[simp] theorem wx_6_1 : ((("call" : Str) = ("while" : Str)) = False) := by decide
@[simp] theorem wx_6_2 : ((("call" : Str) = ("set" : Str)) = False) := by decide
@[simp] theorem wx_6_3 : ((("call" : Str) = ("part" : Str)) = False) := by decide
@[simp] theorem wx_6_4 : ((("call" : Str) = ("rest" : Str)) = False) := by decide
@[simp] theorem wx_6_5 : ((("call" : Str) = ("any" : Str)) = False) := by decide
@[simp] theorem wx_6_7 : ((("call" : Str) = ("say" : Str)) = False) := by decide
@[simp] theorem wx_6_8 : ((("call" : Str) = ("when" : Str)) = False) := by decide
@[simp] theorem wx_6_9 : ((("call" : Str) = ("go" : Str)) = False) := by decide
@[simp] theorem wx_6_10 : ((("call" : Str) = ("under" : Str)) = False) := by decide
@[simp] theorem wx_6_11 : ((("call" : Str) = ("same" : Str)) = False) := by decide
@[simp] theorem wx_6_12 : ((("call" : Str) = ("even" : Str)) = False) := by decide
@[simp] theorem wx_7_0 : ((("say" : Str) = ("if" : Str)) = False) := by decide
@[simp] theorem wx_7_1 : ((("say" : Str) = ("while" : Str)) = False) := by decide
@[simp] theorem wx_7_2 : ((("say" : Str) = ("set" : Str)) = False) := by decide
@[simp] theorem wx_7_3 : ((("say" : Str) = ("part" : Str)) = False) := by decide
@[simp] theorem wx_7_4 : ((("say" : Str) = ("rest" : Str)) = False) := by decide
@[simp] theorem wx_7_5 : ((("say" : Str) = ("any" : Str)) = False) := by decide
@[simp] theorem wx_7_6 : ((("say" : Str) = ("call" : Str)) = False) := by decide
@[simp] theorem wx_7_8 : ((("say" : Str) = ("when" : Str)) = False) := by decide
@[simp] theorem wx_7_9 : ((("say" : Str) = ("go" : Str)) = False) := by decide
@[simp] theorem wx_7_10 : ((("say" : Str) = ("under" : Str)) = False) := by decide
@[simp] theorem wx_7_11 : ((("say" : Str) = ("same" : Str)) = False) := by decide
@[simp] theorem wx_7_12 : ((("say" : Str) = ("even" : Str)) = False) := by decide
@[simp] theorem wx_8_0 : ((("when" : Str) = ("if" : Str)) = False) := by decide
@[simp] theorem wx_8_1 : ((("when" : Str) = ("while" : Str)) = False) := by decide
@[simp] theorem wx_8_2 : ((("when" : Str) = ("set" : Str)) = False) := by decide
@[simp] theorem wx_8_3 : ((("when" : Str) = ("part" : Str)) = False) := by decide
@[simp] theorem wx_8_4 : ((("when" : Str) = ("rest" : Str)) = False) := by decide
@[simp] theorem wx_8_5 : ((("when" : Str) = ("any" : Str)) = False) := by decide
@[simp] theorem wx_8_6 : ((("when" : Str) = ("call" : Str)) = False) := by decide
@[simp] theorem wx_8_7 : ((("when" : Str) = ("say" : Str)) = False) := by decide
@[simp] theorem wx_8_9 : ((("when" : Str) = ("go" : Str)) = False) := by decide
@[simp] theorem wx_8_10 : ((("when" : Str) = ("under" : Str)) = False) := by decide
@[simp] theorem wx_8_11 : ((("when" : Str) = ("same" : Str)) = False) := by decide
@[simp] theorem wx_8_12 : ((("when" : Str) = ("even" : Str)) = False) := by decide
@[simp] theorem wx_9_0 : ((("go" : Str) = ("if" : Str)) = False) := by decide
@[simp] theorem wx_9_1 : ((("go" : Str) = ("while" : Str)) = False) := by decide
@[simp] theorem wx_9_2 : ((("go" : Str) = ("set" : Str)) = False) := by decide
@[simp] theorem wx_9_3 : ((("go" : Str) = ("part" : Str)) = False) := by decide
@[simp] theorem wx_9_4 : ((("go" : Str) = ("rest" : Str)) = False) := by decide
@[simp] theorem wx_9_5 : ((("go" : Str) = ("any" : Str)) = False) := by decide
@[simp] theorem wx_9_6 : ((("go" : Str) = ("call" : Str)) = False) := by decide
@[simp] theorem wx_9_7 : ((("go" : Str) = ("say" : Str)) = False) := by decide
@[simp] theorem wx_9_8 : ((("go" : Str) = ("when" : Str)) = False) := by decide
@[simp] theorem wx_9_10 : ((("go" : Str) = ("under" : Str)) = False) := by decide
@[simp] theorem wx_9_11 : ((("go" : Str) = ("same" : Str)) = False) := by decide
@[simp] theorem wx_9_12 : ((("go" : Str) = ("even" : Str)) = False) := by decide
@[simp] theorem wx_10_0 : ((("under" : Str) = ("if" : Str)) = False) := by decide
@[simp] theorem wx_10_1 : ((("under" : Str) = ("while" : Str)) = False) := by decide
@[simp] theorem wx_10_2 : ((("under" : Str) = ("set" : Str)) = False) := by decide
@[simp] theorem wx_10_3 : ((("under" : Str) = ("part" : Str)) = False) := by decide
@[simp] theorem wx_10_4 : ((("under" : Str) = ("rest" : Str)) = False) := by decide
@[simp] theorem wx_10_5 : ((("under" : Str) = ("any" : Str)) = False) := by decide
@[simp] theorem wx_10_6 : ((("under" : Str) = ("call" : Str)) = False) := by decide
@[simp] theorem wx_10_7 : ((("under" : Str) = ("say" : Str)) = False) := by decide
@[simp] theorem wx_10_8 : ((("under" : Str) = ("when" : Str)) = False) := by decide
@[simp] theorem wx_10_9 : ((("under" : Str) = ("go" : Str)) = False) := by decide
@[simp] theorem wx_10_11 : ((("under" : Str) = ("same" : Str)) = False) := by decide
@[simp] theorem wx_10_12 : ((("under" : Str) = ("even" : Str)) = False) := by decide
@[simp] theorem wx_11_0 : ((("same" : Str) = ("if" : Str)) = False) := by decide
@[simp] theorem wx_11_1 : ((("same" : Str) = ("while" : Str)) = False) := by decide
@[simp] theorem wx_11_2 : ((("same" : Str) = ("set" : Str)) = False) := by decide
@[simp] theorem wx_11_3 : ((("same" : Str) = ("part" : Str)) = False) := by decide
@[simp] theorem wx_11_4 : ((("same" : Str) = ("rest" : Str)) = False) := by decide
@[simp] theorem wx_11_5 : ((("same" : Str) = ("any" : Str)) = False) := by decide
@[simp] theorem wx_11_6 : ((("same" : Str) = ("call" : Str)) = False) := by decide
@[simp] theorem wx_11_7 : ((("same" : Str) = ("say" : Str)) = False) := by decide
@[simp] theorem wx_11_8 : ((("same" : Str) = ("when" : Str)) = False) := by decide
@[simp] theorem wx_11_9 : ((("same" : Str) = ("go" : Str)) = False) := by decide
@[simp] theorem wx_11_10 : ((("same" : Str) = ("under" : Str)) = False) := by decide
@[simp] theorem wx_11_12 : ((("same" : Str) = ("even" : Str)) = False) := by decide
@[simp] theorem wx_12_0 : ((("even" : Str) = ("if" : Str)) = False) := by decide
@[simp] theorem wx_12_1 : ((("even" : Str) = ("while" : Str)) = False) := by decide
@[simp] theorem wx_12_2 : ((("even" : Str) = ("set" : Str)) = False) := by decide
@[simp] theorem wx_12_3 : ((("even" : Str) = ("part" : Str)) = False) := by decide
@[simp] theorem wx_12_4 : ((("even" : Str) = ("rest" : Str)) = False) := by decide
@[simp] theorem wx_12_5 : ((("even" : Str) = ("any" : Str)) = False) := by decide
@[simp] theorem wx_12_6 : ((("even" : Str) = ("call" : Str)) = False) := by decide
@[simp] theorem wx_12_7 : ((("even" : Str) = ("say" : Str)) = False) := by decide
@[simp] theorem wx_12_8 : ((("even" : Str) = ("when" : Str)) = False) := by decide
@[simp] theorem wx_12_9 : ((("even" : Str) = ("go" : Str)) = False) := by decide
@[simp] theorem wx_12_10 : ((("even" : Str) = ("under" : Str)) = False) := by decide
@[simp] theorem wx_12_11 : ((("even" : Str) = ("same" : Str)) = False) := by decide
end Sr
set_option Elab.async false
set_option linter.all false
set_option maxRecDepth 100000
/-! # Sr: lists by their places -/
namespace Sr
open PySem PySem.Spec PyProof.Rows L2
/-- the list of f 0 .. f (n - 1) -/
def mk (n : Nat) (f : Nat → D) : List D := (List.range n).map f
section
variable {n m i : Nat} {f g : Nat → D} {x : D} {k : Nat}
@[simp] theorem range_mk : List.map f (List.range n) = mk n f := rfl
@[simp] theorem mk_len : (mk n f).length = n := by simp [mk, -range_mk]
@[simp] theorem mk_map {h : D → D} : List.map h (mk n f) = mk n (fun i => h (f i)) := by simp [mk, Function.comp, -range_mk]
@[simp] theorem mk_0 : mk 0 f = [] := rfl
theorem mk_getq (h : i < n) : (mk n f)[i]? = some (f i) := by
  unfold mk
  rw [List.getElem?_map, List.getElem?_range h]; rfl
theorem mk_get {x : D} (h : (mk n f)[i]? = some x) : i < n ∧ x = f i := by
  have hl := (List.getElem?_eq_some_iff.mp h).1
  rw [mk_len] at hl
  rw [mk_getq hl] at h
  exact ⟨hl, (Option.some.inj h).symm⟩
theorem mk_ext {xs : List D} (hl : xs.length = n) (h : ∀ i, i < n → xs[i]? = some (f i)) : xs = mk n f := by
  apply List.ext_getElem?
  intro i
  by_cases hi : i < n
  · rw [h i hi, mk_getq hi]
  · rw [List.getElem?_eq_none (by omega), List.getElem?_eq_none (by simp; omega)]
@[simp] theorem mk_rep : (List.replicate k [x]).flatten = mk k (fun _ => x) := by
  refine mk_ext (by simp) fun j hj => ?_
  induction k generalizing j with
  | zero => omega
  | succ k ih =>
    rw [List.replicate_succ, List.flatten_cons]
    cases j with
    | zero => rfl
    | succ j => simpa using ih j (by omega)
@[simp] theorem unL_mk (h : ∀ i, (f i).un = true) : unL (mk n f) = true := by
  have : ∀ l : List Nat, unL (l.map f) = true := fun l => by
    induction l with
    | nil => rfl
    | cons a r ih => simp [ih, h]
  exact this _
@[simp] theorem nsL_mk (h : ∀ i, (f i).ns = true) : nsL (mk n f) = true := by
  have : ∀ l : List Nat, nsL (l.map f) = true := fun l => by
    induction l with
    | nil => rfl
    | cons a r ih => simp [ih, h]
  exact this _
@[simp] theorem shrL_mk : shrL (mk n f) = mk n (fun i => (f i).shr) := by
  have : ∀ l : List Nat, shrL (l.map f) = l.map (fun i => (f i).shr) := fun l => by
    induction l with
    | nil => rfl
    | cons a r ih => simp [ih]
  exact this _
@[simp] theorem okL_mk (h : ∀ i, okN k (f i)) : okL k (mk n f) := by
  rw [okL_iff]
  intro x hx
  unfold mk at hx
  obtain ⟨a, _, rfl⟩ := List.mem_map.mp hx
  exact h a
theorem zip_mk : zipD (mk n f) (mk n g) = mk n (fun i => .tup [f i, g i]) := by
  have : ∀ l : List Nat, zipD (l.map f) (l.map g) = l.map (fun i => .tup [f i, g i]) := fun l => by
    induction l with
    | nil => rfl
    | cons a r ih => simp [zipD, ih]
  exact this _
@[simp] theorem zip_mk' : zipD (mk n f) (mk n g) = mk n (fun i => .tup [f i, g i]) := zip_mk
end
/-! ### loops over such lists -/
variable {Φ : Fs} {e : Env} {R : Fl → Env → Prop}
variable {Q : List D → Env → Prop}
end Sr
set_option Elab.async false
set_option linter.all false
set_option maxRecDepth 100000
/-! # Sr: bounds, rests, told things, by their places -/
namespace Sr
open PySem PySem.Spec PyProof.Rows L2
def dO : Option Int → D
  | none => .non
  | some i => .int i
@[simp] theorem dO_un {o : Option Int} : (dO o).un = true := by cases o <;> rfl
@[simp] theorem dO_shr {o : Option Int} : (dO o).shr = dO o := by cases o <;> rfl
@[simp] theorem dO_ns {o : Option Int} : (dO o).ns = true := by cases o <;> rfl
@[simp] theorem dO_ok {n : Nat} {o : Option Int} : okN (n + 1) (dO o) := by cases o <;> simp [dO]
@[simp] theorem dO_none : dO none = .non := rfl
@[simp] theorem dO_some {i : Int} : dO (some i) = .int i := rfl
def dP (p : Int × Int) : D := .tup [.int p.1, .int p.2]
@[simp] theorem dP_un {p : Int × Int} : (dP p).un = true := by simp [dP]
@[simp] theorem dP_shr {p : Int × Int} : (dP p).shr = dP p := by simp [dP]
@[simp] theorem dP_ns {p : Int × Int} : (dP p).ns = true := by simp [dP]
@[simp] theorem dP_ok {n : Nat} {p : Int × Int} : okN (n + 2) (dP p) := by simp [dP]
@[simp] theorem atD_dP0 {p : Int × Int} : atD (dP p) 0 = some (.int p.1) := by simp [dP]
@[simp] theorem atD_dP1 {p : Int × Int} : atD (dP p) 1 = some (.int p.2) := by simp [dP]
@[simp] theorem isNn_dP {p : Int × Int} : isNn (dP p) = false := by simp [dP]
@[simp] theorem tyT_dP {p : Int × Int} : tyT (dP p) = true := by simp [dP]
@[simp] theorem lenD_dP {p : Int × Int} : lenD (dP p) = some (.int 2) := by simp [dP]
abbrev Mx := Nat → Nat → Option Int
abbrev Rs2 := Nat → Int × Int
abbrev Td := Mx × Rs2
/-- a row of bounds -/
def rowF (o : Bool) (n : Nat) (r : Nat → Option Int) : D := .lst o (mk n fun j => dO (r j))
/-- whole numbers -/
def intF (o : Bool) (n : Nat) (r : Nat → Int) : D := .lst o (mk n fun j => .int (r j))
/-- rests -/
def rsF (o : Bool) (n : Nat) (R : Rs2) : D := .lst o (mk n fun j => dP (R j))
/-- bounds -/
def mxF (o : Bool) (m n : Nat) (B : Mx) : D := .lst o (mk m fun i => rowF o n (B i))
/-- a told thing over n boxes -/
def tdF (o : Bool) (n : Nat) (t : Td) : D := .tup [mxF o (n + 1) (n + 1) t.1, rsF o n t.2]
def toF (o : Bool) (n : Nat) : Option Td → D
  | none => .non
  | some t => tdF o n t
section
variable {o : Bool} {n m k : Nat} {r : Nat → Option Int} {s : Nat → Int} {R : Rs2} {B : Mx} {t : Td} {t' : Option Td}
@[simp] theorem rowF_un : (rowF false n r).un = true := by simp [rowF]
@[simp] theorem rowF_unt : (rowF true n r).un = false := by simp [rowF]
@[simp] theorem rowF_ns : (rowF true n r).ns = true := by simp [rowF]
@[simp] theorem rowF_nsf : (rowF false n r).ns = false := by simp [rowF]
@[simp] theorem rowF_shr : (rowF o n r).shr = rowF false n r := by simp [rowF]
@[simp] theorem rowF_ok : okN (k + 2) (rowF o n r) := by simp [rowF]
@[simp] theorem rowF_len : lenD (rowF o n r) = some (.int n) := by simp [rowF]
@[simp] theorem rowF_items : items (rowF o n r) = some (mk n fun j => dO (r j)) := rfl
@[simp] theorem rowF_isNn : isNn (rowF o n r) = false := rfl
@[simp] theorem rowF_tyL : tyL (rowF o n r) = true := rfl
@[simp] theorem rowF_isLs : isLs (rowF o n r) = true := rfl
@[simp] theorem intF_un : (intF false n s).un = true := by simp [intF]
@[simp] theorem intF_unt : (intF true n s).un = false := by simp [intF]
@[simp] theorem intF_ns : (intF true n s).ns = true := by simp [intF]
@[simp] theorem intF_nsf : (intF false n s).ns = false := by simp [intF]
@[simp] theorem intF_shr : (intF o n s).shr = intF false n s := by simp [intF]
@[simp] theorem intF_ok : okN (k + 2) (intF o n s) := by simp [intF]
@[simp] theorem intF_len : lenD (intF o n s) = some (.int n) := by simp [intF]
@[simp] theorem intF_items : items (intF o n s) = some (mk n fun j => .int (s j)) := rfl
@[simp] theorem intF_isNn : isNn (intF o n s) = false := rfl
@[simp] theorem intF_tyL : tyL (intF o n s) = true := rfl
@[simp] theorem intF_isLs : isLs (intF o n s) = true := rfl
@[simp] theorem rsF_un : (rsF false n R).un = true := by simp [rsF]
@[simp] theorem rsF_unt : (rsF true n R).un = false := by simp [rsF]
@[simp] theorem rsF_ns : (rsF true n R).ns = true := by simp [rsF]
@[simp] theorem rsF_nsf : (rsF false n R).ns = false := by simp [rsF]
@[simp] theorem rsF_shr : (rsF o n R).shr = rsF false n R := by simp [rsF]
@[simp] theorem rsF_ok : okN (k + 3) (rsF o n R) := by simp [rsF]
@[simp] theorem rsF_len : lenD (rsF o n R) = some (.int n) := by simp [rsF]
@[simp] theorem rsF_items : items (rsF o n R) = some (mk n fun j => dP (R j)) := rfl
@[simp] theorem rsF_isNn : isNn (rsF o n R) = false := rfl
@[simp] theorem rsF_tyL : tyL (rsF o n R) = true := rfl
@[simp] theorem rsF_isLs : isLs (rsF o n R) = true := rfl
@[simp] theorem mxF_un : (mxF false m n B).un = true := by simp [mxF]
@[simp] theorem mxF_unt : (mxF true m n B).un = false := by simp [mxF]
@[simp] theorem mxF_ns : (mxF true m n B).ns = true := by simp [mxF]
@[simp] theorem mxF_nsf : (mxF false m n B).ns = false := by simp [mxF]
@[simp] theorem mxF_shr : (mxF o m n B).shr = mxF false m n B := by simp [mxF]
@[simp] theorem mxF_ok : okN (k + 3) (mxF o m n B) := by simp [mxF]
@[simp] theorem mxF_len : lenD (mxF o m n B) = some (.int m) := by simp [mxF]
@[simp] theorem mxF_items : items (mxF o m n B) = some (mk m fun i => rowF o n (B i)) := rfl
@[simp] theorem mxF_isNn : isNn (mxF o m n B) = false := rfl
@[simp] theorem mxF_tyL : tyL (mxF o m n B) = true := rfl
@[simp] theorem mxF_isLs : isLs (mxF o m n B) = true := rfl
@[simp] theorem tdF_un : (tdF false n t).un = true := by simp [tdF]
@[simp] theorem tdF_unt : (tdF true n t).un = false := by simp [tdF]
@[simp] theorem tdF_ns : (tdF true n t).ns = true := by simp [tdF]
@[simp] theorem tdF_nsf : (tdF false n t).ns = false := by simp [tdF]
@[simp] theorem tdF_shr : (tdF o n t).shr = tdF false n t := by simp [tdF]
@[simp] theorem tdF_ok : okN (k + 4) (tdF o n t) := by simp [tdF]
@[simp] theorem tdF_at0 : atD (tdF o n t) 0 = some (mxF o (n + 1) (n + 1) t.1) := by simp [tdF]
@[simp] theorem tdF_at1 : atD (tdF o n t) 1 = some (rsF o n t.2) := by simp [tdF]
@[simp] theorem tdF_isNn : isNn (tdF o n t) = false := rfl
@[simp] theorem tdF_tyT : tyT (tdF o n t) = true := rfl
@[simp] theorem tdF_len : lenD (tdF o n t) = some (.int 2) := by simp [tdF]
@[simp] theorem toF_none : toF o n none = .non := rfl
@[simp] theorem toF_some : toF o n (some t) = tdF o n t := rfl
@[simp] theorem toF_un : (toF false n t').un = true := by cases t' <;> simp
@[simp] theorem toF_ns : (toF true n t').ns = true := by cases t' <;> simp
@[simp] theorem toF_shr : (toF o n t').shr = toF false n t' := by cases t' <;> simp
@[simp] theorem toF_ok : okN (k + 4) (toF o n t') := by cases t' <;> simp
theorem eqOk_of {d : D} (h : okN 64 d) : eqOk d = true := eqOk_iff.mpr h
@[simp] theorem dO_eqOk {x : Option Int} : eqOk (dO x) = true := eqOk_of (dO_ok (n := 63))
@[simp] theorem dP_eqOk {x : Int × Int} : eqOk (dP x) = true := eqOk_of (dP_ok (n := 62))
@[simp] theorem rowF_eqOk : eqOk (rowF o n r) = true := eqOk_of (rowF_ok (k := 62))
@[simp] theorem intF_eqOk : eqOk (intF o n s) = true := eqOk_of (intF_ok (k := 62))
@[simp] theorem rsF_eqOk : eqOk (rsF o n R) = true := eqOk_of (rsF_ok (k := 61))
@[simp] theorem mxF_eqOk : eqOk (mxF o m n B) = true := eqOk_of (mxF_ok (k := 61))
@[simp] theorem tdF_eqOk : eqOk (tdF o n t) = true := eqOk_of (tdF_ok (k := 60))
@[simp] theorem toF_eqOk : eqOk (toF o n t') = true := eqOk_of (toF_ok (k := 60))
mutual
theorem py_shr : ∀ d : D, d.shr.py = d.py
  | .non => rfl
  | .bl _ => rfl
  | .int _ => rfl
  | .str _ => rfl
  | .tup xs => by rw [D.shr, D.py, D.py, pyL_shrL xs]
  | .lst _ xs => by rw [D.shr, D.py, D.py, pyL_shrL xs]
  | .cel _ _ _ => by rw [D.shr, D.py, D.py]
theorem pyL_shrL : ∀ ds : List D, pyL (shrL ds) = pyL ds
  | [] => rfl
  | d :: ds => by rw [shrL, pyL, pyL, py_shr d, pyL_shrL ds]
end
theorem eqv_shr {d e : D} : eqv d e = eqv d.shr e.shr := by unfold eqv; rw [py_shr, py_shr]
theorem eqv_like {n : Nat} {d e : D} (h : d.shr = e.shr) (g : okN n e) : eqv d e = true := by
  rw [eqv_shr, h, ← eqv_shr]
  exact eqv_self g
@[simp] theorem eqv_td {o o' : Bool} : eqv (tdF o n t) (tdF o' n t) = true := eqv_like (by simp) (tdF_ok (k := 60))
@[simp] theorem eqv_to {o o' : Bool} : eqv (toF o n t') (toF o' n t') = true := eqv_like (by simp) (toF_ok (k := 60))
@[simp] theorem eqv_mx {o o' : Bool} : eqv (mxF o m n B) (mxF o' m n B) = true := eqv_like (by simp) (mxF_ok (k := 60))
@[simp] theorem eqv_rs {o o' : Bool} : eqv (rsF o n R) (rsF o' n R) = true := eqv_like (by simp) (rsF_ok (k := 60))
@[simp] theorem eqv_row {o o' : Bool} : eqv (rowF o n r) (rowF o' n r) = true := eqv_like (by simp) (rowF_ok (k := 60))
@[simp] theorem eqv_ints {o o' : Bool} : eqv (intF o n s) (intF o' n s) = true := eqv_like (by simp) (intF_ok (k := 60))
/-! the item at a place -/
/-! stores -/
def up {α : Type} (r : Nat → α) (i : Nat) (x : α) : Nat → α := fun j => if j = i then x else r j
def up2 (B : Mx) (i j : Nat) (x : Option Int) : Mx := fun a b => if a = i ∧ b = j then x else B a b
@[simp] theorem up_same {α : Type} {r : Nat → α} {i : Nat} {x : α} : up r i x i = x := by simp [up]
@[simp] theorem up2_same {i j : Nat} {x : Option Int} : up2 B i j x i j = x := by simp [up2]
@[simp] theorem row_back : D.lst o (mk n fun j => dO (r j)) = rowF o n r := rfl
@[simp] theorem int_back : D.lst o (mk n fun j => D.int (s j)) = intF o n s := rfl
@[simp] theorem rs_back : D.lst o (mk n fun j => dP (R j)) = rsF o n R := rfl
@[simp] theorem mx_back : D.lst o (mk m fun i => rowF o n (B i)) = mxF o m n B := rfl
end
/-! two loops, one in the other, over all places -/
/-- the bounds of which the rows ahead of i, and of row i the places ahead of j, are done -/
def updN (B : Mx) (g : Nat → Nat → Option Int) (i j : Nat) : Mx := fun a b => if a < i ∨ (a = i ∧ b < j) then g a b else B a b
section
variable {B : Mx} {g : Nat → Nat → Option Int} {i j : Nat}
@[simp] theorem updN_0 : updN B g 0 0 = B := by funext a b; simp [updN]
@[simp] theorem updN_at : updN B g i j i j = B i j := by simp [updN]
end
variable {Φ : Fs} {e : Env} {Q : List D → Env → Prop}
end Sr
set_option Elab.async false
set_option linter.all false
set_option maxRecDepth 100000
/-! # Sr: closing, as mathematics -/
namespace Sr
open PySem PySem.Spec PyProof.Rows L2
def oAdd : Option Int → Option Int → Option Int
  | some a, some b => some (a + b)
  | _, _ => none
def oMin : Option Int → Option Int → Option Int
  | none, y => y
  | some x, none => some x
  | some x, some y => if y < x then some y else some x
/-- o is told, and not above what the other tells -/
def U (o o' : Option Int) : Prop := ∀ t', o' = some t' → ∃ t, o = some t ∧ t ≤ t'
theorem U.refl (o : Option Int) : U o o := fun t h => ⟨t, h, Int.le_refl t⟩
theorem U.trans {a b c : Option Int} (h : U a b) (g : U b c) : U a c := fun t ht => by
  obtain ⟨s, hs, l⟩ := g t ht
  obtain ⟨r, hr, l'⟩ := h s hs
  exact ⟨r, hr, by omega⟩
theorem U.add {a a' b b' : Option Int} (h : U a a') (g : U b b') : U (oAdd a b) (oAdd a' b') := fun t ht => by
  cases a' with
  | none => cases ht
  | some x =>
    cases b' with
    | none => cases ht
    | some y =>
      cases ht
      obtain ⟨r, rfl, l⟩ := h x rfl
      obtain ⟨s, rfl, l'⟩ := g y rfl
      exact ⟨r + s, rfl, by omega⟩
theorem oAdd_assoc (a b c : Option Int) : oAdd (oAdd a b) c = oAdd a (oAdd b c) := by
  cases a <;> cases b <;> cases c <;> simp [oAdd, Int.add_assoc]
theorem oAdd_0l (a : Option Int) : oAdd (some 0) a = a := by cases a <;> simp [oAdd]
theorem oAdd_0r (a : Option Int) : oAdd a (some 0) = a := by cases a <;> simp [oAdd]
def lessB (o : Option Int) (x : Int) : Bool := match o with
  | none => true
  | some t => decide (x < t)
def fwIn (mid i : Nat) (M : Mx) (j : Nat) : Mx := match M i mid, M mid j with
  | some a, some c => if lessB (M i j) (a + c) = true then up2 M i j (some (a + c)) else M
  | _, _ => M
def fwJ (n mid : Nat) (M : Mx) (i : Nat) : Mx := (List.range n).foldl (fwIn mid i) M
def fwI (n : Nat) (M : Mx) (mid : Nat) : Mx := (List.range n).foldl (fwJ n mid) M
def fw (n : Nat) (M : Mx) : Mx := (List.range n).foldl (fwI n) M
/-- the bounds behind one mid -/
def nw (M : Mx) (mid a b : Nat) : Option Int := oMin (M a b) (oAdd (M a mid) (M mid b))
/-- the state ahead of a mid -/
def fwS (n : Nat) (B : Mx) (m : Nat) : Mx := (List.range m).foldl (fwI n) B
/-! walks -/
/-- the sum of the first L steps of p -/
def wt (B : Mx) (p : Nat → Nat) : Nat → Option Int
  | 0 => some 0
  | L + 1 => oAdd (wt B p L) (B (p L) (p (L + 1)))
theorem wt_app {B : Mx} {p : Nat → Nat} {a : Nat} : ∀ {b : Nat}, wt B p (a + b) = oAdd (wt B p a) (wt B (fun t => p (t + a)) b)
  | 0 => by simp [wt, oAdd_0r]
  | b + 1 => by
    show oAdd (wt B p (a + b)) (B (p (a + b)) (p (a + b + 1))) = oAdd (wt B p a) (oAdd (wt B (fun t => p (t + a)) b) (B (p (b + a)) (p (b + 1 + a))))
    rw [wt_app (b := b), oAdd_assoc, Nat.add_comm b a, Nat.add_right_comm b 1 a, Nat.add_comm b a]
theorem wt_congr {B : Mx} {p q : Nat → Nat} : ∀ {L : Nat}, (∀ t, t ≤ L → p t = q t) → wt B p L = wt B q L
  | 0, _ => rfl
  | L + 1, h => by
    show oAdd _ _ = oAdd _ _
    rw [wt_congr (L := L) (fun t ht => h t (by omega)), h L (by omega), h (L + 1) (by omega)]
/-- there is a way from i to j in L steps, of the sum w -/
def Way (B : Mx) (n i j L : Nat) (w : Int) : Prop := ∃ p : Nat → Nat, p 0 = i ∧ p L = j ∧ (∀ t, t ≤ L → p t < n) ∧ wt B p L = some w
theorem Way.nil {B : Mx} {n i : Nat} (h : i < n) : Way B n i i 0 0 := ⟨fun _ => i, rfl, rfl, fun _ _ => h, rfl⟩
theorem Way.one {B : Mx} {n i j : Nat} {w : Int} (hi : i < n) (hj : j < n) (h : B i j = some w) : Way B n i j 1 w := by
  refine ⟨fun t => if t = 0 then i else j, rfl, rfl, fun t _ => ?_, ?_⟩
  · show (if t = 0 then i else j) < n
    split <;> assumption
  · show oAdd (some 0) (B i j) = some w
    rw [oAdd_0l]; exact h
theorem Way.app {B : Mx} {n i j k L K : Nat} {w v : Int} (h : Way B n i j L w) (g : Way B n j k K v) : Way B n i k (L + K) (w + v) := by
  obtain ⟨p, p0, pL, pn, pw⟩ := h
  obtain ⟨q, q0, qK, qn, qw⟩ := g
  refine ⟨fun t => if t ≤ L then p t else q (t - L), by simp [p0], ?_, fun t ht => ?_, ?_⟩
  · by_cases c : K = 0
    · subst c
      simp only [Nat.add_zero, Nat.le_refl, if_true]
      rw [pL, ← q0, qK]
    · have : ¬ (L + K ≤ L) := by omega
      simp only [this, if_false]
      rw [show L + K - L = K by omega]; exact qK
  · by_cases c : t ≤ L
    · simp only [c, if_true]; exact pn t c
    · simp only [c, if_false]; exact qn _ (by omega)
  · rw [wt_app]
    have e1 : wt B (fun t => if t ≤ L then p t else q (t - L)) L = some w := by
      rw [wt_congr (q := p) (fun t ht => by simp [ht])]; exact pw
    have e2 : wt B (fun t => (fun t => if t ≤ L then p t else q (t - L)) (t + L)) K = some v := by
      rw [wt_congr (q := q) (fun t ht => ?_)]
      · exact qw
      · by_cases c : t = 0
        · subst c; simp [pL, q0]
        · have : ¬ (t + L ≤ L) := by omega
          simp only [this, if_false]
          rw [show t + L - L = t by omega]
    rw [e1, e2]; rfl
theorem oAdd_some {a b : Option Int} {w : Int} (h : oAdd a b = some w) : ∃ x y, a = some x ∧ b = some y ∧ w = x + y := by
  cases a with
  | none => cases h
  | some x =>
    cases b with
    | none => cases h
    | some y => cases h; exact ⟨x, y, rfl, rfl, rfl⟩
/-- each entry is the sum of a way -/
def Sums (B : Mx) (n : Nat) (M : Mx) : Prop := ∀ i j w, i < n → j < n → M i j = some w → ∃ L, Way B n i j L w
/-- no box with itself below nought -/
def NN (n : Nat) (M : Mx) : Prop := ∀ i t, i < n → M i i = some t → 0 ≤ t
structure Stage (n : Nat) (B : Mx) (m : Nat) (M : Mx) : Prop where
  dg : ∀ i, i < n → M i i = some 0
  le : ∀ i j, i < n → j < n → U (M i j) (B i j)
  tri : ∀ i j k, i < n → j < n → k < m → U (M i j) (oAdd (M i k) (M k j))
/-- what is closed is not above any way -/
theorem Stage.way {n : Nat} {B M : Mx} (C : Stage n B n M) : ∀ (L : Nat) {i j : Nat} {w : Int}, Way B n i j L w → ∃ t, M i j = some t ∧ t ≤ w := by
  intro L
  induction L with
  | zero =>
    rintro i j w ⟨p, p0, pL, pn, pw⟩
    subst p0
    subst pL
    cases pw
    exact ⟨0, C.dg _ (pn 0 (Nat.le_refl 0)), Int.le_refl 0⟩
  | succ L ih =>
    rintro i j w ⟨p, p0, pL, pn, pw⟩
    obtain ⟨x, y, h1, h2, rfl⟩ := oAdd_some pw
    obtain ⟨t, ht, l⟩ := ih (i := i) (j := p L) (w := x) ⟨p, p0, rfl, fun t ht => pn t (by omega), h1⟩
    have hi : i < n := by rw [← p0]; exact pn 0 (by omega)
    have hk : p L < n := pn L (by omega)
    have hj : j < n := by rw [← pL]; exact pn (L + 1) (by omega)
    rw [pL] at h2
    obtain ⟨s, hs, l2⟩ := C.le (p L) j hk hj y h2
    obtain ⟨r, hr, l3⟩ := C.tri i j (p L) hi hj hk (t + s) (by rw [ht, hs]; rfl)
    exact ⟨r, hr, by omega⟩
/-- the bounds closed, where no ring is below nought -/
def negD (n : Nat) (M : Mx) : Bool := (List.range n).any fun i => match M i i with
  | some t => decide (t < 0)
  | none => false
def closedO (n : Nat) (B : Mx) : Option Mx := if negD n (fw n B) = true then none else some (fw n B)
/-! the sums by doubling -/
def lsK (B : Mx) (i j : Nat) (m : Nat) : Option Int := (List.range m).foldl (fun acc k => oMin acc (oAdd (B i k) (B k j))) (B i j)
def lsQ (n : Nat) (B : Mx) : Mx := fun i j => lsK B i j n
/-- all ways of at most r steps are told -/
def Upto (B : Mx) (n r : Nat) (D : Mx) : Prop := ∀ i j L w, L ≤ r → Way B n i j L w → ∃ t, D i j = some t ∧ t ≤ w
/-! sizes -/
abbrev bits (x : Int) : Nat := Builtin.Int.intBits x
end Sr
set_option Elab.async false
set_option linter.all false
set_option maxRecDepth 100000
/-! # Sr: rests, as mathematics -/
namespace Sr
open PySem PySem.Spec PyProof.Rows L2
theorem fmod_lt (a : Int) {m : Int} (h : 0 < m) : 0 ≤ a.fmod m ∧ a.fmod m < m := ⟨Int.fmod_nonneg_of_pos a h, Int.fmod_lt_of_pos a h⟩
theorem eq_of_sat {α : Type} {o : Option (α × Env)} {a : α} {e : Env} (h : sat o fun a' e' => a' = a ∧ e' = e) : o = some (a, e) := by
  obtain ⟨_, _, h, rfl, rfl⟩ := h
  exact h
def rmod (m r : Int) : Int := if m = 0 then r else r.fmod m
theorem rmod_in {m r : Int} (h : 0 < m) : 0 ≤ rmod m r ∧ rmod m r < m := by
  unfold rmod
  rw [if_neg (by omega)]
  exact fmod_lt r h
/-- a rest as it is made -/
def rmk (m r : Int) : Int × Int := (m, rmod m r)
@[simp] theorem rmk_1 {m r : Int} : (rmk m r).1 = m := rfl
@[simp] theorem rmk_2 {m r : Int} : (rmk m r).2 = rmod m r := rfl
/-- a rest well made -/
def RV (p : Int × Int) : Prop := 0 ≤ p.1 ∧ (p.1 = 0 ∨ (0 ≤ p.2 ∧ p.2 < p.1))
theorem RV.mk {m r : Int} (h : 0 ≤ m) : RV (rmk m r) := ⟨h, by
  by_cases c : m = 0
  · exact .inl c
  · exact .inr (rmod_in (by omega))⟩
theorem RV.one : RV (1, 0) := ⟨by decide, .inr (by decide)⟩
theorem RV.zero (r : Int) : RV (0, r) := ⟨by simp, .inl rfl⟩
/-- a number is one of the rest -/
def rhas (p : Int × Int) (x : Int) : Bool := decide (p.1 ∣ x - p.2)
def rin (p q : Int × Int) : Bool := decide (q.1 ∣ p.2 - q.2) && decide (q.1 ∣ p.1)
def rjn (p q : Int × Int) : Int × Int := rmk (Int.gcd (p.2 - q.2) (Int.gcd p.1 q.1)) p.2
def rpl (p q : Int × Int) : Int × Int := rmk (Int.gcd p.1 q.1) (p.2 + q.2)
def rtm (p : Int × Int) (k : Int) : Int × Int := rmk (p.1 * k.natAbs) (p.2 * k)
def rpt (p : Int × Int) (d : Int) : Int × Int := if p.1.fmod d = 0 then rmk (p.1.fdiv d) (p.2.fdiv d) else (1, 0)
def rrs (p : Int × Int) (k : Int) : Int × Int := if (Int.gcd p.1 k : Int) = k then (0, p.2.fmod k) else (Int.gcd p.1 k, p.2.fmod (Int.gcd p.1 k))
def rls (p : Int × Int) (k : Int) : Int × Int := rmk (Int.gcd p.1 k) p.2
def rud (p : Int × Int) (top : Int) : Option Int := if p.1 > 0 then some (top - (top - p.2).fmod p.1) else if p.2 > top then none else some p.2
open Classical in
/-- what both have -/
noncomputable def rmt (p q : Int × Int) : Option (Int × Int) := if h : ∃ x, p.1 ∣ x - p.2 ∧ q.1 ∣ x - q.2 then some (rmk (Int.lcm p.1 q.1) h.choose) else none
end Sr
set_option Elab.async false
set_option linter.all false
set_option maxRecDepth 100000
set_option maxHeartbeats 4000000
/-! # Sr: the program's functions of rests, run -/
namespace Sr
open PySem PySem.Spec PyProof.Rows L2
@[simp] theorem dP_back {a b : Int} : D.tup [.int a, .int b] = dP (a, b) := rfl
@[simp] theorem bind2P {e : Env} {i j : Nat} {p : Int × Int} : bindT [i, j] (dP p) e = some ((e.set i (some (.int p.1))).set j (some (.int p.2))) := rfl
def dPo : Option (Int × Int) → D
  | none => .non
  | some p => dP p
@[simp] theorem dPo_none : dPo none = .non := rfl
@[simp] theorem dPo_some {p : Int × Int} : dPo (some p) = dP p := rfl
@[simp] theorem dPo_un {p : Option (Int × Int)} : (dPo p).un = true := by cases p <;> simp
@[simp] theorem dPo_ns {p : Option (Int × Int)} : (dPo p).ns = true := by cases p <;> simp
@[simp] theorem dPo_shr {p : Option (Int × Int)} : (dPo p).shr = dPo p := by cases p <;> simp
@[simp] theorem dPo_ok {n : Nat} {p : Option (Int × Int)} : okN (n + 2) (dPo p) := by cases p <;> simp
variable {n : Nat}
end Sr
set_option Elab.async false
set_option linter.all false
set_option maxRecDepth 100000
set_option maxHeartbeats 4000000
/-! # Sr: the words, told apart -/
namespace Sr
open PySem PySem.Spec PyProof.Rows L2
theorem eqv_s (a b : Str) : eqv (.str a) (.str b) = decide (a = b) := by
  unfold eqv
  rw [D.py, D.py, PyData.eqv]
  by_cases h : a = b
  · subst h; simp
  · simp [h]
section words
@[simp] theorem okV0 : eqOk (.str "if") = true := by decide +kernel
@[simp] theorem oknV0 {n : Nat} : okN (n + 1) (.str "if") := ⟨by decide +kernel, by rw [D.py, PyData.depth] <;> omega⟩
@[simp] theorem eqw_0_0 : eqv (.str "if") (.str "if") = true := by rw [eqv_s]; decide
@[simp] theorem eqw_0_1 : eqv (.str "if") (.str "while") = false := by rw [eqv_s]; decide
@[simp] theorem eqw_0_2 : eqv (.str "if") (.str "set") = false := by rw [eqv_s]; decide
@[simp] theorem eqw_0_3 : eqv (.str "if") (.str "part") = false := by rw [eqv_s]; decide
@[simp] theorem eqw_0_4 : eqv (.str "if") (.str "rest") = false := by rw [eqv_s]; decide
@[simp] theorem eqw_0_5 : eqv (.str "if") (.str "any") = false := by rw [eqv_s]; decide
@[simp] theorem eqw_0_6 : eqv (.str "if") (.str "call") = false := by rw [eqv_s]; decide
@[simp] theorem eqw_0_7 : eqv (.str "if") (.str "say") = false := by rw [eqv_s]; decide
@[simp] theorem eqw_0_8 : eqv (.str "if") (.str "when") = false := by rw [eqv_s]; decide
@[simp] theorem eqw_0_9 : eqv (.str "if") (.str "go") = false := by rw [eqv_s]; decide
@[simp] theorem eqw_0_10 : eqv (.str "if") (.str "under") = false := by rw [eqv_s]; decide
@[simp] theorem eqw_0_11 : eqv (.str "if") (.str "same") = false := by rw [eqv_s]; decide
@[simp] theorem eqw_0_12 : eqv (.str "if") (.str "even") = false := by rw [eqv_s]; decide
@[simp] theorem okV1 : eqOk (.str "while") = true := by decide +kernel
@[simp] theorem oknV1 {n : Nat} : okN (n + 1) (.str "while") := ⟨by decide +kernel, by rw [D.py, PyData.depth] <;> omega⟩
@[simp] theorem eqw_1_0 : eqv (.str "while") (.str "if") = false := by rw [eqv_s]; decide
@[simp] theorem eqw_1_1 : eqv (.str "while") (.str "while") = true := by rw [eqv_s]; decide
@[simp] theorem eqw_1_2 : eqv (.str "while") (.str "set") = false := by rw [eqv_s]; decide
@[simp] theorem eqw_1_3 : eqv (.str "while") (.str "part") = false := by rw [eqv_s]; decide
@[simp] theorem eqw_1_4 : eqv (.str "while") (.str "rest") = false := by rw [eqv_s]; decide
@[simp] theorem eqw_1_5 : eqv (.str "while") (.str "any") = false := by rw [eqv_s]; decide
@[simp] theorem eqw_1_6 : eqv (.str "while") (.str "call") = false := by rw [eqv_s]; decide
@[simp] theorem eqw_1_7 : eqv (.str "while") (.str "say") = false := by rw [eqv_s]; decide
@[simp] theorem eqw_1_8 : eqv (.str "while") (.str "when") = false := by rw [eqv_s]; decide
@[simp] theorem eqw_1_9 : eqv (.str "while") (.str "go") = false := by rw [eqv_s]; decide
@[simp] theorem eqw_1_10 : eqv (.str "while") (.str "under") = false := by rw [eqv_s]; decide
@[simp] theorem eqw_1_11 : eqv (.str "while") (.str "same") = false := by rw [eqv_s]; decide
@[simp] theorem eqw_1_12 : eqv (.str "while") (.str "even") = false := by rw [eqv_s]; decide
@[simp] theorem okV2 : eqOk (.str "set") = true := by decide +kernel
@[simp] theorem oknV2 {n : Nat} : okN (n + 1) (.str "set") := ⟨by decide +kernel, by rw [D.py, PyData.depth] <;> omega⟩
@[simp] theorem eqw_2_0 : eqv (.str "set") (.str "if") = false := by rw [eqv_s]; decide
@[simp] theorem eqw_2_1 : eqv (.str "set") (.str "while") = false := by rw [eqv_s]; decide
@[simp] theorem eqw_2_2 : eqv (.str "set") (.str "set") = true := by rw [eqv_s]; decide
@[simp] theorem eqw_2_3 : eqv (.str "set") (.str "part") = false := by rw [eqv_s]; decide
@[simp] theorem eqw_2_4 : eqv (.str "set") (.str "rest") = false := by rw [eqv_s]; decide
@[simp] theorem eqw_2_5 : eqv (.str "set") (.str "any") = false := by rw [eqv_s]; decide
@[simp] theorem eqw_2_6 : eqv (.str "set") (.str "call") = false := by rw [eqv_s]; decide
@[simp] theorem eqw_2_7 : eqv (.str "set") (.str "say") = false := by rw [eqv_s]; decide
@[simp] theorem eqw_2_8 : eqv (.str "set") (.str "when") = false := by rw [eqv_s]; decide
@[simp] theorem eqw_2_9 : eqv (.str "set") (.str "go") = false := by rw [eqv_s]; decide
@[simp] theorem eqw_2_10 : eqv (.str "set") (.str "under") = false := by rw [eqv_s]; decide
@[simp] theorem eqw_2_11 : eqv (.str "set") (.str "same") = false := by rw [eqv_s]; decide
@[simp] theorem eqw_2_12 : eqv (.str "set") (.str "even") = false := by rw [eqv_s]; decide
@[simp] theorem okV3 : eqOk (.str "part") = true := by decide +kernel
@[simp] theorem oknV3 {n : Nat} : okN (n + 1) (.str "part") := ⟨by decide +kernel, by rw [D.py, PyData.depth] <;> omega⟩
@[simp] theorem eqw_3_0 : eqv (.str "part") (.str "if") = false := by rw [eqv_s]; decide
@[simp] theorem eqw_3_1 : eqv (.str "part") (.str "while") = false := by rw [eqv_s]; decide
@[simp] theorem eqw_3_2 : eqv (.str "part") (.str "set") = false := by rw [eqv_s]; decide
@[simp] theorem eqw_3_3 : eqv (.str "part") (.str "part") = true := by rw [eqv_s]; decide
@[simp] theorem eqw_3_4 : eqv (.str "part") (.str "rest") = false := by rw [eqv_s]; decide
@[simp] theorem eqw_3_5 : eqv (.str "part") (.str "any") = false := by rw [eqv_s]; decide
@[simp] theorem eqw_3_6 : eqv (.str "part") (.str "call") = false := by rw [eqv_s]; decide
@[simp] theorem eqw_3_7 : eqv (.str "part") (.str "say") = false := by rw [eqv_s]; decide
@[simp] theorem eqw_3_8 : eqv (.str "part") (.str "when") = false := by rw [eqv_s]; decide
@[simp] theorem eqw_3_9 : eqv (.str "part") (.str "go") = false := by rw [eqv_s]; decide
@[simp] theorem eqw_3_10 : eqv (.str "part") (.str "under") = false := by rw [eqv_s]; decide
@[simp] theorem eqw_3_11 : eqv (.str "part") (.str "same") = false := by rw [eqv_s]; decide
@[simp] theorem eqw_3_12 : eqv (.str "part") (.str "even") = false := by rw [eqv_s]; decide
@[simp] theorem okV4 : eqOk (.str "rest") = true := by decide +kernel
@[simp] theorem oknV4 {n : Nat} : okN (n + 1) (.str "rest") := ⟨by decide +kernel, by rw [D.py, PyData.depth] <;> omega⟩
@[simp] theorem eqw_4_0 : eqv (.str "rest") (.str "if") = false := by rw [eqv_s]; decide
@[simp] theorem eqw_4_1 : eqv (.str "rest") (.str "while") = false := by rw [eqv_s]; decide
@[simp] theorem eqw_4_2 : eqv (.str "rest") (.str "set") = false := by rw [eqv_s]; decide
@[simp] theorem eqw_4_3 : eqv (.str "rest") (.str "part") = false := by rw [eqv_s]; decide
@[simp] theorem eqw_4_4 : eqv (.str "rest") (.str "rest") = true := by rw [eqv_s]; decide
@[simp] theorem eqw_4_5 : eqv (.str "rest") (.str "any") = false := by rw [eqv_s]; decide
@[simp] theorem eqw_4_6 : eqv (.str "rest") (.str "call") = false := by rw [eqv_s]; decide
@[simp] theorem eqw_4_7 : eqv (.str "rest") (.str "say") = false := by rw [eqv_s]; decide
@[simp] theorem eqw_4_8 : eqv (.str "rest") (.str "when") = false := by rw [eqv_s]; decide
@[simp] theorem eqw_4_9 : eqv (.str "rest") (.str "go") = false := by rw [eqv_s]; decide
@[simp] theorem eqw_4_10 : eqv (.str "rest") (.str "under") = false := by rw [eqv_s]; decide
@[simp] theorem eqw_4_11 : eqv (.str "rest") (.str "same") = false := by rw [eqv_s]; decide
@[simp] theorem eqw_4_12 : eqv (.str "rest") (.str "even") = false := by rw [eqv_s]; decide
@[simp] theorem okV5 : eqOk (.str "any") = true := by decide +kernel
@[simp] theorem oknV5 {n : Nat} : okN (n + 1) (.str "any") := ⟨by decide +kernel, by rw [D.py, PyData.depth] <;> omega⟩
@[simp] theorem eqw_5_0 : eqv (.str "any") (.str "if") = false := by rw [eqv_s]; decide
@[simp] theorem eqw_5_1 : eqv (.str "any") (.str "while") = false := by rw [eqv_s]; decide
@[simp] theorem eqw_5_2 : eqv (.str "any") (.str "set") = false := by rw [eqv_s]; decide
@[simp] theorem eqw_5_3 : eqv (.str "any") (.str "part") = false := by rw [eqv_s]; decide
@[simp] theorem eqw_5_4 : eqv (.str "any") (.str "rest") = false := by rw [eqv_s]; decide
@[simp] theorem eqw_5_5 : eqv (.str "any") (.str "any") = true := by rw [eqv_s]; decide
@[simp] theorem eqw_5_6 : eqv (.str "any") (.str "call") = false := by rw [eqv_s]; decide
@[simp] theorem eqw_5_7 : eqv (.str "any") (.str "say") = false := by rw [eqv_s]; decide
@[simp] theorem eqw_5_8 : eqv (.str "any") (.str "when") = false := by rw [eqv_s]; decide
@[simp] theorem eqw_5_9 : eqv (.str "any") (.str "go") = false := by rw [eqv_s]; decide
@[simp] theorem eqw_5_10 : eqv (.str "any") (.str "under") = false := by rw [eqv_s]; decide
@[simp] theorem eqw_5_11 : eqv (.str "any") (.str "same") = false := by rw [eqv_s]; decide
@[simp] theorem eqw_5_12 : eqv (.str "any") (.str "even") = false := by rw [eqv_s]; decide
@[simp] theorem okV6 : eqOk (.str "call") = true := by decide +kernel
@[simp] theorem oknV6 {n : Nat} : okN (n + 1) (.str "call") := ⟨by decide +kernel, by rw [D.py, PyData.depth] <;> omega⟩
@[simp] theorem eqw_6_0 : eqv (.str "call") (.str "if") = false := by rw [eqv_s]; decide
@[simp] theorem eqw_6_1 : eqv (.str "call") (.str "while") = false := by rw [eqv_s]; decide
@[simp] theorem eqw_6_2 : eqv (.str "call") (.str "set") = false := by rw [eqv_s]; decide
@[simp] theorem eqw_6_3 : eqv (.str "call") (.str "part") = false := by rw [eqv_s]; decide
@[simp] theorem eqw_6_4 : eqv (.str "call") (.str "rest") = false := by rw [eqv_s]; decide
@[simp] theorem eqw_6_5 : eqv (.str "call") (.str "any") = false := by rw [eqv_s]; decide
@[simp] theorem eqw_6_6 : eqv (.str "call") (.str "call") = true := by rw [eqv_s]; decide
@[simp] theorem eqw_6_7 : eqv (.str "call") (.str "say") = false := by rw [eqv_s]; decide
@[simp] theorem eqw_6_8 : eqv (.str "call") (.str "when") = false := by rw [eqv_s]; decide
@[simp] theorem eqw_6_9 : eqv (.str "call") (.str "go") = false := by rw [eqv_s]; decide
@[simp] theorem eqw_6_10 : eqv (.str "call") (.str "under") = false := by rw [eqv_s]; decide
@[simp] theorem eqw_6_11 : eqv (.str "call") (.str "same") = false := by rw [eqv_s]; decide
@[simp] theorem eqw_6_12 : eqv (.str "call") (.str "even") = false := by rw [eqv_s]; decide
@[simp] theorem okV7 : eqOk (.str "say") = true := by decide +kernel
@[simp] theorem oknV7 {n : Nat} : okN (n + 1) (.str "say") := ⟨by decide +kernel, by rw [D.py, PyData.depth] <;> omega⟩
@[simp] theorem eqw_7_0 : eqv (.str "say") (.str "if") = false := by rw [eqv_s]; decide
@[simp] theorem eqw_7_1 : eqv (.str "say") (.str "while") = false := by rw [eqv_s]; decide
@[simp] theorem eqw_7_2 : eqv (.str "say") (.str "set") = false := by rw [eqv_s]; decide
@[simp] theorem eqw_7_3 : eqv (.str "say") (.str "part") = false := by rw [eqv_s]; decide
@[simp] theorem eqw_7_4 : eqv (.str "say") (.str "rest") = false := by rw [eqv_s]; decide
@[simp] theorem eqw_7_5 : eqv (.str "say") (.str "any") = false := by rw [eqv_s]; decide
@[simp] theorem eqw_7_6 : eqv (.str "say") (.str "call") = false := by rw [eqv_s]; decide
@[simp] theorem eqw_7_7 : eqv (.str "say") (.str "say") = true := by rw [eqv_s]; decide
@[simp] theorem eqw_7_8 : eqv (.str "say") (.str "when") = false := by rw [eqv_s]; decide
@[simp] theorem eqw_7_9 : eqv (.str "say") (.str "go") = false := by rw [eqv_s]; decide
@[simp] theorem eqw_7_10 : eqv (.str "say") (.str "under") = false := by rw [eqv_s]; decide
@[simp] theorem eqw_7_11 : eqv (.str "say") (.str "same") = false := by rw [eqv_s]; decide
@[simp] theorem eqw_7_12 : eqv (.str "say") (.str "even") = false := by rw [eqv_s]; decide
@[simp] theorem okV8 : eqOk (.str "when") = true := by decide +kernel
@[simp] theorem oknV8 {n : Nat} : okN (n + 1) (.str "when") := ⟨by decide +kernel, by rw [D.py, PyData.depth] <;> omega⟩
@[simp] theorem eqw_8_0 : eqv (.str "when") (.str "if") = false := by rw [eqv_s]; decide
@[simp] theorem eqw_8_1 : eqv (.str "when") (.str "while") = false := by rw [eqv_s]; decide
@[simp] theorem eqw_8_2 : eqv (.str "when") (.str "set") = false := by rw [eqv_s]; decide
@[simp] theorem eqw_8_3 : eqv (.str "when") (.str "part") = false := by rw [eqv_s]; decide
@[simp] theorem eqw_8_4 : eqv (.str "when") (.str "rest") = false := by rw [eqv_s]; decide
@[simp] theorem eqw_8_5 : eqv (.str "when") (.str "any") = false := by rw [eqv_s]; decide
@[simp] theorem eqw_8_6 : eqv (.str "when") (.str "call") = false := by rw [eqv_s]; decide
@[simp] theorem eqw_8_7 : eqv (.str "when") (.str "say") = false := by rw [eqv_s]; decide
@[simp] theorem eqw_8_8 : eqv (.str "when") (.str "when") = true := by rw [eqv_s]; decide
@[simp] theorem eqw_8_9 : eqv (.str "when") (.str "go") = false := by rw [eqv_s]; decide
@[simp] theorem eqw_8_10 : eqv (.str "when") (.str "under") = false := by rw [eqv_s]; decide
@[simp] theorem eqw_8_11 : eqv (.str "when") (.str "same") = false := by rw [eqv_s]; decide
@[simp] theorem eqw_8_12 : eqv (.str "when") (.str "even") = false := by rw [eqv_s]; decide
@[simp] theorem okV9 : eqOk (.str "go") = true := by decide +kernel
@[simp] theorem oknV9 {n : Nat} : okN (n + 1) (.str "go") := ⟨by decide +kernel, by rw [D.py, PyData.depth] <;> omega⟩
@[simp] theorem eqw_9_0 : eqv (.str "go") (.str "if") = false := by rw [eqv_s]; decide
@[simp] theorem eqw_9_1 : eqv (.str "go") (.str "while") = false := by rw [eqv_s]; decide
@[simp] theorem eqw_9_2 : eqv (.str "go") (.str "set") = false := by rw [eqv_s]; decide
@[simp] theorem eqw_9_3 : eqv (.str "go") (.str "part") = false := by rw [eqv_s]; decide
@[simp] theorem eqw_9_4 : eqv (.str "go") (.str "rest") = false := by rw [eqv_s]; decide
@[simp] theorem eqw_9_5 : eqv (.str "go") (.str "any") = false := by rw [eqv_s]; decide
@[simp] theorem eqw_9_6 : eqv (.str "go") (.str "call") = false := by rw [eqv_s]; decide
@[simp] theorem eqw_9_7 : eqv (.str "go") (.str "say") = false := by rw [eqv_s]; decide
@[simp] theorem eqw_9_8 : eqv (.str "go") (.str "when") = false := by rw [eqv_s]; decide
@[simp] theorem eqw_9_9 : eqv (.str "go") (.str "go") = true := by rw [eqv_s]; decide
@[simp] theorem eqw_9_10 : eqv (.str "go") (.str "under") = false := by rw [eqv_s]; decide
@[simp] theorem eqw_9_11 : eqv (.str "go") (.str "same") = false := by rw [eqv_s]; decide
@[simp] theorem eqw_9_12 : eqv (.str "go") (.str "even") = false := by rw [eqv_s]; decide
@[simp] theorem okV10 : eqOk (.str "under") = true := by decide +kernel
@[simp] theorem oknV10 {n : Nat} : okN (n + 1) (.str "under") := ⟨by decide +kernel, by rw [D.py, PyData.depth] <;> omega⟩
@[simp] theorem eqw_10_0 : eqv (.str "under") (.str "if") = false := by rw [eqv_s]; decide
@[simp] theorem eqw_10_1 : eqv (.str "under") (.str "while") = false := by rw [eqv_s]; decide
@[simp] theorem eqw_10_2 : eqv (.str "under") (.str "set") = false := by rw [eqv_s]; decide
@[simp] theorem eqw_10_3 : eqv (.str "under") (.str "part") = false := by rw [eqv_s]; decide
@[simp] theorem eqw_10_4 : eqv (.str "under") (.str "rest") = false := by rw [eqv_s]; decide
@[simp] theorem eqw_10_5 : eqv (.str "under") (.str "any") = false := by rw [eqv_s]; decide
@[simp] theorem eqw_10_6 : eqv (.str "under") (.str "call") = false := by rw [eqv_s]; decide
@[simp] theorem eqw_10_7 : eqv (.str "under") (.str "say") = false := by rw [eqv_s]; decide
@[simp] theorem eqw_10_8 : eqv (.str "under") (.str "when") = false := by rw [eqv_s]; decide
@[simp] theorem eqw_10_9 : eqv (.str "under") (.str "go") = false := by rw [eqv_s]; decide
@[simp] theorem eqw_10_10 : eqv (.str "under") (.str "under") = true := by rw [eqv_s]; decide
@[simp] theorem eqw_10_11 : eqv (.str "under") (.str "same") = false := by rw [eqv_s]; decide
@[simp] theorem eqw_10_12 : eqv (.str "under") (.str "even") = false := by rw [eqv_s]; decide
@[simp] theorem okV11 : eqOk (.str "same") = true := by decide +kernel
@[simp] theorem oknV11 {n : Nat} : okN (n + 1) (.str "same") := ⟨by decide +kernel, by rw [D.py, PyData.depth] <;> omega⟩
@[simp] theorem eqw_11_0 : eqv (.str "same") (.str "if") = false := by rw [eqv_s]; decide
@[simp] theorem eqw_11_1 : eqv (.str "same") (.str "while") = false := by rw [eqv_s]; decide
@[simp] theorem eqw_11_2 : eqv (.str "same") (.str "set") = false := by rw [eqv_s]; decide
@[simp] theorem eqw_11_3 : eqv (.str "same") (.str "part") = false := by rw [eqv_s]; decide
@[simp] theorem eqw_11_4 : eqv (.str "same") (.str "rest") = false := by rw [eqv_s]; decide
@[simp] theorem eqw_11_5 : eqv (.str "same") (.str "any") = false := by rw [eqv_s]; decide
@[simp] theorem eqw_11_6 : eqv (.str "same") (.str "call") = false := by rw [eqv_s]; decide
@[simp] theorem eqw_11_7 : eqv (.str "same") (.str "say") = false := by rw [eqv_s]; decide
@[simp] theorem eqw_11_8 : eqv (.str "same") (.str "when") = false := by rw [eqv_s]; decide
@[simp] theorem eqw_11_9 : eqv (.str "same") (.str "go") = false := by rw [eqv_s]; decide
@[simp] theorem eqw_11_10 : eqv (.str "same") (.str "under") = false := by rw [eqv_s]; decide
@[simp] theorem eqw_11_11 : eqv (.str "same") (.str "same") = true := by rw [eqv_s]; decide
@[simp] theorem eqw_11_12 : eqv (.str "same") (.str "even") = false := by rw [eqv_s]; decide
@[simp] theorem okV12 : eqOk (.str "even") = true := by decide +kernel
@[simp] theorem oknV12 {n : Nat} : okN (n + 1) (.str "even") := ⟨by decide +kernel, by rw [D.py, PyData.depth] <;> omega⟩
@[simp] theorem eqw_12_0 : eqv (.str "even") (.str "if") = false := by rw [eqv_s]; decide
@[simp] theorem eqw_12_1 : eqv (.str "even") (.str "while") = false := by rw [eqv_s]; decide
@[simp] theorem eqw_12_2 : eqv (.str "even") (.str "set") = false := by rw [eqv_s]; decide
@[simp] theorem eqw_12_3 : eqv (.str "even") (.str "part") = false := by rw [eqv_s]; decide
@[simp] theorem eqw_12_4 : eqv (.str "even") (.str "rest") = false := by rw [eqv_s]; decide
@[simp] theorem eqw_12_5 : eqv (.str "even") (.str "any") = false := by rw [eqv_s]; decide
@[simp] theorem eqw_12_6 : eqv (.str "even") (.str "call") = false := by rw [eqv_s]; decide
@[simp] theorem eqw_12_7 : eqv (.str "even") (.str "say") = false := by rw [eqv_s]; decide
@[simp] theorem eqw_12_8 : eqv (.str "even") (.str "when") = false := by rw [eqv_s]; decide
@[simp] theorem eqw_12_9 : eqv (.str "even") (.str "go") = false := by rw [eqv_s]; decide
@[simp] theorem eqw_12_10 : eqv (.str "even") (.str "under") = false := by rw [eqv_s]; decide
@[simp] theorem eqw_12_11 : eqv (.str "even") (.str "same") = false := by rw [eqv_s]; decide
@[simp] theorem eqw_12_12 : eqv (.str "even") (.str "even") = true := by rw [eqv_s]; decide
@[simp] theorem nw_0_1 : ((Str.ofString "if") = (Str.ofString "while")) = False := eq_false (by decide)
@[simp] theorem nw_0_2 : ((Str.ofString "if") = (Str.ofString "set")) = False := eq_false (by decide)
@[simp] theorem nw_0_3 : ((Str.ofString "if") = (Str.ofString "part")) = False := eq_false (by decide)
@[simp] theorem nw_0_4 : ((Str.ofString "if") = (Str.ofString "rest")) = False := eq_false (by decide)
@[simp] theorem nw_0_5 : ((Str.ofString "if") = (Str.ofString "any")) = False := eq_false (by decide)
@[simp] theorem nw_0_6 : ((Str.ofString "if") = (Str.ofString "call")) = False := eq_false (by decide)
@[simp] theorem nw_0_7 : ((Str.ofString "if") = (Str.ofString "say")) = False := eq_false (by decide)
@[simp] theorem nw_0_8 : ((Str.ofString "if") = (Str.ofString "when")) = False := eq_false (by decide)
@[simp] theorem nw_0_9 : ((Str.ofString "if") = (Str.ofString "go")) = False := eq_false (by decide)
@[simp] theorem nw_0_10 : ((Str.ofString "if") = (Str.ofString "under")) = False := eq_false (by decide)
@[simp] theorem nw_0_11 : ((Str.ofString "if") = (Str.ofString "same")) = False := eq_false (by decide)
@[simp] theorem nw_0_12 : ((Str.ofString "if") = (Str.ofString "even")) = False := eq_false (by decide)
@[simp] theorem nw_1_0 : ((Str.ofString "while") = (Str.ofString "if")) = False := eq_false (by decide)
@[simp] theorem nw_1_2 : ((Str.ofString "while") = (Str.ofString "set")) = False := eq_false (by decide)
@[simp] theorem nw_1_3 : ((Str.ofString "while") = (Str.ofString "part")) = False := eq_false (by decide)
@[simp] theorem nw_1_4 : ((Str.ofString "while") = (Str.ofString "rest")) = False := eq_false (by decide)
@[simp] theorem nw_1_5 : ((Str.ofString "while") = (Str.ofString "any")) = False := eq_false (by decide)
@[simp] theorem nw_1_6 : ((Str.ofString "while") = (Str.ofString "call")) = False := eq_false (by decide)
@[simp] theorem nw_1_7 : ((Str.ofString "while") = (Str.ofString "say")) = False := eq_false (by decide)
@[simp] theorem nw_1_8 : ((Str.ofString "while") = (Str.ofString "when")) = False := eq_false (by decide)
@[simp] theorem nw_1_9 : ((Str.ofString "while") = (Str.ofString "go")) = False := eq_false (by decide)
@[simp] theorem nw_1_10 : ((Str.ofString "while") = (Str.ofString "under")) = False := eq_false (by decide)
@[simp] theorem nw_1_11 : ((Str.ofString "while") = (Str.ofString "same")) = False := eq_false (by decide)
@[simp] theorem nw_1_12 : ((Str.ofString "while") = (Str.ofString "even")) = False := eq_false (by decide)
@[simp] theorem nw_2_0 : ((Str.ofString "set") = (Str.ofString "if")) = False := eq_false (by decide)
@[simp] theorem nw_2_1 : ((Str.ofString "set") = (Str.ofString "while")) = False := eq_false (by decide)
@[simp] theorem nw_2_3 : ((Str.ofString "set") = (Str.ofString "part")) = False := eq_false (by decide)
@[simp] theorem nw_2_4 : ((Str.ofString "set") = (Str.ofString "rest")) = False := eq_false (by decide)
@[simp] theorem nw_2_5 : ((Str.ofString "set") = (Str.ofString "any")) = False := eq_false (by decide)
@[simp] theorem nw_2_6 : ((Str.ofString "set") = (Str.ofString "call")) = False := eq_false (by decide)
@[simp] theorem nw_2_7 : ((Str.ofString "set") = (Str.ofString "say")) = False := eq_false (by decide)
@[simp] theorem nw_2_8 : ((Str.ofString "set") = (Str.ofString "when")) = False := eq_false (by decide)
@[simp] theorem nw_2_9 : ((Str.ofString "set") = (Str.ofString "go")) = False := eq_false (by decide)
@[simp] theorem nw_2_10 : ((Str.ofString "set") = (Str.ofString "under")) = False := eq_false (by decide)
@[simp] theorem nw_2_11 : ((Str.ofString "set") = (Str.ofString "same")) = False := eq_false (by decide)
@[simp] theorem nw_2_12 : ((Str.ofString "set") = (Str.ofString "even")) = False := eq_false (by decide)
@[simp] theorem nw_3_0 : ((Str.ofString "part") = (Str.ofString "if")) = False := eq_false (by decide)
@[simp] theorem nw_3_1 : ((Str.ofString "part") = (Str.ofString "while")) = False := eq_false (by decide)
@[simp] theorem nw_3_2 : ((Str.ofString "part") = (Str.ofString "set")) = False := eq_false (by decide)
@[simp] theorem nw_3_4 : ((Str.ofString "part") = (Str.ofString "rest")) = False := eq_false (by decide)
@[simp] theorem nw_3_5 : ((Str.ofString "part") = (Str.ofString "any")) = False := eq_false (by decide)
@[simp] theorem nw_3_6 : ((Str.ofString "part") = (Str.ofString "call")) = False := eq_false (by decide)
@[simp] theorem nw_3_7 : ((Str.ofString "part") = (Str.ofString "say")) = False := eq_false (by decide)
@[simp] theorem nw_3_8 : ((Str.ofString "part") = (Str.ofString "when")) = False := eq_false (by decide)
@[simp] theorem nw_3_9 : ((Str.ofString "part") = (Str.ofString "go")) = False := eq_false (by decide)
@[simp] theorem nw_3_10 : ((Str.ofString "part") = (Str.ofString "under")) = False := eq_false (by decide)
@[simp] theorem nw_3_11 : ((Str.ofString "part") = (Str.ofString "same")) = False := eq_false (by decide)
@[simp] theorem nw_3_12 : ((Str.ofString "part") = (Str.ofString "even")) = False := eq_false (by decide)
@[simp] theorem nw_4_0 : ((Str.ofString "rest") = (Str.ofString "if")) = False := eq_false (by decide)
@[simp] theorem nw_4_1 : ((Str.ofString "rest") = (Str.ofString "while")) = False := eq_false (by decide)
@[simp] theorem nw_4_2 : ((Str.ofString "rest") = (Str.ofString "set")) = False := eq_false (by decide)
@[simp] theorem nw_4_3 : ((Str.ofString "rest") = (Str.ofString "part")) = False := eq_false (by decide)
@[simp] theorem nw_4_5 : ((Str.ofString "rest") = (Str.ofString "any")) = False := eq_false (by decide)
@[simp] theorem nw_4_6 : ((Str.ofString "rest") = (Str.ofString "call")) = False := eq_false (by decide)
@[simp] theorem nw_4_7 : ((Str.ofString "rest") = (Str.ofString "say")) = False := eq_false (by decide)
@[simp] theorem nw_4_8 : ((Str.ofString "rest") = (Str.ofString "when")) = False := eq_false (by decide)
@[simp] theorem nw_4_9 : ((Str.ofString "rest") = (Str.ofString "go")) = False := eq_false (by decide)
@[simp] theorem nw_4_10 : ((Str.ofString "rest") = (Str.ofString "under")) = False := eq_false (by decide)
@[simp] theorem nw_4_11 : ((Str.ofString "rest") = (Str.ofString "same")) = False := eq_false (by decide)
@[simp] theorem nw_4_12 : ((Str.ofString "rest") = (Str.ofString "even")) = False := eq_false (by decide)
@[simp] theorem nw_5_0 : ((Str.ofString "any") = (Str.ofString "if")) = False := eq_false (by decide)
@[simp] theorem nw_5_1 : ((Str.ofString "any") = (Str.ofString "while")) = False := eq_false (by decide)
@[simp] theorem nw_5_2 : ((Str.ofString "any") = (Str.ofString "set")) = False := eq_false (by decide)
@[simp] theorem nw_5_3 : ((Str.ofString "any") = (Str.ofString "part")) = False := eq_false (by decide)
@[simp] theorem nw_5_4 : ((Str.ofString "any") = (Str.ofString "rest")) = False := eq_false (by decide)
@[simp] theorem nw_5_6 : ((Str.ofString "any") = (Str.ofString "call")) = False := eq_false (by decide)
@[simp] theorem nw_5_7 : ((Str.ofString "any") = (Str.ofString "say")) = False := eq_false (by decide)
@[simp] theorem nw_5_8 : ((Str.ofString "any") = (Str.ofString "when")) = False := eq_false (by decide)
@[simp] theorem nw_5_9 : ((Str.ofString "any") = (Str.ofString "go")) = False := eq_false (by decide)
@[simp] theorem nw_5_10 : ((Str.ofString "any") = (Str.ofString "under")) = False := eq_false (by decide)
@[simp] theorem nw_5_11 : ((Str.ofString "any") = (Str.ofString "same")) = False := eq_false (by decide)
@[simp] theorem nw_5_12 : ((Str.ofString "any") = (Str.ofString "even")) = False := eq_false (by decide)
@[simp] theorem nw_6_0 : ((Str.ofString "call") = (Str.ofString "if")) = False := eq_false (by decide)
@[simp] theorem nw_6_1 : ((Str.ofString "call") = (Str.ofString "while")) = False := eq_false (by decide)
@[simp] theorem nw_6_2 : ((Str.ofString "call") = (Str.ofString "set")) = False := eq_false (by decide)
@[simp] theorem nw_6_3 : ((Str.ofString "call") = (Str.ofString "part")) = False := eq_false (by decide)
@[simp] theorem nw_6_4 : ((Str.ofString "call") = (Str.ofString "rest")) = False := eq_false (by decide)
@[simp] theorem nw_6_5 : ((Str.ofString "call") = (Str.ofString "any")) = False := eq_false (by decide)
@[simp] theorem nw_6_7 : ((Str.ofString "call") = (Str.ofString "say")) = False := eq_false (by decide)
@[simp] theorem nw_6_8 : ((Str.ofString "call") = (Str.ofString "when")) = False := eq_false (by decide)
@[simp] theorem nw_6_9 : ((Str.ofString "call") = (Str.ofString "go")) = False := eq_false (by decide)
@[simp] theorem nw_6_10 : ((Str.ofString "call") = (Str.ofString "under")) = False := eq_false (by decide)
@[simp] theorem nw_6_11 : ((Str.ofString "call") = (Str.ofString "same")) = False := eq_false (by decide)
@[simp] theorem nw_6_12 : ((Str.ofString "call") = (Str.ofString "even")) = False := eq_false (by decide)
@[simp] theorem nw_7_0 : ((Str.ofString "say") = (Str.ofString "if")) = False := eq_false (by decide)
@[simp] theorem nw_7_1 : ((Str.ofString "say") = (Str.ofString "while")) = False := eq_false (by decide)
@[simp] theorem nw_7_2 : ((Str.ofString "say") = (Str.ofString "set")) = False := eq_false (by decide)
@[simp] theorem nw_7_3 : ((Str.ofString "say") = (Str.ofString "part")) = False := eq_false (by decide)
@[simp] theorem nw_7_4 : ((Str.ofString "say") = (Str.ofString "rest")) = False := eq_false (by decide)
@[simp] theorem nw_7_5 : ((Str.ofString "say") = (Str.ofString "any")) = False := eq_false (by decide)
@[simp] theorem nw_7_6 : ((Str.ofString "say") = (Str.ofString "call")) = False := eq_false (by decide)
@[simp] theorem nw_7_8 : ((Str.ofString "say") = (Str.ofString "when")) = False := eq_false (by decide)
@[simp] theorem nw_7_9 : ((Str.ofString "say") = (Str.ofString "go")) = False := eq_false (by decide)
@[simp] theorem nw_7_10 : ((Str.ofString "say") = (Str.ofString "under")) = False := eq_false (by decide)
@[simp] theorem nw_7_11 : ((Str.ofString "say") = (Str.ofString "same")) = False := eq_false (by decide)
@[simp] theorem nw_7_12 : ((Str.ofString "say") = (Str.ofString "even")) = False := eq_false (by decide)
@[simp] theorem nw_8_0 : ((Str.ofString "when") = (Str.ofString "if")) = False := eq_false (by decide)
@[simp] theorem nw_8_1 : ((Str.ofString "when") = (Str.ofString "while")) = False := eq_false (by decide)
@[simp] theorem nw_8_2 : ((Str.ofString "when") = (Str.ofString "set")) = False := eq_false (by decide)
@[simp] theorem nw_8_3 : ((Str.ofString "when") = (Str.ofString "part")) = False := eq_false (by decide)
@[simp] theorem nw_8_4 : ((Str.ofString "when") = (Str.ofString "rest")) = False := eq_false (by decide)
@[simp] theorem nw_8_5 : ((Str.ofString "when") = (Str.ofString "any")) = False := eq_false (by decide)
@[simp] theorem nw_8_6 : ((Str.ofString "when") = (Str.ofString "call")) = False := eq_false (by decide)
@[simp] theorem nw_8_7 : ((Str.ofString "when") = (Str.ofString "say")) = False := eq_false (by decide)
@[simp] theorem nw_8_9 : ((Str.ofString "when") = (Str.ofString "go")) = False := eq_false (by decide)
@[simp] theorem nw_8_10 : ((Str.ofString "when") = (Str.ofString "under")) = False := eq_false (by decide)
@[simp] theorem nw_8_11 : ((Str.ofString "when") = (Str.ofString "same")) = False := eq_false (by decide)
@[simp] theorem nw_8_12 : ((Str.ofString "when") = (Str.ofString "even")) = False := eq_false (by decide)
@[simp] theorem nw_9_0 : ((Str.ofString "go") = (Str.ofString "if")) = False := eq_false (by decide)
@[simp] theorem nw_9_1 : ((Str.ofString "go") = (Str.ofString "while")) = False := eq_false (by decide)
@[simp] theorem nw_9_2 : ((Str.ofString "go") = (Str.ofString "set")) = False := eq_false (by decide)
@[simp] theorem nw_9_3 : ((Str.ofString "go") = (Str.ofString "part")) = False := eq_false (by decide)
@[simp] theorem nw_9_4 : ((Str.ofString "go") = (Str.ofString "rest")) = False := eq_false (by decide)
@[simp] theorem nw_9_5 : ((Str.ofString "go") = (Str.ofString "any")) = False := eq_false (by decide)
@[simp] theorem nw_9_6 : ((Str.ofString "go") = (Str.ofString "call")) = False := eq_false (by decide)
@[simp] theorem nw_9_7 : ((Str.ofString "go") = (Str.ofString "say")) = False := eq_false (by decide)
@[simp] theorem nw_9_8 : ((Str.ofString "go") = (Str.ofString "when")) = False := eq_false (by decide)
@[simp] theorem nw_9_10 : ((Str.ofString "go") = (Str.ofString "under")) = False := eq_false (by decide)
@[simp] theorem nw_9_11 : ((Str.ofString "go") = (Str.ofString "same")) = False := eq_false (by decide)
@[simp] theorem nw_9_12 : ((Str.ofString "go") = (Str.ofString "even")) = False := eq_false (by decide)
@[simp] theorem nw_10_0 : ((Str.ofString "under") = (Str.ofString "if")) = False := eq_false (by decide)
@[simp] theorem nw_10_1 : ((Str.ofString "under") = (Str.ofString "while")) = False := eq_false (by decide)
@[simp] theorem nw_10_2 : ((Str.ofString "under") = (Str.ofString "set")) = False := eq_false (by decide)
@[simp] theorem nw_10_3 : ((Str.ofString "under") = (Str.ofString "part")) = False := eq_false (by decide)
@[simp] theorem nw_10_4 : ((Str.ofString "under") = (Str.ofString "rest")) = False := eq_false (by decide)
@[simp] theorem nw_10_5 : ((Str.ofString "under") = (Str.ofString "any")) = False := eq_false (by decide)
@[simp] theorem nw_10_6 : ((Str.ofString "under") = (Str.ofString "call")) = False := eq_false (by decide)
@[simp] theorem nw_10_7 : ((Str.ofString "under") = (Str.ofString "say")) = False := eq_false (by decide)
@[simp] theorem nw_10_8 : ((Str.ofString "under") = (Str.ofString "when")) = False := eq_false (by decide)
@[simp] theorem nw_10_9 : ((Str.ofString "under") = (Str.ofString "go")) = False := eq_false (by decide)
@[simp] theorem nw_10_11 : ((Str.ofString "under") = (Str.ofString "same")) = False := eq_false (by decide)
@[simp] theorem nw_10_12 : ((Str.ofString "under") = (Str.ofString "even")) = False := eq_false (by decide)
@[simp] theorem nw_11_0 : ((Str.ofString "same") = (Str.ofString "if")) = False := eq_false (by decide)
@[simp] theorem nw_11_1 : ((Str.ofString "same") = (Str.ofString "while")) = False := eq_false (by decide)
@[simp] theorem nw_11_2 : ((Str.ofString "same") = (Str.ofString "set")) = False := eq_false (by decide)
@[simp] theorem nw_11_3 : ((Str.ofString "same") = (Str.ofString "part")) = False := eq_false (by decide)
@[simp] theorem nw_11_4 : ((Str.ofString "same") = (Str.ofString "rest")) = False := eq_false (by decide)
@[simp] theorem nw_11_5 : ((Str.ofString "same") = (Str.ofString "any")) = False := eq_false (by decide)
@[simp] theorem nw_11_6 : ((Str.ofString "same") = (Str.ofString "call")) = False := eq_false (by decide)
@[simp] theorem nw_11_7 : ((Str.ofString "same") = (Str.ofString "say")) = False := eq_false (by decide)
@[simp] theorem nw_11_8 : ((Str.ofString "same") = (Str.ofString "when")) = False := eq_false (by decide)
@[simp] theorem nw_11_9 : ((Str.ofString "same") = (Str.ofString "go")) = False := eq_false (by decide)
@[simp] theorem nw_11_10 : ((Str.ofString "same") = (Str.ofString "under")) = False := eq_false (by decide)
@[simp] theorem nw_11_12 : ((Str.ofString "same") = (Str.ofString "even")) = False := eq_false (by decide)
@[simp] theorem nw_12_0 : ((Str.ofString "even") = (Str.ofString "if")) = False := eq_false (by decide)
@[simp] theorem nw_12_1 : ((Str.ofString "even") = (Str.ofString "while")) = False := eq_false (by decide)
@[simp] theorem nw_12_2 : ((Str.ofString "even") = (Str.ofString "set")) = False := eq_false (by decide)
@[simp] theorem nw_12_3 : ((Str.ofString "even") = (Str.ofString "part")) = False := eq_false (by decide)
@[simp] theorem nw_12_4 : ((Str.ofString "even") = (Str.ofString "rest")) = False := eq_false (by decide)
@[simp] theorem nw_12_5 : ((Str.ofString "even") = (Str.ofString "any")) = False := eq_false (by decide)
@[simp] theorem nw_12_6 : ((Str.ofString "even") = (Str.ofString "call")) = False := eq_false (by decide)
@[simp] theorem nw_12_7 : ((Str.ofString "even") = (Str.ofString "say")) = False := eq_false (by decide)
@[simp] theorem nw_12_8 : ((Str.ofString "even") = (Str.ofString "when")) = False := eq_false (by decide)
@[simp] theorem nw_12_9 : ((Str.ofString "even") = (Str.ofString "go")) = False := eq_false (by decide)
@[simp] theorem nw_12_10 : ((Str.ofString "even") = (Str.ofString "under")) = False := eq_false (by decide)
@[simp] theorem nw_12_11 : ((Str.ofString "even") = (Str.ofString "same")) = False := eq_false (by decide)
end words
end Sr
set_option Elab.async false
set_option linter.all false
set_option maxRecDepth 100000
set_option maxHeartbeats 4000000
namespace Sr
open PySem PySem.Spec PyProof.Rows L2
theorem unL_mem {x : D} : ∀ {xs : List D}, unL xs = true → x ∈ xs → x.un = true
  | [], _, h => by cases h
  | y :: r, hu, h => by
    rw [unL, Bool.and_eq_true] at hu
    rcases List.mem_cons.mp h with rfl | h
    · exact hu.1
    · exact unL_mem hu.2 h
/-! ### what is asked -/
@[simp] theorem eqv_s12 (a b : Str) : eqv (.str a) (.str b) = decide (a = b) := eqv_s a b
/-- what comes of an ask: it passes, or a class comes out -/
def Ak (m0 : Nat) (d : Df) (ds : List D) : Option Nat → Prop
  | none => ∀ M, m0 ≤ M → runDf (fnsN P M) d ds = some (.non, ds.map fun _ => none)
  | some c => ∀ M, m0 ≤ M → excDf (fnsN P M) d ds = some c
theorem Ak.le {m0 m1 : Nat} {d : Df} {ds : List D} {o : Option Nat} (h : Ak m0 d ds o) (l : m0 ≤ m1) : Ak m1 d ds o := by
  cases o with
  | none => exact fun M hM => h M (by omega)
  | some c => exact fun M hM => h M (by omega)
/-- a function of a program -/
structure Fe where
  p : Int
  n : Int
  b : D
def Fe.d (f : Fe) : D := .tup [.int f.p, .int f.n, f.b]
/-- a program of which something is known -/
structure Pk (Pg : D) (N a : Nat) (p n : Int) (pre : Nat → Int) : Prop where
  un : Pg.un = true
  len : lenD Pg = some (.int N)
  at_ : ∃ f : Fe, f.b.un = true ∧ f.p = p ∧ f.n = n ∧ atD Pg (a : Int) = some f.d
  pre : ∀ i, i < a → ∃ f : Fe, f.b.un = true ∧ f.p = pre i ∧ atD Pg (i : Int) = some f.d
section
variable {Pg : D} {N a : Nat} {p n : Int} {pre : Nat → Int}
def flO : Option Nat → Fl
  | none => .nx
  | some c => .xc c
theorem ak_of {m0 : Nat} {d : Df} {ds : List D} {o : Option Nat} (hl : ds.length = d.io.length) (hio : ∀ e, outs d.io e = ds.map fun _ => none) (h : ∀ M, m0 ≤ M → sat (evS (fnsN P M) d.body (ds.map some ++ List.replicate (d.names - ds.length) none)) fun f _ => f = flO o) : Ak m0 d ds o := by
  cases o with
  | none => exact fun M hM => run_of hl (sat_mono (h M hM) fun f e q => by rw [q]; exact ⟨rfl, hio e⟩)
  | some c => exact fun M hM => exc_of hl (sat_mono (h M hM) fun f e q => q)
theorem sat_exO {Φ : Fs} {e : Env} {R : Fl → Env → Prop} {f : Nat} {a : T} (hio : (Φ.io f).all (!·) = true) (o : Option Nat)
    (h : match o with
      | none => sat (evE Φ (.call f a) e) fun _ e' => R .nx e'
      | some c => sat (evG Φ a (Φ.io f) e) fun as e' => opt (agD e' e' as) fun ds => Φ.run f ds = none ∧ Φ.exc f ds = some c ∧ R (.xc c) (agFz as e')) : sat (evS Φ (.exX (.call f a)) e) R := by
  cases o with
  | none => exact sat_exX h
  | some c => exact sat_exX_no h hio
theorem ak_box (k : Pk Pg N a p n pre) (x : Int) : Ak 0 d_ask_box_x [Pg, .int a, .int x] (if x < 1 ∨ n < x then some 4 else if x ≤ p ∧ (a : Int) ≠ (N : Int) - 1 then some 5 else none) := by
  obtain ⟨f, fb, rfl, rfl, h⟩ := k.at_
  have un := k.un
  have ln := k.len
  have sh := shr_of_un Pg un
  refine ak_of rfl (fun _ => rfl) fun M _ => ?_
  by_cases c1 : x < 1 ∨ f.n < x
  · rw [if_pos c1]
    rcases c1 with c1 | c1 <;> simp [d_ask_box_x, h, Fe.d, fb, c1, flO]
  · rw [if_neg c1]
    have c2 : ¬ x < 1 := fun z => c1 (.inl z)
    have c3 : ¬ f.n < x := fun z => c1 (.inr z)
    by_cases c4 : x ≤ f.p ∧ (a : Int) ≠ (N : Int) - 1
    · rw [if_pos c4]
      simp [d_ask_box_x, h, Fe.d, fb, c2, c3, c4.1, c4.2, ln, flO]
    · rw [if_neg c4]
      by_cases c5 : x ≤ f.p
      · have c6 : (a : Int) = (N : Int) - 1 := Classical.byContradiction fun z => c4 ⟨c5, z⟩
        have c7 : ((a : Int) = (N : Int) - 1) = True := eq_true c6
        simp [d_ask_box_x, h, Fe.d, fb, c2, c3, c5, c7, ln, flO]
      · simp [d_ask_box_x, h, Fe.d, fb, c2, c3, c5, flO]
theorem ak_sum (k : Pk Pg N a p n pre) {one : D} {l : Int} (hu : one.un = true) (hl : lenD one = some (.int l)) : Ak 0 d_ask_sum_x [Pg, .int a, one] (if l ≠ n + 1 then some 6 else none) := by
  obtain ⟨f, fb, rfl, rfl, h⟩ := k.at_
  refine ak_of rfl (fun _ => rfl) fun M _ => ?_
  by_cases c : l = f.n + 1
  · rw [if_neg (fun z => z c)]
    simp [d_ask_sum_x, h, Fe.d, fb, hl, c, flO]
  · rw [if_pos c]
    simp [d_ask_sum_x, h, Fe.d, fb, hl, c, flO]
theorem ak_step (d : Int) : Ak 0 d_ask_step_x [.int d] (if d < 1 then some 7 else none) := by
  refine ak_of rfl (fun _ => rfl) fun M _ => ?_
  by_cases c : d < 1 <;> simp [d_ask_step_x, c, flO]
/-- a piece is asked: a sum -/
theorem ak_claim (k : Pk Pg N a p n pre) {w : Str} {one : D} {d : Option Int} {l : Int} (hu : one.un = true) (hl : lenD one = some (.int l)) (hw : w = "even" ↔ d ≠ none) (hok : eqOk (.str w) = true) : Ak 1 d_ask_claim_x [Pg, .int a, .tup (match d with | none => [.str w, one] | some d => [.str w, one, .int d])] (if l ≠ n + 1 then some 6 else match d with | none => none | some d => if d < 1 then some 7 else none) := by
  have sm := ak_sum k hu hl
  have un := k.un
  have sh := shr_of_un Pg un
  have os := shr_of_un one hu
  refine ak_of rfl (fun _ => rfl) fun M hM => ?_
  obtain ⟨M, rfl⟩ : ∃ M', M = M' + 1 := ⟨M - 1, by omega⟩
  by_cases c : l ≠ n + 1
  · rw [if_pos c] at sm ⊢
    have e1 := sm M (by omega)
    have e2 := exc_run e1
    simp only [d_ask_claim_x, sat_seq]
    refine sat_exO rfl (some 6) ?_
    cases d <;> simp [e1, e2, un, sh, hu, os, flO]
  · rw [if_neg c] at sm ⊢
    have e1 := sm M (by omega)
    simp only [d_ask_claim_x, sat_seq]
    refine sat_exO rfl none ?_
    cases d with
    | none =>
      have hw' : ¬ w = "even" := fun z => (hw.mp z) rfl
      simp [e1, un, sh, hu, os, hok, hw', flO, agFz_var]
    | some d =>
      have hw' : w = "even" := hw.mpr (by simp)
      subst hw'
      simp [e1, un, sh, hu, os, hok, flO, agFz_var]
      have st := ak_step d
      by_cases c2 : d < 1
      · rw [if_pos c2] at st ⊢
        have f1 := st M (by omega)
        have f2 := exc_run f1
        refine sat_exO rfl (some 7) ?_
        simp [f1, f2, un, sh, hu, os, flO]
      · rw [if_neg c2] at st ⊢
        have f1 := st M (by omega)
        refine sat_exO rfl none ?_
        simp [f1, un, sh, hu, os, flO, agFz_var]
theorem ak_stretch {lo hi : Option Int} : (∀ M, (∀ a b, lo = some a → hi = some b → a ≤ b) → runDf (fnsN P M) d_stretch_x [dO lo, dO hi] = some (.tup [dO lo, dO hi], [none, none])) ∧ ∀ M a b, lo = some a → hi = some b → b < a → excDf (fnsN P M) d_stretch_x [dO lo, dO hi] = some 1 := by
  refine ⟨fun M h => run_of rfl ?_, fun M a b h1 h2 h3 => exc_of rfl ?_⟩
  · cases lo with
    | none => cases hi <;> simp [d_stretch_x]
    | some a =>
      cases hi with
      | none => simp [d_stretch_x]
      | some b =>
        have := h a b rfl rfl
        have c : ¬ b < a := by omega
        simp [d_stretch_x, c]
  · subst h1 h2
    simp [d_stretch_x, h3]
/-- a row of sums: all over so many boxes, or one is not -/
def Rw (n : Int) (rs : List D) : Option Nat → Prop
  | none => ∀ r ∈ rs, lenD r = some (.int (n + 1))
  | some c => c = 6 ∧ ∃ (i : Nat) (r : D) (l : Int), rs[i]? = some r ∧ lenD r = some (.int l) ∧ l ≠ n + 1 ∧ ∀ (j : Nat) (r' : D), j < i → rs[j]? = some r' → lenD r' = some (.int (n + 1))
/-- the sums of a call -/
theorem ak_call (k : Pk Pg N a p n pre) {x f : Int} {row : D} {rs : List D} {o o1 : Option Nat} (hr : row = .lst false rs) (hu : unL rs = true)
    (ho : o = if x < 1 ∨ n < x then some 4 else if x ≤ p ∧ (a : Int) ≠ (N : Int) - 1 then some 5 else if f < 0 ∨ (a : Int) ≤ f then some 8 else if (rs.length : Int) ≠ pre f.toNat then some 8 else o1) (hl : Rw n rs o1) : Ak 1 d_ask_call_x [Pg, .int a, .tup [.str "call", .int x, .int f, row]] o := by
  subst hr
  have bx := ak_box k x
  have un := k.un
  have sh := shr_of_un Pg un
  have rsh := shrL_of_un rs hu
  refine ak_of rfl (fun _ => rfl) fun M hM => ?_
  obtain ⟨M, rfl⟩ : ∃ M', M = M' + 1 := ⟨M - 1, by omega⟩
  by_cases c1 : x < 1 ∨ n < x
  · rw [if_pos c1] at bx ho
    subst ho
    have e1 := bx M (by omega)
    have e2 := exc_run e1
    simp only [d_ask_call_x, sat_seq]
    refine sat_exO rfl (some 4) ?_
    simp [e1, e2, un, sh, hu, rsh, flO]
  · rw [if_neg c1] at bx ho
    by_cases c2 : x ≤ p ∧ (a : Int) ≠ (N : Int) - 1
    · rw [if_pos c2] at bx ho
      subst ho
      have e1 := bx M (by omega)
      have e2 := exc_run e1
      simp only [d_ask_call_x, sat_seq]
      refine sat_exO rfl (some 5) ?_
      simp [e1, e2, un, sh, hu, rsh, flO]
    · rw [if_neg c2] at bx ho
      have e1 := bx M (by omega)
      simp only [d_ask_call_x, sat_seq]
      refine sat_exO rfl none ?_
      by_cases c3 : f < 0 ∨ (a : Int) ≤ f
      · rw [if_pos c3] at ho
        subst ho
        rcases c3 with c3 | c3
        · simp [e1, un, sh, hu, rsh, flO, agFz_var, c3]
        · by_cases c4 : f < 0
          · simp [e1, un, sh, hu, rsh, flO, agFz_var, c4]
          · have c5 : ¬ f < (a : Int) := by omega
            simp [e1, un, sh, hu, rsh, flO, agFz_var, c4, c3]
      · rw [if_neg c3] at ho
        have c4 : ¬ f < 0 := fun z => c3 (.inl z)
        have c5 : ¬ (a : Int) ≤ f := fun z => c3 (.inr z)
        obtain ⟨g, gb, gp, gat⟩ := k.pre f.toNat (by omega)
        rw [show ((f.toNat : Nat) : Int) = f by omega] at gat
        by_cases c6 : (rs.length : Int) ≠ pre f.toNat
        · rw [if_pos c6] at ho
          subst ho
          rw [← gp] at c6
          simp [e1, un, sh, hu, rsh, flO, agFz_var, c4, c5, gat, Fe.d, gb, c6]
        · rw [if_neg c6] at ho
          have c7 : (rs.length : Int) = g.p := by rw [gp]; exact Classical.not_not.mp c6
          subst ho
          have unr : ∀ (i : Nat) r, rs[i]? = some r → r.un = true := fun i r h => unL_mem hu (List.mem_of_getElem? h)
          simp [e1, un, sh, hu, rsh, flO, agFz_var, c4, c5, gat, Fe.d, gb, c7]
          cases o with
          | none =>
            refine sat_forI (fun i e => e = [some Pg, some (.int (a : Int)), some (.tup [.str "call", .int x, .int f, .lst false rs]), none]) rfl ?_ ?_
            · rintro i r e hi rfl
              have ur := unr i r hi
              have rsr := shr_of_un r ur
              have sm := ak_sum k ur (hl r (List.mem_of_getElem? hi))
              rw [if_neg (fun z => z rfl)] at sm
              have f1 := sm M (by omega)
              simp only [bind1, opt_some, sat_seq]
              refine sat_exO rfl none ?_
              simp [f1, un, sh, ur, rsr, hu, rsh, agFz_var]
            · rintro e rfl
              simp
          | some c =>
            obtain ⟨rfl, i, r, l, hi, hl1, hl2, hl3⟩ := hl
            refine sat_forI (fun j e => j ≤ i ∧ e = [some Pg, some (.int (a : Int)), some (.tup [.str "call", .int x, .int f, .lst false rs]), none]) ⟨Nat.zero_le _, rfl⟩ ?_ ?_
            · rintro j r' e hj ⟨hji, rfl⟩
              have ur := unr j r' hj
              have rsr := shr_of_un r' ur
              by_cases c : j = i
              · subst c
                rw [hi] at hj
                cases hj
                have sm := ak_sum k ur hl1
                rw [if_pos hl2] at sm
                have f1 := sm M (by omega)
                have f2 := exc_run f1
                simp only [bind1, opt_some, sat_seq]
                refine sat_exO rfl (some 6) ?_
                simp [f1, f2, un, sh, ur, rsr, hu, rsh, agFz_var]
              · have sm := ak_sum k ur (hl3 j r' (by omega) hj)
                rw [if_neg (fun z => z rfl)] at sm
                have f1 := sm M (by omega)
                simp only [bind1, opt_some, sat_seq]
                refine sat_exO rfl none ?_
                simp [f1, un, sh, ur, rsr, hu, rsh, agFz_var]
                omega
            · rintro e ⟨hji, rfl⟩
              have := (List.getElem?_eq_some_iff.mp hi).1
              omega
/-- pieces asked one by one: all pass, or one lets a class out -/
def Bw (m0 : Nat) (d : Df) (Pg : D) (a : Nat) (ss : List D) : Option Nat → Prop
  | none => ∀ s ∈ ss, Ak m0 d [Pg, .int a, s] none
  | some c => ∃ (i : Nat) (s : D), ss[i]? = some s ∧ Ak m0 d [Pg, .int a, s] (some c) ∧ ∀ (j : Nat) (s' : D), j < i → ss[j]? = some s' → Ak m0 d [Pg, .int a, s'] none
theorem ak_body (k : Pk Pg N a p n pre) {ss : List D} {m0 : Nat} {o : Option Nat} (hu : unL ss = true) (h : Bw m0 d_ask_statement_x Pg a ss o) : Ak (m0 + 1) d_ask_body_x [Pg, .int a, .lst false ss] o := by
  have un := k.un
  have sh := shr_of_un Pg un
  have rsh := shrL_of_un ss hu
  have unr : ∀ (i : Nat) r, ss[i]? = some r → r.un = true := fun i r h => unL_mem hu (List.mem_of_getElem? h)
  refine ak_of rfl (fun _ => rfl) fun M hM => ?_
  obtain ⟨M, rfl⟩ : ∃ M', M = M' + 1 := ⟨M - 1, by omega⟩
  cases o with
  | none =>
    simp [d_ask_body_x, rsh, hu]
    refine sat_forI (fun i e => e = [some Pg, some (.int (a : Int)), some (.lst false ss), none]) rfl ?_ ?_
    · rintro i r e hi rfl
      have ur := unr i r hi
      have rsr := shr_of_un r ur
      have f1 := h r (List.mem_of_getElem? hi) M (by omega)
      simp only [bind1, opt_some, sat_seq]
      refine sat_exO rfl none ?_
      simp [f1, un, sh, ur, rsr, hu, rsh, agFz_var]
    · rintro e rfl
      simp [flO]
  | some c =>
    obtain ⟨i, r, hi, hc, hp⟩ := h
    simp [d_ask_body_x, rsh, hu]
    refine sat_forI (fun j e => j ≤ i ∧ e = [some Pg, some (.int (a : Int)), some (.lst false ss), none]) ⟨Nat.zero_le _, rfl⟩ ?_ ?_
    · rintro j r' e hj ⟨hji, rfl⟩
      have ur := unr j r' hj
      have rsr := shr_of_un r' ur
      by_cases cc : j = i
      · subst cc
        rw [hi] at hj
        cases hj
        have f1 := hc M (by omega)
        have f2 := exc_run f1
        simp only [bind1, opt_some, sat_seq]
        refine sat_exO rfl (some c) ?_
        simp [f1, f2, un, sh, ur, rsr, hu, rsh, agFz_var, flO]
      · have f1 := hp j r' (by omega) hj M (by omega)
        simp only [bind1, opt_some, sat_seq]
        refine sat_exO rfl none ?_
        simp [f1, un, sh, ur, rsr, hu, rsh, agFz_var]
        omega
    · rintro e ⟨hji, rfl⟩
      have := (List.getElem?_eq_some_iff.mp hi).1
      omega
/-- say, if, while -/
theorem ak_nest (k : Pk Pg N a p n pre) {w : Str} {cl : D} {bs : List D} {m0 : Nat} {oc ob : Option Nat} (hw : w = "say" ∨ w = "if" ∨ w = "while") (hcu : cl.un = true) (hu : unL bs = true) (h1 : Ak (m0 + 1) d_ask_claim_x [Pg, .int a, cl] oc) (h2 : Bw (m0 + 1) d_ask_body_x Pg a bs ob) : Ak (m0 + 2) d_ask_statement_x [Pg, .int a, .tup (.str w :: cl :: bs)] (match oc with | some c => some c | none => ob) := by
  have un := k.un
  have sh := shr_of_un Pg un
  have rsh := shrL_of_un bs hu
  have csh := shr_of_un cl hcu
  have unr : ∀ (i : Nat) r, bs[i]? = some r → r.un = true := fun i r h => unL_mem hu (List.mem_of_getElem? h)
  have hww : eqOk (.str w) = true := by rcases hw with rfl | rfl | rfl <;> simp
  have sl : slD (.tup (.str w :: cl :: bs)) (some 2) none = some (.tup bs) := by
    simp [slD, hcu, hu, cutD, HT.sIx]
  refine ak_of rfl (fun _ => rfl) fun M hM => ?_
  obtain ⟨M, rfl⟩ : ∃ M', M = M' + 1 := ⟨M - 1, by omega⟩
  simp only [d_ask_statement_x]
  obtain ⟨S, hS⟩ : ∃ S : D, S = .tup (.str w :: cl :: bs) := ⟨_, rfl⟩
  have S0 : atD S 0 = some (.str w) := by rw [hS]; simp
  have S1 : atD S 1 = some cl := by rw [hS]; simp
  have Su : S.un = true := by rw [hS]; simp [hcu, hu]
  rw [← hS] at sl ⊢
  refine sat_cut (fun e => e = [some Pg, some (.int (a : Int)), some S, some (.str w), none]) (by simp [S0, Su]) ?_
  rintro e rfl
  rcases hw with rfl | rfl | rfl
  all_goals
    simp
    cases oc with
    | some c =>
      have f1 := h1 M (by omega)
      have f2 := exc_run f1
      refine sat_exO rfl (some c) ?_
      simp [f1, f2, un, sh, hcu, csh, S1, Su, flO]
    | none =>
      have f1 := h1 M (by omega)
      refine sat_exO rfl none ?_
      simp [f1, un, sh, hcu, csh, S1, Su, agFz_var, sl, rsh]
      cases ob with
      | none =>
        refine sat_forI (fun i e => e = [some Pg, some (.int (a : Int)), some S, some (.str _), none]) rfl ?_ ?_
        · rintro i r e hi rfl
          have ur := unr i r hi
          have rsr := shr_of_un r ur
          have f1 := h2 r (List.mem_of_getElem? hi) M (by omega)
          simp only [bind1, opt_some, sat_seq]
          refine sat_exO rfl none ?_
          simp [f1, un, sh, ur, rsr, agFz_var]
        · rintro e rfl
          simp [flO]
      | some c =>
        obtain ⟨i, r, hi, hc, hp⟩ := h2
        refine sat_forI (fun j e => j ≤ i ∧ e = [some Pg, some (.int (a : Int)), some S, some (.str _), none]) ⟨Nat.zero_le _, rfl⟩ ?_ ?_
        · rintro j r' e hj ⟨hji, rfl⟩
          have ur := unr j r' hj
          have rsr := shr_of_un r' ur
          by_cases cc : j = i
          · subst cc
            rw [hi] at hj
            cases hj
            have f1 := hc M (by omega)
            have f2 := exc_run f1
            simp only [bind1, opt_some, sat_seq]
            refine sat_exO rfl (some c) ?_
            simp [f1, f2, un, sh, ur, rsr, agFz_var, flO]
          · have f1 := hp j r' (by omega) hj M (by omega)
            simp only [bind1, opt_some, sat_seq]
            refine sat_exO rfl none ?_
            simp [f1, un, sh, ur, rsr, agFz_var]
            omega
        · rintro e ⟨hji, rfl⟩
          have := (List.getElem?_eq_some_iff.mp hi).1
          omega
/-- one ask behind the other -/
def thnO (o o' : Option Nat) : Option Nat := match o with
  | some c => some c
  | none => o'
/-- set, part, rest -/
theorem ak_set (k : Pk Pg N a p n pre) {w : Str} {x : Int} {one : D} {d : Option Int} {l : Int} (hw : (w = "set" ∧ d = none) ∨ ((w = "part" ∨ w = "rest") ∧ d ≠ none)) (hu : one.un = true) (hl : lenD one = some (.int l)) : Ak 1 d_ask_statement_x [Pg, .int a, .tup (match d with | none => [.str w, .int x, one] | some d => [.str w, .int x, one, .int d])]
    (thnO (if x < 1 ∨ n < x then some 4 else if x ≤ p ∧ (a : Int) ≠ (N : Int) - 1 then some 5 else none) (thnO (if l ≠ n + 1 then some 6 else none) (match d with | none => none | some d => if d < 1 then some 7 else none))) := by
  have bx := ak_box k x
  have sm := ak_sum k hu hl
  have un := k.un
  have sh := shr_of_un Pg un
  have os := shr_of_un one hu
  obtain ⟨o1, ho1⟩ : ∃ o1, o1 = (if x < 1 ∨ n < x then some 4 else if x ≤ p ∧ (a : Int) ≠ (N : Int) - 1 then some 5 else none) := ⟨_, rfl⟩
  obtain ⟨o2, ho2⟩ : ∃ o2, o2 = (if l ≠ n + 1 then some 6 else none) := ⟨_, rfl⟩
  rw [← ho1] at bx ⊢
  rw [← ho2] at sm ⊢
  refine ak_of rfl (fun _ => rfl) fun M hM => ?_
  obtain ⟨M, rfl⟩ : ∃ M', M = M' + 1 := ⟨M - 1, by omega⟩
  have hok : eqOk (.str w) = true := by rcases hw with ⟨rfl, _⟩ | ⟨rfl | rfl, _⟩ <;> simp
  obtain ⟨S, hS⟩ : ∃ S : D, S = .tup (match d with | none => [.str w, .int x, one] | some d => [.str w, .int x, one, .int d]) := ⟨_, rfl⟩
  have S0 : atD S 0 = some (.str w) := by rw [hS]; cases d <;> simp
  have S1 : atD S 1 = some (.int x) := by rw [hS]; cases d <;> simp
  have S2 : atD S 2 = some one := by rw [hS]; cases d <;> simp
  have S3 : ∀ d', d = some d' → atD S 3 = some (.int d') := fun d' h => by subst h; rw [hS]; simp
  have Su : S.un = true := by rw [hS]; cases d <;> simp [hu]
  rw [← hS]
  simp only [d_ask_statement_x]
  refine sat_cut (fun e => e = [some Pg, some (.int (a : Int)), some S, some (.str w), none]) (by simp [S0, Su]) ?_
  rintro e rfl
  have hnest : ¬ (w = "say") ∧ ¬ (w = "if") ∧ ¬ (w = "while") ∧ ¬ (w = "call") ∧ ¬ (w = "any") := by rcases hw with ⟨rfl, _⟩ | ⟨rfl | rfl, _⟩ <;> simp
  obtain ⟨n1, n2, n3, n4, n5⟩ := hnest
  simp [hok, n1, n2, n3, n4]
  cases o1 with
  | some c =>
    have f1 := bx M (by omega)
    have f2 := exc_run f1
    refine sat_exO rfl (some c) ?_
    simp [f1, f2, un, sh, S1, Su, flO, thnO]
  | none =>
    have f1 := bx M (by omega)
    refine sat_exO rfl none ?_
    simp [f1, un, sh, S1, Su, agFz_var, hok, n5]
    cases o2 with
    | some c =>
      have f1 := sm M (by omega)
      have f2 := exc_run f1
      refine sat_exO rfl (some c) ?_
      simp [f1, f2, un, sh, S2, Su, hu, os, flO, thnO]
    | none =>
      have f1 := sm M (by omega)
      refine sat_exO rfl none ?_
      simp [f1, un, sh, S2, Su, hu, os, agFz_var, hok]
      cases d with
      | none =>
        have : w = "set" := by
          rcases hw with ⟨h, _⟩ | ⟨_, h⟩
          · exact h
          · exact absurd rfl h
        subst this
        simp [flO, thnO]
      | some d =>
        have st := ak_step d
        have S3' := S3 d rfl
        have hw' : ¬ w = "set" := by
          rcases hw with ⟨_, h⟩ | ⟨h | h, _⟩
          · cases h
          · rw [h]; simp
          · rw [h]; simp
        simp [hw']
        by_cases c2 : d < 1
        · rw [if_pos c2] at st
          have f1 := st M (by omega)
          have f2 := exc_run f1
          refine sat_exO rfl (some 7) ?_
          simp [f1, f2, un, sh, S3', Su, c2, flO, thnO]
        · rw [if_neg c2] at st
          have f1 := st M (by omega)
          refine sat_exO rfl none ?_
          simp [f1, un, sh, S3', Su, c2, flO, agFz_var, thnO]
/-- any -/
theorem ak_any (k : Pk Pg N a p n pre) {x : Int} {lo hi : Option Int} {o2 : Option Nat} (ho2 : (o2 = none ∧ ∀ a b, lo = some a → hi = some b → a ≤ b) ∨ (o2 = some 1 ∧ ∃ a b, lo = some a ∧ hi = some b ∧ b < a)) : Ak 1 d_ask_statement_x [Pg, .int a, .tup [.str "any", .int x, dO lo, dO hi]]
    (thnO (if x < 1 ∨ n < x then some 4 else if x ≤ p ∧ (a : Int) ≠ (N : Int) - 1 then some 5 else none) o2) := by
  have bx := ak_box k x
  have un := k.un
  have sh := shr_of_un Pg un
  obtain ⟨o1, ho1⟩ : ∃ o1, o1 = (if x < 1 ∨ n < x then some 4 else if x ≤ p ∧ (a : Int) ≠ (N : Int) - 1 then some 5 else none) := ⟨_, rfl⟩
  rw [← ho1] at bx ⊢
  refine ak_of rfl (fun _ => rfl) fun M hM => ?_
  obtain ⟨M, rfl⟩ : ∃ M', M = M' + 1 := ⟨M - 1, by omega⟩
  obtain ⟨S, hS⟩ : ∃ S : D, S = .tup [.str "any", .int x, dO lo, dO hi] := ⟨_, rfl⟩
  have S0 : atD S 0 = some (.str "any") := by rw [hS]; simp
  have S1 : atD S 1 = some (.int x) := by rw [hS]; simp
  have S2 : atD S 2 = some (dO lo) := by rw [hS]; simp
  have S3 : atD S 3 = some (dO hi) := by rw [hS]; simp
  have Su : S.un = true := by rw [hS]; simp
  rw [← hS]
  simp only [d_ask_statement_x]
  refine sat_cut (fun e => e = [some Pg, some (.int (a : Int)), some S, some (.str "any"), none]) (by simp [S0, Su]) ?_
  rintro e rfl
  simp
  cases o1 with
  | some c =>
    have f1 := bx M (by omega)
    have f2 := exc_run f1
    refine sat_exO rfl (some c) ?_
    simp [f1, f2, un, sh, S1, Su, flO, thnO]
  | none =>
    have f1 := bx M (by omega)
    refine sat_exO rfl none ?_
    simp [f1, un, sh, S1, Su, agFz_var]
    rcases ho2 with ⟨rfl, h⟩ | ⟨rfl, b1, b2, h1, h2, h3⟩
    · have f1 := ak_stretch.1 M h
      refine sat_exO rfl none ?_
      simp [f1, S2, S3, Su, flO, thnO, agFz_var]
    · have f1 := ak_stretch.2 M b1 b2 h1 h2 h3
      have f2 := exc_run f1
      refine sat_exO rfl (some 1) ?_
      simp [f1, f2, S2, S3, Su, flO, thnO]
theorem ak_calls (k : Pk Pg N a p n pre) {x f : Int} {row : D} {o : Option Nat} (hu : row.un = true) (h : Ak 1 d_ask_call_x [Pg, .int a, .tup [.str "call", .int x, .int f, row]] o) : Ak 2 d_ask_statement_x [Pg, .int a, .tup [.str "call", .int x, .int f, row]] o := by
  have un := k.un
  have sh := shr_of_un Pg un
  refine ak_of rfl (fun _ => rfl) fun M hM => ?_
  obtain ⟨M, rfl⟩ : ∃ M', M = M' + 1 := ⟨M - 1, by omega⟩
  obtain ⟨S, hS⟩ : ∃ S : D, S = .tup [.str "call", .int x, .int f, row] := ⟨_, rfl⟩
  have S0 : atD S 0 = some (.str "call") := by rw [hS]; simp
  have Su : S.un = true := by rw [hS]; simp [hu]
  have Ss := shr_of_un S Su
  rw [← hS] at h ⊢
  simp only [d_ask_statement_x]
  refine sat_cut (fun e => e = [some Pg, some (.int (a : Int)), some S, some (.str "call"), none]) (by simp [S0, Su]) ?_
  rintro e rfl
  simp
  cases o with
  | some c =>
    have f1 := h M (by omega)
    have f2 := exc_run f1
    refine sat_exO rfl (some c) ?_
    simp [f1, f2, un, sh, Su, Ss, flO]
  | none =>
    have f1 := h M (by omega)
    refine sat_exO rfl none ?_
    simp [f1, un, sh, Su, Ss, flO, agFz_var]
end
/-! ### the whole program -/
def pgD (o : Bool) (fs : List Fe) : D := .lst o (fs.map Fe.d)
def shp (f : Fe) : Bool := decide (f.n < 1 ∨ f.p < 0 ∨ f.n < f.p)
/-- what is asked function by function -/
def Ww (m0 : Nat) (Pg : D) (fs : List Fe) : Option Nat → Prop
  | none => ∀ (i : Nat) (f : Fe), fs[i]? = some f → shp f = false ∧ Ak m0 d_ask_body_x [Pg, .int i, f.b] none
  | some c => ∃ (i : Nat) (f : Fe), fs[i]? = some f ∧ ((shp f = true ∧ c = 3) ∨ (shp f = false ∧ Ak m0 d_ask_body_x [Pg, .int i, f.b] (some c))) ∧ ∀ (j : Nat) (g : Fe), j < i → fs[j]? = some g → shp g = false ∧ Ak m0 d_ask_body_x [Pg, .int j, g.b] none
def fsU (fs : List Fe) : Prop := ∀ f ∈ fs, f.b.un = true
theorem pgD_un {o : Bool} : ∀ {fs : List Fe}, fsU fs → unL (fs.map Fe.d) = true
  | [], _ => rfl
  | f :: r, h => by
    have h1 := h f (by simp)
    have h2 := pgD_un (o := o) (fs := r) fun g hg => h g (by simp [hg])
    simp [Fe.d, h1, h2]
/-- what well_made comes to -/
def Mw (m0 : Nat) (pg : D) : Option Nat → Prop
  | none => ∀ M, m0 ≤ M → runDf (fnsN P M) d_well_made_x [pg] = some (.bl true, [none])
  | some c => ∀ M, m0 ≤ M → excDf (fnsN P M) d_well_made_x [pg] = some c
theorem mw_nil : Mw 0 (pgD false []) (some 3) := by
  intro M hM
  refine exc_of rfl ?_
  simp [d_well_made_x, pgD]
theorem mw_of {fs : List Fe} {m0 : Nat} {o : Option Nat} (hu : fsU fs) (h0 : fs ≠ []) (hb : fs.length ≤ big) (h : Ww m0 (pgD false fs) fs o) : Mw (m0 + 1) (pgD false fs) o := by
  have un : unL (fs.map Fe.d) = true := pgD_un (o := false) hu
  have pu : (pgD false fs).un = true := by simp [pgD, un]
  have sh := shr_of_un _ pu
  obtain ⟨Pg, hP⟩ : ∃ Pg, Pg = pgD false fs := ⟨_, rfl⟩
  have hlen : lenD Pg = some (.int (fs.length : Int)) := by rw [hP]; simp [pgD]
  have hat : ∀ (i : Nat) f, fs[i]? = some f → atD Pg (i : Int) = some f.d := by
    intro i f h
    rw [hP, pgD]
    rw [atD_lst]
    exact atI_lit (by simp [h])
  rw [← hP] at h pu sh ⊢
  cases o with
  | none =>
    intro M hM
    obtain ⟨M, rfl⟩ : ∃ M', M = M' + 1 := ⟨M - 1, by omega⟩
    refine run_of rfl ?_
    simp [d_well_made_x, hlen, h0, hb]
    refine sat_forI (fun i e => e = [some Pg, none, none, none]) rfl ?_ ?_
    · rintro i r e hi rfl
      obtain ⟨hi, rfl⟩ := mk_get hi
      obtain ⟨f, hf⟩ : ∃ f, fs[i]? = some f := ⟨fs[i]'(by omega), by simp⟩
      have ha := hat i f hf
      obtain ⟨h1, h2⟩ := h i f hf
      have fu := hu f (List.mem_of_getElem? hf)
      have fs' := shr_of_un _ fu
      have f1 := h2 M (by omega)
      simp [shp] at h1
      obtain ⟨q1, q2, q3⟩ := h1
      have r1 : ¬ f.n < 1 := by omega
      have r2 : ¬ f.p < 0 := by omega
      have r3 : ¬ f.n < f.p := by omega
      simp [ha, Fe.d, fu, r1, r2, r3]
      refine sat_exO rfl none ?_
      simp [f1, ha, Fe.d, fu, fs', pu, sh, agFz_var]
    · rintro e rfl
      simp
  | some c =>
    intro M hM
    obtain ⟨M, rfl⟩ : ∃ M', M = M' + 1 := ⟨M - 1, by omega⟩
    obtain ⟨k, g, hk, hc, hp⟩ := h
    refine exc_of rfl ?_
    simp [d_well_made_x, hlen, h0, hb]
    refine sat_forI (fun i e => i ≤ k ∧ e = [some Pg, none, none, none]) ⟨Nat.zero_le _, rfl⟩ ?_ ?_
    · rintro i r e hi ⟨hik, rfl⟩
      obtain ⟨hi, rfl⟩ := mk_get hi
      obtain ⟨f, hf⟩ : ∃ f, fs[i]? = some f := ⟨fs[i]'(by omega), by simp⟩
      have ha := hat i f hf
      have fu := hu f (List.mem_of_getElem? hf)
      have fs' := shr_of_un _ fu
      by_cases cc : i = k
      · subst cc
        rw [hk] at hf
        cases hf
        rcases hc with ⟨h1, rfl⟩ | ⟨h1, h2⟩
        · simp [shp] at h1
          simp [ha, Fe.d, fu]
          intro q1 q2 q3
          exfalso
          omega
        · have f1 := h2 M (by omega)
          have f2 := exc_run f1
          simp [shp] at h1
          obtain ⟨q1, q2, q3⟩ := h1
          have r1 : ¬ g.n < 1 := by omega
          have r2 : ¬ g.p < 0 := by omega
          have r3 : ¬ g.n < g.p := by omega
          simp [ha, Fe.d, fu, r1, r2, r3]
          refine sat_exO rfl (some c) ?_
          simp [f1, f2, ha, Fe.d, fu, fs', pu, sh]
      · obtain ⟨h1, h2⟩ := hp i f (by omega) hf
        have f1 := h2 M (by omega)
        simp [shp] at h1
        obtain ⟨q1, q2, q3⟩ := h1
        have r1 : ¬ f.n < 1 := by omega
        have r2 : ¬ f.p < 0 := by omega
        have r3 : ¬ f.n < f.p := by omega
        simp [ha, Fe.d, fu, r1, r2, r3]
        refine sat_exO rfl none ?_
        simp [f1, ha, Fe.d, fu, fs', pu, sh, agFz_var]
        omega
    · rintro e ⟨hji, rfl⟩
      have := (List.getElem?_eq_some_iff.mp hk).1
      simp at hji
      omega
end Sr
set_option Elab.async false
set_option linter.all false
set_option maxRecDepth 100000
set_option maxHeartbeats 4000000
namespace Sr
open PySem PySem.Spec PyProof.Rows L2
/-! ### the feed -/
structure Fd where
  pos : Nat
  left : Nat
  ws : List Str
  fi : Option Nat
def wd : Option Nat → Str
  | none => ""
  | some 1 => "NoStretch"
  | some 3 => "NoShape"
  | some 4 => "NoBox"
  | some 5 => "FixedBox"
  | some 6 => "NoSum"
  | some 7 => "NoStep"
  | some _ => "NoCall"
def fdD (cs ks : List Int) (f : Fd) : D := .lst true [.lst true (cs.map .int), .int f.pos, .int f.left, .lst true (f.ws.map .str), .lst true (ks.map .int), .str (wd f.fi)]
theorem wd_no (c : Option Nat) : (wd c = ("" : Str)) = (c = none) := by
  unfold wd
  split <;> simp <;> decide
theorem wd_ok (c : Option Nat) : eqOk (.str (wd c)) = true := by
  unfold wd
  split <;> decide +kernel
theorem sat_loopCI {f : D → Env → Option (Option D × Env)} {xs acc : List D} {e : Env} {R : List D → Env → Prop} (I : Nat → List D → Env → Prop) (h0 : I 0 acc e)
    (hs : ∀ i x acc e, xs[i]? = some x → I i acc e → sat (f x e) fun o e' => I (i + 1) (match o with | some d => acc ++ [d] | none => acc) e')
    (hd : ∀ acc e, I xs.length acc e → R acc e) : sat (loopC f xs e acc) R := by
  induction xs generalizing e acc I with
  | nil => rw [loopC]; simp; exact hd _ _ h0
  | cons x xs ih =>
    rw [loopC]
    obtain ⟨g, e1, hf, z⟩ := hs 0 x acc e rfl h0
    rw [hf]
    cases g with
    | none => exact ih (fun i a e => I (i + 1) a e) z (fun i y a e hy => hs (i + 1) y a e (by simpa using hy)) (fun a e h => hd a e (by simpa using h))
    | some d => exact ih (fun i a e => I (i + 1) a e) z (fun i y a e hy => hs (i + 1) y a e (by simpa using hy)) (fun a e h => hd a e (by simpa using h))
theorem put6_1 (a b c d e f x : D) : putD 1 x (.lst true [a, b, c, d, e, f]) = some (.lst true [a, x, c, d, e, f]) := rfl
theorem put6_2 (a b c d e f x : D) : putD 2 x (.lst true [a, b, c, d, e, f]) = some (.lst true [a, b, x, d, e, f]) := rfl
theorem put6_5 (a b c d e f x : D) : putD 5 x (.lst true [a, b, c, d, e, f]) = some (.lst true [a, b, c, d, e, x]) := rfl
theorem set6_3 (a b c d e f : D) (u : D → Option D) : setAt 3 u (.lst true [a, b, c, d, e, f]) = (u d).map fun y => .lst true [a, b, c, y, e, f] := by
  show (match u d with | some y => some (D.lst true [a, b, c, y, e, f]) | none => none) = _
  cases u d <;> rfl
@[simp] theorem okV_e : eqOk (.str ("" : Str)) = true := by decide +kernel
theorem cell_bits12 {ns : List Int} (hb : ∀ z ∈ ns, Builtin.Int.intBits z ≤ 1048576) (k : Int) : Builtin.Int.intBits (cell ns k) ≤ 1048576 := by
  unfold cell
  rw [List.getD_eq_getElem?_getD]
  cases h : ns[k.toNat]? with
  | none => exact Nat.zero_le _
  | some z => exact hb z (List.mem_of_getElem? h)
/-- the cells -/
structure Cl12 (cs : List Int) : Prop where
  l : cs.length ≤ 1000
  b : ∀ z ∈ cs, Builtin.Int.intBits z ≤ 1048576
section
variable {cs ks : List Int}
theorem run_take (C : Cl12 cs) (Φ : Fs) (f : Fd) : ∃ v, Builtin.Int.intBits v ≤ 1048576 ∧ runDf Φ d__law_take_79a4 [fdD cs ks f] = some (.int v, [some (fdD cs ks { f with pos := f.pos + 1 })]) := by
  have hl := C.l
  by_cases c : f.pos < cs.length
  · refine ⟨cell cs f.pos, cell_bits12 C.b _, run_of rfl ?_⟩
    have e := atI_map cs (k := (f.pos : Int)) (by omega) (by omega)
    have hlg : cs.length < 2 ^ 64 := by omega
    have c2 : ¬ ((cs.length : Int) < (f.pos : Int) + 1) := by omega
    simp [d__law_take_79a4, fdD, put6_1, e, c2]
  · refine ⟨0, Nat.zero_le _, run_of rfl ?_⟩
    have c2 : ((cs.length : Int) < (f.pos : Int) + 1) := by omega
    simp [d__law_take_79a4, fdD, put6_1, c2]
theorem run_off (Φ : Fs) (c : Nat) (f : Fd) (hw : f.ws.length ≤ 2000) : ∃ b, runDf Φ d__law_off [fdD cs ks f, .str (wd (some c))] = some (.bl b, [some (fdD cs ks { f with ws := f.ws ++ [wd (some c)], fi := if b then thnO f.fi (some c) else f.fi }), none]) := by
  refine ⟨inD (.int ((f.ws.length : Int) + 1)) (ks.map .int), run_of rfl ?_⟩
  have hb : f.ws.length < big := by unfold big; omega
  rcases f with ⟨pos, left, ws, fi⟩
  by_cases c1 : inD (.int ((ws.length : Int) + 1)) (ks.map .int) = true
  · cases fi <;> simp [d__law_off, fdD, put6_5, set6_3, appD, wd_no, wd_ok, c1, hb, thnO]
  · simp [d__law_off, fdD, put6_5, set6_3, appD, wd_no, wd_ok, c1, hb]

/-- the classes that a program is refused with -/
def okC (o : Option Nat) : Prop := o = none ∨ o = some 1 ∨ o = some 3 ∨ o = some 4 ∨ o = some 5 ∨ o = some 6 ∨ o = some 7 ∨ o = some 8
theorem okC_thn {a b : Option Nat} (h : okC a) (g : okC b) : okC (thnO a b) := by
  cases a with
  | none => exact g
  | some c => exact h
def mu (f : Fd) : Nat := f.ws.length + 10 * f.left
structure Dr (k : Nat) (o : Option Nat) (f f' : Fd) : Prop where
  m : mu f' ≤ mu f + k
  l : f'.left ≤ f.left
  e : f'.fi = thnO f.fi o
  w : (∀ w ∈ f.ws, eqOk (.str w) = true) → ∀ w ∈ f'.ws, eqOk (.str w) = true
  g : okC f.fi → okC f'.fi
theorem thn_n (a : Option Nat) : thnO a none = a := by cases a <;> rfl
theorem thn_0 (a : Option Nat) : thnO none a = a := rfl
theorem thn_as (a b c : Option Nat) : thnO (thnO a b) c = thnO a (thnO b c) := by cases a <;> rfl
theorem Dr.thn {k k' : Nat} {a b : Option Nat} {f f1 f2 : Fd} (h : Dr k a f f1) (g : Dr k' b f1 f2) : Dr (k + k') (thnO a b) f f2 := ⟨by have := h.m; have := g.m; omega, Nat.le_trans g.l h.l, by rw [g.e, h.e, thn_as], fun q => g.w (h.w q), fun q => g.g (h.g q)⟩
theorem Dr.le {k k' : Nat} {a : Option Nat} {f f1 : Fd} (h : Dr k a f f1) (l : k ≤ k') : Dr k' a f f1 := ⟨by have := h.m; omega, h.l, h.e, h.w, h.g⟩
@[simp] theorem fdD_ns {f : Fd} : (fdD cs ks f).ns = true := by
  have h1 : ∀ l : List Str, nsL (l.map D.str) = true := by
    intro l
    induction l with
    | nil => rfl
    | cons a r ih => simp [ih]
  have h2 : ∀ l : List Int, nsL (l.map D.int) = true := by
    intro l
    induction l with
    | nil => rfl
    | cons a r ih => simp [ih]
  simp [fdD, h1, h2]
theorem run_draw (C : Cl12 cs) (M : Nat) (f : Fd) {k : Int} (hk : 0 < k) (hk2 : k < 2 ^ 64) : ∃ v f', 0 ≤ v ∧ v < k ∧ Dr 0 none f f' ∧ runDf (fnsN P (M + 1)) d__law_draw_5153 [fdD cs ks f, .int k] = some (.int v, [some (fdD cs ks f'), none]) := by
  obtain ⟨v, _, hv⟩ := run_take (ks := ks) C (fnsN P M) f
  have h1 := fmod_lt ((v * 48271).fmod 1000003) hk
  refine ⟨((v * 48271).fmod 1000003).fmod k, { f with pos := f.pos + 1 }, h1.1, h1.2, ⟨Nat.le_refl _, Nat.le_refl _, (thn_n _).symm, fun q => q, fun q => q⟩, run_of rfl ?_⟩
  have hk0 : ¬ k = 0 := by omega
  have m1 : mulOk v 48271 := mulOk_r (by decide)
  simp [d__law_draw_5153, hv, hk0, m1]
theorem run_number (C : Cl12 cs) (M : Nat) (f : Fd) : ∃ v f', Dr 0 none f f' ∧ runDf (fnsN P (M + 1)) d__law_number_bdb4 [fdD cs ks f] = some (.int v, [some (fdD cs ks f')]) := by
  obtain ⟨v, hb, hv⟩ := run_take (ks := ks) C (fnsN P M) f
  have hm : mulOk (v.fdiv 5) (48271 ^ 14) := IntMulOk.of_le (intBits_fdiv_le hb) (n := 1000) (by decide) (by decide)
  have h1 : mulOk 2 (10 ^ 60) := mulOk_l (by decide)
  simp at hm h1
  suffices h : ∃ v', runDf (fnsN P (M + 1)) d__law_number_bdb4 [fdD cs ks f] = some (.int v', [some (fdD cs ks { f with pos := f.pos + 1 })]) by
    obtain ⟨v', h⟩ := h
    exact ⟨v', { f with pos := f.pos + 1 }, ⟨Nat.le_refl _, Nat.le_refl _, (thn_n _).symm, fun q => q, fun q => q⟩, h⟩
  by_cases c1 : v.fmod 5 = 2
  · refine ⟨(v.fdiv 5 * 48271 ^ 14).fmod (2 * 10 ^ 60 - 1) - (10 ^ 60 - 1), run_of rfl ?_⟩
    simp [d__law_number_bdb4, hv, c1, hm, h1]
  · by_cases c2 : v.fmod 5 = 3
    · refine ⟨(v.fdiv 5 * 48271 ^ 14).fmod 2001 - 1000, run_of rfl ?_⟩
      simp [d__law_number_bdb4, hv, c1, c2, hm, h1]
    · refine ⟨(v.fdiv 5 * 48271 ^ 14).fmod 13 - 6, run_of rfl ?_⟩
      simp [d__law_number_bdb4, hv, c1, c2, hm, h1]
theorem off_dr {f : Fd} {c : Nat} {b : Bool} (hc : okC (some c)) : Dr 1 (if b then some c else none) f { f with ws := f.ws ++ [wd (some c)], fi := if b then thnO f.fi (some c) else f.fi } := by
  refine ⟨by simp [mu]; omega, Nat.le_refl _, ?_, ?_, ?_⟩
  · cases b <;> simp [thn_n]
  · intro q w hw
    rcases List.mem_append.mp hw with hw | hw
    · exact q w hw
    · rw [List.mem_singleton.mp hw]; exact wd_ok _
  · intro q
    cases b
    · exact q
    · exact okC_thn q hc
theorem run_offD (Φ : Fs) {c : Nat} {w : Str} (hw : w = wd (some c) ∧ okC (some c)) (f : Fd) (hf : mu f ≤ 2000) : ∃ (b : Bool) (f' : Fd), Dr 1 (if b then some c else none) f f' ∧ runDf Φ d__law_off [fdD cs ks f, .str w] = some (.bl b, [some (fdD cs ks f'), none]) := by
  obtain ⟨rfl, hc⟩ := hw
  obtain ⟨b, h⟩ := run_off (cs := cs) (ks := ks) Φ c f (by unfold mu at hf; omega)
  exact ⟨b, _, off_dr hc, h⟩
/-- a shape -/
def shD (p n : Int) : D := .lst false [.int p, .int n]
theorem run_box (C : Cl12 cs) (M : Nat) {f : Fd} (hf : mu f ≤ 1900) {p n : Int} {main : Bool} (hn : 1 ≤ n ∧ n ≤ 100) (hp : 0 ≤ p) (hpn : main = false → p < n) :
    ∃ x f', Dr 2 (if x < 1 ∨ n < x then some 4 else if x ≤ p ∧ main = false then some 5 else none) f f' ∧ runDf (fnsN P (M + 2)) d__law_box_244c [fdD cs ks f, shD p n, .bl main] = some (.int x, [some (fdD cs ks f'), none, none]) := by
  obtain ⟨b1, f1, e1, r1⟩ := run_offD (cs := cs) (ks := ks) (fnsN P (M + 1)) (c := 4) (w := "NoBox") ⟨by decide, by simp [okC]⟩ f (by omega)
  cases b1 with
  | true =>
    obtain ⟨v, f2, v0, v1, e2, r2⟩ := run_draw (ks := ks) C M f1 (k := 4) (by decide) (by decide)
    have e := e1.thn e2
    have hx : ∃ x : Int, (x < 1 ∨ n < x) ∧ atI [D.int 0, .int (n + 1), .int (-1), .int (n + 7)] v = some (.int x) := by
      have : v = 0 ∨ v = 1 ∨ v = 2 ∨ v = 3 := by omega
      rcases this with rfl | rfl | rfl | rfl
      · exact ⟨0, .inl (by decide), by simp⟩
      · exact ⟨n + 1, .inr (by omega), by simp⟩
      · exact ⟨-1, .inl (by decide), by simp⟩
      · exact ⟨n + 7, .inr (by omega), by simp⟩
    obtain ⟨x, hx, ha⟩ := hx
    refine ⟨x, f2, ?_, run_of rfl ?_⟩
    · rw [if_pos hx]; exact e.le (by decide)
    · simp [d__law_box_244c, shD, r1, r2, ha]
  | false =>
    cases main with
    | true =>
      obtain ⟨v, f2, v0, v1, e2, r2⟩ := run_draw (ks := ks) C M f1 (k := n) (by omega) (by omega)
      have e := e1.thn e2
      refine ⟨1 + v, f2, ?_, run_of rfl ?_⟩
      · rw [if_neg (by omega), if_neg (by simp)]; exact e.le (by decide)
      · simp [d__law_box_244c, shD, r1, r2]
    | false =>
      have hpn := hpn rfl
      by_cases c : 0 < p
      · obtain ⟨b2, f2, e2, r2⟩ := run_offD (cs := cs) (ks := ks) (fnsN P (M + 1)) (c := 5) (w := "FixedBox") ⟨by decide, by simp [okC]⟩ f1 (by have := e1.m; omega)
        cases b2 with
        | true =>
          obtain ⟨v, f3, v0, v1, e3, r3⟩ := run_draw (ks := ks) C M f2 (k := p) (by omega) (by omega)
          have e := (e1.thn e2).thn e3
          refine ⟨1 + v, f3, ?_, run_of rfl ?_⟩
          · rw [if_neg (by omega), if_pos ⟨by omega, rfl⟩]; exact e.le (by decide)
          · simp [d__law_box_244c, shD, r1, r2, r3, c]
        | false =>
          obtain ⟨v, f3, v0, v1, e3, r3⟩ := run_draw (ks := ks) C M f2 (k := n - (p + 1) + 1) (by omega) (by omega)
          have e := (e1.thn e2).thn e3
          refine ⟨p + 1 + v, f3, ?_, run_of rfl ?_⟩
          · rw [if_neg (by omega), if_neg (by omega)]; exact e.le (by decide)
          · simp [d__law_box_244c, shD, r1, r2, r3, c]
      · obtain ⟨v, f3, v0, v1, e3, r3⟩ := run_draw (ks := ks) C M f1 (k := n - (p + 1) + 1) (by omega) (by omega)
        have e := e1.thn e3
        refine ⟨p + 1 + v, f3, ?_, run_of rfl ?_⟩
        · rw [if_neg (by omega), if_neg (by omega)]; exact e.le (by decide)
        · simp [d__law_box_244c, shD, r1, r3, c]
end
end Sr
set_option Elab.async false
set_option linter.all false
set_option maxRecDepth 100000
set_option maxHeartbeats 4000000
namespace Sr
open PySem PySem.Spec PyProof.Rows L2
@[simp] theorem shD_un {p n : Int} : (shD p n).un = true := by simp [shD]
@[simp] theorem shD_shr {p n : Int} : (shD p n).shr = shD p n := shr_of_un _ shD_un
@[simp] theorem shD_0 {p n : Int} : atD (shD p n) 0 = some (.int p) := by simp [shD]
@[simp] theorem shD_1 {p n : Int} : atD (shD p n) 1 = some (.int n) := by simp [shD]
section
variable {cs ks : List Int}
def sO (l n : Int) : Option Nat := if l ≠ n + 1 then some 6 else none
theorem pick8 {w : Int} (h0 : 0 ≤ w) (h1 : w < 8) : ∃ z : Int, atI [D.int 0, .int 1, .int (-1), .int 2, .int 0, .int (-3), .int 1, .int 1000000000] w = some (.int z) := by
  have : w = 0 ∨ w = 1 ∨ w = 2 ∨ w = 3 ∨ w = 4 ∨ w = 5 ∨ w = 6 ∨ w = 7 := by omega
  rcases this with rfl | rfl | rfl | rfl | rfl | rfl | rfl | rfl <;> exact ⟨_, rfl⟩
theorem run_sum12 (C : Cl12 cs) (M : Nat) {f : Fd} (hf : mu f ≤ 1950) {p n : Int} (hn : 1 ≤ n ∧ n ≤ 100) :
    ∃ (zs : List Int) (f' : Fd), Dr 1 (sO zs.length n) f f' ∧ runDf (fnsN P (M + 2)) d__law_sum_8f62 [fdD cs ks f, shD p n] = some (.lst true (zs.map .int), [some (fdD cs ks f'), none]) := by
  obtain ⟨b1, f1, e1, r1⟩ := run_offD (cs := cs) (ks := ks) (fnsN P (M + 1)) (c := 6) (w := "NoSum") ⟨by decide, by simp [okC]⟩ f (by omega)
  have head : ∃ (N : Nat) (f2 : Fd), Dr 1 (sO ((N : Int) + 1) n) f f2 ∧ N ≤ 200 ∧ ∀ R, sat (evS (fnsN P (M + 2)) (.cond (.call F__law_off (.cons (.v 0) (.cons (.str "NoSum") .nil))) (.seq (.asg 2 (.bin .sub (.bin .add (.v 2) (.bin .mul (.int 2) (.call F__law_draw_5153 (.cons (.v 0) (.cons (.int 2) .nil))))) (.int 1))) .pass) (.pass)) [some (fdD cs ks f), some (shD p n), some (.int n), none, none, none]) R ↔ R .nx [some (fdD cs ks f2), some (shD p n), some (.int N), none, none, none] := by
    cases b1 with
    | true =>
      obtain ⟨v, f2, v0, v1, e2, r2⟩ := run_draw (ks := ks) C M f1 (k := 2) (by decide) (by decide)
      have e := e1.thn e2
      refine ⟨(n + 2 * v - 1).toNat, f2, ?_, by omega, fun R => ?_⟩
      · rw [sO, if_pos (by omega)]; exact e
      · have m1 : mulOk 2 v := mulOk_l (by decide)
        have e3 : ((n + 2 * v - 1).toNat : Int) = n + 2 * v - 1 := by omega
        rw [e3]
        simp [shD, r1, r2, m1]
    | false =>
      refine ⟨n.toNat, f1, ?_, by omega, fun R => ?_⟩
      · rw [sO, if_neg (by omega)]; exact e1
      · have e3 : (n.toNat : Int) = n := by omega
        rw [e3]
        simp [shD, r1]
  obtain ⟨N, f2, e2, hN, hd⟩ := head
  obtain ⟨z0, f3, e3, r3⟩ := run_number (ks := ks) C M f2
  obtain ⟨c0, f4, c00, c01, e4, r4⟩ := run_draw (ks := ks) C M f3 (k := 1000000) (by decide) (by decide)
  have e := (e2.thn e3).thn e4
  rw [thn_n, thn_n] at e
  suffices h : ∃ zs : List Int, zs.length = N + 1 ∧ runDf (fnsN P (M + 2)) d__law_sum_8f62 [fdD cs ks f, shD p n] = some (.lst true (zs.map .int), [some (fdD cs ks f4), none]) by
    obtain ⟨zs, hz, h⟩ := h
    refine ⟨zs, f4, ?_, h⟩
    rw [hz]
    exact e
  have hB : big = 1000000 := rfl
  have hs : sat (evS (fnsN P (M + 2)) d__law_sum_8f62.body ([fdD cs ks f, shD p n].map some ++ List.replicate (d__law_sum_8f62.names - [fdD cs ks f, shD p n].length) none)) fun g e => ∃ zs : List Int, zs.length = N + 1 ∧ g = .rt (.lst true (zs.map .int)) ∧ outs d__law_sum_8f62.io e = [some (fdD cs ks f4), none] := by
    simp only [d__law_sum_8f62]
    refine sat_cut (fun e => e = [some (fdD cs ks f), some (shD p n), some (.int n), none, none, none]) (by simp [shD]) ?_
    rintro e rfl
    rw [sat_seq, hd]
    simp only [nxt_nx]
    refine sat_cut (fun e => e = [some (fdD cs ks f3), some (shD p n), some (.int N), some (.lst true [.int z0]), none, none]) (by simp [r3, shD]) ?_
    rintro e rfl
    refine sat_cut (fun e => e = [some (fdD cs ks f4), some (shD p n), some (.int N), some (.lst true [.int z0]), some (.int c0), none]) (by simp [r4, shD]) ?_
    rintro e rfl
    refine sat_cut (fun e => ∃ (zs : List Int) (c : Int), zs.length = N + 1 ∧ e = [some (fdD cs ks f4), some (shD p n), some (.int N), some (.lst true (zs.map .int)), some (.int c), none]) ?_ ?_
    · simp [hN]
      refine ⟨by omega, ?_⟩
      refine sat_forI (fun i e => ∃ (zs : List Int) (c : Int), zs.length = i + 1 ∧ e = [some (fdD cs ks f4), some (shD p n), some (.int N), some (.lst true (zs.map .int)), some (.int c), none]) ⟨[z0], c0, rfl, rfl⟩ ?_ ?_
      · rintro i x e hi ⟨zs, c, hz, rfl⟩
        obtain ⟨hi, rfl⟩ := mk_get hi
        have h8 := fmod_lt c (show (0 : Int) < 8 by decide)
        obtain ⟨z, h⟩ := pick8 h8.1 h8.2
        have hlb : zs.length < big := by omega
        simp [h, appD, hlb]
        refine ⟨zs ++ [z], by simp [hz], ?_⟩
        simp
      · rintro e ⟨zs, c, hz, rfl⟩
        simp at hz ⊢
        exact ⟨zs, by simpa using hz, rfl⟩
    · rintro e ⟨zs, c, hz, rfl⟩
      simp
      exact ⟨zs, hz, rfl⟩
  obtain ⟨g, e', he, zs, hz, rfl, ho⟩ := hs
  exact ⟨zs, hz, run_of rfl ⟨_, e', he, rfl, ho⟩⟩
def tO12 (d : Int) : Option Nat := if d < 1 then some 7 else none
theorem run_step12 (C : Cl12 cs) (M : Nat) {f : Fd} (hf : mu f ≤ 1950) : ∃ (d : Int) (f' : Fd), Dr 1 (tO12 d) f f' ∧ runDf (fnsN P (M + 2)) d__law_step_a90e [fdD cs ks f] = some (.int d, [some (fdD cs ks f')]) := by
  obtain ⟨b1, f1, e1, r1⟩ := run_offD (cs := cs) (ks := ks) (fnsN P (M + 1)) (c := 7) (w := "NoStep") ⟨by decide, by simp [okC]⟩ f (by omega)
  obtain ⟨z, f2, e2, r2⟩ := run_number (ks := ks) C M f1
  cases b1 with
  | true =>
    obtain ⟨v, f3, v0, v1, e3, r3⟩ := run_draw (ks := ks) C M f2 (k := 2) (by decide) (by decide)
    have e := (e1.thn e2).thn e3
    have hx : ∃ x : Int, x < 1 ∧ atI [D.int 0, .int (-if z < 0 then -z else z)] v = some (.int x) := by
      have : v = 0 ∨ v = 1 := by omega
      rcases this with rfl | rfl
      · exact ⟨0, by decide, rfl⟩
      · exact ⟨_, by split <;> omega, rfl⟩
    obtain ⟨x, hx, ha⟩ := hx
    refine ⟨x, f3, ?_, run_of rfl ?_⟩
    · rw [tO12, if_pos hx]; exact e
    · simp [d__law_step_a90e, r1, r2, r3, ha]
  | false =>
    have e := e1.thn e2
    refine ⟨1 + (if z < 0 then -z else z), f2, ?_, run_of rfl ?_⟩
    · rw [tO12, if_neg (by split <;> omega)]; exact e
    · simp [d__law_step_a90e, r1, r2]
def clT (w : Str) (zs : List Int) (d : Option Int) : D := .tup (match d with
  | none => [.str w, .lst false (zs.map .int)]
  | some d => [.str w, .lst false (zs.map .int), .int d])
def cO (l n : Int) (d : Option Int) : Option Nat := if l ≠ n + 1 then some 6 else match d with
  | none => none
  | some d => if d < 1 then some 7 else none
theorem run_claim12 (C : Cl12 cs) (M : Nat) {f : Fd} (hf : mu f ≤ 1940) {p n : Int} (hn : 1 ≤ n ∧ n ≤ 100) :
    ∃ (w : Str) (zs : List Int) (d : Option Int) (f' : Fd), (w = "even" ↔ d ≠ none) ∧ (w = "under" ∨ w = "same" ∨ w = "even") ∧ Dr 2 (cO zs.length n d) f f' ∧ runDf (fnsN P (M + 3)) d__law_claim_850b [fdD cs ks f, shD p n] = some (clT w zs d, [some (fdD cs ks f'), none]) := by
  obtain ⟨v, f1, v0, v1, e1, r1⟩ := run_draw (ks := ks) C (M + 1) f (k := 3) (by decide) (by decide)
  obtain ⟨zs, f2, e2, r2⟩ := run_sum12 (ks := ks) C M (f := f1) (p := p) (n := n) (by have := e1.m; omega) hn
  obtain ⟨d, f3, e3, r3⟩ := run_step12 (ks := ks) C M (f := f2) (by have := e1.m; have := e2.m; omega)
  have m1 := e1.m
  have m2 := e2.m
  have hv : v = 0 ∨ v = 1 ∨ v = 2 := by omega
  have e := e1.thn e2
  rw [thn_0] at e
  rcases hv with rfl | rfl | rfl
  · refine ⟨"under", zs, none, f2, ⟨fun h => absurd h (by decide), fun h => absurd rfl h⟩, by simp, ?_, run_of rfl ?_⟩
    · have : cO zs.length n none = sO zs.length n := by unfold cO sO; split <;> rfl
      rw [this]; exact e.le (by decide)
    · simp [d__law_claim_850b, r1, r2, clT, agFz_var]
  · refine ⟨"same", zs, none, f2, ⟨fun h => absurd h (by decide), fun h => absurd rfl h⟩, by simp, ?_, run_of rfl ?_⟩
    · have : cO zs.length n none = sO zs.length n := by unfold cO sO; split <;> rfl
      rw [this]; exact e.le (by decide)
    · simp [d__law_claim_850b, r1, r2, clT, agFz_var]
  · refine ⟨"even", zs, some d, f3, by simp, by simp, ?_, run_of rfl ?_⟩
    · have : cO zs.length n (some d) = thnO (sO zs.length n) (tO12 d) := by unfold cO sO tO12; split <;> rfl
      rw [this]; exact (e.thn e3).le (by decide)
    · simp [d__law_claim_850b, r1, r2, r3, clT, agFz_var]
end
end Sr
set_option Elab.async false
set_option linter.all false
set_option maxRecDepth 100000
set_option maxHeartbeats 4000000
namespace Sr
open PySem PySem.Spec PyProof.Rows L2
theorem okN.mono {k k' : Nat} {d : D} (h : okN k d) (l : k ≤ k') : okN k' d := ⟨h.1, Nat.le_trans h.2 l⟩
/-- a piece of a program: nothing in it is ours, and it is not too deep -/
def Pz (k : Nat) (x : D) : Prop := x.un = true ∧ okN k x
theorem Pz.mono {k k' : Nat} {d : D} (h : Pz k d) (l : k ≤ k') : Pz k' d := ⟨h.1, h.2.mono l⟩
@[simp] theorem unL_zs {zs : List Int} : unL (zs.map D.int) = true := by
  induction zs with
  | nil => rfl
  | cons a r ih => simp [ih]
@[simp] theorem okL_zs {n : Nat} {zs : List Int} : okL (n + 1) (zs.map D.int) := by
  induction zs with
  | nil => exact ⟨rfl, Nat.zero_le _⟩
  | cons a r ih => simp [ih]
section
variable {cs ks : List Int} {N a : Nat} {p n : Int} {pre : Nat → Int} {main : Bool}
def boxO (n p x : Int) (main : Bool) : Option Nat := if x < 1 ∨ n < x then some 4 else if x ≤ p ∧ main = false then some 5 else none
/-- asked in every program of which so much is known -/
def Ask (N a : Nat) (p n : Int) (pre : Nat → Int) (m0 : Nat) (d : Df) (x : D) (o : Option Nat) : Prop := ∀ Pg, Pk Pg N a p n pre → Ak m0 d [Pg, .int a, x] o
theorem boxO_eq (hm : main = false ↔ (a : Int) ≠ (N : Int) - 1) {x : Int} : boxO n p x main = if x < 1 ∨ n < x then some 4 else if x ≤ p ∧ (a : Int) ≠ (N : Int) - 1 then some 5 else none := by
  unfold boxO
  simp only [hm]
theorem run_box' (C : Cl12 cs) (M : Nat) {f : Fd} (hf : mu f ≤ 1900) (hn : 1 ≤ n ∧ n ≤ 100) (hp : 0 ≤ p) (hpn : main = false → p < n) :
    ∃ x f', Dr 2 (boxO n p x main) f f' ∧ runDf (fnsN P (M + 2)) d__law_box_244c [fdD cs ks f, shD p n, .bl main] = some (.int x, [some (fdD cs ks f'), none, none]) := run_box C M hf hn hp hpn
theorem pick_o (z : Int) {v : Int} (h0 : 0 ≤ v) (h1 : v < 4) : ∃ r : Option Int, (r = none ∨ r = some z) ∧ atI [D.int z, .non] (v.fdiv 3) = some (dO r) := by
  have : v = 0 ∨ v = 1 ∨ v = 2 ∨ v = 3 := by omega
  rcases this with rfl | rfl | rfl | rfl
  · exact ⟨some z, .inr rfl, rfl⟩
  · exact ⟨some z, .inr rfl, rfl⟩
  · exact ⟨some z, .inr rfl, rfl⟩
  · exact ⟨none, .inl rfl, rfl⟩
theorem Pz_any {x : Int} {lo hi : Option Int} : Pz 4 (.tup [.str "any", .int x, dO lo, dO hi]) := by
  refine ⟨by simp, ?_⟩
  cases lo <;> cases hi <;> simp
theorem run_any12 (C : Cl12 cs) (M : Nat) {f : Fd} (hf : mu f ≤ 1900) (hn : 1 ≤ n ∧ n ≤ 100) (hp : 0 ≤ p) (hpn : main = false → p < n) (hm : main = false ↔ (a : Int) ≠ (N : Int) - 1) :
    ∃ x o f', Dr 3 o f f' ∧ Pz 4 x ∧ Ask N a p n pre 1 d_ask_statement_x x o ∧ runDf (fnsN P (M + 3)) d__law_any_40f3 [fdD cs ks f, shD p n, .bl main] = some (x, [some (fdD cs ks f'), none, none]) := by
  obtain ⟨x, f1, e1, r1⟩ := run_box' (ks := ks) C M hf hn hp hpn
  obtain ⟨z1, f2, e2, r2⟩ := run_number (ks := ks) C (M + 1) f1
  obtain ⟨z2, f3, e3, r3⟩ := run_number (ks := ks) C (M + 1) f2
  have e := (e1.thn e2).thn e3
  rw [thn_n, thn_n] at e
  obtain ⟨b, f4, e4, r4⟩ := run_offD (cs := cs) (ks := ks) (fnsN P (M + 2)) (c := 1) (w := "NoStretch") ⟨by decide, by simp [okC]⟩ f3 (by have := e.m; omega)
  have e5 := e.thn e4
  have e4m := e5.m
  obtain ⟨v1, f5, v10, v11, e6, r5⟩ := run_draw (ks := ks) C (M + 1) f4 (k := if b then 2 else 4) (by split <;> decide) (by split <;> decide)
  obtain ⟨v2, f6, v20, v21, e7, r6⟩ := run_draw (ks := ks) C (M + 1) f5 (k := 4) (by decide) (by decide)
  suffices h : ∃ (lo hi : Option Int) (o2 : Option Nat) (f' : Fd), ((o2 = none ∧ ∀ a b, lo = some a → hi = some b → a ≤ b) ∨ (o2 = some 1 ∧ ∃ a b, lo = some a ∧ hi = some b ∧ b < a)) ∧ Dr 3 (thnO (boxO n p x main) o2) f f' ∧ runDf (fnsN P (M + 3)) d__law_any_40f3 [fdD cs ks f, shD p n, .bl main] = some (.tup [.str "any", .int x, dO lo, dO hi], [some (fdD cs ks f'), none, none]) by
    obtain ⟨lo, hi, o2, f', h1, h2, h3⟩ := h
    refine ⟨_, _, f', h2, Pz_any, ?_, h3⟩
    intro Pg k
    rw [boxO_eq hm]
    exact ak_any k h1
  have rest : ∀ lo hi : Int, lo ≤ hi → ∀ kp : Option D, ∃ (Lo Hi : Option Int) (o2 : Option Nat) (f' : Fd), ((o2 = none ∧ ∀ a b, Lo = some a → Hi = some b → a ≤ b) ∨ (o2 = some 1 ∧ ∃ a b, Lo = some a ∧ Hi = some b ∧ b < a)) ∧ Dr 3 (thnO (boxO n p x main) o2) f f' ∧ sat (evS (fnsN P (M + 3)) (.seq (.cond (.call F__law_off (.cons (.v 0) (.cons (.str "NoStretch") .nil))) (.seq (.ret (.frz (.tup (.cons (.str "any") (.cons (.v 3) (.cons (.bin .add (.v 5) (.int 1)) (.cons (.bin .sub (.v 5) (.call F__law_draw_5153 (.cons (.v 0) (.cons (.int 2) .nil)))) .nil))))))) .pass) (.pass)) (.seq (.ret (.frz (.tup (.cons (.str "any") (.cons (.v 3) (.cons (.ix (.lst (.cons (.v 4) (.cons (.non) .nil))) (.bin .fdv (.call F__law_draw_5153 (.cons (.v 0) (.cons (.int 4) .nil))) (.int 3))) (.cons (.ix (.lst (.cons (.v 5) (.cons (.non) .nil))) (.bin .fdv (.call F__law_draw_5153 (.cons (.v 0) (.cons (.int 4) .nil))) (.int 3))) .nil))))))) .pass)) [some (fdD cs ks f3), some (shD p n), some (.bl main), some (.int x), some (.int lo), some (.int hi), kp]) fun g e => g = .rt (.tup [.str "any", .int x, dO Lo, dO Hi]) ∧ outs [true, false, false] e = [some (fdD cs ks f'), none, none] := by
    intro lo hi hlh kp
    cases b with
    | true =>
      refine ⟨some (hi + 1), some (hi - v1), some 1, f5, .inr ⟨rfl, _, _, rfl, rfl, by omega⟩, ?_, ?_⟩
      · have := e5.thn e6
        rw [thn_n] at this
        exact this.le (by decide)
      · simp at r5
        simp [r4, r5]
    | false =>
      obtain ⟨q1, hq1, g1⟩ := pick_o lo v10 (by simpa using v11)
      obtain ⟨q2, hq2, g2⟩ := pick_o hi v20 v21
      refine ⟨q1, q2, none, f6, .inl ⟨rfl, ?_⟩, ?_, ?_⟩
      · rintro a b rfl rfl
        rcases hq1 with h | h <;> rcases hq2 with h' | h' <;> simp at h h'
        omega
      · have := (e5.thn e6).thn e7
        rw [thn_n, thn_n] at this
        exact this.le (by decide)
      · simp at r5
        simp [r4, r5, r6, g1, g2]
        trace_state
  by_cases c : z2 < z1
  · obtain ⟨Lo, Hi, o2, f', h1, h2, h3⟩ := rest z2 z1 (by omega) (some (.int z1))
    refine ⟨Lo, Hi, o2, f', h1, h2, ?_⟩
    obtain ⟨g, e', he, rfl, ho⟩ := h3
    refine run_of rfl ?_
    simp only [d__law_any_40f3]
    refine sat_cut (fun e => e = [some (fdD cs ks f1), some (shD p n), some (.bl main), some (.int x), none, none, none]) (by simp [r1, agFz_var]) ?_
    rintro e rfl
    refine sat_cut (fun e => e = [some (fdD cs ks f2), some (shD p n), some (.bl main), some (.int x), some (.int z1), none, none]) (by simp [r2]) ?_
    rintro e rfl
    refine sat_cut (fun e => e = [some (fdD cs ks f3), some (shD p n), some (.bl main), some (.int x), some (.int z1), some (.int z2), none]) (by simp [r3]) ?_
    rintro e rfl
    refine sat_cut (fun e => e = [some (fdD cs ks f3), some (shD p n), some (.bl main), some (.int x), some (.int z2), some (.int z1), some (.int z1)]) (by simp [c]) ?_
    rintro e rfl
    exact ⟨_, e', he, rfl, ho⟩
  · obtain ⟨Lo, Hi, o2, f', h1, h2, h3⟩ := rest z1 z2 (by omega) none
    refine ⟨Lo, Hi, o2, f', h1, h2, ?_⟩
    obtain ⟨g, e', he, rfl, ho⟩ := h3
    refine run_of rfl ?_
    simp only [d__law_any_40f3]
    refine sat_cut (fun e => e = [some (fdD cs ks f1), some (shD p n), some (.bl main), some (.int x), none, none, none]) (by simp [r1, agFz_var]) ?_
    rintro e rfl
    refine sat_cut (fun e => e = [some (fdD cs ks f2), some (shD p n), some (.bl main), some (.int x), some (.int z1), none, none]) (by simp [r2]) ?_
    rintro e rfl
    refine sat_cut (fun e => e = [some (fdD cs ks f3), some (shD p n), some (.bl main), some (.int x), some (.int z1), some (.int z2), none]) (by simp [r3]) ?_
    rintro e rfl
    refine sat_cut (fun e => e = [some (fdD cs ks f3), some (shD p n), some (.bl main), some (.int x), some (.int z1), some (.int z2), none]) (by simp [c]) ?_
    rintro e rfl
    exact ⟨_, e', he, rfl, ho⟩
end
end Sr
set_option Elab.async false
set_option linter.all false
set_option maxRecDepth 100000
set_option maxHeartbeats 4000000
namespace Sr
open PySem PySem.Spec PyProof.Rows L2
section
variable {cs ks : List Int} {N a : Nat} {p n : Int} {pre : Nat → Int} {main : Bool}
theorem Dr.any {k : Nat} {o o' : Option Nat} {f f' : Fd} (hf : f.fi ≠ none) (h : Dr k o f f') : Dr k o' f f' := by
  refine ⟨h.m, h.l, ?_, h.w, h.g⟩
  rw [h.e]
  cases hc : f.fi with
  | none => exact absurd hc hf
  | some c => rfl
theorem Dr.refl (f : Fd) : Dr 0 none f f := ⟨Nat.le_refl _, Nat.le_refl _, (thn_n _).symm, fun q => q, fun q => q⟩
/-- sums one behind the other -/
def rO (n : Int) : List (List Int) → Option Nat
  | [] => none
  | z :: r => thnO (sO z.length n) (rO n r)
theorem rO_app {n : Int} {z : List Int} : ∀ r : List (List Int), rO n (r ++ [z]) = thnO (rO n r) (sO z.length n)
  | [] => by simp [rO, thn_n, thn_0]
  | y :: r => by
    rw [List.cons_append, rO, rO, rO_app r, thn_as]
def zD (o : Bool) (zs : List Int) : D := .lst o (zs.map .int)
@[simp] theorem zD_un {zs : List Int} : (zD false zs).un = true := by simp [zD]
@[simp] theorem zD_shr {o : Bool} {zs : List Int} : (zD o zs).shr = zD false zs := by simp [zD, shrL_of_un]
theorem unL_zD : ∀ rs : List (List Int), unL (rs.map (zD false)) = true
  | [] => rfl
  | z :: r => by simp [unL_zD r]
theorem shrL_zD {o : Bool} : ∀ rs : List (List Int), shrL (rs.map (zD o)) = rs.map (zD false)
  | [] => rfl
  | z :: r => by simp [shrL_zD r]
theorem okL_zD {k : Nat} : ∀ rs : List (List Int), okL (k + 2) (rs.map (zD false))
  | [] => ⟨rfl, Nat.zero_le _⟩
  | z :: r => by
    have := okL_zD (k := k) r
    simp only [List.map_cons, zD]
    simp [this]
theorem Rw_rO {n : Int} : ∀ rs : List (List Int), Rw n (rs.map (zD false)) (rO n rs)
  | [] => by
    intro r h
    cases h
  | z :: r => by
    have ih := Rw_rO (n := n) r
    rw [rO]
    by_cases c : (z.length : Int) ≠ n + 1
    · rw [sO, if_pos c]
      exact ⟨rfl, 0, zD false z, z.length, rfl, by simp [zD], c, fun j r' hj => absurd hj (Nat.not_lt_zero _)⟩
    · rw [sO, if_neg c, thn_0]
      have c' : (z.length : Int) = n + 1 := by omega
      have h0 : lenD (zD false z) = some (.int (n + 1)) := by simp [zD, c']
      cases hr : rO n r with
      | none =>
        rw [hr] at ih
        intro r' h
        rcases List.mem_cons.mp h with rfl | h
        · exact h0
        · exact ih _ h
      | some q =>
        rw [hr] at ih
        obtain ⟨rfl, i, r', l, h1, h2, h3, h4⟩ := ih
        refine ⟨rfl, i + 1, r', l, by simpa using h1, h2, h3, ?_⟩
        intro j r'' hj h
        cases j with
        | zero =>
          simp at h
          subst h
          exact h0
        | succ j => exact h4 j r'' (by omega) (by simpa using h)
/-- a row of drawn sums -/
theorem run_row12 (C : Cl12 cs) (M : Nat) {f : Fd} {K : Nat} (hK : K ≤ 10) (hf : mu f ≤ 1900) (hn : 1 ≤ n ∧ n ≤ 100) {pg x v cnt : D} {R : List D → Env → Prop} {ff : Nat → D}
    (hR : ∀ (rs : List (List Int)) (f' : Fd), rs.length = K → Dr K (rO n rs) f f' → R (rs.map (zD true)) [some (fdD cs ks f'), some pg, some (shD p n), some (.bl main), some x, some v, some cnt, none]) :
    sat (loopC (lcF (fnsN P (M + 3)) [7] (.bl true) (.call F__law_sum_8f62 (.cons (.v 0) (.cons (.v 2) .nil)))) (mk K ff) [some (fdD cs ks f), some pg, some (shD p n), some (.bl main), some x, some v, some cnt, none] []) R := by
  refine sat_loopCI (fun i acc e => ∃ (rs : List (List Int)) (f' : Fd), rs.length = i ∧ acc = rs.map (zD true) ∧ Dr i (rO n rs) f f' ∧ e = [some (fdD cs ks f'), some pg, some (shD p n), some (.bl main), some x, some v, some cnt, none]) ⟨[], f, rfl, rfl, Dr.refl f, rfl⟩ ?_ ?_
  · rintro i y acc e hi ⟨rs, f1, hl, rfl, e1, rfl⟩
    obtain ⟨hi, rfl⟩ := mk_get hi
    have := e1.m
    obtain ⟨zs, f2, e2, r2⟩ := run_sum12 (ks := ks) C M (f := f1) (p := p) (n := n) (by omega) hn
    rw [sat_lcF]
    simp [r2, agFz_var]
    refine ⟨rs ++ [zs], by simp [hl], by simp [zD], f2, ?_, rfl⟩
    rw [rO_app]
    exact e1.thn e2
  · rintro acc e ⟨rs, f', hl, rfl, e1, rfl⟩
    rw [mk_len] at hl e1
    subst hl
    exact hR rs f' rfl e1
/-- the functions drawn so far -/
structure Pr (fs : List Fe) (a : Nat) (pre : Nat → Int) (f : Fd) : Prop where
  l : fs.length = a
  a5 : a ≤ 5
  u : fsU fs
  p : ∀ (i : Nat) (g : Fe), fs[i]? = some g → g.p = pre i ∧ -1 ≤ g.p ∧ g.p ≤ 5
  z : f.fi = none → ∀ (i : Nat) (g : Fe), fs[i]? = some g → 0 ≤ g.p
theorem Pr.nxt {fs : List Fe} {k : Nat} {o : Option Nat} {f f' : Fd} (h : Pr fs a pre f) (e : Dr k o f f') : Pr fs a pre f' := by
  refine ⟨h.l, h.a5, h.u, h.p, fun hf => h.z ?_⟩
  rw [e.e] at hf
  cases hc : f.fi with
  | none => rfl
  | some c => rw [hc] at hf; cases hf
theorem pgD_len {fs : List Fe} {o : Bool} : lenD (pgD o fs) = some (.int (fs.length : Int)) := by simp [pgD]
theorem pgD_at {fs : List Fe} {o : Bool} {i : Nat} {g : Fe} (h : fs[i]? = some g) : atD (pgD o fs) (i : Int) = some g.d := by
  rw [pgD, atD_lst]
  exact atI_lit (by simp [h])
theorem callO_eq {bx o1 : Option Nat} {x f : Int} {l : Int} {q : Int} (hm : main = false ↔ (a : Int) ≠ (N : Int) - 1) (hb : bx = boxO n p x main) (o : Option Nat) (ho : o = thnO bx (if f < 0 ∨ (a : Int) ≤ f then some 8 else if l ≠ q then some 8 else o1)) :
    o = if x < 1 ∨ n < x then some 4 else if x ≤ p ∧ (a : Int) ≠ (N : Int) - 1 then some 5 else if f < 0 ∨ (a : Int) ≤ f then some 8 else if l ≠ q then some 8 else o1 := by
  subst hb ho
  rw [boxO_eq hm]
  by_cases c1 : x < 1 ∨ n < x
  · rw [if_pos c1, if_pos c1]; rfl
  · rw [if_neg c1, if_neg c1]
    by_cases c2 : x ≤ p ∧ (a : Int) ≠ (N : Int) - 1
    · rw [if_pos c2, if_pos c2]; rfl
    · rw [if_neg c2, if_neg c2]; rfl
theorem Pz_call {x f : Int} {rs : List (List Int)} : Pz 4 (.tup [.str "call", .int x, .int f, .lst false (rs.map (zD false))]) := by
  refine ⟨by simp [unL_zD], ?_⟩
  have := okL_zD (k := 0) rs
  simp [this]
theorem run_call12 (C : Cl12 cs) (M : Nat) {f : Fd} {fs : List Fe} (hf : mu f ≤ 1800) (hn : 1 ≤ n ∧ n ≤ 100) (hp : 0 ≤ p) (hpn : main = false → p < n) (hm : main = false ↔ (a : Int) ≠ (N : Int) - 1) (ha : 0 < a) (F : Pr fs a pre f) :
    ∃ x o f', Dr 10 o f f' ∧ Pz 4 x ∧ Ask N a p n pre 2 d_ask_statement_x x o ∧ runDf (fnsN P (M + 3)) d__law_call_7e49 [fdD cs ks f, pgD false fs, shD p n, .bl main] = some (x, [some (fdD cs ks f'), none, none, none]) := by
  have pu : (pgD false fs).un = true := by simp [pgD, pgD_un (o := false) F.u]
  have psh := shr_of_un _ pu
  have plen : lenD (pgD false fs) = some (.int (a : Int)) := by rw [pgD_len, F.l]
  have ha5 := F.a5
  obtain ⟨x, f1, e1, r1⟩ := run_box' (ks := ks) C M (by omega : mu f ≤ 1900) hn hp hpn
  obtain ⟨v, f2, v0, v1, e2, r2⟩ := run_draw (ks := ks) C (M + 1) f1 (k := (a : Int)) (by omega) (by omega)
  have e := e1.thn e2
  rw [thn_n] at e
  obtain ⟨b, f3, e3, r3⟩ := run_offD (cs := cs) (ks := ks) (fnsN P (M + 2)) (c := 8) (w := "NoCall") ⟨by decide, by simp [okC]⟩ f2 (by have := e.m; omega)
  have e3' := e.thn e3
  obtain ⟨PG, hPG⟩ : ∃ PG, PG = pgD false fs := ⟨_, rfl⟩
  rw [← hPG] at pu psh plen ⊢
  have hmax : (if (1 : Int) < (a : Int) then (a : Int) else 1) = a := by split <;> omega
  suffices h : ∃ (fi : Int) (rs : List (List Int)) (o : Option Nat) (f' : Fd), o = thnO (boxO n p x main) (if fi < 0 ∨ (a : Int) ≤ fi then some 8 else if ((rs.map (zD false)).length : Int) ≠ pre fi.toNat then some 8 else rO n rs) ∧ Dr 10 o f f' ∧ runDf (fnsN P (M + 3)) d__law_call_7e49 [fdD cs ks f, PG, shD p n, .bl main] = some (.tup [.str "call", .int x, .int fi, .lst false (rs.map (zD false))], [some (fdD cs ks f'), none, none, none]) by
    obtain ⟨fi, rs, o, f', h1, h2, h3⟩ := h
    refine ⟨_, o, f', h2, Pz_call, ?_, h3⟩
    intro Pg k
    exact ak_calls k (by simp [unL_zD]) (ak_call k rfl (unL_zD rs) (callO_eq hm rfl o h1) (Rw_rO rs))
  have start : ∀ (R : Fl → Env → Prop) (Z : T), sat (evS (fnsN P (M + 3)) Z [some (fdD cs ks f2), some PG, some (shD p n), some (.bl main), some (.int x), some (.int v), none, none]) R → sat (evS (fnsN P (M + 3)) (.seq (.asg 4 (.frz (.call F__law_box_244c (.cons (.v 0) (.cons (.v 2) (.cons (.v 3) .nil)))))) (.seq (.asg 5 (.call F__law_draw_5153 (.cons (.v 0) (.cons (.bn .max2 (.cons (.int 1) (.cons (.b1 .len (.v 1)) .nil))) .nil)))) Z)) [some (fdD cs ks f), some PG, some (shD p n), some (.bl main), none, none, none, none]) R := by
    intro R Z h
    refine sat_cut (fun e => e = [some (fdD cs ks f1), some PG, some (shD p n), some (.bl main), some (.int x), none, none, none]) (by simp [r1, agFz_var]) ?_
    rintro e rfl
    refine sat_cut (fun e => e = [some (fdD cs ks f2), some PG, some (shD p n), some (.bl main), some (.int x), some (.int v), none, none]) (by simp [r2, plen, hmax]) ?_
    rintro e rfl
    exact h
  have ha0 : ¬ (a = 0) := by omega
  cases b with
  | true =>
    obtain ⟨w, f4, w0, w1, e4, r4⟩ := run_draw (ks := ks) C (M + 1) f3 (k := 3) (by decide) (by decide)
    have e4' := e3'.thn e4
    rw [thn_n] at e4'
    have hx : ∃ x : Int, (x < 0 ∨ (a : Int) ≤ x) ∧ atI [D.int a, .int (-1), .int ((a : Int) + 1)] w = some (.int x) := by
      have : w = 0 ∨ w = 1 ∨ w = 2 := by omega
      rcases this with rfl | rfl | rfl
      · exact ⟨a, .inr (by omega), rfl⟩
      · exact ⟨-1, .inl (by decide), rfl⟩
      · exact ⟨(a : Int) + 1, .inr (by omega), rfl⟩
    obtain ⟨fi, h1, h2⟩ := hx
    refine ⟨fi, [], _, f4, rfl, ?_, run_of rfl ?_⟩
    · rw [if_pos h1]
      exact e4'.le (by decide)
    · simp only [d__law_call_7e49]
      refine start _ _ ?_
      simp [plen, r3, r4, h2, ha0]
  | false =>
    simp only [Bool.false_eq_true, if_false, thn_n] at e3'
    obtain ⟨g, hg⟩ : ∃ g, fs[v.toNat]? = some g := ⟨fs[v.toNat]'(by rw [F.l]; omega), by simp⟩
    obtain ⟨gp, g1, g5⟩ := F.p _ g hg
    have gu := F.u g (List.mem_of_getElem? hg)
    have gat : atD PG v = some g.d := by
      have := pgD_at (o := false) hg
      rw [hPG]
      rwa [show ((v.toNat : Nat) : Int) = v by omega] at this
    obtain ⟨b2, f4, e4, r4⟩ := run_offD (cs := cs) (ks := ks) (fnsN P (M + 2)) (c := 8) (w := "NoCall") ⟨by decide, by simp [okC]⟩ f3 (by have := e3'.m; omega)
    have e4' := e3'.thn e4
    have hvb : ¬ (v < 0 ∨ (a : Int) ≤ v) := by omega
    have tail : ∀ (cnt : Int) (f5 : Fd), mu f5 ≤ 1900 → -10 ≤ cnt → cnt ≤ 10 → ∀ (R : Fl → Env → Prop), (∀ (rs : List (List Int)) (f' : Fd), rs.length = cnt.toNat → Dr cnt.toNat (rO n rs) f5 f' → R (.rt (.tup [.str "call", .int x, .int v, .lst false (rs.map (zD false))])) [some (fdD cs ks f'), some PG, some (shD p n), some (.bl main), some (.int x), some (.int v), some (.int cnt), none]) →
        sat (evS (fnsN P (M + 3)) (.seq (.ret (.frz (.tup (.cons (.str "call") (.cons (.v 4) (.cons (.v 5) (.cons (.lc [7] (.rng1 (.v 6)) (.bl true) (.call F__law_sum_8f62 (.cons (.v 0) (.cons (.v 2) .nil)))) .nil))))))) .pass) [some (fdD cs ks f5), some PG, some (shD p n), some (.bl main), some (.int x), some (.int v), some (.int cnt), none]) R := by
      intro cnt f5 hf5 hc0 hc R hR
      have hcb : cnt.toNat ≤ 10 := by omega
      have hcb2 : cnt ≤ (big : Int) := by show cnt ≤ (1000000 : Int); omega
      simp [sat_lc]
      refine ⟨⟨hcb2, by omega⟩, ?_⟩
      refine run_row12 (main := main) C M hcb hf5 hn ?_
      intro rs f' hl hd
      have := hR rs f' hl hd
      simp [shrL_zD]
      exact this
    cases b2 with
    | true =>
      obtain ⟨w, f5, w0, w1, e5, r5⟩ := run_draw (ks := ks) C (M + 1) f4 (k := 2) (by decide) (by decide)
      have e5' := e4'.thn e5
      rw [thn_n] at e5'
      have hx : ∃ δ : Int, (δ = 1 ∨ δ = -1) ∧ (g.p = 0 → δ = 1) ∧ (g.p = -1 → δ = -1) ∧ atI [D.int 1, .int (-1)] (if w < g.p then w else g.p) = some (.int δ) := by
        have hw : w = 0 ∨ w = 1 := by omega
        have hg : g.p = -1 ∨ g.p = 0 ∨ g.p = 1 ∨ 2 ≤ g.p := by omega
        rcases hg with hg | hg | hg | hg
        · refine ⟨-1, .inr rfl, fun h => absurd h (by omega), fun _ => rfl, ?_⟩
          rw [if_neg (by omega), hg]; rfl
        · refine ⟨1, .inl rfl, fun _ => rfl, fun h => absurd h (by omega), ?_⟩
          rw [if_neg (by omega), hg]; rfl
        · rcases hw with rfl | rfl
          · refine ⟨1, .inl rfl, fun _ => rfl, fun h => absurd h (by omega), ?_⟩
            rw [if_pos (by omega)]; rfl
          · refine ⟨-1, .inr rfl, fun h => absurd h (by omega), fun _ => rfl, ?_⟩
            rw [if_neg (by omega), hg]; rfl
        · rcases hw with rfl | rfl
          · refine ⟨1, .inl rfl, fun _ => rfl, fun h => absurd h (by omega), ?_⟩
            rw [if_pos (by omega)]; rfl
          · refine ⟨-1, .inr rfl, fun h => absurd h (by omega), fun _ => rfl, ?_⟩
            rw [if_pos (by omega)]; rfl
      obtain ⟨δ, h1, h2, h3, h4⟩ := hx
      have e5m := e5'.m
      suffices h : sat (evS (fnsN P (M + 3)) d__law_call_7e49.body [some (fdD cs ks f), some PG, some (shD p n), some (.bl main), none, none, none, none]) fun fl e => ∃ (rs : List (List Int)) (f' : Fd), rs.length = (g.p + δ).toNat ∧ Dr (g.p + δ).toNat (rO n rs) f5 f' ∧ fl = .rt (.tup [.str "call", .int x, .int v, .lst false (rs.map (zD false))]) ∧ outs [true, false, false, false] e = [some (fdD cs ks f'), none, none, none] by
        obtain ⟨fl, e', he, rs, f', k1, k2, rfl, k3⟩ := h
        refine ⟨v, rs, _, f', rfl, ?_, run_of rfl ⟨_, e', he, rfl, k3⟩⟩
        rw [if_neg hvb, if_pos (by rw [← gp]; simp [k1]; omega)]
        have := e5'.thn k2
        rw [thn_as] at this
        exact this.le (by omega)
      simp only [d__law_call_7e49]
      refine start _ _ ?_
      refine sat_cut (fun e => e = [some (fdD cs ks f3), some PG, some (shD p n), some (.bl main), some (.int x), some (.int v), none, none]) (by simp [plen, r3, ha0]) ?_
      rintro e rfl
      refine sat_cut (fun e => e = [some (fdD cs ks f3), some PG, some (shD p n), some (.bl main), some (.int x), some (.int v), some (.int g.p), none]) (by simp [gat, Fe.d, gu]) ?_
      rintro e rfl
      refine sat_cut (fun e => e = [some (fdD cs ks f5), some PG, some (shD p n), some (.bl main), some (.int x), some (.int v), some (.int (g.p + δ)), none]) (by simp [r4, r5, h4]) ?_
      rintro e rfl
      exact tail (g.p + δ) f5 (by omega) (by omega) (by omega) _ (fun rs f' hl hd => ⟨rs, f', hl, hd, rfl, by simp⟩)
    | false =>
      simp only [Bool.false_eq_true, if_false, thn_n] at e4'
      have e4m := e4'.m
      suffices h : sat (evS (fnsN P (M + 3)) d__law_call_7e49.body [some (fdD cs ks f), some PG, some (shD p n), some (.bl main), none, none, none, none]) fun fl e => ∃ (rs : List (List Int)) (f' : Fd), rs.length = g.p.toNat ∧ Dr g.p.toNat (rO n rs) f4 f' ∧ fl = .rt (.tup [.str "call", .int x, .int v, .lst false (rs.map (zD false))]) ∧ outs [true, false, false, false] e = [some (fdD cs ks f'), none, none, none] by
        obtain ⟨fl, e', he, rs, f', k1, k2, rfl, k3⟩ := h
        refine ⟨v, rs, _, f', rfl, ?_, run_of rfl ⟨_, e', he, rfl, k3⟩⟩
        have e6 := (e4'.thn k2).le (k' := 10) (by omega)
        rw [if_neg hvb]
        by_cases hz : f.fi = none
        · have := F.z hz _ g hg
          rw [if_neg (by rw [← gp]; simp [k1]; omega)]
          exact e6
        · exact e6.any hz
      simp only [d__law_call_7e49]
      refine start _ _ ?_
      refine sat_cut (fun e => e = [some (fdD cs ks f3), some PG, some (shD p n), some (.bl main), some (.int x), some (.int v), none, none]) (by simp [plen, r3, ha0]) ?_
      rintro e rfl
      refine sat_cut (fun e => e = [some (fdD cs ks f3), some PG, some (shD p n), some (.bl main), some (.int x), some (.int v), some (.int g.p), none]) (by simp [gat, Fe.d, gu]) ?_
      rintro e rfl
      refine sat_cut (fun e => e = [some (fdD cs ks f4), some PG, some (shD p n), some (.bl main), some (.int x), some (.int v), some (.int g.p), none]) (by simp [r4]) ?_
      rintro e rfl
      exact tail g.p f4 (by omega) (by omega) (by omega) _ (fun rs f' hl hd => ⟨rs, f', hl, hd, rfl, by simp⟩)
end
end Sr
set_option Elab.async false
set_option linter.all false
set_option maxRecDepth 100000
set_option maxHeartbeats 4000000
namespace Sr
open PySem PySem.Spec PyProof.Rows L2
section
variable {cs ks : List Int} {N a : Nat} {p n : Int} {pre : Nat → Int} {main : Bool} {fs : List Fe}
theorem Ask.le {m0 m1 : Nat} {d : Df} {x : D} {o : Option Nat} (h : Ask N a p n pre m0 d x o) (l : m0 ≤ m1) : Ask N a p n pre m1 d x o := fun Pg k => (h Pg k).le l
theorem pgD_un' {o : Bool} (u : fsU fs) : (pgD false fs).un = true := by simp [pgD, pgD_un (o := false) u]
/-- the place of a statement: all that stays alike -/
structure Pl (cs : List Int) (N a : Nat) (p n : Int) (main : Bool) : Prop where
  C : Cl12 cs
  n1 : 1 ≤ n ∧ n ≤ 100
  p0 : 0 ≤ p ∧ p ≤ n
  m : main = false ↔ (a : Int) ≠ (N : Int) - 1
def setT (w : Str) (x : Int) (zs : List Int) (d : Option Int) : D := .tup (match d with
  | none => [.str w, .int x, zD false zs]
  | some d => [.str w, .int x, zD false zs, .int d])
theorem lenD_zD {zs : List Int} : lenD (zD false zs) = some (.int (zs.length : Int)) := by simp [zD]
theorem Pz_set {w : Str} {x : Int} {zs : List Int} {d : Option Int} (hw : eqOk (.str w) = true) : Pz 4 (setT w x zs d) := by
  have hk : okN 3 (.str w) := ⟨(eqOk_iff.mp hw).1, by rw [D.py, PyData.depth] <;> omega⟩
  refine ⟨by cases d <;> simp [setT], ?_⟩
  cases d <;> simp [setT, zD, hk]
theorem run_plain12 (Q : Pl cs N a p n main) (M : Nat) {f : Fd} (hf : mu f ≤ 1800) (hpn : main = false → p < n) (F : Pr fs a pre f) {w : Str} (hw : w = "any" ∨ (w = "call" ∧ 0 < a) ∨ w = "set" ∨ w = "part" ∨ w = "rest") :
    ∃ x o f', Dr 10 o f f' ∧ Pz 4 x ∧ Ask N a p n pre 2 d_ask_statement_x x o ∧ runDf (fnsN P (M + 4)) d__law_plain_ebbc [fdD cs ks f, pgD false fs, shD p n, .bl main, .str w] = some (x, [some (fdD cs ks f'), none, none, none, none]) := by
  have pu := pgD_un' (fs := fs) (o := false) F.u
  have psh := shr_of_un _ pu
  have C := Q.C
  have hn := Q.n1
  have hp := Q.p0.1
  have hm := Q.m
  rcases hw with rfl | ⟨rfl, ha⟩ | hw
  · obtain ⟨x, o, f1, e1, z, k, r1⟩ := run_any12 (ks := ks) (pre := pre) C M (by omega : mu f ≤ 1900) hn hp hpn hm
    have zu := z.1
    have zs' := shr_of_un _ zu
    exact ⟨x, o, f1, e1.le (by decide), z, k.le (by decide), run_of rfl (by simp [d__law_plain_ebbc, r1, zu, zs', agFz_var])⟩
  · obtain ⟨x, o, f1, e1, z, k, r1⟩ := run_call12 (ks := ks) (pre := pre) C M hf hn hp hpn hm ha F
    have zu := z.1
    have zs' := shr_of_un _ zu
    exact ⟨x, o, f1, e1.le (by decide), z, k.le (by decide), run_of rfl (by simp [d__law_plain_ebbc, r1, zu, zs', pu, psh, agFz_var])⟩
  · obtain ⟨x, f1, e1, r1⟩ := run_box' (ks := ks) C (M + 1) (by omega : mu f ≤ 1900) hn hp hpn
    have e1m := e1.m
    obtain ⟨zs, f2, e2, r2⟩ := run_sum12 (ks := ks) C (M + 1) (f := f1) (p := p) (n := n) (by omega) hn
    have e2m := e2.m
    obtain ⟨d, f3, e3, r3⟩ := run_step12 (ks := ks) C (M + 1) (f := f2) (by omega)
    have hu : (zD false zs).un = true := zD_un
    have dn : ∀ Pg, Pk Pg N a p n pre → ∀ d : Option Int, ((w = "set" ∧ d = none) ∨ ((w = "part" ∨ w = "rest") ∧ d ≠ none)) → Ak 1 d_ask_statement_x [Pg, .int a, setT w x zs d] (thnO (boxO n p x main) (thnO (sO zs.length n) (match d with | none => none | some d => tO12 d))) := by
      intro Pg k d h
      have := ak_set k (x := x) h hu (lenD_zD (zs := zs))
      rw [boxO_eq hm]
      cases d <;> exact this
    have e12 := e1.thn e2
    rcases hw with rfl | hw
    · refine ⟨setT "set" x zs none, _, f2, e12.le (by decide), Pz_set (by simp), fun Pg k => ?_, run_of rfl ?_⟩
      · have := (dn Pg k none (.inl ⟨rfl, rfl⟩)).le (m1 := 2) (by decide)
        simpa only [thn_n] using this
      · simp [d__law_plain_ebbc, r1, r2, pu, psh, agFz_var, setT, zD]
    · have e := e12.thn e3
      rw [thn_as] at e
      refine ⟨setT w x zs (some d), _, f3, e.le (by decide), Pz_set (by rcases hw with rfl | rfl <;> simp), fun Pg k => ?_, run_of rfl ?_⟩
      · exact (dn Pg k (some d) (.inr ⟨hw, by simp⟩)).le (m1 := 2) (by decide)
      · rcases hw with rfl | rfl <;> simp [d__law_plain_ebbc, r1, r2, r3, pu, psh, agFz_var, setT, zD]
end
end Sr
set_option Elab.async false
set_option linter.all false
set_option maxRecDepth 100000
set_option maxHeartbeats 4000000
namespace Sr
open PySem PySem.Spec PyProof.Rows L2
@[simp] theorem fdD_2 {cs ks : List Int} {f : Fd} : atD (fdD cs ks f) 2 = some (.int (f.left : Int)) := by simp [fdD]
theorem fdD_dec {cs ks : List Int} {f : Fd} (h : 0 < f.left) : putD 2 (.int ((f.left : Int) - 1)) (fdD cs ks f) = some (fdD cs ks { f with left := f.left - 1 }) := by
  unfold fdD
  rw [put6_2]
  have : ((f.left - 1 : Nat) : Int) = (f.left : Int) - 1 := by omega
  rw [this]
section
variable {cs ks : List Int} {N a : Nat} {p n : Int} {pre : Nat → Int} {main : Bool} {fs : List Fe}
/-- a statement can be drawn -/
def StR (cs ks : List Int) (N a : Nat) (p n : Int) (pre : Nat → Int) (main : Bool) (fs : List Fe) (M m K : Nat) (dp : Int) : Prop :=
  ∀ f : Fd, mu f ≤ 1000 → 0 < f.left → Pr fs a pre f → ∃ x o f', Dr 0 o f f' ∧ Pz K x ∧ Ask N a p n pre m d_ask_statement_x x o ∧ runDf (fnsN P M) d__law_statement_9a11 [fdD cs ks f, pgD false fs, shD p n, .bl main, .int dp] = some (x, [some (fdD cs ks f'), none, none, none, none])
def BdR (cs ks : List Int) (N a : Nat) (p n : Int) (pre : Nat → Int) (main : Bool) (fs : List Fe) (M m K : Nat) (dp : Int) : Prop :=
  ∀ f : Fd, mu f ≤ 1000 → Pr fs a pre f → ∃ x o f', Dr 0 o f f' ∧ Pz K x ∧ Ask N a p n pre m d_ask_body_x x o ∧ runDf (fnsN P M) d__law_body_9a11 [fdD cs ks f, pgD false fs, shD p n, .bl main, .int dp] = some (x, [some (fdD cs ks f'), none, none, none, none])
theorem Bw_nil {m0 : Nat} {d : Df} {Pg : D} : Bw m0 d Pg a [] none := fun s h => by cases h
theorem Bw_app {m0 : Nat} {d : Df} {Pg : D} {ss : List D} {x : D} {o o' : Option Nat} (h : Bw m0 d Pg a ss o) (g : Ak m0 d [Pg, .int a, x] o') : Bw m0 d Pg a (ss ++ [x]) (thnO o o') := by
  cases o with
  | none =>
    rw [thn_0]
    cases o' with
    | none =>
      intro s hs
      rcases List.mem_append.mp hs with hs | hs
      · exact h s hs
      · rw [List.mem_singleton.mp hs]; exact g
    | some c =>
      refine ⟨ss.length, x, by simp, g, ?_⟩
      intro j s' hj hs
      rw [List.getElem?_append_left hj] at hs
      exact h s' (List.mem_of_getElem? hs)
  | some c =>
    obtain ⟨i, s, h1, h2, h3⟩ := h
    have hi := (List.getElem?_eq_some_iff.mp h1).1
    refine ⟨i, s, by rw [List.getElem?_append_left hi]; exact h1, h2, ?_⟩
    intro j s' hj hs
    rw [List.getElem?_append_left (by omega)] at hs
    exact h3 j s' hj hs
theorem bd_of_st (Q : Pl cs N a p n main) {M m K : Nat} {dp : Int} (hd : 0 ≤ dp) (h : StR cs ks N a p n pre main fs (M + 2) m K dp) : BdR cs ks N a p n pre main fs (M + 3) (m + 1) (K + 1) dp := by
  intro f hf F
  have pu := pgD_un' (fs := fs) (o := false) F.u
  have psh := shr_of_un _ pu
  obtain ⟨v, f1, v0, v1, e1, r1⟩ := run_draw (ks := ks) Q.C (M + 1) f (k := 4) (by decide) (by decide)
  have hK : 0 ≤ 1 + v - (if dp < 1 then dp else 1) ∧ 1 + v - (if dp < 1 then dp else 1) ≤ 4 := by split <;> omega
  obtain ⟨L, hL⟩ : ∃ L : Nat, (L : Int) = 1 + v - (if dp < 1 then dp else 1) := ⟨(1 + v - (if dp < 1 then dp else 1)).toNat, by omega⟩
  have hL4 : L ≤ 4 := by omega
  have hLb : L ≤ big := by show L ≤ 1000000; omega
  have e1m := e1.m
  obtain ⟨PG, hPG⟩ : ∃ PG, PG = pgD false fs := ⟨_, rfl⟩
  simp only [StR, ← hPG] at h
  rw [← hPG] at pu psh
  rw [← hPG]
  suffices hs : sat (evS (fnsN P (M + 3)) d__law_body_9a11.body [some (fdD cs ks f), some PG, some (shD p n), some (.bl main), some (.int dp), none, none]) fun fl e => ∃ (ss : List D) (o : Option Nat) (f' : Fd), Dr 0 o f f' ∧ (unL ss = true ∧ okL K ss) ∧ (∀ Pg, Pk Pg N a p n pre → Bw m d_ask_statement_x Pg a ss o) ∧ fl = .rt (.lst false ss) ∧ outs [true, false, false, false, false] e = [some (fdD cs ks f'), none, none, none, none] by
    obtain ⟨fl, e', he, ss, o, f', g1, ⟨g2, g3⟩, g4, rfl, g5⟩ := hs
    exact ⟨.lst false ss, o, f', g1, ⟨by simp [g2], okN_lst.mpr g3⟩, fun Pg k => ak_body k g2 (g4 Pg k), run_of rfl ⟨_, e', he, rfl, g5⟩⟩
  simp only [d__law_body_9a11]
  refine sat_cut (fun e => e = [some (fdD cs ks f), some PG, some (shD p n), some (.bl main), some (.int dp), some (.lst true []), none]) (by simp) ?_
  rintro e rfl
  simp [r1, ← hL, hLb]
  refine sat_forI (fun i e => ∃ (ss : List D) (o : Option Nat) (f' : Fd), ss.length ≤ i ∧ Dr 0 o f f' ∧ (unL ss = true ∧ okL K ss) ∧ (∀ Pg, Pk Pg N a p n pre → Bw m d_ask_statement_x Pg a ss o) ∧ e = [some (fdD cs ks f'), some PG, some (shD p n), some (.bl main), some (.int dp), some (.lst true ss), none]) ⟨[], none, f1, Nat.le_refl _, e1, ⟨rfl, ⟨rfl, Nat.zero_le _⟩⟩, fun _ _ => Bw_nil, rfl⟩ ?_ ?_
  · rintro i x e hi ⟨ss, o, f2, hl, e2, ⟨g2, g3⟩, g4, rfl⟩
    obtain ⟨hi, rfl⟩ := mk_get hi
    have e2m := e2.m
    by_cases c : 0 < f2.left
    · obtain ⟨x, o', f3, e3, ⟨z1, z2⟩, k, r3⟩ := h f2 (by omega) c (F.nxt e2)
      have zsh := shr_of_un _ z1
      have hb : ss.length < big := by show ss.length < 1000000; omega
      simp [c, r3, agFz_var, pu, psh, zsh, appD, hb]
      exact ⟨ss ++ [x], by simp; omega, thnO o o', f3, by have := e2.thn e3; exact this, ⟨by simp [g2, z1], by simp [g3, z2]⟩, fun Pg q => Bw_app (g4 Pg q) (k Pg q), by simp⟩
    · simp [c]
      exact ⟨ss, by omega, o, f2, e2, ⟨g2, g3⟩, g4, rfl, rfl⟩
  · rintro e ⟨ss, o, f2, hl, e2, ⟨g2, g3⟩, g4, rfl⟩
    have hs := shrL_of_un _ g2
    simp [hs]
    exact ⟨ss, o, f2, e2, ⟨g2, g3⟩, g4, rfl, rfl⟩
theorem clT_Pz {w : Str} {zs : List Int} {d : Option Int} (hw : w = "under" ∨ w = "same" ∨ w = "even") : Pz 3 (clT w zs d) := by
  refine ⟨by cases d <;> simp [clT], ?_⟩
  rcases hw with rfl | rfl | rfl <;> cases d <;> simp [clT]
theorem cl_ask {w : Str} {zs : List Int} {d : Option Int} (he : w = "even" ↔ d ≠ none) (hw : w = "under" ∨ w = "same" ∨ w = "even") : Ask N a p n pre 1 d_ask_claim_x (clT w zs d) (cO zs.length n d) := by
  intro Pg k
  have h := ak_claim k (one := zD false zs) (l := (zs.length : Int)) zD_un lenD_zD he (by rcases hw with rfl | rfl | rfl <;> simp)
  cases d <;> exact h
theorem pickW {w : Int} (h0 : 0 ≤ w) (h1 : w < 8) : ∃ s : Str, (s = "any" ∨ s = "call" ∨ s = "set" ∨ s = "part" ∨ s = "rest" ∨ s = "say" ∨ s = "if" ∨ s = "while") ∧ atI [D.str "set", .str "part", .str "rest", .str "any", .str "call", .str "say", .str "if", .str "while"] w = some (.str s) := by
  have : w = 0 ∨ w = 1 ∨ w = 2 ∨ w = 3 ∨ w = 4 ∨ w = 5 ∨ w = 6 ∨ w = 7 := by omega
  rcases this with rfl | rfl | rfl | rfl | rfl | rfl | rfl | rfl
  · exact ⟨"set", by simp, rfl⟩
  · exact ⟨"part", by simp, rfl⟩
  · exact ⟨"rest", by simp, rfl⟩
  · exact ⟨"any", by simp, rfl⟩
  · exact ⟨"call", by simp, rfl⟩
  · exact ⟨"say", by simp, rfl⟩
  · exact ⟨"if", by simp, rfl⟩
  · exact ⟨"while", by simp, rfl⟩
theorem pickN {w : Int} (h0 : 0 ≤ w) (h1 : w < 3) : ∃ s : Str, (s = "say" ∨ s = "if" ∨ s = "while") ∧ atI [D.str "say", .str "if", .str "while"] w = some (.str s) := by
  have : w = 0 ∨ w = 1 ∨ w = 2 := by omega
  rcases this with rfl | rfl | rfl
  · exact ⟨"say", by simp, rfl⟩
  · exact ⟨"if", by simp, rfl⟩
  · exact ⟨"while", by simp, rfl⟩
/-- what words may come -/
def WdOk (a : Nat) (p n : Int) (main : Bool) (dp : Int) (w : Str) : Prop :=
  w = "say" ∨ ((w = "if" ∨ w = "while") ∧ dp ≠ 4) ∨ ((main = false → p < n) ∧ (w = "any" ∨ (w = "call" ∧ 0 < a) ∨ w = "set" ∨ w = "part" ∨ w = "rest"))
theorem st_of_bd (Q : Pl cs N a p n main) {M m K : Nat} {dp : Int} (hd : 0 ≤ dp ∧ dp ≤ 4) (hK : 3 ≤ K) (h : dp ≠ 4 → BdR cs ks N a p n pre main fs (M + 4) (m + 1) K (dp + 1)) : StR cs ks N a p n pre main fs (M + 5) (m + 2) (K + 1) dp := by
  intro f hf h0 F
  have pu := pgD_un' (fs := fs) (o := false) F.u
  have psh := shr_of_un _ pu
  have plen : lenD (pgD false fs) = some (.int (a : Int)) := by rw [pgD_len, F.l]
  have hput := fdD_dec (cs := cs) (ks := ks) h0
  obtain ⟨f0, hf0⟩ : ∃ f0, f0 = { f with left := f.left - 1 } := ⟨_, rfl⟩
  rw [← hf0] at hput
  have m0 : mu f0 + 10 ≤ mu f := by rw [hf0]; simp [mu]; omega
  have l0 : f0.left ≤ f.left := by rw [hf0]; simp
  have i0 : f0.fi = f.fi := by rw [hf0]
  have back : ∀ {o : Option Nat} {f' : Fd}, Dr 10 o f0 f' → Dr 0 o f f' := fun e => ⟨by have := e.m; omega, Nat.le_trans e.l l0, by rw [e.e, i0], fun q => e.w (by rw [hf0]; exact q), fun q => e.g (by rw [i0]; exact q)⟩
  have F0 : Pr fs a pre f0 := ⟨F.l, F.a5, F.u, F.p, by rw [i0]; exact F.z⟩
  obtain ⟨v, f1, v0, v1, e1, r1⟩ := run_draw (ks := ks) Q.C (M + 3) f0 (k := 8) (by decide) (by decide)
  obtain ⟨w1, hw1, a1⟩ := pickW v0 v1
  obtain ⟨u, f2, u0, u1, e2, r2⟩ := run_draw (ks := ks) Q.C (M + 3) f1 (k := 3) (by decide) (by decide)
  obtain ⟨w2, hw2, a2⟩ := pickN u0 u1
  obtain ⟨PG, hPG⟩ : ∃ PG, PG = pgD false fs := ⟨_, rfl⟩
  simp only [BdR, ← hPG] at h
  have rp : ∀ (f : Fd), mu f ≤ 1800 → (main = false → p < n) → Pr fs a pre f → ∀ w : Str, (w = "any" ∨ (w = "call" ∧ 0 < a) ∨ w = "set" ∨ w = "part" ∨ w = "rest") → ∃ x o f', Dr 10 o f f' ∧ Pz 4 x ∧ Ask N a p n pre 2 d_ask_statement_x x o ∧ runDf (fnsN P (M + 4)) d__law_plain_ebbc [fdD cs ks f, pgD false fs, shD p n, .bl main, .str w] = some (x, [some (fdD cs ks f'), none, none, none, none]) := fun f hf hpn F w hw => run_plain12 Q M hf hpn F hw
  simp only [← hPG] at rp
  rw [← hPG] at pu psh plen
  rw [← hPG]
  suffices hs : sat (evS (fnsN P (M + 5)) d__law_statement_9a11.body [some (fdD cs ks f), some PG, some (shD p n), some (.bl main), some (.int dp), none, none, none]) fun fl e => ∃ (x : D) (o : Option Nat) (f' : Fd), Dr 0 o f f' ∧ Pz (K + 1) x ∧ Ask N a p n pre (m + 2) d_ask_statement_x x o ∧ fl = .rt x ∧ outs [true, false, false, false, false] e = [some (fdD cs ks f'), none, none, none, none] by
    obtain ⟨fl, e', he, x, o, f', g1, g2, g4, rfl, g5⟩ := hs
    exact ⟨x, o, f', g1, g2, g4, run_of rfl ⟨_, e', he, rfl, g5⟩⟩
  simp only [d__law_statement_9a11]
  refine sat_cut (fun e => e = [some (fdD cs ks f0), some PG, some (shD p n), some (.bl main), some (.int dp), none, none, none]) (by simp [hput]) ?_
  rintro e rfl
  refine sat_cut (fun e => e = [some (fdD cs ks f1), some PG, some (shD p n), some (.bl main), some (.int dp), some (.str w1), none, none]) (by simp [r1, a1]) ?_
  rintro e rfl
  refine sat_cut (fun e => ∃ (w : Str) (f' : Fd), Dr 0 none f0 f' ∧ (w = "say" ∨ ((w = "if" ∨ w = "while")) ∨ ((main = false → p < n) ∧ (w = "any" ∨ w = "call" ∨ w = "set" ∨ w = "part" ∨ w = "rest"))) ∧ e = [some (fdD cs ks f'), some PG, some (shD p n), some (.bl main), some (.int dp), some (.str w), none, none]) ?_ ?_
  · by_cases c : p = n ∧ main = false
    · obtain ⟨rfl, rfl⟩ := c
      simp [r2, a2]
      refine ⟨w2, f2, e1.thn e2, ?_, rfl, rfl⟩
      rcases hw2 with h | h | h <;> simp [h]
    · by_cases c1 : p = n
      · have c2 : main = true := by cases main <;> simp_all
        subst c1 c2
        simp
        refine ⟨w1, f1, e1, ?_, rfl, rfl⟩
        rcases hw1 with h | h | h | h | h | h | h | h <;> simp [h]
      · simp [c1]
        have := Q.p0
        refine ⟨w1, f1, e1, ?_, rfl, rfl⟩
        have : p < n := by omega
        rcases hw1 with h | h | h | h | h | h | h | h <;> simp [h, this]
  rintro e ⟨w3, f3, e3, hw3, rfl⟩
  refine sat_cut (fun e => ∃ (w : Str), (w = "say" ∨ ((w = "if" ∨ w = "while")) ∨ ((main = false → p < n) ∧ (w = "any" ∨ (w = "call" ∧ 0 < a) ∨ w = "set" ∨ w = "part" ∨ w = "rest"))) ∧ e = [some (fdD cs ks f3), some PG, some (shD p n), some (.bl main), some (.int dp), some (.str w), none, none]) ?_ ?_
  · by_cases c : a = 0
    · by_cases c2 : w3 = "call"
      · subst c2
        simp [plen, c]
        rcases hw3 with h | h | ⟨h, _⟩
        · exact absurd h (by decide)
        · rcases h with h | h <;> exact absurd h (by decide)
        · exact h
      · rcases hw3 with rfl | (rfl | rfl) | ⟨h, rfl | rfl | rfl | rfl | rfl⟩ <;> first | exact absurd rfl c2 | simp
        all_goals exact h
    · have c' : 0 < a := by omega
      rcases hw3 with rfl | (rfl | rfl) | ⟨h, rfl | rfl | rfl | rfl | rfl⟩ <;> simp [plen, c]
      all_goals first | exact h | exact ⟨h, c'⟩
  rintro e ⟨w4, hw4, rfl⟩
  refine sat_cut (fun e => ∃ (w : Str), WdOk a p n main dp w ∧ e = [some (fdD cs ks f3), some PG, some (shD p n), some (.bl main), some (.int dp), some (.str w), none, none]) ?_ ?_
  · by_cases c : dp = 4
    · rcases hw4 with rfl | (rfl | rfl) | ⟨h, rfl | ⟨rfl, h2⟩ | rfl | rfl | rfl⟩ <;> simp [c, WdOk]
      all_goals first | exact h | exact ⟨h, h2⟩
    · rcases hw4 with rfl | (rfl | rfl) | ⟨h, rfl | ⟨rfl, h2⟩ | rfl | rfl | rfl⟩ <;> simp [c, WdOk]
      all_goals first | exact h | exact ⟨h, h2⟩
  rintro e ⟨w, hw, rfl⟩
  have e3m := e3.m
  obtain ⟨cw, zs, d, f4, he, hcw, e4, r4⟩ := run_claim12 (ks := ks) Q.C (M + 1) (f := f3) (by omega) Q.n1 (p := p)
  have cask : Ask N a p n pre 1 d_ask_claim_x (clT cw zs d) (cO zs.length n d) := cl_ask he hcw
  have cz := clT_Pz (zs := zs) (d := d) hcw
  obtain ⟨CL, hCL⟩ : ∃ CL, CL = clT cw zs d := ⟨_, rfl⟩
  rw [← hCL] at cask cz r4
  have cu := cz.1
  have cs' := shr_of_un _ cu
  have e4' := e3.thn e4
  rw [thn_0] at e4'
  have e4m := e4'.m
  have cz3 : okN K CL := cz.2.mono hK
  have nest : ∀ (w : Str) (bs : List D) (ob : Option Nat), (w = "say" ∨ w = "if" ∨ w = "while") → unL bs = true → (∀ Pg, Pk Pg N a p n pre → Bw (m + 1) d_ask_body_x Pg a bs ob) → Ask N a p n pre (m + 2) d_ask_statement_x (.tup (.str w :: CL :: bs)) (thnO (cO zs.length n d) ob) := by
    intro w bs ob hw hu hb Pg k
    have h1 := (cask Pg k).le (m1 := m + 1) (by omega)
    revert h1
    generalize cO zs.length n d = oc
    intro h1
    have := ak_nest k hw cu hu h1 (hb Pg k)
    cases oc <;> exact this
  rcases hw with rfl | ⟨hw, c4⟩ | ⟨hpn, hw⟩
  · simp [r4, cu, cs', psh, agFz_var]
    refine ⟨.tup [.str "say", CL], _, f4, back (e4'.le (by decide)), ?_, ?_, rfl, rfl⟩
    · exact ⟨by simp [cu], okN_tup.mpr (by
        obtain ⟨K', rfl⟩ : ∃ K', K = K' + 1 := ⟨K - 1, by omega⟩
        simp [cz3])⟩
    · have := nest "say" [] none (by simp) rfl (fun _ _ => Bw_nil)
      rwa [thn_n] at this
  · have h := h c4
    obtain ⟨b1, o1, f5, e5, z5, k5, r5⟩ := h f4 (by omega) (F0.nxt e4')
    obtain ⟨b2, o2, f6, e6, z6, k6, r6⟩ := h f5 (by have := e5.m; omega) ((F0.nxt e4').nxt e5)
    have u5 := z5.1
    have s5 := shr_of_un _ u5
    have u6 := z6.1
    have s6 := shr_of_un _ u6
    rcases hw with rfl | rfl
    · simp [r4, r5, r6, cu, cs', psh, pu, u5, s5, u6, s6, agFz_var]
      refine ⟨.tup [.str "if", CL, b1, b2], _, f6, back (((e4'.thn e5).thn e6).le (by decide)), ?_, ?_, rfl, rfl⟩
      · exact ⟨by simp [cu, u5, u6], okN_tup.mpr (by
          obtain ⟨K', rfl⟩ : ∃ K', K = K' + 1 := ⟨K - 1, by omega⟩
          simp [z5.2, z6.2, cz3])⟩
      · have := nest "if" [b1, b2] (thnO o1 o2) (by simp) (by simp [u5, u6]) (fun Pg k => by
          have q1 := Bw_app (Bw_nil (m0 := m + 1) (d := d_ask_body_x) (Pg := Pg) (a := a)) (k5 Pg k)
          exact Bw_app q1 (k6 Pg k))
        rw [thn_as]
        exact this
    · simp [r4, r5, cu, cs', psh, pu, u5, s5, agFz_var]
      refine ⟨.tup [.str "while", CL, b1], _, f5, back ((e4'.thn e5).le (by decide)), ?_, ?_, rfl, rfl⟩
      · exact ⟨by simp [cu, u5], okN_tup.mpr (by
          obtain ⟨K', rfl⟩ : ∃ K', K = K' + 1 := ⟨K - 1, by omega⟩
          simp [z5.2, cz3])⟩
      · exact nest "while" [b1] o1 (by simp) (by simp [u5]) (fun Pg k => Bw_app (Bw_nil (m0 := m + 1) (d := d_ask_body_x) (Pg := Pg) (a := a)) (k5 Pg k))
  · obtain ⟨x, o, f5, e5, z5, k5, r5⟩ := rp f3 (by omega) hpn (F0.nxt e3) w hw
    have u5 := z5.1
    have s5 := shr_of_un _ u5
    have e := e3.thn e5
    rw [thn_0] at e
    rcases hw with rfl | ⟨rfl, ha⟩ | rfl | rfl | rfl <;> simp [r5, u5, s5, psh, pu, agFz_var]
    all_goals exact ⟨x, o, f5, back e, z5.mono (by omega), k5.le (by omega), rfl, rfl⟩
theorem body_0 (Q : Pl cs N a p n main) (M : Nat) : BdR cs ks N a p n pre main fs (M + 14) 11 13 0 := by
  have s4 : StR cs ks N a p n pre main fs (M + 5) 2 4 4 := st_of_bd (K := 3) (m := 0) Q (by decide) (by decide) (fun h => absurd rfl h)
  have b4 := bd_of_st (M := M + 3) Q (by decide) s4
  have s3 : StR cs ks N a p n pre main fs (M + 7) 4 6 3 := st_of_bd (M := M + 2) (m := 2) Q (by decide) (by decide) (fun _ => b4)
  have b3 := bd_of_st (M := M + 5) Q (by decide) s3
  have s2 : StR cs ks N a p n pre main fs (M + 9) 6 8 2 := st_of_bd (M := M + 4) (m := 4) Q (by decide) (by decide) (fun _ => b3)
  have b2 := bd_of_st (M := M + 7) Q (by decide) s2
  have s1 : StR cs ks N a p n pre main fs (M + 11) 8 10 1 := st_of_bd (M := M + 6) (m := 6) Q (by decide) (by decide) (fun _ => b2)
  have b1 := bd_of_st (M := M + 9) Q (by decide) s1
  have s0 : StR cs ks N a p n pre main fs (M + 13) 10 12 0 := st_of_bd (M := M + 8) (m := 8) Q (by decide) (by decide) (fun _ => b1)
  exact bd_of_st (M := M + 11) Q (by decide) s0
end
end Sr
set_option Elab.async false
set_option linter.all false
set_option maxRecDepth 100000
set_option maxHeartbeats 4000000
namespace Sr
open PySem PySem.Spec PyProof.Rows L2
section
variable {cs ks : List Int} {N : Nat}
/-- what is asked function by function, whatever comes behind -/
def Wi (N : Nat) (fs : List Fe) (o : Option Nat) : Prop := ∀ FS : List Fe, FS.length = N → fsU FS → (∀ (j : Nat) (g : Fe), fs[j]? = some g → FS[j]? = some g) → Ww 11 (pgD false FS) fs o
theorem Wi_nil : Wi N [] none := fun FS _ _ _ i f h => by simp at h
theorem Wi_app {fs : List Fe} {o o' : Option Nat} {g : Fe} (h : Wi N fs o)
    (hg : ∀ FS : List Fe, FS.length = N → fsU FS → (∀ (j : Nat) (g' : Fe), (fs ++ [g])[j]? = some g' → FS[j]? = some g') → (shp g = true ∧ o' = some 3) ∨ (shp g = false ∧ Ak 11 d_ask_body_x [pgD false FS, .int fs.length, g.b] o')) : Wi N (fs ++ [g]) (thnO o o') := by
  intro FS hl hu hp
  have hp' : ∀ (j : Nat) (g' : Fe), fs[j]? = some g' → FS[j]? = some g' := fun j g' hj => hp j g' (by rw [List.getElem?_append_left (List.getElem?_eq_some_iff.mp hj).1]; exact hj)
  have hw := h FS hl hu hp'
  have hg := hg FS hl hu hp
  have cas : ∀ (j : Nat) (f : Fe), (fs ++ [g])[j]? = some f → fs[j]? = some f ∨ (j = fs.length ∧ f = g) := by
    intro j f hj
    by_cases c : j < fs.length
    · rw [List.getElem?_append_left c] at hj; exact .inl hj
    · have hlt := (List.getElem?_eq_some_iff.mp hj).1
      simp at hlt
      have : j = fs.length := by omega
      subst this
      simp at hj
      exact .inr ⟨rfl, hj.symm⟩
  cases o with
  | none =>
    rw [thn_0]
    cases o' with
    | none =>
      intro i f hf
      rcases cas i f hf with hf | ⟨rfl, rfl⟩
      · exact hw i f hf
      · rcases hg with ⟨_, h⟩ | hg
        · cases h
        · exact hg
    | some c =>
      refine ⟨fs.length, g, by simp, ?_, ?_⟩
      · rcases hg with ⟨h1, h2⟩ | hg
        · cases h2
          exact .inl ⟨h1, rfl⟩
        · exact .inr hg
      · intro j f hj hf
        rw [List.getElem?_append_left hj] at hf
        exact hw j f hf
  | some c =>
    obtain ⟨i, f, h1, h2, h3⟩ := hw
    have hi := (List.getElem?_eq_some_iff.mp h1).1
    refine ⟨i, f, by rw [List.getElem?_append_left hi]; exact h1, h2, ?_⟩
    intro j s' hj hs
    rw [List.getElem?_append_left (by omega)] at hs
    exact h3 j s' hj hs
def preOf (fs : List Fe) (i : Nat) : Int := match fs[i]? with
  | some g => g.p
  | none => 0
/-- functions drawn -/
structure Fn12 (N i : Nat) (fs : List Fe) (f0 f : Fd) (o : Option Nat) : Prop where
  l : fs.length = i
  d : Dr i o f0 f
  u : fsU fs
  k : okL 14 (fs.map Fe.d)
  p : ∀ (j : Nat) (g : Fe), fs[j]? = some g → -1 ≤ g.p ∧ g.p ≤ 5
  z : f.fi = none → ∀ (j : Nat) (g : Fe), fs[j]? = some g → 0 ≤ g.p
  w : Wi N fs o
theorem shpick {n q : Int} (h0 : 0 ≤ q) (h1 : q < 3) (hn : 1 ≤ n ∧ n ≤ 4) : ∃ p' n' : Int, atI [D.lst true [.int (-1), .int n], .lst true [.int (n + 1), .int n], .lst true [.int 0, .int 0]] q = some (.lst true [.int p', .int n']) ∧ -1 ≤ p' ∧ p' ≤ 5 ∧ (n' < 1 ∨ p' < 0 ∨ n' < p') := by
  have : q = 0 ∨ q = 1 ∨ q = 2 := by omega
  rcases this with rfl | rfl | rfl
  · exact ⟨-1, n, rfl, by omega, by omega, by omega⟩
  · exact ⟨n + 1, n, rfl, by omega, by omega, by omega⟩
  · exact ⟨0, 0, rfl, by omega, by omega, by omega⟩
theorem run_program12 (C : Cl12 cs) (M : Nat) {f : Fd} (hf : mu f ≤ 500) (hfi : f.fi = none) :
    ∃ (fs : List Fe) (N : Nat) (f' : Fd), 1 ≤ N ∧ N ≤ 5 ∧ Fn12 N N fs f f' f'.fi ∧ runDf (fnsN P (M + 15)) d__law_program_0e2d [fdD cs ks f] = some (pgD false fs, [some (fdD cs ks f')]) := by
  obtain ⟨v, f1, v0, v1, e1, r1⟩ := run_draw (ks := ks) C (M + 13) f (k := 5) (by decide) (by decide)
  obtain ⟨N, hN⟩ : ∃ N : Nat, (N : Int) = 1 + v := ⟨(1 + v).toNat, by omega⟩
  have hNb : N ≤ big := by show N ≤ 1000000; omega
  have hN5 : N ≤ 5 := by omega
  suffices hs : sat (evS (fnsN P (M + 15)) d__law_program_0e2d.body [some (fdD cs ks f), none, none, none, none, none, none, none]) fun fl e => ∃ (fs : List Fe) (o : Option Nat) (f' : Fd), Fn12 N N fs f f' o ∧ fl = .rt (pgD false fs) ∧ outs [true] e = [some (fdD cs ks f')] by
    obtain ⟨fl, e', he, fs, o, f', g1, rfl, g5⟩ := hs
    have ho : f'.fi = o := by rw [g1.d.e, hfi, thn_0]
    subst ho
    exact ⟨fs, N, f', by omega, hN5, g1, run_of rfl ⟨_, e', he, rfl, g5⟩⟩
  simp only [d__law_program_0e2d]
  refine sat_cut (fun e => e = [some (fdD cs ks f), some (pgD true []), none, none, none, none, none, none]) (by simp [pgD]) ?_
  rintro e rfl
  refine sat_cut (fun e => e = [some (fdD cs ks f1), some (pgD true []), some (.int (N : Int)), none, none, none, none, none]) (by simp [r1, hN]) ?_
  rintro e rfl
  refine sat_cut (fun e => ∃ (fs : List Fe) (o : Option Nat) (f' : Fd), Fn12 N N fs f f' o ∧ e = [some (fdD cs ks f'), some (pgD true fs), some (.int (N : Int)), none, none, none, none, none]) ?_ ?_
  · simp [hNb]
    refine sat_forI (fun i e => ∃ (fs : List Fe) (o : Option Nat) (f' : Fd), Fn12 N i fs f f' o ∧ e = [some (fdD cs ks f'), some (pgD true fs), some (.int (N : Int)), none, none, none, none, none]) ?_ ?_ ?_
    · refine ⟨[], none, f1, ⟨rfl, e1, (fun g hg => by cases hg), ⟨rfl, Nat.zero_le _⟩, (fun j g hg => by simp at hg), (fun _ j g hg => by simp at hg), Wi_nil⟩, rfl⟩
    · rintro i x e hi ⟨fs, o, f2, G, rfl⟩
      obtain ⟨hi, rfl⟩ := mk_get hi
      have Gm := G.d.m
      obtain ⟨w, f3, w0, w1, e3, r3⟩ := run_draw (ks := ks) C (M + 13) f2 (k := 4) (by decide) (by decide)
      obtain ⟨n, hn⟩ : ∃ n : Int, n = 1 + w := ⟨_, rfl⟩
      obtain ⟨p, f4, p0, p1, e4, r4⟩ := run_draw (ks := ks) C (M + 13) f3 (k := n + 1) (by omega) (by omega)
      have e34 := (G.d.thn e3).thn e4
      rw [thn_n, thn_n] at e34
      have m4 := e34.m
      obtain ⟨b, f5, e5, r5⟩ := run_offD (cs := cs) (ks := ks) (fnsN P (M + 14)) (c := 3) (w := "NoShape") ⟨by decide, by simp [okC]⟩ f4 (by omega)
      have e345 := e34.thn e5
      have m5 := e345.m
      obtain ⟨main, hmain⟩ : ∃ b : Bool, b = decide ((i : Int) = (N : Int) - 1) := ⟨_, rfl⟩
      have Q : Pl cs N i p n main := ⟨C, by omega, by omega, by rw [hmain]; simp⟩
      have F : Pr fs i (preOf fs) f5 := by
        refine ⟨G.l, by omega, G.u, fun j g hj => ⟨by simp [preOf, hj], G.p j g hj⟩, fun h => G.z ?_⟩
        have := e5.e
        rw [e4.e, thn_n, e3.e, thn_n, h] at this
        cases hc : f2.fi with
        | none => rfl
        | some c => rw [hc] at this; cases this
      obtain ⟨x, ob, f6, e6, zx, kx, r6⟩ := body_0 (ks := ks) (pre := preOf fs) (fs := fs) Q M f5 (by omega) F
      have xu := zx.1
      have xsh := shr_of_un _ xu
      have e := e345.thn e6
      have m6 := e.m
      obtain ⟨q, f7, q0, q1, e7, r7⟩ := run_draw (ks := ks) C (M + 13) f6 (k := 3) (by decide) (by decide)
      obtain ⟨p', n', hq, g1, g2, g3⟩ := shpick q0 q1 (n := n) (by omega)
      have pu := pgD_un (o := true) G.u
      have hss := shrL_of_un _ pu
      have hlen : (fs.map Fe.d).length < big := by simp [G.l]; show i < 1000000; omega
      have hlen2 : fs.length < big := by rw [G.l]; show i < 1000000; omega
      have cond1 : ((i : Int) = (N : Int) - 1) = (main = true) := by rw [hmain]; simp
      simp only [bind1, opt_some]
      refine sat_cut (fun e => e = [some (fdD cs ks f3), some (pgD true fs), some (.int (N : Int)), some (.int (i : Int)), some (.int n), none, none, none]) (by simp [r3, hn]) ?_
      rintro e rfl
      refine sat_cut (fun e => e = [some (fdD cs ks f4), some (pgD true fs), some (.int (N : Int)), some (.int (i : Int)), some (.int n), some (shD p n), none, none]) (by simp [r4, shD]) ?_
      rintro e rfl
      refine sat_cut (fun e => e = [some (fdD cs ks f5), some (pgD true fs), some (.int (N : Int)), some (.int (i : Int)), some (.int n), some (shD p n), some (.bl b), none]) (by simp [r5]) ?_
      rintro e rfl
      refine sat_cut (fun e => e = [some (fdD cs ks f6), some (pgD true fs), some (.int (N : Int)), some (.int (i : Int)), some (.int n), some (shD p n), some (.bl b), some x]) ?_ ?_
      · simp only [pgD] at r6 ⊢
        simp [← hmain, hss, pu, r6, agFz_var, xu, xsh]
      rintro e rfl
      have okx : okN 13 x := zx.2
      have fin : ∀ (p1 n1 : Int) (o' : Option Nat) (f8 : Fd), Dr (i + 1) (thnO o o') f f8 → -1 ≤ p1 ∧ p1 ≤ 5 → (f8.fi = none → 0 ≤ p1) → (∀ FS : List Fe, FS.length = N → fsU FS → (∀ (j : Nat) (g' : Fe), (fs ++ [(⟨p1, n1, x⟩ : Fe)])[j]? = some g' → FS[j]? = some g') → (shp ⟨p1, n1, x⟩ = true ∧ o' = some 3) ∨ (shp ⟨p1, n1, x⟩ = false ∧ Ak 11 d_ask_body_x [pgD false FS, .int fs.length, x] o')) → Fn12 N (i + 1) (fs ++ [⟨p1, n1, x⟩]) f f8 (thnO o o') := by
        intro p1 n1 o' f8 hd hp1 hz hw
        have cas : ∀ (j : Nat) (g : Fe), (fs ++ [(⟨p1, n1, x⟩ : Fe)])[j]? = some g → fs[j]? = some g ∨ g = ⟨p1, n1, x⟩ := by
          intro j g hj
          by_cases c : j < fs.length
          · rw [List.getElem?_append_left c] at hj; exact .inl hj
          · have hlt := (List.getElem?_eq_some_iff.mp hj).1
            simp at hlt
            have : j = fs.length := by omega
            subst this
            simp at hj
            exact .inr hj.symm
        refine ⟨by simp [G.l], hd, ?_, ?_, ?_, ?_, Wi_app G.w hw⟩
        · intro g hg
          rcases List.mem_append.mp hg with hg | hg
          · exact G.u g hg
          · rw [List.mem_singleton.mp hg]; exact xu
        · have := G.k
          simp [this, Fe.d, okx]
        · intro j g hj
          rcases cas j g hj with hj | rfl
          · exact G.p j g hj
          · exact hp1
        · intro h j g hj
          rcases cas j g hj with hj | rfl
          · refine G.z ?_ j g hj
            have := hd.e
            rw [h, hfi, thn_0] at this
            have g2 := G.d.e
            rw [hfi, thn_0] at g2
            rw [g2]
            cases o with
            | none => rfl
            | some c => cases this
          · exact hz h
      cases b with
      | true =>
        have e9 := e.thn e7
        rw [thn_n, thn_as] at e9
        refine sat_cut (fun e => e = [some (fdD cs ks f7), some (pgD true fs), some (.int (N : Int)), some (.int (i : Int)), some (.int n), some (shD p' n'), some (.bl true), some x]) (by simp [r7, hq, shD]) ?_
        rintro e rfl
        simp [pgD, appD, hlen2, xsh]
        refine ⟨fs ++ [⟨p', n', x⟩], thnO o (some 3), f7, fin p' n' (some 3) f7 ?_ ⟨g1, g2⟩ ?_ ?_, by simp [Fe.d]⟩
        · exact Dr.le e9 (by omega)
        · intro h
          have := e9.e
          rw [h, hfi, thn_0] at this
          cases o <;> cases this
        · intro FS _ _ _
          exact .inl ⟨by simpa [shp] using g3, rfl⟩
      | false =>
        simp only [Bool.false_eq_true, if_false, thn_n] at e
        refine sat_cut (fun e => e = [some (fdD cs ks f6), some (pgD true fs), some (.int (N : Int)), some (.int (i : Int)), some (.int n), some (shD p n), some (.bl false), some x]) (by simp) ?_
        rintro e rfl
        simp [pgD, appD, hlen2, xsh]
        refine ⟨fs ++ [⟨p, n, x⟩], thnO o ob, f6, fin p n ob f6 (e.le (by omega)) (by omega) (fun _ => p0) ?_, by simp [Fe.d]⟩
        intro FS hl hu hp
        refine .inr ⟨by simp [shp]; omega, ?_⟩
        have hg : FS[i]? = some ⟨p, n, x⟩ := hp i _ (by rw [← G.l]; simp)
        rw [G.l]
        refine kx _ ⟨pgD_un' (o := true) hu, by rw [pgD_len, hl], ⟨⟨p, n, x⟩, xu, rfl, rfl, pgD_at hg⟩, ?_⟩
        intro i' hi'
        obtain ⟨g, hgg⟩ : ∃ g, fs[i']? = some g := ⟨fs[i']'(by rw [G.l]; exact hi'), by simp⟩
        refine ⟨g, G.u g (List.mem_of_getElem? hgg), by simp [preOf, hgg], pgD_at (hp i' g ?_)⟩
        rw [List.getElem?_append_left (by rw [G.l]; exact hi')]
        exact hgg
    · rintro e ⟨fs, o, f2, G, rfl⟩
      rw [mk_len] at G
      simp
      exact ⟨fs, o, f2, G, rfl, rfl⟩
  rintro e ⟨fs, o, f', G, rfl⟩
  have hs := shrL_of_un _ (pgD_un (o := true) G.u)
  simp [pgD, hs]
  exact ⟨fs, o, f', G, rfl, rfl⟩
end
end Sr
set_option Elab.async false
set_option linter.all false
set_option maxRecDepth 100000
set_option maxHeartbeats 4000000
namespace Sr
open PySem PySem.Spec PyProof.Rows L2
theorem run_refusal12 {fs : List Fe} {m0 M : Nat} {o : Option Nat} (hu : fsU fs) (h : Mw m0 (pgD false fs) o) (hM : m0 ≤ M) (hc : okC o) : runDf (fnsN P (M + 1)) d__law_refusal [pgD false fs] = some (.tup [.str (wd o), .bl true], [none]) := by
  have pu := pgD_un' (fs := fs) (o := false) hu
  have psh := shr_of_un _ pu
  refine run_of rfl ?_
  simp only [d__law_refusal]
  refine sat_cut (fun e => e = [some (pgD false fs), some (.tup [.str "", .bl false]), none]) (by simp) ?_
  rintro e rfl
  refine sat_cut (fun e => e = [some (pgD false fs), some (.tup [.str (wd o), .bl true]), none]) ?_ ?_
  · simp only [sat_tri, sat_seq]
    cases o with
    | none =>
      have f1 := h M hM
      refine sat_asgX ?_
      simp [f1, pu, psh, agFz_var, wd]
    | some c =>
      have f1 := h M hM
      have f2 := exc_run f1
      refine sat_asgX_no2 (c := c) ?_ rfl
      simp [okC] at hc
      rcases hc with rfl | rfl | rfl | rfl | rfl | rfl | rfl <;> simp [f1, f2, pu, psh, agFz, hndl, isub, evXS, evXQ, wd]
  · rintro e rfl
    simp
theorem run_under12 {fs : List Fe} {m0 M : Nat} {c : Nat} (hu : fsU fs) (h : Mw m0 (pgD false fs) (some c)) (hM : m0 ≤ M) (hc : okC (some c)) : runDf (fnsN P (M + 1)) d__law_under_base [pgD false fs] = some (.bl true, [none]) := by
  have pu := pgD_un' (fs := fs) (o := false) hu
  have psh := shr_of_un _ pu
  have f1 := h M hM
  have f2 := exc_run f1
  refine run_of rfl ?_
  simp only [d__law_under_base]
  refine sat_cut (fun e => e = [some (pgD false fs), some (.bl false), none]) (by simp) ?_
  rintro e rfl
  refine sat_cut (fun e => e = [some (pgD false fs), some (.bl true), none]) ?_ ?_
  · simp only [sat_tri, sat_seq]
    refine sat_exX_no (c := c) ?_ rfl
    simp [okC] at hc
    rcases hc with rfl | rfl | rfl | rfl | rfl | rfl | rfl <;> simp [f1, f2, pu, psh, agFz, hndl, isub, evXS, evXQ]
  · rintro e rfl
    simp
/-! ### a copy is the same -/
mutual
def dpt12 : D → Nat
  | .tup xs => dptL12 xs + 1
  | .lst _ xs => dptL12 xs + 1
  | _ => 0
def dptL12 : List D → Nat
  | [] => 0
  | x :: r => max (dpt12 x) (dptL12 r)
end
theorem dpt_mem12 {x : D} : ∀ {xs : List D}, x ∈ xs → dpt12 x ≤ dptL12 xs
  | [], h => by cases h
  | y :: r, h => by
    rw [dptL12]
    rcases List.mem_cons.mp h with rfl | h
    · exact Nat.le_max_left ..
    · exact Nat.le_trans (dpt_mem12 h) (Nat.le_max_right ..)
theorem tyL_s12 (x : Str) : tyL (.str x) = false := rfl
theorem tyT_s12 (x : Str) : tyT (.str x) = false := rfl
theorem run_lcopy12 : ∀ (k : Nat) (d : D), d.un = true → dpt12 d ≤ k → ∀ m, runDf (fnsN P (m + k)) d__law_copy_1206_f [d] = some (d, [none]) := by
  intro k
  induction k with
  | zero =>
    intro d hu hd m
    refine run_of rfl ?_
    cases d with
    | tup xs => rw [dpt12] at hd; omega
    | lst o xs => rw [dpt12] at hd; omega
    | _ => simp [d__law_copy_1206_f, tyL_s12, tyT_s12]
  | succ k ih =>
    intro d hu hd m
    show runDf (fnsN P (m + k + 1)) _ _ = _
    have go : ∀ xs : List D, unL xs = true → dptL12 xs ≤ k → ∀ (x0 : D) (hx : x0.un = true) (Q : List D → Env → Prop), Q xs [some x0, none] → sat (loopC (lcF (fnsN P (m + k + 1)) [1] (.bl true) (.call F__law_copy_1206_f (.cons (.v 1) .nil))) xs [some x0, none] []) Q := by
      intro xs hxs hdx x0 hx0 Q hQ
      rw [loopC_mapE (g := fun x => x) (by
        intro x hx
        have xu := unL_mem hxs hx
        have xs' := shr_of_un x xu
        have r := ih x xu (Nat.le_trans (dpt_mem12 hx) hdx) m
        apply eq_of_sat
        rw [sat_lcF]
        have hns : x.ns = true ∨ x.ns = false := by cases x.ns <;> simp
        rcases hns with h | h <;> simp [r, xu, xs', h, agFz_var])]
      simpa using hQ
    refine run_of rfl ?_
    cases d with
    | tup xs =>
      rw [D.un] at hu
      rw [dpt12] at hd
      have hs := shrL_of_un xs hu
      simp [d__law_copy_1206_f, hu, sat_lc, hs]
      refine go xs hu (by omega) (.tup xs) (by simpa using hu) _ ?_
      simp [hu, hs]
    | lst o xs =>
      simp only [D.un, Bool.and_eq_true, Bool.not_eq_true'] at hu
      obtain ⟨ho, hu⟩ := hu
      subst ho
      rw [dpt12] at hd
      have hs := shrL_of_un xs hu
      simp [d__law_copy_1206_f, hu, sat_lc, hs]
      refine go xs hu (by omega) (.lst false xs) (by simpa using hu) _ ?_
      simp [hu, hs]
    | _ => simp [d__law_copy_1206_f, tyL_s12, tyT_s12]
mutual
theorem dpt_py : ∀ d : D, d.un = true → dpt12 d ≤ d.py.depth
  | .tup xs, h => by
    rw [D.un] at h
    rw [dpt12, D.py, PyData.depth]
    have := dptL_py xs h
    omega
  | .lst o xs, h => by
    simp only [D.un, Bool.and_eq_true] at h
    rw [dpt12, D.py, PyData.depth]
    have := dptL_py xs h.2
    omega
  | .int _, _ => Nat.zero_le _
  | .bl _, _ => Nat.zero_le _
  | .str _, _ => Nat.zero_le _
  | .non, _ => Nat.zero_le _
  | .cel o k xs, _ => Nat.zero_le _
theorem dptL_py : ∀ xs : List D, unL xs = true → dptL12 xs ≤ PyData.depthAll (pyL xs)
  | [], _ => Nat.zero_le _
  | x :: r, h => by
    rw [unL, Bool.and_eq_true] at h
    rw [dptL12, pyL, PyData.depthAll]
    have h1 := dpt_py x h.1
    have h2 := dptL_py r h.2
    omega
end
/-! ### the spots -/
theorem pick7 {w : Int} (h0 : 0 ≤ w) (h1 : w < 7) : ∃ s : Str, eqOk (.str s) = true ∧ atI [D.str "NoShape", .str "NoBox", .str "FixedBox", .str "NoSum", .str "NoStep", .str "NoStretch", .str "NoCall"] w = some (.str s) := by
  have : w = 0 ∨ w = 1 ∨ w = 2 ∨ w = 3 ∨ w = 4 ∨ w = 5 ∨ w = 6 := by omega
  rcases this with rfl | rfl | rfl | rfl | rfl | rfl | rfl
  · exact ⟨"NoShape", by decide +kernel, rfl⟩
  · exact ⟨"NoBox", by decide +kernel, rfl⟩
  · exact ⟨"FixedBox", by decide +kernel, rfl⟩
  · exact ⟨"NoSum", by decide +kernel, rfl⟩
  · exact ⟨"NoStep", by decide +kernel, rfl⟩
  · exact ⟨"NoStretch", by decide +kernel, rfl⟩
  · exact ⟨"NoCall", by decide +kernel, rfl⟩
theorem run_spots12 (M : Nat) {ns : List Int} {ws : List Str} (hl : ns.length ≤ 100) (hw : ws.length ≤ 2000) (hk : ∀ w ∈ ws, eqOk (.str w) = true) : ∃ ks : List Int, runDf (fnsN P M) d__law_spots_o [.lst false (ns.map .int), .lst false (ws.map .str)] = some (.lst true (ks.map .int), [none, none]) := by
  obtain ⟨WS, hWS⟩ : ∃ WS, WS = D.lst false (ws.map .str) := ⟨_, rfl⟩
  obtain ⟨NS, hNS⟩ : ∃ NS, NS = D.lst false (ns.map .int) := ⟨_, rfl⟩
  have wlen : lenD WS = some (.int (ws.length : Int)) := by rw [hWS]; simp
  have wat : ∀ i : Nat, i < ws.length → ∃ w : Str, eqOk (.str w) = true ∧ atD WS (i : Int) = some (.str w) := by
    intro i hi
    refine ⟨ws[i], hk _ (List.getElem_mem hi), ?_⟩
    rw [hWS, atD_lst]
    exact atI_lit (by simp [hi])
  have hwb : ws.length ≤ big := by show ws.length ≤ 1000000; omega
  have nsl : slD NS none (some 2) = some (.lst true ((ns.take 2).map .int)) := by
    rw [hNS]
    simp [slD, cutD, HT.sIx]
  rw [← hWS, ← hNS]
  suffices hs : sat (evS (fnsN P M) d__law_spots_o.body [some NS, some WS, none, none, none, none, none, none]) fun fl e => ∃ ks : List Int, fl = .rt (.lst true (ks.map .int)) ∧ outs [false, false] e = [none, none] by
    obtain ⟨fl, e', he, ks, rfl, g5⟩ := hs
    exact ⟨ks, run_of rfl ⟨_, e', he, rfl, g5⟩⟩
  simp only [d__law_spots_o]
  refine sat_cut (fun e => e = [some NS, some WS, some (.lst true []), none, none, none, none, none]) (by simp) ?_
  rintro e rfl
  refine sat_cut (fun e => ∃ ks : List Int, e = [some NS, some WS, some (.lst true (ks.map .int)), none, none, none, none, none]) ?_ ?_
  · simp [nsl]
    refine sat_forI (fun i e => ∃ ks : List Int, ks.length ≤ i ∧ e = [some NS, some WS, some (.lst true (ks.map .int)), none, none, none, none, none]) ⟨[], Nat.le_refl _, rfl⟩ ?_ ?_
    · rintro i x e hi ⟨ks, hkl, rfl⟩
      have hsh : shrL (List.take 2 (List.map D.int ns)) = (ns.take 2).map D.int := by
        rw [← List.map_take]
        exact shrL_of_un _ unL_zs
      rw [hsh] at hi
      have hi2 : i < 2 := by
        have := (List.getElem?_eq_some_iff.mp hi).1
        rw [List.length_map, List.length_take] at this
        omega
      have hx : ∃ z : Int, x = .int z := by
        rw [List.getElem?_map] at hi
        cases h : (ns.take 2)[i]? with
        | none => rw [h] at hi; cases hi
        | some z => rw [h] at hi; cases hi; exact ⟨z, rfl⟩
      obtain ⟨z, rfl⟩ := hx
      have m1 : mulOk z 48271 := mulOk_r (by decide)
      obtain ⟨c, hc⟩ : ∃ c, c = (z * 48271).fmod 1000003 := ⟨_, rfl⟩
      have h7 := fmod_lt c (show (0 : Int) < 7 by decide)
      obtain ⟨s, sok, hs⟩ := pick7 h7.1 h7.2
      simp only [bind1, opt_some]
      refine sat_cut (fun e => e = [some NS, some WS, some (.lst true (ks.map .int)), some (.int z), some (.int c), none, none, none]) (by simp [m1, hc]) ?_
      rintro e rfl
      refine sat_cut (fun e => e = [some NS, some WS, some (.lst true (ks.map .int)), some (.int z), some (.int c), some (.str s), none, none]) (by simp [hs]) ?_
      rintro e rfl
      refine sat_cut (fun e => ∃ zs : List Int, e = [some NS, some WS, some (.lst true (ks.map .int)), some (.int z), some (.int c), some (.str s), some (.lst false (zs.map .int)), none] ∧ zs.length ≤ 2000) ?_ ?_
      · simp [sat_lc, wlen, hwb]
        refine sat_loopCI (fun j acc e => ∃ zs : List Int, zs.length ≤ j ∧ acc = zs.map .int ∧ e = [some NS, some WS, some (.lst true (ks.map .int)), some (.int z), some (.int c), some (.str s), none, none]) ⟨[], Nat.le_refl _, rfl, rfl⟩ ?_ ?_
        · rintro j y acc e hj ⟨zs, hz, rfl, rfl⟩
          obtain ⟨hj', rfl⟩ := mk_get hj
          obtain ⟨w, wok, wat'⟩ := wat j hj'
          rw [sat_lcF]
          by_cases cc : w = s
          · simp [wat', wok, sok, cc]
            exact ⟨zs ++ [(j : Int) + 1], by simp; omega, by simp⟩
          · simp [wat', wok, sok, cc]
            exact ⟨zs, by omega, rfl⟩
        · rintro acc e ⟨zs, hz, rfl, rfl⟩
          rw [mk_len] at hz
          simp
          exact ⟨zs, rfl, by omega⟩
      rintro e ⟨zs, rfl, hz⟩
      by_cases c1 : zs = []
      · subst c1
        simp
        exact ⟨ks, by omega, rfl⟩
      · have hz0 : 0 < zs.length := List.length_pos_iff.mpr c1
        have h8 := fmod_lt (c.fdiv 56) (show (0 : Int) < (zs.length : Int) by omega)
        have e1 := atI_map zs h8.1 h8.2
        have hz1 : ¬ (zs.length : Int) = 0 := by omega
        have hlg : zs.length < 2 ^ 64 := by omega
        have hkb : ks.length < big := by show ks.length < 1000000; omega
        by_cases c2 : 0 < (c.fdiv 7).fmod 8
        · simp [c1, c2, e1, hz0, hz1, hlg, appD, hkb]
          exact ⟨ks ++ [cell zs ((c.fdiv 56).fmod zs.length)], by simp; omega, by simp⟩
        · simp [c1, c2]
          exact ⟨ks, by omega, rfl⟩
    · rintro e ⟨ks, hkl, rfl⟩
      simp
      exact ⟨ks, rfl⟩
  rintro e ⟨ks, rfl⟩
  simp
  exact ⟨ks, rfl⟩
end Sr
set_option Elab.async false
set_option linter.all false
set_option maxRecDepth 100000
set_option maxHeartbeats 4000000
namespace Sr
open PySem PySem.Spec PyProof.Rows L2
theorem feed_eq {cs ks : List Int} : fdD cs ks ⟨0, 30, [], none⟩ = .lst true [.lst true (cs.map .int), .int 0, .int 30, .lst true [], .lst true (ks.map .int), .str ""] := rfl
theorem fdD_5 {cs ks : List Int} {f : Fd} : atD (fdD cs ks f) 5 = some (.str (wd f.fi)) := by simp [fdD]
theorem fdD_put5 {cs ks : List Int} {f : Fd} {c : Nat} : putD 5 (.str (wd (some c))) (fdD cs ks f) = some (fdD cs ks { f with fi := some c }) := by
  unfold fdD
  rw [put6_5]
theorem lawRun : ∀ ns : List Int, ns.length ≤ 63 → (∀ z ∈ ns, Builtin.Int.intBits z ≤ 1048576) → ∃ os, runDf (fnsN P 16) d_law [.lst false (ns.map D.int)] = some (.bl true, os) := by
  intro ns hl hb
  have C : Cl12 (ns.drop 2) := ⟨by rw [List.length_drop]; omega, fun z hz => hb z (List.mem_of_mem_drop hz)⟩
  obtain ⟨fs1, N1, f1, _, _, G1, r1⟩ := run_program12 (ks := []) C 0 (f := ⟨0, 30, [], none⟩) (by decide) rfl
  have hw1 : ∀ w ∈ f1.ws, eqOk (.str w) = true := G1.d.w (fun w hw => by cases hw)
  have hl1 : f1.ws.length ≤ 2000 := by
    have := G1.d.m
    simp [mu] at this
    omega
  obtain ⟨ks, rs⟩ := run_spots12 15 (ns := ns) (by omega) hl1 hw1
  obtain ⟨fs2, N2, f2, hN1, hN5, G2, r2⟩ := run_program12 (ks := ks) C 0 (f := ⟨0, 30, [], none⟩) (by decide) rfl
  have hbig : big = 1000000 := rfl
  have u2 : fsU fs2 := G2.u
  have w2 := G2.w fs2 G2.l G2.u (fun j g h => h)
  have ne2 : fs2 ≠ [] := fun h => by
    have := G2.l
    rw [h] at this
    simp at this
    omega
  have mw2 : Mw 12 (pgD false fs2) f2.fi := mw_of u2 ne2 (by rw [G2.l, hbig]; omega) w2
  have c2 : okC f2.fi := G2.d.g (.inl rfl)
  have k2 : okN 15 (pgD false fs2) := okN_lst.mpr G2.k
  obtain ⟨NS, hNS⟩ : ∃ NS, NS = D.lst false (ns.map .int) := ⟨_, rfl⟩
  have nsl : slD NS (some 2) none = some (.lst true ((ns.drop 2).map .int)) := by
    rw [hNS]
    simp [slD, cutD, HT.sIx]
    by_cases h : 2 ≤ ns.length
    · rw [Nat.min_eq_left h, List.take_of_length_le (by simp)]
    · rw [Nat.min_eq_right (by omega), List.drop_eq_nil_of_le (by simp), List.drop_eq_nil_of_le (by simp; omega)]
      simp
  have nlen : lenD NS = some (.int (ns.length : Int)) := by rw [hNS]; simp
  have nun : NS.un = true := by rw [hNS]; simp
  have nsh := shr_of_un _ nun
  have nat0 : 0 < ns.length → ∃ z : Int, atD NS 0 = some (.int z) := by
    intro h
    refine ⟨ns[0], ?_⟩
    rw [hNS, atD_lst]
    exact atI_lit (j := 0) (by simp [h])
  rw [← hNS] at rs ⊢
  obtain ⟨cs, hcs⟩ : ∃ cs, cs = ns.drop 2 := ⟨_, rfl⟩
  rw [← hcs] at r1 r2 nsl
  suffices hs : sat (evS (fnsN P 16) d_law.body [some NS, none, none, none, none]) fun fl e => fl = .rt (.bl true) by
    obtain ⟨fl, e', he, rfl⟩ := hs
    exact ⟨_, run_of rfl ⟨_, e', he, rfl, rfl⟩⟩
  simp only [d_law]
  refine sat_cut (fun e => e = [some NS, some (fdD cs [] ⟨0, 30, [], none⟩), none, none, none]) (by simp [nsl, feed_eq]) ?_
  rintro e rfl
  refine sat_cut (fun e => e = [some NS, some (fdD cs [] f1), none, none, none]) (by simp [r1]) ?_
  rintro e rfl
  have ws1 : unL (f1.ws.map D.str) = true := by
    induction f1.ws with
    | nil => rfl
    | cons a r ih => simp [ih]
  have ws2 := shrL_of_un _ ws1
  have fs3 : atD (fdD cs [] f1).shr 3 = some (.lst false (f1.ws.map .str)) := by simp [fdD, ws2]
  refine sat_cut (fun e => e = [some NS, some (fdD cs ks ⟨0, 30, [], none⟩), none, none, none]) (by simp [nsl, feed_eq, rs, fs3, nsh, nun, ws2, ws1, agFz_var]) ?_
  rintro e rfl
  refine sat_cut (fun e => e = [some NS, some (fdD cs ks f2), some (pgD false fs2), none, none]) ?_ ?_
  · have pu := pgD_un' (fs := fs2) (o := true) u2
    have psh := shr_of_un _ pu
    simp [r2, pu, psh, agFz_var]
  rintro e rfl
  refine sat_cut (fun e => ∃ (fs : List Fe) (f : Fd), (fsU fs ∧ Mw 12 (pgD false fs) f.fi ∧ okC f.fi ∧ okN 15 (pgD false fs)) ∧ e = [some NS, some (fdD cs ks f), some (pgD false fs), none, none]) ?_ ?_
  · by_cases c0 : 0 < ns.length
    · obtain ⟨z, hz⟩ := nat0 c0
      have c0' : ns ≠ [] := List.length_pos_iff.mp c0
      by_cases c1 : z.fmod 9 = 4
      · have hp := fdD_put5 (cs := cs) (ks := ks) (f := f2) (c := 3)
        simp only [wd] at hp
        simp [nlen, c0, c0', hz, c1, hp]
        refine ⟨[], { f2 with fi := some 3 }, ⟨fun f hf => (by cases hf), ?_, .inr (.inr (.inl rfl)), okN_lst.mpr ⟨rfl, Nat.zero_le _⟩⟩, rfl, rfl⟩
        intro M hM
        exact mw_nil M (Nat.zero_le _)
      · simp [nlen, c0, c0', hz, c1]
        exact ⟨fs2, f2, ⟨u2, mw2, c2, k2⟩, rfl, rfl⟩
    · have c0' : ns = [] := List.length_eq_zero_iff.mp (by omega)
      simp [nlen, c0']
      exact ⟨fs2, f2, ⟨u2, mw2, c2, k2⟩, rfl, rfl⟩
  rintro e ⟨fs, f, ⟨u, mw, cc, kk⟩, rfl⟩
  have pu := pgD_un' (fs := fs) (o := true) u
  have psh := shr_of_un _ pu
  have rc := run_lcopy12 15 (pgD false fs) pu (Nat.le_trans (dpt_py _ pu) kk.2) 0
  have rr := run_refusal12 (M := 14) u mw (by decide) cc
  have ok1 : eqOk (pgD false fs) = true := eqOk_iff.mpr (kk.mono (by decide))
  have ev1 := eqv_self kk
  have okw := wd_ok f.fi
  have evw : eqv (.str (wd f.fi)) (.str (wd f.fi)) = true := by simp
  refine sat_cut (fun e => e = [some NS, some (fdD cs ks f), some (pgD false fs), some (pgD false fs), none]) (by simp [rc, pu, psh, agFz_var]) ?_
  rintro e rfl
  refine sat_cut (fun e => e = [some NS, some (fdD cs ks f), some (pgD false fs), some (pgD false fs), some (.tup [.str (wd f.fi), .bl true])]) (by simp [rr, pu, psh, agFz_var]) ?_
  rintro e rfl
  refine sat_cut (fun e => e = [some NS, some (fdD cs ks f), some (pgD false fs), some (pgD false fs), some (.tup [.str (wd f.fi), .bl true])]) (by simp [fdD_5, okw, ok1, ev1, pu]) ?_
  rintro e rfl
  cases hfi : f.fi with
  | none =>
    simp [fdD_5, hfi, wd]
  | some c =>
    rw [hfi] at mw cc okw
    have ru := run_under12 (M := 14) u mw (by decide) cc
    have nw : ¬ wd (some c) = ("" : Str) := by rw [wd_no]; simp
    simp [fdD_5, hfi, okw, nw, ru, pu, psh, agFz_var]
end Sr
set_option Elab.async false
set_option linter.all false
set_option maxRecDepth 100000
set_option maxHeartbeats 4000000
namespace Sr
open PySem PySem.Spec PyProof.Rows L2

/-! ### the text is that of the program -/
def top (i : Nat) : Stmt := PySem.Challenge.pw_seer_k12_well_made_or_refused.main.body.getD i (.Pass ⟨0, 0, 0, 0⟩)
abbrev s_stretch_x : Stmt := top 10
abbrev s_ask_box_x : Stmt := top 12
abbrev s_ask_sum_x : Stmt := top 13
abbrev s_ask_step_x : Stmt := top 14
abbrev s_ask_claim_x : Stmt := top 15
abbrev s_ask_call_x : Stmt := top 16
abbrev s_ask_statement_x : Stmt := top 17
abbrev s_ask_body_x : Stmt := top 18
abbrev s_well_made_x : Stmt := top 19
abbrev s__law_take_79a4 : Stmt := top 21
abbrev s__law_draw_5153 : Stmt := top 22
abbrev s__law_number_bdb4 : Stmt := top 23
abbrev s__law_off : Stmt := top 24
abbrev s__law_box_244c : Stmt := top 25
abbrev s__law_sum_8f62 : Stmt := top 26
abbrev s__law_step_a90e : Stmt := top 27
abbrev s__law_claim_850b : Stmt := top 28
abbrev s__law_any_40f3 : Stmt := top 29
abbrev s__law_call_7e49 : Stmt := top 30
abbrev s__law_plain_ebbc : Stmt := top 31
abbrev s__law_statement_9a11 : Stmt := top 32
abbrev s__law_body_9a11 : Stmt := top 33
abbrev s__law_program_0e2d : Stmt := top 34
abbrev s__law_copy_1206_f : Stmt := top 35
abbrev s__law_refusal : Stmt := top 36
abbrev s__law_under_base : Stmt := top 37
abbrev s__law_spots_o : Stmt := top 38
abbrev s_law : Stmt := top 39
def hasF (f : Nat) : Bool := [5, 76, 77, 78, 79, 80, 81, 82, 83, 84, 85, 86, 87, 88, 89, 90, 91, 92, 93, 94, 95, 96, 97, 98, 99, 100, 101].contains f
def hasC (c : Nat) : Bool := false
def hasM (f c : Nat) : Bool := false
def hasK (c f : Nat) : Bool := false
def hasR (f : Nat) : Bool := [1, 3, 4, 5, 6, 7, 8].contains f
def hasX (f : Nat) : Bool := [0, 1, 3, 4, 5, 6, 7, 8].contains f
theorem t_stretch_x : DefT ⟨["lo", "hi"], fnm, hasF, hasR, hasX, hasC, hasM, hasK⟩ d_stretch_x ["lo", "hi"] s_stretch_x := ⟨⟨rfl, rfl, rfl, by decide +kernel, rfl, by decide +kernel, by decide +kernel⟩, by decide +kernel, rfl, rfl⟩
theorem t_ask_box_x : DefT ⟨["program", "at", "x", "params"], fnm, hasF, hasR, hasX, hasC, hasM, hasK⟩ d_ask_box_x ["program", "at", "x"] s_ask_box_x := ⟨⟨rfl, rfl, rfl, by decide +kernel, rfl, by decide +kernel, by decide +kernel⟩, by decide +kernel, rfl, rfl⟩
theorem t_ask_sum_x : DefT ⟨["program", "at", "one"], fnm, hasF, hasR, hasX, hasC, hasM, hasK⟩ d_ask_sum_x ["program", "at", "one"] s_ask_sum_x := ⟨⟨rfl, rfl, rfl, by decide +kernel, rfl, by decide +kernel, by decide +kernel⟩, by decide +kernel, rfl, rfl⟩
theorem t_ask_step_x : DefT ⟨["d"], fnm, hasF, hasR, hasX, hasC, hasM, hasK⟩ d_ask_step_x ["d"] s_ask_step_x := ⟨⟨rfl, rfl, rfl, by decide +kernel, rfl, by decide +kernel, by decide +kernel⟩, by decide +kernel, rfl, rfl⟩
theorem t_ask_claim_x : DefT ⟨["program", "at", "claim"], fnm, hasF, hasR, hasX, hasC, hasM, hasK⟩ d_ask_claim_x ["program", "at", "claim"] s_ask_claim_x := ⟨⟨rfl, rfl, rfl, by decide +kernel, rfl, by decide +kernel, by decide +kernel⟩, by decide +kernel, rfl, rfl⟩
theorem t_ask_call_x : DefT ⟨["program", "at", "one", "each"], fnm, hasF, hasR, hasX, hasC, hasM, hasK⟩ d_ask_call_x ["program", "at", "one"] s_ask_call_x := ⟨⟨rfl, rfl, rfl, by decide +kernel, rfl, by decide +kernel, by decide +kernel⟩, by decide +kernel, rfl, rfl⟩
theorem t_ask_statement_x : DefT ⟨["program", "at", "one", "word", "body"], fnm, hasF, hasR, hasX, hasC, hasM, hasK⟩ d_ask_statement_x ["program", "at", "one"] s_ask_statement_x := ⟨⟨rfl, rfl, rfl, by decide +kernel, rfl, by decide +kernel, by decide +kernel⟩, by decide +kernel, rfl, rfl⟩
theorem t_ask_body_x : DefT ⟨["program", "at", "body", "one"], fnm, hasF, hasR, hasX, hasC, hasM, hasK⟩ d_ask_body_x ["program", "at", "body"] s_ask_body_x := ⟨⟨rfl, rfl, rfl, by decide +kernel, rfl, by decide +kernel, by decide +kernel⟩, by decide +kernel, rfl, rfl⟩
theorem t_well_made_x : DefT ⟨["program", "at", "params", "many"], fnm, hasF, hasR, hasX, hasC, hasM, hasK⟩ d_well_made_x ["program"] s_well_made_x := ⟨⟨rfl, rfl, rfl, by decide +kernel, rfl, by decide +kernel, by decide +kernel⟩, by decide +kernel, rfl, rfl⟩
theorem t__law_take_79a4 : DefT ⟨["feed"], fnm, hasF, hasR, hasX, hasC, hasM, hasK⟩ d__law_take_79a4 ["feed"] s__law_take_79a4 := ⟨⟨rfl, rfl, rfl, by decide +kernel, rfl, by decide +kernel, by decide +kernel⟩, by decide +kernel, rfl, rfl⟩
theorem t__law_draw_5153 : DefT ⟨["feed", "many"], fnm, hasF, hasR, hasX, hasC, hasM, hasK⟩ d__law_draw_5153 ["feed", "many"] s__law_draw_5153 := ⟨⟨rfl, rfl, rfl, by decide +kernel, rfl, by decide +kernel, by decide +kernel⟩, by decide +kernel, rfl, rfl⟩
theorem t__law_number_bdb4 : DefT ⟨["feed", "cell", "wide"], fnm, hasF, hasR, hasX, hasC, hasM, hasK⟩ d__law_number_bdb4 ["feed"] s__law_number_bdb4 := ⟨⟨rfl, rfl, rfl, by decide +kernel, rfl, by decide +kernel, by decide +kernel⟩, by decide +kernel, rfl, rfl⟩
theorem t__law_off : DefT ⟨["feed", "word"], fnm, hasF, hasR, hasX, hasC, hasM, hasK⟩ d__law_off ["feed", "word"] s__law_off := ⟨⟨rfl, rfl, rfl, by decide +kernel, rfl, by decide +kernel, by decide +kernel⟩, by decide +kernel, rfl, rfl⟩
theorem t__law_box_244c : DefT ⟨["feed", "shape", "main", "low"], fnm, hasF, hasR, hasX, hasC, hasM, hasK⟩ d__law_box_244c ["feed", "shape", "main"] s__law_box_244c := ⟨⟨rfl, rfl, rfl, by decide +kernel, rfl, by decide +kernel, by decide +kernel⟩, by decide +kernel, rfl, rfl⟩
theorem t__law_sum_8f62 : DefT ⟨["feed", "shape", "size", "one", "code", "k"], fnm, hasF, hasR, hasX, hasC, hasM, hasK⟩ d__law_sum_8f62 ["feed", "shape"] s__law_sum_8f62 := ⟨⟨rfl, rfl, rfl, by decide +kernel, rfl, by decide +kernel, by decide +kernel⟩, by decide +kernel, rfl, rfl⟩
theorem t__law_step_a90e : DefT ⟨["feed"], fnm, hasF, hasR, hasX, hasC, hasM, hasK⟩ d__law_step_a90e ["feed"] s__law_step_a90e := ⟨⟨rfl, rfl, rfl, by decide +kernel, rfl, by decide +kernel, by decide +kernel⟩, by decide +kernel, rfl, rfl⟩
theorem t__law_claim_850b : DefT ⟨["feed", "shape", "word", "one"], fnm, hasF, hasR, hasX, hasC, hasM, hasK⟩ d__law_claim_850b ["feed", "shape"] s__law_claim_850b := ⟨⟨rfl, rfl, rfl, by decide +kernel, rfl, by decide +kernel, by decide +kernel⟩, by decide +kernel, rfl, rfl⟩
theorem t__law_any_40f3 : DefT ⟨["feed", "shape", "main", "x", "lo", "hi", "kept"], fnm, hasF, hasR, hasX, hasC, hasM, hasK⟩ d__law_any_40f3 ["feed", "shape", "main"] s__law_any_40f3 := ⟨⟨rfl, rfl, rfl, by decide +kernel, rfl, by decide +kernel, by decide +kernel⟩, by decide +kernel, rfl, rfl⟩
theorem t__law_call_7e49 : DefT ⟨["feed", "program", "shape", "main", "x", "named", "count", "k"], fnm, hasF, hasR, hasX, hasC, hasM, hasK⟩ d__law_call_7e49 ["feed", "program", "shape", "main"] s__law_call_7e49 := ⟨⟨rfl, rfl, rfl, by decide +kernel, rfl, by decide +kernel, by decide +kernel⟩, by decide +kernel, rfl, rfl⟩
theorem t__law_plain_ebbc : DefT ⟨["feed", "program", "shape", "main", "word", "x", "one"], fnm, hasF, hasR, hasX, hasC, hasM, hasK⟩ d__law_plain_ebbc ["feed", "program", "shape", "main", "word"] s__law_plain_ebbc := ⟨⟨rfl, rfl, rfl, by decide +kernel, rfl, by decide +kernel, by decide +kernel⟩, by decide +kernel, rfl, rfl⟩
theorem t__law_statement_9a11 : DefT ⟨["feed", "program", "shape", "main", "depth", "word", "claim", "body"], fnm, hasF, hasR, hasX, hasC, hasM, hasK⟩ d__law_statement_9a11 ["feed", "program", "shape", "main", "depth"] s__law_statement_9a11 := ⟨⟨rfl, rfl, rfl, by decide +kernel, rfl, by decide +kernel, by decide +kernel⟩, by decide +kernel, rfl, rfl⟩
theorem t__law_body_9a11 : DefT ⟨["feed", "program", "shape", "main", "depth", "body", "k"], fnm, hasF, hasR, hasX, hasC, hasM, hasK⟩ d__law_body_9a11 ["feed", "program", "shape", "main", "depth"] s__law_body_9a11 := ⟨⟨rfl, rfl, rfl, by decide +kernel, rfl, by decide +kernel, by decide +kernel⟩, by decide +kernel, rfl, rfl⟩
theorem t__law_program_0e2d : DefT ⟨["feed", "program", "count", "f", "many", "shape", "off", "body"], fnm, hasF, hasR, hasX, hasC, hasM, hasK⟩ d__law_program_0e2d ["feed"] s__law_program_0e2d := ⟨⟨rfl, rfl, rfl, by decide +kernel, rfl, by decide +kernel, by decide +kernel⟩, by decide +kernel, rfl, rfl⟩
theorem t__law_copy_1206_f : DefT ⟨["thing", "each"], fnm, hasF, hasR, hasX, hasC, hasM, hasK⟩ d__law_copy_1206_f ["thing"] s__law_copy_1206_f := ⟨⟨rfl, rfl, rfl, by decide +kernel, rfl, by decide +kernel, by decide +kernel⟩, by decide +kernel, rfl, rfl⟩
theorem t__law_refusal : DefT ⟨["program", "told", "e"], fnm, hasF, hasR, hasX, hasC, hasM, hasK⟩ d__law_refusal ["program"] s__law_refusal := ⟨⟨rfl, rfl, rfl, by decide +kernel, rfl, by decide +kernel, by decide +kernel⟩, by decide +kernel, rfl, rfl⟩
theorem t__law_under_base : DefT ⟨["program", "under", "e"], fnm, hasF, hasR, hasX, hasC, hasM, hasK⟩ d__law_under_base ["program"] s__law_under_base := ⟨⟨rfl, rfl, rfl, by decide +kernel, rfl, by decide +kernel, by decide +kernel⟩, by decide +kernel, rfl, rfl⟩
theorem t__law_spots_o : DefT ⟨["script", "words_met", "some", "cell", "code", "wanted", "spots", "k"], fnm, hasF, hasR, hasX, hasC, hasM, hasK⟩ d__law_spots_o ["script", "words_met"] s__law_spots_o := ⟨⟨rfl, rfl, rfl, by decide +kernel, rfl, by decide +kernel, by decide +kernel⟩, by decide +kernel, rfl, rfl⟩
theorem t_law : DefT ⟨["script", "feed", "program", "handed", "told"], fnm, hasF, hasR, hasX, hasC, hasM, hasK⟩ d_law ["script"] s_law := ⟨⟨rfl, rfl, rfl, by decide +kernel, rfl, by decide +kernel, by decide +kernel⟩, by decide +kernel, rfl, rfl⟩
theorem all_mk {l : PySem.W.OpenLaw} {w : World} {K : PySem.W.Frag} {h : Heap} {mg : Str → Option Value} {fa : Addr} (X : K.In h) (G : h.Ns mainGlobals mg) (hfa : mg "law" = some (.ref fa))
    {f0 f1 f2 f3 f4 f5 f6 f7 f8 f9 f10 f11 f12 f13 f14 f15 f16 f17 f18 f19 f20 f21 f22 f23 f24 f25 f26 f27 : Addr} {od0 an0 od1 an1 od2 an2 od3 an3 od4 an4 od5 an5 od6 an6 od7 an7 od8 an8 od9 an9 od10 an10 od11 an11 od12 an12 od13 an13 od14 an14 od15 an15 od16 an16 od17 an17 od18 an18 od19 an19 od20 an20 od21 an21 od22 an22 od23 an23 od24 an24 od25 an25 od26 an26 od27 an27 : Option Addr} {sl0 sl1 sl2 sl3 sl4 sl5 sl6 sl7 sl8 sl9 sl10 sl11 sl12 sl13 sl14 sl15 sl16 sl17 sl18 sl19 sl20 sl21 sl22 sl23 sl24 sl25 sl26 sl27 : Array (Option Value)} {oc0 kV0 dc0 pm0 cd0 ct0 oc1 kV1 dc1 pm1 cd1 ct1 oc2 kV2 dc2 pm2 cd2 ct2 oc3 kV3 dc3 pm3 cd3 ct3 oc4 kV4 dc4 pm4 cd4 ct4 oc5 kV5 dc5 pm5 cd5 ct5 oc6 kV6 dc6 pm6 cd6 ct6 oc7 kV7 dc7 pm7 cd7 ct7 oc8 kV8 dc8 pm8 cd8 ct8 oc9 kV9 dc9 pm9 cd9 ct9 oc10 kV10 dc10 pm10 cd10 ct10 oc11 kV11 dc11 pm11 cd11 ct11 oc12 kV12 dc12 pm12 cd12 ct12 oc13 kV13 dc13 pm13 cd13 ct13 oc14 kV14 dc14 pm14 cd14 ct14 oc15 kV15 dc15 pm15 cd15 ct15 oc16 kV16 dc16 pm16 cd16 ct16 oc17 kV17 dc17 pm17 cd17 ct17 oc18 kV18 dc18 pm18 cd18 ct18 oc19 kV19 dc19 pm19 cd19 ct19 oc20 kV20 dc20 pm20 cd20 ct20 oc21 kV21 dc21 pm21 cd21 ct21 oc22 kV22 dc22 pm22 cd22 ct22 oc23 kV23 dc23 pm23 cd23 ct23 oc24 kV24 dc24 pm24 cd24 ct24 oc25 kV25 dc25 pm25 cd25 ct25 oc26 kV26 dc26 pm26 cd26 ct26 oc27 kV27 dc27 pm27 cd27 ct27 : Value}
    (a0 : PySem.W.nsIn K mainGlobals "stretch" = some (some (.ref f0))) (l0 : K.lookup f0 = some ⟨oc0, od0, .func (PySem.W.fnOf "stretch" "stretch" (defArgs s_stretch_x) (defBody s_stretch_x) (defScope s_stretch_x) .none kV0 dc0 pm0 an0 cd0 ct0), sl0⟩) (c0 : PySem.W.codeIn K cd0 "stretch" = true) (k0 : PySem.W.keepIn K (.ref f0) = true)
    (a1 : PySem.W.nsIn K mainGlobals "ask_box" = some (some (.ref f1))) (l1 : K.lookup f1 = some ⟨oc1, od1, .func (PySem.W.fnOf "ask_box" "ask_box" (defArgs s_ask_box_x) (defBody s_ask_box_x) (defScope s_ask_box_x) .none kV1 dc1 pm1 an1 cd1 ct1), sl1⟩) (c1 : PySem.W.codeIn K cd1 "ask_box" = true) (k1 : PySem.W.keepIn K (.ref f1) = true)
    (a2 : PySem.W.nsIn K mainGlobals "ask_sum" = some (some (.ref f2))) (l2 : K.lookup f2 = some ⟨oc2, od2, .func (PySem.W.fnOf "ask_sum" "ask_sum" (defArgs s_ask_sum_x) (defBody s_ask_sum_x) (defScope s_ask_sum_x) .none kV2 dc2 pm2 an2 cd2 ct2), sl2⟩) (c2 : PySem.W.codeIn K cd2 "ask_sum" = true) (k2 : PySem.W.keepIn K (.ref f2) = true)
    (a3 : PySem.W.nsIn K mainGlobals "ask_step" = some (some (.ref f3))) (l3 : K.lookup f3 = some ⟨oc3, od3, .func (PySem.W.fnOf "ask_step" "ask_step" (defArgs s_ask_step_x) (defBody s_ask_step_x) (defScope s_ask_step_x) .none kV3 dc3 pm3 an3 cd3 ct3), sl3⟩) (c3 : PySem.W.codeIn K cd3 "ask_step" = true) (k3 : PySem.W.keepIn K (.ref f3) = true)
    (a4 : PySem.W.nsIn K mainGlobals "ask_claim" = some (some (.ref f4))) (l4 : K.lookup f4 = some ⟨oc4, od4, .func (PySem.W.fnOf "ask_claim" "ask_claim" (defArgs s_ask_claim_x) (defBody s_ask_claim_x) (defScope s_ask_claim_x) .none kV4 dc4 pm4 an4 cd4 ct4), sl4⟩) (c4 : PySem.W.codeIn K cd4 "ask_claim" = true) (k4 : PySem.W.keepIn K (.ref f4) = true)
    (a5 : PySem.W.nsIn K mainGlobals "ask_call" = some (some (.ref f5))) (l5 : K.lookup f5 = some ⟨oc5, od5, .func (PySem.W.fnOf "ask_call" "ask_call" (defArgs s_ask_call_x) (defBody s_ask_call_x) (defScope s_ask_call_x) .none kV5 dc5 pm5 an5 cd5 ct5), sl5⟩) (c5 : PySem.W.codeIn K cd5 "ask_call" = true) (k5 : PySem.W.keepIn K (.ref f5) = true)
    (a6 : PySem.W.nsIn K mainGlobals "ask_statement" = some (some (.ref f6))) (l6 : K.lookup f6 = some ⟨oc6, od6, .func (PySem.W.fnOf "ask_statement" "ask_statement" (defArgs s_ask_statement_x) (defBody s_ask_statement_x) (defScope s_ask_statement_x) .none kV6 dc6 pm6 an6 cd6 ct6), sl6⟩) (c6 : PySem.W.codeIn K cd6 "ask_statement" = true) (k6 : PySem.W.keepIn K (.ref f6) = true)
    (a7 : PySem.W.nsIn K mainGlobals "ask_body" = some (some (.ref f7))) (l7 : K.lookup f7 = some ⟨oc7, od7, .func (PySem.W.fnOf "ask_body" "ask_body" (defArgs s_ask_body_x) (defBody s_ask_body_x) (defScope s_ask_body_x) .none kV7 dc7 pm7 an7 cd7 ct7), sl7⟩) (c7 : PySem.W.codeIn K cd7 "ask_body" = true) (k7 : PySem.W.keepIn K (.ref f7) = true)
    (a8 : PySem.W.nsIn K mainGlobals "well_made" = some (some (.ref f8))) (l8 : K.lookup f8 = some ⟨oc8, od8, .func (PySem.W.fnOf "well_made" "well_made" (defArgs s_well_made_x) (defBody s_well_made_x) (defScope s_well_made_x) .none kV8 dc8 pm8 an8 cd8 ct8), sl8⟩) (c8 : PySem.W.codeIn K cd8 "well_made" = true) (k8 : PySem.W.keepIn K (.ref f8) = true)
    (a9 : PySem.W.nsIn K mainGlobals "_law_take" = some (some (.ref f9))) (l9 : K.lookup f9 = some ⟨oc9, od9, .func (PySem.W.fnOf "_law_take" "_law_take" (defArgs s__law_take_79a4) (defBody s__law_take_79a4) (defScope s__law_take_79a4) .none kV9 dc9 pm9 an9 cd9 ct9), sl9⟩) (c9 : PySem.W.codeIn K cd9 "_law_take" = true) (k9 : PySem.W.keepIn K (.ref f9) = true)
    (a10 : PySem.W.nsIn K mainGlobals "_law_draw" = some (some (.ref f10))) (l10 : K.lookup f10 = some ⟨oc10, od10, .func (PySem.W.fnOf "_law_draw" "_law_draw" (defArgs s__law_draw_5153) (defBody s__law_draw_5153) (defScope s__law_draw_5153) .none kV10 dc10 pm10 an10 cd10 ct10), sl10⟩) (c10 : PySem.W.codeIn K cd10 "_law_draw" = true) (k10 : PySem.W.keepIn K (.ref f10) = true)
    (a11 : PySem.W.nsIn K mainGlobals "_law_number" = some (some (.ref f11))) (l11 : K.lookup f11 = some ⟨oc11, od11, .func (PySem.W.fnOf "_law_number" "_law_number" (defArgs s__law_number_bdb4) (defBody s__law_number_bdb4) (defScope s__law_number_bdb4) .none kV11 dc11 pm11 an11 cd11 ct11), sl11⟩) (c11 : PySem.W.codeIn K cd11 "_law_number" = true) (k11 : PySem.W.keepIn K (.ref f11) = true)
    (a12 : PySem.W.nsIn K mainGlobals "_law_off" = some (some (.ref f12))) (l12 : K.lookup f12 = some ⟨oc12, od12, .func (PySem.W.fnOf "_law_off" "_law_off" (defArgs s__law_off) (defBody s__law_off) (defScope s__law_off) .none kV12 dc12 pm12 an12 cd12 ct12), sl12⟩) (c12 : PySem.W.codeIn K cd12 "_law_off" = true) (k12 : PySem.W.keepIn K (.ref f12) = true)
    (a13 : PySem.W.nsIn K mainGlobals "_law_box" = some (some (.ref f13))) (l13 : K.lookup f13 = some ⟨oc13, od13, .func (PySem.W.fnOf "_law_box" "_law_box" (defArgs s__law_box_244c) (defBody s__law_box_244c) (defScope s__law_box_244c) .none kV13 dc13 pm13 an13 cd13 ct13), sl13⟩) (c13 : PySem.W.codeIn K cd13 "_law_box" = true) (k13 : PySem.W.keepIn K (.ref f13) = true)
    (a14 : PySem.W.nsIn K mainGlobals "_law_sum" = some (some (.ref f14))) (l14 : K.lookup f14 = some ⟨oc14, od14, .func (PySem.W.fnOf "_law_sum" "_law_sum" (defArgs s__law_sum_8f62) (defBody s__law_sum_8f62) (defScope s__law_sum_8f62) .none kV14 dc14 pm14 an14 cd14 ct14), sl14⟩) (c14 : PySem.W.codeIn K cd14 "_law_sum" = true) (k14 : PySem.W.keepIn K (.ref f14) = true)
    (a15 : PySem.W.nsIn K mainGlobals "_law_step" = some (some (.ref f15))) (l15 : K.lookup f15 = some ⟨oc15, od15, .func (PySem.W.fnOf "_law_step" "_law_step" (defArgs s__law_step_a90e) (defBody s__law_step_a90e) (defScope s__law_step_a90e) .none kV15 dc15 pm15 an15 cd15 ct15), sl15⟩) (c15 : PySem.W.codeIn K cd15 "_law_step" = true) (k15 : PySem.W.keepIn K (.ref f15) = true)
    (a16 : PySem.W.nsIn K mainGlobals "_law_claim" = some (some (.ref f16))) (l16 : K.lookup f16 = some ⟨oc16, od16, .func (PySem.W.fnOf "_law_claim" "_law_claim" (defArgs s__law_claim_850b) (defBody s__law_claim_850b) (defScope s__law_claim_850b) .none kV16 dc16 pm16 an16 cd16 ct16), sl16⟩) (c16 : PySem.W.codeIn K cd16 "_law_claim" = true) (k16 : PySem.W.keepIn K (.ref f16) = true)
    (a17 : PySem.W.nsIn K mainGlobals "_law_any" = some (some (.ref f17))) (l17 : K.lookup f17 = some ⟨oc17, od17, .func (PySem.W.fnOf "_law_any" "_law_any" (defArgs s__law_any_40f3) (defBody s__law_any_40f3) (defScope s__law_any_40f3) .none kV17 dc17 pm17 an17 cd17 ct17), sl17⟩) (c17 : PySem.W.codeIn K cd17 "_law_any" = true) (k17 : PySem.W.keepIn K (.ref f17) = true)
    (a18 : PySem.W.nsIn K mainGlobals "_law_call" = some (some (.ref f18))) (l18 : K.lookup f18 = some ⟨oc18, od18, .func (PySem.W.fnOf "_law_call" "_law_call" (defArgs s__law_call_7e49) (defBody s__law_call_7e49) (defScope s__law_call_7e49) .none kV18 dc18 pm18 an18 cd18 ct18), sl18⟩) (c18 : PySem.W.codeIn K cd18 "_law_call" = true) (k18 : PySem.W.keepIn K (.ref f18) = true)
    (a19 : PySem.W.nsIn K mainGlobals "_law_plain" = some (some (.ref f19))) (l19 : K.lookup f19 = some ⟨oc19, od19, .func (PySem.W.fnOf "_law_plain" "_law_plain" (defArgs s__law_plain_ebbc) (defBody s__law_plain_ebbc) (defScope s__law_plain_ebbc) .none kV19 dc19 pm19 an19 cd19 ct19), sl19⟩) (c19 : PySem.W.codeIn K cd19 "_law_plain" = true) (k19 : PySem.W.keepIn K (.ref f19) = true)
    (a20 : PySem.W.nsIn K mainGlobals "_law_statement" = some (some (.ref f20))) (l20 : K.lookup f20 = some ⟨oc20, od20, .func (PySem.W.fnOf "_law_statement" "_law_statement" (defArgs s__law_statement_9a11) (defBody s__law_statement_9a11) (defScope s__law_statement_9a11) .none kV20 dc20 pm20 an20 cd20 ct20), sl20⟩) (c20 : PySem.W.codeIn K cd20 "_law_statement" = true) (k20 : PySem.W.keepIn K (.ref f20) = true)
    (a21 : PySem.W.nsIn K mainGlobals "_law_body" = some (some (.ref f21))) (l21 : K.lookup f21 = some ⟨oc21, od21, .func (PySem.W.fnOf "_law_body" "_law_body" (defArgs s__law_body_9a11) (defBody s__law_body_9a11) (defScope s__law_body_9a11) .none kV21 dc21 pm21 an21 cd21 ct21), sl21⟩) (c21 : PySem.W.codeIn K cd21 "_law_body" = true) (k21 : PySem.W.keepIn K (.ref f21) = true)
    (a22 : PySem.W.nsIn K mainGlobals "_law_program" = some (some (.ref f22))) (l22 : K.lookup f22 = some ⟨oc22, od22, .func (PySem.W.fnOf "_law_program" "_law_program" (defArgs s__law_program_0e2d) (defBody s__law_program_0e2d) (defScope s__law_program_0e2d) .none kV22 dc22 pm22 an22 cd22 ct22), sl22⟩) (c22 : PySem.W.codeIn K cd22 "_law_program" = true) (k22 : PySem.W.keepIn K (.ref f22) = true)
    (a23 : PySem.W.nsIn K mainGlobals "_law_copy" = some (some (.ref f23))) (l23 : K.lookup f23 = some ⟨oc23, od23, .func (PySem.W.fnOf "_law_copy" "_law_copy" (defArgs s__law_copy_1206_f) (defBody s__law_copy_1206_f) (defScope s__law_copy_1206_f) .none kV23 dc23 pm23 an23 cd23 ct23), sl23⟩) (c23 : PySem.W.codeIn K cd23 "_law_copy" = true) (k23 : PySem.W.keepIn K (.ref f23) = true)
    (a24 : PySem.W.nsIn K mainGlobals "_law_refusal" = some (some (.ref f24))) (l24 : K.lookup f24 = some ⟨oc24, od24, .func (PySem.W.fnOf "_law_refusal" "_law_refusal" (defArgs s__law_refusal) (defBody s__law_refusal) (defScope s__law_refusal) .none kV24 dc24 pm24 an24 cd24 ct24), sl24⟩) (c24 : PySem.W.codeIn K cd24 "_law_refusal" = true) (k24 : PySem.W.keepIn K (.ref f24) = true)
    (a25 : PySem.W.nsIn K mainGlobals "_law_under_base" = some (some (.ref f25))) (l25 : K.lookup f25 = some ⟨oc25, od25, .func (PySem.W.fnOf "_law_under_base" "_law_under_base" (defArgs s__law_under_base) (defBody s__law_under_base) (defScope s__law_under_base) .none kV25 dc25 pm25 an25 cd25 ct25), sl25⟩) (c25 : PySem.W.codeIn K cd25 "_law_under_base" = true) (k25 : PySem.W.keepIn K (.ref f25) = true)
    (a26 : PySem.W.nsIn K mainGlobals "_law_spots" = some (some (.ref f26))) (l26 : K.lookup f26 = some ⟨oc26, od26, .func (PySem.W.fnOf "_law_spots" "_law_spots" (defArgs s__law_spots_o) (defBody s__law_spots_o) (defScope s__law_spots_o) .none kV26 dc26 pm26 an26 cd26 ct26), sl26⟩) (c26 : PySem.W.codeIn K cd26 "_law_spots" = true) (k26 : PySem.W.keepIn K (.ref f26) = true)
    (a27 : PySem.W.nsIn K mainGlobals "law" = some (some (.ref f27))) (l27 : K.lookup f27 = some ⟨oc27, od27, .func (PySem.W.fnOf "law" "law" (defArgs s_law) (defBody s_law) (defScope s_law) .none kV27 dc27 pm27 an27 cd27 ct27), sl27⟩) (c27 : PySem.W.codeIn K cd27 "law" = true) (k27 : PySem.W.keepIn K (.ref f27) = true)
    (z0 : PySem.W.nsIn K mainGlobals "len" = some none)
    (z1 : PySem.W.nsIn K mainGlobals "abs" = some none)
    (z2 : PySem.W.nsIn K mainGlobals "int" = some none)
    (z3 : PySem.W.nsIn K mainGlobals "list" = some none)
    (z4 : PySem.W.nsIn K mainGlobals "tuple" = some none)
    (z5 : PySem.W.nsIn K mainGlobals "sum" = some none)
    (z6 : PySem.W.nsIn K mainGlobals "min" = some none)
    (z7 : PySem.W.nsIn K mainGlobals "max" = some none)
    (z8 : PySem.W.nsIn K mainGlobals "isinstance" = some none)
    (z9 : PySem.W.nsIn K mainGlobals "sorted" = some none)
    (z10 : PySem.W.nsIn K mainGlobals "range" = some none)
    (z11 : PySem.W.nsIn K mainGlobals "zip" = some none)
    (z12 : PySem.W.nsIn K mainGlobals "bool" = some none)
    (z13 : PySem.W.nsIn K mainGlobals "str" = some none)
    (z14 : PySem.W.nsIn K mainGlobals "reversed" = some none)
    {C0 C1 C3 C4 C5 C6 C7 C8 : Addr}
    (e0 : PySem.W.nsIn K mainGlobals "SeerError" = some (some (.ref C0)))
    (eb0 : PySem.W.subIn K (.ref C0) (.type "BaseException") = some true)
    (eh0 : PySem.W.hasDictIn K C0 = true)
    (et0 : PySem.W.typeIn K (.ref C0) = some (.type "type"))
    (e1 : PySem.W.nsIn K mainGlobals "NoStretch" = some (some (.ref C1)))
    (eb1 : PySem.W.subIn K (.ref C1) (.type "BaseException") = some true)
    (eh1 : PySem.W.hasDictIn K C1 = true)
    (et1 : PySem.W.typeIn K (.ref C1) = some (.type "type"))
    (e3 : PySem.W.nsIn K mainGlobals "NoShape" = some (some (.ref C3)))
    (eb3 : PySem.W.subIn K (.ref C3) (.type "BaseException") = some true)
    (eh3 : PySem.W.hasDictIn K C3 = true)
    (et3 : PySem.W.typeIn K (.ref C3) = some (.type "type"))
    (e4 : PySem.W.nsIn K mainGlobals "NoBox" = some (some (.ref C4)))
    (eb4 : PySem.W.subIn K (.ref C4) (.type "BaseException") = some true)
    (eh4 : PySem.W.hasDictIn K C4 = true)
    (et4 : PySem.W.typeIn K (.ref C4) = some (.type "type"))
    (e5 : PySem.W.nsIn K mainGlobals "FixedBox" = some (some (.ref C5)))
    (eb5 : PySem.W.subIn K (.ref C5) (.type "BaseException") = some true)
    (eh5 : PySem.W.hasDictIn K C5 = true)
    (et5 : PySem.W.typeIn K (.ref C5) = some (.type "type"))
    (e6 : PySem.W.nsIn K mainGlobals "NoSum" = some (some (.ref C6)))
    (eb6 : PySem.W.subIn K (.ref C6) (.type "BaseException") = some true)
    (eh6 : PySem.W.hasDictIn K C6 = true)
    (et6 : PySem.W.typeIn K (.ref C6) = some (.type "type"))
    (e7 : PySem.W.nsIn K mainGlobals "NoStep" = some (some (.ref C7)))
    (eb7 : PySem.W.subIn K (.ref C7) (.type "BaseException") = some true)
    (eh7 : PySem.W.hasDictIn K C7 = true)
    (et7 : PySem.W.typeIn K (.ref C7) = some (.type "type"))
    (e8 : PySem.W.nsIn K mainGlobals "NoCall" = some (some (.ref C8)))
    (eb8 : PySem.W.subIn K (.ref C8) (.type "BaseException") = some true)
    (eh8 : PySem.W.hasDictIn K C8 = true)
    (et8 : PySem.W.typeIn K (.ref C8) = some (.type "type"))
    (ex1 : PySem.W.excIn K C1 HandSPX.veTail "ValueError.__new__" = true)
    (ek1 : PySem.W.keepIn K (.ref C1) = true)
    (ev1 : PySem.W.subIn K (.ref C1) (.type "ValueError") = some true)
    (ga1 : PySem.W.findIn K (.ref C1) "__getattribute__" = some (some (.builtin "BaseException.__getattribute__")))
    (gb1 : PySem.W.findIn K (.ref C1) "__getattr__" = some none)
    (gc1 : PySem.W.findIn K (.ref C1) "__class__" = some (some (.builtin "object.__class__")))
    (gm1 : PySem.W.mroIn K C1 (.type "object") = some true)
    (er1_0 : PySem.W.subIn K (.ref C1) (.ref C0) = some true)
    (er1_1 : PySem.W.subIn K (.ref C1) (.ref C1) = some true)
    (er1_3 : PySem.W.subIn K (.ref C1) (.ref C3) = some false)
    (er1_4 : PySem.W.subIn K (.ref C1) (.ref C4) = some false)
    (er1_5 : PySem.W.subIn K (.ref C1) (.ref C5) = some false)
    (er1_6 : PySem.W.subIn K (.ref C1) (.ref C6) = some false)
    (er1_7 : PySem.W.subIn K (.ref C1) (.ref C7) = some false)
    (er1_8 : PySem.W.subIn K (.ref C1) (.ref C8) = some false)
    (ex3 : PySem.W.excIn K C3 HandSPX.veTail "ValueError.__new__" = true)
    (ek3 : PySem.W.keepIn K (.ref C3) = true)
    (ev3 : PySem.W.subIn K (.ref C3) (.type "ValueError") = some true)
    (ga3 : PySem.W.findIn K (.ref C3) "__getattribute__" = some (some (.builtin "BaseException.__getattribute__")))
    (gb3 : PySem.W.findIn K (.ref C3) "__getattr__" = some none)
    (gc3 : PySem.W.findIn K (.ref C3) "__class__" = some (some (.builtin "object.__class__")))
    (gm3 : PySem.W.mroIn K C3 (.type "object") = some true)
    (er3_0 : PySem.W.subIn K (.ref C3) (.ref C0) = some true)
    (er3_1 : PySem.W.subIn K (.ref C3) (.ref C1) = some false)
    (er3_3 : PySem.W.subIn K (.ref C3) (.ref C3) = some true)
    (er3_4 : PySem.W.subIn K (.ref C3) (.ref C4) = some false)
    (er3_5 : PySem.W.subIn K (.ref C3) (.ref C5) = some false)
    (er3_6 : PySem.W.subIn K (.ref C3) (.ref C6) = some false)
    (er3_7 : PySem.W.subIn K (.ref C3) (.ref C7) = some false)
    (er3_8 : PySem.W.subIn K (.ref C3) (.ref C8) = some false)
    (ex4 : PySem.W.excIn K C4 HandSPX.veTail "ValueError.__new__" = true)
    (ek4 : PySem.W.keepIn K (.ref C4) = true)
    (ev4 : PySem.W.subIn K (.ref C4) (.type "ValueError") = some true)
    (ga4 : PySem.W.findIn K (.ref C4) "__getattribute__" = some (some (.builtin "BaseException.__getattribute__")))
    (gb4 : PySem.W.findIn K (.ref C4) "__getattr__" = some none)
    (gc4 : PySem.W.findIn K (.ref C4) "__class__" = some (some (.builtin "object.__class__")))
    (gm4 : PySem.W.mroIn K C4 (.type "object") = some true)
    (er4_0 : PySem.W.subIn K (.ref C4) (.ref C0) = some true)
    (er4_1 : PySem.W.subIn K (.ref C4) (.ref C1) = some false)
    (er4_3 : PySem.W.subIn K (.ref C4) (.ref C3) = some false)
    (er4_4 : PySem.W.subIn K (.ref C4) (.ref C4) = some true)
    (er4_5 : PySem.W.subIn K (.ref C4) (.ref C5) = some false)
    (er4_6 : PySem.W.subIn K (.ref C4) (.ref C6) = some false)
    (er4_7 : PySem.W.subIn K (.ref C4) (.ref C7) = some false)
    (er4_8 : PySem.W.subIn K (.ref C4) (.ref C8) = some false)
    (ex5 : PySem.W.excIn K C5 HandSPX.veTail "ValueError.__new__" = true)
    (ek5 : PySem.W.keepIn K (.ref C5) = true)
    (ev5 : PySem.W.subIn K (.ref C5) (.type "ValueError") = some true)
    (ga5 : PySem.W.findIn K (.ref C5) "__getattribute__" = some (some (.builtin "BaseException.__getattribute__")))
    (gb5 : PySem.W.findIn K (.ref C5) "__getattr__" = some none)
    (gc5 : PySem.W.findIn K (.ref C5) "__class__" = some (some (.builtin "object.__class__")))
    (gm5 : PySem.W.mroIn K C5 (.type "object") = some true)
    (er5_0 : PySem.W.subIn K (.ref C5) (.ref C0) = some true)
    (er5_1 : PySem.W.subIn K (.ref C5) (.ref C1) = some false)
    (er5_3 : PySem.W.subIn K (.ref C5) (.ref C3) = some false)
    (er5_4 : PySem.W.subIn K (.ref C5) (.ref C4) = some false)
    (er5_5 : PySem.W.subIn K (.ref C5) (.ref C5) = some true)
    (er5_6 : PySem.W.subIn K (.ref C5) (.ref C6) = some false)
    (er5_7 : PySem.W.subIn K (.ref C5) (.ref C7) = some false)
    (er5_8 : PySem.W.subIn K (.ref C5) (.ref C8) = some false)
    (ex6 : PySem.W.excIn K C6 HandSPX.veTail "ValueError.__new__" = true)
    (ek6 : PySem.W.keepIn K (.ref C6) = true)
    (ev6 : PySem.W.subIn K (.ref C6) (.type "ValueError") = some true)
    (ga6 : PySem.W.findIn K (.ref C6) "__getattribute__" = some (some (.builtin "BaseException.__getattribute__")))
    (gb6 : PySem.W.findIn K (.ref C6) "__getattr__" = some none)
    (gc6 : PySem.W.findIn K (.ref C6) "__class__" = some (some (.builtin "object.__class__")))
    (gm6 : PySem.W.mroIn K C6 (.type "object") = some true)
    (er6_0 : PySem.W.subIn K (.ref C6) (.ref C0) = some true)
    (er6_1 : PySem.W.subIn K (.ref C6) (.ref C1) = some false)
    (er6_3 : PySem.W.subIn K (.ref C6) (.ref C3) = some false)
    (er6_4 : PySem.W.subIn K (.ref C6) (.ref C4) = some false)
    (er6_5 : PySem.W.subIn K (.ref C6) (.ref C5) = some false)
    (er6_6 : PySem.W.subIn K (.ref C6) (.ref C6) = some true)
    (er6_7 : PySem.W.subIn K (.ref C6) (.ref C7) = some false)
    (er6_8 : PySem.W.subIn K (.ref C6) (.ref C8) = some false)
    (ex7 : PySem.W.excIn K C7 HandSPX.veTail "ValueError.__new__" = true)
    (ek7 : PySem.W.keepIn K (.ref C7) = true)
    (ev7 : PySem.W.subIn K (.ref C7) (.type "ValueError") = some true)
    (ga7 : PySem.W.findIn K (.ref C7) "__getattribute__" = some (some (.builtin "BaseException.__getattribute__")))
    (gb7 : PySem.W.findIn K (.ref C7) "__getattr__" = some none)
    (gc7 : PySem.W.findIn K (.ref C7) "__class__" = some (some (.builtin "object.__class__")))
    (gm7 : PySem.W.mroIn K C7 (.type "object") = some true)
    (er7_0 : PySem.W.subIn K (.ref C7) (.ref C0) = some true)
    (er7_1 : PySem.W.subIn K (.ref C7) (.ref C1) = some false)
    (er7_3 : PySem.W.subIn K (.ref C7) (.ref C3) = some false)
    (er7_4 : PySem.W.subIn K (.ref C7) (.ref C4) = some false)
    (er7_5 : PySem.W.subIn K (.ref C7) (.ref C5) = some false)
    (er7_6 : PySem.W.subIn K (.ref C7) (.ref C6) = some false)
    (er7_7 : PySem.W.subIn K (.ref C7) (.ref C7) = some true)
    (er7_8 : PySem.W.subIn K (.ref C7) (.ref C8) = some false)
    (ex8 : PySem.W.excIn K C8 HandSPX.veTail "ValueError.__new__" = true)
    (ek8 : PySem.W.keepIn K (.ref C8) = true)
    (ev8 : PySem.W.subIn K (.ref C8) (.type "ValueError") = some true)
    (ga8 : PySem.W.findIn K (.ref C8) "__getattribute__" = some (some (.builtin "BaseException.__getattribute__")))
    (gb8 : PySem.W.findIn K (.ref C8) "__getattr__" = some none)
    (gc8 : PySem.W.findIn K (.ref C8) "__class__" = some (some (.builtin "object.__class__")))
    (gm8 : PySem.W.mroIn K C8 (.type "object") = some true)
    (er8_0 : PySem.W.subIn K (.ref C8) (.ref C0) = some true)
    (er8_1 : PySem.W.subIn K (.ref C8) (.ref C1) = some false)
    (er8_3 : PySem.W.subIn K (.ref C8) (.ref C3) = some false)
    (er8_4 : PySem.W.subIn K (.ref C8) (.ref C4) = some false)
    (er8_5 : PySem.W.subIn K (.ref C8) (.ref C5) = some false)
    (er8_6 : PySem.W.subIn K (.ref C8) (.ref C6) = some false)
    (er8_7 : PySem.W.subIn K (.ref C8) (.ref C7) = some false)
    (er8_8 : PySem.W.subIn K (.ref C8) (.ref C8) = some true)
    (gn : PySem.W.specialIn K (.builtin "object.__class__") "__get__" = some (some (.builtin "getset_descriptor.__get__")))
    (gt : PySem.W.takesIn K (.builtin "object.__class__") = some true)
    (ve : PySem.W.nsIn K mainGlobals "ValueError" = some none) :
    ∃ fd : FuncData, (∀ (s : Shared) (v : Value), BindsTo s fd ⟨[v], []⟩ [("script", v)]) ∧ ∀ base : Heap, K.In base → base.Ns mainGlobals mg → FnOk l.prog w K mg base CX0 (34) fa fd ["script"] (spLaw K) := by
  have e := hfa.symm.trans (PySem.W.mg_of X G a27)
  cases e
  have F0 := fun_mk (st := s_stretch_x) l0 c0 k0
  have b0 := F0.binds (ps := ["lo", "hi"]) fun _ _ _ _ _ _ us hl => match us, hl with | [_, _], _ => rfl
  have F1 := fun_mk (st := s_ask_box_x) l1 c1 k1
  have b1 := F1.binds (ps := ["program", "at", "x"]) fun _ _ _ _ _ _ us hl => match us, hl with | [_, _, _], _ => rfl
  have F2 := fun_mk (st := s_ask_sum_x) l2 c2 k2
  have b2 := F2.binds (ps := ["program", "at", "one"]) fun _ _ _ _ _ _ us hl => match us, hl with | [_, _, _], _ => rfl
  have F3 := fun_mk (st := s_ask_step_x) l3 c3 k3
  have b3 := F3.binds (ps := ["d"]) fun _ _ _ _ _ _ us hl => match us, hl with | [_], _ => rfl
  have F4 := fun_mk (st := s_ask_claim_x) l4 c4 k4
  have b4 := F4.binds (ps := ["program", "at", "claim"]) fun _ _ _ _ _ _ us hl => match us, hl with | [_, _, _], _ => rfl
  have F5 := fun_mk (st := s_ask_call_x) l5 c5 k5
  have b5 := F5.binds (ps := ["program", "at", "one"]) fun _ _ _ _ _ _ us hl => match us, hl with | [_, _, _], _ => rfl
  have F6 := fun_mk (st := s_ask_statement_x) l6 c6 k6
  have b6 := F6.binds (ps := ["program", "at", "one"]) fun _ _ _ _ _ _ us hl => match us, hl with | [_, _, _], _ => rfl
  have F7 := fun_mk (st := s_ask_body_x) l7 c7 k7
  have b7 := F7.binds (ps := ["program", "at", "body"]) fun _ _ _ _ _ _ us hl => match us, hl with | [_, _, _], _ => rfl
  have F8 := fun_mk (st := s_well_made_x) l8 c8 k8
  have b8 := F8.binds (ps := ["program"]) fun _ _ _ _ _ _ us hl => match us, hl with | [_], _ => rfl
  have F9 := fun_mk (st := s__law_take_79a4) l9 c9 k9
  have b9 := F9.binds (ps := ["feed"]) fun _ _ _ _ _ _ us hl => match us, hl with | [_], _ => rfl
  have F10 := fun_mk (st := s__law_draw_5153) l10 c10 k10
  have b10 := F10.binds (ps := ["feed", "many"]) fun _ _ _ _ _ _ us hl => match us, hl with | [_, _], _ => rfl
  have F11 := fun_mk (st := s__law_number_bdb4) l11 c11 k11
  have b11 := F11.binds (ps := ["feed"]) fun _ _ _ _ _ _ us hl => match us, hl with | [_], _ => rfl
  have F12 := fun_mk (st := s__law_off) l12 c12 k12
  have b12 := F12.binds (ps := ["feed", "word"]) fun _ _ _ _ _ _ us hl => match us, hl with | [_, _], _ => rfl
  have F13 := fun_mk (st := s__law_box_244c) l13 c13 k13
  have b13 := F13.binds (ps := ["feed", "shape", "main"]) fun _ _ _ _ _ _ us hl => match us, hl with | [_, _, _], _ => rfl
  have F14 := fun_mk (st := s__law_sum_8f62) l14 c14 k14
  have b14 := F14.binds (ps := ["feed", "shape"]) fun _ _ _ _ _ _ us hl => match us, hl with | [_, _], _ => rfl
  have F15 := fun_mk (st := s__law_step_a90e) l15 c15 k15
  have b15 := F15.binds (ps := ["feed"]) fun _ _ _ _ _ _ us hl => match us, hl with | [_], _ => rfl
  have F16 := fun_mk (st := s__law_claim_850b) l16 c16 k16
  have b16 := F16.binds (ps := ["feed", "shape"]) fun _ _ _ _ _ _ us hl => match us, hl with | [_, _], _ => rfl
  have F17 := fun_mk (st := s__law_any_40f3) l17 c17 k17
  have b17 := F17.binds (ps := ["feed", "shape", "main"]) fun _ _ _ _ _ _ us hl => match us, hl with | [_, _, _], _ => rfl
  have F18 := fun_mk (st := s__law_call_7e49) l18 c18 k18
  have b18 := F18.binds (ps := ["feed", "program", "shape", "main"]) fun _ _ _ _ _ _ us hl => match us, hl with | [_, _, _, _], _ => rfl
  have F19 := fun_mk (st := s__law_plain_ebbc) l19 c19 k19
  have b19 := F19.binds (ps := ["feed", "program", "shape", "main", "word"]) fun _ _ _ _ _ _ us hl => match us, hl with | [_, _, _, _, _], _ => rfl
  have F20 := fun_mk (st := s__law_statement_9a11) l20 c20 k20
  have b20 := F20.binds (ps := ["feed", "program", "shape", "main", "depth"]) fun _ _ _ _ _ _ us hl => match us, hl with | [_, _, _, _, _], _ => rfl
  have F21 := fun_mk (st := s__law_body_9a11) l21 c21 k21
  have b21 := F21.binds (ps := ["feed", "program", "shape", "main", "depth"]) fun _ _ _ _ _ _ us hl => match us, hl with | [_, _, _, _, _], _ => rfl
  have F22 := fun_mk (st := s__law_program_0e2d) l22 c22 k22
  have b22 := F22.binds (ps := ["feed"]) fun _ _ _ _ _ _ us hl => match us, hl with | [_], _ => rfl
  have F23 := fun_mk (st := s__law_copy_1206_f) l23 c23 k23
  have b23 := F23.binds (ps := ["thing"]) fun _ _ _ _ _ _ us hl => match us, hl with | [_], _ => rfl
  have F24 := fun_mk (st := s__law_refusal) l24 c24 k24
  have b24 := F24.binds (ps := ["program"]) fun _ _ _ _ _ _ us hl => match us, hl with | [_], _ => rfl
  have F25 := fun_mk (st := s__law_under_base) l25 c25 k25
  have b25 := F25.binds (ps := ["program"]) fun _ _ _ _ _ _ us hl => match us, hl with | [_], _ => rfl
  have F26 := fun_mk (st := s__law_spots_o) l26 c26 k26
  have b26 := F26.binds (ps := ["script", "words_met"]) fun _ _ _ _ _ _ us hl => match us, hl with | [_, _], _ => rfl
  have F27 := fun_mk (st := s_law) l27 c27 k27
  have bt : ∀ x ∈ bltNames, mg x = none := by
    intro x hx
    simp only [bltNames, List.mem_cons, List.not_mem_nil, or_false] at hx
    rcases hx with rfl | rfl | rfl | rfl | rfl | rfl | rfl | rfl | rfl | rfl | rfl | rfl | rfl | rfl | rfl
    · exact PySem.W.mg_none_of X G z0
    · exact PySem.W.mg_none_of X G z1
    · exact PySem.W.mg_none_of X G z2
    · exact PySem.W.mg_none_of X G z3
    · exact PySem.W.mg_none_of X G z4
    · exact PySem.W.mg_none_of X G z5
    · exact PySem.W.mg_none_of X G z6
    · exact PySem.W.mg_none_of X G z7
    · exact PySem.W.mg_none_of X G z8
    · exact PySem.W.mg_none_of X G z9
    · exact PySem.W.mg_none_of X G z10
    · exact PySem.W.mg_none_of X G z11
    · exact PySem.W.mg_none_of X G z12
    · exact PySem.W.mg_none_of X G z13
    · exact PySem.W.mg_none_of X G z14
  have xR : ∀ c, hasR c = true → c ∈ [1, 3, 4, 5, 6, 7, 8] := fun c h => List.contains_iff_mem.mp h
  have xX : ∀ c, hasX c = true → c ∈ [0, 1, 3, 4, 5, 6, 7, 8] := fun c h => List.contains_iff_mem.mp h
  have xo : XOk K mg hasR hasX := by
    refine ⟨fun c h => ?_, fun c h => ?_, fun t h => ?_, fun c t C T h h2 hC hT => ?_, fun _ => PySem.W.mg_none_of X G ve⟩
    · have hm := xR c h
      simp only [List.mem_cons, List.not_mem_nil, or_false] at hm
      rcases hm with rfl | rfl | rfl | rfl | rfl | rfl | rfl
      · rfl
      · rfl
      · rfl
      · rfl
      · rfl
      · rfl
      · rfl
    · have hm := xR c h
      simp only [List.mem_cons, List.not_mem_nil, or_false] at hm
      rcases hm with rfl | rfl | rfl | rfl | rfl | rfl | rfl
      · exact ⟨C1, PySem.W.mg_of X G e1, ex1, ek1, et1, ⟨ga1, gb1, eb1, eh1, gc1, gn, gt, gm1⟩, ev1⟩
      · exact ⟨C3, PySem.W.mg_of X G e3, ex3, ek3, et3, ⟨ga3, gb3, eb3, eh3, gc3, gn, gt, gm3⟩, ev3⟩
      · exact ⟨C4, PySem.W.mg_of X G e4, ex4, ek4, et4, ⟨ga4, gb4, eb4, eh4, gc4, gn, gt, gm4⟩, ev4⟩
      · exact ⟨C5, PySem.W.mg_of X G e5, ex5, ek5, et5, ⟨ga5, gb5, eb5, eh5, gc5, gn, gt, gm5⟩, ev5⟩
      · exact ⟨C6, PySem.W.mg_of X G e6, ex6, ek6, et6, ⟨ga6, gb6, eb6, eh6, gc6, gn, gt, gm6⟩, ev6⟩
      · exact ⟨C7, PySem.W.mg_of X G e7, ex7, ek7, et7, ⟨ga7, gb7, eb7, eh7, gc7, gn, gt, gm7⟩, ev7⟩
      · exact ⟨C8, PySem.W.mg_of X G e8, ex8, ek8, et8, ⟨ga8, gb8, eb8, eh8, gc8, gn, gt, gm8⟩, ev8⟩
    · have hm := xX t h
      simp only [List.mem_cons, List.not_mem_nil, or_false] at hm
      rcases hm with rfl | rfl | rfl | rfl | rfl | rfl | rfl | rfl
      · exact ⟨C0, PySem.W.mg_of X G e0, eb0, eh0, et0⟩
      · exact ⟨C1, PySem.W.mg_of X G e1, eb1, eh1, et1⟩
      · exact ⟨C3, PySem.W.mg_of X G e3, eb3, eh3, et3⟩
      · exact ⟨C4, PySem.W.mg_of X G e4, eb4, eh4, et4⟩
      · exact ⟨C5, PySem.W.mg_of X G e5, eb5, eh5, et5⟩
      · exact ⟨C6, PySem.W.mg_of X G e6, eb6, eh6, et6⟩
      · exact ⟨C7, PySem.W.mg_of X G e7, eb7, eh7, et7⟩
      · exact ⟨C8, PySem.W.mg_of X G e8, eb8, eh8, et8⟩
    · have hm := xR c h
      simp only [List.mem_cons, List.not_mem_nil, or_false] at hm
      rcases hm with rfl | rfl | rfl | rfl | rfl | rfl | rfl
      · have hc := hC.symm.trans (PySem.W.mg_of X G e1)
        cases hc
        have hm := xX t h2
        simp only [List.mem_cons, List.not_mem_nil, or_false] at hm
        rcases hm with rfl | rfl | rfl | rfl | rfl | rfl | rfl | rfl
        · have ht := hT.symm.trans (PySem.W.mg_of X G e0); cases ht; exact er1_0
        · have ht := hT.symm.trans (PySem.W.mg_of X G e1); cases ht; exact er1_1
        · have ht := hT.symm.trans (PySem.W.mg_of X G e3); cases ht; exact er1_3
        · have ht := hT.symm.trans (PySem.W.mg_of X G e4); cases ht; exact er1_4
        · have ht := hT.symm.trans (PySem.W.mg_of X G e5); cases ht; exact er1_5
        · have ht := hT.symm.trans (PySem.W.mg_of X G e6); cases ht; exact er1_6
        · have ht := hT.symm.trans (PySem.W.mg_of X G e7); cases ht; exact er1_7
        · have ht := hT.symm.trans (PySem.W.mg_of X G e8); cases ht; exact er1_8
      · have hc := hC.symm.trans (PySem.W.mg_of X G e3)
        cases hc
        have hm := xX t h2
        simp only [List.mem_cons, List.not_mem_nil, or_false] at hm
        rcases hm with rfl | rfl | rfl | rfl | rfl | rfl | rfl | rfl
        · have ht := hT.symm.trans (PySem.W.mg_of X G e0); cases ht; exact er3_0
        · have ht := hT.symm.trans (PySem.W.mg_of X G e1); cases ht; exact er3_1
        · have ht := hT.symm.trans (PySem.W.mg_of X G e3); cases ht; exact er3_3
        · have ht := hT.symm.trans (PySem.W.mg_of X G e4); cases ht; exact er3_4
        · have ht := hT.symm.trans (PySem.W.mg_of X G e5); cases ht; exact er3_5
        · have ht := hT.symm.trans (PySem.W.mg_of X G e6); cases ht; exact er3_6
        · have ht := hT.symm.trans (PySem.W.mg_of X G e7); cases ht; exact er3_7
        · have ht := hT.symm.trans (PySem.W.mg_of X G e8); cases ht; exact er3_8
      · have hc := hC.symm.trans (PySem.W.mg_of X G e4)
        cases hc
        have hm := xX t h2
        simp only [List.mem_cons, List.not_mem_nil, or_false] at hm
        rcases hm with rfl | rfl | rfl | rfl | rfl | rfl | rfl | rfl
        · have ht := hT.symm.trans (PySem.W.mg_of X G e0); cases ht; exact er4_0
        · have ht := hT.symm.trans (PySem.W.mg_of X G e1); cases ht; exact er4_1
        · have ht := hT.symm.trans (PySem.W.mg_of X G e3); cases ht; exact er4_3
        · have ht := hT.symm.trans (PySem.W.mg_of X G e4); cases ht; exact er4_4
        · have ht := hT.symm.trans (PySem.W.mg_of X G e5); cases ht; exact er4_5
        · have ht := hT.symm.trans (PySem.W.mg_of X G e6); cases ht; exact er4_6
        · have ht := hT.symm.trans (PySem.W.mg_of X G e7); cases ht; exact er4_7
        · have ht := hT.symm.trans (PySem.W.mg_of X G e8); cases ht; exact er4_8
      · have hc := hC.symm.trans (PySem.W.mg_of X G e5)
        cases hc
        have hm := xX t h2
        simp only [List.mem_cons, List.not_mem_nil, or_false] at hm
        rcases hm with rfl | rfl | rfl | rfl | rfl | rfl | rfl | rfl
        · have ht := hT.symm.trans (PySem.W.mg_of X G e0); cases ht; exact er5_0
        · have ht := hT.symm.trans (PySem.W.mg_of X G e1); cases ht; exact er5_1
        · have ht := hT.symm.trans (PySem.W.mg_of X G e3); cases ht; exact er5_3
        · have ht := hT.symm.trans (PySem.W.mg_of X G e4); cases ht; exact er5_4
        · have ht := hT.symm.trans (PySem.W.mg_of X G e5); cases ht; exact er5_5
        · have ht := hT.symm.trans (PySem.W.mg_of X G e6); cases ht; exact er5_6
        · have ht := hT.symm.trans (PySem.W.mg_of X G e7); cases ht; exact er5_7
        · have ht := hT.symm.trans (PySem.W.mg_of X G e8); cases ht; exact er5_8
      · have hc := hC.symm.trans (PySem.W.mg_of X G e6)
        cases hc
        have hm := xX t h2
        simp only [List.mem_cons, List.not_mem_nil, or_false] at hm
        rcases hm with rfl | rfl | rfl | rfl | rfl | rfl | rfl | rfl
        · have ht := hT.symm.trans (PySem.W.mg_of X G e0); cases ht; exact er6_0
        · have ht := hT.symm.trans (PySem.W.mg_of X G e1); cases ht; exact er6_1
        · have ht := hT.symm.trans (PySem.W.mg_of X G e3); cases ht; exact er6_3
        · have ht := hT.symm.trans (PySem.W.mg_of X G e4); cases ht; exact er6_4
        · have ht := hT.symm.trans (PySem.W.mg_of X G e5); cases ht; exact er6_5
        · have ht := hT.symm.trans (PySem.W.mg_of X G e6); cases ht; exact er6_6
        · have ht := hT.symm.trans (PySem.W.mg_of X G e7); cases ht; exact er6_7
        · have ht := hT.symm.trans (PySem.W.mg_of X G e8); cases ht; exact er6_8
      · have hc := hC.symm.trans (PySem.W.mg_of X G e7)
        cases hc
        have hm := xX t h2
        simp only [List.mem_cons, List.not_mem_nil, or_false] at hm
        rcases hm with rfl | rfl | rfl | rfl | rfl | rfl | rfl | rfl
        · have ht := hT.symm.trans (PySem.W.mg_of X G e0); cases ht; exact er7_0
        · have ht := hT.symm.trans (PySem.W.mg_of X G e1); cases ht; exact er7_1
        · have ht := hT.symm.trans (PySem.W.mg_of X G e3); cases ht; exact er7_3
        · have ht := hT.symm.trans (PySem.W.mg_of X G e4); cases ht; exact er7_4
        · have ht := hT.symm.trans (PySem.W.mg_of X G e5); cases ht; exact er7_5
        · have ht := hT.symm.trans (PySem.W.mg_of X G e6); cases ht; exact er7_6
        · have ht := hT.symm.trans (PySem.W.mg_of X G e7); cases ht; exact er7_7
        · have ht := hT.symm.trans (PySem.W.mg_of X G e8); cases ht; exact er7_8
      · have hc := hC.symm.trans (PySem.W.mg_of X G e8)
        cases hc
        have hm := xX t h2
        simp only [List.mem_cons, List.not_mem_nil, or_false] at hm
        rcases hm with rfl | rfl | rfl | rfl | rfl | rfl | rfl | rfl
        · have ht := hT.symm.trans (PySem.W.mg_of X G e0); cases ht; exact er8_0
        · have ht := hT.symm.trans (PySem.W.mg_of X G e1); cases ht; exact er8_1
        · have ht := hT.symm.trans (PySem.W.mg_of X G e3); cases ht; exact er8_3
        · have ht := hT.symm.trans (PySem.W.mg_of X G e4); cases ht; exact er8_4
        · have ht := hT.symm.trans (PySem.W.mg_of X G e5); cases ht; exact er8_5
        · have ht := hT.symm.trans (PySem.W.mg_of X G e6); cases ht; exact er8_6
        · have ht := hT.symm.trans (PySem.W.mg_of X G e7); cases ht; exact er8_7
        · have ht := hT.symm.trans (PySem.W.mg_of X G e8); cases ht; exact er8_8
  have hall : AllAt K mg ⟨[], fnm, hasF, hasR, hasX, hasC, hasM, hasK⟩ P := by
    refine ⟨fun f hf => ?_, fun c hf => ?_, fun f c hf => ?_, fun c f hf => ?_⟩
    · have hm := List.contains_iff_mem.mp (show ([5, 76, 77, 78, 79, 80, 81, 82, 83, 84, 85, 86, 87, 88, 89, 90, 91, 92, 93, 94, 95, 96, 97, 98, 99, 100, 101] : List _).contains _ = true from hf)
      simp only [List.mem_cons, List.not_mem_nil, or_false] at hm
      rcases hm with rfl | rfl | rfl | rfl | rfl | rfl | rfl | rfl | rfl | rfl | rfl | rfl | rfl | rfl | rfl | rfl | rfl | rfl | rfl | rfl | rfl | rfl | rfl | rfl | rfl | rfl | rfl
      · exact ⟨_, _, _, _, _, _, t_stretch_x, F0, PySem.W.mg_of X G a0, b0⟩
      · exact ⟨_, _, _, _, _, _, t_ask_box_x, F1, PySem.W.mg_of X G a1, b1⟩
      · exact ⟨_, _, _, _, _, _, t_ask_sum_x, F2, PySem.W.mg_of X G a2, b2⟩
      · exact ⟨_, _, _, _, _, _, t_ask_step_x, F3, PySem.W.mg_of X G a3, b3⟩
      · exact ⟨_, _, _, _, _, _, t_ask_claim_x, F4, PySem.W.mg_of X G a4, b4⟩
      · exact ⟨_, _, _, _, _, _, t_ask_call_x, F5, PySem.W.mg_of X G a5, b5⟩
      · exact ⟨_, _, _, _, _, _, t_ask_statement_x, F6, PySem.W.mg_of X G a6, b6⟩
      · exact ⟨_, _, _, _, _, _, t_ask_body_x, F7, PySem.W.mg_of X G a7, b7⟩
      · exact ⟨_, _, _, _, _, _, t_well_made_x, F8, PySem.W.mg_of X G a8, b8⟩
      · exact ⟨_, _, _, _, _, _, t__law_take_79a4, F9, PySem.W.mg_of X G a9, b9⟩
      · exact ⟨_, _, _, _, _, _, t__law_draw_5153, F10, PySem.W.mg_of X G a10, b10⟩
      · exact ⟨_, _, _, _, _, _, t__law_number_bdb4, F11, PySem.W.mg_of X G a11, b11⟩
      · exact ⟨_, _, _, _, _, _, t__law_off, F12, PySem.W.mg_of X G a12, b12⟩
      · exact ⟨_, _, _, _, _, _, t__law_box_244c, F13, PySem.W.mg_of X G a13, b13⟩
      · exact ⟨_, _, _, _, _, _, t__law_sum_8f62, F14, PySem.W.mg_of X G a14, b14⟩
      · exact ⟨_, _, _, _, _, _, t__law_step_a90e, F15, PySem.W.mg_of X G a15, b15⟩
      · exact ⟨_, _, _, _, _, _, t__law_claim_850b, F16, PySem.W.mg_of X G a16, b16⟩
      · exact ⟨_, _, _, _, _, _, t__law_any_40f3, F17, PySem.W.mg_of X G a17, b17⟩
      · exact ⟨_, _, _, _, _, _, t__law_call_7e49, F18, PySem.W.mg_of X G a18, b18⟩
      · exact ⟨_, _, _, _, _, _, t__law_plain_ebbc, F19, PySem.W.mg_of X G a19, b19⟩
      · exact ⟨_, _, _, _, _, _, t__law_statement_9a11, F20, PySem.W.mg_of X G a20, b20⟩
      · exact ⟨_, _, _, _, _, _, t__law_body_9a11, F21, PySem.W.mg_of X G a21, b21⟩
      · exact ⟨_, _, _, _, _, _, t__law_program_0e2d, F22, PySem.W.mg_of X G a22, b22⟩
      · exact ⟨_, _, _, _, _, _, t__law_copy_1206_f, F23, PySem.W.mg_of X G a23, b23⟩
      · exact ⟨_, _, _, _, _, _, t__law_refusal, F24, PySem.W.mg_of X G a24, b24⟩
      · exact ⟨_, _, _, _, _, _, t__law_under_base, F25, PySem.W.mg_of X G a25, b25⟩
      · exact ⟨_, _, _, _, _, _, t__law_spots_o, F26, PySem.W.mg_of X G a26, b26⟩
    · exact absurd hf (by simp [hasC])
    · exact absurd hf (by simp [hasM])
    · exact absurd hf (by simp [hasK])
  exact ⟨PySem.W.fnOf "law" "law" (defArgs s_law) (defBody s_law) (defScope s_law) .none kV27 dc27 pm27 an27 cd27 ct27, fun s v => .of_eq rfl, fun base _ _ => law_ok (n := ⟨["script", "feed", "program", "handed", "told"], fnm, hasF, hasR, hasX, hasC, hasM, hasK⟩) F27 t_law rfl bt ((all_fns (n := ⟨[], fnm, hasF, hasR, hasX, hasC, hasM, hasK⟩) bt xo hall 16).toN _) lawRun⟩
end Sr
open PySem PySem.W PyProof.Rows
set_option maxRecDepth 100000 in
set_option maxHeartbeats 0 in
theorem PySem.Challenge.cw_seer_k12_well_made_or_refused_holds : PySem.Challenge.rw_seer_k12_well_made_or_refused.Holds := by
  w_on; o_law; k_head; (case hw => w_witness2)
  k_fill
  refine Sr.walk (l := PySem.Challenge.rw_seer_k12_well_made_or_refused) (k := 34) (x := "script") (by decide) rfl rfl (fun w h Y => PySem.W.kIn_of Y) ?F
  case F =>
    intro w mg fa h KX G hmg
    refine' Sr.all_mk KX G hmg ?a0 ?l0 ?c0 ?k0 ?a1 ?l1 ?c1 ?k1 ?a2 ?l2 ?c2 ?k2 ?a3 ?l3 ?c3 ?k3 ?a4 ?l4 ?c4 ?k4 ?a5 ?l5 ?c5 ?k5 ?a6 ?l6 ?c6 ?k6 ?a7 ?l7 ?c7 ?k7 ?a8 ?l8 ?c8 ?k8 ?a9 ?l9 ?c9 ?k9 ?a10 ?l10 ?c10 ?k10 ?a11 ?l11 ?c11 ?k11 ?a12 ?l12 ?c12 ?k12 ?a13 ?l13 ?c13 ?k13 ?a14 ?l14 ?c14 ?k14 ?a15 ?l15 ?c15 ?k15 ?a16 ?l16 ?c16 ?k16 ?a17 ?l17 ?c17 ?k17 ?a18 ?l18 ?c18 ?k18 ?a19 ?l19 ?c19 ?k19 ?a20 ?l20 ?c20 ?k20 ?a21 ?l21 ?c21 ?k21 ?a22 ?l22 ?c22 ?k22 ?a23 ?l23 ?c23 ?k23 ?a24 ?l24 ?c24 ?k24 ?a25 ?l25 ?c25 ?k25 ?a26 ?l26 ?c26 ?k26 ?a27 ?l27 ?c27 ?k27 ?z0 ?z1 ?z2 ?z3 ?z4 ?z5 ?z6 ?z7 ?z8 ?z9 ?z10 ?z11 ?z12 ?z13 ?z14 ?e0 ?eb0 ?eh0 ?et0 ?e1 ?eb1 ?eh1 ?et1 ?e3 ?eb3 ?eh3 ?et3 ?e4 ?eb4 ?eh4 ?et4 ?e5 ?eb5 ?eh5 ?et5 ?e6 ?eb6 ?eh6 ?et6 ?e7 ?eb7 ?eh7 ?et7 ?e8 ?eb8 ?eh8 ?et8 ?ex1 ?ek1 ?ev1 ?ga1 ?gb1 ?gc1 ?gm1 ?er1_0 ?er1_1 ?er1_3 ?er1_4 ?er1_5 ?er1_6 ?er1_7 ?er1_8 ?ex3 ?ek3 ?ev3 ?ga3 ?gb3 ?gc3 ?gm3 ?er3_0 ?er3_1 ?er3_3 ?er3_4 ?er3_5 ?er3_6 ?er3_7 ?er3_8 ?ex4 ?ek4 ?ev4 ?ga4 ?gb4 ?gc4 ?gm4 ?er4_0 ?er4_1 ?er4_3 ?er4_4 ?er4_5 ?er4_6 ?er4_7 ?er4_8 ?ex5 ?ek5 ?ev5 ?ga5 ?gb5 ?gc5 ?gm5 ?er5_0 ?er5_1 ?er5_3 ?er5_4 ?er5_5 ?er5_6 ?er5_7 ?er5_8 ?ex6 ?ek6 ?ev6 ?ga6 ?gb6 ?gc6 ?gm6 ?er6_0 ?er6_1 ?er6_3 ?er6_4 ?er6_5 ?er6_6 ?er6_7 ?er6_8 ?ex7 ?ek7 ?ev7 ?ga7 ?gb7 ?gc7 ?gm7 ?er7_0 ?er7_1 ?er7_3 ?er7_4 ?er7_5 ?er7_6 ?er7_7 ?er7_8 ?ex8 ?ek8 ?ev8 ?ga8 ?gb8 ?gc8 ?gm8 ?er8_0 ?er8_1 ?er8_3 ?er8_4 ?er8_5 ?er8_6 ?er8_7 ?er8_8 ?gn ?gt ?ve
    (case a0 => k_is); (case l0 => k_is); (case c0 => k_is); (case k0 => k_is); (case a1 => k_is); (case l1 => k_is); (case c1 => k_is); (case k1 => k_is); (case a2 => k_is); (case l2 => k_is); (case c2 => k_is); (case k2 => k_is); (case a3 => k_is); (case l3 => k_is); (case c3 => k_is); (case k3 => k_is); (case a4 => k_is); (case l4 => k_is); (case c4 => k_is); (case k4 => k_is); (case a5 => k_is); (case l5 => k_is); (case c5 => k_is); (case k5 => k_is); (case a6 => k_is); (case l6 => k_is); (case c6 => k_is); (case k6 => k_is); (case a7 => k_is); (case l7 => k_is); (case c7 => k_is); (case k7 => k_is); (case a8 => k_is); (case l8 => k_is); (case c8 => k_is); (case k8 => k_is); (case a9 => k_is); (case l9 => k_is); (case c9 => k_is); (case k9 => k_is); (case a10 => k_is); (case l10 => k_is); (case c10 => k_is); (case k10 => k_is); (case a11 => k_is); (case l11 => k_is); (case c11 => k_is); (case k11 => k_is); (case a12 => k_is); (case l12 => k_is); (case c12 => k_is); (case k12 => k_is); (case a13 => k_is); (case l13 => k_is); (case c13 => k_is); (case k13 => k_is); (case a14 => k_is); (case l14 => k_is); (case c14 => k_is); (case k14 => k_is); (case a15 => k_is); (case l15 => k_is); (case c15 => k_is); (case k15 => k_is); (case a16 => k_is); (case l16 => k_is); (case c16 => k_is); (case k16 => k_is); (case a17 => k_is); (case l17 => k_is); (case c17 => k_is); (case k17 => k_is); (case a18 => k_is); (case l18 => k_is); (case c18 => k_is); (case k18 => k_is); (case a19 => k_is); (case l19 => k_is); (case c19 => k_is); (case k19 => k_is); (case a20 => k_is); (case l20 => k_is); (case c20 => k_is); (case k20 => k_is); (case a21 => k_is); (case l21 => k_is); (case c21 => k_is); (case k21 => k_is); (case a22 => k_is); (case l22 => k_is); (case c22 => k_is); (case k22 => k_is); (case a23 => k_is); (case l23 => k_is); (case c23 => k_is); (case k23 => k_is); (case a24 => k_is); (case l24 => k_is); (case c24 => k_is); (case k24 => k_is); (case a25 => k_is); (case l25 => k_is); (case c25 => k_is); (case k25 => k_is); (case a26 => k_is); (case l26 => k_is); (case c26 => k_is); (case k26 => k_is); (case a27 => k_is); (case l27 => k_is); (case c27 => k_is); (case k27 => k_is); (case z0 => k_is); (case z1 => k_is); (case z2 => k_is); (case z3 => k_is); (case z4 => k_is); (case z5 => k_is); (case z6 => k_is); (case z7 => k_is); (case z8 => k_is); (case z9 => k_is); (case z10 => k_is); (case z11 => k_is); (case z12 => k_is); (case z13 => k_is); (case z14 => k_is); (case e0 => k_is); (case eb0 => k_is); (case eh0 => k_is); (case et0 => k_is); (case e1 => k_is); (case eb1 => k_is); (case eh1 => k_is); (case et1 => k_is); (case e3 => k_is); (case eb3 => k_is); (case eh3 => k_is); (case et3 => k_is); (case e4 => k_is); (case eb4 => k_is); (case eh4 => k_is); (case et4 => k_is); (case e5 => k_is); (case eb5 => k_is); (case eh5 => k_is); (case et5 => k_is); (case e6 => k_is); (case eb6 => k_is); (case eh6 => k_is); (case et6 => k_is); (case e7 => k_is); (case eb7 => k_is); (case eh7 => k_is); (case et7 => k_is); (case e8 => k_is); (case eb8 => k_is); (case eh8 => k_is); (case et8 => k_is); (case ex1 => k_exc); (case ek1 => k_is); (case ev1 => k_is); (case ga1 => k_is); (case gb1 => k_is); (case gc1 => k_is); (case gm1 => k_is); (case er1_0 => first | rfl | k_is); (case er1_1 => first | rfl | k_is); (case er1_3 => first | rfl | k_is); (case er1_4 => first | rfl | k_is); (case er1_5 => first | rfl | k_is); (case er1_6 => first | rfl | k_is); (case er1_7 => first | rfl | k_is); (case er1_8 => first | rfl | k_is); (case ex3 => k_exc); (case ek3 => k_is); (case ev3 => k_is); (case ga3 => k_is); (case gb3 => k_is); (case gc3 => k_is); (case gm3 => k_is); (case er3_0 => first | rfl | k_is); (case er3_1 => first | rfl | k_is); (case er3_3 => first | rfl | k_is); (case er3_4 => first | rfl | k_is); (case er3_5 => first | rfl | k_is); (case er3_6 => first | rfl | k_is); (case er3_7 => first | rfl | k_is); (case er3_8 => first | rfl | k_is); (case ex4 => k_exc); (case ek4 => k_is); (case ev4 => k_is); (case ga4 => k_is); (case gb4 => k_is); (case gc4 => k_is); (case gm4 => k_is); (case er4_0 => first | rfl | k_is); (case er4_1 => first | rfl | k_is); (case er4_3 => first | rfl | k_is); (case er4_4 => first | rfl | k_is); (case er4_5 => first | rfl | k_is); (case er4_6 => first | rfl | k_is); (case er4_7 => first | rfl | k_is); (case er4_8 => first | rfl | k_is); (case ex5 => k_exc); (case ek5 => k_is); (case ev5 => k_is); (case ga5 => k_is); (case gb5 => k_is); (case gc5 => k_is); (case gm5 => k_is); (case er5_0 => first | rfl | k_is); (case er5_1 => first | rfl | k_is); (case er5_3 => first | rfl | k_is); (case er5_4 => first | rfl | k_is); (case er5_5 => first | rfl | k_is); (case er5_6 => first | rfl | k_is); (case er5_7 => first | rfl | k_is); (case er5_8 => first | rfl | k_is); (case ex6 => k_exc); (case ek6 => k_is); (case ev6 => k_is); (case ga6 => k_is); (case gb6 => k_is); (case gc6 => k_is); (case gm6 => k_is); (case er6_0 => first | rfl | k_is); (case er6_1 => first | rfl | k_is); (case er6_3 => first | rfl | k_is); (case er6_4 => first | rfl | k_is); (case er6_5 => first | rfl | k_is); (case er6_6 => first | rfl | k_is); (case er6_7 => first | rfl | k_is); (case er6_8 => first | rfl | k_is); (case ex7 => k_exc); (case ek7 => k_is); (case ev7 => k_is); (case ga7 => k_is); (case gb7 => k_is); (case gc7 => k_is); (case gm7 => k_is); (case er7_0 => first | rfl | k_is); (case er7_1 => first | rfl | k_is); (case er7_3 => first | rfl | k_is); (case er7_4 => first | rfl | k_is); (case er7_5 => first | rfl | k_is); (case er7_6 => first | rfl | k_is); (case er7_7 => first | rfl | k_is); (case er7_8 => first | rfl | k_is); (case ex8 => k_exc); (case ek8 => k_is); (case ev8 => k_is); (case ga8 => k_is); (case gb8 => k_is); (case gc8 => k_is); (case gm8 => k_is); (case er8_0 => first | rfl | k_is); (case er8_1 => first | rfl | k_is); (case er8_3 => first | rfl | k_is); (case er8_4 => first | rfl | k_is); (case er8_5 => first | rfl | k_is); (case er8_6 => first | rfl | k_is); (case er8_7 => first | rfl | k_is); (case er8_8 => first | rfl | k_is); (case gn => k_is); (case gt => k_is); (case ve => k_is)
