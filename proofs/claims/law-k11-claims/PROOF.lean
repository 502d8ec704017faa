import PyProof.Rows.All
import Wide.All
import OpenK.AllK
import Wide.FinOn
import HandS.ForMost
import HandS.Wide
import HandS.IsInst
import HandS.SortInts
import HandS.Deep
import HandS.EndBits
import KE.IntBitsLaws
import PySem.Challenge.RW_seer_k11_claims
set_option Elab.async false
set_option linter.all false
set_option maxRecDepth 100000
/-! # Sr: a small language of data, its meaning -/
namespace Sr
open PySem L2

/-- data; a list bears whether it is ours alone -/
inductive D where
  | non
  | bl (b : Bool)
  | int (i : Int)
  | str (x : Str)
  | tup (xs : List D)
  | lst (o : Bool) (xs : List D)

mutual
/-- no list of ours within -/
def D.un : D → Bool
  | .non => true
  | .bl _ => true
  | .int _ => true
  | .str _ => true
  | .tup xs => unL xs
  | .lst o xs => !o && unL xs
def unL : List D → Bool
  | [] => true
  | x :: r => x.un && unL r
end
mutual
/-- no list of others within -/
def D.ns : D → Bool
  | .non => true
  | .bl _ => true
  | .int _ => true
  | .str _ => true
  | .tup xs => nsL xs
  | .lst o xs => o && nsL xs
def nsL : List D → Bool
  | [] => true
  | x :: r => x.ns && nsL r
end
mutual
/-- given up: no list is ours any more -/
def D.shr : D → D
  | .non => .non
  | .bl b => .bl b
  | .int i => .int i
  | .str x => .str x
  | .tup xs => .tup (shrL xs)
  | .lst _ xs => .lst false (shrL xs)
def shrL : List D → List D
  | [] => []
  | x :: r => x.shr :: shrL r
end
mutual
def D.py : D → PyData
  | .non => .none
  | .bl b => .bool b
  | .int i => .int i
  | .str x => .str x
  | .tup xs => .tuple (pyL xs)
  | .lst _ xs => .list (pyL xs)
def pyL : List D → List PyData
  | [] => []
  | x :: r => x.py :: pyL r
end

abbrev Env := List (Option D)
def Env.at (e : Env) (i : Nat) : Option D := (e[i]?).getD none

inductive Bop where | add | sub | mul | fdv | mod | pow
  deriving DecidableEq
inductive Cop where | lt | le | gt | ge
  deriving DecidableEq
inductive B1 where | len | abs | int | list | tuple | sum | minL | maxL | isInt | isBool | isList | isTuple | isStr | sorted
  deriving DecidableEq
inductive BN where | min2 | max2 | max3
  deriving DecidableEq

inductive T where
  | nil | cons (a r : T)
  | v (i : Nat) | w (i : Nat) | non | bl (b : Bool) | int (i : Int) | str (x : Str)
  | frz (a : T)
  | bin (o : Bop) (a b : T) | neg (a : T)
  | cmp (o : Cop) (a b : T) | eq (a b : T) | ne (a b : T) | isN (a : T) | nisN (a : T)
  | chain (o o' : Cop) (a b c : T)
  | and (a b : T) | or (a b : T) | not (a : T) | ife (c a b : T)
  | tup (a : T) | lst (a : T)
  | ix (a b : T) | sl (a lo hi : T)
  | call (f : Nat) (a : T)
  | b1 (k : B1) (a : T) | bn (k : BN) (a : T)
  | inn (a b : T) | nin (a b : T)
  | rng1 (a : T) | rng2 (a b : T) | rng3 (a b : T) (c : Int) | zip (a b : T) | itr (a : T)
  | lc (tg : List Nat) (it c e : T)
  -- statements
  | pass | seq (a b : T) | asg (i : Nat) (e : T) | upk (tg : List Nat) (e : T)
  | st (p i e : T) | app (i : Nat) (e : T) | ex (e : T)
  | cond (c a b : T) | whl (ks : List Nat) (c b : T) | for_ (tg ks : List Nat) (it b : T)
  | ret (e : T) | brk | cnt | rse

/-- the product of two toInts fits -/
abbrev mulOk (i j : Int) : Prop := IntMulOk i j
instance (i j : Int) : Decidable (mulOk i j) := by unfold mulOk IntMulOk; infer_instance

def binI : Bop → Int → Int → Option Int
  | .add, i, j => some (i + j)
  | .sub, i, j => some (i - j)
  | .mul, i, j => if mulOk i j then some (i * j) else none
  | .fdv, i, j => if j ≠ 0 ∧ j.natAbs.log2 < 9000 then some (i.fdiv j) else none
  | .mod, i, j => if j = 0 then none else some (i.fmod j)
  | .pow, i, j => if 0 ≤ j ∧ j ≤ 1000000 ∧ i.natAbs < 2 ^ 64 then some (i ^ j.toNat) else none
def cmpI : Cop → Int → Int → Bool
  | .lt, i, j => decide (i < j)
  | .le, i, j => decide (i ≤ j)
  | .gt, i, j => decide (j < i)
  | .ge, i, j => decide (j ≤ i)
def items : D → Option (List D)
  | .lst _ xs => some xs
  | .tup xs => some xs
  | _ => none
def atD (d : D) (k : Int) : Option D := match items d with
  | some xs => atI xs k
  | none => none
def lenD (d : D) : Option D := match items d with
  | some xs => some (.int xs.length)
  | none => none
def big : Nat := 1000000

/-- a bound of a slice -/
def cutD (xs : List D) (lo hi : Option Int) : List D := (xs.drop (HT.sIx xs.length 0 lo)).take (HT.sIx xs.length xs.length hi - HT.sIx xs.length 0 lo)
def slD (d : D) (lo hi : Option Int) : Option D := match d with
  | .lst _ xs => if unL xs then some (.lst true (cutD xs lo hi)) else none
  | .tup xs => if unL xs ∧ ¬ (HT.sIx xs.length 0 lo = 0 ∧ HT.sIx xs.length xs.length hi = xs.length) then some (.tup (cutD xs lo hi)) else none
  | _ => none
/-- what is read without a change -/
def isP : T → Bool
  | .v _ => true
  | .non => true
  | .bl _ => true
  | .int _ => true
  | .str _ => true
  | .bin _ a b => isP a && isP b
  | .neg a => isP a
  | .ix a b => isP a && isP b
  | .b1 .len a => isP a
  | _ => false
def evP : T → Env → Option D
  | .v i, e => e.at i
  | .non, _ => some .non
  | .bl b, _ => some (.bl b)
  | .int i, _ => some (.int i)
  | .str x, _ => some (.str x)
  | .bin o a b, e => match evP a e, evP b e with
    | some (.int i), some (.int j) => (binI o i j).map .int
    | _, _ => none
  | .neg a, e => match evP a e with
    | some (.int i) => some (.int (-i))
    | _ => none
  | .ix a b, e => match evP a e, evP b e with
    | some d, some (.int k) => atD d k
    | _, _ => none
  | .b1 .len a, e => match evP a e with
    | some d => lenD d
    | none => none
  | _, _ => none

def isPo : T → Bool
  | .nil => true
  | t => isP t
def evPo (t : T) (e : Env) : Option (Option Int) := match t with
  | .nil => some none
  | t => match evP t e with
    | some (.int i) => some (some i)
    | _ => none
def eqv (d e : D) : Bool := PyData.eqv d.py e.py
def eqOk (d : D) : Bool := SeqAt.shaped d.py
/-- is there an equal one among the items -/
def inD (x : D) (ys : List D) : Bool := ys.any fun y => eqv y x
/-- the binary operators by what is handed in -/
def binD (o : Bop) (x y : D) : Option D := match x, y with
  | .int i, .int j => (binI o i j).map .int
  | .lst _ xs, .lst _ ys => match o with
    | .add => if unL xs && unL ys && decide (xs.length + ys.length ≤ big) then some (.lst true (xs ++ ys)) else none
    | _ => none
  | .tup xs, .tup ys => match o with
    | .add => if unL xs && unL ys && !xs.isEmpty && decide (xs.length + ys.length ≤ big) then some (.tup (xs ++ ys)) else none
    | _ => none
  | .lst ow xs, .int k => match o with
    | .mul => if (ow && unL xs) && decide (xs.length * k.toNat ≤ big) && decide (k < 2 ^ 62) && decide (-(2 ^ 62) ≤ k) then some (.lst true (List.replicate k.toNat xs).flatten) else none
    | _ => none
  | _, _ => none
def toInts : List D → Option (List Int)
  | [] => some []
  | .int i :: r => match toInts r with
    | some l => some (i :: l)
    | none => none
  | _ => none
def b1D : B1 → D → Option D
  | .len, d => lenD d
  | .abs, .int i => some (.int (if i < 0 then -i else i))
  | .int, .int i => some (.int i)
  | .int, .bl b => some (.int (if b then 1 else 0))
  | .list, d => match items d with
    | some xs => if unL xs then some (.lst true xs) else none
    | none => none
  | .tuple, .lst _ xs => if unL xs then some (.tup xs) else none
  | .sum, .lst _ xs => (toInts xs).map fun l => .int l.sum
  | .isInt, .int _ => some (.bl true)
  | .isInt, .bl _ => some (.bl true)
  | .isInt, _ => some (.bl false)
  | .isBool, .bl _ => some (.bl true)
  | .isBool, _ => some (.bl false)
  | .isList, .lst _ _ => some (.bl true)
  | .isList, _ => some (.bl false)
  | .isTuple, .tup _ => some (.bl true)
  | .isTuple, _ => some (.bl false)
  | .isStr, .str _ => some (.bl true)
  | .isStr, _ => some (.bl false)
  | _, _ => none
def bnD : BN → List D → Option D
  | .min2, [.int i, .int j] => some (.int (if j < i then j else i))
  | .max2, [.int i, .int j] => some (.int (if j > i then j else i))
  | _, _ => none

inductive Ag where | val (d : D) | var (i : Nat) | io (i : Nat)
/-- what is to be changed is taken out -/
def agIo : List Ag → Env → Option Env
  | [], e => some e
  | .io i :: r, e => match e.at i with
    | some _ => agIo r (e.set i none)
    | none => none
  | _ :: r, e => agIo r e
/-- what is handed over: e ahead, e' what is left -/
def agD (e e' : Env) : List Ag → Option (List D)
  | [] => some []
  | .val d :: r => match agD e e' r with
    | some l => some (d.shr :: l)
    | none => none
  | .var i :: r => match e'.at i, agD e e' r with
    | some d, some l => some (d.shr :: l)
    | _, _ => none
  | .io i :: r => match e.at i, agD (e.set i none) e' r with
    | some d, some l => some (d :: l)
    | _, _ => none
/-- what was lent is no more ours -/
def agFz : List Ag → Env → Env
  | [], e => e
  | .var i :: r, e => agFz r (match e.at i with
    | some d => e.set i (some d.shr)
    | none => e)
  | _ :: r, e => agFz r e
/-- what was changed comes back -/
def agBack : List Ag → List (Option D) → Env → Option Env
  | [], [], e => some e
  | .io i :: r, o :: os, e => agBack r os (e.set i o)
  | _ :: r, _ :: os, e => agBack r os e
  | _, _, _ => none
def nsO : List (Option D) → Bool
  | [] => true
  | some d :: r => d.ns && nsO r
  | none :: r => nsO r

def bindT : List Nat → D → Env → Option Env
  | [i], d, e => some (e.set i (some d))
  | [i, j], .tup [x, y], e => some ((e.set i (some x)).set j (some y))
  | [i, j, k], .tup [x, y, z], e => some (((e.set i (some x)).set j (some y)).set k (some z))
  | _, _, _ => none
def kill : List Nat → Env → Env
  | [], e => e
  | i :: r, e => kill r (e.set i none)
def loopC (f : D → Env → Option (Option D × Env)) : List D → Env → List D → Option (List D × Env)
  | [], e, acc => some (acc, e)
  | x :: r, e, acc => match f x e with
    | some (some d, e') => loopC f r e' (acc ++ [d])
    | some (none, e') => loopC f r e' acc
    | none => none
def zipD : List D → List D → List D
  | x :: xs, y :: ys => .tup [x, y] :: zipD xs ys
  | _, _ => []

/-- how many turns a range takes -/
def rngN (a b c : Int) : Nat := if a < b then ((b - a - 1) / c + 1).toNat else 0
/-- the called functions: which parameters are changed, what comes back -/
structure Fs where
  io : Nat → List Bool
  run : Nat → List D → Option (D × List (Option D))

section
variable (Φ : Fs)
mutual
def evE : T → Env → Option (D × Env)
  | .v i, e => match e.at i with
    | some d => if d.un then some (d, e) else some (d, e.set i none)
    | none => none
  | .w i, e => match e.at i with
    | some d => some (d.shr, e.set i (some d.shr))
    | none => none
  | .non, e => some (.non, e)
  | .bl b, e => some (.bl b, e)
  | .int i, e => some (.int i, e)
  | .str x, e => some (.str x, e)
  | .frz a, e => match evE a e with
    | some (d, e) => some (d.shr, e)
    | none => none
  | .bin o a b, e => match evE a e with
    | some (x, e) => match evE b e with
      | some (y, e) => (binD o x y).map fun d => (d, e)
      | none => none
    | none => none
  | .neg a, e => match evE a e with
    | some (.int i, e) => some (.int (-i), e)
    | _ => none
  | .cmp o a b, e => match evE a e with
    | some (.int i, e) => match evE b e with
      | some (.int j, e) => some (.bl (cmpI o i j), e)
      | _ => none
    | _ => none
  | .eq a b, e => match (if isP a && isP b then (evP a e).map fun d => (d, e) else evE a e) with
    | some (x, e) => match (if isP b then (evP b e).map fun d => (d, e) else evE b e) with
      | some (y, e) => if eqOk x && eqOk y then some (.bl (eqv x y), e) else none
      | none => none
    | none => none
  | .ne a b, e => match (if isP a && isP b then (evP a e).map fun d => (d, e) else evE a e) with
    | some (x, e) => match (if isP b then (evP b e).map fun d => (d, e) else evE b e) with
      | some (y, e) => if eqOk x && eqOk y then some (.bl (!eqv x y), e) else none
      | none => none
    | none => none
  | .inn a b, e => match (if isP a && isP b then (evP a e).map fun d => (d, e) else evE a e) with
    | some (x, e) => match (if isP b then (evP b e).map fun d => (d, e) else evE b e) with
      | some (.lst o ys, e) => if eqOk x && eqOk (.lst o ys) then some (.bl (inD x ys), e) else none
      | _ => none
    | none => none
  | .nin a b, e => match (if isP a && isP b then (evP a e).map fun d => (d, e) else evE a e) with
    | some (x, e) => match (if isP b then (evP b e).map fun d => (d, e) else evE b e) with
      | some (.lst o ys, e) => if eqOk x && eqOk (.lst o ys) then some (.bl (!inD x ys), e) else none
      | _ => none
    | none => none
  | .isN a, e => match (if isP a then (evP a e).map fun d => (d, e) else evE a e) with
    | some (.non, e) => some (.bl true, e)
    | some (_, e) => some (.bl false, e)
    | none => none
  | .nisN a, e => match (if isP a then (evP a e).map fun d => (d, e) else evE a e) with
    | some (.non, e) => some (.bl false, e)
    | some (_, e) => some (.bl true, e)
    | none => none
  | .chain o o' a b c, e => match evE a e with
    | some (.int i, e) => match evE b e with
      | some (.int j, e) => if cmpI o i j then match evE c e with
        | some (.int k, e) => some (.bl (cmpI o' j k), e)
        | _ => none
        else some (.bl false, e)
      | _ => none
    | _ => none
  | .and a b, e => match evE a e with
    | some (.bl true, e) => match evE b e with
      | some (.bl c, e) => some (.bl c, e)
      | _ => none
    | some (.bl false, e) => some (.bl false, e)
    | _ => none
  | .or a b, e => match evE a e with
    | some (.bl false, e) => match evE b e with
      | some (.bl c, e) => some (.bl c, e)
      | _ => none
    | some (.bl true, e) => some (.bl true, e)
    | _ => none
  | .not a, e => match evE a e with
    | some (.bl c, e) => some (.bl (!c), e)
    | _ => none
  | .ife c a b, e => match evE c e with
    | some (.bl c, e) => if c then evE a e else evE b e
    | _ => none
  | .tup a, e => match evL a e with
    | some (ds, e) => if ds.length ≤ big then some (.tup ds, e) else none
    | none => none
  | .lst a, e => match evL a e with
    | some (ds, e) => if ds.length ≤ big then some (.lst true ds, e) else none
    | none => none
  | .ix a b, e => if isP a && isP b then match evP (.ix a b) e with
      | some d => if d.un then some (d, e) else none
      | none => none
    else match evE a e with
    | some (x, e) => match evE b e with
      | some (.int k, e) => (atD x k).map fun d => (d, e)
      | _ => none
    | none => none
  | .sl a lo hi, e => if isPo lo && isPo hi then match (if isP a then (evP a e).map fun d => (d, e) else evE a e) with
    | some (x, e) => match evPo lo e with
      | some l => match evPo hi e with
        | some h => match slD x l h with
          | some d => some (d, e)
          | none => none
        | none => none
      | none => none
    | none => none
    else none
  | .call f a, e => match evG a (Φ.io f) e with
    | some (as, e) => match agIo as e with
      | some e' => match agD e e' as with
        | some ds => match Φ.run f ds with
          | some (r, os) => match agBack as os (if r.ns && nsO os then e' else agFz as e') with
            | some e => some (r, e)
            | none => none
          | none => none
        | none => none
      | none => none
    | none => none
  | .b1 k a, e => match (if isP a then (evP a e).map fun d => (d, e) else evE a e) with
    | some (x, e) => (b1D k x).map fun d => (d, e)
    | none => none
  | .bn k a, e => match evL a e with
    | some (xs, e) => (bnD k xs).map fun d => (d, e)
    | none => none
  | .lc tg it c el, e => match evI it e with
    | some (xs, e) => match loopC (fun x e => match bindT tg x e with
        | some e => match evE c e with
          | some (.bl true, e) => match evE el e with
            | some (d, e) => some (some d, kill tg e)
            | none => none
          | some (.bl false, e) => some (none, kill tg e)
          | _ => none
        | none => none) xs (kill tg e) [] with
      | some (ds, e) => some (.lst true ds, e)
      | none => none
    | none => none
  | _, _ => none
def evL : T → Env → Option (List D × Env)
  | .nil, e => some ([], e)
  | .cons a r, e => match evE a e with
    | some (x, e) => match evL r e with
      | some (xs, e) => some (x :: xs, e)
      | none => none
    | none => none
  | _, _ => none
/-- the arguments of a call -/
def evG : T → List Bool → Env → Option (List Ag × Env)
  | .nil, [], e => some ([], e)
  | .cons (.v i) r, b :: bs, e => match e.at i with
    | some _ => match evG r bs e with
      | some (as, e) => some ((if b then .io i else .var i) :: as, e)
      | none => none
    | none => none
  | .cons a r, b :: bs, e => if b then none else match evE a e with
    | some (x, e) => match evG r bs e with
      | some (as, e) => some (.val x :: as, e)
      | none => none
    | none => none
  | _, _, _ => none
/-- what is walked -/
def evI : T → Env → Option (List D × Env)
  | .rng1 a, e => match evE a e with
    | some (.int n, e) => if n ≤ big ∧ -(2 ^ 62) ≤ n then some ((List.range n.toNat).map fun k => .int (k : Nat), e) else none
    | _ => none
  | .rng2 a b, e => match evE a e with
    | some (.int m, e) => match evE b e with
      | some (.int n, e) => if -(2 ^ 62) ≤ m ∧ m < 2 ^ 62 ∧ -(2 ^ 62) ≤ n ∧ n < 2 ^ 62 ∧ n - m ≤ big then some ((List.range (n - m).toNat).map fun k => .int (m + (k : Nat)), e) else none
      | _ => none
    | _ => none
  | .rng3 a b c, e => match evE a e with
    | some (.int m, e) => match evE b e with
      | some (.int n, e) => if -(2 ^ 61) ≤ m ∧ m < 2 ^ 61 ∧ -(2 ^ 61) ≤ n ∧ n < 2 ^ 61 ∧ 0 < c ∧ c < 1000000000 ∧ n - m ≤ big then some ((List.range (rngN m n c)).map fun k => .int (m + (k : Nat) * c), e) else none
      | _ => none
    | _ => none
  | .zip a b, e => match evE a e with
    | some (.lst _ xs, e) => match evE b e with
      | some (.lst _ ys, e) => some (zipD (shrL xs) (shrL ys), e)
      | _ => none
    | _ => none
  | .itr a, e => match evE a e with
    | some (d, e) => (items d).map fun xs => (shrL xs, e)
    | none => none
  | _, _ => none
end
end

/-! ### statements -/
inductive Fl where | nx | rt (d : D) | bk | ct
/-- the place of a store -/
def isPl : T → Bool
  | .v _ => true
  | .ix a b => isPl a && isP b
  | _ => false
def setAt (k : Int) (f : D → Option D) : D → Option D
  | .lst true xs => match ixN xs.length k with
    | some j => match xs[j]? with
      | some x => match f x with
        | some y => some (.lst true (xs.set j y))
        | none => none
      | none => none
    | none => none
  | .tup xs => match ixN xs.length k with
    | some j => match xs[j]? with
      | some x => match f x with
        | some y => some (.tup (xs.set j y))
        | none => none
      | none => none
    | none => none
  | _ => none
def setP : T → (D → Option D) → Env → Option Env
  | .v i, f, e => match e.at i with
    | some d => match f d with
      | some d => some (e.set i (some d))
      | none => none
    | none => none
  | .ix a b, f, e => match evP b e with
    | some (.int k) => setP a (setAt k f) e
    | _ => none
  | _, _, _ => none
def putD (k : Int) (x : D) : D → Option D
  | .lst true xs => match ixN xs.length k with
    | some j => some (.lst true (xs.set j x))
    | none => none
  | _ => none
def appD (x : D) : D → Option D
  | .lst true xs => if xs.length < big then some (.lst true (xs ++ [x])) else none
  | _ => none
def loopF (ks : List Nat) (f : D → Env → Option (Fl × Env)) : List D → Env → Option (Fl × Env)
  | [], e => some (.nx, kill ks e)
  | x :: r, e => match f x e with
    | some (.nx, e) => loopF ks f r (kill ks e)
    | some (.ct, e) => loopF ks f r (kill ks e)
    | some (.bk, e) => some (.nx, kill ks e)
    | some (.rt d, e) => some (.rt d, e)
    | none => none
def whN (ks : List Nat) (c : Env → Option (D × Env)) (f : Env → Option (Fl × Env)) : Nat → Env → Option (Fl × Env)
  | 0, _ => none
  | n + 1, e => match c e with
    | some (.bl true, e) => match f e with
      | some (.nx, e) => whN ks c f n (kill ks e)
      | some (.ct, e) => whN ks c f n (kill ks e)
      | some (.bk, e) => some (.nx, kill ks e)
      | some (.rt d, e) => some (.rt d, e)
      | none => none
    | some (.bl false, e) => some (.nx, kill ks e)
    | _ => none
theorem whN_succ {ks c f n e} : whN ks c f (n + 1) e = (match c e with
    | some (.bl true, e) => match f e with
      | some (.nx, e) => whN ks c f n (kill ks e)
      | some (.ct, e) => whN ks c f n (kill ks e)
      | some (.bk, e) => some (.nx, kill ks e)
      | some (.rt d, e) => some (.rt d, e)
      | none => none
    | some (.bl false, e) => some (.nx, kill ks e)
    | _ => none) := rfl
theorem whN_more {ks c f} : ∀ {n e r}, whN ks c f n e = some r → whN ks c f (n + 1) e = some r
  | 0, e, r, h => by simp [whN] at h
  | n + 1, e, r, h => by
    rw [whN_succ] at h
    rw [whN_succ]
    rcases hc : c e with _ | ⟨d, e1⟩
    · rw [hc] at h; exact h
    · rw [hc] at h
      cases d with
      | bl b =>
        cases b with
        | true =>
          rcases hf : f e1 with _ | ⟨q, e2⟩
          · simp only [hf] at h; cases h
          · simp only [hf] at h ⊢
            cases q with
            | nx => exact whN_more h
            | ct => exact whN_more h
            | bk => exact h
            | rt d => exact h
        | false => exact h
      | _ => exact h
theorem whN_le {ks c f n m e r} (h : whN ks c f n e = some r) (l : n ≤ m) : whN ks c f m e = some r := by
  induction l with
  | refl => exact h
  | step _ ih => exact whN_more ih
open Classical in
noncomputable def whD (ks : List Nat) (c : Env → Option (D × Env)) (f : Env → Option (Fl × Env)) (e : Env) : Option (Fl × Env) :=
  if h : ∃ n, (whN ks c f n e).isSome = true then whN ks c f h.choose e else none
theorem whD_of {ks c f n e r} (h : whN ks c f n e = some r) : whD ks c f e = some r := by
  have x : ∃ n, (whN ks c f n e).isSome = true := ⟨n, by rw [h]; rfl⟩
  unfold whD
  rw [dif_pos x]
  have y := x.choose_spec
  obtain ⟨r', hr'⟩ := Option.isSome_iff_exists.mp y
  rw [hr']
  rcases Nat.le_total n x.choose with l | l
  · rw [whN_le h l] at hr'; exact hr'.symm
  · rw [whN_le hr' l] at h; exact h
theorem of_whD {ks c f e r} (h : whD ks c f e = some r) : ∃ n, whN ks c f n e = some r := by
  unfold whD at h
  split at h
  · exact ⟨_, h⟩
  · cases h

section
variable (Φ : Fs)
noncomputable def evS : T → Env → Option (Fl × Env)
  | .pass, e => some (.nx, e)
  | .seq a b, e => match evS a e with
    | some (.nx, e) => evS b e
    | some r => some r
    | none => none
  | .asg i a, e => match evE Φ a e with
    | some (d, e) => some (.nx, e.set i (some d))
    | none => none
  | .upk tg a, e => match evE Φ a e with
    | some (d, e) => match bindT tg d e with
      | some e => some (.nx, e)
      | none => none
    | none => none
  | .st p i a, e => match evE Φ a e with
    | some (x, e) => if isPl p && isP i then match evP i e with
      | some (.int k) => match setP p (putD k x) e with
        | some e => some (.nx, e)
        | none => none
      | _ => none
      else none
    | none => none
  | .app i a, e => match e.at i with
    | some (.lst _ _) => match evE Φ a e with
      | some (x, e) => match setP (.v i) (appD x) e with
        | some e => some (.nx, e)
        | none => none
      | none => none
    | _ => none
  | .ex a, e => match evE Φ a e with
    | some (_, e) => some (.nx, e)
    | none => none
  | .cond c a b, e => match evE Φ c e with
    | some (.bl c, e) => if c then evS a e else evS b e
    | _ => none
  | .whl ks c b, e => whD ks (evE Φ c) (evS b) e
  | .for_ tg ks it b, e => match evI Φ it e with
    | some (xs, e) => loopF ks (fun x e => match bindT tg x e with
      | some e => evS b e
      | none => none) xs e
    | none => none
  | .ret a, e => match evE Φ a e with
    | some (d, e) => some (.rt d, e)
    | none => none
  | .brk, e => some (.bk, e)
  | .cnt, e => some (.ct, e)
  | _, _ => none
end

/-! ### functions -/
/-- a def: its parameters, which of them are changed, how many names, its body -/
structure Df where
  io : List Bool
  names : Nat
  body : T
def outs : List Bool → Env → List (Option D)
  | [], _ => []
  | b :: r, e => (if b then e.head?.join else none) :: outs r e.tail
noncomputable def runDf (Φ : Fs) (d : Df) (as : List D) : Option (D × List (Option D)) :=
  if as.length = d.io.length then match evS Φ d.body (as.map some ++ List.replicate (d.names - as.length) none) with
    | some (.rt r, e) => some (r, outs d.io e)
    | some (.nx, e) => some (.non, outs d.io e)
    | _ => none
  else none
noncomputable def fnsN (P : Nat → Df) : Nat → Fs
  | 0 => ⟨fun f => (P f).io, fun _ _ => none⟩
  | n + 1 => ⟨fun f => (P f).io, fun f as => runDf (fnsN P n) (P f) as⟩
end Sr
set_option Elab.async false
set_option linter.all false
set_option maxRecDepth 100000
/-! # Sr: how data stands in the heap -/
namespace Sr
open PySem L2

/-- the address's content is a list -/
def IsLst (H : Hp) (a : Addr) : Prop := ∃ xs, H a = some (.lst xs)
/-- a list of the module -/
def KL (K : PySem.W.Frag) (a : Addr) (xs : List V) : Prop := ∃ (o : Obj) (its : Array Value) (n : Nat), K.lookup a = some o ∧ o.cls = .type "list" ∧ o.dict = none ∧ o.data = .seq its n ∧ its.size ≤ sizeLine ∧ Vals xs its.toList
mutual
/-- v stands for d; F: the lists of ours, S: the lists of others -/
inductive Rep (K : PySem.W.Frag) (H : Hp) : V → D → List Addr → List Addr → Prop
  | non : Rep K H .non .non [] []
  | bl (b : Bool) : Rep K H (.bl b) (.bl b) [] []
  | int (i : Int) : Rep K H (.int i) (.int i) [] []
  | str (x : Str) : Rep K H (.str x) (.str x) [] []
  | tup {a : Addr} {vs : List V} {ds : List D} {F S : List Addr} : Rd H a (.tup vs) → Reps K H vs ds F S → Rep K H (.ref a) (.tup ds) F S
  | shr {a : Addr} {vs : List V} {ds : List D} {S : List Addr} : Rd H a (.lst vs) → Reps K H vs ds [] S → Rep K H (.ref a) (.lst false ds) [] (a :: S)
  | mod {a : Addr} {vs : List V} {ds : List D} {S : List Addr} : KL K a vs → Reps K H vs ds [] S → Rep K H (.ref a) (.lst false ds) [] S
  | own {a : Addr} {vs : List V} {ds : List D} {F S : List Addr} : H a = some (.lst vs) → Reps K H vs ds F S → Rep K H (.ref a) (.lst true ds) (a :: F) S
inductive Reps (K : PySem.W.Frag) (H : Hp) : List V → List D → List Addr → List Addr → Prop
  | nil : Reps K H [] [] [] []
  | cons {v : V} {d : D} {vs : List V} {ds : List D} {F S F' S' : List Addr} : Rep K H v d F S → Reps K H vs ds F' S' → Reps K H (v :: vs) (d :: ds) (F ++ F') (S ++ S')
end

section
variable {K : PySem.W.Frag} {H H' : Hp}

theorem Reps.len : ∀ {vs : List V} {ds : List D} {F S : List Addr}, Reps K H vs ds F S → vs.length = ds.length
  | _, [], _, _, h => by cases h; rfl
  | _, _ :: _, _, _, h => by cases h with | cons _ t => simp [t.len]

mutual
theorem shr_un : ∀ d : D, d.shr.un = true
  | .non => rfl
  | .bl _ => rfl
  | .int _ => rfl
  | .str _ => rfl
  | .tup xs => by rw [D.shr, D.un]; exact shrL_un xs
  | .lst _ xs => by rw [D.shr, D.un, shrL_un xs]; rfl
theorem shrL_un : ∀ ds : List D, unL (shrL ds) = true
  | [] => rfl
  | d :: ds => by rw [shrL, unL, shr_un d, shrL_un ds]; rfl
end
mutual
theorem shr_shr : ∀ d : D, d.shr.shr = d.shr
  | .non => rfl
  | .bl _ => rfl
  | .int _ => rfl
  | .str _ => rfl
  | .tup xs => by rw [D.shr, D.shr, shrL_shrL xs]
  | .lst _ xs => by rw [D.shr, D.shr, shrL_shrL xs]
theorem shrL_shrL : ∀ ds : List D, shrL (shrL ds) = shrL ds
  | [] => rfl
  | d :: ds => by rw [shrL, shrL, shr_shr d, shrL_shrL ds]
end
mutual
theorem shr_of_un : ∀ d : D, d.un = true → d.shr = d
  | .non, _ => rfl
  | .bl _, _ => rfl
  | .int _, _ => rfl
  | .str _, _ => rfl
  | .tup xs, h => by rw [D.un] at h; rw [D.shr, shrL_of_un xs h]
  | .lst o xs, h => by
    simp only [D.un, Bool.and_eq_true, Bool.not_eq_true'] at h
    rw [D.shr, shrL_of_un xs h.2, h.1]
theorem shrL_of_un : ∀ ds : List D, unL ds = true → shrL ds = ds
  | [], _ => rfl
  | d :: ds, h => by
    simp only [unL, Bool.and_eq_true] at h
    rw [shrL, shr_of_un d h.1, shrL_of_un ds h.2]
end
/-- all that is of ours is a list -/
theorem Rep.lstF : ∀ {d : D} {v : V} {F S : List Addr}, Rep K H v d F S → ∀ a ∈ F, IsLst H a := by
  intro d
  apply D.rec (motive_1 := fun d => ∀ {v F S}, Rep K H v d F S → ∀ a ∈ F, IsLst H a) (motive_2 := fun ds => ∀ {vs F S}, Reps K H vs ds F S → ∀ a ∈ F, IsLst H a)
  · intro v F S h a ha; cases h; cases ha
  · intro b v F S h a ha; cases h; cases ha
  · intro i v F S h a ha; cases h; cases ha
  · intro x v F S h a ha; cases h; cases ha
  · intro xs ih v F S h a ha; cases h with | tup _ r => exact ih r a ha
  · intro o xs ih v F S h a ha
    cases h with
    | shr _ r => cases ha
    | mod _ r => cases ha
    | own e r =>
      rcases List.mem_cons.mp ha with rfl | ha
      · exact ⟨_, e⟩
      · exact ih r a ha
  · intro vs F S h a ha; cases h; cases ha
  · intro d ds i1 i2 vs F S h a ha
    cases h with
    | cons r t =>
      rcases List.mem_append.mp ha with ha | ha
      · exact i1 r a ha
      · exact i2 t a ha
theorem Reps.lstF : ∀ {ds : List D} {vs : List V} {F S : List Addr}, Reps K H vs ds F S → ∀ a ∈ F, IsLst H a
  | [], _, _, _, h, a, ha => by cases h; cases ha
  | _ :: _, _, _, _, h, a, ha => by
    cases h with
    | cons r t =>
      rcases List.mem_append.mp ha with ha | ha
      · exact r.lstF a ha
      · exact t.lstF a ha

/-- what stands is kept, but the lists at M -/
def Kept (H H' : Hp) (M : List Addr) : Prop := ∀ b o, H b = some o → b ∉ M → H' b = some o
theorem Kept.sqL {M : List Addr} {a : Addr} {xs : List V} (k : Kept H H' M) (h : Rd H a (.lst xs)) (n : a ∉ M) : Rd H' a (.lst xs) := by
  rcases h with h | ⟨o, h⟩
  · exact .inl (k _ _ h n)
  · exact .inr ⟨o, k _ _ h n⟩
theorem Kept.sqT {M : List Addr} {a : Addr} {xs : List V} (k : Kept H H' M) (m : ∀ b ∈ M, IsLst H b) (h : Rd H a (.tup xs)) : Rd H' a (.tup xs) := by
  rcases h with h | ⟨o, h⟩
  · refine .inl (k _ _ h fun z => ?_)
    obtain ⟨ys, e⟩ := m _ z
    rw [h] at e; cases e
  · refine .inr ⟨o, k _ _ h fun z => ?_⟩
    obtain ⟨ys, e⟩ := m _ z
    rw [h] at e; cases e
theorem Rep.kept {M : List Addr} (k : Kept H H' M) (m : ∀ b ∈ M, IsLst H b) : ∀ {d : D} {v : V} {F S : List Addr}, Rep K H v d F S → (∀ a ∈ F, a ∉ M) → (∀ a ∈ S, a ∉ M) → Rep K H' v d F S := by
  intro d
  apply D.rec (motive_1 := fun d => ∀ {v F S}, Rep K H v d F S → (∀ a ∈ F, a ∉ M) → (∀ a ∈ S, a ∉ M) → Rep K H' v d F S) (motive_2 := fun ds => ∀ {vs F S}, Reps K H vs ds F S → (∀ a ∈ F, a ∉ M) → (∀ a ∈ S, a ∉ M) → Reps K H' vs ds F S)
  · intro v F S h _ _; cases h; exact .non
  · intro b v F S h _ _; cases h; exact .bl b
  · intro i v F S h _ _; cases h; exact .int i
  · intro x v F S h _ _; cases h; exact .str x
  · intro xs ih v F S h hF hS; cases h with | tup e r => exact .tup (k.sqT m e) (ih r hF hS)
  · intro o xs ih v F S h hF hS
    cases h with
    | shr e r => exact .shr (k.sqL e (hS _ List.mem_cons_self)) (ih r hF fun a ha => hS a (List.mem_cons_of_mem _ ha))
    | mod e r => exact .mod e (ih r hF hS)
    | own e r => exact .own (k _ _ e (hF _ List.mem_cons_self)) (ih r (fun a ha => hF a (List.mem_cons_of_mem _ ha)) hS)
  · intro vs F S h _ _; cases h; exact .nil
  · intro d ds i1 i2 vs F S h hF hS
    cases h with
    | cons r t => exact .cons (i1 r (fun a ha => hF a (List.mem_append_left _ ha)) fun a ha => hS a (List.mem_append_left _ ha)) (i2 t (fun a ha => hF a (List.mem_append_right _ ha)) fun a ha => hS a (List.mem_append_right _ ha))
theorem Reps.kept {M : List Addr} (k : Kept H H' M) (m : ∀ b ∈ M, IsLst H b) : ∀ {ds : List D} {vs : List V} {F S : List Addr}, Reps K H vs ds F S → (∀ a ∈ F, a ∉ M) → (∀ a ∈ S, a ∉ M) → Reps K H' vs ds F S
  | [], _, _, _, h, _, _ => by cases h; exact .nil
  | _ :: _, _, _, _, h, hF, hS => by
    cases h with
    | cons r t => exact .cons (r.kept k m (fun a ha => hF a (List.mem_append_left _ ha)) fun a ha => hS a (List.mem_append_left _ ha)) (t.kept k m (fun a ha => hF a (List.mem_append_right _ ha)) fun a ha => hS a (List.mem_append_right _ ha))
theorem Kept.same (k : Same H H') : Kept H H' [] := fun b o e _ => k b o e
theorem Rep.same (k : Same H H') {d : D} {v : V} {F S : List Addr} (r : Rep K H v d F S) : Rep K H' v d F S := r.kept (Kept.same k) (fun _ z => nomatch z) (fun _ _ z => nomatch z) fun _ _ z => nomatch z
theorem Reps.same (k : Same H H') {ds : List D} {vs : List V} {F S : List Addr} (r : Reps K H vs ds F S) : Reps K H' vs ds F S := r.kept (Kept.same k) (fun _ z => nomatch z) (fun _ _ z => nomatch z) fun _ _ z => nomatch z

/-- what is of others stands -/
theorem Rep.thereS : ∀ {d : D} {v : V} {F S : List Addr}, Rep K H v d F S → ∀ a ∈ S, H a ≠ none := by
  intro d
  apply D.rec (motive_1 := fun d => ∀ {v F S}, Rep K H v d F S → ∀ a ∈ S, H a ≠ none) (motive_2 := fun ds => ∀ {vs F S}, Reps K H vs ds F S → ∀ a ∈ S, H a ≠ none)
  · intro v F S h a ha; cases h; cases ha
  · intro b v F S h a ha; cases h; cases ha
  · intro i v F S h a ha; cases h; cases ha
  · intro x v F S h a ha; cases h; cases ha
  · intro xs ih v F S h a ha; cases h with | tup _ r => exact ih r a ha
  · intro o xs ih v F S h a ha
    cases h with
    | shr e r =>
      rcases List.mem_cons.mp ha with rfl | ha
      · rcases e with e | ⟨o, e⟩ <;> (rw [e]; simp)
      · exact ih r a ha
    | mod e r => exact ih r a ha
    | own e r => exact ih r a ha
  · intro vs F S h a ha; cases h; cases ha
  · intro d ds i1 i2 vs F S h a ha
    cases h with
    | cons r t =>
      rcases List.mem_append.mp ha with ha | ha
      · exact i1 r a ha
      · exact i2 t a ha
theorem Reps.thereS : ∀ {ds : List D} {vs : List V} {F S : List Addr}, Reps K H vs ds F S → ∀ a ∈ S, H a ≠ none
  | [], _, _, _, h, a, ha => by cases h; cases ha
  | _ :: _, _, _, _, h, a, ha => by
    cases h with
    | cons r t =>
      rcases List.mem_append.mp ha with ha | ha
      · exact r.thereS a ha
      · exact t.thereS a ha
/-- given up -/
theorem Rep.shrd : ∀ {d : D} {v : V} {F S : List Addr}, Rep K H v d F S → ∃ S', Rep K H v d.shr [] S' ∧ ∀ a ∈ S', a ∈ F ∨ a ∈ S := by
  intro d
  apply D.rec (motive_1 := fun d => ∀ {v F S}, Rep K H v d F S → ∃ S', Rep K H v d.shr [] S' ∧ ∀ a ∈ S', a ∈ F ∨ a ∈ S) (motive_2 := fun ds => ∀ {vs F S}, Reps K H vs ds F S → ∃ S', Reps K H vs (shrL ds) [] S' ∧ ∀ a ∈ S', a ∈ F ∨ a ∈ S)
  · intro v F S h; cases h; exact ⟨[], .non, fun _ z => nomatch z⟩
  · intro b v F S h; cases h; exact ⟨[], .bl b, fun _ z => nomatch z⟩
  · intro i v F S h; cases h; exact ⟨[], .int i, fun _ z => nomatch z⟩
  · intro x v F S h; cases h; exact ⟨[], .str x, fun _ z => nomatch z⟩
  · intro xs ih v F S h
    cases h with
    | tup e r =>
      obtain ⟨S', r', q⟩ := ih r
      exact ⟨S', .tup e r', q⟩
  · intro o xs ih v F S h
    cases h with
    | shr e r =>
      obtain ⟨S', r', q⟩ := ih r
      refine ⟨_ :: S', .shr e r', fun a ha => ?_⟩
      rcases List.mem_cons.mp ha with rfl | ha
      · exact .inr List.mem_cons_self
      · rcases q a ha with z | z
        · cases z
        · exact .inr (List.mem_cons_of_mem _ z)
    | mod e r =>
      obtain ⟨S', r', q⟩ := ih r
      exact ⟨S', .mod e r', q⟩
    | own e r =>
      obtain ⟨S', r', q⟩ := ih r
      refine ⟨_ :: S', .shr (Rd.of e) r', fun a ha => ?_⟩
      rcases List.mem_cons.mp ha with rfl | ha
      · exact .inl List.mem_cons_self
      · rcases q a ha with z | z
        · exact .inl (List.mem_cons_of_mem _ z)
        · exact .inr z
  · intro vs F S h; cases h; exact ⟨[], .nil, fun _ z => nomatch z⟩
  · intro d ds i1 i2 vs F S h
    cases h with
    | cons r t =>
      obtain ⟨S1, r1, q1⟩ := i1 r
      obtain ⟨S2, r2, q2⟩ := i2 t
      refine ⟨S1 ++ S2, .cons (F := []) (F' := []) r1 r2, fun a ha => ?_⟩
      rcases List.mem_append.mp ha with ha | ha
      · rcases q1 a ha with z | z
        · exact .inl (List.mem_append_left _ z)
        · exact .inr (List.mem_append_left _ z)
      · rcases q2 a ha with z | z
        · exact .inl (List.mem_append_right _ z)
        · exact .inr (List.mem_append_right _ z)
theorem Reps.shrd : ∀ {ds : List D} {vs : List V} {F S : List Addr}, Reps K H vs ds F S → ∃ S', Reps K H vs (shrL ds) [] S' ∧ ∀ a ∈ S', a ∈ F ∨ a ∈ S
  | [], _, _, _, h => by cases h; exact ⟨[], .nil, fun _ z => nomatch z⟩
  | _ :: _, _, _, _, h => by
    cases h with
    | cons r t =>
      obtain ⟨S1, r1, q1⟩ := r.shrd
      obtain ⟨S2, r2, q2⟩ := t.shrd
      refine ⟨S1 ++ S2, .cons (F := []) (F' := []) r1 r2, fun a ha => ?_⟩
      rcases List.mem_append.mp ha with ha | ha
      · rcases q1 a ha with z | z
        · exact .inl (List.mem_append_left _ z)
        · exact .inr (List.mem_append_left _ z)
      · rcases q2 a ha with z | z
        · exact .inl (List.mem_append_right _ z)
        · exact .inr (List.mem_append_right _ z)
theorem Rep.un : ∀ {d : D} {v : V} {F S : List Addr}, Rep K H v d F S → d.un = true → F = [] := by
  intro d
  apply D.rec (motive_1 := fun d => ∀ {v F S}, Rep K H v d F S → d.un = true → F = []) (motive_2 := fun ds => ∀ {vs F S}, Reps K H vs ds F S → unL ds = true → F = [])
  · intro v F S h _; cases h; rfl
  · intro b v F S h _; cases h; rfl
  · intro i v F S h _; cases h; rfl
  · intro x v F S h _; cases h; rfl
  · intro xs ih v F S h u; cases h with | tup e r => exact ih r (by simpa [D.un] using u)
  · intro o xs ih v F S h u
    cases h with
    | shr e r => rfl
    | mod e r => rfl
    | own e r => simp [D.un] at u
  · intro vs F S h _; cases h; rfl
  · intro d ds i1 i2 vs F S h u
    simp only [unL, Bool.and_eq_true] at u
    cases h with | cons r t => rw [i1 r u.1, i2 t u.2]; rfl
theorem Reps.un : ∀ {ds : List D} {vs : List V} {F S : List Addr}, Reps K H vs ds F S → unL ds = true → F = []
  | [], _, _, _, h, _ => by cases h; rfl
  | _ :: _, _, _, _, h, u => by
    simp only [unL, Bool.and_eq_true] at u
    cases h with | cons r t => rw [r.un u.1, t.un u.2]; rfl
theorem Rep.ns : ∀ {d : D} {v : V} {F S : List Addr}, Rep K H v d F S → d.ns = true → S = [] := by
  intro d
  apply D.rec (motive_1 := fun d => ∀ {v F S}, Rep K H v d F S → d.ns = true → S = []) (motive_2 := fun ds => ∀ {vs F S}, Reps K H vs ds F S → nsL ds = true → S = [])
  · intro v F S h _; cases h; rfl
  · intro b v F S h _; cases h; rfl
  · intro i v F S h _; cases h; rfl
  · intro x v F S h _; cases h; rfl
  · intro xs ih v F S h u; cases h with | tup e r => exact ih r (by simpa [D.ns] using u)
  · intro o xs ih v F S h u
    cases h with
    | shr e r => simp [D.ns] at u
    | mod e r => simp [D.ns] at u
    | own e r => exact ih r (by simpa [D.ns] using u)
  · intro vs F S h _; cases h; rfl
  · intro d ds i1 i2 vs F S h u
    simp only [nsL, Bool.and_eq_true] at u
    cases h with | cons r t => rw [i1 r u.1, i2 t u.2]; rfl
mutual
theorem Rep.dp : ∀ {d : D} {v : V} {F S : List Addr}, Rep K H v d F S → Dp K H v d.py
  | .non, _, _, _, h => by cases h; exact .non
  | .bl b, _, _, _, h => by cases h; exact .bl b
  | .int i, _, _, _, h => by cases h; exact .int i
  | .str x, _, _, _, h => by cases h; exact .str x
  | .tup xs, _, _, _, h => by cases h with | tup e r => exact .tup (.inl e) r.dp
  | .lst o xs, _, _, _, h => by
    cases h with
    | shr e r => exact .lst (.inl e) r.dp
    | mod e r => exact .lst (.inr e) r.dp
    | own e r => exact .lst (SqL.of e) r.dp
theorem Reps.dp : ∀ {ds : List D} {vs : List V} {F S : List Addr}, Reps K H vs ds F S → DpAll K H vs (pyL ds)
  | [], _, _, _, h => by cases h; exact .nil
  | d :: ds, _, _, _, h => by cases h with | cons r t => exact .cons r.dp t.dp
end
/-- the item at a place -/
theorem Reps.get : ∀ {ds : List D} {vs : List V} {F S : List Addr} {j : Nat} {d : D}, Reps K H vs ds F S → ds[j]? = some d →
    ∃ v F1 S1, vs[j]? = some v ∧ Rep K H v d F1 S1 ∧ (∀ a ∈ F1, a ∈ F) ∧ (∀ a ∈ S1, a ∈ S) ∧ (F.Nodup → F1.Nodup)
  | [], _, _, _, j, d, h, e => by simp at e
  | d0 :: ds, _, _, _, 0, d, h, e => by
    cases h with
    | cons r t =>
      simp at e; subst e
      exact ⟨_, _, _, rfl, r, fun a ha => List.mem_append_left _ ha, fun a ha => List.mem_append_left _ ha, fun n => (List.nodup_append.mp n).1⟩
  | d0 :: ds, _, _, _, j + 1, d, h, e => by
    cases h with
    | cons r t =>
      obtain ⟨v, F1, S1, e1, r1, f1, s1, n1⟩ := t.get (j := j) (by simpa using e)
      exact ⟨v, F1, S1, by simpa using e1, r1, fun a ha => List.mem_append_right _ (f1 a ha), fun a ha => List.mem_append_right _ (s1 a ha), fun n => n1 (List.nodup_append.mp n).2.1⟩
/-- the item at a place, and what else there is -/
theorem Reps.split : ∀ {ds : List D} {vs : List V} {F S : List Addr} {j : Nat} {d : D}, Reps K H vs ds F S → ds[j]? = some d →
    ∃ v Fa F1 Fb Sa S1 Sb, vs[j]? = some v ∧ Rep K H v d F1 S1 ∧ F = Fa ++ (F1 ++ Fb) ∧ S = Sa ++ (S1 ++ Sb) ∧
      ∀ (H' : Hp) (M : List Addr) (v' : V) (d' : D) (F1' S1' : List Addr), Kept H H' M → (∀ b ∈ M, IsLst H b) → (∀ a ∈ Fa ++ Fb, a ∉ M) → (∀ a ∈ Sa ++ Sb, a ∉ M) → Rep K H' v' d' F1' S1' →
        Reps K H' (vs.set j v') (ds.set j d') (Fa ++ (F1' ++ Fb)) (Sa ++ (S1' ++ Sb))
  | [], _, _, _, j, d, h, e => by simp at e
  | d0 :: ds, _, _, _, 0, d, h, e => by
    cases h with
    | @cons v0 _ vs0 _ F0 S0 F2 S2 r t =>
      simp at e; subst e
      refine ⟨v0, [], F0, F2, [], S0, S2, rfl, r, rfl, rfl, fun H' M v' d' F1' S1' k m hF hS r' => ?_⟩
      show Reps K H' (v' :: vs0) (d' :: ds) (F1' ++ F2) (S1' ++ S2)
      exact .cons r' (t.kept k m (fun a ha => hF a (by simpa using ha)) fun a ha => hS a (by simpa using ha))
  | d0 :: ds, _, _, _, j + 1, d, h, e => by
    cases h with
    | @cons v0 _ vs0 _ F0 S0 F2 S2 r t =>
      obtain ⟨v, Fa, F1, Fb, Sa, S1, Sb, e1, r1, eF, eS, put⟩ := t.split (j := j) (by simpa using e)
      refine ⟨v, F0 ++ Fa, F1, Fb, S0 ++ Sa, S1, Sb, by simpa using e1, r1, by rw [eF]; simp, by rw [eS]; simp, fun H' M v' d' F1' S1' k m hF hS r' => ?_⟩
      have q := put H' M v' d' F1' S1' k m (fun a ha => hF a (by rcases List.mem_append.mp ha with z | z <;> simp [z])) (fun a ha => hS a (by rcases List.mem_append.mp ha with z | z <;> simp [z])) r'
      have r0 := r.kept k m (fun a ha => hF a (by simp [ha])) (fun a ha => hS a (by simp [ha]))
      have z := Reps.cons r0 q
      simpa [List.append_assoc] using z
end
end Sr
set_option Elab.async false
set_option linter.all false
set_option maxRecDepth 100000
/-! # Sr: what stands while a def runs -/
namespace Sr
open PySem L2

/-- the entry of a def: its heap, what it may change, what it may only read, the slots that stay -/
structure Bs where
  H0 : Hp
  F0 : List Addr
  S0 : List Addr
  pr : List (Nat × V)
/-- no list, no tuple is longer than the line -/
def SzOk (H : Hp) : Prop := ∀ a xs, Rd H a (.lst xs) ∨ Rd H a (.tup xs) → xs.length ≤ sizeLine
theorem rd_upd {H : Hp} {p a : Addr} {o u : HO} (h : Rd (upd H p o) a u) : (a = p ∧ (o = u ∨ ∃ ob, o = .frz ob u)) ∨ Rd H a u := by
  by_cases e : a = p
  · subst e
    rcases h with h | ⟨ob, h⟩
    · rw [upd_same] at h; cases h; exact .inl ⟨rfl, .inl rfl⟩
    · rw [upd_same] at h; cases h; exact .inl ⟨rfl, .inr ⟨ob, rfl⟩⟩
  · rcases h with h | ⟨ob, h⟩
    · rw [upd_ne e] at h; exact .inr (.inl h)
    · rw [upd_ne e] at h; exact .inr (.inr ⟨ob, h⟩)
theorem SzOk.lst {H : Hp} {p : Addr} {vs : List V} (s : SzOk H) (z : vs.length ≤ sizeLine) : SzOk (upd H p (.lst vs)) := fun a xs h => by
  rcases h with h | h <;> rcases rd_upd h with ⟨_, e | ⟨_, e⟩⟩ | h
  · cases e; exact z
  · cases e
  · exact s a xs (.inl h)
  · cases e
  · cases e
  · exact s a xs (.inr h)
theorem SzOk.tup {H : Hp} {p : Addr} {vs : List V} (s : SzOk H) (z : vs.length ≤ sizeLine) : SzOk (upd H p (.tup vs)) := fun a xs h => by
  rcases h with h | h <;> rcases rd_upd h with ⟨_, e | ⟨_, e⟩⟩ | h
  · cases e
  · cases e
  · exact s a xs (.inl h)
  · cases e; exact z
  · cases e
  · exact s a xs (.inr h)
structure Okk (B : Bs) (H : Hp) (F S : List Addr) : Prop where
  nd : F.Nodup
  dj : ∀ a ∈ F, a ∉ S
  fF : ∀ a ∈ F, a ∈ B.F0 ∨ B.H0 a = none
  fS : ∀ a ∈ S, a ∈ B.F0 ∨ a ∈ B.S0 ∨ B.H0 a = none
  kp : Kept B.H0 H B.F0
  sz : SzOk H
abbrev Rt := V × D
abbrev Rs (K : PySem.W.Frag) (H : Hp) (R : List Rt) (F S : List Addr) : Prop := Reps K H (R.map (·.1)) (R.map (·.2)) F S
def W (K : PySem.W.Frag) (B : Bs) (H : Hp) (R : List Rt) : Prop := ∃ F S, Rs K H R F S ∧ Okk B H F S

section
variable {K : PySem.W.Frag} {B : Bs} {H H' : Hp} {R R' : List Rt} {F S F' S' : List Addr}

theorem Okk.less (o : Okk B H F S) (hF : ∀ a ∈ F', a ∈ F) (nF : F'.Nodup) (hS : ∀ a ∈ S', a ∈ S) : Okk B H F' S' :=
  ⟨nF, fun a x y => o.dj a (hF a x) (hS a y), fun a x => o.fF a (hF a x), fun a x => o.fS a (hS a x), o.kp, o.sz⟩
theorem Okk.perm (o : Okk B H F S) (pF : F.Perm F') (pS : S.Perm S') : Okk B H F' S' :=
  o.less (fun a h => pF.mem_iff.mpr h) (pF.nodup_iff.mp o.nd) fun a h => pS.mem_iff.mpr h
theorem Rs.perm (p : R.Perm R') : ∀ {F S}, Rs K H R F S → ∃ F' S', Rs K H R' F' S' ∧ F.Perm F' ∧ S.Perm S' := by
  induction p with
  | nil => intro F S h; exact ⟨_, _, h, .refl _, .refl _⟩
  | cons x _ ih =>
    intro F S h
    cases h with
    | cons r t =>
      obtain ⟨F', S', h', p1, p2⟩ := ih t
      exact ⟨_, _, .cons r h', p1.append_left _, p2.append_left _⟩
  | swap x y l =>
    intro F S h
    cases h with
    | cons r t =>
      cases t with
      | cons r' t =>
        refine ⟨_, _, .cons r' (.cons r t), ?_, ?_⟩
        · exact List.perm_append_comm_assoc _ _ _
        · exact List.perm_append_comm_assoc _ _ _
  | trans _ _ i1 i2 =>
    intro F S h
    obtain ⟨F1, S1, h1, a1, b1⟩ := i1 h
    obtain ⟨F2, S2, h2, a2, b2⟩ := i2 h1
    exact ⟨F2, S2, h2, a1.trans a2, b1.trans b2⟩
theorem W.perm (p : R.Perm R') (w : W K B H R) : W K B H R' := by
  obtain ⟨F, S, h, o⟩ := w
  obtain ⟨F', S', h', p1, p2⟩ := Rs.perm p h
  exact ⟨F', S', h', o.perm p1 p2⟩
theorem W.drop {x : Rt} (w : W K B H (x :: R)) : W K B H R := by
  obtain ⟨F, S, h, o⟩ := w
  cases h with
  | cons r t => exact ⟨_, _, t, o.less (fun a h => List.mem_append_right _ h) (List.nodup_append.mp o.nd).2.1 fun a h => List.mem_append_right _ h⟩
theorem W.dropN : ∀ {R1 : List Rt}, W K B H (R1 ++ R) → W K B H R
  | [], w => w
  | _ :: R1, w => W.dropN (R1 := R1) w.drop
/-- the first one stands for another data, with less of ours -/
theorem W.headW {v v' : V} {d d' : D} (w : W K B H ((v, d) :: R)) (h : ∀ F S, Rep K H v d F S → F.Nodup → ∃ F' S', Rep K H v' d' F' S' ∧ (∀ a ∈ F', a ∈ F) ∧ F'.Nodup ∧ ∀ a ∈ S', a ∈ S ∨ (a ∈ F ∧ a ∉ F')) : W K B H ((v', d') :: R) := by
  obtain ⟨F, S, h0, o⟩ := w
  cases h0 with
  | @cons _ _ _ _ F1 S1 F2 S2 r t =>
    obtain ⟨n1, n2, n3⟩ := List.nodup_append.mp o.nd
    obtain ⟨F', S', r', hF, nF, hS⟩ := h _ _ r n1
    refine ⟨F' ++ F2, S' ++ S2, .cons r' t, ⟨?_, fun a ha hs => ?_, fun a ha => ?_, fun a ha => ?_, o.kp, o.sz⟩⟩
    · exact List.nodup_append.mpr ⟨nF, n2, fun a ha b hb => n3 a (hF a ha) b hb⟩
    · rcases List.mem_append.mp ha with z | z <;> rcases List.mem_append.mp hs with y | y
      · rcases hS a y with q | ⟨q1, q2⟩
        · exact o.dj a (List.mem_append_left _ (hF a z)) (List.mem_append_left _ q)
        · exact q2 z
      · exact o.dj a (List.mem_append_left _ (hF a z)) (List.mem_append_right _ y)
      · rcases hS a y with q | ⟨q1, q2⟩
        · exact o.dj a (List.mem_append_right _ z) (List.mem_append_left _ q)
        · exact n3 a q1 a z rfl
      · exact o.dj a (List.mem_append_right _ z) (List.mem_append_right _ y)
    · rcases List.mem_append.mp ha with z | z
      · exact o.fF a (List.mem_append_left _ (hF a z))
      · exact o.fF a (List.mem_append_right _ z)
    · rcases List.mem_append.mp ha with z | z
      · rcases hS a z with q | ⟨q, _⟩
        · exact o.fS a (List.mem_append_left _ q)
        · rcases o.fF a (List.mem_append_left _ q) with y | y
          · exact .inl y
          · exact .inr (.inr y)
      · exact o.fS a (List.mem_append_right _ z)
theorem W.shr {v : V} {d : D} (w : W K B H ((v, d) :: R)) : W K B H ((v, d.shr) :: R) := w.headW fun F S r n => by
  obtain ⟨S', r', q⟩ := r.shrd
  exact ⟨[], S', r', (fun _ z => nomatch z), List.nodup_nil, fun a ha => (q a ha).elim (fun z => .inr ⟨z, (fun y => nomatch y)⟩) .inl⟩
theorem W.dup {v : V} {d : D} (w : W K B H ((v, d) :: R)) (u : d.un = true) : W K B H ((v, d) :: (v, d) :: R) := by
  obtain ⟨F, S, h, o⟩ := w
  cases h with
  | cons r t =>
    have e := r.un u
    subst e
    refine ⟨_, _, .cons r (.cons r t), ?_⟩
    exact o.less (fun a h => h) o.nd fun a h => by
      rcases List.mem_append.mp h with z | z
      · exact List.mem_append_left _ z
      · exact z
theorem W.add {v : V} {d : D} (w : W K B H R) (r : Rep K H v d [] []) : W K B H ((v, d) :: R) := by
  obtain ⟨F, S, h, o⟩ := w
  exact ⟨_, _, .cons (F := []) (S := []) r h, o⟩
theorem W.int (w : W K B H R) (i : Int) : W K B H ((.int i, .int i) :: R) := w.add (.int i)
theorem W.bl (w : W K B H R) (b : Bool) : W K B H ((.bl b, .bl b) :: R) := w.add (.bl b)
/-- a new tuple of the first ones -/
theorem Reps.app : ∀ {ds : List D} {vs : List V} {F S : List Addr} {ds' : List D} {vs' : List V} {F' S' : List Addr}, Reps K H vs ds F S → Reps K H vs' ds' F' S' → Reps K H (vs ++ vs') (ds ++ ds') (F ++ F') (S ++ S')
  | [], _, _, _, _, _, _, _, h, h' => by cases h; exact h'
  | _ :: _, _, _, _, _, _, _, _, h, h' => by
    cases h with
    | cons r t =>
      have q := Reps.cons r (t.app h')
      simpa [List.append_assoc] using q
theorem Reps.unapp : ∀ {ds : List D} {vs : List V} {ds' : List D} {vs' : List V} {F S : List Addr}, Reps K H (vs ++ vs') (ds ++ ds') F S → vs.length = ds.length → ∃ F1 S1 F2 S2, Reps K H vs ds F1 S1 ∧ Reps K H vs' ds' F2 S2 ∧ F = F1 ++ F2 ∧ S = S1 ++ S2
  | [], [], _, _, F, S, h, _ => ⟨[], [], F, S, .nil, h, rfl, rfl⟩
  | [], _ :: _, _, _, _, _, _, e => by simp at e
  | _ :: _, [], _, _, _, _, _, e => by simp at e
  | _ :: _, _ :: _, _, _, _, _, h, e => by
    cases h with
    | cons r t =>
      obtain ⟨F1, S1, F2, S2, a, b, c, d⟩ := t.unapp (by simpa using e)
      exact ⟨_, _, F2, S2, .cons r a, b, by rw [c, List.append_assoc], by rw [d, List.append_assoc]⟩
theorem Same.new {p : Addr} {o : HO} (h : H p = none) : Same H (upd H p o) := fun b u e => by rw [upd_ne (ne_of_none e h)]; exact e
theorem Okk.fresh {p : Addr} (o : Okk B H F S) (h : H p = none) (nF : ∀ a ∈ F, IsLst H a) : p ∉ F := fun z => by
  obtain ⟨xs, e⟩ := nF p z
  rw [h] at e; cases e
/-- nothing of what was there ahead of the def is new -/
theorem Okk.old {p : Addr} (o : Okk B H F S) (h : H p = none) : B.H0 p = none ∨ p ∈ B.F0 := by
  cases e : B.H0 p with
  | none => exact .inl rfl
  | some u =>
    refine .inr ?_
    by_cases z : p ∈ B.F0
    · exact z
    · have q := o.kp p u e z
      rw [h] at q; cases q
theorem Okk.newT {p : Addr} {vs : List V} (o : Okk B H F S) (h : H p = none) (z : vs.length ≤ sizeLine) : Okk B (upd H p (.tup vs)) F S :=
  ⟨o.nd, o.dj, o.fF, o.fS, fun b u e n => Same.new h b u (o.kp b u e n), o.sz.tup z⟩
theorem W.tupV {vs : List V} {ds : List D} {p : Addr} (w : W K B H ((vs.zip ds) ++ R)) (l : vs.length = ds.length) (h : H p = none) (z : vs.length ≤ sizeLine) : W K B (upd H p (.tup vs)) ((.ref p, .tup ds) :: R) := by
  obtain ⟨F, S, r, o⟩ := w
  unfold Rs at r
  rw [List.map_append, List.map_append, List.map_fst_zip (by omega), List.map_snd_zip (by omega)] at r
  obtain ⟨F1, S1, F2, S2, a, b, c, d⟩ := r.unapp l
  have k := Same.new (o := .tup vs) h
  refine ⟨_, _, .cons (.tup (Rd.of upd_same) (a.same k)) (Reps.same k b), ?_⟩
  rw [← c, ← d]
  exact o.newT h z
theorem Okk.newL {p : Addr} {vs : List V} (o : Okk B H F S) (h : H p = none) (nF : ∀ a ∈ F, IsLst H a) (nS : p ∉ S) (z : vs.length ≤ sizeLine) : Okk B (upd H p (.lst vs)) (p :: F) S :=
  ⟨List.nodup_cons.mpr ⟨o.fresh h nF, o.nd⟩, fun a ha hs => by
      rcases List.mem_cons.mp ha with rfl | ha
      · exact nS hs
      · exact o.dj a ha hs, fun a ha => by
      rcases List.mem_cons.mp ha with rfl | ha
      · exact (o.old h).symm
      · exact o.fF a ha, o.fS, fun b u e n => Same.new h b u (o.kp b u e n), o.sz.lst z⟩
/-- a new list of the first ones -/
theorem W.lstV {vs : List V} {ds : List D} {p : Addr} (w : W K B H ((vs.zip ds) ++ R)) (l : vs.length = ds.length) (h : H p = none) (z : vs.length ≤ sizeLine) : W K B (upd H p (.lst vs)) ((.ref p, .lst true ds) :: R) := by
  obtain ⟨F, S, r, o⟩ := w
  have r0 := r
  unfold Rs at r
  rw [List.map_append, List.map_append, List.map_fst_zip (by omega), List.map_snd_zip (by omega)] at r
  obtain ⟨F1, S1, F2, S2, a, b, c, d⟩ := r.unapp l
  have k := Same.new (o := .lst vs) h
  refine ⟨_, _, .cons (.own upd_same (a.same k)) (Reps.same k b), ?_⟩
  have e : p :: F1 ++ F2 = p :: F := by rw [c]; rfl
  rw [e, ← d]
  exact o.newL h r0.lstF (fun y => r0.thereS p y h) z
end
end Sr
set_option Elab.async false
set_option linter.all false
set_option maxRecDepth 100000
/-! # Sr: the text that stands for a term; readings -/
namespace Sr
open PySem PySem.Spec PyProof.Rows L2

/-! ### slots -/
def er : List (Option V) → Env → List Rt
  | some v :: σ, some d :: e => (v, d) :: er σ e
  | _ :: σ, _ :: e => er σ e
  | _, _ => []
theorem at_iff {e : Env} {i : Nat} {d : D} : e.at i = some d ↔ e[i]? = some (some d) := by
  unfold Env.at
  cases h : e[i]? with
  | none => simp
  | some o => simp
theorem er_none : ∀ {σ : List (Option V)} {e : Env} {i : Nat} {x : Option V}, er (σ.set i x) (e.set i none) = er σ (e.set i none)
  | [], _, _, _ => by simp
  | _ :: _, [], _, _ => by simp [er]
  | a :: σ, b :: e, 0, x => by cases a <;> cases x <;> rfl
  | a :: σ, b :: e, i + 1, x => by
    have ih := er_none (σ := σ) (e := e) (i := i) (x := x)
    cases a <;> cases b <;> simp only [List.set_cons_succ, er, ih]
theorem er_take : ∀ {σ : List (Option V)} {e : Env} {i : Nat} {v : V} {d : D}, σ[i]? = some (some v) → e[i]? = some (some d) → (er σ e).Perm ((v, d) :: er σ (e.set i none))
  | [], _, _, _, _, h, _ => by simp at h
  | _ :: _, [], _, _, _, _, h => by simp at h
  | a :: σ, b :: e, 0, v, d, h1, h2 => by
    simp at h1 h2; subst h1; subst h2
    exact .refl _
  | a :: σ, b :: e, i + 1, v, d, h1, h2 => by
    have ih := er_take (σ := σ) (e := e) (i := i) (by simpa using h1) (by simpa using h2)
    cases a with
    | none => exact ih
    | some u =>
      cases b with
      | none => exact ih
      | some c => exact (ih.cons _).trans (.swap _ _ _)
theorem set_back {e : Env} {i : Nat} {d : D} (h : e[i]? = some none) : (e.set i (some d)).set i none = e := by
  rw [List.set_set]
  apply List.ext_getElem?
  intro j
  by_cases hj : i = j
  · subst hj
    obtain ⟨hl, _⟩ := List.getElem?_eq_some_iff.mp h
    rw [List.getElem?_set_self hl, h]
  · rw [List.getElem?_set_ne hj]

def Fit (σ : List (Option V)) (e : Env) : Prop := σ.length = e.length ∧ ∀ (i : Nat) (d : D), e[i]? = some (some d) → ∃ v, σ[i]? = some (some v)
structure Wd (K : PySem.W.Frag) (B : Bs) (σ : L2.St) (e : Env) (Γ : List Rt) (H : Hp) : Prop where
  fit : Fit σ e
  pr : ∀ p ∈ B.pr, σ[p.1]? = some (some p.2)
  w : W K B H (Γ ++ er σ e)
section
variable {K : PySem.W.Frag} {B : Bs} {σ : L2.St} {e : Env} {Γ Γ' : List Rt} {H H' : Hp}
theorem Fit.none (f : Fit σ e) (i : Nat) : Fit σ (e.set i none) := ⟨by rw [List.length_set]; exact f.1, fun j d h => by
  by_cases hj : i = j
  · subst hj
    by_cases hl : i < e.length
    · rw [List.getElem?_set_self hl] at h; cases h
    · rw [List.getElem?_eq_none (by rw [List.length_set]; omega)] at h; cases h
  · rw [List.getElem?_set_ne hj] at h; exact f.2 j d h⟩
theorem Fit.put {i : Nat} {v : V} {d : D} (f : Fit σ e) (h : σ[i]? = some (some v)) : Fit σ (e.set i (some d)) := ⟨by rw [List.length_set]; exact f.1, fun j d' h' => by
  by_cases hj : i = j
  · subst hj; exact ⟨v, h⟩
  · rw [List.getElem?_set_ne hj] at h'; exact f.2 j d' h'⟩
theorem Fit.asg {i : Nat} {v : V} {d : D} (f : Fit σ e) (hi : i < σ.length) : Fit (σ.set i (some v)) (e.set i (some d)) := ⟨by rw [List.length_set, List.length_set]; exact f.1, fun j d' h' => by
  by_cases hj : i = j
  · subst hj; exact ⟨v, List.getElem?_set_self hi⟩
  · rw [List.getElem?_set_ne hj] at h'
    rw [List.getElem?_set_ne hj]; exact f.2 j d' h'⟩
theorem Wd.read {i : Nat} {d : D} (w : Wd K B σ e Γ H) (h : e.at i = some d) : ∃ v, σ[i]? = some (some v) ∧ W K B H ((v, d) :: (Γ ++ er σ (e.set i none))) := by
  have h' := at_iff.mp h
  obtain ⟨v, hv⟩ := w.fit.2 i d h'
  exact ⟨v, hv, w.w.perm (((er_take hv h').append_left Γ).trans List.perm_middle)⟩
theorem Wd.move {i : Nat} {d : D} {v : V} (w : Wd K B σ e Γ H) (h : e.at i = some d) (hv : σ[i]? = some (some v)) : Wd K B σ (e.set i none) ((v, d) :: Γ) H := by
  have h' := at_iff.mp h
  exact ⟨w.fit.none i, w.pr, w.w.perm (((er_take hv h').append_left Γ).trans List.perm_middle)⟩
/-- what was taken out of a slot is put back -/
theorem Wd.put {i : Nat} {d : D} {v : V} (w : Wd K B σ e ((v, d) :: Γ) H) (h : e[i]? = some none) (hv : σ[i]? = some (some v)) : Wd K B σ (e.set i (some d)) Γ H := by
  refine ⟨w.fit.put hv, w.pr, w.w.perm ?_⟩
  have hl : i < e.length := (List.getElem?_eq_some_iff.mp h).1
  have q := er_take (e := e.set i (some d)) (d := d) hv (List.getElem?_set_self hl)
  rw [set_back h] at q
  exact (List.perm_middle.symm.trans (q.symm.append_left Γ))
theorem Wd.copy {i : Nat} {d : D} {v : V} (w : Wd K B σ e Γ H) (h : e.at i = some d) (hv : σ[i]? = some (some v)) (u : d.un = true) : Wd K B σ e ((v, d) :: Γ) H := by
  have h' := at_iff.mp h
  have m := w.move h hv
  have p := er_take hv h'
  refine ⟨w.fit, w.pr, ?_⟩
  have q : W K B H ((v, d) :: (v, d) :: (Γ ++ er σ (e.set i none))) := W.dup m.w u
  exact q.perm ((List.perm_middle.symm.trans (p.symm.append_left Γ)).cons _)
theorem Wd.asg {i : Nat} {d : D} {v : V} (w : Wd K B σ e ((v, d) :: Γ) H) (hi : i < σ.length) (hp : ∀ p ∈ B.pr, p.1 ≠ i) : Wd K B (σ.set i (some v)) (e.set i (some d)) Γ H := by
  have hl : i < e.length := by rw [← w.fit.1]; exact hi
  have w1 : Wd K B σ (e.set i none) ((v, d) :: Γ) H := by
    refine ⟨w.fit.none i, w.pr, ?_⟩
    have hw := w.w
    cases h : e[i]? with
    | none => rw [List.getElem?_eq_none_iff] at h; omega
    | some o =>
      cases o with
      | none =>
        have : e.set i none = e := by
          apply List.ext_getElem?
          intro j
          by_cases hj : i = j
          · subst hj; rw [List.getElem?_set_self hl, h]
          · rw [List.getElem?_set_ne hj]
        rw [this]; exact hw
      | some d' =>
        obtain ⟨v', hv'⟩ := w.fit.2 i d' h
        have q := hw.perm (((er_take hv' h).append_left _).trans List.perm_middle)
        exact q.drop
  have w2 : Wd K B (σ.set i (some v)) (e.set i none) ((v, d) :: Γ) H := by
    refine ⟨⟨by rw [List.length_set]; exact w1.fit.1, fun j d' h' => ?_⟩, fun p hp' => ?_, by rw [er_none]; exact w1.w⟩
    · by_cases hj : i = j
      · subst hj; exact ⟨v, List.getElem?_set_self hi⟩
      · rw [List.getElem?_set_ne hj]; exact w1.fit.2 j d' h'
    · rw [List.getElem?_set_ne (Ne.symm (hp p hp'))]; exact w.pr p hp'
  have q := w2.put (i := i) (by rw [List.getElem?_set_self hl]) (List.getElem?_set_self hi)
  rw [List.set_set] at q
  exact q
theorem Wd.kill1 (w : Wd K B σ e Γ H) (i : Nat) : Wd K B σ (e.set i none) Γ H := by
  cases h : e.at i with
  | none =>
    have : e.set i none = e := by
      apply List.ext_getElem?
      intro j
      by_cases hj : i = j
      · subst hj
        by_cases hl : i < e.length
        · rw [List.getElem?_set_self hl]
          unfold Env.at at h
          cases q : e[i]? with
          | none => rw [List.getElem?_eq_none_iff] at q; omega
          | some o => rw [q] at h; simp at h; rw [h]
        · rw [List.getElem?_eq_none (by rw [List.length_set]; omega), List.getElem?_eq_none (by omega)]
      · rw [List.getElem?_set_ne hj]
    rw [this]; exact w
  | some d =>
    obtain ⟨v, hv⟩ := w.fit.2 i d (at_iff.mp h)
    have m := w.move h hv
    exact ⟨m.fit, m.pr, m.w.drop⟩
theorem Wd.kill (w : Wd K B σ e Γ H) (ks : List Nat) : Wd K B σ (Sr.kill ks e) Γ H := by
  induction ks generalizing e with
  | nil => exact w
  | cons i r ih => exact ih (w.kill1 i)
theorem Wd.drop {x : Rt} (w : Wd K B σ e (x :: Γ) H) : Wd K B σ e Γ H := ⟨w.fit, w.pr, w.w.drop⟩
theorem Wd.shr {v : V} {d : D} (w : Wd K B σ e ((v, d) :: Γ) H) : Wd K B σ e ((v, d.shr) :: Γ) H := ⟨w.fit, w.pr, w.w.shr⟩
theorem Wd.swap {x y : Rt} (w : Wd K B σ e (x :: y :: Γ) H) : Wd K B σ e (y :: x :: Γ) H := ⟨w.fit, w.pr, w.w.perm (.swap _ _ _)⟩
theorem Wd.drop2 {x y : Rt} (w : Wd K B σ e (x :: y :: Γ) H) : Wd K B σ e (x :: Γ) H := w.swap.drop
theorem Wd.int (w : Wd K B σ e Γ H) (i : Int) : Wd K B σ e ((.int i, .int i) :: Γ) H := ⟨w.fit, w.pr, w.w.int i⟩
theorem Wd.bl (w : Wd K B σ e Γ H) (b : Bool) : Wd K B σ e ((.bl b, .bl b) :: Γ) H := ⟨w.fit, w.pr, w.w.bl b⟩
theorem Wd.head {v : V} {d : D} (w : Wd K B σ e ((v, d) :: Γ) H) : ∃ F S, Rep K H v d F S := by
  obtain ⟨F, S, r, _⟩ := w.w
  cases r with | cons r _ => exact ⟨_, _, r⟩
theorem Wd.headInt {v : V} {i : Int} (w : Wd K B σ e ((v, .int i) :: Γ) H) : v = .int i := by
  obtain ⟨F, S, r⟩ := w.head; cases r; rfl
theorem Wd.headBl {v : V} {b : Bool} (w : Wd K B σ e ((v, .bl b) :: Γ) H) : v = .bl b := by
  obtain ⟨F, S, r⟩ := w.head; cases r; rfl
end

/-! ### the text of a term -/
/-- the names of a def; the functions' names -/
structure Nm where
  N : List Str
  fn : Nat → Str
  nf : Nat
def visB (sc : Scope) (x : Str) : Bool := match sc.names.lookup x with
  | some .local => true
  | some .cell => true
  | some .free => true
  | _ => false
def glB (sc : Scope) (x : Str) : Bool := match sc.names.lookup x with
  | some .globalImplicit => true
  | _ => false
def bop : Bop → Operator → Bool
  | .add, .Add => true
  | .sub, .Sub => true
  | .mul, .Mult => true
  | .fdv, .FloorDiv => true
  | .mod, .Mod => true
  | .pow, .Pow => true
  | _, _ => false
def cop : Cop → CmpOp → Bool
  | .lt, .Lt => true
  | .le, .LtE => true
  | .gt, .Gt => true
  | .ge, .GtE => true
  | _, _ => false
def b1name : B1 → String
  | .len => "len"
  | .abs => "abs"
  | .int => "int"
  | .list => "list"
  | .tuple => "tuple"
  | .sum => "sum"
  | .minL => "min"
  | .maxL => "max"
  | .isInt => "isinstance"
  | .isBool => "isinstance"
  | .isList => "isinstance"
  | .isTuple => "isinstance"
  | .isStr => "isinstance"
  | .sorted => "sorted"
def b1ty : B1 → Option String
  | .isInt => some "int"
  | .isBool => some "bool"
  | .isList => some "list"
  | .isTuple => some "tuple"
  | .isStr => some "str"
  | _ => none
def bnname : BN → String
  | .min2 => "min"
  | .max2 => "max"
  | .max3 => "max"
/-- the name of a built-in stands there -/
def bltB (sc : Scope) (s : String) (x : Str) : Bool := decide (x = Str.ofString s) && glB sc x
def nameB (n : Nm) (sc : Scope) (i : Nat) (x : Str) : Bool := decide (n.N[i]? = some x) && visB sc x && !(x == ("__debug__" : Str)) && !(x == ("__classdict__" : Str))
/-- a name that is stored -/
def locB (sc : Scope) (x : Str) : Bool := match sc.names.lookup x with
  | some .local => true
  | some .cell => true
  | _ => false
def tgB (n : Nm) (sc : Scope) : List Nat → Expr → Bool
  | [i], .Name x _ => decide (n.N[i]? = some x) && locB sc x
  | [i, j], .Tuple [.Name x _, .Name y _] _ _ => decide (n.N[i]? = some x) && locB sc x && decide (n.N[j]? = some y) && locB sc y
  | [i, j, k], .Tuple [.Name x _, .Name y _, .Name z _] _ _ => decide (n.N[i]? = some x) && locB sc x && decide (n.N[j]? = some y) && locB sc y && decide (n.N[k]? = some z) && locB sc z
  | _, _ => false
/-- the names of the targets, with their slots -/
def ownOf (n : Nm) (tg : List Nat) : List (Str × Nat) := tg.filterMap fun i => (n.N[i]?).map fun x => (x, i)
/-- a call of a name without keywords -/
def asCall : Expr → Option (Str × List Expr)
  | .Call (.Name x _) es [] _ => some (x, es)
  | _ => none
theorem asCall_of {e : Expr} {x : Str} {es : List Expr} (h : asCall e = some (x, es)) : ∃ p pos, e = .Call (.Name x p) es [] pos := by
  unfold asCall at h
  split at h
  · cases h; exact ⟨_, _, rfl⟩
  · cases h
def asInt : Expr → Option Int
  | .Constant (.int i) _ _ => some i
  | _ => none
theorem asInt_of {e : Expr} {i : Int} (h : asInt e = some i) : ∃ k p, e = .Constant (.int i) k p := by
  unfold asInt at h
  split at h
  · cases h; exact ⟨_, _, rfl⟩
  · cases h
def okTg : T → List Nat → Bool
  | .zip _ _, tg => decide (tg.length = 2)
  | _, _ => true
mutual
def chkE (n : Nm) : Scope → T → Expr → Bool
  | sc, .v i, .Name x _ => nameB n sc i x
  | sc, .w i, .Name x _ => nameB n sc i x
  | _, .non, .Constant .none _ _ => true
  | _, .bl b, .Constant (.bool c) _ _ => b == c
  | _, .int i, .Constant (.int j) _ _ => decide (i = j)
  | _, .str x, .Constant (.str y) _ _ => decide (x = y)
  | sc, .frz a, e => chkE n sc a e
  | sc, .bin o a b, .BinOp e p f _ => bop o p && chkE n sc a e && chkE n sc b f
  | sc, .neg a, .UnaryOp .USub e _ => chkE n sc a e
  | sc, .cmp o a b, .Compare e [p] [f] _ => cop o p && chkE n sc a e && chkE n sc b f
  | sc, .eq a b, .Compare e [.Eq] [f] _ => chkE n sc a e && chkE n sc b f
  | sc, .ne a b, .Compare e [.NotEq] [f] _ => chkE n sc a e && chkE n sc b f
  | sc, .inn a b, .Compare e [.In] [f] _ => !behindInMarks .In f && chkE n sc a e && chkE n sc b f
  | sc, .nin a b, .Compare e [.NotIn] [f] _ => !behindInMarks .NotIn f && chkE n sc a e && chkE n sc b f
  | sc, .isN a, .Compare e [.Is] [.Constant .none _ _] _ => chkE n sc a e
  | sc, .nisN a, .Compare e [.IsNot] [.Constant .none _ _] _ => chkE n sc a e
  | sc, .chain o o' a b c, .Compare e [p, q] [f, g] _ => cop o p && cop o' q && chkE n sc a e && chkE n sc b f && chkE n sc c g
  | sc, .and a b, .BoolOp .And (e :: f :: r) pos => chkE n sc a e && (match r with
    | [] => chkE n sc b f
    | _ => chkE n sc b (.BoolOp .And (f :: r) pos))
  | sc, .or a b, .BoolOp .Or (e :: f :: r) pos => chkE n sc a e && (match r with
    | [] => chkE n sc b f
    | _ => chkE n sc b (.BoolOp .Or (f :: r) pos))
  | sc, .not a, .UnaryOp .Not e _ => chkE n sc a e
  | sc, .ife c a b, .IfExp g e f _ => chkE n sc c g && chkE n sc a e && chkE n sc b f
  | sc, .tup a, .Tuple es _ _ => chkL n sc a es
  | sc, .lst a, .List es _ => chkL n sc a es
  | sc, .ix a b, .Subscript e f _ => chkE n sc a e && chkE n sc b f
  | sc, .sl a lo hi, .Subscript e (.Slice l h none _) _ => chkE n sc a e && (match l with
    | none => (match lo with | .nil => true | _ => false)
    | some f => chkE n sc lo f) && (match h with
    | none => (match hi with | .nil => true | _ => false)
    | some f => chkE n sc hi f)
  | sc, .call f a, .Call (.Name x _) es [] _ => decide (x = n.fn f) && decide (f < n.nf) && glB sc x && !(x == ("__debug__" : Str)) && chkL n sc a es
  | sc, .b1 k a, .Call (.Name x _) es [] _ => bltB sc (b1name k) x && (match b1ty k, es with
    | none, [e] => chkE n sc a e
    | some s, [e, .Name y _] => bltB sc s y && chkE n sc a e
    | _, _ => false)
  | sc, .bn k a, .Call (.Name x _) es [] _ => bltB sc (bnname k) x && chkL n sc a es
  | sc, .lc tg it c el, .ListComp e [⟨g, i, fs, as⟩] scope _ => decide (as = 0) && chkI n sc it i && tgB n scope tg g && okTg it tg && blkC n.N sc scope (ownOf n tg) && (match fs with
      | [] => (match c with | .bl true => true | _ => false)
      | [f] => chkE n (relS scope sc) c f
      | _ => false) && chkE n (relS scope sc) el e
  | _, _, _ => false
def chkL (n : Nm) : Scope → T → List Expr → Bool
  | _, .nil, [] => true
  | sc, .cons a r, e :: es => chkE n sc a e && chkL n sc r es
  | _, _, _ => false
def chkI (n : Nm) : Scope → T → Expr → Bool
  | sc, .rng1 a, e => match asCall e with
    | some (x, [y]) => bltB sc "range" x && chkE n sc a y
    | _ => false
  | sc, .rng2 a b, e => match asCall e with
    | some (x, [y, z]) => bltB sc "range" x && chkE n sc a y && chkE n sc b z
    | _ => false
  | sc, .rng3 a b c, e => match asCall e with
    | some (x, [y, z, u]) => bltB sc "range" x && chkE n sc a y && chkE n sc b z && decide (asInt u = some c)
    | _ => false
  | sc, .zip a b, e => match asCall e with
    | some (x, [y, z]) => bltB sc "zip" x && chkE n sc a y && chkE n sc b z
    | _ => false
  | sc, .itr a, e => chkE n sc a e
  | _, _, _ => false
end
end Sr
set_option Elab.async false
set_option linter.all false
set_option maxRecDepth 100000
set_option maxHeartbeats 1000000
/-! # Sr: what is read without a change -/
namespace Sr
open PySem PySem.Spec PyProof.Rows L2

/-! ### shapes -/
def plE : Expr → Bool
  | .Starred .. => false
  | .Slice .. => false
  | .Set .. => false
  | _ => true
section
variable {n : Nm}
theorem chk_star {a p} : ∀ {t sc}, chkE n sc t (.Starred a p) = false := by
  intro t
  induction t with
  | frz a ih => intro sc; rw [chkE]; exact ih
  | _ => intro sc; first | rfl | (rw [chkE]; done) | simp [chkE]
theorem chk_slice {a b c p} : ∀ {t sc}, chkE n sc t (.Slice a b c p) = false := by
  intro t
  induction t with
  | frz a ih => intro sc; rw [chkE]; exact ih
  | _ => intro sc; first | rfl | (rw [chkE]; done) | simp [chkE]
theorem chk_set {a b p} : ∀ {t sc}, chkE n sc t (.Set a b p) = false := by
  intro t
  induction t with
  | frz a ih => intro sc; rw [chkE]; exact ih
  | _ => intro sc; first | rfl | (rw [chkE]; done) | simp [chkE]
theorem chk_pl {t sc e} (h : chkE n sc t e = true) : plE e = true := by
  cases e <;> first | rfl | (rw [chk_star] at h; cases h) | (rw [chk_slice] at h; cases h) | (rw [chk_set] at h; cases h)
end
theorem star_pl {e : Expr} {es : List Expr} {env : PySem.Env} (h : plE e = true) : starEach (e :: es) env = (false, eval e env) :: starEach es env := by
  cases e <;> first | rfl | cases h
theorem plainIx_pl {e : Expr} (h : plE e = true) : PlainIx e := by
  intro o i
  cases e <;> first | rfl | cases h
theorem nomarkE (b : Expr) {op : CmpOp} (h : op ≠ .In) (h2 : op ≠ .NotIn) : behindInMarks op b = false := nobehind b h h2

/-! ### where a def's body stands -/
def bltNames : List Str := ["len", "abs", "int", "list", "tuple", "sum", "min", "max", "isinstance", "sorted", "range", "zip", "bool", "str"]
/-- the promise of a function -/
def spOf (K : PySem.W.Frag) (Φ : Fs) (f : Nat) : Sp := fun vs H Q _ => ∃ (ds : List D) (r : D) (os : List (Option D)) (F S : List Addr),
  vs.length = (Φ.io f).length ∧ Reps K H vs ds F S ∧ Okk ⟨H, F, S, []⟩ H F S ∧ Φ.run f ds = some (r, os) ∧
  ∀ v H', W K ⟨H, F, S, []⟩ H' ((v, r) :: er (vs.map some) os) → Q v H'
structure OkX (Φ : Fs) (k : Nat) (n : Nm) (X : Cx) (sc : Scope) : Prop where
  N : X.N = n.N
  nd : X.N.Nodup
  sc : X.env.scope = sc
  calm : X.calm = true
  xe : X.xe = fun _ _ => False
  lv : Room k X.A
  lv0 : Room 0 X.A
  bt : ∀ x ∈ bltNames, X.mg x = none
  fns : ∀ f, f < n.nf → ∃ A fd ps, X.mg (n.fn f) = some (.ref A) ∧ PySem.W.keepIn X.K (.ref A) = true ∧ Binds X.K fd ps [] ∧ FnOk X.prog X.w X.K X.mg X.base CX0 k A fd ps (spOf X.K Φ f)

section
variable {Φ : Fs} {k : Nat} {n : Nm} {X : Cx} {sc : Scope}
theorem OkX.vis (O : OkX Φ k n X sc) {x : Str} (h : visB sc x = true) : Vis X.env.scope x := by
  rw [O.sc]
  unfold visB at h
  split at h
  · exact .inl (by assumption)
  · exact .inr (.inl (by assumption))
  · exact .inr (.inr (by assumption))
  · cases h
theorem OkX.gl (O : OkX Φ k n X sc) {x : Str} (h : glB sc x = true) : Gl X x := by
  show X.env.scope.names.lookup x = _
  rw [O.sc]
  unfold glB at h
  split at h
  · assumption
  · cases h
theorem nameB_iff {i : Nat} {x : Str} (h : nameB n sc i x = true) : n.N[i]? = some x ∧ visB sc x = true ∧ (x == ("__debug__" : Str)) = false ∧ (x == ("__classdict__" : Str)) = false := by
  unfold nameB at h
  simp only [Bool.and_eq_true, Bool.not_eq_true', decide_eq_true_eq] at h
  exact ⟨h.1.1.1, h.1.1.2, h.1.2, h.2⟩
theorem OkX.name (O : OkX Φ k n X sc) {i : Nat} {x : Str} {pos : Pos} (h : nameB n sc i x = true) : PE X (.Name x pos) (tVar i) := by
  obtain ⟨a, b, c, d⟩ := nameB_iff h
  exact pe_var (by rw [O.N]; exact a) (O.vis b) c d
theorem bltB_iff {s : String} {x : Str} (h : bltB sc s x = true) : x = Str.ofString s ∧ glB sc x = true := by
  unfold bltB at h
  simp only [Bool.and_eq_true, decide_eq_true_eq] at h
  exact h
theorem _root_.L2.PE.imp {e : Expr} {t t' : TE} (h : PE X e t) (i : ∀ σ H Q, t' σ H Q → t σ H Q) : PE X e t' := ⟨fun pins s σ H Q I q => h.run pins s σ H Q I (i σ H Q q)⟩
theorem _root_.L2.PT.imp {e : Expr} {t t' : TT} (h : PT X e t) (i : ∀ σ H Q, t' σ H Q → t σ H Q) : PT X e t' := ⟨fun pins s σ H Q I q => h.run pins s σ H Q I (i σ H Q q)⟩
theorem _root_.L2.PA.imp {e : List Expr} {t t' : TA} (h : PA X e t) (i : ∀ σ H Q, t' σ H Q → t σ H Q) : PA X e t' := ⟨fun p pins s σ H Q I q => h.run p pins s σ H Q I (i σ H Q q)⟩
theorem _root_.L2.PI.imp {tg e : Expr} {t t' : TI} (h : PI X tg e t) (i : ∀ σ H R, t' σ H R → t σ H R) : PI X tg e t' := ⟨fun pins s σ H R I q => h.run pins s σ H R I (i σ H R q)⟩
theorem _root_.L2.PS.imp {e : Stmt} {t t' : TS} (h : PS X e t) (i : ∀ D σ H, t' D σ H → t D σ H) : PS X e t' := ⟨fun pins s σ H D I q => h.run pins s σ H D I (i D σ H q)⟩
theorem _root_.L2.PSs.imp {e : List Stmt} {t t' : TS} (h : PSs X e t) (i : ∀ D σ H, t' D σ H → t D σ H) : PSs X e t' := ⟨fun pins s σ H D I q => h.run pins s σ H D I (i D σ H q)⟩
end

/-! ### the operators on ints -/
theorem op_fdv {X : Cx} : OpR X (binaryOp .FloorDiv) (rI (fun _ j => j ≠ 0 ∧ j.natAbs.log2 < 9000) fun i j => .int (i.fdiv j)) := opI fun i j _ _ _ _ _ hc q => floordiv_int hc.1 q (.inl (PyProof.noPylong_of_log2 hc.2))
theorem op_mulF {X : Cx} : OpR X (binaryOp .Mult) (rI (fun i j => IntMulOk i j) fun i j => .int (i * j)) := opI fun _ _ _ _ _ _ _ hc q => mul_int q hc
/-- the operator on two ints -/
def rBin (o : Bop) : R2 := fun x y H Q => ∃ i j r, x = .int i ∧ y = .int j ∧ binI o i j = some r ∧ Q (.int r) H
theorem op_bin {X : Cx} {o : Bop} {p : Operator} (h : bop o p = true) : OpR X (binaryOp p) (rBin o) := by
  intro pins s σ H x y v u Q I rx ry q
  obtain ⟨i, j, r, ex, ey, e, q⟩ := q
  cases o <;> cases p <;> first | cases h | skip
  · exact op_add pins s σ H x y v u Q I rx ry ⟨i, j, ex, ey, by cases e; exact q⟩
  · exact op_sub pins s σ H x y v u Q I rx ry ⟨i, j, ex, ey, by cases e; exact q⟩
  · simp only [binI] at e
    split at e
    · rename_i hm
      cases e
      exact op_mulF pins s σ H x y v u Q I rx ry ⟨i, j, ex, ey, hm, q⟩
    · cases e
  · simp only [binI] at e
    split at e
    · rename_i hm
      cases e
      exact op_fdv pins s σ H x y v u Q I rx ry ⟨i, j, ex, ey, hm, q⟩
    · cases e
  · simp only [binI] at e
    split at e
    · cases e
    · rename_i hm
      cases e
      exact op_modN pins s σ H x y v u Q I rx ry ⟨i, j, ex, ey, hm, q⟩
  · simp only [binI] at e
    split at e
    · rename_i hm
      cases e
      exact op_pow pins s σ H x y v u Q I rx ry ⟨i, j, ex, ey, hm, q⟩
    · cases e
def rCmp (o : Cop) : R2 := fun x y H Q => ∃ i j, x = .int i ∧ y = .int j ∧ Q (.bl (cmpI o i j)) H
theorem op_cmp {X : Cx} {o : Cop} {p : CmpOp} (h : cop o p = true) : OpR X (compareOp p) (rCmp o) := by
  intro pins s σ H x y v u Q I rx ry q
  obtain ⟨i, j, ex, ey, q⟩ := q
  cases o <;> cases p <;> first | cases h | skip
  · exact op_lt pins s σ H x y v u Q I rx ry ⟨i, j, ex, ey, q⟩
  · exact op_le pins s σ H x y v u Q I rx ry ⟨i, j, ex, ey, q⟩
  · exact op_gt pins s σ H x y v u Q I rx ry ⟨i, j, ex, ey, q⟩
  · exact op_ge pins s σ H x y v u Q I rx ry ⟨i, j, ex, ey, q⟩
theorem cop_mark {o : Cop} {p : CmpOp} (h : cop o p = true) (b : Expr) : behindInMarks p b = false := by
  cases o <;> cases p <;> first | exact absurd h (by decide) | exact nobehind b (by decide) (by decide)

/-! ### what is read without a change -/
/-- v stands for d, as a part of what there is -/
structure Brw (K : PySem.W.Frag) (B : Bs) (H : Hp) (R : List Rt) (v : V) (d : D) : Prop where
  ex : ∃ F S F1 S1, Rs K H R F S ∧ Okk B H F S ∧ Rep K H v d F1 S1 ∧ (∀ a ∈ F1, a ∈ F) ∧ (∀ a ∈ S1, a ∈ S) ∧ F1.Nodup
def tP (K : PySem.W.Frag) (t : T) : TE := fun σ H Q => ∃ B e Γ d, Wd K B σ e Γ H ∧ evP t e = some d ∧ ∀ v, Brw K B H (Γ ++ er σ e) v d → Q v H
section
variable {K : PySem.W.Frag} {B : Bs} {H : Hp} {R : List Rt} {v : V} {d : D}
theorem Brw.flat {v : V} {d : D} (w : W K B H R) (r : Rep K H v d [] []) : Brw K B H R v d := by
  obtain ⟨F, S, h, o⟩ := w
  exact ⟨F, S, [], [], h, o, r, (fun _ z => nomatch z), (fun _ z => nomatch z), List.nodup_nil⟩
theorem Brw.int {v : V} {i : Int} (b : Brw K B H R v (.int i)) : v = .int i := by
  obtain ⟨F, S, F1, S1, h, o, r, _⟩ := b.ex
  cases r; rfl
theorem Brw.rep (b : Brw K B H R v d) : ∃ F S, Rep K H v d F S := by
  obtain ⟨F, S, F1, S1, h, o, r, _⟩ := b.ex
  exact ⟨_, _, r⟩
theorem Brw.un (b : Brw K B H R v d) (u : d.un = true) : W K B H ((v, d) :: R) := by
  obtain ⟨F, S, F1, S1, h, o, r, f, s, nn⟩ := b.ex
  have e := r.un u
  subst e
  exact ⟨_, _, .cons r h, o.less (fun a z => z) o.nd fun a z => (List.mem_append.mp z).elim (s a) id⟩
theorem atI_of {α : Type} {xs : List α} {k : Int} {x : α} (h : atI xs k = some x) : ∃ j, ixN xs.length k = some j ∧ xs[j]? = some x := by
  unfold atI at h
  cases e : ixN xs.length k with
  | none => rw [e] at h; cases h
  | some j => rw [e] at h; exact ⟨j, rfl, h⟩
/-- the items of a list or a tuple -/
theorem Rep.items {F S : List Addr} {xs : List D} (r : Rep K H v d F S) (h : items d = some xs) : ∃ a vs F1 S1, v = .ref a ∧ (SqL K H a vs ∨ SqT K H a vs) ∧ Reps K H vs xs F1 S1 ∧ (∀ b ∈ F1, b ∈ F) ∧ (∀ b ∈ S1, b ∈ S) ∧ (F.Nodup → F1.Nodup) := by
  cases d with
  | tup ys =>
    cases h
    cases r with | tup e r => exact ⟨_, _, _, _, rfl, .inr (.inl e), r, fun _ z => z, fun _ z => z, id⟩
  | lst o ys =>
    cases h
    cases r with
    | mod e r => exact ⟨_, _, _, _, rfl, .inl (.inr e), r, fun _ z => z, fun _ z => z, fun _ => List.nodup_nil⟩
    | shr e r => exact ⟨_, _, _, _, rfl, .inl (.inl e), r, fun _ z => z, fun _ z => List.mem_cons_of_mem _ z, fun _ => List.nodup_nil⟩
    | own e r => exact ⟨_, _, _, _, rfl, .inl (SqL.of e), r, fun _ z => List.mem_cons_of_mem _ z, fun _ z => z, fun n => (List.nodup_cons.mp n).2⟩
  | _ => cases h
theorem Brw.item {k : Int} {x : D} (b : Brw K B H R v d) (h : atD d k = some x) : ∃ a vs u, v = .ref a ∧ (SqL K H a vs ∨ SqT K H a vs) ∧ atI vs k = some u ∧ Brw K B H R u x := by
  obtain ⟨F, S, F1, S1, h0, o, r, f, s, nn⟩ := b.ex
  unfold atD at h
  cases e : Sr.items d with
  | none => rw [e] at h; cases h
  | some xs =>
    rw [e] at h
    obtain ⟨a, vs, F2, S2, ev, q, rs, f2, s2, n2⟩ := r.items e
    obtain ⟨j, hj, hx⟩ := atI_of h
    obtain ⟨u, F3, S3, hu, r3, f3, s3, n3⟩ := rs.get hx
    refine ⟨a, vs, u, ev, q, ?_, ⟨F, S, F3, S3, h0, o, r3, fun z y => f z (f2 z (f3 z y)), fun z y => s z (s2 z (s3 z y)), n3 (n2 nn)⟩⟩
    unfold atI
    rw [rs.len, hj]
    exact hu
end
/-- an item by its place: a list's or a tuple's -/
theorem ix_seqV {X : Cx} : IxR X (fun x y H Q => ∃ p xs i v, x = .ref p ∧ y = .int i ∧ (SqL X.K H p xs ∨ SqT X.K H p xs) ∧ atI xs i = some v ∧ Q v H) := by
  intro value slice pins s σ H x y v u Q I rx ry h hs
  obtain ⟨p, xs, i, z, ex, ey, q, hz, hq⟩ := h
  rcases q with q | q
  · exact ix_list value slice pins s σ H x y v u Q I rx ry ⟨p, xs, i, z, ex, ey, q, hz, hq⟩ hs
  · exact ix_tup value slice pins s σ H x y v u Q I rx ry ⟨p, xs, i, z, ex, ey, q, hz, hq⟩ hs
section
variable {Φ : Fs} {k : Nat} {n : Nm} {X : Cx} {sc : Scope}
theorem OkX.blt (O : OkX Φ k n X sc) {x : Str} (h : x ∈ bltNames) : X.mg x = none := O.bt x h
theorem evP_ok : ∀ {t : T} {e : Expr}, OkX Φ k n X sc → isP t = true → chkE n sc t e = true → PE X e (tP X.K t) := by
  intro t
  induction t with
  | v i =>
    intro e O _ h
    cases e <;> try (simp [chkE] at h; done)
    rw [chkE] at h
    refine (O.name h).imp fun σ H Q q => ?_
    obtain ⟨B, env, Γ, d, w, hd, q⟩ := q
    rw [evP] at hd
    obtain ⟨v, hv, _⟩ := w.read hd
    refine ⟨v, hv, q v ?_⟩
    obtain ⟨F, S, r, o⟩ := w.w
    have p := ((er_take hv (at_iff.mp hd)).append_left Γ).trans List.perm_middle
    obtain ⟨F', S', r', p1, p2⟩ := Rs.perm p r
    cases r' with
    | cons r1 r2 => exact ⟨F, S, _, _, r, o, r1, fun a z => p1.mem_iff.mpr (List.mem_append_left _ z), fun a z => p2.mem_iff.mpr (List.mem_append_left _ z), (List.nodup_append.mp (p1.nodup_iff.mp o.nd)).1⟩
  | non =>
    intro e O _ h
    cases e <;> try (simp [chkE] at h; done)
    rename_i c _ _
    cases c <;> try (simp [chkE] at h; done)
    refine pe_non.imp fun σ H Q q => ?_
    obtain ⟨B, env, Γ, d, w, hd, q⟩ := q
    cases hd
    exact q _ (.flat w.w .non)
  | bl b =>
    intro e O _ h
    cases e <;> try (simp [chkE] at h; done)
    rename_i c _ _
    cases c <;> try (simp [chkE] at h; done)
    rw [chkE, beq_iff_eq] at h
    subst h
    refine pe_bl.imp fun σ H Q q => ?_
    obtain ⟨B, env, Γ, d, w, hd, q⟩ := q
    cases hd
    exact q _ (.flat w.w (.bl _))
  | int i =>
    intro e O _ h
    cases e <;> try (simp [chkE] at h; done)
    rename_i c _ _
    cases c <;> try (simp [chkE] at h; done)
    rw [chkE, decide_eq_true_eq] at h
    subst h
    refine pe_int.imp fun σ H Q q => ?_
    obtain ⟨B, env, Γ, d, w, hd, q⟩ := q
    cases hd
    exact q _ (.flat w.w (.int _))
  | str x =>
    intro e O _ h
    cases e <;> try (simp [chkE] at h; done)
    rename_i c _ _
    cases c <;> try (simp [chkE] at h; done)
    rw [chkE, decide_eq_true_eq] at h
    subst h
    refine pe_str.imp fun σ H Q q => ?_
    obtain ⟨B, env, Γ, d, w, hd, q⟩ := q
    cases hd
    exact q _ (.flat w.w (.str _))
  | bin o a b iha ihb =>
    intro e O p h
    simp only [isP, Bool.and_eq_true] at p
    cases e <;> try (simp [chkE] at h; done)
    simp only [chkE, Bool.and_eq_true] at h
    refine (pe_op (op_bin h.1.1) (iha O p.1 h.1.2) (ihb O p.2 h.2)).imp fun σ H Q q => ?_
    obtain ⟨B, env, Γ, d, w, hd, q⟩ := q
    rw [evP] at hd
    split at hd
    · rename_i i j ha hb
      refine ⟨B, env, Γ, _, w, ha, fun v bv => ⟨B, env, Γ, _, w, hb, fun u bu => ?_⟩⟩
      rw [bv.int, bu.int]
      cases hr : binI o i j with
      | none => rw [hr] at hd; cases hd
      | some r =>
        rw [hr] at hd; cases hd
        exact ⟨i, j, r, rfl, rfl, hr, q _ (.flat w.w (.int _))⟩
    · cases hd
  | neg a iha =>
    intro e O p h
    simp only [isP] at p
    cases e <;> try (simp [chkE] at h; done)
    rename_i uo x _
    cases uo <;> try (simp [chkE] at h; done)
    simp only [chkE] at h
    refine (pe_un un_neg (iha O p h)).imp fun σ H Q q => ?_
    obtain ⟨B, env, Γ, d, w, hd, q⟩ := q
    rw [evP] at hd
    split at hd
    · rename_i i ha
      refine ⟨B, env, Γ, _, w, ha, fun v bv => ?_⟩
      rw [bv.int]
      cases hd
      exact ⟨i, rfl, q _ (.flat w.w (.int _))⟩
    · cases hd
  | ix a b iha ihb =>
    intro e O p h
    simp only [isP, Bool.and_eq_true] at p
    cases e <;> try (simp [chkE] at h; done)
    simp only [chkE, Bool.and_eq_true] at h
    refine (pe_ix ix_seqV (iha O p.1 h.1) (ihb O p.2 h.2) (plainIx_pl (chk_pl h.2))).imp fun σ H Q q => ?_
    obtain ⟨B, env, Γ, d, w, hd, q⟩ := q
    rw [evP] at hd
    split at hd
    · rename_i x kk ha hb
      refine ⟨B, env, Γ, _, w, ha, fun v bv => ⟨B, env, Γ, _, w, hb, fun u bu => ?_⟩⟩
      rw [bu.int]
      obtain ⟨ad, vs, z, ev, sq, hz, bz⟩ := bv.item hd
      exact ⟨ad, vs, kk, z, ev, rfl, sq, hz, q _ bz⟩
    · cases hd
  | b1 c a iha =>
    intro e O p h
    cases c <;> try (simp [isP] at p; done)
    simp only [isP] at p
    cases e <;> try (simp [chkE] at h; done)
    rename_i f es kw pos
    cases f <;> try (simp [chkE] at h; done)
    cases kw <;> try (simp [chkE] at h; done)
    simp only [chkE, b1ty, b1name, Bool.and_eq_true] at h
    obtain ⟨h1, h2⟩ := h
    split at h2 <;> try (first | cases h2 | (rename_i heq; cases heq))
    rename_i x _
    obtain ⟨rfl, hg⟩ := bltB_iff h1
    refine (pe_callB call_len_seq (O.gl hg) (O.blt (by decide)) PySem.boot_len (pa_cons (iha O p h2) pa_nil (star_pl (chk_pl h2))) (he := star_pl (chk_pl h2))).imp fun σ H Q q => ?_
    obtain ⟨B, env, Γ, d, w, hd, q⟩ := q
    rw [evP] at hd
    split at hd
    · rename_i d' ha
      refine ⟨B, env, Γ, _, w, ha, fun v bv => ?_⟩
      unfold lenD at hd
      split at hd
      · rename_i xs hx
        cases hd
        obtain ⟨F, S, r⟩ := bv.rep
        obtain ⟨ad, vs, F1, S1, ev, sq, rs, _⟩ := r.items hx
        subst ev
        refine ⟨ad, vs, rfl, sq, ?_⟩
        rw [rs.len]
        exact q _ (.flat w.w (.int _))
      · cases hd
    · cases hd
  | _ => intro e O p h; simp [isP] at p
end
end Sr
set_option Elab.async false
set_option linter.all false
set_option maxRecDepth 100000
set_option maxHeartbeats 2000000
/-! # Sr: built-ins by what is handed in; readings of terms -/
namespace Sr
open PySem PySem.Spec PyProof.Rows L2

/-- a list by its text -/
theorem Rep.lstI {K : PySem.W.Frag} {H : Hp} {v : V} {o : Bool} {xs : List D} {F S : List Addr} (r : Rep K H v (.lst o xs) F S) : ∃ a vs F1 S1, v = .ref a ∧ SqL K H a vs ∧ Reps K H vs xs F1 S1 ∧ (∀ b ∈ F1, b ∈ F) ∧ (∀ b ∈ S1, b ∈ S) ∧ (F.Nodup → F1.Nodup) := by
  cases r with
  | mod e r => exact ⟨_, _, _, _, rfl, .inr e, r, fun _ z => z, fun _ z => z, fun _ => List.nodup_nil⟩
  | shr e r => exact ⟨_, _, _, _, rfl, .inl e, r, fun _ z => z, fun _ z => List.mem_cons_of_mem _ z, fun _ => List.nodup_nil⟩
  | own e r => exact ⟨_, _, _, _, rfl, SqL.of e, r, fun _ z => List.mem_cons_of_mem _ z, fun _ z => z, fun n => (List.nodup_cons.mp n).2⟩
/-- what is only read, beside -/
theorem W.beside {K : PySem.W.Frag} {B : Bs} {H : Hp} {R : List Rt} {F S : List Addr} {vs : List V} {ds : List D} {S1 : List Addr} (ok : Okk B H F S) {Fr Sr : List Addr} (rr : Rs K H R Fr Sr) (hF : ∀ a ∈ Fr, a ∈ F) (nF : Fr.Nodup) (hS : ∀ a ∈ Sr, a ∈ S)
    (r1 : Reps K H vs ds [] S1) (h1 : ∀ a ∈ S1, a ∈ S) : W K B H (vs.zip ds ++ R) := by
  refine ⟨[] ++ Fr, S1 ++ Sr, ?_, ok.less (fun a z => hF a (by simpa using z)) (by simpa using nF) fun a z => (List.mem_append.mp z).elim (h1 a) (hS a)⟩
  show Reps K H _ _ _ _
  rw [List.map_append, List.map_append, List.map_fst_zip (Nat.le_of_eq r1.len), List.map_snd_zip (Nat.le_of_eq r1.len.symm)]
  exact r1.app rr
/-! ### built-in functions of one argument -/
def rB1 (K : PySem.W.Frag) (c : B1) : List V → Hp → VK → Prop := fun xs H Q => ∃ B R v x d, xs = [v] ∧ Brw K B H R v x ∧ b1D c x = some d ∧ ∀ u H', W K B H' ((u, d) :: R) → Q u H'
def rB1t (K : PySem.W.Frag) (c : B1) (ty : String) : List V → Hp → VK → Prop := fun xs H Q => ∃ B R v x d, xs = [v, .ty ty] ∧ Brw K B H R v x ∧ b1D c x = some d ∧ ∀ u H', W K B H' ((u, d) :: R) → Q u H'
section
variable {K : PySem.W.Frag} {B : Bs} {H : Hp} {R : List Rt} {v : V} {d x : D}
theorem Brw.w (b : Brw K B H R v d) : W K B H R := by
  obtain ⟨F, S, F1, S1, h, o, r, _⟩ := b.ex
  exact ⟨F, S, h, o⟩
theorem Brw.ofHead (w : W K B H ((v, d) :: R)) : Brw K B H ((v, d) :: R) v d := by
  obtain ⟨F, S, h, o⟩ := w
  have h0 := h
  cases h with
  | cons r t => exact ⟨_, _, _, _, h0, o, r, fun a z => List.mem_append_left _ z, fun a z => List.mem_append_left _ z, (List.nodup_append.mp o.nd).1⟩
/-- the type of what stands for d -/
def tyD : D → String
  | .non => "NoneType"
  | .bl _ => "bool"
  | .int _ => "int"
  | .str _ => "str"
  | .tup _ => "tuple"
  | .lst _ _ => "list"
theorem Rep.ty {F S : List Addr} (r : Rep K H v d F S) : TyX K H v (.type (tyD d)) := by
  cases r with
  | non => exact .base .non
  | bl b => exact .base (.bl b)
  | int i => exact .base (.int i)
  | str x => exact .base (.str x)
  | tup e r =>
    rcases e with e | ⟨o, e⟩
    · exact .base (.tup e)
    · exact .fTuple e
  | shr e r =>
    rcases e with e | ⟨o, e⟩
    · exact .base (.lst e)
    · exact .base (.frz e)
  | mod e r =>
    obtain ⟨o, its, m, e1, e2, _⟩ := e
    exact .kList e1 e2
  | own e r => exact .base (.lst e)
theorem Reps.ints : ∀ {ds : List D} {vs : List V} {F S : List Addr} {ns : List Int}, Reps K H vs ds F S → toInts ds = some ns → vs = ns.map V.int
  | [], _, _, _, ns, h, e => by
    cases h
    rw [toInts] at e
    cases e
    rfl
  | d :: ds, _, _, _, ns, h, e => by
    cases h with
    | cons r t =>
      cases d with
      | int i =>
        rw [toInts] at e
        cases q : toInts ds with
        | none => rw [q] at e; cases e
        | some l =>
          rw [q] at e
          cases e
          cases r
          rw [t.ints q]
          rfl
      | _ => simp [toInts] at e
/-- what is copied: nothing of ours within -/
theorem Brw.lst {xs : List D} (b : Brw K B H R v x) (e : items x = some xs) (u : unL xs = true) : ∃ a vs, v = .ref a ∧ (SqL K H a vs ∨ SqT K H a vs) ∧ vs.length = xs.length ∧ (∀ p, H p = none → vs.length ≤ sizeLine → W K B (upd H p (.lst vs)) ((.ref p, .lst true xs) :: R)) ∧ (∀ p, H p = none → vs.length ≤ sizeLine → W K B (upd H p (.tup vs)) ((.ref p, .tup xs) :: R)) := by
  obtain ⟨F, S, F1, S1, h0, o, r, f, s, nn⟩ := b.ex
  obtain ⟨a, vs, F2, S2, ev, q, rs, f2, s2, n2⟩ := r.items e
  have eF := rs.un u
  subst eF
  have w2 : W K B H ((vs.zip xs) ++ R) := by
    refine ⟨[] ++ F, S2 ++ S, ?_, o.less (fun a z => by simpa using z) (by simpa using o.nd) fun a z => (List.mem_append.mp z).elim (fun y => s a (s2 a y)) id⟩
    show Reps K H _ _ _ _
    rw [List.map_append, List.map_append, List.map_fst_zip (Nat.le_of_eq rs.len), List.map_snd_zip (Nat.le_of_eq rs.len.symm)]
    exact rs.app h0
  exact ⟨a, vs, ev, q, rs.len, fun p hp hz => w2.lstV rs.len hp hz, fun p hp hz => w2.tupV rs.len hp hz⟩
end
section
variable {X : Cx}
theorem szI {pins : List (Addr × Obj)} {σ : L2.St} {H : Hp} {s : Shared} (I : L2.Inv X pins σ H s) {p : Addr} {ys : List V} (h : SqL X.K H p ys ∨ SqT X.K H p ys) : ys.length ≤ sizeLine := by
  rcases h with h | h
  · obtain ⟨_, _, _, z⟩ := I.list h; exact z
  · obtain ⟨_, _, _, z⟩ := I.tuple h; exact z
theorem b1_len : CallR X (.builtin "len") (rB1 X.K .len) := by
  intro pins s σ H xs us Q I r h
  obtain ⟨B, R, v, x, d, ex, bv, e, q⟩ := h
  refine call_len_seq pins s σ H xs us Q I r ?_
  simp only [b1D, lenD] at e
  split at e
  · rename_i ys hy
    cases e
    obtain ⟨F, S, rr⟩ := bv.rep
    obtain ⟨ad, vs, F1, S1, ev, sq, rs, _⟩ := rr.items hy
    subst ev
    exact ⟨ad, vs, ex, sq, by rw [rs.len]; exact q _ _ (bv.w.int _)⟩
  · cases e
theorem b1_abs : CallR X (.builtin "abs") (rB1 X.K .abs) := by
  intro pins s σ H xs us Q I r h
  obtain ⟨B, R, v, x, d, ex, bv, e, q⟩ := h
  cases x <;> try (simp [b1D] at e; done)
  rename_i i
  simp only [b1D, Option.some.injEq] at e
  subst e
  rw [bv.int] at ex
  exact call_abs pins s σ H xs us Q I r ⟨i, ex, q _ _ (bv.w.int _)⟩
theorem b1_int : CallR X (.type "int") (rB1 X.K .int) := by
  intro pins s σ H xs us Q I r h
  obtain ⟨B, R, v, x, d, ex, bv, e, q⟩ := h
  refine call_int1 pins s σ H xs us Q I r ?_
  cases x <;> try (simp [b1D] at e; done)
  · rename_i b
    simp only [b1D, Option.some.injEq] at e
    subst e
    obtain ⟨F, S, rr⟩ := bv.rep
    cases rr
    exact .inr ⟨b, ex, q _ _ (bv.w.int _)⟩
  · rename_i i
    simp only [b1D, Option.some.injEq] at e
    subst e
    rw [bv.int] at ex
    exact .inl ⟨i, ex, q _ _ (bv.w.int _)⟩
theorem b1_list : CallR X (.type "list") (rB1 X.K .list) := by
  intro pins s σ H xs us Q I r h
  obtain ⟨B, R, v, x, d, ex, bv, e, q⟩ := h
  refine call_list_of pins s σ H xs us Q I r ?_
  simp only [b1D] at e
  split at e
  · rename_i ys hy
    split at e
    · rename_i hu
      cases e
      obtain ⟨a, vs, ev, sq, hl, m1, m2⟩ := bv.lst hy hu
      subst ev
      exact ⟨a, vs, ex, sq, fun l hl => q _ _ (m1 l hl (szI I sq))⟩
    · cases e
  · cases e
theorem b1_tuple : CallR X (.type "tuple") (rB1 X.K .tuple) := by
  intro pins s σ H xs us Q I r h
  obtain ⟨B, R, v, x, d, ex, bv, e, q⟩ := h
  refine call_tuple_of pins s σ H xs us Q I r ?_
  cases x <;> try (simp [b1D] at e; done)
  rename_i o ys
  simp only [b1D] at e
  split at e
  · rename_i hu
    cases e
    obtain ⟨F, S, F1, S1, h0, ok, rr, f, s', nn⟩ := bv.ex
    obtain ⟨a, vs, F2, S2, ev, sq, rs, f2, s2, _⟩ := rr.lstI
    have z := rs.un hu
    subst z
    subst ev
    exact ⟨a, vs, ex, .inl ⟨sq, fun l hl => q _ _ (W.tupV (W.beside ok h0 (fun a z => z) ok.nd (fun a z => z) rs fun a z => s' a (s2 a z)) rs.len hl (szI I (.inl sq)))⟩⟩
  · cases e
theorem b1_sum (hc : X.calm = true) : CallR X (.builtin "sum") (rB1 X.K .sum) := by
  intro pins s σ H xs us Q I r h
  obtain ⟨B, R, v, x, d, ex, bv, e, q⟩ := h
  refine cr_sum hc pins s σ H xs us Q I r ?_
  cases x <;> try (simp [b1D] at e; done)
  rename_i o ys
  simp only [b1D, Option.map_eq_some_iff] at e
  obtain ⟨ns, hn, rfl⟩ := e
  obtain ⟨F, S, rr⟩ := bv.rep
  cases rr with
  | mod e2 rs => exact ⟨_, ns, ex, by rw [← rs.ints hn]; exact .inr e2, q _ _ (bv.w.int _)⟩
  | shr e2 rs => exact ⟨_, ns, ex, by rw [← rs.ints hn]; exact .inl e2, q _ _ (bv.w.int _)⟩
  | own e2 rs => exact ⟨_, ns, ex, by rw [← rs.ints hn]; exact SqL.of e2, q _ _ (bv.w.int _)⟩
theorem isD {c : B1} {ty : String} {x : D} (h : b1ty c = some ty) : ∃ b, b1D c x = some (.bl b) ∧ kitB (tyD x) ty = some b := by
  cases c <;> (try (cases h; done)) <;> cases h <;> cases x <;> first | exact ⟨true, rfl, by simp only [tyD]; decide +kernel⟩ | exact ⟨false, rfl, by simp only [tyD]; decide +kernel⟩
theorem b1_is {c : B1} {ty : String} (h : b1ty c = some ty) : CallR X (.builtin "isinstance") (rB1t X.K c ty) := by
  intro pins s σ H xs us Q I r hh
  obtain ⟨B, R, v, x, d, ex, bv, e, q⟩ := hh
  obtain ⟨b, e1, e2⟩ := isD (x := x) h
  rw [e1] at e; cases e
  obtain ⟨F, S, rr⟩ := bv.rep
  exact call_isi pins s σ H xs us Q I r ⟨v, .ty ty, .type (tyD x), .type ty, b, ex, .ty ty, rr.ty, kit_ty e2, q _ _ (bv.w.bl _)⟩
end
end Sr
set_option Elab.async false
set_option linter.all false
set_option maxRecDepth 100000
set_option maxHeartbeats 2000000
/-! # Sr: terms and their text -/
namespace Sr
open PySem PySem.Spec PyProof.Rows L2

/-! ### readings -/
def agR : List Ag → List V → List Rt
  | .val d :: as, v :: vs => (v, d.shr) :: agR as vs
  | _ :: as, _ :: vs => agR as vs
  | _, _ => []
def AgS (σ : L2.St) : List Ag → List V → Prop
  | [], [] => True
  | .val _ :: as, _ :: vs => AgS σ as vs
  | .var i :: as, v :: vs => σ[i]? = some (some v) ∧ AgS σ as vs
  | .io i :: as, v :: vs => σ[i]? = some (some v) ∧ AgS σ as vs
  | _, _ => False
/-- an iterator walks the items; hold: what is held meanwhile -/
structure ItOk (K : PySem.W.Frag) (B : Bs) (J : It) (xs : List D) (hold : List Rt) : Prop where
  go : ∀ i H R, W K B H (hold ++ R) → i < xs.length → J.go i H
  yld : ∀ i H R x H', W K B H (hold ++ R) → i < xs.length → J.yld i H x H' → ∃ d, xs[i]? = some d ∧ W K B H' ((x, d) :: (hold ++ R))
  stop : ∀ i H R, W K B H (hold ++ R) → xs.length ≤ i → J.stop i H
  small : ∀ {H R}, W K B H (hold ++ R) → xs.length ≤ sizeLine
section
variable (K : PySem.W.Frag) (Φ : Fs)
def tD (t : T) : TE := fun σ H Q => ∃ B e Γ d e', Wd K B σ e Γ H ∧ evE Φ t e = some (d, e') ∧ ∀ v H', Wd K B σ e' ((v, d) :: Γ) H' → Q v H'
def tT (t : T) : TT := fun σ H Q => ∃ B e Γ b e', Wd K B σ e Γ H ∧ evE Φ t e = some (.bl b, e') ∧ ∀ H', Wd K B σ e' Γ H' → Q b H'
def evO (a : T) (e : Env) : Option (D × Env) := if isP a then (evP a e).map fun d => (d, e) else evE Φ a e
def tO (t : T) : TE := fun σ H Q => ∃ B e Γ d e', Wd K B σ e Γ H ∧ evO Φ t e = some (d, e') ∧ ∀ v H' R, Brw K B H' R v d → Wd K B σ e' Γ H' → (∀ u z H'', W K B H'' ((u, z) :: R) → Wd K B σ e' ((u, z) :: Γ) H'') → Q v H'
def tLL (t : T) : TA := fun σ H Q => ∃ B e Γ ds e', Wd K B σ e Γ H ∧ evL Φ t e = some (ds, e') ∧ ∀ vs H', vs.length = ds.length → Wd K B σ e' (vs.zip ds ++ Γ) H' → Q vs H'
def tG (t : T) (io : List Bool) : TA := fun σ H Q => ∃ B e Γ as e', Wd K B σ e Γ H ∧ evG Φ t io e = some (as, e') ∧ ∀ vs H', AgS σ as vs → Wd K B σ e' (agR as vs ++ Γ) H' → Q vs H'
def tI (t : T) : TI := fun σ H R => ∃ B e Γ xs e', Wd K B σ e Γ H ∧ evI Φ t e = some (xs, e') ∧ ∀ J H' hold, ItOk K B J xs hold → Wd K B σ e' (hold ++ Γ) H' → R J H'
end
section
variable (Φ : Fs) (k : Nat) (n : Nm)
def SE (t : T) : Prop := ∀ {X : Cx} {sc : Scope} {e : Expr}, OkX Φ k n X sc → chkE n sc t e = true → PE X e (tD X.K Φ t)
def ST (t : T) : Prop := ∀ {X : Cx} {sc : Scope} {e : Expr}, OkX Φ k n X sc → chkE n sc t e = true → PT X e (tT X.K Φ t)
def SL (t : T) : Prop := ∀ {X : Cx} {sc : Scope} {es : List Expr}, OkX Φ k n X sc → chkL n sc t es = true → PA X es (tLL X.K Φ t)
def SG (t : T) : Prop := ∀ {io : List Bool} {X : Cx} {sc : Scope} {es : List Expr}, OkX Φ k n X sc → chkL n sc t es = true → PA X es (tG X.K Φ t io)
def SI (t : T) : Prop := ∀ {X : Cx} {sc : Scope} {g e : Expr}, (∀ a b, t ≠ .zip a b) → OkX Φ k n X sc → chkI n sc t e = true → PI X g e (tI X.K Φ t)
end

/-! ### tests -/
/-- a test of no form of its own -/
def plT : Expr → Bool
  | .UnaryOp .Not _ _ => false
  | .BoolOp .. => false
  | .IfExp .. => false
  | .Compare .. => false
  | _ => true
theorem isTrue_pl {e : Expr} {env : PySem.Env} (h : plT e = true) : ∀ whole, isTrue e env whole = (do let v ← whole; standAt e.pos; holding [v] (truthy v)) := by
  intro whole
  cases e <;> first | rfl | cases h | (rename_i o _ _; cases o <;> first | rfl | cases h)
section
variable {X : Cx}
def tIfT (tc ta tb : TT) : TT := fun σ H Q => tc σ H fun d H1 => if d = true then ta σ H1 Q else tb σ H1 Q
theorem pt_ifExp {c a b : Expr} {pos : Pos} {tc ta tb : TT} (hc : PT X c tc) (ha : PT X a ta) (hb : PT X b tb) : PT X (.IfExp c a b pos) (tIfT tc ta tb) := by
  refine ⟨fun pins s σ H Q I h => ?_⟩
  show wpAny _ _ (do if ← isTrue c X.env (eval c X.env) then isTrue a X.env (eval a X.env) else isTrue b X.env (eval b X.env)) _ _ _
  refine wpAny_bind (thn (hc.run pins s σ H _ I h) fun d s1 ⟨H1, I1, q1⟩ => ?_)
  cases d with
  | true => exact ha.run pins s1 σ H1 Q I1 q1
  | false => exact hb.run pins s1 σ H1 Q I1 q1
variable {Φ : Fs} {K : PySem.W.Frag}
/-- a test by its value -/
theorem tT_of {t : T} : ∀ σ H Q, tT K Φ t σ H Q → tD K Φ t σ H fun x H' => ∃ b, x = .bl b ∧ Q b H' := by
  rintro σ H Q ⟨B, e, Γ, b, e', w, h, q⟩
  refine ⟨B, e, Γ, _, e', w, h, fun v H' w' => ?_⟩
  have ev := w'.headBl
  subst ev
  exact ⟨b, rfl, q H' w'.drop⟩
theorem ST_of {e : Expr} {t : T} (h : PE X e (tD X.K Φ t)) (p : plT e = true) : PT X e (tT X.K Φ t) := (pt_val h (isTrue_pl p)).imp tT_of
end

/-! ### operands -/
section
variable {Φ : Fs} {k : Nat} {n : Nm} {X : Cx} {sc : Scope}
theorem SE.op {t : T} {e : Expr} (s : SE Φ k n t) (O : OkX Φ k n X sc) (h : chkE n sc t e = true) : PE X e (tO X.K Φ t) := by
  by_cases p : isP t = true
  · refine (evP_ok O p h).imp ?_
    rintro σ H Q ⟨B, e, Γ, d, e', w, hd, q⟩
    unfold evO at hd
    rw [if_pos p, Option.map_eq_some_iff] at hd
    obtain ⟨d', hd, ee⟩ := hd
    cases ee
    exact ⟨B, e, Γ, d, w, hd, fun v b => q v H _ b w fun u z H'' w' => ⟨w.fit, w.pr, w'⟩⟩
  · refine (s O h).imp ?_
    rintro σ H Q ⟨B, e, Γ, d, e', w, hd, q⟩
    unfold evO at hd
    rw [if_neg p] at hd
    exact ⟨B, e, Γ, d, e', w, hd, fun v H' w' => q v H' _ (Brw.ofHead w'.w) w'.drop fun u z H'' w'' => ⟨w'.fit, w'.pr, (w''.perm (.swap _ _ _)).drop⟩⟩

/-! ### names and constants -/
theorem SE_v (i : Nat) : SE Φ k n (.v i) := by
  intro X sc e O h
  cases e <;> try (simp [chkE] at h; done)
  rw [chkE] at h
  refine (O.name h).imp ?_
  rintro σ H Q ⟨B, env, Γ, d, e', w, hd, q⟩
  rw [evE] at hd
  split at hd
  · rename_i d0 h0
    obtain ⟨v, hv, _⟩ := w.read h0
    refine ⟨v, hv, ?_⟩
    split at hd
    · rename_i hu
      cases hd
      exact q v H (w.copy h0 hv hu)
    · cases hd
      exact q v H (w.move h0 hv)
  · cases hd
theorem SE_w (i : Nat) : SE Φ k n (.w i) := by
  intro X sc e O h
  cases e <;> try (simp [chkE] at h; done)
  rw [chkE] at h
  refine (O.name h).imp ?_
  rintro σ H Q ⟨B, env, Γ, d, e', w, hd, q⟩
  rw [evE] at hd
  split at hd
  · rename_i d0 h0
    obtain ⟨v, hv, _⟩ := w.read h0
    refine ⟨v, hv, ?_⟩
    cases hd
    have m := (w.move h0 hv).shr
    refine q v H ?_
    have hl : i < env.length := (List.getElem?_eq_some_iff.mp (at_iff.mp h0)).1
    have m2 : Wd X.K B σ (env.set i none) ((v, d0.shr) :: (v, d0.shr) :: Γ) H := ⟨m.fit, m.pr, W.dup m.w (shr_un d0)⟩
    have m3 := (m2.swap).put (i := i) (by rw [List.getElem?_set_self hl]) hv
    rw [List.set_set] at m3
    exact m3
  · cases hd
end
end Sr
set_option Elab.async false
set_option linter.all false
set_option maxRecDepth 100000
set_option maxHeartbeats 2000000
/-! # Sr: terms and their text, one by one -/
namespace Sr
open PySem PySem.Spec PyProof.Rows L2

/-- list + list, whatever the lists -/
def rCatS (K : PySem.W.Frag) : R2 := fun x y H Q => ∃ l b xs zs, x = .ref l ∧ y = .ref b ∧ SqL K H l xs ∧ SqL K H b zs ∧ xs.length + zs.length ≤ sizeLine ∧ ∀ p, H p = none → Q (.ref p) (upd H p (.lst (xs ++ zs)))
theorem op_catS {X : Cx} : OpR X (binaryOp .Add) (rCatS X.K) := by
  intro pins s σ H x y v u Q I rx ry h
  obtain ⟨l, b, xs, zs, rfl, rfl, hH, hB, hz, q⟩ := h
  cases rx
  cases ry
  obtain ⟨its, r, ⟨o, n, e, c1, c2, c3⟩, _⟩ := I.list hH
  obtain ⟨its2, r2, ⟨o2, n2, e2, d1, d2, d3⟩, _⟩ := I.list hB
  obtain ⟨cls, dd, data, sl⟩ := o
  obtain ⟨cls2, dd2, data2, sl2⟩ := o2
  simp only at c1 c2 c3 d1 d2 d3
  subst c1 c2 c3 d1 d2 d3
  have hl := r.length
  have hl2 := r2.length
  have ee : its.toArray ++ its2.toArray = (its ++ its2).toArray := by simp
  refine concat_meets ⟨_, e, rfl⟩ ⟨_, e2, rfl⟩ noFill_list_add seq_list_add PySem.F.slot_list_add PySem.F.entry_list_add (PySem.F.args_list_add_2 _ _) (list_addW l b its.toArray its2.toArray n n2 _ _ sl sl2 (by rw [List.size_toArray, List.size_toArray]; omega)) ⟨e, e2, ?_⟩
  rw [ee]
  exact ⟨.ref _, _, I.lnew (t' := s.toks) (r.append r2) (by rw [List.length_append]; omega), rfl, q _ I.fresh⟩
theorem big_le : big ≤ sizeLine := by rw [sizeLine_eq]; decide

section
variable {Φ : Fs} {k : Nat} {n : Nm}
theorem SE_non : SE Φ k n .non := by
  intro X sc e O h
  cases e <;> try (simp [chkE] at h; done)
  rename_i c _ _
  cases c <;> try (simp [chkE] at h; done)
  refine pe_non.imp ?_
  rintro σ H Q ⟨B, env, Γ, d, e', w, hd, q⟩
  cases hd
  exact q _ H ⟨w.fit, w.pr, w.w.add .non⟩
theorem SE_bl (b : Bool) : SE Φ k n (.bl b) := by
  intro X sc e O h
  cases e <;> try (simp [chkE] at h; done)
  rename_i c _ _
  cases c <;> try (simp [chkE] at h; done)
  rw [chkE, beq_iff_eq] at h
  subst h
  refine pe_bl.imp ?_
  rintro σ H Q ⟨B, env, Γ, d, e', w, hd, q⟩
  cases hd
  exact q _ H (w.bl _)
theorem SE_int (i : Int) : SE Φ k n (.int i) := by
  intro X sc e O h
  cases e <;> try (simp [chkE] at h; done)
  rename_i c _ _
  cases c <;> try (simp [chkE] at h; done)
  rw [chkE, decide_eq_true_eq] at h
  subst h
  refine pe_int.imp ?_
  rintro σ H Q ⟨B, env, Γ, d, e', w, hd, q⟩
  cases hd
  exact q _ H (w.int _)
theorem SE_str (x : Str) : SE Φ k n (.str x) := by
  intro X sc e O h
  cases e <;> try (simp [chkE] at h; done)
  rename_i c _ _
  cases c <;> try (simp [chkE] at h; done)
  rw [chkE, decide_eq_true_eq] at h
  subst h
  refine pe_str.imp ?_
  rintro σ H Q ⟨B, env, Γ, d, e', w, hd, q⟩
  cases hd
  exact q _ H ⟨w.fit, w.pr, w.w.add (.str _)⟩
theorem SE_frz {a : T} (s : SE Φ k n a) : SE Φ k n (.frz a) := by
  intro X sc e O h
  rw [chkE] at h
  refine (s O h).imp ?_
  rintro σ H Q ⟨B, env, Γ, d, e', w, hd, q⟩
  rw [evE] at hd
  split at hd
  · rename_i d0 e0 h0
    obtain ⟨rfl, rfl⟩ := Prod.mk.inj (Option.some.inj hd)
    exact ⟨B, env, Γ, d0, e0, w, h0, fun v H' w' => q v H' w'.shr⟩
  · cases hd
theorem shr_bl {d : D} {b : Bool} (h : d.shr = .bl b) : d = .bl b := by
  cases d <;> simp [D.shr] at h
  rw [h]
theorem ST_frz {a : T} (s : ST Φ k n a) : ST Φ k n (.frz a) := by
  intro X sc e O h
  rw [chkE] at h
  refine (s O h).imp ?_
  rintro σ H Q ⟨B, env, Γ, d, e', w, hd, q⟩
  rw [evE] at hd
  split at hd
  · rename_i d0 e0 h0
    simp only [Option.some.injEq, Prod.mk.injEq] at hd
    obtain ⟨h1, h2⟩ := hd
    have z := shr_bl h1
    subst z
    subst h2
    exact ⟨B, env, Γ, _, e0, w, h0, fun H' w' => q H' w'⟩
  · cases hd
theorem unL_app : ∀ xs ys : List D, unL (xs ++ ys) = (unL xs && unL ys)
  | [], ys => by simp [unL]
  | x :: xs, ys => by rw [List.cons_append, unL, unL, unL_app xs ys, Bool.and_assoc]
theorem reps_rep {K : PySem.W.Frag} {H : Hp} {vs : List V} {ds : List D} {S1 : List Addr} (r : Reps K H vs ds [] S1) : ∀ m : Nat, ∃ S', Reps K H (List.replicate m vs).flatten (List.replicate m ds).flatten [] S' ∧ ∀ a ∈ S', a ∈ S1
  | 0 => ⟨[], .nil, fun _ z => nomatch z⟩
  | m + 1 => by
    obtain ⟨S', r', h'⟩ := reps_rep r m
    refine ⟨S1 ++ S', ?_, fun a z => (List.mem_append.mp z).elim id (h' a)⟩
    rw [List.replicate_succ, List.replicate_succ, List.flatten_cons, List.flatten_cons]
    exact r.app r'
theorem len_rep {α : Type} (xs : List α) : ∀ m : Nat, (List.replicate m xs).flatten.length = m * xs.length
  | 0 => by simp
  | m + 1 => by rw [List.replicate_succ, List.flatten_cons, List.length_append, len_rep xs m, Nat.succ_mul, Nat.add_comm]
/-- the binary operators -/
def rBinD (K : PySem.W.Frag) (o : Bop) : R2 := fun x y H Q => ∃ B R a b d, W K B H ((y, b) :: (x, a) :: R) ∧ binD o a b = some d ∧ ∀ u H', W K B H' ((u, d) :: R) → Q u H'
theorem op_binD {X : Cx} {o : Bop} {p : Operator} (h : bop o p = true) : OpR X (binaryOp p) (rBinD X.K o) := by
  intro pins s σ H x y v u Q I rx ry hh
  obtain ⟨B, R, a, b, d, w, e, q⟩ := hh
  obtain ⟨F, S, rs, ok⟩ := w
  cases rs with
  | @cons _ _ _ _ Fb Sb _ _ rb rs =>
    cases rs with
    | @cons _ _ _ _ Fa Sa Fr Sr ra rr =>
      have hF : ∀ z ∈ Fr, z ∈ Fb ++ (Fa ++ Fr) := fun z hz => List.mem_append_right _ (List.mem_append_right _ hz)
      have hS : ∀ z ∈ Sr, z ∈ Sb ++ (Sa ++ Sr) := fun z hz => List.mem_append_right _ (List.mem_append_right _ hz)
      have nF : Fr.Nodup := (List.nodup_append.mp (List.nodup_append.mp ok.nd).2.1).2.1
      have wR : W X.K B H R := ⟨Fr, Sr, rr, ok.less hF nF hS⟩
      unfold binD at e
      split at e
      · rename_i i j
        cases ra; cases rb
        simp only [Option.map_eq_some_iff] at e
        obtain ⟨r, e, rfl⟩ := e
        exact op_bin h pins s σ H _ _ v u Q I rx ry ⟨i, j, r, rfl, rfl, e, q _ _ (wR.int r)⟩
      · rename_i oa xs ob ys
        split at e
        · split at e
          · rename_i c
            cases e
            simp only [Bool.and_eq_true, decide_eq_true_eq] at c
            cases p <;> try (simp [bop] at h; done)
            obtain ⟨aa, va, F1, S1, ea, sa, r1, f1, s1, _⟩ := ra.lstI
            obtain ⟨ab, vb, F2, S2, eb, sb, r2, f2, s2, _⟩ := rb.lstI
            have z1 := r1.un c.1.1
            have z2 := r2.un c.1.2
            subst z1 z2
            have l1 := r1.len
            have l2 := r2.len
            have hz : va.length + vb.length ≤ sizeLine := by have := big_le; omega
            refine op_catS pins s σ H x y v u Q I rx ry ⟨aa, ab, va, vb, ea, eb, sa, sb, hz, fun p hp => q _ _ ?_⟩
            refine W.lstV (vs := va ++ vb) (ds := xs ++ ys) (W.beside ok rr hF nF hS (r1.app r2) fun z hz => ?_) (by rw [List.length_append, List.length_append]; omega) hp (by rw [List.length_append]; exact hz)
            rcases List.mem_append.mp hz with hz | hz
            · exact List.mem_append_right _ (List.mem_append_left _ (s1 z hz))
            · exact List.mem_append_left _ (s2 z hz)
          · cases e
        · cases e
      · rename_i xs ys
        split at e
        · split at e
          · rename_i c
            cases e
            simp only [Bool.and_eq_true, decide_eq_true_eq, Bool.not_eq_true', List.isEmpty_eq_false_iff] at c
            obtain ⟨⟨⟨c1, c2⟩, c3⟩, c4⟩ := c
            cases p <;> try (simp [bop] at h; done)
            cases ra with
            | @tup aa va _ _ S1 e1 r1 =>
              cases rb with
              | @tup ab vb _ _ S2 e2 r2 =>
                have z1 := r1.un c1
                have z2 := r2.un c2
                subst z1 z2
                have l1 := r1.len
                have l2 := r2.len
                have hz : va.length + vb.length ≤ sizeLine := by have := big_le; omega
                have hv : va ≠ [] := fun q => c3 (List.length_eq_zero_iff.mp (by rw [← l1, q]; rfl))
                refine op_catT pins s σ H _ _ v u Q I rx ry ⟨aa, ab, va, vb, rfl, rfl, .inl e1, .inl e2, hv, hz, fun hy => q _ _ ?_, fun _ p hp => q _ _ ?_⟩
                · have ey : ys = [] := List.length_eq_zero_iff.mp (by rw [← l2, hy]; rfl)
                  subst ey
                  rw [List.append_nil]
                  refine ⟨[] ++ Fr, Sa ++ Sr, .cons (.tup e1 r1) rr, ok.less (fun a z => hF a (by simpa using z)) (by simpa using nF) fun a z => ?_⟩
                  rcases List.mem_append.mp z with z | z
                  · exact List.mem_append_right _ (List.mem_append_left _ z)
                  · exact hS a z
                · refine W.tupV (vs := va ++ vb) (ds := xs ++ ys) (W.beside ok rr hF nF hS (r1.app r2) fun z hz => ?_) (by rw [List.length_append, List.length_append]; omega) hp (by rw [List.length_append]; exact hz)
                  rcases List.mem_append.mp hz with hz | hz
                  · exact List.mem_append_right _ (List.mem_append_left _ hz)
                  · exact List.mem_append_left _ hz
          · cases e
        · cases e
      · rename_i oa xs kk
        split at e
        · split at e
          · rename_i c
            cases e
            simp only [Bool.and_eq_true, decide_eq_true_eq] at c
            obtain ⟨⟨⟨c1, c2⟩, c3⟩, c4⟩ := c
            cases p <;> try (simp [bop] at h; done)
            cases rb
            cases ra with
            | shr e0 r1 => simp at c1
            | mod e0 r1 => simp at c1
            | @own a0 vs0 _ F1 S1 e0 r1 =>
              simp only [Bool.and_eq_true] at c1
              have z1 := r1.un c1.2
              subst z1
              have l1 := r1.len
              have hz : vs0.length * kk.toNat ≤ sizeLine := by have := big_le; rw [l1]; omega
              obtain ⟨S', r', h'⟩ := reps_rep r1 kk.toNat
              refine op_rep pins s σ H _ _ v u Q I rx ry ⟨a0, kk, vs0, rfl, rfl, e0, by omega, by omega, hz, fun p hp => q _ _ ?_⟩
              refine W.lstV (W.beside ok rr hF nF hS r' fun z hz => ?_) r'.len hp ?_
              · exact List.mem_append_right _ (List.mem_append_left _ (h' z hz))
              · rw [len_rep, Nat.mul_comm]; exact hz
          · cases e
        · cases e
      · cases e
theorem SE_bin {o : Bop} {a b : T} (sa : SE Φ k n a) (sb : SE Φ k n b) : SE Φ k n (.bin o a b) := by
  intro X sc e O h
  cases e <;> try (simp [chkE] at h; done)
  simp only [chkE, Bool.and_eq_true] at h
  refine (pe_op (op_binD h.1.1) (sa O h.1.2) (sb O h.2)).imp ?_
  rintro σ H Q ⟨B, env, Γ, d, e', w, hd, q⟩
  rw [evE] at hd
  split at hd
  · rename_i x e1 h1
    split at hd
    · rename_i y e2 h2
      rw [Option.map_eq_some_iff] at hd
      obtain ⟨d', hd, ee⟩ := hd
      obtain ⟨rfl, rfl⟩ := Prod.mk.inj ee
      refine ⟨B, env, Γ, x, e1, w, h1, fun v H1 w1 => ⟨B, e1, _, y, e2, w1, h2, fun u H2 w2 => ?_⟩⟩
      exact ⟨B, Γ ++ er σ e2, x, y, d', w2.w, hd, fun z H3 w3 => q z H3 ⟨w2.fit, w2.pr, w3⟩⟩
    · cases hd
  · cases hd
theorem SE_neg {a : T} (s : SE Φ k n a) : SE Φ k n (.neg a) := by
  intro X sc e O h
  cases e <;> try (simp [chkE] at h; done)
  rename_i uo x _
  cases uo <;> try (simp [chkE] at h; done)
  simp only [chkE] at h
  refine (pe_un un_neg (s O h)).imp ?_
  rintro σ H Q ⟨B, env, Γ, d, e', w, hd, q⟩
  rw [evE] at hd
  split at hd
  · rename_i i e1 h1
    obtain ⟨rfl, rfl⟩ := Prod.mk.inj (Option.some.inj hd)
    refine ⟨B, env, Γ, _, e1, w, h1, fun v H1 w1 => ?_⟩
    have ev := w1.headInt
    subst ev
    exact ⟨i, rfl, q _ H1 (w1.drop.int _)⟩
  · cases hd
theorem cmp_imp {K : PySem.W.Frag} {o : Cop} {a b : T} {σ : L2.St} {H : Hp} {Q : VK} (h : tD K Φ (.cmp o a b) σ H Q) : tOp (rCmp o) (tD K Φ a) (tD K Φ b) σ H Q := by
  obtain ⟨B, env, Γ, d, e', w, hd, q⟩ := h
  rw [evE] at hd
  split at hd
  · rename_i i e1 h1
    split at hd
    · rename_i j e2 h2
      obtain ⟨rfl, rfl⟩ := Prod.mk.inj (Option.some.inj hd)
      refine ⟨B, env, Γ, _, e1, w, h1, fun v H1 w1 => ⟨B, e1, _, _, e2, w1, h2, fun u H2 w2 => ?_⟩⟩
      have ev := w2.headInt
      have ew := w2.drop.headInt
      subst ev ew
      exact ⟨i, j, rfl, rfl, q _ H2 (w2.drop.drop.bl _)⟩
    · cases hd
  · cases hd
theorem SE_cmp {o : Cop} {a b : T} (sa : SE Φ k n a) (sb : SE Φ k n b) : SE Φ k n (.cmp o a b) := by
  intro X sc e O h
  cases e <;> try (simp [chkE] at h; done)
  rename_i l ops cs _
  match ops, cs, h with
  | [op], [c], h =>
    simp only [chkE, Bool.and_eq_true] at h
    exact (pe_cmpR (op_cmp h.1.1) (sa O h.1.2) (sb O h.2) (cop_mark h.1.1 _)).imp fun σ H Q q => cmp_imp q
theorem ST_cmp {o : Cop} {a b : T} (sa : SE Φ k n a) (sb : SE Φ k n b) : ST Φ k n (.cmp o a b) := by
  intro X sc e O h
  cases e <;> try (simp [chkE] at h; done)
  rename_i l ops cs _
  match ops, cs, h with
  | [op], [c], h =>
    simp only [chkE, Bool.and_eq_true] at h
    exact (pt_cmpR (op_cmp h.1.1) (sa O h.1.2) (sb O h.2) (cop_mark h.1.1 _)).imp fun σ H Q q => cmp_imp (tT_of σ H Q q)
end
end Sr
set_option Elab.async false
set_option linter.all false
set_option maxRecDepth 100000
set_option maxHeartbeats 2000000
/-! # Sr: terms and their text, one by one (2) -/
namespace Sr
open PySem PySem.Spec PyProof.Rows L2
theorem inj2 {α β : Type} {a c : α} {b d : β} (h : some (a, b) = some (c, d)) : a = c ∧ b = d := Prod.mk.inj (Option.some.inj h)
section
variable {Φ : Fs} {k : Nat} {n : Nm}

/-! ### == and != -/
def eqR (neg : Bool) (K : PySem.W.Frag) : R2 := if neg then rNeD K else rEqD K
theorem op_eqR {X : Cx} (hu : X.A.units + 64 < cLine) (neg : Bool) : OpR X (compareOp (if neg then .NotEq else .Eq)) (eqR neg X.K) := by
  cases neg with
  | true => exact op_neD hu
  | false => exact op_eqD hu
theorem eqR_of {K : PySem.W.Frag} {neg : Bool} {H : Hp} {x y : V} {a b : D} {F S F' S' : List Addr} {Q : VK} (ra : Rep K H x a F S) (rb : Rep K H y b F' S') (c : (eqOk a && eqOk b) = true) (q : Q (.bl (if neg then !eqv a b else eqv a b)) H) : eqR neg K x y H Q := by
  simp only [Bool.and_eq_true] at c
  cases neg with
  | true => exact ⟨_, _, ra.dp, rb.dp, c.1, c.2, q⟩
  | false => exact ⟨_, _, ra.dp, rb.dp, c.1, c.2, q⟩
/-- both sides -/
def evEq (Φ : Fs) (neg : Bool) (a b : T) (e : Env) : Option (D × Env) := match (if isP a && isP b then (evP a e).map fun d => (d, e) else evE Φ a e) with
    | some (x, e) => match evO Φ b e with
      | some (y, e) => if eqOk x && eqOk y then some (.bl (if neg then !eqv x y else eqv x y), e) else none
      | none => none
    | none => none
theorem evE_eq (a b : T) (e : Env) : evE Φ (.eq a b) e = evEq Φ false a b e := by rw [evE]; rfl
theorem evE_ne (a b : T) (e : Env) : evE Φ (.ne a b) e = evEq Φ true a b e := by rw [evE]; rfl
/-- a reading of both sides -/
def tEq (K : PySem.W.Frag) (Φ : Fs) (neg : Bool) (a b : T) : TE := fun σ H Q => ∃ B e Γ d e', Wd K B σ e Γ H ∧ evEq Φ neg a b e = some (d, e') ∧ ∀ v H', Wd K B σ e' ((v, d) :: Γ) H' → Q v H'
theorem eq_sides {X : Cx} {sc : Scope} {a b : T} {x y : Expr} {neg : Bool} (sa : SE Φ k n a) (sb : SE Φ k n b) (O : OkX Φ k n X sc) (ha : chkE n sc a x = true) (hb : chkE n sc b y = true) :
    ∃ ta tb, PE X x ta ∧ PE X y tb ∧ ∀ σ H Q, tEq X.K Φ neg a b σ H Q → tOp (eqR neg X.K) ta tb σ H Q := by
  by_cases p : (isP a && isP b) = true
  · simp only [Bool.and_eq_true] at p
    refine ⟨_, _, evP_ok O p.1 ha, evP_ok O p.2 hb, ?_⟩
    rintro σ H Q ⟨B, env, Γ, d, e', w, hd, q⟩
    unfold evEq evO at hd
    rw [if_pos (by rw [p.1, p.2]; rfl), p.2] at hd
    simp only [if_true] at hd
    cases h1 : evP a env with
    | none => rw [h1] at hd; cases hd
    | some dx =>
      cases h2 : evP b env with
      | none => rw [h1] at hd; simp [h2] at hd
      | some dy =>
        rw [h1] at hd
        simp only [Option.map_some, h2] at hd
        split at hd
        · rename_i c
          obtain ⟨rfl, rfl⟩ := inj2 hd
          refine ⟨B, env, Γ, dx, w, h1, fun v bv => ⟨B, env, Γ, dy, w, h2, fun u bu => ?_⟩⟩
          obtain ⟨F, S, r1⟩ := bv.rep
          obtain ⟨F', S', r2⟩ := bu.rep
          exact eqR_of r1 r2 c (q _ H (w.bl _))
        · cases hd
  · refine ⟨_, _, sa O ha, sb.op O hb, ?_⟩
    rintro σ H Q ⟨B, env, Γ, d, e', w, hd, q⟩
    unfold evEq at hd
    rw [if_neg p] at hd
    split at hd
    · rename_i dx e1 h1
      split at hd
      · rename_i dy e2 h2
        split at hd
        · rename_i c
          obtain ⟨rfl, rfl⟩ := inj2 hd
          refine ⟨B, env, Γ, dx, e1, w, h1, fun v H1 w1 => ⟨B, e1, _, dy, e2, w1, h2, fun u H2 R bu w2 _ => ?_⟩⟩
          obtain ⟨F, S, r1⟩ := w2.head
          obtain ⟨F', S', r2⟩ := bu.rep
          exact eqR_of r1 r2 c (q _ H2 (w2.drop.bl _))
        · cases hd
      · cases hd
    · cases hd
theorem SE_eqs {neg : Bool} {a b : T} (sa : SE Φ k n a) (sb : SE Φ k n b) {X : Cx} {sc : Scope} {x y : Expr} {pos : Pos} (O : OkX Φ k n X sc) (ha : chkE n sc a x = true) (hb : chkE n sc b y = true) :
    PE X (.Compare x [if neg then .NotEq else .Eq] [y] pos) (tEq X.K Φ neg a b) := by
  obtain ⟨ta, tb, h1, h2, h3⟩ := eq_sides (neg := neg) sa sb O ha hb
  exact (pe_cmpR (op_eqR O.lv0.units neg) h1 h2 (by cases neg <;> exact nobehind _ (by decide) (by decide))).imp h3
theorem ST_eqs {neg : Bool} {a b : T} (sa : SE Φ k n a) (sb : SE Φ k n b) {X : Cx} {sc : Scope} {x y : Expr} {pos : Pos} (O : OkX Φ k n X sc) (ha : chkE n sc a x = true) (hb : chkE n sc b y = true) :
    PT X (.Compare x [if neg then .NotEq else .Eq] [y] pos) (tTest (tEq X.K Φ neg a b)) := by
  obtain ⟨ta, tb, h1, h2, h3⟩ := eq_sides (neg := neg) sa sb O ha hb
  exact (pt_cmpR (op_eqR O.lv0.units neg) h1 h2 (by cases neg <;> exact nobehind _ (by decide) (by decide))).imp fun σ H Q q => h3 σ H _ q
theorem chk_eq {a b : T} {sc : Scope} {e : Expr} (h : chkE n sc (.eq a b) e = true) : ∃ x y pos, e = .Compare x [.Eq] [y] pos ∧ (chkE n sc a x = true ∧ chkE n sc b y = true) := by
  cases e <;> try (simp [chkE] at h; done)
  rename_i l ops cs _
  rcases ops with _ | ⟨op, _ | ⟨op2, r⟩⟩
  · simp [chkE] at h
  · rcases cs with _ | ⟨c, _ | ⟨c2, r2⟩⟩
    · cases op <;> simp [chkE] at h
    · cases op <;> try (simp [chkE] at h; done)
      simp only [chkE, Bool.and_eq_true] at h
      exact ⟨_, _, _, rfl, h⟩
    · cases op <;> simp [chkE] at h
  · cases op <;> simp [chkE] at h
theorem chk_ne {a b : T} {sc : Scope} {e : Expr} (h : chkE n sc (.ne a b) e = true) : ∃ x y pos, e = .Compare x [.NotEq] [y] pos ∧ (chkE n sc a x = true ∧ chkE n sc b y = true) := by
  cases e <;> try (simp [chkE] at h; done)
  rename_i l ops cs _
  rcases ops with _ | ⟨op, _ | ⟨op2, r⟩⟩
  · simp [chkE] at h
  · rcases cs with _ | ⟨c, _ | ⟨c2, r2⟩⟩
    · cases op <;> simp [chkE] at h
    · cases op <;> try (simp [chkE] at h; done)
      simp only [chkE, Bool.and_eq_true] at h
      exact ⟨_, _, _, rfl, h⟩
    · cases op <;> simp [chkE] at h
  · cases op <;> simp [chkE] at h
theorem SE_eq {a b : T} (sa : SE Φ k n a) (sb : SE Φ k n b) : SE Φ k n (.eq a b) := by
  intro X sc e O h
  obtain ⟨x, y, pos, rfl, hh⟩ := chk_eq h
  refine (SE_eqs (neg := false) sa sb O hh.1 hh.2).imp ?_
  rintro σ H Q ⟨B, env, Γ, d, e', w, hd, q⟩
  exact ⟨B, env, Γ, d, e', w, by rw [evE_eq] at hd; exact hd, q⟩
theorem ST_eq {a b : T} (sa : SE Φ k n a) (sb : SE Φ k n b) : ST Φ k n (.eq a b) := by
  intro X sc e O h
  obtain ⟨x, y, pos, rfl, hh⟩ := chk_eq h
  refine (ST_eqs (neg := false) sa sb O hh.1 hh.2).imp fun σ H Q hq => ?_
  obtain ⟨B, env, Γ, d, e', w, hd, q⟩ := tT_of σ H Q hq
  exact ⟨B, env, Γ, d, e', w, by rw [evE_eq] at hd; exact hd, q⟩
theorem SE_ne {a b : T} (sa : SE Φ k n a) (sb : SE Φ k n b) : SE Φ k n (.ne a b) := by
  intro X sc e O h
  obtain ⟨x, y, pos, rfl, hh⟩ := chk_ne h
  refine (SE_eqs (neg := true) sa sb O hh.1 hh.2).imp ?_
  rintro σ H Q ⟨B, env, Γ, d, e', w, hd, q⟩
  exact ⟨B, env, Γ, d, e', w, by rw [evE_ne] at hd; exact hd, q⟩
theorem ST_ne {a b : T} (sa : SE Φ k n a) (sb : SE Φ k n b) : ST Φ k n (.ne a b) := by
  intro X sc e O h
  obtain ⟨x, y, pos, rfl, hh⟩ := chk_ne h
  refine (ST_eqs (neg := true) sa sb O hh.1 hh.2).imp fun σ H Q hq => ?_
  obtain ⟨B, env, Γ, d, e', w, hd, q⟩ := tT_of σ H Q hq
  exact ⟨B, env, Γ, d, e', w, by rw [evE_ne] at hd; exact hd, q⟩

/-! ### in -/
def inR (neg : Bool) (K : PySem.W.Frag) : R2 := if neg then rNotInD K else rInD K
theorem op_inR {X : Cx} (hu : X.A.units + 65 < cLine) (neg : Bool) : OpR X (compareOp (if neg then .NotIn else .In)) (inR neg X.K) := by
  cases neg with
  | true => exact op_notInD hu
  | false => exact op_inD hu
theorem inD_py (x : D) : ∀ ys : List D, ((pyL ys).any fun z => PyData.eqv z x.py) = inD x ys
  | [] => rfl
  | y :: ys => by
    have ih := inD_py x ys
    unfold inD at ih ⊢
    rw [pyL, List.any_cons, List.any_cons, ih]; rfl
theorem inR_of {K : PySem.W.Frag} {neg : Bool} {H : Hp} {x y : V} {a : D} {o : Bool} {ys : List D} {F S F' S' : List Addr} {Q : VK} (ra : Rep K H x a F S) (rb : Rep K H y (.lst o ys) F' S') (c : (eqOk a && eqOk (.lst o ys)) = true) (q : Q (.bl (if neg then !inD a ys else inD a ys)) H) : inR neg K x y H Q := by
  simp only [Bool.and_eq_true] at c
  cases neg with
  | true => exact ⟨_, _, ra.dp, rb.dp, c.1, c.2, by rw [inD_py]; exact q⟩
  | false => exact ⟨_, _, ra.dp, rb.dp, c.1, c.2, by rw [inD_py]; exact q⟩
/-- both sides -/
def evIn (Φ : Fs) (neg : Bool) (a b : T) (e : Env) : Option (D × Env) := match (if isP a && isP b then (evP a e).map fun d => (d, e) else evE Φ a e) with
    | some (x, e) => match evO Φ b e with
      | some (.lst o ys, e) => if eqOk x && eqOk (.lst o ys) then some (.bl (if neg then !inD x ys else inD x ys), e) else none
      | _ => none
    | none => none
theorem evE_inn (a b : T) (e : Env) : evE Φ (.inn a b) e = evIn Φ false a b e := by rw [evE]; rfl
theorem evE_nin (a b : T) (e : Env) : evE Φ (.nin a b) e = evIn Φ true a b e := by rw [evE]; rfl
/-- a reading of both sides -/
def tIn (K : PySem.W.Frag) (Φ : Fs) (neg : Bool) (a b : T) : TE := fun σ H Q => ∃ B e Γ d e', Wd K B σ e Γ H ∧ evIn Φ neg a b e = some (d, e') ∧ ∀ v H', Wd K B σ e' ((v, d) :: Γ) H' → Q v H'
theorem in_sides {X : Cx} {sc : Scope} {a b : T} {x y : Expr} {neg : Bool} (sa : SE Φ k n a) (sb : SE Φ k n b) (O : OkX Φ k n X sc) (ha : chkE n sc a x = true) (hb : chkE n sc b y = true) :
    ∃ ta tb, PE X x ta ∧ PE X y tb ∧ ∀ σ H Q, tIn X.K Φ neg a b σ H Q → tOp (inR neg X.K) ta tb σ H Q := by
  by_cases p : (isP a && isP b) = true
  · simp only [Bool.and_eq_true] at p
    refine ⟨_, _, evP_ok O p.1 ha, evP_ok O p.2 hb, ?_⟩
    rintro σ H Q ⟨B, env, Γ, d, e', w, hd, q⟩
    unfold evIn evO at hd
    rw [if_pos (by rw [p.1, p.2]; rfl), p.2] at hd
    simp only [if_true] at hd
    cases h1 : evP a env with
    | none => rw [h1] at hd; cases hd
    | some dx =>
      cases h2 : evP b env with
      | none => rw [h1] at hd; simp [h2] at hd
      | some dy =>
        rw [h1] at hd
        simp only [Option.map_some, h2] at hd
        cases dy <;> try (cases hd; done)
        rename_i o ys
        simp only at hd
        split at hd
        · rename_i c
          obtain ⟨rfl, rfl⟩ := inj2 hd
          refine ⟨B, env, Γ, dx, w, h1, fun v bv => ⟨B, env, Γ, _, w, h2, fun u bu => ?_⟩⟩
          obtain ⟨F, S, r1⟩ := bv.rep
          obtain ⟨F', S', r2⟩ := bu.rep
          exact inR_of r1 r2 c (q _ H (w.bl _))
        · cases hd
  · refine ⟨_, _, sa O ha, sb.op O hb, ?_⟩
    rintro σ H Q ⟨B, env, Γ, d, e', w, hd, q⟩
    unfold evIn at hd
    rw [if_neg p] at hd
    split at hd
    · rename_i dx e1 h1
      split at hd
      · rename_i o ys e2 h2
        split at hd
        · rename_i c
          obtain ⟨rfl, rfl⟩ := inj2 hd
          refine ⟨B, env, Γ, dx, e1, w, h1, fun v H1 w1 => ⟨B, e1, _, _, e2, w1, h2, fun u H2 R bu w2 _ => ?_⟩⟩
          obtain ⟨F, S, r1⟩ := w2.head
          obtain ⟨F', S', r2⟩ := bu.rep
          exact inR_of r1 r2 c (q _ H2 (w2.drop.bl _))
        · cases hd
      · cases hd
    · cases hd
theorem SE_ins {neg : Bool} {a b : T} (sa : SE Φ k n a) (sb : SE Φ k n b) {X : Cx} {sc : Scope} {x y : Expr} {pos : Pos} (O : OkX Φ k n X sc) (ha : chkE n sc a x = true) (hb : chkE n sc b y = true) (hm : behindInMarks (if neg then .NotIn else .In) y = false) :
    PE X (.Compare x [if neg then .NotIn else .In] [y] pos) (tIn X.K Φ neg a b) := by
  obtain ⟨ta, tb, h1, h2, h3⟩ := in_sides (neg := neg) sa sb O ha hb
  exact (pe_cmpR (op_inR (by have := O.lv0.un; omega) neg) h1 h2 hm).imp h3
theorem ST_ins {neg : Bool} {a b : T} (sa : SE Φ k n a) (sb : SE Φ k n b) {X : Cx} {sc : Scope} {x y : Expr} {pos : Pos} (O : OkX Φ k n X sc) (ha : chkE n sc a x = true) (hb : chkE n sc b y = true) (hm : behindInMarks (if neg then .NotIn else .In) y = false) :
    PT X (.Compare x [if neg then .NotIn else .In] [y] pos) (tTest (tIn X.K Φ neg a b)) := by
  obtain ⟨ta, tb, h1, h2, h3⟩ := in_sides (neg := neg) sa sb O ha hb
  exact (pt_cmpR (op_inR (by have := O.lv0.un; omega) neg) h1 h2 hm).imp fun σ H Q q => h3 σ H _ q
theorem chk_inn {a b : T} {sc : Scope} {e : Expr} (h : chkE n sc (.inn a b) e = true) : ∃ x y pos, e = .Compare x [.In] [y] pos ∧ (chkE n sc a x = true ∧ chkE n sc b y = true) ∧ behindInMarks .In y = false := by
  cases e <;> try (simp [chkE] at h; done)
  rename_i l ops cs _
  rcases ops with _ | ⟨op, _ | ⟨op2, r⟩⟩
  · simp [chkE] at h
  · rcases cs with _ | ⟨c, _ | ⟨c2, r2⟩⟩
    · cases op <;> simp [chkE] at h
    · cases op <;> try (simp [chkE] at h; done)
      simp only [chkE, Bool.and_eq_true, Bool.not_eq_true'] at h
      exact ⟨_, _, _, rfl, ⟨h.1.2, h.2⟩, h.1.1⟩
    · cases op <;> simp [chkE] at h
  · cases op <;> simp [chkE] at h
theorem chk_nin {a b : T} {sc : Scope} {e : Expr} (h : chkE n sc (.nin a b) e = true) : ∃ x y pos, e = .Compare x [.NotIn] [y] pos ∧ (chkE n sc a x = true ∧ chkE n sc b y = true) ∧ behindInMarks .NotIn y = false := by
  cases e <;> try (simp [chkE] at h; done)
  rename_i l ops cs _
  rcases ops with _ | ⟨op, _ | ⟨op2, r⟩⟩
  · simp [chkE] at h
  · rcases cs with _ | ⟨c, _ | ⟨c2, r2⟩⟩
    · cases op <;> simp [chkE] at h
    · cases op <;> try (simp [chkE] at h; done)
      simp only [chkE, Bool.and_eq_true, Bool.not_eq_true'] at h
      exact ⟨_, _, _, rfl, ⟨h.1.2, h.2⟩, h.1.1⟩
    · cases op <;> simp [chkE] at h
  · cases op <;> simp [chkE] at h
theorem SE_inn {a b : T} (sa : SE Φ k n a) (sb : SE Φ k n b) : SE Φ k n (.inn a b) := by
  intro X sc e O h
  obtain ⟨x, y, pos, rfl, hh⟩ := chk_inn h
  refine (SE_ins (neg := false) sa sb O hh.1.1 hh.1.2 hh.2).imp ?_
  rintro σ H Q ⟨B, env, Γ, d, e', w, hd, q⟩
  exact ⟨B, env, Γ, d, e', w, by rw [evE_inn] at hd; exact hd, q⟩
theorem ST_inn {a b : T} (sa : SE Φ k n a) (sb : SE Φ k n b) : ST Φ k n (.inn a b) := by
  intro X sc e O h
  obtain ⟨x, y, pos, rfl, hh⟩ := chk_inn h
  refine (ST_ins (neg := false) sa sb O hh.1.1 hh.1.2 hh.2).imp fun σ H Q hq => ?_
  obtain ⟨B, env, Γ, d, e', w, hd, q⟩ := tT_of σ H Q hq
  exact ⟨B, env, Γ, d, e', w, by rw [evE_inn] at hd; exact hd, q⟩
theorem SE_nin {a b : T} (sa : SE Φ k n a) (sb : SE Φ k n b) : SE Φ k n (.nin a b) := by
  intro X sc e O h
  obtain ⟨x, y, pos, rfl, hh⟩ := chk_nin h
  refine (SE_ins (neg := true) sa sb O hh.1.1 hh.1.2 hh.2).imp ?_
  rintro σ H Q ⟨B, env, Γ, d, e', w, hd, q⟩
  exact ⟨B, env, Γ, d, e', w, by rw [evE_nin] at hd; exact hd, q⟩
theorem ST_nin {a b : T} (sa : SE Φ k n a) (sb : SE Φ k n b) : ST Φ k n (.nin a b) := by
  intro X sc e O h
  obtain ⟨x, y, pos, rfl, hh⟩ := chk_nin h
  refine (ST_ins (neg := true) sa sb O hh.1.1 hh.1.2 hh.2).imp fun σ H Q hq => ?_
  obtain ⟨B, env, Γ, d, e', w, hd, q⟩ := tT_of σ H Q hq
  exact ⟨B, env, Γ, d, e', w, by rw [evE_nin] at hd; exact hd, q⟩

/-! ### is None -/
theorem Rep.non_iff {K : PySem.W.Frag} {H : Hp} {v : V} {d : D} {F S : List Addr} (r : Rep K H v d F S) : decide (v = .non) = (match d with | .non => true | _ => false) := by
  cases r <;> rfl
theorem isN_imp {K : PySem.W.Frag} {a : T} {σ : L2.St} {H : Hp} {Q : VK} (h : tD K Φ (.isN a) σ H Q) : tIsN (tO K Φ a) σ H Q := by
  obtain ⟨B, env, Γ, d, e', w, hd, q⟩ := h
  rw [evE] at hd
  change (match evO Φ a env with | some (.non, e) => some (D.bl true, e) | some (_, e) => some (.bl false, e) | none => none) = some (d, e') at hd
  split at hd
  · rename_i e1 h1
    obtain ⟨rfl, rfl⟩ := inj2 hd
    refine ⟨B, env, Γ, _, e1, w, h1, fun v H1 R bv w1 _ => ?_⟩
    obtain ⟨F, S, r⟩ := bv.rep
    rw [r.non_iff]
    exact q _ H1 (w1.bl _)
  · rename_i d1 e1 hn h1
    obtain ⟨rfl, rfl⟩ := inj2 hd
    refine ⟨B, env, Γ, _, e1, w, h1, fun v H1 R bv w1 _ => ?_⟩
    obtain ⟨F, S, r⟩ := bv.rep
    rw [r.non_iff]
    cases d1 <;> first | exact q _ H1 (w1.bl _) | exact (hn rfl).elim
  · cases hd
theorem nisN_imp {K : PySem.W.Frag} {a : T} {σ : L2.St} {H : Hp} {Q : VK} (h : tD K Φ (.nisN a) σ H Q) : tNotN (tO K Φ a) σ H Q := by
  obtain ⟨B, env, Γ, d, e', w, hd, q⟩ := h
  rw [evE] at hd
  change (match evO Φ a env with | some (.non, e) => some (D.bl false, e) | some (_, e) => some (.bl true, e) | none => none) = some (d, e') at hd
  split at hd
  · rename_i e1 h1
    obtain ⟨rfl, rfl⟩ := inj2 hd
    refine ⟨B, env, Γ, _, e1, w, h1, fun v H1 R bv w1 _ => ?_⟩
    obtain ⟨F, S, r⟩ := bv.rep
    rw [r.non_iff]
    exact q _ H1 (w1.bl _)
  · rename_i d1 e1 hn h1
    obtain ⟨rfl, rfl⟩ := inj2 hd
    refine ⟨B, env, Γ, _, e1, w, h1, fun v H1 R bv w1 _ => ?_⟩
    obtain ⟨F, S, r⟩ := bv.rep
    rw [r.non_iff]
    cases d1 <;> first | exact q _ H1 (w1.bl _) | exact (hn rfl).elim
  · cases hd
theorem chk_isN {a : T} {sc : Scope} {e : Expr} (h : chkE n sc (.isN a) e = true) : ∃ x j p p', e = .Compare x [.Is] [.Constant .none j p] p' ∧ chkE n sc a x = true := by
  cases e <;> try (simp [chkE] at h; done)
  rename_i l ops cs _
  rcases ops with _ | ⟨op, _ | ⟨op2, r⟩⟩
  · simp [chkE] at h
  · rcases cs with _ | ⟨c, _ | ⟨c2, r2⟩⟩
    · cases op <;> simp [chkE] at h
    · cases op <;> try (simp [chkE] at h; done)
      cases c <;> try (simp [chkE] at h; done)
      rename_i cc _ _
      cases cc <;> try (simp [chkE] at h; done)
      simp only [chkE] at h
      exact ⟨_, _, _, _, rfl, h⟩
    · cases op <;> simp [chkE] at h
  · cases op <;> simp [chkE] at h
theorem chk_nisN {a : T} {sc : Scope} {e : Expr} (h : chkE n sc (.nisN a) e = true) : ∃ x j p p', e = .Compare x [.IsNot] [.Constant .none j p] p' ∧ chkE n sc a x = true := by
  cases e <;> try (simp [chkE] at h; done)
  rename_i l ops cs _
  rcases ops with _ | ⟨op, _ | ⟨op2, r⟩⟩
  · simp [chkE] at h
  · rcases cs with _ | ⟨c, _ | ⟨c2, r2⟩⟩
    · cases op <;> simp [chkE] at h
    · cases op <;> try (simp [chkE] at h; done)
      cases c <;> try (simp [chkE] at h; done)
      rename_i cc _ _
      cases cc <;> try (simp [chkE] at h; done)
      simp only [chkE] at h
      exact ⟨_, _, _, _, rfl, h⟩
    · cases op <;> simp [chkE] at h
  · cases op <;> simp [chkE] at h
theorem SE_isN {a : T} (s : SE Φ k n a) : SE Φ k n (.isN a) := by
  intro X sc e O h
  obtain ⟨x, j, p, p', rfl, h⟩ := chk_isN h
  exact (pe_cmp (pc_isN (s.op O h))).imp fun σ H Q q => isN_imp q
theorem ST_isN {a : T} (s : SE Φ k n a) : ST Φ k n (.isN a) := by
  intro X sc e O h
  obtain ⟨x, j, p, p', rfl, h⟩ := chk_isN h
  exact (pt_cmp (pc_isN (s.op O h))).imp fun σ H Q q => isN_imp (tT_of σ H Q q)
theorem SE_nisN {a : T} (s : SE Φ k n a) : SE Φ k n (.nisN a) := by
  intro X sc e O h
  obtain ⟨x, j, p, p', rfl, h⟩ := chk_nisN h
  exact (pe_cmp (pc_notN (s.op O h))).imp fun σ H Q q => nisN_imp q
theorem ST_nisN {a : T} (s : SE Φ k n a) : ST Φ k n (.nisN a) := by
  intro X sc e O h
  obtain ⟨x, j, p, p', rfl, h⟩ := chk_nisN h
  exact (pt_cmp (pc_notN (s.op O h))).imp fun σ H Q q => nisN_imp (tT_of σ H Q q)

/-! ### chains -/
theorem chain_imp {K : PySem.W.Frag} {o o' : Cop} {a b c : T} {σ : L2.St} {H : Hp} {Q : VK} (h : tD K Φ (.chain o o' a b c) σ H Q) : tChain (rCmp o) (rCmp o') (tD K Φ a) (tD K Φ b) (tD K Φ c) σ H Q := by
  obtain ⟨B, env, Γ, d, e', w, hd, q⟩ := h
  rw [evE] at hd
  split at hd
  · rename_i i e1 h1
    split at hd
    · rename_i j e2 h2
      refine ⟨B, env, Γ, _, e1, w, h1, fun v H1 w1 => ⟨B, e1, _, _, e2, w1, h2, fun u H2 w2 => ?_⟩⟩
      have ev := w2.headInt
      have ew := w2.drop.headInt
      subst ev ew
      refine ⟨i, j, rfl, rfl, _, rfl, ?_⟩
      split at hd
      · rename_i hc
        rw [if_pos hc]
        split at hd
        · rename_i kk e3 h3
          obtain ⟨rfl, rfl⟩ := inj2 hd
          refine ⟨B, e2, _, _, e3, w2, h3, fun u' H3 w3 => ?_⟩
          have ez := w3.headInt
          subst ez
          exact ⟨j, kk, rfl, rfl, q _ H3 (w3.drop.drop.drop.bl _)⟩
        · cases hd
      · rename_i hc
        rw [if_neg hc]
        obtain ⟨rfl, rfl⟩ := inj2 hd
        exact q _ H2 (w2.drop.drop.bl _)
    · cases hd
  · cases hd
theorem chk_chain {o o' : Cop} {a b c : T} {sc : Scope} {e : Expr} (h : chkE n sc (.chain o o' a b c) e = true) : ∃ x p q y z pos, e = .Compare x [p, q] [y, z] pos ∧ cop o p = true ∧ cop o' q = true ∧ chkE n sc a x = true ∧ chkE n sc b y = true ∧ chkE n sc c z = true := by
  cases e <;> try (simp [chkE] at h; done)
  rename_i l ops cs _
  match ops, cs, h with
  | [p, q], [y, z], h =>
    simp only [chkE, Bool.and_eq_true] at h
    exact ⟨_, _, _, _, _, _, rfl, h.1.1.1.1, h.1.1.1.2, h.1.1.2, h.1.2, h.2⟩
theorem marks2 {o o' : Cop} {p q : CmpOp} (h1 : cop o p = true) (h2 : cop o' q = true) (y z : Expr) : lastMarks [p, q] [y, z] = false := by
  show behindInMarks q z = false
  exact cop_mark h2 z
theorem SE_chain {o o' : Cop} {a b c : T} (sa : SE Φ k n a) (sb : SE Φ k n b) (sc' : SE Φ k n c) : SE Φ k n (.chain o o' a b c) := by
  intro X sc e O h
  obtain ⟨x, p, q, y, z, pos, rfl, h1, h2, h3, h4, h5⟩ := chk_chain h
  exact (pe_chain (op_cmp h1) (op_cmp h2) (sa O h3) (sb O h4) (sc' O h5) (marks2 h1 h2 y z)).imp fun σ H Q q => chain_imp q
theorem ST_chain {o o' : Cop} {a b c : T} (sa : SE Φ k n a) (sb : SE Φ k n b) (sc' : SE Φ k n c) : ST Φ k n (.chain o o' a b c) := by
  intro X sc e O h
  obtain ⟨x, p, q, y, z, pos, rfl, h1, h2, h3, h4, h5⟩ := chk_chain h
  exact (pt_chain (op_cmp h1) (op_cmp h2) (sa O h3) (sb O h4) (sc' O h5) (marks2 h1 h2 y z)).imp fun σ H Q q => chain_imp (tT_of σ H Q q)

/-! ### and, or, not -/
theorem chk_and {a b : T} {sc : Scope} {e : Expr} (h : chkE n sc (.and a b) e = true) : ∃ x y r pos, e = .BoolOp .And (x :: y :: r) pos ∧ chkE n sc a x = true ∧ (r = [] ∧ chkE n sc b y = true ∨ chkE n sc b (.BoolOp .And (y :: r) pos) = true) := by
  cases e <;> try (simp [chkE] at h; done)
  rename_i op vs pos
  cases op <;> try (simp [chkE] at h; done)
  match vs, h with
  | x :: y :: [], h =>
    simp only [chkE, Bool.and_eq_true] at h
    exact ⟨x, y, [], pos, rfl, h.1, .inl ⟨rfl, h.2⟩⟩
  | x :: y :: z :: r, h =>
    simp only [chkE, Bool.and_eq_true] at h
    exact ⟨x, y, z :: r, pos, rfl, h.1, .inr h.2⟩
theorem chk_or {a b : T} {sc : Scope} {e : Expr} (h : chkE n sc (.or a b) e = true) : ∃ x y r pos, e = .BoolOp .Or (x :: y :: r) pos ∧ chkE n sc a x = true ∧ (r = [] ∧ chkE n sc b y = true ∨ chkE n sc b (.BoolOp .Or (y :: r) pos) = true) := by
  cases e <;> try (simp [chkE] at h; done)
  rename_i op vs pos
  cases op <;> try (simp [chkE] at h; done)
  match vs, h with
  | x :: y :: [], h =>
    simp only [chkE, Bool.and_eq_true] at h
    exact ⟨x, y, [], pos, rfl, h.1, .inl ⟨rfl, h.2⟩⟩
  | x :: y :: z :: r, h =>
    simp only [chkE, Bool.and_eq_true] at h
    exact ⟨x, y, z :: r, pos, rfl, h.1, .inr h.2⟩
theorem SE_and {a b : T} (sa : SE Φ k n a) (sb : SE Φ k n b) : SE Φ k n (.and a b) := by
  intro X sc e O h
  obtain ⟨x, y, r, pos, rfl, h1, h2⟩ := chk_and h
  have hb : PE X (.BoolOp .And (y :: r) pos) (tD X.K Φ b) := by
    rcases h2 with ⟨rfl, h2⟩ | h2
    · exact pe_one (sb O h2)
    · exact sb O h2
  refine (pe_and (sa O h1) hb).imp ?_
  rintro σ H Q ⟨B, env, Γ, d, e', w, hd, q⟩
  rw [evE] at hd
  split at hd
  · rename_i e1 h1
    split at hd
    · rename_i c e2 h2
      obtain ⟨rfl, rfl⟩ := inj2 hd
      refine ⟨B, env, Γ, _, e1, w, h1, fun v H1 w1 => ⟨true, w1.headBl, ?_⟩⟩
      rw [if_pos rfl]
      exact ⟨B, e1, Γ, _, e2, w1.drop, h2, fun u H2 w2 => q u H2 w2⟩
    · cases hd
  · rename_i e1 h1
    obtain ⟨rfl, rfl⟩ := inj2 hd
    refine ⟨B, env, Γ, _, e1, w, h1, fun v H1 w1 => ⟨false, w1.headBl, ?_⟩⟩
    rw [if_neg Bool.false_ne_true]
    exact q _ H1 (w1.drop.bl _)
  · cases hd
theorem SE_or {a b : T} (sa : SE Φ k n a) (sb : SE Φ k n b) : SE Φ k n (.or a b) := by
  intro X sc e O h
  obtain ⟨x, y, r, pos, rfl, h1, h2⟩ := chk_or h
  have hb : PE X (.BoolOp .Or (y :: r) pos) (tD X.K Φ b) := by
    rcases h2 with ⟨rfl, h2⟩ | h2
    · exact pe_one (sb O h2)
    · exact sb O h2
  refine (pe_or (sa O h1) hb).imp ?_
  rintro σ H Q ⟨B, env, Γ, d, e', w, hd, q⟩
  rw [evE] at hd
  split at hd
  · rename_i e1 h1
    split at hd
    · rename_i c e2 h2
      obtain ⟨rfl, rfl⟩ := inj2 hd
      refine ⟨B, env, Γ, _, e1, w, h1, fun v H1 w1 => ⟨false, w1.headBl, ?_⟩⟩
      rw [if_neg Bool.false_ne_true]
      exact ⟨B, e1, Γ, _, e2, w1.drop, h2, fun u H2 w2 => q u H2 w2⟩
    · cases hd
  · rename_i e1 h1
    obtain ⟨rfl, rfl⟩ := inj2 hd
    refine ⟨B, env, Γ, _, e1, w, h1, fun v H1 w1 => ⟨true, w1.headBl, ?_⟩⟩
    rw [if_pos rfl]
    exact q _ H1 (w1.drop.bl _)
  · cases hd
/-- a chain of and, or is one test, whatever its 'whole' is -/
def SW (Φ : Fs) (k : Nat) (n : Nm) (op : BoolOp) (t : T) : Prop := ∀ {X : Cx} {sc : Scope} {es : List Expr} {pos : Pos}, OkX Φ k n X sc → chkE n sc t (.BoolOp op es pos) = true → PW X (.BoolOp op es pos) (tT X.K Φ t)
theorem and_imp {K : PySem.W.Frag} {a b : T} {σ : L2.St} {H : Hp} {Q : Bool → Hp → Prop} (h : tT K Φ (.and a b) σ H Q) : tAnd (tT K Φ a) (tT K Φ b) σ H Q := by
  obtain ⟨B, env, Γ, d, e', w, hd, q⟩ := h
  rw [evE] at hd
  split at hd
  · rename_i e1 h1
    split at hd
    · rename_i c e2 h2
      obtain ⟨hc, rfl⟩ := inj2 hd
      cases hc
      refine ⟨B, env, Γ, _, e1, w, h1, fun H1 w1 => ?_⟩
      show if true = true then _ else _
      rw [if_pos rfl]
      exact ⟨B, e1, Γ, _, e2, w1, h2, q⟩
    · cases hd
  · rename_i e1 h1
    obtain ⟨hc, rfl⟩ := inj2 hd
    cases hc
    refine ⟨B, env, Γ, _, e1, w, h1, fun H1 w1 => ?_⟩
    show if false = true then _ else _
    rw [if_neg Bool.false_ne_true]
    exact q H1 w1
  · cases hd
theorem or_imp {K : PySem.W.Frag} {a b : T} {σ : L2.St} {H : Hp} {Q : Bool → Hp → Prop} (h : tT K Φ (.or a b) σ H Q) : tOr (tT K Φ a) (tT K Φ b) σ H Q := by
  obtain ⟨B, env, Γ, d, e', w, hd, q⟩ := h
  rw [evE] at hd
  split at hd
  · rename_i e1 h1
    split at hd
    · rename_i c e2 h2
      obtain ⟨hc, rfl⟩ := inj2 hd
      cases hc
      refine ⟨B, env, Γ, _, e1, w, h1, fun H1 w1 => ?_⟩
      show if false = true then _ else _
      rw [if_neg Bool.false_ne_true]
      exact ⟨B, e1, Γ, _, e2, w1, h2, q⟩
    · cases hd
  · rename_i e1 h1
    obtain ⟨hc, rfl⟩ := inj2 hd
    cases hc
    refine ⟨B, env, Γ, _, e1, w, h1, fun H1 w1 => ?_⟩
    show if true = true then _ else _
    rw [if_pos rfl]
    exact q H1 w1
  · cases hd
theorem _root_.L2.PW.imp {X : Cx} {e : Expr} {t t' : TT} (h : PW X e t) (i : ∀ σ H Q, t' σ H Q → t σ H Q) : PW X e t' := ⟨fun w pins s σ H Q I q => h.run w pins s σ H Q I (i σ H Q q)⟩
theorem SW_and {a b : T} (sa : ST Φ k n a) (sb : ST Φ k n b) (sw : SW Φ k n .And b) : SW Φ k n .And (.and a b) := by
  intro X sc es pos O h
  obtain ⟨x, y, r, pos', e, h1, h2⟩ := chk_and h
  cases e
  refine (pw_and (sa O h1) ?_).imp fun σ H Q q => and_imp q
  rcases h2 with ⟨rfl, h2⟩ | h2
  · exact pw_and1 (sb O h2)
  · exact sw O h2
theorem SW_or {a b : T} (sa : ST Φ k n a) (sb : ST Φ k n b) (sw : SW Φ k n .Or b) : SW Φ k n .Or (.or a b) := by
  intro X sc es pos O h
  obtain ⟨x, y, r, pos', e, h1, h2⟩ := chk_or h
  cases e
  refine (pw_or (sa O h1) ?_).imp fun σ H Q q => or_imp q
  rcases h2 with ⟨rfl, h2⟩ | h2
  · exact pw_or1 (sb O h2)
  · exact sw O h2
theorem ST_and {a b : T} (sw : SW Φ k n .And (.and a b)) : ST Φ k n (.and a b) := by
  intro X sc e O h
  obtain ⟨x, y, r, pos, rfl, h1, h2⟩ := chk_and h
  exact (sw O h).pt
theorem ST_or {a b : T} (sw : SW Φ k n .Or (.or a b)) : ST Φ k n (.or a b) := by
  intro X sc e O h
  obtain ⟨x, y, r, pos, rfl, h1, h2⟩ := chk_or h
  exact (sw O h).pt
theorem chk_not {a : T} {sc : Scope} {e : Expr} (h : chkE n sc (.not a) e = true) : ∃ x pos, e = .UnaryOp .Not x pos ∧ chkE n sc a x = true := by
  cases e <;> try (simp [chkE] at h; done)
  rename_i op x pos
  cases op <;> try (simp [chkE] at h; done)
  simp only [chkE] at h
  exact ⟨x, pos, rfl, h⟩
theorem SE_not {a : T} (s : SE Φ k n a) : SE Φ k n (.not a) := by
  intro X sc e O h
  obtain ⟨x, pos, rfl, h⟩ := chk_not h
  refine (pe_not (s O h)).imp ?_
  rintro σ H Q ⟨B, env, Γ, d, e', w, hd, q⟩
  rw [evE] at hd
  split at hd
  · rename_i c e1 h1
    obtain ⟨rfl, rfl⟩ := inj2 hd
    exact ⟨B, env, Γ, _, e1, w, h1, fun v H1 w1 => ⟨c, w1.headBl, q _ H1 (w1.drop.bl _)⟩⟩
  · cases hd
theorem ST_not {a : T} (s : ST Φ k n a) : ST Φ k n (.not a) := by
  intro X sc e O h
  obtain ⟨x, pos, rfl, h⟩ := chk_not h
  refine (pt_not (s O h)).imp ?_
  rintro σ H Q ⟨B, env, Γ, d, e', w, hd, q⟩
  rw [evE] at hd
  split at hd
  · rename_i c e1 h1
    obtain ⟨hc, rfl⟩ := inj2 hd
    cases hc
    exact ⟨B, env, Γ, _, e1, w, h1, q⟩
  · cases hd
theorem chk_ife {c a b : T} {sc : Scope} {e : Expr} (h : chkE n sc (.ife c a b) e = true) : ∃ x y z pos, e = .IfExp x y z pos ∧ chkE n sc c x = true ∧ chkE n sc a y = true ∧ chkE n sc b z = true := by
  cases e <;> try (simp [chkE] at h; done)
  simp only [chkE, Bool.and_eq_true] at h
  exact ⟨_, _, _, _, rfl, h.1.1, h.1.2, h.2⟩
theorem SE_ife {c a b : T} (s : ST Φ k n c) (sa : SE Φ k n a) (sb : SE Φ k n b) : SE Φ k n (.ife c a b) := by
  intro X sc e O h
  obtain ⟨x, y, z, pos, rfl, h1, h2, h3⟩ := chk_ife h
  refine (pe_ifExp (s O h1) (sa O h2) (sb O h3)).imp ?_
  rintro σ H Q ⟨B, env, Γ, d, e', w, hd, q⟩
  rw [evE] at hd
  split at hd
  · rename_i cc e1 h1
    refine ⟨B, env, Γ, cc, e1, w, h1, fun H1 w1 => ?_⟩
    cases cc with
    | true => exact ⟨B, e1, Γ, _, _, w1, by simpa using hd, q⟩
    | false => exact ⟨B, e1, Γ, _, _, w1, by simpa using hd, q⟩
  · cases hd
theorem ST_ife {c a b : T} (s : ST Φ k n c) (sa : ST Φ k n a) (sb : ST Φ k n b) : ST Φ k n (.ife c a b) := by
  intro X sc e O h
  obtain ⟨x, y, z, pos, rfl, h1, h2, h3⟩ := chk_ife h
  refine (pt_ifExp (s O h1) (sa O h2) (sb O h3)).imp ?_
  rintro σ H Q ⟨B, env, Γ, d, e', w, hd, q⟩
  rw [evE] at hd
  split at hd
  · rename_i cc e1 h1
    refine ⟨B, env, Γ, cc, e1, w, h1, fun H1 w1 => ?_⟩
    cases cc with
    | true => exact ⟨B, e1, Γ, _, _, w1, by simpa using hd, q⟩
    | false => exact ⟨B, e1, Γ, _, _, w1, by simpa using hd, q⟩
  · cases hd
end
end Sr
set_option Elab.async false
set_option linter.all false
set_option maxRecDepth 100000
set_option maxHeartbeats 2000000
/-! # Sr: calls -/
namespace Sr
open PySem PySem.Spec PyProof.Rows L2

/-! ### what is handed over, and comes back -/
def ioR : List Ag → List V → Env → List Rt
  | .io i :: as, v :: vs, e => match e.at i with
    | some d => (v, d) :: ioR as vs (e.set i none)
    | none => []
  | _ :: as, _ :: vs, e => ioR as vs e
  | _, _, _ => []
section
variable {K : PySem.W.Frag} {B : Bs} {σ : L2.St} {H H' : Hp}
theorem Wd.front {e : Env} {Γ Γ' : List Rt} (w : Wd K B σ e Γ H) (p : Γ.Perm Γ') : Wd K B σ e Γ' H := ⟨w.fit, w.pr, w.w.perm (p.append_right _)⟩
theorem take_io : ∀ {as : List Ag} {vs : List V} {e e2 : Env} {Γ : List Rt}, Wd K B σ e Γ H → AgS σ as vs → agIo as e = some e2 → Wd K B σ e2 (ioR as vs e ++ Γ) H
  | [], vs, e, e2, Γ, w, s, h => by
    cases h
    cases vs with
    | nil => exact w
    | cons _ _ => exact s.elim
  | .val d :: as, [], _, _, _, _, s, _ => s.elim
  | .var d :: as, [], _, _, _, _, s, _ => s.elim
  | .io d :: as, [], _, _, _, _, s, _ => s.elim
  | .val d :: as, v :: vs, e, e2, Γ, w, s, h => take_io (as := as) (vs := vs) w s h
  | .var i :: as, v :: vs, e, e2, Γ, w, s, h => take_io (as := as) (vs := vs) w s.2 h
  | .io i :: as, v :: vs, e, e2, Γ, w, s, h => by
    rw [agIo] at h
    split at h
    · rename_i d hd
      have q := take_io (as := as) (vs := vs) (w.move hd s.1) s.2 h
      rw [ioR, hd]
      exact q.front List.perm_middle
    · cases h
theorem args_rep {σ : L2.St} {Fr Sr : List Addr} {e2 : Env} (P : ∀ i v d, σ[i]? = some (some v) → e2.at i = some d → ∃ F1 S1, Rep K H v d F1 S1 ∧ (∀ a ∈ F1, a ∈ Fr) ∧ ∀ a ∈ S1, a ∈ Sr) (U : Prop) :
    ∀ {as : List Ag} {vs : List V} {ds : List D} {e : Env} {Fi Si Fv Sv : List Addr}, (U → ∀ i, Ag.var i ∈ as → ∀ d, e2.at i = some d → d.un = true) → Rs K H (ioR as vs e) Fi Si → Rs K H (agR as vs) Fv Sv → AgS σ as vs → agD e e2 as = some ds →
      ∃ Sa, Reps K H vs ds Fi Sa ∧ ∀ a ∈ Sa, a ∈ Si ∨ a ∈ Fv ∨ a ∈ Sv ∨ (a ∈ Fr ∧ ¬ U) ∨ a ∈ Sr
  | [], vs, ds, e, Fi, Si, Fv, Sv, hU, h1, h2, s, h => by
    cases vs with
    | cons _ _ => exact s.elim
    | nil =>
      rw [agD] at h
      cases h
      cases h1
      exact ⟨[], .nil, fun _ z => nomatch z⟩
  | .val d :: as, [], _, _, _, _, _, _, _, _, _, s, _ => s.elim
  | .var d :: as, [], _, _, _, _, _, _, _, _, _, s, _ => s.elim
  | .io d :: as, [], _, _, _, _, _, _, _, _, _, s, _ => s.elim
  | .val d :: as, v :: vs, ds, e, Fi, Si, Fv, Sv, hU, h1, h2, s, h => by
    rw [agD] at h
    split at h
    · rename_i l hl
      cases h
      cases h2 with
      | @cons _ _ _ _ F0 S0 F1 S1 r t =>
        obtain ⟨Sa, ra, qa⟩ := args_rep P U (as := as) (vs := vs) (fun u i hi => hU u i (List.mem_cons_of_mem _ hi)) h1 t s hl
        obtain ⟨S', r', q'⟩ := r.shrd
        rw [shr_shr] at r'
        refine ⟨S' ++ Sa, .cons (F := []) r' ra, fun a ha => ?_⟩
        rcases List.mem_append.mp ha with ha | ha
        · rcases q' a ha with z | z
          · exact .inr (.inl (List.mem_append_left _ z))
          · exact .inr (.inr (.inl (List.mem_append_left _ z)))
        · rcases qa a ha with z | z | z | z | z
          · exact .inl z
          · exact .inr (.inl (List.mem_append_right _ z))
          · exact .inr (.inr (.inl (List.mem_append_right _ z)))
          · exact .inr (.inr (.inr (.inl z)))
          · exact .inr (.inr (.inr (.inr z)))
    · cases h
  | .var i :: as, v :: vs, ds, e, Fi, Si, Fv, Sv, hU, h1, h2, s, h => by
    rw [agD] at h
    split at h
    · rename_i d l hd hl
      cases h
      obtain ⟨Sa, ra, qa⟩ := args_rep P U (as := as) (vs := vs) (fun u i hi => hU u i (List.mem_cons_of_mem _ hi)) h1 h2 s.2 hl
      obtain ⟨F1, S1, r, f, g⟩ := P i v d s.1 hd
      obtain ⟨S', r', q'⟩ := r.shrd
      refine ⟨S' ++ Sa, .cons (F := []) r' ra, fun a ha => ?_⟩
      rcases List.mem_append.mp ha with ha | ha
      · rcases q' a ha with z | z
        · refine .inr (.inr (.inr (.inl ⟨f a z, fun u => ?_⟩)))
          rw [r.un (hU u i List.mem_cons_self d hd)] at z
          cases z
        · exact .inr (.inr (.inr (.inr (g a z))))
      · exact qa a ha
    · cases h
  | .io i :: as, v :: vs, ds, e, Fi, Si, Fv, Sv, hU, h1, h2, s, h => by
    rw [agD] at h
    split at h
    · rename_i d l hd hl
      cases h
      rw [ioR, hd] at h1
      cases h1 with
      | @cons _ _ _ _ F0 S0 F1 S1 r t =>
        obtain ⟨Sa, ra, qa⟩ := args_rep P U (as := as) (vs := vs) (fun u i hi => hU u i (List.mem_cons_of_mem _ hi)) t h2 s.2 hl
        refine ⟨S0 ++ Sa, .cons r ra, fun a ha => ?_⟩
        rcases List.mem_append.mp ha with ha | ha
        · exact .inl (List.mem_append_left _ ha)
        · rcases qa a ha with z | z
          · exact .inl (List.mem_append_right _ z)
          · exact .inr z
    · cases h
theorem Wd.put2 {e : Env} {Γ : List Rt} {i : Nat} {d : D} {v : V} (w : Wd K B σ e ((v, d) :: Γ) H) (hv : σ[i]? = some (some v)) : Wd K B σ (e.set i (some d)) Γ H := by
  have k := w.kill1 i
  have hl : i < e.length := by rw [← w.fit.1]; exact (List.getElem?_eq_some_iff.mp hv).1
  have q := k.put (i := i) (by rw [List.getElem?_set_self hl]) hv
  rw [List.set_set] at q
  exact q
theorem come_back : ∀ {as : List Ag} {vs : List V} {os : List (Option D)} {e e' : Env} {Γ : List Rt}, Wd K B σ e (er (vs.map some) os ++ Γ) H → AgS σ as vs → agBack as os e = some e' → Wd K B σ e' Γ H
  | [], vs, os, e, e', Γ, w, s, h => by
    cases os with
    | cons _ _ => simp [agBack] at h
    | nil =>
      rw [agBack] at h
      cases h
      cases vs with
      | cons _ _ => exact s.elim
      | nil => exact w
  | .val d :: as, [], _, _, _, _, _, s, _ => s.elim
  | .var d :: as, [], _, _, _, _, _, s, _ => s.elim
  | .io d :: as, [], _, _, _, _, _, s, _ => s.elim
  | .val d :: as, v :: vs, os, e, e', Γ, w, s, h => by
    cases os with
    | nil => simp [agBack] at h
    | cons o os =>
      simp only [agBack] at h
      refine come_back (as := as) (vs := vs) ?_ s h
      cases o with
      | none => exact w
      | some d' => exact w.drop
  | .var i :: as, v :: vs, os, e, e', Γ, w, s, h => by
    cases os with
    | nil => simp [agBack] at h
    | cons o os =>
      simp only [agBack] at h
      refine come_back (as := as) (vs := vs) ?_ s.2 h
      cases o with
      | none => exact w
      | some d' => exact w.drop
  | .io i :: as, v :: vs, os, e, e', Γ, w, s, h => by
    cases os with
    | nil => simp [agBack] at h
    | cons o os =>
      simp only [agBack] at h
      refine come_back (as := as) (vs := vs) ?_ s.2 h
      cases o with
      | none => exact w.kill1 i
      | some d' => exact Wd.put2 w s.1
theorem freeze : ∀ {as : List Ag} {e : Env} {Γ : List Rt}, Wd K B σ e Γ H → Wd K B σ (agFz as e) Γ H
  | [], e, Γ, w => w
  | .val d :: as, e, Γ, w => freeze (as := as) w
  | .io d :: as, e, Γ, w => freeze (as := as) w
  | .var i :: as, e, Γ, w => by
    rw [agFz]
    refine freeze (as := as) ?_
    split
    · rename_i d hd
      obtain ⟨v, hv, _⟩ := w.read hd
      have m := (w.move hd hv).shr.put2 (i := i) hv
      rw [List.set_set] at m
      exact m
    · exact w
end
section
variable {K : PySem.W.Frag} {B : Bs} {H H' : Hp}
/-- behind a call -/
theorem W.call {R R' : List Rt} {F S Fa Sa Fr Sr : List Addr} {pr : List (Nat × V)} (o : Okk B H F S) (hF : ∀ a ∈ Fa ++ Fr, a ∈ F) (nF : (Fa ++ Fr).Nodup) (rr : Rs K H R Fr Sr) (hS : ∀ a ∈ Sr, a ∈ S) (hSa : ∀ a ∈ Sa, a ∈ F ∨ a ∈ S) (lF : ∀ a ∈ Fa, IsLst H a)
    (w : W K ⟨H, Fa, Sa, pr⟩ H' R') (c : (∀ F' S', Rs K H' R' F' S' → S' = []) ∨ ∀ a ∈ Sa, a ∉ Fr) : W K B H' (R' ++ R) := by
  obtain ⟨F', S', r', o'⟩ := w
  obtain ⟨n1, n2, n3⟩ := List.nodup_append.mp nF
  have kk : Rs K H' R Fr Sr := Reps.kept o'.kp lF rr (fun a ha h => n3 a h a ha rfl) (fun a ha h => o.dj a (hF a (List.mem_append_left _ h)) (hS a ha))
  have c' : ∀ a ∈ S', a ∉ Fr := by
    intro a ha hf
    rcases c with c | c
    · rw [c _ _ r'] at ha; cases ha
    · rcases o'.fS a ha with z | z | z
      · exact n3 a z a hf rfl
      · exact c a z hf
      · obtain ⟨xs, e⟩ := Reps.lstF rr a hf
        have z' : H a = none := z
        rw [e] at z'; cases z'
  refine ⟨F' ++ Fr, S' ++ Sr, ?_, ⟨?_, fun a ha hs => ?_, fun a ha => ?_, fun a ha => ?_, fun b u e n => ?_, o'.sz⟩⟩
  · show Reps K H' _ _ _ _
    rw [List.map_append, List.map_append]
    exact Reps.app r' kk
  · refine List.nodup_append.mpr ⟨o'.nd, n2, fun a ha b hb e => ?_⟩
    subst e
    rcases o'.fF a ha with z | z
    · exact n3 a z a hb rfl
    · obtain ⟨xs, e⟩ := Reps.lstF rr a hb
      have z' : H a = none := z
      rw [e] at z'; cases z'
  · rcases List.mem_append.mp ha with z | z <;> rcases List.mem_append.mp hs with y | y
    · exact o'.dj a z y
    · rcases o'.fF a z with q | q
      · exact o.dj a (hF a (List.mem_append_left _ q)) (hS a y)
      · exact Reps.thereS rr a y q
    · exact c' a y z
    · exact o.dj a (hF a (List.mem_append_right _ z)) (hS a y)
  · rcases List.mem_append.mp ha with z | z
    · rcases o'.fF a z with q | q
      · exact o.fF a (hF a (List.mem_append_left _ q))
      · exact (o.old q).symm
    · exact o.fF a (hF a (List.mem_append_right _ z))
  · rcases List.mem_append.mp ha with z | z
    · rcases o'.fS a z with q | q | q
      · rcases o.fF a (hF a (List.mem_append_left _ q)) with y | y
        · exact .inl y
        · exact .inr (.inr y)
      · rcases hSa a q with y | y
        · rcases o.fF a y with y | y
          · exact .inl y
          · exact .inr (.inr y)
        · exact o.fS a y
      · rcases o.old q with y | y
        · exact .inr (.inr y)
        · exact .inl y
    · exact o.fS a (hS a z)
  · refine o'.kp b u (o.kp b u e n) fun z => ?_
    rcases o.fF b (hF b (List.mem_append_left _ z)) with q | q
    · exact n q
    · rw [e] at q; cases q
theorem nsO_er : ∀ {vs : List V} {os : List (Option D)} {F S : List Addr}, nsO os = true → Rs K H (er (vs.map some) os) F S → S = []
  | [], os, F, S, _, h => by
    cases os <;> (simp only [List.map_nil, er] at h; cases h; rfl)
  | v :: vs, [], F, S, _, h => by
    simp only [List.map_cons, er] at h; cases h; rfl
  | v :: vs, none :: os, F, S, u, h => nsO_er (vs := vs) (os := os) u h
  | v :: vs, some d :: os, F, S, u, h => by
    simp only [nsO, Bool.and_eq_true] at u
    cases h with
    | cons r t =>
      rw [r.ns u.1, nsO_er (vs := vs) (os := os) u.2 t]; rfl
end

section
variable {Φ : Fs} {k : Nat} {n : Nm}
/-! ### lists of terms -/
theorem SL_nil : SL Φ k n .nil := by
  intro X sc es O h
  cases es <;> try (simp [chkL] at h; done)
  refine pa_nil.imp ?_
  rintro σ H Q ⟨B, e, Γ, ds, e', w, hd, q⟩
  rw [evL] at hd
  obtain ⟨rfl, rfl⟩ := inj2 hd
  exact q [] H rfl w
theorem chk_cons {a r : T} {sc : Scope} {es : List Expr} (h : chkL n sc (.cons a r) es = true) : ∃ x xs, es = x :: xs ∧ chkE n sc a x = true ∧ chkL n sc r xs = true := by
  cases es with
  | nil => simp [chkL] at h
  | cons x xs =>
    simp only [chkL, Bool.and_eq_true] at h
    exact ⟨x, xs, rfl, h.1, h.2⟩
theorem SL_cons {a r : T} (sa : SE Φ k n a) (sr : SL Φ k n r) : SL Φ k n (.cons a r) := by
  intro X sc es O h
  obtain ⟨x, xs, rfl, h1, h2⟩ := chk_cons h
  refine (pa_cons (sa O h1) (sr O h2) (star_pl (chk_pl h1))).imp ?_
  rintro σ H Q ⟨B, e, Γ, ds, e', w, hd, q⟩
  rw [evL] at hd
  split at hd
  · rename_i d e1 h3
    split at hd
    · rename_i ds' e2 h4
      obtain ⟨rfl, rfl⟩ := inj2 hd
      refine ⟨B, e, Γ, d, e1, w, h3, fun v H1 w1 => ⟨B, e1, _, ds', e2, w1, h4, fun vs H2 l w2 => ?_⟩⟩
      exact q (v :: vs) H2 (by simp [l]) (w2.front List.perm_middle)
    · cases hd
  · cases hd
theorem SG_nil : SG Φ k n .nil := by
  intro io X sc es O h
  cases es <;> try (simp [chkL] at h; done)
  refine pa_nil.imp ?_
  rintro σ H Q ⟨B, e, Γ, as, e', w, hd, q⟩
  cases io with
  | cons _ _ => simp [evG] at hd
  | nil =>
    rw [evG] at hd
    obtain ⟨rfl, rfl⟩ := inj2 hd
    exact q [] H trivial w
theorem SG_cons {a r : T} (sa : SE Φ k n a) (sr : SG Φ k n r) : SG Φ k n (.cons a r) := by
  intro io X sc es O h
  obtain ⟨x, xs, rfl, h1, h2⟩ := chk_cons h
  cases io with
  | nil =>
    refine (pa_cons (sa O h1) (sr (io := []) O h2) (star_pl (chk_pl h1))).imp ?_
    rintro σ H Q ⟨B, e, Γ, as, e', w, hd, q⟩
    cases a <;> simp [evG] at hd
  | cons b bs =>
    by_cases hv : ∃ i, a = .v i
    · obtain ⟨i, rfl⟩ := hv
      cases x <;> try (simp [chkE] at h1; done)
      rw [chkE] at h1
      refine (pa_cons (O.name h1) (sr (io := bs) O h2) (star_pl rfl)).imp ?_
      rintro σ H Q ⟨B, e, Γ, as, e', w, hd, q⟩
      rw [evG] at hd
      split at hd
      · rename_i d h3
        obtain ⟨v, hv, _⟩ := w.read h3
        split at hd
        · rename_i as' e2 h4
          obtain ⟨rfl, rfl⟩ := inj2 hd
          refine ⟨v, hv, B, e, Γ, as', e2, w, h4, fun vs H2 s w2 => ?_⟩
          cases b with
          | true => exact q (v :: vs) H2 ⟨hv, s⟩ w2
          | false => exact q (v :: vs) H2 ⟨hv, s⟩ w2
        · cases hd
      · cases hd
    · refine (pa_cons (sa O h1) (sr (io := bs) O h2) (star_pl (chk_pl h1))).imp ?_
      rintro σ H Q ⟨B, e, Γ, as, e', w, hd, q⟩
      have hd' : (if b then none else match evE Φ a e with
        | some (x, e) => match evG Φ r bs e with
          | some (as, e) => some (Ag.val x :: as, e)
          | none => none
        | none => none) = some (as, e') := by
        rw [evG] at hd
        · exact hd
        · exact fun i hi => hv ⟨i, hi⟩
      split at hd'
      · cases hd'
      · split at hd'
        · rename_i d e1 h3
          split at hd'
          · rename_i as' e2 h4
            obtain ⟨rfl, rfl⟩ := inj2 hd'
            refine ⟨B, e, Γ, d, e1, w, h3, fun v H1 w1 => ⟨B, e1, _, as', e2, w1.shr, h4, fun vs H2 s w2 => ?_⟩⟩
            exact q (v :: vs) H2 s (w2.front List.perm_middle)
          · cases hd'
        · cases hd'

/-! ### a call -/
theorem noStar {sc : Scope} {env : PySem.Env} {pos : Pos} : ∀ {es : List Expr} {t : T}, chkL n sc t es = true → (backTo pos (starEach es env)).any (·.1) = false
  | [], t, h => rfl
  | e :: es, t, h => by
    obtain ⟨a, r, rfl⟩ : ∃ a r, t = .cons a r := by cases t <;> first | exact ⟨_, _, rfl⟩ | simp [chkL] at h
    obtain ⟨x, xs, ee, h1, h2⟩ := chk_cons h
    cases ee
    rw [star_pl (chk_pl h1)]
    show (false || (backTo pos (starEach es env)).any (·.1)) = false
    rw [Bool.false_or]
    exact noStar h2

theorem agS_len {σ : L2.St} : ∀ {as : List Ag} {vs : List V}, AgS σ as vs → as.length = vs.length
  | [], [], _ => rfl
  | [], _ :: _, h => h.elim
  | .val _ :: _, [], h => h.elim
  | .var _ :: _, [], h => h.elim
  | .io _ :: _, [], h => h.elim
  | .val _ :: as, _ :: vs, h => by rw [List.length_cons, List.length_cons, agS_len (as := as) (vs := vs) h]
  | .var _ :: as, _ :: vs, h => by rw [List.length_cons, List.length_cons, agS_len (as := as) (vs := vs) h.2]
  | .io _ :: as, _ :: vs, h => by rw [List.length_cons, List.length_cons, agS_len (as := as) (vs := vs) h.2]
theorem evG_len : ∀ {a : T} {io : List Bool} {e e' : Env} {as : List Ag}, evG Φ a io e = some (as, e') → as.length = io.length := by
  intro a
  induction a with
  | nil =>
    intro io e e' as h
    cases io with
    | nil => rw [evG] at h; obtain ⟨rfl, rfl⟩ := inj2 h; rfl
    | cons _ _ => simp [evG] at h
  | cons a r _ ih =>
    intro io e e' as h
    cases io with
    | nil => cases a <;> simp [evG] at h
    | cons b bs =>
      by_cases hv : ∃ i, a = .v i
      · obtain ⟨i, rfl⟩ := hv
        rw [evG] at h
        split at h
        · split at h
          · rename_i as' e2 h4
            obtain ⟨rfl, rfl⟩ := inj2 h
            rw [List.length_cons, List.length_cons, ih h4]
          · cases h
        · cases h
      · have hd' : (if b then none else match evE Φ a e with
          | some (x, e) => match evG Φ r bs e with
            | some (as, e) => some (Ag.val x :: as, e)
            | none => none
          | none => none) = some (as, e') := by
          rw [evG] at h
          · exact h
          · exact fun i hi => hv ⟨i, hi⟩
        split at hd'
        · cases hd'
        · split at hd'
          · split at hd'
            · rename_i as' e2 h4
              obtain ⟨rfl, rfl⟩ := inj2 hd'
              rw [List.length_cons, List.length_cons, ih h4]
            · cases hd'
          · cases hd'
  | _ => intro io e e' as h; cases io <;> simp [evG] at h
theorem W.parts {K : PySem.W.Frag} {B : Bs} {H : Hp} {R1 R2 R3 : List Rt} (w : W K B H (R1 ++ (R2 ++ R3))) : ∃ F S F1 S1 F2 S2 F3 S3, Okk B H F S ∧ Rs K H R1 F1 S1 ∧ Rs K H R2 F2 S2 ∧ Rs K H R3 F3 S3 ∧ F = F1 ++ (F2 ++ F3) ∧ S = S1 ++ (S2 ++ S3) := by
  obtain ⟨F, S, r, o⟩ := w
  unfold Rs at r
  rw [List.map_append, List.map_append, List.map_append, List.map_append] at r
  obtain ⟨F1, S1, F2, S2, a, b, c, d⟩ := r.unapp (by simp)
  obtain ⟨F3, S3, F4, S4, a', b', c', d'⟩ := b.unapp (by simp)
  exact ⟨F, S, F1, S1, F3, S3, F4, S4, o, a, a', b', by rw [c, c'], by rw [d, d']⟩
theorem nodup_13 {α : Type} {a b c : List α} (h : (a ++ (b ++ c)).Nodup) : (a ++ c).Nodup := by
  obtain ⟨h1, h2, h3⟩ := List.nodup_append.mp h
  exact List.nodup_append.mpr ⟨h1, (List.nodup_append.mp h2).2.1, fun x hx y hy => h3 x hx y (List.mem_append_right _ hy)⟩
theorem er_root {K : PySem.W.Frag} {σ : L2.St} {e : Env} {Γ : List Rt} {H : Hp} {F S : List Addr} (r : Rs K H (Γ ++ er σ e) F S) {i : Nat} {v : V} {d : D} (hv : σ[i]? = some (some v)) (hd : e.at i = some d) :
    ∃ F1 S1, Rep K H v d F1 S1 ∧ (∀ a ∈ F1, a ∈ F) ∧ ∀ a ∈ S1, a ∈ S := by
  have p := ((er_take hv (at_iff.mp hd)).append_left Γ).trans List.perm_middle
  obtain ⟨F', S', r', p1, p2⟩ := Rs.perm p r
  cases r' with
  | cons r1 _ => exact ⟨_, _, r1, fun a z => p1.mem_iff.mpr (List.mem_append_left _ z), fun a z => p2.mem_iff.mpr (List.mem_append_left _ z)⟩
theorem at_set {e : Env} {i j : Nat} {o : Option D} : Env.at (e.set i o) j = if i = j ∧ i < e.length then o else e.at j := by
  unfold Env.at
  by_cases h : i = j
  · subst h
    by_cases hl : i < e.length
    · rw [List.getElem?_set_self hl, if_pos ⟨rfl, hl⟩]; rfl
    · rw [List.getElem?_eq_none (by rw [List.length_set]; omega), if_neg (fun z => hl z.2), List.getElem?_eq_none (Nat.le_of_not_lt hl)]
  · rw [List.getElem?_set_ne h, if_neg (fun z => h z.1)]
theorem at_lt {e : Env} {i : Nat} {d : D} (h : e.at i = some d) : i < e.length := (List.getElem?_eq_some_iff.mp (at_iff.mp h)).1
theorem fz_at : ∀ {as : List Ag} {e : Env} {i : Nat}, (agFz as e).at i = e.at i ∨ ∃ d, e.at i = some d ∧ (agFz as e).at i = some d.shr
  | [], e, i => .inl rfl
  | .val _ :: as, e, i => fz_at (as := as)
  | .io _ :: as, e, i => fz_at (as := as)
  | .var j :: as, e, i => by
    rw [agFz]
    split
    · rename_i d hd
      by_cases hij : j = i
      · subst hij
        have e1 : Env.at (e.set j (some d.shr)) j = some d.shr := by rw [at_set, if_pos ⟨rfl, at_lt hd⟩]
        rcases fz_at (as := as) (e := e.set j (some d.shr)) (i := j) with q | ⟨d', h1, h2⟩
        · exact .inr ⟨d, hd, q.trans e1⟩
        · rw [e1] at h1
          cases h1
          rw [shr_shr] at h2
          exact .inr ⟨d, hd, h2⟩
      · have e1 : Env.at (e.set j (some d.shr)) i = e.at i := by rw [at_set, if_neg (fun z => hij z.1)]
        rcases fz_at (as := as) (e := e.set j (some d.shr)) (i := i) with q | ⟨d', h1, h2⟩
        · exact .inl (q.trans e1)
        · exact .inr ⟨d', e1 ▸ h1, h2⟩
    · exact fz_at (as := as)
theorem fz_un : ∀ {as : List Ag} {e : Env} {i : Nat}, Ag.var i ∈ as → ∀ d, (agFz as e).at i = some d → d.un = true
  | [], e, i, h, _, _ => nomatch h
  | .val _ :: as, e, i, h, d, hd => fz_un (as := as) (by simpa using h) d hd
  | .io _ :: as, e, i, h, d, hd => fz_un (as := as) (by simpa using h) d hd
  | .var j :: as, e, i, h, d, hd => by
    by_cases hm : Ag.var i ∈ as
    · rw [agFz] at hd
      exact fz_un (as := as) hm d hd
    · have hij : i = j := by
        rcases List.mem_cons.mp h with z | z
        · cases z; rfl
        · exact absurd z hm
      subst hij
      rw [agFz] at hd
      split at hd
      · rename_i d0 h0
        have e1 : Env.at (e.set i (some d0.shr)) i = some d0.shr := by rw [at_set, if_pos ⟨rfl, at_lt h0⟩]
        rcases fz_at (as := as) (e := e.set i (some d0.shr)) (i := i) with q | ⟨d', h1, h2⟩
        · rw [q, e1] at hd; cases hd; exact shr_un _
        · rw [h2] at hd; cases hd; exact shr_un _
      · rename_i h0
        rcases fz_at (as := as) (e := e) (i := i) with q | ⟨d', h1, h2⟩
        · rw [q, h0] at hd; cases hd
        · rw [h2] at hd; cases hd; exact shr_un _
theorem agD_fz {as0 : List Ag} {e' : Env} : ∀ {as : List Ag} {e : Env}, agD e (agFz as0 e') as = agD e e' as
  | [], e => rfl
  | .val d :: as, e => by rw [agD, agD, agD_fz (as := as)]
  | .io i :: as, e => by rw [agD, agD, agD_fz (as := as)]
  | .var i :: as, e => by
    rw [agD, agD, agD_fz (as := as)]
    rcases fz_at (as := as0) (e := e') (i := i) with q | ⟨d, h1, h2⟩
    · rw [q]
    · rw [h1, h2]
      cases agD e e' as <;> simp [shr_shr]
/-- the argument's lists and what else there is, at a call -/
theorem call_at {K : PySem.W.Frag} {B : Bs} {σ : L2.St} {H : Hp} {f : Nat} {as : List Ag} {vs : List V} {ds : List D} {e1 e3 e' : Env} {Γ : List Rt} {r : D} {os : List (Option D)} {Q : VK} {E : XK} (U : Prop) (hl : vs.length = (Φ.io f).length) (w : Wd K B σ e3 (ioR as vs e1 ++ (agR as vs ++ Γ)) H) (s : AgS σ as vs)
    (hU : U → ∀ i, Ag.var i ∈ as → ∀ d, e3.at i = some d → d.un = true) (hN : ¬ U → r.ns = true ∧ nsO os = true) (hd : agD e1 e3 as = some ds) (hr : Φ.run f ds = some (r, os)) (hb : agBack as os e3 = some e') (q : ∀ v H', Wd K B σ e' ((v, r) :: Γ) H' → Q v H') : spOf K Φ f vs H Q E := by
  have w0 : W K B H (ioR as vs e1 ++ (agR as vs ++ (Γ ++ er σ e3))) := by
    have := w.w
    simpa [List.append_assoc] using this
  obtain ⟨F, S, F1, S1, F2, S2, F3, S3, o, r1, r2, r3, eF, eS⟩ := w0.parts
  subst eF eS
  obtain ⟨Sa, ra, qa⟩ := args_rep (Fr := F3) (Sr := S3) (e2 := e3) (fun i v d hv hd => er_root r3 hv hd) U (as := as) (vs := vs) hU r1 r2 s hd
  obtain ⟨n1, n2, n3⟩ := List.nodup_append.mp o.nd
  have dj : ∀ a ∈ F1, a ∉ Sa := fun a ha hs => by
    rcases qa a hs with z | z | z | ⟨z, _⟩ | z
    · exact o.dj a (List.mem_append_left _ ha) (List.mem_append_left _ z)
    · exact n3 a ha a (List.mem_append_left _ z) rfl
    · exact o.dj a (List.mem_append_left _ ha) (List.mem_append_right _ (List.mem_append_left _ z))
    · exact n3 a ha a (List.mem_append_right _ z) rfl
    · exact o.dj a (List.mem_append_left _ ha) (List.mem_append_right _ (List.mem_append_right _ z))
  refine ⟨ds, r, os, F1, Sa, hl, ra, ⟨n1, dj, fun a z => .inl z, fun a z => .inr (.inl z), fun b u e _ => e, o.sz⟩, hr, fun v H' w' => ?_⟩
  have wc : W K B H' (((v, r) :: er (vs.map some) os) ++ (Γ ++ er σ e3)) := by
    refine W.call o (fun a ha => ?_) (nodup_13 o.nd) r3 (fun a z => List.mem_append_right _ (List.mem_append_right _ z)) (fun a ha => ?_) (Reps.lstF r1) w' ?_
    · rcases List.mem_append.mp ha with z | z
      · exact List.mem_append_left _ z
      · exact List.mem_append_right _ (List.mem_append_right _ z)
    · rcases qa a ha with z | z | z | ⟨z, _⟩ | z
      · exact .inr (List.mem_append_left _ z)
      · exact .inl (List.mem_append_right _ (List.mem_append_left _ z))
      · exact .inr (List.mem_append_right _ (List.mem_append_left _ z))
      · exact .inl (List.mem_append_right _ (List.mem_append_right _ z))
      · exact .inr (List.mem_append_right _ (List.mem_append_right _ z))
    · by_cases u : U
      · refine .inr fun a ha hf => ?_
        rcases qa a ha with z | z | z | ⟨z, y⟩ | z
        · exact o.dj a (List.mem_append_right _ (List.mem_append_right _ hf)) (List.mem_append_left _ z)
        · exact (List.nodup_append.mp n2).2.2 a z a hf rfl
        · exact o.dj a (List.mem_append_right _ (List.mem_append_right _ hf)) (List.mem_append_right _ (List.mem_append_left _ z))
        · exact y u
        · exact o.dj a (List.mem_append_right _ (List.mem_append_right _ hf)) (List.mem_append_right _ (List.mem_append_right _ z))
      · refine .inl fun F' S' rs => ?_
        obtain ⟨u1, u2⟩ := hN u
        cases rs with
        | cons r0 t0 => rw [r0.ns u1, nsO_er (vs := vs) u2 t0]; rfl
  have wd : Wd K B σ e3 (er (vs.map some) os ++ ((v, r) :: Γ)) H' := by
    refine ⟨w.fit, w.pr, wc.perm ?_⟩
    have p : (((v, r) :: er (vs.map some) os) ++ (Γ ++ er σ e3)).Perm ((er (vs.map some) os ++ ((v, r) :: Γ)) ++ er σ e3) := by
      rw [← List.append_assoc]
      exact List.Perm.append_right _ List.perm_middle.symm
    exact p
  exact q v H' (come_back wd s hb)
theorem SE_call {f : Nat} {a : T} (sg : SG Φ k n a) : SE Φ k n (.call f a) := by
  intro X sc e O h
  cases e <;> try (simp [chkE] at h; done)
  rename_i g es kw pos
  cases g <;> try (simp [chkE] at h; done)
  cases kw <;> try (simp [chkE] at h; done)
  rename_i x xp
  simp only [chkE, Bool.and_eq_true, decide_eq_true_eq, Bool.not_eq_true'] at h
  obtain ⟨⟨⟨⟨hx, hf⟩, hg⟩, hdb⟩, ha⟩ := h
  subst hx
  obtain ⟨A, fd, ps, hm, hk, hb, F⟩ := O.fns f hf
  have hcall : PE X (.Call (.Name (n.fn f) xp) es [] pos) (tCall (spOf X.K Φ f) [] E0 (tG X.K Φ a (Φ.io f))) := by
    cases es with
    | nil =>
      have ha2 := sg (io := Φ.io f) O ha
      refine (pe_call0 (E := E0) F O.lv (O.gl hg) hm hk hb .nil pass0 hdb).imp ?_
      rintro σ H Q ⟨B, e, Γ, as, e', w, hd, q⟩
      cases a <;> try (simp [chkL] at ha; done)
      cases hio : Φ.io f with
      | cons _ _ => rw [hio] at hd; simp [evG] at hd
      | nil =>
        rw [hio, evG] at hd
        obtain ⟨rfl, rfl⟩ := inj2 hd
        exact q [] H trivial w
    | cons y ys =>
      have hst : (backTo pos (starEach ys X.env)).any (·.1) = false := by
        obtain ⟨x0, xs0, e0⟩ : ∃ x0 xs0, a = .cons x0 xs0 := by cases a <;> first | exact ⟨_, _, rfl⟩ | simp [chkL] at ha
        subst e0
        obtain ⟨_, _, ee, _, h2⟩ := chk_cons ha
        cases ee
        exact noStar h2
      have hpl : plE y = true := by
        obtain ⟨x0, xs0, e0⟩ : ∃ x0 xs0, a = .cons x0 xs0 := by cases a <;> first | exact ⟨_, _, rfl⟩ | simp [chkL] at ha
        subst e0
        obtain ⟨_, _, ee, h1, _⟩ := chk_cons ha
        cases ee
        exact chk_pl h1
      exact pe_call F O.lv (O.gl hg) hm hk hb .nil pass0 (sg O ha) hdb (star_pl hpl) hst
  refine hcall.imp ?_
  rintro σ H Q ⟨B, env, Γ, d, e', w, hd, q⟩
  rw [evE] at hd
  split at hd
  · rename_i as e1 h1
    split at hd
    · rename_i e2 h2
      split at hd
      · rename_i ds h3
        split at hd
        · rename_i r os h4
          split at hd
          · rename_i e3 h5
            obtain ⟨rfl, rfl⟩ := inj2 hd
            refine ⟨B, env, Γ, as, e1, w, h1, fun vs H1 s w1 => ?_⟩
            show spOf X.K Φ f (vs ++ []) H1 Q E0
            rw [List.append_nil]
            have hl : vs.length = (Φ.io f).length := by rw [← agS_len s, evG_len h1]
            have w2 := take_io w1 s h2
            by_cases c : (r.ns && nsO os) = true
            · rw [if_pos c] at h5
              simp only [Bool.and_eq_true] at c
              exact call_at False hl w2 s (fun z => z.elim) (fun _ => c) h3 h4 h5 q
            · rw [if_neg c] at h5
              exact call_at True hl (freeze (as := as) w2) s (fun _ i hi d hd => fz_un hi d hd) (fun z => (z trivial).elim) (by rw [agD_fz]; exact h3) h4 h5 q
          · cases hd
        · cases hd
      · cases hd
    · cases hd
  · cases hd
end
end Sr
set_option Elab.async false
set_option linter.all false
set_option maxRecDepth 100000
set_option maxHeartbeats 2000000
/-! # Sr: displays, items, slices, built-ins -/
namespace Sr
open PySem PySem.Spec PyProof.Rows L2
section
variable {Φ : Fs} {k : Nat} {n : Nm}
theorem Wd.tupN {K : PySem.W.Frag} {B : Bs} {σ : L2.St} {e : Env} {Γ : List Rt} {H : Hp} {vs : List V} {ds : List D} {p : Addr} (w : Wd K B σ e (vs.zip ds ++ Γ) H) (l : vs.length = ds.length) (hp : H p = none) (z : vs.length ≤ sizeLine) : Wd K B σ e ((.ref p, .tup ds) :: Γ) (upd H p (.tup vs)) := by
  refine ⟨w.fit, w.pr, ?_⟩
  have := w.w
  rw [List.append_assoc] at this
  exact this.tupV l hp z
theorem Wd.lstN {K : PySem.W.Frag} {B : Bs} {σ : L2.St} {e : Env} {Γ : List Rt} {H : Hp} {vs : List V} {ds : List D} {p : Addr} (w : Wd K B σ e (vs.zip ds ++ Γ) H) (l : vs.length = ds.length) (hp : H p = none) (z : vs.length ≤ sizeLine) : Wd K B σ e ((.ref p, .lst true ds) :: Γ) (upd H p (.lst vs)) := by
  refine ⟨w.fit, w.pr, ?_⟩
  have := w.w
  rw [List.append_assoc] at this
  exact this.lstV l hp z
theorem SE_tup {a : T} (s : SL Φ k n a) : SE Φ k n (.tup a) := by
  intro X sc e O h
  cases e <;> try (simp [chkE] at h; done)
  simp only [chkE] at h
  refine (pe_tup (s O h)).imp ?_
  rintro σ H Q ⟨B, env, Γ, d, e', w, hd, q⟩
  rw [evE] at hd
  split at hd
  · rename_i ds e1 h1
    split at hd
    · rename_i c
      obtain ⟨rfl, rfl⟩ := inj2 hd
      exact ⟨B, env, Γ, ds, e1, w, h1, fun vs H1 l w1 => ⟨by have := big_le; omega, fun p hp => q _ _ (w1.tupN l hp (by have := big_le; omega))⟩⟩
    · cases hd
  · cases hd
theorem SE_lst {a : T} (s : SL Φ k n a) : SE Φ k n (.lst a) := by
  intro X sc e O h
  cases e <;> try (simp [chkE] at h; done)
  simp only [chkE] at h
  refine (pe_lst (s O h)).imp ?_
  rintro σ H Q ⟨B, env, Γ, d, e', w, hd, q⟩
  rw [evE] at hd
  split at hd
  · rename_i ds e1 h1
    split at hd
    · rename_i c
      obtain ⟨rfl, rfl⟩ := inj2 hd
      exact ⟨B, env, Γ, ds, e1, w, h1, fun vs H1 l w1 => ⟨by have := big_le; omega, fun p hp => q _ _ (w1.lstN l hp (by have := big_le; omega))⟩⟩
    · cases hd
  · cases hd
/-- an item of what is let go -/
theorem Wd.item {K : PySem.W.Frag} {B : Bs} {σ : L2.St} {e : Env} {Γ : List Rt} {H : Hp} {v : V} {d x : D} {kk : Int} (w : Wd K B σ e ((v, d) :: Γ) H) (h : atD d kk = some x) :
    ∃ a vs u, v = .ref a ∧ (SqL K H a vs ∨ SqT K H a vs) ∧ atI vs kk = some u ∧ Wd K B σ e ((u, x) :: Γ) H := by
  obtain ⟨F, S, r, o⟩ := w.w
  cases r with
  | @cons _ _ _ _ F1 S1 F2 S2 r t =>
    unfold atD at h
    cases hi : Sr.items d with
    | none => rw [hi] at h; cases h
    | some xs =>
      rw [hi] at h
      obtain ⟨a, vs, F3, S3, ev, q, rs, f3, s3, n3⟩ := r.items hi
      obtain ⟨j, hj, hx⟩ := atI_of h
      obtain ⟨u, F4, S4, hu, r4, f4, s4, n4⟩ := rs.get hx
      refine ⟨a, vs, u, ev, q, ?_, w.fit, w.pr, ⟨F4 ++ F2, S4 ++ S2, .cons r4 t, ?_⟩⟩
      · unfold atI
        rw [rs.len, hj]
        exact hu
      · obtain ⟨n1, n2, nn⟩ := List.nodup_append.mp o.nd
        refine o.less (fun b hb => ?_) (List.nodup_append.mpr ⟨n4 (n3 n1), n2, fun b hb c hc => nn b (f3 b (f4 b hb)) c hc⟩) fun b hb => ?_
        · rcases List.mem_append.mp hb with z | z
          · exact List.mem_append_left _ (f3 b (f4 b z))
          · exact List.mem_append_right _ z
        · rcases List.mem_append.mp hb with z | z
          · exact List.mem_append_left _ (s3 b (s4 b z))
          · exact List.mem_append_right _ z
theorem SE_ix {a b : T} (sa : SE Φ k n a) (sb : SE Φ k n b) : SE Φ k n (.ix a b) := by
  intro X sc e O h
  by_cases p : (isP a && isP b) = true
  · refine (evP_ok O (t := .ix a b) (by simpa [isP] using p) h).imp ?_
    rintro σ H Q ⟨B, env, Γ, d, e', w, hd, q⟩
    rw [evE, if_pos p] at hd
    split at hd
    · rename_i d0 h0
      split at hd
      · rename_i u
        obtain ⟨rfl, rfl⟩ := inj2 hd
        refine ⟨B, env, Γ, d0, w, h0, fun v bv => q v H ⟨w.fit, w.pr, bv.un u⟩⟩
      · cases hd
    · cases hd
  · cases e <;> try (simp [chkE] at h; done)
    simp only [chkE, Bool.and_eq_true] at h
    refine (pe_ix ix_seqV (sa O h.1) (sb O h.2) (plainIx_pl (chk_pl h.2))).imp ?_
    rintro σ H Q ⟨B, env, Γ, d, e', w, hd, q⟩
    rw [evE, if_neg p] at hd
    split at hd
    · rename_i x e1 h1
      split at hd
      · rename_i kk e2 h2
        rw [Option.map_eq_some_iff] at hd
        obtain ⟨d', hd, ee⟩ := hd
        obtain ⟨rfl, rfl⟩ := Prod.mk.inj ee
        refine ⟨B, env, Γ, x, e1, w, h1, fun v H1 w1 => ⟨B, e1, _, _, e2, w1, h2, fun u H2 w2 => ?_⟩⟩
        have eu := w2.headInt
        subst eu
        obtain ⟨ad, vs, z, ev, sq, hz, wz⟩ := w2.drop.item hd
        exact ⟨ad, vs, kk, z, ev, rfl, sq, hz, q _ _ wz⟩
      · cases hd
    · cases hd

/-! ### slices -/
theorem cut_reps {K : PySem.W.Frag} {H : Hp} {vs : List V} {ds : List D} {S : List Addr} (r : Reps K H vs ds [] S) (lo hi : Option Int) : ∃ S', Reps K H (cutV vs lo hi) (cutD ds lo hi) [] S' ∧ ∀ a ∈ S', a ∈ S := by
  have d1 : ∀ {ds : List D} {vs : List V} {S : List Addr} (m : Nat), Reps K H vs ds [] S → ∃ S', Reps K H (vs.drop m) (ds.drop m) [] S' ∧ ∀ a ∈ S', a ∈ S := by
    intro ds
    induction ds with
    | nil => intro vs S m r; cases r; exact ⟨[], by simpa using Reps.nil, fun _ z => nomatch z⟩
    | cons d ds ih =>
      intro vs S m r
      generalize hF : ([] : List Addr) = F0 at r
      cases r with
      | @cons _ _ _ _ F1 S1 F2 S2 r t =>
        obtain ⟨rfl, rfl⟩ := List.append_eq_nil_iff.mp hF.symm
        cases m with
        | zero => exact ⟨S1 ++ S2, .cons (F := []) r t, fun _ z => z⟩
        | succ m =>
          obtain ⟨S', r', h'⟩ := ih m t
          exact ⟨S', r', fun a z => List.mem_append_right _ (h' a z)⟩
  have t1 : ∀ {ds : List D} {vs : List V} {S : List Addr} (m : Nat), Reps K H vs ds [] S → ∃ S', Reps K H (vs.take m) (ds.take m) [] S' ∧ ∀ a ∈ S', a ∈ S := by
    intro ds
    induction ds with
    | nil => intro vs S m r; cases r; exact ⟨[], by simpa using Reps.nil, fun _ z => nomatch z⟩
    | cons d ds ih =>
      intro vs S m r
      generalize hF : ([] : List Addr) = F0 at r
      cases r with
      | @cons _ _ _ _ F1 S1 F2 S2 r t =>
        obtain ⟨rfl, rfl⟩ := List.append_eq_nil_iff.mp hF.symm
        cases m with
        | zero => exact ⟨[], .nil, fun _ z => nomatch z⟩
        | succ m =>
          obtain ⟨S', r', h'⟩ := ih m t
          exact ⟨S1 ++ S', .cons (F := []) r r', fun a z => (List.mem_append.mp z).elim (fun y => List.mem_append_left _ y) fun y => List.mem_append_right _ (h' a y)⟩
  unfold cutV cutD
  rw [r.len]
  obtain ⟨S1, r1, h1⟩ := d1 (HT.sIx ds.length 0 lo) r
  obtain ⟨S2, r2, h2⟩ := t1 (HT.sIx ds.length ds.length hi - HT.sIx ds.length 0 lo) r1
  exact ⟨S2, r2, fun a z => h1 a (h2 a z)⟩
/-- a bound -/
def tPo (K : PySem.W.Frag) (t : T) : TO := fun σ H Q => ∃ B e Γ o, Wd K B σ e Γ H ∧ evPo t e = some o ∧ Q o H
theorem po_ok {X : Cx} {sc : Scope} {t : T} {l : Option Expr} (O : OkX Φ k n X sc) (h : (match l with | none => (match t with | .nil => true | _ => false) | some f => chkE n sc t f) = true) (p : isPo t = true) : PO X l (tPo X.K t) := by
  have imp : ∀ {to : TO}, PO X l to → (∀ σ H Q, tPo X.K t σ H Q → to σ H Q) → PO X l (tPo X.K t) := fun hp i => ⟨fun pins s σ H Q I q => hp.run pins s σ H Q I (i σ H Q q)⟩
  cases l with
  | none =>
    cases t <;> try (simp at h; done)
    refine imp po_none ?_
    rintro σ H Q ⟨B, e, Γ, o, w, ho, q⟩
    cases ho
    exact q
  | some f =>
    have h' : chkE n sc t f = true := h
    have hn : t ≠ .nil := by rintro rfl; simp [chkE] at h'
    have hp : isP t = true := by
      cases t <;> first | exact absurd rfl hn | exact p
    refine imp (po_some (evP_ok O hp h')) ?_
    rintro σ H Q ⟨B, e, Γ, o, w, ho, q⟩
    have ho' : (match evP t e with | some (.int i) => some (some i) | _ => none) = some o := by
      cases t <;> first | exact absurd rfl hn | exact ho
    split at ho'
    · rename_i i hi
      cases ho'
      exact ⟨B, e, Γ, _, w, hi, fun v bv => ⟨i, bv.int, q⟩⟩
    · cases ho'
/-- a slice of a list or a tuple -/
theorem sl_seq {X : Cx} : SlR X (fun x lo hi H Q => (∃ a xs, x = .ref a ∧ SqL X.K H a xs ∧ (xs.length ≤ sizeLine → ∀ p, H p = none → Q (.ref p) (upd H p (.lst (cutV xs lo hi))))) ∨ rSlT X.K x lo hi H Q) := by
  intro pins s σ H x v vl vu lo hi sl Q I rx hs pl pu q
  rcases q with ⟨a, xs, ex, hx, q⟩ | q
  · obtain ⟨_, _, _, z⟩ := I.list hx
    exact sl_list pins s σ H x v vl vu lo hi sl Q I rx hs pl pu ⟨a, xs, ex, hx, q z⟩
  · exact sl_tup pins s σ H x v vl vu lo hi sl Q I rx hs pl pu q
theorem SE_sl {a lo hi : T} (sa : SE Φ k n a) : SE Φ k n (.sl a lo hi) := by
  intro X sc e O h
  cases e <;> try (simp [chkE] at h; done)
  rename_i x s pos
  cases s <;> try (simp [chkE] at h; done)
  rename_i l u st p2
  cases st <;> try (simp [chkE] at h; done)
  simp only [chkE, Bool.and_eq_true] at h
  by_cases p : (isPo lo && isPo hi) = true
  case neg =>
    refine ⟨fun pins s σ H Q I hh => ?_⟩
    obtain ⟨B, env, Γ, d, e', w, hd, q⟩ := hh
    rw [evE, if_neg p] at hd
    cases hd
  have p' := p
  simp only [Bool.and_eq_true] at p'
  refine (pe_slice sl_seq (sa.op O h.1.1) (po_ok O h.1.2 p'.1) (po_ok O h.2 p'.2)).imp ?_
  rintro σ H Q ⟨B, env, Γ, d, e', w, hd, q⟩
  rw [evE, if_pos p] at hd
  change (match evO Φ a env with
    | some (x, e) => match evPo lo e with
      | some l => match evPo hi e with
        | some h => match slD x l h with
          | some d => some (d, e)
          | none => none
        | none => none
      | none => none
    | none => none) = some (d, e') at hd
  split at hd
  · rename_i dx e1 h1
    split at hd
    · rename_i l0 h2
      split at hd
      · rename_i u0 h3
        split at hd
        · rename_i d0 h4
          obtain ⟨rfl, rfl⟩ := inj2 hd
          refine ⟨B, env, Γ, dx, e1, w, h1, fun v H1 R bv w1 back => ⟨B, e1, Γ, l0, w1, h2, B, e1, Γ, u0, w1, h3, ?_⟩⟩
          obtain ⟨F, S, F1, S1, rr, o, r, f, s, nn⟩ := bv.ex
          unfold slD at h4
          split at h4
          · rename_i ow xs
            split at h4
            · rename_i uu
              cases h4
              obtain ⟨ad, vs, F2, S2, ev, sq, rs, f2, s2, _⟩ := r.lstI
              have z := rs.un uu
              subst z
              obtain ⟨S3, r3, h3'⟩ := cut_reps rs l0 u0
              refine .inl ⟨ad, vs, ev, sq, fun hz p hp => q _ _ (back _ _ _ ?_)⟩
              refine W.lstV (W.beside o rr (fun a z => z) o.nd (fun a z => z) r3 fun a z => s a (s2 a (h3' a z))) r3.len hp (Nat.le_trans (cutV_length _ _ _) hz)
            · cases h4
          · rename_i xs
            split at h4
            · rename_i uu
              cases h4
              cases r with
              | tup sq rs =>
                have z := rs.un uu.1
                subst z
                obtain ⟨S3, r3, h3'⟩ := cut_reps rs l0 u0
                refine .inr ⟨_, _, rfl, .inl sq, by rw [rs.len]; exact uu.2, fun p hp => q _ _ (back _ _ _ ?_)⟩
                exact W.tupV (W.beside o rr (fun a z => z) o.nd (fun a z => z) r3 fun a z => s a (h3' a z)) r3.len hp (Nat.le_trans (cutV_length _ _ _) (o.sz _ _ (.inr sq)))
            · cases h4
          · cases h4
        · cases hd
      · cases hd
    · cases hd
  · cases hd

/-! ### built-ins -/
theorem chk_b1 {c : B1} {a : T} {sc : Scope} {e : Expr} (h : chkE n sc (.b1 c a) e = true) : ∃ x xp es pos, e = .Call (.Name x xp) es [] pos ∧ bltB sc (b1name c) x = true ∧ ((b1ty c = none ∧ ∃ y, es = [y] ∧ chkE n sc a y = true) ∨ ∃ ty y z zp, b1ty c = some ty ∧ es = [y, .Name z zp] ∧ bltB sc ty z = true ∧ chkE n sc a y = true) := by
  cases e <;> try (simp [chkE] at h; done)
  rename_i g es kw pos
  cases g <;> try (simp [chkE] at h; done)
  cases kw <;> try (simp [chkE] at h; done)
  simp only [chkE, Bool.and_eq_true] at h
  obtain ⟨h1, h2⟩ := h
  refine ⟨_, _, _, _, rfl, h1, ?_⟩
  split at h2
  · rename_i y hc
    exact .inl ⟨hc, y, rfl, h2⟩
  · rename_i ty y z zp hc
    simp only [Bool.and_eq_true] at h2
    exact .inr ⟨ty, y, z, zp, hc, rfl, h2.1, h2.2⟩
  · cases h2
theorem b1_imp {K : PySem.W.Frag} {c : B1} {a : T} {σ : L2.St} {H : Hp} {Q : VK} (h : tD K Φ (.b1 c a) σ H Q) : tCB (rB1 K c) (tCons (tO K Φ a) tNil) σ H Q := by
  obtain ⟨B, env, Γ, d, e', w, hd, q⟩ := h
  rw [evE] at hd
  change (match evO Φ a env with | some (x, e) => (b1D c x).map fun d => (d, e) | none => none) = some (d, e') at hd
  split at hd
  · rename_i x e1 h1
    rw [Option.map_eq_some_iff] at hd
    obtain ⟨d', hd, ee⟩ := hd
    obtain ⟨rfl, rfl⟩ := Prod.mk.inj ee
    exact ⟨B, env, Γ, x, e1, w, h1, fun v H1 R bv w1 back => ⟨B, R, v, x, d', rfl, bv, hd, fun u H2 w2 => q _ _ (back _ _ _ w2)⟩⟩
  · cases hd
theorem b1t_imp {K : PySem.W.Frag} {c : B1} {ty : String} {a : T} {σ : L2.St} {H : Hp} {Q : VK} (h : tD K Φ (.b1 c a) σ H Q) : tCB (rB1t K c ty) (tCons (tO K Φ a) (tCons (tC (.ty ty)) tNil)) σ H Q := by
  obtain ⟨B, env, Γ, d, e', w, hd, q⟩ := h
  rw [evE] at hd
  change (match evO Φ a env with | some (x, e) => (b1D c x).map fun d => (d, e) | none => none) = some (d, e') at hd
  split at hd
  · rename_i x e1 h1
    rw [Option.map_eq_some_iff] at hd
    obtain ⟨d', hd, ee⟩ := hd
    obtain ⟨rfl, rfl⟩ := Prod.mk.inj ee
    exact ⟨B, env, Γ, x, e1, w, h1, fun v H1 R bv w1 back => ⟨B, R, v, x, d', rfl, bv, hd, fun u H2 w2 => q _ _ (back _ _ _ w2)⟩⟩
  · cases hd
theorem tD_none {K : PySem.W.Frag} {t : T} {X : Cx} {e : Expr} (h : ∀ env, evE Φ t env = none) : PE X e (tD K Φ t) := ⟨fun pins s σ H Q I hh => by
  obtain ⟨B, env, Γ, d, e', w, hd, q⟩ := hh
  rw [h] at hd
  cases hd⟩
theorem b1D_no {c : B1} (h : c = .minL ∨ c = .maxL ∨ c = .sorted) (x : D) : b1D c x = none := by
  rcases h with rfl | rfl | rfl <;> cases x <;> rfl
theorem SE_b1 {c : B1} {a : T} (s : SE Φ k n a) : SE Φ k n (.b1 c a) := by
  intro X sc e O h
  obtain ⟨x, xp, es, pos, rfl, h1, h2⟩ := chk_b1 h
  obtain ⟨rfl, hg⟩ := bltB_iff h1
  rcases h2 with ⟨hc, y, rfl, hy⟩ | ⟨ty, y, z, zp, hc, rfl, hz, hy⟩
  · have pa := pa_cons (s.op O hy) pa_nil (star_pl (chk_pl hy))
    cases c <;> first | (cases hc; done) | skip
    · exact (pe_callB b1_len (O.gl hg) (O.blt (by decide)) PySem.boot_len pa (he := star_pl (chk_pl hy))).imp fun σ H Q q => b1_imp q
    · exact (pe_callB b1_abs (O.gl hg) (O.blt (by decide)) (by decide +kernel) pa (he := star_pl (chk_pl hy))).imp fun σ H Q q => b1_imp q
    · exact (pe_callTy b1_int (O.gl hg) (O.blt (by decide)) (by decide +kernel) pa (he := star_pl (chk_pl hy))).imp fun σ H Q q => b1_imp q
    · exact (pe_callTy b1_list (O.gl hg) (O.blt (by decide)) (by decide +kernel) pa (he := star_pl (chk_pl hy))).imp fun σ H Q q => b1_imp q
    · exact (pe_callTy b1_tuple (O.gl hg) (O.blt (by decide)) (by decide +kernel) pa (he := star_pl (chk_pl hy))).imp fun σ H Q q => b1_imp q
    · exact (pe_callB (b1_sum O.calm) (O.gl hg) (O.blt (by decide)) (by decide +kernel) pa (he := star_pl (chk_pl hy))).imp fun σ H Q q => b1_imp q
    all_goals
      refine tD_none fun env => ?_
      rw [evE]
      split
      · rw [b1D_no (by simp)]; rfl
      · rfl
  · obtain ⟨rfl, hgz⟩ := bltB_iff hz
    have hb : PE X (.Name (Str.ofString ty) zp) (tC (.ty ty)) := by
      cases c <;> (try (cases hc; done)) <;> cases hc <;> exact pe_bltn (O.gl hgz) (O.blt (by decide)) (u := .type _) (by decide +kernel) rfl
    have pa := pa_cons (s.op O hy) (pa_cons hb pa_nil (star_pl rfl)) (star_pl (chk_pl hy))
    have hn : b1name c = "isinstance" := by cases c <;> first | (cases hc; done) | rfl
    rw [hn] at hg ⊢
    exact (pe_callB (b1_is hc) (O.gl hg) (O.blt (by decide)) (by decide +kernel) pa (he := star_pl (chk_pl hy))).imp fun σ H Q q => b1t_imp q
theorem bn_min {xs : List D} {d : D} (h : bnD .min2 xs = some d) : ∃ i j : Int, xs = [.int i, .int j] ∧ d = .int (if j < i then j else i) := by
  unfold bnD at h
  split at h
  · cases h; exact ⟨_, _, rfl, rfl⟩
  · rename_i hh; cases hh
  · cases h
theorem bn_max {xs : List D} {d : D} (h : bnD .max2 xs = some d) : ∃ i j : Int, xs = [.int i, .int j] ∧ d = .int (if j > i then j else i) := by
  unfold bnD at h
  split at h
  · rename_i hh; cases hh
  · cases h; exact ⟨_, _, rfl, rfl⟩
  · cases h
theorem bn_3 (xs : List D) : bnD .max3 xs = none := by
  unfold bnD
  split
  · rename_i hh; cases hh
  · rename_i hh; cases hh
  · rfl
theorem SE_bn {c : BN} {a : T} (s : SL Φ k n a) : SE Φ k n (.bn c a) := by
  intro X sc e O h
  cases e <;> try (simp [chkE] at h; done)
  rename_i g es kw pos
  cases g <;> try (simp [chkE] at h; done)
  cases kw <;> try (simp [chkE] at h; done)
  simp only [chkE, Bool.and_eq_true] at h
  obtain ⟨h1, h2⟩ := h
  obtain ⟨rfl, hg⟩ := bltB_iff h1
  cases es with
  | nil =>
    refine ⟨fun pins s σ H Q I hh => ?_⟩
    obtain ⟨B, env, Γ, d, e', w, hd, q⟩ := hh
    cases a <;> try (simp [chkL] at h2; done)
    rw [evE, evL] at hd
    cases c <;> simp [bnD] at hd
  | cons y ys =>
    obtain ⟨x0, xs0, e0⟩ : ∃ x0 xs0, a = .cons x0 xs0 := by cases a <;> first | exact ⟨_, _, rfl⟩ | simp [chkL] at h2
    subst e0
    obtain ⟨_, _, ee, hy, hys⟩ := chk_cons h2
    cases ee
    have two : ∀ {σ : L2.St} {H : Hp} {Q : VK} {g : Int → Int → Int}, (∀ xs d, bnD c xs = some d → ∃ i j, xs = [.int i, .int j] ∧ d = .int (g i j)) → tD X.K Φ (.bn c (.cons x0 xs0)) σ H Q → tLL X.K Φ (.cons x0 xs0) σ H fun vs H1 => ∃ i j, vs = [.int i, .int j] ∧ Q (.int (g i j)) H1 := by
      rintro σ H Q g hg ⟨B, env, Γ, d, e', w, hd, q⟩
      rw [evE] at hd
      split at hd
      · rename_i xs e1 h3
        rw [Option.map_eq_some_iff] at hd
        obtain ⟨d', hd, ee⟩ := hd
        obtain ⟨rfl, rfl⟩ := Prod.mk.inj ee
        obtain ⟨i, j, rfl, rfl⟩ := hg _ _ hd
        refine ⟨B, env, Γ, _, e1, w, h3, fun vs H1 l w1 => ?_⟩
        match vs, l, w1 with
        | [v, u], _, w1 =>
          have e1 := w1.headInt
          have e2 := w1.drop.headInt
          subst e1 e2
          exact ⟨i, j, rfl, q _ _ (w1.drop.drop.int _)⟩
      · cases hd
    cases c with
    | min2 =>
      refine (pe_callB (call_min2 O.calm) (O.gl hg) (O.blt (by decide)) (by decide +kernel) (s O h2) (he := star_pl (chk_pl hy)) (hpl := noStar hys)).imp fun σ H Q q => ?_
      refine two (g := fun i j => if j < i then j else i) (fun xs d hd => ?_) q
      exact bn_min hd
    | max2 =>
      refine (pe_callB (call_max2 O.calm) (O.gl hg) (O.blt (by decide)) (by decide +kernel) (s O h2) (he := star_pl (chk_pl hy)) (hpl := noStar hys)).imp fun σ H Q q => ?_
      refine two (g := fun i j => if j > i then j else i) (fun xs d hd => ?_) q
      exact bn_max hd
    | max3 =>
      refine tD_none fun env => ?_
      rw [evE]
      split
      · rename_i xs _ _
        rw [bn_3]; rfl
      · rfl
end
end Sr
set_option Elab.async false
set_option linter.all false
set_option maxRecDepth 100000
set_option maxHeartbeats 2000000
/-! # Sr: what is walked; comprehensions -/
namespace Sr
open PySem PySem.Spec PyProof.Rows L2

/-! ### what is walked -/
/-- a list or a tuple, walked -/
def iSeq (K : PySem.W.Frag) (tl : TE) : TI := fun σ H R => tl σ H fun x H1 => ∃ a, x = .ref a ∧ (((∃ xs, SqL K H1 a xs) ∧ R (Itl K a) H1) ∨ ((∃ xs, SqT K H1 a xs) ∧ R (Itt K a) H1))
theorem pi_seq {X : Cx} {tg l : Expr} {tl : TE} (hl : PE X l tl) : PI X tg l (iSeq X.K tl) := by
  refine ⟨fun pins s σ H R I h => ?_⟩
  refine thn (hl.run pins s σ H _ I h) fun v s1 ⟨x, H1, I1, r1, q1⟩ => ?_
  obtain ⟨a, e, q⟩ := q1
  subst e
  cases r1
  rcases q with ⟨⟨xs, hq⟩, q⟩ | ⟨⟨xs, hq⟩, q⟩
  · obtain ⟨its, rv, p, hz⟩ := I1.list hq
    refine wpAny_pyIter_list p.isList ?_
    refine ⟨s1.heap.objs.size, [s1.heap.objs.size], _, _, H1, rfl, I1.kept (t' := s1.toks) fun b o e => Heap.get?_push_of_some _ e, turn_list a _, ⟨_, Heap.get?_push_size _ rfl, rfl, rfl⟩, fun b hb => ?_, q⟩
    have e : b = s1.heap.objs.size := by simpa using hb
    subst e
    exact I1.fpOk (Nat.le_refl _) (I1.hok.fresh (Nat.le_refl _))
  · obtain ⟨its, rv, p, hz⟩ := I1.tuple hq
    refine wpAny_pyIter_tuple (show s1.heap.IsTuple a its.toArray from p) ?_
    refine ⟨s1.heap.objs.size, [s1.heap.objs.size], _, _, H1, rfl, I1.kept (t' := s1.toks) fun b o e => Heap.get?_push_of_some _ e, turn_tuple a _, ⟨_, Heap.get?_push_size _ rfl, rfl, rfl⟩, fun b hb => ?_, q⟩
    have e : b = s1.heap.objs.size := by simpa using hb
    subst e
    exact I1.fpOk (Nat.le_refl _) (I1.hok.fresh (Nat.le_refl _))
section
variable {K : PySem.W.Frag} {B : Bs}
/-- an item of a list that is only read -/
theorem W.itemL {H : Hp} {R : List Rt} {a : Addr} {xs : List D} (w : W K B H ((.ref a, .lst false xs) :: R)) : ∃ vs, SqL K H a vs ∧ vs.length = xs.length ∧ vs.length ≤ sizeLine ∧ ∀ (i : Nat) x, vs[i]? = some x → ∃ d, xs[i]? = some d ∧ W K B H ((x, d) :: (.ref a, .lst false xs) :: R) := by
  obtain ⟨F, S, r, o⟩ := w
  cases r with
  | cons r0 t =>
    have r1 := r0
    cases r1 with
    | shr e rs =>
      refine ⟨_, .inl e, rs.len, o.sz _ _ (.inl e), fun i x hx => ?_⟩
      obtain ⟨hl, _⟩ := List.getElem?_eq_some_iff.mp hx
      obtain ⟨d, hd⟩ : ∃ d, xs[i]? = some d := ⟨xs[i]'(by rw [← rs.len]; exact hl), List.getElem?_eq_getElem _⟩
      obtain ⟨v, F1, S1, hv, rv, f1, s1, _⟩ := rs.get hd
      rw [hx] at hv
      cases hv
      have e1 : F1 = [] := List.eq_nil_iff_forall_not_mem.mpr fun b hb => nomatch f1 b hb
      subst e1
      refine ⟨d, hd, _, _, .cons rv (.cons r0 t), o.less (fun b hb => hb) o.nd fun b hb => ?_⟩
      rcases List.mem_append.mp hb with z | z
      · exact List.mem_append_left _ (List.mem_cons_of_mem _ (s1 b z))
      · exact z
    | @mod _ vs0 _ _ e rs =>
      have hz : vs0.length ≤ sizeLine := by
        obtain ⟨_, its, _, _, _, _, _, hz, r⟩ := e
        have q := r.length
        simp only [Array.length_toList] at q
        rw [← q] at hz; exact hz
      refine ⟨_, .inr e, rs.len, hz, fun i x hx => ?_⟩
      obtain ⟨hl, _⟩ := List.getElem?_eq_some_iff.mp hx
      obtain ⟨d, hd⟩ : ∃ d, xs[i]? = some d := ⟨xs[i]'(by rw [← rs.len]; exact hl), List.getElem?_eq_getElem _⟩
      obtain ⟨v, F1, S1, hv, rv, f1, s1, _⟩ := rs.get hd
      rw [hx] at hv
      cases hv
      have e1 : F1 = [] := List.eq_nil_iff_forall_not_mem.mpr fun b hb => nomatch f1 b hb
      subst e1
      refine ⟨d, hd, _, _, .cons rv (.cons r0 t), o.less (fun b hb => hb) o.nd fun b hb => ?_⟩
      rcases List.mem_append.mp hb with z | z
      · exact List.mem_append_left _ (s1 b z)
      · exact z
theorem W.itemT {H : Hp} {R : List Rt} {a : Addr} {xs : List D} (w : W K B H ((.ref a, .tup xs) :: R)) (u : unL xs = true) : ∃ vs, Rd H a (.tup vs) ∧ vs.length = xs.length ∧ ∀ (i : Nat) x, vs[i]? = some x → ∃ d, xs[i]? = some d ∧ W K B H ((x, d) :: (.ref a, .tup xs) :: R) := by
  obtain ⟨F, S, r, o⟩ := w
  cases r with
  | cons r0 t =>
    have r1 := r0
    cases r1 with
    | tup e rs =>
      have z := rs.un u
      subst z
      refine ⟨_, e, rs.len, fun i x hx => ?_⟩
      obtain ⟨hl, _⟩ := List.getElem?_eq_some_iff.mp hx
      obtain ⟨d, hd⟩ : ∃ d, xs[i]? = some d := ⟨xs[i]'(by rw [← rs.len]; exact hl), List.getElem?_eq_getElem _⟩
      obtain ⟨v, F1, S1, hv, rv, f1, s1, _⟩ := rs.get hd
      rw [hx] at hv
      cases hv
      have e1 : F1 = [] := List.eq_nil_iff_forall_not_mem.mpr fun b hb => nomatch f1 b hb
      subst e1
      refine ⟨d, hd, _, _, .cons rv (.cons r0 t), o.less (fun b hb => hb) o.nd fun b hb => ?_⟩
      rcases List.mem_append.mp hb with z | z
      · exact List.mem_append_left _ (s1 b z)
      · exact z
theorem get_some {α : Type} {xs : List α} {i : Nat} (h : i < xs.length) : ∃ x, xs[i]? = some x := ⟨xs[i], List.getElem?_eq_getElem h⟩
theorem it_list {a : Addr} {xs : List D} : ItOk K B (Itl K a) xs [(.ref a, .lst false xs)] where
  small := fun w => by
    obtain ⟨vs, e, l, z, _⟩ := W.itemL w
    rw [← l]; exact z
  go := fun i H R w h => by
    obtain ⟨vs, e, l, _⟩ := W.itemL w
    obtain ⟨x, hx⟩ := get_some (xs := vs) (i := i) (by omega)
    exact ⟨vs, x, e, hx⟩
  yld := fun i H R x H' w h y => by
    obtain ⟨vs, e, l, _, g⟩ := W.itemL w
    obtain ⟨e1, e2⟩ := y
    subst e1
    exact g i x (e2 vs e)
  stop := fun i H R w h => by
    obtain ⟨vs, e, l, _⟩ := W.itemL w
    exact ⟨vs, e, by omega⟩
theorem it_tup {a : Addr} {xs : List D} (u : unL xs = true) : ItOk K B (Itt K a) xs [(.ref a, .tup xs)] where
  small := fun w => by
    obtain ⟨vs, e, l, _⟩ := W.itemT w u
    obtain ⟨F, S, r, o⟩ := w
    rw [← l]; exact o.sz _ _ (.inr e)
  go := fun i H R w h => by
    obtain ⟨vs, e, l, _⟩ := W.itemT w u
    obtain ⟨x, hx⟩ := get_some (xs := vs) (i := i) (by omega)
    exact ⟨vs, x, .inl e, hx⟩
  yld := fun i H R x H' w h y => by
    obtain ⟨vs, e, l, g⟩ := W.itemT w u
    obtain ⟨e1, e2⟩ := y
    subst e1
    exact g i x (e2 vs (.inl e))
  stop := fun i H R w h => by
    obtain ⟨vs, e, l, _⟩ := W.itemT w u
    exact ⟨vs, .inl e, by omega⟩
theorem it_rng {lo : Int} {m : Nat} {f : Nat → D} (hf : ∀ i : Nat, f i = .int (lo + i)) (hm : m ≤ big) : ItOk K B (Itr lo m) ((List.range m).map f) [] where
  small := fun w => by rw [List.length_map, List.length_range]; exact Nat.le_trans hm big_le
  go := fun i H R w h => by rw [List.length_map, List.length_range] at h; exact h
  yld := fun i H R x H' w h y => by
    rw [List.length_map, List.length_range] at h
    obtain ⟨e1, e2⟩ := y
    subst e1
    subst e2
    refine ⟨f i, ?_, ?_⟩
    · rw [List.getElem?_map, List.getElem?_range h]; rfl
    · rw [hf]; exact W.int w _
  stop := fun i H R w h => by rw [List.length_map, List.length_range] at h; exact h
theorem it_rngC {lo c : Int} {m : Nat} {f : Nat → D} (hf : ∀ i : Nat, f i = .int (lo + (i : Nat) * c)) (hm : m ≤ big) : ItOk K B (Itc lo c m) ((List.range m).map f) [] where
  small := fun w => by rw [List.length_map, List.length_range]; exact Nat.le_trans hm big_le
  go := fun i H R w h => by rw [List.length_map, List.length_range] at h; exact h
  yld := fun i H R x H' w h y => by
    rw [List.length_map, List.length_range] at h
    obtain ⟨e1, e2⟩ := y
    subst e1
    subst e2
    refine ⟨f i, ?_, ?_⟩
    · rw [List.getElem?_map, List.getElem?_range h]; rfl
    · rw [hf]; exact W.int w _
  stop := fun i H R w h => by rw [List.length_map, List.length_range] at h; exact h
theorem zipD_len : ∀ xs ys : List D, (zipD xs ys).length = min xs.length ys.length
  | [], ys => by simp [zipD]
  | x :: xs, [] => by simp [zipD]
  | x :: xs, y :: ys => by simp only [zipD, List.length_cons, zipD_len xs ys]; omega
theorem zipD_get : ∀ {xs ys : List D} {i : Nat} {x y : D}, xs[i]? = some x → ys[i]? = some y → (zipD xs ys)[i]? = some (.tup [x, y])
  | [], _, _, _, _, h, _ => by simp at h
  | _ :: _, [], _, _, _, _, h => by simp at h
  | x :: xs, y :: ys, 0, _, _, h1, h2 => by simp at h1 h2; subst h1 h2; rfl
  | x :: xs, y :: ys, i + 1, _, _, h1, h2 => by
    simp only [zipD, List.getElem?_cons_succ] at h1 h2 ⊢
    exact zipD_get h1 h2
theorem it_zip {a b : Addr} {xs ys : List D} : ItOk K B (Itz K a b) (zipD xs ys) [(.ref a, .lst false xs), (.ref b, .lst false ys)] where
  small := fun w => by
    obtain ⟨vs, e, l, hz, _⟩ := W.itemL w
    rw [zipD_len]; omega
  go := fun i H R w h => by
    rw [zipD_len] at h
    obtain ⟨vs, e, l, _⟩ := W.itemL w
    obtain ⟨us, e', l', _⟩ := W.itemL (W.drop w)
    obtain ⟨x, hx⟩ := get_some (xs := vs) (i := i) (by omega)
    obtain ⟨y, hy⟩ := get_some (xs := us) (i := i) (by omega)
    exact ⟨vs, us, x, y, e, e', hx, hy⟩
  yld := fun i H R x H' w h y => by
    obtain ⟨vs, e, l, _, g⟩ := W.itemL w
    obtain ⟨T, x1, y1, e1, hT, e2, hx, hy⟩ := y
    subst e1 e2
    obtain ⟨d, hd, w1⟩ := g i x1 (hx vs e)
    have w2 : W K B H ((.ref b, .lst false ys) :: (x1, d) :: (.ref a, .lst false xs) :: R) := W.perm (by
      refine List.Perm.trans (l₂ := (x1, d) :: (.ref b, .lst false ys) :: (.ref a, .lst false xs) :: R) ?_ (.swap _ _ _)
      exact .cons _ (.swap _ _ _)) w1
    obtain ⟨us, e', l', _, g'⟩ := W.itemL w2
    obtain ⟨d', hd', w3⟩ := g' i y1 (hy us e')
    refine ⟨.tup [d, d'], zipD_get hd hd', ?_⟩
    have w4 : W K B H ((x1, d) :: (y1, d') :: (.ref a, .lst false xs) :: (.ref b, .lst false ys) :: R) := W.perm (by
      refine List.Perm.trans (l₂ := (y1, d') :: (x1, d) :: (.ref b, .lst false ys) :: (.ref a, .lst false xs) :: R) (.cons _ (.swap _ _ _)) ?_
      refine List.Perm.trans (.swap _ _ _) (.cons _ (.cons _ (.swap _ _ _)))) w3
    exact W.tupV (vs := [x1, y1]) (ds := [d, d']) w4 rfl hT (by show 2 ≤ sizeLine; decide)
  stop := fun i H R w h => by
    rw [zipD_len] at h
    obtain ⟨vs, e, l, _⟩ := W.itemL w
    obtain ⟨us, e', l', _⟩ := W.itemL (W.drop w)
    exact ⟨vs, us, e, e', by omega⟩
end
section
variable {Φ : Fs} {k : Nat} {n : Nm}
theorem SI_itr {a : T} (s : SE Φ k n a) : SI Φ k n (.itr a) := by
  intro X sc g e _ O h
  rw [chkI] at h
  refine (pi_seq (s O h)).imp ?_
  rintro σ H R ⟨B, env, Γ, xs, e', w, hd, q⟩
  rw [evI] at hd
  split at hd
  · rename_i d e1 h1
    rw [Option.map_eq_some_iff] at hd
    obtain ⟨ys, hy, ee⟩ := hd
    obtain ⟨rfl, rfl⟩ := Prod.mk.inj ee
    refine ⟨B, env, Γ, d, e1, w, h1, fun v H1 w1 => ?_⟩
    have w2 := w1.shr
    cases d with
    | tup zs =>
      cases hy
      obtain ⟨F, S, r⟩ := w2.head
      rw [D.shr] at r w2
      cases r with
      | @tup a vs _ _ _ e r => exact ⟨a, rfl, .inr ⟨⟨vs, .inl e⟩, q _ _ _ (it_tup (shrL_un _)) w2⟩⟩
    | lst o zs =>
      cases hy
      obtain ⟨F, S, r⟩ := w2.head
      rw [D.shr] at r w2
      cases r with
      | @shr a vs _ _ e r => exact ⟨a, rfl, .inl ⟨⟨vs, .inl e⟩, q _ _ _ it_list w2⟩⟩
      | @mod a vs _ _ e r => exact ⟨a, rfl, .inl ⟨⟨vs, .inr e⟩, q _ _ _ it_list w2⟩⟩
    | _ => cases hy
  · cases hd
theorem chk_r1 {a : T} {sc : Scope} {e : Expr} (h : chkI n sc (.rng1 a) e = true) : ∃ x xp y pos, e = .Call (.Name x xp) [y] [] pos ∧ bltB sc "range" x = true ∧ chkE n sc a y = true := by
  rw [chkI] at h
  split at h
  · rename_i x y hc
    obtain ⟨p, pos, rfl⟩ := asCall_of hc
    simp only [Bool.and_eq_true] at h
    exact ⟨_, _, _, _, rfl, h.1, h.2⟩
  · cases h
theorem SI_rng1 {a : T} (s : SE Φ k n a) : SI Φ k n (.rng1 a) := by
  intro X sc g e _ O h
  obtain ⟨x, xp, y, pos, rfl, h1, h2⟩ := chk_r1 h
  obtain ⟨rfl, hg⟩ := bltB_iff h1
  refine (pi_range1 (O.gl hg) (O.blt (by decide)) (pa_cons (s O h2) pa_nil (star_pl (chk_pl h2))) (star_pl (chk_pl h2))).imp ?_
  rintro σ H R ⟨B, env, Γ, xs, e', w, hd, q⟩
  rw [evI] at hd
  split at hd
  · rename_i m e1 h3
    split at hd
    · rename_i c
      obtain ⟨rfl, rfl⟩ := inj2 hd
      refine ⟨B, env, Γ, _, e1, w, h3, fun v H1 w1 => ?_⟩
      have ev := w1.headInt
      subst ev
      have hb : (big : Int) < 2 ^ 62 := by decide
      exact ⟨m, rfl, c.2, by omega, q _ _ _ (it_rng (fun i => by simp) (by omega)) w1.drop⟩
    · cases hd
  · cases hd
theorem chk_r2 {a b : T} {sc : Scope} {e : Expr} (h : chkI n sc (.rng2 a b) e = true) : ∃ x xp y z pos, e = .Call (.Name x xp) [y, z] [] pos ∧ bltB sc "range" x = true ∧ chkE n sc a y = true ∧ chkE n sc b z = true := by
  rw [chkI] at h
  split at h
  · rename_i x y z hc
    obtain ⟨p, pos, rfl⟩ := asCall_of hc
    simp only [Bool.and_eq_true] at h
    exact ⟨_, _, _, _, _, rfl, h.1.1, h.1.2, h.2⟩
  · cases h
theorem star1 {e : Expr} {env : PySem.Env} (h : plE e = true) : starEach [e] env = [(false, eval e env)] := star_pl h
theorem SI_rng2 {a b : T} (sa : SE Φ k n a) (sb : SE Φ k n b) : SI Φ k n (.rng2 a b) := by
  intro X sc g e _ O h
  obtain ⟨x, xp, y, z, pos, rfl, h1, h2, h3⟩ := chk_r2 h
  obtain ⟨rfl, hg⟩ := bltB_iff h1
  have py := chk_pl h2
  have pz := chk_pl h3
  refine (pi_range2 (O.gl hg) (O.blt (by decide)) (pa_cons (sa O h2) (pa_cons (sb O h3) pa_nil (star_pl pz)) (star_pl py)) (by rw [star_pl py, star1 pz]) (star1 pz)).imp ?_
  rintro σ H R ⟨B, env, Γ, xs, e', w, hd, q⟩
  rw [evI] at hd
  split at hd
  · rename_i m e1 h4
    split at hd
    · rename_i l e2 h5
      split at hd
      · rename_i c
        obtain ⟨rfl, rfl⟩ := inj2 hd
        refine ⟨B, env, Γ, _, e1, w, h4, fun v H1 w1 => ⟨B, e1, _, _, e2, w1, h5, fun u H2 w2 => ?_⟩⟩
        have eu := w2.headInt
        have ev := w2.drop.headInt
        subst eu ev
        exact ⟨m, l, rfl, ⟨c.1, c.2.1, c.2.2.1, c.2.2.2.1⟩, q _ _ _ (it_rng (fun i => rfl) (by omega)) w2.drop.drop⟩
      · cases hd
    · cases hd
  · cases hd
theorem chk_r3 {a b : T} {c : Int} {sc : Scope} {e : Expr} (h : chkI n sc (.rng3 a b c) e = true) : ∃ x xp y z j p pos, e = .Call (.Name x xp) [y, z, .Constant (.int c) j p] [] pos ∧ bltB sc "range" x = true ∧ chkE n sc a y = true ∧ chkE n sc b z = true := by
  rw [chkI] at h
  split at h
  · rename_i x y z u hc
    obtain ⟨p, pos, rfl⟩ := asCall_of hc
    simp only [Bool.and_eq_true, decide_eq_true_eq] at h
    obtain ⟨⟨⟨h1, h2⟩, h3⟩, h4⟩ := h
    obtain ⟨j, p', rfl⟩ := asInt_of h4
    exact ⟨_, _, _, _, _, _, _, rfl, h1, h2, h3⟩
  · cases h
theorem rgc {m l c : Int} (c1 : -(2 ^ 61) ≤ m) (c2 : m < 2 ^ 61) (c3 : -(2 ^ 61) ≤ l) (c4 : l < 2 ^ 61) (c5 : 0 < c) (c6 : c < 1000000000) : RgC m l c (rngN m l c) := by
  have hc : c > 0 := c5
  have hr : Builtin.Range.rangeSize m l c = (rngN m l c : Int) := by
    unfold Builtin.Range.rangeSize rngN
    rw [if_pos hc]
    split
    · have : 0 ≤ (l - m - 1) / c := Int.ediv_nonneg (by omega) (by omega)
      omega
    · rfl
  have hu : (rngN m l c : Int) ≤ 2 ^ 62 := by
    unfold rngN
    split
    · have h1 : (l - m - 1) / c ≤ l - m - 1 := Int.ediv_le_self _ (by omega)
      have h2 : 0 ≤ (l - m - 1) / c := Int.ediv_nonneg (by omega) (by omega)
      omega
    · decide
  refine ⟨by omega, by omega, ?_, hr⟩
  unfold Builtin.Range.small
  rw [hr]
  simp only [Builtin.Range.rangeFitsLong, Bool.and_eq_true, Bool.or_eq_true, decide_eq_true_eq, beq_iff_eq, if_pos hc]
  omega
theorem rngN_le {m l c : Int} (c5 : 0 < c) (c7 : l - m ≤ big) : rngN m l c ≤ big := by
  unfold rngN
  split
  · have h1 : (l - m - 1) / c ≤ l - m - 1 := Int.ediv_le_self _ (by omega)
    omega
  · exact Nat.zero_le _
theorem SI_rng3 {a b : T} {c : Int} (sa : SE Φ k n a) (sb : SE Φ k n b) : SI Φ k n (.rng3 a b c) := by
  intro X sc g e _ O h
  obtain ⟨x, xp, y, z, j, p, pos, rfl, h1, h2, h3⟩ := chk_r3 h
  obtain ⟨rfl, hg⟩ := bltB_iff h1
  have py := chk_pl h2
  have pz := chk_pl h3
  refine (pi_range3 (O.gl hg) (O.blt (by decide)) (pa_cons (sa O h2) (pa_cons (sb O h3) (pa_cons pe_int pa_nil (star_pl rfl)) (star_pl pz)) (star_pl py)) (star_pl py) (by rw [star_pl pz]; rfl)).imp ?_
  rintro σ H R ⟨B, env, Γ, xs, e', w, hd, q⟩
  rw [evI] at hd
  split at hd
  · rename_i m e1 h4
    split at hd
    · rename_i l e2 h5
      split at hd
      · rename_i c'
        obtain ⟨rfl, rfl⟩ := inj2 hd
        refine ⟨B, env, Γ, _, e1, w, h4, fun v H1 w1 => ⟨B, e1, _, _, e2, w1, h5, fun u H2 w2 => ?_⟩⟩
        have eu := w2.headInt
        have ev := w2.drop.headInt
        subst eu ev
        exact ⟨m, l, c, _, rfl, rgc c'.1 c'.2.1 c'.2.2.1 c'.2.2.2.1 c'.2.2.2.2.1 c'.2.2.2.2.2.1, q _ _ _ (it_rngC (fun i => rfl) (rngN_le c'.2.2.2.2.1 c'.2.2.2.2.2.2)) w2.drop.drop⟩
      · cases hd
    · cases hd
  · cases hd
theorem chk_zip {a b : T} {sc : Scope} {e : Expr} (h : chkI n sc (.zip a b) e = true) : ∃ x xp y z pos, e = .Call (.Name x xp) [y, z] [] pos ∧ bltB sc "zip" x = true ∧ chkE n sc a y = true ∧ chkE n sc b z = true := by
  rw [chkI] at h
  split at h
  · rename_i x y z hc
    obtain ⟨p, pos, rfl⟩ := asCall_of hc
    simp only [Bool.and_eq_true] at h
    exact ⟨_, _, _, _, _, rfl, h.1.1, h.1.2, h.2⟩
  · cases h
theorem SI_zip {a b : T} (sa : SE Φ k n a) (sb : SE Φ k n b) {X : Cx} {sc : Scope} {es : List Expr} {kk : Nat} {tp : Pos} {e : Expr} (O : OkX Φ k n X sc) (h : chkI n sc (.zip a b) e = true) : PI X (.Tuple es kk tp) e (tI X.K Φ (.zip a b)) := by
  obtain ⟨x, xp, y, z, pos, rfl, h1, h2, h3⟩ := chk_zip h
  obtain ⟨rfl, hg⟩ := bltB_iff h1
  have py := chk_pl h2
  have pz := chk_pl h3
  refine (pi_zip (O.gl hg) (O.blt (by decide)) (pa_cons (sa O h2) (pa_cons (sb O h3) pa_nil (star_pl pz)) (star_pl py)) (star_pl py) (by rw [star_pl pz]; rfl)).imp ?_
  rintro σ H R ⟨B, env, Γ, xs, e', w, hd, q⟩
  rw [evI] at hd
  split at hd
  · rename_i o1 ys e1 h4
    split at hd
    · rename_i o2 zs e2 h5
      obtain ⟨rfl, rfl⟩ := inj2 hd
      refine ⟨B, env, Γ, _, e1, w, h4, fun v H1 w1 => ⟨B, e1, _, _, e2, w1.shr, h5, fun u H2 w2 => ?_⟩⟩
      have w3 := (w2.shr).swap
      rw [D.shr, D.shr] at w3
      obtain ⟨F, S, r⟩ := w3.head
      obtain ⟨F', S', r'⟩ := w3.drop.head
      have sq : ∀ {v ds F S}, Rep X.K H2 v (.lst false ds) F S → ∃ a vs, v = .ref a ∧ SqL X.K H2 a vs := fun r => by
        cases r with
        | shr e _ => exact ⟨_, _, rfl, .inl e⟩
        | mod e _ => exact ⟨_, _, rfl, .inr e⟩
      obtain ⟨a1, vs1, rfl, e1'⟩ := sq r
      obtain ⟨a2, vs2, rfl, e2'⟩ := sq r'
      exact ⟨a1, a2, vs1, vs2, rfl, e1', e2', q _ _ _ it_zip w3⟩
    · cases hd
  · cases hd
theorem foldS {e : Expr} {env : PySem.Env} (h : plE e = true) : ∀ x, foldedSetIterable e env x = pure x := by
  intro x
  cases e <;> first | rfl | cases h
theorem chkI_pl {t : T} {sc : Scope} {e : Expr} (h : chkI n sc t e = true) : plE e = true := by
  cases t with
  | rng1 a => obtain ⟨_, _, _, _, rfl, _⟩ := chk_r1 h; rfl
  | rng2 a b => obtain ⟨_, _, _, _, _, rfl, _⟩ := chk_r2 h; rfl
  | rng3 a b c => obtain ⟨_, _, _, _, _, _, _, rfl, _⟩ := chk_r3 h; rfl
  | zip a b => obtain ⟨_, _, _, _, _, rfl, _⟩ := chk_zip h; rfl
  | itr a => rw [chkI] at h; exact chk_pl h
  | _ => cases h
end
end Sr
set_option Elab.async false
set_option linter.all false
set_option maxRecDepth 100000
set_option maxHeartbeats 2000000
/-! # Sr: targets, comprehensions -/
namespace Sr
open PySem PySem.Spec PyProof.Rows L2

def gOf (K : PySem.W.Frag) : List Nat → TG
  | [i] => gName i
  | [i, j] => gTup K 2 (gCons (gName i) (gCons (gName j) gNil))
  | [i, j, k] => gTup K 3 (gCons (gName i) (gCons (gName j) (gCons (gName k) gNil)))
  | _ => fun _ _ _ _ => False
section
variable {n : Nm} {X : Cx} {sc : Scope}
theorem pg_ok {tg : List Nat} {g : Expr} (hN : X.N = n.N) (nd : X.N.Nodup) (hc : X.calm = true) (hl : ∀ x, locB sc x = true → Loc X.env.scope x ∧ (X.fn x = true ∨ X.env.scope.names.lookup x = some .local)) (h : tgB n sc tg g = true) : PG X g (gOf X.K tg) := by
  unfold tgB at h
  split at h
  · rename_i i x p
    simp only [Bool.and_eq_true, decide_eq_true_eq] at h
    exact pg_name nd (by rw [hN]; exact h.1) (hl x h.2).1 (hl x h.2).2
  · rename_i i j x p y p' kk tp
    simp only [Bool.and_eq_true, decide_eq_true_eq] at h
    obtain ⟨⟨⟨h1, h2⟩, h3⟩, h4⟩ := h
    exact pg_tup hc (pgs_cons (pg_name nd (by rw [hN]; exact h1) (hl x h2).1 (hl x h2).2) (pgs_cons (pg_name nd (by rw [hN]; exact h3) (hl y h4).1 (hl y h4).2) pgs_nil))
  · rename_i i j k x p y p' z p'' kk tp
    simp only [Bool.and_eq_true, decide_eq_true_eq] at h
    obtain ⟨⟨⟨⟨⟨h1, h2⟩, h3⟩, h4⟩, h5⟩, h6⟩ := h
    exact pg_tup hc (pgs_cons (pg_name nd (by rw [hN]; exact h1) (hl x h2).1 (hl x h2).2) (pgs_cons (pg_name nd (by rw [hN]; exact h3) (hl y h4).1 (hl y h4).2) (pgs_cons (pg_name nd (by rw [hN]; exact h5) (hl z h6).1 (hl z h6).2) pgs_nil)))
  · cases h
end
section
variable {K : PySem.W.Frag} {B : Bs}
theorem W.openT {H : Hp} {R : List Rt} {v : V} {ds : List D} (w : W K B H ((v, .tup ds) :: R)) : ∃ a vs, v = .ref a ∧ Rd H a (.tup vs) ∧ vs.length = ds.length ∧ W K B H (vs.zip ds ++ R) := by
  obtain ⟨F, S, r, o⟩ := w
  cases r with
  | cons r0 t =>
    cases r0 with
    | tup e rs =>
      refine ⟨_, _, rfl, e, rs.len, _, _, ?_, o⟩
      show Reps K H _ _ _ _
      rw [List.map_append, List.map_append, List.map_fst_zip (Nat.le_of_eq rs.len), List.map_snd_zip (Nat.le_of_eq rs.len.symm)]
      exact rs.app t
theorem set_ge {α : Type} {l : List α} {i : Nat} {x : α} (h : l.length ≤ i) : l.set i x = l := by
  apply List.ext_getElem?
  intro j
  by_cases hj : i = j
  · subst hj
    rw [List.getElem?_eq_none (by rw [List.length_set]; exact h), List.getElem?_eq_none h]
  · rw [List.getElem?_set_ne hj]
theorem Wd.asgT {σ : L2.St} {e : Env} {Γ : List Rt} {H : Hp} {i : Nat} {d : D} {v : V} (w : Wd K B σ e ((v, d) :: Γ) H) (hp : ∀ p ∈ B.pr, p.1 ≠ i) : Wd K B (σ.set i (some v)) (e.set i (some d)) Γ H := by
  by_cases hi : i < σ.length
  · exact w.asg hi hp
  · have hl : ¬ i < e.length := by rw [← w.fit.1]; exact hi
    rw [set_ge (by omega), set_ge (by omega)]
    exact w.drop
theorem bind_ok {tg : List Nat} {σ : L2.St} {e e' : Env} {Γ : List Rt} {H : Hp} {x : V} {d : D} {Q : L2.St → Hp → Prop} (h : bindT tg d e = some e') (w : Wd K B σ e ((x, d) :: Γ) H) (hp : ∀ p ∈ B.pr, p.1 ∉ tg)
    (q : ∀ σ', Wd K B σ' e' Γ H → (∀ i, i ∉ tg → σ'[i]? = σ[i]?) → σ'.length = σ.length → Q σ' H) : gOf K tg x σ H Q := by
  unfold bindT at h
  split at h
  · rename_i i
    cases h
    refine q _ (w.asgT fun p hh z => hp p hh (by simp [z])) (fun j hj => ?_) (by rw [List.length_set])
    rw [List.getElem?_set_ne (fun z => hj (by simp [z]))]
  · rename_i i j d1 d2
    cases h
    obtain ⟨a, vs, ev, e0, l, w2⟩ := W.openT w.w
    subst ev
    match vs, l, e0, w2 with
    | [v1, v2], _, e0, w2 =>
      have w3 : Wd K B σ e ((v1, d1) :: (v2, d2) :: Γ) H := ⟨w.fit, w.pr, w2⟩
      refine ⟨a, [v1, v2], rfl, .inl e0, rfl, v1, [v2], rfl, v2, [], rfl, rfl, ?_⟩
      have w4 := w3.asgT (i := i) fun p hh z => hp p hh (by simp [z])
      have w5 := w4.asgT (i := j) fun p hh z => hp p hh (by simp [z])
      refine q _ w5 (fun m hm => ?_) (by rw [List.length_set, List.length_set])
      rw [List.getElem?_set_ne (fun z => hm (by simp [z])), List.getElem?_set_ne (fun z => hm (by simp [z]))]
  · rename_i i j m d1 d2 d3
    cases h
    obtain ⟨a, vs, ev, e0, l, w2⟩ := W.openT w.w
    subst ev
    match vs, l, e0, w2 with
    | [v1, v2, v3], _, e0, w2 =>
      have w3 : Wd K B σ e ((v1, d1) :: (v2, d2) :: (v3, d3) :: Γ) H := ⟨w.fit, w.pr, w2⟩
      refine ⟨a, [v1, v2, v3], rfl, .inl e0, rfl, v1, [v2, v3], rfl, v2, [v3], rfl, v3, [], rfl, rfl, ?_⟩
      have w4 := w3.asgT (i := i) fun p hh z => hp p hh (by simp [z])
      have w5 := w4.asgT (i := j) fun p hh z => hp p hh (by simp [z])
      have w6 := w5.asgT (i := m) fun p hh z => hp p hh (by simp [z])
      refine q _ w6 (fun r hr => ?_) (by rw [List.length_set, List.length_set, List.length_set])
      rw [List.getElem?_set_ne (fun z => hr (by simp [z])), List.getElem?_set_ne (fun z => hr (by simp [z])), List.getElem?_set_ne (fun z => hr (by simp [z]))]
  · cases h
theorem er_congr : ∀ {σ σ' : List (Option V)} {e : Env}, σ.length = σ'.length → (∀ (i : Nat) (d : D), e[i]? = some (some d) → σ[i]? = σ'[i]?) → er σ e = er σ' e
  | [], [], e, _, _ => rfl
  | [], _ :: _, _, h, _ => by simp at h
  | _ :: _, [], _, h, _ => by simp at h
  | a :: σ, b :: σ', [], _, _ => by cases a <;> cases b <;> rfl
  | a :: σ, b :: σ', c :: e, h, q => by
    have ih : er σ e = er σ' e := er_congr (by simpa using h) fun i d hi => by simpa using q (i + 1) d (by simpa using hi)
    cases c with
    | none => cases a <;> cases b <;> simp only [er, ih]
    | some d =>
      have z := q 0 d rfl
      simp at z
      subst z
      cases a <;> simp only [er, ih]
theorem wipe_get {σ : L2.St} : ∀ {vs : List Nat} {i : Nat}, i ∉ vs → (wipe σ vs)[i]? = σ[i]? := fun h => wipe_out h
theorem wipe_in {σ : L2.St} : ∀ {vs : List Nat} {i : Nat}, i ∈ vs → i < σ.length → (wipe σ vs)[i]? = some none
  | [], i, h, _ => nomatch h
  | v :: vs, i, h, hl => by
    rw [wipe]
    by_cases hv : v = i
    · subst hv
      rw [List.getElem?_set_self (by rw [wipe_length]; exact hl)]
    · rw [List.getElem?_set_ne hv]
      exact wipe_in (by simpa [Ne.symm hv] using h) hl
theorem wipe_eq {σ σ2 : L2.St} {vs : List Nat} (hl : σ2.length = σ.length) (h : ∀ i, i ∉ vs → σ2[i]? = σ[i]?) : wipe σ2 vs = wipe σ vs := by
  apply List.ext_getElem?
  intro i
  by_cases hi : i ∈ vs
  · by_cases hb : i < σ.length
    · rw [wipe_in hi hb, wipe_in hi (by omega)]
    · rw [List.getElem?_eq_none (by rw [wipe_length]; omega), List.getElem?_eq_none (by rw [wipe_length]; omega)]
  · rw [wipe_get hi, wipe_get hi, h i hi]
theorem wipe_wipe {σ : L2.St} {vs : List Nat} : wipe (wipe σ vs) vs = wipe σ vs := wipe_eq (by rw [wipe_length]) fun i hi => wipe_get hi
theorem kill_none : ∀ {ks : List Nat} {e : Env} {i : Nat} {d : D}, (kill ks e)[i]? = some (some d) → i ∉ ks ∧ e[i]? = some (some d)
  | [], e, i, d, h => ⟨(fun z => nomatch z), h⟩
  | k :: ks, e, i, d, h => by
    rw [kill] at h
    obtain ⟨h1, h2⟩ := kill_none h
    by_cases hk : k = i
    · subst hk
      by_cases hl : k < e.length
      · rw [List.getElem?_set_self hl] at h2; cases h2
      · rw [List.getElem?_eq_none (by rw [List.length_set]; omega)] at h2; cases h2
    · rw [List.getElem?_set_ne hk] at h2
      exact ⟨by simp [h1, Ne.symm hk], h2⟩
theorem kill_len : ∀ {ks : List Nat} {e : Env}, (kill ks e).length = e.length
  | [], e => rfl
  | k :: ks, e => by rw [kill, kill_len, List.length_set]
/-- other slots, where nothing is told of those that differ -/
theorem Wd.slots {B' : Bs} {σ σ' : L2.St} {e : Env} {Γ : List Rt} {H : Hp} (w : Wd K B σ e Γ H) (hl : σ'.length = σ.length) (h : ∀ (i : Nat) (d : D), e[i]? = some (some d) → σ'[i]? = σ[i]?) (hB : B'.H0 = B.H0 ∧ B'.F0 = B.F0 ∧ B'.S0 = B.S0) (hp : ∀ p ∈ B'.pr, σ'[p.1]? = some (some p.2)) : Wd K B' σ' e Γ H := by
  refine ⟨⟨by rw [hl]; exact w.fit.1, fun i d hi => ?_⟩, hp, ?_⟩
  · rw [h i d hi]; exact w.fit.2 i d hi
  · rw [er_congr hl h]
    obtain ⟨F, S, r, o⟩ := w.w
    obtain ⟨b1, b2, b3⟩ := hB
    exact ⟨F, S, r, ⟨o.nd, o.dj, by rw [b1, b2]; exact o.fF, by rw [b1, b2, b3]; exact o.fS, by rw [b1, b2]; exact o.kp, o.sz⟩⟩
/-- the list at the head of what is held, with one item more -/
theorem Wd.app {σ : L2.St} {e : Env} {Γ : List Rt} {H : Hp} {y : V} {dy : D} {p : Addr} {acc : List D} (w : Wd K B σ e ((y, dy) :: (.ref p, .lst true acc) :: Γ) H) : ∃ vs, H p = some (.lst vs) ∧ vs.length = acc.length ∧ (vs.length < sizeLine → Wd K B σ e ((.ref p, .lst true (acc ++ [dy])) :: Γ) (upd H p (.lst (vs ++ [y])))) := by
  obtain ⟨F, S, r, o⟩ := w.w
  cases r with
  | @cons _ _ _ _ Fy Sy _ _ ry r =>
    cases r with
    | @cons _ _ _ _ Fp Sp Fr Sr rp rr =>
      cases rp with
      | @own _ vs _ F1 S1 e0 rs =>
        refine ⟨vs, e0, rs.len, fun hz => ?_⟩
        have hk : Kept H (upd H p (.lst (vs ++ [y]))) [p] := fun b u hb hn => by rw [upd_ne (by simpa using hn)]; exact hb
        have hm : ∀ b ∈ [p], IsLst H b := fun b hb => by
          have : b = p := by simpa using hb
          rw [this]; exact ⟨_, e0⟩
        obtain ⟨m1, m2, m3⟩ := List.nodup_append.mp o.nd
        obtain ⟨m4, m5, m6⟩ := List.nodup_append.mp m2
        have pF : p ∈ Fy ++ (p :: F1 ++ Fr) := by simp
        have nS : p ∉ Sy ++ (Sp ++ Sr) := o.dj p pF
        have nFy : p ∉ Fy := fun z => m3 p z p (by simp) rfl
        have nF1 : p ∉ F1 := (List.nodup_cons.mp m4).1
        have nFr : p ∉ Fr := fun z => m6 p (by simp) p z rfl
        have ry' := ry.kept hk hm (fun a ha z => nFy (by have : a = p := by simpa using z
                                                         rw [← this]; exact ha)) (fun a ha z => nS (by have : a = p := by simpa using z
                                                                                                       rw [← this]; simp [ha]))
        have rs' := Reps.kept hk hm rs (fun a ha z => nF1 (by have : a = p := by simpa using z
                                                              rw [← this]; exact ha)) (fun a ha z => nS (by have : a = p := by simpa using z
                                                                                                            rw [← this]; simp [ha]))
        have rr' := Reps.kept hk hm rr (fun a ha z => nFr (by have : a = p := by simpa using z
                                                              rw [← this]; exact ha)) (fun a ha z => nS (by have : a = p := by simpa using z
                                                                                                            rw [← this]; simp [ha]))
        have ra := Reps.app rs' (Reps.cons ry' .nil)
        refine ⟨w.fit, w.pr, _, _, .cons (.own upd_same ra) rr', ?_⟩
        have perm : (p :: (F1 ++ (Fy ++ [])) ++ Fr).Perm (Fy ++ (p :: F1 ++ Fr)) := by
          rw [List.append_nil]
          have h1 : (p :: (F1 ++ Fy) ++ Fr) = (p :: F1) ++ (Fy ++ Fr) := by simp
          rw [h1]
          exact (List.perm_append_comm_assoc _ _ _)
        refine ⟨perm.nodup_iff.mpr o.nd, fun a ha hs => ?_, fun a ha => o.fF a (perm.mem_iff.mp ha), fun a ha => ?_, fun b u hb hn => ?_, o.sz.lst (by rw [List.length_append, List.length_singleton]; omega)⟩
        · refine o.dj a (perm.mem_iff.mp ha) ?_
          simp only [List.append_nil, List.mem_append] at hs ⊢
          rcases hs with (z | z) | z
          · exact .inr (.inl z)
          · exact .inl z
          · exact .inr (.inr z)
        · refine o.fS a ?_
          simp only [List.append_nil, List.mem_append] at ha ⊢
          rcases ha with (z | z) | z
          · exact .inr (.inl z)
          · exact .inl z
          · exact .inr (.inr z)
        · have q := o.kp b u hb hn
          refine hk b u q fun z => ?_
          have : b = p := by simpa using z
          subst this
          rcases o.fF b pF with y1 | y1
          · exact hn y1
          · rw [hb] at y1; cases y1
end
section
variable {Φ : Fs} {k : Nat} {n : Nm}
theorem relS_eq {scope : Scope} {env : PySem.Env} : relabel scope env = relS scope env.scope := rfl
theorem OkX.blk {X : Cx} {sc : Scope} (O : OkX Φ k n X sc) (s : Shared) (H : Hp) (scope : Scope) (C : Addr) (cl : List (Str × Addr)) (fp : List Addr) : OkX Φ k n (X.blk s H scope (compEnvC scope cl C X.env) fp) (relS scope sc) :=
  ⟨O.N, O.nd, by show relabel scope X.env = _; rw [relS_eq, O.sc], O.calm, rfl, O.lv, O.lv0, O.bt, O.fns⟩
theorem blk_loc {X : Cx} {sc : Scope} (O : OkX Φ k n X sc) (s : Shared) (H : Hp) (scope : Scope) (C : Addr) (cl : List (Str × Addr)) (fp : List Addr) : ∀ x, locB scope x = true → Loc (X.blk s H scope (compEnvC scope cl C X.env) fp).env.scope x ∧ ((X.blk s H scope (compEnvC scope cl C X.env) fp).fn x = true ∨ (X.blk s H scope (compEnvC scope cl C X.env) fp).env.scope.names.lookup x = some .local) := by
  intro x h
  unfold locB at h
  have e : (X.blk s H scope (compEnvC scope cl C X.env) fp).env.scope = relS scope X.env.scope := relS_eq
  rw [e]
  split at h
  · rename_i hh
    have q : (relS scope X.env.scope).names.lookup x = some .local := lookup_relS_keep (by decide) hh
    exact ⟨.inl q, .inr q⟩
  · rename_i hh
    have q : (relS scope X.env.scope).names.lookup x = some .cell := lookup_relS_keep (by decide) hh
    exact ⟨.inr q, .inl (by show (scope.names.lookup x == some .cell) = true; rw [hh]; rfl)⟩
  · cases h
theorem own_map {sc : Scope} {tg : List Nat} {g : Expr} (h : tgB n sc tg g = true) : (ownOf n tg).map (·.2) = tg := by
  unfold tgB at h
  split at h
  · simp only [Bool.and_eq_true, decide_eq_true_eq] at h
    simp [ownOf, h.1]
  · simp only [Bool.and_eq_true, decide_eq_true_eq] at h
    obtain ⟨⟨⟨h1, h2⟩, h3⟩, h4⟩ := h
    simp [ownOf, h1, h3]
  · simp only [Bool.and_eq_true, decide_eq_true_eq] at h
    obtain ⟨⟨⟨⟨⟨h1, h2⟩, h3⟩, h4⟩, h5⟩, h6⟩ := h
    simp [ownOf, h1, h3, h5]
  · cases h
/-- the parts of a comprehension's text -/
structure LcAt (n : Nm) (sc : Scope) (tg : List Nat) (it c el : T) (x g i : Expr) (fs : List Expr) (scope : Scope) : Prop where
  hi : chkI n sc it i = true
  ht : tgB n scope tg g = true
  ok : okTg it tg = true
  blk : blkC n.N sc scope (ownOf n tg) = true
  hf : (fs = [] ∧ c = .bl true) ∨ ∃ f, fs = [f] ∧ chkE n (relS scope sc) c f = true
  he : chkE n (relS scope sc) el x = true
theorem chk_lc {tg : List Nat} {it c el : T} {sc : Scope} {e : Expr} (h : chkE n sc (.lc tg it c el) e = true) : ∃ x g i fs scope pos, e = .ListComp x [⟨g, i, fs, 0⟩] scope pos ∧ LcAt n sc tg it c el x g i fs scope := by
  cases e <;> try (simp [chkE] at h; done)
  rename_i x gs scope pos
  rcases gs with _ | ⟨⟨g, i, fs, as⟩, _ | ⟨g2, r⟩⟩ <;> try (simp [chkE] at h; done)
  simp only [chkE, Bool.and_eq_true, decide_eq_true_eq] at h
  obtain ⟨⟨⟨⟨⟨⟨h1, h2⟩, h3⟩, h4⟩, h5⟩, h6⟩, h7⟩ := h
  subst h1
  refine ⟨x, g, i, fs, scope, pos, rfl, h2, h3, h4, h5, ?_, h7⟩
  split at h6
  · split at h6
    · exact .inl ⟨rfl, rfl⟩
    · cases h6
  · exact .inr ⟨_, rfl, h6⟩
  · cases h6
/-- its tests -/
def tTs (K : PySem.W.Frag) (Φ : Fs) (c : T) (fs : List Expr) : TT := match fs with
  | [] => tYes
  | _ => tT K Φ c
theorem SI_any {it : T} (s : SI Φ k n it) (sz : ∀ a b, it = .zip a b → SE Φ k n a ∧ SE Φ k n b) {X : Cx} {sc sc' : Scope} {tg : List Nat} {g e : Expr} (O : OkX Φ k n X sc) (ht : tgB n sc' tg g = true) (ok : okTg it tg = true) (h : chkI n sc it e = true) : PI X g e (tI X.K Φ it) := by
  cases it with
  | zip a b =>
    obtain ⟨sa, sb⟩ := sz a b rfl
    simp only [okTg, decide_eq_true_eq] at ok
    unfold tgB at ht
    split at ht <;> try (simp at ok; done)
    · exact SI_zip sa sb O h
    · cases ht
  | _ => exact s (fun a b z => by cases z) O h
theorem lc_imp {K : PySem.W.Frag} {tg : List Nat} {it c el : T} {fs : List Expr} (hc : fs = [] → c = .bl true) {σ : L2.St} {H : Hp} {Q : VK} (h : tD K Φ (.lc tg it c el) σ H Q) : tLc (tI K Φ it) (gOf K tg) (tTs K Φ c fs) (tD K Φ el) tg σ H Q := by
  obtain ⟨B, env, Γ, d, e', w, hd, q⟩ := h
  rw [evE] at hd
  split at hd
  · rename_i xs e1 h1
    split at hd
    · rename_i ds e2 h2
      obtain ⟨rfl, rfl⟩ := inj2 hd
      refine ⟨B, env, Γ, xs, e1, w, h1, fun J H1 hold it0 w1 D0 hD => ?_⟩
      -- the invariant
      let f := fun (x : D) (e : Env) => match bindT tg x e with
        | some e => match evE Φ c e with
          | some (.bl true, e) => match evE Φ el e with
            | some (d, e) => some (some d, kill tg e)
            | none => none
          | some (.bl false, e) => some (none, kill tg e)
          | _ => none
        | none => none
      let B' : Bs := { B with pr := [] }
      have toIt : ∀ {R H'}, W K B' H' R → W K B H' R := fun hw => by
        obtain ⟨F, S, r, o⟩ := hw
        exact ⟨F, S, r, ⟨o.nd, o.dj, o.fF, o.fS, o.kp, o.sz⟩⟩
      have ofIt : ∀ {R H'}, W K B H' R → W K B' H' R := fun hw => by
        obtain ⟨F, S, r, o⟩ := hw
        exact ⟨F, S, r, ⟨o.nd, o.dj, o.fF, o.fS, o.kp, o.sz⟩⟩
      refine ⟨fun i m H => m = xs.length - i ∧ i ≤ xs.length ∧ ∃ ei acc, Wd K B' (wipe σ tg) ei ((.ref D0, .lst true acc) :: (hold ++ Γ)) H ∧ (∀ (j : Nat) (d : D), ei[j]? = some (some d) → j ∉ tg) ∧ acc.length ≤ i ∧ xs.length ≤ sizeLine ∧ loopC f (xs.drop i) ei acc = some (ds, e2), ?_, ?_⟩
      · refine ⟨xs.length, by simp, Nat.zero_le _, kill tg e1, [], ?_, fun j d hj => (kill_none hj).1, Nat.le_refl _, ?_, h2⟩
        · have w2 : Wd K B σ (kill tg e1) (hold ++ Γ) H1 := w1.kill tg
          have w3 : Wd K B' (wipe σ tg) (kill tg e1) (hold ++ Γ) H1 := w2.slots (by rw [wipe_length]) (fun i d hi => wipe_get (kill_none hi).1) ⟨rfl, rfl, rfl⟩ fun p hp => nomatch hp
          exact w3.lstN (vs := []) (ds := []) rfl hD (Nat.zero_le _)
        · exact it0.small (R := Γ ++ er σ e1) (by have := w1.w; rwa [List.append_assoc] at this)
      · rintro i m H2 ⟨rfl, hi, ei, acc, w2, hk, hacc, hsz, hl⟩
        have wI : W K B H2 (hold ++ ((.ref D0, .lst true acc) :: (Γ ++ er (wipe σ tg) ei))) := by
          have := toIt w2.w
          refine this.perm ?_
          rw [List.cons_append, List.append_assoc]
          exact List.perm_middle.symm
        by_cases hlt : i < xs.length
        · obtain ⟨x0, hx0⟩ := get_some hlt
          have hdrop : xs.drop i = x0 :: xs.drop (i + 1) := by
            obtain ⟨hh, he⟩ := List.getElem?_eq_some_iff.mp hx0
            rw [List.drop_eq_getElem_cons hh, he]
          rw [hdrop, loopC] at hl
          refine .inr ⟨it0.go i H2 _ wI hlt, fun H' => ∃ ei acc, Wd K B' (wipe σ tg) ei ((.ref D0, .lst true acc) :: (hold ++ Γ)) H' ∧ (∀ (j : Nat) (d : D), ei[j]? = some (some d) → j ∉ tg) ∧ acc.length ≤ i + 1 ∧ loopC f (xs.drop (i + 1)) ei acc = some (ds, e2), ?_, ?_⟩
          · rintro H' ⟨ei', acc', a1, a2, a3, a4⟩
            exact ⟨xs.length - (i + 1), by omega, rfl, hlt, ei', acc', a1, a2, a3, hsz, a4⟩
          · intro x H' hy
            obtain ⟨d0, hd0, w3⟩ := it0.yld i H2 _ x H' wI hlt hy
            rw [hx0] at hd0
            cases hd0
            have w4 : Wd K B' (wipe σ tg) ei ((x, x0) :: (.ref D0, .lst true acc) :: (hold ++ Γ)) H' := by
              refine ⟨w2.fit, (fun p hp => nomatch hp), ofIt (w3.perm ?_)⟩
              refine .cons _ ?_
              show (hold ++ (V.ref D0, D.lst true acc) :: (Γ ++ er (wipe σ tg) ei)).Perm ((V.ref D0, D.lst true acc) :: ((hold ++ Γ) ++ er (wipe σ tg) ei))
              rw [List.append_assoc]
              exact List.perm_middle
            split at hl
            · rename_i d1 e3 hf
              simp only [f] at hf
              split at hf
              · rename_i e4 hb
                refine bind_ok hb w4 (fun p hp => nomatch hp) fun σ2 w5 hs hlen => ⟨?_, ?_⟩
                · exact wipe_eq (hlen.trans (wipe_length _ _)) fun i hi => (hs i hi).trans (wipe_get hi)
                split at hf
                · rename_i e5 hcc
                  split at hf
                  · rename_i d2 e6 hee
                    obtain ⟨rd, re⟩ := inj2 hf
                    cases rd
                    subst re
                    have step : ∀ H3, Wd K B' σ2 e5 ((.ref D0, .lst true acc) :: (hold ++ Γ)) H3 → (if true = true then tD K Φ el σ2 H3 fun y H4 => ∃ acc0, H4 D0 = some (.lst acc0) ∧ acc0.length < sizeLine ∧ ∃ ei acc, Wd K B' (wipe σ tg) ei ((.ref D0, .lst true acc) :: (hold ++ Γ)) (upd H4 D0 (.lst (acc0 ++ [y]))) ∧ (∀ (j : Nat) (d : D), ei[j]? = some (some d) → j ∉ tg) ∧ acc.length ≤ i + 1 ∧ loopC f (xs.drop (i + 1)) ei acc = some (ds, e2) else ∃ ei acc, Wd K B' (wipe σ tg) ei ((.ref D0, .lst true acc) :: (hold ++ Γ)) H3 ∧ (∀ (j : Nat) (d : D), ei[j]? = some (some d) → j ∉ tg) ∧ acc.length ≤ i + 1 ∧ loopC f (xs.drop (i + 1)) ei acc = some (ds, e2)) := by
                      intro H3 w6
                      rw [if_pos rfl]
                      refine ⟨B', e5, _, d1, e6, w6, hee, fun y H4 w7 => ?_⟩
                      obtain ⟨vs, ev, hl2, w8⟩ := w7.app
                      have hlt2 : vs.length < sizeLine := by omega
                      refine ⟨vs, ev, hlt2, kill tg e6, acc ++ [d1], ?_, fun j d hj => (kill_none hj).1, by simp; omega, hl⟩
                      exact ((w8 hlt2).kill tg).slots (by rw [wipe_length, hlen, wipe_length]) (fun i d hi => by
                        have h9 := (kill_none hi).1
                        rw [hs i h9]) ⟨rfl, rfl, rfl⟩ fun p hp => nomatch hp
                    unfold tTs
                    split
                    · have hcb := hc rfl
                      subst hcb
                      rw [evE] at hcc
                      obtain ⟨_, re⟩ := inj2 hcc
                      subst re
                      exact step H' w5
                    · exact ⟨B', e4, _, true, e5, w5, hcc, fun H3 w6 => step H3 w6⟩
                  · cases hf
                · rename_i e5 hcc
                  simp at hf
                · cases hf
              · cases hf
            · rename_i e3 hf
              simp only [f] at hf
              split at hf
              · rename_i e4 hb
                refine bind_ok hb w4 (fun p hp => nomatch hp) fun σ2 w5 hs hlen => ⟨?_, ?_⟩
                · exact wipe_eq (hlen.trans (wipe_length _ _)) fun i hi => (hs i hi).trans (wipe_get hi)
                split at hf
                · rename_i e5 hcc
                  split at hf
                  · simp at hf
                  · cases hf
                · rename_i e5 hcc
                  obtain ⟨_, re⟩ := inj2 hf
                  subst re
                  have fin : ∀ H3, Wd K B' σ2 e5 ((.ref D0, .lst true acc) :: (hold ++ Γ)) H3 → ∃ ei acc, Wd K B' (wipe σ tg) ei ((.ref D0, .lst true acc) :: (hold ++ Γ)) H3 ∧ (∀ (j : Nat) (d : D), ei[j]? = some (some d) → j ∉ tg) ∧ acc.length ≤ i + 1 ∧ loopC f (xs.drop (i + 1)) ei acc = some (ds, e2) := by
                    intro H3 w6
                    refine ⟨kill tg e5, acc, ?_, fun j d hj => (kill_none hj).1, by omega, hl⟩
                    exact (w6.kill tg).slots (by rw [wipe_length, hlen, wipe_length]) (fun i d hi => by
                      have h9 := (kill_none hi).1
                      rw [hs i h9]) ⟨rfl, rfl, rfl⟩ fun p hp => nomatch hp
                  unfold tTs
                  split
                  · have hcb := hc rfl
                    subst hcb
                    rw [evE] at hcc
                    have := (inj2 hcc).1
                    cases this
                  · refine ⟨B', e4, _, false, e5, w5, hcc, fun H3 w6 => ?_⟩
                    show if false = true then _ else _
                    rw [if_neg Bool.false_ne_true]
                    exact fin H3 w6
                · cases hf
              · cases hf
            · cases hl
        · have hie : i = xs.length := by omega
          subst hie
          rw [List.drop_length, loopC] at hl
          obtain ⟨rfl, rfl⟩ := inj2 hl
          refine .inl ⟨it0.stop _ H2 _ wI (Nat.le_refl _), q _ _ ?_⟩
          have w3 : Wd K B' (wipe σ tg) ei ((.ref D0, .lst true acc) :: Γ) H2 := by
            refine ⟨w2.fit, w2.pr, ?_⟩
            have := toIt w2.w
            have p2 : ((V.ref D0, D.lst true acc) :: (hold ++ Γ) ++ er (wipe σ tg) ei).Perm (hold ++ ((V.ref D0, D.lst true acc) :: (Γ ++ er (wipe σ tg) ei))) := by
              rw [List.cons_append, List.append_assoc]
              exact List.perm_middle.symm
            exact ofIt (W.dropN (this.perm p2))
          exact w3.slots (by rw [wipe_length]) (fun i d hi => (wipe_get (hk i d hi)).symm) ⟨rfl, rfl, rfl⟩ fun p hp => w.pr p hp
    · cases hd
  · cases hd
end
end Sr
set_option Elab.async false
set_option linter.all false
set_option maxRecDepth 100000
set_option maxHeartbeats 2000000
/-! # Sr: all terms; statements -/
namespace Sr
open PySem PySem.Spec PyProof.Rows L2
section
variable {Φ : Fs} {k : Nat} {n : Nm}
/-! ### a comprehension -/
structure LcParts (Φ : Fs) (k : Nat) (n : Nm) (it c el : T) : Prop where
  i : SI Φ k n it
  iz : ∀ a b, it = .zip a b → SE Φ k n a ∧ SE Φ k n b
  c : ST Φ k n c
  el : SE Φ k n el
theorem lc_ht {X : Cx} {sc scope : Scope} {c : T} {fs : List Expr} (s : ST Φ k n c) (O : OkX Φ k n X sc) (hf : (fs = [] ∧ c = .bl true) ∨ ∃ f, fs = [f] ∧ chkE n (relS scope sc) c f = true) (s0 : Shared) (H : Hp) (C : Addr) (cl : List (Str × Addr)) (fp : List Addr) :
    PTs (X.blk s0 H scope (compEnvC scope cl C X.env) fp) fs (tTs X.K Φ c fs) := by
  rcases hf with ⟨rfl, _⟩ | ⟨f, rfl, hf⟩
  · exact pts_nil
  · exact pts_one (s (O.blk s0 H scope C cl fp) hf)
theorem SE_lc {tg : List Nat} {it c el : T} (P : LcParts Φ k n it c el) : SE Φ k n (.lc tg it c el) := by
  intro X sc e O h
  obtain ⟨x, g, i, fs, scope, pos, rfl, L⟩ := chk_lc h
  have hi := SI_any P.i P.iz O L.ht L.ok L.hi
  have z := pe_lc (pos := pos) (own := ownOf n tg) (g := gOf X.K tg) (tt := tTs X.K Φ c fs) (te := tD X.K Φ el) O.calm O.nd hi (blkOk_by (by rw [O.N, O.sc]; exact L.blk)) (fun s H C cl fp => pg_ok (X := X.blk s H scope (compEnvC scope cl C X.env) fp) O.N O.nd O.calm (blk_loc O s H scope C cl fp) L.ht) (fun s H C cl fp => lc_ht P.c O L.hf s H C cl fp) (fun s H C cl fp => P.el (O.blk s H scope C cl fp) L.he) (foldS (chkI_pl L.hi))
  refine z.imp fun σ H Q q => ?_
  rw [own_map L.ht]
  exact lc_imp (fun e => by
    rcases L.hf with ⟨_, h⟩ | ⟨f, h, _⟩
    · exact h
    · rw [e] at h; cases h) q

/-! ### all terms -/
structure AllT (Φ : Fs) (k : Nat) (n : Nm) (t : T) : Prop where
  e : SE Φ k n t
  tt : ST Φ k n t
  l : SL Φ k n t
  g : SG Φ k n t
  i : SI Φ k n t
  wa : SW Φ k n .And t
  wo : SW Φ k n .Or t
  iz : ∀ a b, t = .zip a b → SE Φ k n a ∧ SE Φ k n b
theorem noSE {t : T} (h : ∀ {sc : Scope} {e : Expr}, chkE n sc t e = false) : SE Φ k n t := fun O hh => by rw [h] at hh; cases hh
theorem noST {t : T} (h : ∀ {sc : Scope} {e : Expr}, chkE n sc t e = false) : ST Φ k n t := fun O hh => by rw [h] at hh; cases hh
theorem noSL {t : T} (h : ∀ {sc : Scope} {es : List Expr}, chkL n sc t es = false) : SL Φ k n t := fun O hh => by rw [h] at hh; cases hh
theorem noSG {t : T} (h : ∀ {sc : Scope} {es : List Expr}, chkL n sc t es = false) : SG Φ k n t := fun O hh => by rw [h] at hh; cases hh
theorem noSI {t : T} (h : ∀ {sc : Scope} {e : Expr}, chkI n sc t e = false) : SI Φ k n t := fun _ O hh => by rw [h] at hh; cases hh
theorem noSW {op : BoolOp} {t : T} (h : ∀ {sc : Scope} {es : List Expr} {p : Pos}, chkE n sc t (.BoolOp op es p) = false) : SW Φ k n op t := fun O hh => by rw [h] at hh; cases hh
theorem noBool {t : T} (h : ∀ a b, t ≠ .and a b) (h2 : ∀ a b, t ≠ .or a b) (h3 : ∀ a, t ≠ .frz a) {op : BoolOp} {sc : Scope} {es : List Expr} {p : Pos} : chkE n sc t (.BoolOp op es p) = false := by
  cases t <;> first | exact absurd rfl (h _ _) | exact absurd rfl (h2 _ _) | exact absurd rfl (h3 _) | rfl | (rw [chkE]; done) | simp [chkE]
/-- a test that is no form of its own, by its value -/
theorem ST_pl {t : T} (s : SE Φ k n t) (h : ∀ {sc : Scope} {e : Expr}, chkE n sc t e = true → plT e = true) : ST Φ k n t := fun O hh => ST_of (s O hh) (h hh)
theorem mkAll {t : T} (e : SE Φ k n t) (tt : ST Φ k n t) (hl : ∀ {sc : Scope} {es : List Expr}, chkL n sc t es = false) (hi : ∀ {sc : Scope} {e : Expr}, chkI n sc t e = false) (wa : SW Φ k n .And t) (wo : SW Φ k n .Or t) (iz : ∀ a b, t ≠ .zip a b) : AllT Φ k n t :=
  ⟨e, tt, noSL hl, noSG hl, noSI hi, wa, wo, fun a b z => absurd z (iz a b)⟩
theorem SW_frz {op : BoolOp} {a : T} (s : SW Φ k n op a) : SW Φ k n op (.frz a) := by
  intro X sc es pos O h
  rw [chkE] at h
  refine (s O h).imp ?_
  rintro σ H Q ⟨B, env, Γ, d, e', w, hd, q⟩
  rw [evE] at hd
  split at hd
  · rename_i d0 e0 h0
    simp only [Option.some.injEq, Prod.mk.injEq] at hd
    obtain ⟨h1, h2⟩ := hd
    have z := shr_bl h1
    subst z
    subst h2
    exact ⟨B, env, Γ, _, e0, w, h0, fun H' w' => q H' w'⟩
  · cases hd
theorem pl_call {x : Str} {p pos : Pos} {es : List Expr} : plT (.Call (.Name x p) es [] pos) = true := rfl
theorem all_terms : ∀ t : T, AllT Φ k n t := by
  intro t
  induction t with
  | nil => exact ⟨noSE rfl, noST rfl, SL_nil, SG_nil, noSI rfl, noSW rfl, noSW rfl, fun a b z => by cases z⟩
  | cons a r ia ir => exact ⟨noSE rfl, noST rfl, SL_cons ia.e ir.l, SG_cons ia.e ir.g, noSI rfl, noSW rfl, noSW rfl, fun a b z => by cases z⟩
  | v i => exact mkAll (SE_v i) (ST_pl (SE_v i) fun {sc e} h => by cases e <;> first | rfl | (simp [chkE] at h; done)) rfl rfl (noSW (noBool (by simp) (by simp) (by simp))) (noSW (noBool (by simp) (by simp) (by simp))) (by simp)
  | w i => exact mkAll (SE_w i) (ST_pl (SE_w i) fun {sc e} h => by cases e <;> first | rfl | (simp [chkE] at h; done)) rfl rfl (noSW (noBool (by simp) (by simp) (by simp))) (noSW (noBool (by simp) (by simp) (by simp))) (by simp)
  | non => exact mkAll SE_non (ST_pl SE_non fun {sc e} h => by cases e <;> first | rfl | (simp [chkE] at h; done)) rfl rfl (noSW (noBool (by simp) (by simp) (by simp))) (noSW (noBool (by simp) (by simp) (by simp))) (by simp)
  | bl b => exact mkAll (SE_bl b) (ST_pl (SE_bl b) fun {sc e} h => by cases e <;> first | rfl | (simp [chkE] at h; done)) rfl rfl (noSW (noBool (by simp) (by simp) (by simp))) (noSW (noBool (by simp) (by simp) (by simp))) (by simp)
  | int i => exact mkAll (SE_int i) (ST_pl (SE_int i) fun {sc e} h => by cases e <;> first | rfl | (simp [chkE] at h; done)) rfl rfl (noSW (noBool (by simp) (by simp) (by simp))) (noSW (noBool (by simp) (by simp) (by simp))) (by simp)
  | str x => exact mkAll (SE_str x) (ST_pl (SE_str x) fun {sc e} h => by cases e <;> first | rfl | (simp [chkE] at h; done)) rfl rfl (noSW (noBool (by simp) (by simp) (by simp))) (noSW (noBool (by simp) (by simp) (by simp))) (by simp)
  | frz a ia => exact mkAll (SE_frz ia.e) (ST_frz ia.tt) rfl rfl (SW_frz ia.wa) (SW_frz ia.wo) (by simp)
  | bin o a b ia ib => exact mkAll (SE_bin ia.e ib.e) (ST_pl (SE_bin ia.e ib.e) fun {sc e} h => by cases e <;> first | rfl | (simp [chkE] at h; done)) rfl rfl (noSW (noBool (by simp) (by simp) (by simp))) (noSW (noBool (by simp) (by simp) (by simp))) (by simp)
  | neg a ia => exact mkAll (SE_neg ia.e) (ST_pl (SE_neg ia.e) fun {sc e} h => by cases e <;> first | rfl | (simp [chkE] at h; done) | (rename_i o _ _; cases o <;> first | rfl | (simp [chkE] at h; done))) rfl rfl (noSW (noBool (by simp) (by simp) (by simp))) (noSW (noBool (by simp) (by simp) (by simp))) (by simp)
  | cmp o a b ia ib => exact mkAll (SE_cmp ia.e ib.e) (ST_cmp ia.e ib.e) rfl rfl (noSW (noBool (by simp) (by simp) (by simp))) (noSW (noBool (by simp) (by simp) (by simp))) (by simp)
  | eq a b ia ib => exact mkAll (SE_eq ia.e ib.e) (ST_eq ia.e ib.e) rfl rfl (noSW (noBool (by simp) (by simp) (by simp))) (noSW (noBool (by simp) (by simp) (by simp))) (by simp)
  | ne a b ia ib => exact mkAll (SE_ne ia.e ib.e) (ST_ne ia.e ib.e) rfl rfl (noSW (noBool (by simp) (by simp) (by simp))) (noSW (noBool (by simp) (by simp) (by simp))) (by simp)
  | isN a ia => exact mkAll (SE_isN ia.e) (ST_isN ia.e) rfl rfl (noSW (noBool (by simp) (by simp) (by simp))) (noSW (noBool (by simp) (by simp) (by simp))) (by simp)
  | nisN a ia => exact mkAll (SE_nisN ia.e) (ST_nisN ia.e) rfl rfl (noSW (noBool (by simp) (by simp) (by simp))) (noSW (noBool (by simp) (by simp) (by simp))) (by simp)
  | chain o o' a b c ia ib ic => exact mkAll (SE_chain ia.e ib.e ic.e) (ST_chain ia.e ib.e ic.e) rfl rfl (noSW (noBool (by simp) (by simp) (by simp))) (noSW (noBool (by simp) (by simp) (by simp))) (by simp)
  | and a b ia ib =>
    have sw : SW Φ k n .And (.and a b) := SW_and ia.tt ib.tt ib.wa
    exact mkAll (SE_and ia.e ib.e) (ST_and sw) rfl rfl sw (noSW rfl) (by simp)
  | or a b ia ib =>
    have sw : SW Φ k n .Or (.or a b) := SW_or ia.tt ib.tt ib.wo
    exact mkAll (SE_or ia.e ib.e) (ST_or sw) rfl rfl (noSW rfl) sw (by simp)
  | not a ia => exact mkAll (SE_not ia.e) (ST_not ia.tt) rfl rfl (noSW (noBool (by simp) (by simp) (by simp))) (noSW (noBool (by simp) (by simp) (by simp))) (by simp)
  | ife c a b ic ia ib => exact mkAll (SE_ife ic.tt ia.e ib.e) (ST_ife ic.tt ia.tt ib.tt) rfl rfl (noSW (noBool (by simp) (by simp) (by simp))) (noSW (noBool (by simp) (by simp) (by simp))) (by simp)
  | tup a ia => exact mkAll (SE_tup ia.l) (ST_pl (SE_tup ia.l) fun {sc e} h => by cases e <;> first | rfl | (simp [chkE] at h; done)) rfl rfl (noSW (noBool (by simp) (by simp) (by simp))) (noSW (noBool (by simp) (by simp) (by simp))) (by simp)
  | lst a ia => exact mkAll (SE_lst ia.l) (ST_pl (SE_lst ia.l) fun {sc e} h => by cases e <;> first | rfl | (simp [chkE] at h; done)) rfl rfl (noSW (noBool (by simp) (by simp) (by simp))) (noSW (noBool (by simp) (by simp) (by simp))) (by simp)
  | ix a b ia ib => exact mkAll (SE_ix ia.e ib.e) (ST_pl (SE_ix ia.e ib.e) fun {sc e} h => by cases e <;> first | rfl | (simp [chkE] at h; done)) rfl rfl (noSW (noBool (by simp) (by simp) (by simp))) (noSW (noBool (by simp) (by simp) (by simp))) (by simp)
  | sl a lo hi ia _ _ => exact mkAll (SE_sl ia.e) (ST_pl (SE_sl ia.e) fun {sc e} h => by cases e <;> first | rfl | (simp [chkE] at h; done)) rfl rfl (noSW (noBool (by simp) (by simp) (by simp))) (noSW (noBool (by simp) (by simp) (by simp))) (by simp)
  | call f a ia => exact mkAll (SE_call ia.g) (ST_pl (SE_call ia.g) fun {sc e} h => by cases e <;> first | rfl | (simp [chkE] at h; done)) rfl rfl (noSW (noBool (by simp) (by simp) (by simp))) (noSW (noBool (by simp) (by simp) (by simp))) (by simp)
  | b1 c a ia => exact mkAll (SE_b1 ia.e) (ST_pl (SE_b1 ia.e) fun {sc e} h => by obtain ⟨_, _, _, _, rfl, _⟩ := chk_b1 h; rfl) rfl rfl (noSW (noBool (by simp) (by simp) (by simp))) (noSW (noBool (by simp) (by simp) (by simp))) (by simp)
  | bn c a ia => exact mkAll (SE_bn ia.l) (ST_pl (SE_bn ia.l) fun {sc e} h => by cases e <;> first | rfl | (simp [chkE] at h; done)) rfl rfl (noSW (noBool (by simp) (by simp) (by simp))) (noSW (noBool (by simp) (by simp) (by simp))) (by simp)
  | inn a b ia ib => exact mkAll (SE_inn ia.e ib.e) (ST_inn ia.e ib.e) rfl rfl (noSW (noBool (by simp) (by simp) (by simp))) (noSW (noBool (by simp) (by simp) (by simp))) (by simp)
  | nin a b ia ib => exact mkAll (SE_nin ia.e ib.e) (ST_nin ia.e ib.e) rfl rfl (noSW (noBool (by simp) (by simp) (by simp))) (noSW (noBool (by simp) (by simp) (by simp))) (by simp)
  | rng1 a ia => exact ⟨noSE rfl, noST rfl, noSL rfl, noSG rfl, SI_rng1 ia.e, noSW rfl, noSW rfl, fun a b z => by cases z⟩
  | rng2 a b ia ib => exact ⟨noSE rfl, noST rfl, noSL rfl, noSG rfl, SI_rng2 ia.e ib.e, noSW rfl, noSW rfl, fun a b z => by cases z⟩
  | rng3 a b c ia ib => exact ⟨noSE rfl, noST rfl, noSL rfl, noSG rfl, SI_rng3 ia.e ib.e, noSW rfl, noSW rfl, fun a b z => by cases z⟩
  | zip a b ia ib => exact ⟨noSE rfl, noST rfl, noSL rfl, noSG rfl, fun hz => absurd rfl (hz a b), noSW rfl, noSW rfl, fun a' b' z => by cases z; exact ⟨ia.e, ib.e⟩⟩
  | itr a ia => exact ⟨noSE rfl, noST rfl, noSL rfl, noSG rfl, SI_itr ia.e, noSW rfl, noSW rfl, fun a b z => by cases z⟩
  | lc tg it c el ii ic ie =>
    have s : SE Φ k n (.lc tg it c el) := SE_lc (tg := tg) ⟨ii.i, ii.iz, ic.tt, ie.e⟩
    exact mkAll s (ST_pl s fun {sc e} h => by obtain ⟨_, _, _, _, _, _, rfl, _⟩ := chk_lc h; rfl) rfl rfl (noSW (noBool (by simp) (by simp) (by simp))) (noSW (noBool (by simp) (by simp) (by simp))) (by simp)
  | _ => exact ⟨noSE rfl, noST rfl, noSL rfl, noSG rfl, noSI rfl, noSW rfl, noSW rfl, fun a b z => by cases z⟩
end
end Sr
set_option Elab.async false
set_option linter.all false
set_option maxRecDepth 100000
set_option maxHeartbeats 2000000
/-! # Sr: places that are stored to -/
namespace Sr
open PySem PySem.Spec PyProof.Rows L2

/-- what stands at a place -/
def PlV (K : PySem.W.Frag) (H : Hp) (σ : L2.St) (e : Env) : T → V → Prop
  | .v i, u => σ[i]? = some (some u)
  | .ix a b, u => ∃ q vs kk, PlV K H σ e a (.ref q) ∧ evP b e = some (.int kk) ∧ (SqL K H q vs ∨ SqT K H q vs) ∧ atI vs kk = some u
  | _, _ => False
def tPl (K : PySem.W.Frag) (p : T) : TE := fun σ H Q => ∃ B e Γ, Wd K B σ e Γ H ∧ ∃ u, PlV K H σ e p u ∧ Q u H
section
variable {Φ : Fs} {k : Nat} {n : Nm} {X : Cx} {sc : Scope}
theorem pl_ok : ∀ {p : T} {e : Expr}, OkX Φ k n X sc → isPl p = true → chkE n sc p e = true → PE X e (tPl X.K p) := by
  intro p
  induction p with
  | v i =>
    intro e O _ h
    cases e <;> try (simp [chkE] at h; done)
    rw [chkE] at h
    refine (O.name h).imp ?_
    rintro σ H Q ⟨B, env, Γ, w, u, hu, q⟩
    exact ⟨u, hu, q⟩
  | ix a b iha _ =>
    intro e O hp h
    simp only [isPl, Bool.and_eq_true] at hp
    cases e <;> try (simp [chkE] at h; done)
    simp only [chkE, Bool.and_eq_true] at h
    refine (pe_ix ix_seqV (iha O hp.1 h.1) (evP_ok O hp.2 h.2) (plainIx_pl (chk_pl h.2))).imp ?_
    rintro σ H Q ⟨B, env, Γ, w, u, ⟨q0, vs, kk, h1, h2, h3, h4⟩, q⟩
    refine ⟨B, env, Γ, w, _, h1, B, env, Γ, _, w, h2, fun v bv => ?_⟩
    rw [bv.int]
    exact ⟨q0, vs, kk, u, rfl, rfl, h3, h4, q⟩
  | _ => intro e O hp h; simp [isPl] at hp
end
/-- a place within: what stands there, and how the whole is when that is changed in place -/
def Lens (K : PySem.W.Frag) (H : Hp) (σ : L2.St) (e : Env) (p : T) (f : D → Option D) (d d' : D) : Prop :=
  ∀ (v : V) (F S : List Addr), (∀ i, root p = some i → σ[i]? = some (some v)) → Rep K H v d F S → ∃ u du du' Fa F1 Fb Sa S1 Sb, F = Fa ++ (F1 ++ Fb) ∧ S = Sa ++ (S1 ++ Sb) ∧ Rep K H u du F1 S1 ∧ PlV K H σ e p u ∧ f du = some du' ∧
    ∀ (H' : Hp) (M : List Addr) (F1' S1' : List Addr), Kept H H' M → (∀ b ∈ M, IsLst H b) → (∀ a ∈ Fa ++ Fb, a ∉ M) → (∀ a ∈ Sa ++ Sb, a ∉ M) → Rep K H' u du' F1' S1' → Rep K H' v d' (Fa ++ (F1' ++ Fb)) (Sa ++ (S1' ++ Sb))
where root : T → Option Nat
  | .v i => some i
  | .ix a _ => root a
  | _ => none
section
variable {K : PySem.W.Frag} {H : Hp} {σ : L2.St}
theorem set_self {α : Type} {l : List α} {j : Nat} {x : α} (h : l[j]? = some x) : l.set j x = l := by
  apply List.ext_getElem?
  intro i
  by_cases hi : j = i
  · subst hi
    rw [List.getElem?_set_self (List.getElem?_eq_some_iff.mp h).1, h]
  · rw [List.getElem?_set_ne hi]
theorem setP_ok : ∀ {p : T} {f : D → Option D} {e e' : Env}, setP p f e = some e' → ∃ i d d', Lens.root p = some i ∧ e.at i = some d ∧ e' = e.set i (some d') ∧ Lens K H σ e p f d d' := by
  intro p
  induction p with
  | v i =>
    intro f e e' h
    rw [setP] at h
    split at h
    · rename_i d hd
      split at h
      · rename_i d' hd'
        cases h
        refine ⟨i, d, d', rfl, hd, rfl, fun v F S hv r => ⟨v, d, d', [], F, [], [], S, [], by simp, by simp, r, hv i rfl, hd', fun H' M F1' S1' _ _ _ _ r' => by simpa using r'⟩⟩
      · cases h
    · cases h
  | ix a b iha _ =>
    intro f e e' h
    rw [setP] at h
    split at h
    · rename_i kk hk
      obtain ⟨i, d, d', hr, hd, he, L⟩ := iha h
      refine ⟨i, d, d', hr, hd, he, fun v F S hv r => ?_⟩
      obtain ⟨u, du, du', Fa, F1, Fb, Sa, S1, Sb, eF, eS, r1, pl, hf, put⟩ := L v F S hv r
      unfold setAt at hf
      split at hf
      · rename_i xs
        split at hf
        · rename_i j hj
          split at hf
          · rename_i x hx
            split at hf
            · rename_i y hy
              cases hf
              cases r1 with
              | @own q vs _ F2 _ e0 rs =>
                obtain ⟨w, Fa2, F3, Fb2, Sa2, S3, Sb2, hw, r3, eF2, eS2, put2⟩ := rs.split hx
                refine ⟨w, x, y, Fa ++ (q :: Fa2), F3, Fb2 ++ Fb, Sa ++ Sa2, S3, Sb2 ++ Sb, ?_, ?_, r3, ⟨q, vs, kk, pl, hk, .inl (SqL.of e0), ?_⟩, hy, fun H' M F1' S1' hkp hm hF hS r' => ?_⟩
                · rw [eF, eF2]; simp
                · rw [eS, eS2]; simp
                · unfold atI; rw [rs.len, hj]; exact hw
                · have nq : q ∉ M := hF q (by simp)
                  have z := put2 H' M w y F1' S1' hkp hm (fun a ha => hF a (by rcases List.mem_append.mp ha with y | y <;> simp [y])) (fun a ha => hS a (by rcases List.mem_append.mp ha with y | y <;> simp [y])) r'
                  rw [set_self hw] at z
                  have z2 := put H' M _ _ hkp hm (fun a ha => hF a (by rcases List.mem_append.mp ha with y | y <;> simp [y])) (fun a ha => hS a (by rcases List.mem_append.mp ha with y | y <;> simp [y])) (.own (hkp q _ e0 nq) z)
                  simpa [List.append_assoc] using z2
            · cases hf
          · cases hf
        · cases hf
      · rename_i xs
        split at hf
        · rename_i j hj
          split at hf
          · rename_i x hx
            split at hf
            · rename_i y hy
              cases hf
              cases r1 with
              | @tup q vs _ _ _ e0 rs =>
                obtain ⟨w, Fa2, F3, Fb2, Sa2, S3, Sb2, hw, r3, eF2, eS2, put2⟩ := rs.split hx
                refine ⟨w, x, y, Fa ++ Fa2, F3, Fb2 ++ Fb, Sa ++ Sa2, S3, Sb2 ++ Sb, ?_, ?_, r3, ⟨q, vs, kk, pl, hk, .inr (.inl e0), ?_⟩, hy, fun H' M F1' S1' hkp hm hF hS r' => ?_⟩
                · rw [eF, eF2]; simp
                · rw [eS, eS2]; simp
                · unfold atI; rw [rs.len, hj]; exact hw
                · have z := put2 H' M w y F1' S1' hkp hm (fun a ha => hF a (by rcases List.mem_append.mp ha with y | y <;> simp [y])) (fun a ha => hS a (by rcases List.mem_append.mp ha with y | y <;> simp [y])) r'
                  rw [set_self hw] at z
                  have z2 := put H' M _ _ hkp hm (fun a ha => hF a (by rcases List.mem_append.mp ha with y | y <;> simp [y])) (fun a ha => hS a (by rcases List.mem_append.mp ha with y | y <;> simp [y])) (.tup (hkp.sqT hm e0) z)
                  simpa [List.append_assoc] using z2
            · cases hf
          · cases hf
        · cases hf
      · cases hf
    · cases h
  | _ => intro f e e' h; simp [setP] at h
/-- a list of ours at a place is changed: x, the data of xv, takes the place of the item j or comes behind -/
theorem store_ok' {B : Bs} {e e' : Env} {Γ : List Rt} {p : T} {f : D → Option D} {xv : V} {x : D} (G : List V → List V → Prop) (w : Wd K B σ e ((xv, x) :: Γ) H) (h : setP p f e = some e')
    (hf : ∀ du du' u F1 S1, f du = some du' → Rep K H u du F1 S1 → ∃ q vs ys F2 Fx0 Fy S2 Sx0 Sy vs', u = .ref q ∧ du' = .lst true ys ∧ H q = some (.lst vs) ∧ F1 = q :: (F2 ++ (Fx0 ++ Fy)) ∧ S1 = S2 ++ (Sx0 ++ Sy) ∧ G vs vs' ∧ vs'.length ≤ sizeLine ∧
      ∀ (H' : Hp) (M : List Addr) (Fx Sx : List Addr), Kept H H' M → (∀ b ∈ M, IsLst H b) → (∀ a ∈ F2 ++ Fy, a ∉ M) → (∀ a ∈ S2 ++ Sy, a ∉ M) → Rep K H' xv x Fx Sx → Reps K H' vs' ys (F2 ++ (Fx ++ Fy)) (S2 ++ (Sx ++ Sy))) :
    ∃ q vs vs', PlV K H σ e p (.ref q) ∧ H q = some (.lst vs) ∧ G vs vs' ∧ Wd K B σ e' Γ (upd H q (.lst vs')) := by
  obtain ⟨i, d, d', hr, hd, he, L⟩ := setP_ok (K := K) (H := H) (σ := σ) h
  obtain ⟨v, hv, w0⟩ := w.read hd
  obtain ⟨Ft, St, r0, o⟩ := w0
  cases r0 with
  | @cons _ _ _ _ F S FR SR rd r1 =>
    cases r1 with
    | @cons _ _ _ _ Fx Sx Fr Sr rx rr =>
      obtain ⟨u, du, du', Fa, F1, Fb, Sa, S1, Sb, eF, eS, ru, pl, hfu, put⟩ := L v F S (fun j hj => by rw [hr] at hj; cases hj; exact hv) rd
      obtain ⟨q, vs, ys, F2, Fx0, Fy, S2, Sx0, Sy, vs', eu, edu, hq, eF1, eS1, hG, hz, putx⟩ := hf du du' u F1 S1 hfu ru
      subst eu edu eF1 eS1 eF eS
      have hk : Kept H (upd H q (.lst vs')) [q] := fun b c hb hn => by rw [upd_ne (by simpa using hn)]; exact hb
      have hm : ∀ b ∈ [q], IsLst H b := fun b hb => by
        have : b = q := by simpa using hb
        rw [this]; exact ⟨_, hq⟩
      have nd := o.nd
      rw [List.nodup_iff_count] at nd
      have qF : q ∈ (Fa ++ (q :: (F2 ++ (Fx0 ++ Fy)) ++ Fb)) ++ (Fx ++ Fr) := by simp
      have nq : List.count q ((Fa ++ (q :: (F2 ++ (Fx0 ++ Fy)) ++ Fb)) ++ (Fx ++ Fr)) ≤ 1 := nd q
      simp only [List.count_append, List.count_cons_self] at nq
      have out : ∀ {l : List Addr}, List.count q l = 0 → ∀ a ∈ l, a ∉ [q] := fun {l} hc a ha hn => by
        have : a = q := by simpa using hn
        subst this
        exact absurd ha (List.count_eq_zero.mp hc)
      have outS : ∀ {l : List Addr}, (∀ a ∈ l, a ∈ (Sa ++ (S2 ++ (Sx0 ++ Sy) ++ Sb)) ++ (Sx ++ Sr)) → ∀ a ∈ l, a ∉ [q] := fun {l} hc a ha hn => by
        have : a = q := by simpa using hn
        subst this
        exact o.dj a qF (hc a ha)
      have rx' := rx.kept hk hm (out (by omega)) (outS fun a ha => by simp [ha])
      have rr' := Reps.kept hk hm rr (out (by omega)) (outS fun a ha => by simp [ha])
      have ry := putx _ [q] Fx Sx hk hm (out (by rw [List.count_append]; omega)) (outS fun a ha => by rcases List.mem_append.mp ha with y | y <;> simp [y]) rx'
      have rd' := put _ [q] _ _ hk hm (out (by rw [List.count_append]; omega)) (outS fun a ha => by rcases List.mem_append.mp ha with y | y <;> simp [y]) (.own upd_same ry)
      refine ⟨q, vs, vs', pl, hq, hG, ?_⟩
      have wn : W K B (upd H q (.lst vs')) ((v, d') :: (Γ ++ er σ (e.set i none))) := by
        refine ⟨_, _, .cons rd' rr', ?_⟩
        have sub : ∀ a, List.count a (Fa ++ (q :: (F2 ++ (Fx ++ Fy)) ++ Fb) ++ Fr) ≤ List.count a ((Fa ++ (q :: (F2 ++ (Fx0 ++ Fy)) ++ Fb)) ++ (Fx ++ Fr)) := fun a => by
          simp only [List.count_append, List.count_cons]; omega
        have mem : ∀ a, a ∈ (Fa ++ (q :: (F2 ++ (Fx ++ Fy)) ++ Fb) ++ Fr) → a ∈ ((Fa ++ (q :: (F2 ++ (Fx0 ++ Fy)) ++ Fb)) ++ (Fx ++ Fr)) := fun a ha => by
          have h1 := List.count_pos_iff.mpr ha
          exact List.count_pos_iff.mp (Nat.lt_of_lt_of_le h1 (sub a))
        have memS : ∀ a, a ∈ (Sa ++ ((S2 ++ (Sx ++ Sy)) ++ Sb) ++ Sr) → a ∈ ((Sa ++ (S2 ++ (Sx0 ++ Sy) ++ Sb)) ++ (Sx ++ Sr)) := fun a ha => by
          simp only [List.mem_append] at ha ⊢
          rcases ha with (z | (z | z | z) | z) | z <;> simp [z]
        refine ⟨List.nodup_iff_count.mpr fun a => Nat.le_trans (sub a) (nd a), fun a ha hs => o.dj a (mem a ha) (memS a hs), fun a ha => o.fF a (mem a ha), fun a ha => o.fS a (memS a ha), fun b c hb hn => ?_, o.sz.lst hz⟩
        refine hk b c (o.kp b c hb hn) fun z => ?_
        have : b = q := by simpa using z
        subst this
        rcases o.fF b qF with y1 | y1
        · exact hn y1
        · rw [hb] at y1; cases y1
      have wd : Wd K B σ (e.set i none) ((v, d') :: Γ) (upd H q (.lst vs')) := ⟨w.fit.none i, w.pr, wn⟩
      have z := wd.put2 (i := i) hv
      rw [List.set_set] at z
      rw [he]
      exact z
/-- x = the item k of the list at a place -/
theorem st_ok {B : Bs} {e e' : Env} {Γ : List Rt} {p : T} {k : Int} {xv : V} {x : D} (w : Wd K B σ e ((xv, x) :: Γ) H) (h : setP p (putD k x) e = some e') :
    ∃ q vs j, PlV K H σ e p (.ref q) ∧ H q = some (.lst vs) ∧ ixN vs.length k = some j ∧ Wd K B σ e' Γ (upd H q (.lst (vs.set j xv))) := by
  obtain ⟨q, vs, vs', h1, h2, ⟨j, hj, rfl⟩, h3⟩ := store_ok' (fun vs vs' => ∃ j, ixN vs.length k = some j ∧ vs' = vs.set j xv) w h (by
    intro du du' u F1 S1 hf r
    unfold putD at hf
    split at hf
    · rename_i xs
      split at hf
      · rename_i j hj
        cases hf
        cases r with
        | @own q vs _ F2 _ e0 rs =>
          have hlt : j < xs.length := (ixN_seq hj).2.1
          obtain ⟨w0, Fa, F3, Fb, Sa, S3, Sb, hw, r3, eF, eS, put⟩ := rs.split (List.getElem?_eq_getElem hlt)
          refine ⟨q, vs, _, Fa, F3, Fb, Sa, S3, Sb, vs.set j xv, rfl, rfl, e0, by rw [eF], eS, ⟨j, by rw [rs.len]; exact hj, rfl⟩, ?_, fun H' M Fx Sx hk hm hF hS r' => put H' M xv x Fx Sx hk hm hF hS r'⟩
          rw [List.length_set]
          obtain ⟨_, _, _, o⟩ := w.w
          exact o.sz q vs (.inl (.inl e0))
      · cases hf
    · cases hf)
  exact ⟨q, vs, j, h1, h2, hj, h3⟩
theorem app_ok {B : Bs} {e e' : Env} {Γ : List Rt} {i : Nat} {xv : V} {x : D} (w : Wd K B σ e ((xv, x) :: Γ) H) (h : setP (.v i) (appD x) e = some e') :
    ∃ q vs, σ[i]? = some (some (.ref q)) ∧ H q = some (.lst vs) ∧ vs.length < sizeLine ∧ Wd K B σ e' Γ (upd H q (.lst (vs ++ [xv]))) := by
  obtain ⟨q, vs, vs', h1, h2, ⟨hj, rfl⟩, h3⟩ := store_ok' (fun vs vs' => vs.length < sizeLine ∧ vs' = vs ++ [xv]) w h (by
    intro du du' u F1 S1 hf r
    unfold appD at hf
    split at hf
    · rename_i xs
      split at hf
      · rename_i hz
        cases hf
        cases r with
        | @own q vs _ F2 _ e0 rs =>
          have hlt : vs.length < sizeLine := by rw [rs.len]; exact Nat.lt_trans hz (by decide)
          refine ⟨q, vs, _, F2, [], [], S1, [], [], vs ++ [xv], rfl, rfl, e0, by simp, by simp, ⟨hlt, rfl⟩, ?_, fun H' M Fx Sx hk hm hF hS r' => ?_⟩
          · rw [List.length_append, List.length_singleton]; omega
          · have z := (Reps.kept hk hm rs (fun a ha => hF a (by simp [ha])) (fun a ha => hS a (by simp [ha]))).app (Reps.cons r' .nil)
            simpa using z
      · cases hf
    · cases hf)
  exact ⟨q, vs, h1, h2, hj, h3⟩
end
end Sr
set_option Elab.async false
set_option linter.all false
set_option maxRecDepth 100000
set_option maxHeartbeats 2000000
/-! # Sr: statements -/
namespace Sr
open PySem PySem.Spec PyProof.Rows L2

/-- what stands where a statement ends -/
def Post (K : PySem.W.Frag) (B : Bs) (Γ : List Rt) (D : Ends) : Fl × Env → Prop
  | (.nx, e) => ∀ σ H, Wd K B σ e Γ H → D.nx σ H
  | (.rt d, e) => ∀ σ v H, Wd K B σ e ((v, d) :: Γ) H → D.rt v H
  | (.bk, e) => ∀ σ H, Wd K B σ e Γ H → D.bk σ H
  | (.ct, e) => ∀ σ H, Wd K B σ e Γ H → D.ct σ H
def tS (K : PySem.W.Frag) (Φ : Fs) (pr : List Nat) (t : T) : TS := fun D σ H => ∃ B e Γ r, (∀ p ∈ B.pr, p.1 ∈ pr) ∧ Wd K B σ e Γ H ∧ evS Φ t e = some r ∧ Post K B Γ D r

/-! ### the text of a statement -/
def isLc : Expr → Bool
  | .ListComp .. => true
  | .SetComp .. => true
  | .DictComp .. => true
  | _ => false
def isTd : Expr → Bool
  | .Tuple .. => true
  | _ => false
mutual
def chkS (n : Nm) (sc : Scope) (pr : List Nat) : T → Stmt → Bool
  | .pass, .Pass _ => true
  | .pass, .Expr (.Constant (.str _) _ _) _ => true
  | .asg i a, .Assign [.Name x _] e _ => decide (n.N[i]? = some x) && locB sc x && !pr.contains i && chkE n sc a e
  | .upk tg a, .Assign [.Tuple gs gk gp] e _ => tgB n sc tg (.Tuple gs gk gp) && tg.all (fun i => !pr.contains i) && !isLc e && !isTd e && chkE n sc a e
  | .st p i a, .Assign [.Subscript o f _] e _ => isPl p && isP i && chkE n sc p o && chkE n sc i f && chkE n sc a e
  | .app i a, .Expr (.Call (.Attribute (.Name x _) m apos) [e] [] cpos) _ => decide (m = ("append" : Str)) && (apos.endLine == cpos.line) && nameB n sc i x && chkE n sc a e
  | .ex a, .Expr e _ => !isLc e && chkE n sc a e
  | .cond c a b, .If g p q _ => chkE n sc c g && chkB n sc pr a p && chkB n sc pr b q
  | .whl ks c b, .While g p [] _ => chkE n sc c g && chkB n sc pr b p
  | .for_ tg ks it b, .For g i p [] _ => chkI n sc it i && tgB n sc tg g && okTg it tg && tg.all (fun i => !pr.contains i) && chkB n sc pr b p
  | .ret a, .Return (some e) _ => chkE n sc a e
  | .ret .non, .Return none _ => true
  | .brk, .Break _ => true
  | .cnt, .Continue _ => true
  | .rse, .Raise .. => true
  | _, _ => false
def chkB (n : Nm) (sc : Scope) (pr : List Nat) : T → List Stmt → Bool
  | .pass, [] => true
  | .seq a r, s :: ss => chkS n sc pr a s && chkB n sc pr r ss
  | _, _ => false
end

section
variable {Φ : Fs} {k : Nat} {n : Nm} {pr : List Nat} {X : Cx} {sc : Scope} {K : PySem.W.Frag} {B : Bs} {Γ Γ' : List Rt} {σ : L2.St} {e : Env} {H : Hp}
theorem OkX.loc (O : OkX Φ k n X sc) {x : Str} (h : locB sc x = true) : Loc X.env.scope x := by
  rw [O.sc]
  unfold locB at h
  split at h
  · exact .inl (by assumption)
  · exact .inr (by assumption)
  · cases h
theorem OkX.own (O : OkX Φ k n X sc) : PassesOwn (model X.prog X.w) X.A X.env X.xe := by
  rw [O.xe]; exact PassesOwn.never
theorem Wd.permG (w : Wd K B σ e Γ H) (p : Γ.Perm Γ') : Wd K B σ e Γ' H := ⟨w.fit, w.pr, w.w.perm (p.append_right _)⟩
theorem Wd.unhold {hold : List Rt} (w : Wd K B σ e (hold ++ Γ) H) : Wd K B σ e Γ H := ⟨w.fit, w.pr, W.dropN (by have := w.w; rwa [List.append_assoc] at this)⟩
/-- an assignment of a value to a name -/
theorem S_asg {i : Nat} {a : T} (hi : i ∉ pr) : ∀ D σ H, tS K Φ pr (.asg i a) D σ H → tAsg (tD K Φ a) (gName i) D σ H := by
  rintro D σ H ⟨B, e, Γ, r, hp, w, h, q⟩
  rw [evS] at h
  split at h
  · rename_i d e1 h1
    cases h
    refine ⟨B, e, Γ, d, e1, w, h1, fun v H' w' => ?_⟩
    exact q _ _ (w'.asgT fun p hpp z => hi (z ▸ hp p hpp))
  · cases h
/-- name = value -/
def SAs (Φ : Fs) (k : Nat) (n : Nm) (pr : List Nat) (a : T) : Prop := ∀ {i : Nat} {x : Str} {p pos : Pos} {X : Cx} {sc : Scope} {e : Expr}, (∀ x, X.fn x = true) → i ∉ pr → n.N[i]? = some x → locB sc x = true → OkX Φ k n X sc → chkE n sc a e = true → PS X (.Assign [.Name x p] e pos) (tS X.K Φ pr (.asg i a))
theorem sw_no {e : Expr} {t : Option Expr} {l : Nat} {env : PySem.Env} (h : isLc e = false) : swapsWith e t l env = pure false := by
  cases e <;> first | rfl | cases h
theorem SAs_pl {a : T} (s : SE Φ k n a) (h : ∀ {sc : Scope} {e : Expr}, chkE n sc a e = true → isLc e = false) : SAs Φ k n pr a := by
  intro i x p pos X sc e hf hi hN hl O hc
  exact (ps_set O.nd (by rw [O.N]; exact hN) (O.loc hl) (s O hc) (sw_no (h hc)) (.inl (hf x))).imp (S_asg hi)
theorem SAs_frz {a : T} (s : SAs Φ k n pr a) : SAs Φ k n pr (.frz a) := by
  intro i x p pos X sc e hf hi hN hl O hc
  rw [chkE] at hc
  refine (s hf hi hN hl O hc).imp ?_
  rintro D σ H ⟨B, e, Γ, r, hp, w, h, q⟩
  rw [evS] at h
  split at h
  · rename_i d e1 h1
    cases h
    rw [evE] at h1
    split at h1
    · rename_i d0 e0 h0
      obtain ⟨rfl, rfl⟩ := inj2 h1
      refine ⟨B, e, Γ, (.nx, e0.set i (some d0)), hp, w, by rw [evS, h0], fun σ' H' w' => q σ' H' ?_⟩
      by_cases hl : i < e0.length
      · have hat : Sr.Env.at (e0.set i (some d0)) i = some d0 := at_iff.mpr (List.getElem?_set_self hl)
        obtain ⟨v, hv, _⟩ := w'.read hat
        have m := (w'.move hat hv).shr.put2 (i := i) hv
        rw [List.set_set, List.set_set] at m
        exact m
      · rw [set_ge (by omega)] at w' ⊢; exact w'
    · cases h1
  · cases h
theorem SAs_lc {tg : List Nat} {it c el : T} (P : LcParts Φ k n it c el) : SAs Φ k n pr (.lc tg it c el) := by
  intro i y p spos X sc e hf hi hN hl O h
  have h0 := h
  obtain ⟨x, g, j, fs, scope, pos, rfl, L⟩ := chk_lc h
  have sw : swapsWith (.ListComp x [⟨g, j, fs, 0⟩] scope pos) (some (.Name y p)) spos.line X.env = pure (X.env.blockKind == .function && X.env.kindOf y == some .local && p.line == pos.line && !(scope.names.any fun (n, k) => n == y && (k == .local || k == .cell))) := rfl
  cases hc : (X.env.blockKind == .function && X.env.kindOf y == some .local && p.line == pos.line && !(scope.names.any fun (n, k) => n == y && (k == .local || k == .cell))) with
  | false =>
    rw [hc] at sw
    exact (ps_set O.nd (by rw [O.N]; exact hN) (O.loc hl) (SE_lc P O h0) sw (.inl (hf y))).imp (S_asg hi)
  | true =>
    rw [hc] at sw
    have hyl : X.env.scope.names.lookup y = some .local := by
      simp only [Bool.and_eq_true, beq_iff_eq] at hc
      exact hc.1.1.2
    have hi' := SI_any P.i P.iz O L.ht L.ok L.hi
    have z := ps_setLc (pos := pos) (spos := spos) (py := p) (i := i) (own := ownOf n tg) (g := gOf X.K tg) (tt := tTs X.K Φ c fs) (te := tD X.K Φ el) O.calm O.nd (by rw [O.N]; exact hN) hyl sw hi' (blkOk_by (by rw [O.N, O.sc]; exact L.blk)) (fun s H C cl fp => pg_ok (X := X.blk s H scope (compEnvC scope cl C X.env) fp) O.N O.nd O.calm (blk_loc O s H scope C cl fp) L.ht) (fun s H C cl fp => lc_ht P.c O L.hf s H C cl fp) (fun s H C cl fp => P.el (O.blk s H scope C cl fp) L.he) (foldS (chkI_pl L.hi))
    refine z.imp fun D σ H q => ?_
    rw [own_map L.ht]
    exact lc_imp (fun e => by
      rcases L.hf with ⟨_, h⟩ | ⟨f, h, _⟩
      · exact h
      · rw [e] at h; cases h) (S_asg hi D σ H q)
theorem noLc {a : T} (h : ∀ {sc : Scope} {x gs s p}, chkE n sc a (.ListComp x gs s p) = false) (h1 : ∀ {sc : Scope} {x gs s p}, chkE n sc a (.SetComp x gs s p) = false) (h2 : ∀ {sc : Scope} {x y gs s p}, chkE n sc a (.DictComp x y gs s p) = false) {sc : Scope} {e : Expr} (hc : chkE n sc a e = true) : isLc e = false := by
  cases e <;> first | rfl | (rw [h] at hc; cases hc) | (rw [h1] at hc; cases hc) | (rw [h2] at hc; cases hc)
theorem all_asg : ∀ a : T, SAs Φ k n pr a := by
  intro a
  induction a with
  | frz a ih => exact SAs_frz ih
  | lc tg it c el _ _ _ => exact SAs_lc ⟨(all_terms it).i, (all_terms it).iz, (all_terms c).tt, (all_terms el).e⟩
  | _ => exact SAs_pl (all_terms _).e (noLc (by intros; rfl) (by intros; rfl) (by intros; rfl))
end
end Sr
set_option Elab.async false
set_option linter.all false
set_option maxRecDepth 100000
set_option maxHeartbeats 2000000
/-! # Sr: statements, loops -/
namespace Sr
open PySem PySem.Spec PyProof.Rows L2
section
variable (Φ : Fs) (k : Nat) (n : Nm) (pr : List Nat)
structure OkS (X : Cx) (sc : Scope) : Prop where
  x : OkX Φ k n X sc
  fn : ∀ x, X.fn x = true
def SS (t : T) : Prop := ∀ {X : Cx} {sc : Scope} {st : Stmt}, OkS Φ k n X sc → chkS n sc pr t st = true → PS X st (tS X.K Φ pr t)
def SB (t : T) : Prop := ∀ {X : Cx} {sc : Scope} {sts : List Stmt}, OkS Φ k n X sc → chkB n sc pr t sts = true → PSs X sts (tS X.K Φ pr t)
end
section
variable {Φ : Fs} {k : Nat} {n : Nm} {pr : List Nat} {X : Cx} {sc : Scope} {K : PySem.W.Frag} {B : Bs} {Γ Γ' : List Rt} {σ : L2.St} {e : Env} {H : Hp}
theorem SS_pass : SS Φ k n pr .pass := by
  intro X sc st O h
  have i : ∀ D σ H, tS X.K Φ pr .pass D σ H → tNext D σ H := by
    rintro D σ H ⟨B, e, Γ, r, hp, w, h, q⟩
    rw [evS] at h
    cases h
    exact q σ H w
  unfold chkS at h
  split at h <;> first | exact ps_pass.imp i | exact ps_doc.imp i | simp_all
theorem SB_pass : SB Φ k n pr .pass := by
  intro X sc sts O h
  cases sts with
  | nil =>
    refine pss_nil.imp ?_
    rintro D σ H ⟨B, e, Γ, r, hp, w, h, q⟩
    rw [evS] at h
    cases h
    exact q σ H w
  | cons _ _ => simp [chkB] at h
theorem SB_seq {a r : T} (sa : SS Φ k n pr a) (sr : SB Φ k n pr r) : SB Φ k n pr (.seq a r) := by
  intro X sc sts O h
  cases sts with
  | nil => simp [chkB] at h
  | cons s ss =>
    simp only [chkB, Bool.and_eq_true] at h
    refine (pss_cons (sa O h.1) (sr O h.2)).imp ?_
    rintro D σ H ⟨B, e, Γ, r, hp, w, h, q⟩
    rw [evS] at h
    split at h
    · rename_i e1 h1
      exact ⟨B, e, Γ, _, hp, w, h1, fun σ' H' w' => ⟨B, e1, Γ, r, hp, w', h, q⟩⟩
    · rename_i r1 hn h1
      cases h
      refine ⟨B, e, Γ, _, hp, w, h1, ?_⟩
      obtain ⟨f, e1⟩ := r
      cases f with
      | nx => exact absurd rfl (hn e1)
      | rt d => exact q
      | bk => exact q
      | ct => exact q
    · cases h
theorem SS_asg {i : Nat} {a : T} : SS Φ k n pr (.asg i a) := by
  intro X sc st O h
  unfold chkS at h
  split at h <;> try (simp_all; done)
  all_goals (rename_i heq; cases heq)
  simp only [Bool.and_eq_true, decide_eq_true_eq, Bool.not_eq_true', List.contains_eq_mem, decide_eq_false_iff_not] at h
  obtain ⟨⟨⟨h1, h2⟩, h3⟩, h4⟩ := h
  exact all_asg a O.fn h3 h1 h2 O.x h4
theorem ssw_no {e : Expr} {t : Expr} {l : Nat} {env : PySem.Env} (h : isLc e = false) : swapsWithSole [t] e l env = pure false := sw_no h
theorem stores_no {e : Expr} {g : Expr} {env : PySem.Env} (h : isTd e = false) : swappedStores [g] e env = pure none := by
  cases e <;> first | (cases g <;> rfl) | cases h
theorem SS_upk {tg : List Nat} {a : T} : SS Φ k n pr (.upk tg a) := by
  intro X sc st O h
  unfold chkS at h
  split at h <;> try (simp_all; done)
  all_goals (rename_i heq; cases heq)
  simp only [Bool.and_eq_true, Bool.not_eq_true', List.contains_eq_mem, decide_eq_false_iff_not, List.all_eq_true] at h
  obtain ⟨⟨⟨⟨h1, h2⟩, h3⟩, h4⟩, h5⟩ := h
  refine (ps_asg ((all_terms a).e O.x h5) (pg_ok O.x.N O.x.nd O.x.calm (fun x hx => ⟨O.x.loc hx, .inl (O.fn x)⟩) h1) (ssw_no h3) (stores_no h4)).imp ?_
  rintro D σ H ⟨B, e, Γ, r, hp, w, h, q⟩
  rw [evS] at h
  split at h
  · rename_i d e1 h1
    split at h
    · rename_i e2 h2'
      cases h
      refine ⟨B, e, Γ, d, e1, w, h1, fun v H' w' => ?_⟩
      exact bind_ok h2' w' (fun p hpp z => h2 _ z (hp p hpp)) fun σ' w2 _ _ => q σ' H' w2
    · cases h
  · cases h
theorem SS_st {p i a : T} : SS Φ k n pr (.st p i a) := by
  intro X sc st O h
  unfold chkS at h
  split at h <;> try (simp_all; done)
  all_goals (rename_i heq; cases heq)
  simp only [Bool.and_eq_true] at h
  obtain ⟨⟨⟨⟨h1, h2⟩, h3⟩, h4⟩, h5⟩ := h
  rename_i o f sp e0 pos
  have hsw : swapsWithSole [.Subscript o f sp] e0 pos.line X.env = pure false := by cases e0 <;> rfl
  have hst : swappedStores [.Subscript o f sp] e0 X.env = pure none := by cases e0 <;> rfl
  refine (ps_asg ((all_terms a).e O.x h5) (pg_sub (pl_ok O.x h1 h3) (evP_ok O.x h2 h4) set_list (by have := chk_pl h4; cases f <;> first | (intro _; rfl) | cases this)) hsw hst).imp ?_
  rintro D σ H ⟨B, e, Γ, r, hp, w, h, q⟩
  rw [evS] at h
  split at h
  · rename_i x e1 hx
    rw [if_pos (by rw [h1, h2]; rfl)] at h
    split at h
    · rename_i kk hk
      split at h
      · rename_i e2 h2'
        cases h
        refine ⟨B, e, Γ, x, e1, w, hx, fun v H' w' => ?_⟩
        obtain ⟨qa, vs, j, g1, g2, g3, g4⟩ := st_ok w' h2'
        refine ⟨B, e1, _, w', _, g1, B, e1, _, _, w', hk, fun u bu => ?_⟩
        rw [bu.int]
        exact ⟨qa, vs, kk, j, rfl, rfl, g2, g3, q _ _ g4⟩
      · cases h
    · cases h
  · cases h
theorem SS_app {i : Nat} {a : T} : SS Φ k n pr (.app i a) := by
  intro X sc st O h
  unfold chkS at h
  split at h <;> try (simp_all; done)
  all_goals (rename_i heq; cases heq)
  simp only [Bool.and_eq_true, decide_eq_true_eq] at h
  obtain ⟨⟨⟨h1, h2⟩, h3⟩, h4⟩ := h
  subst h1
  rename_i x xp apos e0 cpos pos
  have pe := pe_bm (cpos := cpos) (apos := apos) (name := "append") PySem.F.plainAttrs_list PySem.F.slot_list_append PySem.F.type_list_append (mt_append (X := X)) (O.x.name (pos := xp) h3) (pa_cons ((all_terms a).e O.x h4) pa_nil (star_pl (chk_pl h4))) rfl (by
      rw [star_pl (chk_pl h4)]; rfl) h2 (star_pl (chk_pl h4)) rfl
  refine (ps_expr pe rfl).imp ?_
  rintro D σ H ⟨B, e, Γ, r, hp, w, h, q⟩
  rw [evS] at h
  split at h
  · rename_i ow xs hat
    split at h
    · rename_i y e1 h1
      split at h
      · rename_i e2 h2'
        cases h
        obtain ⟨v, hv, w0⟩ := w.read hat
        refine ⟨v, hv, ?_, B, e, Γ, y, e1, w, h1, fun u H' w' => ?_⟩
        · obtain ⟨F, S, r0, _⟩ := w0
          cases r0 with
          | cons r1 _ =>
            obtain ⟨p, vs, _, _, rfl, hsq, _⟩ := Rep.items r1 rfl
            cases r1 with
            | own e0 _ => exact .inl ⟨rfl, _, SqL.of e0⟩
            | mod e0 _ => exact .inl ⟨rfl, _, .inr e0⟩
            | shr e0 _ => exact .inl ⟨rfl, _, .inl e0⟩
        · obtain ⟨qa, vs, g1, g2, g3, g4⟩ := app_ok w' h2'
          rw [hv] at g1
          cases g1
          exact ⟨qa, vs, u, rfl, rfl, g2, g3, q _ _ g4⟩
      · cases h
    · cases h
  · cases h
theorem SS_ex {a : T} : SS Φ k n pr (.ex a) := by
  intro X sc st O h
  unfold chkS at h
  split at h <;> try (simp_all; done)
  all_goals (rename_i heq; cases heq)
  simp only [Bool.and_eq_true, Bool.not_eq_true'] at h
  refine (ps_expr ((all_terms a).e O.x h.2) (sw_no h.1)).imp ?_
  rintro D σ H ⟨B, e, Γ, r, hp, w, h, q⟩
  rw [evS] at h
  split at h
  · rename_i d e1 h1
    cases h
    exact ⟨B, e, Γ, d, e1, w, h1, fun v H' w' => q σ H' w'.drop⟩
  · cases h
theorem SS_cond {c a b : T} (sa : SB Φ k n pr a) (sb : SB Φ k n pr b) : SS Φ k n pr (.cond c a b) := by
  intro X sc st O h
  unfold chkS at h
  split at h <;> try (simp_all; done)
  all_goals (rename_i heq; cases heq)
  simp only [Bool.and_eq_true] at h
  refine (ps_if ((all_terms c).tt O.x h.1.1) (sa O h.1.2) (sb O h.2)).imp ?_
  rintro D σ H ⟨B, e, Γ, r, hp, w, h, q⟩
  rw [evS] at h
  split at h
  · rename_i cb e1 h1
    refine ⟨B, e, Γ, cb, e1, w, h1, fun H' w' => ?_⟩
    cases cb with
    | true => rw [if_pos rfl] at h ⊢; exact ⟨B, e1, Γ, r, hp, w', h, q⟩
    | false => rw [if_neg Bool.false_ne_true] at h ⊢; exact ⟨B, e1, Γ, r, hp, w', h, q⟩
  · cases h
theorem SS_ret {a : T} : SS Φ k n pr (.ret a) := by
  intro X sc st O h
  unfold chkS at h
  split at h <;> try (simp_all; done)
  · rename_i heq
    cases heq
    refine (ps_ret ((all_terms a).e O.x h)).imp ?_
    rintro D σ H ⟨B, e, Γ, r, hp, w, h, q⟩
    rw [evS] at h
    split at h
    · rename_i d e1 h1
      cases h
      exact ⟨B, e, Γ, d, e1, w, h1, fun v H' w' => q σ v H' w'⟩
    · cases h
  · rename_i heq
    cases heq
    refine ps_retN.imp ?_
    rintro D σ H ⟨B, e, Γ, r, hp, w, h, q⟩
    rw [evS, evE] at h
    cases h
    exact q σ .non H ⟨w.fit, w.pr, w.w.add .non⟩
theorem SS_brk : SS Φ k n pr .brk := by
  intro X sc st O h
  unfold chkS at h
  split at h <;> try (simp_all; done)
  refine ps_break.imp ?_
  rintro D σ H ⟨B, e, Γ, r, hp, w, h, q⟩
  rw [evS] at h
  cases h
  exact q σ H w
theorem SS_cnt : SS Φ k n pr .cnt := by
  intro X sc st O h
  unfold chkS at h
  split at h <;> try (simp_all; done)
  refine ps_continue.imp ?_
  rintro D σ H ⟨B, e, Γ, r, hp, w, h, q⟩
  rw [evS] at h
  cases h
  exact q σ H w
theorem SS_rse : SS Φ k n pr .rse := by
  intro X sc st O h
  refine ps_never.imp ?_
  rintro D σ H ⟨B, e, Γ, r, hp, w, h, q⟩
  have z : evS Φ .rse e = none := rfl
  rw [z] at h
  cases h
theorem SS_whl {ks : List Nat} {c b : T} (sb : SB Φ k n pr b) : SS Φ k n pr (.whl ks c b) := by
  intro X sc st O h
  unfold chkS at h
  split at h <;> try (simp_all; done)
  all_goals (rename_i heq; cases heq)
  simp only [Bool.and_eq_true] at h
  refine (ps_while O.x.own ((all_terms c).tt O.x h.1) (sb O h.2)).imp ?_
  rintro D σ H ⟨B, e, Γ, r, hp, w, h, q⟩
  rw [evS] at h
  obtain ⟨m, hm⟩ := of_whD h
  refine ⟨fun m σ H => ∃ e, Wd X.K B σ e Γ H ∧ whN ks (evE Φ c) (evS Φ b) m e = some r, ⟨m, e, w, hm⟩, ?_⟩
  rintro m σ H ⟨e, w, h⟩
  cases m with
  | zero => simp [whN] at h
  | succ m =>
    rw [whN_succ] at h
    split at h
    · rename_i e1 h1
      refine ⟨B, e, Γ, true, e1, w, h1, fun H1 w1 => ?_⟩
      refine iteT ?_
      refine ⟨fun σ H => ∃ e, Wd X.K B σ e Γ H ∧ whN ks (evE Φ c) (evS Φ b) m e = some r, fun σ' H' hN => ⟨m, Nat.lt_succ_self m, hN⟩, ?_⟩
      rcases hb : evS Φ b e1 with _ | ⟨f, e2⟩
      · rw [hb] at h; cases h
      · rw [hb] at h
        refine ⟨B, e1, Γ, (f, e2), hp, w1, hb, ?_⟩
        cases f with
        | nx => exact fun σ H w2 => ⟨kill ks e2, w2.kill ks, h⟩
        | ct => exact fun σ H w2 => ⟨kill ks e2, w2.kill ks, h⟩
        | bk =>
          cases h
          exact fun σ H w2 => q σ H (w2.kill ks)
        | rt d =>
          cases h
          exact q
    · rename_i e1 h1
      cases h
      refine ⟨B, e, Γ, false, e1, w, h1, fun H1 w1 => ?_⟩
      refine iteF ?_
      exact q σ H1 (w1.kill ks)
    · cases h
theorem SS_for {tg ks : List Nat} {it b : T} (sb : SB Φ k n pr b) : SS Φ k n pr (.for_ tg ks it b) := by
  intro X sc st O h
  unfold chkS at h
  split at h <;> try (simp_all; done)
  all_goals (rename_i heq; cases heq)
  simp only [Bool.and_eq_true, Bool.not_eq_true', List.contains_eq_mem, decide_eq_false_iff_not, List.all_eq_true] at h
  obtain ⟨⟨⟨⟨h1, h2⟩, h3⟩, h4⟩, h5⟩ := h
  refine (ps_for O.x.own O.x.calm (SI_any (all_terms it).i (all_terms it).iz O.x h2 h3 h1) (pg_ok O.x.N O.x.nd O.x.calm (fun x hx => ⟨O.x.loc hx, .inl (O.fn x)⟩) h2) (sb O h5) (foldS (chkI_pl h1))).imp ?_
  rintro D σ H ⟨B, e, Γ, r, hp, w, h, q⟩
  rw [evS] at h
  split at h
  · rename_i xs e1 hxs
    refine ⟨B, e, Γ, xs, e1, w, hxs, fun J H1 hold it0 w1 => ?_⟩
    let f := fun (x : Sr.D) (e : Env) => match bindT tg x e with
      | some e => evS Φ b e
      | none => none
    have h : loopF ks f xs e1 = some r := h
    refine ⟨fun i m σ H => m = xs.length - i ∧ i ≤ xs.length ∧ ∃ ei, Wd X.K B σ ei (hold ++ Γ) H ∧ loopF ks f (xs.drop i) ei = some r, ⟨xs.length, by simp, Nat.zero_le _, e1, w1, h⟩, ?_⟩
    rintro i m σ2 H2 ⟨rfl, hi, ei, w2, hl⟩
    have wI : W X.K B H2 (hold ++ (Γ ++ er σ2 ei)) := by have := w2.w; rwa [List.append_assoc] at this
    by_cases hlt : i < xs.length
    · obtain ⟨x0, hx0⟩ := get_some hlt
      have hdrop : xs.drop i = x0 :: xs.drop (i + 1) := by
        obtain ⟨hh, he⟩ := List.getElem?_eq_some_iff.mp hx0
        rw [List.drop_eq_getElem_cons hh, he]
      rw [hdrop, loopF] at hl
      refine .inr ⟨it0.go i H2 _ wI hlt, fun σ H => ∃ ei, Wd X.K B σ ei (hold ++ Γ) H ∧ loopF ks f (xs.drop (i + 1)) ei = some r, ?_, ?_⟩
      · rintro σ' H' ⟨ei', a1, a2⟩
        exact ⟨xs.length - (i + 1), by omega, rfl, hlt, ei', a1, a2⟩
      · intro x H' hy
        obtain ⟨d0, hd0, w3⟩ := it0.yld i H2 _ x H' wI hlt hy
        rw [hx0] at hd0
        cases hd0
        have w4 : Wd X.K B σ2 ei ((x, x0) :: (hold ++ Γ)) H' := by
          refine ⟨w2.fit, w2.pr, ?_⟩
          have e0 : ((x, x0) :: (hold ++ Γ) ++ er σ2 ei) = (x, x0) :: (hold ++ (Γ ++ er σ2 ei)) := by simp
          rw [e0]
          exact w3
        cases hb : bindT tg x0 ei with
        | none => simp only [f, hb] at hl; cases hl
        | some e3 =>
          refine bind_ok hb w4 (fun p hpp z => h4 _ z (hp p hpp)) fun σ3 w5 _ _ => ?_
          rcases hv : evS Φ b e3 with _ | ⟨fl, e4⟩
          · simp only [f, hb, hv] at hl; cases hl
          · simp only [f, hb, hv] at hl
            refine ⟨B, e3, hold ++ Γ, (fl, e4), hp, w5, hv, ?_⟩
            cases fl with
            | nx => exact fun σ H w6 => ⟨kill ks e4, w6.kill ks, hl⟩
            | ct => exact fun σ H w6 => ⟨kill ks e4, w6.kill ks, hl⟩
            | bk =>
              cases hl
              exact fun σ H w6 => q σ H (w6.kill ks).unhold
            | rt d =>
              cases hl
              exact fun σ v H w6 => q σ v H (Wd.unhold (hold := hold) (w6.permG List.perm_middle.symm))
    · have hie : i = xs.length := by omega
      subst hie
      rw [List.drop_length, loopF] at hl
      cases hl
      exact .inl ⟨it0.stop _ H2 _ wI (Nat.le_refl _), q σ2 H2 (w2.kill ks).unhold⟩
  · cases h
structure AllS (Φ : Fs) (k : Nat) (n : Nm) (pr : List Nat) (t : T) : Prop where
  s : SS Φ k n pr t
  b : SB Φ k n pr t
theorem noSS {t : T} (h : ∀ {sc : Scope} {st : Stmt}, chkS n sc pr t st = false) : SS Φ k n pr t := fun O hh => by rw [h] at hh; cases hh
theorem noSB {t : T} (h : ∀ {sc : Scope} {st : List Stmt}, chkB n sc pr t st = false) : SB Φ k n pr t := fun O hh => by rw [h] at hh; cases hh
theorem all_stmts : ∀ t : T, AllS Φ k n pr t := by
  intro t
  induction t with
  | pass => exact ⟨SS_pass, SB_pass⟩
  | seq a r ia ir => exact ⟨noSS rfl, SB_seq ia.s ir.b⟩
  | asg i a _ => exact ⟨SS_asg, noSB rfl⟩
  | upk tg a _ => exact ⟨SS_upk, noSB rfl⟩
  | st p i a _ _ _ => exact ⟨SS_st, noSB rfl⟩
  | app i a _ => exact ⟨SS_app, noSB rfl⟩
  | ex a _ => exact ⟨SS_ex, noSB rfl⟩
  | cond c a b _ ia ib => exact ⟨SS_cond ia.b ib.b, noSB rfl⟩
  | whl ks c b _ ib => exact ⟨SS_whl ib.b, noSB rfl⟩
  | for_ tg ks it b _ ib => exact ⟨SS_for ib.b, noSB rfl⟩
  | ret a _ => exact ⟨SS_ret, noSB rfl⟩
  | brk => exact ⟨SS_brk, noSB rfl⟩
  | cnt => exact ⟨SS_cnt, noSB rfl⟩
  | rse => exact ⟨SS_rse, noSB rfl⟩
  | _ => exact ⟨noSS rfl, noSB rfl⟩
end
end Sr
set_option Elab.async false
set_option linter.all false
set_option maxRecDepth 100000
set_option maxHeartbeats 2000000
/-! # Sr: defs, the law's end -/
namespace Sr
open PySem PySem.Spec PyProof.Rows L2

def prI : List Bool → Nat → List Nat
  | [], _ => []
  | b :: r, i => if b then i :: prI r (i + 1) else prI r (i + 1)
def prV : List Bool → List V → Nat → List (Nat × V)
  | b :: r, v :: vs, i => if b then (i, v) :: prV r vs (i + 1) else prV r vs (i + 1)
  | _, _, _ => []
theorem prV_I : ∀ {io : List Bool} {vs : List V} {i : Nat} {p : Nat × V}, p ∈ prV io vs i → p.1 ∈ prI io i
  | [], _, _, _, h => by simp [prV] at h
  | _ :: _, [], _, _, h => by simp [prV] at h
  | b :: io, v :: vs, i, p, h => by
    unfold prV at h
    unfold prI
    cases b with
    | true =>
      simp only [if_true] at h ⊢
      rcases List.mem_cons.mp h with rfl | h
      · exact List.mem_cons_self
      · exact List.mem_cons_of_mem _ (prV_I h)
    | false =>
      simp only [Bool.false_eq_true, if_false] at h ⊢
      exact prV_I h
theorem prV_at : ∀ {io : List Bool} {vs : List V} {i : Nat} {p : Nat × V}, p ∈ prV io vs i → i ≤ p.1 ∧ vs[p.1 - i]? = some p.2
  | [], _, _, _, h => by simp [prV] at h
  | _ :: _, [], _, _, h => by simp [prV] at h
  | b :: io, v :: vs, i, p, h => by
    unfold prV at h
    have rc : p ∈ prV io vs (i + 1) → i ≤ p.1 ∧ (v :: vs)[p.1 - i]? = some p.2 := fun h => by
      obtain ⟨h1, h2⟩ := prV_at h
      refine ⟨by omega, ?_⟩
      have e : p.1 - i = (p.1 - (i + 1)) + 1 := by omega
      rw [e]; simpa using h2
    cases b with
    | true =>
      simp only [if_true] at h
      rcases List.mem_cons.mp h with rfl | h
      · exact ⟨Nat.le_refl _, by simp⟩
      · exact rc h
    | false =>
      simp only [Bool.false_eq_true, if_false] at h
      exact rc h
theorem prV_mem : ∀ {io : List Bool} {vs : List V} {i j : Nat} {v : V}, io[j]? = some true → vs[j]? = some v → (i + j, v) ∈ prV io vs i
  | [], _, _, _, _, h, _ => by simp at h
  | _ :: _, [], _, _, _, _, h => by simp at h
  | b :: io, u :: vs, i, 0, v, h1, h2 => by
    simp at h1 h2; subst h1; subst h2
    unfold prV
    simp
  | b :: io, u :: vs, i, j + 1, v, h1, h2 => by
    have ih := prV_mem (i := i + 1) (io := io) (vs := vs) (j := j) (by simpa using h1) (by simpa using h2)
    have e : i + (j + 1) = i + 1 + j := by omega
    unfold prV
    rw [e]
    cases b with
    | true => exact List.mem_cons_of_mem _ ih
    | false => exact ih
theorem er_start : ∀ {vs : List V} {ds : List D} {m m' : Nat}, vs.length = ds.length → er (vs.map some ++ List.replicate m none) (ds.map some ++ List.replicate m' none) = vs.zip ds
  | [], [], 0, _, _ => by cases ‹Nat› <;> rfl
  | [], [], m + 1, 0, _ => rfl
  | [], [], m + 1, m' + 1, _ => by
    have := er_start (vs := []) (ds := []) (m := m) (m' := m') rfl
    simpa [List.replicate_succ, er] using this
  | [], _ :: _, _, _, h => by simp at h
  | _ :: _, [], _, _, h => by simp at h
  | v :: vs, d :: ds, m, m', h => by
    have := er_start (vs := vs) (ds := ds) (m := m) (m' := m') (by simpa using h)
    simp only [List.map_cons, List.cons_append, er, List.zip_cons_cons, this]
theorem W.sub {K : PySem.W.Frag} {B : Bs} {H : Hp} {R R' : List Rt} (s : R'.Sublist R) (w : W K B H R) : W K B H R' := by
  have key : ∀ {R R' : List Rt}, R'.Sublist R → ∀ {X : List Rt}, W K B H (X ++ R) → W K B H (X ++ R') := by
    intro R R' s
    induction s with
    | slnil => exact fun w => w
    | cons a _ ih => exact fun {X} w => ih (W.drop (w.perm List.perm_middle))
    | @cons_cons l1 l2 a _ ih =>
      intro X w
      have := ih (X := X ++ [a]) (by simpa using w)
      simpa using this
  simpa using key s (X := []) (by simpa using w)
theorem er_outs : ∀ {io : List Bool} {vs : List V} {σ : List (Option V)} {e : Env}, (∀ (j : Nat) (v : V), io[j]? = some true → vs[j]? = some v → σ[j]? = some (some v)) → (er (vs.map some) (outs io e)).Sublist (er σ e)
  | [], vs, σ, e, _ => by
    have : er (vs.map some) (outs [] e) = [] := by cases vs <;> rfl
    rw [this]; exact List.nil_sublist _
  | b :: io, [], σ, e, _ => by
    have : er (([] : List V).map some) (outs (b :: io) e) = [] := rfl
    rw [this]; exact List.nil_sublist _
  | b :: io, v :: vs, σ, e, h => by
    have ih : (er (vs.map some) (outs io e.tail)).Sublist (er σ.tail e.tail) := er_outs fun j u h1 h2 => by
      have := h (j + 1) u (by simpa using h1) (by simpa using h2)
      cases σ with
      | nil => simp at this
      | cons a σ => simpa using this
    have step : (er σ.tail e.tail).Sublist (er σ e) := by
      cases σ with
      | nil => cases e <;> exact .refl _
      | cons a σ =>
        cases e with
        | nil =>
          have e0 : er σ ([] : Env) = [] := by cases σ with
            | nil => rfl
            | cons a _ => cases a <;> rfl
          show (er σ ([] : Env)).Sublist _
          rw [e0]; exact List.nil_sublist _
        | cons c e =>
          cases a <;> cases c <;> first | exact .refl _ | exact List.sublist_cons_self _ _
    have plain : (er (some v :: vs.map some) (none :: outs io e.tail)).Sublist (er σ e) := ih.trans step
    cases b with
    | false => exact plain
    | true =>
      have h0 := h 0 v rfl rfl
      cases σ with
      | nil => simp at h0
      | cons a σ =>
        simp at h0; subst h0
        cases e with
        | nil => exact plain
        | cons c e =>
          cases c with
          | none => exact plain
          | some d => exact ih.cons_cons _

section
variable {P : Program} {w : World} {K : PySem.W.Frag} {mg : Str → Option Value} {base : Heap}
/-- the promise of one def -/
def spDf (K : PySem.W.Frag) (Φ : Fs) (d : Df) : Sp := fun vs H Q _ => ∃ (ds : List D) (r : D) (os : List (Option D)) (F S : List Addr),
  vs.length = d.io.length ∧ Reps K H vs ds F S ∧ Okk ⟨H, F, S, []⟩ H F S ∧ runDf Φ d ds = some (r, os) ∧
  ∀ v H', W K ⟨H, F, S, []⟩ H' ((v, r) :: er (vs.map some) os) → Q v H'
/-- what the text of a def is to be -/
structure DefT (n : Nm) (d : Df) (ps : List Str) (st : Stmt) : Prop where
  S : FnScope n.N ps (defScope st)
  hc : chkB n (defScope st) (prI d.io 0) d.body (defBody st) = true
  hl : d.io.length = ps.length
  hn : d.names = n.N.length
/-- the functions that may be called -/
def FnsOk (P : Program) (w : World) (K : PySem.W.Frag) (mg : Str → Option Value) (base : Heap) (Φ : Fs) (k : Nat) (fn : Nat → Str) (nf : Nat) : Prop :=
  ∀ f, f < nf → ∃ A fd ps, mg (fn f) = some (.ref A) ∧ PySem.W.keepIn K (.ref A) = true ∧ Binds K fd ps [] ∧ FnOk P w K mg base CX0 k A fd ps (spOf K Φ f)
variable {Φ : Fs} {k : Nat} {n : Nm} {d : Df} {ps : List Str} {st : Stmt} {x qual : Str} {A : Addr} {fd : FuncData}
theorem body_ok (T : DefT n d ps st) (bt : ∀ x ∈ bltNames, mg x = none) (fns : FnsOk P w K mg base Φ k n.fn n.nf) {cdv : Value} {Ar : Around} {outer : List PySem.Env} {s : Shared} {H : Hp} {E : XK} (hr : Room k (Ar.deeper (envOfC qual (defScope st) s.heap.objs.size A cdv))) :
    PSs (cxOf CX0 P w K mg base n.N qual (defScope st) A cdv Ar outer s H E).nox (defBody st) (tS K Φ (prI d.io 0) d.body) :=
  (all_stmts d.body).b (X := (cxOf CX0 P w K mg base n.N qual (defScope st) A cdv Ar outer s H E).nox) (sc := defScope st) ⟨⟨rfl, T.S.nd, rfl, rfl, rfl, hr, hr.mono (Nat.zero_le _), bt, fns⟩, fun _ => rfl⟩ T.hc
theorem Okk.re {B B' : Bs} {H : Hp} {F S : List Addr} (o : Okk B H F S) (h : B'.H0 = B.H0 ∧ B'.F0 = B.F0 ∧ B'.S0 = B.S0) : Okk B' H F S := by
  obtain ⟨b1, b2, b3⟩ := h
  exact ⟨o.nd, o.dj, by rw [b1, b2]; exact o.fF, by rw [b1, b2, b3]; exact o.fS, by rw [b1, b2]; exact o.kp, o.sz⟩
/-- where a def's body begins -/
theorem wd_start {vs : List V} {ds : List D} {H : Hp} {F S : List Addr} {N : List Str} {io : List Bool} (hl : vs.length = io.length) (hN : io.length ≤ N.length) (r : Reps K H vs ds F S) (o : Okk ⟨H, F, S, []⟩ H F S) :
    Wd K ⟨H, F, S, prV io vs 0⟩ (L2.start N vs) (ds.map some ++ List.replicate (N.length - ds.length) none) [] H := by
  have l := r.len
  refine ⟨⟨?_, fun i d h => ?_⟩, fun p hp => ?_, F, S, ?_, o.re ⟨rfl, rfl, rfl⟩⟩
  · unfold L2.start
    rw [List.length_append, List.length_append, List.length_map, List.length_map, List.length_replicate, List.length_replicate, l]
  · by_cases hi : i < ds.length
    · refine ⟨vs[i]'(by omega), ?_⟩
      unfold L2.start
      rw [List.getElem?_append_left (by rw [List.length_map]; omega), List.getElem?_map, List.getElem?_eq_getElem (by omega)]; rfl
    · rw [List.getElem?_append_right (by rw [List.length_map]; omega), List.getElem?_replicate] at h
      split at h <;> cases h
  · obtain ⟨_, h2⟩ := prV_at hp
    simp only [Nat.sub_zero] at h2
    obtain ⟨hh, _⟩ := List.getElem?_eq_some_iff.mp h2
    unfold L2.start
    rw [List.getElem?_append_left (by rw [List.length_map]; exact hh), List.getElem?_map, h2]; rfl
  · show Reps K H _ _ _ _
    unfold L2.start
    rw [List.nil_append, er_start l, List.map_fst_zip (Nat.le_of_eq l), List.map_snd_zip (Nat.le_of_eq l.symm)]
    exact r
theorem runDf_some {ds : List D} {r : D} {os : List (Option D)} (h : runDf Φ d ds = some (r, os)) : ds.length = d.io.length ∧ ∃ f e, evS Φ d.body (ds.map some ++ List.replicate (d.names - ds.length) none) = some (f, e) ∧ (f = .rt r ∨ (f = .nx ∧ r = .non)) ∧ os = outs d.io e := by
  unfold runDf at h
  split at h
  · rename_i hl
    split at h
    · rename_i r' e he
      obtain ⟨rfl, rfl⟩ := inj2 h
      exact ⟨hl, _, _, he, .inl rfl, rfl⟩
    · rename_i e he
      obtain ⟨rfl, rfl⟩ := inj2 h
      exact ⟨hl, _, _, he, .inr ⟨rfl, rfl⟩, rfl⟩
    · cases h
  · cases h
theorem N_le (T : DefT n d ps st) : d.io.length ≤ n.N.length := by
  have := congrArg List.length T.S.pre
  rw [List.length_take] at this
  rw [T.hl]; omega
theorem fn_ok (F : Fun K x qual st A fd) (T : DefT n d ps st) (bt : ∀ x ∈ bltNames, mg x = none) (fns : FnsOk P w K mg base Φ k n.fn n.nf) : FnOk P w K mg base CX0 (k + 1) A fd ps (spDf K Φ d) := by
  refine F.ok T.S (fun vs H Q E h => ?_) (fun cdv Ar outer s H vs Q E hr h => ⟨_, body_ok T bt fns hr, ?_⟩)
  · obtain ⟨_, _, _, _, _, h, _⟩ := h
    rw [h, T.hl]
  · obtain ⟨ds, r, os, F, S, hl, rr, o, hrun, q⟩ := h
    obtain ⟨_, f, e, he, hf, hos⟩ := runDf_some hrun
    have w0 := wd_start (N := n.N) hl (N_le T) rr o
    rw [T.hn] at he
    refine ⟨_, _, _, _, fun p hp => prV_I hp, w0, he, ?_⟩
    have fin : ∀ σ v H', Wd K ⟨H, F, S, prV d.io vs 0⟩ σ e [(v, r)] H' → Q v H' := fun σ v H' w1 => by
      refine q v H' ?_
      have s1 : ((v, r) :: er (vs.map some) os).Sublist ([(v, r)] ++ er σ e) := by
        rw [hos]
        exact (er_outs fun j u h1 h2 => by
          have := w1.pr _ (prV_mem (i := 0) h1 h2)
          simpa using this).cons_cons _
      obtain ⟨F1, S1, r1, o1⟩ := w1.w.sub s1
      exact ⟨F1, S1, r1, o1.re ⟨rfl, rfl, rfl⟩⟩
    rcases hf with rfl | ⟨rfl, rfl⟩
    · exact fin
    · exact fun σ H' w1 => fin σ .non H' ⟨w1.fit, w1.pr, w1.w.add .non⟩

/-- all functions, by levels -/
structure FnAt (K : PySem.W.Frag) (mg : Str → Option Value) (fn : Nat → Str) (nf : Nat) (d : Df) (x : Str) : Prop where
  ex : ∃ N ps st A fd qual, DefT ⟨N, fn, nf⟩ d ps st ∧ Fun K x qual st A fd ∧ mg x = some (.ref A) ∧ Binds K fd ps []
theorem all_fns {Pd : Nat → Df} {fn : Nat → Str} {nf : Nat} (bt : ∀ x ∈ bltNames, mg x = none) (h : ∀ f, f < nf → FnAt K mg fn nf (Pd f) (fn f)) : ∀ k, FnsOk P w K mg base (fnsN Pd k) k fn nf
  | 0 => fun f hf => by
    obtain ⟨N, ps, st, A, fd, qual, T, F, hm, hb⟩ := (h f hf).ex
    have no : ∀ vs H Q E, ¬ spOf K (fnsN Pd 0) f vs H Q E := fun vs H Q E h => by
      obtain ⟨_, _, _, _, _, _, _, _, h, _⟩ := h
      cases h
    exact ⟨A, fd, ps, hm, F.kp, hb, fun vs H Q E h => absurd h (no vs H Q E), fun A outer s H args us vs Q E _ _ _ _ h => absurd h (no vs H Q E)⟩
  | k + 1 => fun f hf => by
    obtain ⟨N, ps, st, A, fd, qual, T, F, hm, hb⟩ := (h f hf).ex
    have g := fn_ok (P := P) (w := w) (base := base) F T bt (all_fns bt h k)
    exact ⟨A, fd, ps, hm, F.kp, hb, g⟩

/-! ### the law's own def -/
def spLaw (K : PySem.W.Frag) : Sp := fun vs H Q _ => ∃ (a : Addr) (ns : List Int), vs = [.ref a] ∧ ns.length ≤ 63 ∧ (∀ z ∈ ns, Builtin.Int.intBits z ≤ 1048576) ∧ Only H ∧ SqL K H a (ns.map V.int) ∧ ∀ H', Q (.bl true) H'
theorem reps_ints {H : Hp} : ∀ ns : List Int, Reps K H (ns.map V.int) (ns.map D.int) [] []
  | [] => .nil
  | i :: ns => .cons (F := []) (S := []) (F' := []) (S' := []) (.int i) (reps_ints ns)
theorem ps_szOk {X : Cx} {sts : List Stmt} {t : TS} (h : PSs X sts t) : PSs X sts fun D σ H => SzOk H → t D σ H := ⟨fun pins s σ H D I q => h.run pins s σ H D I (q fun a xs z => by
  rcases z with z | z
  · obtain ⟨z, _⟩ := z.ok I.hok
    exact z
  · obtain ⟨z, _⟩ := z.ok I.hok
    exact z)⟩
theorem law_ok (F : Fun K x qual st A fd) (T : DefT n d ps st) (hio : d.io = [false]) (bt : ∀ x ∈ bltNames, mg x = none) (fns : FnsOk P w K mg base Φ k n.fn n.nf)
    (hrun : ∀ ns : List Int, ns.length ≤ 63 → (∀ z ∈ ns, Builtin.Int.intBits z ≤ 1048576) → ∃ os, runDf Φ d [.lst false (ns.map D.int)] = some (.bl true, os)) : FnOk P w K mg base CX0 (k + 1) A fd ps (spLaw K) := by
  refine F.ok T.S (fun vs H Q E h => ?_) (fun cdv Ar outer s H vs Q E hr h => ⟨_, ps_szOk (body_ok T bt fns hr), fun sz => ?_⟩)
  · obtain ⟨_, _, rfl, _⟩ := h
    rw [← T.hl, hio]; rfl
  · obtain ⟨a, ns, rfl, h63, hb, hO, hS, q⟩ := h
    obtain ⟨os, hrun⟩ := hrun ns h63 hb
    obtain ⟨_, f, e, he, hf, hos⟩ := runDf_some hrun
    have rr : ∃ S, Reps K H [V.ref a] [.lst false (ns.map D.int)] [] S ∧ ∀ b ∈ S, b = a := by
      rcases hS with hS | hS
      · exact ⟨[a], .cons (S' := []) (.shr hS (reps_ints ns)) .nil, fun b hb => by simpa using hb⟩
      · exact ⟨[], .cons (S' := []) (.mod hS (reps_ints ns)) .nil, fun b hb => nomatch hb⟩
    obtain ⟨S, rr, _⟩ := rr
    have o : Okk ⟨H, [], S, []⟩ H [] S := ⟨List.nodup_nil, (fun _ z => nomatch z), (fun _ z => nomatch z), fun b hb => .inr (.inl hb), fun b o e _ => e, sz⟩
    have w0 := wd_start (N := n.N) (io := d.io) (by rw [hio]; rfl) (N_le T) rr o
    rw [T.hn] at he
    refine ⟨_, _, _, _, fun p hp => prV_I hp, w0, he, ?_⟩
    rcases hf with rfl | ⟨_, z⟩
    · intro σ v H' w1
      have := w1.headBl
      subst this
      exact q H'
    · cases z
end
/-- the law's end -/
theorem walk {l : PySem.W.OpenLaw} {q : Program} {loose : List Str} {XP : (Str → Option Value) → Heap → Prop} {YP : World → Heap → Prop} {d : DefRec} {K : Params → PySem.W.Frag} {k : Nat} {x : Str} (hk : k ≤ 220) (hn : l.most = some 63) (hdf : d.params.defaults = [])
    (hY : ∀ (w : World) (h : Heap), YP w h → (K w.params).In h)
    (F : ∀ (w : World) (mg : Str → Option Value) (fa : Addr) (h : Heap), (K w.params).In h → h.Ns mainGlobals mg → mg d.name = some (.ref fa) →
      ∃ fd : FuncData, (∀ (s : Shared) (u : Value), BindsTo s fd ⟨[u], []⟩ [(x, u)]) ∧ ∀ base : Heap, (K w.params).In base → base.Ns mainGlobals mg → FnOk l.prog w (K w.params) mg base CX0 k fa fd [x] (spLaw (K w.params))) :
    PySem.W.WalkO q loose XP YP l.row.toRowW d [] (fun f vs => PySem.call f vs) :=
  L2.walk_ofB (n := 63) (k := k) (x := x) (CX := fun _ => CX0) (sp := fun w => spLaw (K w.params)) hn (by decide) hdf (Room.mono (k := 220) ⟨rfl, by decide, by decide⟩ hk) hY F (fun _ _ a ns hl hb hO hS => ⟨a, ns, rfl, hl, hb, hO, hS, fun _ => rfl⟩) fun _ _ _ _ _ z => z
end Sr
set_option Elab.async false
set_option linter.all false
set_option maxRecDepth 100000
/-! # Sr: how a term is computed, by rules of rewriting -/
namespace Sr
open PySem PySem.Spec PyProof.Rows L2

/-- what comes next is not looked at before its turn -/
structure Tg {β : Type} (q : β) : Type where
def sat {α : Type} (o : Option (α × Env)) (Q : α → Env → Prop) (_ : Tg Q := ⟨⟩) : Prop := ∃ a e, o = some (a, e) ∧ Q a e
def opt {α : Type} (o : Option α) (Q : α → Prop) (_ : Tg Q := ⟨⟩) : Prop := ∃ a, o = some a ∧ Q a
def runs (o : Option (D × List (Option D))) (Q : D → List (Option D) → Prop) (_ : Tg Q := ⟨⟩) : Prop := ∃ r os, o = some (r, os) ∧ Q r os
@[simp] theorem runs_some {r : D} {os : List (Option D)} {Q : D → List (Option D) → Prop} : runs (some (r, os)) Q ↔ Q r os := ⟨fun ⟨_, _, h, q⟩ => (by cases h; exact q), fun q => ⟨_, _, rfl, q⟩⟩
@[simp] theorem sat_some {α : Type} {a : α} {e : Env} {Q : α → Env → Prop} : sat (some (a, e)) Q ↔ Q a e := ⟨fun ⟨_, _, h, q⟩ => (by cases h; exact q), fun q => ⟨_, _, rfl, q⟩⟩
@[simp] theorem sat_none {α : Type} {Q : α → Env → Prop} : sat none Q ↔ False := ⟨fun ⟨_, _, h, _⟩ => (by cases h), False.elim⟩
@[simp] theorem opt_some {α : Type} {a : α} {Q : α → Prop} : opt (some a) Q ↔ Q a := ⟨fun ⟨_, h, q⟩ => (by cases h; exact q), fun q => ⟨_, rfl, q⟩⟩
@[simp] theorem opt_none {α : Type} {Q : α → Prop} : opt none Q ↔ False := ⟨fun ⟨_, h, _⟩ => (by cases h), False.elim⟩
theorem sat_ite {α : Type} {c : Prop} [Decidable c] {x y : Option (α × Env)} {Q : α → Env → Prop} : sat (if c then x else y) Q ↔ if c then sat x Q else sat y Q := by split <;> exact Iff.rfl
theorem opt_ite {α : Type} {c : Prop} [Decidable c] {x y : Option α} {Q : α → Prop} : opt (if c then x else y) Q ↔ if c then opt x Q else opt y Q := by split <;> exact Iff.rfl
def isI (x : D) (Q : Int → Prop) (_ : Tg Q := ⟨⟩) : Prop := match x with
  | .int i => Q i
  | _ => False
def isB (x : D) (Q : Bool → Prop) (_ : Tg Q := ⟨⟩) : Prop := match x with
  | .bl b => Q b
  | _ => False
@[simp] theorem isI_int {i : Int} {Q : Int → Prop} : isI (.int i) Q ↔ Q i := Iff.rfl
@[simp] theorem isB_bl {b : Bool} {Q : Bool → Prop} : isB (.bl b) Q ↔ Q b := Iff.rfl
@[simp] theorem at_nil {i : Nat} : Env.at [] i = none := by unfold Env.at; simp
@[simp] theorem at_cons0 {o : Option D} {e : Env} : Env.at (o :: e) 0 = o := rfl
@[simp] theorem at_cons1 {o : Option D} {e : Env} {i : Nat} : Env.at (o :: e) (i + 1) = Env.at e i := rfl
@[simp] theorem un_int {i : Int} : (D.int i).un = true := by simp [D.un]
@[simp] theorem un_bl {b : Bool} : (D.bl b).un = true := by simp [D.un]
@[simp] theorem un_non : D.non.un = true := by simp [D.un]
@[simp] theorem un_str {x : Str} : (D.str x).un = true := by simp [D.un]
@[simp] theorem un_tup {x : List D} : (D.tup x).un = unL x := by simp [D.un]
@[simp] theorem un_own {x : List D} : (D.lst true x).un = false := by simp [D.un]
@[simp] theorem un_shr {x : List D} : (D.lst false x).un = unL x := by simp [D.un]
@[simp] theorem unL_nil : unL [] = true := by simp [unL]
@[simp] theorem unL_cons {d : D} {x : List D} : unL (d :: x) = (d.un && unL x) := by simp [unL]
@[simp] theorem unL_app' {x y : List D} : unL (x ++ y) = (unL x && unL y) := unL_app ..
@[simp] theorem unL_ints {ns : List Int} : unL (ns.map D.int) = true := by
  induction ns with
  | nil => rfl
  | cons a r ih => simp [ih]
@[simp] theorem ns_int {i : Int} : (D.int i).ns = true := by simp [D.ns]
@[simp] theorem ns_bl {b : Bool} : (D.bl b).ns = true := by simp [D.ns]
@[simp] theorem ns_non : D.non.ns = true := by simp [D.ns]
@[simp] theorem ns_str {x : Str} : (D.str x).ns = true := by simp [D.ns]
@[simp] theorem ns_tup {x : List D} : (D.tup x).ns = nsL x := by simp [D.ns]
@[simp] theorem ns_own {x : List D} : (D.lst true x).ns = nsL x := by simp [D.ns]
@[simp] theorem ns_shr {x : List D} : (D.lst false x).ns = false := by simp [D.ns]
@[simp] theorem nsL_nil : nsL [] = true := by simp [nsL]
@[simp] theorem nsL_cons {d : D} {x : List D} : nsL (d :: x) = (d.ns && nsL x) := by simp [nsL]
@[simp] theorem nsL_ints {ns : List Int} : nsL (ns.map D.int) = true := by
  induction ns with
  | nil => rfl
  | cons a r ih => simp [ih]
@[simp] theorem nsO_nil : nsO [] = true := by simp [nsO]
@[simp] theorem nsO_none {r : List (Option D)} : nsO (none :: r) = nsO r := by simp [nsO]
@[simp] theorem nsO_some {d : D} {r : List (Option D)} : nsO (some d :: r) = (d.ns && nsO r) := by simp [nsO]
@[simp] theorem shr_int {i : Int} : (D.int i).shr = .int i := rfl
@[simp] theorem shr_blD {b : Bool} : (D.bl b).shr = .bl b := rfl
@[simp] theorem shr_non : D.non.shr = .non := rfl
@[simp] theorem shr_str {x : Str} : (D.str x).shr = .str x := rfl
@[simp] theorem shr_tupD {x : List D} : (D.tup x).shr = .tup (shrL x) := rfl
@[simp] theorem shr_lst {o : Bool} {x : List D} : (D.lst o x).shr = .lst false (shrL x) := rfl
@[simp] theorem shrL_nil : shrL [] = [] := rfl
@[simp] theorem shrL_cons {d : D} {x : List D} : shrL (d :: x) = d.shr :: shrL x := rfl
@[simp] theorem shrL_ints {ns : List Int} : shrL (ns.map D.int) = ns.map D.int := by
  induction ns with
  | nil => rfl
  | cons a r ih => simp [ih]

variable {Φ : Fs} {e : Env} {Q : D → Env → Prop}
@[simp] theorem sat_v {i : Nat} : sat (evE Φ (.v i) e) Q ↔ opt (e.at i) fun d => if d.un = true then Q d e else Q d (e.set i none) := by
  rw [evE]
  cases e.at i with
  | none => simp
  | some d => simp only [sat_ite, sat_some, opt_some]
@[simp] theorem sat_w {i : Nat} : sat (evE Φ (.w i) e) Q ↔ opt (e.at i) fun d => Q d.shr (e.set i (some d.shr)) := by
  rw [evE]
  cases e.at i <;> simp
@[simp] theorem sat_non : sat (evE Φ .non e) Q ↔ Q .non e := by rw [evE]; simp
@[simp] theorem sat_bl {b : Bool} : sat (evE Φ (.bl b) e) Q ↔ Q (.bl b) e := by rw [evE]; simp
@[simp] theorem sat_int {i : Int} : sat (evE Φ (.int i) e) Q ↔ Q (.int i) e := by rw [evE]; simp
@[simp] theorem sat_str {x : Str} : sat (evE Φ (.str x) e) Q ↔ Q (.str x) e := by rw [evE]; simp
@[simp] theorem sat_frz {a : T} : sat (evE Φ (.frz a) e) Q ↔ sat (evE Φ a e) fun d e => Q d.shr e := by
  rw [evE]
  rcases evE Φ a e with _ | ⟨d, e⟩ <;> simp
@[simp] theorem sat_bin {o : Bop} {a b : T} : sat (evE Φ (.bin o a b) e) Q ↔ sat (evE Φ a e) fun x e => sat (evE Φ b e) fun y e => opt (binD o x y) fun d => Q d e := by
  rw [evE]
  rcases evE Φ a e with _ | ⟨x, e⟩
  · simp
  · simp only [sat_some]
    rcases evE Φ b e with _ | ⟨y, e⟩
    · simp
    · simp only [sat_some]
      cases binD o x y <;> simp
@[simp] theorem binD_add {i j : Int} : binD .add (.int i) (.int j) = some (.int (i + j)) := rfl
@[simp] theorem binD_sub {i j : Int} : binD .sub (.int i) (.int j) = some (.int (i - j)) := rfl
@[simp] theorem binD_mul {i j : Int} : binD .mul (.int i) (.int j) = if mulOk i j then some (.int (i * j)) else none := by
  show Option.map D.int (if mulOk i j then some (i * j) else none) = _
  split <;> rfl
@[simp] theorem binD_fdv {i j : Int} : binD .fdv (.int i) (.int j) = if j ≠ 0 ∧ j.natAbs.log2 < 9000 then some (.int (i.fdiv j)) else none := by
  show Option.map D.int (if j ≠ 0 ∧ j.natAbs.log2 < 9000 then some (i.fdiv j) else none) = _
  split <;> rfl
@[simp] theorem binD_mod {i j : Int} : binD .mod (.int i) (.int j) = if j = 0 then none else some (.int (i.fmod j)) := by
  show Option.map D.int (if j = 0 then none else some (i.fmod j)) = _
  split <;> rfl
@[simp] theorem binD_pow {i j : Int} : binD .pow (.int i) (.int j) = if 0 ≤ j ∧ j ≤ 1000000 ∧ i.natAbs < 2 ^ 64 then some (.int (i ^ j.toNat)) else none := by
  show Option.map D.int (if 0 ≤ j ∧ j ≤ 1000000 ∧ i.natAbs < 2 ^ 64 then some (i ^ j.toNat) else none) = _
  split <;> rfl
@[simp] theorem binD_cat {ox oy : Bool} {xs ys : List D} : binD .add (.lst ox xs) (.lst oy ys) = if (unL xs && unL ys && decide (xs.length + ys.length ≤ big)) = true then some (.lst true (xs ++ ys)) else none := rfl
@[simp] theorem sat_neg {a : T} : sat (evE Φ (.neg a) e) Q ↔ sat (evE Φ a e) fun x e => isI x fun i => Q (.int (-i)) e := by
  rw [evE]
  rcases evE Φ a e with _ | ⟨x, e⟩
  · simp
  · simp only [sat_some]
    cases x <;> simp [isI]
@[simp] theorem sat_cmp {o : Cop} {a b : T} : sat (evE Φ (.cmp o a b) e) Q ↔ sat (evE Φ a e) fun x e => isI x fun i => sat (evE Φ b e) fun y e => isI y fun j => Q (.bl (cmpI o i j)) e := by
  rw [evE]
  rcases evE Φ a e with _ | ⟨x, e⟩
  · simp
  · simp only [sat_some]
    cases x <;> simp only [isI, sat_none]
    rcases evE Φ b e with _ | ⟨y, e⟩
    · simp
    · simp only [sat_some]
      cases y <;> simp
@[simp] theorem cmp_lt {i j : Int} : cmpI .lt i j = decide (i < j) := rfl
@[simp] theorem cmp_le {i j : Int} : cmpI .le i j = decide (i ≤ j) := rfl
@[simp] theorem cmp_gt {i j : Int} : cmpI .gt i j = decide (j < i) := rfl
@[simp] theorem cmp_ge {i j : Int} : cmpI .ge i j = decide (j ≤ i) := rfl
/-- an operand: a pure one is only read -/
def rdE (Φ : Fs) (p : Bool) (a : T) (e : Env) : Option (D × Env) := if p = true then (evP a e).map fun d => (d, e) else evE Φ a e
@[simp] theorem rd_true {a : T} : sat (rdE Φ true a e) Q ↔ opt (evP a e) fun d => Q d e := by
  unfold rdE
  rw [if_pos rfl]
  cases evP a e <;> simp
@[simp] theorem rd_false {a : T} : sat (rdE Φ false a e) Q ↔ sat (evE Φ a e) Q := by
  unfold rdE
  rw [if_neg Bool.false_ne_true]
@[simp] theorem evP_v {i : Nat} : evP (.v i) e = e.at i := rfl
@[simp] theorem evP_non : evP .non e = some .non := rfl
@[simp] theorem evP_bl {b : Bool} : evP (.bl b) e = some (.bl b) := rfl
@[simp] theorem evP_int {i : Int} : evP (.int i) e = some (.int i) := rfl
@[simp] theorem evP_str {x : Str} : evP (.str x) e = some (.str x) := rfl
@[simp] theorem opt_bin {o : Bop} {a b : T} {Q : D → Prop} : opt (evP (.bin o a b) e) Q ↔ opt (evP a e) fun x => isI x fun i => opt (evP b e) fun y => isI y fun j => opt (binI o i j) fun r => Q (.int r) := by
  rw [evP]
  cases evP a e with
  | none => simp
  | some x =>
    cases evP b e with
    | none => cases x <;> simp [isI]
    | some y => cases x <;> cases y <;> simp only [isI, opt_some, opt_none] <;> (try exact Iff.rfl)
                rename_i i j
                cases binI o i j <;> simp
@[simp] theorem opt_neg {a : T} {Q : D → Prop} : opt (evP (.neg a) e) Q ↔ opt (evP a e) fun x => isI x fun i => Q (.int (-i)) := by
  rw [evP]
  cases evP a e with
  | none => simp
  | some x => cases x <;> simp [isI]
@[simp] theorem opt_ix {a b : T} {Q : D → Prop} : opt (evP (.ix a b) e) Q ↔ opt (evP a e) fun d => opt (evP b e) fun y => isI y fun k => opt (atD d k) Q := by
  rw [evP]
  cases evP a e with
  | none => simp
  | some x =>
    cases evP b e with
    | none => simp
    | some y => cases y <;> simp [isI]
@[simp] theorem opt_len {a : T} {Q : D → Prop} : opt (evP (.b1 .len a) e) Q ↔ opt (evP a e) fun d => opt (lenD d) Q := by
  rw [evP]
  cases evP a e <;> simp
@[simp] theorem binI_add {i j : Int} : binI .add i j = some (i + j) := rfl
@[simp] theorem binI_sub {i j : Int} : binI .sub i j = some (i - j) := rfl
@[simp] theorem binI_mul {i j : Int} : binI .mul i j = if mulOk i j then some (i * j) else none := rfl
@[simp] theorem binI_fdv {i j : Int} : binI .fdv i j = if j ≠ 0 ∧ j.natAbs.log2 < 9000 then some (i.fdiv j) else none := rfl
@[simp] theorem binI_mod {i j : Int} : binI .mod i j = if j = 0 then none else some (i.fmod j) := rfl
@[simp] theorem binI_pow {i j : Int} : binI .pow i j = if 0 ≤ j ∧ j ≤ 1000000 ∧ i.natAbs < 2 ^ 64 then some (i ^ j.toNat) else none := rfl
@[simp] theorem sat_eq {a b : T} : sat (evE Φ (.eq a b) e) Q ↔ sat (rdE Φ (isP a && isP b) a e) fun x e => sat (rdE Φ (isP b) b e) fun y e => (eqOk x = true ∧ eqOk y = true) ∧ Q (.bl (eqv x y)) e := by
  rw [evE]
  show sat (match rdE Φ (isP a && isP b) a e with | some (x, e) => _ | none => none) Q ↔ _
  rcases rdE Φ (isP a && isP b) a e with _ | ⟨x, e⟩
  · simp
  · simp only [sat_some]
    show sat (match rdE Φ (isP b) b e with | some (x, e) => _ | none => none) Q ↔ _
    rcases rdE Φ (isP b) b e with _ | ⟨y, e⟩
    · simp
    · simp only [sat_some, sat_ite, Bool.and_eq_true]
      split <;> simp_all
@[simp] theorem sat_ne {a b : T} : sat (evE Φ (.ne a b) e) Q ↔ sat (rdE Φ (isP a && isP b) a e) fun x e => sat (rdE Φ (isP b) b e) fun y e => (eqOk x = true ∧ eqOk y = true) ∧ Q (.bl (!eqv x y)) e := by
  rw [evE]
  show sat (match rdE Φ (isP a && isP b) a e with | some (x, e) => _ | none => none) Q ↔ _
  rcases rdE Φ (isP a && isP b) a e with _ | ⟨x, e⟩
  · simp
  · simp only [sat_some]
    show sat (match rdE Φ (isP b) b e with | some (x, e) => _ | none => none) Q ↔ _
    rcases rdE Φ (isP b) b e with _ | ⟨y, e⟩
    · simp
    · simp only [sat_some, sat_ite, Bool.and_eq_true]
      split <;> simp_all
def isNn : D → Bool
  | .non => true
  | _ => false
@[simp] theorem isNn_non : isNn .non = true := rfl
@[simp] theorem isNn_int {i : Int} : isNn (.int i) = false := rfl
@[simp] theorem isNn_bl {i : Bool} : isNn (.bl i) = false := rfl
@[simp] theorem isNn_tup {i : List D} : isNn (.tup i) = false := rfl
@[simp] theorem isNn_lst {o : Bool} {i : List D} : isNn (.lst o i) = false := rfl
@[simp] theorem isNn_str {i : Str} : isNn (.str i) = false := rfl
@[simp] theorem sat_isN {a : T} : sat (evE Φ (.isN a) e) Q ↔ sat (rdE Φ (isP a) a e) fun x e => Q (.bl (isNn x)) e := by
  rw [evE]
  show sat (match rdE Φ (isP a) a e with | some (.non, e) => _ | some (_, e) => _ | none => none) Q ↔ _
  rcases rdE Φ (isP a) a e with _ | ⟨x, e⟩
  · simp
  · cases x <;> simp
@[simp] theorem sat_nisN {a : T} : sat (evE Φ (.nisN a) e) Q ↔ sat (rdE Φ (isP a) a e) fun x e => Q (.bl (!isNn x)) e := by
  rw [evE]
  show sat (match rdE Φ (isP a) a e with | some (.non, e) => _ | some (_, e) => _ | none => none) Q ↔ _
  rcases rdE Φ (isP a) a e with _ | ⟨x, e⟩
  · simp
  · cases x <;> simp
@[simp] theorem sat_chain {o o' : Cop} {a b c : T} : sat (evE Φ (.chain o o' a b c) e) Q ↔ sat (evE Φ a e) fun x e => isI x fun i => sat (evE Φ b e) fun y e => isI y fun j => if cmpI o i j = true then sat (evE Φ c e) fun z e => isI z fun k => Q (.bl (cmpI o' j k)) e else Q (.bl false) e := by
  rw [evE]
  rcases evE Φ a e with _ | ⟨x, e⟩
  · simp
  · simp only [sat_some]
    cases x <;> simp only [isI, sat_none]
    rcases evE Φ b e with _ | ⟨y, e⟩
    · simp
    · simp only [sat_some]
      cases y <;> simp only [sat_none]
      split
      · rcases evE Φ c e with _ | ⟨z, e⟩
        · simp
        · simp only [sat_some]
          cases z <;> simp
      · simp
@[simp] theorem sat_and {a b : T} : sat (evE Φ (.and a b) e) Q ↔ sat (evE Φ a e) fun x e => isB x fun c => if c = true then sat (evE Φ b e) fun y e => isB y fun c => Q (.bl c) e else Q (.bl false) e := by
  rw [evE]
  rcases evE Φ a e with _ | ⟨x, e⟩
  · simp
  · simp only [sat_some]
    cases x <;> simp only [isB, sat_none]
    rename_i c
    cases c
    · simp
    · simp only [if_true]
      rcases evE Φ b e with _ | ⟨y, e⟩
      · simp
      · simp only [sat_some]
        cases y <;> simp
@[simp] theorem sat_or {a b : T} : sat (evE Φ (.or a b) e) Q ↔ sat (evE Φ a e) fun x e => isB x fun c => if c = true then Q (.bl true) e else sat (evE Φ b e) fun y e => isB y fun c => Q (.bl c) e := by
  rw [evE]
  rcases evE Φ a e with _ | ⟨x, e⟩
  · simp
  · simp only [sat_some]
    cases x <;> simp only [isB, sat_none]
    rename_i c
    cases c
    · simp only [Bool.false_eq_true, if_false]
      rcases evE Φ b e with _ | ⟨y, e⟩
      · simp
      · simp only [sat_some]
        cases y <;> simp
    · simp
@[simp] theorem sat_not {a : T} : sat (evE Φ (.not a) e) Q ↔ sat (evE Φ a e) fun x e => isB x fun c => Q (.bl (!c)) e := by
  rw [evE]
  rcases evE Φ a e with _ | ⟨x, e⟩
  · simp
  · simp only [sat_some]
    cases x <;> simp [isB]
@[simp] theorem sat_ife {c a b : T} : sat (evE Φ (.ife c a b) e) Q ↔ sat (evE Φ c e) fun x e => isB x fun c => if c = true then sat (evE Φ a e) Q else sat (evE Φ b e) Q := by
  rw [evE]
  rcases evE Φ c e with _ | ⟨x, e⟩
  · simp
  · simp only [sat_some]
    cases x <;> simp only [isB, sat_none]
    simp only [sat_ite]
@[simp] theorem sat_nilL {Q : List D → Env → Prop} : sat (evL Φ .nil e) Q ↔ Q [] e := by rw [evL]; simp
@[simp] theorem sat_consL {a r : T} {Q : List D → Env → Prop} : sat (evL Φ (.cons a r) e) Q ↔ sat (evE Φ a e) fun x e => sat (evL Φ r e) fun xs e => Q (x :: xs) e := by
  rw [evL]
  rcases evE Φ a e with _ | ⟨x, e⟩
  · simp
  · simp only [sat_some]
    rcases evL Φ r e with _ | ⟨xs, e⟩ <;> simp
@[simp] theorem sat_tup {a : T} : sat (evE Φ (.tup a) e) Q ↔ sat (evL Φ a e) fun ds e => ds.length ≤ big ∧ Q (.tup ds) e := by
  rw [evE]
  rcases evL Φ a e with _ | ⟨ds, e⟩
  · simp
  · simp only [sat_some, sat_ite]
    by_cases h : ds.length ≤ big <;> simp [h]
@[simp] theorem sat_lst {a : T} : sat (evE Φ (.lst a) e) Q ↔ sat (evL Φ a e) fun ds e => ds.length ≤ big ∧ Q (.lst true ds) e := by
  rw [evE]
  rcases evL Φ a e with _ | ⟨ds, e⟩
  · simp
  · simp only [sat_some, sat_ite]
    by_cases h : ds.length ≤ big <;> simp [h]
theorem sat_ixP {a b : T} (p : (isP a && isP b) = true) : sat (evE Φ (.ix a b) e) Q ↔ opt (evP (.ix a b) e) fun d => d.un = true ∧ Q d e := by
  rw [evE, if_pos p]
  cases evP (.ix a b) e with
  | none => simp
  | some d =>
    simp only [opt_some]
    by_cases h : d.un = true <;> simp [h]
@[simp] theorem sat_ix {a b : T} : sat (evE Φ (.ix a b) e) Q ↔ if (isP a && isP b) = true then (opt (evP (.ix a b) e) fun d => d.un = true ∧ Q d e) else sat (evE Φ a e) fun x e => sat (evE Φ b e) fun y e => isI y fun k => opt (atD x k) fun d => Q d e := by
  by_cases p : (isP a && isP b) = true
  · rw [if_pos p]; exact sat_ixP p
  · rw [if_neg p, evE, if_neg p]
    rcases evE Φ a e with _ | ⟨x, e⟩
    · simp
    · simp only [sat_some]
      rcases evE Φ b e with _ | ⟨y, e⟩
      · simp
      · simp only [sat_some]
        cases y <;> simp only [isI, sat_none]
        rename_i k
        cases atD x k <;> simp
@[simp] theorem sat_sl {a lo hi : T} : sat (evE Φ (.sl a lo hi) e) Q ↔ (isPo lo && isPo hi) = true ∧ sat (rdE Φ (isP a) a e) fun x e => opt (evPo lo e) fun l => opt (evPo hi e) fun h => opt (slD x l h) fun d => Q d e := by
  rw [evE]
  by_cases p : (isPo lo && isPo hi) = true
  · rw [if_pos p]
    show sat (match rdE Φ (isP a) a e with | some (x, e) => _ | none => none) Q ↔ _
    rcases rdE Φ (isP a) a e with _ | ⟨x, e⟩
    · simp
    · simp only [sat_some, p, true_and]
      rcases evPo lo e with _ | l
      · simp
      · simp only [opt_some]
        rcases evPo hi e with _ | h
        · simp
        · simp only [opt_some]
          cases slD x l h <;> simp
  · rw [if_neg p]; simp [p]
@[simp] theorem sat_b1 {k : B1} {a : T} : sat (evE Φ (.b1 k a) e) Q ↔ sat (rdE Φ (isP a) a e) fun x e => opt (b1D k x) fun d => Q d e := by
  rw [evE]
  show sat (match rdE Φ (isP a) a e with | some (x, e) => _ | none => none) Q ↔ _
  rcases rdE Φ (isP a) a e with _ | ⟨x, e⟩
  · simp
  · simp only [sat_some]
    cases b1D k x <;> simp
@[simp] theorem sat_bn {k : BN} {a : T} : sat (evE Φ (.bn k a) e) Q ↔ sat (evL Φ a e) fun xs e => opt (bnD k xs) fun d => Q d e := by
  rw [evE]
  rcases evL Φ a e with _ | ⟨xs, e⟩
  · simp
  · simp only [sat_some]
    cases bnD k xs <;> simp
@[simp] theorem isP_v {i : Nat} : isP (.v i) = true := rfl
@[simp] theorem isP_non : isP .non = true := rfl
@[simp] theorem isP_bl {i : Bool} : isP (.bl i) = true := rfl
@[simp] theorem isP_int {i : Int} : isP (.int i) = true := rfl
@[simp] theorem isP_str {i : Str} : isP (.str i) = true := rfl
@[simp] theorem isP_bin {o : Bop} {a b : T} : isP (.bin o a b) = (isP a && isP b) := rfl
@[simp] theorem isP_neg {a : T} : isP (.neg a) = isP a := rfl
@[simp] theorem isP_ix {a b : T} : isP (.ix a b) = (isP a && isP b) := rfl
@[simp] theorem isP_len {a : T} : isP (.b1 .len a) = isP a := rfl
@[simp] theorem isP_call {f : Nat} {a : T} : isP (.call f a) = false := rfl
@[simp] theorem isP_tup {a : T} : isP (.tup a) = false := rfl
@[simp] theorem isP_lst {a : T} : isP (.lst a) = false := rfl
@[simp] theorem isP_lc {a : List Nat} {i c l : T} : isP (.lc a i c l) = false := rfl
@[simp] theorem isP_sl {a b c : T} : isP (.sl a b c) = false := rfl
@[simp] theorem isP_bn {k : BN} {a : T} : isP (.bn k a) = false := rfl
@[simp] theorem isP_w {i : Nat} : isP (.w i) = false := rfl
@[simp] theorem isP_and {a b : T} : isP (.and a b) = false := rfl
@[simp] theorem isP_or {a b : T} : isP (.or a b) = false := rfl
@[simp] theorem isP_not {a : T} : isP (.not a) = false := rfl
@[simp] theorem isP_ife {a b c : T} : isP (.ife a b c) = false := rfl
@[simp] theorem isP_b1i {a : T} : isP (.b1 .int a) = false := rfl
@[simp] theorem isP_b1a {a : T} : isP (.b1 .abs a) = false := rfl
@[simp] theorem isP_b1l {a : T} : isP (.b1 .list a) = false := rfl
@[simp] theorem isP_b1t {a : T} : isP (.b1 .tuple a) = false := rfl
@[simp] theorem isP_b1s {a : T} : isP (.b1 .sum a) = false := rfl
@[simp] theorem isPo_nil : isPo .nil = true := rfl
@[simp] theorem isPo_v {i : Nat} : isPo (.v i) = true := rfl
@[simp] theorem isPo_int {i : Int} : isPo (.int i) = true := rfl
@[simp] theorem isPo_bin {o : Bop} {a b : T} : isPo (.bin o a b) = (isP a && isP b) := rfl
@[simp] theorem isPo_len {a : T} : isPo (.b1 .len a) = isP a := rfl
@[simp] theorem isPo_neg {a : T} : isPo (.neg a) = isP a := rfl
@[simp] theorem isPo_ix {a b : T} : isPo (.ix a b) = (isP a && isP b) := rfl
@[simp] theorem evPo_nil {Q : Option Int → Prop} : opt (evPo .nil e) Q ↔ Q none := by unfold evPo; simp
theorem opt_evPo {a : T} {Q : Option Int → Prop} (h : a ≠ .nil) : opt (evPo a e) Q ↔ opt (evP a e) fun x => isI x fun i => Q (some i) := by
  unfold evPo
  split
  · exact absurd rfl h
  · cases evP a e with
    | none => simp
    | some x => cases x <;> simp [isI]
@[simp] theorem evPo_v {i : Nat} {Q : Option Int → Prop} : opt (evPo (.v i) e) Q ↔ opt (e.at i) fun x => isI x fun i => Q (some i) := opt_evPo (by simp)
@[simp] theorem evPo_int {i : Int} {Q : Option Int → Prop} : opt (evPo (.int i) e) Q ↔ Q (some i) := by rw [opt_evPo (by simp)]; simp
@[simp] theorem evPo_bin {o : Bop} {a b : T} {Q : Option Int → Prop} : opt (evPo (.bin o a b) e) Q ↔ opt (evP (.bin o a b) e) fun x => isI x fun i => Q (some i) := opt_evPo (by simp)
@[simp] theorem evPo_len {a : T} {Q : Option Int → Prop} : opt (evPo (.b1 .len a) e) Q ↔ opt (evP (.b1 .len a) e) fun x => isI x fun i => Q (some i) := opt_evPo (by simp)
@[simp] theorem b1D_len {d : D} : b1D .len d = lenD d := by cases d <;> rfl
@[simp] theorem lenD_lst {o : Bool} {xs : List D} : lenD (.lst o xs) = some (.int xs.length) := rfl
@[simp] theorem lenD_tup {xs : List D} : lenD (.tup xs) = some (.int xs.length) := rfl
@[simp] theorem atD_lst {o : Bool} {xs : List D} {k : Int} : atD (.lst o xs) k = atI xs k := rfl
@[simp] theorem atD_tup {xs : List D} {k : Int} : atD (.tup xs) k = atI xs k := rfl
@[simp] theorem b1D_abs {i : Int} : b1D .abs (.int i) = some (.int (if i < 0 then -i else i)) := rfl
@[simp] theorem b1D_int {i : Int} : b1D .int (.int i) = some (.int i) := rfl
@[simp] theorem b1D_intb {b : Bool} : b1D .int (.bl b) = some (.int (if b then 1 else 0)) := rfl
@[simp] theorem b1D_list {o : Bool} {xs : List D} : b1D .list (.lst o xs) = if unL xs = true then some (.lst true xs) else none := rfl
@[simp] theorem b1D_listT {xs : List D} : b1D .list (.tup xs) = if unL xs = true then some (.lst true xs) else none := rfl
@[simp] theorem b1D_tuple {o : Bool} {xs : List D} : b1D .tuple (.lst o xs) = if unL xs = true then some (.tup xs) else none := rfl
@[simp] theorem b1D_sum {o : Bool} {xs : List D} : b1D .sum (.lst o xs) = (toInts xs).map fun l => .int l.sum := rfl
def tyI : D → Bool
  | .int _ => true
  | .bl _ => true
  | _ => false
@[simp] theorem b1D_isInt {d : D} : b1D .isInt d = some (.bl (tyI d)) := by cases d <;> rfl
@[simp] theorem tyI_int {i : Int} : tyI (.int i) = true := rfl
@[simp] theorem tyI_bl {i : Bool} : tyI (.bl i) = true := rfl
@[simp] theorem tyI_non : tyI .non = false := rfl
@[simp] theorem tyI_tup {i : List D} : tyI (.tup i) = false := rfl
@[simp] theorem tyI_lst {o : Bool} {i : List D} : tyI (.lst o i) = false := rfl
@[simp] theorem tyI_str {i : Str} : tyI (.str i) = false := rfl
def tyB : D → Bool
  | .bl _ => true
  | _ => false
@[simp] theorem b1D_isBool {d : D} : b1D .isBool d = some (.bl (tyB d)) := by cases d <;> rfl
@[simp] theorem tyB_int {i : Int} : tyB (.int i) = false := rfl
@[simp] theorem tyB_bl {i : Bool} : tyB (.bl i) = true := rfl
@[simp] theorem tyB_non : tyB .non = false := rfl
@[simp] theorem tyB_tup {i : List D} : tyB (.tup i) = false := rfl
@[simp] theorem tyB_lst {o : Bool} {i : List D} : tyB (.lst o i) = false := rfl
@[simp] theorem tyB_str {i : Str} : tyB (.str i) = false := rfl
def tyL : D → Bool
  | .lst _ _ => true
  | _ => false
@[simp] theorem b1D_isList {d : D} : b1D .isList d = some (.bl (tyL d)) := by cases d <;> rfl
@[simp] theorem tyL_int {i : Int} : tyL (.int i) = false := rfl
@[simp] theorem tyL_bl {i : Bool} : tyL (.bl i) = false := rfl
@[simp] theorem tyL_non : tyL .non = false := rfl
@[simp] theorem tyL_tup {i : List D} : tyL (.tup i) = false := rfl
@[simp] theorem tyL_lst {o : Bool} {i : List D} : tyL (.lst o i) = true := rfl
def tyT : D → Bool
  | .tup _ => true
  | _ => false
@[simp] theorem b1D_isTuple {d : D} : b1D .isTuple d = some (.bl (tyT d)) := by cases d <;> rfl
@[simp] theorem tyT_int {i : Int} : tyT (.int i) = false := rfl
@[simp] theorem tyT_bl {i : Bool} : tyT (.bl i) = false := rfl
@[simp] theorem tyT_non : tyT .non = false := rfl
@[simp] theorem tyT_tup {i : List D} : tyT (.tup i) = true := rfl
@[simp] theorem tyT_lst {o : Bool} {i : List D} : tyT (.lst o i) = false := rfl
@[simp] theorem bnD_min {i j : Int} : bnD .min2 [.int i, .int j] = some (.int (if j < i then j else i)) := rfl
@[simp] theorem bnD_max {i j : Int} : bnD .max2 [.int i, .int j] = some (.int (if j > i then j else i)) := rfl
@[simp] theorem eqOk_int {i : Int} : eqOk (.int i) = true := rfl
@[simp] theorem eqOk_bl {i : Bool} : eqOk (.bl i) = true := rfl
@[simp] theorem eqOk_non : eqOk .non = true := rfl
end Sr
set_option Elab.async false
set_option linter.all false
set_option maxRecDepth 100000
/-! # Sr: how statements are computed, by rules of rewriting -/
namespace Sr
open PySem PySem.Spec PyProof.Rows L2
variable {Φ : Fs} {e : Env} {Q : D → Env → Prop}
theorem ixN_nat {n j : Nat} (hj : j < n) : ixN n (j : Int) = some j := by
  unfold ixN
  rw [if_pos (by omega), if_pos (by omega)]
  simp

/-! ### calls -/
@[simp] theorem sat_nilG {Q : List Ag → Env → Prop} : sat (evG Φ .nil [] e) Q ↔ Q [] e := by rw [evG]; simp
@[simp] theorem sat_varG {i : Nat} {r : T} {b : Bool} {bs : List Bool} {Q : List Ag → Env → Prop} : sat (evG Φ (.cons (.v i) r) (b :: bs) e) Q ↔ opt (e.at i) fun _ => sat (evG Φ r bs e) fun as e => Q ((if b = true then .io i else .var i) :: as) e := by
  rw [evG]
  cases e.at i with
  | none => simp
  | some d =>
    simp only [opt_some]
    rcases evG Φ r bs e with _ | ⟨as, e⟩ <;> simp
def notV : T → Bool
  | .v _ => false
  | _ => true
@[simp] theorem sat_valG {a r : T} {bs : List Bool} {Q : List Ag → Env → Prop} (h : notV a = true) : sat (evG Φ (.cons a r) (false :: bs) e) Q ↔ sat (evE Φ a e) fun x e => sat (evG Φ r bs e) fun as e => Q (.val x :: as) e := by
  rw [evG]
  · simp only [Bool.false_eq_true, if_false]
    rcases evE Φ a e with _ | ⟨x, e⟩
    · simp
    · simp only [sat_some]
      rcases evG Φ r bs e with _ | ⟨as, e⟩ <;> simp
  · intro i hi
    subst hi
    cases h
@[simp] theorem notV_v {i : Nat} : notV (.v i) = false := rfl
/-- a call -/
def callF (Φ : Fs) (f : Nat) (as : List Ag) (e : Env) : Option (D × Env) := match agIo as e with
  | some e' => match agD e e' as with
    | some ds => match Φ.run f ds with
      | some (r, os) => match agBack as os (if (r.ns && nsO os) = true then e' else agFz as e') with
        | some e => some (r, e)
        | none => none
      | none => none
    | none => none
  | none => none
@[simp] theorem sat_call {f : Nat} {a : T} : sat (evE Φ (.call f a) e) Q ↔ sat (evG Φ a (Φ.io f) e) fun as e => sat (callF Φ f as e) Q := by
  rw [evE]
  rcases evG Φ a (Φ.io f) e with _ | ⟨as, e⟩
  · simp
  · simp only [sat_some]; rfl
@[simp] theorem fnsN_io0 {P : Nat → Df} {n f : Nat} : (fnsN P n).io f = (P f).io := by cases n <;> rfl
@[simp] theorem sat_callF {f : Nat} {as : List Ag} : sat (callF Φ f as e) Q ↔ opt (agIo as e) fun e' => opt (agD e e' as) fun ds => runs (Φ.run f ds) fun r os => opt (agBack as os (if (r.ns && nsO os) = true then e' else agFz as e')) fun e => Q r e := by
  unfold callF
  cases agIo as e with
  | none => simp
  | some e' =>
    simp only [opt_some]
    cases agD e e' as with
    | none => simp
    | some ds =>
      simp only [opt_some]
      rcases Φ.run f ds with _ | ⟨r, os⟩
      · simp [runs]
      · unfold runs
        constructor
        · intro h
          refine ⟨r, os, rfl, ?_⟩
          simp only at h
          rcases hb : agBack as os (if (r.ns && nsO os) = true then e' else agFz as e') with _ | e2
          · rw [hb] at h; exact absurd h (by simp)
          · rw [hb] at h; rw [hb]; simpa using h
        · rintro ⟨r', os', h, q⟩
          cases h
          simp only
          rcases hb : agBack as os (if (r.ns && nsO os) = true then e' else agFz as e') with _ | e2
          · rw [hb] at q; exact absurd q (by simp)
          · rw [hb] at q; simpa using q
/-- a call of a function that changes nothing and hands back what is not of others -/
theorem call_ns {f : Nat} {as : List Ag} {ds : List D} {r : D} {os : List (Option D)} (h1 : agIo as e = some e) (h2 : agD e e as = some ds) (h3 : Φ.run f ds = some (r, os)) (h4 : r.ns = true) (h5 : agBack as os e = some e) (h6 : nsO os = true) : sat (callF Φ f as e) Q ↔ Q r e := by
  unfold callF
  simp [h1, h2, h3, h4, h5, h6]

/-! ### statements -/
variable {R : Fl → Env → Prop}
def nxt (f : Fl) (e : Env) (q : Env → Prop) (R : Fl → Env → Prop) (_ : Tg q := ⟨⟩) (_ : Tg R := ⟨⟩) : Prop := match f with
  | .nx => q e
  | f => R f e
@[simp] theorem nxt_nx {q : Env → Prop} : nxt .nx e q R ↔ q e := Iff.rfl
@[simp] theorem nxt_rt {d : D} {q : Env → Prop} : nxt (.rt d) e q R ↔ R (.rt d) e := Iff.rfl
@[simp] theorem nxt_bk {q : Env → Prop} : nxt .bk e q R ↔ R .bk e := Iff.rfl
@[simp] theorem nxt_ct {q : Env → Prop} : nxt .ct e q R ↔ R .ct e := Iff.rfl
@[simp] theorem sat_pass : sat (evS Φ .pass e) R ↔ R .nx e := by rw [evS]; simp
@[simp] theorem sat_seq {a b : T} : sat (evS Φ (.seq a b) e) R ↔ sat (evS Φ a e) fun f e => nxt f e (fun e => sat (evS Φ b e) R) R := by
  rw [evS]
  rcases evS Φ a e with _ | ⟨f, e⟩
  · simp
  · cases f <;> simp
@[simp] theorem sat_asg {i : Nat} {a : T} : sat (evS Φ (.asg i a) e) R ↔ sat (evE Φ a e) fun d e => R .nx (e.set i (some d)) := by
  rw [evS]
  rcases evE Φ a e with _ | ⟨d, e⟩ <;> simp
@[simp] theorem sat_upk {tg : List Nat} {a : T} : sat (evS Φ (.upk tg a) e) R ↔ sat (evE Φ a e) fun d e => opt (bindT tg d e) fun e => R .nx e := by
  rw [evS]
  rcases evE Φ a e with _ | ⟨d, e⟩
  · simp
  · simp only [sat_some]
    cases bindT tg d e <;> simp
@[simp] theorem sat_st {p i a : T} : sat (evS Φ (.st p i a) e) R ↔ sat (evE Φ a e) fun x e => (isPl p && isP i) = true ∧ opt (evP i e) fun y => isI y fun k => opt (setP p (putD k x) e) fun e => R .nx e := by
  rw [evS]
  rcases evE Φ a e with _ | ⟨x, e⟩
  · simp
  · simp only [sat_some, sat_ite]
    by_cases h : (isPl p && isP i) = true
    · rw [if_pos h]
      simp only [h, true_and]
      cases evP i e with
      | none => simp
      | some y =>
        cases y <;> simp only [opt_some, isI, sat_none]
        rename_i k
        cases setP p (putD k x) e <;> simp
    · simp [h]
def isLs : D → Bool
  | .lst _ _ => true
  | _ => false
@[simp] theorem isLs_lst {o : Bool} {xs : List D} : isLs (.lst o xs) = true := rfl
@[simp] theorem sat_app {i : Nat} {a : T} : sat (evS Φ (.app i a) e) R ↔ opt (e.at i) fun d => isLs d = true ∧ sat (evE Φ a e) fun x e => opt (setP (.v i) (appD x) e) fun e => R .nx e := by
  rw [evS]
  cases e.at i with
  | none => simp
  | some d =>
    cases d <;> simp only [opt_some, isLs, sat_none] <;> try simp
    rcases evE Φ a e with _ | ⟨x, e⟩
    · simp
    · simp only [sat_some]
      cases setP (.v i) (appD x) e <;> simp
@[simp] theorem sat_ex {a : T} : sat (evS Φ (.ex a) e) R ↔ sat (evE Φ a e) fun _ e => R .nx e := by
  rw [evS]
  rcases evE Φ a e with _ | ⟨d, e⟩ <;> simp
@[simp] theorem sat_cond {c a b : T} : sat (evS Φ (.cond c a b) e) R ↔ sat (evE Φ c e) fun x e => isB x fun c => if c = true then sat (evS Φ a e) R else sat (evS Φ b e) R := by
  rw [evS]
  rcases evE Φ c e with _ | ⟨x, e⟩
  · simp
  · simp only [sat_some]
    cases x <;> simp only [isB, sat_none]
    simp only [sat_ite]
@[simp] theorem sat_ret {a : T} : sat (evS Φ (.ret a) e) R ↔ sat (evE Φ a e) fun d e => R (.rt d) e := by
  rw [evS]
  rcases evE Φ a e with _ | ⟨d, e⟩ <;> simp
@[simp] theorem sat_brk : sat (evS Φ .brk e) R ↔ R .bk e := by rw [evS]; simp
@[simp] theorem sat_cnt : sat (evS Φ .cnt e) R ↔ R .ct e := by rw [evS]; simp
theorem sat_mono {α : Type} {o : Option (α × Env)} {Q Q' : α → Env → Prop} (h : sat o Q) (i : ∀ a e, Q a e → Q' a e) : sat o Q' := by
  obtain ⟨a, e, h, q⟩ := h
  exact ⟨a, e, h, i a e q⟩
/-- a while by an invariant and a measure -/
theorem sat_whl {ks : List Nat} {c b : T} (I : Nat → Env → Prop) {m : Nat} (h0 : I m e)
    (hs : ∀ m e, I m e → sat (evE Φ c e) fun x e => isB x fun c => if c = true then sat (evS Φ b e) fun f e => match f with
      | .nx => ∃ m', m' < m ∧ I m' (kill ks e)
      | .ct => ∃ m', m' < m ∧ I m' (kill ks e)
      | .bk => R .nx (kill ks e)
      | .rt d => R (.rt d) e
      else R .nx (kill ks e)) : sat (evS Φ (.whl ks c b) e) R := by
  have key : ∀ m e, I m e → ∃ n f e', whN ks (evE Φ c) (evS Φ b) n e = some (f, e') ∧ R f e' := by
    intro m
    induction m using Nat.strongRecOn with
    | ind m ih =>
      intro e h
      have z := hs m e h
      obtain ⟨x, e1, hc, z⟩ := z
      cases x <;> try (exact False.elim z)
      rename_i cb
      cases cb with
      | false => exact ⟨1, _, _, by rw [whN_succ, hc], z⟩
      | true =>
        obtain ⟨f, e2, hb, z⟩ := z
        cases f with
        | nx =>
          obtain ⟨m', hm, hi⟩ := z
          obtain ⟨n, f', e', hn, q⟩ := ih m' hm _ hi
          exact ⟨n + 1, f', e', by rw [whN_succ, hc]; simp only [hb]; exact hn, q⟩
        | ct =>
          obtain ⟨m', hm, hi⟩ := z
          obtain ⟨n, f', e', hn, q⟩ := ih m' hm _ hi
          exact ⟨n + 1, f', e', by rw [whN_succ, hc]; simp only [hb]; exact hn, q⟩
        | bk => exact ⟨1, _, _, by rw [whN_succ, hc]; simp only [hb], z⟩
        | rt d => exact ⟨1, _, _, by rw [whN_succ, hc]; simp only [hb], z⟩
  obtain ⟨n, f, e', hn, q⟩ := key m e h0
  exact ⟨f, e', by rw [evS]; exact whD_of hn, q⟩
theorem sat_loopF {ks : List Nat} {f : D → Env → Option (Fl × Env)} {xs : List D} (I : Nat → Env → Prop) (h0 : I 0 e)
    (hs : ∀ i x e, xs[i]? = some x → I i e → sat (f x e) fun f e => match f with
      | .nx => I (i + 1) (kill ks e)
      | .ct => I (i + 1) (kill ks e)
      | .bk => R .nx (kill ks e)
      | .rt d => R (.rt d) e)
    (hd : ∀ e, I xs.length e → R .nx (kill ks e)) : sat (loopF ks f xs e) R := by
  induction xs generalizing e I with
  | nil => rw [loopF]; simp; exact hd e h0
  | cons x xs ih =>
    rw [loopF]
    obtain ⟨g, e1, hf, z⟩ := hs 0 x e rfl h0
    rw [hf]
    cases g with
    | nx => exact ih (fun i e => I (i + 1) e) z (fun i y e hy => hs (i + 1) y e (by simpa using hy)) (fun e h => hd e (by simpa using h))
    | ct => exact ih (fun i e => I (i + 1) e) z (fun i y e hy => hs (i + 1) y e (by simpa using hy)) (fun e h => hd e (by simpa using h))
    | bk => simpa using z
    | rt d => simpa using z
/-- one turn of a for -/
noncomputable def forF (Φ : Fs) (tg : List Nat) (b : T) : D → Env → Option (Fl × Env) := fun x e => match bindT tg x e with
  | some e => evS Φ b e
  | none => none
@[simp] theorem sat_for {tg ks : List Nat} {it b : T} : sat (evS Φ (.for_ tg ks it b) e) R ↔ sat (evI Φ it e) fun xs e => sat (loopF ks (forF Φ tg b) xs e) R := by
  have h : evS Φ (.for_ tg ks it b) e = match evI Φ it e with
    | some (xs, e) => loopF ks (forF Φ tg b) xs e
    | none => none := by rw [evS]; rfl
  rw [h]
  rcases evI Φ it e with _ | ⟨xs, e⟩
  · simp
  · simp only [sat_some]
/-- a for by an invariant -/
theorem sat_forI {tg ks : List Nat} {b : T} {xs : List D} (I : Nat → Env → Prop) (h0 : I 0 e)
    (hs : ∀ i x e, xs[i]? = some x → I i e → opt (bindT tg x e) fun e => sat (evS Φ b e) fun f e => match f with
      | .nx => I (i + 1) (kill ks e)
      | .ct => I (i + 1) (kill ks e)
      | .bk => R .nx (kill ks e)
      | .rt d => R (.rt d) e)
    (hd : ∀ e, I xs.length e → R .nx (kill ks e)) : sat (loopF ks (forF Φ tg b) xs e) R :=
  sat_loopF I h0 (fun i x e hx hI => by
    obtain ⟨e1, he, z⟩ := hs i x e hx hI
    unfold forF
    simp only [he]; exact z) hd
/-! ### iterators -/
variable {L : List D → Env → Prop}
@[simp] theorem sat_rng1 {a : T} : sat (evI Φ (.rng1 a) e) L ↔ sat (evE Φ a e) fun x e => isI x fun n => (n ≤ big ∧ -(2 ^ 62) ≤ n) ∧ L ((List.range n.toNat).map fun k => .int (k : Nat)) e := by
  rw [evI]
  rcases evE Φ a e with _ | ⟨x, e⟩
  · simp
  · simp only [sat_some]
    cases x <;> simp only [isI, sat_none]
    rename_i n
    simp only [sat_ite]
    split <;> rename_i h
    · simp only [h, sat_some]; simp
    · simp only [h, sat_none, false_and]
@[simp] theorem sat_rng2 {a b : T} : sat (evI Φ (.rng2 a b) e) L ↔ sat (evE Φ a e) fun x e => isI x fun m => sat (evE Φ b e) fun y e => isI y fun n => (-(2 ^ 62) ≤ m ∧ m < 2 ^ 62 ∧ -(2 ^ 62) ≤ n ∧ n < 2 ^ 62 ∧ n - m ≤ big) ∧ L ((List.range (n - m).toNat).map fun k => .int (m + (k : Nat))) e := by
  rw [evI]
  rcases evE Φ a e with _ | ⟨x, e⟩
  · simp
  · simp only [sat_some]
    cases x <;> simp only [isI, sat_none]
    rcases evE Φ b e with _ | ⟨y, e⟩
    · simp
    · simp only [sat_some]
      cases y <;> simp only [sat_none]
      simp only [sat_ite]
      split <;> rename_i h
      · simp only [h, sat_some]; simp
      · simp only [h, sat_none, false_and]
@[simp] theorem sat_rng3 {a b : T} {c : Int} : sat (evI Φ (.rng3 a b c) e) L ↔ sat (evE Φ a e) fun x e => isI x fun m => sat (evE Φ b e) fun y e => isI y fun n => (-(2 ^ 61) ≤ m ∧ m < 2 ^ 61 ∧ -(2 ^ 61) ≤ n ∧ n < 2 ^ 61 ∧ 0 < c ∧ c < 1000000000 ∧ n - m ≤ big) ∧ L ((List.range (rngN m n c)).map fun k => .int (m + (k : Nat) * c)) e := by
  rw [evI]
  rcases evE Φ a e with _ | ⟨x, e⟩
  · simp
  · simp only [sat_some]
    cases x <;> simp only [isI, sat_none]
    rcases evE Φ b e with _ | ⟨y, e⟩
    · simp
    · simp only [sat_some]
      cases y <;> simp only [sat_none]
      simp only [sat_ite]
      split <;> rename_i h
      · simp only [h, sat_some]; simp
      · simp only [h, sat_none, false_and]
@[simp] theorem sat_itr {a : T} : sat (evI Φ (.itr a) e) L ↔ sat (evE Φ a e) fun d e => opt (items d) fun xs => L (shrL xs) e := by
  rw [evI]
  rcases evE Φ a e with _ | ⟨d, e⟩
  · simp
  · simp only [sat_some]
    cases items d <;> simp
@[simp] theorem items_lst {o : Bool} {xs : List D} : items (.lst o xs) = some xs := rfl
@[simp] theorem items_tup {xs : List D} : items (.tup xs) = some xs := rfl
def isL (x : D) (Q : List D → Prop) (_ : Tg Q := ⟨⟩) : Prop := match x with
  | .lst _ xs => Q xs
  | _ => False
@[simp] theorem isL_lst {o : Bool} {xs : List D} {Q : List D → Prop} : isL (.lst o xs) Q ↔ Q xs := Iff.rfl
@[simp] theorem sat_zip {a b : T} : sat (evI Φ (.zip a b) e) L ↔ sat (evE Φ a e) fun x e => isL x fun xs => sat (evE Φ b e) fun y e => isL y fun ys => L (zipD (shrL xs) (shrL ys)) e := by
  rw [evI]
  rcases evE Φ a e with _ | ⟨x, e⟩
  · simp
  · simp only [sat_some]
    cases x <;> simp only [isL, sat_none]
    rcases evE Φ b e with _ | ⟨y, e⟩
    · simp
    · simp only [sat_some]
      cases y <;> simp
/-! ### comprehensions -/
def lcF (Φ : Fs) (tg : List Nat) (c el : T) : D → Env → Option (Option D × Env) := fun x e => match bindT tg x e with
        | some e => match evE Φ c e with
          | some (.bl true, e) => match evE Φ el e with
            | some (d, e) => some (some d, kill tg e)
            | none => none
          | some (.bl false, e) => some (none, kill tg e)
          | _ => none
        | none => none
theorem sat_lc {tg : List Nat} {it c el : T} : sat (evE Φ (.lc tg it c el) e) Q ↔ sat (evI Φ it e) fun xs e => sat (loopC (lcF Φ tg c el) xs (kill tg e) []) fun ds e => Q (.lst true ds) e := by
  rw [evE]
  rcases evI Φ it e with _ | ⟨xs, e⟩
  · simp
  · simp only [sat_some]
    show sat (match loopC (lcF Φ tg c el) xs (kill tg e) [] with | some (ds, e) => _ | none => none) Q ↔ _
    rcases loopC (lcF Φ tg c el) xs (kill tg e) [] with _ | ⟨ds, e⟩ <;> simp
theorem sat_lcF {tg : List Nat} {c el : T} {x : D} {Q : Option D → Env → Prop} : sat (lcF Φ tg c el x e) Q ↔ opt (bindT tg x e) fun e => sat (evE Φ c e) fun y e => isB y fun b => if b = true then sat (evE Φ el e) fun d e => Q (some d) (kill tg e) else Q none (kill tg e) := by
  unfold lcF
  cases bindT tg x e with
  | none => simp
  | some e =>
    simp only [opt_some]
    rcases evE Φ c e with _ | ⟨y, e⟩
    · simp
    · simp only [sat_some]
      cases y <;> simp only [isB, sat_none]
      rename_i b
      cases b
      · simp
      · simp only [if_true]
        rcases evE Φ el e with _ | ⟨d, e⟩ <;> simp
/-- a comprehension that leaves the slots as they are: a map of the items -/
theorem loopC_map {f : D → Env → Option (Option D × Env)} {g : Nat → D} {xs : List D} {acc : List D} (h : ∀ i x, xs[i]? = some x → f x e = some (some (g i), e)) : loopC f xs e acc = some (acc ++ (List.range xs.length).map g, e) := by
  induction xs generalizing acc g with
  | nil => simp [loopC]
  | cons x xs ih =>
    rw [loopC, h 0 x rfl]
    simp only
    rw [ih (g := fun i => g (i + 1)) (fun i y hy => h (i + 1) y (by simpa using hy))]
    congr 2
    simp [List.range_succ_eq_map, Function.comp]
theorem loopC_mapE {f : D → Env → Option (Option D × Env)} {g : D → D} {xs : List D} {acc : List D} (h : ∀ x ∈ xs, f x e = some (some (g x), e)) : loopC f xs e acc = some (acc ++ xs.map g, e) := by
  induction xs generalizing acc with
  | nil => simp [loopC]
  | cons x xs ih =>
    rw [loopC, h x List.mem_cons_self]
    simp only
    rw [ih fun y hy => h y (List.mem_cons_of_mem _ hy)]
    simp
theorem loopC_fm {f : D → Env → Option (Option D × Env)} {g : D → Option D} {xs : List D} {acc : List D} (h : ∀ x ∈ xs, f x e = some (g x, e)) : loopC f xs e acc = some (acc ++ xs.filterMap g, e) := by
  induction xs generalizing acc with
  | nil => simp [loopC]
  | cons x xs ih =>
    rw [loopC, h x List.mem_cons_self]
    cases hg : g x with
    | none =>
      simp only
      rw [ih fun y hy => h y (List.mem_cons_of_mem _ hy)]
      simp [hg]
    | some d =>
      simp only
      rw [ih fun y hy => h y (List.mem_cons_of_mem _ hy)]
      simp [hg]
/-! ### targets, kills -/
@[simp] theorem bind1 {i : Nat} {d : D} : bindT [i] d e = some (e.set i (some d)) := by cases d <;> rfl
@[simp] theorem bind2 {i j : Nat} {x y : D} : bindT [i, j] (.tup [x, y]) e = some ((e.set i (some x)).set j (some y)) := rfl
@[simp] theorem bind3 {i j k : Nat} {x y z : D} : bindT [i, j, k] (.tup [x, y, z]) e = some (((e.set i (some x)).set j (some y)).set k (some z)) := rfl
@[simp] theorem kill_nil : kill [] e = e := rfl
@[simp] theorem kill_cons {i : Nat} {r : List Nat} : kill (i :: r) e = kill r (e.set i none) := rfl
/-! ### defs -/
theorem run_of {d : Df} {ds : List D} {r : D} {os : List (Option D)} (hl : ds.length = d.io.length) (h : sat (evS Φ d.body (ds.map some ++ List.replicate (d.names - ds.length) none)) fun f e => (match f with
      | .rt x => x = r
      | .nx => D.non = r
      | _ => False) ∧ outs d.io e = os) : runDf Φ d ds = some (r, os) := by
  obtain ⟨f, e, he, h1, h2⟩ := h
  unfold runDf
  rw [if_pos hl, he]
  cases f with
  | rt x => simp only at h1 ⊢; rw [h1, h2]
  | nx => simp only at h1 ⊢; rw [h1, h2]
  | bk => exact h1.elim
  | ct => exact h1.elim
@[simp] theorem outs_nil : outs [] e = [] := rfl
@[simp] theorem outs_f {io : List Bool} {o : Option D} : outs (false :: io) (o :: e) = none :: outs io e := rfl
@[simp] theorem outs_t {io : List Bool} {o : Option D} : outs (true :: io) (o :: e) = o :: outs io e := by cases o <;> rfl
@[simp] theorem fns_run {P : Nat → Df} {n f : Nat} {ds : List D} : (fnsN P (n + 1)).run f ds = runDf (fnsN P n) (P f) ds := rfl
@[simp] theorem fl_rt {d : D} {p : Prop} : True := trivial
/-! ### stores -/
@[simp] theorem isPl_v {i : Nat} : isPl (.v i) = true := rfl
@[simp] theorem isPl_ix {a b : T} : isPl (.ix a b) = (isPl a && isP b) := rfl
@[simp] theorem setP_v {i : Nat} {f : D → Option D} {Q : Env → Prop} : opt (setP (.v i) f e) Q ↔ opt (e.at i) fun d => opt (f d) fun d => Q (e.set i (some d)) := by
  rw [setP]
  cases e.at i with
  | none => simp
  | some d =>
    simp only [opt_some]
    cases f d <;> simp
@[simp] theorem setP_ix {a b : T} {f : D → Option D} {Q : Env → Prop} : opt (setP (.ix a b) f e) Q ↔ opt (evP b e) fun y => isI y fun k => opt (setP a (setAt k f) e) Q := by
  rw [setP]
  cases evP b e with
  | none => simp
  | some y => cases y <;> simp [isI]
@[simp] theorem appD_own {x : D} {xs : List D} : appD x (.lst true xs) = if xs.length < big then some (.lst true (xs ++ [x])) else none := rfl
theorem putD_nat {x : D} {xs : List D} {k : Int} {j : Nat} (h : k = (j : Int)) (hj : j < xs.length) : putD k x (.lst true xs) = some (.lst true (xs.set j x)) := by
  subst h
  have : putD (j : Int) x (.lst true xs) = match ixN xs.length (j : Int) with
    | some j => some (.lst true (xs.set j x))
    | none => none := rfl
  rw [this, ixN_nat hj]
/-! ### int lists -/
def cell (ns : List Int) (k : Int) : Int := ns.getD k.toNat 0
theorem atI_map (ns : List Int) {k : Int} (h0 : 0 ≤ k) (h : k < ns.length) : atI (ns.map D.int) k = some (.int (cell ns k)) := by
  have hk : k.toNat < ns.length := by omega
  have e : k = ((k.toNat : Nat) : Int) := by omega
  have : atI (ns.map D.int) ((k.toNat : Nat) : Int) = some (.int (cell ns k)) := by
    unfold atI
    rw [ixN_nat (by simpa using hk)]
    simp [cell, List.getD, List.getElem?_eq_getElem hk]
  rw [← e] at this
  exact this
theorem eqv_int {i j : Int} : eqv (.int i) (.int j) = decide (i = j) := by
  show PyData.eqv (.int i) (.int j) = _
  rw [PyData.eqv]
  rfl
@[simp] theorem opt_if {α : Type} {c : Prop} [Decidable c] {a : α} {Q : α → Prop} : opt (if c then some a else none) Q ↔ c ∧ Q a := by
  by_cases h : c <;> simp [h]
@[simp] theorem opt_if' {α : Type} {c : Prop} [Decidable c] {a : α} {Q : α → Prop} : opt (if c then none else some a) Q ↔ ¬ c ∧ Q a := by
  by_cases h : c <;> simp [h]
@[simp] theorem log2_ok {n : Nat} (h : n < 2 ^ 64) : (n.log2 < 9000) = True := by
  simp only [eq_iff_iff, iff_true]
  by_cases h0 : n = 0
  · subst h0; decide
  · have := (Nat.log2_lt h0).mpr h; omega
theorem mulOk_l {a b : Int} (h : a.natAbs < 2 ^ 64) : mulOk a b := IntMulOk.of_left (intBits_le_iff.mpr h)
theorem mulOk_r {a b : Int} (h : b.natAbs < 2 ^ 64) : mulOk a b := IntMulOk.of_right (intBits_le_iff.mpr h)
section
variable {a b b' : T} {n : Nat} {i : Int} {x : Str} {o : Bop} {c c' : Cop} {k : B1} {k' : BN} {l : List Nat}
@[simp] theorem notV_0 : notV (.non) = true := by simp [notV]
@[simp] theorem notV_1 {b : Bool} : notV (.bl b) = true := by simp [notV]
@[simp] theorem notV_2 : notV (.int i) = true := by simp [notV]
@[simp] theorem notV_3 : notV (.str x) = true := by simp [notV]
@[simp] theorem notV_4 : notV (.w n) = true := by simp [notV]
@[simp] theorem notV_5 : notV (.frz a) = true := by simp [notV]
@[simp] theorem notV_6 : notV (.bin o a b) = true := by simp [notV]
@[simp] theorem notV_7 : notV (.neg a) = true := by simp [notV]
@[simp] theorem notV_8 : notV (.cmp c a b) = true := by simp [notV]
@[simp] theorem notV_9 : notV (.eq a b) = true := by simp [notV]
@[simp] theorem notV_10 : notV (.ne a b) = true := by simp [notV]
@[simp] theorem notV_11 : notV (.isN a) = true := by simp [notV]
@[simp] theorem notV_12 : notV (.nisN a) = true := by simp [notV]
@[simp] theorem notV_13 : notV (.chain c c' a b b') = true := by simp [notV]
@[simp] theorem notV_14 : notV (.and a b) = true := by simp [notV]
@[simp] theorem notV_15 : notV (.or a b) = true := by simp [notV]
@[simp] theorem notV_16 : notV (.not a) = true := by simp [notV]
@[simp] theorem notV_17 : notV (.ife a b b') = true := by simp [notV]
@[simp] theorem notV_18 : notV (.tup a) = true := by simp [notV]
@[simp] theorem notV_19 : notV (.lst a) = true := by simp [notV]
@[simp] theorem notV_20 : notV (.ix a b) = true := by simp [notV]
@[simp] theorem notV_21 : notV (.sl a b b') = true := by simp [notV]
@[simp] theorem notV_22 : notV (.call n a) = true := by simp [notV]
@[simp] theorem notV_23 : notV (.b1 k a) = true := by simp [notV]
@[simp] theorem notV_24 : notV (.bn k' a) = true := by simp [notV]
@[simp] theorem notV_25 : notV (.lc l a b b') = true := by simp [notV]
end
@[simp] theorem agIo_nil {Q : Env → Prop} : opt (agIo [] e) Q ↔ Q e := by rw [agIo]; simp
@[simp] theorem agIo_val {d : D} {r : List Ag} {Q : Env → Prop} : opt (agIo (.val d :: r) e) Q ↔ opt (agIo r e) Q := by rw [agIo]; intro i h; cases h
@[simp] theorem agIo_var {d : Nat} {r : List Ag} {Q : Env → Prop} : opt (agIo (.var d :: r) e) Q ↔ opt (agIo r e) Q := by rw [agIo]; intro i h; cases h
@[simp] theorem agIo_io {i : Nat} {r : List Ag} {Q : Env → Prop} : opt (agIo (.io i :: r) e) Q ↔ opt (e.at i) fun _ => opt (agIo r (e.set i none)) Q := by
  rw [agIo]
  cases e.at i <;> simp
variable {e' : Env}
@[simp] theorem agD_nil {Q : List D → Prop} : opt (agD e e' []) Q ↔ Q [] := by rw [agD]; simp
@[simp] theorem agD_val {d : D} {r : List Ag} {Q : List D → Prop} : opt (agD e e' (.val d :: r)) Q ↔ opt (agD e e' r) fun l => Q (d.shr :: l) := by
  rw [agD]
  cases agD e e' r <;> simp
@[simp] theorem agD_var {i : Nat} {r : List Ag} {Q : List D → Prop} : opt (agD e e' (.var i :: r)) Q ↔ opt (e'.at i) fun d => opt (agD e e' r) fun l => Q (d.shr :: l) := by
  rw [agD]
  cases e'.at i with
  | none => simp
  | some d => cases agD e e' r <;> simp
@[simp] theorem agD_io {i : Nat} {r : List Ag} {Q : List D → Prop} : opt (agD e e' (.io i :: r)) Q ↔ opt (e.at i) fun d => opt (agD (e.set i none) e' r) fun l => Q (d :: l) := by
  rw [agD]
  cases e.at i with
  | none => simp
  | some d => cases agD (e.set i none) e' r <;> simp
@[simp] theorem agBack_nil {Q : Env → Prop} : opt (agBack [] [] e) Q ↔ Q e := by rw [agBack]; simp
@[simp] theorem agBack_val {d : D} {r : List Ag} {o : Option D} {os : List (Option D)} {Q : Env → Prop} : opt (agBack (.val d :: r) (o :: os) e) Q ↔ opt (agBack r os e) Q := by rw [agBack]; intro i h; cases h
@[simp] theorem agBack_var {d : Nat} {r : List Ag} {o : Option D} {os : List (Option D)} {Q : Env → Prop} : opt (agBack (.var d :: r) (o :: os) e) Q ↔ opt (agBack r os e) Q := by rw [agBack]; intro i h; cases h
@[simp] theorem agBack_io {i : Nat} {r : List Ag} {o : Option D} {os : List (Option D)} {Q : Env → Prop} : opt (agBack (.io i :: r) (o :: os) e) Q ↔ opt (agBack r os (e.set i o)) Q := by rw [agBack]
@[simp] theorem agFz_nil : agFz [] e = e := rfl
@[simp] theorem agFz_val {d : D} {r : List Ag} : agFz (.val d :: r) e = agFz r e := rfl
@[simp] theorem agFz_io {d : Nat} {r : List Ag} : agFz (.io d :: r) e = agFz r e := rfl
theorem agFz_var {i : Nat} {r : List Ag} {d : D} (h : e.at i = some d) : agFz (.var i :: r) e = agFz r (e.set i (some d.shr)) := by
  rw [agFz, h]
end Sr
namespace Sr
open PySem PySem.Spec PyProof.Rows L2
theorem atI_lit {α : Type} {xs : List α} {j : Nat} {x : α} (h : xs[j]? = some x) : atI xs (j : Int) = some x := by
  obtain ⟨hj, _⟩ := List.getElem?_eq_some_iff.mp h
  unfold atI
  rw [ixN_nat hj]; exact h
@[simp] theorem atI_0 {α : Type} {x : α} {xs : List α} : atI (x :: xs) 0 = some x := atI_lit (j := 0) rfl
@[simp] theorem atI_1 {α : Type} {x y : α} {xs : List α} : atI (x :: y :: xs) 1 = some y := atI_lit (j := 1) rfl
@[simp] theorem atI_2 {α : Type} {x y z : α} {xs : List α} : atI (x :: y :: z :: xs) 2 = some z := atI_lit (j := 2) rfl
@[simp] theorem atI_3 {α : Type} {x y z u : α} {xs : List α} : atI (x :: y :: z :: u :: xs) 3 = some u := atI_lit (j := 3) rfl
@[simp] theorem atI_4 {α : Type} {x y z u v : α} {xs : List α} : atI (x :: y :: z :: u :: v :: xs) 4 = some v := atI_lit (j := 4) rfl
@[simp] theorem atI_5 {α : Type} {x y z u v w : α} {xs : List α} : atI (x :: y :: z :: u :: v :: w :: xs) 5 = some w := atI_lit (j := 5) rfl
/-- one statement, then the others -/
theorem sat_cut {Φ : Fs} {e : Env} {R : Fl → Env → Prop} {a b : T} (I : Env → Prop) (h1 : sat (evS Φ a e) fun f e => f = .nx ∧ I e) (h2 : ∀ e, I e → sat (evS Φ b e) R) : sat (evS Φ (.seq a b) e) R := by
  rw [sat_seq]
  exact sat_mono h1 fun f e ⟨hf, hi⟩ => by subst hf; exact h2 e hi
end Sr
namespace Sr
@[simp] theorem le_big {n : Nat} (h : n ≤ 1000000) : (n ≤ big) = True := eq_true h
end Sr
set_option Elab.async false
set_option linter.all false
set_option maxRecDepth 100000
/-! # Sr: equality of data -/
namespace Sr
open PySem PySem.Spec PyProof.Rows L2
theorem range_get {n i k : Nat} (h : (List.range n)[i]? = some k) : i < n ∧ k = i := by
  obtain ⟨h1, h2⟩ := List.getElem?_eq_some_iff.mp h
  rw [List.length_range] at h1
  rw [List.getElem_range] at h2
  exact ⟨h1, h2.symm⟩
def okN (n : Nat) (d : D) : Prop := d.py.canLay0 = true ∧ d.py.depth ≤ n
def okL (n : Nat) (xs : List D) : Prop := PyData.canLayAll0 (pyL xs) = true ∧ PyData.depthAll (pyL xs) ≤ n
theorem eqOk_iff {d : D} : eqOk d = true ↔ okN 64 d := by
  unfold eqOk SeqAt.shaped okN
  simp
@[simp] theorem okN_tup {n : Nat} {xs : List D} : okN (n + 1) (.tup xs) ↔ okL n xs := by
  unfold okN okL
  rw [D.py, PyData.canLay0, PyData.depth]
  constructor <;> (rintro ⟨h1, h2⟩; exact ⟨h1, by omega⟩)
@[simp] theorem okN_lst {n : Nat} {o : Bool} {xs : List D} : okN (n + 1) (.lst o xs) ↔ okL n xs := by
  unfold okN okL
  rw [D.py, PyData.canLay0, PyData.depth]
  constructor <;> (rintro ⟨h1, h2⟩; exact ⟨h1, by omega⟩)
@[simp] theorem okN_int {n : Nat} {i : Int} : okN (n + 1) (.int i) := by unfold okN; rw [D.py]; exact ⟨rfl, by rw [PyData.depth] <;> omega⟩
@[simp] theorem okN_bl {n : Nat} {i : Bool} : okN (n + 1) (.bl i) := by unfold okN; rw [D.py]; exact ⟨rfl, by rw [PyData.depth] <;> omega⟩
@[simp] theorem okN_non {n : Nat} : okN (n + 1) .non := by unfold okN; rw [D.py]; exact ⟨rfl, by rw [PyData.depth] <;> omega⟩
@[simp] theorem okL_nil {n : Nat} : okL n [] := by unfold okL; rw [pyL]; exact ⟨rfl, by rw [PyData.depthAll] <;> omega⟩
@[simp] theorem okL_cons {n : Nat} {d : D} {xs : List D} : okL n (d :: xs) ↔ okN n d ∧ okL n xs := by
  unfold okN okL
  rw [pyL, PyData.canLayAll0, PyData.depthAll, Bool.and_eq_true]
  constructor
  · rintro ⟨⟨h1, h2⟩, h3⟩; exact ⟨⟨h1, by omega⟩, h2, by omega⟩
  · rintro ⟨⟨h1, h2⟩, h3, h4⟩; exact ⟨⟨h1, h3⟩, by omega⟩
theorem okL_iff {n : Nat} {xs : List D} : okL n xs ↔ ∀ x ∈ xs, okN n x := by
  induction xs with
  | nil => simp
  | cons a r ih => simp [ih]
@[simp] theorem okL_ints {n : Nat} {ns : List Int} : okL (n + 1) (ns.map D.int) := by
  induction ns with
  | nil => simp
  | cons a r ih => simp [ih]
@[simp] theorem okL_app {n : Nat} {xs ys : List D} : okL n (xs ++ ys) ↔ okL n xs ∧ okL n ys := by
  induction xs with
  | nil => simp
  | cons a r ih => simp [ih, and_assoc]
@[simp] theorem eqOk_tup {xs : List D} : eqOk (.tup xs) = true ↔ okL 63 xs := by rw [eqOk_iff]; exact okN_tup (n := 63)
@[simp] theorem eqOk_lst {o : Bool} {xs : List D} : eqOk (.lst o xs) = true ↔ okL 63 xs := by rw [eqOk_iff]; exact okN_lst (n := 63)
theorem eqv_self {n : Nat} {d : D} (h : okN n d) : eqv d d = true := PySem.SeqAt.eqv_refl d.py h.1
theorem eqv_selfT {n : Nat} {xs : List D} (h : okL n xs) : eqv (.tup xs) (.tup xs) = true := eqv_self (n := n + 1) (okN_tup.mpr h)
theorem eqv_selfL {n : Nat} {o o' : Bool} {xs : List D} (h : okL n xs) : eqv (.lst o xs) (.lst o' xs) = true := eqv_self (n := n + 1) (d := .lst o xs) (okN_lst.mpr h)
@[simp] theorem eqv_i {i j : Int} : eqv (.int i) (.int j) = decide (i = j) := eqv_int
@[simp] theorem eqv_b {i j : Bool} : eqv (.bl i) (.bl j) = (i == j) := by unfold eqv; rw [D.py, D.py, PyData.eqv]
@[simp] theorem eqv_nn : eqv .non .non = true := by unfold eqv; rw [D.py, PyData.eqv]
@[simp] theorem eqv_ni {i : Int} : eqv .non (.int i) = false := by unfold eqv; rw [D.py, D.py, PyData.eqv]
@[simp] theorem eqv_in {i : Int} : eqv (.int i) .non = false := by unfold eqv; rw [D.py, D.py, PyData.eqv]
@[simp] theorem eqv_t0 : eqv (.tup []) (.tup []) = true := by unfold eqv; rw [D.py, PyData.eqv, pyL, PyData.eqvAll]
@[simp] theorem eqv_t {x y : D} {xs ys : List D} : eqv (.tup (x :: xs)) (.tup (y :: ys)) = (eqv x y && eqv (.tup xs) (.tup ys)) := by
  unfold eqv; rw [D.py, D.py, PyData.eqv, pyL, pyL, PyData.eqvAll, D.py, D.py, PyData.eqv]
@[simp] theorem eqv_l0 {o o' : Bool} : eqv (.lst o []) (.lst o' []) = true := by unfold eqv; rw [D.py, D.py, PyData.eqv, pyL, PyData.eqvAll]
@[simp] theorem eqv_l {o o' : Bool} {x y : D} {xs ys : List D} : eqv (.lst o (x :: xs)) (.lst o' (y :: ys)) = (eqv x y && eqv (.lst o xs) (.lst o' ys)) := by
  unfold eqv; rw [D.py, D.py, PyData.eqv, pyL, pyL, PyData.eqvAll, D.py, D.py, PyData.eqv]
@[simp] theorem eqv_nt {xs : List D} : eqv .non (.tup xs) = false := by unfold eqv; rw [D.py, D.py, PyData.eqv]
@[simp] theorem eqv_tn {xs : List D} : eqv (.tup xs) .non = false := by unfold eqv; rw [D.py, D.py, PyData.eqv]
variable {Φ : Fs} {e : Env} {Q : D → Env → Prop}
@[simp] theorem sat_inn {a b : T} : sat (evE Φ (.inn a b) e) Q ↔ sat (rdE Φ (isP a && isP b) a e) fun x e => sat (rdE Φ (isP b) b e) fun y e => isL y fun ys => (eqOk x = true ∧ eqOk y = true) ∧ Q (.bl (inD x ys)) e := by
  rw [evE]
  show sat (match rdE Φ (isP a && isP b) a e with | some (x, e) => _ | none => none) Q ↔ _
  rcases rdE Φ (isP a && isP b) a e with _ | ⟨x, e⟩
  · simp
  · simp only [sat_some]
    show sat (match rdE Φ (isP b) b e with | some (.lst o ys, e) => _ | _ => none) Q ↔ _
    rcases rdE Φ (isP b) b e with _ | ⟨y, e⟩
    · simp
    · simp only [sat_some]
      cases y <;> simp only [isL, sat_none]
      rename_i o ys
      simp only [sat_ite, Bool.and_eq_true]
      split <;> simp_all
@[simp] theorem sat_nin {a b : T} : sat (evE Φ (.nin a b) e) Q ↔ sat (rdE Φ (isP a && isP b) a e) fun x e => sat (rdE Φ (isP b) b e) fun y e => isL y fun ys => (eqOk x = true ∧ eqOk y = true) ∧ Q (.bl (!inD x ys)) e := by
  rw [evE]
  show sat (match rdE Φ (isP a && isP b) a e with | some (x, e) => _ | none => none) Q ↔ _
  rcases rdE Φ (isP a && isP b) a e with _ | ⟨x, e⟩
  · simp
  · simp only [sat_some]
    show sat (match rdE Φ (isP b) b e with | some (.lst o ys, e) => _ | _ => none) Q ↔ _
    rcases rdE Φ (isP b) b e with _ | ⟨y, e⟩
    · simp
    · simp only [sat_some]
      cases y <;> simp only [isL, sat_none]
      rename_i o ys
      simp only [sat_ite, Bool.and_eq_true]
      split <;> simp_all
@[simp] theorem inD_nil {x : D} : inD x [] = false := rfl
@[simp] theorem inD_cons {x y : D} {ys : List D} : inD x (y :: ys) = (eqv y x || inD x ys) := rfl
@[simp] theorem binD_tcat {xs ys : List D} : binD .add (.tup xs) (.tup ys) = if (unL xs && unL ys && !xs.isEmpty && decide (xs.length + ys.length ≤ big)) = true then some (.tup (xs ++ ys)) else none := rfl
end Sr
set_option Elab.async false
set_option linter.all false
set_option maxRecDepth 100000
namespace Sr
open PySem PySem.Spec PyProof.Rows L2
/-! ### the text of the defs, as terms -/
abbrev F_value : Nat := 0
abbrev F_holds : Nat := 1
abbrev F__law_cell : Nat := 2
abbrev F__law_number : Nat := 3
abbrev F__law_claim : Nat := 4
def d_value : Df := ⟨[false, false], 4, .seq (.asg 2 (.frz (.ix (.v 0) (.int 0)))) (.seq (.for_ [3] [3] (.rng1 (.b1 .len (.v 1))) (.seq (.asg 2 (.frz (.bin .add (.v 2) (.bin .mul (.ix (.v 0) (.bin .add (.v 3) (.int 1))) (.ix (.v 1) (.v 3)))))) .pass)) (.seq (.ret (.v 2)) .pass))⟩
def d_holds : Df := ⟨[false, false], 3, .seq (.asg 2 (.frz (.call F_value (.cons (.ix (.v 0) (.int 1)) (.cons (.v 1) .nil))))) (.seq (.cond (.eq (.ix (.v 0) (.int 0)) (.str "under")) (.seq (.ret (.cmp .lt (.v 2) (.int 0))) .pass) (.pass)) (.seq (.cond (.eq (.ix (.v 0) (.int 0)) (.str "same")) (.seq (.ret (.eq (.v 2) (.int 0))) .pass) (.pass)) (.seq (.ret (.eq (.bin .mod (.v 2) (.ix (.v 0) (.int 2))) (.int 0))) .pass)))⟩
def d__law_cell : Df := ⟨[false, false], 2, .seq (.cond (.cmp .lt (.v 1) (.b1 .len (.v 0))) (.seq (.ret (.ix (.v 0) (.v 1))) .pass) (.pass)) (.seq (.ret (.int 0)) .pass)⟩
def d__law_number : Df := ⟨[false], 2, .seq (.asg 1 (.bin .mul (.bin .fdv (.v 0) (.int 5)) (.bin .pow (.int 48271) (.int 14)))) (.seq (.cond (.eq (.bin .mod (.v 0) (.int 5)) (.int 0)) (.seq (.ret (.bin .sub (.bin .mod (.v 1) (.int 13)) (.int 6))) .pass) (.pass)) (.seq (.cond (.eq (.bin .mod (.v 0) (.int 5)) (.int 1)) (.seq (.ret (.bin .sub (.bin .mod (.v 1) (.int 2001)) (.int 1000))) .pass) (.pass)) (.seq (.cond (.eq (.bin .mod (.v 0) (.int 5)) (.int 2)) (.seq (.ret (.bin .sub (.bin .mod (.v 1) (.bin .sub (.bin .mul (.int 2) (.bin .pow (.int 10) (.int 60))) (.int 1))) (.bin .sub (.bin .pow (.int 10) (.int 60)) (.int 1)))) .pass) (.pass)) (.seq (.cond (.eq (.bin .mod (.v 0) (.int 5)) (.int 3)) (.seq (.ret (.bin .sub (.bin .mod (.v 1) (.bin .add (.bin .mul (.int 2) (.bin .pow (.int 10) (.int 9))) (.int 1))) (.bin .pow (.int 10) (.int 9)))) .pass) (.pass)) (.seq (.ret (.bin .mod (.v 1) (.int 9))) .pass)))))⟩
def d__law_claim : Df := ⟨[false, false, false], 5, .seq (.asg 3 (.frz (.lst (.cons (.bin .add (.frz (.tup (.cons (.ix (.v 0) (.int 0)) (.cons (.b1 .list (.ix (.v 0) (.int 1))) .nil)))) (.sl (.v 0) (.int 2) .nil)) (.cons (.b1 .list (.v 1)) .nil))))) (.seq (.asg 4 (.call F_holds (.cons (.ix (.v 3) (.int 0)) (.cons (.ix (.v 3) (.int 1)) .nil)))) (.seq (.cond (.or (.not (.b1 .isBool (.v 4))) (.ne (.v 4) (.v 2))) (.seq (.ret (.bl false)) .pass) (.pass)) (.seq (.ret (.eq (.v 3) (.lst (.cons (.v 0) (.cons (.v 1) .nil))))) .pass)))⟩
def d_law : Df := ⟨[false], 9, .seq (.asg 1 (.bin .add (.int 1) (.bin .mod (.call F__law_cell (.cons (.v 0) (.cons (.int 0) .nil))) (.int 4)))) (.seq (.asg 2 (.bin .add (.int 1) (.b1 .abs (.call F__law_number (.cons (.call F__law_cell (.cons (.v 0) (.cons (.int 1) .nil))) .nil))))) (.seq (.for_ [3] [3, 4, 5, 6, 7] (.rng3 (.int 3) (.bn .max2 (.cons (.int 4) (.cons (.bn .min2 (.cons (.b1 .len (.v 0)) (.cons (.int 60) .nil))) .nil))) 9) (.seq (.asg 4 (.frz (.lc [8] (.rng1 (.v 1)) (.bl true) (.call F__law_number (.cons (.call F__law_cell (.cons (.v 0) (.cons (.bin .add (.v 3) (.bin .mul (.int 2) (.v 8))) .nil))) .nil))))) (.seq (.asg 5 (.bin .add (.lst (.cons (.int 0) .nil)) (.lc [8] (.rng1 (.v 1)) (.bl true) (.call F__law_number (.cons (.call F__law_cell (.cons (.v 0) (.cons (.bin .add (.bin .add (.v 3) (.int 1)) (.bin .mul (.int 2) (.v 8))) .nil))) .nil))))) (.seq (.asg 6 (.call F__law_number (.cons (.call F__law_cell (.cons (.v 0) (.cons (.bin .add (.v 3) (.int 8)) .nil))) .nil))) (.seq (.asg 7 (.frz (.ix (.lst (.cons (.neg (.int 1)) (.cons (.int 0) (.cons (.int 1) (.cons (.v 2) (.cons (.bin .sub (.int 0) (.v 2)) (.cons (.bin .mul (.v 6) (.v 2)) (.cons (.bin .add (.bin .mul (.v 6) (.v 2)) (.int 1)) (.cons (.v 6) .nil))))))))) (.bin .mod (.bin .add (.call F__law_cell (.cons (.v 0) (.cons (.int 2) .nil))) (.v 3)) (.int 8))))) (.seq (.for_ [8] [] (.rng1 (.v 1)) (.seq (.st (.v 5) (.int 0) (.bin .sub (.ix (.v 5) (.int 0)) (.bin .mul (.ix (.v 5) (.bin .add (.v 8) (.int 1))) (.ix (.v 4) (.v 8))))) .pass)) (.seq (.st (.v 5) (.int 0) (.bin .add (.ix (.v 5) (.int 0)) (.v 7))) (.seq (.cond (.or (.not (.call F__law_claim (.cons (.tup (.cons (.str "under") (.cons (.w 5) .nil))) (.cons (.v 4) (.cons (.cmp .lt (.v 7) (.int 0)) .nil))))) (.not (.call F__law_claim (.cons (.tup (.cons (.str "same") (.cons (.w 5) .nil))) (.cons (.v 4) (.cons (.eq (.v 7) (.int 0)) .nil)))))) (.seq (.ret (.bl false)) .pass) (.pass)) (.seq (.cond (.or (.not (.call F__law_claim (.cons (.tup (.cons (.str "even") (.cons (.w 5) (.cons (.v 2) .nil)))) (.cons (.v 4) (.cons (.eq (.bin .mod (.v 7) (.v 2)) (.int 0)) .nil))))) (.not (.call F__law_claim (.cons (.tup (.cons (.str "even") (.cons (.v 5) (.cons (.int 1) .nil)))) (.cons (.v 4) (.cons (.bl true) .nil)))))) (.seq (.ret (.bl false)) .pass) (.pass)) .pass))))))))) (.seq (.ret (.bl true)) .pass)))⟩
def P : Nat → Df
  | 0 => d_value
  | 1 => d_holds
  | 2 => d__law_cell
  | 3 => d__law_number
  | 4 => d__law_claim
  | _ => ⟨[], 0, .pass⟩
@[simp] theorem P_value : P 0 = d_value := rfl
@[simp] theorem io_value : (d_value).io = [false, false] := rfl
@[simp] theorem P_holds : P 1 = d_holds := rfl
@[simp] theorem io_holds : (d_holds).io = [false, false] := rfl
@[simp] theorem P__law_cell : P 2 = d__law_cell := rfl
@[simp] theorem io__law_cell : (d__law_cell).io = [false, false] := rfl
@[simp] theorem P__law_number : P 3 = d__law_number := rfl
@[simp] theorem io__law_number : (d__law_number).io = [false] := rfl
@[simp] theorem P__law_claim : P 4 = d__law_claim := rfl
@[simp] theorem io__law_claim : (d__law_claim).io = [false, false, false] := rfl
def fnm : Nat → Str
  | 0 => "value"
  | 1 => "holds"
  | 2 => "_law_cell"
  | 3 => "_law_number"
  | 4 => "_law_claim"
  | _ => ""

end Sr
set_option Elab.async false
set_option linter.all false
set_option maxRecDepth 100000
set_option maxHeartbeats 4000000
namespace Sr
open PySem PySem.Spec PyProof.Rows L2
theorem run_cell (Φ : Fs) (ns : List Int) (k : Int) (h0 : 0 ≤ k) : runDf Φ d__law_cell [.lst false (ns.map D.int), .int k] = some (.int (cell ns k), [none, none]) := by
  refine run_of rfl ?_
  simp [d__law_cell]
  by_cases h : k < ns.length
  · simp [h, atI_map ns h0 h]
  · have : cell ns k = 0 := by
      unfold cell
      rw [List.getD_eq_getElem?_getD, List.getElem?_eq_none (by omega)]; rfl
    simp [h, this]
theorem fmod_lt (a : Int) {m : Int} (h : 0 < m) : 0 ≤ a.fmod m ∧ a.fmod m < m := by
  rw [Int.fmod_eq_emod_of_nonneg _ (by omega)]
  exact ⟨Int.emod_nonneg _ (by omega), Int.emod_lt_of_pos _ h⟩
def number (c : Int) : Int :=
  let wide := c.fdiv 5 * 48271 ^ 14
  if c.fmod 5 = 0 then wide.fmod 13 - 6
  else if c.fmod 5 = 1 then wide.fmod 2001 - 1000
  else if c.fmod 5 = 2 then wide.fmod (2 * 10 ^ 60 - 1) - (10 ^ 60 - 1)
  else if c.fmod 5 = 3 then wide.fmod (2 * 10 ^ 9 + 1) - 10 ^ 9
  else wide.fmod 9
theorem number_bits (c : Int) : Builtin.Int.intBits (number c) ≤ 210 := by
  rw [intBits_le_iff]
  unfold number
  have a1 := fmod_lt (c.fdiv 5 * 48271 ^ 14) (m := 13) (by decide)
  have a2 := fmod_lt (c.fdiv 5 * 48271 ^ 14) (m := 2001) (by decide)
  have a3 := fmod_lt (c.fdiv 5 * 48271 ^ 14) (m := (2 * 10 ^ 60 - 1)) (by decide)
  have a4 := fmod_lt (c.fdiv 5 * 48271 ^ 14) (m := (2 * 10 ^ 9 + 1)) (by decide)
  have a5 := fmod_lt (c.fdiv 5 * 48271 ^ 14) (m := 9) (by decide)
  simp only
  split
  · omega
  · split
    · omega
    · split
      · omega
      · split <;> omega
theorem run_number (Φ : Fs) (c : Int) (h : Builtin.Int.intBits c ≤ 2000000) : runDf Φ d__law_number [.int c] = some (.int (number c), [none]) := by
  refine run_of rfl ?_
  have hm : mulOk (c.fdiv 5) (48271 ^ 14) := IntMulOk.of_le (intBits_fdiv_le h) (n := 1000) (by decide) (by decide)
  have h1 : mulOk 2 (10 ^ 60) := mulOk_l (by decide)
  have h2 : mulOk 2 (10 ^ 9) := mulOk_l (by decide)
  simp at hm h1 h2
  simp [d__law_number, eqv_int, hm, h1, h2]
  unfold number
  by_cases c0 : c.fmod 5 = 0
  · simp [c0]
  by_cases c1 : c.fmod 5 = 1
  · simp [c0, c1]
  by_cases c2 : c.fmod 5 = 2
  · simp [c0, c1, c2]
  by_cases c3 : c.fmod 5 = 3
  · simp [c0, c1, c2, c3]
  simp [c0, c1, c2, c3]
theorem cell_bits {ns : List Int} (hb : ∀ z ∈ ns, Builtin.Int.intBits z ≤ 1048576) (k : Int) : Builtin.Int.intBits (cell ns k) ≤ 1048576 := by
  unfold cell
  rw [List.getD_eq_getElem?_getD]
  cases h : ns[k.toNat]? with
  | none => simp; decide
  | some z => exact hb z (List.mem_of_getElem? h)
theorem abs_eq (a : Int) : (if a < 0 then -a else a) = (a.natAbs : Int) := by split <;> omega
theorem eq_of_sat {α : Type} {o : Option (α × Env)} {a : α} {e : Env} (h : sat o fun a' e' => a' = a ∧ e' = e) : o = some (a, e) := by
  obtain ⟨_, _, h, rfl, rfl⟩ := h
  exact h
theorem range_map_succ {α : Type} {f : Nat → α} {i : Nat} : (List.range (i + 1)).map f = (List.range i).map f ++ [f i] := by simp [List.range_succ]
theorem putD_at {i : Nat} {x : D} {xs : List D} (h : i < xs.length) : putD (i : Int) x (.lst true xs) = some (.lst true (xs.set i x)) := putD_nat rfl h
def rmod (m r : Int) : Int := if m = 0 then r else r.fmod m
theorem dvd_fmod (m x : Int) : m ∣ x - x.fmod m := ⟨x.fdiv m, by have := Int.fmod_def x m; omega⟩
theorem dvd_rmod (m r : Int) : m ∣ r - rmod m r := by
  unfold rmod
  split
  · simp
  · exact dvd_fmod m r
/-- a number lies in (m, r) -/
def rhas (m r x : Int) : Bool := decide (m ∣ x - r)
theorem rhas_rmod (m r x : Int) : rhas m (rmod m r) x = rhas m r x := by
  unfold rhas
  have h := dvd_rmod m r
  congr 1
  apply propext
  constructor
  · intro q
    have := Int.dvd_sub q h
    have e : x - rmod m r - (r - rmod m r) = x - r := by omega
    rwa [e] at this
  · intro q
    have := Int.dvd_add q h
    have e : x - r + (r - rmod m r) = x - rmod m r := by omega
    rwa [e] at this
theorem fmod0 {a b : Int} : a.fmod b = 0 ↔ b ∣ a := ⟨Int.dvd_of_fmod_eq_zero, Int.fmod_eq_zero_of_dvd⟩
def dO : Option Int → D
  | none => .non
  | some i => .int i
@[simp] theorem dO_un {o : Option Int} : (dO o).un = true := by cases o <;> rfl
@[simp] theorem dO_shr {o : Option Int} : (dO o).shr = dO o := by cases o <;> rfl
@[simp] theorem dO_ns {o : Option Int} : (dO o).ns = true := by cases o <;> rfl
@[simp] theorem dO_ok {n : Nat} {o : Option Int} : okN (n + 1) (dO o) := by cases o <;> simp [dO]
@[simp] theorem dO_none : dO none = .non := rfl
@[simp] theorem dO_some {i : Int} : dO (some i) = .int i := rfl
def dP (p : Int × Int) : D := .tup [.int p.1, .int p.2]
@[simp] theorem dP_un {p : Int × Int} : (dP p).un = true := by simp [dP]
@[simp] theorem dP_shr {p : Int × Int} : (dP p).shr = dP p := by simp [dP]
@[simp] theorem dP_ns {p : Int × Int} : (dP p).ns = true := by simp [dP]
@[simp] theorem dP_ok {n : Nat} {p : Int × Int} : okN (n + 2) (dP p) := by simp [dP]
theorem unL_iff {xs : List D} : unL xs = true ↔ ∀ x ∈ xs, x.un = true := by
  induction xs with
  | nil => simp
  | cons a r ih => simp [ih]
theorem nsL_iff {xs : List D} : nsL xs = true ↔ ∀ x ∈ xs, x.ns = true := by
  induction xs with
  | nil => simp
  | cons a r ih => simp [ih]
theorem shrL_map {α : Type} {g : α → D} {l : List α} : shrL (l.map g) = l.map fun x => (g x).shr := by
  induction l with
  | nil => rfl
  | cons a r ih => simp [ih]
theorem okL_map {α : Type} {g : α → D} {l : List α} {n : Nat} (h : ∀ x ∈ l, okN n (g x)) : okL n (l.map g) := by
  rw [okL_iff]
  intro x hx
  obtain ⟨a, ha, rfl⟩ := List.mem_map.mp hx
  exact h a ha
def rowD (o : Bool) (r : List (Option Int)) : D := .lst o (r.map dO)
@[simp] theorem row_unL {r : List (Option Int)} : unL (r.map dO) = true := by rw [unL_iff]; intro x hx; obtain ⟨a, _, rfl⟩ := List.mem_map.mp hx; simp
@[simp] theorem row_nsL {r : List (Option Int)} : nsL (r.map dO) = true := by rw [nsL_iff]; intro x hx; obtain ⟨a, _, rfl⟩ := List.mem_map.mp hx; simp
@[simp] theorem row_shrL {r : List (Option Int)} : shrL (r.map dO) = r.map dO := by rw [shrL_map]; simp
@[simp] theorem row_okL {n : Nat} {r : List (Option Int)} : okL (n + 1) (r.map dO) := okL_map fun x _ => by simp
@[simp] theorem rests_unL {r : List (Int × Int)} : unL (r.map dP) = true := by rw [unL_iff]; intro x hx; obtain ⟨a, _, rfl⟩ := List.mem_map.mp hx; simp
@[simp] theorem rests_nsL {r : List (Int × Int)} : nsL (r.map dP) = true := by rw [nsL_iff]; intro x hx; obtain ⟨a, _, rfl⟩ := List.mem_map.mp hx; simp
@[simp] theorem rests_shrL {r : List (Int × Int)} : shrL (r.map dP) = r.map dP := by rw [shrL_map]; simp
@[simp] theorem rests_okL {n : Nat} {r : List (Int × Int)} : okL (n + 2) (r.map dP) := okL_map fun x _ => by simp
@[simp] theorem rowD_un {r : List (Option Int)} : (rowD false r).un = true := by simp [rowD]
@[simp] theorem rowD_ns {r : List (Option Int)} : (rowD true r).ns = true := by simp [rowD]
@[simp] theorem rowD_shr {o : Bool} {r : List (Option Int)} : (rowD o r).shr = rowD false r := by simp [rowD]
@[simp] theorem rowD_ok {n : Nat} {o : Bool} {r : List (Option Int)} : okN (n + 2) (rowD o r) := by simp [rowD]
@[simp] theorem rows_unL {B : List (List (Option Int))} : unL (B.map (rowD false)) = true := by rw [unL_iff]; intro x hx; obtain ⟨a, _, rfl⟩ := List.mem_map.mp hx; simp
@[simp] theorem rows_nsL {B : List (List (Option Int))} : nsL (B.map (rowD true)) = true := by rw [nsL_iff]; intro x hx; obtain ⟨a, _, rfl⟩ := List.mem_map.mp hx; simp
@[simp] theorem rows_shrL {o : Bool} {B : List (List (Option Int))} : shrL (B.map (rowD o)) = B.map (rowD false) := by rw [shrL_map]; simp
@[simp] theorem rows_okL {n : Nat} {o : Bool} {B : List (List (Option Int))} : okL (n + 2) (B.map (rowD o)) := okL_map fun x _ => by simp
@[simp] theorem atD_row {o : Bool} {r : List (Option Int)} {k : Int} : atD (rowD o r) k = atI (r.map dO) k := rfl
@[simp] theorem atD_dP0 {p : Int × Int} : atD (dP p) 0 = some (.int p.1) := by simp [dP]
@[simp] theorem atD_dP1 {p : Int × Int} : atD (dP p) 1 = some (.int p.2) := by simp [dP]
@[simp] theorem items_row {o : Bool} {r : List (Option Int)} : items (rowD o r) = some (r.map dO) := rfl
@[simp] theorem lenD_row {o : Bool} {r : List (Option Int)} : lenD (rowD o r) = some (.int r.length) := by simp [rowD]
def toldD (o : Bool) (B : List (List (Option Int))) (R : List (Int × Int)) : D := .tup [.lst o (B.map (rowD o)), .lst o (R.map dP)]
theorem atI_get {α : Type} {g : α → D} {l : List α} {i : Nat} {x : α} (h : l[i]? = some x) : atI (l.map g) (i : Int) = some (g x) := atI_lit (by rw [List.getElem?_map, h]; rfl)
/-- the i-th of nought and the boxes -/
def full (b : List Int) (i : Nat) : Int := (0 :: b).getD i 0
theorem full_at {b : List Int} {i : Nat} (h : i ≤ b.length) : atI (D.int 0 :: b.map D.int) (i : Int) = some (.int (full b i)) := by
  refine atI_lit ?_
  have e : (D.int 0 :: b.map D.int) = (0 :: b).map D.int := rfl
  rw [e, List.getElem?_map]
  unfold full
  rw [List.getD_eq_getElem?_getD, List.getElem?_eq_getElem (by simp; omega)]
  rfl
def bnd (B : List (List (Option Int))) (i j : Nat) : Option Int := (B.getD i []).getD j none
/-- the shape of what is told of n boxes -/
structure Shp (n : Nat) (B : List (List (Option Int))) (R : List (Int × Int)) : Prop where
  b : B.length = n + 1
  r : ∀ r ∈ B, r.length = n + 1
  s : R.length = n
  m : ∀ p ∈ R, 0 ≤ p.1
theorem Shp.row {n : Nat} {B : List (List (Option Int))} {R : List (Int × Int)} (s : Shp n B R) {i : Nat} (h : i ≤ n) : ∃ r, B[i]? = some r ∧ r.length = n + 1 ∧ ∀ j, j ≤ n → r[j]? = some (bnd B i j) := by
  have hi : i < B.length := by rw [s.b]; omega
  refine ⟨B[i], List.getElem?_eq_getElem hi, s.r _ (List.getElem_mem _), fun j hj => ?_⟩
  have hr := s.r _ (List.getElem_mem hi)
  have e1 : B.getD i [] = B[i] := by rw [List.getD_eq_getElem?_getD, List.getElem?_eq_getElem hi]; rfl
  have e2 : bnd B i j = B[i].getD j none := by unfold bnd; rw [e1]
  rw [e2, List.getD_eq_getElem?_getD, List.getElem?_eq_getElem (by omega)]
  rfl
/-- the boxes lie in what is told -/
def Lies (B : List (List (Option Int))) (R : List (Int × Int)) (b : List Int) : Prop := (∀ (i j : Nat) (t : Int), i ≤ b.length → j ≤ b.length → bnd B i j = some t → full b i - full b j ≤ t) ∧ ∀ (k : Nat) (p : Int × Int) (x : Int), R[k]? = some p → b[k]? = some x → p.1 ∣ x - p.2
noncomputable def liesB (B : List (List (Option Int))) (R : List (Int × Int)) (b : List Int) : Bool := @decide (Lies B R b) (Classical.propDecidable _)
theorem lies_t {B : List (List (Option Int))} {R : List (Int × Int)} {b : List Int} (h : Lies B R b) : liesB B R b = true := by unfold liesB; simp [h]
theorem lies_f {B : List (List (Option Int))} {R : List (Int × Int)} {b : List Int} (h : ¬ Lies B R b) : liesB B R b = false := by unfold liesB; simp [h]
abbrev bits (x : Int) : Nat := Builtin.Int.intBits x
theorem log2_bits {x : Int} (h : bits x ≤ 8000) : x.natAbs.log2 < 9000 := by
  have h1 := intBits_le_iff.mp h
  by_cases h0 : x.natAbs = 0
  · rw [h0]; decide
  · have := (Nat.log2_lt h0).mpr h1; omega
theorem bits_abs {x : Int} {m : Nat} (h : bits x ≤ m) : bits (x.natAbs : Int) ≤ m := intBits_natAbs_le h
theorem bits_gcd {x y : Int} {m : Nat} (h : bits y ≤ m) (h0 : y ≠ 0) : bits (Int.gcd x y : Int) ≤ m := by
  rw [intBits_le_iff] at h ⊢
  have := Nat.le_of_dvd (by omega) (Int.gcd_dvd_natAbs_right x y)
  omega
theorem bits_le {x : Int} {m n : Nat} (h : bits x ≤ m) (l : m ≤ n) : bits x ≤ n := Nat.le_trans h l
theorem bits_small {x : Int} {m : Nat} (h : x.natAbs < 2 ^ m) : bits x ≤ m := intBits_le_iff.mpr h
theorem cellI {o : List Int} {i : Nat} (h : i < o.length) : atI (o.map D.int) (i : Int) = some (.int (o.getD i 0)) := by
  refine atI_lit ?_
  rw [List.getElem?_map, List.getD_eq_getElem?_getD, List.getElem?_eq_getElem h]; rfl
def valS (o b : List Int) (m : Nat) : Int := (List.range m).foldl (fun acc i => acc + o.getD (i + 1) 0 * b.getD i 0) (o.getD 0 0)
theorem valS_succ (o b : List Int) (m : Nat) : valS o b (m + 1) = valS o b m + o.getD (m + 1) 0 * b.getD m 0 := by
  unfold valS
  rw [List.range_succ, List.foldl_append]; rfl
theorem run_value (Φ : Fs) {o b : List Int} (h : o.length = b.length + 1) (hl : b.length ≤ 1000) (hm : ∀ i, i < b.length → mulOk (o.getD (i + 1) 0) (b.getD i 0)) : runDf Φ d_value [.lst false (o.map D.int), .lst false (b.map D.int)] = some (.int (valS o b b.length), [none, none]) := by
  refine run_of rfl ?_
  have hbig : big = 1000000 := rfl
  have a0 := cellI (o := o) (i := 0) (by omega)
  simp at a0
  simp [d_value, a0]
  refine ⟨by omega, ?_⟩
  refine sat_forI (fun i e => e = [some (.lst false (o.map D.int)), some (.lst false (b.map D.int)), some (.int (valS o b i)), none]) (by simp [valS]) ?_ ?_
  · rintro i x e hx rfl
    simp at hx
    obtain ⟨i0, hi0, rfl⟩ := hx
    obtain ⟨hi, rfl⟩ := range_get hi0
    have a1 := cellI (o := o) (i := i0 + 1) (by omega)
    have a2 := cellI (o := b) (i := i0) hi
    have m1 := hm i0 hi
    simp only [Int.natCast_add, Int.natCast_one] at a1
    simp at a1 a2 m1
    simp [a1, a2, m1, valS_succ]
  · rintro e rfl
    simp
end Sr
set_option Elab.async false
set_option linter.all false
set_option maxRecDepth 100000
set_option maxHeartbeats 4000000
namespace Sr
open PySem PySem.Spec PyProof.Rows L2
theorem eqv_str {x y : Str} : eqv (.str x) (.str y) = (x == y) := by unfold eqv; rw [D.py, D.py, PyData.eqv]
def sU : Str := "under"
def sS : Str := "same"
def sE : Str := "even"
theorem okU : eqOk (.str sU) = true := by decide +kernel
theorem okS : eqOk (.str sS) = true := by decide +kernel
theorem okE : eqOk (.str sE) = true := by decide +kernel
theorem nUU : (sU == sU) = true := by decide +kernel
theorem nSU : (sS == sU) = false := by decide +kernel
theorem nSS : (sS == sS) = true := by decide +kernel
theorem nEU : (sE == sU) = false := by decide +kernel
theorem nES : (sE == sS) = false := by decide +kernel
section
variable {n : Nat} {o b : List Int} (h : o.length = b.length + 1) (hl : b.length ≤ 1000) (hm : ∀ i, i < b.length → mulOk (o.getD (i + 1) 0) (b.getD i 0))
include h hl hm
theorem holds_u : runDf (fnsN P (n + 1)) d_holds [.tup [.str sU, .lst false (o.map D.int)], .lst false (b.map D.int)] = some (.bl (decide (valS o b b.length < 0)), [none, none]) := by
  refine run_of rfl ?_
  have hv := fun Φ => run_value Φ h hl hm
  have e1 : (T.str "under") = T.str sU := rfl
  simp only [d_holds, e1]
  simp [hv, okU, eqv_str, nUU]
theorem holds_s : runDf (fnsN P (n + 1)) d_holds [.tup [.str sS, .lst false (o.map D.int)], .lst false (b.map D.int)] = some (.bl (decide (valS o b b.length = 0)), [none, none]) := by
  refine run_of rfl ?_
  have hv := fun Φ => run_value Φ h hl hm
  have e1 : (T.str "under") = T.str sU := rfl
  have e2 : (T.str "same") = T.str sS := rfl
  simp only [d_holds, e1, e2]
  simp [hv, okU, okS, eqv_str, nSU, nSS]
theorem holds_e (d : Int) (hd : d ≠ 0) : runDf (fnsN P (n + 1)) d_holds [.tup [.str sE, .lst false (o.map D.int), .int d], .lst false (b.map D.int)] = some (.bl (decide ((valS o b b.length).fmod d = 0)), [none, none]) := by
  refine run_of rfl ?_
  have hv := fun Φ => run_value Φ h hl hm
  have e1 : (T.str "under") = T.str sU := rfl
  have e2 : (T.str "same") = T.str sS := rfl
  simp only [d_holds, e1, e2]
  simp [hv, okU, okS, okE, eqv_str, nEU, nES, hd]
theorem okNs : okN 40 (.str sU) ∧ okN 40 (.str sS) ∧ okN 40 (.str sE) := ⟨⟨by decide +kernel, by decide +kernel⟩, ⟨by decide +kernel, by decide +kernel⟩, ⟨by decide +kernel, by decide +kernel⟩⟩
end
end Sr
set_option Elab.async false
set_option linter.all false
set_option maxRecDepth 100000
set_option maxHeartbeats 4000000
namespace Sr
open PySem PySem.Spec PyProof.Rows L2
theorem okN_str {n : Nat} {x : Str} (h : eqOk (.str x) = true) : okN n (.str x) := ⟨(eqOk_iff.mp h).1, Nat.zero_le _⟩
theorem slT {xs : List D} {l h : Option Int} : slD (.tup xs) l h = if unL xs ∧ ¬ (HT.sIx xs.length 0 l = 0 ∧ HT.sIx xs.length xs.length h = xs.length) then some (.tup (cutD xs l h)) else none := rfl
section
variable {n : Nat} {o b : List Int} (h : o.length = b.length + 1) (hl : b.length ≤ 1000) (hm : ∀ i, i < b.length → mulOk (o.getD (i + 1) 0) (b.getD i 0))
include h hl hm
theorem claim_u : runDf (fnsN P (n + 2)) d__law_claim [.tup [.str sU, .lst false (o.map D.int)], .lst false (b.map D.int), .bl (decide (valS o b b.length < 0))] = some (.bl true, [none, none, none]) := by
  refine run_of rfl ?_
  have hv := holds_u (n := n) h hl hm
  have q1 := eqv_selfL (n := 10) (o := false) (o' := false) (xs := o.map D.int) (by simp)
  have q2 := eqv_selfL (n := 10) (o := false) (o' := false) (xs := b.map D.int) (by simp)
  simp [d__law_claim, slT, HT.sIx, cutD, hv, okN_str okU, eqv_str, nUU, q1, q2]
theorem claim_s : runDf (fnsN P (n + 2)) d__law_claim [.tup [.str sS, .lst false (o.map D.int)], .lst false (b.map D.int), .bl (decide (valS o b b.length = 0))] = some (.bl true, [none, none, none]) := by
  refine run_of rfl ?_
  have hv := holds_s (n := n) h hl hm
  have q1 := eqv_selfL (n := 10) (o := false) (o' := false) (xs := o.map D.int) (by simp)
  have q2 := eqv_selfL (n := 10) (o := false) (o' := false) (xs := b.map D.int) (by simp)
  simp [d__law_claim, slT, HT.sIx, cutD, hv, okN_str okS, eqv_str, nSS, q1, q2]
theorem claim_e (d : Int) (hd : d ≠ 0) : runDf (fnsN P (n + 2)) d__law_claim [.tup [.str sE, .lst false (o.map D.int), .int d], .lst false (b.map D.int), .bl (decide ((valS o b b.length).fmod d = 0))] = some (.bl true, [none, none, none]) := by
  refine run_of rfl ?_
  have hv := holds_e (n := n) h hl hm d hd
  have q1 := eqv_selfL (n := 10) (o := false) (o' := false) (xs := o.map D.int) (by simp)
  have q2 := eqv_selfL (n := 10) (o := false) (o' := false) (xs := b.map D.int) (by simp)
  have nEE : (sE == sE) = true := by decide +kernel
  simp [d__law_claim, slT, HT.sIx, cutD, hv, okN_str okE, eqv_str, nEE, q1, q2]
end
end Sr
set_option Elab.async false
set_option linter.all false
set_option maxRecDepth 100000
set_option maxHeartbeats 4000000
namespace Sr
open PySem PySem.Spec PyProof.Rows L2
theorem putD_0 {x y : D} {ys : List D} : putD 0 x (.lst true (y :: ys)) = some (.lst true (x :: ys)) := putD_nat (j := 0) rfl (by simp)
theorem valS_shift (x : Int) (tl b : List Int) : ∀ m, valS (x :: tl) b m = x + valS (0 :: tl) b m
  | 0 => by simp [valS]
  | m + 1 => by
    rw [valS_succ, valS_succ, valS_shift x tl b m]
    have : (x :: tl).getD (m + 1) 0 = (0 :: tl).getD (m + 1) 0 := rfl
    rw [this]; omega
theorem bits_num (c : Int) : bits (number c) ≤ 210 := number_bits c
theorem lawRun : ∀ ns : List Int, ns.length ≤ 63 → (∀ z ∈ ns, Builtin.Int.intBits z ≤ 1048576) → ∃ os, runDf (fnsN P 6) d_law [.lst false (ns.map D.int)] = some (.bl true, os) := by
  intro ns h63 hb
  have hbig : big = 1000000 := rfl
  refine ⟨[none], run_of rfl ?_⟩
  have hn : ∀ j Φ, runDf Φ d__law_number [.int (cell ns j)] = some (.int (number (cell ns j)), [none]) := fun j Φ => run_number Φ _ (Nat.le_trans (cell_bits hb j) (by decide))
  have k0 := fun Φ => run_cell Φ ns 0 (by decide)
  have k1 := fun Φ => run_cell Φ ns 1 (by decide)
  have k2 := fun Φ => run_cell Φ ns 2 (by decide)
  have g0 := fmod_lt (cell ns 0) (m := 4) (by decide)
  obtain ⟨nn, hnn⟩ : ∃ nn : Nat, 1 + (cell ns 0).fmod 4 = (nn : Int) := ⟨(1 + (cell ns 0).fmod 4).toNat, by omega⟩
  have hn4 : nn ≤ 4 := by omega
  obtain ⟨d, hd⟩ : ∃ d : Int, d = 1 + ((number (cell ns 1)).natAbs : Int) := ⟨_, rfl⟩
  have hd0 : d ≠ 0 := by omega
  have bd : bits d ≤ 220 := by rw [hd]; exact bits_le (intBits_add_le (m := 1) (by decide) (bits_abs (bits_num _))) (by decide)
  simp [d_law, k0, k1, hn, abs_eq, hnn, ← hd]
  refine ⟨?_, ?_⟩
  · rw [hbig]; omega
  refine sat_forI (fun i e => ∃ x, e = [some (.lst false (ns.map D.int)), some (.int (nn : Int)), some (.int d), none, none, none, none, none, x]) ⟨_, rfl⟩ ?_ ?_
  · rintro i x e hx ⟨x8, rfl⟩
    simp at hx
    obtain ⟨k, hk, rfl⟩ := hx
    obtain ⟨at0, hat⟩ : ∃ a : Int, a = 3 + (k : Int) * 9 := ⟨_, rfl⟩
    have at1 : 0 ≤ at0 := by omega
    rw [← hat]
    simp only [bind1, opt_some]
    let b : List Int := (List.range nn).map fun (t : Nat) => number (cell ns (at0 + 2 * (t : Int)))
    let tl : List Int := (List.range nn).map fun (t : Nat) => number (cell ns (at0 + 1 + 2 * (t : Int)))
    have hbl : b.length = nn := by simp [b]
    have htl : tl.length = nn := by simp [tl]
    have gb : ∀ t, t < nn → ∃ c, b.getD t 0 = number c := fun t ht => ⟨_, by simp only [b]; rw [List.getD_eq_getElem?_getD, List.getElem?_map, List.getElem?_range ht]; rfl⟩
    have gt : ∀ t, t < nn → ∃ c, tl.getD t 0 = number c := fun t ht => ⟨_, by simp only [tl]; rw [List.getD_eq_getElem?_getD, List.getElem?_map, List.getElem?_range ht]; rfl⟩
    have mo : ∀ t, t < nn → mulOk (tl.getD t 0) (b.getD t 0) := fun t ht => by
      obtain ⟨c, hc⟩ := gb t ht
      obtain ⟨c', hc'⟩ := gt t ht
      rw [hc, hc']
      exact IntMulOk.of_le (number_bits _) (number_bits _) (by decide)
    -- boxes
    refine sat_cut (fun e => e = [some (.lst false (ns.map D.int)), some (.int (nn : Int)), some (.int d), some (.int at0), some (.lst false (b.map D.int)), none, none, none, none]) ?_ ?_
    · simp
      rw [sat_lc]
      simp
      refine ⟨by omega, ?_⟩
      rw [loopC_map (g := fun (t : Nat) => D.int (number (cell ns (at0 + 2 * (t : Int))))) (by
        intro i x hx
        simp at hx
        obtain ⟨i0, hi0, rfl⟩ := hx
        obtain ⟨hi, rfl⟩ := range_get hi0
        have m1 : mulOk 2 (i0 : Int) := mulOk_l (by decide)
        have kc := fun Φ => run_cell Φ ns (at0 + 2 * (i0 : Int)) (by omega)
        apply eq_of_sat
        rw [sat_lcF]
        simp [m1, kc, hn])]
      simp [b, shrL_map, Function.comp]
    rintro e rfl
    refine sat_cut (fun e => e = [some (.lst false (ns.map D.int)), some (.int (nn : Int)), some (.int d), some (.int at0), some (.lst false (b.map D.int)), some (.lst true (D.int 0 :: tl.map D.int)), none, none, none]) ?_ ?_
    · simp
      rw [sat_lc]
      simp
      refine ⟨by omega, ?_⟩
      rw [loopC_map (g := fun (t : Nat) => D.int (number (cell ns (at0 + 1 + 2 * (t : Int))))) (by
        intro i x hx
        simp at hx
        obtain ⟨i0, hi0, rfl⟩ := hx
        obtain ⟨hi, rfl⟩ := range_get hi0
        have m1 : mulOk 2 (i0 : Int) := mulOk_l (by decide)
        have kc := fun Φ => run_cell Φ ns (at0 + 1 + 2 * (i0 : Int)) (by omega)
        apply eq_of_sat
        rw [sat_lcF]
        simp [m1, kc, hn])]
      have e1 : (List.range nn).map (fun (t : Nat) => D.int (number (cell ns (at0 + 1 + 2 * (t : Int))))) = tl.map D.int := by simp [tl]
      have hbb : 1 + tl.length ≤ big := by omega
      simp [e1, hbb]
    rintro e rfl
    refine sat_cut (fun e => ∃ far : Int, bits far ≤ 210 ∧ e = [some (.lst false (ns.map D.int)), some (.int (nn : Int)), some (.int d), some (.int at0), some (.lst false (b.map D.int)), some (.lst true (D.int 0 :: tl.map D.int)), some (.int far), none, none]) ?_ ?_
    · have kc := fun Φ => run_cell Φ ns (at0 + 8) (by omega)
      simp [kc, hn]
      exact bits_num _
    rintro e ⟨far, bf, rfl⟩
    refine sat_cut (fun e => ∃ due : Int, e = [some (.lst false (ns.map D.int)), some (.int (nn : Int)), some (.int d), some (.int at0), some (.lst false (b.map D.int)), some (.lst true (D.int 0 :: tl.map D.int)), some (.int far), some (.int due), none]) ?_ ?_
    · have m1 : mulOk far d := IntMulOk.of_le bf bd (by decide)
      have gw := fmod_lt (cell ns 2 + at0) (m := 8) (by decide)
      obtain ⟨y, hy⟩ : ∃ y, atI [D.int (-1), D.int 0, D.int 1, D.int d, D.int (-d), D.int (far * d), D.int (far * d + 1), D.int far] ((cell ns 2 + at0).fmod 8) = some (.int y) := by
        generalize (cell ns 2 + at0).fmod 8 = w at gw ⊢
        have : w = 0 ∨ w = 1 ∨ w = 2 ∨ w = 3 ∨ w = 4 ∨ w = 5 ∨ w = ((6 : Nat) : Int) ∨ w = ((7 : Nat) : Int) := by omega
        rcases this with rfl | rfl | rfl | rfl | rfl | rfl | rfl | rfl
        · exact ⟨_, atI_0⟩
        · exact ⟨_, atI_1⟩
        · exact ⟨_, atI_2⟩
        · exact ⟨_, atI_3⟩
        · exact ⟨_, atI_4⟩
        · exact ⟨_, atI_5⟩
        · exact ⟨_, atI_lit rfl⟩
        · exact ⟨_, atI_lit rfl⟩
      simp [k2, m1, hy]
    rintro e ⟨due, rfl⟩
    refine sat_cut (fun e => ∃ x8, e = [some (.lst false (ns.map D.int)), some (.int (nn : Int)), some (.int d), some (.int at0), some (.lst false (b.map D.int)), some (.lst true (D.int (-(valS (0 :: tl) b nn)) :: tl.map D.int)), some (.int far), some (.int due), x8]) ?_ ?_
    · simp
      refine ⟨by omega, ?_⟩
      refine sat_forI (fun i e => ∃ x8, e = [some (.lst false (ns.map D.int)), some (.int (nn : Int)), some (.int d), some (.int at0), some (.lst false (b.map D.int)), some (.lst true (D.int (-(valS (0 :: tl) b i)) :: tl.map D.int)), some (.int far), some (.int due), x8]) ⟨_, by simp [valS]; rfl⟩ ?_ ?_
      · rintro i x e hx ⟨x8, rfl⟩
        simp at hx
        obtain ⟨i0, hi0, rfl⟩ := hx
        obtain ⟨hi, rfl⟩ := range_get hi0
        have a1 := cellI (o := -(valS (0 :: tl) b i0) :: tl) (i := i0 + 1) (by simp; omega)
        have a2 := cellI (o := b) (i := i0) (by omega)
        have m1 := mo i0 hi
        simp only [Int.natCast_add, Int.natCast_one] at a1
        simp at a1 a2 m1
        simp [a1, a2, m1, putD_0, valS_succ]
        omega
      · rintro e ⟨x8, rfl⟩
        simp
    rintro e ⟨x8, rfl⟩
    obtain ⟨o, ho⟩ : ∃ o : List Int, o = (-(valS (0 :: tl) b nn) + due) :: tl := ⟨_, rfl⟩
    refine sat_cut (fun e => e = [some (.lst false (ns.map D.int)), some (.int (nn : Int)), some (.int d), some (.int at0), some (.lst false (b.map D.int)), some (.lst true (o.map D.int)), some (.int far), some (.int due), x8]) ?_ ?_
    · simp [putD_0, ho]
    rintro e rfl
    have hol : o.length = b.length + 1 := by rw [ho]; simp [htl, hbl]
    have hV : valS o b b.length = due := by rw [ho, valS_shift, hbl]; omega
    have hmo : ∀ i, i < b.length → mulOk (o.getD (i + 1) 0) (b.getD i 0) := fun i hi => by rw [ho]; exact mo i (by omega)
    have c1 := fun n => claim_u (n := n) hol (by omega) hmo
    have c2 := fun n => claim_s (n := n) hol (by omega) hmo
    have c3 := fun n => claim_e (n := n) hol (by omega) hmo d hd0
    have c4 := fun n => claim_e (n := n) hol (by omega) hmo 1 (by decide)
    rw [hV] at c1 c2 c3 c4
    have z1 : decide (due.fmod 1 = 0) = true := by simp
    rw [z1] at c4
    have e1 : (T.str "under") = T.str sU := rfl
    have e2 : (T.str "same") = T.str sS := rfl
    have e3 : (T.str "even") = T.str sE := rfl
    simp only [e1, e2, e3]
    simp [c1, c2, c3, c4, hd0]
  · rintro e ⟨x, rfl⟩
    simp
end Sr
set_option Elab.async false
set_option linter.all false
set_option maxRecDepth 100000
namespace Sr
open PySem PySem.Spec PyProof.Rows L2
/-! ### the text is that of the program -/
def top (i : Nat) : Stmt := PySem.Challenge.pw_seer_k11_claims.main.body.getD i (.Pass ⟨0, 0, 0, 0⟩)
abbrev s_value : Stmt := top 1
abbrev s_holds : Stmt := top 2
abbrev s__law_cell : Stmt := top 4
abbrev s__law_number : Stmt := top 5
abbrev s__law_claim : Stmt := top 6
abbrev s_law : Stmt := top 7
theorem t_value : DefT ⟨["one", "boxes", "found", "i"], fnm, 5⟩ d_value ["one", "boxes"] s_value := ⟨⟨rfl, rfl, rfl, by decide +kernel, rfl, by decide +kernel, by decide +kernel⟩, by decide +kernel, rfl, rfl⟩
theorem t_holds : DefT ⟨["claim", "boxes", "found"], fnm, 5⟩ d_holds ["claim", "boxes"] s_holds := ⟨⟨rfl, rfl, rfl, by decide +kernel, rfl, by decide +kernel, by decide +kernel⟩, by decide +kernel, rfl, rfl⟩
theorem t__law_cell : DefT ⟨["script", "k"], fnm, 5⟩ d__law_cell ["script", "k"] s__law_cell := ⟨⟨rfl, rfl, rfl, by decide +kernel, rfl, by decide +kernel, by decide +kernel⟩, by decide +kernel, rfl, rfl⟩
theorem t__law_number : DefT ⟨["cell", "wide"], fnm, 5⟩ d__law_number ["cell"] s__law_number := ⟨⟨rfl, rfl, rfl, by decide +kernel, rfl, by decide +kernel, by decide +kernel⟩, by decide +kernel, rfl, rfl⟩
theorem t__law_claim : DefT ⟨["claim", "boxes", "due", "handed", "found"], fnm, 5⟩ d__law_claim ["claim", "boxes", "due"] s__law_claim := ⟨⟨rfl, rfl, rfl, by decide +kernel, rfl, by decide +kernel, by decide +kernel⟩, by decide +kernel, rfl, rfl⟩
theorem t_law : DefT ⟨["script", "n", "d", "at", "boxes", "one", "far", "due", "k"], fnm, 5⟩ d_law ["script"] s_law := ⟨⟨rfl, rfl, rfl, by decide +kernel, rfl, by decide +kernel, by decide +kernel⟩, by decide +kernel, rfl, rfl⟩
theorem all_mk {l : PySem.W.OpenLaw} {w : World} {K : PySem.W.Frag} {h : Heap} {mg : Str → Option Value} {fa : Addr} (X : K.In h) (G : h.Ns mainGlobals mg) (hfa : mg "law" = some (.ref fa))
    {f0 f1 f2 f3 f4 f5 : Addr} {od0 an0 od1 an1 od2 an2 od3 an3 od4 an4 od5 an5 : Option Addr} {sl0 sl1 sl2 sl3 sl4 sl5 : Array (Option Value)} {oc0 kV0 dc0 pm0 cd0 ct0 oc1 kV1 dc1 pm1 cd1 ct1 oc2 kV2 dc2 pm2 cd2 ct2 oc3 kV3 dc3 pm3 cd3 ct3 oc4 kV4 dc4 pm4 cd4 ct4 oc5 kV5 dc5 pm5 cd5 ct5 : Value}
    (a0 : PySem.W.nsIn K mainGlobals "value" = some (some (.ref f0))) (l0 : K.lookup f0 = some ⟨oc0, od0, .func (PySem.W.fnOf "value" "value" (defArgs s_value) (defBody s_value) (defScope s_value) .none kV0 dc0 pm0 an0 cd0 ct0), sl0⟩) (c0 : PySem.W.codeIn K cd0 "value" = true) (k0 : PySem.W.keepIn K (.ref f0) = true)
    (a1 : PySem.W.nsIn K mainGlobals "holds" = some (some (.ref f1))) (l1 : K.lookup f1 = some ⟨oc1, od1, .func (PySem.W.fnOf "holds" "holds" (defArgs s_holds) (defBody s_holds) (defScope s_holds) .none kV1 dc1 pm1 an1 cd1 ct1), sl1⟩) (c1 : PySem.W.codeIn K cd1 "holds" = true) (k1 : PySem.W.keepIn K (.ref f1) = true)
    (a2 : PySem.W.nsIn K mainGlobals "_law_cell" = some (some (.ref f2))) (l2 : K.lookup f2 = some ⟨oc2, od2, .func (PySem.W.fnOf "_law_cell" "_law_cell" (defArgs s__law_cell) (defBody s__law_cell) (defScope s__law_cell) .none kV2 dc2 pm2 an2 cd2 ct2), sl2⟩) (c2 : PySem.W.codeIn K cd2 "_law_cell" = true) (k2 : PySem.W.keepIn K (.ref f2) = true)
    (a3 : PySem.W.nsIn K mainGlobals "_law_number" = some (some (.ref f3))) (l3 : K.lookup f3 = some ⟨oc3, od3, .func (PySem.W.fnOf "_law_number" "_law_number" (defArgs s__law_number) (defBody s__law_number) (defScope s__law_number) .none kV3 dc3 pm3 an3 cd3 ct3), sl3⟩) (c3 : PySem.W.codeIn K cd3 "_law_number" = true) (k3 : PySem.W.keepIn K (.ref f3) = true)
    (a4 : PySem.W.nsIn K mainGlobals "_law_claim" = some (some (.ref f4))) (l4 : K.lookup f4 = some ⟨oc4, od4, .func (PySem.W.fnOf "_law_claim" "_law_claim" (defArgs s__law_claim) (defBody s__law_claim) (defScope s__law_claim) .none kV4 dc4 pm4 an4 cd4 ct4), sl4⟩) (c4 : PySem.W.codeIn K cd4 "_law_claim" = true) (k4 : PySem.W.keepIn K (.ref f4) = true)
    (a5 : PySem.W.nsIn K mainGlobals "law" = some (some (.ref f5))) (l5 : K.lookup f5 = some ⟨oc5, od5, .func (PySem.W.fnOf "law" "law" (defArgs s_law) (defBody s_law) (defScope s_law) .none kV5 dc5 pm5 an5 cd5 ct5), sl5⟩) (c5 : PySem.W.codeIn K cd5 "law" = true) (k5 : PySem.W.keepIn K (.ref f5) = true)
    (z0 : PySem.W.nsIn K mainGlobals "len" = some none)
    (z1 : PySem.W.nsIn K mainGlobals "abs" = some none)
    (z2 : PySem.W.nsIn K mainGlobals "int" = some none)
    (z3 : PySem.W.nsIn K mainGlobals "list" = some none)
    (z4 : PySem.W.nsIn K mainGlobals "tuple" = some none)
    (z5 : PySem.W.nsIn K mainGlobals "sum" = some none)
    (z6 : PySem.W.nsIn K mainGlobals "min" = some none)
    (z7 : PySem.W.nsIn K mainGlobals "max" = some none)
    (z8 : PySem.W.nsIn K mainGlobals "isinstance" = some none)
    (z9 : PySem.W.nsIn K mainGlobals "sorted" = some none)
    (z10 : PySem.W.nsIn K mainGlobals "range" = some none)
    (z11 : PySem.W.nsIn K mainGlobals "zip" = some none)
    (z12 : PySem.W.nsIn K mainGlobals "bool" = some none)
    (z13 : PySem.W.nsIn K mainGlobals "str" = some none) :
    ∃ fd : FuncData, (∀ (s : Shared) (v : Value), BindsTo s fd ⟨[v], []⟩ [("script", v)]) ∧ ∀ base : Heap, K.In base → base.Ns mainGlobals mg → FnOk l.prog w K mg base CX0 (6 + 1) fa fd ["script"] (spLaw K) := by
  have e := hfa.symm.trans (PySem.W.mg_of X G a5)
  cases e
  have F0 := fun_mk (st := s_value) l0 c0 k0
  have b0 := F0.binds (ps := ["one", "boxes"]) fun _ _ _ _ _ _ us hl => match us, hl with | [_, _], _ => rfl
  have F1 := fun_mk (st := s_holds) l1 c1 k1
  have b1 := F1.binds (ps := ["claim", "boxes"]) fun _ _ _ _ _ _ us hl => match us, hl with | [_, _], _ => rfl
  have F2 := fun_mk (st := s__law_cell) l2 c2 k2
  have b2 := F2.binds (ps := ["script", "k"]) fun _ _ _ _ _ _ us hl => match us, hl with | [_, _], _ => rfl
  have F3 := fun_mk (st := s__law_number) l3 c3 k3
  have b3 := F3.binds (ps := ["cell"]) fun _ _ _ _ _ _ us hl => match us, hl with | [_], _ => rfl
  have F4 := fun_mk (st := s__law_claim) l4 c4 k4
  have b4 := F4.binds (ps := ["claim", "boxes", "due"]) fun _ _ _ _ _ _ us hl => match us, hl with | [_, _, _], _ => rfl
  have F5 := fun_mk (st := s_law) l5 c5 k5
  have bt : ∀ x ∈ bltNames, mg x = none := by
    intro x hx
    simp only [bltNames, List.mem_cons, List.not_mem_nil, or_false] at hx
    rcases hx with rfl | rfl | rfl | rfl | rfl | rfl | rfl | rfl | rfl | rfl | rfl | rfl | rfl | rfl
    · exact PySem.W.mg_none_of X G z0
    · exact PySem.W.mg_none_of X G z1
    · exact PySem.W.mg_none_of X G z2
    · exact PySem.W.mg_none_of X G z3
    · exact PySem.W.mg_none_of X G z4
    · exact PySem.W.mg_none_of X G z5
    · exact PySem.W.mg_none_of X G z6
    · exact PySem.W.mg_none_of X G z7
    · exact PySem.W.mg_none_of X G z8
    · exact PySem.W.mg_none_of X G z9
    · exact PySem.W.mg_none_of X G z10
    · exact PySem.W.mg_none_of X G z11
    · exact PySem.W.mg_none_of X G z12
    · exact PySem.W.mg_none_of X G z13
  have hall : ∀ f, f < 5 → FnAt K mg fnm 5 (P f) (fnm f) := by
    intro f hf
    match f, hf with
    | 0, _ => exact ⟨_, _, _, _, _, _, t_value, F0, PySem.W.mg_of X G a0, b0⟩
    | 1, _ => exact ⟨_, _, _, _, _, _, t_holds, F1, PySem.W.mg_of X G a1, b1⟩
    | 2, _ => exact ⟨_, _, _, _, _, _, t__law_cell, F2, PySem.W.mg_of X G a2, b2⟩
    | 3, _ => exact ⟨_, _, _, _, _, _, t__law_number, F3, PySem.W.mg_of X G a3, b3⟩
    | 4, _ => exact ⟨_, _, _, _, _, _, t__law_claim, F4, PySem.W.mg_of X G a4, b4⟩
    | n + 5, hf => omega
  exact ⟨PySem.W.fnOf "law" "law" (defArgs s_law) (defBody s_law) (defScope s_law) .none kV5 dc5 pm5 an5 cd5 ct5, fun s v => .of_eq rfl, fun base _ _ => law_ok F5 t_law rfl bt (all_fns bt hall 6) lawRun⟩
end Sr
open PySem PySem.W PyProof.Rows
set_option maxRecDepth 100000 in
set_option maxHeartbeats 0 in
theorem PySem.Challenge.cw_seer_k11_claims_holds : PySem.Challenge.rw_seer_k11_claims.Holds := by
  w_on; o_law; k_head; (case hw => w_witness2)
  k_fill
  refine Sr.walk (l := PySem.Challenge.rw_seer_k11_claims) (k := 6 + 1) (x := "script") (by decide) rfl rfl (fun w h Y => PySem.W.kIn_of Y) ?F
  case F =>
    intro w mg fa h KX G hmg
    refine' Sr.all_mk KX G hmg ?a0 ?l0 ?c0 ?k0 ?a1 ?l1 ?c1 ?k1 ?a2 ?l2 ?c2 ?k2 ?a3 ?l3 ?c3 ?k3 ?a4 ?l4 ?c4 ?k4 ?a5 ?l5 ?c5 ?k5 ?z0 ?z1 ?z2 ?z3 ?z4 ?z5 ?z6 ?z7 ?z8 ?z9 ?z10 ?z11 ?z12 ?z13
    (case a0 => k_is); (case l0 => k_is); (case c0 => k_is); (case k0 => k_is); (case a1 => k_is); (case l1 => k_is); (case c1 => k_is); (case k1 => k_is); (case a2 => k_is); (case l2 => k_is); (case c2 => k_is); (case k2 => k_is); (case a3 => k_is); (case l3 => k_is); (case c3 => k_is); (case k3 => k_is); (case a4 => k_is); (case l4 => k_is); (case c4 => k_is); (case k4 => k_is); (case a5 => k_is); (case l5 => k_is); (case c5 => k_is); (case k5 => k_is); (case z0 => k_is); (case z1 => k_is); (case z2 => k_is); (case z3 => k_is); (case z4 => k_is); (case z5 => k_is); (case z6 => k_is); (case z7 => k_is); (case z8 => k_is); (case z9 => k_is); (case z10 => k_is); (case z11 => k_is); (case z12 => k_is); (case z13 => k_is)
