import PyProof.Rows.All
import Wide.All
import OpenK.AllK
import Wide.FinOn
import HandS.ForMost
import HandS.Wide
import HandS.IsInst
import HandS.SortInts
import HandS.Deep
import HandS.EndBits
import KE.IntBitsLaws
import PySem.Challenge.RW_seer_k47_claims_keep_boxes
set_option Elab.async false
set_option linter.all false
set_option maxRecDepth 100000
/-! # Sr: a small language of data, its meaning -/
namespace Sr
open PySem L2

/-- data; a list bears whether it is ours alone -/
inductive D where
  | non
  | bl (b : Bool)
  | int (i : Int)
  | str (x : Str)
  | tup (xs : List D)
  | lst (o : Bool) (xs : List D)

mutual
/-- no list of ours within -/
def D.un : D → Bool
  | .non => true
  | .bl _ => true
  | .int _ => true
  | .str _ => true
  | .tup xs => unL xs
  | .lst o xs => !o && unL xs
def unL : List D → Bool
  | [] => true
  | x :: r => x.un && unL r
end
mutual
/-- no list of others within -/
def D.ns : D → Bool
  | .non => true
  | .bl _ => true
  | .int _ => true
  | .str _ => true
  | .tup xs => nsL xs
  | .lst o xs => o && nsL xs
def nsL : List D → Bool
  | [] => true
  | x :: r => x.ns && nsL r
end
mutual
/-- given up: no list is ours any more -/
def D.shr : D → D
  | .non => .non
  | .bl b => .bl b
  | .int i => .int i
  | .str x => .str x
  | .tup xs => .tup (shrL xs)
  | .lst _ xs => .lst false (shrL xs)
def shrL : List D → List D
  | [] => []
  | x :: r => x.shr :: shrL r
end
mutual
def D.py : D → PyData
  | .non => .none
  | .bl b => .bool b
  | .int i => .int i
  | .str x => .str x
  | .tup xs => .tuple (pyL xs)
  | .lst _ xs => .list (pyL xs)
def pyL : List D → List PyData
  | [] => []
  | x :: r => x.py :: pyL r
end

abbrev Env := List (Option D)
def Env.at (e : Env) (i : Nat) : Option D := (e[i]?).getD none

inductive Bop where | add | sub | mul | fdv | mod | pow
  deriving DecidableEq
inductive Cop where | lt | le | gt | ge
  deriving DecidableEq
inductive B1 where | len | abs | int | list | tuple | sum | minL | maxL | isInt | isBool | isList | isTuple | isStr | sorted
  deriving DecidableEq
inductive BN where | min2 | max2 | max3
  deriving DecidableEq

inductive T where
  | nil | cons (a r : T)
  | v (i : Nat) | w (i : Nat) | non | bl (b : Bool) | int (i : Int) | str (x : Str)
  | frz (a : T) | lend (a : T)
  | bin (o : Bop) (a b : T) | neg (a : T)
  | cmp (o : Cop) (a b : T) | eq (a b : T) | ne (a b : T) | isN (a : T) | nisN (a : T)
  | chain (o o' : Cop) (a b c : T)
  | and (a b : T) | or (a b : T) | not (a : T) | ife (c a b : T)
  | tup (a : T) | lst (a : T)
  | ix (a b : T) | sl (a lo hi : T)
  | call (f : Nat) (a : T)
  | b1 (k : B1) (a : T) | bn (k : BN) (a : T)
  | inn (a b : T) | nin (a b : T)
  | rng1 (a : T) | rng2 (a b : T) | rng3 (a b : T) (c : Int) | zip (a b : T) | itr (a : T)
  | lc (tg : List Nat) (it c e : T)
  -- statements
  | pass | seq (a b : T) | asg (i : Nat) (e : T) | upk (tg : List Nat) (e : T)
  | st (p i e : T) | app (i : Nat) (e : T) | apq (p e : T) | ex (e : T)
  | cond (c a b : T) | whl (ks : List Nat) (c b : T) | for_ (tg ks : List Nat) (it b : T)
  | ret (e : T) | brk | cnt | rse

/-- the product of two toInts fits -/
abbrev mulOk (i j : Int) : Prop := IntMulOk i j
instance (i j : Int) : Decidable (mulOk i j) := by unfold mulOk IntMulOk; infer_instance

def binI : Bop → Int → Int → Option Int
  | .add, i, j => some (i + j)
  | .sub, i, j => some (i - j)
  | .mul, i, j => if mulOk i j then some (i * j) else none
  | .fdv, i, j => if j ≠ 0 ∧ j.natAbs.log2 < 9000 then some (i.fdiv j) else none
  | .mod, i, j => if j = 0 then none else some (i.fmod j)
  | .pow, i, j => if 0 ≤ j ∧ j ≤ 1000000 ∧ i.natAbs < 2 ^ 64 then some (i ^ j.toNat) else none
def cmpI : Cop → Int → Int → Bool
  | .lt, i, j => decide (i < j)
  | .le, i, j => decide (i ≤ j)
  | .gt, i, j => decide (j < i)
  | .ge, i, j => decide (j ≤ i)
def items : D → Option (List D)
  | .lst _ xs => some xs
  | .tup xs => some xs
  | _ => none
def atD (d : D) (k : Int) : Option D := match items d with
  | some xs => atI xs k
  | none => none
def lenD (d : D) : Option D := match items d with
  | some xs => some (.int xs.length)
  | none => none
def big : Nat := 1000000

/-- a bound of a slice -/
def cutD (xs : List D) (lo hi : Option Int) : List D := (xs.drop (HT.sIx xs.length 0 lo)).take (HT.sIx xs.length xs.length hi - HT.sIx xs.length 0 lo)
def slD (d : D) (lo hi : Option Int) : Option D := match d with
  | .lst _ xs => if unL xs then some (.lst true (cutD xs lo hi)) else none
  | .tup xs => if unL xs ∧ ¬ (HT.sIx xs.length 0 lo = 0 ∧ HT.sIx xs.length xs.length hi = xs.length) then some (.tup (cutD xs lo hi)) else none
  | _ => none
/-- what is read without a change -/
def isP : T → Bool
  | .v _ => true
  | .non => true
  | .bl _ => true
  | .int _ => true
  | .str _ => true
  | .bin _ a b => isP a && isP b
  | .neg a => isP a
  | .ix a b => isP a && isP b
  | .b1 .len a => isP a
  | _ => false
def evP : T → Env → Option D
  | .v i, e => e.at i
  | .non, _ => some .non
  | .bl b, _ => some (.bl b)
  | .int i, _ => some (.int i)
  | .str x, _ => some (.str x)
  | .bin o a b, e => match evP a e, evP b e with
    | some (.int i), some (.int j) => (binI o i j).map .int
    | _, _ => none
  | .neg a, e => match evP a e with
    | some (.int i) => some (.int (-i))
    | _ => none
  | .ix a b, e => match evP a e, evP b e with
    | some d, some (.int k) => atD d k
    | _, _ => none
  | .b1 .len a, e => match evP a e with
    | some d => lenD d
    | none => none
  | _, _ => none

def isPo : T → Bool
  | .nil => true
  | t => isP t
def evPo (t : T) (e : Env) : Option (Option Int) := match t with
  | .nil => some none
  | t => match evP t e with
    | some (.int i) => some (some i)
    | _ => none
def eqv (d e : D) : Bool := PyData.eqv d.py e.py
def eqOk (d : D) : Bool := SeqAt.shaped d.py
/-- is there an equal one among the items -/
def inD (x : D) (ys : List D) : Bool := ys.any fun y => eqv y x
/-- the binary operators by what is handed in -/
def binD (o : Bop) (x y : D) : Option D := match x, y with
  | .int i, .int j => (binI o i j).map .int
  | .lst _ xs, .lst _ ys => match o with
    | .add => if unL xs && unL ys && decide (xs.length + ys.length ≤ big) then some (.lst true (xs ++ ys)) else none
    | _ => none
  | .tup xs, .tup ys => match o with
    | .add => if unL xs && unL ys && !xs.isEmpty && decide (xs.length + ys.length ≤ big) then some (.tup (xs ++ ys)) else none
    | _ => none
  | .lst ow xs, .int k => match o with
    | .mul => if (ow && unL xs) && decide (xs.length * k.toNat ≤ big) && decide (k < 2 ^ 62) && decide (-(2 ^ 62) ≤ k) then some (.lst true (List.replicate k.toNat xs).flatten) else none
    | _ => none
  | _, _ => none
def toInts : List D → Option (List Int)
  | [] => some []
  | .int i :: r => match toInts r with
    | some l => some (i :: l)
    | none => none
  | _ => none
def insI (x : Int) : List Int → List Int
  | [] => [x]
  | y :: r => if x ≤ y then x :: y :: r else y :: insI x r
def sortI : List Int → List Int
  | [] => []
  | x :: r => insI x (sortI r)
/-- sorted, of fewer than 64 ints -/
def srtD (xs : List D) : Option D := match toInts xs with
  | some ns => if ns.length < 64 then some (.lst true ((sortI ns).map .int)) else none
  | none => none
def b1D : B1 → D → Option D
  | .len, d => lenD d
  | .abs, .int i => some (.int (if i < 0 then -i else i))
  | .int, .int i => some (.int i)
  | .int, .bl b => some (.int (if b then 1 else 0))
  | .list, d => match items d with
    | some xs => if unL xs then some (.lst true xs) else none
    | none => none
  | .tuple, .lst _ xs => if unL xs then some (.tup xs) else none
  | .sum, .lst _ xs => (toInts xs).map fun l => .int l.sum
  | .sorted, .lst _ xs => srtD xs
  | .isInt, .int _ => some (.bl true)
  | .isInt, .bl _ => some (.bl true)
  | .isInt, _ => some (.bl false)
  | .isBool, .bl _ => some (.bl true)
  | .isBool, _ => some (.bl false)
  | .isList, .lst _ _ => some (.bl true)
  | .isList, _ => some (.bl false)
  | .isTuple, .tup _ => some (.bl true)
  | .isTuple, _ => some (.bl false)
  | .isStr, .str _ => some (.bl true)
  | .isStr, _ => some (.bl false)
  | _, _ => none
def bnD : BN → List D → Option D
  | .min2, [.int i, .int j] => some (.int (if j < i then j else i))
  | .max2, [.int i, .int j] => some (.int (if j > i then j else i))
  | _, _ => none

inductive Ag where | val (d : D) | var (i : Nat) | io (i : Nat)
/-- what is to be changed is taken out -/
def agIo : List Ag → Env → Option Env
  | [], e => some e
  | .io i :: r, e => match e.at i with
    | some _ => agIo r (e.set i none)
    | none => none
  | _ :: r, e => agIo r e
/-- what is handed over: e ahead, e' what is left -/
def agD (e e' : Env) : List Ag → Option (List D)
  | [] => some []
  | .val d :: r => match agD e e' r with
    | some l => some (d.shr :: l)
    | none => none
  | .var i :: r => match e'.at i, agD e e' r with
    | some d, some l => some (d.shr :: l)
    | _, _ => none
  | .io i :: r => match e.at i, agD (e.set i none) e' r with
    | some d, some l => some (d :: l)
    | _, _ => none
/-- what was lent is no more ours -/
def agFz : List Ag → Env → Env
  | [], e => e
  | .var i :: r, e => agFz r (match e.at i with
    | some d => e.set i (some d.shr)
    | none => e)
  | _ :: r, e => agFz r e
/-- what was changed comes back -/
def agBack : List Ag → List (Option D) → Env → Option Env
  | [], [], e => some e
  | .io i :: r, o :: os, e => agBack r os (e.set i o)
  | _ :: r, _ :: os, e => agBack r os e
  | _, _, _ => none
def nsO : List (Option D) → Bool
  | [] => true
  | some d :: r => d.ns && nsO r
  | none :: r => nsO r

def bindT : List Nat → D → Env → Option Env
  | [i], d, e => some (e.set i (some d))
  | [i, j], .tup [x, y], e => some ((e.set i (some x)).set j (some y))
  | [i, j, k], .tup [x, y, z], e => some (((e.set i (some x)).set j (some y)).set k (some z))
  | _, _, _ => none
def kill : List Nat → Env → Env
  | [], e => e
  | i :: r, e => kill r (e.set i none)
def loopC (f : D → Env → Option (Option D × Env)) : List D → Env → List D → Option (List D × Env)
  | [], e, acc => some (acc, e)
  | x :: r, e, acc => match f x e with
    | some (some d, e') => loopC f r e' (acc ++ [d])
    | some (none, e') => loopC f r e' acc
    | none => none
def zipD : List D → List D → List D
  | x :: xs, y :: ys => .tup [x, y] :: zipD xs ys
  | _, _ => []

/-- how many turns a range takes -/
def rngN (a b c : Int) : Nat := if a < b then ((b - a - 1) / c + 1).toNat else 0
/-- the called functions: which parameters are changed, what comes back -/
structure Fs where
  io : Nat → List Bool
  run : Nat → List D → Option (D × List (Option D))

section
variable (Φ : Fs)
mutual
def evE : T → Env → Option (D × Env)
  | .v i, e => match e.at i with
    | some d => if d.un then some (d, e) else some (d, e.set i none)
    | none => none
  | .w i, e => match e.at i with
    | some d => some (d.shr, e.set i (some d.shr))
    | none => none
  | .non, e => some (.non, e)
  | .bl b, e => some (.bl b, e)
  | .int i, e => some (.int i, e)
  | .str x, e => some (.str x, e)
  | .frz a, e => match evE a e with
    | some (d, e) => some (d.shr, e)
    | none => none
  | .lend a, e => match evE a (e.map fun o => o.map D.shr) with
    | some (d, _) => if d.ns then some (d, e) else none
    | none => none
  | .bin o a b, e => match evE a e with
    | some (x, e) => match evE b e with
      | some (y, e) => (binD o x y).map fun d => (d, e)
      | none => none
    | none => none
  | .neg a, e => match evE a e with
    | some (.int i, e) => some (.int (-i), e)
    | _ => none
  | .cmp o a b, e => match evE a e with
    | some (.int i, e) => match evE b e with
      | some (.int j, e) => some (.bl (cmpI o i j), e)
      | _ => none
    | _ => none
  | .eq a b, e => match (if isP a && isP b then (evP a e).map fun d => (d, e) else evE a e) with
    | some (x, e) => match (if isP b then (evP b e).map fun d => (d, e) else evE b e) with
      | some (y, e) => if eqOk x && eqOk y then some (.bl (eqv x y), e) else none
      | none => none
    | none => none
  | .ne a b, e => match (if isP a && isP b then (evP a e).map fun d => (d, e) else evE a e) with
    | some (x, e) => match (if isP b then (evP b e).map fun d => (d, e) else evE b e) with
      | some (y, e) => if eqOk x && eqOk y then some (.bl (!eqv x y), e) else none
      | none => none
    | none => none
  | .inn a b, e => match (if isP a && isP b then (evP a e).map fun d => (d, e) else evE a e) with
    | some (x, e) => match (if isP b then (evP b e).map fun d => (d, e) else evE b e) with
      | some (.lst o ys, e) => if eqOk x && eqOk (.lst o ys) then some (.bl (inD x ys), e) else none
      | _ => none
    | none => none
  | .nin a b, e => match (if isP a && isP b then (evP a e).map fun d => (d, e) else evE a e) with
    | some (x, e) => match (if isP b then (evP b e).map fun d => (d, e) else evE b e) with
      | some (.lst o ys, e) => if eqOk x && eqOk (.lst o ys) then some (.bl (!inD x ys), e) else none
      | _ => none
    | none => none
  | .isN a, e => match (if isP a then (evP a e).map fun d => (d, e) else evE a e) with
    | some (.non, e) => some (.bl true, e)
    | some (_, e) => some (.bl false, e)
    | none => none
  | .nisN a, e => match (if isP a then (evP a e).map fun d => (d, e) else evE a e) with
    | some (.non, e) => some (.bl false, e)
    | some (_, e) => some (.bl true, e)
    | none => none
  | .chain o o' a b c, e => match evE a e with
    | some (.int i, e) => match evE b e with
      | some (.int j, e) => if cmpI o i j then match evE c e with
        | some (.int k, e) => some (.bl (cmpI o' j k), e)
        | _ => none
        else some (.bl false, e)
      | _ => none
    | _ => none
  | .and a b, e => match evE a e with
    | some (.bl true, e) => match evE b e with
      | some (.bl c, e) => some (.bl c, e)
      | _ => none
    | some (.bl false, e) => some (.bl false, e)
    | _ => none
  | .or a b, e => match evE a e with
    | some (.bl false, e) => match evE b e with
      | some (.bl c, e) => some (.bl c, e)
      | _ => none
    | some (.bl true, e) => some (.bl true, e)
    | _ => none
  | .not a, e => match evE a e with
    | some (.bl c, e) => some (.bl (!c), e)
    | _ => none
  | .ife c a b, e => match evE c e with
    | some (.bl c, e) => if c then evE a e else evE b e
    | _ => none
  | .tup a, e => match evL a e with
    | some (ds, e) => if ds.length ≤ big then some (.tup ds, e) else none
    | none => none
  | .lst a, e => match evL a e with
    | some (ds, e) => if ds.length ≤ big then some (.lst true ds, e) else none
    | none => none
  | .ix a b, e => if isP a && isP b then match evP (.ix a b) e with
      | some d => if d.un then some (d, e) else none
      | none => none
    else match evE a e with
    | some (x, e) => match evE b e with
      | some (.int k, e) => (atD x k).map fun d => (d, e)
      | _ => none
    | none => none
  | .sl a lo hi, e => if isPo lo && isPo hi then match (if isP a then (evP a e).map fun d => (d, e) else evE a e) with
    | some (x, e) => match evPo lo e with
      | some l => match evPo hi e with
        | some h => match slD x l h with
          | some d => some (d, e)
          | none => none
        | none => none
      | none => none
    | none => none
    else none
  | .call f a, e => match evG a (Φ.io f) e with
    | some (as, e) => match agIo as e with
      | some e' => match agD e e' as with
        | some ds => match Φ.run f ds with
          | some (r, os) => match agBack as os (if r.ns && nsO os then e' else agFz as e') with
            | some e => some (r, e)
            | none => none
          | none => none
        | none => none
      | none => none
    | none => none
  | .b1 k a, e => match (if isP a then (evP a e).map fun d => (d, e) else evE a e) with
    | some (x, e) => (b1D k x).map fun d => (d, e)
    | none => none
  | .bn k a, e => match evL a e with
    | some (xs, e) => (bnD k xs).map fun d => (d, e)
    | none => none
  | .lc tg it c el, e => match evI it e with
    | some (xs, e) => match loopC (fun x e => match bindT tg x e with
        | some e => match evE c e with
          | some (.bl true, e) => match evE el e with
            | some (d, e) => some (some d, kill tg e)
            | none => none
          | some (.bl false, e) => some (none, kill tg e)
          | _ => none
        | none => none) xs (kill tg e) [] with
      | some (ds, e) => some (.lst true ds, e)
      | none => none
    | none => none
  | _, _ => none
def evL : T → Env → Option (List D × Env)
  | .nil, e => some ([], e)
  | .cons a r, e => match evE a e with
    | some (x, e) => match evL r e with
      | some (xs, e) => some (x :: xs, e)
      | none => none
    | none => none
  | _, _ => none
/-- the arguments of a call -/
def evG : T → List Bool → Env → Option (List Ag × Env)
  | .nil, [], e => some ([], e)
  | .cons (.v i) r, b :: bs, e => match e.at i with
    | some _ => match evG r bs e with
      | some (as, e) => some ((if b then .io i else .var i) :: as, e)
      | none => none
    | none => none
  | .cons a r, b :: bs, e => if b then none else match evE a e with
    | some (x, e) => match evG r bs e with
      | some (as, e) => some (.val x :: as, e)
      | none => none
    | none => none
  | _, _, _ => none
/-- what is walked -/
def evI : T → Env → Option (List D × Env)
  | .rng1 a, e => match evE a e with
    | some (.int n, e) => if n ≤ big ∧ -(2 ^ 62) ≤ n then some ((List.range n.toNat).map fun k => .int (k : Nat), e) else none
    | _ => none
  | .rng2 a b, e => match evE a e with
    | some (.int m, e) => match evE b e with
      | some (.int n, e) => if -(2 ^ 62) ≤ m ∧ m < 2 ^ 62 ∧ -(2 ^ 62) ≤ n ∧ n < 2 ^ 62 ∧ n - m ≤ big then some ((List.range (n - m).toNat).map fun k => .int (m + (k : Nat)), e) else none
      | _ => none
    | _ => none
  | .rng3 a b c, e => match evE a e with
    | some (.int m, e) => match evE b e with
      | some (.int n, e) => if -(2 ^ 61) ≤ m ∧ m < 2 ^ 61 ∧ -(2 ^ 61) ≤ n ∧ n < 2 ^ 61 ∧ 0 < c ∧ c < 1000000000 ∧ n - m ≤ big then some ((List.range (rngN m n c)).map fun k => .int (m + (k : Nat) * c), e) else none
      | _ => none
    | _ => none
  | .zip a b, e => match evE a e with
    | some (.lst _ xs, e) => match evE b e with
      | some (.lst _ ys, e) => some (zipD (shrL xs) (shrL ys), e)
      | _ => none
    | _ => none
  | .itr a, e => match evE a e with
    | some (d, e) => (items d).map fun xs => (shrL xs, e)
    | none => none
  | _, _ => none
end
end

/-! ### statements -/
inductive Fl where | nx | rt (d : D) | bk | ct
/-- a new tuple or list of what is only read -/
def isQl : T → Bool
  | .nil => true
  | .cons a r => isP a && isQl r
  | _ => false
def isQ : T → Bool
  | .tup a => isQl a
  | .lst a => isQl a
  | a => isP a
def evQl : T → Env → Option (List D)
  | .cons a r, e => match evP a e, evQl r e with
    | some d, some ds => if d.un then some (d :: ds) else none
    | _, _ => none
  | _, _ => some []
def evQ : T → Env → Option D
  | .tup a, e => match evQl a e with
    | some ds => if ds.length ≤ big then some (.tup ds) else none
    | none => none
  | .lst a, e => match evQl a e with
    | some ds => if ds.length ≤ big then some (.lst true ds) else none
    | none => none
  | a, e => match evP a e with
    | some d => if d.un then some d else none
    | none => none
/-- the place of a store -/
def isPl : T → Bool
  | .v _ => true
  | .ix a b => isPl a && isP b
  | _ => false
def setAt (k : Int) (f : D → Option D) : D → Option D
  | .lst true xs => match ixN xs.length k with
    | some j => match xs[j]? with
      | some x => match f x with
        | some y => some (.lst true (xs.set j y))
        | none => none
      | none => none
    | none => none
  | .tup xs => match ixN xs.length k with
    | some j => match xs[j]? with
      | some x => match f x with
        | some y => some (.tup (xs.set j y))
        | none => none
      | none => none
    | none => none
  | _ => none
def setP : T → (D → Option D) → Env → Option Env
  | .v i, f, e => match e.at i with
    | some d => match f d with
      | some d => some (e.set i (some d))
      | none => none
    | none => none
  | .ix a b, f, e => match evP b e with
    | some (.int k) => setP a (setAt k f) e
    | _ => none
  | _, _, _ => none
def putD (k : Int) (x : D) : D → Option D
  | .lst true xs => match ixN xs.length k with
    | some j => some (.lst true (xs.set j x))
    | none => none
  | _ => none
def appD (x : D) : D → Option D
  | .lst true xs => if xs.length < big then some (.lst true (xs ++ [x])) else none
  | _ => none
def loopF (ks : List Nat) (f : D → Env → Option (Fl × Env)) : List D → Env → Option (Fl × Env)
  | [], e => some (.nx, kill ks e)
  | x :: r, e => match f x e with
    | some (.nx, e) => loopF ks f r (kill ks e)
    | some (.ct, e) => loopF ks f r (kill ks e)
    | some (.bk, e) => some (.nx, kill ks e)
    | some (.rt d, e) => some (.rt d, e)
    | none => none
def whN (ks : List Nat) (c : Env → Option (D × Env)) (f : Env → Option (Fl × Env)) : Nat → Env → Option (Fl × Env)
  | 0, _ => none
  | n + 1, e => match c e with
    | some (.bl true, e) => match f e with
      | some (.nx, e) => whN ks c f n (kill ks e)
      | some (.ct, e) => whN ks c f n (kill ks e)
      | some (.bk, e) => some (.nx, kill ks e)
      | some (.rt d, e) => some (.rt d, e)
      | none => none
    | some (.bl false, e) => some (.nx, kill ks e)
    | _ => none
theorem whN_succ {ks c f n e} : whN ks c f (n + 1) e = (match c e with
    | some (.bl true, e) => match f e with
      | some (.nx, e) => whN ks c f n (kill ks e)
      | some (.ct, e) => whN ks c f n (kill ks e)
      | some (.bk, e) => some (.nx, kill ks e)
      | some (.rt d, e) => some (.rt d, e)
      | none => none
    | some (.bl false, e) => some (.nx, kill ks e)
    | _ => none) := rfl
theorem whN_more {ks c f} : ∀ {n e r}, whN ks c f n e = some r → whN ks c f (n + 1) e = some r
  | 0, e, r, h => by simp [whN] at h
  | n + 1, e, r, h => by
    rw [whN_succ] at h
    rw [whN_succ]
    rcases hc : c e with _ | ⟨d, e1⟩
    · rw [hc] at h; exact h
    · rw [hc] at h
      cases d with
      | bl b =>
        cases b with
        | true =>
          rcases hf : f e1 with _ | ⟨q, e2⟩
          · simp only [hf] at h; cases h
          · simp only [hf] at h ⊢
            cases q with
            | nx => exact whN_more h
            | ct => exact whN_more h
            | bk => exact h
            | rt d => exact h
        | false => exact h
      | _ => exact h
theorem whN_le {ks c f n m e r} (h : whN ks c f n e = some r) (l : n ≤ m) : whN ks c f m e = some r := by
  induction l with
  | refl => exact h
  | step _ ih => exact whN_more ih
open Classical in
noncomputable def whD (ks : List Nat) (c : Env → Option (D × Env)) (f : Env → Option (Fl × Env)) (e : Env) : Option (Fl × Env) :=
  if h : ∃ n, (whN ks c f n e).isSome = true then whN ks c f h.choose e else none
theorem whD_of {ks c f n e r} (h : whN ks c f n e = some r) : whD ks c f e = some r := by
  have x : ∃ n, (whN ks c f n e).isSome = true := ⟨n, by rw [h]; rfl⟩
  unfold whD
  rw [dif_pos x]
  have y := x.choose_spec
  obtain ⟨r', hr'⟩ := Option.isSome_iff_exists.mp y
  rw [hr']
  rcases Nat.le_total n x.choose with l | l
  · rw [whN_le h l] at hr'; exact hr'.symm
  · rw [whN_le hr' l] at h; exact h
theorem of_whD {ks c f e r} (h : whD ks c f e = some r) : ∃ n, whN ks c f n e = some r := by
  unfold whD at h
  split at h
  · exact ⟨_, h⟩
  · cases h

section
variable (Φ : Fs)
noncomputable def evS : T → Env → Option (Fl × Env)
  | .pass, e => some (.nx, e)
  | .seq a b, e => match evS a e with
    | some (.nx, e) => evS b e
    | some r => some r
    | none => none
  | .asg i a, e => match evE Φ a e with
    | some (d, e) => some (.nx, e.set i (some d))
    | none => none
  | .upk tg a, e => match evE Φ a e with
    | some (d, e) => match bindT tg d e with
      | some e => some (.nx, e)
      | none => none
    | none => none
  | .st p i a, e => match evE Φ a e with
    | some (x, e) => if isPl p && isP i then match evP i e with
      | some (.int k) => match setP p (putD k x) e with
        | some e => some (.nx, e)
        | none => none
      | _ => none
      else none
    | none => none
  | .app i a, e => match e.at i with
    | some (.lst _ _) => match evE Φ a e with
      | some (x, e) => match setP (.v i) (appD x) e with
        | some e => some (.nx, e)
        | none => none
      | none => none
    | _ => none
  | .apq p a, e => if isPl p && isQ a then match evQ a e with
    | some x => match setP p (appD x) e with
      | some e => some (.nx, e)
      | none => none
    | none => none
    else none
  | .ex a, e => match evE Φ a e with
    | some (_, e) => some (.nx, e)
    | none => none
  | .cond c a b, e => match evE Φ c e with
    | some (.bl c, e) => if c then evS a e else evS b e
    | _ => none
  | .whl ks c b, e => whD ks (evE Φ c) (evS b) e
  | .for_ tg ks it b, e => match evI Φ it e with
    | some (xs, e) => loopF ks (fun x e => match bindT tg x e with
      | some e => evS b e
      | none => none) xs e
    | none => none
  | .ret a, e => match evE Φ a e with
    | some (d, e) => some (.rt d, e)
    | none => none
  | .brk, e => some (.bk, e)
  | .cnt, e => some (.ct, e)
  | _, _ => none
end

/-! ### functions -/
/-- a def: its parameters, which of them are changed, how many names, its body -/
structure Df where
  io : List Bool
  names : Nat
  body : T
def outs : List Bool → Env → List (Option D)
  | [], _ => []
  | b :: r, e => (if b then e.head?.join else none) :: outs r e.tail
noncomputable def runDf (Φ : Fs) (d : Df) (as : List D) : Option (D × List (Option D)) :=
  if as.length = d.io.length then match evS Φ d.body (as.map some ++ List.replicate (d.names - as.length) none) with
    | some (.rt r, e) => some (r, outs d.io e)
    | some (.nx, e) => some (.non, outs d.io e)
    | _ => none
  else none
noncomputable def fnsN (P : Nat → Df) : Nat → Fs
  | 0 => ⟨fun f => (P f).io, fun _ _ => none⟩
  | n + 1 => ⟨fun f => (P f).io, fun f as => runDf (fnsN P n) (P f) as⟩
end Sr
set_option Elab.async false
set_option linter.all false
set_option maxRecDepth 100000
/-! # Sr: how data stands in the heap -/
namespace Sr
open PySem L2

/-- the address's content is a list -/
def IsLst (H : Hp) (a : Addr) : Prop := ∃ xs, H a = some (.lst xs)
/-- a list of the module -/
def KL (K : PySem.W.Frag) (a : Addr) (xs : List V) : Prop := ∃ (o : Obj) (its : Array Value) (n : Nat), K.lookup a = some o ∧ o.cls = .type "list" ∧ o.dict = none ∧ o.data = .seq its n ∧ its.size ≤ sizeLine ∧ Vals xs its.toList
mutual
/-- v stands for d; F: the lists of ours, S: the lists of others -/
inductive Rep (K : PySem.W.Frag) (H : Hp) : V → D → List Addr → List Addr → Prop
  | non : Rep K H .non .non [] []
  | bl (b : Bool) : Rep K H (.bl b) (.bl b) [] []
  | int (i : Int) : Rep K H (.int i) (.int i) [] []
  | str (x : Str) : Rep K H (.str x) (.str x) [] []
  | tup {a : Addr} {vs : List V} {ds : List D} {F S : List Addr} : Rd H a (.tup vs) → Reps K H vs ds F S → Rep K H (.ref a) (.tup ds) F S
  | shr {a : Addr} {vs : List V} {ds : List D} {S : List Addr} : Rd H a (.lst vs) → Reps K H vs ds [] S → Rep K H (.ref a) (.lst false ds) [] (a :: S)
  | mod {a : Addr} {vs : List V} {ds : List D} {S : List Addr} : KL K a vs → Reps K H vs ds [] S → Rep K H (.ref a) (.lst false ds) [] S
  | own {a : Addr} {vs : List V} {ds : List D} {F S : List Addr} : H a = some (.lst vs) → Reps K H vs ds F S → Rep K H (.ref a) (.lst true ds) (a :: F) S
inductive Reps (K : PySem.W.Frag) (H : Hp) : List V → List D → List Addr → List Addr → Prop
  | nil : Reps K H [] [] [] []
  | cons {v : V} {d : D} {vs : List V} {ds : List D} {F S F' S' : List Addr} : Rep K H v d F S → Reps K H vs ds F' S' → Reps K H (v :: vs) (d :: ds) (F ++ F') (S ++ S')
end

section
variable {K : PySem.W.Frag} {H H' : Hp}

theorem Reps.len : ∀ {vs : List V} {ds : List D} {F S : List Addr}, Reps K H vs ds F S → vs.length = ds.length
  | _, [], _, _, h => by cases h; rfl
  | _, _ :: _, _, _, h => by cases h with | cons _ t => simp [t.len]

mutual
theorem shr_un : ∀ d : D, d.shr.un = true
  | .non => rfl
  | .bl _ => rfl
  | .int _ => rfl
  | .str _ => rfl
  | .tup xs => by rw [D.shr, D.un]; exact shrL_un xs
  | .lst _ xs => by rw [D.shr, D.un, shrL_un xs]; rfl
theorem shrL_un : ∀ ds : List D, unL (shrL ds) = true
  | [] => rfl
  | d :: ds => by rw [shrL, unL, shr_un d, shrL_un ds]; rfl
end
mutual
theorem shr_shr : ∀ d : D, d.shr.shr = d.shr
  | .non => rfl
  | .bl _ => rfl
  | .int _ => rfl
  | .str _ => rfl
  | .tup xs => by rw [D.shr, D.shr, shrL_shrL xs]
  | .lst _ xs => by rw [D.shr, D.shr, shrL_shrL xs]
theorem shrL_shrL : ∀ ds : List D, shrL (shrL ds) = shrL ds
  | [] => rfl
  | d :: ds => by rw [shrL, shrL, shr_shr d, shrL_shrL ds]
end
mutual
theorem shr_of_un : ∀ d : D, d.un = true → d.shr = d
  | .non, _ => rfl
  | .bl _, _ => rfl
  | .int _, _ => rfl
  | .str _, _ => rfl
  | .tup xs, h => by rw [D.un] at h; rw [D.shr, shrL_of_un xs h]
  | .lst o xs, h => by
    simp only [D.un, Bool.and_eq_true, Bool.not_eq_true'] at h
    rw [D.shr, shrL_of_un xs h.2, h.1]
theorem shrL_of_un : ∀ ds : List D, unL ds = true → shrL ds = ds
  | [], _ => rfl
  | d :: ds, h => by
    simp only [unL, Bool.and_eq_true] at h
    rw [shrL, shr_of_un d h.1, shrL_of_un ds h.2]
end
/-- all that is of ours is a list -/
theorem Rep.lstF : ∀ {d : D} {v : V} {F S : List Addr}, Rep K H v d F S → ∀ a ∈ F, IsLst H a := by
  intro d
  apply D.rec (motive_1 := fun d => ∀ {v F S}, Rep K H v d F S → ∀ a ∈ F, IsLst H a) (motive_2 := fun ds => ∀ {vs F S}, Reps K H vs ds F S → ∀ a ∈ F, IsLst H a)
  · intro v F S h a ha; cases h; cases ha
  · intro b v F S h a ha; cases h; cases ha
  · intro i v F S h a ha; cases h; cases ha
  · intro x v F S h a ha; cases h; cases ha
  · intro xs ih v F S h a ha; cases h with | tup _ r => exact ih r a ha
  · intro o xs ih v F S h a ha
    cases h with
    | shr _ r => cases ha
    | mod _ r => cases ha
    | own e r =>
      rcases List.mem_cons.mp ha with rfl | ha
      · exact ⟨_, e⟩
      · exact ih r a ha
  · intro vs F S h a ha; cases h; cases ha
  · intro d ds i1 i2 vs F S h a ha
    cases h with
    | cons r t =>
      rcases List.mem_append.mp ha with ha | ha
      · exact i1 r a ha
      · exact i2 t a ha
theorem Reps.lstF : ∀ {ds : List D} {vs : List V} {F S : List Addr}, Reps K H vs ds F S → ∀ a ∈ F, IsLst H a
  | [], _, _, _, h, a, ha => by cases h; cases ha
  | _ :: _, _, _, _, h, a, ha => by
    cases h with
    | cons r t =>
      rcases List.mem_append.mp ha with ha | ha
      · exact r.lstF a ha
      · exact t.lstF a ha

/-- what stands is kept, but the lists at M -/
def Kept (H H' : Hp) (M : List Addr) : Prop := ∀ b o, H b = some o → b ∉ M → H' b = some o
theorem Kept.sqL {M : List Addr} {a : Addr} {xs : List V} (k : Kept H H' M) (h : Rd H a (.lst xs)) (n : a ∉ M) : Rd H' a (.lst xs) := by
  rcases h with h | ⟨o, h⟩
  · exact .inl (k _ _ h n)
  · exact .inr ⟨o, k _ _ h n⟩
theorem Kept.sqT {M : List Addr} {a : Addr} {xs : List V} (k : Kept H H' M) (m : ∀ b ∈ M, IsLst H b) (h : Rd H a (.tup xs)) : Rd H' a (.tup xs) := by
  rcases h with h | ⟨o, h⟩
  · refine .inl (k _ _ h fun z => ?_)
    obtain ⟨ys, e⟩ := m _ z
    rw [h] at e; cases e
  · refine .inr ⟨o, k _ _ h fun z => ?_⟩
    obtain ⟨ys, e⟩ := m _ z
    rw [h] at e; cases e
theorem Rep.kept {M : List Addr} (k : Kept H H' M) (m : ∀ b ∈ M, IsLst H b) : ∀ {d : D} {v : V} {F S : List Addr}, Rep K H v d F S → (∀ a ∈ F, a ∉ M) → (∀ a ∈ S, a ∉ M) → Rep K H' v d F S := by
  intro d
  apply D.rec (motive_1 := fun d => ∀ {v F S}, Rep K H v d F S → (∀ a ∈ F, a ∉ M) → (∀ a ∈ S, a ∉ M) → Rep K H' v d F S) (motive_2 := fun ds => ∀ {vs F S}, Reps K H vs ds F S → (∀ a ∈ F, a ∉ M) → (∀ a ∈ S, a ∉ M) → Reps K H' vs ds F S)
  · intro v F S h _ _; cases h; exact .non
  · intro b v F S h _ _; cases h; exact .bl b
  · intro i v F S h _ _; cases h; exact .int i
  · intro x v F S h _ _; cases h; exact .str x
  · intro xs ih v F S h hF hS; cases h with | tup e r => exact .tup (k.sqT m e) (ih r hF hS)
  · intro o xs ih v F S h hF hS
    cases h with
    | shr e r => exact .shr (k.sqL e (hS _ List.mem_cons_self)) (ih r hF fun a ha => hS a (List.mem_cons_of_mem _ ha))
    | mod e r => exact .mod e (ih r hF hS)
    | own e r => exact .own (k _ _ e (hF _ List.mem_cons_self)) (ih r (fun a ha => hF a (List.mem_cons_of_mem _ ha)) hS)
  · intro vs F S h _ _; cases h; exact .nil
  · intro d ds i1 i2 vs F S h hF hS
    cases h with
    | cons r t => exact .cons (i1 r (fun a ha => hF a (List.mem_append_left _ ha)) fun a ha => hS a (List.mem_append_left _ ha)) (i2 t (fun a ha => hF a (List.mem_append_right _ ha)) fun a ha => hS a (List.mem_append_right _ ha))
theorem Reps.kept {M : List Addr} (k : Kept H H' M) (m : ∀ b ∈ M, IsLst H b) : ∀ {ds : List D} {vs : List V} {F S : List Addr}, Reps K H vs ds F S → (∀ a ∈ F, a ∉ M) → (∀ a ∈ S, a ∉ M) → Reps K H' vs ds F S
  | [], _, _, _, h, _, _ => by cases h; exact .nil
  | _ :: _, _, _, _, h, hF, hS => by
    cases h with
    | cons r t => exact .cons (r.kept k m (fun a ha => hF a (List.mem_append_left _ ha)) fun a ha => hS a (List.mem_append_left _ ha)) (t.kept k m (fun a ha => hF a (List.mem_append_right _ ha)) fun a ha => hS a (List.mem_append_right _ ha))
theorem Kept.same (k : Same H H') : Kept H H' [] := fun b o e _ => k b o e
theorem Rep.same (k : Same H H') {d : D} {v : V} {F S : List Addr} (r : Rep K H v d F S) : Rep K H' v d F S := r.kept (Kept.same k) (fun _ z => nomatch z) (fun _ _ z => nomatch z) fun _ _ z => nomatch z
theorem Reps.same (k : Same H H') {ds : List D} {vs : List V} {F S : List Addr} (r : Reps K H vs ds F S) : Reps K H' vs ds F S := r.kept (Kept.same k) (fun _ z => nomatch z) (fun _ _ z => nomatch z) fun _ _ z => nomatch z

/-- what is of others stands -/
theorem Rep.thereS : ∀ {d : D} {v : V} {F S : List Addr}, Rep K H v d F S → ∀ a ∈ S, H a ≠ none := by
  intro d
  apply D.rec (motive_1 := fun d => ∀ {v F S}, Rep K H v d F S → ∀ a ∈ S, H a ≠ none) (motive_2 := fun ds => ∀ {vs F S}, Reps K H vs ds F S → ∀ a ∈ S, H a ≠ none)
  · intro v F S h a ha; cases h; cases ha
  · intro b v F S h a ha; cases h; cases ha
  · intro i v F S h a ha; cases h; cases ha
  · intro x v F S h a ha; cases h; cases ha
  · intro xs ih v F S h a ha; cases h with | tup _ r => exact ih r a ha
  · intro o xs ih v F S h a ha
    cases h with
    | shr e r =>
      rcases List.mem_cons.mp ha with rfl | ha
      · rcases e with e | ⟨o, e⟩ <;> (rw [e]; simp)
      · exact ih r a ha
    | mod e r => exact ih r a ha
    | own e r => exact ih r a ha
  · intro vs F S h a ha; cases h; cases ha
  · intro d ds i1 i2 vs F S h a ha
    cases h with
    | cons r t =>
      rcases List.mem_append.mp ha with ha | ha
      · exact i1 r a ha
      · exact i2 t a ha
theorem Reps.thereS : ∀ {ds : List D} {vs : List V} {F S : List Addr}, Reps K H vs ds F S → ∀ a ∈ S, H a ≠ none
  | [], _, _, _, h, a, ha => by cases h; cases ha
  | _ :: _, _, _, _, h, a, ha => by
    cases h with
    | cons r t =>
      rcases List.mem_append.mp ha with ha | ha
      · exact r.thereS a ha
      · exact t.thereS a ha
/-- given up -/
theorem Rep.shrd : ∀ {d : D} {v : V} {F S : List Addr}, Rep K H v d F S → ∃ S', Rep K H v d.shr [] S' ∧ ∀ a ∈ S', a ∈ F ∨ a ∈ S := by
  intro d
  apply D.rec (motive_1 := fun d => ∀ {v F S}, Rep K H v d F S → ∃ S', Rep K H v d.shr [] S' ∧ ∀ a ∈ S', a ∈ F ∨ a ∈ S) (motive_2 := fun ds => ∀ {vs F S}, Reps K H vs ds F S → ∃ S', Reps K H vs (shrL ds) [] S' ∧ ∀ a ∈ S', a ∈ F ∨ a ∈ S)
  · intro v F S h; cases h; exact ⟨[], .non, fun _ z => nomatch z⟩
  · intro b v F S h; cases h; exact ⟨[], .bl b, fun _ z => nomatch z⟩
  · intro i v F S h; cases h; exact ⟨[], .int i, fun _ z => nomatch z⟩
  · intro x v F S h; cases h; exact ⟨[], .str x, fun _ z => nomatch z⟩
  · intro xs ih v F S h
    cases h with
    | tup e r =>
      obtain ⟨S', r', q⟩ := ih r
      exact ⟨S', .tup e r', q⟩
  · intro o xs ih v F S h
    cases h with
    | shr e r =>
      obtain ⟨S', r', q⟩ := ih r
      refine ⟨_ :: S', .shr e r', fun a ha => ?_⟩
      rcases List.mem_cons.mp ha with rfl | ha
      · exact .inr List.mem_cons_self
      · rcases q a ha with z | z
        · cases z
        · exact .inr (List.mem_cons_of_mem _ z)
    | mod e r =>
      obtain ⟨S', r', q⟩ := ih r
      exact ⟨S', .mod e r', q⟩
    | own e r =>
      obtain ⟨S', r', q⟩ := ih r
      refine ⟨_ :: S', .shr (Rd.of e) r', fun a ha => ?_⟩
      rcases List.mem_cons.mp ha with rfl | ha
      · exact .inl List.mem_cons_self
      · rcases q a ha with z | z
        · exact .inl (List.mem_cons_of_mem _ z)
        · exact .inr z
  · intro vs F S h; cases h; exact ⟨[], .nil, fun _ z => nomatch z⟩
  · intro d ds i1 i2 vs F S h
    cases h with
    | cons r t =>
      obtain ⟨S1, r1, q1⟩ := i1 r
      obtain ⟨S2, r2, q2⟩ := i2 t
      refine ⟨S1 ++ S2, .cons (F := []) (F' := []) r1 r2, fun a ha => ?_⟩
      rcases List.mem_append.mp ha with ha | ha
      · rcases q1 a ha with z | z
        · exact .inl (List.mem_append_left _ z)
        · exact .inr (List.mem_append_left _ z)
      · rcases q2 a ha with z | z
        · exact .inl (List.mem_append_right _ z)
        · exact .inr (List.mem_append_right _ z)
theorem Reps.shrd : ∀ {ds : List D} {vs : List V} {F S : List Addr}, Reps K H vs ds F S → ∃ S', Reps K H vs (shrL ds) [] S' ∧ ∀ a ∈ S', a ∈ F ∨ a ∈ S
  | [], _, _, _, h => by cases h; exact ⟨[], .nil, fun _ z => nomatch z⟩
  | _ :: _, _, _, _, h => by
    cases h with
    | cons r t =>
      obtain ⟨S1, r1, q1⟩ := r.shrd
      obtain ⟨S2, r2, q2⟩ := t.shrd
      refine ⟨S1 ++ S2, .cons (F := []) (F' := []) r1 r2, fun a ha => ?_⟩
      rcases List.mem_append.mp ha with ha | ha
      · rcases q1 a ha with z | z
        · exact .inl (List.mem_append_left _ z)
        · exact .inr (List.mem_append_left _ z)
      · rcases q2 a ha with z | z
        · exact .inl (List.mem_append_right _ z)
        · exact .inr (List.mem_append_right _ z)
theorem Rep.un : ∀ {d : D} {v : V} {F S : List Addr}, Rep K H v d F S → d.un = true → F = [] := by
  intro d
  apply D.rec (motive_1 := fun d => ∀ {v F S}, Rep K H v d F S → d.un = true → F = []) (motive_2 := fun ds => ∀ {vs F S}, Reps K H vs ds F S → unL ds = true → F = [])
  · intro v F S h _; cases h; rfl
  · intro b v F S h _; cases h; rfl
  · intro i v F S h _; cases h; rfl
  · intro x v F S h _; cases h; rfl
  · intro xs ih v F S h u; cases h with | tup e r => exact ih r (by simpa [D.un] using u)
  · intro o xs ih v F S h u
    cases h with
    | shr e r => rfl
    | mod e r => rfl
    | own e r => simp [D.un] at u
  · intro vs F S h _; cases h; rfl
  · intro d ds i1 i2 vs F S h u
    simp only [unL, Bool.and_eq_true] at u
    cases h with | cons r t => rw [i1 r u.1, i2 t u.2]; rfl
theorem Reps.un : ∀ {ds : List D} {vs : List V} {F S : List Addr}, Reps K H vs ds F S → unL ds = true → F = []
  | [], _, _, _, h, _ => by cases h; rfl
  | _ :: _, _, _, _, h, u => by
    simp only [unL, Bool.and_eq_true] at u
    cases h with | cons r t => rw [r.un u.1, t.un u.2]; rfl
theorem Rep.ns : ∀ {d : D} {v : V} {F S : List Addr}, Rep K H v d F S → d.ns = true → S = [] := by
  intro d
  apply D.rec (motive_1 := fun d => ∀ {v F S}, Rep K H v d F S → d.ns = true → S = []) (motive_2 := fun ds => ∀ {vs F S}, Reps K H vs ds F S → nsL ds = true → S = [])
  · intro v F S h _; cases h; rfl
  · intro b v F S h _; cases h; rfl
  · intro i v F S h _; cases h; rfl
  · intro x v F S h _; cases h; rfl
  · intro xs ih v F S h u; cases h with | tup e r => exact ih r (by simpa [D.ns] using u)
  · intro o xs ih v F S h u
    cases h with
    | shr e r => simp [D.ns] at u
    | mod e r => simp [D.ns] at u
    | own e r => exact ih r (by simpa [D.ns] using u)
  · intro vs F S h _; cases h; rfl
  · intro d ds i1 i2 vs F S h u
    simp only [nsL, Bool.and_eq_true] at u
    cases h with | cons r t => rw [i1 r u.1, i2 t u.2]; rfl
mutual
theorem Rep.dp : ∀ {d : D} {v : V} {F S : List Addr}, Rep K H v d F S → Dp K H v d.py
  | .non, _, _, _, h => by cases h; exact .non
  | .bl b, _, _, _, h => by cases h; exact .bl b
  | .int i, _, _, _, h => by cases h; exact .int i
  | .str x, _, _, _, h => by cases h; exact .str x
  | .tup xs, _, _, _, h => by cases h with | tup e r => exact .tup (.inl e) r.dp
  | .lst o xs, _, _, _, h => by
    cases h with
    | shr e r => exact .lst (.inl e) r.dp
    | mod e r => exact .lst (.inr e) r.dp
    | own e r => exact .lst (SqL.of e) r.dp
theorem Reps.dp : ∀ {ds : List D} {vs : List V} {F S : List Addr}, Reps K H vs ds F S → DpAll K H vs (pyL ds)
  | [], _, _, _, h => by cases h; exact .nil
  | d :: ds, _, _, _, h => by cases h with | cons r t => exact .cons r.dp t.dp
end
/-- the item at a place -/
theorem Reps.get : ∀ {ds : List D} {vs : List V} {F S : List Addr} {j : Nat} {d : D}, Reps K H vs ds F S → ds[j]? = some d →
    ∃ v F1 S1, vs[j]? = some v ∧ Rep K H v d F1 S1 ∧ (∀ a ∈ F1, a ∈ F) ∧ (∀ a ∈ S1, a ∈ S) ∧ (F.Nodup → F1.Nodup)
  | [], _, _, _, j, d, h, e => by simp at e
  | d0 :: ds, _, _, _, 0, d, h, e => by
    cases h with
    | cons r t =>
      simp at e; subst e
      exact ⟨_, _, _, rfl, r, fun a ha => List.mem_append_left _ ha, fun a ha => List.mem_append_left _ ha, fun n => (List.nodup_append.mp n).1⟩
  | d0 :: ds, _, _, _, j + 1, d, h, e => by
    cases h with
    | cons r t =>
      obtain ⟨v, F1, S1, e1, r1, f1, s1, n1⟩ := t.get (j := j) (by simpa using e)
      exact ⟨v, F1, S1, by simpa using e1, r1, fun a ha => List.mem_append_right _ (f1 a ha), fun a ha => List.mem_append_right _ (s1 a ha), fun n => n1 (List.nodup_append.mp n).2.1⟩
/-- the item at a place, and what else there is -/
theorem Reps.split : ∀ {ds : List D} {vs : List V} {F S : List Addr} {j : Nat} {d : D}, Reps K H vs ds F S → ds[j]? = some d →
    ∃ v Fa F1 Fb Sa S1 Sb, vs[j]? = some v ∧ Rep K H v d F1 S1 ∧ F = Fa ++ (F1 ++ Fb) ∧ S = Sa ++ (S1 ++ Sb) ∧
      ∀ (H' : Hp) (M : List Addr) (v' : V) (d' : D) (F1' S1' : List Addr), Kept H H' M → (∀ b ∈ M, IsLst H b) → (∀ a ∈ Fa ++ Fb, a ∉ M) → (∀ a ∈ Sa ++ Sb, a ∉ M) → Rep K H' v' d' F1' S1' →
        Reps K H' (vs.set j v') (ds.set j d') (Fa ++ (F1' ++ Fb)) (Sa ++ (S1' ++ Sb))
  | [], _, _, _, j, d, h, e => by simp at e
  | d0 :: ds, _, _, _, 0, d, h, e => by
    cases h with
    | @cons v0 _ vs0 _ F0 S0 F2 S2 r t =>
      simp at e; subst e
      refine ⟨v0, [], F0, F2, [], S0, S2, rfl, r, rfl, rfl, fun H' M v' d' F1' S1' k m hF hS r' => ?_⟩
      show Reps K H' (v' :: vs0) (d' :: ds) (F1' ++ F2) (S1' ++ S2)
      exact .cons r' (t.kept k m (fun a ha => hF a (by simpa using ha)) fun a ha => hS a (by simpa using ha))
  | d0 :: ds, _, _, _, j + 1, d, h, e => by
    cases h with
    | @cons v0 _ vs0 _ F0 S0 F2 S2 r t =>
      obtain ⟨v, Fa, F1, Fb, Sa, S1, Sb, e1, r1, eF, eS, put⟩ := t.split (j := j) (by simpa using e)
      refine ⟨v, F0 ++ Fa, F1, Fb, S0 ++ Sa, S1, Sb, by simpa using e1, r1, by rw [eF]; simp, by rw [eS]; simp, fun H' M v' d' F1' S1' k m hF hS r' => ?_⟩
      have q := put H' M v' d' F1' S1' k m (fun a ha => hF a (by rcases List.mem_append.mp ha with z | z <;> simp [z])) (fun a ha => hS a (by rcases List.mem_append.mp ha with z | z <;> simp [z])) r'
      have r0 := r.kept k m (fun a ha => hF a (by simp [ha])) (fun a ha => hS a (by simp [ha]))
      have z := Reps.cons r0 q
      simpa [List.append_assoc] using z
end
end Sr
set_option Elab.async false
set_option linter.all false
set_option maxRecDepth 100000
/-! # Sr: what stands while a def runs -/
namespace Sr
open PySem L2

/-- the entry of a def: its heap, what it may change, what it may only read, the slots that stay -/
structure Bs where
  H0 : Hp
  F0 : List Addr
  S0 : List Addr
  pr : List (Nat × V)
/-- no list, no tuple is longer than the line -/
def SzOk (H : Hp) : Prop := ∀ a xs, Rd H a (.lst xs) ∨ Rd H a (.tup xs) → xs.length ≤ sizeLine
theorem rd_upd {H : Hp} {p a : Addr} {o u : HO} (h : Rd (upd H p o) a u) : (a = p ∧ (o = u ∨ ∃ ob, o = .frz ob u)) ∨ Rd H a u := by
  by_cases e : a = p
  · subst e
    rcases h with h | ⟨ob, h⟩
    · rw [upd_same] at h; cases h; exact .inl ⟨rfl, .inl rfl⟩
    · rw [upd_same] at h; cases h; exact .inl ⟨rfl, .inr ⟨ob, rfl⟩⟩
  · rcases h with h | ⟨ob, h⟩
    · rw [upd_ne e] at h; exact .inr (.inl h)
    · rw [upd_ne e] at h; exact .inr (.inr ⟨ob, h⟩)
theorem SzOk.lst {H : Hp} {p : Addr} {vs : List V} (s : SzOk H) (z : vs.length ≤ sizeLine) : SzOk (upd H p (.lst vs)) := fun a xs h => by
  rcases h with h | h <;> rcases rd_upd h with ⟨_, e | ⟨_, e⟩⟩ | h
  · cases e; exact z
  · cases e
  · exact s a xs (.inl h)
  · cases e
  · cases e
  · exact s a xs (.inr h)
theorem SzOk.tup {H : Hp} {p : Addr} {vs : List V} (s : SzOk H) (z : vs.length ≤ sizeLine) : SzOk (upd H p (.tup vs)) := fun a xs h => by
  rcases h with h | h <;> rcases rd_upd h with ⟨_, e | ⟨_, e⟩⟩ | h
  · cases e
  · cases e
  · exact s a xs (.inl h)
  · cases e; exact z
  · cases e
  · exact s a xs (.inr h)
structure Okk (B : Bs) (H : Hp) (F S : List Addr) : Prop where
  nd : F.Nodup
  dj : ∀ a ∈ F, a ∉ S
  fF : ∀ a ∈ F, a ∈ B.F0 ∨ B.H0 a = none
  fS : ∀ a ∈ S, a ∈ B.F0 ∨ a ∈ B.S0 ∨ B.H0 a = none
  kp : Kept B.H0 H B.F0
  sz : SzOk H
abbrev Rt := V × D
abbrev Rs (K : PySem.W.Frag) (H : Hp) (R : List Rt) (F S : List Addr) : Prop := Reps K H (R.map (·.1)) (R.map (·.2)) F S
def W (K : PySem.W.Frag) (B : Bs) (H : Hp) (R : List Rt) : Prop := ∃ F S, Rs K H R F S ∧ Okk B H F S

section
variable {K : PySem.W.Frag} {B : Bs} {H H' : Hp} {R R' : List Rt} {F S F' S' : List Addr}

theorem Okk.less (o : Okk B H F S) (hF : ∀ a ∈ F', a ∈ F) (nF : F'.Nodup) (hS : ∀ a ∈ S', a ∈ S) : Okk B H F' S' :=
  ⟨nF, fun a x y => o.dj a (hF a x) (hS a y), fun a x => o.fF a (hF a x), fun a x => o.fS a (hS a x), o.kp, o.sz⟩
theorem Okk.perm (o : Okk B H F S) (pF : F.Perm F') (pS : S.Perm S') : Okk B H F' S' :=
  o.less (fun a h => pF.mem_iff.mpr h) (pF.nodup_iff.mp o.nd) fun a h => pS.mem_iff.mpr h
theorem Rs.perm (p : R.Perm R') : ∀ {F S}, Rs K H R F S → ∃ F' S', Rs K H R' F' S' ∧ F.Perm F' ∧ S.Perm S' := by
  induction p with
  | nil => intro F S h; exact ⟨_, _, h, .refl _, .refl _⟩
  | cons x _ ih =>
    intro F S h
    cases h with
    | cons r t =>
      obtain ⟨F', S', h', p1, p2⟩ := ih t
      exact ⟨_, _, .cons r h', p1.append_left _, p2.append_left _⟩
  | swap x y l =>
    intro F S h
    cases h with
    | cons r t =>
      cases t with
      | cons r' t =>
        refine ⟨_, _, .cons r' (.cons r t), ?_, ?_⟩
        · exact List.perm_append_comm_assoc _ _ _
        · exact List.perm_append_comm_assoc _ _ _
  | trans _ _ i1 i2 =>
    intro F S h
    obtain ⟨F1, S1, h1, a1, b1⟩ := i1 h
    obtain ⟨F2, S2, h2, a2, b2⟩ := i2 h1
    exact ⟨F2, S2, h2, a1.trans a2, b1.trans b2⟩
theorem W.perm (p : R.Perm R') (w : W K B H R) : W K B H R' := by
  obtain ⟨F, S, h, o⟩ := w
  obtain ⟨F', S', h', p1, p2⟩ := Rs.perm p h
  exact ⟨F', S', h', o.perm p1 p2⟩
theorem W.drop {x : Rt} (w : W K B H (x :: R)) : W K B H R := by
  obtain ⟨F, S, h, o⟩ := w
  cases h with
  | cons r t => exact ⟨_, _, t, o.less (fun a h => List.mem_append_right _ h) (List.nodup_append.mp o.nd).2.1 fun a h => List.mem_append_right _ h⟩
theorem W.dropN : ∀ {R1 : List Rt}, W K B H (R1 ++ R) → W K B H R
  | [], w => w
  | _ :: R1, w => W.dropN (R1 := R1) w.drop
/-- the first one stands for another data, with less of ours -/
theorem W.headW {v v' : V} {d d' : D} (w : W K B H ((v, d) :: R)) (h : ∀ F S, Rep K H v d F S → F.Nodup → ∃ F' S', Rep K H v' d' F' S' ∧ (∀ a ∈ F', a ∈ F) ∧ F'.Nodup ∧ ∀ a ∈ S', a ∈ S ∨ (a ∈ F ∧ a ∉ F')) : W K B H ((v', d') :: R) := by
  obtain ⟨F, S, h0, o⟩ := w
  cases h0 with
  | @cons _ _ _ _ F1 S1 F2 S2 r t =>
    obtain ⟨n1, n2, n3⟩ := List.nodup_append.mp o.nd
    obtain ⟨F', S', r', hF, nF, hS⟩ := h _ _ r n1
    refine ⟨F' ++ F2, S' ++ S2, .cons r' t, ⟨?_, fun a ha hs => ?_, fun a ha => ?_, fun a ha => ?_, o.kp, o.sz⟩⟩
    · exact List.nodup_append.mpr ⟨nF, n2, fun a ha b hb => n3 a (hF a ha) b hb⟩
    · rcases List.mem_append.mp ha with z | z <;> rcases List.mem_append.mp hs with y | y
      · rcases hS a y with q | ⟨q1, q2⟩
        · exact o.dj a (List.mem_append_left _ (hF a z)) (List.mem_append_left _ q)
        · exact q2 z
      · exact o.dj a (List.mem_append_left _ (hF a z)) (List.mem_append_right _ y)
      · rcases hS a y with q | ⟨q1, q2⟩
        · exact o.dj a (List.mem_append_right _ z) (List.mem_append_left _ q)
        · exact n3 a q1 a z rfl
      · exact o.dj a (List.mem_append_right _ z) (List.mem_append_right _ y)
    · rcases List.mem_append.mp ha with z | z
      · exact o.fF a (List.mem_append_left _ (hF a z))
      · exact o.fF a (List.mem_append_right _ z)
    · rcases List.mem_append.mp ha with z | z
      · rcases hS a z with q | ⟨q, _⟩
        · exact o.fS a (List.mem_append_left _ q)
        · rcases o.fF a (List.mem_append_left _ q) with y | y
          · exact .inl y
          · exact .inr (.inr y)
      · exact o.fS a (List.mem_append_right _ z)
theorem W.shr {v : V} {d : D} (w : W K B H ((v, d) :: R)) : W K B H ((v, d.shr) :: R) := w.headW fun F S r n => by
  obtain ⟨S', r', q⟩ := r.shrd
  exact ⟨[], S', r', (fun _ z => nomatch z), List.nodup_nil, fun a ha => (q a ha).elim (fun z => .inr ⟨z, (fun y => nomatch y)⟩) .inl⟩
theorem W.dup {v : V} {d : D} (w : W K B H ((v, d) :: R)) (u : d.un = true) : W K B H ((v, d) :: (v, d) :: R) := by
  obtain ⟨F, S, h, o⟩ := w
  cases h with
  | cons r t =>
    have e := r.un u
    subst e
    refine ⟨_, _, .cons r (.cons r t), ?_⟩
    exact o.less (fun a h => h) o.nd fun a h => by
      rcases List.mem_append.mp h with z | z
      · exact List.mem_append_left _ z
      · exact z
theorem W.add {v : V} {d : D} (w : W K B H R) (r : Rep K H v d [] []) : W K B H ((v, d) :: R) := by
  obtain ⟨F, S, h, o⟩ := w
  exact ⟨_, _, .cons (F := []) (S := []) r h, o⟩
theorem W.int (w : W K B H R) (i : Int) : W K B H ((.int i, .int i) :: R) := w.add (.int i)
theorem W.bl (w : W K B H R) (b : Bool) : W K B H ((.bl b, .bl b) :: R) := w.add (.bl b)
/-- a new tuple of the first ones -/
theorem Reps.app : ∀ {ds : List D} {vs : List V} {F S : List Addr} {ds' : List D} {vs' : List V} {F' S' : List Addr}, Reps K H vs ds F S → Reps K H vs' ds' F' S' → Reps K H (vs ++ vs') (ds ++ ds') (F ++ F') (S ++ S')
  | [], _, _, _, _, _, _, _, h, h' => by cases h; exact h'
  | _ :: _, _, _, _, _, _, _, _, h, h' => by
    cases h with
    | cons r t =>
      have q := Reps.cons r (t.app h')
      simpa [List.append_assoc] using q
theorem Reps.unapp : ∀ {ds : List D} {vs : List V} {ds' : List D} {vs' : List V} {F S : List Addr}, Reps K H (vs ++ vs') (ds ++ ds') F S → vs.length = ds.length → ∃ F1 S1 F2 S2, Reps K H vs ds F1 S1 ∧ Reps K H vs' ds' F2 S2 ∧ F = F1 ++ F2 ∧ S = S1 ++ S2
  | [], [], _, _, F, S, h, _ => ⟨[], [], F, S, .nil, h, rfl, rfl⟩
  | [], _ :: _, _, _, _, _, _, e => by simp at e
  | _ :: _, [], _, _, _, _, _, e => by simp at e
  | _ :: _, _ :: _, _, _, _, _, h, e => by
    cases h with
    | cons r t =>
      obtain ⟨F1, S1, F2, S2, a, b, c, d⟩ := t.unapp (by simpa using e)
      exact ⟨_, _, F2, S2, .cons r a, b, by rw [c, List.append_assoc], by rw [d, List.append_assoc]⟩
theorem Same.new {p : Addr} {o : HO} (h : H p = none) : Same H (upd H p o) := fun b u e => by rw [upd_ne (ne_of_none e h)]; exact e
theorem Okk.fresh {p : Addr} (o : Okk B H F S) (h : H p = none) (nF : ∀ a ∈ F, IsLst H a) : p ∉ F := fun z => by
  obtain ⟨xs, e⟩ := nF p z
  rw [h] at e; cases e
/-- nothing of what was there ahead of the def is new -/
theorem Okk.old {p : Addr} (o : Okk B H F S) (h : H p = none) : B.H0 p = none ∨ p ∈ B.F0 := by
  cases e : B.H0 p with
  | none => exact .inl rfl
  | some u =>
    refine .inr ?_
    by_cases z : p ∈ B.F0
    · exact z
    · have q := o.kp p u e z
      rw [h] at q; cases q
theorem Okk.newT {p : Addr} {vs : List V} (o : Okk B H F S) (h : H p = none) (z : vs.length ≤ sizeLine) : Okk B (upd H p (.tup vs)) F S :=
  ⟨o.nd, o.dj, o.fF, o.fS, fun b u e n => Same.new h b u (o.kp b u e n), o.sz.tup z⟩
theorem W.tupV {vs : List V} {ds : List D} {p : Addr} (w : W K B H ((vs.zip ds) ++ R)) (l : vs.length = ds.length) (h : H p = none) (z : vs.length ≤ sizeLine) : W K B (upd H p (.tup vs)) ((.ref p, .tup ds) :: R) := by
  obtain ⟨F, S, r, o⟩ := w
  unfold Rs at r
  rw [List.map_append, List.map_append, List.map_fst_zip (by omega), List.map_snd_zip (by omega)] at r
  obtain ⟨F1, S1, F2, S2, a, b, c, d⟩ := r.unapp l
  have k := Same.new (o := .tup vs) h
  refine ⟨_, _, .cons (.tup (Rd.of upd_same) (a.same k)) (Reps.same k b), ?_⟩
  rw [← c, ← d]
  exact o.newT h z
theorem Okk.newL {p : Addr} {vs : List V} (o : Okk B H F S) (h : H p = none) (nF : ∀ a ∈ F, IsLst H a) (nS : p ∉ S) (z : vs.length ≤ sizeLine) : Okk B (upd H p (.lst vs)) (p :: F) S :=
  ⟨List.nodup_cons.mpr ⟨o.fresh h nF, o.nd⟩, fun a ha hs => by
      rcases List.mem_cons.mp ha with rfl | ha
      · exact nS hs
      · exact o.dj a ha hs, fun a ha => by
      rcases List.mem_cons.mp ha with rfl | ha
      · exact (o.old h).symm
      · exact o.fF a ha, o.fS, fun b u e n => Same.new h b u (o.kp b u e n), o.sz.lst z⟩
/-- a new list of the first ones -/
theorem W.lstV {vs : List V} {ds : List D} {p : Addr} (w : W K B H ((vs.zip ds) ++ R)) (l : vs.length = ds.length) (h : H p = none) (z : vs.length ≤ sizeLine) : W K B (upd H p (.lst vs)) ((.ref p, .lst true ds) :: R) := by
  obtain ⟨F, S, r, o⟩ := w
  have r0 := r
  unfold Rs at r
  rw [List.map_append, List.map_append, List.map_fst_zip (by omega), List.map_snd_zip (by omega)] at r
  obtain ⟨F1, S1, F2, S2, a, b, c, d⟩ := r.unapp l
  have k := Same.new (o := .lst vs) h
  refine ⟨_, _, .cons (.own upd_same (a.same k)) (Reps.same k b), ?_⟩
  have e : p :: F1 ++ F2 = p :: F := by rw [c]; rfl
  rw [e, ← d]
  exact o.newL h r0.lstF (fun y => r0.thereS p y h) z
end
end Sr
set_option Elab.async false
set_option linter.all false
set_option maxRecDepth 100000
/-! # Sr: the text that stands for a term; readings -/
namespace Sr
open PySem PySem.Spec PyProof.Rows L2

/-! ### slots -/
def er : List (Option V) → Env → List Rt
  | some v :: σ, some d :: e => (v, d) :: er σ e
  | _ :: σ, _ :: e => er σ e
  | _, _ => []
theorem at_iff {e : Env} {i : Nat} {d : D} : e.at i = some d ↔ e[i]? = some (some d) := by
  unfold Env.at
  cases h : e[i]? with
  | none => simp
  | some o => simp
theorem er_none : ∀ {σ : List (Option V)} {e : Env} {i : Nat} {x : Option V}, er (σ.set i x) (e.set i none) = er σ (e.set i none)
  | [], _, _, _ => by simp
  | _ :: _, [], _, _ => by simp [er]
  | a :: σ, b :: e, 0, x => by cases a <;> cases x <;> rfl
  | a :: σ, b :: e, i + 1, x => by
    have ih := er_none (σ := σ) (e := e) (i := i) (x := x)
    cases a <;> cases b <;> simp only [List.set_cons_succ, er, ih]
theorem er_take : ∀ {σ : List (Option V)} {e : Env} {i : Nat} {v : V} {d : D}, σ[i]? = some (some v) → e[i]? = some (some d) → (er σ e).Perm ((v, d) :: er σ (e.set i none))
  | [], _, _, _, _, h, _ => by simp at h
  | _ :: _, [], _, _, _, _, h => by simp at h
  | a :: σ, b :: e, 0, v, d, h1, h2 => by
    simp at h1 h2; subst h1; subst h2
    exact .refl _
  | a :: σ, b :: e, i + 1, v, d, h1, h2 => by
    have ih := er_take (σ := σ) (e := e) (i := i) (by simpa using h1) (by simpa using h2)
    cases a with
    | none => exact ih
    | some u =>
      cases b with
      | none => exact ih
      | some c => exact (ih.cons _).trans (.swap _ _ _)
theorem set_back {e : Env} {i : Nat} {d : D} (h : e[i]? = some none) : (e.set i (some d)).set i none = e := by
  rw [List.set_set]
  apply List.ext_getElem?
  intro j
  by_cases hj : i = j
  · subst hj
    obtain ⟨hl, _⟩ := List.getElem?_eq_some_iff.mp h
    rw [List.getElem?_set_self hl, h]
  · rw [List.getElem?_set_ne hj]

def Fit (σ : List (Option V)) (e : Env) : Prop := σ.length = e.length ∧ ∀ (i : Nat) (d : D), e[i]? = some (some d) → ∃ v, σ[i]? = some (some v)
structure Wd (K : PySem.W.Frag) (B : Bs) (σ : L2.St) (e : Env) (Γ : List Rt) (H : Hp) : Prop where
  fit : Fit σ e
  pr : ∀ p ∈ B.pr, σ[p.1]? = some (some p.2)
  w : W K B H (Γ ++ er σ e)
section
variable {K : PySem.W.Frag} {B : Bs} {σ : L2.St} {e : Env} {Γ Γ' : List Rt} {H H' : Hp}
theorem Fit.none (f : Fit σ e) (i : Nat) : Fit σ (e.set i none) := ⟨by rw [List.length_set]; exact f.1, fun j d h => by
  by_cases hj : i = j
  · subst hj
    by_cases hl : i < e.length
    · rw [List.getElem?_set_self hl] at h; cases h
    · rw [List.getElem?_eq_none (by rw [List.length_set]; omega)] at h; cases h
  · rw [List.getElem?_set_ne hj] at h; exact f.2 j d h⟩
theorem Fit.put {i : Nat} {v : V} {d : D} (f : Fit σ e) (h : σ[i]? = some (some v)) : Fit σ (e.set i (some d)) := ⟨by rw [List.length_set]; exact f.1, fun j d' h' => by
  by_cases hj : i = j
  · subst hj; exact ⟨v, h⟩
  · rw [List.getElem?_set_ne hj] at h'; exact f.2 j d' h'⟩
theorem Fit.asg {i : Nat} {v : V} {d : D} (f : Fit σ e) (hi : i < σ.length) : Fit (σ.set i (some v)) (e.set i (some d)) := ⟨by rw [List.length_set, List.length_set]; exact f.1, fun j d' h' => by
  by_cases hj : i = j
  · subst hj; exact ⟨v, List.getElem?_set_self hi⟩
  · rw [List.getElem?_set_ne hj] at h'
    rw [List.getElem?_set_ne hj]; exact f.2 j d' h'⟩
theorem Wd.read {i : Nat} {d : D} (w : Wd K B σ e Γ H) (h : e.at i = some d) : ∃ v, σ[i]? = some (some v) ∧ W K B H ((v, d) :: (Γ ++ er σ (e.set i none))) := by
  have h' := at_iff.mp h
  obtain ⟨v, hv⟩ := w.fit.2 i d h'
  exact ⟨v, hv, w.w.perm (((er_take hv h').append_left Γ).trans List.perm_middle)⟩
theorem Wd.move {i : Nat} {d : D} {v : V} (w : Wd K B σ e Γ H) (h : e.at i = some d) (hv : σ[i]? = some (some v)) : Wd K B σ (e.set i none) ((v, d) :: Γ) H := by
  have h' := at_iff.mp h
  exact ⟨w.fit.none i, w.pr, w.w.perm (((er_take hv h').append_left Γ).trans List.perm_middle)⟩
/-- what was taken out of a slot is put back -/
theorem Wd.put {i : Nat} {d : D} {v : V} (w : Wd K B σ e ((v, d) :: Γ) H) (h : e[i]? = some none) (hv : σ[i]? = some (some v)) : Wd K B σ (e.set i (some d)) Γ H := by
  refine ⟨w.fit.put hv, w.pr, w.w.perm ?_⟩
  have hl : i < e.length := (List.getElem?_eq_some_iff.mp h).1
  have q := er_take (e := e.set i (some d)) (d := d) hv (List.getElem?_set_self hl)
  rw [set_back h] at q
  exact (List.perm_middle.symm.trans (q.symm.append_left Γ))
theorem Wd.copy {i : Nat} {d : D} {v : V} (w : Wd K B σ e Γ H) (h : e.at i = some d) (hv : σ[i]? = some (some v)) (u : d.un = true) : Wd K B σ e ((v, d) :: Γ) H := by
  have h' := at_iff.mp h
  have m := w.move h hv
  have p := er_take hv h'
  refine ⟨w.fit, w.pr, ?_⟩
  have q : W K B H ((v, d) :: (v, d) :: (Γ ++ er σ (e.set i none))) := W.dup m.w u
  exact q.perm ((List.perm_middle.symm.trans (p.symm.append_left Γ)).cons _)
theorem Wd.asg {i : Nat} {d : D} {v : V} (w : Wd K B σ e ((v, d) :: Γ) H) (hi : i < σ.length) (hp : ∀ p ∈ B.pr, p.1 ≠ i) : Wd K B (σ.set i (some v)) (e.set i (some d)) Γ H := by
  have hl : i < e.length := by rw [← w.fit.1]; exact hi
  have w1 : Wd K B σ (e.set i none) ((v, d) :: Γ) H := by
    refine ⟨w.fit.none i, w.pr, ?_⟩
    have hw := w.w
    cases h : e[i]? with
    | none => rw [List.getElem?_eq_none_iff] at h; omega
    | some o =>
      cases o with
      | none =>
        have : e.set i none = e := by
          apply List.ext_getElem?
          intro j
          by_cases hj : i = j
          · subst hj; rw [List.getElem?_set_self hl, h]
          · rw [List.getElem?_set_ne hj]
        rw [this]; exact hw
      | some d' =>
        obtain ⟨v', hv'⟩ := w.fit.2 i d' h
        have q := hw.perm (((er_take hv' h).append_left _).trans List.perm_middle)
        exact q.drop
  have w2 : Wd K B (σ.set i (some v)) (e.set i none) ((v, d) :: Γ) H := by
    refine ⟨⟨by rw [List.length_set]; exact w1.fit.1, fun j d' h' => ?_⟩, fun p hp' => ?_, by rw [er_none]; exact w1.w⟩
    · by_cases hj : i = j
      · subst hj; exact ⟨v, List.getElem?_set_self hi⟩
      · rw [List.getElem?_set_ne hj]; exact w1.fit.2 j d' h'
    · rw [List.getElem?_set_ne (Ne.symm (hp p hp'))]; exact w.pr p hp'
  have q := w2.put (i := i) (by rw [List.getElem?_set_self hl]) (List.getElem?_set_self hi)
  rw [List.set_set] at q
  exact q
theorem Wd.kill1 (w : Wd K B σ e Γ H) (i : Nat) : Wd K B σ (e.set i none) Γ H := by
  cases h : e.at i with
  | none =>
    have : e.set i none = e := by
      apply List.ext_getElem?
      intro j
      by_cases hj : i = j
      · subst hj
        by_cases hl : i < e.length
        · rw [List.getElem?_set_self hl]
          unfold Env.at at h
          cases q : e[i]? with
          | none => rw [List.getElem?_eq_none_iff] at q; omega
          | some o => rw [q] at h; simp at h; rw [h]
        · rw [List.getElem?_eq_none (by rw [List.length_set]; omega), List.getElem?_eq_none (by omega)]
      · rw [List.getElem?_set_ne hj]
    rw [this]; exact w
  | some d =>
    obtain ⟨v, hv⟩ := w.fit.2 i d (at_iff.mp h)
    have m := w.move h hv
    exact ⟨m.fit, m.pr, m.w.drop⟩
theorem Wd.kill (w : Wd K B σ e Γ H) (ks : List Nat) : Wd K B σ (Sr.kill ks e) Γ H := by
  induction ks generalizing e with
  | nil => exact w
  | cons i r ih => exact ih (w.kill1 i)
theorem Wd.drop {x : Rt} (w : Wd K B σ e (x :: Γ) H) : Wd K B σ e Γ H := ⟨w.fit, w.pr, w.w.drop⟩
theorem Wd.shr {v : V} {d : D} (w : Wd K B σ e ((v, d) :: Γ) H) : Wd K B σ e ((v, d.shr) :: Γ) H := ⟨w.fit, w.pr, w.w.shr⟩
theorem Wd.swap {x y : Rt} (w : Wd K B σ e (x :: y :: Γ) H) : Wd K B σ e (y :: x :: Γ) H := ⟨w.fit, w.pr, w.w.perm (.swap _ _ _)⟩
theorem Wd.drop2 {x y : Rt} (w : Wd K B σ e (x :: y :: Γ) H) : Wd K B σ e (x :: Γ) H := w.swap.drop
theorem Wd.int (w : Wd K B σ e Γ H) (i : Int) : Wd K B σ e ((.int i, .int i) :: Γ) H := ⟨w.fit, w.pr, w.w.int i⟩
theorem Wd.bl (w : Wd K B σ e Γ H) (b : Bool) : Wd K B σ e ((.bl b, .bl b) :: Γ) H := ⟨w.fit, w.pr, w.w.bl b⟩
theorem Wd.head {v : V} {d : D} (w : Wd K B σ e ((v, d) :: Γ) H) : ∃ F S, Rep K H v d F S := by
  obtain ⟨F, S, r, _⟩ := w.w
  cases r with | cons r _ => exact ⟨_, _, r⟩
theorem Wd.headInt {v : V} {i : Int} (w : Wd K B σ e ((v, .int i) :: Γ) H) : v = .int i := by
  obtain ⟨F, S, r⟩ := w.head; cases r; rfl
theorem Wd.headBl {v : V} {b : Bool} (w : Wd K B σ e ((v, .bl b) :: Γ) H) : v = .bl b := by
  obtain ⟨F, S, r⟩ := w.head; cases r; rfl
end

/-! ### the text of a term -/
/-- the names of a def; the functions' names -/
structure Nm where
  N : List Str
  fn : Nat → Str
  nf : Nat → Bool
def visB (sc : Scope) (x : Str) : Bool := match sc.names.lookup x with
  | some .local => true
  | some .cell => true
  | some .free => true
  | _ => false
def glB (sc : Scope) (x : Str) : Bool := match sc.names.lookup x with
  | some .globalImplicit => true
  | _ => false
def bop : Bop → Operator → Bool
  | .add, .Add => true
  | .sub, .Sub => true
  | .mul, .Mult => true
  | .fdv, .FloorDiv => true
  | .mod, .Mod => true
  | .pow, .Pow => true
  | _, _ => false
def cop : Cop → CmpOp → Bool
  | .lt, .Lt => true
  | .le, .LtE => true
  | .gt, .Gt => true
  | .ge, .GtE => true
  | _, _ => false
def b1name : B1 → String
  | .len => "len"
  | .abs => "abs"
  | .int => "int"
  | .list => "list"
  | .tuple => "tuple"
  | .sum => "sum"
  | .minL => "min"
  | .maxL => "max"
  | .isInt => "isinstance"
  | .isBool => "isinstance"
  | .isList => "isinstance"
  | .isTuple => "isinstance"
  | .isStr => "isinstance"
  | .sorted => "sorted"
def b1ty : B1 → Option String
  | .isInt => some "int"
  | .isBool => some "bool"
  | .isList => some "list"
  | .isTuple => some "tuple"
  | .isStr => some "str"
  | _ => none
def bnname : BN → String
  | .min2 => "min"
  | .max2 => "max"
  | .max3 => "max"
/-- the name of a built-in stands there -/
def bltB (sc : Scope) (s : String) (x : Str) : Bool := decide (x = Str.ofString s) && glB sc x
def nameB (n : Nm) (sc : Scope) (i : Nat) (x : Str) : Bool := decide (n.N[i]? = some x) && visB sc x && !(x == ("__debug__" : Str)) && !(x == ("__classdict__" : Str))
/-- a name that is stored -/
def locB (sc : Scope) (x : Str) : Bool := match sc.names.lookup x with
  | some .local => true
  | some .cell => true
  | _ => false
def tgB (n : Nm) (sc : Scope) : List Nat → Expr → Bool
  | [i], .Name x _ => decide (n.N[i]? = some x) && locB sc x
  | [i, j], .Tuple [.Name x _, .Name y _] _ _ => decide (n.N[i]? = some x) && locB sc x && decide (n.N[j]? = some y) && locB sc y
  | [i, j, k], .Tuple [.Name x _, .Name y _, .Name z _] _ _ => decide (n.N[i]? = some x) && locB sc x && decide (n.N[j]? = some y) && locB sc y && decide (n.N[k]? = some z) && locB sc z
  | _, _ => false
/-- the names of the targets, with their slots -/
def ownOf (n : Nm) (tg : List Nat) : List (Str × Nat) := tg.filterMap fun i => (n.N[i]?).map fun x => (x, i)
/-- a call of a name without keywords -/
def asCall : Expr → Option (Str × List Expr)
  | .Call (.Name x _) es [] _ => some (x, es)
  | _ => none
theorem asCall_of {e : Expr} {x : Str} {es : List Expr} (h : asCall e = some (x, es)) : ∃ p pos, e = .Call (.Name x p) es [] pos := by
  unfold asCall at h
  split at h
  · cases h; exact ⟨_, _, rfl⟩
  · cases h
def asInt : Expr → Option Int
  | .Constant (.int i) _ _ => some i
  | _ => none
theorem asInt_of {e : Expr} {i : Int} (h : asInt e = some i) : ∃ k p, e = .Constant (.int i) k p := by
  unfold asInt at h
  split at h
  · cases h; exact ⟨_, _, rfl⟩
  · cases h
def okTg : T → List Nat → Bool
  | .zip _ _, tg => decide (tg.length = 2)
  | _, _ => true
/-- what may be lent -/
def okLend : T → Bool
  | .lc .. => true
  | .call .. => true
  | .b1 .. => true
  | _ => false
mutual
def chkE (n : Nm) : Scope → T → Expr → Bool
  | sc, .v i, .Name x _ => nameB n sc i x
  | sc, .w i, .Name x _ => nameB n sc i x
  | _, .non, .Constant .none _ _ => true
  | _, .bl b, .Constant (.bool c) _ _ => b == c
  | _, .int i, .Constant (.int j) _ _ => decide (i = j)
  | _, .str x, .Constant (.str y) _ _ => decide (x = y)
  | sc, .frz a, e => chkE n sc a e
  | sc, .lend a, e => okLend a && chkE n sc a e
  | sc, .bin o a b, .BinOp e p f _ => bop o p && chkE n sc a e && chkE n sc b f
  | sc, .neg a, .UnaryOp .USub e _ => chkE n sc a e
  | sc, .cmp o a b, .Compare e [p] [f] _ => cop o p && chkE n sc a e && chkE n sc b f
  | sc, .eq a b, .Compare e [.Eq] [f] _ => chkE n sc a e && chkE n sc b f
  | sc, .ne a b, .Compare e [.NotEq] [f] _ => chkE n sc a e && chkE n sc b f
  | sc, .inn a b, .Compare e [.In] [f] _ => !behindInMarks .In f && chkE n sc a e && chkE n sc b f
  | sc, .nin a b, .Compare e [.NotIn] [f] _ => !behindInMarks .NotIn f && chkE n sc a e && chkE n sc b f
  | sc, .isN a, .Compare e [.Is] [.Constant .none _ _] _ => chkE n sc a e
  | sc, .nisN a, .Compare e [.IsNot] [.Constant .none _ _] _ => chkE n sc a e
  | sc, .chain o o' a b c, .Compare e [p, q] [f, g] _ => cop o p && cop o' q && chkE n sc a e && chkE n sc b f && chkE n sc c g
  | sc, .and a b, .BoolOp .And (e :: f :: r) pos => chkE n sc a e && (match r with
    | [] => chkE n sc b f
    | _ => chkE n sc b (.BoolOp .And (f :: r) pos))
  | sc, .or a b, .BoolOp .Or (e :: f :: r) pos => chkE n sc a e && (match r with
    | [] => chkE n sc b f
    | _ => chkE n sc b (.BoolOp .Or (f :: r) pos))
  | sc, .not a, .UnaryOp .Not e _ => chkE n sc a e
  | sc, .ife c a b, .IfExp g e f _ => chkE n sc c g && chkE n sc a e && chkE n sc b f
  | sc, .tup a, .Tuple es _ _ => chkL n sc a es
  | sc, .lst a, .List es _ => chkL n sc a es
  | sc, .ix a b, .Subscript e f _ => chkE n sc a e && chkE n sc b f
  | sc, .sl a lo hi, .Subscript e (.Slice l h none _) _ => chkE n sc a e && (match l with
    | none => (match lo with | .nil => true | _ => false)
    | some f => chkE n sc lo f) && (match h with
    | none => (match hi with | .nil => true | _ => false)
    | some f => chkE n sc hi f)
  | sc, .call f a, .Call (.Name x _) es [] _ => decide (x = n.fn f) && n.nf f && glB sc x && !(x == ("__debug__" : Str)) && chkL n sc a es
  | sc, .b1 k a, .Call (.Name x _) es [] _ => bltB sc (b1name k) x && (match b1ty k, es with
    | none, [e] => chkE n sc a e
    | some s, [e, .Name y _] => bltB sc s y && chkE n sc a e
    | _, _ => false)
  | sc, .bn k a, .Call (.Name x _) es [] _ => bltB sc (bnname k) x && chkL n sc a es
  | sc, .lc tg it c el, .ListComp e [⟨g, i, fs, as⟩] scope _ => decide (as = 0) && chkI n sc it i && tgB n scope tg g && okTg it tg && blkC n.N sc scope (ownOf n tg) && (match fs with
      | [] => (match c with | .bl true => true | _ => false)
      | [f] => chkE n (relS scope sc) c f
      | _ => false) && chkE n (relS scope sc) el e
  | _, _, _ => false
def chkL (n : Nm) : Scope → T → List Expr → Bool
  | _, .nil, [] => true
  | sc, .cons a r, e :: es => chkE n sc a e && chkL n sc r es
  | _, _, _ => false
def chkI (n : Nm) : Scope → T → Expr → Bool
  | sc, .rng1 a, e => match asCall e with
    | some (x, [y]) => bltB sc "range" x && chkE n sc a y
    | _ => false
  | sc, .rng2 a b, e => match asCall e with
    | some (x, [y, z]) => bltB sc "range" x && chkE n sc a y && chkE n sc b z
    | _ => false
  | sc, .rng3 a b c, e => match asCall e with
    | some (x, [y, z, u]) => bltB sc "range" x && chkE n sc a y && chkE n sc b z && decide (asInt u = some c)
    | _ => false
  | sc, .zip a b, e => match asCall e with
    | some (x, [y, z]) => bltB sc "zip" x && chkE n sc a y && chkE n sc b z
    | _ => false
  | sc, .itr a, e => chkE n sc a e
  | _, _, _ => false
end
end Sr
set_option Elab.async false
set_option linter.all false
set_option maxRecDepth 100000
set_option maxHeartbeats 1000000
/-! # Sr: what is read without a change -/
namespace Sr
open PySem PySem.Spec PyProof.Rows L2

/-! ### shapes -/
def plE : Expr → Bool
  | .Starred .. => false
  | .Slice .. => false
  | .Set .. => false
  | _ => true
section
variable {n : Nm}
theorem chk_star {a p} : ∀ {t sc}, chkE n sc t (.Starred a p) = false := by
  intro t
  induction t with
  | frz a ih => intro sc; rw [chkE]; exact ih
  | lend a ih => intro sc; rw [chkE, ih, Bool.and_false]
  | _ => intro sc; first | rfl | (rw [chkE]; done) | simp [chkE]
theorem chk_slice {a b c p} : ∀ {t sc}, chkE n sc t (.Slice a b c p) = false := by
  intro t
  induction t with
  | frz a ih => intro sc; rw [chkE]; exact ih
  | lend a ih => intro sc; rw [chkE, ih, Bool.and_false]
  | _ => intro sc; first | rfl | (rw [chkE]; done) | simp [chkE]
theorem chk_set {a b p} : ∀ {t sc}, chkE n sc t (.Set a b p) = false := by
  intro t
  induction t with
  | frz a ih => intro sc; rw [chkE]; exact ih
  | lend a ih => intro sc; rw [chkE, ih, Bool.and_false]
  | _ => intro sc; first | rfl | (rw [chkE]; done) | simp [chkE]
theorem chk_pl {t sc e} (h : chkE n sc t e = true) : plE e = true := by
  cases e <;> first | rfl | (rw [chk_star] at h; cases h) | (rw [chk_slice] at h; cases h) | (rw [chk_set] at h; cases h)
end
theorem star_pl {e : Expr} {es : List Expr} {env : PySem.Env} (h : plE e = true) : starEach (e :: es) env = (false, eval e env) :: starEach es env := by
  cases e <;> first | rfl | cases h
theorem plainIx_pl {e : Expr} (h : plE e = true) : PlainIx e := by
  intro o i
  cases e <;> first | rfl | cases h
theorem nomarkE (b : Expr) {op : CmpOp} (h : op ≠ .In) (h2 : op ≠ .NotIn) : behindInMarks op b = false := nobehind b h h2

/-! ### where a def's body stands -/
def bltNames : List Str := ["len", "abs", "int", "list", "tuple", "sum", "min", "max", "isinstance", "sorted", "range", "zip", "bool", "str"]
/-- the promise of a function -/
def spOf (K : PySem.W.Frag) (Φ : Fs) (f : Nat) : Sp := fun vs H Q _ => ∃ (ds : List D) (r : D) (os : List (Option D)) (F S : List Addr),
  vs.length = (Φ.io f).length ∧ Reps K H vs ds F S ∧ Okk ⟨H, F, S, []⟩ H F S ∧ Φ.run f ds = some (r, os) ∧
  ∀ v H', W K ⟨H, F, S, []⟩ H' ((v, r) :: er (vs.map some) os) → Q v H'
structure OkX (Φ : Fs) (k : Nat) (n : Nm) (X : Cx) (sc : Scope) : Prop where
  N : X.N = n.N
  nd : X.N.Nodup
  sc : X.env.scope = sc
  calm : X.calm = true
  xe : X.xe = fun _ _ => False
  lv : Room k X.A
  lv0 : Room 0 X.A
  bt : ∀ x ∈ bltNames, X.mg x = none
  fns : ∀ f, n.nf f = true → ∃ A fd ps, X.mg (n.fn f) = some (.ref A) ∧ PySem.W.keepIn X.K (.ref A) = true ∧ Binds X.K fd ps [] ∧ FnOk X.prog X.w X.K X.mg X.base CX0 k A fd ps (spOf X.K Φ f)

section
variable {Φ : Fs} {k : Nat} {n : Nm} {X : Cx} {sc : Scope}
theorem OkX.vis (O : OkX Φ k n X sc) {x : Str} (h : visB sc x = true) : Vis X.env.scope x := by
  rw [O.sc]
  unfold visB at h
  split at h
  · exact .inl (by assumption)
  · exact .inr (.inl (by assumption))
  · exact .inr (.inr (by assumption))
  · cases h
theorem OkX.gl (O : OkX Φ k n X sc) {x : Str} (h : glB sc x = true) : Gl X x := by
  show X.env.scope.names.lookup x = _
  rw [O.sc]
  unfold glB at h
  split at h
  · assumption
  · cases h
theorem nameB_iff {i : Nat} {x : Str} (h : nameB n sc i x = true) : n.N[i]? = some x ∧ visB sc x = true ∧ (x == ("__debug__" : Str)) = false ∧ (x == ("__classdict__" : Str)) = false := by
  unfold nameB at h
  simp only [Bool.and_eq_true, Bool.not_eq_true', decide_eq_true_eq] at h
  exact ⟨h.1.1.1, h.1.1.2, h.1.2, h.2⟩
theorem OkX.name (O : OkX Φ k n X sc) {i : Nat} {x : Str} {pos : Pos} (h : nameB n sc i x = true) : PE X (.Name x pos) (tVar i) := by
  obtain ⟨a, b, c, d⟩ := nameB_iff h
  exact pe_var (by rw [O.N]; exact a) (O.vis b) c d
theorem bltB_iff {s : String} {x : Str} (h : bltB sc s x = true) : x = Str.ofString s ∧ glB sc x = true := by
  unfold bltB at h
  simp only [Bool.and_eq_true, decide_eq_true_eq] at h
  exact h
theorem _root_.L2.PE.imp {e : Expr} {t t' : TE} (h : PE X e t) (i : ∀ σ H Q, t' σ H Q → t σ H Q) : PE X e t' := ⟨fun pins s σ H Q I q => h.run pins s σ H Q I (i σ H Q q)⟩
theorem _root_.L2.PT.imp {e : Expr} {t t' : TT} (h : PT X e t) (i : ∀ σ H Q, t' σ H Q → t σ H Q) : PT X e t' := ⟨fun pins s σ H Q I q => h.run pins s σ H Q I (i σ H Q q)⟩
theorem _root_.L2.PA.imp {e : List Expr} {t t' : TA} (h : PA X e t) (i : ∀ σ H Q, t' σ H Q → t σ H Q) : PA X e t' := ⟨fun p pins s σ H Q I q => h.run p pins s σ H Q I (i σ H Q q)⟩
theorem _root_.L2.PI.imp {tg e : Expr} {t t' : TI} (h : PI X tg e t) (i : ∀ σ H R, t' σ H R → t σ H R) : PI X tg e t' := ⟨fun pins s σ H R I q => h.run pins s σ H R I (i σ H R q)⟩
theorem _root_.L2.PS.imp {e : Stmt} {t t' : TS} (h : PS X e t) (i : ∀ D σ H, t' D σ H → t D σ H) : PS X e t' := ⟨fun pins s σ H D I q => h.run pins s σ H D I (i D σ H q)⟩
theorem _root_.L2.PSs.imp {e : List Stmt} {t t' : TS} (h : PSs X e t) (i : ∀ D σ H, t' D σ H → t D σ H) : PSs X e t' := ⟨fun pins s σ H D I q => h.run pins s σ H D I (i D σ H q)⟩
end

/-! ### the operators on ints -/
theorem op_fdv {X : Cx} : OpR X (binaryOp .FloorDiv) (rI (fun _ j => j ≠ 0 ∧ j.natAbs.log2 < 9000) fun i j => .int (i.fdiv j)) := opI fun i j _ _ _ _ _ hc q => floordiv_int hc.1 q (.inl (PyProof.noPylong_of_log2 hc.2))
theorem op_mulF {X : Cx} : OpR X (binaryOp .Mult) (rI (fun i j => IntMulOk i j) fun i j => .int (i * j)) := opI fun _ _ _ _ _ _ _ hc q => mul_int q hc
/-- the operator on two ints -/
def rBin (o : Bop) : R2 := fun x y H Q => ∃ i j r, x = .int i ∧ y = .int j ∧ binI o i j = some r ∧ Q (.int r) H
theorem op_bin {X : Cx} {o : Bop} {p : Operator} (h : bop o p = true) : OpR X (binaryOp p) (rBin o) := by
  intro pins s σ H x y v u Q I rx ry q
  obtain ⟨i, j, r, ex, ey, e, q⟩ := q
  cases o <;> cases p <;> first | cases h | skip
  · exact op_add pins s σ H x y v u Q I rx ry ⟨i, j, ex, ey, by cases e; exact q⟩
  · exact op_sub pins s σ H x y v u Q I rx ry ⟨i, j, ex, ey, by cases e; exact q⟩
  · simp only [binI] at e
    split at e
    · rename_i hm
      cases e
      exact op_mulF pins s σ H x y v u Q I rx ry ⟨i, j, ex, ey, hm, q⟩
    · cases e
  · simp only [binI] at e
    split at e
    · rename_i hm
      cases e
      exact op_fdv pins s σ H x y v u Q I rx ry ⟨i, j, ex, ey, hm, q⟩
    · cases e
  · simp only [binI] at e
    split at e
    · cases e
    · rename_i hm
      cases e
      exact op_modN pins s σ H x y v u Q I rx ry ⟨i, j, ex, ey, hm, q⟩
  · simp only [binI] at e
    split at e
    · rename_i hm
      cases e
      exact op_pow pins s σ H x y v u Q I rx ry ⟨i, j, ex, ey, hm, q⟩
    · cases e
def rCmp (o : Cop) : R2 := fun x y H Q => ∃ i j, x = .int i ∧ y = .int j ∧ Q (.bl (cmpI o i j)) H
theorem op_cmp {X : Cx} {o : Cop} {p : CmpOp} (h : cop o p = true) : OpR X (compareOp p) (rCmp o) := by
  intro pins s σ H x y v u Q I rx ry q
  obtain ⟨i, j, ex, ey, q⟩ := q
  cases o <;> cases p <;> first | cases h | skip
  · exact op_lt pins s σ H x y v u Q I rx ry ⟨i, j, ex, ey, q⟩
  · exact op_le pins s σ H x y v u Q I rx ry ⟨i, j, ex, ey, q⟩
  · exact op_gt pins s σ H x y v u Q I rx ry ⟨i, j, ex, ey, q⟩
  · exact op_ge pins s σ H x y v u Q I rx ry ⟨i, j, ex, ey, q⟩
theorem cop_mark {o : Cop} {p : CmpOp} (h : cop o p = true) (b : Expr) : behindInMarks p b = false := by
  cases o <;> cases p <;> first | exact absurd h (by decide) | exact nobehind b (by decide) (by decide)

/-! ### what is read without a change -/
/-- v stands for d, as a part of what there is -/
structure Brw (K : PySem.W.Frag) (B : Bs) (H : Hp) (R : List Rt) (v : V) (d : D) : Prop where
  ex : ∃ F S F1 S1, Rs K H R F S ∧ Okk B H F S ∧ Rep K H v d F1 S1 ∧ (∀ a ∈ F1, a ∈ F) ∧ (∀ a ∈ S1, a ∈ S) ∧ F1.Nodup
def tP (K : PySem.W.Frag) (t : T) : TE := fun σ H Q => ∃ B e Γ d, Wd K B σ e Γ H ∧ evP t e = some d ∧ ∀ v, Brw K B H (Γ ++ er σ e) v d → Q v H
section
variable {K : PySem.W.Frag} {B : Bs} {H : Hp} {R : List Rt} {v : V} {d : D}
theorem Brw.flat {v : V} {d : D} (w : W K B H R) (r : Rep K H v d [] []) : Brw K B H R v d := by
  obtain ⟨F, S, h, o⟩ := w
  exact ⟨F, S, [], [], h, o, r, (fun _ z => nomatch z), (fun _ z => nomatch z), List.nodup_nil⟩
theorem Brw.int {v : V} {i : Int} (b : Brw K B H R v (.int i)) : v = .int i := by
  obtain ⟨F, S, F1, S1, h, o, r, _⟩ := b.ex
  cases r; rfl
theorem Brw.rep (b : Brw K B H R v d) : ∃ F S, Rep K H v d F S := by
  obtain ⟨F, S, F1, S1, h, o, r, _⟩ := b.ex
  exact ⟨_, _, r⟩
theorem Brw.un (b : Brw K B H R v d) (u : d.un = true) : W K B H ((v, d) :: R) := by
  obtain ⟨F, S, F1, S1, h, o, r, f, s, nn⟩ := b.ex
  have e := r.un u
  subst e
  exact ⟨_, _, .cons r h, o.less (fun a z => z) o.nd fun a z => (List.mem_append.mp z).elim (s a) id⟩
theorem atI_of {α : Type} {xs : List α} {k : Int} {x : α} (h : atI xs k = some x) : ∃ j, ixN xs.length k = some j ∧ xs[j]? = some x := by
  unfold atI at h
  cases e : ixN xs.length k with
  | none => rw [e] at h; cases h
  | some j => rw [e] at h; exact ⟨j, rfl, h⟩
/-- the items of a list or a tuple -/
theorem Rep.items {F S : List Addr} {xs : List D} (r : Rep K H v d F S) (h : items d = some xs) : ∃ a vs F1 S1, v = .ref a ∧ (SqL K H a vs ∨ SqT K H a vs) ∧ Reps K H vs xs F1 S1 ∧ (∀ b ∈ F1, b ∈ F) ∧ (∀ b ∈ S1, b ∈ S) ∧ (F.Nodup → F1.Nodup) := by
  cases d with
  | tup ys =>
    cases h
    cases r with | tup e r => exact ⟨_, _, _, _, rfl, .inr (.inl e), r, fun _ z => z, fun _ z => z, id⟩
  | lst o ys =>
    cases h
    cases r with
    | mod e r => exact ⟨_, _, _, _, rfl, .inl (.inr e), r, fun _ z => z, fun _ z => z, fun _ => List.nodup_nil⟩
    | shr e r => exact ⟨_, _, _, _, rfl, .inl (.inl e), r, fun _ z => z, fun _ z => List.mem_cons_of_mem _ z, fun _ => List.nodup_nil⟩
    | own e r => exact ⟨_, _, _, _, rfl, .inl (SqL.of e), r, fun _ z => List.mem_cons_of_mem _ z, fun _ z => z, fun n => (List.nodup_cons.mp n).2⟩
  | _ => cases h
theorem Brw.item {k : Int} {x : D} (b : Brw K B H R v d) (h : atD d k = some x) : ∃ a vs u, v = .ref a ∧ (SqL K H a vs ∨ SqT K H a vs) ∧ atI vs k = some u ∧ Brw K B H R u x := by
  obtain ⟨F, S, F1, S1, h0, o, r, f, s, nn⟩ := b.ex
  unfold atD at h
  cases e : Sr.items d with
  | none => rw [e] at h; cases h
  | some xs =>
    rw [e] at h
    obtain ⟨a, vs, F2, S2, ev, q, rs, f2, s2, n2⟩ := r.items e
    obtain ⟨j, hj, hx⟩ := atI_of h
    obtain ⟨u, F3, S3, hu, r3, f3, s3, n3⟩ := rs.get hx
    refine ⟨a, vs, u, ev, q, ?_, ⟨F, S, F3, S3, h0, o, r3, fun z y => f z (f2 z (f3 z y)), fun z y => s z (s2 z (s3 z y)), n3 (n2 nn)⟩⟩
    unfold atI
    rw [rs.len, hj]
    exact hu
end
/-- an item by its place: a list's or a tuple's -/
theorem ix_seqV {X : Cx} : IxR X (fun x y H Q => ∃ p xs i v, x = .ref p ∧ y = .int i ∧ (SqL X.K H p xs ∨ SqT X.K H p xs) ∧ atI xs i = some v ∧ Q v H) := by
  intro value slice pins s σ H x y v u Q I rx ry h hs
  obtain ⟨p, xs, i, z, ex, ey, q, hz, hq⟩ := h
  rcases q with q | q
  · exact ix_list value slice pins s σ H x y v u Q I rx ry ⟨p, xs, i, z, ex, ey, q, hz, hq⟩ hs
  · exact ix_tup value slice pins s σ H x y v u Q I rx ry ⟨p, xs, i, z, ex, ey, q, hz, hq⟩ hs
section
variable {Φ : Fs} {k : Nat} {n : Nm} {X : Cx} {sc : Scope}
theorem OkX.blt (O : OkX Φ k n X sc) {x : Str} (h : x ∈ bltNames) : X.mg x = none := O.bt x h
theorem evP_ok : ∀ {t : T} {e : Expr}, OkX Φ k n X sc → isP t = true → chkE n sc t e = true → PE X e (tP X.K t) := by
  intro t
  induction t with
  | v i =>
    intro e O _ h
    cases e <;> try (simp [chkE] at h; done)
    rw [chkE] at h
    refine (O.name h).imp fun σ H Q q => ?_
    obtain ⟨B, env, Γ, d, w, hd, q⟩ := q
    rw [evP] at hd
    obtain ⟨v, hv, _⟩ := w.read hd
    refine ⟨v, hv, q v ?_⟩
    obtain ⟨F, S, r, o⟩ := w.w
    have p := ((er_take hv (at_iff.mp hd)).append_left Γ).trans List.perm_middle
    obtain ⟨F', S', r', p1, p2⟩ := Rs.perm p r
    cases r' with
    | cons r1 r2 => exact ⟨F, S, _, _, r, o, r1, fun a z => p1.mem_iff.mpr (List.mem_append_left _ z), fun a z => p2.mem_iff.mpr (List.mem_append_left _ z), (List.nodup_append.mp (p1.nodup_iff.mp o.nd)).1⟩
  | non =>
    intro e O _ h
    cases e <;> try (simp [chkE] at h; done)
    rename_i c _ _
    cases c <;> try (simp [chkE] at h; done)
    refine pe_non.imp fun σ H Q q => ?_
    obtain ⟨B, env, Γ, d, w, hd, q⟩ := q
    cases hd
    exact q _ (.flat w.w .non)
  | bl b =>
    intro e O _ h
    cases e <;> try (simp [chkE] at h; done)
    rename_i c _ _
    cases c <;> try (simp [chkE] at h; done)
    rw [chkE, beq_iff_eq] at h
    subst h
    refine pe_bl.imp fun σ H Q q => ?_
    obtain ⟨B, env, Γ, d, w, hd, q⟩ := q
    cases hd
    exact q _ (.flat w.w (.bl _))
  | int i =>
    intro e O _ h
    cases e <;> try (simp [chkE] at h; done)
    rename_i c _ _
    cases c <;> try (simp [chkE] at h; done)
    rw [chkE, decide_eq_true_eq] at h
    subst h
    refine pe_int.imp fun σ H Q q => ?_
    obtain ⟨B, env, Γ, d, w, hd, q⟩ := q
    cases hd
    exact q _ (.flat w.w (.int _))
  | str x =>
    intro e O _ h
    cases e <;> try (simp [chkE] at h; done)
    rename_i c _ _
    cases c <;> try (simp [chkE] at h; done)
    rw [chkE, decide_eq_true_eq] at h
    subst h
    refine pe_str.imp fun σ H Q q => ?_
    obtain ⟨B, env, Γ, d, w, hd, q⟩ := q
    cases hd
    exact q _ (.flat w.w (.str _))
  | bin o a b iha ihb =>
    intro e O p h
    simp only [isP, Bool.and_eq_true] at p
    cases e <;> try (simp [chkE] at h; done)
    simp only [chkE, Bool.and_eq_true] at h
    refine (pe_op (op_bin h.1.1) (iha O p.1 h.1.2) (ihb O p.2 h.2)).imp fun σ H Q q => ?_
    obtain ⟨B, env, Γ, d, w, hd, q⟩ := q
    rw [evP] at hd
    split at hd
    · rename_i i j ha hb
      refine ⟨B, env, Γ, _, w, ha, fun v bv => ⟨B, env, Γ, _, w, hb, fun u bu => ?_⟩⟩
      rw [bv.int, bu.int]
      cases hr : binI o i j with
      | none => rw [hr] at hd; cases hd
      | some r =>
        rw [hr] at hd; cases hd
        exact ⟨i, j, r, rfl, rfl, hr, q _ (.flat w.w (.int _))⟩
    · cases hd
  | neg a iha =>
    intro e O p h
    simp only [isP] at p
    cases e <;> try (simp [chkE] at h; done)
    rename_i uo x _
    cases uo <;> try (simp [chkE] at h; done)
    simp only [chkE] at h
    refine (pe_un un_neg (iha O p h)).imp fun σ H Q q => ?_
    obtain ⟨B, env, Γ, d, w, hd, q⟩ := q
    rw [evP] at hd
    split at hd
    · rename_i i ha
      refine ⟨B, env, Γ, _, w, ha, fun v bv => ?_⟩
      rw [bv.int]
      cases hd
      exact ⟨i, rfl, q _ (.flat w.w (.int _))⟩
    · cases hd
  | ix a b iha ihb =>
    intro e O p h
    simp only [isP, Bool.and_eq_true] at p
    cases e <;> try (simp [chkE] at h; done)
    simp only [chkE, Bool.and_eq_true] at h
    refine (pe_ix ix_seqV (iha O p.1 h.1) (ihb O p.2 h.2) (plainIx_pl (chk_pl h.2))).imp fun σ H Q q => ?_
    obtain ⟨B, env, Γ, d, w, hd, q⟩ := q
    rw [evP] at hd
    split at hd
    · rename_i x kk ha hb
      refine ⟨B, env, Γ, _, w, ha, fun v bv => ⟨B, env, Γ, _, w, hb, fun u bu => ?_⟩⟩
      rw [bu.int]
      obtain ⟨ad, vs, z, ev, sq, hz, bz⟩ := bv.item hd
      exact ⟨ad, vs, kk, z, ev, rfl, sq, hz, q _ bz⟩
    · cases hd
  | b1 c a iha =>
    intro e O p h
    cases c <;> try (simp [isP] at p; done)
    simp only [isP] at p
    cases e <;> try (simp [chkE] at h; done)
    rename_i f es kw pos
    cases f <;> try (simp [chkE] at h; done)
    cases kw <;> try (simp [chkE] at h; done)
    simp only [chkE, b1ty, b1name, Bool.and_eq_true] at h
    obtain ⟨h1, h2⟩ := h
    split at h2 <;> try (first | cases h2 | (rename_i heq; cases heq))
    rename_i x _
    obtain ⟨rfl, hg⟩ := bltB_iff h1
    refine (pe_callB call_len_seq (O.gl hg) (O.blt (by decide)) PySem.boot_len (pa_cons (iha O p h2) pa_nil (star_pl (chk_pl h2))) (he := star_pl (chk_pl h2))).imp fun σ H Q q => ?_
    obtain ⟨B, env, Γ, d, w, hd, q⟩ := q
    rw [evP] at hd
    split at hd
    · rename_i d' ha
      refine ⟨B, env, Γ, _, w, ha, fun v bv => ?_⟩
      unfold lenD at hd
      split at hd
      · rename_i xs hx
        cases hd
        obtain ⟨F, S, r⟩ := bv.rep
        obtain ⟨ad, vs, F1, S1, ev, sq, rs, _⟩ := r.items hx
        subst ev
        refine ⟨ad, vs, rfl, sq, ?_⟩
        rw [rs.len]
        exact q _ (.flat w.w (.int _))
      · cases hd
    · cases hd
  | _ => intro e O p h; simp [isP] at p
end
end Sr
set_option Elab.async false
set_option linter.all false
set_option maxRecDepth 100000
set_option maxHeartbeats 2000000
/-! # Sr: built-ins by what is handed in; readings of terms -/
namespace Sr
open PySem PySem.Spec PyProof.Rows L2

/-- a list by its text -/
theorem Rep.lstI {K : PySem.W.Frag} {H : Hp} {v : V} {o : Bool} {xs : List D} {F S : List Addr} (r : Rep K H v (.lst o xs) F S) : ∃ a vs F1 S1, v = .ref a ∧ SqL K H a vs ∧ Reps K H vs xs F1 S1 ∧ (∀ b ∈ F1, b ∈ F) ∧ (∀ b ∈ S1, b ∈ S) ∧ (F.Nodup → F1.Nodup) := by
  cases r with
  | mod e r => exact ⟨_, _, _, _, rfl, .inr e, r, fun _ z => z, fun _ z => z, fun _ => List.nodup_nil⟩
  | shr e r => exact ⟨_, _, _, _, rfl, .inl e, r, fun _ z => z, fun _ z => List.mem_cons_of_mem _ z, fun _ => List.nodup_nil⟩
  | own e r => exact ⟨_, _, _, _, rfl, SqL.of e, r, fun _ z => List.mem_cons_of_mem _ z, fun _ z => z, fun n => (List.nodup_cons.mp n).2⟩
/-- what is only read, beside -/
theorem W.beside {K : PySem.W.Frag} {B : Bs} {H : Hp} {R : List Rt} {F S : List Addr} {vs : List V} {ds : List D} {S1 : List Addr} (ok : Okk B H F S) {Fr Sr : List Addr} (rr : Rs K H R Fr Sr) (hF : ∀ a ∈ Fr, a ∈ F) (nF : Fr.Nodup) (hS : ∀ a ∈ Sr, a ∈ S)
    (r1 : Reps K H vs ds [] S1) (h1 : ∀ a ∈ S1, a ∈ S) : W K B H (vs.zip ds ++ R) := by
  refine ⟨[] ++ Fr, S1 ++ Sr, ?_, ok.less (fun a z => hF a (by simpa using z)) (by simpa using nF) fun a z => (List.mem_append.mp z).elim (h1 a) (hS a)⟩
  show Reps K H _ _ _ _
  rw [List.map_append, List.map_append, List.map_fst_zip (Nat.le_of_eq r1.len), List.map_snd_zip (Nat.le_of_eq r1.len.symm)]
  exact r1.app rr
theorem insI_perm (x : Int) : ∀ l : List Int, (insI x l).Perm (x :: l)
  | [] => List.Perm.refl _
  | y :: r => by
    unfold insI
    split
    · exact List.Perm.refl _
    · exact ((insI_perm x r).cons y).trans (List.Perm.swap x y r)
theorem sortI_perm : ∀ l : List Int, (sortI l).Perm l
  | [] => List.Perm.refl _
  | x :: r => (insI_perm x (sortI r)).trans ((sortI_perm r).cons x)
theorem insI_pw (x : Int) : ∀ l : List Int, l.Pairwise (· ≤ ·) → (insI x l).Pairwise (· ≤ ·)
  | [], _ => List.pairwise_cons.mpr ⟨fun _ h => (nomatch h), List.Pairwise.nil⟩
  | y :: r, h => by
    obtain ⟨h1, h2⟩ := List.pairwise_cons.mp h
    unfold insI
    split
    · rename_i c
      exact List.pairwise_cons.mpr ⟨fun z hz => by
        rcases List.mem_cons.mp hz with e | e
        · rw [e]; exact c
        · exact Int.le_trans c (h1 z e), h⟩
    · rename_i c
      refine List.pairwise_cons.mpr ⟨fun z hz => ?_, insI_pw x r h2⟩
      rcases List.mem_cons.mp ((insI_perm x r).mem_iff.mp hz) with e | e
      · rw [e]; omega
      · exact h1 z e
theorem sortI_pw : ∀ l : List Int, (sortI l).Pairwise (· ≤ ·)
  | [] => List.Pairwise.nil
  | x :: r => insI_pw x _ (sortI_pw r)
theorem sort_uniq : ∀ {l l' : List Int}, l.Perm l' → l.Pairwise (· ≤ ·) → l'.Pairwise (· ≤ ·) → l = l'
  | [], l', p, _, _ => (List.nil_perm.mp p).symm
  | a :: r, [], p, _, _ => nomatch List.perm_nil.mp p
  | a :: r, b :: r', p, h, h' => by
    obtain ⟨h1, h2⟩ := List.pairwise_cons.mp h
    obtain ⟨h3, h4⟩ := List.pairwise_cons.mp h'
    have e : a = b := by
      have ha := p.mem_iff.mp (List.mem_cons_self)
      have hb := p.mem_iff.mpr (List.mem_cons_self)
      rcases List.mem_cons.mp ha with e | e
      · exact e
      · rcases List.mem_cons.mp hb with e2 | e2
        · exact e2.symm
        · have := h1 b e2
          have := h3 a e
          omega
    subst e
    rw [sort_uniq (List.Perm.cons_inv p) h2 h4]
/-! ### built-in functions of one argument -/
def rB1 (K : PySem.W.Frag) (c : B1) : List V → Hp → VK → Prop := fun xs H Q => ∃ B R v x d, xs = [v] ∧ Brw K B H R v x ∧ b1D c x = some d ∧ ∀ u H', W K B H' ((u, d) :: R) → Q u H'
def rB1t (K : PySem.W.Frag) (c : B1) (ty : String) : List V → Hp → VK → Prop := fun xs H Q => ∃ B R v x d, xs = [v, .ty ty] ∧ Brw K B H R v x ∧ b1D c x = some d ∧ ∀ u H', W K B H' ((u, d) :: R) → Q u H'
section
variable {K : PySem.W.Frag} {B : Bs} {H : Hp} {R : List Rt} {v : V} {d x : D}
theorem Brw.w (b : Brw K B H R v d) : W K B H R := by
  obtain ⟨F, S, F1, S1, h, o, r, _⟩ := b.ex
  exact ⟨F, S, h, o⟩
theorem Brw.ofHead (w : W K B H ((v, d) :: R)) : Brw K B H ((v, d) :: R) v d := by
  obtain ⟨F, S, h, o⟩ := w
  have h0 := h
  cases h with
  | cons r t => exact ⟨_, _, _, _, h0, o, r, fun a z => List.mem_append_left _ z, fun a z => List.mem_append_left _ z, (List.nodup_append.mp o.nd).1⟩
/-- the type of what stands for d -/
def tyD : D → String
  | .non => "NoneType"
  | .bl _ => "bool"
  | .int _ => "int"
  | .str _ => "str"
  | .tup _ => "tuple"
  | .lst _ _ => "list"
theorem Rep.ty {F S : List Addr} (r : Rep K H v d F S) : TyX K H v (.type (tyD d)) := by
  cases r with
  | non => exact .base .non
  | bl b => exact .base (.bl b)
  | int i => exact .base (.int i)
  | str x => exact .base (.str x)
  | tup e r =>
    rcases e with e | ⟨o, e⟩
    · exact .base (.tup e)
    · exact .fTuple e
  | shr e r =>
    rcases e with e | ⟨o, e⟩
    · exact .base (.lst e)
    · exact .base (.frz e)
  | mod e r =>
    obtain ⟨o, its, m, e1, e2, _⟩ := e
    exact .kList e1 e2
  | own e r => exact .base (.lst e)
theorem Reps.ints : ∀ {ds : List D} {vs : List V} {F S : List Addr} {ns : List Int}, Reps K H vs ds F S → toInts ds = some ns → vs = ns.map V.int
  | [], _, _, _, ns, h, e => by
    cases h
    rw [toInts] at e
    cases e
    rfl
  | d :: ds, _, _, _, ns, h, e => by
    cases h with
    | cons r t =>
      cases d with
      | int i =>
        rw [toInts] at e
        cases q : toInts ds with
        | none => rw [q] at e; cases e
        | some l =>
          rw [q] at e
          cases e
          cases r
          rw [t.ints q]
          rfl
      | _ => simp [toInts] at e
/-- what is copied: nothing of ours within -/
theorem Brw.lst {xs : List D} (b : Brw K B H R v x) (e : items x = some xs) (u : unL xs = true) : ∃ a vs, v = .ref a ∧ (SqL K H a vs ∨ SqT K H a vs) ∧ vs.length = xs.length ∧ (∀ p, H p = none → vs.length ≤ sizeLine → W K B (upd H p (.lst vs)) ((.ref p, .lst true xs) :: R)) ∧ (∀ p, H p = none → vs.length ≤ sizeLine → W K B (upd H p (.tup vs)) ((.ref p, .tup xs) :: R)) := by
  obtain ⟨F, S, F1, S1, h0, o, r, f, s, nn⟩ := b.ex
  obtain ⟨a, vs, F2, S2, ev, q, rs, f2, s2, n2⟩ := r.items e
  have eF := rs.un u
  subst eF
  have w2 : W K B H ((vs.zip xs) ++ R) := by
    refine ⟨[] ++ F, S2 ++ S, ?_, o.less (fun a z => by simpa using z) (by simpa using o.nd) fun a z => (List.mem_append.mp z).elim (fun y => s a (s2 a y)) id⟩
    show Reps K H _ _ _ _
    rw [List.map_append, List.map_append, List.map_fst_zip (Nat.le_of_eq rs.len), List.map_snd_zip (Nat.le_of_eq rs.len.symm)]
    exact rs.app h0
  exact ⟨a, vs, ev, q, rs.len, fun p hp hz => w2.lstV rs.len hp hz, fun p hp hz => w2.tupV rs.len hp hz⟩
end
section
variable {X : Cx}
theorem szI {pins : List (Addr × Obj)} {σ : L2.St} {H : Hp} {s : Shared} (I : L2.Inv X pins σ H s) {p : Addr} {ys : List V} (h : SqL X.K H p ys ∨ SqT X.K H p ys) : ys.length ≤ sizeLine := by
  rcases h with h | h
  · obtain ⟨_, _, _, z⟩ := I.list h; exact z
  · obtain ⟨_, _, _, z⟩ := I.tuple h; exact z
theorem b1_len : CallR X (.builtin "len") (rB1 X.K .len) := by
  intro pins s σ H xs us Q I r h
  obtain ⟨B, R, v, x, d, ex, bv, e, q⟩ := h
  refine call_len_seq pins s σ H xs us Q I r ?_
  simp only [b1D, lenD] at e
  split at e
  · rename_i ys hy
    cases e
    obtain ⟨F, S, rr⟩ := bv.rep
    obtain ⟨ad, vs, F1, S1, ev, sq, rs, _⟩ := rr.items hy
    subst ev
    exact ⟨ad, vs, ex, sq, by rw [rs.len]; exact q _ _ (bv.w.int _)⟩
  · cases e
theorem b1_abs : CallR X (.builtin "abs") (rB1 X.K .abs) := by
  intro pins s σ H xs us Q I r h
  obtain ⟨B, R, v, x, d, ex, bv, e, q⟩ := h
  cases x <;> try (simp [b1D] at e; done)
  rename_i i
  simp only [b1D, Option.some.injEq] at e
  subst e
  rw [bv.int] at ex
  exact call_abs pins s σ H xs us Q I r ⟨i, ex, q _ _ (bv.w.int _)⟩
theorem b1_int : CallR X (.type "int") (rB1 X.K .int) := by
  intro pins s σ H xs us Q I r h
  obtain ⟨B, R, v, x, d, ex, bv, e, q⟩ := h
  refine call_int1 pins s σ H xs us Q I r ?_
  cases x <;> try (simp [b1D] at e; done)
  · rename_i b
    simp only [b1D, Option.some.injEq] at e
    subst e
    obtain ⟨F, S, rr⟩ := bv.rep
    cases rr
    exact .inr ⟨b, ex, q _ _ (bv.w.int _)⟩
  · rename_i i
    simp only [b1D, Option.some.injEq] at e
    subst e
    rw [bv.int] at ex
    exact .inl ⟨i, ex, q _ _ (bv.w.int _)⟩
theorem b1_list : CallR X (.type "list") (rB1 X.K .list) := by
  intro pins s σ H xs us Q I r h
  obtain ⟨B, R, v, x, d, ex, bv, e, q⟩ := h
  refine call_list_of pins s σ H xs us Q I r ?_
  simp only [b1D] at e
  split at e
  · rename_i ys hy
    split at e
    · rename_i hu
      cases e
      obtain ⟨a, vs, ev, sq, hl, m1, m2⟩ := bv.lst hy hu
      subst ev
      exact ⟨a, vs, ex, sq, fun l hl => q _ _ (m1 l hl (szI I sq))⟩
    · cases e
  · cases e
theorem b1_tuple : CallR X (.type "tuple") (rB1 X.K .tuple) := by
  intro pins s σ H xs us Q I r h
  obtain ⟨B, R, v, x, d, ex, bv, e, q⟩ := h
  refine call_tuple_of pins s σ H xs us Q I r ?_
  cases x <;> try (simp [b1D] at e; done)
  rename_i o ys
  simp only [b1D] at e
  split at e
  · rename_i hu
    cases e
    obtain ⟨F, S, F1, S1, h0, ok, rr, f, s', nn⟩ := bv.ex
    obtain ⟨a, vs, F2, S2, ev, sq, rs, f2, s2, _⟩ := rr.lstI
    have z := rs.un hu
    subst z
    subst ev
    exact ⟨a, vs, ex, .inl ⟨sq, fun l hl => q _ _ (W.tupV (W.beside ok h0 (fun a z => z) ok.nd (fun a z => z) rs fun a z => s' a (s2 a z)) rs.len hl (szI I (.inl sq)))⟩⟩
  · cases e
theorem b1_sum (hc : X.calm = true) : CallR X (.builtin "sum") (rB1 X.K .sum) := by
  intro pins s σ H xs us Q I r h
  obtain ⟨B, R, v, x, d, ex, bv, e, q⟩ := h
  refine cr_sum hc pins s σ H xs us Q I r ?_
  cases x <;> try (simp [b1D] at e; done)
  rename_i o ys
  simp only [b1D, Option.map_eq_some_iff] at e
  obtain ⟨ns, hn, rfl⟩ := e
  obtain ⟨F, S, rr⟩ := bv.rep
  cases rr with
  | mod e2 rs => exact ⟨_, ns, ex, by rw [← rs.ints hn]; exact .inr e2, q _ _ (bv.w.int _)⟩
  | shr e2 rs => exact ⟨_, ns, ex, by rw [← rs.ints hn]; exact .inl e2, q _ _ (bv.w.int _)⟩
  | own e2 rs => exact ⟨_, ns, ex, by rw [← rs.ints hn]; exact SqL.of e2, q _ _ (bv.w.int _)⟩
theorem Reps.ofInts {K : PySem.W.Frag} {H : Hp} : ∀ ns : List Int, Reps K H (ns.map V.int) (ns.map D.int) [] []
  | [] => .nil
  | n :: r => by
    have := Reps.cons (Rep.int (K := K) (H := H) n) (Reps.ofInts r)
    simpa using this
theorem b1_sorted : CallR X (.builtin "sorted") (rB1 X.K .sorted) := by
  intro pins s σ H xs us Q I r h
  obtain ⟨B, R, v, x, d, ex, bv, e, q⟩ := h
  cases x <;> try (simp [b1D] at e; done)
  rename_i o ys
  simp only [b1D, srtD] at e
  split at e
  · rename_i ns hn
    split at e
    · rename_i h64
      cases e
      refine cr_sorted pins s σ H xs us Q I r ?_
      obtain ⟨F, S, rr⟩ := bv.rep
      have fin : ∀ (ns' : List Int) (p : Addr), ns'.Perm ns → ns'.Pairwise (· ≤ ·) → H p = none → Q (.ref p) (upd H p (.lst (ns'.map V.int))) := fun ns' p hp hs hf => by
        have e := sort_uniq (hp.trans (sortI_perm ns).symm) hs (sortI_pw ns)
        subst e
        obtain ⟨F', S', rs, ok⟩ := bv.w
        refine q _ _ (W.lstV (vs := (sortI ns).map V.int) (ds := (sortI ns).map D.int) (W.beside ok rs (fun a z => z) ok.nd (fun a z => z) (Reps.ofInts _) (fun a z => nomatch z)) (by simp) hf ?_)
        rw [List.length_map, (sortI_perm ns).length_eq]
        exact small64 h64
      cases rr with
      | mod e2 rs => exact ⟨_, ns, ex, by rw [← rs.ints hn]; exact .inr e2, h64, fin⟩
      | shr e2 rs => exact ⟨_, ns, ex, by rw [← rs.ints hn]; exact .inl e2, h64, fin⟩
      | own e2 rs => exact ⟨_, ns, ex, by rw [← rs.ints hn]; exact SqL.of e2, h64, fin⟩
    · cases e
  · cases e
theorem isD {c : B1} {ty : String} {x : D} (h : b1ty c = some ty) : ∃ b, b1D c x = some (.bl b) ∧ kitB (tyD x) ty = some b := by
  cases c <;> (try (cases h; done)) <;> cases h <;> cases x <;> first | exact ⟨true, rfl, by simp only [tyD]; decide +kernel⟩ | exact ⟨false, rfl, by simp only [tyD]; decide +kernel⟩
theorem b1_is {c : B1} {ty : String} (h : b1ty c = some ty) : CallR X (.builtin "isinstance") (rB1t X.K c ty) := by
  intro pins s σ H xs us Q I r hh
  obtain ⟨B, R, v, x, d, ex, bv, e, q⟩ := hh
  obtain ⟨b, e1, e2⟩ := isD (x := x) h
  rw [e1] at e; cases e
  obtain ⟨F, S, rr⟩ := bv.rep
  exact call_isi pins s σ H xs us Q I r ⟨v, .ty ty, .type (tyD x), .type ty, b, ex, .ty ty, rr.ty, kit_ty e2, q _ _ (bv.w.bl _)⟩
end
end Sr
set_option Elab.async false
set_option linter.all false
set_option maxRecDepth 100000
set_option maxHeartbeats 2000000
/-! # Sr: terms and their text -/
namespace Sr
open PySem PySem.Spec PyProof.Rows L2

/-! ### readings -/
def agR : List Ag → List V → List Rt
  | .val d :: as, v :: vs => (v, d.shr) :: agR as vs
  | _ :: as, _ :: vs => agR as vs
  | _, _ => []
def AgS (σ : L2.St) : List Ag → List V → Prop
  | [], [] => True
  | .val _ :: as, _ :: vs => AgS σ as vs
  | .var i :: as, v :: vs => σ[i]? = some (some v) ∧ AgS σ as vs
  | .io i :: as, v :: vs => σ[i]? = some (some v) ∧ AgS σ as vs
  | _, _ => False
/-- an iterator walks the items; hold: what is held meanwhile -/
structure ItOk (K : PySem.W.Frag) (B : Bs) (J : It) (xs : List D) (hold : List Rt) : Prop where
  go : ∀ i H R, W K B H (hold ++ R) → i < xs.length → J.go i H
  yld : ∀ i H R x H', W K B H (hold ++ R) → i < xs.length → J.yld i H x H' → ∃ d, xs[i]? = some d ∧ W K B H' ((x, d) :: (hold ++ R))
  stop : ∀ i H R, W K B H (hold ++ R) → xs.length ≤ i → J.stop i H
  small : ∀ {H R}, W K B H (hold ++ R) → xs.length ≤ sizeLine
section
variable (K : PySem.W.Frag) (Φ : Fs)
def tD (t : T) : TE := fun σ H Q => ∃ B e Γ d e', Wd K B σ e Γ H ∧ evE Φ t e = some (d, e') ∧ ∀ v H', Wd K B σ e' ((v, d) :: Γ) H' → Q v H'
def tT (t : T) : TT := fun σ H Q => ∃ B e Γ b e', Wd K B σ e Γ H ∧ evE Φ t e = some (.bl b, e') ∧ ∀ H', Wd K B σ e' Γ H' → Q b H'
def evO (a : T) (e : Env) : Option (D × Env) := if isP a then (evP a e).map fun d => (d, e) else evE Φ a e
def tO (t : T) : TE := fun σ H Q => ∃ B e Γ d e', Wd K B σ e Γ H ∧ evO Φ t e = some (d, e') ∧ ∀ v H' R, Brw K B H' R v d → Wd K B σ e' Γ H' → (∀ u z H'', W K B H'' ((u, z) :: R) → Wd K B σ e' ((u, z) :: Γ) H'') → Q v H'
def tLL (t : T) : TA := fun σ H Q => ∃ B e Γ ds e', Wd K B σ e Γ H ∧ evL Φ t e = some (ds, e') ∧ ∀ vs H', vs.length = ds.length → Wd K B σ e' (vs.zip ds ++ Γ) H' → Q vs H'
def tG (t : T) (io : List Bool) : TA := fun σ H Q => ∃ B e Γ as e', Wd K B σ e Γ H ∧ evG Φ t io e = some (as, e') ∧ ∀ vs H', AgS σ as vs → Wd K B σ e' (agR as vs ++ Γ) H' → Q vs H'
def tI (t : T) : TI := fun σ H R => ∃ B e Γ xs e', Wd K B σ e Γ H ∧ evI Φ t e = some (xs, e') ∧ ∀ J H' hold, ItOk K B J xs hold → Wd K B σ e' (hold ++ Γ) H' → R J H'
end
section
variable (Φ : Fs) (k : Nat) (n : Nm)
def SE (t : T) : Prop := ∀ {X : Cx} {sc : Scope} {e : Expr}, OkX Φ k n X sc → chkE n sc t e = true → PE X e (tD X.K Φ t)
def ST (t : T) : Prop := ∀ {X : Cx} {sc : Scope} {e : Expr}, OkX Φ k n X sc → chkE n sc t e = true → PT X e (tT X.K Φ t)
def SL (t : T) : Prop := ∀ {X : Cx} {sc : Scope} {es : List Expr}, OkX Φ k n X sc → chkL n sc t es = true → PA X es (tLL X.K Φ t)
def SG (t : T) : Prop := ∀ {io : List Bool} {X : Cx} {sc : Scope} {es : List Expr}, OkX Φ k n X sc → chkL n sc t es = true → PA X es (tG X.K Φ t io)
def SI (t : T) : Prop := ∀ {X : Cx} {sc : Scope} {g e : Expr}, (∀ a b, t ≠ .zip a b) → OkX Φ k n X sc → chkI n sc t e = true → PI X g e (tI X.K Φ t)
end

/-! ### tests -/
/-- a test of no form of its own -/
def plT : Expr → Bool
  | .UnaryOp .Not _ _ => false
  | .BoolOp .. => false
  | .IfExp .. => false
  | .Compare .. => false
  | _ => true
theorem isTrue_pl {e : Expr} {env : PySem.Env} (h : plT e = true) : ∀ whole, isTrue e env whole = (do let v ← whole; standAt e.pos; holding [v] (truthy v)) := by
  intro whole
  cases e <;> first | rfl | cases h | (rename_i o _ _; cases o <;> first | rfl | cases h)
section
variable {X : Cx}
def tIfT (tc ta tb : TT) : TT := fun σ H Q => tc σ H fun d H1 => if d = true then ta σ H1 Q else tb σ H1 Q
theorem pt_ifExp {c a b : Expr} {pos : Pos} {tc ta tb : TT} (hc : PT X c tc) (ha : PT X a ta) (hb : PT X b tb) : PT X (.IfExp c a b pos) (tIfT tc ta tb) := by
  refine ⟨fun pins s σ H Q I h => ?_⟩
  show wpAny _ _ (do if ← isTrue c X.env (eval c X.env) then isTrue a X.env (eval a X.env) else isTrue b X.env (eval b X.env)) _ _ _
  refine wpAny_bind (thn (hc.run pins s σ H _ I h) fun d s1 ⟨H1, I1, q1⟩ => ?_)
  cases d with
  | true => exact ha.run pins s1 σ H1 Q I1 q1
  | false => exact hb.run pins s1 σ H1 Q I1 q1
variable {Φ : Fs} {K : PySem.W.Frag}
/-- a test by its value -/
theorem tT_of {t : T} : ∀ σ H Q, tT K Φ t σ H Q → tD K Φ t σ H fun x H' => ∃ b, x = .bl b ∧ Q b H' := by
  rintro σ H Q ⟨B, e, Γ, b, e', w, h, q⟩
  refine ⟨B, e, Γ, _, e', w, h, fun v H' w' => ?_⟩
  have ev := w'.headBl
  subst ev
  exact ⟨b, rfl, q H' w'.drop⟩
theorem ST_of {e : Expr} {t : T} (h : PE X e (tD X.K Φ t)) (p : plT e = true) : PT X e (tT X.K Φ t) := (pt_val h (isTrue_pl p)).imp tT_of
end

/-! ### operands -/
section
variable {Φ : Fs} {k : Nat} {n : Nm} {X : Cx} {sc : Scope}
theorem SE.op {t : T} {e : Expr} (s : SE Φ k n t) (O : OkX Φ k n X sc) (h : chkE n sc t e = true) : PE X e (tO X.K Φ t) := by
  by_cases p : isP t = true
  · refine (evP_ok O p h).imp ?_
    rintro σ H Q ⟨B, e, Γ, d, e', w, hd, q⟩
    unfold evO at hd
    rw [if_pos p, Option.map_eq_some_iff] at hd
    obtain ⟨d', hd, ee⟩ := hd
    cases ee
    exact ⟨B, e, Γ, d, w, hd, fun v b => q v H _ b w fun u z H'' w' => ⟨w.fit, w.pr, w'⟩⟩
  · refine (s O h).imp ?_
    rintro σ H Q ⟨B, e, Γ, d, e', w, hd, q⟩
    unfold evO at hd
    rw [if_neg p] at hd
    exact ⟨B, e, Γ, d, e', w, hd, fun v H' w' => q v H' _ (Brw.ofHead w'.w) w'.drop fun u z H'' w'' => ⟨w'.fit, w'.pr, (w''.perm (.swap _ _ _)).drop⟩⟩

/-! ### names and constants -/
theorem SE_v (i : Nat) : SE Φ k n (.v i) := by
  intro X sc e O h
  cases e <;> try (simp [chkE] at h; done)
  rw [chkE] at h
  refine (O.name h).imp ?_
  rintro σ H Q ⟨B, env, Γ, d, e', w, hd, q⟩
  rw [evE] at hd
  split at hd
  · rename_i d0 h0
    obtain ⟨v, hv, _⟩ := w.read h0
    refine ⟨v, hv, ?_⟩
    split at hd
    · rename_i hu
      cases hd
      exact q v H (w.copy h0 hv hu)
    · cases hd
      exact q v H (w.move h0 hv)
  · cases hd
theorem SE_w (i : Nat) : SE Φ k n (.w i) := by
  intro X sc e O h
  cases e <;> try (simp [chkE] at h; done)
  rw [chkE] at h
  refine (O.name h).imp ?_
  rintro σ H Q ⟨B, env, Γ, d, e', w, hd, q⟩
  rw [evE] at hd
  split at hd
  · rename_i d0 h0
    obtain ⟨v, hv, _⟩ := w.read h0
    refine ⟨v, hv, ?_⟩
    cases hd
    have m := (w.move h0 hv).shr
    refine q v H ?_
    have hl : i < env.length := (List.getElem?_eq_some_iff.mp (at_iff.mp h0)).1
    have m2 : Wd X.K B σ (env.set i none) ((v, d0.shr) :: (v, d0.shr) :: Γ) H := ⟨m.fit, m.pr, W.dup m.w (shr_un d0)⟩
    have m3 := (m2.swap).put (i := i) (by rw [List.getElem?_set_self hl]) hv
    rw [List.set_set] at m3
    exact m3
  · cases hd
end
end Sr
set_option Elab.async false
set_option linter.all false
set_option maxRecDepth 100000
set_option maxHeartbeats 2000000
/-! # Sr: terms and their text, one by one -/
namespace Sr
open PySem PySem.Spec PyProof.Rows L2

/-- list + list, whatever the lists -/
def rCatS (K : PySem.W.Frag) : R2 := fun x y H Q => ∃ l b xs zs, x = .ref l ∧ y = .ref b ∧ SqL K H l xs ∧ SqL K H b zs ∧ xs.length + zs.length ≤ sizeLine ∧ ∀ p, H p = none → Q (.ref p) (upd H p (.lst (xs ++ zs)))
theorem op_catS {X : Cx} : OpR X (binaryOp .Add) (rCatS X.K) := by
  intro pins s σ H x y v u Q I rx ry h
  obtain ⟨l, b, xs, zs, rfl, rfl, hH, hB, hz, q⟩ := h
  cases rx
  cases ry
  obtain ⟨its, r, ⟨o, n, e, c1, c2, c3⟩, _⟩ := I.list hH
  obtain ⟨its2, r2, ⟨o2, n2, e2, d1, d2, d3⟩, _⟩ := I.list hB
  obtain ⟨cls, dd, data, sl⟩ := o
  obtain ⟨cls2, dd2, data2, sl2⟩ := o2
  simp only at c1 c2 c3 d1 d2 d3
  subst c1 c2 c3 d1 d2 d3
  have hl := r.length
  have hl2 := r2.length
  have ee : its.toArray ++ its2.toArray = (its ++ its2).toArray := by simp
  refine concat_meets ⟨_, e, rfl⟩ ⟨_, e2, rfl⟩ noFill_list_add seq_list_add PySem.F.slot_list_add PySem.F.entry_list_add (PySem.F.args_list_add_2 _ _) (list_addW l b its.toArray its2.toArray n n2 _ _ sl sl2 (by rw [List.size_toArray, List.size_toArray]; omega)) ⟨e, e2, ?_⟩
  rw [ee]
  exact ⟨.ref _, _, I.lnew (t' := s.toks) (r.append r2) (by rw [List.length_append]; omega), rfl, q _ I.fresh⟩
theorem big_le : big ≤ sizeLine := by rw [sizeLine_eq]; decide

section
variable {Φ : Fs} {k : Nat} {n : Nm}
theorem SE_non : SE Φ k n .non := by
  intro X sc e O h
  cases e <;> try (simp [chkE] at h; done)
  rename_i c _ _
  cases c <;> try (simp [chkE] at h; done)
  refine pe_non.imp ?_
  rintro σ H Q ⟨B, env, Γ, d, e', w, hd, q⟩
  cases hd
  exact q _ H ⟨w.fit, w.pr, w.w.add .non⟩
theorem SE_bl (b : Bool) : SE Φ k n (.bl b) := by
  intro X sc e O h
  cases e <;> try (simp [chkE] at h; done)
  rename_i c _ _
  cases c <;> try (simp [chkE] at h; done)
  rw [chkE, beq_iff_eq] at h
  subst h
  refine pe_bl.imp ?_
  rintro σ H Q ⟨B, env, Γ, d, e', w, hd, q⟩
  cases hd
  exact q _ H (w.bl _)
theorem SE_int (i : Int) : SE Φ k n (.int i) := by
  intro X sc e O h
  cases e <;> try (simp [chkE] at h; done)
  rename_i c _ _
  cases c <;> try (simp [chkE] at h; done)
  rw [chkE, decide_eq_true_eq] at h
  subst h
  refine pe_int.imp ?_
  rintro σ H Q ⟨B, env, Γ, d, e', w, hd, q⟩
  cases hd
  exact q _ H (w.int _)
theorem SE_str (x : Str) : SE Φ k n (.str x) := by
  intro X sc e O h
  cases e <;> try (simp [chkE] at h; done)
  rename_i c _ _
  cases c <;> try (simp [chkE] at h; done)
  rw [chkE, decide_eq_true_eq] at h
  subst h
  refine pe_str.imp ?_
  rintro σ H Q ⟨B, env, Γ, d, e', w, hd, q⟩
  cases hd
  exact q _ H ⟨w.fit, w.pr, w.w.add (.str _)⟩
theorem SE_frz {a : T} (s : SE Φ k n a) : SE Φ k n (.frz a) := by
  intro X sc e O h
  rw [chkE] at h
  refine (s O h).imp ?_
  rintro σ H Q ⟨B, env, Γ, d, e', w, hd, q⟩
  rw [evE] at hd
  split at hd
  · rename_i d0 e0 h0
    obtain ⟨rfl, rfl⟩ := Prod.mk.inj (Option.some.inj hd)
    exact ⟨B, env, Γ, d0, e0, w, h0, fun v H' w' => q v H' w'.shr⟩
  · cases hd
theorem shr_bl {d : D} {b : Bool} (h : d.shr = .bl b) : d = .bl b := by
  cases d <;> simp [D.shr] at h
  rw [h]
theorem ST_frz {a : T} (s : ST Φ k n a) : ST Φ k n (.frz a) := by
  intro X sc e O h
  rw [chkE] at h
  refine (s O h).imp ?_
  rintro σ H Q ⟨B, env, Γ, d, e', w, hd, q⟩
  rw [evE] at hd
  split at hd
  · rename_i d0 e0 h0
    simp only [Option.some.injEq, Prod.mk.injEq] at hd
    obtain ⟨h1, h2⟩ := hd
    have z := shr_bl h1
    subst z
    subst h2
    exact ⟨B, env, Γ, _, e0, w, h0, fun H' w' => q H' w'⟩
  · cases hd
theorem unL_app : ∀ xs ys : List D, unL (xs ++ ys) = (unL xs && unL ys)
  | [], ys => by simp [unL]
  | x :: xs, ys => by rw [List.cons_append, unL, unL, unL_app xs ys, Bool.and_assoc]
theorem reps_rep {K : PySem.W.Frag} {H : Hp} {vs : List V} {ds : List D} {S1 : List Addr} (r : Reps K H vs ds [] S1) : ∀ m : Nat, ∃ S', Reps K H (List.replicate m vs).flatten (List.replicate m ds).flatten [] S' ∧ ∀ a ∈ S', a ∈ S1
  | 0 => ⟨[], .nil, fun _ z => nomatch z⟩
  | m + 1 => by
    obtain ⟨S', r', h'⟩ := reps_rep r m
    refine ⟨S1 ++ S', ?_, fun a z => (List.mem_append.mp z).elim id (h' a)⟩
    rw [List.replicate_succ, List.replicate_succ, List.flatten_cons, List.flatten_cons]
    exact r.app r'
theorem len_rep {α : Type} (xs : List α) : ∀ m : Nat, (List.replicate m xs).flatten.length = m * xs.length
  | 0 => by simp
  | m + 1 => by rw [List.replicate_succ, List.flatten_cons, List.length_append, len_rep xs m, Nat.succ_mul, Nat.add_comm]
/-- the binary operators -/
def rBinD (K : PySem.W.Frag) (o : Bop) : R2 := fun x y H Q => ∃ B R a b d, W K B H ((y, b) :: (x, a) :: R) ∧ binD o a b = some d ∧ ∀ u H', W K B H' ((u, d) :: R) → Q u H'
theorem op_binD {X : Cx} {o : Bop} {p : Operator} (h : bop o p = true) : OpR X (binaryOp p) (rBinD X.K o) := by
  intro pins s σ H x y v u Q I rx ry hh
  obtain ⟨B, R, a, b, d, w, e, q⟩ := hh
  obtain ⟨F, S, rs, ok⟩ := w
  cases rs with
  | @cons _ _ _ _ Fb Sb _ _ rb rs =>
    cases rs with
    | @cons _ _ _ _ Fa Sa Fr Sr ra rr =>
      have hF : ∀ z ∈ Fr, z ∈ Fb ++ (Fa ++ Fr) := fun z hz => List.mem_append_right _ (List.mem_append_right _ hz)
      have hS : ∀ z ∈ Sr, z ∈ Sb ++ (Sa ++ Sr) := fun z hz => List.mem_append_right _ (List.mem_append_right _ hz)
      have nF : Fr.Nodup := (List.nodup_append.mp (List.nodup_append.mp ok.nd).2.1).2.1
      have wR : W X.K B H R := ⟨Fr, Sr, rr, ok.less hF nF hS⟩
      unfold binD at e
      split at e
      · rename_i i j
        cases ra; cases rb
        simp only [Option.map_eq_some_iff] at e
        obtain ⟨r, e, rfl⟩ := e
        exact op_bin h pins s σ H _ _ v u Q I rx ry ⟨i, j, r, rfl, rfl, e, q _ _ (wR.int r)⟩
      · rename_i oa xs ob ys
        split at e
        · split at e
          · rename_i c
            cases e
            simp only [Bool.and_eq_true, decide_eq_true_eq] at c
            cases p <;> try (simp [bop] at h; done)
            obtain ⟨aa, va, F1, S1, ea, sa, r1, f1, s1, _⟩ := ra.lstI
            obtain ⟨ab, vb, F2, S2, eb, sb, r2, f2, s2, _⟩ := rb.lstI
            have z1 := r1.un c.1.1
            have z2 := r2.un c.1.2
            subst z1 z2
            have l1 := r1.len
            have l2 := r2.len
            have hz : va.length + vb.length ≤ sizeLine := by have := big_le; omega
            refine op_catS pins s σ H x y v u Q I rx ry ⟨aa, ab, va, vb, ea, eb, sa, sb, hz, fun p hp => q _ _ ?_⟩
            refine W.lstV (vs := va ++ vb) (ds := xs ++ ys) (W.beside ok rr hF nF hS (r1.app r2) fun z hz => ?_) (by rw [List.length_append, List.length_append]; omega) hp (by rw [List.length_append]; exact hz)
            rcases List.mem_append.mp hz with hz | hz
            · exact List.mem_append_right _ (List.mem_append_left _ (s1 z hz))
            · exact List.mem_append_left _ (s2 z hz)
          · cases e
        · cases e
      · rename_i xs ys
        split at e
        · split at e
          · rename_i c
            cases e
            simp only [Bool.and_eq_true, decide_eq_true_eq, Bool.not_eq_true', List.isEmpty_eq_false_iff] at c
            obtain ⟨⟨⟨c1, c2⟩, c3⟩, c4⟩ := c
            cases p <;> try (simp [bop] at h; done)
            cases ra with
            | @tup aa va _ _ S1 e1 r1 =>
              cases rb with
              | @tup ab vb _ _ S2 e2 r2 =>
                have z1 := r1.un c1
                have z2 := r2.un c2
                subst z1 z2
                have l1 := r1.len
                have l2 := r2.len
                have hz : va.length + vb.length ≤ sizeLine := by have := big_le; omega
                have hv : va ≠ [] := fun q => c3 (List.length_eq_zero_iff.mp (by rw [← l1, q]; rfl))
                refine op_catT pins s σ H _ _ v u Q I rx ry ⟨aa, ab, va, vb, rfl, rfl, .inl e1, .inl e2, hv, hz, fun hy => q _ _ ?_, fun _ p hp => q _ _ ?_⟩
                · have ey : ys = [] := List.length_eq_zero_iff.mp (by rw [← l2, hy]; rfl)
                  subst ey
                  rw [List.append_nil]
                  refine ⟨[] ++ Fr, Sa ++ Sr, .cons (.tup e1 r1) rr, ok.less (fun a z => hF a (by simpa using z)) (by simpa using nF) fun a z => ?_⟩
                  rcases List.mem_append.mp z with z | z
                  · exact List.mem_append_right _ (List.mem_append_left _ z)
                  · exact hS a z
                · refine W.tupV (vs := va ++ vb) (ds := xs ++ ys) (W.beside ok rr hF nF hS (r1.app r2) fun z hz => ?_) (by rw [List.length_append, List.length_append]; omega) hp (by rw [List.length_append]; exact hz)
                  rcases List.mem_append.mp hz with hz | hz
                  · exact List.mem_append_right _ (List.mem_append_left _ hz)
                  · exact List.mem_append_left _ hz
          · cases e
        · cases e
      · rename_i oa xs kk
        split at e
        · split at e
          · rename_i c
            cases e
            simp only [Bool.and_eq_true, decide_eq_true_eq] at c
            obtain ⟨⟨⟨c1, c2⟩, c3⟩, c4⟩ := c
            cases p <;> try (simp [bop] at h; done)
            cases rb
            cases ra with
            | shr e0 r1 => simp at c1
            | mod e0 r1 => simp at c1
            | @own a0 vs0 _ F1 S1 e0 r1 =>
              simp only [Bool.and_eq_true] at c1
              have z1 := r1.un c1.2
              subst z1
              have l1 := r1.len
              have hz : vs0.length * kk.toNat ≤ sizeLine := by have := big_le; rw [l1]; omega
              obtain ⟨S', r', h'⟩ := reps_rep r1 kk.toNat
              refine op_rep pins s σ H _ _ v u Q I rx ry ⟨a0, kk, vs0, rfl, rfl, e0, by omega, by omega, hz, fun p hp => q _ _ ?_⟩
              refine W.lstV (W.beside ok rr hF nF hS r' fun z hz => ?_) r'.len hp ?_
              · exact List.mem_append_right _ (List.mem_append_left _ (h' z hz))
              · rw [len_rep, Nat.mul_comm]; exact hz
          · cases e
        · cases e
      · cases e
theorem SE_bin {o : Bop} {a b : T} (sa : SE Φ k n a) (sb : SE Φ k n b) : SE Φ k n (.bin o a b) := by
  intro X sc e O h
  cases e <;> try (simp [chkE] at h; done)
  simp only [chkE, Bool.and_eq_true] at h
  refine (pe_op (op_binD h.1.1) (sa O h.1.2) (sb O h.2)).imp ?_
  rintro σ H Q ⟨B, env, Γ, d, e', w, hd, q⟩
  rw [evE] at hd
  split at hd
  · rename_i x e1 h1
    split at hd
    · rename_i y e2 h2
      rw [Option.map_eq_some_iff] at hd
      obtain ⟨d', hd, ee⟩ := hd
      obtain ⟨rfl, rfl⟩ := Prod.mk.inj ee
      refine ⟨B, env, Γ, x, e1, w, h1, fun v H1 w1 => ⟨B, e1, _, y, e2, w1, h2, fun u H2 w2 => ?_⟩⟩
      exact ⟨B, Γ ++ er σ e2, x, y, d', w2.w, hd, fun z H3 w3 => q z H3 ⟨w2.fit, w2.pr, w3⟩⟩
    · cases hd
  · cases hd
theorem SE_neg {a : T} (s : SE Φ k n a) : SE Φ k n (.neg a) := by
  intro X sc e O h
  cases e <;> try (simp [chkE] at h; done)
  rename_i uo x _
  cases uo <;> try (simp [chkE] at h; done)
  simp only [chkE] at h
  refine (pe_un un_neg (s O h)).imp ?_
  rintro σ H Q ⟨B, env, Γ, d, e', w, hd, q⟩
  rw [evE] at hd
  split at hd
  · rename_i i e1 h1
    obtain ⟨rfl, rfl⟩ := Prod.mk.inj (Option.some.inj hd)
    refine ⟨B, env, Γ, _, e1, w, h1, fun v H1 w1 => ?_⟩
    have ev := w1.headInt
    subst ev
    exact ⟨i, rfl, q _ H1 (w1.drop.int _)⟩
  · cases hd
theorem cmp_imp {K : PySem.W.Frag} {o : Cop} {a b : T} {σ : L2.St} {H : Hp} {Q : VK} (h : tD K Φ (.cmp o a b) σ H Q) : tOp (rCmp o) (tD K Φ a) (tD K Φ b) σ H Q := by
  obtain ⟨B, env, Γ, d, e', w, hd, q⟩ := h
  rw [evE] at hd
  split at hd
  · rename_i i e1 h1
    split at hd
    · rename_i j e2 h2
      obtain ⟨rfl, rfl⟩ := Prod.mk.inj (Option.some.inj hd)
      refine ⟨B, env, Γ, _, e1, w, h1, fun v H1 w1 => ⟨B, e1, _, _, e2, w1, h2, fun u H2 w2 => ?_⟩⟩
      have ev := w2.headInt
      have ew := w2.drop.headInt
      subst ev ew
      exact ⟨i, j, rfl, rfl, q _ H2 (w2.drop.drop.bl _)⟩
    · cases hd
  · cases hd
theorem SE_cmp {o : Cop} {a b : T} (sa : SE Φ k n a) (sb : SE Φ k n b) : SE Φ k n (.cmp o a b) := by
  intro X sc e O h
  cases e <;> try (simp [chkE] at h; done)
  rename_i l ops cs _
  match ops, cs, h with
  | [op], [c], h =>
    simp only [chkE, Bool.and_eq_true] at h
    exact (pe_cmpR (op_cmp h.1.1) (sa O h.1.2) (sb O h.2) (cop_mark h.1.1 _)).imp fun σ H Q q => cmp_imp q
theorem ST_cmp {o : Cop} {a b : T} (sa : SE Φ k n a) (sb : SE Φ k n b) : ST Φ k n (.cmp o a b) := by
  intro X sc e O h
  cases e <;> try (simp [chkE] at h; done)
  rename_i l ops cs _
  match ops, cs, h with
  | [op], [c], h =>
    simp only [chkE, Bool.and_eq_true] at h
    exact (pt_cmpR (op_cmp h.1.1) (sa O h.1.2) (sb O h.2) (cop_mark h.1.1 _)).imp fun σ H Q q => cmp_imp (tT_of σ H Q q)
end
end Sr
set_option Elab.async false
set_option linter.all false
set_option maxRecDepth 100000
set_option maxHeartbeats 2000000
/-! # Sr: terms and their text, one by one (2) -/
namespace Sr
open PySem PySem.Spec PyProof.Rows L2
theorem inj2 {α β : Type} {a c : α} {b d : β} (h : some (a, b) = some (c, d)) : a = c ∧ b = d := Prod.mk.inj (Option.some.inj h)
section
variable {Φ : Fs} {k : Nat} {n : Nm}

/-! ### == and != -/
def eqR (neg : Bool) (K : PySem.W.Frag) : R2 := if neg then rNeD K else rEqD K
theorem op_eqR {X : Cx} (hu : X.A.units + 64 < cLine) (neg : Bool) : OpR X (compareOp (if neg then .NotEq else .Eq)) (eqR neg X.K) := by
  cases neg with
  | true => exact op_neD hu
  | false => exact op_eqD hu
theorem eqR_of {K : PySem.W.Frag} {neg : Bool} {H : Hp} {x y : V} {a b : D} {F S F' S' : List Addr} {Q : VK} (ra : Rep K H x a F S) (rb : Rep K H y b F' S') (c : (eqOk a && eqOk b) = true) (q : Q (.bl (if neg then !eqv a b else eqv a b)) H) : eqR neg K x y H Q := by
  simp only [Bool.and_eq_true] at c
  cases neg with
  | true => exact ⟨_, _, ra.dp, rb.dp, c.1, c.2, q⟩
  | false => exact ⟨_, _, ra.dp, rb.dp, c.1, c.2, q⟩
/-- both sides -/
def evEq (Φ : Fs) (neg : Bool) (a b : T) (e : Env) : Option (D × Env) := match (if isP a && isP b then (evP a e).map fun d => (d, e) else evE Φ a e) with
    | some (x, e) => match evO Φ b e with
      | some (y, e) => if eqOk x && eqOk y then some (.bl (if neg then !eqv x y else eqv x y), e) else none
      | none => none
    | none => none
theorem evE_eq (a b : T) (e : Env) : evE Φ (.eq a b) e = evEq Φ false a b e := by rw [evE]; rfl
theorem evE_ne (a b : T) (e : Env) : evE Φ (.ne a b) e = evEq Φ true a b e := by rw [evE]; rfl
/-- a reading of both sides -/
def tEq (K : PySem.W.Frag) (Φ : Fs) (neg : Bool) (a b : T) : TE := fun σ H Q => ∃ B e Γ d e', Wd K B σ e Γ H ∧ evEq Φ neg a b e = some (d, e') ∧ ∀ v H', Wd K B σ e' ((v, d) :: Γ) H' → Q v H'
theorem eq_sides {X : Cx} {sc : Scope} {a b : T} {x y : Expr} {neg : Bool} (sa : SE Φ k n a) (sb : SE Φ k n b) (O : OkX Φ k n X sc) (ha : chkE n sc a x = true) (hb : chkE n sc b y = true) :
    ∃ ta tb, PE X x ta ∧ PE X y tb ∧ ∀ σ H Q, tEq X.K Φ neg a b σ H Q → tOp (eqR neg X.K) ta tb σ H Q := by
  by_cases p : (isP a && isP b) = true
  · simp only [Bool.and_eq_true] at p
    refine ⟨_, _, evP_ok O p.1 ha, evP_ok O p.2 hb, ?_⟩
    rintro σ H Q ⟨B, env, Γ, d, e', w, hd, q⟩
    unfold evEq evO at hd
    rw [if_pos (by rw [p.1, p.2]; rfl), p.2] at hd
    simp only [if_true] at hd
    cases h1 : evP a env with
    | none => rw [h1] at hd; cases hd
    | some dx =>
      cases h2 : evP b env with
      | none => rw [h1] at hd; simp [h2] at hd
      | some dy =>
        rw [h1] at hd
        simp only [Option.map_some, h2] at hd
        split at hd
        · rename_i c
          obtain ⟨rfl, rfl⟩ := inj2 hd
          refine ⟨B, env, Γ, dx, w, h1, fun v bv => ⟨B, env, Γ, dy, w, h2, fun u bu => ?_⟩⟩
          obtain ⟨F, S, r1⟩ := bv.rep
          obtain ⟨F', S', r2⟩ := bu.rep
          exact eqR_of r1 r2 c (q _ H (w.bl _))
        · cases hd
  · refine ⟨_, _, sa O ha, sb.op O hb, ?_⟩
    rintro σ H Q ⟨B, env, Γ, d, e', w, hd, q⟩
    unfold evEq at hd
    rw [if_neg p] at hd
    split at hd
    · rename_i dx e1 h1
      split at hd
      · rename_i dy e2 h2
        split at hd
        · rename_i c
          obtain ⟨rfl, rfl⟩ := inj2 hd
          refine ⟨B, env, Γ, dx, e1, w, h1, fun v H1 w1 => ⟨B, e1, _, dy, e2, w1, h2, fun u H2 R bu w2 _ => ?_⟩⟩
          obtain ⟨F, S, r1⟩ := w2.head
          obtain ⟨F', S', r2⟩ := bu.rep
          exact eqR_of r1 r2 c (q _ H2 (w2.drop.bl _))
        · cases hd
      · cases hd
    · cases hd
theorem SE_eqs {neg : Bool} {a b : T} (sa : SE Φ k n a) (sb : SE Φ k n b) {X : Cx} {sc : Scope} {x y : Expr} {pos : Pos} (O : OkX Φ k n X sc) (ha : chkE n sc a x = true) (hb : chkE n sc b y = true) :
    PE X (.Compare x [if neg then .NotEq else .Eq] [y] pos) (tEq X.K Φ neg a b) := by
  obtain ⟨ta, tb, h1, h2, h3⟩ := eq_sides (neg := neg) sa sb O ha hb
  exact (pe_cmpR (op_eqR O.lv0.units neg) h1 h2 (by cases neg <;> exact nobehind _ (by decide) (by decide))).imp h3
theorem ST_eqs {neg : Bool} {a b : T} (sa : SE Φ k n a) (sb : SE Φ k n b) {X : Cx} {sc : Scope} {x y : Expr} {pos : Pos} (O : OkX Φ k n X sc) (ha : chkE n sc a x = true) (hb : chkE n sc b y = true) :
    PT X (.Compare x [if neg then .NotEq else .Eq] [y] pos) (tTest (tEq X.K Φ neg a b)) := by
  obtain ⟨ta, tb, h1, h2, h3⟩ := eq_sides (neg := neg) sa sb O ha hb
  exact (pt_cmpR (op_eqR O.lv0.units neg) h1 h2 (by cases neg <;> exact nobehind _ (by decide) (by decide))).imp fun σ H Q q => h3 σ H _ q
theorem chk_eq {a b : T} {sc : Scope} {e : Expr} (h : chkE n sc (.eq a b) e = true) : ∃ x y pos, e = .Compare x [.Eq] [y] pos ∧ (chkE n sc a x = true ∧ chkE n sc b y = true) := by
  cases e <;> try (simp [chkE] at h; done)
  rename_i l ops cs _
  rcases ops with _ | ⟨op, _ | ⟨op2, r⟩⟩
  · simp [chkE] at h
  · rcases cs with _ | ⟨c, _ | ⟨c2, r2⟩⟩
    · cases op <;> simp [chkE] at h
    · cases op <;> try (simp [chkE] at h; done)
      simp only [chkE, Bool.and_eq_true] at h
      exact ⟨_, _, _, rfl, h⟩
    · cases op <;> simp [chkE] at h
  · cases op <;> simp [chkE] at h
theorem chk_ne {a b : T} {sc : Scope} {e : Expr} (h : chkE n sc (.ne a b) e = true) : ∃ x y pos, e = .Compare x [.NotEq] [y] pos ∧ (chkE n sc a x = true ∧ chkE n sc b y = true) := by
  cases e <;> try (simp [chkE] at h; done)
  rename_i l ops cs _
  rcases ops with _ | ⟨op, _ | ⟨op2, r⟩⟩
  · simp [chkE] at h
  · rcases cs with _ | ⟨c, _ | ⟨c2, r2⟩⟩
    · cases op <;> simp [chkE] at h
    · cases op <;> try (simp [chkE] at h; done)
      simp only [chkE, Bool.and_eq_true] at h
      exact ⟨_, _, _, rfl, h⟩
    · cases op <;> simp [chkE] at h
  · cases op <;> simp [chkE] at h
theorem SE_eq {a b : T} (sa : SE Φ k n a) (sb : SE Φ k n b) : SE Φ k n (.eq a b) := by
  intro X sc e O h
  obtain ⟨x, y, pos, rfl, hh⟩ := chk_eq h
  refine (SE_eqs (neg := false) sa sb O hh.1 hh.2).imp ?_
  rintro σ H Q ⟨B, env, Γ, d, e', w, hd, q⟩
  exact ⟨B, env, Γ, d, e', w, by rw [evE_eq] at hd; exact hd, q⟩
theorem ST_eq {a b : T} (sa : SE Φ k n a) (sb : SE Φ k n b) : ST Φ k n (.eq a b) := by
  intro X sc e O h
  obtain ⟨x, y, pos, rfl, hh⟩ := chk_eq h
  refine (ST_eqs (neg := false) sa sb O hh.1 hh.2).imp fun σ H Q hq => ?_
  obtain ⟨B, env, Γ, d, e', w, hd, q⟩ := tT_of σ H Q hq
  exact ⟨B, env, Γ, d, e', w, by rw [evE_eq] at hd; exact hd, q⟩
theorem SE_ne {a b : T} (sa : SE Φ k n a) (sb : SE Φ k n b) : SE Φ k n (.ne a b) := by
  intro X sc e O h
  obtain ⟨x, y, pos, rfl, hh⟩ := chk_ne h
  refine (SE_eqs (neg := true) sa sb O hh.1 hh.2).imp ?_
  rintro σ H Q ⟨B, env, Γ, d, e', w, hd, q⟩
  exact ⟨B, env, Γ, d, e', w, by rw [evE_ne] at hd; exact hd, q⟩
theorem ST_ne {a b : T} (sa : SE Φ k n a) (sb : SE Φ k n b) : ST Φ k n (.ne a b) := by
  intro X sc e O h
  obtain ⟨x, y, pos, rfl, hh⟩ := chk_ne h
  refine (ST_eqs (neg := true) sa sb O hh.1 hh.2).imp fun σ H Q hq => ?_
  obtain ⟨B, env, Γ, d, e', w, hd, q⟩ := tT_of σ H Q hq
  exact ⟨B, env, Γ, d, e', w, by rw [evE_ne] at hd; exact hd, q⟩

/-! ### in -/
def inR (neg : Bool) (K : PySem.W.Frag) : R2 := if neg then rNotInD K else rInD K
theorem op_inR {X : Cx} (hu : X.A.units + 65 < cLine) (neg : Bool) : OpR X (compareOp (if neg then .NotIn else .In)) (inR neg X.K) := by
  cases neg with
  | true => exact op_notInD hu
  | false => exact op_inD hu
theorem inD_py (x : D) : ∀ ys : List D, ((pyL ys).any fun z => PyData.eqv z x.py) = inD x ys
  | [] => rfl
  | y :: ys => by
    have ih := inD_py x ys
    unfold inD at ih ⊢
    rw [pyL, List.any_cons, List.any_cons, ih]; rfl
theorem inR_of {K : PySem.W.Frag} {neg : Bool} {H : Hp} {x y : V} {a : D} {o : Bool} {ys : List D} {F S F' S' : List Addr} {Q : VK} (ra : Rep K H x a F S) (rb : Rep K H y (.lst o ys) F' S') (c : (eqOk a && eqOk (.lst o ys)) = true) (q : Q (.bl (if neg then !inD a ys else inD a ys)) H) : inR neg K x y H Q := by
  simp only [Bool.and_eq_true] at c
  cases neg with
  | true => exact ⟨_, _, ra.dp, rb.dp, c.1, c.2, by rw [inD_py]; exact q⟩
  | false => exact ⟨_, _, ra.dp, rb.dp, c.1, c.2, by rw [inD_py]; exact q⟩
/-- both sides -/
def evIn (Φ : Fs) (neg : Bool) (a b : T) (e : Env) : Option (D × Env) := match (if isP a && isP b then (evP a e).map fun d => (d, e) else evE Φ a e) with
    | some (x, e) => match evO Φ b e with
      | some (.lst o ys, e) => if eqOk x && eqOk (.lst o ys) then some (.bl (if neg then !inD x ys else inD x ys), e) else none
      | _ => none
    | none => none
theorem evE_inn (a b : T) (e : Env) : evE Φ (.inn a b) e = evIn Φ false a b e := by rw [evE]; rfl
theorem evE_nin (a b : T) (e : Env) : evE Φ (.nin a b) e = evIn Φ true a b e := by rw [evE]; rfl
/-- a reading of both sides -/
def tIn (K : PySem.W.Frag) (Φ : Fs) (neg : Bool) (a b : T) : TE := fun σ H Q => ∃ B e Γ d e', Wd K B σ e Γ H ∧ evIn Φ neg a b e = some (d, e') ∧ ∀ v H', Wd K B σ e' ((v, d) :: Γ) H' → Q v H'
theorem in_sides {X : Cx} {sc : Scope} {a b : T} {x y : Expr} {neg : Bool} (sa : SE Φ k n a) (sb : SE Φ k n b) (O : OkX Φ k n X sc) (ha : chkE n sc a x = true) (hb : chkE n sc b y = true) :
    ∃ ta tb, PE X x ta ∧ PE X y tb ∧ ∀ σ H Q, tIn X.K Φ neg a b σ H Q → tOp (inR neg X.K) ta tb σ H Q := by
  by_cases p : (isP a && isP b) = true
  · simp only [Bool.and_eq_true] at p
    refine ⟨_, _, evP_ok O p.1 ha, evP_ok O p.2 hb, ?_⟩
    rintro σ H Q ⟨B, env, Γ, d, e', w, hd, q⟩
    unfold evIn evO at hd
    rw [if_pos (by rw [p.1, p.2]; rfl), p.2] at hd
    simp only [if_true] at hd
    cases h1 : evP a env with
    | none => rw [h1] at hd; cases hd
    | some dx =>
      cases h2 : evP b env with
      | none => rw [h1] at hd; simp [h2] at hd
      | some dy =>
        rw [h1] at hd
        simp only [Option.map_some, h2] at hd
        cases dy <;> try (cases hd; done)
        rename_i o ys
        simp only at hd
        split at hd
        · rename_i c
          obtain ⟨rfl, rfl⟩ := inj2 hd
          refine ⟨B, env, Γ, dx, w, h1, fun v bv => ⟨B, env, Γ, _, w, h2, fun u bu => ?_⟩⟩
          obtain ⟨F, S, r1⟩ := bv.rep
          obtain ⟨F', S', r2⟩ := bu.rep
          exact inR_of r1 r2 c (q _ H (w.bl _))
        · cases hd
  · refine ⟨_, _, sa O ha, sb.op O hb, ?_⟩
    rintro σ H Q ⟨B, env, Γ, d, e', w, hd, q⟩
    unfold evIn at hd
    rw [if_neg p] at hd
    split at hd
    · rename_i dx e1 h1
      split at hd
      · rename_i o ys e2 h2
        split at hd
        · rename_i c
          obtain ⟨rfl, rfl⟩ := inj2 hd
          refine ⟨B, env, Γ, dx, e1, w, h1, fun v H1 w1 => ⟨B, e1, _, _, e2, w1, h2, fun u H2 R bu w2 _ => ?_⟩⟩
          obtain ⟨F, S, r1⟩ := w2.head
          obtain ⟨F', S', r2⟩ := bu.rep
          exact inR_of r1 r2 c (q _ H2 (w2.drop.bl _))
        · cases hd
      · cases hd
    · cases hd
theorem SE_ins {neg : Bool} {a b : T} (sa : SE Φ k n a) (sb : SE Φ k n b) {X : Cx} {sc : Scope} {x y : Expr} {pos : Pos} (O : OkX Φ k n X sc) (ha : chkE n sc a x = true) (hb : chkE n sc b y = true) (hm : behindInMarks (if neg then .NotIn else .In) y = false) :
    PE X (.Compare x [if neg then .NotIn else .In] [y] pos) (tIn X.K Φ neg a b) := by
  obtain ⟨ta, tb, h1, h2, h3⟩ := in_sides (neg := neg) sa sb O ha hb
  exact (pe_cmpR (op_inR (by have := O.lv0.un; omega) neg) h1 h2 hm).imp h3
theorem ST_ins {neg : Bool} {a b : T} (sa : SE Φ k n a) (sb : SE Φ k n b) {X : Cx} {sc : Scope} {x y : Expr} {pos : Pos} (O : OkX Φ k n X sc) (ha : chkE n sc a x = true) (hb : chkE n sc b y = true) (hm : behindInMarks (if neg then .NotIn else .In) y = false) :
    PT X (.Compare x [if neg then .NotIn else .In] [y] pos) (tTest (tIn X.K Φ neg a b)) := by
  obtain ⟨ta, tb, h1, h2, h3⟩ := in_sides (neg := neg) sa sb O ha hb
  exact (pt_cmpR (op_inR (by have := O.lv0.un; omega) neg) h1 h2 hm).imp fun σ H Q q => h3 σ H _ q
theorem chk_inn {a b : T} {sc : Scope} {e : Expr} (h : chkE n sc (.inn a b) e = true) : ∃ x y pos, e = .Compare x [.In] [y] pos ∧ (chkE n sc a x = true ∧ chkE n sc b y = true) ∧ behindInMarks .In y = false := by
  cases e <;> try (simp [chkE] at h; done)
  rename_i l ops cs _
  rcases ops with _ | ⟨op, _ | ⟨op2, r⟩⟩
  · simp [chkE] at h
  · rcases cs with _ | ⟨c, _ | ⟨c2, r2⟩⟩
    · cases op <;> simp [chkE] at h
    · cases op <;> try (simp [chkE] at h; done)
      simp only [chkE, Bool.and_eq_true, Bool.not_eq_true'] at h
      exact ⟨_, _, _, rfl, ⟨h.1.2, h.2⟩, h.1.1⟩
    · cases op <;> simp [chkE] at h
  · cases op <;> simp [chkE] at h
theorem chk_nin {a b : T} {sc : Scope} {e : Expr} (h : chkE n sc (.nin a b) e = true) : ∃ x y pos, e = .Compare x [.NotIn] [y] pos ∧ (chkE n sc a x = true ∧ chkE n sc b y = true) ∧ behindInMarks .NotIn y = false := by
  cases e <;> try (simp [chkE] at h; done)
  rename_i l ops cs _
  rcases ops with _ | ⟨op, _ | ⟨op2, r⟩⟩
  · simp [chkE] at h
  · rcases cs with _ | ⟨c, _ | ⟨c2, r2⟩⟩
    · cases op <;> simp [chkE] at h
    · cases op <;> try (simp [chkE] at h; done)
      simp only [chkE, Bool.and_eq_true, Bool.not_eq_true'] at h
      exact ⟨_, _, _, rfl, ⟨h.1.2, h.2⟩, h.1.1⟩
    · cases op <;> simp [chkE] at h
  · cases op <;> simp [chkE] at h
theorem SE_inn {a b : T} (sa : SE Φ k n a) (sb : SE Φ k n b) : SE Φ k n (.inn a b) := by
  intro X sc e O h
  obtain ⟨x, y, pos, rfl, hh⟩ := chk_inn h
  refine (SE_ins (neg := false) sa sb O hh.1.1 hh.1.2 hh.2).imp ?_
  rintro σ H Q ⟨B, env, Γ, d, e', w, hd, q⟩
  exact ⟨B, env, Γ, d, e', w, by rw [evE_inn] at hd; exact hd, q⟩
theorem ST_inn {a b : T} (sa : SE Φ k n a) (sb : SE Φ k n b) : ST Φ k n (.inn a b) := by
  intro X sc e O h
  obtain ⟨x, y, pos, rfl, hh⟩ := chk_inn h
  refine (ST_ins (neg := false) sa sb O hh.1.1 hh.1.2 hh.2).imp fun σ H Q hq => ?_
  obtain ⟨B, env, Γ, d, e', w, hd, q⟩ := tT_of σ H Q hq
  exact ⟨B, env, Γ, d, e', w, by rw [evE_inn] at hd; exact hd, q⟩
theorem SE_nin {a b : T} (sa : SE Φ k n a) (sb : SE Φ k n b) : SE Φ k n (.nin a b) := by
  intro X sc e O h
  obtain ⟨x, y, pos, rfl, hh⟩ := chk_nin h
  refine (SE_ins (neg := true) sa sb O hh.1.1 hh.1.2 hh.2).imp ?_
  rintro σ H Q ⟨B, env, Γ, d, e', w, hd, q⟩
  exact ⟨B, env, Γ, d, e', w, by rw [evE_nin] at hd; exact hd, q⟩
theorem ST_nin {a b : T} (sa : SE Φ k n a) (sb : SE Φ k n b) : ST Φ k n (.nin a b) := by
  intro X sc e O h
  obtain ⟨x, y, pos, rfl, hh⟩ := chk_nin h
  refine (ST_ins (neg := true) sa sb O hh.1.1 hh.1.2 hh.2).imp fun σ H Q hq => ?_
  obtain ⟨B, env, Γ, d, e', w, hd, q⟩ := tT_of σ H Q hq
  exact ⟨B, env, Γ, d, e', w, by rw [evE_nin] at hd; exact hd, q⟩

/-! ### is None -/
theorem Rep.non_iff {K : PySem.W.Frag} {H : Hp} {v : V} {d : D} {F S : List Addr} (r : Rep K H v d F S) : decide (v = .non) = (match d with | .non => true | _ => false) := by
  cases r <;> rfl
theorem isN_imp {K : PySem.W.Frag} {a : T} {σ : L2.St} {H : Hp} {Q : VK} (h : tD K Φ (.isN a) σ H Q) : tIsN (tO K Φ a) σ H Q := by
  obtain ⟨B, env, Γ, d, e', w, hd, q⟩ := h
  rw [evE] at hd
  change (match evO Φ a env with | some (.non, e) => some (D.bl true, e) | some (_, e) => some (.bl false, e) | none => none) = some (d, e') at hd
  split at hd
  · rename_i e1 h1
    obtain ⟨rfl, rfl⟩ := inj2 hd
    refine ⟨B, env, Γ, _, e1, w, h1, fun v H1 R bv w1 _ => ?_⟩
    obtain ⟨F, S, r⟩ := bv.rep
    rw [r.non_iff]
    exact q _ H1 (w1.bl _)
  · rename_i d1 e1 hn h1
    obtain ⟨rfl, rfl⟩ := inj2 hd
    refine ⟨B, env, Γ, _, e1, w, h1, fun v H1 R bv w1 _ => ?_⟩
    obtain ⟨F, S, r⟩ := bv.rep
    rw [r.non_iff]
    cases d1 <;> first | exact q _ H1 (w1.bl _) | exact (hn rfl).elim
  · cases hd
theorem nisN_imp {K : PySem.W.Frag} {a : T} {σ : L2.St} {H : Hp} {Q : VK} (h : tD K Φ (.nisN a) σ H Q) : tNotN (tO K Φ a) σ H Q := by
  obtain ⟨B, env, Γ, d, e', w, hd, q⟩ := h
  rw [evE] at hd
  change (match evO Φ a env with | some (.non, e) => some (D.bl false, e) | some (_, e) => some (.bl true, e) | none => none) = some (d, e') at hd
  split at hd
  · rename_i e1 h1
    obtain ⟨rfl, rfl⟩ := inj2 hd
    refine ⟨B, env, Γ, _, e1, w, h1, fun v H1 R bv w1 _ => ?_⟩
    obtain ⟨F, S, r⟩ := bv.rep
    rw [r.non_iff]
    exact q _ H1 (w1.bl _)
  · rename_i d1 e1 hn h1
    obtain ⟨rfl, rfl⟩ := inj2 hd
    refine ⟨B, env, Γ, _, e1, w, h1, fun v H1 R bv w1 _ => ?_⟩
    obtain ⟨F, S, r⟩ := bv.rep
    rw [r.non_iff]
    cases d1 <;> first | exact q _ H1 (w1.bl _) | exact (hn rfl).elim
  · cases hd
theorem chk_isN {a : T} {sc : Scope} {e : Expr} (h : chkE n sc (.isN a) e = true) : ∃ x j p p', e = .Compare x [.Is] [.Constant .none j p] p' ∧ chkE n sc a x = true := by
  cases e <;> try (simp [chkE] at h; done)
  rename_i l ops cs _
  rcases ops with _ | ⟨op, _ | ⟨op2, r⟩⟩
  · simp [chkE] at h
  · rcases cs with _ | ⟨c, _ | ⟨c2, r2⟩⟩
    · cases op <;> simp [chkE] at h
    · cases op <;> try (simp [chkE] at h; done)
      cases c <;> try (simp [chkE] at h; done)
      rename_i cc _ _
      cases cc <;> try (simp [chkE] at h; done)
      simp only [chkE] at h
      exact ⟨_, _, _, _, rfl, h⟩
    · cases op <;> simp [chkE] at h
  · cases op <;> simp [chkE] at h
theorem chk_nisN {a : T} {sc : Scope} {e : Expr} (h : chkE n sc (.nisN a) e = true) : ∃ x j p p', e = .Compare x [.IsNot] [.Constant .none j p] p' ∧ chkE n sc a x = true := by
  cases e <;> try (simp [chkE] at h; done)
  rename_i l ops cs _
  rcases ops with _ | ⟨op, _ | ⟨op2, r⟩⟩
  · simp [chkE] at h
  · rcases cs with _ | ⟨c, _ | ⟨c2, r2⟩⟩
    · cases op <;> simp [chkE] at h
    · cases op <;> try (simp [chkE] at h; done)
      cases c <;> try (simp [chkE] at h; done)
      rename_i cc _ _
      cases cc <;> try (simp [chkE] at h; done)
      simp only [chkE] at h
      exact ⟨_, _, _, _, rfl, h⟩
    · cases op <;> simp [chkE] at h
  · cases op <;> simp [chkE] at h
theorem SE_isN {a : T} (s : SE Φ k n a) : SE Φ k n (.isN a) := by
  intro X sc e O h
  obtain ⟨x, j, p, p', rfl, h⟩ := chk_isN h
  exact (pe_cmp (pc_isN (s.op O h))).imp fun σ H Q q => isN_imp q
theorem ST_isN {a : T} (s : SE Φ k n a) : ST Φ k n (.isN a) := by
  intro X sc e O h
  obtain ⟨x, j, p, p', rfl, h⟩ := chk_isN h
  exact (pt_cmp (pc_isN (s.op O h))).imp fun σ H Q q => isN_imp (tT_of σ H Q q)
theorem SE_nisN {a : T} (s : SE Φ k n a) : SE Φ k n (.nisN a) := by
  intro X sc e O h
  obtain ⟨x, j, p, p', rfl, h⟩ := chk_nisN h
  exact (pe_cmp (pc_notN (s.op O h))).imp fun σ H Q q => nisN_imp q
theorem ST_nisN {a : T} (s : SE Φ k n a) : ST Φ k n (.nisN a) := by
  intro X sc e O h
  obtain ⟨x, j, p, p', rfl, h⟩ := chk_nisN h
  exact (pt_cmp (pc_notN (s.op O h))).imp fun σ H Q q => nisN_imp (tT_of σ H Q q)

/-! ### chains -/
theorem chain_imp {K : PySem.W.Frag} {o o' : Cop} {a b c : T} {σ : L2.St} {H : Hp} {Q : VK} (h : tD K Φ (.chain o o' a b c) σ H Q) : tChain (rCmp o) (rCmp o') (tD K Φ a) (tD K Φ b) (tD K Φ c) σ H Q := by
  obtain ⟨B, env, Γ, d, e', w, hd, q⟩ := h
  rw [evE] at hd
  split at hd
  · rename_i i e1 h1
    split at hd
    · rename_i j e2 h2
      refine ⟨B, env, Γ, _, e1, w, h1, fun v H1 w1 => ⟨B, e1, _, _, e2, w1, h2, fun u H2 w2 => ?_⟩⟩
      have ev := w2.headInt
      have ew := w2.drop.headInt
      subst ev ew
      refine ⟨i, j, rfl, rfl, _, rfl, ?_⟩
      split at hd
      · rename_i hc
        rw [if_pos hc]
        split at hd
        · rename_i kk e3 h3
          obtain ⟨rfl, rfl⟩ := inj2 hd
          refine ⟨B, e2, _, _, e3, w2, h3, fun u' H3 w3 => ?_⟩
          have ez := w3.headInt
          subst ez
          exact ⟨j, kk, rfl, rfl, q _ H3 (w3.drop.drop.drop.bl _)⟩
        · cases hd
      · rename_i hc
        rw [if_neg hc]
        obtain ⟨rfl, rfl⟩ := inj2 hd
        exact q _ H2 (w2.drop.drop.bl _)
    · cases hd
  · cases hd
theorem chk_chain {o o' : Cop} {a b c : T} {sc : Scope} {e : Expr} (h : chkE n sc (.chain o o' a b c) e = true) : ∃ x p q y z pos, e = .Compare x [p, q] [y, z] pos ∧ cop o p = true ∧ cop o' q = true ∧ chkE n sc a x = true ∧ chkE n sc b y = true ∧ chkE n sc c z = true := by
  cases e <;> try (simp [chkE] at h; done)
  rename_i l ops cs _
  match ops, cs, h with
  | [p, q], [y, z], h =>
    simp only [chkE, Bool.and_eq_true] at h
    exact ⟨_, _, _, _, _, _, rfl, h.1.1.1.1, h.1.1.1.2, h.1.1.2, h.1.2, h.2⟩
theorem marks2 {o o' : Cop} {p q : CmpOp} (h1 : cop o p = true) (h2 : cop o' q = true) (y z : Expr) : lastMarks [p, q] [y, z] = false := by
  show behindInMarks q z = false
  exact cop_mark h2 z
theorem SE_chain {o o' : Cop} {a b c : T} (sa : SE Φ k n a) (sb : SE Φ k n b) (sc' : SE Φ k n c) : SE Φ k n (.chain o o' a b c) := by
  intro X sc e O h
  obtain ⟨x, p, q, y, z, pos, rfl, h1, h2, h3, h4, h5⟩ := chk_chain h
  exact (pe_chain (op_cmp h1) (op_cmp h2) (sa O h3) (sb O h4) (sc' O h5) (marks2 h1 h2 y z)).imp fun σ H Q q => chain_imp q
theorem ST_chain {o o' : Cop} {a b c : T} (sa : SE Φ k n a) (sb : SE Φ k n b) (sc' : SE Φ k n c) : ST Φ k n (.chain o o' a b c) := by
  intro X sc e O h
  obtain ⟨x, p, q, y, z, pos, rfl, h1, h2, h3, h4, h5⟩ := chk_chain h
  exact (pt_chain (op_cmp h1) (op_cmp h2) (sa O h3) (sb O h4) (sc' O h5) (marks2 h1 h2 y z)).imp fun σ H Q q => chain_imp (tT_of σ H Q q)

/-! ### and, or, not -/
theorem chk_and {a b : T} {sc : Scope} {e : Expr} (h : chkE n sc (.and a b) e = true) : ∃ x y r pos, e = .BoolOp .And (x :: y :: r) pos ∧ chkE n sc a x = true ∧ (r = [] ∧ chkE n sc b y = true ∨ chkE n sc b (.BoolOp .And (y :: r) pos) = true) := by
  cases e <;> try (simp [chkE] at h; done)
  rename_i op vs pos
  cases op <;> try (simp [chkE] at h; done)
  match vs, h with
  | x :: y :: [], h =>
    simp only [chkE, Bool.and_eq_true] at h
    exact ⟨x, y, [], pos, rfl, h.1, .inl ⟨rfl, h.2⟩⟩
  | x :: y :: z :: r, h =>
    simp only [chkE, Bool.and_eq_true] at h
    exact ⟨x, y, z :: r, pos, rfl, h.1, .inr h.2⟩
theorem chk_or {a b : T} {sc : Scope} {e : Expr} (h : chkE n sc (.or a b) e = true) : ∃ x y r pos, e = .BoolOp .Or (x :: y :: r) pos ∧ chkE n sc a x = true ∧ (r = [] ∧ chkE n sc b y = true ∨ chkE n sc b (.BoolOp .Or (y :: r) pos) = true) := by
  cases e <;> try (simp [chkE] at h; done)
  rename_i op vs pos
  cases op <;> try (simp [chkE] at h; done)
  match vs, h with
  | x :: y :: [], h =>
    simp only [chkE, Bool.and_eq_true] at h
    exact ⟨x, y, [], pos, rfl, h.1, .inl ⟨rfl, h.2⟩⟩
  | x :: y :: z :: r, h =>
    simp only [chkE, Bool.and_eq_true] at h
    exact ⟨x, y, z :: r, pos, rfl, h.1, .inr h.2⟩
theorem SE_and {a b : T} (sa : SE Φ k n a) (sb : SE Φ k n b) : SE Φ k n (.and a b) := by
  intro X sc e O h
  obtain ⟨x, y, r, pos, rfl, h1, h2⟩ := chk_and h
  have hb : PE X (.BoolOp .And (y :: r) pos) (tD X.K Φ b) := by
    rcases h2 with ⟨rfl, h2⟩ | h2
    · exact pe_one (sb O h2)
    · exact sb O h2
  refine (pe_and (sa O h1) hb).imp ?_
  rintro σ H Q ⟨B, env, Γ, d, e', w, hd, q⟩
  rw [evE] at hd
  split at hd
  · rename_i e1 h1
    split at hd
    · rename_i c e2 h2
      obtain ⟨rfl, rfl⟩ := inj2 hd
      refine ⟨B, env, Γ, _, e1, w, h1, fun v H1 w1 => ⟨true, w1.headBl, ?_⟩⟩
      rw [if_pos rfl]
      exact ⟨B, e1, Γ, _, e2, w1.drop, h2, fun u H2 w2 => q u H2 w2⟩
    · cases hd
  · rename_i e1 h1
    obtain ⟨rfl, rfl⟩ := inj2 hd
    refine ⟨B, env, Γ, _, e1, w, h1, fun v H1 w1 => ⟨false, w1.headBl, ?_⟩⟩
    rw [if_neg Bool.false_ne_true]
    exact q _ H1 (w1.drop.bl _)
  · cases hd
theorem SE_or {a b : T} (sa : SE Φ k n a) (sb : SE Φ k n b) : SE Φ k n (.or a b) := by
  intro X sc e O h
  obtain ⟨x, y, r, pos, rfl, h1, h2⟩ := chk_or h
  have hb : PE X (.BoolOp .Or (y :: r) pos) (tD X.K Φ b) := by
    rcases h2 with ⟨rfl, h2⟩ | h2
    · exact pe_one (sb O h2)
    · exact sb O h2
  refine (pe_or (sa O h1) hb).imp ?_
  rintro σ H Q ⟨B, env, Γ, d, e', w, hd, q⟩
  rw [evE] at hd
  split at hd
  · rename_i e1 h1
    split at hd
    · rename_i c e2 h2
      obtain ⟨rfl, rfl⟩ := inj2 hd
      refine ⟨B, env, Γ, _, e1, w, h1, fun v H1 w1 => ⟨false, w1.headBl, ?_⟩⟩
      rw [if_neg Bool.false_ne_true]
      exact ⟨B, e1, Γ, _, e2, w1.drop, h2, fun u H2 w2 => q u H2 w2⟩
    · cases hd
  · rename_i e1 h1
    obtain ⟨rfl, rfl⟩ := inj2 hd
    refine ⟨B, env, Γ, _, e1, w, h1, fun v H1 w1 => ⟨true, w1.headBl, ?_⟩⟩
    rw [if_pos rfl]
    exact q _ H1 (w1.drop.bl _)
  · cases hd
/-- a chain of and, or is one test, whatever its 'whole' is -/
def SW (Φ : Fs) (k : Nat) (n : Nm) (op : BoolOp) (t : T) : Prop := ∀ {X : Cx} {sc : Scope} {es : List Expr} {pos : Pos}, OkX Φ k n X sc → chkE n sc t (.BoolOp op es pos) = true → PW X (.BoolOp op es pos) (tT X.K Φ t)
theorem and_imp {K : PySem.W.Frag} {a b : T} {σ : L2.St} {H : Hp} {Q : Bool → Hp → Prop} (h : tT K Φ (.and a b) σ H Q) : tAnd (tT K Φ a) (tT K Φ b) σ H Q := by
  obtain ⟨B, env, Γ, d, e', w, hd, q⟩ := h
  rw [evE] at hd
  split at hd
  · rename_i e1 h1
    split at hd
    · rename_i c e2 h2
      obtain ⟨hc, rfl⟩ := inj2 hd
      cases hc
      refine ⟨B, env, Γ, _, e1, w, h1, fun H1 w1 => ?_⟩
      show if true = true then _ else _
      rw [if_pos rfl]
      exact ⟨B, e1, Γ, _, e2, w1, h2, q⟩
    · cases hd
  · rename_i e1 h1
    obtain ⟨hc, rfl⟩ := inj2 hd
    cases hc
    refine ⟨B, env, Γ, _, e1, w, h1, fun H1 w1 => ?_⟩
    show if false = true then _ else _
    rw [if_neg Bool.false_ne_true]
    exact q H1 w1
  · cases hd
theorem or_imp {K : PySem.W.Frag} {a b : T} {σ : L2.St} {H : Hp} {Q : Bool → Hp → Prop} (h : tT K Φ (.or a b) σ H Q) : tOr (tT K Φ a) (tT K Φ b) σ H Q := by
  obtain ⟨B, env, Γ, d, e', w, hd, q⟩ := h
  rw [evE] at hd
  split at hd
  · rename_i e1 h1
    split at hd
    · rename_i c e2 h2
      obtain ⟨hc, rfl⟩ := inj2 hd
      cases hc
      refine ⟨B, env, Γ, _, e1, w, h1, fun H1 w1 => ?_⟩
      show if false = true then _ else _
      rw [if_neg Bool.false_ne_true]
      exact ⟨B, e1, Γ, _, e2, w1, h2, q⟩
    · cases hd
  · rename_i e1 h1
    obtain ⟨hc, rfl⟩ := inj2 hd
    cases hc
    refine ⟨B, env, Γ, _, e1, w, h1, fun H1 w1 => ?_⟩
    show if true = true then _ else _
    rw [if_pos rfl]
    exact q H1 w1
  · cases hd
theorem _root_.L2.PW.imp {X : Cx} {e : Expr} {t t' : TT} (h : PW X e t) (i : ∀ σ H Q, t' σ H Q → t σ H Q) : PW X e t' := ⟨fun w pins s σ H Q I q => h.run w pins s σ H Q I (i σ H Q q)⟩
theorem SW_and {a b : T} (sa : ST Φ k n a) (sb : ST Φ k n b) (sw : SW Φ k n .And b) : SW Φ k n .And (.and a b) := by
  intro X sc es pos O h
  obtain ⟨x, y, r, pos', e, h1, h2⟩ := chk_and h
  cases e
  refine (pw_and (sa O h1) ?_).imp fun σ H Q q => and_imp q
  rcases h2 with ⟨rfl, h2⟩ | h2
  · exact pw_and1 (sb O h2)
  · exact sw O h2
theorem SW_or {a b : T} (sa : ST Φ k n a) (sb : ST Φ k n b) (sw : SW Φ k n .Or b) : SW Φ k n .Or (.or a b) := by
  intro X sc es pos O h
  obtain ⟨x, y, r, pos', e, h1, h2⟩ := chk_or h
  cases e
  refine (pw_or (sa O h1) ?_).imp fun σ H Q q => or_imp q
  rcases h2 with ⟨rfl, h2⟩ | h2
  · exact pw_or1 (sb O h2)
  · exact sw O h2
theorem ST_and {a b : T} (sw : SW Φ k n .And (.and a b)) : ST Φ k n (.and a b) := by
  intro X sc e O h
  obtain ⟨x, y, r, pos, rfl, h1, h2⟩ := chk_and h
  exact (sw O h).pt
theorem ST_or {a b : T} (sw : SW Φ k n .Or (.or a b)) : ST Φ k n (.or a b) := by
  intro X sc e O h
  obtain ⟨x, y, r, pos, rfl, h1, h2⟩ := chk_or h
  exact (sw O h).pt
theorem chk_not {a : T} {sc : Scope} {e : Expr} (h : chkE n sc (.not a) e = true) : ∃ x pos, e = .UnaryOp .Not x pos ∧ chkE n sc a x = true := by
  cases e <;> try (simp [chkE] at h; done)
  rename_i op x pos
  cases op <;> try (simp [chkE] at h; done)
  simp only [chkE] at h
  exact ⟨x, pos, rfl, h⟩
theorem SE_not {a : T} (s : SE Φ k n a) : SE Φ k n (.not a) := by
  intro X sc e O h
  obtain ⟨x, pos, rfl, h⟩ := chk_not h
  refine (pe_not (s O h)).imp ?_
  rintro σ H Q ⟨B, env, Γ, d, e', w, hd, q⟩
  rw [evE] at hd
  split at hd
  · rename_i c e1 h1
    obtain ⟨rfl, rfl⟩ := inj2 hd
    exact ⟨B, env, Γ, _, e1, w, h1, fun v H1 w1 => ⟨c, w1.headBl, q _ H1 (w1.drop.bl _)⟩⟩
  · cases hd
theorem ST_not {a : T} (s : ST Φ k n a) : ST Φ k n (.not a) := by
  intro X sc e O h
  obtain ⟨x, pos, rfl, h⟩ := chk_not h
  refine (pt_not (s O h)).imp ?_
  rintro σ H Q ⟨B, env, Γ, d, e', w, hd, q⟩
  rw [evE] at hd
  split at hd
  · rename_i c e1 h1
    obtain ⟨hc, rfl⟩ := inj2 hd
    cases hc
    exact ⟨B, env, Γ, _, e1, w, h1, q⟩
  · cases hd
theorem chk_ife {c a b : T} {sc : Scope} {e : Expr} (h : chkE n sc (.ife c a b) e = true) : ∃ x y z pos, e = .IfExp x y z pos ∧ chkE n sc c x = true ∧ chkE n sc a y = true ∧ chkE n sc b z = true := by
  cases e <;> try (simp [chkE] at h; done)
  simp only [chkE, Bool.and_eq_true] at h
  exact ⟨_, _, _, _, rfl, h.1.1, h.1.2, h.2⟩
theorem SE_ife {c a b : T} (s : ST Φ k n c) (sa : SE Φ k n a) (sb : SE Φ k n b) : SE Φ k n (.ife c a b) := by
  intro X sc e O h
  obtain ⟨x, y, z, pos, rfl, h1, h2, h3⟩ := chk_ife h
  refine (pe_ifExp (s O h1) (sa O h2) (sb O h3)).imp ?_
  rintro σ H Q ⟨B, env, Γ, d, e', w, hd, q⟩
  rw [evE] at hd
  split at hd
  · rename_i cc e1 h1
    refine ⟨B, env, Γ, cc, e1, w, h1, fun H1 w1 => ?_⟩
    cases cc with
    | true => exact ⟨B, e1, Γ, _, _, w1, by simpa using hd, q⟩
    | false => exact ⟨B, e1, Γ, _, _, w1, by simpa using hd, q⟩
  · cases hd
theorem ST_ife {c a b : T} (s : ST Φ k n c) (sa : ST Φ k n a) (sb : ST Φ k n b) : ST Φ k n (.ife c a b) := by
  intro X sc e O h
  obtain ⟨x, y, z, pos, rfl, h1, h2, h3⟩ := chk_ife h
  refine (pt_ifExp (s O h1) (sa O h2) (sb O h3)).imp ?_
  rintro σ H Q ⟨B, env, Γ, d, e', w, hd, q⟩
  rw [evE] at hd
  split at hd
  · rename_i cc e1 h1
    refine ⟨B, env, Γ, cc, e1, w, h1, fun H1 w1 => ?_⟩
    cases cc with
    | true => exact ⟨B, e1, Γ, _, _, w1, by simpa using hd, q⟩
    | false => exact ⟨B, e1, Γ, _, _, w1, by simpa using hd, q⟩
  · cases hd
end
end Sr
set_option Elab.async false
set_option linter.all false
set_option maxRecDepth 100000
set_option maxHeartbeats 2000000
/-! # Sr: calls -/
namespace Sr
open PySem PySem.Spec PyProof.Rows L2

/-! ### what is handed over, and comes back -/
def ioR : List Ag → List V → Env → List Rt
  | .io i :: as, v :: vs, e => match e.at i with
    | some d => (v, d) :: ioR as vs (e.set i none)
    | none => []
  | _ :: as, _ :: vs, e => ioR as vs e
  | _, _, _ => []
section
variable {K : PySem.W.Frag} {B : Bs} {σ : L2.St} {H H' : Hp}
theorem Wd.front {e : Env} {Γ Γ' : List Rt} (w : Wd K B σ e Γ H) (p : Γ.Perm Γ') : Wd K B σ e Γ' H := ⟨w.fit, w.pr, w.w.perm (p.append_right _)⟩
theorem take_io : ∀ {as : List Ag} {vs : List V} {e e2 : Env} {Γ : List Rt}, Wd K B σ e Γ H → AgS σ as vs → agIo as e = some e2 → Wd K B σ e2 (ioR as vs e ++ Γ) H
  | [], vs, e, e2, Γ, w, s, h => by
    cases h
    cases vs with
    | nil => exact w
    | cons _ _ => exact s.elim
  | .val d :: as, [], _, _, _, _, s, _ => s.elim
  | .var d :: as, [], _, _, _, _, s, _ => s.elim
  | .io d :: as, [], _, _, _, _, s, _ => s.elim
  | .val d :: as, v :: vs, e, e2, Γ, w, s, h => take_io (as := as) (vs := vs) w s h
  | .var i :: as, v :: vs, e, e2, Γ, w, s, h => take_io (as := as) (vs := vs) w s.2 h
  | .io i :: as, v :: vs, e, e2, Γ, w, s, h => by
    rw [agIo] at h
    split at h
    · rename_i d hd
      have q := take_io (as := as) (vs := vs) (w.move hd s.1) s.2 h
      rw [ioR, hd]
      exact q.front List.perm_middle
    · cases h
theorem args_rep {σ : L2.St} {Fr Sr : List Addr} {e2 : Env} (P : ∀ i v d, σ[i]? = some (some v) → e2.at i = some d → ∃ F1 S1, Rep K H v d F1 S1 ∧ (∀ a ∈ F1, a ∈ Fr) ∧ ∀ a ∈ S1, a ∈ Sr) (U : Prop) :
    ∀ {as : List Ag} {vs : List V} {ds : List D} {e : Env} {Fi Si Fv Sv : List Addr}, (U → ∀ i, Ag.var i ∈ as → ∀ d, e2.at i = some d → d.un = true) → Rs K H (ioR as vs e) Fi Si → Rs K H (agR as vs) Fv Sv → AgS σ as vs → agD e e2 as = some ds →
      ∃ Sa, Reps K H vs ds Fi Sa ∧ ∀ a ∈ Sa, a ∈ Si ∨ a ∈ Fv ∨ a ∈ Sv ∨ (a ∈ Fr ∧ ¬ U) ∨ a ∈ Sr
  | [], vs, ds, e, Fi, Si, Fv, Sv, hU, h1, h2, s, h => by
    cases vs with
    | cons _ _ => exact s.elim
    | nil =>
      rw [agD] at h
      cases h
      cases h1
      exact ⟨[], .nil, fun _ z => nomatch z⟩
  | .val d :: as, [], _, _, _, _, _, _, _, _, _, s, _ => s.elim
  | .var d :: as, [], _, _, _, _, _, _, _, _, _, s, _ => s.elim
  | .io d :: as, [], _, _, _, _, _, _, _, _, _, s, _ => s.elim
  | .val d :: as, v :: vs, ds, e, Fi, Si, Fv, Sv, hU, h1, h2, s, h => by
    rw [agD] at h
    split at h
    · rename_i l hl
      cases h
      cases h2 with
      | @cons _ _ _ _ F0 S0 F1 S1 r t =>
        obtain ⟨Sa, ra, qa⟩ := args_rep P U (as := as) (vs := vs) (fun u i hi => hU u i (List.mem_cons_of_mem _ hi)) h1 t s hl
        obtain ⟨S', r', q'⟩ := r.shrd
        rw [shr_shr] at r'
        refine ⟨S' ++ Sa, .cons (F := []) r' ra, fun a ha => ?_⟩
        rcases List.mem_append.mp ha with ha | ha
        · rcases q' a ha with z | z
          · exact .inr (.inl (List.mem_append_left _ z))
          · exact .inr (.inr (.inl (List.mem_append_left _ z)))
        · rcases qa a ha with z | z | z | z | z
          · exact .inl z
          · exact .inr (.inl (List.mem_append_right _ z))
          · exact .inr (.inr (.inl (List.mem_append_right _ z)))
          · exact .inr (.inr (.inr (.inl z)))
          · exact .inr (.inr (.inr (.inr z)))
    · cases h
  | .var i :: as, v :: vs, ds, e, Fi, Si, Fv, Sv, hU, h1, h2, s, h => by
    rw [agD] at h
    split at h
    · rename_i d l hd hl
      cases h
      obtain ⟨Sa, ra, qa⟩ := args_rep P U (as := as) (vs := vs) (fun u i hi => hU u i (List.mem_cons_of_mem _ hi)) h1 h2 s.2 hl
      obtain ⟨F1, S1, r, f, g⟩ := P i v d s.1 hd
      obtain ⟨S', r', q'⟩ := r.shrd
      refine ⟨S' ++ Sa, .cons (F := []) r' ra, fun a ha => ?_⟩
      rcases List.mem_append.mp ha with ha | ha
      · rcases q' a ha with z | z
        · refine .inr (.inr (.inr (.inl ⟨f a z, fun u => ?_⟩)))
          rw [r.un (hU u i List.mem_cons_self d hd)] at z
          cases z
        · exact .inr (.inr (.inr (.inr (g a z))))
      · exact qa a ha
    · cases h
  | .io i :: as, v :: vs, ds, e, Fi, Si, Fv, Sv, hU, h1, h2, s, h => by
    rw [agD] at h
    split at h
    · rename_i d l hd hl
      cases h
      rw [ioR, hd] at h1
      cases h1 with
      | @cons _ _ _ _ F0 S0 F1 S1 r t =>
        obtain ⟨Sa, ra, qa⟩ := args_rep P U (as := as) (vs := vs) (fun u i hi => hU u i (List.mem_cons_of_mem _ hi)) t h2 s.2 hl
        refine ⟨S0 ++ Sa, .cons r ra, fun a ha => ?_⟩
        rcases List.mem_append.mp ha with ha | ha
        · exact .inl (List.mem_append_left _ ha)
        · rcases qa a ha with z | z
          · exact .inl (List.mem_append_right _ z)
          · exact .inr z
    · cases h
theorem Wd.put2 {e : Env} {Γ : List Rt} {i : Nat} {d : D} {v : V} (w : Wd K B σ e ((v, d) :: Γ) H) (hv : σ[i]? = some (some v)) : Wd K B σ (e.set i (some d)) Γ H := by
  have k := w.kill1 i
  have hl : i < e.length := by rw [← w.fit.1]; exact (List.getElem?_eq_some_iff.mp hv).1
  have q := k.put (i := i) (by rw [List.getElem?_set_self hl]) hv
  rw [List.set_set] at q
  exact q
theorem come_back : ∀ {as : List Ag} {vs : List V} {os : List (Option D)} {e e' : Env} {Γ : List Rt}, Wd K B σ e (er (vs.map some) os ++ Γ) H → AgS σ as vs → agBack as os e = some e' → Wd K B σ e' Γ H
  | [], vs, os, e, e', Γ, w, s, h => by
    cases os with
    | cons _ _ => simp [agBack] at h
    | nil =>
      rw [agBack] at h
      cases h
      cases vs with
      | cons _ _ => exact s.elim
      | nil => exact w
  | .val d :: as, [], _, _, _, _, _, s, _ => s.elim
  | .var d :: as, [], _, _, _, _, _, s, _ => s.elim
  | .io d :: as, [], _, _, _, _, _, s, _ => s.elim
  | .val d :: as, v :: vs, os, e, e', Γ, w, s, h => by
    cases os with
    | nil => simp [agBack] at h
    | cons o os =>
      simp only [agBack] at h
      refine come_back (as := as) (vs := vs) ?_ s h
      cases o with
      | none => exact w
      | some d' => exact w.drop
  | .var i :: as, v :: vs, os, e, e', Γ, w, s, h => by
    cases os with
    | nil => simp [agBack] at h
    | cons o os =>
      simp only [agBack] at h
      refine come_back (as := as) (vs := vs) ?_ s.2 h
      cases o with
      | none => exact w
      | some d' => exact w.drop
  | .io i :: as, v :: vs, os, e, e', Γ, w, s, h => by
    cases os with
    | nil => simp [agBack] at h
    | cons o os =>
      simp only [agBack] at h
      refine come_back (as := as) (vs := vs) ?_ s.2 h
      cases o with
      | none => exact w.kill1 i
      | some d' => exact Wd.put2 w s.1
theorem freeze : ∀ {as : List Ag} {e : Env} {Γ : List Rt}, Wd K B σ e Γ H → Wd K B σ (agFz as e) Γ H
  | [], e, Γ, w => w
  | .val d :: as, e, Γ, w => freeze (as := as) w
  | .io d :: as, e, Γ, w => freeze (as := as) w
  | .var i :: as, e, Γ, w => by
    rw [agFz]
    refine freeze (as := as) ?_
    split
    · rename_i d hd
      obtain ⟨v, hv, _⟩ := w.read hd
      have m := (w.move hd hv).shr.put2 (i := i) hv
      rw [List.set_set] at m
      exact m
    · exact w
end
section
variable {K : PySem.W.Frag} {B : Bs} {H H' : Hp}
/-- behind a call -/
theorem W.call {R R' : List Rt} {F S Fa Sa Fr Sr : List Addr} {pr : List (Nat × V)} (o : Okk B H F S) (hF : ∀ a ∈ Fa ++ Fr, a ∈ F) (nF : (Fa ++ Fr).Nodup) (rr : Rs K H R Fr Sr) (hS : ∀ a ∈ Sr, a ∈ S) (hSa : ∀ a ∈ Sa, a ∈ F ∨ a ∈ S) (lF : ∀ a ∈ Fa, IsLst H a)
    (w : W K ⟨H, Fa, Sa, pr⟩ H' R') (c : (∀ F' S', Rs K H' R' F' S' → S' = []) ∨ ∀ a ∈ Sa, a ∉ Fr) : W K B H' (R' ++ R) := by
  obtain ⟨F', S', r', o'⟩ := w
  obtain ⟨n1, n2, n3⟩ := List.nodup_append.mp nF
  have kk : Rs K H' R Fr Sr := Reps.kept o'.kp lF rr (fun a ha h => n3 a h a ha rfl) (fun a ha h => o.dj a (hF a (List.mem_append_left _ h)) (hS a ha))
  have c' : ∀ a ∈ S', a ∉ Fr := by
    intro a ha hf
    rcases c with c | c
    · rw [c _ _ r'] at ha; cases ha
    · rcases o'.fS a ha with z | z | z
      · exact n3 a z a hf rfl
      · exact c a z hf
      · obtain ⟨xs, e⟩ := Reps.lstF rr a hf
        have z' : H a = none := z
        rw [e] at z'; cases z'
  refine ⟨F' ++ Fr, S' ++ Sr, ?_, ⟨?_, fun a ha hs => ?_, fun a ha => ?_, fun a ha => ?_, fun b u e n => ?_, o'.sz⟩⟩
  · show Reps K H' _ _ _ _
    rw [List.map_append, List.map_append]
    exact Reps.app r' kk
  · refine List.nodup_append.mpr ⟨o'.nd, n2, fun a ha b hb e => ?_⟩
    subst e
    rcases o'.fF a ha with z | z
    · exact n3 a z a hb rfl
    · obtain ⟨xs, e⟩ := Reps.lstF rr a hb
      have z' : H a = none := z
      rw [e] at z'; cases z'
  · rcases List.mem_append.mp ha with z | z <;> rcases List.mem_append.mp hs with y | y
    · exact o'.dj a z y
    · rcases o'.fF a z with q | q
      · exact o.dj a (hF a (List.mem_append_left _ q)) (hS a y)
      · exact Reps.thereS rr a y q
    · exact c' a y z
    · exact o.dj a (hF a (List.mem_append_right _ z)) (hS a y)
  · rcases List.mem_append.mp ha with z | z
    · rcases o'.fF a z with q | q
      · exact o.fF a (hF a (List.mem_append_left _ q))
      · exact (o.old q).symm
    · exact o.fF a (hF a (List.mem_append_right _ z))
  · rcases List.mem_append.mp ha with z | z
    · rcases o'.fS a z with q | q | q
      · rcases o.fF a (hF a (List.mem_append_left _ q)) with y | y
        · exact .inl y
        · exact .inr (.inr y)
      · rcases hSa a q with y | y
        · rcases o.fF a y with y | y
          · exact .inl y
          · exact .inr (.inr y)
        · exact o.fS a y
      · rcases o.old q with y | y
        · exact .inr (.inr y)
        · exact .inl y
    · exact o.fS a (hS a z)
  · refine o'.kp b u (o.kp b u e n) fun z => ?_
    rcases o.fF b (hF b (List.mem_append_left _ z)) with q | q
    · exact n q
    · rw [e] at q; cases q
theorem nsO_er : ∀ {vs : List V} {os : List (Option D)} {F S : List Addr}, nsO os = true → Rs K H (er (vs.map some) os) F S → S = []
  | [], os, F, S, _, h => by
    cases os <;> (simp only [List.map_nil, er] at h; cases h; rfl)
  | v :: vs, [], F, S, _, h => by
    simp only [List.map_cons, er] at h; cases h; rfl
  | v :: vs, none :: os, F, S, u, h => nsO_er (vs := vs) (os := os) u h
  | v :: vs, some d :: os, F, S, u, h => by
    simp only [nsO, Bool.and_eq_true] at u
    cases h with
    | cons r t =>
      rw [r.ns u.1, nsO_er (vs := vs) (os := os) u.2 t]; rfl
end

section
variable {Φ : Fs} {k : Nat} {n : Nm}
/-! ### lists of terms -/
theorem SL_nil : SL Φ k n .nil := by
  intro X sc es O h
  cases es <;> try (simp [chkL] at h; done)
  refine pa_nil.imp ?_
  rintro σ H Q ⟨B, e, Γ, ds, e', w, hd, q⟩
  rw [evL] at hd
  obtain ⟨rfl, rfl⟩ := inj2 hd
  exact q [] H rfl w
theorem chk_cons {a r : T} {sc : Scope} {es : List Expr} (h : chkL n sc (.cons a r) es = true) : ∃ x xs, es = x :: xs ∧ chkE n sc a x = true ∧ chkL n sc r xs = true := by
  cases es with
  | nil => simp [chkL] at h
  | cons x xs =>
    simp only [chkL, Bool.and_eq_true] at h
    exact ⟨x, xs, rfl, h.1, h.2⟩
theorem SL_cons {a r : T} (sa : SE Φ k n a) (sr : SL Φ k n r) : SL Φ k n (.cons a r) := by
  intro X sc es O h
  obtain ⟨x, xs, rfl, h1, h2⟩ := chk_cons h
  refine (pa_cons (sa O h1) (sr O h2) (star_pl (chk_pl h1))).imp ?_
  rintro σ H Q ⟨B, e, Γ, ds, e', w, hd, q⟩
  rw [evL] at hd
  split at hd
  · rename_i d e1 h3
    split at hd
    · rename_i ds' e2 h4
      obtain ⟨rfl, rfl⟩ := inj2 hd
      refine ⟨B, e, Γ, d, e1, w, h3, fun v H1 w1 => ⟨B, e1, _, ds', e2, w1, h4, fun vs H2 l w2 => ?_⟩⟩
      exact q (v :: vs) H2 (by simp [l]) (w2.front List.perm_middle)
    · cases hd
  · cases hd
theorem SG_nil : SG Φ k n .nil := by
  intro io X sc es O h
  cases es <;> try (simp [chkL] at h; done)
  refine pa_nil.imp ?_
  rintro σ H Q ⟨B, e, Γ, as, e', w, hd, q⟩
  cases io with
  | cons _ _ => simp [evG] at hd
  | nil =>
    rw [evG] at hd
    obtain ⟨rfl, rfl⟩ := inj2 hd
    exact q [] H trivial w
theorem SG_cons {a r : T} (sa : SE Φ k n a) (sr : SG Φ k n r) : SG Φ k n (.cons a r) := by
  intro io X sc es O h
  obtain ⟨x, xs, rfl, h1, h2⟩ := chk_cons h
  cases io with
  | nil =>
    refine (pa_cons (sa O h1) (sr (io := []) O h2) (star_pl (chk_pl h1))).imp ?_
    rintro σ H Q ⟨B, e, Γ, as, e', w, hd, q⟩
    cases a <;> simp [evG] at hd
  | cons b bs =>
    by_cases hv : ∃ i, a = .v i
    · obtain ⟨i, rfl⟩ := hv
      cases x <;> try (simp [chkE] at h1; done)
      rw [chkE] at h1
      refine (pa_cons (O.name h1) (sr (io := bs) O h2) (star_pl rfl)).imp ?_
      rintro σ H Q ⟨B, e, Γ, as, e', w, hd, q⟩
      rw [evG] at hd
      split at hd
      · rename_i d h3
        obtain ⟨v, hv, _⟩ := w.read h3
        split at hd
        · rename_i as' e2 h4
          obtain ⟨rfl, rfl⟩ := inj2 hd
          refine ⟨v, hv, B, e, Γ, as', e2, w, h4, fun vs H2 s w2 => ?_⟩
          cases b with
          | true => exact q (v :: vs) H2 ⟨hv, s⟩ w2
          | false => exact q (v :: vs) H2 ⟨hv, s⟩ w2
        · cases hd
      · cases hd
    · refine (pa_cons (sa O h1) (sr (io := bs) O h2) (star_pl (chk_pl h1))).imp ?_
      rintro σ H Q ⟨B, e, Γ, as, e', w, hd, q⟩
      have hd' : (if b then none else match evE Φ a e with
        | some (x, e) => match evG Φ r bs e with
          | some (as, e) => some (Ag.val x :: as, e)
          | none => none
        | none => none) = some (as, e') := by
        rw [evG] at hd
        · exact hd
        · exact fun i hi => hv ⟨i, hi⟩
      split at hd'
      · cases hd'
      · split at hd'
        · rename_i d e1 h3
          split at hd'
          · rename_i as' e2 h4
            obtain ⟨rfl, rfl⟩ := inj2 hd'
            refine ⟨B, e, Γ, d, e1, w, h3, fun v H1 w1 => ⟨B, e1, _, as', e2, w1.shr, h4, fun vs H2 s w2 => ?_⟩⟩
            exact q (v :: vs) H2 s (w2.front List.perm_middle)
          · cases hd'
        · cases hd'

/-! ### a call -/
theorem noStar {sc : Scope} {env : PySem.Env} {pos : Pos} : ∀ {es : List Expr} {t : T}, chkL n sc t es = true → (backTo pos (starEach es env)).any (·.1) = false
  | [], t, h => rfl
  | e :: es, t, h => by
    obtain ⟨a, r, rfl⟩ : ∃ a r, t = .cons a r := by cases t <;> first | exact ⟨_, _, rfl⟩ | simp [chkL] at h
    obtain ⟨x, xs, ee, h1, h2⟩ := chk_cons h
    cases ee
    rw [star_pl (chk_pl h1)]
    show (false || (backTo pos (starEach es env)).any (·.1)) = false
    rw [Bool.false_or]
    exact noStar h2

theorem agS_len {σ : L2.St} : ∀ {as : List Ag} {vs : List V}, AgS σ as vs → as.length = vs.length
  | [], [], _ => rfl
  | [], _ :: _, h => h.elim
  | .val _ :: _, [], h => h.elim
  | .var _ :: _, [], h => h.elim
  | .io _ :: _, [], h => h.elim
  | .val _ :: as, _ :: vs, h => by rw [List.length_cons, List.length_cons, agS_len (as := as) (vs := vs) h]
  | .var _ :: as, _ :: vs, h => by rw [List.length_cons, List.length_cons, agS_len (as := as) (vs := vs) h.2]
  | .io _ :: as, _ :: vs, h => by rw [List.length_cons, List.length_cons, agS_len (as := as) (vs := vs) h.2]
theorem evG_len : ∀ {a : T} {io : List Bool} {e e' : Env} {as : List Ag}, evG Φ a io e = some (as, e') → as.length = io.length := by
  intro a
  induction a with
  | nil =>
    intro io e e' as h
    cases io with
    | nil => rw [evG] at h; obtain ⟨rfl, rfl⟩ := inj2 h; rfl
    | cons _ _ => simp [evG] at h
  | cons a r _ ih =>
    intro io e e' as h
    cases io with
    | nil => cases a <;> simp [evG] at h
    | cons b bs =>
      by_cases hv : ∃ i, a = .v i
      · obtain ⟨i, rfl⟩ := hv
        rw [evG] at h
        split at h
        · split at h
          · rename_i as' e2 h4
            obtain ⟨rfl, rfl⟩ := inj2 h
            rw [List.length_cons, List.length_cons, ih h4]
          · cases h
        · cases h
      · have hd' : (if b then none else match evE Φ a e with
          | some (x, e) => match evG Φ r bs e with
            | some (as, e) => some (Ag.val x :: as, e)
            | none => none
          | none => none) = some (as, e') := by
          rw [evG] at h
          · exact h
          · exact fun i hi => hv ⟨i, hi⟩
        split at hd'
        · cases hd'
        · split at hd'
          · split at hd'
            · rename_i as' e2 h4
              obtain ⟨rfl, rfl⟩ := inj2 hd'
              rw [List.length_cons, List.length_cons, ih h4]
            · cases hd'
          · cases hd'
  | _ => intro io e e' as h; cases io <;> simp [evG] at h
theorem W.parts {K : PySem.W.Frag} {B : Bs} {H : Hp} {R1 R2 R3 : List Rt} (w : W K B H (R1 ++ (R2 ++ R3))) : ∃ F S F1 S1 F2 S2 F3 S3, Okk B H F S ∧ Rs K H R1 F1 S1 ∧ Rs K H R2 F2 S2 ∧ Rs K H R3 F3 S3 ∧ F = F1 ++ (F2 ++ F3) ∧ S = S1 ++ (S2 ++ S3) := by
  obtain ⟨F, S, r, o⟩ := w
  unfold Rs at r
  rw [List.map_append, List.map_append, List.map_append, List.map_append] at r
  obtain ⟨F1, S1, F2, S2, a, b, c, d⟩ := r.unapp (by simp)
  obtain ⟨F3, S3, F4, S4, a', b', c', d'⟩ := b.unapp (by simp)
  exact ⟨F, S, F1, S1, F3, S3, F4, S4, o, a, a', b', by rw [c, c'], by rw [d, d']⟩
theorem nodup_13 {α : Type} {a b c : List α} (h : (a ++ (b ++ c)).Nodup) : (a ++ c).Nodup := by
  obtain ⟨h1, h2, h3⟩ := List.nodup_append.mp h
  exact List.nodup_append.mpr ⟨h1, (List.nodup_append.mp h2).2.1, fun x hx y hy => h3 x hx y (List.mem_append_right _ hy)⟩
theorem er_root {K : PySem.W.Frag} {σ : L2.St} {e : Env} {Γ : List Rt} {H : Hp} {F S : List Addr} (r : Rs K H (Γ ++ er σ e) F S) {i : Nat} {v : V} {d : D} (hv : σ[i]? = some (some v)) (hd : e.at i = some d) :
    ∃ F1 S1, Rep K H v d F1 S1 ∧ (∀ a ∈ F1, a ∈ F) ∧ ∀ a ∈ S1, a ∈ S := by
  have p := ((er_take hv (at_iff.mp hd)).append_left Γ).trans List.perm_middle
  obtain ⟨F', S', r', p1, p2⟩ := Rs.perm p r
  cases r' with
  | cons r1 _ => exact ⟨_, _, r1, fun a z => p1.mem_iff.mpr (List.mem_append_left _ z), fun a z => p2.mem_iff.mpr (List.mem_append_left _ z)⟩
theorem at_set {e : Env} {i j : Nat} {o : Option D} : Env.at (e.set i o) j = if i = j ∧ i < e.length then o else e.at j := by
  unfold Env.at
  by_cases h : i = j
  · subst h
    by_cases hl : i < e.length
    · rw [List.getElem?_set_self hl, if_pos ⟨rfl, hl⟩]; rfl
    · rw [List.getElem?_eq_none (by rw [List.length_set]; omega), if_neg (fun z => hl z.2), List.getElem?_eq_none (Nat.le_of_not_lt hl)]
  · rw [List.getElem?_set_ne h, if_neg (fun z => h z.1)]
theorem at_lt {e : Env} {i : Nat} {d : D} (h : e.at i = some d) : i < e.length := (List.getElem?_eq_some_iff.mp (at_iff.mp h)).1
theorem fz_at : ∀ {as : List Ag} {e : Env} {i : Nat}, (agFz as e).at i = e.at i ∨ ∃ d, e.at i = some d ∧ (agFz as e).at i = some d.shr
  | [], e, i => .inl rfl
  | .val _ :: as, e, i => fz_at (as := as)
  | .io _ :: as, e, i => fz_at (as := as)
  | .var j :: as, e, i => by
    rw [agFz]
    split
    · rename_i d hd
      by_cases hij : j = i
      · subst hij
        have e1 : Env.at (e.set j (some d.shr)) j = some d.shr := by rw [at_set, if_pos ⟨rfl, at_lt hd⟩]
        rcases fz_at (as := as) (e := e.set j (some d.shr)) (i := j) with q | ⟨d', h1, h2⟩
        · exact .inr ⟨d, hd, q.trans e1⟩
        · rw [e1] at h1
          cases h1
          rw [shr_shr] at h2
          exact .inr ⟨d, hd, h2⟩
      · have e1 : Env.at (e.set j (some d.shr)) i = e.at i := by rw [at_set, if_neg (fun z => hij z.1)]
        rcases fz_at (as := as) (e := e.set j (some d.shr)) (i := i) with q | ⟨d', h1, h2⟩
        · exact .inl (q.trans e1)
        · exact .inr ⟨d', e1 ▸ h1, h2⟩
    · exact fz_at (as := as)
theorem fz_un : ∀ {as : List Ag} {e : Env} {i : Nat}, Ag.var i ∈ as → ∀ d, (agFz as e).at i = some d → d.un = true
  | [], e, i, h, _, _ => nomatch h
  | .val _ :: as, e, i, h, d, hd => fz_un (as := as) (by simpa using h) d hd
  | .io _ :: as, e, i, h, d, hd => fz_un (as := as) (by simpa using h) d hd
  | .var j :: as, e, i, h, d, hd => by
    by_cases hm : Ag.var i ∈ as
    · rw [agFz] at hd
      exact fz_un (as := as) hm d hd
    · have hij : i = j := by
        rcases List.mem_cons.mp h with z | z
        · cases z; rfl
        · exact absurd z hm
      subst hij
      rw [agFz] at hd
      split at hd
      · rename_i d0 h0
        have e1 : Env.at (e.set i (some d0.shr)) i = some d0.shr := by rw [at_set, if_pos ⟨rfl, at_lt h0⟩]
        rcases fz_at (as := as) (e := e.set i (some d0.shr)) (i := i) with q | ⟨d', h1, h2⟩
        · rw [q, e1] at hd; cases hd; exact shr_un _
        · rw [h2] at hd; cases hd; exact shr_un _
      · rename_i h0
        rcases fz_at (as := as) (e := e) (i := i) with q | ⟨d', h1, h2⟩
        · rw [q, h0] at hd; cases hd
        · rw [h2] at hd; cases hd; exact shr_un _
theorem agD_fz {as0 : List Ag} {e' : Env} : ∀ {as : List Ag} {e : Env}, agD e (agFz as0 e') as = agD e e' as
  | [], e => rfl
  | .val d :: as, e => by rw [agD, agD, agD_fz (as := as)]
  | .io i :: as, e => by rw [agD, agD, agD_fz (as := as)]
  | .var i :: as, e => by
    rw [agD, agD, agD_fz (as := as)]
    rcases fz_at (as := as0) (e := e') (i := i) with q | ⟨d, h1, h2⟩
    · rw [q]
    · rw [h1, h2]
      cases agD e e' as <;> simp [shr_shr]
/-- the argument's lists and what else there is, at a call -/
theorem call_at {K : PySem.W.Frag} {B : Bs} {σ : L2.St} {H : Hp} {f : Nat} {as : List Ag} {vs : List V} {ds : List D} {e1 e3 e' : Env} {Γ : List Rt} {r : D} {os : List (Option D)} {Q : VK} {E : XK} (U : Prop) (hl : vs.length = (Φ.io f).length) (w : Wd K B σ e3 (ioR as vs e1 ++ (agR as vs ++ Γ)) H) (s : AgS σ as vs)
    (hU : U → ∀ i, Ag.var i ∈ as → ∀ d, e3.at i = some d → d.un = true) (hN : ¬ U → r.ns = true ∧ nsO os = true) (hd : agD e1 e3 as = some ds) (hr : Φ.run f ds = some (r, os)) (hb : agBack as os e3 = some e') (q : ∀ v H', Wd K B σ e' ((v, r) :: Γ) H' → Q v H') : spOf K Φ f vs H Q E := by
  have w0 : W K B H (ioR as vs e1 ++ (agR as vs ++ (Γ ++ er σ e3))) := by
    have := w.w
    simpa [List.append_assoc] using this
  obtain ⟨F, S, F1, S1, F2, S2, F3, S3, o, r1, r2, r3, eF, eS⟩ := w0.parts
  subst eF eS
  obtain ⟨Sa, ra, qa⟩ := args_rep (Fr := F3) (Sr := S3) (e2 := e3) (fun i v d hv hd => er_root r3 hv hd) U (as := as) (vs := vs) hU r1 r2 s hd
  obtain ⟨n1, n2, n3⟩ := List.nodup_append.mp o.nd
  have dj : ∀ a ∈ F1, a ∉ Sa := fun a ha hs => by
    rcases qa a hs with z | z | z | ⟨z, _⟩ | z
    · exact o.dj a (List.mem_append_left _ ha) (List.mem_append_left _ z)
    · exact n3 a ha a (List.mem_append_left _ z) rfl
    · exact o.dj a (List.mem_append_left _ ha) (List.mem_append_right _ (List.mem_append_left _ z))
    · exact n3 a ha a (List.mem_append_right _ z) rfl
    · exact o.dj a (List.mem_append_left _ ha) (List.mem_append_right _ (List.mem_append_right _ z))
  refine ⟨ds, r, os, F1, Sa, hl, ra, ⟨n1, dj, fun a z => .inl z, fun a z => .inr (.inl z), fun b u e _ => e, o.sz⟩, hr, fun v H' w' => ?_⟩
  have wc : W K B H' (((v, r) :: er (vs.map some) os) ++ (Γ ++ er σ e3)) := by
    refine W.call o (fun a ha => ?_) (nodup_13 o.nd) r3 (fun a z => List.mem_append_right _ (List.mem_append_right _ z)) (fun a ha => ?_) (Reps.lstF r1) w' ?_
    · rcases List.mem_append.mp ha with z | z
      · exact List.mem_append_left _ z
      · exact List.mem_append_right _ (List.mem_append_right _ z)
    · rcases qa a ha with z | z | z | ⟨z, _⟩ | z
      · exact .inr (List.mem_append_left _ z)
      · exact .inl (List.mem_append_right _ (List.mem_append_left _ z))
      · exact .inr (List.mem_append_right _ (List.mem_append_left _ z))
      · exact .inl (List.mem_append_right _ (List.mem_append_right _ z))
      · exact .inr (List.mem_append_right _ (List.mem_append_right _ z))
    · by_cases u : U
      · refine .inr fun a ha hf => ?_
        rcases qa a ha with z | z | z | ⟨z, y⟩ | z
        · exact o.dj a (List.mem_append_right _ (List.mem_append_right _ hf)) (List.mem_append_left _ z)
        · exact (List.nodup_append.mp n2).2.2 a z a hf rfl
        · exact o.dj a (List.mem_append_right _ (List.mem_append_right _ hf)) (List.mem_append_right _ (List.mem_append_left _ z))
        · exact y u
        · exact o.dj a (List.mem_append_right _ (List.mem_append_right _ hf)) (List.mem_append_right _ (List.mem_append_right _ z))
      · refine .inl fun F' S' rs => ?_
        obtain ⟨u1, u2⟩ := hN u
        cases rs with
        | cons r0 t0 => rw [r0.ns u1, nsO_er (vs := vs) u2 t0]; rfl
  have wd : Wd K B σ e3 (er (vs.map some) os ++ ((v, r) :: Γ)) H' := by
    refine ⟨w.fit, w.pr, wc.perm ?_⟩
    have p : (((v, r) :: er (vs.map some) os) ++ (Γ ++ er σ e3)).Perm ((er (vs.map some) os ++ ((v, r) :: Γ)) ++ er σ e3) := by
      rw [← List.append_assoc]
      exact List.Perm.append_right _ List.perm_middle.symm
    exact p
  exact q v H' (come_back wd s hb)
theorem SE_call {f : Nat} {a : T} (sg : SG Φ k n a) : SE Φ k n (.call f a) := by
  intro X sc e O h
  cases e <;> try (simp [chkE] at h; done)
  rename_i g es kw pos
  cases g <;> try (simp [chkE] at h; done)
  cases kw <;> try (simp [chkE] at h; done)
  rename_i x xp
  simp only [chkE, Bool.and_eq_true, decide_eq_true_eq, Bool.not_eq_true'] at h
  obtain ⟨⟨⟨⟨hx, hf⟩, hg⟩, hdb⟩, ha⟩ := h
  subst hx
  obtain ⟨A, fd, ps, hm, hk, hb, F⟩ := O.fns f hf
  have hcall : PE X (.Call (.Name (n.fn f) xp) es [] pos) (tCall (spOf X.K Φ f) [] E0 (tG X.K Φ a (Φ.io f))) := by
    cases es with
    | nil =>
      have ha2 := sg (io := Φ.io f) O ha
      refine (pe_call0 (E := E0) F O.lv (O.gl hg) hm hk hb .nil pass0 hdb).imp ?_
      rintro σ H Q ⟨B, e, Γ, as, e', w, hd, q⟩
      cases a <;> try (simp [chkL] at ha; done)
      cases hio : Φ.io f with
      | cons _ _ => rw [hio] at hd; simp [evG] at hd
      | nil =>
        rw [hio, evG] at hd
        obtain ⟨rfl, rfl⟩ := inj2 hd
        exact q [] H trivial w
    | cons y ys =>
      have hst : (backTo pos (starEach ys X.env)).any (·.1) = false := by
        obtain ⟨x0, xs0, e0⟩ : ∃ x0 xs0, a = .cons x0 xs0 := by cases a <;> first | exact ⟨_, _, rfl⟩ | simp [chkL] at ha
        subst e0
        obtain ⟨_, _, ee, _, h2⟩ := chk_cons ha
        cases ee
        exact noStar h2
      have hpl : plE y = true := by
        obtain ⟨x0, xs0, e0⟩ : ∃ x0 xs0, a = .cons x0 xs0 := by cases a <;> first | exact ⟨_, _, rfl⟩ | simp [chkL] at ha
        subst e0
        obtain ⟨_, _, ee, h1, _⟩ := chk_cons ha
        cases ee
        exact chk_pl h1
      exact pe_call F O.lv (O.gl hg) hm hk hb .nil pass0 (sg O ha) hdb (star_pl hpl) hst
  refine hcall.imp ?_
  rintro σ H Q ⟨B, env, Γ, d, e', w, hd, q⟩
  rw [evE] at hd
  split at hd
  · rename_i as e1 h1
    split at hd
    · rename_i e2 h2
      split at hd
      · rename_i ds h3
        split at hd
        · rename_i r os h4
          split at hd
          · rename_i e3 h5
            obtain ⟨rfl, rfl⟩ := inj2 hd
            refine ⟨B, env, Γ, as, e1, w, h1, fun vs H1 s w1 => ?_⟩
            show spOf X.K Φ f (vs ++ []) H1 Q E0
            rw [List.append_nil]
            have hl : vs.length = (Φ.io f).length := by rw [← agS_len s, evG_len h1]
            have w2 := take_io w1 s h2
            by_cases c : (r.ns && nsO os) = true
            · rw [if_pos c] at h5
              simp only [Bool.and_eq_true] at c
              exact call_at False hl w2 s (fun z => z.elim) (fun _ => c) h3 h4 h5 q
            · rw [if_neg c] at h5
              exact call_at True hl (freeze (as := as) w2) s (fun _ i hi d hd => fz_un hi d hd) (fun z => (z trivial).elim) (by rw [agD_fz]; exact h3) h4 h5 q
          · cases hd
        · cases hd
      · cases hd
    · cases hd
  · cases hd
end
end Sr
set_option Elab.async false
set_option linter.all false
set_option maxRecDepth 100000
set_option maxHeartbeats 2000000
/-! # Sr: displays, items, slices, built-ins -/
namespace Sr
open PySem PySem.Spec PyProof.Rows L2
section
variable {Φ : Fs} {k : Nat} {n : Nm}
theorem Wd.tupN {K : PySem.W.Frag} {B : Bs} {σ : L2.St} {e : Env} {Γ : List Rt} {H : Hp} {vs : List V} {ds : List D} {p : Addr} (w : Wd K B σ e (vs.zip ds ++ Γ) H) (l : vs.length = ds.length) (hp : H p = none) (z : vs.length ≤ sizeLine) : Wd K B σ e ((.ref p, .tup ds) :: Γ) (upd H p (.tup vs)) := by
  refine ⟨w.fit, w.pr, ?_⟩
  have := w.w
  rw [List.append_assoc] at this
  exact this.tupV l hp z
theorem Wd.lstN {K : PySem.W.Frag} {B : Bs} {σ : L2.St} {e : Env} {Γ : List Rt} {H : Hp} {vs : List V} {ds : List D} {p : Addr} (w : Wd K B σ e (vs.zip ds ++ Γ) H) (l : vs.length = ds.length) (hp : H p = none) (z : vs.length ≤ sizeLine) : Wd K B σ e ((.ref p, .lst true ds) :: Γ) (upd H p (.lst vs)) := by
  refine ⟨w.fit, w.pr, ?_⟩
  have := w.w
  rw [List.append_assoc] at this
  exact this.lstV l hp z
theorem SE_tup {a : T} (s : SL Φ k n a) : SE Φ k n (.tup a) := by
  intro X sc e O h
  cases e <;> try (simp [chkE] at h; done)
  simp only [chkE] at h
  refine (pe_tup (s O h)).imp ?_
  rintro σ H Q ⟨B, env, Γ, d, e', w, hd, q⟩
  rw [evE] at hd
  split at hd
  · rename_i ds e1 h1
    split at hd
    · rename_i c
      obtain ⟨rfl, rfl⟩ := inj2 hd
      exact ⟨B, env, Γ, ds, e1, w, h1, fun vs H1 l w1 => ⟨by have := big_le; omega, fun p hp => q _ _ (w1.tupN l hp (by have := big_le; omega))⟩⟩
    · cases hd
  · cases hd
theorem SE_lst {a : T} (s : SL Φ k n a) : SE Φ k n (.lst a) := by
  intro X sc e O h
  cases e <;> try (simp [chkE] at h; done)
  simp only [chkE] at h
  refine (pe_lst (s O h)).imp ?_
  rintro σ H Q ⟨B, env, Γ, d, e', w, hd, q⟩
  rw [evE] at hd
  split at hd
  · rename_i ds e1 h1
    split at hd
    · rename_i c
      obtain ⟨rfl, rfl⟩ := inj2 hd
      exact ⟨B, env, Γ, ds, e1, w, h1, fun vs H1 l w1 => ⟨by have := big_le; omega, fun p hp => q _ _ (w1.lstN l hp (by have := big_le; omega))⟩⟩
    · cases hd
  · cases hd
/-- an item of what is let go -/
theorem Wd.item {K : PySem.W.Frag} {B : Bs} {σ : L2.St} {e : Env} {Γ : List Rt} {H : Hp} {v : V} {d x : D} {kk : Int} (w : Wd K B σ e ((v, d) :: Γ) H) (h : atD d kk = some x) :
    ∃ a vs u, v = .ref a ∧ (SqL K H a vs ∨ SqT K H a vs) ∧ atI vs kk = some u ∧ Wd K B σ e ((u, x) :: Γ) H := by
  obtain ⟨F, S, r, o⟩ := w.w
  cases r with
  | @cons _ _ _ _ F1 S1 F2 S2 r t =>
    unfold atD at h
    cases hi : Sr.items d with
    | none => rw [hi] at h; cases h
    | some xs =>
      rw [hi] at h
      obtain ⟨a, vs, F3, S3, ev, q, rs, f3, s3, n3⟩ := r.items hi
      obtain ⟨j, hj, hx⟩ := atI_of h
      obtain ⟨u, F4, S4, hu, r4, f4, s4, n4⟩ := rs.get hx
      refine ⟨a, vs, u, ev, q, ?_, w.fit, w.pr, ⟨F4 ++ F2, S4 ++ S2, .cons r4 t, ?_⟩⟩
      · unfold atI
        rw [rs.len, hj]
        exact hu
      · obtain ⟨n1, n2, nn⟩ := List.nodup_append.mp o.nd
        refine o.less (fun b hb => ?_) (List.nodup_append.mpr ⟨n4 (n3 n1), n2, fun b hb c hc => nn b (f3 b (f4 b hb)) c hc⟩) fun b hb => ?_
        · rcases List.mem_append.mp hb with z | z
          · exact List.mem_append_left _ (f3 b (f4 b z))
          · exact List.mem_append_right _ z
        · rcases List.mem_append.mp hb with z | z
          · exact List.mem_append_left _ (s3 b (s4 b z))
          · exact List.mem_append_right _ z
theorem SE_ix {a b : T} (sa : SE Φ k n a) (sb : SE Φ k n b) : SE Φ k n (.ix a b) := by
  intro X sc e O h
  by_cases p : (isP a && isP b) = true
  · refine (evP_ok O (t := .ix a b) (by simpa [isP] using p) h).imp ?_
    rintro σ H Q ⟨B, env, Γ, d, e', w, hd, q⟩
    rw [evE, if_pos p] at hd
    split at hd
    · rename_i d0 h0
      split at hd
      · rename_i u
        obtain ⟨rfl, rfl⟩ := inj2 hd
        refine ⟨B, env, Γ, d0, w, h0, fun v bv => q v H ⟨w.fit, w.pr, bv.un u⟩⟩
      · cases hd
    · cases hd
  · cases e <;> try (simp [chkE] at h; done)
    simp only [chkE, Bool.and_eq_true] at h
    refine (pe_ix ix_seqV (sa O h.1) (sb O h.2) (plainIx_pl (chk_pl h.2))).imp ?_
    rintro σ H Q ⟨B, env, Γ, d, e', w, hd, q⟩
    rw [evE, if_neg p] at hd
    split at hd
    · rename_i x e1 h1
      split at hd
      · rename_i kk e2 h2
        rw [Option.map_eq_some_iff] at hd
        obtain ⟨d', hd, ee⟩ := hd
        obtain ⟨rfl, rfl⟩ := Prod.mk.inj ee
        refine ⟨B, env, Γ, x, e1, w, h1, fun v H1 w1 => ⟨B, e1, _, _, e2, w1, h2, fun u H2 w2 => ?_⟩⟩
        have eu := w2.headInt
        subst eu
        obtain ⟨ad, vs, z, ev, sq, hz, wz⟩ := w2.drop.item hd
        exact ⟨ad, vs, kk, z, ev, rfl, sq, hz, q _ _ wz⟩
      · cases hd
    · cases hd

/-! ### slices -/
theorem cut_reps {K : PySem.W.Frag} {H : Hp} {vs : List V} {ds : List D} {S : List Addr} (r : Reps K H vs ds [] S) (lo hi : Option Int) : ∃ S', Reps K H (cutV vs lo hi) (cutD ds lo hi) [] S' ∧ ∀ a ∈ S', a ∈ S := by
  have d1 : ∀ {ds : List D} {vs : List V} {S : List Addr} (m : Nat), Reps K H vs ds [] S → ∃ S', Reps K H (vs.drop m) (ds.drop m) [] S' ∧ ∀ a ∈ S', a ∈ S := by
    intro ds
    induction ds with
    | nil => intro vs S m r; cases r; exact ⟨[], by simpa using Reps.nil, fun _ z => nomatch z⟩
    | cons d ds ih =>
      intro vs S m r
      generalize hF : ([] : List Addr) = F0 at r
      cases r with
      | @cons _ _ _ _ F1 S1 F2 S2 r t =>
        obtain ⟨rfl, rfl⟩ := List.append_eq_nil_iff.mp hF.symm
        cases m with
        | zero => exact ⟨S1 ++ S2, .cons (F := []) r t, fun _ z => z⟩
        | succ m =>
          obtain ⟨S', r', h'⟩ := ih m t
          exact ⟨S', r', fun a z => List.mem_append_right _ (h' a z)⟩
  have t1 : ∀ {ds : List D} {vs : List V} {S : List Addr} (m : Nat), Reps K H vs ds [] S → ∃ S', Reps K H (vs.take m) (ds.take m) [] S' ∧ ∀ a ∈ S', a ∈ S := by
    intro ds
    induction ds with
    | nil => intro vs S m r; cases r; exact ⟨[], by simpa using Reps.nil, fun _ z => nomatch z⟩
    | cons d ds ih =>
      intro vs S m r
      generalize hF : ([] : List Addr) = F0 at r
      cases r with
      | @cons _ _ _ _ F1 S1 F2 S2 r t =>
        obtain ⟨rfl, rfl⟩ := List.append_eq_nil_iff.mp hF.symm
        cases m with
        | zero => exact ⟨[], .nil, fun _ z => nomatch z⟩
        | succ m =>
          obtain ⟨S', r', h'⟩ := ih m t
          exact ⟨S1 ++ S', .cons (F := []) r r', fun a z => (List.mem_append.mp z).elim (fun y => List.mem_append_left _ y) fun y => List.mem_append_right _ (h' a y)⟩
  unfold cutV cutD
  rw [r.len]
  obtain ⟨S1, r1, h1⟩ := d1 (HT.sIx ds.length 0 lo) r
  obtain ⟨S2, r2, h2⟩ := t1 (HT.sIx ds.length ds.length hi - HT.sIx ds.length 0 lo) r1
  exact ⟨S2, r2, fun a z => h1 a (h2 a z)⟩
/-- a bound -/
def tPo (K : PySem.W.Frag) (t : T) : TO := fun σ H Q => ∃ B e Γ o, Wd K B σ e Γ H ∧ evPo t e = some o ∧ Q o H
theorem po_ok {X : Cx} {sc : Scope} {t : T} {l : Option Expr} (O : OkX Φ k n X sc) (h : (match l with | none => (match t with | .nil => true | _ => false) | some f => chkE n sc t f) = true) (p : isPo t = true) : PO X l (tPo X.K t) := by
  have imp : ∀ {to : TO}, PO X l to → (∀ σ H Q, tPo X.K t σ H Q → to σ H Q) → PO X l (tPo X.K t) := fun hp i => ⟨fun pins s σ H Q I q => hp.run pins s σ H Q I (i σ H Q q)⟩
  cases l with
  | none =>
    cases t <;> try (simp at h; done)
    refine imp po_none ?_
    rintro σ H Q ⟨B, e, Γ, o, w, ho, q⟩
    cases ho
    exact q
  | some f =>
    have h' : chkE n sc t f = true := h
    have hn : t ≠ .nil := by rintro rfl; simp [chkE] at h'
    have hp : isP t = true := by
      cases t <;> first | exact absurd rfl hn | exact p
    refine imp (po_some (evP_ok O hp h')) ?_
    rintro σ H Q ⟨B, e, Γ, o, w, ho, q⟩
    have ho' : (match evP t e with | some (.int i) => some (some i) | _ => none) = some o := by
      cases t <;> first | exact absurd rfl hn | exact ho
    split at ho'
    · rename_i i hi
      cases ho'
      exact ⟨B, e, Γ, _, w, hi, fun v bv => ⟨i, bv.int, q⟩⟩
    · cases ho'
/-- a slice of a list or a tuple -/
theorem sl_seq {X : Cx} : SlR X (fun x lo hi H Q => (∃ a xs, x = .ref a ∧ SqL X.K H a xs ∧ (xs.length ≤ sizeLine → ∀ p, H p = none → Q (.ref p) (upd H p (.lst (cutV xs lo hi))))) ∨ rSlT X.K x lo hi H Q) := by
  intro pins s σ H x v vl vu lo hi sl Q I rx hs pl pu q
  rcases q with ⟨a, xs, ex, hx, q⟩ | q
  · obtain ⟨_, _, _, z⟩ := I.list hx
    exact sl_list pins s σ H x v vl vu lo hi sl Q I rx hs pl pu ⟨a, xs, ex, hx, q z⟩
  · exact sl_tup pins s σ H x v vl vu lo hi sl Q I rx hs pl pu q
theorem SE_sl {a lo hi : T} (sa : SE Φ k n a) : SE Φ k n (.sl a lo hi) := by
  intro X sc e O h
  cases e <;> try (simp [chkE] at h; done)
  rename_i x s pos
  cases s <;> try (simp [chkE] at h; done)
  rename_i l u st p2
  cases st <;> try (simp [chkE] at h; done)
  simp only [chkE, Bool.and_eq_true] at h
  by_cases p : (isPo lo && isPo hi) = true
  case neg =>
    refine ⟨fun pins s σ H Q I hh => ?_⟩
    obtain ⟨B, env, Γ, d, e', w, hd, q⟩ := hh
    rw [evE, if_neg p] at hd
    cases hd
  have p' := p
  simp only [Bool.and_eq_true] at p'
  refine (pe_slice sl_seq (sa.op O h.1.1) (po_ok O h.1.2 p'.1) (po_ok O h.2 p'.2)).imp ?_
  rintro σ H Q ⟨B, env, Γ, d, e', w, hd, q⟩
  rw [evE, if_pos p] at hd
  change (match evO Φ a env with
    | some (x, e) => match evPo lo e with
      | some l => match evPo hi e with
        | some h => match slD x l h with
          | some d => some (d, e)
          | none => none
        | none => none
      | none => none
    | none => none) = some (d, e') at hd
  split at hd
  · rename_i dx e1 h1
    split at hd
    · rename_i l0 h2
      split at hd
      · rename_i u0 h3
        split at hd
        · rename_i d0 h4
          obtain ⟨rfl, rfl⟩ := inj2 hd
          refine ⟨B, env, Γ, dx, e1, w, h1, fun v H1 R bv w1 back => ⟨B, e1, Γ, l0, w1, h2, B, e1, Γ, u0, w1, h3, ?_⟩⟩
          obtain ⟨F, S, F1, S1, rr, o, r, f, s, nn⟩ := bv.ex
          unfold slD at h4
          split at h4
          · rename_i ow xs
            split at h4
            · rename_i uu
              cases h4
              obtain ⟨ad, vs, F2, S2, ev, sq, rs, f2, s2, _⟩ := r.lstI
              have z := rs.un uu
              subst z
              obtain ⟨S3, r3, h3'⟩ := cut_reps rs l0 u0
              refine .inl ⟨ad, vs, ev, sq, fun hz p hp => q _ _ (back _ _ _ ?_)⟩
              refine W.lstV (W.beside o rr (fun a z => z) o.nd (fun a z => z) r3 fun a z => s a (s2 a (h3' a z))) r3.len hp (Nat.le_trans (cutV_length _ _ _) hz)
            · cases h4
          · rename_i xs
            split at h4
            · rename_i uu
              cases h4
              cases r with
              | tup sq rs =>
                have z := rs.un uu.1
                subst z
                obtain ⟨S3, r3, h3'⟩ := cut_reps rs l0 u0
                refine .inr ⟨_, _, rfl, .inl sq, by rw [rs.len]; exact uu.2, fun p hp => q _ _ (back _ _ _ ?_)⟩
                exact W.tupV (W.beside o rr (fun a z => z) o.nd (fun a z => z) r3 fun a z => s a (h3' a z)) r3.len hp (Nat.le_trans (cutV_length _ _ _) (o.sz _ _ (.inr sq)))
            · cases h4
          · cases h4
        · cases hd
      · cases hd
    · cases hd
  · cases hd

/-! ### built-ins -/
theorem chk_b1 {c : B1} {a : T} {sc : Scope} {e : Expr} (h : chkE n sc (.b1 c a) e = true) : ∃ x xp es pos, e = .Call (.Name x xp) es [] pos ∧ bltB sc (b1name c) x = true ∧ ((b1ty c = none ∧ ∃ y, es = [y] ∧ chkE n sc a y = true) ∨ ∃ ty y z zp, b1ty c = some ty ∧ es = [y, .Name z zp] ∧ bltB sc ty z = true ∧ chkE n sc a y = true) := by
  cases e <;> try (simp [chkE] at h; done)
  rename_i g es kw pos
  cases g <;> try (simp [chkE] at h; done)
  cases kw <;> try (simp [chkE] at h; done)
  simp only [chkE, Bool.and_eq_true] at h
  obtain ⟨h1, h2⟩ := h
  refine ⟨_, _, _, _, rfl, h1, ?_⟩
  split at h2
  · rename_i y hc
    exact .inl ⟨hc, y, rfl, h2⟩
  · rename_i ty y z zp hc
    simp only [Bool.and_eq_true] at h2
    exact .inr ⟨ty, y, z, zp, hc, rfl, h2.1, h2.2⟩
  · cases h2
theorem b1_imp {K : PySem.W.Frag} {c : B1} {a : T} {σ : L2.St} {H : Hp} {Q : VK} (h : tD K Φ (.b1 c a) σ H Q) : tCB (rB1 K c) (tCons (tO K Φ a) tNil) σ H Q := by
  obtain ⟨B, env, Γ, d, e', w, hd, q⟩ := h
  rw [evE] at hd
  change (match evO Φ a env with | some (x, e) => (b1D c x).map fun d => (d, e) | none => none) = some (d, e') at hd
  split at hd
  · rename_i x e1 h1
    rw [Option.map_eq_some_iff] at hd
    obtain ⟨d', hd, ee⟩ := hd
    obtain ⟨rfl, rfl⟩ := Prod.mk.inj ee
    exact ⟨B, env, Γ, x, e1, w, h1, fun v H1 R bv w1 back => ⟨B, R, v, x, d', rfl, bv, hd, fun u H2 w2 => q _ _ (back _ _ _ w2)⟩⟩
  · cases hd
theorem b1t_imp {K : PySem.W.Frag} {c : B1} {ty : String} {a : T} {σ : L2.St} {H : Hp} {Q : VK} (h : tD K Φ (.b1 c a) σ H Q) : tCB (rB1t K c ty) (tCons (tO K Φ a) (tCons (tC (.ty ty)) tNil)) σ H Q := by
  obtain ⟨B, env, Γ, d, e', w, hd, q⟩ := h
  rw [evE] at hd
  change (match evO Φ a env with | some (x, e) => (b1D c x).map fun d => (d, e) | none => none) = some (d, e') at hd
  split at hd
  · rename_i x e1 h1
    rw [Option.map_eq_some_iff] at hd
    obtain ⟨d', hd, ee⟩ := hd
    obtain ⟨rfl, rfl⟩ := Prod.mk.inj ee
    exact ⟨B, env, Γ, x, e1, w, h1, fun v H1 R bv w1 back => ⟨B, R, v, x, d', rfl, bv, hd, fun u H2 w2 => q _ _ (back _ _ _ w2)⟩⟩
  · cases hd
theorem tD_none {K : PySem.W.Frag} {t : T} {X : Cx} {e : Expr} (h : ∀ env, evE Φ t env = none) : PE X e (tD K Φ t) := ⟨fun pins s σ H Q I hh => by
  obtain ⟨B, env, Γ, d, e', w, hd, q⟩ := hh
  rw [h] at hd
  cases hd⟩
theorem b1D_no {c : B1} (h : c = .minL ∨ c = .maxL) (x : D) : b1D c x = none := by
  rcases h with rfl | rfl <;> cases x <;> rfl
theorem SE_b1 {c : B1} {a : T} (s : SE Φ k n a) : SE Φ k n (.b1 c a) := by
  intro X sc e O h
  obtain ⟨x, xp, es, pos, rfl, h1, h2⟩ := chk_b1 h
  obtain ⟨rfl, hg⟩ := bltB_iff h1
  rcases h2 with ⟨hc, y, rfl, hy⟩ | ⟨ty, y, z, zp, hc, rfl, hz, hy⟩
  · have pa := pa_cons (s.op O hy) pa_nil (star_pl (chk_pl hy))
    cases c <;> first | (cases hc; done) | skip
    · exact (pe_callB b1_len (O.gl hg) (O.blt (by decide)) PySem.boot_len pa (he := star_pl (chk_pl hy))).imp fun σ H Q q => b1_imp q
    · exact (pe_callB b1_abs (O.gl hg) (O.blt (by decide)) (by decide +kernel) pa (he := star_pl (chk_pl hy))).imp fun σ H Q q => b1_imp q
    · exact (pe_callTy b1_int (O.gl hg) (O.blt (by decide)) (by decide +kernel) pa (he := star_pl (chk_pl hy))).imp fun σ H Q q => b1_imp q
    · exact (pe_callTy b1_list (O.gl hg) (O.blt (by decide)) (by decide +kernel) pa (he := star_pl (chk_pl hy))).imp fun σ H Q q => b1_imp q
    · exact (pe_callTy b1_tuple (O.gl hg) (O.blt (by decide)) (by decide +kernel) pa (he := star_pl (chk_pl hy))).imp fun σ H Q q => b1_imp q
    · exact (pe_callB (b1_sum O.calm) (O.gl hg) (O.blt (by decide)) (by decide +kernel) pa (he := star_pl (chk_pl hy))).imp fun σ H Q q => b1_imp q
    iterate 2
      · refine tD_none fun env => ?_
        rw [evE]
        split
        · rw [b1D_no (by simp)]; rfl
        · rfl
    · exact (pe_callB b1_sorted (O.gl hg) (O.blt (by decide)) (by decide +kernel) pa (he := star_pl (chk_pl hy))).imp fun σ H Q q => b1_imp q
  · obtain ⟨rfl, hgz⟩ := bltB_iff hz
    have hb : PE X (.Name (Str.ofString ty) zp) (tC (.ty ty)) := by
      cases c <;> (try (cases hc; done)) <;> cases hc <;> exact pe_bltn (O.gl hgz) (O.blt (by decide)) (u := .type _) (by decide +kernel) rfl
    have pa := pa_cons (s.op O hy) (pa_cons hb pa_nil (star_pl rfl)) (star_pl (chk_pl hy))
    have hn : b1name c = "isinstance" := by cases c <;> first | (cases hc; done) | rfl
    rw [hn] at hg ⊢
    exact (pe_callB (b1_is hc) (O.gl hg) (O.blt (by decide)) (by decide +kernel) pa (he := star_pl (chk_pl hy))).imp fun σ H Q q => b1t_imp q
theorem bn_min {xs : List D} {d : D} (h : bnD .min2 xs = some d) : ∃ i j : Int, xs = [.int i, .int j] ∧ d = .int (if j < i then j else i) := by
  unfold bnD at h
  split at h
  · cases h; exact ⟨_, _, rfl, rfl⟩
  · rename_i hh; cases hh
  · cases h
theorem bn_max {xs : List D} {d : D} (h : bnD .max2 xs = some d) : ∃ i j : Int, xs = [.int i, .int j] ∧ d = .int (if j > i then j else i) := by
  unfold bnD at h
  split at h
  · rename_i hh; cases hh
  · cases h; exact ⟨_, _, rfl, rfl⟩
  · cases h
theorem bn_3 (xs : List D) : bnD .max3 xs = none := by
  unfold bnD
  split
  · rename_i hh; cases hh
  · rename_i hh; cases hh
  · rfl
theorem SE_bn {c : BN} {a : T} (s : SL Φ k n a) : SE Φ k n (.bn c a) := by
  intro X sc e O h
  cases e <;> try (simp [chkE] at h; done)
  rename_i g es kw pos
  cases g <;> try (simp [chkE] at h; done)
  cases kw <;> try (simp [chkE] at h; done)
  simp only [chkE, Bool.and_eq_true] at h
  obtain ⟨h1, h2⟩ := h
  obtain ⟨rfl, hg⟩ := bltB_iff h1
  cases es with
  | nil =>
    refine ⟨fun pins s σ H Q I hh => ?_⟩
    obtain ⟨B, env, Γ, d, e', w, hd, q⟩ := hh
    cases a <;> try (simp [chkL] at h2; done)
    rw [evE, evL] at hd
    cases c <;> simp [bnD] at hd
  | cons y ys =>
    obtain ⟨x0, xs0, e0⟩ : ∃ x0 xs0, a = .cons x0 xs0 := by cases a <;> first | exact ⟨_, _, rfl⟩ | simp [chkL] at h2
    subst e0
    obtain ⟨_, _, ee, hy, hys⟩ := chk_cons h2
    cases ee
    have two : ∀ {σ : L2.St} {H : Hp} {Q : VK} {g : Int → Int → Int}, (∀ xs d, bnD c xs = some d → ∃ i j, xs = [.int i, .int j] ∧ d = .int (g i j)) → tD X.K Φ (.bn c (.cons x0 xs0)) σ H Q → tLL X.K Φ (.cons x0 xs0) σ H fun vs H1 => ∃ i j, vs = [.int i, .int j] ∧ Q (.int (g i j)) H1 := by
      rintro σ H Q g hg ⟨B, env, Γ, d, e', w, hd, q⟩
      rw [evE] at hd
      split at hd
      · rename_i xs e1 h3
        rw [Option.map_eq_some_iff] at hd
        obtain ⟨d', hd, ee⟩ := hd
        obtain ⟨rfl, rfl⟩ := Prod.mk.inj ee
        obtain ⟨i, j, rfl, rfl⟩ := hg _ _ hd
        refine ⟨B, env, Γ, _, e1, w, h3, fun vs H1 l w1 => ?_⟩
        match vs, l, w1 with
        | [v, u], _, w1 =>
          have e1 := w1.headInt
          have e2 := w1.drop.headInt
          subst e1 e2
          exact ⟨i, j, rfl, q _ _ (w1.drop.drop.int _)⟩
      · cases hd
    cases c with
    | min2 =>
      refine (pe_callB (call_min2 O.calm) (O.gl hg) (O.blt (by decide)) (by decide +kernel) (s O h2) (he := star_pl (chk_pl hy)) (hpl := noStar hys)).imp fun σ H Q q => ?_
      refine two (g := fun i j => if j < i then j else i) (fun xs d hd => ?_) q
      exact bn_min hd
    | max2 =>
      refine (pe_callB (call_max2 O.calm) (O.gl hg) (O.blt (by decide)) (by decide +kernel) (s O h2) (he := star_pl (chk_pl hy)) (hpl := noStar hys)).imp fun σ H Q q => ?_
      refine two (g := fun i j => if j > i then j else i) (fun xs d hd => ?_) q
      exact bn_max hd
    | max3 =>
      refine tD_none fun env => ?_
      rw [evE]
      split
      · rename_i xs _ _
        rw [bn_3]; rfl
      · rfl
end
end Sr
set_option Elab.async false
set_option linter.all false
set_option maxRecDepth 100000
set_option maxHeartbeats 2000000
/-! # Sr: what is walked; comprehensions -/
namespace Sr
open PySem PySem.Spec PyProof.Rows L2

/-! ### what is walked -/
/-- a list or a tuple, walked -/
def iSeq (K : PySem.W.Frag) (tl : TE) : TI := fun σ H R => tl σ H fun x H1 => ∃ a, x = .ref a ∧ (((∃ xs, SqL K H1 a xs) ∧ R (Itl K a) H1) ∨ ((∃ xs, SqT K H1 a xs) ∧ R (Itt K a) H1))
theorem pi_seq {X : Cx} {tg l : Expr} {tl : TE} (hl : PE X l tl) : PI X tg l (iSeq X.K tl) := by
  refine ⟨fun pins s σ H R I h => ?_⟩
  refine thn (hl.run pins s σ H _ I h) fun v s1 ⟨x, H1, I1, r1, q1⟩ => ?_
  obtain ⟨a, e, q⟩ := q1
  subst e
  cases r1
  rcases q with ⟨⟨xs, hq⟩, q⟩ | ⟨⟨xs, hq⟩, q⟩
  · obtain ⟨its, rv, p, hz⟩ := I1.list hq
    refine wpAny_pyIter_list p.isList ?_
    refine ⟨s1.heap.objs.size, [s1.heap.objs.size], _, _, H1, rfl, I1.kept (t' := s1.toks) fun b o e => Heap.get?_push_of_some _ e, turn_list a _, ⟨_, Heap.get?_push_size _ rfl, rfl, rfl⟩, fun b hb => ?_, q⟩
    have e : b = s1.heap.objs.size := by simpa using hb
    subst e
    exact I1.fpOk (Nat.le_refl _) (I1.hok.fresh (Nat.le_refl _))
  · obtain ⟨its, rv, p, hz⟩ := I1.tuple hq
    refine wpAny_pyIter_tuple (show s1.heap.IsTuple a its.toArray from p) ?_
    refine ⟨s1.heap.objs.size, [s1.heap.objs.size], _, _, H1, rfl, I1.kept (t' := s1.toks) fun b o e => Heap.get?_push_of_some _ e, turn_tuple a _, ⟨_, Heap.get?_push_size _ rfl, rfl, rfl⟩, fun b hb => ?_, q⟩
    have e : b = s1.heap.objs.size := by simpa using hb
    subst e
    exact I1.fpOk (Nat.le_refl _) (I1.hok.fresh (Nat.le_refl _))
section
variable {K : PySem.W.Frag} {B : Bs}
/-- an item of a list that is only read -/
theorem W.itemL {H : Hp} {R : List Rt} {a : Addr} {xs : List D} (w : W K B H ((.ref a, .lst false xs) :: R)) : ∃ vs, SqL K H a vs ∧ vs.length = xs.length ∧ vs.length ≤ sizeLine ∧ ∀ (i : Nat) x, vs[i]? = some x → ∃ d, xs[i]? = some d ∧ W K B H ((x, d) :: (.ref a, .lst false xs) :: R) := by
  obtain ⟨F, S, r, o⟩ := w
  cases r with
  | cons r0 t =>
    have r1 := r0
    cases r1 with
    | shr e rs =>
      refine ⟨_, .inl e, rs.len, o.sz _ _ (.inl e), fun i x hx => ?_⟩
      obtain ⟨hl, _⟩ := List.getElem?_eq_some_iff.mp hx
      obtain ⟨d, hd⟩ : ∃ d, xs[i]? = some d := ⟨xs[i]'(by rw [← rs.len]; exact hl), List.getElem?_eq_getElem _⟩
      obtain ⟨v, F1, S1, hv, rv, f1, s1, _⟩ := rs.get hd
      rw [hx] at hv
      cases hv
      have e1 : F1 = [] := List.eq_nil_iff_forall_not_mem.mpr fun b hb => nomatch f1 b hb
      subst e1
      refine ⟨d, hd, _, _, .cons rv (.cons r0 t), o.less (fun b hb => hb) o.nd fun b hb => ?_⟩
      rcases List.mem_append.mp hb with z | z
      · exact List.mem_append_left _ (List.mem_cons_of_mem _ (s1 b z))
      · exact z
    | @mod _ vs0 _ _ e rs =>
      have hz : vs0.length ≤ sizeLine := by
        obtain ⟨_, its, _, _, _, _, _, hz, r⟩ := e
        have q := r.length
        simp only [Array.length_toList] at q
        rw [← q] at hz; exact hz
      refine ⟨_, .inr e, rs.len, hz, fun i x hx => ?_⟩
      obtain ⟨hl, _⟩ := List.getElem?_eq_some_iff.mp hx
      obtain ⟨d, hd⟩ : ∃ d, xs[i]? = some d := ⟨xs[i]'(by rw [← rs.len]; exact hl), List.getElem?_eq_getElem _⟩
      obtain ⟨v, F1, S1, hv, rv, f1, s1, _⟩ := rs.get hd
      rw [hx] at hv
      cases hv
      have e1 : F1 = [] := List.eq_nil_iff_forall_not_mem.mpr fun b hb => nomatch f1 b hb
      subst e1
      refine ⟨d, hd, _, _, .cons rv (.cons r0 t), o.less (fun b hb => hb) o.nd fun b hb => ?_⟩
      rcases List.mem_append.mp hb with z | z
      · exact List.mem_append_left _ (s1 b z)
      · exact z
theorem W.itemT {H : Hp} {R : List Rt} {a : Addr} {xs : List D} (w : W K B H ((.ref a, .tup xs) :: R)) (u : unL xs = true) : ∃ vs, Rd H a (.tup vs) ∧ vs.length = xs.length ∧ ∀ (i : Nat) x, vs[i]? = some x → ∃ d, xs[i]? = some d ∧ W K B H ((x, d) :: (.ref a, .tup xs) :: R) := by
  obtain ⟨F, S, r, o⟩ := w
  cases r with
  | cons r0 t =>
    have r1 := r0
    cases r1 with
    | tup e rs =>
      have z := rs.un u
      subst z
      refine ⟨_, e, rs.len, fun i x hx => ?_⟩
      obtain ⟨hl, _⟩ := List.getElem?_eq_some_iff.mp hx
      obtain ⟨d, hd⟩ : ∃ d, xs[i]? = some d := ⟨xs[i]'(by rw [← rs.len]; exact hl), List.getElem?_eq_getElem _⟩
      obtain ⟨v, F1, S1, hv, rv, f1, s1, _⟩ := rs.get hd
      rw [hx] at hv
      cases hv
      have e1 : F1 = [] := List.eq_nil_iff_forall_not_mem.mpr fun b hb => nomatch f1 b hb
      subst e1
      refine ⟨d, hd, _, _, .cons rv (.cons r0 t), o.less (fun b hb => hb) o.nd fun b hb => ?_⟩
      rcases List.mem_append.mp hb with z | z
      · exact List.mem_append_left _ (s1 b z)
      · exact z
theorem get_some {α : Type} {xs : List α} {i : Nat} (h : i < xs.length) : ∃ x, xs[i]? = some x := ⟨xs[i], List.getElem?_eq_getElem h⟩
theorem it_list {a : Addr} {xs : List D} : ItOk K B (Itl K a) xs [(.ref a, .lst false xs)] where
  small := fun w => by
    obtain ⟨vs, e, l, z, _⟩ := W.itemL w
    rw [← l]; exact z
  go := fun i H R w h => by
    obtain ⟨vs, e, l, _⟩ := W.itemL w
    obtain ⟨x, hx⟩ := get_some (xs := vs) (i := i) (by omega)
    exact ⟨vs, x, e, hx⟩
  yld := fun i H R x H' w h y => by
    obtain ⟨vs, e, l, _, g⟩ := W.itemL w
    obtain ⟨e1, e2⟩ := y
    subst e1
    exact g i x (e2 vs e)
  stop := fun i H R w h => by
    obtain ⟨vs, e, l, _⟩ := W.itemL w
    exact ⟨vs, e, by omega⟩
theorem it_tup {a : Addr} {xs : List D} (u : unL xs = true) : ItOk K B (Itt K a) xs [(.ref a, .tup xs)] where
  small := fun w => by
    obtain ⟨vs, e, l, _⟩ := W.itemT w u
    obtain ⟨F, S, r, o⟩ := w
    rw [← l]; exact o.sz _ _ (.inr e)
  go := fun i H R w h => by
    obtain ⟨vs, e, l, _⟩ := W.itemT w u
    obtain ⟨x, hx⟩ := get_some (xs := vs) (i := i) (by omega)
    exact ⟨vs, x, .inl e, hx⟩
  yld := fun i H R x H' w h y => by
    obtain ⟨vs, e, l, g⟩ := W.itemT w u
    obtain ⟨e1, e2⟩ := y
    subst e1
    exact g i x (e2 vs (.inl e))
  stop := fun i H R w h => by
    obtain ⟨vs, e, l, _⟩ := W.itemT w u
    exact ⟨vs, .inl e, by omega⟩
theorem it_rng {lo : Int} {m : Nat} {f : Nat → D} (hf : ∀ i : Nat, f i = .int (lo + i)) (hm : m ≤ big) : ItOk K B (Itr lo m) ((List.range m).map f) [] where
  small := fun w => by rw [List.length_map, List.length_range]; exact Nat.le_trans hm big_le
  go := fun i H R w h => by rw [List.length_map, List.length_range] at h; exact h
  yld := fun i H R x H' w h y => by
    rw [List.length_map, List.length_range] at h
    obtain ⟨e1, e2⟩ := y
    subst e1
    subst e2
    refine ⟨f i, ?_, ?_⟩
    · rw [List.getElem?_map, List.getElem?_range h]; rfl
    · rw [hf]; exact W.int w _
  stop := fun i H R w h => by rw [List.length_map, List.length_range] at h; exact h
theorem it_rngC {lo c : Int} {m : Nat} {f : Nat → D} (hf : ∀ i : Nat, f i = .int (lo + (i : Nat) * c)) (hm : m ≤ big) : ItOk K B (Itc lo c m) ((List.range m).map f) [] where
  small := fun w => by rw [List.length_map, List.length_range]; exact Nat.le_trans hm big_le
  go := fun i H R w h => by rw [List.length_map, List.length_range] at h; exact h
  yld := fun i H R x H' w h y => by
    rw [List.length_map, List.length_range] at h
    obtain ⟨e1, e2⟩ := y
    subst e1
    subst e2
    refine ⟨f i, ?_, ?_⟩
    · rw [List.getElem?_map, List.getElem?_range h]; rfl
    · rw [hf]; exact W.int w _
  stop := fun i H R w h => by rw [List.length_map, List.length_range] at h; exact h
theorem zipD_len : ∀ xs ys : List D, (zipD xs ys).length = min xs.length ys.length
  | [], ys => by simp [zipD]
  | x :: xs, [] => by simp [zipD]
  | x :: xs, y :: ys => by simp only [zipD, List.length_cons, zipD_len xs ys]; omega
theorem zipD_get : ∀ {xs ys : List D} {i : Nat} {x y : D}, xs[i]? = some x → ys[i]? = some y → (zipD xs ys)[i]? = some (.tup [x, y])
  | [], _, _, _, _, h, _ => by simp at h
  | _ :: _, [], _, _, _, _, h => by simp at h
  | x :: xs, y :: ys, 0, _, _, h1, h2 => by simp at h1 h2; subst h1 h2; rfl
  | x :: xs, y :: ys, i + 1, _, _, h1, h2 => by
    simp only [zipD, List.getElem?_cons_succ] at h1 h2 ⊢
    exact zipD_get h1 h2
theorem it_zip {a b : Addr} {xs ys : List D} : ItOk K B (Itz K a b) (zipD xs ys) [(.ref a, .lst false xs), (.ref b, .lst false ys)] where
  small := fun w => by
    obtain ⟨vs, e, l, hz, _⟩ := W.itemL w
    rw [zipD_len]; omega
  go := fun i H R w h => by
    rw [zipD_len] at h
    obtain ⟨vs, e, l, _⟩ := W.itemL w
    obtain ⟨us, e', l', _⟩ := W.itemL (W.drop w)
    obtain ⟨x, hx⟩ := get_some (xs := vs) (i := i) (by omega)
    obtain ⟨y, hy⟩ := get_some (xs := us) (i := i) (by omega)
    exact ⟨vs, us, x, y, e, e', hx, hy⟩
  yld := fun i H R x H' w h y => by
    obtain ⟨vs, e, l, _, g⟩ := W.itemL w
    obtain ⟨T, x1, y1, e1, hT, e2, hx, hy⟩ := y
    subst e1 e2
    obtain ⟨d, hd, w1⟩ := g i x1 (hx vs e)
    have w2 : W K B H ((.ref b, .lst false ys) :: (x1, d) :: (.ref a, .lst false xs) :: R) := W.perm (by
      refine List.Perm.trans (l₂ := (x1, d) :: (.ref b, .lst false ys) :: (.ref a, .lst false xs) :: R) ?_ (.swap _ _ _)
      exact .cons _ (.swap _ _ _)) w1
    obtain ⟨us, e', l', _, g'⟩ := W.itemL w2
    obtain ⟨d', hd', w3⟩ := g' i y1 (hy us e')
    refine ⟨.tup [d, d'], zipD_get hd hd', ?_⟩
    have w4 : W K B H ((x1, d) :: (y1, d') :: (.ref a, .lst false xs) :: (.ref b, .lst false ys) :: R) := W.perm (by
      refine List.Perm.trans (l₂ := (y1, d') :: (x1, d) :: (.ref b, .lst false ys) :: (.ref a, .lst false xs) :: R) (.cons _ (.swap _ _ _)) ?_
      refine List.Perm.trans (.swap _ _ _) (.cons _ (.cons _ (.swap _ _ _)))) w3
    exact W.tupV (vs := [x1, y1]) (ds := [d, d']) w4 rfl hT (by show 2 ≤ sizeLine; decide)
  stop := fun i H R w h => by
    rw [zipD_len] at h
    obtain ⟨vs, e, l, _⟩ := W.itemL w
    obtain ⟨us, e', l', _⟩ := W.itemL (W.drop w)
    exact ⟨vs, us, e, e', by omega⟩
end
section
variable {Φ : Fs} {k : Nat} {n : Nm}
theorem SI_itr {a : T} (s : SE Φ k n a) : SI Φ k n (.itr a) := by
  intro X sc g e _ O h
  rw [chkI] at h
  refine (pi_seq (s O h)).imp ?_
  rintro σ H R ⟨B, env, Γ, xs, e', w, hd, q⟩
  rw [evI] at hd
  split at hd
  · rename_i d e1 h1
    rw [Option.map_eq_some_iff] at hd
    obtain ⟨ys, hy, ee⟩ := hd
    obtain ⟨rfl, rfl⟩ := Prod.mk.inj ee
    refine ⟨B, env, Γ, d, e1, w, h1, fun v H1 w1 => ?_⟩
    have w2 := w1.shr
    cases d with
    | tup zs =>
      cases hy
      obtain ⟨F, S, r⟩ := w2.head
      rw [D.shr] at r w2
      cases r with
      | @tup a vs _ _ _ e r => exact ⟨a, rfl, .inr ⟨⟨vs, .inl e⟩, q _ _ _ (it_tup (shrL_un _)) w2⟩⟩
    | lst o zs =>
      cases hy
      obtain ⟨F, S, r⟩ := w2.head
      rw [D.shr] at r w2
      cases r with
      | @shr a vs _ _ e r => exact ⟨a, rfl, .inl ⟨⟨vs, .inl e⟩, q _ _ _ it_list w2⟩⟩
      | @mod a vs _ _ e r => exact ⟨a, rfl, .inl ⟨⟨vs, .inr e⟩, q _ _ _ it_list w2⟩⟩
    | _ => cases hy
  · cases hd
theorem chk_r1 {a : T} {sc : Scope} {e : Expr} (h : chkI n sc (.rng1 a) e = true) : ∃ x xp y pos, e = .Call (.Name x xp) [y] [] pos ∧ bltB sc "range" x = true ∧ chkE n sc a y = true := by
  rw [chkI] at h
  split at h
  · rename_i x y hc
    obtain ⟨p, pos, rfl⟩ := asCall_of hc
    simp only [Bool.and_eq_true] at h
    exact ⟨_, _, _, _, rfl, h.1, h.2⟩
  · cases h
theorem SI_rng1 {a : T} (s : SE Φ k n a) : SI Φ k n (.rng1 a) := by
  intro X sc g e _ O h
  obtain ⟨x, xp, y, pos, rfl, h1, h2⟩ := chk_r1 h
  obtain ⟨rfl, hg⟩ := bltB_iff h1
  refine (pi_range1 (O.gl hg) (O.blt (by decide)) (pa_cons (s O h2) pa_nil (star_pl (chk_pl h2))) (star_pl (chk_pl h2))).imp ?_
  rintro σ H R ⟨B, env, Γ, xs, e', w, hd, q⟩
  rw [evI] at hd
  split at hd
  · rename_i m e1 h3
    split at hd
    · rename_i c
      obtain ⟨rfl, rfl⟩ := inj2 hd
      refine ⟨B, env, Γ, _, e1, w, h3, fun v H1 w1 => ?_⟩
      have ev := w1.headInt
      subst ev
      have hb : (big : Int) < 2 ^ 62 := by decide
      exact ⟨m, rfl, c.2, by omega, q _ _ _ (it_rng (fun i => by simp) (by omega)) w1.drop⟩
    · cases hd
  · cases hd
theorem chk_r2 {a b : T} {sc : Scope} {e : Expr} (h : chkI n sc (.rng2 a b) e = true) : ∃ x xp y z pos, e = .Call (.Name x xp) [y, z] [] pos ∧ bltB sc "range" x = true ∧ chkE n sc a y = true ∧ chkE n sc b z = true := by
  rw [chkI] at h
  split at h
  · rename_i x y z hc
    obtain ⟨p, pos, rfl⟩ := asCall_of hc
    simp only [Bool.and_eq_true] at h
    exact ⟨_, _, _, _, _, rfl, h.1.1, h.1.2, h.2⟩
  · cases h
theorem star1 {e : Expr} {env : PySem.Env} (h : plE e = true) : starEach [e] env = [(false, eval e env)] := star_pl h
theorem SI_rng2 {a b : T} (sa : SE Φ k n a) (sb : SE Φ k n b) : SI Φ k n (.rng2 a b) := by
  intro X sc g e _ O h
  obtain ⟨x, xp, y, z, pos, rfl, h1, h2, h3⟩ := chk_r2 h
  obtain ⟨rfl, hg⟩ := bltB_iff h1
  have py := chk_pl h2
  have pz := chk_pl h3
  refine (pi_range2 (O.gl hg) (O.blt (by decide)) (pa_cons (sa O h2) (pa_cons (sb O h3) pa_nil (star_pl pz)) (star_pl py)) (by rw [star_pl py, star1 pz]) (star1 pz)).imp ?_
  rintro σ H R ⟨B, env, Γ, xs, e', w, hd, q⟩
  rw [evI] at hd
  split at hd
  · rename_i m e1 h4
    split at hd
    · rename_i l e2 h5
      split at hd
      · rename_i c
        obtain ⟨rfl, rfl⟩ := inj2 hd
        refine ⟨B, env, Γ, _, e1, w, h4, fun v H1 w1 => ⟨B, e1, _, _, e2, w1, h5, fun u H2 w2 => ?_⟩⟩
        have eu := w2.headInt
        have ev := w2.drop.headInt
        subst eu ev
        exact ⟨m, l, rfl, ⟨c.1, c.2.1, c.2.2.1, c.2.2.2.1⟩, q _ _ _ (it_rng (fun i => rfl) (by omega)) w2.drop.drop⟩
      · cases hd
    · cases hd
  · cases hd
theorem chk_r3 {a b : T} {c : Int} {sc : Scope} {e : Expr} (h : chkI n sc (.rng3 a b c) e = true) : ∃ x xp y z j p pos, e = .Call (.Name x xp) [y, z, .Constant (.int c) j p] [] pos ∧ bltB sc "range" x = true ∧ chkE n sc a y = true ∧ chkE n sc b z = true := by
  rw [chkI] at h
  split at h
  · rename_i x y z u hc
    obtain ⟨p, pos, rfl⟩ := asCall_of hc
    simp only [Bool.and_eq_true, decide_eq_true_eq] at h
    obtain ⟨⟨⟨h1, h2⟩, h3⟩, h4⟩ := h
    obtain ⟨j, p', rfl⟩ := asInt_of h4
    exact ⟨_, _, _, _, _, _, _, rfl, h1, h2, h3⟩
  · cases h
theorem rgc {m l c : Int} (c1 : -(2 ^ 61) ≤ m) (c2 : m < 2 ^ 61) (c3 : -(2 ^ 61) ≤ l) (c4 : l < 2 ^ 61) (c5 : 0 < c) (c6 : c < 1000000000) : RgC m l c (rngN m l c) := by
  have hc : c > 0 := c5
  have hr : Builtin.Range.rangeSize m l c = (rngN m l c : Int) := by
    unfold Builtin.Range.rangeSize rngN
    rw [if_pos hc]
    split
    · have : 0 ≤ (l - m - 1) / c := Int.ediv_nonneg (by omega) (by omega)
      omega
    · rfl
  have hu : (rngN m l c : Int) ≤ 2 ^ 62 := by
    unfold rngN
    split
    · have h1 : (l - m - 1) / c ≤ l - m - 1 := Int.ediv_le_self _ (by omega)
      have h2 : 0 ≤ (l - m - 1) / c := Int.ediv_nonneg (by omega) (by omega)
      omega
    · decide
  refine ⟨by omega, by omega, ?_, hr⟩
  unfold Builtin.Range.small
  rw [hr]
  simp only [Builtin.Range.rangeFitsLong, Bool.and_eq_true, Bool.or_eq_true, decide_eq_true_eq, beq_iff_eq, if_pos hc]
  omega
theorem rngN_le {m l c : Int} (c5 : 0 < c) (c7 : l - m ≤ big) : rngN m l c ≤ big := by
  unfold rngN
  split
  · have h1 : (l - m - 1) / c ≤ l - m - 1 := Int.ediv_le_self _ (by omega)
    omega
  · exact Nat.zero_le _
theorem SI_rng3 {a b : T} {c : Int} (sa : SE Φ k n a) (sb : SE Φ k n b) : SI Φ k n (.rng3 a b c) := by
  intro X sc g e _ O h
  obtain ⟨x, xp, y, z, j, p, pos, rfl, h1, h2, h3⟩ := chk_r3 h
  obtain ⟨rfl, hg⟩ := bltB_iff h1
  have py := chk_pl h2
  have pz := chk_pl h3
  refine (pi_range3 (O.gl hg) (O.blt (by decide)) (pa_cons (sa O h2) (pa_cons (sb O h3) (pa_cons pe_int pa_nil (star_pl rfl)) (star_pl pz)) (star_pl py)) (star_pl py) (by rw [star_pl pz]; rfl)).imp ?_
  rintro σ H R ⟨B, env, Γ, xs, e', w, hd, q⟩
  rw [evI] at hd
  split at hd
  · rename_i m e1 h4
    split at hd
    · rename_i l e2 h5
      split at hd
      · rename_i c'
        obtain ⟨rfl, rfl⟩ := inj2 hd
        refine ⟨B, env, Γ, _, e1, w, h4, fun v H1 w1 => ⟨B, e1, _, _, e2, w1, h5, fun u H2 w2 => ?_⟩⟩
        have eu := w2.headInt
        have ev := w2.drop.headInt
        subst eu ev
        exact ⟨m, l, c, _, rfl, rgc c'.1 c'.2.1 c'.2.2.1 c'.2.2.2.1 c'.2.2.2.2.1 c'.2.2.2.2.2.1, q _ _ _ (it_rngC (fun i => rfl) (rngN_le c'.2.2.2.2.1 c'.2.2.2.2.2.2)) w2.drop.drop⟩
      · cases hd
    · cases hd
  · cases hd
theorem chk_zip {a b : T} {sc : Scope} {e : Expr} (h : chkI n sc (.zip a b) e = true) : ∃ x xp y z pos, e = .Call (.Name x xp) [y, z] [] pos ∧ bltB sc "zip" x = true ∧ chkE n sc a y = true ∧ chkE n sc b z = true := by
  rw [chkI] at h
  split at h
  · rename_i x y z hc
    obtain ⟨p, pos, rfl⟩ := asCall_of hc
    simp only [Bool.and_eq_true] at h
    exact ⟨_, _, _, _, _, rfl, h.1.1, h.1.2, h.2⟩
  · cases h
theorem SI_zip {a b : T} (sa : SE Φ k n a) (sb : SE Φ k n b) {X : Cx} {sc : Scope} {es : List Expr} {kk : Nat} {tp : Pos} {e : Expr} (O : OkX Φ k n X sc) (h : chkI n sc (.zip a b) e = true) : PI X (.Tuple es kk tp) e (tI X.K Φ (.zip a b)) := by
  obtain ⟨x, xp, y, z, pos, rfl, h1, h2, h3⟩ := chk_zip h
  obtain ⟨rfl, hg⟩ := bltB_iff h1
  have py := chk_pl h2
  have pz := chk_pl h3
  refine (pi_zip (O.gl hg) (O.blt (by decide)) (pa_cons (sa O h2) (pa_cons (sb O h3) pa_nil (star_pl pz)) (star_pl py)) (star_pl py) (by rw [star_pl pz]; rfl)).imp ?_
  rintro σ H R ⟨B, env, Γ, xs, e', w, hd, q⟩
  rw [evI] at hd
  split at hd
  · rename_i o1 ys e1 h4
    split at hd
    · rename_i o2 zs e2 h5
      obtain ⟨rfl, rfl⟩ := inj2 hd
      refine ⟨B, env, Γ, _, e1, w, h4, fun v H1 w1 => ⟨B, e1, _, _, e2, w1.shr, h5, fun u H2 w2 => ?_⟩⟩
      have w3 := (w2.shr).swap
      rw [D.shr, D.shr] at w3
      obtain ⟨F, S, r⟩ := w3.head
      obtain ⟨F', S', r'⟩ := w3.drop.head
      have sq : ∀ {v ds F S}, Rep X.K H2 v (.lst false ds) F S → ∃ a vs, v = .ref a ∧ SqL X.K H2 a vs := fun r => by
        cases r with
        | shr e _ => exact ⟨_, _, rfl, .inl e⟩
        | mod e _ => exact ⟨_, _, rfl, .inr e⟩
      obtain ⟨a1, vs1, rfl, e1'⟩ := sq r
      obtain ⟨a2, vs2, rfl, e2'⟩ := sq r'
      exact ⟨a1, a2, vs1, vs2, rfl, e1', e2', q _ _ _ it_zip w3⟩
    · cases hd
  · cases hd
theorem foldS {e : Expr} {env : PySem.Env} (h : plE e = true) : ∀ x, foldedSetIterable e env x = pure x := by
  intro x
  cases e <;> first | rfl | cases h
theorem chkI_pl {t : T} {sc : Scope} {e : Expr} (h : chkI n sc t e = true) : plE e = true := by
  cases t with
  | rng1 a => obtain ⟨_, _, _, _, rfl, _⟩ := chk_r1 h; rfl
  | rng2 a b => obtain ⟨_, _, _, _, _, rfl, _⟩ := chk_r2 h; rfl
  | rng3 a b c => obtain ⟨_, _, _, _, _, _, _, rfl, _⟩ := chk_r3 h; rfl
  | zip a b => obtain ⟨_, _, _, _, _, rfl, _⟩ := chk_zip h; rfl
  | itr a => rw [chkI] at h; exact chk_pl h
  | _ => cases h
end
end Sr
set_option Elab.async false
set_option linter.all false
set_option maxRecDepth 100000
set_option maxHeartbeats 2000000
/-! # Sr: targets, comprehensions -/
namespace Sr
open PySem PySem.Spec PyProof.Rows L2

def gOf (K : PySem.W.Frag) : List Nat → TG
  | [i] => gName i
  | [i, j] => gTup K 2 (gCons (gName i) (gCons (gName j) gNil))
  | [i, j, k] => gTup K 3 (gCons (gName i) (gCons (gName j) (gCons (gName k) gNil)))
  | _ => fun _ _ _ _ => False
section
variable {n : Nm} {X : Cx} {sc : Scope}
theorem pg_ok {tg : List Nat} {g : Expr} (hN : X.N = n.N) (nd : X.N.Nodup) (hc : X.calm = true) (hl : ∀ x, locB sc x = true → Loc X.env.scope x ∧ (X.fn x = true ∨ X.env.scope.names.lookup x = some .local)) (h : tgB n sc tg g = true) : PG X g (gOf X.K tg) := by
  unfold tgB at h
  split at h
  · rename_i i x p
    simp only [Bool.and_eq_true, decide_eq_true_eq] at h
    exact pg_name nd (by rw [hN]; exact h.1) (hl x h.2).1 (hl x h.2).2
  · rename_i i j x p y p' kk tp
    simp only [Bool.and_eq_true, decide_eq_true_eq] at h
    obtain ⟨⟨⟨h1, h2⟩, h3⟩, h4⟩ := h
    exact pg_tup hc (pgs_cons (pg_name nd (by rw [hN]; exact h1) (hl x h2).1 (hl x h2).2) (pgs_cons (pg_name nd (by rw [hN]; exact h3) (hl y h4).1 (hl y h4).2) pgs_nil))
  · rename_i i j k x p y p' z p'' kk tp
    simp only [Bool.and_eq_true, decide_eq_true_eq] at h
    obtain ⟨⟨⟨⟨⟨h1, h2⟩, h3⟩, h4⟩, h5⟩, h6⟩ := h
    exact pg_tup hc (pgs_cons (pg_name nd (by rw [hN]; exact h1) (hl x h2).1 (hl x h2).2) (pgs_cons (pg_name nd (by rw [hN]; exact h3) (hl y h4).1 (hl y h4).2) (pgs_cons (pg_name nd (by rw [hN]; exact h5) (hl z h6).1 (hl z h6).2) pgs_nil)))
  · cases h
end
section
variable {K : PySem.W.Frag} {B : Bs}
theorem W.openT {H : Hp} {R : List Rt} {v : V} {ds : List D} (w : W K B H ((v, .tup ds) :: R)) : ∃ a vs, v = .ref a ∧ Rd H a (.tup vs) ∧ vs.length = ds.length ∧ W K B H (vs.zip ds ++ R) := by
  obtain ⟨F, S, r, o⟩ := w
  cases r with
  | cons r0 t =>
    cases r0 with
    | tup e rs =>
      refine ⟨_, _, rfl, e, rs.len, _, _, ?_, o⟩
      show Reps K H _ _ _ _
      rw [List.map_append, List.map_append, List.map_fst_zip (Nat.le_of_eq rs.len), List.map_snd_zip (Nat.le_of_eq rs.len.symm)]
      exact rs.app t
theorem set_ge {α : Type} {l : List α} {i : Nat} {x : α} (h : l.length ≤ i) : l.set i x = l := by
  apply List.ext_getElem?
  intro j
  by_cases hj : i = j
  · subst hj
    rw [List.getElem?_eq_none (by rw [List.length_set]; exact h), List.getElem?_eq_none h]
  · rw [List.getElem?_set_ne hj]
theorem Wd.asgT {σ : L2.St} {e : Env} {Γ : List Rt} {H : Hp} {i : Nat} {d : D} {v : V} (w : Wd K B σ e ((v, d) :: Γ) H) (hp : ∀ p ∈ B.pr, p.1 ≠ i) : Wd K B (σ.set i (some v)) (e.set i (some d)) Γ H := by
  by_cases hi : i < σ.length
  · exact w.asg hi hp
  · have hl : ¬ i < e.length := by rw [← w.fit.1]; exact hi
    rw [set_ge (by omega), set_ge (by omega)]
    exact w.drop
theorem bind_ok {tg : List Nat} {σ : L2.St} {e e' : Env} {Γ : List Rt} {H : Hp} {x : V} {d : D} {Q : L2.St → Hp → Prop} (h : bindT tg d e = some e') (w : Wd K B σ e ((x, d) :: Γ) H) (hp : ∀ p ∈ B.pr, p.1 ∉ tg)
    (q : ∀ σ', Wd K B σ' e' Γ H → (∀ i, i ∉ tg → σ'[i]? = σ[i]?) → σ'.length = σ.length → Q σ' H) : gOf K tg x σ H Q := by
  unfold bindT at h
  split at h
  · rename_i i
    cases h
    refine q _ (w.asgT fun p hh z => hp p hh (by simp [z])) (fun j hj => ?_) (by rw [List.length_set])
    rw [List.getElem?_set_ne (fun z => hj (by simp [z]))]
  · rename_i i j d1 d2
    cases h
    obtain ⟨a, vs, ev, e0, l, w2⟩ := W.openT w.w
    subst ev
    match vs, l, e0, w2 with
    | [v1, v2], _, e0, w2 =>
      have w3 : Wd K B σ e ((v1, d1) :: (v2, d2) :: Γ) H := ⟨w.fit, w.pr, w2⟩
      refine ⟨a, [v1, v2], rfl, .inl e0, rfl, v1, [v2], rfl, v2, [], rfl, rfl, ?_⟩
      have w4 := w3.asgT (i := i) fun p hh z => hp p hh (by simp [z])
      have w5 := w4.asgT (i := j) fun p hh z => hp p hh (by simp [z])
      refine q _ w5 (fun m hm => ?_) (by rw [List.length_set, List.length_set])
      rw [List.getElem?_set_ne (fun z => hm (by simp [z])), List.getElem?_set_ne (fun z => hm (by simp [z]))]
  · rename_i i j m d1 d2 d3
    cases h
    obtain ⟨a, vs, ev, e0, l, w2⟩ := W.openT w.w
    subst ev
    match vs, l, e0, w2 with
    | [v1, v2, v3], _, e0, w2 =>
      have w3 : Wd K B σ e ((v1, d1) :: (v2, d2) :: (v3, d3) :: Γ) H := ⟨w.fit, w.pr, w2⟩
      refine ⟨a, [v1, v2, v3], rfl, .inl e0, rfl, v1, [v2, v3], rfl, v2, [v3], rfl, v3, [], rfl, rfl, ?_⟩
      have w4 := w3.asgT (i := i) fun p hh z => hp p hh (by simp [z])
      have w5 := w4.asgT (i := j) fun p hh z => hp p hh (by simp [z])
      have w6 := w5.asgT (i := m) fun p hh z => hp p hh (by simp [z])
      refine q _ w6 (fun r hr => ?_) (by rw [List.length_set, List.length_set, List.length_set])
      rw [List.getElem?_set_ne (fun z => hr (by simp [z])), List.getElem?_set_ne (fun z => hr (by simp [z])), List.getElem?_set_ne (fun z => hr (by simp [z]))]
  · cases h
theorem er_congr : ∀ {σ σ' : List (Option V)} {e : Env}, σ.length = σ'.length → (∀ (i : Nat) (d : D), e[i]? = some (some d) → σ[i]? = σ'[i]?) → er σ e = er σ' e
  | [], [], e, _, _ => rfl
  | [], _ :: _, _, h, _ => by simp at h
  | _ :: _, [], _, h, _ => by simp at h
  | a :: σ, b :: σ', [], _, _ => by cases a <;> cases b <;> rfl
  | a :: σ, b :: σ', c :: e, h, q => by
    have ih : er σ e = er σ' e := er_congr (by simpa using h) fun i d hi => by simpa using q (i + 1) d (by simpa using hi)
    cases c with
    | none => cases a <;> cases b <;> simp only [er, ih]
    | some d =>
      have z := q 0 d rfl
      simp at z
      subst z
      cases a <;> simp only [er, ih]
theorem wipe_get {σ : L2.St} : ∀ {vs : List Nat} {i : Nat}, i ∉ vs → (wipe σ vs)[i]? = σ[i]? := fun h => wipe_out h
theorem wipe_in {σ : L2.St} : ∀ {vs : List Nat} {i : Nat}, i ∈ vs → i < σ.length → (wipe σ vs)[i]? = some none
  | [], i, h, _ => nomatch h
  | v :: vs, i, h, hl => by
    rw [wipe]
    by_cases hv : v = i
    · subst hv
      rw [List.getElem?_set_self (by rw [wipe_length]; exact hl)]
    · rw [List.getElem?_set_ne hv]
      exact wipe_in (by simpa [Ne.symm hv] using h) hl
theorem wipe_eq {σ σ2 : L2.St} {vs : List Nat} (hl : σ2.length = σ.length) (h : ∀ i, i ∉ vs → σ2[i]? = σ[i]?) : wipe σ2 vs = wipe σ vs := by
  apply List.ext_getElem?
  intro i
  by_cases hi : i ∈ vs
  · by_cases hb : i < σ.length
    · rw [wipe_in hi hb, wipe_in hi (by omega)]
    · rw [List.getElem?_eq_none (by rw [wipe_length]; omega), List.getElem?_eq_none (by rw [wipe_length]; omega)]
  · rw [wipe_get hi, wipe_get hi, h i hi]
theorem wipe_wipe {σ : L2.St} {vs : List Nat} : wipe (wipe σ vs) vs = wipe σ vs := wipe_eq (by rw [wipe_length]) fun i hi => wipe_get hi
theorem kill_none : ∀ {ks : List Nat} {e : Env} {i : Nat} {d : D}, (kill ks e)[i]? = some (some d) → i ∉ ks ∧ e[i]? = some (some d)
  | [], e, i, d, h => ⟨(fun z => nomatch z), h⟩
  | k :: ks, e, i, d, h => by
    rw [kill] at h
    obtain ⟨h1, h2⟩ := kill_none h
    by_cases hk : k = i
    · subst hk
      by_cases hl : k < e.length
      · rw [List.getElem?_set_self hl] at h2; cases h2
      · rw [List.getElem?_eq_none (by rw [List.length_set]; omega)] at h2; cases h2
    · rw [List.getElem?_set_ne hk] at h2
      exact ⟨by simp [h1, Ne.symm hk], h2⟩
theorem kill_len : ∀ {ks : List Nat} {e : Env}, (kill ks e).length = e.length
  | [], e => rfl
  | k :: ks, e => by rw [kill, kill_len, List.length_set]
/-- other slots, where nothing is told of those that differ -/
theorem Wd.slots {B' : Bs} {σ σ' : L2.St} {e : Env} {Γ : List Rt} {H : Hp} (w : Wd K B σ e Γ H) (hl : σ'.length = σ.length) (h : ∀ (i : Nat) (d : D), e[i]? = some (some d) → σ'[i]? = σ[i]?) (hB : B'.H0 = B.H0 ∧ B'.F0 = B.F0 ∧ B'.S0 = B.S0) (hp : ∀ p ∈ B'.pr, σ'[p.1]? = some (some p.2)) : Wd K B' σ' e Γ H := by
  refine ⟨⟨by rw [hl]; exact w.fit.1, fun i d hi => ?_⟩, hp, ?_⟩
  · rw [h i d hi]; exact w.fit.2 i d hi
  · rw [er_congr hl h]
    obtain ⟨F, S, r, o⟩ := w.w
    obtain ⟨b1, b2, b3⟩ := hB
    exact ⟨F, S, r, ⟨o.nd, o.dj, by rw [b1, b2]; exact o.fF, by rw [b1, b2, b3]; exact o.fS, by rw [b1, b2]; exact o.kp, o.sz⟩⟩
/-- the list at the head of what is held, with one item more -/
theorem Wd.app {σ : L2.St} {e : Env} {Γ : List Rt} {H : Hp} {y : V} {dy : D} {p : Addr} {acc : List D} (w : Wd K B σ e ((y, dy) :: (.ref p, .lst true acc) :: Γ) H) : ∃ vs, H p = some (.lst vs) ∧ vs.length = acc.length ∧ (vs.length < sizeLine → Wd K B σ e ((.ref p, .lst true (acc ++ [dy])) :: Γ) (upd H p (.lst (vs ++ [y])))) := by
  obtain ⟨F, S, r, o⟩ := w.w
  cases r with
  | @cons _ _ _ _ Fy Sy _ _ ry r =>
    cases r with
    | @cons _ _ _ _ Fp Sp Fr Sr rp rr =>
      cases rp with
      | @own _ vs _ F1 S1 e0 rs =>
        refine ⟨vs, e0, rs.len, fun hz => ?_⟩
        have hk : Kept H (upd H p (.lst (vs ++ [y]))) [p] := fun b u hb hn => by rw [upd_ne (by simpa using hn)]; exact hb
        have hm : ∀ b ∈ [p], IsLst H b := fun b hb => by
          have : b = p := by simpa using hb
          rw [this]; exact ⟨_, e0⟩
        obtain ⟨m1, m2, m3⟩ := List.nodup_append.mp o.nd
        obtain ⟨m4, m5, m6⟩ := List.nodup_append.mp m2
        have pF : p ∈ Fy ++ (p :: F1 ++ Fr) := by simp
        have nS : p ∉ Sy ++ (Sp ++ Sr) := o.dj p pF
        have nFy : p ∉ Fy := fun z => m3 p z p (by simp) rfl
        have nF1 : p ∉ F1 := (List.nodup_cons.mp m4).1
        have nFr : p ∉ Fr := fun z => m6 p (by simp) p z rfl
        have ry' := ry.kept hk hm (fun a ha z => nFy (by have : a = p := by simpa using z
                                                         rw [← this]; exact ha)) (fun a ha z => nS (by have : a = p := by simpa using z
                                                                                                       rw [← this]; simp [ha]))
        have rs' := Reps.kept hk hm rs (fun a ha z => nF1 (by have : a = p := by simpa using z
                                                              rw [← this]; exact ha)) (fun a ha z => nS (by have : a = p := by simpa using z
                                                                                                            rw [← this]; simp [ha]))
        have rr' := Reps.kept hk hm rr (fun a ha z => nFr (by have : a = p := by simpa using z
                                                              rw [← this]; exact ha)) (fun a ha z => nS (by have : a = p := by simpa using z
                                                                                                            rw [← this]; simp [ha]))
        have ra := Reps.app rs' (Reps.cons ry' .nil)
        refine ⟨w.fit, w.pr, _, _, .cons (.own upd_same ra) rr', ?_⟩
        have perm : (p :: (F1 ++ (Fy ++ [])) ++ Fr).Perm (Fy ++ (p :: F1 ++ Fr)) := by
          rw [List.append_nil]
          have h1 : (p :: (F1 ++ Fy) ++ Fr) = (p :: F1) ++ (Fy ++ Fr) := by simp
          rw [h1]
          exact (List.perm_append_comm_assoc _ _ _)
        refine ⟨perm.nodup_iff.mpr o.nd, fun a ha hs => ?_, fun a ha => o.fF a (perm.mem_iff.mp ha), fun a ha => ?_, fun b u hb hn => ?_, o.sz.lst (by rw [List.length_append, List.length_singleton]; omega)⟩
        · refine o.dj a (perm.mem_iff.mp ha) ?_
          simp only [List.append_nil, List.mem_append] at hs ⊢
          rcases hs with (z | z) | z
          · exact .inr (.inl z)
          · exact .inl z
          · exact .inr (.inr z)
        · refine o.fS a ?_
          simp only [List.append_nil, List.mem_append] at ha ⊢
          rcases ha with (z | z) | z
          · exact .inr (.inl z)
          · exact .inl z
          · exact .inr (.inr z)
        · have q := o.kp b u hb hn
          refine hk b u q fun z => ?_
          have : b = p := by simpa using z
          subst this
          rcases o.fF b pF with y1 | y1
          · exact hn y1
          · rw [hb] at y1; cases y1
end
section
variable {Φ : Fs} {k : Nat} {n : Nm}
theorem relS_eq {scope : Scope} {env : PySem.Env} : relabel scope env = relS scope env.scope := rfl
theorem OkX.blk {X : Cx} {sc : Scope} (O : OkX Φ k n X sc) (s : Shared) (H : Hp) (scope : Scope) (C : Addr) (cl : List (Str × Addr)) (fp : List Addr) : OkX Φ k n (X.blk s H scope (compEnvC scope cl C X.env) fp) (relS scope sc) :=
  ⟨O.N, O.nd, by show relabel scope X.env = _; rw [relS_eq, O.sc], O.calm, rfl, O.lv, O.lv0, O.bt, O.fns⟩
theorem blk_loc {X : Cx} {sc : Scope} (O : OkX Φ k n X sc) (s : Shared) (H : Hp) (scope : Scope) (C : Addr) (cl : List (Str × Addr)) (fp : List Addr) : ∀ x, locB scope x = true → Loc (X.blk s H scope (compEnvC scope cl C X.env) fp).env.scope x ∧ ((X.blk s H scope (compEnvC scope cl C X.env) fp).fn x = true ∨ (X.blk s H scope (compEnvC scope cl C X.env) fp).env.scope.names.lookup x = some .local) := by
  intro x h
  unfold locB at h
  have e : (X.blk s H scope (compEnvC scope cl C X.env) fp).env.scope = relS scope X.env.scope := relS_eq
  rw [e]
  split at h
  · rename_i hh
    have q : (relS scope X.env.scope).names.lookup x = some .local := lookup_relS_keep (by decide) hh
    exact ⟨.inl q, .inr q⟩
  · rename_i hh
    have q : (relS scope X.env.scope).names.lookup x = some .cell := lookup_relS_keep (by decide) hh
    exact ⟨.inr q, .inl (by show (scope.names.lookup x == some .cell) = true; rw [hh]; rfl)⟩
  · cases h
theorem own_map {sc : Scope} {tg : List Nat} {g : Expr} (h : tgB n sc tg g = true) : (ownOf n tg).map (·.2) = tg := by
  unfold tgB at h
  split at h
  · simp only [Bool.and_eq_true, decide_eq_true_eq] at h
    simp [ownOf, h.1]
  · simp only [Bool.and_eq_true, decide_eq_true_eq] at h
    obtain ⟨⟨⟨h1, h2⟩, h3⟩, h4⟩ := h
    simp [ownOf, h1, h3]
  · simp only [Bool.and_eq_true, decide_eq_true_eq] at h
    obtain ⟨⟨⟨⟨⟨h1, h2⟩, h3⟩, h4⟩, h5⟩, h6⟩ := h
    simp [ownOf, h1, h3, h5]
  · cases h
/-- the parts of a comprehension's text -/
structure LcAt (n : Nm) (sc : Scope) (tg : List Nat) (it c el : T) (x g i : Expr) (fs : List Expr) (scope : Scope) : Prop where
  hi : chkI n sc it i = true
  ht : tgB n scope tg g = true
  ok : okTg it tg = true
  blk : blkC n.N sc scope (ownOf n tg) = true
  hf : (fs = [] ∧ c = .bl true) ∨ ∃ f, fs = [f] ∧ chkE n (relS scope sc) c f = true
  he : chkE n (relS scope sc) el x = true
theorem chk_lc {tg : List Nat} {it c el : T} {sc : Scope} {e : Expr} (h : chkE n sc (.lc tg it c el) e = true) : ∃ x g i fs scope pos, e = .ListComp x [⟨g, i, fs, 0⟩] scope pos ∧ LcAt n sc tg it c el x g i fs scope := by
  cases e <;> try (simp [chkE] at h; done)
  rename_i x gs scope pos
  rcases gs with _ | ⟨⟨g, i, fs, as⟩, _ | ⟨g2, r⟩⟩ <;> try (simp [chkE] at h; done)
  simp only [chkE, Bool.and_eq_true, decide_eq_true_eq] at h
  obtain ⟨⟨⟨⟨⟨⟨h1, h2⟩, h3⟩, h4⟩, h5⟩, h6⟩, h7⟩ := h
  subst h1
  refine ⟨x, g, i, fs, scope, pos, rfl, h2, h3, h4, h5, ?_, h7⟩
  split at h6
  · split at h6
    · exact .inl ⟨rfl, rfl⟩
    · cases h6
  · exact .inr ⟨_, rfl, h6⟩
  · cases h6
/-- its tests -/
def tTs (K : PySem.W.Frag) (Φ : Fs) (c : T) (fs : List Expr) : TT := match fs with
  | [] => tYes
  | _ => tT K Φ c
theorem SI_any {it : T} (s : SI Φ k n it) (sz : ∀ a b, it = .zip a b → SE Φ k n a ∧ SE Φ k n b) {X : Cx} {sc sc' : Scope} {tg : List Nat} {g e : Expr} (O : OkX Φ k n X sc) (ht : tgB n sc' tg g = true) (ok : okTg it tg = true) (h : chkI n sc it e = true) : PI X g e (tI X.K Φ it) := by
  cases it with
  | zip a b =>
    obtain ⟨sa, sb⟩ := sz a b rfl
    simp only [okTg, decide_eq_true_eq] at ok
    unfold tgB at ht
    split at ht <;> try (simp at ok; done)
    · exact SI_zip sa sb O h
    · cases ht
  | _ => exact s (fun a b z => by cases z) O h
theorem lc_imp {K : PySem.W.Frag} {tg : List Nat} {it c el : T} {fs : List Expr} (hc : fs = [] → c = .bl true) {σ : L2.St} {H : Hp} {Q : VK} (h : tD K Φ (.lc tg it c el) σ H Q) : tLc (tI K Φ it) (gOf K tg) (tTs K Φ c fs) (tD K Φ el) tg σ H Q := by
  obtain ⟨B, env, Γ, d, e', w, hd, q⟩ := h
  rw [evE] at hd
  split at hd
  · rename_i xs e1 h1
    split at hd
    · rename_i ds e2 h2
      obtain ⟨rfl, rfl⟩ := inj2 hd
      refine ⟨B, env, Γ, xs, e1, w, h1, fun J H1 hold it0 w1 D0 hD => ?_⟩
      -- the invariant
      let f := fun (x : D) (e : Env) => match bindT tg x e with
        | some e => match evE Φ c e with
          | some (.bl true, e) => match evE Φ el e with
            | some (d, e) => some (some d, kill tg e)
            | none => none
          | some (.bl false, e) => some (none, kill tg e)
          | _ => none
        | none => none
      let B' : Bs := { B with pr := [] }
      have toIt : ∀ {R H'}, W K B' H' R → W K B H' R := fun hw => by
        obtain ⟨F, S, r, o⟩ := hw
        exact ⟨F, S, r, ⟨o.nd, o.dj, o.fF, o.fS, o.kp, o.sz⟩⟩
      have ofIt : ∀ {R H'}, W K B H' R → W K B' H' R := fun hw => by
        obtain ⟨F, S, r, o⟩ := hw
        exact ⟨F, S, r, ⟨o.nd, o.dj, o.fF, o.fS, o.kp, o.sz⟩⟩
      refine ⟨fun i m H => m = xs.length - i ∧ i ≤ xs.length ∧ ∃ ei acc, Wd K B' (wipe σ tg) ei ((.ref D0, .lst true acc) :: (hold ++ Γ)) H ∧ (∀ (j : Nat) (d : D), ei[j]? = some (some d) → j ∉ tg) ∧ acc.length ≤ i ∧ xs.length ≤ sizeLine ∧ loopC f (xs.drop i) ei acc = some (ds, e2), ?_, ?_⟩
      · refine ⟨xs.length, by simp, Nat.zero_le _, kill tg e1, [], ?_, fun j d hj => (kill_none hj).1, Nat.le_refl _, ?_, h2⟩
        · have w2 : Wd K B σ (kill tg e1) (hold ++ Γ) H1 := w1.kill tg
          have w3 : Wd K B' (wipe σ tg) (kill tg e1) (hold ++ Γ) H1 := w2.slots (by rw [wipe_length]) (fun i d hi => wipe_get (kill_none hi).1) ⟨rfl, rfl, rfl⟩ fun p hp => nomatch hp
          exact w3.lstN (vs := []) (ds := []) rfl hD (Nat.zero_le _)
        · exact it0.small (R := Γ ++ er σ e1) (by have := w1.w; rwa [List.append_assoc] at this)
      · rintro i m H2 ⟨rfl, hi, ei, acc, w2, hk, hacc, hsz, hl⟩
        have wI : W K B H2 (hold ++ ((.ref D0, .lst true acc) :: (Γ ++ er (wipe σ tg) ei))) := by
          have := toIt w2.w
          refine this.perm ?_
          rw [List.cons_append, List.append_assoc]
          exact List.perm_middle.symm
        by_cases hlt : i < xs.length
        · obtain ⟨x0, hx0⟩ := get_some hlt
          have hdrop : xs.drop i = x0 :: xs.drop (i + 1) := by
            obtain ⟨hh, he⟩ := List.getElem?_eq_some_iff.mp hx0
            rw [List.drop_eq_getElem_cons hh, he]
          rw [hdrop, loopC] at hl
          refine .inr ⟨it0.go i H2 _ wI hlt, fun H' => ∃ ei acc, Wd K B' (wipe σ tg) ei ((.ref D0, .lst true acc) :: (hold ++ Γ)) H' ∧ (∀ (j : Nat) (d : D), ei[j]? = some (some d) → j ∉ tg) ∧ acc.length ≤ i + 1 ∧ loopC f (xs.drop (i + 1)) ei acc = some (ds, e2), ?_, ?_⟩
          · rintro H' ⟨ei', acc', a1, a2, a3, a4⟩
            exact ⟨xs.length - (i + 1), by omega, rfl, hlt, ei', acc', a1, a2, a3, hsz, a4⟩
          · intro x H' hy
            obtain ⟨d0, hd0, w3⟩ := it0.yld i H2 _ x H' wI hlt hy
            rw [hx0] at hd0
            cases hd0
            have w4 : Wd K B' (wipe σ tg) ei ((x, x0) :: (.ref D0, .lst true acc) :: (hold ++ Γ)) H' := by
              refine ⟨w2.fit, (fun p hp => nomatch hp), ofIt (w3.perm ?_)⟩
              refine .cons _ ?_
              show (hold ++ (V.ref D0, D.lst true acc) :: (Γ ++ er (wipe σ tg) ei)).Perm ((V.ref D0, D.lst true acc) :: ((hold ++ Γ) ++ er (wipe σ tg) ei))
              rw [List.append_assoc]
              exact List.perm_middle
            split at hl
            · rename_i d1 e3 hf
              simp only [f] at hf
              split at hf
              · rename_i e4 hb
                refine bind_ok hb w4 (fun p hp => nomatch hp) fun σ2 w5 hs hlen => ⟨?_, ?_⟩
                · exact wipe_eq (hlen.trans (wipe_length _ _)) fun i hi => (hs i hi).trans (wipe_get hi)
                split at hf
                · rename_i e5 hcc
                  split at hf
                  · rename_i d2 e6 hee
                    obtain ⟨rd, re⟩ := inj2 hf
                    cases rd
                    subst re
                    have step : ∀ H3, Wd K B' σ2 e5 ((.ref D0, .lst true acc) :: (hold ++ Γ)) H3 → (if true = true then tD K Φ el σ2 H3 fun y H4 => ∃ acc0, H4 D0 = some (.lst acc0) ∧ acc0.length < sizeLine ∧ ∃ ei acc, Wd K B' (wipe σ tg) ei ((.ref D0, .lst true acc) :: (hold ++ Γ)) (upd H4 D0 (.lst (acc0 ++ [y]))) ∧ (∀ (j : Nat) (d : D), ei[j]? = some (some d) → j ∉ tg) ∧ acc.length ≤ i + 1 ∧ loopC f (xs.drop (i + 1)) ei acc = some (ds, e2) else ∃ ei acc, Wd K B' (wipe σ tg) ei ((.ref D0, .lst true acc) :: (hold ++ Γ)) H3 ∧ (∀ (j : Nat) (d : D), ei[j]? = some (some d) → j ∉ tg) ∧ acc.length ≤ i + 1 ∧ loopC f (xs.drop (i + 1)) ei acc = some (ds, e2)) := by
                      intro H3 w6
                      rw [if_pos rfl]
                      refine ⟨B', e5, _, d1, e6, w6, hee, fun y H4 w7 => ?_⟩
                      obtain ⟨vs, ev, hl2, w8⟩ := w7.app
                      have hlt2 : vs.length < sizeLine := by omega
                      refine ⟨vs, ev, hlt2, kill tg e6, acc ++ [d1], ?_, fun j d hj => (kill_none hj).1, by simp; omega, hl⟩
                      exact ((w8 hlt2).kill tg).slots (by rw [wipe_length, hlen, wipe_length]) (fun i d hi => by
                        have h9 := (kill_none hi).1
                        rw [hs i h9]) ⟨rfl, rfl, rfl⟩ fun p hp => nomatch hp
                    unfold tTs
                    split
                    · have hcb := hc rfl
                      subst hcb
                      rw [evE] at hcc
                      obtain ⟨_, re⟩ := inj2 hcc
                      subst re
                      exact step H' w5
                    · exact ⟨B', e4, _, true, e5, w5, hcc, fun H3 w6 => step H3 w6⟩
                  · cases hf
                · rename_i e5 hcc
                  simp at hf
                · cases hf
              · cases hf
            · rename_i e3 hf
              simp only [f] at hf
              split at hf
              · rename_i e4 hb
                refine bind_ok hb w4 (fun p hp => nomatch hp) fun σ2 w5 hs hlen => ⟨?_, ?_⟩
                · exact wipe_eq (hlen.trans (wipe_length _ _)) fun i hi => (hs i hi).trans (wipe_get hi)
                split at hf
                · rename_i e5 hcc
                  split at hf
                  · simp at hf
                  · cases hf
                · rename_i e5 hcc
                  obtain ⟨_, re⟩ := inj2 hf
                  subst re
                  have fin : ∀ H3, Wd K B' σ2 e5 ((.ref D0, .lst true acc) :: (hold ++ Γ)) H3 → ∃ ei acc, Wd K B' (wipe σ tg) ei ((.ref D0, .lst true acc) :: (hold ++ Γ)) H3 ∧ (∀ (j : Nat) (d : D), ei[j]? = some (some d) → j ∉ tg) ∧ acc.length ≤ i + 1 ∧ loopC f (xs.drop (i + 1)) ei acc = some (ds, e2) := by
                    intro H3 w6
                    refine ⟨kill tg e5, acc, ?_, fun j d hj => (kill_none hj).1, by omega, hl⟩
                    exact (w6.kill tg).slots (by rw [wipe_length, hlen, wipe_length]) (fun i d hi => by
                      have h9 := (kill_none hi).1
                      rw [hs i h9]) ⟨rfl, rfl, rfl⟩ fun p hp => nomatch hp
                  unfold tTs
                  split
                  · have hcb := hc rfl
                    subst hcb
                    rw [evE] at hcc
                    have := (inj2 hcc).1
                    cases this
                  · refine ⟨B', e4, _, false, e5, w5, hcc, fun H3 w6 => ?_⟩
                    show if false = true then _ else _
                    rw [if_neg Bool.false_ne_true]
                    exact fin H3 w6
                · cases hf
              · cases hf
            · cases hl
        · have hie : i = xs.length := by omega
          subst hie
          rw [List.drop_length, loopC] at hl
          obtain ⟨rfl, rfl⟩ := inj2 hl
          refine .inl ⟨it0.stop _ H2 _ wI (Nat.le_refl _), q _ _ ?_⟩
          have w3 : Wd K B' (wipe σ tg) ei ((.ref D0, .lst true acc) :: Γ) H2 := by
            refine ⟨w2.fit, w2.pr, ?_⟩
            have := toIt w2.w
            have p2 : ((V.ref D0, D.lst true acc) :: (hold ++ Γ) ++ er (wipe σ tg) ei).Perm (hold ++ ((V.ref D0, D.lst true acc) :: (Γ ++ er (wipe σ tg) ei))) := by
              rw [List.cons_append, List.append_assoc]
              exact List.perm_middle.symm
            exact ofIt (W.dropN (this.perm p2))
          exact w3.slots (by rw [wipe_length]) (fun i d hi => (wipe_get (hk i d hi)).symm) ⟨rfl, rfl, rfl⟩ fun p hp => w.pr p hp
    · cases hd
  · cases hd
end
end Sr
set_option Elab.async false
set_option linter.all false
set_option maxRecDepth 100000
set_option maxHeartbeats 2000000
/-! # Sr: all terms; statements -/
namespace Sr
open PySem PySem.Spec PyProof.Rows L2
section
variable {Φ : Fs} {k : Nat} {n : Nm}
/-! ### a comprehension -/
structure LcParts (Φ : Fs) (k : Nat) (n : Nm) (it c el : T) : Prop where
  i : SI Φ k n it
  iz : ∀ a b, it = .zip a b → SE Φ k n a ∧ SE Φ k n b
  c : ST Φ k n c
  el : SE Φ k n el
theorem lc_ht {X : Cx} {sc scope : Scope} {c : T} {fs : List Expr} (s : ST Φ k n c) (O : OkX Φ k n X sc) (hf : (fs = [] ∧ c = .bl true) ∨ ∃ f, fs = [f] ∧ chkE n (relS scope sc) c f = true) (s0 : Shared) (H : Hp) (C : Addr) (cl : List (Str × Addr)) (fp : List Addr) :
    PTs (X.blk s0 H scope (compEnvC scope cl C X.env) fp) fs (tTs X.K Φ c fs) := by
  rcases hf with ⟨rfl, _⟩ | ⟨f, rfl, hf⟩
  · exact pts_nil
  · exact pts_one (s (O.blk s0 H scope C cl fp) hf)
theorem SE_lc {tg : List Nat} {it c el : T} (P : LcParts Φ k n it c el) : SE Φ k n (.lc tg it c el) := by
  intro X sc e O h
  obtain ⟨x, g, i, fs, scope, pos, rfl, L⟩ := chk_lc h
  have hi := SI_any P.i P.iz O L.ht L.ok L.hi
  have z := pe_lc (pos := pos) (own := ownOf n tg) (g := gOf X.K tg) (tt := tTs X.K Φ c fs) (te := tD X.K Φ el) O.calm O.nd hi (blkOk_by (by rw [O.N, O.sc]; exact L.blk)) (fun s H C cl fp => pg_ok (X := X.blk s H scope (compEnvC scope cl C X.env) fp) O.N O.nd O.calm (blk_loc O s H scope C cl fp) L.ht) (fun s H C cl fp => lc_ht P.c O L.hf s H C cl fp) (fun s H C cl fp => P.el (O.blk s H scope C cl fp) L.he) (foldS (chkI_pl L.hi))
  refine z.imp fun σ H Q q => ?_
  rw [own_map L.ht]
  exact lc_imp (fun e => by
    rcases L.hf with ⟨_, h⟩ | ⟨f, h, _⟩
    · exact h
    · rw [e] at h; cases h) q

/-! ### all terms -/
structure AllT (Φ : Fs) (k : Nat) (n : Nm) (t : T) : Prop where
  e : SE Φ k n t
  tt : ST Φ k n t
  l : SL Φ k n t
  g : SG Φ k n t
  i : SI Φ k n t
  wa : SW Φ k n .And t
  wo : SW Φ k n .Or t
  iz : ∀ a b, t = .zip a b → SE Φ k n a ∧ SE Φ k n b
theorem noSE {t : T} (h : ∀ {sc : Scope} {e : Expr}, chkE n sc t e = false) : SE Φ k n t := fun O hh => by rw [h] at hh; cases hh
theorem noST {t : T} (h : ∀ {sc : Scope} {e : Expr}, chkE n sc t e = false) : ST Φ k n t := fun O hh => by rw [h] at hh; cases hh
theorem noSL {t : T} (h : ∀ {sc : Scope} {es : List Expr}, chkL n sc t es = false) : SL Φ k n t := fun O hh => by rw [h] at hh; cases hh
theorem noSG {t : T} (h : ∀ {sc : Scope} {es : List Expr}, chkL n sc t es = false) : SG Φ k n t := fun O hh => by rw [h] at hh; cases hh
theorem noSI {t : T} (h : ∀ {sc : Scope} {e : Expr}, chkI n sc t e = false) : SI Φ k n t := fun _ O hh => by rw [h] at hh; cases hh
theorem noSW {op : BoolOp} {t : T} (h : ∀ {sc : Scope} {es : List Expr} {p : Pos}, chkE n sc t (.BoolOp op es p) = false) : SW Φ k n op t := fun O hh => by rw [h] at hh; cases hh
theorem noBool {t : T} (h : ∀ a b, t ≠ .and a b) (h2 : ∀ a b, t ≠ .or a b) (h3 : ∀ a, t ≠ .frz a) {op : BoolOp} {sc : Scope} {es : List Expr} {p : Pos} : chkE n sc t (.BoolOp op es p) = false := by
  cases t <;> first | exact absurd rfl (h _ _) | exact absurd rfl (h2 _ _) | exact absurd rfl (h3 _) | rfl | (rw [chkE]; done) | (rename_i a; cases a <;> rfl) | simp [chkE]
/-- a test that is no form of its own, by its value -/
theorem ST_pl {t : T} (s : SE Φ k n t) (h : ∀ {sc : Scope} {e : Expr}, chkE n sc t e = true → plT e = true) : ST Φ k n t := fun O hh => ST_of (s O hh) (h hh)
theorem mkAll {t : T} (e : SE Φ k n t) (tt : ST Φ k n t) (hl : ∀ {sc : Scope} {es : List Expr}, chkL n sc t es = false) (hi : ∀ {sc : Scope} {e : Expr}, chkI n sc t e = false) (wa : SW Φ k n .And t) (wo : SW Φ k n .Or t) (iz : ∀ a b, t ≠ .zip a b) : AllT Φ k n t :=
  ⟨e, tt, noSL hl, noSG hl, noSI hi, wa, wo, fun a b z => absurd z (iz a b)⟩
theorem SW_frz {op : BoolOp} {a : T} (s : SW Φ k n op a) : SW Φ k n op (.frz a) := by
  intro X sc es pos O h
  rw [chkE] at h
  refine (s O h).imp ?_
  rintro σ H Q ⟨B, env, Γ, d, e', w, hd, q⟩
  rw [evE] at hd
  split at hd
  · rename_i d0 e0 h0
    simp only [Option.some.injEq, Prod.mk.injEq] at hd
    obtain ⟨h1, h2⟩ := hd
    have z := shr_bl h1
    subst z
    subst h2
    exact ⟨B, env, Γ, _, e0, w, h0, fun H' w' => q H' w'⟩
  · cases hd
theorem rs_frozen {K : PySem.W.Frag} {H : Hp} : ∀ {σ : List (Option V)} {e : Env} {F S : List Addr}, Rs K H (er σ e) F S → ∃ S', Rs K H (er σ (e.map fun o => o.map D.shr)) [] S' ∧ ∀ a ∈ S', a ∈ F ∨ a ∈ S := by
  intro σ e F S r
  have e1 : ∀ {σ : List (Option V)} {e : Env}, er σ (e.map fun o => o.map D.shr) = (er σ e).map fun p => (p.1, p.2.shr) := by
    intro σ
    induction σ with
    | nil => intro e; cases e <;> rfl
    | cons a σ ih =>
      intro e
      cases e with
      | nil => cases a <;> rfl
      | cons b e =>
        cases a with
        | none => exact ih
        | some v =>
          cases b with
          | none => exact ih
          | some d =>
            show (v, d.shr) :: er σ (e.map fun o => o.map D.shr) = (v, d.shr) :: (er σ e).map fun p => (p.1, p.2.shr)
            rw [ih]
  obtain ⟨S', r', q⟩ := Reps.shrd r
  refine ⟨S', ?_, q⟩
  rw [e1]
  have e2 : ∀ R : List Rt, shrL (R.map (·.2)) = (R.map fun p => (p.1, p.2.shr)).map (·.2) := fun R => by
    induction R with
    | nil => rfl
    | cons a r ih => simp only [List.map_cons, shrL, ih]
  have e3 : ∀ R : List Rt, R.map (·.1) = (R.map fun p => (p.1, p.2.shr)).map (·.1) := fun R => by
    induction R with
    | nil => rfl
    | cons a r ih => simp only [List.map_cons, ih]
  show Reps K H (((er σ e).map fun p => (p.1, p.2.shr)).map (·.1)) (((er σ e).map fun p => (p.1, p.2.shr)).map (·.2)) [] S'
  rw [← e2, ← e3]
  exact r'
/-- what is lent comes back -/
theorem lend_imp {K : PySem.W.Frag} {a : T} {σ : L2.St} {H : Hp} {Q : VK} (h : tD K Φ (.lend a) σ H Q) : tD K Φ a σ H Q := by
  obtain ⟨B, e, Γ, d, e', w, hd, q⟩ := h
  rw [evE] at hd
  split at hd
  · rename_i d0 e0 h0
    split at hd
    · rename_i hns
      obtain ⟨rfl, rfl⟩ := Prod.mk.inj (Option.some.inj hd)
      have w0 : W K B H ([] ++ (Γ ++ er σ e)) := w.w
      obtain ⟨F, S, F1, S1, F2, S2, F3, S3, o, r1, r2, r3, eF, eS⟩ := w0.parts
      cases r1
      obtain ⟨Sf, rf, qf⟩ := rs_frozen r3
      subst eF eS
      have wf : Wd K ⟨H, [], Sf, B.pr⟩ σ (e.map fun o => o.map D.shr) [] H := by
        refine ⟨⟨by rw [List.length_map]; exact w.fit.1, fun i d hi => ?_⟩, w.pr, ⟨[], Sf, rf, ⟨List.nodup_nil, (fun _ z => nomatch z), (fun _ z => nomatch z), fun a z => .inr (.inl z), fun b u e _ => e, o.sz⟩⟩⟩
        rw [List.getElem?_map] at hi
        cases hq : e[i]? with
        | none => rw [hq] at hi; cases hi
        | some x =>
          cases x with
          | none => rw [hq] at hi; cases hi
          | some d' => exact w.fit.2 i d' hq
      refine ⟨_, _, [], d0, e0, wf, h0, fun v H' w' => q v H' ?_⟩
      have w1 : W K ⟨H, [], Sf, B.pr⟩ H' [(v, d0)] := by
        have w2 : W K ⟨H, [], Sf, B.pr⟩ H' ((v, d0) :: ([] ++ er σ e0)) := w'.w
        have p : ((v, d0) :: ([] ++ er σ e0)).Perm (er σ e0 ++ [(v, d0)]) := by
          simpa using (List.perm_append_comm (l₁ := [(v, d0)]) (l₂ := er σ e0))
        exact W.dropN (w2.perm p)
      have r23 : Rs K H (Γ ++ er σ e) (F2 ++ F3) (S2 ++ S3) := by
        show Reps K H _ _ _ _
        rw [List.map_append, List.map_append]
        exact Reps.app r2 r3
      have wc : W K B H' ([(v, d0)] ++ (Γ ++ er σ e)) := by
        refine W.call (Fa := []) (Sa := Sf) (pr := B.pr) o (fun a ha => by simpa using ha) (by simpa using o.nd) r23 (fun a z => by simpa using z) (fun a ha => ?_) (fun _ z => (nomatch z)) w1 (.inl fun F' S' rs => ?_)
        · rcases qf a ha with z | z
          · exact .inl (by simp [z])
          · exact .inr (by simp [z])
        · cases rs with
          | cons r0 t0 => cases t0; rw [r0.ns hns]; rfl
      exact ⟨w.fit, w.pr, wc⟩
    · cases hd
  · cases hd
theorem SE_lend {a : T} (s : SE Φ k n a) : SE Φ k n (.lend a) := by
  intro X sc e O h
  rw [chkE, Bool.and_eq_true] at h
  exact (s O h.2).imp fun σ H Q q => lend_imp q
theorem lend_pl {a : T} {sc : Scope} {e : Expr} (h : chkE n sc (.lend a) e = true) : plT e = true := by
  rw [chkE, Bool.and_eq_true] at h
  obtain ⟨h0, h⟩ := h
  cases a <;> try (cases h0; done)
  · cases e <;> first | rfl | (simp [chkE] at h; done)
  · obtain ⟨_, _, _, _, rfl, _⟩ := chk_b1 h; rfl
  · obtain ⟨_, _, _, _, _, _, rfl, _⟩ := chk_lc h; rfl
theorem pl_call {x : Str} {p pos : Pos} {es : List Expr} : plT (.Call (.Name x p) es [] pos) = true := rfl
theorem all_terms : ∀ t : T, AllT Φ k n t := by
  intro t
  induction t with
  | nil => exact ⟨noSE rfl, noST rfl, SL_nil, SG_nil, noSI rfl, noSW rfl, noSW rfl, fun a b z => by cases z⟩
  | cons a r ia ir => exact ⟨noSE rfl, noST rfl, SL_cons ia.e ir.l, SG_cons ia.e ir.g, noSI rfl, noSW rfl, noSW rfl, fun a b z => by cases z⟩
  | v i => exact mkAll (SE_v i) (ST_pl (SE_v i) fun {sc e} h => by cases e <;> first | rfl | (simp [chkE] at h; done)) rfl rfl (noSW (noBool (by simp) (by simp) (by simp))) (noSW (noBool (by simp) (by simp) (by simp))) (by simp)
  | w i => exact mkAll (SE_w i) (ST_pl (SE_w i) fun {sc e} h => by cases e <;> first | rfl | (simp [chkE] at h; done)) rfl rfl (noSW (noBool (by simp) (by simp) (by simp))) (noSW (noBool (by simp) (by simp) (by simp))) (by simp)
  | non => exact mkAll SE_non (ST_pl SE_non fun {sc e} h => by cases e <;> first | rfl | (simp [chkE] at h; done)) rfl rfl (noSW (noBool (by simp) (by simp) (by simp))) (noSW (noBool (by simp) (by simp) (by simp))) (by simp)
  | bl b => exact mkAll (SE_bl b) (ST_pl (SE_bl b) fun {sc e} h => by cases e <;> first | rfl | (simp [chkE] at h; done)) rfl rfl (noSW (noBool (by simp) (by simp) (by simp))) (noSW (noBool (by simp) (by simp) (by simp))) (by simp)
  | int i => exact mkAll (SE_int i) (ST_pl (SE_int i) fun {sc e} h => by cases e <;> first | rfl | (simp [chkE] at h; done)) rfl rfl (noSW (noBool (by simp) (by simp) (by simp))) (noSW (noBool (by simp) (by simp) (by simp))) (by simp)
  | str x => exact mkAll (SE_str x) (ST_pl (SE_str x) fun {sc e} h => by cases e <;> first | rfl | (simp [chkE] at h; done)) rfl rfl (noSW (noBool (by simp) (by simp) (by simp))) (noSW (noBool (by simp) (by simp) (by simp))) (by simp)
  | lend a ia =>
    have s : SE Φ k n (.lend a) := SE_lend ia.e
    exact mkAll s (ST_pl s fun {sc e} h => lend_pl h) rfl rfl (noSW (noBool (by simp) (by simp) (by simp))) (noSW (noBool (by simp) (by simp) (by simp))) (by simp)
  | frz a ia => exact mkAll (SE_frz ia.e) (ST_frz ia.tt) rfl rfl (SW_frz ia.wa) (SW_frz ia.wo) (by simp)
  | bin o a b ia ib => exact mkAll (SE_bin ia.e ib.e) (ST_pl (SE_bin ia.e ib.e) fun {sc e} h => by cases e <;> first | rfl | (simp [chkE] at h; done)) rfl rfl (noSW (noBool (by simp) (by simp) (by simp))) (noSW (noBool (by simp) (by simp) (by simp))) (by simp)
  | neg a ia => exact mkAll (SE_neg ia.e) (ST_pl (SE_neg ia.e) fun {sc e} h => by cases e <;> first | rfl | (simp [chkE] at h; done) | (rename_i o _ _; cases o <;> first | rfl | (simp [chkE] at h; done))) rfl rfl (noSW (noBool (by simp) (by simp) (by simp))) (noSW (noBool (by simp) (by simp) (by simp))) (by simp)
  | cmp o a b ia ib => exact mkAll (SE_cmp ia.e ib.e) (ST_cmp ia.e ib.e) rfl rfl (noSW (noBool (by simp) (by simp) (by simp))) (noSW (noBool (by simp) (by simp) (by simp))) (by simp)
  | eq a b ia ib => exact mkAll (SE_eq ia.e ib.e) (ST_eq ia.e ib.e) rfl rfl (noSW (noBool (by simp) (by simp) (by simp))) (noSW (noBool (by simp) (by simp) (by simp))) (by simp)
  | ne a b ia ib => exact mkAll (SE_ne ia.e ib.e) (ST_ne ia.e ib.e) rfl rfl (noSW (noBool (by simp) (by simp) (by simp))) (noSW (noBool (by simp) (by simp) (by simp))) (by simp)
  | isN a ia => exact mkAll (SE_isN ia.e) (ST_isN ia.e) rfl rfl (noSW (noBool (by simp) (by simp) (by simp))) (noSW (noBool (by simp) (by simp) (by simp))) (by simp)
  | nisN a ia => exact mkAll (SE_nisN ia.e) (ST_nisN ia.e) rfl rfl (noSW (noBool (by simp) (by simp) (by simp))) (noSW (noBool (by simp) (by simp) (by simp))) (by simp)
  | chain o o' a b c ia ib ic => exact mkAll (SE_chain ia.e ib.e ic.e) (ST_chain ia.e ib.e ic.e) rfl rfl (noSW (noBool (by simp) (by simp) (by simp))) (noSW (noBool (by simp) (by simp) (by simp))) (by simp)
  | and a b ia ib =>
    have sw : SW Φ k n .And (.and a b) := SW_and ia.tt ib.tt ib.wa
    exact mkAll (SE_and ia.e ib.e) (ST_and sw) rfl rfl sw (noSW rfl) (by simp)
  | or a b ia ib =>
    have sw : SW Φ k n .Or (.or a b) := SW_or ia.tt ib.tt ib.wo
    exact mkAll (SE_or ia.e ib.e) (ST_or sw) rfl rfl (noSW rfl) sw (by simp)
  | not a ia => exact mkAll (SE_not ia.e) (ST_not ia.tt) rfl rfl (noSW (noBool (by simp) (by simp) (by simp))) (noSW (noBool (by simp) (by simp) (by simp))) (by simp)
  | ife c a b ic ia ib => exact mkAll (SE_ife ic.tt ia.e ib.e) (ST_ife ic.tt ia.tt ib.tt) rfl rfl (noSW (noBool (by simp) (by simp) (by simp))) (noSW (noBool (by simp) (by simp) (by simp))) (by simp)
  | tup a ia => exact mkAll (SE_tup ia.l) (ST_pl (SE_tup ia.l) fun {sc e} h => by cases e <;> first | rfl | (simp [chkE] at h; done)) rfl rfl (noSW (noBool (by simp) (by simp) (by simp))) (noSW (noBool (by simp) (by simp) (by simp))) (by simp)
  | lst a ia => exact mkAll (SE_lst ia.l) (ST_pl (SE_lst ia.l) fun {sc e} h => by cases e <;> first | rfl | (simp [chkE] at h; done)) rfl rfl (noSW (noBool (by simp) (by simp) (by simp))) (noSW (noBool (by simp) (by simp) (by simp))) (by simp)
  | ix a b ia ib => exact mkAll (SE_ix ia.e ib.e) (ST_pl (SE_ix ia.e ib.e) fun {sc e} h => by cases e <;> first | rfl | (simp [chkE] at h; done)) rfl rfl (noSW (noBool (by simp) (by simp) (by simp))) (noSW (noBool (by simp) (by simp) (by simp))) (by simp)
  | sl a lo hi ia _ _ => exact mkAll (SE_sl ia.e) (ST_pl (SE_sl ia.e) fun {sc e} h => by cases e <;> first | rfl | (simp [chkE] at h; done)) rfl rfl (noSW (noBool (by simp) (by simp) (by simp))) (noSW (noBool (by simp) (by simp) (by simp))) (by simp)
  | call f a ia => exact mkAll (SE_call ia.g) (ST_pl (SE_call ia.g) fun {sc e} h => by cases e <;> first | rfl | (simp [chkE] at h; done)) rfl rfl (noSW (noBool (by simp) (by simp) (by simp))) (noSW (noBool (by simp) (by simp) (by simp))) (by simp)
  | b1 c a ia => exact mkAll (SE_b1 ia.e) (ST_pl (SE_b1 ia.e) fun {sc e} h => by obtain ⟨_, _, _, _, rfl, _⟩ := chk_b1 h; rfl) rfl rfl (noSW (noBool (by simp) (by simp) (by simp))) (noSW (noBool (by simp) (by simp) (by simp))) (by simp)
  | bn c a ia => exact mkAll (SE_bn ia.l) (ST_pl (SE_bn ia.l) fun {sc e} h => by cases e <;> first | rfl | (simp [chkE] at h; done)) rfl rfl (noSW (noBool (by simp) (by simp) (by simp))) (noSW (noBool (by simp) (by simp) (by simp))) (by simp)
  | inn a b ia ib => exact mkAll (SE_inn ia.e ib.e) (ST_inn ia.e ib.e) rfl rfl (noSW (noBool (by simp) (by simp) (by simp))) (noSW (noBool (by simp) (by simp) (by simp))) (by simp)
  | nin a b ia ib => exact mkAll (SE_nin ia.e ib.e) (ST_nin ia.e ib.e) rfl rfl (noSW (noBool (by simp) (by simp) (by simp))) (noSW (noBool (by simp) (by simp) (by simp))) (by simp)
  | rng1 a ia => exact ⟨noSE rfl, noST rfl, noSL rfl, noSG rfl, SI_rng1 ia.e, noSW rfl, noSW rfl, fun a b z => by cases z⟩
  | rng2 a b ia ib => exact ⟨noSE rfl, noST rfl, noSL rfl, noSG rfl, SI_rng2 ia.e ib.e, noSW rfl, noSW rfl, fun a b z => by cases z⟩
  | rng3 a b c ia ib => exact ⟨noSE rfl, noST rfl, noSL rfl, noSG rfl, SI_rng3 ia.e ib.e, noSW rfl, noSW rfl, fun a b z => by cases z⟩
  | zip a b ia ib => exact ⟨noSE rfl, noST rfl, noSL rfl, noSG rfl, fun hz => absurd rfl (hz a b), noSW rfl, noSW rfl, fun a' b' z => by cases z; exact ⟨ia.e, ib.e⟩⟩
  | itr a ia => exact ⟨noSE rfl, noST rfl, noSL rfl, noSG rfl, SI_itr ia.e, noSW rfl, noSW rfl, fun a b z => by cases z⟩
  | lc tg it c el ii ic ie =>
    have s : SE Φ k n (.lc tg it c el) := SE_lc (tg := tg) ⟨ii.i, ii.iz, ic.tt, ie.e⟩
    exact mkAll s (ST_pl s fun {sc e} h => by obtain ⟨_, _, _, _, _, _, rfl, _⟩ := chk_lc h; rfl) rfl rfl (noSW (noBool (by simp) (by simp) (by simp))) (noSW (noBool (by simp) (by simp) (by simp))) (by simp)
  | _ => exact ⟨noSE rfl, noST rfl, noSL rfl, noSG rfl, noSI rfl, noSW rfl, noSW rfl, fun a b z => by cases z⟩
end
end Sr
set_option Elab.async false
set_option linter.all false
set_option maxRecDepth 100000
set_option maxHeartbeats 2000000
/-! # Sr: places that are stored to -/
namespace Sr
open PySem PySem.Spec PyProof.Rows L2

/-- what stands at a place -/
def PlV (K : PySem.W.Frag) (H : Hp) (σ : L2.St) (e : Env) : T → V → Prop
  | .v i, u => σ[i]? = some (some u)
  | .ix a b, u => ∃ q vs kk, PlV K H σ e a (.ref q) ∧ evP b e = some (.int kk) ∧ (H q = some (.lst vs) ∨ Rd H q (.tup vs)) ∧ atI vs kk = some u
  | _, _ => False
def tPl (K : PySem.W.Frag) (p : T) : TE := fun σ H Q => ∃ B e Γ, Wd K B σ e Γ H ∧ ∃ u, PlV K H σ e p u ∧ Q u H
section
variable {Φ : Fs} {k : Nat} {n : Nm} {X : Cx} {sc : Scope}
theorem pl_ok : ∀ {p : T} {e : Expr}, OkX Φ k n X sc → isPl p = true → chkE n sc p e = true → PE X e (tPl X.K p) := by
  intro p
  induction p with
  | v i =>
    intro e O _ h
    cases e <;> try (simp [chkE] at h; done)
    rw [chkE] at h
    refine (O.name h).imp ?_
    rintro σ H Q ⟨B, env, Γ, w, u, hu, q⟩
    exact ⟨u, hu, q⟩
  | ix a b iha _ =>
    intro e O hp h
    simp only [isPl, Bool.and_eq_true] at hp
    cases e <;> try (simp [chkE] at h; done)
    simp only [chkE, Bool.and_eq_true] at h
    refine (pe_ix ix_seqV (iha O hp.1 h.1) (evP_ok O hp.2 h.2) (plainIx_pl (chk_pl h.2))).imp ?_
    rintro σ H Q ⟨B, env, Γ, w, u, ⟨q0, vs, kk, h1, h2, h3, h4⟩, q⟩
    refine ⟨B, env, Γ, w, _, h1, B, env, Γ, _, w, h2, fun v bv => ?_⟩
    rw [bv.int]
    exact ⟨q0, vs, kk, u, rfl, rfl, h3.imp SqL.of .inl, h4, q⟩
  | _ => intro e O hp h; simp [isPl] at hp
end
/-- a place within: what stands there, and how the whole is when that is changed in place -/
def Lens (K : PySem.W.Frag) (H : Hp) (σ : L2.St) (e : Env) (p : T) (f : D → Option D) (d d' : D) : Prop :=
  ∀ (v : V) (F S : List Addr), (∀ i, root p = some i → σ[i]? = some (some v)) → Rep K H v d F S → ∃ u du du' Fa F1 Fb Sa S1 Sb, F = Fa ++ (F1 ++ Fb) ∧ S = Sa ++ (S1 ++ Sb) ∧ Rep K H u du F1 S1 ∧ PlV K H σ e p u ∧ f du = some du' ∧
    ∀ (H' : Hp) (M : List Addr) (F1' S1' : List Addr), Kept H H' M → (∀ b ∈ M, IsLst H b) → (∀ a ∈ Fa ++ Fb, a ∉ M) → (∀ a ∈ Sa ++ Sb, a ∉ M) → Rep K H' u du' F1' S1' → Rep K H' v d' (Fa ++ (F1' ++ Fb)) (Sa ++ (S1' ++ Sb))
where root : T → Option Nat
  | .v i => some i
  | .ix a _ => root a
  | _ => none
section
variable {K : PySem.W.Frag} {H : Hp} {σ : L2.St}
theorem set_self {α : Type} {l : List α} {j : Nat} {x : α} (h : l[j]? = some x) : l.set j x = l := by
  apply List.ext_getElem?
  intro i
  by_cases hi : j = i
  · subst hi
    rw [List.getElem?_set_self (List.getElem?_eq_some_iff.mp h).1, h]
  · rw [List.getElem?_set_ne hi]
theorem setP_ok : ∀ {p : T} {f : D → Option D} {e e' : Env}, setP p f e = some e' → ∃ i d d', Lens.root p = some i ∧ e.at i = some d ∧ e' = e.set i (some d') ∧ Lens K H σ e p f d d' := by
  intro p
  induction p with
  | v i =>
    intro f e e' h
    rw [setP] at h
    split at h
    · rename_i d hd
      split at h
      · rename_i d' hd'
        cases h
        refine ⟨i, d, d', rfl, hd, rfl, fun v F S hv r => ⟨v, d, d', [], F, [], [], S, [], by simp, by simp, r, hv i rfl, hd', fun H' M F1' S1' _ _ _ _ r' => by simpa using r'⟩⟩
      · cases h
    · cases h
  | ix a b iha _ =>
    intro f e e' h
    rw [setP] at h
    split at h
    · rename_i kk hk
      obtain ⟨i, d, d', hr, hd, he, L⟩ := iha h
      refine ⟨i, d, d', hr, hd, he, fun v F S hv r => ?_⟩
      obtain ⟨u, du, du', Fa, F1, Fb, Sa, S1, Sb, eF, eS, r1, pl, hf, put⟩ := L v F S hv r
      unfold setAt at hf
      split at hf
      · rename_i xs
        split at hf
        · rename_i j hj
          split at hf
          · rename_i x hx
            split at hf
            · rename_i y hy
              cases hf
              cases r1 with
              | @own q vs _ F2 _ e0 rs =>
                obtain ⟨w, Fa2, F3, Fb2, Sa2, S3, Sb2, hw, r3, eF2, eS2, put2⟩ := rs.split hx
                refine ⟨w, x, y, Fa ++ (q :: Fa2), F3, Fb2 ++ Fb, Sa ++ Sa2, S3, Sb2 ++ Sb, ?_, ?_, r3, ⟨q, vs, kk, pl, hk, .inl e0, ?_⟩, hy, fun H' M F1' S1' hkp hm hF hS r' => ?_⟩
                · rw [eF, eF2]; simp
                · rw [eS, eS2]; simp
                · unfold atI; rw [rs.len, hj]; exact hw
                · have nq : q ∉ M := hF q (by simp)
                  have z := put2 H' M w y F1' S1' hkp hm (fun a ha => hF a (by rcases List.mem_append.mp ha with y | y <;> simp [y])) (fun a ha => hS a (by rcases List.mem_append.mp ha with y | y <;> simp [y])) r'
                  rw [set_self hw] at z
                  have z2 := put H' M _ _ hkp hm (fun a ha => hF a (by rcases List.mem_append.mp ha with y | y <;> simp [y])) (fun a ha => hS a (by rcases List.mem_append.mp ha with y | y <;> simp [y])) (.own (hkp q _ e0 nq) z)
                  simpa [List.append_assoc] using z2
            · cases hf
          · cases hf
        · cases hf
      · rename_i xs
        split at hf
        · rename_i j hj
          split at hf
          · rename_i x hx
            split at hf
            · rename_i y hy
              cases hf
              cases r1 with
              | @tup q vs _ _ _ e0 rs =>
                obtain ⟨w, Fa2, F3, Fb2, Sa2, S3, Sb2, hw, r3, eF2, eS2, put2⟩ := rs.split hx
                refine ⟨w, x, y, Fa ++ Fa2, F3, Fb2 ++ Fb, Sa ++ Sa2, S3, Sb2 ++ Sb, ?_, ?_, r3, ⟨q, vs, kk, pl, hk, .inr e0, ?_⟩, hy, fun H' M F1' S1' hkp hm hF hS r' => ?_⟩
                · rw [eF, eF2]; simp
                · rw [eS, eS2]; simp
                · unfold atI; rw [rs.len, hj]; exact hw
                · have z := put2 H' M w y F1' S1' hkp hm (fun a ha => hF a (by rcases List.mem_append.mp ha with y | y <;> simp [y])) (fun a ha => hS a (by rcases List.mem_append.mp ha with y | y <;> simp [y])) r'
                  rw [set_self hw] at z
                  have z2 := put H' M _ _ hkp hm (fun a ha => hF a (by rcases List.mem_append.mp ha with y | y <;> simp [y])) (fun a ha => hS a (by rcases List.mem_append.mp ha with y | y <;> simp [y])) (.tup (hkp.sqT hm e0) z)
                  simpa [List.append_assoc] using z2
            · cases hf
          · cases hf
        · cases hf
      · cases hf
    · cases h
  | _ => intro f e e' h; simp [setP] at h
/-- a list of ours at a place is changed: x, the data of xv, takes the place of the item j or comes behind -/
theorem store_ok' {B : Bs} {e e' : Env} {Γ : List Rt} {p : T} {f : D → Option D} {xv : V} {x : D} (G : List V → List V → Prop) (w : Wd K B σ e ((xv, x) :: Γ) H) (h : setP p f e = some e')
    (hf : ∀ du du' u F1 S1, f du = some du' → Rep K H u du F1 S1 → ∃ q vs ys F2 Fx0 Fy S2 Sx0 Sy vs', u = .ref q ∧ du' = .lst true ys ∧ H q = some (.lst vs) ∧ F1 = q :: (F2 ++ (Fx0 ++ Fy)) ∧ S1 = S2 ++ (Sx0 ++ Sy) ∧ G vs vs' ∧ vs'.length ≤ sizeLine ∧
      ∀ (H' : Hp) (M : List Addr) (Fx Sx : List Addr), Kept H H' M → (∀ b ∈ M, IsLst H b) → (∀ a ∈ F2 ++ Fy, a ∉ M) → (∀ a ∈ S2 ++ Sy, a ∉ M) → Rep K H' xv x Fx Sx → Reps K H' vs' ys (F2 ++ (Fx ++ Fy)) (S2 ++ (Sx ++ Sy))) :
    ∃ q vs vs', PlV K H σ e p (.ref q) ∧ H q = some (.lst vs) ∧ G vs vs' ∧ Wd K B σ e' Γ (upd H q (.lst vs')) := by
  obtain ⟨i, d, d', hr, hd, he, L⟩ := setP_ok (K := K) (H := H) (σ := σ) h
  obtain ⟨v, hv, w0⟩ := w.read hd
  obtain ⟨Ft, St, r0, o⟩ := w0
  cases r0 with
  | @cons _ _ _ _ F S FR SR rd r1 =>
    cases r1 with
    | @cons _ _ _ _ Fx Sx Fr Sr rx rr =>
      obtain ⟨u, du, du', Fa, F1, Fb, Sa, S1, Sb, eF, eS, ru, pl, hfu, put⟩ := L v F S (fun j hj => by rw [hr] at hj; cases hj; exact hv) rd
      obtain ⟨q, vs, ys, F2, Fx0, Fy, S2, Sx0, Sy, vs', eu, edu, hq, eF1, eS1, hG, hz, putx⟩ := hf du du' u F1 S1 hfu ru
      subst eu edu eF1 eS1 eF eS
      have hk : Kept H (upd H q (.lst vs')) [q] := fun b c hb hn => by rw [upd_ne (by simpa using hn)]; exact hb
      have hm : ∀ b ∈ [q], IsLst H b := fun b hb => by
        have : b = q := by simpa using hb
        rw [this]; exact ⟨_, hq⟩
      have nd := o.nd
      rw [List.nodup_iff_count] at nd
      have qF : q ∈ (Fa ++ (q :: (F2 ++ (Fx0 ++ Fy)) ++ Fb)) ++ (Fx ++ Fr) := by simp
      have nq : List.count q ((Fa ++ (q :: (F2 ++ (Fx0 ++ Fy)) ++ Fb)) ++ (Fx ++ Fr)) ≤ 1 := nd q
      simp only [List.count_append, List.count_cons_self] at nq
      have out : ∀ {l : List Addr}, List.count q l = 0 → ∀ a ∈ l, a ∉ [q] := fun {l} hc a ha hn => by
        have : a = q := by simpa using hn
        subst this
        exact absurd ha (List.count_eq_zero.mp hc)
      have outS : ∀ {l : List Addr}, (∀ a ∈ l, a ∈ (Sa ++ (S2 ++ (Sx0 ++ Sy) ++ Sb)) ++ (Sx ++ Sr)) → ∀ a ∈ l, a ∉ [q] := fun {l} hc a ha hn => by
        have : a = q := by simpa using hn
        subst this
        exact o.dj a qF (hc a ha)
      have rx' := rx.kept hk hm (out (by omega)) (outS fun a ha => by simp [ha])
      have rr' := Reps.kept hk hm rr (out (by omega)) (outS fun a ha => by simp [ha])
      have ry := putx _ [q] Fx Sx hk hm (out (by rw [List.count_append]; omega)) (outS fun a ha => by rcases List.mem_append.mp ha with y | y <;> simp [y]) rx'
      have rd' := put _ [q] _ _ hk hm (out (by rw [List.count_append]; omega)) (outS fun a ha => by rcases List.mem_append.mp ha with y | y <;> simp [y]) (.own upd_same ry)
      refine ⟨q, vs, vs', pl, hq, hG, ?_⟩
      have wn : W K B (upd H q (.lst vs')) ((v, d') :: (Γ ++ er σ (e.set i none))) := by
        refine ⟨_, _, .cons rd' rr', ?_⟩
        have sub : ∀ a, List.count a (Fa ++ (q :: (F2 ++ (Fx ++ Fy)) ++ Fb) ++ Fr) ≤ List.count a ((Fa ++ (q :: (F2 ++ (Fx0 ++ Fy)) ++ Fb)) ++ (Fx ++ Fr)) := fun a => by
          simp only [List.count_append, List.count_cons]; omega
        have mem : ∀ a, a ∈ (Fa ++ (q :: (F2 ++ (Fx ++ Fy)) ++ Fb) ++ Fr) → a ∈ ((Fa ++ (q :: (F2 ++ (Fx0 ++ Fy)) ++ Fb)) ++ (Fx ++ Fr)) := fun a ha => by
          have h1 := List.count_pos_iff.mpr ha
          exact List.count_pos_iff.mp (Nat.lt_of_lt_of_le h1 (sub a))
        have memS : ∀ a, a ∈ (Sa ++ ((S2 ++ (Sx ++ Sy)) ++ Sb) ++ Sr) → a ∈ ((Sa ++ (S2 ++ (Sx0 ++ Sy) ++ Sb)) ++ (Sx ++ Sr)) := fun a ha => by
          simp only [List.mem_append] at ha ⊢
          rcases ha with (z | (z | z | z) | z) | z <;> simp [z]
        refine ⟨List.nodup_iff_count.mpr fun a => Nat.le_trans (sub a) (nd a), fun a ha hs => o.dj a (mem a ha) (memS a hs), fun a ha => o.fF a (mem a ha), fun a ha => o.fS a (memS a ha), fun b c hb hn => ?_, o.sz.lst hz⟩
        refine hk b c (o.kp b c hb hn) fun z => ?_
        have : b = q := by simpa using z
        subst this
        rcases o.fF b qF with y1 | y1
        · exact hn y1
        · rw [hb] at y1; cases y1
      have wd : Wd K B σ (e.set i none) ((v, d') :: Γ) (upd H q (.lst vs')) := ⟨w.fit.none i, w.pr, wn⟩
      have z := wd.put2 (i := i) hv
      rw [List.set_set] at z
      rw [he]
      exact z
/-- x = the item k of the list at a place -/
theorem st_ok {B : Bs} {e e' : Env} {Γ : List Rt} {p : T} {k : Int} {xv : V} {x : D} (w : Wd K B σ e ((xv, x) :: Γ) H) (h : setP p (putD k x) e = some e') :
    ∃ q vs j, PlV K H σ e p (.ref q) ∧ H q = some (.lst vs) ∧ ixN vs.length k = some j ∧ Wd K B σ e' Γ (upd H q (.lst (vs.set j xv))) := by
  obtain ⟨q, vs, vs', h1, h2, ⟨j, hj, rfl⟩, h3⟩ := store_ok' (fun vs vs' => ∃ j, ixN vs.length k = some j ∧ vs' = vs.set j xv) w h (by
    intro du du' u F1 S1 hf r
    unfold putD at hf
    split at hf
    · rename_i xs
      split at hf
      · rename_i j hj
        cases hf
        cases r with
        | @own q vs _ F2 _ e0 rs =>
          have hlt : j < xs.length := (ixN_seq hj).2.1
          obtain ⟨w0, Fa, F3, Fb, Sa, S3, Sb, hw, r3, eF, eS, put⟩ := rs.split (List.getElem?_eq_getElem hlt)
          refine ⟨q, vs, _, Fa, F3, Fb, Sa, S3, Sb, vs.set j xv, rfl, rfl, e0, by rw [eF], eS, ⟨j, by rw [rs.len]; exact hj, rfl⟩, ?_, fun H' M Fx Sx hk hm hF hS r' => put H' M xv x Fx Sx hk hm hF hS r'⟩
          rw [List.length_set]
          obtain ⟨_, _, _, o⟩ := w.w
          exact o.sz q vs (.inl (.inl e0))
      · cases hf
    · cases hf)
  exact ⟨q, vs, j, h1, h2, hj, h3⟩
theorem app_ok {B : Bs} {e e' : Env} {Γ : List Rt} {i : Nat} {xv : V} {x : D} (w : Wd K B σ e ((xv, x) :: Γ) H) (h : setP (.v i) (appD x) e = some e') :
    ∃ q vs, σ[i]? = some (some (.ref q)) ∧ H q = some (.lst vs) ∧ vs.length < sizeLine ∧ Wd K B σ e' Γ (upd H q (.lst (vs ++ [xv]))) := by
  obtain ⟨q, vs, vs', h1, h2, ⟨hj, rfl⟩, h3⟩ := store_ok' (fun vs vs' => vs.length < sizeLine ∧ vs' = vs ++ [xv]) w h (by
    intro du du' u F1 S1 hf r
    unfold appD at hf
    split at hf
    · rename_i xs
      split at hf
      · rename_i hz
        cases hf
        cases r with
        | @own q vs _ F2 _ e0 rs =>
          have hlt : vs.length < sizeLine := by rw [rs.len]; exact Nat.lt_trans hz (by decide)
          refine ⟨q, vs, _, F2, [], [], S1, [], [], vs ++ [xv], rfl, rfl, e0, by simp, by simp, ⟨hlt, rfl⟩, ?_, fun H' M Fx Sx hk hm hF hS r' => ?_⟩
          · rw [List.length_append, List.length_singleton]; omega
          · have z := (Reps.kept hk hm rs (fun a ha => hF a (by simp [ha])) (fun a ha => hS a (by simp [ha]))).app (Reps.cons r' .nil)
            simpa using z
      · cases hf
    · cases hf)
  exact ⟨q, vs, h1, h2, hj, h3⟩
theorem PlV.same {H' : Hp} (k : Same H H') {e : Env} : ∀ {p : T} {u : V}, PlV K H σ e p u → PlV K H' σ e p u := by
  intro p
  induction p with
  | v i => intro u h; exact h
  | ix a b iha _ =>
    intro u h
    obtain ⟨q, vs, kk, h1, h2, h3, h4⟩ := h
    refine ⟨q, vs, kk, iha h1, h2, ?_, h4⟩
    rcases h3 with h3 | h3 | ⟨o, h3⟩
    · exact .inl (k _ _ h3)
    · exact .inr (.inl (k _ _ h3))
    · exact .inr (.inr ⟨o, k _ _ h3⟩)
  | _ => intro u h; cases h
theorem PlV.one {e : Env} : ∀ {p : T} {u u' : V}, PlV K H σ e p u → PlV K H σ e p u' → u = u' := by
  intro p
  induction p with
  | v i =>
    intro u u' h h'
    have h1 : σ[i]? = some (some u) := h
    have h2 : σ[i]? = some (some u') := h'
    rw [h1] at h2; cases h2; rfl
  | ix a b iha _ =>
    intro u u' h h'
    obtain ⟨q, vs, kk, h1, h2, h3, h4⟩ := h
    obtain ⟨q', vs', kk', h1', h2', h3', h4'⟩ := h'
    have eq := iha h1 h1'
    cases eq
    rw [h2] at h2'; cases h2'
    have ev : vs = vs' := by
      rcases h3 with h3 | h3 | ⟨o, h3⟩ <;> rcases h3' with h3' | h3' | ⟨o', h3'⟩ <;> (rw [h3] at h3'; cases h3'; try rfl)
    subst ev
    rw [h4] at h4'; cases h4'; rfl
  | _ => intro u u' h; cases h
/-- a list of ours that is to grow stands at the place -/
theorem place_list {B : Bs} {e e' : Env} {Γ : List Rt} {p : T} {x : D} (w : Wd K B σ e Γ H) (h : setP p (appD x) e = some e') : ∃ q vs, PlV K H σ e p (.ref q) ∧ H q = some (.lst vs) := by
  obtain ⟨i, d, d', hr, hd, he, L⟩ := setP_ok (K := K) (H := H) (σ := σ) h
  obtain ⟨v, hv, w0⟩ := w.read hd
  obtain ⟨Ft, St, r0, o⟩ := w0
  cases r0 with
  | cons rd _ =>
    obtain ⟨u, du, du', Fa, F1, Fb, Sa, S1, Sb, eF, eS, ru, pl, hfu, _⟩ := L v _ _ (fun j hj => by rw [hr] at hj; cases hj; exact hv) rd
    unfold appD at hfu
    split at hfu
    · cases ru with
      | own e0 _ => exact ⟨_, _, pl, e0⟩
    · cases hfu
theorem app_okP {B : Bs} {e e' : Env} {Γ : List Rt} {p : T} {xv : V} {x : D} (w : Wd K B σ e ((xv, x) :: Γ) H) (h : setP p (appD x) e = some e') :
    ∃ q vs, PlV K H σ e p (.ref q) ∧ H q = some (.lst vs) ∧ vs.length < sizeLine ∧ Wd K B σ e' Γ (upd H q (.lst (vs ++ [xv]))) := by
  obtain ⟨q, vs, vs', h1, h2, ⟨hj, rfl⟩, h3⟩ := store_ok' (fun vs vs' => vs.length < sizeLine ∧ vs' = vs ++ [xv]) w h (by
    intro du du' u F1 S1 hf r
    unfold appD at hf
    split at hf
    · rename_i xs
      split at hf
      · rename_i hz
        cases hf
        cases r with
        | @own q vs _ F2 _ e0 rs =>
          have hlt : vs.length < sizeLine := by rw [rs.len]; exact Nat.lt_trans hz (by decide)
          refine ⟨q, vs, _, F2, [], [], S1, [], [], vs ++ [xv], rfl, rfl, e0, by simp, by simp, ⟨hlt, rfl⟩, ?_, fun H' M Fx Sx hk hm hF hS r' => ?_⟩
          · rw [List.length_append, List.length_singleton]; omega
          · have z := (Reps.kept hk hm rs (fun a ha => hF a (by simp [ha])) (fun a ha => hS a (by simp [ha]))).app (Reps.cons r' .nil)
            simpa using z
      · cases hf
    · cases hf)
  exact ⟨q, vs, h1, h2, hj, h3⟩
end
end Sr
set_option Elab.async false
set_option linter.all false
set_option maxRecDepth 100000
set_option maxHeartbeats 2000000
/-! # Sr: statements -/
namespace Sr
open PySem PySem.Spec PyProof.Rows L2

/-- what stands where a statement ends -/
def Post (K : PySem.W.Frag) (B : Bs) (Γ : List Rt) (D : Ends) : Fl × Env → Prop
  | (.nx, e) => ∀ σ H, Wd K B σ e Γ H → D.nx σ H
  | (.rt d, e) => ∀ σ v H, Wd K B σ e ((v, d) :: Γ) H → D.rt v H
  | (.bk, e) => ∀ σ H, Wd K B σ e Γ H → D.bk σ H
  | (.ct, e) => ∀ σ H, Wd K B σ e Γ H → D.ct σ H
def tS (K : PySem.W.Frag) (Φ : Fs) (pr : List Nat) (t : T) : TS := fun D σ H => ∃ B e Γ r, (∀ p ∈ B.pr, p.1 ∈ pr) ∧ Wd K B σ e Γ H ∧ evS Φ t e = some r ∧ Post K B Γ D r

/-! ### the text of a statement -/
def isLc : Expr → Bool
  | .ListComp .. => true
  | .SetComp .. => true
  | .DictComp .. => true
  | _ => false
def isTd : Expr → Bool
  | .Tuple .. => true
  | _ => false
mutual
def chkS (n : Nm) (sc : Scope) (pr : List Nat) : T → Stmt → Bool
  | .pass, .Pass _ => true
  | .pass, .Expr (.Constant (.str _) _ _) _ => true
  | .asg i a, .Assign [.Name x _] e _ => decide (n.N[i]? = some x) && locB sc x && !pr.contains i && chkE n sc a e
  | .upk tg a, .Assign [.Tuple gs gk gp] e _ => tgB n sc tg (.Tuple gs gk gp) && tg.all (fun i => !pr.contains i) && !isLc e && !isTd e && chkE n sc a e
  | .st p i a, .Assign [.Subscript o f _] e _ => isPl p && isP i && chkE n sc p o && chkE n sc i f && chkE n sc a e
  | .app i a, .Expr (.Call (.Attribute (.Name x _) m apos) [e] [] cpos) _ => decide (m = ("append" : Str)) && (apos.endLine == cpos.line) && nameB n sc i x && chkE n sc a e
  | .apq p a, .Expr (.Call (.Attribute o m apos) [e] [] cpos) _ => decide (m = ("append" : Str)) && (apos.endLine == cpos.line) && isPl p && chkE n sc p o && chkE n sc a e
  | .ex a, .Expr e _ => !isLc e && chkE n sc a e
  | .cond c a b, .If g p q _ => chkE n sc c g && chkB n sc pr a p && chkB n sc pr b q
  | .whl ks c b, .While g p [] _ => chkE n sc c g && chkB n sc pr b p
  | .for_ tg ks it b, .For g i p [] _ => chkI n sc it i && tgB n sc tg g && okTg it tg && tg.all (fun i => !pr.contains i) && chkB n sc pr b p
  | .ret a, .Return (some e) _ => chkE n sc a e
  | .ret .non, .Return none _ => true
  | .brk, .Break _ => true
  | .cnt, .Continue _ => true
  | .rse, .Raise .. => true
  | _, _ => false
def chkB (n : Nm) (sc : Scope) (pr : List Nat) : T → List Stmt → Bool
  | .pass, [] => true
  | .seq a r, s :: ss => chkS n sc pr a s && chkB n sc pr r ss
  | _, _ => false
end

section
variable {Φ : Fs} {k : Nat} {n : Nm} {pr : List Nat} {X : Cx} {sc : Scope} {K : PySem.W.Frag} {B : Bs} {Γ Γ' : List Rt} {σ : L2.St} {e : Env} {H : Hp}
theorem OkX.loc (O : OkX Φ k n X sc) {x : Str} (h : locB sc x = true) : Loc X.env.scope x := by
  rw [O.sc]
  unfold locB at h
  split at h
  · exact .inl (by assumption)
  · exact .inr (by assumption)
  · cases h
theorem OkX.own (O : OkX Φ k n X sc) : PassesOwn (model X.prog X.w) X.A X.env X.xe := by
  rw [O.xe]; exact PassesOwn.never
theorem Wd.permG (w : Wd K B σ e Γ H) (p : Γ.Perm Γ') : Wd K B σ e Γ' H := ⟨w.fit, w.pr, w.w.perm (p.append_right _)⟩
theorem Wd.unhold {hold : List Rt} (w : Wd K B σ e (hold ++ Γ) H) : Wd K B σ e Γ H := ⟨w.fit, w.pr, W.dropN (by have := w.w; rwa [List.append_assoc] at this)⟩
/-- an assignment of a value to a name -/
theorem S_asg {i : Nat} {a : T} (hi : i ∉ pr) : ∀ D σ H, tS K Φ pr (.asg i a) D σ H → tAsg (tD K Φ a) (gName i) D σ H := by
  rintro D σ H ⟨B, e, Γ, r, hp, w, h, q⟩
  rw [evS] at h
  split at h
  · rename_i d e1 h1
    cases h
    refine ⟨B, e, Γ, d, e1, w, h1, fun v H' w' => ?_⟩
    exact q _ _ (w'.asgT fun p hpp z => hi (z ▸ hp p hpp))
  · cases h
/-- name = value -/
def SAs (Φ : Fs) (k : Nat) (n : Nm) (pr : List Nat) (a : T) : Prop := ∀ {i : Nat} {x : Str} {p pos : Pos} {X : Cx} {sc : Scope} {e : Expr}, (∀ x, X.fn x = true) → i ∉ pr → n.N[i]? = some x → locB sc x = true → OkX Φ k n X sc → chkE n sc a e = true → PS X (.Assign [.Name x p] e pos) (tS X.K Φ pr (.asg i a))
theorem sw_no {e : Expr} {t : Option Expr} {l : Nat} {env : PySem.Env} (h : isLc e = false) : swapsWith e t l env = pure false := by
  cases e <;> first | rfl | cases h
theorem SAs_pl {a : T} (s : SE Φ k n a) (h : ∀ {sc : Scope} {e : Expr}, chkE n sc a e = true → isLc e = false) : SAs Φ k n pr a := by
  intro i x p pos X sc e hf hi hN hl O hc
  exact (ps_set O.nd (by rw [O.N]; exact hN) (O.loc hl) (s O hc) (sw_no (h hc)) (.inl (hf x))).imp (S_asg hi)
theorem SAs_frz {a : T} (s : SAs Φ k n pr a) : SAs Φ k n pr (.frz a) := by
  intro i x p pos X sc e hf hi hN hl O hc
  rw [chkE] at hc
  refine (s hf hi hN hl O hc).imp ?_
  rintro D σ H ⟨B, e, Γ, r, hp, w, h, q⟩
  rw [evS] at h
  split at h
  · rename_i d e1 h1
    cases h
    rw [evE] at h1
    split at h1
    · rename_i d0 e0 h0
      obtain ⟨rfl, rfl⟩ := inj2 h1
      refine ⟨B, e, Γ, (.nx, e0.set i (some d0)), hp, w, by rw [evS, h0], fun σ' H' w' => q σ' H' ?_⟩
      by_cases hl : i < e0.length
      · have hat : Sr.Env.at (e0.set i (some d0)) i = some d0 := at_iff.mpr (List.getElem?_set_self hl)
        obtain ⟨v, hv, _⟩ := w'.read hat
        have m := (w'.move hat hv).shr.put2 (i := i) hv
        rw [List.set_set, List.set_set] at m
        exact m
      · rw [set_ge (by omega)] at w' ⊢; exact w'
    · cases h1
  · cases h
theorem SAs_lc' {tg : List Nat} {it c el : T} (P : LcParts Φ k n it c el) {i : Nat} {y : Str} {p spos : Pos} {X : Cx} {sc : Scope} {e : Expr} (hf : ∀ x, X.fn x = true) (hN : n.N[i]? = some y) (hl : locB sc y = true) (O : OkX Φ k n X sc) (h : chkE n sc (.lc tg it c el) e = true) : PS X (.Assign [.Name y p] e spos) (tAsg (tD X.K Φ (.lc tg it c el)) (gName i)) := by
  have h0 := h
  obtain ⟨x, g, j, fs, scope, pos, rfl, L⟩ := chk_lc h
  have sw : swapsWith (.ListComp x [⟨g, j, fs, 0⟩] scope pos) (some (.Name y p)) spos.line X.env = pure (X.env.blockKind == .function && X.env.kindOf y == some .local && p.line == pos.line && !(scope.names.any fun (n, k) => n == y && (k == .local || k == .cell))) := rfl
  cases hc : (X.env.blockKind == .function && X.env.kindOf y == some .local && p.line == pos.line && !(scope.names.any fun (n, k) => n == y && (k == .local || k == .cell))) with
  | false =>
    rw [hc] at sw
    exact (ps_set O.nd (by rw [O.N]; exact hN) (O.loc hl) (SE_lc P O h0) sw (.inl (hf y)))
  | true =>
    rw [hc] at sw
    have hyl : X.env.scope.names.lookup y = some .local := by
      simp only [Bool.and_eq_true, beq_iff_eq] at hc
      exact hc.1.1.2
    have hi' := SI_any P.i P.iz O L.ht L.ok L.hi
    have z := ps_setLc (pos := pos) (spos := spos) (py := p) (i := i) (own := ownOf n tg) (g := gOf X.K tg) (tt := tTs X.K Φ c fs) (te := tD X.K Φ el) O.calm O.nd (by rw [O.N]; exact hN) hyl sw hi' (blkOk_by (by rw [O.N, O.sc]; exact L.blk)) (fun s H C cl fp => pg_ok (X := X.blk s H scope (compEnvC scope cl C X.env) fp) O.N O.nd O.calm (blk_loc O s H scope C cl fp) L.ht) (fun s H C cl fp => lc_ht P.c O L.hf s H C cl fp) (fun s H C cl fp => P.el (O.blk s H scope C cl fp) L.he) (foldS (chkI_pl L.hi))
    refine z.imp fun D σ H q => ?_
    rw [own_map L.ht]
    exact lc_imp (fun e => by
      rcases L.hf with ⟨_, h⟩ | ⟨f, h, _⟩
      · exact h
      · rw [e] at h; cases h) q
theorem SAs_lc {tg : List Nat} {it c el : T} (P : LcParts Φ k n it c el) : SAs Φ k n pr (.lc tg it c el) := by
  intro i y p spos X sc e hf hi hN hl O h
  exact (SAs_lc' P hf hN hl O h).imp (S_asg hi)
theorem SAs_lend {a : T} : SAs Φ k n pr (.lend a) := by
  intro i y p spos X sc e hf hi hN hl O h
  have h0 := h
  rw [chkE, Bool.and_eq_true] at h
  obtain ⟨ho, h⟩ := h
  cases a with
  | lc tg it c el => exact (SAs_lc' ⟨(all_terms it).i, (all_terms it).iz, (all_terms c).tt, (all_terms el).e⟩ hf hN hl O h).imp fun D σ H q => lend_imp (S_asg hi D σ H q)
  | call f a => exact SAs_pl (all_terms _).e (fun {sc e} h => by cases e <;> first | rfl | (simp [chkE] at h; done)) hf hi hN hl O h0
  | b1 c a => exact SAs_pl (all_terms _).e (fun {sc e} h => by cases e <;> first | rfl | (simp [chkE] at h; done)) hf hi hN hl O h0
  | _ => cases ho
theorem noLc {a : T} (h : ∀ {sc : Scope} {x gs s p}, chkE n sc a (.ListComp x gs s p) = false) (h1 : ∀ {sc : Scope} {x gs s p}, chkE n sc a (.SetComp x gs s p) = false) (h2 : ∀ {sc : Scope} {x y gs s p}, chkE n sc a (.DictComp x y gs s p) = false) {sc : Scope} {e : Expr} (hc : chkE n sc a e = true) : isLc e = false := by
  cases e <;> first | rfl | (rw [h] at hc; cases hc) | (rw [h1] at hc; cases hc) | (rw [h2] at hc; cases hc)
theorem all_asg : ∀ a : T, SAs Φ k n pr a := by
  intro a
  induction a with
  | frz a ih => exact SAs_frz ih
  | lend a ih => exact SAs_lend
  | lc tg it c el _ _ _ => exact SAs_lc ⟨(all_terms it).i, (all_terms it).iz, (all_terms c).tt, (all_terms el).e⟩
  | _ => exact SAs_pl (all_terms _).e (noLc (by intros; rfl) (by intros; rfl) (by intros; rfl))
end
end Sr
set_option Elab.async false
set_option linter.all false
set_option maxRecDepth 100000
set_option maxHeartbeats 2000000
/-! # Sr: statements, loops -/
namespace Sr
open PySem PySem.Spec PyProof.Rows L2
section
variable (Φ : Fs) (k : Nat) (n : Nm) (pr : List Nat)
structure OkS (X : Cx) (sc : Scope) : Prop where
  x : OkX Φ k n X sc
  fn : ∀ x, X.fn x = true
def SS (t : T) : Prop := ∀ {X : Cx} {sc : Scope} {st : Stmt}, OkS Φ k n X sc → chkS n sc pr t st = true → PS X st (tS X.K Φ pr t)
def SB (t : T) : Prop := ∀ {X : Cx} {sc : Scope} {sts : List Stmt}, OkS Φ k n X sc → chkB n sc pr t sts = true → PSs X sts (tS X.K Φ pr t)
end
section
variable {Φ : Fs} {k : Nat} {n : Nm} {pr : List Nat} {X : Cx} {sc : Scope} {K : PySem.W.Frag} {B : Bs} {Γ Γ' : List Rt} {σ : L2.St} {e : Env} {H : Hp}
theorem SS_pass : SS Φ k n pr .pass := by
  intro X sc st O h
  have i : ∀ D σ H, tS X.K Φ pr .pass D σ H → tNext D σ H := by
    rintro D σ H ⟨B, e, Γ, r, hp, w, h, q⟩
    rw [evS] at h
    cases h
    exact q σ H w
  unfold chkS at h
  split at h <;> first | exact ps_pass.imp i | exact ps_doc.imp i | simp_all
theorem SB_pass : SB Φ k n pr .pass := by
  intro X sc sts O h
  cases sts with
  | nil =>
    refine pss_nil.imp ?_
    rintro D σ H ⟨B, e, Γ, r, hp, w, h, q⟩
    rw [evS] at h
    cases h
    exact q σ H w
  | cons _ _ => simp [chkB] at h
theorem SB_seq {a r : T} (sa : SS Φ k n pr a) (sr : SB Φ k n pr r) : SB Φ k n pr (.seq a r) := by
  intro X sc sts O h
  cases sts with
  | nil => simp [chkB] at h
  | cons s ss =>
    simp only [chkB, Bool.and_eq_true] at h
    refine (pss_cons (sa O h.1) (sr O h.2)).imp ?_
    rintro D σ H ⟨B, e, Γ, r, hp, w, h, q⟩
    rw [evS] at h
    split at h
    · rename_i e1 h1
      exact ⟨B, e, Γ, _, hp, w, h1, fun σ' H' w' => ⟨B, e1, Γ, r, hp, w', h, q⟩⟩
    · rename_i r1 hn h1
      cases h
      refine ⟨B, e, Γ, _, hp, w, h1, ?_⟩
      obtain ⟨f, e1⟩ := r
      cases f with
      | nx => exact absurd rfl (hn e1)
      | rt d => exact q
      | bk => exact q
      | ct => exact q
    · cases h
theorem SS_asg {i : Nat} {a : T} : SS Φ k n pr (.asg i a) := by
  intro X sc st O h
  unfold chkS at h
  split at h <;> try (simp_all; done)
  all_goals (rename_i heq; cases heq)
  simp only [Bool.and_eq_true, decide_eq_true_eq, Bool.not_eq_true', List.contains_eq_mem, decide_eq_false_iff_not] at h
  obtain ⟨⟨⟨h1, h2⟩, h3⟩, h4⟩ := h
  exact all_asg a O.fn h3 h1 h2 O.x h4
theorem ssw_no {e : Expr} {t : Expr} {l : Nat} {env : PySem.Env} (h : isLc e = false) : swapsWithSole [t] e l env = pure false := sw_no h
theorem stores_no {e : Expr} {g : Expr} {env : PySem.Env} (h : isTd e = false) : swappedStores [g] e env = pure none := by
  cases e <;> first | (cases g <;> rfl) | cases h
theorem SS_upk {tg : List Nat} {a : T} : SS Φ k n pr (.upk tg a) := by
  intro X sc st O h
  unfold chkS at h
  split at h <;> try (simp_all; done)
  all_goals (rename_i heq; cases heq)
  simp only [Bool.and_eq_true, Bool.not_eq_true', List.contains_eq_mem, decide_eq_false_iff_not, List.all_eq_true] at h
  obtain ⟨⟨⟨⟨h1, h2⟩, h3⟩, h4⟩, h5⟩ := h
  refine (ps_asg ((all_terms a).e O.x h5) (pg_ok O.x.N O.x.nd O.x.calm (fun x hx => ⟨O.x.loc hx, .inl (O.fn x)⟩) h1) (ssw_no h3) (stores_no h4)).imp ?_
  rintro D σ H ⟨B, e, Γ, r, hp, w, h, q⟩
  rw [evS] at h
  split at h
  · rename_i d e1 h1
    split at h
    · rename_i e2 h2'
      cases h
      refine ⟨B, e, Γ, d, e1, w, h1, fun v H' w' => ?_⟩
      exact bind_ok h2' w' (fun p hpp z => h2 _ z (hp p hpp)) fun σ' w2 _ _ => q σ' H' w2
    · cases h
  · cases h
theorem SS_st {p i a : T} : SS Φ k n pr (.st p i a) := by
  intro X sc st O h
  unfold chkS at h
  split at h <;> try (simp_all; done)
  all_goals (rename_i heq; cases heq)
  simp only [Bool.and_eq_true] at h
  obtain ⟨⟨⟨⟨h1, h2⟩, h3⟩, h4⟩, h5⟩ := h
  rename_i o f sp e0 pos
  have hsw : swapsWithSole [.Subscript o f sp] e0 pos.line X.env = pure false := by cases e0 <;> rfl
  have hst : swappedStores [.Subscript o f sp] e0 X.env = pure none := by cases e0 <;> rfl
  refine (ps_asg ((all_terms a).e O.x h5) (pg_sub (pl_ok O.x h1 h3) (evP_ok O.x h2 h4) set_list (by have := chk_pl h4; cases f <;> first | (intro _; rfl) | cases this)) hsw hst).imp ?_
  rintro D σ H ⟨B, e, Γ, r, hp, w, h, q⟩
  rw [evS] at h
  split at h
  · rename_i x e1 hx
    rw [if_pos (by rw [h1, h2]; rfl)] at h
    split at h
    · rename_i kk hk
      split at h
      · rename_i e2 h2'
        cases h
        refine ⟨B, e, Γ, x, e1, w, hx, fun v H' w' => ?_⟩
        obtain ⟨qa, vs, j, g1, g2, g3, g4⟩ := st_ok w' h2'
        refine ⟨B, e1, _, w', _, g1, B, e1, _, _, w', hk, fun u bu => ?_⟩
        rw [bu.int]
        exact ⟨qa, vs, kk, j, rfl, rfl, g2, g3, q _ _ g4⟩
      · cases h
    · cases h
  · cases h
theorem SS_app {i : Nat} {a : T} : SS Φ k n pr (.app i a) := by
  intro X sc st O h
  unfold chkS at h
  split at h <;> try (simp_all; done)
  all_goals (rename_i heq; cases heq)
  simp only [Bool.and_eq_true, decide_eq_true_eq] at h
  obtain ⟨⟨⟨h1, h2⟩, h3⟩, h4⟩ := h
  subst h1
  rename_i x xp apos e0 cpos pos
  have pe := pe_bm (cpos := cpos) (apos := apos) (name := "append") PySem.F.plainAttrs_list PySem.F.slot_list_append PySem.F.type_list_append (mt_append (X := X)) (O.x.name (pos := xp) h3) (pa_cons ((all_terms a).e O.x h4) pa_nil (star_pl (chk_pl h4))) rfl (by
      rw [star_pl (chk_pl h4)]; rfl) h2 (star_pl (chk_pl h4)) rfl
  refine (ps_expr pe rfl).imp ?_
  rintro D σ H ⟨B, e, Γ, r, hp, w, h, q⟩
  rw [evS] at h
  split at h
  · rename_i ow xs hat
    split at h
    · rename_i y e1 h1
      split at h
      · rename_i e2 h2'
        cases h
        obtain ⟨v, hv, w0⟩ := w.read hat
        refine ⟨v, hv, ?_, B, e, Γ, y, e1, w, h1, fun u H' w' => ?_⟩
        · obtain ⟨F, S, r0, _⟩ := w0
          cases r0 with
          | cons r1 _ =>
            obtain ⟨p, vs, _, _, rfl, hsq, _⟩ := Rep.items r1 rfl
            cases r1 with
            | own e0 _ => exact .inl ⟨rfl, _, SqL.of e0⟩
            | mod e0 _ => exact .inl ⟨rfl, _, .inr e0⟩
            | shr e0 _ => exact .inl ⟨rfl, _, .inl e0⟩
        · obtain ⟨qa, vs, g1, g2, g3, g4⟩ := app_ok w' h2'
          rw [hv] at g1
          cases g1
          exact ⟨qa, vs, u, rfl, rfl, g2, g3, q _ _ g4⟩
      · cases h
    · cases h
  · cases h
/-- what is only read, or new -/
def tQ (K : PySem.W.Frag) (t : T) : TE := fun σ H Q => ∃ B e Γ d, Wd K B σ e Γ H ∧ evQ t e = some d ∧ ∀ v H', Same H H' → Wd K B σ e ((v, d) :: Γ) H' → Q v H'
def tQl (K : PySem.W.Frag) (t : T) : TA := fun σ H Q => ∃ B e Γ ds, Wd K B σ e Γ H ∧ evQl t e = some ds ∧ ∀ vs, vs.length = ds.length → Wd K B σ e (vs.zip ds ++ Γ) H → Q vs H
theorem ql_ok : ∀ {t : T} {es : List Expr}, OkX Φ k n X sc → isQl t = true → chkL n sc t es = true → PA X es (tQl X.K t) := by
  intro t
  induction t with
  | nil =>
    intro es O _ h
    cases es with
    | nil =>
      refine pa_nil.imp ?_
      rintro σ H Q ⟨B, e, Γ, ds, w, h, q⟩
      rw [evQl] at h
      · cases h
        exact q [] rfl w
      · intro a r z; cases z
    | cons _ _ => simp [chkL] at h
  | cons a r _ ihr =>
    intro es O hq h
    simp only [isQl, Bool.and_eq_true] at hq
    cases es with
    | nil => simp [chkL] at h
    | cons x xs =>
      simp only [chkL, Bool.and_eq_true] at h
      refine (pa_cons (evP_ok O hq.1 h.1) (ihr O hq.2 h.2) (star_pl (chk_pl h.1))).imp ?_
      rintro σ H Q ⟨B, e, Γ, ds, w, hd, q⟩
      rw [evQl] at hd
      split at hd
      · rename_i d ds0 h1 h2
        split at hd
        · rename_i hu
          cases hd
          refine ⟨B, e, Γ, d, w, h1, fun v bv => ?_⟩
          have w1 : Wd X.K B σ e ((v, d) :: Γ) H := ⟨w.fit, w.pr, bv.un hu⟩
          refine ⟨B, e, (v, d) :: Γ, ds0, w1, h2, fun vs hl w2 => q (v :: vs) (by simp [hl]) ?_⟩
          exact w2.permG List.perm_middle
        · cases hd
      · cases hd
  | _ => intro es O hq; simp [isQl] at hq
theorem q_ok {t : T} {e : Expr} (O : OkX Φ k n X sc) (hq : isQ t = true) (h : chkE n sc t e = true) : PE X e (tQ X.K t) := by
  have plain : isP t = true → (∀ a, t ≠ .tup a) → (∀ a, t ≠ .lst a) → PE X e (tQ X.K t) := fun p n1 n2 => by
    refine (evP_ok O p h).imp ?_
    rintro σ H Q ⟨B, e, Γ, d, w, hd, q⟩
    have z : evQ t e = match evP t e with
      | some d => if d.un then some d else none
      | none => none := by
      cases t <;> first | rfl | exact absurd rfl (n1 _) | exact absurd rfl (n2 _)
    rw [z] at hd
    split at hd
    · rename_i d0 h1
      split at hd
      · rename_i hu
        cases hd
        exact ⟨B, e, Γ, d, w, h1, fun v bv => q v H (Same.refl H) ⟨w.fit, w.pr, bv.un hu⟩⟩
      · cases hd
    · cases hd
  cases t with
  | tup a =>
    cases e <;> try (simp [chkE] at h; done)
    rw [chkE] at h
    refine (pe_tup (ql_ok O hq h)).imp ?_
    rintro σ H Q ⟨B, e, Γ, d, w, hd, q⟩
    rw [evQ] at hd
    split at hd
    · rename_i ds h1
      split at hd
      · rename_i hb
        cases hd
        refine ⟨B, e, Γ, ds, w, h1, fun vs hl w1 => ⟨by have := big_le; omega, fun p hp => q _ _ (Same.new hp) ⟨w.fit, w.pr, ?_⟩⟩⟩
        have := w1.w
        rw [List.append_assoc] at this
        exact W.tupV this hl hp (by have := big_le; omega)
      · cases hd
    · cases hd
  | lst a =>
    cases e <;> try (simp [chkE] at h; done)
    rw [chkE] at h
    refine (pe_lst (ql_ok O hq h)).imp ?_
    rintro σ H Q ⟨B, e, Γ, d, w, hd, q⟩
    rw [evQ] at hd
    split at hd
    · rename_i ds h1
      split at hd
      · rename_i hb
        cases hd
        refine ⟨B, e, Γ, ds, w, h1, fun vs hl w1 => ⟨by have := big_le; omega, fun p hp => q _ _ (Same.new hp) ⟨w.fit, w.pr, ?_⟩⟩⟩
        have := w1.w
        rw [List.append_assoc] at this
        exact W.lstV this hl hp (by have := big_le; omega)
      · cases hd
    · cases hd
  | _ => exact plain hq (by intro a z; cases z) (by intro a z; cases z)
theorem SS_apq {p a : T} : SS Φ k n pr (.apq p a) := by
  intro X sc st O h
  unfold chkS at h
  split at h <;> try (simp_all; done)
  all_goals (rename_i heq; cases heq)
  simp only [Bool.and_eq_true, decide_eq_true_eq] at h
  obtain ⟨⟨⟨⟨h1, h2⟩, h3⟩, h4⟩, h5⟩ := h
  subst h1
  rename_i o apos e0 cpos pos
  by_cases hq : isQ a = true
  · have hbase : attributeBase o "append" X.env (eval o X.env) = eval o X.env := by
      cases p <;> try (simp [isPl] at h3; done)
      · cases o <;> first | rfl | (simp [chkE] at h4; done)
      · cases o <;> first | rfl | (simp [chkE] at h4; done)
    have pe := pe_bm (cpos := cpos) (apos := apos) (name := "append") PySem.F.plainAttrs_list PySem.F.slot_list_append PySem.F.type_list_append (mt_append (X := X)) (pl_ok O.x h3 h4) (pa_cons (q_ok O.x hq h5) pa_nil (star_pl (chk_pl h5))) hbase (by
        rw [star_pl (chk_pl h5)]; rfl) h2 (star_pl (chk_pl h5)) rfl
    refine (ps_expr pe rfl).imp ?_
    rintro D σ H ⟨B, e, Γ, r, hp, w, h, q⟩
    rw [evS, if_pos (by rw [h3, hq]; rfl)] at h
    split at h
    · rename_i y h1
      split at h
      · rename_i e2 h2'
        cases h
        obtain ⟨qa, vs, g1, g2⟩ := place_list w h2'
        refine ⟨B, e, Γ, w, _, g1, .inl ⟨rfl, _, SqL.of g2⟩, B, e, Γ, y, w, h1, fun u H' sm w' => ?_⟩
        obtain ⟨qb, vs', k1, k2, k3, k4⟩ := app_okP w' h2'
        have := PlV.one (g1.same sm) k1
        cases this
        exact ⟨qa, vs', u, rfl, rfl, k2, k3, q _ _ k4⟩
      · cases h
    · cases h
  · refine ps_never.imp ?_
    rintro D σ H ⟨B, e, Γ, r, hp, w, h, q⟩
    rw [evS, if_neg (by rw [h3]; simpa using hq)] at h
    cases h
theorem SS_ex {a : T} : SS Φ k n pr (.ex a) := by
  intro X sc st O h
  unfold chkS at h
  split at h <;> try (simp_all; done)
  all_goals (rename_i heq; cases heq)
  simp only [Bool.and_eq_true, Bool.not_eq_true'] at h
  refine (ps_expr ((all_terms a).e O.x h.2) (sw_no h.1)).imp ?_
  rintro D σ H ⟨B, e, Γ, r, hp, w, h, q⟩
  rw [evS] at h
  split at h
  · rename_i d e1 h1
    cases h
    exact ⟨B, e, Γ, d, e1, w, h1, fun v H' w' => q σ H' w'.drop⟩
  · cases h
theorem SS_cond {c a b : T} (sa : SB Φ k n pr a) (sb : SB Φ k n pr b) : SS Φ k n pr (.cond c a b) := by
  intro X sc st O h
  unfold chkS at h
  split at h <;> try (simp_all; done)
  all_goals (rename_i heq; cases heq)
  simp only [Bool.and_eq_true] at h
  refine (ps_if ((all_terms c).tt O.x h.1.1) (sa O h.1.2) (sb O h.2)).imp ?_
  rintro D σ H ⟨B, e, Γ, r, hp, w, h, q⟩
  rw [evS] at h
  split at h
  · rename_i cb e1 h1
    refine ⟨B, e, Γ, cb, e1, w, h1, fun H' w' => ?_⟩
    cases cb with
    | true => rw [if_pos rfl] at h ⊢; exact ⟨B, e1, Γ, r, hp, w', h, q⟩
    | false => rw [if_neg Bool.false_ne_true] at h ⊢; exact ⟨B, e1, Γ, r, hp, w', h, q⟩
  · cases h
theorem SS_ret {a : T} : SS Φ k n pr (.ret a) := by
  intro X sc st O h
  unfold chkS at h
  split at h <;> try (simp_all; done)
  · rename_i heq
    cases heq
    refine (ps_ret ((all_terms a).e O.x h)).imp ?_
    rintro D σ H ⟨B, e, Γ, r, hp, w, h, q⟩
    rw [evS] at h
    split at h
    · rename_i d e1 h1
      cases h
      exact ⟨B, e, Γ, d, e1, w, h1, fun v H' w' => q σ v H' w'⟩
    · cases h
  · rename_i heq
    cases heq
    refine ps_retN.imp ?_
    rintro D σ H ⟨B, e, Γ, r, hp, w, h, q⟩
    rw [evS, evE] at h
    cases h
    exact q σ .non H ⟨w.fit, w.pr, w.w.add .non⟩
theorem SS_brk : SS Φ k n pr .brk := by
  intro X sc st O h
  unfold chkS at h
  split at h <;> try (simp_all; done)
  refine ps_break.imp ?_
  rintro D σ H ⟨B, e, Γ, r, hp, w, h, q⟩
  rw [evS] at h
  cases h
  exact q σ H w
theorem SS_cnt : SS Φ k n pr .cnt := by
  intro X sc st O h
  unfold chkS at h
  split at h <;> try (simp_all; done)
  refine ps_continue.imp ?_
  rintro D σ H ⟨B, e, Γ, r, hp, w, h, q⟩
  rw [evS] at h
  cases h
  exact q σ H w
theorem SS_rse : SS Φ k n pr .rse := by
  intro X sc st O h
  refine ps_never.imp ?_
  rintro D σ H ⟨B, e, Γ, r, hp, w, h, q⟩
  have z : evS Φ .rse e = none := rfl
  rw [z] at h
  cases h
theorem SS_whl {ks : List Nat} {c b : T} (sb : SB Φ k n pr b) : SS Φ k n pr (.whl ks c b) := by
  intro X sc st O h
  unfold chkS at h
  split at h <;> try (simp_all; done)
  all_goals (rename_i heq; cases heq)
  simp only [Bool.and_eq_true] at h
  refine (ps_while O.x.own ((all_terms c).tt O.x h.1) (sb O h.2)).imp ?_
  rintro D σ H ⟨B, e, Γ, r, hp, w, h, q⟩
  rw [evS] at h
  obtain ⟨m, hm⟩ := of_whD h
  refine ⟨fun m σ H => ∃ e, Wd X.K B σ e Γ H ∧ whN ks (evE Φ c) (evS Φ b) m e = some r, ⟨m, e, w, hm⟩, ?_⟩
  rintro m σ H ⟨e, w, h⟩
  cases m with
  | zero => simp [whN] at h
  | succ m =>
    rw [whN_succ] at h
    split at h
    · rename_i e1 h1
      refine ⟨B, e, Γ, true, e1, w, h1, fun H1 w1 => ?_⟩
      refine iteT ?_
      refine ⟨fun σ H => ∃ e, Wd X.K B σ e Γ H ∧ whN ks (evE Φ c) (evS Φ b) m e = some r, fun σ' H' hN => ⟨m, Nat.lt_succ_self m, hN⟩, ?_⟩
      rcases hb : evS Φ b e1 with _ | ⟨f, e2⟩
      · rw [hb] at h; cases h
      · rw [hb] at h
        refine ⟨B, e1, Γ, (f, e2), hp, w1, hb, ?_⟩
        cases f with
        | nx => exact fun σ H w2 => ⟨kill ks e2, w2.kill ks, h⟩
        | ct => exact fun σ H w2 => ⟨kill ks e2, w2.kill ks, h⟩
        | bk =>
          cases h
          exact fun σ H w2 => q σ H (w2.kill ks)
        | rt d =>
          cases h
          exact q
    · rename_i e1 h1
      cases h
      refine ⟨B, e, Γ, false, e1, w, h1, fun H1 w1 => ?_⟩
      refine iteF ?_
      exact q σ H1 (w1.kill ks)
    · cases h
theorem SS_for {tg ks : List Nat} {it b : T} (sb : SB Φ k n pr b) : SS Φ k n pr (.for_ tg ks it b) := by
  intro X sc st O h
  unfold chkS at h
  split at h <;> try (simp_all; done)
  all_goals (rename_i heq; cases heq)
  simp only [Bool.and_eq_true, Bool.not_eq_true', List.contains_eq_mem, decide_eq_false_iff_not, List.all_eq_true] at h
  obtain ⟨⟨⟨⟨h1, h2⟩, h3⟩, h4⟩, h5⟩ := h
  refine (ps_for O.x.own O.x.calm (SI_any (all_terms it).i (all_terms it).iz O.x h2 h3 h1) (pg_ok O.x.N O.x.nd O.x.calm (fun x hx => ⟨O.x.loc hx, .inl (O.fn x)⟩) h2) (sb O h5) (foldS (chkI_pl h1))).imp ?_
  rintro D σ H ⟨B, e, Γ, r, hp, w, h, q⟩
  rw [evS] at h
  split at h
  · rename_i xs e1 hxs
    refine ⟨B, e, Γ, xs, e1, w, hxs, fun J H1 hold it0 w1 => ?_⟩
    let f := fun (x : Sr.D) (e : Env) => match bindT tg x e with
      | some e => evS Φ b e
      | none => none
    have h : loopF ks f xs e1 = some r := h
    refine ⟨fun i m σ H => m = xs.length - i ∧ i ≤ xs.length ∧ ∃ ei, Wd X.K B σ ei (hold ++ Γ) H ∧ loopF ks f (xs.drop i) ei = some r, ⟨xs.length, by simp, Nat.zero_le _, e1, w1, h⟩, ?_⟩
    rintro i m σ2 H2 ⟨rfl, hi, ei, w2, hl⟩
    have wI : W X.K B H2 (hold ++ (Γ ++ er σ2 ei)) := by have := w2.w; rwa [List.append_assoc] at this
    by_cases hlt : i < xs.length
    · obtain ⟨x0, hx0⟩ := get_some hlt
      have hdrop : xs.drop i = x0 :: xs.drop (i + 1) := by
        obtain ⟨hh, he⟩ := List.getElem?_eq_some_iff.mp hx0
        rw [List.drop_eq_getElem_cons hh, he]
      rw [hdrop, loopF] at hl
      refine .inr ⟨it0.go i H2 _ wI hlt, fun σ H => ∃ ei, Wd X.K B σ ei (hold ++ Γ) H ∧ loopF ks f (xs.drop (i + 1)) ei = some r, ?_, ?_⟩
      · rintro σ' H' ⟨ei', a1, a2⟩
        exact ⟨xs.length - (i + 1), by omega, rfl, hlt, ei', a1, a2⟩
      · intro x H' hy
        obtain ⟨d0, hd0, w3⟩ := it0.yld i H2 _ x H' wI hlt hy
        rw [hx0] at hd0
        cases hd0
        have w4 : Wd X.K B σ2 ei ((x, x0) :: (hold ++ Γ)) H' := by
          refine ⟨w2.fit, w2.pr, ?_⟩
          have e0 : ((x, x0) :: (hold ++ Γ) ++ er σ2 ei) = (x, x0) :: (hold ++ (Γ ++ er σ2 ei)) := by simp
          rw [e0]
          exact w3
        cases hb : bindT tg x0 ei with
        | none => simp only [f, hb] at hl; cases hl
        | some e3 =>
          refine bind_ok hb w4 (fun p hpp z => h4 _ z (hp p hpp)) fun σ3 w5 _ _ => ?_
          rcases hv : evS Φ b e3 with _ | ⟨fl, e4⟩
          · simp only [f, hb, hv] at hl; cases hl
          · simp only [f, hb, hv] at hl
            refine ⟨B, e3, hold ++ Γ, (fl, e4), hp, w5, hv, ?_⟩
            cases fl with
            | nx => exact fun σ H w6 => ⟨kill ks e4, w6.kill ks, hl⟩
            | ct => exact fun σ H w6 => ⟨kill ks e4, w6.kill ks, hl⟩
            | bk =>
              cases hl
              exact fun σ H w6 => q σ H (w6.kill ks).unhold
            | rt d =>
              cases hl
              exact fun σ v H w6 => q σ v H (Wd.unhold (hold := hold) (w6.permG List.perm_middle.symm))
    · have hie : i = xs.length := by omega
      subst hie
      rw [List.drop_length, loopF] at hl
      cases hl
      exact .inl ⟨it0.stop _ H2 _ wI (Nat.le_refl _), q σ2 H2 (w2.kill ks).unhold⟩
  · cases h
structure AllS (Φ : Fs) (k : Nat) (n : Nm) (pr : List Nat) (t : T) : Prop where
  s : SS Φ k n pr t
  b : SB Φ k n pr t
theorem noSS {t : T} (h : ∀ {sc : Scope} {st : Stmt}, chkS n sc pr t st = false) : SS Φ k n pr t := fun O hh => by rw [h] at hh; cases hh
theorem noSB {t : T} (h : ∀ {sc : Scope} {st : List Stmt}, chkB n sc pr t st = false) : SB Φ k n pr t := fun O hh => by rw [h] at hh; cases hh
theorem all_stmts : ∀ t : T, AllS Φ k n pr t := by
  intro t
  induction t with
  | pass => exact ⟨SS_pass, SB_pass⟩
  | seq a r ia ir => exact ⟨noSS rfl, SB_seq ia.s ir.b⟩
  | asg i a _ => exact ⟨SS_asg, noSB rfl⟩
  | upk tg a _ => exact ⟨SS_upk, noSB rfl⟩
  | st p i a _ _ _ => exact ⟨SS_st, noSB rfl⟩
  | app i a _ => exact ⟨SS_app, noSB rfl⟩
  | apq p a _ _ => exact ⟨SS_apq, noSB rfl⟩
  | ex a _ => exact ⟨SS_ex, noSB rfl⟩
  | cond c a b _ ia ib => exact ⟨SS_cond ia.b ib.b, noSB rfl⟩
  | whl ks c b _ ib => exact ⟨SS_whl ib.b, noSB rfl⟩
  | for_ tg ks it b _ ib => exact ⟨SS_for ib.b, noSB rfl⟩
  | ret a _ => exact ⟨SS_ret, noSB rfl⟩
  | brk => exact ⟨SS_brk, noSB rfl⟩
  | cnt => exact ⟨SS_cnt, noSB rfl⟩
  | rse => exact ⟨SS_rse, noSB rfl⟩
  | _ => exact ⟨noSS rfl, noSB rfl⟩
end
end Sr
set_option Elab.async false
set_option linter.all false
set_option maxRecDepth 100000
set_option maxHeartbeats 2000000
/-! # Sr: defs, the law's end -/
namespace Sr
open PySem PySem.Spec PyProof.Rows L2

def prI : List Bool → Nat → List Nat
  | [], _ => []
  | b :: r, i => if b then i :: prI r (i + 1) else prI r (i + 1)
def prV : List Bool → List V → Nat → List (Nat × V)
  | b :: r, v :: vs, i => if b then (i, v) :: prV r vs (i + 1) else prV r vs (i + 1)
  | _, _, _ => []
theorem prV_I : ∀ {io : List Bool} {vs : List V} {i : Nat} {p : Nat × V}, p ∈ prV io vs i → p.1 ∈ prI io i
  | [], _, _, _, h => by simp [prV] at h
  | _ :: _, [], _, _, h => by simp [prV] at h
  | b :: io, v :: vs, i, p, h => by
    unfold prV at h
    unfold prI
    cases b with
    | true =>
      simp only [if_true] at h ⊢
      rcases List.mem_cons.mp h with rfl | h
      · exact List.mem_cons_self
      · exact List.mem_cons_of_mem _ (prV_I h)
    | false =>
      simp only [Bool.false_eq_true, if_false] at h ⊢
      exact prV_I h
theorem prV_at : ∀ {io : List Bool} {vs : List V} {i : Nat} {p : Nat × V}, p ∈ prV io vs i → i ≤ p.1 ∧ vs[p.1 - i]? = some p.2
  | [], _, _, _, h => by simp [prV] at h
  | _ :: _, [], _, _, h => by simp [prV] at h
  | b :: io, v :: vs, i, p, h => by
    unfold prV at h
    have rc : p ∈ prV io vs (i + 1) → i ≤ p.1 ∧ (v :: vs)[p.1 - i]? = some p.2 := fun h => by
      obtain ⟨h1, h2⟩ := prV_at h
      refine ⟨by omega, ?_⟩
      have e : p.1 - i = (p.1 - (i + 1)) + 1 := by omega
      rw [e]; simpa using h2
    cases b with
    | true =>
      simp only [if_true] at h
      rcases List.mem_cons.mp h with rfl | h
      · exact ⟨Nat.le_refl _, by simp⟩
      · exact rc h
    | false =>
      simp only [Bool.false_eq_true, if_false] at h
      exact rc h
theorem prV_mem : ∀ {io : List Bool} {vs : List V} {i j : Nat} {v : V}, io[j]? = some true → vs[j]? = some v → (i + j, v) ∈ prV io vs i
  | [], _, _, _, _, h, _ => by simp at h
  | _ :: _, [], _, _, _, _, h => by simp at h
  | b :: io, u :: vs, i, 0, v, h1, h2 => by
    simp at h1 h2; subst h1; subst h2
    unfold prV
    simp
  | b :: io, u :: vs, i, j + 1, v, h1, h2 => by
    have ih := prV_mem (i := i + 1) (io := io) (vs := vs) (j := j) (by simpa using h1) (by simpa using h2)
    have e : i + (j + 1) = i + 1 + j := by omega
    unfold prV
    rw [e]
    cases b with
    | true => exact List.mem_cons_of_mem _ ih
    | false => exact ih
theorem er_start : ∀ {vs : List V} {ds : List D} {m m' : Nat}, vs.length = ds.length → er (vs.map some ++ List.replicate m none) (ds.map some ++ List.replicate m' none) = vs.zip ds
  | [], [], 0, _, _ => by cases ‹Nat› <;> rfl
  | [], [], m + 1, 0, _ => rfl
  | [], [], m + 1, m' + 1, _ => by
    have := er_start (vs := []) (ds := []) (m := m) (m' := m') rfl
    simpa [List.replicate_succ, er] using this
  | [], _ :: _, _, _, h => by simp at h
  | _ :: _, [], _, _, h => by simp at h
  | v :: vs, d :: ds, m, m', h => by
    have := er_start (vs := vs) (ds := ds) (m := m) (m' := m') (by simpa using h)
    simp only [List.map_cons, List.cons_append, er, List.zip_cons_cons, this]
theorem W.sub {K : PySem.W.Frag} {B : Bs} {H : Hp} {R R' : List Rt} (s : R'.Sublist R) (w : W K B H R) : W K B H R' := by
  have key : ∀ {R R' : List Rt}, R'.Sublist R → ∀ {X : List Rt}, W K B H (X ++ R) → W K B H (X ++ R') := by
    intro R R' s
    induction s with
    | slnil => exact fun w => w
    | cons a _ ih => exact fun {X} w => ih (W.drop (w.perm List.perm_middle))
    | @cons_cons l1 l2 a _ ih =>
      intro X w
      have := ih (X := X ++ [a]) (by simpa using w)
      simpa using this
  simpa using key s (X := []) (by simpa using w)
theorem er_outs : ∀ {io : List Bool} {vs : List V} {σ : List (Option V)} {e : Env}, (∀ (j : Nat) (v : V), io[j]? = some true → vs[j]? = some v → σ[j]? = some (some v)) → (er (vs.map some) (outs io e)).Sublist (er σ e)
  | [], vs, σ, e, _ => by
    have : er (vs.map some) (outs [] e) = [] := by cases vs <;> rfl
    rw [this]; exact List.nil_sublist _
  | b :: io, [], σ, e, _ => by
    have : er (([] : List V).map some) (outs (b :: io) e) = [] := rfl
    rw [this]; exact List.nil_sublist _
  | b :: io, v :: vs, σ, e, h => by
    have ih : (er (vs.map some) (outs io e.tail)).Sublist (er σ.tail e.tail) := er_outs fun j u h1 h2 => by
      have := h (j + 1) u (by simpa using h1) (by simpa using h2)
      cases σ with
      | nil => simp at this
      | cons a σ => simpa using this
    have step : (er σ.tail e.tail).Sublist (er σ e) := by
      cases σ with
      | nil => cases e <;> exact .refl _
      | cons a σ =>
        cases e with
        | nil =>
          have e0 : er σ ([] : Env) = [] := by cases σ with
            | nil => rfl
            | cons a _ => cases a <;> rfl
          show (er σ ([] : Env)).Sublist _
          rw [e0]; exact List.nil_sublist _
        | cons c e =>
          cases a <;> cases c <;> first | exact .refl _ | exact List.sublist_cons_self _ _
    have plain : (er (some v :: vs.map some) (none :: outs io e.tail)).Sublist (er σ e) := ih.trans step
    cases b with
    | false => exact plain
    | true =>
      have h0 := h 0 v rfl rfl
      cases σ with
      | nil => simp at h0
      | cons a σ =>
        simp at h0; subst h0
        cases e with
        | nil => exact plain
        | cons c e =>
          cases c with
          | none => exact plain
          | some d => exact ih.cons_cons _

section
variable {P : Program} {w : World} {K : PySem.W.Frag} {mg : Str → Option Value} {base : Heap}
/-- the promise of one def -/
def spDf (K : PySem.W.Frag) (Φ : Fs) (d : Df) : Sp := fun vs H Q _ => ∃ (ds : List D) (r : D) (os : List (Option D)) (F S : List Addr),
  vs.length = d.io.length ∧ Reps K H vs ds F S ∧ Okk ⟨H, F, S, []⟩ H F S ∧ runDf Φ d ds = some (r, os) ∧
  ∀ v H', W K ⟨H, F, S, []⟩ H' ((v, r) :: er (vs.map some) os) → Q v H'
/-- what the text of a def is to be -/
structure DefT (n : Nm) (d : Df) (ps : List Str) (st : Stmt) : Prop where
  S : FnScope n.N ps (defScope st)
  hc : chkB n (defScope st) (prI d.io 0) d.body (defBody st) = true
  hl : d.io.length = ps.length
  hn : d.names = n.N.length
/-- the functions that may be called -/
def FnsOk (P : Program) (w : World) (K : PySem.W.Frag) (mg : Str → Option Value) (base : Heap) (Φ : Fs) (k : Nat) (fn : Nat → Str) (nf : Nat → Bool) : Prop :=
  ∀ f, nf f = true → ∃ A fd ps, mg (fn f) = some (.ref A) ∧ PySem.W.keepIn K (.ref A) = true ∧ Binds K fd ps [] ∧ FnOk P w K mg base CX0 k A fd ps (spOf K Φ f)
variable {Φ : Fs} {k : Nat} {n : Nm} {d : Df} {ps : List Str} {st : Stmt} {x qual : Str} {A : Addr} {fd : FuncData}
theorem body_ok (T : DefT n d ps st) (bt : ∀ x ∈ bltNames, mg x = none) (fns : FnsOk P w K mg base Φ k n.fn n.nf) {cdv : Value} {Ar : Around} {outer : List PySem.Env} {s : Shared} {H : Hp} {E : XK} (hr : Room k (Ar.deeper (envOfC qual (defScope st) s.heap.objs.size A cdv))) :
    PSs (cxOf CX0 P w K mg base n.N qual (defScope st) A cdv Ar outer s H E).nox (defBody st) (tS K Φ (prI d.io 0) d.body) :=
  (all_stmts d.body).b (X := (cxOf CX0 P w K mg base n.N qual (defScope st) A cdv Ar outer s H E).nox) (sc := defScope st) ⟨⟨rfl, T.S.nd, rfl, rfl, rfl, hr, hr.mono (Nat.zero_le _), bt, fns⟩, fun _ => rfl⟩ T.hc
theorem Okk.re {B B' : Bs} {H : Hp} {F S : List Addr} (o : Okk B H F S) (h : B'.H0 = B.H0 ∧ B'.F0 = B.F0 ∧ B'.S0 = B.S0) : Okk B' H F S := by
  obtain ⟨b1, b2, b3⟩ := h
  exact ⟨o.nd, o.dj, by rw [b1, b2]; exact o.fF, by rw [b1, b2, b3]; exact o.fS, by rw [b1, b2]; exact o.kp, o.sz⟩
/-- where a def's body begins -/
theorem wd_start {vs : List V} {ds : List D} {H : Hp} {F S : List Addr} {N : List Str} {io : List Bool} (hl : vs.length = io.length) (hN : io.length ≤ N.length) (r : Reps K H vs ds F S) (o : Okk ⟨H, F, S, []⟩ H F S) :
    Wd K ⟨H, F, S, prV io vs 0⟩ (L2.start N vs) (ds.map some ++ List.replicate (N.length - ds.length) none) [] H := by
  have l := r.len
  refine ⟨⟨?_, fun i d h => ?_⟩, fun p hp => ?_, F, S, ?_, o.re ⟨rfl, rfl, rfl⟩⟩
  · unfold L2.start
    rw [List.length_append, List.length_append, List.length_map, List.length_map, List.length_replicate, List.length_replicate, l]
  · by_cases hi : i < ds.length
    · refine ⟨vs[i]'(by omega), ?_⟩
      unfold L2.start
      rw [List.getElem?_append_left (by rw [List.length_map]; omega), List.getElem?_map, List.getElem?_eq_getElem (by omega)]; rfl
    · rw [List.getElem?_append_right (by rw [List.length_map]; omega), List.getElem?_replicate] at h
      split at h <;> cases h
  · obtain ⟨_, h2⟩ := prV_at hp
    simp only [Nat.sub_zero] at h2
    obtain ⟨hh, _⟩ := List.getElem?_eq_some_iff.mp h2
    unfold L2.start
    rw [List.getElem?_append_left (by rw [List.length_map]; exact hh), List.getElem?_map, h2]; rfl
  · show Reps K H _ _ _ _
    unfold L2.start
    rw [List.nil_append, er_start l, List.map_fst_zip (Nat.le_of_eq l), List.map_snd_zip (Nat.le_of_eq l.symm)]
    exact r
theorem runDf_some {ds : List D} {r : D} {os : List (Option D)} (h : runDf Φ d ds = some (r, os)) : ds.length = d.io.length ∧ ∃ f e, evS Φ d.body (ds.map some ++ List.replicate (d.names - ds.length) none) = some (f, e) ∧ (f = .rt r ∨ (f = .nx ∧ r = .non)) ∧ os = outs d.io e := by
  unfold runDf at h
  split at h
  · rename_i hl
    split at h
    · rename_i r' e he
      obtain ⟨rfl, rfl⟩ := inj2 h
      exact ⟨hl, _, _, he, .inl rfl, rfl⟩
    · rename_i e he
      obtain ⟨rfl, rfl⟩ := inj2 h
      exact ⟨hl, _, _, he, .inr ⟨rfl, rfl⟩, rfl⟩
    · cases h
  · cases h
theorem N_le (T : DefT n d ps st) : d.io.length ≤ n.N.length := by
  have := congrArg List.length T.S.pre
  rw [List.length_take] at this
  rw [T.hl]; omega
theorem fn_ok (F : Fun K x qual st A fd) (T : DefT n d ps st) (bt : ∀ x ∈ bltNames, mg x = none) (fns : FnsOk P w K mg base Φ k n.fn n.nf) : FnOk P w K mg base CX0 (k + 1) A fd ps (spDf K Φ d) := by
  refine F.ok T.S (fun vs H Q E h => ?_) (fun cdv Ar outer s H vs Q E hr h => ⟨_, body_ok T bt fns hr, ?_⟩)
  · obtain ⟨_, _, _, _, _, h, _⟩ := h
    rw [h, T.hl]
  · obtain ⟨ds, r, os, F, S, hl, rr, o, hrun, q⟩ := h
    obtain ⟨_, f, e, he, hf, hos⟩ := runDf_some hrun
    have w0 := wd_start (N := n.N) hl (N_le T) rr o
    rw [T.hn] at he
    refine ⟨_, _, _, _, fun p hp => prV_I hp, w0, he, ?_⟩
    have fin : ∀ σ v H', Wd K ⟨H, F, S, prV d.io vs 0⟩ σ e [(v, r)] H' → Q v H' := fun σ v H' w1 => by
      refine q v H' ?_
      have s1 : ((v, r) :: er (vs.map some) os).Sublist ([(v, r)] ++ er σ e) := by
        rw [hos]
        exact (er_outs fun j u h1 h2 => by
          have := w1.pr _ (prV_mem (i := 0) h1 h2)
          simpa using this).cons_cons _
      obtain ⟨F1, S1, r1, o1⟩ := w1.w.sub s1
      exact ⟨F1, S1, r1, o1.re ⟨rfl, rfl, rfl⟩⟩
    rcases hf with rfl | ⟨rfl, rfl⟩
    · exact fin
    · exact fun σ H' w1 => fin σ .non H' ⟨w1.fit, w1.pr, w1.w.add .non⟩

/-- all functions, by levels -/
structure FnAt (K : PySem.W.Frag) (mg : Str → Option Value) (fn : Nat → Str) (nf : Nat → Bool) (d : Df) (x : Str) : Prop where
  ex : ∃ N ps st A fd qual, DefT ⟨N, fn, nf⟩ d ps st ∧ Fun K x qual st A fd ∧ mg x = some (.ref A) ∧ Binds K fd ps []
theorem all_fns {Pd : Nat → Df} {fn : Nat → Str} {nf : Nat → Bool} (bt : ∀ x ∈ bltNames, mg x = none) (h : ∀ f, nf f = true → FnAt K mg fn nf (Pd f) (fn f)) : ∀ k, FnsOk P w K mg base (fnsN Pd k) k fn nf
  | 0 => fun f hf => by
    obtain ⟨N, ps, st, A, fd, qual, T, F, hm, hb⟩ := (h f hf).ex
    have no : ∀ vs H Q E, ¬ spOf K (fnsN Pd 0) f vs H Q E := fun vs H Q E h => by
      obtain ⟨_, _, _, _, _, _, _, _, h, _⟩ := h
      cases h
    exact ⟨A, fd, ps, hm, F.kp, hb, fun vs H Q E h => absurd h (no vs H Q E), fun A outer s H args us vs Q E _ _ _ _ h => absurd h (no vs H Q E)⟩
  | k + 1 => fun f hf => by
    obtain ⟨N, ps, st, A, fd, qual, T, F, hm, hb⟩ := (h f hf).ex
    have g := fn_ok (P := P) (w := w) (base := base) F T bt (all_fns bt h k)
    exact ⟨A, fd, ps, hm, F.kp, hb, g⟩

/-! ### the law's own def -/
def spLaw (K : PySem.W.Frag) : Sp := fun vs H Q _ => ∃ (a : Addr) (ns : List Int), vs = [.ref a] ∧ ns.length ≤ 63 ∧ (∀ z ∈ ns, Builtin.Int.intBits z ≤ 1048576) ∧ Only H ∧ SqL K H a (ns.map V.int) ∧ ∀ H', Q (.bl true) H'
theorem reps_ints {H : Hp} : ∀ ns : List Int, Reps K H (ns.map V.int) (ns.map D.int) [] []
  | [] => .nil
  | i :: ns => .cons (F := []) (S := []) (F' := []) (S' := []) (.int i) (reps_ints ns)
theorem ps_szOk {X : Cx} {sts : List Stmt} {t : TS} (h : PSs X sts t) : PSs X sts fun D σ H => SzOk H → t D σ H := ⟨fun pins s σ H D I q => h.run pins s σ H D I (q fun a xs z => by
  rcases z with z | z
  · obtain ⟨z, _⟩ := z.ok I.hok
    exact z
  · obtain ⟨z, _⟩ := z.ok I.hok
    exact z)⟩
theorem law_ok (F : Fun K x qual st A fd) (T : DefT n d ps st) (hio : d.io = [false]) (bt : ∀ x ∈ bltNames, mg x = none) (fns : FnsOk P w K mg base Φ k n.fn n.nf)
    (hrun : ∀ ns : List Int, ns.length ≤ 63 → (∀ z ∈ ns, Builtin.Int.intBits z ≤ 1048576) → ∃ os, runDf Φ d [.lst false (ns.map D.int)] = some (.bl true, os)) : FnOk P w K mg base CX0 (k + 1) A fd ps (spLaw K) := by
  refine F.ok T.S (fun vs H Q E h => ?_) (fun cdv Ar outer s H vs Q E hr h => ⟨_, ps_szOk (body_ok T bt fns hr), fun sz => ?_⟩)
  · obtain ⟨_, _, rfl, _⟩ := h
    rw [← T.hl, hio]; rfl
  · obtain ⟨a, ns, rfl, h63, hb, hO, hS, q⟩ := h
    obtain ⟨os, hrun⟩ := hrun ns h63 hb
    obtain ⟨_, f, e, he, hf, hos⟩ := runDf_some hrun
    have rr : ∃ S, Reps K H [V.ref a] [.lst false (ns.map D.int)] [] S ∧ ∀ b ∈ S, b = a := by
      rcases hS with hS | hS
      · exact ⟨[a], .cons (S' := []) (.shr hS (reps_ints ns)) .nil, fun b hb => by simpa using hb⟩
      · exact ⟨[], .cons (S' := []) (.mod hS (reps_ints ns)) .nil, fun b hb => nomatch hb⟩
    obtain ⟨S, rr, _⟩ := rr
    have o : Okk ⟨H, [], S, []⟩ H [] S := ⟨List.nodup_nil, (fun _ z => nomatch z), (fun _ z => nomatch z), fun b hb => .inr (.inl hb), fun b o e _ => e, sz⟩
    have w0 := wd_start (N := n.N) (io := d.io) (by rw [hio]; rfl) (N_le T) rr o
    rw [T.hn] at he
    refine ⟨_, _, _, _, fun p hp => prV_I hp, w0, he, ?_⟩
    rcases hf with rfl | ⟨_, z⟩
    · intro σ v H' w1
      have := w1.headBl
      subst this
      exact q H'
    · cases z
end
/-- the law's end -/
theorem walk {l : PySem.W.OpenLaw} {q : Program} {loose : List Str} {XP : (Str → Option Value) → Heap → Prop} {YP : World → Heap → Prop} {d : DefRec} {K : Params → PySem.W.Frag} {k : Nat} {x : Str} (hk : k ≤ 220) (hn : l.most = some 63) (hdf : d.params.defaults = [])
    (hY : ∀ (w : World) (h : Heap), YP w h → (K w.params).In h)
    (F : ∀ (w : World) (mg : Str → Option Value) (fa : Addr) (h : Heap), (K w.params).In h → h.Ns mainGlobals mg → mg d.name = some (.ref fa) →
      ∃ fd : FuncData, (∀ (s : Shared) (u : Value), BindsTo s fd ⟨[u], []⟩ [(x, u)]) ∧ ∀ base : Heap, (K w.params).In base → base.Ns mainGlobals mg → FnOk l.prog w (K w.params) mg base CX0 k fa fd [x] (spLaw (K w.params))) :
    PySem.W.WalkO q loose XP YP l.row.toRowW d [] (fun f vs => PySem.call f vs) :=
  L2.walk_ofB (n := 63) (k := k) (x := x) (CX := fun _ => CX0) (sp := fun w => spLaw (K w.params)) hn (by decide) hdf (Room.mono (k := 220) ⟨rfl, by decide, by decide⟩ hk) hY F (fun _ _ a ns hl hb hO hS => ⟨a, ns, rfl, hl, hb, hO, hS, fun _ => rfl⟩) fun _ _ _ _ _ z => z
end Sr
set_option Elab.async false
set_option linter.all false
set_option maxRecDepth 100000
/-! # Sr: how a term is computed, by rules of rewriting -/
namespace Sr
open PySem PySem.Spec PyProof.Rows L2

/-- what comes next is not looked at before its turn -/
structure Tg {β : Type} (q : β) : Type where
def sat {α : Type} (o : Option (α × Env)) (Q : α → Env → Prop) (_ : Tg Q := ⟨⟩) : Prop := ∃ a e, o = some (a, e) ∧ Q a e
def opt {α : Type} (o : Option α) (Q : α → Prop) (_ : Tg Q := ⟨⟩) : Prop := ∃ a, o = some a ∧ Q a
def runs (o : Option (D × List (Option D))) (Q : D → List (Option D) → Prop) (_ : Tg Q := ⟨⟩) : Prop := ∃ r os, o = some (r, os) ∧ Q r os
@[simp] theorem runs_some {r : D} {os : List (Option D)} {Q : D → List (Option D) → Prop} : runs (some (r, os)) Q ↔ Q r os := ⟨fun ⟨_, _, h, q⟩ => (by cases h; exact q), fun q => ⟨_, _, rfl, q⟩⟩
@[simp] theorem sat_some {α : Type} {a : α} {e : Env} {Q : α → Env → Prop} : sat (some (a, e)) Q ↔ Q a e := ⟨fun ⟨_, _, h, q⟩ => (by cases h; exact q), fun q => ⟨_, _, rfl, q⟩⟩
@[simp] theorem sat_none {α : Type} {Q : α → Env → Prop} : sat none Q ↔ False := ⟨fun ⟨_, _, h, _⟩ => (by cases h), False.elim⟩
@[simp] theorem opt_some {α : Type} {a : α} {Q : α → Prop} : opt (some a) Q ↔ Q a := ⟨fun ⟨_, h, q⟩ => (by cases h; exact q), fun q => ⟨_, rfl, q⟩⟩
@[simp] theorem opt_none {α : Type} {Q : α → Prop} : opt none Q ↔ False := ⟨fun ⟨_, h, _⟩ => (by cases h), False.elim⟩
theorem sat_ite {α : Type} {c : Prop} [Decidable c] {x y : Option (α × Env)} {Q : α → Env → Prop} : sat (if c then x else y) Q ↔ if c then sat x Q else sat y Q := by split <;> exact Iff.rfl
theorem opt_ite {α : Type} {c : Prop} [Decidable c] {x y : Option α} {Q : α → Prop} : opt (if c then x else y) Q ↔ if c then opt x Q else opt y Q := by split <;> exact Iff.rfl
def isI (x : D) (Q : Int → Prop) (_ : Tg Q := ⟨⟩) : Prop := match x with
  | .int i => Q i
  | _ => False
def isB (x : D) (Q : Bool → Prop) (_ : Tg Q := ⟨⟩) : Prop := match x with
  | .bl b => Q b
  | _ => False
@[simp] theorem isI_int {i : Int} {Q : Int → Prop} : isI (.int i) Q ↔ Q i := Iff.rfl
@[simp] theorem isB_bl {b : Bool} {Q : Bool → Prop} : isB (.bl b) Q ↔ Q b := Iff.rfl
@[simp] theorem at_nil {i : Nat} : Env.at [] i = none := by unfold Env.at; simp
@[simp] theorem at_cons0 {o : Option D} {e : Env} : Env.at (o :: e) 0 = o := rfl
@[simp] theorem at_cons1 {o : Option D} {e : Env} {i : Nat} : Env.at (o :: e) (i + 1) = Env.at e i := rfl
@[simp] theorem un_int {i : Int} : (D.int i).un = true := by simp [D.un]
@[simp] theorem un_bl {b : Bool} : (D.bl b).un = true := by simp [D.un]
@[simp] theorem un_non : D.non.un = true := by simp [D.un]
@[simp] theorem un_str {x : Str} : (D.str x).un = true := by simp [D.un]
@[simp] theorem un_tup {x : List D} : (D.tup x).un = unL x := by simp [D.un]
@[simp] theorem un_own {x : List D} : (D.lst true x).un = false := by simp [D.un]
@[simp] theorem un_shr {x : List D} : (D.lst false x).un = unL x := by simp [D.un]
@[simp] theorem unL_nil : unL [] = true := by simp [unL]
@[simp] theorem unL_cons {d : D} {x : List D} : unL (d :: x) = (d.un && unL x) := by simp [unL]
@[simp] theorem unL_app' {x y : List D} : unL (x ++ y) = (unL x && unL y) := unL_app ..
@[simp] theorem unL_ints {ns : List Int} : unL (ns.map D.int) = true := by
  induction ns with
  | nil => rfl
  | cons a r ih => simp [ih]
@[simp] theorem ns_int {i : Int} : (D.int i).ns = true := by simp [D.ns]
@[simp] theorem ns_bl {b : Bool} : (D.bl b).ns = true := by simp [D.ns]
@[simp] theorem ns_non : D.non.ns = true := by simp [D.ns]
@[simp] theorem ns_str {x : Str} : (D.str x).ns = true := by simp [D.ns]
@[simp] theorem ns_tup {x : List D} : (D.tup x).ns = nsL x := by simp [D.ns]
@[simp] theorem ns_own {x : List D} : (D.lst true x).ns = nsL x := by simp [D.ns]
@[simp] theorem ns_shr {x : List D} : (D.lst false x).ns = false := by simp [D.ns]
@[simp] theorem nsL_nil : nsL [] = true := by simp [nsL]
@[simp] theorem nsL_cons {d : D} {x : List D} : nsL (d :: x) = (d.ns && nsL x) := by simp [nsL]
@[simp] theorem nsL_ints {ns : List Int} : nsL (ns.map D.int) = true := by
  induction ns with
  | nil => rfl
  | cons a r ih => simp [ih]
@[simp] theorem nsO_nil : nsO [] = true := by simp [nsO]
@[simp] theorem nsO_none {r : List (Option D)} : nsO (none :: r) = nsO r := by simp [nsO]
@[simp] theorem nsO_some {d : D} {r : List (Option D)} : nsO (some d :: r) = (d.ns && nsO r) := by simp [nsO]
@[simp] theorem shr_int {i : Int} : (D.int i).shr = .int i := rfl
@[simp] theorem shr_blD {b : Bool} : (D.bl b).shr = .bl b := rfl
@[simp] theorem shr_non : D.non.shr = .non := rfl
@[simp] theorem shr_str {x : Str} : (D.str x).shr = .str x := rfl
@[simp] theorem shr_tupD {x : List D} : (D.tup x).shr = .tup (shrL x) := rfl
@[simp] theorem shr_lst {o : Bool} {x : List D} : (D.lst o x).shr = .lst false (shrL x) := rfl
@[simp] theorem shrL_nil : shrL [] = [] := rfl
@[simp] theorem shrL_cons {d : D} {x : List D} : shrL (d :: x) = d.shr :: shrL x := rfl
@[simp] theorem shrL_ints {ns : List Int} : shrL (ns.map D.int) = ns.map D.int := by
  induction ns with
  | nil => rfl
  | cons a r ih => simp [ih]

variable {Φ : Fs} {e : Env} {Q : D → Env → Prop}
@[simp] theorem sat_v {i : Nat} : sat (evE Φ (.v i) e) Q ↔ opt (e.at i) fun d => if d.un = true then Q d e else Q d (e.set i none) := by
  rw [evE]
  cases e.at i with
  | none => simp
  | some d => simp only [sat_ite, sat_some, opt_some]
@[simp] theorem sat_w {i : Nat} : sat (evE Φ (.w i) e) Q ↔ opt (e.at i) fun d => Q d.shr (e.set i (some d.shr)) := by
  rw [evE]
  cases e.at i <;> simp
@[simp] theorem sat_non : sat (evE Φ .non e) Q ↔ Q .non e := by rw [evE]; simp
@[simp] theorem sat_bl {b : Bool} : sat (evE Φ (.bl b) e) Q ↔ Q (.bl b) e := by rw [evE]; simp
@[simp] theorem sat_int {i : Int} : sat (evE Φ (.int i) e) Q ↔ Q (.int i) e := by rw [evE]; simp
@[simp] theorem sat_str {x : Str} : sat (evE Φ (.str x) e) Q ↔ Q (.str x) e := by rw [evE]; simp
@[simp] theorem sat_frz {a : T} : sat (evE Φ (.frz a) e) Q ↔ sat (evE Φ a e) fun d e => Q d.shr e := by
  rw [evE]
  rcases evE Φ a e with _ | ⟨d, e⟩ <;> simp
@[simp] theorem sat_lend {a : T} : sat (evE Φ (.lend a) e) Q ↔ sat (evE Φ a (e.map fun o => o.map D.shr)) fun d _ => d.ns = true ∧ Q d e := by
  have h : evE Φ (.lend a) e = match evE Φ a (e.map fun o => o.map D.shr) with
    | some (d, _) => if d.ns then some (d, e) else none
    | none => none := by rw [evE] <;> rfl
  rw [h]
  generalize evE Φ a (e.map fun o => o.map D.shr) = o
  rcases o with _ | ⟨d, e1⟩
  · simp
  · simp only [sat_some]
    by_cases h : d.ns = true <;> simp [h]
@[simp] theorem sat_bin {o : Bop} {a b : T} : sat (evE Φ (.bin o a b) e) Q ↔ sat (evE Φ a e) fun x e => sat (evE Φ b e) fun y e => opt (binD o x y) fun d => Q d e := by
  rw [evE]
  rcases evE Φ a e with _ | ⟨x, e⟩
  · simp
  · simp only [sat_some]
    rcases evE Φ b e with _ | ⟨y, e⟩
    · simp
    · simp only [sat_some]
      cases binD o x y <;> simp
@[simp] theorem binD_add {i j : Int} : binD .add (.int i) (.int j) = some (.int (i + j)) := rfl
@[simp] theorem binD_sub {i j : Int} : binD .sub (.int i) (.int j) = some (.int (i - j)) := rfl
@[simp] theorem binD_mul {i j : Int} : binD .mul (.int i) (.int j) = if mulOk i j then some (.int (i * j)) else none := by
  show Option.map D.int (if mulOk i j then some (i * j) else none) = _
  split <;> rfl
@[simp] theorem binD_fdv {i j : Int} : binD .fdv (.int i) (.int j) = if j ≠ 0 ∧ j.natAbs.log2 < 9000 then some (.int (i.fdiv j)) else none := by
  show Option.map D.int (if j ≠ 0 ∧ j.natAbs.log2 < 9000 then some (i.fdiv j) else none) = _
  split <;> rfl
@[simp] theorem binD_mod {i j : Int} : binD .mod (.int i) (.int j) = if j = 0 then none else some (.int (i.fmod j)) := by
  show Option.map D.int (if j = 0 then none else some (i.fmod j)) = _
  split <;> rfl
@[simp] theorem binD_pow {i j : Int} : binD .pow (.int i) (.int j) = if 0 ≤ j ∧ j ≤ 1000000 ∧ i.natAbs < 2 ^ 64 then some (.int (i ^ j.toNat)) else none := by
  show Option.map D.int (if 0 ≤ j ∧ j ≤ 1000000 ∧ i.natAbs < 2 ^ 64 then some (i ^ j.toNat) else none) = _
  split <;> rfl
@[simp] theorem binD_cat {ox oy : Bool} {xs ys : List D} : binD .add (.lst ox xs) (.lst oy ys) = if (unL xs && unL ys && decide (xs.length + ys.length ≤ big)) = true then some (.lst true (xs ++ ys)) else none := rfl
@[simp] theorem sat_neg {a : T} : sat (evE Φ (.neg a) e) Q ↔ sat (evE Φ a e) fun x e => isI x fun i => Q (.int (-i)) e := by
  rw [evE]
  rcases evE Φ a e with _ | ⟨x, e⟩
  · simp
  · simp only [sat_some]
    cases x <;> simp [isI]
@[simp] theorem sat_cmp {o : Cop} {a b : T} : sat (evE Φ (.cmp o a b) e) Q ↔ sat (evE Φ a e) fun x e => isI x fun i => sat (evE Φ b e) fun y e => isI y fun j => Q (.bl (cmpI o i j)) e := by
  rw [evE]
  rcases evE Φ a e with _ | ⟨x, e⟩
  · simp
  · simp only [sat_some]
    cases x <;> simp only [isI, sat_none]
    rcases evE Φ b e with _ | ⟨y, e⟩
    · simp
    · simp only [sat_some]
      cases y <;> simp
@[simp] theorem cmp_lt {i j : Int} : cmpI .lt i j = decide (i < j) := rfl
@[simp] theorem cmp_le {i j : Int} : cmpI .le i j = decide (i ≤ j) := rfl
@[simp] theorem cmp_gt {i j : Int} : cmpI .gt i j = decide (j < i) := rfl
@[simp] theorem cmp_ge {i j : Int} : cmpI .ge i j = decide (j ≤ i) := rfl
/-- an operand: a pure one is only read -/
def rdE (Φ : Fs) (p : Bool) (a : T) (e : Env) : Option (D × Env) := if p = true then (evP a e).map fun d => (d, e) else evE Φ a e
@[simp] theorem rd_true {a : T} : sat (rdE Φ true a e) Q ↔ opt (evP a e) fun d => Q d e := by
  unfold rdE
  rw [if_pos rfl]
  cases evP a e <;> simp
@[simp] theorem rd_false {a : T} : sat (rdE Φ false a e) Q ↔ sat (evE Φ a e) Q := by
  unfold rdE
  rw [if_neg Bool.false_ne_true]
@[simp] theorem evP_v {i : Nat} : evP (.v i) e = e.at i := rfl
@[simp] theorem evP_non : evP .non e = some .non := rfl
@[simp] theorem evP_bl {b : Bool} : evP (.bl b) e = some (.bl b) := rfl
@[simp] theorem evP_int {i : Int} : evP (.int i) e = some (.int i) := rfl
@[simp] theorem evP_str {x : Str} : evP (.str x) e = some (.str x) := rfl
@[simp] theorem opt_bin {o : Bop} {a b : T} {Q : D → Prop} : opt (evP (.bin o a b) e) Q ↔ opt (evP a e) fun x => isI x fun i => opt (evP b e) fun y => isI y fun j => opt (binI o i j) fun r => Q (.int r) := by
  rw [evP]
  cases evP a e with
  | none => simp
  | some x =>
    cases evP b e with
    | none => cases x <;> simp [isI]
    | some y => cases x <;> cases y <;> simp only [isI, opt_some, opt_none] <;> (try exact Iff.rfl)
                rename_i i j
                cases binI o i j <;> simp
@[simp] theorem opt_neg {a : T} {Q : D → Prop} : opt (evP (.neg a) e) Q ↔ opt (evP a e) fun x => isI x fun i => Q (.int (-i)) := by
  rw [evP]
  cases evP a e with
  | none => simp
  | some x => cases x <;> simp [isI]
@[simp] theorem opt_ix {a b : T} {Q : D → Prop} : opt (evP (.ix a b) e) Q ↔ opt (evP a e) fun d => opt (evP b e) fun y => isI y fun k => opt (atD d k) Q := by
  rw [evP]
  cases evP a e with
  | none => simp
  | some x =>
    cases evP b e with
    | none => simp
    | some y => cases y <;> simp [isI]
@[simp] theorem opt_len {a : T} {Q : D → Prop} : opt (evP (.b1 .len a) e) Q ↔ opt (evP a e) fun d => opt (lenD d) Q := by
  rw [evP]
  cases evP a e <;> simp
@[simp] theorem binI_add {i j : Int} : binI .add i j = some (i + j) := rfl
@[simp] theorem binI_sub {i j : Int} : binI .sub i j = some (i - j) := rfl
@[simp] theorem binI_mul {i j : Int} : binI .mul i j = if mulOk i j then some (i * j) else none := rfl
@[simp] theorem binI_fdv {i j : Int} : binI .fdv i j = if j ≠ 0 ∧ j.natAbs.log2 < 9000 then some (i.fdiv j) else none := rfl
@[simp] theorem binI_mod {i j : Int} : binI .mod i j = if j = 0 then none else some (i.fmod j) := rfl
@[simp] theorem binI_pow {i j : Int} : binI .pow i j = if 0 ≤ j ∧ j ≤ 1000000 ∧ i.natAbs < 2 ^ 64 then some (i ^ j.toNat) else none := rfl
@[simp] theorem sat_eq {a b : T} : sat (evE Φ (.eq a b) e) Q ↔ sat (rdE Φ (isP a && isP b) a e) fun x e => sat (rdE Φ (isP b) b e) fun y e => (eqOk x = true ∧ eqOk y = true) ∧ Q (.bl (eqv x y)) e := by
  rw [evE]
  show sat (match rdE Φ (isP a && isP b) a e with | some (x, e) => _ | none => none) Q ↔ _
  rcases rdE Φ (isP a && isP b) a e with _ | ⟨x, e⟩
  · simp
  · simp only [sat_some]
    show sat (match rdE Φ (isP b) b e with | some (x, e) => _ | none => none) Q ↔ _
    rcases rdE Φ (isP b) b e with _ | ⟨y, e⟩
    · simp
    · simp only [sat_some, sat_ite, Bool.and_eq_true]
      split <;> simp_all
@[simp] theorem sat_ne {a b : T} : sat (evE Φ (.ne a b) e) Q ↔ sat (rdE Φ (isP a && isP b) a e) fun x e => sat (rdE Φ (isP b) b e) fun y e => (eqOk x = true ∧ eqOk y = true) ∧ Q (.bl (!eqv x y)) e := by
  rw [evE]
  show sat (match rdE Φ (isP a && isP b) a e with | some (x, e) => _ | none => none) Q ↔ _
  rcases rdE Φ (isP a && isP b) a e with _ | ⟨x, e⟩
  · simp
  · simp only [sat_some]
    show sat (match rdE Φ (isP b) b e with | some (x, e) => _ | none => none) Q ↔ _
    rcases rdE Φ (isP b) b e with _ | ⟨y, e⟩
    · simp
    · simp only [sat_some, sat_ite, Bool.and_eq_true]
      split <;> simp_all
def isNn : D → Bool
  | .non => true
  | _ => false
@[simp] theorem isNn_non : isNn .non = true := rfl
@[simp] theorem isNn_int {i : Int} : isNn (.int i) = false := rfl
@[simp] theorem isNn_bl {i : Bool} : isNn (.bl i) = false := rfl
@[simp] theorem isNn_tup {i : List D} : isNn (.tup i) = false := rfl
@[simp] theorem isNn_lst {o : Bool} {i : List D} : isNn (.lst o i) = false := rfl
@[simp] theorem isNn_str {i : Str} : isNn (.str i) = false := rfl
@[simp] theorem sat_isN {a : T} : sat (evE Φ (.isN a) e) Q ↔ sat (rdE Φ (isP a) a e) fun x e => Q (.bl (isNn x)) e := by
  rw [evE]
  show sat (match rdE Φ (isP a) a e with | some (.non, e) => _ | some (_, e) => _ | none => none) Q ↔ _
  rcases rdE Φ (isP a) a e with _ | ⟨x, e⟩
  · simp
  · cases x <;> simp
@[simp] theorem sat_nisN {a : T} : sat (evE Φ (.nisN a) e) Q ↔ sat (rdE Φ (isP a) a e) fun x e => Q (.bl (!isNn x)) e := by
  rw [evE]
  show sat (match rdE Φ (isP a) a e with | some (.non, e) => _ | some (_, e) => _ | none => none) Q ↔ _
  rcases rdE Φ (isP a) a e with _ | ⟨x, e⟩
  · simp
  · cases x <;> simp
@[simp] theorem sat_chain {o o' : Cop} {a b c : T} : sat (evE Φ (.chain o o' a b c) e) Q ↔ sat (evE Φ a e) fun x e => isI x fun i => sat (evE Φ b e) fun y e => isI y fun j => if cmpI o i j = true then sat (evE Φ c e) fun z e => isI z fun k => Q (.bl (cmpI o' j k)) e else Q (.bl false) e := by
  rw [evE]
  rcases evE Φ a e with _ | ⟨x, e⟩
  · simp
  · simp only [sat_some]
    cases x <;> simp only [isI, sat_none]
    rcases evE Φ b e with _ | ⟨y, e⟩
    · simp
    · simp only [sat_some]
      cases y <;> simp only [sat_none]
      split
      · rcases evE Φ c e with _ | ⟨z, e⟩
        · simp
        · simp only [sat_some]
          cases z <;> simp
      · simp
@[simp] theorem sat_and {a b : T} : sat (evE Φ (.and a b) e) Q ↔ sat (evE Φ a e) fun x e => isB x fun c => if c = true then sat (evE Φ b e) fun y e => isB y fun c => Q (.bl c) e else Q (.bl false) e := by
  rw [evE]
  rcases evE Φ a e with _ | ⟨x, e⟩
  · simp
  · simp only [sat_some]
    cases x <;> simp only [isB, sat_none]
    rename_i c
    cases c
    · simp
    · simp only [if_true]
      rcases evE Φ b e with _ | ⟨y, e⟩
      · simp
      · simp only [sat_some]
        cases y <;> simp
@[simp] theorem sat_or {a b : T} : sat (evE Φ (.or a b) e) Q ↔ sat (evE Φ a e) fun x e => isB x fun c => if c = true then Q (.bl true) e else sat (evE Φ b e) fun y e => isB y fun c => Q (.bl c) e := by
  rw [evE]
  rcases evE Φ a e with _ | ⟨x, e⟩
  · simp
  · simp only [sat_some]
    cases x <;> simp only [isB, sat_none]
    rename_i c
    cases c
    · simp only [Bool.false_eq_true, if_false]
      rcases evE Φ b e with _ | ⟨y, e⟩
      · simp
      · simp only [sat_some]
        cases y <;> simp
    · simp
@[simp] theorem sat_not {a : T} : sat (evE Φ (.not a) e) Q ↔ sat (evE Φ a e) fun x e => isB x fun c => Q (.bl (!c)) e := by
  rw [evE]
  rcases evE Φ a e with _ | ⟨x, e⟩
  · simp
  · simp only [sat_some]
    cases x <;> simp [isB]
@[simp] theorem sat_ife {c a b : T} : sat (evE Φ (.ife c a b) e) Q ↔ sat (evE Φ c e) fun x e => isB x fun c => if c = true then sat (evE Φ a e) Q else sat (evE Φ b e) Q := by
  rw [evE]
  rcases evE Φ c e with _ | ⟨x, e⟩
  · simp
  · simp only [sat_some]
    cases x <;> simp only [isB, sat_none]
    simp only [sat_ite]
@[simp] theorem sat_nilL {Q : List D → Env → Prop} : sat (evL Φ .nil e) Q ↔ Q [] e := by rw [evL]; simp
@[simp] theorem sat_consL {a r : T} {Q : List D → Env → Prop} : sat (evL Φ (.cons a r) e) Q ↔ sat (evE Φ a e) fun x e => sat (evL Φ r e) fun xs e => Q (x :: xs) e := by
  rw [evL]
  rcases evE Φ a e with _ | ⟨x, e⟩
  · simp
  · simp only [sat_some]
    rcases evL Φ r e with _ | ⟨xs, e⟩ <;> simp
@[simp] theorem sat_tup {a : T} : sat (evE Φ (.tup a) e) Q ↔ sat (evL Φ a e) fun ds e => ds.length ≤ big ∧ Q (.tup ds) e := by
  rw [evE]
  rcases evL Φ a e with _ | ⟨ds, e⟩
  · simp
  · simp only [sat_some, sat_ite]
    by_cases h : ds.length ≤ big <;> simp [h]
@[simp] theorem sat_lst {a : T} : sat (evE Φ (.lst a) e) Q ↔ sat (evL Φ a e) fun ds e => ds.length ≤ big ∧ Q (.lst true ds) e := by
  rw [evE]
  rcases evL Φ a e with _ | ⟨ds, e⟩
  · simp
  · simp only [sat_some, sat_ite]
    by_cases h : ds.length ≤ big <;> simp [h]
theorem sat_ixP {a b : T} (p : (isP a && isP b) = true) : sat (evE Φ (.ix a b) e) Q ↔ opt (evP (.ix a b) e) fun d => d.un = true ∧ Q d e := by
  rw [evE, if_pos p]
  cases evP (.ix a b) e with
  | none => simp
  | some d =>
    simp only [opt_some]
    by_cases h : d.un = true <;> simp [h]
@[simp] theorem sat_ix {a b : T} : sat (evE Φ (.ix a b) e) Q ↔ if (isP a && isP b) = true then (opt (evP (.ix a b) e) fun d => d.un = true ∧ Q d e) else sat (evE Φ a e) fun x e => sat (evE Φ b e) fun y e => isI y fun k => opt (atD x k) fun d => Q d e := by
  by_cases p : (isP a && isP b) = true
  · rw [if_pos p]; exact sat_ixP p
  · rw [if_neg p, evE, if_neg p]
    rcases evE Φ a e with _ | ⟨x, e⟩
    · simp
    · simp only [sat_some]
      rcases evE Φ b e with _ | ⟨y, e⟩
      · simp
      · simp only [sat_some]
        cases y <;> simp only [isI, sat_none]
        rename_i k
        cases atD x k <;> simp
@[simp] theorem sat_sl {a lo hi : T} : sat (evE Φ (.sl a lo hi) e) Q ↔ (isPo lo && isPo hi) = true ∧ sat (rdE Φ (isP a) a e) fun x e => opt (evPo lo e) fun l => opt (evPo hi e) fun h => opt (slD x l h) fun d => Q d e := by
  rw [evE]
  by_cases p : (isPo lo && isPo hi) = true
  · rw [if_pos p]
    show sat (match rdE Φ (isP a) a e with | some (x, e) => _ | none => none) Q ↔ _
    rcases rdE Φ (isP a) a e with _ | ⟨x, e⟩
    · simp
    · simp only [sat_some, p, true_and]
      rcases evPo lo e with _ | l
      · simp
      · simp only [opt_some]
        rcases evPo hi e with _ | h
        · simp
        · simp only [opt_some]
          cases slD x l h <;> simp
  · rw [if_neg p]; simp [p]
@[simp] theorem sat_b1 {k : B1} {a : T} : sat (evE Φ (.b1 k a) e) Q ↔ sat (rdE Φ (isP a) a e) fun x e => opt (b1D k x) fun d => Q d e := by
  rw [evE]
  show sat (match rdE Φ (isP a) a e with | some (x, e) => _ | none => none) Q ↔ _
  rcases rdE Φ (isP a) a e with _ | ⟨x, e⟩
  · simp
  · simp only [sat_some]
    cases b1D k x <;> simp
@[simp] theorem sat_bn {k : BN} {a : T} : sat (evE Φ (.bn k a) e) Q ↔ sat (evL Φ a e) fun xs e => opt (bnD k xs) fun d => Q d e := by
  rw [evE]
  rcases evL Φ a e with _ | ⟨xs, e⟩
  · simp
  · simp only [sat_some]
    cases bnD k xs <;> simp
@[simp] theorem isP_v {i : Nat} : isP (.v i) = true := rfl
@[simp] theorem isP_non : isP .non = true := rfl
@[simp] theorem isP_bl {i : Bool} : isP (.bl i) = true := rfl
@[simp] theorem isP_int {i : Int} : isP (.int i) = true := rfl
@[simp] theorem isP_str {i : Str} : isP (.str i) = true := rfl
@[simp] theorem isP_bin {o : Bop} {a b : T} : isP (.bin o a b) = (isP a && isP b) := rfl
@[simp] theorem isP_neg {a : T} : isP (.neg a) = isP a := rfl
@[simp] theorem isP_ix {a b : T} : isP (.ix a b) = (isP a && isP b) := rfl
@[simp] theorem isP_len {a : T} : isP (.b1 .len a) = isP a := rfl
@[simp] theorem isP_call {f : Nat} {a : T} : isP (.call f a) = false := rfl
@[simp] theorem isP_tup {a : T} : isP (.tup a) = false := rfl
@[simp] theorem isP_lst {a : T} : isP (.lst a) = false := rfl
@[simp] theorem isP_lc {a : List Nat} {i c l : T} : isP (.lc a i c l) = false := rfl
@[simp] theorem isP_sl {a b c : T} : isP (.sl a b c) = false := rfl
@[simp] theorem isP_bn {k : BN} {a : T} : isP (.bn k a) = false := rfl
@[simp] theorem isP_w {i : Nat} : isP (.w i) = false := rfl
@[simp] theorem isP_and {a b : T} : isP (.and a b) = false := rfl
@[simp] theorem isP_or {a b : T} : isP (.or a b) = false := rfl
@[simp] theorem isP_not {a : T} : isP (.not a) = false := rfl
@[simp] theorem isP_ife {a b c : T} : isP (.ife a b c) = false := rfl
@[simp] theorem isP_b1i {a : T} : isP (.b1 .int a) = false := rfl
@[simp] theorem isP_b1a {a : T} : isP (.b1 .abs a) = false := rfl
@[simp] theorem isP_b1l {a : T} : isP (.b1 .list a) = false := rfl
@[simp] theorem isP_b1t {a : T} : isP (.b1 .tuple a) = false := rfl
@[simp] theorem isP_b1s {a : T} : isP (.b1 .sum a) = false := rfl
@[simp] theorem isPo_nil : isPo .nil = true := rfl
@[simp] theorem isPo_v {i : Nat} : isPo (.v i) = true := rfl
@[simp] theorem isPo_int {i : Int} : isPo (.int i) = true := rfl
@[simp] theorem isPo_bin {o : Bop} {a b : T} : isPo (.bin o a b) = (isP a && isP b) := rfl
@[simp] theorem isPo_len {a : T} : isPo (.b1 .len a) = isP a := rfl
@[simp] theorem isPo_neg {a : T} : isPo (.neg a) = isP a := rfl
@[simp] theorem isPo_ix {a b : T} : isPo (.ix a b) = (isP a && isP b) := rfl
@[simp] theorem evPo_nil {Q : Option Int → Prop} : opt (evPo .nil e) Q ↔ Q none := by unfold evPo; simp
theorem opt_evPo {a : T} {Q : Option Int → Prop} (h : a ≠ .nil) : opt (evPo a e) Q ↔ opt (evP a e) fun x => isI x fun i => Q (some i) := by
  unfold evPo
  split
  · exact absurd rfl h
  · cases evP a e with
    | none => simp
    | some x => cases x <;> simp [isI]
@[simp] theorem evPo_v {i : Nat} {Q : Option Int → Prop} : opt (evPo (.v i) e) Q ↔ opt (e.at i) fun x => isI x fun i => Q (some i) := opt_evPo (by simp)
@[simp] theorem evPo_int {i : Int} {Q : Option Int → Prop} : opt (evPo (.int i) e) Q ↔ Q (some i) := by rw [opt_evPo (by simp)]; simp
@[simp] theorem evPo_bin {o : Bop} {a b : T} {Q : Option Int → Prop} : opt (evPo (.bin o a b) e) Q ↔ opt (evP (.bin o a b) e) fun x => isI x fun i => Q (some i) := opt_evPo (by simp)
@[simp] theorem evPo_len {a : T} {Q : Option Int → Prop} : opt (evPo (.b1 .len a) e) Q ↔ opt (evP (.b1 .len a) e) fun x => isI x fun i => Q (some i) := opt_evPo (by simp)
@[simp] theorem b1D_len {d : D} : b1D .len d = lenD d := by cases d <;> rfl
@[simp] theorem lenD_lst {o : Bool} {xs : List D} : lenD (.lst o xs) = some (.int xs.length) := rfl
@[simp] theorem lenD_tup {xs : List D} : lenD (.tup xs) = some (.int xs.length) := rfl
@[simp] theorem atD_lst {o : Bool} {xs : List D} {k : Int} : atD (.lst o xs) k = atI xs k := rfl
@[simp] theorem atD_tup {xs : List D} {k : Int} : atD (.tup xs) k = atI xs k := rfl
@[simp] theorem b1D_abs {i : Int} : b1D .abs (.int i) = some (.int (if i < 0 then -i else i)) := rfl
@[simp] theorem b1D_int {i : Int} : b1D .int (.int i) = some (.int i) := rfl
@[simp] theorem b1D_intb {b : Bool} : b1D .int (.bl b) = some (.int (if b then 1 else 0)) := rfl
@[simp] theorem b1D_list {o : Bool} {xs : List D} : b1D .list (.lst o xs) = if unL xs = true then some (.lst true xs) else none := rfl
@[simp] theorem b1D_listT {xs : List D} : b1D .list (.tup xs) = if unL xs = true then some (.lst true xs) else none := rfl
@[simp] theorem b1D_tuple {o : Bool} {xs : List D} : b1D .tuple (.lst o xs) = if unL xs = true then some (.tup xs) else none := rfl
@[simp] theorem b1D_sum {o : Bool} {xs : List D} : b1D .sum (.lst o xs) = (toInts xs).map fun l => .int l.sum := rfl
def tyI : D → Bool
  | .int _ => true
  | .bl _ => true
  | _ => false
@[simp] theorem b1D_sorted {o : Bool} {xs : List D} : b1D .sorted (.lst o xs) = srtD xs := rfl
@[simp] theorem b1D_isInt {d : D} : b1D .isInt d = some (.bl (tyI d)) := by cases d <;> rfl
@[simp] theorem tyI_int {i : Int} : tyI (.int i) = true := rfl
@[simp] theorem tyI_bl {i : Bool} : tyI (.bl i) = true := rfl
@[simp] theorem tyI_non : tyI .non = false := rfl
@[simp] theorem tyI_tup {i : List D} : tyI (.tup i) = false := rfl
@[simp] theorem tyI_lst {o : Bool} {i : List D} : tyI (.lst o i) = false := rfl
@[simp] theorem tyI_str {i : Str} : tyI (.str i) = false := rfl
def tyB : D → Bool
  | .bl _ => true
  | _ => false
@[simp] theorem b1D_isBool {d : D} : b1D .isBool d = some (.bl (tyB d)) := by cases d <;> rfl
@[simp] theorem tyB_int {i : Int} : tyB (.int i) = false := rfl
@[simp] theorem tyB_bl {i : Bool} : tyB (.bl i) = true := rfl
@[simp] theorem tyB_non : tyB .non = false := rfl
@[simp] theorem tyB_tup {i : List D} : tyB (.tup i) = false := rfl
@[simp] theorem tyB_lst {o : Bool} {i : List D} : tyB (.lst o i) = false := rfl
@[simp] theorem tyB_str {i : Str} : tyB (.str i) = false := rfl
def tyL : D → Bool
  | .lst _ _ => true
  | _ => false
@[simp] theorem b1D_isList {d : D} : b1D .isList d = some (.bl (tyL d)) := by cases d <;> rfl
@[simp] theorem tyL_int {i : Int} : tyL (.int i) = false := rfl
@[simp] theorem tyL_bl {i : Bool} : tyL (.bl i) = false := rfl
@[simp] theorem tyL_non : tyL .non = false := rfl
@[simp] theorem tyL_tup {i : List D} : tyL (.tup i) = false := rfl
@[simp] theorem tyL_lst {o : Bool} {i : List D} : tyL (.lst o i) = true := rfl
def tyT : D → Bool
  | .tup _ => true
  | _ => false
@[simp] theorem b1D_isTuple {d : D} : b1D .isTuple d = some (.bl (tyT d)) := by cases d <;> rfl
@[simp] theorem tyT_int {i : Int} : tyT (.int i) = false := rfl
@[simp] theorem tyT_bl {i : Bool} : tyT (.bl i) = false := rfl
@[simp] theorem tyT_non : tyT .non = false := rfl
@[simp] theorem tyT_tup {i : List D} : tyT (.tup i) = true := rfl
@[simp] theorem tyT_lst {o : Bool} {i : List D} : tyT (.lst o i) = false := rfl
@[simp] theorem bnD_min {i j : Int} : bnD .min2 [.int i, .int j] = some (.int (if j < i then j else i)) := rfl
@[simp] theorem bnD_max {i j : Int} : bnD .max2 [.int i, .int j] = some (.int (if j > i then j else i)) := rfl
@[simp] theorem eqOk_int {i : Int} : eqOk (.int i) = true := rfl
@[simp] theorem eqOk_bl {i : Bool} : eqOk (.bl i) = true := rfl
@[simp] theorem eqOk_non : eqOk .non = true := rfl
end Sr
set_option Elab.async false
set_option linter.all false
set_option maxRecDepth 100000
/-! # Sr: how statements are computed, by rules of rewriting -/
namespace Sr
open PySem PySem.Spec PyProof.Rows L2
variable {Φ : Fs} {e : Env} {Q : D → Env → Prop}
theorem ixN_nat {n j : Nat} (hj : j < n) : ixN n (j : Int) = some j := by
  unfold ixN
  rw [if_pos (by omega), if_pos (by omega)]
  simp

/-! ### calls -/
@[simp] theorem sat_nilG {Q : List Ag → Env → Prop} : sat (evG Φ .nil [] e) Q ↔ Q [] e := by rw [evG]; simp
@[simp] theorem sat_varG {i : Nat} {r : T} {b : Bool} {bs : List Bool} {Q : List Ag → Env → Prop} : sat (evG Φ (.cons (.v i) r) (b :: bs) e) Q ↔ opt (e.at i) fun _ => sat (evG Φ r bs e) fun as e => Q ((if b = true then .io i else .var i) :: as) e := by
  rw [evG]
  cases e.at i with
  | none => simp
  | some d =>
    simp only [opt_some]
    rcases evG Φ r bs e with _ | ⟨as, e⟩ <;> simp
def notV : T → Bool
  | .v _ => false
  | _ => true
@[simp] theorem sat_valG {a r : T} {bs : List Bool} {Q : List Ag → Env → Prop} (h : notV a = true) : sat (evG Φ (.cons a r) (false :: bs) e) Q ↔ sat (evE Φ a e) fun x e => sat (evG Φ r bs e) fun as e => Q (.val x :: as) e := by
  rw [evG]
  · simp only [Bool.false_eq_true, if_false]
    rcases evE Φ a e with _ | ⟨x, e⟩
    · simp
    · simp only [sat_some]
      rcases evG Φ r bs e with _ | ⟨as, e⟩ <;> simp
  · intro i hi
    subst hi
    cases h
@[simp] theorem notV_v {i : Nat} : notV (.v i) = false := rfl
/-- a call -/
def callF (Φ : Fs) (f : Nat) (as : List Ag) (e : Env) : Option (D × Env) := match agIo as e with
  | some e' => match agD e e' as with
    | some ds => match Φ.run f ds with
      | some (r, os) => match agBack as os (if (r.ns && nsO os) = true then e' else agFz as e') with
        | some e => some (r, e)
        | none => none
      | none => none
    | none => none
  | none => none
@[simp] theorem sat_call {f : Nat} {a : T} : sat (evE Φ (.call f a) e) Q ↔ sat (evG Φ a (Φ.io f) e) fun as e => sat (callF Φ f as e) Q := by
  rw [evE]
  rcases evG Φ a (Φ.io f) e with _ | ⟨as, e⟩
  · simp
  · simp only [sat_some]; rfl
@[simp] theorem fnsN_io0 {P : Nat → Df} {n f : Nat} : (fnsN P n).io f = (P f).io := by cases n <;> rfl
@[simp] theorem sat_callF {f : Nat} {as : List Ag} : sat (callF Φ f as e) Q ↔ opt (agIo as e) fun e' => opt (agD e e' as) fun ds => runs (Φ.run f ds) fun r os => opt (agBack as os (if (r.ns && nsO os) = true then e' else agFz as e')) fun e => Q r e := by
  unfold callF
  cases agIo as e with
  | none => simp
  | some e' =>
    simp only [opt_some]
    cases agD e e' as with
    | none => simp
    | some ds =>
      simp only [opt_some]
      rcases Φ.run f ds with _ | ⟨r, os⟩
      · simp [runs]
      · unfold runs
        constructor
        · intro h
          refine ⟨r, os, rfl, ?_⟩
          simp only at h
          rcases hb : agBack as os (if (r.ns && nsO os) = true then e' else agFz as e') with _ | e2
          · rw [hb] at h; exact absurd h (by simp)
          · rw [hb] at h; rw [hb]; simpa using h
        · rintro ⟨r', os', h, q⟩
          cases h
          simp only
          rcases hb : agBack as os (if (r.ns && nsO os) = true then e' else agFz as e') with _ | e2
          · rw [hb] at q; exact absurd q (by simp)
          · rw [hb] at q; simpa using q
/-- a call of a function that changes nothing and hands back what is not of others -/
theorem call_ns {f : Nat} {as : List Ag} {ds : List D} {r : D} {os : List (Option D)} (h1 : agIo as e = some e) (h2 : agD e e as = some ds) (h3 : Φ.run f ds = some (r, os)) (h4 : r.ns = true) (h5 : agBack as os e = some e) (h6 : nsO os = true) : sat (callF Φ f as e) Q ↔ Q r e := by
  unfold callF
  simp [h1, h2, h3, h4, h5, h6]

/-! ### statements -/
variable {R : Fl → Env → Prop}
def nxt (f : Fl) (e : Env) (q : Env → Prop) (R : Fl → Env → Prop) (_ : Tg q := ⟨⟩) (_ : Tg R := ⟨⟩) : Prop := match f with
  | .nx => q e
  | f => R f e
@[simp] theorem nxt_nx {q : Env → Prop} : nxt .nx e q R ↔ q e := Iff.rfl
@[simp] theorem nxt_rt {d : D} {q : Env → Prop} : nxt (.rt d) e q R ↔ R (.rt d) e := Iff.rfl
@[simp] theorem nxt_bk {q : Env → Prop} : nxt .bk e q R ↔ R .bk e := Iff.rfl
@[simp] theorem nxt_ct {q : Env → Prop} : nxt .ct e q R ↔ R .ct e := Iff.rfl
@[simp] theorem sat_pass : sat (evS Φ .pass e) R ↔ R .nx e := by rw [evS]; simp
@[simp] theorem sat_seq {a b : T} : sat (evS Φ (.seq a b) e) R ↔ sat (evS Φ a e) fun f e => nxt f e (fun e => sat (evS Φ b e) R) R := by
  rw [evS]
  rcases evS Φ a e with _ | ⟨f, e⟩
  · simp
  · cases f <;> simp
@[simp] theorem sat_asg {i : Nat} {a : T} : sat (evS Φ (.asg i a) e) R ↔ sat (evE Φ a e) fun d e => R .nx (e.set i (some d)) := by
  rw [evS]
  rcases evE Φ a e with _ | ⟨d, e⟩ <;> simp
@[simp] theorem sat_upk {tg : List Nat} {a : T} : sat (evS Φ (.upk tg a) e) R ↔ sat (evE Φ a e) fun d e => opt (bindT tg d e) fun e => R .nx e := by
  rw [evS]
  rcases evE Φ a e with _ | ⟨d, e⟩
  · simp
  · simp only [sat_some]
    cases bindT tg d e <;> simp
@[simp] theorem sat_st {p i a : T} : sat (evS Φ (.st p i a) e) R ↔ sat (evE Φ a e) fun x e => (isPl p && isP i) = true ∧ opt (evP i e) fun y => isI y fun k => opt (setP p (putD k x) e) fun e => R .nx e := by
  rw [evS]
  rcases evE Φ a e with _ | ⟨x, e⟩
  · simp
  · simp only [sat_some, sat_ite]
    by_cases h : (isPl p && isP i) = true
    · rw [if_pos h]
      simp only [h, true_and]
      cases evP i e with
      | none => simp
      | some y =>
        cases y <;> simp only [opt_some, isI, sat_none]
        rename_i k
        cases setP p (putD k x) e <;> simp
    · simp [h]
def isLs : D → Bool
  | .lst _ _ => true
  | _ => false
@[simp] theorem isLs_lst {o : Bool} {xs : List D} : isLs (.lst o xs) = true := rfl
@[simp] theorem sat_app {i : Nat} {a : T} : sat (evS Φ (.app i a) e) R ↔ opt (e.at i) fun d => isLs d = true ∧ sat (evE Φ a e) fun x e => opt (setP (.v i) (appD x) e) fun e => R .nx e := by
  rw [evS]
  cases e.at i with
  | none => simp
  | some d =>
    cases d <;> simp only [opt_some, isLs, sat_none] <;> try simp
    rcases evE Φ a e with _ | ⟨x, e⟩
    · simp
    · simp only [sat_some]
      cases setP (.v i) (appD x) e <;> simp
@[simp] theorem sat_ex {a : T} : sat (evS Φ (.ex a) e) R ↔ sat (evE Φ a e) fun _ e => R .nx e := by
  rw [evS]
  rcases evE Φ a e with _ | ⟨d, e⟩ <;> simp
@[simp] theorem sat_cond {c a b : T} : sat (evS Φ (.cond c a b) e) R ↔ sat (evE Φ c e) fun x e => isB x fun c => if c = true then sat (evS Φ a e) R else sat (evS Φ b e) R := by
  rw [evS]
  rcases evE Φ c e with _ | ⟨x, e⟩
  · simp
  · simp only [sat_some]
    cases x <;> simp only [isB, sat_none]
    simp only [sat_ite]
@[simp] theorem sat_ret {a : T} : sat (evS Φ (.ret a) e) R ↔ sat (evE Φ a e) fun d e => R (.rt d) e := by
  rw [evS]
  rcases evE Φ a e with _ | ⟨d, e⟩ <;> simp
@[simp] theorem sat_brk : sat (evS Φ .brk e) R ↔ R .bk e := by rw [evS]; simp
@[simp] theorem sat_cnt : sat (evS Φ .cnt e) R ↔ R .ct e := by rw [evS]; simp
theorem sat_mono {α : Type} {o : Option (α × Env)} {Q Q' : α → Env → Prop} (h : sat o Q) (i : ∀ a e, Q a e → Q' a e) : sat o Q' := by
  obtain ⟨a, e, h, q⟩ := h
  exact ⟨a, e, h, i a e q⟩
/-- a while by an invariant and a measure -/
theorem sat_whl {ks : List Nat} {c b : T} (I : Nat → Env → Prop) {m : Nat} (h0 : I m e)
    (hs : ∀ m e, I m e → sat (evE Φ c e) fun x e => isB x fun c => if c = true then sat (evS Φ b e) fun f e => match f with
      | .nx => ∃ m', m' < m ∧ I m' (kill ks e)
      | .ct => ∃ m', m' < m ∧ I m' (kill ks e)
      | .bk => R .nx (kill ks e)
      | .rt d => R (.rt d) e
      else R .nx (kill ks e)) : sat (evS Φ (.whl ks c b) e) R := by
  have key : ∀ m e, I m e → ∃ n f e', whN ks (evE Φ c) (evS Φ b) n e = some (f, e') ∧ R f e' := by
    intro m
    induction m using Nat.strongRecOn with
    | ind m ih =>
      intro e h
      have z := hs m e h
      obtain ⟨x, e1, hc, z⟩ := z
      cases x <;> try (exact False.elim z)
      rename_i cb
      cases cb with
      | false => exact ⟨1, _, _, by rw [whN_succ, hc], z⟩
      | true =>
        obtain ⟨f, e2, hb, z⟩ := z
        cases f with
        | nx =>
          obtain ⟨m', hm, hi⟩ := z
          obtain ⟨n, f', e', hn, q⟩ := ih m' hm _ hi
          exact ⟨n + 1, f', e', by rw [whN_succ, hc]; simp only [hb]; exact hn, q⟩
        | ct =>
          obtain ⟨m', hm, hi⟩ := z
          obtain ⟨n, f', e', hn, q⟩ := ih m' hm _ hi
          exact ⟨n + 1, f', e', by rw [whN_succ, hc]; simp only [hb]; exact hn, q⟩
        | bk => exact ⟨1, _, _, by rw [whN_succ, hc]; simp only [hb], z⟩
        | rt d => exact ⟨1, _, _, by rw [whN_succ, hc]; simp only [hb], z⟩
  obtain ⟨n, f, e', hn, q⟩ := key m e h0
  exact ⟨f, e', by rw [evS]; exact whD_of hn, q⟩
theorem sat_loopF {ks : List Nat} {f : D → Env → Option (Fl × Env)} {xs : List D} (I : Nat → Env → Prop) (h0 : I 0 e)
    (hs : ∀ i x e, xs[i]? = some x → I i e → sat (f x e) fun f e => match f with
      | .nx => I (i + 1) (kill ks e)
      | .ct => I (i + 1) (kill ks e)
      | .bk => R .nx (kill ks e)
      | .rt d => R (.rt d) e)
    (hd : ∀ e, I xs.length e → R .nx (kill ks e)) : sat (loopF ks f xs e) R := by
  induction xs generalizing e I with
  | nil => rw [loopF]; simp; exact hd e h0
  | cons x xs ih =>
    rw [loopF]
    obtain ⟨g, e1, hf, z⟩ := hs 0 x e rfl h0
    rw [hf]
    cases g with
    | nx => exact ih (fun i e => I (i + 1) e) z (fun i y e hy => hs (i + 1) y e (by simpa using hy)) (fun e h => hd e (by simpa using h))
    | ct => exact ih (fun i e => I (i + 1) e) z (fun i y e hy => hs (i + 1) y e (by simpa using hy)) (fun e h => hd e (by simpa using h))
    | bk => simpa using z
    | rt d => simpa using z
/-- one turn of a for -/
noncomputable def forF (Φ : Fs) (tg : List Nat) (b : T) : D → Env → Option (Fl × Env) := fun x e => match bindT tg x e with
  | some e => evS Φ b e
  | none => none
@[simp] theorem sat_for {tg ks : List Nat} {it b : T} : sat (evS Φ (.for_ tg ks it b) e) R ↔ sat (evI Φ it e) fun xs e => sat (loopF ks (forF Φ tg b) xs e) R := by
  have h : evS Φ (.for_ tg ks it b) e = match evI Φ it e with
    | some (xs, e) => loopF ks (forF Φ tg b) xs e
    | none => none := by rw [evS]; rfl
  rw [h]
  rcases evI Φ it e with _ | ⟨xs, e⟩
  · simp
  · simp only [sat_some]
/-- a for by an invariant -/
theorem sat_forI {tg ks : List Nat} {b : T} {xs : List D} (I : Nat → Env → Prop) (h0 : I 0 e)
    (hs : ∀ i x e, xs[i]? = some x → I i e → opt (bindT tg x e) fun e => sat (evS Φ b e) fun f e => match f with
      | .nx => I (i + 1) (kill ks e)
      | .ct => I (i + 1) (kill ks e)
      | .bk => R .nx (kill ks e)
      | .rt d => R (.rt d) e)
    (hd : ∀ e, I xs.length e → R .nx (kill ks e)) : sat (loopF ks (forF Φ tg b) xs e) R :=
  sat_loopF I h0 (fun i x e hx hI => by
    obtain ⟨e1, he, z⟩ := hs i x e hx hI
    unfold forF
    simp only [he]; exact z) hd
/-! ### iterators -/
variable {L : List D → Env → Prop}
@[simp] theorem sat_rng1 {a : T} : sat (evI Φ (.rng1 a) e) L ↔ sat (evE Φ a e) fun x e => isI x fun n => (n ≤ big ∧ -(2 ^ 62) ≤ n) ∧ L ((List.range n.toNat).map fun k => .int (k : Nat)) e := by
  rw [evI]
  rcases evE Φ a e with _ | ⟨x, e⟩
  · simp
  · simp only [sat_some]
    cases x <;> simp only [isI, sat_none]
    rename_i n
    simp only [sat_ite]
    split <;> rename_i h
    · simp only [h, sat_some]; simp
    · simp only [h, sat_none, false_and]
@[simp] theorem sat_rng2 {a b : T} : sat (evI Φ (.rng2 a b) e) L ↔ sat (evE Φ a e) fun x e => isI x fun m => sat (evE Φ b e) fun y e => isI y fun n => (-(2 ^ 62) ≤ m ∧ m < 2 ^ 62 ∧ -(2 ^ 62) ≤ n ∧ n < 2 ^ 62 ∧ n - m ≤ big) ∧ L ((List.range (n - m).toNat).map fun k => .int (m + (k : Nat))) e := by
  rw [evI]
  rcases evE Φ a e with _ | ⟨x, e⟩
  · simp
  · simp only [sat_some]
    cases x <;> simp only [isI, sat_none]
    rcases evE Φ b e with _ | ⟨y, e⟩
    · simp
    · simp only [sat_some]
      cases y <;> simp only [sat_none]
      simp only [sat_ite]
      split <;> rename_i h
      · simp only [h, sat_some]; simp
      · simp only [h, sat_none, false_and]
@[simp] theorem sat_rng3 {a b : T} {c : Int} : sat (evI Φ (.rng3 a b c) e) L ↔ sat (evE Φ a e) fun x e => isI x fun m => sat (evE Φ b e) fun y e => isI y fun n => (-(2 ^ 61) ≤ m ∧ m < 2 ^ 61 ∧ -(2 ^ 61) ≤ n ∧ n < 2 ^ 61 ∧ 0 < c ∧ c < 1000000000 ∧ n - m ≤ big) ∧ L ((List.range (rngN m n c)).map fun k => .int (m + (k : Nat) * c)) e := by
  rw [evI]
  rcases evE Φ a e with _ | ⟨x, e⟩
  · simp
  · simp only [sat_some]
    cases x <;> simp only [isI, sat_none]
    rcases evE Φ b e with _ | ⟨y, e⟩
    · simp
    · simp only [sat_some]
      cases y <;> simp only [sat_none]
      simp only [sat_ite]
      split <;> rename_i h
      · simp only [h, sat_some]; simp
      · simp only [h, sat_none, false_and]
@[simp] theorem sat_itr {a : T} : sat (evI Φ (.itr a) e) L ↔ sat (evE Φ a e) fun d e => opt (items d) fun xs => L (shrL xs) e := by
  rw [evI]
  rcases evE Φ a e with _ | ⟨d, e⟩
  · simp
  · simp only [sat_some]
    cases items d <;> simp
@[simp] theorem items_lst {o : Bool} {xs : List D} : items (.lst o xs) = some xs := rfl
@[simp] theorem items_tup {xs : List D} : items (.tup xs) = some xs := rfl
def isL (x : D) (Q : List D → Prop) (_ : Tg Q := ⟨⟩) : Prop := match x with
  | .lst _ xs => Q xs
  | _ => False
@[simp] theorem isL_lst {o : Bool} {xs : List D} {Q : List D → Prop} : isL (.lst o xs) Q ↔ Q xs := Iff.rfl
@[simp] theorem sat_zip {a b : T} : sat (evI Φ (.zip a b) e) L ↔ sat (evE Φ a e) fun x e => isL x fun xs => sat (evE Φ b e) fun y e => isL y fun ys => L (zipD (shrL xs) (shrL ys)) e := by
  rw [evI]
  rcases evE Φ a e with _ | ⟨x, e⟩
  · simp
  · simp only [sat_some]
    cases x <;> simp only [isL, sat_none]
    rcases evE Φ b e with _ | ⟨y, e⟩
    · simp
    · simp only [sat_some]
      cases y <;> simp
/-! ### comprehensions -/
def lcF (Φ : Fs) (tg : List Nat) (c el : T) : D → Env → Option (Option D × Env) := fun x e => match bindT tg x e with
        | some e => match evE Φ c e with
          | some (.bl true, e) => match evE Φ el e with
            | some (d, e) => some (some d, kill tg e)
            | none => none
          | some (.bl false, e) => some (none, kill tg e)
          | _ => none
        | none => none
theorem sat_lc {tg : List Nat} {it c el : T} : sat (evE Φ (.lc tg it c el) e) Q ↔ sat (evI Φ it e) fun xs e => sat (loopC (lcF Φ tg c el) xs (kill tg e) []) fun ds e => Q (.lst true ds) e := by
  rw [evE]
  rcases evI Φ it e with _ | ⟨xs, e⟩
  · simp
  · simp only [sat_some]
    show sat (match loopC (lcF Φ tg c el) xs (kill tg e) [] with | some (ds, e) => _ | none => none) Q ↔ _
    rcases loopC (lcF Φ tg c el) xs (kill tg e) [] with _ | ⟨ds, e⟩ <;> simp
theorem sat_lcF {tg : List Nat} {c el : T} {x : D} {Q : Option D → Env → Prop} : sat (lcF Φ tg c el x e) Q ↔ opt (bindT tg x e) fun e => sat (evE Φ c e) fun y e => isB y fun b => if b = true then sat (evE Φ el e) fun d e => Q (some d) (kill tg e) else Q none (kill tg e) := by
  unfold lcF
  cases bindT tg x e with
  | none => simp
  | some e =>
    simp only [opt_some]
    rcases evE Φ c e with _ | ⟨y, e⟩
    · simp
    · simp only [sat_some]
      cases y <;> simp only [isB, sat_none]
      rename_i b
      cases b
      · simp
      · simp only [if_true]
        rcases evE Φ el e with _ | ⟨d, e⟩ <;> simp
/-- a comprehension that leaves the slots as they are: a map of the items -/
theorem loopC_map {f : D → Env → Option (Option D × Env)} {g : Nat → D} {xs : List D} {acc : List D} (h : ∀ i x, xs[i]? = some x → f x e = some (some (g i), e)) : loopC f xs e acc = some (acc ++ (List.range xs.length).map g, e) := by
  induction xs generalizing acc g with
  | nil => simp [loopC]
  | cons x xs ih =>
    rw [loopC, h 0 x rfl]
    simp only
    rw [ih (g := fun i => g (i + 1)) (fun i y hy => h (i + 1) y (by simpa using hy))]
    congr 2
    simp [List.range_succ_eq_map, Function.comp]
theorem loopC_mapE {f : D → Env → Option (Option D × Env)} {g : D → D} {xs : List D} {acc : List D} (h : ∀ x ∈ xs, f x e = some (some (g x), e)) : loopC f xs e acc = some (acc ++ xs.map g, e) := by
  induction xs generalizing acc with
  | nil => simp [loopC]
  | cons x xs ih =>
    rw [loopC, h x List.mem_cons_self]
    simp only
    rw [ih fun y hy => h y (List.mem_cons_of_mem _ hy)]
    simp
theorem loopC_fm {f : D → Env → Option (Option D × Env)} {g : D → Option D} {xs : List D} {acc : List D} (h : ∀ x ∈ xs, f x e = some (g x, e)) : loopC f xs e acc = some (acc ++ xs.filterMap g, e) := by
  induction xs generalizing acc with
  | nil => simp [loopC]
  | cons x xs ih =>
    rw [loopC, h x List.mem_cons_self]
    cases hg : g x with
    | none =>
      simp only
      rw [ih fun y hy => h y (List.mem_cons_of_mem _ hy)]
      simp [hg]
    | some d =>
      simp only
      rw [ih fun y hy => h y (List.mem_cons_of_mem _ hy)]
      simp [hg]
/-! ### targets, kills -/
@[simp] theorem bind1 {i : Nat} {d : D} : bindT [i] d e = some (e.set i (some d)) := by cases d <;> rfl
@[simp] theorem bind2 {i j : Nat} {x y : D} : bindT [i, j] (.tup [x, y]) e = some ((e.set i (some x)).set j (some y)) := rfl
@[simp] theorem bind3 {i j k : Nat} {x y z : D} : bindT [i, j, k] (.tup [x, y, z]) e = some (((e.set i (some x)).set j (some y)).set k (some z)) := rfl
@[simp] theorem kill_nil : kill [] e = e := rfl
@[simp] theorem kill_cons {i : Nat} {r : List Nat} : kill (i :: r) e = kill r (e.set i none) := rfl
/-! ### defs -/
theorem run_of {d : Df} {ds : List D} {r : D} {os : List (Option D)} (hl : ds.length = d.io.length) (h : sat (evS Φ d.body (ds.map some ++ List.replicate (d.names - ds.length) none)) fun f e => (match f with
      | .rt x => x = r
      | .nx => D.non = r
      | _ => False) ∧ outs d.io e = os) : runDf Φ d ds = some (r, os) := by
  obtain ⟨f, e, he, h1, h2⟩ := h
  unfold runDf
  rw [if_pos hl, he]
  cases f with
  | rt x => simp only at h1 ⊢; rw [h1, h2]
  | nx => simp only at h1 ⊢; rw [h1, h2]
  | bk => exact h1.elim
  | ct => exact h1.elim
@[simp] theorem outs_nil : outs [] e = [] := rfl
@[simp] theorem outs_f {io : List Bool} {o : Option D} : outs (false :: io) (o :: e) = none :: outs io e := rfl
@[simp] theorem outs_t {io : List Bool} {o : Option D} : outs (true :: io) (o :: e) = o :: outs io e := by cases o <;> rfl
@[simp] theorem fns_run {P : Nat → Df} {n f : Nat} {ds : List D} : (fnsN P (n + 1)).run f ds = runDf (fnsN P n) (P f) ds := rfl
@[simp] theorem fl_rt {d : D} {p : Prop} : True := trivial
/-! ### stores -/
@[simp] theorem isPl_v {i : Nat} : isPl (.v i) = true := rfl
@[simp] theorem isPl_ix {a b : T} : isPl (.ix a b) = (isPl a && isP b) := rfl
@[simp] theorem setP_v {i : Nat} {f : D → Option D} {Q : Env → Prop} : opt (setP (.v i) f e) Q ↔ opt (e.at i) fun d => opt (f d) fun d => Q (e.set i (some d)) := by
  rw [setP]
  cases e.at i with
  | none => simp
  | some d =>
    simp only [opt_some]
    cases f d <;> simp
@[simp] theorem setP_ix {a b : T} {f : D → Option D} {Q : Env → Prop} : opt (setP (.ix a b) f e) Q ↔ opt (evP b e) fun y => isI y fun k => opt (setP a (setAt k f) e) Q := by
  rw [setP]
  cases evP b e with
  | none => simp
  | some y => cases y <;> simp [isI]
@[simp] theorem appD_own {x : D} {xs : List D} : appD x (.lst true xs) = if xs.length < big then some (.lst true (xs ++ [x])) else none := rfl
theorem putD_nat {x : D} {xs : List D} {k : Int} {j : Nat} (h : k = (j : Int)) (hj : j < xs.length) : putD k x (.lst true xs) = some (.lst true (xs.set j x)) := by
  subst h
  have : putD (j : Int) x (.lst true xs) = match ixN xs.length (j : Int) with
    | some j => some (.lst true (xs.set j x))
    | none => none := rfl
  rw [this, ixN_nat hj]
/-! ### int lists -/
def cell (ns : List Int) (k : Int) : Int := ns.getD k.toNat 0
theorem atI_map (ns : List Int) {k : Int} (h0 : 0 ≤ k) (h : k < ns.length) : atI (ns.map D.int) k = some (.int (cell ns k)) := by
  have hk : k.toNat < ns.length := by omega
  have e : k = ((k.toNat : Nat) : Int) := by omega
  have : atI (ns.map D.int) ((k.toNat : Nat) : Int) = some (.int (cell ns k)) := by
    unfold atI
    rw [ixN_nat (by simpa using hk)]
    simp [cell, List.getD, List.getElem?_eq_getElem hk]
  rw [← e] at this
  exact this
theorem eqv_int {i j : Int} : eqv (.int i) (.int j) = decide (i = j) := by
  show PyData.eqv (.int i) (.int j) = _
  rw [PyData.eqv]
  rfl
@[simp] theorem opt_if {α : Type} {c : Prop} [Decidable c] {a : α} {Q : α → Prop} : opt (if c then some a else none) Q ↔ c ∧ Q a := by
  by_cases h : c <;> simp [h]
@[simp] theorem opt_if' {α : Type} {c : Prop} [Decidable c] {a : α} {Q : α → Prop} : opt (if c then none else some a) Q ↔ ¬ c ∧ Q a := by
  by_cases h : c <;> simp [h]
@[simp] theorem log2_ok {n : Nat} (h : n < 2 ^ 64) : (n.log2 < 9000) = True := by
  simp only [eq_iff_iff, iff_true]
  by_cases h0 : n = 0
  · subst h0; decide
  · have := (Nat.log2_lt h0).mpr h; omega
theorem mulOk_l {a b : Int} (h : a.natAbs < 2 ^ 64) : mulOk a b := IntMulOk.of_left (intBits_le_iff.mpr h)
theorem mulOk_r {a b : Int} (h : b.natAbs < 2 ^ 64) : mulOk a b := IntMulOk.of_right (intBits_le_iff.mpr h)
section
variable {a b b' : T} {n : Nat} {i : Int} {x : Str} {o : Bop} {c c' : Cop} {k : B1} {k' : BN} {l : List Nat}
@[simp] theorem notV_0 : notV (.non) = true := by simp [notV]
@[simp] theorem notV_1 {b : Bool} : notV (.bl b) = true := by simp [notV]
@[simp] theorem notV_2 : notV (.int i) = true := by simp [notV]
@[simp] theorem notV_3 : notV (.str x) = true := by simp [notV]
@[simp] theorem notV_4 : notV (.w n) = true := by simp [notV]
@[simp] theorem notV_5 : notV (.frz a) = true := by simp [notV]
@[simp] theorem notV_5' : notV (.lend a) = true := by simp [notV]
@[simp] theorem notV_6 : notV (.bin o a b) = true := by simp [notV]
@[simp] theorem notV_7 : notV (.neg a) = true := by simp [notV]
@[simp] theorem notV_8 : notV (.cmp c a b) = true := by simp [notV]
@[simp] theorem notV_9 : notV (.eq a b) = true := by simp [notV]
@[simp] theorem notV_10 : notV (.ne a b) = true := by simp [notV]
@[simp] theorem notV_11 : notV (.isN a) = true := by simp [notV]
@[simp] theorem notV_12 : notV (.nisN a) = true := by simp [notV]
@[simp] theorem notV_13 : notV (.chain c c' a b b') = true := by simp [notV]
@[simp] theorem notV_14 : notV (.and a b) = true := by simp [notV]
@[simp] theorem notV_15 : notV (.or a b) = true := by simp [notV]
@[simp] theorem notV_16 : notV (.not a) = true := by simp [notV]
@[simp] theorem notV_17 : notV (.ife a b b') = true := by simp [notV]
@[simp] theorem notV_18 : notV (.tup a) = true := by simp [notV]
@[simp] theorem notV_19 : notV (.lst a) = true := by simp [notV]
@[simp] theorem notV_20 : notV (.ix a b) = true := by simp [notV]
@[simp] theorem notV_21 : notV (.sl a b b') = true := by simp [notV]
@[simp] theorem notV_22 : notV (.call n a) = true := by simp [notV]
@[simp] theorem notV_23 : notV (.b1 k a) = true := by simp [notV]
@[simp] theorem notV_24 : notV (.bn k' a) = true := by simp [notV]
@[simp] theorem notV_25 : notV (.lc l a b b') = true := by simp [notV]
end
@[simp] theorem agIo_nil {Q : Env → Prop} : opt (agIo [] e) Q ↔ Q e := by rw [agIo]; simp
@[simp] theorem agIo_val {d : D} {r : List Ag} {Q : Env → Prop} : opt (agIo (.val d :: r) e) Q ↔ opt (agIo r e) Q := by rw [agIo]; intro i h; cases h
@[simp] theorem agIo_var {d : Nat} {r : List Ag} {Q : Env → Prop} : opt (agIo (.var d :: r) e) Q ↔ opt (agIo r e) Q := by rw [agIo]; intro i h; cases h
@[simp] theorem agIo_io {i : Nat} {r : List Ag} {Q : Env → Prop} : opt (agIo (.io i :: r) e) Q ↔ opt (e.at i) fun _ => opt (agIo r (e.set i none)) Q := by
  rw [agIo]
  cases e.at i <;> simp
variable {e' : Env}
@[simp] theorem agD_nil {Q : List D → Prop} : opt (agD e e' []) Q ↔ Q [] := by rw [agD]; simp
@[simp] theorem agD_val {d : D} {r : List Ag} {Q : List D → Prop} : opt (agD e e' (.val d :: r)) Q ↔ opt (agD e e' r) fun l => Q (d.shr :: l) := by
  rw [agD]
  cases agD e e' r <;> simp
@[simp] theorem agD_var {i : Nat} {r : List Ag} {Q : List D → Prop} : opt (agD e e' (.var i :: r)) Q ↔ opt (e'.at i) fun d => opt (agD e e' r) fun l => Q (d.shr :: l) := by
  rw [agD]
  cases e'.at i with
  | none => simp
  | some d => cases agD e e' r <;> simp
@[simp] theorem agD_io {i : Nat} {r : List Ag} {Q : List D → Prop} : opt (agD e e' (.io i :: r)) Q ↔ opt (e.at i) fun d => opt (agD (e.set i none) e' r) fun l => Q (d :: l) := by
  rw [agD]
  cases e.at i with
  | none => simp
  | some d => cases agD (e.set i none) e' r <;> simp
@[simp] theorem agBack_nil {Q : Env → Prop} : opt (agBack [] [] e) Q ↔ Q e := by rw [agBack]; simp
@[simp] theorem agBack_val {d : D} {r : List Ag} {o : Option D} {os : List (Option D)} {Q : Env → Prop} : opt (agBack (.val d :: r) (o :: os) e) Q ↔ opt (agBack r os e) Q := by rw [agBack]; intro i h; cases h
@[simp] theorem agBack_var {d : Nat} {r : List Ag} {o : Option D} {os : List (Option D)} {Q : Env → Prop} : opt (agBack (.var d :: r) (o :: os) e) Q ↔ opt (agBack r os e) Q := by rw [agBack]; intro i h; cases h
@[simp] theorem agBack_io {i : Nat} {r : List Ag} {o : Option D} {os : List (Option D)} {Q : Env → Prop} : opt (agBack (.io i :: r) (o :: os) e) Q ↔ opt (agBack r os (e.set i o)) Q := by rw [agBack]
@[simp] theorem agFz_nil : agFz [] e = e := rfl
@[simp] theorem agFz_val {d : D} {r : List Ag} : agFz (.val d :: r) e = agFz r e := rfl
@[simp] theorem agFz_io {d : Nat} {r : List Ag} : agFz (.io d :: r) e = agFz r e := rfl
theorem agFz_var {i : Nat} {r : List Ag} {d : D} (h : e.at i = some d) : agFz (.var i :: r) e = agFz r (e.set i (some d.shr)) := by
  rw [agFz, h]
end Sr
namespace Sr
open PySem PySem.Spec PyProof.Rows L2
theorem atI_lit {α : Type} {xs : List α} {j : Nat} {x : α} (h : xs[j]? = some x) : atI xs (j : Int) = some x := by
  obtain ⟨hj, _⟩ := List.getElem?_eq_some_iff.mp h
  unfold atI
  rw [ixN_nat hj]; exact h
@[simp] theorem atI_0 {α : Type} {x : α} {xs : List α} : atI (x :: xs) 0 = some x := atI_lit (j := 0) rfl
@[simp] theorem atI_1 {α : Type} {x y : α} {xs : List α} : atI (x :: y :: xs) 1 = some y := atI_lit (j := 1) rfl
@[simp] theorem atI_2 {α : Type} {x y z : α} {xs : List α} : atI (x :: y :: z :: xs) 2 = some z := atI_lit (j := 2) rfl
@[simp] theorem atI_3 {α : Type} {x y z u : α} {xs : List α} : atI (x :: y :: z :: u :: xs) 3 = some u := atI_lit (j := 3) rfl
@[simp] theorem atI_4 {α : Type} {x y z u v : α} {xs : List α} : atI (x :: y :: z :: u :: v :: xs) 4 = some v := atI_lit (j := 4) rfl
@[simp] theorem atI_5 {α : Type} {x y z u v w : α} {xs : List α} : atI (x :: y :: z :: u :: v :: w :: xs) 5 = some w := atI_lit (j := 5) rfl
/-- one statement, then the others -/
theorem sat_cut {Φ : Fs} {e : Env} {R : Fl → Env → Prop} {a b : T} (I : Env → Prop) (h1 : sat (evS Φ a e) fun f e => f = .nx ∧ I e) (h2 : ∀ e, I e → sat (evS Φ b e) R) : sat (evS Φ (.seq a b) e) R := by
  rw [sat_seq]
  exact sat_mono h1 fun f e ⟨hf, hi⟩ => by subst hf; exact h2 e hi
end Sr
namespace Sr
@[simp] theorem le_big {n : Nat} (h : n ≤ 1000000) : (n ≤ big) = True := eq_true h
end Sr
set_option Elab.async false
set_option linter.all false
set_option maxRecDepth 100000
/-! # Sr: equality of data -/
namespace Sr
open PySem PySem.Spec PyProof.Rows L2
theorem range_get {n i k : Nat} (h : (List.range n)[i]? = some k) : i < n ∧ k = i := by
  obtain ⟨h1, h2⟩ := List.getElem?_eq_some_iff.mp h
  rw [List.length_range] at h1
  rw [List.getElem_range] at h2
  exact ⟨h1, h2.symm⟩
def okN (n : Nat) (d : D) : Prop := d.py.canLay0 = true ∧ d.py.depth ≤ n
def okL (n : Nat) (xs : List D) : Prop := PyData.canLayAll0 (pyL xs) = true ∧ PyData.depthAll (pyL xs) ≤ n
theorem eqOk_iff {d : D} : eqOk d = true ↔ okN 64 d := by
  unfold eqOk SeqAt.shaped okN
  simp
@[simp] theorem okN_tup {n : Nat} {xs : List D} : okN (n + 1) (.tup xs) ↔ okL n xs := by
  unfold okN okL
  rw [D.py, PyData.canLay0, PyData.depth]
  constructor <;> (rintro ⟨h1, h2⟩; exact ⟨h1, by omega⟩)
@[simp] theorem okN_lst {n : Nat} {o : Bool} {xs : List D} : okN (n + 1) (.lst o xs) ↔ okL n xs := by
  unfold okN okL
  rw [D.py, PyData.canLay0, PyData.depth]
  constructor <;> (rintro ⟨h1, h2⟩; exact ⟨h1, by omega⟩)
@[simp] theorem okN_int {n : Nat} {i : Int} : okN (n + 1) (.int i) := by unfold okN; rw [D.py]; exact ⟨rfl, by rw [PyData.depth] <;> omega⟩
@[simp] theorem okN_bl {n : Nat} {i : Bool} : okN (n + 1) (.bl i) := by unfold okN; rw [D.py]; exact ⟨rfl, by rw [PyData.depth] <;> omega⟩
@[simp] theorem okN_non {n : Nat} : okN (n + 1) .non := by unfold okN; rw [D.py]; exact ⟨rfl, by rw [PyData.depth] <;> omega⟩
@[simp] theorem okL_nil {n : Nat} : okL n [] := by unfold okL; rw [pyL]; exact ⟨rfl, by rw [PyData.depthAll] <;> omega⟩
@[simp] theorem okL_cons {n : Nat} {d : D} {xs : List D} : okL n (d :: xs) ↔ okN n d ∧ okL n xs := by
  unfold okN okL
  rw [pyL, PyData.canLayAll0, PyData.depthAll, Bool.and_eq_true]
  constructor
  · rintro ⟨⟨h1, h2⟩, h3⟩; exact ⟨⟨h1, by omega⟩, h2, by omega⟩
  · rintro ⟨⟨h1, h2⟩, h3, h4⟩; exact ⟨⟨h1, h3⟩, by omega⟩
theorem okL_iff {n : Nat} {xs : List D} : okL n xs ↔ ∀ x ∈ xs, okN n x := by
  induction xs with
  | nil => simp
  | cons a r ih => simp [ih]
@[simp] theorem okL_ints {n : Nat} {ns : List Int} : okL (n + 1) (ns.map D.int) := by
  induction ns with
  | nil => simp
  | cons a r ih => simp [ih]
@[simp] theorem okL_app {n : Nat} {xs ys : List D} : okL n (xs ++ ys) ↔ okL n xs ∧ okL n ys := by
  induction xs with
  | nil => simp
  | cons a r ih => simp [ih, and_assoc]
@[simp] theorem eqOk_tup {xs : List D} : eqOk (.tup xs) = true ↔ okL 63 xs := by rw [eqOk_iff]; exact okN_tup (n := 63)
@[simp] theorem eqOk_lst {o : Bool} {xs : List D} : eqOk (.lst o xs) = true ↔ okL 63 xs := by rw [eqOk_iff]; exact okN_lst (n := 63)
theorem eqv_self {n : Nat} {d : D} (h : okN n d) : eqv d d = true := PySem.SeqAt.eqv_refl d.py h.1
theorem eqv_selfT {n : Nat} {xs : List D} (h : okL n xs) : eqv (.tup xs) (.tup xs) = true := eqv_self (n := n + 1) (okN_tup.mpr h)
theorem eqv_selfL {n : Nat} {o o' : Bool} {xs : List D} (h : okL n xs) : eqv (.lst o xs) (.lst o' xs) = true := eqv_self (n := n + 1) (d := .lst o xs) (okN_lst.mpr h)
@[simp] theorem eqv_i {i j : Int} : eqv (.int i) (.int j) = decide (i = j) := eqv_int
@[simp] theorem eqv_b {i j : Bool} : eqv (.bl i) (.bl j) = (i == j) := by unfold eqv; rw [D.py, D.py, PyData.eqv]
@[simp] theorem eqv_nn : eqv .non .non = true := by unfold eqv; rw [D.py, PyData.eqv]
@[simp] theorem eqv_ni {i : Int} : eqv .non (.int i) = false := by unfold eqv; rw [D.py, D.py, PyData.eqv]
@[simp] theorem eqv_in {i : Int} : eqv (.int i) .non = false := by unfold eqv; rw [D.py, D.py, PyData.eqv]
@[simp] theorem eqv_t0 : eqv (.tup []) (.tup []) = true := by unfold eqv; rw [D.py, PyData.eqv, pyL, PyData.eqvAll]
@[simp] theorem eqv_t {x y : D} {xs ys : List D} : eqv (.tup (x :: xs)) (.tup (y :: ys)) = (eqv x y && eqv (.tup xs) (.tup ys)) := by
  unfold eqv; rw [D.py, D.py, PyData.eqv, pyL, pyL, PyData.eqvAll, D.py, D.py, PyData.eqv]
@[simp] theorem eqv_l0 {o o' : Bool} : eqv (.lst o []) (.lst o' []) = true := by unfold eqv; rw [D.py, D.py, PyData.eqv, pyL, PyData.eqvAll]
@[simp] theorem eqv_l {o o' : Bool} {x y : D} {xs ys : List D} : eqv (.lst o (x :: xs)) (.lst o' (y :: ys)) = (eqv x y && eqv (.lst o xs) (.lst o' ys)) := by
  unfold eqv; rw [D.py, D.py, PyData.eqv, pyL, pyL, PyData.eqvAll, D.py, D.py, PyData.eqv]
@[simp] theorem eqv_nt {xs : List D} : eqv .non (.tup xs) = false := by unfold eqv; rw [D.py, D.py, PyData.eqv]
@[simp] theorem eqv_tn {xs : List D} : eqv (.tup xs) .non = false := by unfold eqv; rw [D.py, D.py, PyData.eqv]
variable {Φ : Fs} {e : Env} {Q : D → Env → Prop}
@[simp] theorem sat_inn {a b : T} : sat (evE Φ (.inn a b) e) Q ↔ sat (rdE Φ (isP a && isP b) a e) fun x e => sat (rdE Φ (isP b) b e) fun y e => isL y fun ys => (eqOk x = true ∧ eqOk y = true) ∧ Q (.bl (inD x ys)) e := by
  rw [evE]
  show sat (match rdE Φ (isP a && isP b) a e with | some (x, e) => _ | none => none) Q ↔ _
  rcases rdE Φ (isP a && isP b) a e with _ | ⟨x, e⟩
  · simp
  · simp only [sat_some]
    show sat (match rdE Φ (isP b) b e with | some (.lst o ys, e) => _ | _ => none) Q ↔ _
    rcases rdE Φ (isP b) b e with _ | ⟨y, e⟩
    · simp
    · simp only [sat_some]
      cases y <;> simp only [isL, sat_none]
      rename_i o ys
      simp only [sat_ite, Bool.and_eq_true]
      split <;> simp_all
@[simp] theorem sat_nin {a b : T} : sat (evE Φ (.nin a b) e) Q ↔ sat (rdE Φ (isP a && isP b) a e) fun x e => sat (rdE Φ (isP b) b e) fun y e => isL y fun ys => (eqOk x = true ∧ eqOk y = true) ∧ Q (.bl (!inD x ys)) e := by
  rw [evE]
  show sat (match rdE Φ (isP a && isP b) a e with | some (x, e) => _ | none => none) Q ↔ _
  rcases rdE Φ (isP a && isP b) a e with _ | ⟨x, e⟩
  · simp
  · simp only [sat_some]
    show sat (match rdE Φ (isP b) b e with | some (.lst o ys, e) => _ | _ => none) Q ↔ _
    rcases rdE Φ (isP b) b e with _ | ⟨y, e⟩
    · simp
    · simp only [sat_some]
      cases y <;> simp only [isL, sat_none]
      rename_i o ys
      simp only [sat_ite, Bool.and_eq_true]
      split <;> simp_all
@[simp] theorem inD_nil {x : D} : inD x [] = false := rfl
@[simp] theorem inD_cons {x y : D} {ys : List D} : inD x (y :: ys) = (eqv y x || inD x ys) := rfl
@[simp] theorem binD_tcat {xs ys : List D} : binD .add (.tup xs) (.tup ys) = if (unL xs && unL ys && !xs.isEmpty && decide (xs.length + ys.length ≤ big)) = true then some (.tup (xs ++ ys)) else none := rfl
@[simp] theorem sat_apq {p a : T} {R : Fl → Env → Prop} : sat (evS Φ (.apq p a) e) R ↔ (isPl p && isQ a) = true ∧ opt (evQ a e) fun x => opt (setP p (appD x) e) fun e => R .nx e := by
  rw [evS]
  by_cases h : (isPl p && isQ a) = true
  · rw [if_pos h]
    simp only [h, true_and]
    cases evQ a e with
    | none => simp
    | some x =>
      simp only [opt_some]
      cases setP p (appD x) e <;> simp
  · simp [h]
@[simp] theorem isQ_tup {a : T} : isQ (.tup a) = isQl a := by simp [isQ]
@[simp] theorem isQ_lst {a : T} : isQ (.lst a) = isQl a := by simp [isQ]
@[simp] theorem isQ_v {i : Nat} : isQ (.v i) = true := by simp [isQ]
@[simp] theorem isQ_int {i : Int} : isQ (.int i) = true := by simp [isQ]
@[simp] theorem isQ_non : isQ .non = true := by simp [isQ]
@[simp] theorem isQ_ix {a b : T} : isQ (.ix a b) = (isP a && isP b) := by simp [isQ]
@[simp] theorem isQ_bin {o : Bop} {a b : T} : isQ (.bin o a b) = (isP a && isP b) := by simp [isQ]
@[simp] theorem isQl_nil : isQl .nil = true := by simp [isQl]
@[simp] theorem isQl_cons {a r : T} : isQl (.cons a r) = (isP a && isQl r) := by simp [isQl]
@[simp] theorem opt_Ql_nil {Q : List D → Prop} : opt (evQl .nil e) Q ↔ Q [] := by
  rw [evQl]
  · simp
  · intro a r z; cases z
@[simp] theorem opt_Ql_cons {a r : T} {Q : List D → Prop} : opt (evQl (.cons a r) e) Q ↔ opt (evP a e) fun d => opt (evQl r e) fun ds => d.un = true ∧ Q (d :: ds) := by
  rw [evQl]
  cases evP a e with
  | none => simp
  | some d =>
    cases evQl r e with
    | none => simp
    | some ds =>
      simp only [opt_some]
      by_cases h : d.un = true <;> simp [h]
@[simp] theorem opt_Q_tup {a : T} {Q : D → Prop} : opt (evQ (.tup a) e) Q ↔ opt (evQl a e) fun ds => ds.length ≤ big ∧ Q (.tup ds) := by
  rw [evQ]
  cases evQl a e with
  | none => simp
  | some ds =>
    simp only [opt_some]
    by_cases h : ds.length ≤ big <;> simp [h]
@[simp] theorem opt_Q_lst {a : T} {Q : D → Prop} : opt (evQ (.lst a) e) Q ↔ opt (evQl a e) fun ds => ds.length ≤ big ∧ Q (.lst true ds) := by
  rw [evQ]
  cases evQl a e with
  | none => simp
  | some ds =>
    simp only [opt_some]
    by_cases h : ds.length ≤ big <;> simp [h]
theorem opt_Q_P {a : T} {Q : D → Prop} (h : evQ a e = match evP a e with
  | some d => if d.un then some d else none
  | none => none) : opt (evQ a e) Q ↔ opt (evP a e) fun d => d.un = true ∧ Q d := by
  rw [h]
  cases evP a e with
  | none => simp
  | some d =>
    simp only [opt_some]
    by_cases h : d.un = true <;> simp [h]
@[simp] theorem opt_Q_v {i : Nat} {Q : D → Prop} : opt (evQ (.v i) e) Q ↔ opt (evP (.v i) e) fun d => d.un = true ∧ Q d := opt_Q_P rfl
@[simp] theorem opt_Q_int {i : Int} {Q : D → Prop} : opt (evQ (.int i) e) Q ↔ opt (evP (.int i) e) fun d => d.un = true ∧ Q d := opt_Q_P rfl
@[simp] theorem opt_Q_ix {a b : T} {Q : D → Prop} : opt (evQ (.ix a b) e) Q ↔ opt (evP (.ix a b) e) fun d => d.un = true ∧ Q d := opt_Q_P rfl
@[simp] theorem opt_Q_bin {o : Bop} {a b : T} {Q : D → Prop} : opt (evQ (.bin o a b) e) Q ↔ opt (evP (.bin o a b) e) fun d => d.un = true ∧ Q d := opt_Q_P rfl
end Sr
set_option Elab.async false
set_option linter.all false
set_option maxRecDepth 100000
set_option maxHeartbeats 4000000
namespace Sr
open PySem PySem.Spec PyProof.Rows L2
abbrev F_divisor : Nat := 0
abbrev F_rest : Nat := 36
abbrev F_rest_has : Nat := 37
abbrev F_rest_inside : Nat := 41
abbrev F_rest_joined : Nat := 42
abbrev F_inverse : Nat := 43
abbrev F_rest_met : Nat := 44
abbrev F_rest_plus : Nat := 51
abbrev F_rest_times : Nat := 52
abbrev F_rest_parted : Nat := 53
abbrev F_rest_rested : Nat := 54
abbrev F_rest_loosened : Nat := 55
abbrev F_rest_under : Nat := 61
abbrev F_box_sum : Nat := 63
abbrev F_sum_plus : Nat := 64
abbrev F_sum_times : Nat := 65
abbrev F_sum_rest : Nat := 69
abbrev F__law_mixed : Nat := 154
abbrev F__law_pick_0c7c : Nat := 155
abbrev F__law_number_56fb : Nat := 156
abbrev F__law_slack : Nat := 157
abbrev F__law_rest_of : Nat := 158
abbrev F__law_rest_f4ab : Nat := 159
abbrev F__law_told_2ac3 : Nat := 160
abbrev F__law_copy_13a6 : Nat := 161
abbrev F__law_lies_38ce : Nat := 162
abbrev F__law_gcd : Nat := 166
abbrev F__law_spoilt : Nat := 169
abbrev F__law_under : Nat := 170
abbrev F__law_rest_in : Nat := 171
abbrev F__law_inside_5dab : Nat := 172
abbrev F__law_whole_92eb : Nat := 176
abbrev F__law_grid : Nat := 177
abbrev F__law_shape_824f : Nat := 178
abbrev F__law_same_a595 : Nat := 179
abbrev F_closed : Nat := 182
abbrev F__law_over_50ad : Nat := 183
abbrev F__law_least_sums : Nat := 184
abbrev F_fixed : Nat := 185
abbrev F_handed_over : Nat := 186
abbrev F_lowered : Nat := 187
abbrev F_sharp : Nat := 188
abbrev F__law_met_b438 : Nat := 191
abbrev F__law_handed : Nat := 192
abbrev F__law_lowered : Nat := 193
abbrev F__law_sharp : Nat := 194
abbrev F__law_agree : Nat := 195
abbrev F__law_change_a255 : Nat := 201
abbrev F_pair_of : Nat := 208
abbrev F_greatest : Nat := 209
abbrev F_least : Nat := 210
abbrev F__law_sum_0da3 : Nat := 211
abbrev F__law_value_c4d8 : Nat := 212
abbrev F__law_greatest_e95d : Nat := 213
abbrev F_recast : Nat := 217
abbrev F__law_less_6b17 : Nat := 218
abbrev F__law_sum_rest : Nat := 219
abbrev F__law_recast : Nat := 220
abbrev F_anew : Nat := 223
abbrev F__law_anew : Nat := 224
abbrev F_pull : Nat := 226
abbrev F_at_most : Nat := 227
abbrev F_rests_left : Nat := 228
abbrev F_same_left : Nat := 229
abbrev F_unlike_left : Nat := 230
abbrev F_even_left : Nat := 231
abbrev F_odd_left : Nat := 232
abbrev F_when : Nat := 233
abbrev F__law_with_2818 : Nat := 234
abbrev F__law_lesser : Nat := 235
abbrev F__law_at_most : Nat := 236
abbrev F__law_left_281c : Nat := 237
abbrev F__law_same_left : Nat := 238
abbrev F__law_unlike : Nat := 239
abbrev F__law_with_c60b : Nat := 240
abbrev F__law_left_7da2 : Nat := 241
abbrev F__law_when : Nat := 242
abbrev F__law_holds_7701 : Nat := 243
abbrev F__law_plain_01db : Nat := 244
abbrev F__law_claim_468c : Nat := 245
abbrev F__law_asked_182b : Nat := 246
def d_divisor : Df := ⟨[false, false], 5, .seq (.asg 2 (.b1 .abs (.v 0))) (.seq (.asg 3 (.b1 .abs (.v 1))) (.seq (.whl [4] (.ne (.v 3) (.int 0)) (.seq (.asg 4 (.bin .mod (.v 2) (.v 3))) (.seq (.asg 2 (.v 3)) (.seq (.asg 3 (.v 4)) .pass)))) (.seq (.ret (.v 2)) .pass)))⟩
def d_rest : Df := ⟨[false, false], 2, .seq (.cond (.cmp .lt (.v 0) (.int 0)) (.seq (.rse) .pass) (.pass)) (.seq (.cond (.eq (.v 0) (.int 0)) (.seq (.ret (.frz (.tup (.cons (.int 0) (.cons (.v 1) .nil))))) .pass) (.pass)) (.seq (.ret (.frz (.tup (.cons (.v 0) (.cons (.bin .mod (.v 1) (.v 0)) .nil))))) .pass))⟩
def d_rest_has : Df := ⟨[false, false], 2, .seq (.cond (.eq (.ix (.v 0) (.int 0)) (.int 0)) (.seq (.ret (.eq (.v 1) (.ix (.v 0) (.int 1)))) .pass) (.pass)) (.seq (.ret (.eq (.bin .mod (.bin .sub (.v 1) (.ix (.v 0) (.int 1))) (.ix (.v 0) (.int 0))) (.int 0))) .pass)⟩
def d_rest_inside : Df := ⟨[false, false], 2, .seq (.cond (.not (.call F_rest_has (.cons (.v 1) (.cons (.ix (.v 0) (.int 1)) .nil)))) (.seq (.ret (.bl false)) .pass) (.pass)) (.seq (.cond (.eq (.ix (.v 1) (.int 0)) (.int 0)) (.seq (.ret (.eq (.ix (.v 0) (.int 0)) (.int 0))) .pass) (.pass)) (.seq (.ret (.eq (.bin .mod (.ix (.v 0) (.int 0)) (.ix (.v 1) (.int 0))) (.int 0))) .pass))⟩
def d_rest_joined : Df := ⟨[false, false], 3, .seq (.asg 2 (.call F_divisor (.cons (.bin .sub (.ix (.v 0) (.int 1)) (.ix (.v 1) (.int 1))) (.cons (.call F_divisor (.cons (.ix (.v 0) (.int 0)) (.cons (.ix (.v 1) (.int 0)) .nil))) .nil)))) (.seq (.ret (.frz (.call F_rest (.cons (.v 2) (.cons (.ix (.v 0) (.int 1)) .nil))))) .pass)⟩
def d_inverse : Df := ⟨[false, false], 8, .seq (.asg 2 (.v 1)) (.seq (.asg 3 (.bin .mod (.v 0) (.v 1))) (.seq (.asg 4 (.int 0)) (.seq (.asg 5 (.int 1)) (.seq (.whl [6, 7] (.ne (.v 3) (.int 0)) (.seq (.asg 6 (.bin .fdv (.v 2) (.v 3))) (.seq (.asg 7 (.bin .sub (.v 2) (.bin .mul (.v 6) (.v 3)))) (.seq (.asg 2 (.v 3)) (.seq (.asg 3 (.v 7)) (.seq (.asg 7 (.bin .sub (.v 4) (.bin .mul (.v 6) (.v 5)))) (.seq (.asg 4 (.v 5)) (.seq (.asg 5 (.v 7)) .pass)))))))) (.seq (.ret (.bin .mod (.v 4) (.v 1))) .pass)))))⟩
def d_rest_met : Df := ⟨[false, false], 5, .seq (.cond (.eq (.ix (.v 0) (.int 0)) (.int 0)) (.seq (.cond (.call F_rest_has (.cons (.v 1) (.cons (.ix (.v 0) (.int 1)) .nil))) (.seq (.ret (.v 0)) .pass) (.pass)) (.seq (.ret (.non)) .pass)) (.pass)) (.seq (.cond (.eq (.ix (.v 1) (.int 0)) (.int 0)) (.seq (.cond (.call F_rest_has (.cons (.v 0) (.cons (.ix (.v 1) (.int 1)) .nil))) (.seq (.ret (.v 1)) .pass) (.pass)) (.seq (.ret (.non)) .pass)) (.pass)) (.seq (.asg 2 (.call F_divisor (.cons (.ix (.v 0) (.int 0)) (.cons (.ix (.v 1) (.int 0)) .nil)))) (.seq (.asg 3 (.bin .sub (.ix (.v 1) (.int 1)) (.ix (.v 0) (.int 1)))) (.seq (.cond (.ne (.bin .mod (.v 3) (.v 2)) (.int 0)) (.seq (.ret (.non)) .pass) (.pass)) (.seq (.asg 4 (.bin .mul (.bin .fdv (.v 3) (.v 2)) (.call F_inverse (.cons (.bin .fdv (.ix (.v 0) (.int 0)) (.v 2)) (.cons (.bin .fdv (.ix (.v 1) (.int 0)) (.v 2)) .nil))))) (.seq (.ret (.frz (.call F_rest (.cons (.bin .mul (.bin .fdv (.ix (.v 0) (.int 0)) (.v 2)) (.ix (.v 1) (.int 0))) (.cons (.bin .add (.ix (.v 0) (.int 1)) (.bin .mul (.ix (.v 0) (.int 0)) (.bin .mod (.v 4) (.bin .fdv (.ix (.v 1) (.int 0)) (.v 2))))) .nil))))) .pass))))))⟩
def d_rest_plus : Df := ⟨[false, false], 2, .seq (.ret (.frz (.call F_rest (.cons (.call F_divisor (.cons (.ix (.v 0) (.int 0)) (.cons (.ix (.v 1) (.int 0)) .nil))) (.cons (.bin .add (.ix (.v 0) (.int 1)) (.ix (.v 1) (.int 1))) .nil))))) .pass⟩
def d_rest_times : Df := ⟨[false, false], 2, .seq (.ret (.frz (.call F_rest (.cons (.bin .mul (.ix (.v 0) (.int 0)) (.b1 .abs (.v 1))) (.cons (.bin .mul (.ix (.v 0) (.int 1)) (.v 1)) .nil))))) .pass⟩
def d_rest_parted : Df := ⟨[false, false], 2, .seq (.cond (.eq (.bin .mod (.ix (.v 0) (.int 0)) (.v 1)) (.int 0)) (.seq (.ret (.frz (.call F_rest (.cons (.bin .fdv (.ix (.v 0) (.int 0)) (.v 1)) (.cons (.bin .fdv (.ix (.v 0) (.int 1)) (.v 1)) .nil))))) .pass) (.pass)) (.seq (.ret (.frz (.tup (.cons (.int 1) (.cons (.int 0) .nil))))) .pass)⟩
def d_rest_rested : Df := ⟨[false, false], 3, .seq (.asg 2 (.call F_divisor (.cons (.ix (.v 0) (.int 0)) (.cons (.v 1) .nil)))) (.seq (.cond (.eq (.v 2) (.v 1)) (.seq (.ret (.frz (.tup (.cons (.int 0) (.cons (.bin .mod (.ix (.v 0) (.int 1)) (.v 1)) .nil))))) .pass) (.pass)) (.seq (.ret (.frz (.tup (.cons (.v 2) (.cons (.bin .mod (.ix (.v 0) (.int 1)) (.v 2)) .nil))))) .pass))⟩
def d_rest_loosened : Df := ⟨[false, false], 2, .seq (.ret (.frz (.call F_rest (.cons (.call F_divisor (.cons (.ix (.v 0) (.int 0)) (.cons (.v 1) .nil))) (.cons (.ix (.v 0) (.int 1)) .nil))))) .pass⟩
def d_rest_under : Df := ⟨[false, false], 2, .seq (.cond (.cmp .gt (.ix (.v 0) (.int 0)) (.int 0)) (.seq (.ret (.bin .sub (.v 1) (.bin .mod (.bin .sub (.v 1) (.ix (.v 0) (.int 1))) (.ix (.v 0) (.int 0))))) .pass) (.pass)) (.seq (.cond (.cmp .gt (.ix (.v 0) (.int 1)) (.v 1)) (.seq (.ret (.non)) .pass) (.pass)) (.seq (.ret (.frz (.ix (.v 0) (.int 1)))) .pass))⟩
def d_box_sum : Df := ⟨[false, false], 3, .seq (.asg 2 (.bin .mul (.lst (.cons (.int 0) .nil)) (.bin .add (.v 1) (.int 1)))) (.seq (.cond (.cmp .gt (.v 0) (.int 0)) (.seq (.st (.v 2) (.v 0) (.int 1)) .pass) (.pass)) (.seq (.ret (.v 2)) .pass))⟩
def d_sum_plus : Df := ⟨[false, false], 4, .seq (.ret (.lc [2, 3] (.zip (.v 0) (.v 1)) (.bl true) (.bin .add (.v 2) (.v 3)))) .pass⟩
def d_sum_times : Df := ⟨[false, false], 3, .seq (.ret (.lc [2] (.itr (.v 0)) (.bl true) (.bin .mul (.v 2) (.v 1)))) .pass⟩
def d_sum_rest : Df := ⟨[false, false], 4, .seq (.asg 2 (.frz (.tup (.cons (.int 0) (.cons (.ix (.v 0) (.int 0)) .nil))))) (.seq (.for_ [3] [3] (.rng1 (.b1 .len (.v 1))) (.seq (.asg 2 (.frz (.call F_rest_plus (.cons (.v 2) (.cons (.call F_rest_times (.cons (.ix (.v 1) (.v 3)) (.cons (.ix (.v 0) (.bin .add (.v 3) (.int 1))) .nil))) .nil))))) .pass)) (.seq (.ret (.frz (.v 2))) .pass))⟩
def d__law_mixed : Df := ⟨[false, false], 3, .seq (.asg 2 (.bin .add (.bin .mul (.bin .mul (.v 1) (.v 1)) (.int 7919)) (.int 11))) (.seq (.cond (.cmp .gt (.b1 .len (.v 0)) (.int 0)) (.seq (.asg 2 (.frz (.bin .add (.v 2) (.ix (.v 0) (.bin .mod (.v 1) (.b1 .len (.v 0))))))) .pass) (.pass)) (.seq (.ret (.frz (.v 2))) .pass))⟩
def d__law_pick_0c7c : Df := ⟨[false, false, false], 3, .seq (.ret (.bin .mod (.bin .mod (.bin .mul (.call F__law_mixed (.cons (.v 0) (.cons (.v 1) .nil))) (.int 48271)) (.int 2147483647)) (.v 2))) .pass⟩
def d__law_number_56fb : Df := ⟨[false, false], 4, .seq (.asg 2 (.frz (.call F__law_mixed (.cons (.v 0) (.cons (.v 1) .nil))))) (.seq (.asg 3 (.frz (.ix (.lst (.cons (.int 3) (.cons (.int 9) (.cons (.bin .pow (.int 10) (.int 9)) (.cons (.bin .pow (.int 10) (.int 40)) .nil))))) (.bin .mod (.bin .mod (.bin .mul (.v 2) (.int 69621)) (.int 2147483629)) (.int 4))))) (.seq (.ret (.bin .sub (.bin .mod (.bin .mul (.v 2) (.bin .pow (.int 48271) (.int 9))) (.bin .add (.bin .mul (.int 2) (.v 3)) (.int 1))) (.v 3))) .pass))⟩
def d__law_slack : Df := ⟨[false, false], 3, .seq (.asg 2 (.call F__law_pick_0c7c (.cons (.v 0) (.cons (.v 1) (.cons (.int 42) .nil))))) (.seq (.cond (.cmp .lt (.bin .mod (.v 2) (.int 6)) (.int 2)) (.seq (.ret (.non)) .pass) (.pass)) (.seq (.cond (.cmp .lt (.bin .mod (.v 2) (.int 6)) (.int 4)) (.seq (.ret (.int 0)) .pass) (.pass)) (.seq (.cond (.eq (.bin .mod (.v 2) (.int 6)) (.int 4)) (.seq (.ret (.bin .fdv (.v 2) (.int 6))) .pass) (.pass)) (.seq (.ret (.b1 .abs (.call F__law_number_56fb (.cons (.v 0) (.cons (.v 1) .nil))))) .pass))))⟩
def d__law_rest_of : Df := ⟨[false, false], 2, .seq (.cond (.eq (.v 0) (.int 0)) (.seq (.ret (.frz (.tup (.cons (.int 0) (.cons (.v 1) .nil))))) .pass) (.pass)) (.seq (.ret (.frz (.tup (.cons (.v 0) (.cons (.bin .mod (.v 1) (.v 0)) .nil))))) .pass)⟩
def d__law_rest_f4ab : Df := ⟨[false, false, false], 4, .seq (.asg 3 (.call F__law_pick_0c7c (.cons (.v 0) (.cons (.v 1) (.cons (.int 60) .nil))))) (.seq (.cond (.cmp .lt (.bin .mod (.v 3) (.int 5)) (.int 2)) (.seq (.ret (.frz (.tup (.cons (.int 1) (.cons (.int 0) .nil))))) .pass) (.pass)) (.seq (.cond (.eq (.bin .mod (.v 3) (.int 5)) (.int 2)) (.seq (.ret (.frz (.tup (.cons (.int 0) (.cons (.v 2) .nil))))) .pass) (.pass)) (.seq (.cond (.eq (.bin .mod (.v 3) (.int 5)) (.int 3)) (.seq (.ret (.frz (.call F__law_rest_of (.cons (.bin .add (.bin .fdv (.v 3) (.int 5)) (.int 1)) (.cons (.v 2) .nil))))) .pass) (.pass)) (.seq (.ret (.frz (.call F__law_rest_of (.cons (.b1 .abs (.call F__law_number_56fb (.cons (.v 0) (.cons (.v 1) .nil)))) (.cons (.v 2) .nil))))) .pass))))⟩
def d__law_told_2ac3 : Df := ⟨[false, false, false], 11, .seq (.asg 3 (.frz (.bin .add (.lst (.cons (.int 0) .nil)) (.v 2)))) (.seq (.asg 4 (.b1 .len (.v 3))) (.seq (.asg 5 (.lst (.nil))) (.seq (.for_ [6] [6, 7, 8, 9] (.rng1 (.v 4)) (.seq (.asg 7 (.lst (.nil))) (.seq (.for_ [8] [8, 9] (.rng1 (.v 4)) (.seq (.asg 9 (.call F__law_slack (.cons (.v 0) (.cons (.bin .add (.bin .add (.v 1) (.bin .mul (.v 6) (.v 4))) (.v 8)) .nil)))) (.seq (.cond (.nisN (.v 9)) (.seq (.asg 9 (.bin .add (.bin .sub (.ix (.v 3) (.v 6)) (.ix (.v 3) (.v 8))) (.v 9))) .pass) (.pass)) (.seq (.app 7 (.v 9)) .pass)))) (.seq (.st (.v 7) (.v 6) (.int 0)) (.seq (.app 5 (.v 7)) .pass))))) (.seq (.ret (.tup (.cons (.v 5) (.cons (.lc [10] (.rng1 (.bin .sub (.v 4) (.int 1))) (.bl true) (.call F__law_rest_f4ab (.cons (.v 0) (.cons (.bin .add (.bin .add (.v 1) (.bin .mul (.v 4) (.v 4))) (.v 10)) (.cons (.ix (.v 2) (.v 10)) .nil))))) .nil)))) .pass))))⟩
def d__law_copy_13a6 : Df := ⟨[false], 2, .seq (.cond (.isN (.v 0)) (.seq (.ret (.non)) .pass) (.pass)) (.seq (.ret (.tup (.cons (.lc [1] (.itr (.ix (.v 0) (.int 0))) (.bl true) (.b1 .list (.v 1))) (.cons (.b1 .list (.ix (.v 0) (.int 1))) .nil)))) .pass)⟩
def d__law_lies_38ce : Df := ⟨[false, false], 7, .seq (.cond (.isN (.v 0)) (.seq (.ret (.bl false)) .pass) (.pass)) (.seq (.asg 2 (.frz (.bin .add (.lst (.cons (.int 0) .nil)) (.v 1)))) (.seq (.for_ [3] [3, 5] (.rng1 (.b1 .len (.v 2))) (.seq (.for_ [5] [5] (.rng1 (.b1 .len (.v 2))) (.seq (.cond (.and (.nisN (.ix (.ix (.ix (.v 0) (.int 0)) (.v 3)) (.v 5))) (.cmp .gt (.ix (.v 2) (.v 3)) (.bin .add (.ix (.v 2) (.v 5)) (.ix (.ix (.ix (.v 0) (.int 0)) (.v 3)) (.v 5))))) (.seq (.ret (.bl false)) .pass) (.pass)) .pass)) .pass)) (.seq (.for_ [4] [4, 6] (.rng1 (.b1 .len (.v 1))) (.seq (.asg 6 (.bin .sub (.ix (.v 1) (.v 4)) (.ix (.ix (.ix (.v 0) (.int 1)) (.v 4)) (.int 1)))) (.seq (.cond (.and (.eq (.ix (.ix (.ix (.v 0) (.int 1)) (.v 4)) (.int 0)) (.int 0)) (.ne (.v 6) (.int 0))) (.seq (.ret (.bl false)) .pass) (.pass)) (.seq (.cond (.and (.cmp .gt (.ix (.ix (.ix (.v 0) (.int 1)) (.v 4)) (.int 0)) (.int 0)) (.ne (.bin .mod (.v 6) (.ix (.ix (.ix (.v 0) (.int 1)) (.v 4)) (.int 0))) (.int 0))) (.seq (.ret (.bl false)) .pass) (.pass)) .pass)))) (.seq (.ret (.bl true)) .pass))))⟩
def d__law_gcd : Df := ⟨[false, false], 3, .seq (.asg 0 (.b1 .abs (.v 0))) (.seq (.asg 1 (.b1 .abs (.v 1))) (.seq (.whl [2] (.ne (.v 1) (.int 0)) (.seq (.asg 2 (.bin .mod (.v 0) (.v 1))) (.seq (.asg 0 (.v 1)) (.seq (.asg 1 (.v 2)) .pass)))) (.seq (.ret (.v 0)) .pass)))⟩
def d__law_spoilt : Df := ⟨[false, false, false], 11, .seq (.asg 3 (.lc [8] (.itr (.ix (.v 2) (.int 0))) (.bl true) (.b1 .list (.v 8)))) (.seq (.asg 4 (.b1 .list (.ix (.v 2) (.int 1)))) (.seq (.asg 5 (.call F__law_pick_0c7c (.cons (.v 0) (.cons (.v 1) (.cons (.b1 .len (.v 3)) .nil))))) (.seq (.asg 6 (.call F__law_pick_0c7c (.cons (.v 0) (.cons (.bin .add (.v 1) (.int 1)) (.cons (.b1 .len (.v 3)) .nil))))) (.seq (.asg 7 (.call F__law_pick_0c7c (.cons (.v 0) (.cons (.bin .add (.v 1) (.int 2)) (.cons (.int 5) .nil))))) (.seq (.cond (.and (.cmp .lt (.v 7) (.int 3)) (.and (.ne (.v 5) (.v 6)) (.isN (.ix (.ix (.v 3) (.v 5)) (.v 6))))) (.seq (.st (.ix (.v 3) (.v 5)) (.v 6) (.call F__law_number_56fb (.cons (.v 0) (.cons (.bin .add (.v 1) (.int 3)) .nil)))) .pass) (.seq (.cond (.and (.cmp .lt (.v 7) (.int 3)) (.ne (.v 5) (.v 6))) (.seq (.st (.ix (.v 3) (.v 5)) (.v 6) (.bin .sub (.bin .sub (.ix (.ix (.v 3) (.v 5)) (.v 6)) (.int 1)) (.call F__law_pick_0c7c (.cons (.v 0) (.cons (.bin .add (.v 1) (.int 3)) (.cons (.int 4) .nil)))))) .pass) (.seq (.cond (.cmp .gt (.b1 .len (.v 4)) (.int 0)) (.seq (.asg 9 (.call F__law_pick_0c7c (.cons (.v 0) (.cons (.v 1) (.cons (.b1 .len (.v 4)) .nil))))) (.seq (.asg 10 (.frz (.ix (.v 4) (.v 9)))) (.seq (.st (.v 4) (.v 9) (.call F__law_rest_of (.cons (.bin .mul (.ix (.v 10) (.int 0)) (.bin .add (.int 1) (.bin .mod (.v 7) (.int 2)))) (.cons (.bin .add (.ix (.v 10) (.int 1)) (.call F__law_pick_0c7c (.cons (.v 0) (.cons (.bin .add (.v 1) (.int 3)) (.cons (.int 3) .nil))))) .nil)))) .pass))) (.pass)) .pass)) .pass)) (.seq (.ret (.tup (.cons (.v 3) (.cons (.v 4) .nil)))) .pass))))))⟩
def d__law_under : Df := ⟨[false, false], 2, .seq (.cond (.isN (.v 1)) (.seq (.ret (.bl true)) .pass) (.pass)) (.seq (.ret (.and (.nisN (.v 0)) (.cmp .le (.v 0) (.v 1)))) .pass)⟩
def d__law_rest_in : Df := ⟨[false, false], 2, .seq (.cond (.eq (.ix (.v 1) (.int 0)) (.int 0)) (.seq (.ret (.eq (.v 0) (.v 1))) .pass) (.pass)) (.seq (.ret (.and (.eq (.bin .mod (.ix (.v 0) (.int 0)) (.ix (.v 1) (.int 0))) (.int 0)) (.eq (.bin .mod (.bin .sub (.ix (.v 0) (.int 1)) (.ix (.v 1) (.int 1))) (.ix (.v 1) (.int 0))) (.int 0)))) .pass)⟩
def d__law_inside_5dab : Df := ⟨[false, false], 5, .seq (.cond (.or (.isN (.v 0)) (.isN (.v 1))) (.seq (.ret (.isN (.v 0))) .pass) (.pass)) (.seq (.for_ [2] [2, 4] (.rng1 (.b1 .len (.ix (.v 0) (.int 0)))) (.seq (.for_ [4] [4] (.rng1 (.b1 .len (.ix (.v 0) (.int 0)))) (.seq (.cond (.not (.call F__law_under (.cons (.ix (.ix (.ix (.v 0) (.int 0)) (.v 2)) (.v 4)) (.cons (.ix (.ix (.ix (.v 1) (.int 0)) (.v 2)) (.v 4)) .nil)))) (.seq (.ret (.bl false)) .pass) (.pass)) .pass)) .pass)) (.seq (.for_ [3] [3] (.rng1 (.b1 .len (.ix (.v 0) (.int 1)))) (.seq (.cond (.not (.call F__law_rest_in (.cons (.ix (.ix (.v 0) (.int 1)) (.v 3)) (.cons (.ix (.ix (.v 1) (.int 1)) (.v 3)) .nil)))) (.seq (.ret (.bl false)) .pass) (.pass)) .pass)) (.seq (.ret (.bl true)) .pass)))⟩
def d__law_whole_92eb : Df := ⟨[false], 1, .seq (.ret (.and (.b1 .isInt (.v 0)) (.not (.b1 .isBool (.v 0))))) .pass⟩
def d__law_grid : Df := ⟨[false, false], 4, .seq (.cond (.or (.not (.b1 .isList (.v 0))) (.ne (.b1 .len (.v 0)) (.v 1))) (.seq (.ret (.bl false)) .pass) (.pass)) (.seq (.for_ [2] [2, 3] (.rng1 (.v 1)) (.seq (.cond (.or (.not (.b1 .isList (.ix (.v 0) (.v 2)))) (.ne (.b1 .len (.ix (.v 0) (.v 2))) (.v 1))) (.seq (.ret (.bl false)) .pass) (.pass)) (.seq (.for_ [3] [3] (.itr (.ix (.v 0) (.v 2))) (.seq (.cond (.and (.nisN (.v 3)) (.not (.call F__law_whole_92eb (.cons (.v 3) .nil)))) (.seq (.ret (.bl false)) .pass) (.pass)) .pass)) (.seq (.cond (.ne (.ix (.ix (.v 0) (.v 2)) (.v 2)) (.int 0)) (.seq (.ret (.bl false)) .pass) (.pass)) .pass)))) (.seq (.ret (.bl true)) .pass))⟩
def d__law_shape_824f : Df := ⟨[false, false], 3, .seq (.cond (.or (.not (.b1 .isTuple (.v 0))) (.or (.ne (.b1 .len (.v 0)) (.int 2)) (.not (.call F__law_grid (.cons (.ix (.v 0) (.int 0)) (.cons (.bin .add (.v 1) (.int 1)) .nil)))))) (.seq (.ret (.bl false)) .pass) (.pass)) (.seq (.cond (.or (.not (.b1 .isList (.ix (.v 0) (.int 1)))) (.ne (.b1 .len (.ix (.v 0) (.int 1))) (.v 1))) (.seq (.ret (.bl false)) .pass) (.pass)) (.seq (.for_ [2] [2] (.itr (.ix (.v 0) (.int 1))) (.seq (.cond (.or (.not (.b1 .isTuple (.v 2))) (.ne (.b1 .len (.v 2)) (.int 2))) (.seq (.ret (.bl false)) .pass) (.pass)) (.seq (.cond (.or (.not (.call F__law_whole_92eb (.cons (.ix (.v 2) (.int 0)) .nil))) (.not (.call F__law_whole_92eb (.cons (.ix (.v 2) (.int 1)) .nil)))) (.seq (.ret (.bl false)) .pass) (.pass)) (.seq (.cond (.or (.cmp .lt (.ix (.v 2) (.int 0)) (.int 0)) (.and (.cmp .gt (.ix (.v 2) (.int 0)) (.int 0)) (.not (.chain .le .lt (.int 0) (.ix (.v 2) (.int 1)) (.ix (.v 2) (.int 0)))))) (.seq (.ret (.bl false)) .pass) (.pass)) .pass)))) (.seq (.ret (.bl true)) .pass)))⟩
def d__law_same_a595 : Df := ⟨[false, false], 2, .seq (.cond (.isN (.v 1)) (.seq (.ret (.isN (.v 0))) .pass) (.pass)) (.seq (.ret (.and (.call F__law_shape_824f (.cons (.v 0) (.cons (.b1 .len (.ix (.v 1) (.int 1))) .nil))) (.eq (.v 0) (.v 1)))) .pass)⟩
def d_closed : Df := ⟨[false], 7, .seq (.asg 1 (.lc [4] (.itr (.v 0)) (.bl true) (.b1 .list (.v 4)))) (.seq (.for_ [2] [2, 3, 5, 6] (.rng1 (.b1 .len (.v 1))) (.seq (.for_ [3] [3, 5, 6] (.rng1 (.b1 .len (.v 1))) (.seq (.for_ [5] [5, 6] (.rng1 (.b1 .len (.v 1))) (.seq (.cond (.and (.nisN (.ix (.ix (.v 1) (.v 3)) (.v 2))) (.nisN (.ix (.ix (.v 1) (.v 2)) (.v 5)))) (.seq (.asg 6 (.frz (.bin .add (.ix (.ix (.v 1) (.v 3)) (.v 2)) (.ix (.ix (.v 1) (.v 2)) (.v 5))))) (.seq (.cond (.or (.isN (.ix (.ix (.v 1) (.v 3)) (.v 5))) (.cmp .lt (.v 6) (.ix (.ix (.v 1) (.v 3)) (.v 5)))) (.seq (.st (.ix (.v 1) (.v 3)) (.v 5) (.v 6)) .pass) (.pass)) .pass)) (.pass)) .pass)) .pass)) .pass)) (.seq (.for_ [3] [3] (.rng1 (.b1 .len (.v 1))) (.seq (.cond (.cmp .lt (.ix (.ix (.v 1) (.v 3)) (.v 3)) (.int 0)) (.seq (.ret (.non)) .pass) (.pass)) .pass)) (.seq (.ret (.v 1)) .pass)))⟩
def d__law_over_50ad : Df := ⟨[false, false, false], 4, .seq (.for_ [3] [3] (.rng1 (.b1 .len (.v 0))) (.seq (.cond (.and (.nisN (.ix (.ix (.v 0) (.v 1)) (.v 3))) (.nisN (.ix (.ix (.v 0) (.v 3)) (.v 2)))) (.seq (.cond (.not (.call F__law_under (.cons (.ix (.ix (.v 0) (.v 1)) (.v 2)) (.cons (.bin .add (.ix (.ix (.v 0) (.v 1)) (.v 3)) (.ix (.ix (.v 0) (.v 3)) (.v 2))) .nil)))) (.seq (.ret (.bl false)) .pass) (.pass)) .pass) (.pass)) .pass)) (.seq (.ret (.bl true)) .pass)⟩
def d__law_least_sums : Df := ⟨[false], 10, .seq (.asg 1 (.b1 .len (.v 0))) (.seq (.asg 2 (.lc [6] (.itr (.v 0)) (.bl true) (.b1 .list (.v 6)))) (.seq (.asg 3 (.int 1)) (.seq (.whl [4, 5, 7, 8, 9] (.cmp .lt (.v 3) (.v 1)) (.seq (.asg 5 (.frz (.lend (.lc [6] (.itr (.v 2)) (.bl true) (.b1 .list (.v 6)))))) (.seq (.for_ [4] [4, 7, 8, 9] (.rng1 (.v 1)) (.seq (.for_ [7] [7, 8, 9] (.rng1 (.v 1)) (.seq (.for_ [8] [8, 9] (.rng1 (.v 1)) (.seq (.cond (.and (.nisN (.ix (.ix (.v 5) (.v 4)) (.v 8))) (.nisN (.ix (.ix (.v 5) (.v 8)) (.v 7)))) (.seq (.asg 9 (.frz (.bin .add (.ix (.ix (.v 5) (.v 4)) (.v 8)) (.ix (.ix (.v 5) (.v 8)) (.v 7))))) (.seq (.cond (.or (.isN (.ix (.ix (.v 2) (.v 4)) (.v 7))) (.cmp .lt (.v 9) (.ix (.ix (.v 2) (.v 4)) (.v 7)))) (.seq (.st (.ix (.v 2) (.v 4)) (.v 7) (.v 9)) .pass) (.pass)) .pass)) (.pass)) .pass)) .pass)) .pass)) (.seq (.asg 3 (.bin .mul (.int 2) (.v 3))) .pass)))) (.seq (.for_ [4] [4] (.rng1 (.v 1)) (.seq (.cond (.cmp .lt (.ix (.ix (.v 2) (.v 4)) (.v 4)) (.int 0)) (.seq (.ret (.non)) .pass) (.pass)) .pass)) (.seq (.ret (.frz (.v 2))) .pass)))))⟩
def d_fixed : Df := ⟨[false, false, false], 5, .seq (.asg 3 (.frz (.ix (.ix (.v 0) (.v 1)) (.v 2)))) (.seq (.asg 4 (.frz (.ix (.ix (.v 0) (.v 2)) (.v 1)))) (.seq (.ret (.and (.nisN (.v 3)) (.and (.nisN (.v 4)) (.eq (.bin .add (.v 3) (.v 4)) (.int 0))))) .pass))⟩
def d_handed_over : Df := ⟨[false, false], 7, .seq (.asg 2 (.frz (.bin .add (.lst (.cons (.tup (.cons (.int 0) (.cons (.int 0) .nil))) .nil)) (.v 1)))) (.seq (.asg 3 (.lst (.nil))) (.seq (.for_ [4] [4, 5, 6] (.rng2 (.int 1) (.b1 .len (.v 2))) (.seq (.asg 5 (.frz (.ix (.v 2) (.v 4)))) (.seq (.for_ [6] [6] (.rng1 (.b1 .len (.v 2))) (.seq (.cond (.and (.nisN (.v 5)) (.and (.ne (.v 6) (.v 4)) (.call F_fixed (.cons (.v 0) (.cons (.v 4) (.cons (.v 6) .nil)))))) (.seq (.asg 5 (.frz (.call F_rest_met (.cons (.v 5) (.cons (.call F_rest_plus (.cons (.ix (.v 2) (.v 6)) (.cons (.tup (.cons (.int 0) (.cons (.ix (.ix (.v 0) (.v 4)) (.v 6)) .nil))) .nil))) .nil))))) .pass) (.pass)) .pass)) (.seq (.cond (.isN (.v 5)) (.seq (.ret (.non)) .pass) (.pass)) (.seq (.app 3 (.v 5)) .pass))))) (.seq (.ret (.v 3)) .pass)))⟩
def d_lowered : Df := ⟨[false, false], 8, .seq (.asg 2 (.frz (.bin .add (.lst (.cons (.tup (.cons (.int 0) (.cons (.int 0) .nil))) .nil)) (.v 1)))) (.seq (.asg 3 (.lc [6] (.itr (.v 0)) (.bl true) (.b1 .list (.v 6)))) (.seq (.for_ [4] [4, 5, 7] (.rng1 (.b1 .len (.v 2))) (.seq (.for_ [5] [5, 7] (.rng1 (.b1 .len (.v 2))) (.seq (.asg 7 (.frz (.call F_rest_plus (.cons (.ix (.v 2) (.v 4)) (.cons (.call F_rest_times (.cons (.ix (.v 2) (.v 5)) (.cons (.neg (.int 1)) .nil))) .nil))))) (.seq (.cond (.and (.ne (.v 4) (.v 5)) (.nisN (.ix (.ix (.v 3) (.v 4)) (.v 5)))) (.seq (.st (.ix (.v 3) (.v 4)) (.v 5) (.call F_rest_under (.cons (.v 7) (.cons (.ix (.ix (.v 3) (.v 4)) (.v 5)) .nil)))) (.seq (.cond (.isN (.ix (.ix (.v 3) (.v 4)) (.v 5))) (.seq (.ret (.non)) .pass) (.pass)) .pass)) (.seq (.cond (.and (.ne (.v 4) (.v 5)) (.eq (.ix (.v 7) (.int 0)) (.int 0))) (.seq (.st (.ix (.v 3) (.v 4)) (.v 5) (.ix (.v 7) (.int 1))) .pass) (.pass)) .pass)) .pass))) .pass)) (.seq (.ret (.v 3)) .pass)))⟩
def d_sharp : Df := ⟨[false], 3, .seq (.cond (.isN (.v 0)) (.seq (.ret (.non)) .pass) (.pass)) (.seq (.asg 1 (.call F_closed (.cons (.ix (.v 0) (.int 0)) .nil))) (.seq (.cond (.isN (.v 1)) (.seq (.ret (.non)) .pass) (.pass)) (.seq (.asg 2 (.call F_handed_over (.cons (.v 1) (.cons (.ix (.v 0) (.int 1)) .nil)))) (.seq (.cond (.isN (.v 2)) (.seq (.ret (.non)) .pass) (.pass)) (.seq (.asg 1 (.call F_lowered (.cons (.v 1) (.cons (.v 2) .nil)))) (.seq (.cond (.isN (.v 1)) (.seq (.ret (.non)) .pass) (.pass)) (.seq (.asg 1 (.call F_closed (.cons (.v 1) .nil))) (.seq (.cond (.isN (.v 1)) (.seq (.ret (.non)) .pass) (.pass)) (.seq (.asg 2 (.call F_handed_over (.cons (.v 1) (.cons (.v 2) .nil)))) (.seq (.cond (.isN (.v 2)) (.seq (.ret (.non)) .pass) (.pass)) (.seq (.ret (.tup (.cons (.v 1) (.cons (.v 2) .nil)))) .pass)))))))))))⟩
def d__law_met_b438 : Df := ⟨[false, false], 9, .seq (.asg 2 (.frz (.ix (.v 0) (.int 0)))) (.seq (.asg 3 (.frz (.ix (.v 1) (.int 0)))) (.seq (.asg 4 (.int 1)) (.seq (.asg 5 (.int 0)) (.seq (.whl [7, 8] (.ne (.v 3) (.int 0)) (.seq (.asg 7 (.bin .fdv (.v 2) (.v 3))) (.seq (.asg 8 (.bin .sub (.v 2) (.bin .mul (.v 7) (.v 3)))) (.seq (.asg 2 (.frz (.v 3))) (.seq (.asg 3 (.v 8)) (.seq (.asg 8 (.bin .sub (.v 4) (.bin .mul (.v 7) (.v 5)))) (.seq (.asg 4 (.v 5)) (.seq (.asg 5 (.v 8)) .pass)))))))) (.seq (.asg 6 (.bin .sub (.ix (.v 1) (.int 1)) (.ix (.v 0) (.int 1)))) (.seq (.cond (.eq (.v 2) (.int 0)) (.seq (.cond (.ne (.v 6) (.int 0)) (.seq (.ret (.non)) .pass) (.pass)) (.seq (.ret (.v 0)) .pass)) (.pass)) (.seq (.cond (.ne (.bin .mod (.v 6) (.v 2)) (.int 0)) (.seq (.ret (.non)) .pass) (.pass)) (.seq (.ret (.frz (.call F__law_rest_of (.cons (.bin .mul (.bin .fdv (.ix (.v 0) (.int 0)) (.v 2)) (.ix (.v 1) (.int 0))) (.cons (.bin .add (.ix (.v 0) (.int 1)) (.bin .mul (.bin .mul (.ix (.v 0) (.int 0)) (.v 4)) (.bin .fdv (.v 6) (.v 2)))) .nil))))) .pass))))))))⟩
def d__law_handed : Df := ⟨[false, false], 7, .seq (.asg 2 (.frz (.bin .add (.lst (.cons (.tup (.cons (.int 0) (.cons (.int 0) .nil))) .nil)) (.v 1)))) (.seq (.asg 3 (.bin .add (.lst (.cons (.tup (.cons (.int 0) (.cons (.int 0) .nil))) .nil)) (.v 1))) (.seq (.for_ [4] [4, 5, 6] (.rng2 (.int 1) (.b1 .len (.v 2))) (.seq (.for_ [5] [5, 6] (.rng1 (.b1 .len (.v 2))) (.seq (.asg 6 (.frz (.ix (.ix (.v 0) (.v 4)) (.v 5)))) (.seq (.cond (.and (.ne (.v 4) (.v 5)) (.and (.nisN (.v 6)) (.and (.eq (.ix (.ix (.v 0) (.v 5)) (.v 4)) (.neg (.v 6))) (.nisN (.ix (.v 3) (.v 4)))))) (.seq (.st (.v 3) (.v 4) (.call F__law_met_b438 (.cons (.ix (.v 3) (.v 4)) (.cons (.call F__law_rest_of (.cons (.ix (.ix (.v 2) (.v 5)) (.int 0)) (.cons (.bin .add (.ix (.ix (.v 2) (.v 5)) (.int 1)) (.v 6)) .nil))) .nil)))) .pass) (.pass)) .pass))) .pass)) (.seq (.cond (.inn (.non) (.v 3)) (.seq (.ret (.non)) .pass) (.pass)) (.seq (.ret (.frz (.sl (.v 3) (.int 1) .nil))) .pass))))⟩
def d__law_lowered : Df := ⟨[false, false], 10, .seq (.asg 2 (.frz (.bin .add (.lst (.cons (.tup (.cons (.int 0) (.cons (.int 0) .nil))) .nil)) (.v 1)))) (.seq (.asg 3 (.lc [6] (.itr (.v 0)) (.bl true) (.b1 .list (.v 6)))) (.seq (.for_ [4] [4, 5, 7, 8, 9] (.rng1 (.b1 .len (.v 2))) (.seq (.for_ [5] [5, 7, 8, 9] (.rng1 (.b1 .len (.v 2))) (.seq (.asg 7 (.call F__law_gcd (.cons (.ix (.ix (.v 2) (.v 4)) (.int 0)) (.cons (.ix (.ix (.v 2) (.v 5)) (.int 0)) .nil)))) (.seq (.asg 8 (.bin .sub (.ix (.ix (.v 2) (.v 4)) (.int 1)) (.ix (.ix (.v 2) (.v 5)) (.int 1)))) (.seq (.asg 9 (.frz (.ix (.ix (.v 0) (.v 4)) (.v 5)))) (.seq (.cond (.and (.ne (.v 4) (.v 5)) (.eq (.v 7) (.int 0))) (.seq (.cond (.and (.nisN (.v 9)) (.cmp .lt (.v 9) (.v 8))) (.seq (.ret (.non)) .pass) (.pass)) (.seq (.st (.ix (.v 3) (.v 4)) (.v 5) (.v 8)) .pass)) (.seq (.cond (.and (.ne (.v 4) (.v 5)) (.nisN (.v 9))) (.seq (.st (.ix (.v 3) (.v 4)) (.v 5) (.bin .sub (.v 9) (.bin .mod (.bin .sub (.v 9) (.v 8)) (.v 7)))) .pass) (.pass)) .pass)) .pass))))) .pass)) (.seq (.ret (.frz (.v 3))) .pass)))⟩
def d__law_sharp : Df := ⟨[false], 3, .seq (.cond (.isN (.v 0)) (.seq (.ret (.non)) .pass) (.pass)) (.seq (.asg 1 (.frz (.call F__law_least_sums (.cons (.ix (.v 0) (.int 0)) .nil)))) (.seq (.cond (.isN (.v 1)) (.seq (.ret (.non)) .pass) (.pass)) (.seq (.asg 2 (.frz (.call F__law_handed (.cons (.v 1) (.cons (.ix (.v 0) (.int 1)) .nil))))) (.seq (.cond (.isN (.v 2)) (.seq (.ret (.non)) .pass) (.pass)) (.seq (.asg 1 (.frz (.call F__law_lowered (.cons (.v 1) (.cons (.v 2) .nil))))) (.seq (.cond (.isN (.v 1)) (.seq (.ret (.non)) .pass) (.pass)) (.seq (.asg 1 (.frz (.call F__law_least_sums (.cons (.v 1) .nil)))) (.seq (.cond (.isN (.v 1)) (.seq (.ret (.non)) .pass) (.pass)) (.seq (.asg 2 (.frz (.call F__law_handed (.cons (.v 1) (.cons (.v 2) .nil))))) (.seq (.cond (.isN (.v 2)) (.seq (.ret (.non)) .pass) (.pass)) (.seq (.ret (.frz (.tup (.cons (.v 1) (.cons (.v 2) .nil))))) .pass)))))))))))⟩
def d__law_agree : Df := ⟨[false, false, false], 5, .seq (.asg 3 (.frz (.bin .add (.lst (.cons (.tup (.cons (.int 0) (.cons (.int 0) .nil))) .nil)) (.ix (.v 0) (.int 1))))) (.seq (.asg 4 (.frz (.ix (.ix (.ix (.v 0) (.int 0)) (.v 1)) (.v 2)))) (.seq (.cond (.or (.isN (.v 4)) (.ne (.ix (.ix (.ix (.v 0) (.int 0)) (.v 2)) (.v 1)) (.neg (.v 4)))) (.seq (.ret (.bl true)) .pass) (.pass)) (.seq (.ret (.eq (.ix (.v 3) (.v 1)) (.call F__law_rest_of (.cons (.ix (.ix (.v 3) (.v 2)) (.int 0)) (.cons (.bin .add (.ix (.ix (.v 3) (.v 2)) (.int 1)) (.v 4)) .nil))))) .pass)))⟩
def d__law_change_a255 : Df := ⟨[true], 1, .seq (.cond (.nisN (.v 0)) (.seq (.st (.ix (.ix (.v 0) (.int 0)) (.int 0)) (.int 0) (.int 7)) (.seq (.apq (.ix (.v 0) (.int 0)) (.lst (.cons (.int 7) .nil))) (.seq (.apq (.ix (.v 0) (.int 1)) (.tup (.cons (.int 7) (.cons (.int 7) .nil)))) .pass))) (.pass)) .pass⟩
def d_pair_of : Df := ⟨[false], 3, .seq (.asg 1 (.frz (.lc [2] (.rng2 (.int 1) (.b1 .len (.v 0))) (.ne (.ix (.v 0) (.v 2)) (.int 0)) (.v 2)))) (.seq (.cond (.ne (.b1 .len (.v 1)) (.int 2)) (.seq (.ret (.non)) .pass) (.pass)) (.seq (.cond (.and (.eq (.ix (.v 0) (.ix (.v 1) (.int 0))) (.int 1)) (.eq (.ix (.v 0) (.ix (.v 1) (.int 1))) (.neg (.int 1)))) (.seq (.ret (.frz (.tup (.cons (.ix (.v 1) (.int 0)) (.cons (.ix (.v 1) (.int 1)) .nil))))) .pass) (.pass)) (.seq (.cond (.and (.eq (.ix (.v 0) (.ix (.v 1) (.int 0))) (.neg (.int 1))) (.eq (.ix (.v 0) (.ix (.v 1) (.int 1))) (.int 1))) (.seq (.ret (.frz (.tup (.cons (.ix (.v 1) (.int 1)) (.cons (.ix (.v 1) (.int 0)) .nil))))) .pass) (.pass)) (.seq (.ret (.non)) .pass))))⟩
def d_greatest : Df := ⟨[false, false], 8, .seq (.asg 2 (.frz (.ix (.v 0) (.int 0)))) (.seq (.asg 3 (.frz (.call F_pair_of (.cons (.v 1) .nil)))) (.seq (.cond (.nisN (.v 3)) (.seq (.asg 6 (.frz (.ix (.ix (.v 2) (.ix (.v 3) (.int 0))) (.ix (.v 3) (.int 1))))) (.seq (.cond (.isN (.v 6)) (.seq (.ret (.non)) .pass) (.pass)) (.seq (.ret (.frz (.bin .add (.v 6) (.ix (.v 1) (.int 0))))) .pass))) (.pass)) (.seq (.asg 4 (.frz (.ix (.v 1) (.int 0)))) (.seq (.for_ [5] [5, 7] (.rng2 (.int 1) (.b1 .len (.v 1))) (.seq (.cond (.ne (.ix (.v 1) (.v 5)) (.int 0)) (.seq (.asg 7 (.frz (.ix (.ix (.v 2) (.v 5)) (.int 0)))) (.seq (.cond (.cmp .lt (.ix (.v 1) (.v 5)) (.int 0)) (.seq (.asg 7 (.frz (.ix (.ix (.v 2) (.int 0)) (.v 5)))) .pass) (.pass)) (.seq (.cond (.isN (.v 7)) (.seq (.ret (.non)) .pass) (.pass)) (.seq (.asg 4 (.frz (.bin .add (.v 4) (.bin .mul (.b1 .abs (.ix (.v 1) (.v 5))) (.v 7))))) .pass)))) (.pass)) .pass)) (.seq (.ret (.frz (.v 4))) .pass)))))⟩
def d_least : Df := ⟨[false, false], 3, .seq (.asg 2 (.frz (.call F_greatest (.cons (.v 0) (.cons (.call F_sum_times (.cons (.v 1) (.cons (.neg (.int 1)) .nil))) .nil))))) (.seq (.cond (.isN (.v 2)) (.seq (.ret (.non)) .pass) (.pass)) (.seq (.ret (.neg (.v 2))) .pass))⟩
def d__law_sum_0da3 : Df := ⟨[false, false, false], 8, .seq (.asg 3 (.bin .add (.lst (.cons (.call F__law_number_56fb (.cons (.v 0) (.cons (.v 1) .nil))) .nil)) (.bin .mul (.lst (.cons (.int 0) .nil)) (.v 2)))) (.seq (.asg 4 (.call F__law_pick_0c7c (.cons (.v 0) (.cons (.v 1) (.cons (.int 6) .nil))))) (.seq (.cond (.or (.eq (.v 4) (.int 0)) (.eq (.v 2) (.int 0))) (.seq (.ret (.v 3)) .pass) (.pass)) (.seq (.asg 5 (.bin .add (.int 1) (.call F__law_pick_0c7c (.cons (.v 0) (.cons (.bin .add (.v 1) (.int 1)) (.cons (.v 2) .nil)))))) (.seq (.cond (.eq (.v 4) (.int 1)) (.seq (.st (.v 3) (.v 5) (.bin .sub (.call F__law_pick_0c7c (.cons (.v 0) (.cons (.bin .add (.v 1) (.int 2)) (.cons (.int 13) .nil)))) (.int 6))) .pass) (.pass)) (.seq (.cond (.or (.eq (.v 4) (.int 2)) (.eq (.v 4) (.int 3))) (.seq (.asg 6 (.bin .add (.int 1) (.call F__law_pick_0c7c (.cons (.v 0) (.cons (.bin .add (.v 1) (.int 2)) (.cons (.v 2) .nil)))))) (.seq (.st (.v 3) (.v 5) (.int 1)) (.seq (.st (.v 3) (.v 6) (.bin .sub (.ix (.v 3) (.v 6)) (.int 1))) .pass))) (.pass)) (.seq (.cond (.eq (.v 4) (.int 4)) (.seq (.for_ [7] [7] (.rng1 (.v 2)) (.seq (.st (.v 3) (.bin .add (.v 7) (.int 1)) (.bin .sub (.call F__law_pick_0c7c (.cons (.v 0) (.cons (.bin .add (.bin .add (.v 1) (.int 1)) (.v 7)) (.cons (.int 7) .nil)))) (.int 3))) .pass)) .pass) (.pass)) (.seq (.cond (.eq (.v 4) (.int 5)) (.seq (.for_ [7] [7] (.rng1 (.v 2)) (.seq (.st (.v 3) (.bin .add (.v 7) (.int 1)) (.bin .sub (.call F__law_pick_0c7c (.cons (.v 0) (.cons (.bin .add (.bin .add (.v 1) (.int 1)) (.v 7)) (.cons (.int 2000000001) .nil)))) (.int 1000000000))) .pass)) .pass) (.pass)) (.seq (.ret (.v 3)) .pass))))))))⟩
def d__law_value_c4d8 : Df := ⟨[false, false], 3, .seq (.ret (.frz (.bin .add (.ix (.v 0) (.int 0)) (.b1 .sum (.lc [2] (.rng1 (.b1 .len (.v 1))) (.bl true) (.bin .mul (.ix (.v 0) (.bin .add (.v 2) (.int 1))) (.ix (.v 1) (.v 2)))))))) .pass⟩
def d__law_greatest_e95d : Df := ⟨[false, false], 7, .seq (.asg 2 (.frz (.lc [6] (.rng2 (.int 1) (.b1 .len (.v 1))) (.cmp .gt (.ix (.v 1) (.v 6)) (.int 0)) (.v 6)))) (.seq (.asg 3 (.frz (.lc [6] (.rng2 (.int 1) (.b1 .len (.v 1))) (.cmp .lt (.ix (.v 1) (.v 6)) (.int 0)) (.v 6)))) (.seq (.cond (.and (.eq (.b1 .len (.v 2)) (.int 1)) (.and (.eq (.b1 .len (.v 3)) (.int 1)) (.and (.eq (.ix (.v 1) (.ix (.v 2) (.int 0))) (.int 1)) (.eq (.ix (.v 1) (.ix (.v 3) (.int 0))) (.neg (.int 1)))))) (.seq (.cond (.isN (.ix (.ix (.ix (.v 0) (.int 0)) (.ix (.v 2) (.int 0))) (.ix (.v 3) (.int 0)))) (.seq (.ret (.non)) .pass) (.pass)) (.seq (.ret (.frz (.bin .add (.ix (.ix (.ix (.v 0) (.int 0)) (.ix (.v 2) (.int 0))) (.ix (.v 3) (.int 0))) (.ix (.v 1) (.int 0))))) .pass)) (.pass)) (.seq (.asg 4 (.frz (.bin .add (.lc [6] (.itr (.v 2)) (.bl true) (.ix (.ix (.ix (.v 0) (.int 0)) (.v 6)) (.int 0))) (.lc [6] (.itr (.v 3)) (.bl true) (.ix (.ix (.ix (.v 0) (.int 0)) (.int 0)) (.v 6)))))) (.seq (.cond (.inn (.non) (.v 4)) (.seq (.ret (.non)) .pass) (.pass)) (.seq (.asg 5 (.frz (.ix (.v 1) (.int 0)))) (.seq (.for_ [6] [6] (.itr (.v 2)) (.seq (.asg 5 (.frz (.bin .add (.v 5) (.bin .mul (.ix (.v 1) (.v 6)) (.ix (.ix (.ix (.v 0) (.int 0)) (.v 6)) (.int 0)))))) .pass)) (.seq (.for_ [6] [6] (.itr (.v 3)) (.seq (.asg 5 (.bin .sub (.v 5) (.bin .mul (.ix (.v 1) (.v 6)) (.ix (.ix (.ix (.v 0) (.int 0)) (.int 0)) (.v 6))))) .pass)) (.seq (.ret (.frz (.v 5))) .pass))))))))⟩
def d_recast : Df := ⟨[false, false], 6, .seq (.cond (.isN (.v 0)) (.seq (.ret (.non)) .pass) (.pass)) (.seq (.asg 2 (.frz (.bin .add (.frz (.lst (.cons (.bin .mul (.lst (.cons (.int 0) .nil)) (.bin .add (.b1 .len (.ix (.v 0) (.int 1))) (.int 1))) .nil))) (.v 1)))) (.seq (.asg 3 (.lst (.nil))) (.seq (.for_ [4] [] (.itr (.v 2)) (.seq (.app 3 (.lc [5] (.itr (.v 2)) (.bl true) (.call F_greatest (.cons (.v 0) (.cons (.call F_sum_plus (.cons (.v 4) (.cons (.call F_sum_times (.cons (.v 5) (.cons (.neg (.int 1)) .nil))) .nil))) .nil))))) .pass)) (.seq (.ret (.call F_sharp (.cons (.tup (.cons (.v 3) (.cons (.lc [4] (.itr (.v 1)) (.bl true) (.call F_sum_rest (.cons (.v 4) (.cons (.ix (.v 0) (.int 1)) .nil)))) .nil))) .nil))) .pass))))⟩
def d__law_less_6b17 : Df := ⟨[false, false], 3, .seq (.ret (.frz (.lc [2] (.rng1 (.b1 .len (.v 0))) (.bl true) (.bin .sub (.ix (.v 0) (.v 2)) (.ix (.v 1) (.v 2)))))) .pass⟩
def d__law_sum_rest : Df := ⟨[false, false], 5, .seq (.asg 2 (.int 0)) (.seq (.asg 3 (.frz (.ix (.v 0) (.int 0)))) (.seq (.for_ [4] [4] (.rng1 (.b1 .len (.v 1))) (.seq (.asg 2 (.call F__law_gcd (.cons (.v 2) (.cons (.bin .mul (.ix (.v 0) (.bin .add (.v 4) (.int 1))) (.ix (.ix (.v 1) (.v 4)) (.int 0))) .nil)))) (.seq (.asg 3 (.frz (.bin .add (.v 3) (.bin .mul (.ix (.v 0) (.bin .add (.v 4) (.int 1))) (.ix (.ix (.v 1) (.v 4)) (.int 1)))))) .pass))) (.seq (.ret (.frz (.call F__law_rest_of (.cons (.v 2) (.cons (.v 3) .nil))))) .pass)))⟩
def d__law_recast : Df := ⟨[false, false], 6, .seq (.cond (.isN (.v 0)) (.seq (.ret (.non)) .pass) (.pass)) (.seq (.asg 2 (.frz (.bin .add (.frz (.lst (.cons (.bin .mul (.lst (.cons (.int 0) .nil)) (.bin .add (.b1 .len (.ix (.v 0) (.int 1))) (.int 1))) .nil))) (.v 1)))) (.seq (.asg 3 (.lst (.nil))) (.seq (.for_ [4] [] (.itr (.v 2)) (.seq (.app 3 (.lc [5] (.itr (.v 2)) (.bl true) (.call F__law_greatest_e95d (.cons (.v 0) (.cons (.call F__law_less_6b17 (.cons (.v 4) (.cons (.v 5) .nil))) .nil))))) .pass)) (.seq (.ret (.frz (.call F__law_sharp (.cons (.tup (.cons (.v 3) (.cons (.lc [4] (.itr (.v 1)) (.bl true) (.call F__law_sum_rest (.cons (.v 4) (.cons (.ix (.v 0) (.int 1)) .nil)))) .nil))) .nil)))) .pass))))⟩
def d_anew : Df := ⟨[false, false, false, false], 8, .seq (.cond (.isN (.v 0)) (.seq (.ret (.non)) .pass) (.pass)) (.seq (.asg 4 (.lc [7] (.itr (.ix (.v 0) (.int 0))) (.bl true) (.b1 .list (.v 7)))) (.seq (.for_ [5] [5] (.rng1 (.b1 .len (.v 4))) (.seq (.st (.ix (.v 4) (.v 1)) (.v 5) (.non)) (.seq (.st (.ix (.v 4) (.v 5)) (.v 1) (.non)) .pass))) (.seq (.st (.ix (.v 4) (.v 1)) (.v 1) (.int 0)) (.seq (.st (.ix (.v 4) (.v 1)) (.int 0) (.ix (.v 2) (.int 1))) (.seq (.cond (.nisN (.ix (.v 2) (.int 0))) (.seq (.st (.ix (.v 4) (.int 0)) (.v 1) (.neg (.ix (.v 2) (.int 0)))) .pass) (.pass)) (.seq (.asg 6 (.b1 .list (.ix (.v 0) (.int 1)))) (.seq (.st (.v 6) (.bin .sub (.v 1) (.int 1)) (.v 3)) (.seq (.ret (.call F_sharp (.cons (.tup (.cons (.v 4) (.cons (.v 6) .nil))) .nil))) .pass))))))))⟩
def d__law_anew : Df := ⟨[false, false, false, false], 7, .seq (.cond (.isN (.v 0)) (.seq (.ret (.non)) .pass) (.pass)) (.seq (.asg 4 (.lc [6] (.itr (.ix (.v 0) (.int 0))) (.bl true) (.b1 .list (.v 6)))) (.seq (.for_ [5] [5] (.rng1 (.b1 .len (.v 4))) (.seq (.st (.ix (.v 4) (.v 5)) (.v 1) (.non)) .pass)) (.seq (.st (.v 4) (.v 1) (.bin .mul (.lst (.cons (.non) .nil)) (.b1 .len (.v 4)))) (.seq (.st (.ix (.v 4) (.v 1)) (.v 1) (.int 0)) (.seq (.st (.ix (.v 4) (.v 1)) (.int 0) (.ix (.v 2) (.int 1))) (.seq (.cond (.nisN (.ix (.v 2) (.int 0))) (.seq (.st (.ix (.v 4) (.int 0)) (.v 1) (.neg (.ix (.v 2) (.int 0)))) .pass) (.pass)) (.seq (.ret (.frz (.call F__law_sharp (.cons (.tup (.cons (.v 4) (.cons (.bin .add (.bin .add (.sl (.ix (.v 0) (.int 1)) .nil (.bin .sub (.v 1) (.int 1))) (.lst (.cons (.v 3) .nil))) (.sl (.ix (.v 0) (.int 1)) (.v 1) .nil)) .nil))) .nil)))) .pass)))))))⟩
def d_pull : Df := ⟨[true, false, false, false], 4, .seq (.cond (.or (.isN (.ix (.ix (.v 0) (.v 1)) (.v 2))) (.cmp .gt (.ix (.ix (.v 0) (.v 1)) (.v 2)) (.v 3))) (.seq (.st (.ix (.v 0) (.v 1)) (.v 2) (.v 3)) .pass) (.pass)) .pass⟩
def d_at_most : Df := ⟨[false, false, false], 13, .seq (.cond (.isN (.v 0)) (.seq (.ret (.non)) .pass) (.pass)) (.seq (.asg 3 (.call F_least (.cons (.v 0) (.cons (.v 1) .nil)))) (.seq (.cond (.and (.nisN (.v 3)) (.cmp .gt (.v 3) (.v 2))) (.seq (.ret (.non)) .pass) (.pass)) (.seq (.asg 4 (.b1 .len (.ix (.v 0) (.int 1)))) (.seq (.asg 5 (.frz (.call F_sum_times (.cons (.v 1) (.cons (.neg (.int 1)) .nil))))) (.seq (.asg 6 (.lc [10] (.itr (.ix (.v 0) (.int 0))) (.bl true) (.b1 .list (.v 10)))) (.seq (.for_ [7] [7, 8, 11, 12] (.rng1 (.bin .add (.v 4) (.int 1))) (.seq (.for_ [8] [8, 11, 12] (.rng1 (.bin .add (.v 4) (.int 1))) (.seq (.cond (.ne (.v 7) (.v 8)) (.seq (.asg 12 (.frz (.call F_sum_plus (.cons (.call F_box_sum (.cons (.v 7) (.cons (.v 4) .nil))) (.cons (.call F_sum_times (.cons (.call F_box_sum (.cons (.v 8) (.cons (.v 4) .nil))) (.cons (.neg (.int 1)) .nil))) .nil))))) (.seq (.asg 11 (.frz (.call F_greatest (.cons (.v 0) (.cons (.call F_sum_plus (.cons (.v 12) (.cons (.v 5) .nil))) .nil))))) (.seq (.cond (.nisN (.v 11)) (.seq (.ex (.call F_pull (.cons (.v 6) (.cons (.v 7) (.cons (.v 8) (.cons (.bin .add (.v 11) (.v 2)) .nil)))))) .pass) (.pass)) .pass))) (.pass)) .pass)) .pass)) (.seq (.for_ [7] [7, 9, 11] (.rng2 (.int 1) (.bin .add (.v 4) (.int 1))) (.seq (.asg 9 (.frz (.ix (.v 1) (.v 7)))) (.seq (.cond (.ne (.v 9) (.int 0)) (.seq (.asg 11 (.frz (.call F_greatest (.cons (.v 0) (.cons (.call F_sum_plus (.cons (.call F_sum_times (.cons (.call F_box_sum (.cons (.v 7) (.cons (.v 4) .nil))) (.cons (.v 9) .nil))) (.cons (.v 5) .nil))) .nil))))) (.seq (.cond (.and (.nisN (.v 11)) (.cmp .gt (.v 9) (.int 0))) (.seq (.ex (.call F_pull (.cons (.v 6) (.cons (.v 7) (.cons (.int 0) (.cons (.bin .fdv (.bin .add (.v 11) (.v 2)) (.v 9)) .nil)))))) .pass) (.seq (.cond (.nisN (.v 11)) (.seq (.ex (.call F_pull (.cons (.v 6) (.cons (.int 0) (.cons (.v 7) (.cons (.bin .fdv (.bin .add (.v 11) (.v 2)) (.neg (.v 9))) .nil)))))) .pass) (.pass)) .pass)) .pass)) (.pass)) .pass))) (.seq (.ret (.call F_sharp (.cons (.tup (.cons (.v 6) (.cons (.b1 .list (.ix (.v 0) (.int 1))) .nil))) .nil))) .pass))))))))⟩
def d_rests_left : Df := ⟨[false, false, false], 10, .seq (.asg 3 (.frz (.ix (.v 0) (.int 1)))) (.seq (.asg 4 (.lst (.nil))) (.seq (.for_ [5] [5, 6, 7, 8, 9] (.rng2 (.int 1) (.b1 .len (.v 1))) (.seq (.asg 6 (.frz (.ix (.v 3) (.bin .sub (.v 5) (.int 1))))) (.seq (.asg 7 (.frz (.ix (.v 1) (.v 5)))) (.seq (.cond (.or (.eq (.v 7) (.int 1)) (.eq (.v 7) (.neg (.int 1)))) (.seq (.asg 8 (.b1 .list (.v 1))) (.seq (.st (.v 8) (.v 5) (.int 0)) (.seq (.asg 9 (.frz (.call F_rest_times (.cons (.call F_sum_rest (.cons (.v 8) (.cons (.v 3) .nil))) (.cons (.neg (.v 7)) .nil))))) (.seq (.cond (.cmp .gt (.v 2) (.int 0)) (.seq (.asg 9 (.frz (.call F_rest_loosened (.cons (.v 9) (.cons (.v 2) .nil))))) .pass) (.pass)) (.seq (.asg 6 (.frz (.call F_rest_met (.cons (.v 6) (.cons (.v 9) .nil))))) .pass))))) (.pass)) (.seq (.cond (.isN (.v 6)) (.seq (.ret (.non)) .pass) (.pass)) (.seq (.app 4 (.v 6)) .pass)))))) (.seq (.ret (.v 4)) .pass)))⟩
def d_same_left : Df := ⟨[false, false], 4, .seq (.cond (.not (.call F_rest_has (.cons (.call F_sum_rest (.cons (.v 1) (.cons (.ix (.v 0) (.int 1)) .nil))) (.cons (.int 0) .nil)))) (.seq (.ret (.non)) .pass) (.pass)) (.seq (.asg 2 (.frz (.call F_at_most (.cons (.call F_at_most (.cons (.v 0) (.cons (.v 1) (.cons (.int 0) .nil)))) (.cons (.call F_sum_times (.cons (.v 1) (.cons (.neg (.int 1)) .nil))) (.cons (.int 0) .nil)))))) (.seq (.cond (.isN (.v 2)) (.seq (.ret (.non)) .pass) (.pass)) (.seq (.asg 3 (.frz (.call F_rests_left (.cons (.v 2) (.cons (.v 1) (.cons (.int 0) .nil)))))) (.seq (.cond (.isN (.v 3)) (.seq (.ret (.non)) .pass) (.pass)) (.seq (.ret (.call F_sharp (.cons (.tup (.cons (.ix (.v 2) (.int 0)) (.cons (.v 3) .nil))) .nil))) .pass)))))⟩
def d_unlike_left : Df := ⟨[false, false], 6, .seq (.asg 2 (.tup (.cons (.lc [5] (.itr (.ix (.v 0) (.int 0))) (.bl true) (.b1 .list (.v 5))) (.cons (.b1 .list (.ix (.v 0) (.int 1))) .nil)))) (.seq (.asg 3 (.frz (.call F_greatest (.cons (.v 0) (.cons (.v 1) .nil))))) (.seq (.cond (.and (.nisN (.v 3)) (.cmp .le (.v 3) (.int 0))) (.seq (.asg 2 (.call F_at_most (.cons (.v 0) (.cons (.v 1) (.cons (.neg (.int 1)) .nil))))) .pass) (.pass)) (.seq (.cond (.isN (.v 2)) (.seq (.ret (.non)) .pass) (.pass)) (.seq (.asg 4 (.call F_least (.cons (.v 2) (.cons (.v 1) .nil)))) (.seq (.cond (.and (.nisN (.v 4)) (.cmp .ge (.v 4) (.int 0))) (.seq (.ret (.call F_at_most (.cons (.v 2) (.cons (.call F_sum_times (.cons (.v 1) (.cons (.neg (.int 1)) .nil))) (.cons (.neg (.int 1)) .nil))))) .pass) (.pass)) (.seq (.ret (.v 2)) .pass))))))⟩
def d_even_left : Df := ⟨[false, false, false], 5, .seq (.asg 3 (.frz (.call F_sum_rest (.cons (.v 1) (.cons (.ix (.v 0) (.int 1)) .nil))))) (.seq (.cond (.ne (.bin .mod (.ix (.v 3) (.int 1)) (.call F_divisor (.cons (.ix (.v 3) (.int 0)) (.cons (.v 2) .nil)))) (.int 0)) (.seq (.ret (.non)) .pass) (.pass)) (.seq (.asg 4 (.frz (.call F_rests_left (.cons (.v 0) (.cons (.v 1) (.cons (.v 2) .nil)))))) (.seq (.cond (.isN (.v 4)) (.seq (.ret (.non)) .pass) (.pass)) (.seq (.ret (.call F_sharp (.cons (.tup (.cons (.ix (.v 0) (.int 0)) (.cons (.v 4) .nil))) .nil))) .pass))))⟩
def d_odd_left : Df := ⟨[false, false, false], 5, .seq (.asg 3 (.frz (.call F_sum_rest (.cons (.v 1) (.cons (.ix (.v 0) (.int 1)) .nil))))) (.seq (.cond (.and (.eq (.bin .mod (.ix (.v 3) (.int 0)) (.v 2)) (.int 0)) (.eq (.bin .mod (.ix (.v 3) (.int 1)) (.v 2)) (.int 0))) (.seq (.ret (.non)) .pass) (.pass)) (.seq (.cond (.eq (.v 2) (.int 2)) (.seq (.ret (.call F_even_left (.cons (.v 0) (.cons (.bin .add (.frz (.lst (.cons (.bin .add (.ix (.v 1) (.int 0)) (.int 1)) .nil))) (.sl (.v 1) (.int 1) .nil)) (.cons (.int 2) .nil))))) .pass) (.pass)) (.seq (.ret (.tup (.cons (.lc [4] (.itr (.ix (.v 0) (.int 0))) (.bl true) (.b1 .list (.v 4))) (.cons (.b1 .list (.ix (.v 0) (.int 1))) .nil)))) .pass)))⟩
def d_when : Df := ⟨[false, false, false], 4, .seq (.cond (.isN (.v 0)) (.seq (.ret (.non)) .pass) (.pass)) (.seq (.asg 3 (.frz (.ix (.v 1) (.int 1)))) (.seq (.cond (.eq (.ix (.v 1) (.int 0)) (.str "under")) (.seq (.cond (.v 2) (.seq (.ret (.call F_at_most (.cons (.v 0) (.cons (.v 3) (.cons (.neg (.int 1)) .nil))))) .pass) (.pass)) (.seq (.ret (.call F_at_most (.cons (.v 0) (.cons (.call F_sum_times (.cons (.v 3) (.cons (.neg (.int 1)) .nil))) (.cons (.int 0) .nil))))) .pass)) (.pass)) (.seq (.cond (.eq (.ix (.v 1) (.int 0)) (.str "same")) (.seq (.cond (.v 2) (.seq (.ret (.call F_same_left (.cons (.v 0) (.cons (.v 3) .nil)))) .pass) (.pass)) (.seq (.ret (.call F_unlike_left (.cons (.v 0) (.cons (.v 3) .nil)))) .pass)) (.pass)) (.seq (.cond (.v 2) (.seq (.ret (.call F_even_left (.cons (.v 0) (.cons (.v 3) (.cons (.ix (.v 1) (.int 2)) .nil))))) .pass) (.pass)) (.seq (.ret (.call F_odd_left (.cons (.v 0) (.cons (.v 3) (.cons (.ix (.v 1) (.int 2)) .nil))))) .pass)))))⟩
def d__law_with_2818 : Df := ⟨[false, false, false], 4, .seq (.asg 3 (.b1 .list (.v 0))) (.seq (.cond (.cmp .gt (.v 1) (.int 0)) (.seq (.st (.v 3) (.v 1) (.bin .add (.ix (.v 3) (.v 1)) (.v 2))) .pass) (.pass)) (.seq (.ret (.frz (.v 3))) .pass))⟩
def d__law_lesser : Df := ⟨[false, false], 2, .seq (.cond (.isN (.v 0)) (.seq (.ret (.v 1)) .pass) (.pass)) (.seq (.cond (.isN (.v 1)) (.seq (.ret (.v 0)) .pass) (.pass)) (.seq (.ret (.bn .min2 (.cons (.v 0) (.cons (.v 1) .nil)))) .pass))⟩
def d__law_at_most : Df := ⟨[false, false, false], 10, .seq (.cond (.isN (.v 0)) (.seq (.ret (.non)) .pass) (.pass)) (.seq (.asg 3 (.frz (.lc [8] (.itr (.v 1)) (.bl true) (.neg (.v 8))))) (.seq (.asg 4 (.frz (.call F__law_greatest_e95d (.cons (.v 0) (.cons (.v 3) .nil))))) (.seq (.cond (.and (.nisN (.v 4)) (.cmp .gt (.neg (.v 4)) (.v 2))) (.seq (.ret (.non)) .pass) (.pass)) (.seq (.asg 5 (.lc [9] (.itr (.ix (.v 0) (.int 0))) (.bl true) (.b1 .list (.v 9)))) (.seq (.for_ [6] [4, 6, 7] (.rng1 (.b1 .len (.v 5))) (.seq (.for_ [7] [4, 7] (.rng1 (.b1 .len (.v 5))) (.seq (.asg 4 (.frz (.call F__law_greatest_e95d (.cons (.v 0) (.cons (.call F__law_with_2818 (.cons (.call F__law_with_2818 (.cons (.v 3) (.cons (.v 6) (.cons (.int 1) .nil)))) (.cons (.v 7) (.cons (.neg (.int 1)) .nil)))) .nil))))) (.seq (.cond (.and (.ne (.v 6) (.v 7)) (.nisN (.v 4))) (.seq (.st (.ix (.v 5) (.v 6)) (.v 7) (.call F__law_lesser (.cons (.ix (.ix (.v 5) (.v 6)) (.v 7)) (.cons (.bin .add (.v 4) (.v 2)) .nil)))) .pass) (.pass)) .pass))) .pass)) (.seq (.for_ [6] [4, 6] (.rng2 (.int 1) (.b1 .len (.v 5))) (.seq (.asg 4 (.frz (.call F__law_greatest_e95d (.cons (.v 0) (.cons (.call F__law_with_2818 (.cons (.v 3) (.cons (.v 6) (.cons (.ix (.v 1) (.v 6)) .nil)))) .nil))))) (.seq (.cond (.and (.cmp .gt (.ix (.v 1) (.v 6)) (.int 0)) (.nisN (.v 4))) (.seq (.st (.ix (.v 5) (.v 6)) (.int 0) (.call F__law_lesser (.cons (.ix (.ix (.v 5) (.v 6)) (.int 0)) (.cons (.bin .fdv (.bin .add (.v 4) (.v 2)) (.ix (.v 1) (.v 6))) .nil)))) .pass) (.pass)) (.seq (.cond (.and (.cmp .lt (.ix (.v 1) (.v 6)) (.int 0)) (.nisN (.v 4))) (.seq (.st (.ix (.v 5) (.int 0)) (.v 6) (.call F__law_lesser (.cons (.ix (.ix (.v 5) (.int 0)) (.v 6)) (.cons (.bin .fdv (.bin .add (.v 4) (.v 2)) (.b1 .abs (.ix (.v 1) (.v 6)))) .nil)))) .pass) (.pass)) .pass)))) (.seq (.ret (.frz (.call F__law_sharp (.cons (.tup (.cons (.v 5) (.cons (.ix (.v 0) (.int 1)) .nil))) .nil)))) .pass)))))))⟩
def d__law_left_281c : Df := ⟨[false, false, false], 7, .seq (.asg 3 (.b1 .list (.ix (.v 0) (.int 1)))) (.seq (.for_ [4] [4, 5, 6] (.rng2 (.int 1) (.b1 .len (.v 1))) (.seq (.asg 5 (.frz (.ix (.v 1) (.v 4)))) (.seq (.cond (.or (.eq (.v 5) (.int 1)) (.eq (.v 5) (.neg (.int 1)))) (.seq (.asg 6 (.frz (.call F__law_sum_rest (.cons (.call F__law_with_2818 (.cons (.v 1) (.cons (.v 4) (.cons (.neg (.v 5)) .nil)))) (.cons (.ix (.v 0) (.int 1)) .nil))))) (.seq (.asg 6 (.frz (.call F__law_rest_of (.cons (.call F__law_gcd (.cons (.ix (.v 6) (.int 0)) (.cons (.v 2) .nil))) (.cons (.bin .mul (.neg (.v 5)) (.ix (.v 6) (.int 1))) .nil))))) (.seq (.st (.v 3) (.bin .sub (.v 4) (.int 1)) (.call F__law_met_b438 (.cons (.ix (.v 3) (.bin .sub (.v 4) (.int 1))) (.cons (.v 6) .nil)))) .pass))) (.pass)) .pass))) (.seq (.cond (.inn (.non) (.v 3)) (.seq (.ret (.non)) .pass) (.pass)) (.seq (.ret (.frz (.call F__law_sharp (.cons (.tup (.cons (.ix (.v 0) (.int 0)) (.cons (.v 3) .nil))) .nil)))) .pass)))⟩
def d__law_same_left : Df := ⟨[false, false], 4, .seq (.cond (.ne (.ix (.call F__law_sum_rest (.cons (.v 1) (.cons (.ix (.v 0) (.int 1)) .nil))) (.int 1)) (.int 0)) (.seq (.ret (.non)) .pass) (.pass)) (.seq (.asg 2 (.frz (.call F__law_at_most (.cons (.call F__law_at_most (.cons (.v 0) (.cons (.v 1) (.cons (.int 0) .nil)))) (.cons (.lc [3] (.itr (.v 1)) (.bl true) (.neg (.v 3))) (.cons (.int 0) .nil)))))) (.seq (.cond (.isN (.v 2)) (.seq (.ret (.non)) .pass) (.pass)) (.seq (.ret (.frz (.call F__law_left_281c (.cons (.v 2) (.cons (.v 1) (.cons (.int 0) .nil)))))) .pass)))⟩
def d__law_unlike : Df := ⟨[false, false], 5, .seq (.for_ [2] [2, 3] (.itr (.lst (.cons (.v 1) (.cons (.lc [4] (.itr (.v 1)) (.bl true) (.neg (.v 4))) .nil)))) (.seq (.cond (.nisN (.v 0)) (.seq (.asg 3 (.frz (.call F__law_greatest_e95d (.cons (.v 0) (.cons (.v 2) .nil))))) (.seq (.cond (.and (.nisN (.v 3)) (.cmp .le (.v 3) (.int 0))) (.seq (.asg 0 (.frz (.call F__law_at_most (.cons (.v 0) (.cons (.v 2) (.cons (.neg (.int 1)) .nil)))))) .pass) (.pass)) .pass)) (.pass)) .pass)) (.seq (.ret (.frz (.v 0))) .pass)⟩
def d__law_with_c60b : Df := ⟨[false, false, false], 4, .seq (.asg 3 (.b1 .list (.v 0))) (.seq (.st (.v 3) (.v 1) (.bin .add (.ix (.v 3) (.v 1)) (.v 2))) (.seq (.ret (.frz (.v 3))) .pass))⟩
def d__law_left_7da2 : Df := ⟨[false, false, false], 7, .seq (.asg 3 (.b1 .list (.ix (.v 0) (.int 1)))) (.seq (.for_ [4] [4, 5, 6] (.rng2 (.int 1) (.b1 .len (.v 1))) (.seq (.asg 5 (.frz (.ix (.v 1) (.v 4)))) (.seq (.cond (.or (.eq (.v 5) (.int 1)) (.eq (.v 5) (.neg (.int 1)))) (.seq (.asg 6 (.frz (.call F__law_sum_rest (.cons (.call F__law_with_c60b (.cons (.v 1) (.cons (.v 4) (.cons (.neg (.v 5)) .nil)))) (.cons (.ix (.v 0) (.int 1)) .nil))))) (.seq (.asg 6 (.frz (.call F__law_rest_of (.cons (.call F__law_gcd (.cons (.ix (.v 6) (.int 0)) (.cons (.v 2) .nil))) (.cons (.bin .mul (.neg (.v 5)) (.ix (.v 6) (.int 1))) .nil))))) (.seq (.st (.v 3) (.bin .sub (.v 4) (.int 1)) (.call F__law_met_b438 (.cons (.ix (.v 3) (.bin .sub (.v 4) (.int 1))) (.cons (.v 6) .nil)))) .pass))) (.pass)) .pass))) (.seq (.cond (.inn (.non) (.v 3)) (.seq (.ret (.non)) .pass) (.pass)) (.seq (.ret (.frz (.call F__law_sharp (.cons (.tup (.cons (.ix (.v 0) (.int 0)) (.cons (.v 3) .nil))) .nil)))) .pass)))⟩
def d__law_when : Df := ⟨[false, false, false, false], 5, .seq (.cond (.isN (.v 0)) (.seq (.ret (.non)) .pass) (.pass)) (.seq (.asg 4 (.frz (.call F__law_sum_rest (.cons (.v 1) (.cons (.ix (.v 0) (.int 1)) .nil))))) (.seq (.cond (.v 3) (.seq (.cond (.ne (.bin .mod (.ix (.v 4) (.int 1)) (.call F__law_gcd (.cons (.ix (.v 4) (.int 0)) (.cons (.v 2) .nil)))) (.int 0)) (.seq (.ret (.non)) .pass) (.pass)) (.seq (.ret (.frz (.call F__law_left_7da2 (.cons (.v 0) (.cons (.v 1) (.cons (.v 2) .nil)))))) .pass)) (.pass)) (.seq (.cond (.and (.eq (.bin .mod (.ix (.v 4) (.int 0)) (.v 2)) (.int 0)) (.eq (.bin .mod (.ix (.v 4) (.int 1)) (.v 2)) (.int 0))) (.seq (.ret (.non)) .pass) (.pass)) (.seq (.cond (.eq (.v 2) (.int 2)) (.seq (.ret (.frz (.call F__law_when (.cons (.v 0) (.cons (.call F__law_with_c60b (.cons (.v 1) (.cons (.int 0) (.cons (.int 1) .nil)))) (.cons (.int 2) (.cons (.bl true) .nil))))))) .pass) (.pass)) (.seq (.ret (.v 0)) .pass)))))⟩
def d__law_holds_7701 : Df := ⟨[false, false], 3, .seq (.asg 2 (.frz (.call F__law_value_c4d8 (.cons (.ix (.v 0) (.int 1)) (.cons (.v 1) .nil))))) (.seq (.cond (.eq (.ix (.v 0) (.int 0)) (.str "under")) (.seq (.ret (.cmp .lt (.v 2) (.int 0))) .pass) (.pass)) (.seq (.cond (.eq (.ix (.v 0) (.int 0)) (.str "same")) (.seq (.ret (.eq (.v 2) (.int 0))) .pass) (.pass)) (.seq (.ret (.eq (.bin .mod (.v 2) (.ix (.v 0) (.int 2))) (.int 0))) .pass)))⟩
def d__law_plain_01db : Df := ⟨[false, false], 4, .seq (.asg 2 (.frz (.lc [3] (.itr (.sl (.ix (.v 0) (.int 1)) (.int 1) .nil)) (.ne (.v 3) (.int 0)) (.v 3)))) (.seq (.cond (.eq (.b1 .len (.v 2)) (.int 0)) (.seq (.ret (.bl true)) .pass) (.pass)) (.seq (.cond (.and (.eq (.ix (.v 0) (.int 0)) (.str "even")) (.v 1)) (.seq (.ret (.and (.eq (.b1 .len (.v 2)) (.int 1)) (.eq (.b1 .abs (.ix (.v 2) (.int 0))) (.int 1)))) .pass) (.pass)) (.seq (.cond (.eq (.ix (.v 0) (.int 0)) (.str "even")) (.seq (.ret (.or (.eq (.ix (.v 0) (.int 2)) (.int 1)) (.and (.eq (.ix (.v 0) (.int 2)) (.int 2)) (.and (.eq (.b1 .len (.v 2)) (.int 1)) (.eq (.b1 .abs (.ix (.v 2) (.int 0))) (.int 1)))))) .pass) (.pass)) (.seq (.cond (.and (.eq (.ix (.v 0) (.int 0)) (.str "same")) (.not (.v 1))) (.seq (.ret (.bl false)) .pass) (.pass)) (.seq (.ret (.or (.eq (.b1 .len (.v 2)) (.int 1)) (.eq (.b1 .sorted (.v 2)) (.lst (.cons (.neg (.int 1)) (.cons (.int 1) .nil)))))) .pass)))))⟩
def d__law_claim_468c : Df := ⟨[false, false], 4, .seq (.asg 2 (.call F__law_sum_0da3 (.cons (.v 0) (.cons (.int 8) (.cons (.b1 .len (.v 1)) .nil))))) (.seq (.cond (.cmp .gt (.call F__law_pick_0c7c (.cons (.v 0) (.cons (.int 7) (.cons (.int 4) .nil)))) (.int 0)) (.seq (.st (.v 2) (.int 0) (.bin .sub (.bin .add (.bin .sub (.ix (.v 2) (.int 0)) (.call F__law_value_c4d8 (.cons (.v 2) (.cons (.v 1) .nil)))) (.call F__law_pick_0c7c (.cons (.v 0) (.cons (.int 6) (.cons (.int 5) .nil))))) (.int 2))) .pass) (.pass)) (.seq (.asg 3 (.call F__law_pick_0c7c (.cons (.v 0) (.cons (.int 13) (.cons (.int 12) .nil))))) (.seq (.cond (.eq (.bin .mod (.v 3) (.int 3)) (.int 0)) (.seq (.ret (.frz (.tup (.cons (.str "under") (.cons (.v 2) .nil))))) .pass) (.pass)) (.seq (.cond (.eq (.bin .mod (.v 3) (.int 3)) (.int 1)) (.seq (.ret (.frz (.tup (.cons (.str "same") (.cons (.v 2) .nil))))) .pass) (.pass)) (.seq (.cond (.eq (.v 3) (.int 2)) (.seq (.ret (.frz (.tup (.cons (.str "even") (.cons (.v 2) (.cons (.bn .max2 (.cons (.int 1) (.cons (.b1 .abs (.call F__law_number_56fb (.cons (.v 0) (.cons (.int 1) .nil)))) .nil))) .nil)))))) .pass) (.pass)) (.seq (.ret (.frz (.tup (.cons (.str "even") (.cons (.v 2) (.cons (.bin .add (.int 1) (.call F__law_pick_0c7c (.cons (.v 0) (.cons (.int 1) (.cons (.int 4) .nil))))) .nil)))))) .pass))))))⟩
def d__law_asked_182b : Df := ⟨[false, false, false, false, false], 6, .seq (.asg 5 (.eq (.call F__law_holds_7701 (.cons (.v 1) (.cons (.v 3) .nil))) (.v 2))) (.seq (.cond (.and (.v 5) (.call F__law_lies_38ce (.cons (.v 0) (.cons (.v 3) .nil)))) (.seq (.ret (.call F__law_lies_38ce (.cons (.v 4) (.cons (.v 3) .nil)))) .pass) (.pass)) (.seq (.ret (.or (.v 5) (.or (.not (.call F__law_plain_01db (.cons (.v 1) (.cons (.v 2) .nil)))) (.not (.call F__law_lies_38ce (.cons (.v 4) (.cons (.v 3) .nil))))))) .pass))⟩
def P0 : Nat → Df
  | 0 => d_divisor
  | _ => ⟨[], 0, .pass⟩
def N0 : Nat → Str
  | 0 => "divisor"
  | _ => ""
def P1 : Nat → Df
  | 4 => d_rest
  | 5 => d_rest_has
  | 9 => d_rest_inside
  | 10 => d_rest_joined
  | 11 => d_inverse
  | 12 => d_rest_met
  | 19 => d_rest_plus
  | 20 => d_rest_times
  | 21 => d_rest_parted
  | 22 => d_rest_rested
  | 23 => d_rest_loosened
  | 29 => d_rest_under
  | 31 => d_box_sum
  | _ => ⟨[], 0, .pass⟩
def N1 : Nat → Str
  | 4 => "rest"
  | 5 => "rest_has"
  | 9 => "rest_inside"
  | 10 => "rest_joined"
  | 11 => "inverse"
  | 12 => "rest_met"
  | 19 => "rest_plus"
  | 20 => "rest_times"
  | 21 => "rest_parted"
  | 22 => "rest_rested"
  | 23 => "rest_loosened"
  | 29 => "rest_under"
  | 31 => "box_sum"
  | _ => ""
def P2 : Nat → Df
  | 0 => d_sum_plus
  | 1 => d_sum_times
  | 5 => d_sum_rest
  | _ => ⟨[], 0, .pass⟩
def N2 : Nat → Str
  | 0 => "sum_plus"
  | 1 => "sum_times"
  | 5 => "sum_rest"
  | _ => ""
def P4 : Nat → Df
  | 26 => d__law_mixed
  | 27 => d__law_pick_0c7c
  | 28 => d__law_number_56fb
  | 29 => d__law_slack
  | 30 => d__law_rest_of
  | 31 => d__law_rest_f4ab
  | _ => ⟨[], 0, .pass⟩
def N4 : Nat → Str
  | 26 => "_law_mixed"
  | 27 => "_law_pick"
  | 28 => "_law_number"
  | 29 => "_law_slack"
  | 30 => "_law_rest_of"
  | 31 => "_law_rest"
  | _ => ""
def P5 : Nat → Df
  | 0 => d__law_told_2ac3
  | 1 => d__law_copy_13a6
  | 2 => d__law_lies_38ce
  | 6 => d__law_gcd
  | 9 => d__law_spoilt
  | 10 => d__law_under
  | 11 => d__law_rest_in
  | 12 => d__law_inside_5dab
  | 16 => d__law_whole_92eb
  | 17 => d__law_grid
  | 18 => d__law_shape_824f
  | 19 => d__law_same_a595
  | 22 => d_closed
  | 23 => d__law_over_50ad
  | 24 => d__law_least_sums
  | 25 => d_fixed
  | 26 => d_handed_over
  | 27 => d_lowered
  | 28 => d_sharp
  | 31 => d__law_met_b438
  | _ => ⟨[], 0, .pass⟩
def N5 : Nat → Str
  | 0 => "_law_told"
  | 1 => "_law_copy"
  | 2 => "_law_lies"
  | 6 => "_law_gcd"
  | 9 => "_law_spoilt"
  | 10 => "_law_under"
  | 11 => "_law_rest_in"
  | 12 => "_law_inside"
  | 16 => "_law_whole"
  | 17 => "_law_grid"
  | 18 => "_law_shape"
  | 19 => "_law_same"
  | 22 => "closed"
  | 23 => "_law_over"
  | 24 => "_law_least_sums"
  | 25 => "fixed"
  | 26 => "handed_over"
  | 27 => "lowered"
  | 28 => "sharp"
  | 31 => "_law_met"
  | _ => ""
def P6 : Nat → Df
  | 0 => d__law_handed
  | 1 => d__law_lowered
  | 2 => d__law_sharp
  | 3 => d__law_agree
  | 9 => d__law_change_a255
  | 16 => d_pair_of
  | 17 => d_greatest
  | 18 => d_least
  | 19 => d__law_sum_0da3
  | 20 => d__law_value_c4d8
  | 21 => d__law_greatest_e95d
  | 25 => d_recast
  | 26 => d__law_less_6b17
  | 27 => d__law_sum_rest
  | 28 => d__law_recast
  | 31 => d_anew
  | _ => ⟨[], 0, .pass⟩
def N6 : Nat → Str
  | 0 => "_law_handed"
  | 1 => "_law_lowered"
  | 2 => "_law_sharp"
  | 3 => "_law_agree"
  | 9 => "_law_change"
  | 16 => "pair_of"
  | 17 => "greatest"
  | 18 => "least"
  | 19 => "_law_sum"
  | 20 => "_law_value"
  | 21 => "_law_greatest"
  | 25 => "recast"
  | 26 => "_law_less"
  | 27 => "_law_sum_rest"
  | 28 => "_law_recast"
  | 31 => "anew"
  | _ => ""
def P7 : Nat → Df
  | 0 => d__law_anew
  | 2 => d_pull
  | 3 => d_at_most
  | 4 => d_rests_left
  | 5 => d_same_left
  | 6 => d_unlike_left
  | 7 => d_even_left
  | 8 => d_odd_left
  | 9 => d_when
  | 10 => d__law_with_2818
  | 11 => d__law_lesser
  | 12 => d__law_at_most
  | 13 => d__law_left_281c
  | 14 => d__law_same_left
  | 15 => d__law_unlike
  | 16 => d__law_with_c60b
  | 17 => d__law_left_7da2
  | 18 => d__law_when
  | 19 => d__law_holds_7701
  | 20 => d__law_plain_01db
  | 21 => d__law_claim_468c
  | 22 => d__law_asked_182b
  | _ => ⟨[], 0, .pass⟩
def N7 : Nat → Str
  | 0 => "_law_anew"
  | 2 => "pull"
  | 3 => "at_most"
  | 4 => "rests_left"
  | 5 => "same_left"
  | 6 => "unlike_left"
  | 7 => "even_left"
  | 8 => "odd_left"
  | 9 => "when"
  | 10 => "_law_with"
  | 11 => "_law_lesser"
  | 12 => "_law_at_most"
  | 13 => "_law_left"
  | 14 => "_law_same_left"
  | 15 => "_law_unlike"
  | 16 => "_law_with"
  | 17 => "_law_left"
  | 18 => "_law_when"
  | 19 => "_law_holds"
  | 20 => "_law_plain"
  | 21 => "_law_claim"
  | 22 => "_law_asked"
  | _ => ""
def P (i : Nat) : Df := match i / 32 with
  | 0 => P0 (i % 32)
  | 1 => P1 (i % 32)
  | 2 => P2 (i % 32)
  | 4 => P4 (i % 32)
  | 5 => P5 (i % 32)
  | 6 => P6 (i % 32)
  | 7 => P7 (i % 32)
  | _ => ⟨[], 0, .pass⟩
def fnm (i : Nat) : Str := match i / 32 with
  | 0 => N0 (i % 32)
  | 1 => N1 (i % 32)
  | 2 => N2 (i % 32)
  | 4 => N4 (i % 32)
  | 5 => N5 (i % 32)
  | 6 => N6 (i % 32)
  | 7 => N7 (i % 32)
  | _ => ""
@[simp] theorem P_divisor : P 0 = d_divisor := rfl
@[simp] theorem io_divisor : (d_divisor).io = [false, false] := rfl
@[simp] theorem P_rest : P 36 = d_rest := rfl
@[simp] theorem io_rest : (d_rest).io = [false, false] := rfl
@[simp] theorem P_rest_has : P 37 = d_rest_has := rfl
@[simp] theorem io_rest_has : (d_rest_has).io = [false, false] := rfl
@[simp] theorem P_rest_inside : P 41 = d_rest_inside := rfl
@[simp] theorem io_rest_inside : (d_rest_inside).io = [false, false] := rfl
@[simp] theorem P_rest_joined : P 42 = d_rest_joined := rfl
@[simp] theorem io_rest_joined : (d_rest_joined).io = [false, false] := rfl
@[simp] theorem P_inverse : P 43 = d_inverse := rfl
@[simp] theorem io_inverse : (d_inverse).io = [false, false] := rfl
@[simp] theorem P_rest_met : P 44 = d_rest_met := rfl
@[simp] theorem io_rest_met : (d_rest_met).io = [false, false] := rfl
@[simp] theorem P_rest_plus : P 51 = d_rest_plus := rfl
@[simp] theorem io_rest_plus : (d_rest_plus).io = [false, false] := rfl
@[simp] theorem P_rest_times : P 52 = d_rest_times := rfl
@[simp] theorem io_rest_times : (d_rest_times).io = [false, false] := rfl
@[simp] theorem P_rest_parted : P 53 = d_rest_parted := rfl
@[simp] theorem io_rest_parted : (d_rest_parted).io = [false, false] := rfl
@[simp] theorem P_rest_rested : P 54 = d_rest_rested := rfl
@[simp] theorem io_rest_rested : (d_rest_rested).io = [false, false] := rfl
@[simp] theorem P_rest_loosened : P 55 = d_rest_loosened := rfl
@[simp] theorem io_rest_loosened : (d_rest_loosened).io = [false, false] := rfl
@[simp] theorem P_rest_under : P 61 = d_rest_under := rfl
@[simp] theorem io_rest_under : (d_rest_under).io = [false, false] := rfl
@[simp] theorem P_box_sum : P 63 = d_box_sum := rfl
@[simp] theorem io_box_sum : (d_box_sum).io = [false, false] := rfl
@[simp] theorem P_sum_plus : P 64 = d_sum_plus := rfl
@[simp] theorem io_sum_plus : (d_sum_plus).io = [false, false] := rfl
@[simp] theorem P_sum_times : P 65 = d_sum_times := rfl
@[simp] theorem io_sum_times : (d_sum_times).io = [false, false] := rfl
@[simp] theorem P_sum_rest : P 69 = d_sum_rest := rfl
@[simp] theorem io_sum_rest : (d_sum_rest).io = [false, false] := rfl
@[simp] theorem P__law_mixed : P 154 = d__law_mixed := rfl
@[simp] theorem io__law_mixed : (d__law_mixed).io = [false, false] := rfl
@[simp] theorem P__law_pick_0c7c : P 155 = d__law_pick_0c7c := rfl
@[simp] theorem io__law_pick_0c7c : (d__law_pick_0c7c).io = [false, false, false] := rfl
@[simp] theorem P__law_number_56fb : P 156 = d__law_number_56fb := rfl
@[simp] theorem io__law_number_56fb : (d__law_number_56fb).io = [false, false] := rfl
@[simp] theorem P__law_slack : P 157 = d__law_slack := rfl
@[simp] theorem io__law_slack : (d__law_slack).io = [false, false] := rfl
@[simp] theorem P__law_rest_of : P 158 = d__law_rest_of := rfl
@[simp] theorem io__law_rest_of : (d__law_rest_of).io = [false, false] := rfl
@[simp] theorem P__law_rest_f4ab : P 159 = d__law_rest_f4ab := rfl
@[simp] theorem io__law_rest_f4ab : (d__law_rest_f4ab).io = [false, false, false] := rfl
@[simp] theorem P__law_told_2ac3 : P 160 = d__law_told_2ac3 := rfl
@[simp] theorem io__law_told_2ac3 : (d__law_told_2ac3).io = [false, false, false] := rfl
@[simp] theorem P__law_copy_13a6 : P 161 = d__law_copy_13a6 := rfl
@[simp] theorem io__law_copy_13a6 : (d__law_copy_13a6).io = [false] := rfl
@[simp] theorem P__law_lies_38ce : P 162 = d__law_lies_38ce := rfl
@[simp] theorem io__law_lies_38ce : (d__law_lies_38ce).io = [false, false] := rfl
@[simp] theorem P__law_gcd : P 166 = d__law_gcd := rfl
@[simp] theorem io__law_gcd : (d__law_gcd).io = [false, false] := rfl
@[simp] theorem P__law_spoilt : P 169 = d__law_spoilt := rfl
@[simp] theorem io__law_spoilt : (d__law_spoilt).io = [false, false, false] := rfl
@[simp] theorem P__law_under : P 170 = d__law_under := rfl
@[simp] theorem io__law_under : (d__law_under).io = [false, false] := rfl
@[simp] theorem P__law_rest_in : P 171 = d__law_rest_in := rfl
@[simp] theorem io__law_rest_in : (d__law_rest_in).io = [false, false] := rfl
@[simp] theorem P__law_inside_5dab : P 172 = d__law_inside_5dab := rfl
@[simp] theorem io__law_inside_5dab : (d__law_inside_5dab).io = [false, false] := rfl
@[simp] theorem P__law_whole_92eb : P 176 = d__law_whole_92eb := rfl
@[simp] theorem io__law_whole_92eb : (d__law_whole_92eb).io = [false] := rfl
@[simp] theorem P__law_grid : P 177 = d__law_grid := rfl
@[simp] theorem io__law_grid : (d__law_grid).io = [false, false] := rfl
@[simp] theorem P__law_shape_824f : P 178 = d__law_shape_824f := rfl
@[simp] theorem io__law_shape_824f : (d__law_shape_824f).io = [false, false] := rfl
@[simp] theorem P__law_same_a595 : P 179 = d__law_same_a595 := rfl
@[simp] theorem io__law_same_a595 : (d__law_same_a595).io = [false, false] := rfl
@[simp] theorem P_closed : P 182 = d_closed := rfl
@[simp] theorem io_closed : (d_closed).io = [false] := rfl
@[simp] theorem P__law_over_50ad : P 183 = d__law_over_50ad := rfl
@[simp] theorem io__law_over_50ad : (d__law_over_50ad).io = [false, false, false] := rfl
@[simp] theorem P__law_least_sums : P 184 = d__law_least_sums := rfl
@[simp] theorem io__law_least_sums : (d__law_least_sums).io = [false] := rfl
@[simp] theorem P_fixed : P 185 = d_fixed := rfl
@[simp] theorem io_fixed : (d_fixed).io = [false, false, false] := rfl
@[simp] theorem P_handed_over : P 186 = d_handed_over := rfl
@[simp] theorem io_handed_over : (d_handed_over).io = [false, false] := rfl
@[simp] theorem P_lowered : P 187 = d_lowered := rfl
@[simp] theorem io_lowered : (d_lowered).io = [false, false] := rfl
@[simp] theorem P_sharp : P 188 = d_sharp := rfl
@[simp] theorem io_sharp : (d_sharp).io = [false] := rfl
@[simp] theorem P__law_met_b438 : P 191 = d__law_met_b438 := rfl
@[simp] theorem io__law_met_b438 : (d__law_met_b438).io = [false, false] := rfl
@[simp] theorem P__law_handed : P 192 = d__law_handed := rfl
@[simp] theorem io__law_handed : (d__law_handed).io = [false, false] := rfl
@[simp] theorem P__law_lowered : P 193 = d__law_lowered := rfl
@[simp] theorem io__law_lowered : (d__law_lowered).io = [false, false] := rfl
@[simp] theorem P__law_sharp : P 194 = d__law_sharp := rfl
@[simp] theorem io__law_sharp : (d__law_sharp).io = [false] := rfl
@[simp] theorem P__law_agree : P 195 = d__law_agree := rfl
@[simp] theorem io__law_agree : (d__law_agree).io = [false, false, false] := rfl
@[simp] theorem P__law_change_a255 : P 201 = d__law_change_a255 := rfl
@[simp] theorem io__law_change_a255 : (d__law_change_a255).io = [true] := rfl
@[simp] theorem P_pair_of : P 208 = d_pair_of := rfl
@[simp] theorem io_pair_of : (d_pair_of).io = [false] := rfl
@[simp] theorem P_greatest : P 209 = d_greatest := rfl
@[simp] theorem io_greatest : (d_greatest).io = [false, false] := rfl
@[simp] theorem P_least : P 210 = d_least := rfl
@[simp] theorem io_least : (d_least).io = [false, false] := rfl
@[simp] theorem P__law_sum_0da3 : P 211 = d__law_sum_0da3 := rfl
@[simp] theorem io__law_sum_0da3 : (d__law_sum_0da3).io = [false, false, false] := rfl
@[simp] theorem P__law_value_c4d8 : P 212 = d__law_value_c4d8 := rfl
@[simp] theorem io__law_value_c4d8 : (d__law_value_c4d8).io = [false, false] := rfl
@[simp] theorem P__law_greatest_e95d : P 213 = d__law_greatest_e95d := rfl
@[simp] theorem io__law_greatest_e95d : (d__law_greatest_e95d).io = [false, false] := rfl
@[simp] theorem P_recast : P 217 = d_recast := rfl
@[simp] theorem io_recast : (d_recast).io = [false, false] := rfl
@[simp] theorem P__law_less_6b17 : P 218 = d__law_less_6b17 := rfl
@[simp] theorem io__law_less_6b17 : (d__law_less_6b17).io = [false, false] := rfl
@[simp] theorem P__law_sum_rest : P 219 = d__law_sum_rest := rfl
@[simp] theorem io__law_sum_rest : (d__law_sum_rest).io = [false, false] := rfl
@[simp] theorem P__law_recast : P 220 = d__law_recast := rfl
@[simp] theorem io__law_recast : (d__law_recast).io = [false, false] := rfl
@[simp] theorem P_anew : P 223 = d_anew := rfl
@[simp] theorem io_anew : (d_anew).io = [false, false, false, false] := rfl
@[simp] theorem P__law_anew : P 224 = d__law_anew := rfl
@[simp] theorem io__law_anew : (d__law_anew).io = [false, false, false, false] := rfl
@[simp] theorem P_pull : P 226 = d_pull := rfl
@[simp] theorem io_pull : (d_pull).io = [true, false, false, false] := rfl
@[simp] theorem P_at_most : P 227 = d_at_most := rfl
@[simp] theorem io_at_most : (d_at_most).io = [false, false, false] := rfl
@[simp] theorem P_rests_left : P 228 = d_rests_left := rfl
@[simp] theorem io_rests_left : (d_rests_left).io = [false, false, false] := rfl
@[simp] theorem P_same_left : P 229 = d_same_left := rfl
@[simp] theorem io_same_left : (d_same_left).io = [false, false] := rfl
@[simp] theorem P_unlike_left : P 230 = d_unlike_left := rfl
@[simp] theorem io_unlike_left : (d_unlike_left).io = [false, false] := rfl
@[simp] theorem P_even_left : P 231 = d_even_left := rfl
@[simp] theorem io_even_left : (d_even_left).io = [false, false, false] := rfl
@[simp] theorem P_odd_left : P 232 = d_odd_left := rfl
@[simp] theorem io_odd_left : (d_odd_left).io = [false, false, false] := rfl
@[simp] theorem P_when : P 233 = d_when := rfl
@[simp] theorem io_when : (d_when).io = [false, false, false] := rfl
@[simp] theorem P__law_with_2818 : P 234 = d__law_with_2818 := rfl
@[simp] theorem io__law_with_2818 : (d__law_with_2818).io = [false, false, false] := rfl
@[simp] theorem P__law_lesser : P 235 = d__law_lesser := rfl
@[simp] theorem io__law_lesser : (d__law_lesser).io = [false, false] := rfl
@[simp] theorem P__law_at_most : P 236 = d__law_at_most := rfl
@[simp] theorem io__law_at_most : (d__law_at_most).io = [false, false, false] := rfl
@[simp] theorem P__law_left_281c : P 237 = d__law_left_281c := rfl
@[simp] theorem io__law_left_281c : (d__law_left_281c).io = [false, false, false] := rfl
@[simp] theorem P__law_same_left : P 238 = d__law_same_left := rfl
@[simp] theorem io__law_same_left : (d__law_same_left).io = [false, false] := rfl
@[simp] theorem P__law_unlike : P 239 = d__law_unlike := rfl
@[simp] theorem io__law_unlike : (d__law_unlike).io = [false, false] := rfl
@[simp] theorem P__law_with_c60b : P 240 = d__law_with_c60b := rfl
@[simp] theorem io__law_with_c60b : (d__law_with_c60b).io = [false, false, false] := rfl
@[simp] theorem P__law_left_7da2 : P 241 = d__law_left_7da2 := rfl
@[simp] theorem io__law_left_7da2 : (d__law_left_7da2).io = [false, false, false] := rfl
@[simp] theorem P__law_when : P 242 = d__law_when := rfl
@[simp] theorem io__law_when : (d__law_when).io = [false, false, false, false] := rfl
@[simp] theorem P__law_holds_7701 : P 243 = d__law_holds_7701 := rfl
@[simp] theorem io__law_holds_7701 : (d__law_holds_7701).io = [false, false] := rfl
@[simp] theorem P__law_plain_01db : P 244 = d__law_plain_01db := rfl
@[simp] theorem io__law_plain_01db : (d__law_plain_01db).io = [false, false] := rfl
@[simp] theorem P__law_claim_468c : P 245 = d__law_claim_468c := rfl
@[simp] theorem io__law_claim_468c : (d__law_claim_468c).io = [false, false] := rfl
@[simp] theorem P__law_asked_182b : P 246 = d__law_asked_182b := rfl
@[simp] theorem io__law_asked_182b : (d__law_asked_182b).io = [false, false, false, false, false] := rfl
end Sr
set_option Elab.async false
set_option linter.all false
set_option maxRecDepth 100000
set_option maxHeartbeats 4000000
namespace Sr
open PySem PySem.Spec PyProof.Rows L2
def d_law : Df := ⟨[false], 11, .seq (.asg 1 (.frz (.ix (.lst (.cons (.int 0) (.cons (.int 1) (.cons (.int 2) (.cons (.int 1) (.cons (.int 2) (.cons (.int 1) (.cons (.int 3) (.cons (.int 2) (.cons (.int 4) .nil)))))))))) (.call F__law_pick_0c7c (.cons (.v 0) (.cons (.int 0) (.cons (.int 9) .nil))))))) (.seq (.asg 2 (.frz (.lc [10] (.rng1 (.v 1)) (.bl true) (.call F__law_number_56fb (.cons (.v 0) (.cons (.bin .add (.int 2) (.v 10)) .nil)))))) (.seq (.asg 3 (.frz (.call F__law_told_2ac3 (.cons (.v 0) (.cons (.int 14) (.cons (.v 2) .nil)))))) (.seq (.asg 4 (.frz (.call F__law_copy_13a6 (.cons (.v 3) .nil)))) (.seq (.asg 5 (.frz (.call F__law_claim_468c (.cons (.v 0) (.cons (.v 2) .nil))))) (.seq (.asg 6 (.b1 .list (.v 2))) (.seq (.cond (.cmp .gt (.b1 .len (.v 2)) (.int 0)) (.seq (.asg 8 (.call F__law_pick_0c7c (.cons (.v 0) (.cons (.int 43) (.cons (.b1 .len (.v 2)) .nil))))) (.seq (.st (.v 6) (.v 8) (.bin .sub (.bin .add (.ix (.v 6) (.v 8)) (.call F__law_pick_0c7c (.cons (.v 0) (.cons (.int 44) (.cons (.int 5) .nil))))) (.int 2))) .pass)) (.pass)) (.seq (.for_ [7] [7, 9] (.itr (.lst (.cons (.bl true) (.cons (.bl false) .nil)))) (.seq (.asg 9 (.frz (.call F_when (.cons (.v 3) (.cons (.v 5) (.cons (.v 7) .nil)))))) (.seq (.cond (.or (.and (.nisN (.v 9)) (.not (.call F__law_shape_824f (.cons (.v 9) (.cons (.b1 .len (.v 2)) .nil))))) (.ne (.v 3) (.v 4))) (.seq (.ret (.bl false)) .pass) (.pass)) (.seq (.cond (.or (.not (.call F__law_inside_5dab (.cons (.v 9) (.cons (.v 3) .nil)))) (.not (.call F__law_asked_182b (.cons (.v 3) (.cons (.v 5) (.cons (.v 7) (.cons (.v 2) (.cons (.v 9) .nil)))))))) (.seq (.ret (.bl false)) .pass) (.pass)) (.seq (.cond (.not (.call F__law_asked_182b (.cons (.v 3) (.cons (.v 5) (.cons (.v 7) (.cons (.v 6) (.cons (.v 9) .nil))))))) (.seq (.ret (.bl false)) .pass) (.pass)) .pass))))) (.seq (.ret (.bl true)) .pass))))))))⟩
@[simp] theorem io_law : (d_law).io = [false] := rfl
end Sr
set_option Elab.async false
set_option linter.all false
set_option maxRecDepth 100000
/-! # Sr: lists by their places -/
namespace Sr
open PySem PySem.Spec PyProof.Rows L2
/-- the list of f 0 .. f (n - 1) -/
def mk (n : Nat) (f : Nat → D) : List D := (List.range n).map f
section
variable {n m i : Nat} {f g : Nat → D} {x : D} {k : Nat}
@[simp] theorem range_mk : List.map f (List.range n) = mk n f := rfl
@[simp] theorem mk_len : (mk n f).length = n := by simp [mk, -range_mk]
@[simp] theorem mk_map {h : D → D} : List.map h (mk n f) = mk n (fun i => h (f i)) := by simp [mk, Function.comp, -range_mk]
@[simp] theorem mk_0 : mk 0 f = [] := rfl
theorem mk_succ : mk (n + 1) f = mk n f ++ [f n] := by simp [mk, List.range_succ, -range_mk]
theorem mk_congr (h : ∀ i, i < n → f i = g i) : mk n f = mk n g := by
  unfold mk
  exact List.map_congr_left fun i hi => h i (List.mem_range.mp hi)
theorem mk_getq (h : i < n) : (mk n f)[i]? = some (f i) := by
  unfold mk
  rw [List.getElem?_map, List.getElem?_range h]; rfl
theorem mk_get {x : D} (h : (mk n f)[i]? = some x) : i < n ∧ x = f i := by
  have hl := (List.getElem?_eq_some_iff.mp h).1
  rw [mk_len] at hl
  rw [mk_getq hl] at h
  exact ⟨hl, (Option.some.inj h).symm⟩
theorem mk_ext {xs : List D} (hl : xs.length = n) (h : ∀ i, i < n → xs[i]? = some (f i)) : xs = mk n f := by
  apply List.ext_getElem?
  intro i
  by_cases hi : i < n
  · rw [h i hi, mk_getq hi]
  · rw [List.getElem?_eq_none (by omega), List.getElem?_eq_none (by simp; omega)]
theorem mk_set : (mk n f).set i x = mk n (fun j => if j = i then x else f j) := by
  refine mk_ext (by simp) fun j hj => ?_
  by_cases c : j = i
  · subst c; rw [List.getElem?_set_self (by simpa using hj), if_pos rfl]
  · rw [List.getElem?_set_ne (Ne.symm c), mk_getq hj, if_neg c]
theorem mk_cons : x :: mk n f = mk (n + 1) (fun i => if i = 0 then x else f (i - 1)) := by
  refine mk_ext (by simp) fun j hj => ?_
  cases j with
  | zero => rfl
  | succ j => simp [mk_getq (show j < n by omega)]
theorem mk_app : mk n f ++ mk m g = mk (n + m) (fun i => if i < n then f i else g (i - n)) := by
  refine mk_ext (by simp) fun j hj => ?_
  by_cases c : j < n
  · rw [List.getElem?_append_left (by simpa using c), mk_getq c, if_pos c]
  · rw [List.getElem?_append_right (by simp; omega), mk_len, mk_getq (by omega), if_neg c]
@[simp] theorem mk_rep : (List.replicate k [x]).flatten = mk k (fun _ => x) := by
  refine mk_ext (by simp) fun j hj => ?_
  induction k generalizing j with
  | zero => omega
  | succ k ih =>
    rw [List.replicate_succ, List.flatten_cons]
    cases j with
    | zero => rfl
    | succ j => simpa using ih j (by omega)
@[simp] theorem unL_mk (h : ∀ i, (f i).un = true) : unL (mk n f) = true := by
  have : ∀ l : List Nat, unL (l.map f) = true := fun l => by
    induction l with
    | nil => rfl
    | cons a r ih => simp [ih, h]
  exact this _
@[simp] theorem nsL_mk (h : ∀ i, (f i).ns = true) : nsL (mk n f) = true := by
  have : ∀ l : List Nat, nsL (l.map f) = true := fun l => by
    induction l with
    | nil => rfl
    | cons a r ih => simp [ih, h]
  exact this _
@[simp] theorem shrL_mk : shrL (mk n f) = mk n (fun i => (f i).shr) := by
  have : ∀ l : List Nat, shrL (l.map f) = l.map (fun i => (f i).shr) := fun l => by
    induction l with
    | nil => rfl
    | cons a r ih => simp [ih]
  exact this _
@[simp] theorem okL_mk (h : ∀ i, okN k (f i)) : okL k (mk n f) := by
  rw [okL_iff]
  intro x hx
  unfold mk at hx
  obtain ⟨a, _, rfl⟩ := List.mem_map.mp hx
  exact h a
theorem atI_mk {z : Int} (h : 0 ≤ z ∧ z < n) : atI (mk n f) z = some (f z.toNat) := by
  have e : z = ((z.toNat : Nat) : Int) := by omega
  have : atI (mk n f) ((z.toNat : Nat) : Int) = some (f z.toNat) := atI_lit (mk_getq (by omega))
  rw [← e] at this; exact this
theorem atI_mkN (h : i < n) : atI (mk n f) (i : Int) = some (f i) := atI_lit (mk_getq h)
theorem atI_mkS (h : i + 1 < n) : atI (mk n f) ((i : Int) + 1) = some (f (i + 1)) := atI_lit (j := i + 1) (mk_getq h)
theorem atI_mk0 (h : 0 < n) : atI (mk n f) 0 = some (f 0) := atI_lit (j := 0) (mk_getq h)
theorem atI_mk1 (h : 1 < n) : atI (mk n f) 1 = some (f 1) := atI_lit (j := 1) (mk_getq h)
theorem atI_last (h : 0 < n) : atI (mk n f) (-1) = some (f (n - 1)) := by
  unfold atI
  have : ixN (mk n f).length (-1) = some (n - 1) := by
    unfold ixN
    rw [mk_len]
    rw [if_neg (by omega), if_pos (by omega)]
    congr 1
    omega
  rw [this]
  exact mk_getq (by omega)
theorem zip_mk : zipD (mk n f) (mk n g) = mk n (fun i => .tup [f i, g i]) := by
  have : ∀ l : List Nat, zipD (l.map f) (l.map g) = l.map (fun i => .tup [f i, g i]) := fun l => by
    induction l with
    | nil => rfl
    | cons a r ih => simp [zipD, ih]
  exact this _
@[simp] theorem zip_mk' : zipD (mk n f) (mk n g) = mk n (fun i => .tup [f i, g i]) := zip_mk
theorem putD_mk {z : Int} (h : 0 ≤ z ∧ z < n) : putD z x (.lst true (mk n f)) = some (.lst true (mk n (fun j => if j = z.toNat then x else f j))) := by
  rw [putD_nat (j := z.toNat) (by omega) (by simp; omega), mk_set]
theorem putD_mkN (h : i < n) : putD (i : Int) x (.lst true (mk n f)) = some (.lst true (mk n (fun j => if j = i then x else f j))) := by
  rw [putD_nat (j := i) rfl (by simpa using h), mk_set]
theorem setAt_mk {z : Int} (h : 0 ≤ z ∧ z < n) {u : D → Option D} : setAt z u (.lst true (mk n f)) = (u (f z.toNat)).map fun y => .lst true (mk n (fun j => if j = z.toNat then y else f j)) := by
  have e : ixN (mk n f).length z = some z.toNat := by
    have : z = ((z.toNat : Nat) : Int) := by omega
    have h2 := ixN_nat (n := n) (j := z.toNat) (by omega)
    rw [← this] at h2
    rw [mk_len]; exact h2
  unfold setAt
  simp only [e, mk_getq (show z.toNat < n by omega)]
  cases u (f z.toNat) with
  | none => rfl
  | some y => simp [mk_set]
end
/-! ### loops over such lists -/
variable {Φ : Fs} {e : Env} {R : Fl → Env → Prop}
/-- a for that goes from state to state -/
theorem for_mk {tg ks : List Nat} {b : T} {n : Nat} {f : Nat → D} (S : Nat → Env) (h0 : e = S 0)
    (hs : ∀ i, i < n → opt (bindT tg (f i) (S i)) fun e => sat (evS Φ b e) fun g e => match g with
      | .nx => kill ks e = S (i + 1)
      | .ct => kill ks e = S (i + 1)
      | .bk => R .nx (kill ks e)
      | .rt d => R (.rt d) e)
    (hd : R .nx (kill ks (S n))) : sat (loopF ks (forF Φ tg b) (mk n f) e) R := by
  refine sat_forI (fun i e => e = S i) h0 ?_ ?_
  · rintro i x e hx rfl
    obtain ⟨hi, rfl⟩ := mk_get hx
    obtain ⟨a, ha, s⟩ := hs i hi
    refine ⟨a, ha, sat_mono s fun g e h => ?_⟩
    cases g <;> exact h
  · rintro e rfl
    rw [mk_len]; exact hd
/-- a for by an invariant -/
theorem for_mkI {tg ks : List Nat} {b : T} {n : Nat} {f : Nat → D} (I : Nat → Env → Prop) (h0 : I 0 e)
    (hs : ∀ i e, i < n → I i e → opt (bindT tg (f i) e) fun e => sat (evS Φ b e) fun g e => match g with
      | .nx => I (i + 1) (kill ks e)
      | .ct => I (i + 1) (kill ks e)
      | .bk => R .nx (kill ks e)
      | .rt d => R (.rt d) e)
    (hd : ∀ e, I n e → R .nx (kill ks e)) : sat (loopF ks (forF Φ tg b) (mk n f) e) R := by
  refine sat_forI I h0 ?_ ?_
  · rintro i x e hx hI
    obtain ⟨hi, rfl⟩ := mk_get hx
    exact hs i e hi hI
  · rw [mk_len]; exact hd
/-- a for that asks each one, or goes out -/
theorem for_all {tg ks : List Nat} {b : T} {n : Nat} {f : Nat → D} (p : Nat → Prop) (E : Env) (h0 : e = E)
    (hs : ∀ i, i < n → opt (bindT tg (f i) E) fun e => sat (evS Φ b e) fun g e => match g with
      | .nx => p i ∧ kill ks e = E
      | .ct => p i ∧ kill ks e = E
      | .bk => False
      | .rt d => ¬ p i ∧ ((¬ ∀ j, j < n → p j) → R (.rt d) e))
    (hd : (∀ j, j < n → p j) → R .nx (kill ks E)) : sat (loopF ks (forF Φ tg b) (mk n f) e) R := by
  refine for_mkI (fun i e => e = E ∧ ∀ j, j < i → p j) ⟨h0, fun j h => absurd h (Nat.not_lt_zero _)⟩ ?_ ?_
  · rintro i e hi ⟨rfl, hp⟩
    obtain ⟨a, ha, s⟩ := hs i hi
    refine ⟨a, ha, sat_mono s fun g e h => ?_⟩
    have more : p i → ∀ j, j < i + 1 → p j := fun q j hj => by
      by_cases c : j = i
      · subst c; exact q
      · exact hp j (by omega)
    cases g with
    | nx => exact ⟨h.2, more h.1⟩
    | ct => exact ⟨h.2, more h.1⟩
    | bk => exact h.elim
    | rt d => exact h.2 fun q => h.1 (q i hi)
  · rintro e ⟨rfl, hp⟩
    exact hd hp
variable {Q : List D → Env → Prop}
/-- a comprehension -/
theorem lc_mk {tg : List Nat} {c el : T} {n : Nat} {f : Nat → D} (g : Nat → D)
    (hs : ∀ i, i < n → sat (lcF Φ tg c el (f i) e) fun d e' => d = some (g i) ∧ e' = e) (hd : Q (mk n g) e) : sat (loopC (lcF Φ tg c el) (mk n f) e []) Q := by
  rw [loopC_map (g := g) (by
    intro i x hx
    obtain ⟨hi, rfl⟩ := mk_get hx
    obtain ⟨a, e', h, rfl, rfl⟩ := hs i hi
    exact h)]
  simpa using hd
end Sr
set_option Elab.async false
set_option linter.all false
set_option maxRecDepth 100000
/-! # Sr: bounds, rests, told things, by their places -/
namespace Sr
open PySem PySem.Spec PyProof.Rows L2
def dO : Option Int → D
  | none => .non
  | some i => .int i
@[simp] theorem dO_un {o : Option Int} : (dO o).un = true := by cases o <;> rfl
@[simp] theorem dO_shr {o : Option Int} : (dO o).shr = dO o := by cases o <;> rfl
@[simp] theorem dO_ns {o : Option Int} : (dO o).ns = true := by cases o <;> rfl
@[simp] theorem dO_ok {n : Nat} {o : Option Int} : okN (n + 1) (dO o) := by cases o <;> simp [dO]
@[simp] theorem dO_none : dO none = .non := rfl
@[simp] theorem dO_some {i : Int} : dO (some i) = .int i := rfl
def dP (p : Int × Int) : D := .tup [.int p.1, .int p.2]
@[simp] theorem dP_un {p : Int × Int} : (dP p).un = true := by simp [dP]
@[simp] theorem dP_shr {p : Int × Int} : (dP p).shr = dP p := by simp [dP]
@[simp] theorem dP_ns {p : Int × Int} : (dP p).ns = true := by simp [dP]
@[simp] theorem dP_ok {n : Nat} {p : Int × Int} : okN (n + 2) (dP p) := by simp [dP]
@[simp] theorem atD_dP0 {p : Int × Int} : atD (dP p) 0 = some (.int p.1) := by simp [dP]
@[simp] theorem atD_dP1 {p : Int × Int} : atD (dP p) 1 = some (.int p.2) := by simp [dP]
@[simp] theorem isNn_dP {p : Int × Int} : isNn (dP p) = false := by simp [dP]
@[simp] theorem tyT_dP {p : Int × Int} : tyT (dP p) = true := by simp [dP]
@[simp] theorem lenD_dP {p : Int × Int} : lenD (dP p) = some (.int 2) := by simp [dP]
abbrev Mx := Nat → Nat → Option Int
abbrev Rs2 := Nat → Int × Int
abbrev Td := Mx × Rs2
/-- a row of bounds -/
def rowF (o : Bool) (n : Nat) (r : Nat → Option Int) : D := .lst o (mk n fun j => dO (r j))
/-- whole numbers -/
def intF (o : Bool) (n : Nat) (r : Nat → Int) : D := .lst o (mk n fun j => .int (r j))
/-- rests -/
def rsF (o : Bool) (n : Nat) (R : Rs2) : D := .lst o (mk n fun j => dP (R j))
/-- bounds -/
def mxF (o : Bool) (m n : Nat) (B : Mx) : D := .lst o (mk m fun i => rowF o n (B i))
/-- a told thing over n boxes -/
def tdF (o : Bool) (n : Nat) (t : Td) : D := .tup [mxF o (n + 1) (n + 1) t.1, rsF o n t.2]
def toF (o : Bool) (n : Nat) : Option Td → D
  | none => .non
  | some t => tdF o n t
section
variable {o : Bool} {n m k : Nat} {r : Nat → Option Int} {s : Nat → Int} {R : Rs2} {B : Mx} {t : Td} {t' : Option Td}
@[simp] theorem rowF_un : (rowF false n r).un = true := by simp [rowF]
@[simp] theorem rowF_unt : (rowF true n r).un = false := by simp [rowF]
@[simp] theorem rowF_ns : (rowF true n r).ns = true := by simp [rowF]
@[simp] theorem rowF_nsf : (rowF false n r).ns = false := by simp [rowF]
@[simp] theorem rowF_shr : (rowF o n r).shr = rowF false n r := by simp [rowF]
@[simp] theorem rowF_ok : okN (k + 2) (rowF o n r) := by simp [rowF]
@[simp] theorem rowF_len : lenD (rowF o n r) = some (.int n) := by simp [rowF]
@[simp] theorem rowF_items : items (rowF o n r) = some (mk n fun j => dO (r j)) := rfl
@[simp] theorem rowF_isNn : isNn (rowF o n r) = false := rfl
@[simp] theorem rowF_tyL : tyL (rowF o n r) = true := rfl
@[simp] theorem rowF_isLs : isLs (rowF o n r) = true := rfl
@[simp] theorem intF_un : (intF false n s).un = true := by simp [intF]
@[simp] theorem intF_unt : (intF true n s).un = false := by simp [intF]
@[simp] theorem intF_ns : (intF true n s).ns = true := by simp [intF]
@[simp] theorem intF_nsf : (intF false n s).ns = false := by simp [intF]
@[simp] theorem intF_shr : (intF o n s).shr = intF false n s := by simp [intF]
@[simp] theorem intF_ok : okN (k + 2) (intF o n s) := by simp [intF]
@[simp] theorem intF_len : lenD (intF o n s) = some (.int n) := by simp [intF]
@[simp] theorem intF_items : items (intF o n s) = some (mk n fun j => .int (s j)) := rfl
@[simp] theorem intF_isNn : isNn (intF o n s) = false := rfl
@[simp] theorem intF_tyL : tyL (intF o n s) = true := rfl
@[simp] theorem intF_isLs : isLs (intF o n s) = true := rfl
@[simp] theorem rsF_un : (rsF false n R).un = true := by simp [rsF]
@[simp] theorem rsF_unt : (rsF true n R).un = false := by simp [rsF]
@[simp] theorem rsF_ns : (rsF true n R).ns = true := by simp [rsF]
@[simp] theorem rsF_nsf : (rsF false n R).ns = false := by simp [rsF]
@[simp] theorem rsF_shr : (rsF o n R).shr = rsF false n R := by simp [rsF]
@[simp] theorem rsF_ok : okN (k + 3) (rsF o n R) := by simp [rsF]
@[simp] theorem rsF_len : lenD (rsF o n R) = some (.int n) := by simp [rsF]
@[simp] theorem rsF_items : items (rsF o n R) = some (mk n fun j => dP (R j)) := rfl
@[simp] theorem rsF_isNn : isNn (rsF o n R) = false := rfl
@[simp] theorem rsF_tyL : tyL (rsF o n R) = true := rfl
@[simp] theorem rsF_isLs : isLs (rsF o n R) = true := rfl
@[simp] theorem mxF_un : (mxF false m n B).un = true := by simp [mxF]
@[simp] theorem mxF_unt : (mxF true m n B).un = false := by simp [mxF]
@[simp] theorem mxF_ns : (mxF true m n B).ns = true := by simp [mxF]
@[simp] theorem mxF_nsf : (mxF false m n B).ns = false := by simp [mxF]
@[simp] theorem mxF_shr : (mxF o m n B).shr = mxF false m n B := by simp [mxF]
@[simp] theorem mxF_ok : okN (k + 3) (mxF o m n B) := by simp [mxF]
@[simp] theorem mxF_len : lenD (mxF o m n B) = some (.int m) := by simp [mxF]
@[simp] theorem mxF_items : items (mxF o m n B) = some (mk m fun i => rowF o n (B i)) := rfl
@[simp] theorem mxF_isNn : isNn (mxF o m n B) = false := rfl
@[simp] theorem mxF_tyL : tyL (mxF o m n B) = true := rfl
@[simp] theorem mxF_isLs : isLs (mxF o m n B) = true := rfl
@[simp] theorem tdF_un : (tdF false n t).un = true := by simp [tdF]
@[simp] theorem tdF_unt : (tdF true n t).un = false := by simp [tdF]
@[simp] theorem tdF_ns : (tdF true n t).ns = true := by simp [tdF]
@[simp] theorem tdF_nsf : (tdF false n t).ns = false := by simp [tdF]
@[simp] theorem tdF_shr : (tdF o n t).shr = tdF false n t := by simp [tdF]
@[simp] theorem tdF_ok : okN (k + 4) (tdF o n t) := by simp [tdF]
@[simp] theorem tdF_at0 : atD (tdF o n t) 0 = some (mxF o (n + 1) (n + 1) t.1) := by simp [tdF]
@[simp] theorem tdF_at1 : atD (tdF o n t) 1 = some (rsF o n t.2) := by simp [tdF]
@[simp] theorem tdF_isNn : isNn (tdF o n t) = false := rfl
@[simp] theorem tdF_tyT : tyT (tdF o n t) = true := rfl
@[simp] theorem tdF_len : lenD (tdF o n t) = some (.int 2) := by simp [tdF]
@[simp] theorem toF_none : toF o n none = .non := rfl
@[simp] theorem toF_some : toF o n (some t) = tdF o n t := rfl
@[simp] theorem toF_un : (toF false n t').un = true := by cases t' <;> simp
@[simp] theorem toF_ns : (toF true n t').ns = true := by cases t' <;> simp
@[simp] theorem toF_shr : (toF o n t').shr = toF false n t' := by cases t' <;> simp
@[simp] theorem toF_ok : okN (k + 4) (toF o n t') := by cases t' <;> simp
theorem eqOk_of {d : D} (h : okN 64 d) : eqOk d = true := eqOk_iff.mpr h
@[simp] theorem dO_eqOk {x : Option Int} : eqOk (dO x) = true := eqOk_of (dO_ok (n := 63))
@[simp] theorem dP_eqOk {x : Int × Int} : eqOk (dP x) = true := eqOk_of (dP_ok (n := 62))
@[simp] theorem rowF_eqOk : eqOk (rowF o n r) = true := eqOk_of (rowF_ok (k := 62))
@[simp] theorem intF_eqOk : eqOk (intF o n s) = true := eqOk_of (intF_ok (k := 62))
@[simp] theorem rsF_eqOk : eqOk (rsF o n R) = true := eqOk_of (rsF_ok (k := 61))
@[simp] theorem mxF_eqOk : eqOk (mxF o m n B) = true := eqOk_of (mxF_ok (k := 61))
@[simp] theorem tdF_eqOk : eqOk (tdF o n t) = true := eqOk_of (tdF_ok (k := 60))
@[simp] theorem toF_eqOk : eqOk (toF o n t') = true := eqOk_of (toF_ok (k := 60))
mutual
theorem py_shr : ∀ d : D, d.shr.py = d.py
  | .non => rfl
  | .bl _ => rfl
  | .int _ => rfl
  | .str _ => rfl
  | .tup xs => by rw [D.shr, D.py, D.py, pyL_shrL xs]
  | .lst _ xs => by rw [D.shr, D.py, D.py, pyL_shrL xs]
theorem pyL_shrL : ∀ ds : List D, pyL (shrL ds) = pyL ds
  | [] => rfl
  | d :: ds => by rw [shrL, pyL, pyL, py_shr d, pyL_shrL ds]
end
theorem eqv_shr {d e : D} : eqv d e = eqv d.shr e.shr := by unfold eqv; rw [py_shr, py_shr]
theorem eqv_like {n : Nat} {d e : D} (h : d.shr = e.shr) (g : okN n e) : eqv d e = true := by
  rw [eqv_shr, h, ← eqv_shr]
  exact eqv_self g
@[simp] theorem eqv_td {o o' : Bool} : eqv (tdF o n t) (tdF o' n t) = true := eqv_like (by simp) (tdF_ok (k := 60))
@[simp] theorem eqv_to {o o' : Bool} : eqv (toF o n t') (toF o' n t') = true := eqv_like (by simp) (toF_ok (k := 60))
@[simp] theorem eqv_mx {o o' : Bool} : eqv (mxF o m n B) (mxF o' m n B) = true := eqv_like (by simp) (mxF_ok (k := 60))
@[simp] theorem eqv_rs {o o' : Bool} : eqv (rsF o n R) (rsF o' n R) = true := eqv_like (by simp) (rsF_ok (k := 60))
@[simp] theorem eqv_row {o o' : Bool} : eqv (rowF o n r) (rowF o' n r) = true := eqv_like (by simp) (rowF_ok (k := 60))
@[simp] theorem eqv_ints {o o' : Bool} : eqv (intF o n s) (intF o' n s) = true := eqv_like (by simp) (intF_ok (k := 60))
/-! the item at a place -/
theorem rowF_at {z : Int} (h : 0 ≤ z ∧ z < n) : atD (rowF o n r) z = some (dO (r z.toNat)) := atI_mk h
theorem rowF_atN {i : Nat} (h : i < n) : atD (rowF o n r) (i : Int) = some (dO (r i)) := atI_mkN h
theorem intF_at {z : Int} (h : 0 ≤ z ∧ z < n) : atD (intF o n s) z = some (.int (s z.toNat)) := atI_mk h
theorem intF_atN {i : Nat} (h : i < n) : atD (intF o n s) (i : Int) = some (.int (s i)) := atI_mkN h
theorem rsF_at {z : Int} (h : 0 ≤ z ∧ z < n) : atD (rsF o n R) z = some (dP (R z.toNat)) := atI_mk h
theorem rsF_atN {i : Nat} (h : i < n) : atD (rsF o n R) (i : Int) = some (dP (R i)) := atI_mkN h
theorem mxF_at {z : Int} (h : 0 ≤ z ∧ z < m) : atD (mxF o m n B) z = some (rowF o n (B z.toNat)) := atI_mk h
theorem mxF_atN {i : Nat} (h : i < m) : atD (mxF o m n B) (i : Int) = some (rowF o n (B i)) := atI_mkN h
theorem rowF_congr {r' : Nat → Option Int} (h : ∀ i, i < n → r i = r' i) : rowF o n r = rowF o n r' := by
  unfold rowF; rw [mk_congr fun i hi => by rw [h i hi]]
theorem intF_congr {r' : Nat → Int} (h : ∀ i, i < n → s i = r' i) : intF o n s = intF o n r' := by
  unfold intF; rw [mk_congr fun i hi => by rw [h i hi]]
theorem rsF_congr {R' : Rs2} (h : ∀ i, i < n → R i = R' i) : rsF o n R = rsF o n R' := by
  unfold rsF; rw [mk_congr fun i hi => by rw [h i hi]]
theorem mxF_congr {B' : Mx} (h : ∀ i j, i < m → j < n → B i j = B' i j) : mxF o m n B = mxF o m n B' := by
  unfold mxF; rw [mk_congr fun i hi => by rw [rowF_congr fun j hj => h i j hi hj]]
theorem tdF_congr {t u : Td} (h : ∀ i j, i ≤ n → j ≤ n → t.1 i j = u.1 i j) (g : ∀ i, i < n → t.2 i = u.2 i) : tdF o n t = tdF o n u := by
  unfold tdF; rw [mxF_congr fun i j hi hj => h i j (by omega) (by omega), rsF_congr g]
/-! stores -/
def up {α : Type} (r : Nat → α) (i : Nat) (x : α) : Nat → α := fun j => if j = i then x else r j
def up2 (B : Mx) (i j : Nat) (x : Option Int) : Mx := fun a b => if a = i ∧ b = j then x else B a b
@[simp] theorem up_same {α : Type} {r : Nat → α} {i : Nat} {x : α} : up r i x i = x := by simp [up]
@[simp] theorem up2_same {i j : Nat} {x : Option Int} : up2 B i j x i j = x := by simp [up2]
theorem rowF_put {z : Int} {x : Option Int} (h : 0 ≤ z ∧ z < n) : putD z (dO x) (rowF true n r) = some (rowF true n (up r z.toNat x)) := by
  unfold rowF
  rw [putD_mk h]
  congr 2
  refine mk_congr fun i hi => ?_
  unfold up
  split <;> rfl
theorem intF_put {z x : Int} (h : 0 ≤ z ∧ z < n) : putD z (.int x) (intF true n s) = some (intF true n (up s z.toNat x)) := by
  unfold intF
  rw [putD_mk h]
  congr 2
  refine mk_congr fun i hi => ?_
  unfold up
  split <;> rfl
theorem rsF_put {z : Int} {x : Int × Int} (h : 0 ≤ z ∧ z < n) : putD z (dP x) (rsF true n R) = some (rsF true n (up R z.toNat x)) := by
  unfold rsF
  rw [putD_mk h]
  congr 2
  refine mk_congr fun i hi => ?_
  unfold up
  split <;> rfl
theorem mxF_put {y z : Int} {x : Option Int} (h : 0 ≤ y ∧ y < m) (g : 0 ≤ z ∧ z < n) : setAt y (putD z (dO x)) (mxF true m n B) = some (mxF true m n (up2 B y.toNat z.toNat x)) := by
  unfold mxF
  rw [setAt_mk h, rowF_put g]
  simp only [Option.map]
  congr 2
  refine mk_congr fun i hi => ?_
  by_cases c : i = y.toNat
  · rw [if_pos c]
    refine rowF_congr fun j hj => ?_
    unfold up up2
    by_cases c2 : j = z.toNat <;> simp [c, c2]
  · rw [if_neg c]
    refine rowF_congr fun j hj => ?_
    unfold up2
    simp [c]
theorem mxF_putN {i j : Nat} {x : Option Int} (h : i < m) (g : j < n) : setAt (i : Int) (putD (j : Int) (dO x)) (mxF true m n B) = some (mxF true m n (up2 B i j x)) := by
  rw [mxF_put (by omega) (by omega)]; rfl
theorem mxF_putI {i j : Nat} {x : Int} (h : i < m) (g : j < n) : setAt (i : Int) (putD (j : Int) (.int x)) (mxF true m n B) = some (mxF true m n (up2 B i j (some x))) := mxF_putN (x := some x) h g
theorem mxF_put0 {i j : Nat} (h : i < m) (g : j < n) : setAt (i : Int) (putD (j : Int) .non) (mxF true m n B) = some (mxF true m n (up2 B i j none)) := mxF_putN (x := none) h g
theorem rowF_app {x : Option Int} (h : n < big) (e : r n = x) : appD (dO x) (rowF true n r) = some (rowF true (n + 1) r) := by
  subst e
  unfold rowF
  rw [mk_succ, appD_own, if_pos (by simpa using h)]
theorem rsF_app {x : Int × Int} (h : n < big) (e : R n = x) : appD (dP x) (rsF true n R) = some (rsF true (n + 1) R) := by
  subst e
  unfold rsF
  rw [mk_succ, appD_own, if_pos (by simpa using h)]
theorem mxF_app {r : Nat → Option Int} (h : m < big) (e : ∀ j, j < n → B m j = r j) : appD (rowF true n r) (mxF true m n B) = some (mxF true (m + 1) n B) := by
  have : rowF true n r = rowF true n (B m) := rowF_congr fun j hj => (e j hj).symm
  rw [this]
  unfold mxF
  rw [mk_succ, appD_own, if_pos (by simpa using h)]
@[simp] theorem row_back : D.lst o (mk n fun j => dO (r j)) = rowF o n r := rfl
@[simp] theorem int_back : D.lst o (mk n fun j => D.int (s j)) = intF o n s := rfl
@[simp] theorem rs_back : D.lst o (mk n fun j => dP (R j)) = rsF o n R := rfl
@[simp] theorem mx_back : D.lst o (mk m fun i => rowF o n (B i)) = mxF o m n B := rfl
theorem td_back {B : Mx} {R : Rs2} : D.tup [mxF o (n + 1) (n + 1) B, rsF o n R] = tdF o n (B, R) := rfl
end
/-! two loops, one in the other, over all places -/
/-- the bounds of which the rows ahead of i, and of row i the places ahead of j, are done -/
def updN (B : Mx) (g : Nat → Nat → Option Int) (i j : Nat) : Mx := fun a b => if a < i ∨ (a = i ∧ b < j) then g a b else B a b
section
variable {B : Mx} {g : Nat → Nat → Option Int} {i j : Nat}
@[simp] theorem updN_0 : updN B g 0 0 = B := by funext a b; simp [updN]
@[simp] theorem updN_at : updN B g i j i j = B i j := by simp [updN]
theorem updN_put {x : Option Int} (h : x = g i j) : up2 (updN B g i j) i j x = updN B g i (j + 1) := by
  funext a b
  unfold up2 updN
  by_cases c : a = i ∧ b = j
  · rw [if_pos c, if_pos (by omega), c.1, c.2, h]
  · rw [if_neg c]
    by_cases c2 : a < i ∨ a = i ∧ b < j
    · rw [if_pos c2, if_pos (by omega)]
    · rw [if_neg c2, if_neg (by omega)]
theorem updN_keep (h : B i j = g i j) : updN B g i j = updN B g i (j + 1) := by
  rw [← updN_put (h := h)]
  funext a b
  unfold up2
  split
  · rename_i c; rw [c.1, c.2, updN_at]
  · rfl
theorem updN_row {o : Bool} {m n : Nat} : mxF o m n (updN B g i n) = mxF o m n (updN B g (i + 1) 0) := mxF_congr fun a b ha hb => by
  unfold updN
  by_cases c : a < i + 1
  · rw [if_pos (by omega), if_pos (by omega)]
  · rw [if_neg (by omega), if_neg (by omega)]
theorem updN_end {o : Bool} {m n : Nat} : mxF o m n (updN B g m 0) = mxF o m n g := mxF_congr fun a b ha hb => by
  unfold updN
  rw [if_pos (by omega)]
end
variable {Φ : Fs} {e : Env} {Q : List D → Env → Prop}
/-- [list(row) for row in bounds] -/
theorem lc_copy {i m n : Nat} {B : Mx} (h : ∀ d : D, Env.at (e.set i (some d)) i = some d) (hk : e.set i none = e) (q : Q (mk m fun a => rowF true n (B a)) e) : sat (loopC (lcF Φ [i] (.bl true) (.b1 .list (.v i))) (mk m fun a => rowF false n (B a)) e []) Q := by
  refine lc_mk (fun a => rowF true n (B a)) (fun a ha => ?_) q
  rw [sat_lcF]
  simp only [bind1, opt_some]
  have h1 : b1D .list (rowF false n (B a)) = some (rowF true n (B a)) := by
    unfold rowF
    rw [b1D_list, if_pos (by simp)]
  simp [h, hk, h1]
end Sr
set_option Elab.async false
set_option linter.all false
set_option maxRecDepth 100000
/-! # Sr: closing, as mathematics -/
namespace Sr
open PySem PySem.Spec PyProof.Rows L2
def oAdd : Option Int → Option Int → Option Int
  | some a, some b => some (a + b)
  | _, _ => none
def oMin : Option Int → Option Int → Option Int
  | none, y => y
  | some x, none => some x
  | some x, some y => if y < x then some y else some x
/-- o is told, and not above what the other tells -/
def U (o o' : Option Int) : Prop := ∀ t', o' = some t' → ∃ t, o = some t ∧ t ≤ t'
theorem U.refl (o : Option Int) : U o o := fun t h => ⟨t, h, Int.le_refl t⟩
theorem U.trans {a b c : Option Int} (h : U a b) (g : U b c) : U a c := fun t ht => by
  obtain ⟨s, hs, l⟩ := g t ht
  obtain ⟨r, hr, l'⟩ := h s hs
  exact ⟨r, hr, by omega⟩
theorem U.antisymm {a b : Option Int} (h : U a b) (g : U b a) : a = b := by
  cases a with
  | none =>
    cases b with
    | none => rfl
    | some y => obtain ⟨_, z, _⟩ := h y rfl; cases z
  | some x =>
    obtain ⟨t, ht, l⟩ := g x rfl
    obtain ⟨s, hs, l2⟩ := h t ht
    cases hs; rw [ht]; congr 1; omega
theorem U.add {a a' b b' : Option Int} (h : U a a') (g : U b b') : U (oAdd a b) (oAdd a' b') := fun t ht => by
  cases a' with
  | none => cases ht
  | some x =>
    cases b' with
    | none => cases ht
    | some y =>
      cases ht
      obtain ⟨r, rfl, l⟩ := h x rfl
      obtain ⟨s, rfl, l'⟩ := g y rfl
      exact ⟨r + s, rfl, by omega⟩
theorem oMin_l (x y : Option Int) : U (oMin x y) x := fun t h => by
  subst h
  cases y with
  | none => exact ⟨t, rfl, Int.le_refl t⟩
  | some y =>
    by_cases c : y < t
    · exact ⟨y, by simp [oMin, c], by omega⟩
    · exact ⟨t, by simp [oMin, c], by omega⟩
theorem oMin_r (x y : Option Int) : U (oMin x y) y := fun t h => by
  subst h
  cases x with
  | none => exact ⟨t, rfl, Int.le_refl t⟩
  | some x =>
    by_cases c : t < x
    · exact ⟨t, by simp [oMin, c], by omega⟩
    · exact ⟨x, by simp [oMin, c], by omega⟩
theorem oMin_or (x y : Option Int) : oMin x y = x ∨ oMin x y = y := by
  cases x with
  | none => exact .inr rfl
  | some x =>
    cases y with
    | none => exact .inl rfl
    | some y =>
      by_cases c : y < x
      · exact .inr (by simp [oMin, c])
      · exact .inl (by simp [oMin, c])
theorem oAdd_assoc (a b c : Option Int) : oAdd (oAdd a b) c = oAdd a (oAdd b c) := by
  cases a <;> cases b <;> cases c <;> simp [oAdd, Int.add_assoc]
theorem oAdd_0l (a : Option Int) : oAdd (some 0) a = a := by cases a <;> simp [oAdd]
theorem oAdd_0r (a : Option Int) : oAdd a (some 0) = a := by cases a <;> simp [oAdd]
theorem oMin_self (a : Option Int) : oMin a a = a := by cases a <;> simp [oMin]
def lessB (o : Option Int) (x : Int) : Bool := match o with
  | none => true
  | some t => decide (x < t)
def fwIn (mid i : Nat) (M : Mx) (j : Nat) : Mx := match M i mid, M mid j with
  | some a, some c => if lessB (M i j) (a + c) = true then up2 M i j (some (a + c)) else M
  | _, _ => M
def fwJ (n mid : Nat) (M : Mx) (i : Nat) : Mx := (List.range n).foldl (fwIn mid i) M
def fwI (n : Nat) (M : Mx) (mid : Nat) : Mx := (List.range n).foldl (fwJ n mid) M
def fw (n : Nat) (M : Mx) : Mx := (List.range n).foldl (fwI n) M
theorem foldl_to {α : Type} {f : α → Nat → α} {I : Nat → α → Prop} {n : Nat} {a : α} (h0 : I 0 a) (hs : ∀ i a, i < n → I i a → I (i + 1) (f a i)) : I n ((List.range n).foldl f a) := by
  have key : ∀ m, m ≤ n → I m ((List.range m).foldl f a) := by
    intro m
    induction m with
    | zero => intro _; exact h0
    | succ m ih =>
      intro hm
      rw [List.range_succ, List.foldl_append]
      exact hs m _ (by omega) (ih (by omega))
  exact key n (Nat.le_refl n)
theorem foldl_succ {α : Type} {f : α → Nat → α} {m : Nat} {a : α} : (List.range (m + 1)).foldl f a = f ((List.range m).foldl f a) m := by
  rw [List.range_succ, List.foldl_append]; rfl
/-- the bounds behind one mid -/
def nw (M : Mx) (mid a b : Nat) : Option Int := oMin (M a b) (oAdd (M a mid) (M mid b))
theorem nw_col {M : Mx} {mid a : Nat} (h : M mid mid = some 0) : nw M mid a mid = M a mid := by unfold nw; rw [h, oAdd_0r, oMin_self]
theorem nw_row {M : Mx} {mid b : Nat} (h : M mid mid = some 0) : nw M mid mid b = M mid b := by unfold nw; rw [h, oAdd_0l, oMin_self]
theorem fwIn_at {mid i j : Nat} {M : Mx} (a b : Nat) : fwIn mid i M j a b = if a = i ∧ b = j then oMin (M i j) (oAdd (M i mid) (M mid j)) else M a b := by
  have keep : M a b = if a = i ∧ b = j then M i j else M a b := by
    split
    · rename_i h; rw [h.1, h.2]
    · rfl
  unfold fwIn
  cases h1 : M i mid with
  | none =>
    have e : oMin (M i j) (oAdd none (M mid j)) = M i j := by cases M i j <;> rfl
    rw [e]; exact keep
  | some x =>
    cases h2 : M mid j with
    | none =>
      have e : oMin (M i j) (oAdd (some x) none) = M i j := by cases M i j <;> rfl
      rw [e]; exact keep
    | some y =>
      cases h3 : M i j with
      | none =>
        simp only [lessB, if_true]
        unfold up2; rfl
      | some t =>
        by_cases c : x + y < t
        · simp only [lessB, decide_eq_true c, if_true]
          unfold up2
          simp [oMin, oAdd, c]
        · simp only [lessB, decide_eq_false c]
          have e : oMin (some t) (oAdd (some x) (some y)) = some t := by simp [oMin, oAdd, c]
          rw [if_neg Bool.false_ne_true, e, keep, h3]
          by_cases q : a = i ∧ b = j
          · rw [if_pos q, if_pos q]
          · rw [if_neg q, if_neg q]
theorem fwIn_le {mid i j : Nat} {M : Mx} (a b : Nat) : U (fwIn mid i M j a b) (M a b) := by
  rw [fwIn_at]
  split
  · rename_i h; rw [h.1, h.2]; exact oMin_l _ _
  · exact U.refl _
theorem fwJ_le {n mid i : Nat} {M : Mx} (a b : Nat) : U (fwJ n mid M i a b) (M a b) := by
  unfold fwJ
  exact foldl_to (I := fun _ (M' : Mx) => U (M' a b) (M a b)) (U.refl _) fun j M' _ h => (fwIn_le a b).trans h
theorem fwI_le {n mid : Nat} {M : Mx} (a b : Nat) : U (fwI n M mid a b) (M a b) := by
  unfold fwI
  exact foldl_to (I := fun _ (M' : Mx) => U (M' a b) (M a b)) (U.refl _) fun j M' _ h => (fwJ_le a b).trans h
/-- the state ahead of a mid -/
def fwS (n : Nat) (B : Mx) (m : Nat) : Mx := (List.range m).foldl (fwI n) B
theorem fwS_succ {n m : Nat} {B : Mx} : fwS n B (m + 1) = fwI n (fwS n B m) m := foldl_succ
theorem fwS_le {n : Nat} {B : Mx} (a b : Nat) {m k : Nat} (h : m ≤ k) : U (fwS n B k a b) (fwS n B m a b) := by
  induction h with
  | refl => exact U.refl _
  | step _ ih => rw [fwS_succ]; exact (fwI_le a b).trans ih
theorem fwI_at {n mid : Nat} {M : Mx} (hm : mid < n) (h0 : M mid mid = some 0) : ∀ a b, a < n → b < n → fwI n M mid a b = nw M mid a b := by
  have key : ∀ a b, a < n → b < n → fwI n M mid a b = if a < n then nw M mid a b else M a b := by
    unfold fwI
    refine foldl_to (I := fun i (M' : Mx) => ∀ a b, a < n → b < n → M' a b = if a < i then nw M mid a b else M a b) (fun a b _ _ => by rw [if_neg (Nat.not_lt_zero a)]) fun i M1 hi h1 => ?_
    have key2 : ∀ a b, a < n → b < n → fwJ n mid M1 i a b = if a < i ∨ (a = i ∧ b < n) then nw M mid a b else M a b := by
      unfold fwJ
      refine foldl_to (I := fun j (M' : Mx) => ∀ a b, a < n → b < n → M' a b = if a < i ∨ (a = i ∧ b < j) then nw M mid a b else M a b) (fun a b ha hb => ?_) fun j M2 hj h2 => (fun a b ha hb => ?_)
      · rw [h1 a b ha hb]
        by_cases c : a < i
        · rw [if_pos c, if_pos (.inl c)]
        · rw [if_neg c, if_neg (by omega)]
      · rw [fwIn_at]
        have r1 : M2 i mid = M i mid := by
          rw [h2 i mid hi hm]; split
          · exact nw_col h0
          · rfl
        have r2 : M2 mid j = M mid j := by
          rw [h2 mid j hm hj]; split
          · exact nw_row h0
          · rfl
        have r3 : M2 i j = M i j := by
          rw [h2 i j hi hj, if_neg (by omega)]
        rw [r1, r2, r3]
        by_cases c : a = i ∧ b = j
        · rw [if_pos c, if_pos (by omega), c.1, c.2]; rfl
        · rw [if_neg c, h2 a b ha hb]
          by_cases c2 : a < i ∨ (a = i ∧ b < j)
          · rw [if_pos c2, if_pos (by omega)]
          · rw [if_neg c2, if_neg (by omega)]
    intro a b ha hb
    rw [key2 a b ha hb]
    by_cases c : a < i + 1
    · rw [if_pos c, if_pos (by omega)]
    · rw [if_neg c, if_neg (by omega)]
  intro a b ha hb
  rw [key a b ha hb, if_pos ha]
/-! walks -/
/-- the sum of the first L steps of p -/
def wt (B : Mx) (p : Nat → Nat) : Nat → Option Int
  | 0 => some 0
  | L + 1 => oAdd (wt B p L) (B (p L) (p (L + 1)))
theorem wt_app {B : Mx} {p : Nat → Nat} {a : Nat} : ∀ {b : Nat}, wt B p (a + b) = oAdd (wt B p a) (wt B (fun t => p (t + a)) b)
  | 0 => by simp [wt, oAdd_0r]
  | b + 1 => by
    show oAdd (wt B p (a + b)) (B (p (a + b)) (p (a + b + 1))) = oAdd (wt B p a) (oAdd (wt B (fun t => p (t + a)) b) (B (p (b + a)) (p (b + 1 + a))))
    rw [wt_app (b := b), oAdd_assoc, Nat.add_comm b a, Nat.add_right_comm b 1 a, Nat.add_comm b a]
theorem wt_congr {B : Mx} {p q : Nat → Nat} : ∀ {L : Nat}, (∀ t, t ≤ L → p t = q t) → wt B p L = wt B q L
  | 0, _ => rfl
  | L + 1, h => by
    show oAdd _ _ = oAdd _ _
    rw [wt_congr (L := L) (fun t ht => h t (by omega)), h L (by omega), h (L + 1) (by omega)]
/-- there is a way from i to j in L steps, of the sum w -/
def Way (B : Mx) (n i j L : Nat) (w : Int) : Prop := ∃ p : Nat → Nat, p 0 = i ∧ p L = j ∧ (∀ t, t ≤ L → p t < n) ∧ wt B p L = some w
theorem Way.nil {B : Mx} {n i : Nat} (h : i < n) : Way B n i i 0 0 := ⟨fun _ => i, rfl, rfl, fun _ _ => h, rfl⟩
theorem Way.one {B : Mx} {n i j : Nat} {w : Int} (hi : i < n) (hj : j < n) (h : B i j = some w) : Way B n i j 1 w := by
  refine ⟨fun t => if t = 0 then i else j, rfl, rfl, fun t _ => ?_, ?_⟩
  · show (if t = 0 then i else j) < n
    split <;> assumption
  · show oAdd (some 0) (B i j) = some w
    rw [oAdd_0l]; exact h
theorem Way.app {B : Mx} {n i j k L K : Nat} {w v : Int} (h : Way B n i j L w) (g : Way B n j k K v) : Way B n i k (L + K) (w + v) := by
  obtain ⟨p, p0, pL, pn, pw⟩ := h
  obtain ⟨q, q0, qK, qn, qw⟩ := g
  refine ⟨fun t => if t ≤ L then p t else q (t - L), by simp [p0], ?_, fun t ht => ?_, ?_⟩
  · by_cases c : K = 0
    · subst c
      simp only [Nat.add_zero, Nat.le_refl, if_true]
      rw [pL, ← q0, qK]
    · have : ¬ (L + K ≤ L) := by omega
      simp only [this, if_false]
      rw [show L + K - L = K by omega]; exact qK
  · by_cases c : t ≤ L
    · simp only [c, if_true]; exact pn t c
    · simp only [c, if_false]; exact qn _ (by omega)
  · rw [wt_app]
    have e1 : wt B (fun t => if t ≤ L then p t else q (t - L)) L = some w := by
      rw [wt_congr (q := p) (fun t ht => by simp [ht])]; exact pw
    have e2 : wt B (fun t => (fun t => if t ≤ L then p t else q (t - L)) (t + L)) K = some v := by
      rw [wt_congr (q := q) (fun t ht => ?_)]
      · exact qw
      · by_cases c : t = 0
        · subst c; simp [pL, q0]
        · have : ¬ (t + L ≤ L) := by omega
          simp only [this, if_false]
          rw [show t + L - L = t by omega]
    rw [e1, e2]; rfl
theorem oAdd_some {a b : Option Int} {w : Int} (h : oAdd a b = some w) : ∃ x y, a = some x ∧ b = some y ∧ w = x + y := by
  cases a with
  | none => cases h
  | some x =>
    cases b with
    | none => cases h
    | some y => cases h; exact ⟨x, y, rfl, rfl, rfl⟩
/-- a way is cut at a place -/
theorem Way.cut {B : Mx} {n i j L : Nat} {w : Int} (h : Way B n i j L w) {a : Nat} (ha : a ≤ L) : ∃ k x y, k < n ∧ Way B n i k a x ∧ Way B n k j (L - a) y ∧ w = x + y := by
  obtain ⟨p, p0, pL, pn, pw⟩ := h
  have e : L = a + (L - a) := by omega
  rw [e, wt_app] at pw
  obtain ⟨x, y, h1, h2, hw⟩ := oAdd_some pw
  refine ⟨p a, x, y, pn a ha, ⟨p, p0, rfl, fun t ht => pn t (by omega), h1⟩, ⟨fun t => p (t + a), by simp, ?_, fun t ht => pn (t + a) (by omega), h2⟩, hw⟩
  show p (L - a + a) = j
  rw [show L - a + a = L by omega]; exact pL
theorem pigeon : ∀ (n : Nat) (f : Nat → Nat), (∀ t, t ≤ n → f t < n) → ∃ a b, a < b ∧ b ≤ n ∧ f a = f b
  | 0, f, h => absurd (h 0 (Nat.le_refl 0)) (Nat.not_lt_zero _)
  | n + 1, f, h => by
    by_cases c : ∃ t, t ≤ n ∧ f t = f (n + 1)
    · obtain ⟨t, ht, e⟩ := c
      exact ⟨t, n + 1, by omega, Nat.le_refl _, e⟩
    · have hv := h (n + 1) (Nat.le_refl _)
      have ne : ∀ t, t ≤ n → f t ≠ f (n + 1) := fun t ht e => c ⟨t, ht, e⟩
      obtain ⟨a, b, hab, hb, e⟩ := pigeon n (fun t => if f (n + 1) < f t then f t - 1 else f t) (fun t ht => by
        have h1 := h t (by omega)
        have h2 := ne t ht
        show (if f (n + 1) < f t then f t - 1 else f t) < n
        split <;> omega)
      refine ⟨a, b, hab, by omega, ?_⟩
      have h2 := ne a (by omega)
      have h3 := ne b hb
      split at e <;> split at e <;> omega
/-- where no short ring is below nought, a way need not be long -/
theorem Way.short {B : Mx} {n : Nat} (hr : ∀ k L w, k < n → L ≤ n → Way B n k k L w → 0 ≤ w) : ∀ (L : Nat) {i j : Nat} {w : Int}, Way B n i j L w → ∃ K v, K ≤ n ∧ v ≤ w ∧ Way B n i j K v := by
  intro L
  induction L using Nat.strongRecOn with
  | ind L ih =>
    intro i j w h
    by_cases c : L ≤ n
    · exact ⟨L, w, c, Int.le_refl w, h⟩
    · obtain ⟨p, p0, pL, pn, pw⟩ := id h
      obtain ⟨a, b, hab, hb, e⟩ := pigeon n p fun t ht => pn t (by omega)
      have e1 : L = b + (L - b) := by omega
      have e2 : b = a + (b - a) := by omega
      rw [e1, wt_app] at pw
      obtain ⟨x, y, h1, h2, hw⟩ := oAdd_some pw
      rw [e2, wt_app] at h1
      obtain ⟨x1, x2, h3, h4, hx⟩ := oAdd_some h1
      have wa : Way B n i (p a) a x1 := ⟨p, p0, rfl, fun t ht => pn t (by omega), h3⟩
      have wr : Way B n (p a) (p a) (b - a) x2 := ⟨fun t => p (t + a), by simp, by show p (b - a + a) = p a; rw [show b - a + a = b by omega]; exact e.symm, fun t ht => pn _ (by omega), h4⟩
      have wb : Way B n (p a) j (L - b) y := ⟨fun t => p (t + b), by show p (0 + b) = p a; rw [Nat.zero_add]; exact e.symm, by show p (L - b + b) = j; rw [show L - b + b = L by omega]; exact pL, fun t ht => pn _ (by omega), h2⟩
      have nn := hr (p a) (b - a) x2 (pn a (by omega)) (by omega) wr
      obtain ⟨K, v, hK, hv, g⟩ := ih (a + (L - b)) (by omega) (wa.app wb)
      exact ⟨K, v, hK, by omega, g⟩
/-- each entry is the sum of a way -/
def Sums (B : Mx) (n : Nat) (M : Mx) : Prop := ∀ i j w, i < n → j < n → M i j = some w → ∃ L, Way B n i j L w
theorem fwIn_sums {B : Mx} {n mid i j : Nat} {M : Mx} (hm : mid < n) (hi : i < n) (hj : j < n) (s : Sums B n M) : Sums B n (fwIn mid i M j) := fun a b w ha hb h => by
  rw [fwIn_at] at h
  split at h
  · rename_i c
    obtain ⟨rfl, rfl⟩ := c
    rcases oMin_or (M a b) (oAdd (M a mid) (M mid b)) with q | q
    · rw [q] at h; exact s a b w ha hb h
    · rw [q] at h
      obtain ⟨x, y, h1, h2, rfl⟩ := oAdd_some h
      obtain ⟨L, g1⟩ := s a mid x ha hm h1
      obtain ⟨K, g2⟩ := s mid b y hm hb h2
      exact ⟨L + K, g1.app g2⟩
  · exact s a b w ha hb h
theorem fwI_sums {B : Mx} {n mid : Nat} {M : Mx} (hm : mid < n) (s : Sums B n M) : Sums B n (fwI n M mid) := by
  unfold fwI
  refine foldl_to (I := fun _ M => Sums B n M) s fun i M hi s => ?_
  unfold fwJ
  exact foldl_to (I := fun _ M => Sums B n M) s fun j M hj s => fwIn_sums hm hi hj s
theorem fwS_sums {B : Mx} {n : Nat} : ∀ {m : Nat}, m ≤ n → Sums B n (fwS n B m)
  | 0, _ => fun i j w hi hj h => ⟨1, Way.one hi hj h⟩
  | m + 1, h => by rw [fwS_succ]; exact fwI_sums (by omega) (fwS_sums (by omega))
/-- no box with itself below nought -/
def NN (n : Nat) (M : Mx) : Prop := ∀ i t, i < n → M i i = some t → 0 ≤ t
structure Stage (n : Nat) (B : Mx) (m : Nat) (M : Mx) : Prop where
  dg : ∀ i, i < n → M i i = some 0
  le : ∀ i j, i < n → j < n → U (M i j) (B i j)
  tri : ∀ i j k, i < n → j < n → k < m → U (M i j) (oAdd (M i k) (M k j))
theorem stage {n : Nat} {B : Mx} (hz : ∀ i, i < n → B i i = some 0) (hn : NN n (fw n B)) : Stage n B n (fw n B) := by
  have dgs : ∀ m, m ≤ n → ∀ i, i < n → fwS n B m i i = some 0 := fun m hm i hi => by
    obtain ⟨t, ht, l⟩ := fwS_le (n := n) (B := B) i i (Nat.zero_le m) 0 (hz i hi)
    obtain ⟨t', ht', l'⟩ := fwS_le (n := n) (B := B) i i hm t ht
    have := hn i t' hi ht'
    rw [ht]; congr 1; omega
  have key : ∀ m, m ≤ n → Stage n B m (fwS n B m) := by
    intro m
    induction m with
    | zero => intro _; exact ⟨dgs 0 (by omega), fun i j _ _ => U.refl _, fun i j k _ _ h => absurd h (Nat.not_lt_zero k)⟩
    | succ m ih =>
      intro hm
      have C := ih (by omega)
      have hmn : m < n := by omega
      have d1 := dgs (m + 1) hm
      have le1 : ∀ i j, i < n → j < n → U (fwS n B (m + 1) i j) (B i j) := fun i j hi hj => fwS_le i j (Nat.zero_le _)
      rw [fwS_succ] at d1 le1 ⊢
      generalize fwS n B m = M at *
      have e := fwI_at hmn (C.dg m hmn)
      refine ⟨d1, le1, fun i j k hi hj hk => ?_⟩
      have kn : k < n := by omega
      rw [e i j hi hj]
      by_cases c : k = m
      · subst c
        rw [e i k hi kn, e k j kn hj, nw_col (C.dg k kn), nw_row (C.dg k kn)]
        exact oMin_r _ _
      · have km : k < m := by omega
        rw [e i k hi kn, e k j kn hj]
        unfold nw
        have toL := oMin_l (M i j) (oAdd (M i m) (M m j))
        have toR := oMin_r (M i j) (oAdd (M i m) (M m j))
        rcases oMin_or (M i k) (oAdd (M i m) (M m k)) with q1 | q1 <;> rcases oMin_or (M k j) (oAdd (M k m) (M m j)) with q2 | q2 <;> rw [q1, q2]
        · exact toL.trans (C.tri i j k hi hj km)
        · rw [← oAdd_assoc]
          exact toR.trans ((C.tri i m k hi hmn km).add (U.refl _))
        · rw [oAdd_assoc]
          exact toR.trans ((U.refl _).add (C.tri m j k hmn hj km))
        · rw [oAdd_assoc, ← oAdd_assoc (M m k)]
          refine toR.trans ((U.refl _).add ?_)
          have z := (C.tri m m k hmn hmn km).add (U.refl (M m j))
          rw [C.dg m hmn, oAdd_0l] at z
          exact z
  exact key n (Nat.le_refl n)
/-- what is closed is not above any way -/
theorem Stage.way {n : Nat} {B M : Mx} (C : Stage n B n M) : ∀ (L : Nat) {i j : Nat} {w : Int}, Way B n i j L w → ∃ t, M i j = some t ∧ t ≤ w := by
  intro L
  induction L with
  | zero =>
    rintro i j w ⟨p, p0, pL, pn, pw⟩
    subst p0
    subst pL
    cases pw
    exact ⟨0, C.dg _ (pn 0 (Nat.le_refl 0)), Int.le_refl 0⟩
  | succ L ih =>
    rintro i j w ⟨p, p0, pL, pn, pw⟩
    obtain ⟨x, y, h1, h2, rfl⟩ := oAdd_some pw
    obtain ⟨t, ht, l⟩ := ih (i := i) (j := p L) (w := x) ⟨p, p0, rfl, fun t ht => pn t (by omega), h1⟩
    have hi : i < n := by rw [← p0]; exact pn 0 (by omega)
    have hk : p L < n := pn L (by omega)
    have hj : j < n := by rw [← pL]; exact pn (L + 1) (by omega)
    rw [pL] at h2
    obtain ⟨s, hs, l2⟩ := C.le (p L) j hk hj y h2
    obtain ⟨r, hr, l3⟩ := C.tri i j (p L) hi hj hk (t + s) (by rw [ht, hs]; rfl)
    exact ⟨r, hr, by omega⟩
/-- the bounds closed, where no ring is below nought -/
def negD (n : Nat) (M : Mx) : Bool := (List.range n).any fun i => match M i i with
  | some t => decide (t < 0)
  | none => false
theorem negD_iff {n : Nat} {M : Mx} : negD n M = false ↔ NN n M := by
  unfold negD NN
  rw [List.any_eq_false]
  constructor
  · intro h i t hi ht
    have := h i (List.mem_range.mpr hi)
    rw [ht] at this
    simp at this
    exact this
  · intro h i hi
    have := h i
    cases ht : M i i with
    | none => simp
    | some t => simpa using this t (List.mem_range.mp hi) ht
def closedO (n : Nat) (B : Mx) : Option Mx := if negD n (fw n B) = true then none else some (fw n B)
theorem closedO_some {n : Nat} {B M : Mx} (hz : ∀ i, i < n → B i i = some 0) (h : closedO n B = some M) : Stage n B n M ∧ M = fw n B ∧ Sums B n M := by
  unfold closedO at h
  split at h
  · cases h
  · rename_i c
    cases h
    refine ⟨stage hz (negD_iff.mp (by simpa using c)), rfl, fwS_sums (Nat.le_refl n)⟩
/-! the sums by doubling -/
def lsK (B : Mx) (i j : Nat) (m : Nat) : Option Int := (List.range m).foldl (fun acc k => oMin acc (oAdd (B i k) (B k j))) (B i j)
theorem lsK_succ {B : Mx} {i j m : Nat} : lsK B i j (m + 1) = oMin (lsK B i j m) (oAdd (B i m) (B m j)) := foldl_succ
def lsQ (n : Nat) (B : Mx) : Mx := fun i j => lsK B i j n
theorem lsK_le {B : Mx} {i j : Nat} : ∀ {m k : Nat}, k < m → U (lsK B i j m) (oAdd (B i k) (B k j))
  | 0, k, h => absurd h (Nat.not_lt_zero k)
  | m + 1, k, h => by
    rw [lsK_succ]
    by_cases c : k = m
    · subst c; exact oMin_r _ _
    · exact (oMin_l _ _).trans (lsK_le (by omega))
theorem lsK_le0 {B : Mx} {i j : Nat} : ∀ {m : Nat}, U (lsK B i j m) (B i j)
  | 0 => U.refl _
  | m + 1 => by rw [lsK_succ]; exact (oMin_l _ _).trans lsK_le0
theorem lsK_sums {B D : Mx} {n i j : Nat} (hi : i < n) (hj : j < n) (s : Sums B n D) : ∀ {m : Nat} {w : Int}, m ≤ n → lsK D i j m = some w → ∃ L, Way B n i j L w
  | 0, w, _, h => s i j w hi hj h
  | m + 1, w, hm, h => by
    rw [lsK_succ] at h
    rcases oMin_or (lsK D i j m) (oAdd (D i m) (D m j)) with q | q
    · rw [q] at h; exact lsK_sums hi hj s (by omega) h
    · rw [q] at h
      obtain ⟨x, y, h1, h2, rfl⟩ := oAdd_some h
      obtain ⟨L, g1⟩ := s i m x hi (by omega) h1
      obtain ⟨K, g2⟩ := s m j y (by omega) hj h2
      exact ⟨L + K, g1.app g2⟩
/-- all ways of at most r steps are told -/
def Upto (B : Mx) (n r : Nat) (D : Mx) : Prop := ∀ i j L w, L ≤ r → Way B n i j L w → ∃ t, D i j = some t ∧ t ≤ w
theorem upto_1 {B : Mx} {n : Nat} (hz : ∀ i, i < n → B i i = some 0) : Upto B n 1 B := fun i j L w hL h => by
  obtain ⟨p, p0, pL, pn, pw⟩ := h
  cases L with
  | zero =>
    subst p0; subst pL
    cases pw
    exact ⟨0, hz _ (pn 0 (Nat.le_refl 0)), Int.le_refl 0⟩
  | succ L =>
    have : L = 0 := by omega
    subst this
    have e : oAdd (some 0) (B (p 0) (p 1)) = some w := pw
    rw [oAdd_0l, p0, pL] at e
    exact ⟨w, e, Int.le_refl w⟩
theorem upto_2 {B D : Mx} {n r : Nat} (h : Upto B n r D) : Upto B n (2 * r) (lsQ n D) := fun i j L w hL g => by
  obtain ⟨k, x, y, hk, g1, g2, rfl⟩ := g.cut (a := min r L) (Nat.min_le_right _ _)
  obtain ⟨t, ht, l⟩ := h _ _ _ _ (Nat.min_le_left _ _) g1
  obtain ⟨s, hs, l2⟩ := h _ _ _ _ (by omega) g2
  obtain ⟨u, hu, l3⟩ := lsK_le (B := D) (i := i) (j := j) hk (t + s) (by rw [ht, hs]; rfl)
  exact ⟨u, hu, by omega⟩
theorem lsQ_sums {B D : Mx} {n : Nat} (s : Sums B n D) : Sums B n (lsQ n D) := fun i j w hi hj h => lsK_sums hi hj s (Nat.le_refl n) h
/-- what the doubling ends with is what closing ends with -/
theorem ls_eq {B D : Mx} {n r : Nat} (hz : ∀ i, i < n → B i i = some 0) (u : Upto B n r D) (s : Sums B n D) (hr : n ≤ r) : (negD n D = negD n (fw n B)) ∧ (negD n D = false → ∀ i j, i < n → j < n → D i j = fw n B i j) := by
  have sf : Sums B n (fw n B) := fwS_sums (Nat.le_refl n)
  have back : NN n D → NN n (fw n B) := fun h i t hi ht => by
    obtain ⟨L, g⟩ := sf i i t hi hi ht
    obtain ⟨K, v, hK, hv, g2⟩ := Way.short (fun k L w hk hL g => by
      obtain ⟨t, ht, l⟩ := u k k L w (by omega) g
      have := h k t hk ht
      omega) L g
    obtain ⟨t2, ht2, l⟩ := u i i K v (by omega) g2
    have := h i t2 hi ht2
    omega
  have fore : NN n (fw n B) → ∀ i j, i < n → j < n → D i j = fw n B i j := fun h i j hi hj => by
    have C := stage hz h
    refine U.antisymm (fun t ht => ?_) (fun t ht => ?_)
    · obtain ⟨L, g⟩ := sf i j t hi hj ht
      obtain ⟨K, v, hK, hv, g2⟩ := Way.short (fun k L w hk hL g => by
        obtain ⟨t, ht, l⟩ := C.way L g
        have := h k t hk ht
        omega) L g
      obtain ⟨t2, ht2, l⟩ := u i j K v (by omega) g2
      exact ⟨t2, ht2, by omega⟩
    · obtain ⟨L, g⟩ := s i j t hi hj ht
      exact C.way L g
  constructor
  · cases hD : negD n D with
    | false => exact (negD_iff.mpr (back (negD_iff.mp hD))).symm
    | true =>
      cases hf : negD n (fw n B) with
      | true => rfl
      | false =>
        have h := negD_iff.mp hf
        have e := fore h
        have : NN n D := fun i t hi ht => h i t hi (by rw [← e i i hi hi]; exact ht)
        rw [negD_iff.mpr this] at hD
        cases hD
  · intro h
    exact fore (back (negD_iff.mp h))
/-! sizes -/
abbrev bits (x : Int) : Nat := Builtin.Int.intBits x
theorem wt_abs {B : Mx} {p : Nat → Nat} {n : Nat} {c : Nat} (h : ∀ i j x, i < n → j < n → B i j = some x → x.natAbs ≤ c) : ∀ {L : Nat} {w : Int}, (∀ t, t ≤ L → p t < n) → wt B p L = some w → w.natAbs ≤ L * c
  | 0, w, _, e => by cases e; simp
  | L + 1, w, hp, e => by
    obtain ⟨x, y, h1, h2, rfl⟩ := oAdd_some e
    have a := wt_abs h (fun t ht => hp t (by omega)) h1
    have b := h _ _ _ (hp L (by omega)) (hp (L + 1) (by omega)) h2
    have : (L + 1) * c = L * c + c := Nat.succ_mul L c
    omega
theorem closed_abs {n : Nat} {B M : Mx} {c : Nat} (hz : ∀ i, i < n → B i i = some 0) (h : closedO n B = some M) (hc : ∀ i j x, i < n → j < n → B i j = some x → x.natAbs ≤ c) {i j : Nat} {x : Int} (hi : i < n) (hj : j < n) (hx : M i j = some x) : x.natAbs ≤ n * c := by
  obtain ⟨C, rfl, s⟩ := closedO_some hz h
  obtain ⟨L, g⟩ := s i j x hi hj hx
  obtain ⟨K, v, hK, hv, g2⟩ := Way.short (fun k L w hk hL g => by
    obtain ⟨t, ht, l⟩ := C.way L g
    rw [C.dg k hk] at ht
    cases ht
    exact l) L g
  obtain ⟨t, ht, l⟩ := C.way K g2
  rw [hx] at ht
  cases ht
  have : v = x := by omega
  subst this
  obtain ⟨p, p0, pK, pn, pw⟩ := g2
  have a := wt_abs hc pn pw
  have b : K * c ≤ n * c := Nat.mul_le_mul_right c hK
  omega
end Sr
set_option Elab.async false
set_option linter.all false
set_option maxRecDepth 100000
/-! # Sr: rests, as mathematics -/
namespace Sr
open PySem PySem.Spec PyProof.Rows L2
theorem fmod_lt (a : Int) {m : Int} (h : 0 < m) : 0 ≤ a.fmod m ∧ a.fmod m < m := ⟨Int.fmod_nonneg_of_pos a h, Int.fmod_lt_of_pos a h⟩
theorem fmod_nat (a b : Nat) : (a : Int).fmod (b : Int) = ((a % b : Nat) : Int) := by
  rw [Int.fmod_eq_emod_of_nonneg _ (by omega)]; rfl
theorem abs_eq (a : Int) : (if a < 0 then -a else a) = (a.natAbs : Int) := by split <;> omega
theorem log2_bits {x : Int} (h : bits x ≤ 8000) : x.natAbs.log2 < 9000 := by
  have h1 := intBits_le_iff.mp h
  by_cases h0 : x.natAbs = 0
  · rw [h0]; decide
  · have := (Nat.log2_lt h0).mpr h1; omega
theorem bits_gcd {x y : Int} {m : Nat} (h : bits y ≤ m) (h0 : y ≠ 0) : bits (Int.gcd x y : Int) ≤ m := by
  rw [intBits_le_iff] at h ⊢
  have := Nat.le_of_dvd (by omega) (Int.gcd_dvd_natAbs_right x y)
  omega
theorem bits_le {x : Int} {m n : Nat} (h : bits x ≤ m) (l : m ≤ n) : bits x ≤ n := Nat.le_trans h l
theorem bits_small {x : Int} {m : Nat} (h : x.natAbs < 2 ^ m) : bits x ≤ m := intBits_le_iff.mpr h
theorem bits_abs_le {x y : Int} {m : Nat} (h : bits y ≤ m) (l : x.natAbs ≤ y.natAbs) : bits x ≤ m := intBits_le_of_natAbs l h
theorem bits_dvd {x L : Int} {m : Nat} (h : bits L ≤ m) (d : x ∣ L) (h0 : L ≠ 0) : bits x ≤ m := by
  rw [intBits_le_iff] at h ⊢
  have := Nat.le_of_dvd (by omega) (Int.natAbs_dvd_natAbs.mpr d)
  omega
theorem run_ex {Φ : Fs} {d : Df} {ds : List D} {os : List (Option D)} {G : D → Prop} (hl : ds.length = d.io.length) (h : sat (evS Φ d.body (ds.map some ++ List.replicate (d.names - ds.length) none)) fun f e => ∃ r, f = .rt r ∧ outs d.io e = os ∧ G r) : ∃ r, runDf Φ d ds = some (r, os) ∧ G r := by
  obtain ⟨f, e, he, r, rfl, h2, h3⟩ := h
  refine ⟨r, ?_, h3⟩
  unfold runDf
  rw [if_pos hl, he]
  simp only [h2]
theorem eq_of_sat {α : Type} {o : Option (α × Env)} {a : α} {e : Env} (h : sat o fun a' e' => a' = a ∧ e' = e) : o = some (a, e) := by
  obtain ⟨_, _, h, rfl, rfl⟩ := h
  exact h
def rmod (m r : Int) : Int := if m = 0 then r else r.fmod m
theorem dvd_fmod (m x : Int) : m ∣ x - x.fmod m := ⟨x.fdiv m, by have := Int.fmod_def x m; omega⟩
theorem dvd_rmod (m r : Int) : m ∣ r - rmod m r := by
  unfold rmod
  split
  · simp
  · exact dvd_fmod m r
theorem fmod0 {a b : Int} : a.fmod b = 0 ↔ b ∣ a := ⟨Int.dvd_of_fmod_eq_zero, Int.fmod_eq_zero_of_dvd⟩
theorem fmod_congr {m a b : Int} (hm : 0 < m) (h : m ∣ a - b) : a.fmod m = b.fmod m := by
  have h1 := fmod_lt a hm
  have h2 := fmod_lt b hm
  obtain ⟨k, hk⟩ := h
  obtain ⟨x, hx⟩ := dvd_fmod m a
  obtain ⟨y, hy⟩ := dvd_fmod m b
  have e : a.fmod m - b.fmod m = m * (k - x + y) := by
    have : m * (k - x + y) = m * k - m * x + m * y := by rw [Int.mul_add, Int.mul_sub]
    omega
  have lt : (m * (k - x + y)).natAbs < m.natAbs := by omega
  by_cases c : k - x + y = 0
  · rw [c] at e; simp at e; omega
  · have : m.natAbs ≤ (m * (k - x + y)).natAbs := by
      rw [Int.natAbs_mul]; exact Nat.le_mul_of_pos_right _ (by omega)
    omega
theorem rmod_congr {m a b : Int} (hm : 0 ≤ m) (h : m ∣ a - b) : rmod m a = rmod m b := by
  unfold rmod
  split
  · rename_i c; rw [c] at h; have := Int.zero_dvd.mp h; omega
  · exact fmod_congr (by omega) h
theorem rmod_in {m r : Int} (h : 0 < m) : 0 ≤ rmod m r ∧ rmod m r < m := by
  unfold rmod
  rw [if_neg (by omega)]
  exact fmod_lt r h
theorem rmod_0 (r : Int) : rmod 0 r = r := by simp [rmod]
theorem rmod_self {m r : Int} (h : m = 0 ∨ (0 ≤ r ∧ r < m)) : rmod m r = r := by
  unfold rmod
  split
  · rfl
  · rename_i c
    rcases h with h | h
    · exact absurd h c
    · exact Int.fmod_eq_of_lt h.1 h.2
/-- a rest as it is made -/
def rmk (m r : Int) : Int × Int := (m, rmod m r)
@[simp] theorem rmk_1 {m r : Int} : (rmk m r).1 = m := rfl
@[simp] theorem rmk_2 {m r : Int} : (rmk m r).2 = rmod m r := rfl
/-- a rest well made -/
def RV (p : Int × Int) : Prop := 0 ≤ p.1 ∧ (p.1 = 0 ∨ (0 ≤ p.2 ∧ p.2 < p.1))
theorem RV.mk {m r : Int} (h : 0 ≤ m) : RV (rmk m r) := ⟨h, by
  by_cases c : m = 0
  · exact .inl c
  · exact .inr (rmod_in (by omega))⟩
theorem RV.eta {p : Int × Int} (h : RV p) : rmk p.1 p.2 = p := by
  unfold rmk
  rw [rmod_self h.2]
theorem RV.one : RV (1, 0) := ⟨by decide, .inr (by decide)⟩
theorem RV.zero (r : Int) : RV (0, r) := ⟨by simp, .inl rfl⟩
theorem gcd_nn (a b : Int) : (0 : Int) ≤ Int.gcd a b := by omega
/-- a number is one of the rest -/
def rhas (p : Int × Int) (x : Int) : Bool := decide (p.1 ∣ x - p.2)
theorem rhas_iff {p : Int × Int} {x : Int} : rhas p x = true ↔ p.1 ∣ x - p.2 := by simp [rhas]
theorem rhas_mk (m r x : Int) : rhas (rmk m r) x = decide (m ∣ x - r) := by
  unfold rhas
  have h := dvd_rmod m r
  congr 1
  apply propext
  show m ∣ x - rmod m r ↔ m ∣ x - r
  constructor
  · intro q
    have := Int.dvd_sub q h
    have e : x - rmod m r - (r - rmod m r) = x - r := by omega
    rwa [e] at this
  · intro q
    have := Int.dvd_add q h
    have e : x - r + (r - rmod m r) = x - rmod m r := by omega
    rwa [e] at this
def rin (p q : Int × Int) : Bool := decide (q.1 ∣ p.2 - q.2) && decide (q.1 ∣ p.1)
def rjn (p q : Int × Int) : Int × Int := rmk (Int.gcd (p.2 - q.2) (Int.gcd p.1 q.1)) p.2
def rpl (p q : Int × Int) : Int × Int := rmk (Int.gcd p.1 q.1) (p.2 + q.2)
def rtm (p : Int × Int) (k : Int) : Int × Int := rmk (p.1 * k.natAbs) (p.2 * k)
def rpt (p : Int × Int) (d : Int) : Int × Int := if p.1.fmod d = 0 then rmk (p.1.fdiv d) (p.2.fdiv d) else (1, 0)
def rrs (p : Int × Int) (k : Int) : Int × Int := if (Int.gcd p.1 k : Int) = k then (0, p.2.fmod k) else (Int.gcd p.1 k, p.2.fmod (Int.gcd p.1 k))
def rls (p : Int × Int) (k : Int) : Int × Int := rmk (Int.gcd p.1 k) p.2
def rud (p : Int × Int) (top : Int) : Option Int := if p.1 > 0 then some (top - (top - p.2).fmod p.1) else if p.2 > top then none else some p.2
open Classical in
/-- what both have -/
noncomputable def rmt (p q : Int × Int) : Option (Int × Int) := if h : ∃ x, p.1 ∣ x - p.2 ∧ q.1 ∣ x - q.2 then some (rmk (Int.lcm p.1 q.1) h.choose) else none
theorem lcm_dvd' {a b c : Int} (h : a ∣ c) (g : b ∣ c) : (Int.lcm a b : Int) ∣ c := Int.ofNat_dvd_left.mpr (Nat.lcm_dvd (Int.natAbs_dvd_natAbs.mpr h) (Int.natAbs_dvd_natAbs.mpr g))
theorem bezN : ∀ (m n : Nat), ∃ u v : Int, ((Nat.gcd m n : Nat) : Int) = m * u + n * v := by
  intro m n
  induction m, n using Nat.gcd.induction with
  | H0 n => exact ⟨0, 1, by simp⟩
  | H1 m n hm ih =>
    obtain ⟨u, v, h⟩ := ih
    refine ⟨v - (n / m : Nat) * u, u, ?_⟩
    rw [Nat.gcd_rec, h]
    have e : ((n % m : Nat) : Int) = n - m * (n / m : Nat) := by
      have := Nat.div_add_mod n m
      have e2 : ((m * (n / m) : Nat) : Int) = (m : Int) * ((n / m : Nat) : Int) := Int.natCast_mul ..
      omega
    rw [e, Int.sub_mul, Int.mul_sub, Int.mul_assoc]
    omega
theorem bez (a b : Int) : ∃ u v : Int, (Int.gcd a b : Int) = a * u + b * v := by
  obtain ⟨u, v, h⟩ := bezN a.natAbs b.natAbs
  refine ⟨a.sign * u, b.sign * v, ?_⟩
  rw [← Int.mul_assoc, ← Int.mul_assoc, Int.mul_sign_self, Int.mul_sign_self]
  exact h
theorem rmt_of {p q : Int × Int} {x : Int} (h1 : p.1 ∣ x - p.2) (h2 : q.1 ∣ x - q.2) : rmt p q = some (rmk (Int.lcm p.1 q.1) x) := by
  have hx : ∃ x, p.1 ∣ x - p.2 ∧ q.1 ∣ x - q.2 := ⟨x, h1, h2⟩
  unfold rmt
  rw [dif_pos hx]
  obtain ⟨g1, g2⟩ := hx.choose_spec
  congr 1
  unfold rmk
  rw [rmod_congr (a := hx.choose) (b := x) (by omega)]
  refine lcm_dvd' ?_ ?_
  · have := Int.dvd_sub g1 h1
    have e : hx.choose - p.2 - (x - p.2) = hx.choose - x := by omega
    rwa [e] at this
  · have := Int.dvd_sub g2 h2
    have e : hx.choose - q.2 - (x - q.2) = hx.choose - x := by omega
    rwa [e] at this
theorem rmt_none {p q : Int × Int} (h : ∀ x, p.1 ∣ x - p.2 → ¬ q.1 ∣ x - q.2) : rmt p q = none := by
  unfold rmt
  rw [dif_neg]
  rintro ⟨x, h1, h2⟩
  exact h x h1 h2
theorem rmt_some {p q r : Int × Int} (h : rmt p q = some r) : ∃ x, p.1 ∣ x - p.2 ∧ q.1 ∣ x - q.2 ∧ r = rmk (Int.lcm p.1 q.1) x := by
  by_cases c : ∃ x, p.1 ∣ x - p.2 ∧ q.1 ∣ x - q.2
  · obtain ⟨x, h1, h2⟩ := c
    rw [rmt_of h1 h2] at h
    cases h
    exact ⟨x, h1, h2, rfl⟩
  · rw [rmt_none fun x h1 h2 => c ⟨x, h1, h2⟩] at h; cases h
/-- a number of both is one of what both have -/
theorem rmt_has {p q : Int × Int} {x : Int} (h1 : p.1 ∣ x - p.2) (h2 : q.1 ∣ x - q.2) : ∃ r, rmt p q = some r ∧ r.1 ∣ x - r.2 := by
  refine ⟨_, rmt_of h1 h2, dvd_rmod _ _⟩
/-- rests meet just where the divisor of both divides how far they lie apart -/
theorem rmt_isSome {p q : Int × Int} : (∃ r, rmt p q = some r) ↔ (Int.gcd p.1 q.1 : Int) ∣ q.2 - p.2 := by
  constructor
  · rintro ⟨r, h⟩
    obtain ⟨x, h1, h2, _⟩ := rmt_some h
    have a := Int.dvd_trans (Int.gcd_dvd_left p.1 q.1) h1
    have b := Int.dvd_trans (Int.gcd_dvd_right p.1 q.1) h2
    have := Int.dvd_sub a b
    have e : x - p.2 - (x - q.2) = q.2 - p.2 := by omega
    rwa [e] at this
  · rintro ⟨k, hk⟩
    obtain ⟨u, v, b⟩ := bez p.1 q.1
    refine ⟨_, rmt_of (x := p.2 + p.1 * (u * k)) ⟨u * k, by omega⟩ ⟨-(v * k), ?_⟩⟩
    rw [b, Int.add_mul] at hk
    rw [Int.mul_neg]
    have e1 : p.1 * (u * k) = p.1 * u * k := by rw [Int.mul_assoc]
    have e2 : q.1 * (v * k) = q.1 * v * k := by rw [Int.mul_assoc]
    omega
theorem gcd_0r {m : Int} (h : 0 ≤ m) : ((Int.gcd m 0 : Nat) : Int) = m := by simp; omega
theorem gcd_0l {m : Int} (h : 0 ≤ m) : ((Int.gcd 0 m : Nat) : Int) = m := by simp; omega
theorem rpl_shift {p : Int × Int} (g : Int) (h : 0 ≤ p.1) : rpl p (0, g) = rmk p.1 (p.2 + g) := by
  unfold rpl
  rw [gcd_0r h]
end Sr
set_option Elab.async false
set_option linter.all false
set_option maxRecDepth 100000
set_option maxHeartbeats 4000000
/-! # Sr: the program's functions of rests, run -/
namespace Sr
open PySem PySem.Spec PyProof.Rows L2
@[simp] theorem dP_back {a b : Int} : D.tup [.int a, .int b] = dP (a, b) := rfl
@[simp] theorem bind2P {e : Env} {i j : Nat} {p : Int × Int} : bindT [i, j] (dP p) e = some ((e.set i (some (.int p.1))).set j (some (.int p.2))) := rfl
def dPo : Option (Int × Int) → D
  | none => .non
  | some p => dP p
@[simp] theorem dPo_none : dPo none = .non := rfl
@[simp] theorem dPo_some {p : Int × Int} : dPo (some p) = dP p := rfl
@[simp] theorem dPo_un {p : Option (Int × Int)} : (dPo p).un = true := by cases p <;> simp
@[simp] theorem dPo_ns {p : Option (Int × Int)} : (dPo p).ns = true := by cases p <;> simp
@[simp] theorem dPo_shr {p : Option (Int × Int)} : (dPo p).shr = dPo p := by cases p <;> simp
@[simp] theorem dPo_ok {n : Nat} {p : Option (Int × Int)} : okN (n + 2) (dPo p) := by cases p <;> simp
variable {n : Nat}
theorem run_divisor (Φ : Fs) (a b : Int) : runDf Φ d_divisor [.int a, .int b] = some (.int (Int.gcd a b), [none, none]) := by
  refine run_of rfl ?_
  simp [d_divisor, abs_eq]
  refine sat_whl (fun m e => ∃ l : Nat, e = [some (.int a), some (.int b), some (.int l), some (.int m), none] ∧ Nat.gcd l m = Int.gcd a b) (m := b.natAbs) ⟨a.natAbs, rfl, rfl⟩ ?_
  rintro m e ⟨l, rfl, h⟩
  by_cases hr : m = 0
  · subst hr
    simp at h
    simp [eqv_int, h]
  · have hr' : ¬ ((m : Int) = 0) := by omega
    simp [eqv_int, hr', fmod_nat, hr]
    refine ⟨l % m, Nat.mod_lt _ (by omega), m, ⟨rfl, rfl⟩, ?_⟩
    rw [Nat.gcd_comm, ← Nat.gcd_rec, Nat.gcd_comm]; exact h
theorem run_rest (Φ : Fs) (m r : Int) (h : 0 ≤ m) : runDf Φ d_rest [.int m, .int r] = some (dP (rmk m r), [none, none]) := by
  refine run_of rfl ?_
  have h' : ¬ m < 0 := by omega
  by_cases h0 : m = 0
  · subst h0; simp [d_rest, rmk, rmod]
  · simp [d_rest, rmk, rmod, h', h0]
theorem run_rest_has (Φ : Fs) (p : Int × Int) (x : Int) : runDf Φ d_rest_has [dP p, .int x] = some (.bl (rhas p x), [none, none]) := by
  refine run_of rfl ?_
  unfold rhas
  by_cases h0 : p.1 = 0
  · simp [d_rest_has, h0, Int.zero_dvd]
    omega
  · simp [d_rest_has, h0, fmod0]
theorem run_rest_inside (p q : Int × Int) : runDf (fnsN P (n + 1)) d_rest_inside [dP p, dP q] = some (.bl (rin p q), [none, none]) := by
  refine run_of rfl ?_
  unfold rin
  by_cases h : q.1 ∣ p.2 - q.2
  · by_cases h0 : q.1 = 0
    · rw [h0] at h; simp [d_rest_inside, run_rest_has, rhas, h, h0]
    · simp [d_rest_inside, run_rest_has, rhas, h, h0, fmod0]
  · simp [d_rest_inside, run_rest_has, rhas, h]
theorem run_rest_joined (p q : Int × Int) : runDf (fnsN P (n + 1)) d_rest_joined [dP p, dP q] = some (dP (rjn p q), [none, none]) := by
  refine run_of rfl ?_
  simp [d_rest_joined, run_divisor, run_rest, rjn]
theorem run_rest_plus (p q : Int × Int) : runDf (fnsN P (n + 1)) d_rest_plus [dP p, dP q] = some (dP (rpl p q), [none, none]) := by
  refine run_of rfl ?_
  simp [d_rest_plus, run_divisor, run_rest, rpl]
theorem run_rest_times (p : Int × Int) (k : Int) (h : 0 ≤ p.1) (h1 : mulOk p.1 (k.natAbs : Int)) (h2 : mulOk p.2 k) : runDf (fnsN P (n + 1)) d_rest_times [dP p, .int k] = some (dP (rtm p k), [none, none]) := by
  refine run_of rfl ?_
  have : 0 ≤ p.1 * (k.natAbs : Int) := Int.mul_nonneg h (by omega)
  simp only [d_rest_times]
  simp [abs_eq, h1, h2, run_rest _ _ _ this, rtm]
theorem run_rest_parted (p : Int × Int) (d : Int) (h : 0 ≤ p.1) (hd : 0 < d) (hl : d.natAbs.log2 < 9000) : runDf (fnsN P (n + 1)) d_rest_parted [dP p, .int d] = some (dP (rpt p d), [none, none]) := by
  refine run_of rfl ?_
  have h0 : d ≠ 0 := by omega
  have h1 : 0 ≤ p.1.fdiv d := by
    rw [Int.fdiv_eq_ediv_of_nonneg _ (by omega)]
    exact Int.ediv_nonneg h (by omega)
  unfold rpt
  by_cases hm : p.1.fmod d = 0
  · simp [d_rest_parted, h0, hm, hl, run_rest _ _ _ h1]
  · simp [d_rest_parted, h0, hm]
theorem run_rest_rested (p : Int × Int) (k : Int) (hk : k ≠ 0) : runDf (fnsN P (n + 1)) d_rest_rested [dP p, .int k] = some (dP (rrs p k), [none, none]) := by
  refine run_of rfl ?_
  have hg : ¬ Int.gcd p.1 k = 0 := fun e => hk (Int.gcd_eq_zero_iff.mp e).2
  unfold rrs
  by_cases h : (Int.gcd p.1 k : Int) = k
  · simp [d_rest_rested, run_divisor, h, hk]
  · simp [d_rest_rested, run_divisor, h, hg]
theorem run_rest_loosened (p : Int × Int) (k : Int) : runDf (fnsN P (n + 1)) d_rest_loosened [dP p, .int k] = some (dP (rls p k), [none, none]) := by
  refine run_of rfl ?_
  simp [d_rest_loosened, run_divisor, run_rest, rls]
theorem run_rest_under (Φ : Fs) (p : Int × Int) (top : Int) : runDf Φ d_rest_under [dP p, .int top] = some (dO (rud p top), [none, none]) := by
  refine run_of rfl ?_
  simp [d_rest_under]
  unfold rud
  by_cases h : 0 < p.1
  · have : p.1 ≠ 0 := by omega
    simp [h, this]
  · by_cases h2 : top < p.2 <;> simp [h, h2]
theorem natAbs_step (h f : Int) (q : Nat) (s : h * f ≤ 0) : (h - q * f).natAbs = h.natAbs + q * f.natAbs := by
  by_cases f0 : f = 0
  · subst f0; simp
  by_cases hp : 0 < f
  · have h1 : h ≤ 0 := by
      by_cases c : 0 < h
      · have := Int.mul_pos c hp; omega
      · omega
    have h2 : 0 ≤ (q : Int) * f := Int.mul_nonneg (by omega) (by omega)
    have e : ((q * f.natAbs : Nat) : Int) = q * f := by rw [Int.natCast_mul, Int.natAbs_of_nonneg (by omega)]
    omega
  · have hn : f < 0 := by omega
    have h1 : 0 ≤ h := by
      by_cases c : h < 0
      · have := Int.mul_pos_of_neg_of_neg c hn; omega
      · omega
    have h2 : (q : Int) * f ≤ 0 := Int.mul_nonpos_of_nonneg_of_nonpos (by omega) (by omega)
    have e : ((q * f.natAbs : Nat) : Int) = -(q * f) := by
      rw [Int.natCast_mul, Int.ofNat_natAbs_of_nonpos (by omega), Int.mul_neg]
    omega
theorem run_inverse (Φ : Fs) (a m : Int) (hm : 0 < m) (bm : bits m ≤ 8000) (hg : Int.gcd a m = 1) : ∃ r, runDf Φ d_inverse [.int a, .int m] = some (r, [none, none]) ∧ ∃ x, r = .int x ∧ 0 ≤ x ∧ x < m ∧ m ∣ a * x - 1 := by
  refine run_ex rfl ?_
  have hm0 : m ≠ 0 := by omega
  obtain ⟨w, hw⟩ : ∃ w : Nat, a.fmod m = (w : Int) := ⟨(a.fmod m).toNat, by have := (fmod_lt a hm).1; omega⟩
  obtain ⟨M, hM⟩ : ∃ M : Nat, m = (M : Int) := ⟨m.toNat, by omega⟩
  simp [d_inverse, hm0, hw]
  refine sat_whl (fun k e => ∃ (b : Nat) (h f : Int), e = [some (.int a), some (.int m), some (.int b), some (.int k), some (.int h), some (.int f), none, none] ∧ 0 < b ∧ Nat.gcd b k = 1 ∧ m ∣ b - h * a ∧ m ∣ k - f * a ∧ b * f.natAbs + k * h.natAbs = M ∧ h * f ≤ 0 ∧ b ≤ M ∧ k ≤ M) (m := w) ⟨M, 0, 1, by rw [hM], by omega, ?_, ?_, ?_, ?_, by decide, Nat.le_refl _, by have := (fmod_lt a hm).2; omega⟩ ?_
  · have e1 : Int.gcd (a.fmod m) m = 1 := by
      rw [← hg, Int.fmod_def]
      exact Int.gcd_sub_mul_left_left ..
    rw [hw, hM] at e1
    rw [Nat.gcd_comm]
    simpa [Int.gcd] using e1
  · rw [← hM]; simp
  · have := dvd_fmod m a
    rw [hw] at this
    have := Int.dvd_neg.mpr this
    have e : -(a - (w : Int)) = w - 1 * a := by omega
    rwa [e] at this
  · simp
  rintro k e ⟨b, h, f, rfl, hb, hgc, h1, h2, h3, h4, h5, h6⟩
  by_cases hk : k = 0
  · subst hk
    have hb1 : b = 1 := by simpa using hgc
    subst hb1
    have g := fmod_lt h hm
    simp [hm0]
    refine ⟨g.1, g.2, ?_⟩
    have g2 := dvd_fmod m h
    have a1 := Int.dvd_mul_of_dvd_right (a := m) (b := a) g2
    have a2 := Int.dvd_add a1 h1
    have a3 := Int.dvd_neg.mpr a2
    have e : -(a * (h - h.fmod m) + (((1 : Nat) : Int) - h * a)) = a * h.fmod m - 1 := by
      rw [Int.mul_sub, Int.mul_comm h a]; omega
    rwa [e] at a3
  · have hk' : ¬ ((k : Int) = 0) := by omega
    have bM : ∀ x : Int, x.natAbs ≤ M → bits x ≤ 8000 := fun x hx => by
      rw [intBits_le_iff] at bm ⊢
      omega
    have hf : f.natAbs ≤ M := by
      have := Nat.le_mul_of_pos_left f.natAbs hb
      omega
    have hq : b / k ≤ M := Nat.le_trans (Nat.div_le_self ..) h5
    have q1 : ((b : Int).fdiv (k : Int)) = ((b / k : Nat) : Int) := by
      rw [Int.fdiv_eq_ediv_of_nonneg _ (by omega)]; rfl
    have m1 : mulOk ((b / k : Nat) : Int) f := IntMulOk.of_le (bM _ (by rw [Int.natAbs_natCast]; exact hq)) (bM _ hf) (by decide)
    have e1 : ((b : Int) - ((b / k : Nat) : Int) * (k : Int)) = ((b % k : Nat) : Int) := by
      have := Nat.div_add_mod b k
      have e : ((k * (b / k) : Nat) : Int) = ((b / k : Nat) : Int) * (k : Int) := by rw [Nat.mul_comm, Int.natCast_mul]
      omega
    have m2 : mulOk ((b / k : Nat) : Int) (k : Int) := IntMulOk.of_le (bM _ (by rw [Int.natAbs_natCast]; exact hq)) (bM _ (by rw [Int.natAbs_natCast]; exact h6)) (by decide)
    have hl : Nat.log2 k < 9000 := log2_bits (x := (k : Int)) (bits_le (bM _ (by rw [Int.natAbs_natCast]; exact h6)) (by decide))
    have st := natAbs_step h f (b / k) h4
    simp only [Int.natCast_ediv] at q1 m1 m2 e1
    simp [hk', hk, q1, m1, m2, e1, hl]
    refine ⟨b % k, Nat.mod_lt _ (by omega), k, f, h - ((b : Int) / k) * f, ⟨rfl, rfl, rfl, rfl⟩, by omega, ?_, h2, ?_, ?_, ?_, h6, Nat.le_trans (Nat.le_of_lt (Nat.mod_lt _ (by omega))) h6⟩
    · rw [Nat.gcd_comm, ← Nat.gcd_rec, Nat.gcd_comm]; exact hgc
    · have a1 := Int.dvd_mul_of_dvd_right (a := m) (b := (b : Int) / k) h2
      have a2 := Int.dvd_sub h1 a1
      rw [← e1]
      have e : ((b : Int) - h * a) - (b : Int) / k * (k - f * a) = (b : Int) - (b : Int) / k * k - (h - (b : Int) / k * f) * a := by
        rw [Int.mul_sub, Int.sub_mul, Int.mul_assoc]; omega
      rwa [e] at a2
    · have st' : (h - (b : Int) / k * f).natAbs = h.natAbs + b / k * f.natAbs := st
      rw [st', Nat.mul_add, ← Nat.mul_assoc]
      have dm := Nat.div_add_mod b k
      have e2 : b * f.natAbs = k * (b / k) * f.natAbs + b % k * f.natAbs := by rw [← Nat.add_mul, dm]
      omega
    · rw [Int.mul_sub, Int.mul_comm f h]
      have : 0 ≤ f * ((b : Int) / k * f) := by
        rw [← Int.mul_assoc, Int.mul_comm f, Int.mul_assoc]
        exact Int.mul_nonneg (Int.ediv_nonneg (by omega) (by omega)) (by
          rcases Int.le_total 0 f with c | c
          · exact Int.mul_nonneg c c
          · exact Int.mul_nonneg_of_nonpos_of_nonpos c c)
      omega
theorem lcm_fdiv {m m' : Int} (h : 0 < m) (h' : 0 < m') : m.fdiv (Int.gcd m m') * m' = (Int.lcm m m' : Int) := by
  obtain ⟨a, rfl⟩ : ∃ a : Nat, m = a := ⟨m.toNat, by omega⟩
  obtain ⟨b, rfl⟩ : ∃ b : Nat, m' = b := ⟨m'.toNat, by omega⟩
  show (a : Int).fdiv ((Nat.gcd a b : Nat) : Int) * b = ((Nat.lcm a b : Nat) : Int)
  rw [Int.fdiv_eq_ediv_of_nonneg _ (by omega)]
  have e : ((a : Int) / ((Nat.gcd a b : Nat) : Int)) = ((a / Nat.gcd a b : Nat) : Int) := rfl
  rw [e, ← Int.natCast_mul]
  congr 1
  obtain ⟨c, hc⟩ := Nat.gcd_dvd_left a b
  have gp : 0 < Nat.gcd a b := Nat.gcd_pos_of_pos_left _ (by omega)
  unfold Nat.lcm
  generalize hg : Nat.gcd a b = g at *
  rw [hc, Nat.mul_div_cancel_left _ gp, Nat.mul_assoc, Nat.mul_div_cancel_left _ gp]
theorem run_rest_met (p q : Int × Int) (hm : 0 ≤ p.1) (hm' : 0 ≤ q.1) (bm : bits p.1 ≤ 8000) (br : bits p.2 ≤ 9000) (bm' : bits q.1 ≤ 8000) (br' : bits q.2 ≤ 9000) :
    runDf (fnsN P (n + 1)) d_rest_met [dP p, dP q] = some (dPo (rmt p q), [none, none]) := by
  obtain ⟨m, r⟩ := p
  obtain ⟨m', r'⟩ := q
  simp only at hm hm' bm br bm' br'
  by_cases h0 : m = 0
  · subst h0
    by_cases h : m' ∣ r - r'
    · have e : rmt (0, r) (m', r') = some (0, r) := by
        rw [rmt_of (x := r) (by simp) h]
        simp [rmk, rmod]
      rw [e]
      refine run_of rfl ?_
      simp [d_rest_met, run_rest_has, rhas, h]
    · have e : rmt (0, r) (m', r') = none := rmt_none fun x h1 h2 => h (by
        have := Int.zero_dvd.mp h1
        have e : x = r := by simp at this; omega
        rw [← e]; exact h2)
      rw [e]
      refine run_of rfl ?_
      simp [d_rest_met, run_rest_has, rhas, h]
  by_cases h0' : m' = 0
  · subst h0'
    by_cases h : m ∣ r' - r
    · have e : rmt (m, r) (0, r') = some (0, r') := by
        rw [rmt_of (x := r') h (by simp)]
        simp [rmk, rmod]
      rw [e]
      refine run_of rfl ?_
      simp [d_rest_met, run_rest_has, rhas, h, h0]
    · have e : rmt (m, r) (0, r') = none := rmt_none fun x h1 h2 => h (by
        have := Int.zero_dvd.mp h2
        have e : x = r' := by simp at this; omega
        rw [← e]; exact h1)
      rw [e]
      refine run_of rfl ?_
      simp [d_rest_met, run_rest_has, rhas, h, h0]
  obtain ⟨g, hg⟩ : ∃ g : Int, g = (Int.gcd m m' : Int) := ⟨_, rfl⟩
  have gp : 0 < g := by
    have : Int.gcd m m' ≠ 0 := fun e => h0 (Int.gcd_eq_zero_iff.mp e).1
    omega
  have g0 : g ≠ 0 := by omega
  have gd : g ∣ m := by rw [hg]; exact Int.gcd_dvd_left ..
  have gd' : g ∣ m' := by rw [hg]; exact Int.gcd_dvd_right ..
  by_cases h : g ∣ r' - r
  · have lc := lcm_fdiv (m := m) (m' := m') (by omega) (by omega)
    rw [← hg] at lc
    obtain ⟨u, hu⟩ := gd
    obtain ⟨v, hv⟩ := gd'
    obtain ⟨t, ht⟩ := h
    have fd : ∀ x : Int, (g * x).fdiv g = x := fun x => by
      rw [Int.fdiv_eq_ediv_of_nonneg _ (by omega), Int.mul_ediv_cancel_left _ g0]
    have vp : 0 < v := by
      by_cases c : 0 < v
      · exact c
      · have : g * v ≤ 0 := Int.mul_nonpos_of_nonneg_of_nonpos (by omega) (by omega)
        omega
    have up : 0 < u := by
      by_cases c : 0 < u
      · exact c
      · have : g * u ≤ 0 := Int.mul_nonpos_of_nonneg_of_nonpos (by omega) (by omega)
        omega
    have huv : Int.gcd u v = 1 := by
      have e : Int.gcd m m' = g.natAbs * Int.gcd u v := by rw [hu, hv, Int.gcd_mul_left]
      have e2 : g.natAbs = Int.gcd m m' := by omega
      have e3 : g.natAbs * Int.gcd u v = g.natAbs * 1 := by rw [← e, Nat.mul_one]; exact e2.symm
      exact Nat.eq_of_mul_eq_mul_left (by omega) e3
    have le1 : ∀ y : Int, 0 < y → y.natAbs ≤ (g * y).natAbs := fun y hy => by
      rw [Int.natAbs_mul]; exact Nat.le_mul_of_pos_left _ (by omega)
    have bv : bits v ≤ 8000 := intBits_le_of_natAbs (le1 v vp) (by rw [← hv]; exact bm')
    have bu : bits u ≤ 8000 := intBits_le_of_natAbs (le1 u up) (by rw [← hu]; exact bm)
    have bg : bits g ≤ 8000 := by
      rw [hg]; exact bits_gcd bm' h0'
    have bt : bits t ≤ 9001 := by
      refine intBits_le_of_natAbs (y := r' - r) ?_ (intBits_sub_le br' br)
      rw [ht, Int.natAbs_mul]; exact Nat.le_mul_of_pos_left _ (by omega)
    obtain ⟨_, hx, x, rfl, x0, xv, xd⟩ := run_inverse (fnsN P n) u v vp (bits_le bv (by decide)) huv
    have bx : bits x ≤ 8000 := intBits_le_of_natAbs (by omega) bv
    have m1 : mulOk t x := IntMulOk.of_le bt bx (by decide)
    have m2 : mulOk u m' := IntMulOk.of_le bu bm' (by decide)
    have w0 := fmod_lt (t * x) vp
    have bw : bits ((t * x).fmod v) ≤ 8000 := intBits_le_of_natAbs (by omega) bv
    have m3 : mulOk m ((t * x).fmod v) := IntMulOk.of_le bm bw (by decide)
    have hl := log2_bits (bits_le bg (by decide : 8000 ≤ 8000))
    have a1 : (r' - r).fmod g = 0 := fmod0.mpr ⟨t, ht⟩
    have a2 : (r' - r).fdiv g = t := by rw [ht, fd]
    have a3 : m.fdiv g = u := by rw [hu, fd]
    have a4 : m'.fdiv g = v := by rw [hv, fd]
    have nn : 0 ≤ u * m' := Int.mul_nonneg (by omega) hm'
    have gpos : ¬ Int.gcd m m' = 0 := by omega
    have hv0 : v ≠ 0 := by omega
    have hlN : Nat.log2 (Int.gcd m m') < 9000 := by
      have := hl; rw [hg] at this; simpa using this
    have fin : rmt (m, r) (m', r') = some (rmk (u * m') (r + m * (t * x).fmod v)) := by
      rw [rmt_of (x := r + m * (t * x).fmod v)]
      · rw [← lc, a3]
      · show m ∣ r + m * (t * x).fmod v - r
        exact ⟨(t * x).fmod v, by omega⟩
      · show m' ∣ r + m * (t * x).fmod v - r'
        have c1 := dvd_fmod v (t * x)
        have c2 : v ∣ u * (t * x).fmod v - t := by
          have d1 := Int.dvd_mul_of_dvd_right (a := v) (b := u) c1
          have d2 := Int.dvd_mul_of_dvd_right (a := v) (b := t) xd
          have d3 := Int.dvd_sub d2 d1
          have e : t * (u * x - 1) - u * (t * x - (t * x).fmod v) = u * (t * x).fmod v - t := by
            rw [Int.mul_sub, Int.mul_sub, Int.mul_one]
            have : t * (u * x) = u * (t * x) := by rw [← Int.mul_assoc, Int.mul_comm t u, Int.mul_assoc]
            omega
          rwa [e] at d3
        have c3 := Int.mul_dvd_mul (Int.dvd_refl g) c2
        have e : g * (u * (t * x).fmod v - t) = r + m * (t * x).fmod v - r' := by
          rw [Int.mul_sub, ← Int.mul_assoc, ← hu, ← ht]; omega
        rw [e, ← hv] at c3
        exact c3
    rw [fin]
    refine run_of rfl ?_
    have a1' := a1; have a2' := a2; have a3' := a3; have a4' := a4
    rw [hg] at a1' a2' a3' a4'
    simp [d_rest_met, h0, h0', run_divisor, a1', a2', a3', a4', hx, m1, m2, m3, run_rest _ _ _ nn, gpos, hv0, hlN]
  · have fin : rmt (m, r) (m', r') = none := by
      cases c : rmt (m, r) (m', r') with
      | none => rfl
      | some z => exact absurd (by rw [hg]; exact rmt_isSome.mp ⟨z, c⟩) h
    rw [fin]
    refine run_of rfl ?_
    have hgg : ¬ (r' - r).fmod (Int.gcd m m') = 0 := fun q => h (by rw [hg]; exact fmod0.mp q)
    have gpos : ¬ Int.gcd m m' = 0 := by omega
    simp [d_rest_met, h0, h0', run_divisor, hgg, gpos]
end Sr
set_option Elab.async false
set_option linter.all false
set_option maxRecDepth 100000
set_option maxHeartbeats 4000000
/-! # Sr: closing, run -/
namespace Sr
open PySem PySem.Spec PyProof.Rows L2
def gxF (o : Bool) (n : Nat) : Option Mx → D
  | none => .non
  | some M => mxF o n n M
@[simp] theorem gxF_none {o : Bool} {n : Nat} : gxF o n none = .non := rfl
@[simp] theorem gxF_some {o : Bool} {n : Nat} {M : Mx} : gxF o n (some M) = mxF o n n M := rfl
@[simp] theorem gxF_un {n : Nat} {M : Option Mx} : (gxF false n M).un = true := by cases M <;> simp
@[simp] theorem gxF_ns {n : Nat} {M : Option Mx} : (gxF true n M).ns = true := by cases M <;> simp
@[simp] theorem gxF_shr {o : Bool} {n : Nat} {M : Option Mx} : (gxF o n M).shr = gxF false n M := by cases M <;> simp
theorem fw_some {n a : Nat} {B : Mx} (h : B a a ≠ none) : fw n B a a ≠ none := by
  cases hB : B a a with
  | none => exact absurd hB h
  | some t =>
    obtain ⟨s, hs, _⟩ := fwS_le (n := n) (B := B) a a (Nat.zero_le n) t hB
    show fwS n B n a a ≠ none
    rw [hs]; simp
theorem fwI_lt {n mid m : Nat} {M : Mx} : (List.range (m + 1)).foldl (fwJ n mid) M = fwJ n mid ((List.range m).foldl (fwJ n mid) M) m := foldl_succ
theorem run_closed (Φ : Fs) {n : Nat} {B : Mx} (hn : n ≤ 1000) (hd : ∀ i, i < n → B i i ≠ none) : runDf Φ d_closed [mxF false n n B] = some (gxF true n (closedO n B), [none]) := by
  refine run_of rfl ?_
  have hbig : big = 1000000 := rfl
  simp [d_closed, sat_lc]
  refine lc_copy (by intro d; rfl) rfl ?_
  simp
  refine ⟨by omega, ?_⟩
  refine for_mk (S := fun m => [some (mxF false n n B), some (mxF true n n (fwS n B m)), none, none, none, none, none]) rfl ?_ ?_
  · intro mid hmid
    simp
    refine ⟨by omega, ?_⟩
    refine for_mk (S := fun i => [some (mxF false n n B), some (mxF true n n ((List.range i).foldl (fwJ n mid) (fwS n B mid))), some (.int (mid : Int)), none, none, none, none]) rfl ?_ ?_
    · intro i hi
      rw [foldl_succ]
      generalize (List.range i).foldl (fwJ n mid) (fwS n B mid) = M1
      simp
      refine ⟨by omega, ?_⟩
      refine for_mk (S := fun j => [some (mxF false n n B), some (mxF true n n ((List.range j).foldl (fwIn mid i) M1)), some (.int (mid : Int)), some (.int (i : Int)), none, none, none]) rfl ?_ ?_
      · intro j hj
        rw [foldl_succ]
        generalize (List.range j).foldl (fwIn mid i) M1 = M2
        have a1 := fun o M => mxF_atN (o := o) (n := n) (B := M) hi
        have a2 := fun o M => mxF_atN (o := o) (n := n) (B := M) hmid
        have b1 := fun o r => rowF_atN (o := o) (r := r) hmid
        have b2 := fun o r => rowF_atN (o := o) (r := r) hj
        have p1 := fun M x => mxF_putI (B := M) (x := x) hi hj
        cases h1 : M2 i mid with
        | none => simp [a1, b1, h1, fwIn]
        | some x1 =>
          cases h2 : M2 mid j with
          | none => simp [a1, a2, b1, b2, h1, h2, fwIn]
          | some x2 =>
            cases h3 : M2 i j with
            | none => simp [a1, a2, b1, b2, h1, h2, h3, fwIn, lessB, p1]
            | some x3 =>
              by_cases c : x1 + x2 < x3
              · simp [a1, a2, b1, b2, h1, h2, h3, fwIn, lessB, p1, c]
              · simp [a1, a2, b1, b2, h1, h2, h3, fwIn, lessB, p1, c]
      · simp [fwJ]
    · simp [fwS_succ, fwI]
  · simp
    refine ⟨by omega, ?_⟩
    have e1 : fwS n B n = fw n B := rfl
    rw [e1]
    refine for_all (fun i => ∀ t, fw n B i i = some t → 0 ≤ t) [some (mxF false n n B), some (mxF true n n (fw n B)), none, none, none, none, none] rfl ?_ ?_
    · intro i hi
      have a1 := fun o M => mxF_atN (o := o) (n := n) (B := M) hi
      have b1 := fun o r => rowF_atN (o := o) (r := r) hi
      cases h1 : fw n B i i with
      | none => exact absurd h1 (fw_some (hd i hi))
      | some t =>
        by_cases c : t < 0
        · simp [a1, b1, h1, c]
          intro x hx t' ht' hl
          unfold closedO
          rw [if_pos]
          · rfl
          · cases hq : negD n (fw n B) with
            | true => rfl
            | false => have := negD_iff.mp hq x t' hx ht'; omega
        · simp [a1, b1, h1, c]
          omega
    · intro h
      simp
      unfold closedO
      rw [if_neg]
      · rfl
      · have : negD n (fw n B) = false := negD_iff.mpr fun i t hi ht => h i hi t ht
        simp [this]
/-! the law's own -/
/-- how the doubling goes on -/
def lsIt (n : Nat) : Nat → Nat → Mx → Mx
  | 0, _, B => B
  | f + 1, r, B => if r < n then lsIt n f (2 * r) (lsQ n B) else B
theorem lsIt_sums {B : Mx} {n : Nat} : ∀ {f r : Nat} {D : Mx}, Sums B n D → Sums B n (lsIt n f r D)
  | 0, _, _, s => s
  | f + 1, r, D, s => by
    unfold lsIt
    split
    · exact lsIt_sums (lsQ_sums s)
    · exact s
theorem lsIt_upto {B : Mx} {n : Nat} : ∀ {f r : Nat} {D : Mx}, 1 ≤ r → n ≤ f + r → Upto B n r D → ∃ r', n ≤ r' ∧ Upto B n r' (lsIt n f r D)
  | 0, r, D, _, h, u => ⟨r, by omega, u⟩
  | f + 1, r, D, h1, h, u => by
    unfold lsIt
    split
    · exact lsIt_upto (by omega) (by omega) (upto_2 u)
    · exact ⟨r, by omega, u⟩
theorem lsIt_le {n : Nat} {i j : Nat} : ∀ {f r : Nat} {D : Mx}, U (lsIt n f r D i j) (D i j)
  | 0, _, _ => U.refl _
  | f + 1, r, D => by
    unfold lsIt
    split
    · exact lsIt_le.trans lsK_le0
    · exact U.refl _
theorem run_lls (Φ : Fs) {n : Nat} {B : Mx} (hn : n ≤ 1000) (hd : ∀ i, i < n → B i i = some 0) : runDf Φ d__law_least_sums [mxF false n n B] = some (gxF false n (closedO n B), [none]) := by
  refine run_of rfl ?_
  have hbig : big = 1000000 := rfl
  simp [d__law_least_sums, sat_lc]
  refine lc_copy (by intro d; rfl) rfl ?_
  simp
  refine sat_whl (fun m e => ∃ (f r : Nat) (Dm : Mx), e = [some (mxF false n n B), some (.int n), some (mxF true n n Dm), some (.int r), none, none, none, none, none, none] ∧ 1 ≤ r ∧ n ≤ f + r ∧ r ≤ 2000 ∧ m = f ∧ lsIt n f r Dm = lsIt n n 1 B) (m := n) ⟨n, 1, B, rfl, Nat.le_refl 1, by omega, by omega, rfl, rfl⟩ ?_
  rintro m e ⟨f, r, Dm, rfl, hr, hf, hr2, rfl, he⟩
  by_cases c : r < n
  · obtain ⟨f, rfl⟩ : ∃ g, m = g + 1 := ⟨m - 1, by omega⟩
    simp [c, sat_lc]
    refine lc_copy (by intro d; rfl) rfl ?_
    simp
    refine ⟨by omega, ?_⟩
    refine for_mk (S := fun i => [some (mxF false n n B), some (.int n), some (mxF true n n (updN Dm (lsQ n Dm) i 0)), some (.int r), none, some (mxF false n n Dm), none, none, none, none]) (by simp) ?_ ?_
    · intro i hi
      simp
      refine ⟨by omega, ?_⟩
      refine for_mk (S := fun j => [some (mxF false n n B), some (.int n), some (mxF true n n (updN Dm (lsQ n Dm) i j)), some (.int r), some (.int i), some (mxF false n n Dm), none, none, none, none]) (by simp) ?_ ?_
      · intro j hj
        simp
        refine ⟨by omega, ?_⟩
        refine for_mk (S := fun k => [some (mxF false n n B), some (.int n), some (mxF true n n (up2 (updN Dm (lsQ n Dm) i j) i j (lsK Dm i j k))), some (.int r), some (.int i), some (mxF false n n Dm), none, some (.int j), none, none]) ?_ ?_ ?_
        · have : up2 (updN Dm (lsQ n Dm) i j) i j (lsK Dm i j 0) = updN Dm (lsQ n Dm) i j := by
            funext a b
            unfold up2
            split
            · rename_i c; rw [c.1, c.2, updN_at]; rfl
            · rfl
          rw [this]
        · intro k hk
          have a1 := fun o M => mxF_atN (o := o) (n := n) (B := M) hi
          have a2 := fun o M => mxF_atN (o := o) (n := n) (B := M) hk
          have b1 := fun o r => rowF_atN (o := o) (r := r) hk
          have b2 := fun o r => rowF_atN (o := o) (r := r) hj
          have p1 := fun M x => mxF_putI (B := M) (x := x) hi hj
          have uu : ∀ M x y, up2 (up2 M i j x) i j y = up2 M i j y := fun M x y => by
            funext a b
            unfold up2
            split <;> rfl
          have en : ∀ a, oAdd none a = none := fun a => by cases a <;> rfl
          have en2 : ∀ a, oAdd a none = none := fun a => by cases a <;> rfl
          have em : ∀ a, oMin a none = a := fun a => by cases a <;> rfl
          rw [lsK_succ]
          cases h1 : Dm i k with
          | none => simp [a1, b1, h1, en, em]
          | some x1 =>
            cases h2 : Dm k j with
            | none => simp [a1, a2, b1, b2, h1, h2, en2, em]
            | some x2 =>
              cases h3 : lsK Dm i j k with
              | none => simp [a1, a2, b1, b2, h1, h2, h3, p1, uu, oMin, oAdd]
              | some x3 =>
                by_cases c : x1 + x2 < x3
                · simp [a1, a2, b1, b2, h1, h2, h3, p1, c, uu, oMin, oAdd]
                · simp [a1, a2, b1, b2, h1, h2, h3, p1, c, uu, oMin, oAdd]
        · have : up2 (updN Dm (lsQ n Dm) i j) i j (lsK Dm i j n) = updN Dm (lsQ n Dm) i (j + 1) := updN_put rfl
          simp [this]
      · simp
        exact updN_row
    · have m1 : mulOk 2 (r : Int) := mulOk_l (by decide)
      simp [m1]
      refine ⟨f, by omega, f, 2 * r, lsQ n Dm, ⟨updN_end, by omega⟩, by omega, by omega, by omega, rfl, ?_⟩
      rw [← he]
      show _ = lsIt n (f + 1) r Dm
      rw [lsIt, if_pos c]
  · have e2 : lsIt n m r Dm = Dm := by
      cases m with
      | zero => rfl
      | succ m => rw [lsIt, if_neg c]
    rw [e2] at he
    obtain ⟨r', hr', u⟩ := lsIt_upto (B := B) (n := n) (f := n) (r := 1) (D := B) (Nat.le_refl 1) (by omega) (upto_1 hd)
    have s : Sums B n (lsIt n n 1 B) := lsIt_sums fun i j w hi hj h => ⟨1, Way.one hi hj h⟩
    rw [← he] at u s
    obtain ⟨e3, e4⟩ := ls_eq hd u s hr'
    have tl : ∀ i, i < n → Dm i i ≠ none := fun i hi => by
      rw [he]
      obtain ⟨t, ht, _⟩ := lsIt_le (n := n) (i := i) (j := i) (f := n) (r := 1) (D := B) 0 (hd i hi)
      rw [ht]; simp
    simp [c]
    refine ⟨by omega, ?_⟩
    refine for_all (fun i => ∀ t, Dm i i = some t → 0 ≤ t) [some (mxF false n n B), some (.int n), some (mxF true n n Dm), some (.int r), none, none, none, none, none, none] rfl ?_ ?_
    · intro i hi
      have a1 := fun o M => mxF_atN (o := o) (n := n) (B := M) hi
      have b1 := fun o r => rowF_atN (o := o) (r := r) hi
      cases h1 : Dm i i with
      | none => exact absurd h1 (tl i hi)
      | some t =>
        by_cases c : t < 0
        · simp [a1, b1, h1, c]
          intro x hx t' ht' hl
          unfold closedO
          rw [← e3, if_pos]
          · rfl
          · cases hq : negD n Dm with
            | true => rfl
            | false => have := negD_iff.mp hq x t' hx ht'; omega
        · simp [a1, b1, h1, c]
          omega
    · intro h
      have e5 : negD n Dm = false := negD_iff.mpr fun i t hi ht => h i hi t ht
      simp
      unfold closedO
      rw [← e3, e5]
      simp
      exact mxF_congr (e4 e5)
end Sr
set_option Elab.async false
set_option linter.all false
set_option maxRecDepth 100000
set_option maxHeartbeats 4000000
/-! # Sr: sharpening, run -/
namespace Sr
open PySem PySem.Spec PyProof.Rows L2
def fxd (B : Mx) (i j : Nat) : Bool := match B i j, B j i with
  | some a, some b => decide (a + b = 0)
  | _, _ => false
/-- the rest of nought ahead of the rests -/
def ful (R : Rs2) : Rs2 := fun i => if i = 0 then (0, 0) else R (i - 1)
@[simp] theorem ful_0 {R : Rs2} : ful R 0 = (0, 0) := rfl
@[simp] theorem ful_1 {R : Rs2} {i : Nat} : ful R (i + 1) = R i := by simp [ful]
/-- the rest of a box, met with those of the boxes ahead of j -/
noncomputable def hnd (B : Mx) (F : Rs2) (i : Nat) : Nat → Option (Int × Int)
  | 0 => some (F i)
  | j + 1 => match hnd B F i j with
    | none => none
    | some p => if j ≠ i ∧ fxd B i j = true then rmt p (rmk (F j).1 ((F j).2 + (B i j).getD 0)) else some p
noncomputable def hno (n : Nat) (B : Mx) (R : Rs2) : Option Rs2 := if ((List.range n).all fun i => (hnd B (ful R) (i + 1) (n + 1)).isSome) = true then some (fun i => (hnd B (ful R) (i + 1) (n + 1)).getD (0, 0)) else none
theorem hno_some {n : Nat} {B : Mx} {R R' : Rs2} (h : hno n B R = some R') {i : Nat} (hi : i < n) : hnd B (ful R) (i + 1) (n + 1) = some (R' i) := by
  unfold hno at h
  split at h
  · rename_i c
    cases h
    have := List.all_eq_true.mp c i (List.mem_range.mpr hi)
    obtain ⟨x, hx⟩ := Option.isSome_iff_exists.mp this
    simp only [hx]; rfl
  · cases h
theorem hno_none {n : Nat} {B : Mx} {R : Rs2} {i : Nat} (hi : i < n) (h : hnd B (ful R) (i + 1) (n + 1) = none) : hno n B R = none := by
  unfold hno
  rw [if_neg]
  intro c
  have := List.all_eq_true.mp c i (List.mem_range.mpr hi)
  rw [h] at this
  cases this
theorem hno_of {n : Nat} {B : Mx} {R R' : Rs2} (h : ∀ i, i < n → hnd B (ful R) (i + 1) (n + 1) = some (R' i)) : ∃ R2, hno n B R = some R2 ∧ ∀ i, i < n → R2 i = R' i := by
  unfold hno
  rw [if_pos]
  · refine ⟨_, rfl, fun i hi => ?_⟩
    simp only [h i hi]; rfl
  · rw [List.all_eq_true]
    intro i hi
    rw [h i (List.mem_range.mp hi)]; rfl
/-- a bound lowered -/
def lw1 (p : Int × Int) : Option Int → Option (Option Int)
  | some x => (rud p x).map some
  | none => if p.1 = 0 then some (some p.2) else some none
def apt (F : Rs2) (i j : Nat) : Int × Int := rpl (F i) (rtm (F j) (-1))
def lwE (B : Mx) (F : Rs2) (i j : Nat) : Option (Option Int) := if i = j then some (B i j) else lw1 (apt F i j) (B i j)
def lwO (n : Nat) (B : Mx) (R : Rs2) : Option Mx := if ((List.range (n + 1)).all fun i => (List.range (n + 1)).all fun j => (lwE B (ful R) i j).isSome) = true then some (fun i j => (lwE B (ful R) i j).getD none) else none
theorem lwO_some {n : Nat} {B B' : Mx} {R : Rs2} (h : lwO n B R = some B') {i j : Nat} (hi : i ≤ n) (hj : j ≤ n) : lwE B (ful R) i j = some (B' i j) := by
  unfold lwO at h
  split at h
  · rename_i c
    cases h
    have := List.all_eq_true.mp (List.all_eq_true.mp c i (List.mem_range.mpr (by omega))) j (List.mem_range.mpr (by omega))
    obtain ⟨x, hx⟩ := Option.isSome_iff_exists.mp this
    simp only [hx]; rfl
  · cases h
theorem lwO_none {n : Nat} {B : Mx} {R : Rs2} {i j : Nat} (hi : i ≤ n) (hj : j ≤ n) (h : lwE B (ful R) i j = none) : lwO n B R = none := by
  unfold lwO
  rw [if_neg]
  intro c
  have := List.all_eq_true.mp (List.all_eq_true.mp c i (List.mem_range.mpr (by omega))) j (List.mem_range.mpr (by omega))
  rw [h] at this
  cases this
theorem lwO_of {n : Nat} {B : Mx} {R : Rs2} (h : ∀ i j, i ≤ n → j ≤ n → lwE B (ful R) i j ≠ none) : lwO n B R = some (fun i j => (lwE B (ful R) i j).getD none) := by
  unfold lwO
  rw [if_pos]
  rw [List.all_eq_true]
  intro i hi
  rw [List.all_eq_true]
  intro j hj
  have := h i j (by have := List.mem_range.mp hi; omega) (by have := List.mem_range.mp hj; omega)
  cases c : lwE B (ful R) i j with
  | none => exact absurd c this
  | some x => rfl
/-- sharpened -/
noncomputable def shO (n : Nat) (t : Td) : Option Td := match closedO (n + 1) t.1 with
  | none => none
  | some B => match hno n B t.2 with
    | none => none
    | some R => match lwO n B R with
      | none => none
      | some B2 => match closedO (n + 1) B2 with
        | none => none
        | some B3 => match hno n B3 R with
          | none => none
          | some R2 => some (B3, R2)
noncomputable def shT (n : Nat) : Option Td → Option Td
  | none => none
  | some t => shO n t
/-! sizes -/
structure OkB (β n : Nat) (B : Mx) : Prop where
  d : ∀ i, i ≤ n → B i i = some 0
  b : ∀ i j x, i ≤ n → j ≤ n → B i j = some x → bits x ≤ β
structure OkP (L : Int) (β : Nat) (p : Int × Int) : Prop where
  v : RV p
  d : p.1 = 0 ∨ p.1 ∣ L
  b : bits p.2 ≤ β
def OkR (L : Int) (β n : Nat) (R : Rs2) : Prop := ∀ i, i < n → OkP L β (R i)
structure Ok (L : Int) (β n : Nat) (t : Td) : Prop where
  b : OkB β n t.1
  r : OkR L β n t.2
theorem OkP.le {L : Int} {β γ : Nat} {p : Int × Int} (o : OkP L β p) (h : β ≤ γ) : OkP L γ p := ⟨o.v, o.d, Nat.le_trans o.b h⟩
theorem OkP.m {L : Int} {β γ : Nat} {p : Int × Int} (o : OkP L β p) (hL : 0 < L) (h : bits L ≤ γ) : bits p.1 ≤ γ := by
  rcases o.d with z | z
  · rw [z]; exact Nat.le_trans (by decide) (Nat.zero_le _)
  · exact bits_dvd h z (by omega)
theorem bits_0 : bits 0 = 0 := rfl
theorem OkP.zero {L : Int} {β : Nat} : OkP L β (0, 0) := ⟨RV.zero 0, .inl rfl, Nat.zero_le _⟩
theorem OkP.one {L : Int} {β : Nat} : OkP L β (1, 0) := ⟨RV.one, .inr (Int.one_dvd L), Nat.zero_le _⟩
theorem OkR.ful {L : Int} {β n : Nat} {R : Rs2} (o : OkR L β n R) {i : Nat} (h : i ≤ n) : OkP L β (ful R i) := by
  cases i with
  | zero => exact OkP.zero
  | succ i => rw [ful_1]; exact o i (by omega)
theorem OkB.le {β γ n : Nat} {B : Mx} (o : OkB β n B) (h : β ≤ γ) : OkB γ n B := ⟨o.d, fun i j x hi hj e => Nat.le_trans (o.b i j x hi hj e) h⟩
theorem OkR.le {L : Int} {β γ n : Nat} {R : Rs2} (o : OkR L β n R) (h : β ≤ γ) : OkR L γ n R := fun i hi => (o i hi).le h
theorem Ok.le {L : Int} {β γ n : Nat} {t : Td} (o : Ok L β n t) (h : β ≤ γ) : Ok L γ n t := ⟨o.b.le h, o.r.le h⟩
theorem bits_mod {L m x : Int} {β : Nat} (hL : 0 < L) (hb : bits L ≤ β) (hm : 0 < m) (d : m ∣ L) : bits (rmod m x) ≤ β := by
  have := rmod_in (r := x) hm
  exact bits_abs_le hb (by
    have := Nat.le_of_dvd (by omega) (Int.natAbs_dvd_natAbs.mpr d)
    omega)
theorem OkP.mkP {L : Int} {β : Nat} {m x : Int} (hL : 0 < L) (hb : bits L ≤ β) (hm : 0 ≤ m) (d : m = 0 ∨ m ∣ L) (hx : m = 0 → bits x ≤ β) : OkP L β (rmk m x) := by
  refine ⟨RV.mk hm, d, ?_⟩
  by_cases c : m = 0
  · subst c; rw [rmk_2, rmod_0]; exact hx rfl
  · exact bits_mod hL hb (by omega) (d.resolve_left c)
theorem OkP.met {L : Int} {β : Nat} {p q r : Int × Int} (hL : 0 < L) (hb : bits L ≤ β) (op : OkP L β p) (oq : OkP L β q) (h : rmt p q = some r) : OkP L β r := by
  obtain ⟨x, h1, h2, rfl⟩ := rmt_some h
  refine OkP.mkP hL hb (by omega) ?_ ?_
  · rcases op.d with z | z
    · left; rw [z]; simp
    · rcases oq.d with y | y
      · left; rw [y]; simp
      · right; exact lcm_dvd' z y
  · intro z
    have : p.1 = 0 ∨ q.1 = 0 := by
      have : Int.lcm p.1 q.1 = 0 := by omega
      rcases Int.lcm_eq_zero_iff.mp this with y | y
      · exact .inl y
      · exact .inr y
    rcases this with y | y
    · rw [y] at h1
      have := Int.zero_dvd.mp h1
      have : x = p.2 := by omega
      rw [this]; exact op.b
    · rw [y] at h2
      have := Int.zero_dvd.mp h2
      have : x = q.2 := by omega
      rw [this]; exact oq.b
theorem OkP.shift {L : Int} {β : Nat} {p : Int × Int} {g : Int} (hL : 0 < L) (hb : bits L ≤ β) (op : OkP L β p) (hg : bits g ≤ β) : OkP L (β + 1) (rmk p.1 (p.2 + g)) :=
  OkP.mkP hL (by omega) op.v.1 op.d fun _ => bits_le (intBits_add_le op.b hg) (by omega)
theorem hnd_ok {L : Int} {β n : Nat} {B : Mx} {R : Rs2} (hL : 0 < L) (hb : bits L ≤ β) (oB : OkB β n B) (oR : OkR L β n R) {i : Nat} (hi : i ≤ n) : ∀ {j : Nat} {p : Int × Int}, j ≤ n + 1 → hnd B (ful R) i j = some p → OkP L (β + 1) p
  | 0, p, _, h => by
    cases h
    exact (oR.ful hi).le (by omega)
  | j + 1, p, hj, h => by
    rw [hnd] at h
    split at h
    · cases h
    · rename_i p' hp'
      have ih := hnd_ok hL hb oB oR hi (by omega) hp'
      split at h
      · refine OkP.met hL (by omega) ih (OkP.shift hL hb (oR.ful (by omega)) ?_) h
        cases hq : B i j with
        | none => simp [bits_0]
        | some x => exact oB.b i j x hi (by omega) hq
      · cases h; exact ih
theorem hno_ok {L : Int} {β n : Nat} {B : Mx} {R R' : Rs2} (hL : 0 < L) (hb : bits L ≤ β) (oB : OkB β n B) (oR : OkR L β n R) (h : hno n B R = some R') : OkR L (β + 1) n R' := fun i hi => hnd_ok hL hb oB oR (by omega) (Nat.le_refl _) (hno_some h hi)
theorem apt_eq {F : Rs2} {i j : Nat} (hi : 0 ≤ (F i).1) (hj : 0 ≤ (F j).1) : apt F i j = rmk (Int.gcd (F i).1 (F j).1) ((F i).2 - (F j).2) := by
  unfold apt rpl rtm
  have e : (F j).1 * ((-1 : Int).natAbs : Int) = (F j).1 := by simp
  simp only [e, rmk_1, rmk_2]
  unfold rmk
  congr 1
  refine rmod_congr (by omega) ?_
  have h := dvd_rmod (F j).1 ((F j).2 * -1)
  have h2 := Int.dvd_neg.mpr (Int.dvd_trans (Int.gcd_dvd_right (F i).1 (F j).1) h)
  have e2 : -((F j).2 * -1 - rmod (F j).1 ((F j).2 * -1)) = (F i).2 + rmod (F j).1 ((F j).2 * -1) - ((F i).2 - (F j).2) := by omega
  rwa [e2] at h2
theorem rud_bits {L : Int} {β : Nat} {p : Int × Int} {x y : Int} (hL : 0 < L) (hb : bits L ≤ β) (hm : 0 ≤ p.1) (hd : p.1 = 0 ∨ p.1 ∣ L) (h2 : bits p.2 ≤ β + 1) (hx : bits x ≤ β) (h : rud p x = some y) : bits y ≤ β + 1 := by
  unfold rud at h
  split at h
  · rename_i c
    cases h
    refine bits_le (intBits_sub_le hx (n := β) ?_) (by omega)
    have z : p.1 ∣ L := hd.resolve_left (by omega)
    have := fmod_lt (x - p.2) c
    exact bits_abs_le hb (by
      have := Nat.le_of_dvd (by omega) (Int.natAbs_dvd_natAbs.mpr z)
      omega)
  · split at h
    · cases h
    · cases h; exact h2
theorem gcd_d {L a b : Int} (ha : a = 0 ∨ a ∣ L) (hb : b = 0 ∨ b ∣ L) : (Int.gcd a b : Int) = 0 ∨ (Int.gcd a b : Int) ∣ L := by
  rcases ha with z | z
  · rcases hb with y | y
    · left; rw [z, y]; rfl
    · right; exact Int.dvd_trans (Int.gcd_dvd_right a b) y
  · right; exact Int.dvd_trans (Int.gcd_dvd_left a b) z
theorem lwO_ok {L : Int} {β n : Nat} {B B' : Mx} {R : Rs2} (hL : 0 < L) (hb : bits L ≤ β) (oB : OkB β n B) (oR : OkR L β n R) (h : lwO n B R = some B') : OkB (β + 1) n B' := by
  refine ⟨fun i hi => ?_, fun i j x hi hj e => ?_⟩
  · have := lwO_some h hi hi
    unfold lwE at this
    rw [if_pos rfl, oB.d i hi] at this
    exact (Option.some.inj this).symm
  · have q := lwO_some h hi hj
    unfold lwE at q
    split at q
    · rw [← Option.some.inj q] at e; exact bits_le (oB.b i j x hi hj e) (by omega)
    · have oi := oR.ful hi
      have oj := oR.ful hj
      rw [apt_eq oi.v.1 oj.v.1] at q
      have b2 : bits (rmk (Int.gcd (ful R i).1 (ful R j).1) ((ful R i).2 - (ful R j).2)).2 ≤ β + 1 := (OkP.mkP (L := L) (β := β + 1) hL (by omega) (by omega) (gcd_d oi.d oj.d) fun _ => bits_le (intBits_sub_le oi.b oj.b) (by omega)).b
      cases hB : B i j with
      | none =>
        rw [hB] at q
        simp only [lw1] at q
        split at q
        · rw [← Option.some.inj q] at e; cases e; exact b2
        · rw [← Option.some.inj q] at e; cases e
      | some t =>
        rw [hB] at q
        simp only [lw1] at q
        cases hr : rud (rmk (Int.gcd (ful R i).1 (ful R j).1) ((ful R i).2 - (ful R j).2)) t with
        | none => rw [hr] at q; cases q
        | some y =>
          rw [hr] at q
          rw [← Option.some.inj q] at e
          cases e
          exact rud_bits hL hb (by simp only [rmk_1]; omega) (gcd_d oi.d oj.d) b2 (oB.b i j t hi hj hB) hr
theorem closedO_ok {β n : Nat} {B B' : Mx} (hn : n ≤ 14) (oB : OkB β n B) (h : closedO (n + 1) B = some B') : OkB (β + 4) n B' := by
  have hz : ∀ i, i < n + 1 → B i i = some 0 := fun i hi => oB.d i (by omega)
  obtain ⟨C, _, _⟩ := closedO_some hz h
  refine ⟨fun i hi => C.dg i (by omega), fun i j x hi hj e => ?_⟩
  have := closed_abs (c := 2 ^ β - 1) hz h (fun i j x hi hj e => by
    have := intBits_le_iff.mp (oB.b i j x (by omega) (by omega) e)
    omega) (show i < n + 1 by omega) (show j < n + 1 by omega) e
  rw [intBits_le_iff]
  have p : 0 < 2 ^ β := Nat.two_pow_pos β
  have q : (n + 1) * (2 ^ β - 1) ≤ 15 * (2 ^ β - 1) := Nat.mul_le_mul_right _ (by omega)
  have r : 2 ^ (β + 4) = 2 ^ β * 16 := by rw [Nat.pow_add]
  omega
theorem shO_ok {L : Int} {β n : Nat} {t t' : Td} (hn : n ≤ 14) (hL : 0 < L) (hb : bits L ≤ β) (o : Ok L β n t) (h : shO n t = some t') : Ok L (β + 11) n t' := by
  unfold shO at h
  split at h
  · cases h
  · rename_i B hB
    have o1 := closedO_ok hn o.b hB
    split at h
    · cases h
    · rename_i R hR
      have o2 := hno_ok hL (by omega) o1 (o.r.le (by omega)) hR
      split at h
      · cases h
      · rename_i B2 hB2
        have o3 := lwO_ok hL (by omega) (o1.le (γ := β + 4 + 1) (by omega)) o2 hB2
        split at h
        · cases h
        · rename_i B3 hB3
          have o4 := closedO_ok hn o3 hB3
          split at h
          · cases h
          · rename_i R2 hR2
            have o5 := hno_ok hL (by omega) o4 (o2.le (by omega)) hR2
            cases h
            exact ⟨o4.le (by omega), o5.le (by omega)⟩
/-! ### runs -/
variable {m : Nat}
theorem run_fixed (Φ : Fs) {o : Bool} {n : Nat} {B : Mx} {i j : Nat} (hi : i < n) (hj : j < n) : runDf Φ d_fixed [mxF false n n B, .int i, .int j] = some (.bl (fxd B i j), [none, none, none]) := by
  refine run_of rfl ?_
  have a1 := fun o M => mxF_atN (o := o) (n := n) (B := M) hi
  have a2 := fun o M => mxF_atN (o := o) (n := n) (B := M) hj
  have b1 := fun o r => rowF_atN (o := o) (r := r) hi
  have b2 := fun o r => rowF_atN (o := o) (r := r) hj
  unfold fxd
  cases h1 : B i j <;> cases h2 : B j i <;> simp [d_fixed, a1, a2, b1, b2, h1, h2]
theorem cons_rs {o : Bool} {n : Nat} {R : Rs2} : D.lst o (dP (0, 0) :: mk n fun j => dP (R j)) = rsF o (n + 1) (ful R) := by
  unfold rsF
  rw [mk_cons]
  congr 1
  refine mk_congr fun i hi => ?_
  cases i <;> simp
theorem run_handed_over {L : Int} {β n : Nat} {B : Mx} {R : Rs2} (hn : n ≤ 1000) (hL : 0 < L) (hb : bits L ≤ β) (hβ : β ≤ 8000) (oB : OkB β n B) (oR : OkR L β n R) : runDf (fnsN P (m + 2)) d_handed_over [mxF false (n + 1) (n + 1) B, rsF false n R] = some ((match hno n B R with | none => .non | some R' => rsF true n R'), [none, none]) := by
  refine run_of rfl ?_
  have hbig : big = 1000000 := rfl
  have e0 : binD .add (.lst true [dP (0, 0)]) (rsF false n R) = some (rsF true (n + 1) (ful R)) := by
    rw [← cons_rs]
    show (if (unL [dP (0, 0)] && unL (mk n fun j => dP (R j)) && decide ([dP (0, 0)].length + (mk n fun j => dP (R j)).length ≤ big)) = true then some (D.lst true ([dP (0, 0)] ++ mk n fun j => dP (R j))) else none) = _
    rw [if_pos]
    · rfl
    · simp; omega
  simp [d_handed_over, e0]
  refine ⟨by omega, ?_⟩
  obtain ⟨E, hE⟩ : ∃ E : Nat → Option D → Option D → Option D → Env, E = fun i x y z => [some (mxF false (n + 1) (n + 1) B), some (rsF false n R), some (rsF false (n + 1) (ful R)), some (rsF true i fun i => (hnd B (ful R) (i + 1) (n + 1)).getD (0, 0)), x, y, z] := ⟨_, rfl⟩
  refine for_mkI (fun i e => e = E i none none none ∧ ∀ i', i' < i → hnd B (ful R) (i' + 1) (n + 1) ≠ none) ⟨by rw [hE]; rfl, fun i' h => absurd h (Nat.not_lt_zero _)⟩ ?_ ?_
  · rintro i e hi ⟨rfl, hI⟩
    have a1 := rsF_atN (o := false) (R := ful R) (show i + 1 < n + 1 by omega)
    have c1 : (1 : Int) + (i : Int) = ((i + 1 : Nat) : Int) := by omega
    simp only [hE, c1]
    simp [a1, -Int.natCast_add]
    refine ⟨by omega, ?_⟩
    refine for_mk (S := fun j => E i (some (.int (i + 1 : Nat))) (some (dPo (hnd B (ful R) (i + 1) j))) none) (by rw [hE]; rfl) ?_ ?_
    · intro j hj
      have a2 := rsF_atN (o := false) (R := ful R) (show j < n + 1 by omega)
      have a3 := mxF_atN (o := false) (n := n + 1) (B := B) (show i + 1 < n + 1 by omega)
      have b3 := rowF_atN (o := false) (r := B (i + 1)) hj
      rw [hE, hnd]
      cases hp : hnd B (ful R) (i + 1) j with
      | none => simp
      | some p =>
        have op := hnd_ok hL hb oB oR (show i + 1 ≤ n by omega) (show j ≤ n + 1 by omega) hp
        have rf := fun Φ => run_fixed (o := false) Φ (B := B) (show i + 1 < n + 1 by omega) hj
        by_cases c : j = i + 1
        · simp [c]
        · have c' : ¬ ((j : Int) = (i : Int) + 1) := by omega
          cases hf : fxd B (i + 1) j with
          | false =>
            rw [hf] at rf
            simp only [Int.natCast_add, Int.natCast_one] at rf ⊢
            simp [c, c', rf]
          | true =>
            rw [hf] at rf
            have hs : ∃ g, B (i + 1) j = some g := by
              unfold fxd at hf
              cases h1 : B (i + 1) j with
              | none => rw [h1] at hf; cases hf
              | some g => exact ⟨g, rfl⟩
            obtain ⟨g, hg⟩ := hs
            have oj := oR.ful (show j ≤ n by omega)
            have bg := oB.b (i + 1) j g (by omega) (by omega) hg
            have oq := OkP.shift hL hb oj bg
            have r1 := fun m => run_rest_plus (n := m) (ful R j) (0, g)
            simp only [rpl_shift g oj.v.1] at r1
            have r2 := fun m => run_rest_met (n := m) p (rmk (ful R j).1 ((ful R j).2 + g)) op.v.1 oq.v.1 (op.m hL (by omega)) (Nat.le_trans op.b (by omega)) (oq.m hL (by omega)) (Nat.le_trans oq.b (by omega))
            simp only [Int.natCast_add, Int.natCast_one] at rf a3 ⊢
            simp [c, c', rf, a2, a3, b3, hg, r1, r2]
    · rw [hE]
      cases hp : hnd B (ful R) (i + 1) (n + 1) with
      | none => simp [hno_none hi hp]
      | some p =>
        have ap : appD (dP p) (rsF true i fun i => (hnd B (ful R) (i + 1) (n + 1)).getD (0, 0)) = some (rsF true (i + 1) fun i => (hnd B (ful R) (i + 1) (n + 1)).getD (0, 0)) := rsF_app (by omega) (by simp [hp])
        simp [ap]
        intro i' hi'
        by_cases c : i' = i
        · subst c; rw [hp]; simp
        · exact hI i' (by omega)
  · rintro e ⟨rfl, hI⟩
    rw [hE]
    obtain ⟨R2, h2, h3⟩ := hno_of (R' := fun i => (hnd B (ful R) (i + 1) (n + 1)).getD (0, 0)) (B := B) (R := R) (n := n) fun i hi => by
      cases hq : hnd B (ful R) (i + 1) (n + 1) with
      | none => exact absurd hq (hI i hi)
      | some p => rfl
    simp [h2]
    exact (rsF_congr h3).symm
theorem run_lowered {L : Int} {β n : Nat} {B : Mx} {R : Rs2} (hn : n ≤ 1000) (oR : OkR L β n R) : runDf (fnsN P (m + 2)) d_lowered [mxF false (n + 1) (n + 1) B, rsF false n R] = some (gxF true (n + 1) (lwO n B R), [none, none]) := by
  refine run_of rfl ?_
  have hbig : big = 1000000 := rfl
  have e0 : binD .add (.lst true [dP (0, 0)]) (rsF false n R) = some (rsF true (n + 1) (ful R)) := by
    rw [← cons_rs]
    show (if (unL [dP (0, 0)] && unL (mk n fun j => dP (R j)) && decide ([dP (0, 0)].length + (mk n fun j => dP (R j)).length ≤ big)) = true then some (D.lst true ([dP (0, 0)] ++ mk n fun j => dP (R j))) else none) = _
    rw [if_pos]
    · rfl
    · simp; omega
  simp [d_lowered, e0, sat_lc]
  refine lc_copy (by intro d; rfl) rfl ?_
  simp
  refine ⟨by omega, ?_⟩
  obtain ⟨g, hg⟩ : ∃ g : Mx, g = fun i j => (lwE B (ful R) i j).getD none := ⟨_, rfl⟩
  obtain ⟨E, hE⟩ : ∃ E : Mx → Option D → Option D → Env, E = fun M x y => [some (mxF false (n + 1) (n + 1) B), some (rsF false n R), some (rsF false (n + 1) (ful R)), some (mxF true (n + 1) (n + 1) M), x, y, none, none] := ⟨_, rfl⟩
  refine for_mkI (fun i e => e = E (updN B g i 0) none none ∧ ∀ i' j', i' < i → j' < n + 1 → lwE B (ful R) i' j' ≠ none) ⟨by rw [hE]; simp, fun i' _ h => absurd h (Nat.not_lt_zero _)⟩ ?_ ?_
  · rintro i e hi ⟨rfl, hI⟩
    simp [hE]
    refine ⟨by omega, ?_⟩
    refine for_mkI (fun j e => e = E (updN B g i j) (some (.int i)) none ∧ ∀ j', j' < j → lwE B (ful R) i j' ≠ none) ⟨by rw [hE], fun j' h => absurd h (Nat.not_lt_zero _)⟩ ?_ ?_
    · rintro j e hj ⟨rfl, hJ⟩
      have a1 := rsF_atN (o := false) (R := ful R) hi
      have a2 := rsF_atN (o := false) (R := ful R) hj
      have a3 := fun o M => mxF_atN (o := o) (n := n + 1) (B := M) hi
      have b3 := fun o r => rowF_atN (o := o) (r := r) hj
      have oi := oR.ful (show i ≤ n by omega)
      have oj := oR.ful (show j ≤ n by omega)
      have r1 := fun m => run_rest_times (n := m) (ful R j) (-1) oj.v.1 (mulOk_r (by decide)) (mulOk_r (by decide))
      have r2 := fun m => run_rest_plus (n := m) (ful R i) (rtm (ful R j) (-1))
      have r3 := fun Φ x => run_rest_under Φ (apt (ful R) i j) x
      have p1 := fun M x => mxF_putN (B := M) (x := x) hi hj
      have p2 := fun M x => mxF_putI (B := M) (x := x) hi hj
      have more : lwE B (ful R) i j ≠ none → ∀ j', j' < j + 1 → lwE B (ful R) i j' ≠ none := fun q j' hj' => by
        by_cases c : j' = j
        · subst c; exact q
        · exact hJ j' (by omega)
      have hap : rpl (ful R i) (rtm (ful R j) (-1)) = apt (ful R) i j := rfl
      by_cases c : i = j
      · have e1 : lwE B (ful R) i j = some (B i j) := by unfold lwE; rw [if_pos c]
        have kp : updN B g i j = updN B g i (j + 1) := updN_keep (by rw [hg]; simp [e1])
        subst c
        simp [hE, a1, a2, r1, r2, hap]
        exact ⟨by rw [← kp], more (by rw [e1]; simp)⟩
      · have c' : ¬ ((i : Int) = (j : Int)) := by omega
        have e1 : lwE B (ful R) i j = lw1 (apt (ful R) i j) (B i j) := by unfold lwE; rw [if_neg c]
        cases hB : B i j with
        | some x =>
          cases hr : rud (apt (ful R) i j) x with
          | none =>
            have e2 : lwE B (ful R) i j = none := by rw [e1, hB]; simp [lw1, hr]
            simp [hE, a1, a2, a3, b3, r1, r2, r3, c', hap, hB, hr, p1, p2, mxF_put0 hi hj, lwO_none (show i ≤ n by omega) (show j ≤ n by omega) e2]
          | some y =>
            have e2 : lwE B (ful R) i j = some (some y) := by rw [e1, hB]; simp [lw1, hr]
            have kp : up2 (updN B g i j) i j (some y) = updN B g i (j + 1) := updN_put (by rw [hg]; simp [e2])
            have kv : updN B g i (j + 1) i j = some y := by rw [← kp]; simp
            simp [hE, a1, a2, a3, b3, r1, r2, r3, c', hap, hB, hr, p1, p2, kp, kv]
            exact more (by rw [e2]; simp)
        | none =>
          by_cases h0 : (apt (ful R) i j).1 = 0
          · have e2 : lwE B (ful R) i j = some (some (apt (ful R) i j).2) := by rw [e1, hB]; simp [lw1, h0]
            have kp : up2 (updN B g i j) i j (some (apt (ful R) i j).2) = updN B g i (j + 1) := updN_put (by rw [hg]; simp [e2])
            simp [hE, a1, a2, a3, b3, r1, r2, r3, c', hap, hB, h0, p1, p2, kp]
            exact more (by rw [e2]; simp)
          · have e2 : lwE B (ful R) i j = some none := by rw [e1, hB]; simp [lw1, h0]
            have kp : updN B g i j = updN B g i (j + 1) := updN_keep (by rw [hg]; simp [e2, hB])
            simp [hE, a1, a2, a3, b3, r1, r2, r3, c', hap, hB, h0, p1, p2]
            exact ⟨by rw [kp], more (by rw [e2]; simp)⟩
    · rintro e ⟨rfl, hJ⟩
      simp [hE]
      refine ⟨updN_row, fun i' j' h1 h2 => ?_⟩
      by_cases c : i' = i
      · subst c; exact hJ j' h2
      · exact hI i' j' (by omega) h2
  · rintro e ⟨rfl, hI⟩
    have e1 := lwO_of (B := B) (R := R) (n := n) fun i j hi hj => hI i j (by omega) (by omega)
    simp [hE, e1]
    rw [updN_end, hg]
end Sr
set_option Elab.async false
set_option linter.all false
set_option maxRecDepth 100000
set_option maxHeartbeats 4000000
/-! # Sr: boxes that lie in what is told, as mathematics -/
namespace Sr
open PySem PySem.Spec PyProof.Rows L2
/-- nought and the boxes -/
def fl (b : Nat → Int) (i : Nat) : Int := if i = 0 then 0 else b (i - 1)
@[simp] theorem fl_0 {b : Nat → Int} : fl b 0 = 0 := rfl
@[simp] theorem fl_1 {b : Nat → Int} {i : Nat} : fl b (i + 1) = b i := by simp [fl]
structure LiB (n : Nat) (B : Mx) (b : Nat → Int) : Prop where
  b : ∀ i j x, i ≤ n → j ≤ n → B i j = some x → fl b i - fl b j ≤ x
def LiR (n : Nat) (R : Rs2) (b : Nat → Int) : Prop := ∀ k, k < n → (R k).1 ∣ b k - (R k).2
structure Lies (n : Nat) (t : Td) (bx : Nat → Int) : Prop where
  b : LiB n t.1 bx
  r : LiR n t.2 bx
/-- a rest inside another -/
def RI (p q : Int × Int) : Prop := q.1 ∣ p.2 - q.2 ∧ q.1 ∣ p.1
theorem RI.refl (p : Int × Int) : RI p p := ⟨by simp, Int.dvd_refl _⟩
theorem RI.trans {p q r : Int × Int} (h : RI p q) (g : RI q r) : RI p r := ⟨by
  have := Int.dvd_add (Int.dvd_trans g.2 h.1) g.1
  have e : p.2 - q.2 + (q.2 - r.2) = p.2 - r.2 := by omega
  rwa [e] at this, Int.dvd_trans g.2 h.2⟩
theorem RI.has {p q : Int × Int} {x : Int} (h : RI p q) (g : p.1 ∣ x - p.2) : q.1 ∣ x - q.2 := by
  have := Int.dvd_add (Int.dvd_trans h.2 g) h.1
  have e : x - p.2 + (p.2 - q.2) = x - q.2 := by omega
  rwa [e] at this
theorem RI.of_has {p q : Int × Int} (h : ∀ x, p.1 ∣ x - p.2 → q.1 ∣ x - q.2) : RI p q := by
  have h1 := h p.2 (by simp)
  refine ⟨h1, ?_⟩
  have h2 := h (p.2 + p.1) (by
    have : p.2 + p.1 - p.2 = p.1 := by omega
    rw [this]; exact Int.dvd_refl _)
  have := Int.dvd_sub h2 h1
  have e : p.2 + p.1 - q.2 - (p.2 - q.2) = p.1 := by omega
  rwa [e] at this
/-- rests of the same numbers are the same -/
theorem RV.ext {p q : Int × Int} (hp : RV p) (hq : RV q) (h : RI p q) (g : RI q p) : p = q := by
  have e1 : p.1 = q.1 := Int.dvd_antisymm hp.1 hq.1 g.2 h.2
  obtain ⟨a, r⟩ := p
  obtain ⟨b, s⟩ := q
  simp only at e1
  subst e1
  have h1 : a ∣ r - s := h.1
  rcases hp.2 with z | z
  · simp only at z
    subst z
    have := Int.zero_dvd.mp h1
    congr 1; omega
  · rcases hq.2 with y | y
    · simp only at y; subst y
      have := Int.zero_dvd.mp h1
      congr 1; omega
    · simp only at z y
      have e := fmod_congr (by omega) h1
      rw [Int.fmod_eq_of_lt z.1 z.2, Int.fmod_eq_of_lt y.1 y.2] at e
      rw [e]
theorem RI.mk {m r : Int} : RI (rmk m r) (m, r) := ⟨by
  have := Int.dvd_neg.mpr (dvd_rmod m r)
  have e : -(r - rmod m r) = rmod m r - r := by omega
  rwa [e] at this, Int.dvd_refl _⟩
theorem RI.mk' {m r : Int} : RI (m, r) (rmk m r) := ⟨dvd_rmod m r, Int.dvd_refl _⟩
theorem RI.met_l {p q r : Int × Int} (h : rmt p q = some r) : RI r p := by
  obtain ⟨x, h1, h2, rfl⟩ := rmt_some h
  refine RI.mk.trans ⟨h1, ?_⟩
  exact Int.dvd_lcm_left ..
theorem RI.met_r {p q r : Int × Int} (h : rmt p q = some r) : RI r q := by
  obtain ⟨x, h1, h2, rfl⟩ := rmt_some h
  refine RI.mk.trans ⟨h2, ?_⟩
  exact Int.dvd_lcm_right ..
theorem RI.met {p q r s : Int × Int} (h : rmt p q = some r) (h1 : RI s p) (h2 : RI s q) : RI s r := RI.of_has fun x hx => by
  obtain ⟨r', hr', g⟩ := rmt_has (h1.has hx) (h2.has hx)
  rw [h] at hr'
  cases hr'
  exact g
theorem has_mk {m r x : Int} : (rmk m r).1 ∣ x - (rmk m r).2 ↔ m ∣ x - r := ⟨fun h => RI.has (q := (m, r)) RI.mk h, fun h => RI.has (p := (m, r)) RI.mk' h⟩
/-! closing -/
theorem wt_lies {B : Mx} {n : Nat} {f : Nat → Int} (h : ∀ i j x, i < n → j < n → B i j = some x → f i - f j ≤ x) {p : Nat → Nat} : ∀ {L : Nat} {w : Int}, (∀ t, t ≤ L → p t < n) → wt B p L = some w → f (p 0) - f (p L) ≤ w
  | 0, w, _, e => by cases e; omega
  | L + 1, w, hp, e => by
    obtain ⟨x, y, h1, h2, rfl⟩ := oAdd_some e
    have a := wt_lies h (fun t ht => hp t (by omega)) h1
    have b := h _ _ _ (hp L (by omega)) (hp (L + 1) (by omega)) h2
    omega
theorem sums_lies {B M : Mx} {n : Nat} {f : Nat → Int} (h : ∀ i j x, i < n → j < n → B i j = some x → f i - f j ≤ x) (s : Sums B n M) {i j : Nat} {x : Int} (hi : i < n) (hj : j < n) (e : M i j = some x) : f i - f j ≤ x := by
  obtain ⟨L, p, rfl, rfl, pn, pw⟩ := s i j x hi hj e
  exact wt_lies h pn pw
theorem closedO_lies {n : Nat} {B : Mx} {b : Nat → Int} (l : LiB n B b) : ∃ M, closedO (n + 1) B = some M ∧ LiB n M b := by
  have h : ∀ i j x, i < n + 1 → j < n + 1 → B i j = some x → fl b i - fl b j ≤ x := fun i j x hi hj e => l.b i j x (by omega) (by omega) e
  have s : Sums B (n + 1) (fw (n + 1) B) := fwS_sums (Nat.le_refl _)
  have nn : NN (n + 1) (fw (n + 1) B) := fun i t hi ht => by
    have := sums_lies h s hi hi ht
    omega
  unfold closedO
  rw [if_neg (by rw [negD_iff.mpr nn]; simp)]
  exact ⟨_, rfl, ⟨fun i j x hi hj e => sums_lies h s (by omega) (by omega) e⟩⟩
/-- bounds inside others -/
def BI (n : Nat) (B C : Mx) : Prop := ∀ i j, i ≤ n → j ≤ n → U (B i j) (C i j)
theorem BI.refl (n : Nat) (B : Mx) : BI n B B := fun _ _ _ _ => U.refl _
theorem BI.trans {n : Nat} {B C E : Mx} (h : BI n B C) (g : BI n C E) : BI n B E := fun i j hi hj => (h i j hi hj).trans (g i j hi hj)
theorem closedO_in {n : Nat} {B M : Mx} (hz : ∀ i, i ≤ n → B i i = some 0) (h : closedO (n + 1) B = some M) : BI n M B := fun i j hi hj => (closedO_some (fun i hi => hz i (by omega)) h).1.le i j (by omega) (by omega)
theorem fxd_iff {B : Mx} {i j : Nat} : fxd B i j = true ↔ ∃ g, B i j = some g ∧ B j i = some (-g) := by
  unfold fxd
  cases h1 : B i j with
  | none => simp
  | some x =>
    cases h2 : B j i with
    | none => simp
    | some y =>
      simp
      omega
/-- boxes at a fixed gap -/
theorem LiB.fxd {n : Nat} {B : Mx} {b : Nat → Int} (l : LiB n B b) {i j : Nat} (hi : i ≤ n) (hj : j ≤ n) {g : Int} (h1 : B i j = some g) (h2 : B j i = some (-g)) : fl b i - fl b j = g := by
  have a := l.b i j g hi hj h1
  have b := l.b j i (-g) hj hi h2
  omega
theorem LiR.ful {n : Nat} {R : Rs2} {b : Nat → Int} (l : LiR n R b) {i : Nat} (h : i ≤ n) : (ful R i).1 ∣ fl b i - (ful R i).2 := by
  cases i with
  | zero => simp
  | succ i => rw [ful_1, fl_1]; exact l i (by omega)
/-- the rest of a box at a gap -/
def shf (p : Int × Int) (g : Int) : Int × Int := rmk p.1 (p.2 + g)
theorem hnd_lies {n : Nat} {B : Mx} {R : Rs2} {b : Nat → Int} (lB : LiB n B b) (lR : LiR n R b) {i : Nat} (hi : i ≤ n) : ∀ {j : Nat}, j ≤ n + 1 → ∃ p, hnd B (ful R) i j = some p ∧ p.1 ∣ fl b i - p.2
  | 0, _ => ⟨_, rfl, lR.ful hi⟩
  | j + 1, hj => by
    obtain ⟨p, hp, h⟩ := hnd_lies lB lR hi (j := j) (by omega)
    rw [hnd, hp]
    simp only
    split
    · rename_i c
      obtain ⟨g, h1, h2⟩ := fxd_iff.mp c.2
      have e := lB.fxd hi (show j ≤ n by omega) h1 h2
      have q := lR.ful (show j ≤ n by omega)
      exact rmt_has h (has_mk.mpr (by
        rw [h1]
        have : fl b i - ((ful R j).2 + (some g).getD 0) = fl b j - (ful R j).2 := by
          show fl b i - ((ful R j).2 + g) = _
          omega
        rw [this]; exact q))
    · exact ⟨p, rfl, h⟩
theorem hno_lies {n : Nat} {B : Mx} {R : Rs2} {b : Nat → Int} (lB : LiB n B b) (lR : LiR n R b) : ∃ R', hno n B R = some R' ∧ LiR n R' b := by
  obtain ⟨R2, h2, h3⟩ := hno_of (R' := fun i => (hnd B (ful R) (i + 1) (n + 1)).getD (0, 0)) (B := B) (R := R) (n := n) fun i hi => by
    obtain ⟨p, hp, _⟩ := hnd_lies lB lR (show i + 1 ≤ n by omega) (Nat.le_refl (n + 1))
    rw [hp]; rfl
  refine ⟨R2, h2, fun k hk => ?_⟩
  obtain ⟨p, hp, h⟩ := hnd_lies lB lR (show k + 1 ≤ n by omega) (Nat.le_refl (n + 1))
  rw [h3 k hk, hp]
  rw [fl_1] at h
  exact h
theorem hnd_in {B : Mx} {F : Rs2} {i : Nat} : ∀ {j : Nat} {p : Int × Int}, hnd B F i j = some p → RI p (F i)
  | 0, p, h => by cases h; exact RI.refl _
  | j + 1, p, h => by
    rw [hnd] at h
    split at h
    · cases h
    · rename_i p' hp'
      have ih := hnd_in hp'
      split at h
      · exact (RI.met_l h).trans ih
      · cases h; exact ih
def RIn (n : Nat) (R S : Rs2) : Prop := ∀ k, k < n → RI (R k) (S k)
theorem RIn.refl (n : Nat) (R : Rs2) : RIn n R R := fun _ _ => RI.refl _
theorem RIn.trans {n : Nat} {R S T : Rs2} (h : RIn n R S) (g : RIn n S T) : RIn n R T := fun k hk => (h k hk).trans (g k hk)
theorem hno_in {n : Nat} {B : Mx} {R R' : Rs2} (h : hno n B R = some R') : RIn n R' R := fun k hk => by
  have := hnd_in (hno_some h hk)
  rwa [ful_1] at this
/-! lowering -/
theorem rud_lies {p : Int × Int} {x d : Int} (hp : 0 ≤ p.1) (h : p.1 ∣ d - p.2) (l : d ≤ x) : ∃ y, rud p x = some y ∧ d ≤ y := by
  unfold rud
  split
  · rename_i c
    refine ⟨_, rfl, ?_⟩
    have e : (x - p.2).fmod p.1 = (x - d).fmod p.1 := fmod_congr c (by
      have e2 : x - p.2 - (x - d) = d - p.2 := by omega
      rw [e2]; exact h)
    rw [e]
    obtain ⟨k, hk⟩ : ∃ k : Nat, x - d = k := ⟨(x - d).toNat, by omega⟩
    obtain ⟨M, hM⟩ : ∃ M : Nat, p.1 = M := ⟨p.1.toNat, by omega⟩
    have : ((x - d).fmod p.1) = ((k % M : Nat) : Int) := by rw [hk, hM, fmod_nat]
    have := Nat.mod_le k M
    omega
  · have z : p.1 = 0 := by omega
    rw [z] at h
    have := Int.zero_dvd.mp h
    rw [if_neg (by omega)]
    exact ⟨_, rfl, by omega⟩
theorem apt_has {n : Nat} {R : Rs2} {b : Nat → Int} (lR : LiR n R b) (hv : ∀ i, i < n → RV (R i)) {i j : Nat} (hi : i ≤ n) (hj : j ≤ n) : (apt (ful R) i j).1 ∣ fl b i - fl b j - (apt (ful R) i j).2 := by
  have v : ∀ i, i ≤ n → 0 ≤ (ful R i).1 := fun i hi => by
    cases i with
    | zero => simp
    | succ i => rw [ful_1]; exact (hv i (by omega)).1
  rw [apt_eq (v i hi) (v j hj), has_mk]
  have a := Int.dvd_trans (Int.gcd_dvd_left (ful R i).1 (ful R j).1) (lR.ful hi)
  have a2 := Int.dvd_trans (Int.gcd_dvd_right (ful R i).1 (ful R j).1) (lR.ful hj)
  have := Int.dvd_sub a a2
  have e : fl b i - (ful R i).2 - (fl b j - (ful R j).2) = fl b i - fl b j - ((ful R i).2 - (ful R j).2) := by omega
  rwa [e] at this
theorem lwE_lies {n : Nat} {B : Mx} {R : Rs2} {b : Nat → Int} (lB : LiB n B b) (lR : LiR n R b) (hv : ∀ i, i < n → RV (R i)) {i j : Nat} (hi : i ≤ n) (hj : j ≤ n) : ∃ o, lwE B (ful R) i j = some o ∧ ∀ x, o = some x → fl b i - fl b j ≤ x := by
  unfold lwE
  split
  · exact ⟨_, rfl, fun x e => lB.b i j x hi hj e⟩
  · have ha := apt_has lR hv hi hj
    have hp : 0 ≤ (apt (ful R) i j).1 := by
      show (0 : Int) ≤ ((Int.gcd _ _ : Nat) : Int)
      omega
    cases hB : B i j with
    | some x =>
      obtain ⟨y, hy, l⟩ := rud_lies hp ha (lB.b i j x hi hj hB)
      refine ⟨some y, by simp [lw1, hy], fun x' e => by cases e; exact l⟩
    | none =>
      by_cases c : (apt (ful R) i j).1 = 0
      · refine ⟨_, by simp only [lw1]; rw [if_pos c], fun x e => ?_⟩
        cases e
        rw [c] at ha
        have := Int.zero_dvd.mp ha
        omega
      · refine ⟨_, by simp only [lw1]; rw [if_neg c], fun x e => by cases e⟩
theorem lwO_lies {n : Nat} {B : Mx} {R : Rs2} {b : Nat → Int} (lB : LiB n B b) (lR : LiR n R b) (hv : ∀ i, i < n → RV (R i)) : ∃ M, lwO n B R = some M ∧ LiB n M b := by
  refine ⟨_, lwO_of fun i j hi hj z => ?_, ⟨fun i j x hi hj e => ?_⟩⟩
  · obtain ⟨o, ho, _⟩ := lwE_lies lB lR hv hi hj
    rw [ho] at z; cases z
  · obtain ⟨o, ho, l⟩ := lwE_lies lB lR hv hi hj
    simp only [ho] at e
    exact l x e
theorem rud_le {p : Int × Int} {x y : Int} (h : rud p x = some y) : y ≤ x := by
  unfold rud at h
  split at h
  · rename_i c
    cases h
    have := fmod_lt (x - p.2) c
    omega
  · split at h
    · cases h
    · cases h; omega
theorem lwO_in {n : Nat} {B M : Mx} {R : Rs2} (h : lwO n B R = some M) : BI n M B := fun i j hi hj x hx => by
  have q := lwO_some h hi hj
  unfold lwE at q
  split at q
  · exact ⟨x, by rw [← Option.some.inj q]; exact hx, Int.le_refl x⟩
  · rw [hx] at q
    simp only [lw1] at q
    cases hr : rud (apt (ful R) i j) x with
    | none => rw [hr] at q; cases q
    | some y =>
      rw [hr] at q
      exact ⟨y, (Option.some.inj q).symm, rud_le hr⟩
/-! sharpening -/
structure TI (n : Nat) (t u : Td) : Prop where
  b : BI n t.1 u.1
  r : RIn n t.2 u.2
theorem TI.refl (n : Nat) (t : Td) : TI n t t := ⟨BI.refl _ _, RIn.refl _ _⟩
theorem TI.trans {n : Nat} {t u v : Td} (h : TI n t u) (g : TI n u v) : TI n t v := ⟨h.b.trans g.b, h.r.trans g.r⟩
/-- told things well made -/
structure TV (n : Nat) (t : Td) : Prop where
  d : ∀ i, i ≤ n → t.1 i i = some 0
  v : ∀ i, i < n → RV (t.2 i)
theorem Ok.tv {L : Int} {β n : Nat} {t : Td} (o : Ok L β n t) : TV n t := ⟨o.b.d, fun i hi => (o.r i hi).v⟩
theorem hnd_v {B : Mx} {F : Rs2} {i : Nat} (h0 : RV (F i)) : ∀ {j : Nat} {p : Int × Int}, hnd B F i j = some p → RV p
  | 0, p, h => by cases h; exact h0
  | j + 1, p, h => by
    rw [hnd] at h
    split at h
    · cases h
    · rename_i p' hp'
      split at h
      · obtain ⟨x, _, _, rfl⟩ := rmt_some h
        exact RV.mk (by omega)
      · cases h; exact hnd_v h0 hp'
theorem hno_v {n : Nat} {B : Mx} {R R' : Rs2} (hv : ∀ i, i < n → RV (R i)) (h : hno n B R = some R') : ∀ i, i < n → RV (R' i) := fun i hi => hnd_v (by rw [ful_1]; exact hv i hi) (hno_some h hi)
theorem lwO_d {n : Nat} {B M : Mx} {R : Rs2} (hd : ∀ i, i ≤ n → B i i = some 0) (h : lwO n B R = some M) : ∀ i, i ≤ n → M i i = some 0 := fun i hi => by
  have := lwO_some h hi hi
  unfold lwE at this
  rw [if_pos rfl, hd i hi] at this
  exact (Option.some.inj this).symm
/-- the steps of sharpening -/
theorem shO_some {n : Nat} {t t' : Td} (h : shO n t = some t') : ∃ B R B2, closedO (n + 1) t.1 = some B ∧ hno n B t.2 = some R ∧ lwO n B R = some B2 ∧ closedO (n + 1) B2 = some t'.1 ∧ hno n t'.1 R = some t'.2 := by
  unfold shO at h
  split at h
  · cases h
  · rename_i B hB
    split at h
    · cases h
    · rename_i R hR
      split at h
      · cases h
      · rename_i B2 hB2
        split at h
        · cases h
        · rename_i B3 hB3
          split at h
          · cases h
          · rename_i R2 hR2
            cases h
            exact ⟨B, R, B2, hB, hR, hB2, hB3, hR2⟩
theorem shO_of {n : Nat} {t : Td} {B : Mx} {R : Rs2} {B2 B3 : Mx} {R2 : Rs2} (h1 : closedO (n + 1) t.1 = some B) (h2 : hno n B t.2 = some R) (h3 : lwO n B R = some B2) (h4 : closedO (n + 1) B2 = some B3) (h5 : hno n B3 R = some R2) : shO n t = some (B3, R2) := by
  unfold shO
  simp only [h1, h2, h3, h4, h5]
theorem closedO_d {n : Nat} {B M : Mx} (hz : ∀ i, i ≤ n → B i i = some 0) (h : closedO (n + 1) B = some M) : ∀ i, i ≤ n → M i i = some 0 := fun i hi => (closedO_some (fun i hi => hz i (by omega)) h).1.dg i (by omega)
theorem shO_tv {n : Nat} {t t' : Td} (v : TV n t) (h : shO n t = some t') : TV n t' ∧ TI n t' t := by
  obtain ⟨B, R, B2, h1, h2, h3, h4, h5⟩ := shO_some h
  have d1 := closedO_d v.d h1
  have v2 := hno_v v.v h2
  have d3 := lwO_d d1 h3
  have d4 := closedO_d d3 h4
  exact ⟨⟨d4, hno_v v2 h5⟩, ⟨((closedO_in d3 h4).trans (lwO_in h3)).trans (closedO_in v.d h1), (hno_in h5).trans (hno_in h2)⟩⟩
theorem shO_lies {n : Nat} {t : Td} {b : Nat → Int} (v : TV n t) (l : Lies n t b) : ∃ t', shO n t = some t' ∧ Lies n t' b := by
  obtain ⟨B, h1, l1⟩ := closedO_lies l.b
  obtain ⟨R, h2, l2⟩ := hno_lies l1 l.r
  obtain ⟨B2, h3, l3⟩ := lwO_lies l1 l2 (hno_v v.v h2)
  obtain ⟨B3, h4, l4⟩ := closedO_lies l3
  obtain ⟨R2, h5, l5⟩ := hno_lies l4 l2
  exact ⟨_, shO_of h1 h2 h3 h4 h5, ⟨l4, l5⟩⟩
theorem TI.lies {n : Nat} {t u : Td} {b : Nat → Int} (h : TI n t u) (l : Lies n t b) : Lies n u b := ⟨⟨fun i j x hi hj e => by
  obtain ⟨y, hy, le⟩ := h.b i j hi hj x e
  have := l.b.b i j y hi hj hy
  omega⟩, fun k hk => (h.r k hk).has (l.r k hk)⟩
theorem shO_iff {n : Nat} {t t' : Td} {b : Nat → Int} (v : TV n t) (h : shO n t = some t') : Lies n t' b ↔ Lies n t b := ⟨fun l => (shO_tv v h).2.lies l, fun l => by
  obtain ⟨u, hu, lu⟩ := shO_lies v l
  rw [h] at hu; cases hu; exact lu⟩
end Sr
set_option Elab.async false
set_option linter.all false
set_option maxRecDepth 100000
set_option maxHeartbeats 4000000
/-! # Sr: the law's own sharpening, run -/
namespace Sr
open PySem PySem.Spec PyProof.Rows L2
variable {m : Nat}
theorem run_lgcd (Φ : Fs) (a b : Int) : runDf Φ d__law_gcd [.int a, .int b] = some (.int (Int.gcd a b), [none, none]) := by
  refine run_of rfl ?_
  simp [d__law_gcd, abs_eq]
  refine sat_whl (fun m e => ∃ l : Nat, e = [some (.int l), some (.int m), none] ∧ Nat.gcd l m = Int.gcd a b) (m := b.natAbs) ⟨a.natAbs, rfl, rfl⟩ ?_
  rintro m e ⟨l, rfl, h⟩
  by_cases hr : m = 0
  · subst hr
    simp at h
    simp [eqv_int, h]
  · have hr' : ¬ ((m : Int) = 0) := by omega
    simp [eqv_int, hr', fmod_nat, hr]
    refine ⟨l % m, Nat.mod_lt _ (by omega), m, ⟨rfl, rfl⟩, ?_⟩
    rw [Nat.gcd_comm, ← Nat.gcd_rec, Nat.gcd_comm]; exact h
theorem run_lrest_of (Φ : Fs) (a r : Int) : runDf Φ d__law_rest_of [.int a, .int r] = some (dP (rmk a r), [none, none]) := by
  refine run_of rfl ?_
  by_cases h0 : a = 0
  · subst h0; simp [d__law_rest_of, rmk, rmod]
  · simp [d__law_rest_of, rmk, rmod, h0]
theorem lcm_fdiv0 {a b g : Int} (ha : 0 ≤ a) (hb : 0 ≤ b) (hg : g = (Int.gcd a b : Int)) (g0 : g ≠ 0) : a.fdiv g * b = (Int.lcm a b : Int) := by
  by_cases h1 : a = 0
  · subst h1; simp
  by_cases h2 : b = 0
  · subst h2; simp
  rw [hg]
  exact lcm_fdiv (by omega) (by omega)
theorem run_lmet (p q : Int × Int) (hm : 0 ≤ p.1) (hm' : 0 ≤ q.1) (bm : bits p.1 ≤ 8000) (br : bits p.2 ≤ 9000) (bm' : bits q.1 ≤ 8000) (br' : bits q.2 ≤ 9000) :
    runDf (fnsN P (m + 1)) d__law_met_b438 [dP p, dP q] = some (dPo (rmt p q), [none, none]) := by
  obtain ⟨a, r⟩ := p
  obtain ⟨b, s⟩ := q
  simp only at hm hm' bm br bm' br'
  obtain ⟨A, hA⟩ : ∃ A : Nat, a = A := ⟨a.toNat, by omega⟩
  obtain ⟨M, hM⟩ : ∃ M : Nat, b = M := ⟨b.toNat, by omega⟩
  refine run_of rfl ?_
  simp [d__law_met_b438]
  refine sat_whl (fun k e => ∃ (g : Nat) (h f : Int), e = [some (dP (a, r)), some (dP (b, s)), some (.int g), some (.int k), some (.int h), some (.int f), none, none, none] ∧ Nat.gcd g k = Nat.gcd A M ∧ b ∣ g - h * a ∧ b ∣ k - f * a ∧ g * f.natAbs + k * h.natAbs = M ∧ h * f ≤ 0 ∧ k ≤ M ∧ g ≤ max A M ∧ h.natAbs ≤ M + 1 ∧ f.natAbs ≤ M + 1 ∧ (g = 0 → f = 0)) (m := M) ⟨A, 1, 0, by rw [hA, hM], rfl, ?_, ?_, ?_, by decide, Nat.le_refl _, Nat.le_max_left .., by simp, by simp, fun _ => rfl⟩ ?_
  · rw [hA]; simp
  · rw [hM]; simp
  · simp
  rintro k e ⟨g, h, f, rfl, hgc, h1, h2, h3, h4, h5, h6, h7, h8, h9⟩
  have bM1 : bits ((M + 1 : Nat) : Int) ≤ 8001 := by
    rw [intBits_le_iff] at bm' ⊢
    have : (2 : Nat) ^ 8001 = 2 * 2 ^ 8000 := by rw [Nat.pow_succ, Nat.mul_comm]
    rw [this]
    generalize (2 : Nat) ^ 8000 = X at *
    omega
  have bh : bits h ≤ 8001 := bits_abs_le bM1 (by omega)
  have bf : bits f ≤ 8001 := bits_abs_le bM1 (by omega)
  by_cases hk : k = 0
  · subst hk
    have hg : g = Nat.gcd A M := by simpa using hgc
    have eg : ((g : Nat) : Int) = (Int.gcd a b : Int) := by rw [hg, hA, hM]; rfl
    by_cases g0 : g = 0
    · have hz := Nat.gcd_eq_zero_iff.mp (by rw [← hg]; exact g0)
      have a0 : a = 0 := by omega
      have b0 : b = 0 := by omega
      subst a0; subst b0
      by_cases c : s - r = 0
      · have e : rmt (0, r) (0, s) = some (0, r) := by
          rw [rmt_of (x := r) (by simp) (by simp; omega)]
          simp [rmk, rmod]
        simp [g0, c, e]
      · have e : rmt (0, r) (0, s) = none := rmt_none fun x q1 q2 => c (by
          have := Int.zero_dvd.mp q1
          have := Int.zero_dvd.mp q2
          simp at *
          omega)
        simp [g0, c, e]
    · have g0' : ¬ ((g : Int) = 0) := by omega
      by_cases c : (g : Int) ∣ s - r
      · obtain ⟨t, ht⟩ := c
        have c' : (s - r).fmod g = 0 := fmod0.mpr ⟨t, ht⟩
        have gp : (0 : Int) < g := by omega
        have d1 : (s - r).fdiv g = t := by rw [ht, Int.fdiv_eq_ediv_of_nonneg _ (by omega), Int.mul_ediv_cancel_left _ g0']
        have lc := lcm_fdiv0 hm hm' eg g0'
        have bt : bits t ≤ 9001 := by
          refine intBits_le_of_natAbs (y := s - r) ?_ (intBits_sub_le br' br)
          rw [ht, Int.natAbs_mul]; exact Nat.le_mul_of_pos_left _ (by omega)
        have gda : (g : Int) ∣ a := by rw [eg]; exact Int.gcd_dvd_left ..
        have bq : bits (a.fdiv g) ≤ 8000 := by
          obtain ⟨u, hu⟩ := gda
          have : a.fdiv g = u := by rw [hu, Int.fdiv_eq_ediv_of_nonneg _ (by omega), Int.mul_ediv_cancel_left _ g0']
          rw [this]
          refine intBits_le_of_natAbs (y := a) ?_ bm
          rw [hu, Int.natAbs_mul]; exact Nat.le_mul_of_pos_left _ (by omega)
        have bg : bits (g : Int) ≤ 8000 := by
          by_cases z : b = 0
          · have e1 : (g : Int) = a := by rw [eg, z, gcd_0r hm]
            rw [e1]; exact bm
          · rw [eg]; exact bits_gcd bm' z
        have m1 : mulOk (a.fdiv g) b := IntMulOk.of_le bq bm' (by decide)
        have m2 : mulOk a h := IntMulOk.of_le bm bh (by decide)
        have m3 : mulOk (a * h) t := IntMulOk.of_le (intBits_mul_le bm bh) bt (by decide)
        have hl : Nat.log2 g < 9000 := log2_bits (x := (g : Int)) bg
        have fin : rmt (a, r) (b, s) = some (rmk (a.fdiv g * b) (r + a * h * t)) := by
          rw [rmt_of (x := r + a * h * t), lc]
          · show a ∣ r + a * h * t - r
            exact ⟨h * t, by rw [← Int.mul_assoc]; omega⟩
          · show b ∣ r + a * h * t - s
            have z := Int.dvd_neg.mpr (Int.dvd_mul_of_dvd_left (c := t) h1)
            have e1 : -(((g : Int) - h * a) * t) = r + a * h * t - s := by
              rw [Int.sub_mul, Int.mul_comm h a]; omega
            rwa [e1] at z
        have rr := fun Φ => run_lrest_of Φ (a.fdiv g * b) (r + a * h * t)
        simp [g0, g0', c', d1, m1, m2, m3, hl, rr, fin]
      · have c' : ¬ (s - r).fmod g = 0 := fun z => c (fmod0.mp z)
        have fin : rmt (a, r) (b, s) = none := by
          cases z : rmt (a, r) (b, s) with
          | none => rfl
          | some y => exact absurd (by rw [eg]; exact rmt_isSome.mp ⟨y, z⟩) c
        simp [g0, g0', c', fin]
  · have hk' : ¬ ((k : Int) = 0) := by omega
    have bM : ∀ x : Int, x.natAbs ≤ M → bits x ≤ 8000 := fun x hx => bits_abs_le bm' (by omega)
    have bA : ∀ x : Int, x.natAbs ≤ max A M → bits x ≤ 8000 := fun x hx => by
      by_cases z : A ≤ M
      · exact bM x (by rw [Nat.max_eq_right z] at hx; exact hx)
      · exact bits_abs_le bm (by omega)
    have hf : f.natAbs ≤ M := by
      by_cases z : g = 0
      · subst z
        rw [h9 rfl]; simp
      · have := Nat.le_mul_of_pos_left f.natAbs (show 0 < g by omega)
        omega
    have q1 : ((g : Int).fdiv (k : Int)) = ((g / k : Nat) : Int) := by
      rw [Int.fdiv_eq_ediv_of_nonneg _ (by omega)]; rfl
    have hq : g / k ≤ max A M := Nat.le_trans (Nat.div_le_self ..) h6
    have m1 : mulOk ((g / k : Nat) : Int) f := IntMulOk.of_le (bA _ (by rw [Int.natAbs_natCast]; exact hq)) bf (by decide)
    have m2 : mulOk ((g / k : Nat) : Int) (k : Int) := IntMulOk.of_le (bA _ (by rw [Int.natAbs_natCast]; exact hq)) (bM _ (by rw [Int.natAbs_natCast]; exact h5)) (by decide)
    have e1 : ((g : Int) - ((g / k : Nat) : Int) * (k : Int)) = ((g % k : Nat) : Int) := by
      have := Nat.div_add_mod g k
      have e : ((k * (g / k) : Nat) : Int) = ((g / k : Nat) : Int) * (k : Int) := by rw [Nat.mul_comm, Int.natCast_mul]
      omega
    have hl : Nat.log2 k < 9000 := log2_bits (x := (k : Int)) (bM _ (by rw [Int.natAbs_natCast]; exact h5))
    have st := natAbs_step h f (g / k) h4
    have dm := Nat.div_add_mod g k
    have hkey : k * (h - ((g / k : Nat) : Int) * f).natAbs + (g % k) * f.natAbs = M := by
      rw [st, Nat.mul_add, ← Nat.mul_assoc]
      have e2 : g * f.natAbs = k * (g / k) * f.natAbs + g % k * f.natAbs := by rw [← Nat.add_mul, dm]
      omega
    have hb2 : (h - ((g / k : Nat) : Int) * f).natAbs ≤ M := by
      have := Nat.le_mul_of_pos_left (h - ((g / k : Nat) : Int) * f).natAbs (show 0 < k by omega)
      omega
    simp only [Int.natCast_ediv] at q1 m1 m2 e1 st hkey hb2
    simp [hk', hk, q1, m1, m2, e1, hl]
    refine ⟨g % k, Nat.mod_lt _ (by omega), k, f, h - ((g : Int) / k) * f, ⟨rfl, rfl, rfl, rfl⟩, ?_, h2, ?_, hkey, ?_, ?_, ?_, h8, ?_, fun z => absurd z hk⟩
    · rw [Nat.gcd_comm, ← Nat.gcd_rec, Nat.gcd_comm]; exact hgc
    · have a1 := Int.dvd_mul_of_dvd_right (a := b) (b := (g : Int) / k) h2
      have a2 := Int.dvd_sub h1 a1
      rw [← e1]
      have e : ((g : Int) - h * a) - (g : Int) / k * (k - f * a) = (g : Int) - (g : Int) / k * k - (h - (g : Int) / k * f) * a := by
        rw [Int.mul_sub, Int.sub_mul, Int.mul_assoc]; omega
      rwa [e] at a2
    · rw [Int.mul_sub, Int.mul_comm f h]
      have : 0 ≤ f * ((g : Int) / k * f) := by
        rw [← Int.mul_assoc, Int.mul_comm f, Int.mul_assoc]
        exact Int.mul_nonneg (Int.ediv_nonneg (by omega) (by omega)) (by
          rcases Int.le_total 0 f with c | c
          · exact Int.mul_nonneg c c
          · exact Int.mul_nonneg_of_nonpos_of_nonpos c c)
      omega
    · have := Nat.mod_lt g (show 0 < k by omega); omega
    · exact Nat.le_trans h5 (Nat.le_max_right ..)
    · omega
end Sr
set_option Elab.async false
set_option linter.all false
set_option maxRecDepth 100000
set_option maxHeartbeats 4000000
/-! # Sr: what a law draws, run -/
namespace Sr
open PySem PySem.Spec PyProof.Rows L2
variable {m : Nat}
def mixed (ns : List Int) (k : Int) : Int := if 0 < ns.length then k * k * 7919 + 11 + cell ns (k.fmod ns.length) else k * k * 7919 + 11
theorem m_cell_bits {ns : List Int} (hb : ∀ z ∈ ns, Builtin.Int.intBits z ≤ 1048576) (k : Int) : bits (cell ns k) ≤ 1048576 := by
  unfold cell
  rw [List.getD_eq_getElem?_getD]
  cases h : ns[k.toNat]? with
  | none => simp; decide
  | some z => exact hb z (List.mem_of_getElem? h)
theorem mixed_bits {ns : List Int} (hb : ∀ z ∈ ns, Builtin.Int.intBits z ≤ 1048576) {k : Int} (hk : k.natAbs < 2 ^ 40) : bits (mixed ns k) ≤ 1048590 := by
  have b0 : bits k ≤ 40 := bits_small hk
  have b1 : bits (k * k * 7919 + 11) ≤ 200 := bits_le (intBits_add_le (intBits_mul_le (intBits_mul_le b0 b0) (n := 13) (by decide)) (n := 4) (by decide)) (by decide)
  unfold mixed
  split
  · exact bits_le (intBits_add_le b1 (m_cell_bits hb _)) (by decide)
  · exact bits_le b1 (by decide)
def pick (ns : List Int) (k many : Int) : Int := ((mixed ns k * 48271).fmod 2147483647).fmod many
theorem pick_lt (ns : List Int) (k : Int) {many : Int} (h : 0 < many) : 0 ≤ pick ns k many ∧ pick ns k many < many := fmod_lt _ h
def reach (w : Int) : Int := if w = 0 then 3 else if w = 1 then 9 else if w = 2 then 10 ^ 9 else 10 ^ 40
def reachOf (ns : List Int) (k : Int) : Int := reach (((mixed ns k * 69621).fmod 2147483629).fmod 4)
def lnum (ns : List Int) (k : Int) : Int := (mixed ns k * 48271 ^ 9).fmod (2 * reachOf ns k + 1) - reachOf ns k
theorem reach_pos (w : Int) : 3 ≤ reach w ∧ reach w ≤ 10 ^ 40 := by
  unfold reach
  split
  · decide
  · split
    · decide
    · split <;> decide
theorem lnum_le (ns : List Int) (k : Int) : (lnum ns k).natAbs ≤ 10 ^ 40 := by
  have h := reach_pos (((mixed ns k * 69621).fmod 2147483629).fmod 4)
  have g := fmod_lt (mixed ns k * 48271 ^ 9) (m := 2 * reachOf ns k + 1) (by unfold reachOf; omega)
  unfold lnum
  unfold reachOf at *
  omega
theorem lnum_bits (ns : List Int) (k : Int) : bits (lnum ns k) ≤ 140 := bits_small (by have := lnum_le ns k; omega)
def slack (ns : List Int) (k : Int) : Option Int := if (pick ns k 42).fmod 6 < 2 then none else if (pick ns k 42).fmod 6 < 4 then some 0 else if (pick ns k 42).fmod 6 = 4 then some ((pick ns k 42).fdiv 6) else some ((lnum ns k).natAbs : Int)
theorem slack_nn {ns : List Int} {k t : Int} (h : slack ns k = some t) : 0 ≤ t ∧ t ≤ 10 ^ 40 := by
  have g := pick_lt ns k (many := 42) (by decide)
  have l := lnum_le ns k
  unfold slack at h
  split at h
  · cases h
  · split at h
    · cases h; decide
    · split at h
      · cases h
        rw [Int.fdiv_eq_ediv_of_nonneg _ (by decide)]
        omega
      · cases h; omega
theorem run_lmixed (Φ : Fs) (ns : List Int) (k : Int) (h0 : 0 ≤ k) (h : k.natAbs < 2 ^ 40) : runDf Φ d__law_mixed [.lst false (ns.map D.int), .int k] = some (.int (mixed ns k), [none, none]) := by
  refine run_of rfl ?_
  have m1 : mulOk k k := mulOk_l (by omega)
  have m2 : mulOk (k * k) 7919 := mulOk_r (by decide)
  unfold mixed
  by_cases c : 0 < ns.length
  · have c' : ¬ ns = [] := fun e => by rw [e] at c; simp at c
    have g := fmod_lt k (m := (ns.length : Int)) (by omega)
    simp [d__law_mixed, m1, m2, c, c', atI_map ns g.1 g.2]
  · have c' : ns = [] := by cases ns with
      | nil => rfl
      | cons _ _ => simp at c
    subst c'
    simp [d__law_mixed, m1, m2]
theorem run_lpick (ns : List Int) (k many : Int) (h0 : 0 ≤ k) (h : k.natAbs < 2 ^ 40) (hm : many ≠ 0) : runDf (fnsN P (m + 1)) d__law_pick_0c7c [.lst false (ns.map D.int), .int k, .int many] = some (.int (pick ns k many), [none, none, none]) := by
  refine run_of rfl ?_
  have m1 : mulOk (mixed ns k) 48271 := mulOk_r (by decide)
  unfold pick
  simp [d__law_pick_0c7c, run_lmixed _ ns k h0 h, m1, hm]
theorem run_lnum (ns : List Int) (hb : ∀ z ∈ ns, Builtin.Int.intBits z ≤ 1048576) (k : Int) (h0 : 0 ≤ k) (h : k.natAbs < 2 ^ 40) : runDf (fnsN P (m + 1)) d__law_number_56fb [.lst false (ns.map D.int), .int k] = some (.int (lnum ns k), [none, none]) := by
  refine run_of rfl ?_
  have bm := mixed_bits hb h
  have m1 : mulOk (mixed ns k) 69621 := mulOk_r (by decide)
  have m2 : mulOk (mixed ns k) (48271 ^ 9) := IntMulOk.of_le bm (n := 200) (by decide) (by decide)
  have g := fmod_lt ((mixed ns k * 69621).fmod 2147483629) (m := 4) (by decide)
  have hr : reachOf ns k = reach (((mixed ns k * 69621).fmod 2147483629).fmod 4) := rfl
  have m3 : mulOk 2 (reachOf ns k) := mulOk_l (by decide)
  have hp := reach_pos (((mixed ns k * 69621).fmod 2147483629).fmod 4)
  rw [← hr] at hp
  have hat : atI [D.int 3, D.int 9, D.int (10 ^ 9), D.int (10 ^ 40)] (((mixed ns k * 69621).fmod 2147483629).fmod 4) = some (.int (reachOf ns k)) := by
    rw [hr]
    generalize ((mixed ns k * 69621).fmod 2147483629).fmod 4 = w at g ⊢
    have : w = 0 ∨ w = 1 ∨ w = 2 ∨ w = 3 := by omega
    rcases this with rfl | rfl | rfl | rfl <;> simp [reach]
  have hz : ¬ 2 * reachOf ns k + 1 = 0 := by omega
  simp at m2 hat
  unfold lnum
  simp [d__law_number_56fb, run_lmixed _ ns k h0 h, m1, m2, m3, hat, hz]
theorem run_lslack (ns : List Int) (hb : ∀ z ∈ ns, Builtin.Int.intBits z ≤ 1048576) (k : Int) (h0 : 0 ≤ k) (h : k.natAbs < 2 ^ 40) : runDf (fnsN P (m + 2)) d__law_slack [.lst false (ns.map D.int), .int k] = some (dO (slack ns k), [none, none]) := by
  refine run_of rfl ?_
  unfold slack
  by_cases c1 : (pick ns k 42).fmod 6 < 2
  · simp [d__law_slack, run_lpick ns k 42 h0 h (by decide), c1]
  · by_cases c2 : (pick ns k 42).fmod 6 < 4
    · simp [d__law_slack, run_lpick ns k 42 h0 h (by decide), c1, c2]
    · by_cases c3 : (pick ns k 42).fmod 6 = 4
      · simp [d__law_slack, run_lpick ns k 42 h0 h (by decide), c1, c2, c3]
      · simp [d__law_slack, run_lpick ns k 42 h0 h (by decide), run_lnum ns hb k h0 h, c1, c2, c3, abs_eq]
def lrest (ns : List Int) (k x : Int) : Int × Int := if (pick ns k 60).fmod 5 < 2 then (1, 0) else if (pick ns k 60).fmod 5 = 2 then (0, x) else if (pick ns k 60).fmod 5 = 3 then rmk ((pick ns k 60).fdiv 5 + 1) x else rmk (lnum ns k).natAbs x
theorem lrest_ok (ns : List Int) (k x : Int) : RV (lrest ns k x) ∧ (lrest ns k x).1 ≤ 10 ^ 40 ∧ (lrest ns k x).1 ∣ x - (lrest ns k x).2 := by
  have g := pick_lt ns k (many := 60) (by decide)
  have l := lnum_le ns k
  unfold lrest
  split
  · exact ⟨RV.one, by decide, Int.one_dvd _⟩
  · split
    · exact ⟨RV.zero _, by show (0 : Int) ≤ 10 ^ 40; decide, by simp⟩
    · split
      · have : 0 ≤ (pick ns k 60).fdiv 5 + 1 ∧ (pick ns k 60).fdiv 5 + 1 ≤ 100 := by
          rw [Int.fdiv_eq_ediv_of_nonneg _ (by decide)]
          omega
        refine ⟨RV.mk this.1, ?_, dvd_rmod _ _⟩
        show (pick ns k 60).fdiv 5 + 1 ≤ 10 ^ 40
        omega
      · refine ⟨RV.mk (by omega), ?_, dvd_rmod _ _⟩
        show ((lnum ns k).natAbs : Int) ≤ 10 ^ 40
        omega
theorem run_llrest (ns : List Int) (hb : ∀ z ∈ ns, Builtin.Int.intBits z ≤ 1048576) (k x : Int) (h0 : 0 ≤ k) (h : k.natAbs < 2 ^ 40) : runDf (fnsN P (m + 2)) d__law_rest_f4ab [.lst false (ns.map D.int), .int k, .int x] = some (dP (lrest ns k x), [none, none, none]) := by
  refine run_of rfl ?_
  have hp := fun n => run_lpick (m := n) ns k 60 h0 h (by decide)
  unfold lrest
  by_cases c1 : (pick ns k 60).fmod 5 < 2
  · simp [d__law_rest_f4ab, hp, c1]
  · by_cases c2 : (pick ns k 60).fmod 5 = 2
    · simp [d__law_rest_f4ab, hp, c1, c2]
    · by_cases c3 : (pick ns k 60).fmod 5 = 3
      · simp [d__law_rest_f4ab, hp, c1, c2, c3, run_lrest_of]
      · simp [d__law_rest_f4ab, hp, c1, c2, c3, run_lnum ns hb k h0 h, abs_eq, run_lrest_of]
theorem cons_int {o : Bool} {n : Nat} {b : Nat → Int} : D.lst o (D.int 0 :: mk n fun j => .int (b j)) = intF o (n + 1) (fl b) := by
  unfold intF
  rw [mk_cons]
  congr 1
  refine mk_congr fun i hi => ?_
  cases i <;> simp
theorem add_int {n : Nat} {b : Nat → Int} (hn : n ≤ 10000) : binD .add (.lst true [.int 0]) (intF false n b) = some (intF true (n + 1) (fl b)) := by
  have hbig : big = 1000000 := rfl
  rw [← cons_int]
  show (if (unL [D.int 0] && unL (mk n fun j => .int (b j)) && decide ([D.int 0].length + (mk n fun j => D.int (b j)).length ≤ big)) = true then some (D.lst true ([.int 0] ++ mk n fun j => .int (b j))) else none) = _
  rw [if_pos]
  · rfl
  · simp; omega
def ltE (ns : List Int) (k : Int) (n : Nat) (b : Nat → Int) (i j : Nat) : Option Int := (slack ns (k + (i : Int) * ((n : Int) + 1) + (j : Int))).map fun t => fl b i - fl b j + t
/-- the told thing that a law draws round boxes -/
def ltd (ns : List Int) (k : Int) (n : Nat) (b : Nat → Int) : Td := (fun i j => if j = i then some 0 else ltE ns k n b i j, fun t => lrest ns (k + ((n : Int) + 1) * ((n : Int) + 1) + (t : Int)) (b t))
theorem run_ltold (ns : List Int) (hb : ∀ z ∈ ns, Builtin.Int.intBits z ≤ 1048576) (k : Int) {n : Nat} (b : Nat → Int) (h0 : 0 ≤ k) (h : k < 1000000) (hn : n ≤ 100) : runDf (fnsN P (m + 3)) d__law_told_2ac3 [.lst false (ns.map D.int), .int k, intF false n b] = some (tdF true n (ltd ns k n b), [none, none, none]) := by
  refine run_of rfl ?_
  have hbig : big = 1000000 := rfl
  simp [d__law_told_2ac3, add_int (show n ≤ 10000 by omega)]
  refine ⟨by omega, ?_⟩
  have e0 : ∀ B : Mx, D.lst true ([] : List D) = mxF true 0 (n + 1) B := fun _ => rfl
  have e1 : ∀ r : Nat → Option Int, D.lst true ([] : List D) = rowF true 0 r := fun _ => rfl
  refine for_mk (S := fun i => [some (.lst false (ns.map D.int)), some (.int k), some (intF false n b), some (intF false (n + 1) (fl b)), some (.int ((n : Int) + 1)), some (mxF true i (n + 1) (ltd ns k n b).1), none, none, none, none, none]) (by rw [e0]) ?_ ?_
  · intro i hi
    simp
    refine ⟨by omega, ?_⟩
    refine for_mk (S := fun j => [some (.lst false (ns.map D.int)), some (.int k), some (intF false n b), some (intF false (n + 1) (fl b)), some (.int ((n : Int) + 1)), some (mxF true i (n + 1) (ltd ns k n b).1), some (.int (i : Int)), some (rowF true j (ltE ns k n b i)), none, none, none]) (by rw [e1]) ?_ ?_
    · intro j hj
      have m1 : mulOk (i : Int) ((n : Int) + 1) := mulOk_l (by omega)
      have sm : (i : Int) * ((n : Int) + 1) ≤ 101 * 101 := Int.mul_le_mul (by omega) (by omega) (by omega) (by decide)
      have sn : 0 ≤ (i : Int) * ((n : Int) + 1) := Int.mul_nonneg (by omega) (by omega)
      have rs := fun n' => run_lslack (m := n') ns hb (k + (i : Int) * ((n : Int) + 1) + (j : Int)) (by omega) (by omega)
      have f1 := intF_atN (o := false) (s := fl b) hi
      have f2 := intF_atN (o := false) (s := fl b) hj
      cases hs : slack ns (k + (i : Int) * ((n : Int) + 1) + (j : Int)) with
      | none =>
        have ap : appD .non (rowF true j (ltE ns k n b i)) = some (rowF true (j + 1) (ltE ns k n b i)) := rowF_app (x := none) (by omega) (by unfold ltE; rw [hs]; rfl)
        simp [m1, rs, hs, ap]
      | some t =>
        have ap : appD (.int (fl b i - fl b j + t)) (rowF true j (ltE ns k n b i)) = some (rowF true (j + 1) (ltE ns k n b i)) := rowF_app (x := some (fl b i - fl b j + t)) (by omega) (by unfold ltE; rw [hs]; rfl)
        simp [m1, rs, hs, f1, f2, ap]
    · have p1 : putD (i : Int) (.int 0) (rowF true (n + 1) (ltE ns k n b i)) = some (rowF true (n + 1) (up (ltE ns k n b i) i (some 0))) := rowF_put (x := some 0) (by omega)
      have ap : appD (rowF true (n + 1) (up (ltE ns k n b i) i (some 0))) (mxF true i (n + 1) (ltd ns k n b).1) = some (mxF true (i + 1) (n + 1) (ltd ns k n b).1) := mxF_app (by omega) (fun j _ => rfl)
      simp [p1, ap]
  · simp [sat_lc]
    refine ⟨by omega, ?_⟩
    refine lc_mk (fun (t : Nat) => dP (lrest ns (k + ((n : Int) + 1) * ((n : Int) + 1) + (t : Int)) (b t))) (fun t ht => ?_) ?_
    · have m1 : mulOk ((n : Int) + 1) ((n : Int) + 1) := mulOk_l (by omega)
      have sm : ((n : Int) + 1) * ((n : Int) + 1) ≤ 101 * 101 := Int.mul_le_mul (by omega) (by omega) (by omega) (by decide)
      have sn : 0 ≤ ((n : Int) + 1) * ((n : Int) + 1) := Int.mul_nonneg (by omega) (by omega)
      have rs := fun n' x => run_llrest (m := n') ns hb (k + ((n : Int) + 1) * ((n : Int) + 1) + (t : Int)) x (by omega) (by omega)
      have a1 := intF_atN (o := false) (s := b) ht
      rw [sat_lcF]
      simp [m1, rs, a1]
    · simp
      rfl
theorem exL {c : Nat} : ∀ (n : Nat) (R : Rs2), (∀ i, i < n → 0 ≤ (R i).1 ∧ bits (R i).1 ≤ c) → ∃ L : Int, 0 < L ∧ bits L ≤ n * c + 1 ∧ ∀ i, i < n → (R i).1 = 0 ∨ (R i).1 ∣ L
  | 0, R, _ => ⟨1, by decide, by rw [Nat.zero_mul]; decide, fun i h => absurd h (Nat.not_lt_zero i)⟩
  | n + 1, R, h => by
    obtain ⟨L, hL, hb, hd⟩ := exL n R fun i hi => h i (by omega)
    by_cases z : (R n).1 = 0
    · refine ⟨L, hL, Nat.le_trans hb (by rw [Nat.succ_mul]; omega), fun i hi => ?_⟩
      by_cases c : i = n
      · subst c; exact .inl z
      · exact hd i (by omega)
    · obtain ⟨h1, h2⟩ := h n (by omega)
      refine ⟨L * (R n).1, Int.mul_pos hL (by omega), Nat.le_trans (intBits_mul_le hb h2) (by rw [Nat.succ_mul]; omega), fun i hi => ?_⟩
      by_cases c : i = n
      · subst c; exact .inr (Int.dvd_mul_left ..)
      · rcases hd i (by omega) with y | y
        · exact .inl y
        · exact .inr (Int.dvd_mul_of_dvd_left y)
theorem ltd_ok (ns : List Int) (k : Int) {n : Nat} {b : Nat → Int} (hb : ∀ i, i < n → (b i).natAbs ≤ 10 ^ 41) (hn : n ≤ 14) : ∃ L : Int, 0 < L ∧ bits L ≤ 2200 ∧ Ok L 2200 n (ltd ns k n b) := by
  obtain ⟨L, hL, hbL, hd⟩ := exL (c := 140) n (ltd ns k n b).2 fun i hi => by
    have := lrest_ok ns (k + ((n : Int) + 1) * ((n : Int) + 1) + (i : Int)) (b i)
    refine ⟨this.1.1, bits_small ?_⟩
    have h1 := this.1.1
    have h2 := this.2.1
    show (lrest ns (k + ((n : Int) + 1) * ((n : Int) + 1) + (i : Int)) (b i)).1.natAbs < 2 ^ 140
    omega
  have hf : ∀ i, i ≤ n → (fl b i).natAbs ≤ 10 ^ 41 := fun i hi => by
    cases i with
    | zero => simp
    | succ i => rw [fl_1]; exact hb i (by omega)
  refine ⟨L, hL, Nat.le_trans hbL (by omega), ⟨fun i hi => by simp [ltd], fun i j x hi hj e => ?_⟩, fun i hi => ⟨(lrest_ok ..).1, hd i hi, ?_⟩⟩
  · refine bits_le (m := 145) ?_ (by omega)
    simp only [ltd] at e
    split at e
    · cases e; decide
    · unfold ltE at e
      cases hs : slack ns (k + (i : Int) * ((n : Int) + 1) + (j : Int)) with
      | none => rw [hs] at e; cases e
      | some t =>
        rw [hs] at e
        cases e
        have := slack_nn hs
        have h1 := hf i hi
        have h2 := hf j hj
        show bits (fl b i - fl b j + t) ≤ 145
        exact bits_small (by omega)
  · refine bits_le (m := 145) ?_ (by omega)
    have q := lrest_ok ns (k + ((n : Int) + 1) * ((n : Int) + 1) + (i : Int)) (b i)
    obtain ⟨⟨q1, q2⟩, q3, q4⟩ := q
    have h1 := hb i hi
    show bits (lrest ns (k + ((n : Int) + 1) * ((n : Int) + 1) + (i : Int)) (b i)).2 ≤ 145
    refine bits_small ?_
    generalize lrest ns (k + ((n : Int) + 1) * ((n : Int) + 1) + (i : Int)) (b i) = p at *
    rcases q2 with z | z
    · rw [z] at q4
      have := Int.zero_dvd.mp q4
      omega
    · omega
theorem run_lcopy_none {Φ : Fs} : runDf Φ d__law_copy_13a6 [.non] = some (.non, [none]) := by
  refine run_of rfl ?_
  simp [d__law_copy_13a6]
theorem lst_rs {n : Nat} {R : Rs2} {o : Bool} : b1D .list (rsF false n R) = some (rsF true n R) := by
  unfold rsF
  rw [b1D_list, if_pos (by simp)]
theorem run_lcopy {Φ : Fs} {n : Nat} {t : Td} : runDf Φ d__law_copy_13a6 [tdF false n t] = some (tdF true n t, [none]) := by
  refine run_of rfl ?_
  simp [d__law_copy_13a6, sat_lc]
  refine lc_copy (by intro d; rfl) rfl ?_
  have l1 := lst_rs (n := n) (R := t.2) (o := false)
  simp [l1, td_back]
theorem run_lcopyT {Φ : Fs} {n : Nat} {t : Option Td} : runDf Φ d__law_copy_13a6 [toF false n t] = some (toF true n t, [none]) := by
  cases t with
  | none => exact run_lcopy_none
  | some t => exact run_lcopy
theorem run_lwhole (Φ : Fs) (d : D) (u : d.un = true) : runDf Φ d__law_whole_92eb [d] = some (.bl (tyI d && !tyB d), [none]) := by
  refine run_of rfl ?_
  simp [d__law_whole_92eb]
  cases d <;> simp
theorem run_lgrid {n : Nat} {B : Mx} (hn : n ≤ 1000) (hd : ∀ i, i < n → B i i = some 0) : runDf (fnsN P (m + 1)) d__law_grid [mxF false n n B, .int (n : Int)] = some (.bl true, [none, none]) := by
  refine run_of rfl ?_
  have hbig : big = 1000000 := rfl
  have hw : ∀ Φ (a : Int), runDf Φ d__law_whole_92eb [.int a] = some (.bl true, [none]) := fun Φ a => run_lwhole Φ (.int a) rfl
  simp [d__law_grid]
  refine ⟨by omega, ?_⟩
  refine for_mk (S := fun i => [some (mxF false n n B), some (.int (n : Int)), none, none]) rfl ?_ ?_
  · intro i hi
    have a1 := mxF_atN (o := false) (n := n) (B := B) hi
    have b1 := rowF_atN (o := false) (r := B i) hi
    rw [hd i hi] at b1
    simp [a1]
    refine for_mk (S := fun j => [some (mxF false n n B), some (.int (n : Int)), some (.int (i : Int)), none]) rfl ?_ ?_
    · intro j hj
      cases h : B i j with
      | none => simp
      | some x => simp [hw]
    · simp [a1, b1]
  · simp
theorem run_lshape {n : Nat} {t : Td} (hn : n ≤ 900) (hd : ∀ i, i ≤ n → t.1 i i = some 0) (hr : ∀ i, i < n → RV (t.2 i)) : runDf (fnsN P (m + 2)) d__law_shape_824f [tdF false n t, .int (n : Int)] = some (.bl true, [none, none]) := by
  refine run_of rfl ?_
  have hbig : big = 1000000 := rfl
  have hw : ∀ Φ (a : Int), runDf Φ d__law_whole_92eb [.int a] = some (.bl true, [none]) := fun Φ a => run_lwhole Φ (.int a) rfl
  have hg := fun m => run_lgrid (m := m) (n := n + 1) (B := t.1) (by omega) (fun i hi => hd i (by omega))
  simp only [Int.natCast_add, Int.natCast_one] at hg
  simp [d__law_shape_824f, hg]
  refine for_mk (S := fun j => [some (tdF false n t), some (.int (n : Int)), none]) rfl ?_ ?_
  · intro j hj
    have h := hr j hj
    obtain ⟨h1, h2⟩ := h
    by_cases z : (t.2 j).1 = 0
    · simp [hw, z]
    · have h3 := h2.resolve_left z
      have p : 0 < (t.2 j).1 := by omega
      have p' : ¬ (t.2 j).1 < 0 := by omega
      simp [hw, p, p', h3.1, h3.2]
  · simp
theorem run_lsame {n : Nat} {t : Option Td} (hn : n ≤ 900) (ho : ∀ u, t = some u → (∀ i, i ≤ n → u.1 i i = some 0) ∧ ∀ i, i < n → RV (u.2 i)) : runDf (fnsN P (m + 3)) d__law_same_a595 [toF false n t, toF false n t] = some (.bl true, [none, none]) := by
  refine run_of rfl ?_
  cases t with
  | none => simp [d__law_same_a595]
  | some u =>
    obtain ⟨h1, h2⟩ := ho u rfl
    have hs := fun m => run_lshape (m := m) hn h1 h2
    simp [d__law_same_a595, hs]
end Sr
set_option Elab.async false
set_option linter.all false
set_option maxRecDepth 100000
set_option maxHeartbeats 4000000
/-! # Sr: a told thing spoilt, run -/
namespace Sr
open PySem PySem.Spec PyProof.Rows L2
variable {m : Nat}
def spoil (ns : List Int) (k : Int) (n : Nat) (t : Td) : Td :=
  if pick ns (k + 2) 5 < 3 ∧ pick ns k ((n : Int) + 1) ≠ pick ns (k + 1) ((n : Int) + 1) then
    (up2 t.1 (pick ns k ((n : Int) + 1)).toNat (pick ns (k + 1) ((n : Int) + 1)).toNat (some (match t.1 (pick ns k ((n : Int) + 1)).toNat (pick ns (k + 1) ((n : Int) + 1)).toNat with
      | none => lnum ns (k + 3)
      | some x => x - 1 - pick ns (k + 3) 4)), t.2)
  else if 0 < n then (t.1, up t.2 (pick ns k n).toNat (rmk ((t.2 (pick ns k n).toNat).1 * (1 + (pick ns (k + 2) 5).fmod 2)) ((t.2 (pick ns k n).toNat).2 + pick ns (k + 3) 3)))
  else t
theorem run_lspoilt (ns : List Int) (hb : ∀ z ∈ ns, Builtin.Int.intBits z ≤ 1048576) (k : Int) {n : Nat} (t : Td) (h0 : 0 ≤ k) (h : k < 1000000) (hn : n ≤ 100) : runDf (fnsN P (m + 2)) d__law_spoilt [.lst false (ns.map D.int), .int k, tdF false n t] = some (tdF true n (spoil ns k n t), [none, none, none]) := by
  refine run_of rfl ?_
  have hbig : big = 1000000 := rfl
  have p0 := fun m => run_lpick (m := m) ns k ((n : Int) + 1) h0 (by omega) (by omega)
  have p1 := fun m => run_lpick (m := m) ns (k + 1) ((n : Int) + 1) (by omega) (by omega) (by omega)
  have p2 := fun m => run_lpick (m := m) ns (k + 2) 5 (by omega) (by omega) (by omega)
  have p3 := fun m => run_lpick (m := m) ns (k + 3) 4 (by omega) (by omega) (by omega)
  have p4 := fun m => run_lpick (m := m) ns (k + 3) 3 (by omega) (by omega) (by omega)
  have p5 := fun m => run_lnum (m := m) ns hb (k + 3) (by omega) (by omega)
  have g0 := pick_lt ns k (many := (n : Int) + 1) (by omega)
  have g1 := pick_lt ns (k + 1) (many := (n : Int) + 1) (by omega)
  have l1 := lst_rs (n := n) (R := t.2) (o := false)
  simp only [d__law_spoilt]
  simp [sat_lc]
  refine lc_copy (by intro d; rfl) rfl ?_
  unfold spoil
  obtain ⟨I, hI⟩ : ∃ I : Nat, pick ns k ((n : Int) + 1) = I := ⟨(pick ns k ((n : Int) + 1)).toNat, by omega⟩
  obtain ⟨J, hJ⟩ : ∃ J : Nat, pick ns (k + 1) ((n : Int) + 1) = J := ⟨(pick ns (k + 1) ((n : Int) + 1)).toNat, by omega⟩
  rw [hI] at p0
  rw [hJ] at p1
  rw [hI, hJ]
  have a1 := fun o M => mxF_atN (o := o) (n := n + 1) (B := M) (show I < n + 1 by omega)
  have b1 := fun o r => rowF_atN (o := o) (r := r) (show J < n + 1 by omega)
  have q1 := fun x => mxF_putI (B := t.1) (x := x) (show I < n + 1 by omega) (show J < n + 1 by omega)
  by_cases c1 : pick ns (k + 2) 5 < 3
  · by_cases c2 : (I : Int) = (J : Int)
    · have c3 : I = J := by omega
      subst c3
      by_cases hn0 : 0 < n
      · have g2 := pick_lt ns k (many := (n : Int)) (by omega)
        have p6 := fun m => run_lpick (m := m) ns k (n : Int) h0 (by omega) (by omega)
        obtain ⟨T, hT⟩ : ∃ T : Nat, pick ns k (n : Int) = T := ⟨(pick ns k (n : Int)).toNat, by omega⟩
        have a2 := fun o => rsF_atN (o := o) (R := t.2) (show T < n by omega)
        have q2 := fun x => rsF_put (R := t.2) (x := x) (show (0 : Int) ≤ (T : Int) ∧ (T : Int) < (n : Int) by omega)
        have w2 := fmod_lt (pick ns (k + 2) 5) (m := 2) (by decide)
        have m1 : mulOk (t.2 T).1 (1 + (pick ns (k + 2) 5).fmod 2) := mulOk_r (by omega)
        have rr := fun Φ => run_lrest_of Φ ((t.2 T).1 * (1 + (pick ns (k + 2) 5).fmod 2)) ((t.2 T).2 + pick ns (k + 3) 3)
        rw [hT] at p6
        simp at q2
        simp [l1, p0, p1, p2, c1, hn0, p6, hT, a2, m1, p4, rr, q2, td_back]
        rfl
      · simp [l1, p0, p1, p2, c1, hn0, td_back]
    · have c3 : ¬ I = J := by omega
      cases hB : t.1 I J with
      | none => simp [l1, p0, p1, p2, c1, c2, c3, a1, b1, hB, p5, q1, td_back]
      | some x => simp [l1, p0, p1, p2, c1, c2, c3, a1, b1, hB, p3, q1, td_back]
  · by_cases hn0 : 0 < n
    · have g2 := pick_lt ns k (many := (n : Int)) (by omega)
      have p6 := fun m => run_lpick (m := m) ns k (n : Int) h0 (by omega) (by omega)
      obtain ⟨T, hT⟩ : ∃ T : Nat, pick ns k (n : Int) = T := ⟨(pick ns k (n : Int)).toNat, by omega⟩
      have a2 := fun o => rsF_atN (o := o) (R := t.2) (show T < n by omega)
      have q2 := fun x => rsF_put (R := t.2) (x := x) (show (0 : Int) ≤ (T : Int) ∧ (T : Int) < (n : Int) by omega)
      have w2 := fmod_lt (pick ns (k + 2) 5) (m := 2) (by decide)
      have m1 : mulOk (t.2 T).1 (1 + (pick ns (k + 2) 5).fmod 2) := mulOk_r (by omega)
      have rr := fun Φ => run_lrest_of Φ ((t.2 T).1 * (1 + (pick ns (k + 2) 5).fmod 2)) ((t.2 T).2 + pick ns (k + 3) 3)
      rw [hT] at p6
      simp at q2
      simp [l1, p0, p1, p2, c1, hn0, p6, hT, a2, m1, p4, rr, q2, td_back]
      rfl
    · simp [l1, p0, p1, p2, c1, hn0, td_back]
theorem spoil_ok {ns : List Int} {k : Int} {n : Nat} {t : Td} {L : Int} {β : Nat} (hL : 0 < L) (hb : bits L ≤ β) (hβ : 200 ≤ β) (o : Ok L β n t) : 0 < 2 * L ∧ bits (2 * L) ≤ β + 2 ∧ Ok (2 * L) (β + 2) n (spoil ns k n t) := by
  have h2 : bits (2 * L) ≤ β + 2 := bits_le (intBits_mul_le (show bits 2 ≤ 2 by decide) hb) (by omega)
  have oP : ∀ p, OkP L β p → OkP (2 * L) (β + 2) p := fun p op => ⟨op.v, op.d.imp id fun z => Int.dvd_mul_of_dvd_right z, Nat.le_trans op.b (by omega)⟩
  refine ⟨by omega, h2, ?_⟩
  have base : Ok (2 * L) (β + 2) n t := ⟨o.b.le (by omega), fun i hi => oP _ (o.r i hi)⟩
  unfold spoil
  split
  · rename_i c
    refine ⟨⟨fun i hi => ?_, fun i j x hi hj e => ?_⟩, base.r⟩
    · show up2 t.1 _ _ _ i i = some 0
      unfold up2
      have g0 := pick_lt ns k (many := (n : Int) + 1) (by omega)
      have g1 := pick_lt ns (k + 1) (many := (n : Int) + 1) (by omega)
      rw [if_neg (fun z => c.2 (by omega))]
      exact o.b.d i hi
    · have e' : up2 t.1 (pick ns k ((n : Int) + 1)).toNat (pick ns (k + 1) ((n : Int) + 1)).toNat _ i j = some x := e
      unfold up2 at e'
      split at e'
      · rename_i z
        cases e'
        rw [← z.1, ← z.2]
        cases hB : t.1 i j with
        | none => exact bits_le (lnum_bits ns _) (by omega)
        | some y =>
          have := pick_lt ns (k + 3) (many := 4) (by decide)
          have b1 := o.b.b i j y hi hj hB
          refine bits_le (intBits_sub_le (intBits_sub_le b1 (n := 3) (by decide)) (n := 3) (bits_small (by omega))) (by omega)
      · exact base.b.b i j x hi hj e'
  · split
    · refine ⟨base.b, fun i hi => ?_⟩
      show OkP (2 * L) (β + 2) (up t.2 _ _ i)
      unfold up
      split
      · rename_i z
        have oi := o.r i hi
        rw [← z]
        have w2 := fmod_lt (pick ns (k + 2) 5) (m := 2) (by decide)
        have g4 := pick_lt ns (k + 3) (many := 3) (by decide)
        refine OkP.mkP (by omega) h2 (Int.mul_nonneg oi.v.1 (by omega)) ?_ ?_
        · rcases oi.d with y | y
          · left; rw [y]; simp
          · right
            have : 1 + (pick ns (k + 2) 5).fmod 2 = 1 ∨ 1 + (pick ns (k + 2) 5).fmod 2 = 2 := by omega
            rcases this with q | q <;> rw [q]
            · rw [Int.mul_one]; exact Int.dvd_mul_of_dvd_right y
            · rw [Int.mul_comm]; exact Int.mul_dvd_mul (Int.dvd_refl 2) y
        · intro _
          exact bits_le (intBits_add_le oi.b (n := 3) (bits_small (by omega))) (by omega)
      · exact base.r i hi
    · exact base
/-! what a law changes in what is told -/
theorem setAt_td0 {n : Nat} {t : Td} {u : D → Option D} : setAt 0 u (tdF true n t) = (u (mxF true (n + 1) (n + 1) t.1)).map fun y => .tup [y, rsF true n t.2] := by
  unfold setAt tdF
  have : ixN [mxF true (n + 1) (n + 1) t.1, rsF true n t.2].length 0 = some 0 := rfl
  simp only [this]
  cases h : u (mxF true (n + 1) (n + 1) t.1) with
  | none => simp [h]
  | some y => simp [h]
theorem setAt_mx0 {n k : Nat} {B : Mx} (x : Int) : setAt 0 (putD 0 (.int x)) (mxF true (n + 1) (k + 1) B) = some (mxF true (n + 1) (k + 1) (up2 B 0 0 (some x))) := mxF_putI (i := 0) (j := 0) (by omega) (by omega)
@[simp] theorem spoil_1 {n : Nat} {t : Td} (x : Int) : setAt 0 (setAt 0 (putD 0 (.int x))) (tdF true n t) = some (tdF true n (up2 t.1 0 0 (some x), t.2)) := by
  rw [setAt_td0, setAt_mx0]; rfl
@[simp] theorem spoil_2 {n : Nat} {t : Td} {p : Int × Int} (h : n < big) : setAt 1 (appD (dP p)) (tdF true n t) = some (.tup [mxF true (n + 1) (n + 1) t.1, rsF true (n + 1) (fun i => if i < n then t.2 i else p)]) := by
  unfold setAt tdF
  have : ixN [mxF true (n + 1) (n + 1) t.1, rsF true n t.2].length 1 = some 1 := rfl
  simp only [this]
  have e1 : rsF true n t.2 = rsF true n (fun i => if i < n then t.2 i else p) := rsF_congr fun i hi => by simp [hi]
  have a := rsF_app (n := n) (R := fun i => if i < n then t.2 i else p) (x := p) h (by simp)
  rw [← e1] at a
  simp [a]
end Sr
set_option Elab.async false
set_option linter.all false
set_option maxRecDepth 100000
set_option maxHeartbeats 4000000
/-! # Sr: sums, their greatest, their rests -/
namespace Sr
open PySem PySem.Spec PyProof.Rows L2
variable {m : Nat}
abbrev Sm := Nat → Int
/-- the places from 1 to n at which a sum is not nought -/
def nz (n : Nat) (p : Int → Bool) (s : Sm) : List Nat := ((List.range n).map (· + 1)).filter fun i => p (s i)
def pairL (s : Sm) : List Nat → Option (Nat × Nat)
  | [a, b] => if s a = 1 ∧ s b = -1 then some (a, b) else if s a = -1 ∧ s b = 1 then some (b, a) else none
  | _ => none
def pairO (n : Nat) (s : Sm) : Option (Nat × Nat) := pairL s (nz n (fun x => decide (x ≠ 0)) s)
/-- the end that is due for a box -/
def endO (B : Mx) (s : Sm) (i : Nat) : Option Int := if s i < 0 then B 0 i else B i 0
def grF (B : Mx) (s : Sm) : Nat → Option Int
  | 0 => some (s 0)
  | i + 1 => if s (i + 1) = 0 then grF B s i else match grF B s i, endO B s (i + 1) with
    | some a, some e => some (a + (s (i + 1)).natAbs * e)
    | _, _ => none
def gr (n : Nat) (B : Mx) (s : Sm) : Option Int := match pairO n s with
  | some p => (B p.1 p.2).map (· + s 0)
  | none => grF B s n
theorem nz_mem {n : Nat} {p : Int → Bool} {s : Sm} {i : Nat} : i ∈ nz n p s ↔ (1 ≤ i ∧ i ≤ n) ∧ p (s i) = true := by
  unfold nz
  rw [List.mem_filter, List.mem_map]
  constructor
  · rintro ⟨⟨a, ha, rfl⟩, h⟩
    have := List.mem_range.mp ha
    exact ⟨⟨by omega, by omega⟩, h⟩
  · rintro ⟨⟨h1, h2⟩, h⟩
    exact ⟨⟨i - 1, List.mem_range.mpr (by omega), by omega⟩, h⟩
theorem pairO_in {n : Nat} {s : Sm} {p : Nat × Nat} (h : pairO n s = some p) : (1 ≤ p.1 ∧ p.1 ≤ n) ∧ (1 ≤ p.2 ∧ p.2 ≤ n) := by
  unfold pairO at h
  have key : ∀ l : List Nat, (∀ i ∈ l, 1 ≤ i ∧ i ≤ n) → pairL s l = some p → (1 ≤ p.1 ∧ p.1 ≤ n) ∧ (1 ≤ p.2 ∧ p.2 ≤ n) := fun l hl h => by
    unfold pairL at h
    split at h
    · rename_i a b
      split at h
      · cases h; exact ⟨hl a (by simp), hl b (by simp)⟩
      · split at h
        · cases h; exact ⟨hl b (by simp), hl a (by simp)⟩
        · cases h
    · cases h
  exact key _ (fun i hi => (nz_mem.mp hi).1) h
/-! bits -/
theorem grF_bits {B : Mx} {s : Sm} {n β γ : Nat} (oB : OkB β n B) (h0 : bits (s 0) ≤ γ) (hs : ∀ i, 1 ≤ i → i ≤ n → (s i).natAbs < 2 ^ 40) (hγ : β + 40 ≤ γ) : ∀ {i : Nat} {x : Int}, i ≤ n → grF B s i = some x → bits x ≤ γ + i
  | 0, x, _, h => by cases h; exact h0
  | i + 1, x, hi, h => by
    rw [grF] at h
    split at h
    · exact Nat.le_trans (grF_bits oB h0 hs hγ (by omega) h) (by omega)
    · split at h
      · rename_i a e ha he
        cases h
        have b1 := grF_bits oB h0 hs hγ (by omega) ha
        have b2 : bits e ≤ β := by
          unfold endO at he
          split at he
          · exact oB.b _ _ e (by omega) (by omega) he
          · exact oB.b _ _ e (by omega) (by omega) he
        have b3 : bits ((s (i + 1)).natAbs : Int) ≤ 40 := bits_small (by have := hs (i + 1) (by omega) hi; omega)
        exact bits_le (intBits_add_le b1 (intBits_mul_le b3 b2)) (by omega)
      · cases h
theorem gr_bits {B : Mx} {s : Sm} {n β γ : Nat} (oB : OkB β n B) (h0 : bits (s 0) ≤ γ) (hs : ∀ i, 1 ≤ i → i ≤ n → (s i).natAbs < 2 ^ 40) (hγ : β + 40 ≤ γ) {x : Int} (h : gr n B s = some x) : bits x ≤ γ + n + 1 := by
  unfold gr at h
  split at h
  · rename_i p hp
    obtain ⟨⟨_, h1⟩, _, h2⟩ := pairO_in hp
    cases hB : B p.1 p.2 with
    | none => rw [hB] at h; cases h
    | some y =>
      rw [hB] at h
      cases h
      exact bits_le (intBits_add_le (oB.b _ _ y h1 h2 hB) h0) (by omega)
  · exact Nat.le_trans (grF_bits oB h0 hs hγ (Nat.le_refl n) h) (by omega)
/-! rests of sums -/
def srF (R : Rs2) (s : Sm) : Nat → Int × Int
  | 0 => (0, s 0)
  | i + 1 => rpl (srF R s i) (rtm (R i) (s (i + 1)))
def sr (n : Nat) (R : Rs2) (s : Sm) : Int × Int := srF R s n
def srM (R : Rs2) (s : Sm) : Nat → Int
  | 0 => 0
  | i + 1 => Int.gcd (srM R s i) ((R i).1 * (s (i + 1)).natAbs)
def srR (R : Rs2) (s : Sm) : Nat → Int
  | 0 => s 0
  | i + 1 => srR R s i + (R i).2 * s (i + 1)
theorem srF_eq {R : Rs2} {s : Sm} : ∀ {i : Nat}, srF R s i = rmk (srM R s i) (srR R s i)
  | 0 => by simp [srF, srM, srR, rmk, rmod]
  | i + 1 => by
    rw [srF, srF_eq (i := i), srM, srR]
    unfold rpl rtm
    simp only [rmk_1, rmk_2]
    unfold rmk
    congr 1
    refine rmod_congr (by omega) ?_
    have h1 := Int.dvd_trans (Int.gcd_dvd_left (srM R s i) ((R i).1 * ((s (i + 1)).natAbs : Int))) (dvd_rmod (srM R s i) (srR R s i))
    have h2 := Int.dvd_trans (Int.gcd_dvd_right (srM R s i) ((R i).1 * ((s (i + 1)).natAbs : Int))) (dvd_rmod ((R i).1 * ((s (i + 1)).natAbs : Int)) ((R i).2 * s (i + 1)))
    have := Int.dvd_neg.mpr (Int.dvd_add h1 h2)
    have e : -(srR R s i - rmod (srM R s i) (srR R s i) + ((R i).2 * s (i + 1) - rmod ((R i).1 * ((s (i + 1)).natAbs : Int)) ((R i).2 * s (i + 1)))) = rmod (srM R s i) (srR R s i) + rmod ((R i).1 * ((s (i + 1)).natAbs : Int)) ((R i).2 * s (i + 1)) - (srR R s i + (R i).2 * s (i + 1)) := by omega
    rwa [e] at this
theorem srM_nn {R : Rs2} {s : Sm} : ∀ {i : Nat}, 0 ≤ srM R s i
  | 0 => by simp [srM]
  | i + 1 => by rw [srM]; omega
theorem srF_v {R : Rs2} {s : Sm} {i : Nat} : RV (srF R s i) := by rw [srF_eq]; exact RV.mk srM_nn
/-- a number that all m of rests of a sum divide -/
def kof (s : Sm) : Nat → Int
  | 0 => 1
  | i + 1 => if s (i + 1) = 0 then kof s i else kof s i * (s (i + 1)).natAbs
theorem kof_pos {s : Sm} : ∀ {i : Nat}, 0 < kof s i
  | 0 => by show (0 : Int) < 1; decide
  | i + 1 => by
    rw [kof]
    split
    · exact kof_pos
    · exact Int.mul_pos kof_pos (by omega)
theorem kof_bits {s : Sm} {n : Nat} (hs : ∀ i, 1 ≤ i → i ≤ n → (s i).natAbs < 2 ^ 40) : ∀ {i : Nat}, i ≤ n → bits (kof s i) ≤ 40 * i + 1
  | 0, _ => by show bits 1 ≤ 1; decide
  | i + 1, hi => by
    rw [kof]
    split
    · exact Nat.le_trans (kof_bits hs (by omega)) (by omega)
    · exact bits_le (intBits_mul_le (kof_bits hs (by omega)) (bits_small (m := 40) (by have := hs (i + 1) (by omega) hi; omega))) (by omega)
theorem srM_dvd {R : Rs2} {s : Sm} {L : Int} {n : Nat} (hR : ∀ i, i < n → (R i).1 = 0 ∨ (R i).1 ∣ L) : ∀ {i : Nat}, i ≤ n → srM R s i = 0 ∨ srM R s i ∣ kof s i * L
  | 0, _ => .inl rfl
  | i + 1, hi => by
    have ih := srM_dvd (s := s) hR (i := i) (by omega)
    have pk : kof s i * L ∣ kof s (i + 1) * L := by
      rw [kof]
      split
      · exact Int.dvd_refl _
      · refine Int.mul_dvd_mul ?_ (Int.dvd_refl _)
        exact Int.dvd_mul_right ..
    rw [srM]
    by_cases c : (R i).1 * ((s (i + 1)).natAbs : Int) = 0
    · rw [c]
      rw [gcd_0r srM_nn]
      exact ih.imp id fun h => Int.dvd_trans h pk
    · right
      refine Int.dvd_trans (Int.gcd_dvd_right ..) ?_
      have hr : (R i).1 ≠ 0 := fun z => c (by rw [z]; simp)
      have hs : s (i + 1) ≠ 0 := fun z => c (by rw [z]; simp)
      have d := (hR i (by omega)).resolve_left hr
      rw [kof, if_neg hs, Int.mul_assoc, Int.mul_comm (kof s i)]
      refine Int.dvd_mul_of_dvd_left ?_
      rw [Int.mul_comm (((s (i + 1)).natAbs : Nat) : Int)]
      exact Int.mul_dvd_mul d (Int.dvd_refl _)
theorem srR_bits {R : Rs2} {s : Sm} {n β γ : Nat} (hR : ∀ i, i < n → bits (R i).2 ≤ β) (h0 : bits (s 0) ≤ γ) (hs : ∀ i, 1 ≤ i → i ≤ n → (s i).natAbs < 2 ^ 40) (hγ : β + 40 ≤ γ) : ∀ {i : Nat}, i ≤ n → bits (srR R s i) ≤ γ + i
  | 0, _ => h0
  | i + 1, hi => by
    rw [srR]
    have b1 := srR_bits hR h0 hs hγ (i := i) (by omega)
    have b3 : bits (s (i + 1)) ≤ 40 := bits_small (hs (i + 1) (by omega) hi)
    exact bits_le (intBits_add_le b1 (intBits_mul_le (hR i (by omega)) b3)) (by omega)
/-! ### runs -/
theorem sat_neg1 : (-1 : Int).natAbs = 1 := rfl
theorem run_box_sum (Φ : Fs) {i n : Nat} (hi : i ≤ n) (hn : n ≤ 1000) : runDf Φ d_box_sum [.int i, .int n] = some (intF true (n + 1) (fun j => if 0 < i ∧ j = i then 1 else 0), [none, none]) := by
  refine run_of rfl ?_
  have hbig : big = 1000000 := rfl
  have b0 : binD .mul (.lst true [.int 0]) (.int ((n : Int) + 1)) = some (intF true (n + 1) fun _ => 0) := by
    show (if ((true && unL [D.int 0]) && decide ([D.int 0].length * ((n : Int) + 1).toNat ≤ big) && decide ((n : Int) + 1 < 2 ^ 62) && decide (-(2 ^ 62) ≤ (n : Int) + 1)) = true then some (D.lst true (List.replicate ((n : Int) + 1).toNat [D.int 0]).flatten) else none) = _
    have e : ((n : Int) + 1).toNat = n + 1 := by omega
    rw [e, if_pos, mk_rep]
    · rfl
    · simp; omega
  by_cases c : 0 < i
  · have p := intF_put (n := n + 1) (s := fun _ => 0) (z := (i : Int)) (x := 1) (by omega)
    simp [d_box_sum, b0, c, p]
    refine intF_congr fun j hj => ?_
    unfold up
    rfl
  · have : i = 0 := by omega
    subst this
    simp [d_box_sum, b0]
theorem run_sum_plus (Φ : Fs) {n : Nat} {s u : Sm} : runDf Φ d_sum_plus [intF false n s, intF false n u] = some (intF true n (fun i => s i + u i), [none, none]) := by
  refine run_of rfl ?_
  have z1 : ∀ Q : List D → Prop, isL (intF false n s) Q ↔ Q (mk n fun j => .int (s j)) := fun _ => Iff.rfl
  have z2 : ∀ Q : List D → Prop, isL (intF false n u) Q ↔ Q (mk n fun j => .int (u j)) := fun _ => Iff.rfl
  simp [d_sum_plus, sat_lc, z1, z2]
  refine lc_mk (fun i => .int (s i + u i)) (fun i hi => ?_) ?_
  · rw [sat_lcF]; simp
  · simp
theorem run_sum_times (Φ : Fs) {n : Nat} {s : Sm} {k : Int} (h : ∀ i, i < n → mulOk (s i) k) : runDf Φ d_sum_times [intF false n s, .int k] = some (intF true n (fun i => s i * k), [none, none]) := by
  refine run_of rfl ?_
  simp [d_sum_times, sat_lc]
  refine lc_mk (fun i => .int (s i * k)) (fun i hi => ?_) ?_
  · rw [sat_lcF]; simp [h i hi]
  · simp
theorem run_sum_rest {n : Nat} {s : Sm} {R : Rs2} (hn : n ≤ 1000) (hv : ∀ i, i < n → RV (R i)) (hs : ∀ i, 1 ≤ i → i ≤ n → (s i).natAbs < 2 ^ 40) : runDf (fnsN P (m + 2)) d_sum_rest [intF false (n + 1) s, rsF false n R] = some (dP (sr n R s), [none, none]) := by
  refine run_of rfl ?_
  have hbig : big = 1000000 := rfl
  have i0 := intF_atN (o := false) (s := s) (show 0 < n + 1 by omega)
  simp at i0
  simp [d_sum_rest, i0]
  refine ⟨by omega, ?_⟩
  refine for_mk (S := fun i => [some (intF false (n + 1) s), some (rsF false n R), some (dP (srF R s i)), none]) rfl ?_ ?_
  · intro i hi
    have a1 := intF_atN (o := false) (s := s) (show i + 1 < n + 1 by omega)
    have a2 := rsF_atN (o := false) (R := R) hi
    have h1 := hs (i + 1) (by omega) (by omega)
    have r1 := fun m => run_rest_times (n := m) (R i) (s (i + 1)) (hv i hi).1 (mulOk_r (by omega)) (mulOk_r (by omega))
    have r2 := fun m => run_rest_plus (n := m) (srF R s i) (rtm (R i) (s (i + 1)))
    simp at a1
    simp [a1, a2, r1, r2, srF]
  · simp [sr]
/-- the places, as whole numbers -/
def plD (o : Bool) (l : List Nat) : D := .lst o (l.map fun (i : Nat) => D.int (i : Int))
@[simp] theorem plD_un {l : List Nat} : (plD false l).un = true := by
  show (unL (l.map fun (i : Nat) => D.int (i : Int))) = true
  induction l with
  | nil => rfl
  | cons a r ih => simp [ih]
@[simp] theorem plD_shr {o : Bool} {l : List Nat} : (plD o l).shr = plD false l := by
  show D.lst false (shrL (l.map fun (i : Nat) => D.int (i : Int))) = _
  unfold plD
  congr 1
  induction l with
  | nil => rfl
  | cons a r ih => simp [ih]
@[simp] theorem shrL_pl {l : List Nat} : shrL (l.map fun (i : Nat) => D.int (i : Int)) = l.map fun (i : Nat) => D.int (i : Int) := by
  induction l with
  | nil => rfl
  | cons a r ih => simp [ih]
theorem lc_nz {Φ : Fs} {e : Env} {tg : List Nat} {c el : T} {n : Nat} {p : Int → Bool} {s : Sm} {Q : List D → Env → Prop}
    (hs : ∀ i, 1 ≤ i → i ≤ n → sat (lcF Φ tg c el (.int i) e) fun d e' => d = (if p (s i) = true then some (.int i) else none) ∧ e' = e) (hd : Q ((nz n p s).map fun (i : Nat) => D.int (i : Int)) e) : sat (loopC (lcF Φ tg c el) (mk n fun k => .int (1 + (k : Nat))) e []) Q := by
  rw [loopC_fm (g := fun d => match d with | .int z => if p (s z.toNat) = true then some d else none | _ => none) (by
    intro x hx
    unfold mk at hx
    obtain ⟨k, hk, rfl⟩ := List.mem_map.mp hx
    have hk := List.mem_range.mp hk
    have c1 : (1 : Int) + (k : Int) = ((k + 1 : Nat) : Int) := by omega
    rw [c1]
    obtain ⟨a, e', h, h2, rfl⟩ := hs (k + 1) (by omega) (by omega)
    rw [h, h2]
    simp)]
  have e1 : (mk n fun k => D.int (1 + (k : Nat))).filterMap (fun d => match d with | .int z => if p (s z.toNat) = true then some d else none | _ => none) = (nz n p s).map fun (i : Nat) => D.int (i : Int) := by
    unfold mk nz
    generalize List.range n = l
    induction l with
    | nil => rfl
    | cons a r ih =>
      rw [List.map_cons, List.map_cons, List.filterMap_cons]
      have c1 : (1 : Int) + (a : Int) = ((a + 1 : Nat) : Int) := by omega
      have c2 : ((1 : Int) + (a : Int)).toNat = a + 1 := by omega
      simp only [c2]
      by_cases h : p (s (a + 1)) = true
      · rw [if_pos h, List.filter_cons, if_pos h, List.map_cons, ih, c1]
      · rw [if_neg h, List.filter_cons, if_neg h, ih]
  simp only [List.nil_append, e1, sat_some]
  exact hd
theorem run_pair_of (Φ : Fs) {n : Nat} {s : Sm} (hn : n ≤ 1000) : runDf Φ d_pair_of [intF false (n + 1) s] = some ((match pairO n s with | none => D.non | some p => dP (p.1, p.2)), [none]) := by
  refine run_of rfl ?_
  have hbig : big = 1000000 := rfl
  simp [d_pair_of, sat_lc]
  refine ⟨by omega, ?_⟩
  refine lc_nz (p := fun x => decide (x ≠ 0)) (s := s) (fun i h1 h2 => ?_) ?_
  · have a1 := intF_atN (o := false) (s := s) (show i < n + 1 by omega)
    rw [sat_lcF]
    by_cases c : s i = 0
    · simp [a1, c]
    · simp [a1, c]
  · have hm := fun i (h : i ∈ nz n (fun x => decide (x ≠ 0)) s) => (nz_mem.mp h).1
    unfold pairO
    generalize nz n (fun x => decide (x ≠ 0)) s = l at hm ⊢
    match l, hm with
    | [], _ => simp [pairL]
    | [a], _ => simp [pairL]
    | [a, b], hm =>
      have a1 := intF_atN (o := false) (s := s) (show a < n + 1 by have := hm a (by simp); omega)
      have b1 := intF_atN (o := false) (s := s) (show b < n + 1 by have := hm b (by simp); omega)
      by_cases c1 : s a = 1
      · have c1' : ¬ s a = -1 := by omega
        by_cases c2 : s b = -1
        · simp [pairL, a1, b1, c1, c2]
        · simp [pairL, a1, b1, c1, c2]
      · by_cases c3 : s a = -1
        · by_cases c4 : s b = 1
          · simp [pairL, a1, b1, c3, c4]
          · simp [pairL, a1, b1, c3, c4]
        · simp [pairL, a1, b1, c1, c3]
    | a :: b :: c :: r, _ => 
      have : ¬ ((r.length : Int) + 1 + 1 + 1 = 2) := by omega
      simp [pairL, this]
theorem run_greatest {n : Nat} {t : Td} {s : Sm} (hn : n ≤ 1000) (hs : ∀ i, 1 ≤ i → i ≤ n → (s i).natAbs < 2 ^ 40) : runDf (fnsN P (m + 1)) d_greatest [tdF false n t, intF false (n + 1) s] = some (dO (gr n t.1 s), [none, none]) := by
  refine run_of rfl ?_
  have hbig : big = 1000000 := rfl
  have rp := fun Φ => run_pair_of Φ (n := n) (s := s) hn
  have i0 := intF_atN (o := false) (s := s) (show 0 < n + 1 by omega)
  simp at i0
  unfold gr
  cases hp : pairO n s with
  | some p =>
    rw [hp] at rp
    obtain ⟨⟨_, h1⟩, _, h2⟩ := pairO_in hp
    have a1 := mxF_atN (o := false) (n := n + 1) (B := t.1) (show p.1 < n + 1 by omega)
    have b1 := rowF_atN (o := false) (r := t.1 p.1) (show p.2 < n + 1 by omega)
    cases hB : t.1 p.1 p.2 with
    | none => simp [d_greatest, rp, a1, b1, hB]
    | some x => simp [d_greatest, rp, a1, b1, hB, i0]
  | none =>
    rw [hp] at rp
    simp [d_greatest, rp, i0]
    refine ⟨by omega, ?_⟩
    refine for_mkI (fun i e => ∃ x, grF t.1 s i = some x ∧ e = [some (tdF false n t), some (intF false (n + 1) s), some (mxF false (n + 1) (n + 1) t.1), some .non, some (.int x), none, none, none]) ⟨_, rfl, rfl⟩ ?_ ?_
    · rintro i e hi ⟨x, hx, rfl⟩
      have c1 : (1 : Int) + (i : Int) = ((i + 1 : Nat) : Int) := by omega
      have a0 := intF_atN (o := false) (s := s) (show i + 1 < n + 1 by omega)
      have a1 := mxF_atN (o := false) (n := n + 1) (B := t.1) (show i + 1 < n + 1 by omega)
      have a2 := mxF_atN (o := false) (n := n + 1) (B := t.1) (show 0 < n + 1 by omega)
      have b1 := rowF_atN (o := false) (r := t.1 (i + 1)) (show 0 < n + 1 by omega)
      have b2 := rowF_atN (o := false) (r := t.1 0) (show i + 1 < n + 1 by omega)
      have hsi := hs (i + 1) (by omega) (by omega)
      have m1 : ∀ y, mulOk ((s (i + 1)).natAbs : Int) y := fun y => mulOk_l (by omega)
      have stuck : grF t.1 s (i + 1) = none → ∀ k, i + 1 ≤ k → grF t.1 s k = none := fun h k hk => by
        induction hk with
        | refl => exact h
        | step _ ih =>
          rw [grF, ih]
          split <;> rfl
      simp only [Int.natCast_add, Int.natCast_one, Int.natCast_zero] at a0 a1 a2 b1 b2
      by_cases c2 : s (i + 1) = 0
      · have e1 : grF t.1 s (i + 1) = some x := by rw [grF, if_pos c2, hx]
        simp [c1, a0, c2, e1]
      · by_cases c3 : s (i + 1) < 0
        · cases hB : t.1 0 (i + 1) with
          | none =>
            have e1 : grF t.1 s (i + 1) = none := by rw [grF, if_neg c2, hx]; simp [endO, c3, hB]
            have e2 := stuck e1 n (by omega)
            simp [c1, a0, a1, a2, b1, b2, c2, c3, hB, e2]
          | some y =>
            have e1 : grF t.1 s (i + 1) = some (x + (s (i + 1)).natAbs * y) := by rw [grF, if_neg c2, hx]; simp [endO, c3, hB]
            have na : ((s (i + 1)).natAbs : Int) = -s (i + 1) := by omega
            rw [na] at e1 m1
            simp [c1, a0, a1, a2, b1, b2, c2, c3, hB, e1, m1]
        · cases hB : t.1 (i + 1) 0 with
          | none =>
            have e1 : grF t.1 s (i + 1) = none := by rw [grF, if_neg c2, hx]; simp [endO, c3, hB]
            have e2 := stuck e1 n (by omega)
            simp [c1, a0, a1, a2, b1, b2, c2, c3, hB, e2]
          | some y =>
            have e1 : grF t.1 s (i + 1) = some (x + (s (i + 1)).natAbs * y) := by rw [grF, if_neg c2, hx]; simp [endO, c3, hB]
            have na : ((s (i + 1)).natAbs : Int) = s (i + 1) := by omega
            rw [na] at e1 m1
            simp [c1, a0, a1, a2, b1, b2, c2, c3, hB, e1, m1]
    · rintro e ⟨x, hx, rfl⟩
      simp [hx]
theorem run_least {n : Nat} {t : Td} {s : Sm} (hn : n ≤ 1000) (hs : ∀ i, 1 ≤ i → i ≤ n → (s i).natAbs < 2 ^ 40) : runDf (fnsN P (m + 2)) d_least [tdF false n t, intF false (n + 1) s] = some (dO ((gr n t.1 fun i => -s i).map fun x => -x), [none, none]) := by
  refine run_of rfl ?_
  have r1 := fun Φ => run_sum_times Φ (n := n + 1) (s := s) (k := -1) (fun i hi => mulOk_r (by decide))
  have r2 := fun m => run_greatest (m := m) (n := n) (t := t) (s := fun i => -s i) hn (fun i h1 h2 => by have := hs i h1 h2; omega)
  cases h : gr n t.1 fun i => -s i with
  | none =>
    rw [h] at r2
    simp [d_least, r1, r2]
  | some x =>
    rw [h] at r2
    simp [d_least, r1, r2]
end Sr
set_option Elab.async false
set_option linter.all false
set_option maxRecDepth 100000
set_option maxHeartbeats 4000000
/-! # Sr: sums that a law draws; the law's own greatest -/
namespace Sr
open PySem PySem.Spec PyProof.Rows L2
variable {m : Nat}
def sm0 (x : Int) : Sm := fun i => if i = 0 then x else 0
def lsm (ns : List Int) (k : Int) (n : Nat) : Sm :=
  if pick ns k 6 = 0 ∨ n = 0 then sm0 (lnum ns k)
  else if pick ns k 6 = 1 then up (sm0 (lnum ns k)) (1 + pick ns (k + 1) n).toNat (pick ns (k + 2) 13 - 6)
  else if pick ns k 6 = 2 ∨ pick ns k 6 = 3 then up (up (sm0 (lnum ns k)) (1 + pick ns (k + 1) n).toNat 1) (1 + pick ns (k + 2) n).toNat (up (sm0 (lnum ns k)) (1 + pick ns (k + 1) n).toNat 1 (1 + pick ns (k + 2) n).toNat - 1)
  else if pick ns k 6 = 4 then fun i => if i = 0 then lnum ns k else pick ns (k + 1 + ((i - 1 : Nat) : Int)) 7 - 3
  else fun i => if i = 0 then lnum ns k else pick ns (k + 1 + ((i - 1 : Nat) : Int)) 2000000001 - 1000000000
theorem lsm_0 {ns : List Int} {k : Int} {n : Nat} : lsm ns k n 0 = lnum ns k := by
  have h1 : ¬ (0 : Nat) = (1 + pick ns (k + 1) n).toNat ∨ n = 0 := by
    by_cases c : n = 0
    · exact .inr c
    · left; have := pick_lt ns (k + 1) (many := (n : Int)) (by omega); omega
  have h2 : ¬ (0 : Nat) = (1 + pick ns (k + 2) n).toNat ∨ n = 0 := by
    by_cases c : n = 0
    · exact .inr c
    · left; have := pick_lt ns (k + 2) (many := (n : Int)) (by omega); omega
  unfold lsm
  split
  · rfl
  · rename_i c
    have hn : n ≠ 0 := fun z => c (.inr z)
    have h1 := h1.resolve_right hn
    have h2 := h2.resolve_right hn
    split
    · unfold up; rw [if_neg h1]; rfl
    · split
      · unfold up; rw [if_neg h2, if_neg h1]; rfl
      · split <;> rfl
theorem lsm_lt {ns : List Int} {k : Int} {n i : Nat} (h1 : 1 ≤ i) : (lsm ns k n i).natAbs < 2 ^ 35 := by
  have z : ∀ x, (sm0 x i).natAbs = 0 := fun x => by unfold sm0; rw [if_neg (by omega)]; rfl
  have z1 : ∀ x j y, y.natAbs < 2 ^ 34 → (up (sm0 x) j y i).natAbs < 2 ^ 34 := fun x j y hy => by
    unfold up
    split
    · exact hy
    · rw [z]; decide
  unfold lsm
  split
  · rw [z]; decide
  · split
    · have := pick_lt ns (k + 2) (many := 13) (by decide)
      have := z1 (lnum ns k) (1 + pick ns (k + 1) n).toNat (pick ns (k + 2) 13 - 6) (by omega)
      omega
    · split
      · have q := z1 (lnum ns k) (1 + pick ns (k + 1) n).toNat 1 (by decide)
        unfold up at *
        split
        · rename_i c
          rw [← c]
          omega
        · omega
      · split
        · simp only [show ¬ i = 0 by omega, if_false]
          have := pick_lt ns (k + 1 + ((i - 1 : Nat) : Int)) (many := 7) (by decide)
          omega
        · simp only [show ¬ i = 0 by omega, if_false]
          have := pick_lt ns (k + 1 + ((i - 1 : Nat) : Int)) (many := 2000000001) (by decide)
          omega
theorem run_lsum (ns : List Int) (hb : ∀ z ∈ ns, Builtin.Int.intBits z ≤ 1048576) (k : Int) {n : Nat} (h0 : 0 ≤ k) (h : k < 1000000) (hn : n ≤ 1000) : runDf (fnsN P (m + 2)) d__law_sum_0da3 [.lst false (ns.map D.int), .int k, .int n] = some (intF true (n + 1) (lsm ns k n), [none, none, none]) := by
  refine run_of rfl ?_
  have hbig : big = 1000000 := rfl
  have p0 := fun m => run_lnum (m := m) ns hb k h0 (by omega)
  have p1 := fun m => run_lpick (m := m) ns k 6 h0 (by omega) (by omega)
  have g1 := pick_lt ns k (many := 6) (by omega)
  have b0 : binD .mul (.lst true [.int 0]) (.int (n : Int)) = some (intF true n fun _ => 0) := by
    show (if ((true && unL [D.int 0]) && decide ([D.int 0].length * ((n : Int)).toNat ≤ big) && decide ((n : Int) < 2 ^ 62) && decide (-(2 ^ 62) ≤ (n : Int))) = true then some (D.lst true (List.replicate ((n : Int)).toNat [D.int 0]).flatten) else none) = _
    rw [Int.toNat_natCast, if_pos, mk_rep]
    · rfl
    · simp; omega
  have b1 : binD .add (.lst true [.int (lnum ns k)]) (intF true n fun _ => 0) = some (intF true (n + 1) (sm0 (lnum ns k))) := by
    show (if (unL [D.int (lnum ns k)] && unL (mk n fun j => .int 0) && decide ([D.int (lnum ns k)].length + (mk n fun j => D.int 0).length ≤ big)) = true then some (D.lst true ([.int (lnum ns k)] ++ mk n fun j => .int 0)) else none) = _
    rw [if_pos]
    · show some (D.lst true (D.int (lnum ns k) :: mk n fun j => .int 0)) = _
      rw [mk_cons]
      unfold intF
      congr 2
      refine mk_congr fun i hi => ?_
      unfold sm0
      split <;> rfl
    · simp; omega
  simp only [d__law_sum_0da3]
  by_cases c0 : pick ns k 6 = 0 ∨ n = 0
  · have e : lsm ns k n = sm0 (lnum ns k) := by unfold lsm; rw [if_pos c0]
    rw [e]
    rcases c0 with c | c
    · simp [p0, p1, b0, b1, c]
    · subst c
      simp only [Int.natCast_zero] at b0 ⊢
      by_cases c2 : pick ns k 6 = 0
      · simp [p0, p1, b0, b1, c2]
      · simp [p0, p1, b0, b1, c2]
  · have hn0 : ¬ n = 0 := fun z => c0 (.inr z)
    have hw0 : ¬ pick ns k 6 = 0 := fun z => c0 (.inl z)
    have hn0' : ¬ (n : Int) = 0 := by omega
    have p2 := fun m => run_lpick (m := m) ns (k + 1) (n : Int) (by omega) (by omega) (by omega)
    have g2 := pick_lt ns (k + 1) (many := (n : Int)) (by omega)
    have p3 := fun m => run_lpick (m := m) ns (k + 2) 13 (by omega) (by omega) (by omega)
    have p4 := fun m => run_lpick (m := m) ns (k + 2) (n : Int) (by omega) (by omega) (by omega)
    have g4 := pick_lt ns (k + 2) (many := (n : Int)) (by omega)
    unfold lsm
    rw [if_neg c0]
    by_cases w1 : pick ns k 6 = 1
    · have q1 := fun x => intF_put (n := n + 1) (s := sm0 (lnum ns k)) (z := 1 + pick ns (k + 1) n) (x := x) (by omega)
      simp [p0, p1, p2, p3, b0, b1, hn0, hn0', w1, q1]
    · by_cases w2 : pick ns k 6 = 2 ∨ pick ns k 6 = 3
      · have q1 := fun x => intF_put (n := n + 1) (s := sm0 (lnum ns k)) (z := 1 + pick ns (k + 1) n) (x := x) (by omega)
        have q2 := fun s x => intF_put (n := n + 1) (s := s) (z := 1 + pick ns (k + 2) n) (x := x) (by omega)
        have a2 := fun o s => intF_at (n := n + 1) (o := o) (s := s) (z := 1 + pick ns (k + 2) n) (by omega)
        rcases w2 with w | w
        · simp [p0, p1, p2, p4, b0, b1, hn0, hn0', w, q1, q2, a2]
        · simp [p0, p1, p2, p4, b0, b1, hn0, hn0', w, q1, q2, a2]
      · rw [if_neg w1, if_neg w2]
        have w2a : ¬ pick ns k 6 = 2 := fun z => w2 (.inl z)
        have w2b : ¬ pick ns k 6 = 3 := fun z => w2 (.inr z)
        by_cases w4 : pick ns k 6 = 4
        · rw [if_pos w4]
          simp [p0, p1, p2, p3, b0, b1, hn0, hn0', w4]
          refine ⟨by omega, ?_⟩
          refine for_mk (S := fun i => [some (.lst false (ns.map D.int)), some (.int k), some (.int n), some (intF true (n + 1) fun j => if j = 0 then lnum ns k else if j < i + 1 then pick ns (k + 1 + ((j - 1 : Nat) : Int)) 7 - 3 else 0), some (.int 4), some (.int (1 + pick ns (k + 1) n)), none, none]) ?_ ?_ ?_
          · congr 4
            congr 1
            refine intF_congr fun j hj => ?_
            unfold sm0
            split
            · rfl
            · rw [if_neg (by omega)]
          · intro i hi
            have p5 := fun m => run_lpick (m := m) ns (k + 1 + (i : Int)) 7 (by omega) (by omega) (by omega)
            have q1 := fun s x => intF_put (n := n + 1) (s := s) (z := (i : Int) + 1) (x := x) (by omega)
            have et : ((i : Int) + 1).toNat = i + 1 := by omega
            rw [et] at q1
            simp [p5, q1]
            refine intF_congr fun j hj => ?_
            simp only [up]
            by_cases c : j = i + 1
            · rw [if_pos c, if_neg (by omega), if_pos (by omega), c]; rfl
            · rw [if_neg c]
              by_cases c2 : j = 0
              · rw [if_pos c2, if_pos c2]
              · rw [if_neg c2, if_neg c2]
                by_cases c3 : j < i + 1
                · rw [if_pos c3, if_pos (by omega)]
                · rw [if_neg c3, if_neg (by omega)]
          · simp
            refine intF_congr fun j hj => ?_
            by_cases c2 : j = 0
            · rw [if_pos c2, if_pos c2]
            · rw [if_neg c2, if_neg c2, if_pos (by omega)]
        · have w5 : pick ns k 6 = 5 := by omega
          rw [if_neg w4]
          simp [p0, p1, p2, p3, b0, b1, hn0, hn0', w5]
          refine ⟨by omega, ?_⟩
          refine for_mk (S := fun i => [some (.lst false (ns.map D.int)), some (.int k), some (.int n), some (intF true (n + 1) fun j => if j = 0 then lnum ns k else if j < i + 1 then pick ns (k + 1 + ((j - 1 : Nat) : Int)) 2000000001 - 1000000000 else 0), some (.int 5), some (.int (1 + pick ns (k + 1) n)), none, none]) ?_ ?_ ?_
          · congr 4
            congr 1
            refine intF_congr fun j hj => ?_
            unfold sm0
            split
            · rfl
            · rw [if_neg (by omega)]
          · intro i hi
            have p5 := fun m => run_lpick (m := m) ns (k + 1 + (i : Int)) 2000000001 (by omega) (by omega) (by omega)
            have q1 := fun s x => intF_put (n := n + 1) (s := s) (z := (i : Int) + 1) (x := x) (by omega)
            have et : ((i : Int) + 1).toNat = i + 1 := by omega
            rw [et] at q1
            simp [p5, q1]
            refine intF_congr fun j hj => ?_
            simp only [up]
            by_cases c : j = i + 1
            · rw [if_pos c, if_neg (by omega), if_pos (by omega), c]; rfl
            · rw [if_neg c]
              by_cases c2 : j = 0
              · rw [if_pos c2, if_pos c2]
              · rw [if_neg c2, if_neg c2]
                by_cases c3 : j < i + 1
                · rw [if_pos c3, if_pos (by omega)]
                · rw [if_neg c3, if_neg (by omega)]
          · simp
            refine intF_congr fun j hj => ?_
            by_cases c2 : j = 0
            · rw [if_pos c2, if_pos c2]
            · rw [if_neg c2, if_neg c2, if_pos (by omega)]
/-- the value of a sum -/
def val (s : Sm) (b : Nat → Int) : Nat → Int
  | 0 => s 0
  | i + 1 => val s b i + s (i + 1) * b i
theorem toInts_mk {n : Nat} {f : Nat → Int} : toInts (mk n fun i => .int (f i)) = some ((List.range n).map f) := by
  unfold mk
  generalize List.range n = l
  induction l with
  | nil => rfl
  | cons a r ih => rw [List.map_cons, toInts, ih]; rfl
theorem sum_val {s : Sm} {b : Nat → Int} : ∀ {n : Nat}, s 0 + ((List.range n).map fun i => s (i + 1) * b i).sum = val s b n
  | 0 => by simp [val]
  | n + 1 => by
    rw [List.range_succ, List.map_append, List.sum_append, val, ← sum_val (n := n)]
    simp
    omega
theorem run_lvalue (Φ : Fs) {n : Nat} {s : Sm} {b : Nat → Int} (hn : n ≤ 1000) (hs : ∀ i, i < n → mulOk (s (i + 1)) (b i)) : runDf Φ d__law_value_c4d8 [intF false (n + 1) s, intF false n b] = some (.int (val s b n), [none, none]) := by
  refine run_of rfl ?_
  have hbig : big = 1000000 := rfl
  have i0 := intF_atN (o := false) (s := s) (show 0 < n + 1 by omega)
  simp at i0
  simp [d__law_value_c4d8, sat_lc, i0]
  refine ⟨by omega, ?_⟩
  refine lc_mk (fun i => .int (s (i + 1) * b i)) (fun i hi => ?_) ?_
  · have a1 := intF_atN (o := false) (s := s) (show i + 1 < n + 1 by omega)
    have a2 := intF_atN (o := false) (s := b) hi
    simp at a1
    rw [sat_lcF]
    simp [a1, a2, hs i hi]
  · simp [toInts_mk]
    exact sum_val
theorem run_lless (Φ : Fs) {n : Nat} {s u : Sm} (hn : n ≤ 1000) : runDf Φ d__law_less_6b17 [intF false n s, intF false n u] = some (intF false n (fun i => s i - u i), [none, none]) := by
  refine run_of rfl ?_
  have hbig : big = 1000000 := rfl
  simp [d__law_less_6b17, sat_lc]
  refine ⟨by omega, ?_⟩
  refine lc_mk (fun i => .int (s i - u i)) (fun i hi => ?_) ?_
  · have a1 := intF_atN (o := false) (s := s) hi
    have a2 := intF_atN (o := false) (s := u) hi
    rw [sat_lcF]; simp [a1, a2]
  · simp
theorem run_lsum_rest {n : Nat} {s : Sm} {R : Rs2} (hn : n ≤ 1000) (hv : ∀ i, i < n → RV (R i)) (hs : ∀ i, 1 ≤ i → i ≤ n → (s i).natAbs < 2 ^ 40) : runDf (fnsN P (m + 1)) d__law_sum_rest [intF false (n + 1) s, rsF false n R] = some (dP (sr n R s), [none, none]) := by
  refine run_of rfl ?_
  have hbig : big = 1000000 := rfl
  have i0 := intF_atN (o := false) (s := s) (show 0 < n + 1 by omega)
  simp at i0
  simp [d__law_sum_rest, i0]
  refine ⟨by omega, ?_⟩
  refine for_mk (S := fun i => [some (intF false (n + 1) s), some (rsF false n R), some (.int (srM R s i)), some (.int (srR R s i)), none]) rfl ?_ ?_
  · intro i hi
    have a1 := intF_atN (o := false) (s := s) (show i + 1 < n + 1 by omega)
    have a2 := rsF_atN (o := false) (R := R) hi
    have h1 := hs (i + 1) (by omega) (by omega)
    have m1 : ∀ y, mulOk (s (i + 1)) y := fun y => mulOk_l (by omega)
    have r1 := fun Φ => run_lgcd Φ (srM R s i) (s (i + 1) * (R i).1)
    have e1 : (Int.gcd (srM R s i) (s (i + 1) * (R i).1) : Int) = srM R s (i + 1) := by
      rw [srM]
      congr 1
      have v := (hv i hi).1
      unfold Int.gcd
      congr 1
      rw [Int.natAbs_mul, Int.natAbs_mul, Nat.mul_comm, Int.natAbs_natCast]
    have e2 : srR R s i + s (i + 1) * (R i).2 = srR R s (i + 1) := by rw [srR, Int.mul_comm]
    simp at a1
    rw [e1] at r1
    simp [a1, a2, m1, r1, e2]
  · have r1 := fun Φ => run_lrest_of Φ (srM R s n) (srR R s n)
    simp [r1]
    unfold sr
    rw [srF_eq]
end Sr
set_option Elab.async false
set_option linter.all false
set_option maxRecDepth 100000
set_option maxHeartbeats 4000000
/-! # Sr: the law's own greatest -/
namespace Sr
open PySem PySem.Spec PyProof.Rows L2
variable {m : Nat}
def pos (x : Int) : Bool := decide (0 < x)
def ngt (x : Int) : Bool := decide (x < 0)
def nzr (x : Int) : Bool := decide (x ≠ 0)
theorem nz_succ {n : Nat} {p : Int → Bool} {s : Sm} : nz (n + 1) p s = nz n p s ++ if p (s (n + 1)) = true then [n + 1] else [] := by
  unfold nz
  rw [List.range_succ, List.map_append, List.filter_append]
  congr 1
  show List.filter _ [n + 1] = _
  by_cases h : p (s (n + 1)) = true
  · rw [if_pos h, List.filter_cons, if_pos h]; rfl
  · rw [if_neg h, List.filter_cons, if_neg h]; rfl
theorem nz_pos {n : Nat} {s : Sm} : nz n pos s = (nz n nzr s).filter fun i => pos (s i) := by
  unfold nz
  rw [List.filter_filter]
  congr 1
  funext i
  unfold pos nzr
  by_cases c : 0 < s i <;> simp [c]
  omega
theorem nz_neg {n : Nat} {s : Sm} : nz n ngt s = (nz n nzr s).filter fun i => ngt (s i) := by
  unfold nz
  rw [List.filter_filter]
  congr 1
  funext i
  unfold ngt nzr
  by_cases c : s i < 0 <;> simp [c]
  omega
theorem nz_len {s : Sm} : ∀ {n : Nat}, (nz n nzr s).length = (nz n pos s).length + (nz n ngt s).length
  | 0 => rfl
  | n + 1 => by
    rw [nz_succ, nz_succ, nz_succ, List.length_append, List.length_append, List.length_append, nz_len (n := n)]
    unfold nzr pos ngt
    by_cases c : s (n + 1) = 0
    · simp [c]
    · by_cases c2 : 0 < s (n + 1)
      · have c3 : ¬ s (n + 1) < 0 := by omega
        simp [c, c2, c3]; omega
      · have c3 : s (n + 1) < 0 := by omega
        simp [c, c2, c3]; omega
theorem pair_law {n : Nat} {s : Sm} {a b : Nat} : (nz n pos s = [a] ∧ nz n ngt s = [b] ∧ s a = 1 ∧ s b = -1) ↔ pairO n s = some (a, b) := by
  have e : pairO n s = pairL s (nz n nzr s) := rfl
  rw [e]
  constructor
  · rintro ⟨h1, h2, h3, h4⟩
    have hl := nz_len (n := n) (s := s)
    rw [h1, h2] at hl
    rw [nz_pos] at h1
    rw [nz_neg] at h2
    generalize nz n nzr s = Z at *
    match Z, hl with
    | [x, y], _ =>
      by_cases cx : pos (s x) = true <;> by_cases cy : pos (s y) = true
      · simp [List.filter_cons, cx, cy] at h1
      · simp [List.filter_cons, cx, cy] at h1
        subst h1
        have nx : ngt (s x) = false := by unfold ngt; simp [h3]
        simp only [List.filter_cons, nx, List.filter_nil] at h2
        by_cases ny : ngt (s y) = true
        · simp [ny] at h2; subst h2
          simp [pairL, h3, h4]
        · simp [ny] at h2
      · simp [List.filter_cons, cx, cy] at h1
        subst h1
        have nx : ngt (s y) = false := by unfold ngt; simp [h3]
        simp only [List.filter_cons, nx, List.filter_nil] at h2
        by_cases ny : ngt (s x) = true
        · simp [ny] at h2; subst h2
          simp [pairL, h3, h4]
        · simp [ny] at h2
      · simp [List.filter_cons, cx, cy] at h1
  · intro h
    rw [nz_pos, nz_neg]
    generalize nz n nzr s = Z at *
    unfold pairL at h
    split at h
    · rename_i x y
      split at h
      · rename_i c
        cases h
        simp [List.filter_cons, pos, ngt, c.1, c.2]
      · split at h
        · rename_i c
          cases h
          simp [List.filter_cons, pos, ngt, c.1, c.2]
        · cases h
    · cases h
def upS (B : Mx) (s : Sm) (i : Nat) : Int := s i * (B i 0).getD 0
def dnS (B : Mx) (s : Sm) (i : Nat) : Int := s i * (B 0 i).getD 0
theorem grF_law {B : Mx} {s : Sm} : ∀ {n : Nat}, grF B s n = if (∀ i ∈ nz n pos s, B i 0 ≠ none) ∧ (∀ i ∈ nz n ngt s, B 0 i ≠ none) then some (s 0 + ((nz n pos s).map (upS B s)).sum - ((nz n ngt s).map (dnS B s)).sum) else none
  | 0 => by
    rw [if_pos ⟨fun i h => absurd h (by simp [nz]), fun i h => absurd h (by simp [nz])⟩]
    simp [grF, nz]
  | n + 1 => by
    rw [grF, grF_law (n := n), nz_succ, nz_succ]
    by_cases c : s (n + 1) = 0
    · have p1 : ¬ pos (s (n + 1)) = true := by simp [pos, c]
      have p2 : ¬ ngt (s (n + 1)) = true := by simp [ngt, c]
      simp only [if_pos c, if_neg p1, if_neg p2, List.append_nil]
    · by_cases c2 : 0 < s (n + 1)
      · have p1 : pos (s (n + 1)) = true := by simp [pos, c2]
        have p2 : ¬ ngt (s (n + 1)) = true := by simp [ngt]; omega
        have e0 : endO B s (n + 1) = B (n + 1) 0 := by unfold endO; rw [if_neg (by omega)]
        simp only [if_neg c, if_pos p1, if_neg p2, List.append_nil, e0]
        by_cases a : (∀ i ∈ nz n pos s, B i 0 ≠ none) ∧ ∀ i ∈ nz n ngt s, B 0 i ≠ none
        · rw [if_pos a]
          cases hB : B (n + 1) 0 with
          | none =>
            rw [if_neg (fun z => z.1 (n + 1) (by simp) hB)]
          | some y =>
            have hh : ∀ i ∈ nz n pos s ++ [n + 1], B i 0 ≠ none := fun i hi => by
              rcases List.mem_append.mp hi with z | z
              · exact a.1 i z
              · simp at z; rw [z, hB]; simp
            rw [if_pos ⟨hh, a.2⟩]
            have na : ((s (n + 1)).natAbs : Int) = s (n + 1) := by omega
            simp only [List.map_append, List.sum_append, na]
            simp [upS, hB]
            all_goals omega
        · rw [if_neg a, if_neg fun z => a ⟨fun i hi => z.1 i (List.mem_append_left _ hi), z.2⟩]
      · have c3 : s (n + 1) < 0 := by omega
        have p1 : ¬ pos (s (n + 1)) = true := by simp [pos]; omega
        have p2 : ngt (s (n + 1)) = true := by simp [ngt, c3]
        have e0 : endO B s (n + 1) = B 0 (n + 1) := by unfold endO; rw [if_pos c3]
        simp only [if_neg c, if_neg p1, if_pos p2, List.append_nil, e0]
        by_cases a : (∀ i ∈ nz n pos s, B i 0 ≠ none) ∧ ∀ i ∈ nz n ngt s, B 0 i ≠ none
        · rw [if_pos a]
          cases hB : B 0 (n + 1) with
          | none =>
            rw [if_neg (fun z => z.2 (n + 1) (by simp) hB)]
          | some y =>
            have hh : ∀ i ∈ nz n ngt s ++ [n + 1], B 0 i ≠ none := fun i hi => by
              rcases List.mem_append.mp hi with z | z
              · exact a.2 i z
              · simp at z; rw [z, hB]; simp
            rw [if_pos ⟨a.1, hh⟩]
            have na : ((s (n + 1)).natAbs : Int) = -s (n + 1) := by omega
            simp only [List.map_append, List.sum_append, na]
            simp [dnS, hB]
            rw [Int.neg_mul]
            all_goals omega
        · rw [if_neg a, if_neg fun z => a ⟨z.1, fun i hi => z.2 i (List.mem_append_left _ hi)⟩]
theorem list_mk {l : List Nat} : (l.map fun (i : Nat) => D.int (i : Int)) = mk l.length fun k => .int ((l.getD k 0 : Nat) : Int) := by
  refine mk_ext (by simp) fun k hk => ?_
  rw [List.getElem?_map, List.getElem?_eq_getElem hk, List.getD_eq_getElem?_getD, List.getElem?_eq_getElem hk]
  rfl
theorem getD_mem {l : List Nat} {k : Nat} (h : k < l.length) : l.getD k 0 ∈ l := by
  rw [List.getD_eq_getElem?_getD, List.getElem?_eq_getElem h]
  exact List.getElem_mem h
theorem take_sum {l : List Nat} {f : Nat → Int} {k : Nat} (h : k < l.length) : ((l.take (k + 1)).map f).sum = ((l.take k).map f).sum + f (l.getD k 0) := by
  rw [List.take_succ, List.getElem?_eq_getElem h, List.getD_eq_getElem?_getD, List.getElem?_eq_getElem h, List.map_append, List.sum_append]
  congr 1
  show f l[k] + 0 = f l[k]
  omega
theorem inD_row {n : Nat} {r : Nat → Option Int} : inD .non (mk n fun j => dO (r j)) = (List.range n).any fun j => (r j).isNone := by
  unfold inD mk
  rw [List.any_map]
  congr 1
  funext j
  show eqv (dO (r j)) .non = _
  cases r j <;> simp
theorem inD_append {x : D} {xs ys : List D} : inD x (xs ++ ys) = (inD x xs || inD x ys) := by
  unfold inD
  rw [List.any_append]
theorem run_lgreatest (Φ : Fs) {n : Nat} {t : Td} {s : Sm} (hn : n ≤ 1000) (hs : ∀ i, 1 ≤ i → i ≤ n → (s i).natAbs < 2 ^ 40) : runDf Φ d__law_greatest_e95d [tdF false n t, intF false (n + 1) s] = some (dO (gr n t.1 s), [none, none]) := by
  refine run_of rfl ?_
  have hbig : big = 1000000 := rfl
  have i0 := intF_atN (o := false) (s := s) (show 0 < n + 1 by omega)
  simp at i0
  have bl : ∀ p, (nz n p s).length ≤ n := fun p => by
    unfold nz
    refine Nat.le_trans (List.length_filter_le ..) (by simp)
  simp only [d__law_greatest_e95d]
  refine sat_cut (fun e => e = [some (tdF false n t), some (intF false (n + 1) s), some (plD false (nz n pos s)), none, none, none, none]) ?_ ?_
  · simp [sat_lc]
    refine ⟨by omega, ?_⟩
    refine lc_nz (p := pos) (s := s) (fun i h1 h2 => ?_) ?_
    · have a1 := intF_atN (o := false) (s := s) (show i < n + 1 by omega)
      rw [sat_lcF]
      unfold pos
      by_cases c : 0 < s i <;> simp [a1, c]
    · simp [plD]
  rintro e rfl
  refine sat_cut (fun e => e = [some (tdF false n t), some (intF false (n + 1) s), some (plD false (nz n pos s)), some (plD false (nz n ngt s)), none, none, none]) ?_ ?_
  · simp [sat_lc]
    refine ⟨by omega, ?_⟩
    refine lc_nz (p := ngt) (s := s) (fun i h1 h2 => ?_) ?_
    · have a1 := intF_atN (o := false) (s := s) (show i < n + 1 by omega)
      rw [sat_lcF]
      unfold ngt
      by_cases c : s i < 0 <;> simp [a1, c]
    · simp [plD]
  rintro e rfl
  have gm : ∀ p i, i ∈ nz n p s → 1 ≤ i ∧ i ≤ n := fun p i h => (nz_mem.mp h).1
  by_cases hp : ∃ a b, pairO n s = some (a, b)
  · obtain ⟨a, b, hp⟩ := hp
    obtain ⟨h1, h2, h3, h4⟩ := pair_law.mpr hp
    have ga := gm pos a (by rw [h1]; simp)
    have gb := gm ngt b (by rw [h2]; simp)
    have a1 := mxF_atN (o := false) (n := n + 1) (B := t.1) (show a < n + 1 by omega)
    have b1 := rowF_atN (o := false) (r := t.1 a) (show b < n + 1 by omega)
    have s1 := intF_atN (o := false) (s := s) (show a < n + 1 by omega)
    have s2 := intF_atN (o := false) (s := s) (show b < n + 1 by omega)
    unfold gr
    rw [h1, h2, hp]
    cases hB : t.1 a b with
    | none => simp [plD, h3, h4, s1, s2, a1, b1, hB]
    | some x => simp [plD, h3, h4, s1, s2, a1, b1, hB, i0]
  · have hg : gr n t.1 s = grF t.1 s n := by
      unfold gr
      cases h : pairO n s with
      | none => rfl
      | some p => exact absurd ⟨p.1, p.2, h⟩ hp
    have np : ¬ ∃ a b, nz n pos s = [a] ∧ nz n ngt s = [b] ∧ s a = 1 ∧ s b = -1 := fun ⟨a, b, h⟩ => hp ⟨a, b, pair_law.mp h⟩
    rw [hg, grF_law]
    obtain ⟨U, hU⟩ : ∃ U, U = nz n pos s := ⟨_, rfl⟩
    obtain ⟨W, hW⟩ : ∃ W, W = nz n ngt s := ⟨_, rfl⟩
    have gU : ∀ k, k < U.length → 1 ≤ U.getD k 0 ∧ U.getD k 0 ≤ n := fun k hk => gm pos _ (hU ▸ getD_mem hk)
    have gW : ∀ k, k < W.length → 1 ≤ W.getD k 0 ∧ W.getD k 0 ≤ n := fun k hk => gm ngt _ (hW ▸ getD_mem hk)
    have lU : U.length ≤ n := hU ▸ bl pos
    have lW : W.length ≤ n := hW ▸ bl ngt
    rw [← hU, ← hW] at np ⊢
    clear hU hW
    refine sat_cut (fun e => e = [some (tdF false n t), some (intF false (n + 1) s), some (plD false U), some (plD false W), none, none, none]) ?_ ?_
    · -- the test of a pair fails
      match U, W, np, gU, gW with
      | [], W, _, _, _ => simp [plD]
      | [a], [], _, _, _ => simp [plD]
      | [a], [b], np, gU, gW =>
        have ga := gU 0 (by simp)
        have gb := gW 0 (by simp)
        simp at ga gb
        have s1 := intF_atN (o := false) (s := s) (show a < n + 1 by omega)
        have s2 := intF_atN (o := false) (s := s) (show b < n + 1 by omega)
        by_cases c1 : s a = 1
        · have c2 : ¬ s b = -1 := fun z => np ⟨a, b, rfl, rfl, c1, z⟩
          simp [plD, s1, s2, c1, c2]
        · simp [plD, s1, s2, c1]
      | [a], b :: c :: r, _, _, _ =>
        have : ¬ ((r.length : Int) + 1 + 1 = 1) := by omega
        simp [plD, this]
      | a :: b :: r, W, _, _, _ =>
        have : ¬ ((r.length : Int) + 1 + 1 = 1) := by omega
        simp [plD, this]
    rintro e rfl
    have pU : plD false U = .lst false (mk U.length fun k => .int ((U.getD k 0 : Nat) : Int)) := by unfold plD; rw [list_mk]
    have pW : plD false W = .lst false (mk W.length fun k => .int ((W.getD k 0 : Nat) : Int)) := by unfold plD; rw [list_mk]
    have ends : binD .add (rowF true U.length fun k => t.1 (U.getD k 0) 0) (rowF true W.length fun k => t.1 0 (W.getD k 0)) = some (.lst true ((mk U.length fun k => dO (t.1 (U.getD k 0) 0)) ++ mk W.length fun k => dO (t.1 0 (W.getD k 0)))) := by
      unfold rowF
      rw [binD_cat, if_pos]
      simp; omega
    refine sat_cut (fun e => e = [some (tdF false n t), some (intF false (n + 1) s), some (plD false U), some (plD false W), some (.lst false ((mk U.length fun k => dO (t.1 (U.getD k 0) 0)) ++ mk W.length fun k => dO (t.1 0 (W.getD k 0)))), none, none]) ?_ ?_
    · rw [pU, pW]
      simp [sat_lc]
      refine lc_mk (fun k => dO (t.1 (U.getD k 0) 0)) (fun k hk => ?_) ?_
      · have gk := gU k hk
        have a1 := mxF_atN (o := false) (n := n + 1) (B := t.1) (show U.getD k 0 < n + 1 by omega)
        have b1 := rowF_atN (o := false) (r := t.1 (U.getD k 0)) (show 0 < n + 1 by omega)
        simp only [Int.natCast_zero] at b1
        rw [sat_lcF]
        simp only [List.getD_eq_getElem?_getD] at *
        simp [a1, b1]
      · simp [sat_lc]
        refine lc_mk (fun k => dO (t.1 0 (W.getD k 0))) (fun k hk => ?_) ?_
        · have gk := gW k hk
          have a1 := mxF_atN (o := false) (n := n + 1) (B := t.1) (show 0 < n + 1 by omega)
          have b1 := rowF_atN (o := false) (r := t.1 0) (show W.getD k 0 < n + 1 by omega)
          simp only [Int.natCast_zero] at a1
          rw [sat_lcF]
          simp only [List.getD_eq_getElem?_getD] at *
          simp [a1, b1]
        · simp only [List.getD_eq_getElem?_getD] at ends
          simp [ends]
          have e1 : ∀ xs ys : List D, shrL (xs ++ ys) = shrL xs ++ shrL ys := fun xs ys => by
            induction xs with
            | nil => rfl
            | cons a r ih => simp [ih]
          simp [e1]
    rintro e rfl
    have okE : eqOk (.lst false ((mk U.length fun k => dO (t.1 (U.getD k 0) 0)) ++ mk W.length fun k => dO (t.1 0 (W.getD k 0)))) = true := by simp
    by_cases hall : (∀ i ∈ U, t.1 i 0 ≠ none) ∧ ∀ i ∈ W, t.1 0 i ≠ none
    · have i1 : inD .non (mk U.length fun k => dO (t.1 (U.getD k 0) 0)) = false := by
        rw [inD_row, List.any_eq_false]
        intro k hk
        have := hall.1 _ (getD_mem (List.mem_range.mp hk))
        cases h : t.1 (U.getD k 0) 0 with
        | none => exact absurd h this
        | some x => simp
      have i2 : inD .non (mk W.length fun k => dO (t.1 0 (W.getD k 0))) = false := by
        rw [inD_row, List.any_eq_false]
        intro k hk
        have := hall.2 _ (getD_mem (List.mem_range.mp hk))
        cases h : t.1 0 (W.getD k 0) with
        | none => exact absurd h this
        | some x => simp
      rw [if_pos hall]
      rw [pU, pW]
      simp only [List.getD_eq_getElem?_getD] at i1 i2
      simp [inD_append, i1, i2, i0]
      refine for_mk (S := fun k => [some (tdF false n t), some (intF false (n + 1) s), some (plD false U), some (plD false W), some (.lst false ((mk U.length fun k => dO (t.1 (U.getD k 0) 0)) ++ mk W.length fun k => dO (t.1 0 (W.getD k 0)))), some (.int (s 0 + ((U.take k).map (upS t.1 s)).sum)), none]) ?_ ?_ ?_
      · rw [pU, pW]; simp
      · intro k hk
        have gk := gU k hk
        have hx : ∃ x, t.1 (U.getD k 0) 0 = some x := by
          cases h : t.1 (U.getD k 0) 0 with
          | none => exact absurd h (hall.1 _ (getD_mem hk))
          | some x => exact ⟨x, rfl⟩
        obtain ⟨x, hx⟩ := hx
        have a1 := mxF_atN (o := false) (n := n + 1) (B := t.1) (show U.getD k 0 < n + 1 by omega)
        have b1 := rowF_atN (o := false) (r := t.1 (U.getD k 0)) (show 0 < n + 1 by omega)
        have s1 := intF_atN (o := false) (s := s) (show U.getD k 0 < n + 1 by omega)
        have m1 : mulOk (s (U.getD k 0)) x := mulOk_l (by have := hs _ gk.1 gk.2; omega)
        have ts := take_sum (f := upS t.1 s) hk
        simp only [Int.natCast_zero] at b1
        simp only [upS, hx, Option.getD_some] at ts
        simp only [List.getD_eq_getElem?_getD] at *
        simp [a1, b1, s1, m1, hx, ts, Int.add_assoc]
        simp only [List.map_take] at ts
        rw [ts]
      · simp
        rw [pW]
        simp
        refine for_mk (S := fun k => [some (tdF false n t), some (intF false (n + 1) s), some (plD false U), some (plD false W), some (.lst false ((mk U.length fun k => dO (t.1 (U.getD k 0) 0)) ++ mk W.length fun k => dO (t.1 0 (W.getD k 0)))), some (.int (s 0 + (U.map (upS t.1 s)).sum - ((W.take k).map (dnS t.1 s)).sum)), none]) ?_ ?_ ?_
        · rw [pW]; simp
        · intro k hk
          have gk := gW k hk
          have hx : ∃ x, t.1 0 (W.getD k 0) = some x := by
            cases h : t.1 0 (W.getD k 0) with
            | none => exact absurd h (hall.2 _ (getD_mem hk))
            | some x => exact ⟨x, rfl⟩
          obtain ⟨x, hx⟩ := hx
          have a1 := mxF_atN (o := false) (n := n + 1) (B := t.1) (show 0 < n + 1 by omega)
          have b1 := rowF_atN (o := false) (r := t.1 0) (show W.getD k 0 < n + 1 by omega)
          have s1 := intF_atN (o := false) (s := s) (show W.getD k 0 < n + 1 by omega)
          have m1 : mulOk (s (W.getD k 0)) x := mulOk_l (by have := hs _ gk.1 gk.2; omega)
          have ts := take_sum (f := dnS t.1 s) hk
          simp only [Int.natCast_zero] at a1
          simp only [dnS, hx, Option.getD_some] at ts
          simp only [List.getD_eq_getElem?_getD] at *
          simp [a1, b1, s1, m1, hx, ts]
          simp only [List.map_take] at ts
          rw [ts]
          omega
        · simp
    · have i1 : (inD .non (mk U.length fun k => dO (t.1 (U.getD k 0) 0)) || inD .non (mk W.length fun k => dO (t.1 0 (W.getD k 0)))) = true := by
        rw [inD_row, inD_row, Bool.or_eq_true, List.any_eq_true, List.any_eq_true]
        by_cases c : ∀ i ∈ U, t.1 i 0 ≠ none
        · right
          have c2 : ¬ ∀ i ∈ W, t.1 0 i ≠ none := fun z => hall ⟨c, z⟩
          simp only [Classical.not_forall] at c2
          obtain ⟨i, hi, hn⟩ := c2
          obtain ⟨k, hk, rfl⟩ := List.getElem_of_mem hi
          refine ⟨k, List.mem_range.mpr hk, ?_⟩
          rw [List.getD_eq_getElem?_getD, List.getElem?_eq_getElem hk]
          simp at hn ⊢
          exact hn
        · left
          simp only [Classical.not_forall] at c
          obtain ⟨i, hi, hn⟩ := c
          obtain ⟨k, hk, rfl⟩ := List.getElem_of_mem hi
          refine ⟨k, List.mem_range.mpr hk, ?_⟩
          rw [List.getD_eq_getElem?_getD, List.getElem?_eq_getElem hk]
          simp at hn ⊢
          exact hn
      rw [if_neg hall]
      rw [← inD_append] at i1
      simp only [List.getD_eq_getElem?_getD] at i1
      simp [i1]
end Sr
set_option Elab.async false
set_option linter.all false
set_option maxRecDepth 100000
set_option maxHeartbeats 4000000
/-! # Sr: greatest and rests of sums, of boxes that lie in what is told -/
namespace Sr
open PySem PySem.Spec PyProof.Rows L2
variable {m : Nat}
theorem val_nz {s : Sm} {b : Nat → Int} : ∀ {n : Nat}, val s b n = s 0 + ((nz n nzr s).map fun i => s i * b (i - 1)).sum
  | 0 => by simp [val, nz]
  | n + 1 => by
    rw [val, val_nz (n := n), nz_succ]
    by_cases c : s (n + 1) = 0
    · have p : ¬ nzr (s (n + 1)) = true := by simp [nzr, c]
      rw [if_neg p, c]; simp
    · have p : nzr (s (n + 1)) = true := by simp [nzr, c]
      rw [if_pos p, List.map_append, List.sum_append]
      simp
      omega
theorem grF_lies {n : Nat} {B : Mx} {s : Sm} {b : Nat → Int} (l : LiB n B b) : ∀ {i : Nat} {x : Int}, i ≤ n → grF B s i = some x → val s b i ≤ x
  | 0, x, _, h => by cases h; exact Int.le_refl _
  | i + 1, x, hi, h => by
    rw [grF] at h
    rw [val]
    split at h
    · rename_i c
      have := grF_lies l (by omega) h
      rw [c]; omega
    · rename_i c
      split at h
      · rename_i a e ha he
        cases h
        have ih := grF_lies l (by omega) ha
        have key : s (i + 1) * b i ≤ (s (i + 1)).natAbs * e := by
          unfold endO at he
          split at he
          · rename_i c2
            have := l.b 0 (i + 1) e (by omega) hi he
            simp at this
            have na : ((s (i + 1)).natAbs : Int) = -s (i + 1) := by omega
            rw [na]
            have q : 0 ≤ -s (i + 1) := by omega
            have := Int.mul_le_mul_of_nonneg_left (show -b i ≤ e by omega) q
            rw [Int.neg_mul_neg] at this
            exact this
          · rename_i c2
            have := l.b (i + 1) 0 e hi (by omega) he
            simp at this
            have na : ((s (i + 1)).natAbs : Int) = s (i + 1) := by omega
            rw [na]
            exact Int.mul_le_mul_of_nonneg_left this (by omega)
        omega
      · cases h
theorem gr_lies {n : Nat} {B : Mx} {s : Sm} {b : Nat → Int} (l : LiB n B b) {x : Int} (h : gr n B s = some x) : val s b n ≤ x := by
  unfold gr at h
  split at h
  · rename_i p hp
    obtain ⟨⟨g1, h1⟩, g2, h2⟩ := pairO_in hp
    cases hB : B p.1 p.2 with
    | none => rw [hB] at h; cases h
    | some y =>
      rw [hB] at h
      cases h
      show _ ≤ y + s 0
      have q := l.b p.1 p.2 y h1 h2 hB
      have e1 : ∀ i, 1 ≤ i → fl b i = b (i - 1) := fun i hi => by unfold fl; rw [if_neg (by omega)]
      rw [e1 _ g1, e1 _ g2] at q
      have e2 : pairO n s = pairL s (nz n nzr s) := rfl
      rw [e2] at hp
      rw [val_nz]
      generalize nz n nzr s = Z at *
      unfold pairL at hp
      split at hp
      · rename_i a c
        split at hp
        · rename_i w
          cases hp
          simp only at q
          simp [w.1, w.2]
          omega
        · split at hp
          · rename_i w
            cases hp
            simp only at q
            simp [w.1, w.2]
            omega
          · cases hp
      · cases hp
  · exact grF_lies l (Nat.le_refl n) h
theorem val_neg {s : Sm} {b : Nat → Int} : ∀ {n : Nat}, val (fun i => -s i) b n = -val s b n
  | 0 => rfl
  | n + 1 => by
    rw [val, val, val_neg (n := n), Int.neg_mul]; omega
theorem val_sub {s u : Sm} {b : Nat → Int} : ∀ {n : Nat}, val (fun i => s i - u i) b n = val s b n - val u b n
  | 0 => rfl
  | n + 1 => by
    rw [val, val, val, val_sub (n := n), Int.sub_mul]; omega
theorem val_add {s u : Sm} {b : Nat → Int} : ∀ {n : Nat}, val (fun i => s i + u i) b n = val s b n + val u b n
  | 0 => rfl
  | n + 1 => by
    rw [val, val, val, val_add (n := n), Int.add_mul]; omega
theorem val_congr {s u : Sm} {b : Nat → Int} : ∀ {n : Nat}, (∀ i, i ≤ n → s i = u i) → val s b n = val u b n
  | 0, h => h 0 (Nat.le_refl 0)
  | n + 1, h => by rw [val, val, val_congr (n := n) fun i hi => h i (by omega), h (n + 1) (Nat.le_refl _)]
theorem val_0 {b : Nat → Int} : ∀ {n : Nat}, val (fun _ => 0) b n = 0
  | 0 => rfl
  | n + 1 => by rw [val, val_0]; simp
theorem srR_lies {R : Rs2} {s : Sm} {b : Nat → Int} {n : Nat} (l : LiR n R b) : ∀ {i : Nat}, i ≤ n → srM R s i ∣ val s b i - srR R s i
  | 0, _ => by simp [val, srR]
  | i + 1, hi => by
    rw [srM, val, srR]
    have h1 := Int.dvd_trans (Int.gcd_dvd_left (srM R s i) ((R i).1 * ((s (i + 1)).natAbs : Int))) (srR_lies (s := s) l (i := i) (by omega))
    have h2 : (Int.gcd (srM R s i) ((R i).1 * ((s (i + 1)).natAbs : Int)) : Int) ∣ s (i + 1) * b i - (R i).2 * s (i + 1) := by
      refine Int.dvd_trans (Int.gcd_dvd_right ..) ?_
      have e : s (i + 1) * b i - (R i).2 * s (i + 1) = (b i - (R i).2) * s (i + 1) := by rw [Int.sub_mul, Int.mul_comm (s (i + 1))]
      rw [e]
      refine Int.mul_dvd_mul (l i (by omega)) ?_
      rw [Int.natAbs_dvd]; exact Int.dvd_refl _
    have := Int.dvd_add h1 h2
    have e : val s b i - srR R s i + (s (i + 1) * b i - (R i).2 * s (i + 1)) = val s b i + s (i + 1) * b i - (srR R s i + (R i).2 * s (i + 1)) := by omega
    rwa [e] at this
theorem sr_lies {n : Nat} {R : Rs2} {s : Sm} {b : Nat → Int} (l : LiR n R b) : (sr n R s).1 ∣ val s b n - (sr n R s).2 := by
  unfold sr
  rw [srF_eq, has_mk]
  exact srR_lies l (Nat.le_refl n)
/-! a told thing put into other boxes -/
def fS (S : Nat → Sm) : Nat → Sm := fun k => if k = 0 then fun _ => 0 else S (k - 1)
@[simp] theorem fS_0 {S : Nat → Sm} : fS S 0 = fun _ => 0 := rfl
@[simp] theorem fS_1 {S : Nat → Sm} {k : Nat} : fS S (k + 1) = S k := by simp [fS]
/-- the told thing of the values of sums, not sharpened -/
def rc0 (n : Nat) (S : Nat → Sm) (t : Td) : Td := (fun i j => gr n t.1 fun c => fS S i c - fS S j c, fun k => sr n t.2 (S k))
noncomputable def rcO (n K : Nat) (S : Nat → Sm) (t : Td) : Option Td := shO K (rc0 n S t)
theorem gr_zero {n : Nat} {B : Mx} {s : Sm} (h : ∀ i, i ≤ n → s i = 0) : gr n B s = some 0 := by
  have e1 : nz n nzr s = [] := by
    rw [List.eq_nil_iff_forall_not_mem]
    intro i hi
    obtain ⟨⟨h1, h2⟩, h3⟩ := nz_mem.mp hi
    rw [h i h2] at h3
    simp [nzr] at h3
  have e2 : pairO n s = none := by
    show pairL s (nz n nzr s) = none
    rw [e1]; rfl
  have e3 : ∀ i, i ≤ n → grF B s i = some 0 := fun i hi => by
    induction i with
    | zero => rw [grF, h 0 hi]
    | succ i ih => rw [grF, if_pos (h _ hi), ih (by omega)]
  unfold gr
  rw [e2, e3 n (Nat.le_refl n)]
theorem rc0_tv {n K : Nat} {S : Nat → Sm} {t : Td} : TV K (rc0 n S t) := ⟨fun i _ => gr_zero fun c _ => by simp, fun i _ => srF_v⟩
theorem rc0_lies {n K : Nat} {S : Nat → Sm} {t : Td} {b : Nat → Int} (l : Lies n t b) : Lies K (rc0 n S t) (fun k => val (S k) b n) := by
  refine ⟨⟨fun i j x hi hj e => ?_⟩, fun k hk => sr_lies l.r⟩
  have q := gr_lies l.b e
  rw [val_sub] at q
  have f : ∀ i, fl (fun k => val (S k) b n) i = val (fS S i) b n := fun i => by
    cases i with
    | zero => rw [fS_0, val_0]; rfl
    | succ i => rw [fS_1, fl_1]
  rw [f, f]; exact q
/-- the product of what the sums multiply by -/
def kofs (n : Nat) (S : Nat → Sm) : Nat → Int
  | 0 => 1
  | k + 1 => kofs n S k * kof (S k) n
theorem kofs_pos {n : Nat} {S : Nat → Sm} : ∀ {K : Nat}, 0 < kofs n S K
  | 0 => by show (0 : Int) < 1; decide
  | K + 1 => Int.mul_pos kofs_pos kof_pos
theorem kofs_dvd {n : Nat} {S : Nat → Sm} : ∀ {K k : Nat}, k < K → kof (S k) n ∣ kofs n S K
  | 0, k, h => absurd h (Nat.not_lt_zero k)
  | K + 1, k, h => by
    rw [kofs]
    by_cases c : k = K
    · subst c; exact Int.dvd_mul_left ..
    · exact Int.dvd_mul_of_dvd_left (kofs_dvd (by omega))
theorem kofs_bits {n K : Nat} {S : Nat → Sm} (hs : ∀ k, k < K → ∀ i, 1 ≤ i → i ≤ n → (S k i).natAbs < 2 ^ 39) : ∀ {k : Nat}, k ≤ K → bits (kofs n S k) ≤ (40 * n + 1) * k + 1
  | 0, _ => by show bits 1 ≤ 1; decide
  | k + 1, hk => by
    rw [kofs]
    have b2 := kof_bits (s := S k) (n := n) (fun i h1 h2 => by have := hs k (by omega) i h1 h2; omega) (Nat.le_refl n)
    exact bits_le (intBits_mul_le (kofs_bits hs (k := k) (by omega)) b2) (by rw [Nat.mul_succ]; omega)
/-- how sizes grow when a told thing is put into other boxes -/
theorem rc0_ok {n K : Nat} {S : Nat → Sm} {t : Td} {L : Int} {β γ : Nat} (hn : n ≤ 14) (hL : 0 < L) (hb : bits L ≤ β) (o : Ok L β n t) (hs : ∀ k, k < K → ∀ i, 1 ≤ i → i ≤ n → (S k i).natAbs < 2 ^ 39) (h0 : ∀ k, k < K → bits (S k 0) ≤ γ) (hγ : β + 40 ≤ γ) (hγ2 : (40 * n + 1) * K + 1 + β ≤ γ + 16) : 0 < kofs n S K * L ∧ bits (kofs n S K * L) ≤ γ + 16 ∧ Ok (kofs n S K * L) (γ + 16) K (rc0 n S t) := by
  have p := Int.mul_pos (kofs_pos (n := n) (S := S) (K := K)) hL
  have hbits : bits (kofs n S K * L) ≤ γ + 16 := bits_le (intBits_mul_le (kofs_bits hs (Nat.le_refl K)) hb) hγ2
  refine ⟨p, hbits, ⟨rc0_tv.d, fun i j x hi hj e => ?_⟩, fun k hk => ⟨rc0_tv.v k hk, ?_, ?_⟩⟩
  · have f0 : ∀ i, i ≤ K → bits (fS S i 0) ≤ γ := fun i hi => by
      cases i with
      | zero => exact Nat.zero_le _
      | succ i => rw [fS_1]; exact h0 i (by omega)
    have f1 : ∀ i, i ≤ K → ∀ c, 1 ≤ c → c ≤ n → (fS S i c).natAbs < 2 ^ 39 := fun i hi c h1 h2 => by
      cases i with
      | zero => show (0 : Int).natAbs < 2 ^ 39; decide
      | succ i => rw [fS_1]; exact hs i (by omega) c h1 h2
    have := gr_bits (γ := γ + 1) o.b (bits_le (intBits_sub_le (f0 i hi) (f0 j hj)) (by omega)) (fun c h1 h2 => by
      have a := f1 i hi c h1 h2
      have b := f1 j hj c h1 h2
      show (fS S i c - fS S j c).natAbs < 2 ^ 40
      omega) (by omega) e
    omega
  · show (srF t.2 (S k) n).1 = 0 ∨ (srF t.2 (S k) n).1 ∣ _
    rw [srF_eq]
    refine (srM_dvd (L := L) (fun i hi => (o.r i hi).d) (Nat.le_refl n)).imp id fun h => ?_
    exact Int.dvd_trans h (Int.mul_dvd_mul (kofs_dvd hk) (Int.dvd_refl L))
  · show bits (srF t.2 (S k) n).2 ≤ γ + 16
    have v : 0 ≤ srM t.2 (S k) n := srM_nn
    rw [srF_eq]
    have br := srR_bits (s := S k) (γ := γ) (fun i hi => (o.r i hi).b) (h0 k hk) (fun i h1 h2 => by have := hs k hk i h1 h2; omega) hγ (Nat.le_refl n)
    by_cases c : srM t.2 (S k) n = 0
    · rw [c, rmk_2, rmod_0]; omega
    · refine bits_mod p hbits (by omega) ?_
      have := (srM_dvd (s := S k) (L := L) (fun i hi => (o.r i hi).d) (Nat.le_refl n)).resolve_left c
      exact Int.dvd_trans this (Int.mul_dvd_mul (kofs_dvd hk) (Int.dvd_refl L))
end Sr
set_option Elab.async false
set_option linter.all false
set_option maxRecDepth 100000
set_option maxHeartbeats 4000000
/-! # Sr: what a law asks of told things, run -/
namespace Sr
open PySem PySem.Spec PyProof.Rows L2
variable {m : Nat}
open Classical in
noncomputable def dB (p : Prop) : Bool := decide p
theorem dB_t {p : Prop} (h : p) : dB p = true := by unfold dB; simp [h]
theorem dB_f {p : Prop} (h : ¬ p) : dB p = false := by unfold dB; simp [h]
theorem dB_iff {p : Prop} : dB p = true ↔ p := by unfold dB; simp
theorem dB_congr {p q : Prop} (h : p ↔ q) : dB p = dB q := by rw [propext h]
def uB (o o' : Option Int) : Bool := match o' with
  | none => true
  | some y => match o with
    | none => false
    | some x => decide (x ≤ y)
theorem uB_iff {o o' : Option Int} : uB o o' = true ↔ U o o' := by
  unfold uB U
  cases o' with
  | none => simp
  | some y => cases o <;> simp
theorem run_lunder (Φ : Fs) (o o' : Option Int) : runDf Φ d__law_under [dO o, dO o'] = some (.bl (uB o o'), [none, none]) := by
  refine run_of rfl ?_
  cases o' with
  | none => simp [d__law_under, uB]
  | some y => cases o <;> simp [d__law_under, uB]
theorem run_lunderI (Φ : Fs) (x : Int) (o' : Option Int) : runDf Φ d__law_under [.int x, dO o'] = some (.bl (uB (some x) o'), [none, none]) := run_lunder Φ (some x) o'
theorem run_lunderJ (Φ : Fs) (o : Option Int) (y : Int) : runDf Φ d__law_under [dO o, .int y] = some (.bl (uB o (some y)), [none, none]) := run_lunder Φ o (some y)
/-- the law's own inside of rests -/
noncomputable def rinB (p q : Int × Int) : Bool := dB (RI p q)
theorem eqv_dP {p q : Int × Int} : eqv (dP p) (dP q) = (decide (p.1 = q.1) && decide (p.2 = q.2)) := by
  show eqv (.tup [.int p.1, .int p.2]) (.tup [.int q.1, .int q.2]) = _
  rw [eqv_t, eqv_t, eqv_t0, eqv_i, eqv_i, Bool.and_true]
theorem run_lrest_in (Φ : Fs) (p q : Int × Int) (hp : RV p) (hq : RV q) : runDf Φ d__law_rest_in [dP p, dP q] = some (.bl (dB (RI p q)), [none, none]) := by
  refine run_of rfl ?_
  by_cases h0 : q.1 = 0
  · have e : dB (RI p q) = (decide (p.1 = q.1) && decide (p.2 = q.2)) := by
      by_cases c : p.1 = q.1 ∧ p.2 = q.2
      · rw [dB_t, c.1, c.2]
        · simp
        · exact ⟨by rw [c.2]; simp, by rw [c.1]; exact Int.dvd_refl _⟩
      · rw [dB_f]
        · by_cases c1 : p.1 = q.1 <;> by_cases c2 : p.2 = q.2 <;> simp [c1, c2]
          exact absurd ⟨c1, c2⟩ c
        · intro h
          have h1 := h.1
          have h2 := h.2
          rw [h0] at h1 h2
          have := Int.zero_dvd.mp h1
          have := Int.zero_dvd.mp h2
          exact c ⟨by omega, by omega⟩
    rw [e]
    simp [d__law_rest_in, h0, eqv_dP]
  · by_cases c1 : q.1 ∣ p.1
    · by_cases c2 : q.1 ∣ p.2 - q.2
      · have e : dB (RI p q) = true := dB_t ⟨c2, c1⟩
        simp [d__law_rest_in, h0, fmod0, c1, c2, e]
      · have e : dB (RI p q) = false := dB_f fun h => c2 h.1
        simp [d__law_rest_in, h0, fmod0, c1, c2, e]
    · have e : dB (RI p q) = false := dB_f fun h => c1 h.2
      simp [d__law_rest_in, h0, fmod0, c1, e]
theorem run_linside {n : Nat} {t u : Td} (hn : n ≤ 900) (ht : ∀ i, i < n → RV (t.2 i)) (hu : ∀ i, i < n → RV (u.2 i)) : runDf (fnsN P (m + 1)) d__law_inside_5dab [tdF false n t, tdF false n u] = some (.bl (dB (TI n t u)), [none, none]) := by
  refine run_of rfl ?_
  have hbig : big = 1000000 := rfl
  simp [d__law_inside_5dab]
  refine ⟨by omega, ?_⟩
  refine for_all (fun i => ∀ j, j < n + 1 → U (t.1 i j) (u.1 i j)) [some (tdF false n t), some (tdF false n u), none, none, none] rfl ?_ ?_
  · intro i hi
    simp
    refine ⟨by omega, ?_⟩
    refine for_all (fun j => U (t.1 i j) (u.1 i j)) [some (tdF false n t), some (tdF false n u), some (.int i), none, none] rfl ?_ ?_
    · intro j hj
      have a1 := fun M => mxF_atN (o := false) (n := n + 1) (B := M) hi
      have b1 := fun r => rowF_atN (o := false) (r := r) hj
      have ru := fun Φ => run_lunder Φ (t.1 i j) (u.1 i j)
      by_cases c : U (t.1 i j) (u.1 i j)
      · have e := uB_iff.mpr c
        rw [e] at ru
        simp [a1, b1, ru, c]
      · have e : uB (t.1 i j) (u.1 i j) = false := by
          cases h : uB (t.1 i j) (u.1 i j) with
          | false => rfl
          | true => exact absurd (uB_iff.mp h) c
        rw [e] at ru
        simp [a1, b1, ru, c]
        intro x hx hc
        exact ⟨⟨x, hx, hc⟩, fun y hy z hz hc' => dB_f fun (h : TI n t u) => hc' (h.b y z (by omega) (by omega))⟩
    · intro h
      simpa using h
  · intro hB
    simp
    refine ⟨by omega, ?_⟩
    refine for_all (fun k => RI (t.2 k) (u.2 k)) [some (tdF false n t), some (tdF false n u), none, none, none] rfl ?_ ?_
    · intro k hk
      have a1 := fun R => rsF_atN (o := false) (R := R) hk
      have rr := fun Φ => run_lrest_in Φ (t.2 k) (u.2 k) (ht k hk) (hu k hk)
      by_cases c : RI (t.2 k) (u.2 k)
      · rw [dB_t c] at rr
        simp [a1, rr, c]
      · rw [dB_f c] at rr
        simp [a1, rr, c]
        intro x hx hc
        exact dB_f fun (h : TI n t u) => hc (h.r x hx)
    · intro hR
      simp
      exact dB_t ⟨fun i j hi hj => hB i (by omega) j (by omega), hR⟩
theorem run_linside_0 {Φ : Fs} {d : D} (u : d.un = true) (hd : eqOk d = true) : runDf Φ d__law_inside_5dab [.non, d] = some (.bl true, [none, none]) := by
  refine run_of rfl ?_
  simp [d__law_inside_5dab, u]
theorem run_linside_1 {Φ : Fs} {n : Nat} {t : Td} : runDf Φ d__law_inside_5dab [tdF false n t, .non] = some (.bl false, [none, none]) := by
  refine run_of rfl ?_
  simp [d__law_inside_5dab]
theorem run_llies {n : Nat} {t : Td} {b : Nat → Int} (hn : n ≤ 900) (ht : ∀ i, i < n → RV (t.2 i)) (Φ : Fs) : runDf Φ d__law_lies_38ce [tdF false n t, intF false n b] = some (.bl (dB (Lies n t b)), [none, none]) := by
  refine run_of rfl ?_
  have hbig : big = 1000000 := rfl
  simp [d__law_lies_38ce, add_int (show n ≤ 10000 by omega)]
  refine ⟨by omega, ?_⟩
  refine for_all (fun i => ∀ j, j < n + 1 → ∀ x, t.1 i j = some x → fl b i - fl b j ≤ x) [some (tdF false n t), some (intF false n b), some (intF false (n + 1) (fl b)), none, none, none, none] rfl ?_ ?_
  · intro i hi
    simp
    refine ⟨by omega, ?_⟩
    refine for_all (fun j => ∀ x, t.1 i j = some x → fl b i - fl b j ≤ x) [some (tdF false n t), some (intF false n b), some (intF false (n + 1) (fl b)), some (.int i), none, none, none] rfl ?_ ?_
    · intro j hj
      have a1 := fun M => mxF_atN (o := false) (n := n + 1) (B := M) hi
      have b1 := fun r => rowF_atN (o := false) (r := r) hj
      have f1 := intF_atN (o := false) (s := fl b) hi
      have f2 := intF_atN (o := false) (s := fl b) hj
      cases hx : t.1 i j with
      | none => simp [a1, b1, hx]
      | some x =>
        by_cases c : fl b j + x < fl b i
        · simp [a1, b1, f1, f2, hx, c]
          refine ⟨by omega, fun y hy z hz hl => ?_⟩
          refine ⟨⟨y, hy, z, hz, hl⟩, fun y' hy' z' hz' w hw hl' => ?_⟩
          exact dB_f fun (h : Lies n t b) => by
            have := h.b.b y' z' w (by omega) (by omega) hw
            omega
        · simp [a1, b1, f1, f2, hx, c]
          omega
    · intro h
      simpa using h
  · intro hB
    simp
    refine ⟨by omega, ?_⟩
    refine for_all (fun k => (t.2 k).1 ∣ b k - (t.2 k).2) [some (tdF false n t), some (intF false n b), some (intF false (n + 1) (fl b)), none, none, none, none] rfl ?_ ?_
    · intro k hk
      have a1 := fun R => rsF_atN (o := false) (R := R) hk
      have f1 := intF_atN (o := false) (s := b) hk
      have v := ht k hk
      by_cases c : (t.2 k).1 ∣ b k - (t.2 k).2
      · by_cases z : (t.2 k).1 = 0
        · have c2 := c
          rw [z] at c2
          have c3 := Int.zero_dvd.mp c2
          simp [a1, f1, z, c3]
        · have p : 0 < (t.2 k).1 := by have := v.1; omega
          have c2 := fmod0.mpr c
          simp [a1, f1, z, p, c2, c]
      · have fin : ∀ x, x < n → ¬ (t.2 x).1 ∣ b x - (t.2 x).2 → dB (Lies n t b) = false := fun x hx h => dB_f fun l => h (l.r x hx)
        by_cases z : (t.2 k).1 = 0
        · have c3 : ¬ b k - (t.2 k).2 = 0 := fun e => c (by rw [z, e]; exact Int.dvd_refl 0)
          simp [a1, f1, z, c3]
          exact fin
        · have p : 0 < (t.2 k).1 := by have := v.1; omega
          have c2 : ¬ (b k - (t.2 k).2).fmod (t.2 k).1 = 0 := fun e => c (fmod0.mp e)
          simp [a1, f1, z, p, c2, c]
          exact fin
    · intro hR
      simp
      exact dB_t ⟨⟨fun i j x hi hj e => hB i (by omega) j (by omega) x e⟩, hR⟩
theorem run_llies_none {Φ : Fs} {n : Nat} {b : Nat → Int} : runDf Φ d__law_lies_38ce [.non, intF false n b] = some (.bl false, [none, none]) := by
  refine run_of rfl ?_
  simp [d__law_lies_38ce]
theorem run_lover {n : Nat} {B : Mx} (hn : n ≤ 1000) {i j : Nat} (hi : i < n) (hj : j < n) (h : ∀ k, k < n → U (B i j) (oAdd (B i k) (B k j))) : runDf (fnsN P (m + 1)) d__law_over_50ad [mxF false n n B, .int (i : Int), .int (j : Int)] = some (.bl true, [none, none, none]) := by
  refine run_of rfl ?_
  have hbig : big = 1000000 := rfl
  simp [d__law_over_50ad]
  refine ⟨by omega, ?_⟩
  refine for_mk (S := fun _ => [some (mxF false n n B), some (.int (i : Int)), some (.int (j : Int)), none]) rfl ?_ ?_
  · intro k hk
    have a1 := mxF_atN (o := false) (n := n) (B := B) hi
    have a2 := mxF_atN (o := false) (n := n) (B := B) hk
    have b1 := fun r => rowF_atN (o := false) (r := r) hk
    have b2 := fun r => rowF_atN (o := false) (r := r) hj
    have u := h k hk
    cases h1 : B i k with
    | none => simp [a1, b1, h1]
    | some x1 =>
      cases h2 : B k j with
      | none => simp [a1, a2, b1, b2, h1, h2]
      | some x2 =>
        rw [h1, h2] at u
        have e := uB_iff.mpr u
        have ru := fun Φ => run_lunderJ Φ (B i j) (x1 + x2)
        have e2 : uB (B i j) (some (x1 + x2)) = true := e
        rw [e2] at ru
        simp [a1, a2, b1, b2, h1, h2, ru]
  · simp
theorem add_rs {n : Nat} {R : Rs2} (hn : n ≤ 10000) : binD .add (.lst true [dP (0, 0)]) (rsF false n R) = some (rsF true (n + 1) (ful R)) := by
  have hbig : big = 1000000 := rfl
  rw [← cons_rs]
  show (if (unL [dP (0, 0)] && unL (mk n fun j => dP (R j)) && decide ([dP (0, 0)].length + (mk n fun j => dP (R j)).length ≤ big)) = true then some (D.lst true ([dP (0, 0)] ++ mk n fun j => dP (R j))) else none) = _
  rw [if_pos]
  · rfl
  · simp; omega
/-- boxes at a fixed gap have the same rest, but for the gap -/
theorem run_lagree {n : Nat} {t : Td} (hn : n ≤ 1000) {i j : Nat} (hi : i ≤ n) (hj : j ≤ n) (h : ∀ g, t.1 i j = some g → t.1 j i = some (-g) → ful t.2 i = rmk (ful t.2 j).1 ((ful t.2 j).2 + g)) : runDf (fnsN P (m + 1)) d__law_agree [tdF false n t, .int (i : Int), .int (j : Int)] = some (.bl true, [none, none, none]) := by
  refine run_of rfl ?_
  have a1 := fun M => mxF_atN (o := false) (n := n + 1) (B := M) (show i < n + 1 by omega)
  have a2 := fun M => mxF_atN (o := false) (n := n + 1) (B := M) (show j < n + 1 by omega)
  have b1 := fun r => rowF_atN (o := false) (r := r) (show i < n + 1 by omega)
  have b2 := fun r => rowF_atN (o := false) (r := r) (show j < n + 1 by omega)
  have c1 := fun R => rsF_atN (o := false) (R := R) (show i < n + 1 by omega)
  have c2 := fun R => rsF_atN (o := false) (R := R) (show j < n + 1 by omega)
  have ar := add_rs (n := n) (R := t.2) (by omega)
  cases h1 : t.1 i j with
  | none => simp [d__law_agree, ar, a1, b2, h1]
  | some g =>
    cases h2 : t.1 j i with
    | none => simp [d__law_agree, ar, a1, a2, b1, b2, h1, h2]
    | some g' =>
      by_cases c : g' = -g
      · have e := h g h1 (by rw [h2, c])
        have rr := fun Φ => run_lrest_of Φ (ful t.2 j).1 ((ful t.2 j).2 + g)
        rw [← e] at rr
        have ev := eqv_self (dP_ok (n := 60) (p := ful t.2 i))
        simp [d__law_agree, ar, a1, a2, b1, b2, c1, c2, h1, h2, c, rr, ev]
      · simp [d__law_agree, ar, a1, a2, b1, b2, h1, h2, c]
end Sr
set_option Elab.async false
set_option linter.all false
set_option maxRecDepth 100000
set_option maxHeartbeats 4000000
/-! # Sr: small things for laws -/
namespace Sr
open PySem PySem.Spec PyProof.Rows L2
variable {m : Nat}
theorem ltd_lies (ns : List Int) (k : Int) {n : Nat} {b : Nat → Int} : Lies n (ltd ns k n b) b := by
  refine ⟨⟨fun i j x hi hj e => ?_⟩, fun t ht => (lrest_ok ..).2.2⟩
  simp only [ltd] at e
  split at e
  · rename_i c; cases e; subst c; omega
  · unfold ltE at e
    cases hs : slack ns (k + (i : Int) * ((n : Int) + 1) + (j : Int)) with
    | none => rw [hs] at e; cases e
    | some t =>
      rw [hs] at e
      cases e
      have := slack_nn hs
      show fl b i - fl b j ≤ fl b i - fl b j + t
      omega
/-- a small list of the law, at a drawn place -/
theorem at_lit (xs : List Int) {c : Nat} {w : Int} (h : 0 ≤ w ∧ w < xs.length) (hb : ∀ x ∈ xs, 0 ≤ x ∧ x ≤ c) : ∃ n : Nat, n ≤ c ∧ atI (xs.map D.int) w = some (.int (n : Int)) := by
  have hk : w.toNat < xs.length := by omega
  have g := hb _ (List.getElem_mem hk)
  refine ⟨xs[w.toNat].toNat, by omega, ?_⟩
  have e : w = ((w.toNat : Nat) : Int) := by omega
  have : atI (xs.map D.int) ((w.toNat : Nat) : Int) = some (.int xs[w.toNat]) := atI_lit (by rw [List.getElem?_map, List.getElem?_eq_getElem hk]; rfl)
  rw [← e] at this
  rw [this]
  congr 2
  omega
theorem lst_int {n : Nat} {s : Sm} {o : Bool} : b1D .list (intF o n s) = some (intF true n s) := by
  unfold intF
  rw [b1D_list, if_pos (by simp)]
/-- [-a for a in one] -/
theorem lc_neg {Φ : Fs} {e : Env} {i n : Nat} {s : Sm} {Q : List D → Env → Prop} (h : ∀ d : D, Env.at (e.set i (some d)) i = some d) (hk : e.set i none = e) (q : Q (mk n fun j => .int (-s j)) e) : sat (loopC (lcF Φ [i] (.bl true) (.neg (.v i))) (mk n fun j => .int (s j)) e []) Q := by
  refine lc_mk (fun j => .int (-s j)) (fun j hj => ?_) q
  rw [sat_lcF]
  simp [h, hk]
/-- the boxes drawn -/
theorem draw_boxes {ns : List Int} (hb : ∀ z ∈ ns, Builtin.Int.intBits z ≤ 1048576) {e : Env} {n : Nat} {c : Int} {i : Nat} {Q : List D → Env → Prop} (h0 : 0 ≤ c ∧ c ≤ 100000) (hn : n ≤ 1000) (hs : e.at 0 = some (.lst false (ns.map D.int))) (hi : i ≠ 0) (hl : i < e.length) (hk : e.set i none = e) (q : Q (mk n fun t => .int (lnum ns (c + (t : Nat)))) e) : sat (loopC (lcF (fnsN P (m + 2)) [i] (.bl true) (.call F__law_number_56fb (.cons (.v 0) (.cons (.bin .add (.int c) (.v i)) .nil)))) (mk n fun t => .int (t : Nat)) e []) Q := by
  refine lc_mk (fun t => .int (lnum ns (c + (t : Nat)))) (fun t ht => ?_) q
  have hq := run_lnum (m := m) ns hb (c + (t : Int)) (by omega) (by omega)
  have a1 : Env.at (e.set i (some (.int (t : Int)))) i = some (.int (t : Int)) := by
    unfold Env.at; rw [List.getElem?_set_self hl]; rfl
  have a0 : Env.at (e.set i (some (.int (t : Int)))) 0 = some (.lst false (ns.map D.int)) := by
    unfold Env.at at hs ⊢
    rw [List.getElem?_set_ne hi]; exact hs
  rw [sat_lcF]
  simp [a0, a1, hq, hk]
end Sr
set_option Elab.async false
set_option linter.all false
set_option maxRecDepth 100000
set_option maxHeartbeats 4000000
/-! # Sr: sharp, run -/
namespace Sr
open PySem PySem.Spec PyProof.Rows L2
variable {m : Nat}
theorem run_sharp_none {Φ : Fs} : runDf Φ d_sharp [.non] = some (.non, [none]) := by
  refine run_of rfl ?_
  simp [d_sharp]
theorem run_sharp {L : Int} {β n : Nat} {t : Td} (hn : n ≤ 14) (hL : 0 < L) (hb : bits L ≤ β) (hβ : β ≤ 7900) (o : Ok L β n t) : runDf (fnsN P (m + 3)) d_sharp [tdF false n t] = some (toF true n (shO n t), [none]) := by
  refine run_of rfl ?_
  have r1 := fun Φ => run_closed Φ (n := n + 1) (B := t.1) (by omega) (fun i hi => by rw [o.b.d i (by omega)]; simp)
  unfold shO
  cases h1 : closedO (n + 1) t.1 with
  | none =>
    rw [h1] at r1
    simp [d_sharp, r1]
  | some B =>
    rw [h1] at r1
    have o1 := closedO_ok hn o.b h1
    have r2 := fun m => run_handed_over (m := m) (by omega) hL (by omega) (by omega) o1 (o.r.le (γ := β + 4) (by omega))
    simp only
    cases h2 : hno n B t.2 with
    | none =>
      rw [h2] at r2
      simp [d_sharp, r1, r2]
    | some R =>
      rw [h2] at r2
      have o2 := hno_ok hL (by omega) o1 (o.r.le (by omega)) h2
      have r3 := fun m => run_lowered (m := m) (B := B) (by omega) o2
      simp only
      cases h3 : lwO n B R with
      | none =>
        rw [h3] at r3
        simp [d_sharp, r1, r2, r3]
      | some B2 =>
        rw [h3] at r3
        have o3 := lwO_ok hL (by omega) (o1.le (γ := β + 4 + 1) (by omega)) o2 h3
        have r4 := fun Φ => run_closed Φ (n := n + 1) (B := B2) (by omega) (fun i hi => by rw [o3.d i (by omega)]; simp)
        simp only
        cases h4 : closedO (n + 1) B2 with
        | none =>
          rw [h4] at r4
          simp [d_sharp, r1, r2, r3, r4]
        | some B3 =>
          rw [h4] at r4
          have o4 := closedO_ok hn o3 h4
          have r5 := fun m => run_handed_over (m := m) (by omega) hL (by omega) (by omega) o4 (o2.le (γ := β + 4 + 1 + 1 + 4) (by omega))
          simp only
          cases h5 : hno n B3 R with
          | none =>
            rw [h5] at r5
            simp [d_sharp, r1, r2, r3, r4, r5]
          | some R2 =>
            rw [h5] at r5
            simp [d_sharp, r1, r2, r3, r4, r5, td_back]
theorem run_sharpT {L : Int} {β n : Nat} {t : Option Td} (hn : n ≤ 14) (hL : 0 < L) (hb : bits L ≤ β) (hβ : β ≤ 7900) (o : ∀ u, t = some u → Ok L β n u) : runDf (fnsN P (m + 3)) d_sharp [toF false n t] = some (toF true n (shT n t), [none]) := by
  cases t with
  | none => exact run_sharp_none
  | some u => exact run_sharp hn hL hb hβ (o u rfl)
end Sr
set_option Elab.async false
set_option linter.all false
set_option maxRecDepth 100000
set_option maxHeartbeats 4000000
/-! # Sr: the law's own sharpening, run (2) -/
namespace Sr
open PySem PySem.Spec PyProof.Rows L2
variable {m : Nat}
theorem cut_mk {n : Nat} {f : Nat → D} {lo hi : Option Int} : cutD (mk n f) lo hi = mk (HT.sIx n n hi - HT.sIx n 0 lo) fun i => f (HT.sIx n 0 lo + i) := by
  have h1 := HT.sIx_le n n (Nat.le_refl n) hi
  have h2 := HT.sIx_le n 0 (Nat.zero_le n) lo
  unfold cutD
  rw [mk_len]
  refine mk_ext (by simp; omega) fun i hi => ?_
  rw [List.getElem?_take_of_lt hi, List.getElem?_drop, mk_getq (by omega)]
/-- pairs or None -/
def roF (o : Bool) (n : Nat) (S : Nat → Option (Int × Int)) : D := .lst o (mk n fun j => dPo (S j))
section
variable {o : Bool} {n k : Nat} {S : Nat → Option (Int × Int)}
@[simp] theorem roF_un : (roF false n S).un = true := by simp [roF]
@[simp] theorem roF_unt : (roF true n S).un = false := by simp [roF]
@[simp] theorem roF_ns : (roF true n S).ns = true := by simp [roF]
@[simp] theorem roF_shr : (roF o n S).shr = roF false n S := by simp [roF]
@[simp] theorem roF_ok : okN (k + 3) (roF o n S) := by simp [roF]
@[simp] theorem roF_eqOk : eqOk (roF o n S) = true := eqOk_of (roF_ok (k := 61))
@[simp] theorem roF_len : lenD (roF o n S) = some (.int n) := by simp [roF]
@[simp] theorem roF_isL {Q : List D → Prop} : isL (roF o n S) Q ↔ Q (mk n fun j => dPo (S j)) := Iff.rfl
theorem roF_atN {i : Nat} (h : i < n) : atD (roF o n S) (i : Int) = some (dPo (S i)) := atI_mkN h
theorem roF_atS {i : Nat} (h : i + 1 < n) : atD (roF o n S) ((i : Int) + 1) = some (dPo (S (i + 1))) := atI_mkS h
theorem roF_congr {S' : Nat → Option (Int × Int)} (h : ∀ i, i < n → S i = S' i) : roF o n S = roF o n S' := by
  unfold roF; rw [mk_congr fun i hi => by rw [h i hi]]
theorem roF_put {z : Int} {x : Option (Int × Int)} (h : 0 ≤ z ∧ z < n) : putD z (dPo x) (roF true n S) = some (roF true n (up S z.toNat x)) := by
  unfold roF
  rw [putD_mk h]
  congr 2
  refine mk_congr fun i hi => ?_
  unfold up
  split <;> rfl
theorem roF_put0 {z : Int} (h : 0 ≤ z ∧ z < n) : putD z .non (roF true n S) = some (roF true n (up S z.toNat none)) := roF_put (x := none) h
theorem roF_putP {z : Int} {x : Int × Int} (h : 0 ≤ z ∧ z < n) : putD z (dP x) (roF true n S) = some (roF true n (up S z.toNat (some x))) := roF_put (x := some x) h
theorem rs_ro {R : Rs2} : rsF o n R = roF o n (fun i => some (R i)) := rfl
theorem eqv_dPo_non {x : Option (Int × Int)} : eqv (dPo x) .non = x.isNone := by
  cases x with
  | none => simp
  | some p => show eqv (.tup [.int p.1, .int p.2]) .non = _; rw [eqv_tn]; rfl
theorem inD_ro : inD .non (mk n fun j => dPo (S j)) = (List.range n).any fun j => (S j).isNone := by
  unfold inD mk
  rw [List.any_map]
  congr 1
  funext j
  exact eqv_dPo_non
theorem inD_ro_t {j : Nat} (h : j < n) (q : S j = none) : inD .non (mk n fun j => dPo (S j)) = true := by
  rw [inD_ro, List.any_eq_true]
  exact ⟨j, List.mem_range.mpr h, by simp [q]⟩
theorem inD_ro_f (h : ∀ j, j < n → S j ≠ none) : inD .non (mk n fun j => dPo (S j)) = false := by
  rw [inD_ro, List.any_eq_false]
  intro j hj
  cases c : S j with
  | none => exact absurd c (h j (List.mem_range.mp hj))
  | some p => simp
end
theorem run_lhanded {L : Int} {β n : Nat} {B : Mx} {R : Rs2} (hn : n ≤ 1000) (hL : 0 < L) (hb : bits L ≤ β) (hβ : β ≤ 8000) (oB : OkB β n B) (oR : OkR L β n R) : runDf (fnsN P (m + 2)) d__law_handed [mxF false (n + 1) (n + 1) B, rsF false n R] = some ((match hno n B R with | none => .non | some R' => rsF false n R'), [none, none]) := by
  refine run_of rfl ?_
  have hbig : big = 1000000 := rfl
  have e0 : binD .add (.lst true [dP (0, 0)]) (rsF false n R) = some (rsF true (n + 1) (ful R)) := by
    rw [← cons_rs]
    show (if (unL [dP (0, 0)] && unL (mk n fun j => dP (R j)) && decide ([dP (0, 0)].length + (mk n fun j => dP (R j)).length ≤ big)) = true then some (D.lst true ([dP (0, 0)] ++ mk n fun j => dP (R j))) else none) = _
    rw [if_pos]
    · rfl
    · simp; omega
  simp [d__law_handed, e0]
  refine ⟨by omega, ?_⟩
  obtain ⟨S, hS⟩ : ∃ S : Nat → Nat → Nat → Option (Int × Int), S = fun i j k => if k = i + 1 then hnd B (ful R) (i + 1) j else if 1 ≤ k ∧ k ≤ i then hnd B (ful R) k (n + 1) else some (ful R k) := ⟨_, rfl⟩
  obtain ⟨E, hE⟩ : ∃ E : Nat → Nat → Option D → Option D → Env, E = fun i j x y => [some (mxF false (n + 1) (n + 1) B), some (rsF false n R), some (rsF false (n + 1) (ful R)), some (roF true (n + 1) (S i j)), x, y, none] := ⟨_, rfl⟩
  have S00 : ∀ k, S 0 0 k = some (ful R k) := fun k => by
    rw [hS]
    simp only
    split
    · rename_i c; rw [c]; rfl
    · rw [if_neg (by omega)]
  have Srow : ∀ i k, S i (n + 1) k = S (i + 1) 0 k := fun i k => by
    rw [hS]
    simp only
    by_cases c : k = i + 1
    · rw [if_pos c, if_neg (by omega), if_pos (by omega), c]
    · rw [if_neg c]
      by_cases c2 : k = i + 1 + 1
      · rw [if_pos c2, if_neg (by omega), c2]; rfl
      · rw [if_neg c2]
        by_cases c3 : 1 ≤ k ∧ k ≤ i
        · rw [if_pos c3, if_pos (by omega)]
        · rw [if_neg c3, if_neg (by omega)]
  have Sat : ∀ i j, S i j (i + 1) = hnd B (ful R) (i + 1) j := fun i j => by rw [hS]; simp
  have Sup : ∀ i j j' x, x = hnd B (ful R) (i + 1) j' → up (S i j) (i + 1) x = S i j' := fun i j j' x h => by
    funext k
    unfold up
    rw [hS]
    simp only
    split
    · rename_i c; rw [h]
    · rfl
  have Skp : ∀ i j, hnd B (ful R) (i + 1) (j + 1) = hnd B (ful R) (i + 1) j → S i j = S i (j + 1) := fun i j h => by
    rw [hS]
    simp only [h]
  refine for_mk (S := fun i => E i 0 none none) (by
    rw [hE]
    simp only
    rw [roF_congr (o := true) (n := n + 1) (S := S 0 0) fun i _ => S00 i]
    rfl) ?_ ?_
  · intro i hi
    have c1 : (1 : Int) + (i : Int) = ((i + 1 : Nat) : Int) := by omega
    simp only [hE, c1]
    simp [-Int.natCast_add]
    refine ⟨by omega, ?_⟩
    refine for_mk (S := fun j => E i j (some (.int (i + 1 : Nat))) none) (by rw [hE]) ?_ ?_
    · intro j hj
      have a2 := rsF_atN (o := false) (R := ful R) (show j < n + 1 by omega)
      have a3 := mxF_atN (o := false) (n := n + 1) (B := B) (show i + 1 < n + 1 by omega)
      have a4 := mxF_atN (o := false) (n := n + 1) (B := B) hj
      have b3 := rowF_atN (o := false) (r := B (i + 1)) hj
      have b4 := rowF_atN (o := false) (r := B j) (show i + 1 < n + 1 by omega)
      have s1 := roF_atN (o := true) (S := S i j) (show i + 1 < n + 1 by omega)
      rw [Sat] at s1
      simp only [Int.natCast_add, Int.natCast_one] at a3 b4 s1
      rw [hE]
      by_cases c : j = i + 1
      · have c' : ((i : Int) + 1 = (j : Int)) := by omega
        have kp := Skp i j (by rw [hnd]; cases hnd B (ful R) (i + 1) j <;> simp [c])
        subst c
        simp only [Int.natCast_add, Int.natCast_one] at *
        simp [a2, a3, b3, kp]
      · have c' : ¬ ((i : Int) + 1 = (j : Int)) := by omega
        cases hf : fxd B (i + 1) j with
        | false =>
          have kp := Skp i j (by rw [hnd]; cases hnd B (ful R) (i + 1) j <;> simp [c, hf])
          cases hB : B (i + 1) j with
          | none => simp [a2, a3, b3, hB, c, c', kp]
          | some g =>
            cases hB2 : B j (i + 1) with
            | none => simp [a2, a3, a4, b3, b4, hB, hB2, c, c', kp]
            | some g' =>
              have : ¬ g' = -g := fun z => by
                unfold fxd at hf
                rw [hB, hB2] at hf
                simp at hf
                omega
              simp [a2, a3, a4, b3, b4, hB, hB2, c, c', kp, this]
        | true =>
          obtain ⟨g, g', hg, hg', he⟩ : ∃ g g', B (i + 1) j = some g ∧ B j (i + 1) = some g' ∧ g' = -g := by
            unfold fxd at hf
            cases h1 : B (i + 1) j with
            | none => rw [h1] at hf; cases hf
            | some g =>
              cases h2 : B j (i + 1) with
              | none => rw [h1, h2] at hf; cases hf
              | some g' =>
                rw [h1, h2] at hf
                simp at hf
                exact ⟨g, g', rfl, rfl, by omega⟩
          cases hp : hnd B (ful R) (i + 1) j with
          | none =>
            rw [hp] at s1
            have kp := Skp i j (by rw [hnd, hp])
            simp [a2, a3, a4, b3, b4, hg, hg', he, c, c', s1]
            rw [kp]
          | some p =>
            rw [hp] at s1
            have op := hnd_ok hL hb oB oR (show i + 1 ≤ n by omega) (show j ≤ n + 1 by omega) hp
            have oj := oR.ful (show j ≤ n by omega)
            have bg := oB.b (i + 1) j g (by omega) (by omega) hg
            have oq := OkP.shift hL hb oj bg
            have r1 := fun Φ => run_lrest_of Φ (ful R j).1 ((ful R j).2 + g)
            have r2 := fun m => run_lmet (m := m) p (rmk (ful R j).1 ((ful R j).2 + g)) op.v.1 oq.v.1 (op.m hL (by omega)) (Nat.le_trans op.b (by omega)) (oq.m hL (by omega)) (Nat.le_trans oq.b (by omega))
            have hn' : hnd B (ful R) (i + 1) (j + 1) = rmt p (rmk (ful R j).1 ((ful R j).2 + g)) := by
              rw [hnd, hp]
              simp [c, hf, hg]
            have pu := fun x => roF_put (S := S i j) (x := x) (show (0 : Int) ≤ (i : Int) + 1 ∧ (i : Int) + 1 < ((n + 1 : Nat) : Int) by omega)
            have et : ((i : Int) + 1).toNat = i + 1 := by omega
            rw [et] at pu
            have su := Sup i j (j + 1) _ hn'.symm
            simp [a2, a3, a4, b3, b4, hg, hg', he, c, c', s1, r1, r2, pu, su]
    · rw [hE]
      simp
      exact roF_congr fun k hk => Srow i k
  · rw [hE]
    have Sn : ∀ k, 1 ≤ k → k ≤ n → S n 0 k = hnd B (ful R) k (n + 1) := fun k h1 h2 => by
      rw [hS]
      simp only
      rw [if_neg (by omega), if_pos ⟨h1, h2⟩]
    have S0 : S n 0 0 = some (ful R 0) := by
      rw [hS]
      simp
    by_cases c : ∃ i, i < n ∧ hnd B (ful R) (i + 1) (n + 1) = none
    · obtain ⟨i, hi, hq⟩ := c
      have h1 := inD_ro_t (n := n + 1) (S := S n 0) (j := i + 1) (by omega) (by rw [Sn _ (by omega) (by omega)]; exact hq)
      simp [h1, hno_none hi hq]
    · have all : ∀ i, i < n → hnd B (ful R) (i + 1) (n + 1) ≠ none := fun i hi z => c ⟨i, hi, z⟩
      obtain ⟨R2, h2, h3⟩ := hno_of (R' := fun i => (hnd B (ful R) (i + 1) (n + 1)).getD (0, 0)) (B := B) (R := R) (n := n) fun i hi => by
        cases hq : hnd B (ful R) (i + 1) (n + 1) with
        | none => exact absurd hq (all i hi)
        | some p => rfl
      have h1 := inD_ro_f (n := n + 1) (S := S n 0) fun k hk => by
        cases k with
        | zero => rw [S0]; simp
        | succ k => rw [Sn _ (by omega) (by omega)]; exact all k (by omega)
      have e4 : slD (roF true (n + 1) (S n 0)) (some 1) none = some (rsF true n R2) := by
        have u : unL (mk (n + 1) fun j => dPo (S n 0 j)) = true := by simp
        show (if unL (mk (n + 1) fun j => dPo (S n 0 j)) = true then some (D.lst true (cutD (mk (n + 1) fun j => dPo (S n 0 j)) (some 1) none)) else none) = _
        rw [if_pos u, cut_mk]
        have e5 : HT.sIx (n + 1) 0 (some 1) = 1 := by
          rw [show (1 : Int) = ((1 : Nat) : Int) from rfl, HT.sIx_nat]
          omega
        rw [e5, HT.sIx_none]
        unfold rsF
        congr 2
        refine mk_congr fun k hk => ?_
        rw [show 1 + k = k + 1 by omega, Sn _ (by omega) (by omega), h3 k (by omega)]
        cases hq : hnd B (ful R) (k + 1) (n + 1) with
        | none => exact absurd hq (all k (by omega))
        | some p => rfl
      simp [h1, h2, e4]
theorem run_llowered {L : Int} {β n : Nat} {B : Mx} {R : Rs2} (hn : n ≤ 1000) (oR : OkR L β n R) : runDf (fnsN P (m + 1)) d__law_lowered [mxF false (n + 1) (n + 1) B, rsF false n R] = some (gxF false (n + 1) (lwO n B R), [none, none]) := by
  refine run_of rfl ?_
  have hbig : big = 1000000 := rfl
  have e0 : binD .add (.lst true [dP (0, 0)]) (rsF false n R) = some (rsF true (n + 1) (ful R)) := by
    rw [← cons_rs]
    show (if (unL [dP (0, 0)] && unL (mk n fun j => dP (R j)) && decide ([dP (0, 0)].length + (mk n fun j => dP (R j)).length ≤ big)) = true then some (D.lst true ([dP (0, 0)] ++ mk n fun j => dP (R j))) else none) = _
    rw [if_pos]
    · rfl
    · simp; omega
  simp [d__law_lowered, e0, sat_lc]
  refine lc_copy (by intro d; rfl) rfl ?_
  simp
  refine ⟨by omega, ?_⟩
  obtain ⟨g, hg⟩ : ∃ g : Mx, g = fun i j => (lwE B (ful R) i j).getD none := ⟨_, rfl⟩
  obtain ⟨E, hE⟩ : ∃ E : Mx → Option D → Option D → Env, E = fun M x y => [some (mxF false (n + 1) (n + 1) B), some (rsF false n R), some (rsF false (n + 1) (ful R)), some (mxF true (n + 1) (n + 1) M), x, y, none, none, none, none] := ⟨_, rfl⟩
  refine for_mkI (fun i e => e = E (updN B g i 0) none none ∧ ∀ i' j', i' < i → j' < n + 1 → lwE B (ful R) i' j' ≠ none) ⟨by rw [hE]; simp, fun i' _ h => absurd h (Nat.not_lt_zero _)⟩ ?_ ?_
  · rintro i e hi ⟨rfl, hI⟩
    simp [hE]
    refine ⟨by omega, ?_⟩
    refine for_mkI (fun j e => e = E (updN B g i j) (some (.int i)) none ∧ ∀ j', j' < j → lwE B (ful R) i j' ≠ none) ⟨by rw [hE], fun j' h => absurd h (Nat.not_lt_zero _)⟩ ?_ ?_
    · rintro j e hj ⟨rfl, hJ⟩
      have a1 := rsF_atN (o := false) (R := ful R) hi
      have a2 := rsF_atN (o := false) (R := ful R) hj
      have a3 := fun o M => mxF_atN (o := o) (n := n + 1) (B := M) hi
      have b3 := fun o r => rowF_atN (o := o) (r := r) hj
      have oi := oR.ful (show i ≤ n by omega)
      have oj := oR.ful (show j ≤ n by omega)
      have r1 := fun Φ => run_lgcd Φ (ful R i).1 (ful R j).1
      have p1 := fun M x => mxF_putN (B := M) (x := x) hi hj
      have p2 := fun M x => mxF_putI (B := M) (x := x) hi hj
      have more : lwE B (ful R) i j ≠ none → ∀ j', j' < j + 1 → lwE B (ful R) i j' ≠ none := fun q j' hj' => by
        by_cases c : j' = j
        · subst c; exact q
        · exact hJ j' (by omega)
      by_cases c : i = j
      · have e1 : lwE B (ful R) i j = some (B i j) := by unfold lwE; rw [if_pos c]
        have kp : updN B g i j = updN B g i (j + 1) := updN_keep (by rw [hg]; simp [e1])
        subst c
        simp [hE, a1, a2, a3, b3, r1]
        exact ⟨by rw [← kp], more (by rw [e1]; simp)⟩
      · have c' : ¬ ((i : Int) = (j : Int)) := by omega
        have e1 : lwE B (ful R) i j = lw1 (rmk (Int.gcd (ful R i).1 (ful R j).1) ((ful R i).2 - (ful R j).2)) (B i j) := by unfold lwE; rw [if_neg c, apt_eq oi.v.1 oj.v.1]
        by_cases h0 : Int.gcd (ful R i).1 (ful R j).1 = 0
        · have rr : (rmk (Int.gcd (ful R i).1 (ful R j).1) ((ful R i).2 - (ful R j).2)) = (0, (ful R i).2 - (ful R j).2) := by rw [h0]; simp [rmk, rmod]
          rw [rr] at e1
          cases hB : B i j with
          | some x =>
            by_cases hx : x < (ful R i).2 - (ful R j).2
            · have e2 : lwE B (ful R) i j = none := by rw [e1, hB]; simp [lw1, rud, hx]
              simp [hE, a1, a2, a3, b3, r1, c, c', h0, hB, hx, lwO_none (show i ≤ n by omega) (show j ≤ n by omega) e2]
            · have e2 : lwE B (ful R) i j = some (some ((ful R i).2 - (ful R j).2)) := by rw [e1, hB]; simp [lw1, rud, hx]
              have kp : up2 (updN B g i j) i j (some ((ful R i).2 - (ful R j).2)) = updN B g i (j + 1) := updN_put (by rw [hg]; simp [e2])
              simp [hE, a1, a2, a3, b3, r1, c, c', h0, hB, hx, p2, kp]
              exact more (by rw [e2]; simp)
          | none =>
            have e2 : lwE B (ful R) i j = some (some ((ful R i).2 - (ful R j).2)) := by rw [e1, hB]; simp [lw1]
            have kp : up2 (updN B g i j) i j (some ((ful R i).2 - (ful R j).2)) = updN B g i (j + 1) := updN_put (by rw [hg]; simp [e2])
            simp [hE, a1, a2, a3, b3, r1, c, c', h0, hB, p2, kp]
            exact more (by rw [e2]; simp)
        · have h0' : ¬ ((Int.gcd (ful R i).1 (ful R j).1 : Int) = 0) := by omega
          cases hB : B i j with
          | some x =>
            have e2 : lwE B (ful R) i j = some (some (x - (x - ((ful R i).2 - (ful R j).2)).fmod (Int.gcd (ful R i).1 (ful R j).1))) := by
              rw [e1, hB]
              have gp : (0 : Int) < Int.gcd (ful R i).1 (ful R j).1 := by omega
              have : rud (rmk (Int.gcd (ful R i).1 (ful R j).1) ((ful R i).2 - (ful R j).2)) x = some (x - (x - ((ful R i).2 - (ful R j).2)).fmod (Int.gcd (ful R i).1 (ful R j).1)) := by
                unfold rud
                rw [rmk_1, if_pos gp]
                congr 2
                refine fmod_congr gp ?_
                have := dvd_rmod (Int.gcd (ful R i).1 (ful R j).1 : Int) ((ful R i).2 - (ful R j).2)
                rw [rmk_2]
                have e3 : (x - rmod (Int.gcd (ful R i).1 (ful R j).1) ((ful R i).2 - (ful R j).2)) - (x - ((ful R i).2 - (ful R j).2)) = ((ful R i).2 - (ful R j).2) - rmod (Int.gcd (ful R i).1 (ful R j).1) ((ful R i).2 - (ful R j).2) := by omega
                rw [e3]; exact this
              simp [lw1, this]
            have kp := updN_put (B := B) (g := g) (i := i) (j := j) (x := some (x - (x - ((ful R i).2 - (ful R j).2)).fmod (Int.gcd (ful R i).1 (ful R j).1))) (by rw [hg]; simp [e2])
            simp [hE, a1, a2, a3, b3, r1, c, c', h0, hB, p2, kp]
            exact more (by rw [e2]; simp)
          | none =>
            have e2 : lwE B (ful R) i j = some none := by rw [e1, hB]; simp [lw1, h0]
            have kp : updN B g i j = updN B g i (j + 1) := updN_keep (by rw [hg]; simp [e2, hB])
            simp [hE, a1, a2, a3, b3, r1, c, c', h0, hB]
            exact ⟨by rw [kp], more (by rw [e2]; simp)⟩
    · rintro e ⟨rfl, hJ⟩
      simp [hE]
      refine ⟨updN_row, fun i' j' h1 h2 => ?_⟩
      by_cases c : i' = i
      · subst c; exact hJ j' h2
      · exact hI i' j' (by omega) h2
  · rintro e ⟨rfl, hI⟩
    have e1 := lwO_of (B := B) (R := R) (n := n) fun i j hi hj => hI i j (by omega) (by omega)
    simp [hE, e1]
    rw [updN_end, hg]
theorem run_lsharp_none {Φ : Fs} : runDf Φ d__law_sharp [.non] = some (.non, [none]) := by
  refine run_of rfl ?_
  simp [d__law_sharp]
theorem run_lsharp {L : Int} {β n : Nat} {t : Td} (hn : n ≤ 14) (hL : 0 < L) (hb : bits L ≤ β) (hβ : β ≤ 7900) (o : Ok L β n t) : runDf (fnsN P (m + 3)) d__law_sharp [tdF false n t] = some (toF false n (shO n t), [none]) := by
  refine run_of rfl ?_
  have r1 := fun Φ => run_lls Φ (n := n + 1) (B := t.1) (by omega) (fun i hi => o.b.d i (by omega))
  unfold shO
  cases h1 : closedO (n + 1) t.1 with
  | none =>
    rw [h1] at r1
    simp [d__law_sharp, r1]
  | some B =>
    rw [h1] at r1
    have o1 := closedO_ok hn o.b h1
    have r2 := fun m => run_lhanded (m := m) (by omega) hL (by omega) (by omega) o1 (o.r.le (γ := β + 4) (by omega))
    simp only
    cases h2 : hno n B t.2 with
    | none =>
      rw [h2] at r2
      simp [d__law_sharp, r1, r2, agFz_var]
    | some R =>
      rw [h2] at r2
      have o2 := hno_ok hL (by omega) o1 (o.r.le (by omega)) h2
      have r3 := fun m => run_llowered (m := m) (B := B) (by omega) o2
      simp only
      cases h3 : lwO n B R with
      | none =>
        rw [h3] at r3
        simp [d__law_sharp, r1, r2, r3, agFz_var]
      | some B2 =>
        rw [h3] at r3
        have o3 := lwO_ok hL (by omega) (o1.le (γ := β + 4 + 1) (by omega)) o2 h3
        have r4 := fun Φ => run_lls Φ (n := n + 1) (B := B2) (by omega) (fun i hi => o3.d i (by omega))
        simp only
        cases h4 : closedO (n + 1) B2 with
        | none =>
          rw [h4] at r4
          simp [d__law_sharp, r1, r2, r3, r4, agFz_var]
        | some B3 =>
          rw [h4] at r4
          have o4 := closedO_ok hn o3 h4
          have r5 := fun m => run_lhanded (m := m) (by omega) hL (by omega) (by omega) o4 (o2.le (γ := β + 4 + 1 + 1 + 4) (by omega))
          simp only
          cases h5 : hno n B3 R with
          | none =>
            rw [h5] at r5
            simp [d__law_sharp, r1, r2, r3, r4, r5, agFz_var]
          | some R2 =>
            rw [h5] at r5
            simp [d__law_sharp, r1, r2, r3, r4, r5, td_back, agFz_var]
theorem run_lsharpT {L : Int} {β n : Nat} {t : Option Td} (hn : n ≤ 14) (hL : 0 < L) (hb : bits L ≤ β) (hβ : β ≤ 7900) (o : ∀ u, t = some u → Ok L β n u) : runDf (fnsN P (m + 3)) d__law_sharp [toF false n t] = some (toF false n (shT n t), [none]) := by
  cases t with
  | none => exact run_lsharp_none
  | some u => exact run_lsharp hn hL hb hβ (o u rfl)
end Sr
set_option Elab.async false
set_option linter.all false
set_option maxRecDepth 100000
set_option maxHeartbeats 4000000
/-! # Sr: recast, run -/
namespace Sr
open PySem PySem.Spec PyProof.Rows L2
variable {m : Nat}
/-- sums, one by one -/
def smF (o : Bool) (K n : Nat) (S : Nat → Sm) : D := .lst o (mk K fun k => intF o n (S k))
section
variable {o : Bool} {K n k : Nat} {S : Nat → Sm}
@[simp] theorem smF_un : (smF false K n S).un = true := by simp [smF]
@[simp] theorem smF_ns : (smF true K n S).ns = true := by simp [smF]
@[simp] theorem smF_nsf : (smF false K n S).ns = false := by simp [smF]
@[simp] theorem smF_shr : (smF o K n S).shr = smF false K n S := by simp [smF]
@[simp] theorem smF_ok : okN (k + 3) (smF o K n S) := by simp [smF]
@[simp] theorem smF_eqOk : eqOk (smF o K n S) = true := eqOk_of (smF_ok (k := 61))
@[simp] theorem smF_len : lenD (smF o K n S) = some (.int K) := by simp [smF]
@[simp] theorem smF_items : items (smF o K n S) = some (mk K fun k => intF o n (S k)) := rfl
@[simp] theorem eqv_sm {o o' : Bool} : eqv (smF o K n S) (smF o' K n S) = true := eqv_like (by simp) (smF_ok (k := 60))
@[simp] theorem sm_back : D.lst o (mk K fun k => intF o n (S k)) = smF o K n S := rfl
theorem smF_congr {T : Nat → Sm} (h : ∀ k i, k < K → i < n → S k i = T k i) : smF o K n S = smF o K n T := by
  unfold smF; rw [mk_congr fun k hk => by rw [intF_congr fun i hi => h k i hk hi]]
theorem add_sm (hK : K ≤ 10000) : binD .add (.lst false [intF false n fun _ => 0]) (smF false K n S) = some (.lst true (mk (K + 1) fun k => intF false n (fS S k))) := by
  have hbig : big = 1000000 := rfl
  show (if (unL [intF false n fun _ => 0] && unL (mk K fun j => intF false n (S j)) && decide ([intF false n fun _ => 0].length + (mk K fun j => intF false n (S j)).length ≤ big)) = true then some (D.lst true ([intF false n fun _ => 0] ++ mk K fun j => intF false n (S j))) else none) = _
  rw [if_pos]
  · show some (D.lst true (intF false n (fun _ => 0) :: mk K fun j => intF false n (S j))) = _
    rw [mk_cons]
    congr 2
    refine mk_congr fun i hi => ?_
    cases i <;> simp
  · simp; omega
end
theorem mul_zero {n : Nat} (hn : n ≤ 10000) : binD .mul (.lst true [.int 0]) (.int ((n : Int) + 1)) = some (intF true (n + 1) fun _ => 0) := by
  have hbig : big = 1000000 := rfl
  show (if ((true && unL [D.int 0]) && decide ([D.int 0].length * ((n : Int) + 1).toNat ≤ big) && decide ((n : Int) + 1 < 2 ^ 62) && decide (-(2 ^ 62) ≤ (n : Int) + 1)) = true then some (D.lst true (List.replicate ((n : Int) + 1).toNat [D.int 0]).flatten) else none) = _
  have e : ((n : Int) + 1).toNat = n + 1 := by omega
  rw [e, if_pos, mk_rep]
  · rfl
  · simp; omega
theorem run_recast {L : Int} {β γ n K : Nat} {S : Nat → Sm} {t : Td} (hn : n ≤ 14) (hK : K ≤ 14) (hL : 0 < L) (hb : bits L ≤ β) (o : Ok L β n t) (hs : ∀ k, k < K → ∀ i, 1 ≤ i → i ≤ n → (S k i).natAbs < 2 ^ 39) (h0 : ∀ k, k < K → bits (S k 0) ≤ γ) (hγ : β + 40 ≤ γ) (hγ2 : (40 * n + 1) * K + 1 + β ≤ γ + 16) (hβ : γ ≤ 7800) : runDf (fnsN P (m + 4)) d_recast [tdF false n t, smF false K (n + 1) S] = some (toF true K (rcO n K S t), [none, none]) := by
  refine run_of rfl ?_
  have hbig : big = 1000000 := rfl
  obtain ⟨p1, p2, p3⟩ := rc0_ok hn hL hb o hs h0 hγ hγ2
  have rS := fun m => run_sharp (m := m) hK p1 p2 (by omega) p3
  have mz := mul_zero (n := n) (by omega)
  have as := add_sm (K := K) (n := n + 1) (S := S) (by omega)
  have b1 : ∀ i, i ≤ K → ∀ c, 1 ≤ c → c ≤ n → (fS S i c).natAbs < 2 ^ 39 := fun i hi c h1 h2 => by
    cases i with
    | zero => show (0 : Int).natAbs < 2 ^ 39; decide
    | succ i => rw [fS_1]; exact hs i (by omega) c h1 h2
  simp only [d_recast]
  refine sat_cut (fun e => e = [some (tdF false n t), some (smF false K (n + 1) S), none, none, none, none]) (by simp) ?_
  rintro e rfl
  refine sat_cut (fun e => e = [some (tdF false n t), some (smF false K (n + 1) S), some (smF false (K + 1) (n + 1) (fS S)), none, none, none]) (by simp [mz, as]) ?_
  rintro e rfl
  refine sat_cut (fun e => e = [some (tdF false n t), some (smF false K (n + 1) S), some (smF false (K + 1) (n + 1) (fS S)), some (mxF true 0 (K + 1) (rc0 n S t).1), none, none]) (by simp; rfl) ?_
  rintro e rfl
  refine sat_cut (fun e => ∃ y, e = [some (tdF false n t), some (smF false K (n + 1) S), some (smF false (K + 1) (n + 1) (fS S)), some (mxF true (K + 1) (K + 1) (rc0 n S t).1), y, none]) ?_ ?_
  · simp
    refine for_mkI (fun i e => ∃ y, e = [some (tdF false n t), some (smF false K (n + 1) S), some (smF false (K + 1) (n + 1) (fS S)), some (mxF true i (K + 1) (rc0 n S t).1), y, none]) ⟨none, rfl⟩ ?_ ?_
    · rintro i e hi ⟨y, rfl⟩
      simp [sat_lc]
      refine lc_mk (fun j => dO ((rc0 n S t).1 i j)) (fun j hj => ?_) ?_
      · have r1 := fun Φ => run_sum_times Φ (n := n + 1) (s := fS S j) (k := -1) (fun c hc => mulOk_r (by decide))
        have r2 := fun Φ => run_sum_plus Φ (n := n + 1) (s := fS S i) (u := fun c => -fS S j c)
        have r3 := fun m => run_greatest (m := m) (n := n) (t := t) (s := fun c => fS S i c + -fS S j c) (by omega) (fun c h1 h2 => by
          have a := b1 i (by omega) c h1 h2
          have b := b1 j (by omega) c h1 h2
          show (fS S i c + -fS S j c).natAbs < 2 ^ 40
          omega)
        have e1 : (gr n t.1 fun c => fS S i c + -fS S j c) = (rc0 n S t).1 i j := rfl
        rw [e1] at r3
        rw [sat_lcF]
        simp [r1, r2, r3]
      · have ap := mxF_app (m := i) (n := K + 1) (B := (rc0 n S t).1) (r := (rc0 n S t).1 i) (by omega) (fun j _ => rfl)
        simp [ap]
    · rintro e ⟨y, rfl⟩
      simp
  rintro e ⟨y, rfl⟩
  simp [sat_lc]
  refine lc_mk (fun k => dP ((rc0 n S t).2 k)) (fun k hk => ?_) ?_
  · have r1 := fun m => run_sum_rest (m := m) (n := n) (s := S k) (R := t.2) (by omega) o.tv.v (fun i h1 h2 => by have := hs k hk i h1 h2; omega)
    have e1 : sr n t.2 (S k) = (rc0 n S t).2 k := rfl
    rw [e1] at r1
    rw [sat_lcF]
    simp [r1]
  · have tb : D.tup [mxF false (K + 1) (K + 1) (rc0 n S t).1, rsF false K (rc0 n S t).2] = tdF false K (rc0 n S t) := td_back
    simp [tb, rS]
    rfl
theorem run_recast_none {Φ : Fs} {K n : Nat} {S : Nat → Sm} : runDf Φ d_recast [.non, smF false K n S] = some (.non, [none, none]) := by
  refine run_of rfl ?_
  simp [d_recast]
theorem run_lrecast {L : Int} {β γ n K : Nat} {S : Nat → Sm} {t : Td} (hn : n ≤ 14) (hK : K ≤ 14) (hL : 0 < L) (hb : bits L ≤ β) (o : Ok L β n t) (hs : ∀ k, k < K → ∀ i, 1 ≤ i → i ≤ n → (S k i).natAbs < 2 ^ 39) (h0 : ∀ k, k < K → bits (S k 0) ≤ γ) (hγ : β + 40 ≤ γ) (hγ2 : (40 * n + 1) * K + 1 + β ≤ γ + 16) (hβ : γ ≤ 7800) : runDf (fnsN P (m + 4)) d__law_recast [tdF false n t, smF false K (n + 1) S] = some (toF false K (rcO n K S t), [none, none]) := by
  refine run_of rfl ?_
  have hbig : big = 1000000 := rfl
  obtain ⟨p1, p2, p3⟩ := rc0_ok hn hL hb o hs h0 hγ hγ2
  have rS := fun m => run_lsharp (m := m) hK p1 p2 (by omega) p3
  have mz := mul_zero (n := n) (by omega)
  have as := add_sm (K := K) (n := n + 1) (S := S) (by omega)
  have b1 : ∀ i, i ≤ K → ∀ c, 1 ≤ c → c ≤ n → (fS S i c).natAbs < 2 ^ 39 := fun i hi c h1 h2 => by
    cases i with
    | zero => show (0 : Int).natAbs < 2 ^ 39; decide
    | succ i => rw [fS_1]; exact hs i (by omega) c h1 h2
  simp only [d__law_recast]
  refine sat_cut (fun e => e = [some (tdF false n t), some (smF false K (n + 1) S), none, none, none, none]) (by simp) ?_
  rintro e rfl
  refine sat_cut (fun e => e = [some (tdF false n t), some (smF false K (n + 1) S), some (smF false (K + 1) (n + 1) (fS S)), none, none, none]) (by simp [mz, as]) ?_
  rintro e rfl
  refine sat_cut (fun e => e = [some (tdF false n t), some (smF false K (n + 1) S), some (smF false (K + 1) (n + 1) (fS S)), some (mxF true 0 (K + 1) (rc0 n S t).1), none, none]) (by simp; rfl) ?_
  rintro e rfl
  refine sat_cut (fun e => ∃ y, e = [some (tdF false n t), some (smF false K (n + 1) S), some (smF false (K + 1) (n + 1) (fS S)), some (mxF true (K + 1) (K + 1) (rc0 n S t).1), y, none]) ?_ ?_
  · simp
    refine for_mkI (fun i e => ∃ y, e = [some (tdF false n t), some (smF false K (n + 1) S), some (smF false (K + 1) (n + 1) (fS S)), some (mxF true i (K + 1) (rc0 n S t).1), y, none]) ⟨none, rfl⟩ ?_ ?_
    · rintro i e hi ⟨y, rfl⟩
      simp [sat_lc]
      refine lc_mk (fun j => dO ((rc0 n S t).1 i j)) (fun j hj => ?_) ?_
      · have r2 := fun Φ => run_lless Φ (n := n + 1) (s := fS S i) (u := fS S j) (by omega)
        have r3 := fun Φ => run_lgreatest Φ (n := n) (t := t) (s := fun c => fS S i c - fS S j c) (by omega) (fun c h1 h2 => by
          have a := b1 i (by omega) c h1 h2
          have b := b1 j (by omega) c h1 h2
          show (fS S i c - fS S j c).natAbs < 2 ^ 40
          omega)
        have e1 : (gr n t.1 fun c => fS S i c - fS S j c) = (rc0 n S t).1 i j := rfl
        rw [e1] at r3
        rw [sat_lcF]
        simp [r2, r3, agFz_var]
      · have ap := mxF_app (m := i) (n := K + 1) (B := (rc0 n S t).1) (r := (rc0 n S t).1 i) (by omega) (fun j _ => rfl)
        simp [ap]
    · rintro e ⟨y, rfl⟩
      simp
  rintro e ⟨y, rfl⟩
  simp [sat_lc]
  refine lc_mk (fun k => dP ((rc0 n S t).2 k)) (fun k hk => ?_) ?_
  · have r1 := fun m => run_lsum_rest (m := m) (n := n) (s := S k) (R := t.2) (by omega) o.tv.v (fun i h1 h2 => by have := hs k hk i h1 h2; omega)
    have e1 : sr n t.2 (S k) = (rc0 n S t).2 k := rfl
    rw [e1] at r1
    rw [sat_lcF]
    simp [r1]
  · have tb : D.tup [mxF false (K + 1) (K + 1) (rc0 n S t).1, rsF false K (rc0 n S t).2] = tdF false K (rc0 n S t) := td_back
    simp [tb, rS]
    rfl
theorem run_lrecast_none {Φ : Fs} {K n : Nat} {S : Nat → Sm} : runDf Φ d__law_recast [.non, smF false K n S] = some (.non, [none, none]) := by
  refine run_of rfl ?_
  simp [d__law_recast]
theorem app_mxAny {x : D} {n k : Nat} {B : Mx} (h : n < big) : appD x (mxF true n k B) = some (.lst true ((mk n fun i => rowF true k (B i)) ++ [x])) := by
  unfold mxF
  rw [appD_own, if_pos (by simpa using h)]
/-- what a law changes in what is told; what it makes of it is not asked -/
theorem run_lchange {Φ : Fs} {n : Nat} {t : Option Td} (hn : n ≤ 1000) : ∃ d, runDf Φ d__law_change_a255 [toF true n t] = some (.non, [some d]) ∧ d.ns = true := by
  have hbig : big = 1000000 := rfl
  cases t with
  | none =>
    refine ⟨.non, run_of rfl ?_, rfl⟩
    simp [d__law_change_a255]
  | some t =>
    have s3 : setAt 0 (appD (.lst true [.int 7])) (tdF true n (up2 t.1 0 0 (some 7), t.2)) = some (.tup [.lst true ((mk (n + 1) fun i => rowF true (n + 1) (up2 t.1 0 0 (some 7) i)) ++ [.lst true [.int 7]]), rsF true n t.2]) := by
      rw [setAt_td0, app_mxAny (by omega)]; rfl
    obtain ⟨xs, hxs⟩ : ∃ xs, xs = ((mk (n + 1) fun i => rowF true (n + 1) (up2 t.1 0 0 (some 7) i)) ++ [.lst true [.int 7]]) := ⟨_, rfl⟩
    have nx : nsL xs = true := by
      rw [hxs]
      have : ∀ a b : List D, nsL (a ++ b) = (nsL a && nsL b) := fun a b => by
        induction a with
        | nil => simp
        | cons c r ih => simp [ih, Bool.and_assoc]
      rw [this]; simp
    rw [← hxs] at s3
    have s4 : setAt 1 (appD (dP (7, 7))) (.tup [.lst true xs, rsF true n t.2]) = some (.tup [.lst true xs, rsF true (n + 1) (fun i => if i < n then t.2 i else (7, 7))]) := by
      unfold setAt
      have : ixN [D.lst true xs, rsF true n t.2].length 1 = some 1 := rfl
      simp only [this]
      have e1 : rsF true n t.2 = rsF true n (fun i => if i < n then t.2 i else (7, 7)) := rsF_congr fun i hi => by simp [hi]
      have a := rsF_app (n := n) (R := fun i => if i < n then t.2 i else (7, 7)) (x := (7, 7)) (by omega) (by simp)
      rw [← e1] at a
      simp [a]
    refine ⟨.tup [.lst true xs, rsF true (n + 1) (fun i => if i < n then t.2 i else (7, 7))], run_of rfl ?_, by simp [nx]⟩
    simp [d__law_change_a255, s3, s4]
end Sr
set_option Elab.async false
set_option linter.all false
set_option maxRecDepth 100000
set_option maxHeartbeats 4000000
/-! # Sr: sums of boxes by themselves -/
namespace Sr
open PySem PySem.Spec PyProof.Rows L2
/-- the sum of a box -/
def un (i : Nat) : Sm := fun c => if 0 < i ∧ c = i then 1 else 0
@[simp] theorem un_00 {i : Nat} : un i 0 = 0 := by unfold un; rw [if_neg (by omega)]
theorem un_at {i : Nat} (h : 0 < i) : un i i = 1 := by unfold un; rw [if_pos ⟨h, rfl⟩]
theorem un_ne {i c : Nat} (h : c ≠ i) : un i c = 0 := by unfold un; rw [if_neg (fun z => h z.2)]
theorem un_0 {c : Nat} : un 0 c = 0 := by unfold un; rw [if_neg (by omega)]
theorem un_lt {i c : Nat} : (un i c).natAbs ≤ 1 := by unfold un; split <;> decide
theorem nz_nil {p : Int → Bool} {s : Sm} : ∀ {n : Nat}, (∀ c, 1 ≤ c → c ≤ n → p (s c) = false) → nz n p s = []
  | 0, _ => rfl
  | n + 1, h => by
    rw [nz_succ, nz_nil fun c h1 h2 => h c h1 (by omega), h (n + 1) (by omega) (Nat.le_refl _)]
    rfl
theorem nz_one {p : Int → Bool} {s : Sm} {i : Nat} : ∀ {n : Nat}, 1 ≤ i → i ≤ n → p (s i) = true → (∀ c, 1 ≤ c → c ≤ n → c ≠ i → p (s c) = false) → nz n p s = [i]
  | 0, h1, h2, _, _ => by omega
  | n + 1, h1, h2, hi, h => by
    rw [nz_succ]
    by_cases c : i = n + 1
    · subst c
      rw [nz_nil fun c g1 g2 => h c g1 (by omega) (by omega), hi]
      rfl
    · rw [nz_one h1 (by omega) hi fun c g1 g2 g3 => h c g1 (by omega) g3, h (n + 1) (by omega) (Nat.le_refl _) (by omega)]
      rfl
theorem grF_one {B : Mx} {s : Sm} {i : Nat} : ∀ {n : Nat}, 1 ≤ i → i ≤ n → s i ≠ 0 → (∀ c, 1 ≤ c → c ≤ n → c ≠ i → s c = 0) → grF B s n = (endO B s i).map fun e => s 0 + (s i).natAbs * e
  | 0, h1, h2, _, _ => by omega
  | n + 1, h1, h2, hi, h => by
    have z : ∀ k, (∀ c, 1 ≤ c → c ≤ k → s c = 0) → grF B s k = some (s 0) := fun k hk => by
      induction k with
      | zero => rfl
      | succ k ih => rw [grF, if_pos (hk (k + 1) (by omega) (Nat.le_refl _)), ih fun c g1 g2 => hk c g1 (by omega)]
    rw [grF]
    by_cases c : i = n + 1
    · subst c
      rw [if_neg hi, z n fun c g1 g2 => h c g1 (by omega) (by omega)]
      cases endO B s (n + 1) <;> rfl
    · rw [if_pos (h (n + 1) (by omega) (Nat.le_refl _) (by omega))]
      exact grF_one h1 (by omega) hi fun c g1 g2 g3 => h c g1 (by omega) g3
/-- a sum of one box alone -/
theorem gr_one {n : Nat} {B : Mx} {s : Sm} {i : Nat} (h1 : 1 ≤ i) (h2 : i ≤ n) (hi : s i ≠ 0) (h : ∀ c, 1 ≤ c → c ≤ n → c ≠ i → s c = 0) : gr n B s = (endO B s i).map fun e => s 0 + (s i).natAbs * e := by
  have e1 : nz n nzr s = [i] := nz_one h1 h2 (by simp [nzr, hi]) fun c g1 g2 g3 => by simp [nzr, h c g1 g2 g3]
  have e2 : pairO n s = none := by
    show pairL s (nz n nzr s) = none
    rw [e1]; rfl
  unfold gr
  rw [e2]
  exact grF_one h1 h2 hi h
theorem gr_pair {n : Nat} {B : Mx} {s : Sm} {i j : Nat} (hi : 1 ≤ i ∧ i ≤ n) (hj : 1 ≤ j ∧ j ≤ n) (hij : i ≠ j) (si : s i = 1) (sj : s j = -1) (h : ∀ c, 1 ≤ c → c ≤ n → c ≠ i → c ≠ j → s c = 0) : gr n B s = (B i j).map (· + s 0) := by
  have e1 : nz n pos s = [i] := nz_one hi.1 hi.2 (by simp [pos, si]) fun c g1 g2 g3 => by
    by_cases q : c = j
    · rw [q, sj]; rfl
    · rw [h c g1 g2 g3 q]; rfl
  have e2 : nz n ngt s = [j] := nz_one hj.1 hj.2 (by simp [ngt, sj]) fun c g1 g2 g3 => by
    by_cases q : c = i
    · rw [q, si]; rfl
    · rw [h c g1 g2 q g3]; rfl
  have e3 := pair_law.mp ⟨e1, e2, si, sj⟩
  unfold gr
  rw [e3]
/-- boxes by themselves: the bounds -/
theorem gr_un {n : Nat} {B : Mx} {i j : Nat} (hi : i ≤ n) (hj : j ≤ n) : (gr n B fun c => un i c - un j c) = if i = j then some 0 else B i j := by
  by_cases c : i = j
  · rw [if_pos c, c]
    exact gr_zero fun c _ => by omega
  · rw [if_neg c]
    have idm : ∀ o : Option Int, (o.map fun e => (0 : Int) + ((1 : Nat) : Int) * e) = o := fun o => by
      cases o with
      | none => rfl
      | some x => simp
    by_cases ci : i = 0
    · subst ci
      have sj : un 0 j - un j j = -1 := by rw [un_0, un_at (by omega)]; rfl
      rw [gr_one (i := j) (by omega) hj (by rw [sj]; decide) fun c g1 g2 g3 => by rw [un_0, un_ne g3]; rfl]
      unfold endO
      simp only [sj]
      rw [if_pos (by decide)]
      simp only [un_00]
      exact idm _
    · by_cases cj : j = 0
      · subst cj
        have si : un i i - un 0 i = 1 := by rw [un_0, un_at (by omega)]; rfl
        rw [gr_one (i := i) (by omega) hi (by rw [si]; decide) fun c g1 g2 g3 => by rw [un_0, un_ne g3]; rfl]
        unfold endO
        simp only [si]
        rw [if_neg (by decide)]
        simp only [un_00]
        exact idm _
      · rw [gr_pair (i := i) (j := j) ⟨by omega, hi⟩ ⟨by omega, hj⟩ c (by rw [un_at (by omega), un_ne c]; rfl) (by rw [un_at (by omega), un_ne (Ne.symm c)]; rfl) fun d _ _ h1 h2 => by rw [un_ne h1, un_ne h2]; rfl]
        simp only [un_00]
        cases B i j <;> simp
theorem sr_un {n : Nat} {R : Rs2} {i : Nat} (hi : i < n) (v : RV (R i)) : sr n R (un (i + 1)) = R i := by
  unfold sr
  rw [srF_eq]
  have key : ∀ k, k ≤ n → srM R (un (i + 1)) k = (if i < k then (R i).1 else 0) ∧ srR R (un (i + 1)) k = (if i < k then (R i).2 else 0) := fun k hk => by
    induction k with
    | zero => simp [srM, srR]
    | succ k ih =>
      obtain ⟨h1, h2⟩ := ih (by omega)
      rw [srM, srR, h1, h2]
      by_cases c : k = i
      · subst c
        rw [un_at (by omega)]
        simp only [Nat.lt_irrefl, if_false, Nat.lt_succ_self, if_true]
        have : (R k).1 * (((1 : Int).natAbs : Nat) : Int) = (R k).1 := by simp
        rw [this, gcd_0l v.1]
        simp
      · rw [un_ne (show k + 1 ≠ i + 1 by omega)]
        have : (R k).1 * (((0 : Int).natAbs : Nat) : Int) = 0 := by simp
        rw [this]
        by_cases c2 : i < k
        · rw [if_pos c2, if_pos c2, if_pos (by omega), if_pos (by omega), gcd_0r v.1]
          simp
        · rw [if_neg c2, if_neg c2, if_neg (by omega), if_neg (by omega)]
          simp
  obtain ⟨h1, h2⟩ := key n (Nat.le_refl n)
  rw [h1, h2, if_pos hi, if_pos hi]
  exact v.eta
theorem val_un {b : Nat → Int} {i n : Nat} (hi : i < n) : val (un (i + 1)) b n = b i := by
  have key : ∀ k, k ≤ n → val (un (i + 1)) b k = if i < k then b i else 0 := fun k hk => by
    induction k with
    | zero => simp [val]
    | succ k ih =>
      rw [val, ih (by omega)]
      by_cases c : k = i
      · subst c
        rw [if_neg (by omega), if_pos (by omega), un_at (by omega)]; omega
      · rw [un_ne (show k + 1 ≠ i + 1 by omega)]
        by_cases c2 : i < k
        · rw [if_pos c2, if_pos (by omega)]; omega
        · rw [if_neg c2, if_neg (by omega)]; omega
  rw [key n (Nat.le_refl n), if_pos hi]
theorem kof_un {i n : Nat} : kof (un i) n = 1 := by
  have key : ∀ k, kof (un i) k = 1 := fun k => by
    induction k with
    | zero => rfl
    | succ k ih =>
      rw [kof, ih]
      split
      · rfl
      · rename_i c
        unfold un at c ⊢
        split at c
        · rename_i q
          rw [if_pos q]; rfl
        · exact absurd rfl c
  exact key n
end Sr
set_option Elab.async false
set_option linter.all false
set_option maxRecDepth 100000
set_option maxHeartbeats 4000000
/-! # Sr: laid anew, run -/
namespace Sr
open PySem PySem.Spec PyProof.Rows L2
variable {m : Nat}
/-- a small list of the law, at a drawn place -/
theorem at_lit2 (xs : List Int) {lo c : Nat} {w : Int} (h : 0 ≤ w ∧ w < xs.length) (hb : ∀ x ∈ xs, (lo : Int) ≤ x ∧ x ≤ c) : ∃ n : Nat, (lo ≤ n ∧ n ≤ c) ∧ atI (xs.map D.int) w = some (.int (n : Int)) := by
  have hk : w.toNat < xs.length := by omega
  have g := hb _ (List.getElem_mem hk)
  refine ⟨xs[w.toNat].toNat, by omega, ?_⟩
  have e : w = ((w.toNat : Nat) : Int) := by omega
  have : atI (xs.map D.int) ((w.toNat : Nat) : Int) = some (.int xs[w.toNat]) := atI_lit (by rw [List.getElem?_map, List.getElem?_eq_getElem hk]; rfl)
  rw [← e] at this
  rw [this]
  congr 2
  omega
/-- a stretch -/
def dS (p : Option Int × Option Int) : D := .tup [dO p.1, dO p.2]
@[simp] theorem dS_un {p : Option Int × Option Int} : (dS p).un = true := by simp [dS]
@[simp] theorem dS_shr {p : Option Int × Option Int} : (dS p).shr = dS p := by simp [dS]
@[simp] theorem dS_ns {p : Option Int × Option Int} : (dS p).ns = true := by simp [dS]
@[simp] theorem dS_0 {p : Option Int × Option Int} : atD (dS p) 0 = some (dO p.1) := by simp [dS]
@[simp] theorem dS_1 {p : Option Int × Option Int} : atD (dS p) 1 = some (dO p.2) := by simp [dS]
@[simp] theorem dS_ok {n : Nat} {p : Option Int × Option Int} : okN (n + 2) (dS p) := by simp [dS]
@[simp] theorem dS_eqOk {p : Option Int × Option Int} : eqOk (dS p) = true := eqOk_of (dS_ok (n := 62))
@[simp] theorem dS_isNn {p : Option Int × Option Int} : isNn (dS p) = false := rfl
theorem dS_back {a b : Option Int} : D.tup [dO a, dO b] = dS (a, b) := rfl
/-- the bounds laid anew -/
def anB (B : Mx) (x : Nat) (p : Option Int × Option Int) : Mx := fun i j => if i = x then (if j = x then some 0 else if j = 0 then p.2 else none) else if j = x then (if i = 0 then p.1.map fun v => -v else none) else B i j
def an0 (t : Td) (x : Nat) (p : Option Int × Option Int) (r : Int × Int) : Td := (anB t.1 x p, up t.2 (x - 1) r)
noncomputable def anO (n : Nat) (t : Td) (x : Nat) (p : Option Int × Option Int) (r : Int × Int) : Option Td := shO n (an0 t x p r)
theorem an0_ok {L : Int} {β n : Nat} {t : Td} {x : Nat} {p : Option Int × Option Int} {r : Int × Int} (hL : 0 < L) (hb : bits L ≤ β) (o : Ok L β n t) (hx : 1 ≤ x ∧ x ≤ n) (h1 : ∀ v, p.1 = some v → bits v ≤ β) (h2 : ∀ v, p.2 = some v → bits v ≤ β) (hv : RV r) {g : Nat} (hr : bits r.1 ≤ g) (hr2 : bits r.2 ≤ β + g) : ∃ L' : Int, 0 < L' ∧ bits L' ≤ β + g ∧ Ok L' (β + g) n (an0 t x p r) := by
  refine ⟨L * (if r.1 = 0 then 1 else r.1), ?_, ?_, ⟨fun i hi => ?_, fun i j v hi hj e => ?_⟩, fun i hi => ?_⟩
  · refine Int.mul_pos hL ?_
    split
    · decide
    · have := hv.1; omega
  · split
    · rw [Int.mul_one]; omega
    · exact intBits_mul_le hb hr
  · show anB t.1 x p i i = some 0
    unfold anB
    split
    · rfl
    · exact o.b.d i hi
  · have e' : anB t.1 x p i j = some v := e
    unfold anB at e'
    refine bits_le (m := β) ?_ (by omega)
    split at e'
    · split at e'
      · cases e'; exact Nat.zero_le _
      · split at e'
        · exact h2 v e'
        · cases e'
    · split at e'
      · split at e'
        · cases hp : p.1 with
          | none => rw [hp] at e'; cases e'
          | some w =>
            rw [hp] at e'
            cases e'
            exact intBits_neg_le (h1 w hp)
        · cases e'
      · exact o.b.b i j v hi hj e'
  · show OkP _ _ (up t.2 (x - 1) r i)
    by_cases c : i = x - 1
    · have e : up t.2 (x - 1) r i = r := by unfold up; rw [if_pos c]
      rw [e]
      refine ⟨hv, ?_, hr2⟩
      by_cases z : r.1 = 0
      · exact .inl z
      · right; rw [if_neg z]; exact Int.dvd_mul_left ..
    · have e : up t.2 (x - 1) r i = t.2 i := by unfold up; rw [if_neg c]
      rw [e]
      have oi := o.r i hi
      exact ⟨oi.v, oi.d.imp id fun h => Int.dvd_mul_of_dvd_left h, by have := oi.b; omega⟩
theorem an0_tv {n : Nat} {t : Td} {x : Nat} {p : Option Int × Option Int} {r : Int × Int} (v : TV n t) (hv : RV r) : TV n (an0 t x p r) := ⟨fun i hi => by
  show anB t.1 x p i i = some 0
  unfold anB
  split
  · rfl
  · exact v.d i hi, fun i hi => by
  show RV (up t.2 (x - 1) r i)
  unfold up
  split
  · exact hv
  · exact v.v i hi⟩
/-- the boxes, one of them moved -/
theorem an0_lies {n : Nat} {t : Td} {x : Nat} {p : Option Int × Option Int} {r : Int × Int} {b : Nat → Int} (l : Lies n t b) (hx : 1 ≤ x ∧ x ≤ n) {y : Int} (h1 : ∀ v, p.1 = some v → v ≤ y) (h2 : ∀ v, p.2 = some v → y ≤ v) (hr : r.1 ∣ y - r.2) : Lies n (an0 t x p r) (up b (x - 1) y) := by
  have f : ∀ i, fl (up b (x - 1) y) i = if i = x then y else fl b i := fun i => by
    unfold fl up
    by_cases c : i = 0
    · rw [if_pos c, if_neg (by omega), if_pos c]
    · rw [if_neg c]
      by_cases c2 : i = x
      · rw [if_pos (by omega), if_pos c2]
      · rw [if_neg (by omega), if_neg c2, if_neg c]
  refine ⟨⟨fun i j v hi hj e => ?_⟩, fun k hk => ?_⟩
  · have e' : anB t.1 x p i j = some v := e
    rw [f, f]
    unfold anB at e'
    by_cases ci : i = x
    · rw [if_pos ci] at e' ⊢
      by_cases cj : j = x
      · rw [if_pos cj] at e' ⊢
        cases e'; omega
      · rw [if_neg cj] at e' ⊢
        by_cases c0 : j = 0
        · rw [if_pos c0] at e'
          have := h2 v e'
          rw [c0, fl_0]; omega
        · rw [if_neg c0] at e'; cases e'
    · rw [if_neg ci] at e' ⊢
      by_cases cj : j = x
      · rw [if_pos cj] at e' ⊢
        by_cases c0 : i = 0
        · rw [if_pos c0] at e'
          cases hp : p.1 with
          | none => rw [hp] at e'; cases e'
          | some w =>
            rw [hp] at e'
            cases e'
            have := h1 w hp
            show _ ≤ -w
            rw [c0, fl_0]; omega
        · rw [if_neg c0] at e'; cases e'
      · rw [if_neg cj] at e' ⊢
        exact l.b.b i j v hi hj e'
  · show (up t.2 (x - 1) r k).1 ∣ up b (x - 1) y k - (up t.2 (x - 1) r k).2
    unfold up
    by_cases c : k = x - 1
    · rw [if_pos c, if_pos c]; exact hr
    · rw [if_neg c, if_neg c]; exact l.r k hk
theorem run_anew_none {Φ : Fs} {x : D} {p r : D} (hx : x.un = true) (hp : p.un = true) (hr : r.un = true) : runDf Φ d_anew [.non, x, p, r] = some (.non, [none, none, none, none]) := by
  refine run_of rfl ?_
  simp [d_anew]
theorem run_anew {L : Int} {β n : Nat} {t : Td} {x : Nat} {p : Option Int × Option Int} {r : Int × Int} (hn : n ≤ 14) (hL : 0 < L) (hb : bits L ≤ β) (hβ : β ≤ 7900) (o : Ok L β n (an0 t x p r)) (hx : 1 ≤ x ∧ x ≤ n) : runDf (fnsN P (m + 4)) d_anew [tdF false n t, .int x, dS p, dP r] = some (toF true n (anO n t x p r), [none, none, none, none]) := by
  refine run_of rfl ?_
  have hbig : big = 1000000 := rfl
  have rS := fun m => run_sharp (m := m) hn hL hb hβ o
  have x1 : x < n + 1 := by omega
  have l1 := lst_rs (n := n) (R := t.2) (o := false)
  obtain ⟨S, hS⟩ : ∃ S : Nat → Mx, S = fun i a b => if (a = x ∧ b < i) ∨ (b = x ∧ a < i) then none else t.1 a b := ⟨_, rfl⟩
  simp only [d_anew]
  refine sat_cut (fun e => e = [some (tdF false n t), some (.int x), some (dS p), some (dP r), none, none, none, none]) (by simp) ?_
  rintro e rfl
  refine sat_cut (fun e => e = [some (tdF false n t), some (.int x), some (dS p), some (dP r), some (mxF true (n + 1) (n + 1) t.1), none, none, none]) ?_ ?_
  · simp [sat_lc]
    refine lc_copy (by intro d; rfl) rfl ?_
    simp
  rintro e rfl
  refine sat_cut (fun e => e = [some (tdF false n t), some (.int x), some (dS p), some (dP r), some (mxF true (n + 1) (n + 1) (S (n + 1))), none, none, none]) ?_ ?_
  · simp
    refine ⟨by omega, ?_⟩
    refine for_mk (S := fun i => [some (tdF false n t), some (.int x), some (dS p), some (dP r), some (mxF true (n + 1) (n + 1) (S i)), none, none, none]) (by rw [hS]; simp) ?_ ?_
    · intro i hi
      have q1 := fun B => mxF_put0 (B := B) x1 hi
      have q2 := fun B => mxF_put0 (B := B) hi x1
      have e1 : up2 (up2 (S i) x i none) i x none = S (i + 1) := by
        funext a b
        unfold up2
        rw [hS]
        simp only
        by_cases c1 : a = i ∧ b = x
        · rw [if_pos c1, if_pos (by omega)]
        · rw [if_neg c1]
          by_cases c2 : a = x ∧ b = i
          · rw [if_pos c2, if_pos (by omega)]
          · rw [if_neg c2]
            by_cases c3 : (a = x ∧ b < i) ∨ (b = x ∧ a < i)
            · rw [if_pos c3, if_pos (by omega)]
            · rw [if_neg c3, if_neg (by omega)]
      simp [q1, q2, e1]
    · simp
  rintro e rfl
  have q1 := fun B v => mxF_putI (B := B) (x := v) x1 x1
  have q2 := fun B v => mxF_putN (B := B) (x := v) x1 (show 0 < n + 1 by omega)
  have q3 := fun B v => mxF_putI (B := B) (x := v) (show 0 < n + 1 by omega) x1
  have q4 := rsF_put (n := n) (R := t.2) (x := r) (z := (x : Int) - 1) (by omega)
  have et : ((x : Int) - 1).toNat = x - 1 := by omega
  rw [et] at q4
  simp only [Int.natCast_zero] at q2 q3
  have fin : mxF false (n + 1) (n + 1) (match p.1 with
      | none => up2 (up2 (S (n + 1)) x x (some 0)) x 0 p.2
      | some v => up2 (up2 (up2 (S (n + 1)) x x (some 0)) x 0 p.2) 0 x (some (-v))) = mxF false (n + 1) (n + 1) (anB t.1 x p) := mxF_congr fun a b ha hb => by
    have base : up2 (up2 (S (n + 1)) x x (some 0)) x 0 p.2 a b = if a = x then (if b = x then some 0 else if b = 0 then p.2 else none) else if b = x then none else t.1 a b := by
      unfold up2
      rw [hS]
      simp only
      by_cases c1 : a = x
      · by_cases c2 : b = 0
        · rw [if_pos ⟨c1, c2⟩, if_pos c1, if_neg (by omega), if_pos c2]
        · rw [if_neg (fun z => c2 z.2), if_pos c1]
          by_cases c3 : b = x
          · rw [if_pos ⟨c1, c3⟩, if_pos c3]
          · rw [if_neg (fun z => c3 z.2), if_pos (.inl ⟨c1, hb⟩), if_neg c3, if_neg c2]
      · rw [if_neg (fun z => c1 z.1), if_neg (fun z => c1 z.1), if_neg c1]
        by_cases c3 : b = x
        · rw [if_pos (.inr ⟨c3, ha⟩), if_pos c3]
        · rw [if_neg (fun z => z.elim (fun z => c1 z.1) (fun z => c3 z.1)), if_neg c3]
    unfold anB
    cases hp : p.1 with
    | none =>
      simp only
      rw [base]
      by_cases c1 : a = x
      · rw [if_pos c1, if_pos c1]
      · rw [if_neg c1, if_neg c1]
        simp
    | some v =>
      simp only
      show (if a = 0 ∧ b = x then some (-v) else up2 (up2 (S (n + 1)) x x (some 0)) x 0 p.2 a b) = _
      rw [base]
      by_cases c1 : a = x
      · rw [if_neg (by omega), if_pos c1, if_pos c1]
      · rw [if_neg c1, if_neg c1]
        by_cases c3 : b = x
        · by_cases c0 : a = 0
          · simp [c0, c3]
          · simp [c0, c3]
        · simp [c3]
  have tb : D.tup [mxF false (n + 1) (n + 1) (anB t.1 x p), rsF false n (up t.2 (x - 1) r)] = tdF false n (an0 t x p r) := td_back
  cases hp : p.1 with
  | none =>
    rw [hp] at fin
    simp only at fin
    simp [q1, q2, hp, l1, q4, fin, tb, rS]
    rfl
  | some v =>
    rw [hp] at fin
    simp only at fin
    simp [q1, q2, q3, hp, l1, q4, fin, tb, rS]
    rfl
theorem mxF_putRow {n k : Nat} {B : Mx} {r : Nat → Option Int} {i : Nat} (h : i < n) : putD (i : Int) (rowF true k r) (mxF true n k B) = some (mxF true n k (fun a b => if a = i then r b else B a b)) := by
  unfold mxF
  rw [putD_mkN h]
  congr 2
  refine mk_congr fun a ha => ?_
  by_cases c : a = i
  · rw [if_pos c]; simp [c]
  · rw [if_neg c]; simp [c]
theorem sl_rs {n : Nat} {R : Rs2} {lo hi : Option Int} : slD (rsF false n R) lo hi = some (rsF true (HT.sIx n n hi - HT.sIx n 0 lo) fun i => R (HT.sIx n 0 lo + i)) := by
  have u : unL (mk n fun j => dP (R j)) = true := by simp
  show (if unL (mk n fun j => dP (R j)) = true then some (D.lst true (cutD (mk n fun j => dP (R j)) lo hi)) else none) = _
  rw [if_pos u, cut_mk]; rfl
theorem cat_rs {n k : Nat} {R T : Rs2} {o o' : Bool} (h : n + k ≤ 10000) : binD .add (rsF o n R) (rsF o' k T) = some (rsF true (n + k) fun i => if i < n then R i else T (i - n)) := by
  have hbig : big = 1000000 := rfl
  unfold rsF
  rw [binD_cat, if_pos]
  · rw [mk_app]
    congr 2
    refine mk_congr fun i _ => ?_
    simp only
    split <;> rfl
  · simp; omega
theorem one_rs {r : Int × Int} {o : Bool} : D.lst o [dP r] = rsF o 1 fun _ => r := rfl
/-- the rests, one of them laid anew -/
theorem mid_rs {n x : Nat} {R : Rs2} {r : Int × Int} (hx : 1 ≤ x ∧ x ≤ n) : rsF true (x - 1 + 1 + (n - x)) (fun i => if i < x - 1 + 1 then (if i < x - 1 then R i else r) else R (x + (i - (x - 1 + 1)))) = rsF true n (up R (x - 1) r) := by
  have e : x - 1 + 1 + (n - x) = n := by omega
  rw [e]
  refine rsF_congr fun i hi => ?_
  unfold up
  by_cases c : i = x - 1
  · rw [if_pos (by omega), if_neg (by omega), if_pos c]
  · rw [if_neg c]
    by_cases c2 : i < x - 1
    · rw [if_pos (by omega), if_pos c2]
    · rw [if_neg (by omega)]
      congr 1; omega
theorem run_lanew_none {Φ : Fs} {x : D} {p r : D} (hx : x.un = true) (hp : p.un = true) (hr : r.un = true) : runDf Φ d__law_anew [.non, x, p, r] = some (.non, [none, none, none, none]) := by
  refine run_of rfl ?_
  simp [d__law_anew]
theorem run_lanew {L : Int} {β n : Nat} {t : Td} {x : Nat} {p : Option Int × Option Int} {r : Int × Int} (hn : n ≤ 14) (hL : 0 < L) (hb : bits L ≤ β) (hβ : β ≤ 7900) (o : Ok L β n (an0 t x p r)) (hx : 1 ≤ x ∧ x ≤ n) : runDf (fnsN P (m + 4)) d__law_anew [tdF false n t, .int x, dS p, dP r] = some (toF false n (anO n t x p r), [none, none, none, none]) := by
  refine run_of rfl ?_
  have hbig : big = 1000000 := rfl
  have rS := fun m => run_lsharp (m := m) hn hL hb hβ o
  have x1 : x < n + 1 := by omega
  obtain ⟨S, hS⟩ : ∃ S : Nat → Mx, S = fun i a b => if b = x ∧ a < i then none else t.1 a b := ⟨_, rfl⟩
  obtain ⟨S2, hS2⟩ : ∃ S2 : Mx, S2 = fun a b => if a = x then none else S (n + 1) a b := ⟨_, rfl⟩
  have mz : binD .mul (.lst true [.non]) (.int ((n : Int) + 1)) = some (rowF true (n + 1) fun _ => none) := by
    show (if ((true && unL [D.non]) && decide ([D.non].length * ((n : Int) + 1).toNat ≤ big) && decide ((n : Int) + 1 < 2 ^ 62) && decide (-(2 ^ 62) ≤ (n : Int) + 1)) = true then some (D.lst true (List.replicate ((n : Int) + 1).toNat [D.non]).flatten) else none) = _
    have e : ((n : Int) + 1).toNat = n + 1 := by omega
    rw [e, if_pos, mk_rep]
    · rfl
    · simp; omega
  simp only [d__law_anew]
  refine sat_cut (fun e => e = [some (tdF false n t), some (.int x), some (dS p), some (dP r), none, none, none]) (by simp) ?_
  rintro e rfl
  refine sat_cut (fun e => e = [some (tdF false n t), some (.int x), some (dS p), some (dP r), some (mxF true (n + 1) (n + 1) t.1), none, none]) ?_ ?_
  · simp [sat_lc]
    refine lc_copy (by intro d; rfl) rfl ?_
    simp
  rintro e rfl
  refine sat_cut (fun e => e = [some (tdF false n t), some (.int x), some (dS p), some (dP r), some (mxF true (n + 1) (n + 1) (S (n + 1))), none, none]) ?_ ?_
  · simp
    refine ⟨by omega, ?_⟩
    refine for_mk (S := fun i => [some (tdF false n t), some (.int x), some (dS p), some (dP r), some (mxF true (n + 1) (n + 1) (S i)), none, none]) (by rw [hS]; simp) ?_ ?_
    · intro i hi
      have q2 := fun B => mxF_put0 (B := B) hi x1
      have e1 : up2 (S i) i x none = S (i + 1) := by
        funext a b
        unfold up2
        rw [hS]
        simp only
        by_cases c1 : a = i ∧ b = x
        · rw [if_pos c1, if_pos (by omega)]
        · rw [if_neg c1]
          by_cases c3 : b = x ∧ a < i
          · rw [if_pos c3, if_pos (by omega)]
          · rw [if_neg c3, if_neg (by omega)]
      simp [q2, e1]
    · simp
  rintro e rfl
  refine sat_cut (fun e => e = [some (tdF false n t), some (.int x), some (dS p), some (dP r), some (mxF true (n + 1) (n + 1) S2), none, none]) ?_ ?_
  · have q := mxF_putRow (k := n + 1) (B := S (n + 1)) (r := fun _ => none) x1
    simp [mz, q, hS2]
  rintro e rfl
  have q1 := fun B v => mxF_putI (B := B) (x := v) x1 x1
  have q2 := fun B v => mxF_putN (B := B) (x := v) x1 (show 0 < n + 1 by omega)
  have q3 := fun B v => mxF_putI (B := B) (x := v) (show 0 < n + 1 by omega) x1
  simp only [Int.natCast_zero] at q2 q3
  have fin : mxF false (n + 1) (n + 1) (match p.1 with
      | none => up2 (up2 S2 x x (some 0)) x 0 p.2
      | some v => up2 (up2 (up2 S2 x x (some 0)) x 0 p.2) 0 x (some (-v))) = mxF false (n + 1) (n + 1) (anB t.1 x p) := mxF_congr fun a b ha hb => by
    have base : up2 (up2 S2 x x (some 0)) x 0 p.2 a b = if a = x then (if b = x then some 0 else if b = 0 then p.2 else none) else if b = x then none else t.1 a b := by
      unfold up2
      rw [hS2, hS]
      simp only
      by_cases c1 : a = x
      · by_cases c2 : b = 0
        · rw [if_pos ⟨c1, c2⟩, if_pos c1, if_neg (by omega), if_pos c2]
        · rw [if_neg (fun z => c2 z.2)]
          by_cases c3 : b = x
          · rw [if_pos ⟨c1, c3⟩, if_pos c1, if_pos c3]
          · rw [if_neg (fun z => c3 z.2), if_pos c1, if_pos c1, if_neg c3, if_neg c2]
      · rw [if_neg (fun z => c1 z.1), if_neg (fun z => c1 z.1), if_neg c1, if_neg c1]
        by_cases c3 : b = x
        · rw [if_pos ⟨c3, ha⟩, if_pos c3]
        · rw [if_neg (fun z => c3 z.1), if_neg c3]
    unfold anB
    cases hp : p.1 with
    | none =>
      simp only
      rw [base]
      by_cases c1 : a = x
      · rw [if_pos c1, if_pos c1]
      · rw [if_neg c1, if_neg c1]
        simp
    | some v =>
      simp only
      show (if a = 0 ∧ b = x then some (-v) else up2 (up2 S2 x x (some 0)) x 0 p.2 a b) = _
      rw [base]
      by_cases c1 : a = x
      · rw [if_neg (by omega), if_pos c1, if_pos c1]
      · rw [if_neg c1, if_neg c1]
        by_cases c3 : b = x
        · by_cases c0 : a = 0
          · simp [c0, c3]
          · simp [c0, c3]
        · simp [c3]
  have s1 := sl_rs (n := n) (R := t.2) (lo := none) (hi := some ((x : Int) - 1))
  have s2 := sl_rs (n := n) (R := t.2) (lo := some (x : Int)) (hi := none)
  have i1 : HT.sIx n n (some ((x : Int) - 1)) = x - 1 := by
    have : (x : Int) - 1 = ((x - 1 : Nat) : Int) := by omega
    rw [this, HT.sIx_nat]; omega
  have i2 : HT.sIx n 0 (some (x : Int)) = x := by rw [HT.sIx_nat]; omega
  rw [i1, HT.sIx_none] at s1
  rw [i2, HT.sIx_none] at s2
  simp only [Nat.sub_zero, Nat.zero_add] at s1
  have c1 := cat_rs (n := x - 1) (k := 1) (R := t.2) (T := fun _ => r) (o := true) (o' := true) (by omega)
  have c2 := cat_rs (n := x - 1 + 1) (k := n - x) (R := fun i => if i < x - 1 then t.2 i else r) (T := fun i => t.2 (x + i)) (o := true) (o' := true) (by omega)
  rw [mid_rs hx] at c2
  rw [← one_rs] at c1
  have tb : D.tup [mxF false (n + 1) (n + 1) (anB t.1 x p), rsF false n (up t.2 (x - 1) r)] = tdF false n (an0 t x p r) := td_back
  cases hp : p.1 with
  | none =>
    rw [hp] at fin
    simp only at fin
    simp [q1, q2, hp, s1, s2, c1, c2, fin, tb, rS]
    rfl
  | some v =>
    rw [hp] at fin
    simp only at fin
    simp [q1, q2, q3, hp, s1, s2, c1, c2, fin, tb, rS]
    rfl
end Sr
set_option Elab.async false
set_option linter.all false
set_option maxRecDepth 100000
set_option maxHeartbeats 4000000
/-! # Sr: held to a sum being at most a number, run -/
namespace Sr
open PySem PySem.Spec PyProof.Rows L2
variable {m : Nat}
def amD (s : Sm) (i j : Nat) : Sm := fun c => un i c - un j c - s c
def amE (s : Sm) (i : Nat) : Sm := fun c => un i c * s i - s c
def am1 (n : Nat) (B : Mx) (s : Sm) (top : Int) : Mx := fun i j => if i = j then B i j else oMin (B i j) ((gr n B (amD s i j)).map fun g => g + top)
def am2 (n : Nat) (B : Mx) (s : Sm) (top : Int) : Mx := fun i j => if j = 0 ∧ 1 ≤ i ∧ 0 < s i then oMin (am1 n B s top i j) ((gr n B (amE s i)).map fun g => (g + top).fdiv (s i)) else if i = 0 ∧ 1 ≤ j ∧ s j < 0 then oMin (am1 n B s top i j) ((gr n B (amE s j)).map fun g => (g + top).fdiv (-s j)) else am1 n B s top i j
def am0 (n : Nat) (t : Td) (s : Sm) (top : Int) : Td := (am2 n t.1 s top, t.2)
/-- whether the least of the sum is above -/
def amN (n : Nat) (t : Td) (s : Sm) (top : Int) : Bool := match gr n t.1 fun c => -s c with
  | some g => decide (top < -g)
  | none => false
noncomputable def amO (n : Nat) (t : Td) (s : Sm) (top : Int) : Option Td := if amN n t s top = true then none else shO n (am0 n t s top)
noncomputable def amT (n : Nat) (t : Option Td) (s : Sm) (top : Int) : Option Td := match t with
  | none => none
  | some t => amO n t s top
theorem oMin_none {a : Option Int} : oMin a none = a := by cases a <;> rfl
theorem oMin_bits {a b : Option Int} {β : Nat} (ha : ∀ x, a = some x → bits x ≤ β) (hb : ∀ x, b = some x → bits x ≤ β) : ∀ x, oMin a b = some x → bits x ≤ β := fun x h => by
  rcases oMin_or a b with q | q <;> rw [q] at h
  · exact ha x h
  · exact hb x h
theorem am0_ok {L : Int} {β γ n : Nat} {t : Td} {s : Sm} {top : Int} (hn : n ≤ 14) (o : Ok L β n t) (hs : ∀ i, 1 ≤ i → i ≤ n → (s i).natAbs < 2 ^ 39) (h0 : bits (s 0) ≤ γ) (ht : bits top ≤ γ) (hγ : β + 40 ≤ γ) : Ok L (γ + 17) n (am0 n t s top) := by
  have g1 : ∀ i j g, gr n t.1 (amD s i j) = some g → bits g ≤ γ + 15 := fun i j g h => by
    have := gr_bits (γ := γ) o.b (by show bits (un i 0 - un j 0 - s 0) ≤ γ; simp; exact intBits_neg_le h0) (fun c h1 h2 => by
      have := hs c h1 h2
      have := un_lt (i := i) (c := c)
      have := un_lt (i := j) (c := c)
      show (un i c - un j c - s c).natAbs < 2 ^ 40
      omega) hγ h
    omega
  have g2 : ∀ i g, 1 ≤ i → i ≤ n → gr n t.1 (amE s i) = some g → bits g ≤ γ + 15 := fun i g h1 h2 h => by
    have := gr_bits (γ := γ) o.b (by show bits (un i 0 * s i - s 0) ≤ γ; simp; exact intBits_neg_le h0) (fun c g1 g2 => by
      have := hs c g1 g2
      show (un i c * s i - s c).natAbs < 2 ^ 40
      unfold un
      split
      · rename_i q; rw [q.2]; omega
      · omega) hγ h
    omega
  have b1 : ∀ i j x, i ≤ n → j ≤ n → am1 n t.1 s top i j = some x → bits x ≤ γ + 17 := fun i j x hi hj h => by
    unfold am1 at h
    split at h
    · exact bits_le (o.b.b i j x hi hj h) (by omega)
    · refine oMin_bits (fun y hy => bits_le (o.b.b i j y hi hj hy) (by omega)) (fun y hy => ?_) x h
      cases hg : gr n t.1 (amD s i j) with
      | none => rw [hg] at hy; cases hy
      | some g =>
        rw [hg] at hy
        cases hy
        exact bits_le (intBits_add_le (g1 i j g hg) ht) (by omega)
  refine ⟨⟨fun i hi => ?_, fun i j x hi hj h => ?_⟩, o.r.le (by omega)⟩
  · show am2 n t.1 s top i i = some 0
    unfold am2
    rw [if_neg (by omega), if_neg (by omega)]
    unfold am1
    rw [if_pos rfl]
    exact o.b.d i hi
  · have h' : am2 n t.1 s top i j = some x := h
    unfold am2 at h'
    split at h'
    · rename_i c
      refine oMin_bits (fun y hy => b1 i j y hi hj hy) (fun y hy => ?_) x h'
      cases hg : gr n t.1 (amE s i) with
      | none => rw [hg] at hy; cases hy
      | some g =>
        rw [hg] at hy
        cases hy
        exact intBits_fdiv_le (bits_le (intBits_add_le (g2 i g c.2.1 hi hg) ht) (by omega))
    · split at h'
      · rename_i c
        refine oMin_bits (fun y hy => b1 i j y hi hj hy) (fun y hy => ?_) x h'
        cases hg : gr n t.1 (amE s j) with
        | none => rw [hg] at hy; cases hy
        | some g =>
          rw [hg] at hy
          cases hy
          exact intBits_fdiv_le (bits_le (intBits_add_le (g2 j g c.2.1 hj hg) ht) (by omega))
      · exact b1 i j x hi hj h'
theorem am0_tv {n : Nat} {t : Td} {s : Sm} {top : Int} (v : TV n t) : TV n (am0 n t s top) := ⟨fun i hi => by
  show am2 n t.1 s top i i = some 0
  unfold am2
  rw [if_neg (by omega), if_neg (by omega)]
  unfold am1
  rw [if_pos rfl]
  exact v.d i hi, v.v⟩
/-- how sizes grow -/
theorem amO_ok {L : Int} {β γ n : Nat} {t t' : Td} {s : Sm} {top : Int} (hn : n ≤ 14) (hL : 0 < L) (hb : bits L ≤ β) (o : Ok L β n t) (hs : ∀ i, 1 ≤ i → i ≤ n → (s i).natAbs < 2 ^ 39) (h0 : bits (s 0) ≤ γ) (ht : bits top ≤ γ) (hγ : β + 40 ≤ γ) (h : amO n t s top = some t') : Ok L (γ + 28) n t' := by
  unfold amO at h
  split at h
  · cases h
  · exact shO_ok hn hL (by omega) (am0_ok hn o hs h0 ht hγ) h
theorem run_pull (Φ : Fs) {n : Nat} {B : Mx} {i j : Nat} {top : Int} (hi : i < n) (hj : j < n) : runDf Φ d_pull [mxF true n n B, .int i, .int j, .int top] = some (.non, [some (mxF true n n (up2 B i j (oMin (B i j) (some top)))), none, none, none]) := by
  refine run_of rfl ?_
  have a1 := fun o M => mxF_atN (o := o) (n := n) (B := M) hi
  have b1 := fun o r => rowF_atN (o := o) (r := r) hj
  have p1 := fun M x => mxF_putI (B := M) (x := x) hi hj
  have keep : up2 B i j (B i j) = B := by
    funext a b
    unfold up2
    split
    · rename_i c; rw [c.1, c.2]
    · rfl
  cases h : B i j with
  | none => simp [d_pull, a1, b1, p1, h, oMin]
  | some x =>
    by_cases c : top < x
    · simp [d_pull, a1, b1, p1, h, oMin, c]
    · rw [h] at keep
      simp [d_pull, a1, b1, p1, h, oMin, c, keep]
/-- the second loop, so far -/
def am3 (n : Nat) (B : Mx) (s : Sm) (top : Int) (k : Nat) : Mx := fun a b => if (b = 0 ∧ 1 ≤ a ∧ a ≤ k) ∨ (a = 0 ∧ 1 ≤ b ∧ b ≤ k) then am2 n B s top a b else am1 n B s top a b
theorem am3_0 {n : Nat} {B : Mx} {s : Sm} {top : Int} : am3 n B s top 0 = am1 n B s top := by
  funext a b
  unfold am3
  rw [if_neg (by omega)]
theorem am3_end {n : Nat} {B : Mx} {s : Sm} {top : Int} {o : Bool} : mxF o (n + 1) (n + 1) (am3 n B s top n) = mxF o (n + 1) (n + 1) (am2 n B s top) := mxF_congr fun a b ha hb => by
  unfold am3
  split
  · rfl
  · unfold am2
    rw [if_neg (by omega), if_neg (by omega)]
theorem am3_at0 {n : Nat} {B : Mx} {s : Sm} {top : Int} {k : Nat} : am3 n B s top k (k + 1) 0 = am1 n B s top (k + 1) 0 := by unfold am3; rw [if_neg (by omega)]
theorem am3_at1 {n : Nat} {B : Mx} {s : Sm} {top : Int} {k : Nat} : am3 n B s top k 0 (k + 1) = am1 n B s top 0 (k + 1) := by unfold am3; rw [if_neg (by omega)]
theorem am3_keep {n : Nat} {B : Mx} {s : Sm} {top : Int} {k : Nat} (h1 : am2 n B s top (k + 1) 0 = am1 n B s top (k + 1) 0) (h2 : am2 n B s top 0 (k + 1) = am1 n B s top 0 (k + 1)) : am3 n B s top (k + 1) = am3 n B s top k := by
  funext a b
  unfold am3
  by_cases c : (b = 0 ∧ 1 ≤ a ∧ a ≤ k) ∨ (a = 0 ∧ 1 ≤ b ∧ b ≤ k)
  · rw [if_pos c, if_pos (by omega)]
  · rw [if_neg c]
    by_cases c2 : (b = 0 ∧ 1 ≤ a ∧ a ≤ k + 1) ∨ (a = 0 ∧ 1 ≤ b ∧ b ≤ k + 1)
    · rw [if_pos c2]
      have : (a = k + 1 ∧ b = 0) ∨ (a = 0 ∧ b = k + 1) := by omega
      rcases this with ⟨rfl, rfl⟩ | ⟨rfl, rfl⟩
      · exact h1
      · exact h2
    · rw [if_neg c2]
theorem am3_put0 {n : Nat} {B : Mx} {s : Sm} {top : Int} {k : Nat} (hs : 0 < s (k + 1)) : up2 (am3 n B s top k) (k + 1) 0 (oMin (am1 n B s top (k + 1) 0) ((gr n B (amE s (k + 1))).map fun g => (g + top).fdiv (s (k + 1)))) = am3 n B s top (k + 1) := by
  funext a b
  unfold up2
  by_cases c1 : a = k + 1 ∧ b = 0
  · rw [if_pos c1, c1.1, c1.2]
    unfold am3
    rw [if_pos (by omega)]
    unfold am2
    rw [if_pos ⟨rfl, by omega, hs⟩]
  · rw [if_neg c1]
    unfold am3
    by_cases c : (b = 0 ∧ 1 ≤ a ∧ a ≤ k) ∨ (a = 0 ∧ 1 ≤ b ∧ b ≤ k)
    · rw [if_pos c, if_pos (by omega)]
    · rw [if_neg c]
      by_cases c2 : (b = 0 ∧ 1 ≤ a ∧ a ≤ k + 1) ∨ (a = 0 ∧ 1 ≤ b ∧ b ≤ k + 1)
      · rw [if_pos c2]
        have : a = 0 ∧ b = k + 1 := by omega
        rw [this.1, this.2]
        unfold am2
        rw [if_neg (by omega), if_neg (by omega)]
      · rw [if_neg c2]
theorem am3_put1 {n : Nat} {B : Mx} {s : Sm} {top : Int} {k : Nat} (hs : s (k + 1) < 0) : up2 (am3 n B s top k) 0 (k + 1) (oMin (am1 n B s top 0 (k + 1)) ((gr n B (amE s (k + 1))).map fun g => (g + top).fdiv (-s (k + 1)))) = am3 n B s top (k + 1) := by
  funext a b
  unfold up2
  by_cases c1 : a = 0 ∧ b = k + 1
  · rw [if_pos c1, c1.1, c1.2]
    unfold am3
    rw [if_pos (by omega)]
    unfold am2
    rw [if_neg (by omega), if_pos ⟨rfl, by omega, hs⟩]
  · rw [if_neg c1]
    unfold am3
    by_cases c : (b = 0 ∧ 1 ≤ a ∧ a ≤ k) ∨ (a = 0 ∧ 1 ≤ b ∧ b ≤ k)
    · rw [if_pos c, if_pos (by omega)]
    · rw [if_neg c]
      by_cases c2 : (b = 0 ∧ 1 ≤ a ∧ a ≤ k + 1) ∨ (a = 0 ∧ 1 ≤ b ∧ b ≤ k + 1)
      · rw [if_pos c2]
        have : a = k + 1 ∧ b = 0 := by omega
        rw [this.1, this.2]
        unfold am2
        rw [if_neg (by omega), if_neg (by omega)]
      · rw [if_neg c2]
theorem am2_zero {n : Nat} {B : Mx} {s : Sm} {top : Int} {k : Nat} (hs : s (k + 1) = 0) : am2 n B s top (k + 1) 0 = am1 n B s top (k + 1) 0 ∧ am2 n B s top 0 (k + 1) = am1 n B s top 0 (k + 1) := by
  unfold am2
  refine ⟨?_, ?_⟩
  · rw [if_neg (by omega), if_neg (by omega)]
  · rw [if_neg (by omega), if_neg (by omega)]
theorem am2_none {n : Nat} {B : Mx} {s : Sm} {top : Int} {k : Nat} (h : gr n B (amE s (k + 1)) = none) : am2 n B s top (k + 1) 0 = am1 n B s top (k + 1) 0 ∧ am2 n B s top 0 (k + 1) = am1 n B s top 0 (k + 1) := by
  unfold am2
  refine ⟨?_, ?_⟩
  · split
    · rw [h]; exact oMin_none
    · rw [if_neg (by omega)]
  · rw [if_neg (by omega)]
    split
    · rw [h]; exact oMin_none
    · rfl
theorem run_at_most_none {Φ : Fs} {n : Nat} {s : Sm} {top : Int} : runDf Φ d_at_most [.non, intF false n s, .int top] = some (.non, [none, none, none]) := by
  refine run_of rfl ?_
  simp [d_at_most]
theorem run_at_most {L : Int} {β γ n : Nat} {t : Td} {s : Sm} {top : Int} (hn : n ≤ 14) (hL : 0 < L) (hb : bits L ≤ β) (o : Ok L β n t) (hs : ∀ i, 1 ≤ i → i ≤ n → (s i).natAbs < 2 ^ 39) (h0 : bits (s 0) ≤ γ) (ht : bits top ≤ γ) (hγ : β + 40 ≤ γ) (hβ : γ ≤ 7800) : runDf (fnsN P (m + 4)) d_at_most [tdF false n t, intF false (n + 1) s, .int top] = some (toF true n (amO n t s top), [none, none, none]) := by
  refine run_of rfl ?_
  have hbig : big = 1000000 := rfl
  have rS := fun m => run_sharp (m := m) hn hL (show bits L ≤ γ + 17 by omega) (by omega) (am0_ok hn o hs h0 ht hγ)
  have rL := fun m => run_least (m := m) (n := n) (t := t) (s := s) (by omega) (fun i h1 h2 => by have := hs i h1 h2; omega)
  have rT := fun Φ => run_sum_times Φ (n := n + 1) (s := s) (k := -1) (fun c hc => mulOk_r (by decide))
  have l1 := lst_rs (n := n) (R := t.2) (o := false)
  have amn : ∀ g, (gr n t.1 fun c => -s c) = some g → amN n t s top = decide (top < -g) := fun g h => by unfold amN; rw [h]
  have amn0 : (gr n t.1 fun c => -s c) = none → amN n t s top = false := fun h => by unfold amN; rw [h]
  unfold amO
  simp only [d_at_most]
  refine sat_cut (fun e => e = [some (tdF false n t), some (intF false (n + 1) s), some (.int top), none, none, none, none, none, none, none, none, none, none]) (by simp) ?_
  rintro e rfl
  refine sat_cut (fun e => e = [some (tdF false n t), some (intF false (n + 1) s), some (.int top), some (dO ((gr n t.1 fun i => -s i).map fun x => -x)), none, none, none, none, none, none, none, none, none]) (by simp [rL]) ?_
  rintro e rfl
  by_cases hN : amN n t s top = true
  · rw [if_pos hN]
    cases hg : gr n t.1 fun c => -s c with
    | none => rw [amn0 hg] at hN; cases hN
    | some g =>
      rw [amn g hg] at hN
      simp at hN
      simp [hN]
  rw [if_neg hN]
  refine sat_cut (fun e => e = [some (tdF false n t), some (intF false (n + 1) s), some (.int top), some (dO ((gr n t.1 fun i => -s i).map fun x => -x)), none, none, none, none, none, none, none, none, none]) ?_ ?_
  · cases hg : gr n t.1 fun c => -s c with
    | none => simp
    | some g =>
      rw [amn g hg] at hN
      simp at hN
      have : ¬ top < -g := by omega
      simp [this]
  rintro e rfl
  obtain ⟨E, hE⟩ : ∃ E : Option D → Option D → Option D → Option D → Option D → Option D → Env, E = fun M i j k x y => [some (tdF false n t), some (intF false (n + 1) s), some (.int top), some (dO ((gr n t.1 fun i => -s i).map fun x => -x)), some (.int n), some (intF false (n + 1) fun i => -s i), M, i, j, k, none, x, y] := ⟨_, rfl⟩
  refine sat_cut (fun e => e = [some (tdF false n t), some (intF false (n + 1) s), some (.int top), some (dO ((gr n t.1 fun i => -s i).map fun x => -x)), some (.int n), none, none, none, none, none, none, none, none]) (by simp) ?_
  rintro e rfl
  refine sat_cut (fun e => e = E none none none none none none) (by rw [hE]; simp [rT, agFz_var]) ?_
  rintro e rfl
  refine sat_cut (fun e => e = E (some (mxF true (n + 1) (n + 1) t.1)) none none none none none) ?_ ?_
  · rw [hE]
    simp [sat_lc]
    refine lc_copy (by intro d; rfl) rfl ?_
    simp
  rintro e rfl
  refine sat_cut (fun e => e = E (some (mxF true (n + 1) (n + 1) (am1 n t.1 s top))) none none none none none) ?_ ?_
  · rw [hE]
    simp
    refine ⟨by omega, ?_⟩
    refine for_mk (S := fun i => E (some (mxF true (n + 1) (n + 1) (updN t.1 (am1 n t.1 s top) i 0))) none none none none none) (by rw [hE]; simp) ?_ ?_
    · intro i hi
      rw [hE]
      simp
      refine ⟨by omega, ?_⟩
      refine for_mk (S := fun j => E (some (mxF true (n + 1) (n + 1) (updN t.1 (am1 n t.1 s top) i j))) (some (.int i)) none none none none) (by rw [hE]) ?_ ?_
      · intro j hj
        have r1 := fun Φ => run_box_sum Φ (i := i) (n := n) (by omega) (by omega)
        have r2 := fun Φ => run_box_sum Φ (i := j) (n := n) (by omega) (by omega)
        have eu : ∀ i, (fun c => if 0 < i ∧ c = i then (1 : Int) else 0) = un i := fun i => rfl
        simp only [eu] at r1 r2
        have r3 := fun Φ => run_sum_times Φ (n := n + 1) (s := un j) (k := -1) (fun c hc => mulOk_r (by decide))
        have r4 := fun Φ => run_sum_plus Φ (n := n + 1) (s := un i) (u := fun c => -un j c)
        have r5 := fun Φ => run_sum_plus Φ (n := n + 1) (s := fun c => un i c + -un j c) (u := fun c => -s c)
        have r6 := fun m => run_greatest (m := m) (n := n) (t := t) (s := fun c => un i c + -un j c + -s c) (by omega) (fun c h1 h2 => by
          have := hs c h1 h2
          have := un_lt (i := i) (c := c)
          have := un_lt (i := j) (c := c)
          show (un i c + -un j c + -s c).natAbs < 2 ^ 40
          omega)
        have e1 : (gr n t.1 fun c => un i c + -un j c + -s c) = gr n t.1 (amD s i j) := by
          congr 1
        rw [e1] at r6
        rw [hE]
        by_cases c : i = j
        · have kp : updN t.1 (am1 n t.1 s top) i j = updN t.1 (am1 n t.1 s top) i (j + 1) := updN_keep (by unfold am1; rw [if_pos c])
          subst c
          simp
          rw [← kp]
        · have c' : ¬ ((i : Int) = (j : Int)) := by omega
          cases hg : gr n t.1 (amD s i j) with
          | none =>
            rw [hg] at r6
            have kp : updN t.1 (am1 n t.1 s top) i j = updN t.1 (am1 n t.1 s top) i (j + 1) := updN_keep (by unfold am1; rw [if_neg c, hg]; exact oMin_none.symm)
            simp [c, c', r1, r2, r3, r4, r5, r6, agFz_var]
            rw [kp]
          | some g =>
            rw [hg] at r6
            have rp := fun Φ => run_pull Φ (n := n + 1) (B := updN t.1 (am1 n t.1 s top) i j) (i := i) (j := j) (top := g + top) hi hj
            rw [updN_at] at rp
            have kp : up2 (updN t.1 (am1 n t.1 s top) i j) i j (oMin (t.1 i j) (some (g + top))) = updN t.1 (am1 n t.1 s top) i (j + 1) := updN_put (by unfold am1; rw [if_neg c, hg]; rfl)
            rw [kp] at rp
            simp [c, c', r1, r2, r3, r4, r5, r6, rp, agFz_var]
      · rw [hE]
        simp
        exact updN_row
    · rw [hE]
      simp
      exact updN_end
  rintro e rfl
  refine sat_cut (fun e => e = E (some (mxF true (n + 1) (n + 1) (am2 n t.1 s top))) none none none none none) ?_ ?_
  · rw [hE]
    simp
    refine ⟨by omega, ?_⟩
    refine for_mk (S := fun k => E (some (mxF true (n + 1) (n + 1) (am3 n t.1 s top k))) none none none none none) (by rw [hE]; simp [am3_0]) ?_ ?_
    · intro k hk
      have c1 : (1 : Int) + (k : Int) = ((k + 1 : Nat) : Int) := by omega
      have a0 := intF_atN (o := false) (s := s) (show k + 1 < n + 1 by omega)
      have hsk := hs (k + 1) (by omega) (by omega)
      have r1 := fun Φ => run_box_sum Φ (i := k + 1) (n := n) (by omega) (by omega)
      have eu : (fun c => if 0 < k + 1 ∧ c = k + 1 then (1 : Int) else 0) = un (k + 1) := rfl
      simp only [eu] at r1
      have r3 := fun Φ => run_sum_times Φ (n := n + 1) (s := un (k + 1)) (k := s (k + 1)) (fun c hc => mulOk_r (by omega))
      have r4 := fun Φ => run_sum_plus Φ (n := n + 1) (s := fun c => un (k + 1) c * s (k + 1)) (u := fun c => -s c)
      have r6 := fun m => run_greatest (m := m) (n := n) (t := t) (s := fun c => un (k + 1) c * s (k + 1) + -s c) (by omega) (fun c h1 h2 => by
        have := hs c h1 h2
        show (un (k + 1) c * s (k + 1) + -s c).natAbs < 2 ^ 40
        unfold un
        split
        · rename_i q; rw [q.2]; omega
        · omega)
      have e1 : (gr n t.1 fun c => un (k + 1) c * s (k + 1) + -s c) = gr n t.1 (amE s (k + 1)) := by
        congr 1
      rw [e1] at r6
      simp only [Int.natCast_add, Int.natCast_one] at a0 r1
      rw [hE]
      by_cases z : s (k + 1) = 0
      · have kp := am3_keep (am2_zero (n := n) (B := t.1) (top := top) z).1 (am2_zero z).2
        simp [c1, a0, z, kp]
      · cases hg : gr n t.1 (amE s (k + 1)) with
        | none =>
          rw [hg] at r6
          have kp := am3_keep (am2_none (top := top) hg).1 (am2_none hg).2
          simp [c1, a0, z, r1, r3, r4, r6, kp, agFz_var]
        | some g =>
          rw [hg] at r6
          by_cases ps : 0 < s (k + 1)
          · have rp := fun Φ => run_pull Φ (n := n + 1) (B := am3 n t.1 s top k) (i := k + 1) (j := 0) (top := (g + top).fdiv (s (k + 1))) (by omega) (by omega)
            rw [am3_at0] at rp
            have kp := am3_put0 (n := n) (B := t.1) (top := top) ps
            rw [hg] at kp
            simp only [Option.map_some] at kp
            rw [kp] at rp
            simp only [Int.natCast_add, Int.natCast_one, Int.natCast_zero] at rp
            have hl : Nat.log2 (s (k + 1)).natAbs < 9000 := log2_bits (bits_le (bits_small (m := 39) hsk) (by decide))
            simp [c1, a0, z, r1, r3, r4, r6, ps, rp, hl, agFz_var]
          · have ns : s (k + 1) < 0 := by omega
            have rp := fun Φ => run_pull Φ (n := n + 1) (B := am3 n t.1 s top k) (i := 0) (j := k + 1) (top := (g + top).fdiv (-s (k + 1))) (by omega) (by omega)
            rw [am3_at1] at rp
            have kp := am3_put1 (n := n) (B := t.1) (top := top) ns
            rw [hg] at kp
            simp only [Option.map_some] at kp
            rw [kp] at rp
            simp only [Int.natCast_add, Int.natCast_one, Int.natCast_zero] at rp
            have hl : Nat.log2 (s (k + 1)).natAbs < 9000 := log2_bits (bits_le (bits_small (m := 39) hsk) (by decide))
            have hl2 : Nat.log2 (-s (k + 1)).natAbs < 9000 := by rw [Int.natAbs_neg]; exact hl
            simp [c1, a0, z, r1, r3, r4, r6, ps, rp, hl, hl2, agFz_var]
    · rw [hE]
      simp
      exact am3_end
  rintro e rfl
  have tb : D.tup [mxF false (n + 1) (n + 1) (am2 n t.1 s top), rsF false n t.2] = tdF false n (am0 n t s top) := td_back
  rw [hE]
  simp [l1, tb, rS]
end Sr
set_option Elab.async false
set_option linter.all false
set_option maxRecDepth 100000
set_option maxHeartbeats 4000000
/-! # Sr: the law's own at_most, run -/
namespace Sr
open PySem PySem.Spec PyProof.Rows L2
variable {m : Nat}
def wth (s : Sm) (i : Nat) (k : Int) : Sm := fun c => if 0 < i ∧ c = i then s c + k else s c
theorem run_lwith (Φ : Fs) {n i : Nat} {s : Sm} {k : Int} (hi : i < n) : runDf Φ d__law_with_2818 [intF false n s, .int i, .int k] = some (intF false n (wth s i k), [none, none, none]) := by
  refine run_of rfl ?_
  have l1 := lst_int (n := n) (s := s) (o := false)
  have a1 := intF_atN (o := true) (s := s) hi
  have p := intF_put (n := n) (s := s) (z := (i : Int)) (x := s i + k) (by omega)
  simp at p
  by_cases c : 0 < i
  · have e : intF false n (up s i (s i + k)) = intF false n (wth s i k) := intF_congr fun c' _ => by
      unfold up wth
      by_cases q : c' = i
      · rw [if_pos q, if_pos ⟨c, q⟩, q]
      · rw [if_neg q, if_neg fun z => q z.2]
    simp [d__law_with_2818, l1, c, a1, p, e]
  · have : i = 0 := by omega
    subst this
    have e : intF false n s = intF false n (wth s 0 k) := intF_congr fun c' _ => by
      unfold wth; rw [if_neg (by omega)]
    simp [d__law_with_2818, l1]
    exact e
theorem run_llesser (Φ : Fs) (o o' : Option Int) : runDf Φ d__law_lesser [dO o, dO o'] = some (dO (oMin o o'), [none, none]) := by
  refine run_of rfl ?_
  cases o with
  | none => simp [d__law_lesser, oMin]
  | some x =>
    cases o' with
    | none => simp [d__law_lesser, oMin]
    | some y =>
      by_cases c : y < x
      · simp [d__law_lesser, oMin, c]
      · simp [d__law_lesser, oMin, c]
theorem run_llesserI (Φ : Fs) (o : Option Int) (y : Int) : runDf Φ d__law_lesser [dO o, .int y] = some (dO (oMin o (some y)), [none, none]) := run_llesser Φ o (some y)
theorem wth_D {s : Sm} {i j : Nat} : wth (wth (fun c => -s c) i 1) j (-1) = amD s i j := by
  funext c
  simp only [wth, amD, un]
  split
  · rename_i h1
    split
    · rename_i h2
      omega
    · omega
  · split
    · omega
    · omega
theorem wth_E {s : Sm} {i : Nat} : wth (fun c => -s c) i (s i) = amE s i := by
  funext c
  simp only [wth, amE, un]
  split
  · rename_i h; rw [h.2]; omega
  · omega
theorem run_lat_most_none {Φ : Fs} {n : Nat} {s : Sm} {top : Int} : runDf Φ d__law_at_most [.non, intF false n s, .int top] = some (.non, [none, none, none]) := by
  refine run_of rfl ?_
  simp [d__law_at_most]
theorem run_lat_most {L : Int} {β γ n : Nat} {t : Td} {s : Sm} {top : Int} (hn : n ≤ 14) (hL : 0 < L) (hb : bits L ≤ β) (o : Ok L β n t) (hs : ∀ i, 1 ≤ i → i ≤ n → (s i).natAbs < 2 ^ 39) (h0 : bits (s 0) ≤ γ) (ht : bits top ≤ γ) (hγ : β + 40 ≤ γ) (hβ : γ ≤ 7800) : runDf (fnsN P (m + 4)) d__law_at_most [tdF false n t, intF false (n + 1) s, .int top] = some (toF false n (amO n t s top), [none, none, none]) := by
  refine run_of rfl ?_
  have hbig : big = 1000000 := rfl
  have rS := fun m => run_lsharp (m := m) hn hL (show bits L ≤ γ + 17 by omega) (by omega) (am0_ok hn o hs h0 ht hγ)
  have rL := fun Φ => run_lgreatest Φ (n := n) (t := t) (s := fun i => -s i) (by omega) (fun i h1 h2 => by have := hs i h1 h2; omega)
  have amn : ∀ g, (gr n t.1 fun c => -s c) = some g → amN n t s top = decide (top < -g) := fun g h => by unfold amN; rw [h]
  have amn0 : (gr n t.1 fun c => -s c) = none → amN n t s top = false := fun h => by unfold amN; rw [h]
  unfold amO
  simp only [d__law_at_most]
  obtain ⟨E, hE⟩ : ∃ E : Option D → Option D → Option D → Option D → Env, E = fun y M i j => [some (tdF false n t), some (intF false (n + 1) s), some (.int top), some (intF false (n + 1) fun i => -s i), y, M, i, j, none, none] := ⟨_, rfl⟩
  refine sat_cut (fun e => e = [some (tdF false n t), some (intF false (n + 1) s), some (.int top), none, none, none, none, none, none, none]) (by simp) ?_
  rintro e rfl
  refine sat_cut (fun e => e = E none none none none) ?_ ?_
  · rw [hE]
    simp [sat_lc]
    refine lc_neg (by intro d; rfl) rfl ?_
    simp
  rintro e rfl
  refine sat_cut (fun e => e = E (some (dO (gr n t.1 fun i => -s i))) none none none) (by rw [hE]; simp [rL]) ?_
  rintro e rfl
  by_cases hN : amN n t s top = true
  · rw [if_pos hN, hE]
    cases hg : gr n t.1 fun c => -s c with
    | none => rw [amn0 hg] at hN; cases hN
    | some g =>
      rw [amn g hg] at hN
      simp at hN
      simp [hN]
  rw [if_neg hN]
  refine sat_cut (fun e => e = E (some (dO (gr n t.1 fun i => -s i))) none none none) ?_ ?_
  · rw [hE]
    cases hg : gr n t.1 fun c => -s c with
    | none => simp
    | some g =>
      rw [amn g hg] at hN
      simp at hN
      have : ¬ top < -g := by omega
      simp [this]
  rintro e rfl
  refine sat_cut (fun e => ∃ y, e = E y (some (mxF true (n + 1) (n + 1) t.1)) none none) ?_ ?_
  · rw [hE]
    simp [sat_lc]
    refine lc_copy (by intro d; rfl) rfl ?_
    simp
  rintro e ⟨y, rfl⟩
  refine sat_cut (fun e => ∃ y, e = E y (some (mxF true (n + 1) (n + 1) (am1 n t.1 s top))) none none) ?_ ?_
  · rw [hE]
    simp
    refine ⟨by omega, ?_⟩
    refine for_mkI (fun i e => ∃ y, e = E y (some (mxF true (n + 1) (n + 1) (updN t.1 (am1 n t.1 s top) i 0))) none none) ⟨y, by rw [hE]; simp⟩ ?_ ?_
    · rintro i e hi ⟨y, rfl⟩
      rw [hE]
      simp
      refine ⟨by omega, ?_⟩
      refine for_mkI (fun j e => ∃ y, e = E y (some (mxF true (n + 1) (n + 1) (updN t.1 (am1 n t.1 s top) i j))) (some (.int i)) none) ⟨y, by rw [hE]⟩ ?_ ?_
      · rintro j e hj ⟨y, rfl⟩
        have r1 := fun Φ => run_lwith Φ (n := n + 1) (s := fun c => -s c) (i := i) (k := 1) hi
        have r2 := fun Φ => run_lwith Φ (n := n + 1) (s := wth (fun c => -s c) i 1) (i := j) (k := -1) hj
        rw [wth_D] at r2
        have r6 := fun Φ => run_lgreatest Φ (n := n) (t := t) (s := amD s i j) (by omega) (fun c h1 h2 => by
          have := hs c h1 h2
          have := un_lt (i := i) (c := c)
          have := un_lt (i := j) (c := c)
          show (un i c - un j c - s c).natAbs < 2 ^ 40
          omega)
        have a1 := fun o M => mxF_atN (o := o) (n := n + 1) (B := M) hi
        have b1 := fun o r => rowF_atN (o := o) (r := r) hj
        have p1 := fun M x => mxF_putN (B := M) (x := x) hi hj
        rw [hE]
        by_cases c : i = j
        · have kp : updN t.1 (am1 n t.1 s top) i j = updN t.1 (am1 n t.1 s top) i (j + 1) := updN_keep (by unfold am1; rw [if_pos c])
          subst c
          simp [r1, r2, r6, agFz_var]
          rw [← kp]
        · have c' : ¬ ((i : Int) = (j : Int)) := by omega
          cases hg : gr n t.1 (amD s i j) with
          | none =>
            rw [hg] at r6
            have kp : updN t.1 (am1 n t.1 s top) i j = updN t.1 (am1 n t.1 s top) i (j + 1) := updN_keep (by unfold am1; rw [if_neg c, hg]; exact oMin_none.symm)
            simp [c, c', r1, r2, r6, agFz_var]
            rw [kp]
          | some g =>
            rw [hg] at r6
            have rl := fun Φ => run_llesserI Φ (t.1 i j) (g + top)
            have kp : up2 (updN t.1 (am1 n t.1 s top) i j) i j (oMin (t.1 i j) (some (g + top))) = updN t.1 (am1 n t.1 s top) i (j + 1) := updN_put (by unfold am1; rw [if_neg c, hg]; rfl)
            simp [c, c', r1, r2, r6, a1, b1, rl, p1, kp, agFz_var]
      · rintro e ⟨y, rfl⟩
        rw [hE]
        simp
        exact updN_row
    · rintro e ⟨y, rfl⟩
      rw [hE]
      simp
      exact updN_end
  rintro e ⟨y, rfl⟩
  refine sat_cut (fun e => ∃ y, e = E y (some (mxF true (n + 1) (n + 1) (am2 n t.1 s top))) none none) ?_ ?_
  · rw [hE]
    simp
    refine ⟨by omega, ?_⟩
    refine for_mkI (fun k e => ∃ y, e = E y (some (mxF true (n + 1) (n + 1) (am3 n t.1 s top k))) none none) ⟨y, by rw [hE]; simp [am3_0]⟩ ?_ ?_
    · rintro k e hk ⟨y, rfl⟩
      have c1 : (1 : Int) + (k : Int) = ((k + 1 : Nat) : Int) := by omega
      have a0 := intF_atN (o := false) (s := s) (show k + 1 < n + 1 by omega)
      have hsk := hs (k + 1) (by omega) (by omega)
      have r1 := fun Φ => run_lwith Φ (n := n + 1) (s := fun c => -s c) (i := k + 1) (k := s (k + 1)) (by omega)
      rw [wth_E] at r1
      have r6 := fun Φ => run_lgreatest Φ (n := n) (t := t) (s := amE s (k + 1)) (by omega) (fun c h1 h2 => by
        have := hs c h1 h2
        show (un (k + 1) c * s (k + 1) - s c).natAbs < 2 ^ 40
        unfold un
        split
        · rename_i q; rw [q.2]; omega
        · omega)
      have a1 := fun o M => mxF_atN (o := o) (n := n + 1) (B := M) (show k + 1 < n + 1 by omega)
      have a2 := fun o M => mxF_atN (o := o) (n := n + 1) (B := M) (show 0 < n + 1 by omega)
      have b1 := fun o r => rowF_atN (o := o) (r := r) (show 0 < n + 1 by omega)
      have b2 := fun o r => rowF_atN (o := o) (r := r) (show k + 1 < n + 1 by omega)
      have p1 := fun M x => mxF_putN (B := M) (x := x) (show k + 1 < n + 1 by omega) (show 0 < n + 1 by omega)
      have p2 := fun M x => mxF_putN (B := M) (x := x) (show 0 < n + 1 by omega) (show k + 1 < n + 1 by omega)
      simp only [Int.natCast_add, Int.natCast_one, Int.natCast_zero] at a0 r1 a1 a2 b1 b2 p1 p2
      rw [hE]
      by_cases z : s (k + 1) = 0
      · have kp := am3_keep (am2_zero (n := n) (B := t.1) (top := top) z).1 (am2_zero z).2
        have r1' := r1
        rw [z] at r1'
        simp [c1, a0, z, r1', r6, kp, agFz_var]
      · cases hg : gr n t.1 (amE s (k + 1)) with
        | none =>
          rw [hg] at r6
          have kp := am3_keep (am2_none (top := top) hg).1 (am2_none hg).2
          simp [c1, a0, z, r1, r6, kp, agFz_var]
        | some g =>
          rw [hg] at r6
          have hl : Nat.log2 (s (k + 1)).natAbs < 9000 := log2_bits (bits_le (bits_small (m := 39) hsk) (by decide))
          by_cases ps : 0 < s (k + 1)
          · have rp := fun Φ => run_llesserI Φ (am3 n t.1 s top k (k + 1) 0) ((g + top).fdiv (s (k + 1)))
            have kp := am3_put0 (n := n) (B := t.1) (top := top) ps
            rw [hg] at kp
            simp only [Option.map_some] at kp
            rw [← am3_at0 (k := k)] at kp
            have ns : ¬ s (k + 1) < 0 := by omega
            simp [c1, a0, z, r1, r6, ps, ns, a1, b1, rp, hl, p1, kp, agFz_var]
          · have ns : s (k + 1) < 0 := by omega
            have rp := fun Φ => run_llesserI Φ (am3 n t.1 s top k 0 (k + 1)) ((g + top).fdiv (-s (k + 1)))
            have kp := am3_put1 (n := n) (B := t.1) (top := top) ns
            rw [hg] at kp
            simp only [Option.map_some] at kp
            rw [← am3_at1 (k := k)] at kp
            have hl2 : Nat.log2 (-s (k + 1)).natAbs < 9000 := by rw [Int.natAbs_neg]; exact hl
            simp [c1, a0, z, r1, r6, ps, ns, a2, b2, rp, hl, hl2, p2, kp, agFz_var]
    · rintro e ⟨y, rfl⟩
      rw [hE]
      simp
      exact am3_end
  rintro e ⟨y, rfl⟩
  have tb : D.tup [mxF false (n + 1) (n + 1) (am2 n t.1 s top), rsF false n t.2] = tdF false n (am0 n t s top) := td_back
  rw [hE]
  simp [tb, rS]
end Sr
set_option Elab.async false
set_option linter.all false
set_option maxRecDepth 100000
set_option maxHeartbeats 4000000
/-! # Sr: rests where a sum is a multiple, run -/
namespace Sr
open PySem PySem.Spec PyProof.Rows L2
variable {m : Nat}
/-- all of them, or none -/
def allO (n : Nat) (f : Nat → Option (Int × Int)) : Option Rs2 := if ((List.range n).all fun i => (f i).isSome) = true then some (fun i => (f i).getD (0, 0)) else none
theorem allO_some {n : Nat} {f : Nat → Option (Int × Int)} {R : Rs2} (h : allO n f = some R) {i : Nat} (hi : i < n) : f i = some (R i) := by
  unfold allO at h
  split at h
  · rename_i c
    cases h
    have := List.all_eq_true.mp c i (List.mem_range.mpr hi)
    obtain ⟨x, hx⟩ := Option.isSome_iff_exists.mp this
    simp only [hx]; rfl
  · cases h
theorem allO_none {n : Nat} {f : Nat → Option (Int × Int)} {i : Nat} (hi : i < n) (h : f i = none) : allO n f = none := by
  unfold allO
  rw [if_neg]
  intro c
  have := List.all_eq_true.mp c i (List.mem_range.mpr hi)
  rw [h] at this
  cases this
theorem allO_of {n : Nat} {f : Nat → Option (Int × Int)} {R' : Rs2} (h : ∀ i, i < n → f i = some (R' i)) : ∃ R2, allO n f = some R2 ∧ ∀ i, i < n → R2 i = R' i := by
  unfold allO
  rw [if_pos]
  · refine ⟨_, rfl, fun i hi => ?_⟩
    simp only [h i hi]; rfl
  · rw [List.all_eq_true]
    intro i hi
    rw [h i (List.mem_range.mp hi)]; rfl
def oth (s : Sm) (i : Nat) : Sm := fun c => if c = i then 0 else s c
/-- the rest that a box has where the sum is a multiple of step -/
def rlP (n : Nat) (R : Rs2) (s : Sm) (step : Int) (i : Nat) : Int × Int := rmk (Int.gcd (sr n R (oth s (i + 1))).1 step) (-(s (i + 1)) * (sr n R (oth s (i + 1))).2)
noncomputable def rlE (n : Nat) (R : Rs2) (s : Sm) (step : Int) (i : Nat) : Option (Int × Int) := if s (i + 1) = 1 ∨ s (i + 1) = -1 then rmt (R i) (rlP n R s step i) else some (R i)
noncomputable def rlO (n : Nat) (R : Rs2) (s : Sm) (step : Int) : Option Rs2 := allO n (rlE n R s step)
theorem kof_oth {s : Sm} {i : Nat} (h : s i = 1 ∨ s i = -1) : ∀ {n : Nat}, kof (oth s i) n = kof s n
  | 0 => rfl
  | n + 1 => by
    rw [kof, kof, kof_oth h (n := n)]
    unfold oth
    by_cases c : n + 1 = i
    · simp only [c, if_true]
      rcases h with z | z
      · rw [z]; simp
      · rw [z]; simp
    · simp only [if_neg c]
def stN (step : Int) : Int := if step = 0 then 1 else step
theorem rlP_ok {L : Int} {β γ σ n : Nat} {R : Rs2} {s : Sm} {step : Int} (hn : n ≤ 14) (hL : 0 < L) (hb : bits L ≤ β) (oR : OkR L β n R) (hs : ∀ i, 1 ≤ i → i ≤ n → (s i).natAbs < 2 ^ 39) (h0 : bits (s 0) ≤ γ) (hγ : β + 40 ≤ γ) (hst : 0 ≤ step) (hσ : bits step ≤ σ) :
    0 < kof s n * L * stN step ∧ bits (kof s n * L * stN step) ≤ γ + 40 * n + σ + 20 ∧ OkR (kof s n * L * stN step) (γ + 40 * n + σ + 20) n R ∧ (∀ i, i < n → s (i + 1) = 1 ∨ s (i + 1) = -1 → OkP (kof s n * L * stN step) (γ + 40 * n + σ + 20) (rlP n R s step i) ∧ RV (sr n R (oth s (i + 1))) ∧ bits (sr n R (oth s (i + 1))).2 ≤ γ + 40 * n + 20) := by
  have sp : 0 < stN step := by unfold stN; split <;> omega
  have kp := kof_pos (s := s) (i := n)
  have p : 0 < kof s n * L * stN step := Int.mul_pos (Int.mul_pos kp hL) sp
  have bk := kof_bits (s := s) (n := n) (fun i h1 h2 => by have := hs i h1 h2; omega) (Nat.le_refl n)
  have bs : bits (stN step) ≤ σ + 1 := by
    unfold stN
    split
    · exact Nat.le_trans (by decide) (Nat.le_add_left 1 σ)
    · omega
  have b : bits (kof s n * L * stN step) ≤ γ + 40 * n + σ + 20 := bits_le (intBits_mul_le (intBits_mul_le bk hb) bs) (by omega)
  have dl : L ∣ kof s n * L * stN step := Int.dvd_mul_of_dvd_left (Int.dvd_mul_left ..)
  refine ⟨p, b, fun i hi => ⟨(oR i hi).v, (oR i hi).d.imp id fun h => Int.dvd_trans h dl, by have := (oR i hi).b; omega⟩, fun i hi hk => ?_⟩
  have v : RV (sr n R (oth s (i + 1))) := srF_v
  have d := srM_dvd (R := R) (s := oth s (i + 1)) (L := L) (fun i hi => (oR i hi).d) (Nat.le_refl n)
  rw [kof_oth hk] at d
  have e1 : (sr n R (oth s (i + 1))).1 = srM R (oth s (i + 1)) n := by unfold sr; rw [srF_eq]; rfl
  rw [← e1] at d
  have hso : ∀ c, 1 ≤ c → c ≤ n → (oth s (i + 1) c).natAbs < 2 ^ 40 := fun c h1 h2 => by
    unfold oth
    split
    · decide
    · have := hs c h1 h2; omega
  have br : bits (sr n R (oth s (i + 1))).2 ≤ γ + 40 * n + 20 := by
    have r1 := srR_bits (R := R) (s := oth s (i + 1)) (γ := γ) (fun i hi => (oR i hi).b) (by unfold oth; rw [if_neg (by omega)]; exact h0) hso hγ (Nat.le_refl n)
    unfold sr
    rw [srF_eq, rmk_2]
    by_cases c : srM R (oth s (i + 1)) n = 0
    · rw [c, rmod_0]; omega
    · have dd := d.resolve_left (by rw [e1]; exact c)
      rw [e1] at dd
      exact bits_le (bits_mod (L := kof s n * L) (Int.mul_pos kp hL) (intBits_mul_le bk hb) (by have := srM_nn (R := R) (s := oth s (i + 1)) (i := n); omega) dd) (by omega)
  refine ⟨OkP.mkP p b (by omega) ?_ (fun _ => ?_), v, br⟩
  · by_cases c : step = 0
    · rw [c, gcd_0r v.1]
      exact d.imp id fun h => Int.dvd_mul_of_dvd_left h
    · right
      have : stN step = step := by unfold stN; rw [if_neg c]
      rw [this]
      exact Int.dvd_mul_of_dvd_right (Int.gcd_dvd_right ..)
  · have : (-(s (i + 1)) * (sr n R (oth s (i + 1))).2).natAbs ≤ (sr n R (oth s (i + 1))).2.natAbs := by
      rw [Int.natAbs_mul]
      rcases hk with z | z <;> rw [z] <;> simp
    exact bits_abs_le (bits_le br (by omega)) this
theorem rlO_ok {L : Int} {β γ σ n : Nat} {R R' : Rs2} {s : Sm} {step : Int} (hn : n ≤ 14) (hL : 0 < L) (hb : bits L ≤ β) (oR : OkR L β n R) (hs : ∀ i, 1 ≤ i → i ≤ n → (s i).natAbs < 2 ^ 39) (h0 : bits (s 0) ≤ γ) (hγ : β + 40 ≤ γ) (hst : 0 ≤ step) (hσ : bits step ≤ σ) (h : rlO n R s step = some R') : OkR (kof s n * L * stN step) (γ + 40 * n + σ + 20) n R' := fun i hi => by
  obtain ⟨p, b, oR2, oq⟩ := rlP_ok hn hL hb oR hs h0 hγ hst hσ
  have e := allO_some h hi
  unfold rlE at e
  split at e
  · rename_i c
    exact OkP.met p b (oR2 i hi) (oq i hi c).1 e
  · rw [← Option.some.inj e]; exact oR2 i hi
theorem rlO_v {n : Nat} {R R' : Rs2} {s : Sm} {step : Int} (hv : ∀ i, i < n → RV (R i)) (h : rlO n R s step = some R') : ∀ i, i < n → RV (R' i) := fun i hi => by
  have e := allO_some h hi
  unfold rlE at e
  split at e
  · obtain ⟨x, _, _, e2⟩ := rmt_some e
    rw [e2]; exact RV.mk (by omega)
  · rw [← Option.some.inj e]; exact hv i hi
def rsO (o : Bool) (n : Nat) : Option Rs2 → D
  | none => .non
  | some R => rsF o n R
@[simp] theorem rsO_none {o : Bool} {n : Nat} : rsO o n none = .non := rfl
@[simp] theorem rsO_some {o : Bool} {n : Nat} {R : Rs2} : rsO o n (some R) = rsF o n R := rfl
@[simp] theorem rsO_ns {n : Nat} {R : Option Rs2} : (rsO true n R).ns = true := by cases R <;> simp
@[simp] theorem rsO_shr {o : Bool} {n : Nat} {R : Option Rs2} : (rsO o n R).shr = rsO false n R := by cases R <;> simp
theorem run_rests_left {L : Int} {β γ σ n : Nat} {t : Td} {s : Sm} {step : Int} (hn : n ≤ 14) (hL : 0 < L) (hb : bits L ≤ β) (o : Ok L β n t) (hs : ∀ i, 1 ≤ i → i ≤ n → (s i).natAbs < 2 ^ 39) (h0 : bits (s 0) ≤ γ) (hγ : β + 40 ≤ γ) (hst : 0 ≤ step) (hσ : bits step ≤ σ) (hB : γ + 40 * n + σ + 20 ≤ 7900) : runDf (fnsN P (m + 3)) d_rests_left [tdF false n t, intF false (n + 1) s, .int step] = some (rsO true n (rlO n t.2 s step), [none, none, none]) := by
  refine run_of rfl ?_
  have hbig : big = 1000000 := rfl
  obtain ⟨pL, bL, oR2, oq⟩ := rlP_ok hn hL hb o.r hs h0 hγ hst hσ
  have hv := o.tv.v
  simp only [d_rests_left]
  refine sat_cut (fun e => e = [some (tdF false n t), some (intF false (n + 1) s), some (.int step), some (rsF false n t.2), none, none, none, none, none, none]) (by simp) ?_
  rintro e rfl
  refine sat_cut (fun e => e = [some (tdF false n t), some (intF false (n + 1) s), some (.int step), some (rsF false n t.2), some (rsF true 0 fun i => (rlE n t.2 s step i).getD (0, 0)), none, none, none, none, none]) (by simp; rfl) ?_
  rintro e rfl
  simp
  refine ⟨by omega, ?_⟩
  refine for_mkI (fun i e => e = [some (tdF false n t), some (intF false (n + 1) s), some (.int step), some (rsF false n t.2), some (rsF true i fun i => (rlE n t.2 s step i).getD (0, 0)), none, none, none, none, none] ∧ ∀ i', i' < i → rlE n t.2 s step i' ≠ none) ⟨rfl, fun i' h => absurd h (Nat.not_lt_zero _)⟩ ?_ ?_
  · rintro i e hi ⟨rfl, hI⟩
    have c1 : (1 : Int) + (i : Int) = ((i + 1 : Nat) : Int) := by omega
    have c2 : (i : Int) + 1 - 1 = (i : Int) := by omega
    have a1 := rsF_atN (o := false) (R := t.2) hi
    have a2 := intF_atN (o := false) (s := s) (show i + 1 < n + 1 by omega)
    have l1 := lst_int (n := n + 1) (s := s) (o := false)
    have p1 := intF_put (n := n + 1) (s := s) (z := (i : Int) + 1) (x := 0) (by omega)
    have et : ((i : Int) + 1).toNat = i + 1 := by omega
    rw [et] at p1
    have eo : up s (i + 1) 0 = oth s (i + 1) := rfl
    rw [eo] at p1
    simp only [Int.natCast_add, Int.natCast_one] at a2
    have more : rlE n t.2 s step i ≠ none → ∀ i', i' < i + 1 → rlE n t.2 s step i' ≠ none := fun q i' hi' => by
      by_cases c : i' = i
      · subst c; exact q
      · exact hI i' (by omega)
    by_cases hk : s (i + 1) = 1 ∨ s (i + 1) = -1
    · obtain ⟨q1, q2, q3⟩ := oq i hi hk
      have r1 := fun m => run_sum_rest (m := m) (n := n) (s := oth s (i + 1)) (R := t.2) (by omega) hv (fun c h1 h2 => by
        unfold oth
        split
        · decide
        · have := hs c h1 h2; omega)
      have r2 := fun m => run_rest_times (n := m) (sr n t.2 (oth s (i + 1))) (-(s (i + 1))) q2.1 (mulOk_r (by omega)) (mulOk_r (by omega))
      have e2 : rtm (sr n t.2 (oth s (i + 1))) (-(s (i + 1))) = rmk (sr n t.2 (oth s (i + 1))).1 (-(s (i + 1)) * (sr n t.2 (oth s (i + 1))).2) := by
        unfold rtm
        have : ((-(s (i + 1))).natAbs : Int) = 1 := by rcases hk with z | z <;> rw [z] <;> rfl
        rw [this, Int.mul_one, Int.mul_comm (sr n t.2 (oth s (i + 1))).2]
      rw [e2] at r2
      have r3 := fun m => run_rest_loosened (n := m) (rmk (sr n t.2 (oth s (i + 1))).1 (-(s (i + 1)) * (sr n t.2 (oth s (i + 1))).2)) step
      have e3 : rls (rmk (sr n t.2 (oth s (i + 1))).1 (-(s (i + 1)) * (sr n t.2 (oth s (i + 1))).2)) step = rlP n t.2 s step i := by
        unfold rls rlP
        simp only [rmk_1, rmk_2]
        unfold rmk
        congr 1
        refine rmod_congr (by omega) ?_
        have h := dvd_rmod (sr n t.2 (oth s (i + 1))).1 (-(s (i + 1)) * (sr n t.2 (oth s (i + 1))).2)
        have h2 := Int.dvd_neg.mpr (Int.dvd_trans (Int.gcd_dvd_left (sr n t.2 (oth s (i + 1))).1 step) h)
        have e : -(-(s (i + 1)) * (sr n t.2 (oth s (i + 1))).2 - rmod (sr n t.2 (oth s (i + 1))).1 (-(s (i + 1)) * (sr n t.2 (oth s (i + 1))).2)) = rmod (sr n t.2 (oth s (i + 1))).1 (-(s (i + 1)) * (sr n t.2 (oth s (i + 1))).2) - -(s (i + 1)) * (sr n t.2 (oth s (i + 1))).2 := by omega
        rwa [e] at h2
      have e4 : ¬ 0 < step → rmk (sr n t.2 (oth s (i + 1))).1 (-(s (i + 1)) * (sr n t.2 (oth s (i + 1))).2) = rlP n t.2 s step i := fun c => by
        have : step = 0 := by omega
        rw [this]
        unfold rlP
        rw [gcd_0r q2.1]
      rw [e3] at r3
      have oi := oR2 i hi
      have r4 := fun m => run_rest_met (n := m) (t.2 i) (rlP n t.2 s step i) oi.v.1 q1.v.1 (oi.m pL (by omega)) (Nat.le_trans oi.b (by omega)) (q1.m pL (by omega)) (Nat.le_trans q1.b (by omega))
      have e5 : rlE n t.2 s step i = rmt (t.2 i) (rlP n t.2 s step i) := by unfold rlE; rw [if_pos hk]
      rw [← e5] at r4
      have fin : ∀ x, rlE n t.2 s step i = some x → appD (dP x) (rsF true i fun i => (rlE n t.2 s step i).getD (0, 0)) = some (rsF true (i + 1) fun i => (rlE n t.2 s step i).getD (0, 0)) := fun x hx => rsF_app (by omega) (by simp [hx])
      have tk : (isB (.bl (eqv (.int (s (i + 1))) (.int 1))) fun c => True) := trivial
      by_cases cs : 0 < step
      · cases hx : rlE n t.2 s step i with
        | none =>
          rw [hx] at r4
          have z : rlO n t.2 s step = none := allO_none hi hx
          rcases hk with hk | hk
          · rw [hk] at r2 r3
            simp at r2 r3
            simp [c1, c2, a1, a2, hk, l1, p1, r1, r2, cs, r3, r4, z]
          · rw [hk] at r2 r3
            simp at r2 r3
            simp [c1, c2, a1, a2, hk, l1, p1, r1, r2, cs, r3, r4, z]
        | some x =>
          rw [hx] at r4
          have f := fin x hx
          have mo := more (by rw [hx]; simp)
          rcases hk with hk | hk
          · rw [hk] at r2 r3
            simp at r2 r3
            simp [c1, c2, a1, a2, hk, l1, p1, r1, r2, cs, r3, r4, f]
            exact mo
          · rw [hk] at r2 r3
            simp at r2 r3
            simp [c1, c2, a1, a2, hk, l1, p1, r1, r2, cs, r3, r4, f]
            exact mo
      · rw [e4 cs] at r2
        cases hx : rlE n t.2 s step i with
        | none =>
          rw [hx] at r4
          have z : rlO n t.2 s step = none := allO_none hi hx
          rcases hk with hk | hk
          · rw [hk] at r2
            simp [c1, c2, a1, a2, hk, l1, p1, r1, r2, cs, r4, z]
          · rw [hk] at r2
            simp at r2
            simp [c1, c2, a1, a2, hk, l1, p1, r1, r2, cs, r4, z]
        | some x =>
          rw [hx] at r4
          have f := fin x hx
          have mo := more (by rw [hx]; simp)
          rcases hk with hk | hk
          · rw [hk] at r2
            simp [c1, c2, a1, a2, hk, l1, p1, r1, r2, cs, r4, f]
            exact mo
          · rw [hk] at r2
            simp at r2
            simp [c1, c2, a1, a2, hk, l1, p1, r1, r2, cs, r4, f]
            exact mo
    · have e5 : rlE n t.2 s step i = some (t.2 i) := by unfold rlE; rw [if_neg hk]
      have f := rsF_app (n := i) (R := fun i => (rlE n t.2 s step i).getD (0, 0)) (x := t.2 i) (by omega) (by simp [e5])
      have k1 : ¬ s (i + 1) = 1 := fun z => hk (.inl z)
      have k2 : ¬ s (i + 1) = -1 := fun z => hk (.inr z)
      have mo := more (by rw [e5]; simp)
      simp [c1, c2, a1, a2, k1, k2, f]
      exact mo
  · rintro e ⟨rfl, hI⟩
    obtain ⟨R2, h2, h3⟩ := allO_of (n := n) (f := rlE n t.2 s step) (R' := fun i => (rlE n t.2 s step i).getD (0, 0)) fun i hi => by
      cases hq : rlE n t.2 s step i with
      | none => exact absurd hq (hI i hi)
      | some p => rfl
    have z : rlO n t.2 s step = some R2 := h2
    simp [z]
    exact (rsF_congr h3).symm
end Sr
set_option Elab.async false
set_option linter.all false
set_option maxRecDepth 100000
set_option maxHeartbeats 4000000
/-! # Sr: the law's own rests where a sum is a multiple -/
namespace Sr
open PySem PySem.Spec PyProof.Rows L2
variable {m : Nat}
noncomputable def lfO (n : Nat) (t : Td) (s : Sm) (step : Int) : Option Td := match rlO n t.2 s step with
  | none => none
  | some R => shO n (t.1, R)
theorem run_lwith2 (Φ : Fs) {n i : Nat} {s : Sm} {k : Int} (hi : i < n) : runDf Φ d__law_with_c60b [intF false n s, .int i, .int k] = some (intF false n (up s i (s i + k)), [none, none, none]) := by
  refine run_of rfl ?_
  have l1 := lst_int (n := n) (s := s) (o := false)
  have a1 := intF_atN (o := true) (s := s) hi
  have p := intF_put (n := n) (s := s) (z := (i : Int)) (x := s i + k) (by omega)
  simp at p
  simp [d__law_with_c60b, l1, a1, p]
theorem run_lwith3 (Φ : Fs) {n i : Nat} {s : Sm} {k : Int} (hi : i + 1 < n) : runDf Φ d__law_with_c60b [intF false n s, .int (i + 1 : Nat), .int k] = some (intF false n (wth s (i + 1) k), [none, none, none]) := by
  rw [run_lwith2 Φ hi]
  congr 2
  refine intF_congr fun c _ => ?_
  unfold up wth
  by_cases q : c = i + 1
  · rw [if_pos q, if_pos ⟨by omega, q⟩, q]
  · rw [if_neg q, if_neg fun z => q z.2]
theorem run_lleft_281c {L : Int} {β γ σ n : Nat} {t : Td} {s : Sm} {step : Int} (hn : n ≤ 14) (hL : 0 < L) (hb : bits L ≤ β) (o : Ok L β n t) (hs : ∀ i, 1 ≤ i → i ≤ n → (s i).natAbs < 2 ^ 39) (h0 : bits (s 0) ≤ γ) (hγ : β + 40 ≤ γ) (hst : 0 ≤ step) (hσ : bits step ≤ σ) (hB : γ + 40 * n + σ + 20 ≤ 7800) : runDf (fnsN P (m + 4)) d__law_left_281c [tdF false n t, intF false (n + 1) s, .int step] = some (toF false n (lfO n t s step), [none, none, none]) := by
  refine run_of rfl ?_
  have hbig : big = 1000000 := rfl
  obtain ⟨pL, bL, oR2, oq⟩ := rlP_ok hn hL hb o.r hs h0 hγ hst hσ
  have hv := o.tv.v
  have l1 := lst_rs (n := n) (R := t.2) (o := false)
  simp only [d__law_left_281c]
  refine sat_cut (fun e => e = [some (tdF false n t), some (intF false (n + 1) s), some (.int step), some (roF true n fun j => if j < 0 then rlE n t.2 s step j else some (t.2 j)), none, none, none]) (by simp [l1]; rfl) ?_
  rintro e rfl
  refine sat_cut (fun e => e = [some (tdF false n t), some (intF false (n + 1) s), some (.int step), some (roF true n (rlE n t.2 s step)), none, none, none]) ?_ ?_
  · simp
    refine ⟨by omega, ?_⟩
    refine for_mk (S := fun i => [some (tdF false n t), some (intF false (n + 1) s), some (.int step), some (roF true n fun j => if j < i then rlE n t.2 s step j else some (t.2 j)), none, none, none]) (by simp) ?_ ?_
    · intro i hi
      have c1 : (1 : Int) + (i : Int) = ((i + 1 : Nat) : Int) := by omega
      have c2 : (i : Int) + 1 - 1 = (i : Int) := by omega
      have a1 := roF_atN (o := true) (S := fun j => if j < i then rlE n t.2 s step j else some (t.2 j)) hi
      simp only [Nat.lt_irrefl, if_false, dPo_some] at a1
      have a2 := intF_atN (o := false) (s := s) (show i + 1 < n + 1 by omega)
      have rw1 := fun Φ => run_lwith Φ (n := n + 1) (s := s) (i := i + 1) (k := -(s (i + 1))) (by omega)
      have ew : wth s (i + 1) (-(s (i + 1))) = oth s (i + 1) := by
        funext c
        unfold wth oth
        by_cases q : c = i + 1
        · rw [if_pos ⟨by omega, q⟩, if_pos q, q]; omega
        · rw [if_neg (fun z => q z.2), if_neg q]
      rw [ew] at rw1
      have pu := fun x => roF_put (n := n) (S := fun j => if j < i then rlE n t.2 s step j else some (t.2 j)) (x := x) (z := (i : Int)) (by omega)
      simp only [Int.toNat_natCast] at pu
      have step1 : ∀ x, x = rlE n t.2 s step i → up (fun j => if j < i then rlE n t.2 s step j else some (t.2 j)) i x = fun j => if j < i + 1 then rlE n t.2 s step j else some (t.2 j) := fun x hx => by
        funext j
        simp only [up]
        by_cases q : j = i
        · rw [if_pos q, if_pos (by omega), hx, q]
        · rw [if_neg q]
          by_cases q2 : j < i
          · rw [if_pos q2, if_pos (by omega)]
          · rw [if_neg q2, if_neg (by omega)]
      simp only [Int.natCast_add, Int.natCast_one] at a2 rw1
      by_cases hk : s (i + 1) = 1 ∨ s (i + 1) = -1
      · obtain ⟨q1, q2, q3⟩ := oq i hi hk
        have r1 := fun m => run_lsum_rest (m := m) (n := n) (s := oth s (i + 1)) (R := t.2) (by omega) hv (fun c h1 h2 => by
          unfold oth
          split
          · decide
          · have := hs c h1 h2; omega)
        have r2 := fun Φ => run_lgcd Φ (sr n t.2 (oth s (i + 1))).1 step
        have r3 := fun Φ => run_lrest_of Φ (Int.gcd (sr n t.2 (oth s (i + 1))).1 step) (-(s (i + 1)) * (sr n t.2 (oth s (i + 1))).2)
        have e3 : rmk (Int.gcd (sr n t.2 (oth s (i + 1))).1 step) (-(s (i + 1)) * (sr n t.2 (oth s (i + 1))).2) = rlP n t.2 s step i := rfl
        rw [e3] at r3
        have m1 : mulOk (-(s (i + 1))) (sr n t.2 (oth s (i + 1))).2 := mulOk_l (by omega)
        have oi := oR2 i hi
        have r4 := fun m => run_lmet (m := m) (t.2 i) (rlP n t.2 s step i) oi.v.1 q1.v.1 (oi.m pL (by omega)) (Nat.le_trans oi.b (by omega)) (q1.m pL (by omega)) (Nat.le_trans q1.b (by omega))
        have e5 : rlE n t.2 s step i = rmt (t.2 i) (rlP n t.2 s step i) := by unfold rlE; rw [if_pos hk]
        rw [← e5] at r4
        have s1 := step1 _ rfl
        rcases hk with hk | hk
        · rw [hk] at rw1 r3 m1
          simp at r3
          simp [c1, c2, a1, a2, hk, rw1, r1, r2, m1, r3, r4, pu, s1, agFz_var]
        · rw [hk] at rw1 r3 m1
          simp at r3 m1 rw1
          simp [c1, c2, a1, a2, hk, rw1, r1, r2, m1, r3, r4, pu, s1, agFz_var]
      · have e5 : rlE n t.2 s step i = some (t.2 i) := by unfold rlE; rw [if_neg hk]
        have k1 : ¬ s (i + 1) = 1 := fun z => hk (.inl z)
        have k2 : ¬ s (i + 1) = -1 := fun z => hk (.inr z)
        simp [c1, c2, a2, k1, k2]
        refine roF_congr fun j hj => ?_
        by_cases q : j = i
        · rw [if_neg (by omega), if_pos (by omega), q, e5]
        · by_cases q2 : j < i
          · rw [if_pos q2, if_pos (by omega)]
          · rw [if_neg q2, if_neg (by omega)]
    · simp
      refine roF_congr fun j hj => ?_
      rw [if_pos hj]
  rintro e rfl
  unfold lfO
  cases hq : rlO n t.2 s step with
  | none =>
    have : ∃ j, j < n ∧ rlE n t.2 s step j = none := by
      refine Classical.byContradiction fun z => ?_
      obtain ⟨R2, h2, h3⟩ := allO_of (n := n) (f := rlE n t.2 s step) (R' := fun i => (rlE n t.2 s step i).getD (0, 0)) fun i hi => by
        cases hq : rlE n t.2 s step i with
        | none => exact absurd ⟨i, hi, hq⟩ z
        | some p => rfl
      have : rlO n t.2 s step = some R2 := h2
      rw [hq] at this; cases this
    obtain ⟨j, hj, hjn⟩ := this
    have h1 := inD_ro_t hj hjn
    simp [h1]
  | some R =>
    have hR : ∀ j, j < n → rlE n t.2 s step j = some (R j) := fun j hj => allO_some hq hj
    have h1 := inD_ro_f (n := n) (S := rlE n t.2 s step) fun j hj => by rw [hR j hj]; simp
    have e1 : roF false n (rlE n t.2 s step) = rsF false n R := by
      rw [rs_ro]; exact roF_congr hR
    have oR := rlO_ok hn hL hb o.r hs h0 hγ hst hσ hq
    have rS := fun m => run_lsharp (m := m) (t := (t.1, R)) hn pL bL (by omega) ⟨o.b.le (by omega), oR⟩
    have tb : D.tup [mxF false (n + 1) (n + 1) t.1, rsF false n R] = tdF false n (t.1, R) := td_back
    simp [h1, e1, tb, rS]
theorem run_lleft_7da2 {L : Int} {β γ σ n : Nat} {t : Td} {s : Sm} {step : Int} (hn : n ≤ 14) (hL : 0 < L) (hb : bits L ≤ β) (o : Ok L β n t) (hs : ∀ i, 1 ≤ i → i ≤ n → (s i).natAbs < 2 ^ 39) (h0 : bits (s 0) ≤ γ) (hγ : β + 40 ≤ γ) (hst : 0 ≤ step) (hσ : bits step ≤ σ) (hB : γ + 40 * n + σ + 20 ≤ 7800) : runDf (fnsN P (m + 4)) d__law_left_7da2 [tdF false n t, intF false (n + 1) s, .int step] = some (toF false n (lfO n t s step), [none, none, none]) := by
  refine run_of rfl ?_
  have hbig : big = 1000000 := rfl
  obtain ⟨pL, bL, oR2, oq⟩ := rlP_ok hn hL hb o.r hs h0 hγ hst hσ
  have hv := o.tv.v
  have l1 := lst_rs (n := n) (R := t.2) (o := false)
  simp only [d__law_left_7da2]
  refine sat_cut (fun e => e = [some (tdF false n t), some (intF false (n + 1) s), some (.int step), some (roF true n fun j => if j < 0 then rlE n t.2 s step j else some (t.2 j)), none, none, none]) (by simp [l1]; rfl) ?_
  rintro e rfl
  refine sat_cut (fun e => e = [some (tdF false n t), some (intF false (n + 1) s), some (.int step), some (roF true n (rlE n t.2 s step)), none, none, none]) ?_ ?_
  · simp
    refine ⟨by omega, ?_⟩
    refine for_mk (S := fun i => [some (tdF false n t), some (intF false (n + 1) s), some (.int step), some (roF true n fun j => if j < i then rlE n t.2 s step j else some (t.2 j)), none, none, none]) (by simp) ?_ ?_
    · intro i hi
      have c1 : (1 : Int) + (i : Int) = ((i + 1 : Nat) : Int) := by omega
      have c2 : (i : Int) + 1 - 1 = (i : Int) := by omega
      have a1 := roF_atN (o := true) (S := fun j => if j < i then rlE n t.2 s step j else some (t.2 j)) hi
      simp only [Nat.lt_irrefl, if_false, dPo_some] at a1
      have a2 := intF_atN (o := false) (s := s) (show i + 1 < n + 1 by omega)
      have rw1 := fun Φ => run_lwith3 Φ (n := n + 1) (s := s) (i := i) (k := -(s (i + 1))) (by omega)
      have ew : wth s (i + 1) (-(s (i + 1))) = oth s (i + 1) := by
        funext c
        unfold wth oth
        by_cases q : c = i + 1
        · rw [if_pos ⟨by omega, q⟩, if_pos q, q]; omega
        · rw [if_neg (fun z => q z.2), if_neg q]
      rw [ew] at rw1
      have pu := fun x => roF_put (n := n) (S := fun j => if j < i then rlE n t.2 s step j else some (t.2 j)) (x := x) (z := (i : Int)) (by omega)
      simp only [Int.toNat_natCast] at pu
      have step1 : ∀ x, x = rlE n t.2 s step i → up (fun j => if j < i then rlE n t.2 s step j else some (t.2 j)) i x = fun j => if j < i + 1 then rlE n t.2 s step j else some (t.2 j) := fun x hx => by
        funext j
        simp only [up]
        by_cases q : j = i
        · rw [if_pos q, if_pos (by omega), hx, q]
        · rw [if_neg q]
          by_cases q2 : j < i
          · rw [if_pos q2, if_pos (by omega)]
          · rw [if_neg q2, if_neg (by omega)]
      simp only [Int.natCast_add, Int.natCast_one] at a2 rw1
      by_cases hk : s (i + 1) = 1 ∨ s (i + 1) = -1
      · obtain ⟨q1, q2, q3⟩ := oq i hi hk
        have r1 := fun m => run_lsum_rest (m := m) (n := n) (s := oth s (i + 1)) (R := t.2) (by omega) hv (fun c h1 h2 => by
          unfold oth
          split
          · decide
          · have := hs c h1 h2; omega)
        have r2 := fun Φ => run_lgcd Φ (sr n t.2 (oth s (i + 1))).1 step
        have r3 := fun Φ => run_lrest_of Φ (Int.gcd (sr n t.2 (oth s (i + 1))).1 step) (-(s (i + 1)) * (sr n t.2 (oth s (i + 1))).2)
        have e3 : rmk (Int.gcd (sr n t.2 (oth s (i + 1))).1 step) (-(s (i + 1)) * (sr n t.2 (oth s (i + 1))).2) = rlP n t.2 s step i := rfl
        rw [e3] at r3
        have m1 : mulOk (-(s (i + 1))) (sr n t.2 (oth s (i + 1))).2 := mulOk_l (by omega)
        have oi := oR2 i hi
        have r4 := fun m => run_lmet (m := m) (t.2 i) (rlP n t.2 s step i) oi.v.1 q1.v.1 (oi.m pL (by omega)) (Nat.le_trans oi.b (by omega)) (q1.m pL (by omega)) (Nat.le_trans q1.b (by omega))
        have e5 : rlE n t.2 s step i = rmt (t.2 i) (rlP n t.2 s step i) := by unfold rlE; rw [if_pos hk]
        rw [← e5] at r4
        have s1 := step1 _ rfl
        rcases hk with hk | hk
        · rw [hk] at rw1 r3 m1
          simp at r3
          simp [c1, c2, a1, a2, hk, rw1, r1, r2, m1, r3, r4, pu, s1, agFz_var]
        · rw [hk] at rw1 r3 m1
          simp at r3 m1 rw1
          simp [c1, c2, a1, a2, hk, rw1, r1, r2, m1, r3, r4, pu, s1, agFz_var]
      · have e5 : rlE n t.2 s step i = some (t.2 i) := by unfold rlE; rw [if_neg hk]
        have k1 : ¬ s (i + 1) = 1 := fun z => hk (.inl z)
        have k2 : ¬ s (i + 1) = -1 := fun z => hk (.inr z)
        simp [c1, c2, a2, k1, k2]
        refine roF_congr fun j hj => ?_
        by_cases q : j = i
        · rw [if_neg (by omega), if_pos (by omega), q, e5]
        · by_cases q2 : j < i
          · rw [if_pos q2, if_pos (by omega)]
          · rw [if_neg q2, if_neg (by omega)]
    · simp
      refine roF_congr fun j hj => ?_
      rw [if_pos hj]
  rintro e rfl
  unfold lfO
  cases hq : rlO n t.2 s step with
  | none =>
    have : ∃ j, j < n ∧ rlE n t.2 s step j = none := by
      refine Classical.byContradiction fun z => ?_
      obtain ⟨R2, h2, h3⟩ := allO_of (n := n) (f := rlE n t.2 s step) (R' := fun i => (rlE n t.2 s step i).getD (0, 0)) fun i hi => by
        cases hq : rlE n t.2 s step i with
        | none => exact absurd ⟨i, hi, hq⟩ z
        | some p => rfl
      have : rlO n t.2 s step = some R2 := h2
      rw [hq] at this; cases this
    obtain ⟨j, hj, hjn⟩ := this
    have h1 := inD_ro_t hj hjn
    simp [h1]
  | some R =>
    have hR : ∀ j, j < n → rlE n t.2 s step j = some (R j) := fun j hj => allO_some hq hj
    have h1 := inD_ro_f (n := n) (S := rlE n t.2 s step) fun j hj => by rw [hR j hj]; simp
    have e1 : roF false n (rlE n t.2 s step) = rsF false n R := by
      rw [rs_ro]; exact roF_congr hR
    have oR := rlO_ok hn hL hb o.r hs h0 hγ hst hσ hq
    have rS := fun m => run_lsharp (m := m) (t := (t.1, R)) hn pL bL (by omega) ⟨o.b.le (by omega), oR⟩
    have tb : D.tup [mxF false (n + 1) (n + 1) t.1, rsF false n R] = tdF false n (t.1, R) := td_back
    simp [h1, e1, tb, rS]
end Sr
set_option Elab.async false
set_option linter.all false
set_option maxRecDepth 100000
set_option maxHeartbeats 4000000
/-! # Sr: what is left where claims hold, run -/
namespace Sr
open PySem PySem.Spec PyProof.Rows L2
variable {m : Nat}
@[simp] theorem eqv_str {x y : Str} : eqv (.str x) (.str y) = decide (x = y) := by
  unfold eqv; rw [D.py, D.py, PyData.eqv]
  by_cases h : x = y <;> simp [h]
@[simp] theorem okU : eqOk (.str "under") = true := by decide +kernel
@[simp] theorem okS : eqOk (.str "same") = true := by decide +kernel
@[simp] theorem okE : eqOk (.str "even") = true := by decide +kernel
/-- what is left where a sum is nought -/
noncomputable def seO (n : Nat) (t : Td) (s : Sm) : Option Td := if rhas (sr n t.2 s) 0 = true then match amT n (amO n t s 0) (fun i => -s i) 0 with
    | none => none
    | some h => lfO n h s 0
  else none
/-- one side of what is left where a sum is not nought -/
noncomputable def unH (n : Nat) (t : Td) (s : Sm) : Option Td := match gr n t.1 s with
  | none => some t
  | some g => if g ≤ 0 then amO n t s (-1) else some t
noncomputable def unO (n : Nat) (t : Td) (s : Sm) : Option Td := match unH n t s with
  | none => none
  | some h => unH n h (fun i => -s i)
noncomputable def evO' (n : Nat) (t : Td) (s : Sm) (d : Int) : Option Td := if (sr n t.2 s).2.fmod (Int.gcd (sr n t.2 s).1 d) = 0 then lfO n t s d else none
noncomputable def odO (n : Nat) (t : Td) (s : Sm) (d : Int) : Option Td := if (sr n t.2 s).1.fmod d = 0 ∧ (sr n t.2 s).2.fmod d = 0 then none else if d = 2 then evO' n t (up s 0 (s 0 + 1)) 2 else some t
section
variable {L : Int} {β γ σ n : Nat} {t : Td} {s : Sm} {step : Int}
theorem lfO_ok (hn : n ≤ 14) (hL : 0 < L) (hb : bits L ≤ β) (o : Ok L β n t) (hs : ∀ i, 1 ≤ i → i ≤ n → (s i).natAbs < 2 ^ 39) (h0 : bits (s 0) ≤ γ) (hγ : β + 40 ≤ γ) (hst : 0 ≤ step) (hσ : bits step ≤ σ) {t' : Td} (h : lfO n t s step = some t') : ∃ L' : Int, 0 < L' ∧ bits L' ≤ γ + 40 * n + σ + 20 ∧ Ok L' (γ + 40 * n + σ + 31) n t' := by
  obtain ⟨pL, bL, oR2, oq⟩ := rlP_ok hn hL hb o.r hs h0 hγ hst hσ
  unfold lfO at h
  split at h
  · cases h
  · rename_i R hR
    have oR := rlO_ok hn hL hb o.r hs h0 hγ hst hσ hR
    exact ⟨_, pL, bL, shO_ok (t := (t.1, R)) (β := γ + 40 * n + σ + 20) hn pL bL ⟨o.b.le (by omega), oR⟩ h⟩
/-- the end of even_left and of same_left -/
theorem run_lf_end (hn : n ≤ 14) (hL : 0 < L) (hb : bits L ≤ β) (o : Ok L β n t) (hs : ∀ i, 1 ≤ i → i ≤ n → (s i).natAbs < 2 ^ 39) (h0 : bits (s 0) ≤ γ) (hγ : β + 40 ≤ γ) (hst : 0 ≤ step) (hσ : bits step ≤ σ) (hB : γ + 40 * n + σ + 20 ≤ 7800) {R : Rs2} (hR : rlO n t.2 s step = some R) : runDf (fnsN P (m + 3)) d_sharp [tdF false n (t.1, R)] = some (toF true n (lfO n t s step), [none]) := by
  obtain ⟨pL, bL, oR2, oq⟩ := rlP_ok hn hL hb o.r hs h0 hγ hst hσ
  have rS := run_sharp (m := m) (t := (t.1, R)) hn pL bL (by omega) ⟨o.b.le (by omega), rlO_ok hn hL hb o.r hs h0 hγ hst hσ hR⟩
  have e : lfO n t s step = shO n (t.1, R) := by unfold lfO; rw [hR]
  rw [e]; exact rS
theorem run_even_left (hn : n ≤ 14) (hL : 0 < L) (hb : bits L ≤ β) (o : Ok L β n t) (hs : ∀ i, 1 ≤ i → i ≤ n → (s i).natAbs < 2 ^ 39) (h0 : bits (s 0) ≤ γ) (hγ : β + 40 ≤ γ) (hst : 0 < step) (hσ : bits step ≤ σ) (hB : γ + 40 * n + σ + 20 ≤ 7800) : runDf (fnsN P (m + 4)) d_even_left [tdF false n t, intF false (n + 1) s, .int step] = some (toF true n (evO' n t s step), [none, none, none]) := by
  refine run_of rfl ?_
  have hst' : 0 ≤ step := by omega
  have r1 := fun m => run_sum_rest (m := m) (n := n) (s := s) (R := t.2) (by omega) o.tv.v (fun i h1 h2 => by have := hs i h1 h2; omega)
  have r2 := fun Φ => run_divisor Φ (sr n t.2 s).1 step
  have r3 := fun m => run_rests_left (m := m) hn hL hb o hs h0 hγ hst' hσ (by omega)
  have g0 : ¬ Int.gcd (sr n t.2 s).1 step = 0 := fun e => by have := (Int.gcd_eq_zero_iff.mp e).2; omega
  unfold evO'
  by_cases c : (sr n t.2 s).2.fmod (Int.gcd (sr n t.2 s).1 step) = 0
  · rw [if_pos c]
    cases hq : rlO n t.2 s step with
    | none =>
      rw [hq] at r3
      have e : lfO n t s step = none := by unfold lfO; rw [hq]
      simp [d_even_left, r1, r2, c, r3, g0, e]
    | some R =>
      rw [hq] at r3
      have rS := fun m => run_lf_end (m := m) hn hL hb o hs h0 hγ hst' hσ hB hq
      have tb : D.tup [mxF false (n + 1) (n + 1) t.1, rsF false n R] = tdF false n (t.1, R) := td_back
      simp [d_even_left, r1, r2, c, r3, g0, tb, rS]
  · rw [if_neg c]
    simp [d_even_left, r1, r2, c, g0]
theorem sl_tail {n : Nat} {s : Sm} : slD (intF false (n + 1) s) (some 1) none = some (intF true n fun i => s (i + 1)) := by
  have u : unL (mk (n + 1) fun j => D.int (s j)) = true := by simp
  show (if unL (mk (n + 1) fun j => D.int (s j)) = true then some (D.lst true (cutD (mk (n + 1) fun j => D.int (s j)) (some 1) none)) else none) = _
  rw [if_pos u, cut_mk]
  have e5 : HT.sIx (n + 1) 0 (some 1) = 1 := by
    rw [show (1 : Int) = ((1 : Nat) : Int) from rfl, HT.sIx_nat]
    omega
  rw [e5, HT.sIx_none]
  unfold intF
  congr 2
  refine mk_congr fun k hk => ?_
  rw [Nat.add_comm]
theorem cons_tail {n : Nat} {s : Sm} {x : Int} {o o' : Bool} (hn : n ≤ 10000) : binD .add (.lst o [.int x]) (intF o' n fun i => s (i + 1)) = some (intF true (n + 1) (up s 0 x)) := by
  have hbig : big = 1000000 := rfl
  show (if (unL [D.int x] && unL (mk n fun j => .int (s (j + 1))) && decide ([D.int x].length + (mk n fun j => D.int (s (j + 1))).length ≤ big)) = true then some (D.lst true ([.int x] ++ mk n fun j => .int (s (j + 1)))) else none) = _
  rw [if_pos]
  · show some (D.lst true (D.int x :: mk n fun j => .int (s (j + 1)))) = _
    rw [mk_cons]
    unfold intF
    congr 2
    refine mk_congr fun i hi => ?_
    unfold up
    by_cases c : i = 0
    · rw [if_pos c, if_pos c]
    · rw [if_neg c, if_neg c]
      congr 2; omega
  · simp; omega
theorem run_odd_left (hn : n ≤ 14) (hL : 0 < L) (hb : bits L ≤ β) (o : Ok L β n t) (hs : ∀ i, 1 ≤ i → i ≤ n → (s i).natAbs < 2 ^ 39) (h0 : bits (s 0) ≤ γ) (hγ : β + 41 ≤ γ) (hst : 0 < step) (hσ : bits step ≤ σ) (hB : γ + 40 * n + σ + 30 ≤ 7800) : runDf (fnsN P (m + 5)) d_odd_left [tdF false n t, intF false (n + 1) s, .int step] = some (toF true n (odO n t s step), [none, none, none]) := by
  refine run_of rfl ?_
  have r1 := fun m => run_sum_rest (m := m) (n := n) (s := s) (R := t.2) (by omega) o.tv.v (fun i h1 h2 => by have := hs i h1 h2; omega)
  have i0 := intF_atN (o := false) (s := s) (show 0 < n + 1 by omega)
  simp at i0
  have z : ¬ step = 0 := by omega
  have l1 := lst_rs (n := n) (R := t.2) (o := false)
  unfold odO
  by_cases c : (sr n t.2 s).1.fmod step = 0 ∧ (sr n t.2 s).2.fmod step = 0
  · rw [if_pos c]
    simp [d_odd_left, r1, c.1, c.2, z]
  · rw [if_neg c]
    simp only [d_odd_left]
    refine sat_cut (fun e => e = [some (tdF false n t), some (intF false (n + 1) s), some (.int step), some (dP (sr n t.2 s)), none]) (by simp [r1]) ?_
    rintro e rfl
    refine sat_cut (fun e => e = [some (tdF false n t), some (intF false (n + 1) s), some (.int step), some (dP (sr n t.2 s)), none]) ?_ ?_
    · by_cases c1 : (sr n t.2 s).1.fmod step = 0
      · have c2 : ¬ (sr n t.2 s).2.fmod step = 0 := fun q => c ⟨c1, q⟩
        simp [z, c1, c2]
      · simp [z, c1]
    rintro e rfl
    by_cases h2 : step = 2
    · rw [if_pos h2]
      have st := sl_tail (n := n) (s := s)
      have ct := fun o o' => cons_tail (n := n) (s := s) (x := s 0 + 1) (o := o) (o' := o') (by omega)
      have rE := fun m => run_even_left (m := m) (γ := γ + 1) (s := up s 0 (s 0 + 1)) (step := 2) (σ := 2) hn hL hb o (fun i h1 h2 => by
        unfold up; rw [if_neg (by omega)]; exact hs i h1 h2) (by
        show bits (up s 0 (s 0 + 1) 0) ≤ γ + 1
        rw [up_same]
        exact bits_le (intBits_add_le h0 (n := 1) (by decide)) (by omega)) (by omega) (by decide) (by decide) (by omega)
      simp [h2, i0, st, ct, rE]
    · rw [if_neg h2]
      simp [h2, sat_lc]
      refine lc_copy (by intro d; rfl) rfl ?_
      simp [l1]
      rfl
end
section
variable {L : Int} {β γ n : Nat} {t : Td} {s : Sm}
theorem neg_lt (hs : ∀ i, 1 ≤ i → i ≤ n → (s i).natAbs < 2 ^ 39) : ∀ i, 1 ≤ i → i ≤ n → (-s i).natAbs < 2 ^ 39 := fun i h1 h2 => by have := hs i h1 h2; omega
theorem bits_m1 {γ : Nat} (h : 40 ≤ γ) : bits (-1) ≤ γ := Nat.le_trans (by decide) h
theorem run_same_left (hn : n ≤ 14) (hL : 0 < L) (hb : bits L ≤ β) (o : Ok L β n t) (hs : ∀ i, 1 ≤ i → i ≤ n → (s i).natAbs < 2 ^ 39) (h0 : bits (s 0) ≤ β) (hB : β + 40 * n + 300 ≤ 7800) : runDf (fnsN P (m + 5)) d_same_left [tdF false n t, intF false (n + 1) s] = some (toF true n (seO n t s), [none, none]) := by
  refine run_of rfl ?_
  have r1 := fun m => run_sum_rest (m := m) (n := n) (s := s) (R := t.2) (by omega) o.tv.v (fun i h1 h2 => by have := hs i h1 h2; omega)
  have r2 := fun Φ => run_rest_has Φ (sr n t.2 s) 0
  have r3 := fun m => run_at_most (m := m) (γ := β + 40) (top := 0) hn hL hb o hs (by omega) (Nat.zero_le _) (by omega) (by omega)
  have rT := fun Φ => run_sum_times Φ (n := n + 1) (s := s) (k := -1) (fun c hc => mulOk_r (by decide))
  unfold seO
  by_cases c : rhas (sr n t.2 s) 0 = true
  · rw [if_pos c]
    rw [c] at r2
    cases h1 : amO n t s 0 with
    | none =>
      rw [h1] at r3
      have r4 := fun Φ => run_at_most_none (Φ := Φ) (n := n + 1) (s := fun i => -s i) (top := 0)
      simp [d_same_left, r1, r2, r3, rT, r4, amT]
    | some u =>
      rw [h1] at r3
      have ou := amO_ok (γ := β + 40) (top := 0) hn hL hb o hs (by omega) (Nat.zero_le _) (by omega) h1
      have r4 := fun m => run_at_most (m := m) (γ := β + 108) (top := 0) (s := fun i => -s i) (t := u) (β := β + 68) hn hL (by omega) ou (neg_lt hs) (intBits_neg_le (bits_le h0 (by omega))) (Nat.zero_le _) (by omega) (by omega)
      simp only [amT]
      cases h2 : amO n u (fun i => -s i) 0 with
      | none =>
        rw [h2] at r4
        simp [d_same_left, r1, r2, r3, rT, r4]
      | some h =>
        rw [h2] at r4
        have oh := amO_ok (γ := β + 108) (top := 0) (s := fun i => -s i) (t := u) (β := β + 68) hn hL (by omega) ou (neg_lt hs) (intBits_neg_le (bits_le h0 (by omega))) (Nat.zero_le _) (by omega) h2
        have r5 := fun m => run_rests_left (m := m) (t := h) (β := β + 136) (γ := β + 176) (σ := 0) (step := 0) hn hL (by omega) oh hs (by omega) (by omega) (by omega) (by decide) (by omega)
        simp only
        cases hq : rlO n h.2 s 0 with
        | none =>
          rw [hq] at r5
          have e : lfO n h s 0 = none := by unfold lfO; rw [hq]
          simp [d_same_left, r1, r2, r3, rT, r4, r5, e]
        | some R =>
          rw [hq] at r5
          have rS := fun m => run_lf_end (m := m) (t := h) (β := β + 136) (γ := β + 176) (σ := 0) (step := 0) hn hL (by omega) oh hs (by omega) (by omega) (by omega) (by decide) (by omega) hq
          have tb : D.tup [mxF false (n + 1) (n + 1) h.1, rsF false n R] = tdF false n (h.1, R) := td_back
          simp [d_same_left, r1, r2, r3, rT, r4, r5, tb, rS]
  · rw [if_neg c]
    have c' : rhas (sr n t.2 s) 0 = false := by simpa using c
    rw [c'] at r2
    simp [d_same_left, r1, r2]
theorem run_unlike_left (hn : n ≤ 14) (hL : 0 < L) (hb : bits L ≤ β) (o : Ok L β n t) (hs : ∀ i, 1 ≤ i → i ≤ n → (s i).natAbs < 2 ^ 39) (h0 : bits (s 0) ≤ β) (hB : β + 300 ≤ 7800) : runDf (fnsN P (m + 5)) d_unlike_left [tdF false n t, intF false (n + 1) s] = some (toF true n (unO n t s), [none, none]) := by
  refine run_of rfl ?_
  have l1 := lst_rs (n := n) (R := t.2) (o := false)
  have r2 := fun m => run_greatest (m := m) (n := n) (t := t) (s := s) (by omega) (fun i h1 h2 => by have := hs i h1 h2; omega)
  have r3 := fun m => run_at_most (m := m) (γ := β + 40) (top := -1) hn hL hb o hs (by omega) (bits_m1 (by omega)) (by omega) (by omega)
  have rT := fun Φ => run_sum_times Φ (n := n + 1) (s := s) (k := -1) (fun c hc => mulOk_r (by decide))
  have oh : ∀ u, unH n t s = some u → Ok L (β + 68) n u := fun u hu => by
    unfold unH at hu
    split at hu
    · cases hu; exact o.le (by omega)
    · split at hu
      · exact amO_ok (γ := β + 40) (top := -1) hn hL hb o hs (by omega) (bits_m1 (by omega)) (by omega) hu
      · cases hu; exact o.le (by omega)
  simp only [d_unlike_left]
  refine sat_cut (fun e => e = [some (tdF false n t), some (intF false (n + 1) s), some (tdF true n t), none, none, none]) ?_ ?_
  · simp [sat_lc]
    refine lc_copy (by intro d; rfl) rfl ?_
    simp [l1, td_back]
  rintro e rfl
  refine sat_cut (fun e => e = [some (tdF false n t), some (intF false (n + 1) s), some (tdF true n t), some (dO (gr n t.1 s)), none, none]) (by simp [r2]) ?_
  rintro e rfl
  refine sat_cut (fun e => e = [some (tdF false n t), some (intF false (n + 1) s), some (toF true n (unH n t s)), some (dO (gr n t.1 s)), none, none]) ?_ ?_
  · unfold unH
    cases hg : gr n t.1 s with
    | none => simp
    | some g =>
      by_cases c : g ≤ 0
      · simp [c, r3]
      · simp [c]
  rintro e rfl
  unfold unO
  cases hu : unH n t s with
  | none => simp
  | some u =>
    have ou := oh u hu
    have r4 := fun m => run_least (m := m) (n := n) (t := u) (s := s) (by omega) (fun i h1 h2 => by have := hs i h1 h2; omega)
    have r5 := fun m => run_at_most (m := m) (γ := β + 108) (top := -1) (s := fun i => -s i) (t := u) (β := β + 68) hn hL (by omega) ou (neg_lt hs) (intBits_neg_le (bits_le h0 (by omega))) (bits_m1 (by omega)) (by omega) (by omega)
    simp only [unH]
    cases hg : gr n u.1 fun i => -s i with
    | none =>
      rw [hg] at r4
      simp [r4]
    | some g =>
      rw [hg] at r4
      by_cases c : g ≤ 0
      · have c' : 0 ≤ -g := by omega
        simp [r4, c, c', rT, r5]
      · have c' : ¬ 0 ≤ -g := by omega
        simp [r4, c, c']
end
theorem run_when_none {Φ : Fs} {c : D} {b : Bool} (h : c.un = true) : runDf Φ d_when [.non, c, .bl b] = some (.non, [none, none, none]) := by
  refine run_of rfl ?_
  simp [d_when]
/-- claims -/
def clU (o : Bool) (n : Nat) (s : Sm) : D := .tup [.str "under", intF o (n + 1) s]
def clS (o : Bool) (n : Nat) (s : Sm) : D := .tup [.str "same", intF o (n + 1) s]
def clE (o : Bool) (n : Nat) (s : Sm) (d : Int) : D := .tup [.str "even", intF o (n + 1) s, .int d]
section
variable {L : Int} {β n : Nat} {t : Td} {s : Sm} {step : Int}
theorem run_when_under (hn : n ≤ 14) (hL : 0 < L) (hb : bits L ≤ β) (o : Ok L β n t) (hs : ∀ i, 1 ≤ i → i ≤ n → (s i).natAbs < 2 ^ 39) (h0 : bits (s 0) ≤ β) (hB : β + 300 ≤ 7800) (b : Bool) : runDf (fnsN P (m + 5)) d_when [tdF false n t, clU false n s, .bl b] = some (toF true n (if b = true then amO n t s (-1) else amO n t (fun i => -s i) 0), [none, none, none]) := by
  refine run_of rfl ?_
  have r3 := fun m => run_at_most (m := m) (γ := β + 40) (top := -1) hn hL hb o hs (by omega) (bits_m1 (by omega)) (by omega) (by omega)
  have rT := fun Φ => run_sum_times Φ (n := n + 1) (s := s) (k := -1) (fun c hc => mulOk_r (by decide))
  have r5 := fun m => run_at_most (m := m) (γ := β + 40) (top := 0) (s := fun i => -s i) hn hL hb o (neg_lt hs) (intBits_neg_le (bits_le h0 (by omega))) (Nat.zero_le _) (by omega) (by omega)
  cases b
  · simp [d_when, clU, rT, r5]
  · simp [d_when, clU, r3]
theorem run_when_same (hn : n ≤ 14) (hL : 0 < L) (hb : bits L ≤ β) (o : Ok L β n t) (hs : ∀ i, 1 ≤ i → i ≤ n → (s i).natAbs < 2 ^ 39) (h0 : bits (s 0) ≤ β) (hB : β + 40 * n + 300 ≤ 7800) (b : Bool) : runDf (fnsN P (m + 6)) d_when [tdF false n t, clS false n s, .bl b] = some (toF true n (if b = true then seO n t s else unO n t s), [none, none, none]) := by
  refine run_of rfl ?_
  have r3 := fun m => run_same_left (m := m) hn hL hb o hs h0 hB
  have r5 := fun m => run_unlike_left (m := m) hn hL hb o hs h0 (by omega)
  have ne : ¬ (("same" : Str) = ("under" : Str)) := by decide
  cases b
  · simp [d_when, clS, r5, ne]
  · simp [d_when, clS, r3, ne]
theorem run_when_even {σ : Nat} (hn : n ≤ 14) (hL : 0 < L) (hb : bits L ≤ β) (o : Ok L β n t) (hs : ∀ i, 1 ≤ i → i ≤ n → (s i).natAbs < 2 ^ 39) (h0 : bits (s 0) ≤ β) (hst : 0 < step) (hσ : bits step ≤ σ) (hB : β + 40 * n + σ + 300 ≤ 7800) (b : Bool) : runDf (fnsN P (m + 6)) d_when [tdF false n t, clE false n s step, .bl b] = some (toF true n (if b = true then evO' n t s step else odO n t s step), [none, none, none]) := by
  refine run_of rfl ?_
  have r3 := fun m => run_even_left (m := m) (γ := β + 40) hn hL hb o hs (by omega) (by omega) hst hσ (by omega)
  have r5 := fun m => run_odd_left (m := m) (γ := β + 41) hn hL hb o hs (by omega) (by omega) hst hσ (by omega)
  have ne : ¬ (("even" : Str) = ("under" : Str)) := by decide
  have ne2 : ¬ (("even" : Str) = ("same" : Str)) := by decide
  cases b
  · simp [d_when, clE, r5, ne, ne2]
  · simp [d_when, clE, r3, ne, ne2]
end
end Sr
set_option Elab.async false
set_option linter.all false
set_option maxRecDepth 100000
set_option maxHeartbeats 4000000
/-! # Sr: what claims leave, as mathematics -/
namespace Sr
open PySem PySem.Spec PyProof.Rows L2
variable {m : Nat}
@[simp] theorem okNU {n : Nat} : okN (n + 1) (.str "under") := ⟨by decide +kernel, by rw [D.py, PyData.depth] <;> omega⟩
@[simp] theorem okNS {n : Nat} : okN (n + 1) (.str "same") := ⟨by decide +kernel, by rw [D.py, PyData.depth] <;> omega⟩
@[simp] theorem okNE {n : Nat} : okN (n + 1) (.str "even") := ⟨by decide +kernel, by rw [D.py, PyData.depth] <;> omega⟩
section
variable {o : Bool} {n : Nat} {s : Sm} {d : Int}
@[simp] theorem clU_shr : (clU o n s).shr = clU false n s := by simp [clU]
@[simp] theorem clS_shr : (clS o n s).shr = clS false n s := by simp [clS]
@[simp] theorem clE_shr : (clE o n s d).shr = clE false n s d := by simp [clE]
@[simp] theorem clU_un : (clU false n s).un = true := by simp [clU]
@[simp] theorem clS_un : (clS false n s).un = true := by simp [clS]
@[simp] theorem clE_un : (clE false n s d).un = true := by simp [clE]
@[simp] theorem clU_1 : atD (clU o n s) 1 = some (intF o (n + 1) s) := by simp [clU]
@[simp] theorem clS_1 : atD (clS o n s) 1 = some (intF o (n + 1) s) := by simp [clS]
@[simp] theorem clE_1 : atD (clE o n s d) 1 = some (intF o (n + 1) s) := by simp [clE]
end
theorem val_lt {s : Sm} {b : Nat → Int} (h0 : (s 0).natAbs ≤ 10 ^ 40) : ∀ {n : Nat}, (∀ i, 1 ≤ i → i ≤ n → (s i).natAbs < 2 ^ 39) → (∀ i, i < n → (b i).natAbs ≤ 10 ^ 40) → (val s b n).natAbs ≤ 10 ^ 40 + n * (2 ^ 39 * 10 ^ 40)
  | 0, _, _ => by show (s 0).natAbs ≤ _; omega
  | n + 1, hs, hb => by
    have ih := val_lt h0 (n := n) (fun i h1 h2 => hs i h1 (by omega)) (fun i h => hb i (by omega))
    have h1 : (s (n + 1) * b n).natAbs ≤ 2 ^ 39 * 10 ^ 40 := by
      rw [Int.natAbs_mul]
      exact Nat.mul_le_mul (by have := hs (n + 1) (by omega) (by omega); omega) (hb n (by omega))
    show (val s b n + s (n + 1) * b n).natAbs ≤ _
    rw [Nat.add_mul]
    omega
theorem am0_in {n : Nat} {t : Td} {s : Sm} {top : Int} : TI n (am0 n t s top) t := by
  refine ⟨fun i j hi hj => ?_, fun k hk => RI.refl _⟩
  have u1 : U (am1 n t.1 s top i j) (t.1 i j) := by
    unfold am1
    split
    · exact U.refl _
    · exact oMin_l _ _
  show U (am2 n t.1 s top i j) (t.1 i j)
  unfold am2
  split
  · exact (oMin_l _ _).trans u1
  · split
    · exact (oMin_l _ _).trans u1
    · exact u1
theorem amO_tv {n : Nat} {t u : Td} {s : Sm} {top : Int} (v : TV n t) (h : amO n t s top = some u) : TV n u ∧ TI n u t := by
  unfold amO at h
  split at h
  · cases h
  · obtain ⟨h1, h2⟩ := shO_tv (am0_tv v) h
    exact ⟨h1, h2.trans am0_in⟩
theorem lfO_tv {n : Nat} {t u : Td} {s : Sm} {d : Int} (v : TV n t) (h : lfO n t s d = some u) : TV n u ∧ TI n u t := by
  unfold lfO at h
  split at h
  · cases h
  · rename_i R hR
    have vR : TV n (t.1, R) := ⟨v.d, rlO_v v.v hR⟩
    obtain ⟨h1, h2⟩ := shO_tv vR h
    refine ⟨h1, h2.trans ⟨fun i j hi hj => U.refl _, fun k hk => ?_⟩⟩
    have e := allO_some hR hk
    unfold rlE at e
    split at e
    · exact RI.met_l e
    · show RI (R k) (t.2 k)
      rw [← Option.some.inj e]; exact RI.refl _
theorem unH_tv {n : Nat} {t u : Td} {s : Sm} (v : TV n t) (h : unH n t s = some u) : TV n u ∧ TI n u t := by
  unfold unH at h
  split at h
  · cases h; exact ⟨v, TI.refl _ _⟩
  · split at h
    · exact amO_tv v h
    · cases h; exact ⟨v, TI.refl _ _⟩
theorem unO_tv {n : Nat} {t u : Td} {s : Sm} (v : TV n t) (h : unO n t s = some u) : TV n u ∧ TI n u t := by
  unfold unO at h
  split at h
  · cases h
  · rename_i w hw
    obtain ⟨v1, i1⟩ := unH_tv v hw
    obtain ⟨v2, i2⟩ := unH_tv v1 h
    exact ⟨v2, i2.trans i1⟩
theorem seO_tv {n : Nat} {t u : Td} {s : Sm} (v : TV n t) (h : seO n t s = some u) : TV n u ∧ TI n u t := by
  unfold seO at h
  split at h
  · split at h
    · cases h
    · rename_i w hw
      cases h1 : amO n t s 0 with
      | none => rw [h1] at hw; cases hw
      | some x =>
        rw [h1] at hw
        obtain ⟨v1, i1⟩ := amO_tv v h1
        obtain ⟨v2, i2⟩ := amO_tv v1 hw
        obtain ⟨v3, i3⟩ := lfO_tv v2 h
        exact ⟨v3, i3.trans (i2.trans i1)⟩
  · cases h
theorem evO_tv {n : Nat} {t u : Td} {s : Sm} {d : Int} (v : TV n t) (h : evO' n t s d = some u) : TV n u ∧ TI n u t := by
  unfold evO' at h
  split at h
  · exact lfO_tv v h
  · cases h
theorem odO_tv {n : Nat} {t u : Td} {s : Sm} {d : Int} (v : TV n t) (h : odO n t s d = some u) : TV n u ∧ TI n u t := by
  unfold odO at h
  split at h
  · cases h
  · split at h
    · exact evO_tv v h
    · cases h; exact ⟨v, TI.refl _ _⟩
theorem app_td1 {n : Nat} {t : Td} {x : Int × Int} (hn : n ≤ 1000) : setAt 1 (appD (dP x)) (tdF true n t) = some (.tup [mxF true (n + 1) (n + 1) t.1, rsF true (n + 1) fun i => if i < n then t.2 i else x]) := by
  have hbig : big = 1000000 := rfl
  show setAt 1 (appD (dP x)) (.tup [mxF true (n + 1) (n + 1) t.1, rsF true n t.2]) = _
  unfold setAt
  have : ixN [mxF true (n + 1) (n + 1) t.1, rsF true n t.2].length 1 = some 1 := rfl
  simp only [this]
  have e1 : rsF true n t.2 = rsF true n (fun i => if i < n then t.2 i else x) := rsF_congr fun i hi => by simp [hi]
  have a := rsF_app (n := n) (R := fun i => if i < n then t.2 i else x) (x := x) (by omega) (by simp)
  rw [← e1] at a
  simp [a]
/-! the law's own -/
section
variable {L : Int} {β n : Nat} {t : Td} {s : Sm}
theorem run_lsame_left (hn : n ≤ 14) (hL : 0 < L) (hb : bits L ≤ β) (o : Ok L β n t) (hs : ∀ i, 1 ≤ i → i ≤ n → (s i).natAbs < 2 ^ 39) (h0 : bits (s 0) ≤ β) (hB : β + 40 * n + 300 ≤ 7800) : runDf (fnsN P (m + 5)) d__law_same_left [tdF false n t, intF false (n + 1) s] = some (toF false n (seO n t s), [none, none]) := by
  refine run_of rfl ?_
  have r1 := fun m => run_lsum_rest (m := m) (n := n) (s := s) (R := t.2) (by omega) o.tv.v (fun i h1 h2 => by have := hs i h1 h2; omega)
  have r3 := fun m => run_lat_most (m := m) (γ := β + 40) (top := 0) hn hL hb o hs (by omega) (Nat.zero_le _) (by omega) (by omega)
  have hz : rhas (sr n t.2 s) 0 = true ↔ (sr n t.2 s).2 = 0 := by
    have v : RV (sr n t.2 s) := srF_v
    rw [rhas_iff]
    refine ⟨fun h => ?_, fun h => by rw [h]; simp⟩
    rcases v.2 with z | z
    · rw [z] at h
      have := Int.zero_dvd.mp h
      omega
    · have h2 : (sr n t.2 s).1 ∣ (sr n t.2 s).2 := by
        have := Int.dvd_neg.mpr h
        have e : -(0 - (sr n t.2 s).2) = (sr n t.2 s).2 := by omega
        rwa [e] at this
      exact Int.eq_zero_of_dvd_of_natAbs_lt_natAbs h2 (by omega)
  unfold seO
  simp only [d__law_same_left]
  by_cases c : (sr n t.2 s).2 = 0
  · rw [if_pos (hz.mpr c)]
    refine sat_cut (fun e => e = [some (tdF false n t), some (intF false (n + 1) s), none, none]) (by simp [r1, c]) ?_
    rintro e rfl
    refine sat_cut (fun e => e = [some (tdF false n t), some (intF false (n + 1) s), some (toF false n (amT n (amO n t s 0) (fun i => -s i) 0)), none]) ?_ ?_
    · simp [sat_lc, r3, agFz_var]
      refine lc_neg (by intro d; rfl) rfl ?_
      cases h1 : amO n t s 0 with
      | none =>
        have r4 := fun Φ => run_lat_most_none (Φ := Φ) (n := n + 1) (s := fun i => -s i) (top := 0)
        simp [r4, amT]
      | some u =>
        have ou := amO_ok (γ := β + 40) (top := 0) hn hL hb o hs (by omega) (Nat.zero_le _) (by omega) h1
        have r4 := fun m => run_lat_most (m := m) (γ := β + 108) (top := 0) (s := fun i => -s i) (t := u) (β := β + 68) hn hL (by omega) ou (neg_lt hs) (intBits_neg_le (bits_le h0 (by omega))) (Nat.zero_le _) (by omega) (by omega)
        simp [r4, amT]
    rintro e rfl
    cases h2 : amT n (amO n t s 0) (fun i => -s i) 0 with
    | none => simp
    | some h =>
      cases h1 : amO n t s 0 with
      | none => rw [h1] at h2; cases h2
      | some u =>
        rw [h1] at h2
        have ou := amO_ok (γ := β + 40) (top := 0) hn hL hb o hs (by omega) (Nat.zero_le _) (by omega) h1
        have oh := amO_ok (γ := β + 108) (top := 0) (s := fun i => -s i) (t := u) (β := β + 68) hn hL (by omega) ou (neg_lt hs) (intBits_neg_le (bits_le h0 (by omega))) (Nat.zero_le _) (by omega) h2
        have r5 := fun m => run_lleft_281c (m := m) (t := h) (β := β + 136) (γ := β + 176) (σ := 0) (step := 0) hn hL (by omega) oh hs (by omega) (by omega) (by omega) (by decide) (by omega)
        simp [r5, agFz_var]
  · rw [if_neg (fun z => c (hz.mp z))]
    simp [r1, c]
theorem run_lunlike (hn : n ≤ 14) (hL : 0 < L) (hb : bits L ≤ β) (o : Ok L β n t) (hs : ∀ i, 1 ≤ i → i ≤ n → (s i).natAbs < 2 ^ 39) (h0 : bits (s 0) ≤ β) (hB : β + 300 ≤ 7800) : runDf (fnsN P (m + 5)) d__law_unlike [tdF false n t, intF false (n + 1) s] = some (toF false n (unO n t s), [none, none]) := by
  refine run_of rfl ?_
  have r2 := fun Φ => run_lgreatest Φ (n := n) (t := t) (s := s) (by omega) (fun i h1 h2 => by have := hs i h1 h2; omega)
  have r3 := fun m => run_lat_most (m := m) (γ := β + 40) (top := -1) hn hL hb o hs (by omega) (bits_m1 (by omega)) (by omega) (by omega)
  have oh : ∀ u, unH n t s = some u → Ok L (β + 68) n u := fun u hu => by
    unfold unH at hu
    split at hu
    · cases hu; exact o.le (by omega)
    · split at hu
      · exact amO_ok (γ := β + 40) (top := -1) hn hL hb o hs (by omega) (bits_m1 (by omega)) (by omega) hu
      · cases hu; exact o.le (by omega)
  simp only [d__law_unlike]
  simp [sat_lc]
  refine lc_neg (by intro d; rfl) rfl ?_
  simp
  obtain ⟨Z, hZ⟩ : ∃ Z : Nat → Sm, Z = fun k => if k = 0 then s else fun i => -s i := ⟨_, rfl⟩
  obtain ⟨W, hW⟩ : ∃ W : Nat → Option Td, W = fun k => if k = 0 then some t else if k = 1 then unH n t s else unO n t s := ⟨_, rfl⟩
  have hZs : ∀ k, ∀ i, 1 ≤ i → i ≤ n → (Z k i).natAbs < 2 ^ 39 := fun k i h1 h2 => by
    rw [hZ]
    have := hs i h1 h2
    simp only
    split
    · exact this
    · show (-s i).natAbs < _
      omega
  have hZ0 : ∀ k, bits (Z k 0) ≤ β := fun k => by
    rw [hZ]
    simp only
    split
    · exact h0
    · exact intBits_neg_le h0
  have hWo : ∀ k, k < 2 → ∀ u, W k = some u → Ok L (β + 68) n u := fun k hk u hu => by
    rw [hW] at hu
    simp only at hu
    split at hu
    · cases hu; exact o.le (by omega)
    · rw [if_pos (by omega)] at hu; exact oh u hu
  have hWs : ∀ k, k < 2 → W (k + 1) = match W k with | none => none | some u => unH n u (Z k) := fun k hk => by
    rcases (show k = 0 ∨ k = 1 by omega) with rfl | rfl
    · rw [hW, hZ]; rfl
    · rw [hW, hZ]; rfl
  have hl : [intF false (n + 1) s, intF false (n + 1) fun i => -s i] = mk 2 fun k => intF false (n + 1) (Z k) := by rw [hZ]; rfl
  have hE : unO n t s = W 2 := by rw [hW]; rfl
  rw [hE]
  show sat (loopF _ _ [intF false (n + 1) s, intF false (n + 1) fun i => -s i] _) _
  rw [hl]
  refine for_mkI (fun k e => ∃ y z, e = [some (toF false n (W k)), some (intF false (n + 1) s), y, z, none]) ⟨none, none, by rw [hW]; rfl⟩ ?_ ?_
  · rintro k e hk ⟨y, z, rfl⟩
    have w := hWs k hk
    cases hu : W k with
    | none =>
      rw [hu] at w
      simp [w]
    | some u =>
      rw [hu] at w
      simp only at w
      have ou := hWo k hk u hu
      have r2 := fun Φ => run_lgreatest Φ (n := n) (t := u) (s := Z k) (by omega) (fun i h1 h2 => by have := hZs k i h1 h2; omega)
      have r3 := fun m => run_lat_most (m := m) (γ := β + 108) (top := -1) (s := Z k) hn hL (by omega) ou (hZs k) (by have := hZ0 k; omega) (bits_m1 (by omega)) (by omega) (by omega)
      unfold unH at w
      cases hg : gr n u.1 (Z k) with
      | none =>
        rw [hg] at r2 w
        simp [r2, w]
      | some g =>
        rw [hg] at r2 w
        by_cases c : g ≤ 0
        · simp only [if_pos c] at w
          simp [r2, c, w, r3, agFz_var]
        · simp only [if_neg c] at w
          simp [r2, c, w]
  · rintro e ⟨y, z, rfl⟩
    simp
end
section
variable {L : Int} {β γ σ n : Nat} {t : Td} {s : Sm} {step : Int}
theorem run_lwhen_none {Φ : Fs} {s : Sm} {step : Int} {b : Bool} : runDf Φ d__law_when [.non, intF false (n + 1) s, .int step, .bl b] = some (.non, [none, none, none, none]) := by
  refine run_of rfl ?_
  simp [d__law_when]
theorem run_lwhen_t (hn : n ≤ 14) (hL : 0 < L) (hb : bits L ≤ β) (o : Ok L β n t) (hs : ∀ i, 1 ≤ i → i ≤ n → (s i).natAbs < 2 ^ 39) (h0 : bits (s 0) ≤ γ) (hγ : β + 40 ≤ γ) (hst : 0 < step) (hσ : bits step ≤ σ) (hB : γ + 40 * n + σ + 20 ≤ 7800) : runDf (fnsN P (m + 5)) d__law_when [tdF false n t, intF false (n + 1) s, .int step, .bl true] = some (toF false n (evO' n t s step), [none, none, none, none]) := by
  refine run_of rfl ?_
  have hst' : 0 ≤ step := by omega
  have r1 := fun m => run_lsum_rest (m := m) (n := n) (s := s) (R := t.2) (by omega) o.tv.v (fun i h1 h2 => by have := hs i h1 h2; omega)
  have r2 := fun Φ => run_lgcd Φ (sr n t.2 s).1 step
  have r3 := fun m => run_lleft_7da2 (m := m) hn hL hb o hs h0 hγ hst' hσ hB
  have g0 : ¬ Int.gcd (sr n t.2 s).1 step = 0 := fun e => by have := (Int.gcd_eq_zero_iff.mp e).2; omega
  unfold evO'
  by_cases c : (sr n t.2 s).2.fmod (Int.gcd (sr n t.2 s).1 step) = 0
  · rw [if_pos c]
    simp [d__law_when, r1, r2, c, r3, g0, agFz_var]
  · rw [if_neg c]
    simp [d__law_when, r1, r2, c, g0, agFz_var]
theorem run_lwhen_f (hn : n ≤ 14) (hL : 0 < L) (hb : bits L ≤ β) (o : Ok L β n t) (hs : ∀ i, 1 ≤ i → i ≤ n → (s i).natAbs < 2 ^ 39) (h0 : bits (s 0) ≤ γ) (hγ : β + 41 ≤ γ) (hst : 0 < step) (hσ : bits step ≤ σ) (hB : γ + 40 * n + σ + 30 ≤ 7800) : runDf (fnsN P (m + 6)) d__law_when [tdF false n t, intF false (n + 1) s, .int step, .bl false] = some (toF false n (odO n t s step), [none, none, none, none]) := by
  refine run_of rfl ?_
  have r1 := fun m => run_lsum_rest (m := m) (n := n) (s := s) (R := t.2) (by omega) o.tv.v (fun i h1 h2 => by have := hs i h1 h2; omega)
  have z : ¬ step = 0 := by omega
  have rW := fun Φ => run_lwith2 Φ (n := n + 1) (i := 0) (s := s) (k := 1) (by omega)
  simp at rW
  unfold odO
  by_cases c : (sr n t.2 s).1.fmod step = 0 ∧ (sr n t.2 s).2.fmod step = 0
  · rw [if_pos c]
    simp [d__law_when, r1, c.1, c.2, z]
  · rw [if_neg c]
    simp only [d__law_when]
    refine sat_cut (fun e => e = [some (tdF false n t), some (intF false (n + 1) s), some (.int step), some (.bl false), none]) (by simp) ?_
    rintro e rfl
    refine sat_cut (fun e => e = [some (tdF false n t), some (intF false (n + 1) s), some (.int step), some (.bl false), some (dP (sr n t.2 s))]) (by simp [r1]) ?_
    rintro e rfl
    refine sat_cut (fun e => e = [some (tdF false n t), some (intF false (n + 1) s), some (.int step), some (.bl false), some (dP (sr n t.2 s))]) (by simp) ?_
    rintro e rfl
    refine sat_cut (fun e => e = [some (tdF false n t), some (intF false (n + 1) s), some (.int step), some (.bl false), some (dP (sr n t.2 s))]) ?_ ?_
    · by_cases c1 : (sr n t.2 s).1.fmod step = 0
      · have c2 : ¬ (sr n t.2 s).2.fmod step = 0 := fun q => c ⟨c1, q⟩
        simp [z, c1, c2]
      · simp [z, c1]
    rintro e rfl
    by_cases h2 : step = 2
    · rw [if_pos h2]
      have rE := fun m => run_lwhen_t (m := m) (γ := γ + 1) (s := up s 0 (s 0 + 1)) (step := 2) (σ := 2) hn hL hb o (fun i h1 h2 => by
        unfold up; rw [if_neg (by omega)]; exact hs i h1 h2) (by
        show bits (up s 0 (s 0 + 1) 0) ≤ γ + 1
        rw [up_same]
        exact bits_le (intBits_add_le h0 (n := 1) (by decide)) (by omega)) (by omega) (by decide) (by decide) (by omega)
      simp [h2, rW, rE, agFz_var]
    · rw [if_neg h2]
      simp [h2]
end
end Sr
set_option Elab.async false
set_option linter.all false
set_option maxRecDepth 100000
set_option maxHeartbeats 4000000
/-! # Sr: what claims leave keeps the boxes -/
namespace Sr
open PySem PySem.Spec PyProof.Rows L2
variable {m : Nat}
theorem val_fl {b : Nat → Int} {i n : Nat} (hi : i ≤ n) : val (un i) b n = fl b i := by
  cases i with
  | zero =>
    rw [val_congr (u := fun _ => 0) (fun i _ => un_0), val_0]
    rfl
  | succ i => rw [val_un (by omega), fl_1]
theorem val_mulr {s : Sm} {k : Int} {b : Nat → Int} : ∀ {n : Nat}, val (fun c => s c * k) b n = val s b n * k
  | 0 => rfl
  | n + 1 => by
    show val (fun c => s c * k) b n + s (n + 1) * k * b n = (val s b n + s (n + 1) * b n) * k
    rw [val_mulr, Int.add_mul, Int.mul_assoc, Int.mul_assoc, Int.mul_comm k]
theorem val_amD {s : Sm} {b : Nat → Int} {i j n : Nat} (hi : i ≤ n) (hj : j ≤ n) : val (amD s i j) b n = fl b i - fl b j - val s b n := by
  show val (fun c => un i c - un j c - s c) b n = _
  rw [val_sub (s := fun c => un i c - un j c), val_sub, val_fl hi, val_fl hj]
theorem val_amE {s : Sm} {b : Nat → Int} {i n : Nat} (hi : i ≤ n) : val (amE s i) b n = fl b i * s i - val s b n := by
  show val (fun c => un i c * s i - s c) b n = _
  rw [val_sub (s := fun c => un i c * s i), val_mulr, val_fl hi]
theorem le_fdiv {a b c : Int} (hc : 0 < c) (h : a * c ≤ b) : a ≤ b.fdiv c := by
  have f := fmod_lt b hc
  have d := Int.fmod_def b c
  by_cases q : a ≤ b.fdiv c
  · exact q
  · have : c * (b.fdiv c + 1) ≤ c * a := Int.mul_le_mul_of_nonneg_left (by omega) (by omega)
    rw [Int.mul_add, Int.mul_one, Int.mul_comm c a] at this
    omega
theorem oMin_le {x : Int} {o o' : Option Int} (h1 : ∀ y, o = some y → x ≤ y) (h2 : ∀ y, o' = some y → x ≤ y) : ∀ y, oMin o o' = some y → x ≤ y := fun y hy => by
  rcases oMin_or o o' with e | e
  · rw [e] at hy; exact h1 y hy
  · rw [e] at hy; exact h2 y hy
theorem am0_lies {n : Nat} {t : Td} {s : Sm} {top : Int} {b : Nat → Int} (l : Lies n t b) (h : val s b n ≤ top) : Lies n (am0 n t s top) b := by
  have a1 : ∀ i j, i ≤ n → j ≤ n → ∀ y, am1 n t.1 s top i j = some y → fl b i - fl b j ≤ y := fun i j hi hj y hy => by
    unfold am1 at hy
    split at hy
    · exact l.b.b i j y hi hj hy
    · refine oMin_le (fun y hy => l.b.b i j y hi hj hy) (fun y hy => ?_) y hy
      cases hg : gr n t.1 (amD s i j) with
      | none => rw [hg] at hy; cases hy
      | some g =>
        rw [hg] at hy
        have e : g + top = y := Option.some.inj hy
        have := gr_lies l.b hg
        rw [val_amD hi hj] at this
        omega
  refine ⟨⟨fun i j y hi hj e => ?_⟩, l.r⟩
  have e : am2 n t.1 s top i j = some y := e
  unfold am2 at e
  split at e
  · rename_i c
    refine oMin_le (a1 i j hi hj) (fun y hy => ?_) y e
    cases hg : gr n t.1 (amE s i) with
    | none => rw [hg] at hy; cases hy
    | some g =>
      rw [hg] at hy
      have e : (g + top).fdiv (s i) = y := Option.some.inj hy
      have := gr_lies l.b hg
      rw [val_amE hi] at this
      rw [c.1, fl_0, ← e]
      have := le_fdiv (a := fl b i) (b := g + top) c.2.2 (by omega)
      omega
  · split at e
    · rename_i c
      refine oMin_le (a1 i j hi hj) (fun y hy => ?_) y e
      cases hg : gr n t.1 (amE s j) with
      | none => rw [hg] at hy; cases hy
      | some g =>
        rw [hg] at hy
        have e : (g + top).fdiv (-s j) = y := Option.some.inj hy
        have := gr_lies l.b hg
        rw [val_amE hj] at this
        rw [c.1, fl_0, ← e]
        have := le_fdiv (a := -fl b j) (b := g + top) (c := -s j) (by omega) (by rw [Int.neg_mul_neg]; omega)
        omega
    · exact a1 i j hi hj y e
theorem amO_lies {n : Nat} {t : Td} {s : Sm} {top : Int} {b : Nat → Int} (v : TV n t) (l : Lies n t b) (h : val s b n ≤ top) : ∃ u, amO n t s top = some u ∧ Lies n u b := by
  have nn : ¬ amN n t s top = true := fun c => by
    unfold amN at c
    cases hg : gr n t.1 fun c => -s c with
    | none => rw [hg] at c; cases c
    | some g =>
      rw [hg] at c
      have c : top < -g := of_decide_eq_true c
      have := gr_lies l.b hg
      rw [val_neg] at this
      omega
  unfold amO
  rw [if_neg nn]
  exact shO_lies (am0_tv v) (am0_lies l h)
theorem val_oth {s : Sm} {b : Nat → Int} {i : Nat} : ∀ {n : Nat}, i < n → val s b n = val (oth s (i + 1)) b n + s (i + 1) * b i
  | 0, h => absurd h (by omega)
  | n + 1, h => by
    show val s b n + s (n + 1) * b n = val (oth s (i + 1)) b n + oth s (i + 1) (n + 1) * b n + s (i + 1) * b i
    by_cases c : i = n
    · subst c
      have e : oth s (i + 1) (i + 1) = 0 := by unfold oth; rw [if_pos rfl]
      rw [e, val_congr (s := oth s (i + 1)) (u := s) (fun k hk => by unfold oth; rw [if_neg (by omega)])]
      omega
    · have e : oth s (i + 1) (n + 1) = s (n + 1) := by unfold oth; rw [if_neg (by omega)]
      rw [e, val_oth (show i < n by omega)]
      omega
theorem lfO_lies {n : Nat} {t : Td} {s : Sm} {d : Int} {b : Nat → Int} (v : TV n t) (l : Lies n t b) (h : d ∣ val s b n) : ∃ u, lfO n t s d = some u ∧ Lies n u b := by
  have has : ∀ i, i < n → ∃ r, rlE n t.2 s d i = some r ∧ r.1 ∣ b i - r.2 := fun i hi => by
    unfold rlE
    split
    · rename_i c
      refine rmt_has (l.r i hi) ?_
      unfold rlP
      rw [has_mk]
      have a1 := Int.dvd_trans (Int.gcd_dvd_left (sr n t.2 (oth s (i + 1))).1 d) (sr_lies (s := oth s (i + 1)) l.r)
      have a2 := Int.dvd_trans (Int.gcd_dvd_right (sr n t.2 (oth s (i + 1))).1 d) h
      have a3 := Int.dvd_sub a2 a1
      rw [val_oth hi] at a3
      rcases c with c | c
      · rw [c] at a3 ⊢
        have e : val (oth s (i + 1)) b n + 1 * b i - (val (oth s (i + 1)) b n - (sr n t.2 (oth s (i + 1))).2) = b i - -1 * (sr n t.2 (oth s (i + 1))).2 := by omega
        rwa [e] at a3
      · rw [c] at a3 ⊢
        have a4 := Int.dvd_neg.mpr a3
        have e : -(val (oth s (i + 1)) b n + -1 * b i - (val (oth s (i + 1)) b n - (sr n t.2 (oth s (i + 1))).2)) = b i - - -1 * (sr n t.2 (oth s (i + 1))).2 := by omega
        rwa [e] at a4
    · exact ⟨_, rfl, l.r i hi⟩
  obtain ⟨R, hR, eR⟩ := allO_of (n := n) (f := rlE n t.2 s d) (R' := fun i => (rlE n t.2 s d i).getD (0, 0)) (fun i hi => by
    obtain ⟨r, hr, _⟩ := has i hi
    rw [hr]; rfl)
  have hR : rlO n t.2 s d = some R := hR
  unfold lfO
  rw [hR]
  refine shO_lies ⟨v.d, rlO_v v.v hR⟩ ⟨l.b, fun i hi => ?_⟩
  obtain ⟨r, hr, hx⟩ := has i hi
  have := allO_some hR hi
  rw [hr] at this
  cases this
  exact hx
theorem unH_lies {n : Nat} {t : Td} {s : Sm} {b : Nat → Int} (v : TV n t) (l : Lies n t b) (h : val s b n ≠ 0) : ∃ u, unH n t s = some u ∧ Lies n u b := by
  unfold unH
  cases hg : gr n t.1 s with
  | none => exact ⟨t, rfl, l⟩
  | some g =>
    have := gr_lies l.b hg
    by_cases c : g ≤ 0
    · simp only [if_pos c]
      exact amO_lies v l (by omega)
    · simp only [if_neg c]
      exact ⟨t, rfl, l⟩
theorem unO_lies {n : Nat} {t : Td} {s : Sm} {b : Nat → Int} (v : TV n t) (l : Lies n t b) (h : val s b n ≠ 0) : ∃ u, unO n t s = some u ∧ Lies n u b := by
  obtain ⟨w, hw, lw⟩ := unH_lies v l h
  obtain ⟨vw, _⟩ := unH_tv v hw
  unfold unO
  rw [hw]
  exact unH_lies vw lw (by rw [val_neg]; omega)
theorem seO_lies {n : Nat} {t : Td} {s : Sm} {b : Nat → Int} (v : TV n t) (l : Lies n t b) (h : val s b n = 0) : ∃ u, seO n t s = some u ∧ Lies n u b := by
  unfold seO
  have c : rhas (sr n t.2 s) 0 = true := by
    rw [rhas_iff]
    have := sr_lies (s := s) l.r
    rwa [h] at this
  rw [if_pos c]
  obtain ⟨x, hx, lx⟩ := amO_lies (top := 0) v l (by rw [h]; exact Int.le_refl 0)
  obtain ⟨vx, _⟩ := amO_tv v hx
  obtain ⟨y, hy, ly⟩ := amO_lies (s := fun i => -s i) (top := 0) vx lx (by rw [val_neg]; omega)
  obtain ⟨vy, _⟩ := amO_tv vx hy
  have e : amT n (amO n t s 0) (fun i => -s i) 0 = some y := by rw [hx]; exact hy
  rw [e]
  exact lfO_lies vy ly (by rw [h]; exact Int.dvd_zero _)
theorem evO_lies {n : Nat} {t : Td} {s : Sm} {d : Int} {b : Nat → Int} (v : TV n t) (l : Lies n t b) (h : d ∣ val s b n) : ∃ u, evO' n t s d = some u ∧ Lies n u b := by
  unfold evO'
  rw [if_pos]
  · exact lfO_lies v l h
  · rw [fmod0]
    have a1 := Int.dvd_trans (Int.gcd_dvd_left (sr n t.2 s).1 d) (sr_lies (s := s) l.r)
    have a2 := Int.dvd_trans (Int.gcd_dvd_right (sr n t.2 s).1 d) h
    have a3 := Int.dvd_sub a2 a1
    have e : val s b n - (val s b n - (sr n t.2 s).2) = (sr n t.2 s).2 := by omega
    rwa [e] at a3
theorem val_up0 {s : Sm} {x : Int} {b : Nat → Int} : ∀ {n : Nat}, val (up s 0 x) b n = val s b n - s 0 + x
  | 0 => by show up s 0 x 0 = s 0 - s 0 + x; rw [up_same]; omega
  | n + 1 => by
    show val (up s 0 x) b n + up s 0 x (n + 1) * b n = val s b n + s (n + 1) * b n - s 0 + x
    have e : up s 0 x (n + 1) = s (n + 1) := by unfold up; rw [if_neg (by omega)]
    rw [val_up0, e]; omega
theorem odO_lies {n : Nat} {t : Td} {s : Sm} {d : Int} {b : Nat → Int} (v : TV n t) (l : Lies n t b) (h : ¬ d ∣ val s b n) : ∃ u, odO n t s d = some u ∧ Lies n u b := by
  unfold odO
  rw [if_neg]
  · split
    · rename_i c
      subst c
      refine evO_lies v l ?_
      rw [val_up0]
      omega
    · exact ⟨t, rfl, l⟩
  · rintro ⟨h1, h2⟩
    rw [fmod0] at h1 h2
    have a1 := Int.dvd_trans h1 (sr_lies (s := s) l.r)
    have a2 := Int.dvd_add a1 h2
    have e : val s b n - (sr n t.2 s).2 + (sr n t.2 s).2 = val s b n := by omega
    rw [e] at a2
    exact h a2
end Sr
set_option Elab.async false
set_option linter.all false
set_option maxRecDepth 100000
set_option maxHeartbeats 4000000
/-! # Sr: plain claims leave no others -/
namespace Sr
open PySem PySem.Spec PyProof.Rows L2
variable {m : Nat}
/-- a sum over no box, over one, over one less another -/
inductive Pln (n : Nat) (s : Sm) : Prop where
  | no (h : ∀ c, 1 ≤ c → c ≤ n → s c = 0)
  | one (i : Nat) (h1 : 1 ≤ i) (h2 : i ≤ n) (h3 : s i ≠ 0) (h : ∀ c, 1 ≤ c → c ≤ n → c ≠ i → s c = 0)
  | two (i j : Nat) (hi : 1 ≤ i ∧ i ≤ n) (hj : 1 ≤ j ∧ j ≤ n) (si : s i = 1) (sj : s j = -1) (h : ∀ c, 1 ≤ c → c ≤ n → c ≠ i → c ≠ j → s c = 0)
theorem gr_const {n : Nat} {B : Mx} {s : Sm} (h : ∀ c, 1 ≤ c → c ≤ n → s c = 0) : gr n B s = some (s 0) := by
  have e1 : nz n nzr s = [] := nz_nil fun c h1 h2 => by rw [h c h1 h2]; rfl
  have e2 : pairO n s = none := by
    show pairL s (nz n nzr s) = none
    rw [e1]; rfl
  have e3 : ∀ i, i ≤ n → grF B s i = some (s 0) := fun i hi => by
    induction i with
    | zero => rw [grF]
    | succ i ih => rw [grF, if_pos (h _ (by omega) hi), ih (by omega)]
  unfold gr
  rw [e2, e3 n (Nat.le_refl n)]
theorem val_const {s : Sm} {b : Nat → Int} : ∀ {n : Nat}, (∀ c, 1 ≤ c → c ≤ n → s c = 0) → val s b n = s 0
  | 0, _ => rfl
  | n + 1, h => by
    show val s b n + s (n + 1) * b n = s 0
    rw [val_const (fun c h1 h2 => h c h1 (by omega)), h (n + 1) (by omega) (by omega)]
    omega
theorem val_one {s : Sm} {b : Nat → Int} {i n : Nat} (h1 : 1 ≤ i) (h2 : i ≤ n) (h : ∀ c, 1 ≤ c → c ≤ n → c ≠ i → s c = 0) : val s b n = s 0 + s i * fl b i := by
  obtain ⟨z, rfl⟩ : ∃ z, i = z + 1 := ⟨i - 1, by omega⟩
  rw [val_oth (show z < n by omega), val_const (s := oth s (z + 1)) (fun c k1 k2 => by
    unfold oth
    split
    · rfl
    · rename_i q; exact h c k1 k2 q), fl_1]
  have : oth s (z + 1) 0 = s 0 := by unfold oth; rw [if_neg (by omega)]
  rw [this]
theorem val_two {s : Sm} {b : Nat → Int} {i j n : Nat} (hi : 1 ≤ i ∧ i ≤ n) (hj : 1 ≤ j ∧ j ≤ n) (si : s i = 1) (sj : s j = -1) (h : ∀ c, 1 ≤ c → c ≤ n → c ≠ i → c ≠ j → s c = 0) : val s b n = s 0 + fl b i - fl b j := by
  obtain ⟨z, rfl⟩ : ∃ z, i = z + 1 := ⟨i - 1, by omega⟩
  have ne : z + 1 ≠ j := fun e => by rw [e] at si; omega
  rw [val_oth (show z < n by omega), val_one (s := oth s (z + 1)) (i := j) hj.1 hj.2 (fun c k1 k2 k3 => by
    unfold oth
    split
    · rfl
    · rename_i q; exact h c k1 k2 q k3), fl_1]
  have e1 : oth s (z + 1) 0 = s 0 := by unfold oth; rw [if_neg (by omega)]
  have e2 : oth s (z + 1) j = -1 := by unfold oth; rw [if_neg (fun e => ne e.symm), sj]
  rw [e1, e2, si]
  omega
theorem fdiv_le {a b c : Int} (hc : 0 < c) (h : a ≤ b.fdiv c) : a * c ≤ b := by
  have f := fmod_lt b hc
  have d := Int.fmod_def b c
  have : c * a ≤ c * b.fdiv c := Int.mul_le_mul_of_nonneg_left h (by omega)
  rw [Int.mul_comm a c]
  omega
theorem amO_plain {n : Nat} {t u : Td} {s : Sm} {top : Int} {b : Nat → Int} (v : TV n t) (p : Pln n s) (h : amO n t s top = some u) (l : Lies n u b) : val s b n ≤ top := by
  unfold amO at h
  split at h
  · cases h
  · rename_i nn
    have l0 := (shO_tv (am0_tv v) h).2.lies l
    cases p with
    | no q =>
      rw [val_const q]
      have e := gr_const (B := t.1) (s := fun c => -s c) (n := n) (fun c h1 h2 => by rw [q c h1 h2]; rfl)
      unfold amN at nn
      rw [e] at nn
      have nn : ¬ decide (top < - -s 0) = true := nn
      rw [decide_eq_true_eq] at nn
      omega
    | one i h1 h2 h3 q =>
      rw [val_one h1 h2 q]
      have e := gr_const (B := t.1) (s := amE s i) (n := n) (fun c k1 k2 => by
        show un i c * s i - s c = 0
        by_cases z : c = i
        · rw [z, un_at (by omega)]; omega
        · rw [un_ne z, q c k1 k2 z]; omega)
      have e0 : amE s i 0 = -s 0 := by show un i 0 * s i - s 0 = _; rw [un_00]; omega
      rw [e0] at e
      by_cases ps : 0 < s i
      · have eb : am2 n t.1 s top i 0 = oMin (am1 n t.1 s top i 0) (some ((-s 0 + top).fdiv (s i))) := by
          unfold am2; rw [if_pos ⟨rfl, h1, ps⟩, e]; rfl
        obtain ⟨y, hy, ly⟩ := oMin_r (am1 n t.1 s top i 0) (some ((-s 0 + top).fdiv (s i))) _ rfl
        rw [← eb] at hy
        have := l0.b.b i 0 y h2 (by omega) hy
        rw [fl_0] at this
        have := fdiv_le (a := fl b i) (b := -s 0 + top) ps (by omega)
        rw [Int.mul_comm]
        omega
      · have eb : am2 n t.1 s top 0 i = oMin (am1 n t.1 s top 0 i) (some ((-s 0 + top).fdiv (-s i))) := by
          unfold am2; rw [if_neg (by omega), if_pos ⟨rfl, h1, by omega⟩, e]; rfl
        obtain ⟨y, hy, ly⟩ := oMin_r (am1 n t.1 s top 0 i) (some ((-s 0 + top).fdiv (-s i))) _ rfl
        rw [← eb] at hy
        have := l0.b.b 0 i y (by omega) h2 hy
        rw [fl_0] at this
        have := fdiv_le (a := -fl b i) (b := -s 0 + top) (c := -s i) (by omega) (by omega)
        rw [Int.neg_mul_neg, Int.mul_comm] at this
        omega
    | two i j hi hj si sj q =>
      rw [val_two hi hj si sj q]
      have ne : i ≠ j := fun e => by rw [e] at si; omega
      have e := gr_const (B := t.1) (s := amD s i j) (n := n) (fun c k1 k2 => by
        show un i c - un j c - s c = 0
        by_cases z : c = i
        · rw [z, un_at (by omega), un_ne ne, si]; omega
        · by_cases w : c = j
          · rw [w, un_at (by omega), un_ne (fun e => ne e.symm), sj]; omega
          · rw [un_ne z, un_ne w, q c k1 k2 z w]; omega)
      have e0 : amD s i j 0 = -s 0 := by show un i 0 - un j 0 - s 0 = _; rw [un_00, un_00]; omega
      rw [e0] at e
      have eb : am2 n t.1 s top i j = oMin (t.1 i j) (some (-s 0 + top)) := by
        unfold am2; rw [if_neg (by omega), if_neg (by omega)]
        unfold am1; rw [if_neg ne, e]; rfl
      obtain ⟨y, hy, ly⟩ := oMin_r (t.1 i j) (some (-s 0 + top)) _ rfl
      rw [← eb] at hy
      have := l0.b.b i j y hi.2 hj.2 hy
      omega
theorem Pln.neg {n : Nat} {s : Sm} (p : Pln n s) : Pln n (fun c => -s c) := by
  cases p with
  | no q => exact .no fun c h1 h2 => by rw [q c h1 h2]; rfl
  | one i h1 h2 h3 q => exact .one i h1 h2 (by omega) fun c k1 k2 k3 => by rw [q c k1 k2 k3]; rfl
  | two i j hi hj si sj q => exact .two j i hj hi (by rw [sj]; rfl) (by rw [si]) fun c k1 k2 k3 k4 => by rw [q c k1 k2 k4 k3]; rfl
theorem seO_plain {n : Nat} {t u : Td} {s : Sm} {b : Nat → Int} (v : TV n t) (p : Pln n s) (h : seO n t s = some u) (l : Lies n u b) : val s b n = 0 := by
  unfold seO at h
  split at h
  · split at h
    · cases h
    · rename_i w hw
      cases h1 : amO n t s 0 with
      | none => rw [h1] at hw; cases hw
      | some x =>
        rw [h1] at hw
        obtain ⟨v1, i1⟩ := amO_tv v h1
        obtain ⟨v2, i2⟩ := amO_tv v1 hw
        obtain ⟨v3, i3⟩ := lfO_tv v2 h
        have lw := i3.lies l
        have lx := i2.lies lw
        have a := amO_plain v p h1 lx
        have c := amO_plain v1 p.neg hw lw
        rw [val_neg] at c
        omega
  · cases h
theorem unO_plain {n : Nat} {t u : Td} {s : Sm} {b : Nat → Int} (v : TV n t) (q : ∀ c, 1 ≤ c → c ≤ n → s c = 0) (h : unO n t s = some u) (l : Lies n u b) : val s b n ≠ 0 := fun z => by
  unfold unO at h
  split at h
  · cases h
  · rename_i w hw
    obtain ⟨v1, i1⟩ := unH_tv v hw
    obtain ⟨v2, i2⟩ := unH_tv v1 h
    have lw := i2.lies l
    rw [val_const q] at z
    unfold unH at hw
    rw [gr_const q, z] at hw
    simp only [Int.le_refl, if_true] at hw
    have := amO_plain v (.no q) hw lw
    rw [val_const q] at this
    omega
theorem sr_const {n : Nat} {R : Rs2} {s : Sm} (q : ∀ c, 1 ≤ c → c ≤ n → s c = 0) : sr n R s = (0, s 0) := by
  have e : ∀ i, i ≤ n → srM R s i = 0 ∧ srR R s i = s 0 := fun i hi => by
    induction i with
    | zero => exact ⟨rfl, rfl⟩
    | succ i ih =>
      obtain ⟨a, b⟩ := ih (by omega)
      rw [srM, srR, a, b, q (i + 1) (by omega) hi]
      simp
  unfold sr
  rw [srF_eq, (e n (Nat.le_refl n)).1, (e n (Nat.le_refl n)).2]
  show ((0 : Int), rmod 0 (s 0)) = (0, s 0)
  rw [rmod_0]
theorem oth_const {n i : Nat} {s : Sm} (h : ∀ c, 1 ≤ c → c ≤ n → c ≠ i → s c = 0) : ∀ c, 1 ≤ c → c ≤ n → oth s i c = 0 := fun c k1 k2 => by
  unfold oth
  split
  · rfl
  · rename_i q; exact h c k1 k2 q
/-- even, by no box or by one box or its negative -/
inductive Pl1 (n : Nat) (s : Sm) : Prop where
  | no (h : ∀ c, 1 ≤ c → c ≤ n → s c = 0)
  | one (i : Nat) (hi : i < n) (h3 : s (i + 1) = 1 ∨ s (i + 1) = -1) (h : ∀ c, 1 ≤ c → c ≤ n → c ≠ i + 1 → s c = 0)
theorem evO_plain {n : Nat} {t u : Td} {s : Sm} {d : Int} {b : Nat → Int} (v : TV n t) (hd : 0 < d) (p : Pl1 n s) (h : evO' n t s d = some u) (l : Lies n u b) : d ∣ val s b n := by
  have gd : ((Int.gcd 0 d : Nat) : Int) = d := by rw [Int.gcd_zero_left]; omega
  unfold evO' at h
  split at h
  · rename_i c
    cases p with
    | no q =>
      rw [sr_const q] at c
      rw [val_const q]
      have c : (s 0).fmod (Int.gcd 0 d) = 0 := c
      rw [gd, fmod0] at c
      exact c
    | one i hi h3 q =>
      unfold lfO at h
      split at h
      · cases h
      · rename_i R hR
        have vR : TV n (t.1, R) := ⟨v.d, rlO_v v.v hR⟩
        have l0 := (shO_tv vR h).2.lies l
        have e := allO_some hR hi
        unfold rlE at e
        rw [if_pos h3] at e
        have m := (RI.met_r e).has (l0.r i hi)
        unfold rlP at m
        rw [has_mk, sr_const (oth_const q)] at m
        have o0 : oth s (i + 1) 0 = s 0 := by unfold oth; rw [if_neg (by omega)]
        rw [o0] at m
        have m : ((Int.gcd 0 d : Nat) : Int) ∣ b i - -(s (i + 1)) * s 0 := m
        rw [gd] at m
        rw [val_one (i := i + 1) (by omega) (by omega) q, fl_1]
        rcases h3 with k | k
        · rw [k] at m ⊢
          have e2 : b i - -1 * s 0 = s 0 + 1 * b i := by omega
          rwa [e2] at m
        · rw [k] at m ⊢
          have m2 := Int.dvd_neg.mpr m
          have e2 : -(b i - - -1 * s 0) = s 0 + -1 * b i := by omega
          rwa [e2] at m2
  · cases h
theorem odO_1 {n : Nat} {t : Td} {s : Sm} : odO n t s 1 = none := by
  unfold odO
  rw [if_pos ⟨by rw [fmod0]; exact Int.one_dvd _, by rw [fmod0]; exact Int.one_dvd _⟩]
theorem odO_no {n : Nat} {t u : Td} {s : Sm} {d : Int} {b : Nat → Int} (q : ∀ c, 1 ≤ c → c ≤ n → s c = 0) (h : odO n t s d = some u) : ¬ d ∣ val s b n := fun z => by
  rw [val_const q] at z
  unfold odO at h
  rw [sr_const q, if_pos ⟨by rw [fmod0]; exact Int.dvd_zero _, by rw [fmod0]; exact z⟩] at h
  cases h
theorem odO_2 {n : Nat} {t u : Td} {s : Sm} {b : Nat → Int} (v : TV n t) (p : Pl1 n s) (h : odO n t s 2 = some u) (l : Lies n u b) : ¬ 2 ∣ val s b n := fun z => by
  unfold odO at h
  split at h
  · cases h
  · rw [if_pos rfl] at h
    have p2 : Pl1 n (up s 0 (s 0 + 1)) := by
      cases p with
      | no q => exact .no fun c h1 h2 => by unfold up; rw [if_neg (by omega)]; exact q c h1 h2
      | one i hi h3 q => exact .one i hi (by unfold up; rw [if_neg (by omega)]; exact h3) fun c k1 k2 k3 => by unfold up; rw [if_neg (by omega)]; exact q c k1 k2 k3
    have := evO_plain v (by decide) p2 h l
    rw [val_up0] at this
    omega
end Sr
set_option Elab.async false
set_option linter.all false
set_option maxRecDepth 100000
set_option maxHeartbeats 4000000
/-! # Sr: the law's own holds, run -/
namespace Sr
open PySem PySem.Spec PyProof.Rows L2
variable {m : Nat}
section
variable {n : Nat} {s : Sm} {b : Nat → Int} {d : Int}
@[simp] theorem clU_0 {o : Bool} : atD (clU o n s) 0 = some (.str "under") := by simp [clU]
@[simp] theorem clS_0 {o : Bool} : atD (clS o n s) 0 = some (.str "same") := by simp [clS]
@[simp] theorem clE_0 {o : Bool} : atD (clE o n s d) 0 = some (.str "even") := by simp [clE]
@[simp] theorem clE_2 {o : Bool} : atD (clE o n s d) 2 = some (.int d) := by simp [clE]
theorem run_lholdsU (hn : n ≤ 1000) (hs : ∀ i, 1 ≤ i → i ≤ n → (s i).natAbs < 2 ^ 39) : runDf (fnsN P (m + 1)) d__law_holds_7701 [clU false n s, intF false n b] = some (.bl (decide (val s b n < 0)), [none, none]) := by
  refine run_of rfl ?_
  have rv := fun Φ => run_lvalue Φ (n := n) (s := s) (b := b) hn (fun i hi => mulOk_l (by have := hs (i + 1) (by omega) (by omega); omega))
  simp [d__law_holds_7701, rv]
theorem run_lholdsS (hn : n ≤ 1000) (hs : ∀ i, 1 ≤ i → i ≤ n → (s i).natAbs < 2 ^ 39) : runDf (fnsN P (m + 1)) d__law_holds_7701 [clS false n s, intF false n b] = some (.bl (decide (val s b n = 0)), [none, none]) := by
  refine run_of rfl ?_
  have rv := fun Φ => run_lvalue Φ (n := n) (s := s) (b := b) hn (fun i hi => mulOk_l (by have := hs (i + 1) (by omega) (by omega); omega))
  have ne : ¬ (("same" : Str) = ("under" : Str)) := by decide
  simp [d__law_holds_7701, rv, ne]
theorem run_lholdsE (hd : 0 < d) (hn : n ≤ 1000) (hs : ∀ i, 1 ≤ i → i ≤ n → (s i).natAbs < 2 ^ 39) : runDf (fnsN P (m + 1)) d__law_holds_7701 [clE false n s d, intF false n b] = some (.bl (decide (d ∣ val s b n)), [none, none]) := by
  refine run_of rfl ?_
  have rv := fun Φ => run_lvalue Φ (n := n) (s := s) (b := b) hn (fun i hi => mulOk_l (by have := hs (i + 1) (by omega) (by omega); omega))
  have ne : ¬ (("even" : Str) = ("under" : Str)) := by decide
  have ne2 : ¬ (("even" : Str) = ("same" : Str)) := by decide
  have z : ¬ d = 0 := by omega
  have e : decide ((val s b n).fmod d = 0) = decide (d ∣ val s b n) := by simp [fmod0]
  by_cases c : d ∣ val s b n
  · have c2 := fmod0.mpr c
    simp [d__law_holds_7701, rv, ne, ne2, z, c, c2]
  · have c2 : ¬ (val s b n).fmod d = 0 := fun q => c (fmod0.mp q)
    simp [d__law_holds_7701, rv, ne, ne2, z, c, c2]
end
end Sr
set_option Elab.async false
set_option linter.all false
set_option maxRecDepth 100000
set_option maxHeartbeats 4000000
/-! # Sr: the law's plain claims, its asking -/
namespace Sr
open PySem PySem.Spec PyProof.Rows L2
variable {m : Nat}
/-- the numbers of a sum that are not nought -/
def nzv (n : Nat) (s : Sm) : List Int := (nz n nzr s).map s
theorem nzv_len {n : Nat} {s : Sm} : (nzv n s).length ≤ n := by
  unfold nzv nz
  rw [List.length_map]
  refine Nat.le_trans (List.length_filter_le _ _) ?_
  simp
theorem lc_nzv {Φ : Fs} {e : Env} {i n : Nat} {s : Sm} {Q : List D → Env → Prop} (h : ∀ d : D, Env.at (e.set i (some d)) i = some d) (hk : e.set i none = e) (q : Q ((nzv n s).map D.int) e) : sat (loopC (lcF Φ [i] (.ne (.v i) (.int 0)) (.v i)) (mk n fun j => .int (s (j + 1))) e []) Q := by
  rw [loopC_fm (g := fun d => match d with | .int z => if z = 0 then none else some d | _ => none) (by
    intro x hx
    unfold mk at hx
    obtain ⟨k, hk2, rfl⟩ := List.mem_map.mp hx
    apply eq_of_sat
    rw [sat_lcF]
    by_cases c : s (k + 1) = 0
    · simp [h, c, hk]
    · simp [h, c, hk])]
  have e1 : (mk n fun k => D.int (s (k + 1))).filterMap (fun d => match d with | .int z => if z = 0 then none else some d | _ => none) = (nzv n s).map D.int := by
    unfold mk nzv nz
    generalize List.range n = l
    induction l with
    | nil => rfl
    | cons a r ih =>
      rw [List.map_cons, List.map_cons, List.filterMap_cons]
      by_cases c : s (a + 1) = 0
      · have p : ¬ nzr (s (a + 1)) = true := by simp [nzr, c]
        simp only [c, if_true]
        rw [List.filter_cons, if_neg p, ih]
      · have p : nzr (s (a + 1)) = true := by simp [nzr, c]
        simp only [c, if_false]
        rw [List.filter_cons, if_pos p, List.map_cons, List.map_cons, ih]
  simp only [List.nil_append, e1, sat_some]
  exact q
theorem eqv_intsL {o o' : Bool} : ∀ {xs ys : List Int}, eqv (.lst o (xs.map D.int)) (.lst o' (ys.map D.int)) = decide (xs = ys)
  | [], [] => by simp
  | [], y :: ys => by unfold eqv; rw [D.py, D.py, PyData.eqv, List.map_cons, pyL, List.map_nil, pyL, PyData.eqvAll] <;> simp
  | x :: xs, [] => by unfold eqv; rw [D.py, D.py, PyData.eqv, List.map_cons, pyL, List.map_nil, pyL, PyData.eqvAll] <;> simp
  | x :: xs, y :: ys => by
    rw [List.map_cons, List.map_cons, eqv_l, eqv_intsL (xs := xs) (ys := ys)]
    simp
theorem toInts_map : ∀ {l : List Int}, toInts (l.map D.int) = some l
  | [] => rfl
  | x :: l => by
    rw [List.map_cons, toInts, toInts_map (l := l)]
theorem srtD_ints {l : List Int} (h : l.length < 64) : srtD (l.map D.int) = some (.lst true ((sortI l).map D.int)) := by
  unfold srtD
  rw [toInts_map]
  simp only
  rw [if_pos h]
@[simp] theorem ints_un {l : List Int} : (D.lst false (l.map D.int)).un = true := by simp
section
variable {n : Nat} {s : Sm} {d : Int}
def pl12 (l : List Int) : Prop := l.length = 1 ∨ sortI l = [-1, 1]
theorem nzv_nil {n : Nat} {s : Sm} (h : (nzv n s).length = 0) : ∀ c, 1 ≤ c → c ≤ n → s c = 0 := fun c h1 h2 => by
  have e : nz n nzr s = [] := by
    unfold nzv at h
    rw [List.length_map] at h
    exact List.length_eq_zero_iff.mp h
  by_cases z : s c = 0
  · exact z
  · have : c ∈ nz n nzr s := nz_mem.mpr ⟨⟨h1, h2⟩, by simp [nzr, z]⟩
    rw [e] at this; cases this
theorem nzv_one {n : Nat} {s : Sm} (h : (nzv n s).length = 1) : ∃ i, (1 ≤ i ∧ i ≤ n) ∧ s i ≠ 0 ∧ nzv n s = [s i] ∧ ∀ c, 1 ≤ c → c ≤ n → c ≠ i → s c = 0 := by
  unfold nzv at h ⊢
  rw [List.length_map] at h
  obtain ⟨i, hi⟩ := List.length_eq_one_iff.mp h
  have hm : i ∈ nz n nzr s := by rw [hi]; simp
  obtain ⟨g1, g2⟩ := nz_mem.mp hm
  refine ⟨i, g1, by simpa [nzr] using g2, by rw [hi]; rfl, fun c h1 h2 h3 => ?_⟩
  by_cases z : s c = 0
  · exact z
  · have : c ∈ nz n nzr s := nz_mem.mpr ⟨⟨h1, h2⟩, by simp [nzr, z]⟩
    rw [hi] at this
    simp at this
    exact absurd this h3
theorem pln_of {n : Nat} {s : Sm} (h : (nzv n s).length = 0 ∨ pl12 (nzv n s)) : Pln n s := by
  rcases h with h | h | h
  · exact .no (nzv_nil h)
  · obtain ⟨i, g1, g2, _, g3⟩ := nzv_one h
    exact .one i g1.1 g1.2 g2 g3
  · have p := sortI_perm (l := nzv n s)
    rw [h] at p
    have hl : (nzv n s).length = 2 := p.length_eq.symm
    unfold nzv at hl p
    rw [List.length_map] at hl
    obtain ⟨i, j, hij⟩ : ∃ i j, nz n nzr s = [i, j] := by
      match hz : nz n nzr s, hl with
      | [a, b], _ => exact ⟨a, b, rfl⟩
      | [], hl => simp at hl
      | [_], hl => simp at hl
      | _ :: _ :: _ :: _, hl => simp at hl
    have hi := nz_mem.mp (show i ∈ nz n nzr s by rw [hij]; simp)
    have hj := nz_mem.mp (show j ∈ nz n nzr s by rw [hij]; simp)
    have hz : ∀ c, 1 ≤ c → c ≤ n → c ≠ i → c ≠ j → s c = 0 := fun c h1 h2 h3 h4 => by
      by_cases z : s c = 0
      · exact z
      · have : c ∈ nz n nzr s := nz_mem.mpr ⟨⟨h1, h2⟩, by simp [nzr, z]⟩
        rw [hij] at this
        simp at this
        omega
    rw [hij] at p
    have m1 : s i = -1 ∨ s i = 1 := by
      have : s i ∈ [(-1 : Int), 1] := p.mem_iff.mpr (by simp)
      simpa using this
    have m2 : (-1 : Int) ∈ [s i, s j] := p.mem_iff.mp (by simp)
    have m3 : (1 : Int) ∈ [s i, s j] := p.mem_iff.mp (by simp)
    simp at m2 m3
    rcases m1 with m1 | m1
    · exact .two j i hj.1 hi.1 (by omega) m1 fun c h1 h2 h3 h4 => hz c h1 h2 h4 h3
    · exact .two i j hi.1 hj.1 m1 (by omega) hz
theorem natAbs_1 {x : Int} : (if x < 0 then -x else x) = 1 ↔ x = 1 ∨ x = -1 := by split <;> omega
theorem run_lplainU (b : Bool) (hn : n ≤ 50) (Φ : Fs) : runDf Φ d__law_plain_01db [clU false n s, .bl b] = some (.bl (dB ((nzv n s).length = 0 ∨ pl12 (nzv n s))), [none, none]) := by
  refine run_of rfl ?_
  have hl := nzv_len (n := n) (s := s)
  have ne : ¬ (("under" : Str) = ("even" : Str)) := by decide
  have ne2 : ¬ (("under" : Str) = ("same" : Str)) := by decide
  simp only [d__law_plain_01db]
  refine sat_cut (fun e => e = [some (clU false n s), some (.bl b), some (.lst false ((nzv n s).map D.int)), none]) ?_ ?_
  · simp [sat_lc, sl_tail]
    refine lc_nzv (by intro d; rfl) rfl ?_
    simp
  rintro e rfl
  have sd := srtD_ints (l := nzv n s) (by omega)
  by_cases c : (nzv n s).length = 0
  · simp [c, dB]
  · by_cases c1 : (nzv n s).length = 1
    · simp [c1, dB, ne, ne2, pl12]
    · have ci : ¬ ((nzv n s).length : Int) = 0 := by omega
      have ci1 : ¬ ((nzv n s).length : Int) = 1 := by omega
      have q := eqv_intsL (o := true) (o' := true) (xs := sortI (nzv n s)) (ys := [-1, 1])
      simp only [List.map_cons, List.map_nil] at q
      simp [c, c1, ne, ne2, ci, ci1, sd, q, pl12, dB]
theorem run_lplainS (b : Bool) (hn : n ≤ 50) (Φ : Fs) : runDf Φ d__law_plain_01db [clS false n s, .bl b] = some (.bl (dB ((nzv n s).length = 0 ∨ (b = true ∧ pl12 (nzv n s)))), [none, none]) := by
  refine run_of rfl ?_
  have hl := nzv_len (n := n) (s := s)
  have ne : ¬ (("same" : Str) = ("even" : Str)) := by decide
  simp only [d__law_plain_01db]
  refine sat_cut (fun e => e = [some (clS false n s), some (.bl b), some (.lst false ((nzv n s).map D.int)), none]) ?_ ?_
  · simp [sat_lc, sl_tail]
    refine lc_nzv (by intro d; rfl) rfl ?_
    simp
  rintro e rfl
  have sd := srtD_ints (l := nzv n s) (by omega)
  by_cases c : (nzv n s).length = 0
  · simp [c, dB]
  · have ci : ¬ ((nzv n s).length : Int) = 0 := by omega
    cases b
    · simp [c, ci, dB, ne]
    · by_cases c1 : (nzv n s).length = 1
      · simp [c1, dB, ne, pl12]
      · have ci1 : ¬ ((nzv n s).length : Int) = 1 := by omega
        have q := eqv_intsL (o := true) (o' := true) (xs := sortI (nzv n s)) (ys := [-1, 1])
        simp only [List.map_cons, List.map_nil] at q
        simp [c, c1, ne, ci, ci1, sd, q, pl12, dB]
theorem run_lplainE (b : Bool) (hn : n ≤ 50) (Φ : Fs) : runDf Φ d__law_plain_01db [clE false n s d, .bl b] = some (.bl (dB ((nzv n s).length = 0 ∨ (b = false ∧ d = 1) ∨ ((b = true ∨ d = 2) ∧ ∃ i, (1 ≤ i ∧ i ≤ n) ∧ (s i = 1 ∨ s i = -1) ∧ ∀ c, 1 ≤ c → c ≤ n → c ≠ i → s c = 0))), [none, none]) := by
  refine run_of rfl ?_
  have hl := nzv_len (n := n) (s := s)
  simp only [d__law_plain_01db]
  refine sat_cut (fun e => e = [some (clE false n s d), some (.bl b), some (.lst false ((nzv n s).map D.int)), none]) ?_ ?_
  · simp [sat_lc, sl_tail]
    refine lc_nzv (by intro d; rfl) rfl ?_
    simp
  rintro e rfl
  by_cases c : (nzv n s).length = 0
  · simp [c, dB]
  · have ci : ¬ ((nzv n s).length : Int) = 0 := by omega
    have key : (∃ i, (1 ≤ i ∧ i ≤ n) ∧ (s i = 1 ∨ s i = -1) ∧ ∀ c, 1 ≤ c → c ≤ n → c ≠ i → s c = 0) ↔ ∃ x, nzv n s = [x] ∧ (x = 1 ∨ x = -1) := by
      constructor
      · rintro ⟨i, hi, h1, h2⟩
        refine ⟨s i, ?_, h1⟩
        unfold nzv
        rw [nz_one hi.1 hi.2 (by simp [nzr]; omega) (fun c k1 k2 k3 => by simp [nzr, h2 c k1 k2 k3])]
        rfl
      · rintro ⟨x, hx, h1⟩
        obtain ⟨i, g1, g2, g3, g4⟩ := nzv_one (by rw [hx]; rfl)
        rw [g3] at hx
        cases hx
        exact ⟨i, g1, h1, g4⟩
    rw [dB_congr (q := ((b = false ∧ d = 1) ∨ ((b = true ∨ d = 2) ∧ ∃ x, nzv n s = [x] ∧ (x = 1 ∨ x = -1)))) (by rw [key]; simp [c])]
    match hz : nzv n s, c with
    | [], c => simp at c
    | [x], _ =>
      have na := natAbs_1 (x := x)
      cases b
      · by_cases d1 : d = 1
        · simp [d1, dB]
        · by_cases d2 : d = 2
          · simp [d2, dB, na]
          · simp [d1, d2, dB]
      · simp [dB, na]
    | x :: y :: r, _ =>
      have l1 : ¬ ((r.length : Int) + 1 + 1 = 0) := by omega
      have l2 : ¬ ((r.length : Int) + 1 + 1 = 1) := by omega
      cases b
      · by_cases d1 : d = 1
        · simp [d1, dB, l1, l2]
        · by_cases d2 : d = 2
          · simp [d2, dB, l1, l2]
          · simp [d1, d2, dB, l1, l2]
      · simp [dB, l1, l2]
theorem run_lasked {t : Td} {F : Option Td} {b : Nat → Int} {c : D} {hB pB tr : Bool} (hn : n ≤ 50) (tv : TV n t) (tvF : ∀ u, F = some u → TV n u)
    (rH : ∀ m, runDf (fnsN P (m + 1)) d__law_holds_7701 [c, intF false n b] = some (.bl hB, [none, none])) (rP : ∀ Φ, runDf Φ d__law_plain_01db [c, .bl tr] = some (.bl pB, [none, none])) (cu : c.un = true) (cs : c.shr = c)
    (A : hB = tr → Lies n t b → ∃ u, F = some u ∧ Lies n u b) (B : hB ≠ tr → pB = true → ∀ u, F = some u → ¬ Lies n u b) :
    runDf (fnsN P (m + 2)) d__law_asked_182b [tdF false n t, c, .bl tr, intF false n b, toF false n F] = some (.bl true, [none, none, none, none, none]) := by
  refine run_of rfl ?_
  have r1 := fun Φ => run_llies (Φ := Φ) (n := n) (t := t) (b := b) (by omega) tv.v
  have r2 : ∀ Φ, runDf Φ d__law_lies_38ce [toF false n F, intF false n b] = some (.bl (dB (∃ u, F = some u ∧ Lies n u b)), [none, none]) := fun Φ => by
    cases hF : F with
    | none =>
      rw [toF_none, run_llies_none, dB_f (fun ⟨u, h, _⟩ => by cases h)]
    | some u =>
      rw [toF_some, run_llies (by omega) (tvF u hF).v, dB_congr (q := ∃ v, some u = some v ∧ Lies n v b)]
      exact ⟨fun h => ⟨u, rfl, h⟩, fun ⟨v, h, l⟩ => by cases h; exact l⟩
  obtain ⟨q, hq⟩ : ∃ q, q = dB (∃ u, F = some u ∧ Lies n u b) := ⟨_, rfl⟩
  rw [← hq] at r2
  by_cases c0 : hB = tr
  · by_cases l : Lies n t b
    · have a := A c0 l
      rw [dB_t a] at hq
      simp [d__law_asked_182b, rH, rP, r1, r2, cu, cs, c0, dB_t l, hq]
    · simp [d__law_asked_182b, rH, rP, r1, r2, cu, cs, c0, dB_f l]
  · cases pB
    · simp [d__law_asked_182b, rH, rP, r1, r2, cu, cs, c0]
    · have b0 := B c0 rfl
      have b1 : ¬ ∃ u, F = some u ∧ Lies n u b := fun ⟨u, h, l⟩ => b0 u h l
      rw [dB_f b1] at hq
      simp [d__law_asked_182b, rH, rP, r1, r2, cu, cs, c0, hq]
end
end Sr
set_option Elab.async false
set_option linter.all false
set_option maxRecDepth 100000
set_option maxHeartbeats 4000000
namespace Sr
open PySem PySem.Spec PyProof.Rows L2
variable {m : Nat}
theorem run_lclaim47 (ns : List Int) (hb : ∀ z ∈ ns, Builtin.Int.intBits z ≤ 1048576) {n : Nat} {b : Nat → Int} (hn : n ≤ 4) (bb : ∀ i, i < n → (b i).natAbs ≤ 10 ^ 40) : ∃ (c : D) (v : Sm), (∀ m, runDf (fnsN P (m + 3)) d__law_claim_468c [.lst false (ns.map D.int), intF false n b] = some (c, [none, none])) ∧ (∀ i, 1 ≤ i → i ≤ n → (v i).natAbs < 2 ^ 39) ∧ bits (v 0) ≤ 2202 ∧ (c = clU false n v ∨ c = clS false n v ∨ ∃ d : Int, 0 < d ∧ bits d ≤ 140 ∧ c = clE false n v d) := by
  have rsm := fun m => run_lsum (m := m) ns hb 8 (n := n) (by decide) (by decide) (by omega)
  obtain ⟨u, hu⟩ : ∃ u, u = lsm ns 8 n := ⟨_, rfl⟩
  rw [← hu] at rsm
  have us : ∀ i, 1 ≤ i → i ≤ n → (u i).natAbs < 2 ^ 39 := fun i h1 h2 => by rw [hu]; have := lsm_lt (ns := ns) (k := 8) (n := n) h1; omega
  have u0 : (u 0).natAbs ≤ 10 ^ 40 := by rw [hu, lsm_0]; exact lnum_le ns 8
  have uv := val_lt (s := u) (b := b) u0 (n := n) us bb
  have rv := fun Φ => run_lvalue Φ (n := n) (s := u) (b := b) (by omega) (fun i hi => mulOk_l (by have := us (i + 1) (by omega) (by omega); omega))
  have uv2 : (val u b n).natAbs ≤ 10 ^ 40 + 4 * (2 ^ 39 * 10 ^ 40) := Nat.le_trans uv (Nat.add_le_add_left (Nat.mul_le_mul_right _ (by omega)) _)
  have hp6 := fun n => run_lpick (m := n) ns 6 5 (by decide) (by decide) (by decide)
  have g6 := pick_lt ns 6 (many := 5) (by decide)
  have hp7 := fun n => run_lpick (m := n) ns 7 4 (by decide) (by decide) (by decide)
  have hp13 := fun n => run_lpick (m := n) ns 13 12 (by decide) (by decide) (by decide)
  have hp1 := fun n => run_lpick (m := n) ns 1 4 (by decide) (by decide) (by decide)
  have g1 := pick_lt ns 1 (many := 4) (by decide)
  have hq1 := fun m => run_lnum (m := m) ns hb 1 (by decide) (by decide)
  have hln := lnum_le ns 1
  obtain ⟨v, hv⟩ : ∃ v : Sm, v = (if 0 < pick ns 7 4 then up u 0 (u 0 - val u b n + pick ns 6 5 - 2) else u) := ⟨_, rfl⟩
  have vs : ∀ i, 1 ≤ i → i ≤ n → (v i).natAbs < 2 ^ 39 := fun i h1 h2 => by
    rw [hv]
    split
    · unfold up; rw [if_neg (by omega)]; exact us i h1 h2
    · exact us i h1 h2
  have v0 : bits (v 0) ≤ 2202 := by
    rw [hv]
    split
    · rw [up_same]
      exact bits_le (bits_small (m := 200) (by omega)) (by decide)
    · exact bits_le (bits_small (m := 200) (by omega)) (by decide)
  obtain ⟨w, hw⟩ : ∃ w, w = pick ns 13 12 := ⟨_, rfl⟩
  rw [← hw] at hp13
  obtain ⟨d1, hd1⟩ : ∃ d1 : Int, d1 = if 1 < (if lnum ns 1 < 0 then -lnum ns 1 else lnum ns 1) then (if lnum ns 1 < 0 then -lnum ns 1 else lnum ns 1) else 1 := ⟨_, rfl⟩
  have d1p : 0 < d1 ∧ d1.natAbs ≤ 10 ^ 40 := by
    rw [hd1]
    split <;> split <;> omega
  have d1b : bits d1 ≤ 140 := bits_small (by omega)
  have d2b : bits (1 + pick ns 1 4) ≤ 140 := bits_small (by omega)
  obtain ⟨c, hc⟩ : ∃ c, c = if w.fmod 3 = 0 then clU false n v else if w.fmod 3 = 1 then clS false n v else if w = 2 then clE false n v d1 else clE false n v (1 + pick ns 1 4) := ⟨_, rfl⟩
  have i0 := intF_atN (o := true) (s := u) (show 0 < n + 1 by omega)
  simp at i0
  have pt := fun x => intF_put (n := n + 1) (s := u) (x := x) (z := 0) (by omega)
  simp at pt
  refine ⟨c, v, fun m => run_of rfl ?_, vs, v0, ?_⟩
  · simp only [d__law_claim_468c]
    refine sat_cut (fun e => e = [some (.lst false (ns.map D.int)), some (intF false n b), some (intF true (n + 1) u), none]) (by simp [rsm]) ?_
    rintro e rfl
    refine sat_cut (fun e => e = [some (.lst false (ns.map D.int)), some (intF false n b), some (intF true (n + 1) v), none]) ?_ ?_
    · by_cases c : 0 < pick ns 7 4
      · rw [if_pos c] at hv
        simp [hp7, c, rv, hp6, i0, pt, hv, agFz_var]
      · rw [if_neg c] at hv
        simp [hp7, c, hv]
    rintro e rfl
    refine sat_cut (fun e => e = [some (.lst false (ns.map D.int)), some (intF false n b), some (intF true (n + 1) v), some (.int w)]) (by simp [hp13]) ?_
    rintro e rfl
    by_cases c0 : w.fmod 3 = 0
    · rw [if_pos c0] at hc
      simp [c0, hc, clU]
    · rw [if_neg c0] at hc
      by_cases c1 : w.fmod 3 = 1
      · rw [if_pos c1] at hc
        simp [c1, hc, clS]
      · rw [if_neg c1] at hc
        by_cases c2 : w = 2
        · rw [if_pos c2] at hc
          subst c2
          simp at c0 c1
          simp [c0, c1, hq1, hc, clE, hd1]
        · rw [if_neg c2] at hc
          simp [c0, c1, c2, hp1, hc, clE]
  · rw [hc]
    split
    · exact .inl rfl
    · split
      · exact .inr (.inl rfl)
      · split
        · exact .inr (.inr ⟨d1, d1p.1, d1b, rfl⟩)
        · exact .inr (.inr ⟨_, by omega, d2b, rfl⟩)
/-- what a claim leaves is as the law asks -/
theorem when_all {L : Int} {n : Nat} {t : Td} {c : D} {v : Sm} (hn : n ≤ 4) (hL : 0 < L) (hbL : bits L ≤ 2200) (ok : Ok L 2200 n t) (vs : ∀ i, 1 ≤ i → i ≤ n → (v i).natAbs < 2 ^ 39) (v0 : bits (v 0) ≤ 2202) (hc : c = clU false n v ∨ c = clS false n v ∨ ∃ d : Int, 0 < d ∧ bits d ≤ 140 ∧ c = clE false n v d) (tr : Bool) :
    ∃ F : Option Td, (∀ m, runDf (fnsN P (m + 6)) d_when [tdF false n t, c, .bl tr] = some (toF true n F, [none, none, none])) ∧ (∀ u, F = some u → TV n u ∧ TI n u t) ∧
      ∀ b : Nat → Int, ∀ m, runDf (fnsN P (m + 2)) d__law_asked_182b [tdF false n t, c, .bl tr, intF false n b, toF false n F] = some (.bl true, [none, none, none, none, none]) := by
  have ok2 := ok.le (γ := 2202) (by decide)
  rcases hc with rfl | rfl | ⟨d, hd, hd2, rfl⟩
  · obtain ⟨F, hF⟩ : ∃ F, F = if tr = true then amO n t v (-1) else amO n t (fun i => -v i) 0 := ⟨_, rfl⟩
    have tvF : ∀ u, F = some u → TV n u ∧ TI n u t := fun u hu => by
      rw [hF] at hu
      split at hu <;> exact amO_tv ok.tv hu
    refine ⟨F, fun m => ?_, tvF, fun b m => ?_⟩
    · rw [hF]
      exact run_when_under (by omega) hL (show bits L ≤ 2202 by omega) ok2 vs v0 (by omega) tr
    · refine run_lasked (by omega) ok.tv (fun u hu => (tvF u hu).1) (fun m => run_lholdsU (by omega) vs) (fun Φ => run_lplainU tr (by omega) Φ) (by simp) (by simp) (fun h l => ?_) (fun h hp u hu l => ?_)
      · rw [hF]
        cases tr
        · have h := of_decide_eq_false h
          exact amO_lies ok.tv l (by rw [val_neg]; omega)
        · have h := of_decide_eq_true h
          exact amO_lies ok.tv l (by omega)
      · have p := pln_of (dB_iff.mp hp)
        rw [hF] at hu
        cases tr
        · have q := amO_plain ok.tv p.neg hu l
          rw [val_neg] at q
          exact h (decide_eq_false (by omega))
        · have q := amO_plain ok.tv p hu l
          exact h (decide_eq_true (by omega))
  · obtain ⟨F, hF⟩ : ∃ F, F = if tr = true then seO n t v else unO n t v := ⟨_, rfl⟩
    have tvF : ∀ u, F = some u → TV n u ∧ TI n u t := fun u hu => by
      rw [hF] at hu
      split at hu
      · exact seO_tv ok.tv hu
      · exact unO_tv ok.tv hu
    refine ⟨F, fun m => ?_, tvF, fun b m => ?_⟩
    · rw [hF]
      exact run_when_same (by omega) hL (show bits L ≤ 2202 by omega) ok2 vs v0 (by omega) tr
    · refine run_lasked (by omega) ok.tv (fun u hu => (tvF u hu).1) (fun m => run_lholdsS (by omega) vs) (fun Φ => run_lplainS tr (by omega) Φ) (by simp) (by simp) (fun h l => ?_) (fun h hp u hu l => ?_)
      · rw [hF]
        cases tr
        · have h := of_decide_eq_false h
          exact unO_lies ok.tv l h
        · have h := of_decide_eq_true h
          exact seO_lies ok.tv l h
      · have p := dB_iff.mp hp
        rw [hF] at hu
        cases tr
        · have z : (nzv n v).length = 0 := by simpa using p
          have q := unO_plain ok.tv (nzv_nil z) hu l
          exact h (decide_eq_false q)
        · have q := seO_plain ok.tv (pln_of (by simpa using p)) hu l
          exact h (decide_eq_true q)
  · obtain ⟨F, hF⟩ : ∃ F, F = if tr = true then evO' n t v d else odO n t v d := ⟨_, rfl⟩
    have tvF : ∀ u, F = some u → TV n u ∧ TI n u t := fun u hu => by
      rw [hF] at hu
      split at hu
      · exact evO_tv ok.tv hu
      · exact odO_tv ok.tv hu
    refine ⟨F, fun m => ?_, tvF, fun b m => ?_⟩
    · rw [hF]
      exact run_when_even (by omega) hL (show bits L ≤ 2202 by omega) ok2 vs v0 hd hd2 (by omega) tr
    · refine run_lasked (by omega) ok.tv (fun u hu => (tvF u hu).1) (fun m => run_lholdsE hd (by omega) vs) (fun Φ => run_lplainE tr (by omega) Φ) (by simp) (by simp) (fun h l => ?_) (fun h hp u hu l => ?_)
      · rw [hF]
        cases tr
        · have h := of_decide_eq_false h
          exact odO_lies ok.tv l h
        · have h := of_decide_eq_true h
          exact evO_lies ok.tv l h
      · have p := dB_iff.mp hp
        rw [hF] at hu
        cases tr
        · refine h (decide_eq_false ?_)
          rcases p with p | ⟨_, p⟩ | ⟨p0, i, hi, h1, h2⟩
          · exact odO_no (nzv_nil p) hu
          · subst p
            simp only [Bool.false_eq_true, if_false] at hu
            rw [odO_1] at hu; cases hu
          · simp at p0
            subst p0
            exact odO_2 ok.tv (.one (i - 1) (by omega) (by rwa [show i - 1 + 1 = i by omega]) (by rwa [show i - 1 + 1 = i by omega])) hu l
        · refine h (decide_eq_true ?_)
          rcases p with p | ⟨p, _⟩ | ⟨_, i, hi, h1, h2⟩
          · exact evO_plain ok.tv hd (.no (nzv_nil p)) hu l
          · cases p
          · exact evO_plain ok.tv hd (.one (i - 1) (by omega) (by rwa [show i - 1 + 1 = i by omega]) (by rwa [show i - 1 + 1 = i by omega])) hu l
theorem lawRun : ∀ ns : List Int, ns.length ≤ 63 → (∀ z ∈ ns, Builtin.Int.intBits z ≤ 1048576) → ∃ os, runDf (fnsN P 8) d_law [.lst false (ns.map D.int)] = some (.bl true, os) := by
  intro ns h63 hb
  have hbig : big = 1000000 := rfl
  refine ⟨[none], run_of rfl ?_⟩
  have g0 := pick_lt ns 0 (many := 9) (by decide)
  have hp0 := fun n => run_lpick (m := n) ns 0 9 (by decide) (by decide) (by decide)
  obtain ⟨n, ⟨hn0, hn1⟩, hat⟩ := at_lit2 [0, 1, 2, 1, 2, 1, 3, 2, 4] (lo := 0) (c := 4) g0 (by decide)
  obtain ⟨b, hbd⟩ : ∃ b : Nat → Int, b = fun (t : Nat) => lnum ns (2 + (t : Int)) := ⟨_, rfl⟩
  have bb : ∀ i, i < n → (b i).natAbs ≤ 10 ^ 40 := fun i _ => by rw [hbd]; exact lnum_le ns (2 + (i : Int))
  have hT := fun m => run_ltold (m := m) ns hb 14 (n := n) b (by decide) (by decide) (by omega)
  obtain ⟨L, hL, hbL, ok⟩ := ltd_ok ns 14 (n := n) (b := b) (fun i hi => by have := bb i hi; omega) (by omega)
  obtain ⟨T, hTd⟩ : ∃ T, T = ltd ns 14 n b := ⟨_, rfl⟩
  rw [← hTd] at hT ok
  obtain ⟨c, v, rc, vs, v0, hc⟩ := run_lclaim47 ns hb (n := n) (b := b) (by omega) bb
  have cu : c.un = true := by rcases hc with rfl | rfl | ⟨d, _, _, rfl⟩ <;> simp
  have cs : c.shr = c := by rcases hc with rfl | rfl | ⟨d, _, _, rfl⟩ <;> simp
  have cn : c.ns = false := by rcases hc with rfl | rfl | ⟨d, _, _, rfl⟩ <;> simp [clU, clS, clE]
  have hp44 := fun n => run_lpick (m := n) ns 44 5 (by decide) (by decide) (by decide)
  have rC := fun Φ => run_lcopy (Φ := Φ) (n := n) (t := T)
  obtain ⟨b2, hb2⟩ : ∃ b2 : Nat → Int, b2 = if 0 < n then up b (pick ns 43 n).toNat (b (pick ns 43 n).toNat + pick ns 44 5 - 2) else b := ⟨_, rfl⟩
  have l1 := lst_int (n := n) (s := b) (o := false)
  simp only [d_law]
  simp at hat
  refine sat_cut (fun e => e = [some (.lst false (ns.map D.int)), some (.int n), none, none, none, none, none, none, none, none, none]) (by simp [hp0, hat]) ?_
  rintro e rfl
  refine sat_cut (fun e => e = [some (.lst false (ns.map D.int)), some (.int n), some (intF false n b), none, none, none, none, none, none, none, none]) ?_ ?_
  · simp [sat_lc]
    refine ⟨by omega, ?_⟩
    refine draw_boxes hb (by decide) (by omega) rfl (by decide) (by simp) rfl ?_
    simp [hbd]
  rintro e rfl
  refine sat_cut (fun e => e = [some (.lst false (ns.map D.int)), some (.int n), some (intF false n b), some (tdF false n T), none, none, none, none, none, none, none]) (by simp [hT]) ?_
  rintro e rfl
  refine sat_cut (fun e => e = [some (.lst false (ns.map D.int)), some (.int n), some (intF false n b), some (tdF false n T), some (tdF false n T), none, none, none, none, none, none]) (by simp [rC]) ?_
  rintro e rfl
  refine sat_cut (fun e => e = [some (.lst false (ns.map D.int)), some (.int n), some (intF false n b), some (tdF false n T), some (tdF false n T), some c, none, none, none, none, none]) (by simp [rc, cs, cn, agFz_var]) ?_
  rintro e rfl
  refine sat_cut (fun e => e = [some (.lst false (ns.map D.int)), some (.int n), some (intF false n b), some (tdF false n T), some (tdF false n T), some c, some (intF true n b), none, none, none, none]) (by simp [l1]) ?_
  rintro e rfl
  refine sat_cut (fun e => ∃ o, e = [some (.lst false (ns.map D.int)), some (.int n), some (intF false n b), some (tdF false n T), some (tdF false n T), some c, some (intF true n b2), none, o, none, none]) ?_ ?_
  · by_cases c0 : 0 < n
    · rw [if_pos c0] at hb2
      have c1 : (0 : Int) < (n : Int) := by omega
      have g43 := pick_lt ns 43 (many := (n : Int)) c1
      have hp43 := fun m => run_lpick (m := m) ns 43 (n : Int) (by decide) (by decide) (by omega)
      have ia := intF_at (o := true) (n := n) (s := b) (z := pick ns 43 n) g43
      have pt := fun x => intF_put (n := n) (s := b) (x := x) (z := pick ns 43 n) g43
      simp [c0, hp43, hp44, ia, pt, hb2]
    · rw [if_neg c0] at hb2
      simp [c0, hb2]
  rintro e ⟨o, rfl⟩
  refine sat_cut (fun e => ∃ o o2, e = [some (.lst false (ns.map D.int)), some (.int n), some (intF false n b), some (tdF false n T), some (tdF false n T), some c, some (intF o2 n b2), none, o, none, none]) ?_ ?_
  · simp
    show sat (loopF _ _ (mk 2 fun k => .bl (decide (k = 0))) _) _
    refine for_mkI (fun _ e => ∃ o o2, e = [some (.lst false (ns.map D.int)), some (.int n), some (intF false n b), some (tdF false n T), some (tdF false n T), some c, some (intF o2 n b2), none, o, none, none]) ⟨o, true, rfl⟩ ?_ ?_
    · rintro k e hk ⟨o, o2, rfl⟩
      obtain ⟨F, rW, tvF, rA⟩ := when_all (by omega) hL hbL ok vs v0 hc (decide (k = 0))
      have rA1 := fun m => rA b m
      have rA2 := fun m => rA b2 m
      clear rA
      have rI : ∀ m, runDf (fnsN P (m + 1)) d__law_inside_5dab [toF false n F, tdF false n T] = some (.bl true, [none, none]) := fun m => by
        cases hF : F with
        | none => exact run_linside_0 (by simp) (by simp)
        | some u =>
          have q := tvF u hF
          rw [toF_some, run_linside (by omega) q.1.v ok.tv.v, dB_t q.2]
      have rS : ∀ u, F = some u → ∀ m, runDf (fnsN P (m + 2)) d__law_shape_824f [tdF false n u, .int (n : Int)] = some (.bl true, [none, none]) := fun u hu m => by
        have q := (tvF u hu).1
        exact run_lshape (by omega) q.d q.v
      generalize hg : decide (k = 0) = tr at *
      cases hF : F with
      | none =>
        rw [hF] at rW rA1 rA2 rI
        simp only [toF_none] at rW rA1 rA2 rI
        simp [rW, rA1, rA2, rI, cu, cs] <;> (cases o2 <;> simp [cu, cs, agFz_var, rA1, rA2])
      | some u =>
        have rS2 := rS u hF
        rw [hF] at rW rA1 rA2 rI
        simp only [toF_some] at rW rA1 rA2 rI
        simp [rW, rA1, rA2, rI, rS2, cu, cs] <;> (cases o2 <;> simp [cu, cs, agFz_var, rA1, rA2])
    · rintro e ⟨o, o2, rfl⟩
      simp <;> (cases o2 <;> simp)
  rintro e ⟨o, o2, rfl⟩
  simp
end Sr
set_option Elab.async false
set_option linter.all false
set_option maxRecDepth 100000
set_option maxHeartbeats 4000000
namespace Sr
open PySem PySem.Spec PyProof.Rows L2

/-! ### the text is that of the program -/
def top (i : Nat) : Stmt := PySem.Challenge.pw_seer_k47_claims_keep_boxes.main.body.getD i (.Pass ⟨0, 0, 0, 0⟩)
abbrev s_divisor : Stmt := top 4
abbrev s_rest : Stmt := top 6
abbrev s_rest_has : Stmt := top 7
abbrev s_inverse : Stmt := top 8
abbrev s_rest_met : Stmt := top 9
abbrev s_rest_plus : Stmt := top 10
abbrev s_rest_times : Stmt := top 11
abbrev s_rest_loosened : Stmt := top 12
abbrev s_rest_under : Stmt := top 13
abbrev s_box_sum : Stmt := top 15
abbrev s_sum_plus : Stmt := top 16
abbrev s_sum_times : Stmt := top 17
abbrev s_sum_rest : Stmt := top 18
abbrev s_closed : Stmt := top 20
abbrev s_fixed : Stmt := top 22
abbrev s_handed_over : Stmt := top 23
abbrev s_lowered : Stmt := top 24
abbrev s_sharp : Stmt := top 25
abbrev s_pair_of : Stmt := top 27
abbrev s_greatest : Stmt := top 28
abbrev s_least : Stmt := top 29
abbrev s_pull : Stmt := top 31
abbrev s_at_most : Stmt := top 32
abbrev s_rests_left : Stmt := top 33
abbrev s_same_left : Stmt := top 34
abbrev s_unlike_left : Stmt := top 35
abbrev s_even_left : Stmt := top 36
abbrev s_odd_left : Stmt := top 37
abbrev s_when : Stmt := top 38
abbrev s__law_mixed : Stmt := top 40
abbrev s__law_pick_0c7c : Stmt := top 41
abbrev s__law_number_56fb : Stmt := top 42
abbrev s__law_slack : Stmt := top 43
abbrev s__law_rest_of : Stmt := top 44
abbrev s__law_rest_f4ab : Stmt := top 45
abbrev s__law_told_2ac3 : Stmt := top 46
abbrev s__law_copy_13a6 : Stmt := top 47
abbrev s__law_lies_38ce : Stmt := top 48
abbrev s__law_whole_92eb : Stmt := top 49
abbrev s__law_grid : Stmt := top 50
abbrev s__law_shape_824f : Stmt := top 51
abbrev s__law_under : Stmt := top 52
abbrev s__law_rest_in : Stmt := top 53
abbrev s__law_inside_5dab : Stmt := top 54
abbrev s__law_sum_0da3 : Stmt := top 55
abbrev s__law_value_c4d8 : Stmt := top 56
abbrev s__law_holds_7701 : Stmt := top 57
abbrev s__law_plain_01db : Stmt := top 58
abbrev s__law_claim_468c : Stmt := top 59
abbrev s__law_asked_182b : Stmt := top 60
abbrev s_law : Stmt := top 61
def hasF (f : Nat) : Bool := [0, 36, 37, 43, 44, 51, 52, 55, 61, 63, 64, 65, 69, 182, 185, 186, 187, 188, 208, 209, 210, 226, 227, 228, 229, 230, 231, 232, 233, 154, 155, 156, 157, 158, 159, 160, 161, 162, 176, 177, 178, 170, 171, 172, 211, 212, 243, 244, 245, 246].contains f
theorem t_divisor : DefT ⟨["one", "other", "left", "right", "over"], fnm, hasF⟩ d_divisor ["one", "other"] s_divisor := ⟨⟨rfl, rfl, rfl, by decide +kernel, rfl, by decide +kernel, by decide +kernel⟩, by decide +kernel, rfl, rfl⟩
theorem t_rest : DefT ⟨["m", "r"], fnm, hasF⟩ d_rest ["m", "r"] s_rest := ⟨⟨rfl, rfl, rfl, by decide +kernel, rfl, by decide +kernel, by decide +kernel⟩, by decide +kernel, rfl, rfl⟩
theorem t_rest_has : DefT ⟨["one", "number"], fnm, hasF⟩ d_rest_has ["one", "number"] s_rest_has := ⟨⟨rfl, rfl, rfl, by decide +kernel, rfl, by decide +kernel, by decide +kernel⟩, by decide +kernel, rfl, rfl⟩
theorem t_inverse : DefT ⟨["one", "m", "before", "now", "held", "found", "many", "over"], fnm, hasF⟩ d_inverse ["one", "m"] s_inverse := ⟨⟨rfl, rfl, rfl, by decide +kernel, rfl, by decide +kernel, by decide +kernel⟩, by decide +kernel, rfl, rfl⟩
theorem t_rest_met : DefT ⟨["one", "other", "common", "apart", "steps"], fnm, hasF⟩ d_rest_met ["one", "other"] s_rest_met := ⟨⟨rfl, rfl, rfl, by decide +kernel, rfl, by decide +kernel, by decide +kernel⟩, by decide +kernel, rfl, rfl⟩
theorem t_rest_plus : DefT ⟨["one", "other"], fnm, hasF⟩ d_rest_plus ["one", "other"] s_rest_plus := ⟨⟨rfl, rfl, rfl, by decide +kernel, rfl, by decide +kernel, by decide +kernel⟩, by decide +kernel, rfl, rfl⟩
theorem t_rest_times : DefT ⟨["one", "k"], fnm, hasF⟩ d_rest_times ["one", "k"] s_rest_times := ⟨⟨rfl, rfl, rfl, by decide +kernel, rfl, by decide +kernel, by decide +kernel⟩, by decide +kernel, rfl, rfl⟩
theorem t_rest_loosened : DefT ⟨["one", "k"], fnm, hasF⟩ d_rest_loosened ["one", "k"] s_rest_loosened := ⟨⟨rfl, rfl, rfl, by decide +kernel, rfl, by decide +kernel, by decide +kernel⟩, by decide +kernel, rfl, rfl⟩
theorem t_rest_under : DefT ⟨["one", "top"], fnm, hasF⟩ d_rest_under ["one", "top"] s_rest_under := ⟨⟨rfl, rfl, rfl, by decide +kernel, rfl, by decide +kernel, by decide +kernel⟩, by decide +kernel, rfl, rfl⟩
theorem t_box_sum : DefT ⟨["i", "n", "found"], fnm, hasF⟩ d_box_sum ["i", "n"] s_box_sum := ⟨⟨rfl, rfl, rfl, by decide +kernel, rfl, by decide +kernel, by decide +kernel⟩, by decide +kernel, rfl, rfl⟩
theorem t_sum_plus : DefT ⟨["one", "other", "a", "b"], fnm, hasF⟩ d_sum_plus ["one", "other"] s_sum_plus := ⟨⟨rfl, rfl, rfl, by decide +kernel, rfl, by decide +kernel, by decide +kernel⟩, by decide +kernel, rfl, rfl⟩
theorem t_sum_times : DefT ⟨["one", "k", "a"], fnm, hasF⟩ d_sum_times ["one", "k"] s_sum_times := ⟨⟨rfl, rfl, rfl, by decide +kernel, rfl, by decide +kernel, by decide +kernel⟩, by decide +kernel, rfl, rfl⟩
theorem t_sum_rest : DefT ⟨["one", "rests", "found", "i"], fnm, hasF⟩ d_sum_rest ["one", "rests"] s_sum_rest := ⟨⟨rfl, rfl, rfl, by decide +kernel, rfl, by decide +kernel, by decide +kernel⟩, by decide +kernel, rfl, rfl⟩
theorem t_closed : DefT ⟨["bounds", "new", "mid", "i", "row", "j", "by"], fnm, hasF⟩ d_closed ["bounds"] s_closed := ⟨⟨rfl, rfl, rfl, by decide +kernel, rfl, by decide +kernel, by decide +kernel⟩, by decide +kernel, rfl, rfl⟩
theorem t_fixed : DefT ⟨["bounds", "i", "j", "there", "back"], fnm, hasF⟩ d_fixed ["bounds", "i", "j"] s_fixed := ⟨⟨rfl, rfl, rfl, by decide +kernel, rfl, by decide +kernel, by decide +kernel⟩, by decide +kernel, rfl, rfl⟩
theorem t_handed_over : DefT ⟨["bounds", "rests", "full", "new", "i", "mine", "j"], fnm, hasF⟩ d_handed_over ["bounds", "rests"] s_handed_over := ⟨⟨rfl, rfl, rfl, by decide +kernel, rfl, by decide +kernel, by decide +kernel⟩, by decide +kernel, rfl, rfl⟩
theorem t_lowered : DefT ⟨["bounds", "rests", "full", "new", "i", "j", "row", "apart"], fnm, hasF⟩ d_lowered ["bounds", "rests"] s_lowered := ⟨⟨rfl, rfl, rfl, by decide +kernel, rfl, by decide +kernel, by decide +kernel⟩, by decide +kernel, rfl, rfl⟩
theorem t_sharp : DefT ⟨["told", "bounds", "rests"], fnm, hasF⟩ d_sharp ["told"] s_sharp := ⟨⟨rfl, rfl, rfl, by decide +kernel, rfl, by decide +kernel, by decide +kernel⟩, by decide +kernel, rfl, rfl⟩
theorem t_pair_of : DefT ⟨["one", "some", "i"], fnm, hasF⟩ d_pair_of ["one"] s_pair_of := ⟨⟨rfl, rfl, rfl, by decide +kernel, rfl, by decide +kernel, by decide +kernel⟩, by decide +kernel, rfl, rfl⟩
theorem t_greatest : DefT ⟨["told", "one", "bounds", "pair", "found", "i", "apart", "end"], fnm, hasF⟩ d_greatest ["told", "one"] s_greatest := ⟨⟨rfl, rfl, rfl, by decide +kernel, rfl, by decide +kernel, by decide +kernel⟩, by decide +kernel, rfl, rfl⟩
theorem t_least : DefT ⟨["told", "one", "found"], fnm, hasF⟩ d_least ["told", "one"] s_least := ⟨⟨rfl, rfl, rfl, by decide +kernel, rfl, by decide +kernel, by decide +kernel⟩, by decide +kernel, rfl, rfl⟩
theorem t_pull : DefT ⟨["bounds", "i", "j", "top"], fnm, hasF⟩ d_pull ["bounds", "i", "j", "top"] s_pull := ⟨⟨rfl, rfl, rfl, by decide +kernel, rfl, by decide +kernel, by decide +kernel⟩, by decide +kernel, rfl, rfl⟩
theorem t_at_most : DefT ⟨["told", "one", "top", "bottom", "many", "away", "bounds", "i", "j", "k", "row", "most", "apart"], fnm, hasF⟩ d_at_most ["told", "one", "top"] s_at_most := ⟨⟨rfl, rfl, rfl, by decide +kernel, rfl, by decide +kernel, by decide +kernel⟩, by decide +kernel, rfl, rfl⟩
theorem t_rests_left : DefT ⟨["told", "one", "step", "rests", "new", "i", "mine", "k", "others", "left"], fnm, hasF⟩ d_rests_left ["told", "one", "step"] s_rests_left := ⟨⟨rfl, rfl, rfl, by decide +kernel, rfl, by decide +kernel, by decide +kernel⟩, by decide +kernel, rfl, rfl⟩
theorem t_same_left : DefT ⟨["told", "one", "held", "rests"], fnm, hasF⟩ d_same_left ["told", "one"] s_same_left := ⟨⟨rfl, rfl, rfl, by decide +kernel, rfl, by decide +kernel, by decide +kernel⟩, by decide +kernel, rfl, rfl⟩
theorem t_unlike_left : DefT ⟨["told", "one", "held", "most", "bottom", "row"], fnm, hasF⟩ d_unlike_left ["told", "one"] s_unlike_left := ⟨⟨rfl, rfl, rfl, by decide +kernel, rfl, by decide +kernel, by decide +kernel⟩, by decide +kernel, rfl, rfl⟩
theorem t_even_left : DefT ⟨["told", "one", "step", "kept", "rests"], fnm, hasF⟩ d_even_left ["told", "one", "step"] s_even_left := ⟨⟨rfl, rfl, rfl, by decide +kernel, rfl, by decide +kernel, by decide +kernel⟩, by decide +kernel, rfl, rfl⟩
theorem t_odd_left : DefT ⟨["told", "one", "step", "kept", "row"], fnm, hasF⟩ d_odd_left ["told", "one", "step"] s_odd_left := ⟨⟨rfl, rfl, rfl, by decide +kernel, rfl, by decide +kernel, by decide +kernel⟩, by decide +kernel, rfl, rfl⟩
theorem t_when : DefT ⟨["told", "claim", "truth", "one"], fnm, hasF⟩ d_when ["told", "claim", "truth"] s_when := ⟨⟨rfl, rfl, rfl, by decide +kernel, rfl, by decide +kernel, by decide +kernel⟩, by decide +kernel, rfl, rfl⟩
theorem t__law_mixed : DefT ⟨["script", "k", "number"], fnm, hasF⟩ d__law_mixed ["script", "k"] s__law_mixed := ⟨⟨rfl, rfl, rfl, by decide +kernel, rfl, by decide +kernel, by decide +kernel⟩, by decide +kernel, rfl, rfl⟩
theorem t__law_pick_0c7c : DefT ⟨["script", "k", "many"], fnm, hasF⟩ d__law_pick_0c7c ["script", "k", "many"] s__law_pick_0c7c := ⟨⟨rfl, rfl, rfl, by decide +kernel, rfl, by decide +kernel, by decide +kernel⟩, by decide +kernel, rfl, rfl⟩
theorem t__law_number_56fb : DefT ⟨["script", "k", "number", "reach"], fnm, hasF⟩ d__law_number_56fb ["script", "k"] s__law_number_56fb := ⟨⟨rfl, rfl, rfl, by decide +kernel, rfl, by decide +kernel, by decide +kernel⟩, by decide +kernel, rfl, rfl⟩
theorem t__law_slack : DefT ⟨["script", "k", "way"], fnm, hasF⟩ d__law_slack ["script", "k"] s__law_slack := ⟨⟨rfl, rfl, rfl, by decide +kernel, rfl, by decide +kernel, by decide +kernel⟩, by decide +kernel, rfl, rfl⟩
theorem t__law_rest_of : DefT ⟨["m", "r"], fnm, hasF⟩ d__law_rest_of ["m", "r"] s__law_rest_of := ⟨⟨rfl, rfl, rfl, by decide +kernel, rfl, by decide +kernel, by decide +kernel⟩, by decide +kernel, rfl, rfl⟩
theorem t__law_rest_f4ab : DefT ⟨["script", "k", "number", "way"], fnm, hasF⟩ d__law_rest_f4ab ["script", "k", "number"] s__law_rest_f4ab := ⟨⟨rfl, rfl, rfl, by decide +kernel, rfl, by decide +kernel, by decide +kernel⟩, by decide +kernel, rfl, rfl⟩
theorem t__law_told_2ac3 : DefT ⟨["script", "k", "boxes", "full", "size", "bounds", "i", "row", "j", "top", "t"], fnm, hasF⟩ d__law_told_2ac3 ["script", "k", "boxes"] s__law_told_2ac3 := ⟨⟨rfl, rfl, rfl, by decide +kernel, rfl, by decide +kernel, by decide +kernel⟩, by decide +kernel, rfl, rfl⟩
theorem t__law_copy_13a6 : DefT ⟨["told", "row"], fnm, hasF⟩ d__law_copy_13a6 ["told"] s__law_copy_13a6 := ⟨⟨rfl, rfl, rfl, by decide +kernel, rfl, by decide +kernel, by decide +kernel⟩, by decide +kernel, rfl, rfl⟩
theorem t__law_lies_38ce : DefT ⟨["told", "boxes", "full", "i", "t", "j", "apart"], fnm, hasF⟩ d__law_lies_38ce ["told", "boxes"] s__law_lies_38ce := ⟨⟨rfl, rfl, rfl, by decide +kernel, rfl, by decide +kernel, by decide +kernel⟩, by decide +kernel, rfl, rfl⟩
theorem t__law_whole_92eb : DefT ⟨["thing"], fnm, hasF⟩ d__law_whole_92eb ["thing"] s__law_whole_92eb := ⟨⟨rfl, rfl, rfl, by decide +kernel, rfl, by decide +kernel, by decide +kernel⟩, by decide +kernel, rfl, rfl⟩
theorem t__law_grid : DefT ⟨["thing", "size", "i", "top"], fnm, hasF⟩ d__law_grid ["thing", "size"] s__law_grid := ⟨⟨rfl, rfl, rfl, by decide +kernel, rfl, by decide +kernel, by decide +kernel⟩, by decide +kernel, rfl, rfl⟩
theorem t__law_shape_824f : DefT ⟨["thing", "many", "pair"], fnm, hasF⟩ d__law_shape_824f ["thing", "many"] s__law_shape_824f := ⟨⟨rfl, rfl, rfl, by decide +kernel, rfl, by decide +kernel, by decide +kernel⟩, by decide +kernel, rfl, rfl⟩
theorem t__law_under : DefT ⟨["one", "other"], fnm, hasF⟩ d__law_under ["one", "other"] s__law_under := ⟨⟨rfl, rfl, rfl, by decide +kernel, rfl, by decide +kernel, by decide +kernel⟩, by decide +kernel, rfl, rfl⟩
theorem t__law_rest_in : DefT ⟨["one", "other"], fnm, hasF⟩ d__law_rest_in ["one", "other"] s__law_rest_in := ⟨⟨rfl, rfl, rfl, by decide +kernel, rfl, by decide +kernel, by decide +kernel⟩, by decide +kernel, rfl, rfl⟩
theorem t__law_inside_5dab : DefT ⟨["one", "other", "i", "t", "j"], fnm, hasF⟩ d__law_inside_5dab ["one", "other"] s__law_inside_5dab := ⟨⟨rfl, rfl, rfl, by decide +kernel, rfl, by decide +kernel, by decide +kernel⟩, by decide +kernel, rfl, rfl⟩
theorem t__law_sum_0da3 : DefT ⟨["script", "k", "many", "one", "way", "at", "to", "i"], fnm, hasF⟩ d__law_sum_0da3 ["script", "k", "many"] s__law_sum_0da3 := ⟨⟨rfl, rfl, rfl, by decide +kernel, rfl, by decide +kernel, by decide +kernel⟩, by decide +kernel, rfl, rfl⟩
theorem t__law_value_c4d8 : DefT ⟨["one", "boxes", "i"], fnm, hasF⟩ d__law_value_c4d8 ["one", "boxes"] s__law_value_c4d8 := ⟨⟨rfl, rfl, rfl, by decide +kernel, rfl, by decide +kernel, by decide +kernel⟩, by decide +kernel, rfl, rfl⟩
theorem t__law_holds_7701 : DefT ⟨["claim", "boxes", "number"], fnm, hasF⟩ d__law_holds_7701 ["claim", "boxes"] s__law_holds_7701 := ⟨⟨rfl, rfl, rfl, by decide +kernel, rfl, by decide +kernel, by decide +kernel⟩, by decide +kernel, rfl, rfl⟩
theorem t__law_plain_01db : DefT ⟨["claim", "truth", "some", "k"], fnm, hasF⟩ d__law_plain_01db ["claim", "truth"] s__law_plain_01db := ⟨⟨rfl, rfl, rfl, by decide +kernel, rfl, by decide +kernel, by decide +kernel⟩, by decide +kernel, rfl, rfl⟩
theorem t__law_claim_468c : DefT ⟨["script", "boxes", "one", "way"], fnm, hasF⟩ d__law_claim_468c ["script", "boxes"] s__law_claim_468c := ⟨⟨rfl, rfl, rfl, by decide +kernel, rfl, by decide +kernel, by decide +kernel⟩, by decide +kernel, rfl, rfl⟩
theorem t__law_asked_182b : DefT ⟨["told", "claim", "truth", "some", "found", "right"], fnm, hasF⟩ d__law_asked_182b ["told", "claim", "truth", "some", "found"] s__law_asked_182b := ⟨⟨rfl, rfl, rfl, by decide +kernel, rfl, by decide +kernel, by decide +kernel⟩, by decide +kernel, rfl, rfl⟩
theorem t_law : DefT ⟨["script", "many", "boxes", "told", "kept", "claim", "moved", "truth", "at", "found", "t"], fnm, hasF⟩ d_law ["script"] s_law := ⟨⟨rfl, rfl, rfl, by decide +kernel, rfl, by decide +kernel, by decide +kernel⟩, by decide +kernel, rfl, rfl⟩
theorem all_mk {l : PySem.W.OpenLaw} {w : World} {K : PySem.W.Frag} {h : Heap} {mg : Str → Option Value} {fa : Addr} (X : K.In h) (G : h.Ns mainGlobals mg) (hfa : mg "law" = some (.ref fa))
    {f0 f1 f2 f3 f4 f5 f6 f7 f8 f9 f10 f11 f12 f13 f14 f15 f16 f17 f18 f19 f20 f21 f22 f23 f24 f25 f26 f27 f28 f29 f30 f31 f32 f33 f34 f35 f36 f37 f38 f39 f40 f41 f42 f43 f44 f45 f46 f47 f48 f49 f50 : Addr} {od0 an0 od1 an1 od2 an2 od3 an3 od4 an4 od5 an5 od6 an6 od7 an7 od8 an8 od9 an9 od10 an10 od11 an11 od12 an12 od13 an13 od14 an14 od15 an15 od16 an16 od17 an17 od18 an18 od19 an19 od20 an20 od21 an21 od22 an22 od23 an23 od24 an24 od25 an25 od26 an26 od27 an27 od28 an28 od29 an29 od30 an30 od31 an31 od32 an32 od33 an33 od34 an34 od35 an35 od36 an36 od37 an37 od38 an38 od39 an39 od40 an40 od41 an41 od42 an42 od43 an43 od44 an44 od45 an45 od46 an46 od47 an47 od48 an48 od49 an49 od50 an50 : Option Addr} {sl0 sl1 sl2 sl3 sl4 sl5 sl6 sl7 sl8 sl9 sl10 sl11 sl12 sl13 sl14 sl15 sl16 sl17 sl18 sl19 sl20 sl21 sl22 sl23 sl24 sl25 sl26 sl27 sl28 sl29 sl30 sl31 sl32 sl33 sl34 sl35 sl36 sl37 sl38 sl39 sl40 sl41 sl42 sl43 sl44 sl45 sl46 sl47 sl48 sl49 sl50 : Array (Option Value)} {oc0 kV0 dc0 pm0 cd0 ct0 oc1 kV1 dc1 pm1 cd1 ct1 oc2 kV2 dc2 pm2 cd2 ct2 oc3 kV3 dc3 pm3 cd3 ct3 oc4 kV4 dc4 pm4 cd4 ct4 oc5 kV5 dc5 pm5 cd5 ct5 oc6 kV6 dc6 pm6 cd6 ct6 oc7 kV7 dc7 pm7 cd7 ct7 oc8 kV8 dc8 pm8 cd8 ct8 oc9 kV9 dc9 pm9 cd9 ct9 oc10 kV10 dc10 pm10 cd10 ct10 oc11 kV11 dc11 pm11 cd11 ct11 oc12 kV12 dc12 pm12 cd12 ct12 oc13 kV13 dc13 pm13 cd13 ct13 oc14 kV14 dc14 pm14 cd14 ct14 oc15 kV15 dc15 pm15 cd15 ct15 oc16 kV16 dc16 pm16 cd16 ct16 oc17 kV17 dc17 pm17 cd17 ct17 oc18 kV18 dc18 pm18 cd18 ct18 oc19 kV19 dc19 pm19 cd19 ct19 oc20 kV20 dc20 pm20 cd20 ct20 oc21 kV21 dc21 pm21 cd21 ct21 oc22 kV22 dc22 pm22 cd22 ct22 oc23 kV23 dc23 pm23 cd23 ct23 oc24 kV24 dc24 pm24 cd24 ct24 oc25 kV25 dc25 pm25 cd25 ct25 oc26 kV26 dc26 pm26 cd26 ct26 oc27 kV27 dc27 pm27 cd27 ct27 oc28 kV28 dc28 pm28 cd28 ct28 oc29 kV29 dc29 pm29 cd29 ct29 oc30 kV30 dc30 pm30 cd30 ct30 oc31 kV31 dc31 pm31 cd31 ct31 oc32 kV32 dc32 pm32 cd32 ct32 oc33 kV33 dc33 pm33 cd33 ct33 oc34 kV34 dc34 pm34 cd34 ct34 oc35 kV35 dc35 pm35 cd35 ct35 oc36 kV36 dc36 pm36 cd36 ct36 oc37 kV37 dc37 pm37 cd37 ct37 oc38 kV38 dc38 pm38 cd38 ct38 oc39 kV39 dc39 pm39 cd39 ct39 oc40 kV40 dc40 pm40 cd40 ct40 oc41 kV41 dc41 pm41 cd41 ct41 oc42 kV42 dc42 pm42 cd42 ct42 oc43 kV43 dc43 pm43 cd43 ct43 oc44 kV44 dc44 pm44 cd44 ct44 oc45 kV45 dc45 pm45 cd45 ct45 oc46 kV46 dc46 pm46 cd46 ct46 oc47 kV47 dc47 pm47 cd47 ct47 oc48 kV48 dc48 pm48 cd48 ct48 oc49 kV49 dc49 pm49 cd49 ct49 oc50 kV50 dc50 pm50 cd50 ct50 : Value}
    (a0 : PySem.W.nsIn K mainGlobals "divisor" = some (some (.ref f0))) (l0 : K.lookup f0 = some ⟨oc0, od0, .func (PySem.W.fnOf "divisor" "divisor" (defArgs s_divisor) (defBody s_divisor) (defScope s_divisor) .none kV0 dc0 pm0 an0 cd0 ct0), sl0⟩) (c0 : PySem.W.codeIn K cd0 "divisor" = true) (k0 : PySem.W.keepIn K (.ref f0) = true)
    (a1 : PySem.W.nsIn K mainGlobals "rest" = some (some (.ref f1))) (l1 : K.lookup f1 = some ⟨oc1, od1, .func (PySem.W.fnOf "rest" "rest" (defArgs s_rest) (defBody s_rest) (defScope s_rest) .none kV1 dc1 pm1 an1 cd1 ct1), sl1⟩) (c1 : PySem.W.codeIn K cd1 "rest" = true) (k1 : PySem.W.keepIn K (.ref f1) = true)
    (a2 : PySem.W.nsIn K mainGlobals "rest_has" = some (some (.ref f2))) (l2 : K.lookup f2 = some ⟨oc2, od2, .func (PySem.W.fnOf "rest_has" "rest_has" (defArgs s_rest_has) (defBody s_rest_has) (defScope s_rest_has) .none kV2 dc2 pm2 an2 cd2 ct2), sl2⟩) (c2 : PySem.W.codeIn K cd2 "rest_has" = true) (k2 : PySem.W.keepIn K (.ref f2) = true)
    (a3 : PySem.W.nsIn K mainGlobals "inverse" = some (some (.ref f3))) (l3 : K.lookup f3 = some ⟨oc3, od3, .func (PySem.W.fnOf "inverse" "inverse" (defArgs s_inverse) (defBody s_inverse) (defScope s_inverse) .none kV3 dc3 pm3 an3 cd3 ct3), sl3⟩) (c3 : PySem.W.codeIn K cd3 "inverse" = true) (k3 : PySem.W.keepIn K (.ref f3) = true)
    (a4 : PySem.W.nsIn K mainGlobals "rest_met" = some (some (.ref f4))) (l4 : K.lookup f4 = some ⟨oc4, od4, .func (PySem.W.fnOf "rest_met" "rest_met" (defArgs s_rest_met) (defBody s_rest_met) (defScope s_rest_met) .none kV4 dc4 pm4 an4 cd4 ct4), sl4⟩) (c4 : PySem.W.codeIn K cd4 "rest_met" = true) (k4 : PySem.W.keepIn K (.ref f4) = true)
    (a5 : PySem.W.nsIn K mainGlobals "rest_plus" = some (some (.ref f5))) (l5 : K.lookup f5 = some ⟨oc5, od5, .func (PySem.W.fnOf "rest_plus" "rest_plus" (defArgs s_rest_plus) (defBody s_rest_plus) (defScope s_rest_plus) .none kV5 dc5 pm5 an5 cd5 ct5), sl5⟩) (c5 : PySem.W.codeIn K cd5 "rest_plus" = true) (k5 : PySem.W.keepIn K (.ref f5) = true)
    (a6 : PySem.W.nsIn K mainGlobals "rest_times" = some (some (.ref f6))) (l6 : K.lookup f6 = some ⟨oc6, od6, .func (PySem.W.fnOf "rest_times" "rest_times" (defArgs s_rest_times) (defBody s_rest_times) (defScope s_rest_times) .none kV6 dc6 pm6 an6 cd6 ct6), sl6⟩) (c6 : PySem.W.codeIn K cd6 "rest_times" = true) (k6 : PySem.W.keepIn K (.ref f6) = true)
    (a7 : PySem.W.nsIn K mainGlobals "rest_loosened" = some (some (.ref f7))) (l7 : K.lookup f7 = some ⟨oc7, od7, .func (PySem.W.fnOf "rest_loosened" "rest_loosened" (defArgs s_rest_loosened) (defBody s_rest_loosened) (defScope s_rest_loosened) .none kV7 dc7 pm7 an7 cd7 ct7), sl7⟩) (c7 : PySem.W.codeIn K cd7 "rest_loosened" = true) (k7 : PySem.W.keepIn K (.ref f7) = true)
    (a8 : PySem.W.nsIn K mainGlobals "rest_under" = some (some (.ref f8))) (l8 : K.lookup f8 = some ⟨oc8, od8, .func (PySem.W.fnOf "rest_under" "rest_under" (defArgs s_rest_under) (defBody s_rest_under) (defScope s_rest_under) .none kV8 dc8 pm8 an8 cd8 ct8), sl8⟩) (c8 : PySem.W.codeIn K cd8 "rest_under" = true) (k8 : PySem.W.keepIn K (.ref f8) = true)
    (a9 : PySem.W.nsIn K mainGlobals "box_sum" = some (some (.ref f9))) (l9 : K.lookup f9 = some ⟨oc9, od9, .func (PySem.W.fnOf "box_sum" "box_sum" (defArgs s_box_sum) (defBody s_box_sum) (defScope s_box_sum) .none kV9 dc9 pm9 an9 cd9 ct9), sl9⟩) (c9 : PySem.W.codeIn K cd9 "box_sum" = true) (k9 : PySem.W.keepIn K (.ref f9) = true)
    (a10 : PySem.W.nsIn K mainGlobals "sum_plus" = some (some (.ref f10))) (l10 : K.lookup f10 = some ⟨oc10, od10, .func (PySem.W.fnOf "sum_plus" "sum_plus" (defArgs s_sum_plus) (defBody s_sum_plus) (defScope s_sum_plus) .none kV10 dc10 pm10 an10 cd10 ct10), sl10⟩) (c10 : PySem.W.codeIn K cd10 "sum_plus" = true) (k10 : PySem.W.keepIn K (.ref f10) = true)
    (a11 : PySem.W.nsIn K mainGlobals "sum_times" = some (some (.ref f11))) (l11 : K.lookup f11 = some ⟨oc11, od11, .func (PySem.W.fnOf "sum_times" "sum_times" (defArgs s_sum_times) (defBody s_sum_times) (defScope s_sum_times) .none kV11 dc11 pm11 an11 cd11 ct11), sl11⟩) (c11 : PySem.W.codeIn K cd11 "sum_times" = true) (k11 : PySem.W.keepIn K (.ref f11) = true)
    (a12 : PySem.W.nsIn K mainGlobals "sum_rest" = some (some (.ref f12))) (l12 : K.lookup f12 = some ⟨oc12, od12, .func (PySem.W.fnOf "sum_rest" "sum_rest" (defArgs s_sum_rest) (defBody s_sum_rest) (defScope s_sum_rest) .none kV12 dc12 pm12 an12 cd12 ct12), sl12⟩) (c12 : PySem.W.codeIn K cd12 "sum_rest" = true) (k12 : PySem.W.keepIn K (.ref f12) = true)
    (a13 : PySem.W.nsIn K mainGlobals "closed" = some (some (.ref f13))) (l13 : K.lookup f13 = some ⟨oc13, od13, .func (PySem.W.fnOf "closed" "closed" (defArgs s_closed) (defBody s_closed) (defScope s_closed) .none kV13 dc13 pm13 an13 cd13 ct13), sl13⟩) (c13 : PySem.W.codeIn K cd13 "closed" = true) (k13 : PySem.W.keepIn K (.ref f13) = true)
    (a14 : PySem.W.nsIn K mainGlobals "fixed" = some (some (.ref f14))) (l14 : K.lookup f14 = some ⟨oc14, od14, .func (PySem.W.fnOf "fixed" "fixed" (defArgs s_fixed) (defBody s_fixed) (defScope s_fixed) .none kV14 dc14 pm14 an14 cd14 ct14), sl14⟩) (c14 : PySem.W.codeIn K cd14 "fixed" = true) (k14 : PySem.W.keepIn K (.ref f14) = true)
    (a15 : PySem.W.nsIn K mainGlobals "handed_over" = some (some (.ref f15))) (l15 : K.lookup f15 = some ⟨oc15, od15, .func (PySem.W.fnOf "handed_over" "handed_over" (defArgs s_handed_over) (defBody s_handed_over) (defScope s_handed_over) .none kV15 dc15 pm15 an15 cd15 ct15), sl15⟩) (c15 : PySem.W.codeIn K cd15 "handed_over" = true) (k15 : PySem.W.keepIn K (.ref f15) = true)
    (a16 : PySem.W.nsIn K mainGlobals "lowered" = some (some (.ref f16))) (l16 : K.lookup f16 = some ⟨oc16, od16, .func (PySem.W.fnOf "lowered" "lowered" (defArgs s_lowered) (defBody s_lowered) (defScope s_lowered) .none kV16 dc16 pm16 an16 cd16 ct16), sl16⟩) (c16 : PySem.W.codeIn K cd16 "lowered" = true) (k16 : PySem.W.keepIn K (.ref f16) = true)
    (a17 : PySem.W.nsIn K mainGlobals "sharp" = some (some (.ref f17))) (l17 : K.lookup f17 = some ⟨oc17, od17, .func (PySem.W.fnOf "sharp" "sharp" (defArgs s_sharp) (defBody s_sharp) (defScope s_sharp) .none kV17 dc17 pm17 an17 cd17 ct17), sl17⟩) (c17 : PySem.W.codeIn K cd17 "sharp" = true) (k17 : PySem.W.keepIn K (.ref f17) = true)
    (a18 : PySem.W.nsIn K mainGlobals "pair_of" = some (some (.ref f18))) (l18 : K.lookup f18 = some ⟨oc18, od18, .func (PySem.W.fnOf "pair_of" "pair_of" (defArgs s_pair_of) (defBody s_pair_of) (defScope s_pair_of) .none kV18 dc18 pm18 an18 cd18 ct18), sl18⟩) (c18 : PySem.W.codeIn K cd18 "pair_of" = true) (k18 : PySem.W.keepIn K (.ref f18) = true)
    (a19 : PySem.W.nsIn K mainGlobals "greatest" = some (some (.ref f19))) (l19 : K.lookup f19 = some ⟨oc19, od19, .func (PySem.W.fnOf "greatest" "greatest" (defArgs s_greatest) (defBody s_greatest) (defScope s_greatest) .none kV19 dc19 pm19 an19 cd19 ct19), sl19⟩) (c19 : PySem.W.codeIn K cd19 "greatest" = true) (k19 : PySem.W.keepIn K (.ref f19) = true)
    (a20 : PySem.W.nsIn K mainGlobals "least" = some (some (.ref f20))) (l20 : K.lookup f20 = some ⟨oc20, od20, .func (PySem.W.fnOf "least" "least" (defArgs s_least) (defBody s_least) (defScope s_least) .none kV20 dc20 pm20 an20 cd20 ct20), sl20⟩) (c20 : PySem.W.codeIn K cd20 "least" = true) (k20 : PySem.W.keepIn K (.ref f20) = true)
    (a21 : PySem.W.nsIn K mainGlobals "pull" = some (some (.ref f21))) (l21 : K.lookup f21 = some ⟨oc21, od21, .func (PySem.W.fnOf "pull" "pull" (defArgs s_pull) (defBody s_pull) (defScope s_pull) .none kV21 dc21 pm21 an21 cd21 ct21), sl21⟩) (c21 : PySem.W.codeIn K cd21 "pull" = true) (k21 : PySem.W.keepIn K (.ref f21) = true)
    (a22 : PySem.W.nsIn K mainGlobals "at_most" = some (some (.ref f22))) (l22 : K.lookup f22 = some ⟨oc22, od22, .func (PySem.W.fnOf "at_most" "at_most" (defArgs s_at_most) (defBody s_at_most) (defScope s_at_most) .none kV22 dc22 pm22 an22 cd22 ct22), sl22⟩) (c22 : PySem.W.codeIn K cd22 "at_most" = true) (k22 : PySem.W.keepIn K (.ref f22) = true)
    (a23 : PySem.W.nsIn K mainGlobals "rests_left" = some (some (.ref f23))) (l23 : K.lookup f23 = some ⟨oc23, od23, .func (PySem.W.fnOf "rests_left" "rests_left" (defArgs s_rests_left) (defBody s_rests_left) (defScope s_rests_left) .none kV23 dc23 pm23 an23 cd23 ct23), sl23⟩) (c23 : PySem.W.codeIn K cd23 "rests_left" = true) (k23 : PySem.W.keepIn K (.ref f23) = true)
    (a24 : PySem.W.nsIn K mainGlobals "same_left" = some (some (.ref f24))) (l24 : K.lookup f24 = some ⟨oc24, od24, .func (PySem.W.fnOf "same_left" "same_left" (defArgs s_same_left) (defBody s_same_left) (defScope s_same_left) .none kV24 dc24 pm24 an24 cd24 ct24), sl24⟩) (c24 : PySem.W.codeIn K cd24 "same_left" = true) (k24 : PySem.W.keepIn K (.ref f24) = true)
    (a25 : PySem.W.nsIn K mainGlobals "unlike_left" = some (some (.ref f25))) (l25 : K.lookup f25 = some ⟨oc25, od25, .func (PySem.W.fnOf "unlike_left" "unlike_left" (defArgs s_unlike_left) (defBody s_unlike_left) (defScope s_unlike_left) .none kV25 dc25 pm25 an25 cd25 ct25), sl25⟩) (c25 : PySem.W.codeIn K cd25 "unlike_left" = true) (k25 : PySem.W.keepIn K (.ref f25) = true)
    (a26 : PySem.W.nsIn K mainGlobals "even_left" = some (some (.ref f26))) (l26 : K.lookup f26 = some ⟨oc26, od26, .func (PySem.W.fnOf "even_left" "even_left" (defArgs s_even_left) (defBody s_even_left) (defScope s_even_left) .none kV26 dc26 pm26 an26 cd26 ct26), sl26⟩) (c26 : PySem.W.codeIn K cd26 "even_left" = true) (k26 : PySem.W.keepIn K (.ref f26) = true)
    (a27 : PySem.W.nsIn K mainGlobals "odd_left" = some (some (.ref f27))) (l27 : K.lookup f27 = some ⟨oc27, od27, .func (PySem.W.fnOf "odd_left" "odd_left" (defArgs s_odd_left) (defBody s_odd_left) (defScope s_odd_left) .none kV27 dc27 pm27 an27 cd27 ct27), sl27⟩) (c27 : PySem.W.codeIn K cd27 "odd_left" = true) (k27 : PySem.W.keepIn K (.ref f27) = true)
    (a28 : PySem.W.nsIn K mainGlobals "when" = some (some (.ref f28))) (l28 : K.lookup f28 = some ⟨oc28, od28, .func (PySem.W.fnOf "when" "when" (defArgs s_when) (defBody s_when) (defScope s_when) .none kV28 dc28 pm28 an28 cd28 ct28), sl28⟩) (c28 : PySem.W.codeIn K cd28 "when" = true) (k28 : PySem.W.keepIn K (.ref f28) = true)
    (a29 : PySem.W.nsIn K mainGlobals "_law_mixed" = some (some (.ref f29))) (l29 : K.lookup f29 = some ⟨oc29, od29, .func (PySem.W.fnOf "_law_mixed" "_law_mixed" (defArgs s__law_mixed) (defBody s__law_mixed) (defScope s__law_mixed) .none kV29 dc29 pm29 an29 cd29 ct29), sl29⟩) (c29 : PySem.W.codeIn K cd29 "_law_mixed" = true) (k29 : PySem.W.keepIn K (.ref f29) = true)
    (a30 : PySem.W.nsIn K mainGlobals "_law_pick" = some (some (.ref f30))) (l30 : K.lookup f30 = some ⟨oc30, od30, .func (PySem.W.fnOf "_law_pick" "_law_pick" (defArgs s__law_pick_0c7c) (defBody s__law_pick_0c7c) (defScope s__law_pick_0c7c) .none kV30 dc30 pm30 an30 cd30 ct30), sl30⟩) (c30 : PySem.W.codeIn K cd30 "_law_pick" = true) (k30 : PySem.W.keepIn K (.ref f30) = true)
    (a31 : PySem.W.nsIn K mainGlobals "_law_number" = some (some (.ref f31))) (l31 : K.lookup f31 = some ⟨oc31, od31, .func (PySem.W.fnOf "_law_number" "_law_number" (defArgs s__law_number_56fb) (defBody s__law_number_56fb) (defScope s__law_number_56fb) .none kV31 dc31 pm31 an31 cd31 ct31), sl31⟩) (c31 : PySem.W.codeIn K cd31 "_law_number" = true) (k31 : PySem.W.keepIn K (.ref f31) = true)
    (a32 : PySem.W.nsIn K mainGlobals "_law_slack" = some (some (.ref f32))) (l32 : K.lookup f32 = some ⟨oc32, od32, .func (PySem.W.fnOf "_law_slack" "_law_slack" (defArgs s__law_slack) (defBody s__law_slack) (defScope s__law_slack) .none kV32 dc32 pm32 an32 cd32 ct32), sl32⟩) (c32 : PySem.W.codeIn K cd32 "_law_slack" = true) (k32 : PySem.W.keepIn K (.ref f32) = true)
    (a33 : PySem.W.nsIn K mainGlobals "_law_rest_of" = some (some (.ref f33))) (l33 : K.lookup f33 = some ⟨oc33, od33, .func (PySem.W.fnOf "_law_rest_of" "_law_rest_of" (defArgs s__law_rest_of) (defBody s__law_rest_of) (defScope s__law_rest_of) .none kV33 dc33 pm33 an33 cd33 ct33), sl33⟩) (c33 : PySem.W.codeIn K cd33 "_law_rest_of" = true) (k33 : PySem.W.keepIn K (.ref f33) = true)
    (a34 : PySem.W.nsIn K mainGlobals "_law_rest" = some (some (.ref f34))) (l34 : K.lookup f34 = some ⟨oc34, od34, .func (PySem.W.fnOf "_law_rest" "_law_rest" (defArgs s__law_rest_f4ab) (defBody s__law_rest_f4ab) (defScope s__law_rest_f4ab) .none kV34 dc34 pm34 an34 cd34 ct34), sl34⟩) (c34 : PySem.W.codeIn K cd34 "_law_rest" = true) (k34 : PySem.W.keepIn K (.ref f34) = true)
    (a35 : PySem.W.nsIn K mainGlobals "_law_told" = some (some (.ref f35))) (l35 : K.lookup f35 = some ⟨oc35, od35, .func (PySem.W.fnOf "_law_told" "_law_told" (defArgs s__law_told_2ac3) (defBody s__law_told_2ac3) (defScope s__law_told_2ac3) .none kV35 dc35 pm35 an35 cd35 ct35), sl35⟩) (c35 : PySem.W.codeIn K cd35 "_law_told" = true) (k35 : PySem.W.keepIn K (.ref f35) = true)
    (a36 : PySem.W.nsIn K mainGlobals "_law_copy" = some (some (.ref f36))) (l36 : K.lookup f36 = some ⟨oc36, od36, .func (PySem.W.fnOf "_law_copy" "_law_copy" (defArgs s__law_copy_13a6) (defBody s__law_copy_13a6) (defScope s__law_copy_13a6) .none kV36 dc36 pm36 an36 cd36 ct36), sl36⟩) (c36 : PySem.W.codeIn K cd36 "_law_copy" = true) (k36 : PySem.W.keepIn K (.ref f36) = true)
    (a37 : PySem.W.nsIn K mainGlobals "_law_lies" = some (some (.ref f37))) (l37 : K.lookup f37 = some ⟨oc37, od37, .func (PySem.W.fnOf "_law_lies" "_law_lies" (defArgs s__law_lies_38ce) (defBody s__law_lies_38ce) (defScope s__law_lies_38ce) .none kV37 dc37 pm37 an37 cd37 ct37), sl37⟩) (c37 : PySem.W.codeIn K cd37 "_law_lies" = true) (k37 : PySem.W.keepIn K (.ref f37) = true)
    (a38 : PySem.W.nsIn K mainGlobals "_law_whole" = some (some (.ref f38))) (l38 : K.lookup f38 = some ⟨oc38, od38, .func (PySem.W.fnOf "_law_whole" "_law_whole" (defArgs s__law_whole_92eb) (defBody s__law_whole_92eb) (defScope s__law_whole_92eb) .none kV38 dc38 pm38 an38 cd38 ct38), sl38⟩) (c38 : PySem.W.codeIn K cd38 "_law_whole" = true) (k38 : PySem.W.keepIn K (.ref f38) = true)
    (a39 : PySem.W.nsIn K mainGlobals "_law_grid" = some (some (.ref f39))) (l39 : K.lookup f39 = some ⟨oc39, od39, .func (PySem.W.fnOf "_law_grid" "_law_grid" (defArgs s__law_grid) (defBody s__law_grid) (defScope s__law_grid) .none kV39 dc39 pm39 an39 cd39 ct39), sl39⟩) (c39 : PySem.W.codeIn K cd39 "_law_grid" = true) (k39 : PySem.W.keepIn K (.ref f39) = true)
    (a40 : PySem.W.nsIn K mainGlobals "_law_shape" = some (some (.ref f40))) (l40 : K.lookup f40 = some ⟨oc40, od40, .func (PySem.W.fnOf "_law_shape" "_law_shape" (defArgs s__law_shape_824f) (defBody s__law_shape_824f) (defScope s__law_shape_824f) .none kV40 dc40 pm40 an40 cd40 ct40), sl40⟩) (c40 : PySem.W.codeIn K cd40 "_law_shape" = true) (k40 : PySem.W.keepIn K (.ref f40) = true)
    (a41 : PySem.W.nsIn K mainGlobals "_law_under" = some (some (.ref f41))) (l41 : K.lookup f41 = some ⟨oc41, od41, .func (PySem.W.fnOf "_law_under" "_law_under" (defArgs s__law_under) (defBody s__law_under) (defScope s__law_under) .none kV41 dc41 pm41 an41 cd41 ct41), sl41⟩) (c41 : PySem.W.codeIn K cd41 "_law_under" = true) (k41 : PySem.W.keepIn K (.ref f41) = true)
    (a42 : PySem.W.nsIn K mainGlobals "_law_rest_in" = some (some (.ref f42))) (l42 : K.lookup f42 = some ⟨oc42, od42, .func (PySem.W.fnOf "_law_rest_in" "_law_rest_in" (defArgs s__law_rest_in) (defBody s__law_rest_in) (defScope s__law_rest_in) .none kV42 dc42 pm42 an42 cd42 ct42), sl42⟩) (c42 : PySem.W.codeIn K cd42 "_law_rest_in" = true) (k42 : PySem.W.keepIn K (.ref f42) = true)
    (a43 : PySem.W.nsIn K mainGlobals "_law_inside" = some (some (.ref f43))) (l43 : K.lookup f43 = some ⟨oc43, od43, .func (PySem.W.fnOf "_law_inside" "_law_inside" (defArgs s__law_inside_5dab) (defBody s__law_inside_5dab) (defScope s__law_inside_5dab) .none kV43 dc43 pm43 an43 cd43 ct43), sl43⟩) (c43 : PySem.W.codeIn K cd43 "_law_inside" = true) (k43 : PySem.W.keepIn K (.ref f43) = true)
    (a44 : PySem.W.nsIn K mainGlobals "_law_sum" = some (some (.ref f44))) (l44 : K.lookup f44 = some ⟨oc44, od44, .func (PySem.W.fnOf "_law_sum" "_law_sum" (defArgs s__law_sum_0da3) (defBody s__law_sum_0da3) (defScope s__law_sum_0da3) .none kV44 dc44 pm44 an44 cd44 ct44), sl44⟩) (c44 : PySem.W.codeIn K cd44 "_law_sum" = true) (k44 : PySem.W.keepIn K (.ref f44) = true)
    (a45 : PySem.W.nsIn K mainGlobals "_law_value" = some (some (.ref f45))) (l45 : K.lookup f45 = some ⟨oc45, od45, .func (PySem.W.fnOf "_law_value" "_law_value" (defArgs s__law_value_c4d8) (defBody s__law_value_c4d8) (defScope s__law_value_c4d8) .none kV45 dc45 pm45 an45 cd45 ct45), sl45⟩) (c45 : PySem.W.codeIn K cd45 "_law_value" = true) (k45 : PySem.W.keepIn K (.ref f45) = true)
    (a46 : PySem.W.nsIn K mainGlobals "_law_holds" = some (some (.ref f46))) (l46 : K.lookup f46 = some ⟨oc46, od46, .func (PySem.W.fnOf "_law_holds" "_law_holds" (defArgs s__law_holds_7701) (defBody s__law_holds_7701) (defScope s__law_holds_7701) .none kV46 dc46 pm46 an46 cd46 ct46), sl46⟩) (c46 : PySem.W.codeIn K cd46 "_law_holds" = true) (k46 : PySem.W.keepIn K (.ref f46) = true)
    (a47 : PySem.W.nsIn K mainGlobals "_law_plain" = some (some (.ref f47))) (l47 : K.lookup f47 = some ⟨oc47, od47, .func (PySem.W.fnOf "_law_plain" "_law_plain" (defArgs s__law_plain_01db) (defBody s__law_plain_01db) (defScope s__law_plain_01db) .none kV47 dc47 pm47 an47 cd47 ct47), sl47⟩) (c47 : PySem.W.codeIn K cd47 "_law_plain" = true) (k47 : PySem.W.keepIn K (.ref f47) = true)
    (a48 : PySem.W.nsIn K mainGlobals "_law_claim" = some (some (.ref f48))) (l48 : K.lookup f48 = some ⟨oc48, od48, .func (PySem.W.fnOf "_law_claim" "_law_claim" (defArgs s__law_claim_468c) (defBody s__law_claim_468c) (defScope s__law_claim_468c) .none kV48 dc48 pm48 an48 cd48 ct48), sl48⟩) (c48 : PySem.W.codeIn K cd48 "_law_claim" = true) (k48 : PySem.W.keepIn K (.ref f48) = true)
    (a49 : PySem.W.nsIn K mainGlobals "_law_asked" = some (some (.ref f49))) (l49 : K.lookup f49 = some ⟨oc49, od49, .func (PySem.W.fnOf "_law_asked" "_law_asked" (defArgs s__law_asked_182b) (defBody s__law_asked_182b) (defScope s__law_asked_182b) .none kV49 dc49 pm49 an49 cd49 ct49), sl49⟩) (c49 : PySem.W.codeIn K cd49 "_law_asked" = true) (k49 : PySem.W.keepIn K (.ref f49) = true)
    (a50 : PySem.W.nsIn K mainGlobals "law" = some (some (.ref f50))) (l50 : K.lookup f50 = some ⟨oc50, od50, .func (PySem.W.fnOf "law" "law" (defArgs s_law) (defBody s_law) (defScope s_law) .none kV50 dc50 pm50 an50 cd50 ct50), sl50⟩) (c50 : PySem.W.codeIn K cd50 "law" = true) (k50 : PySem.W.keepIn K (.ref f50) = true)
    (z0 : PySem.W.nsIn K mainGlobals "len" = some none)
    (z1 : PySem.W.nsIn K mainGlobals "abs" = some none)
    (z2 : PySem.W.nsIn K mainGlobals "int" = some none)
    (z3 : PySem.W.nsIn K mainGlobals "list" = some none)
    (z4 : PySem.W.nsIn K mainGlobals "tuple" = some none)
    (z5 : PySem.W.nsIn K mainGlobals "sum" = some none)
    (z6 : PySem.W.nsIn K mainGlobals "min" = some none)
    (z7 : PySem.W.nsIn K mainGlobals "max" = some none)
    (z8 : PySem.W.nsIn K mainGlobals "isinstance" = some none)
    (z9 : PySem.W.nsIn K mainGlobals "sorted" = some none)
    (z10 : PySem.W.nsIn K mainGlobals "range" = some none)
    (z11 : PySem.W.nsIn K mainGlobals "zip" = some none)
    (z12 : PySem.W.nsIn K mainGlobals "bool" = some none)
    (z13 : PySem.W.nsIn K mainGlobals "str" = some none) :
    ∃ fd : FuncData, (∀ (s : Shared) (v : Value), BindsTo s fd ⟨[v], []⟩ [("script", v)]) ∧ ∀ base : Heap, K.In base → base.Ns mainGlobals mg → FnOk l.prog w K mg base CX0 (8 + 1) fa fd ["script"] (spLaw K) := by
  have e := hfa.symm.trans (PySem.W.mg_of X G a50)
  cases e
  have F0 := fun_mk (st := s_divisor) l0 c0 k0
  have b0 := F0.binds (ps := ["one", "other"]) fun _ _ _ _ _ _ us hl => match us, hl with | [_, _], _ => rfl
  have F1 := fun_mk (st := s_rest) l1 c1 k1
  have b1 := F1.binds (ps := ["m", "r"]) fun _ _ _ _ _ _ us hl => match us, hl with | [_, _], _ => rfl
  have F2 := fun_mk (st := s_rest_has) l2 c2 k2
  have b2 := F2.binds (ps := ["one", "number"]) fun _ _ _ _ _ _ us hl => match us, hl with | [_, _], _ => rfl
  have F3 := fun_mk (st := s_inverse) l3 c3 k3
  have b3 := F3.binds (ps := ["one", "m"]) fun _ _ _ _ _ _ us hl => match us, hl with | [_, _], _ => rfl
  have F4 := fun_mk (st := s_rest_met) l4 c4 k4
  have b4 := F4.binds (ps := ["one", "other"]) fun _ _ _ _ _ _ us hl => match us, hl with | [_, _], _ => rfl
  have F5 := fun_mk (st := s_rest_plus) l5 c5 k5
  have b5 := F5.binds (ps := ["one", "other"]) fun _ _ _ _ _ _ us hl => match us, hl with | [_, _], _ => rfl
  have F6 := fun_mk (st := s_rest_times) l6 c6 k6
  have b6 := F6.binds (ps := ["one", "k"]) fun _ _ _ _ _ _ us hl => match us, hl with | [_, _], _ => rfl
  have F7 := fun_mk (st := s_rest_loosened) l7 c7 k7
  have b7 := F7.binds (ps := ["one", "k"]) fun _ _ _ _ _ _ us hl => match us, hl with | [_, _], _ => rfl
  have F8 := fun_mk (st := s_rest_under) l8 c8 k8
  have b8 := F8.binds (ps := ["one", "top"]) fun _ _ _ _ _ _ us hl => match us, hl with | [_, _], _ => rfl
  have F9 := fun_mk (st := s_box_sum) l9 c9 k9
  have b9 := F9.binds (ps := ["i", "n"]) fun _ _ _ _ _ _ us hl => match us, hl with | [_, _], _ => rfl
  have F10 := fun_mk (st := s_sum_plus) l10 c10 k10
  have b10 := F10.binds (ps := ["one", "other"]) fun _ _ _ _ _ _ us hl => match us, hl with | [_, _], _ => rfl
  have F11 := fun_mk (st := s_sum_times) l11 c11 k11
  have b11 := F11.binds (ps := ["one", "k"]) fun _ _ _ _ _ _ us hl => match us, hl with | [_, _], _ => rfl
  have F12 := fun_mk (st := s_sum_rest) l12 c12 k12
  have b12 := F12.binds (ps := ["one", "rests"]) fun _ _ _ _ _ _ us hl => match us, hl with | [_, _], _ => rfl
  have F13 := fun_mk (st := s_closed) l13 c13 k13
  have b13 := F13.binds (ps := ["bounds"]) fun _ _ _ _ _ _ us hl => match us, hl with | [_], _ => rfl
  have F14 := fun_mk (st := s_fixed) l14 c14 k14
  have b14 := F14.binds (ps := ["bounds", "i", "j"]) fun _ _ _ _ _ _ us hl => match us, hl with | [_, _, _], _ => rfl
  have F15 := fun_mk (st := s_handed_over) l15 c15 k15
  have b15 := F15.binds (ps := ["bounds", "rests"]) fun _ _ _ _ _ _ us hl => match us, hl with | [_, _], _ => rfl
  have F16 := fun_mk (st := s_lowered) l16 c16 k16
  have b16 := F16.binds (ps := ["bounds", "rests"]) fun _ _ _ _ _ _ us hl => match us, hl with | [_, _], _ => rfl
  have F17 := fun_mk (st := s_sharp) l17 c17 k17
  have b17 := F17.binds (ps := ["told"]) fun _ _ _ _ _ _ us hl => match us, hl with | [_], _ => rfl
  have F18 := fun_mk (st := s_pair_of) l18 c18 k18
  have b18 := F18.binds (ps := ["one"]) fun _ _ _ _ _ _ us hl => match us, hl with | [_], _ => rfl
  have F19 := fun_mk (st := s_greatest) l19 c19 k19
  have b19 := F19.binds (ps := ["told", "one"]) fun _ _ _ _ _ _ us hl => match us, hl with | [_, _], _ => rfl
  have F20 := fun_mk (st := s_least) l20 c20 k20
  have b20 := F20.binds (ps := ["told", "one"]) fun _ _ _ _ _ _ us hl => match us, hl with | [_, _], _ => rfl
  have F21 := fun_mk (st := s_pull) l21 c21 k21
  have b21 := F21.binds (ps := ["bounds", "i", "j", "top"]) fun _ _ _ _ _ _ us hl => match us, hl with | [_, _, _, _], _ => rfl
  have F22 := fun_mk (st := s_at_most) l22 c22 k22
  have b22 := F22.binds (ps := ["told", "one", "top"]) fun _ _ _ _ _ _ us hl => match us, hl with | [_, _, _], _ => rfl
  have F23 := fun_mk (st := s_rests_left) l23 c23 k23
  have b23 := F23.binds (ps := ["told", "one", "step"]) fun _ _ _ _ _ _ us hl => match us, hl with | [_, _, _], _ => rfl
  have F24 := fun_mk (st := s_same_left) l24 c24 k24
  have b24 := F24.binds (ps := ["told", "one"]) fun _ _ _ _ _ _ us hl => match us, hl with | [_, _], _ => rfl
  have F25 := fun_mk (st := s_unlike_left) l25 c25 k25
  have b25 := F25.binds (ps := ["told", "one"]) fun _ _ _ _ _ _ us hl => match us, hl with | [_, _], _ => rfl
  have F26 := fun_mk (st := s_even_left) l26 c26 k26
  have b26 := F26.binds (ps := ["told", "one", "step"]) fun _ _ _ _ _ _ us hl => match us, hl with | [_, _, _], _ => rfl
  have F27 := fun_mk (st := s_odd_left) l27 c27 k27
  have b27 := F27.binds (ps := ["told", "one", "step"]) fun _ _ _ _ _ _ us hl => match us, hl with | [_, _, _], _ => rfl
  have F28 := fun_mk (st := s_when) l28 c28 k28
  have b28 := F28.binds (ps := ["told", "claim", "truth"]) fun _ _ _ _ _ _ us hl => match us, hl with | [_, _, _], _ => rfl
  have F29 := fun_mk (st := s__law_mixed) l29 c29 k29
  have b29 := F29.binds (ps := ["script", "k"]) fun _ _ _ _ _ _ us hl => match us, hl with | [_, _], _ => rfl
  have F30 := fun_mk (st := s__law_pick_0c7c) l30 c30 k30
  have b30 := F30.binds (ps := ["script", "k", "many"]) fun _ _ _ _ _ _ us hl => match us, hl with | [_, _, _], _ => rfl
  have F31 := fun_mk (st := s__law_number_56fb) l31 c31 k31
  have b31 := F31.binds (ps := ["script", "k"]) fun _ _ _ _ _ _ us hl => match us, hl with | [_, _], _ => rfl
  have F32 := fun_mk (st := s__law_slack) l32 c32 k32
  have b32 := F32.binds (ps := ["script", "k"]) fun _ _ _ _ _ _ us hl => match us, hl with | [_, _], _ => rfl
  have F33 := fun_mk (st := s__law_rest_of) l33 c33 k33
  have b33 := F33.binds (ps := ["m", "r"]) fun _ _ _ _ _ _ us hl => match us, hl with | [_, _], _ => rfl
  have F34 := fun_mk (st := s__law_rest_f4ab) l34 c34 k34
  have b34 := F34.binds (ps := ["script", "k", "number"]) fun _ _ _ _ _ _ us hl => match us, hl with | [_, _, _], _ => rfl
  have F35 := fun_mk (st := s__law_told_2ac3) l35 c35 k35
  have b35 := F35.binds (ps := ["script", "k", "boxes"]) fun _ _ _ _ _ _ us hl => match us, hl with | [_, _, _], _ => rfl
  have F36 := fun_mk (st := s__law_copy_13a6) l36 c36 k36
  have b36 := F36.binds (ps := ["told"]) fun _ _ _ _ _ _ us hl => match us, hl with | [_], _ => rfl
  have F37 := fun_mk (st := s__law_lies_38ce) l37 c37 k37
  have b37 := F37.binds (ps := ["told", "boxes"]) fun _ _ _ _ _ _ us hl => match us, hl with | [_, _], _ => rfl
  have F38 := fun_mk (st := s__law_whole_92eb) l38 c38 k38
  have b38 := F38.binds (ps := ["thing"]) fun _ _ _ _ _ _ us hl => match us, hl with | [_], _ => rfl
  have F39 := fun_mk (st := s__law_grid) l39 c39 k39
  have b39 := F39.binds (ps := ["thing", "size"]) fun _ _ _ _ _ _ us hl => match us, hl with | [_, _], _ => rfl
  have F40 := fun_mk (st := s__law_shape_824f) l40 c40 k40
  have b40 := F40.binds (ps := ["thing", "many"]) fun _ _ _ _ _ _ us hl => match us, hl with | [_, _], _ => rfl
  have F41 := fun_mk (st := s__law_under) l41 c41 k41
  have b41 := F41.binds (ps := ["one", "other"]) fun _ _ _ _ _ _ us hl => match us, hl with | [_, _], _ => rfl
  have F42 := fun_mk (st := s__law_rest_in) l42 c42 k42
  have b42 := F42.binds (ps := ["one", "other"]) fun _ _ _ _ _ _ us hl => match us, hl with | [_, _], _ => rfl
  have F43 := fun_mk (st := s__law_inside_5dab) l43 c43 k43
  have b43 := F43.binds (ps := ["one", "other"]) fun _ _ _ _ _ _ us hl => match us, hl with | [_, _], _ => rfl
  have F44 := fun_mk (st := s__law_sum_0da3) l44 c44 k44
  have b44 := F44.binds (ps := ["script", "k", "many"]) fun _ _ _ _ _ _ us hl => match us, hl with | [_, _, _], _ => rfl
  have F45 := fun_mk (st := s__law_value_c4d8) l45 c45 k45
  have b45 := F45.binds (ps := ["one", "boxes"]) fun _ _ _ _ _ _ us hl => match us, hl with | [_, _], _ => rfl
  have F46 := fun_mk (st := s__law_holds_7701) l46 c46 k46
  have b46 := F46.binds (ps := ["claim", "boxes"]) fun _ _ _ _ _ _ us hl => match us, hl with | [_, _], _ => rfl
  have F47 := fun_mk (st := s__law_plain_01db) l47 c47 k47
  have b47 := F47.binds (ps := ["claim", "truth"]) fun _ _ _ _ _ _ us hl => match us, hl with | [_, _], _ => rfl
  have F48 := fun_mk (st := s__law_claim_468c) l48 c48 k48
  have b48 := F48.binds (ps := ["script", "boxes"]) fun _ _ _ _ _ _ us hl => match us, hl with | [_, _], _ => rfl
  have F49 := fun_mk (st := s__law_asked_182b) l49 c49 k49
  have b49 := F49.binds (ps := ["told", "claim", "truth", "some", "found"]) fun _ _ _ _ _ _ us hl => match us, hl with | [_, _, _, _, _], _ => rfl
  have F50 := fun_mk (st := s_law) l50 c50 k50
  have bt : ∀ x ∈ bltNames, mg x = none := by
    intro x hx
    simp only [bltNames, List.mem_cons, List.not_mem_nil, or_false] at hx
    rcases hx with rfl | rfl | rfl | rfl | rfl | rfl | rfl | rfl | rfl | rfl | rfl | rfl | rfl | rfl
    · exact PySem.W.mg_none_of X G z0
    · exact PySem.W.mg_none_of X G z1
    · exact PySem.W.mg_none_of X G z2
    · exact PySem.W.mg_none_of X G z3
    · exact PySem.W.mg_none_of X G z4
    · exact PySem.W.mg_none_of X G z5
    · exact PySem.W.mg_none_of X G z6
    · exact PySem.W.mg_none_of X G z7
    · exact PySem.W.mg_none_of X G z8
    · exact PySem.W.mg_none_of X G z9
    · exact PySem.W.mg_none_of X G z10
    · exact PySem.W.mg_none_of X G z11
    · exact PySem.W.mg_none_of X G z12
    · exact PySem.W.mg_none_of X G z13
  have hall : ∀ f, hasF f = true → FnAt K mg fnm hasF (P f) (fnm f) := by
    intro f hf
    have hm : f ∈ [0, 36, 37, 43, 44, 51, 52, 55, 61, 63, 64, 65, 69, 182, 185, 186, 187, 188, 208, 209, 210, 226, 227, 228, 229, 230, 231, 232, 233, 154, 155, 156, 157, 158, 159, 160, 161, 162, 176, 177, 178, 170, 171, 172, 211, 212, 243, 244, 245, 246] := by unfold hasF at hf; exact List.contains_iff_mem.mp hf
    simp only [List.mem_cons, List.not_mem_nil, or_false] at hm
    rcases hm with rfl | rfl | rfl | rfl | rfl | rfl | rfl | rfl | rfl | rfl | rfl | rfl | rfl | rfl | rfl | rfl | rfl | rfl | rfl | rfl | rfl | rfl | rfl | rfl | rfl | rfl | rfl | rfl | rfl | rfl | rfl | rfl | rfl | rfl | rfl | rfl | rfl | rfl | rfl | rfl | rfl | rfl | rfl | rfl | rfl | rfl | rfl | rfl | rfl | rfl
    · exact ⟨_, _, _, _, _, _, t_divisor, F0, PySem.W.mg_of X G a0, b0⟩
    · exact ⟨_, _, _, _, _, _, t_rest, F1, PySem.W.mg_of X G a1, b1⟩
    · exact ⟨_, _, _, _, _, _, t_rest_has, F2, PySem.W.mg_of X G a2, b2⟩
    · exact ⟨_, _, _, _, _, _, t_inverse, F3, PySem.W.mg_of X G a3, b3⟩
    · exact ⟨_, _, _, _, _, _, t_rest_met, F4, PySem.W.mg_of X G a4, b4⟩
    · exact ⟨_, _, _, _, _, _, t_rest_plus, F5, PySem.W.mg_of X G a5, b5⟩
    · exact ⟨_, _, _, _, _, _, t_rest_times, F6, PySem.W.mg_of X G a6, b6⟩
    · exact ⟨_, _, _, _, _, _, t_rest_loosened, F7, PySem.W.mg_of X G a7, b7⟩
    · exact ⟨_, _, _, _, _, _, t_rest_under, F8, PySem.W.mg_of X G a8, b8⟩
    · exact ⟨_, _, _, _, _, _, t_box_sum, F9, PySem.W.mg_of X G a9, b9⟩
    · exact ⟨_, _, _, _, _, _, t_sum_plus, F10, PySem.W.mg_of X G a10, b10⟩
    · exact ⟨_, _, _, _, _, _, t_sum_times, F11, PySem.W.mg_of X G a11, b11⟩
    · exact ⟨_, _, _, _, _, _, t_sum_rest, F12, PySem.W.mg_of X G a12, b12⟩
    · exact ⟨_, _, _, _, _, _, t_closed, F13, PySem.W.mg_of X G a13, b13⟩
    · exact ⟨_, _, _, _, _, _, t_fixed, F14, PySem.W.mg_of X G a14, b14⟩
    · exact ⟨_, _, _, _, _, _, t_handed_over, F15, PySem.W.mg_of X G a15, b15⟩
    · exact ⟨_, _, _, _, _, _, t_lowered, F16, PySem.W.mg_of X G a16, b16⟩
    · exact ⟨_, _, _, _, _, _, t_sharp, F17, PySem.W.mg_of X G a17, b17⟩
    · exact ⟨_, _, _, _, _, _, t_pair_of, F18, PySem.W.mg_of X G a18, b18⟩
    · exact ⟨_, _, _, _, _, _, t_greatest, F19, PySem.W.mg_of X G a19, b19⟩
    · exact ⟨_, _, _, _, _, _, t_least, F20, PySem.W.mg_of X G a20, b20⟩
    · exact ⟨_, _, _, _, _, _, t_pull, F21, PySem.W.mg_of X G a21, b21⟩
    · exact ⟨_, _, _, _, _, _, t_at_most, F22, PySem.W.mg_of X G a22, b22⟩
    · exact ⟨_, _, _, _, _, _, t_rests_left, F23, PySem.W.mg_of X G a23, b23⟩
    · exact ⟨_, _, _, _, _, _, t_same_left, F24, PySem.W.mg_of X G a24, b24⟩
    · exact ⟨_, _, _, _, _, _, t_unlike_left, F25, PySem.W.mg_of X G a25, b25⟩
    · exact ⟨_, _, _, _, _, _, t_even_left, F26, PySem.W.mg_of X G a26, b26⟩
    · exact ⟨_, _, _, _, _, _, t_odd_left, F27, PySem.W.mg_of X G a27, b27⟩
    · exact ⟨_, _, _, _, _, _, t_when, F28, PySem.W.mg_of X G a28, b28⟩
    · exact ⟨_, _, _, _, _, _, t__law_mixed, F29, PySem.W.mg_of X G a29, b29⟩
    · exact ⟨_, _, _, _, _, _, t__law_pick_0c7c, F30, PySem.W.mg_of X G a30, b30⟩
    · exact ⟨_, _, _, _, _, _, t__law_number_56fb, F31, PySem.W.mg_of X G a31, b31⟩
    · exact ⟨_, _, _, _, _, _, t__law_slack, F32, PySem.W.mg_of X G a32, b32⟩
    · exact ⟨_, _, _, _, _, _, t__law_rest_of, F33, PySem.W.mg_of X G a33, b33⟩
    · exact ⟨_, _, _, _, _, _, t__law_rest_f4ab, F34, PySem.W.mg_of X G a34, b34⟩
    · exact ⟨_, _, _, _, _, _, t__law_told_2ac3, F35, PySem.W.mg_of X G a35, b35⟩
    · exact ⟨_, _, _, _, _, _, t__law_copy_13a6, F36, PySem.W.mg_of X G a36, b36⟩
    · exact ⟨_, _, _, _, _, _, t__law_lies_38ce, F37, PySem.W.mg_of X G a37, b37⟩
    · exact ⟨_, _, _, _, _, _, t__law_whole_92eb, F38, PySem.W.mg_of X G a38, b38⟩
    · exact ⟨_, _, _, _, _, _, t__law_grid, F39, PySem.W.mg_of X G a39, b39⟩
    · exact ⟨_, _, _, _, _, _, t__law_shape_824f, F40, PySem.W.mg_of X G a40, b40⟩
    · exact ⟨_, _, _, _, _, _, t__law_under, F41, PySem.W.mg_of X G a41, b41⟩
    · exact ⟨_, _, _, _, _, _, t__law_rest_in, F42, PySem.W.mg_of X G a42, b42⟩
    · exact ⟨_, _, _, _, _, _, t__law_inside_5dab, F43, PySem.W.mg_of X G a43, b43⟩
    · exact ⟨_, _, _, _, _, _, t__law_sum_0da3, F44, PySem.W.mg_of X G a44, b44⟩
    · exact ⟨_, _, _, _, _, _, t__law_value_c4d8, F45, PySem.W.mg_of X G a45, b45⟩
    · exact ⟨_, _, _, _, _, _, t__law_holds_7701, F46, PySem.W.mg_of X G a46, b46⟩
    · exact ⟨_, _, _, _, _, _, t__law_plain_01db, F47, PySem.W.mg_of X G a47, b47⟩
    · exact ⟨_, _, _, _, _, _, t__law_claim_468c, F48, PySem.W.mg_of X G a48, b48⟩
    · exact ⟨_, _, _, _, _, _, t__law_asked_182b, F49, PySem.W.mg_of X G a49, b49⟩
  exact ⟨PySem.W.fnOf "law" "law" (defArgs s_law) (defBody s_law) (defScope s_law) .none kV50 dc50 pm50 an50 cd50 ct50, fun s v => .of_eq rfl, fun base _ _ => law_ok F50 t_law rfl bt (all_fns bt hall 8) lawRun⟩
end Sr
open PySem PySem.W PyProof.Rows
set_option maxRecDepth 100000 in
set_option maxHeartbeats 0 in
theorem PySem.Challenge.cw_seer_k47_claims_keep_boxes_holds : PySem.Challenge.rw_seer_k47_claims_keep_boxes.Holds := by
  w_on; o_law; k_head; (case hw => w_witness2)
  k_fill
  refine Sr.walk (l := PySem.Challenge.rw_seer_k47_claims_keep_boxes) (k := 8 + 1) (x := "script") (by decide) rfl rfl (fun w h Y => PySem.W.kIn_of Y) ?F
  case F =>
    intro w mg fa h KX G hmg
    refine' Sr.all_mk KX G hmg ?a0 ?l0 ?c0 ?k0 ?a1 ?l1 ?c1 ?k1 ?a2 ?l2 ?c2 ?k2 ?a3 ?l3 ?c3 ?k3 ?a4 ?l4 ?c4 ?k4 ?a5 ?l5 ?c5 ?k5 ?a6 ?l6 ?c6 ?k6 ?a7 ?l7 ?c7 ?k7 ?a8 ?l8 ?c8 ?k8 ?a9 ?l9 ?c9 ?k9 ?a10 ?l10 ?c10 ?k10 ?a11 ?l11 ?c11 ?k11 ?a12 ?l12 ?c12 ?k12 ?a13 ?l13 ?c13 ?k13 ?a14 ?l14 ?c14 ?k14 ?a15 ?l15 ?c15 ?k15 ?a16 ?l16 ?c16 ?k16 ?a17 ?l17 ?c17 ?k17 ?a18 ?l18 ?c18 ?k18 ?a19 ?l19 ?c19 ?k19 ?a20 ?l20 ?c20 ?k20 ?a21 ?l21 ?c21 ?k21 ?a22 ?l22 ?c22 ?k22 ?a23 ?l23 ?c23 ?k23 ?a24 ?l24 ?c24 ?k24 ?a25 ?l25 ?c25 ?k25 ?a26 ?l26 ?c26 ?k26 ?a27 ?l27 ?c27 ?k27 ?a28 ?l28 ?c28 ?k28 ?a29 ?l29 ?c29 ?k29 ?a30 ?l30 ?c30 ?k30 ?a31 ?l31 ?c31 ?k31 ?a32 ?l32 ?c32 ?k32 ?a33 ?l33 ?c33 ?k33 ?a34 ?l34 ?c34 ?k34 ?a35 ?l35 ?c35 ?k35 ?a36 ?l36 ?c36 ?k36 ?a37 ?l37 ?c37 ?k37 ?a38 ?l38 ?c38 ?k38 ?a39 ?l39 ?c39 ?k39 ?a40 ?l40 ?c40 ?k40 ?a41 ?l41 ?c41 ?k41 ?a42 ?l42 ?c42 ?k42 ?a43 ?l43 ?c43 ?k43 ?a44 ?l44 ?c44 ?k44 ?a45 ?l45 ?c45 ?k45 ?a46 ?l46 ?c46 ?k46 ?a47 ?l47 ?c47 ?k47 ?a48 ?l48 ?c48 ?k48 ?a49 ?l49 ?c49 ?k49 ?a50 ?l50 ?c50 ?k50 ?z0 ?z1 ?z2 ?z3 ?z4 ?z5 ?z6 ?z7 ?z8 ?z9 ?z10 ?z11 ?z12 ?z13
    (case a0 => k_is); (case l0 => k_is); (case c0 => k_is); (case k0 => k_is); (case a1 => k_is); (case l1 => k_is); (case c1 => k_is); (case k1 => k_is); (case a2 => k_is); (case l2 => k_is); (case c2 => k_is); (case k2 => k_is); (case a3 => k_is); (case l3 => k_is); (case c3 => k_is); (case k3 => k_is); (case a4 => k_is); (case l4 => k_is); (case c4 => k_is); (case k4 => k_is); (case a5 => k_is); (case l5 => k_is); (case c5 => k_is); (case k5 => k_is); (case a6 => k_is); (case l6 => k_is); (case c6 => k_is); (case k6 => k_is); (case a7 => k_is); (case l7 => k_is); (case c7 => k_is); (case k7 => k_is); (case a8 => k_is); (case l8 => k_is); (case c8 => k_is); (case k8 => k_is); (case a9 => k_is); (case l9 => k_is); (case c9 => k_is); (case k9 => k_is); (case a10 => k_is); (case l10 => k_is); (case c10 => k_is); (case k10 => k_is); (case a11 => k_is); (case l11 => k_is); (case c11 => k_is); (case k11 => k_is); (case a12 => k_is); (case l12 => k_is); (case c12 => k_is); (case k12 => k_is); (case a13 => k_is); (case l13 => k_is); (case c13 => k_is); (case k13 => k_is); (case a14 => k_is); (case l14 => k_is); (case c14 => k_is); (case k14 => k_is); (case a15 => k_is); (case l15 => k_is); (case c15 => k_is); (case k15 => k_is); (case a16 => k_is); (case l16 => k_is); (case c16 => k_is); (case k16 => k_is); (case a17 => k_is); (case l17 => k_is); (case c17 => k_is); (case k17 => k_is); (case a18 => k_is); (case l18 => k_is); (case c18 => k_is); (case k18 => k_is); (case a19 => k_is); (case l19 => k_is); (case c19 => k_is); (case k19 => k_is); (case a20 => k_is); (case l20 => k_is); (case c20 => k_is); (case k20 => k_is); (case a21 => k_is); (case l21 => k_is); (case c21 => k_is); (case k21 => k_is); (case a22 => k_is); (case l22 => k_is); (case c22 => k_is); (case k22 => k_is); (case a23 => k_is); (case l23 => k_is); (case c23 => k_is); (case k23 => k_is); (case a24 => k_is); (case l24 => k_is); (case c24 => k_is); (case k24 => k_is); (case a25 => k_is); (case l25 => k_is); (case c25 => k_is); (case k25 => k_is); (case a26 => k_is); (case l26 => k_is); (case c26 => k_is); (case k26 => k_is); (case a27 => k_is); (case l27 => k_is); (case c27 => k_is); (case k27 => k_is); (case a28 => k_is); (case l28 => k_is); (case c28 => k_is); (case k28 => k_is); (case a29 => k_is); (case l29 => k_is); (case c29 => k_is); (case k29 => k_is); (case a30 => k_is); (case l30 => k_is); (case c30 => k_is); (case k30 => k_is); (case a31 => k_is); (case l31 => k_is); (case c31 => k_is); (case k31 => k_is); (case a32 => k_is); (case l32 => k_is); (case c32 => k_is); (case k32 => k_is); (case a33 => k_is); (case l33 => k_is); (case c33 => k_is); (case k33 => k_is); (case a34 => k_is); (case l34 => k_is); (case c34 => k_is); (case k34 => k_is); (case a35 => k_is); (case l35 => k_is); (case c35 => k_is); (case k35 => k_is); (case a36 => k_is); (case l36 => k_is); (case c36 => k_is); (case k36 => k_is); (case a37 => k_is); (case l37 => k_is); (case c37 => k_is); (case k37 => k_is); (case a38 => k_is); (case l38 => k_is); (case c38 => k_is); (case k38 => k_is); (case a39 => k_is); (case l39 => k_is); (case c39 => k_is); (case k39 => k_is); (case a40 => k_is); (case l40 => k_is); (case c40 => k_is); (case k40 => k_is); (case a41 => k_is); (case l41 => k_is); (case c41 => k_is); (case k41 => k_is); (case a42 => k_is); (case l42 => k_is); (case c42 => k_is); (case k42 => k_is); (case a43 => k_is); (case l43 => k_is); (case c43 => k_is); (case k43 => k_is); (case a44 => k_is); (case l44 => k_is); (case c44 => k_is); (case k44 => k_is); (case a45 => k_is); (case l45 => k_is); (case c45 => k_is); (case k45 => k_is); (case a46 => k_is); (case l46 => k_is); (case c46 => k_is); (case k46 => k_is); (case a47 => k_is); (case l47 => k_is); (case c47 => k_is); (case k47 => k_is); (case a48 => k_is); (case l48 => k_is); (case c48 => k_is); (case k48 => k_is); (case a49 => k_is); (case l49 => k_is); (case c49 => k_is); (case k49 => k_is); (case a50 => k_is); (case l50 => k_is); (case c50 => k_is); (case k50 => k_is); (case z0 => k_is); (case z1 => k_is); (case z2 => k_is); (case z3 => k_is); (case z4 => k_is); (case z5 => k_is); (case z6 => k_is); (case z7 => k_is); (case z8 => k_is); (case z9 => k_is); (case z10 => k_is); (case z11 => k_is); (case z12 => k_is); (case z13 => k_is)
