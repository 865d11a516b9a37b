import PyProof.Rows.All
import PySem.Str
import Wide.All
import OpenK.AllK
import Wide.FinOn
import KE.DataEq
import HandS.ForMost
import HandS.Walk
import HandS.TupAny
import HandS.TupLe
import HandS.Conv
import HandS.IsInst
import HandS.Deep
import HandS.Zip
import HandS.Wide
import HandS.Style
import HandS.Defaults
import KE.GoesEnum
import HandS.Head0
import HandS.Head1
import HandS.Head2
import HandS.HeadEnd
import HandS.EndBits
import HandS.HeadHook1
import HandS.HeadHook2
import PySem.Challenge.RW_levelmaps_k04_whole_totals_of_neighbouri
set_option Elab.async false
set_option linter.all false
set_option maxRecDepth 100000
set_option maxHeartbeats 4000000

/-! The data level: plain values of the programs, slots, and the small machine of combinators that a def's body is turned into. Nothing of Python's model stands here. -/
namespace DL
open PySem
abbrev Ky := Sum Int Str
/-- a plain value, without addresses -/
inductive D where
  | non | bl (b : Bool) | int (i : Int) | str (s : Str)
  | lst (xs : List D) | tup (xs : List D)
  | dK (ks : List Ky) (vs : List D) | dT (ks : List (List Ky)) (vs : List D)
  deriving Inhabited
/-- a slot: unbound (or not told), a value that nobody changes any more, a list of the slot's own -/
inductive Sl where
  | un | im (d : D) | ow (xs : List D)
  deriving Inhabited
abbrev Env := List Sl
/-- what a def hands back: a value, or a new list -/
inductive Rv where
  | im (d : D) | ow (xs : List D)
inductive Fl where
  | nx | bk | ct | ret (r : Rv)
abbrev M (α : Type) := Env → Option (α × Env)
/-- the most items that a list or tuple may have -/
abbrev cap : Nat := 16777216
mutual
/-- == of Python -/
def D.eqv : D → D → Bool
  | .non, .non => true
  | .bl a, .bl b => a == b
  | .bl a, .int j => (if a then 1 else 0) == j
  | .int i, .bl b => i == (if b then 1 else 0)
  | .int i, .int j => i == j
  | .str x, .str y => x == y
  | .lst xs, .lst ys => D.eqvL xs ys
  | .tup xs, .tup ys => D.eqvL xs ys
  | _, _ => false
def D.eqvL : List D → List D → Bool
  | [], [] => true
  | x :: xs, y :: ys => D.eqv x y && D.eqvL xs ys
  | _, _ => false
end
mutual
/-- no dict within -/
def D.pl : D → Bool
  | .lst xs | .tup xs => D.plL xs
  | .dK _ _ | .dT _ _ => false
  | _ => true
def D.plL : List D → Bool
  | [] => true
  | x :: xs => D.pl x && D.plL xs
end
mutual
def D.dep : D → Nat
  | .lst xs | .tup xs => D.depL xs + 1
  | _ => 0
def D.depL : List D → Nat
  | [] => 0
  | x :: xs => max (D.dep x) (D.depL xs)
end
/-- comparable by == within the model's depth -/
def D.ok (d : D) : Bool := D.pl d && decide (D.dep d ≤ 60)

/-! ### places -/
def ix (n : Nat) (i : Int) : Option Nat := if 0 ≤ i then (if i < n then some i.toNat else none) else if -(n : Int) ≤ i then some (i + n).toNat else none
def at' (xs : List D) (i : Int) : Option D := match ix xs.length i with
  | none => none
  | some j => xs[j]?
def six (n d : Nat) : Option Int → Nat
  | none => d
  | some v => if v < 0 then (v + (n : Int)).toNat else min v.toNat n
def cut (xs : List D) (lo hi : Option Int) : List D := (xs.drop (six xs.length 0 lo)).take (six xs.length xs.length hi - six xs.length 0 lo)

/-! ### operations on values -/
def oAdd : D → D → Option D
  | .int i, .int j => some (.int (i + j))
  | .tup a, .tup b => if a.length + b.length ≤ cap then some (.tup (a ++ b)) else none
  | .lst a, .lst b => if a.length + b.length ≤ cap then some (.lst (a ++ b)) else none
  | _, _ => none
def oAddI : D → D → Option D
  | .int i, .int j => some (.int (i + j))
  | _, _ => none
def oSub : D → D → Option D
  | .int i, .int j => some (.int (i - j))
  | _, _ => none
def small (i : Int) : Bool := decide (-(2 ^ 64) < i ∧ i < 2 ^ 64)
def oMul : D → D → Option D
  | .int i, .int j => if small i || small j then some (.int (i * j)) else none
  | _, _ => none
def oDiv : D → D → Option D
  | .int i, .int j => if decide (0 < j ∧ j < 2 ^ 64) then some (.int (i / j)) else none
  | _, _ => none
def oMod : D → D → Option D
  | .int i, .int j => if decide (0 < j) then some (.int (i % j)) else none
  | _, _ => none
def oPow : D → D → Option D
  | .int i, .int j => if decide (0 ≤ j ∧ j ≤ 1000000 ∧ i.natAbs < 2 ^ 64) then some (.int (i ^ j.toNat)) else none
  | _, _ => none
def oNeg : D → Option D
  | .int i => some (.int (-i))
  | _ => none
def oEq (x y : D) : Option D := if D.ok x && D.ok y then some (.bl (D.eqv x y)) else none
def oNe (x y : D) : Option D := if D.ok x && D.ok y then some (.bl (!D.eqv x y)) else none
def oLt : D → D → Option D
  | .int i, .int j => some (.bl (decide (i < j)))
  | _, _ => none
def oLe : D → D → Option D
  | .int i, .int j => some (.bl (decide (i ≤ j)))
  | _, _ => none
def oGt : D → D → Option D
  | .int i, .int j => some (.bl (decide (j < i)))
  | _, _ => none
def oGe : D → D → Option D
  | .int i, .int j => some (.bl (decide (j ≤ i)))
  | _, _ => none
def D.isNon : D → Bool
  | .non => true
  | _ => false
/-- x is None (the right side is None) -/
def oIsN (x y : D) : Option D := if D.isNon y then some (.bl (D.isNon x)) else none
def oNotN (x y : D) : Option D := if D.isNon y then some (.bl (!D.isNon x)) else none
def oIsB : D → D → Option D
  | .bl a, .bl b => some (.bl (decide (a = b)))
  | _, _ => none
def oNotB : D → D → Option D
  | .bl a, .bl b => some (.bl (!decide (a = b)))
  | _, _ => none
def oIn (x y : D) : Option D := match y with
  | .lst ds | .tup ds => if D.ok x && D.plL ds && decide (D.depL ds ≤ 60) then some (.bl (ds.any fun z => D.eqv z x)) else none
  | _ => none
def oNotIn (x y : D) : Option D := match y with
  | .lst ds | .tup ds => if D.ok x && D.plL ds && decide (D.depL ds ≤ 60) then some (.bl (!ds.any fun z => D.eqv z x)) else none
  | _ => none
def oIx : D → D → Option D
  | .lst xs, .int i | .tup xs, .int i => at' xs i
  | _, _ => none
/-! ### built-ins -/
def D.ints : List D → Option (List Int)
  | [] => some []
  | .int i :: r => match D.ints r with
    | none => none
    | some l => some (i :: l)
  | _ => none
def D.bls : List D → Option (List Bool)
  | [] => some []
  | .bl b :: r => match D.bls r with
    | none => none
    | some l => some (b :: l)
  | _ => none
def fLen : List D → Option D
  | [.lst xs] | [.tup xs] => some (.int xs.length)
  | _ => none
def maxI (a : Int) (l : List Int) : Int := l.foldl max a
def minI (a : Int) (l : List Int) : Int := l.foldl min a
def fMax : List D → Option D
  | [.int i, .int j] => some (.int (max i j))
  | [.lst xs] => match D.ints xs with
    | some (a :: l) => some (.int (maxI a l))
    | _ => none
  | _ => none
def fMin : List D → Option D
  | [.int i, .int j] => some (.int (min i j))
  | [.lst xs] => match D.ints xs with
    | some (a :: l) => some (.int (minI a l))
    | _ => none
  | _ => none
def fSum : List D → Option D
  | [.lst xs] => match D.ints xs with
    | none => none
    | some l => some (.int l.sum)
  | _ => none
def fAbs : List D → Option D
  | [.int i] => some (.int (if i < 0 then -i else i))
  | _ => none
def fAll : List D → Option D
  | [.lst xs] => match D.bls xs with
    | none => none
    | some l => some (.bl (l.all id))
  | _ => none
def fAny : List D → Option D
  | [.lst xs] => match D.bls xs with
    | none => none
    | some l => some (.bl (l.any id))
  | _ => none
def fTuple : List D → Option D
  | [.lst xs] | [.tup xs] => some (.tup xs)
  | _ => none
def fList : List D → Option D
  | [.lst xs] | [.tup xs] => some (.lst xs)
  | _ => none
def fInt : List D → Option D
  | [.int i] => some (.int i)
  | [.bl b] => some (.int (if b then 1 else 0))
  | _ => none
/-- the five built-in types that the laws ask for -/
inductive Ty where
  | bool | int | str | list | tuple
  deriving DecidableEq
def D.isA : D → Ty → Bool
  | .bl _, .bool | .bl _, .int | .int _, .int | .str _, .str | .lst _, .list | .tup _, .tuple => true
  | _, _ => false
def rng (a b : Int) : List D := (List.range (b - a).toNat).map fun i => .int (a + (i : Nat))

/-! ### expressions -/
def mVar (i : Nat) : M D := fun e => match e[i]? with
  | some (.im d) => some (d, e)
  | _ => none
def mC (d : D) : M D := fun e => some (d, e)
def mBin (op : D → D → Option D) (a b : M D) : M D := fun e => match a e with
  | none => none
  | some (x, e1) => match b e1 with
    | none => none
    | some (y, e2) => match op x y with
      | none => none
      | some z => some (z, e2)
def mUn (op : D → Option D) (a : M D) : M D := fun e => match a e with
  | none => none
  | some (x, e1) => match op x with
    | none => none
    | some z => some (z, e1)
/-- a op1 b op2 c -/
def mChain (op op' : D → D → Option D) (a b c : M D) : M D := fun e => match a e with
  | none => none
  | some (x, e1) => match b e1 with
    | none => none
    | some (y, e2) => match op x y with
      | some (.bl true) => (match c e2 with
        | none => none
        | some (z, e3) => match op' y z with
          | none => none
          | some u => some (u, e3))
      | some (.bl false) => some (.bl false, e2)
      | _ => none
def mIf (t : M Bool) (a b : M D) : M D := fun e => match t e with
  | none => none
  | some (true, e1) => a e1
  | some (false, e1) => b e1
def mNil : M (List D) := fun e => some ([], e)
def mCons (a : M D) (r : M (List D)) : M (List D) := fun e => match a e with
  | none => none
  | some (x, e1) => match r e1 with
    | none => none
    | some (xs, e2) => some (x :: xs, e2)
def mTup (a : M (List D)) : M D := fun e => match a e with
  | none => none
  | some (xs, e1) => if xs.length ≤ cap then some (.tup xs, e1) else none
/-- a call by values -/
def mF (f : List D → Option D) (a : M (List D)) : M D := fun e => match a e with
  | none => none
  | some (xs, e1) => match f xs with
    | none => none
    | some d => some (d, e1)
/-- a call that changes the caller's own list in slot j: its first argument -/
def mFI (f : List D → List D → Option (D × List D)) (j : Nat) (a : M (List D)) : M D := fun e => match e[j]? with
  | some (.ow _) => (match a e with
    | none => none
    | some (xs, e1) => match e1[j]? with
      | some (.ow s) => (match f s xs with
        | none => none
        | some (d, s') => some (d, e1.set j (.ow s')))
      | _ => none)
  | _ => none
def oIsi (t : Ty) : D → Option D
  | .dK _ _ | .dT _ _ => none
  | d => some (.bl (d.isA t))
def mIsi (t : Ty) (a : M D) : M D := mUn (oIsi t) a
/-- isinstance(x, (t, u)) -/
def oIsi2 (t u : Ty) : D → Option D
  | .dK _ _ | .dT _ _ => none
  | d => some (.bl (d.isA t || d.isA u))
def mIsi2 (t u : Ty) (a : M D) : M D := mUn (oIsi2 t u) a
def oPart (f : List D → List D) : D → Option D
  | .lst xs => some (.lst (f xs))
  | .tup xs => some (.tup (f xs))
  | _ => none
def D.oi : D → Option (Option Int)
  | .int i => some (some i)
  | _ => none
def mPart (a : M D) : M (Option Int) := fun e => match a e with
  | some (.int i, e1) => some (some i, e1)
  | _ => none
def mNoPart : M (Option Int) := fun e => some (none, e)
def mSlice (a : M D) (lo hi : M (Option Int)) : M D := fun e => match a e with
  | none => none
  | some (x, e1) => match lo e1 with
    | none => none
    | some (l, e2) => match hi e2 with
      | none => none
      | some (h, e3) => match oPart (fun xs => cut xs l h) x with
        | none => none
        | some z => some (z, e3)
/-- own[i], len(own), own == [], own != [] -/
def mOIx (j : Nat) (a : M D) : M D := fun e => match e[j]? with
  | some (.ow _) => (match a e with
    | some (.int i, e1) => (match e1[j]? with
      | some (.ow xs) => (match at' xs i with
        | none => none
        | some d => some (d, e1))
      | _ => none)
    | _ => none)
  | _ => none
def mOLen (j : Nat) : M D := fun e => match e[j]? with
  | some (.ow xs) => some (.int xs.length, e)
  | _ => none
/-- own op y, x op own -/
def mOBin (op : D → D → Option D) (j : Nat) (b : M D) : M D := fun e => match e[j]? with
  | some (.ow _) => (match b e with
    | none => none
    | some (y, e1) => match e1[j]? with
      | some (.ow xs) => (match op (.lst xs) y with
        | none => none
        | some z => some (z, e1))
      | _ => none)
  | _ => none
def mBinO (op : D → D → Option D) (a : M D) (j : Nat) : M D := fun e => match a e with
  | none => none
  | some (x, e1) => match e1[j]? with
    | some (.ow xs) => (match op x (.lst xs) with
      | none => none
      | some z => some (z, e1))
    | _ => none
/-! ### tests -/
def tVal (a : M D) : M Bool := fun e => match a e with
  | some (.bl b, e1) => some (b, e1)
  | _ => none
def tAnd (a b : M Bool) : M Bool := fun e => match a e with
  | none => none
  | some (true, e1) => b e1
  | some (false, e1) => some (false, e1)
def tOr (a b : M Bool) : M Bool := fun e => match a e with
  | none => none
  | some (true, e1) => some (true, e1)
  | some (false, e1) => b e1
def tNot (a : M Bool) : M Bool := fun e => match a e with
  | none => none
  | some (b, e1) => some (!b, e1)
def tYes : M Bool := fun e => some (true, e)
/-- and, or, not as values: all but the last are truth values -/
def mAnd (a b : M D) : M D := fun e => match a e with
  | some (.bl true, e1) => b e1
  | some (.bl false, e1) => some (.bl false, e1)
  | _ => none
def mOr (a b : M D) : M D := fun e => match a e with
  | some (.bl true, e1) => some (.bl true, e1)
  | some (.bl false, e1) => b e1
  | _ => none
def mNot (a : M D) : M D := fun e => match a e with
  | some (.bl b, e1) => some (.bl (!b), e1)
  | _ => none
/-! ### what is walked -/
def iSeq (a : M D) : M (List D) := fun e => match a e with
  | some (.lst xs, e1) => some (xs, e1)
  | some (.tup xs, e1) => some (xs, e1)
  | _ => none
def inR (i : Int) : Bool := decide (-(2 ^ 62) ≤ i ∧ i < 2 ^ 62)
def iRng (a b : M D) : M (List D) := fun e => match a e with
  | some (.int i, e1) => (match b e1 with
    | some (.int j, e2) => if inR i && inR j then some (rng i j, e2) else none
    | _ => none)
  | _ => none
/-- range(a, b, -1) -/
def rngD (a b : Int) : List D := (List.range (a - b).toNat).map fun i => .int (a + (i : Nat) * -1)
def iRngD (a b : M D) : M (List D) := fun e => match a e with
  | some (.int i, e1) => (match b e1 with
    | some (.int j, e2) => if inR i && inR j then some (rngD i j, e2) else none
    | _ => none)
  | _ => none
def zipD : List D → List D → List D
  | x :: xs, y :: ys => .tup [x, y] :: zipD xs ys
  | _, _ => []
def enumD : Nat → List D → List D
  | _, [] => []
  | i, x :: xs => .tup [.int (i : Nat), x] :: enumD (i + 1) xs
def iZip (a b : M D) : M (List D) := fun e => match a e with
  | some (.lst xs, e1) => (match b e1 with
    | some (.lst ys, e2) => some (zipD xs ys, e2)
    | _ => none)
  | some (.tup xs, e1) => (match b e1 with
    | some (.tup ys, e2) => some (zipD xs ys, e2)
    | _ => none)
  | _ => none
def iEnum (a : M D) : M (List D) := fun e => match iSeq a e with
  | none => none
  | some (xs, e1) => some (enumD 0 xs, e1)
/-! ### targets -/
abbrev Pt := D → Env → Option Env
def pN (i : Nat) : Pt := fun d e => if i < e.length then some (e.set i (.im d)) else none
def pTs : List Pt → List D → Env → Option Env
  | [], [], e => some e
  | p :: ps, d :: ds, e => (match p d e with
    | none => none
    | some e1 => pTs ps ds e1)
  | _, _, _ => none
def pT (ps : List Pt) : Pt := fun d e => match d with
  | .tup ds => pTs ps ds e
  | _ => none
/-! ### comprehensions -/
def wipeE (e : Env) : List Nat → Env
  | [] => e
  | v :: vs => (wipeE e vs).set v .un
def backE (e0 e : Env) : List Nat → Env
  | [] => e
  | v :: vs => (backE e0 e vs).set v (match e0[v]? with
    | some (.im d) => .im d
    | _ => .un)
def compL (vs : List Nat) (p : Pt) (t : M Bool) (elt : M D) : List D → Env → List D → Option (List D × Env)
  | [], e, acc => some (acc, e)
  | d :: ds, e, acc => match p d (wipeE e vs) with
    | none => none
    | some e1 => match t e1 with
      | none => none
      | some (false, e2) => compL vs p t elt ds e2 acc
      | some (true, e2) => match elt e2 with
        | none => none
        | some (y, e3) => if acc.length < cap then compL vs p t elt ds e3 (acc ++ [y]) else none
def mComp (vs : List Nat) (it : M (List D)) (p : Pt) (t : M Bool) (elt : M D) : M (List D) := fun e => match it e with
  | none => none
  | some (ds, e1) => match compL vs p t elt ds (wipeE e1 vs) [] with
    | none => none
    | some (acc, e2) => some (acc, backE e1 e2 vs)
/-- a new list as a value -/
def mFr (a : M (List D)) : M D := fun e => match a e with
  | none => none
  | some (xs, e1) => some (.lst xs, e1)
def mLst (a : M (List D)) : M (List D) := fun e => match a e with
  | none => none
  | some (xs, e1) => if xs.length ≤ cap then some (xs, e1) else none
/-- a new list that an operation on values makes -/
def mNew (a : M D) : M (List D) := fun e => match a e with
  | some (.lst xs, e1) => some (xs, e1)
  | _ => none
/-! ### statements -/
abbrev Ms := M Fl
def sSet (p : Pt) (a : M D) : Ms := fun e => match a e with
  | none => none
  | some (d, e1) => match p d e1 with
    | none => none
    | some e2 => some (.nx, e2)
def sNew (i : Nat) (a : M (List D)) : Ms := fun e => match a e with
  | none => none
  | some (xs, e1) => if i < e1.length then some (.nx, e1.set i (.ow xs)) else none
/-- a value, or a new list, to be bound -/
def mIm (a : M D) : M Sl := fun e => match a e with
  | none => none
  | some (d, e1) => some (.im d, e1)
def mOw (a : M (List D)) : M Sl := fun e => match a e with
  | none => none
  | some (d, e1) => some (.ow d, e1)
/-- a, b = x, y -/
def sPar (i j : Nat) (a b : M Sl) : Ms := fun e => match a e with
  | none => none
  | some (x, e1) => match b e1 with
    | none => none
    | some (y, e2) => if i < e2.length && j < e2.length then some (.nx, (e2.set i x).set j y) else none
def sPar3 (i j l : Nat) (a b c : M Sl) : Ms := fun e => match a e with
  | none => none
  | some (x, e1) => match b e1 with
    | none => none
    | some (y, e2) => match c e2 with
      | none => none
      | some (z, e3) => if i < e3.length && j < e3.length && l < e3.length then some (.nx, ((e3.set i x).set j y).set l z) else none
def sAug (i : Nat) (op : D → D → Option D) (a : M D) : Ms := fun e => match e[i]? with
  | some (.im x) => (match a e with
    | none => none
    | some (y, e1) => match op x y with
      | none => none
      | some z => if i < e1.length then some (.nx, e1.set i (.im z)) else none)
  | _ => none
/-- own.append(x) -/
def sApp (j : Nat) (a : M D) : Ms := fun e => match e[j]? with
  | some (.ow _) => (match a e with
    | none => none
    | some (d, e1) => match e1[j]? with
      | some (.ow xs) => if xs.length < cap then some (.nx, e1.set j (.ow (xs ++ [d]))) else none
      | _ => none)
  | _ => none
/-- own[i] = x -/
def sOSet (j : Nat) (i a : M D) : Ms := fun e => match e[j]? with
  | some (.ow _) => (match a e with
    | none => none
    | some (d, e1) => match i e1 with
      | some (.int k, e2) => (match e2[j]? with
        | some (.ow xs) => (match ix xs.length k with
          | none => none
          | some n => some (.nx, e2.set j (.ow (xs.set n d))))
        | _ => none)
      | _ => none)
  | _ => none
/-- own += a list -/
def sExt (j : Nat) (a : M (List D)) : Ms := fun e => match e[j]? with
  | some (.ow _) => (match a e with
    | none => none
    | some (ys, e1) => match e1[j]? with
      | some (.ow xs) => if xs.length + ys.length ≤ cap then some (.nx, e1.set j (.ow (xs ++ ys))) else none
      | _ => none)
  | _ => none
def sExpr (a : M D) : Ms := fun e => match a e with
  | none => none
  | some (_, e1) => some (.nx, e1)
def sRet (a : M D) : Ms := fun e => match a e with
  | none => none
  | some (d, e1) => some (.ret (.im d), e1)
def sRetN (a : M (List D)) : Ms := fun e => match a e with
  | none => none
  | some (xs, e1) => some (.ret (.ow xs), e1)
/-- return own -/
def sRetO (j : Nat) : Ms := fun e => match e[j]? with
  | some (.ow xs) => some (.ret (.ow xs), e)
  | _ => none
def sPass : Ms := fun e => some (.nx, e)
def sBreak : Ms := fun e => some (.bk, e)
def sCont : Ms := fun e => some (.ct, e)
def sNever : Ms := fun _ => none
def sSeq (a b : Ms) : Ms := fun e => match a e with
  | none => none
  | some (.nx, e1) => b e1
  | some (f, e1) => some (f, e1)
def sIf (t : M Bool) (a b : Ms) : Ms := fun e => match t e with
  | none => none
  | some (true, e1) => a e1
  | some (false, e1) => b e1
/-- from here on the own list in slot j is a value -/
def frzE (j : Nat) (e : Env) : Env := match e[j]? with
  | some (.ow xs) => e.set j (.im (.lst xs))
  | _ => e
def sFrz (j : Nat) (a : Ms) : Ms := fun e => a (frzE j e)
def forL (p : Pt) (b : Ms) : List D → Env → Option (Fl × Env)
  | [], e => some (.nx, e)
  | d :: ds, e => match p d e with
    | none => none
    | some e1 => match b e1 with
      | none => none
      | some (.nx, e2) => forL p b ds e2
      | some (.ct, e2) => forL p b ds e2
      | some (.bk, e2) => some (.nx, e2)
      | some (.ret r, e2) => some (.ret r, e2)
def sFor (it : M (List D)) (p : Pt) (b : Ms) : Ms := fun e => match it e with
  | none => none
  | some (ds, e1) => forL p b ds e1
def whileN (t : M Bool) (b : Ms) : Nat → Env → Option (Fl × Env)
  | 0, _ => none
  | n + 1, e => match t e with
    | none => none
    | some (false, e1) => some (.nx, e1)
    | some (true, e1) => match b e1 with
      | none => none
      | some (.nx, e2) => whileN t b n e2
      | some (.ct, e2) => whileN t b n e2
      | some (.bk, e2) => some (.nx, e2)
      | some (.ret r, e2) => some (.ret r, e2)
def sWhile (n : Nat) (t : M Bool) (b : Ms) : Ms := whileN t b n
/-! ### a def -/
def env0 (k : Nat) (ds : List D) : Env := ds.map .im ++ List.replicate (k - ds.length) .un
/-- hands back a value -/
def runD (n k : Nat) (m : Ms) (ds : List D) : Option D := if ds.length = n then (match m (env0 k ds) with
  | some (.nx, _) => some .non
  | some (.ret (.im d), _) => some d
  | _ => none) else none
/-- hands back a new list -/
def runN (n k : Nat) (m : Ms) (ds : List D) : Option (List D) := if ds.length = n then (match m (env0 k ds) with
  | some (.ret (.ow xs), _) => some xs
  | _ => none) else none
/-- changes its first argument, a list of the caller's own, and hands back a value -/
def runI (n k : Nat) (m : Ms) (s : List D) (ds : List D) : Option (D × List D) := if ds.length + 1 = n then (match m (.ow s :: env0 (k - 1) ds) with
  | some (.nx, .ow s' :: _) => some (.non, s')
  | some (.ret (.im d), .ow s' :: _) => some (d, s')
  | _ => none) else none
/-- list(x), a new one -/
def fListN : List D → Option (List D)
  | [.lst xs] | [.tup xs] => some xs
  | _ => none
/-- tuple(range(a, b)), list(range(a, b)) -/
def mRg (a b : M D) : M (List D) := fun e => match a e with
  | some (.int i, e1) => (match b e1 with
    | some (.int j, e2) => if inR i && inR j && decide ((j - i).toNat ≤ cap) then some (rng i j, e2) else none
    | _ => none)
  | _ => none
def mTupL (a : M (List D)) : M D := fun e => match a e with
  | none => none
  | some (xs, e1) => some (.tup xs, e1)
/-- xs[::-1] -/
def mRev (a : M D) : M (List D) := fun e => match a e with
  | some (.lst xs, e1) => some (xs.reverse, e1)
  | _ => none
/-- arguments some of which are own lists that the caller keeps: f may only look at them, and hands back a value without parts -/
def mConsO (j : Nat) (r : M (List D)) : M (List D) := fun e => match e[j]? with
  | some (.ow _) => (match r e with
    | none => none
    | some (xs, e1) => match e1[j]? with
      | some (.ow ys) => some (.lst ys :: xs, e1)
      | _ => none)
  | _ => none
def D.flat : D → Bool
  | .non | .bl _ | .int _ | .str _ => true
  | _ => false
def mFb (f : List D → Option D) (a : M (List D)) : M D := fun e => match a e with
  | none => none
  | some (xs, e1) => match f xs with
    | none => none
    | some d => if D.flat d then some (d, e1) else none
/-- t[::-1] of a tuple -/
def mRevT (a : M D) : M D := fun e => match a e with
  | some (.tup xs, e1) => some (.tup xs.reverse, e1)
  | _ => none
/-- a new list of a call -/
def mFN (f : List D → Option (List D)) (a : M (List D)) : M (List D) := fun e => match a e with
  | none => none
  | some (xs, e1) => match f xs with
    | none => none
    | some d => some (d, e1)
end DL

namespace DL
open PySem PySem.Spec PyProof.Rows L2
/-! ### a value at a heap -/
mutual
inductive Rep (K : PySem.W.Frag) (H : Hp) : V → D → Prop
  | non : Rep K H .non .non
  | bl (b : Bool) : Rep K H (.bl b) (.bl b)
  | int (i : Int) : Rep K H (.int i) (.int i)
  | str (x : Str) : Rep K H (.str x) (.str x)
  | lst {a : Addr} {xs : List V} {ds : List D} : SqL K H a xs → RepL K H xs ds → Rep K H (.ref a) (.lst ds)
  | tup {a : Addr} {xs : List V} {ds : List D} : SqT K H a xs → RepL K H xs ds → Rep K H (.ref a) (.tup ds)
  | dK {a : Addr} {ks : List Ky} {xs : List V} {ds : List D} : Rd H a (.dK (ks.zip xs)) → ks.length = xs.length → RepL K H xs ds → Rep K H (.ref a) (.dK ks ds)
  | dT {a : Addr} {ks : List (List Ky)} {xs : List V} {ds : List D} : Rd H a (.dT (ks.zip xs)) → ks.length = xs.length → RepL K H xs ds → Rep K H (.ref a) (.dT ks ds)
inductive RepL (K : PySem.W.Frag) (H : Hp) : List V → List D → Prop
  | nil : RepL K H [] []
  | cons {v : V} {vs : List V} {d : D} {ds : List D} : Rep K H v d → RepL K H vs ds → RepL K H (v :: vs) (d :: ds)
end
theorem rd_mono {H H' : Hp} {a : Addr} {u : HO} (s : Same H H') (r : Rd H a u) : Rd H' a u := by
  rcases r with r | ⟨o, r⟩
  · exact .inl (s _ _ r)
  · exact .inr ⟨o, s _ _ r⟩
theorem sqT_mono {K : PySem.W.Frag} {H H' : Hp} {a : Addr} {xs : List V} (s : Same H H') (h : SqT K H a xs) : SqT K H' a xs := by
  rcases h with h | h
  · exact .inl (rd_mono s h)
  · exact .inr h
theorem sqL_mono {K : PySem.W.Frag} {H H' : Hp} {a : Addr} {xs : List V} (s : Same H H') (h : SqL K H a xs) : SqL K H' a xs := s.seq h
mutual
theorem Rep.mono {K : PySem.W.Frag} {H H' : Hp} (s : Same H H') : ∀ {v : V} {d : D}, Rep K H v d → Rep K H' v d
  | _, _, .non => .non
  | _, _, .bl b => .bl b
  | _, _, .int i => .int i
  | _, _, .str x => .str x
  | _, _, .lst h r => .lst (sqL_mono s h) (RepL.mono s r)
  | _, _, .tup h r => .tup (sqT_mono s h) (RepL.mono s r)
  | _, _, .dK h e r => .dK (rd_mono s h) e (RepL.mono s r)
  | _, _, .dT h e r => .dT (rd_mono s h) e (RepL.mono s r)
theorem RepL.mono {K : PySem.W.Frag} {H H' : Hp} (s : Same H H') : ∀ {vs : List V} {ds : List D}, RepL K H vs ds → RepL K H' vs ds
  | _, _, .nil => .nil
  | _, _, .cons r t => .cons (Rep.mono s r) (RepL.mono s t)
end
theorem RepL.length {K : PySem.W.Frag} {H : Hp} : ∀ {vs : List V} {ds : List D}, RepL K H vs ds → vs.length = ds.length
  | _, _, .nil => rfl
  | _, _, .cons _ t => by simp [RepL.length t]
theorem RepL.get {K : PySem.W.Frag} {H : Hp} : ∀ {vs : List V} {ds : List D} {i : Nat} {d : D}, RepL K H vs ds → ds[i]? = some d → ∃ v, vs[i]? = some v ∧ Rep K H v d
  | _, _, _, _, .nil, e => by simp at e
  | _, _, 0, _, .cons r _, e => by simp at e; subst e; exact ⟨_, rfl, r⟩
  | _, _, i + 1, d, .cons _ t, e => by
    obtain ⟨v, h1, h2⟩ := RepL.get (i := i) (d := d) t (by simpa using e)
    exact ⟨v, by simpa using h1, h2⟩
theorem RepL.getV {K : PySem.W.Frag} {H : Hp} : ∀ {vs : List V} {ds : List D} {i : Nat} {v : V}, RepL K H vs ds → vs[i]? = some v → ∃ d, ds[i]? = some d ∧ Rep K H v d
  | _, _, _, _, .nil, e => by simp at e
  | _, _, 0, _, .cons r _, e => by simp at e; subst e; exact ⟨_, rfl, r⟩
  | _, _, i + 1, v, .cons _ t, e => by
    obtain ⟨d, h1, h2⟩ := RepL.getV (i := i) (v := v) t (by simpa using e)
    exact ⟨d, by simpa using h1, h2⟩
theorem RepL.app {K : PySem.W.Frag} {H : Hp} : ∀ {vs ws : List V} {ds es : List D}, RepL K H vs ds → RepL K H ws es → RepL K H (vs ++ ws) (ds ++ es)
  | _, _, _, _, .nil, s => s
  | _, _, _, _, .cons r t, s => .cons r (RepL.app t s)
theorem RepL.take {K : PySem.W.Frag} {H : Hp} : ∀ {vs : List V} {ds : List D} (n : Nat), RepL K H vs ds → RepL K H (vs.take n) (ds.take n)
  | _, _, 0, _ => .nil
  | _, _, _ + 1, .nil => .nil
  | _, _, n + 1, .cons r t => .cons r (RepL.take n t)
theorem RepL.drop {K : PySem.W.Frag} {H : Hp} : ∀ {vs : List V} {ds : List D} (n : Nat), RepL K H vs ds → RepL K H (vs.drop n) (ds.drop n)
  | _, _, 0, r => r
  | _, _, _ + 1, .nil => .nil
  | _, _, n + 1, .cons _ t => RepL.drop n t
theorem RepL.set {K : PySem.W.Frag} {H : Hp} {v : V} {d : D} (r : Rep K H v d) : ∀ {vs : List V} {ds : List D} (n : Nat), RepL K H vs ds → RepL K H (vs.set n v) (ds.set n d)
  | _, _, _, .nil => .nil
  | _, _, 0, .cons _ t => .cons r t
  | _, _, n + 1, .cons q t => .cons q (RepL.set r n t)
theorem RepL.rev {K : PySem.W.Frag} {H : Hp} : ∀ {vs : List V} {ds : List D}, RepL K H vs ds → RepL K H vs.reverse ds.reverse
  | _, _, .nil => .nil
  | _, _, .cons r t => by
    rw [List.reverse_cons, List.reverse_cons]
    exact RepL.app (RepL.rev t) (.cons r .nil)
theorem RepL.ints {K : PySem.W.Frag} {H : Hp} : ∀ {vs : List V} {ds : List D} {ns : List Int}, RepL K H vs ds → D.ints ds = some ns → vs = ns.map V.int
  | _, _, ns, .nil, e => by
    have e' : [] = ns := Option.some.inj e
    subst e'; rfl
  | _, _, ns, .cons (d := d) r t, e => by
    cases r with
    | int i =>
      unfold D.ints at e
      split at e
      · cases e
      · rename_i l hl
        have e' : i :: l = ns := Option.some.inj e
        subst e'
        rw [RepL.ints t hl]; rfl
    | _ => simp [D.ints] at e
theorem RepL.of_ints {K : PySem.W.Frag} {H : Hp} : ∀ ns : List Int, RepL K H (ns.map V.int) (ns.map D.int)
  | [] => .nil
  | i :: r => .cons (.int i) (RepL.of_ints r)
theorem RepL.bls {K : PySem.W.Frag} {H : Hp} : ∀ {vs : List V} {ds : List D} {ns : List Bool}, RepL K H vs ds → D.bls ds = some ns → vs = ns.map V.bl
  | _, _, ns, .nil, e => by
    have e' : [] = ns := Option.some.inj e
    subst e'; rfl
  | _, _, ns, .cons (d := d) r t, e => by
    cases r with
    | bl i =>
      unfold D.bls at e
      split at e
      · cases e
      · rename_i l hl
        have e' : i :: l = ns := Option.some.inj e
        subst e'
        rw [RepL.bls t hl]; rfl
    | _ => simp [D.bls] at e
/-! ### as the library's data -/
mutual
def toPy : D → PyData
  | .non => .none
  | .bl b => .bool b
  | .int i => .int i
  | .str x => .str x
  | .lst xs => .list (toPyL xs)
  | .tup xs => .tuple (toPyL xs)
  | .dK _ _ => .dict []
  | .dT _ _ => .dict []
def toPyL : List D → List PyData
  | [] => []
  | x :: xs => toPy x :: toPyL xs
end
mutual
theorem plain_toPy : ∀ d : D, D.pl d = true → (toPy d).plain = true
  | .non, _ => rfl
  | .bl _, _ => rfl
  | .int _, _ => rfl
  | .str _, _ => rfl
  | .lst xs, h => by
    simp only [toPy, PyData.plain]
    exact plain_toPyL xs (by simpa [D.pl] using h)
  | .tup xs, h => by
    simp only [toPy, PyData.plain]
    exact plain_toPyL xs (by simpa [D.pl] using h)
  | .dK _ _, h => by simp [D.pl] at h
  | .dT _ _, h => by simp [D.pl] at h
theorem plain_toPyL : ∀ ds : List D, D.plL ds = true → PyData.plainAll (toPyL ds) = true
  | [], _ => rfl
  | x :: xs, h => by
    simp only [D.plL, Bool.and_eq_true] at h
    simp only [toPyL, PyData.plainAll, Bool.and_eq_true]
    exact ⟨plain_toPy x h.1, plain_toPyL xs h.2⟩
end
mutual
theorem dep_toPy : ∀ d : D, D.pl d = true → (toPy d).depth ≤ D.dep d
  | .non, _ => by simp [toPy, PyData.depth]
  | .bl _, _ => by simp [toPy, PyData.depth]
  | .int _, _ => by simp [toPy, PyData.depth]
  | .str _, _ => by simp [toPy, PyData.depth]
  | .lst xs, h => by
    have := dep_toPyL xs (by simpa [D.pl] using h)
    simp only [toPy, PyData.depth, D.dep]; omega
  | .tup xs, h => by
    have := dep_toPyL xs (by simpa [D.pl] using h)
    simp only [toPy, PyData.depth, D.dep]; omega
  | .dK _ _, h => by simp [D.pl] at h
  | .dT _ _, h => by simp [D.pl] at h
theorem dep_toPyL : ∀ ds : List D, D.plL ds = true → PyData.depthAll (toPyL ds) ≤ D.depL ds
  | [], _ => by simp [toPyL, PyData.depthAll]
  | x :: xs, h => by
    simp only [D.plL, Bool.and_eq_true] at h
    have h1 := dep_toPy x h.1
    have h2 := dep_toPyL xs h.2
    simp only [toPyL, PyData.depthAll, D.depL]; omega
end
mutual
theorem eqv_toPy : ∀ a b : D, D.pl a = true → D.pl b = true → PyData.eqv (toPy a) (toPy b) = D.eqv a b
  | .lst xs, b, ha, hb => by
    cases b with
    | lst ys =>
      simp only [toPy, PyData.eqv, D.eqv]
      exact eqv_toPyL xs ys (by simpa [D.pl] using ha) (by simpa [D.pl] using hb)
    | _ => first | (simp [D.pl] at hb; done) | simp [toPy, PyData.eqv, D.eqv]
  | .tup xs, b, ha, hb => by
    cases b with
    | tup ys =>
      simp only [toPy, PyData.eqv, D.eqv]
      exact eqv_toPyL xs ys (by simpa [D.pl] using ha) (by simpa [D.pl] using hb)
    | _ => first | (simp [D.pl] at hb; done) | simp [toPy, PyData.eqv, D.eqv]
  | .non, b, ha, hb => by cases b <;> first | (simp [D.pl] at hb; done) | simp [toPy, PyData.eqv, D.eqv]
  | .bl _, b, ha, hb => by cases b <;> first | (simp [D.pl] at hb; done) | simp [toPy, PyData.eqv, D.eqv]
  | .int _, b, ha, hb => by cases b <;> first | (simp [D.pl] at hb; done) | simp [toPy, PyData.eqv, D.eqv]
  | .str _, b, ha, hb => by cases b <;> first | (simp [D.pl] at hb; done) | simp [toPy, PyData.eqv, D.eqv]
  | .dK _ _, _, ha, _ => by simp [D.pl] at ha
  | .dT _ _, _, ha, _ => by simp [D.pl] at ha
theorem eqv_toPyL : ∀ a b : List D, D.plL a = true → D.plL b = true → PyData.eqvAll (toPyL a) (toPyL b) = D.eqvL a b
  | [], [], _, _ => rfl
  | [], _ :: _, _, _ => rfl
  | _ :: _, [], _, _ => rfl
  | x :: xs, y :: ys, ha, hb => by
    simp only [D.plL, Bool.and_eq_true] at ha hb
    simp only [toPyL, PyData.eqvAll, D.eqvL]
    rw [eqv_toPy x y ha.1 hb.1, eqv_toPyL xs ys ha.2 hb.2]
end
mutual
theorem Rep.dp {K : PySem.W.Frag} {H : Hp} : ∀ {v : V} {d : D}, Rep K H v d → D.pl d = true → Dp K H v (toPy d)
  | _, _, .non, _ => by simp only [toPy]; exact .non
  | _, _, .bl b, _ => by simp only [toPy]; exact .bl b
  | _, _, .int i, _ => by simp only [toPy]; exact .int i
  | _, _, .str x, _ => by simp only [toPy]; exact .str x
  | _, _, .lst h r, p => by simp only [toPy]; exact .lst h (RepL.dp r (by simpa [D.pl] using p))
  | _, _, .tup h r, p => by simp only [toPy]; exact .tup h (RepL.dp r (by simpa [D.pl] using p))
  | _, _, .dK _ _ _, p => by simp [D.pl] at p
  | _, _, .dT _ _ _, p => by simp [D.pl] at p
theorem RepL.dp {K : PySem.W.Frag} {H : Hp} : ∀ {vs : List V} {ds : List D}, RepL K H vs ds → D.plL ds = true → DpAll K H vs (toPyL ds)
  | _, _, .nil, _ => by simp only [toPyL]; exact .nil
  | _, _, .cons r t, p => by
    simp only [D.plL, Bool.and_eq_true] at p
    simp only [toPyL]
    exact .cons (Rep.dp r p.1) (RepL.dp t p.2)
end
theorem any_toPyL (x : D) (hx : D.pl x = true) : ∀ ds : List D, D.plL ds = true → ((toPyL ds).any fun y => PyData.eqv y (toPy x)) = ds.any fun z => D.eqv z x
  | [], _ => rfl
  | d :: ds, h => by
    simp only [D.plL, Bool.and_eq_true] at h
    simp only [toPyL, List.any_cons]
    rw [eqv_toPy d x h.1 hx, any_toPyL x hx ds h.2]
end DL

namespace DL
open PySem PySem.Spec PyProof.Rows L2
/-! ### what ties slots and heap to the data -/
/-- where one stands: the heap at the entry, its settled part, what may be changed, the address that slot 0 keeps -/
structure Ct where
  K : PySem.W.Frag
  H0 : Hp
  Hf0 : Hp
  own : Addr → Prop
  pin : Option Addr
def SlR (c : Ct) (H Hf : Hp) (o : Option (Option V)) : Sl → Prop
  | .un => True
  | .im d => ∃ v, o = some (some v) ∧ Rep c.K Hf v d
  | .ow xs => ∃ p vs, o = some (some (.ref p)) ∧ Hf p = none ∧ (c.own p ∨ c.H0 p = none) ∧ H p = some (.lst vs) ∧ RepL c.K Hf vs xs
structure Rl (c : Ct) (σ : L2.St) (H Hf : Hp) (e : DL.Env) : Prop where
  ln : σ.length = e.length
  fr : ∀ (b : Addr) (o : HO), c.H0 b = some o → ¬ c.own b → H b = some o
  fo : ∀ b o, c.H0 b = some o → c.own b → ∃ o', H b = some o'
  sf : Same Hf H
  s0 : Same c.Hf0 Hf
  nw : ∀ a o, Hf a = some o → c.Hf0 a = some o ∨ c.H0 a = none
  sl : ∀ (i : Nat) (s : Sl), e[i]? = some s → SlR c H Hf (σ[i]?) s
  ap : ∀ (i j : Nat) (p : Addr) (xs ys : List D), i ≠ j → e[i]? = some (.ow xs) → e[j]? = some (.ow ys) → σ[i]? = some (some (.ref p)) → σ[j]? = some (some (.ref p)) → False
  p0 : ∀ p, c.pin = some p → σ[0]? = some (some (.ref p)) ∧ ∃ xs, e[0]? = some (.ow xs)
theorem same_new {H : Hp} {p : Addr} {o : HO} (h : H p = none) : Same H (upd H p o) := fun b x e => by
  rw [upd_ne (ne_of_none e h)]; exact e
theorem none_sub {H Hf : Hp} (s : Same Hf H) {p : Addr} (h : H p = none) : Hf p = none := s.free h
section
variable {c : Ct} {σ : L2.St} {H Hf H' Hf' : Hp} {e : DL.Env} {p : Addr} {o : HO}
theorem Rl.h0 (r : Rl c σ H Hf e) (h : H p = none) : c.H0 p = none := by
  cases q : c.H0 p with
  | none => rfl
  | some u =>
    by_cases w : c.own p
    · obtain ⟨o', z⟩ := r.fo p u q w; rw [h] at z; cases z
    · have z := r.fr p u q w; rw [h] at z; cases z
/-- a new object, settled at once -/
theorem Rl.alloc (r : Rl c σ H Hf e) (h : H p = none) : Rl c σ (upd H p o) (upd Hf p o) e where
  ln := r.ln
  fr := fun b x q w => same_new h b x (r.fr b x q w)
  fo := fun b x q w => by obtain ⟨o', z⟩ := r.fo b x q w; exact ⟨o', same_new h b o' z⟩
  sf := fun b x q => by
    by_cases z : b = p
    · subst z; rw [upd_same] at q ⊢; exact q
    · rw [upd_ne z] at q ⊢; exact r.sf b x q
  s0 := r.s0.trans (same_new (none_sub r.sf h))
  nw := fun a x q => by
    by_cases z : a = p
    · subst z; exact .inr (r.h0 h)
    · rw [upd_ne z] at q; exact r.nw a x q
  sl := fun i s q => by
    have := r.sl i s q
    cases s with
    | un => trivial
    | im d => obtain ⟨v, e1, e2⟩ := this; exact ⟨v, e1, e2.mono (same_new (none_sub r.sf h))⟩
    | ow xs =>
      obtain ⟨a, vs, e1, e2, e3, e4, e5⟩ := this
      have n : a ≠ p := ne_of_none e4 h
      exact ⟨a, vs, e1, by rw [upd_ne n]; exact e2, e3, by rw [upd_ne n]; exact e4, e5.mono (same_new (none_sub r.sf h))⟩
  ap := r.ap
  p0 := r.p0
/-- a new object, not settled -/
theorem Rl.track (r : Rl c σ H Hf e) (h : H p = none) : Rl c σ (upd H p o) Hf e where
  ln := r.ln
  fr := fun b x q w => same_new h b x (r.fr b x q w)
  fo := fun b x q w => by obtain ⟨o', z⟩ := r.fo b x q w; exact ⟨o', same_new h b o' z⟩
  sf := r.sf.trans (same_new h)
  s0 := r.s0
  nw := r.nw
  sl := fun i s q => by
    have := r.sl i s q
    cases s with
    | un => trivial
    | im d => exact this
    | ow xs =>
      obtain ⟨a, vs, e1, e2, e3, e4, e5⟩ := this
      exact ⟨a, vs, e1, e2, e3, by rw [upd_ne (ne_of_none e4 h)]; exact e4, e5⟩
  ap := r.ap
  p0 := r.p0
theorem get_set {α : Type} {l : List α} {i j : Nat} {x y : α} (h : (l.set i x)[j]? = some y) : (j = i ∧ y = x) ∨ (j ≠ i ∧ l[j]? = some y) := by
  by_cases z : j = i
  · subst z
    rw [List.getElem?_set] at h
    simp only [if_true] at h
    split at h
    · exact .inl ⟨rfl, (Option.some.inj h).symm⟩
    · cases h
  · rw [List.getElem?_set_ne (Ne.symm z)] at h; exact .inr ⟨z, h⟩
theorem set_at {α : Type} {l : List α} {i : Nat} {x : α} (h : i < l.length) : (l.set i x)[i]? = some x := List.getElem?_set_self h
/-- a name is bound to a value -/
theorem Rl.set (r : Rl c σ H Hf e) {i : Nat} {v : V} {d : D} (hi : i < e.length) (hv : Rep c.K Hf v d) (hp : i ≠ 0 ∨ c.pin = none) : Rl c (σ.set i (some v)) H Hf (e.set i (.im d)) where
  ln := by simp [r.ln]
  fr := r.fr
  fo := r.fo
  sf := r.sf
  s0 := r.s0
  nw := r.nw
  sl := fun j s q => by
    rcases get_set q with ⟨rfl, rfl⟩ | ⟨n, q⟩
    · exact ⟨v, set_at (by rw [r.ln]; exact hi), hv⟩
    · rw [List.getElem?_set_ne (Ne.symm n)]; exact r.sl j s q
  ap := fun j k p xs ys n h1 h2 h3 h4 => by
    rcases get_set h1 with ⟨_, z⟩ | ⟨n1, h1⟩
    · cases z
    rcases get_set h2 with ⟨_, z⟩ | ⟨n2, h2⟩
    · cases z
    rw [List.getElem?_set_ne (Ne.symm n1)] at h3
    rw [List.getElem?_set_ne (Ne.symm n2)] at h4
    exact r.ap j k p xs ys n h1 h2 h3 h4
  p0 := fun p q => by
    rcases hp with z | z
    · obtain ⟨h1, xs, h2⟩ := r.p0 p q
      exact ⟨by rw [List.getElem?_set_ne z]; exact h1, xs, by rw [List.getElem?_set_ne z]; exact h2⟩
    · rw [z] at q; cases q
/-- a name is bound to a new list -/
theorem Rl.setN (r : Rl c σ H Hf e) {i : Nat} {vs : List V} {xs : List D} (hi : i < e.length) (h1 : H p = some (.lst vs)) (h2 : Hf p = none) (h3 : c.H0 p = none) (hv : RepL c.K Hf vs xs) (hp : i ≠ 0 ∨ c.pin = none)
    (hn : ∀ (j : Nat) (ys : List D), e[j]? = some (.ow ys) → σ[j]? = some (some (.ref p)) → False) : Rl c (σ.set i (some (.ref p))) H Hf (e.set i (.ow xs)) where
  ln := by simp [r.ln]
  fr := r.fr
  fo := r.fo
  sf := r.sf
  s0 := r.s0
  nw := r.nw
  sl := fun j s q => by
    rcases get_set q with ⟨rfl, rfl⟩ | ⟨n, q⟩
    · exact ⟨p, vs, set_at (by rw [r.ln]; exact hi), h2, .inr h3, h1, hv⟩
    · rw [List.getElem?_set_ne (Ne.symm n)]; exact r.sl j s q
  ap := fun j k q ys zs n g1 g2 g3 g4 => by
    rcases get_set g1 with ⟨n1, z⟩ | ⟨n1, g1⟩
    · rcases get_set g2 with ⟨n2, z2⟩ | ⟨n2, g2⟩
      · exact n (n1.trans n2.symm)
      · rw [n1, set_at (by rw [r.ln]; exact hi)] at g3
        rw [List.getElem?_set_ne (Ne.symm n2)] at g4
        cases g3
        exact hn k zs g2 g4
    · rw [List.getElem?_set_ne (Ne.symm n1)] at g3
      rcases get_set g2 with ⟨n2, z2⟩ | ⟨n2, g2⟩
      · rw [n2, set_at (by rw [r.ln]; exact hi)] at g4
        cases g4
        exact hn j ys g1 g3
      · rw [List.getElem?_set_ne (Ne.symm n2)] at g4
        exact r.ap j k q ys zs n g1 g2 g3 g4
  p0 := fun p q => by
    rcases hp with z | z
    · obtain ⟨h1, xs, h2⟩ := r.p0 p q
      exact ⟨by rw [List.getElem?_set_ne z]; exact h1, xs, by rw [List.getElem?_set_ne z]; exact h2⟩
    · rw [z] at q; cases q
/-- no slot's own list stands at an address that is new -/
theorem Rl.new_no (r : Rl c σ H Hf e) (h : H p = none) : ∀ (j : Nat) (ys : List D), e[j]? = some (.ow ys) → σ[j]? = some (some (.ref p)) → False := fun j ys h1 h2 => by
  obtain ⟨a, vs, e1, _, _, e4, _⟩ := r.sl j _ h1
  rw [h2] at e1
  cases e1
  rw [h] at e4; cases e4
/-- the own list in slot j is changed -/
theorem Rl.put (r : Rl c σ H Hf e) {j : Nat} {vs : List V} {xs ys : List D} (h1 : e[j]? = some (.ow xs)) (h2 : σ[j]? = some (some (.ref p))) (hv : RepL c.K Hf vs ys) : Rl c σ (upd H p (.lst vs)) Hf (e.set j (.ow ys)) := by
  have hj : j < e.length := by
    by_cases z : j < e.length
    · exact z
    · rw [List.getElem?_eq_none (by omega)] at h1; cases h1
  obtain ⟨p', ws, e1, e2, e3, e4, e5⟩ := r.sl j _ h1
  rw [h2] at e1
  cases e1
  refine ⟨by simp [r.ln], fun b o q w => ?_, fun b o q w => ?_, fun b o q => ?_, r.s0, r.nw, fun i s q => ?_, fun i k a us ws n g1 g2 g3 g4 => ?_, fun a q => ?_⟩
  · have n : b ≠ p := fun z => by
      subst z
      rcases e3 with z | z
      · exact w z
      · rw [z] at q; cases q
    rw [upd_ne n]; exact r.fr b o q w
  · by_cases n : b = p
    · subst n; exact ⟨_, upd_same⟩
    · rw [upd_ne n]; exact r.fo b o q w
  · have n : b ≠ p := fun z => by subst z; rw [e2] at q; cases q
    rw [upd_ne n]; exact r.sf b o q
  · rcases get_set q with ⟨rfl, rfl⟩ | ⟨n, q⟩
    · exact ⟨p, vs, h2, e2, e3, upd_same, hv⟩
    · have := r.sl i s q
      cases s with
      | un => trivial
      | im d => exact this
      | ow us =>
        obtain ⟨a, us', f1, f2, f3, f4, f5⟩ := this
        have na : a ≠ p := fun z => by subst z; exact r.ap i j a us xs n q h1 f1 h2
        exact ⟨a, us', f1, f2, f3, by rw [upd_ne na]; exact f4, f5⟩
  · have g1' : ∃ us, e[i]? = some (.ow us) := by
      rcases get_set g1 with ⟨z, _⟩ | ⟨_, z⟩
      · subst z; exact ⟨_, h1⟩
      · exact ⟨_, z⟩
    have g2' : ∃ us, e[k]? = some (.ow us) := by
      rcases get_set g2 with ⟨z, _⟩ | ⟨_, z⟩
      · subst z; exact ⟨_, h1⟩
      · exact ⟨_, z⟩
    obtain ⟨u1, g1'⟩ := g1'
    obtain ⟨u2, g2'⟩ := g2'
    exact r.ap i k a u1 u2 n g1' g2' g3 g4
  · obtain ⟨f1, us, f2⟩ := r.p0 a q
    refine ⟨f1, ?_⟩
    by_cases z : j = 0
    · subst z; exact ⟨ys, set_at hj⟩
    · exact ⟨us, by rw [List.getElem?_set_ne z]; exact f2⟩
/-- the own list in slot j is settled -/
theorem Rl.frz (r : Rl c σ H Hf e) {j : Nat} {xs : List D} (h1 : e[j]? = some (.ow xs)) (ho : c.own = fun a => c.pin = some a) (hp : j ≠ 0 ∨ c.pin = none) : ∃ Hf', Rl c σ H Hf' (e.set j (.im (.lst xs))) ∧ Same Hf Hf' := by
  have hj : j < e.length := by
    by_cases z : j < e.length
    · exact z
    · rw [List.getElem?_eq_none (by omega)] at h1; cases h1
  obtain ⟨p, ws, e1, e2, e3, e4, e5⟩ := r.sl j _ h1
  have h0 : c.H0 p = none := by
    rcases e3 with z | z
    · rw [ho] at z
      rcases hp with n | n
      · obtain ⟨f1, us, f2⟩ := r.p0 p z
        exact (r.ap 0 j p us xs (Ne.symm n) f2 h1 f1 e1).elim
      · rw [n] at z; cases z
    · exact z
  have sm : Same Hf (upd Hf p (.lst ws)) := same_new e2
  refine ⟨upd Hf p (.lst ws), ⟨by simp [r.ln], r.fr, r.fo, fun b o q => ?_, r.s0.trans sm, fun a o q => ?_, fun i s q => ?_, fun i k a us vs n g1 g2 g3 g4 => ?_, fun a q => ?_⟩, sm⟩
  · by_cases z : b = p
    · subst z; rw [upd_same] at q; cases q; exact e4
    · rw [upd_ne z] at q; exact r.sf b o q
  · by_cases z : a = p
    · subst z; exact .inr h0
    · rw [upd_ne z] at q; exact r.nw a o q
  · rcases get_set q with ⟨rfl, rfl⟩ | ⟨n, q⟩
    · exact ⟨.ref p, e1, .lst (.of upd_same) (e5.mono sm)⟩
    · have := r.sl i s q
      cases s with
      | un => trivial
      | im d => obtain ⟨v, f1, f2⟩ := this; exact ⟨v, f1, f2.mono sm⟩
      | ow us =>
        obtain ⟨a, us', f1, f2, f3, f4, f5⟩ := this
        have na : a ≠ p := fun z => by subst z; exact r.ap i j a us xs n q h1 f1 e1
        exact ⟨a, us', f1, by rw [upd_ne na]; exact f2, f3, f4, f5.mono sm⟩
  · rcases get_set g1 with ⟨_, z⟩ | ⟨n1, g1⟩
    · cases z
    rcases get_set g2 with ⟨_, z⟩ | ⟨n2, g2⟩
    · cases z
    exact r.ap i k a us vs n g1 g2 g3 g4
  · obtain ⟨f1, us, f2⟩ := r.p0 a q
    rcases hp with z | z
    · exact ⟨f1, us, by rw [List.getElem?_set_ne z]; exact f2⟩
    · rw [z] at q; cases q
/-! ### a comprehension's own names -/
theorem wipeE_len (e : DL.Env) : ∀ vs, (wipeE e vs).length = e.length
  | [] => rfl
  | v :: vs => by simp [wipeE, wipeE_len e vs]
theorem wipeE_out {i : Nat} : ∀ {vs : List Nat}, i ∉ vs → (wipeE e vs)[i]? = e[i]?
  | [], _ => rfl
  | v :: vs, h => by
    simp only [List.mem_cons, not_or] at h
    show ((wipeE e vs).set v .un)[i]? = _
    rw [List.getElem?_set_ne (Ne.symm h.1), wipeE_out h.2]
theorem wipeE_in {i : Nat} {s : Sl} : ∀ {vs : List Nat}, i ∈ vs → (wipeE e vs)[i]? = some s → s = .un
  | v :: vs, h, q => by
    rcases get_set (show ((wipeE e vs).set v .un)[i]? = some s from q) with ⟨_, z⟩ | ⟨n, q⟩
    · exact z
    · rcases List.mem_cons.mp h with z | z
      · exact absurd z n
      · exact wipeE_in z q
theorem backE_len (e0 e : DL.Env) : ∀ vs, (backE e0 e vs).length = e.length
  | [] => rfl
  | v :: vs => by simp [backE, backE_len e0 e vs]
theorem backE_out {e0 : DL.Env} {i : Nat} : ∀ {vs : List Nat}, i ∉ vs → (backE e0 e vs)[i]? = e[i]?
  | [], _ => rfl
  | v :: vs, h => by
    simp only [List.mem_cons, not_or] at h
    show ((backE e0 e vs).set v _)[i]? = _
    rw [List.getElem?_set_ne (Ne.symm h.1), backE_out h.2]
theorem backE_in {e0 : DL.Env} {i : Nat} {s : Sl} : ∀ {vs : List Nat}, i ∈ vs → (backE e0 e vs)[i]? = some s → s = .un ∨ ∃ d, s = .im d ∧ e0[i]? = some (.im d)
  | v :: vs, h, q => by
    rcases get_set (show ((backE e0 e vs).set v _)[i]? = some s from q) with ⟨z, z2⟩ | ⟨n, q⟩
    · subst z
      split at z2
      · rename_i d w
        exact .inr ⟨d, z2, w⟩
      · exact .inl z2
    · rcases List.mem_cons.mp h with z | z
      · exact absurd z n
      · exact backE_in z q
theorem wipe_in {i : Nat} {x : V} {vs : List Nat} (h : (wipe σ vs)[i]? = some (some x)) : σ[i]? = some (some x) ∧ i ∉ vs := wipe_some h
theorem Rl.wipe (r : Rl c σ H Hf e) {vs : List Nat} (h0 : 0 ∉ vs) : Rl c (L2.wipe σ vs) H Hf (wipeE e vs) where
  ln := by rw [wipe_length, wipeE_len, r.ln]
  fr := r.fr
  fo := r.fo
  sf := r.sf
  s0 := r.s0
  nw := r.nw
  sl := fun i s q => by
    by_cases z : i ∈ vs
    · rw [wipeE_in z q]; trivial
    · rw [wipe_out z]; rw [wipeE_out z] at q; exact r.sl i s q
  ap := fun i j p xs ys n h1 h2 h3 h4 => by
    obtain ⟨h3, z3⟩ := wipe_in h3
    obtain ⟨h4, z4⟩ := wipe_in h4
    rw [wipeE_out z3] at h1
    rw [wipeE_out z4] at h2
    exact r.ap i j p xs ys n h1 h2 h3 h4
  p0 := fun p q => by
    obtain ⟨f1, us, f2⟩ := r.p0 p q
    exact ⟨by rw [wipe_out h0]; exact f1, us, by rw [wipeE_out h0]; exact f2⟩
/-- the context of a block that starts here -/
def Ct.blk (c : Ct) (σ : L2.St) (H Hf : Hp) (e : DL.Env) : Ct :=
  ⟨c.K, H, Hf, fun b => ∃ (j : Nat) (xs : List D), e[j]? = some (Sl.ow xs) ∧ σ[j]? = some (some (V.ref b)), c.pin⟩
theorem Rl.enter (r : Rl c σ H Hf e) : Rl (c.blk σ H Hf e) σ H Hf e where
  ln := r.ln
  fr := fun _ _ q _ => q
  fo := fun b o q _ => ⟨o, q⟩
  sf := r.sf
  s0 := Same.refl _
  nw := fun a o q => .inl q
  sl := fun i s q => by
    have := r.sl i s q
    cases s with
    | un => trivial
    | im d => exact this
    | ow xs =>
      obtain ⟨a, vs, e1, e2, e3, e4, e5⟩ := this
      exact ⟨a, vs, e1, e2, .inl ⟨i, xs, q, e1⟩, e4, e5⟩
  ap := r.ap
  p0 := r.p0
/-- behind the block -/
theorem Rl.leave {e2 : DL.Env} (r : Rl c σ H Hf e) (r1 : Rl (c.blk σ H Hf e) σ H' Hf' e2) : Rl c σ H' Hf' e2 := by
  have fr' : ∀ b o, H b = some o → ¬ (c.blk σ H Hf e).own b → H' b = some o := fun b o q w => r1.fr b o q w
  have fo' : ∀ b o, H b = some o → ∃ o', H' b = some o' := fun b o q => by
    by_cases w : (c.blk σ H Hf e).own b
    · exact r1.fo b o q w
    · exact ⟨o, fr' b o q w⟩
  refine ⟨r1.ln, fun b o q w => ?_, fun b o q w => ?_, r1.sf, r.s0.trans r1.s0, fun a o q => ?_, fun i s q => ?_, r1.ap, r1.p0⟩
  · refine fr' b o (r.fr b o q w) fun z => ?_
    obtain ⟨j, xs, q1, q2⟩ := z
    obtain ⟨a, vs', e1, _, e3, _, _⟩ := r.sl j _ q1
    rw [q2] at e1
    cases e1
    rcases e3 with e3 | e3
    · exact w e3
    · rw [q] at e3; cases e3
  · obtain ⟨o', z⟩ := r.fo b o q w
    exact fo' b o' z
  · rcases r1.nw a o q with z | z
    · exact r.nw a o z
    · exact .inr (r.h0 z)
  · have := r1.sl i s q
    cases s with
    | un => trivial
    | im d => exact this
    | ow us =>
      obtain ⟨a, us', f1, f2, f3, f4, f5⟩ := this
      refine ⟨a, us', f1, f2, ?_, f4, f5⟩
      rcases f3 with k | k
      · obtain ⟨j, xs, q1, q2⟩ := k
        obtain ⟨a', _, e1, _, e3, _, _⟩ := r.sl j _ q1
        rw [q2] at e1; cases e1; exact e3
      · exact .inr (r.h0 k)
/-- a comprehension's names are back -/
theorem Rl.unwipe {H1 Hf1 : Hp} {e1 e2 : DL.Env} {vs : List Nat} (r : Rl c σ H1 Hf1 e1) (h0 : 0 ∉ vs) (sm : Same Hf1 Hf) (r1 : Rl c (L2.wipe σ vs) H Hf (wipeE e2 vs)) : Rl c σ H Hf (backE e1 e2 vs) := by
  refine ⟨?_, r1.fr, r1.fo, r1.sf, r1.s0, r1.nw, fun i s q => ?_, fun i j p xs ys n g1 g2 g3 g4 => ?_, fun p q => ?_⟩
  · rw [backE_len]
    have := r1.ln
    rw [wipe_length, wipeE_len] at this
    exact this
  · by_cases z : i ∈ vs
    · rcases backE_in z q with w | ⟨d, rfl, w⟩
      · rw [w]; trivial
      · obtain ⟨v, f1, f2⟩ := r.sl i _ w
        exact ⟨v, f1, f2.mono sm⟩
    · rw [backE_out z] at q
      have := r1.sl i s (by rw [wipeE_out z]; exact q)
      rw [wipe_out z] at this
      exact this
  · have out : ∀ k us, (backE e1 e2 vs)[k]? = some (.ow us) → k ∉ vs := fun k us q z => by
      rcases backE_in z q with w | ⟨d, w, _⟩ <;> cases w
    have zi := out i xs g1
    have zj := out j ys g2
    rw [backE_out zi] at g1
    rw [backE_out zj] at g2
    exact r1.ap i j p xs ys n (by rw [wipeE_out zi]; exact g1) (by rw [wipeE_out zj]; exact g2) (by rw [wipe_out zi]; exact g3) (by rw [wipe_out zj]; exact g4)
  · obtain ⟨f1, us, f2⟩ := r1.p0 p q
    rw [wipe_out h0] at f1
    rw [wipeE_out h0] at f2
    exact ⟨f1, us, by rw [backE_out h0]; exact f2⟩
/-- an object of nobody's slot is changed -/
theorem Rl.bump (r : Rl c σ H Hf e) {q0 : Addr} {o : HO} (h0 : c.H0 q0 = none) (hf : Hf q0 = none) (hn : ∀ (j : Nat) (ys : List D), e[j]? = some (.ow ys) → σ[j]? = some (some (.ref q0)) → False) : Rl c σ (upd H q0 o) Hf e where
  ln := r.ln
  fr := fun b x q w => by
    have n : b ≠ q0 := fun z => by subst z; rw [h0] at q; cases q
    rw [upd_ne n]; exact r.fr b x q w
  fo := fun b x q w => by
    have n : b ≠ q0 := fun z => by subst z; rw [h0] at q; cases q
    rw [upd_ne n]; exact r.fo b x q w
  sf := fun b x q => by
    have n : b ≠ q0 := fun z => by subst z; rw [hf] at q; cases q
    rw [upd_ne n]; exact r.sf b x q
  s0 := r.s0
  nw := r.nw
  sl := fun i s q => by
    have := r.sl i s q
    cases s with
    | un => trivial
    | im d => exact this
    | ow xs =>
      obtain ⟨a, vs, e1, e2, e3, e4, e5⟩ := this
      have na : a ≠ q0 := fun z => by subst z; exact hn i xs q e1
      exact ⟨a, vs, e1, e2, e3, by rw [upd_ne na]; exact e4, e5⟩
  ap := r.ap
  p0 := r.p0
/-- behind a call that changes nothing of ours -/
theorem Rl.call (r : Rl c σ H Hf e) (h1 : Same H H') (h2 : Same Hf Hf') (h3 : Same Hf' H') (h4 : ∀ a o, Hf' a = some o → Hf a = some o ∨ H a = none) : Rl c σ H' Hf' e where
  ln := r.ln
  fr := fun b x q w => h1 b x (r.fr b x q w)
  fo := fun b x q w => by obtain ⟨o', z⟩ := r.fo b x q w; exact ⟨o', h1 b o' z⟩
  sf := h3
  s0 := r.s0.trans h2
  nw := fun a x q => by
    rcases h4 a x q with z | z
    · exact r.nw a x z
    · exact .inr (r.h0 z)
  sl := fun i s q => by
    have := r.sl i s q
    cases s with
    | un => trivial
    | im d => obtain ⟨v, f1, f2⟩ := this; exact ⟨v, f1, f2.mono h2⟩
    | ow xs =>
      obtain ⟨a, vs, e1, e2, e3, e4, e5⟩ := this
      refine ⟨a, vs, e1, ?_, e3, h1 a _ e4, e5.mono h2⟩
      cases k : Hf' a with
      | none => rfl
      | some o =>
        rcases h4 a o k with k | k
        · rw [e2] at k; cases k
        · rw [e4] at k; cases k
  ap := r.ap
  p0 := r.p0
/-- behind a call that changes the list of slot j -/
theorem Rl.callI (r : Rl c σ H Hf e) {j : Nat} {xs ys : List D} {ws : List V} (g1 : e[j]? = some (.ow xs)) (g2 : σ[j]? = some (some (.ref p))) (h1 : ∀ b o, H b = some o → b ≠ p → H' b = some o) (h2 : Same Hf Hf') (h3 : Same Hf' H') (h4 : ∀ a o, Hf' a = some o → Hf a = some o ∨ H a = none)
    (h5 : H' p = some (.lst ws)) (h6 : RepL c.K Hf' ws ys) : Rl c σ H' Hf' (e.set j (.ow ys)) := by
  have hj : j < e.length := by
    by_cases z : j < e.length
    · exact z
    · rw [List.getElem?_eq_none (by omega)] at g1; cases g1
  obtain ⟨p', vs, e1, e2, e3, e4, e5⟩ := r.sl j _ g1
  rw [g2] at e1
  cases e1
  have none_ : ∀ a, Hf a = none → (∃ o, H a = some o) → Hf' a = none := fun a z1 ⟨o, z2⟩ => by
    cases k : Hf' a with
    | none => rfl
    | some o =>
      rcases h4 a o k with k | k
      · rw [z1] at k; cases k
      · rw [z2] at k; cases k
  refine ⟨by simp [r.ln], fun b o q w => ?_, fun b o q w => ?_, h3, r.s0.trans h2, fun a o q => ?_, fun i s q => ?_, fun i k a us ws n q1 q2 q3 q4 => ?_, fun a q => ?_⟩
  · have n : b ≠ p := fun z => by
      subst z
      rcases e3 with z | z
      · exact w z
      · rw [z] at q; cases q
    exact h1 b o (r.fr b o q w) n
  · by_cases n : b = p
    · subst n; exact ⟨_, h5⟩
    · obtain ⟨o', z⟩ := r.fo b o q w; exact ⟨o', h1 b o' z n⟩
  · rcases h4 a o q with z | z
    · exact r.nw a o z
    · exact .inr (r.h0 z)
  · rcases get_set q with ⟨rfl, rfl⟩ | ⟨n, q⟩
    · exact ⟨p, ws, g2, none_ p e2 ⟨_, e4⟩, e3, h5, h6⟩
    · have := r.sl i s q
      cases s with
      | un => trivial
      | im d => obtain ⟨v, f1, f2⟩ := this; exact ⟨v, f1, f2.mono h2⟩
      | ow us =>
        obtain ⟨a, us', f1, f2, f3, f4, f5⟩ := this
        have na : a ≠ p := fun z => by subst z; exact r.ap i j a us xs n q g1 f1 g2
        exact ⟨a, us', f1, none_ a f2 ⟨_, f4⟩, f3, h1 a _ f4 na, f5.mono h2⟩
  · have g1' : ∃ us, e[i]? = some (.ow us) := by
      rcases get_set q1 with ⟨z, _⟩ | ⟨_, z⟩
      · subst z; exact ⟨_, g1⟩
      · exact ⟨_, z⟩
    have g2' : ∃ us, e[k]? = some (.ow us) := by
      rcases get_set q2 with ⟨z, _⟩ | ⟨_, z⟩
      · subst z; exact ⟨_, g1⟩
      · exact ⟨_, z⟩
    obtain ⟨u1, g1'⟩ := g1'
    obtain ⟨u2, g2'⟩ := g2'
    exact r.ap i k a u1 u2 n g1' g2' q3 q4
  · obtain ⟨f1, us, f2⟩ := r.p0 a q
    refine ⟨f1, ?_⟩
    by_cases z : j = 0
    · subst z; exact ⟨ys, set_at hj⟩
    · exact ⟨us, by rw [List.getElem?_set_ne z]; exact f2⟩
theorem Rl.ownAt (r : Rl c σ H Hf e) {j : Nat} {xs : List D} (h : e[j]? = some (.ow xs)) : ∃ p vs, σ[j]? = some (some (.ref p)) ∧ Hf p = none ∧ (c.own p ∨ c.H0 p = none) ∧ H p = some (.lst vs) ∧ RepL c.K Hf vs xs := r.sl j _ h
theorem wipe_wipe (σ : L2.St) (vs : List Nat) : L2.wipe (L2.wipe σ vs) vs = L2.wipe σ vs := by
  have key : ∀ (σ : L2.St) (vs : List Nat) (i : Nat), (L2.wipe σ vs)[i]? = if i ∈ vs then (if i < σ.length then some none else none) else σ[i]? := by
    intro σ vs i
    induction vs with
    | nil => simp [L2.wipe]
    | cons v vs ih =>
      show ((L2.wipe σ vs).set v none)[i]? = _
      by_cases z : i = v
      · subst z
        rw [List.getElem?_set]
        simp [wipe_length]
      · rw [List.getElem?_set_ne (Ne.symm z), ih]
        simp [z]
  apply List.ext_getElem?
  intro i
  rw [key, key]
  by_cases z : i ∈ vs
  · simp [z, wipe_length]
  · simp [z]
theorem wipe_set (σ : L2.St) (vs : List Nat) (i : Nat) (x : Option V) (h : i ∈ vs) : L2.wipe (σ.set i x) vs = L2.wipe σ vs := by
  have key : ∀ (σ : L2.St) (vs : List Nat) (i : Nat), (L2.wipe σ vs)[i]? = if i ∈ vs then (if i < σ.length then some none else none) else σ[i]? := by
    intro σ vs i
    induction vs with
    | nil => simp [L2.wipe]
    | cons v vs ih =>
      show ((L2.wipe σ vs).set v none)[i]? = _
      by_cases z : i = v
      · subst z
        rw [List.getElem?_set]
        simp [wipe_length]
      · rw [List.getElem?_set_ne (Ne.symm z), ih]
        simp [z]
  apply List.ext_getElem?
  intro k
  rw [key, key]
  by_cases z : k ∈ vs
  · simp [z]
  · simp only [z, if_false]
    rw [List.getElem?_set_ne (fun (y : i = k) => z (y ▸ h))]
theorem wipeE_wipeE (e : DL.Env) (vs : List Nat) : wipeE (wipeE e vs) vs = wipeE e vs := by
  have key : ∀ (e : DL.Env) (vs : List Nat) (i : Nat), (wipeE e vs)[i]? = if i ∈ vs then (if i < e.length then some .un else none) else e[i]? := by
    intro σ vs i
    induction vs with
    | nil => simp [wipeE]
    | cons v vs ih =>
      show ((wipeE σ vs).set v .un)[i]? = _
      by_cases z : i = v
      · subst z
        rw [List.getElem?_set]
        simp [wipeE_len]
      · rw [List.getElem?_set_ne (Ne.symm z), ih]
        simp [z]
  apply List.ext_getElem?
  intro i
  rw [key, key]
  by_cases z : i ∈ vs
  · simp [z, wipeE_len]
  · simp [z]
end
end DL

namespace DL
open PySem PySem.Spec PyProof.Rows L2
/-! ### the judgements: a piece of syntax does what a combinator says -/
structure XO (X : Cx) (k : Nat) : Prop where
  calm : X.calm = true
  nd : X.N.Nodup
  room : Room k X.A
  po : PassesOwn (model X.prog X.w) X.A X.env X.xe
def DE (X : Cx) (ex : Expr) (m : M D) : Prop := ∃ t, PE X ex t ∧ ∀ (c : Ct) (σ : L2.St) (H Hf : Hp) (e : DL.Env) (d : D) (e' : DL.Env) (Q : VK), c.K = X.K → Rl c σ H Hf e → m e = some (d, e') →
  (∀ v H' Hf', Rl c σ H' Hf' e' → Same Hf Hf' → Rep c.K Hf' v d → Q v H') → t σ H Q
def DT (X : Cx) (ex : Expr) (m : M Bool) : Prop := ∃ t, PT X ex t ∧ ∀ (c : Ct) (σ : L2.St) (H Hf : Hp) (e : DL.Env) (d : Bool) (e' : DL.Env) (Q : Bool → Hp → Prop), c.K = X.K → Rl c σ H Hf e → m e = some (d, e') →
  (∀ H' Hf', Rl c σ H' Hf' e' → Same Hf Hf' → Q d H') → t σ H Q
def DW (X : Cx) (ex : Expr) (m : M Bool) : Prop := ∃ t, PW X ex t ∧ ∀ (c : Ct) (σ : L2.St) (H Hf : Hp) (e : DL.Env) (d : Bool) (e' : DL.Env) (Q : Bool → Hp → Prop), c.K = X.K → Rl c σ H Hf e → m e = some (d, e') →
  (∀ H' Hf', Rl c σ H' Hf' e' → Same Hf Hf' → Q d H') → t σ H Q
def DA (X : Cx) (es : List Expr) (m : M (List D)) : Prop := ∃ t, PA X es t ∧ ∀ (c : Ct) (σ : L2.St) (H Hf : Hp) (e : DL.Env) (ds : List D) (e' : DL.Env) (Q : List V → Hp → Prop), c.K = X.K → Rl c σ H Hf e → m e = some (ds, e') →
  (∀ vs H' Hf', Rl c σ H' Hf' e' → Same Hf Hf' → RepL c.K Hf' vs ds → Q vs H') → t σ H Q
/-- an object of our own at p: tracked, not settled, in no slot -/
structure NewAt (c : Ct) (σ : L2.St) (H Hf : Hp) (e : DL.Env) (p : Addr) (vs : List V) : Prop where
  h : H p = some (.lst vs)
  f : Hf p = none
  z : c.H0 p = none
  n : ∀ (j : Nat) (ys : List D), e[j]? = some (.ow ys) → σ[j]? = some (some (.ref p)) → False
/-- an expression that makes a new list -/
def DN (X : Cx) (ex : Expr) (m : M (List D)) : Prop := ∃ t, PE X ex t ∧ ∀ (c : Ct) (σ : L2.St) (H Hf : Hp) (e : DL.Env) (xs : List D) (e' : DL.Env) (Q : VK), c.K = X.K → Rl c σ H Hf e → m e = some (xs, e') →
  (∀ p vs H' Hf', Rl c σ H' Hf' e' → Same Hf Hf' → NewAt c σ H' Hf' e' p vs → RepL c.K Hf' vs xs → Q (.ref p) H') → t σ H Q
/-- an operation on two values -/
def OpS (X : Cx) (f : Value → Value → Sem Value) (op : D → D → Option D) : Prop := ∃ r, OpR X f r ∧ ∀ (c : Ct) (σ : L2.St) (H Hf : Hp) (e : DL.Env) (x y z : D) (v w : V) (Q : VK), c.K = X.K → Rl c σ H Hf e → Rep c.K Hf v x → Rep c.K Hf w y → op x y = some z →
  (∀ u H' Hf', Rl c σ H' Hf' e → Same Hf Hf' → Rep c.K Hf' u z → Q u H') → r v w H Q
def UnS (X : Cx) (f : Value → Sem Value) (op : D → Option D) : Prop := ∃ r, UnR X f r ∧ ∀ (c : Ct) (σ : L2.St) (H Hf : Hp) (e : DL.Env) (x z : D) (v : V) (Q : VK), c.K = X.K → Rl c σ H Hf e → Rep c.K Hf v x → op x = some z →
  (∀ u H' Hf', Rl c σ H' Hf' e → Same Hf Hf' → Rep c.K Hf' u z → Q u H') → r v H Q
def CallS (X : Cx) (f : Value) (g : List D → Option D) : Prop := ∃ r, CallR X f r ∧ ∀ (c : Ct) (σ : L2.St) (H Hf : Hp) (e : DL.Env) (xs : List V) (ds : List D) (d : D) (Q : VK), c.K = X.K → Rl c σ H Hf e → RepL c.K Hf xs ds → g ds = some d →
  (∀ u H' Hf', Rl c σ H' Hf' e → Same Hf Hf' → Rep c.K Hf' u d → Q u H') → r xs H Q
/-- a call that makes a new list -/
def CallN (X : Cx) (f : Value) (g : List D → Option (List D)) : Prop := ∃ r, CallR X f r ∧ ∀ (c : Ct) (σ : L2.St) (H Hf : Hp) (e : DL.Env) (xs : List V) (ds : List D) (d : List D) (Q : VK), c.K = X.K → Rl c σ H Hf e → RepL c.K Hf xs ds → g ds = some d →
  (∀ p vs H' Hf', Rl c σ H' Hf' e → Same Hf Hf' → NewAt c σ H' Hf' e p vs → RepL c.K Hf' vs d → Q (.ref p) H') → r xs H Q
section
variable {c : Ct} {σ : L2.St} {H Hf : Hp} {e : DL.Env} {p : Addr} {vs : List V}
theorem NewAt.of (r : Rl c σ H Hf e) (h : H p = none) : NewAt c σ (upd H p (.lst vs)) Hf e p vs := ⟨upd_same, none_sub r.sf h, r.h0 h, r.new_no h⟩
theorem NewAt.settle (n : NewAt c σ H Hf e p vs) (r : Rl c σ H Hf e) : Rl c σ H (upd Hf p (.lst vs)) e where
  ln := r.ln
  fr := r.fr
  fo := r.fo
  sf := fun b x q => by
    by_cases z : b = p
    · subst z; rw [upd_same] at q; cases q; exact n.h
    · rw [upd_ne z] at q; exact r.sf b x q
  s0 := r.s0.trans (same_new n.f)
  nw := fun a x q => by
    by_cases z : a = p
    · subst z; exact .inr n.z
    · rw [upd_ne z] at q; exact r.nw a x q
  sl := fun i s q => by
    have := r.sl i s q
    cases s with
    | un => trivial
    | im d => obtain ⟨v, e1, e2⟩ := this; exact ⟨v, e1, e2.mono (same_new n.f)⟩
    | ow xs =>
      obtain ⟨a, vs, e1, e2, e3, e4, e5⟩ := this
      have na : a ≠ p := fun z => by subst z; exact n.n i xs q e1
      exact ⟨a, vs, e1, by rw [upd_ne na]; exact e2, e3, e4, e5.mono (same_new n.f)⟩
  ap := r.ap
  p0 := r.p0
end
variable {X : Cx}
theorem DN.e {ex : Expr} {m : M (List D)} (h : DN X ex m) : DE X ex (mFr m) := by
  obtain ⟨t, p, s⟩ := h
  refine ⟨t, p, fun c σ H Hf e d e' Q hK R hm q => ?_⟩
  unfold mFr at hm
  split at hm
  · cases hm
  · rename_i xs e1 he
    cases hm
    exact s c σ H Hf e xs e' Q hK R he fun a vs H' Hf' R' S' N' L' => q _ _ _ (N'.settle R') (S'.trans (same_new N'.f)) (.lst (.of upd_same) (L'.mono (same_new N'.f)))
/-! ### names, constants, operators -/
theorem de_var (i : Nat) {x : Str} {pos : Pos} (hN : X.N[i]? = some x := by rfl) (hv : Vis X.env.scope x := by first | exact Or.inl rfl | exact Or.inr (Or.inl rfl) | exact Or.inr (Or.inr rfl))
    (hd : (x == ("__debug__" : Str)) = false := by decide) (hcd : (x == ("__classdict__" : Str)) = false := by decide) : DE X (.Name x pos) (mVar i) := by
  refine ⟨_, pe_var hN hv hd hcd, fun c σ H Hf e d e' Q hK R hm q => ?_⟩
  unfold mVar at hm
  split at hm
  · rename_i d' he
    cases hm
    obtain ⟨v, h1, h2⟩ := R.sl i _ he
    exact ⟨v, h1, q v H Hf R (Same.refl _) h2⟩
  · cases hm
theorem de_int {i : Int} {j : Nat} {pos : Pos} : DE X (.Constant (.int i) j pos) (mC (.int i)) :=
  ⟨_, pe_int, fun c σ H Hf e d e' Q hK R hm q => by cases hm; exact q _ _ _ R (Same.refl _) (.int i)⟩
theorem de_bl {b : Bool} {j : Nat} {pos : Pos} : DE X (.Constant (.bool b) j pos) (mC (.bl b)) :=
  ⟨_, pe_bl, fun c σ H Hf e d e' Q hK R hm q => by cases hm; exact q _ _ _ R (Same.refl _) (.bl b)⟩
theorem de_non {j : Nat} {pos : Pos} : DE X (.Constant .none j pos) (mC .non) :=
  ⟨_, pe_non, fun c σ H Hf e d e' Q hK R hm q => by cases hm; exact q _ _ _ R (Same.refl _) .non⟩
theorem de_str {x : Str} {j : Nat} {pos : Pos} : DE X (.Constant (.str x) j pos) (mC (.str x)) :=
  ⟨_, pe_str, fun c σ H Hf e d e' Q hK R hm q => by cases hm; exact q _ _ _ R (Same.refl _) (.str x)⟩
/-- a module's constant, an int -/
theorem de_glob {x : Str} {n : Int} {u : Value} {pos : Pos} (hm : X.mg x = some u) (r : RelV (.int n) u) (hg : Gl X x := by rfl) (hd : (x == ("__debug__" : Str)) = false := by decide) : DE X (.Name x pos) (mC (.int n)) :=
  ⟨_, pe_glob hg hm r hd, fun c σ H Hf e d e' Q hK R hm q => by cases hm; exact q _ _ _ R (Same.refl _) (.int n)⟩
section
variable {a b ec : Expr} {ma mb mc : M D} {pos : Pos}
theorem de_bin {op : Operator} {o : D → D → Option D} (ho : OpS X (binaryOp op) o) (ha : DE X a ma) (hb : DE X b mb) : DE X (.BinOp a op b pos) (mBin o ma mb) := by
  obtain ⟨r, ro, so⟩ := ho
  obtain ⟨ta, pa, sa⟩ := ha
  obtain ⟨tb, pb, sb⟩ := hb
  refine ⟨_, pe_op ro pa pb, fun c σ H Hf e d e' Q hK R hm q => ?_⟩
  unfold mBin at hm
  split at hm
  · cases hm
  rename_i x e1 h1
  split at hm
  · cases hm
  rename_i y e2 h2
  split at hm
  · cases hm
  rename_i z h3
  cases hm
  refine sa c σ H Hf e x e1 _ hK R h1 fun v H1 Hf1 R1 S1 V1 => ?_
  refine sb c σ H1 Hf1 e1 y _ _ hK R1 h2 fun w H2 Hf2 R2 S2 V2 => ?_
  exact so c σ H2 Hf2 _ x y _ v w Q hK R2 (V1.mono S2) V2 h3 fun u H' Hf' R' S' V' => q u H' Hf' R' (S1.trans (S2.trans S')) V'
theorem de_un {op : UnaryOp} {o : D → Option D} (ho : UnS X (unaryOp op) o) (ha : DE X a ma) : DE X (.UnaryOp op a pos) (mUn o ma) := by
  obtain ⟨r, ro, so⟩ := ho
  obtain ⟨ta, pa, sa⟩ := ha
  refine ⟨_, pe_un ro pa, fun c σ H Hf e d e' Q hK R hm q => ?_⟩
  unfold mUn at hm
  split at hm
  · cases hm
  rename_i x e1 h1
  split at hm
  · cases hm
  rename_i z h3
  cases hm
  refine sa c σ H Hf e x _ _ hK R h1 fun v H1 Hf1 R1 S1 V1 => ?_
  exact so c σ H1 Hf1 _ x _ v Q hK R1 V1 h3 fun u H' Hf' R' S' V' => q u H' Hf' R' (S1.trans S') V'
theorem de_cmp {op : CmpOp} {o : D → D → Option D} (ho : OpS X (compareOp op) o) (ha : DE X a ma) (hb : DE X b mb) (hmk : behindInMarks op b = false := by first | exact nomark _ | rfl) : DE X (.Compare a [op] [b] pos) (mBin o ma mb) := by
  obtain ⟨r, ro, so⟩ := ho
  obtain ⟨ta, pa, sa⟩ := ha
  obtain ⟨tb, pb, sb⟩ := hb
  refine ⟨_, pe_cmpR ro pa pb hmk, fun c σ H Hf e d e' Q hK R hm q => ?_⟩
  unfold mBin at hm
  split at hm
  · cases hm
  rename_i x e1 h1
  split at hm
  · cases hm
  rename_i y e2 h2
  split at hm
  · cases hm
  rename_i z h3
  cases hm
  refine sa c σ H Hf e x e1 _ hK R h1 fun v H1 Hf1 R1 S1 V1 => ?_
  refine sb c σ H1 Hf1 e1 y _ _ hK R1 h2 fun w H2 Hf2 R2 S2 V2 => ?_
  exact so c σ H2 Hf2 _ x y _ v w Q hK R2 (V1.mono S2) V2 h3 fun u H' Hf' R' S' V' => q u H' Hf' R' (S1.trans (S2.trans S')) V'
theorem Rep.bl_inv {K : PySem.W.Frag} {H : Hp} {v : V} {b : Bool} (h : Rep K H v (.bl b)) : v = .bl b := by cases h; rfl
theorem Rep.int_inv {K : PySem.W.Frag} {H : Hp} {v : V} {i : Int} (h : Rep K H v (.int i)) : v = .int i := by cases h; rfl
/-- a test that is a comparison -/
theorem dt_cmp {op : CmpOp} {o : D → D → Option D} (ho : OpS X (compareOp op) o) (ha : DE X a ma) (hb : DE X b mb) (hmk : behindInMarks op b = false := by first | exact nomark _ | rfl) : DT X (.Compare a [op] [b] pos) (tVal (mBin o ma mb)) := by
  obtain ⟨r, ro, so⟩ := ho
  obtain ⟨ta, pa, sa⟩ := ha
  obtain ⟨tb, pb, sb⟩ := hb
  refine ⟨_, pt_cmpR ro pa pb hmk, fun c σ H Hf e d e' Q hK R hm q => ?_⟩
  unfold tVal at hm
  split at hm
  · rename_i k e2 hm2
    cases hm
    unfold mBin at hm2
    split at hm2
    · cases hm2
    rename_i x e1 h1
    split at hm2
    · cases hm2
    rename_i y e2 h2
    split at hm2
    · cases hm2
    rename_i z h3
    cases hm2
    refine sa c σ H Hf e x e1 _ hK R h1 fun v H1 Hf1 R1 S1 V1 => ?_
    refine sb c σ H1 Hf1 e1 y _ _ hK R1 h2 fun w H2 Hf2 R2 S2 V2 => ?_
    exact so c σ H2 Hf2 _ x y _ v w _ hK R2 (V1.mono S2) V2 h3 fun u H' Hf' R' S' V' => ⟨_, V'.bl_inv, q H' Hf' R' (S1.trans (S2.trans S'))⟩
  · cases hm
/-- a op1 b op2 c -/
theorem chain_core {r r' : R2} {o o' : D → D → Option D} {ta tb tc : TE}
    (so : ∀ (c : Ct) (σ : L2.St) (H Hf : Hp) (e : DL.Env) (x y z : D) (v w : V) (Q : VK), c.K = X.K → Rl c σ H Hf e → Rep c.K Hf v x → Rep c.K Hf w y → o x y = some z → (∀ u H' Hf', Rl c σ H' Hf' e → Same Hf Hf' → Rep c.K Hf' u z → Q u H') → r v w H Q)
    (so' : ∀ (c : Ct) (σ : L2.St) (H Hf : Hp) (e : DL.Env) (x y z : D) (v w : V) (Q : VK), c.K = X.K → Rl c σ H Hf e → Rep c.K Hf v x → Rep c.K Hf w y → o' x y = some z → (∀ u H' Hf', Rl c σ H' Hf' e → Same Hf Hf' → Rep c.K Hf' u z → Q u H') → r' v w H Q)
    (sa : ∀ (c : Ct) (σ : L2.St) (H Hf : Hp) (e : DL.Env) (d : D) (e' : DL.Env) (Q : VK), c.K = X.K → Rl c σ H Hf e → ma e = some (d, e') → (∀ v H' Hf', Rl c σ H' Hf' e' → Same Hf Hf' → Rep c.K Hf' v d → Q v H') → ta σ H Q)
    (sb : ∀ (c : Ct) (σ : L2.St) (H Hf : Hp) (e : DL.Env) (d : D) (e' : DL.Env) (Q : VK), c.K = X.K → Rl c σ H Hf e → mb e = some (d, e') → (∀ v H' Hf', Rl c σ H' Hf' e' → Same Hf Hf' → Rep c.K Hf' v d → Q v H') → tb σ H Q)
    (sc : ∀ (c : Ct) (σ : L2.St) (H Hf : Hp) (e : DL.Env) (d : D) (e' : DL.Env) (Q : VK), c.K = X.K → Rl c σ H Hf e → mc e = some (d, e') → (∀ v H' Hf', Rl c σ H' Hf' e' → Same Hf Hf' → Rep c.K Hf' v d → Q v H') → tc σ H Q)
    (c : Ct) (σ : L2.St) (H Hf : Hp) (e : DL.Env) (d : D) (e' : DL.Env) (Q : VK) (hK : c.K = X.K) (R : Rl c σ H Hf e) (hm : mChain o o' ma mb mc e = some (d, e'))
    (q : ∀ v H' Hf', Rl c σ H' Hf' e' → Same Hf Hf' → Rep c.K Hf' v d → Q v H') : tChain r r' ta tb tc σ H Q := by
  unfold mChain at hm
  split at hm
  · cases hm
  rename_i x e1 h1
  split at hm
  · cases hm
  rename_i y e2 h2
  refine sa c σ H Hf e x e1 _ hK R h1 fun v H1 Hf1 R1 S1 V1 => ?_
  refine sb c σ H1 Hf1 e1 y e2 _ hK R1 h2 fun w H2 Hf2 R2 S2 V2 => ?_
  split at hm
  · rename_i h3
    refine so c σ H2 Hf2 e2 x y _ v w _ hK R2 (V1.mono S2) V2 h3 fun u H3 Hf3 R3 S3 V3 => ⟨true, V3.bl_inv, ?_⟩
    rw [if_pos rfl]
    split at hm
    · cases hm
    rename_i z e3 h4
    split at hm
    · cases hm
    rename_i k h5
    cases hm
    refine sc c σ H3 Hf3 e2 z _ _ hK R3 h4 fun w3 H4 Hf4 R4 S4 V4 => ?_
    exact so' c σ H4 Hf4 _ y z _ w w3 Q hK R4 (V2.mono (S3.trans S4)) V4 h5 fun u5 H5 Hf5 R5 S5 V5 => q _ _ _ R5 (S1.trans (S2.trans (S3.trans (S4.trans S5)))) V5
  · rename_i h3
    cases hm
    refine so c σ H2 Hf2 _ x y _ v w _ hK R2 (V1.mono S2) V2 h3 fun u H3 Hf3 R3 S3 V3 => ⟨false, V3.bl_inv, ?_⟩
    rw [if_neg Bool.false_ne_true]
    exact q _ _ _ R3 (S1.trans (S2.trans S3)) (.bl false)
  · cases hm
theorem de_chain {op op' : CmpOp} {o o' : D → D → Option D} (ho : OpS X (compareOp op) o) (ho' : OpS X (compareOp op') o') (ha : DE X a ma) (hb : DE X b mb) (hc : DE X ec mc) (hmk : lastMarks [op, op'] [b, ec] = false := by with_unfolding_all rfl) :
    DE X (.Compare a [op, op'] [b, ec] pos) (mChain o o' ma mb mc) := by
  obtain ⟨r, ro, so⟩ := ho
  obtain ⟨r', ro', so'⟩ := ho'
  obtain ⟨ta, pa, sa⟩ := ha
  obtain ⟨tb, pb, sb⟩ := hb
  obtain ⟨tc, pc, sc⟩ := hc
  exact ⟨_, pe_chain ro ro' pa pb pc hmk, fun c σ H Hf e d e' Q hK R hm q => chain_core so so' sa sb sc c σ H Hf e d e' Q hK R hm q⟩
theorem dt_chain {op op' : CmpOp} {o o' : D → D → Option D} (ho : OpS X (compareOp op) o) (ho' : OpS X (compareOp op') o') (ha : DE X a ma) (hb : DE X b mb) (hc : DE X ec mc) (hmk : lastMarks [op, op'] [b, ec] = false := by with_unfolding_all rfl) :
    DT X (.Compare a [op, op'] [b, ec] pos) (tVal (mChain o o' ma mb mc)) := by
  obtain ⟨r, ro, so⟩ := ho
  obtain ⟨r', ro', so'⟩ := ho'
  obtain ⟨ta, pa, sa⟩ := ha
  obtain ⟨tb, pb, sb⟩ := hb
  obtain ⟨tc, pc, sc⟩ := hc
  refine ⟨_, pt_chain ro ro' pa pb pc hmk, fun c σ H Hf e d e' Q hK R hm q => ?_⟩
  unfold tVal at hm
  split at hm
  · rename_i k e2 hm2
    cases hm
    exact chain_core so so' sa sb sc c σ H Hf e _ _ _ hK R hm2 fun v H' Hf' R' S' V' => ⟨_, V'.bl_inv, q H' Hf' R' S'⟩
  · cases hm
/-! ### tests -/
/-- any expression that gives a truth value, as a test -/
theorem dt_val (ha : DE X a ma) (he : ∀ whole, isTrue a X.env whole = (do let v ← whole; standAt a.pos; holding [v] (truthy v)) := by intro _; rfl) : DT X a (tVal ma) := by
  obtain ⟨ta, pa, sa⟩ := ha
  refine ⟨_, pt_val pa he, fun c σ H Hf e d e' Q hK R hm q => ?_⟩
  unfold tVal at hm
  split at hm
  · rename_i k e2 hm2
    cases hm
    exact sa c σ H Hf e _ _ _ hK R hm2 fun v H' Hf' R' S' V' => ⟨_, V'.bl_inv, q H' Hf' R' S'⟩
  · cases hm
variable {tA tB : M Bool} {rest : List Expr}
theorem DW.t (h : DW X a tA) : DT X a tA := by
  obtain ⟨t, p, s⟩ := h
  exact ⟨t, p.pt, s⟩
theorem dw_and1 (ha : DT X a tA) : DW X (.BoolOp .And [a] pos) tA := by
  obtain ⟨t, p, s⟩ := ha
  exact ⟨t, pw_and1 p, s⟩
theorem dw_or1 (ha : DT X a tA) : DW X (.BoolOp .Or [a] pos) tA := by
  obtain ⟨t, p, s⟩ := ha
  exact ⟨t, pw_or1 p, s⟩
theorem dw_and (ha : DT X a tA) (hb : DW X (.BoolOp .And (b :: rest) pos) tB) : DW X (.BoolOp .And (a :: b :: rest) pos) (DL.tAnd tA tB) := by
  obtain ⟨t, p, s⟩ := ha
  obtain ⟨u, p2, s2⟩ := hb
  refine ⟨_, pw_and p p2, fun c σ H Hf e d e' Q hK R hm q => ?_⟩
  unfold DL.tAnd at hm
  split at hm
  · cases hm
  · rename_i e1 h1
    refine s c σ H Hf e _ _ _ hK R h1 fun H1 Hf1 R1 S1 => ?_
    rw [if_pos rfl]
    exact s2 c σ H1 Hf1 _ _ _ _ hK R1 hm fun H' Hf' R' S' => q H' Hf' R' (S1.trans S')
  · rename_i e1 h1
    cases hm
    refine s c σ H Hf e _ _ _ hK R h1 fun H1 Hf1 R1 S1 => ?_
    rw [if_neg Bool.false_ne_true]
    exact q H1 Hf1 R1 S1
theorem dw_or (ha : DT X a tA) (hb : DW X (.BoolOp .Or (b :: rest) pos) tB) : DW X (.BoolOp .Or (a :: b :: rest) pos) (DL.tOr tA tB) := by
  obtain ⟨t, p, s⟩ := ha
  obtain ⟨u, p2, s2⟩ := hb
  refine ⟨_, pw_or p p2, fun c σ H Hf e d e' Q hK R hm q => ?_⟩
  unfold DL.tOr at hm
  split at hm
  · cases hm
  · rename_i e1 h1
    cases hm
    refine s c σ H Hf e _ _ _ hK R h1 fun H1 Hf1 R1 S1 => ?_
    rw [if_pos rfl]
    exact q H1 Hf1 R1 S1
  · rename_i e1 h1
    refine s c σ H Hf e _ _ _ hK R h1 fun H1 Hf1 R1 S1 => ?_
    rw [if_neg Bool.false_ne_true]
    exact s2 c σ H1 Hf1 _ _ _ _ hK R1 hm fun H' Hf' R' S' => q H' Hf' R' (S1.trans S')
theorem dt_not (ha : DT X a tA) : DT X (.UnaryOp .Not a pos) (DL.tNot tA) := by
  obtain ⟨t, p, s⟩ := ha
  refine ⟨_, pt_not p, fun c σ H Hf e d e' Q hK R hm q => ?_⟩
  unfold DL.tNot at hm
  split at hm
  · cases hm
  · rename_i b e1 h1
    cases hm
    exact s c σ H Hf e _ _ _ hK R h1 fun H1 Hf1 R1 S1 => q H1 Hf1 R1 S1
/-! ### and, or, not as values -/
theorem de_one {op : BoolOp} (ha : DE X a ma) : DE X (.BoolOp op [a] pos) ma := by
  obtain ⟨t, p, s⟩ := ha
  exact ⟨t, pe_one p, s⟩
theorem de_and (ha : DE X a ma) (hb : DE X (.BoolOp .And (b :: rest) pos) mb) : DE X (.BoolOp .And (a :: b :: rest) pos) (mAnd ma mb) := by
  obtain ⟨t, p, s⟩ := ha
  obtain ⟨u, p2, s2⟩ := hb
  refine ⟨_, pe_and p p2, fun c σ H Hf e d e' Q hK R hm q => ?_⟩
  unfold mAnd at hm
  split at hm
  · rename_i e1 h1
    refine s c σ H Hf e _ _ _ hK R h1 fun v H1 Hf1 R1 S1 V1 => ⟨true, V1.bl_inv, ?_⟩
    rw [if_pos rfl]
    exact s2 c σ H1 Hf1 _ _ _ _ hK R1 hm fun v H' Hf' R' S' V' => q v H' Hf' R' (S1.trans S') V'
  · rename_i e1 h1
    cases hm
    refine s c σ H Hf e _ _ _ hK R h1 fun v H1 Hf1 R1 S1 V1 => ⟨false, V1.bl_inv, ?_⟩
    rw [if_neg Bool.false_ne_true]
    exact q _ H1 Hf1 R1 S1 (.bl false)
  · cases hm
theorem de_or (ha : DE X a ma) (hb : DE X (.BoolOp .Or (b :: rest) pos) mb) : DE X (.BoolOp .Or (a :: b :: rest) pos) (mOr ma mb) := by
  obtain ⟨t, p, s⟩ := ha
  obtain ⟨u, p2, s2⟩ := hb
  refine ⟨_, pe_or p p2, fun c σ H Hf e d e' Q hK R hm q => ?_⟩
  unfold mOr at hm
  split at hm
  · rename_i e1 h1
    cases hm
    refine s c σ H Hf e _ _ _ hK R h1 fun v H1 Hf1 R1 S1 V1 => ⟨true, V1.bl_inv, ?_⟩
    rw [if_pos rfl]
    exact q _ H1 Hf1 R1 S1 (.bl true)
  · rename_i e1 h1
    refine s c σ H Hf e _ _ _ hK R h1 fun v H1 Hf1 R1 S1 V1 => ⟨false, V1.bl_inv, ?_⟩
    rw [if_neg Bool.false_ne_true]
    exact s2 c σ H1 Hf1 _ _ _ _ hK R1 hm fun v H' Hf' R' S' V' => q v H' Hf' R' (S1.trans S') V'
  · cases hm
theorem de_not (ha : DE X a ma) : DE X (.UnaryOp .Not a pos) (mNot ma) := by
  obtain ⟨t, p, s⟩ := ha
  refine ⟨_, pe_not p, fun c σ H Hf e d e' Q hK R hm q => ?_⟩
  unfold mNot at hm
  split at hm
  · rename_i b e1 h1
    cases hm
    exact s c σ H Hf e _ _ _ hK R h1 fun v H1 Hf1 R1 S1 V1 => ⟨b, V1.bl_inv, q _ H1 Hf1 R1 S1 (.bl _)⟩
  · cases hm
theorem de_if (ht : DT X ec tA) (ha : DE X a ma) (hb : DE X b mb) : DE X (.IfExp ec a b pos) (mIf tA ma mb) := by
  obtain ⟨t, p, s⟩ := ht
  obtain ⟨u, p2, s2⟩ := ha
  obtain ⟨w, p3, s3⟩ := hb
  refine ⟨_, pe_ifExp p p2 p3, fun c σ H Hf e d e' Q hK R hm q => ?_⟩
  unfold mIf at hm
  split at hm
  · cases hm
  · rename_i e1 h1
    refine s c σ H Hf e _ _ _ hK R h1 fun H1 Hf1 R1 S1 => ?_
    rw [if_pos rfl]
    exact s2 c σ H1 Hf1 _ _ _ _ hK R1 hm fun v H' Hf' R' S' V' => q v H' Hf' R' (S1.trans S') V'
  · rename_i e1 h1
    refine s c σ H Hf e _ _ _ hK R h1 fun H1 Hf1 R1 S1 => ?_
    rw [if_neg Bool.false_ne_true]
    exact s3 c σ H1 Hf1 _ _ _ _ hK R1 hm fun v H' Hf' R' S' V' => q v H' Hf' R' (S1.trans S') V'
end
/-! ### argument lists, displays, calls -/
section
variable {ea : Expr} {es : List Expr} {m : M D} {r : M (List D)} {pos : Pos}
theorem da_nil : DA X [] mNil := ⟨_, pa_nil, fun c σ H Hf e d e' Q hK R hm q => by cases hm; exact q [] H Hf R (Same.refl _) .nil⟩
theorem da_cons (ha : DE X ea m) (hr : DA X es r) (hs : starEach (ea :: es) X.env = (false, eval ea X.env) :: starEach es X.env := by rfl) : DA X (ea :: es) (mCons m r) := by
  obtain ⟨t, p, s⟩ := ha
  obtain ⟨u, p2, s2⟩ := hr
  refine ⟨_, pa_cons p p2 hs, fun c σ H Hf e d e' Q hK R hm q => ?_⟩
  unfold mCons at hm
  split at hm
  · cases hm
  rename_i x e1 h1
  split at hm
  · cases hm
  rename_i xs e2 h2
  cases hm
  refine s c σ H Hf e _ _ _ hK R h1 fun v H1 Hf1 R1 S1 V1 => ?_
  exact s2 c σ H1 Hf1 _ _ _ _ hK R1 h2 fun vs H' Hf' R' S' V' => q _ H' Hf' R' (S1.trans S') (.cons (V1.mono S') V')
theorem cap_le {n : Nat} (h : n ≤ cap) : n ≤ sizeLine := h
theorem de_tup {x1 : Nat} (h : DA X es r) : DE X (.Tuple es x1 pos) (mTup r) := by
  obtain ⟨t, p, s⟩ := h
  refine ⟨_, pe_tup p, fun c σ H Hf e d e' Q hK R hm q => ?_⟩
  unfold mTup at hm
  split at hm
  · cases hm
  rename_i xs e1 h1
  split at hm
  · rename_i hc
    cases hm
    refine s c σ H Hf e _ _ _ hK R h1 fun vs H1 Hf1 R1 S1 V1 => ⟨by rw [V1.length]; exact cap_le hc, fun a ha => ?_⟩
    have sm := same_new (o := .tup vs) (none_sub R1.sf ha)
    exact q _ _ _ (R1.alloc ha) (S1.trans sm) (.tup (.of upd_same) (V1.mono sm))
  · cases hm
theorem dn_lst (h : DA X es r) : DN X (.List es pos) (mLst r) := by
  obtain ⟨t, p, s⟩ := h
  refine ⟨_, pe_lst p, fun c σ H Hf e d e' Q hK R hm q => ?_⟩
  unfold mLst at hm
  split at hm
  · cases hm
  rename_i xs e1 h1
  split at hm
  · rename_i hc
    cases hm
    refine s c σ H Hf e _ _ _ hK R h1 fun vs H1 Hf1 R1 S1 V1 => ⟨by rw [V1.length]; exact cap_le hc, fun a ha => ?_⟩
    exact q _ _ _ _ (R1.track ha) S1 (.of R1 ha) V1
  · cases hm
theorem de_callB {x : Str} {id : String} {p : Pos} {g : List D → Option D} (hc : CallS X (.builtin id) g) (hm : X.mg x = none) (hv : bootBuiltins x = some (.builtin id)) (ha : DA X (ea :: es) r) (hg : Gl X x := by rfl) (hn : x ≠ "__name__" := by decide) (hdb : (x == ("__debug__" : Str)) = false := by decide)
    (he : starEach (ea :: es) X.env = (false, eval ea X.env) :: starEach es X.env := by rfl) (hpl : (backTo pos (starEach es X.env)).any (·.1) = false := by rfl) : DE X (.Call (.Name x p) (ea :: es) [] pos) (mF g r) := by
  obtain ⟨rc, pc, sc⟩ := hc
  obtain ⟨t, pa, s⟩ := ha
  refine ⟨_, pe_callB pc hg hm hv pa hn hdb he hpl, fun c σ H Hf e d e' Q hK R hm q => ?_⟩
  unfold mF at hm
  split at hm
  · cases hm
  rename_i xs e1 h1
  split at hm
  · cases hm
  rename_i d' h2
  cases hm
  refine s c σ H Hf e _ _ _ hK R h1 fun vs H1 Hf1 R1 S1 V1 => ?_
  exact sc c σ H1 Hf1 _ vs xs _ Q hK R1 V1 h2 fun u H' Hf' R' S' V' => q u H' Hf' R' (S1.trans S') V'
theorem de_callTy {x : Str} {T : String} {p : Pos} {g : List D → Option D} (hc : CallS X (.type T) g) (hm : X.mg x = none) (hv : bootBuiltins x = some (.type T)) (ha : DA X (ea :: es) r) (hg : Gl X x := by rfl) (hn : x ≠ "__name__" := by decide) (hdb : (x == ("__debug__" : Str)) = false := by decide)
    (he : starEach (ea :: es) X.env = (false, eval ea X.env) :: starEach es X.env := by rfl) (hpl : (backTo pos (starEach es X.env)).any (·.1) = false := by rfl) : DE X (.Call (.Name x p) (ea :: es) [] pos) (mF g r) := by
  obtain ⟨rc, pc, sc⟩ := hc
  obtain ⟨t, pa, s⟩ := ha
  refine ⟨_, pe_callTy pc hg hm hv pa hn hdb he hpl, fun c σ H Hf e d e' Q hK R hm q => ?_⟩
  unfold mF at hm
  split at hm
  · cases hm
  rename_i xs e1 h1
  split at hm
  · cases hm
  rename_i d' h2
  cases hm
  refine s c σ H Hf e _ _ _ hK R h1 fun vs H1 Hf1 R1 S1 V1 => ?_
  exact sc c σ H1 Hf1 _ vs xs _ Q hK R1 V1 h2 fun u H' Hf' R' S' V' => q u H' Hf' R' (S1.trans S') V'
theorem dn_callTy {x : Str} {T : String} {p : Pos} {g : List D → Option (List D)} (hc : CallN X (.type T) g) (hm : X.mg x = none) (hv : bootBuiltins x = some (.type T)) (ha : DA X (ea :: es) r) (hg : Gl X x := by rfl) (hn : x ≠ "__name__" := by decide) (hdb : (x == ("__debug__" : Str)) = false := by decide)
    (he : starEach (ea :: es) X.env = (false, eval ea X.env) :: starEach es X.env := by rfl) (hpl : (backTo pos (starEach es X.env)).any (·.1) = false := by rfl) : DN X (.Call (.Name x p) (ea :: es) [] pos) (mFN g r) := by
  obtain ⟨rc, pc, sc⟩ := hc
  obtain ⟨t, pa, s⟩ := ha
  refine ⟨_, pe_callTy pc hg hm hv pa hn hdb he hpl, fun c σ H Hf e d e' Q hK R hm q => ?_⟩
  unfold mFN at hm
  split at hm
  · cases hm
  rename_i xs e1 h1
  split at hm
  · cases hm
  rename_i d' h2
  cases hm
  refine s c σ H Hf e _ _ _ hK R h1 fun vs H1 Hf1 R1 S1 V1 => ?_
  exact sc c σ H1 Hf1 _ vs xs _ Q hK R1 V1 h2 fun p vs H' Hf' R' S' N' V' => q p vs H' Hf' R' (S1.trans S') N' V'
theorem dn_callB {x : Str} {T : String} {p : Pos} {g : List D → Option (List D)} (hc : CallN X (.builtin T) g) (hm : X.mg x = none) (hv : bootBuiltins x = some (.builtin T)) (ha : DA X (ea :: es) r) (hg : Gl X x := by rfl) (hn : x ≠ "__name__" := by decide) (hdb : (x == ("__debug__" : Str)) = false := by decide)
    (he : starEach (ea :: es) X.env = (false, eval ea X.env) :: starEach es X.env := by rfl) (hpl : (backTo pos (starEach es X.env)).any (·.1) = false := by rfl) : DN X (.Call (.Name x p) (ea :: es) [] pos) (mFN g r) := by
  obtain ⟨rc, pc, sc⟩ := hc
  obtain ⟨t, pa, s⟩ := ha
  refine ⟨_, pe_callB pc hg hm hv pa hn hdb he hpl, fun c σ H Hf e d e' Q hK R hm q => ?_⟩
  unfold mFN at hm
  split at hm
  · cases hm
  rename_i xs e1 h1
  split at hm
  · cases hm
  rename_i d' h2
  cases hm
  refine s c σ H Hf e _ _ _ hK R h1 fun vs H1 Hf1 R1 S1 V1 => ?_
  exact sc c σ H1 Hf1 _ vs xs _ Q hK R1 V1 h2 fun p vs H' Hf' R' S' N' V' => q p vs H' Hf' R' (S1.trans S') N' V'
end
end DL

namespace DL
open PySem PySem.Spec PyProof.Rows L2
variable {X : Cx}
/-! ### the operations of values are Python's -/
/-- list + list, whatever they are read from -/
theorem op_catL : OpR X (binaryOp .Add) (fun x y H Q => ∃ l b xs zs, x = .ref l ∧ y = .ref b ∧ SqL X.K H l xs ∧ SqL X.K H b zs ∧ xs.length + zs.length ≤ sizeLine ∧ ∀ p, H p = none → Q (.ref p) (upd H p (.lst (xs ++ zs)))) := by
  intro pins s σ H x y v u Q I rx ry h
  obtain ⟨l, b, xs, zs, rfl, rfl, hl, hb, hz, q⟩ := h
  cases rx
  cases ry
  obtain ⟨its, r1, ⟨⟨c1, d1, da1, s1⟩, n1, e1, g1, k1, f1⟩, z1⟩ := I.list hl
  obtain ⟨its2, r2, ⟨⟨c2, d2, da2, s2⟩, n2, e2, g2, k2, f2⟩, z2⟩ := I.list hb
  simp only at g1 f1 g2 f2
  subst g1 f1 g2 f2
  have l1 := r1.length
  have l2 := r2.length
  have ea : its.toArray ++ its2.toArray = (its ++ its2).toArray := by simp
  refine concat_meets (A := X.A) ⟨_, e1, rfl⟩ ⟨_, e2, rfl⟩ noFill_list_add seq_list_add PySem.F.slot_list_add PySem.F.entry_list_add
    (PySem.F.args_list_add_2 _ _) (list_addW l b its.toArray its2.toArray n1 n2 d1 d2 s1 s2 (by rw [List.size_toArray, List.size_toArray]; omega)) ⟨e1, e2, ?_⟩
  rw [ea]
  exact ⟨.ref _, _, I.lnew (t' := s.toks) (r1.append r2) (by rw [List.length_append]; omega), rfl, q _ I.fresh⟩
section
variable {c : Ct} {σ : L2.St} {H Hf : Hp} {e : DL.Env}
theorem Rl.seqL (R : Rl c σ H Hf e) {a : Addr} {xs : List V} (h : SqL c.K Hf a xs) : SqL c.K H a xs := sqL_mono R.sf h
theorem Rl.seqT (R : Rl c σ H Hf e) {a : Addr} {xs : List V} (h : SqT c.K Hf a xs) : SqT c.K H a xs := sqT_mono R.sf h
theorem Rl.newT (R : Rl c σ H Hf e) {p : Addr} {vs : List V} {ds : List D} {Q : VK} (hp : H p = none) (r : RepL c.K Hf vs ds) (q : ∀ u H' Hf', Rl c σ H' Hf' e → Same Hf Hf' → Rep c.K Hf' u (.tup ds) → Q u H') : Q (.ref p) (upd H p (.tup vs)) :=
  q _ _ _ (R.alloc hp) (same_new (none_sub R.sf hp)) (.tup (.of upd_same) (r.mono (same_new (none_sub R.sf hp))))
theorem Rl.newL (R : Rl c σ H Hf e) {p : Addr} {vs : List V} {ds : List D} {Q : VK} (hp : H p = none) (r : RepL c.K Hf vs ds) (q : ∀ u H' Hf', Rl c σ H' Hf' e → Same Hf Hf' → Rep c.K Hf' u (.lst ds) → Q u H') : Q (.ref p) (upd H p (.lst vs)) :=
  q _ _ _ (R.alloc hp) (same_new (none_sub R.sf hp)) (.lst (.of upd_same) (r.mono (same_new (none_sub R.sf hp))))
end
theorem os_add : OpS X (binaryOp .Add) oAdd := by
  refine ⟨_, (op_add.or op_catA).or op_catL, fun c σ H Hf e x y z v w Q hK R hv hw ho q => ?_⟩
  unfold oAdd at ho
  split at ho
  · cases ho
    cases hv; cases hw
    exact .inl (.inl ⟨_, _, rfl, rfl, q _ _ _ R (Same.refl _) (.int _)⟩)
  · split at ho
    · rename_i hc
      cases ho
      cases hv with
      | tup ha ra =>
        cases hw with
        | tup hb rb =>
          refine .inl (.inr ⟨_, _, _, _, rfl, rfl, hK ▸ R.seqT ha, hK ▸ R.seqT hb, by rw [ra.length, rb.length]; exact cap_le hc, fun z1 => ?_, fun z1 z2 => ?_, fun z1 z2 p hp => ?_⟩)
          · subst z1; cases ra
            exact q _ _ _ R (Same.refl _) (.tup hb rb)
          · subst z2; cases rb
            rw [List.append_nil] at q
            exact q _ _ _ R (Same.refl _) (.tup ha ra)
          · exact R.newT hp (ra.app rb) q
    · cases ho
  · split at ho
    · rename_i hc
      cases ho
      cases hv with
      | lst ha ra =>
        cases hw with
        | lst hb rb =>
          refine .inr ⟨_, _, _, _, rfl, rfl, hK ▸ R.seqL ha, hK ▸ R.seqL hb, by rw [ra.length, rb.length]; exact cap_le hc, fun p hp => ?_⟩
          exact R.newL hp (ra.app rb) q
    · cases ho
  · cases ho
/-- list + list as a new list -/
theorem dn_add {a b : Expr} {ma mb : M D} {pos : Pos} (ha : DE X a ma) (hb : DE X b mb) : DN X (.BinOp a .Add b pos) (mNew (mBin oAdd ma mb)) := by
  obtain ⟨ta, pa, sa⟩ := ha
  obtain ⟨tb, pb, sb⟩ := hb
  refine ⟨_, pe_op op_catL pa pb, fun c σ H Hf e d e' Q hK R hm q => ?_⟩
  unfold mNew at hm
  split at hm
  · rename_i xs e3 hm2
    cases hm
    unfold mBin at hm2
    split at hm2
    · cases hm2
    rename_i x e1 h1
    split at hm2
    · cases hm2
    rename_i y e2 h2
    split at hm2
    · cases hm2
    rename_i z h3
    cases hm2
    refine sa c σ H Hf e x e1 _ hK R h1 fun v H1 Hf1 R1 S1 V1 => ?_
    refine sb c σ H1 Hf1 e1 y _ _ hK R1 h2 fun w H2 Hf2 R2 S2 V2 => ?_
    have V1 := V1.mono S2
    unfold oAdd at h3
    split at h3
    · cases h3
    · split at h3 <;> cases h3
    · split at h3
      · rename_i hc
        cases h3
        cases V1 with
        | lst ha ra =>
          cases V2 with
          | lst hb rb =>
            refine ⟨_, _, _, _, rfl, rfl, hK ▸ R2.seqL ha, hK ▸ R2.seqL hb, by rw [ra.length, rb.length]; exact cap_le hc, fun p hp => ?_⟩
            exact q _ _ _ _ (R2.track hp) (S1.trans S2) (.of R2 hp) (ra.app rb)
      · cases h3
    · cases h3
  · cases hm
theorem os_sub : OpS X (binaryOp .Sub) oSub := by
  refine ⟨_, op_sub, fun c σ H Hf e x y z v w Q hK R hv hw ho q => ?_⟩
  unfold oSub at ho
  split at ho
  · cases ho
    cases hv; cases hw
    exact ⟨_, _, rfl, rfl, q _ _ _ R (Same.refl _) (.int _)⟩
  · cases ho
theorem small_ok {i : Int} (h : small i = true) : -(2 ^ 64) < i ∧ i < 2 ^ 64 := of_decide_eq_true h
theorem os_mul : OpS X (binaryOp .Mult) oMul := by
  refine ⟨_, op_mul, fun c σ H Hf e x y z v w Q hK R hv hw ho q => ?_⟩
  unfold oMul at ho
  split at ho
  · split at ho
    · rename_i i j hc
      cases ho
      cases hv; cases hw
      refine ⟨_, _, rfl, rfl, ?_, q _ _ _ R (Same.refl _) (.int _)⟩
      rcases Bool.or_eq_true_iff.mp hc with z | z
      · exact .inl (small_ok z)
      · exact .inr (small_ok z)
    · cases ho
  · cases ho
theorem os_div : OpS X (binaryOp .FloorDiv) oDiv := by
  refine ⟨_, op_fdivW, fun c σ H Hf e x y z v w Q hK R hv hw ho q => ?_⟩
  unfold oDiv at ho
  split at ho
  · split at ho
    · rename_i i j hc
      cases ho
      cases hv; cases hw
      have hc := of_decide_eq_true hc
      refine ⟨_, _, rfl, rfl, wide_div (b := 64) hc.1 ?_ (by decide) (by decide), q _ _ _ R (Same.refl _) (.int _)⟩
      omega
    · cases ho
  · cases ho
theorem os_mod : OpS X (binaryOp .Mod) oMod := by
  refine ⟨_, op_mod, fun c σ H Hf e x y z v w Q hK R hv hw ho q => ?_⟩
  unfold oMod at ho
  split at ho
  · split at ho
    · rename_i i j hc
      cases ho
      cases hv; cases hw
      exact ⟨_, _, rfl, rfl, of_decide_eq_true hc, q _ _ _ R (Same.refl _) (.int _)⟩
    · cases ho
  · cases ho
theorem os_pow : OpS X (binaryOp .Pow) oPow := by
  refine ⟨_, op_pow, fun c σ H Hf e x y z v w Q hK R hv hw ho q => ?_⟩
  unfold oPow at ho
  split at ho
  · split at ho
    · rename_i i j hc
      cases ho
      cases hv; cases hw
      have hc : 0 ≤ j ∧ j ≤ 1000000 ∧ i.natAbs < 2 ^ 64 := of_decide_eq_true hc
      exact ⟨_, _, rfl, rfl, hc, q _ _ _ R (Same.refl _) (.int _)⟩
    · cases ho
  · cases ho
theorem us_neg : UnS X (unaryOp .USub) oNeg := by
  refine ⟨_, un_neg, fun c σ H Hf e x z v Q hK R hv ho q => ?_⟩
  unfold oNeg at ho
  split at ho
  · cases ho
    cases hv
    exact ⟨_, rfl, q _ _ _ R (Same.refl _) (.int _)⟩
  · cases ho
/-! ### comparisons -/
theorem op_eqP (hu : X.A.units + 64 < cLine) : OpR X (compareOp .Eq) (fun x y H Q => ∃ d e, Dp X.K H x d ∧ Dp X.K H y e ∧ d.plain = true ∧ e.plain = true ∧ d.depth ≤ 60 ∧ Q (.bl (PyData.eqv d e)) H) := by
  intro pins s σ H x y v u Q I rx ry h
  obtain ⟨d, e, h1, h2, p1, p2, hd, q⟩ := h
  obtain ⟨as, r1⟩ := Dp.reads I d x v h1 rx
  obtain ⟨bs, r2⟩ := Dp.reads I e y u h2 ry
  exact PySem.SeqAt.eq_plain r1 r2 p1 p2 (by have := Nat.min_le_left d.depth e.depth; omega) ⟨.bl _, H, I, rfl, q⟩
theorem op_neP (hu : X.A.units + 64 < cLine) : OpR X (compareOp .NotEq) (fun x y H Q => ∃ d e, Dp X.K H x d ∧ Dp X.K H y e ∧ d.plain = true ∧ e.plain = true ∧ d.depth ≤ 60 ∧ Q (.bl (!PyData.eqv d e)) H) := by
  intro pins s σ H x y v u Q I rx ry h
  obtain ⟨d, e, h1, h2, p1, p2, hd, q⟩ := h
  obtain ⟨as, r1⟩ := Dp.reads I d x v h1 rx
  obtain ⟨bs, r2⟩ := Dp.reads I e y u h2 ry
  exact PySem.SeqAt.ne_plain r1 r2 p1 p2 (by have := Nat.min_le_left d.depth e.depth; omega) ⟨.bl _, H, I, rfl, q⟩
theorem D.ok_pl {d : D} (h : D.ok d = true) : D.pl d = true := (Bool.and_eq_true_iff.mp h).1
theorem D.ok_dep {d : D} (h : D.ok d = true) : D.dep d ≤ 60 := of_decide_eq_true (Bool.and_eq_true_iff.mp h).2
theorem os_eq {k : Nat} (O : XO X k) : OpS X (compareOp .Eq) oEq := by
  refine ⟨_, op_eqP O.room.units, fun c σ H Hf e x y z v w Q hK R hv hw ho q => ?_⟩
  unfold oEq at ho
  split at ho
  · rename_i hc
    cases ho
    obtain ⟨hx, hy⟩ := Bool.and_eq_true_iff.mp hc
    have px := D.ok_pl hx
    have py := D.ok_pl hy
    refine ⟨_, _, hK ▸ (hv.mono R.sf).dp px, hK ▸ (hw.mono R.sf).dp py, plain_toPy x px, plain_toPy y py, Nat.le_trans (dep_toPy x px) (D.ok_dep hx), ?_⟩
    rw [eqv_toPy x y px py]
    exact q _ _ _ R (Same.refl _) (.bl _)
  · cases ho
theorem os_ne {k : Nat} (O : XO X k) : OpS X (compareOp .NotEq) oNe := by
  refine ⟨_, op_neP O.room.units, fun c σ H Hf e x y z v w Q hK R hv hw ho q => ?_⟩
  unfold oNe at ho
  split at ho
  · rename_i hc
    cases ho
    obtain ⟨hx, hy⟩ := Bool.and_eq_true_iff.mp hc
    have px := D.ok_pl hx
    have py := D.ok_pl hy
    refine ⟨_, _, hK ▸ (hv.mono R.sf).dp px, hK ▸ (hw.mono R.sf).dp py, plain_toPy x px, plain_toPy y py, Nat.le_trans (dep_toPy x px) (D.ok_dep hx), ?_⟩
    rw [eqv_toPy x y px py]
    exact q _ _ _ R (Same.refl _) (.bl _)
  · cases ho
theorem os_lt : OpS X (compareOp .Lt) oLt := by
  refine ⟨_, op_lt, fun c σ H Hf e x y z v w Q hK R hv hw ho q => ?_⟩
  unfold oLt at ho
  split at ho
  · cases ho
    cases hv; cases hw
    exact ⟨_, _, rfl, rfl, q _ _ _ R (Same.refl _) (.bl _)⟩
  · cases ho
theorem os_le : OpS X (compareOp .LtE) oLe := by
  refine ⟨_, op_le, fun c σ H Hf e x y z v w Q hK R hv hw ho q => ?_⟩
  unfold oLe at ho
  split at ho
  · cases ho
    cases hv; cases hw
    exact ⟨_, _, rfl, rfl, q _ _ _ R (Same.refl _) (.bl _)⟩
  · cases ho
theorem os_gt : OpS X (compareOp .Gt) oGt := by
  refine ⟨_, op_gt, fun c σ H Hf e x y z v w Q hK R hv hw ho q => ?_⟩
  unfold oGt at ho
  split at ho
  · cases ho
    cases hv; cases hw
    exact ⟨_, _, rfl, rfl, q _ _ _ R (Same.refl _) (.bl _)⟩
  · cases ho
theorem os_ge : OpS X (compareOp .GtE) oGe := by
  refine ⟨_, op_ge, fun c σ H Hf e x y z v w Q hK R hv hw ho q => ?_⟩
  unfold oGe at ho
  split at ho
  · cases ho
    cases hv; cases hw
    exact ⟨_, _, rfl, rfl, q _ _ _ R (Same.refl _) (.bl _)⟩
  · cases ho
theorem isNon_iff {K : PySem.W.Frag} {H : Hp} {v : V} {d : D} (h : Rep K H v d) : decide (v = .non) = D.isNon d := by
  cases h <;> rfl
theorem isNon_inv {K : PySem.W.Frag} {H : Hp} {v : V} {d : D} (h : Rep K H v d) (z : D.isNon d = true) : v = .non := by
  cases h <;> first | rfl | cases z
theorem os_isN : OpS X (compareOp .Is) oIsN := by
  refine ⟨_, op_isN, fun c σ H Hf e x y z v w Q hK R hv hw ho q => ?_⟩
  unfold oIsN at ho
  split at ho
  · rename_i hc
    cases ho
    refine ⟨isNon_inv hw hc, ?_⟩
    rw [isNon_iff hv]
    exact q _ _ _ R (Same.refl _) (.bl _)
  · cases ho
theorem os_notN : OpS X (compareOp .IsNot) oNotN := by
  refine ⟨_, op_notN, fun c σ H Hf e x y z v w Q hK R hv hw ho q => ?_⟩
  unfold oNotN at ho
  split at ho
  · rename_i hc
    cases ho
    refine ⟨isNon_inv hw hc, ?_⟩
    rw [isNon_iff hv]
    exact q _ _ _ R (Same.refl _) (.bl _)
  · cases ho
theorem os_isB : OpS X (compareOp .Is) oIsB := by
  refine ⟨_, op_isBl, fun c σ H Hf e x y z v w Q hK R hv hw ho q => ?_⟩
  unfold oIsB at ho
  split at ho
  · cases ho
    cases hv; cases hw
    exact ⟨_, _, rfl, rfl, q _ _ _ R (Same.refl _) (.bl _)⟩
  · cases ho
theorem os_notB : OpS X (compareOp .IsNot) oNotB := by
  refine ⟨_, op_notBl, fun c σ H Hf e x y z v w Q hK R hv hw ho q => ?_⟩
  unfold oNotB at ho
  split at ho
  · cases ho
    cases hv; cases hw
    exact ⟨_, _, rfl, rfl, q _ _ _ R (Same.refl _) (.bl _)⟩
  · cases ho
theorem op_inP (hu : X.A.units + 64 < cLine) : OpR X (compareOp .In) (fun x y H Q => ∃ d ds, Dp X.K H x d ∧ (Dp X.K H y (.list ds) ∨ Dp X.K H y (.tuple ds)) ∧ d.plain = true ∧ PyData.plainAll ds = true ∧ d.depth ≤ 60 ∧ Q (.bl (ds.any fun z => PyData.eqv z d)) H) := by
  intro pins s σ H x y v u Q I rx ry h
  obtain ⟨d, ds, h1, h2, p1, p2, hd, q⟩ := h
  obtain ⟨as, r1⟩ := Dp.reads I d x v h1 rx
  have hr : X.A.units + 1 + min (PyData.depthAll ds) d.depth < cLine := by have := Nat.min_le_right (PyData.depthAll ds) d.depth; omega
  rcases h2 with h2 | h2
  · obtain ⟨bs, r2⟩ := Dp.reads I _ y u h2 ry
    exact PySem.SeqAt.in_list_data r2 r1 p2 p1 hr ⟨.bl _, H, I, rfl, q⟩
  · obtain ⟨bs, r2⟩ := Dp.reads I _ y u h2 ry
    exact PySem.SeqAt.in_tuple_data r2 r1 p2 p1 hr ⟨.bl _, H, I, rfl, q⟩
theorem op_notInP (hu : X.A.units + 64 < cLine) : OpR X (compareOp .NotIn) (fun x y H Q => ∃ d ds, Dp X.K H x d ∧ (Dp X.K H y (.list ds) ∨ Dp X.K H y (.tuple ds)) ∧ d.plain = true ∧ PyData.plainAll ds = true ∧ d.depth ≤ 60 ∧ Q (.bl (!ds.any fun z => PyData.eqv z d)) H) := by
  intro pins s σ H x y v u Q I rx ry h
  obtain ⟨d, ds, h1, h2, p1, p2, hd, q⟩ := h
  obtain ⟨as, r1⟩ := Dp.reads I d x v h1 rx
  have hr : X.A.units + 1 + min (PyData.depthAll ds) d.depth < cLine := by have := Nat.min_le_right (PyData.depthAll ds) d.depth; omega
  rcases h2 with h2 | h2
  · obtain ⟨bs, r2⟩ := Dp.reads I _ y u h2 ry
    exact PySem.SeqAt.notIn_list_data r2 r1 p2 p1 hr ⟨.bl _, H, I, rfl, q⟩
  · obtain ⟨bs, r2⟩ := Dp.reads I _ y u h2 ry
    exact PySem.SeqAt.notIn_tuple_data r2 r1 p2 p1 hr ⟨.bl _, H, I, rfl, q⟩
theorem in_side {K : PySem.W.Frag} {H : Hp} {w : V} {y : D} {ds : List D} (hw : Rep K H w y) (hy : y = .lst ds ∨ y = .tup ds) (p : D.plL ds = true) : Dp K H w (.list (toPyL ds)) ∨ Dp K H w (.tuple (toPyL ds)) := by
  rcases hy with rfl | rfl
  · have := hw.dp (show D.pl (.lst ds) = true by simpa [D.pl] using p)
    simp only [toPy] at this; exact .inl this
  · have := hw.dp (show D.pl (.tup ds) = true by simpa [D.pl] using p)
    simp only [toPy] at this; exact .inr this
theorem os_in {k : Nat} (O : XO X k) : OpS X (compareOp .In) oIn := by
  refine ⟨_, op_inP O.room.units, fun c σ H Hf e x y z v w Q hK R hv hw ho q => ?_⟩
  have key : ∀ ds, (y = .lst ds ∨ y = .tup ds) → (if D.ok x && D.plL ds && decide (D.depL ds ≤ 60) then some (D.bl (ds.any fun z => D.eqv z x)) else none) = some z →
      ∃ d es, Dp X.K H v d ∧ (Dp X.K H w (.list es) ∨ Dp X.K H w (.tuple es)) ∧ d.plain = true ∧ PyData.plainAll es = true ∧ d.depth ≤ 60 ∧ Q (.bl (es.any fun z => PyData.eqv z d)) H := by
    intro ds hy ho
    split at ho
    · rename_i hc
      cases ho
      simp only [Bool.and_eq_true] at hc
      have px := D.ok_pl hc.1.1
      refine ⟨_, _, hK ▸ (hv.mono R.sf).dp px, hK ▸ in_side (hw.mono R.sf) hy hc.1.2, plain_toPy x px, plain_toPyL ds hc.1.2, Nat.le_trans (dep_toPy x px) (D.ok_dep hc.1.1), ?_⟩
      rw [any_toPyL x px ds hc.1.2]
      exact q _ _ _ R (Same.refl _) (.bl _)
    · cases ho
  unfold oIn at ho
  split at ho
  · exact key _ (.inl rfl) ho
  · exact key _ (.inr rfl) ho
  · cases ho
theorem os_notIn {k : Nat} (O : XO X k) : OpS X (compareOp .NotIn) oNotIn := by
  refine ⟨_, op_notInP O.room.units, fun c σ H Hf e x y z v w Q hK R hv hw ho q => ?_⟩
  have key : ∀ ds, (y = .lst ds ∨ y = .tup ds) → (if D.ok x && D.plL ds && decide (D.depL ds ≤ 60) then some (D.bl (!ds.any fun z => D.eqv z x)) else none) = some z →
      ∃ d es, Dp X.K H v d ∧ (Dp X.K H w (.list es) ∨ Dp X.K H w (.tuple es)) ∧ d.plain = true ∧ PyData.plainAll es = true ∧ d.depth ≤ 60 ∧ Q (.bl (!es.any fun z => PyData.eqv z d)) H := by
    intro ds hy ho
    split at ho
    · rename_i hc
      cases ho
      simp only [Bool.and_eq_true] at hc
      have px := D.ok_pl hc.1.1
      refine ⟨_, _, hK ▸ (hv.mono R.sf).dp px, hK ▸ in_side (hw.mono R.sf) hy hc.1.2, plain_toPy x px, plain_toPyL ds hc.1.2, Nat.le_trans (dep_toPy x px) (D.ok_dep hc.1.1), ?_⟩
      rw [any_toPyL x px ds hc.1.2]
      exact q _ _ _ R (Same.refl _) (.bl _)
    · cases ho
  unfold oNotIn at ho
  split at ho
  · exact key _ (.inl rfl) ho
  · exact key _ (.inr rfl) ho
  · cases ho
/-! ### subscripts, slices -/
theorem at_rep {K : PySem.W.Frag} {H : Hp} {vs : List V} {ds : List D} {i : Int} {d : D} (r : RepL K H vs ds) (h : at' ds i = some d) : ∃ v, atI vs i = some v ∧ Rep K H v d := by
  unfold at' at h
  split at h
  · cases h
  · rename_i j hj
    obtain ⟨v, h1, h2⟩ := r.get h
    refine ⟨v, ?_, h2⟩
    have e : ixN vs.length i = some j := by rw [r.length]; exact hj
    unfold atI
    rw [e]; exact h1
theorem de_ix {a b : Expr} {ma mb : M D} {pos : Pos} (ha : DE X a ma) (hb : DE X b mb) (hs : PlainIx b := by exact fun _ _ => rfl) : DE X (.Subscript a b pos) (mBin oIx ma mb) := by
  obtain ⟨ta, pa, sa⟩ := ha
  obtain ⟨tb, pb, sb⟩ := hb
  refine ⟨_, pe_ix (ix_list.or ix_tup) pa pb hs, fun c σ H Hf e d e' Q hK R hm q => ?_⟩
  unfold mBin at hm
  split at hm
  · cases hm
  rename_i x e1 h1
  split at hm
  · cases hm
  rename_i y e2 h2
  split at hm
  · cases hm
  rename_i z h3
  cases hm
  refine sa c σ H Hf e x e1 _ hK R h1 fun v H1 Hf1 R1 S1 V1 => ?_
  refine sb c σ H1 Hf1 e1 y _ _ hK R1 h2 fun w H2 Hf2 R2 S2 V2 => ?_
  have V1 := V1.mono S2
  unfold oIx at h3
  split at h3
  · cases V1 with
    | lst hs rs =>
      cases V2
      obtain ⟨v, g1, g2⟩ := at_rep rs h3
      exact .inl ⟨_, _, _, v, rfl, rfl, hK ▸ R2.seqL hs, g1, q v _ _ R2 (S1.trans S2) g2⟩
  · cases V1 with
    | tup hs rs =>
      cases V2
      obtain ⟨v, g1, g2⟩ := at_rep rs h3
      exact .inr ⟨_, _, _, v, rfl, rfl, hK ▸ R2.seqT hs, g1, q v _ _ R2 (S1.trans S2) g2⟩
  · cases h3
/-- a part of a slice -/
def DO (X : Cx) (ex : Option Expr) (m : M (Option Int)) : Prop := ∃ t, PO X ex t ∧ ∀ (c : Ct) (σ : L2.St) (H Hf : Hp) (e : DL.Env) (d : Option Int) (e' : DL.Env) (Q : Option Int → Hp → Prop), c.K = X.K → Rl c σ H Hf e → m e = some (d, e') →
  (∀ H' Hf', Rl c σ H' Hf' e' → Same Hf Hf' → Q d H') → t σ H Q
theorem do_none : DO X none mNoPart := ⟨_, po_none, fun c σ H Hf e d e' Q hK R hm q => by cases hm; exact q H Hf R (Same.refl _)⟩
theorem do_some {a : Expr} {ma : M D} (ha : DE X a ma) : DO X (some a) (mPart ma) := by
  obtain ⟨ta, pa, sa⟩ := ha
  refine ⟨_, po_some pa, fun c σ H Hf e d e' Q hK R hm q => ?_⟩
  unfold mPart at hm
  split at hm
  · rename_i i e1 h1
    cases hm
    exact sa c σ H Hf e _ _ _ hK R h1 fun v H1 Hf1 R1 S1 V1 => ⟨i, V1.int_inv, q H1 Hf1 R1 S1⟩
  · cases hm
theorem six_eq (n d : Nat) (o : Option Int) : six n d o = HT.sIx n d o := by cases o <;> rfl
theorem cut_rep {K : PySem.W.Frag} {H : Hp} {vs : List V} {ds : List D} {lo hi : Option Int} (r : RepL K H vs ds) : RepL K H (cutV vs lo hi) (cut ds lo hi) := by
  unfold cutV cut
  rw [six_eq, six_eq, r.length]
  exact (r.drop _).take _
theorem cut_whole {ds : List D} {lo hi : Option Int} (h : HT.sIx ds.length 0 lo = 0 ∧ HT.sIx ds.length ds.length hi = ds.length) : cut ds lo hi = ds := by
  unfold cut
  rw [six_eq, six_eq, h.1, h.2]
  simp
theorem de_slice {a : Expr} {lo hi : Option Expr} {ma : M D} {ml mh : M (Option Int)} {p2 pos : Pos} (ha : DE X a ma) (hl : DO X lo ml) (hh : DO X hi mh) : DE X (.Subscript a (.Slice lo hi none p2) pos) (mSlice ma ml mh) := by
  obtain ⟨ta, pa, sa⟩ := ha
  obtain ⟨tl, pl, sl⟩ := hl
  obtain ⟨th, ph, sh⟩ := hh
  refine ⟨_, pe_slice (sl_tupA.or sl_list) pa pl ph, fun c σ H Hf e d e' Q hK R hm q => ?_⟩
  unfold mSlice at hm
  split at hm
  · cases hm
  rename_i x e1 h1
  split at hm
  · cases hm
  rename_i l e2 h2
  split at hm
  · cases hm
  rename_i h e3 h3
  split at hm
  · cases hm
  rename_i z h4
  cases hm
  refine sa c σ H Hf e x e1 _ hK R h1 fun v H1 Hf1 R1 S1 V1 => ?_
  refine sl c σ H1 Hf1 e1 l e2 _ hK R1 h2 fun H2 Hf2 R2 S2 => ?_
  refine sh c σ H2 Hf2 e2 h _ _ hK R2 h3 fun H3 Hf3 R3 S3 => ?_
  have V1 := V1.mono (S2.trans S3)
  have S := S1.trans (S2.trans S3)
  unfold oPart at h4
  split at h4
  · cases h4
    cases V1 with
    | lst hs rs =>
      refine .inr ⟨_, _, rfl, hK ▸ R3.seqL hs, fun p hp => ?_⟩
      exact R3.newL hp (cut_rep rs) fun u H' Hf' R' S' V' => q u H' Hf' R' (S.trans S') V'
  · cases h4
    cases V1 with
    | tup hs rs =>
      refine .inl ⟨_, _, rfl, hK ▸ R3.seqT hs, fun hw => ?_, fun hw p hp => ?_⟩
      · rw [rs.length] at hw
        have q' := q _ _ _ R3 S (.tup hs (by show RepL c.K _ _ (cut _ _ _); rw [cut_whole hw]; exact rs))
        exact q'
      · exact R3.newT hp (cut_rep rs) fun u H' Hf' R' S' V' => q u H' Hf' R' (S.trans S') V'
  · cases h4
/-- of a list: a new list -/
theorem dn_slice {a : Expr} {lo hi : Option Expr} {ma : M D} {ml mh : M (Option Int)} {p2 pos : Pos} (ha : DE X a ma) (hl : DO X lo ml) (hh : DO X hi mh) : DN X (.Subscript a (.Slice lo hi none p2) pos) (mNew (mSlice ma ml mh)) := by
  obtain ⟨ta, pa, sa⟩ := ha
  obtain ⟨tl, pl, sl⟩ := hl
  obtain ⟨th, ph, sh⟩ := hh
  refine ⟨_, pe_slice sl_list pa pl ph, fun c σ H Hf e d e' Q hK R hm q => ?_⟩
  unfold mNew at hm
  split at hm
  · rename_i xs e4 hm2
    cases hm
    unfold mSlice at hm2
    split at hm2
    · cases hm2
    rename_i x e1 h1
    split at hm2
    · cases hm2
    rename_i l e2 h2
    split at hm2
    · cases hm2
    rename_i h e3 h3
    split at hm2
    · cases hm2
    rename_i z h4
    cases hm2
    refine sa c σ H Hf e x e1 _ hK R h1 fun v H1 Hf1 R1 S1 V1 => ?_
    refine sl c σ H1 Hf1 e1 l e2 _ hK R1 h2 fun H2 Hf2 R2 S2 => ?_
    refine sh c σ H2 Hf2 e2 h _ _ hK R2 h3 fun H3 Hf3 R3 S3 => ?_
    have V1 := V1.mono (S2.trans S3)
    unfold oPart at h4
    split at h4
    · cases h4
      cases V1 with
      | lst hs rs =>
        refine ⟨_, _, rfl, hK ▸ R3.seqL hs, fun p hp => ?_⟩
        exact q _ _ _ _ (R3.track hp) (S1.trans (S2.trans S3)) (.of R3 hp) (cut_rep rs)
    · cases h4
    · cases h4
  · cases hm
theorem dn_rev {a : Expr} {ma : M D} {k : Nat} {p1 p2 p3 pos : Pos} (ha : DE X a ma) : DN X (.Subscript a (.Slice none none (some (.UnaryOp .USub (.Constant (.int 1) k p1) p2)) p3) pos) (mRev ma) := by
  obtain ⟨ta, pa, sa⟩ := ha
  refine ⟨_, pe_revL pa, fun c σ H Hf e d e' Q hK R hm q => ?_⟩
  unfold mRev at hm
  split at hm
  · rename_i xs e1 h1
    cases hm
    refine sa c σ H Hf e _ _ _ hK R h1 fun v H1 Hf1 R1 S1 V1 => ?_
    cases V1 with
    | lst hs rs => exact ⟨_, _, rfl, hK ▸ R1.seqL hs, fun p hp => q _ _ _ _ (R1.track hp) S1 (.of R1 hp) rs.rev⟩
  · cases hm
/-! ### built-ins -/
theorem cs_len : CallS X (.builtin "len") fLen := by
  refine ⟨_, call_len_seq, fun c σ H Hf e xs ds d Q hK R hv ho q => ?_⟩
  unfold fLen at ho
  split at ho
  · cases ho
    cases hv with
    | cons h t =>
      cases t
      cases h with
      | lst hs rs =>
        refine ⟨_, _, rfl, .inl (hK ▸ R.seqL hs), ?_⟩
        rw [rs.length]; exact q _ _ _ R (Same.refl _) (.int _)
  · cases ho
    cases hv with
    | cons h t =>
      cases t
      cases h with
      | tup hs rs =>
        refine ⟨_, _, rfl, .inr (hK ▸ R.seqT hs), ?_⟩
        rw [rs.length]; exact q _ _ _ R (Same.refl _) (.int _)
  · cases ho
theorem maxI_ge : ∀ (l : List Int) (a : Int), a ≤ maxI a l ∧ ∀ y ∈ l, y ≤ maxI a l
  | [], a => ⟨Int.le_refl _, fun y h => by cases h⟩
  | x :: l, a => by
    have := maxI_ge l (max a x)
    show a ≤ maxI (max a x) l ∧ ∀ y ∈ x :: l, y ≤ maxI (max a x) l
    refine ⟨by omega, fun y h => ?_⟩
    rcases List.mem_cons.mp h with z | z
    · subst z; omega
    · exact this.2 y z
theorem maxI_mem : ∀ (l : List Int) (a : Int), maxI a l = a ∨ maxI a l ∈ l
  | [], a => .inl rfl
  | x :: l, a => by
    show maxI (max a x) l = a ∨ maxI (max a x) l ∈ x :: l
    rcases maxI_mem l (max a x) with h | h
    · rw [h]
      by_cases z : a ≤ x
      · exact .inr (by rw [Int.max_eq_right z]; simp)
      · exact .inl (by omega)
    · exact .inr (List.mem_cons_of_mem _ h)
theorem minI_le : ∀ (l : List Int) (a : Int), minI a l ≤ a ∧ ∀ y ∈ l, minI a l ≤ y
  | [], a => ⟨Int.le_refl _, fun y h => by cases h⟩
  | x :: l, a => by
    have := minI_le l (min a x)
    show minI (min a x) l ≤ a ∧ ∀ y ∈ x :: l, minI (min a x) l ≤ y
    refine ⟨by omega, fun y h => ?_⟩
    rcases List.mem_cons.mp h with z | z
    · subst z; omega
    · exact this.2 y z
theorem minI_mem : ∀ (l : List Int) (a : Int), minI a l = a ∨ minI a l ∈ l
  | [], a => .inl rfl
  | x :: l, a => by
    show minI (min a x) l = a ∨ minI (min a x) l ∈ x :: l
    rcases minI_mem l (min a x) with h | h
    · rw [h]
      by_cases z : x ≤ a
      · exact .inr (by rw [Int.min_eq_right z]; simp)
      · exact .inl (by omega)
    · exact .inr (List.mem_cons_of_mem _ h)
theorem cs_max {k : Nat} (O : XO X k) : CallS X (.builtin "max") fMax := by
  refine ⟨_, (call_max2 O.calm).or (cr_max O.calm), fun c σ H Hf e xs ds d Q hK R hv ho q => ?_⟩
  unfold fMax at ho
  split at ho
  · rename_i i j
    cases ho
    cases hv with
    | cons h t =>
      cases t with
      | cons h2 t =>
        cases t; cases h; cases h2
        refine .inl ⟨i, j, rfl, ?_⟩
        have e : (if j > i then j else i) = max i j := by
          by_cases z : j > i
          · rw [if_pos z]; omega
          · rw [if_neg z]; omega
        rw [e]; exact q _ _ _ R (Same.refl _) (.int _)
  · rename_i ys
    split at ho
    · rename_i a l hl
      cases ho
      cases hv with
      | cons h t =>
        cases t
        cases h with
        | lst hs rs =>
          have en := rs.ints hl
          subst en
          refine .inr ⟨_, a :: l, rfl, hK ▸ R.seqL hs, by simp, fun m hm hle => ?_⟩
          have e : m = maxI a l := by
            have h1 := maxI_ge l a
            have h2 := maxI_mem l a
            apply Int.le_antisymm
            · rcases List.mem_cons.mp hm with z | z
              · omega
              · exact h1.2 m z
            · refine hle _ ?_
              rcases h2 with z | z
              · rw [z]; simp
              · exact List.mem_cons_of_mem _ z
          rw [e]; exact q _ _ _ R (Same.refl _) (.int _)
    · cases ho
  · cases ho
theorem cs_min {k : Nat} (O : XO X k) : CallS X (.builtin "min") fMin := by
  refine ⟨_, (call_min2 O.calm).or (cr_min O.calm), fun c σ H Hf e xs ds d Q hK R hv ho q => ?_⟩
  unfold fMin at ho
  split at ho
  · rename_i i j
    cases ho
    cases hv with
    | cons h t =>
      cases t with
      | cons h2 t =>
        cases t; cases h; cases h2
        refine .inl ⟨i, j, rfl, ?_⟩
        have e : (if j < i then j else i) = min i j := by
          by_cases z : j < i
          · rw [if_pos z]; omega
          · rw [if_neg z]; omega
        rw [e]; exact q _ _ _ R (Same.refl _) (.int _)
  · rename_i ys
    split at ho
    · rename_i a l hl
      cases ho
      cases hv with
      | cons h t =>
        cases t
        cases h with
        | lst hs rs =>
          have en := rs.ints hl
          subst en
          refine .inr ⟨_, a :: l, rfl, hK ▸ R.seqL hs, by simp, fun m hm hle => ?_⟩
          have e : m = minI a l := by
            have h1 := minI_le l a
            have h2 := minI_mem l a
            apply Int.le_antisymm
            · refine hle _ ?_
              rcases h2 with z | z
              · rw [z]; simp
              · exact List.mem_cons_of_mem _ z
            · rcases List.mem_cons.mp hm with z | z
              · omega
              · exact h1.2 m z
          rw [e]; exact q _ _ _ R (Same.refl _) (.int _)
    · cases ho
  · cases ho
theorem cs_sum {k : Nat} (O : XO X k) : CallS X (.builtin "sum") fSum := by
  refine ⟨_, cr_sum O.calm, fun c σ H Hf e xs ds d Q hK R hv ho q => ?_⟩
  unfold fSum at ho
  split at ho
  · split at ho
    · cases ho
    · rename_i l hl
      cases ho
      cases hv with
      | cons h t =>
        cases t
        cases h with
        | lst hs rs =>
          have en := rs.ints hl
          subst en
          exact ⟨_, l, rfl, hK ▸ R.seqL hs, q _ _ _ R (Same.refl _) (.int _)⟩
  · cases ho
theorem cs_abs : CallS X (.builtin "abs") fAbs := by
  refine ⟨_, call_abs, fun c σ H Hf e xs ds d Q hK R hv ho q => ?_⟩
  unfold fAbs at ho
  split at ho
  · cases ho
    cases hv with
    | cons h t =>
      cases t; cases h
      exact ⟨_, rfl, q _ _ _ R (Same.refl _) (.int _)⟩
  · cases ho
theorem cs_all {k : Nat} (O : XO X k) : CallS X (.builtin "all") fAll := by
  refine ⟨_, cr_all O.calm, fun c σ H Hf e xs ds d Q hK R hv ho q => ?_⟩
  unfold fAll at ho
  split at ho
  · split at ho
    · cases ho
    · rename_i l hl
      cases ho
      cases hv with
      | cons h t =>
        cases t
        cases h with
        | lst hs rs =>
          have en := rs.bls hl
          subst en
          exact ⟨_, l, rfl, hK ▸ R.seqL hs, q _ _ _ R (Same.refl _) (.bl _)⟩
  · cases ho
theorem cs_any {k : Nat} (O : XO X k) : CallS X (.builtin "any") fAny := by
  refine ⟨_, cr_any O.calm, fun c σ H Hf e xs ds d Q hK R hv ho q => ?_⟩
  unfold fAny at ho
  split at ho
  · split at ho
    · cases ho
    · rename_i l hl
      cases ho
      cases hv with
      | cons h t =>
        cases t
        cases h with
        | lst hs rs =>
          have en := rs.bls hl
          subst en
          exact ⟨_, l, rfl, hK ▸ R.seqL hs, q _ _ _ R (Same.refl _) (.bl _)⟩
  · cases ho
theorem cs_tuple : CallS X (.type "tuple") fTuple := by
  refine ⟨_, call_tuple_of, fun c σ H Hf e xs ds d Q hK R hv ho q => ?_⟩
  unfold fTuple at ho
  split at ho
  · cases ho
    cases hv with
    | cons h t =>
      cases t
      cases h with
      | lst hs rs =>
        refine ⟨_, _, rfl, .inl ⟨hK ▸ R.seqL hs, fun p hp => ?_⟩⟩
        exact R.newT hp rs q
  · cases ho
    cases hv with
    | cons h t =>
      cases t
      cases h with
      | tup hs rs => exact ⟨_, _, rfl, .inr ⟨hK ▸ R.seqT hs, q _ _ _ R (Same.refl _) (.tup hs rs)⟩⟩
  · cases ho
theorem cn_list : CallN X (.type "list") fListN := by
  refine ⟨_, call_list_of, fun c σ H Hf e xs ds d Q hK R hv ho q => ?_⟩
  unfold fListN at ho
  split at ho
  · cases ho
    cases hv with
    | cons h t =>
      cases t
      cases h with
      | lst hs rs => exact ⟨_, _, rfl, .inl (hK ▸ R.seqL hs), fun p hp => q _ _ _ _ (R.track hp) (Same.refl _) (.of R hp) rs⟩
  · cases ho
    cases hv with
    | cons h t =>
      cases t
      cases h with
      | tup hs rs => exact ⟨_, _, rfl, .inr (hK ▸ R.seqT hs), fun p hp => q _ _ _ _ (R.track hp) (Same.refl _) (.of R hp) rs⟩
  · cases ho
theorem cs_int : CallS X (.type "int") fInt := by
  refine ⟨_, call_int1, fun c σ H Hf e xs ds d Q hK R hv ho q => ?_⟩
  unfold fInt at ho
  split at ho
  · cases ho
    cases hv with
    | cons h t =>
      cases t; cases h
      exact .inl ⟨_, rfl, q _ _ _ R (Same.refl _) (.int _)⟩
  · cases ho
    cases hv with
    | cons h t =>
      cases t; cases h
      exact .inr ⟨_, rfl, q _ _ _ R (Same.refl _) (.int _)⟩
  · cases ho
/-! ### isinstance -/
def Ty.nm : Ty → String
  | .bool => "bool" | .int => "int" | .str => "str" | .list => "list" | .tuple => "tuple"
def D.nm : D → String
  | .non => "NoneType" | .bl _ => "bool" | .int _ => "int" | .str _ => "str" | .lst _ => "list" | .tup _ => "tuple" | _ => "dict"
def D.noDict : D → Bool
  | .dK _ _ | .dT _ _ => false
  | _ => true
/-- the kinds of plain values -/
inductive Tg where
  | non | bl | int | str | lst | tup
def Tg.ex : Tg → D
  | .non => .non | .bl => .bl true | .int => .int 0 | .str => .str Str.empty | .lst => .lst [] | .tup => .tup []
theorem kit_of_tg (K : PySem.W.Frag) (g : Tg) (t : Ty) : PySem.W.kitOne K (.type g.ex.nm) (.type t.nm) = some (g.ex.isA t) := by
  cases g <;> cases t <;> exact kit_ty (by decide +kernel)
theorem kit_of_ty (K : PySem.W.Frag) (d : D) (h : d.noDict = true) (t : Ty) : PySem.W.kitOne K (.type d.nm) (.type t.nm) = some (d.isA t) := by
  cases d with
  | non => exact kit_of_tg K .non t
  | bl b => have := kit_of_tg K .bl t; cases t <;> exact this
  | int i => have := kit_of_tg K .int t; cases t <;> exact this
  | str x => have := kit_of_tg K .str t; cases t <;> exact this
  | lst x => have := kit_of_tg K .lst t; cases t <;> exact this
  | tup x => have := kit_of_tg K .tup t; cases t <;> exact this
  | dK _ _ => cases h
  | dT _ _ => cases h
theorem tyX_of {K : PySem.W.Frag} {H : Hp} {v : V} {d : D} (r : Rep K H v d) (h : d.noDict = true) : TyX K H v (.type d.nm) := by
  cases r with
  | non => exact .base .non
  | bl b => exact .base (.bl b)
  | int i => exact .base (.int i)
  | str x => exact .base (.str x)
  | lst hs _ =>
    rcases hs with (hs | ⟨o, hs⟩) | ⟨o, its, n, hk, hc, _⟩
    · exact .base (.lst hs)
    · exact .base (.frz hs)
    · exact .kList hk hc
  | tup hs _ =>
    rcases hs with (hs | ⟨o, hs⟩) | ⟨o, its, n, hk, hc, _⟩
    · exact .base (.tup hs)
    · exact .fTuple hs
    · exact .kTuple hk hc
  | dK _ _ _ => cases h
  | dT _ _ _ => cases h
theorem oIsi_inv {t : Ty} {x z : D} (h : oIsi t x = some z) : x.noDict = true ∧ z = .bl (x.isA t) := by
  cases x <;> cases h <;> exact ⟨rfl, rfl⟩
theorem oIsi2_inv {t u : Ty} {x z : D} (h : oIsi2 t u x = some z) : x.noDict = true ∧ z = .bl (x.isA t || x.isA u) := by
  cases x <;> cases h <;> exact ⟨rfl, rfl⟩
theorem boot_ty (t : Ty) : bootBuiltins (t.nm : String) = some (.type t.nm) := by cases t <;> decide +kernel
theorem de_isi {a : Expr} {ma : M D} {p p2 pos : Pos} {x : Str} (t : Ty) (ha : DE X a ma) (hi : X.mg "isinstance" = none) (hm : X.mg x = none) (hx : bootBuiltins x = some (.type t.nm)) (g1 : Gl X "isinstance" := by rfl) (g2 : Gl X x := by rfl) (hn : x ≠ "__name__" := by decide) (hd : (x == ("__debug__" : Str)) = false := by decide)
    (he : starEach [a, .Name x p2] X.env = (false, eval a X.env) :: starEach [.Name x p2] X.env := by rfl) (he2 : starEach [.Name x p2] X.env = (false, eval (.Name x p2) X.env) :: starEach [] X.env := by rfl) (hpl : (backTo pos (starEach [.Name x p2] X.env)).any (·.1) = false := by rfl) :
    DE X (.Call (.Name "isinstance" p) [a, .Name x p2] [] pos) (mIsi t ma) := by
  obtain ⟨ta, pa, sa⟩ := ha
  have pn : PE X (.Name x p2) (tC (.ty t.nm)) := pe_bltn g2 hm hx rfl hn hd
  refine ⟨_, pe_callB call_isi g1 hi (by decide +kernel) (pa_cons pa (pa_cons pn pa_nil he2) he) (by decide) (by decide) he hpl, fun c σ H Hf e d e' Q hK R hm q => ?_⟩
  unfold mIsi mUn at hm
  split at hm
  · cases hm
  rename_i x e1 h1
  split at hm
  · cases hm
  rename_i z h3
  cases hm
  obtain ⟨nd, rfl⟩ := oIsi_inv h3
  refine sa c σ H Hf e x _ _ hK R h1 fun v H1 Hf1 R1 S1 V1 => ?_
  exact ⟨v, .ty t.nm, _, _, _, rfl, .ty _, hK ▸ tyX_of (V1.mono R1.sf) nd, kit_of_ty X.K x nd t, q _ _ _ R1 S1 (.bl _)⟩
/-- isinstance(x, (t, u)) -/
theorem de_isi2 {a : Expr} {ma : M D} {p p2 p3 p4 pos : Pos} {x y : Str} {x1 : Nat} (t u : Ty) (ha : DE X a ma) (hi : X.mg "isinstance" = none) (hm : X.mg x = none) (hx : bootBuiltins x = some (.type t.nm)) (hm2 : X.mg y = none) (hy : bootBuiltins y = some (.type u.nm))
    (g1 : Gl X "isinstance" := by rfl) (g2 : Gl X x := by rfl) (g3 : Gl X y := by rfl) (hn : x ≠ "__name__" := by decide) (hd : (x == ("__debug__" : Str)) = false := by decide) (hn2 : y ≠ "__name__" := by decide) (hd2 : (y == ("__debug__" : Str)) = false := by decide)
    (he : starEach [a, .Tuple [.Name x p2, .Name y p3] x1 p4] X.env = (false, eval a X.env) :: starEach [.Tuple [.Name x p2, .Name y p3] x1 p4] X.env := by rfl)
    (he2 : starEach [.Tuple [.Name x p2, .Name y p3] x1 p4] X.env = (false, eval (.Tuple [.Name x p2, .Name y p3] x1 p4) X.env) :: starEach [] X.env := by rfl)
    (he3 : starEach [.Name x p2, .Name y p3] X.env = (false, eval (.Name x p2) X.env) :: starEach [.Name y p3] X.env := by rfl)
    (he4 : starEach [.Name y p3] X.env = (false, eval (.Name y p3) X.env) :: starEach [] X.env := by rfl)
    (hpl : (backTo pos (starEach [.Tuple [.Name x p2, .Name y p3] x1 p4] X.env)).any (·.1) = false := by rfl) :
    DE X (.Call (.Name "isinstance" p) [a, .Tuple [.Name x p2, .Name y p3] x1 p4] [] pos) (mIsi2 t u ma) := by
  obtain ⟨ta, pa, sa⟩ := ha
  have pn : PE X (.Name x p2) (tC (.ty t.nm)) := pe_bltn g2 hm hx rfl hn hd
  have pn2 : PE X (.Name y p3) (tC (.ty u.nm)) := pe_bltn g3 hm2 hy rfl hn2 hd2
  refine ⟨_, pe_callB call_isiT g1 hi (by decide +kernel) (pa_cons pa (pa_cons (pe_tup (pa_cons pn (pa_cons pn2 pa_nil he4) he3)) pa_nil he2) he) (by decide) (by decide) he hpl, fun c σ H Hf e d e' Q hK R hm q => ?_⟩
  unfold mIsi2 mUn at hm
  split at hm
  · cases hm
  rename_i x e1 h1
  split at hm
  · cases hm
  rename_i z h3
  cases hm
  obtain ⟨nd, rfl⟩ := oIsi2_inv h3
  refine sa c σ H Hf e x _ _ hK R h1 fun v H1 Hf1 R1 S1 V1 => ⟨by show 2 ≤ sizeLine; decide, fun a ha => ?_⟩
  have sm := same_new (none_sub R1.sf ha) (o := HO.tup [.ty t.nm, .ty u.nm])
  refine ⟨v, a, _, _, _, _, rfl, upd_same, .cons (.ty _) (.cons (.ty _) .nil), hK ▸ tyX_of ((V1.mono R1.sf).mono (same_new ha)) nd, ?_, q _ _ _ (R1.alloc ha) (S1.trans sm) (.bl _)⟩
  refine kitAny_cons (kit_of_ty X.K x nd t) (b := x.isA t) (fun z => ?_) (fun z => by rw [z]; rfl)
  rw [z]
  refine kitAny_cons (kit_of_ty X.K x nd u) (b := x.isA u) (fun z2 => ?_) (fun z2 => by rw [z2]; rfl)
  rw [z2]; exact kitAny_nil
/-! ### tuple(range(a, b)), list(range(a, b)) -/
theorem rgV_rep (K : PySem.W.Frag) (H : Hp) (a b : Int) : RepL K H (rgV a b) (rng a b) := by
  unfold rgV rng
  generalize (b - a).toNat = n
  have : ∀ l : List Nat, RepL K H (l.map fun i => V.int (a + (i : Nat))) (l.map fun i => D.int (a + (i : Nat))) := fun l => by
    induction l with
    | nil => exact .nil
    | cons x l ih => exact .cons (.int _) ih
  exact this _
theorem inR_ok {i : Int} (h : inR i = true) : -(2 ^ 62) ≤ i ∧ i < 2 ^ 62 := of_decide_eq_true h
theorem rg_ok {i j : Int} (h : (inR i && inR j && decide ((j - i).toNat ≤ cap)) = true) : RgOk i j := by
  simp only [Bool.and_eq_true] at h
  exact ⟨(inR_ok h.1.1).1, (inR_ok h.1.1).2, (inR_ok h.1.2).1, (inR_ok h.1.2).2, of_decide_eq_true h.2⟩
section
variable {a b : Expr} {ma mb : M D} {p p2 pos pos2 : Pos} {k : Nat}
theorem de_tupRg1 (O : XO X k) (ha : DE X a ma) (m1 : X.mg "tuple" = none) (m2 : X.mg "range" = none) (g1 : Gl X "tuple" := by rfl) (g2 : Gl X "range" := by rfl)
    (na : starEach [a] X.env = (false, eval a X.env) :: starEach [] X.env := by rfl)
    (nb : starEach [.Call (.Name "range" p2) [a] [] pos2] X.env = (false, eval (.Call (.Name "range" p2) [a] [] pos2) X.env) :: starEach [] X.env := by rfl) :
    DE X (.Call (.Name "tuple" p) [.Call (.Name "range" p2) [a] [] pos2] [] pos) (mTupL (mRg (mC (.int 0)) ma)) := by
  obtain ⟨ta, pa, sa⟩ := ha
  refine ⟨_, pe_tupRg O.calm g1 m1 (prg_1 g2 m2 pa na) nb, fun c σ H Hf e d e' Q hK R hm q => ?_⟩
  unfold mTupL mRg mC at hm
  simp only at hm
  split at hm
  · cases hm
  rename_i xs e1 h1
  cases hm
  split at h1
  · rename_i j e2 h2
    split at h1
    · rename_i hc
      cases h1
      refine sa c σ H Hf e _ _ _ hK R h2 fun v H1 Hf1 R1 S1 V1 => ⟨j, V1.int_inv, rg_ok hc, fun a ha => ?_⟩
      have sm := same_new (none_sub R1.sf ha) (o := HO.tup (rgV 0 j))
      exact q _ _ _ (R1.alloc ha) (S1.trans sm) (.tup (.of upd_same) (rgV_rep _ _ _ _))
    · cases h1
  · cases h1
theorem de_tupRg2 (O : XO X k) (ha : DE X a ma) (hb : DE X b mb) (m1 : X.mg "tuple" = none) (m2 : X.mg "range" = none) (g1 : Gl X "tuple" := by rfl) (g2 : Gl X "range" := by rfl)
    (na : starEach [a, b] X.env = (false, eval a X.env) :: starEach [b] X.env := by rfl) (nb : starEach [b] X.env = (false, eval b X.env) :: starEach [] X.env := by rfl) (hp : (backTo pos2 (starEach [b] X.env)).any (·.1) = false := by rfl)
    (nc : starEach [.Call (.Name "range" p2) [a, b] [] pos2] X.env = (false, eval (.Call (.Name "range" p2) [a, b] [] pos2) X.env) :: starEach [] X.env := by rfl) :
    DE X (.Call (.Name "tuple" p) [.Call (.Name "range" p2) [a, b] [] pos2] [] pos) (mTupL (mRg ma mb)) := by
  obtain ⟨ta, pa, sa⟩ := ha
  obtain ⟨tb, pb, sb⟩ := hb
  refine ⟨_, pe_tupRg O.calm g1 m1 (prg_2 g2 m2 pa pb na nb hp) nc, fun c σ H Hf e d e' Q hK R hm q => ?_⟩
  unfold mTupL mRg at hm
  split at hm
  · cases hm
  rename_i xs e1 h1
  cases hm
  split at h1
  · rename_i i e0 h0
    split at h1
    · rename_i j e2 h2
      split at h1
      · rename_i hc
        cases h1
        refine sa c σ H Hf e _ _ _ hK R h0 fun v H1 Hf1 R1 S1 V1 => ?_
        refine sb c σ H1 Hf1 _ _ _ _ hK R1 h2 fun w H2 Hf2 R2 S2 V2 => ⟨i, j, V1.int_inv, V2.int_inv, rg_ok hc, fun a ha => ?_⟩
        have sm := same_new (none_sub R2.sf ha) (o := HO.tup (rgV i j))
        exact q _ _ _ (R2.alloc ha) (S1.trans (S2.trans sm)) (.tup (.of upd_same) (rgV_rep _ _ _ _))
      · cases h1
    · cases h1
  · cases h1
theorem dn_lstRg1 (O : XO X k) (ha : DE X a ma) (m1 : X.mg "list" = none) (m2 : X.mg "range" = none) (g1 : Gl X "list" := by rfl) (g2 : Gl X "range" := by rfl)
    (na : starEach [a] X.env = (false, eval a X.env) :: starEach [] X.env := by rfl)
    (nb : starEach [.Call (.Name "range" p2) [a] [] pos2] X.env = (false, eval (.Call (.Name "range" p2) [a] [] pos2) X.env) :: starEach [] X.env := by rfl) :
    DN X (.Call (.Name "list" p) [.Call (.Name "range" p2) [a] [] pos2] [] pos) (mRg (mC (.int 0)) ma) := by
  obtain ⟨ta, pa, sa⟩ := ha
  refine ⟨_, pe_listRg O.calm g1 m1 (prg_1 g2 m2 pa na) nb, fun c σ H Hf e d e' Q hK R hm q => ?_⟩
  unfold mRg mC at hm
  simp only at hm
  split at hm
  · rename_i j e2 h2
    split at hm
    · rename_i hc
      cases hm
      refine sa c σ H Hf e _ _ _ hK R h2 fun v H1 Hf1 R1 S1 V1 => ⟨j, V1.int_inv, rg_ok hc, fun a ha => ?_⟩
      exact q _ _ _ _ (R1.track ha) S1 (.of R1 ha) (rgV_rep _ _ _ _)
    · cases hm
  · cases hm
theorem dn_lstRg2 (O : XO X k) (ha : DE X a ma) (hb : DE X b mb) (m1 : X.mg "list" = none) (m2 : X.mg "range" = none) (g1 : Gl X "list" := by rfl) (g2 : Gl X "range" := by rfl)
    (na : starEach [a, b] X.env = (false, eval a X.env) :: starEach [b] X.env := by rfl) (nb : starEach [b] X.env = (false, eval b X.env) :: starEach [] X.env := by rfl) (hp : (backTo pos2 (starEach [b] X.env)).any (·.1) = false := by rfl)
    (nc : starEach [.Call (.Name "range" p2) [a, b] [] pos2] X.env = (false, eval (.Call (.Name "range" p2) [a, b] [] pos2) X.env) :: starEach [] X.env := by rfl) :
    DN X (.Call (.Name "list" p) [.Call (.Name "range" p2) [a, b] [] pos2] [] pos) (mRg ma mb) := by
  obtain ⟨ta, pa, sa⟩ := ha
  obtain ⟨tb, pb, sb⟩ := hb
  refine ⟨_, pe_listRg O.calm g1 m1 (prg_2 g2 m2 pa pb na nb hp) nc, fun c σ H Hf e d e' Q hK R hm q => ?_⟩
  unfold mRg at hm
  split at hm
  · rename_i i e0 h0
    split at hm
    · rename_i j e2 h2
      split at hm
      · rename_i hc
        cases hm
        refine sa c σ H Hf e _ _ _ hK R h0 fun v H1 Hf1 R1 S1 V1 => ?_
        refine sb c σ H1 Hf1 _ _ _ _ hK R1 h2 fun w H2 Hf2 R2 S2 V2 => ⟨i, j, V1.int_inv, V2.int_inv, rg_ok hc, fun a ha => ?_⟩
        exact q _ _ _ _ (R2.track ha) (S1.trans S2) (.of R2 ha) (rgV_rep _ _ _ _)
      · cases hm
    · cases hm
  · cases hm
end
end DL

namespace DL
open PySem PySem.Spec PyProof.Rows L2
variable {X : Cx}
/-! ### what a def promises, and its call -/
def spD (K : PySem.W.Frag) (f : List D → Option D) : Sp := fun vs H Q _ => ∃ Hf ds d, Same Hf H ∧ RepL K Hf vs ds ∧ f ds = some d ∧
  ∀ v H' Hf', Same H H' → Same Hf Hf' → Same Hf' H' → (∀ a o, Hf' a = some o → Hf a = some o ∨ H a = none) → Rep K Hf' v d → Q v H'
def spN (K : PySem.W.Frag) (f : List D → Option (List D)) : Sp := fun vs H Q _ => ∃ Hf ds d, Same Hf H ∧ RepL K Hf vs ds ∧ f ds = some d ∧
  ∀ p ws H' Hf', Same H H' → Same Hf Hf' → Same Hf' H' → (∀ a o, Hf' a = some o → Hf a = some o ∨ H a = none) → H p = none → Hf' p = none → H' p = some (.lst ws) → RepL K Hf' ws d → Q (.ref p) H'
def spI (K : PySem.W.Frag) (f : List D → List D → Option (D × List D)) : Sp := fun vs H Q _ => ∃ p ws us Hf ss ds d ss', vs = .ref p :: ws ∧ Same Hf H ∧ Hf p = none ∧ H p = some (.lst us) ∧ RepL K Hf us ss ∧ RepL K Hf ws ds ∧ f ss ds = some (d, ss') ∧
  ∀ v H' Hf' us', (∀ b o, H b = some o → b ≠ p → H' b = some o) → Same Hf Hf' → Same Hf' H' → (∀ a o, Hf' a = some o → Hf a = some o ∨ H a = none) → H' p = some (.lst us') → RepL K Hf' us' ss' → Rep K Hf' v d → Q v H'
/-- a def that may be called by its name -/
def Cal (P : Program) (w : World) (K : PySem.W.Frag) (mg : Str → Option Value) (base : Heap) (k : Nat) (x : Str) (sp : Sp) : Prop :=
  ∃ f fd ps, mg x = some (.ref f) ∧ PySem.W.keepIn K (.ref f) = true ∧ Binds K fd ps [] ∧ FnOk P w K mg base CX0 k f fd ps sp
theorem Cal.mono {P : Program} {w : World} {K : PySem.W.Frag} {mg : Str → Option Value} {base : Heap} {j k : Nat} {x : Str} {sp : Sp} (h : Cal P w K mg base j x sp) (l : j ≤ k) : Cal P w K mg base k x sp := by
  obtain ⟨f, fd, ps, a, b, c, d⟩ := h
  exact ⟨f, fd, ps, a, b, c, d.mono l⟩
section
variable {ea : Expr} {es : List Expr} {r : M (List D)} {p pos : Pos} {x : Str} {k j : Nat}
theorem de_call {f : List D → Option D} (O : XO X k) (G : Cal X.prog X.w X.K X.mg X.base j x (spD X.K f)) (ha : DA X (ea :: es) r) (hj : j ≤ k := by decide) (hg : Gl X x := by rfl) (hdb : (x == ("__debug__" : Str)) = false := by decide)
    (he : starEach (ea :: es) X.env = (false, eval ea X.env) :: starEach es X.env := by rfl) (hpl : (backTo pos (starEach es X.env)).any (·.1) = false := by rfl) : DE X (.Call (.Name x p) (ea :: es) [] pos) (mF f r) := by
  obtain ⟨fa, fd, ps, h1, h2, h3, h4⟩ := G.mono hj
  obtain ⟨t, pa, s⟩ := ha
  refine ⟨_, pe_call h4 O.room hg h1 h2 h3 .nil pass0 pa hdb he hpl, fun c σ H Hf e d e' Q hK R hm q => ?_⟩
  unfold mF at hm
  split at hm
  · cases hm
  rename_i xs e1 g1
  split at hm
  · cases hm
  rename_i d' g2
  cases hm
  refine s c σ H Hf e _ _ _ hK R g1 fun vs H1 Hf1 R1 S1 V1 => ?_
  rw [List.append_nil]
  exact ⟨Hf1, xs, _, R1.sf, hK ▸ V1, g2, fun v H' Hf' a1 a2 a3 a4 a5 => q v H' Hf' (R1.call a1 a2 a3 a4) (S1.trans a2) (hK ▸ a5)⟩
theorem Rl.newAt {c : Ct} {σ : L2.St} {H Hf H' Hf' : Hp} {e : DL.Env} {q : Addr} {ws : List V} (R : Rl c σ H Hf e) (h1 : H q = none) (h2 : Hf' q = none) (h3 : H' q = some (.lst ws)) : NewAt c σ H' Hf' e q ws :=
  ⟨h3, h2, R.h0 h1, R.new_no h1⟩
theorem dn_call {f : List D → Option (List D)} (O : XO X k) (G : Cal X.prog X.w X.K X.mg X.base j x (spN X.K f)) (ha : DA X (ea :: es) r) (hj : j ≤ k := by decide) (hg : Gl X x := by rfl) (hdb : (x == ("__debug__" : Str)) = false := by decide)
    (he : starEach (ea :: es) X.env = (false, eval ea X.env) :: starEach es X.env := by rfl) (hpl : (backTo pos (starEach es X.env)).any (·.1) = false := by rfl) : DN X (.Call (.Name x p) (ea :: es) [] pos) (mFN f r) := by
  obtain ⟨fa, fd, ps, h1, h2, h3, h4⟩ := G.mono hj
  obtain ⟨t, pa, s⟩ := ha
  refine ⟨_, pe_call h4 O.room hg h1 h2 h3 .nil pass0 pa hdb he hpl, fun c σ H Hf e d e' Q hK R hm q => ?_⟩
  unfold mFN at hm
  split at hm
  · cases hm
  rename_i xs e1 g1
  split at hm
  · cases hm
  rename_i d' g2
  cases hm
  refine s c σ H Hf e _ _ _ hK R g1 fun vs H1 Hf1 R1 S1 V1 => ?_
  rw [List.append_nil]
  exact ⟨Hf1, xs, _, R1.sf, hK ▸ V1, g2, fun a ws H' Hf' a1 a2 a3 a4 b1 b2 b3 a5 => q a ws H' Hf' (R1.call a1 a2 a3 a4) (S1.trans a2) (R1.newAt b1 b2 b3) (hK ▸ a5)⟩
/-- a call that changes the own list of slot i, its first argument -/
theorem de_callI {f : List D → List D → Option (D × List D)} {y : Str} {py : Pos} (O : XO X k) (G : Cal X.prog X.w X.K X.mg X.base j x (spI X.K f)) (i : Nat) (ha : DA X es r) (hN : X.N[i]? = some y := by rfl) (hv : Vis X.env.scope y := by first | exact Or.inl rfl | exact Or.inr (Or.inl rfl) | exact Or.inr (Or.inr rfl))
    (hj : j ≤ k := by decide) (hg : Gl X x := by rfl) (hdb : (x == ("__debug__" : Str)) = false := by decide) (hd : (y == ("__debug__" : Str)) = false := by decide) (hcd : (y == ("__classdict__" : Str)) = false := by decide)
    (he : starEach (.Name y py :: es) X.env = (false, eval (.Name y py) X.env) :: starEach es X.env := by rfl) (hpl : (backTo pos (starEach es X.env)).any (·.1) = false := by rfl) : DE X (.Call (.Name x p) (.Name y py :: es) [] pos) (mFI f i r) := by
  obtain ⟨fa, fd, ps, h1, h2, h3, h4⟩ := G.mono hj
  obtain ⟨t, pa, s⟩ := ha
  refine ⟨_, pe_call h4 O.room hg h1 h2 h3 .nil pass0 (pa_cons (pe_var hN hv hd hcd) pa he) hdb he hpl, fun c σ H Hf e d e' Q hK R hm q => ?_⟩
  unfold mFI at hm
  split at hm
  · rename_i s0 g0
    obtain ⟨a, _, hv, _⟩ := R.ownAt g0
    split at hm
    · cases hm
    rename_i xs e1 g1
    split at hm
    · rename_i ss g2
      split at hm
      · cases hm
      rename_i d' ss' g3
      cases hm
      refine ⟨_, hv, s c σ H Hf e _ _ _ hK R g1 fun vs H1 Hf1 R1 S1 V1 => ?_⟩
      obtain ⟨a', us, z1, z2, _, z3, z4⟩ := R1.ownAt g2
      rw [hv] at z1
      cases z1
      rw [List.append_nil]
      exact ⟨a, vs, us, Hf1, ss, xs, _, ss', rfl, R1.sf, z2, z3, hK ▸ z4, hK ▸ V1, g3, fun v' H' Hf' us' a1 a2 a3 a4 b1 b2 a5 => q v' H' Hf' (R1.callI g2 hv a1 a2 a3 a4 b1 (hK ▸ b2)) (S1.trans a2) (hK ▸ a5)⟩
    · cases hm
  · cases hm
/-! ### the own list of a slot, read -/
theorem de_oix {b : Expr} {mb : M D} {y : Str} {py : Pos} (i : Nat) (hb : DE X b mb) (hs : PlainIx b := by exact fun _ _ => rfl) (hN : X.N[i]? = some y := by rfl) (hv : Vis X.env.scope y := by first | exact Or.inl rfl | exact Or.inr (Or.inl rfl) | exact Or.inr (Or.inr rfl))
    (hd : (y == ("__debug__" : Str)) = false := by decide) (hcd : (y == ("__classdict__" : Str)) = false := by decide) : DE X (.Subscript (.Name y py) b pos) (mOIx i mb) := by
  obtain ⟨tb, pb, sb⟩ := hb
  refine ⟨_, pe_ix ix_list (pe_var hN hv hd hcd) pb hs, fun c σ H Hf e d e' Q hK R hm q => ?_⟩
  unfold mOIx at hm
  split at hm
  · rename_i s0 g0
    obtain ⟨a, _, hv, _⟩ := R.ownAt g0
    split at hm
    · rename_i i' e1 g1
      split at hm
      · rename_i xs g2
        split at hm
        · cases hm
        rename_i d' g3
        cases hm
        refine ⟨_, hv, sb c σ H Hf e _ _ _ hK R g1 fun v H1 Hf1 R1 S1 V1 => ?_⟩
        obtain ⟨a', us, z1, z2, _, z3, z4⟩ := R1.ownAt g2
        rw [hv] at z1
        cases z1
        obtain ⟨u, k1, k2⟩ := at_rep z4 g3
        exact ⟨_, _, _, u, rfl, V1.int_inv, .of z3, k1, q u H1 Hf1 R1 S1 k2⟩
      · cases hm
    · cases hm
  · cases hm
theorem de_olen {y : Str} {py : Pos} (i : Nat) (hm0 : X.mg "len" = none) (hN : X.N[i]? = some y := by rfl) (hv : Vis X.env.scope y := by first | exact Or.inl rfl | exact Or.inr (Or.inl rfl) | exact Or.inr (Or.inr rfl))
    (hg : Gl X "len" := by rfl) (hd : (y == ("__debug__" : Str)) = false := by decide) (hcd : (y == ("__classdict__" : Str)) = false := by decide)
    (he : starEach [.Name y py] X.env = (false, eval (.Name y py) X.env) :: starEach [] X.env := by rfl) (hpl : (backTo pos (starEach [] X.env)).any (·.1) = false := by rfl) : DE X (.Call (.Name "len" p) [.Name y py] [] pos) (mOLen i) := by
  refine ⟨_, pe_callB call_len_seq hg hm0 PySem.boot_len (pa_cons (pe_var hN hv hd hcd) pa_nil he) (by decide) (by decide) he hpl, fun c σ H Hf e d e' Q hK R hm q => ?_⟩
  unfold mOLen at hm
  split at hm
  · rename_i s0 g0
    cases hm
    obtain ⟨a, us, hv, z2, _, z3, z4⟩ := R.ownAt g0
    refine ⟨_, hv, _, us, rfl, .inl (.of z3), ?_⟩
    rw [z4.length]; exact q _ H Hf R (Same.refl _) (.int _)
  · cases hm
theorem de_oEq {b : Expr} {mb : M D} {y : Str} {py : Pos} (O : XO X k) (i : Nat) (hb : DE X b mb) (hmk : behindInMarks .Eq b = false := by first | exact nomark _ | rfl) (hN : X.N[i]? = some y := by rfl) (hv : Vis X.env.scope y := by first | exact Or.inl rfl | exact Or.inr (Or.inl rfl) | exact Or.inr (Or.inr rfl))
    (hd : (y == ("__debug__" : Str)) = false := by decide) (hcd : (y == ("__classdict__" : Str)) = false := by decide) : DE X (.Compare (.Name y py) [.Eq] [b] pos) (mOBin oEq i mb) := by
  obtain ⟨tb, pb, sb⟩ := hb
  refine ⟨_, pe_cmpR (op_eqP O.room.units) (pe_var hN hv hd hcd) pb hmk, fun c σ H Hf e d e' Q hK R hm q => ?_⟩
  unfold mOBin at hm
  split at hm
  · rename_i s0 g0
    obtain ⟨a, _, hv, _⟩ := R.ownAt g0
    split at hm
    · cases hm
    rename_i y' e1 g1
    split at hm
    · rename_i xs g2
      split at hm
      · cases hm
      rename_i z g3
      cases hm
      refine ⟨_, hv, sb c σ H Hf e _ _ _ hK R g1 fun v H1 Hf1 R1 S1 V1 => ?_⟩
      obtain ⟨a', us, z1, z2, _, z3, z4⟩ := R1.ownAt g2
      rw [hv] at z1
      cases z1
      unfold oEq at g3
      split at g3
      · rename_i hc
        cases g3
        obtain ⟨hx, hy⟩ := Bool.and_eq_true_iff.mp hc
        have px := D.ok_pl hx
        have py := D.ok_pl hy
        refine ⟨_, _, hK ▸ (Rep.lst (.of z3) (z4.mono R1.sf)).dp px, hK ▸ (V1.mono R1.sf).dp py, plain_toPy _ px, plain_toPy _ py, Nat.le_trans (dep_toPy _ px) (D.ok_dep hx), ?_⟩
        rw [eqv_toPy _ _ px py]
        exact q _ _ _ R1 S1 (.bl _)
      · cases g3
    · cases hm
  · cases hm
theorem de_oNe {b : Expr} {mb : M D} {y : Str} {py : Pos} (O : XO X k) (i : Nat) (hb : DE X b mb) (hmk : behindInMarks .NotEq b = false := by first | exact nomark _ | rfl) (hN : X.N[i]? = some y := by rfl) (hv : Vis X.env.scope y := by first | exact Or.inl rfl | exact Or.inr (Or.inl rfl) | exact Or.inr (Or.inr rfl))
    (hd : (y == ("__debug__" : Str)) = false := by decide) (hcd : (y == ("__classdict__" : Str)) = false := by decide) : DE X (.Compare (.Name y py) [.NotEq] [b] pos) (mOBin oNe i mb) := by
  obtain ⟨tb, pb, sb⟩ := hb
  refine ⟨_, pe_cmpR (op_neP O.room.units) (pe_var hN hv hd hcd) pb hmk, fun c σ H Hf e d e' Q hK R hm q => ?_⟩
  unfold mOBin at hm
  split at hm
  · rename_i s0 g0
    obtain ⟨a, _, hv, _⟩ := R.ownAt g0
    split at hm
    · cases hm
    rename_i y' e1 g1
    split at hm
    · rename_i xs g2
      split at hm
      · cases hm
      rename_i z g3
      cases hm
      refine ⟨_, hv, sb c σ H Hf e _ _ _ hK R g1 fun v H1 Hf1 R1 S1 V1 => ?_⟩
      obtain ⟨a', us, z1, z2, _, z3, z4⟩ := R1.ownAt g2
      rw [hv] at z1
      cases z1
      unfold oNe at g3
      split at g3
      · rename_i hc
        cases g3
        obtain ⟨hx, hy⟩ := Bool.and_eq_true_iff.mp hc
        have px := D.ok_pl hx
        have py := D.ok_pl hy
        refine ⟨_, _, hK ▸ (Rep.lst (.of z3) (z4.mono R1.sf)).dp px, hK ▸ (V1.mono R1.sf).dp py, plain_toPy _ px, plain_toPy _ py, Nat.le_trans (dep_toPy _ px) (D.ok_dep hx), ?_⟩
        rw [eqv_toPy _ _ px py]
        exact q _ _ _ R1 S1 (.bl _)
      · cases g3
    · cases hm
  · cases hm
end
/-! ### canonical readings (the same whatever the context) -/
def cE (K : PySem.W.Frag) (m : M D) : TE := fun σ H Q => ∃ (c : Ct) (Hf : Hp) (e : DL.Env) (d : D) (e' : DL.Env), c.K = K ∧ Rl c σ H Hf e ∧ m e = some (d, e') ∧ ∀ v H' Hf', Rl c σ H' Hf' e' → Same Hf Hf' → Rep c.K Hf' v d → Q v H'
def cT (K : PySem.W.Frag) (m : M Bool) : TT := fun σ H Q => ∃ (c : Ct) (Hf : Hp) (e : DL.Env) (d : Bool) (e' : DL.Env), c.K = K ∧ Rl c σ H Hf e ∧ m e = some (d, e') ∧ ∀ H' Hf', Rl c σ H' Hf' e' → Same Hf Hf' → Q d H'
theorem DE.can {ex : Expr} {m : M D} (h : DE X ex m) : PE X ex (cE X.K m) := by
  obtain ⟨t, p, s⟩ := h
  exact ⟨fun pins st σ H Q I ⟨c, Hf, e, d, e', hK, R, hm, q⟩ => p.run pins st σ H Q I (s c σ H Hf e d e' Q hK R hm q)⟩
theorem DT.can {ex : Expr} {m : M Bool} (h : DT X ex m) : PT X ex (cT X.K m) := by
  obtain ⟨t, p, s⟩ := h
  exact ⟨fun pins st σ H Q I ⟨c, Hf, e, d, e', hK, R, hm, q⟩ => p.run pins st σ H Q I (s c σ H Hf e d e' Q hK R hm q)⟩
def DTs (X : Cx) (ifs : List Expr) (m : M Bool) : Prop := PTs X ifs (cT X.K m)
theorem dts_nil : DTs X [] tYes := ⟨fun pins s σ H Q I ⟨c, Hf, e, d, e', hK, R, hm, q⟩ => by
  cases hm
  exact pts_nil.run pins s σ H Q I (q H Hf R (Same.refl _))⟩
theorem dts_one {ex : Expr} {m : M Bool} (h : DT X ex m) : DTs X [ex] m := pts_one h.can
/-! ### targets -/
/-- is: the slots that it stores to -/
def gPt (K : PySem.W.Frag) (p : Pt) (is : List Nat) : TG := fun v σ H Q => ∃ (c : Ct) (Hf : Hp) (e : DL.Env) (d : D) (e' : DL.Env), c.K = K ∧ Rl c σ H Hf e ∧ (0 ∉ is ∨ c.pin = none) ∧ Rep c.K Hf v d ∧ p d e = some e' ∧
  ∀ σ', Rl c σ' H Hf e' → (∀ vs : List Nat, (∀ i ∈ is, i ∈ vs) → wipe σ' vs = wipe σ vs) → Q σ' H
def gPts (K : PySem.W.Frag) (ps : List Pt) (is : List Nat) : TGs := fun vs σ H Q => ∃ (c : Ct) (Hf : Hp) (e : DL.Env) (ds : List D) (e' : DL.Env), c.K = K ∧ Rl c σ H Hf e ∧ (0 ∉ is ∨ c.pin = none) ∧ RepL c.K Hf vs ds ∧ pTs ps ds e = some e' ∧
  ∀ σ', Rl c σ' H Hf e' → (∀ vs : List Nat, (∀ i ∈ is, i ∈ vs) → wipe σ' vs = wipe σ vs) → Q σ' H
def DPt (X : Cx) (tg : Expr) (p : Pt) (is : List Nat) : Prop := PG X tg (gPt X.K p is)
def DPts (X : Cx) (tgs : List Expr) (ps : List Pt) (is : List Nat) : Prop := PGs X tgs (gPts X.K ps is)
theorem pg_imp {tg : Expr} {t t' : TG} (h : PG X tg t) (k : ∀ v σ H Q, t' v σ H Q → t v σ H Q) : PG X tg t' := ⟨fun pins s σ H v u Q I r w => h.run pins s σ H v u Q I r (k _ _ _ _ w)⟩
theorem pgs_imp {tg : List Expr} {t t' : TGs} (h : PGs X tg t) (k : ∀ v σ H Q, t' v σ H Q → t v σ H Q) : PGs X tg t' := ⟨fun pins s σ H v u Q I r w => h.run pins s σ H v u Q I r (k _ _ _ _ w)⟩
end DL

namespace DL
open PySem PySem.Spec PyProof.Rows L2
variable {X : Cx} {k : Nat}
theorem dp_name {x : Str} {pos : Pos} (O : XO X k) (i : Nat) (hi : X.N[i]? = some x := by rfl) (hx : Loc X.env.scope x := by first | exact Or.inl rfl | exact Or.inr rfl) (hf : X.fn x = true ∨ X.env.scope.names.lookup x = some .local := by first | exact .inl rfl | exact .inr rfl) : DPt X (.Name x pos) (pN i) [i] := by
  refine pg_imp (pg_name (i := i) O.nd hi hx hf) fun v σ H Q w => ?_
  obtain ⟨c, Hf, e, d, e', hK, R, h0, hv, hp, q⟩ := w
  unfold pN at hp
  split at hp
  · rename_i hl
    cases hp
    refine q _ (R.set hl hv ?_) fun vs hvs => wipe_set _ _ _ _ (hvs i (by simp))
    rcases h0 with z | z
    · exact .inl fun y => z (by simp [y])
    · exact .inr z
  · cases hp
theorem dps_nil : DPts X [] [] [] := by
  refine pgs_imp pgs_nil fun v σ H Q w => ?_
  obtain ⟨c, Hf, e, d, e', hK, R, h0, hv, hp, q⟩ := w
  cases hv with
  | nil =>
    have z : e = e' := Option.some.inj hp
    subst z
    exact ⟨rfl, q _ R fun _ _ => rfl⟩
  | cons _ _ => exact absurd hp (by simp [pTs])
theorem pgs_cons' {e : Expr} {es : List Expr} {t : TG} {u : TGs} (h1 : PG X e t) (h2 : PGs X es u) (h : (assignEach (e :: es) X.env).map (·.2) = assign e X.env :: (assignEach es X.env).map (·.2)) : PGs X (e :: es) (gCons t u) := pgs_cons h1 h2 h
theorem dps_cons {e : Expr} {es : List Expr} {p : Pt} {ps : List Pt} {is js : List Nat} (h1 : DPt X e p is) (h2 : DPts X es ps js) (h : (assignEach (e :: es) X.env).map (·.2) = assign e X.env :: (assignEach es X.env).map (·.2) := by rfl) : DPts X (e :: es) (p :: ps) (is ++ js) := by
  refine pgs_imp (pgs_cons' h1 h2 h) fun v σ H Q w => ?_
  obtain ⟨c, Hf, e, ds, e', hK, R, h0, hv, hp, q⟩ := w
  cases hv with
  | nil => exact absurd hp (by simp [pTs])
  | cons hv ht =>
    rename_i d ds
    simp only [pTs] at hp
    split at hp
    · cases hp
    rename_i e1 h3
    refine ⟨_, _, rfl, c, Hf, e, d, e1, hK, R, ?_, hv, h3, fun σ' R' w' => ?_⟩
    · rcases h0 with z | z
      · exact .inl fun y => z (List.mem_append_left _ y)
      · exact .inr z
    refine ⟨c, Hf, e1, ds, e', hK, R', ?_, ht, hp, fun σ'' R'' w'' => q σ'' R'' fun vs hvs => (w'' vs fun i hi => hvs i (List.mem_append_right _ hi)).trans (w' vs fun i hi => hvs i (List.mem_append_left _ hi))⟩
    rcases h0 with z | z
    · exact .inl fun y => z (List.mem_append_right _ y)
    · exact .inr z
theorem dp_tup {es : List Expr} {ps : List Pt} {is : List Nat} {x1 : Nat} {pos : Pos} {n : Nat} (O : XO X k) (h : DPts X es ps is) (hl : ps.length = n := by rfl) (hn : (assignEach es X.env).length = n := by rfl) (hst : (assignEach es X.env).findIdx? (·.1) = none := by rfl) : DPt X (.Tuple es x1 pos) (pT ps) is := by
  refine pg_imp (pg_tup (n := n) O.calm h hn hst) fun v σ H Q w => ?_
  obtain ⟨c, Hf, e, d, e', hK, R, h0, hv, hp, q⟩ := w
  unfold pT at hp
  split at hp
  · rename_i ds
    cases hv with
    | tup hs rs =>
      refine ⟨_, _, rfl, hK ▸ R.seqT hs, ?_, c, Hf, e, ds, e', hK, R, h0, rs, hp, q⟩
      rw [rs.length, ← hl]
      have len : ∀ (ps : List Pt) (ds : List D) (e e' : DL.Env), pTs ps ds e = some e' → ds.length = ps.length := by
        intro ps
        induction ps with
        | nil => intro ds e e' h; cases ds with
          | nil => rfl
          | cons _ _ => cases h
        | cons p ps ih => intro ds e e' h; cases ds with
          | nil => cases h
          | cons d ds =>
            simp only [pTs] at h
            split at h
            · cases h
            · simp [ih ds _ _ h]
      exact len ps ds e e' hp
  · cases hp
/-! ### what is walked -/
def YD (K : PySem.W.Frag) (Hf : Hp) (ds : List D) : Nat → Hp → V → Hp → Prop := fun i H x H' => ∃ d, ds[i]? = some d ∧ ((H' = H ∧ Rep K Hf x d) ∨ ∃ T o, H T = none ∧ H' = upd H T o ∧ Rep K (upd Hf T o) x d)
def WkD (K : PySem.W.Frag) (Hf : Hp) (J : It) (ds : List D) : Prop := Walk J ds.length (fun H => Same Hf H) (YD K Hf ds)
def DI (X : Cx) (tg iter : Expr) (m : M (List D)) : Prop := ∃ wi, PI X tg iter wi ∧ ∀ (c : Ct) (σ : L2.St) (H Hf : Hp) (e : DL.Env) (ds : List D) (e' : DL.Env) (R : It → Hp → Prop), c.K = X.K → Rl c σ H Hf e → m e = some (ds, e') →
  (∀ J H' Hf', Rl c σ H' Hf' e' → Same Hf Hf' → WkD X.K Hf' J ds → R J H') → wi σ H R
theorem pi_or {tg iter : Expr} {w1 w2 : TI} (h1 : PI X tg iter w1) (h2 : PI X tg iter w2) : PI X tg iter (fun σ H R => w1 σ H R ∨ w2 σ H R) :=
  ⟨fun pins s σ H R I h => h.elim (h1.run pins s σ H R I) (h2.run pins s σ H R I)⟩
theorem wk_list {K : PySem.W.Frag} {Hf : Hp} {a : Addr} {xs : List V} {ds : List D} (hs : SqL K Hf a xs) (rs : RepL K Hf xs ds) : WkD K Hf (Itl K a) ds := by
  have w := walk_list (K := K) (a := a) (xs := xs)
  rw [rs.length] at w
  refine w.mono (fun H s => sqL_mono s hs) fun i H x H' hi s y => ?_
  obtain ⟨e1, e2⟩ := y
  obtain ⟨d, h1, h2⟩ := rs.getV e2
  exact ⟨d, h1, .inl ⟨e1, h2⟩⟩
theorem wk_tup {K : PySem.W.Frag} {Hf : Hp} {a : Addr} {xs : List V} {ds : List D} (hs : SqT K Hf a xs) (rs : RepL K Hf xs ds) : WkD K Hf (Itt K a) ds := by
  have w := walk_tup (K := K) (a := a) (xs := xs)
  rw [rs.length] at w
  refine w.mono (fun H s => sqT_mono s hs) fun i H x H' hi s y => ?_
  obtain ⟨e1, e2⟩ := y
  obtain ⟨d, h1, h2⟩ := rs.getV e2
  exact ⟨d, h1, .inl ⟨e1, h2⟩⟩
theorem di_seq {tg a : Expr} {ma : M D} (ha : DE X a ma) : DI X tg a (iSeq ma) := by
  obtain ⟨t, p, s⟩ := ha
  refine ⟨_, pi_or (pi_list p) (pi_tup p), fun c σ H Hf e ds e' R hK R0 hm q => ?_⟩
  unfold iSeq at hm
  split at hm
  · rename_i xs e1 h1
    cases hm
    refine .inl (s c σ H Hf e _ _ _ hK R0 h1 fun v H1 Hf1 R1 S1 V1 => ?_)
    cases V1 with
    | lst hs rs => exact ⟨_, rfl, ⟨_, hK ▸ R1.seqL hs⟩, q _ _ Hf1 R1 S1 (hK ▸ wk_list hs rs)⟩
  · rename_i xs e1 h1
    cases hm
    refine .inr (s c σ H Hf e _ _ _ hK R0 h1 fun v H1 Hf1 R1 S1 V1 => ?_)
    cases V1 with
    | tup hs rs => exact ⟨_, rfl, ⟨_, hK ▸ R1.seqT hs⟩, q _ _ Hf1 R1 S1 (hK ▸ wk_tup hs rs)⟩
  · cases hm
theorem rng_get {a b : Int} {i : Nat} (h : i < (rng a b).length) : (rng a b)[i]? = some (.int (a + (i : Nat))) := by
  unfold rng at *
  simp at h
  simp [h]
theorem rng_len (a b : Int) : (rng a b).length = (b - a).toNat := by simp [rng]
theorem wk_rng {K : PySem.W.Frag} {Hf : Hp} {a b : Int} : WkD K Hf (Itr a (b - a).toNat) (rng a b) := by
  have w := walk_range (lo := a) (n := (b - a).toNat)
  unfold WkD
  rw [rng_len]
  refine w.mono (fun H s => trivial) fun i H x H' hi s y => ?_
  obtain ⟨e1, e2⟩ := y
  subst e2
  exact ⟨_, rng_get (by rw [rng_len]; exact hi), .inl ⟨e1, .int _⟩⟩
section
variable {tg a b cc : Expr} {ma mb : M D} {p pos : Pos}
theorem di_rng1 (ha : DE X a ma) (hm0 : X.mg "range" = none) (hg : Gl X "range" := by rfl) (hs : starEach [a] X.env = [(false, eval a X.env)] := by rfl) : DI X tg (.Call (.Name "range" p) [a] [] pos) (iRng (mC (.int 0)) ma) := by
  obtain ⟨t, pa, s⟩ := ha
  refine ⟨_, pi_range1 hg hm0 (pa_cons pa pa_nil hs) hs, fun c σ H Hf e ds e' R hK R0 hm q => ?_⟩
  unfold iRng mC at hm
  simp only at hm
  split at hm
  · rename_i j e1 h1
    split at hm
    · rename_i hc
      cases hm
      refine s c σ H Hf e _ _ _ hK R0 h1 fun v H1 Hf1 R1 S1 V1 => ⟨j, by rw [V1.int_inv], (inR_ok (Bool.and_eq_true_iff.mp hc).2).1, (inR_ok (Bool.and_eq_true_iff.mp hc).2).2, ?_⟩
      have w := wk_rng (K := X.K) (Hf := Hf1) (a := 0) (b := j)
      rw [Int.sub_zero] at w
      exact q _ _ Hf1 R1 S1 w
    · cases hm
  · cases hm
theorem di_rng2 (ha : DE X a ma) (hb : DE X b mb) (hm0 : X.mg "range" = none) (hg : Gl X "range" := by rfl) (hs : starEach [a, b] X.env = [(false, eval a X.env), (false, eval b X.env)] := by rfl) (hs2 : starEach [b] X.env = [(false, eval b X.env)] := by rfl) : DI X tg (.Call (.Name "range" p) [a, b] [] pos) (iRng ma mb) := by
  obtain ⟨t, pa, s⟩ := ha
  obtain ⟨u, pb, s2⟩ := hb
  refine ⟨_, pi_range2 hg hm0 (pa_cons pa (pa_cons pb pa_nil hs2) (by rw [hs, hs2])) hs hs2, fun c σ H Hf e ds e' R hK R0 hm q => ?_⟩
  unfold iRng at hm
  split at hm
  · rename_i i e1 h1
    split at hm
    · rename_i j e2 h2
      split at hm
      · rename_i hc
        cases hm
        have hc := Bool.and_eq_true_iff.mp hc
        refine s c σ H Hf e _ _ _ hK R0 h1 fun v H1 Hf1 R1 S1 V1 => ?_
        refine s2 c σ H1 Hf1 _ _ _ _ hK R1 h2 fun w H2 Hf2 R2 S2 V2 => ⟨i, j, by rw [V1.int_inv, V2.int_inv], ⟨(inR_ok hc.1).1, (inR_ok hc.1).2, (inR_ok hc.2).1, (inR_ok hc.2).2⟩, ?_⟩
        exact q _ _ Hf2 R2 (S1.trans S2) wk_rng
      · cases hm
    · cases hm
  · cases hm
theorem rngD_len (a b : Int) : (rngD a b).length = (a - b).toNat := by simp [rngD]
theorem wk_rngD {K : PySem.W.Frag} {Hf : Hp} {a b : Int} : WkD K Hf (Itc a (-1) (a - b).toNat) (rngD a b) := by
  have w := walk_rangeC (lo := a) (c := -1) (n := (a - b).toNat)
  unfold WkD
  rw [rngD_len]
  refine w.mono (fun H s => trivial) fun i H x H' hi s y => ?_
  obtain ⟨e1, e2⟩ := y
  subst e2
  refine ⟨_, ?_, .inl ⟨e1, .int _⟩⟩
  unfold rngD
  simp [hi]
/-- range(a, b, -1) -/
theorem di_rngD {n : Nat} {p3 p4 : Pos} (ha : DE X a ma) (hb : DE X b mb) (hm0 : X.mg "range" = none) (hg : Gl X "range" := by rfl)
    (hs : starEach [a, b, .UnaryOp .USub (.Constant (.int 1) n p3) p4] X.env = (false, eval a X.env) :: starEach [b, .UnaryOp .USub (.Constant (.int 1) n p3) p4] X.env := by rfl)
    (hs2 : starEach [b, .UnaryOp .USub (.Constant (.int 1) n p3) p4] X.env = (false, eval b X.env) :: starEach [.UnaryOp .USub (.Constant (.int 1) n p3) p4] X.env := by rfl)
    (hs3 : starEach [.UnaryOp .USub (.Constant (.int 1) n p3) p4] X.env = (false, eval (.UnaryOp .USub (.Constant (.int 1) n p3) p4) X.env) :: starEach [] X.env := by rfl)
    (hpl : (backTo pos (starEach [b, .UnaryOp .USub (.Constant (.int 1) n p3) p4] X.env)).any (·.1) = false := by rfl) : DI X tg (.Call (.Name "range" p) [a, b, .UnaryOp .USub (.Constant (.int 1) n p3) p4] [] pos) (iRngD ma mb) := by
  obtain ⟨t, pa, s⟩ := ha
  obtain ⟨u, pb, s2⟩ := hb
  refine ⟨_, pi_range3 hg hm0 (pa_cons pa (pa_cons pb (pa_cons (pe_un un_neg pe_int) pa_nil hs3) hs2) hs) hs hpl, fun c σ H Hf e ds e' R hK R0 hm q => ?_⟩
  unfold iRngD at hm
  split at hm
  · rename_i i e1 h1
    split at hm
    · rename_i j e2 h2
      split at hm
      · rename_i hc
        cases hm
        have hc := Bool.and_eq_true_iff.mp hc
        refine s c σ H Hf e _ _ _ hK R0 h1 fun v H1 Hf1 R1 S1 V1 => ?_
        refine s2 c σ H1 Hf1 _ _ _ _ hK R1 h2 fun w H2 Hf2 R2 S2 V2 => ⟨1, rfl, i, j, -1, (i - j).toNat, by rw [V1.int_inv, V2.int_inv], .neg (inR_ok hc.1).1 (inR_ok hc.1).2 (inR_ok hc.2).1 (inR_ok hc.2).2, ?_⟩
        exact q _ _ Hf2 R2 (S1.trans S2) wk_rngD
      · cases hm
    · cases hm
  · cases hm
theorem zipD_len : ∀ xs ys : List D, (zipD xs ys).length = min xs.length ys.length
  | [], _ => by simp [zipD]
  | _ :: _, [] => by simp [zipD]
  | x :: xs, y :: ys => by simp only [zipD, List.length_cons, zipD_len xs ys]; omega
theorem zipD_get : ∀ {xs ys : List D} {i : Nat} {x y : D}, xs[i]? = some x → ys[i]? = some y → (zipD xs ys)[i]? = some (.tup [x, y])
  | [], _, _, _, _, h, _ => by simp at h
  | _ :: _, [], _, _, _, _, h => by simp at h
  | a :: xs, b :: ys, 0, x, y, h, h2 => by simp at h h2; subst h h2; rfl
  | a :: xs, b :: ys, i + 1, x, y, h, h2 => by
    simp only [zipD, List.getElem?_cons_succ]
    exact zipD_get (by simpa using h) (by simpa using h2)
theorem pair_rep {K : PySem.W.Frag} {Hf H : Hp} {T : Addr} {x y : V} {dx dy : D} (hn : H T = none) (s : Same Hf H) (hx : Rep K Hf x dx) (hy : Rep K Hf y dy) : Rep K (upd Hf T (.tup [x, y])) (.ref T) (.tup [dx, dy]) := by
  have sm := same_new (none_sub s hn) (o := HO.tup [x, y])
  exact .tup (.of upd_same) (.cons (hx.mono sm) (.cons (hy.mono sm) .nil))
theorem wk_zip {K : PySem.W.Frag} {Hf : Hp} {a b : Addr} {xs ys : List V} {ds es : List D} (h1 : SqL K Hf a xs) (r1 : RepL K Hf xs ds) (h2 : SqL K Hf b ys) (r2 : RepL K Hf ys es) : WkD K Hf (Itz K a b) (zipD ds es) := by
  have w := walk_zip (K := K) (a := a) (b := b) (xs := xs) (ys := ys) (n := (zipD ds es).length) (by rw [zipD_len, r1.length, r2.length])
  refine w.mono (fun H s => ⟨sqL_mono s h1, sqL_mono s h2⟩) fun i H v H' hi s y => ?_
  obtain ⟨T, x, y, rfl, hn, rfl, g1, g2⟩ := y
  obtain ⟨dx, k1, k2⟩ := r1.getV g1
  obtain ⟨dy, l1, l2⟩ := r2.getV g2
  exact ⟨_, zipD_get k1 l1, .inr ⟨T, _, hn, rfl, pair_rep hn s k2 l2⟩⟩
theorem wk_zipT {K : PySem.W.Frag} {Hf : Hp} {a b : Addr} {xs ys : List V} {ds es : List D} (h1 : SqT K Hf a xs) (r1 : RepL K Hf xs ds) (h2 : SqT K Hf b ys) (r2 : RepL K Hf ys es) : WkD K Hf (RZ.ItzT K a b) (zipD ds es) := by
  have hl : (zipD ds es).length = min xs.length ys.length := by rw [zipD_len, r1.length, r2.length]
  refine ⟨fun i H hi s => ?_, fun H s => ?_, fun i H v H' hi s y => ?_⟩
  · exact ⟨xs, ys, xs[i]'(by omega), ys[i]'(by omega), sqT_mono s h1, sqT_mono s h2, List.getElem?_eq_getElem (by omega), List.getElem?_eq_getElem (by omega)⟩
  · exact ⟨xs, ys, sqT_mono s h1, sqT_mono s h2, by omega⟩
  · obtain ⟨T, x, y, rfl, hn, rfl, g1, g2⟩ := y
    obtain ⟨dx, k1, k2⟩ := r1.getV (g1 xs (sqT_mono s h1))
    obtain ⟨dy, l1, l2⟩ := r2.getV (g2 ys (sqT_mono s h2))
    exact ⟨_, zipD_get k1 l1, .inr ⟨T, _, hn, rfl, pair_rep hn s k2 l2⟩⟩
theorem di_zip {elts : List Expr} {kk : Nat} {tpos : Pos} (ha : DE X a ma) (hb : DE X b mb) (hm0 : X.mg "zip" = none) (hg : Gl X "zip" := by rfl) (hs : starEach [a, b] X.env = (false, eval a X.env) :: starEach [b] X.env := by rfl) (hs2 : starEach [b] X.env = (false, eval b X.env) :: starEach [] X.env := by rfl)
    (hpl : (backTo pos (starEach [b] X.env)).any (·.1) = false := by rfl) : DI X (.Tuple elts kk tpos) (.Call (.Name "zip" p) [a, b] [] pos) (iZip ma mb) := by
  obtain ⟨t, pa, s⟩ := ha
  obtain ⟨u, pb, s2⟩ := hb
  refine ⟨_, RZ.pi_zipA hg hm0 (pa_cons pa (pa_cons pb pa_nil hs2) hs) hs hpl, fun c σ H Hf e ds e' R hK R0 hm q => ?_⟩
  unfold iZip at hm
  split at hm
  · rename_i xs e1 h1
    split at hm
    · rename_i ys e2 h2
      cases hm
      refine s c σ H Hf e _ _ _ hK R0 h1 fun v H1 Hf1 R1 S1 V1 => ?_
      refine s2 c σ H1 Hf1 _ _ _ _ hK R1 h2 fun w H2 Hf2 R2 S2 V2 => ?_
      have V1 := V1.mono S2
      cases V1 with
      | lst g1 r1 =>
        cases V2 with
        | lst g2 r2 => exact ⟨_, _, _, _, rfl, .inl ⟨hK ▸ R2.seqL g1, hK ▸ R2.seqL g2, q _ _ Hf2 R2 (S1.trans S2) (hK ▸ wk_zip g1 r1 g2 r2)⟩⟩
    · cases hm
  · rename_i xs e1 h1
    split at hm
    · rename_i ys e2 h2
      cases hm
      refine s c σ H Hf e _ _ _ hK R0 h1 fun v H1 Hf1 R1 S1 V1 => ?_
      refine s2 c σ H1 Hf1 _ _ _ _ hK R1 h2 fun w H2 Hf2 R2 S2 V2 => ?_
      have V1 := V1.mono S2
      cases V1 with
      | tup g1 r1 =>
        cases V2 with
        | tup g2 r2 => exact ⟨_, _, _, _, rfl, .inr ⟨hK ▸ R2.seqT g1, hK ▸ R2.seqT g2, q _ _ Hf2 R2 (S1.trans S2) (hK ▸ wk_zipT g1 r1 g2 r2)⟩⟩
    · cases hm
  · cases hm
/-! ### enumerate of a tuple: the library's rules for an enumerate over anything that is drawn -/
end
end DL

namespace DL
open PySem PySem.Spec PyProof.Rows L2
variable {X : Cx} {k : Nat}
theorem upd_upd_same {H : Hp} {q : Addr} {o : HO} (h : H q = some o) : upd H q o = H := by
  funext b
  by_cases z : b = q
  · subst z; rw [upd_same, h]
  · rw [upd_ne z]
theorem same_upd {H H' : Hp} (s : Same H H') (T : Addr) (o : HO) : Same (upd H T o) (upd H' T o) := fun b x q => by
  by_cases z : b = T
  · subst z; rw [upd_same] at q ⊢; exact q
  · rw [upd_ne z] at q ⊢; exact s b x q
/-- an item has come -/
theorem Rl.item {c : Ct} {σ : L2.St} {H Hf Hf1 H' : Hp} {e : DL.Env} {ds : List D} {i : Nat} {x : V} (R : Rl c σ H Hf e) (s : Same Hf1 Hf) (y : YD c.K Hf1 ds i H x H') :
    ∃ Hf' d, Rl c σ H' Hf' e ∧ Same Hf Hf' ∧ Rep c.K Hf' x d ∧ ds[i]? = some d ∧ (∀ b o, H b = some o → H' b = some o) ∧ ∀ b o, H b = some o → Hf b = none → Hf' b = none := by
  obtain ⟨d, h1, ⟨rfl, h2⟩ | ⟨T, o, hn, rfl, h2⟩⟩ := y
  · exact ⟨Hf, d, R, Same.refl _, h2.mono s, h1, fun _ _ q => q, fun _ _ _ q => q⟩
  · exact ⟨upd Hf T o, d, R.alloc hn, same_new (none_sub R.sf hn), h2.mono (same_upd s T o), h1, same_new hn, fun b o q q2 => by rw [upd_ne (ne_of_none q hn)]; exact q2⟩
/-! ### comprehensions -/
theorem drop_cons {ds : List D} {i : Nat} {d : D} (h : ds[i]? = some d) : ds.drop i = d :: ds.drop (i + 1) := by
  have hi : i < ds.length := (List.getElem?_eq_some_iff.mp h).1
  rw [List.drop_eq_getElem_cons hi]
  have := (List.getElem?_eq_some_iff.mp h).2
  rw [this]
/-- the state between two turns of a comprehension -/
structure LcAt (c : Ct) (σw : L2.St) (Hf1 : Hp) (vs : List Nat) (q0 : Addr) (p : Pt) (t : M Bool) (elt : M D) (ds res : List D) (e2 : DL.Env) (i : Nat) (H : Hp) (Hf : Hp) (e : DL.Env) (acc : List D) (us : List V) : Prop where
  r : Rl c σw H Hf (wipeE e vs)
  s : Same Hf1 Hf
  h : H q0 = some (.lst us)
  f : Hf q0 = none
  z : c.H0 q0 = none
  n : ∀ (j : Nat) (ys : List D), (wipeE e vs)[j]? = some (.ow ys) → σw[j]? = some (some (.ref q0)) → False
  l : RepL c.K Hf us acc
  g : compL vs p t elt (ds.drop i) e acc = some (res, e2)
/-- one turn: the target, the test, the element -/
theorem lc_turn {tt : TT} {te : TE} {K : PySem.W.Frag} {c : Ct} {σ : L2.St} {Hf1 : Hp} {vs is : List Nat} {q0 : Addr} {p : Pt} {t : M Bool} {elt : M D} {ds res : List D} {e2 : DL.Env} {i : Nat} {x : V} {H H' Hf : Hp} {e : DL.Env} {acc : List D} {us : List V}
    (hK : c.K = K) (h0 : 0 ∉ vs) (his : ∀ i ∈ is, i ∈ vs) (A : LcAt c (wipe σ vs) Hf1 vs q0 p t elt ds res e2 i H Hf e acc us) (hy : YD K Hf1 ds i H x H')
    (ht : ∀ σ H Q, cT K t σ H Q → tt σ H Q) (he : ∀ σ H Q, cE K elt σ H Q → te σ H Q) :
    gPt K p is x (wipe σ vs) H' fun σ2 H2 => wipe σ2 vs = wipe σ vs ∧ tt σ2 H2 fun b H3 =>
      if b = true then te σ2 H3 fun y H4 => ∃ acc, H4 q0 = some (.lst acc) ∧ acc.length < sizeLine ∧ ∃ Hf e acc' us, LcAt c (wipe σ vs) Hf1 vs q0 p t elt ds res e2 (i + 1) (upd H4 q0 (.lst (acc ++ [y]))) Hf e acc' us
      else ∃ Hf e acc' us, LcAt c (wipe σ vs) Hf1 vs q0 p t elt ds res e2 (i + 1) H3 Hf e acc' us := by
  subst hK
  obtain ⟨Hf', d, R1, S1, V1, hd, k1, k2⟩ := A.r.item A.s hy
  have g := A.g
  rw [drop_cons hd] at g
  unfold compL at g
  have hq : H' q0 = some (.lst us) := k1 _ _ A.h
  have hfq : Hf' q0 = none := k2 _ _ A.h A.f
  -- from any state of the block back to the state around it
  have back : ∀ (σ2 : L2.St) (H3 Hf3 : Hp) (e3 : DL.Env), wipe σ2 vs = wipe σ vs → Rl (c.blk (wipe σ vs) H' Hf' (wipeE e vs)) σ2 H3 Hf3 e3 → Rl c (wipe σ vs) H3 Hf3 (wipeE e3 vs) ∧ H3 q0 = some (.lst us) ∧ Hf3 q0 = none ∧
      ∀ (j : Nat) (ys : List D), (wipeE e3 vs)[j]? = some (.ow ys) → (wipe σ vs)[j]? = some (some (.ref q0)) → False := fun σ2 H3 Hf3 e3 w R3 => by
    have no : ¬ (c.blk (wipe σ vs) H' Hf' (wipeE e vs)).own q0 := fun ⟨j, xs, q1, q2⟩ => A.n j xs q1 q2
    have R4 := R3.wipe h0
    rw [w] at R4
    refine ⟨R1.leave R4, R3.fr _ _ hq no, ?_, fun j ys q1 q2 => ?_⟩
    · cases z : Hf3 q0 with
      | none => rfl
      | some o =>
        rcases R3.nw _ _ z with y | y
        · rw [show (c.blk (wipe σ vs) H' Hf' (wipeE e vs)).Hf0 q0 = Hf' q0 from rfl, hfq] at y; cases y
        · rw [show (c.blk (wipe σ vs) H' Hf' (wipeE e vs)).H0 q0 = H' q0 from rfl, hq] at y; cases y
    · obtain ⟨a, us', f1, _, f3, _, _⟩ := R4.ownAt q1
      rw [q2] at f1
      cases f1
      rcases f3 with f3 | f3
      · exact no f3
      · rw [show (c.blk (wipe σ vs) H' Hf' (wipeE e vs)).H0 q0 = H' q0 from rfl, hq] at f3; cases f3
  split at g
  · cases g
  rename_i e1 h1
  refine ⟨c.blk (wipe σ vs) H' Hf' (wipeE e vs), Hf', wipeE e vs, d, e1, rfl, R1.enter, .inl fun y => h0 (his 0 y), V1, h1, fun σ2 R2 w2 => ?_⟩
  have w2 := (w2 vs his).trans (wipe_wipe σ vs)
  refine ⟨w2, ?_⟩
  split at g
  · cases g
  · rename_i e3 h2
    refine ht _ _ _ ⟨c.blk (wipe σ vs) H' Hf' (wipeE e vs), Hf', e1, false, e3, rfl, R2, h2, fun H3 Hf3 R3 S3 => ?_⟩
    dsimp only
    rw [if_neg Bool.false_ne_true]
    obtain ⟨b1, b2, b3, b4⟩ := back σ2 H3 Hf3 e3 w2 R3
    exact ⟨Hf3, e3, acc, us, b1, A.s.trans (S1.trans S3), b2, b3, A.z, b4, (A.l.mono S1).mono S3, g⟩
  · rename_i e3 h2
    refine ht _ _ _ ⟨c.blk (wipe σ vs) H' Hf' (wipeE e vs), Hf', e1, true, e3, rfl, R2, h2, fun H3 Hf3 R3 S3 => ?_⟩
    dsimp only
    rw [if_pos rfl]
    split at g
    · cases g
    rename_i y e4 h3
    refine he _ _ _ ⟨c.blk (wipe σ vs) H' Hf' (wipeE e vs), Hf3, e3, y, e4, rfl, R3, h3, fun v H4 Hf4 R4 S4 V4 => ?_⟩
    split at g
    · rename_i hc
      obtain ⟨b1, b2, b3, b4⟩ := back σ2 H4 Hf4 e4 w2 R4
      have l4 := ((A.l.mono S1).mono S3).mono S4
      refine ⟨us, b2, by rw [l4.length]; exact hc, Hf4, e4, _, us ++ [v], b1.bump A.z b3 b4, A.s.trans (S1.trans (S3.trans S4)), upd_same, b3, A.z, b4, l4.app (.cons V4 .nil), g⟩
    · cases g
variable {tg iter elt : Expr} {ifs : List Expr} {scope : Scope} {own : List (Str × Nat)} {mi : M (List D)} {p : Pt} {is : List Nat} {mt : M Bool} {me : M D} {pos spos : Pos}
theorem lc_sound {wi : TI} (O : XO X k) (si : ∀ (c : Ct) (σ : L2.St) (H Hf : Hp) (e : DL.Env) (ds : List D) (e' : DL.Env) (R : It → Hp → Prop), c.K = X.K → Rl c σ H Hf e → mi e = some (ds, e') → (∀ J H' Hf', Rl c σ H' Hf' e' → Same Hf Hf' → WkD X.K Hf' J ds → R J H') → wi σ H R)
    (vs : List Nat) (h0 : 0 ∉ vs) (his : ∀ i ∈ is, i ∈ vs) (c : Ct) (σ : L2.St) (H Hf : Hp) (e : DL.Env) (xs : List D) (e' : DL.Env) (Q : VK) (hK : c.K = X.K) (R : Rl c σ H Hf e) (hm : mComp vs mi p mt me e = some (xs, e'))
    (q : ∀ a us H' Hf', Rl c σ H' Hf' e' → Same Hf Hf' → NewAt c σ H' Hf' e' a us → RepL c.K Hf' us xs → Q (.ref a) H') : tLc wi (gPt X.K p is) (cT X.K mt) (cE X.K me) vs σ H Q := by
  unfold mComp at hm
  split at hm
  · cases hm
  rename_i ds e1 h1
  split at hm
  · cases hm
  rename_i acc e2 h2
  cases hm
  refine si c σ H Hf e ds e1 _ hK R h1 fun J H1 Hf1 R1 S1 W => fun q0 hq0 => ?_
  have z := R1.h0 hq0
  have f1 := none_sub R1.sf hq0
  refine lc_it W (Pv := fun i H' => ∃ Hf' e' acc us, LcAt c (wipe σ vs) Hf1 vs q0 p mt me ds xs e2 i H' Hf' e' acc us) ?_ (fun i H' _ ⟨Hf', e', acc, us, A⟩ => A.s.trans A.r.sf) (fun i x H' H'' hi ⟨Hf', e', acc, us, A⟩ y => ?_) (fun H' ⟨Hf', e', acc, us, A⟩ => ?_)
  · refine ⟨Hf1, wipeE e1 vs, [], [], ?_, Same.refl _, upd_same, f1, z, fun j ys q1 q2 => ?_, .nil, by rw [List.drop_zero]; exact h2⟩
    · rw [wipeE_wipeE]; exact (R1.track hq0).wipe h0
    · rw [wipeE_wipeE] at q1
      obtain ⟨q2, n⟩ := wipe_in q2
      rw [wipeE_out n] at q1
      exact R1.new_no hq0 j ys q1 q2
  · exact lc_turn hK h0 his A y (fun _ _ _ h => h) (fun _ _ _ h => h)
  · have g := A.g
    rw [List.drop_length] at g
    have g' : some (acc, e') = some (xs, e2) := g
    cases g'
    have R2 := R1.unwipe h0 A.s A.r
    refine q q0 us H' Hf' R2 (S1.trans A.s) ⟨A.h, A.f, z, fun j ys q1 q2 => ?_⟩ A.l
    by_cases n : j ∈ vs
    · rcases backE_in n q1 with y | ⟨d, y, _⟩ <;> cases y
    · rw [backE_out n] at q1
      exact A.n j ys (by rw [wipeE_out n]; exact q1) (by rw [wipe_out n]; exact q2)
/-- [elt for tg in iter if ..] -/
theorem dn_comp (O : XO X k) (hi : DI X tg iter mi) (ok : BlkOk X.N X.env.scope scope own)
    (hg : ∀ (s : Shared) (H : Hp) (C : Addr) (cl : List (Str × Addr)) (fp : List Addr), XO (X.blk s H scope (compEnvC scope cl C X.env) fp) k → DPt (X.blk s H scope (compEnvC scope cl C X.env) fp) tg p is)
    (ht : ∀ (s : Shared) (H : Hp) (C : Addr) (cl : List (Str × Addr)) (fp : List Addr), XO (X.blk s H scope (compEnvC scope cl C X.env) fp) k → DTs (X.blk s H scope (compEnvC scope cl C X.env) fp) ifs mt)
    (he : ∀ (s : Shared) (H : Hp) (C : Addr) (cl : List (Str × Addr)) (fp : List Addr), XO (X.blk s H scope (compEnvC scope cl C X.env) fp) k → DE (X.blk s H scope (compEnvC scope cl C X.env) fp) elt me)
    (h0 : 0 ∉ own.map (·.2) := by decide) (his : ∀ i ∈ is, i ∈ own.map (·.2) := by decide) (hs : ∀ x, foldedSetIterable iter X.env x = pure x := by intro _; rfl) : DN X (.ListComp elt [⟨tg, iter, ifs, 0⟩] scope pos) (mComp (own.map (·.2)) mi p mt me) := by
  obtain ⟨wi, pI, si⟩ := hi
  have bo : ∀ (s : Shared) (H : Hp) (C : Addr) (cl : List (Str × Addr)) (fp : List Addr), XO (X.blk s H scope (compEnvC scope cl C X.env) fp) k := fun s H C cl fp => ⟨O.calm, O.nd, O.room, PassesOwn.never⟩
  exact ⟨_, pe_lc (g := gPt X.K p is) (tt := cT X.K mt) (te := cE X.K me) O.calm O.nd pI ok (fun s H C cl fp => hg s H C cl fp (bo s H C cl fp)) (fun s H C cl fp => ht s H C cl fp (bo s H C cl fp)) (fun s H C cl fp => (he s H C cl fp (bo s H C cl fp)).can) hs, fun c σ H Hf e xs e' Q hK R hm q => lc_sound O si _ h0 his c σ H Hf e xs e' Q hK R hm q⟩
/-! ### statements -/
/-- what is wanted behind a statement -/
def RvR (c : Ct) (H Hf : Hp) (v : V) : Rv → Prop
  | .im d => Rep c.K Hf v d
  | .ow xs => ∃ p us, v = .ref p ∧ Hf p = none ∧ c.H0 p = none ∧ H p = some (.lst us) ∧ RepL c.K Hf us xs
def SPost (c : Ct) (Hf : Hp) (e' : DL.Env) (Dn : Ends) : Fl → Prop
  | .nx => ∀ σ' H' Hf', Rl c σ' H' Hf' e' → Same Hf Hf' → Dn.nx σ' H'
  | .bk => ∀ σ' H' Hf', Rl c σ' H' Hf' e' → Same Hf Hf' → Dn.bk σ' H'
  | .ct => ∀ σ' H' Hf', Rl c σ' H' Hf' e' → Same Hf Hf' → Dn.ct σ' H'
  | .ret r => ∀ v σ' H' Hf', Rl c σ' H' Hf' e' → Same Hf Hf' → RvR c H' Hf' v r → Dn.rt v H'
/-- a def's context; b: slot 0 is the caller's list -/
structure Fc (b : Bool) (X : Cx) (c : Ct) : Prop where
  k : c.K = X.K
  o : c.own = fun a => c.pin = some a
  p : b = false → c.pin = none
def SSnd (b : Bool) (X : Cx) (t : TS) (m : Ms) : Prop := ∀ (c : Ct) (σ : L2.St) (H Hf : Hp) (e : DL.Env) (f : Fl) (e' : DL.Env) (Dn : Ends), Fc b X c → Rl c σ H Hf e → m e = some (f, e') → SPost c Hf e' Dn f → t Dn σ H
def DSt (b : Bool) (X : Cx) (st : Stmt) (m : Ms) : Prop := ∃ t, PS X st t ∧ SSnd b X t m
def DSs (b : Bool) (X : Cx) (st : List Stmt) (m : Ms) : Prop := ∃ t, PSs X st t ∧ SSnd b X t m
variable {b : Bool} {st : Stmt} {rest body : List Stmt} {m m2 : Ms}
theorem SPost.mono {c : Ct} {Hf Hf1 : Hp} {e' : DL.Env} {Dn : Ends} : ∀ {f : Fl}, SPost c Hf e' Dn f → Same Hf Hf1 → SPost c Hf1 e' Dn f
  | .nx, h, s => fun σ' H' Hf' R S => h σ' H' Hf' R (s.trans S)
  | .bk, h, s => fun σ' H' Hf' R S => h σ' H' Hf' R (s.trans S)
  | .ct, h, s => fun σ' H' Hf' R S => h σ' H' Hf' R (s.trans S)
  | .ret r, h, s => fun v σ' H' Hf' R S => h v σ' H' Hf' R (s.trans S)
theorem dss_nil : DSs b X [] sPass := ⟨_, pss_nil, fun c σ H Hf e f e' Dn F R hm q => by cases hm; exact q σ H Hf R (Same.refl _)⟩
theorem dss_one (h : DSt b X st m) : DSs b X [st] m := by
  obtain ⟨t, p, s⟩ := h
  exact ⟨t, pss_one p, s⟩
theorem dss_cons (h : DSt b X st m) (h2 : DSs b X rest m2) : DSs b X (st :: rest) (sSeq m m2) := by
  obtain ⟨t, p, s⟩ := h
  obtain ⟨t2, p2, s2⟩ := h2
  refine ⟨_, pss_cons p p2, fun c σ H Hf e f e' Dn F R hm q => ?_⟩
  unfold sSeq at hm
  split at hm
  · cases hm
  · rename_i e1 h1
    exact s c σ H Hf e .nx e1 _ F R h1 fun σ' H' Hf' R' S' => s2 c σ' H' Hf' e1 f e' Dn F R' hm (q.mono S')
  · rename_i f1 e1 hn h1
    cases hm
    refine s c σ H Hf e _ _ _ F R h1 ?_
    cases f with
    | nx => exact (hn rfl).elim
    | bk => exact q
    | ct => exact q
    | ret r => exact q
theorem ds_pass : DSt b X (.Pass pos) sPass := ⟨_, ps_pass, fun c σ H Hf e f e' Dn F R hm q => by cases hm; exact q σ H Hf R (Same.refl _)⟩
theorem ds_break : DSt b X (.Break pos) sBreak := ⟨_, ps_break, fun c σ H Hf e f e' Dn F R hm q => by cases hm; exact q σ H Hf R (Same.refl _)⟩
theorem ds_continue : DSt b X (.Continue pos) sCont := ⟨_, ps_continue, fun c σ H Hf e f e' Dn F R hm q => by cases hm; exact q σ H Hf R (Same.refl _)⟩
/-- a statement that is never reached (a raise of a way that cannot be) -/
theorem ds_never : DSt b X st sNever := ⟨_, ps_never, fun c σ H Hf e f e' Dn F R hm q => by cases hm⟩
section
variable {ex a ec : Expr} {ma : M D} {mn : M (List D)} {tA : M Bool}
theorem ds_ret (h : DE X ex ma) : DSt b X (.Return (some ex) pos) (sRet ma) := by
  obtain ⟨t, p, s⟩ := h
  refine ⟨_, ps_ret p, fun c σ H Hf e f e' Dn F R hm q => ?_⟩
  unfold sRet at hm
  split at hm
  · cases hm
  rename_i d e1 h1
  cases hm
  exact s c σ H Hf e _ _ _ F.k R h1 fun v H' Hf' R' S' V' => q v σ H' Hf' R' S' V'
theorem ds_retN (h : DN X ex mn) : DSt b X (.Return (some ex) pos) (sRetN mn) := by
  obtain ⟨t, p, s⟩ := h
  refine ⟨_, ps_ret p, fun c σ H Hf e f e' Dn F R hm q => ?_⟩
  unfold sRetN at hm
  split at hm
  · cases hm
  rename_i d e1 h1
  cases hm
  exact s c σ H Hf e _ _ _ F.k R h1 fun a us H' Hf' R' S' N' V' => q _ σ H' Hf' R' S' ⟨a, us, rfl, N'.f, N'.z, N'.h, V'⟩
/-- return own: the list of slot i, which is not the caller's -/
theorem ds_retO {y : Str} {py : Pos} (i : Nat) (hN : X.N[i]? = some y := by rfl) (hb : (b && i == 0) = false := by rfl) (hv : Vis X.env.scope y := by first | exact Or.inl rfl | exact Or.inr (Or.inl rfl) | exact Or.inr (Or.inr rfl))
    (hd : (y == ("__debug__" : Str)) = false := by decide) (hcd : (y == ("__classdict__" : Str)) = false := by decide) : DSt b X (.Return (some (.Name y py)) pos) (sRetO i) := by
  refine ⟨_, ps_ret (pe_var hN hv hd hcd), fun c σ H Hf e f e' Dn F R hm q => ?_⟩
  unfold sRetO at hm
  split at hm
  · rename_i xs h1
    cases hm
    obtain ⟨p, us, z1, z2, z3, z4, z5⟩ := R.ownAt h1
    refine ⟨_, z1, q _ σ H Hf R (Same.refl _) ⟨p, us, rfl, z2, ?_, z4, z5⟩⟩
    rcases z3 with z | z
    · rw [F.o] at z
      obtain ⟨k1, ys, k2⟩ := R.p0 p z
      by_cases n : i = 0
      · subst n
        cases b with
        | false => rw [F.p rfl] at z; cases z
        | true => cases hb
      · exact (R.ap 0 i p ys xs (Ne.symm n) k2 h1 k1 z1).elim
    · exact z
  · cases hm
theorem ds_expr (h : DE X ex ma) (hs : swapsWith ex none pos.line X.env = pure false := by rfl) : DSt b X (.Expr ex pos) (sExpr ma) := by
  obtain ⟨t, p, s⟩ := h
  refine ⟨_, ps_expr p hs, fun c σ H Hf e f e' Dn F R hm q => ?_⟩
  unfold sExpr at hm
  split at hm
  · cases hm
  rename_i d e1 h1
  cases hm
  exact s c σ H Hf e _ _ _ F.k R h1 fun v H' Hf' R' S' V' => q σ H' Hf' R' S'
theorem pin_ok {c : Ct} {is : List Nat} (F : Fc b X c) (hb : (b && is.contains 0) = false) : 0 ∉ is ∨ c.pin = none := by
  cases b with
  | false => exact .inr (F.p rfl)
  | true =>
    left
    intro h
    have : is.contains 0 = true := by simpa using h
    rw [this] at hb
    cases hb
/-- tg = e -/
theorem ds_asg (h : DE X ex ma) (hg : DPt X tg p is) (hb : (b && is.contains 0) = false := by rfl) (hs : swapsWithSole [tg] ex pos.line X.env = pure false := by rfl) (hw : swappedStores [tg] ex X.env = pure none := by rfl) (h1 : (assignEach [tg] X.env).map (·.2) = [assign tg X.env] := by rfl) : DSt b X (.Assign [tg] ex pos) (sSet p ma) := by
  obtain ⟨t, pp, s⟩ := h
  refine ⟨_, ps_asg pp hg hs hw h1, fun c σ H Hf e f e' Dn F R hm q => ?_⟩
  unfold sSet at hm
  split at hm
  · cases hm
  rename_i d e1 h1
  split at hm
  · cases hm
  rename_i e2 h2
  cases hm
  refine s c σ H Hf e _ _ _ F.k R h1 fun v H' Hf' R' S' V' => ?_
  exact ⟨c, Hf', e1, d, _, F.k, R', pin_ok F hb, V', h2, fun σ' R'' _ => q σ' H' Hf' R'' S'⟩
/-- x = e by the rule for one name -/
theorem ds_set {x : Str} {pos' : Pos} (O : XO X k) (i : Nat) (h : DE X ex ma) (hi : X.N[i]? = some x := by rfl) (hb : (b && i == 0) = false := by rfl) (hx : Loc X.env.scope x := by first | exact Or.inl rfl | exact Or.inr rfl) (hs : swapsWith ex (some (.Name x pos')) pos.line X.env = pure false := by rfl)
    (hf : X.fn x = true ∨ X.env.scope.names.lookup x = some .local := by first | exact .inl rfl | exact .inr rfl) : DSt b X (.Assign [.Name x pos'] ex pos) (sSet (pN i) ma) := by
  obtain ⟨t, pp, s⟩ := h
  refine ⟨_, ps_set (i := i) O.nd hi hx pp hs hf, fun c σ H Hf e f e' Dn F R hm q => ?_⟩
  unfold sSet at hm
  split at hm
  · cases hm
  rename_i d e1 h1
  unfold pN at hm
  split at hm
  · cases hm
  rename_i e2 h2
  cases hm
  split at h2
  · rename_i hl
    cases h2
    refine s c σ H Hf e _ _ _ F.k R h1 fun v H' Hf' R' S' V' => q _ H' Hf' (R'.set hl V' ?_) S'
    by_cases n : i = 0
    · subst n
      cases b with
      | false => exact .inr (F.p rfl)
      | true => cases hb
    · exact .inl n
  · cases h2
theorem setN_core {c : Ct} {σ : L2.St} {H' Hf' : Hp} {e1 : DL.Env} {i : Nat} {a : Addr} {us : List V} {xs : List D} (F : Fc b X c) (hb : (b && i == 0) = false) (hl : i < e1.length) (R' : Rl c σ H' Hf' e1) (N' : NewAt c σ H' Hf' e1 a us) (V' : RepL c.K Hf' us xs) : Rl c (σ.set i (some (.ref a))) H' Hf' (e1.set i (.ow xs)) := by
  refine R'.setN hl N'.h N'.f N'.z V' ?_ N'.n
  by_cases n : i = 0
  · subst n
    cases b with
    | false => exact .inr (F.p rfl)
    | true => cases hb
  · exact .inl n
/-- x = a new list -/
theorem ds_new {x : Str} {pos' : Pos} (O : XO X k) (i : Nat) (h : DN X ex mn) (hi : X.N[i]? = some x := by rfl) (hb : (b && i == 0) = false := by rfl) (hx : Loc X.env.scope x := by first | exact Or.inl rfl | exact Or.inr rfl) (hs : swapsWith ex (some (.Name x pos')) pos.line X.env = pure false := by rfl)
    (hf : X.fn x = true ∨ X.env.scope.names.lookup x = some .local := by first | exact .inl rfl | exact .inr rfl) : DSt b X (.Assign [.Name x pos'] ex pos) (sNew i mn) := by
  obtain ⟨t, pp, s⟩ := h
  refine ⟨_, ps_set (i := i) O.nd hi hx pp hs hf, fun c σ H Hf e f e' Dn F R hm q => ?_⟩
  unfold sNew at hm
  split at hm
  · cases hm
  rename_i xs e1 h1
  split at hm
  · rename_i hl
    cases hm
    exact s c σ H Hf e _ _ _ F.k R h1 fun a us H' Hf' R' S' N' V' => q _ H' Hf' (setN_core F hb hl R' N' V') S'
  · cases hm
end
/-- x = [..] on one line, x a local: the store is part of the comprehension -/
theorem ds_setLc {y : Str} {py : Pos} (O : XO X k) (i : Nat) (hi : DI X tg iter mi) (ok : BlkOk X.N X.env.scope scope own)
    (hg : ∀ (s : Shared) (H : Hp) (C : Addr) (cl : List (Str × Addr)) (fp : List Addr), XO (X.blk s H scope (compEnvC scope cl C X.env) fp) k → DPt (X.blk s H scope (compEnvC scope cl C X.env) fp) tg p is)
    (ht : ∀ (s : Shared) (H : Hp) (C : Addr) (cl : List (Str × Addr)) (fp : List Addr), XO (X.blk s H scope (compEnvC scope cl C X.env) fp) k → DTs (X.blk s H scope (compEnvC scope cl C X.env) fp) ifs mt)
    (he : ∀ (s : Shared) (H : Hp) (C : Addr) (cl : List (Str × Addr)) (fp : List Addr), XO (X.blk s H scope (compEnvC scope cl C X.env) fp) k → DE (X.blk s H scope (compEnvC scope cl C X.env) fp) elt me)
    (hy : X.N[i]? = some y := by rfl) (hyl : X.env.scope.names.lookup y = some .local := by rfl) (hb : (b && i == 0) = false := by rfl) (hk : X.env.scope.kind = .function := by rfl) (hl : (py.line == pos.line) = true := by rfl) (hnn : (scope.names.any fun (n, k) => n == y && (k == .local || k == .cell)) = false := by decide +kernel)
    (h0 : 0 ∉ own.map (·.2) := by decide) (his : ∀ i ∈ is, i ∈ own.map (·.2) := by decide) (hs : ∀ x, foldedSetIterable iter X.env x = pure x := by intro _; rfl) : DSt b X (.Assign [.Name y py] (.ListComp elt [⟨tg, iter, ifs, 0⟩] scope pos) spos) (sNew i (mComp (own.map (·.2)) mi p mt me)) := by
  obtain ⟨wi, pI, si⟩ := hi
  have bo : ∀ (s : Shared) (H : Hp) (C : Addr) (cl : List (Str × Addr)) (fp : List Addr), XO (X.blk s H scope (compEnvC scope cl C X.env) fp) k := fun s H C cl fp => ⟨O.calm, O.nd, O.room, PassesOwn.never⟩
  refine ⟨_, ps_setLc (i := i) (g := gPt X.K p is) (tt := cT X.K mt) (te := cE X.K me) O.calm O.nd hy hyl (sw_true hk hyl hl hnn) pI ok (fun s H C cl fp => hg s H C cl fp (bo s H C cl fp)) (fun s H C cl fp => ht s H C cl fp (bo s H C cl fp)) (fun s H C cl fp => (he s H C cl fp (bo s H C cl fp)).can) hs, fun c σ H Hf e f e' Dn F R hm q => ?_⟩
  unfold sNew at hm
  split at hm
  · cases hm
  rename_i xs e1 h1
  split at hm
  · rename_i hl
    cases hm
    exact lc_sound O si _ h0 his c σ H Hf e xs _ _ F.k R h1 fun a us H' Hf' R' S' N' V' => q _ H' Hf' (setN_core F hb hl R' N' V') S'
  · cases hm
/-- the same, its value settled at once -/
theorem ds_setLcF {y : Str} {py : Pos} (O : XO X k) (i : Nat) (hi : DI X tg iter mi) (ok : BlkOk X.N X.env.scope scope own)
    (hg : ∀ (s : Shared) (H : Hp) (C : Addr) (cl : List (Str × Addr)) (fp : List Addr), XO (X.blk s H scope (compEnvC scope cl C X.env) fp) k → DPt (X.blk s H scope (compEnvC scope cl C X.env) fp) tg p is)
    (ht : ∀ (s : Shared) (H : Hp) (C : Addr) (cl : List (Str × Addr)) (fp : List Addr), XO (X.blk s H scope (compEnvC scope cl C X.env) fp) k → DTs (X.blk s H scope (compEnvC scope cl C X.env) fp) ifs mt)
    (he : ∀ (s : Shared) (H : Hp) (C : Addr) (cl : List (Str × Addr)) (fp : List Addr), XO (X.blk s H scope (compEnvC scope cl C X.env) fp) k → DE (X.blk s H scope (compEnvC scope cl C X.env) fp) elt me)
    (hy : X.N[i]? = some y := by rfl) (hyl : X.env.scope.names.lookup y = some .local := by rfl) (hb : (b && i == 0) = false := by rfl) (hk : X.env.scope.kind = .function := by rfl) (hl : (py.line == pos.line) = true := by rfl) (hnn : (scope.names.any fun (n, k) => n == y && (k == .local || k == .cell)) = false := by decide +kernel)
    (h0 : 0 ∉ own.map (·.2) := by decide) (his : ∀ i ∈ is, i ∈ own.map (·.2) := by decide) (hs : ∀ x, foldedSetIterable iter X.env x = pure x := by intro _; rfl) : DSt b X (.Assign [.Name y py] (.ListComp elt [⟨tg, iter, ifs, 0⟩] scope pos) spos) (sSet (pN i) (mFr (mComp (own.map (·.2)) mi p mt me))) := by
  obtain ⟨wi, pI, si⟩ := hi
  have bo : ∀ (s : Shared) (H : Hp) (C : Addr) (cl : List (Str × Addr)) (fp : List Addr), XO (X.blk s H scope (compEnvC scope cl C X.env) fp) k := fun s H C cl fp => ⟨O.calm, O.nd, O.room, PassesOwn.never⟩
  refine ⟨_, ps_setLc (i := i) (g := gPt X.K p is) (tt := cT X.K mt) (te := cE X.K me) O.calm O.nd hy hyl (sw_true hk hyl hl hnn) pI ok (fun s H C cl fp => hg s H C cl fp (bo s H C cl fp)) (fun s H C cl fp => ht s H C cl fp (bo s H C cl fp)) (fun s H C cl fp => (he s H C cl fp (bo s H C cl fp)).can) hs, fun c σ H Hf e f e' Dn F R hm q => ?_⟩
  unfold sSet mFr pN at hm
  split at hm
  · cases hm
  rename_i d e1 h1
  split at hm
  · cases hm
  rename_i e2 h2
  cases hm
  split at h1
  · cases h1
  rename_i xs e3 h3
  cases h1
  split at h2
  · rename_i hl
    cases h2
    refine lc_sound O si _ h0 his c σ H Hf e xs _ _ F.k R h3 fun a us H' Hf' R' S' N' V' => q _ H' _ ((N'.settle R').set hl (.lst (.of upd_same) (V'.mono (same_new N'.f))) ?_) (S'.trans (same_new N'.f))
    by_cases n : i = 0
    · subst n
      cases b with
      | false => exact .inr (F.p rfl)
      | true => cases hb
    · exact .inl n
  · cases h2
end DL

namespace DL
open PySem PySem.Spec PyProof.Rows L2
variable {X : Cx} {k : Nat} {b : Bool} {st : Stmt} {rest body : List Stmt} {m m2 : Ms} {pos : Pos}
/-! ### what is bound: a value, or a new list -/
def SV (c : Ct) (σ : L2.St) (H Hf : Hp) (e : DL.Env) (v : V) : Sl → Prop
  | .un => True
  | .im d => Rep c.K Hf v d
  | .ow xs => ∃ p us, v = .ref p ∧ NewAt c σ H Hf e p us ∧ RepL c.K Hf us xs
def DX (X : Cx) (ex : Expr) (m : M Sl) : Prop := ∃ t, PE X ex t ∧ ∀ (c : Ct) (σ : L2.St) (H Hf : Hp) (e : DL.Env) (s : Sl) (e' : DL.Env) (Q : VK), c.K = X.K → Rl c σ H Hf e → m e = some (s, e') →
  (∀ v H' Hf', Rl c σ H' Hf' e' → Same Hf Hf' → s ≠ .un → SV c σ H' Hf' e' v s → Q v H') → t σ H Q
section
variable {ex a b' cc : Expr} {ma mb mc : M Sl} {mv : M D} {mn : M (List D)}
theorem dx_im (h : DE X ex mv) : DX X ex (mIm mv) := by
  obtain ⟨t, p, s⟩ := h
  refine ⟨t, p, fun c σ H Hf e d e' Q hK R hm q => ?_⟩
  unfold mIm at hm
  split at hm
  · cases hm
  · rename_i d e1 h1
    cases hm
    exact s c σ H Hf e _ _ _ hK R h1 fun v H' Hf' R' S' V' => q v H' Hf' R' S' (fun z => nomatch z) V'
theorem dx_ow (h : DN X ex mn) : DX X ex (mOw mn) := by
  obtain ⟨t, p, s⟩ := h
  refine ⟨t, p, fun c σ H Hf e d e' Q hK R hm q => ?_⟩
  unfold mOw at hm
  split at hm
  · cases hm
  · rename_i d e1 h1
    cases hm
    exact s c σ H Hf e _ _ _ hK R h1 fun a us H' Hf' R' S' N' V' => q _ H' Hf' R' S' (fun z => nomatch z) ⟨a, us, rfl, N', V'⟩
/-- what is bound stays while another expression is read -/
theorem SV.stay {c : Ct} {σ : L2.St} {H Hf H' Hf' : Hp} {e e' : DL.Env} {v : V} {s : Sl} (R : Rl c σ H Hf e) (R' : Rl (c.blk σ H Hf e) σ H' Hf' e') (h : SV c σ H Hf e v s) : SV c σ H' Hf' e' v s := by
  cases s with
  | un => trivial
  | im d => exact Rep.mono R'.s0 h
  | ow xs =>
    obtain ⟨p, us, rfl, N, L⟩ := h
    have no : ¬ (c.blk σ H Hf e).own p := fun ⟨j, ys, q1, q2⟩ => N.n j ys q1 q2
    refine ⟨p, us, rfl, ⟨R'.fr _ _ N.h no, ?_, N.z, fun j ys q1 q2 => ?_⟩, L.mono R'.s0⟩
    · cases z : Hf' p with
      | none => rfl
      | some o =>
        rcases R'.nw _ _ z with y | y
        · rw [show (c.blk σ H Hf e).Hf0 p = Hf p from rfl, N.f] at y; cases y
        · rw [show (c.blk σ H Hf e).H0 p = H p from rfl, N.h] at y; cases y
    · obtain ⟨a, us', f1, _, f3, _, _⟩ := R'.ownAt q1
      rw [q2] at f1
      cases f1
      rcases f3 with f3 | f3
      · exact no f3
      · rw [show (c.blk σ H Hf e).H0 p = H p from rfl, N.h] at f3; cases f3
/-- two new lists are two -/
theorem Rl.bind {c : Ct} {σ : L2.St} {H Hf : Hp} {e : DL.Env} {i : Nat} {v : V} {s : Sl} (F : Fc b X c) (hb : (b && i == 0) = false) (hl : i < e.length) (hu : s ≠ .un) (R : Rl c σ H Hf e) (h : SV c σ H Hf e v s) : Rl c (σ.set i (some v)) H Hf (e.set i s) := by
  have hp : i ≠ 0 ∨ c.pin = none := by
    by_cases n : i = 0
    · subst n
      cases b with
      | false => exact .inr (F.p rfl)
      | true => cases hb
    · exact .inl n
  cases s with
  | un => exact absurd rfl hu
  | im d => exact R.set hl h hp
  | ow xs =>
    obtain ⟨p, us, rfl, N, L⟩ := h
    exact R.setN hl N.h N.f N.z L hp N.n
/-- a new list that is not the one just bound -/
theorem SV.behind {c : Ct} {σ : L2.St} {H Hf : Hp} {e : DL.Env} {i : Nat} {v w : V} {s t : Sl} (h : SV c σ H Hf e w t) (hd : ∀ p, v = .ref p → w = .ref p → (∃ xs, s = .ow xs) → (∃ ys, t = .ow ys) → False) : SV c (σ.set i (some v)) H Hf (e.set i s) w t := by
  cases t with
  | un => trivial
  | im d => exact h
  | ow ys =>
    obtain ⟨p, us, rfl, N, L⟩ := h
    refine ⟨p, us, rfl, ⟨N.h, N.f, N.z, fun j zs q1 q2 => ?_⟩, L⟩
    rcases get_set q1 with ⟨z1, z2⟩ | ⟨n, q1⟩
    · rcases get_set q2 with ⟨_, y2⟩ | ⟨n, _⟩
      · exact hd p (Option.some.inj y2).symm rfl ⟨_, z2.symm⟩ ⟨_, rfl⟩
      · exact n z1
    · rw [List.getElem?_set_ne (Ne.symm n)] at q2
      exact N.n j zs q1 q2
/-- what is read in a block, seen from around it -/
theorem SV.out {c : Ct} {σ : L2.St} {H1 Hf1 H Hf : Hp} {e1 e : DL.Env} {w : V} {t : Sl} (R1 : Rl c σ H1 Hf1 e1) (h : SV (c.blk σ H1 Hf1 e1) σ H Hf e w t) : SV c σ H Hf e w t := by
  cases t with
  | un => trivial
  | im d => exact h
  | ow ys =>
    obtain ⟨p, us, rfl, N, L⟩ := h
    exact ⟨p, us, rfl, ⟨N.h, N.f, R1.h0 N.z, N.n⟩, L⟩
theorem SV.apart {c : Ct} {σ : L2.St} {H1 Hf1 H Hf : Hp} {e1 e : DL.Env} {v w : V} {s t : Sl} (h1 : SV c σ H1 Hf1 e1 v s) (h : SV (c.blk σ H1 Hf1 e1) σ H Hf e w t) : ∀ p, v = .ref p → w = .ref p → (∃ xs, s = .ow xs) → (∃ ys, t = .ow ys) → False := by
  rintro p rfl rfl ⟨xs, rfl⟩ ⟨ys, rfl⟩
  obtain ⟨p1, us1, z1, N1, _⟩ := h1
  obtain ⟨p2, us2, z2, N2, _⟩ := h
  cases z1
  cases z2
  have := N2.z
  rw [show (c.blk σ H1 Hf1 e1).H0 p = H1 p from rfl, N1.h] at this
  cases this
theorem ds_par {x y : Str} {px py pt : Pos} {kt k2 : Nat} {pt2 : Pos} (O : XO X k) (i j : Nat) (ha : DX X a ma) (hbb : DX X b' mb) (hi : X.N[i]? = some x := by rfl) (hj : X.N[j]? = some y := by rfl) (hij : i ≠ j := by decide) (hb1 : (b && i == 0) = false := by rfl) (hb2 : (b && j == 0) = false := by rfl)
    (hx : X.env.scope.names.lookup x = some .local := by rfl) (hy : X.env.scope.names.lookup y = some .local := by rfl)
    (hw : swappedStores [.Tuple [.Name x px, .Name y py] kt pt] (.Tuple [a, b'] k2 pt2) X.env = pure (some [x, y]) := by rfl)
    (hs : swapsWithSole [.Tuple [.Name x px, .Name y py] kt pt] (.Tuple [a, b'] k2 pt2) pos.line X.env = pure false := by rfl)
    (e1 : starEach [a, b'] X.env = (false, eval a X.env) :: starEach [b'] X.env := by rfl) (e2 : starEach [b'] X.env = (false, eval b' X.env) :: starEach [] X.env := by rfl) :
    DSt b X (.Assign [.Tuple [.Name x px, .Name y py] kt pt] (.Tuple [a, b'] k2 pt2) pos) (sPar i j ma mb) := by
  obtain ⟨ta, pa, sa⟩ := ha
  obtain ⟨tb, pb, sb⟩ := hbb
  refine ⟨_, ps_par O.calm O.nd hi hj hij hx hy (pa_cons pa (pa_cons pb pa_nil e2) e1) hw hs, fun c σ H Hf e f e' Dn F R hm q => ?_⟩
  unfold sPar at hm
  split at hm
  · cases hm
  rename_i s e1 h1
  split at hm
  · cases hm
  rename_i t e2 h2
  split at hm
  · rename_i hc
    cases hm
    simp only [Bool.and_eq_true, decide_eq_true_eq] at hc
    refine sa c σ H Hf e _ _ _ F.k R h1 fun v H1 Hf1 R1 S1 u1 V1 => ?_
    refine sb (c.blk σ H1 Hf1 e1) σ H1 Hf1 e1 _ _ _ F.k R1.enter h2 fun w H2 Hf2 R2 S2 u2 V2 => ⟨v, w, rfl, ?_⟩
    have R3 := R1.leave R2
    have A1 := V1.stay R1 R2
    have A2 := SV.out R1 V2
    have D := SV.apart V1 V2
    refine q _ _ _ (Rl.bind F hb2 (by rw [List.length_set]; exact hc.2) u2 (R3.bind F hb1 hc.1 u1 A1) (A2.behind D)) (S1.trans S2)
  · cases hm
theorem ds_par3 {x y z : Str} {px py pz pt : Pos} {kt k2 : Nat} {pt2 : Pos} (O : XO X k) (i j l : Nat) (ha : DX X a ma) (hbb : DX X b' mb) (hcc : DX X cc mc) (hi : X.N[i]? = some x := by rfl) (hj : X.N[j]? = some y := by rfl) (hl : X.N[l]? = some z := by rfl) (hij : i ≠ j := by decide) (hil : i ≠ l := by decide) (hjl : j ≠ l := by decide) (hb1 : (b && i == 0) = false := by rfl) (hb2 : (b && j == 0) = false := by rfl) (hb3 : (b && l == 0) = false := by rfl)
    (hx : X.env.scope.names.lookup x = some .local := by rfl) (hy : X.env.scope.names.lookup y = some .local := by rfl) (hz : X.env.scope.names.lookup z = some .local := by rfl)
    (hw : swappedStores [.Tuple [.Name x px, .Name y py, .Name z pz] kt pt] (.Tuple [a, b', cc] k2 pt2) X.env = pure (some [x, y, z]) := by rfl)
    (hs : swapsWithSole [.Tuple [.Name x px, .Name y py, .Name z pz] kt pt] (.Tuple [a, b', cc] k2 pt2) pos.line X.env = pure false := by rfl)
    (e1 : starEach [a, b', cc] X.env = (false, eval a X.env) :: starEach [b', cc] X.env := by rfl) (e2 : starEach [b', cc] X.env = (false, eval b' X.env) :: starEach [cc] X.env := by rfl) (e3 : starEach [cc] X.env = (false, eval cc X.env) :: starEach [] X.env := by rfl) :
    DSt b X (.Assign [.Tuple [.Name x px, .Name y py, .Name z pz] kt pt] (.Tuple [a, b', cc] k2 pt2) pos) (sPar3 i j l ma mb mc) := by
  obtain ⟨ta, pa, sa⟩ := ha
  obtain ⟨tb, pb, sb⟩ := hbb
  obtain ⟨tc, pc, sc⟩ := hcc
  refine ⟨_, L2.ps_par3 O.calm O.nd hi hj hl hij hil hjl hx hy hz (pa_cons pa (pa_cons pb (pa_cons pc pa_nil e3) e2) e1) hw hs, fun c σ H Hf e f e' Dn F R hm q => ?_⟩
  unfold sPar3 at hm
  split at hm
  · cases hm
  rename_i s e1 h1
  split at hm
  · cases hm
  rename_i t e2 h2
  split at hm
  · cases hm
  rename_i u e3 h3
  split at hm
  · rename_i hc
    cases hm
    simp only [Bool.and_eq_true, decide_eq_true_eq] at hc
    refine sa c σ H Hf e _ _ _ F.k R h1 fun v H1 Hf1 R1 S1 u1 V1 => ?_
    refine sb (c.blk σ H1 Hf1 e1) σ H1 Hf1 e1 _ _ _ F.k R1.enter h2 fun w H2 Hf2 R2 S2 u2 V2 => ?_
    have R3 := R1.leave R2
    have A1 := V1.stay R1 R2
    have A2 := SV.out R1 V2
    have D := SV.apart V1 V2
    refine sc (c.blk σ H2 Hf2 e2) σ H2 Hf2 e2 _ _ _ F.k R3.enter h3 fun x H3 Hf3 R4 S3 u3 V3 => ⟨v, w, x, rfl, ?_⟩
    have R5 := R3.leave R4
    have B1 := A1.stay R3 R4
    have B2 := A2.stay R3 R4
    have B3 := SV.out R3 V3
    have D1 := SV.apart A1 V3
    have D2 := SV.apart A2 V3
    refine q _ _ _ (Rl.bind F hb3 (by rw [List.length_set, List.length_set]; exact hc.2) u3 (Rl.bind F hb2 (by rw [List.length_set]; exact hc.1.2) u2 (R5.bind F hb1 hc.1.1 u1 B1) (B2.behind D)) ((B3.behind D1).behind D2)) (S1.trans (S2.trans S3))
  · cases hm
end
/-! ### augmented stores, the own list changed -/
section
variable {ex : Expr} {ma mi : M D} {mn : M (List D)}
theorem ds_aug {x : Str} {op : Operator} {pos' : Pos} {o : D → D → Option D} (O : XO X k) (i : Nat) (ho : OpS X (inplaceOp op) o) (h : DE X ex ma) (hi : X.N[i]? = some x := by rfl) (hb : (b && i == 0) = false := by rfl) (hx : Loc X.env.scope x := by first | exact Or.inl rfl | exact Or.inr rfl)
    (hf : X.fn x = true ∨ X.env.scope.names.lookup x = some .local := by first | exact .inl rfl | exact .inr rfl) : DSt b X (.AugAssign (.Name x pos') op ex pos) (sAug i o ma) := by
  obtain ⟨t, p, s⟩ := h
  obtain ⟨r, ro, so⟩ := ho
  refine ⟨_, ps_aug (i := i) (ti := r) O.nd hi hx p ro hf, fun c σ H Hf e f e' Dn F R hm q => ?_⟩
  unfold sAug at hm
  split at hm
  · rename_i x0 h0
    obtain ⟨v, z1, z2⟩ := R.sl i _ h0
    split at hm
    · cases hm
    rename_i y e1 h1
    split at hm
    · cases hm
    rename_i z h2
    split at hm
    · rename_i hl
      cases hm
      refine ⟨v, z1, s c σ H Hf e _ _ _ F.k R h1 fun w H1 Hf1 R1 S1 V1 => ?_⟩
      refine so c σ H1 Hf1 e1 x0 y z v w _ F.k R1 (z2.mono S1) V1 h2 fun u H2 Hf2 R2 S2 V2 => q _ _ _ (R2.set hl V2 ?_) (S1.trans S2)
      by_cases n : i = 0
      · subst n
        cases b with
        | false => exact .inr (F.p rfl)
        | true => cases hb
      · exact .inl n
    · cases hm
  · cases hm
theorem is_add : OpS X (inplaceOp .Add) oAddI := by
  refine ⟨_, iop_add, fun c σ H Hf e x y z v w Q hK R hv hw ho q => ?_⟩
  unfold oAddI at ho
  split at ho
  · cases ho
    cases hv; cases hw
    exact ⟨_, _, rfl, rfl, q _ _ _ R (Same.refl _) (.int _)⟩
  · cases ho
theorem is_sub : OpS X (inplaceOp .Sub) oSub := by
  refine ⟨_, iop_sub, fun c σ H Hf e x y z v w Q hK R hv hw ho q => ?_⟩
  unfold oSub at ho
  split at ho
  · cases ho
    cases hv; cases hw
    exact ⟨_, _, rfl, rfl, q _ _ _ R (Same.refl _) (.int _)⟩
  · cases ho
/-- own.append(x) -/
theorem ds_app {y : Str} {py apos cpos : Pos} (i : Nat) (h : DE X ex ma) (hN : X.N[i]? = some y := by rfl) (hv : Vis X.env.scope y := by first | exact Or.inl rfl | exact Or.inr (Or.inl rfl) | exact Or.inr (Or.inr rfl)) (hd : (y == ("__debug__" : Str)) = false := by decide) (hcd : (y == ("__classdict__" : Str)) = false := by decide)
    (hbase : attributeBase (.Name y py) "append" X.env (eval (.Name y py) X.env) = eval (.Name y py) X.env := by rfl)
    (hfew : ((backTo cpos (starEach [ex] X.env)).all (fun x => !x.1) && (backToKw cpos (keywordEach [] X.env)).all (fun x => x.1.isSome) && decide ([ex].length + ([] : List Keyword).length + (if ([] : List Keyword).isEmpty then 0 else 1) < 30)) = true := by rfl)
    (hline : (apos.endLine == cpos.line) = true := by rfl) (hs : starEach [ex] X.env = (false, eval ex X.env) :: starEach [] X.env := by rfl) (hpl : (backTo cpos (starEach [] X.env)).any (·.1) = false := by rfl)
    (hsw : swapsWith (.Call (.Attribute (.Name y py) "append" apos) [ex] [] cpos) none pos.line X.env = pure false := by rfl) : DSt b X (.Expr (.Call (.Attribute (.Name y py) "append" apos) [ex] [] cpos) pos) (sApp i ma) := by
  obtain ⟨t, p, s⟩ := h
  refine ⟨_, ps_expr (pe_bm PySem.F.plainAttrs_list PySem.F.slot_list_append PySem.F.type_list_append mt_append (pe_var hN hv hd hcd) (pa_cons p pa_nil hs) hbase hfew hline hs hpl) hsw, fun c σ H Hf e f e' Dn F R hm q => ?_⟩
  unfold sApp at hm
  split at hm
  · rename_i s0 g0
    obtain ⟨a, us0, hv0, _, _, z0, _⟩ := R.ownAt g0
    split at hm
    · cases hm
    rename_i d e1 h1
    split at hm
    · rename_i xs h2
      split at hm
      · rename_i hc
        cases hm
        refine ⟨_, hv0, .inl ⟨rfl, _, .of z0⟩, s c σ H Hf e _ _ _ F.k R h1 fun v H1 Hf1 R1 S1 V1 => ?_⟩
        obtain ⟨a', us, z1, z2, _, z3, z4⟩ := R1.ownAt h2
        rw [hv0] at z1
        cases z1
        exact ⟨a, us, v, rfl, rfl, z3, by rw [z4.length]; exact hc, q _ _ Hf1 (R1.put h2 hv0 (z4.app (.cons V1 .nil))) S1⟩
      · cases hm
    · cases hm
  · cases hm
/-- own[i] = x -/
theorem ds_oset {y : Str} {ei : Expr} {py ppos : Pos} (i : Nat) (h : DE X ex ma) (h' : DE X ei mi) (hN : X.N[i]? = some y := by rfl) (hv : Vis X.env.scope y := by first | exact Or.inl rfl | exact Or.inr (Or.inl rfl) | exact Or.inr (Or.inr rfl)) (hd : (y == ("__debug__" : Str)) = false := by decide) (hcd : (y == ("__classdict__" : Str)) = false := by decide)
    (has : ∀ v, assign (.Subscript (.Name y py) ei ppos) X.env v = (do
      let ov ← holding [v] (eval (.Name y py) X.env)
      let iv ← holding [v, ov] (eval ei X.env)
      standAt ppos
      holding [v, ov, iv] (setItem ov iv v)
      release [v, ov, iv] []) := by intro _; rfl)
    (hs : swapsWithSole [.Subscript (.Name y py) ei ppos] ex pos.line X.env = pure false := by rfl) (hw : swappedStores [.Subscript (.Name y py) ei ppos] ex X.env = pure none := by rfl)
    (h1 : (assignEach [.Subscript (.Name y py) ei ppos] X.env).map (·.2) = [assign (.Subscript (.Name y py) ei ppos) X.env] := by rfl) : DSt b X (.Assign [.Subscript (.Name y py) ei ppos] ex pos) (sOSet i mi ma) := by
  obtain ⟨t, p, s⟩ := h
  obtain ⟨t2, p2, s2⟩ := h'
  refine ⟨_, ps_asg p (pg_sub (pe_var hN hv hd hcd) p2 set_list has) hs hw h1, fun c σ H Hf e f e' Dn F R hm q => ?_⟩
  unfold sOSet at hm
  split at hm
  · rename_i s0 g0
    obtain ⟨a, us0, hv0, _, _, z0, _⟩ := R.ownAt g0
    split at hm
    · cases hm
    rename_i d e1 h1
    split at hm
    · rename_i n e2 h2
      split at hm
      · rename_i xs h3
        split at hm
        · cases hm
        rename_i j hj
        cases hm
        refine s c σ H Hf e _ _ _ F.k R h1 fun v H1 Hf1 R1 S1 V1 => ⟨_, hv0, s2 c σ H1 Hf1 _ _ _ _ F.k R1 h2 fun w H2 Hf2 R2 S2 V2 => ?_⟩
        obtain ⟨a', us, z1, z2, _, z3, z4⟩ := R2.ownAt h3
        rw [hv0] at z1
        cases z1
        refine ⟨a, us, n, j, rfl, V2.int_inv, z3, ?_, q _ _ Hf2 (R2.put h3 hv0 (z4.set (V1.mono S2) j)) (S1.trans S2)⟩
        rw [z4.length]; exact hj
      · cases hm
    · cases hm
  · cases hm
/-- own += a new list -/
theorem ds_ext {x : Str} {pos' : Pos} (O : XO X k) (i : Nat) (h : DN X ex mn) (hi : X.N[i]? = some x := by rfl) (hb : (b && i == 0) = false := by rfl) (hx : Loc X.env.scope x := by first | exact Or.inl rfl | exact Or.inr rfl)
    (hf : X.fn x = true ∨ X.env.scope.names.lookup x = some .local := by first | exact .inl rfl | exact .inr rfl) : DSt b X (.AugAssign (.Name x pos') .Add ex pos) (sExt i mn) := by
  obtain ⟨t, p, s⟩ := h
  refine ⟨_, ps_aug (i := i) (ti := rExt2) O.nd hi hx p iop_ext hf, fun c σ H Hf e f e' Dn F R hm q => ?_⟩
  unfold sExt at hm
  split at hm
  · rename_i s0 g0
    obtain ⟨a, us0, hv0, _, _, z0, _⟩ := R.ownAt g0
    split at hm
    · cases hm
    rename_i ys e1 h1
    split at hm
    · rename_i xs h2
      split at hm
      · rename_i hc
        cases hm
        refine ⟨_, hv0, s c σ H Hf e _ _ _ F.k R h1 fun p ws H1 Hf1 R1 S1 N1 V1 => ?_⟩
        obtain ⟨a', us, z1, z2, _, z3, z4⟩ := R1.ownAt h2
        rw [hv0] at z1
        cases z1
        refine ⟨a, p, us, ws, rfl, rfl, z3, N1.h, by rw [z4.length, V1.length]; exact cap_le hc, ?_⟩
        have R2 := R1.put h2 hv0 (z4.app V1)
        have : σ.set i (some (.ref a)) = σ := by
          apply List.ext_getElem?
          intro j
          by_cases n : j = i
          · subst n
            rw [hv0]
            have : j < σ.length := (List.getElem?_eq_some_iff.mp hv0).1
            exact List.getElem?_set_self this
          · rw [List.getElem?_set_ne (Ne.symm n)]
        dsimp only
        rw [this]
        exact q _ _ Hf1 R2 S1
      · cases hm
    · cases hm
  · cases hm
end
/-! ### if, for, while -/
section
variable {ec tg iter : Expr} {tA : M Bool} {ba bb : List Stmt} {ma mb : Ms} {mi : M (List D)} {p : Pt} {is : List Nat}
theorem ds_if (ht : DT X ec tA) (ha : DSs b X ba ma) (hb : DSs b X bb mb) : DSt b X (.If ec ba bb pos) (sIf tA ma mb) := by
  obtain ⟨t, p, s⟩ := ht
  obtain ⟨u, p2, s2⟩ := ha
  obtain ⟨w, p3, s3⟩ := hb
  refine ⟨_, ps_if p p2 p3, fun c σ H Hf e f e' Dn F R hm q => ?_⟩
  unfold sIf at hm
  split at hm
  · cases hm
  · rename_i e1 h1
    refine s c σ H Hf e _ _ _ F.k R h1 fun H1 Hf1 R1 S1 => ?_
    rw [if_pos rfl]
    exact s2 c σ H1 Hf1 _ _ _ _ F R1 hm (q.mono S1)
  · rename_i e1 h1
    refine s c σ H Hf e _ _ _ F.k R h1 fun H1 Hf1 R1 S1 => ?_
    rw [if_neg Bool.false_ne_true]
    exact s3 c σ H1 Hf1 _ _ _ _ F R1 hm (q.mono S1)
theorem ds_for (O : XO X k) (hi : DI X tg iter mi) (hg : DPt X tg p is) (hbd : DSs b X body m) (hb : (b && is.contains 0) = false := by rfl) (hs : ∀ x, foldedSetIterable iter X.env x = pure x := by intro _; rfl) : DSt b X (.For tg iter body [] pos) (sFor mi p m) := by
  obtain ⟨wi, pI, si⟩ := hi
  obtain ⟨t, pb, sb⟩ := hbd
  refine ⟨_, ps_for O.po O.calm pI hg pb hs, fun c σ H Hf e f e' Dn F R hm q => ?_⟩
  unfold sFor at hm
  split at hm
  · cases hm
  rename_i ds e1 h1
  refine si c σ H Hf e ds e1 _ F.k R h1 fun J H1 Hf1 R1 S1 W => ?_
  have q1 := q.mono S1
  refine for_it W (Pv := fun i σ' H' => ∃ Hf' e2, Rl c σ' H' Hf' e2 ∧ Same Hf1 Hf' ∧ forL p m (ds.drop i) e2 = some (f, e')) ⟨Hf1, e1, R1, Same.refl _, hm⟩ (fun i σ' H' _ ⟨Hf', e2, R2, S2, _⟩ => S2.trans R2.sf) (fun i x σ' H' H'' hlt ⟨Hf', e2, R2, S2, g⟩ y => ?_) (fun σ' H' ⟨Hf', e2, R2, S2, g⟩ => ?_)
  · have y : YD c.K Hf1 ds i H' x H'' := F.k ▸ y
    obtain ⟨Hf2, d, R3, S3, V3, hd, _, _⟩ := R2.item S2 y
    rw [drop_cons hd] at g
    unfold forL at g
    split at g
    · cases g
    rename_i e3 h3
    refine ⟨c, Hf2, e2, d, e3, F.k, R3, pin_ok F hb, V3, h3, fun σ2 R4 _ => ?_⟩
    split at g
    · cases g
    · rename_i e4 h4
      exact sb c σ2 _ Hf2 e3 .nx e4 _ F R4 h4 fun σ5 H5 Hf5 R5 S5 => ⟨Hf5, e4, R5, S2.trans (S3.trans S5), g⟩
    · rename_i e4 h4
      exact sb c σ2 _ Hf2 e3 .ct e4 _ F R4 h4 fun σ5 H5 Hf5 R5 S5 => ⟨Hf5, e4, R5, S2.trans (S3.trans S5), g⟩
    · rename_i e4 h4
      cases g
      exact sb c σ2 _ Hf2 e3 .bk _ _ F R4 h4 fun σ5 H5 Hf5 R5 S5 => q1 σ5 H5 Hf5 R5 (S2.trans (S3.trans S5))
    · rename_i r e4 h4
      cases g
      exact sb c σ2 _ Hf2 e3 (.ret r) _ _ F R4 h4 fun v σ5 H5 Hf5 R5 S5 V5 => q1 v σ5 H5 Hf5 R5 (S2.trans (S3.trans S5)) V5
  · rw [List.drop_length] at g
    have g' : some (Fl.nx, e2) = some (f, e') := g
    cases g'
    exact q1 σ' H' Hf' R2 S2
theorem ds_while (n : Nat) (O : XO X k) (ht : DT X ec tA) (hbd : DSs b X body m) : DSt b X (.While ec body [] pos) (sWhile n tA m) := by
  obtain ⟨t, p, s⟩ := ht
  obtain ⟨u, pb, sb⟩ := hbd
  refine ⟨_, ps_while O.po p pb, fun c σ H Hf e f e' Dn F R hm q => ?_⟩
  unfold sWhile at hm
  refine ⟨fun n σ' H' => ∃ Hf' e2, Rl c σ' H' Hf' e2 ∧ Same Hf Hf' ∧ whileN tA m n e2 = some (f, e'), ⟨n, Hf, e, R, Same.refl _, hm⟩, fun j σ' H' ⟨Hf', e2, R2, S2, g⟩ => ?_⟩
  cases j with
  | zero => cases g
  | succ j =>
    unfold whileN at g
    split at g
    · cases g
    · rename_i e3 h3
      cases g
      refine s c σ' H' Hf' e2 _ _ _ F.k R2 h3 fun H3 Hf3 R3 S3 => ?_
      rw [if_neg Bool.false_ne_true]
      exact q σ' H3 Hf3 R3 (S2.trans S3)
    · rename_i e3 h3
      refine s c σ' H' Hf' e2 _ _ _ F.k R2 h3 fun H3 Hf3 R3 S3 => ?_
      rw [if_pos rfl]
      refine ⟨fun σ5 H5 => ∃ Hf5 e5, Rl c σ5 H5 Hf5 e5 ∧ Same Hf Hf5 ∧ whileN tA m j e5 = some (f, e'), fun σ5 H5 h5 => ⟨j, Nat.lt_succ_self _, h5⟩, ?_⟩
      split at g
      · cases g
      · rename_i e4 h4
        exact sb c σ' _ Hf3 e3 .nx e4 _ F R3 h4 fun σ5 H5 Hf5 R5 S5 => ⟨Hf5, e4, R5, S2.trans (S3.trans S5), g⟩
      · rename_i e4 h4
        exact sb c σ' _ Hf3 e3 .ct e4 _ F R3 h4 fun σ5 H5 Hf5 R5 S5 => ⟨Hf5, e4, R5, S2.trans (S3.trans S5), g⟩
      · rename_i e4 h4
        cases g
        exact sb c σ' _ Hf3 e3 .bk _ _ F R3 h4 fun σ5 H5 Hf5 R5 S5 => q σ5 H5 Hf5 R5 (S2.trans (S3.trans S5))
      · rename_i r e4 h4
        cases g
        exact sb c σ' _ Hf3 e3 (.ret r) _ _ F R3 h4 fun v σ5 H5 Hf5 R5 S5 V5 => q v σ5 H5 Hf5 R5 (S2.trans (S3.trans S5)) V5
/-- from here on slot j's own list is a value -/
theorem SSnd.frz {t : TS} (j : Nat) (hb : (b && j == 0) = false) (s : SSnd b X t m) : SSnd b X t (sFrz j m) := fun c σ H Hf e f e' Dn F R hm q => by
  unfold sFrz frzE at hm
  split at hm
  · rename_i xs h1
    have hp : j ≠ 0 ∨ c.pin = none := by
      by_cases n : j = 0
      · subst n
        cases b with
        | false => exact .inr (F.p rfl)
        | true => cases hb
      · exact .inl n
    obtain ⟨Hf1, R1, S1⟩ := R.frz h1 F.o hp
    exact s c σ H Hf1 _ f e' Dn F R1 hm (q.mono S1)
  · exact s c σ H Hf e f e' Dn F R hm q
theorem ds_frz (j : Nat) (h : DSt b X st m) (hb : (b && j == 0) = false := by rfl) : DSt b X st (sFrz j m) := by
  obtain ⟨t, p, s⟩ := h
  exact ⟨t, p, s.frz j hb⟩
theorem dss_frz (j : Nat) (h : DSs b X rest m) (hb : (b && j == 0) = false := by rfl) : DSs b X rest (sFrz j m) := by
  obtain ⟨t, p, s⟩ := h
  exact ⟨t, p, s.frz j hb⟩
end
/-! ### defs -/
section
variable {P : Program} {w : World} {K : PySem.W.Frag} {mg : Str → Option Value} {base : Heap} {f : Addr} {fd : FuncData} {x qual : Str} {params : Arguments} {scope : Scope} {N ps : List Str} {n kk j : Nat}
theorem env0_len {kk : Nat} {ds : List D} (h : ds.length ≤ kk) : (env0 kk ds).length = kk := by simp [env0]; omega
theorem start_len {N : List Str} {vs : List V} (h : vs.length ≤ N.length) : (start N vs).length = N.length := by simp [L2.start]; omega
theorem env0_rel {K : PySem.W.Frag} {Hf : Hp} {vs : List V} {ds : List D} {kk r : Nat} (L : RepL K Hf vs ds) {i : Nat} {s : Sl} (h : (env0 kk ds)[i]? = some s) : s = .un ∨ ∃ d v, s = .im d ∧ (vs.map some ++ List.replicate r none)[i]? = some (some v) ∧ Rep K Hf v d := by
  unfold env0 at h
  by_cases hi : i < ds.length
  · rw [List.getElem?_append_left (by simpa using hi)] at h
    rw [List.getElem?_map] at h
    cases e : ds[i]? with
    | none => rw [e] at h; cases h
    | some d =>
      rw [e] at h
      obtain ⟨v, h1, h2⟩ := L.get e
      refine .inr ⟨d, v, (Option.some.inj h).symm, ?_, h2⟩
      rw [List.getElem?_append_left (by rw [List.length_map, L.length]; exact hi), List.getElem?_map, h1]
      rfl
  · rw [List.getElem?_append_right (by simpa using hi)] at h
    obtain ⟨h1, h2⟩ := List.getElem?_eq_some_iff.mp h
    rw [List.getElem_replicate] at h2
    exact .inl h2.symm
theorem rl_start {H Hf : Hp} {vs : List V} {ds : List D} (s : Same Hf H) (L : RepL K Hf vs ds) (hk : N.length = kk) (hl : ds.length ≤ kk) : Rl ⟨K, H, Hf, fun a => (none : Option Addr) = some a, none⟩ (start N vs) H Hf (env0 kk ds) where
  ln := by rw [env0_len hl, start_len (by rw [L.length, hk]; exact hl), hk]
  fr := fun _ _ q _ => q
  fo := fun b o q _ => ⟨o, q⟩
  sf := s
  s0 := Same.refl _
  nw := fun _ _ q => .inl q
  sl := fun i t q => by
    rcases env0_rel (r := N.length - vs.length) L q with z | ⟨d, v, z, h1, h2⟩
    · subst z; trivial
    · subst z; exact ⟨v, h1, h2⟩
  ap := fun i j p xs ys _ q _ _ _ => by
    rcases env0_rel (r := 0) L q with z | ⟨d, v, z, _⟩ <;> cases z
  p0 := fun p q => by cases q
theorem runD_len {ds : List D} {d : D} (h : runD n kk m ds = some d) : ds.length = n := by
  unfold runD at h
  split at h
  · assumption
  · cases h
theorem runN_len {ds d : List D} (h : runN n kk m ds = some d) : ds.length = n := by
  unfold runN at h
  split at h
  · assumption
  · cases h
theorem runI_len {ss ds : List D} {d : D × List D} (h : runI n kk m ss ds = some d) : ds.length + 1 = n := by
  unfold runI at h
  split at h
  · assumption
  · cases h
abbrev CxB (P : Program) (w : World) (K : PySem.W.Frag) (mg : Str → Option Value) (base : Heap) (N : List Str) (qual : Str) (scope : Scope) (f : Addr) (cdv : Value) (A : Around) (outer : List PySem.Env) (s : Shared) (H : Hp) (E : XK) : Cx := (cxOf CX0 P w K mg base N qual scope f cdv A outer s H E).nox
theorem xo_of {A : Around} {outer : List PySem.Env} {s : Shared} {H : Hp} {E : XK} {cdv : Value} (S : FnScope N ps scope) (hr : Room j (A.deeper (envOfC qual scope s.heap.objs.size f cdv))) : XO (CxB P w K mg base N qual scope f cdv A outer s H E) j := ⟨rfl, S.nd, hr, PassesOwn.never⟩
/-- a def that hands back a value -/
theorem okD (F : FunD K x qual params body scope [] [] f fd) (S : FnScope N ps scope) (hk : N.length = kk) (hn : ps.length = n) (hnk : n ≤ kk)
    (h : ∀ (cdv : Value) (A : Around) (outer : List PySem.Env) (s : Shared) (H : Hp) (E : XK), XO (CxB P w K mg base N qual scope f cdv A outer s H E) j → DSs false (CxB P w K mg base N qual scope f cdv A outer s H E) body m) :
    FnOk P w K mg base CX0 (j + 1) f fd ps (spD K (runD n kk m)) := by
  refine F.ok S (fun vs H Q E ⟨Hf, ds, d, _, L, e, _⟩ => by rw [L.length, runD_len e, hn]) fun cdv A outer s H vs Q E hr ⟨Hf, ds, d, sf, L, hrun, q⟩ => ?_
  obtain ⟨t, pt, st⟩ := h cdv A outer s H E (xo_of S hr)
  refine ⟨t, pt.nox, ?_⟩
  have hl := runD_len hrun
  unfold runD at hrun
  rw [if_pos hl] at hrun
  have R := rl_start (N := N) (kk := kk) sf L hk (by omega)
  split at hrun
  · rename_i e1 h1
    cases hrun
    refine st _ _ H Hf _ .nx e1 _ ⟨rfl, rfl, fun _ => rfl⟩ R h1 fun σ' H' Hf' R' S' => ?_
    exact q .non H' Hf' (fun a o z => R'.fr a o z (by simp)) S' R'.sf R'.nw .non
  · rename_i d' e1 h1
    cases hrun
    refine st _ _ H Hf _ (.ret (.im d)) e1 _ ⟨rfl, rfl, fun _ => rfl⟩ R h1 fun v σ' H' Hf' R' S' V' => ?_
    exact q v H' Hf' (fun a o z => R'.fr a o z (by simp)) S' R'.sf R'.nw V'
  · cases hrun
/-- a def that hands back a new list -/
theorem okN (F : FunD K x qual params body scope [] [] f fd) (S : FnScope N ps scope) (hk : N.length = kk) (hn : ps.length = n) (hnk : n ≤ kk)
    (h : ∀ (cdv : Value) (A : Around) (outer : List PySem.Env) (s : Shared) (H : Hp) (E : XK), XO (CxB P w K mg base N qual scope f cdv A outer s H E) j → DSs false (CxB P w K mg base N qual scope f cdv A outer s H E) body m) :
    FnOk P w K mg base CX0 (j + 1) f fd ps (spN K (runN n kk m)) := by
  refine F.ok S (fun vs H Q E ⟨Hf, ds, d, _, L, e, _⟩ => by rw [L.length, runN_len e, hn]) fun cdv A outer s H vs Q E hr ⟨Hf, ds, d, sf, L, hrun, q⟩ => ?_
  obtain ⟨t, pt, st⟩ := h cdv A outer s H E (xo_of S hr)
  refine ⟨t, pt.nox, ?_⟩
  have hl := runN_len hrun
  unfold runN at hrun
  rw [if_pos hl] at hrun
  have R := rl_start (N := N) (kk := kk) sf L hk (by omega)
  split at hrun
  · rename_i xs e1 h1
    cases hrun
    refine st _ _ H Hf _ (.ret (.ow d)) e1 _ ⟨rfl, rfl, fun _ => rfl⟩ R h1 fun v σ' H' Hf' R' S' V' => ?_
    obtain ⟨p, us, rfl, z1, z2, z3, z4⟩ := V'
    exact q p us H' Hf' (fun a o z => R'.fr a o z (by simp)) S' R'.sf R'.nw z2 z1 z3 z4
  · cases hrun
/-- a def that changes its first argument, a list, and hands back a value -/
theorem okI (F : FunD K x qual params body scope [] [] f fd) (S : FnScope N ps scope) (hk : N.length = kk) (hn : ps.length = n) (hnk : n ≤ kk)
    (h : ∀ (cdv : Value) (A : Around) (outer : List PySem.Env) (s : Shared) (H : Hp) (E : XK), XO (CxB P w K mg base N qual scope f cdv A outer s H E) j → DSs true (CxB P w K mg base N qual scope f cdv A outer s H E) body m) :
    FnOk P w K mg base CX0 (j + 1) f fd ps (spI K (runI n kk m)) := by
  refine F.ok S (fun vs H Q E ⟨p, ws, us, Hf, ss, ds, d, ss', ev, _, _, _, _, L, e, _⟩ => by subst ev; rw [List.length_cons, L.length, runI_len e, hn]) fun cdv A outer s H vs Q E hr ⟨p, ws, us, Hf, ss, ds, d, ss', ev, sf, f0, h0, L0, L, hrun, q⟩ => ?_
  subst ev
  obtain ⟨t, pt, st⟩ := h cdv A outer s H E (xo_of S hr)
  refine ⟨t, pt.nox, ?_⟩
  have hl := runI_len hrun
  unfold runI at hrun
  rw [if_pos hl] at hrun
  have hle : ds.length ≤ kk - 1 := by omega
  have R : Rl ⟨K, H, Hf, fun a => some p = some a, some p⟩ (start N (.ref p :: ws)) H Hf (.ow ss :: env0 (kk - 1) ds) := by
    have key : ∀ i s, (env0 (kk - 1) ds)[i]? = some s → s = .un ∨ ∃ d v, s = .im d ∧ (start N (.ref p :: ws))[i + 1]? = some (some v) ∧ Rep K Hf v d := fun i s q => by
      rcases env0_rel (r := N.length - (ws.length + 1)) L q with z | ⟨d, v, z, h1, h2⟩
      · exact .inl z
      · exact .inr ⟨d, v, z, by simpa [L2.start] using h1, h2⟩
    refine ⟨?_, fun _ _ q _ => q, fun b o q _ => ⟨o, q⟩, sf, Same.refl _, fun _ _ q => .inl q, fun i t q => ?_, fun i j a xs ys hij q1 q2 q3 q4 => ?_, fun a q => ?_⟩
    · rw [List.length_cons, env0_len hle, start_len (by rw [List.length_cons, L.length, hk]; omega), hk]; omega
    · cases i with
      | zero =>
        have q' : some (Sl.ow ss) = some t := q
        cases q'
        exact ⟨p, us, rfl, f0, .inl rfl, h0, L0⟩
      | succ i =>
        rcases key i t (by simpa using q) with z | ⟨d, v, z, h1, h2⟩
        · subst z; trivial
        · subst z; exact ⟨v, h1, h2⟩
    · cases i with
      | zero =>
        cases j with
        | zero => exact hij rfl
        | succ j => rcases key j _ (by simpa using q2) with z | ⟨d, v, z, _⟩ <;> cases z
      | succ i => rcases key i _ (by simpa using q1) with z | ⟨d, v, z, _⟩ <;> cases z
    · cases q
      exact ⟨rfl, ss, rfl⟩
  have fin : ∀ (v : V) (σ' : L2.St) (H' Hf' : Hp) (e1 : DL.Env) (s' : List D) (d' : D), Rl ⟨K, H, Hf, fun a => some p = some a, some p⟩ σ' H' Hf' (.ow s' :: e1) → Same Hf Hf' → Rep K Hf' v d' → some (d', s') = some (d, ss') → Q v H' := fun v σ' H' Hf' e1 s' d' R' S' V' e => by
    cases e
    obtain ⟨g1, _⟩ := R'.p0 p rfl
    obtain ⟨a, us', z1, _, _, z3, z4⟩ := R'.ownAt (j := 0) rfl
    rw [g1] at z1
    cases z1
    exact q v H' Hf' us' (fun b o z hb => R'.fr b o z (fun y => hb (Option.some.inj y).symm)) S' R'.sf R'.nw z3 z4 V'
  split at hrun
  · rename_i s' e1 h1
    exact st _ _ H Hf _ .nx _ _ ⟨rfl, rfl, fun z => by cases z⟩ R h1 fun σ' H' Hf' R' S' => fin .non σ' H' Hf' e1 s' .non R' S' .non hrun
  · rename_i d' s' e1 h1
    exact st _ _ H Hf _ (.ret (.im d')) _ _ ⟨rfl, rfl, fun z => by cases z⟩ R h1 fun v σ' H' Hf' R' S' V' => fin v σ' H' Hf' e1 s' d' R' S' V' hrun
  · cases hrun
theorem Cal.of {sp : Sp} (F : FunD K x qual params body scope [] [] f fd) (h : FnOk P w K mg base CX0 j f fd ps sp) (hm : mg x = some (.ref f))
    (hb : ∀ (kV doc pm : Value) (an : Option Addr) (cdv ct : Value) (us : List Value), us.length = ps.length → bindArgs (PySem.W.fnOf x qual params body scope .none kV doc pm an cdv ct) ⟨us, []⟩ = pure (ps.zip us)) : Cal P w K mg base j x sp :=
  ⟨f, fd, ps, hm, F.kp, F.bindsN hb, h⟩
/-- no fuel: nothing is promised -/
theorem Cal.zero (F : FunD K x qual params body scope [] [] f fd) (hm : mg x = some (.ref f))
    (hb : ∀ (kV doc pm : Value) (an : Option Addr) (cdv ct : Value) (us : List Value), us.length = ps.length → bindArgs (PySem.W.fnOf x qual params body scope .none kV doc pm an cdv ct) ⟨us, []⟩ = pure (ps.zip us)) : Cal P w K mg base j x (spD K fun _ => none) :=
  by
  refine ⟨f, fd, ps, hm, F.kp, F.bindsN hb, ⟨fun vs H Q E h => ?_, fun A outer s H args us vs Q E _ _ _ _ h => ?_⟩⟩ <;> (obtain ⟨Hf, ds, d, _, L, e, _⟩ := h; cases e)
theorem Cal.zeroI (F : FunD K x qual params body scope [] [] f fd) (hm : mg x = some (.ref f))
    (hb : ∀ (kV doc pm : Value) (an : Option Addr) (cdv ct : Value) (us : List Value), us.length = ps.length → bindArgs (PySem.W.fnOf x qual params body scope .none kV doc pm an cdv ct) ⟨us, []⟩ = pure (ps.zip us)) : Cal P w K mg base j x (spI K fun _ _ => none) :=
  by
  refine ⟨f, fd, ps, hm, F.kp, F.bindsN hb, ⟨fun vs H Q E h => ?_, fun A outer s H args us vs Q E _ _ _ _ h => ?_⟩⟩ <;> (obtain ⟨p, ws, us', Hf, ss, ds, d, ss', ev, _, _, _, _, L, e, _⟩ := h; cases e)
end
end DL

/-! enumerate of a tuple, as the hand layer has it of a list -/
namespace PySem
open Sem (wp)
open AutoSeq1 (wpAny_loadPart')
theorem dl_enum_newT (l : Addr) (items : Array Value) (n : Nat) (dct : Option Addr) (sl : Array (Option Value)) :
    Meets (Builtin.«enumerate.__new__» ⟨[.type "enumerate", .ref l], []⟩) (fun _ R s =>
      s.heap.get? l = some { cls := .type "tuple", dict := dct, data := .seq items n, slots := sl } ∧
      R (.ok (.ret (.ref (s.heap.push { cls := .type "tuple_iterator", data := .fields #[.ref l, .int 0 0] }).objs.size)))
        { s with heap := ((s.heap.push { cls := .type "tuple_iterator", data := .fields #[.ref l, .int 0 0] }).push { cls := .type "enumerate", data := .fields #[.none, .bool false, .ref s.heap.objs.size, rawInt 0, .none, .none] }) }) :=
  .of_wp fun prog w A R s h => by
    obtain ⟨hp, g, d, tk, os⟩ := s
    obtain ⟨hl, h⟩ := h
    have hsub := sub_enumerate
    have hT : Heap.IsTuple (Shared.heap ⟨hp, g, d, tk, os⟩) l items := ⟨_, hl, rfl, n, rfl⟩
    wp_walk using wpAny_loadPart' hl
    refine wpAny_stack_any fun st => wpAny_pure ?_
    split
    · rename_i c _ _ _ _ _
      cases (c == Value.type "enumerate") <;> (wp_walk using wpAny_loadPart' hl, wpAny_pyIter_tuple hT; exact ⟨_, rfl, h⟩)
    · wp_walk using wpAny_loadPart' hl, wpAny_pyIter_tuple hT
      exact ⟨_, rfl, h⟩
section
variable {prog : Program} {w : World} {A : Around} {E : Value → Shared → Prop} {s : Shared}
theorem dl_call_enumT {l : Addr} {items : Array Value} {Q : Value → Shared → Prop} (hL : s.heap.IsTuple l items)
    (h : ∀ h', IsEnum h' (s.heap.objs.size + 1) s.heap.objs.size 0 .none → h'.IsTupleIter s.heap.objs.size l 0 → h'.objs.size = s.heap.objs.size + 2 → (∀ b o, s.heap.get? b = some o → h'.get? b = some o) → Q (.ref (s.heap.objs.size + 1)) { s with heap := h' }) :
    wpAny (model prog w) A (call (.type "enumerate") [.ref l]) Q E s := by
  obtain ⟨⟨c, dct, dt, sl⟩, hl, hc, n, hd⟩ := hL
  simp only at hc hd
  subst hc hd
  refine callType_new F.called_enumerate (by decide) (F.typeCall_enumerate_1 _) (F.newCall_enumerate_1 _) (fun obj => F.args_object_init_2 obj _) F.entry_enumerate_new (dl_enum_newT l items n dct sl) ⟨hl, ?_⟩
  have hz : (s.heap.push { cls := .type "tuple_iterator", data := .fields #[.ref l, .int 0 0] }).objs.size = s.heap.objs.size + 1 := Heap.size_push ..
  show _ ∧ _
  rw [hz]
  have he : IsEnum ((s.heap.push { cls := .type "tuple_iterator", data := .fields #[.ref l, .int 0 0] }).push { cls := .type "enumerate", data := .fields #[.none, .bool false, .ref s.heap.objs.size, rawInt 0, .none, .none] }) (s.heap.objs.size + 1) s.heap.objs.size 0 .none := by
    have q := Heap.get?_push_size (s.heap.push { cls := .type "tuple_iterator", data := .fields #[.ref l, .int 0 0] }) (o := { cls := .type "enumerate", data := .fields #[.none, .bool false, .ref s.heap.objs.size, rawInt 0, .none, .none] }) rfl
    rw [hz] at q
    exact q
  exact ⟨⟨_, he, rfl⟩, h _ he ⟨{ cls := .type "tuple_iterator", data := .fields #[.ref l, .int 0 0] }, Heap.get?_push_of_some _ (Heap.get?_push_size _ rfl), rfl, rfl⟩ (by rw [Heap.size_push, hz]) fun b o x => Heap.get?_push_of_some _ (Heap.get?_push_of_some _ x)⟩
end
end PySem
namespace DL
open PySem PySem.Spec PyProof.Rows L2
/-- the tuple at a, each item in a new pair with its place -/
def ItEt (K : PySem.W.Frag) (a : Addr) : It :=
  ⟨fun i H => ∃ (xs : List V) (x : V), SqT K H a xs ∧ xs[i]? = some x,
   fun i H v H' => ∃ T x, v = .ref T ∧ H T = none ∧ H' = upd H T (.tup [.int (i : Nat), x]) ∧ ∀ xs, SqT K H a xs → xs[i]? = some x,
   fun i H => ∃ xs : List V, SqT K H a xs ∧ xs.length ≤ i⟩
theorem tup_apart {h : Heap} {a e it : Addr} {items : Array Value} {i : Nat} {c : Int} {old : Value} (ht : h.IsTuple a items) (he : IsEnum h e it c old) (hi : h.IsTupleIter it a i) : a ≠ e ∧ a ≠ it := by
  obtain ⟨o, h1, h2, _⟩ := ht
  constructor
  · rintro rfl
    have q : h.get? a = some _ := he
    rw [h1] at q
    cases q
    exact absurd h2 (by simp)
  · rintro rfl
    obtain ⟨o', k1, k2, _⟩ := hi
    rw [h1] at k1
    cases k1
    rw [h2] at k2
    exact absurd k2 (by simp)
theorem turn_enumT {P : Program} {w : World} {K : PySem.W.Frag} {elts : List Expr} {kk : Nat} {tpos : Pos} (a e it : Addr) :
    Turn P w K (.Tuple elts kk tpos) (ItEt K a) [e, it] e (fun i h => (∃ old, IsEnum h e it ((i : Nat) : Int) old) ∧ h.IsTupleIter it a i ∧ e ≠ it) where
  mem := by simp
  obj := fun i h st b hb => by
    obtain ⟨⟨old, he⟩, ⟨o, ho, hc, hd⟩, _⟩ := st
    rcases (by simpa using hb : b = e ∨ b = it) with rfl | rfl
    · exact ⟨_, he, fun v q => nomatch q⟩
    · exact ⟨o, ho, fun v q => by rw [hd] at q; cases q⟩
  keep := fun i h h' st k => by
    obtain ⟨⟨old, he⟩, hi, hne⟩ := st
    exact ⟨⟨old, k e (by simp) _ he⟩, hi.at fun o q => k it (by simp) o q, hne⟩
  item := by
    intro X hP hw hK hc i pins s σ H E I hf st hg
    subst hP hw hK
    obtain ⟨⟨old, he⟩, hit, hne⟩ := st
    obtain ⟨xs, x, hq, hx⟩ := hg
    obtain ⟨its, rv, p, hz⟩ := I.tuple hq
    obtain ⟨u, hu, ru⟩ := rv.get hx
    have hp : s.heap.IsTuple a its.toArray := p
    obtain ⟨na, nb⟩ := tup_apart hp he hit
    have hel : e < s.heap.objs.size := Heap.lt_size he
    have hil : it < s.heap.objs.size := by obtain ⟨_, q, _⟩ := hit; exact Heap.lt_size q
    have hlt : i < its.toArray.size := by
      have := (List.getElem?_eq_some_iff.mp hu).1
      simpa using this
    have hh : X.A.in1.handled = none := I.ok.hd hc
    refine wpAny_pyNext_enum_itemC (Draws.tuple hh it a nb its.toArray) he ⟨hit, hp⟩ hlt hne (by simp [hne, Ne.symm na]) fun u' h' tk hP ho hst' hT hsz hk => ?_
    have eu : u' = u := by
      have q : its.toArray[i]? = some u' := hP
      have q2 : its.toArray[i]? = some u := by simpa using hu
      rw [q2] at q
      exact (Option.some.inj q).symm
    subst eu
    refine ⟨_, rfl, wpAny_letOwnedTupleGo_enum (s := { s with heap := h', toks := tk + 1 }) ho fun h'' he' sb => ?_⟩
    have hT2 : h''.get? s.heap.objs.size = some { cls := .type "tuple", data := .seq #[.int i tk, u'] } := (sb.2 _ (Nat.ne_of_gt hel)).trans hT
    have new : ObjOk X.prog X.w (upd H s.heap.objs.size (.tup [.int (i : Nat), x])) h'' s.heap.objs.size (.tup [.int (i : Nat), x]) := ⟨by show 2 ≤ sizeLine; decide, [.int i tk, u'], .cons ⟨_, rfl⟩ (.cons ru .nil), ⟨_, hT2, rfl, _, rfl⟩⟩
    have I1 : Inv X pins σ (upd H s.heap.objs.size (.tup [.int (i : Nat), x])) { s with heap := h'', toks := tk + 1 } :=
      I.turnedNew (ch := [e, it]) (fun b ob hb q => (sb.2 b (fun z => hb (by simp [z]))).trans (hk b ob (fun z => hb (by simp [z])) (fun z => hb (by simp [z])) q)) hf (Nat.le_refl _) new
    refine ⟨.ref s.heap.objs.size, _, I1, rfl, ⟨_, x, rfl, I.hok.fresh (Nat.le_refl _), rfl, fun ys hy => by rw [I.tuple_inj hy hq]; exact hx⟩, ⟨⟨u', ?_⟩, hst'.1.at fun o q => (sb.2 it (Ne.symm hne)).trans q, hne⟩, fun b hb => ?_⟩
    · rw [show ((i + 1 : Nat) : Int) = (i : Int) + 1 by omega]
      exact he'
    · have hb' : b < s.heap.objs.size := by
        rcases (by simpa using hb : b = e ∨ b = it) with rfl | rfl
        · exact hel
        · exact hil
      rw [upd_ne (Nat.ne_of_lt hb')]
      exact (hf b hb).1
  done := by
    intro X hP hw hK hc i pins s σ H E I hf st hg
    subst hP hw hK
    obtain ⟨⟨old, he⟩, hit, hne⟩ := st
    obtain ⟨xs, hq, hx⟩ := hg
    obtain ⟨its, rv, p, hz⟩ := I.tuple hq
    have hp : s.heap.IsTuple a its.toArray := p
    obtain ⟨na, nb⟩ := tup_apart hp he hit
    obtain ⟨f0, f1, f2, f3, f4, f5⟩ := hf it (by simp)
    have hl := rv.length
    have hh : X.A.in1.handled = none := I.ok.hd hc
    have Dr : Draws X.prog X.w X.A.in1 it [it, a] i (fun _ _ => False) (fun j h => j = i ∧ h.IsTupleIter it a i ∧ h.IsTuple a its.toArray) :=
      { live := fun _ _ st => by obtain ⟨_, ⟨o, ho, _⟩, _⟩ := st; exact ⟨o, ho⟩
        frame := fun _ _ _ st hk => ⟨st.1, st.2.1.at fun o e => hk it (by simp) o e, st.2.2.at fun o e => hk a (by simp) o e⟩
        item := fun j s Q E hj st hQ => absurd st.1 (Nat.ne_of_lt hj)
        done := fun s Q E st hE => wpAny_nextOf_tuple_end hh st.2.1 st.2.2 (by simp; omega) hE }
    exact wpAny_pyNext_enum_endD Dr he ⟨rfl, hit, hp⟩ fun h' eb => ⟨rfl, I.turned (t' := s.toks) (fun b o hb q => eb b o hb q) f0 f1 f3 f4 f5⟩
  self := fun A i s Q E st h => by
    obtain ⟨⟨_, he⟩, _⟩ := st
    exact wpAny_pyIter_enum he h
theorem pi_enumT {X : Cx} {e : Expr} {ta : TA} {p pos tpos : Pos} {elts : List Expr} {kk : Nat} (hg : Gl X "enumerate") (hm : X.mg "enumerate" = none) (ha : PA X [e] ta) (hs : starEach [e] X.env = [(false, eval e X.env)]) :
    PI X (.Tuple elts kk tpos) (.Call (.Name "enumerate" p) [e] [] pos) (fun σ H R => ta σ H fun vs H1 => ∃ a xs, vs = [.ref a] ∧ SqT X.K H1 a xs ∧ R (ItEt X.K a) H1) := by
  refine ⟨fun pins s σ H R I h => ?_⟩
  refine Call_ (ld_blt I hg hm boot_enumerate (PyProof.Rows.callWith_type1 (thn (ha.run pos pins s σ H _ I h) fun us s1 ⟨vs, H1, I1, r1, q1⟩ => ?_) hs rfl))
  obtain ⟨a, xs, ex, hq, q⟩ := q1
  subst ex
  obtain rfl := Vals.ref1 r1
  obtain ⟨its, rv, p', hz⟩ := I1.tuple hq
  refine dl_call_enumT (show s1.heap.IsTuple a its.toArray from p') fun h' he hit hsz hk => wpAny_pyIter_enum he ?_
  have I2 : Inv X pins σ H1 { s1 with heap := h' } := I1.kept (t' := s1.toks) hk
  refine ⟨s1.heap.objs.size + 1, [s1.heap.objs.size + 1, s1.heap.objs.size], _, _, H1, rfl, I2, turn_enumT a (s1.heap.objs.size + 1) s1.heap.objs.size, ⟨⟨.none, he⟩, hit, Nat.succ_ne_self _⟩, fun b hb => ?_, q⟩
  have hle : s1.heap.objs.size ≤ b := by
    rcases (by simpa using hb : b = s1.heap.objs.size + 1 ∨ b = s1.heap.objs.size) with z | z
    · rw [z]; exact Nat.le_add_right _ _
    · rw [z]; exact Nat.le_refl _
  exact I1.fpOk hle (I1.hok.fresh hle)
theorem enumD_len : ∀ (xs : List D) (i : Nat), (enumD i xs).length = xs.length
  | [], _ => rfl
  | x :: xs, i => by simp [enumD, enumD_len xs (i + 1)]
theorem enumD_get : ∀ {xs : List D} {i j : Nat} {d : D}, xs[i]? = some d → (enumD j xs)[i]? = some (.tup [.int ((j + i : Nat) : Int), d])
  | [], _, _, _, h => by simp at h
  | x :: xs, 0, j, d, h => by simp at h; subst h; rfl
  | x :: xs, i + 1, j, d, h => by
    have q := enumD_get (xs := xs) (i := i) (j := j + 1) (d := d) (by simpa using h)
    simp only [enumD, List.getElem?_cons_succ]
    rw [q, Nat.add_assoc, Nat.add_comm 1 i]
theorem wk_enum {K : PySem.W.Frag} {Hf : Hp} {a : Addr} {xs : List V} {ds : List D} (h1 : SqL K Hf a xs) (r1 : RepL K Hf xs ds) : WkD K Hf (Ite K a) (enumD 0 ds) := by
  have w := walk_enum (K := K) (a := a) (xs := xs)
  unfold WkD
  rw [enumD_len, ← r1.length]
  refine w.mono (fun H s => sqL_mono s h1) fun i H v H' hi s y => ?_
  obtain ⟨T, x, y, rfl, hn, rfl, g1, g2⟩ := y
  cases g1
  obtain ⟨d, k1, k2⟩ := r1.getV g2
  have q := enumD_get (j := 0) k1
  rw [Nat.zero_add] at q
  exact ⟨_, q, .inr ⟨T, _, hn, rfl, pair_rep hn s (.int _) k2⟩⟩
theorem wk_enumT {K : PySem.W.Frag} {Hf : Hp} {a : Addr} {xs : List V} {ds : List D} (h1 : SqT K Hf a xs) (r1 : RepL K Hf xs ds) : WkD K Hf (ItEt K a) (enumD 0 ds) := by
  unfold WkD
  rw [enumD_len, ← r1.length]
  refine ⟨fun i H hi s => ⟨xs, xs[i]'hi, sqT_mono s h1, List.getElem?_eq_getElem hi⟩, fun H s => ⟨xs, sqT_mono s h1, Nat.le_refl _⟩, fun i H v H' hi s y => ?_⟩
  obtain ⟨T, y, rfl, hn, rfl, g2⟩ := y
  obtain ⟨d, k1, k2⟩ := r1.getV (g2 xs (sqT_mono s h1))
  have q := enumD_get (j := 0) k1
  rw [Nat.zero_add] at q
  exact ⟨_, q, .inr ⟨T, _, hn, rfl, pair_rep hn s (.int _) k2⟩⟩
theorem di_enum {X : Cx} {a : Expr} {ma : M D} {p pos : Pos} {elts : List Expr} {kk : Nat} {tpos : Pos} (ha : DE X a ma) (hm0 : X.mg "enumerate" = none) (hg : Gl X "enumerate" := by rfl) (hs : starEach [a] X.env = [(false, eval a X.env)] := by rfl) :
    DI X (.Tuple elts kk tpos) (.Call (.Name "enumerate" p) [a] [] pos) (iEnum ma) := by
  obtain ⟨t, pa, s⟩ := ha
  refine ⟨_, pi_or (pi_enum hg hm0 (pa_cons pa pa_nil hs) hs) (pi_enumT hg hm0 (pa_cons pa pa_nil hs) hs), fun c σ H Hf e ds e' R hK R0 hm q => ?_⟩
  unfold iEnum at hm
  split at hm
  · cases hm
  rename_i xs e1 h1
  cases hm
  unfold iSeq at h1
  split at h1
  · rename_i ys e2 h2
    cases h1
    refine .inl (s c σ H Hf e _ _ _ hK R0 h2 fun v H1 Hf1 R1 S1 V1 => ?_)
    cases V1 with
    | lst hs rs => exact ⟨_, _, rfl, hK ▸ R1.seqL hs, q _ _ Hf1 R1 S1 (hK ▸ wk_enum hs rs)⟩
  · rename_i ys e2 h2
    cases h1
    refine .inr (s c σ H Hf e _ _ _ hK R0 h2 fun v H1 Hf1 R1 S1 V1 => ?_)
    cases V1 with
    | tup hs rs => exact ⟨_, _, rfl, hK ▸ R1.seqT hs, q _ _ Hf1 R1 S1 (hK ▸ wk_enumT hs rs)⟩
  · cases h1
end DL

namespace DL
open PySem PySem.Spec PyProof.Rows L2
variable {X : Cx} {k : Nat}
theorem de_globI {x : Str} {n : Int} {pos : Pos} (hm : ∃ t, X.mg x = some (.int n t)) (hg : Gl X x := by rfl) (hd : (x == ("__debug__" : Str)) = false := by decide) : DE X (.Name x pos) (mC (.int n)) := by
  obtain ⟨t, h⟩ := hm
  exact de_glob h ⟨t, rfl⟩ hg hd
theorem bb_len : bootBuiltins ("len" : Str) = some (.builtin "len") := by decide +kernel
theorem bb_max : bootBuiltins ("max" : Str) = some (.builtin "max") := by decide +kernel
theorem bb_min : bootBuiltins ("min" : Str) = some (.builtin "min") := by decide +kernel
theorem bb_sum : bootBuiltins ("sum" : Str) = some (.builtin "sum") := by decide +kernel
theorem bb_abs : bootBuiltins ("abs" : Str) = some (.builtin "abs") := by decide +kernel
theorem bb_all : bootBuiltins ("all" : Str) = some (.builtin "all") := by decide +kernel
theorem bb_any : bootBuiltins ("any" : Str) = some (.builtin "any") := by decide +kernel
theorem bb_sorted : bootBuiltins ("sorted" : Str) = some (.builtin "sorted") := by decide +kernel
theorem bb_tuple : bootBuiltins ("tuple" : Str) = some (.type "tuple") := by decide +kernel
theorem bb_list : bootBuiltins ("list" : Str) = some (.type "list") := by decide +kernel
theorem bb_int : bootBuiltins ("int" : Str) = some (.type "int") := by decide +kernel
theorem bb_bool : bootBuiltins ("bool" : Str) = some (.type "bool") := by decide +kernel
theorem bb_str : bootBuiltins ("str" : Str) = some (.type "str") := by decide +kernel
/-! ### arguments that are looked at alone -/
def DAb (X : Cx) (es : List Expr) (m : M (List D)) : Prop := ∃ t, PA X es t ∧ ∀ (c : Ct) (σ : L2.St) (H Hf : Hp) (e : DL.Env) (ds : List D) (e' : DL.Env) (Q : List V → Hp → Prop), c.K = X.K → Rl c σ H Hf e → m e = some (ds, e') →
  (∀ vs H' Hf', Rl c σ H' Hf' e' → Same Hf Hf' → RepL c.K H' vs ds → Q vs H') → t σ H Q
section
variable {ea : Expr} {es : List Expr} {m : M D} {r : M (List D)} {pos p : Pos} {x : Str} {j : Nat}
theorem db_nil : DAb X [] mNil := ⟨_, pa_nil, fun c σ H Hf e d e' Q hK R hm q => by cases hm; exact q [] H Hf R (Same.refl _) .nil⟩
theorem db_cons (ha : DE X ea m) (hr : DAb X es r) (hs : starEach (ea :: es) X.env = (false, eval ea X.env) :: starEach es X.env := by rfl) : DAb X (ea :: es) (mCons m r) := by
  obtain ⟨t, p, s⟩ := ha
  obtain ⟨u, p2, s2⟩ := hr
  refine ⟨_, pa_cons p p2 hs, fun c σ H Hf e d e' Q hK R hm q => ?_⟩
  unfold mCons at hm
  split at hm
  · cases hm
  rename_i x e1 h1
  split at hm
  · cases hm
  rename_i xs e2 h2
  cases hm
  refine s c σ H Hf e _ _ _ hK R h1 fun v H1 Hf1 R1 S1 V1 => ?_
  exact s2 c σ H1 Hf1 _ _ _ _ hK R1 h2 fun vs H' Hf' R' S' V' => q _ H' Hf' R' (S1.trans S') (.cons ((V1.mono S').mono R'.sf) V')
theorem db_own {y : Str} {py : Pos} (i : Nat) (hr : DAb X es r) (hN : X.N[i]? = some y := by rfl) (hv : Vis X.env.scope y := by first | exact Or.inl rfl | exact Or.inr (Or.inl rfl) | exact Or.inr (Or.inr rfl))
    (hd : (y == ("__debug__" : Str)) = false := by decide) (hcd : (y == ("__classdict__" : Str)) = false := by decide) (hs : starEach (.Name y py :: es) X.env = (false, eval (.Name y py) X.env) :: starEach es X.env := by rfl) : DAb X (.Name y py :: es) (mConsO i r) := by
  obtain ⟨u, p2, s2⟩ := hr
  refine ⟨_, pa_cons (pe_var hN hv hd hcd) p2 hs, fun c σ H Hf e d e' Q hK R hm q => ?_⟩
  unfold mConsO at hm
  split at hm
  · rename_i s0 g0
    obtain ⟨a, _, hv0, _⟩ := R.ownAt g0
    split at hm
    · cases hm
    rename_i xs e1 h1
    split at hm
    · rename_i ys h2
      cases hm
      refine ⟨_, hv0, s2 c σ H Hf _ _ _ _ hK R h1 fun vs H' Hf' R' S' V' => ?_⟩
      obtain ⟨a', us, z1, z2, _, z3, z4⟩ := R'.ownAt h2
      rw [hv0] at z1
      cases z1
      exact q _ H' Hf' R' S' (.cons (.lst (.of z3) (z4.mono R'.sf)) V')
    · cases hm
  · cases hm
theorem flat_rep {K : PySem.W.Frag} {H H' : Hp} {v : V} {d : D} (h : Rep K H v d) (f : D.flat d = true) : Rep K H' v d := by
  cases h <;> first | exact .non | exact .bl _ | exact .int _ | exact .str _ | cases f
theorem de_callb {f : List D → Option D} (O : XO X k) (G : Cal X.prog X.w X.K X.mg X.base j x (spD X.K f)) (ha : DAb X (ea :: es) r) (hj : j ≤ k := by decide) (hg : Gl X x := by rfl) (hdb : (x == ("__debug__" : Str)) = false := by decide)
    (he : starEach (ea :: es) X.env = (false, eval ea X.env) :: starEach es X.env := by rfl) (hpl : (backTo pos (starEach es X.env)).any (·.1) = false := by rfl) : DE X (.Call (.Name x p) (ea :: es) [] pos) (mFb f r) := by
  obtain ⟨fa, fd, ps, h1, h2, h3, h4⟩ := G.mono hj
  obtain ⟨t, pa, s⟩ := ha
  refine ⟨_, pe_call h4 O.room hg h1 h2 h3 .nil pass0 pa hdb he hpl, fun c σ H Hf e d e' Q hK R hm q => ?_⟩
  unfold mFb at hm
  split at hm
  · cases hm
  rename_i xs e1 g1
  split at hm
  · cases hm
  rename_i d' g2
  split at hm
  · rename_i hf
    cases hm
    refine s c σ H Hf e _ _ _ hK R g1 fun vs H1 Hf1 R1 S1 V1 => ?_
    rw [List.append_nil]
    exact ⟨H1, xs, _, Same.refl _, hK ▸ V1, g2, fun v H' Hf' a1 a2 a3 a4 a5 => q v H' Hf1 (R1.call a1 (Same.refl _) (R1.sf.trans a1) fun _ _ z => .inl z) S1 (flat_rep (hK ▸ a5) hf)⟩
  · cases hm
end
/-! ### the end of a law -/
theorem walk_ofEB {l : PySem.W.OpenLaw} {n k : Nat} {q : Program} {loose : List Str} {XP : (Str → Option Value) → Heap → Prop} {YP : World → Heap → Prop} {d : DefRec} {CX : CXT} {x : Str} (hn : l.most = some n) (hn2 : n ≤ sizeLine) (hdf : d.params.defaults = []) (hr : Room k callerA)
    (F : ∀ (w : World) (mg : Str → Option Value) (fa : Addr) (h : Heap), YP w h → h.Ns mainGlobals mg → mg d.name = some (.ref fa) → ∃ (K : PySem.W.Frag) (fd : FuncData) (sp : Sp), K.In h ∧ (∀ (s : Shared) (u : Value), BindsTo s fd ⟨[u], []⟩ [(x, u)]) ∧
        (∀ (H : Hp) (a : Addr) (ns : List Int), ns.length ≤ n → (∀ z ∈ ns, Builtin.Int.intBits z ≤ 1048576) → Only H → SqL K H a (ns.map V.int) → sp [.ref a] H (fun v _ => v = .bl true) fun _ _ _ => False) ∧ ∀ base : Heap, K.In base → base.Ns mainGlobals mg → FnOk l.prog w K mg base CX k fa fd [x] sp)
    (hCX : ∀ (H : Hp) (s : Shared) (e : Value) (s' : Shared), CX [] H s (fun _ _ _ => False) e s' → False) : PySem.W.WalkO q loose XP YP l.row.toRowW d [] (fun f vs => PySem.call f vs) := by
  refine Att.attach_callB hn hdf fun w s₀ s₁ mg mb fa o pm cd doc a vs ns G Y ho hd hcd hmg hobj hints hlen hbits hg => ?_
  obtain ⟨K, fd, sp, KX, hb, hsp, hF⟩ := F w mg fa _ Y G.T.g hmg
  exact law_call KX G.T.g G.T.b G.T.builtins G.T.nolimit hg hobj hints (Nat.le_trans hlen hn2) hr hF hb (fun H hO hS => hsp H a ns hlen hbits hO hS) fun H e s' => hCX H s₁ e s'
theorem law_end {K : PySem.W.Frag} {f : List D → Option D} {H : Hp} {a : Addr} {ns : List Int} (h : f [.lst (ns.map .int)] = some (.bl true)) (hS : SqL K H a (ns.map V.int)) : spD K f [.ref a] H (fun v _ => v = .bl true) fun _ _ _ => False :=
  ⟨H, [.lst (ns.map .int)], .bl true, Same.refl _, .cons (.lst hS (.of_ints ns)) .nil, h, fun v H' Hf' _ _ _ _ r => r.bl_inv⟩
end DL

/-! Rules to walk through combinator code: wp for expressions, wpS for statements. -/
namespace DL
open PySem
def wp {α : Type} (m : M α) (e : Env) (Q : α → Env → Prop) : Prop := ∃ a e', m e = some (a, e') ∧ Q a e'
def wpS (m : Ms) (e : Env) (N B C : Env → Prop) (R : Rv → Env → Prop) : Prop :=
  ∃ f e', m e = some (f, e') ∧ (match f with | .nx => N e' | .bk => B e' | .ct => C e' | .ret r => R r e')
theorem wp_mono {α} {m : M α} {e : Env} {Q Q' : α → Env → Prop} (h : wp m e Q) (i : ∀ a e', Q a e' → Q' a e') : wp m e Q' := by
  obtain ⟨a, e', h1, h2⟩ := h; exact ⟨a, e', h1, i _ _ h2⟩
theorem wpS_mono {m : Ms} {e : Env} {N B C N' B' C' : Env → Prop} {R R' : Rv → Env → Prop} (h : wpS m e N B C R) (n : ∀ e', N e' → N' e') (b : ∀ e', B e' → B' e') (c : ∀ e', C e' → C' e') (r : ∀ v e', R v e' → R' v e') : wpS m e N' B' C' R' := by
  obtain ⟨f, e', h1, h2⟩ := h
  refine ⟨f, e', h1, ?_⟩
  cases f with
  | nx => exact n _ h2
  | bk => exact b _ h2
  | ct => exact c _ h2
  | ret v => exact r _ _ h2
section ex
variable {e : Env} {Q : D → Env → Prop} {QL : List D → Env → Prop} {QB : Bool → Env → Prop} {QP : Option Int → Env → Prop}
theorem w_var {i : Nat} {d : D} (h : e[i]? = some (.im d)) (q : Q d e) : wp (mVar i) e Q := ⟨d, e, by simp [mVar, h], q⟩
theorem w_C {d : D} (q : Q d e) : wp (mC d) e Q := ⟨d, e, rfl, q⟩
theorem w_bin {op : D → D → Option D} {a b : M D} (h : wp a e fun x e1 => wp b e1 fun y e2 => ∃ z, op x y = some z ∧ Q z e2) : wp (mBin op a b) e Q := by
  obtain ⟨x, e1, h1, y, e2, h2, z, h3, q⟩ := h
  exact ⟨z, e2, by simp [mBin, h1, h2, h3], q⟩
theorem w_un {op : D → Option D} {a : M D} (h : wp a e fun x e1 => ∃ z, op x = some z ∧ Q z e1) : wp (mUn op a) e Q := by
  obtain ⟨x, e1, h1, z, h3, q⟩ := h
  exact ⟨z, e1, by simp [mUn, h1, h3], q⟩
theorem w_isi {t : Ty} {a : M D} (h : wp a e fun x e1 => ∃ z, oIsi t x = some z ∧ Q z e1) : wp (mIsi t a) e Q := w_un h
theorem w_isi2 {t u : Ty} {a : M D} (h : wp a e fun x e1 => ∃ z, oIsi2 t u x = some z ∧ Q z e1) : wp (mIsi2 t u a) e Q := w_un h
theorem w_chain {o o' : D → D → Option D} {a b c : M D} (h : wp a e fun x e1 => wp b e1 fun y e2 => ∃ v, o x y = some (.bl v) ∧ ((v = true → wp c e2 fun z e3 => ∃ u, o' y z = some u ∧ Q u e3) ∧ (v = false → Q (.bl false) e2))) : wp (mChain o o' a b c) e Q := by
  obtain ⟨x, e1, h1, y, e2, h2, v, h3, t, f⟩ := h
  cases v with
  | true =>
    obtain ⟨z, e3, h4, u, h5, q⟩ := t rfl
    exact ⟨u, e3, by simp [mChain, h1, h2, h3, h4, h5], q⟩
  | false => exact ⟨.bl false, e2, by simp [mChain, h1, h2, h3], f rfl⟩
theorem w_if {t : M Bool} {a b : M D} (h : wp t e fun v e1 => (v = true → wp a e1 Q) ∧ (v = false → wp b e1 Q)) : wp (mIf t a b) e Q := by
  obtain ⟨v, e1, h1, t, f⟩ := h
  cases v with
  | true => obtain ⟨z, e3, h4, q⟩ := t rfl; exact ⟨z, e3, by simp [mIf, h1, h4], q⟩
  | false => obtain ⟨z, e3, h4, q⟩ := f rfl; exact ⟨z, e3, by simp [mIf, h1, h4], q⟩
theorem w_nil (q : QL [] e) : wp mNil e QL := ⟨_, _, rfl, q⟩
theorem w_cons {a : M D} {r : M (List D)} (h : wp a e fun x e1 => wp r e1 fun xs e2 => QL (x :: xs) e2) : wp (mCons a r) e QL := by
  obtain ⟨x, e1, h1, y, e2, h2, q⟩ := h
  exact ⟨_, e2, by simp [mCons, h1, h2], q⟩
theorem w_tup {a : M (List D)} (h : wp a e fun xs e1 => xs.length ≤ cap ∧ Q (.tup xs) e1) : wp (mTup a) e Q := by
  obtain ⟨x, e1, h1, l, q⟩ := h
  exact ⟨_, e1, by simp [mTup, h1, l], q⟩
theorem w_lst {a : M (List D)} (h : wp a e fun xs e1 => xs.length ≤ cap ∧ QL xs e1) : wp (mLst a) e QL := by
  obtain ⟨x, e1, h1, l, q⟩ := h
  exact ⟨_, e1, by simp [mLst, h1, l], q⟩
theorem w_F {f : List D → Option D} {a : M (List D)} (h : wp a e fun xs e1 => ∃ z, f xs = some z ∧ Q z e1) : wp (mF f a) e Q := by
  obtain ⟨x, e1, h1, z, h3, q⟩ := h
  exact ⟨_, e1, by simp [mF, h1, h3], q⟩
theorem w_Fb {f : List D → Option D} {a : M (List D)} (h : wp a e fun xs e1 => ∃ z, f xs = some z ∧ D.flat z = true ∧ Q z e1) : wp (mFb f a) e Q := by
  obtain ⟨x, e1, h1, z, h3, h4, q⟩ := h
  exact ⟨_, e1, by simp [mFb, h1, h3, h4], q⟩
theorem w_FN {f : List D → Option (List D)} {a : M (List D)} (h : wp a e fun xs e1 => ∃ z, f xs = some z ∧ QL z e1) : wp (mFN f a) e QL := by
  obtain ⟨x, e1, h1, z, h3, q⟩ := h
  exact ⟨_, e1, by simp [mFN, h1, h3], q⟩
theorem w_FI {f : List D → List D → Option (D × List D)} {j : Nat} {a : M (List D)} {s0 : List D} (h0 : e[j]? = some (.ow s0)) (h : wp a e fun xs e1 => ∃ s, e1[j]? = some (.ow s) ∧ ∃ d s', f s xs = some (d, s') ∧ ∃ e2, e1.set j (.ow s') = e2 ∧ Q d e2) : wp (mFI f j a) e Q := by
  obtain ⟨x, e1, h1, s, h2, d, s', h3, e2, rfl, q⟩ := h
  exact ⟨_, _, by simp [mFI, h0, h1, h2, h3], q⟩
theorem w_partI {a : M D} (h : wp a e fun x e1 => ∃ i, x = .int i ∧ QP (some i) e1) : wp (mPart a) e QP := by
  obtain ⟨x, e1, h1, i, rfl, q⟩ := h
  exact ⟨_, e1, by simp [mPart, h1], q⟩
theorem w_noPart (q : QP none e) : wp mNoPart e QP := ⟨_, _, rfl, q⟩
theorem w_slice {a : M D} {lo hi : M (Option Int)} (h : wp a e fun x e1 => wp lo e1 fun l e2 => wp hi e2 fun r e3 => ∃ z, oPart (fun xs => cut xs l r) x = some z ∧ Q z e3) : wp (mSlice a lo hi) e Q := by
  obtain ⟨x, e1, h1, l, e2, h2, r, e3, h3, z, h4, q⟩ := h
  exact ⟨_, e3, by simp [mSlice, h1, h2, h3, h4], q⟩
theorem w_oIx {j : Nat} {a : M D} {s0 : List D} (h0 : e[j]? = some (.ow s0)) (h : wp a e fun x e1 => ∃ i, x = .int i ∧ ∃ s, e1[j]? = some (.ow s) ∧ ∃ d, at' s i = some d ∧ Q d e1) : wp (mOIx j a) e Q := by
  obtain ⟨x, e1, h1, i, rfl, s, h2, d, h3, q⟩ := h
  exact ⟨_, _, by simp [mOIx, h0, h1, h2, h3], q⟩
theorem w_oLen {j : Nat} {s : List D} (h0 : e[j]? = some (.ow s)) (q : Q (.int s.length) e) : wp (mOLen j) e Q := ⟨_, _, by simp [mOLen, h0], q⟩
theorem w_oBin {op : D → D → Option D} {j : Nat} {b : M D} {s0 : List D} (h0 : e[j]? = some (.ow s0)) (h : wp b e fun y e1 => ∃ s, e1[j]? = some (.ow s) ∧ ∃ z, op (.lst s) y = some z ∧ Q z e1) : wp (mOBin op j b) e Q := by
  obtain ⟨x, e1, h1, s, h2, d, h3, q⟩ := h
  exact ⟨_, _, by simp [mOBin, h0, h1, h2, h3], q⟩
theorem w_binO {op : D → D → Option D} {j : Nat} {a : M D} (h : wp a e fun x e1 => ∃ s, e1[j]? = some (.ow s) ∧ ∃ z, op x (.lst s) = some z ∧ Q z e1) : wp (mBinO op a j) e Q := by
  obtain ⟨x, e1, h1, s, h2, d, h3, q⟩ := h
  exact ⟨_, _, by simp [mBinO, h1, h2, h3], q⟩
theorem w_consO {j : Nat} {r : M (List D)} {s0 : List D} (h0 : e[j]? = some (.ow s0)) (h : wp r e fun xs e1 => ∃ s, e1[j]? = some (.ow s) ∧ QL (.lst s :: xs) e1) : wp (mConsO j r) e QL := by
  obtain ⟨x, e1, h1, s, h2, q⟩ := h
  exact ⟨_, _, by simp [mConsO, h0, h1, h2], q⟩
theorem w_val {a : M D} (h : wp a e fun x e1 => ∃ b, x = .bl b ∧ QB b e1) : wp (tVal a) e QB := by
  obtain ⟨x, e1, h1, i, rfl, q⟩ := h
  exact ⟨_, e1, by simp [tVal, h1], q⟩
theorem w_tAnd {a b : M Bool} (h : wp a e fun v e1 => (v = true → wp b e1 QB) ∧ (v = false → QB false e1)) : wp (tAnd a b) e QB := by
  obtain ⟨v, e1, h1, t, f⟩ := h
  cases v with
  | true => obtain ⟨z, e3, h4, q⟩ := t rfl; exact ⟨z, e3, by simp [tAnd, h1, h4], q⟩
  | false => exact ⟨_, e1, by simp [tAnd, h1], f rfl⟩
theorem w_tOr {a b : M Bool} (h : wp a e fun v e1 => (v = true → QB true e1) ∧ (v = false → wp b e1 QB)) : wp (tOr a b) e QB := by
  obtain ⟨v, e1, h1, t, f⟩ := h
  cases v with
  | false => obtain ⟨z, e3, h4, q⟩ := f rfl; exact ⟨z, e3, by simp [tOr, h1, h4], q⟩
  | true => exact ⟨_, e1, by simp [tOr, h1], t rfl⟩
theorem w_tNot {a : M Bool} (h : wp a e fun v e1 => QB (!v) e1) : wp (tNot a) e QB := by
  obtain ⟨v, e1, h1, q⟩ := h
  exact ⟨_, e1, by simp [tNot, h1], q⟩
theorem w_tYes (q : QB true e) : wp tYes e QB := ⟨_, _, rfl, q⟩
theorem w_and {a b : M D} (h : wp a e fun x e1 => ∃ v, x = .bl v ∧ ((v = true → wp b e1 Q) ∧ (v = false → Q (.bl false) e1))) : wp (mAnd a b) e Q := by
  obtain ⟨x, e1, h1, v, rfl, t, f⟩ := h
  cases v with
  | true => obtain ⟨z, e3, h4, q⟩ := t rfl; exact ⟨z, e3, by simp [mAnd, h1, h4], q⟩
  | false => exact ⟨_, e1, by simp [mAnd, h1], f rfl⟩
theorem w_or {a b : M D} (h : wp a e fun x e1 => ∃ v, x = .bl v ∧ ((v = true → Q (.bl true) e1) ∧ (v = false → wp b e1 Q))) : wp (mOr a b) e Q := by
  obtain ⟨x, e1, h1, v, rfl, t, f⟩ := h
  cases v with
  | false => obtain ⟨z, e3, h4, q⟩ := f rfl; exact ⟨z, e3, by simp [mOr, h1, h4], q⟩
  | true => exact ⟨_, e1, by simp [mOr, h1], t rfl⟩
theorem w_not {a : M D} (h : wp a e fun x e1 => ∃ v, x = .bl v ∧ Q (.bl (!v)) e1) : wp (mNot a) e Q := by
  obtain ⟨x, e1, h1, v, rfl, q⟩ := h
  exact ⟨_, e1, by simp [mNot, h1], q⟩
theorem w_iSeq {a : M D} (h : wp a e fun x e1 => ∃ xs, (x = .lst xs ∨ x = .tup xs) ∧ QL xs e1) : wp (iSeq a) e QL := by
  obtain ⟨x, e1, h1, v, rfl | rfl, q⟩ := h <;> exact ⟨_, e1, by simp [iSeq, h1], q⟩
theorem w_iRng {a b : M D} (h : wp a e fun x e1 => wp b e1 fun y e2 => ∃ i j, x = .int i ∧ y = .int j ∧ inR i = true ∧ inR j = true ∧ QL (rng i j) e2) : wp (iRng a b) e QL := by
  obtain ⟨x, e1, h1, y, e2, h2, i, j, rfl, rfl, hi, hj, q⟩ := h
  exact ⟨_, e2, by simp [iRng, h1, h2, hi, hj], q⟩
theorem w_iRngD {a b : M D} (h : wp a e fun x e1 => wp b e1 fun y e2 => ∃ i j, x = .int i ∧ y = .int j ∧ inR i = true ∧ inR j = true ∧ QL (rngD i j) e2) : wp (iRngD a b) e QL := by
  obtain ⟨x, e1, h1, y, e2, h2, i, j, rfl, rfl, hi, hj, q⟩ := h
  exact ⟨_, e2, by simp [iRngD, h1, h2, hi, hj], q⟩
theorem w_rg {a b : M D} (h : wp a e fun x e1 => wp b e1 fun y e2 => ∃ i j, x = .int i ∧ y = .int j ∧ inR i = true ∧ inR j = true ∧ (j - i).toNat ≤ cap ∧ QL (rng i j) e2) : wp (mRg a b) e QL := by
  obtain ⟨x, e1, h1, y, e2, h2, i, j, rfl, rfl, hi, hj, hc, q⟩ := h
  exact ⟨_, e2, by simp only [mRg, h1, h2, hi, hj, hc, decide_true, Bool.and_true, ite_true], q⟩
theorem w_iZip {a b : M D} (h : wp a e fun x e1 => wp b e1 fun y e2 => ∃ xs ys, ((x = .lst xs ∧ y = .lst ys) ∨ (x = .tup xs ∧ y = .tup ys)) ∧ QL (zipD xs ys) e2) : wp (iZip a b) e QL := by
  obtain ⟨x, e1, h1, y, e2, h2, xs, ys, ⟨rfl, rfl⟩ | ⟨rfl, rfl⟩, q⟩ := h <;> exact ⟨_, e2, by simp [iZip, h1, h2], q⟩
theorem w_iEnum {a : M D} (h : wp a e fun x e1 => ∃ xs, (x = .lst xs ∨ x = .tup xs) ∧ QL (enumD 0 xs) e1) : wp (iEnum a) e QL := by
  obtain ⟨x, e1, h1, v, rfl | rfl, q⟩ := h <;> exact ⟨_, e1, by simp [iEnum, iSeq, h1], q⟩
theorem w_fr {a : M (List D)} (h : wp a e fun xs e1 => Q (.lst xs) e1) : wp (mFr a) e Q := by
  obtain ⟨x, e1, h1, q⟩ := h
  exact ⟨_, e1, by simp [mFr, h1], q⟩
theorem w_new {a : M D} (h : wp a e fun x e1 => ∃ xs, x = .lst xs ∧ QL xs e1) : wp (mNew a) e QL := by
  obtain ⟨x, e1, h1, xs, rfl, q⟩ := h
  exact ⟨_, e1, by simp [mNew, h1], q⟩
theorem w_tupL {a : M (List D)} (h : wp a e fun xs e1 => Q (.tup xs) e1) : wp (mTupL a) e Q := by
  obtain ⟨x, e1, h1, q⟩ := h
  exact ⟨_, e1, by simp [mTupL, h1], q⟩
theorem w_rev {a : M D} (h : wp a e fun x e1 => ∃ xs, x = .lst xs ∧ QL xs.reverse e1) : wp (mRev a) e QL := by
  obtain ⟨x, e1, h1, xs, rfl, q⟩ := h
  exact ⟨_, e1, by simp [mRev, h1], q⟩
theorem w_revT {a : M D} (h : wp a e fun x e1 => ∃ xs, x = .tup xs ∧ Q (.tup xs.reverse) e1) : wp (mRevT a) e Q := by
  obtain ⟨x, e1, h1, xs, rfl, q⟩ := h
  exact ⟨_, e1, by simp [mRevT, h1], q⟩
/-- the comprehension, with a promise I about (what is left, what is gathered, the slots) -/
theorem w_compL {vs : List Nat} {p : Pt} {t : M Bool} {elt : M D} (I : List D → List D → Env → Prop)
    (hs : ∀ d ds acc e, I (d :: ds) acc e → ∃ e1, p d (wipeE e vs) = some e1 ∧ wp t e1 fun b e2 => (b = true → wp elt e2 fun y e3 => acc.length < cap ∧ I ds (acc ++ [y]) e3) ∧ (b = false → I ds acc e2)) :
    ∀ (ds acc : List D) (e : Env), I ds acc e → ∃ acc' e', compL vs p t elt ds e acc = some (acc', e') ∧ I [] acc' e' := by
  intro ds
  induction ds with
  | nil => intro acc e h; exact ⟨acc, e, rfl, h⟩
  | cons d ds ih =>
    intro acc e h
    obtain ⟨e1, h1, b, e2, h2, ht, hf⟩ := hs d ds acc e h
    cases b with
    | true =>
      obtain ⟨y, e3, h3, hc, hI⟩ := ht rfl
      obtain ⟨acc', e', h4, h5⟩ := ih _ _ hI
      exact ⟨acc', e', by simp only [compL, h1, h2, h3, hc, if_true, h4], h5⟩
    | false =>
      obtain ⟨acc', e', h4, h5⟩ := ih _ _ (hf rfl)
      exact ⟨acc', e', by simp only [compL, h1, h2, h4], h5⟩
theorem w_comp {vs : List Nat} {it : M (List D)} {p : Pt} {t : M Bool} {elt : M D} (I : Env → List D → List D → Env → Prop)
    (h : wp it e fun ds e1 => I e1 ds [] (wipeE e1 vs) ∧
      (∀ d ds acc e, I e1 (d :: ds) acc e → ∃ e', p d (wipeE e vs) = some e' ∧ wp t e' fun b e2 => (b = true → wp elt e2 fun y e3 => acc.length < cap ∧ I e1 ds (acc ++ [y]) e3) ∧ (b = false → I e1 ds acc e2)) ∧
      ∀ acc e2, I e1 [] acc e2 → QL acc (backE e1 e2 vs)) : wp (mComp vs it p t elt) e QL := by
  obtain ⟨ds, e1, h1, hI, hs, hq⟩ := h
  obtain ⟨acc, e2, h2, h3⟩ := w_compL (I e1) hs ds [] _ hI
  exact ⟨acc, _, by simp only [mComp, h1, h2], hq acc e2 h3⟩
/-- the comprehension whose parts leave the slots alone, its own names apart -/
theorem w_compQ {vs : List Nat} {it : M (List D)} {p : Pt} {t : M Bool} {elt : M D} (tb : D → Bool) (g : D → D)
    (h : wp it e fun ds e1 => ∃ e3, ds.length ≤ cap ∧ backE e1 (wipeE e1 vs) vs = e3 ∧ wipeE (wipeE e1 vs) vs = wipeE e1 vs ∧
      (∀ d ∈ ds, ∃ e', p d (wipeE e1 vs) = some e' ∧ wipeE e' vs = wipeE e1 vs ∧ backE e1 e' vs = e3 ∧ wp t e' fun b e2 => e2 = e' ∧ b = tb d ∧ (tb d = true → wp elt e' fun y e3 => e3 = e' ∧ y = g d)) ∧
      QL ((ds.filter tb).map g) e3) : wp (mComp vs it p t elt) e QL := by
  obtain ⟨ds, e1, h1, ez, hc, hb, hw, hs, hq⟩ := h
  have key : ∀ (ds acc : List D) (e : Env), acc.length + ds.length ≤ cap → wipeE e vs = wipeE e1 vs → backE e1 e vs = ez →
      (∀ d ∈ ds, ∃ e', p d (wipeE e1 vs) = some e' ∧ wipeE e' vs = wipeE e1 vs ∧ backE e1 e' vs = ez ∧ wp t e' fun b e2 => e2 = e' ∧ b = tb d ∧ (tb d = true → wp elt e' fun y e3 => e3 = e' ∧ y = g d)) →
      ∃ e', compL vs p t elt ds e acc = some (acc ++ (ds.filter tb).map g, e') ∧ backE e1 e' vs = ez := by
    intro ds
    induction ds with
    | nil => intro acc e _ _ hb' _; exact ⟨e, by simp [compL], hb'⟩
    | cons d ds ih =>
      intro acc e hl hw' hb' hall
      obtain ⟨e', h1, h2, h2b, b, e2, h3, rfl, rfl, h4⟩ := hall d (List.mem_cons_self ..)
      simp only [List.length_cons] at hl
      cases hbd : tb d with
      | true =>
        obtain ⟨y, e3, h5, rfl, rfl⟩ := h4 hbd
        obtain ⟨e4, h6, h7⟩ := ih (acc ++ [g d]) e3 (by simp; omega) h2 h2b (fun x hx => hall x (List.mem_cons_of_mem _ hx))
        refine ⟨e4, ?_, h7⟩
        rw [hbd] at h3
        have hlt : acc.length < cap := by omega
        simp only [compL, hw', h1, h3, h5, hlt, if_true, h6, List.filter, hbd, List.map, List.append_assoc, List.cons_append, List.nil_append]
      | false =>
        obtain ⟨e4, h6, h7⟩ := ih acc e2 (by omega) h2 h2b (fun x hx => hall x (List.mem_cons_of_mem _ hx))
        refine ⟨e4, ?_, h7⟩
        rw [hbd] at h3
        simp only [compL, hw', h1, h3, h6, List.filter, hbd]
  obtain ⟨e2, h2, h3⟩ := key ds [] (wipeE e1 vs) (by simpa using hc) hw hb hs
  refine ⟨_, ez, ?_, hq⟩
  simp only [mComp, h1, h2, h3, List.nil_append]
theorem w_compP {vs : List Nat} {it : M (List D)} {p : Pt} {t : M Bool} {elt : M D} (tb : D → Bool) (g : D → D)
    (h : wp it e fun ds e1 => ds.length ≤ cap ∧
      (∀ d ∈ ds, ∃ e', p d (wipeE e1 vs) = some e' ∧ wipeE e' vs = wipeE e1 vs ∧ backE e1 e' vs = e1 ∧ wp t e' fun b e2 => e2 = e' ∧ b = tb d ∧ (tb d = true → wp elt e' fun y e3 => e3 = e' ∧ y = g d)) ∧
      backE e1 (wipeE e1 vs) vs = e1 ∧ wipeE (wipeE e1 vs) vs = wipeE e1 vs ∧ QL ((ds.filter tb).map g) e1) : wp (mComp vs it p t elt) e QL :=
  w_compQ tb g (wp_mono h fun _ e1 ⟨a, b, c, d, f⟩ => ⟨e1, a, c, d, b, f⟩)
end ex
section st
variable {e : Env} {N B C : Env → Prop} {R : Rv → Env → Prop}
theorem w_set {p : Pt} {a : M D} (h : wp a e fun d e1 => ∃ e2, p d e1 = some e2 ∧ N e2) : wpS (sSet p a) e N B C R := by
  obtain ⟨x, e1, h1, e2, h2, q⟩ := h
  exact ⟨.nx, e2, by simp [sSet, h1, h2], q⟩
theorem w_setN {i : Nat} {a : M D} (h : wp a e fun d e1 => ∃ e2, (decide (i < e1.length) = true ∧ e1.set i (.im d) = e2) ∧ N e2) : wpS (sSet (pN i) a) e N B C R :=
  w_set (wp_mono h fun d e1 ⟨e2, ⟨h1, h2⟩, h3⟩ => ⟨e2, by simp [pN, of_decide_eq_true h1, h2], h3⟩)
theorem w_snew {i : Nat} {a : M (List D)} (h : wp a e fun d e1 => ∃ e2, (decide (i < e1.length) = true ∧ e1.set i (.ow d) = e2) ∧ N e2) : wpS (sNew i a) e N B C R := by
  obtain ⟨x, e1, h1, e2, ⟨h2, h3⟩, q⟩ := h
  exact ⟨.nx, e2, by simp [sNew, h1, of_decide_eq_true h2, h3], q⟩
theorem w_im {a : M D} {Q : Sl → Env → Prop} (h : wp a e fun d e1 => Q (.im d) e1) : wp (mIm a) e Q := by
  obtain ⟨x, e1, h1, q⟩ := h; exact ⟨_, e1, by simp [mIm, h1], q⟩
theorem w_ow {a : M (List D)} {Q : Sl → Env → Prop} (h : wp a e fun d e1 => Q (.ow d) e1) : wp (mOw a) e Q := by
  obtain ⟨x, e1, h1, q⟩ := h; exact ⟨_, e1, by simp [mOw, h1], q⟩
theorem w_par {i j : Nat} {a b : M Sl} (h : wp a e fun x e1 => wp b e1 fun y e2 => ∃ e3, ((decide (i < e2.length) && decide (j < e2.length)) = true ∧ (e2.set i x).set j y = e3) ∧ N e3) : wpS (sPar i j a b) e N B C R := by
  obtain ⟨x, e1, h1, y, e2, h2, e3, ⟨h3, h4⟩, q⟩ := h
  exact ⟨.nx, e3, by simp only [sPar, h1, h2, h3, h4, if_true], q⟩
theorem w_par3 {i j l : Nat} {a b c : M Sl} (h : wp a e fun x e1 => wp b e1 fun y e2 => wp c e2 fun z e3 => ∃ e4, ((decide (i < e3.length) && decide (j < e3.length) && decide (l < e3.length)) = true ∧ ((e3.set i x).set j y).set l z = e4) ∧ N e4) : wpS (sPar3 i j l a b c) e N B C R := by
  obtain ⟨x, e1, h1, y, e2, h2, z, e3, h3, e4, ⟨h4, h5⟩, q⟩ := h
  exact ⟨.nx, e4, by simp only [sPar3, h1, h2, h3, h4, h5, if_true], q⟩
theorem w_aug {i : Nat} {op : D → D → Option D} {a : M D} {x : D} (h0 : e[i]? = some (.im x)) (h : wp a e fun y e1 => ∃ z, op x y = some z ∧ ∃ e2, (decide (i < e1.length) = true ∧ e1.set i (.im z) = e2) ∧ N e2) : wpS (sAug i op a) e N B C R := by
  obtain ⟨y, e1, h1, z, h2, e2, ⟨h3, h4⟩, q⟩ := h
  exact ⟨.nx, e2, by simp [sAug, h0, h1, h2, of_decide_eq_true h3, h4], q⟩
theorem w_app {j : Nat} {a : M D} {s0 : List D} (h0 : e[j]? = some (.ow s0)) (h : wp a e fun d e1 => ∃ s, e1[j]? = some (.ow s) ∧ s.length < cap ∧ ∃ e2, e1.set j (.ow (s ++ [d])) = e2 ∧ N e2) : wpS (sApp j a) e N B C R := by
  obtain ⟨d, e1, h1, s, h2, h3, e2, h4, q⟩ := h
  exact ⟨.nx, e2, by simp only [sApp, h0, h1, h2, h3, if_true, h4], q⟩
theorem w_oset {j : Nat} {i a : M D} {s0 : List D} (h0 : e[j]? = some (.ow s0)) (h : wp a e fun d e1 => wp i e1 fun x e2 => ∃ k, x = .int k ∧ ∃ s, e2[j]? = some (.ow s) ∧ ∃ n, ix s.length k = some n ∧ ∃ e3, e2.set j (.ow (s.set n d)) = e3 ∧ N e3) : wpS (sOSet j i a) e N B C R := by
  obtain ⟨d, e1, h1, x, e2, h2, k, rfl, s, h3, n, h4, e3, h5, q⟩ := h
  exact ⟨.nx, e3, by simp [sOSet, h0, h1, h2, h3, h4, h5], q⟩
theorem w_ext {j : Nat} {a : M (List D)} {s0 : List D} (h0 : e[j]? = some (.ow s0)) (h : wp a e fun ys e1 => ∃ s, e1[j]? = some (.ow s) ∧ s.length + ys.length ≤ cap ∧ ∃ e2, e1.set j (.ow (s ++ ys)) = e2 ∧ N e2) : wpS (sExt j a) e N B C R := by
  obtain ⟨d, e1, h1, s, h2, h3, e2, h4, q⟩ := h
  exact ⟨.nx, e2, by simp only [sExt, h0, h1, h2, h3, if_true, h4], q⟩
theorem w_expr {a : M D} (h : wp a e fun _ e1 => N e1) : wpS (sExpr a) e N B C R := by
  obtain ⟨x, e1, h1, q⟩ := h; exact ⟨.nx, e1, by simp [sExpr, h1], q⟩
theorem w_ret {a : M D} (h : wp a e fun d e1 => R (.im d) e1) : wpS (sRet a) e N B C R := by
  obtain ⟨x, e1, h1, q⟩ := h; exact ⟨.ret (.im x), e1, by simp [sRet, h1], q⟩
theorem w_retN {a : M (List D)} (h : wp a e fun d e1 => R (.ow d) e1) : wpS (sRetN a) e N B C R := by
  obtain ⟨x, e1, h1, q⟩ := h; exact ⟨.ret (.ow x), e1, by simp [sRetN, h1], q⟩
theorem w_retO {j : Nat} {s : List D} (h0 : e[j]? = some (.ow s)) (q : R (.ow s) e) : wpS (sRetO j) e N B C R := ⟨.ret (.ow s), e, by simp [sRetO, h0], q⟩
theorem w_pass (q : N e) : wpS sPass e N B C R := ⟨.nx, e, rfl, q⟩
theorem w_break (q : B e) : wpS sBreak e N B C R := ⟨.bk, e, rfl, q⟩
theorem w_cont (q : C e) : wpS sCont e N B C R := ⟨.ct, e, rfl, q⟩
theorem w_seq {a b : Ms} (h : wpS a e (fun e1 => wpS b e1 N B C R) B C R) : wpS (sSeq a b) e N B C R := by
  obtain ⟨f, e1, h1, h2⟩ := h
  cases f with
  | nx => obtain ⟨g, e2, h3, h4⟩ := h2; exact ⟨g, e2, by simp only [sSeq, h1, h3], h4⟩
  | bk => exact ⟨.bk, e1, by simp only [sSeq, h1], h2⟩
  | ct => exact ⟨.ct, e1, by simp only [sSeq, h1], h2⟩
  | ret r => exact ⟨.ret r, e1, by simp only [sSeq, h1], h2⟩
theorem w_sif {t : M Bool} {a b : Ms} (h : wp t e fun v e1 => (v = true → wpS a e1 N B C R) ∧ (v = false → wpS b e1 N B C R)) : wpS (sIf t a b) e N B C R := by
  obtain ⟨v, e1, h1, t, f⟩ := h
  cases v with
  | true => obtain ⟨z, e3, h4, q⟩ := t rfl; exact ⟨z, e3, by simp [sIf, h1, h4], q⟩
  | false => obtain ⟨z, e3, h4, q⟩ := f rfl; exact ⟨z, e3, by simp [sIf, h1, h4], q⟩
theorem w_frz {j : Nat} {a : Ms} {s : List D} (h0 : e[j]? = some (.ow s)) (h : ∃ e2, e.set j (.im (.lst s)) = e2 ∧ wpS a e2 N B C R) : wpS (sFrz j a) e N B C R := by
  obtain ⟨e2, h1, f, e3, h2, h3⟩ := h
  exact ⟨f, e3, by simp [sFrz, frzE, h0, h1, h2], h3⟩
theorem w_forL {p : Pt} {b : Ms} (I : List D → Env → Prop)
    (hs : ∀ d ds e, I (d :: ds) e → ∃ e1, p d e = some e1 ∧ wpS b e1 (I ds) N (I ds) R) (he : ∀ e, I [] e → N e) :
    ∀ (ds : List D) (e : Env), I ds e → wpS (forL p b ds) e N B C R := by
  intro ds
  induction ds with
  | nil => intro e h; exact ⟨.nx, e, rfl, he e h⟩
  | cons d ds ih =>
    intro e h
    obtain ⟨e1, h1, f, e2, h2, h3⟩ := hs d ds e h
    cases f with
    | nx => obtain ⟨g, e3, h4, h5⟩ := ih e2 h3; exact ⟨g, e3, by simp only [forL, h1, h2, h4], h5⟩
    | ct => obtain ⟨g, e3, h4, h5⟩ := ih e2 h3; exact ⟨g, e3, by simp only [forL, h1, h2, h4], h5⟩
    | bk => exact ⟨.nx, e2, by simp only [forL, h1, h2], h3⟩
    | ret r => exact ⟨.ret r, e2, by simp only [forL, h1, h2], h3⟩
theorem w_for {it : M (List D)} {p : Pt} {b : Ms} (h : wp it e fun ds e1 => wpS (forL p b ds) e1 N B C R) : wpS (sFor it p b) e N B C R := by
  obtain ⟨ds, e1, h1, f, e2, h2, h3⟩ := h
  exact ⟨f, e2, by simp only [sFor, h1, h2], h3⟩
/-- the for, with a promise I about (what is left, the slots) -/
theorem w_forI {it : M (List D)} {p : Pt} {b : Ms} (I : List D → Env → Prop) (h : wp it e fun ds e1 => I ds e1)
    (hs : ∀ d ds e, I (d :: ds) e → ∃ e1, p d e = some e1 ∧ wpS b e1 (I ds) N (I ds) R) (he : ∀ e, I [] e → N e) : wpS (sFor it p b) e N B C R :=
  w_for (wp_mono h fun ds e1 h1 => w_forL I hs he ds e1 h1)
/-- the while, with a promise I about (a number that falls, the slots) -/
theorem w_whileN {t : M Bool} {b : Ms} (I : Nat → Env → Prop)
    (hs : ∀ k e, I k e → wp t e fun v e1 => (v = true → wpS b e1 (fun e2 => ∃ k', k' < k ∧ I k' e2) N (fun e2 => ∃ k', k' < k ∧ I k' e2) R) ∧ (v = false → N e1)) :
    ∀ (n k : Nat) (e : Env), k < n → I k e → wpS (whileN t b n) e N B C R := by
  intro n
  induction n with
  | zero => intro k e h; omega
  | succ n ih =>
    intro k e hk hI
    obtain ⟨v, e1, h1, ht, hf⟩ := hs k e hI
    cases v with
    | false => exact ⟨.nx, e1, by simp only [whileN, h1], hf rfl⟩
    | true =>
      obtain ⟨f, e2, h2, h3⟩ := ht rfl
      cases f with
      | nx => obtain ⟨k', hk', hI'⟩ := h3; obtain ⟨g, e3, h4, h5⟩ := ih k' e2 (by omega) hI'; exact ⟨g, e3, by simp only [whileN, h1, h2, h4], h5⟩
      | ct => obtain ⟨k', hk', hI'⟩ := h3; obtain ⟨g, e3, h4, h5⟩ := ih k' e2 (by omega) hI'; exact ⟨g, e3, by simp only [whileN, h1, h2, h4], h5⟩
      | bk => exact ⟨.nx, e2, by simp only [whileN, h1, h2], h3⟩
      | ret r => exact ⟨.ret r, e2, by simp only [whileN, h1, h2], h3⟩
theorem w_while {t : M Bool} {b : Ms} {n : Nat} (I : Nat → Env → Prop) (k : Nat) (hk : k < n) (h0 : I k e)
    (hs : ∀ k e, I k e → wp t e fun v e1 => (v = true → wpS b e1 (fun e2 => ∃ k', k' < k ∧ I k' e2) N (fun e2 => ∃ k', k' < k ∧ I k' e2) R) ∧ (v = false → N e1)) : wpS (sWhile n t b) e N B C R :=
  w_whileN I hs n k e hk h0
end st
/-! ### choices -/
theorem c_true {P P' : Prop} (h : P) : (true = true → P) ∧ (true = false → P') := ⟨fun _ => h, fun h => nomatch h⟩
theorem c_false {P P' : Prop} (h : P') : (false = true → P) ∧ (false = false → P') := ⟨(fun h => nomatch h), fun _ => h⟩
theorem c_nt {P P' : Prop} (h : P') : ((!true) = true → P) ∧ ((!true) = false → P') := ⟨(fun h => nomatch h), fun _ => h⟩
theorem c_nf {P P' : Prop} (h : P) : ((!false) = true → P) ∧ ((!false) = false → P') := ⟨fun _ => h, (fun h => nomatch h)⟩
theorem c_dec {p : Prop} [Decidable p] {P P' : Prop} (h : p → P) (h' : ¬p → P') : (decide p = true → P) ∧ (decide p = false → P') :=
  ⟨fun x => h (of_decide_eq_true x), fun x => h' (of_decide_eq_false x)⟩
theorem c_decT {p : Prop} [Decidable p] {P P' : Prop} (h : p) (h' : P) : (decide p = true → P) ∧ (decide p = false → P') := c_dec (fun _ => h') fun x => (x h).elim
theorem c_decF {p : Prop} [Decidable p] {P P' : Prop} (h : ¬p) (h' : P') : (decide p = true → P) ∧ (decide p = false → P') := c_dec (fun x => (h x).elim) fun _ => h'
theorem c_not {b : Bool} {P P' : Prop} (h : (b = true → P') ∧ (b = false → P)) : ((!b) = true → P) ∧ ((!b) = false → P') := by
  cases b <;> simp_all
theorem c_and {a b : Bool} {P P' : Prop} (h : a = true → b = true → P) (h' : ¬ (a = true ∧ b = true) → P') : ((a && b) = true → P) ∧ ((a && b) = false → P') := by
  cases a <;> cases b <;> simp_all
/-! ### operations: ∃ z, op .. = some z ∧ Q z -/
section op
variable {Q : D → Prop} {i j : Int}
theorem x_add (q : Q (.int (i + j))) : ∃ z, oAdd (.int i) (.int j) = some z ∧ Q z := ⟨_, rfl, q⟩
theorem x_addI (q : Q (.int (i + j))) : ∃ z, oAddI (.int i) (.int j) = some z ∧ Q z := ⟨_, rfl, q⟩
theorem x_sub (q : Q (.int (i - j))) : ∃ z, oSub (.int i) (.int j) = some z ∧ Q z := ⟨_, rfl, q⟩
theorem x_neg (q : Q (.int (-i))) : ∃ z, oNeg (.int i) = some z ∧ Q z := ⟨_, rfl, q⟩
theorem x_mul (h : (small i || small j) = true) (q : Q (.int (i * j))) : ∃ z, oMul (.int i) (.int j) = some z ∧ Q z := ⟨_, by simp [oMul, h], q⟩
theorem x_div (h : 0 < j ∧ j < 2 ^ 64) (q : Q (.int (i / j))) : ∃ z, oDiv (.int i) (.int j) = some z ∧ Q z := ⟨_, by simp only [oDiv, decide_eq_true h, if_true], q⟩
theorem x_mod (h : 0 < j) (q : Q (.int (i % j))) : ∃ z, oMod (.int i) (.int j) = some z ∧ Q z := ⟨_, by simp only [oMod, decide_eq_true h, if_true], q⟩
theorem x_pow (h : 0 ≤ j ∧ j ≤ 1000000 ∧ i.natAbs < 2 ^ 64) (q : Q (.int (i ^ j.toNat))) : ∃ z, oPow (.int i) (.int j) = some z ∧ Q z := ⟨_, by simp only [oPow, decide_eq_true h, if_true], q⟩
theorem x_lt (q : Q (.bl (decide (i < j)))) : ∃ z, oLt (.int i) (.int j) = some z ∧ Q z := ⟨_, rfl, q⟩
theorem x_le (q : Q (.bl (decide (i ≤ j)))) : ∃ z, oLe (.int i) (.int j) = some z ∧ Q z := ⟨_, rfl, q⟩
theorem x_gt (q : Q (.bl (decide (j < i)))) : ∃ z, oGt (.int i) (.int j) = some z ∧ Q z := ⟨_, rfl, q⟩
theorem x_ge (q : Q (.bl (decide (j ≤ i)))) : ∃ z, oGe (.int i) (.int j) = some z ∧ Q z := ⟨_, rfl, q⟩
theorem ok_int (i : Int) : D.ok (.int i) = true := by simp [D.ok, D.pl, D.dep]
theorem ok_str (i : Str) : D.ok (.str i) = true := by simp [D.ok, D.pl, D.dep]
theorem ok_non : D.ok .non = true := by simp [D.ok, D.pl, D.dep]
theorem ok_bl (b : Bool) : D.ok (.bl b) = true := by simp [D.ok, D.pl, D.dep]
theorem x_eq (q : Q (.bl (decide (i = j)))) : ∃ z, oEq (.int i) (.int j) = some z ∧ Q z :=
  ⟨_, by simp only [oEq, ok_int, D.eqv, Bool.and_true, if_true]; rfl, q⟩
theorem x_ne (q : Q (.bl (!decide (i = j)))) : ∃ z, oNe (.int i) (.int j) = some z ∧ Q z :=
  ⟨_, by simp only [oNe, ok_int, D.eqv, Bool.and_true, if_true]; rfl, q⟩
theorem x_eqS {s t : Str} (q : Q (.bl (decide (s = t)))) : ∃ z, oEq (.str s) (.str t) = some z ∧ Q z :=
  ⟨_, by simp only [oEq, ok_str, D.eqv, Bool.and_true, if_true]; rfl, q⟩
theorem x_isN {d : D} (q : Q (.bl (D.isNon d))) : ∃ z, oIsN d .non = some z ∧ Q z := ⟨_, rfl, q⟩
theorem x_notN {d : D} (q : Q (.bl (!D.isNon d))) : ∃ z, oNotN d .non = some z ∧ Q z := ⟨_, rfl, q⟩
theorem x_isB {a b : Bool} (q : Q (.bl (decide (a = b)))) : ∃ z, oIsB (.bl a) (.bl b) = some z ∧ Q z := ⟨_, rfl, q⟩
theorem x_notB {a b : Bool} (q : Q (.bl (!decide (a = b)))) : ∃ z, oNotB (.bl a) (.bl b) = some z ∧ Q z := ⟨_, rfl, q⟩
theorem x_ixL {xs : List D} {d : D} (h : at' xs i = some d) (q : Q d) : ∃ z, oIx (.lst xs) (.int i) = some z ∧ Q z := ⟨_, h, q⟩
theorem x_ixT {xs : List D} {d : D} (h : at' xs i = some d) (q : Q d) : ∃ z, oIx (.tup xs) (.int i) = some z ∧ Q z := ⟨_, h, q⟩
theorem x_lenL {xs : List D} (q : Q (.int xs.length)) : ∃ z, fLen [.lst xs] = some z ∧ Q z := ⟨_, rfl, q⟩
theorem x_lenT {xs : List D} (q : Q (.int xs.length)) : ∃ z, fLen [.tup xs] = some z ∧ Q z := ⟨_, rfl, q⟩
theorem x_max2 (q : Q (.int (max i j))) : ∃ z, fMax [.int i, .int j] = some z ∧ Q z := ⟨_, rfl, q⟩
theorem x_min2 (q : Q (.int (min i j))) : ∃ z, fMin [.int i, .int j] = some z ∧ Q z := ⟨_, rfl, q⟩
theorem x_abs (q : Q (.int (if i < 0 then -i else i))) : ∃ z, fAbs [.int i] = some z ∧ Q z := ⟨_, rfl, q⟩
theorem x_tupleL {xs : List D} (q : Q (.tup xs)) : ∃ z, fTuple [.lst xs] = some z ∧ Q z := ⟨_, rfl, q⟩
theorem x_tupleT {xs : List D} (q : Q (.tup xs)) : ∃ z, fTuple [.tup xs] = some z ∧ Q z := ⟨_, rfl, q⟩
theorem x_partL {f : List D → List D} {xs : List D} (q : Q (.lst (f xs))) : ∃ z, oPart f (.lst xs) = some z ∧ Q z := ⟨_, rfl, q⟩
theorem x_partT {f : List D → List D} {xs : List D} (q : Q (.tup (f xs))) : ∃ z, oPart f (.tup xs) = some z ∧ Q z := ⟨_, rfl, q⟩
theorem x_addL {xs ys : List D} (h : xs.length + ys.length ≤ cap) (q : Q (.lst (xs ++ ys))) : ∃ z, oAdd (.lst xs) (.lst ys) = some z ∧ Q z := ⟨_, by simp only [oAdd, h, if_true], q⟩
theorem x_addT {xs ys : List D} (h : xs.length + ys.length ≤ cap) (q : Q (.tup (xs ++ ys))) : ∃ z, oAdd (.tup xs) (.tup ys) = some z ∧ Q z := ⟨_, by simp only [oAdd, h, if_true], q⟩
theorem x_listL {Q : List D → Prop} {xs : List D} (q : Q xs) : ∃ z, fListN [.lst xs] = some z ∧ Q z := ⟨_, rfl, q⟩
theorem x_listT {Q : List D → Prop} {xs : List D} (q : Q xs) : ∃ z, fListN [.tup xs] = some z ∧ Q z := ⟨_, rfl, q⟩
theorem x_iii (q : Q (.bl true)) : ∃ z, oIsi .int (.int i) = some z ∧ Q z := ⟨_, rfl, q⟩
theorem x_ibi (q : Q (.bl false)) : ∃ z, oIsi .bool (.int i) = some z ∧ Q z := ⟨_, rfl, q⟩
theorem x_iss {s : Str} (q : Q (.bl true)) : ∃ z, oIsi .str (.str s) = some z ∧ Q z := ⟨_, rfl, q⟩
theorem x_itt {s : List D} (q : Q (.bl true)) : ∃ z, oIsi .tuple (.tup s) = some z ∧ Q z := ⟨_, rfl, q⟩
theorem x_ill {s : List D} (q : Q (.bl true)) : ∃ z, oIsi .list (.lst s) = some z ∧ Q z := ⟨_, rfl, q⟩
theorem y_lt {Q : Bool → Prop} (q : Q (decide (i < j))) : ∃ z, oLt (.int i) (.int j) = some (.bl z) ∧ Q z := ⟨_, rfl, q⟩
theorem y_le {Q : Bool → Prop} (q : Q (decide (i ≤ j))) : ∃ z, oLe (.int i) (.int j) = some (.bl z) ∧ Q z := ⟨_, rfl, q⟩
theorem y_gt {Q : Bool → Prop} (q : Q (decide (j < i))) : ∃ z, oGt (.int i) (.int j) = some (.bl z) ∧ Q z := ⟨_, rfl, q⟩
theorem y_ge {Q : Bool → Prop} (q : Q (decide (j ≤ i))) : ∃ z, oGe (.int i) (.int j) = some (.bl z) ∧ Q z := ⟨_, rfl, q⟩
theorem x_eqD {x y : D} (hx : D.ok x = true) (hy : D.ok y = true) (q : Q (.bl (D.eqv x y))) : ∃ z, oEq x y = some z ∧ Q z := ⟨_, by simp [oEq, hx, hy], q⟩
theorem x_neD {x y : D} (hx : D.ok x = true) (hy : D.ok y = true) (q : Q (.bl (!D.eqv x y))) : ∃ z, oNe x y = some z ∧ Q z := ⟨_, by simp [oNe, hx, hy], q⟩
end op
/-! ### small existentials -/
theorem e_bl {b : Bool} {P : Bool → Prop} (q : P b) : ∃ v, D.bl b = .bl v ∧ P v := ⟨_, rfl, q⟩
theorem e_int {i : Int} {P : Int → Prop} (q : P i) : ∃ v, D.int i = .int v ∧ P v := ⟨_, rfl, q⟩
theorem e_lst {xs : List D} {P : List D → Prop} (q : P xs) : ∃ v, D.lst xs = .lst v ∧ P v := ⟨_, rfl, q⟩
theorem e_tup {xs : List D} {P : List D → Prop} (q : P xs) : ∃ v, D.tup xs = .tup v ∧ P v := ⟨_, rfl, q⟩
theorem e_seqL {xs : List D} {P : List D → Prop} (q : P xs) : ∃ v, (D.lst xs = .lst v ∨ D.lst xs = .tup v) ∧ P v := ⟨_, .inl rfl, q⟩
theorem e_seqT {xs : List D} {P : List D → Prop} (q : P xs) : ∃ v, (D.tup xs = .lst v ∨ D.tup xs = .tup v) ∧ P v := ⟨_, .inr rfl, q⟩
theorem e_zipL {xs ys : List D} {P : List D → List D → Prop} (q : P xs ys) : ∃ v w, ((D.lst xs = .lst v ∧ D.lst ys = .lst w) ∨ (D.lst xs = .tup v ∧ D.lst ys = .tup w)) ∧ P v w := ⟨_, _, .inl ⟨rfl, rfl⟩, q⟩
theorem e_zipT {xs ys : List D} {P : List D → List D → Prop} (q : P xs ys) : ∃ v w, ((D.tup xs = .lst v ∧ D.tup ys = .lst w) ∨ (D.tup xs = .tup v ∧ D.tup ys = .tup w)) ∧ P v w := ⟨_, _, .inr ⟨rfl, rfl⟩, q⟩
theorem e_rng {i j : Int} {P : Int → Int → Prop} (h1 : inR i = true) (h2 : inR j = true) (q : P i j) : ∃ v w, D.int i = .int v ∧ D.int j = .int w ∧ inR v = true ∧ inR w = true ∧ P v w := ⟨_, _, rfl, rfl, h1, h2, q⟩
theorem e_ow {e : Env} {j : Nat} {s : List D} {P : List D → Prop} (h : e[j]? = some (.ow s)) (q : P s) : ∃ v, e[j]? = some (.ow v) ∧ P v := ⟨_, h, q⟩
theorem e_ix {n : Nat} {k : Int} {m : Nat} {P : Nat → Prop} (h : ix n k = some m) (q : P m) : ∃ v, ix n k = some v ∧ P v := ⟨_, h, q⟩
theorem e_cap {xs : List D} {P : Prop} (h : xs.length ≤ cap) (q : P) : xs.length ≤ cap ∧ P := ⟨h, q⟩
theorem e_set {e e2 : Env} {j : Nat} {x : Sl} {P : Env → Prop} (h : e.set j x = e2) (q : P e2) : ∃ v, e.set j x = v ∧ P v := ⟨_, h, q⟩
theorem e_setL {e e2 : Env} {j : Nat} {x : Sl} {P : Env → Prop} (h1 : decide (j < e.length) = true) (h : e.set j x = e2) (q : P e2) : ∃ v, (decide (j < e.length) = true ∧ e.set j x = v) ∧ P v := ⟨_, ⟨h1, h⟩, q⟩
theorem e_par {e e2 : Env} {i j : Nat} {x y : Sl} {P : Env → Prop} (h1 : (decide (i < e.length) && decide (j < e.length)) = true) (h : (e.set i x).set j y = e2) (q : P e2) : ∃ v, ((decide (i < e.length) && decide (j < e.length)) = true ∧ (e.set i x).set j y = v) ∧ P v := ⟨_, ⟨h1, h⟩, q⟩
theorem e_par3 {e e2 : Env} {i j l : Nat} {x y z : Sl} {P : Env → Prop} (h1 : (decide (i < e.length) && decide (j < e.length) && decide (l < e.length)) = true) (h : ((e.set i x).set j y).set l z = e2) (q : P e2) : ∃ v, ((decide (i < e.length) && decide (j < e.length) && decide (l < e.length)) = true ∧ ((e.set i x).set j y).set l z = v) ∧ P v := ⟨_, ⟨h1, h⟩, q⟩
theorem e_at {xs : List D} {i : Int} {d : D} {P : D → Prop} (h : at' xs i = some d) (q : P d) : ∃ v, at' xs i = some v ∧ P v := ⟨_, h, q⟩
theorem e_pt {e : Env} {i : Nat} {d : D} {e2 : Env} {P : Env → Prop} (h1 : decide (i < e.length) = true) (h : e.set i (.im d) = e2) (q : P e2) : ∃ v, pN i d e = some v ∧ P v := ⟨_, by simp [pN, of_decide_eq_true h1, h], q⟩
theorem e_pT {ps : List Pt} {ds : List D} {e e2 : Env} {P : Env → Prop} (h : pTs ps ds e = some e2) (q : P e2) : ∃ v, pT ps (.tup ds) e = some v ∧ P v := ⟨_, h, q⟩
theorem inR_of {i : Int} (h1 : -1000000 ≤ i) (h2 : i ≤ 1000000) : inR i = true := by
  unfold inR
  exact decide_eq_true ⟨by omega, by omega⟩
theorem run_D {n k : Nat} {m : Ms} {ds : List D} {v : D} {e : Env} (hl : ds.length = n) (he : env0 k ds = e) (w : wpS m e (fun _ => v = .non) (fun _ => False) (fun _ => False) fun r _ => r = .im v) : runD n k m ds = some v := by
  obtain ⟨f, e', h1, h2⟩ := w
  subst he
  cases f with
  | nx => simp only [runD, hl, h1, if_true]; rw [h2]
  | bk => exact h2.elim
  | ct => exact h2.elim
  | ret r => simp only [runD, hl, h1, if_true]; rw [h2]
theorem run_N {n k : Nat} {m : Ms} {ds : List D} {v : List D} {e : Env} (hl : ds.length = n) (he : env0 k ds = e) (w : wpS m e (fun _ => False) (fun _ => False) (fun _ => False) fun r _ => r = .ow v) : runN n k m ds = some v := by
  obtain ⟨f, e', h1, h2⟩ := w
  subst he
  cases f with
  | nx => exact h2.elim
  | bk => exact h2.elim
  | ct => exact h2.elim
  | ret r => simp only [runN, hl, h1, if_true]; rw [h2]
/-- a def that changes its first argument: what it hands back and what the argument is then -/
theorem run_I {n k : Nat} {m : Ms} {ds s : List D} {e : Env} {P : D → List D → Prop} (hl : ds.length + 1 = n) (he : .ow s :: env0 (k - 1) ds = e) (w : wpS m e (fun e' => ∃ s', e'.head? = some (.ow s') ∧ P .non s') (fun _ => False) (fun _ => False) fun r e' => ∃ v s', r = .im v ∧ e'.head? = some (.ow s') ∧ P v s') : ∃ v s', runI n k m s ds = some (v, s') ∧ P v s' := by
  obtain ⟨f, e', h1, h2⟩ := w
  subst he
  cases f with
  | nx =>
    obtain ⟨s', h3, h4⟩ := h2
    cases e' with
    | nil => cases h3
    | cons a l => simp at h3; subst h3; exact ⟨_, _, by simp only [runI, hl, h1, if_true], h4⟩
  | bk => exact h2.elim
  | ct => exact h2.elim
  | ret r =>
    obtain ⟨v, s', rfl, h3, h4⟩ := h2
    cases e' with
    | nil => cases h3
    | cons a l => simp at h3; subst h3; exact ⟨_, _, by simp only [runI, hl, h1, if_true], h4⟩
end DL

/-! Plain data of the program: commands, schedules, levels, effects. -/
namespace DL
open PySem
structure Cm where
  ch : Bool
  am : Int
  li : Int
def Cm.nm (c : Cm) : Str := if c.ch then "charge" else "discharge"
def Cm.d (c : Cm) : D := .tup [.str c.nm, .int c.am, .int c.li]
def schL (s : List Cm) : List D := s.map Cm.d
def schD (s : List Cm) : D := .tup (schL s)
def aft (l : Int) (c : Cm) : Int := if c.ch then (if c.li ≤ l then l else min (l + c.am) c.li) else (if l ≤ c.li then l else max (l - c.am) c.li)
def fin (s : List Cm) (l : Int) : Int := s.foldl aft l
/-- the levels, the start first -/
def lvs : List Cm → Int → List Int
  | [], l => [l]
  | c :: s, l => l :: lvs s (aft l c)
def iL (xs : List Int) : List D := xs.map .int
/-- 0, 1, .., n-1 -/
def upto (n : Nat) : List Int := (List.range n).map fun i => ((i : Nat) : Int)
def eff (cap : Int) (s : List Cm) : List Int := (upto (cap + 1).toNat).map (fin s)
/-- what the program takes for a command, a schedule, a capacity -/
abbrev Cm.ok (cap : Int) (c : Cm) : Prop := 1 ≤ c.am ∧ c.am ≤ 60 ∧ 0 ≤ c.li ∧ c.li ≤ cap
abbrev Sok (cap : Int) (s : List Cm) : Prop := s.length ≤ 60 ∧ ∀ c ∈ s, c.ok cap
abbrev Cok (cap : Int) : Prop := 1 ≤ cap ∧ cap ≤ 60
abbrev Lok (cap l : Int) : Prop := 0 ≤ l ∧ l ≤ cap
theorem aft_ok {cap l : Int} {c : Cm} (hc : c.ok cap) (hl : Lok cap l) : Lok cap (aft l c) := by
  obtain ⟨h1, h2, h3, h4⟩ := hc
  obtain ⟨h5, h6⟩ := hl
  unfold aft
  split <;> split <;> omega
theorem fin_ok {cap : Int} : ∀ {s : List Cm} {l : Int}, (∀ c ∈ s, c.ok cap) → Lok cap l → Lok cap (fin s l)
  | [], _, _, h => h
  | c :: s, l, hs, h => fin_ok (s := s) (fun x hx => hs x (List.mem_cons_of_mem _ hx)) (aft_ok (hs c (List.mem_cons_self ..)) h)
theorem lvs_ne (s : List Cm) (l : Int) : lvs s l ≠ [] := by cases s <;> simp [lvs]
theorem lvs_len : ∀ (s : List Cm) (l : Int), (lvs s l).length = s.length + 1
  | [], _ => rfl
  | c :: s, l => by simp [lvs, lvs_len s]
theorem lvs_last : ∀ (s : List Cm) (l : Int), (lvs s l).getLast? = some (fin s l)
  | [], _ => rfl
  | c :: s, l => by
    have := lvs_last s (aft l c)
    simp only [lvs]
    rw [List.getLast?_cons, this]
    rfl
theorem lvs_ok {cap : Int} : ∀ {s : List Cm} {l : Int}, (∀ c ∈ s, c.ok cap) → Lok cap l → ∀ x ∈ lvs s l, Lok cap x
  | [], _, _, h, x, hx => by simp [lvs] at hx; subst hx; exact h
  | c :: s, l, hs, h, x, hx => by
    simp only [lvs, List.mem_cons] at hx
    rcases hx with rfl | hx
    · exact h
    · exact lvs_ok (s := s) (fun x hx => hs x (List.mem_cons_of_mem _ hx)) (aft_ok (hs c (List.mem_cons_self ..)) h) x hx
theorem iL_len (xs : List Int) : (iL xs).length = xs.length := by simp [iL]
theorem rng_zero (n : Int) : rng 0 n = iL (upto n.toNat) := by
  simp only [rng, iL, upto, List.map_map, Int.sub_zero]
  apply List.map_congr_left
  intro i _
  simp
theorem mem_upto {n : Nat} {x : Int} (h : x ∈ upto n) : 0 ≤ x ∧ x < n := by
  simp only [upto, List.mem_map, List.mem_range] at h
  obtain ⟨i, h1, rfl⟩ := h
  omega
theorem len_upto (n : Nat) : (upto n).length = n := by simp [upto]
theorem at_last {xs : List D} {d : D} (h : xs.getLast? = some d) : at' xs (-1) = some d := by
  cases xs with
  | nil => cases h
  | cons a l =>
    have e1 : ix (a :: l).length (-1) = some l.length := by
      unfold ix
      rw [if_neg (by decide), if_pos (by simp only [List.length_cons]; omega)]
      simp only [List.length_cons]
      congr 1
      omega
    simp only [at', e1]
    rw [List.getLast?_eq_getElem?] at h
    simpa using h
theorem at_nat {xs : List D} {i : Int} {d : D} (h0 : 0 ≤ i) (h : xs[i.toNat]? = some d) : at' xs i = some d := by
  have hl : i.toNat < xs.length := by
    rcases Nat.lt_or_ge i.toNat xs.length with h1 | h1
    · exact h1
    · rw [List.getElem?_eq_none h1] at h; cases h
  have e1 : ix xs.length i = some i.toNat := by
    unfold ix
    rw [if_pos h0, if_pos (by omega)]
  simp only [at', e1, h]
theorem getLast_iL {xs : List Int} {i : Int} (h : xs.getLast? = some i) : (iL xs).getLast? = some (.int i) := by
  simp [iL, List.getLast?_map, h]
theorem ix_nat {n : Nat} {i : Int} (h0 : 0 ≤ i) (h : i < n) : ix n i = some i.toNat := by
  unfold ix; rw [if_pos h0, if_pos h]
theorem nin_ch : oNotIn (.str "charge") (.tup [.str "charge", .str "discharge"]) = some (.bl false) := by
  simp +decide [oNotIn, D.ok, D.pl, D.plL, D.dep, D.depL, D.eqv]
theorem nin_dis : oNotIn (.str "discharge") (.tup [.str "charge", .str "discharge"]) = some (.bl false) := by
  simp +decide [oNotIn, D.ok, D.pl, D.plL, D.dep, D.depL, D.eqv]
/-! ### the source of the draws -/
/-- what a source holds after at most n draws (begun at a turn below 100) -/
def Src (n : Nat) (s : List D) : Prop := ∃ a b t : Int, s = [.int a, .int b, .int t] ∧ 0 ≤ b ∧ b < 2147483579 ∧ 0 ≤ t ∧ t ≤ 100 + n
theorem Src.mono {n m : Nat} {s : List D} (h : Src n s) (l : n ≤ m) : Src m s := by
  obtain ⟨a, b, t, h0, h1, h2, h3, h4⟩ := h
  exact ⟨a, b, t, h0, h1, h2, h3, by omega⟩
/-! ### equal plain data -/
theorem eqv_refl_iL (xs : List Int) : D.eqvL (iL xs) (iL xs) = true := by
  induction xs with
  | nil => rfl
  | cons a l ih => simp only [iL, List.map, D.eqvL, D.eqv, beq_self_eq_true, Bool.true_and]; exact ih
end DL
namespace DL
open PySem
/-! ### plain data of bounded depth -/
def Wl : Nat → D → Prop
  | _, .non => True
  | _, .bl _ => True
  | _, .int _ => True
  | _, .str _ => True
  | n + 1, .lst xs => xs.length ≤ cap ∧ ∀ x ∈ xs, Wl n x
  | n + 1, .tup xs => xs.length ≤ cap ∧ ∀ x ∈ xs, Wl n x
  | _, _ => False
theorem Wl.pls : ∀ {xs : List D}, (∀ x ∈ xs, D.pl x = true) → D.plL xs = true
  | [], _ => rfl
  | x :: xs, h => by
    simp only [D.plL, h x (List.mem_cons_self ..), Bool.true_and]
    exact Wl.pls fun y hy => h y (List.mem_cons_of_mem _ hy)
theorem Wl.deps {n : Nat} : ∀ {xs : List D}, (∀ x ∈ xs, D.dep x ≤ n) → D.depL xs ≤ n
  | [], _ => Nat.zero_le _
  | x :: xs, h => by
    simp only [D.depL]
    exact Nat.max_le.mpr ⟨h x (List.mem_cons_self ..), Wl.deps fun y hy => h y (List.mem_cons_of_mem _ hy)⟩
theorem Wl.both : ∀ {n : Nat} {d : D}, Wl n d → D.pl d = true ∧ D.dep d ≤ n
  | n, .non, _ => ⟨by simp [D.pl], by simp [D.dep]⟩
  | n, .bl _, _ => ⟨by simp [D.pl], by simp [D.dep]⟩
  | n, .int _, _ => ⟨by simp [D.pl], by simp [D.dep]⟩
  | n, .str _, _ => ⟨by simp [D.pl], by simp [D.dep]⟩
  | n + 1, .lst xs, h => by
    simp only [D.pl, D.dep]
    exact ⟨Wl.pls fun x hx => (Wl.both (h.2 x hx)).1, Nat.succ_le_succ (Wl.deps fun x hx => (Wl.both (h.2 x hx)).2)⟩
  | n + 1, .tup xs, h => by
    simp only [D.pl, D.dep]
    exact ⟨Wl.pls fun x hx => (Wl.both (h.2 x hx)).1, Nat.succ_le_succ (Wl.deps fun x hx => (Wl.both (h.2 x hx)).2)⟩
  | 0, .lst _, h => h.elim
  | 0, .tup _, h => h.elim
  | 0, .dK _ _, h => h.elim
  | 0, .dT _ _, h => h.elim
  | n + 1, .dK _ _, h => h.elim
  | n + 1, .dT _ _, h => h.elim
theorem Wl.okd {n : Nat} {d : D} (h : Wl n d) (hn : n ≤ 60) : D.ok d = true := by
  obtain ⟨h1, h2⟩ := h.both
  simp only [D.ok, h1, Bool.true_and, decide_eq_true_eq]
  omega
theorem Wl.eqvs : ∀ {xs : List D}, (∀ x ∈ xs, D.eqv x x = true) → D.eqvL xs xs = true
  | [], _ => by simp [D.eqvL]
  | x :: xs, h => by
    simp only [D.eqvL, h x (List.mem_cons_self ..), Bool.true_and]
    exact Wl.eqvs fun y hy => h y (List.mem_cons_of_mem _ hy)
theorem Wl.refl : ∀ {n : Nat} {d : D}, Wl n d → D.eqv d d = true
  | n, .non, _ => by simp [D.eqv]
  | n, .bl _, _ => by simp [D.eqv]
  | n, .int _, _ => by simp [D.eqv]
  | n, .str _, _ => by simp [D.eqv]
  | n + 1, .lst xs, h => by simp only [D.eqv]; exact Wl.eqvs fun x hx => Wl.refl (h.2 x hx)
  | n + 1, .tup xs, h => by simp only [D.eqv]; exact Wl.eqvs fun x hx => Wl.refl (h.2 x hx)
  | 0, .lst _, h => h.elim
  | 0, .tup _, h => h.elim
  | 0, .dK _ _, h => h.elim
  | 0, .dT _ _, h => h.elim
  | n + 1, .dK _ _, h => h.elim
  | n + 1, .dT _ _, h => h.elim
theorem Wl.up : ∀ {n m : Nat} {d : D}, Wl n d → n ≤ m → Wl m d
  | n, m, .non, _, _ => by cases m <;> trivial
  | n, m, .bl _, _, _ => by cases m <;> trivial
  | n, m, .int _, _, _ => by cases m <;> trivial
  | n, m, .str _, _, _ => by cases m <;> trivial
  | n + 1, m + 1, .lst xs, h, l => ⟨h.1, fun x hx => Wl.up (h.2 x hx) (Nat.le_of_succ_le_succ l)⟩
  | n + 1, m + 1, .tup xs, h, l => ⟨h.1, fun x hx => Wl.up (h.2 x hx) (Nat.le_of_succ_le_succ l)⟩
  | n + 1, 0, .lst xs, h, l => absurd l (by omega)
  | n + 1, 0, .tup xs, h, l => absurd l (by omega)
  | 0, _, .lst _, h, _ => h.elim
  | 0, _, .tup _, h, _ => h.elim
  | 0, _, .dK _ _, h, _ => h.elim
  | 0, _, .dT _ _, h, _ => h.elim
  | n + 1, _, .dK _ _, h, _ => h.elim
  | n + 1, _, .dT _ _, h, _ => h.elim
theorem Wl.ints {xs : List Int} (h : xs.length ≤ cap) : Wl 1 (.tup (iL xs)) := by
  refine ⟨by rw [iL_len]; exact h, fun x hx => ?_⟩
  simp only [iL, List.mem_map] at hx
  obtain ⟨i, _, rfl⟩ := hx
  trivial
theorem Wl.intsL {xs : List Int} (h : xs.length ≤ cap) : Wl 1 (.lst (iL xs)) := Wl.ints h
theorem mem_enumD : ∀ {i : Nat} {xs : List D} {d : D}, d ∈ enumD i xs → ∃ k x, d = .tup [.int ((i + k : Nat) : Int), x] ∧ xs[k]? = some x
  | i, [], d, h => by simp [enumD] at h
  | i, x :: xs, d, h => by
    simp only [enumD, List.mem_cons] at h
    rcases h with rfl | h
    · exact ⟨0, x, rfl, rfl⟩
    · obtain ⟨k, y, rfl, hy⟩ := mem_enumD h
      exact ⟨k + 1, y, by congr 3; omega, by simpa using hy⟩
theorem len_enumD : ∀ (i : Nat) (xs : List D), (enumD i xs).length = xs.length
  | _, [] => rfl
  | i, x :: xs => by simp [enumD, len_enumD]
theorem x_eqR {Q : D → Prop} {n : Nat} {d : D} (h : Wl n d) (hn : n ≤ 60) (q : Q (.bl true)) : ∃ z, oEq d d = some z ∧ Q z :=
  x_eqD (h.okd hn) (h.okd hn) (by rw [h.refl]; exact q)
theorem x_neR {Q : D → Prop} {n : Nat} {d : D} (h : Wl n d) (hn : n ≤ 60) (q : Q (.bl false)) : ∃ z, oNe d d = some z ∧ Q z :=
  x_neD (h.okd hn) (h.okd hn) (by rw [h.refl]; exact q)
end DL
namespace DL
open PySem
theorem cells_ints (ns : List Int) (k : Int) : ∃ ms : List Int, cut ([D.int 0] ++ iL ns) none (some k) = iL ms := by
  refine ⟨((0 :: ns).drop 0).take (six (iL ns).length.succ (iL ns).length.succ (some k)), ?_⟩
  simp [cut, iL, six]
theorem cap_lt {n : Nat} (h : n ≤ 1000000) : n ≤ cap := Nat.le_trans h (by decide)
theorem iL_cons_inv {d : D} {ds : List D} {ms : List Int} (h : d :: ds = iL ms) : ∃ i r, d = .int i ∧ ds = iL r ∧ ms = i :: r := by
  cases ms with
  | nil => simp [iL] at h
  | cons i r => simp only [iL, List.map, List.cons.injEq] at h; exact ⟨i, r, h.1, h.2, rfl⟩
end DL
namespace DL
open PySem
theorem ints_iL : ∀ xs : List Int, D.ints (iL xs) = some xs
  | [] => rfl
  | i :: r => by
    show D.ints (.int i :: iL r) = _
    simp only [D.ints, ints_iL r]
theorem x_sum {Q : D → Prop} {xs : List Int} (q : Q (.int xs.sum)) : ∃ z, fSum [.lst (iL xs)] = some z ∧ Q z := ⟨_, by simp only [fSum, ints_iL], q⟩
theorem filter_iL (tb : D → Bool) (xs : List Int) : (iL xs).filter tb = iL (xs.filter fun i => tb (.int i)) := by
  simp only [iL, List.filter_map]; rfl
theorem map_iL (g : D → D) (f : Int → Int) (h : ∀ i, g (.int i) = .int (f i)) (xs : List Int) : (iL xs).map g = iL (xs.map f) := by
  simp only [iL, List.map_map]
  apply List.map_congr_left
  intro i _
  exact h i
/-! ### what is charged and discharged -/
/-- neighbouring levels -/
def prs : List Cm → Int → List (Int × Int)
  | [], _ => []
  | c :: s, l => (l, aft l c) :: prs s (aft l c)
def pD (p : Int × Int) : D := .tup [.int p.1, .int p.2]
theorem zip_lvs : ∀ (s : List Cm) (l : Int), zipD (iL (lvs s l)) ((iL (lvs s l)).drop 1) = (prs s l).map pD
  | [], l => rfl
  | c :: s, l => by
    have ih := zip_lvs s (aft l c)
    cases s with
    | nil => rfl
    | cons c2 s => 
      simp only [lvs, iL, List.map, List.drop, zipD, prs] at ih ⊢
      rw [← ih]
      rfl
theorem len_prs : ∀ (s : List Cm) (l : Int), (prs s l).length = s.length
  | [], _ => rfl
  | c :: s, l => by simp [prs, len_prs]
def upS : List Cm → Int → Int
  | [], _ => 0
  | c :: s, l => max 0 (aft l c - l) + upS s (aft l c)
def dnS : List Cm → Int → Int
  | [], _ => 0
  | c :: s, l => max 0 (l - aft l c) + dnS s (aft l c)
theorem up_dn : ∀ (s : List Cm) (l : Int), dnS s l = upS s l + l - fin s l
  | [], l => by simp [dnS, upS, fin]
  | c :: s, l => by
    have ih := up_dn s (aft l c)
    have e : fin (c :: s) l = fin s (aft l c) := rfl
    simp only [dnS, upS, e]
    omega
theorem aft_one {l : Int} {c : Cm} (h : 0 ≤ c.am) : (aft (l + 1) c = aft l c + 1 ∧ max 0 (aft (l + 1) c - (l + 1)) = max 0 (aft l c - l) ∧ max 0 ((l + 1) - aft (l + 1) c) = max 0 (l - aft l c)) ∨
    (aft (l + 1) c = aft l c ∧ max 0 (aft (l + 1) c - (l + 1)) = max 0 (aft l c - l) - 1 ∧ max 0 ((l + 1) - aft (l + 1) c) = max 0 (l - aft l c)) ∨
    (aft (l + 1) c = aft l c ∧ max 0 (aft (l + 1) c - (l + 1)) = max 0 (aft l c - l) ∧ max 0 ((l + 1) - aft (l + 1) c) = max 0 (l - aft l c) + 1) := by
  obtain ⟨ch, a, m⟩ := c
  simp only at h
  cases ch
  · simp only [aft, if_neg Bool.false_ne_true]
    split <;> split <;> omega
  · simp only [aft, if_true]
    split <;> split <;> omega
theorem tot_one : ∀ {s : List Cm} {l : Int}, (∀ c ∈ s, 0 ≤ c.am) →
    (upS s (l + 1) = upS s l ∧ dnS s (l + 1) = dnS s l ∧ fin s (l + 1) = fin s l + 1) ∨
    (upS s (l + 1) = upS s l - 1 ∧ dnS s (l + 1) = dnS s l ∧ fin s (l + 1) = fin s l) ∨
    (upS s (l + 1) = upS s l ∧ dnS s (l + 1) = dnS s l + 1 ∧ fin s (l + 1) = fin s l)
  | [], l, _ => by simp [upS, dnS, fin]
  | c :: s, l, h => by
    have ih := tot_one (s := s) (l := aft l c) fun x hx => h x (List.mem_cons_of_mem _ hx)
    have e : ∀ z, fin (c :: s) z = fin s (aft z c) := fun _ => rfl
    simp only [dnS, upS, e]
    rcases aft_one (l := l) (h c (List.mem_cons_self ..)) with ⟨h1, h2, h3⟩ | ⟨h1, h2, h3⟩ | ⟨h1, h2, h3⟩
    · rw [h2, h3, h1]; omega
    · rw [h2, h3, h1]; omega
    · rw [h2, h3, h1]; omega
theorem sum_up : ∀ (s : List Cm) (l : Int), ((prs s l).map fun p => max 0 (p.2 - p.1)).sum = upS s l
  | [], _ => rfl
  | c :: s, l => by simp only [prs, List.map, List.sum_cons, upS, sum_up s]
theorem sum_pos : ∀ (s : List Cm) (l : Int), (((prs s l).map fun p => p.2 - p.1).filter fun i => decide (0 < i)).sum = upS s l
  | [], _ => rfl
  | c :: s, l => by
    simp only [prs, List.map, upS, List.filter]
    by_cases h : 0 < aft l c - l
    · simp only [h, decide_true, List.sum_cons, sum_pos s]; omega
    · simp only [h, decide_false, sum_pos s]; omega
theorem sum_neg : ∀ (s : List Cm) (l : Int), - (((prs s l).map fun p => p.2 - p.1).filter fun i => decide (i < 0)).sum = dnS s l
  | [], _ => rfl
  | c :: s, l => by
    have ih := sum_neg s (aft l c)
    simp only [prs, List.map, dnS, List.filter]
    by_cases h : aft l c - l < 0
    · simp only [h, decide_true, List.sum_cons]; omega
    · simp only [h, decide_false]; omega
end DL

namespace DL.k04
open PySem DL
/- slots of is_between: 0 value 1 low 2 high -/
def c_is_between : Ms :=
  (sRet (mAnd (mIsi .int (mVar 0)) (mAnd (mNot (mIsi .bool (mVar 0))) (mChain oLe oLe (mVar 1) (mVar 0) (mVar 2)))))
def f_is_between : List D → Option D := runD 3 3 c_is_between
/- slots of check_capacity: 0 capacity -/
def c_check_capacity : Ms :=
  (sIf (DL.tNot (tVal (mF f_is_between (mCons (mVar 0) (mCons (mC (.int 1)) (mCons (mC (.int 60)) mNil))))))
  sNever
  sPass)
def f_check_capacity : List D → Option D := runD 1 1 c_check_capacity
/- slots of check_level: 0 capacity 1 level -/
def c_check_level : Ms :=
  (sIf (DL.tNot (tVal (mF f_is_between (mCons (mVar 1) (mCons (mC (.int 0)) (mCons (mVar 0) mNil))))))
  sNever
  sPass)
def f_check_level : List D → Option D := runD 2 2 c_check_level
/- slots of is_command: 0 capacity 1 value -/
def c_is_command : Ms :=
  (sSeq (sIf (DL.tOr (DL.tNot (tVal (mIsi .tuple (mVar 1)))) (DL.tOr (tVal (mBin oNe (mF fLen (mCons (mVar 1) mNil)) (mC (.int 3)))) (DL.tNot (tVal (mIsi .str (mBin oIx (mVar 1) (mC (.int 0))))))))
  (sRet (mC (.bl false)))
  sPass)
  (sSeq (sIf (tVal (mBin oNotIn (mBin oIx (mVar 1) (mC (.int 0))) (mTup (mCons (mC (.str "charge")) (mCons (mC (.str "discharge")) mNil)))))
  (sRet (mC (.bl false)))
  sPass)
  (sRet (mAnd (mF f_is_between (mCons (mBin oIx (mVar 1) (mC (.int 1))) (mCons (mC (.int 1)) (mCons (mC (.int 60)) mNil)))) (mF f_is_between (mCons (mBin oIx (mVar 1) (mC (.int 2))) (mCons (mC (.int 0)) (mCons (mVar 0) mNil))))))))
def f_is_command : List D → Option D := runD 2 2 c_is_command
/- slots of are_commands: 0 capacity 1 value 2 command -/
def c_are_commands : Ms :=
  (sSeq (sIf (DL.tOr (DL.tNot (tVal (mIsi .tuple (mVar 1)))) (tVal (mBin oGt (mF fLen (mCons (mVar 1) mNil)) (mC (.int 60)))))
  (sRet (mC (.bl false)))
  sPass)
  (sRet (mF fAll (mCons (mFr (mComp [2] (iSeq (mVar 1)) (pN 2) tYes (mF f_is_command (mCons (mVar 0) (mCons (mVar 2) mNil))))) mNil))))
def f_are_commands : List D → Option D := runD 2 3 c_are_commands
/- slots of check_schedule: 0 capacity 1 schedule -/
def c_check_schedule : Ms :=
  (sIf (DL.tNot (tVal (mF f_are_commands (mCons (mVar 0) (mCons (mVar 1) mNil)))))
  sNever
  sPass)
def f_check_schedule : List D → Option D := runD 2 2 c_check_schedule
/- slots of after: 0 level 1 command 2 kind 3 amount 4 limit -/
def c_after : Ms :=
  (sSeq (sSet (pT [(pN 2), (pN 3), (pN 4)]) (mVar 1))
  (sSeq (sIf (tVal (mBin oEq (mVar 2) (mC (.str "charge"))))
  (sRet (mIf (tVal (mBin oGe (mVar 0) (mVar 4))) (mVar 0) (mF fMin (mCons (mBin oAdd (mVar 0) (mVar 3)) (mCons (mVar 4) mNil)))))
  sPass)
  (sRet (mIf (tVal (mBin oLe (mVar 0) (mVar 4))) (mVar 0) (mF fMax (mCons (mBin oSub (mVar 0) (mVar 3)) (mCons (mVar 4) mNil)))))))
def f_after : List D → Option D := runD 2 5 c_after
/- slots of levels_from: 0 schedule 1 start 2 found 3 command -/
def c_levels_from : Ms :=
  (sSeq (sNew 2 (mLst (mCons (mVar 1) mNil)))
  (sSeq (sFor (iSeq (mVar 0)) (pN 3)
  (sApp 2 (mF f_after (mCons (mOIx 2 (mUn oNeg (mC (.int 1)))) (mCons (mVar 3) mNil)))))
  (sRetO 2)))
def f_levels_from : List D → Option (List D) := runN 2 4 c_levels_from
/- slots of sums_from: 0 schedule 1 start 2 rows 3 changes 4 first 5 second 6 change -/
def c_sums_from : Ms :=
  (sSeq (sSet (pN 2) (mFr (mFN f_levels_from (mCons (mVar 0) (mCons (mVar 1) mNil)))))
  (sSeq (sSet (pN 3) (mFr (mComp [4, 5] (iZip (mVar 2) (mSlice (mVar 2) (mPart (mC (.int 1))) mNoPart)) (pT [(pN 4), (pN 5)]) tYes (mBin oSub (mVar 5) (mVar 4)))))
  (sRet (mTup (mCons (mF fSum (mCons (mFr (mComp [6] (iSeq (mVar 3)) (pN 6) (tVal (mBin oGt (mVar 6) (mC (.int 0)))) (mVar 6))) mNil)) (mCons (mUn oNeg (mF fSum (mCons (mFr (mComp [6] (iSeq (mVar 3)) (pN 6) (tVal (mBin oLt (mVar 6) (mC (.int 0)))) (mVar 6))) mNil))) mNil))))))
def f_sums_from : List D → Option D := runD 2 7 c_sums_from
/- slots of totals: 0 capacity 1 schedule 2 start -/
def c_totals : Ms :=
  (sSeq (sExpr (mF f_check_capacity (mCons (mVar 0) mNil)))
  (sSeq (sExpr (mF f_check_schedule (mCons (mVar 0) (mCons (mVar 1) mNil))))
  (sSeq (sExpr (mF f_check_level (mCons (mVar 0) (mCons (mVar 2) mNil))))
  (sRet (mF f_sums_from (mCons (mVar 1) (mCons (mVar 2) mNil)))))))
def f_totals : List D → Option D := runD 3 3 c_totals
/- slots of law_source: 0 cell 1 turn -/
def c_law_source : Ms :=
  (sSeq (sIf (tVal (mBin oGe (mVar 0) (mBin oPow (mC (.int 10)) (mC (.int 18)))))
  (sRetN (mLst (mCons (mBin oSub (mVar 0) (mBin oPow (mC (.int 10)) (mC (.int 18)))) (mCons (mBin oMod (mVar 0) (mC (.int 2147483579))) (mCons (mVar 1) mNil)))))
  sPass)
  (sRetN (mLst (mCons (mC (.int 0)) (mCons (mBin oMod (mVar 0) (mC (.int 2147483579))) (mCons (mVar 1) mNil))))))
def f_law_source : List D → Option (List D) := runN 2 2 c_law_source
/- slots of law_draw: 0 source 1 size 2 drawn 3 number -/
def c_law_draw : Ms :=
  (sSeq (sIf (tVal (mBin oGt (mOIx 0 (mC (.int 0))) (mC (.int 1))))
  (sSeq (sSet (pN 2) (mBin oMod (mOIx 0 (mC (.int 0))) (mVar 1)))
  (sSeq (sOSet 0 (mC (.int 0)) (mBin oDiv (mOIx 0 (mC (.int 0))) (mVar 1)))
  (sRet (mVar 2))))
  sPass)
  (sSeq (sOSet 0 (mC (.int 2)) (mBin oAdd (mOIx 0 (mC (.int 2))) (mC (.int 1))))
  (sSeq (sSet (pN 3) (mBin oMod (mBin oPow (mBin oAdd (mOIx 0 (mC (.int 1))) (mBin oMul (mC (.int 15485867)) (mOIx 0 (mC (.int 2))))) (mC (.int 5))) (mC (.int 2147483647))))
  (sSeq (sSet (pN 2) (mBin oDiv (mBin oMod (mBin oPow (mBin oAdd (mVar 3) (mBin oMul (mC (.int 7919)) (mOIx 0 (mC (.int 2))))) (mC (.int 3))) (mC (.int 2147483629))) (mC (.int 32))))
  (sRet (mBin oMod (mVar 2) (mVar 1)))))))
def f_law_draw : List D → List D → Option (D × List D) := runI 2 4 c_law_draw
/- slots of law_choice: 0 source 1 items -/
def c_law_choice : Ms :=
  (sRet (mBin oIx (mVar 1) (mFI f_law_draw 0 (mCons (mF fLen (mCons (mVar 1) mNil)) mNil))))
def f_law_choice : List D → List D → Option (D × List D) := runI 2 2 c_law_choice
/- slots of law_kind: 0 value -/
def c_law_kind : Ms :=
  (sSeq (sIf (tVal (mIsi .bool (mVar 0)))
  (sRet (mC (.int 1)))
  sPass)
  (sSeq (sIf (tVal (mIsi .int (mVar 0)))
  (sRet (mC (.int 2)))
  sPass)
  (sSeq (sIf (tVal (mIsi .str (mVar 0)))
  (sRet (mC (.int 3)))
  sPass)
  (sSeq (sIf (tVal (mIsi .list (mVar 0)))
  (sRet (mC (.int 4)))
  sPass)
  (sRet (mIf (tVal (mIsi .tuple (mVar 0))) (mC (.int 5)) (mC (.int 6))))))))
def f_law_kind : List D → Option D := runD 1 1 c_law_kind
/- slots of law_equal: 0 value 1 expected 2 k 3 part -/
def c_law_equal (f : List D → Option D) : Ms :=
  (sSeq (sIf (tVal (mBin oNe (mF f_law_kind (mCons (mVar 0) mNil)) (mF f_law_kind (mCons (mVar 1) mNil))))
  (sRet (mC (.bl false)))
  sPass)
  (sSeq (sIf (DL.tAnd (tVal (mBin oGt (mF f_law_kind (mCons (mVar 0) mNil)) (mC (.int 3)))) (tVal (mBin oLt (mF f_law_kind (mCons (mVar 0) mNil)) (mC (.int 6)))))
  (sSeq (sIf (tVal (mBin oNe (mF fLen (mCons (mVar 0) mNil)) (mF fLen (mCons (mVar 1) mNil))))
  (sRet (mC (.bl false)))
  sPass)
  (sRet (mBin oEq (mFr (mComp [2, 3] (iEnum (mVar 0)) (pT [(pN 2), (pN 3)]) (DL.tNot (tVal (mF f (mCons (mVar 3) (mCons (mBin oIx (mVar 1) (mVar 2)) mNil))))) (mVar 2))) (mFr (mLst mNil)))))
  sPass)
  (sRet (mBin oEq (mVar 0) (mVar 1)))))
def f_law_equal : Nat → (List D → Option D)
  | 0 => fun _ => none
  | n + 1 => runD 2 4 (c_law_equal (f_law_equal n))
/- slots of law_schedule: 0 source 1 capacity 2 most 3 commands 4 wide 5 turn 6 limit 7 kind -/
def c_law_schedule : Ms :=
  (sSeq (sNew 3 (mLst mNil))
  (sSeq (sSet (pN 4) (mFI f_law_choice 0 (mCons (mFr (mLst (mCons (mC (.int 2)) (mCons (mF fMax (mCons (mC (.int 2)) (mCons (mBin oDiv (mVar 1) (mC (.int 3))) mNil))) (mCons (mVar 1) (mCons (mC (.int 60)) mNil)))))) mNil)))
  (sSeq (sFor (iRng (mC (.int 0)) (mFI f_law_draw 0 (mCons (mBin oAdd (mVar 2) (mC (.int 1))) mNil))) (pN 5)
  (sSeq (sSet (pN 6) (mFI f_law_choice 0 (mCons (mFr (mLst (mCons (mFI f_law_draw 0 (mCons (mBin oAdd (mVar 1) (mC (.int 1))) mNil)) (mCons (mFI f_law_draw 0 (mCons (mBin oAdd (mVar 1) (mC (.int 1))) mNil)) (mCons (mC (.int 0)) (mCons (mVar 1) mNil)))))) mNil)))
  (sSeq (sSet (pN 7) (mFI f_law_choice 0 (mCons (mFr (mLst (mCons (mC (.str "charge")) (mCons (mC (.str "discharge")) mNil)))) mNil)))
  (sApp 3 (mTup (mCons (mVar 7) (mCons (mBin oAdd (mC (.int 1)) (mFI f_law_draw 0 (mCons (mVar 4) mNil))) (mCons (mVar 6) mNil))))))))
  (sFrz 3 (sRet (mF fTuple (mCons (mVar 3) mNil)))))))
def f_law_schedule : List D → List D → Option (D × List D) := runI 3 8 c_law_schedule
/- slots of law_after: 0 level 1 command 2 kind 3 amount 4 limit -/
def c_law_after : Ms :=
  (sSeq (sSet (pT [(pN 2), (pN 3), (pN 4)]) (mVar 1))
  (sSeq (sIf (tVal (mBin oEq (mVar 2) (mC (.str "charge"))))
  (sRet (mF fMax (mCons (mVar 0) (mCons (mF fMin (mCons (mBin oAdd (mVar 0) (mVar 3)) (mCons (mVar 4) mNil))) mNil))))
  sPass)
  (sRet (mF fMin (mCons (mVar 0) (mCons (mF fMax (mCons (mBin oSub (mVar 0) (mVar 3)) (mCons (mVar 4) mNil))) mNil))))))
def f_law_after : List D → Option D := runD 2 5 c_law_after
/- slots of law_levels: 0 schedule 1 start 2 found 3 command -/
def c_law_levels : Ms :=
  (sSeq (sNew 2 (mLst (mCons (mVar 1) mNil)))
  (sSeq (sFor (iSeq (mVar 0)) (pN 3)
  (sApp 2 (mF f_law_after (mCons (mOIx 2 (mUn oNeg (mC (.int 1)))) (mCons (mVar 3) mNil)))))
  (sRetO 2)))
def f_law_levels : List D → Option (List D) := runN 2 4 c_law_levels
/- slots of law: 0 script 1 cell 2 source 3 capacity 4 schedule 5 rows 6 start 7 found 8 up 9 result 10 one 11 other 12 change -/
def c_law : Ms :=
  (sSeq (sFor (iSeq (mFr (mNew (mSlice (mFr (mNew (mBin oAdd (mFr (mLst (mCons (mC (.int 0)) mNil))) (mVar 0)))) mNoPart (mPart (mC (.int 10))))))) (pN 1)
  (sSeq (sNew 2 (mFN f_law_source (mCons (mVar 1) (mCons (mC (.int 4)) mNil))))
  (sSeq (sSet (pN 3) (mBin oAdd (mC (.int 1)) (mFI f_law_draw 2 (mCons (mFI f_law_choice 2 (mCons (mFr (mLst (mCons (mC (.int 4)) (mCons (mC (.int 20)) (mCons (mC (.int 60)) mNil))))) mNil)) mNil))))
  (sSeq (sSet (pN 4) (mFI f_law_schedule 2 (mCons (mVar 3) (mCons (mC (.int 60)) mNil))))
  (sSeq (sNew 5 (mLst mNil))
  (sSeq (sFor (iRng (mC (.int 0)) (mBin oAdd (mVar 3) (mC (.int 1)))) (pN 6)
  (sSeq (sSet (pN 7) (mFr (mFN f_law_levels (mCons (mVar 4) (mCons (mVar 6) mNil)))))
  (sSeq (sSet (pN 8) (mF fSum (mCons (mFr (mComp [10, 11] (iZip (mVar 7) (mSlice (mVar 7) (mPart (mC (.int 1))) mNoPart)) (pT [(pN 10), (pN 11)]) tYes (mF fMax (mCons (mC (.int 0)) (mCons (mBin oSub (mVar 11) (mVar 10)) mNil))))) mNil)))
  (sSeq (sSet (pN 9) (mF f_totals (mCons (mVar 3) (mCons (mVar 4) (mCons (mVar 6) mNil)))))
  (sSeq (sIf (DL.tNot (tVal (mF (f_law_equal 12) (mCons (mVar 9) (mCons (mTup (mCons (mVar 8) (mCons (mBin oSub (mBin oAdd (mVar 8) (mVar 6)) (mBin oIx (mVar 7) (mUn oNeg (mC (.int 1))))) mNil))) mNil)))))
  (sRet (mC (.bl false)))
  sPass)
  (sApp 5 (mBin oAdd (mVar 9) (mTup (mCons (mBin oIx (mVar 7) (mUn oNeg (mC (.int 1)))) mNil)))))))))
  (sFrz 5 (sFor (iZip (mVar 5) (mSlice (mVar 5) (mPart (mC (.int 1))) mNoPart)) (pT [(pN 10), (pN 11)])
  (sSeq (sSet (pN 12) (mTup (mCons (mBin oSub (mBin oIx (mVar 11) (mC (.int 0))) (mBin oIx (mVar 10) (mC (.int 0)))) (mCons (mBin oSub (mBin oIx (mVar 11) (mC (.int 1))) (mBin oIx (mVar 10) (mC (.int 1)))) (mCons (mBin oSub (mBin oIx (mVar 11) (mC (.int 2))) (mBin oIx (mVar 10) (mC (.int 2)))) mNil)))))
  (sIf (tVal (mBin oNotIn (mVar 12) (mTup (mCons (mTup (mCons (mC (.int 0)) (mCons (mC (.int 0)) (mCons (mC (.int 1)) mNil)))) (mCons (mTup (mCons (mUn oNeg (mC (.int 1))) (mCons (mC (.int 0)) (mCons (mC (.int 0)) mNil)))) (mCons (mTup (mCons (mC (.int 0)) (mCons (mC (.int 1)) (mCons (mC (.int 0)) mNil)))) mNil))))))
  (sRet (mC (.bl false)))
  sPass))))))))))
  (sRet (mBin oEq (mF f_totals (mCons (mC (.int 10)) (mCons (mTup (mCons (mTup (mCons (mC (.str "charge")) (mCons (mC (.int 4)) (mCons (mC (.int 8)) mNil)))) (mCons (mTup (mCons (mC (.str "discharge")) (mCons (mC (.int 5)) (mCons (mC (.int 2)) mNil)))) mNil))) (mCons (mC (.int 6)) mNil)))) (mTup (mCons (mC (.int 2)) (mCons (mC (.int 5)) mNil))))))
def f_law : List D → Option D := runD 1 13 c_law
end DL.k04

namespace DL.k04
open PySem DL
theorem is_between_eq (v a b : Int) : f_is_between [.int v, .int a, .int b] = some (.bl (decide (a ≤ v) && decide (v ≤ b))) := by
  refine run_D (e := [.im (.int v), .im (.int a), .im (.int b)]) rfl rfl ?_
  unfold c_is_between
  (repeat' (first | ((with_reducible refine c_decT ?_ ?_); · first | decide | rfl) | ((with_reducible refine c_decF ?_ ?_); · decide) | (with_reducible refine c_dec (fun h => ?_) (fun h => ?_)) | with_reducible refine w_seq ?_ | ((with_reducible apply w_var); · rfl) | with_reducible refine w_setN ?_ | with_reducible refine w_snew ?_ | with_reducible refine w_C ?_ | with_reducible refine w_bin ?_ | with_reducible refine w_un ?_ | with_reducible refine w_isi ?_ | with_reducible refine w_isi2 ?_ | with_reducible refine w_chain ?_ | with_reducible refine w_if ?_ | with_reducible refine w_nil ?_ | with_reducible refine w_cons ?_ | with_reducible refine w_F ?_ | with_reducible refine w_Fb ?_ | with_reducible refine w_FN ?_ | with_reducible refine w_noPart ?_ | with_reducible refine w_slice ?_ | with_reducible refine w_val ?_ | with_reducible refine w_tAnd ?_ | with_reducible refine w_tOr ?_ | with_reducible refine w_tNot ?_ | with_reducible refine w_tYes ?_ | with_reducible refine w_and ?_ | with_reducible refine w_or ?_ | with_reducible refine w_not ?_ | with_reducible refine w_iRng ?_ | with_reducible refine w_iRngD ?_ | with_reducible refine w_iZip ?_ | with_reducible refine w_fr ?_ | with_reducible refine w_tupL ?_ | with_reducible refine w_im ?_ | with_reducible refine w_ow ?_ | with_reducible refine w_set ?_ | with_reducible refine w_par ?_ | with_reducible refine w_expr ?_ | with_reducible refine w_ret ?_ | with_reducible refine w_retN ?_ | with_reducible refine w_pass ?_ | with_reducible refine w_break ?_ | with_reducible refine w_cont ?_ | with_reducible refine w_seq ?_ | with_reducible refine w_sif ?_ | with_reducible refine x_add ?_ | with_reducible refine x_addI ?_ | with_reducible refine x_sub ?_ | with_reducible refine x_neg ?_ | with_reducible refine x_lt ?_ | with_reducible refine x_le ?_ | with_reducible refine x_gt ?_ | with_reducible refine x_ge ?_ | with_reducible refine x_eqS ?_ | with_reducible refine x_eq ?_ | with_reducible refine x_ne ?_ | with_reducible refine x_isN ?_ | with_reducible refine x_notN ?_ | with_reducible refine x_isB ?_ | with_reducible refine x_notB ?_ | with_reducible refine x_lenL ?_ | with_reducible refine x_lenT ?_ | with_reducible refine x_max2 ?_ | with_reducible refine x_min2 ?_ | with_reducible refine x_abs ?_ | with_reducible refine x_tupleL ?_ | with_reducible refine x_tupleT ?_ | with_reducible refine x_partL ?_ | with_reducible refine x_partT ?_ | with_reducible refine x_listL ?_ | with_reducible refine x_listT ?_ | with_reducible refine x_iii ?_ | with_reducible refine x_ibi ?_ | with_reducible refine x_iss ?_ | with_reducible refine x_itt ?_ | with_reducible refine x_ill ?_ | with_reducible refine c_true ?_ | with_reducible refine c_false ?_ | with_reducible refine c_nt ?_ | with_reducible refine c_nf ?_ | with_reducible refine c_not ?_ | ((with_reducible apply w_FI); · rfl) | ((with_reducible apply w_oIx); · rfl) | ((with_reducible apply w_oLen); · rfl) | ((with_reducible apply w_oBin); · rfl) | ((with_reducible apply w_consO); · rfl) | ((with_reducible apply w_aug); · rfl) | ((with_reducible apply w_app); · rfl) | ((with_reducible apply w_oset); · rfl) | ((with_reducible apply w_ext); · rfl) | ((with_reducible apply w_retO); · rfl) | ((with_reducible apply w_frz); · rfl) | ((with_reducible apply e_ow); · rfl) | with_reducible refine e_bl ?_ | with_reducible refine e_int ?_ | with_reducible refine e_lst ?_ | with_reducible refine e_tup ?_ | with_reducible refine e_seqL ?_ | with_reducible refine e_seqT ?_ | with_reducible refine e_zipL ?_ | with_reducible refine e_zipT ?_ | with_reducible refine w_partI ?_ | with_reducible refine w_iSeq ?_ | with_reducible refine w_iEnum ?_ | with_reducible refine w_new ?_ | with_reducible refine w_rev ?_ | with_reducible refine w_revT ?_ | with_reducible refine w_slice ?_ | with_reducible refine y_le ?_ | with_reducible refine y_lt ?_ | with_reducible refine y_ge ?_ | with_reducible refine y_gt ?_ | ((with_reducible apply x_ixT); · rfl) | ((with_reducible apply x_ixL); · rfl) | ((with_reducible apply e_at); · rfl) | ((with_reducible apply x_mul); · rfl) | ((with_reducible apply e_ix); · rfl) | ((with_reducible apply x_div); · decide) | ((with_reducible apply x_mod); · decide) | with_reducible refine w_lst ?_ | with_reducible refine w_tup ?_ | ((with_reducible apply e_cap); · exact Nat.le_of_ble_eq_true rfl) | ((with_reducible apply e_set); · (simp only [List.set_cons_zero, List.set_cons_succ]; rfl)) | ((with_reducible apply e_setL); (· rfl); (· (simp only [List.set_cons_zero, List.set_cons_succ]; rfl))) | ((with_reducible apply e_par); (· rfl); (· (simp only [List.set_cons_zero, List.set_cons_succ]; rfl))) | ((with_reducible apply e_par3); (· rfl); (· (simp only [List.set_cons_zero, List.set_cons_succ]; rfl))) | ((with_reducible apply e_pt); (· rfl); (· (simp only [List.set_cons_zero, List.set_cons_succ]; rfl))) | ((with_reducible apply e_pT); · (simp only [pTs, pN, List.length_cons, List.length_nil, List.set_cons_zero, List.set_cons_succ, Nat.reduceAdd, Nat.reduceLT, ite_true, Option.some.injEq]; rfl))))
  all_goals (simp_all; try omega)
theorem is_between_yes {v a b : Int} (h : a ≤ v ∧ v ≤ b) : f_is_between [.int v, .int a, .int b] = some (.bl true) := by
  rw [is_between_eq]; simp [h.1, h.2]
theorem check_capacity_eq {c : Int} (h : Cok c) : f_check_capacity [.int c] = some .non := by
  refine run_D (e := [.im (.int c)]) rfl rfl ?_
  unfold c_check_capacity
  (repeat' (first | ((with_reducible refine c_decT ?_ ?_); · first | decide | rfl) | ((with_reducible refine c_decF ?_ ?_); · decide) | with_reducible refine w_seq ?_ | ((with_reducible apply w_var); · rfl) | with_reducible refine w_setN ?_ | with_reducible refine w_snew ?_ | with_reducible refine w_C ?_ | with_reducible refine w_bin ?_ | with_reducible refine w_un ?_ | with_reducible refine w_isi ?_ | with_reducible refine w_isi2 ?_ | with_reducible refine w_chain ?_ | with_reducible refine w_if ?_ | with_reducible refine w_nil ?_ | with_reducible refine w_cons ?_ | with_reducible refine w_F ?_ | with_reducible refine w_Fb ?_ | with_reducible refine w_FN ?_ | with_reducible refine w_noPart ?_ | with_reducible refine w_slice ?_ | with_reducible refine w_val ?_ | with_reducible refine w_tAnd ?_ | with_reducible refine w_tOr ?_ | with_reducible refine w_tNot ?_ | with_reducible refine w_tYes ?_ | with_reducible refine w_and ?_ | with_reducible refine w_or ?_ | with_reducible refine w_not ?_ | with_reducible refine w_iRng ?_ | with_reducible refine w_iRngD ?_ | with_reducible refine w_iZip ?_ | with_reducible refine w_fr ?_ | with_reducible refine w_tupL ?_ | with_reducible refine w_im ?_ | with_reducible refine w_ow ?_ | with_reducible refine w_set ?_ | with_reducible refine w_par ?_ | with_reducible refine w_expr ?_ | with_reducible refine w_ret ?_ | with_reducible refine w_retN ?_ | with_reducible refine w_pass ?_ | with_reducible refine w_break ?_ | with_reducible refine w_cont ?_ | with_reducible refine w_seq ?_ | with_reducible refine w_sif ?_ | with_reducible refine x_add ?_ | with_reducible refine x_addI ?_ | with_reducible refine x_sub ?_ | with_reducible refine x_neg ?_ | with_reducible refine x_lt ?_ | with_reducible refine x_le ?_ | with_reducible refine x_gt ?_ | with_reducible refine x_ge ?_ | with_reducible refine x_eqS ?_ | with_reducible refine x_eq ?_ | with_reducible refine x_ne ?_ | with_reducible refine x_isN ?_ | with_reducible refine x_notN ?_ | with_reducible refine x_isB ?_ | with_reducible refine x_notB ?_ | with_reducible refine x_lenL ?_ | with_reducible refine x_lenT ?_ | with_reducible refine x_max2 ?_ | with_reducible refine x_min2 ?_ | with_reducible refine x_abs ?_ | with_reducible refine x_tupleL ?_ | with_reducible refine x_tupleT ?_ | with_reducible refine x_partL ?_ | with_reducible refine x_partT ?_ | with_reducible refine x_listL ?_ | with_reducible refine x_listT ?_ | with_reducible refine x_iii ?_ | with_reducible refine x_ibi ?_ | with_reducible refine x_iss ?_ | with_reducible refine x_itt ?_ | with_reducible refine x_ill ?_ | with_reducible refine c_true ?_ | with_reducible refine c_false ?_ | with_reducible refine c_nt ?_ | with_reducible refine c_nf ?_ | with_reducible refine c_not ?_ | ((with_reducible apply w_FI); · rfl) | ((with_reducible apply w_oIx); · rfl) | ((with_reducible apply w_oLen); · rfl) | ((with_reducible apply w_oBin); · rfl) | ((with_reducible apply w_consO); · rfl) | ((with_reducible apply w_aug); · rfl) | ((with_reducible apply w_app); · rfl) | ((with_reducible apply w_oset); · rfl) | ((with_reducible apply w_ext); · rfl) | ((with_reducible apply w_retO); · rfl) | ((with_reducible apply w_frz); · rfl) | ((with_reducible apply e_ow); · rfl) | with_reducible refine e_bl ?_ | with_reducible refine e_int ?_ | with_reducible refine e_lst ?_ | with_reducible refine e_tup ?_ | with_reducible refine e_seqL ?_ | with_reducible refine e_seqT ?_ | with_reducible refine e_zipL ?_ | with_reducible refine e_zipT ?_ | with_reducible refine w_partI ?_ | with_reducible refine w_iSeq ?_ | with_reducible refine w_iEnum ?_ | with_reducible refine w_new ?_ | with_reducible refine w_rev ?_ | with_reducible refine w_revT ?_ | with_reducible refine w_slice ?_ | with_reducible refine y_le ?_ | with_reducible refine y_lt ?_ | with_reducible refine y_ge ?_ | with_reducible refine y_gt ?_ | ((with_reducible apply x_ixT); · rfl) | ((with_reducible apply x_ixL); · rfl) | ((with_reducible apply e_at); · rfl) | ((with_reducible apply x_mul); · rfl) | ((with_reducible apply e_ix); · rfl) | ((with_reducible apply x_div); · decide) | ((with_reducible apply x_mod); · decide) | with_reducible refine w_lst ?_ | with_reducible refine w_tup ?_ | ((with_reducible apply e_cap); · exact Nat.le_of_ble_eq_true rfl) | ((with_reducible apply e_set); · (simp only [List.set_cons_zero, List.set_cons_succ]; rfl)) | ((with_reducible apply e_setL); (· rfl); (· (simp only [List.set_cons_zero, List.set_cons_succ]; rfl))) | ((with_reducible apply e_par); (· rfl); (· (simp only [List.set_cons_zero, List.set_cons_succ]; rfl))) | ((with_reducible apply e_par3); (· rfl); (· (simp only [List.set_cons_zero, List.set_cons_succ]; rfl))) | ((with_reducible apply e_pt); (· rfl); (· (simp only [List.set_cons_zero, List.set_cons_succ]; rfl))) | ((with_reducible apply e_pT); · (simp only [pTs, pN, List.length_cons, List.length_nil, List.set_cons_zero, List.set_cons_succ, Nat.reduceAdd, Nat.reduceLT, ite_true, Option.some.injEq]; rfl))))
  refine ⟨_, is_between_yes h, ?_⟩
  (repeat' (first | ((with_reducible refine c_decT ?_ ?_); · first | decide | rfl) | ((with_reducible refine c_decF ?_ ?_); · decide) | with_reducible refine w_seq ?_ | ((with_reducible apply w_var); · rfl) | with_reducible refine w_setN ?_ | with_reducible refine w_snew ?_ | with_reducible refine w_C ?_ | with_reducible refine w_bin ?_ | with_reducible refine w_un ?_ | with_reducible refine w_isi ?_ | with_reducible refine w_isi2 ?_ | with_reducible refine w_chain ?_ | with_reducible refine w_if ?_ | with_reducible refine w_nil ?_ | with_reducible refine w_cons ?_ | with_reducible refine w_F ?_ | with_reducible refine w_Fb ?_ | with_reducible refine w_FN ?_ | with_reducible refine w_noPart ?_ | with_reducible refine w_slice ?_ | with_reducible refine w_val ?_ | with_reducible refine w_tAnd ?_ | with_reducible refine w_tOr ?_ | with_reducible refine w_tNot ?_ | with_reducible refine w_tYes ?_ | with_reducible refine w_and ?_ | with_reducible refine w_or ?_ | with_reducible refine w_not ?_ | with_reducible refine w_iRng ?_ | with_reducible refine w_iRngD ?_ | with_reducible refine w_iZip ?_ | with_reducible refine w_fr ?_ | with_reducible refine w_tupL ?_ | with_reducible refine w_im ?_ | with_reducible refine w_ow ?_ | with_reducible refine w_set ?_ | with_reducible refine w_par ?_ | with_reducible refine w_expr ?_ | with_reducible refine w_ret ?_ | with_reducible refine w_retN ?_ | with_reducible refine w_pass ?_ | with_reducible refine w_break ?_ | with_reducible refine w_cont ?_ | with_reducible refine w_seq ?_ | with_reducible refine w_sif ?_ | with_reducible refine x_add ?_ | with_reducible refine x_addI ?_ | with_reducible refine x_sub ?_ | with_reducible refine x_neg ?_ | with_reducible refine x_lt ?_ | with_reducible refine x_le ?_ | with_reducible refine x_gt ?_ | with_reducible refine x_ge ?_ | with_reducible refine x_eqS ?_ | with_reducible refine x_eq ?_ | with_reducible refine x_ne ?_ | with_reducible refine x_isN ?_ | with_reducible refine x_notN ?_ | with_reducible refine x_isB ?_ | with_reducible refine x_notB ?_ | with_reducible refine x_lenL ?_ | with_reducible refine x_lenT ?_ | with_reducible refine x_max2 ?_ | with_reducible refine x_min2 ?_ | with_reducible refine x_abs ?_ | with_reducible refine x_tupleL ?_ | with_reducible refine x_tupleT ?_ | with_reducible refine x_partL ?_ | with_reducible refine x_partT ?_ | with_reducible refine x_listL ?_ | with_reducible refine x_listT ?_ | with_reducible refine x_iii ?_ | with_reducible refine x_ibi ?_ | with_reducible refine x_iss ?_ | with_reducible refine x_itt ?_ | with_reducible refine x_ill ?_ | with_reducible refine c_true ?_ | with_reducible refine c_false ?_ | with_reducible refine c_nt ?_ | with_reducible refine c_nf ?_ | with_reducible refine c_not ?_ | ((with_reducible apply w_FI); · rfl) | ((with_reducible apply w_oIx); · rfl) | ((with_reducible apply w_oLen); · rfl) | ((with_reducible apply w_oBin); · rfl) | ((with_reducible apply w_consO); · rfl) | ((with_reducible apply w_aug); · rfl) | ((with_reducible apply w_app); · rfl) | ((with_reducible apply w_oset); · rfl) | ((with_reducible apply w_ext); · rfl) | ((with_reducible apply w_retO); · rfl) | ((with_reducible apply w_frz); · rfl) | ((with_reducible apply e_ow); · rfl) | with_reducible refine e_bl ?_ | with_reducible refine e_int ?_ | with_reducible refine e_lst ?_ | with_reducible refine e_tup ?_ | with_reducible refine e_seqL ?_ | with_reducible refine e_seqT ?_ | with_reducible refine e_zipL ?_ | with_reducible refine e_zipT ?_ | with_reducible refine w_partI ?_ | with_reducible refine w_iSeq ?_ | with_reducible refine w_iEnum ?_ | with_reducible refine w_new ?_ | with_reducible refine w_rev ?_ | with_reducible refine w_revT ?_ | with_reducible refine w_slice ?_ | with_reducible refine y_le ?_ | with_reducible refine y_lt ?_ | with_reducible refine y_ge ?_ | with_reducible refine y_gt ?_ | ((with_reducible apply x_ixT); · rfl) | ((with_reducible apply x_ixL); · rfl) | ((with_reducible apply e_at); · rfl) | ((with_reducible apply x_mul); · rfl) | ((with_reducible apply e_ix); · rfl) | ((with_reducible apply x_div); · decide) | ((with_reducible apply x_mod); · decide) | with_reducible refine w_lst ?_ | with_reducible refine w_tup ?_ | ((with_reducible apply e_cap); · exact Nat.le_of_ble_eq_true rfl) | ((with_reducible apply e_set); · (simp only [List.set_cons_zero, List.set_cons_succ]; rfl)) | ((with_reducible apply e_setL); (· rfl); (· (simp only [List.set_cons_zero, List.set_cons_succ]; rfl))) | ((with_reducible apply e_par); (· rfl); (· (simp only [List.set_cons_zero, List.set_cons_succ]; rfl))) | ((with_reducible apply e_par3); (· rfl); (· (simp only [List.set_cons_zero, List.set_cons_succ]; rfl))) | ((with_reducible apply e_pt); (· rfl); (· (simp only [List.set_cons_zero, List.set_cons_succ]; rfl))) | ((with_reducible apply e_pT); · (simp only [pTs, pN, List.length_cons, List.length_nil, List.set_cons_zero, List.set_cons_succ, Nat.reduceAdd, Nat.reduceLT, ite_true, Option.some.injEq]; rfl))))
  rfl
theorem check_level_eq {c l : Int} (h : Lok c l) : f_check_level [.int c, .int l] = some .non := by
  refine run_D (e := [.im (.int c), .im (.int l)]) rfl rfl ?_
  unfold c_check_level
  (repeat' (first | ((with_reducible refine c_decT ?_ ?_); · first | decide | rfl) | ((with_reducible refine c_decF ?_ ?_); · decide) | with_reducible refine w_seq ?_ | ((with_reducible apply w_var); · rfl) | with_reducible refine w_setN ?_ | with_reducible refine w_snew ?_ | with_reducible refine w_C ?_ | with_reducible refine w_bin ?_ | with_reducible refine w_un ?_ | with_reducible refine w_isi ?_ | with_reducible refine w_isi2 ?_ | with_reducible refine w_chain ?_ | with_reducible refine w_if ?_ | with_reducible refine w_nil ?_ | with_reducible refine w_cons ?_ | with_reducible refine w_F ?_ | with_reducible refine w_Fb ?_ | with_reducible refine w_FN ?_ | with_reducible refine w_noPart ?_ | with_reducible refine w_slice ?_ | with_reducible refine w_val ?_ | with_reducible refine w_tAnd ?_ | with_reducible refine w_tOr ?_ | with_reducible refine w_tNot ?_ | with_reducible refine w_tYes ?_ | with_reducible refine w_and ?_ | with_reducible refine w_or ?_ | with_reducible refine w_not ?_ | with_reducible refine w_iRng ?_ | with_reducible refine w_iRngD ?_ | with_reducible refine w_iZip ?_ | with_reducible refine w_fr ?_ | with_reducible refine w_tupL ?_ | with_reducible refine w_im ?_ | with_reducible refine w_ow ?_ | with_reducible refine w_set ?_ | with_reducible refine w_par ?_ | with_reducible refine w_expr ?_ | with_reducible refine w_ret ?_ | with_reducible refine w_retN ?_ | with_reducible refine w_pass ?_ | with_reducible refine w_break ?_ | with_reducible refine w_cont ?_ | with_reducible refine w_seq ?_ | with_reducible refine w_sif ?_ | with_reducible refine x_add ?_ | with_reducible refine x_addI ?_ | with_reducible refine x_sub ?_ | with_reducible refine x_neg ?_ | with_reducible refine x_lt ?_ | with_reducible refine x_le ?_ | with_reducible refine x_gt ?_ | with_reducible refine x_ge ?_ | with_reducible refine x_eqS ?_ | with_reducible refine x_eq ?_ | with_reducible refine x_ne ?_ | with_reducible refine x_isN ?_ | with_reducible refine x_notN ?_ | with_reducible refine x_isB ?_ | with_reducible refine x_notB ?_ | with_reducible refine x_lenL ?_ | with_reducible refine x_lenT ?_ | with_reducible refine x_max2 ?_ | with_reducible refine x_min2 ?_ | with_reducible refine x_abs ?_ | with_reducible refine x_tupleL ?_ | with_reducible refine x_tupleT ?_ | with_reducible refine x_partL ?_ | with_reducible refine x_partT ?_ | with_reducible refine x_listL ?_ | with_reducible refine x_listT ?_ | with_reducible refine x_iii ?_ | with_reducible refine x_ibi ?_ | with_reducible refine x_iss ?_ | with_reducible refine x_itt ?_ | with_reducible refine x_ill ?_ | with_reducible refine c_true ?_ | with_reducible refine c_false ?_ | with_reducible refine c_nt ?_ | with_reducible refine c_nf ?_ | with_reducible refine c_not ?_ | ((with_reducible apply w_FI); · rfl) | ((with_reducible apply w_oIx); · rfl) | ((with_reducible apply w_oLen); · rfl) | ((with_reducible apply w_oBin); · rfl) | ((with_reducible apply w_consO); · rfl) | ((with_reducible apply w_aug); · rfl) | ((with_reducible apply w_app); · rfl) | ((with_reducible apply w_oset); · rfl) | ((with_reducible apply w_ext); · rfl) | ((with_reducible apply w_retO); · rfl) | ((with_reducible apply w_frz); · rfl) | ((with_reducible apply e_ow); · rfl) | with_reducible refine e_bl ?_ | with_reducible refine e_int ?_ | with_reducible refine e_lst ?_ | with_reducible refine e_tup ?_ | with_reducible refine e_seqL ?_ | with_reducible refine e_seqT ?_ | with_reducible refine e_zipL ?_ | with_reducible refine e_zipT ?_ | with_reducible refine w_partI ?_ | with_reducible refine w_iSeq ?_ | with_reducible refine w_iEnum ?_ | with_reducible refine w_new ?_ | with_reducible refine w_rev ?_ | with_reducible refine w_revT ?_ | with_reducible refine w_slice ?_ | with_reducible refine y_le ?_ | with_reducible refine y_lt ?_ | with_reducible refine y_ge ?_ | with_reducible refine y_gt ?_ | ((with_reducible apply x_ixT); · rfl) | ((with_reducible apply x_ixL); · rfl) | ((with_reducible apply e_at); · rfl) | ((with_reducible apply x_mul); · rfl) | ((with_reducible apply e_ix); · rfl) | ((with_reducible apply x_div); · decide) | ((with_reducible apply x_mod); · decide) | with_reducible refine w_lst ?_ | with_reducible refine w_tup ?_ | ((with_reducible apply e_cap); · exact Nat.le_of_ble_eq_true rfl) | ((with_reducible apply e_set); · (simp only [List.set_cons_zero, List.set_cons_succ]; rfl)) | ((with_reducible apply e_setL); (· rfl); (· (simp only [List.set_cons_zero, List.set_cons_succ]; rfl))) | ((with_reducible apply e_par); (· rfl); (· (simp only [List.set_cons_zero, List.set_cons_succ]; rfl))) | ((with_reducible apply e_par3); (· rfl); (· (simp only [List.set_cons_zero, List.set_cons_succ]; rfl))) | ((with_reducible apply e_pt); (· rfl); (· (simp only [List.set_cons_zero, List.set_cons_succ]; rfl))) | ((with_reducible apply e_pT); · (simp only [pTs, pN, List.length_cons, List.length_nil, List.set_cons_zero, List.set_cons_succ, Nat.reduceAdd, Nat.reduceLT, ite_true, Option.some.injEq]; rfl))))
  refine ⟨_, is_between_yes h, ?_⟩
  (repeat' (first | ((with_reducible refine c_decT ?_ ?_); · first | decide | rfl) | ((with_reducible refine c_decF ?_ ?_); · decide) | with_reducible refine w_seq ?_ | ((with_reducible apply w_var); · rfl) | with_reducible refine w_setN ?_ | with_reducible refine w_snew ?_ | with_reducible refine w_C ?_ | with_reducible refine w_bin ?_ | with_reducible refine w_un ?_ | with_reducible refine w_isi ?_ | with_reducible refine w_isi2 ?_ | with_reducible refine w_chain ?_ | with_reducible refine w_if ?_ | with_reducible refine w_nil ?_ | with_reducible refine w_cons ?_ | with_reducible refine w_F ?_ | with_reducible refine w_Fb ?_ | with_reducible refine w_FN ?_ | with_reducible refine w_noPart ?_ | with_reducible refine w_slice ?_ | with_reducible refine w_val ?_ | with_reducible refine w_tAnd ?_ | with_reducible refine w_tOr ?_ | with_reducible refine w_tNot ?_ | with_reducible refine w_tYes ?_ | with_reducible refine w_and ?_ | with_reducible refine w_or ?_ | with_reducible refine w_not ?_ | with_reducible refine w_iRng ?_ | with_reducible refine w_iRngD ?_ | with_reducible refine w_iZip ?_ | with_reducible refine w_fr ?_ | with_reducible refine w_tupL ?_ | with_reducible refine w_im ?_ | with_reducible refine w_ow ?_ | with_reducible refine w_set ?_ | with_reducible refine w_par ?_ | with_reducible refine w_expr ?_ | with_reducible refine w_ret ?_ | with_reducible refine w_retN ?_ | with_reducible refine w_pass ?_ | with_reducible refine w_break ?_ | with_reducible refine w_cont ?_ | with_reducible refine w_seq ?_ | with_reducible refine w_sif ?_ | with_reducible refine x_add ?_ | with_reducible refine x_addI ?_ | with_reducible refine x_sub ?_ | with_reducible refine x_neg ?_ | with_reducible refine x_lt ?_ | with_reducible refine x_le ?_ | with_reducible refine x_gt ?_ | with_reducible refine x_ge ?_ | with_reducible refine x_eqS ?_ | with_reducible refine x_eq ?_ | with_reducible refine x_ne ?_ | with_reducible refine x_isN ?_ | with_reducible refine x_notN ?_ | with_reducible refine x_isB ?_ | with_reducible refine x_notB ?_ | with_reducible refine x_lenL ?_ | with_reducible refine x_lenT ?_ | with_reducible refine x_max2 ?_ | with_reducible refine x_min2 ?_ | with_reducible refine x_abs ?_ | with_reducible refine x_tupleL ?_ | with_reducible refine x_tupleT ?_ | with_reducible refine x_partL ?_ | with_reducible refine x_partT ?_ | with_reducible refine x_listL ?_ | with_reducible refine x_listT ?_ | with_reducible refine x_iii ?_ | with_reducible refine x_ibi ?_ | with_reducible refine x_iss ?_ | with_reducible refine x_itt ?_ | with_reducible refine x_ill ?_ | with_reducible refine c_true ?_ | with_reducible refine c_false ?_ | with_reducible refine c_nt ?_ | with_reducible refine c_nf ?_ | with_reducible refine c_not ?_ | ((with_reducible apply w_FI); · rfl) | ((with_reducible apply w_oIx); · rfl) | ((with_reducible apply w_oLen); · rfl) | ((with_reducible apply w_oBin); · rfl) | ((with_reducible apply w_consO); · rfl) | ((with_reducible apply w_aug); · rfl) | ((with_reducible apply w_app); · rfl) | ((with_reducible apply w_oset); · rfl) | ((with_reducible apply w_ext); · rfl) | ((with_reducible apply w_retO); · rfl) | ((with_reducible apply w_frz); · rfl) | ((with_reducible apply e_ow); · rfl) | with_reducible refine e_bl ?_ | with_reducible refine e_int ?_ | with_reducible refine e_lst ?_ | with_reducible refine e_tup ?_ | with_reducible refine e_seqL ?_ | with_reducible refine e_seqT ?_ | with_reducible refine e_zipL ?_ | with_reducible refine e_zipT ?_ | with_reducible refine w_partI ?_ | with_reducible refine w_iSeq ?_ | with_reducible refine w_iEnum ?_ | with_reducible refine w_new ?_ | with_reducible refine w_rev ?_ | with_reducible refine w_revT ?_ | with_reducible refine w_slice ?_ | with_reducible refine y_le ?_ | with_reducible refine y_lt ?_ | with_reducible refine y_ge ?_ | with_reducible refine y_gt ?_ | ((with_reducible apply x_ixT); · rfl) | ((with_reducible apply x_ixL); · rfl) | ((with_reducible apply e_at); · rfl) | ((with_reducible apply x_mul); · rfl) | ((with_reducible apply e_ix); · rfl) | ((with_reducible apply x_div); · decide) | ((with_reducible apply x_mod); · decide) | with_reducible refine w_lst ?_ | with_reducible refine w_tup ?_ | ((with_reducible apply e_cap); · exact Nat.le_of_ble_eq_true rfl) | ((with_reducible apply e_set); · (simp only [List.set_cons_zero, List.set_cons_succ]; rfl)) | ((with_reducible apply e_setL); (· rfl); (· (simp only [List.set_cons_zero, List.set_cons_succ]; rfl))) | ((with_reducible apply e_par); (· rfl); (· (simp only [List.set_cons_zero, List.set_cons_succ]; rfl))) | ((with_reducible apply e_par3); (· rfl); (· (simp only [List.set_cons_zero, List.set_cons_succ]; rfl))) | ((with_reducible apply e_pt); (· rfl); (· (simp only [List.set_cons_zero, List.set_cons_succ]; rfl))) | ((with_reducible apply e_pT); · (simp only [pTs, pN, List.length_cons, List.length_nil, List.set_cons_zero, List.set_cons_succ, Nat.reduceAdd, Nat.reduceLT, ite_true, Option.some.injEq]; rfl))))
  rfl
theorem is_command_eq {cap : Int} {c : Cm} (h : c.ok cap) : f_is_command [.int cap, c.d] = some (.bl true) := by
  obtain ⟨ch, a, m⟩ := c
  obtain ⟨h1, h2, h3, h4⟩ := h
  simp only at h1 h2 h3 h4
  cases ch with
  | true =>
    refine run_D (e := [.im (.int cap), .im (.tup [.str "charge", .int a, .int m])]) rfl rfl ?_
    unfold c_is_command
    (repeat' (first | ((with_reducible refine c_decT ?_ ?_); · first | decide | rfl) | ((with_reducible refine c_decF ?_ ?_); · decide) | (with_reducible refine ⟨_, is_between_yes ⟨by assumption, by assumption⟩, ?_⟩) | (with_reducible refine ⟨_, nin_ch, ?_⟩) | (with_reducible refine ⟨_, nin_dis, ?_⟩) | with_reducible refine w_seq ?_ | ((with_reducible apply w_var); · rfl) | with_reducible refine w_setN ?_ | with_reducible refine w_snew ?_ | with_reducible refine w_C ?_ | with_reducible refine w_bin ?_ | with_reducible refine w_un ?_ | with_reducible refine w_isi ?_ | with_reducible refine w_isi2 ?_ | with_reducible refine w_chain ?_ | with_reducible refine w_if ?_ | with_reducible refine w_nil ?_ | with_reducible refine w_cons ?_ | with_reducible refine w_F ?_ | with_reducible refine w_Fb ?_ | with_reducible refine w_FN ?_ | with_reducible refine w_noPart ?_ | with_reducible refine w_slice ?_ | with_reducible refine w_val ?_ | with_reducible refine w_tAnd ?_ | with_reducible refine w_tOr ?_ | with_reducible refine w_tNot ?_ | with_reducible refine w_tYes ?_ | with_reducible refine w_and ?_ | with_reducible refine w_or ?_ | with_reducible refine w_not ?_ | with_reducible refine w_iRng ?_ | with_reducible refine w_iRngD ?_ | with_reducible refine w_iZip ?_ | with_reducible refine w_fr ?_ | with_reducible refine w_tupL ?_ | with_reducible refine w_im ?_ | with_reducible refine w_ow ?_ | with_reducible refine w_set ?_ | with_reducible refine w_par ?_ | with_reducible refine w_expr ?_ | with_reducible refine w_ret ?_ | with_reducible refine w_retN ?_ | with_reducible refine w_pass ?_ | with_reducible refine w_break ?_ | with_reducible refine w_cont ?_ | with_reducible refine w_seq ?_ | with_reducible refine w_sif ?_ | with_reducible refine x_add ?_ | with_reducible refine x_addI ?_ | with_reducible refine x_sub ?_ | with_reducible refine x_neg ?_ | with_reducible refine x_lt ?_ | with_reducible refine x_le ?_ | with_reducible refine x_gt ?_ | with_reducible refine x_ge ?_ | with_reducible refine x_eqS ?_ | with_reducible refine x_eq ?_ | with_reducible refine x_ne ?_ | with_reducible refine x_isN ?_ | with_reducible refine x_notN ?_ | with_reducible refine x_isB ?_ | with_reducible refine x_notB ?_ | with_reducible refine x_lenL ?_ | with_reducible refine x_lenT ?_ | with_reducible refine x_max2 ?_ | with_reducible refine x_min2 ?_ | with_reducible refine x_abs ?_ | with_reducible refine x_tupleL ?_ | with_reducible refine x_tupleT ?_ | with_reducible refine x_partL ?_ | with_reducible refine x_partT ?_ | with_reducible refine x_listL ?_ | with_reducible refine x_listT ?_ | with_reducible refine x_iii ?_ | with_reducible refine x_ibi ?_ | with_reducible refine x_iss ?_ | with_reducible refine x_itt ?_ | with_reducible refine x_ill ?_ | with_reducible refine c_true ?_ | with_reducible refine c_false ?_ | with_reducible refine c_nt ?_ | with_reducible refine c_nf ?_ | with_reducible refine c_not ?_ | ((with_reducible apply w_FI); · rfl) | ((with_reducible apply w_oIx); · rfl) | ((with_reducible apply w_oLen); · rfl) | ((with_reducible apply w_oBin); · rfl) | ((with_reducible apply w_consO); · rfl) | ((with_reducible apply w_aug); · rfl) | ((with_reducible apply w_app); · rfl) | ((with_reducible apply w_oset); · rfl) | ((with_reducible apply w_ext); · rfl) | ((with_reducible apply w_retO); · rfl) | ((with_reducible apply w_frz); · rfl) | ((with_reducible apply e_ow); · rfl) | with_reducible refine e_bl ?_ | with_reducible refine e_int ?_ | with_reducible refine e_lst ?_ | with_reducible refine e_tup ?_ | with_reducible refine e_seqL ?_ | with_reducible refine e_seqT ?_ | with_reducible refine e_zipL ?_ | with_reducible refine e_zipT ?_ | with_reducible refine w_partI ?_ | with_reducible refine w_iSeq ?_ | with_reducible refine w_iEnum ?_ | with_reducible refine w_new ?_ | with_reducible refine w_rev ?_ | with_reducible refine w_revT ?_ | with_reducible refine w_slice ?_ | with_reducible refine y_le ?_ | with_reducible refine y_lt ?_ | with_reducible refine y_ge ?_ | with_reducible refine y_gt ?_ | ((with_reducible apply x_ixT); · rfl) | ((with_reducible apply x_ixL); · rfl) | ((with_reducible apply e_at); · rfl) | ((with_reducible apply x_mul); · rfl) | ((with_reducible apply e_ix); · rfl) | ((with_reducible apply x_div); · decide) | ((with_reducible apply x_mod); · decide) | with_reducible refine w_lst ?_ | with_reducible refine w_tup ?_ | ((with_reducible apply e_cap); · exact Nat.le_of_ble_eq_true rfl) | ((with_reducible apply e_set); · (simp only [List.set_cons_zero, List.set_cons_succ]; rfl)) | ((with_reducible apply e_setL); (· rfl); (· (simp only [List.set_cons_zero, List.set_cons_succ]; rfl))) | ((with_reducible apply e_par); (· rfl); (· (simp only [List.set_cons_zero, List.set_cons_succ]; rfl))) | ((with_reducible apply e_par3); (· rfl); (· (simp only [List.set_cons_zero, List.set_cons_succ]; rfl))) | ((with_reducible apply e_pt); (· rfl); (· (simp only [List.set_cons_zero, List.set_cons_succ]; rfl))) | ((with_reducible apply e_pT); · (simp only [pTs, pN, List.length_cons, List.length_nil, List.set_cons_zero, List.set_cons_succ, Nat.reduceAdd, Nat.reduceLT, ite_true, Option.some.injEq]; rfl))))
    all_goals first | rfl | skip
  | false =>
    refine run_D (e := [.im (.int cap), .im (.tup [.str "discharge", .int a, .int m])]) rfl rfl ?_
    unfold c_is_command
    (repeat' (first | ((with_reducible refine c_decT ?_ ?_); · first | decide | rfl) | ((with_reducible refine c_decF ?_ ?_); · decide) | (with_reducible refine ⟨_, is_between_yes ⟨by assumption, by assumption⟩, ?_⟩) | (with_reducible refine ⟨_, nin_ch, ?_⟩) | (with_reducible refine ⟨_, nin_dis, ?_⟩) | with_reducible refine w_seq ?_ | ((with_reducible apply w_var); · rfl) | with_reducible refine w_setN ?_ | with_reducible refine w_snew ?_ | with_reducible refine w_C ?_ | with_reducible refine w_bin ?_ | with_reducible refine w_un ?_ | with_reducible refine w_isi ?_ | with_reducible refine w_isi2 ?_ | with_reducible refine w_chain ?_ | with_reducible refine w_if ?_ | with_reducible refine w_nil ?_ | with_reducible refine w_cons ?_ | with_reducible refine w_F ?_ | with_reducible refine w_Fb ?_ | with_reducible refine w_FN ?_ | with_reducible refine w_noPart ?_ | with_reducible refine w_slice ?_ | with_reducible refine w_val ?_ | with_reducible refine w_tAnd ?_ | with_reducible refine w_tOr ?_ | with_reducible refine w_tNot ?_ | with_reducible refine w_tYes ?_ | with_reducible refine w_and ?_ | with_reducible refine w_or ?_ | with_reducible refine w_not ?_ | with_reducible refine w_iRng ?_ | with_reducible refine w_iRngD ?_ | with_reducible refine w_iZip ?_ | with_reducible refine w_fr ?_ | with_reducible refine w_tupL ?_ | with_reducible refine w_im ?_ | with_reducible refine w_ow ?_ | with_reducible refine w_set ?_ | with_reducible refine w_par ?_ | with_reducible refine w_expr ?_ | with_reducible refine w_ret ?_ | with_reducible refine w_retN ?_ | with_reducible refine w_pass ?_ | with_reducible refine w_break ?_ | with_reducible refine w_cont ?_ | with_reducible refine w_seq ?_ | with_reducible refine w_sif ?_ | with_reducible refine x_add ?_ | with_reducible refine x_addI ?_ | with_reducible refine x_sub ?_ | with_reducible refine x_neg ?_ | with_reducible refine x_lt ?_ | with_reducible refine x_le ?_ | with_reducible refine x_gt ?_ | with_reducible refine x_ge ?_ | with_reducible refine x_eqS ?_ | with_reducible refine x_eq ?_ | with_reducible refine x_ne ?_ | with_reducible refine x_isN ?_ | with_reducible refine x_notN ?_ | with_reducible refine x_isB ?_ | with_reducible refine x_notB ?_ | with_reducible refine x_lenL ?_ | with_reducible refine x_lenT ?_ | with_reducible refine x_max2 ?_ | with_reducible refine x_min2 ?_ | with_reducible refine x_abs ?_ | with_reducible refine x_tupleL ?_ | with_reducible refine x_tupleT ?_ | with_reducible refine x_partL ?_ | with_reducible refine x_partT ?_ | with_reducible refine x_listL ?_ | with_reducible refine x_listT ?_ | with_reducible refine x_iii ?_ | with_reducible refine x_ibi ?_ | with_reducible refine x_iss ?_ | with_reducible refine x_itt ?_ | with_reducible refine x_ill ?_ | with_reducible refine c_true ?_ | with_reducible refine c_false ?_ | with_reducible refine c_nt ?_ | with_reducible refine c_nf ?_ | with_reducible refine c_not ?_ | ((with_reducible apply w_FI); · rfl) | ((with_reducible apply w_oIx); · rfl) | ((with_reducible apply w_oLen); · rfl) | ((with_reducible apply w_oBin); · rfl) | ((with_reducible apply w_consO); · rfl) | ((with_reducible apply w_aug); · rfl) | ((with_reducible apply w_app); · rfl) | ((with_reducible apply w_oset); · rfl) | ((with_reducible apply w_ext); · rfl) | ((with_reducible apply w_retO); · rfl) | ((with_reducible apply w_frz); · rfl) | ((with_reducible apply e_ow); · rfl) | with_reducible refine e_bl ?_ | with_reducible refine e_int ?_ | with_reducible refine e_lst ?_ | with_reducible refine e_tup ?_ | with_reducible refine e_seqL ?_ | with_reducible refine e_seqT ?_ | with_reducible refine e_zipL ?_ | with_reducible refine e_zipT ?_ | with_reducible refine w_partI ?_ | with_reducible refine w_iSeq ?_ | with_reducible refine w_iEnum ?_ | with_reducible refine w_new ?_ | with_reducible refine w_rev ?_ | with_reducible refine w_revT ?_ | with_reducible refine w_slice ?_ | with_reducible refine y_le ?_ | with_reducible refine y_lt ?_ | with_reducible refine y_ge ?_ | with_reducible refine y_gt ?_ | ((with_reducible apply x_ixT); · rfl) | ((with_reducible apply x_ixL); · rfl) | ((with_reducible apply e_at); · rfl) | ((with_reducible apply x_mul); · rfl) | ((with_reducible apply e_ix); · rfl) | ((with_reducible apply x_div); · decide) | ((with_reducible apply x_mod); · decide) | with_reducible refine w_lst ?_ | with_reducible refine w_tup ?_ | ((with_reducible apply e_cap); · exact Nat.le_of_ble_eq_true rfl) | ((with_reducible apply e_set); · (simp only [List.set_cons_zero, List.set_cons_succ]; rfl)) | ((with_reducible apply e_setL); (· rfl); (· (simp only [List.set_cons_zero, List.set_cons_succ]; rfl))) | ((with_reducible apply e_par); (· rfl); (· (simp only [List.set_cons_zero, List.set_cons_succ]; rfl))) | ((with_reducible apply e_par3); (· rfl); (· (simp only [List.set_cons_zero, List.set_cons_succ]; rfl))) | ((with_reducible apply e_pt); (· rfl); (· (simp only [List.set_cons_zero, List.set_cons_succ]; rfl))) | ((with_reducible apply e_pT); · (simp only [pTs, pN, List.length_cons, List.length_nil, List.set_cons_zero, List.set_cons_succ, Nat.reduceAdd, Nat.reduceLT, ite_true, Option.some.injEq]; rfl))))
    all_goals first | rfl | skip
theorem all_true : ∀ (n : Nat), D.bls (List.replicate n (.bl true)) = some (List.replicate n true)
  | 0 => rfl
  | n + 1 => by simp [List.replicate, D.bls, all_true n]
theorem are_commands_eq {cap : Int} {s : List Cm} (hs : Sok cap s) : f_are_commands [.int cap, schD s] = some (.bl true) := by
  refine run_D (e := [.im (.int cap), .im (schD s), .un]) rfl rfl ?_
  unfold c_are_commands schD
  have hl : (schL s).length = s.length := by simp [schL]
  have h1 := hs.1
  (repeat' (first | ((with_reducible refine c_decT ?_ ?_); · first | decide | rfl) | ((with_reducible refine c_decF ?_ ?_); · decide) | (with_reducible refine c_dec (fun h => ?_) (fun h => ?_)) | with_reducible refine w_seq ?_ | ((with_reducible apply w_var); · rfl) | with_reducible refine w_setN ?_ | with_reducible refine w_snew ?_ | with_reducible refine w_C ?_ | with_reducible refine w_bin ?_ | with_reducible refine w_un ?_ | with_reducible refine w_isi ?_ | with_reducible refine w_isi2 ?_ | with_reducible refine w_chain ?_ | with_reducible refine w_if ?_ | with_reducible refine w_nil ?_ | with_reducible refine w_cons ?_ | with_reducible refine w_F ?_ | with_reducible refine w_Fb ?_ | with_reducible refine w_FN ?_ | with_reducible refine w_noPart ?_ | with_reducible refine w_slice ?_ | with_reducible refine w_val ?_ | with_reducible refine w_tAnd ?_ | with_reducible refine w_tOr ?_ | with_reducible refine w_tNot ?_ | with_reducible refine w_tYes ?_ | with_reducible refine w_and ?_ | with_reducible refine w_or ?_ | with_reducible refine w_not ?_ | with_reducible refine w_iRng ?_ | with_reducible refine w_iRngD ?_ | with_reducible refine w_iZip ?_ | with_reducible refine w_fr ?_ | with_reducible refine w_tupL ?_ | with_reducible refine w_im ?_ | with_reducible refine w_ow ?_ | with_reducible refine w_set ?_ | with_reducible refine w_par ?_ | with_reducible refine w_expr ?_ | with_reducible refine w_ret ?_ | with_reducible refine w_retN ?_ | with_reducible refine w_pass ?_ | with_reducible refine w_break ?_ | with_reducible refine w_cont ?_ | with_reducible refine w_seq ?_ | with_reducible refine w_sif ?_ | with_reducible refine x_add ?_ | with_reducible refine x_addI ?_ | with_reducible refine x_sub ?_ | with_reducible refine x_neg ?_ | with_reducible refine x_lt ?_ | with_reducible refine x_le ?_ | with_reducible refine x_gt ?_ | with_reducible refine x_ge ?_ | with_reducible refine x_eqS ?_ | with_reducible refine x_eq ?_ | with_reducible refine x_ne ?_ | with_reducible refine x_isN ?_ | with_reducible refine x_notN ?_ | with_reducible refine x_isB ?_ | with_reducible refine x_notB ?_ | with_reducible refine x_lenL ?_ | with_reducible refine x_lenT ?_ | with_reducible refine x_max2 ?_ | with_reducible refine x_min2 ?_ | with_reducible refine x_abs ?_ | with_reducible refine x_tupleL ?_ | with_reducible refine x_tupleT ?_ | with_reducible refine x_partL ?_ | with_reducible refine x_partT ?_ | with_reducible refine x_listL ?_ | with_reducible refine x_listT ?_ | with_reducible refine x_iii ?_ | with_reducible refine x_ibi ?_ | with_reducible refine x_iss ?_ | with_reducible refine x_itt ?_ | with_reducible refine x_ill ?_ | with_reducible refine c_true ?_ | with_reducible refine c_false ?_ | with_reducible refine c_nt ?_ | with_reducible refine c_nf ?_ | with_reducible refine c_not ?_ | ((with_reducible apply w_FI); · rfl) | ((with_reducible apply w_oIx); · rfl) | ((with_reducible apply w_oLen); · rfl) | ((with_reducible apply w_oBin); · rfl) | ((with_reducible apply w_consO); · rfl) | ((with_reducible apply w_aug); · rfl) | ((with_reducible apply w_app); · rfl) | ((with_reducible apply w_oset); · rfl) | ((with_reducible apply w_ext); · rfl) | ((with_reducible apply w_retO); · rfl) | ((with_reducible apply w_frz); · rfl) | ((with_reducible apply e_ow); · rfl) | with_reducible refine e_bl ?_ | with_reducible refine e_int ?_ | with_reducible refine e_lst ?_ | with_reducible refine e_tup ?_ | with_reducible refine e_seqL ?_ | with_reducible refine e_seqT ?_ | with_reducible refine e_zipL ?_ | with_reducible refine e_zipT ?_ | with_reducible refine w_partI ?_ | with_reducible refine w_iSeq ?_ | with_reducible refine w_iEnum ?_ | with_reducible refine w_new ?_ | with_reducible refine w_rev ?_ | with_reducible refine w_revT ?_ | with_reducible refine w_slice ?_ | with_reducible refine y_le ?_ | with_reducible refine y_lt ?_ | with_reducible refine y_ge ?_ | with_reducible refine y_gt ?_ | ((with_reducible apply x_ixT); · rfl) | ((with_reducible apply x_ixL); · rfl) | ((with_reducible apply e_at); · rfl) | ((with_reducible apply x_mul); · rfl) | ((with_reducible apply e_ix); · rfl) | ((with_reducible apply x_div); · decide) | ((with_reducible apply x_mod); · decide) | with_reducible refine w_lst ?_ | with_reducible refine w_tup ?_ | ((with_reducible apply e_cap); · exact Nat.le_of_ble_eq_true rfl) | ((with_reducible apply e_set); · (simp only [List.set_cons_zero, List.set_cons_succ]; rfl)) | ((with_reducible apply e_setL); (· rfl); (· (simp only [List.set_cons_zero, List.set_cons_succ]; rfl))) | ((with_reducible apply e_par); (· rfl); (· (simp only [List.set_cons_zero, List.set_cons_succ]; rfl))) | ((with_reducible apply e_par3); (· rfl); (· (simp only [List.set_cons_zero, List.set_cons_succ]; rfl))) | ((with_reducible apply e_pt); (· rfl); (· (simp only [List.set_cons_zero, List.set_cons_succ]; rfl))) | ((with_reducible apply e_pT); · (simp only [pTs, pN, List.length_cons, List.length_nil, List.set_cons_zero, List.set_cons_succ, Nat.reduceAdd, Nat.reduceLT, ite_true, Option.some.injEq]; rfl))))
  · rw [hl] at h
    omega
  refine w_compP (fun _ => true) (fun _ => .bl true) ?_
  (repeat' (first | ((with_reducible refine c_decT ?_ ?_); · first | decide | rfl) | ((with_reducible refine c_decF ?_ ?_); · decide) | with_reducible refine w_seq ?_ | ((with_reducible apply w_var); · rfl) | with_reducible refine w_setN ?_ | with_reducible refine w_snew ?_ | with_reducible refine w_C ?_ | with_reducible refine w_bin ?_ | with_reducible refine w_un ?_ | with_reducible refine w_isi ?_ | with_reducible refine w_isi2 ?_ | with_reducible refine w_chain ?_ | with_reducible refine w_if ?_ | with_reducible refine w_nil ?_ | with_reducible refine w_cons ?_ | with_reducible refine w_F ?_ | with_reducible refine w_Fb ?_ | with_reducible refine w_FN ?_ | with_reducible refine w_noPart ?_ | with_reducible refine w_slice ?_ | with_reducible refine w_val ?_ | with_reducible refine w_tAnd ?_ | with_reducible refine w_tOr ?_ | with_reducible refine w_tNot ?_ | with_reducible refine w_tYes ?_ | with_reducible refine w_and ?_ | with_reducible refine w_or ?_ | with_reducible refine w_not ?_ | with_reducible refine w_iRng ?_ | with_reducible refine w_iRngD ?_ | with_reducible refine w_iZip ?_ | with_reducible refine w_fr ?_ | with_reducible refine w_tupL ?_ | with_reducible refine w_im ?_ | with_reducible refine w_ow ?_ | with_reducible refine w_set ?_ | with_reducible refine w_par ?_ | with_reducible refine w_expr ?_ | with_reducible refine w_ret ?_ | with_reducible refine w_retN ?_ | with_reducible refine w_pass ?_ | with_reducible refine w_break ?_ | with_reducible refine w_cont ?_ | with_reducible refine w_seq ?_ | with_reducible refine w_sif ?_ | with_reducible refine x_add ?_ | with_reducible refine x_addI ?_ | with_reducible refine x_sub ?_ | with_reducible refine x_neg ?_ | with_reducible refine x_lt ?_ | with_reducible refine x_le ?_ | with_reducible refine x_gt ?_ | with_reducible refine x_ge ?_ | with_reducible refine x_eqS ?_ | with_reducible refine x_eq ?_ | with_reducible refine x_ne ?_ | with_reducible refine x_isN ?_ | with_reducible refine x_notN ?_ | with_reducible refine x_isB ?_ | with_reducible refine x_notB ?_ | with_reducible refine x_lenL ?_ | with_reducible refine x_lenT ?_ | with_reducible refine x_max2 ?_ | with_reducible refine x_min2 ?_ | with_reducible refine x_abs ?_ | with_reducible refine x_tupleL ?_ | with_reducible refine x_tupleT ?_ | with_reducible refine x_partL ?_ | with_reducible refine x_partT ?_ | with_reducible refine x_listL ?_ | with_reducible refine x_listT ?_ | with_reducible refine x_iii ?_ | with_reducible refine x_ibi ?_ | with_reducible refine x_iss ?_ | with_reducible refine x_itt ?_ | with_reducible refine x_ill ?_ | with_reducible refine c_true ?_ | with_reducible refine c_false ?_ | with_reducible refine c_nt ?_ | with_reducible refine c_nf ?_ | with_reducible refine c_not ?_ | ((with_reducible apply w_FI); · rfl) | ((with_reducible apply w_oIx); · rfl) | ((with_reducible apply w_oLen); · rfl) | ((with_reducible apply w_oBin); · rfl) | ((with_reducible apply w_consO); · rfl) | ((with_reducible apply w_aug); · rfl) | ((with_reducible apply w_app); · rfl) | ((with_reducible apply w_oset); · rfl) | ((with_reducible apply w_ext); · rfl) | ((with_reducible apply w_retO); · rfl) | ((with_reducible apply w_frz); · rfl) | ((with_reducible apply e_ow); · rfl) | with_reducible refine e_bl ?_ | with_reducible refine e_int ?_ | with_reducible refine e_lst ?_ | with_reducible refine e_tup ?_ | with_reducible refine e_seqL ?_ | with_reducible refine e_seqT ?_ | with_reducible refine e_zipL ?_ | with_reducible refine e_zipT ?_ | with_reducible refine w_partI ?_ | with_reducible refine w_iSeq ?_ | with_reducible refine w_iEnum ?_ | with_reducible refine w_new ?_ | with_reducible refine w_rev ?_ | with_reducible refine w_revT ?_ | with_reducible refine w_slice ?_ | with_reducible refine y_le ?_ | with_reducible refine y_lt ?_ | with_reducible refine y_ge ?_ | with_reducible refine y_gt ?_ | ((with_reducible apply x_ixT); · rfl) | ((with_reducible apply x_ixL); · rfl) | ((with_reducible apply e_at); · rfl) | ((with_reducible apply x_mul); · rfl) | ((with_reducible apply e_ix); · rfl) | ((with_reducible apply x_div); · decide) | ((with_reducible apply x_mod); · decide) | with_reducible refine w_lst ?_ | with_reducible refine w_tup ?_ | ((with_reducible apply e_cap); · exact Nat.le_of_ble_eq_true rfl) | ((with_reducible apply e_set); · (simp only [List.set_cons_zero, List.set_cons_succ]; rfl)) | ((with_reducible apply e_setL); (· rfl); (· (simp only [List.set_cons_zero, List.set_cons_succ]; rfl))) | ((with_reducible apply e_par); (· rfl); (· (simp only [List.set_cons_zero, List.set_cons_succ]; rfl))) | ((with_reducible apply e_par3); (· rfl); (· (simp only [List.set_cons_zero, List.set_cons_succ]; rfl))) | ((with_reducible apply e_pt); (· rfl); (· (simp only [List.set_cons_zero, List.set_cons_succ]; rfl))) | ((with_reducible apply e_pT); · (simp only [pTs, pN, List.length_cons, List.length_nil, List.set_cons_zero, List.set_cons_succ, Nat.reduceAdd, Nat.reduceLT, ite_true, Option.some.injEq]; rfl))))
  refine ⟨by rw [hl]; exact Nat.le_trans h1 (by decide), ?_, rfl, rfl, ?_⟩
  · intro d hd
    simp only [schL, List.mem_map] at hd
    obtain ⟨c, hc, rfl⟩ := hd
    refine ⟨_, rfl, rfl, rfl, ?_⟩
    (repeat' (first | ((with_reducible refine c_decT ?_ ?_); · first | decide | rfl) | ((with_reducible refine c_decF ?_ ?_); · decide) | with_reducible refine w_seq ?_ | ((with_reducible apply w_var); · rfl) | with_reducible refine w_setN ?_ | with_reducible refine w_snew ?_ | with_reducible refine w_C ?_ | with_reducible refine w_bin ?_ | with_reducible refine w_un ?_ | with_reducible refine w_isi ?_ | with_reducible refine w_isi2 ?_ | with_reducible refine w_chain ?_ | with_reducible refine w_if ?_ | with_reducible refine w_nil ?_ | with_reducible refine w_cons ?_ | with_reducible refine w_F ?_ | with_reducible refine w_Fb ?_ | with_reducible refine w_FN ?_ | with_reducible refine w_noPart ?_ | with_reducible refine w_slice ?_ | with_reducible refine w_val ?_ | with_reducible refine w_tAnd ?_ | with_reducible refine w_tOr ?_ | with_reducible refine w_tNot ?_ | with_reducible refine w_tYes ?_ | with_reducible refine w_and ?_ | with_reducible refine w_or ?_ | with_reducible refine w_not ?_ | with_reducible refine w_iRng ?_ | with_reducible refine w_iRngD ?_ | with_reducible refine w_iZip ?_ | with_reducible refine w_fr ?_ | with_reducible refine w_tupL ?_ | with_reducible refine w_im ?_ | with_reducible refine w_ow ?_ | with_reducible refine w_set ?_ | with_reducible refine w_par ?_ | with_reducible refine w_expr ?_ | with_reducible refine w_ret ?_ | with_reducible refine w_retN ?_ | with_reducible refine w_pass ?_ | with_reducible refine w_break ?_ | with_reducible refine w_cont ?_ | with_reducible refine w_seq ?_ | with_reducible refine w_sif ?_ | with_reducible refine x_add ?_ | with_reducible refine x_addI ?_ | with_reducible refine x_sub ?_ | with_reducible refine x_neg ?_ | with_reducible refine x_lt ?_ | with_reducible refine x_le ?_ | with_reducible refine x_gt ?_ | with_reducible refine x_ge ?_ | with_reducible refine x_eqS ?_ | with_reducible refine x_eq ?_ | with_reducible refine x_ne ?_ | with_reducible refine x_isN ?_ | with_reducible refine x_notN ?_ | with_reducible refine x_isB ?_ | with_reducible refine x_notB ?_ | with_reducible refine x_lenL ?_ | with_reducible refine x_lenT ?_ | with_reducible refine x_max2 ?_ | with_reducible refine x_min2 ?_ | with_reducible refine x_abs ?_ | with_reducible refine x_tupleL ?_ | with_reducible refine x_tupleT ?_ | with_reducible refine x_partL ?_ | with_reducible refine x_partT ?_ | with_reducible refine x_listL ?_ | with_reducible refine x_listT ?_ | with_reducible refine x_iii ?_ | with_reducible refine x_ibi ?_ | with_reducible refine x_iss ?_ | with_reducible refine x_itt ?_ | with_reducible refine x_ill ?_ | with_reducible refine c_true ?_ | with_reducible refine c_false ?_ | with_reducible refine c_nt ?_ | with_reducible refine c_nf ?_ | with_reducible refine c_not ?_ | ((with_reducible apply w_FI); · rfl) | ((with_reducible apply w_oIx); · rfl) | ((with_reducible apply w_oLen); · rfl) | ((with_reducible apply w_oBin); · rfl) | ((with_reducible apply w_consO); · rfl) | ((with_reducible apply w_aug); · rfl) | ((with_reducible apply w_app); · rfl) | ((with_reducible apply w_oset); · rfl) | ((with_reducible apply w_ext); · rfl) | ((with_reducible apply w_retO); · rfl) | ((with_reducible apply w_frz); · rfl) | ((with_reducible apply e_ow); · rfl) | with_reducible refine e_bl ?_ | with_reducible refine e_int ?_ | with_reducible refine e_lst ?_ | with_reducible refine e_tup ?_ | with_reducible refine e_seqL ?_ | with_reducible refine e_seqT ?_ | with_reducible refine e_zipL ?_ | with_reducible refine e_zipT ?_ | with_reducible refine w_partI ?_ | with_reducible refine w_iSeq ?_ | with_reducible refine w_iEnum ?_ | with_reducible refine w_new ?_ | with_reducible refine w_rev ?_ | with_reducible refine w_revT ?_ | with_reducible refine w_slice ?_ | with_reducible refine y_le ?_ | with_reducible refine y_lt ?_ | with_reducible refine y_ge ?_ | with_reducible refine y_gt ?_ | ((with_reducible apply x_ixT); · rfl) | ((with_reducible apply x_ixL); · rfl) | ((with_reducible apply e_at); · rfl) | ((with_reducible apply x_mul); · rfl) | ((with_reducible apply e_ix); · rfl) | ((with_reducible apply x_div); · decide) | ((with_reducible apply x_mod); · decide) | with_reducible refine w_lst ?_ | with_reducible refine w_tup ?_ | ((with_reducible apply e_cap); · exact Nat.le_of_ble_eq_true rfl) | ((with_reducible apply e_set); · (simp only [List.set_cons_zero, List.set_cons_succ]; rfl)) | ((with_reducible apply e_setL); (· rfl); (· (simp only [List.set_cons_zero, List.set_cons_succ]; rfl))) | ((with_reducible apply e_par); (· rfl); (· (simp only [List.set_cons_zero, List.set_cons_succ]; rfl))) | ((with_reducible apply e_par3); (· rfl); (· (simp only [List.set_cons_zero, List.set_cons_succ]; rfl))) | ((with_reducible apply e_pt); (· rfl); (· (simp only [List.set_cons_zero, List.set_cons_succ]; rfl))) | ((with_reducible apply e_pT); · (simp only [pTs, pN, List.length_cons, List.length_nil, List.set_cons_zero, List.set_cons_succ, Nat.reduceAdd, Nat.reduceLT, ite_true, Option.some.injEq]; rfl))))
    refine ⟨rfl, rfl, fun _ => ?_⟩
    (repeat' (first | ((with_reducible refine c_decT ?_ ?_); · first | decide | rfl) | ((with_reducible refine c_decF ?_ ?_); · decide) | with_reducible refine w_seq ?_ | ((with_reducible apply w_var); · rfl) | with_reducible refine w_setN ?_ | with_reducible refine w_snew ?_ | with_reducible refine w_C ?_ | with_reducible refine w_bin ?_ | with_reducible refine w_un ?_ | with_reducible refine w_isi ?_ | with_reducible refine w_isi2 ?_ | with_reducible refine w_chain ?_ | with_reducible refine w_if ?_ | with_reducible refine w_nil ?_ | with_reducible refine w_cons ?_ | with_reducible refine w_F ?_ | with_reducible refine w_Fb ?_ | with_reducible refine w_FN ?_ | with_reducible refine w_noPart ?_ | with_reducible refine w_slice ?_ | with_reducible refine w_val ?_ | with_reducible refine w_tAnd ?_ | with_reducible refine w_tOr ?_ | with_reducible refine w_tNot ?_ | with_reducible refine w_tYes ?_ | with_reducible refine w_and ?_ | with_reducible refine w_or ?_ | with_reducible refine w_not ?_ | with_reducible refine w_iRng ?_ | with_reducible refine w_iRngD ?_ | with_reducible refine w_iZip ?_ | with_reducible refine w_fr ?_ | with_reducible refine w_tupL ?_ | with_reducible refine w_im ?_ | with_reducible refine w_ow ?_ | with_reducible refine w_set ?_ | with_reducible refine w_par ?_ | with_reducible refine w_expr ?_ | with_reducible refine w_ret ?_ | with_reducible refine w_retN ?_ | with_reducible refine w_pass ?_ | with_reducible refine w_break ?_ | with_reducible refine w_cont ?_ | with_reducible refine w_seq ?_ | with_reducible refine w_sif ?_ | with_reducible refine x_add ?_ | with_reducible refine x_addI ?_ | with_reducible refine x_sub ?_ | with_reducible refine x_neg ?_ | with_reducible refine x_lt ?_ | with_reducible refine x_le ?_ | with_reducible refine x_gt ?_ | with_reducible refine x_ge ?_ | with_reducible refine x_eqS ?_ | with_reducible refine x_eq ?_ | with_reducible refine x_ne ?_ | with_reducible refine x_isN ?_ | with_reducible refine x_notN ?_ | with_reducible refine x_isB ?_ | with_reducible refine x_notB ?_ | with_reducible refine x_lenL ?_ | with_reducible refine x_lenT ?_ | with_reducible refine x_max2 ?_ | with_reducible refine x_min2 ?_ | with_reducible refine x_abs ?_ | with_reducible refine x_tupleL ?_ | with_reducible refine x_tupleT ?_ | with_reducible refine x_partL ?_ | with_reducible refine x_partT ?_ | with_reducible refine x_listL ?_ | with_reducible refine x_listT ?_ | with_reducible refine x_iii ?_ | with_reducible refine x_ibi ?_ | with_reducible refine x_iss ?_ | with_reducible refine x_itt ?_ | with_reducible refine x_ill ?_ | with_reducible refine c_true ?_ | with_reducible refine c_false ?_ | with_reducible refine c_nt ?_ | with_reducible refine c_nf ?_ | with_reducible refine c_not ?_ | ((with_reducible apply w_FI); · rfl) | ((with_reducible apply w_oIx); · rfl) | ((with_reducible apply w_oLen); · rfl) | ((with_reducible apply w_oBin); · rfl) | ((with_reducible apply w_consO); · rfl) | ((with_reducible apply w_aug); · rfl) | ((with_reducible apply w_app); · rfl) | ((with_reducible apply w_oset); · rfl) | ((with_reducible apply w_ext); · rfl) | ((with_reducible apply w_retO); · rfl) | ((with_reducible apply w_frz); · rfl) | ((with_reducible apply e_ow); · rfl) | with_reducible refine e_bl ?_ | with_reducible refine e_int ?_ | with_reducible refine e_lst ?_ | with_reducible refine e_tup ?_ | with_reducible refine e_seqL ?_ | with_reducible refine e_seqT ?_ | with_reducible refine e_zipL ?_ | with_reducible refine e_zipT ?_ | with_reducible refine w_partI ?_ | with_reducible refine w_iSeq ?_ | with_reducible refine w_iEnum ?_ | with_reducible refine w_new ?_ | with_reducible refine w_rev ?_ | with_reducible refine w_revT ?_ | with_reducible refine w_slice ?_ | with_reducible refine y_le ?_ | with_reducible refine y_lt ?_ | with_reducible refine y_ge ?_ | with_reducible refine y_gt ?_ | ((with_reducible apply x_ixT); · rfl) | ((with_reducible apply x_ixL); · rfl) | ((with_reducible apply e_at); · rfl) | ((with_reducible apply x_mul); · rfl) | ((with_reducible apply e_ix); · rfl) | ((with_reducible apply x_div); · decide) | ((with_reducible apply x_mod); · decide) | with_reducible refine w_lst ?_ | with_reducible refine w_tup ?_ | ((with_reducible apply e_cap); · exact Nat.le_of_ble_eq_true rfl) | ((with_reducible apply e_set); · (simp only [List.set_cons_zero, List.set_cons_succ]; rfl)) | ((with_reducible apply e_setL); (· rfl); (· (simp only [List.set_cons_zero, List.set_cons_succ]; rfl))) | ((with_reducible apply e_par); (· rfl); (· (simp only [List.set_cons_zero, List.set_cons_succ]; rfl))) | ((with_reducible apply e_par3); (· rfl); (· (simp only [List.set_cons_zero, List.set_cons_succ]; rfl))) | ((with_reducible apply e_pt); (· rfl); (· (simp only [List.set_cons_zero, List.set_cons_succ]; rfl))) | ((with_reducible apply e_pT); · (simp only [pTs, pN, List.length_cons, List.length_nil, List.set_cons_zero, List.set_cons_succ, Nat.reduceAdd, Nat.reduceLT, ite_true, Option.some.injEq]; rfl))))
    refine ⟨_, is_command_eq (hs.2 c hc), rfl, rfl⟩
  · (repeat' (first | ((with_reducible refine c_decT ?_ ?_); · first | decide | rfl) | ((with_reducible refine c_decF ?_ ?_); · decide) | with_reducible refine w_seq ?_ | ((with_reducible apply w_var); · rfl) | with_reducible refine w_setN ?_ | with_reducible refine w_snew ?_ | with_reducible refine w_C ?_ | with_reducible refine w_bin ?_ | with_reducible refine w_un ?_ | with_reducible refine w_isi ?_ | with_reducible refine w_isi2 ?_ | with_reducible refine w_chain ?_ | with_reducible refine w_if ?_ | with_reducible refine w_nil ?_ | with_reducible refine w_cons ?_ | with_reducible refine w_F ?_ | with_reducible refine w_Fb ?_ | with_reducible refine w_FN ?_ | with_reducible refine w_noPart ?_ | with_reducible refine w_slice ?_ | with_reducible refine w_val ?_ | with_reducible refine w_tAnd ?_ | with_reducible refine w_tOr ?_ | with_reducible refine w_tNot ?_ | with_reducible refine w_tYes ?_ | with_reducible refine w_and ?_ | with_reducible refine w_or ?_ | with_reducible refine w_not ?_ | with_reducible refine w_iRng ?_ | with_reducible refine w_iRngD ?_ | with_reducible refine w_iZip ?_ | with_reducible refine w_fr ?_ | with_reducible refine w_tupL ?_ | with_reducible refine w_im ?_ | with_reducible refine w_ow ?_ | with_reducible refine w_set ?_ | with_reducible refine w_par ?_ | with_reducible refine w_expr ?_ | with_reducible refine w_ret ?_ | with_reducible refine w_retN ?_ | with_reducible refine w_pass ?_ | with_reducible refine w_break ?_ | with_reducible refine w_cont ?_ | with_reducible refine w_seq ?_ | with_reducible refine w_sif ?_ | with_reducible refine x_add ?_ | with_reducible refine x_addI ?_ | with_reducible refine x_sub ?_ | with_reducible refine x_neg ?_ | with_reducible refine x_lt ?_ | with_reducible refine x_le ?_ | with_reducible refine x_gt ?_ | with_reducible refine x_ge ?_ | with_reducible refine x_eqS ?_ | with_reducible refine x_eq ?_ | with_reducible refine x_ne ?_ | with_reducible refine x_isN ?_ | with_reducible refine x_notN ?_ | with_reducible refine x_isB ?_ | with_reducible refine x_notB ?_ | with_reducible refine x_lenL ?_ | with_reducible refine x_lenT ?_ | with_reducible refine x_max2 ?_ | with_reducible refine x_min2 ?_ | with_reducible refine x_abs ?_ | with_reducible refine x_tupleL ?_ | with_reducible refine x_tupleT ?_ | with_reducible refine x_partL ?_ | with_reducible refine x_partT ?_ | with_reducible refine x_listL ?_ | with_reducible refine x_listT ?_ | with_reducible refine x_iii ?_ | with_reducible refine x_ibi ?_ | with_reducible refine x_iss ?_ | with_reducible refine x_itt ?_ | with_reducible refine x_ill ?_ | with_reducible refine c_true ?_ | with_reducible refine c_false ?_ | with_reducible refine c_nt ?_ | with_reducible refine c_nf ?_ | with_reducible refine c_not ?_ | ((with_reducible apply w_FI); · rfl) | ((with_reducible apply w_oIx); · rfl) | ((with_reducible apply w_oLen); · rfl) | ((with_reducible apply w_oBin); · rfl) | ((with_reducible apply w_consO); · rfl) | ((with_reducible apply w_aug); · rfl) | ((with_reducible apply w_app); · rfl) | ((with_reducible apply w_oset); · rfl) | ((with_reducible apply w_ext); · rfl) | ((with_reducible apply w_retO); · rfl) | ((with_reducible apply w_frz); · rfl) | ((with_reducible apply e_ow); · rfl) | with_reducible refine e_bl ?_ | with_reducible refine e_int ?_ | with_reducible refine e_lst ?_ | with_reducible refine e_tup ?_ | with_reducible refine e_seqL ?_ | with_reducible refine e_seqT ?_ | with_reducible refine e_zipL ?_ | with_reducible refine e_zipT ?_ | with_reducible refine w_partI ?_ | with_reducible refine w_iSeq ?_ | with_reducible refine w_iEnum ?_ | with_reducible refine w_new ?_ | with_reducible refine w_rev ?_ | with_reducible refine w_revT ?_ | with_reducible refine w_slice ?_ | with_reducible refine y_le ?_ | with_reducible refine y_lt ?_ | with_reducible refine y_ge ?_ | with_reducible refine y_gt ?_ | ((with_reducible apply x_ixT); · rfl) | ((with_reducible apply x_ixL); · rfl) | ((with_reducible apply e_at); · rfl) | ((with_reducible apply x_mul); · rfl) | ((with_reducible apply e_ix); · rfl) | ((with_reducible apply x_div); · decide) | ((with_reducible apply x_mod); · decide) | with_reducible refine w_lst ?_ | with_reducible refine w_tup ?_ | ((with_reducible apply e_cap); · exact Nat.le_of_ble_eq_true rfl) | ((with_reducible apply e_set); · (simp only [List.set_cons_zero, List.set_cons_succ]; rfl)) | ((with_reducible apply e_setL); (· rfl); (· (simp only [List.set_cons_zero, List.set_cons_succ]; rfl))) | ((with_reducible apply e_par); (· rfl); (· (simp only [List.set_cons_zero, List.set_cons_succ]; rfl))) | ((with_reducible apply e_par3); (· rfl); (· (simp only [List.set_cons_zero, List.set_cons_succ]; rfl))) | ((with_reducible apply e_pt); (· rfl); (· (simp only [List.set_cons_zero, List.set_cons_succ]; rfl))) | ((with_reducible apply e_pT); · (simp only [pTs, pN, List.length_cons, List.length_nil, List.set_cons_zero, List.set_cons_succ, Nat.reduceAdd, Nat.reduceLT, ite_true, Option.some.injEq]; rfl))))
    refine ⟨.bl true, ?_, rfl⟩
    have e : List.map (fun _ => D.bl true) (List.filter (fun _ => true) (schL s)) = List.replicate s.length (.bl true) := by
      rw [List.filter_eq_self.mpr (fun _ _ => rfl), List.map_const', hl]
    rw [e]
    simp [fAll, all_true]
theorem check_schedule_eq {cap : Int} {s : List Cm} (h : Sok cap s) : f_check_schedule [.int cap, schD s] = some .non := by
  refine run_D (e := [.im (.int cap), .im (schD s)]) rfl rfl ?_
  unfold c_check_schedule
  (repeat' (first | ((with_reducible refine c_decT ?_ ?_); · first | decide | rfl) | ((with_reducible refine c_decF ?_ ?_); · decide) | (with_reducible refine ⟨_, are_commands_eq h, ?_⟩) | with_reducible refine w_seq ?_ | ((with_reducible apply w_var); · rfl) | with_reducible refine w_setN ?_ | with_reducible refine w_snew ?_ | with_reducible refine w_C ?_ | with_reducible refine w_bin ?_ | with_reducible refine w_un ?_ | with_reducible refine w_isi ?_ | with_reducible refine w_isi2 ?_ | with_reducible refine w_chain ?_ | with_reducible refine w_if ?_ | with_reducible refine w_nil ?_ | with_reducible refine w_cons ?_ | with_reducible refine w_F ?_ | with_reducible refine w_Fb ?_ | with_reducible refine w_FN ?_ | with_reducible refine w_noPart ?_ | with_reducible refine w_slice ?_ | with_reducible refine w_val ?_ | with_reducible refine w_tAnd ?_ | with_reducible refine w_tOr ?_ | with_reducible refine w_tNot ?_ | with_reducible refine w_tYes ?_ | with_reducible refine w_and ?_ | with_reducible refine w_or ?_ | with_reducible refine w_not ?_ | with_reducible refine w_iRng ?_ | with_reducible refine w_iRngD ?_ | with_reducible refine w_iZip ?_ | with_reducible refine w_fr ?_ | with_reducible refine w_tupL ?_ | with_reducible refine w_im ?_ | with_reducible refine w_ow ?_ | with_reducible refine w_set ?_ | with_reducible refine w_par ?_ | with_reducible refine w_expr ?_ | with_reducible refine w_ret ?_ | with_reducible refine w_retN ?_ | with_reducible refine w_pass ?_ | with_reducible refine w_break ?_ | with_reducible refine w_cont ?_ | with_reducible refine w_seq ?_ | with_reducible refine w_sif ?_ | with_reducible refine x_add ?_ | with_reducible refine x_addI ?_ | with_reducible refine x_sub ?_ | with_reducible refine x_neg ?_ | with_reducible refine x_lt ?_ | with_reducible refine x_le ?_ | with_reducible refine x_gt ?_ | with_reducible refine x_ge ?_ | with_reducible refine x_eqS ?_ | with_reducible refine x_eq ?_ | with_reducible refine x_ne ?_ | with_reducible refine x_isN ?_ | with_reducible refine x_notN ?_ | with_reducible refine x_isB ?_ | with_reducible refine x_notB ?_ | with_reducible refine x_lenL ?_ | with_reducible refine x_lenT ?_ | with_reducible refine x_max2 ?_ | with_reducible refine x_min2 ?_ | with_reducible refine x_abs ?_ | with_reducible refine x_tupleL ?_ | with_reducible refine x_tupleT ?_ | with_reducible refine x_partL ?_ | with_reducible refine x_partT ?_ | with_reducible refine x_listL ?_ | with_reducible refine x_listT ?_ | with_reducible refine x_iii ?_ | with_reducible refine x_ibi ?_ | with_reducible refine x_iss ?_ | with_reducible refine x_itt ?_ | with_reducible refine x_ill ?_ | with_reducible refine c_true ?_ | with_reducible refine c_false ?_ | with_reducible refine c_nt ?_ | with_reducible refine c_nf ?_ | with_reducible refine c_not ?_ | ((with_reducible apply w_FI); · rfl) | ((with_reducible apply w_oIx); · rfl) | ((with_reducible apply w_oLen); · rfl) | ((with_reducible apply w_oBin); · rfl) | ((with_reducible apply w_consO); · rfl) | ((with_reducible apply w_aug); · rfl) | ((with_reducible apply w_app); · rfl) | ((with_reducible apply w_oset); · rfl) | ((with_reducible apply w_ext); · rfl) | ((with_reducible apply w_retO); · rfl) | ((with_reducible apply w_frz); · rfl) | ((with_reducible apply e_ow); · rfl) | with_reducible refine e_bl ?_ | with_reducible refine e_int ?_ | with_reducible refine e_lst ?_ | with_reducible refine e_tup ?_ | with_reducible refine e_seqL ?_ | with_reducible refine e_seqT ?_ | with_reducible refine e_zipL ?_ | with_reducible refine e_zipT ?_ | with_reducible refine w_partI ?_ | with_reducible refine w_iSeq ?_ | with_reducible refine w_iEnum ?_ | with_reducible refine w_new ?_ | with_reducible refine w_rev ?_ | with_reducible refine w_revT ?_ | with_reducible refine w_slice ?_ | with_reducible refine y_le ?_ | with_reducible refine y_lt ?_ | with_reducible refine y_ge ?_ | with_reducible refine y_gt ?_ | ((with_reducible apply x_ixT); · rfl) | ((with_reducible apply x_ixL); · rfl) | ((with_reducible apply e_at); · rfl) | ((with_reducible apply x_mul); · rfl) | ((with_reducible apply e_ix); · rfl) | ((with_reducible apply x_div); · decide) | ((with_reducible apply x_mod); · decide) | with_reducible refine w_lst ?_ | with_reducible refine w_tup ?_ | ((with_reducible apply e_cap); · exact Nat.le_of_ble_eq_true rfl) | ((with_reducible apply e_set); · (simp only [List.set_cons_zero, List.set_cons_succ]; rfl)) | ((with_reducible apply e_setL); (· rfl); (· (simp only [List.set_cons_zero, List.set_cons_succ]; rfl))) | ((with_reducible apply e_par); (· rfl); (· (simp only [List.set_cons_zero, List.set_cons_succ]; rfl))) | ((with_reducible apply e_par3); (· rfl); (· (simp only [List.set_cons_zero, List.set_cons_succ]; rfl))) | ((with_reducible apply e_pt); (· rfl); (· (simp only [List.set_cons_zero, List.set_cons_succ]; rfl))) | ((with_reducible apply e_pT); · (simp only [pTs, pN, List.length_cons, List.length_nil, List.set_cons_zero, List.set_cons_succ, Nat.reduceAdd, Nat.reduceLT, ite_true, Option.some.injEq]; rfl))))
  rfl
theorem after_eq (l : Int) (c : Cm) : f_after [.int l, c.d] = some (.int (aft l c)) := by
  obtain ⟨ch, a, m⟩ := c
  cases ch with
  | true =>
    refine run_D (e := [.im (.int l), .im (.tup [.str "charge", .int a, .int m]), .un, .un, .un]) rfl rfl ?_
    unfold c_after
    (repeat' (first | ((with_reducible refine c_decT ?_ ?_); · first | decide | rfl) | ((with_reducible refine c_decF ?_ ?_); · decide) | (with_reducible refine c_dec (fun h => ?_) (fun h => ?_)) | with_reducible refine w_seq ?_ | ((with_reducible apply w_var); · rfl) | with_reducible refine w_setN ?_ | with_reducible refine w_snew ?_ | with_reducible refine w_C ?_ | with_reducible refine w_bin ?_ | with_reducible refine w_un ?_ | with_reducible refine w_isi ?_ | with_reducible refine w_isi2 ?_ | with_reducible refine w_chain ?_ | with_reducible refine w_if ?_ | with_reducible refine w_nil ?_ | with_reducible refine w_cons ?_ | with_reducible refine w_F ?_ | with_reducible refine w_Fb ?_ | with_reducible refine w_FN ?_ | with_reducible refine w_noPart ?_ | with_reducible refine w_slice ?_ | with_reducible refine w_val ?_ | with_reducible refine w_tAnd ?_ | with_reducible refine w_tOr ?_ | with_reducible refine w_tNot ?_ | with_reducible refine w_tYes ?_ | with_reducible refine w_and ?_ | with_reducible refine w_or ?_ | with_reducible refine w_not ?_ | with_reducible refine w_iRng ?_ | with_reducible refine w_iRngD ?_ | with_reducible refine w_iZip ?_ | with_reducible refine w_fr ?_ | with_reducible refine w_tupL ?_ | with_reducible refine w_im ?_ | with_reducible refine w_ow ?_ | with_reducible refine w_set ?_ | with_reducible refine w_par ?_ | with_reducible refine w_expr ?_ | with_reducible refine w_ret ?_ | with_reducible refine w_retN ?_ | with_reducible refine w_pass ?_ | with_reducible refine w_break ?_ | with_reducible refine w_cont ?_ | with_reducible refine w_seq ?_ | with_reducible refine w_sif ?_ | with_reducible refine x_add ?_ | with_reducible refine x_addI ?_ | with_reducible refine x_sub ?_ | with_reducible refine x_neg ?_ | with_reducible refine x_lt ?_ | with_reducible refine x_le ?_ | with_reducible refine x_gt ?_ | with_reducible refine x_ge ?_ | with_reducible refine x_eqS ?_ | with_reducible refine x_eq ?_ | with_reducible refine x_ne ?_ | with_reducible refine x_isN ?_ | with_reducible refine x_notN ?_ | with_reducible refine x_isB ?_ | with_reducible refine x_notB ?_ | with_reducible refine x_lenL ?_ | with_reducible refine x_lenT ?_ | with_reducible refine x_max2 ?_ | with_reducible refine x_min2 ?_ | with_reducible refine x_abs ?_ | with_reducible refine x_tupleL ?_ | with_reducible refine x_tupleT ?_ | with_reducible refine x_partL ?_ | with_reducible refine x_partT ?_ | with_reducible refine x_listL ?_ | with_reducible refine x_listT ?_ | with_reducible refine x_iii ?_ | with_reducible refine x_ibi ?_ | with_reducible refine x_iss ?_ | with_reducible refine x_itt ?_ | with_reducible refine x_ill ?_ | with_reducible refine c_true ?_ | with_reducible refine c_false ?_ | with_reducible refine c_nt ?_ | with_reducible refine c_nf ?_ | with_reducible refine c_not ?_ | ((with_reducible apply w_FI); · rfl) | ((with_reducible apply w_oIx); · rfl) | ((with_reducible apply w_oLen); · rfl) | ((with_reducible apply w_oBin); · rfl) | ((with_reducible apply w_consO); · rfl) | ((with_reducible apply w_aug); · rfl) | ((with_reducible apply w_app); · rfl) | ((with_reducible apply w_oset); · rfl) | ((with_reducible apply w_ext); · rfl) | ((with_reducible apply w_retO); · rfl) | ((with_reducible apply w_frz); · rfl) | ((with_reducible apply e_ow); · rfl) | with_reducible refine e_bl ?_ | with_reducible refine e_int ?_ | with_reducible refine e_lst ?_ | with_reducible refine e_tup ?_ | with_reducible refine e_seqL ?_ | with_reducible refine e_seqT ?_ | with_reducible refine e_zipL ?_ | with_reducible refine e_zipT ?_ | with_reducible refine w_partI ?_ | with_reducible refine w_iSeq ?_ | with_reducible refine w_iEnum ?_ | with_reducible refine w_new ?_ | with_reducible refine w_rev ?_ | with_reducible refine w_revT ?_ | with_reducible refine w_slice ?_ | with_reducible refine y_le ?_ | with_reducible refine y_lt ?_ | with_reducible refine y_ge ?_ | with_reducible refine y_gt ?_ | ((with_reducible apply x_ixT); · rfl) | ((with_reducible apply x_ixL); · rfl) | ((with_reducible apply e_at); · rfl) | ((with_reducible apply x_mul); · rfl) | ((with_reducible apply e_ix); · rfl) | ((with_reducible apply x_div); · decide) | ((with_reducible apply x_mod); · decide) | with_reducible refine w_lst ?_ | with_reducible refine w_tup ?_ | ((with_reducible apply e_cap); · exact Nat.le_of_ble_eq_true rfl) | ((with_reducible apply e_set); · (simp only [List.set_cons_zero, List.set_cons_succ]; rfl)) | ((with_reducible apply e_setL); (· rfl); (· (simp only [List.set_cons_zero, List.set_cons_succ]; rfl))) | ((with_reducible apply e_par); (· rfl); (· (simp only [List.set_cons_zero, List.set_cons_succ]; rfl))) | ((with_reducible apply e_par3); (· rfl); (· (simp only [List.set_cons_zero, List.set_cons_succ]; rfl))) | ((with_reducible apply e_pt); (· rfl); (· (simp only [List.set_cons_zero, List.set_cons_succ]; rfl))) | ((with_reducible apply e_pT); · (simp only [pTs, pN, List.length_cons, List.length_nil, List.set_cons_zero, List.set_cons_succ, Nat.reduceAdd, Nat.reduceLT, ite_true, Option.some.injEq]; rfl))))
    all_goals (simp only [Rv.im.injEq, D.int.injEq, aft, if_true]; repeat' split) <;> omega
  | false =>
    refine run_D (e := [.im (.int l), .im (.tup [.str "discharge", .int a, .int m]), .un, .un, .un]) rfl rfl ?_
    unfold c_after
    (repeat' (first | ((with_reducible refine c_decT ?_ ?_); · first | decide | rfl) | ((with_reducible refine c_decF ?_ ?_); · decide) | (with_reducible refine c_dec (fun h => ?_) (fun h => ?_)) | with_reducible refine w_seq ?_ | ((with_reducible apply w_var); · rfl) | with_reducible refine w_setN ?_ | with_reducible refine w_snew ?_ | with_reducible refine w_C ?_ | with_reducible refine w_bin ?_ | with_reducible refine w_un ?_ | with_reducible refine w_isi ?_ | with_reducible refine w_isi2 ?_ | with_reducible refine w_chain ?_ | with_reducible refine w_if ?_ | with_reducible refine w_nil ?_ | with_reducible refine w_cons ?_ | with_reducible refine w_F ?_ | with_reducible refine w_Fb ?_ | with_reducible refine w_FN ?_ | with_reducible refine w_noPart ?_ | with_reducible refine w_slice ?_ | with_reducible refine w_val ?_ | with_reducible refine w_tAnd ?_ | with_reducible refine w_tOr ?_ | with_reducible refine w_tNot ?_ | with_reducible refine w_tYes ?_ | with_reducible refine w_and ?_ | with_reducible refine w_or ?_ | with_reducible refine w_not ?_ | with_reducible refine w_iRng ?_ | with_reducible refine w_iRngD ?_ | with_reducible refine w_iZip ?_ | with_reducible refine w_fr ?_ | with_reducible refine w_tupL ?_ | with_reducible refine w_im ?_ | with_reducible refine w_ow ?_ | with_reducible refine w_set ?_ | with_reducible refine w_par ?_ | with_reducible refine w_expr ?_ | with_reducible refine w_ret ?_ | with_reducible refine w_retN ?_ | with_reducible refine w_pass ?_ | with_reducible refine w_break ?_ | with_reducible refine w_cont ?_ | with_reducible refine w_seq ?_ | with_reducible refine w_sif ?_ | with_reducible refine x_add ?_ | with_reducible refine x_addI ?_ | with_reducible refine x_sub ?_ | with_reducible refine x_neg ?_ | with_reducible refine x_lt ?_ | with_reducible refine x_le ?_ | with_reducible refine x_gt ?_ | with_reducible refine x_ge ?_ | with_reducible refine x_eqS ?_ | with_reducible refine x_eq ?_ | with_reducible refine x_ne ?_ | with_reducible refine x_isN ?_ | with_reducible refine x_notN ?_ | with_reducible refine x_isB ?_ | with_reducible refine x_notB ?_ | with_reducible refine x_lenL ?_ | with_reducible refine x_lenT ?_ | with_reducible refine x_max2 ?_ | with_reducible refine x_min2 ?_ | with_reducible refine x_abs ?_ | with_reducible refine x_tupleL ?_ | with_reducible refine x_tupleT ?_ | with_reducible refine x_partL ?_ | with_reducible refine x_partT ?_ | with_reducible refine x_listL ?_ | with_reducible refine x_listT ?_ | with_reducible refine x_iii ?_ | with_reducible refine x_ibi ?_ | with_reducible refine x_iss ?_ | with_reducible refine x_itt ?_ | with_reducible refine x_ill ?_ | with_reducible refine c_true ?_ | with_reducible refine c_false ?_ | with_reducible refine c_nt ?_ | with_reducible refine c_nf ?_ | with_reducible refine c_not ?_ | ((with_reducible apply w_FI); · rfl) | ((with_reducible apply w_oIx); · rfl) | ((with_reducible apply w_oLen); · rfl) | ((with_reducible apply w_oBin); · rfl) | ((with_reducible apply w_consO); · rfl) | ((with_reducible apply w_aug); · rfl) | ((with_reducible apply w_app); · rfl) | ((with_reducible apply w_oset); · rfl) | ((with_reducible apply w_ext); · rfl) | ((with_reducible apply w_retO); · rfl) | ((with_reducible apply w_frz); · rfl) | ((with_reducible apply e_ow); · rfl) | with_reducible refine e_bl ?_ | with_reducible refine e_int ?_ | with_reducible refine e_lst ?_ | with_reducible refine e_tup ?_ | with_reducible refine e_seqL ?_ | with_reducible refine e_seqT ?_ | with_reducible refine e_zipL ?_ | with_reducible refine e_zipT ?_ | with_reducible refine w_partI ?_ | with_reducible refine w_iSeq ?_ | with_reducible refine w_iEnum ?_ | with_reducible refine w_new ?_ | with_reducible refine w_rev ?_ | with_reducible refine w_revT ?_ | with_reducible refine w_slice ?_ | with_reducible refine y_le ?_ | with_reducible refine y_lt ?_ | with_reducible refine y_ge ?_ | with_reducible refine y_gt ?_ | ((with_reducible apply x_ixT); · rfl) | ((with_reducible apply x_ixL); · rfl) | ((with_reducible apply e_at); · rfl) | ((with_reducible apply x_mul); · rfl) | ((with_reducible apply e_ix); · rfl) | ((with_reducible apply x_div); · decide) | ((with_reducible apply x_mod); · decide) | with_reducible refine w_lst ?_ | with_reducible refine w_tup ?_ | ((with_reducible apply e_cap); · exact Nat.le_of_ble_eq_true rfl) | ((with_reducible apply e_set); · (simp only [List.set_cons_zero, List.set_cons_succ]; rfl)) | ((with_reducible apply e_setL); (· rfl); (· (simp only [List.set_cons_zero, List.set_cons_succ]; rfl))) | ((with_reducible apply e_par); (· rfl); (· (simp only [List.set_cons_zero, List.set_cons_succ]; rfl))) | ((with_reducible apply e_par3); (· rfl); (· (simp only [List.set_cons_zero, List.set_cons_succ]; rfl))) | ((with_reducible apply e_pt); (· rfl); (· (simp only [List.set_cons_zero, List.set_cons_succ]; rfl))) | ((with_reducible apply e_pT); · (simp only [pTs, pN, List.length_cons, List.length_nil, List.set_cons_zero, List.set_cons_succ, Nat.reduceAdd, Nat.reduceLT, ite_true, Option.some.injEq]; rfl))))
    all_goals (simp only [Rv.im.injEq, D.int.injEq, aft, if_neg Bool.false_ne_true]; repeat' split) <;> omega
theorem levels_from_eq (s : List Cm) (l : Int) (hs : s.length ≤ 60) : f_levels_from [schD s, .int l] = some (iL (lvs s l)) := by
  refine run_N (e := [.im (schD s), .im (.int l), .un, .un]) rfl rfl ?_
  unfold c_levels_from
  (repeat' (first | ((with_reducible refine c_decT ?_ ?_); · first | decide | rfl) | ((with_reducible refine c_decF ?_ ?_); · decide) | with_reducible refine w_seq ?_ | ((with_reducible apply w_var); · rfl) | with_reducible refine w_setN ?_ | with_reducible refine w_snew ?_ | with_reducible refine w_C ?_ | with_reducible refine w_bin ?_ | with_reducible refine w_un ?_ | with_reducible refine w_isi ?_ | with_reducible refine w_isi2 ?_ | with_reducible refine w_chain ?_ | with_reducible refine w_if ?_ | with_reducible refine w_nil ?_ | with_reducible refine w_cons ?_ | with_reducible refine w_F ?_ | with_reducible refine w_Fb ?_ | with_reducible refine w_FN ?_ | with_reducible refine w_noPart ?_ | with_reducible refine w_slice ?_ | with_reducible refine w_val ?_ | with_reducible refine w_tAnd ?_ | with_reducible refine w_tOr ?_ | with_reducible refine w_tNot ?_ | with_reducible refine w_tYes ?_ | with_reducible refine w_and ?_ | with_reducible refine w_or ?_ | with_reducible refine w_not ?_ | with_reducible refine w_iRng ?_ | with_reducible refine w_iRngD ?_ | with_reducible refine w_iZip ?_ | with_reducible refine w_fr ?_ | with_reducible refine w_tupL ?_ | with_reducible refine w_im ?_ | with_reducible refine w_ow ?_ | with_reducible refine w_set ?_ | with_reducible refine w_par ?_ | with_reducible refine w_expr ?_ | with_reducible refine w_ret ?_ | with_reducible refine w_retN ?_ | with_reducible refine w_pass ?_ | with_reducible refine w_break ?_ | with_reducible refine w_cont ?_ | with_reducible refine w_seq ?_ | with_reducible refine w_sif ?_ | with_reducible refine x_add ?_ | with_reducible refine x_addI ?_ | with_reducible refine x_sub ?_ | with_reducible refine x_neg ?_ | with_reducible refine x_lt ?_ | with_reducible refine x_le ?_ | with_reducible refine x_gt ?_ | with_reducible refine x_ge ?_ | with_reducible refine x_eqS ?_ | with_reducible refine x_eq ?_ | with_reducible refine x_ne ?_ | with_reducible refine x_isN ?_ | with_reducible refine x_notN ?_ | with_reducible refine x_isB ?_ | with_reducible refine x_notB ?_ | with_reducible refine x_lenL ?_ | with_reducible refine x_lenT ?_ | with_reducible refine x_max2 ?_ | with_reducible refine x_min2 ?_ | with_reducible refine x_abs ?_ | with_reducible refine x_tupleL ?_ | with_reducible refine x_tupleT ?_ | with_reducible refine x_partL ?_ | with_reducible refine x_partT ?_ | with_reducible refine x_listL ?_ | with_reducible refine x_listT ?_ | with_reducible refine x_iii ?_ | with_reducible refine x_ibi ?_ | with_reducible refine x_iss ?_ | with_reducible refine x_itt ?_ | with_reducible refine x_ill ?_ | with_reducible refine c_true ?_ | with_reducible refine c_false ?_ | with_reducible refine c_nt ?_ | with_reducible refine c_nf ?_ | with_reducible refine c_not ?_ | ((with_reducible apply w_FI); · rfl) | ((with_reducible apply w_oIx); · rfl) | ((with_reducible apply w_oLen); · rfl) | ((with_reducible apply w_oBin); · rfl) | ((with_reducible apply w_consO); · rfl) | ((with_reducible apply w_aug); · rfl) | ((with_reducible apply w_app); · rfl) | ((with_reducible apply w_oset); · rfl) | ((with_reducible apply w_ext); · rfl) | ((with_reducible apply w_retO); · rfl) | ((with_reducible apply w_frz); · rfl) | ((with_reducible apply e_ow); · rfl) | with_reducible refine e_bl ?_ | with_reducible refine e_int ?_ | with_reducible refine e_lst ?_ | with_reducible refine e_tup ?_ | with_reducible refine e_seqL ?_ | with_reducible refine e_seqT ?_ | with_reducible refine e_zipL ?_ | with_reducible refine e_zipT ?_ | with_reducible refine w_partI ?_ | with_reducible refine w_iSeq ?_ | with_reducible refine w_iEnum ?_ | with_reducible refine w_new ?_ | with_reducible refine w_rev ?_ | with_reducible refine w_revT ?_ | with_reducible refine w_slice ?_ | with_reducible refine y_le ?_ | with_reducible refine y_lt ?_ | with_reducible refine y_ge ?_ | with_reducible refine y_gt ?_ | ((with_reducible apply x_ixT); · rfl) | ((with_reducible apply x_ixL); · rfl) | ((with_reducible apply e_at); · rfl) | ((with_reducible apply x_mul); · rfl) | ((with_reducible apply e_ix); · rfl) | ((with_reducible apply x_div); · decide) | ((with_reducible apply x_mod); · decide) | with_reducible refine w_lst ?_ | with_reducible refine w_tup ?_ | ((with_reducible apply e_cap); · exact Nat.le_of_ble_eq_true rfl) | ((with_reducible apply e_set); · (simp only [List.set_cons_zero, List.set_cons_succ]; rfl)) | ((with_reducible apply e_setL); (· rfl); (· (simp only [List.set_cons_zero, List.set_cons_succ]; rfl))) | ((with_reducible apply e_par); (· rfl); (· (simp only [List.set_cons_zero, List.set_cons_succ]; rfl))) | ((with_reducible apply e_par3); (· rfl); (· (simp only [List.set_cons_zero, List.set_cons_succ]; rfl))) | ((with_reducible apply e_pt); (· rfl); (· (simp only [List.set_cons_zero, List.set_cons_succ]; rfl))) | ((with_reducible apply e_pT); · (simp only [pTs, pN, List.length_cons, List.length_nil, List.set_cons_zero, List.set_cons_succ, Nat.reduceAdd, Nat.reduceLT, ite_true, Option.some.injEq]; rfl))))
  refine w_forI (fun ds e => ∃ (p : List Int) (r : List Cm) (x : Int) (w : Sl), ds = schL r ∧ e = [.im (schD s), .im (.int l), .ow (iL (p ++ [x])), w] ∧ p ++ lvs r x = lvs s l ∧ p.length + r.length ≤ 60) ?_ ?_ ?_
  · unfold schD
    (repeat' (first | ((with_reducible refine c_decT ?_ ?_); · first | decide | rfl) | ((with_reducible refine c_decF ?_ ?_); · decide) | with_reducible refine w_seq ?_ | ((with_reducible apply w_var); · rfl) | with_reducible refine w_setN ?_ | with_reducible refine w_snew ?_ | with_reducible refine w_C ?_ | with_reducible refine w_bin ?_ | with_reducible refine w_un ?_ | with_reducible refine w_isi ?_ | with_reducible refine w_isi2 ?_ | with_reducible refine w_chain ?_ | with_reducible refine w_if ?_ | with_reducible refine w_nil ?_ | with_reducible refine w_cons ?_ | with_reducible refine w_F ?_ | with_reducible refine w_Fb ?_ | with_reducible refine w_FN ?_ | with_reducible refine w_noPart ?_ | with_reducible refine w_slice ?_ | with_reducible refine w_val ?_ | with_reducible refine w_tAnd ?_ | with_reducible refine w_tOr ?_ | with_reducible refine w_tNot ?_ | with_reducible refine w_tYes ?_ | with_reducible refine w_and ?_ | with_reducible refine w_or ?_ | with_reducible refine w_not ?_ | with_reducible refine w_iRng ?_ | with_reducible refine w_iRngD ?_ | with_reducible refine w_iZip ?_ | with_reducible refine w_fr ?_ | with_reducible refine w_tupL ?_ | with_reducible refine w_im ?_ | with_reducible refine w_ow ?_ | with_reducible refine w_set ?_ | with_reducible refine w_par ?_ | with_reducible refine w_expr ?_ | with_reducible refine w_ret ?_ | with_reducible refine w_retN ?_ | with_reducible refine w_pass ?_ | with_reducible refine w_break ?_ | with_reducible refine w_cont ?_ | with_reducible refine w_seq ?_ | with_reducible refine w_sif ?_ | with_reducible refine x_add ?_ | with_reducible refine x_addI ?_ | with_reducible refine x_sub ?_ | with_reducible refine x_neg ?_ | with_reducible refine x_lt ?_ | with_reducible refine x_le ?_ | with_reducible refine x_gt ?_ | with_reducible refine x_ge ?_ | with_reducible refine x_eqS ?_ | with_reducible refine x_eq ?_ | with_reducible refine x_ne ?_ | with_reducible refine x_isN ?_ | with_reducible refine x_notN ?_ | with_reducible refine x_isB ?_ | with_reducible refine x_notB ?_ | with_reducible refine x_lenL ?_ | with_reducible refine x_lenT ?_ | with_reducible refine x_max2 ?_ | with_reducible refine x_min2 ?_ | with_reducible refine x_abs ?_ | with_reducible refine x_tupleL ?_ | with_reducible refine x_tupleT ?_ | with_reducible refine x_partL ?_ | with_reducible refine x_partT ?_ | with_reducible refine x_listL ?_ | with_reducible refine x_listT ?_ | with_reducible refine x_iii ?_ | with_reducible refine x_ibi ?_ | with_reducible refine x_iss ?_ | with_reducible refine x_itt ?_ | with_reducible refine x_ill ?_ | with_reducible refine c_true ?_ | with_reducible refine c_false ?_ | with_reducible refine c_nt ?_ | with_reducible refine c_nf ?_ | with_reducible refine c_not ?_ | ((with_reducible apply w_FI); · rfl) | ((with_reducible apply w_oIx); · rfl) | ((with_reducible apply w_oLen); · rfl) | ((with_reducible apply w_oBin); · rfl) | ((with_reducible apply w_consO); · rfl) | ((with_reducible apply w_aug); · rfl) | ((with_reducible apply w_app); · rfl) | ((with_reducible apply w_oset); · rfl) | ((with_reducible apply w_ext); · rfl) | ((with_reducible apply w_retO); · rfl) | ((with_reducible apply w_frz); · rfl) | ((with_reducible apply e_ow); · rfl) | with_reducible refine e_bl ?_ | with_reducible refine e_int ?_ | with_reducible refine e_lst ?_ | with_reducible refine e_tup ?_ | with_reducible refine e_seqL ?_ | with_reducible refine e_seqT ?_ | with_reducible refine e_zipL ?_ | with_reducible refine e_zipT ?_ | with_reducible refine w_partI ?_ | with_reducible refine w_iSeq ?_ | with_reducible refine w_iEnum ?_ | with_reducible refine w_new ?_ | with_reducible refine w_rev ?_ | with_reducible refine w_revT ?_ | with_reducible refine w_slice ?_ | with_reducible refine y_le ?_ | with_reducible refine y_lt ?_ | with_reducible refine y_ge ?_ | with_reducible refine y_gt ?_ | ((with_reducible apply x_ixT); · rfl) | ((with_reducible apply x_ixL); · rfl) | ((with_reducible apply e_at); · rfl) | ((with_reducible apply x_mul); · rfl) | ((with_reducible apply e_ix); · rfl) | ((with_reducible apply x_div); · decide) | ((with_reducible apply x_mod); · decide) | with_reducible refine w_lst ?_ | with_reducible refine w_tup ?_ | ((with_reducible apply e_cap); · exact Nat.le_of_ble_eq_true rfl) | ((with_reducible apply e_set); · (simp only [List.set_cons_zero, List.set_cons_succ]; rfl)) | ((with_reducible apply e_setL); (· rfl); (· (simp only [List.set_cons_zero, List.set_cons_succ]; rfl))) | ((with_reducible apply e_par); (· rfl); (· (simp only [List.set_cons_zero, List.set_cons_succ]; rfl))) | ((with_reducible apply e_par3); (· rfl); (· (simp only [List.set_cons_zero, List.set_cons_succ]; rfl))) | ((with_reducible apply e_pt); (· rfl); (· (simp only [List.set_cons_zero, List.set_cons_succ]; rfl))) | ((with_reducible apply e_pT); · (simp only [pTs, pN, List.length_cons, List.length_nil, List.set_cons_zero, List.set_cons_succ, Nat.reduceAdd, Nat.reduceLT, ite_true, Option.some.injEq]; rfl))))
    exact ⟨[], s, l, .un, rfl, rfl, rfl, by simpa using hs⟩
  · rintro d ds e ⟨p, r, x, w, h1, rfl, h3, h4⟩
    cases r with
    | nil => simp [schL] at h1
    | cons c r =>
      simp only [schL, List.map, List.cons.injEq] at h1
      obtain ⟨rfl, rfl⟩ := h1
      (repeat' (first | ((with_reducible refine c_decT ?_ ?_); · first | decide | rfl) | ((with_reducible refine c_decF ?_ ?_); · decide) | with_reducible refine w_seq ?_ | ((with_reducible apply w_var); · rfl) | with_reducible refine w_setN ?_ | with_reducible refine w_snew ?_ | with_reducible refine w_C ?_ | with_reducible refine w_bin ?_ | with_reducible refine w_un ?_ | with_reducible refine w_isi ?_ | with_reducible refine w_isi2 ?_ | with_reducible refine w_chain ?_ | with_reducible refine w_if ?_ | with_reducible refine w_nil ?_ | with_reducible refine w_cons ?_ | with_reducible refine w_F ?_ | with_reducible refine w_Fb ?_ | with_reducible refine w_FN ?_ | with_reducible refine w_noPart ?_ | with_reducible refine w_slice ?_ | with_reducible refine w_val ?_ | with_reducible refine w_tAnd ?_ | with_reducible refine w_tOr ?_ | with_reducible refine w_tNot ?_ | with_reducible refine w_tYes ?_ | with_reducible refine w_and ?_ | with_reducible refine w_or ?_ | with_reducible refine w_not ?_ | with_reducible refine w_iRng ?_ | with_reducible refine w_iRngD ?_ | with_reducible refine w_iZip ?_ | with_reducible refine w_fr ?_ | with_reducible refine w_tupL ?_ | with_reducible refine w_im ?_ | with_reducible refine w_ow ?_ | with_reducible refine w_set ?_ | with_reducible refine w_par ?_ | with_reducible refine w_expr ?_ | with_reducible refine w_ret ?_ | with_reducible refine w_retN ?_ | with_reducible refine w_pass ?_ | with_reducible refine w_break ?_ | with_reducible refine w_cont ?_ | with_reducible refine w_seq ?_ | with_reducible refine w_sif ?_ | with_reducible refine x_add ?_ | with_reducible refine x_addI ?_ | with_reducible refine x_sub ?_ | with_reducible refine x_neg ?_ | with_reducible refine x_lt ?_ | with_reducible refine x_le ?_ | with_reducible refine x_gt ?_ | with_reducible refine x_ge ?_ | with_reducible refine x_eqS ?_ | with_reducible refine x_eq ?_ | with_reducible refine x_ne ?_ | with_reducible refine x_isN ?_ | with_reducible refine x_notN ?_ | with_reducible refine x_isB ?_ | with_reducible refine x_notB ?_ | with_reducible refine x_lenL ?_ | with_reducible refine x_lenT ?_ | with_reducible refine x_max2 ?_ | with_reducible refine x_min2 ?_ | with_reducible refine x_abs ?_ | with_reducible refine x_tupleL ?_ | with_reducible refine x_tupleT ?_ | with_reducible refine x_partL ?_ | with_reducible refine x_partT ?_ | with_reducible refine x_listL ?_ | with_reducible refine x_listT ?_ | with_reducible refine x_iii ?_ | with_reducible refine x_ibi ?_ | with_reducible refine x_iss ?_ | with_reducible refine x_itt ?_ | with_reducible refine x_ill ?_ | with_reducible refine c_true ?_ | with_reducible refine c_false ?_ | with_reducible refine c_nt ?_ | with_reducible refine c_nf ?_ | with_reducible refine c_not ?_ | ((with_reducible apply w_FI); · rfl) | ((with_reducible apply w_oIx); · rfl) | ((with_reducible apply w_oLen); · rfl) | ((with_reducible apply w_oBin); · rfl) | ((with_reducible apply w_consO); · rfl) | ((with_reducible apply w_aug); · rfl) | ((with_reducible apply w_app); · rfl) | ((with_reducible apply w_oset); · rfl) | ((with_reducible apply w_ext); · rfl) | ((with_reducible apply w_retO); · rfl) | ((with_reducible apply w_frz); · rfl) | ((with_reducible apply e_ow); · rfl) | with_reducible refine e_bl ?_ | with_reducible refine e_int ?_ | with_reducible refine e_lst ?_ | with_reducible refine e_tup ?_ | with_reducible refine e_seqL ?_ | with_reducible refine e_seqT ?_ | with_reducible refine e_zipL ?_ | with_reducible refine e_zipT ?_ | with_reducible refine w_partI ?_ | with_reducible refine w_iSeq ?_ | with_reducible refine w_iEnum ?_ | with_reducible refine w_new ?_ | with_reducible refine w_rev ?_ | with_reducible refine w_revT ?_ | with_reducible refine w_slice ?_ | with_reducible refine y_le ?_ | with_reducible refine y_lt ?_ | with_reducible refine y_ge ?_ | with_reducible refine y_gt ?_ | ((with_reducible apply x_ixT); · rfl) | ((with_reducible apply x_ixL); · rfl) | ((with_reducible apply e_at); · rfl) | ((with_reducible apply x_mul); · rfl) | ((with_reducible apply e_ix); · rfl) | ((with_reducible apply x_div); · decide) | ((with_reducible apply x_mod); · decide) | with_reducible refine w_lst ?_ | with_reducible refine w_tup ?_ | ((with_reducible apply e_cap); · exact Nat.le_of_ble_eq_true rfl) | ((with_reducible apply e_set); · (simp only [List.set_cons_zero, List.set_cons_succ]; rfl)) | ((with_reducible apply e_setL); (· rfl); (· (simp only [List.set_cons_zero, List.set_cons_succ]; rfl))) | ((with_reducible apply e_par); (· rfl); (· (simp only [List.set_cons_zero, List.set_cons_succ]; rfl))) | ((with_reducible apply e_par3); (· rfl); (· (simp only [List.set_cons_zero, List.set_cons_succ]; rfl))) | ((with_reducible apply e_pt); (· rfl); (· (simp only [List.set_cons_zero, List.set_cons_succ]; rfl))) | ((with_reducible apply e_pT); · (simp only [pTs, pN, List.length_cons, List.length_nil, List.set_cons_zero, List.set_cons_succ, Nat.reduceAdd, Nat.reduceLT, ite_true, Option.some.injEq]; rfl))))
      refine ⟨_, at_last (d := .int x) (by simp [iL]), ?_⟩
      (repeat' (first | ((with_reducible refine c_decT ?_ ?_); · first | decide | rfl) | ((with_reducible refine c_decF ?_ ?_); · decide) | with_reducible refine w_seq ?_ | ((with_reducible apply w_var); · rfl) | with_reducible refine w_setN ?_ | with_reducible refine w_snew ?_ | with_reducible refine w_C ?_ | with_reducible refine w_bin ?_ | with_reducible refine w_un ?_ | with_reducible refine w_isi ?_ | with_reducible refine w_isi2 ?_ | with_reducible refine w_chain ?_ | with_reducible refine w_if ?_ | with_reducible refine w_nil ?_ | with_reducible refine w_cons ?_ | with_reducible refine w_F ?_ | with_reducible refine w_Fb ?_ | with_reducible refine w_FN ?_ | with_reducible refine w_noPart ?_ | with_reducible refine w_slice ?_ | with_reducible refine w_val ?_ | with_reducible refine w_tAnd ?_ | with_reducible refine w_tOr ?_ | with_reducible refine w_tNot ?_ | with_reducible refine w_tYes ?_ | with_reducible refine w_and ?_ | with_reducible refine w_or ?_ | with_reducible refine w_not ?_ | with_reducible refine w_iRng ?_ | with_reducible refine w_iRngD ?_ | with_reducible refine w_iZip ?_ | with_reducible refine w_fr ?_ | with_reducible refine w_tupL ?_ | with_reducible refine w_im ?_ | with_reducible refine w_ow ?_ | with_reducible refine w_set ?_ | with_reducible refine w_par ?_ | with_reducible refine w_expr ?_ | with_reducible refine w_ret ?_ | with_reducible refine w_retN ?_ | with_reducible refine w_pass ?_ | with_reducible refine w_break ?_ | with_reducible refine w_cont ?_ | with_reducible refine w_seq ?_ | with_reducible refine w_sif ?_ | with_reducible refine x_add ?_ | with_reducible refine x_addI ?_ | with_reducible refine x_sub ?_ | with_reducible refine x_neg ?_ | with_reducible refine x_lt ?_ | with_reducible refine x_le ?_ | with_reducible refine x_gt ?_ | with_reducible refine x_ge ?_ | with_reducible refine x_eqS ?_ | with_reducible refine x_eq ?_ | with_reducible refine x_ne ?_ | with_reducible refine x_isN ?_ | with_reducible refine x_notN ?_ | with_reducible refine x_isB ?_ | with_reducible refine x_notB ?_ | with_reducible refine x_lenL ?_ | with_reducible refine x_lenT ?_ | with_reducible refine x_max2 ?_ | with_reducible refine x_min2 ?_ | with_reducible refine x_abs ?_ | with_reducible refine x_tupleL ?_ | with_reducible refine x_tupleT ?_ | with_reducible refine x_partL ?_ | with_reducible refine x_partT ?_ | with_reducible refine x_listL ?_ | with_reducible refine x_listT ?_ | with_reducible refine x_iii ?_ | with_reducible refine x_ibi ?_ | with_reducible refine x_iss ?_ | with_reducible refine x_itt ?_ | with_reducible refine x_ill ?_ | with_reducible refine c_true ?_ | with_reducible refine c_false ?_ | with_reducible refine c_nt ?_ | with_reducible refine c_nf ?_ | with_reducible refine c_not ?_ | ((with_reducible apply w_FI); · rfl) | ((with_reducible apply w_oIx); · rfl) | ((with_reducible apply w_oLen); · rfl) | ((with_reducible apply w_oBin); · rfl) | ((with_reducible apply w_consO); · rfl) | ((with_reducible apply w_aug); · rfl) | ((with_reducible apply w_app); · rfl) | ((with_reducible apply w_oset); · rfl) | ((with_reducible apply w_ext); · rfl) | ((with_reducible apply w_retO); · rfl) | ((with_reducible apply w_frz); · rfl) | ((with_reducible apply e_ow); · rfl) | with_reducible refine e_bl ?_ | with_reducible refine e_int ?_ | with_reducible refine e_lst ?_ | with_reducible refine e_tup ?_ | with_reducible refine e_seqL ?_ | with_reducible refine e_seqT ?_ | with_reducible refine e_zipL ?_ | with_reducible refine e_zipT ?_ | with_reducible refine w_partI ?_ | with_reducible refine w_iSeq ?_ | with_reducible refine w_iEnum ?_ | with_reducible refine w_new ?_ | with_reducible refine w_rev ?_ | with_reducible refine w_revT ?_ | with_reducible refine w_slice ?_ | with_reducible refine y_le ?_ | with_reducible refine y_lt ?_ | with_reducible refine y_ge ?_ | with_reducible refine y_gt ?_ | ((with_reducible apply x_ixT); · rfl) | ((with_reducible apply x_ixL); · rfl) | ((with_reducible apply e_at); · rfl) | ((with_reducible apply x_mul); · rfl) | ((with_reducible apply e_ix); · rfl) | ((with_reducible apply x_div); · decide) | ((with_reducible apply x_mod); · decide) | with_reducible refine w_lst ?_ | with_reducible refine w_tup ?_ | ((with_reducible apply e_cap); · exact Nat.le_of_ble_eq_true rfl) | ((with_reducible apply e_set); · (simp only [List.set_cons_zero, List.set_cons_succ]; rfl)) | ((with_reducible apply e_setL); (· rfl); (· (simp only [List.set_cons_zero, List.set_cons_succ]; rfl))) | ((with_reducible apply e_par); (· rfl); (· (simp only [List.set_cons_zero, List.set_cons_succ]; rfl))) | ((with_reducible apply e_par3); (· rfl); (· (simp only [List.set_cons_zero, List.set_cons_succ]; rfl))) | ((with_reducible apply e_pt); (· rfl); (· (simp only [List.set_cons_zero, List.set_cons_succ]; rfl))) | ((with_reducible apply e_pT); · (simp only [pTs, pN, List.length_cons, List.length_nil, List.set_cons_zero, List.set_cons_succ, Nat.reduceAdd, Nat.reduceLT, ite_true, Option.some.injEq]; rfl))))
      refine ⟨_, after_eq x c, ?_⟩
      (repeat' (first | ((with_reducible refine c_decT ?_ ?_); · first | decide | rfl) | ((with_reducible refine c_decF ?_ ?_); · decide) | with_reducible refine w_seq ?_ | ((with_reducible apply w_var); · rfl) | with_reducible refine w_setN ?_ | with_reducible refine w_snew ?_ | with_reducible refine w_C ?_ | with_reducible refine w_bin ?_ | with_reducible refine w_un ?_ | with_reducible refine w_isi ?_ | with_reducible refine w_isi2 ?_ | with_reducible refine w_chain ?_ | with_reducible refine w_if ?_ | with_reducible refine w_nil ?_ | with_reducible refine w_cons ?_ | with_reducible refine w_F ?_ | with_reducible refine w_Fb ?_ | with_reducible refine w_FN ?_ | with_reducible refine w_noPart ?_ | with_reducible refine w_slice ?_ | with_reducible refine w_val ?_ | with_reducible refine w_tAnd ?_ | with_reducible refine w_tOr ?_ | with_reducible refine w_tNot ?_ | with_reducible refine w_tYes ?_ | with_reducible refine w_and ?_ | with_reducible refine w_or ?_ | with_reducible refine w_not ?_ | with_reducible refine w_iRng ?_ | with_reducible refine w_iRngD ?_ | with_reducible refine w_iZip ?_ | with_reducible refine w_fr ?_ | with_reducible refine w_tupL ?_ | with_reducible refine w_im ?_ | with_reducible refine w_ow ?_ | with_reducible refine w_set ?_ | with_reducible refine w_par ?_ | with_reducible refine w_expr ?_ | with_reducible refine w_ret ?_ | with_reducible refine w_retN ?_ | with_reducible refine w_pass ?_ | with_reducible refine w_break ?_ | with_reducible refine w_cont ?_ | with_reducible refine w_seq ?_ | with_reducible refine w_sif ?_ | with_reducible refine x_add ?_ | with_reducible refine x_addI ?_ | with_reducible refine x_sub ?_ | with_reducible refine x_neg ?_ | with_reducible refine x_lt ?_ | with_reducible refine x_le ?_ | with_reducible refine x_gt ?_ | with_reducible refine x_ge ?_ | with_reducible refine x_eqS ?_ | with_reducible refine x_eq ?_ | with_reducible refine x_ne ?_ | with_reducible refine x_isN ?_ | with_reducible refine x_notN ?_ | with_reducible refine x_isB ?_ | with_reducible refine x_notB ?_ | with_reducible refine x_lenL ?_ | with_reducible refine x_lenT ?_ | with_reducible refine x_max2 ?_ | with_reducible refine x_min2 ?_ | with_reducible refine x_abs ?_ | with_reducible refine x_tupleL ?_ | with_reducible refine x_tupleT ?_ | with_reducible refine x_partL ?_ | with_reducible refine x_partT ?_ | with_reducible refine x_listL ?_ | with_reducible refine x_listT ?_ | with_reducible refine x_iii ?_ | with_reducible refine x_ibi ?_ | with_reducible refine x_iss ?_ | with_reducible refine x_itt ?_ | with_reducible refine x_ill ?_ | with_reducible refine c_true ?_ | with_reducible refine c_false ?_ | with_reducible refine c_nt ?_ | with_reducible refine c_nf ?_ | with_reducible refine c_not ?_ | ((with_reducible apply w_FI); · rfl) | ((with_reducible apply w_oIx); · rfl) | ((with_reducible apply w_oLen); · rfl) | ((with_reducible apply w_oBin); · rfl) | ((with_reducible apply w_consO); · rfl) | ((with_reducible apply w_aug); · rfl) | ((with_reducible apply w_app); · rfl) | ((with_reducible apply w_oset); · rfl) | ((with_reducible apply w_ext); · rfl) | ((with_reducible apply w_retO); · rfl) | ((with_reducible apply w_frz); · rfl) | ((with_reducible apply e_ow); · rfl) | with_reducible refine e_bl ?_ | with_reducible refine e_int ?_ | with_reducible refine e_lst ?_ | with_reducible refine e_tup ?_ | with_reducible refine e_seqL ?_ | with_reducible refine e_seqT ?_ | with_reducible refine e_zipL ?_ | with_reducible refine e_zipT ?_ | with_reducible refine w_partI ?_ | with_reducible refine w_iSeq ?_ | with_reducible refine w_iEnum ?_ | with_reducible refine w_new ?_ | with_reducible refine w_rev ?_ | with_reducible refine w_revT ?_ | with_reducible refine w_slice ?_ | with_reducible refine y_le ?_ | with_reducible refine y_lt ?_ | with_reducible refine y_ge ?_ | with_reducible refine y_gt ?_ | ((with_reducible apply x_ixT); · rfl) | ((with_reducible apply x_ixL); · rfl) | ((with_reducible apply e_at); · rfl) | ((with_reducible apply x_mul); · rfl) | ((with_reducible apply e_ix); · rfl) | ((with_reducible apply x_div); · decide) | ((with_reducible apply x_mod); · decide) | with_reducible refine w_lst ?_ | with_reducible refine w_tup ?_ | ((with_reducible apply e_cap); · exact Nat.le_of_ble_eq_true rfl) | ((with_reducible apply e_set); · (simp only [List.set_cons_zero, List.set_cons_succ]; rfl)) | ((with_reducible apply e_setL); (· rfl); (· (simp only [List.set_cons_zero, List.set_cons_succ]; rfl))) | ((with_reducible apply e_par); (· rfl); (· (simp only [List.set_cons_zero, List.set_cons_succ]; rfl))) | ((with_reducible apply e_par3); (· rfl); (· (simp only [List.set_cons_zero, List.set_cons_succ]; rfl))) | ((with_reducible apply e_pt); (· rfl); (· (simp only [List.set_cons_zero, List.set_cons_succ]; rfl))) | ((with_reducible apply e_pT); · (simp only [pTs, pN, List.length_cons, List.length_nil, List.set_cons_zero, List.set_cons_succ, Nat.reduceAdd, Nat.reduceLT, ite_true, Option.some.injEq]; rfl))))
      refine ⟨by simp only [iL_len, List.length_append, List.length_cons, List.length_nil, cap] at h4 ⊢; omega, ?_⟩
      (repeat' (first | ((with_reducible refine c_decT ?_ ?_); · first | decide | rfl) | ((with_reducible refine c_decF ?_ ?_); · decide) | with_reducible refine w_seq ?_ | ((with_reducible apply w_var); · rfl) | with_reducible refine w_setN ?_ | with_reducible refine w_snew ?_ | with_reducible refine w_C ?_ | with_reducible refine w_bin ?_ | with_reducible refine w_un ?_ | with_reducible refine w_isi ?_ | with_reducible refine w_isi2 ?_ | with_reducible refine w_chain ?_ | with_reducible refine w_if ?_ | with_reducible refine w_nil ?_ | with_reducible refine w_cons ?_ | with_reducible refine w_F ?_ | with_reducible refine w_Fb ?_ | with_reducible refine w_FN ?_ | with_reducible refine w_noPart ?_ | with_reducible refine w_slice ?_ | with_reducible refine w_val ?_ | with_reducible refine w_tAnd ?_ | with_reducible refine w_tOr ?_ | with_reducible refine w_tNot ?_ | with_reducible refine w_tYes ?_ | with_reducible refine w_and ?_ | with_reducible refine w_or ?_ | with_reducible refine w_not ?_ | with_reducible refine w_iRng ?_ | with_reducible refine w_iRngD ?_ | with_reducible refine w_iZip ?_ | with_reducible refine w_fr ?_ | with_reducible refine w_tupL ?_ | with_reducible refine w_im ?_ | with_reducible refine w_ow ?_ | with_reducible refine w_set ?_ | with_reducible refine w_par ?_ | with_reducible refine w_expr ?_ | with_reducible refine w_ret ?_ | with_reducible refine w_retN ?_ | with_reducible refine w_pass ?_ | with_reducible refine w_break ?_ | with_reducible refine w_cont ?_ | with_reducible refine w_seq ?_ | with_reducible refine w_sif ?_ | with_reducible refine x_add ?_ | with_reducible refine x_addI ?_ | with_reducible refine x_sub ?_ | with_reducible refine x_neg ?_ | with_reducible refine x_lt ?_ | with_reducible refine x_le ?_ | with_reducible refine x_gt ?_ | with_reducible refine x_ge ?_ | with_reducible refine x_eqS ?_ | with_reducible refine x_eq ?_ | with_reducible refine x_ne ?_ | with_reducible refine x_isN ?_ | with_reducible refine x_notN ?_ | with_reducible refine x_isB ?_ | with_reducible refine x_notB ?_ | with_reducible refine x_lenL ?_ | with_reducible refine x_lenT ?_ | with_reducible refine x_max2 ?_ | with_reducible refine x_min2 ?_ | with_reducible refine x_abs ?_ | with_reducible refine x_tupleL ?_ | with_reducible refine x_tupleT ?_ | with_reducible refine x_partL ?_ | with_reducible refine x_partT ?_ | with_reducible refine x_listL ?_ | with_reducible refine x_listT ?_ | with_reducible refine x_iii ?_ | with_reducible refine x_ibi ?_ | with_reducible refine x_iss ?_ | with_reducible refine x_itt ?_ | with_reducible refine x_ill ?_ | with_reducible refine c_true ?_ | with_reducible refine c_false ?_ | with_reducible refine c_nt ?_ | with_reducible refine c_nf ?_ | with_reducible refine c_not ?_ | ((with_reducible apply w_FI); · rfl) | ((with_reducible apply w_oIx); · rfl) | ((with_reducible apply w_oLen); · rfl) | ((with_reducible apply w_oBin); · rfl) | ((with_reducible apply w_consO); · rfl) | ((with_reducible apply w_aug); · rfl) | ((with_reducible apply w_app); · rfl) | ((with_reducible apply w_oset); · rfl) | ((with_reducible apply w_ext); · rfl) | ((with_reducible apply w_retO); · rfl) | ((with_reducible apply w_frz); · rfl) | ((with_reducible apply e_ow); · rfl) | with_reducible refine e_bl ?_ | with_reducible refine e_int ?_ | with_reducible refine e_lst ?_ | with_reducible refine e_tup ?_ | with_reducible refine e_seqL ?_ | with_reducible refine e_seqT ?_ | with_reducible refine e_zipL ?_ | with_reducible refine e_zipT ?_ | with_reducible refine w_partI ?_ | with_reducible refine w_iSeq ?_ | with_reducible refine w_iEnum ?_ | with_reducible refine w_new ?_ | with_reducible refine w_rev ?_ | with_reducible refine w_revT ?_ | with_reducible refine w_slice ?_ | with_reducible refine y_le ?_ | with_reducible refine y_lt ?_ | with_reducible refine y_ge ?_ | with_reducible refine y_gt ?_ | ((with_reducible apply x_ixT); · rfl) | ((with_reducible apply x_ixL); · rfl) | ((with_reducible apply e_at); · rfl) | ((with_reducible apply x_mul); · rfl) | ((with_reducible apply e_ix); · rfl) | ((with_reducible apply x_div); · decide) | ((with_reducible apply x_mod); · decide) | with_reducible refine w_lst ?_ | with_reducible refine w_tup ?_ | ((with_reducible apply e_cap); · exact Nat.le_of_ble_eq_true rfl) | ((with_reducible apply e_set); · (simp only [List.set_cons_zero, List.set_cons_succ]; rfl)) | ((with_reducible apply e_setL); (· rfl); (· (simp only [List.set_cons_zero, List.set_cons_succ]; rfl))) | ((with_reducible apply e_par); (· rfl); (· (simp only [List.set_cons_zero, List.set_cons_succ]; rfl))) | ((with_reducible apply e_par3); (· rfl); (· (simp only [List.set_cons_zero, List.set_cons_succ]; rfl))) | ((with_reducible apply e_pt); (· rfl); (· (simp only [List.set_cons_zero, List.set_cons_succ]; rfl))) | ((with_reducible apply e_pT); · (simp only [pTs, pN, List.length_cons, List.length_nil, List.set_cons_zero, List.set_cons_succ, Nat.reduceAdd, Nat.reduceLT, ite_true, Option.some.injEq]; rfl))))
      refine ⟨p ++ [x], r, aft x c, .im c.d, rfl, by simp [iL], by rw [← h3]; simp [lvs], by simp only [List.length_append, List.length_cons, List.length_nil] at h4 ⊢; omega⟩
  · rintro e ⟨p, r, x, w, h1, rfl, h3, h4⟩
    cases r with
    | cons c r => simp [schL] at h1
    | nil =>
      (repeat' (first | ((with_reducible refine c_decT ?_ ?_); · first | decide | rfl) | ((with_reducible refine c_decF ?_ ?_); · decide) | with_reducible refine w_seq ?_ | ((with_reducible apply w_var); · rfl) | with_reducible refine w_setN ?_ | with_reducible refine w_snew ?_ | with_reducible refine w_C ?_ | with_reducible refine w_bin ?_ | with_reducible refine w_un ?_ | with_reducible refine w_isi ?_ | with_reducible refine w_isi2 ?_ | with_reducible refine w_chain ?_ | with_reducible refine w_if ?_ | with_reducible refine w_nil ?_ | with_reducible refine w_cons ?_ | with_reducible refine w_F ?_ | with_reducible refine w_Fb ?_ | with_reducible refine w_FN ?_ | with_reducible refine w_noPart ?_ | with_reducible refine w_slice ?_ | with_reducible refine w_val ?_ | with_reducible refine w_tAnd ?_ | with_reducible refine w_tOr ?_ | with_reducible refine w_tNot ?_ | with_reducible refine w_tYes ?_ | with_reducible refine w_and ?_ | with_reducible refine w_or ?_ | with_reducible refine w_not ?_ | with_reducible refine w_iRng ?_ | with_reducible refine w_iRngD ?_ | with_reducible refine w_iZip ?_ | with_reducible refine w_fr ?_ | with_reducible refine w_tupL ?_ | with_reducible refine w_im ?_ | with_reducible refine w_ow ?_ | with_reducible refine w_set ?_ | with_reducible refine w_par ?_ | with_reducible refine w_expr ?_ | with_reducible refine w_ret ?_ | with_reducible refine w_retN ?_ | with_reducible refine w_pass ?_ | with_reducible refine w_break ?_ | with_reducible refine w_cont ?_ | with_reducible refine w_seq ?_ | with_reducible refine w_sif ?_ | with_reducible refine x_add ?_ | with_reducible refine x_addI ?_ | with_reducible refine x_sub ?_ | with_reducible refine x_neg ?_ | with_reducible refine x_lt ?_ | with_reducible refine x_le ?_ | with_reducible refine x_gt ?_ | with_reducible refine x_ge ?_ | with_reducible refine x_eqS ?_ | with_reducible refine x_eq ?_ | with_reducible refine x_ne ?_ | with_reducible refine x_isN ?_ | with_reducible refine x_notN ?_ | with_reducible refine x_isB ?_ | with_reducible refine x_notB ?_ | with_reducible refine x_lenL ?_ | with_reducible refine x_lenT ?_ | with_reducible refine x_max2 ?_ | with_reducible refine x_min2 ?_ | with_reducible refine x_abs ?_ | with_reducible refine x_tupleL ?_ | with_reducible refine x_tupleT ?_ | with_reducible refine x_partL ?_ | with_reducible refine x_partT ?_ | with_reducible refine x_listL ?_ | with_reducible refine x_listT ?_ | with_reducible refine x_iii ?_ | with_reducible refine x_ibi ?_ | with_reducible refine x_iss ?_ | with_reducible refine x_itt ?_ | with_reducible refine x_ill ?_ | with_reducible refine c_true ?_ | with_reducible refine c_false ?_ | with_reducible refine c_nt ?_ | with_reducible refine c_nf ?_ | with_reducible refine c_not ?_ | ((with_reducible apply w_FI); · rfl) | ((with_reducible apply w_oIx); · rfl) | ((with_reducible apply w_oLen); · rfl) | ((with_reducible apply w_oBin); · rfl) | ((with_reducible apply w_consO); · rfl) | ((with_reducible apply w_aug); · rfl) | ((with_reducible apply w_app); · rfl) | ((with_reducible apply w_oset); · rfl) | ((with_reducible apply w_ext); · rfl) | ((with_reducible apply w_retO); · rfl) | ((with_reducible apply w_frz); · rfl) | ((with_reducible apply e_ow); · rfl) | with_reducible refine e_bl ?_ | with_reducible refine e_int ?_ | with_reducible refine e_lst ?_ | with_reducible refine e_tup ?_ | with_reducible refine e_seqL ?_ | with_reducible refine e_seqT ?_ | with_reducible refine e_zipL ?_ | with_reducible refine e_zipT ?_ | with_reducible refine w_partI ?_ | with_reducible refine w_iSeq ?_ | with_reducible refine w_iEnum ?_ | with_reducible refine w_new ?_ | with_reducible refine w_rev ?_ | with_reducible refine w_revT ?_ | with_reducible refine w_slice ?_ | with_reducible refine y_le ?_ | with_reducible refine y_lt ?_ | with_reducible refine y_ge ?_ | with_reducible refine y_gt ?_ | ((with_reducible apply x_ixT); · rfl) | ((with_reducible apply x_ixL); · rfl) | ((with_reducible apply e_at); · rfl) | ((with_reducible apply x_mul); · rfl) | ((with_reducible apply e_ix); · rfl) | ((with_reducible apply x_div); · decide) | ((with_reducible apply x_mod); · decide) | with_reducible refine w_lst ?_ | with_reducible refine w_tup ?_ | ((with_reducible apply e_cap); · exact Nat.le_of_ble_eq_true rfl) | ((with_reducible apply e_set); · (simp only [List.set_cons_zero, List.set_cons_succ]; rfl)) | ((with_reducible apply e_setL); (· rfl); (· (simp only [List.set_cons_zero, List.set_cons_succ]; rfl))) | ((with_reducible apply e_par); (· rfl); (· (simp only [List.set_cons_zero, List.set_cons_succ]; rfl))) | ((with_reducible apply e_par3); (· rfl); (· (simp only [List.set_cons_zero, List.set_cons_succ]; rfl))) | ((with_reducible apply e_pt); (· rfl); (· (simp only [List.set_cons_zero, List.set_cons_succ]; rfl))) | ((with_reducible apply e_pT); · (simp only [pTs, pN, List.length_cons, List.length_nil, List.set_cons_zero, List.set_cons_succ, Nat.reduceAdd, Nat.reduceLT, ite_true, Option.some.injEq]; rfl))))
      rw [← h3]
      simp [lvs]
theorem lvsL_last (s : List Cm) (l : Int) : at' (iL (lvs s l)) (-1) = some (.int (fin s l)) := at_last (getLast_iL (lvs_last s l))
theorem cut_one (xs : List D) : cut xs (some 1) none = xs.drop 1 := by
  cases xs with
  | nil => rfl
  | cons a l =>
    simp only [cut, six, List.length_cons]
    rw [if_neg (by decide), show min (1 : Int).toNat (l.length + 1) = 1 by simp]
    simp
theorem sums_from_eq (s : List Cm) (l : Int) (hs : s.length ≤ 60) : f_sums_from [schD s, .int l] = some (.tup [.int (upS s l), .int (dnS s l)]) := by
  refine run_D (e := [.im (schD s), .im (.int l), .un, .un, .un, .un, .un]) rfl rfl ?_
  unfold c_sums_from
  (repeat' (first | ((with_reducible refine c_decT ?_ ?_); · first | decide | rfl) | ((with_reducible refine c_decF ?_ ?_); · decide) | with_reducible refine w_seq ?_ | ((with_reducible apply w_var); · rfl) | with_reducible refine w_setN ?_ | with_reducible refine w_snew ?_ | with_reducible refine w_C ?_ | with_reducible refine w_bin ?_ | with_reducible refine w_un ?_ | with_reducible refine w_isi ?_ | with_reducible refine w_isi2 ?_ | with_reducible refine w_chain ?_ | with_reducible refine w_if ?_ | with_reducible refine w_nil ?_ | with_reducible refine w_cons ?_ | with_reducible refine w_F ?_ | with_reducible refine w_Fb ?_ | with_reducible refine w_FN ?_ | with_reducible refine w_noPart ?_ | with_reducible refine w_slice ?_ | with_reducible refine w_val ?_ | with_reducible refine w_tAnd ?_ | with_reducible refine w_tOr ?_ | with_reducible refine w_tNot ?_ | with_reducible refine w_tYes ?_ | with_reducible refine w_and ?_ | with_reducible refine w_or ?_ | with_reducible refine w_not ?_ | with_reducible refine w_iRng ?_ | with_reducible refine w_iRngD ?_ | with_reducible refine w_iZip ?_ | with_reducible refine w_fr ?_ | with_reducible refine w_tupL ?_ | with_reducible refine w_im ?_ | with_reducible refine w_ow ?_ | with_reducible refine w_set ?_ | with_reducible refine w_par ?_ | with_reducible refine w_expr ?_ | with_reducible refine w_ret ?_ | with_reducible refine w_retN ?_ | with_reducible refine w_pass ?_ | with_reducible refine w_break ?_ | with_reducible refine w_cont ?_ | with_reducible refine w_seq ?_ | with_reducible refine w_sif ?_ | with_reducible refine x_add ?_ | with_reducible refine x_addI ?_ | with_reducible refine x_sub ?_ | with_reducible refine x_neg ?_ | with_reducible refine x_lt ?_ | with_reducible refine x_le ?_ | with_reducible refine x_gt ?_ | with_reducible refine x_ge ?_ | with_reducible refine x_eqS ?_ | with_reducible refine x_eq ?_ | with_reducible refine x_ne ?_ | with_reducible refine x_isN ?_ | with_reducible refine x_notN ?_ | with_reducible refine x_isB ?_ | with_reducible refine x_notB ?_ | with_reducible refine x_lenL ?_ | with_reducible refine x_lenT ?_ | with_reducible refine x_max2 ?_ | with_reducible refine x_min2 ?_ | with_reducible refine x_abs ?_ | with_reducible refine x_tupleL ?_ | with_reducible refine x_tupleT ?_ | with_reducible refine x_partL ?_ | with_reducible refine x_partT ?_ | with_reducible refine x_listL ?_ | with_reducible refine x_listT ?_ | with_reducible refine x_iii ?_ | with_reducible refine x_ibi ?_ | with_reducible refine x_iss ?_ | with_reducible refine x_itt ?_ | with_reducible refine x_ill ?_ | with_reducible refine c_true ?_ | with_reducible refine c_false ?_ | with_reducible refine c_nt ?_ | with_reducible refine c_nf ?_ | with_reducible refine c_not ?_ | ((with_reducible apply w_FI); · rfl) | ((with_reducible apply w_oIx); · rfl) | ((with_reducible apply w_oLen); · rfl) | ((with_reducible apply w_oBin); · rfl) | ((with_reducible apply w_consO); · rfl) | ((with_reducible apply w_aug); · rfl) | ((with_reducible apply w_app); · rfl) | ((with_reducible apply w_oset); · rfl) | ((with_reducible apply w_ext); · rfl) | ((with_reducible apply w_retO); · rfl) | ((with_reducible apply w_frz); · rfl) | ((with_reducible apply e_ow); · rfl) | with_reducible refine e_bl ?_ | with_reducible refine e_int ?_ | with_reducible refine e_lst ?_ | with_reducible refine e_tup ?_ | with_reducible refine e_seqL ?_ | with_reducible refine e_seqT ?_ | with_reducible refine e_zipL ?_ | with_reducible refine e_zipT ?_ | with_reducible refine w_partI ?_ | with_reducible refine w_iSeq ?_ | with_reducible refine w_iEnum ?_ | with_reducible refine w_new ?_ | with_reducible refine w_rev ?_ | with_reducible refine w_revT ?_ | with_reducible refine w_slice ?_ | with_reducible refine y_le ?_ | with_reducible refine y_lt ?_ | with_reducible refine y_ge ?_ | with_reducible refine y_gt ?_ | ((with_reducible apply x_ixT); · rfl) | ((with_reducible apply x_ixL); · rfl) | ((with_reducible apply e_at); · rfl) | ((with_reducible apply x_mul); · rfl) | ((with_reducible apply e_ix); · rfl) | ((with_reducible apply x_div); · decide) | ((with_reducible apply x_mod); · decide) | with_reducible refine w_lst ?_ | with_reducible refine w_tup ?_ | ((with_reducible apply e_cap); · exact Nat.le_of_ble_eq_true rfl) | ((with_reducible apply e_set); · (simp only [List.set_cons_zero, List.set_cons_succ]; rfl)) | ((with_reducible apply e_setL); (· rfl); (· (simp only [List.set_cons_zero, List.set_cons_succ]; rfl))) | ((with_reducible apply e_par); (· rfl); (· (simp only [List.set_cons_zero, List.set_cons_succ]; rfl))) | ((with_reducible apply e_par3); (· rfl); (· (simp only [List.set_cons_zero, List.set_cons_succ]; rfl))) | ((with_reducible apply e_pt); (· rfl); (· (simp only [List.set_cons_zero, List.set_cons_succ]; rfl))) | ((with_reducible apply e_pT); · (simp only [pTs, pN, List.length_cons, List.length_nil, List.set_cons_zero, List.set_cons_succ, Nat.reduceAdd, Nat.reduceLT, ite_true, Option.some.injEq]; rfl))))
  refine ⟨_, levels_from_eq s l hs, ?_⟩
  (repeat' (first | ((with_reducible refine c_decT ?_ ?_); · first | decide | rfl) | ((with_reducible refine c_decF ?_ ?_); · decide) | with_reducible refine w_seq ?_ | ((with_reducible apply w_var); · rfl) | with_reducible refine w_setN ?_ | with_reducible refine w_snew ?_ | with_reducible refine w_C ?_ | with_reducible refine w_bin ?_ | with_reducible refine w_un ?_ | with_reducible refine w_isi ?_ | with_reducible refine w_isi2 ?_ | with_reducible refine w_chain ?_ | with_reducible refine w_if ?_ | with_reducible refine w_nil ?_ | with_reducible refine w_cons ?_ | with_reducible refine w_F ?_ | with_reducible refine w_Fb ?_ | with_reducible refine w_FN ?_ | with_reducible refine w_noPart ?_ | with_reducible refine w_slice ?_ | with_reducible refine w_val ?_ | with_reducible refine w_tAnd ?_ | with_reducible refine w_tOr ?_ | with_reducible refine w_tNot ?_ | with_reducible refine w_tYes ?_ | with_reducible refine w_and ?_ | with_reducible refine w_or ?_ | with_reducible refine w_not ?_ | with_reducible refine w_iRng ?_ | with_reducible refine w_iRngD ?_ | with_reducible refine w_iZip ?_ | with_reducible refine w_fr ?_ | with_reducible refine w_tupL ?_ | with_reducible refine w_im ?_ | with_reducible refine w_ow ?_ | with_reducible refine w_set ?_ | with_reducible refine w_par ?_ | with_reducible refine w_expr ?_ | with_reducible refine w_ret ?_ | with_reducible refine w_retN ?_ | with_reducible refine w_pass ?_ | with_reducible refine w_break ?_ | with_reducible refine w_cont ?_ | with_reducible refine w_seq ?_ | with_reducible refine w_sif ?_ | with_reducible refine x_add ?_ | with_reducible refine x_addI ?_ | with_reducible refine x_sub ?_ | with_reducible refine x_neg ?_ | with_reducible refine x_lt ?_ | with_reducible refine x_le ?_ | with_reducible refine x_gt ?_ | with_reducible refine x_ge ?_ | with_reducible refine x_eqS ?_ | with_reducible refine x_eq ?_ | with_reducible refine x_ne ?_ | with_reducible refine x_isN ?_ | with_reducible refine x_notN ?_ | with_reducible refine x_isB ?_ | with_reducible refine x_notB ?_ | with_reducible refine x_lenL ?_ | with_reducible refine x_lenT ?_ | with_reducible refine x_max2 ?_ | with_reducible refine x_min2 ?_ | with_reducible refine x_abs ?_ | with_reducible refine x_tupleL ?_ | with_reducible refine x_tupleT ?_ | with_reducible refine x_partL ?_ | with_reducible refine x_partT ?_ | with_reducible refine x_listL ?_ | with_reducible refine x_listT ?_ | with_reducible refine x_iii ?_ | with_reducible refine x_ibi ?_ | with_reducible refine x_iss ?_ | with_reducible refine x_itt ?_ | with_reducible refine x_ill ?_ | with_reducible refine c_true ?_ | with_reducible refine c_false ?_ | with_reducible refine c_nt ?_ | with_reducible refine c_nf ?_ | with_reducible refine c_not ?_ | ((with_reducible apply w_FI); · rfl) | ((with_reducible apply w_oIx); · rfl) | ((with_reducible apply w_oLen); · rfl) | ((with_reducible apply w_oBin); · rfl) | ((with_reducible apply w_consO); · rfl) | ((with_reducible apply w_aug); · rfl) | ((with_reducible apply w_app); · rfl) | ((with_reducible apply w_oset); · rfl) | ((with_reducible apply w_ext); · rfl) | ((with_reducible apply w_retO); · rfl) | ((with_reducible apply w_frz); · rfl) | ((with_reducible apply e_ow); · rfl) | with_reducible refine e_bl ?_ | with_reducible refine e_int ?_ | with_reducible refine e_lst ?_ | with_reducible refine e_tup ?_ | with_reducible refine e_seqL ?_ | with_reducible refine e_seqT ?_ | with_reducible refine e_zipL ?_ | with_reducible refine e_zipT ?_ | with_reducible refine w_partI ?_ | with_reducible refine w_iSeq ?_ | with_reducible refine w_iEnum ?_ | with_reducible refine w_new ?_ | with_reducible refine w_rev ?_ | with_reducible refine w_revT ?_ | with_reducible refine w_slice ?_ | with_reducible refine y_le ?_ | with_reducible refine y_lt ?_ | with_reducible refine y_ge ?_ | with_reducible refine y_gt ?_ | ((with_reducible apply x_ixT); · rfl) | ((with_reducible apply x_ixL); · rfl) | ((with_reducible apply e_at); · rfl) | ((with_reducible apply x_mul); · rfl) | ((with_reducible apply e_ix); · rfl) | ((with_reducible apply x_div); · decide) | ((with_reducible apply x_mod); · decide) | with_reducible refine w_lst ?_ | with_reducible refine w_tup ?_ | ((with_reducible apply e_cap); · exact Nat.le_of_ble_eq_true rfl) | ((with_reducible apply e_set); · (simp only [List.set_cons_zero, List.set_cons_succ]; rfl)) | ((with_reducible apply e_setL); (· rfl); (· (simp only [List.set_cons_zero, List.set_cons_succ]; rfl))) | ((with_reducible apply e_par); (· rfl); (· (simp only [List.set_cons_zero, List.set_cons_succ]; rfl))) | ((with_reducible apply e_par3); (· rfl); (· (simp only [List.set_cons_zero, List.set_cons_succ]; rfl))) | ((with_reducible apply e_pt); (· rfl); (· (simp only [List.set_cons_zero, List.set_cons_succ]; rfl))) | ((with_reducible apply e_pT); · (simp only [pTs, pN, List.length_cons, List.length_nil, List.set_cons_zero, List.set_cons_succ, Nat.reduceAdd, Nat.reduceLT, ite_true, Option.some.injEq]; rfl))))
  refine w_compP (fun _ => true) (fun d => match d with | .tup [.int a, .int b] => .int (b - a) | _ => .non) ?_
  (repeat' (first | ((with_reducible refine c_decT ?_ ?_); · first | decide | rfl) | ((with_reducible refine c_decF ?_ ?_); · decide) | with_reducible refine w_seq ?_ | ((with_reducible apply w_var); · rfl) | with_reducible refine w_setN ?_ | with_reducible refine w_snew ?_ | with_reducible refine w_C ?_ | with_reducible refine w_bin ?_ | with_reducible refine w_un ?_ | with_reducible refine w_isi ?_ | with_reducible refine w_isi2 ?_ | with_reducible refine w_chain ?_ | with_reducible refine w_if ?_ | with_reducible refine w_nil ?_ | with_reducible refine w_cons ?_ | with_reducible refine w_F ?_ | with_reducible refine w_Fb ?_ | with_reducible refine w_FN ?_ | with_reducible refine w_noPart ?_ | with_reducible refine w_slice ?_ | with_reducible refine w_val ?_ | with_reducible refine w_tAnd ?_ | with_reducible refine w_tOr ?_ | with_reducible refine w_tNot ?_ | with_reducible refine w_tYes ?_ | with_reducible refine w_and ?_ | with_reducible refine w_or ?_ | with_reducible refine w_not ?_ | with_reducible refine w_iRng ?_ | with_reducible refine w_iRngD ?_ | with_reducible refine w_iZip ?_ | with_reducible refine w_fr ?_ | with_reducible refine w_tupL ?_ | with_reducible refine w_im ?_ | with_reducible refine w_ow ?_ | with_reducible refine w_set ?_ | with_reducible refine w_par ?_ | with_reducible refine w_expr ?_ | with_reducible refine w_ret ?_ | with_reducible refine w_retN ?_ | with_reducible refine w_pass ?_ | with_reducible refine w_break ?_ | with_reducible refine w_cont ?_ | with_reducible refine w_seq ?_ | with_reducible refine w_sif ?_ | with_reducible refine x_add ?_ | with_reducible refine x_addI ?_ | with_reducible refine x_sub ?_ | with_reducible refine x_neg ?_ | with_reducible refine x_lt ?_ | with_reducible refine x_le ?_ | with_reducible refine x_gt ?_ | with_reducible refine x_ge ?_ | with_reducible refine x_eqS ?_ | with_reducible refine x_eq ?_ | with_reducible refine x_ne ?_ | with_reducible refine x_isN ?_ | with_reducible refine x_notN ?_ | with_reducible refine x_isB ?_ | with_reducible refine x_notB ?_ | with_reducible refine x_lenL ?_ | with_reducible refine x_lenT ?_ | with_reducible refine x_max2 ?_ | with_reducible refine x_min2 ?_ | with_reducible refine x_abs ?_ | with_reducible refine x_tupleL ?_ | with_reducible refine x_tupleT ?_ | with_reducible refine x_partL ?_ | with_reducible refine x_partT ?_ | with_reducible refine x_listL ?_ | with_reducible refine x_listT ?_ | with_reducible refine x_iii ?_ | with_reducible refine x_ibi ?_ | with_reducible refine x_iss ?_ | with_reducible refine x_itt ?_ | with_reducible refine x_ill ?_ | with_reducible refine c_true ?_ | with_reducible refine c_false ?_ | with_reducible refine c_nt ?_ | with_reducible refine c_nf ?_ | with_reducible refine c_not ?_ | ((with_reducible apply w_FI); · rfl) | ((with_reducible apply w_oIx); · rfl) | ((with_reducible apply w_oLen); · rfl) | ((with_reducible apply w_oBin); · rfl) | ((with_reducible apply w_consO); · rfl) | ((with_reducible apply w_aug); · rfl) | ((with_reducible apply w_app); · rfl) | ((with_reducible apply w_oset); · rfl) | ((with_reducible apply w_ext); · rfl) | ((with_reducible apply w_retO); · rfl) | ((with_reducible apply w_frz); · rfl) | ((with_reducible apply e_ow); · rfl) | with_reducible refine e_bl ?_ | with_reducible refine e_int ?_ | with_reducible refine e_lst ?_ | with_reducible refine e_tup ?_ | with_reducible refine e_seqL ?_ | with_reducible refine e_seqT ?_ | with_reducible refine e_zipL ?_ | with_reducible refine e_zipT ?_ | with_reducible refine w_partI ?_ | with_reducible refine w_iSeq ?_ | with_reducible refine w_iEnum ?_ | with_reducible refine w_new ?_ | with_reducible refine w_rev ?_ | with_reducible refine w_revT ?_ | with_reducible refine w_slice ?_ | with_reducible refine y_le ?_ | with_reducible refine y_lt ?_ | with_reducible refine y_ge ?_ | with_reducible refine y_gt ?_ | ((with_reducible apply x_ixT); · rfl) | ((with_reducible apply x_ixL); · rfl) | ((with_reducible apply e_at); · rfl) | ((with_reducible apply x_mul); · rfl) | ((with_reducible apply e_ix); · rfl) | ((with_reducible apply x_div); · decide) | ((with_reducible apply x_mod); · decide) | with_reducible refine w_lst ?_ | with_reducible refine w_tup ?_ | ((with_reducible apply e_cap); · exact Nat.le_of_ble_eq_true rfl) | ((with_reducible apply e_set); · (simp only [List.set_cons_zero, List.set_cons_succ]; rfl)) | ((with_reducible apply e_setL); (· rfl); (· (simp only [List.set_cons_zero, List.set_cons_succ]; rfl))) | ((with_reducible apply e_par); (· rfl); (· (simp only [List.set_cons_zero, List.set_cons_succ]; rfl))) | ((with_reducible apply e_par3); (· rfl); (· (simp only [List.set_cons_zero, List.set_cons_succ]; rfl))) | ((with_reducible apply e_pt); (· rfl); (· (simp only [List.set_cons_zero, List.set_cons_succ]; rfl))) | ((with_reducible apply e_pT); · (simp only [pTs, pN, List.length_cons, List.length_nil, List.set_cons_zero, List.set_cons_succ, Nat.reduceAdd, Nat.reduceLT, ite_true, Option.some.injEq]; rfl))))
  rw [cut_one, zip_lvs]
  refine ⟨by rw [List.length_map, len_prs]; exact cap_lt (by omega), ?_, rfl, rfl, ?_⟩
  · intro d hd
    simp only [List.mem_map] at hd
    obtain ⟨p, hp, rfl⟩ := hd
    refine ⟨_, rfl, rfl, rfl, ?_⟩
    (repeat' (first | ((with_reducible refine c_decT ?_ ?_); · first | decide | rfl) | ((with_reducible refine c_decF ?_ ?_); · decide) | with_reducible refine w_seq ?_ | ((with_reducible apply w_var); · rfl) | with_reducible refine w_setN ?_ | with_reducible refine w_snew ?_ | with_reducible refine w_C ?_ | with_reducible refine w_bin ?_ | with_reducible refine w_un ?_ | with_reducible refine w_isi ?_ | with_reducible refine w_isi2 ?_ | with_reducible refine w_chain ?_ | with_reducible refine w_if ?_ | with_reducible refine w_nil ?_ | with_reducible refine w_cons ?_ | with_reducible refine w_F ?_ | with_reducible refine w_Fb ?_ | with_reducible refine w_FN ?_ | with_reducible refine w_noPart ?_ | with_reducible refine w_slice ?_ | with_reducible refine w_val ?_ | with_reducible refine w_tAnd ?_ | with_reducible refine w_tOr ?_ | with_reducible refine w_tNot ?_ | with_reducible refine w_tYes ?_ | with_reducible refine w_and ?_ | with_reducible refine w_or ?_ | with_reducible refine w_not ?_ | with_reducible refine w_iRng ?_ | with_reducible refine w_iRngD ?_ | with_reducible refine w_iZip ?_ | with_reducible refine w_fr ?_ | with_reducible refine w_tupL ?_ | with_reducible refine w_im ?_ | with_reducible refine w_ow ?_ | with_reducible refine w_set ?_ | with_reducible refine w_par ?_ | with_reducible refine w_expr ?_ | with_reducible refine w_ret ?_ | with_reducible refine w_retN ?_ | with_reducible refine w_pass ?_ | with_reducible refine w_break ?_ | with_reducible refine w_cont ?_ | with_reducible refine w_seq ?_ | with_reducible refine w_sif ?_ | with_reducible refine x_add ?_ | with_reducible refine x_addI ?_ | with_reducible refine x_sub ?_ | with_reducible refine x_neg ?_ | with_reducible refine x_lt ?_ | with_reducible refine x_le ?_ | with_reducible refine x_gt ?_ | with_reducible refine x_ge ?_ | with_reducible refine x_eqS ?_ | with_reducible refine x_eq ?_ | with_reducible refine x_ne ?_ | with_reducible refine x_isN ?_ | with_reducible refine x_notN ?_ | with_reducible refine x_isB ?_ | with_reducible refine x_notB ?_ | with_reducible refine x_lenL ?_ | with_reducible refine x_lenT ?_ | with_reducible refine x_max2 ?_ | with_reducible refine x_min2 ?_ | with_reducible refine x_abs ?_ | with_reducible refine x_tupleL ?_ | with_reducible refine x_tupleT ?_ | with_reducible refine x_partL ?_ | with_reducible refine x_partT ?_ | with_reducible refine x_listL ?_ | with_reducible refine x_listT ?_ | with_reducible refine x_iii ?_ | with_reducible refine x_ibi ?_ | with_reducible refine x_iss ?_ | with_reducible refine x_itt ?_ | with_reducible refine x_ill ?_ | with_reducible refine c_true ?_ | with_reducible refine c_false ?_ | with_reducible refine c_nt ?_ | with_reducible refine c_nf ?_ | with_reducible refine c_not ?_ | ((with_reducible apply w_FI); · rfl) | ((with_reducible apply w_oIx); · rfl) | ((with_reducible apply w_oLen); · rfl) | ((with_reducible apply w_oBin); · rfl) | ((with_reducible apply w_consO); · rfl) | ((with_reducible apply w_aug); · rfl) | ((with_reducible apply w_app); · rfl) | ((with_reducible apply w_oset); · rfl) | ((with_reducible apply w_ext); · rfl) | ((with_reducible apply w_retO); · rfl) | ((with_reducible apply w_frz); · rfl) | ((with_reducible apply e_ow); · rfl) | with_reducible refine e_bl ?_ | with_reducible refine e_int ?_ | with_reducible refine e_lst ?_ | with_reducible refine e_tup ?_ | with_reducible refine e_seqL ?_ | with_reducible refine e_seqT ?_ | with_reducible refine e_zipL ?_ | with_reducible refine e_zipT ?_ | with_reducible refine w_partI ?_ | with_reducible refine w_iSeq ?_ | with_reducible refine w_iEnum ?_ | with_reducible refine w_new ?_ | with_reducible refine w_rev ?_ | with_reducible refine w_revT ?_ | with_reducible refine w_slice ?_ | with_reducible refine y_le ?_ | with_reducible refine y_lt ?_ | with_reducible refine y_ge ?_ | with_reducible refine y_gt ?_ | ((with_reducible apply x_ixT); · rfl) | ((with_reducible apply x_ixL); · rfl) | ((with_reducible apply e_at); · rfl) | ((with_reducible apply x_mul); · rfl) | ((with_reducible apply e_ix); · rfl) | ((with_reducible apply x_div); · decide) | ((with_reducible apply x_mod); · decide) | with_reducible refine w_lst ?_ | with_reducible refine w_tup ?_ | ((with_reducible apply e_cap); · exact Nat.le_of_ble_eq_true rfl) | ((with_reducible apply e_set); · (simp only [List.set_cons_zero, List.set_cons_succ]; rfl)) | ((with_reducible apply e_setL); (· rfl); (· (simp only [List.set_cons_zero, List.set_cons_succ]; rfl))) | ((with_reducible apply e_par); (· rfl); (· (simp only [List.set_cons_zero, List.set_cons_succ]; rfl))) | ((with_reducible apply e_par3); (· rfl); (· (simp only [List.set_cons_zero, List.set_cons_succ]; rfl))) | ((with_reducible apply e_pt); (· rfl); (· (simp only [List.set_cons_zero, List.set_cons_succ]; rfl))) | ((with_reducible apply e_pT); · (simp only [pTs, pN, List.length_cons, List.length_nil, List.set_cons_zero, List.set_cons_succ, Nat.reduceAdd, Nat.reduceLT, ite_true, Option.some.injEq]; rfl))))
    refine ⟨rfl, rfl, fun _ => ?_⟩
    (repeat' (first | ((with_reducible refine c_decT ?_ ?_); · first | decide | rfl) | ((with_reducible refine c_decF ?_ ?_); · decide) | with_reducible refine w_seq ?_ | ((with_reducible apply w_var); · rfl) | with_reducible refine w_setN ?_ | with_reducible refine w_snew ?_ | with_reducible refine w_C ?_ | with_reducible refine w_bin ?_ | with_reducible refine w_un ?_ | with_reducible refine w_isi ?_ | with_reducible refine w_isi2 ?_ | with_reducible refine w_chain ?_ | with_reducible refine w_if ?_ | with_reducible refine w_nil ?_ | with_reducible refine w_cons ?_ | with_reducible refine w_F ?_ | with_reducible refine w_Fb ?_ | with_reducible refine w_FN ?_ | with_reducible refine w_noPart ?_ | with_reducible refine w_slice ?_ | with_reducible refine w_val ?_ | with_reducible refine w_tAnd ?_ | with_reducible refine w_tOr ?_ | with_reducible refine w_tNot ?_ | with_reducible refine w_tYes ?_ | with_reducible refine w_and ?_ | with_reducible refine w_or ?_ | with_reducible refine w_not ?_ | with_reducible refine w_iRng ?_ | with_reducible refine w_iRngD ?_ | with_reducible refine w_iZip ?_ | with_reducible refine w_fr ?_ | with_reducible refine w_tupL ?_ | with_reducible refine w_im ?_ | with_reducible refine w_ow ?_ | with_reducible refine w_set ?_ | with_reducible refine w_par ?_ | with_reducible refine w_expr ?_ | with_reducible refine w_ret ?_ | with_reducible refine w_retN ?_ | with_reducible refine w_pass ?_ | with_reducible refine w_break ?_ | with_reducible refine w_cont ?_ | with_reducible refine w_seq ?_ | with_reducible refine w_sif ?_ | with_reducible refine x_add ?_ | with_reducible refine x_addI ?_ | with_reducible refine x_sub ?_ | with_reducible refine x_neg ?_ | with_reducible refine x_lt ?_ | with_reducible refine x_le ?_ | with_reducible refine x_gt ?_ | with_reducible refine x_ge ?_ | with_reducible refine x_eqS ?_ | with_reducible refine x_eq ?_ | with_reducible refine x_ne ?_ | with_reducible refine x_isN ?_ | with_reducible refine x_notN ?_ | with_reducible refine x_isB ?_ | with_reducible refine x_notB ?_ | with_reducible refine x_lenL ?_ | with_reducible refine x_lenT ?_ | with_reducible refine x_max2 ?_ | with_reducible refine x_min2 ?_ | with_reducible refine x_abs ?_ | with_reducible refine x_tupleL ?_ | with_reducible refine x_tupleT ?_ | with_reducible refine x_partL ?_ | with_reducible refine x_partT ?_ | with_reducible refine x_listL ?_ | with_reducible refine x_listT ?_ | with_reducible refine x_iii ?_ | with_reducible refine x_ibi ?_ | with_reducible refine x_iss ?_ | with_reducible refine x_itt ?_ | with_reducible refine x_ill ?_ | with_reducible refine c_true ?_ | with_reducible refine c_false ?_ | with_reducible refine c_nt ?_ | with_reducible refine c_nf ?_ | with_reducible refine c_not ?_ | ((with_reducible apply w_FI); · rfl) | ((with_reducible apply w_oIx); · rfl) | ((with_reducible apply w_oLen); · rfl) | ((with_reducible apply w_oBin); · rfl) | ((with_reducible apply w_consO); · rfl) | ((with_reducible apply w_aug); · rfl) | ((with_reducible apply w_app); · rfl) | ((with_reducible apply w_oset); · rfl) | ((with_reducible apply w_ext); · rfl) | ((with_reducible apply w_retO); · rfl) | ((with_reducible apply w_frz); · rfl) | ((with_reducible apply e_ow); · rfl) | with_reducible refine e_bl ?_ | with_reducible refine e_int ?_ | with_reducible refine e_lst ?_ | with_reducible refine e_tup ?_ | with_reducible refine e_seqL ?_ | with_reducible refine e_seqT ?_ | with_reducible refine e_zipL ?_ | with_reducible refine e_zipT ?_ | with_reducible refine w_partI ?_ | with_reducible refine w_iSeq ?_ | with_reducible refine w_iEnum ?_ | with_reducible refine w_new ?_ | with_reducible refine w_rev ?_ | with_reducible refine w_revT ?_ | with_reducible refine w_slice ?_ | with_reducible refine y_le ?_ | with_reducible refine y_lt ?_ | with_reducible refine y_ge ?_ | with_reducible refine y_gt ?_ | ((with_reducible apply x_ixT); · rfl) | ((with_reducible apply x_ixL); · rfl) | ((with_reducible apply e_at); · rfl) | ((with_reducible apply x_mul); · rfl) | ((with_reducible apply e_ix); · rfl) | ((with_reducible apply x_div); · decide) | ((with_reducible apply x_mod); · decide) | with_reducible refine w_lst ?_ | with_reducible refine w_tup ?_ | ((with_reducible apply e_cap); · exact Nat.le_of_ble_eq_true rfl) | ((with_reducible apply e_set); · (simp only [List.set_cons_zero, List.set_cons_succ]; rfl)) | ((with_reducible apply e_setL); (· rfl); (· (simp only [List.set_cons_zero, List.set_cons_succ]; rfl))) | ((with_reducible apply e_par); (· rfl); (· (simp only [List.set_cons_zero, List.set_cons_succ]; rfl))) | ((with_reducible apply e_par3); (· rfl); (· (simp only [List.set_cons_zero, List.set_cons_succ]; rfl))) | ((with_reducible apply e_pt); (· rfl); (· (simp only [List.set_cons_zero, List.set_cons_succ]; rfl))) | ((with_reducible apply e_pT); · (simp only [pTs, pN, List.length_cons, List.length_nil, List.set_cons_zero, List.set_cons_succ, Nat.reduceAdd, Nat.reduceLT, ite_true, Option.some.injEq]; rfl))))
    exact ⟨rfl, rfl⟩
  rw [List.filter_eq_self.mpr (fun _ _ => rfl)]
  have e : ((prs s l).map pD).map (fun d => match d with | .tup [.int a, .int b] => D.int (b - a) | _ => .non) = iL ((prs s l).map fun p => p.2 - p.1) := by
    simp only [iL, List.map_map]; rfl
  rw [e]
  (repeat' (first | ((with_reducible refine c_decT ?_ ?_); · first | decide | rfl) | ((with_reducible refine c_decF ?_ ?_); · decide) | with_reducible refine w_seq ?_ | ((with_reducible apply w_var); · rfl) | with_reducible refine w_setN ?_ | with_reducible refine w_snew ?_ | with_reducible refine w_C ?_ | with_reducible refine w_bin ?_ | with_reducible refine w_un ?_ | with_reducible refine w_isi ?_ | with_reducible refine w_isi2 ?_ | with_reducible refine w_chain ?_ | with_reducible refine w_if ?_ | with_reducible refine w_nil ?_ | with_reducible refine w_cons ?_ | with_reducible refine w_F ?_ | with_reducible refine w_Fb ?_ | with_reducible refine w_FN ?_ | with_reducible refine w_noPart ?_ | with_reducible refine w_slice ?_ | with_reducible refine w_val ?_ | with_reducible refine w_tAnd ?_ | with_reducible refine w_tOr ?_ | with_reducible refine w_tNot ?_ | with_reducible refine w_tYes ?_ | with_reducible refine w_and ?_ | with_reducible refine w_or ?_ | with_reducible refine w_not ?_ | with_reducible refine w_iRng ?_ | with_reducible refine w_iRngD ?_ | with_reducible refine w_iZip ?_ | with_reducible refine w_fr ?_ | with_reducible refine w_tupL ?_ | with_reducible refine w_im ?_ | with_reducible refine w_ow ?_ | with_reducible refine w_set ?_ | with_reducible refine w_par ?_ | with_reducible refine w_expr ?_ | with_reducible refine w_ret ?_ | with_reducible refine w_retN ?_ | with_reducible refine w_pass ?_ | with_reducible refine w_break ?_ | with_reducible refine w_cont ?_ | with_reducible refine w_seq ?_ | with_reducible refine w_sif ?_ | with_reducible refine x_add ?_ | with_reducible refine x_addI ?_ | with_reducible refine x_sub ?_ | with_reducible refine x_neg ?_ | with_reducible refine x_lt ?_ | with_reducible refine x_le ?_ | with_reducible refine x_gt ?_ | with_reducible refine x_ge ?_ | with_reducible refine x_eqS ?_ | with_reducible refine x_eq ?_ | with_reducible refine x_ne ?_ | with_reducible refine x_isN ?_ | with_reducible refine x_notN ?_ | with_reducible refine x_isB ?_ | with_reducible refine x_notB ?_ | with_reducible refine x_lenL ?_ | with_reducible refine x_lenT ?_ | with_reducible refine x_max2 ?_ | with_reducible refine x_min2 ?_ | with_reducible refine x_abs ?_ | with_reducible refine x_tupleL ?_ | with_reducible refine x_tupleT ?_ | with_reducible refine x_partL ?_ | with_reducible refine x_partT ?_ | with_reducible refine x_listL ?_ | with_reducible refine x_listT ?_ | with_reducible refine x_iii ?_ | with_reducible refine x_ibi ?_ | with_reducible refine x_iss ?_ | with_reducible refine x_itt ?_ | with_reducible refine x_ill ?_ | with_reducible refine c_true ?_ | with_reducible refine c_false ?_ | with_reducible refine c_nt ?_ | with_reducible refine c_nf ?_ | with_reducible refine c_not ?_ | ((with_reducible apply w_FI); · rfl) | ((with_reducible apply w_oIx); · rfl) | ((with_reducible apply w_oLen); · rfl) | ((with_reducible apply w_oBin); · rfl) | ((with_reducible apply w_consO); · rfl) | ((with_reducible apply w_aug); · rfl) | ((with_reducible apply w_app); · rfl) | ((with_reducible apply w_oset); · rfl) | ((with_reducible apply w_ext); · rfl) | ((with_reducible apply w_retO); · rfl) | ((with_reducible apply w_frz); · rfl) | ((with_reducible apply e_ow); · rfl) | with_reducible refine e_bl ?_ | with_reducible refine e_int ?_ | with_reducible refine e_lst ?_ | with_reducible refine e_tup ?_ | with_reducible refine e_seqL ?_ | with_reducible refine e_seqT ?_ | with_reducible refine e_zipL ?_ | with_reducible refine e_zipT ?_ | with_reducible refine w_partI ?_ | with_reducible refine w_iSeq ?_ | with_reducible refine w_iEnum ?_ | with_reducible refine w_new ?_ | with_reducible refine w_rev ?_ | with_reducible refine w_revT ?_ | with_reducible refine w_slice ?_ | with_reducible refine y_le ?_ | with_reducible refine y_lt ?_ | with_reducible refine y_ge ?_ | with_reducible refine y_gt ?_ | ((with_reducible apply x_ixT); · rfl) | ((with_reducible apply x_ixL); · rfl) | ((with_reducible apply e_at); · rfl) | ((with_reducible apply x_mul); · rfl) | ((with_reducible apply e_ix); · rfl) | ((with_reducible apply x_div); · decide) | ((with_reducible apply x_mod); · decide) | with_reducible refine w_lst ?_ | with_reducible refine w_tup ?_ | ((with_reducible apply e_cap); · exact Nat.le_of_ble_eq_true rfl) | ((with_reducible apply e_set); · (simp only [List.set_cons_zero, List.set_cons_succ]; rfl)) | ((with_reducible apply e_setL); (· rfl); (· (simp only [List.set_cons_zero, List.set_cons_succ]; rfl))) | ((with_reducible apply e_par); (· rfl); (· (simp only [List.set_cons_zero, List.set_cons_succ]; rfl))) | ((with_reducible apply e_par3); (· rfl); (· (simp only [List.set_cons_zero, List.set_cons_succ]; rfl))) | ((with_reducible apply e_pt); (· rfl); (· (simp only [List.set_cons_zero, List.set_cons_succ]; rfl))) | ((with_reducible apply e_pT); · (simp only [pTs, pN, List.length_cons, List.length_nil, List.set_cons_zero, List.set_cons_succ, Nat.reduceAdd, Nat.reduceLT, ite_true, Option.some.injEq]; rfl))))
  refine w_compP (fun d => match d with | .int i => decide (0 < i) | _ => false) (fun d => d) ?_
  (repeat' (first | ((with_reducible refine c_decT ?_ ?_); · first | decide | rfl) | ((with_reducible refine c_decF ?_ ?_); · decide) | with_reducible refine w_seq ?_ | ((with_reducible apply w_var); · rfl) | with_reducible refine w_setN ?_ | with_reducible refine w_snew ?_ | with_reducible refine w_C ?_ | with_reducible refine w_bin ?_ | with_reducible refine w_un ?_ | with_reducible refine w_isi ?_ | with_reducible refine w_isi2 ?_ | with_reducible refine w_chain ?_ | with_reducible refine w_if ?_ | with_reducible refine w_nil ?_ | with_reducible refine w_cons ?_ | with_reducible refine w_F ?_ | with_reducible refine w_Fb ?_ | with_reducible refine w_FN ?_ | with_reducible refine w_noPart ?_ | with_reducible refine w_slice ?_ | with_reducible refine w_val ?_ | with_reducible refine w_tAnd ?_ | with_reducible refine w_tOr ?_ | with_reducible refine w_tNot ?_ | with_reducible refine w_tYes ?_ | with_reducible refine w_and ?_ | with_reducible refine w_or ?_ | with_reducible refine w_not ?_ | with_reducible refine w_iRng ?_ | with_reducible refine w_iRngD ?_ | with_reducible refine w_iZip ?_ | with_reducible refine w_fr ?_ | with_reducible refine w_tupL ?_ | with_reducible refine w_im ?_ | with_reducible refine w_ow ?_ | with_reducible refine w_set ?_ | with_reducible refine w_par ?_ | with_reducible refine w_expr ?_ | with_reducible refine w_ret ?_ | with_reducible refine w_retN ?_ | with_reducible refine w_pass ?_ | with_reducible refine w_break ?_ | with_reducible refine w_cont ?_ | with_reducible refine w_seq ?_ | with_reducible refine w_sif ?_ | with_reducible refine x_add ?_ | with_reducible refine x_addI ?_ | with_reducible refine x_sub ?_ | with_reducible refine x_neg ?_ | with_reducible refine x_lt ?_ | with_reducible refine x_le ?_ | with_reducible refine x_gt ?_ | with_reducible refine x_ge ?_ | with_reducible refine x_eqS ?_ | with_reducible refine x_eq ?_ | with_reducible refine x_ne ?_ | with_reducible refine x_isN ?_ | with_reducible refine x_notN ?_ | with_reducible refine x_isB ?_ | with_reducible refine x_notB ?_ | with_reducible refine x_lenL ?_ | with_reducible refine x_lenT ?_ | with_reducible refine x_max2 ?_ | with_reducible refine x_min2 ?_ | with_reducible refine x_abs ?_ | with_reducible refine x_tupleL ?_ | with_reducible refine x_tupleT ?_ | with_reducible refine x_partL ?_ | with_reducible refine x_partT ?_ | with_reducible refine x_listL ?_ | with_reducible refine x_listT ?_ | with_reducible refine x_iii ?_ | with_reducible refine x_ibi ?_ | with_reducible refine x_iss ?_ | with_reducible refine x_itt ?_ | with_reducible refine x_ill ?_ | with_reducible refine c_true ?_ | with_reducible refine c_false ?_ | with_reducible refine c_nt ?_ | with_reducible refine c_nf ?_ | with_reducible refine c_not ?_ | ((with_reducible apply w_FI); · rfl) | ((with_reducible apply w_oIx); · rfl) | ((with_reducible apply w_oLen); · rfl) | ((with_reducible apply w_oBin); · rfl) | ((with_reducible apply w_consO); · rfl) | ((with_reducible apply w_aug); · rfl) | ((with_reducible apply w_app); · rfl) | ((with_reducible apply w_oset); · rfl) | ((with_reducible apply w_ext); · rfl) | ((with_reducible apply w_retO); · rfl) | ((with_reducible apply w_frz); · rfl) | ((with_reducible apply e_ow); · rfl) | with_reducible refine e_bl ?_ | with_reducible refine e_int ?_ | with_reducible refine e_lst ?_ | with_reducible refine e_tup ?_ | with_reducible refine e_seqL ?_ | with_reducible refine e_seqT ?_ | with_reducible refine e_zipL ?_ | with_reducible refine e_zipT ?_ | with_reducible refine w_partI ?_ | with_reducible refine w_iSeq ?_ | with_reducible refine w_iEnum ?_ | with_reducible refine w_new ?_ | with_reducible refine w_rev ?_ | with_reducible refine w_revT ?_ | with_reducible refine w_slice ?_ | with_reducible refine y_le ?_ | with_reducible refine y_lt ?_ | with_reducible refine y_ge ?_ | with_reducible refine y_gt ?_ | ((with_reducible apply x_ixT); · rfl) | ((with_reducible apply x_ixL); · rfl) | ((with_reducible apply e_at); · rfl) | ((with_reducible apply x_mul); · rfl) | ((with_reducible apply e_ix); · rfl) | ((with_reducible apply x_div); · decide) | ((with_reducible apply x_mod); · decide) | with_reducible refine w_lst ?_ | with_reducible refine w_tup ?_ | ((with_reducible apply e_cap); · exact Nat.le_of_ble_eq_true rfl) | ((with_reducible apply e_set); · (simp only [List.set_cons_zero, List.set_cons_succ]; rfl)) | ((with_reducible apply e_setL); (· rfl); (· (simp only [List.set_cons_zero, List.set_cons_succ]; rfl))) | ((with_reducible apply e_par); (· rfl); (· (simp only [List.set_cons_zero, List.set_cons_succ]; rfl))) | ((with_reducible apply e_par3); (· rfl); (· (simp only [List.set_cons_zero, List.set_cons_succ]; rfl))) | ((with_reducible apply e_pt); (· rfl); (· (simp only [List.set_cons_zero, List.set_cons_succ]; rfl))) | ((with_reducible apply e_pT); · (simp only [pTs, pN, List.length_cons, List.length_nil, List.set_cons_zero, List.set_cons_succ, Nat.reduceAdd, Nat.reduceLT, ite_true, Option.some.injEq]; rfl))))
  refine ⟨by rw [iL_len, List.length_map, len_prs]; exact cap_lt (by omega), ?_, rfl, rfl, ?_⟩
  · intro d hd
    simp only [iL, List.mem_map] at hd
    obtain ⟨p, hp, rfl⟩ := hd
    refine ⟨_, rfl, rfl, rfl, ?_⟩
    (repeat' (first | ((with_reducible refine c_decT ?_ ?_); · first | decide | rfl) | ((with_reducible refine c_decF ?_ ?_); · decide) | with_reducible refine w_seq ?_ | ((with_reducible apply w_var); · rfl) | with_reducible refine w_setN ?_ | with_reducible refine w_snew ?_ | with_reducible refine w_C ?_ | with_reducible refine w_bin ?_ | with_reducible refine w_un ?_ | with_reducible refine w_isi ?_ | with_reducible refine w_isi2 ?_ | with_reducible refine w_chain ?_ | with_reducible refine w_if ?_ | with_reducible refine w_nil ?_ | with_reducible refine w_cons ?_ | with_reducible refine w_F ?_ | with_reducible refine w_Fb ?_ | with_reducible refine w_FN ?_ | with_reducible refine w_noPart ?_ | with_reducible refine w_slice ?_ | with_reducible refine w_val ?_ | with_reducible refine w_tAnd ?_ | with_reducible refine w_tOr ?_ | with_reducible refine w_tNot ?_ | with_reducible refine w_tYes ?_ | with_reducible refine w_and ?_ | with_reducible refine w_or ?_ | with_reducible refine w_not ?_ | with_reducible refine w_iRng ?_ | with_reducible refine w_iRngD ?_ | with_reducible refine w_iZip ?_ | with_reducible refine w_fr ?_ | with_reducible refine w_tupL ?_ | with_reducible refine w_im ?_ | with_reducible refine w_ow ?_ | with_reducible refine w_set ?_ | with_reducible refine w_par ?_ | with_reducible refine w_expr ?_ | with_reducible refine w_ret ?_ | with_reducible refine w_retN ?_ | with_reducible refine w_pass ?_ | with_reducible refine w_break ?_ | with_reducible refine w_cont ?_ | with_reducible refine w_seq ?_ | with_reducible refine w_sif ?_ | with_reducible refine x_add ?_ | with_reducible refine x_addI ?_ | with_reducible refine x_sub ?_ | with_reducible refine x_neg ?_ | with_reducible refine x_lt ?_ | with_reducible refine x_le ?_ | with_reducible refine x_gt ?_ | with_reducible refine x_ge ?_ | with_reducible refine x_eqS ?_ | with_reducible refine x_eq ?_ | with_reducible refine x_ne ?_ | with_reducible refine x_isN ?_ | with_reducible refine x_notN ?_ | with_reducible refine x_isB ?_ | with_reducible refine x_notB ?_ | with_reducible refine x_lenL ?_ | with_reducible refine x_lenT ?_ | with_reducible refine x_max2 ?_ | with_reducible refine x_min2 ?_ | with_reducible refine x_abs ?_ | with_reducible refine x_tupleL ?_ | with_reducible refine x_tupleT ?_ | with_reducible refine x_partL ?_ | with_reducible refine x_partT ?_ | with_reducible refine x_listL ?_ | with_reducible refine x_listT ?_ | with_reducible refine x_iii ?_ | with_reducible refine x_ibi ?_ | with_reducible refine x_iss ?_ | with_reducible refine x_itt ?_ | with_reducible refine x_ill ?_ | with_reducible refine c_true ?_ | with_reducible refine c_false ?_ | with_reducible refine c_nt ?_ | with_reducible refine c_nf ?_ | with_reducible refine c_not ?_ | ((with_reducible apply w_FI); · rfl) | ((with_reducible apply w_oIx); · rfl) | ((with_reducible apply w_oLen); · rfl) | ((with_reducible apply w_oBin); · rfl) | ((with_reducible apply w_consO); · rfl) | ((with_reducible apply w_aug); · rfl) | ((with_reducible apply w_app); · rfl) | ((with_reducible apply w_oset); · rfl) | ((with_reducible apply w_ext); · rfl) | ((with_reducible apply w_retO); · rfl) | ((with_reducible apply w_frz); · rfl) | ((with_reducible apply e_ow); · rfl) | with_reducible refine e_bl ?_ | with_reducible refine e_int ?_ | with_reducible refine e_lst ?_ | with_reducible refine e_tup ?_ | with_reducible refine e_seqL ?_ | with_reducible refine e_seqT ?_ | with_reducible refine e_zipL ?_ | with_reducible refine e_zipT ?_ | with_reducible refine w_partI ?_ | with_reducible refine w_iSeq ?_ | with_reducible refine w_iEnum ?_ | with_reducible refine w_new ?_ | with_reducible refine w_rev ?_ | with_reducible refine w_revT ?_ | with_reducible refine w_slice ?_ | with_reducible refine y_le ?_ | with_reducible refine y_lt ?_ | with_reducible refine y_ge ?_ | with_reducible refine y_gt ?_ | ((with_reducible apply x_ixT); · rfl) | ((with_reducible apply x_ixL); · rfl) | ((with_reducible apply e_at); · rfl) | ((with_reducible apply x_mul); · rfl) | ((with_reducible apply e_ix); · rfl) | ((with_reducible apply x_div); · decide) | ((with_reducible apply x_mod); · decide) | with_reducible refine w_lst ?_ | with_reducible refine w_tup ?_ | ((with_reducible apply e_cap); · exact Nat.le_of_ble_eq_true rfl) | ((with_reducible apply e_set); · (simp only [List.set_cons_zero, List.set_cons_succ]; rfl)) | ((with_reducible apply e_setL); (· rfl); (· (simp only [List.set_cons_zero, List.set_cons_succ]; rfl))) | ((with_reducible apply e_par); (· rfl); (· (simp only [List.set_cons_zero, List.set_cons_succ]; rfl))) | ((with_reducible apply e_par3); (· rfl); (· (simp only [List.set_cons_zero, List.set_cons_succ]; rfl))) | ((with_reducible apply e_pt); (· rfl); (· (simp only [List.set_cons_zero, List.set_cons_succ]; rfl))) | ((with_reducible apply e_pT); · (simp only [pTs, pN, List.length_cons, List.length_nil, List.set_cons_zero, List.set_cons_succ, Nat.reduceAdd, Nat.reduceLT, ite_true, Option.some.injEq]; rfl))))
    refine ⟨rfl, rfl, fun _ => ?_⟩
    (repeat' (first | ((with_reducible refine c_decT ?_ ?_); · first | decide | rfl) | ((with_reducible refine c_decF ?_ ?_); · decide) | with_reducible refine w_seq ?_ | ((with_reducible apply w_var); · rfl) | with_reducible refine w_setN ?_ | with_reducible refine w_snew ?_ | with_reducible refine w_C ?_ | with_reducible refine w_bin ?_ | with_reducible refine w_un ?_ | with_reducible refine w_isi ?_ | with_reducible refine w_isi2 ?_ | with_reducible refine w_chain ?_ | with_reducible refine w_if ?_ | with_reducible refine w_nil ?_ | with_reducible refine w_cons ?_ | with_reducible refine w_F ?_ | with_reducible refine w_Fb ?_ | with_reducible refine w_FN ?_ | with_reducible refine w_noPart ?_ | with_reducible refine w_slice ?_ | with_reducible refine w_val ?_ | with_reducible refine w_tAnd ?_ | with_reducible refine w_tOr ?_ | with_reducible refine w_tNot ?_ | with_reducible refine w_tYes ?_ | with_reducible refine w_and ?_ | with_reducible refine w_or ?_ | with_reducible refine w_not ?_ | with_reducible refine w_iRng ?_ | with_reducible refine w_iRngD ?_ | with_reducible refine w_iZip ?_ | with_reducible refine w_fr ?_ | with_reducible refine w_tupL ?_ | with_reducible refine w_im ?_ | with_reducible refine w_ow ?_ | with_reducible refine w_set ?_ | with_reducible refine w_par ?_ | with_reducible refine w_expr ?_ | with_reducible refine w_ret ?_ | with_reducible refine w_retN ?_ | with_reducible refine w_pass ?_ | with_reducible refine w_break ?_ | with_reducible refine w_cont ?_ | with_reducible refine w_seq ?_ | with_reducible refine w_sif ?_ | with_reducible refine x_add ?_ | with_reducible refine x_addI ?_ | with_reducible refine x_sub ?_ | with_reducible refine x_neg ?_ | with_reducible refine x_lt ?_ | with_reducible refine x_le ?_ | with_reducible refine x_gt ?_ | with_reducible refine x_ge ?_ | with_reducible refine x_eqS ?_ | with_reducible refine x_eq ?_ | with_reducible refine x_ne ?_ | with_reducible refine x_isN ?_ | with_reducible refine x_notN ?_ | with_reducible refine x_isB ?_ | with_reducible refine x_notB ?_ | with_reducible refine x_lenL ?_ | with_reducible refine x_lenT ?_ | with_reducible refine x_max2 ?_ | with_reducible refine x_min2 ?_ | with_reducible refine x_abs ?_ | with_reducible refine x_tupleL ?_ | with_reducible refine x_tupleT ?_ | with_reducible refine x_partL ?_ | with_reducible refine x_partT ?_ | with_reducible refine x_listL ?_ | with_reducible refine x_listT ?_ | with_reducible refine x_iii ?_ | with_reducible refine x_ibi ?_ | with_reducible refine x_iss ?_ | with_reducible refine x_itt ?_ | with_reducible refine x_ill ?_ | with_reducible refine c_true ?_ | with_reducible refine c_false ?_ | with_reducible refine c_nt ?_ | with_reducible refine c_nf ?_ | with_reducible refine c_not ?_ | ((with_reducible apply w_FI); · rfl) | ((with_reducible apply w_oIx); · rfl) | ((with_reducible apply w_oLen); · rfl) | ((with_reducible apply w_oBin); · rfl) | ((with_reducible apply w_consO); · rfl) | ((with_reducible apply w_aug); · rfl) | ((with_reducible apply w_app); · rfl) | ((with_reducible apply w_oset); · rfl) | ((with_reducible apply w_ext); · rfl) | ((with_reducible apply w_retO); · rfl) | ((with_reducible apply w_frz); · rfl) | ((with_reducible apply e_ow); · rfl) | with_reducible refine e_bl ?_ | with_reducible refine e_int ?_ | with_reducible refine e_lst ?_ | with_reducible refine e_tup ?_ | with_reducible refine e_seqL ?_ | with_reducible refine e_seqT ?_ | with_reducible refine e_zipL ?_ | with_reducible refine e_zipT ?_ | with_reducible refine w_partI ?_ | with_reducible refine w_iSeq ?_ | with_reducible refine w_iEnum ?_ | with_reducible refine w_new ?_ | with_reducible refine w_rev ?_ | with_reducible refine w_revT ?_ | with_reducible refine w_slice ?_ | with_reducible refine y_le ?_ | with_reducible refine y_lt ?_ | with_reducible refine y_ge ?_ | with_reducible refine y_gt ?_ | ((with_reducible apply x_ixT); · rfl) | ((with_reducible apply x_ixL); · rfl) | ((with_reducible apply e_at); · rfl) | ((with_reducible apply x_mul); · rfl) | ((with_reducible apply e_ix); · rfl) | ((with_reducible apply x_div); · decide) | ((with_reducible apply x_mod); · decide) | with_reducible refine w_lst ?_ | with_reducible refine w_tup ?_ | ((with_reducible apply e_cap); · exact Nat.le_of_ble_eq_true rfl) | ((with_reducible apply e_set); · (simp only [List.set_cons_zero, List.set_cons_succ]; rfl)) | ((with_reducible apply e_setL); (· rfl); (· (simp only [List.set_cons_zero, List.set_cons_succ]; rfl))) | ((with_reducible apply e_par); (· rfl); (· (simp only [List.set_cons_zero, List.set_cons_succ]; rfl))) | ((with_reducible apply e_par3); (· rfl); (· (simp only [List.set_cons_zero, List.set_cons_succ]; rfl))) | ((with_reducible apply e_pt); (· rfl); (· (simp only [List.set_cons_zero, List.set_cons_succ]; rfl))) | ((with_reducible apply e_pT); · (simp only [pTs, pN, List.length_cons, List.length_nil, List.set_cons_zero, List.set_cons_succ, Nat.reduceAdd, Nat.reduceLT, ite_true, Option.some.injEq]; rfl))))
    exact ⟨rfl, rfl⟩
  rw [filter_iL, List.map_id']
  (repeat' (first | ((with_reducible refine c_decT ?_ ?_); · first | decide | rfl) | ((with_reducible refine c_decF ?_ ?_); · decide) | with_reducible refine w_seq ?_ | ((with_reducible apply w_var); · rfl) | with_reducible refine w_setN ?_ | with_reducible refine w_snew ?_ | with_reducible refine w_C ?_ | with_reducible refine w_bin ?_ | with_reducible refine w_un ?_ | with_reducible refine w_isi ?_ | with_reducible refine w_isi2 ?_ | with_reducible refine w_chain ?_ | with_reducible refine w_if ?_ | with_reducible refine w_nil ?_ | with_reducible refine w_cons ?_ | with_reducible refine w_F ?_ | with_reducible refine w_Fb ?_ | with_reducible refine w_FN ?_ | with_reducible refine w_noPart ?_ | with_reducible refine w_slice ?_ | with_reducible refine w_val ?_ | with_reducible refine w_tAnd ?_ | with_reducible refine w_tOr ?_ | with_reducible refine w_tNot ?_ | with_reducible refine w_tYes ?_ | with_reducible refine w_and ?_ | with_reducible refine w_or ?_ | with_reducible refine w_not ?_ | with_reducible refine w_iRng ?_ | with_reducible refine w_iRngD ?_ | with_reducible refine w_iZip ?_ | with_reducible refine w_fr ?_ | with_reducible refine w_tupL ?_ | with_reducible refine w_im ?_ | with_reducible refine w_ow ?_ | with_reducible refine w_set ?_ | with_reducible refine w_par ?_ | with_reducible refine w_expr ?_ | with_reducible refine w_ret ?_ | with_reducible refine w_retN ?_ | with_reducible refine w_pass ?_ | with_reducible refine w_break ?_ | with_reducible refine w_cont ?_ | with_reducible refine w_seq ?_ | with_reducible refine w_sif ?_ | with_reducible refine x_add ?_ | with_reducible refine x_addI ?_ | with_reducible refine x_sub ?_ | with_reducible refine x_neg ?_ | with_reducible refine x_lt ?_ | with_reducible refine x_le ?_ | with_reducible refine x_gt ?_ | with_reducible refine x_ge ?_ | with_reducible refine x_eqS ?_ | with_reducible refine x_eq ?_ | with_reducible refine x_ne ?_ | with_reducible refine x_isN ?_ | with_reducible refine x_notN ?_ | with_reducible refine x_isB ?_ | with_reducible refine x_notB ?_ | with_reducible refine x_lenL ?_ | with_reducible refine x_lenT ?_ | with_reducible refine x_max2 ?_ | with_reducible refine x_min2 ?_ | with_reducible refine x_abs ?_ | with_reducible refine x_tupleL ?_ | with_reducible refine x_tupleT ?_ | with_reducible refine x_partL ?_ | with_reducible refine x_partT ?_ | with_reducible refine x_listL ?_ | with_reducible refine x_listT ?_ | with_reducible refine x_iii ?_ | with_reducible refine x_ibi ?_ | with_reducible refine x_iss ?_ | with_reducible refine x_itt ?_ | with_reducible refine x_ill ?_ | with_reducible refine c_true ?_ | with_reducible refine c_false ?_ | with_reducible refine c_nt ?_ | with_reducible refine c_nf ?_ | with_reducible refine c_not ?_ | ((with_reducible apply w_FI); · rfl) | ((with_reducible apply w_oIx); · rfl) | ((with_reducible apply w_oLen); · rfl) | ((with_reducible apply w_oBin); · rfl) | ((with_reducible apply w_consO); · rfl) | ((with_reducible apply w_aug); · rfl) | ((with_reducible apply w_app); · rfl) | ((with_reducible apply w_oset); · rfl) | ((with_reducible apply w_ext); · rfl) | ((with_reducible apply w_retO); · rfl) | ((with_reducible apply w_frz); · rfl) | ((with_reducible apply e_ow); · rfl) | with_reducible refine e_bl ?_ | with_reducible refine e_int ?_ | with_reducible refine e_lst ?_ | with_reducible refine e_tup ?_ | with_reducible refine e_seqL ?_ | with_reducible refine e_seqT ?_ | with_reducible refine e_zipL ?_ | with_reducible refine e_zipT ?_ | with_reducible refine w_partI ?_ | with_reducible refine w_iSeq ?_ | with_reducible refine w_iEnum ?_ | with_reducible refine w_new ?_ | with_reducible refine w_rev ?_ | with_reducible refine w_revT ?_ | with_reducible refine w_slice ?_ | with_reducible refine y_le ?_ | with_reducible refine y_lt ?_ | with_reducible refine y_ge ?_ | with_reducible refine y_gt ?_ | ((with_reducible apply x_ixT); · rfl) | ((with_reducible apply x_ixL); · rfl) | ((with_reducible apply e_at); · rfl) | ((with_reducible apply x_mul); · rfl) | ((with_reducible apply e_ix); · rfl) | ((with_reducible apply x_div); · decide) | ((with_reducible apply x_mod); · decide) | with_reducible refine w_lst ?_ | with_reducible refine w_tup ?_ | ((with_reducible apply e_cap); · exact Nat.le_of_ble_eq_true rfl) | ((with_reducible apply e_set); · (simp only [List.set_cons_zero, List.set_cons_succ]; rfl)) | ((with_reducible apply e_setL); (· rfl); (· (simp only [List.set_cons_zero, List.set_cons_succ]; rfl))) | ((with_reducible apply e_par); (· rfl); (· (simp only [List.set_cons_zero, List.set_cons_succ]; rfl))) | ((with_reducible apply e_par3); (· rfl); (· (simp only [List.set_cons_zero, List.set_cons_succ]; rfl))) | ((with_reducible apply e_pt); (· rfl); (· (simp only [List.set_cons_zero, List.set_cons_succ]; rfl))) | ((with_reducible apply e_pT); · (simp only [pTs, pN, List.length_cons, List.length_nil, List.set_cons_zero, List.set_cons_succ, Nat.reduceAdd, Nat.reduceLT, ite_true, Option.some.injEq]; rfl))))
  refine x_sum ?_
  (repeat' (first | ((with_reducible refine c_decT ?_ ?_); · first | decide | rfl) | ((with_reducible refine c_decF ?_ ?_); · decide) | with_reducible refine w_seq ?_ | ((with_reducible apply w_var); · rfl) | with_reducible refine w_setN ?_ | with_reducible refine w_snew ?_ | with_reducible refine w_C ?_ | with_reducible refine w_bin ?_ | with_reducible refine w_un ?_ | with_reducible refine w_isi ?_ | with_reducible refine w_isi2 ?_ | with_reducible refine w_chain ?_ | with_reducible refine w_if ?_ | with_reducible refine w_nil ?_ | with_reducible refine w_cons ?_ | with_reducible refine w_F ?_ | with_reducible refine w_Fb ?_ | with_reducible refine w_FN ?_ | with_reducible refine w_noPart ?_ | with_reducible refine w_slice ?_ | with_reducible refine w_val ?_ | with_reducible refine w_tAnd ?_ | with_reducible refine w_tOr ?_ | with_reducible refine w_tNot ?_ | with_reducible refine w_tYes ?_ | with_reducible refine w_and ?_ | with_reducible refine w_or ?_ | with_reducible refine w_not ?_ | with_reducible refine w_iRng ?_ | with_reducible refine w_iRngD ?_ | with_reducible refine w_iZip ?_ | with_reducible refine w_fr ?_ | with_reducible refine w_tupL ?_ | with_reducible refine w_im ?_ | with_reducible refine w_ow ?_ | with_reducible refine w_set ?_ | with_reducible refine w_par ?_ | with_reducible refine w_expr ?_ | with_reducible refine w_ret ?_ | with_reducible refine w_retN ?_ | with_reducible refine w_pass ?_ | with_reducible refine w_break ?_ | with_reducible refine w_cont ?_ | with_reducible refine w_seq ?_ | with_reducible refine w_sif ?_ | with_reducible refine x_add ?_ | with_reducible refine x_addI ?_ | with_reducible refine x_sub ?_ | with_reducible refine x_neg ?_ | with_reducible refine x_lt ?_ | with_reducible refine x_le ?_ | with_reducible refine x_gt ?_ | with_reducible refine x_ge ?_ | with_reducible refine x_eqS ?_ | with_reducible refine x_eq ?_ | with_reducible refine x_ne ?_ | with_reducible refine x_isN ?_ | with_reducible refine x_notN ?_ | with_reducible refine x_isB ?_ | with_reducible refine x_notB ?_ | with_reducible refine x_lenL ?_ | with_reducible refine x_lenT ?_ | with_reducible refine x_max2 ?_ | with_reducible refine x_min2 ?_ | with_reducible refine x_abs ?_ | with_reducible refine x_tupleL ?_ | with_reducible refine x_tupleT ?_ | with_reducible refine x_partL ?_ | with_reducible refine x_partT ?_ | with_reducible refine x_listL ?_ | with_reducible refine x_listT ?_ | with_reducible refine x_iii ?_ | with_reducible refine x_ibi ?_ | with_reducible refine x_iss ?_ | with_reducible refine x_itt ?_ | with_reducible refine x_ill ?_ | with_reducible refine c_true ?_ | with_reducible refine c_false ?_ | with_reducible refine c_nt ?_ | with_reducible refine c_nf ?_ | with_reducible refine c_not ?_ | ((with_reducible apply w_FI); · rfl) | ((with_reducible apply w_oIx); · rfl) | ((with_reducible apply w_oLen); · rfl) | ((with_reducible apply w_oBin); · rfl) | ((with_reducible apply w_consO); · rfl) | ((with_reducible apply w_aug); · rfl) | ((with_reducible apply w_app); · rfl) | ((with_reducible apply w_oset); · rfl) | ((with_reducible apply w_ext); · rfl) | ((with_reducible apply w_retO); · rfl) | ((with_reducible apply w_frz); · rfl) | ((with_reducible apply e_ow); · rfl) | with_reducible refine e_bl ?_ | with_reducible refine e_int ?_ | with_reducible refine e_lst ?_ | with_reducible refine e_tup ?_ | with_reducible refine e_seqL ?_ | with_reducible refine e_seqT ?_ | with_reducible refine e_zipL ?_ | with_reducible refine e_zipT ?_ | with_reducible refine w_partI ?_ | with_reducible refine w_iSeq ?_ | with_reducible refine w_iEnum ?_ | with_reducible refine w_new ?_ | with_reducible refine w_rev ?_ | with_reducible refine w_revT ?_ | with_reducible refine w_slice ?_ | with_reducible refine y_le ?_ | with_reducible refine y_lt ?_ | with_reducible refine y_ge ?_ | with_reducible refine y_gt ?_ | ((with_reducible apply x_ixT); · rfl) | ((with_reducible apply x_ixL); · rfl) | ((with_reducible apply e_at); · rfl) | ((with_reducible apply x_mul); · rfl) | ((with_reducible apply e_ix); · rfl) | ((with_reducible apply x_div); · decide) | ((with_reducible apply x_mod); · decide) | with_reducible refine w_lst ?_ | with_reducible refine w_tup ?_ | ((with_reducible apply e_cap); · exact Nat.le_of_ble_eq_true rfl) | ((with_reducible apply e_set); · (simp only [List.set_cons_zero, List.set_cons_succ]; rfl)) | ((with_reducible apply e_setL); (· rfl); (· (simp only [List.set_cons_zero, List.set_cons_succ]; rfl))) | ((with_reducible apply e_par); (· rfl); (· (simp only [List.set_cons_zero, List.set_cons_succ]; rfl))) | ((with_reducible apply e_par3); (· rfl); (· (simp only [List.set_cons_zero, List.set_cons_succ]; rfl))) | ((with_reducible apply e_pt); (· rfl); (· (simp only [List.set_cons_zero, List.set_cons_succ]; rfl))) | ((with_reducible apply e_pT); · (simp only [pTs, pN, List.length_cons, List.length_nil, List.set_cons_zero, List.set_cons_succ, Nat.reduceAdd, Nat.reduceLT, ite_true, Option.some.injEq]; rfl))))
  refine w_compP (fun d => match d with | .int i => decide (i < 0) | _ => false) (fun d => d) ?_
  (repeat' (first | ((with_reducible refine c_decT ?_ ?_); · first | decide | rfl) | ((with_reducible refine c_decF ?_ ?_); · decide) | with_reducible refine w_seq ?_ | ((with_reducible apply w_var); · rfl) | with_reducible refine w_setN ?_ | with_reducible refine w_snew ?_ | with_reducible refine w_C ?_ | with_reducible refine w_bin ?_ | with_reducible refine w_un ?_ | with_reducible refine w_isi ?_ | with_reducible refine w_isi2 ?_ | with_reducible refine w_chain ?_ | with_reducible refine w_if ?_ | with_reducible refine w_nil ?_ | with_reducible refine w_cons ?_ | with_reducible refine w_F ?_ | with_reducible refine w_Fb ?_ | with_reducible refine w_FN ?_ | with_reducible refine w_noPart ?_ | with_reducible refine w_slice ?_ | with_reducible refine w_val ?_ | with_reducible refine w_tAnd ?_ | with_reducible refine w_tOr ?_ | with_reducible refine w_tNot ?_ | with_reducible refine w_tYes ?_ | with_reducible refine w_and ?_ | with_reducible refine w_or ?_ | with_reducible refine w_not ?_ | with_reducible refine w_iRng ?_ | with_reducible refine w_iRngD ?_ | with_reducible refine w_iZip ?_ | with_reducible refine w_fr ?_ | with_reducible refine w_tupL ?_ | with_reducible refine w_im ?_ | with_reducible refine w_ow ?_ | with_reducible refine w_set ?_ | with_reducible refine w_par ?_ | with_reducible refine w_expr ?_ | with_reducible refine w_ret ?_ | with_reducible refine w_retN ?_ | with_reducible refine w_pass ?_ | with_reducible refine w_break ?_ | with_reducible refine w_cont ?_ | with_reducible refine w_seq ?_ | with_reducible refine w_sif ?_ | with_reducible refine x_add ?_ | with_reducible refine x_addI ?_ | with_reducible refine x_sub ?_ | with_reducible refine x_neg ?_ | with_reducible refine x_lt ?_ | with_reducible refine x_le ?_ | with_reducible refine x_gt ?_ | with_reducible refine x_ge ?_ | with_reducible refine x_eqS ?_ | with_reducible refine x_eq ?_ | with_reducible refine x_ne ?_ | with_reducible refine x_isN ?_ | with_reducible refine x_notN ?_ | with_reducible refine x_isB ?_ | with_reducible refine x_notB ?_ | with_reducible refine x_lenL ?_ | with_reducible refine x_lenT ?_ | with_reducible refine x_max2 ?_ | with_reducible refine x_min2 ?_ | with_reducible refine x_abs ?_ | with_reducible refine x_tupleL ?_ | with_reducible refine x_tupleT ?_ | with_reducible refine x_partL ?_ | with_reducible refine x_partT ?_ | with_reducible refine x_listL ?_ | with_reducible refine x_listT ?_ | with_reducible refine x_iii ?_ | with_reducible refine x_ibi ?_ | with_reducible refine x_iss ?_ | with_reducible refine x_itt ?_ | with_reducible refine x_ill ?_ | with_reducible refine c_true ?_ | with_reducible refine c_false ?_ | with_reducible refine c_nt ?_ | with_reducible refine c_nf ?_ | with_reducible refine c_not ?_ | ((with_reducible apply w_FI); · rfl) | ((with_reducible apply w_oIx); · rfl) | ((with_reducible apply w_oLen); · rfl) | ((with_reducible apply w_oBin); · rfl) | ((with_reducible apply w_consO); · rfl) | ((with_reducible apply w_aug); · rfl) | ((with_reducible apply w_app); · rfl) | ((with_reducible apply w_oset); · rfl) | ((with_reducible apply w_ext); · rfl) | ((with_reducible apply w_retO); · rfl) | ((with_reducible apply w_frz); · rfl) | ((with_reducible apply e_ow); · rfl) | with_reducible refine e_bl ?_ | with_reducible refine e_int ?_ | with_reducible refine e_lst ?_ | with_reducible refine e_tup ?_ | with_reducible refine e_seqL ?_ | with_reducible refine e_seqT ?_ | with_reducible refine e_zipL ?_ | with_reducible refine e_zipT ?_ | with_reducible refine w_partI ?_ | with_reducible refine w_iSeq ?_ | with_reducible refine w_iEnum ?_ | with_reducible refine w_new ?_ | with_reducible refine w_rev ?_ | with_reducible refine w_revT ?_ | with_reducible refine w_slice ?_ | with_reducible refine y_le ?_ | with_reducible refine y_lt ?_ | with_reducible refine y_ge ?_ | with_reducible refine y_gt ?_ | ((with_reducible apply x_ixT); · rfl) | ((with_reducible apply x_ixL); · rfl) | ((with_reducible apply e_at); · rfl) | ((with_reducible apply x_mul); · rfl) | ((with_reducible apply e_ix); · rfl) | ((with_reducible apply x_div); · decide) | ((with_reducible apply x_mod); · decide) | with_reducible refine w_lst ?_ | with_reducible refine w_tup ?_ | ((with_reducible apply e_cap); · exact Nat.le_of_ble_eq_true rfl) | ((with_reducible apply e_set); · (simp only [List.set_cons_zero, List.set_cons_succ]; rfl)) | ((with_reducible apply e_setL); (· rfl); (· (simp only [List.set_cons_zero, List.set_cons_succ]; rfl))) | ((with_reducible apply e_par); (· rfl); (· (simp only [List.set_cons_zero, List.set_cons_succ]; rfl))) | ((with_reducible apply e_par3); (· rfl); (· (simp only [List.set_cons_zero, List.set_cons_succ]; rfl))) | ((with_reducible apply e_pt); (· rfl); (· (simp only [List.set_cons_zero, List.set_cons_succ]; rfl))) | ((with_reducible apply e_pT); · (simp only [pTs, pN, List.length_cons, List.length_nil, List.set_cons_zero, List.set_cons_succ, Nat.reduceAdd, Nat.reduceLT, ite_true, Option.some.injEq]; rfl))))
  refine ⟨by rw [iL_len, List.length_map, len_prs]; exact cap_lt (by omega), ?_, rfl, rfl, ?_⟩
  · intro d hd
    simp only [iL, List.mem_map] at hd
    obtain ⟨p, hp, rfl⟩ := hd
    refine ⟨_, rfl, rfl, rfl, ?_⟩
    (repeat' (first | ((with_reducible refine c_decT ?_ ?_); · first | decide | rfl) | ((with_reducible refine c_decF ?_ ?_); · decide) | with_reducible refine w_seq ?_ | ((with_reducible apply w_var); · rfl) | with_reducible refine w_setN ?_ | with_reducible refine w_snew ?_ | with_reducible refine w_C ?_ | with_reducible refine w_bin ?_ | with_reducible refine w_un ?_ | with_reducible refine w_isi ?_ | with_reducible refine w_isi2 ?_ | with_reducible refine w_chain ?_ | with_reducible refine w_if ?_ | with_reducible refine w_nil ?_ | with_reducible refine w_cons ?_ | with_reducible refine w_F ?_ | with_reducible refine w_Fb ?_ | with_reducible refine w_FN ?_ | with_reducible refine w_noPart ?_ | with_reducible refine w_slice ?_ | with_reducible refine w_val ?_ | with_reducible refine w_tAnd ?_ | with_reducible refine w_tOr ?_ | with_reducible refine w_tNot ?_ | with_reducible refine w_tYes ?_ | with_reducible refine w_and ?_ | with_reducible refine w_or ?_ | with_reducible refine w_not ?_ | with_reducible refine w_iRng ?_ | with_reducible refine w_iRngD ?_ | with_reducible refine w_iZip ?_ | with_reducible refine w_fr ?_ | with_reducible refine w_tupL ?_ | with_reducible refine w_im ?_ | with_reducible refine w_ow ?_ | with_reducible refine w_set ?_ | with_reducible refine w_par ?_ | with_reducible refine w_expr ?_ | with_reducible refine w_ret ?_ | with_reducible refine w_retN ?_ | with_reducible refine w_pass ?_ | with_reducible refine w_break ?_ | with_reducible refine w_cont ?_ | with_reducible refine w_seq ?_ | with_reducible refine w_sif ?_ | with_reducible refine x_add ?_ | with_reducible refine x_addI ?_ | with_reducible refine x_sub ?_ | with_reducible refine x_neg ?_ | with_reducible refine x_lt ?_ | with_reducible refine x_le ?_ | with_reducible refine x_gt ?_ | with_reducible refine x_ge ?_ | with_reducible refine x_eqS ?_ | with_reducible refine x_eq ?_ | with_reducible refine x_ne ?_ | with_reducible refine x_isN ?_ | with_reducible refine x_notN ?_ | with_reducible refine x_isB ?_ | with_reducible refine x_notB ?_ | with_reducible refine x_lenL ?_ | with_reducible refine x_lenT ?_ | with_reducible refine x_max2 ?_ | with_reducible refine x_min2 ?_ | with_reducible refine x_abs ?_ | with_reducible refine x_tupleL ?_ | with_reducible refine x_tupleT ?_ | with_reducible refine x_partL ?_ | with_reducible refine x_partT ?_ | with_reducible refine x_listL ?_ | with_reducible refine x_listT ?_ | with_reducible refine x_iii ?_ | with_reducible refine x_ibi ?_ | with_reducible refine x_iss ?_ | with_reducible refine x_itt ?_ | with_reducible refine x_ill ?_ | with_reducible refine c_true ?_ | with_reducible refine c_false ?_ | with_reducible refine c_nt ?_ | with_reducible refine c_nf ?_ | with_reducible refine c_not ?_ | ((with_reducible apply w_FI); · rfl) | ((with_reducible apply w_oIx); · rfl) | ((with_reducible apply w_oLen); · rfl) | ((with_reducible apply w_oBin); · rfl) | ((with_reducible apply w_consO); · rfl) | ((with_reducible apply w_aug); · rfl) | ((with_reducible apply w_app); · rfl) | ((with_reducible apply w_oset); · rfl) | ((with_reducible apply w_ext); · rfl) | ((with_reducible apply w_retO); · rfl) | ((with_reducible apply w_frz); · rfl) | ((with_reducible apply e_ow); · rfl) | with_reducible refine e_bl ?_ | with_reducible refine e_int ?_ | with_reducible refine e_lst ?_ | with_reducible refine e_tup ?_ | with_reducible refine e_seqL ?_ | with_reducible refine e_seqT ?_ | with_reducible refine e_zipL ?_ | with_reducible refine e_zipT ?_ | with_reducible refine w_partI ?_ | with_reducible refine w_iSeq ?_ | with_reducible refine w_iEnum ?_ | with_reducible refine w_new ?_ | with_reducible refine w_rev ?_ | with_reducible refine w_revT ?_ | with_reducible refine w_slice ?_ | with_reducible refine y_le ?_ | with_reducible refine y_lt ?_ | with_reducible refine y_ge ?_ | with_reducible refine y_gt ?_ | ((with_reducible apply x_ixT); · rfl) | ((with_reducible apply x_ixL); · rfl) | ((with_reducible apply e_at); · rfl) | ((with_reducible apply x_mul); · rfl) | ((with_reducible apply e_ix); · rfl) | ((with_reducible apply x_div); · decide) | ((with_reducible apply x_mod); · decide) | with_reducible refine w_lst ?_ | with_reducible refine w_tup ?_ | ((with_reducible apply e_cap); · exact Nat.le_of_ble_eq_true rfl) | ((with_reducible apply e_set); · (simp only [List.set_cons_zero, List.set_cons_succ]; rfl)) | ((with_reducible apply e_setL); (· rfl); (· (simp only [List.set_cons_zero, List.set_cons_succ]; rfl))) | ((with_reducible apply e_par); (· rfl); (· (simp only [List.set_cons_zero, List.set_cons_succ]; rfl))) | ((with_reducible apply e_par3); (· rfl); (· (simp only [List.set_cons_zero, List.set_cons_succ]; rfl))) | ((with_reducible apply e_pt); (· rfl); (· (simp only [List.set_cons_zero, List.set_cons_succ]; rfl))) | ((with_reducible apply e_pT); · (simp only [pTs, pN, List.length_cons, List.length_nil, List.set_cons_zero, List.set_cons_succ, Nat.reduceAdd, Nat.reduceLT, ite_true, Option.some.injEq]; rfl))))
    refine ⟨rfl, rfl, fun _ => ?_⟩
    (repeat' (first | ((with_reducible refine c_decT ?_ ?_); · first | decide | rfl) | ((with_reducible refine c_decF ?_ ?_); · decide) | with_reducible refine w_seq ?_ | ((with_reducible apply w_var); · rfl) | with_reducible refine w_setN ?_ | with_reducible refine w_snew ?_ | with_reducible refine w_C ?_ | with_reducible refine w_bin ?_ | with_reducible refine w_un ?_ | with_reducible refine w_isi ?_ | with_reducible refine w_isi2 ?_ | with_reducible refine w_chain ?_ | with_reducible refine w_if ?_ | with_reducible refine w_nil ?_ | with_reducible refine w_cons ?_ | with_reducible refine w_F ?_ | with_reducible refine w_Fb ?_ | with_reducible refine w_FN ?_ | with_reducible refine w_noPart ?_ | with_reducible refine w_slice ?_ | with_reducible refine w_val ?_ | with_reducible refine w_tAnd ?_ | with_reducible refine w_tOr ?_ | with_reducible refine w_tNot ?_ | with_reducible refine w_tYes ?_ | with_reducible refine w_and ?_ | with_reducible refine w_or ?_ | with_reducible refine w_not ?_ | with_reducible refine w_iRng ?_ | with_reducible refine w_iRngD ?_ | with_reducible refine w_iZip ?_ | with_reducible refine w_fr ?_ | with_reducible refine w_tupL ?_ | with_reducible refine w_im ?_ | with_reducible refine w_ow ?_ | with_reducible refine w_set ?_ | with_reducible refine w_par ?_ | with_reducible refine w_expr ?_ | with_reducible refine w_ret ?_ | with_reducible refine w_retN ?_ | with_reducible refine w_pass ?_ | with_reducible refine w_break ?_ | with_reducible refine w_cont ?_ | with_reducible refine w_seq ?_ | with_reducible refine w_sif ?_ | with_reducible refine x_add ?_ | with_reducible refine x_addI ?_ | with_reducible refine x_sub ?_ | with_reducible refine x_neg ?_ | with_reducible refine x_lt ?_ | with_reducible refine x_le ?_ | with_reducible refine x_gt ?_ | with_reducible refine x_ge ?_ | with_reducible refine x_eqS ?_ | with_reducible refine x_eq ?_ | with_reducible refine x_ne ?_ | with_reducible refine x_isN ?_ | with_reducible refine x_notN ?_ | with_reducible refine x_isB ?_ | with_reducible refine x_notB ?_ | with_reducible refine x_lenL ?_ | with_reducible refine x_lenT ?_ | with_reducible refine x_max2 ?_ | with_reducible refine x_min2 ?_ | with_reducible refine x_abs ?_ | with_reducible refine x_tupleL ?_ | with_reducible refine x_tupleT ?_ | with_reducible refine x_partL ?_ | with_reducible refine x_partT ?_ | with_reducible refine x_listL ?_ | with_reducible refine x_listT ?_ | with_reducible refine x_iii ?_ | with_reducible refine x_ibi ?_ | with_reducible refine x_iss ?_ | with_reducible refine x_itt ?_ | with_reducible refine x_ill ?_ | with_reducible refine c_true ?_ | with_reducible refine c_false ?_ | with_reducible refine c_nt ?_ | with_reducible refine c_nf ?_ | with_reducible refine c_not ?_ | ((with_reducible apply w_FI); · rfl) | ((with_reducible apply w_oIx); · rfl) | ((with_reducible apply w_oLen); · rfl) | ((with_reducible apply w_oBin); · rfl) | ((with_reducible apply w_consO); · rfl) | ((with_reducible apply w_aug); · rfl) | ((with_reducible apply w_app); · rfl) | ((with_reducible apply w_oset); · rfl) | ((with_reducible apply w_ext); · rfl) | ((with_reducible apply w_retO); · rfl) | ((with_reducible apply w_frz); · rfl) | ((with_reducible apply e_ow); · rfl) | with_reducible refine e_bl ?_ | with_reducible refine e_int ?_ | with_reducible refine e_lst ?_ | with_reducible refine e_tup ?_ | with_reducible refine e_seqL ?_ | with_reducible refine e_seqT ?_ | with_reducible refine e_zipL ?_ | with_reducible refine e_zipT ?_ | with_reducible refine w_partI ?_ | with_reducible refine w_iSeq ?_ | with_reducible refine w_iEnum ?_ | with_reducible refine w_new ?_ | with_reducible refine w_rev ?_ | with_reducible refine w_revT ?_ | with_reducible refine w_slice ?_ | with_reducible refine y_le ?_ | with_reducible refine y_lt ?_ | with_reducible refine y_ge ?_ | with_reducible refine y_gt ?_ | ((with_reducible apply x_ixT); · rfl) | ((with_reducible apply x_ixL); · rfl) | ((with_reducible apply e_at); · rfl) | ((with_reducible apply x_mul); · rfl) | ((with_reducible apply e_ix); · rfl) | ((with_reducible apply x_div); · decide) | ((with_reducible apply x_mod); · decide) | with_reducible refine w_lst ?_ | with_reducible refine w_tup ?_ | ((with_reducible apply e_cap); · exact Nat.le_of_ble_eq_true rfl) | ((with_reducible apply e_set); · (simp only [List.set_cons_zero, List.set_cons_succ]; rfl)) | ((with_reducible apply e_setL); (· rfl); (· (simp only [List.set_cons_zero, List.set_cons_succ]; rfl))) | ((with_reducible apply e_par); (· rfl); (· (simp only [List.set_cons_zero, List.set_cons_succ]; rfl))) | ((with_reducible apply e_par3); (· rfl); (· (simp only [List.set_cons_zero, List.set_cons_succ]; rfl))) | ((with_reducible apply e_pt); (· rfl); (· (simp only [List.set_cons_zero, List.set_cons_succ]; rfl))) | ((with_reducible apply e_pT); · (simp only [pTs, pN, List.length_cons, List.length_nil, List.set_cons_zero, List.set_cons_succ, Nat.reduceAdd, Nat.reduceLT, ite_true, Option.some.injEq]; rfl))))
    exact ⟨rfl, rfl⟩
  rw [filter_iL, List.map_id']
  (repeat' (first | ((with_reducible refine c_decT ?_ ?_); · first | decide | rfl) | ((with_reducible refine c_decF ?_ ?_); · decide) | with_reducible refine w_seq ?_ | ((with_reducible apply w_var); · rfl) | with_reducible refine w_setN ?_ | with_reducible refine w_snew ?_ | with_reducible refine w_C ?_ | with_reducible refine w_bin ?_ | with_reducible refine w_un ?_ | with_reducible refine w_isi ?_ | with_reducible refine w_isi2 ?_ | with_reducible refine w_chain ?_ | with_reducible refine w_if ?_ | with_reducible refine w_nil ?_ | with_reducible refine w_cons ?_ | with_reducible refine w_F ?_ | with_reducible refine w_Fb ?_ | with_reducible refine w_FN ?_ | with_reducible refine w_noPart ?_ | with_reducible refine w_slice ?_ | with_reducible refine w_val ?_ | with_reducible refine w_tAnd ?_ | with_reducible refine w_tOr ?_ | with_reducible refine w_tNot ?_ | with_reducible refine w_tYes ?_ | with_reducible refine w_and ?_ | with_reducible refine w_or ?_ | with_reducible refine w_not ?_ | with_reducible refine w_iRng ?_ | with_reducible refine w_iRngD ?_ | with_reducible refine w_iZip ?_ | with_reducible refine w_fr ?_ | with_reducible refine w_tupL ?_ | with_reducible refine w_im ?_ | with_reducible refine w_ow ?_ | with_reducible refine w_set ?_ | with_reducible refine w_par ?_ | with_reducible refine w_expr ?_ | with_reducible refine w_ret ?_ | with_reducible refine w_retN ?_ | with_reducible refine w_pass ?_ | with_reducible refine w_break ?_ | with_reducible refine w_cont ?_ | with_reducible refine w_seq ?_ | with_reducible refine w_sif ?_ | with_reducible refine x_add ?_ | with_reducible refine x_addI ?_ | with_reducible refine x_sub ?_ | with_reducible refine x_neg ?_ | with_reducible refine x_lt ?_ | with_reducible refine x_le ?_ | with_reducible refine x_gt ?_ | with_reducible refine x_ge ?_ | with_reducible refine x_eqS ?_ | with_reducible refine x_eq ?_ | with_reducible refine x_ne ?_ | with_reducible refine x_isN ?_ | with_reducible refine x_notN ?_ | with_reducible refine x_isB ?_ | with_reducible refine x_notB ?_ | with_reducible refine x_lenL ?_ | with_reducible refine x_lenT ?_ | with_reducible refine x_max2 ?_ | with_reducible refine x_min2 ?_ | with_reducible refine x_abs ?_ | with_reducible refine x_tupleL ?_ | with_reducible refine x_tupleT ?_ | with_reducible refine x_partL ?_ | with_reducible refine x_partT ?_ | with_reducible refine x_listL ?_ | with_reducible refine x_listT ?_ | with_reducible refine x_iii ?_ | with_reducible refine x_ibi ?_ | with_reducible refine x_iss ?_ | with_reducible refine x_itt ?_ | with_reducible refine x_ill ?_ | with_reducible refine c_true ?_ | with_reducible refine c_false ?_ | with_reducible refine c_nt ?_ | with_reducible refine c_nf ?_ | with_reducible refine c_not ?_ | ((with_reducible apply w_FI); · rfl) | ((with_reducible apply w_oIx); · rfl) | ((with_reducible apply w_oLen); · rfl) | ((with_reducible apply w_oBin); · rfl) | ((with_reducible apply w_consO); · rfl) | ((with_reducible apply w_aug); · rfl) | ((with_reducible apply w_app); · rfl) | ((with_reducible apply w_oset); · rfl) | ((with_reducible apply w_ext); · rfl) | ((with_reducible apply w_retO); · rfl) | ((with_reducible apply w_frz); · rfl) | ((with_reducible apply e_ow); · rfl) | with_reducible refine e_bl ?_ | with_reducible refine e_int ?_ | with_reducible refine e_lst ?_ | with_reducible refine e_tup ?_ | with_reducible refine e_seqL ?_ | with_reducible refine e_seqT ?_ | with_reducible refine e_zipL ?_ | with_reducible refine e_zipT ?_ | with_reducible refine w_partI ?_ | with_reducible refine w_iSeq ?_ | with_reducible refine w_iEnum ?_ | with_reducible refine w_new ?_ | with_reducible refine w_rev ?_ | with_reducible refine w_revT ?_ | with_reducible refine w_slice ?_ | with_reducible refine y_le ?_ | with_reducible refine y_lt ?_ | with_reducible refine y_ge ?_ | with_reducible refine y_gt ?_ | ((with_reducible apply x_ixT); · rfl) | ((with_reducible apply x_ixL); · rfl) | ((with_reducible apply e_at); · rfl) | ((with_reducible apply x_mul); · rfl) | ((with_reducible apply e_ix); · rfl) | ((with_reducible apply x_div); · decide) | ((with_reducible apply x_mod); · decide) | with_reducible refine w_lst ?_ | with_reducible refine w_tup ?_ | ((with_reducible apply e_cap); · exact Nat.le_of_ble_eq_true rfl) | ((with_reducible apply e_set); · (simp only [List.set_cons_zero, List.set_cons_succ]; rfl)) | ((with_reducible apply e_setL); (· rfl); (· (simp only [List.set_cons_zero, List.set_cons_succ]; rfl))) | ((with_reducible apply e_par); (· rfl); (· (simp only [List.set_cons_zero, List.set_cons_succ]; rfl))) | ((with_reducible apply e_par3); (· rfl); (· (simp only [List.set_cons_zero, List.set_cons_succ]; rfl))) | ((with_reducible apply e_pt); (· rfl); (· (simp only [List.set_cons_zero, List.set_cons_succ]; rfl))) | ((with_reducible apply e_pT); · (simp only [pTs, pN, List.length_cons, List.length_nil, List.set_cons_zero, List.set_cons_succ, Nat.reduceAdd, Nat.reduceLT, ite_true, Option.some.injEq]; rfl))))
  refine x_sum ?_
  (repeat' (first | ((with_reducible refine c_decT ?_ ?_); · first | decide | rfl) | ((with_reducible refine c_decF ?_ ?_); · decide) | with_reducible refine w_seq ?_ | ((with_reducible apply w_var); · rfl) | with_reducible refine w_setN ?_ | with_reducible refine w_snew ?_ | with_reducible refine w_C ?_ | with_reducible refine w_bin ?_ | with_reducible refine w_un ?_ | with_reducible refine w_isi ?_ | with_reducible refine w_isi2 ?_ | with_reducible refine w_chain ?_ | with_reducible refine w_if ?_ | with_reducible refine w_nil ?_ | with_reducible refine w_cons ?_ | with_reducible refine w_F ?_ | with_reducible refine w_Fb ?_ | with_reducible refine w_FN ?_ | with_reducible refine w_noPart ?_ | with_reducible refine w_slice ?_ | with_reducible refine w_val ?_ | with_reducible refine w_tAnd ?_ | with_reducible refine w_tOr ?_ | with_reducible refine w_tNot ?_ | with_reducible refine w_tYes ?_ | with_reducible refine w_and ?_ | with_reducible refine w_or ?_ | with_reducible refine w_not ?_ | with_reducible refine w_iRng ?_ | with_reducible refine w_iRngD ?_ | with_reducible refine w_iZip ?_ | with_reducible refine w_fr ?_ | with_reducible refine w_tupL ?_ | with_reducible refine w_im ?_ | with_reducible refine w_ow ?_ | with_reducible refine w_set ?_ | with_reducible refine w_par ?_ | with_reducible refine w_expr ?_ | with_reducible refine w_ret ?_ | with_reducible refine w_retN ?_ | with_reducible refine w_pass ?_ | with_reducible refine w_break ?_ | with_reducible refine w_cont ?_ | with_reducible refine w_seq ?_ | with_reducible refine w_sif ?_ | with_reducible refine x_add ?_ | with_reducible refine x_addI ?_ | with_reducible refine x_sub ?_ | with_reducible refine x_neg ?_ | with_reducible refine x_lt ?_ | with_reducible refine x_le ?_ | with_reducible refine x_gt ?_ | with_reducible refine x_ge ?_ | with_reducible refine x_eqS ?_ | with_reducible refine x_eq ?_ | with_reducible refine x_ne ?_ | with_reducible refine x_isN ?_ | with_reducible refine x_notN ?_ | with_reducible refine x_isB ?_ | with_reducible refine x_notB ?_ | with_reducible refine x_lenL ?_ | with_reducible refine x_lenT ?_ | with_reducible refine x_max2 ?_ | with_reducible refine x_min2 ?_ | with_reducible refine x_abs ?_ | with_reducible refine x_tupleL ?_ | with_reducible refine x_tupleT ?_ | with_reducible refine x_partL ?_ | with_reducible refine x_partT ?_ | with_reducible refine x_listL ?_ | with_reducible refine x_listT ?_ | with_reducible refine x_iii ?_ | with_reducible refine x_ibi ?_ | with_reducible refine x_iss ?_ | with_reducible refine x_itt ?_ | with_reducible refine x_ill ?_ | with_reducible refine c_true ?_ | with_reducible refine c_false ?_ | with_reducible refine c_nt ?_ | with_reducible refine c_nf ?_ | with_reducible refine c_not ?_ | ((with_reducible apply w_FI); · rfl) | ((with_reducible apply w_oIx); · rfl) | ((with_reducible apply w_oLen); · rfl) | ((with_reducible apply w_oBin); · rfl) | ((with_reducible apply w_consO); · rfl) | ((with_reducible apply w_aug); · rfl) | ((with_reducible apply w_app); · rfl) | ((with_reducible apply w_oset); · rfl) | ((with_reducible apply w_ext); · rfl) | ((with_reducible apply w_retO); · rfl) | ((with_reducible apply w_frz); · rfl) | ((with_reducible apply e_ow); · rfl) | with_reducible refine e_bl ?_ | with_reducible refine e_int ?_ | with_reducible refine e_lst ?_ | with_reducible refine e_tup ?_ | with_reducible refine e_seqL ?_ | with_reducible refine e_seqT ?_ | with_reducible refine e_zipL ?_ | with_reducible refine e_zipT ?_ | with_reducible refine w_partI ?_ | with_reducible refine w_iSeq ?_ | with_reducible refine w_iEnum ?_ | with_reducible refine w_new ?_ | with_reducible refine w_rev ?_ | with_reducible refine w_revT ?_ | with_reducible refine w_slice ?_ | with_reducible refine y_le ?_ | with_reducible refine y_lt ?_ | with_reducible refine y_ge ?_ | with_reducible refine y_gt ?_ | ((with_reducible apply x_ixT); · rfl) | ((with_reducible apply x_ixL); · rfl) | ((with_reducible apply e_at); · rfl) | ((with_reducible apply x_mul); · rfl) | ((with_reducible apply e_ix); · rfl) | ((with_reducible apply x_div); · decide) | ((with_reducible apply x_mod); · decide) | with_reducible refine w_lst ?_ | with_reducible refine w_tup ?_ | ((with_reducible apply e_cap); · exact Nat.le_of_ble_eq_true rfl) | ((with_reducible apply e_set); · (simp only [List.set_cons_zero, List.set_cons_succ]; rfl)) | ((with_reducible apply e_setL); (· rfl); (· (simp only [List.set_cons_zero, List.set_cons_succ]; rfl))) | ((with_reducible apply e_par); (· rfl); (· (simp only [List.set_cons_zero, List.set_cons_succ]; rfl))) | ((with_reducible apply e_par3); (· rfl); (· (simp only [List.set_cons_zero, List.set_cons_succ]; rfl))) | ((with_reducible apply e_pt); (· rfl); (· (simp only [List.set_cons_zero, List.set_cons_succ]; rfl))) | ((with_reducible apply e_pT); · (simp only [pTs, pN, List.length_cons, List.length_nil, List.set_cons_zero, List.set_cons_succ, Nat.reduceAdd, Nat.reduceLT, ite_true, Option.some.injEq]; rfl))))
  simp only [sum_pos, sum_neg]
theorem totals_eq {cap l : Int} {s : List Cm} (hc : Cok cap) (hs : Sok cap s) (hl : Lok cap l) : f_totals [.int cap, schD s, .int l] = some (.tup [.int (upS s l), .int (dnS s l)]) := by
  have h1 := hs.1
  refine run_D (e := [.im (.int cap), .im (schD s), .im (.int l)]) rfl rfl ?_
  unfold c_totals
  (repeat' (first | ((with_reducible refine c_decT ?_ ?_); · first | decide | rfl) | ((with_reducible refine c_decF ?_ ?_); · decide) | (with_reducible refine ⟨_, check_capacity_eq hc, ?_⟩) | (with_reducible refine ⟨_, check_schedule_eq hs, ?_⟩) | (with_reducible refine ⟨_, check_level_eq hl, ?_⟩) | (with_reducible refine ⟨_, sums_from_eq s l h1, ?_⟩) | with_reducible refine w_seq ?_ | ((with_reducible apply w_var); · rfl) | with_reducible refine w_setN ?_ | with_reducible refine w_snew ?_ | with_reducible refine w_C ?_ | with_reducible refine w_bin ?_ | with_reducible refine w_un ?_ | with_reducible refine w_isi ?_ | with_reducible refine w_isi2 ?_ | with_reducible refine w_chain ?_ | with_reducible refine w_if ?_ | with_reducible refine w_nil ?_ | with_reducible refine w_cons ?_ | with_reducible refine w_F ?_ | with_reducible refine w_Fb ?_ | with_reducible refine w_FN ?_ | with_reducible refine w_noPart ?_ | with_reducible refine w_slice ?_ | with_reducible refine w_val ?_ | with_reducible refine w_tAnd ?_ | with_reducible refine w_tOr ?_ | with_reducible refine w_tNot ?_ | with_reducible refine w_tYes ?_ | with_reducible refine w_and ?_ | with_reducible refine w_or ?_ | with_reducible refine w_not ?_ | with_reducible refine w_iRng ?_ | with_reducible refine w_iRngD ?_ | with_reducible refine w_iZip ?_ | with_reducible refine w_fr ?_ | with_reducible refine w_tupL ?_ | with_reducible refine w_im ?_ | with_reducible refine w_ow ?_ | with_reducible refine w_set ?_ | with_reducible refine w_par ?_ | with_reducible refine w_expr ?_ | with_reducible refine w_ret ?_ | with_reducible refine w_retN ?_ | with_reducible refine w_pass ?_ | with_reducible refine w_break ?_ | with_reducible refine w_cont ?_ | with_reducible refine w_seq ?_ | with_reducible refine w_sif ?_ | with_reducible refine x_add ?_ | with_reducible refine x_addI ?_ | with_reducible refine x_sub ?_ | with_reducible refine x_neg ?_ | with_reducible refine x_lt ?_ | with_reducible refine x_le ?_ | with_reducible refine x_gt ?_ | with_reducible refine x_ge ?_ | with_reducible refine x_eqS ?_ | with_reducible refine x_eq ?_ | with_reducible refine x_ne ?_ | with_reducible refine x_isN ?_ | with_reducible refine x_notN ?_ | with_reducible refine x_isB ?_ | with_reducible refine x_notB ?_ | with_reducible refine x_lenL ?_ | with_reducible refine x_lenT ?_ | with_reducible refine x_max2 ?_ | with_reducible refine x_min2 ?_ | with_reducible refine x_abs ?_ | with_reducible refine x_tupleL ?_ | with_reducible refine x_tupleT ?_ | with_reducible refine x_partL ?_ | with_reducible refine x_partT ?_ | with_reducible refine x_listL ?_ | with_reducible refine x_listT ?_ | with_reducible refine x_iii ?_ | with_reducible refine x_ibi ?_ | with_reducible refine x_iss ?_ | with_reducible refine x_itt ?_ | with_reducible refine x_ill ?_ | with_reducible refine c_true ?_ | with_reducible refine c_false ?_ | with_reducible refine c_nt ?_ | with_reducible refine c_nf ?_ | with_reducible refine c_not ?_ | ((with_reducible apply w_FI); · rfl) | ((with_reducible apply w_oIx); · rfl) | ((with_reducible apply w_oLen); · rfl) | ((with_reducible apply w_oBin); · rfl) | ((with_reducible apply w_consO); · rfl) | ((with_reducible apply w_aug); · rfl) | ((with_reducible apply w_app); · rfl) | ((with_reducible apply w_oset); · rfl) | ((with_reducible apply w_ext); · rfl) | ((with_reducible apply w_retO); · rfl) | ((with_reducible apply w_frz); · rfl) | ((with_reducible apply e_ow); · rfl) | with_reducible refine e_bl ?_ | with_reducible refine e_int ?_ | with_reducible refine e_lst ?_ | with_reducible refine e_tup ?_ | with_reducible refine e_seqL ?_ | with_reducible refine e_seqT ?_ | with_reducible refine e_zipL ?_ | with_reducible refine e_zipT ?_ | with_reducible refine w_partI ?_ | with_reducible refine w_iSeq ?_ | with_reducible refine w_iEnum ?_ | with_reducible refine w_new ?_ | with_reducible refine w_rev ?_ | with_reducible refine w_revT ?_ | with_reducible refine w_slice ?_ | with_reducible refine y_le ?_ | with_reducible refine y_lt ?_ | with_reducible refine y_ge ?_ | with_reducible refine y_gt ?_ | ((with_reducible apply x_ixT); · rfl) | ((with_reducible apply x_ixL); · rfl) | ((with_reducible apply e_at); · rfl) | ((with_reducible apply x_mul); · rfl) | ((with_reducible apply e_ix); · rfl) | ((with_reducible apply x_div); · decide) | ((with_reducible apply x_mod); · decide) | with_reducible refine w_lst ?_ | with_reducible refine w_tup ?_ | ((with_reducible apply e_cap); · exact Nat.le_of_ble_eq_true rfl) | ((with_reducible apply e_set); · (simp only [List.set_cons_zero, List.set_cons_succ]; rfl)) | ((with_reducible apply e_setL); (· rfl); (· (simp only [List.set_cons_zero, List.set_cons_succ]; rfl))) | ((with_reducible apply e_par); (· rfl); (· (simp only [List.set_cons_zero, List.set_cons_succ]; rfl))) | ((with_reducible apply e_par3); (· rfl); (· (simp only [List.set_cons_zero, List.set_cons_succ]; rfl))) | ((with_reducible apply e_pt); (· rfl); (· (simp only [List.set_cons_zero, List.set_cons_succ]; rfl))) | ((with_reducible apply e_pT); · (simp only [pTs, pN, List.length_cons, List.length_nil, List.set_cons_zero, List.set_cons_succ, Nat.reduceAdd, Nat.reduceLT, ite_true, Option.some.injEq]; rfl))))
  rfl
theorem law_source_eq (c : Int) {t : Int} (h0 : 0 ≤ t) (h1 : t ≤ 100) : ∃ s, f_law_source [.int c, .int t] = some s ∧ Src 0 s := by
  by_cases hc : (10 : Int) ^ (18 : Int).toNat ≤ c
  · refine ⟨_, run_N (v := [.int (c - 10 ^ (18 : Int).toNat), .int (c % 2147483579), .int t]) (e := [.im (.int c), .im (.int t)]) rfl rfl ?_, _, _, _, rfl, by omega, by omega, h0, by omega⟩
    unfold c_law_source
    (repeat' (first | ((with_reducible refine c_decT ?_ ?_); · first | decide | rfl) | ((with_reducible refine c_decF ?_ ?_); · decide) | ((with_reducible apply x_pow); · decide) | (with_reducible refine c_decT hc ?_) | with_reducible refine w_seq ?_ | ((with_reducible apply w_var); · rfl) | with_reducible refine w_setN ?_ | with_reducible refine w_snew ?_ | with_reducible refine w_C ?_ | with_reducible refine w_bin ?_ | with_reducible refine w_un ?_ | with_reducible refine w_isi ?_ | with_reducible refine w_isi2 ?_ | with_reducible refine w_chain ?_ | with_reducible refine w_if ?_ | with_reducible refine w_nil ?_ | with_reducible refine w_cons ?_ | with_reducible refine w_F ?_ | with_reducible refine w_Fb ?_ | with_reducible refine w_FN ?_ | with_reducible refine w_noPart ?_ | with_reducible refine w_slice ?_ | with_reducible refine w_val ?_ | with_reducible refine w_tAnd ?_ | with_reducible refine w_tOr ?_ | with_reducible refine w_tNot ?_ | with_reducible refine w_tYes ?_ | with_reducible refine w_and ?_ | with_reducible refine w_or ?_ | with_reducible refine w_not ?_ | with_reducible refine w_iRng ?_ | with_reducible refine w_iRngD ?_ | with_reducible refine w_iZip ?_ | with_reducible refine w_fr ?_ | with_reducible refine w_tupL ?_ | with_reducible refine w_im ?_ | with_reducible refine w_ow ?_ | with_reducible refine w_set ?_ | with_reducible refine w_par ?_ | with_reducible refine w_expr ?_ | with_reducible refine w_ret ?_ | with_reducible refine w_retN ?_ | with_reducible refine w_pass ?_ | with_reducible refine w_break ?_ | with_reducible refine w_cont ?_ | with_reducible refine w_seq ?_ | with_reducible refine w_sif ?_ | with_reducible refine x_add ?_ | with_reducible refine x_addI ?_ | with_reducible refine x_sub ?_ | with_reducible refine x_neg ?_ | with_reducible refine x_lt ?_ | with_reducible refine x_le ?_ | with_reducible refine x_gt ?_ | with_reducible refine x_ge ?_ | with_reducible refine x_eqS ?_ | with_reducible refine x_eq ?_ | with_reducible refine x_ne ?_ | with_reducible refine x_isN ?_ | with_reducible refine x_notN ?_ | with_reducible refine x_isB ?_ | with_reducible refine x_notB ?_ | with_reducible refine x_lenL ?_ | with_reducible refine x_lenT ?_ | with_reducible refine x_max2 ?_ | with_reducible refine x_min2 ?_ | with_reducible refine x_abs ?_ | with_reducible refine x_tupleL ?_ | with_reducible refine x_tupleT ?_ | with_reducible refine x_partL ?_ | with_reducible refine x_partT ?_ | with_reducible refine x_listL ?_ | with_reducible refine x_listT ?_ | with_reducible refine x_iii ?_ | with_reducible refine x_ibi ?_ | with_reducible refine x_iss ?_ | with_reducible refine x_itt ?_ | with_reducible refine x_ill ?_ | with_reducible refine c_true ?_ | with_reducible refine c_false ?_ | with_reducible refine c_nt ?_ | with_reducible refine c_nf ?_ | with_reducible refine c_not ?_ | ((with_reducible apply w_FI); · rfl) | ((with_reducible apply w_oIx); · rfl) | ((with_reducible apply w_oLen); · rfl) | ((with_reducible apply w_oBin); · rfl) | ((with_reducible apply w_consO); · rfl) | ((with_reducible apply w_aug); · rfl) | ((with_reducible apply w_app); · rfl) | ((with_reducible apply w_oset); · rfl) | ((with_reducible apply w_ext); · rfl) | ((with_reducible apply w_retO); · rfl) | ((with_reducible apply w_frz); · rfl) | ((with_reducible apply e_ow); · rfl) | with_reducible refine e_bl ?_ | with_reducible refine e_int ?_ | with_reducible refine e_lst ?_ | with_reducible refine e_tup ?_ | with_reducible refine e_seqL ?_ | with_reducible refine e_seqT ?_ | with_reducible refine e_zipL ?_ | with_reducible refine e_zipT ?_ | with_reducible refine w_partI ?_ | with_reducible refine w_iSeq ?_ | with_reducible refine w_iEnum ?_ | with_reducible refine w_new ?_ | with_reducible refine w_rev ?_ | with_reducible refine w_revT ?_ | with_reducible refine w_slice ?_ | with_reducible refine y_le ?_ | with_reducible refine y_lt ?_ | with_reducible refine y_ge ?_ | with_reducible refine y_gt ?_ | ((with_reducible apply x_ixT); · rfl) | ((with_reducible apply x_ixL); · rfl) | ((with_reducible apply e_at); · rfl) | ((with_reducible apply x_mul); · rfl) | ((with_reducible apply e_ix); · rfl) | ((with_reducible apply x_div); · decide) | ((with_reducible apply x_mod); · decide) | with_reducible refine w_lst ?_ | with_reducible refine w_tup ?_ | ((with_reducible apply e_cap); · exact Nat.le_of_ble_eq_true rfl) | ((with_reducible apply e_set); · (simp only [List.set_cons_zero, List.set_cons_succ]; rfl)) | ((with_reducible apply e_setL); (· rfl); (· (simp only [List.set_cons_zero, List.set_cons_succ]; rfl))) | ((with_reducible apply e_par); (· rfl); (· (simp only [List.set_cons_zero, List.set_cons_succ]; rfl))) | ((with_reducible apply e_par3); (· rfl); (· (simp only [List.set_cons_zero, List.set_cons_succ]; rfl))) | ((with_reducible apply e_pt); (· rfl); (· (simp only [List.set_cons_zero, List.set_cons_succ]; rfl))) | ((with_reducible apply e_pT); · (simp only [pTs, pN, List.length_cons, List.length_nil, List.set_cons_zero, List.set_cons_succ, Nat.reduceAdd, Nat.reduceLT, ite_true, Option.some.injEq]; rfl))))
    rfl
  · refine ⟨_, run_N (v := [.int 0, .int (c % 2147483579), .int t]) (e := [.im (.int c), .im (.int t)]) rfl rfl ?_, _, _, _, rfl, by omega, by omega, h0, by omega⟩
    unfold c_law_source
    (repeat' (first | ((with_reducible refine c_decT ?_ ?_); · first | decide | rfl) | ((with_reducible refine c_decF ?_ ?_); · decide) | ((with_reducible apply x_pow); · decide) | (with_reducible refine c_decF hc ?_) | with_reducible refine w_seq ?_ | ((with_reducible apply w_var); · rfl) | with_reducible refine w_setN ?_ | with_reducible refine w_snew ?_ | with_reducible refine w_C ?_ | with_reducible refine w_bin ?_ | with_reducible refine w_un ?_ | with_reducible refine w_isi ?_ | with_reducible refine w_isi2 ?_ | with_reducible refine w_chain ?_ | with_reducible refine w_if ?_ | with_reducible refine w_nil ?_ | with_reducible refine w_cons ?_ | with_reducible refine w_F ?_ | with_reducible refine w_Fb ?_ | with_reducible refine w_FN ?_ | with_reducible refine w_noPart ?_ | with_reducible refine w_slice ?_ | with_reducible refine w_val ?_ | with_reducible refine w_tAnd ?_ | with_reducible refine w_tOr ?_ | with_reducible refine w_tNot ?_ | with_reducible refine w_tYes ?_ | with_reducible refine w_and ?_ | with_reducible refine w_or ?_ | with_reducible refine w_not ?_ | with_reducible refine w_iRng ?_ | with_reducible refine w_iRngD ?_ | with_reducible refine w_iZip ?_ | with_reducible refine w_fr ?_ | with_reducible refine w_tupL ?_ | with_reducible refine w_im ?_ | with_reducible refine w_ow ?_ | with_reducible refine w_set ?_ | with_reducible refine w_par ?_ | with_reducible refine w_expr ?_ | with_reducible refine w_ret ?_ | with_reducible refine w_retN ?_ | with_reducible refine w_pass ?_ | with_reducible refine w_break ?_ | with_reducible refine w_cont ?_ | with_reducible refine w_seq ?_ | with_reducible refine w_sif ?_ | with_reducible refine x_add ?_ | with_reducible refine x_addI ?_ | with_reducible refine x_sub ?_ | with_reducible refine x_neg ?_ | with_reducible refine x_lt ?_ | with_reducible refine x_le ?_ | with_reducible refine x_gt ?_ | with_reducible refine x_ge ?_ | with_reducible refine x_eqS ?_ | with_reducible refine x_eq ?_ | with_reducible refine x_ne ?_ | with_reducible refine x_isN ?_ | with_reducible refine x_notN ?_ | with_reducible refine x_isB ?_ | with_reducible refine x_notB ?_ | with_reducible refine x_lenL ?_ | with_reducible refine x_lenT ?_ | with_reducible refine x_max2 ?_ | with_reducible refine x_min2 ?_ | with_reducible refine x_abs ?_ | with_reducible refine x_tupleL ?_ | with_reducible refine x_tupleT ?_ | with_reducible refine x_partL ?_ | with_reducible refine x_partT ?_ | with_reducible refine x_listL ?_ | with_reducible refine x_listT ?_ | with_reducible refine x_iii ?_ | with_reducible refine x_ibi ?_ | with_reducible refine x_iss ?_ | with_reducible refine x_itt ?_ | with_reducible refine x_ill ?_ | with_reducible refine c_true ?_ | with_reducible refine c_false ?_ | with_reducible refine c_nt ?_ | with_reducible refine c_nf ?_ | with_reducible refine c_not ?_ | ((with_reducible apply w_FI); · rfl) | ((with_reducible apply w_oIx); · rfl) | ((with_reducible apply w_oLen); · rfl) | ((with_reducible apply w_oBin); · rfl) | ((with_reducible apply w_consO); · rfl) | ((with_reducible apply w_aug); · rfl) | ((with_reducible apply w_app); · rfl) | ((with_reducible apply w_oset); · rfl) | ((with_reducible apply w_ext); · rfl) | ((with_reducible apply w_retO); · rfl) | ((with_reducible apply w_frz); · rfl) | ((with_reducible apply e_ow); · rfl) | with_reducible refine e_bl ?_ | with_reducible refine e_int ?_ | with_reducible refine e_lst ?_ | with_reducible refine e_tup ?_ | with_reducible refine e_seqL ?_ | with_reducible refine e_seqT ?_ | with_reducible refine e_zipL ?_ | with_reducible refine e_zipT ?_ | with_reducible refine w_partI ?_ | with_reducible refine w_iSeq ?_ | with_reducible refine w_iEnum ?_ | with_reducible refine w_new ?_ | with_reducible refine w_rev ?_ | with_reducible refine w_revT ?_ | with_reducible refine w_slice ?_ | with_reducible refine y_le ?_ | with_reducible refine y_lt ?_ | with_reducible refine y_ge ?_ | with_reducible refine y_gt ?_ | ((with_reducible apply x_ixT); · rfl) | ((with_reducible apply x_ixL); · rfl) | ((with_reducible apply e_at); · rfl) | ((with_reducible apply x_mul); · rfl) | ((with_reducible apply e_ix); · rfl) | ((with_reducible apply x_div); · decide) | ((with_reducible apply x_mod); · decide) | with_reducible refine w_lst ?_ | with_reducible refine w_tup ?_ | ((with_reducible apply e_cap); · exact Nat.le_of_ble_eq_true rfl) | ((with_reducible apply e_set); · (simp only [List.set_cons_zero, List.set_cons_succ]; rfl)) | ((with_reducible apply e_setL); (· rfl); (· (simp only [List.set_cons_zero, List.set_cons_succ]; rfl))) | ((with_reducible apply e_par); (· rfl); (· (simp only [List.set_cons_zero, List.set_cons_succ]; rfl))) | ((with_reducible apply e_par3); (· rfl); (· (simp only [List.set_cons_zero, List.set_cons_succ]; rfl))) | ((with_reducible apply e_pt); (· rfl); (· (simp only [List.set_cons_zero, List.set_cons_succ]; rfl))) | ((with_reducible apply e_pT); · (simp only [pTs, pN, List.length_cons, List.length_nil, List.set_cons_zero, List.set_cons_succ, Nat.reduceAdd, Nat.reduceLT, ite_true, Option.some.injEq]; rfl))))
    rfl
theorem w_source {c t : Int} {Q : List D → Prop} (h0 : 0 ≤ t) (h1 : t ≤ 100) (q : ∀ s, Src 0 s → Q s) : ∃ s, f_law_source [.int c, .int t] = some s ∧ Q s := by
  obtain ⟨s, h, hs⟩ := law_source_eq c h0 h1
  exact ⟨s, h, q s hs⟩
theorem law_draw_eq {n : Nat} {s : List D} {z : Int} (hs : Src n s) (hn : n ≤ 1000000000) (h1 : 0 < z) (h2 : z < 2 ^ 64) : ∃ d s', f_law_draw s [.int z] = some (d, s') ∧ ∃ k, d = .int k ∧ 0 ≤ k ∧ k < z ∧ Src (n + 1) s' := by
  obtain ⟨a, b, t, rfl, hb0, hb1, ht0, ht1⟩ := hs
  refine run_I (e := [.ow [.int a, .int b, .int t], .im (.int z), .un, .un]) rfl rfl ?_
  unfold c_law_draw
  (repeat' (first | ((with_reducible refine c_decT ?_ ?_); · first | decide | rfl) | ((with_reducible refine c_decF ?_ ?_); · decide) | (with_reducible refine c_dec (fun h => ?_) (fun h => ?_)) | (with_reducible refine x_mod h1 ?_) | (with_reducible refine x_div ⟨h1, h2⟩ ?_) | ((with_reducible apply x_pow); · omega) | with_reducible refine w_seq ?_ | ((with_reducible apply w_var); · rfl) | with_reducible refine w_setN ?_ | with_reducible refine w_snew ?_ | with_reducible refine w_C ?_ | with_reducible refine w_bin ?_ | with_reducible refine w_un ?_ | with_reducible refine w_isi ?_ | with_reducible refine w_isi2 ?_ | with_reducible refine w_chain ?_ | with_reducible refine w_if ?_ | with_reducible refine w_nil ?_ | with_reducible refine w_cons ?_ | with_reducible refine w_F ?_ | with_reducible refine w_Fb ?_ | with_reducible refine w_FN ?_ | with_reducible refine w_noPart ?_ | with_reducible refine w_slice ?_ | with_reducible refine w_val ?_ | with_reducible refine w_tAnd ?_ | with_reducible refine w_tOr ?_ | with_reducible refine w_tNot ?_ | with_reducible refine w_tYes ?_ | with_reducible refine w_and ?_ | with_reducible refine w_or ?_ | with_reducible refine w_not ?_ | with_reducible refine w_iRng ?_ | with_reducible refine w_iRngD ?_ | with_reducible refine w_iZip ?_ | with_reducible refine w_fr ?_ | with_reducible refine w_tupL ?_ | with_reducible refine w_im ?_ | with_reducible refine w_ow ?_ | with_reducible refine w_set ?_ | with_reducible refine w_par ?_ | with_reducible refine w_expr ?_ | with_reducible refine w_ret ?_ | with_reducible refine w_retN ?_ | with_reducible refine w_pass ?_ | with_reducible refine w_break ?_ | with_reducible refine w_cont ?_ | with_reducible refine w_seq ?_ | with_reducible refine w_sif ?_ | with_reducible refine x_add ?_ | with_reducible refine x_addI ?_ | with_reducible refine x_sub ?_ | with_reducible refine x_neg ?_ | with_reducible refine x_lt ?_ | with_reducible refine x_le ?_ | with_reducible refine x_gt ?_ | with_reducible refine x_ge ?_ | with_reducible refine x_eqS ?_ | with_reducible refine x_eq ?_ | with_reducible refine x_ne ?_ | with_reducible refine x_isN ?_ | with_reducible refine x_notN ?_ | with_reducible refine x_isB ?_ | with_reducible refine x_notB ?_ | with_reducible refine x_lenL ?_ | with_reducible refine x_lenT ?_ | with_reducible refine x_max2 ?_ | with_reducible refine x_min2 ?_ | with_reducible refine x_abs ?_ | with_reducible refine x_tupleL ?_ | with_reducible refine x_tupleT ?_ | with_reducible refine x_partL ?_ | with_reducible refine x_partT ?_ | with_reducible refine x_listL ?_ | with_reducible refine x_listT ?_ | with_reducible refine x_iii ?_ | with_reducible refine x_ibi ?_ | with_reducible refine x_iss ?_ | with_reducible refine x_itt ?_ | with_reducible refine x_ill ?_ | with_reducible refine c_true ?_ | with_reducible refine c_false ?_ | with_reducible refine c_nt ?_ | with_reducible refine c_nf ?_ | with_reducible refine c_not ?_ | ((with_reducible apply w_FI); · rfl) | ((with_reducible apply w_oIx); · rfl) | ((with_reducible apply w_oLen); · rfl) | ((with_reducible apply w_oBin); · rfl) | ((with_reducible apply w_consO); · rfl) | ((with_reducible apply w_aug); · rfl) | ((with_reducible apply w_app); · rfl) | ((with_reducible apply w_oset); · rfl) | ((with_reducible apply w_ext); · rfl) | ((with_reducible apply w_retO); · rfl) | ((with_reducible apply w_frz); · rfl) | ((with_reducible apply e_ow); · rfl) | with_reducible refine e_bl ?_ | with_reducible refine e_int ?_ | with_reducible refine e_lst ?_ | with_reducible refine e_tup ?_ | with_reducible refine e_seqL ?_ | with_reducible refine e_seqT ?_ | with_reducible refine e_zipL ?_ | with_reducible refine e_zipT ?_ | with_reducible refine w_partI ?_ | with_reducible refine w_iSeq ?_ | with_reducible refine w_iEnum ?_ | with_reducible refine w_new ?_ | with_reducible refine w_rev ?_ | with_reducible refine w_revT ?_ | with_reducible refine w_slice ?_ | with_reducible refine y_le ?_ | with_reducible refine y_lt ?_ | with_reducible refine y_ge ?_ | with_reducible refine y_gt ?_ | ((with_reducible apply x_ixT); · rfl) | ((with_reducible apply x_ixL); · rfl) | ((with_reducible apply e_at); · rfl) | ((with_reducible apply x_mul); · rfl) | ((with_reducible apply e_ix); · rfl) | ((with_reducible apply x_div); · decide) | ((with_reducible apply x_mod); · decide) | with_reducible refine w_lst ?_ | with_reducible refine w_tup ?_ | ((with_reducible apply e_cap); · exact Nat.le_of_ble_eq_true rfl) | ((with_reducible apply e_set); · (simp only [List.set_cons_zero, List.set_cons_succ]; rfl)) | ((with_reducible apply e_setL); (· rfl); (· (simp only [List.set_cons_zero, List.set_cons_succ]; rfl))) | ((with_reducible apply e_par); (· rfl); (· (simp only [List.set_cons_zero, List.set_cons_succ]; rfl))) | ((with_reducible apply e_par3); (· rfl); (· (simp only [List.set_cons_zero, List.set_cons_succ]; rfl))) | ((with_reducible apply e_pt); (· rfl); (· (simp only [List.set_cons_zero, List.set_cons_succ]; rfl))) | ((with_reducible apply e_pT); · (simp only [pTs, pN, List.length_cons, List.length_nil, List.set_cons_zero, List.set_cons_succ, Nat.reduceAdd, Nat.reduceLT, ite_true, Option.some.injEq]; rfl))))
  · refine ⟨_, _, rfl, rfl, _, rfl, Int.emod_nonneg _ (by omega), Int.emod_lt_of_pos _ h1, ?_⟩
    exact ⟨_, _, _, rfl, hb0, hb1, ht0, by omega⟩
  · refine ⟨_, _, rfl, rfl, _, rfl, Int.emod_nonneg _ (by omega), Int.emod_lt_of_pos _ h1, ?_⟩
    exact ⟨_, _, _, rfl, hb0, hb1, by omega, by omega⟩
theorem w_draw {n : Nat} {s : List D} {z : Int} {Q : D → List D → Prop} (hs : Src n s) (hn : n ≤ 1000000000) (h1 : 0 < z) (h2 : z < 2 ^ 64) (q : ∀ k s', 0 ≤ k → k < z → Src (n + 1) s' → Q (.int k) s') :
    ∃ d s', f_law_draw s [.int z] = some (d, s') ∧ Q d s' := by
  obtain ⟨d, s', h, k, rfl, h3, h4, h5⟩ := law_draw_eq hs hn h1 h2
  exact ⟨_, s', h, q k s' h3 h4 h5⟩
theorem law_choice_eq {n : Nat} {s : List D} {xs : List D} (hs : Src n s) (hn : n ≤ 1000000000) (h1 : xs ≠ []) (h2 : xs.length ≤ 1000000) : ∃ d s', f_law_choice s [.lst xs] = some (d, s') ∧ d ∈ xs ∧ Src (n + 1) s' := by
  refine run_I (e := [.ow s, .im (.lst xs)]) rfl rfl ?_
  have hl : 0 < xs.length := List.length_pos_iff.mpr h1
  unfold c_law_choice
  (repeat' (first | ((with_reducible refine c_decT ?_ ?_); · first | decide | rfl) | ((with_reducible refine c_decF ?_ ?_); · decide) | with_reducible refine w_seq ?_ | ((with_reducible apply w_var); · rfl) | with_reducible refine w_setN ?_ | with_reducible refine w_snew ?_ | with_reducible refine w_C ?_ | with_reducible refine w_bin ?_ | with_reducible refine w_un ?_ | with_reducible refine w_isi ?_ | with_reducible refine w_isi2 ?_ | with_reducible refine w_chain ?_ | with_reducible refine w_if ?_ | with_reducible refine w_nil ?_ | with_reducible refine w_cons ?_ | with_reducible refine w_F ?_ | with_reducible refine w_Fb ?_ | with_reducible refine w_FN ?_ | with_reducible refine w_noPart ?_ | with_reducible refine w_slice ?_ | with_reducible refine w_val ?_ | with_reducible refine w_tAnd ?_ | with_reducible refine w_tOr ?_ | with_reducible refine w_tNot ?_ | with_reducible refine w_tYes ?_ | with_reducible refine w_and ?_ | with_reducible refine w_or ?_ | with_reducible refine w_not ?_ | with_reducible refine w_iRng ?_ | with_reducible refine w_iRngD ?_ | with_reducible refine w_iZip ?_ | with_reducible refine w_fr ?_ | with_reducible refine w_tupL ?_ | with_reducible refine w_im ?_ | with_reducible refine w_ow ?_ | with_reducible refine w_set ?_ | with_reducible refine w_par ?_ | with_reducible refine w_expr ?_ | with_reducible refine w_ret ?_ | with_reducible refine w_retN ?_ | with_reducible refine w_pass ?_ | with_reducible refine w_break ?_ | with_reducible refine w_cont ?_ | with_reducible refine w_seq ?_ | with_reducible refine w_sif ?_ | with_reducible refine x_add ?_ | with_reducible refine x_addI ?_ | with_reducible refine x_sub ?_ | with_reducible refine x_neg ?_ | with_reducible refine x_lt ?_ | with_reducible refine x_le ?_ | with_reducible refine x_gt ?_ | with_reducible refine x_ge ?_ | with_reducible refine x_eqS ?_ | with_reducible refine x_eq ?_ | with_reducible refine x_ne ?_ | with_reducible refine x_isN ?_ | with_reducible refine x_notN ?_ | with_reducible refine x_isB ?_ | with_reducible refine x_notB ?_ | with_reducible refine x_lenL ?_ | with_reducible refine x_lenT ?_ | with_reducible refine x_max2 ?_ | with_reducible refine x_min2 ?_ | with_reducible refine x_abs ?_ | with_reducible refine x_tupleL ?_ | with_reducible refine x_tupleT ?_ | with_reducible refine x_partL ?_ | with_reducible refine x_partT ?_ | with_reducible refine x_listL ?_ | with_reducible refine x_listT ?_ | with_reducible refine x_iii ?_ | with_reducible refine x_ibi ?_ | with_reducible refine x_iss ?_ | with_reducible refine x_itt ?_ | with_reducible refine x_ill ?_ | with_reducible refine c_true ?_ | with_reducible refine c_false ?_ | with_reducible refine c_nt ?_ | with_reducible refine c_nf ?_ | with_reducible refine c_not ?_ | ((with_reducible apply w_FI); · rfl) | ((with_reducible apply w_oIx); · rfl) | ((with_reducible apply w_oLen); · rfl) | ((with_reducible apply w_oBin); · rfl) | ((with_reducible apply w_consO); · rfl) | ((with_reducible apply w_aug); · rfl) | ((with_reducible apply w_app); · rfl) | ((with_reducible apply w_oset); · rfl) | ((with_reducible apply w_ext); · rfl) | ((with_reducible apply w_retO); · rfl) | ((with_reducible apply w_frz); · rfl) | ((with_reducible apply e_ow); · rfl) | with_reducible refine e_bl ?_ | with_reducible refine e_int ?_ | with_reducible refine e_lst ?_ | with_reducible refine e_tup ?_ | with_reducible refine e_seqL ?_ | with_reducible refine e_seqT ?_ | with_reducible refine e_zipL ?_ | with_reducible refine e_zipT ?_ | with_reducible refine w_partI ?_ | with_reducible refine w_iSeq ?_ | with_reducible refine w_iEnum ?_ | with_reducible refine w_new ?_ | with_reducible refine w_rev ?_ | with_reducible refine w_revT ?_ | with_reducible refine w_slice ?_ | with_reducible refine y_le ?_ | with_reducible refine y_lt ?_ | with_reducible refine y_ge ?_ | with_reducible refine y_gt ?_ | ((with_reducible apply x_ixT); · rfl) | ((with_reducible apply x_ixL); · rfl) | ((with_reducible apply e_at); · rfl) | ((with_reducible apply x_mul); · rfl) | ((with_reducible apply e_ix); · rfl) | ((with_reducible apply x_div); · decide) | ((with_reducible apply x_mod); · decide) | with_reducible refine w_lst ?_ | with_reducible refine w_tup ?_ | ((with_reducible apply e_cap); · exact Nat.le_of_ble_eq_true rfl) | ((with_reducible apply e_set); · (simp only [List.set_cons_zero, List.set_cons_succ]; rfl)) | ((with_reducible apply e_setL); (· rfl); (· (simp only [List.set_cons_zero, List.set_cons_succ]; rfl))) | ((with_reducible apply e_par); (· rfl); (· (simp only [List.set_cons_zero, List.set_cons_succ]; rfl))) | ((with_reducible apply e_par3); (· rfl); (· (simp only [List.set_cons_zero, List.set_cons_succ]; rfl))) | ((with_reducible apply e_pt); (· rfl); (· (simp only [List.set_cons_zero, List.set_cons_succ]; rfl))) | ((with_reducible apply e_pT); · (simp only [pTs, pN, List.length_cons, List.length_nil, List.set_cons_zero, List.set_cons_succ, Nat.reduceAdd, Nat.reduceLT, ite_true, Option.some.injEq]; rfl))))
  refine w_draw hs hn (by omega) (by omega) fun k s' hk0 hk1 hs' => ?_
  (repeat' (first | ((with_reducible refine c_decT ?_ ?_); · first | decide | rfl) | ((with_reducible refine c_decF ?_ ?_); · decide) | with_reducible refine w_seq ?_ | ((with_reducible apply w_var); · rfl) | with_reducible refine w_setN ?_ | with_reducible refine w_snew ?_ | with_reducible refine w_C ?_ | with_reducible refine w_bin ?_ | with_reducible refine w_un ?_ | with_reducible refine w_isi ?_ | with_reducible refine w_isi2 ?_ | with_reducible refine w_chain ?_ | with_reducible refine w_if ?_ | with_reducible refine w_nil ?_ | with_reducible refine w_cons ?_ | with_reducible refine w_F ?_ | with_reducible refine w_Fb ?_ | with_reducible refine w_FN ?_ | with_reducible refine w_noPart ?_ | with_reducible refine w_slice ?_ | with_reducible refine w_val ?_ | with_reducible refine w_tAnd ?_ | with_reducible refine w_tOr ?_ | with_reducible refine w_tNot ?_ | with_reducible refine w_tYes ?_ | with_reducible refine w_and ?_ | with_reducible refine w_or ?_ | with_reducible refine w_not ?_ | with_reducible refine w_iRng ?_ | with_reducible refine w_iRngD ?_ | with_reducible refine w_iZip ?_ | with_reducible refine w_fr ?_ | with_reducible refine w_tupL ?_ | with_reducible refine w_im ?_ | with_reducible refine w_ow ?_ | with_reducible refine w_set ?_ | with_reducible refine w_par ?_ | with_reducible refine w_expr ?_ | with_reducible refine w_ret ?_ | with_reducible refine w_retN ?_ | with_reducible refine w_pass ?_ | with_reducible refine w_break ?_ | with_reducible refine w_cont ?_ | with_reducible refine w_seq ?_ | with_reducible refine w_sif ?_ | with_reducible refine x_add ?_ | with_reducible refine x_addI ?_ | with_reducible refine x_sub ?_ | with_reducible refine x_neg ?_ | with_reducible refine x_lt ?_ | with_reducible refine x_le ?_ | with_reducible refine x_gt ?_ | with_reducible refine x_ge ?_ | with_reducible refine x_eqS ?_ | with_reducible refine x_eq ?_ | with_reducible refine x_ne ?_ | with_reducible refine x_isN ?_ | with_reducible refine x_notN ?_ | with_reducible refine x_isB ?_ | with_reducible refine x_notB ?_ | with_reducible refine x_lenL ?_ | with_reducible refine x_lenT ?_ | with_reducible refine x_max2 ?_ | with_reducible refine x_min2 ?_ | with_reducible refine x_abs ?_ | with_reducible refine x_tupleL ?_ | with_reducible refine x_tupleT ?_ | with_reducible refine x_partL ?_ | with_reducible refine x_partT ?_ | with_reducible refine x_listL ?_ | with_reducible refine x_listT ?_ | with_reducible refine x_iii ?_ | with_reducible refine x_ibi ?_ | with_reducible refine x_iss ?_ | with_reducible refine x_itt ?_ | with_reducible refine x_ill ?_ | with_reducible refine c_true ?_ | with_reducible refine c_false ?_ | with_reducible refine c_nt ?_ | with_reducible refine c_nf ?_ | with_reducible refine c_not ?_ | ((with_reducible apply w_FI); · rfl) | ((with_reducible apply w_oIx); · rfl) | ((with_reducible apply w_oLen); · rfl) | ((with_reducible apply w_oBin); · rfl) | ((with_reducible apply w_consO); · rfl) | ((with_reducible apply w_aug); · rfl) | ((with_reducible apply w_app); · rfl) | ((with_reducible apply w_oset); · rfl) | ((with_reducible apply w_ext); · rfl) | ((with_reducible apply w_retO); · rfl) | ((with_reducible apply w_frz); · rfl) | ((with_reducible apply e_ow); · rfl) | with_reducible refine e_bl ?_ | with_reducible refine e_int ?_ | with_reducible refine e_lst ?_ | with_reducible refine e_tup ?_ | with_reducible refine e_seqL ?_ | with_reducible refine e_seqT ?_ | with_reducible refine e_zipL ?_ | with_reducible refine e_zipT ?_ | with_reducible refine w_partI ?_ | with_reducible refine w_iSeq ?_ | with_reducible refine w_iEnum ?_ | with_reducible refine w_new ?_ | with_reducible refine w_rev ?_ | with_reducible refine w_revT ?_ | with_reducible refine w_slice ?_ | with_reducible refine y_le ?_ | with_reducible refine y_lt ?_ | with_reducible refine y_ge ?_ | with_reducible refine y_gt ?_ | ((with_reducible apply x_ixT); · rfl) | ((with_reducible apply x_ixL); · rfl) | ((with_reducible apply e_at); · rfl) | ((with_reducible apply x_mul); · rfl) | ((with_reducible apply e_ix); · rfl) | ((with_reducible apply x_div); · decide) | ((with_reducible apply x_mod); · decide) | with_reducible refine w_lst ?_ | with_reducible refine w_tup ?_ | ((with_reducible apply e_cap); · exact Nat.le_of_ble_eq_true rfl) | ((with_reducible apply e_set); · (simp only [List.set_cons_zero, List.set_cons_succ]; rfl)) | ((with_reducible apply e_setL); (· rfl); (· (simp only [List.set_cons_zero, List.set_cons_succ]; rfl))) | ((with_reducible apply e_par); (· rfl); (· (simp only [List.set_cons_zero, List.set_cons_succ]; rfl))) | ((with_reducible apply e_par3); (· rfl); (· (simp only [List.set_cons_zero, List.set_cons_succ]; rfl))) | ((with_reducible apply e_pt); (· rfl); (· (simp only [List.set_cons_zero, List.set_cons_succ]; rfl))) | ((with_reducible apply e_pT); · (simp only [pTs, pN, List.length_cons, List.length_nil, List.set_cons_zero, List.set_cons_succ, Nat.reduceAdd, Nat.reduceLT, ite_true, Option.some.injEq]; rfl))))
  have e := List.getElem?_eq_getElem (l := xs) (i := k.toNat) (by omega)
  refine x_ixL (at_nat hk0 e) ⟨_, _, rfl, rfl, List.getElem_mem _, hs'⟩
theorem w_choice {n : Nat} {s : List D} {xs : List D} {Q : D → List D → Prop} (hs : Src n s) (hn : n ≤ 1000000000) (h1 : xs ≠ []) (h2 : xs.length ≤ 1000000) (q : ∀ d s', d ∈ xs → Src (n + 1) s' → Q d s') :
    ∃ d s', f_law_choice s [.lst xs] = some (d, s') ∧ Q d s' := by
  obtain ⟨d, s', h, h3, h4⟩ := law_choice_eq hs hn h1 h2
  exact ⟨_, s', h, q d s' h3 h4⟩
theorem law_kind_non : f_law_kind [.non] = some (.int 6) := rfl
theorem law_kind_bl (b : Bool) : f_law_kind [.bl b] = some (.int 1) := rfl
theorem law_kind_int (i : Int) : f_law_kind [.int i] = some (.int 2) := rfl
theorem law_kind_str (s : Str) : f_law_kind [.str s] = some (.int 3) := rfl
theorem law_kind_lst (xs : List D) : f_law_kind [.lst xs] = some (.int 4) := rfl
theorem law_kind_tup (xs : List D) : f_law_kind [.tup xs] = some (.int 5) := rfl
theorem law_equal_refl : ∀ {n : Nat} {d : D}, n ≤ 50 → Wl n d → f_law_equal (n + 1) [d, d] = some (.bl true) := by
  intro n
  induction n with
  | zero =>
    intro d hn h
    refine run_D (e := [.im d, .im d, .un, .un]) rfl rfl ?_
    unfold c_law_equal
    cases d with
    | non => (repeat' (first | ((with_reducible refine c_decT ?_ ?_); · first | decide | rfl) | ((with_reducible refine c_decF ?_ ?_); · decide) | (with_reducible refine ⟨_, law_kind_non, ?_⟩) | (with_reducible refine x_eqR h (by omega) ?_) | with_reducible refine w_seq ?_ | ((with_reducible apply w_var); · rfl) | with_reducible refine w_setN ?_ | with_reducible refine w_snew ?_ | with_reducible refine w_C ?_ | with_reducible refine w_bin ?_ | with_reducible refine w_un ?_ | with_reducible refine w_isi ?_ | with_reducible refine w_isi2 ?_ | with_reducible refine w_chain ?_ | with_reducible refine w_if ?_ | with_reducible refine w_nil ?_ | with_reducible refine w_cons ?_ | with_reducible refine w_F ?_ | with_reducible refine w_Fb ?_ | with_reducible refine w_FN ?_ | with_reducible refine w_noPart ?_ | with_reducible refine w_slice ?_ | with_reducible refine w_val ?_ | with_reducible refine w_tAnd ?_ | with_reducible refine w_tOr ?_ | with_reducible refine w_tNot ?_ | with_reducible refine w_tYes ?_ | with_reducible refine w_and ?_ | with_reducible refine w_or ?_ | with_reducible refine w_not ?_ | with_reducible refine w_iRng ?_ | with_reducible refine w_iRngD ?_ | with_reducible refine w_iZip ?_ | with_reducible refine w_fr ?_ | with_reducible refine w_tupL ?_ | with_reducible refine w_im ?_ | with_reducible refine w_ow ?_ | with_reducible refine w_set ?_ | with_reducible refine w_par ?_ | with_reducible refine w_expr ?_ | with_reducible refine w_ret ?_ | with_reducible refine w_retN ?_ | with_reducible refine w_pass ?_ | with_reducible refine w_break ?_ | with_reducible refine w_cont ?_ | with_reducible refine w_seq ?_ | with_reducible refine w_sif ?_ | with_reducible refine x_add ?_ | with_reducible refine x_addI ?_ | with_reducible refine x_sub ?_ | with_reducible refine x_neg ?_ | with_reducible refine x_lt ?_ | with_reducible refine x_le ?_ | with_reducible refine x_gt ?_ | with_reducible refine x_ge ?_ | with_reducible refine x_eqS ?_ | with_reducible refine x_eq ?_ | with_reducible refine x_ne ?_ | with_reducible refine x_isN ?_ | with_reducible refine x_notN ?_ | with_reducible refine x_isB ?_ | with_reducible refine x_notB ?_ | with_reducible refine x_lenL ?_ | with_reducible refine x_lenT ?_ | with_reducible refine x_max2 ?_ | with_reducible refine x_min2 ?_ | with_reducible refine x_abs ?_ | with_reducible refine x_tupleL ?_ | with_reducible refine x_tupleT ?_ | with_reducible refine x_partL ?_ | with_reducible refine x_partT ?_ | with_reducible refine x_listL ?_ | with_reducible refine x_listT ?_ | with_reducible refine x_iii ?_ | with_reducible refine x_ibi ?_ | with_reducible refine x_iss ?_ | with_reducible refine x_itt ?_ | with_reducible refine x_ill ?_ | with_reducible refine c_true ?_ | with_reducible refine c_false ?_ | with_reducible refine c_nt ?_ | with_reducible refine c_nf ?_ | with_reducible refine c_not ?_ | ((with_reducible apply w_FI); · rfl) | ((with_reducible apply w_oIx); · rfl) | ((with_reducible apply w_oLen); · rfl) | ((with_reducible apply w_oBin); · rfl) | ((with_reducible apply w_consO); · rfl) | ((with_reducible apply w_aug); · rfl) | ((with_reducible apply w_app); · rfl) | ((with_reducible apply w_oset); · rfl) | ((with_reducible apply w_ext); · rfl) | ((with_reducible apply w_retO); · rfl) | ((with_reducible apply w_frz); · rfl) | ((with_reducible apply e_ow); · rfl) | with_reducible refine e_bl ?_ | with_reducible refine e_int ?_ | with_reducible refine e_lst ?_ | with_reducible refine e_tup ?_ | with_reducible refine e_seqL ?_ | with_reducible refine e_seqT ?_ | with_reducible refine e_zipL ?_ | with_reducible refine e_zipT ?_ | with_reducible refine w_partI ?_ | with_reducible refine w_iSeq ?_ | with_reducible refine w_iEnum ?_ | with_reducible refine w_new ?_ | with_reducible refine w_rev ?_ | with_reducible refine w_revT ?_ | with_reducible refine w_slice ?_ | with_reducible refine y_le ?_ | with_reducible refine y_lt ?_ | with_reducible refine y_ge ?_ | with_reducible refine y_gt ?_ | ((with_reducible apply x_ixT); · rfl) | ((with_reducible apply x_ixL); · rfl) | ((with_reducible apply e_at); · rfl) | ((with_reducible apply x_mul); · rfl) | ((with_reducible apply e_ix); · rfl) | ((with_reducible apply x_div); · decide) | ((with_reducible apply x_mod); · decide) | with_reducible refine w_lst ?_ | with_reducible refine w_tup ?_ | ((with_reducible apply e_cap); · exact Nat.le_of_ble_eq_true rfl) | ((with_reducible apply e_set); · (simp only [List.set_cons_zero, List.set_cons_succ]; rfl)) | ((with_reducible apply e_setL); (· rfl); (· (simp only [List.set_cons_zero, List.set_cons_succ]; rfl))) | ((with_reducible apply e_par); (· rfl); (· (simp only [List.set_cons_zero, List.set_cons_succ]; rfl))) | ((with_reducible apply e_par3); (· rfl); (· (simp only [List.set_cons_zero, List.set_cons_succ]; rfl))) | ((with_reducible apply e_pt); (· rfl); (· (simp only [List.set_cons_zero, List.set_cons_succ]; rfl))) | ((with_reducible apply e_pT); · (simp only [pTs, pN, List.length_cons, List.length_nil, List.set_cons_zero, List.set_cons_succ, Nat.reduceAdd, Nat.reduceLT, ite_true, Option.some.injEq]; rfl)))); rfl
    | bl b => (repeat' (first | ((with_reducible refine c_decT ?_ ?_); · first | decide | rfl) | ((with_reducible refine c_decF ?_ ?_); · decide) | (with_reducible refine ⟨_, law_kind_bl b, ?_⟩) | (with_reducible refine x_eqR h (by omega) ?_) | with_reducible refine w_seq ?_ | ((with_reducible apply w_var); · rfl) | with_reducible refine w_setN ?_ | with_reducible refine w_snew ?_ | with_reducible refine w_C ?_ | with_reducible refine w_bin ?_ | with_reducible refine w_un ?_ | with_reducible refine w_isi ?_ | with_reducible refine w_isi2 ?_ | with_reducible refine w_chain ?_ | with_reducible refine w_if ?_ | with_reducible refine w_nil ?_ | with_reducible refine w_cons ?_ | with_reducible refine w_F ?_ | with_reducible refine w_Fb ?_ | with_reducible refine w_FN ?_ | with_reducible refine w_noPart ?_ | with_reducible refine w_slice ?_ | with_reducible refine w_val ?_ | with_reducible refine w_tAnd ?_ | with_reducible refine w_tOr ?_ | with_reducible refine w_tNot ?_ | with_reducible refine w_tYes ?_ | with_reducible refine w_and ?_ | with_reducible refine w_or ?_ | with_reducible refine w_not ?_ | with_reducible refine w_iRng ?_ | with_reducible refine w_iRngD ?_ | with_reducible refine w_iZip ?_ | with_reducible refine w_fr ?_ | with_reducible refine w_tupL ?_ | with_reducible refine w_im ?_ | with_reducible refine w_ow ?_ | with_reducible refine w_set ?_ | with_reducible refine w_par ?_ | with_reducible refine w_expr ?_ | with_reducible refine w_ret ?_ | with_reducible refine w_retN ?_ | with_reducible refine w_pass ?_ | with_reducible refine w_break ?_ | with_reducible refine w_cont ?_ | with_reducible refine w_seq ?_ | with_reducible refine w_sif ?_ | with_reducible refine x_add ?_ | with_reducible refine x_addI ?_ | with_reducible refine x_sub ?_ | with_reducible refine x_neg ?_ | with_reducible refine x_lt ?_ | with_reducible refine x_le ?_ | with_reducible refine x_gt ?_ | with_reducible refine x_ge ?_ | with_reducible refine x_eqS ?_ | with_reducible refine x_eq ?_ | with_reducible refine x_ne ?_ | with_reducible refine x_isN ?_ | with_reducible refine x_notN ?_ | with_reducible refine x_isB ?_ | with_reducible refine x_notB ?_ | with_reducible refine x_lenL ?_ | with_reducible refine x_lenT ?_ | with_reducible refine x_max2 ?_ | with_reducible refine x_min2 ?_ | with_reducible refine x_abs ?_ | with_reducible refine x_tupleL ?_ | with_reducible refine x_tupleT ?_ | with_reducible refine x_partL ?_ | with_reducible refine x_partT ?_ | with_reducible refine x_listL ?_ | with_reducible refine x_listT ?_ | with_reducible refine x_iii ?_ | with_reducible refine x_ibi ?_ | with_reducible refine x_iss ?_ | with_reducible refine x_itt ?_ | with_reducible refine x_ill ?_ | with_reducible refine c_true ?_ | with_reducible refine c_false ?_ | with_reducible refine c_nt ?_ | with_reducible refine c_nf ?_ | with_reducible refine c_not ?_ | ((with_reducible apply w_FI); · rfl) | ((with_reducible apply w_oIx); · rfl) | ((with_reducible apply w_oLen); · rfl) | ((with_reducible apply w_oBin); · rfl) | ((with_reducible apply w_consO); · rfl) | ((with_reducible apply w_aug); · rfl) | ((with_reducible apply w_app); · rfl) | ((with_reducible apply w_oset); · rfl) | ((with_reducible apply w_ext); · rfl) | ((with_reducible apply w_retO); · rfl) | ((with_reducible apply w_frz); · rfl) | ((with_reducible apply e_ow); · rfl) | with_reducible refine e_bl ?_ | with_reducible refine e_int ?_ | with_reducible refine e_lst ?_ | with_reducible refine e_tup ?_ | with_reducible refine e_seqL ?_ | with_reducible refine e_seqT ?_ | with_reducible refine e_zipL ?_ | with_reducible refine e_zipT ?_ | with_reducible refine w_partI ?_ | with_reducible refine w_iSeq ?_ | with_reducible refine w_iEnum ?_ | with_reducible refine w_new ?_ | with_reducible refine w_rev ?_ | with_reducible refine w_revT ?_ | with_reducible refine w_slice ?_ | with_reducible refine y_le ?_ | with_reducible refine y_lt ?_ | with_reducible refine y_ge ?_ | with_reducible refine y_gt ?_ | ((with_reducible apply x_ixT); · rfl) | ((with_reducible apply x_ixL); · rfl) | ((with_reducible apply e_at); · rfl) | ((with_reducible apply x_mul); · rfl) | ((with_reducible apply e_ix); · rfl) | ((with_reducible apply x_div); · decide) | ((with_reducible apply x_mod); · decide) | with_reducible refine w_lst ?_ | with_reducible refine w_tup ?_ | ((with_reducible apply e_cap); · exact Nat.le_of_ble_eq_true rfl) | ((with_reducible apply e_set); · (simp only [List.set_cons_zero, List.set_cons_succ]; rfl)) | ((with_reducible apply e_setL); (· rfl); (· (simp only [List.set_cons_zero, List.set_cons_succ]; rfl))) | ((with_reducible apply e_par); (· rfl); (· (simp only [List.set_cons_zero, List.set_cons_succ]; rfl))) | ((with_reducible apply e_par3); (· rfl); (· (simp only [List.set_cons_zero, List.set_cons_succ]; rfl))) | ((with_reducible apply e_pt); (· rfl); (· (simp only [List.set_cons_zero, List.set_cons_succ]; rfl))) | ((with_reducible apply e_pT); · (simp only [pTs, pN, List.length_cons, List.length_nil, List.set_cons_zero, List.set_cons_succ, Nat.reduceAdd, Nat.reduceLT, ite_true, Option.some.injEq]; rfl)))); rfl
    | int i => (repeat' (first | ((with_reducible refine c_decT ?_ ?_); · first | decide | rfl) | ((with_reducible refine c_decF ?_ ?_); · decide) | (with_reducible refine ⟨_, law_kind_int i, ?_⟩) | (with_reducible refine x_eqR h (by omega) ?_) | with_reducible refine w_seq ?_ | ((with_reducible apply w_var); · rfl) | with_reducible refine w_setN ?_ | with_reducible refine w_snew ?_ | with_reducible refine w_C ?_ | with_reducible refine w_bin ?_ | with_reducible refine w_un ?_ | with_reducible refine w_isi ?_ | with_reducible refine w_isi2 ?_ | with_reducible refine w_chain ?_ | with_reducible refine w_if ?_ | with_reducible refine w_nil ?_ | with_reducible refine w_cons ?_ | with_reducible refine w_F ?_ | with_reducible refine w_Fb ?_ | with_reducible refine w_FN ?_ | with_reducible refine w_noPart ?_ | with_reducible refine w_slice ?_ | with_reducible refine w_val ?_ | with_reducible refine w_tAnd ?_ | with_reducible refine w_tOr ?_ | with_reducible refine w_tNot ?_ | with_reducible refine w_tYes ?_ | with_reducible refine w_and ?_ | with_reducible refine w_or ?_ | with_reducible refine w_not ?_ | with_reducible refine w_iRng ?_ | with_reducible refine w_iRngD ?_ | with_reducible refine w_iZip ?_ | with_reducible refine w_fr ?_ | with_reducible refine w_tupL ?_ | with_reducible refine w_im ?_ | with_reducible refine w_ow ?_ | with_reducible refine w_set ?_ | with_reducible refine w_par ?_ | with_reducible refine w_expr ?_ | with_reducible refine w_ret ?_ | with_reducible refine w_retN ?_ | with_reducible refine w_pass ?_ | with_reducible refine w_break ?_ | with_reducible refine w_cont ?_ | with_reducible refine w_seq ?_ | with_reducible refine w_sif ?_ | with_reducible refine x_add ?_ | with_reducible refine x_addI ?_ | with_reducible refine x_sub ?_ | with_reducible refine x_neg ?_ | with_reducible refine x_lt ?_ | with_reducible refine x_le ?_ | with_reducible refine x_gt ?_ | with_reducible refine x_ge ?_ | with_reducible refine x_eqS ?_ | with_reducible refine x_eq ?_ | with_reducible refine x_ne ?_ | with_reducible refine x_isN ?_ | with_reducible refine x_notN ?_ | with_reducible refine x_isB ?_ | with_reducible refine x_notB ?_ | with_reducible refine x_lenL ?_ | with_reducible refine x_lenT ?_ | with_reducible refine x_max2 ?_ | with_reducible refine x_min2 ?_ | with_reducible refine x_abs ?_ | with_reducible refine x_tupleL ?_ | with_reducible refine x_tupleT ?_ | with_reducible refine x_partL ?_ | with_reducible refine x_partT ?_ | with_reducible refine x_listL ?_ | with_reducible refine x_listT ?_ | with_reducible refine x_iii ?_ | with_reducible refine x_ibi ?_ | with_reducible refine x_iss ?_ | with_reducible refine x_itt ?_ | with_reducible refine x_ill ?_ | with_reducible refine c_true ?_ | with_reducible refine c_false ?_ | with_reducible refine c_nt ?_ | with_reducible refine c_nf ?_ | with_reducible refine c_not ?_ | ((with_reducible apply w_FI); · rfl) | ((with_reducible apply w_oIx); · rfl) | ((with_reducible apply w_oLen); · rfl) | ((with_reducible apply w_oBin); · rfl) | ((with_reducible apply w_consO); · rfl) | ((with_reducible apply w_aug); · rfl) | ((with_reducible apply w_app); · rfl) | ((with_reducible apply w_oset); · rfl) | ((with_reducible apply w_ext); · rfl) | ((with_reducible apply w_retO); · rfl) | ((with_reducible apply w_frz); · rfl) | ((with_reducible apply e_ow); · rfl) | with_reducible refine e_bl ?_ | with_reducible refine e_int ?_ | with_reducible refine e_lst ?_ | with_reducible refine e_tup ?_ | with_reducible refine e_seqL ?_ | with_reducible refine e_seqT ?_ | with_reducible refine e_zipL ?_ | with_reducible refine e_zipT ?_ | with_reducible refine w_partI ?_ | with_reducible refine w_iSeq ?_ | with_reducible refine w_iEnum ?_ | with_reducible refine w_new ?_ | with_reducible refine w_rev ?_ | with_reducible refine w_revT ?_ | with_reducible refine w_slice ?_ | with_reducible refine y_le ?_ | with_reducible refine y_lt ?_ | with_reducible refine y_ge ?_ | with_reducible refine y_gt ?_ | ((with_reducible apply x_ixT); · rfl) | ((with_reducible apply x_ixL); · rfl) | ((with_reducible apply e_at); · rfl) | ((with_reducible apply x_mul); · rfl) | ((with_reducible apply e_ix); · rfl) | ((with_reducible apply x_div); · decide) | ((with_reducible apply x_mod); · decide) | with_reducible refine w_lst ?_ | with_reducible refine w_tup ?_ | ((with_reducible apply e_cap); · exact Nat.le_of_ble_eq_true rfl) | ((with_reducible apply e_set); · (simp only [List.set_cons_zero, List.set_cons_succ]; rfl)) | ((with_reducible apply e_setL); (· rfl); (· (simp only [List.set_cons_zero, List.set_cons_succ]; rfl))) | ((with_reducible apply e_par); (· rfl); (· (simp only [List.set_cons_zero, List.set_cons_succ]; rfl))) | ((with_reducible apply e_par3); (· rfl); (· (simp only [List.set_cons_zero, List.set_cons_succ]; rfl))) | ((with_reducible apply e_pt); (· rfl); (· (simp only [List.set_cons_zero, List.set_cons_succ]; rfl))) | ((with_reducible apply e_pT); · (simp only [pTs, pN, List.length_cons, List.length_nil, List.set_cons_zero, List.set_cons_succ, Nat.reduceAdd, Nat.reduceLT, ite_true, Option.some.injEq]; rfl)))); rfl
    | str i => (repeat' (first | ((with_reducible refine c_decT ?_ ?_); · first | decide | rfl) | ((with_reducible refine c_decF ?_ ?_); · decide) | (with_reducible refine ⟨_, law_kind_str i, ?_⟩) | (with_reducible refine x_eqR h (by omega) ?_) | with_reducible refine w_seq ?_ | ((with_reducible apply w_var); · rfl) | with_reducible refine w_setN ?_ | with_reducible refine w_snew ?_ | with_reducible refine w_C ?_ | with_reducible refine w_bin ?_ | with_reducible refine w_un ?_ | with_reducible refine w_isi ?_ | with_reducible refine w_isi2 ?_ | with_reducible refine w_chain ?_ | with_reducible refine w_if ?_ | with_reducible refine w_nil ?_ | with_reducible refine w_cons ?_ | with_reducible refine w_F ?_ | with_reducible refine w_Fb ?_ | with_reducible refine w_FN ?_ | with_reducible refine w_noPart ?_ | with_reducible refine w_slice ?_ | with_reducible refine w_val ?_ | with_reducible refine w_tAnd ?_ | with_reducible refine w_tOr ?_ | with_reducible refine w_tNot ?_ | with_reducible refine w_tYes ?_ | with_reducible refine w_and ?_ | with_reducible refine w_or ?_ | with_reducible refine w_not ?_ | with_reducible refine w_iRng ?_ | with_reducible refine w_iRngD ?_ | with_reducible refine w_iZip ?_ | with_reducible refine w_fr ?_ | with_reducible refine w_tupL ?_ | with_reducible refine w_im ?_ | with_reducible refine w_ow ?_ | with_reducible refine w_set ?_ | with_reducible refine w_par ?_ | with_reducible refine w_expr ?_ | with_reducible refine w_ret ?_ | with_reducible refine w_retN ?_ | with_reducible refine w_pass ?_ | with_reducible refine w_break ?_ | with_reducible refine w_cont ?_ | with_reducible refine w_seq ?_ | with_reducible refine w_sif ?_ | with_reducible refine x_add ?_ | with_reducible refine x_addI ?_ | with_reducible refine x_sub ?_ | with_reducible refine x_neg ?_ | with_reducible refine x_lt ?_ | with_reducible refine x_le ?_ | with_reducible refine x_gt ?_ | with_reducible refine x_ge ?_ | with_reducible refine x_eqS ?_ | with_reducible refine x_eq ?_ | with_reducible refine x_ne ?_ | with_reducible refine x_isN ?_ | with_reducible refine x_notN ?_ | with_reducible refine x_isB ?_ | with_reducible refine x_notB ?_ | with_reducible refine x_lenL ?_ | with_reducible refine x_lenT ?_ | with_reducible refine x_max2 ?_ | with_reducible refine x_min2 ?_ | with_reducible refine x_abs ?_ | with_reducible refine x_tupleL ?_ | with_reducible refine x_tupleT ?_ | with_reducible refine x_partL ?_ | with_reducible refine x_partT ?_ | with_reducible refine x_listL ?_ | with_reducible refine x_listT ?_ | with_reducible refine x_iii ?_ | with_reducible refine x_ibi ?_ | with_reducible refine x_iss ?_ | with_reducible refine x_itt ?_ | with_reducible refine x_ill ?_ | with_reducible refine c_true ?_ | with_reducible refine c_false ?_ | with_reducible refine c_nt ?_ | with_reducible refine c_nf ?_ | with_reducible refine c_not ?_ | ((with_reducible apply w_FI); · rfl) | ((with_reducible apply w_oIx); · rfl) | ((with_reducible apply w_oLen); · rfl) | ((with_reducible apply w_oBin); · rfl) | ((with_reducible apply w_consO); · rfl) | ((with_reducible apply w_aug); · rfl) | ((with_reducible apply w_app); · rfl) | ((with_reducible apply w_oset); · rfl) | ((with_reducible apply w_ext); · rfl) | ((with_reducible apply w_retO); · rfl) | ((with_reducible apply w_frz); · rfl) | ((with_reducible apply e_ow); · rfl) | with_reducible refine e_bl ?_ | with_reducible refine e_int ?_ | with_reducible refine e_lst ?_ | with_reducible refine e_tup ?_ | with_reducible refine e_seqL ?_ | with_reducible refine e_seqT ?_ | with_reducible refine e_zipL ?_ | with_reducible refine e_zipT ?_ | with_reducible refine w_partI ?_ | with_reducible refine w_iSeq ?_ | with_reducible refine w_iEnum ?_ | with_reducible refine w_new ?_ | with_reducible refine w_rev ?_ | with_reducible refine w_revT ?_ | with_reducible refine w_slice ?_ | with_reducible refine y_le ?_ | with_reducible refine y_lt ?_ | with_reducible refine y_ge ?_ | with_reducible refine y_gt ?_ | ((with_reducible apply x_ixT); · rfl) | ((with_reducible apply x_ixL); · rfl) | ((with_reducible apply e_at); · rfl) | ((with_reducible apply x_mul); · rfl) | ((with_reducible apply e_ix); · rfl) | ((with_reducible apply x_div); · decide) | ((with_reducible apply x_mod); · decide) | with_reducible refine w_lst ?_ | with_reducible refine w_tup ?_ | ((with_reducible apply e_cap); · exact Nat.le_of_ble_eq_true rfl) | ((with_reducible apply e_set); · (simp only [List.set_cons_zero, List.set_cons_succ]; rfl)) | ((with_reducible apply e_setL); (· rfl); (· (simp only [List.set_cons_zero, List.set_cons_succ]; rfl))) | ((with_reducible apply e_par); (· rfl); (· (simp only [List.set_cons_zero, List.set_cons_succ]; rfl))) | ((with_reducible apply e_par3); (· rfl); (· (simp only [List.set_cons_zero, List.set_cons_succ]; rfl))) | ((with_reducible apply e_pt); (· rfl); (· (simp only [List.set_cons_zero, List.set_cons_succ]; rfl))) | ((with_reducible apply e_pT); · (simp only [pTs, pN, List.length_cons, List.length_nil, List.set_cons_zero, List.set_cons_succ, Nat.reduceAdd, Nat.reduceLT, ite_true, Option.some.injEq]; rfl)))); rfl
    | lst xs => exact h.elim
    | tup xs => exact h.elim
    | dK _ _ => exact h.elim
    | dT _ _ => exact h.elim
  | succ n ih =>
    intro d hn h
    refine run_D (e := [.im d, .im d, .un, .un]) rfl rfl ?_
    unfold c_law_equal
    cases d with
    | non => (repeat' (first | ((with_reducible refine c_decT ?_ ?_); · first | decide | rfl) | ((with_reducible refine c_decF ?_ ?_); · decide) | (with_reducible refine ⟨_, law_kind_non, ?_⟩) | (with_reducible refine x_eqR h (by omega) ?_) | with_reducible refine w_seq ?_ | ((with_reducible apply w_var); · rfl) | with_reducible refine w_setN ?_ | with_reducible refine w_snew ?_ | with_reducible refine w_C ?_ | with_reducible refine w_bin ?_ | with_reducible refine w_un ?_ | with_reducible refine w_isi ?_ | with_reducible refine w_isi2 ?_ | with_reducible refine w_chain ?_ | with_reducible refine w_if ?_ | with_reducible refine w_nil ?_ | with_reducible refine w_cons ?_ | with_reducible refine w_F ?_ | with_reducible refine w_Fb ?_ | with_reducible refine w_FN ?_ | with_reducible refine w_noPart ?_ | with_reducible refine w_slice ?_ | with_reducible refine w_val ?_ | with_reducible refine w_tAnd ?_ | with_reducible refine w_tOr ?_ | with_reducible refine w_tNot ?_ | with_reducible refine w_tYes ?_ | with_reducible refine w_and ?_ | with_reducible refine w_or ?_ | with_reducible refine w_not ?_ | with_reducible refine w_iRng ?_ | with_reducible refine w_iRngD ?_ | with_reducible refine w_iZip ?_ | with_reducible refine w_fr ?_ | with_reducible refine w_tupL ?_ | with_reducible refine w_im ?_ | with_reducible refine w_ow ?_ | with_reducible refine w_set ?_ | with_reducible refine w_par ?_ | with_reducible refine w_expr ?_ | with_reducible refine w_ret ?_ | with_reducible refine w_retN ?_ | with_reducible refine w_pass ?_ | with_reducible refine w_break ?_ | with_reducible refine w_cont ?_ | with_reducible refine w_seq ?_ | with_reducible refine w_sif ?_ | with_reducible refine x_add ?_ | with_reducible refine x_addI ?_ | with_reducible refine x_sub ?_ | with_reducible refine x_neg ?_ | with_reducible refine x_lt ?_ | with_reducible refine x_le ?_ | with_reducible refine x_gt ?_ | with_reducible refine x_ge ?_ | with_reducible refine x_eqS ?_ | with_reducible refine x_eq ?_ | with_reducible refine x_ne ?_ | with_reducible refine x_isN ?_ | with_reducible refine x_notN ?_ | with_reducible refine x_isB ?_ | with_reducible refine x_notB ?_ | with_reducible refine x_lenL ?_ | with_reducible refine x_lenT ?_ | with_reducible refine x_max2 ?_ | with_reducible refine x_min2 ?_ | with_reducible refine x_abs ?_ | with_reducible refine x_tupleL ?_ | with_reducible refine x_tupleT ?_ | with_reducible refine x_partL ?_ | with_reducible refine x_partT ?_ | with_reducible refine x_listL ?_ | with_reducible refine x_listT ?_ | with_reducible refine x_iii ?_ | with_reducible refine x_ibi ?_ | with_reducible refine x_iss ?_ | with_reducible refine x_itt ?_ | with_reducible refine x_ill ?_ | with_reducible refine c_true ?_ | with_reducible refine c_false ?_ | with_reducible refine c_nt ?_ | with_reducible refine c_nf ?_ | with_reducible refine c_not ?_ | ((with_reducible apply w_FI); · rfl) | ((with_reducible apply w_oIx); · rfl) | ((with_reducible apply w_oLen); · rfl) | ((with_reducible apply w_oBin); · rfl) | ((with_reducible apply w_consO); · rfl) | ((with_reducible apply w_aug); · rfl) | ((with_reducible apply w_app); · rfl) | ((with_reducible apply w_oset); · rfl) | ((with_reducible apply w_ext); · rfl) | ((with_reducible apply w_retO); · rfl) | ((with_reducible apply w_frz); · rfl) | ((with_reducible apply e_ow); · rfl) | with_reducible refine e_bl ?_ | with_reducible refine e_int ?_ | with_reducible refine e_lst ?_ | with_reducible refine e_tup ?_ | with_reducible refine e_seqL ?_ | with_reducible refine e_seqT ?_ | with_reducible refine e_zipL ?_ | with_reducible refine e_zipT ?_ | with_reducible refine w_partI ?_ | with_reducible refine w_iSeq ?_ | with_reducible refine w_iEnum ?_ | with_reducible refine w_new ?_ | with_reducible refine w_rev ?_ | with_reducible refine w_revT ?_ | with_reducible refine w_slice ?_ | with_reducible refine y_le ?_ | with_reducible refine y_lt ?_ | with_reducible refine y_ge ?_ | with_reducible refine y_gt ?_ | ((with_reducible apply x_ixT); · rfl) | ((with_reducible apply x_ixL); · rfl) | ((with_reducible apply e_at); · rfl) | ((with_reducible apply x_mul); · rfl) | ((with_reducible apply e_ix); · rfl) | ((with_reducible apply x_div); · decide) | ((with_reducible apply x_mod); · decide) | with_reducible refine w_lst ?_ | with_reducible refine w_tup ?_ | ((with_reducible apply e_cap); · exact Nat.le_of_ble_eq_true rfl) | ((with_reducible apply e_set); · (simp only [List.set_cons_zero, List.set_cons_succ]; rfl)) | ((with_reducible apply e_setL); (· rfl); (· (simp only [List.set_cons_zero, List.set_cons_succ]; rfl))) | ((with_reducible apply e_par); (· rfl); (· (simp only [List.set_cons_zero, List.set_cons_succ]; rfl))) | ((with_reducible apply e_par3); (· rfl); (· (simp only [List.set_cons_zero, List.set_cons_succ]; rfl))) | ((with_reducible apply e_pt); (· rfl); (· (simp only [List.set_cons_zero, List.set_cons_succ]; rfl))) | ((with_reducible apply e_pT); · (simp only [pTs, pN, List.length_cons, List.length_nil, List.set_cons_zero, List.set_cons_succ, Nat.reduceAdd, Nat.reduceLT, ite_true, Option.some.injEq]; rfl)))); rfl
    | bl b => (repeat' (first | ((with_reducible refine c_decT ?_ ?_); · first | decide | rfl) | ((with_reducible refine c_decF ?_ ?_); · decide) | (with_reducible refine ⟨_, law_kind_bl b, ?_⟩) | (with_reducible refine x_eqR h (by omega) ?_) | with_reducible refine w_seq ?_ | ((with_reducible apply w_var); · rfl) | with_reducible refine w_setN ?_ | with_reducible refine w_snew ?_ | with_reducible refine w_C ?_ | with_reducible refine w_bin ?_ | with_reducible refine w_un ?_ | with_reducible refine w_isi ?_ | with_reducible refine w_isi2 ?_ | with_reducible refine w_chain ?_ | with_reducible refine w_if ?_ | with_reducible refine w_nil ?_ | with_reducible refine w_cons ?_ | with_reducible refine w_F ?_ | with_reducible refine w_Fb ?_ | with_reducible refine w_FN ?_ | with_reducible refine w_noPart ?_ | with_reducible refine w_slice ?_ | with_reducible refine w_val ?_ | with_reducible refine w_tAnd ?_ | with_reducible refine w_tOr ?_ | with_reducible refine w_tNot ?_ | with_reducible refine w_tYes ?_ | with_reducible refine w_and ?_ | with_reducible refine w_or ?_ | with_reducible refine w_not ?_ | with_reducible refine w_iRng ?_ | with_reducible refine w_iRngD ?_ | with_reducible refine w_iZip ?_ | with_reducible refine w_fr ?_ | with_reducible refine w_tupL ?_ | with_reducible refine w_im ?_ | with_reducible refine w_ow ?_ | with_reducible refine w_set ?_ | with_reducible refine w_par ?_ | with_reducible refine w_expr ?_ | with_reducible refine w_ret ?_ | with_reducible refine w_retN ?_ | with_reducible refine w_pass ?_ | with_reducible refine w_break ?_ | with_reducible refine w_cont ?_ | with_reducible refine w_seq ?_ | with_reducible refine w_sif ?_ | with_reducible refine x_add ?_ | with_reducible refine x_addI ?_ | with_reducible refine x_sub ?_ | with_reducible refine x_neg ?_ | with_reducible refine x_lt ?_ | with_reducible refine x_le ?_ | with_reducible refine x_gt ?_ | with_reducible refine x_ge ?_ | with_reducible refine x_eqS ?_ | with_reducible refine x_eq ?_ | with_reducible refine x_ne ?_ | with_reducible refine x_isN ?_ | with_reducible refine x_notN ?_ | with_reducible refine x_isB ?_ | with_reducible refine x_notB ?_ | with_reducible refine x_lenL ?_ | with_reducible refine x_lenT ?_ | with_reducible refine x_max2 ?_ | with_reducible refine x_min2 ?_ | with_reducible refine x_abs ?_ | with_reducible refine x_tupleL ?_ | with_reducible refine x_tupleT ?_ | with_reducible refine x_partL ?_ | with_reducible refine x_partT ?_ | with_reducible refine x_listL ?_ | with_reducible refine x_listT ?_ | with_reducible refine x_iii ?_ | with_reducible refine x_ibi ?_ | with_reducible refine x_iss ?_ | with_reducible refine x_itt ?_ | with_reducible refine x_ill ?_ | with_reducible refine c_true ?_ | with_reducible refine c_false ?_ | with_reducible refine c_nt ?_ | with_reducible refine c_nf ?_ | with_reducible refine c_not ?_ | ((with_reducible apply w_FI); · rfl) | ((with_reducible apply w_oIx); · rfl) | ((with_reducible apply w_oLen); · rfl) | ((with_reducible apply w_oBin); · rfl) | ((with_reducible apply w_consO); · rfl) | ((with_reducible apply w_aug); · rfl) | ((with_reducible apply w_app); · rfl) | ((with_reducible apply w_oset); · rfl) | ((with_reducible apply w_ext); · rfl) | ((with_reducible apply w_retO); · rfl) | ((with_reducible apply w_frz); · rfl) | ((with_reducible apply e_ow); · rfl) | with_reducible refine e_bl ?_ | with_reducible refine e_int ?_ | with_reducible refine e_lst ?_ | with_reducible refine e_tup ?_ | with_reducible refine e_seqL ?_ | with_reducible refine e_seqT ?_ | with_reducible refine e_zipL ?_ | with_reducible refine e_zipT ?_ | with_reducible refine w_partI ?_ | with_reducible refine w_iSeq ?_ | with_reducible refine w_iEnum ?_ | with_reducible refine w_new ?_ | with_reducible refine w_rev ?_ | with_reducible refine w_revT ?_ | with_reducible refine w_slice ?_ | with_reducible refine y_le ?_ | with_reducible refine y_lt ?_ | with_reducible refine y_ge ?_ | with_reducible refine y_gt ?_ | ((with_reducible apply x_ixT); · rfl) | ((with_reducible apply x_ixL); · rfl) | ((with_reducible apply e_at); · rfl) | ((with_reducible apply x_mul); · rfl) | ((with_reducible apply e_ix); · rfl) | ((with_reducible apply x_div); · decide) | ((with_reducible apply x_mod); · decide) | with_reducible refine w_lst ?_ | with_reducible refine w_tup ?_ | ((with_reducible apply e_cap); · exact Nat.le_of_ble_eq_true rfl) | ((with_reducible apply e_set); · (simp only [List.set_cons_zero, List.set_cons_succ]; rfl)) | ((with_reducible apply e_setL); (· rfl); (· (simp only [List.set_cons_zero, List.set_cons_succ]; rfl))) | ((with_reducible apply e_par); (· rfl); (· (simp only [List.set_cons_zero, List.set_cons_succ]; rfl))) | ((with_reducible apply e_par3); (· rfl); (· (simp only [List.set_cons_zero, List.set_cons_succ]; rfl))) | ((with_reducible apply e_pt); (· rfl); (· (simp only [List.set_cons_zero, List.set_cons_succ]; rfl))) | ((with_reducible apply e_pT); · (simp only [pTs, pN, List.length_cons, List.length_nil, List.set_cons_zero, List.set_cons_succ, Nat.reduceAdd, Nat.reduceLT, ite_true, Option.some.injEq]; rfl)))); rfl
    | int i => (repeat' (first | ((with_reducible refine c_decT ?_ ?_); · first | decide | rfl) | ((with_reducible refine c_decF ?_ ?_); · decide) | (with_reducible refine ⟨_, law_kind_int i, ?_⟩) | (with_reducible refine x_eqR h (by omega) ?_) | with_reducible refine w_seq ?_ | ((with_reducible apply w_var); · rfl) | with_reducible refine w_setN ?_ | with_reducible refine w_snew ?_ | with_reducible refine w_C ?_ | with_reducible refine w_bin ?_ | with_reducible refine w_un ?_ | with_reducible refine w_isi ?_ | with_reducible refine w_isi2 ?_ | with_reducible refine w_chain ?_ | with_reducible refine w_if ?_ | with_reducible refine w_nil ?_ | with_reducible refine w_cons ?_ | with_reducible refine w_F ?_ | with_reducible refine w_Fb ?_ | with_reducible refine w_FN ?_ | with_reducible refine w_noPart ?_ | with_reducible refine w_slice ?_ | with_reducible refine w_val ?_ | with_reducible refine w_tAnd ?_ | with_reducible refine w_tOr ?_ | with_reducible refine w_tNot ?_ | with_reducible refine w_tYes ?_ | with_reducible refine w_and ?_ | with_reducible refine w_or ?_ | with_reducible refine w_not ?_ | with_reducible refine w_iRng ?_ | with_reducible refine w_iRngD ?_ | with_reducible refine w_iZip ?_ | with_reducible refine w_fr ?_ | with_reducible refine w_tupL ?_ | with_reducible refine w_im ?_ | with_reducible refine w_ow ?_ | with_reducible refine w_set ?_ | with_reducible refine w_par ?_ | with_reducible refine w_expr ?_ | with_reducible refine w_ret ?_ | with_reducible refine w_retN ?_ | with_reducible refine w_pass ?_ | with_reducible refine w_break ?_ | with_reducible refine w_cont ?_ | with_reducible refine w_seq ?_ | with_reducible refine w_sif ?_ | with_reducible refine x_add ?_ | with_reducible refine x_addI ?_ | with_reducible refine x_sub ?_ | with_reducible refine x_neg ?_ | with_reducible refine x_lt ?_ | with_reducible refine x_le ?_ | with_reducible refine x_gt ?_ | with_reducible refine x_ge ?_ | with_reducible refine x_eqS ?_ | with_reducible refine x_eq ?_ | with_reducible refine x_ne ?_ | with_reducible refine x_isN ?_ | with_reducible refine x_notN ?_ | with_reducible refine x_isB ?_ | with_reducible refine x_notB ?_ | with_reducible refine x_lenL ?_ | with_reducible refine x_lenT ?_ | with_reducible refine x_max2 ?_ | with_reducible refine x_min2 ?_ | with_reducible refine x_abs ?_ | with_reducible refine x_tupleL ?_ | with_reducible refine x_tupleT ?_ | with_reducible refine x_partL ?_ | with_reducible refine x_partT ?_ | with_reducible refine x_listL ?_ | with_reducible refine x_listT ?_ | with_reducible refine x_iii ?_ | with_reducible refine x_ibi ?_ | with_reducible refine x_iss ?_ | with_reducible refine x_itt ?_ | with_reducible refine x_ill ?_ | with_reducible refine c_true ?_ | with_reducible refine c_false ?_ | with_reducible refine c_nt ?_ | with_reducible refine c_nf ?_ | with_reducible refine c_not ?_ | ((with_reducible apply w_FI); · rfl) | ((with_reducible apply w_oIx); · rfl) | ((with_reducible apply w_oLen); · rfl) | ((with_reducible apply w_oBin); · rfl) | ((with_reducible apply w_consO); · rfl) | ((with_reducible apply w_aug); · rfl) | ((with_reducible apply w_app); · rfl) | ((with_reducible apply w_oset); · rfl) | ((with_reducible apply w_ext); · rfl) | ((with_reducible apply w_retO); · rfl) | ((with_reducible apply w_frz); · rfl) | ((with_reducible apply e_ow); · rfl) | with_reducible refine e_bl ?_ | with_reducible refine e_int ?_ | with_reducible refine e_lst ?_ | with_reducible refine e_tup ?_ | with_reducible refine e_seqL ?_ | with_reducible refine e_seqT ?_ | with_reducible refine e_zipL ?_ | with_reducible refine e_zipT ?_ | with_reducible refine w_partI ?_ | with_reducible refine w_iSeq ?_ | with_reducible refine w_iEnum ?_ | with_reducible refine w_new ?_ | with_reducible refine w_rev ?_ | with_reducible refine w_revT ?_ | with_reducible refine w_slice ?_ | with_reducible refine y_le ?_ | with_reducible refine y_lt ?_ | with_reducible refine y_ge ?_ | with_reducible refine y_gt ?_ | ((with_reducible apply x_ixT); · rfl) | ((with_reducible apply x_ixL); · rfl) | ((with_reducible apply e_at); · rfl) | ((with_reducible apply x_mul); · rfl) | ((with_reducible apply e_ix); · rfl) | ((with_reducible apply x_div); · decide) | ((with_reducible apply x_mod); · decide) | with_reducible refine w_lst ?_ | with_reducible refine w_tup ?_ | ((with_reducible apply e_cap); · exact Nat.le_of_ble_eq_true rfl) | ((with_reducible apply e_set); · (simp only [List.set_cons_zero, List.set_cons_succ]; rfl)) | ((with_reducible apply e_setL); (· rfl); (· (simp only [List.set_cons_zero, List.set_cons_succ]; rfl))) | ((with_reducible apply e_par); (· rfl); (· (simp only [List.set_cons_zero, List.set_cons_succ]; rfl))) | ((with_reducible apply e_par3); (· rfl); (· (simp only [List.set_cons_zero, List.set_cons_succ]; rfl))) | ((with_reducible apply e_pt); (· rfl); (· (simp only [List.set_cons_zero, List.set_cons_succ]; rfl))) | ((with_reducible apply e_pT); · (simp only [pTs, pN, List.length_cons, List.length_nil, List.set_cons_zero, List.set_cons_succ, Nat.reduceAdd, Nat.reduceLT, ite_true, Option.some.injEq]; rfl)))); rfl
    | str i => (repeat' (first | ((with_reducible refine c_decT ?_ ?_); · first | decide | rfl) | ((with_reducible refine c_decF ?_ ?_); · decide) | (with_reducible refine ⟨_, law_kind_str i, ?_⟩) | (with_reducible refine x_eqR h (by omega) ?_) | with_reducible refine w_seq ?_ | ((with_reducible apply w_var); · rfl) | with_reducible refine w_setN ?_ | with_reducible refine w_snew ?_ | with_reducible refine w_C ?_ | with_reducible refine w_bin ?_ | with_reducible refine w_un ?_ | with_reducible refine w_isi ?_ | with_reducible refine w_isi2 ?_ | with_reducible refine w_chain ?_ | with_reducible refine w_if ?_ | with_reducible refine w_nil ?_ | with_reducible refine w_cons ?_ | with_reducible refine w_F ?_ | with_reducible refine w_Fb ?_ | with_reducible refine w_FN ?_ | with_reducible refine w_noPart ?_ | with_reducible refine w_slice ?_ | with_reducible refine w_val ?_ | with_reducible refine w_tAnd ?_ | with_reducible refine w_tOr ?_ | with_reducible refine w_tNot ?_ | with_reducible refine w_tYes ?_ | with_reducible refine w_and ?_ | with_reducible refine w_or ?_ | with_reducible refine w_not ?_ | with_reducible refine w_iRng ?_ | with_reducible refine w_iRngD ?_ | with_reducible refine w_iZip ?_ | with_reducible refine w_fr ?_ | with_reducible refine w_tupL ?_ | with_reducible refine w_im ?_ | with_reducible refine w_ow ?_ | with_reducible refine w_set ?_ | with_reducible refine w_par ?_ | with_reducible refine w_expr ?_ | with_reducible refine w_ret ?_ | with_reducible refine w_retN ?_ | with_reducible refine w_pass ?_ | with_reducible refine w_break ?_ | with_reducible refine w_cont ?_ | with_reducible refine w_seq ?_ | with_reducible refine w_sif ?_ | with_reducible refine x_add ?_ | with_reducible refine x_addI ?_ | with_reducible refine x_sub ?_ | with_reducible refine x_neg ?_ | with_reducible refine x_lt ?_ | with_reducible refine x_le ?_ | with_reducible refine x_gt ?_ | with_reducible refine x_ge ?_ | with_reducible refine x_eqS ?_ | with_reducible refine x_eq ?_ | with_reducible refine x_ne ?_ | with_reducible refine x_isN ?_ | with_reducible refine x_notN ?_ | with_reducible refine x_isB ?_ | with_reducible refine x_notB ?_ | with_reducible refine x_lenL ?_ | with_reducible refine x_lenT ?_ | with_reducible refine x_max2 ?_ | with_reducible refine x_min2 ?_ | with_reducible refine x_abs ?_ | with_reducible refine x_tupleL ?_ | with_reducible refine x_tupleT ?_ | with_reducible refine x_partL ?_ | with_reducible refine x_partT ?_ | with_reducible refine x_listL ?_ | with_reducible refine x_listT ?_ | with_reducible refine x_iii ?_ | with_reducible refine x_ibi ?_ | with_reducible refine x_iss ?_ | with_reducible refine x_itt ?_ | with_reducible refine x_ill ?_ | with_reducible refine c_true ?_ | with_reducible refine c_false ?_ | with_reducible refine c_nt ?_ | with_reducible refine c_nf ?_ | with_reducible refine c_not ?_ | ((with_reducible apply w_FI); · rfl) | ((with_reducible apply w_oIx); · rfl) | ((with_reducible apply w_oLen); · rfl) | ((with_reducible apply w_oBin); · rfl) | ((with_reducible apply w_consO); · rfl) | ((with_reducible apply w_aug); · rfl) | ((with_reducible apply w_app); · rfl) | ((with_reducible apply w_oset); · rfl) | ((with_reducible apply w_ext); · rfl) | ((with_reducible apply w_retO); · rfl) | ((with_reducible apply w_frz); · rfl) | ((with_reducible apply e_ow); · rfl) | with_reducible refine e_bl ?_ | with_reducible refine e_int ?_ | with_reducible refine e_lst ?_ | with_reducible refine e_tup ?_ | with_reducible refine e_seqL ?_ | with_reducible refine e_seqT ?_ | with_reducible refine e_zipL ?_ | with_reducible refine e_zipT ?_ | with_reducible refine w_partI ?_ | with_reducible refine w_iSeq ?_ | with_reducible refine w_iEnum ?_ | with_reducible refine w_new ?_ | with_reducible refine w_rev ?_ | with_reducible refine w_revT ?_ | with_reducible refine w_slice ?_ | with_reducible refine y_le ?_ | with_reducible refine y_lt ?_ | with_reducible refine y_ge ?_ | with_reducible refine y_gt ?_ | ((with_reducible apply x_ixT); · rfl) | ((with_reducible apply x_ixL); · rfl) | ((with_reducible apply e_at); · rfl) | ((with_reducible apply x_mul); · rfl) | ((with_reducible apply e_ix); · rfl) | ((with_reducible apply x_div); · decide) | ((with_reducible apply x_mod); · decide) | with_reducible refine w_lst ?_ | with_reducible refine w_tup ?_ | ((with_reducible apply e_cap); · exact Nat.le_of_ble_eq_true rfl) | ((with_reducible apply e_set); · (simp only [List.set_cons_zero, List.set_cons_succ]; rfl)) | ((with_reducible apply e_setL); (· rfl); (· (simp only [List.set_cons_zero, List.set_cons_succ]; rfl))) | ((with_reducible apply e_par); (· rfl); (· (simp only [List.set_cons_zero, List.set_cons_succ]; rfl))) | ((with_reducible apply e_par3); (· rfl); (· (simp only [List.set_cons_zero, List.set_cons_succ]; rfl))) | ((with_reducible apply e_pt); (· rfl); (· (simp only [List.set_cons_zero, List.set_cons_succ]; rfl))) | ((with_reducible apply e_pT); · (simp only [pTs, pN, List.length_cons, List.length_nil, List.set_cons_zero, List.set_cons_succ, Nat.reduceAdd, Nat.reduceLT, ite_true, Option.some.injEq]; rfl)))); rfl
    | dK _ _ => exact h.elim
    | dT _ _ => exact h.elim
    | lst xs =>
      (repeat' (first | ((with_reducible refine c_decT ?_ ?_); · first | decide | rfl) | ((with_reducible refine c_decF ?_ ?_); · decide) | (with_reducible refine ⟨_, law_kind_lst xs, ?_⟩) | with_reducible refine w_seq ?_ | ((with_reducible apply w_var); · rfl) | with_reducible refine w_setN ?_ | with_reducible refine w_snew ?_ | with_reducible refine w_C ?_ | with_reducible refine w_bin ?_ | with_reducible refine w_un ?_ | with_reducible refine w_isi ?_ | with_reducible refine w_isi2 ?_ | with_reducible refine w_chain ?_ | with_reducible refine w_if ?_ | with_reducible refine w_nil ?_ | with_reducible refine w_cons ?_ | with_reducible refine w_F ?_ | with_reducible refine w_Fb ?_ | with_reducible refine w_FN ?_ | with_reducible refine w_noPart ?_ | with_reducible refine w_slice ?_ | with_reducible refine w_val ?_ | with_reducible refine w_tAnd ?_ | with_reducible refine w_tOr ?_ | with_reducible refine w_tNot ?_ | with_reducible refine w_tYes ?_ | with_reducible refine w_and ?_ | with_reducible refine w_or ?_ | with_reducible refine w_not ?_ | with_reducible refine w_iRng ?_ | with_reducible refine w_iRngD ?_ | with_reducible refine w_iZip ?_ | with_reducible refine w_fr ?_ | with_reducible refine w_tupL ?_ | with_reducible refine w_im ?_ | with_reducible refine w_ow ?_ | with_reducible refine w_set ?_ | with_reducible refine w_par ?_ | with_reducible refine w_expr ?_ | with_reducible refine w_ret ?_ | with_reducible refine w_retN ?_ | with_reducible refine w_pass ?_ | with_reducible refine w_break ?_ | with_reducible refine w_cont ?_ | with_reducible refine w_seq ?_ | with_reducible refine w_sif ?_ | with_reducible refine x_add ?_ | with_reducible refine x_addI ?_ | with_reducible refine x_sub ?_ | with_reducible refine x_neg ?_ | with_reducible refine x_lt ?_ | with_reducible refine x_le ?_ | with_reducible refine x_gt ?_ | with_reducible refine x_ge ?_ | with_reducible refine x_eqS ?_ | with_reducible refine x_eq ?_ | with_reducible refine x_ne ?_ | with_reducible refine x_isN ?_ | with_reducible refine x_notN ?_ | with_reducible refine x_isB ?_ | with_reducible refine x_notB ?_ | with_reducible refine x_lenL ?_ | with_reducible refine x_lenT ?_ | with_reducible refine x_max2 ?_ | with_reducible refine x_min2 ?_ | with_reducible refine x_abs ?_ | with_reducible refine x_tupleL ?_ | with_reducible refine x_tupleT ?_ | with_reducible refine x_partL ?_ | with_reducible refine x_partT ?_ | with_reducible refine x_listL ?_ | with_reducible refine x_listT ?_ | with_reducible refine x_iii ?_ | with_reducible refine x_ibi ?_ | with_reducible refine x_iss ?_ | with_reducible refine x_itt ?_ | with_reducible refine x_ill ?_ | with_reducible refine c_true ?_ | with_reducible refine c_false ?_ | with_reducible refine c_nt ?_ | with_reducible refine c_nf ?_ | with_reducible refine c_not ?_ | ((with_reducible apply w_FI); · rfl) | ((with_reducible apply w_oIx); · rfl) | ((with_reducible apply w_oLen); · rfl) | ((with_reducible apply w_oBin); · rfl) | ((with_reducible apply w_consO); · rfl) | ((with_reducible apply w_aug); · rfl) | ((with_reducible apply w_app); · rfl) | ((with_reducible apply w_oset); · rfl) | ((with_reducible apply w_ext); · rfl) | ((with_reducible apply w_retO); · rfl) | ((with_reducible apply w_frz); · rfl) | ((with_reducible apply e_ow); · rfl) | with_reducible refine e_bl ?_ | with_reducible refine e_int ?_ | with_reducible refine e_lst ?_ | with_reducible refine e_tup ?_ | with_reducible refine e_seqL ?_ | with_reducible refine e_seqT ?_ | with_reducible refine e_zipL ?_ | with_reducible refine e_zipT ?_ | with_reducible refine w_partI ?_ | with_reducible refine w_iSeq ?_ | with_reducible refine w_iEnum ?_ | with_reducible refine w_new ?_ | with_reducible refine w_rev ?_ | with_reducible refine w_revT ?_ | with_reducible refine w_slice ?_ | with_reducible refine y_le ?_ | with_reducible refine y_lt ?_ | with_reducible refine y_ge ?_ | with_reducible refine y_gt ?_ | ((with_reducible apply x_ixT); · rfl) | ((with_reducible apply x_ixL); · rfl) | ((with_reducible apply e_at); · rfl) | ((with_reducible apply x_mul); · rfl) | ((with_reducible apply e_ix); · rfl) | ((with_reducible apply x_div); · decide) | ((with_reducible apply x_mod); · decide) | with_reducible refine w_lst ?_ | with_reducible refine w_tup ?_ | ((with_reducible apply e_cap); · exact Nat.le_of_ble_eq_true rfl) | ((with_reducible apply e_set); · (simp only [List.set_cons_zero, List.set_cons_succ]; rfl)) | ((with_reducible apply e_setL); (· rfl); (· (simp only [List.set_cons_zero, List.set_cons_succ]; rfl))) | ((with_reducible apply e_par); (· rfl); (· (simp only [List.set_cons_zero, List.set_cons_succ]; rfl))) | ((with_reducible apply e_par3); (· rfl); (· (simp only [List.set_cons_zero, List.set_cons_succ]; rfl))) | ((with_reducible apply e_pt); (· rfl); (· (simp only [List.set_cons_zero, List.set_cons_succ]; rfl))) | ((with_reducible apply e_pT); · (simp only [pTs, pN, List.length_cons, List.length_nil, List.set_cons_zero, List.set_cons_succ, Nat.reduceAdd, Nat.reduceLT, ite_true, Option.some.injEq]; rfl))))
      refine w_compP (fun _ => false) (fun _ => .non) ?_
      (repeat' (first | ((with_reducible refine c_decT ?_ ?_); · first | decide | rfl) | ((with_reducible refine c_decF ?_ ?_); · decide) | with_reducible refine w_seq ?_ | ((with_reducible apply w_var); · rfl) | with_reducible refine w_setN ?_ | with_reducible refine w_snew ?_ | with_reducible refine w_C ?_ | with_reducible refine w_bin ?_ | with_reducible refine w_un ?_ | with_reducible refine w_isi ?_ | with_reducible refine w_isi2 ?_ | with_reducible refine w_chain ?_ | with_reducible refine w_if ?_ | with_reducible refine w_nil ?_ | with_reducible refine w_cons ?_ | with_reducible refine w_F ?_ | with_reducible refine w_Fb ?_ | with_reducible refine w_FN ?_ | with_reducible refine w_noPart ?_ | with_reducible refine w_slice ?_ | with_reducible refine w_val ?_ | with_reducible refine w_tAnd ?_ | with_reducible refine w_tOr ?_ | with_reducible refine w_tNot ?_ | with_reducible refine w_tYes ?_ | with_reducible refine w_and ?_ | with_reducible refine w_or ?_ | with_reducible refine w_not ?_ | with_reducible refine w_iRng ?_ | with_reducible refine w_iRngD ?_ | with_reducible refine w_iZip ?_ | with_reducible refine w_fr ?_ | with_reducible refine w_tupL ?_ | with_reducible refine w_im ?_ | with_reducible refine w_ow ?_ | with_reducible refine w_set ?_ | with_reducible refine w_par ?_ | with_reducible refine w_expr ?_ | with_reducible refine w_ret ?_ | with_reducible refine w_retN ?_ | with_reducible refine w_pass ?_ | with_reducible refine w_break ?_ | with_reducible refine w_cont ?_ | with_reducible refine w_seq ?_ | with_reducible refine w_sif ?_ | with_reducible refine x_add ?_ | with_reducible refine x_addI ?_ | with_reducible refine x_sub ?_ | with_reducible refine x_neg ?_ | with_reducible refine x_lt ?_ | with_reducible refine x_le ?_ | with_reducible refine x_gt ?_ | with_reducible refine x_ge ?_ | with_reducible refine x_eqS ?_ | with_reducible refine x_eq ?_ | with_reducible refine x_ne ?_ | with_reducible refine x_isN ?_ | with_reducible refine x_notN ?_ | with_reducible refine x_isB ?_ | with_reducible refine x_notB ?_ | with_reducible refine x_lenL ?_ | with_reducible refine x_lenT ?_ | with_reducible refine x_max2 ?_ | with_reducible refine x_min2 ?_ | with_reducible refine x_abs ?_ | with_reducible refine x_tupleL ?_ | with_reducible refine x_tupleT ?_ | with_reducible refine x_partL ?_ | with_reducible refine x_partT ?_ | with_reducible refine x_listL ?_ | with_reducible refine x_listT ?_ | with_reducible refine x_iii ?_ | with_reducible refine x_ibi ?_ | with_reducible refine x_iss ?_ | with_reducible refine x_itt ?_ | with_reducible refine x_ill ?_ | with_reducible refine c_true ?_ | with_reducible refine c_false ?_ | with_reducible refine c_nt ?_ | with_reducible refine c_nf ?_ | with_reducible refine c_not ?_ | ((with_reducible apply w_FI); · rfl) | ((with_reducible apply w_oIx); · rfl) | ((with_reducible apply w_oLen); · rfl) | ((with_reducible apply w_oBin); · rfl) | ((with_reducible apply w_consO); · rfl) | ((with_reducible apply w_aug); · rfl) | ((with_reducible apply w_app); · rfl) | ((with_reducible apply w_oset); · rfl) | ((with_reducible apply w_ext); · rfl) | ((with_reducible apply w_retO); · rfl) | ((with_reducible apply w_frz); · rfl) | ((with_reducible apply e_ow); · rfl) | with_reducible refine e_bl ?_ | with_reducible refine e_int ?_ | with_reducible refine e_lst ?_ | with_reducible refine e_tup ?_ | with_reducible refine e_seqL ?_ | with_reducible refine e_seqT ?_ | with_reducible refine e_zipL ?_ | with_reducible refine e_zipT ?_ | with_reducible refine w_partI ?_ | with_reducible refine w_iSeq ?_ | with_reducible refine w_iEnum ?_ | with_reducible refine w_new ?_ | with_reducible refine w_rev ?_ | with_reducible refine w_revT ?_ | with_reducible refine w_slice ?_ | with_reducible refine y_le ?_ | with_reducible refine y_lt ?_ | with_reducible refine y_ge ?_ | with_reducible refine y_gt ?_ | ((with_reducible apply x_ixT); · rfl) | ((with_reducible apply x_ixL); · rfl) | ((with_reducible apply e_at); · rfl) | ((with_reducible apply x_mul); · rfl) | ((with_reducible apply e_ix); · rfl) | ((with_reducible apply x_div); · decide) | ((with_reducible apply x_mod); · decide) | with_reducible refine w_lst ?_ | with_reducible refine w_tup ?_ | ((with_reducible apply e_cap); · exact Nat.le_of_ble_eq_true rfl) | ((with_reducible apply e_set); · (simp only [List.set_cons_zero, List.set_cons_succ]; rfl)) | ((with_reducible apply e_setL); (· rfl); (· (simp only [List.set_cons_zero, List.set_cons_succ]; rfl))) | ((with_reducible apply e_par); (· rfl); (· (simp only [List.set_cons_zero, List.set_cons_succ]; rfl))) | ((with_reducible apply e_par3); (· rfl); (· (simp only [List.set_cons_zero, List.set_cons_succ]; rfl))) | ((with_reducible apply e_pt); (· rfl); (· (simp only [List.set_cons_zero, List.set_cons_succ]; rfl))) | ((with_reducible apply e_pT); · (simp only [pTs, pN, List.length_cons, List.length_nil, List.set_cons_zero, List.set_cons_succ, Nat.reduceAdd, Nat.reduceLT, ite_true, Option.some.injEq]; rfl))))
      refine ⟨by rw [len_enumD]; exact h.1, ?_, rfl, rfl, ?_⟩
      · intro d hd
        obtain ⟨k, x, rfl, hx⟩ := mem_enumD hd
        have hk : k < xs.length := by
          rcases Nat.lt_or_ge k xs.length with h1 | h1
          · exact h1
          · rw [List.getElem?_eq_none h1] at hx; cases hx
        have hw := h.2 x (List.mem_of_getElem? hx)
        refine ⟨_, rfl, rfl, rfl, ?_⟩
        (repeat' (first | ((with_reducible refine c_decT ?_ ?_); · first | decide | rfl) | ((with_reducible refine c_decF ?_ ?_); · decide) | with_reducible refine w_seq ?_ | ((with_reducible apply w_var); · rfl) | with_reducible refine w_setN ?_ | with_reducible refine w_snew ?_ | with_reducible refine w_C ?_ | with_reducible refine w_bin ?_ | with_reducible refine w_un ?_ | with_reducible refine w_isi ?_ | with_reducible refine w_isi2 ?_ | with_reducible refine w_chain ?_ | with_reducible refine w_if ?_ | with_reducible refine w_nil ?_ | with_reducible refine w_cons ?_ | with_reducible refine w_F ?_ | with_reducible refine w_Fb ?_ | with_reducible refine w_FN ?_ | with_reducible refine w_noPart ?_ | with_reducible refine w_slice ?_ | with_reducible refine w_val ?_ | with_reducible refine w_tAnd ?_ | with_reducible refine w_tOr ?_ | with_reducible refine w_tNot ?_ | with_reducible refine w_tYes ?_ | with_reducible refine w_and ?_ | with_reducible refine w_or ?_ | with_reducible refine w_not ?_ | with_reducible refine w_iRng ?_ | with_reducible refine w_iRngD ?_ | with_reducible refine w_iZip ?_ | with_reducible refine w_fr ?_ | with_reducible refine w_tupL ?_ | with_reducible refine w_im ?_ | with_reducible refine w_ow ?_ | with_reducible refine w_set ?_ | with_reducible refine w_par ?_ | with_reducible refine w_expr ?_ | with_reducible refine w_ret ?_ | with_reducible refine w_retN ?_ | with_reducible refine w_pass ?_ | with_reducible refine w_break ?_ | with_reducible refine w_cont ?_ | with_reducible refine w_seq ?_ | with_reducible refine w_sif ?_ | with_reducible refine x_add ?_ | with_reducible refine x_addI ?_ | with_reducible refine x_sub ?_ | with_reducible refine x_neg ?_ | with_reducible refine x_lt ?_ | with_reducible refine x_le ?_ | with_reducible refine x_gt ?_ | with_reducible refine x_ge ?_ | with_reducible refine x_eqS ?_ | with_reducible refine x_eq ?_ | with_reducible refine x_ne ?_ | with_reducible refine x_isN ?_ | with_reducible refine x_notN ?_ | with_reducible refine x_isB ?_ | with_reducible refine x_notB ?_ | with_reducible refine x_lenL ?_ | with_reducible refine x_lenT ?_ | with_reducible refine x_max2 ?_ | with_reducible refine x_min2 ?_ | with_reducible refine x_abs ?_ | with_reducible refine x_tupleL ?_ | with_reducible refine x_tupleT ?_ | with_reducible refine x_partL ?_ | with_reducible refine x_partT ?_ | with_reducible refine x_listL ?_ | with_reducible refine x_listT ?_ | with_reducible refine x_iii ?_ | with_reducible refine x_ibi ?_ | with_reducible refine x_iss ?_ | with_reducible refine x_itt ?_ | with_reducible refine x_ill ?_ | with_reducible refine c_true ?_ | with_reducible refine c_false ?_ | with_reducible refine c_nt ?_ | with_reducible refine c_nf ?_ | with_reducible refine c_not ?_ | ((with_reducible apply w_FI); · rfl) | ((with_reducible apply w_oIx); · rfl) | ((with_reducible apply w_oLen); · rfl) | ((with_reducible apply w_oBin); · rfl) | ((with_reducible apply w_consO); · rfl) | ((with_reducible apply w_aug); · rfl) | ((with_reducible apply w_app); · rfl) | ((with_reducible apply w_oset); · rfl) | ((with_reducible apply w_ext); · rfl) | ((with_reducible apply w_retO); · rfl) | ((with_reducible apply w_frz); · rfl) | ((with_reducible apply e_ow); · rfl) | with_reducible refine e_bl ?_ | with_reducible refine e_int ?_ | with_reducible refine e_lst ?_ | with_reducible refine e_tup ?_ | with_reducible refine e_seqL ?_ | with_reducible refine e_seqT ?_ | with_reducible refine e_zipL ?_ | with_reducible refine e_zipT ?_ | with_reducible refine w_partI ?_ | with_reducible refine w_iSeq ?_ | with_reducible refine w_iEnum ?_ | with_reducible refine w_new ?_ | with_reducible refine w_rev ?_ | with_reducible refine w_revT ?_ | with_reducible refine w_slice ?_ | with_reducible refine y_le ?_ | with_reducible refine y_lt ?_ | with_reducible refine y_ge ?_ | with_reducible refine y_gt ?_ | ((with_reducible apply x_ixT); · rfl) | ((with_reducible apply x_ixL); · rfl) | ((with_reducible apply e_at); · rfl) | ((with_reducible apply x_mul); · rfl) | ((with_reducible apply e_ix); · rfl) | ((with_reducible apply x_div); · decide) | ((with_reducible apply x_mod); · decide) | with_reducible refine w_lst ?_ | with_reducible refine w_tup ?_ | ((with_reducible apply e_cap); · exact Nat.le_of_ble_eq_true rfl) | ((with_reducible apply e_set); · (simp only [List.set_cons_zero, List.set_cons_succ]; rfl)) | ((with_reducible apply e_setL); (· rfl); (· (simp only [List.set_cons_zero, List.set_cons_succ]; rfl))) | ((with_reducible apply e_par); (· rfl); (· (simp only [List.set_cons_zero, List.set_cons_succ]; rfl))) | ((with_reducible apply e_par3); (· rfl); (· (simp only [List.set_cons_zero, List.set_cons_succ]; rfl))) | ((with_reducible apply e_pt); (· rfl); (· (simp only [List.set_cons_zero, List.set_cons_succ]; rfl))) | ((with_reducible apply e_pT); · (simp only [pTs, pN, List.length_cons, List.length_nil, List.set_cons_zero, List.set_cons_succ, Nat.reduceAdd, Nat.reduceLT, ite_true, Option.some.injEq]; rfl))))
        refine x_ixL (at_nat (by omega) (d := x) (by simpa using hx)) ?_
        (repeat' (first | ((with_reducible refine c_decT ?_ ?_); · first | decide | rfl) | ((with_reducible refine c_decF ?_ ?_); · decide) | with_reducible refine w_seq ?_ | ((with_reducible apply w_var); · rfl) | with_reducible refine w_setN ?_ | with_reducible refine w_snew ?_ | with_reducible refine w_C ?_ | with_reducible refine w_bin ?_ | with_reducible refine w_un ?_ | with_reducible refine w_isi ?_ | with_reducible refine w_isi2 ?_ | with_reducible refine w_chain ?_ | with_reducible refine w_if ?_ | with_reducible refine w_nil ?_ | with_reducible refine w_cons ?_ | with_reducible refine w_F ?_ | with_reducible refine w_Fb ?_ | with_reducible refine w_FN ?_ | with_reducible refine w_noPart ?_ | with_reducible refine w_slice ?_ | with_reducible refine w_val ?_ | with_reducible refine w_tAnd ?_ | with_reducible refine w_tOr ?_ | with_reducible refine w_tNot ?_ | with_reducible refine w_tYes ?_ | with_reducible refine w_and ?_ | with_reducible refine w_or ?_ | with_reducible refine w_not ?_ | with_reducible refine w_iRng ?_ | with_reducible refine w_iRngD ?_ | with_reducible refine w_iZip ?_ | with_reducible refine w_fr ?_ | with_reducible refine w_tupL ?_ | with_reducible refine w_im ?_ | with_reducible refine w_ow ?_ | with_reducible refine w_set ?_ | with_reducible refine w_par ?_ | with_reducible refine w_expr ?_ | with_reducible refine w_ret ?_ | with_reducible refine w_retN ?_ | with_reducible refine w_pass ?_ | with_reducible refine w_break ?_ | with_reducible refine w_cont ?_ | with_reducible refine w_seq ?_ | with_reducible refine w_sif ?_ | with_reducible refine x_add ?_ | with_reducible refine x_addI ?_ | with_reducible refine x_sub ?_ | with_reducible refine x_neg ?_ | with_reducible refine x_lt ?_ | with_reducible refine x_le ?_ | with_reducible refine x_gt ?_ | with_reducible refine x_ge ?_ | with_reducible refine x_eqS ?_ | with_reducible refine x_eq ?_ | with_reducible refine x_ne ?_ | with_reducible refine x_isN ?_ | with_reducible refine x_notN ?_ | with_reducible refine x_isB ?_ | with_reducible refine x_notB ?_ | with_reducible refine x_lenL ?_ | with_reducible refine x_lenT ?_ | with_reducible refine x_max2 ?_ | with_reducible refine x_min2 ?_ | with_reducible refine x_abs ?_ | with_reducible refine x_tupleL ?_ | with_reducible refine x_tupleT ?_ | with_reducible refine x_partL ?_ | with_reducible refine x_partT ?_ | with_reducible refine x_listL ?_ | with_reducible refine x_listT ?_ | with_reducible refine x_iii ?_ | with_reducible refine x_ibi ?_ | with_reducible refine x_iss ?_ | with_reducible refine x_itt ?_ | with_reducible refine x_ill ?_ | with_reducible refine c_true ?_ | with_reducible refine c_false ?_ | with_reducible refine c_nt ?_ | with_reducible refine c_nf ?_ | with_reducible refine c_not ?_ | ((with_reducible apply w_FI); · rfl) | ((with_reducible apply w_oIx); · rfl) | ((with_reducible apply w_oLen); · rfl) | ((with_reducible apply w_oBin); · rfl) | ((with_reducible apply w_consO); · rfl) | ((with_reducible apply w_aug); · rfl) | ((with_reducible apply w_app); · rfl) | ((with_reducible apply w_oset); · rfl) | ((with_reducible apply w_ext); · rfl) | ((with_reducible apply w_retO); · rfl) | ((with_reducible apply w_frz); · rfl) | ((with_reducible apply e_ow); · rfl) | with_reducible refine e_bl ?_ | with_reducible refine e_int ?_ | with_reducible refine e_lst ?_ | with_reducible refine e_tup ?_ | with_reducible refine e_seqL ?_ | with_reducible refine e_seqT ?_ | with_reducible refine e_zipL ?_ | with_reducible refine e_zipT ?_ | with_reducible refine w_partI ?_ | with_reducible refine w_iSeq ?_ | with_reducible refine w_iEnum ?_ | with_reducible refine w_new ?_ | with_reducible refine w_rev ?_ | with_reducible refine w_revT ?_ | with_reducible refine w_slice ?_ | with_reducible refine y_le ?_ | with_reducible refine y_lt ?_ | with_reducible refine y_ge ?_ | with_reducible refine y_gt ?_ | ((with_reducible apply x_ixT); · rfl) | ((with_reducible apply x_ixL); · rfl) | ((with_reducible apply e_at); · rfl) | ((with_reducible apply x_mul); · rfl) | ((with_reducible apply e_ix); · rfl) | ((with_reducible apply x_div); · decide) | ((with_reducible apply x_mod); · decide) | with_reducible refine w_lst ?_ | with_reducible refine w_tup ?_ | ((with_reducible apply e_cap); · exact Nat.le_of_ble_eq_true rfl) | ((with_reducible apply e_set); · (simp only [List.set_cons_zero, List.set_cons_succ]; rfl)) | ((with_reducible apply e_setL); (· rfl); (· (simp only [List.set_cons_zero, List.set_cons_succ]; rfl))) | ((with_reducible apply e_par); (· rfl); (· (simp only [List.set_cons_zero, List.set_cons_succ]; rfl))) | ((with_reducible apply e_par3); (· rfl); (· (simp only [List.set_cons_zero, List.set_cons_succ]; rfl))) | ((with_reducible apply e_pt); (· rfl); (· (simp only [List.set_cons_zero, List.set_cons_succ]; rfl))) | ((with_reducible apply e_pT); · (simp only [pTs, pN, List.length_cons, List.length_nil, List.set_cons_zero, List.set_cons_succ, Nat.reduceAdd, Nat.reduceLT, ite_true, Option.some.injEq]; rfl))))
        refine ⟨_, ih (by omega) hw, ?_⟩
        (repeat' (first | ((with_reducible refine c_decT ?_ ?_); · first | decide | rfl) | ((with_reducible refine c_decF ?_ ?_); · decide) | with_reducible refine w_seq ?_ | ((with_reducible apply w_var); · rfl) | with_reducible refine w_setN ?_ | with_reducible refine w_snew ?_ | with_reducible refine w_C ?_ | with_reducible refine w_bin ?_ | with_reducible refine w_un ?_ | with_reducible refine w_isi ?_ | with_reducible refine w_isi2 ?_ | with_reducible refine w_chain ?_ | with_reducible refine w_if ?_ | with_reducible refine w_nil ?_ | with_reducible refine w_cons ?_ | with_reducible refine w_F ?_ | with_reducible refine w_Fb ?_ | with_reducible refine w_FN ?_ | with_reducible refine w_noPart ?_ | with_reducible refine w_slice ?_ | with_reducible refine w_val ?_ | with_reducible refine w_tAnd ?_ | with_reducible refine w_tOr ?_ | with_reducible refine w_tNot ?_ | with_reducible refine w_tYes ?_ | with_reducible refine w_and ?_ | with_reducible refine w_or ?_ | with_reducible refine w_not ?_ | with_reducible refine w_iRng ?_ | with_reducible refine w_iRngD ?_ | with_reducible refine w_iZip ?_ | with_reducible refine w_fr ?_ | with_reducible refine w_tupL ?_ | with_reducible refine w_im ?_ | with_reducible refine w_ow ?_ | with_reducible refine w_set ?_ | with_reducible refine w_par ?_ | with_reducible refine w_expr ?_ | with_reducible refine w_ret ?_ | with_reducible refine w_retN ?_ | with_reducible refine w_pass ?_ | with_reducible refine w_break ?_ | with_reducible refine w_cont ?_ | with_reducible refine w_seq ?_ | with_reducible refine w_sif ?_ | with_reducible refine x_add ?_ | with_reducible refine x_addI ?_ | with_reducible refine x_sub ?_ | with_reducible refine x_neg ?_ | with_reducible refine x_lt ?_ | with_reducible refine x_le ?_ | with_reducible refine x_gt ?_ | with_reducible refine x_ge ?_ | with_reducible refine x_eqS ?_ | with_reducible refine x_eq ?_ | with_reducible refine x_ne ?_ | with_reducible refine x_isN ?_ | with_reducible refine x_notN ?_ | with_reducible refine x_isB ?_ | with_reducible refine x_notB ?_ | with_reducible refine x_lenL ?_ | with_reducible refine x_lenT ?_ | with_reducible refine x_max2 ?_ | with_reducible refine x_min2 ?_ | with_reducible refine x_abs ?_ | with_reducible refine x_tupleL ?_ | with_reducible refine x_tupleT ?_ | with_reducible refine x_partL ?_ | with_reducible refine x_partT ?_ | with_reducible refine x_listL ?_ | with_reducible refine x_listT ?_ | with_reducible refine x_iii ?_ | with_reducible refine x_ibi ?_ | with_reducible refine x_iss ?_ | with_reducible refine x_itt ?_ | with_reducible refine x_ill ?_ | with_reducible refine c_true ?_ | with_reducible refine c_false ?_ | with_reducible refine c_nt ?_ | with_reducible refine c_nf ?_ | with_reducible refine c_not ?_ | ((with_reducible apply w_FI); · rfl) | ((with_reducible apply w_oIx); · rfl) | ((with_reducible apply w_oLen); · rfl) | ((with_reducible apply w_oBin); · rfl) | ((with_reducible apply w_consO); · rfl) | ((with_reducible apply w_aug); · rfl) | ((with_reducible apply w_app); · rfl) | ((with_reducible apply w_oset); · rfl) | ((with_reducible apply w_ext); · rfl) | ((with_reducible apply w_retO); · rfl) | ((with_reducible apply w_frz); · rfl) | ((with_reducible apply e_ow); · rfl) | with_reducible refine e_bl ?_ | with_reducible refine e_int ?_ | with_reducible refine e_lst ?_ | with_reducible refine e_tup ?_ | with_reducible refine e_seqL ?_ | with_reducible refine e_seqT ?_ | with_reducible refine e_zipL ?_ | with_reducible refine e_zipT ?_ | with_reducible refine w_partI ?_ | with_reducible refine w_iSeq ?_ | with_reducible refine w_iEnum ?_ | with_reducible refine w_new ?_ | with_reducible refine w_rev ?_ | with_reducible refine w_revT ?_ | with_reducible refine w_slice ?_ | with_reducible refine y_le ?_ | with_reducible refine y_lt ?_ | with_reducible refine y_ge ?_ | with_reducible refine y_gt ?_ | ((with_reducible apply x_ixT); · rfl) | ((with_reducible apply x_ixL); · rfl) | ((with_reducible apply e_at); · rfl) | ((with_reducible apply x_mul); · rfl) | ((with_reducible apply e_ix); · rfl) | ((with_reducible apply x_div); · decide) | ((with_reducible apply x_mod); · decide) | with_reducible refine w_lst ?_ | with_reducible refine w_tup ?_ | ((with_reducible apply e_cap); · exact Nat.le_of_ble_eq_true rfl) | ((with_reducible apply e_set); · (simp only [List.set_cons_zero, List.set_cons_succ]; rfl)) | ((with_reducible apply e_setL); (· rfl); (· (simp only [List.set_cons_zero, List.set_cons_succ]; rfl))) | ((with_reducible apply e_par); (· rfl); (· (simp only [List.set_cons_zero, List.set_cons_succ]; rfl))) | ((with_reducible apply e_par3); (· rfl); (· (simp only [List.set_cons_zero, List.set_cons_succ]; rfl))) | ((with_reducible apply e_pt); (· rfl); (· (simp only [List.set_cons_zero, List.set_cons_succ]; rfl))) | ((with_reducible apply e_pT); · (simp only [pTs, pN, List.length_cons, List.length_nil, List.set_cons_zero, List.set_cons_succ, Nat.reduceAdd, Nat.reduceLT, ite_true, Option.some.injEq]; rfl))))
        exact ⟨rfl, rfl, fun z => nomatch z⟩
      · (repeat' (first | ((with_reducible refine c_decT ?_ ?_); · first | decide | rfl) | ((with_reducible refine c_decF ?_ ?_); · decide) | with_reducible refine w_seq ?_ | ((with_reducible apply w_var); · rfl) | with_reducible refine w_setN ?_ | with_reducible refine w_snew ?_ | with_reducible refine w_C ?_ | with_reducible refine w_bin ?_ | with_reducible refine w_un ?_ | with_reducible refine w_isi ?_ | with_reducible refine w_isi2 ?_ | with_reducible refine w_chain ?_ | with_reducible refine w_if ?_ | with_reducible refine w_nil ?_ | with_reducible refine w_cons ?_ | with_reducible refine w_F ?_ | with_reducible refine w_Fb ?_ | with_reducible refine w_FN ?_ | with_reducible refine w_noPart ?_ | with_reducible refine w_slice ?_ | with_reducible refine w_val ?_ | with_reducible refine w_tAnd ?_ | with_reducible refine w_tOr ?_ | with_reducible refine w_tNot ?_ | with_reducible refine w_tYes ?_ | with_reducible refine w_and ?_ | with_reducible refine w_or ?_ | with_reducible refine w_not ?_ | with_reducible refine w_iRng ?_ | with_reducible refine w_iRngD ?_ | with_reducible refine w_iZip ?_ | with_reducible refine w_fr ?_ | with_reducible refine w_tupL ?_ | with_reducible refine w_im ?_ | with_reducible refine w_ow ?_ | with_reducible refine w_set ?_ | with_reducible refine w_par ?_ | with_reducible refine w_expr ?_ | with_reducible refine w_ret ?_ | with_reducible refine w_retN ?_ | with_reducible refine w_pass ?_ | with_reducible refine w_break ?_ | with_reducible refine w_cont ?_ | with_reducible refine w_seq ?_ | with_reducible refine w_sif ?_ | with_reducible refine x_add ?_ | with_reducible refine x_addI ?_ | with_reducible refine x_sub ?_ | with_reducible refine x_neg ?_ | with_reducible refine x_lt ?_ | with_reducible refine x_le ?_ | with_reducible refine x_gt ?_ | with_reducible refine x_ge ?_ | with_reducible refine x_eqS ?_ | with_reducible refine x_eq ?_ | with_reducible refine x_ne ?_ | with_reducible refine x_isN ?_ | with_reducible refine x_notN ?_ | with_reducible refine x_isB ?_ | with_reducible refine x_notB ?_ | with_reducible refine x_lenL ?_ | with_reducible refine x_lenT ?_ | with_reducible refine x_max2 ?_ | with_reducible refine x_min2 ?_ | with_reducible refine x_abs ?_ | with_reducible refine x_tupleL ?_ | with_reducible refine x_tupleT ?_ | with_reducible refine x_partL ?_ | with_reducible refine x_partT ?_ | with_reducible refine x_listL ?_ | with_reducible refine x_listT ?_ | with_reducible refine x_iii ?_ | with_reducible refine x_ibi ?_ | with_reducible refine x_iss ?_ | with_reducible refine x_itt ?_ | with_reducible refine x_ill ?_ | with_reducible refine c_true ?_ | with_reducible refine c_false ?_ | with_reducible refine c_nt ?_ | with_reducible refine c_nf ?_ | with_reducible refine c_not ?_ | ((with_reducible apply w_FI); · rfl) | ((with_reducible apply w_oIx); · rfl) | ((with_reducible apply w_oLen); · rfl) | ((with_reducible apply w_oBin); · rfl) | ((with_reducible apply w_consO); · rfl) | ((with_reducible apply w_aug); · rfl) | ((with_reducible apply w_app); · rfl) | ((with_reducible apply w_oset); · rfl) | ((with_reducible apply w_ext); · rfl) | ((with_reducible apply w_retO); · rfl) | ((with_reducible apply w_frz); · rfl) | ((with_reducible apply e_ow); · rfl) | with_reducible refine e_bl ?_ | with_reducible refine e_int ?_ | with_reducible refine e_lst ?_ | with_reducible refine e_tup ?_ | with_reducible refine e_seqL ?_ | with_reducible refine e_seqT ?_ | with_reducible refine e_zipL ?_ | with_reducible refine e_zipT ?_ | with_reducible refine w_partI ?_ | with_reducible refine w_iSeq ?_ | with_reducible refine w_iEnum ?_ | with_reducible refine w_new ?_ | with_reducible refine w_rev ?_ | with_reducible refine w_revT ?_ | with_reducible refine w_slice ?_ | with_reducible refine y_le ?_ | with_reducible refine y_lt ?_ | with_reducible refine y_ge ?_ | with_reducible refine y_gt ?_ | ((with_reducible apply x_ixT); · rfl) | ((with_reducible apply x_ixL); · rfl) | ((with_reducible apply e_at); · rfl) | ((with_reducible apply x_mul); · rfl) | ((with_reducible apply e_ix); · rfl) | ((with_reducible apply x_div); · decide) | ((with_reducible apply x_mod); · decide) | with_reducible refine w_lst ?_ | with_reducible refine w_tup ?_ | ((with_reducible apply e_cap); · exact Nat.le_of_ble_eq_true rfl) | ((with_reducible apply e_set); · (simp only [List.set_cons_zero, List.set_cons_succ]; rfl)) | ((with_reducible apply e_setL); (· rfl); (· (simp only [List.set_cons_zero, List.set_cons_succ]; rfl))) | ((with_reducible apply e_par); (· rfl); (· (simp only [List.set_cons_zero, List.set_cons_succ]; rfl))) | ((with_reducible apply e_par3); (· rfl); (· (simp only [List.set_cons_zero, List.set_cons_succ]; rfl))) | ((with_reducible apply e_pt); (· rfl); (· (simp only [List.set_cons_zero, List.set_cons_succ]; rfl))) | ((with_reducible apply e_pT); · (simp only [pTs, pN, List.length_cons, List.length_nil, List.set_cons_zero, List.set_cons_succ, Nat.reduceAdd, Nat.reduceLT, ite_true, Option.some.injEq]; rfl))))
        rw [List.filter_eq_nil_iff.mpr (fun _ _ => Bool.false_ne_true)]
        (repeat' (first | ((with_reducible refine c_decT ?_ ?_); · first | decide | rfl) | ((with_reducible refine c_decF ?_ ?_); · decide) | with_reducible refine w_seq ?_ | ((with_reducible apply w_var); · rfl) | with_reducible refine w_setN ?_ | with_reducible refine w_snew ?_ | with_reducible refine w_C ?_ | with_reducible refine w_bin ?_ | with_reducible refine w_un ?_ | with_reducible refine w_isi ?_ | with_reducible refine w_isi2 ?_ | with_reducible refine w_chain ?_ | with_reducible refine w_if ?_ | with_reducible refine w_nil ?_ | with_reducible refine w_cons ?_ | with_reducible refine w_F ?_ | with_reducible refine w_Fb ?_ | with_reducible refine w_FN ?_ | with_reducible refine w_noPart ?_ | with_reducible refine w_slice ?_ | with_reducible refine w_val ?_ | with_reducible refine w_tAnd ?_ | with_reducible refine w_tOr ?_ | with_reducible refine w_tNot ?_ | with_reducible refine w_tYes ?_ | with_reducible refine w_and ?_ | with_reducible refine w_or ?_ | with_reducible refine w_not ?_ | with_reducible refine w_iRng ?_ | with_reducible refine w_iRngD ?_ | with_reducible refine w_iZip ?_ | with_reducible refine w_fr ?_ | with_reducible refine w_tupL ?_ | with_reducible refine w_im ?_ | with_reducible refine w_ow ?_ | with_reducible refine w_set ?_ | with_reducible refine w_par ?_ | with_reducible refine w_expr ?_ | with_reducible refine w_ret ?_ | with_reducible refine w_retN ?_ | with_reducible refine w_pass ?_ | with_reducible refine w_break ?_ | with_reducible refine w_cont ?_ | with_reducible refine w_seq ?_ | with_reducible refine w_sif ?_ | with_reducible refine x_add ?_ | with_reducible refine x_addI ?_ | with_reducible refine x_sub ?_ | with_reducible refine x_neg ?_ | with_reducible refine x_lt ?_ | with_reducible refine x_le ?_ | with_reducible refine x_gt ?_ | with_reducible refine x_ge ?_ | with_reducible refine x_eqS ?_ | with_reducible refine x_eq ?_ | with_reducible refine x_ne ?_ | with_reducible refine x_isN ?_ | with_reducible refine x_notN ?_ | with_reducible refine x_isB ?_ | with_reducible refine x_notB ?_ | with_reducible refine x_lenL ?_ | with_reducible refine x_lenT ?_ | with_reducible refine x_max2 ?_ | with_reducible refine x_min2 ?_ | with_reducible refine x_abs ?_ | with_reducible refine x_tupleL ?_ | with_reducible refine x_tupleT ?_ | with_reducible refine x_partL ?_ | with_reducible refine x_partT ?_ | with_reducible refine x_listL ?_ | with_reducible refine x_listT ?_ | with_reducible refine x_iii ?_ | with_reducible refine x_ibi ?_ | with_reducible refine x_iss ?_ | with_reducible refine x_itt ?_ | with_reducible refine x_ill ?_ | with_reducible refine c_true ?_ | with_reducible refine c_false ?_ | with_reducible refine c_nt ?_ | with_reducible refine c_nf ?_ | with_reducible refine c_not ?_ | ((with_reducible apply w_FI); · rfl) | ((with_reducible apply w_oIx); · rfl) | ((with_reducible apply w_oLen); · rfl) | ((with_reducible apply w_oBin); · rfl) | ((with_reducible apply w_consO); · rfl) | ((with_reducible apply w_aug); · rfl) | ((with_reducible apply w_app); · rfl) | ((with_reducible apply w_oset); · rfl) | ((with_reducible apply w_ext); · rfl) | ((with_reducible apply w_retO); · rfl) | ((with_reducible apply w_frz); · rfl) | ((with_reducible apply e_ow); · rfl) | with_reducible refine e_bl ?_ | with_reducible refine e_int ?_ | with_reducible refine e_lst ?_ | with_reducible refine e_tup ?_ | with_reducible refine e_seqL ?_ | with_reducible refine e_seqT ?_ | with_reducible refine e_zipL ?_ | with_reducible refine e_zipT ?_ | with_reducible refine w_partI ?_ | with_reducible refine w_iSeq ?_ | with_reducible refine w_iEnum ?_ | with_reducible refine w_new ?_ | with_reducible refine w_rev ?_ | with_reducible refine w_revT ?_ | with_reducible refine w_slice ?_ | with_reducible refine y_le ?_ | with_reducible refine y_lt ?_ | with_reducible refine y_ge ?_ | with_reducible refine y_gt ?_ | ((with_reducible apply x_ixT); · rfl) | ((with_reducible apply x_ixL); · rfl) | ((with_reducible apply e_at); · rfl) | ((with_reducible apply x_mul); · rfl) | ((with_reducible apply e_ix); · rfl) | ((with_reducible apply x_div); · decide) | ((with_reducible apply x_mod); · decide) | with_reducible refine w_lst ?_ | with_reducible refine w_tup ?_ | ((with_reducible apply e_cap); · exact Nat.le_of_ble_eq_true rfl) | ((with_reducible apply e_set); · (simp only [List.set_cons_zero, List.set_cons_succ]; rfl)) | ((with_reducible apply e_setL); (· rfl); (· (simp only [List.set_cons_zero, List.set_cons_succ]; rfl))) | ((with_reducible apply e_par); (· rfl); (· (simp only [List.set_cons_zero, List.set_cons_succ]; rfl))) | ((with_reducible apply e_par3); (· rfl); (· (simp only [List.set_cons_zero, List.set_cons_succ]; rfl))) | ((with_reducible apply e_pt); (· rfl); (· (simp only [List.set_cons_zero, List.set_cons_succ]; rfl))) | ((with_reducible apply e_pT); · (simp only [pTs, pN, List.length_cons, List.length_nil, List.set_cons_zero, List.set_cons_succ, Nat.reduceAdd, Nat.reduceLT, ite_true, Option.some.injEq]; rfl))))
        refine x_eqR (n := 1) ⟨by decide, fun x hx => nomatch hx⟩ (by omega) ?_
        rfl
    | tup xs =>
      (repeat' (first | ((with_reducible refine c_decT ?_ ?_); · first | decide | rfl) | ((with_reducible refine c_decF ?_ ?_); · decide) | (with_reducible refine ⟨_, law_kind_tup xs, ?_⟩) | with_reducible refine w_seq ?_ | ((with_reducible apply w_var); · rfl) | with_reducible refine w_setN ?_ | with_reducible refine w_snew ?_ | with_reducible refine w_C ?_ | with_reducible refine w_bin ?_ | with_reducible refine w_un ?_ | with_reducible refine w_isi ?_ | with_reducible refine w_isi2 ?_ | with_reducible refine w_chain ?_ | with_reducible refine w_if ?_ | with_reducible refine w_nil ?_ | with_reducible refine w_cons ?_ | with_reducible refine w_F ?_ | with_reducible refine w_Fb ?_ | with_reducible refine w_FN ?_ | with_reducible refine w_noPart ?_ | with_reducible refine w_slice ?_ | with_reducible refine w_val ?_ | with_reducible refine w_tAnd ?_ | with_reducible refine w_tOr ?_ | with_reducible refine w_tNot ?_ | with_reducible refine w_tYes ?_ | with_reducible refine w_and ?_ | with_reducible refine w_or ?_ | with_reducible refine w_not ?_ | with_reducible refine w_iRng ?_ | with_reducible refine w_iRngD ?_ | with_reducible refine w_iZip ?_ | with_reducible refine w_fr ?_ | with_reducible refine w_tupL ?_ | with_reducible refine w_im ?_ | with_reducible refine w_ow ?_ | with_reducible refine w_set ?_ | with_reducible refine w_par ?_ | with_reducible refine w_expr ?_ | with_reducible refine w_ret ?_ | with_reducible refine w_retN ?_ | with_reducible refine w_pass ?_ | with_reducible refine w_break ?_ | with_reducible refine w_cont ?_ | with_reducible refine w_seq ?_ | with_reducible refine w_sif ?_ | with_reducible refine x_add ?_ | with_reducible refine x_addI ?_ | with_reducible refine x_sub ?_ | with_reducible refine x_neg ?_ | with_reducible refine x_lt ?_ | with_reducible refine x_le ?_ | with_reducible refine x_gt ?_ | with_reducible refine x_ge ?_ | with_reducible refine x_eqS ?_ | with_reducible refine x_eq ?_ | with_reducible refine x_ne ?_ | with_reducible refine x_isN ?_ | with_reducible refine x_notN ?_ | with_reducible refine x_isB ?_ | with_reducible refine x_notB ?_ | with_reducible refine x_lenL ?_ | with_reducible refine x_lenT ?_ | with_reducible refine x_max2 ?_ | with_reducible refine x_min2 ?_ | with_reducible refine x_abs ?_ | with_reducible refine x_tupleL ?_ | with_reducible refine x_tupleT ?_ | with_reducible refine x_partL ?_ | with_reducible refine x_partT ?_ | with_reducible refine x_listL ?_ | with_reducible refine x_listT ?_ | with_reducible refine x_iii ?_ | with_reducible refine x_ibi ?_ | with_reducible refine x_iss ?_ | with_reducible refine x_itt ?_ | with_reducible refine x_ill ?_ | with_reducible refine c_true ?_ | with_reducible refine c_false ?_ | with_reducible refine c_nt ?_ | with_reducible refine c_nf ?_ | with_reducible refine c_not ?_ | ((with_reducible apply w_FI); · rfl) | ((with_reducible apply w_oIx); · rfl) | ((with_reducible apply w_oLen); · rfl) | ((with_reducible apply w_oBin); · rfl) | ((with_reducible apply w_consO); · rfl) | ((with_reducible apply w_aug); · rfl) | ((with_reducible apply w_app); · rfl) | ((with_reducible apply w_oset); · rfl) | ((with_reducible apply w_ext); · rfl) | ((with_reducible apply w_retO); · rfl) | ((with_reducible apply w_frz); · rfl) | ((with_reducible apply e_ow); · rfl) | with_reducible refine e_bl ?_ | with_reducible refine e_int ?_ | with_reducible refine e_lst ?_ | with_reducible refine e_tup ?_ | with_reducible refine e_seqL ?_ | with_reducible refine e_seqT ?_ | with_reducible refine e_zipL ?_ | with_reducible refine e_zipT ?_ | with_reducible refine w_partI ?_ | with_reducible refine w_iSeq ?_ | with_reducible refine w_iEnum ?_ | with_reducible refine w_new ?_ | with_reducible refine w_rev ?_ | with_reducible refine w_revT ?_ | with_reducible refine w_slice ?_ | with_reducible refine y_le ?_ | with_reducible refine y_lt ?_ | with_reducible refine y_ge ?_ | with_reducible refine y_gt ?_ | ((with_reducible apply x_ixT); · rfl) | ((with_reducible apply x_ixL); · rfl) | ((with_reducible apply e_at); · rfl) | ((with_reducible apply x_mul); · rfl) | ((with_reducible apply e_ix); · rfl) | ((with_reducible apply x_div); · decide) | ((with_reducible apply x_mod); · decide) | with_reducible refine w_lst ?_ | with_reducible refine w_tup ?_ | ((with_reducible apply e_cap); · exact Nat.le_of_ble_eq_true rfl) | ((with_reducible apply e_set); · (simp only [List.set_cons_zero, List.set_cons_succ]; rfl)) | ((with_reducible apply e_setL); (· rfl); (· (simp only [List.set_cons_zero, List.set_cons_succ]; rfl))) | ((with_reducible apply e_par); (· rfl); (· (simp only [List.set_cons_zero, List.set_cons_succ]; rfl))) | ((with_reducible apply e_par3); (· rfl); (· (simp only [List.set_cons_zero, List.set_cons_succ]; rfl))) | ((with_reducible apply e_pt); (· rfl); (· (simp only [List.set_cons_zero, List.set_cons_succ]; rfl))) | ((with_reducible apply e_pT); · (simp only [pTs, pN, List.length_cons, List.length_nil, List.set_cons_zero, List.set_cons_succ, Nat.reduceAdd, Nat.reduceLT, ite_true, Option.some.injEq]; rfl))))
      refine w_compP (fun _ => false) (fun _ => .non) ?_
      (repeat' (first | ((with_reducible refine c_decT ?_ ?_); · first | decide | rfl) | ((with_reducible refine c_decF ?_ ?_); · decide) | with_reducible refine w_seq ?_ | ((with_reducible apply w_var); · rfl) | with_reducible refine w_setN ?_ | with_reducible refine w_snew ?_ | with_reducible refine w_C ?_ | with_reducible refine w_bin ?_ | with_reducible refine w_un ?_ | with_reducible refine w_isi ?_ | with_reducible refine w_isi2 ?_ | with_reducible refine w_chain ?_ | with_reducible refine w_if ?_ | with_reducible refine w_nil ?_ | with_reducible refine w_cons ?_ | with_reducible refine w_F ?_ | with_reducible refine w_Fb ?_ | with_reducible refine w_FN ?_ | with_reducible refine w_noPart ?_ | with_reducible refine w_slice ?_ | with_reducible refine w_val ?_ | with_reducible refine w_tAnd ?_ | with_reducible refine w_tOr ?_ | with_reducible refine w_tNot ?_ | with_reducible refine w_tYes ?_ | with_reducible refine w_and ?_ | with_reducible refine w_or ?_ | with_reducible refine w_not ?_ | with_reducible refine w_iRng ?_ | with_reducible refine w_iRngD ?_ | with_reducible refine w_iZip ?_ | with_reducible refine w_fr ?_ | with_reducible refine w_tupL ?_ | with_reducible refine w_im ?_ | with_reducible refine w_ow ?_ | with_reducible refine w_set ?_ | with_reducible refine w_par ?_ | with_reducible refine w_expr ?_ | with_reducible refine w_ret ?_ | with_reducible refine w_retN ?_ | with_reducible refine w_pass ?_ | with_reducible refine w_break ?_ | with_reducible refine w_cont ?_ | with_reducible refine w_seq ?_ | with_reducible refine w_sif ?_ | with_reducible refine x_add ?_ | with_reducible refine x_addI ?_ | with_reducible refine x_sub ?_ | with_reducible refine x_neg ?_ | with_reducible refine x_lt ?_ | with_reducible refine x_le ?_ | with_reducible refine x_gt ?_ | with_reducible refine x_ge ?_ | with_reducible refine x_eqS ?_ | with_reducible refine x_eq ?_ | with_reducible refine x_ne ?_ | with_reducible refine x_isN ?_ | with_reducible refine x_notN ?_ | with_reducible refine x_isB ?_ | with_reducible refine x_notB ?_ | with_reducible refine x_lenL ?_ | with_reducible refine x_lenT ?_ | with_reducible refine x_max2 ?_ | with_reducible refine x_min2 ?_ | with_reducible refine x_abs ?_ | with_reducible refine x_tupleL ?_ | with_reducible refine x_tupleT ?_ | with_reducible refine x_partL ?_ | with_reducible refine x_partT ?_ | with_reducible refine x_listL ?_ | with_reducible refine x_listT ?_ | with_reducible refine x_iii ?_ | with_reducible refine x_ibi ?_ | with_reducible refine x_iss ?_ | with_reducible refine x_itt ?_ | with_reducible refine x_ill ?_ | with_reducible refine c_true ?_ | with_reducible refine c_false ?_ | with_reducible refine c_nt ?_ | with_reducible refine c_nf ?_ | with_reducible refine c_not ?_ | ((with_reducible apply w_FI); · rfl) | ((with_reducible apply w_oIx); · rfl) | ((with_reducible apply w_oLen); · rfl) | ((with_reducible apply w_oBin); · rfl) | ((with_reducible apply w_consO); · rfl) | ((with_reducible apply w_aug); · rfl) | ((with_reducible apply w_app); · rfl) | ((with_reducible apply w_oset); · rfl) | ((with_reducible apply w_ext); · rfl) | ((with_reducible apply w_retO); · rfl) | ((with_reducible apply w_frz); · rfl) | ((with_reducible apply e_ow); · rfl) | with_reducible refine e_bl ?_ | with_reducible refine e_int ?_ | with_reducible refine e_lst ?_ | with_reducible refine e_tup ?_ | with_reducible refine e_seqL ?_ | with_reducible refine e_seqT ?_ | with_reducible refine e_zipL ?_ | with_reducible refine e_zipT ?_ | with_reducible refine w_partI ?_ | with_reducible refine w_iSeq ?_ | with_reducible refine w_iEnum ?_ | with_reducible refine w_new ?_ | with_reducible refine w_rev ?_ | with_reducible refine w_revT ?_ | with_reducible refine w_slice ?_ | with_reducible refine y_le ?_ | with_reducible refine y_lt ?_ | with_reducible refine y_ge ?_ | with_reducible refine y_gt ?_ | ((with_reducible apply x_ixT); · rfl) | ((with_reducible apply x_ixL); · rfl) | ((with_reducible apply e_at); · rfl) | ((with_reducible apply x_mul); · rfl) | ((with_reducible apply e_ix); · rfl) | ((with_reducible apply x_div); · decide) | ((with_reducible apply x_mod); · decide) | with_reducible refine w_lst ?_ | with_reducible refine w_tup ?_ | ((with_reducible apply e_cap); · exact Nat.le_of_ble_eq_true rfl) | ((with_reducible apply e_set); · (simp only [List.set_cons_zero, List.set_cons_succ]; rfl)) | ((with_reducible apply e_setL); (· rfl); (· (simp only [List.set_cons_zero, List.set_cons_succ]; rfl))) | ((with_reducible apply e_par); (· rfl); (· (simp only [List.set_cons_zero, List.set_cons_succ]; rfl))) | ((with_reducible apply e_par3); (· rfl); (· (simp only [List.set_cons_zero, List.set_cons_succ]; rfl))) | ((with_reducible apply e_pt); (· rfl); (· (simp only [List.set_cons_zero, List.set_cons_succ]; rfl))) | ((with_reducible apply e_pT); · (simp only [pTs, pN, List.length_cons, List.length_nil, List.set_cons_zero, List.set_cons_succ, Nat.reduceAdd, Nat.reduceLT, ite_true, Option.some.injEq]; rfl))))
      refine ⟨by rw [len_enumD]; exact h.1, ?_, rfl, rfl, ?_⟩
      · intro d hd
        obtain ⟨k, x, rfl, hx⟩ := mem_enumD hd
        have hk : k < xs.length := by
          rcases Nat.lt_or_ge k xs.length with h1 | h1
          · exact h1
          · rw [List.getElem?_eq_none h1] at hx; cases hx
        have hw := h.2 x (List.mem_of_getElem? hx)
        refine ⟨_, rfl, rfl, rfl, ?_⟩
        (repeat' (first | ((with_reducible refine c_decT ?_ ?_); · first | decide | rfl) | ((with_reducible refine c_decF ?_ ?_); · decide) | with_reducible refine w_seq ?_ | ((with_reducible apply w_var); · rfl) | with_reducible refine w_setN ?_ | with_reducible refine w_snew ?_ | with_reducible refine w_C ?_ | with_reducible refine w_bin ?_ | with_reducible refine w_un ?_ | with_reducible refine w_isi ?_ | with_reducible refine w_isi2 ?_ | with_reducible refine w_chain ?_ | with_reducible refine w_if ?_ | with_reducible refine w_nil ?_ | with_reducible refine w_cons ?_ | with_reducible refine w_F ?_ | with_reducible refine w_Fb ?_ | with_reducible refine w_FN ?_ | with_reducible refine w_noPart ?_ | with_reducible refine w_slice ?_ | with_reducible refine w_val ?_ | with_reducible refine w_tAnd ?_ | with_reducible refine w_tOr ?_ | with_reducible refine w_tNot ?_ | with_reducible refine w_tYes ?_ | with_reducible refine w_and ?_ | with_reducible refine w_or ?_ | with_reducible refine w_not ?_ | with_reducible refine w_iRng ?_ | with_reducible refine w_iRngD ?_ | with_reducible refine w_iZip ?_ | with_reducible refine w_fr ?_ | with_reducible refine w_tupL ?_ | with_reducible refine w_im ?_ | with_reducible refine w_ow ?_ | with_reducible refine w_set ?_ | with_reducible refine w_par ?_ | with_reducible refine w_expr ?_ | with_reducible refine w_ret ?_ | with_reducible refine w_retN ?_ | with_reducible refine w_pass ?_ | with_reducible refine w_break ?_ | with_reducible refine w_cont ?_ | with_reducible refine w_seq ?_ | with_reducible refine w_sif ?_ | with_reducible refine x_add ?_ | with_reducible refine x_addI ?_ | with_reducible refine x_sub ?_ | with_reducible refine x_neg ?_ | with_reducible refine x_lt ?_ | with_reducible refine x_le ?_ | with_reducible refine x_gt ?_ | with_reducible refine x_ge ?_ | with_reducible refine x_eqS ?_ | with_reducible refine x_eq ?_ | with_reducible refine x_ne ?_ | with_reducible refine x_isN ?_ | with_reducible refine x_notN ?_ | with_reducible refine x_isB ?_ | with_reducible refine x_notB ?_ | with_reducible refine x_lenL ?_ | with_reducible refine x_lenT ?_ | with_reducible refine x_max2 ?_ | with_reducible refine x_min2 ?_ | with_reducible refine x_abs ?_ | with_reducible refine x_tupleL ?_ | with_reducible refine x_tupleT ?_ | with_reducible refine x_partL ?_ | with_reducible refine x_partT ?_ | with_reducible refine x_listL ?_ | with_reducible refine x_listT ?_ | with_reducible refine x_iii ?_ | with_reducible refine x_ibi ?_ | with_reducible refine x_iss ?_ | with_reducible refine x_itt ?_ | with_reducible refine x_ill ?_ | with_reducible refine c_true ?_ | with_reducible refine c_false ?_ | with_reducible refine c_nt ?_ | with_reducible refine c_nf ?_ | with_reducible refine c_not ?_ | ((with_reducible apply w_FI); · rfl) | ((with_reducible apply w_oIx); · rfl) | ((with_reducible apply w_oLen); · rfl) | ((with_reducible apply w_oBin); · rfl) | ((with_reducible apply w_consO); · rfl) | ((with_reducible apply w_aug); · rfl) | ((with_reducible apply w_app); · rfl) | ((with_reducible apply w_oset); · rfl) | ((with_reducible apply w_ext); · rfl) | ((with_reducible apply w_retO); · rfl) | ((with_reducible apply w_frz); · rfl) | ((with_reducible apply e_ow); · rfl) | with_reducible refine e_bl ?_ | with_reducible refine e_int ?_ | with_reducible refine e_lst ?_ | with_reducible refine e_tup ?_ | with_reducible refine e_seqL ?_ | with_reducible refine e_seqT ?_ | with_reducible refine e_zipL ?_ | with_reducible refine e_zipT ?_ | with_reducible refine w_partI ?_ | with_reducible refine w_iSeq ?_ | with_reducible refine w_iEnum ?_ | with_reducible refine w_new ?_ | with_reducible refine w_rev ?_ | with_reducible refine w_revT ?_ | with_reducible refine w_slice ?_ | with_reducible refine y_le ?_ | with_reducible refine y_lt ?_ | with_reducible refine y_ge ?_ | with_reducible refine y_gt ?_ | ((with_reducible apply x_ixT); · rfl) | ((with_reducible apply x_ixL); · rfl) | ((with_reducible apply e_at); · rfl) | ((with_reducible apply x_mul); · rfl) | ((with_reducible apply e_ix); · rfl) | ((with_reducible apply x_div); · decide) | ((with_reducible apply x_mod); · decide) | with_reducible refine w_lst ?_ | with_reducible refine w_tup ?_ | ((with_reducible apply e_cap); · exact Nat.le_of_ble_eq_true rfl) | ((with_reducible apply e_set); · (simp only [List.set_cons_zero, List.set_cons_succ]; rfl)) | ((with_reducible apply e_setL); (· rfl); (· (simp only [List.set_cons_zero, List.set_cons_succ]; rfl))) | ((with_reducible apply e_par); (· rfl); (· (simp only [List.set_cons_zero, List.set_cons_succ]; rfl))) | ((with_reducible apply e_par3); (· rfl); (· (simp only [List.set_cons_zero, List.set_cons_succ]; rfl))) | ((with_reducible apply e_pt); (· rfl); (· (simp only [List.set_cons_zero, List.set_cons_succ]; rfl))) | ((with_reducible apply e_pT); · (simp only [pTs, pN, List.length_cons, List.length_nil, List.set_cons_zero, List.set_cons_succ, Nat.reduceAdd, Nat.reduceLT, ite_true, Option.some.injEq]; rfl))))
        refine x_ixT (at_nat (by omega) (d := x) (by simpa using hx)) ?_
        (repeat' (first | ((with_reducible refine c_decT ?_ ?_); · first | decide | rfl) | ((with_reducible refine c_decF ?_ ?_); · decide) | with_reducible refine w_seq ?_ | ((with_reducible apply w_var); · rfl) | with_reducible refine w_setN ?_ | with_reducible refine w_snew ?_ | with_reducible refine w_C ?_ | with_reducible refine w_bin ?_ | with_reducible refine w_un ?_ | with_reducible refine w_isi ?_ | with_reducible refine w_isi2 ?_ | with_reducible refine w_chain ?_ | with_reducible refine w_if ?_ | with_reducible refine w_nil ?_ | with_reducible refine w_cons ?_ | with_reducible refine w_F ?_ | with_reducible refine w_Fb ?_ | with_reducible refine w_FN ?_ | with_reducible refine w_noPart ?_ | with_reducible refine w_slice ?_ | with_reducible refine w_val ?_ | with_reducible refine w_tAnd ?_ | with_reducible refine w_tOr ?_ | with_reducible refine w_tNot ?_ | with_reducible refine w_tYes ?_ | with_reducible refine w_and ?_ | with_reducible refine w_or ?_ | with_reducible refine w_not ?_ | with_reducible refine w_iRng ?_ | with_reducible refine w_iRngD ?_ | with_reducible refine w_iZip ?_ | with_reducible refine w_fr ?_ | with_reducible refine w_tupL ?_ | with_reducible refine w_im ?_ | with_reducible refine w_ow ?_ | with_reducible refine w_set ?_ | with_reducible refine w_par ?_ | with_reducible refine w_expr ?_ | with_reducible refine w_ret ?_ | with_reducible refine w_retN ?_ | with_reducible refine w_pass ?_ | with_reducible refine w_break ?_ | with_reducible refine w_cont ?_ | with_reducible refine w_seq ?_ | with_reducible refine w_sif ?_ | with_reducible refine x_add ?_ | with_reducible refine x_addI ?_ | with_reducible refine x_sub ?_ | with_reducible refine x_neg ?_ | with_reducible refine x_lt ?_ | with_reducible refine x_le ?_ | with_reducible refine x_gt ?_ | with_reducible refine x_ge ?_ | with_reducible refine x_eqS ?_ | with_reducible refine x_eq ?_ | with_reducible refine x_ne ?_ | with_reducible refine x_isN ?_ | with_reducible refine x_notN ?_ | with_reducible refine x_isB ?_ | with_reducible refine x_notB ?_ | with_reducible refine x_lenL ?_ | with_reducible refine x_lenT ?_ | with_reducible refine x_max2 ?_ | with_reducible refine x_min2 ?_ | with_reducible refine x_abs ?_ | with_reducible refine x_tupleL ?_ | with_reducible refine x_tupleT ?_ | with_reducible refine x_partL ?_ | with_reducible refine x_partT ?_ | with_reducible refine x_listL ?_ | with_reducible refine x_listT ?_ | with_reducible refine x_iii ?_ | with_reducible refine x_ibi ?_ | with_reducible refine x_iss ?_ | with_reducible refine x_itt ?_ | with_reducible refine x_ill ?_ | with_reducible refine c_true ?_ | with_reducible refine c_false ?_ | with_reducible refine c_nt ?_ | with_reducible refine c_nf ?_ | with_reducible refine c_not ?_ | ((with_reducible apply w_FI); · rfl) | ((with_reducible apply w_oIx); · rfl) | ((with_reducible apply w_oLen); · rfl) | ((with_reducible apply w_oBin); · rfl) | ((with_reducible apply w_consO); · rfl) | ((with_reducible apply w_aug); · rfl) | ((with_reducible apply w_app); · rfl) | ((with_reducible apply w_oset); · rfl) | ((with_reducible apply w_ext); · rfl) | ((with_reducible apply w_retO); · rfl) | ((with_reducible apply w_frz); · rfl) | ((with_reducible apply e_ow); · rfl) | with_reducible refine e_bl ?_ | with_reducible refine e_int ?_ | with_reducible refine e_lst ?_ | with_reducible refine e_tup ?_ | with_reducible refine e_seqL ?_ | with_reducible refine e_seqT ?_ | with_reducible refine e_zipL ?_ | with_reducible refine e_zipT ?_ | with_reducible refine w_partI ?_ | with_reducible refine w_iSeq ?_ | with_reducible refine w_iEnum ?_ | with_reducible refine w_new ?_ | with_reducible refine w_rev ?_ | with_reducible refine w_revT ?_ | with_reducible refine w_slice ?_ | with_reducible refine y_le ?_ | with_reducible refine y_lt ?_ | with_reducible refine y_ge ?_ | with_reducible refine y_gt ?_ | ((with_reducible apply x_ixT); · rfl) | ((with_reducible apply x_ixL); · rfl) | ((with_reducible apply e_at); · rfl) | ((with_reducible apply x_mul); · rfl) | ((with_reducible apply e_ix); · rfl) | ((with_reducible apply x_div); · decide) | ((with_reducible apply x_mod); · decide) | with_reducible refine w_lst ?_ | with_reducible refine w_tup ?_ | ((with_reducible apply e_cap); · exact Nat.le_of_ble_eq_true rfl) | ((with_reducible apply e_set); · (simp only [List.set_cons_zero, List.set_cons_succ]; rfl)) | ((with_reducible apply e_setL); (· rfl); (· (simp only [List.set_cons_zero, List.set_cons_succ]; rfl))) | ((with_reducible apply e_par); (· rfl); (· (simp only [List.set_cons_zero, List.set_cons_succ]; rfl))) | ((with_reducible apply e_par3); (· rfl); (· (simp only [List.set_cons_zero, List.set_cons_succ]; rfl))) | ((with_reducible apply e_pt); (· rfl); (· (simp only [List.set_cons_zero, List.set_cons_succ]; rfl))) | ((with_reducible apply e_pT); · (simp only [pTs, pN, List.length_cons, List.length_nil, List.set_cons_zero, List.set_cons_succ, Nat.reduceAdd, Nat.reduceLT, ite_true, Option.some.injEq]; rfl))))
        refine ⟨_, ih (by omega) hw, ?_⟩
        (repeat' (first | ((with_reducible refine c_decT ?_ ?_); · first | decide | rfl) | ((with_reducible refine c_decF ?_ ?_); · decide) | with_reducible refine w_seq ?_ | ((with_reducible apply w_var); · rfl) | with_reducible refine w_setN ?_ | with_reducible refine w_snew ?_ | with_reducible refine w_C ?_ | with_reducible refine w_bin ?_ | with_reducible refine w_un ?_ | with_reducible refine w_isi ?_ | with_reducible refine w_isi2 ?_ | with_reducible refine w_chain ?_ | with_reducible refine w_if ?_ | with_reducible refine w_nil ?_ | with_reducible refine w_cons ?_ | with_reducible refine w_F ?_ | with_reducible refine w_Fb ?_ | with_reducible refine w_FN ?_ | with_reducible refine w_noPart ?_ | with_reducible refine w_slice ?_ | with_reducible refine w_val ?_ | with_reducible refine w_tAnd ?_ | with_reducible refine w_tOr ?_ | with_reducible refine w_tNot ?_ | with_reducible refine w_tYes ?_ | with_reducible refine w_and ?_ | with_reducible refine w_or ?_ | with_reducible refine w_not ?_ | with_reducible refine w_iRng ?_ | with_reducible refine w_iRngD ?_ | with_reducible refine w_iZip ?_ | with_reducible refine w_fr ?_ | with_reducible refine w_tupL ?_ | with_reducible refine w_im ?_ | with_reducible refine w_ow ?_ | with_reducible refine w_set ?_ | with_reducible refine w_par ?_ | with_reducible refine w_expr ?_ | with_reducible refine w_ret ?_ | with_reducible refine w_retN ?_ | with_reducible refine w_pass ?_ | with_reducible refine w_break ?_ | with_reducible refine w_cont ?_ | with_reducible refine w_seq ?_ | with_reducible refine w_sif ?_ | with_reducible refine x_add ?_ | with_reducible refine x_addI ?_ | with_reducible refine x_sub ?_ | with_reducible refine x_neg ?_ | with_reducible refine x_lt ?_ | with_reducible refine x_le ?_ | with_reducible refine x_gt ?_ | with_reducible refine x_ge ?_ | with_reducible refine x_eqS ?_ | with_reducible refine x_eq ?_ | with_reducible refine x_ne ?_ | with_reducible refine x_isN ?_ | with_reducible refine x_notN ?_ | with_reducible refine x_isB ?_ | with_reducible refine x_notB ?_ | with_reducible refine x_lenL ?_ | with_reducible refine x_lenT ?_ | with_reducible refine x_max2 ?_ | with_reducible refine x_min2 ?_ | with_reducible refine x_abs ?_ | with_reducible refine x_tupleL ?_ | with_reducible refine x_tupleT ?_ | with_reducible refine x_partL ?_ | with_reducible refine x_partT ?_ | with_reducible refine x_listL ?_ | with_reducible refine x_listT ?_ | with_reducible refine x_iii ?_ | with_reducible refine x_ibi ?_ | with_reducible refine x_iss ?_ | with_reducible refine x_itt ?_ | with_reducible refine x_ill ?_ | with_reducible refine c_true ?_ | with_reducible refine c_false ?_ | with_reducible refine c_nt ?_ | with_reducible refine c_nf ?_ | with_reducible refine c_not ?_ | ((with_reducible apply w_FI); · rfl) | ((with_reducible apply w_oIx); · rfl) | ((with_reducible apply w_oLen); · rfl) | ((with_reducible apply w_oBin); · rfl) | ((with_reducible apply w_consO); · rfl) | ((with_reducible apply w_aug); · rfl) | ((with_reducible apply w_app); · rfl) | ((with_reducible apply w_oset); · rfl) | ((with_reducible apply w_ext); · rfl) | ((with_reducible apply w_retO); · rfl) | ((with_reducible apply w_frz); · rfl) | ((with_reducible apply e_ow); · rfl) | with_reducible refine e_bl ?_ | with_reducible refine e_int ?_ | with_reducible refine e_lst ?_ | with_reducible refine e_tup ?_ | with_reducible refine e_seqL ?_ | with_reducible refine e_seqT ?_ | with_reducible refine e_zipL ?_ | with_reducible refine e_zipT ?_ | with_reducible refine w_partI ?_ | with_reducible refine w_iSeq ?_ | with_reducible refine w_iEnum ?_ | with_reducible refine w_new ?_ | with_reducible refine w_rev ?_ | with_reducible refine w_revT ?_ | with_reducible refine w_slice ?_ | with_reducible refine y_le ?_ | with_reducible refine y_lt ?_ | with_reducible refine y_ge ?_ | with_reducible refine y_gt ?_ | ((with_reducible apply x_ixT); · rfl) | ((with_reducible apply x_ixL); · rfl) | ((with_reducible apply e_at); · rfl) | ((with_reducible apply x_mul); · rfl) | ((with_reducible apply e_ix); · rfl) | ((with_reducible apply x_div); · decide) | ((with_reducible apply x_mod); · decide) | with_reducible refine w_lst ?_ | with_reducible refine w_tup ?_ | ((with_reducible apply e_cap); · exact Nat.le_of_ble_eq_true rfl) | ((with_reducible apply e_set); · (simp only [List.set_cons_zero, List.set_cons_succ]; rfl)) | ((with_reducible apply e_setL); (· rfl); (· (simp only [List.set_cons_zero, List.set_cons_succ]; rfl))) | ((with_reducible apply e_par); (· rfl); (· (simp only [List.set_cons_zero, List.set_cons_succ]; rfl))) | ((with_reducible apply e_par3); (· rfl); (· (simp only [List.set_cons_zero, List.set_cons_succ]; rfl))) | ((with_reducible apply e_pt); (· rfl); (· (simp only [List.set_cons_zero, List.set_cons_succ]; rfl))) | ((with_reducible apply e_pT); · (simp only [pTs, pN, List.length_cons, List.length_nil, List.set_cons_zero, List.set_cons_succ, Nat.reduceAdd, Nat.reduceLT, ite_true, Option.some.injEq]; rfl))))
        exact ⟨rfl, rfl, fun z => nomatch z⟩
      · (repeat' (first | ((with_reducible refine c_decT ?_ ?_); · first | decide | rfl) | ((with_reducible refine c_decF ?_ ?_); · decide) | with_reducible refine w_seq ?_ | ((with_reducible apply w_var); · rfl) | with_reducible refine w_setN ?_ | with_reducible refine w_snew ?_ | with_reducible refine w_C ?_ | with_reducible refine w_bin ?_ | with_reducible refine w_un ?_ | with_reducible refine w_isi ?_ | with_reducible refine w_isi2 ?_ | with_reducible refine w_chain ?_ | with_reducible refine w_if ?_ | with_reducible refine w_nil ?_ | with_reducible refine w_cons ?_ | with_reducible refine w_F ?_ | with_reducible refine w_Fb ?_ | with_reducible refine w_FN ?_ | with_reducible refine w_noPart ?_ | with_reducible refine w_slice ?_ | with_reducible refine w_val ?_ | with_reducible refine w_tAnd ?_ | with_reducible refine w_tOr ?_ | with_reducible refine w_tNot ?_ | with_reducible refine w_tYes ?_ | with_reducible refine w_and ?_ | with_reducible refine w_or ?_ | with_reducible refine w_not ?_ | with_reducible refine w_iRng ?_ | with_reducible refine w_iRngD ?_ | with_reducible refine w_iZip ?_ | with_reducible refine w_fr ?_ | with_reducible refine w_tupL ?_ | with_reducible refine w_im ?_ | with_reducible refine w_ow ?_ | with_reducible refine w_set ?_ | with_reducible refine w_par ?_ | with_reducible refine w_expr ?_ | with_reducible refine w_ret ?_ | with_reducible refine w_retN ?_ | with_reducible refine w_pass ?_ | with_reducible refine w_break ?_ | with_reducible refine w_cont ?_ | with_reducible refine w_seq ?_ | with_reducible refine w_sif ?_ | with_reducible refine x_add ?_ | with_reducible refine x_addI ?_ | with_reducible refine x_sub ?_ | with_reducible refine x_neg ?_ | with_reducible refine x_lt ?_ | with_reducible refine x_le ?_ | with_reducible refine x_gt ?_ | with_reducible refine x_ge ?_ | with_reducible refine x_eqS ?_ | with_reducible refine x_eq ?_ | with_reducible refine x_ne ?_ | with_reducible refine x_isN ?_ | with_reducible refine x_notN ?_ | with_reducible refine x_isB ?_ | with_reducible refine x_notB ?_ | with_reducible refine x_lenL ?_ | with_reducible refine x_lenT ?_ | with_reducible refine x_max2 ?_ | with_reducible refine x_min2 ?_ | with_reducible refine x_abs ?_ | with_reducible refine x_tupleL ?_ | with_reducible refine x_tupleT ?_ | with_reducible refine x_partL ?_ | with_reducible refine x_partT ?_ | with_reducible refine x_listL ?_ | with_reducible refine x_listT ?_ | with_reducible refine x_iii ?_ | with_reducible refine x_ibi ?_ | with_reducible refine x_iss ?_ | with_reducible refine x_itt ?_ | with_reducible refine x_ill ?_ | with_reducible refine c_true ?_ | with_reducible refine c_false ?_ | with_reducible refine c_nt ?_ | with_reducible refine c_nf ?_ | with_reducible refine c_not ?_ | ((with_reducible apply w_FI); · rfl) | ((with_reducible apply w_oIx); · rfl) | ((with_reducible apply w_oLen); · rfl) | ((with_reducible apply w_oBin); · rfl) | ((with_reducible apply w_consO); · rfl) | ((with_reducible apply w_aug); · rfl) | ((with_reducible apply w_app); · rfl) | ((with_reducible apply w_oset); · rfl) | ((with_reducible apply w_ext); · rfl) | ((with_reducible apply w_retO); · rfl) | ((with_reducible apply w_frz); · rfl) | ((with_reducible apply e_ow); · rfl) | with_reducible refine e_bl ?_ | with_reducible refine e_int ?_ | with_reducible refine e_lst ?_ | with_reducible refine e_tup ?_ | with_reducible refine e_seqL ?_ | with_reducible refine e_seqT ?_ | with_reducible refine e_zipL ?_ | with_reducible refine e_zipT ?_ | with_reducible refine w_partI ?_ | with_reducible refine w_iSeq ?_ | with_reducible refine w_iEnum ?_ | with_reducible refine w_new ?_ | with_reducible refine w_rev ?_ | with_reducible refine w_revT ?_ | with_reducible refine w_slice ?_ | with_reducible refine y_le ?_ | with_reducible refine y_lt ?_ | with_reducible refine y_ge ?_ | with_reducible refine y_gt ?_ | ((with_reducible apply x_ixT); · rfl) | ((with_reducible apply x_ixL); · rfl) | ((with_reducible apply e_at); · rfl) | ((with_reducible apply x_mul); · rfl) | ((with_reducible apply e_ix); · rfl) | ((with_reducible apply x_div); · decide) | ((with_reducible apply x_mod); · decide) | with_reducible refine w_lst ?_ | with_reducible refine w_tup ?_ | ((with_reducible apply e_cap); · exact Nat.le_of_ble_eq_true rfl) | ((with_reducible apply e_set); · (simp only [List.set_cons_zero, List.set_cons_succ]; rfl)) | ((with_reducible apply e_setL); (· rfl); (· (simp only [List.set_cons_zero, List.set_cons_succ]; rfl))) | ((with_reducible apply e_par); (· rfl); (· (simp only [List.set_cons_zero, List.set_cons_succ]; rfl))) | ((with_reducible apply e_par3); (· rfl); (· (simp only [List.set_cons_zero, List.set_cons_succ]; rfl))) | ((with_reducible apply e_pt); (· rfl); (· (simp only [List.set_cons_zero, List.set_cons_succ]; rfl))) | ((with_reducible apply e_pT); · (simp only [pTs, pN, List.length_cons, List.length_nil, List.set_cons_zero, List.set_cons_succ, Nat.reduceAdd, Nat.reduceLT, ite_true, Option.some.injEq]; rfl))))
        rw [List.filter_eq_nil_iff.mpr (fun _ _ => Bool.false_ne_true)]
        (repeat' (first | ((with_reducible refine c_decT ?_ ?_); · first | decide | rfl) | ((with_reducible refine c_decF ?_ ?_); · decide) | with_reducible refine w_seq ?_ | ((with_reducible apply w_var); · rfl) | with_reducible refine w_setN ?_ | with_reducible refine w_snew ?_ | with_reducible refine w_C ?_ | with_reducible refine w_bin ?_ | with_reducible refine w_un ?_ | with_reducible refine w_isi ?_ | with_reducible refine w_isi2 ?_ | with_reducible refine w_chain ?_ | with_reducible refine w_if ?_ | with_reducible refine w_nil ?_ | with_reducible refine w_cons ?_ | with_reducible refine w_F ?_ | with_reducible refine w_Fb ?_ | with_reducible refine w_FN ?_ | with_reducible refine w_noPart ?_ | with_reducible refine w_slice ?_ | with_reducible refine w_val ?_ | with_reducible refine w_tAnd ?_ | with_reducible refine w_tOr ?_ | with_reducible refine w_tNot ?_ | with_reducible refine w_tYes ?_ | with_reducible refine w_and ?_ | with_reducible refine w_or ?_ | with_reducible refine w_not ?_ | with_reducible refine w_iRng ?_ | with_reducible refine w_iRngD ?_ | with_reducible refine w_iZip ?_ | with_reducible refine w_fr ?_ | with_reducible refine w_tupL ?_ | with_reducible refine w_im ?_ | with_reducible refine w_ow ?_ | with_reducible refine w_set ?_ | with_reducible refine w_par ?_ | with_reducible refine w_expr ?_ | with_reducible refine w_ret ?_ | with_reducible refine w_retN ?_ | with_reducible refine w_pass ?_ | with_reducible refine w_break ?_ | with_reducible refine w_cont ?_ | with_reducible refine w_seq ?_ | with_reducible refine w_sif ?_ | with_reducible refine x_add ?_ | with_reducible refine x_addI ?_ | with_reducible refine x_sub ?_ | with_reducible refine x_neg ?_ | with_reducible refine x_lt ?_ | with_reducible refine x_le ?_ | with_reducible refine x_gt ?_ | with_reducible refine x_ge ?_ | with_reducible refine x_eqS ?_ | with_reducible refine x_eq ?_ | with_reducible refine x_ne ?_ | with_reducible refine x_isN ?_ | with_reducible refine x_notN ?_ | with_reducible refine x_isB ?_ | with_reducible refine x_notB ?_ | with_reducible refine x_lenL ?_ | with_reducible refine x_lenT ?_ | with_reducible refine x_max2 ?_ | with_reducible refine x_min2 ?_ | with_reducible refine x_abs ?_ | with_reducible refine x_tupleL ?_ | with_reducible refine x_tupleT ?_ | with_reducible refine x_partL ?_ | with_reducible refine x_partT ?_ | with_reducible refine x_listL ?_ | with_reducible refine x_listT ?_ | with_reducible refine x_iii ?_ | with_reducible refine x_ibi ?_ | with_reducible refine x_iss ?_ | with_reducible refine x_itt ?_ | with_reducible refine x_ill ?_ | with_reducible refine c_true ?_ | with_reducible refine c_false ?_ | with_reducible refine c_nt ?_ | with_reducible refine c_nf ?_ | with_reducible refine c_not ?_ | ((with_reducible apply w_FI); · rfl) | ((with_reducible apply w_oIx); · rfl) | ((with_reducible apply w_oLen); · rfl) | ((with_reducible apply w_oBin); · rfl) | ((with_reducible apply w_consO); · rfl) | ((with_reducible apply w_aug); · rfl) | ((with_reducible apply w_app); · rfl) | ((with_reducible apply w_oset); · rfl) | ((with_reducible apply w_ext); · rfl) | ((with_reducible apply w_retO); · rfl) | ((with_reducible apply w_frz); · rfl) | ((with_reducible apply e_ow); · rfl) | with_reducible refine e_bl ?_ | with_reducible refine e_int ?_ | with_reducible refine e_lst ?_ | with_reducible refine e_tup ?_ | with_reducible refine e_seqL ?_ | with_reducible refine e_seqT ?_ | with_reducible refine e_zipL ?_ | with_reducible refine e_zipT ?_ | with_reducible refine w_partI ?_ | with_reducible refine w_iSeq ?_ | with_reducible refine w_iEnum ?_ | with_reducible refine w_new ?_ | with_reducible refine w_rev ?_ | with_reducible refine w_revT ?_ | with_reducible refine w_slice ?_ | with_reducible refine y_le ?_ | with_reducible refine y_lt ?_ | with_reducible refine y_ge ?_ | with_reducible refine y_gt ?_ | ((with_reducible apply x_ixT); · rfl) | ((with_reducible apply x_ixL); · rfl) | ((with_reducible apply e_at); · rfl) | ((with_reducible apply x_mul); · rfl) | ((with_reducible apply e_ix); · rfl) | ((with_reducible apply x_div); · decide) | ((with_reducible apply x_mod); · decide) | with_reducible refine w_lst ?_ | with_reducible refine w_tup ?_ | ((with_reducible apply e_cap); · exact Nat.le_of_ble_eq_true rfl) | ((with_reducible apply e_set); · (simp only [List.set_cons_zero, List.set_cons_succ]; rfl)) | ((with_reducible apply e_setL); (· rfl); (· (simp only [List.set_cons_zero, List.set_cons_succ]; rfl))) | ((with_reducible apply e_par); (· rfl); (· (simp only [List.set_cons_zero, List.set_cons_succ]; rfl))) | ((with_reducible apply e_par3); (· rfl); (· (simp only [List.set_cons_zero, List.set_cons_succ]; rfl))) | ((with_reducible apply e_pt); (· rfl); (· (simp only [List.set_cons_zero, List.set_cons_succ]; rfl))) | ((with_reducible apply e_pT); · (simp only [pTs, pN, List.length_cons, List.length_nil, List.set_cons_zero, List.set_cons_succ, Nat.reduceAdd, Nat.reduceLT, ite_true, Option.some.injEq]; rfl))))
        refine x_eqR (n := 1) ⟨by decide, fun x hx => nomatch hx⟩ (by omega) ?_
        rfl
theorem w_equal {n : Nat} {d : D} {Q : D → Prop} (h : Wl n d) (hn : n ≤ 11) (q : Q (.bl true)) : ∃ z, f_law_equal 12 [d, d] = some z ∧ Q z := by
  have h' : Wl 11 d := h.up hn
  exact ⟨_, law_equal_refl (n := 11) (by omega) h', q⟩
theorem law_schedule_eq {n : Nat} {s : List D} {c m : Int} (hs : Src n s) (hn : n ≤ 100000000) (hc : Cok c) (hm0 : 0 ≤ m) (hm1 : m ≤ 100) :
    ∃ d s', f_law_schedule s [.int c, .int m] = some (d, s') ∧ ∃ cs : List Cm, d = schD cs ∧ cs.length ≤ m ∧ (∀ x ∈ cs, x.ok c) ∧ Src (n + 1000) s' := by
  have hc1 := hc.1
  have hc2 := hc.2
  refine run_I (e := [.ow s, .im (.int c), .im (.int m), .un, .un, .un, .un, .un]) rfl rfl ?_
  unfold c_law_schedule
  (repeat' (first | ((with_reducible refine c_decT ?_ ?_); · first | decide | rfl) | ((with_reducible refine c_decF ?_ ?_); · decide) | with_reducible refine w_seq ?_ | ((with_reducible apply w_var); · rfl) | with_reducible refine w_setN ?_ | with_reducible refine w_snew ?_ | with_reducible refine w_C ?_ | with_reducible refine w_bin ?_ | with_reducible refine w_un ?_ | with_reducible refine w_isi ?_ | with_reducible refine w_isi2 ?_ | with_reducible refine w_chain ?_ | with_reducible refine w_if ?_ | with_reducible refine w_nil ?_ | with_reducible refine w_cons ?_ | with_reducible refine w_F ?_ | with_reducible refine w_Fb ?_ | with_reducible refine w_FN ?_ | with_reducible refine w_noPart ?_ | with_reducible refine w_slice ?_ | with_reducible refine w_val ?_ | with_reducible refine w_tAnd ?_ | with_reducible refine w_tOr ?_ | with_reducible refine w_tNot ?_ | with_reducible refine w_tYes ?_ | with_reducible refine w_and ?_ | with_reducible refine w_or ?_ | with_reducible refine w_not ?_ | with_reducible refine w_iRng ?_ | with_reducible refine w_iRngD ?_ | with_reducible refine w_iZip ?_ | with_reducible refine w_fr ?_ | with_reducible refine w_tupL ?_ | with_reducible refine w_im ?_ | with_reducible refine w_ow ?_ | with_reducible refine w_set ?_ | with_reducible refine w_par ?_ | with_reducible refine w_expr ?_ | with_reducible refine w_ret ?_ | with_reducible refine w_retN ?_ | with_reducible refine w_pass ?_ | with_reducible refine w_break ?_ | with_reducible refine w_cont ?_ | with_reducible refine w_seq ?_ | with_reducible refine w_sif ?_ | with_reducible refine x_add ?_ | with_reducible refine x_addI ?_ | with_reducible refine x_sub ?_ | with_reducible refine x_neg ?_ | with_reducible refine x_lt ?_ | with_reducible refine x_le ?_ | with_reducible refine x_gt ?_ | with_reducible refine x_ge ?_ | with_reducible refine x_eqS ?_ | with_reducible refine x_eq ?_ | with_reducible refine x_ne ?_ | with_reducible refine x_isN ?_ | with_reducible refine x_notN ?_ | with_reducible refine x_isB ?_ | with_reducible refine x_notB ?_ | with_reducible refine x_lenL ?_ | with_reducible refine x_lenT ?_ | with_reducible refine x_max2 ?_ | with_reducible refine x_min2 ?_ | with_reducible refine x_abs ?_ | with_reducible refine x_tupleL ?_ | with_reducible refine x_tupleT ?_ | with_reducible refine x_partL ?_ | with_reducible refine x_partT ?_ | with_reducible refine x_listL ?_ | with_reducible refine x_listT ?_ | with_reducible refine x_iii ?_ | with_reducible refine x_ibi ?_ | with_reducible refine x_iss ?_ | with_reducible refine x_itt ?_ | with_reducible refine x_ill ?_ | with_reducible refine c_true ?_ | with_reducible refine c_false ?_ | with_reducible refine c_nt ?_ | with_reducible refine c_nf ?_ | with_reducible refine c_not ?_ | ((with_reducible apply w_FI); · rfl) | ((with_reducible apply w_oIx); · rfl) | ((with_reducible apply w_oLen); · rfl) | ((with_reducible apply w_oBin); · rfl) | ((with_reducible apply w_consO); · rfl) | ((with_reducible apply w_aug); · rfl) | ((with_reducible apply w_app); · rfl) | ((with_reducible apply w_oset); · rfl) | ((with_reducible apply w_ext); · rfl) | ((with_reducible apply w_retO); · rfl) | ((with_reducible apply w_frz); · rfl) | ((with_reducible apply e_ow); · rfl) | with_reducible refine e_bl ?_ | with_reducible refine e_int ?_ | with_reducible refine e_lst ?_ | with_reducible refine e_tup ?_ | with_reducible refine e_seqL ?_ | with_reducible refine e_seqT ?_ | with_reducible refine e_zipL ?_ | with_reducible refine e_zipT ?_ | with_reducible refine w_partI ?_ | with_reducible refine w_iSeq ?_ | with_reducible refine w_iEnum ?_ | with_reducible refine w_new ?_ | with_reducible refine w_rev ?_ | with_reducible refine w_revT ?_ | with_reducible refine w_slice ?_ | with_reducible refine y_le ?_ | with_reducible refine y_lt ?_ | with_reducible refine y_ge ?_ | with_reducible refine y_gt ?_ | ((with_reducible apply x_ixT); · rfl) | ((with_reducible apply x_ixL); · rfl) | ((with_reducible apply e_at); · rfl) | ((with_reducible apply x_mul); · rfl) | ((with_reducible apply e_ix); · rfl) | ((with_reducible apply x_div); · decide) | ((with_reducible apply x_mod); · decide) | with_reducible refine w_lst ?_ | with_reducible refine w_tup ?_ | ((with_reducible apply e_cap); · exact Nat.le_of_ble_eq_true rfl) | ((with_reducible apply e_set); · (simp only [List.set_cons_zero, List.set_cons_succ]; rfl)) | ((with_reducible apply e_setL); (· rfl); (· (simp only [List.set_cons_zero, List.set_cons_succ]; rfl))) | ((with_reducible apply e_par); (· rfl); (· (simp only [List.set_cons_zero, List.set_cons_succ]; rfl))) | ((with_reducible apply e_par3); (· rfl); (· (simp only [List.set_cons_zero, List.set_cons_succ]; rfl))) | ((with_reducible apply e_pt); (· rfl); (· (simp only [List.set_cons_zero, List.set_cons_succ]; rfl))) | ((with_reducible apply e_pT); · (simp only [pTs, pN, List.length_cons, List.length_nil, List.set_cons_zero, List.set_cons_succ, Nat.reduceAdd, Nat.reduceLT, ite_true, Option.some.injEq]; rfl))))
  refine w_choice hs (by omega) (by simp) (by simp) fun d s1 hd hs1 => ?_
  have hw : ∃ w : Int, d = .int w ∧ 1 ≤ w ∧ w ≤ 60 := by
    simp only [List.mem_cons, List.not_mem_nil, or_false] at hd
    rcases hd with rfl | rfl | rfl | rfl
    · exact ⟨_, rfl, by omega, by omega⟩
    · exact ⟨_, rfl, by omega, by omega⟩
    · exact ⟨_, rfl, by omega, by omega⟩
    · exact ⟨_, rfl, by omega, by omega⟩
  obtain ⟨w, rfl, hw1, hw2⟩ := hw
  (repeat' (first | ((with_reducible refine c_decT ?_ ?_); · first | decide | rfl) | ((with_reducible refine c_decF ?_ ?_); · decide) | with_reducible refine w_seq ?_ | ((with_reducible apply w_var); · rfl) | with_reducible refine w_setN ?_ | with_reducible refine w_snew ?_ | with_reducible refine w_C ?_ | with_reducible refine w_bin ?_ | with_reducible refine w_un ?_ | with_reducible refine w_isi ?_ | with_reducible refine w_isi2 ?_ | with_reducible refine w_chain ?_ | with_reducible refine w_if ?_ | with_reducible refine w_nil ?_ | with_reducible refine w_cons ?_ | with_reducible refine w_F ?_ | with_reducible refine w_Fb ?_ | with_reducible refine w_FN ?_ | with_reducible refine w_noPart ?_ | with_reducible refine w_slice ?_ | with_reducible refine w_val ?_ | with_reducible refine w_tAnd ?_ | with_reducible refine w_tOr ?_ | with_reducible refine w_tNot ?_ | with_reducible refine w_tYes ?_ | with_reducible refine w_and ?_ | with_reducible refine w_or ?_ | with_reducible refine w_not ?_ | with_reducible refine w_iRng ?_ | with_reducible refine w_iRngD ?_ | with_reducible refine w_iZip ?_ | with_reducible refine w_fr ?_ | with_reducible refine w_tupL ?_ | with_reducible refine w_im ?_ | with_reducible refine w_ow ?_ | with_reducible refine w_set ?_ | with_reducible refine w_par ?_ | with_reducible refine w_expr ?_ | with_reducible refine w_ret ?_ | with_reducible refine w_retN ?_ | with_reducible refine w_pass ?_ | with_reducible refine w_break ?_ | with_reducible refine w_cont ?_ | with_reducible refine w_seq ?_ | with_reducible refine w_sif ?_ | with_reducible refine x_add ?_ | with_reducible refine x_addI ?_ | with_reducible refine x_sub ?_ | with_reducible refine x_neg ?_ | with_reducible refine x_lt ?_ | with_reducible refine x_le ?_ | with_reducible refine x_gt ?_ | with_reducible refine x_ge ?_ | with_reducible refine x_eqS ?_ | with_reducible refine x_eq ?_ | with_reducible refine x_ne ?_ | with_reducible refine x_isN ?_ | with_reducible refine x_notN ?_ | with_reducible refine x_isB ?_ | with_reducible refine x_notB ?_ | with_reducible refine x_lenL ?_ | with_reducible refine x_lenT ?_ | with_reducible refine x_max2 ?_ | with_reducible refine x_min2 ?_ | with_reducible refine x_abs ?_ | with_reducible refine x_tupleL ?_ | with_reducible refine x_tupleT ?_ | with_reducible refine x_partL ?_ | with_reducible refine x_partT ?_ | with_reducible refine x_listL ?_ | with_reducible refine x_listT ?_ | with_reducible refine x_iii ?_ | with_reducible refine x_ibi ?_ | with_reducible refine x_iss ?_ | with_reducible refine x_itt ?_ | with_reducible refine x_ill ?_ | with_reducible refine c_true ?_ | with_reducible refine c_false ?_ | with_reducible refine c_nt ?_ | with_reducible refine c_nf ?_ | with_reducible refine c_not ?_ | ((with_reducible apply w_FI); · rfl) | ((with_reducible apply w_oIx); · rfl) | ((with_reducible apply w_oLen); · rfl) | ((with_reducible apply w_oBin); · rfl) | ((with_reducible apply w_consO); · rfl) | ((with_reducible apply w_aug); · rfl) | ((with_reducible apply w_app); · rfl) | ((with_reducible apply w_oset); · rfl) | ((with_reducible apply w_ext); · rfl) | ((with_reducible apply w_retO); · rfl) | ((with_reducible apply w_frz); · rfl) | ((with_reducible apply e_ow); · rfl) | with_reducible refine e_bl ?_ | with_reducible refine e_int ?_ | with_reducible refine e_lst ?_ | with_reducible refine e_tup ?_ | with_reducible refine e_seqL ?_ | with_reducible refine e_seqT ?_ | with_reducible refine e_zipL ?_ | with_reducible refine e_zipT ?_ | with_reducible refine w_partI ?_ | with_reducible refine w_iSeq ?_ | with_reducible refine w_iEnum ?_ | with_reducible refine w_new ?_ | with_reducible refine w_rev ?_ | with_reducible refine w_revT ?_ | with_reducible refine w_slice ?_ | with_reducible refine y_le ?_ | with_reducible refine y_lt ?_ | with_reducible refine y_ge ?_ | with_reducible refine y_gt ?_ | ((with_reducible apply x_ixT); · rfl) | ((with_reducible apply x_ixL); · rfl) | ((with_reducible apply e_at); · rfl) | ((with_reducible apply x_mul); · rfl) | ((with_reducible apply e_ix); · rfl) | ((with_reducible apply x_div); · decide) | ((with_reducible apply x_mod); · decide) | with_reducible refine w_lst ?_ | with_reducible refine w_tup ?_ | ((with_reducible apply e_cap); · exact Nat.le_of_ble_eq_true rfl) | ((with_reducible apply e_set); · (simp only [List.set_cons_zero, List.set_cons_succ]; rfl)) | ((with_reducible apply e_setL); (· rfl); (· (simp only [List.set_cons_zero, List.set_cons_succ]; rfl))) | ((with_reducible apply e_par); (· rfl); (· (simp only [List.set_cons_zero, List.set_cons_succ]; rfl))) | ((with_reducible apply e_par3); (· rfl); (· (simp only [List.set_cons_zero, List.set_cons_succ]; rfl))) | ((with_reducible apply e_pt); (· rfl); (· (simp only [List.set_cons_zero, List.set_cons_succ]; rfl))) | ((with_reducible apply e_pT); · (simp only [pTs, pN, List.length_cons, List.length_nil, List.set_cons_zero, List.set_cons_succ, Nat.reduceAdd, Nat.reduceLT, ite_true, Option.some.injEq]; rfl))))
  refine w_forI (fun ds e => ∃ (s' : List D) (cs : List Cm) (x5 x6 x7 : Sl), e = [.ow s', .im (.int c), .im (.int m), .ow (schL cs), .im (.int w), x5, x6, x7] ∧ (cs.length : Int) + ds.length ≤ m ∧ (∀ x ∈ cs, x.ok c) ∧ Src (n + 2 + 5 * cs.length) s') ?_ ?_ ?_
  · (repeat' (first | ((with_reducible refine c_decT ?_ ?_); · first | decide | rfl) | ((with_reducible refine c_decF ?_ ?_); · decide) | with_reducible refine w_seq ?_ | ((with_reducible apply w_var); · rfl) | with_reducible refine w_setN ?_ | with_reducible refine w_snew ?_ | with_reducible refine w_C ?_ | with_reducible refine w_bin ?_ | with_reducible refine w_un ?_ | with_reducible refine w_isi ?_ | with_reducible refine w_isi2 ?_ | with_reducible refine w_chain ?_ | with_reducible refine w_if ?_ | with_reducible refine w_nil ?_ | with_reducible refine w_cons ?_ | with_reducible refine w_F ?_ | with_reducible refine w_Fb ?_ | with_reducible refine w_FN ?_ | with_reducible refine w_noPart ?_ | with_reducible refine w_slice ?_ | with_reducible refine w_val ?_ | with_reducible refine w_tAnd ?_ | with_reducible refine w_tOr ?_ | with_reducible refine w_tNot ?_ | with_reducible refine w_tYes ?_ | with_reducible refine w_and ?_ | with_reducible refine w_or ?_ | with_reducible refine w_not ?_ | with_reducible refine w_iRng ?_ | with_reducible refine w_iRngD ?_ | with_reducible refine w_iZip ?_ | with_reducible refine w_fr ?_ | with_reducible refine w_tupL ?_ | with_reducible refine w_im ?_ | with_reducible refine w_ow ?_ | with_reducible refine w_set ?_ | with_reducible refine w_par ?_ | with_reducible refine w_expr ?_ | with_reducible refine w_ret ?_ | with_reducible refine w_retN ?_ | with_reducible refine w_pass ?_ | with_reducible refine w_break ?_ | with_reducible refine w_cont ?_ | with_reducible refine w_seq ?_ | with_reducible refine w_sif ?_ | with_reducible refine x_add ?_ | with_reducible refine x_addI ?_ | with_reducible refine x_sub ?_ | with_reducible refine x_neg ?_ | with_reducible refine x_lt ?_ | with_reducible refine x_le ?_ | with_reducible refine x_gt ?_ | with_reducible refine x_ge ?_ | with_reducible refine x_eqS ?_ | with_reducible refine x_eq ?_ | with_reducible refine x_ne ?_ | with_reducible refine x_isN ?_ | with_reducible refine x_notN ?_ | with_reducible refine x_isB ?_ | with_reducible refine x_notB ?_ | with_reducible refine x_lenL ?_ | with_reducible refine x_lenT ?_ | with_reducible refine x_max2 ?_ | with_reducible refine x_min2 ?_ | with_reducible refine x_abs ?_ | with_reducible refine x_tupleL ?_ | with_reducible refine x_tupleT ?_ | with_reducible refine x_partL ?_ | with_reducible refine x_partT ?_ | with_reducible refine x_listL ?_ | with_reducible refine x_listT ?_ | with_reducible refine x_iii ?_ | with_reducible refine x_ibi ?_ | with_reducible refine x_iss ?_ | with_reducible refine x_itt ?_ | with_reducible refine x_ill ?_ | with_reducible refine c_true ?_ | with_reducible refine c_false ?_ | with_reducible refine c_nt ?_ | with_reducible refine c_nf ?_ | with_reducible refine c_not ?_ | ((with_reducible apply w_FI); · rfl) | ((with_reducible apply w_oIx); · rfl) | ((with_reducible apply w_oLen); · rfl) | ((with_reducible apply w_oBin); · rfl) | ((with_reducible apply w_consO); · rfl) | ((with_reducible apply w_aug); · rfl) | ((with_reducible apply w_app); · rfl) | ((with_reducible apply w_oset); · rfl) | ((with_reducible apply w_ext); · rfl) | ((with_reducible apply w_retO); · rfl) | ((with_reducible apply w_frz); · rfl) | ((with_reducible apply e_ow); · rfl) | with_reducible refine e_bl ?_ | with_reducible refine e_int ?_ | with_reducible refine e_lst ?_ | with_reducible refine e_tup ?_ | with_reducible refine e_seqL ?_ | with_reducible refine e_seqT ?_ | with_reducible refine e_zipL ?_ | with_reducible refine e_zipT ?_ | with_reducible refine w_partI ?_ | with_reducible refine w_iSeq ?_ | with_reducible refine w_iEnum ?_ | with_reducible refine w_new ?_ | with_reducible refine w_rev ?_ | with_reducible refine w_revT ?_ | with_reducible refine w_slice ?_ | with_reducible refine y_le ?_ | with_reducible refine y_lt ?_ | with_reducible refine y_ge ?_ | with_reducible refine y_gt ?_ | ((with_reducible apply x_ixT); · rfl) | ((with_reducible apply x_ixL); · rfl) | ((with_reducible apply e_at); · rfl) | ((with_reducible apply x_mul); · rfl) | ((with_reducible apply e_ix); · rfl) | ((with_reducible apply x_div); · decide) | ((with_reducible apply x_mod); · decide) | with_reducible refine w_lst ?_ | with_reducible refine w_tup ?_ | ((with_reducible apply e_cap); · exact Nat.le_of_ble_eq_true rfl) | ((with_reducible apply e_set); · (simp only [List.set_cons_zero, List.set_cons_succ]; rfl)) | ((with_reducible apply e_setL); (· rfl); (· (simp only [List.set_cons_zero, List.set_cons_succ]; rfl))) | ((with_reducible apply e_par); (· rfl); (· (simp only [List.set_cons_zero, List.set_cons_succ]; rfl))) | ((with_reducible apply e_par3); (· rfl); (· (simp only [List.set_cons_zero, List.set_cons_succ]; rfl))) | ((with_reducible apply e_pt); (· rfl); (· (simp only [List.set_cons_zero, List.set_cons_succ]; rfl))) | ((with_reducible apply e_pT); · (simp only [pTs, pN, List.length_cons, List.length_nil, List.set_cons_zero, List.set_cons_succ, Nat.reduceAdd, Nat.reduceLT, ite_true, Option.some.injEq]; rfl))))
    refine w_draw hs1 (by omega) (by omega) (by omega) fun k s2 hk0 hk1 hs2 => ?_
    (repeat' (first | ((with_reducible refine c_decT ?_ ?_); · first | decide | rfl) | ((with_reducible refine c_decF ?_ ?_); · decide) | with_reducible refine w_seq ?_ | ((with_reducible apply w_var); · rfl) | with_reducible refine w_setN ?_ | with_reducible refine w_snew ?_ | with_reducible refine w_C ?_ | with_reducible refine w_bin ?_ | with_reducible refine w_un ?_ | with_reducible refine w_isi ?_ | with_reducible refine w_isi2 ?_ | with_reducible refine w_chain ?_ | with_reducible refine w_if ?_ | with_reducible refine w_nil ?_ | with_reducible refine w_cons ?_ | with_reducible refine w_F ?_ | with_reducible refine w_Fb ?_ | with_reducible refine w_FN ?_ | with_reducible refine w_noPart ?_ | with_reducible refine w_slice ?_ | with_reducible refine w_val ?_ | with_reducible refine w_tAnd ?_ | with_reducible refine w_tOr ?_ | with_reducible refine w_tNot ?_ | with_reducible refine w_tYes ?_ | with_reducible refine w_and ?_ | with_reducible refine w_or ?_ | with_reducible refine w_not ?_ | with_reducible refine w_iRng ?_ | with_reducible refine w_iRngD ?_ | with_reducible refine w_iZip ?_ | with_reducible refine w_fr ?_ | with_reducible refine w_tupL ?_ | with_reducible refine w_im ?_ | with_reducible refine w_ow ?_ | with_reducible refine w_set ?_ | with_reducible refine w_par ?_ | with_reducible refine w_expr ?_ | with_reducible refine w_ret ?_ | with_reducible refine w_retN ?_ | with_reducible refine w_pass ?_ | with_reducible refine w_break ?_ | with_reducible refine w_cont ?_ | with_reducible refine w_seq ?_ | with_reducible refine w_sif ?_ | with_reducible refine x_add ?_ | with_reducible refine x_addI ?_ | with_reducible refine x_sub ?_ | with_reducible refine x_neg ?_ | with_reducible refine x_lt ?_ | with_reducible refine x_le ?_ | with_reducible refine x_gt ?_ | with_reducible refine x_ge ?_ | with_reducible refine x_eqS ?_ | with_reducible refine x_eq ?_ | with_reducible refine x_ne ?_ | with_reducible refine x_isN ?_ | with_reducible refine x_notN ?_ | with_reducible refine x_isB ?_ | with_reducible refine x_notB ?_ | with_reducible refine x_lenL ?_ | with_reducible refine x_lenT ?_ | with_reducible refine x_max2 ?_ | with_reducible refine x_min2 ?_ | with_reducible refine x_abs ?_ | with_reducible refine x_tupleL ?_ | with_reducible refine x_tupleT ?_ | with_reducible refine x_partL ?_ | with_reducible refine x_partT ?_ | with_reducible refine x_listL ?_ | with_reducible refine x_listT ?_ | with_reducible refine x_iii ?_ | with_reducible refine x_ibi ?_ | with_reducible refine x_iss ?_ | with_reducible refine x_itt ?_ | with_reducible refine x_ill ?_ | with_reducible refine c_true ?_ | with_reducible refine c_false ?_ | with_reducible refine c_nt ?_ | with_reducible refine c_nf ?_ | with_reducible refine c_not ?_ | ((with_reducible apply w_FI); · rfl) | ((with_reducible apply w_oIx); · rfl) | ((with_reducible apply w_oLen); · rfl) | ((with_reducible apply w_oBin); · rfl) | ((with_reducible apply w_consO); · rfl) | ((with_reducible apply w_aug); · rfl) | ((with_reducible apply w_app); · rfl) | ((with_reducible apply w_oset); · rfl) | ((with_reducible apply w_ext); · rfl) | ((with_reducible apply w_retO); · rfl) | ((with_reducible apply w_frz); · rfl) | ((with_reducible apply e_ow); · rfl) | with_reducible refine e_bl ?_ | with_reducible refine e_int ?_ | with_reducible refine e_lst ?_ | with_reducible refine e_tup ?_ | with_reducible refine e_seqL ?_ | with_reducible refine e_seqT ?_ | with_reducible refine e_zipL ?_ | with_reducible refine e_zipT ?_ | with_reducible refine w_partI ?_ | with_reducible refine w_iSeq ?_ | with_reducible refine w_iEnum ?_ | with_reducible refine w_new ?_ | with_reducible refine w_rev ?_ | with_reducible refine w_revT ?_ | with_reducible refine w_slice ?_ | with_reducible refine y_le ?_ | with_reducible refine y_lt ?_ | with_reducible refine y_ge ?_ | with_reducible refine y_gt ?_ | ((with_reducible apply x_ixT); · rfl) | ((with_reducible apply x_ixL); · rfl) | ((with_reducible apply e_at); · rfl) | ((with_reducible apply x_mul); · rfl) | ((with_reducible apply e_ix); · rfl) | ((with_reducible apply x_div); · decide) | ((with_reducible apply x_mod); · decide) | with_reducible refine w_lst ?_ | with_reducible refine w_tup ?_ | ((with_reducible apply e_cap); · exact Nat.le_of_ble_eq_true rfl) | ((with_reducible apply e_set); · (simp only [List.set_cons_zero, List.set_cons_succ]; rfl)) | ((with_reducible apply e_setL); (· rfl); (· (simp only [List.set_cons_zero, List.set_cons_succ]; rfl))) | ((with_reducible apply e_par); (· rfl); (· (simp only [List.set_cons_zero, List.set_cons_succ]; rfl))) | ((with_reducible apply e_par3); (· rfl); (· (simp only [List.set_cons_zero, List.set_cons_succ]; rfl))) | ((with_reducible apply e_pt); (· rfl); (· (simp only [List.set_cons_zero, List.set_cons_succ]; rfl))) | ((with_reducible apply e_pT); · (simp only [pTs, pN, List.length_cons, List.length_nil, List.set_cons_zero, List.set_cons_succ, Nat.reduceAdd, Nat.reduceLT, ite_true, Option.some.injEq]; rfl))))
    refine e_rng (by decide) (inR_of (by omega) (by omega)) ?_
    refine ⟨s2, [], .un, .un, .un, rfl, ?_, (fun x hx => nomatch hx), hs2⟩
    rw [rng_zero, iL_len, len_upto]
    simp only [List.length_nil]
    omega
  · rintro d ds e ⟨s', cs, x5, x6, x7, rfl, h1, h2, h3⟩
    simp only [List.length_cons] at h1
    (repeat' (first | ((with_reducible refine c_decT ?_ ?_); · first | decide | rfl) | ((with_reducible refine c_decF ?_ ?_); · decide) | with_reducible refine w_seq ?_ | ((with_reducible apply w_var); · rfl) | with_reducible refine w_setN ?_ | with_reducible refine w_snew ?_ | with_reducible refine w_C ?_ | with_reducible refine w_bin ?_ | with_reducible refine w_un ?_ | with_reducible refine w_isi ?_ | with_reducible refine w_isi2 ?_ | with_reducible refine w_chain ?_ | with_reducible refine w_if ?_ | with_reducible refine w_nil ?_ | with_reducible refine w_cons ?_ | with_reducible refine w_F ?_ | with_reducible refine w_Fb ?_ | with_reducible refine w_FN ?_ | with_reducible refine w_noPart ?_ | with_reducible refine w_slice ?_ | with_reducible refine w_val ?_ | with_reducible refine w_tAnd ?_ | with_reducible refine w_tOr ?_ | with_reducible refine w_tNot ?_ | with_reducible refine w_tYes ?_ | with_reducible refine w_and ?_ | with_reducible refine w_or ?_ | with_reducible refine w_not ?_ | with_reducible refine w_iRng ?_ | with_reducible refine w_iRngD ?_ | with_reducible refine w_iZip ?_ | with_reducible refine w_fr ?_ | with_reducible refine w_tupL ?_ | with_reducible refine w_im ?_ | with_reducible refine w_ow ?_ | with_reducible refine w_set ?_ | with_reducible refine w_par ?_ | with_reducible refine w_expr ?_ | with_reducible refine w_ret ?_ | with_reducible refine w_retN ?_ | with_reducible refine w_pass ?_ | with_reducible refine w_break ?_ | with_reducible refine w_cont ?_ | with_reducible refine w_seq ?_ | with_reducible refine w_sif ?_ | with_reducible refine x_add ?_ | with_reducible refine x_addI ?_ | with_reducible refine x_sub ?_ | with_reducible refine x_neg ?_ | with_reducible refine x_lt ?_ | with_reducible refine x_le ?_ | with_reducible refine x_gt ?_ | with_reducible refine x_ge ?_ | with_reducible refine x_eqS ?_ | with_reducible refine x_eq ?_ | with_reducible refine x_ne ?_ | with_reducible refine x_isN ?_ | with_reducible refine x_notN ?_ | with_reducible refine x_isB ?_ | with_reducible refine x_notB ?_ | with_reducible refine x_lenL ?_ | with_reducible refine x_lenT ?_ | with_reducible refine x_max2 ?_ | with_reducible refine x_min2 ?_ | with_reducible refine x_abs ?_ | with_reducible refine x_tupleL ?_ | with_reducible refine x_tupleT ?_ | with_reducible refine x_partL ?_ | with_reducible refine x_partT ?_ | with_reducible refine x_listL ?_ | with_reducible refine x_listT ?_ | with_reducible refine x_iii ?_ | with_reducible refine x_ibi ?_ | with_reducible refine x_iss ?_ | with_reducible refine x_itt ?_ | with_reducible refine x_ill ?_ | with_reducible refine c_true ?_ | with_reducible refine c_false ?_ | with_reducible refine c_nt ?_ | with_reducible refine c_nf ?_ | with_reducible refine c_not ?_ | ((with_reducible apply w_FI); · rfl) | ((with_reducible apply w_oIx); · rfl) | ((with_reducible apply w_oLen); · rfl) | ((with_reducible apply w_oBin); · rfl) | ((with_reducible apply w_consO); · rfl) | ((with_reducible apply w_aug); · rfl) | ((with_reducible apply w_app); · rfl) | ((with_reducible apply w_oset); · rfl) | ((with_reducible apply w_ext); · rfl) | ((with_reducible apply w_retO); · rfl) | ((with_reducible apply w_frz); · rfl) | ((with_reducible apply e_ow); · rfl) | with_reducible refine e_bl ?_ | with_reducible refine e_int ?_ | with_reducible refine e_lst ?_ | with_reducible refine e_tup ?_ | with_reducible refine e_seqL ?_ | with_reducible refine e_seqT ?_ | with_reducible refine e_zipL ?_ | with_reducible refine e_zipT ?_ | with_reducible refine w_partI ?_ | with_reducible refine w_iSeq ?_ | with_reducible refine w_iEnum ?_ | with_reducible refine w_new ?_ | with_reducible refine w_rev ?_ | with_reducible refine w_revT ?_ | with_reducible refine w_slice ?_ | with_reducible refine y_le ?_ | with_reducible refine y_lt ?_ | with_reducible refine y_ge ?_ | with_reducible refine y_gt ?_ | ((with_reducible apply x_ixT); · rfl) | ((with_reducible apply x_ixL); · rfl) | ((with_reducible apply e_at); · rfl) | ((with_reducible apply x_mul); · rfl) | ((with_reducible apply e_ix); · rfl) | ((with_reducible apply x_div); · decide) | ((with_reducible apply x_mod); · decide) | with_reducible refine w_lst ?_ | with_reducible refine w_tup ?_ | ((with_reducible apply e_cap); · exact Nat.le_of_ble_eq_true rfl) | ((with_reducible apply e_set); · (simp only [List.set_cons_zero, List.set_cons_succ]; rfl)) | ((with_reducible apply e_setL); (· rfl); (· (simp only [List.set_cons_zero, List.set_cons_succ]; rfl))) | ((with_reducible apply e_par); (· rfl); (· (simp only [List.set_cons_zero, List.set_cons_succ]; rfl))) | ((with_reducible apply e_par3); (· rfl); (· (simp only [List.set_cons_zero, List.set_cons_succ]; rfl))) | ((with_reducible apply e_pt); (· rfl); (· (simp only [List.set_cons_zero, List.set_cons_succ]; rfl))) | ((with_reducible apply e_pT); · (simp only [pTs, pN, List.length_cons, List.length_nil, List.set_cons_zero, List.set_cons_succ, Nat.reduceAdd, Nat.reduceLT, ite_true, Option.some.injEq]; rfl))))
    refine w_draw h3 (by omega) (by omega) (by omega) fun k1 s2 hk0 hk1 hs2 => ?_
    (repeat' (first | ((with_reducible refine c_decT ?_ ?_); · first | decide | rfl) | ((with_reducible refine c_decF ?_ ?_); · decide) | with_reducible refine w_seq ?_ | ((with_reducible apply w_var); · rfl) | with_reducible refine w_setN ?_ | with_reducible refine w_snew ?_ | with_reducible refine w_C ?_ | with_reducible refine w_bin ?_ | with_reducible refine w_un ?_ | with_reducible refine w_isi ?_ | with_reducible refine w_isi2 ?_ | with_reducible refine w_chain ?_ | with_reducible refine w_if ?_ | with_reducible refine w_nil ?_ | with_reducible refine w_cons ?_ | with_reducible refine w_F ?_ | with_reducible refine w_Fb ?_ | with_reducible refine w_FN ?_ | with_reducible refine w_noPart ?_ | with_reducible refine w_slice ?_ | with_reducible refine w_val ?_ | with_reducible refine w_tAnd ?_ | with_reducible refine w_tOr ?_ | with_reducible refine w_tNot ?_ | with_reducible refine w_tYes ?_ | with_reducible refine w_and ?_ | with_reducible refine w_or ?_ | with_reducible refine w_not ?_ | with_reducible refine w_iRng ?_ | with_reducible refine w_iRngD ?_ | with_reducible refine w_iZip ?_ | with_reducible refine w_fr ?_ | with_reducible refine w_tupL ?_ | with_reducible refine w_im ?_ | with_reducible refine w_ow ?_ | with_reducible refine w_set ?_ | with_reducible refine w_par ?_ | with_reducible refine w_expr ?_ | with_reducible refine w_ret ?_ | with_reducible refine w_retN ?_ | with_reducible refine w_pass ?_ | with_reducible refine w_break ?_ | with_reducible refine w_cont ?_ | with_reducible refine w_seq ?_ | with_reducible refine w_sif ?_ | with_reducible refine x_add ?_ | with_reducible refine x_addI ?_ | with_reducible refine x_sub ?_ | with_reducible refine x_neg ?_ | with_reducible refine x_lt ?_ | with_reducible refine x_le ?_ | with_reducible refine x_gt ?_ | with_reducible refine x_ge ?_ | with_reducible refine x_eqS ?_ | with_reducible refine x_eq ?_ | with_reducible refine x_ne ?_ | with_reducible refine x_isN ?_ | with_reducible refine x_notN ?_ | with_reducible refine x_isB ?_ | with_reducible refine x_notB ?_ | with_reducible refine x_lenL ?_ | with_reducible refine x_lenT ?_ | with_reducible refine x_max2 ?_ | with_reducible refine x_min2 ?_ | with_reducible refine x_abs ?_ | with_reducible refine x_tupleL ?_ | with_reducible refine x_tupleT ?_ | with_reducible refine x_partL ?_ | with_reducible refine x_partT ?_ | with_reducible refine x_listL ?_ | with_reducible refine x_listT ?_ | with_reducible refine x_iii ?_ | with_reducible refine x_ibi ?_ | with_reducible refine x_iss ?_ | with_reducible refine x_itt ?_ | with_reducible refine x_ill ?_ | with_reducible refine c_true ?_ | with_reducible refine c_false ?_ | with_reducible refine c_nt ?_ | with_reducible refine c_nf ?_ | with_reducible refine c_not ?_ | ((with_reducible apply w_FI); · rfl) | ((with_reducible apply w_oIx); · rfl) | ((with_reducible apply w_oLen); · rfl) | ((with_reducible apply w_oBin); · rfl) | ((with_reducible apply w_consO); · rfl) | ((with_reducible apply w_aug); · rfl) | ((with_reducible apply w_app); · rfl) | ((with_reducible apply w_oset); · rfl) | ((with_reducible apply w_ext); · rfl) | ((with_reducible apply w_retO); · rfl) | ((with_reducible apply w_frz); · rfl) | ((with_reducible apply e_ow); · rfl) | with_reducible refine e_bl ?_ | with_reducible refine e_int ?_ | with_reducible refine e_lst ?_ | with_reducible refine e_tup ?_ | with_reducible refine e_seqL ?_ | with_reducible refine e_seqT ?_ | with_reducible refine e_zipL ?_ | with_reducible refine e_zipT ?_ | with_reducible refine w_partI ?_ | with_reducible refine w_iSeq ?_ | with_reducible refine w_iEnum ?_ | with_reducible refine w_new ?_ | with_reducible refine w_rev ?_ | with_reducible refine w_revT ?_ | with_reducible refine w_slice ?_ | with_reducible refine y_le ?_ | with_reducible refine y_lt ?_ | with_reducible refine y_ge ?_ | with_reducible refine y_gt ?_ | ((with_reducible apply x_ixT); · rfl) | ((with_reducible apply x_ixL); · rfl) | ((with_reducible apply e_at); · rfl) | ((with_reducible apply x_mul); · rfl) | ((with_reducible apply e_ix); · rfl) | ((with_reducible apply x_div); · decide) | ((with_reducible apply x_mod); · decide) | with_reducible refine w_lst ?_ | with_reducible refine w_tup ?_ | ((with_reducible apply e_cap); · exact Nat.le_of_ble_eq_true rfl) | ((with_reducible apply e_set); · (simp only [List.set_cons_zero, List.set_cons_succ]; rfl)) | ((with_reducible apply e_setL); (· rfl); (· (simp only [List.set_cons_zero, List.set_cons_succ]; rfl))) | ((with_reducible apply e_par); (· rfl); (· (simp only [List.set_cons_zero, List.set_cons_succ]; rfl))) | ((with_reducible apply e_par3); (· rfl); (· (simp only [List.set_cons_zero, List.set_cons_succ]; rfl))) | ((with_reducible apply e_pt); (· rfl); (· (simp only [List.set_cons_zero, List.set_cons_succ]; rfl))) | ((with_reducible apply e_pT); · (simp only [pTs, pN, List.length_cons, List.length_nil, List.set_cons_zero, List.set_cons_succ, Nat.reduceAdd, Nat.reduceLT, ite_true, Option.some.injEq]; rfl))))
    refine w_draw hs2 (by omega) (by omega) (by omega) fun k2 s3 hk2 hk3 hs3 => ?_
    (repeat' (first | ((with_reducible refine c_decT ?_ ?_); · first | decide | rfl) | ((with_reducible refine c_decF ?_ ?_); · decide) | with_reducible refine w_seq ?_ | ((with_reducible apply w_var); · rfl) | with_reducible refine w_setN ?_ | with_reducible refine w_snew ?_ | with_reducible refine w_C ?_ | with_reducible refine w_bin ?_ | with_reducible refine w_un ?_ | with_reducible refine w_isi ?_ | with_reducible refine w_isi2 ?_ | with_reducible refine w_chain ?_ | with_reducible refine w_if ?_ | with_reducible refine w_nil ?_ | with_reducible refine w_cons ?_ | with_reducible refine w_F ?_ | with_reducible refine w_Fb ?_ | with_reducible refine w_FN ?_ | with_reducible refine w_noPart ?_ | with_reducible refine w_slice ?_ | with_reducible refine w_val ?_ | with_reducible refine w_tAnd ?_ | with_reducible refine w_tOr ?_ | with_reducible refine w_tNot ?_ | with_reducible refine w_tYes ?_ | with_reducible refine w_and ?_ | with_reducible refine w_or ?_ | with_reducible refine w_not ?_ | with_reducible refine w_iRng ?_ | with_reducible refine w_iRngD ?_ | with_reducible refine w_iZip ?_ | with_reducible refine w_fr ?_ | with_reducible refine w_tupL ?_ | with_reducible refine w_im ?_ | with_reducible refine w_ow ?_ | with_reducible refine w_set ?_ | with_reducible refine w_par ?_ | with_reducible refine w_expr ?_ | with_reducible refine w_ret ?_ | with_reducible refine w_retN ?_ | with_reducible refine w_pass ?_ | with_reducible refine w_break ?_ | with_reducible refine w_cont ?_ | with_reducible refine w_seq ?_ | with_reducible refine w_sif ?_ | with_reducible refine x_add ?_ | with_reducible refine x_addI ?_ | with_reducible refine x_sub ?_ | with_reducible refine x_neg ?_ | with_reducible refine x_lt ?_ | with_reducible refine x_le ?_ | with_reducible refine x_gt ?_ | with_reducible refine x_ge ?_ | with_reducible refine x_eqS ?_ | with_reducible refine x_eq ?_ | with_reducible refine x_ne ?_ | with_reducible refine x_isN ?_ | with_reducible refine x_notN ?_ | with_reducible refine x_isB ?_ | with_reducible refine x_notB ?_ | with_reducible refine x_lenL ?_ | with_reducible refine x_lenT ?_ | with_reducible refine x_max2 ?_ | with_reducible refine x_min2 ?_ | with_reducible refine x_abs ?_ | with_reducible refine x_tupleL ?_ | with_reducible refine x_tupleT ?_ | with_reducible refine x_partL ?_ | with_reducible refine x_partT ?_ | with_reducible refine x_listL ?_ | with_reducible refine x_listT ?_ | with_reducible refine x_iii ?_ | with_reducible refine x_ibi ?_ | with_reducible refine x_iss ?_ | with_reducible refine x_itt ?_ | with_reducible refine x_ill ?_ | with_reducible refine c_true ?_ | with_reducible refine c_false ?_ | with_reducible refine c_nt ?_ | with_reducible refine c_nf ?_ | with_reducible refine c_not ?_ | ((with_reducible apply w_FI); · rfl) | ((with_reducible apply w_oIx); · rfl) | ((with_reducible apply w_oLen); · rfl) | ((with_reducible apply w_oBin); · rfl) | ((with_reducible apply w_consO); · rfl) | ((with_reducible apply w_aug); · rfl) | ((with_reducible apply w_app); · rfl) | ((with_reducible apply w_oset); · rfl) | ((with_reducible apply w_ext); · rfl) | ((with_reducible apply w_retO); · rfl) | ((with_reducible apply w_frz); · rfl) | ((with_reducible apply e_ow); · rfl) | with_reducible refine e_bl ?_ | with_reducible refine e_int ?_ | with_reducible refine e_lst ?_ | with_reducible refine e_tup ?_ | with_reducible refine e_seqL ?_ | with_reducible refine e_seqT ?_ | with_reducible refine e_zipL ?_ | with_reducible refine e_zipT ?_ | with_reducible refine w_partI ?_ | with_reducible refine w_iSeq ?_ | with_reducible refine w_iEnum ?_ | with_reducible refine w_new ?_ | with_reducible refine w_rev ?_ | with_reducible refine w_revT ?_ | with_reducible refine w_slice ?_ | with_reducible refine y_le ?_ | with_reducible refine y_lt ?_ | with_reducible refine y_ge ?_ | with_reducible refine y_gt ?_ | ((with_reducible apply x_ixT); · rfl) | ((with_reducible apply x_ixL); · rfl) | ((with_reducible apply e_at); · rfl) | ((with_reducible apply x_mul); · rfl) | ((with_reducible apply e_ix); · rfl) | ((with_reducible apply x_div); · decide) | ((with_reducible apply x_mod); · decide) | with_reducible refine w_lst ?_ | with_reducible refine w_tup ?_ | ((with_reducible apply e_cap); · exact Nat.le_of_ble_eq_true rfl) | ((with_reducible apply e_set); · (simp only [List.set_cons_zero, List.set_cons_succ]; rfl)) | ((with_reducible apply e_setL); (· rfl); (· (simp only [List.set_cons_zero, List.set_cons_succ]; rfl))) | ((with_reducible apply e_par); (· rfl); (· (simp only [List.set_cons_zero, List.set_cons_succ]; rfl))) | ((with_reducible apply e_par3); (· rfl); (· (simp only [List.set_cons_zero, List.set_cons_succ]; rfl))) | ((with_reducible apply e_pt); (· rfl); (· (simp only [List.set_cons_zero, List.set_cons_succ]; rfl))) | ((with_reducible apply e_pT); · (simp only [pTs, pN, List.length_cons, List.length_nil, List.set_cons_zero, List.set_cons_succ, Nat.reduceAdd, Nat.reduceLT, ite_true, Option.some.injEq]; rfl))))
    refine w_choice hs3 (by omega) (by simp) (by simp) fun d2 s4 hd2 hs4 => ?_
    have hli : ∃ l : Int, d2 = .int l ∧ 0 ≤ l ∧ l ≤ c := by
      simp only [List.mem_cons, List.not_mem_nil, or_false] at hd2
      rcases hd2 with rfl | rfl | rfl | rfl
      · exact ⟨_, rfl, by omega, by omega⟩
      · exact ⟨_, rfl, by omega, by omega⟩
      · exact ⟨_, rfl, by omega, by omega⟩
      · exact ⟨_, rfl, by omega, by omega⟩
    obtain ⟨l, rfl, hl1, hl2⟩ := hli
    (repeat' (first | ((with_reducible refine c_decT ?_ ?_); · first | decide | rfl) | ((with_reducible refine c_decF ?_ ?_); · decide) | with_reducible refine w_seq ?_ | ((with_reducible apply w_var); · rfl) | with_reducible refine w_setN ?_ | with_reducible refine w_snew ?_ | with_reducible refine w_C ?_ | with_reducible refine w_bin ?_ | with_reducible refine w_un ?_ | with_reducible refine w_isi ?_ | with_reducible refine w_isi2 ?_ | with_reducible refine w_chain ?_ | with_reducible refine w_if ?_ | with_reducible refine w_nil ?_ | with_reducible refine w_cons ?_ | with_reducible refine w_F ?_ | with_reducible refine w_Fb ?_ | with_reducible refine w_FN ?_ | with_reducible refine w_noPart ?_ | with_reducible refine w_slice ?_ | with_reducible refine w_val ?_ | with_reducible refine w_tAnd ?_ | with_reducible refine w_tOr ?_ | with_reducible refine w_tNot ?_ | with_reducible refine w_tYes ?_ | with_reducible refine w_and ?_ | with_reducible refine w_or ?_ | with_reducible refine w_not ?_ | with_reducible refine w_iRng ?_ | with_reducible refine w_iRngD ?_ | with_reducible refine w_iZip ?_ | with_reducible refine w_fr ?_ | with_reducible refine w_tupL ?_ | with_reducible refine w_im ?_ | with_reducible refine w_ow ?_ | with_reducible refine w_set ?_ | with_reducible refine w_par ?_ | with_reducible refine w_expr ?_ | with_reducible refine w_ret ?_ | with_reducible refine w_retN ?_ | with_reducible refine w_pass ?_ | with_reducible refine w_break ?_ | with_reducible refine w_cont ?_ | with_reducible refine w_seq ?_ | with_reducible refine w_sif ?_ | with_reducible refine x_add ?_ | with_reducible refine x_addI ?_ | with_reducible refine x_sub ?_ | with_reducible refine x_neg ?_ | with_reducible refine x_lt ?_ | with_reducible refine x_le ?_ | with_reducible refine x_gt ?_ | with_reducible refine x_ge ?_ | with_reducible refine x_eqS ?_ | with_reducible refine x_eq ?_ | with_reducible refine x_ne ?_ | with_reducible refine x_isN ?_ | with_reducible refine x_notN ?_ | with_reducible refine x_isB ?_ | with_reducible refine x_notB ?_ | with_reducible refine x_lenL ?_ | with_reducible refine x_lenT ?_ | with_reducible refine x_max2 ?_ | with_reducible refine x_min2 ?_ | with_reducible refine x_abs ?_ | with_reducible refine x_tupleL ?_ | with_reducible refine x_tupleT ?_ | with_reducible refine x_partL ?_ | with_reducible refine x_partT ?_ | with_reducible refine x_listL ?_ | with_reducible refine x_listT ?_ | with_reducible refine x_iii ?_ | with_reducible refine x_ibi ?_ | with_reducible refine x_iss ?_ | with_reducible refine x_itt ?_ | with_reducible refine x_ill ?_ | with_reducible refine c_true ?_ | with_reducible refine c_false ?_ | with_reducible refine c_nt ?_ | with_reducible refine c_nf ?_ | with_reducible refine c_not ?_ | ((with_reducible apply w_FI); · rfl) | ((with_reducible apply w_oIx); · rfl) | ((with_reducible apply w_oLen); · rfl) | ((with_reducible apply w_oBin); · rfl) | ((with_reducible apply w_consO); · rfl) | ((with_reducible apply w_aug); · rfl) | ((with_reducible apply w_app); · rfl) | ((with_reducible apply w_oset); · rfl) | ((with_reducible apply w_ext); · rfl) | ((with_reducible apply w_retO); · rfl) | ((with_reducible apply w_frz); · rfl) | ((with_reducible apply e_ow); · rfl) | with_reducible refine e_bl ?_ | with_reducible refine e_int ?_ | with_reducible refine e_lst ?_ | with_reducible refine e_tup ?_ | with_reducible refine e_seqL ?_ | with_reducible refine e_seqT ?_ | with_reducible refine e_zipL ?_ | with_reducible refine e_zipT ?_ | with_reducible refine w_partI ?_ | with_reducible refine w_iSeq ?_ | with_reducible refine w_iEnum ?_ | with_reducible refine w_new ?_ | with_reducible refine w_rev ?_ | with_reducible refine w_revT ?_ | with_reducible refine w_slice ?_ | with_reducible refine y_le ?_ | with_reducible refine y_lt ?_ | with_reducible refine y_ge ?_ | with_reducible refine y_gt ?_ | ((with_reducible apply x_ixT); · rfl) | ((with_reducible apply x_ixL); · rfl) | ((with_reducible apply e_at); · rfl) | ((with_reducible apply x_mul); · rfl) | ((with_reducible apply e_ix); · rfl) | ((with_reducible apply x_div); · decide) | ((with_reducible apply x_mod); · decide) | with_reducible refine w_lst ?_ | with_reducible refine w_tup ?_ | ((with_reducible apply e_cap); · exact Nat.le_of_ble_eq_true rfl) | ((with_reducible apply e_set); · (simp only [List.set_cons_zero, List.set_cons_succ]; rfl)) | ((with_reducible apply e_setL); (· rfl); (· (simp only [List.set_cons_zero, List.set_cons_succ]; rfl))) | ((with_reducible apply e_par); (· rfl); (· (simp only [List.set_cons_zero, List.set_cons_succ]; rfl))) | ((with_reducible apply e_par3); (· rfl); (· (simp only [List.set_cons_zero, List.set_cons_succ]; rfl))) | ((with_reducible apply e_pt); (· rfl); (· (simp only [List.set_cons_zero, List.set_cons_succ]; rfl))) | ((with_reducible apply e_pT); · (simp only [pTs, pN, List.length_cons, List.length_nil, List.set_cons_zero, List.set_cons_succ, Nat.reduceAdd, Nat.reduceLT, ite_true, Option.some.injEq]; rfl))))
    refine w_choice hs4 (by omega) (by simp) (by simp) fun d3 s5 hd3 hs5 => ?_
    have hk : ∃ ch : Bool, d3 = .str (Cm.nm ⟨ch, 0, 0⟩) := by
      simp only [List.mem_cons, List.not_mem_nil, or_false] at hd3
      rcases hd3 with rfl | rfl
      · exact ⟨true, rfl⟩
      · exact ⟨false, rfl⟩
    obtain ⟨ch, rfl⟩ := hk
    (repeat' (first | ((with_reducible refine c_decT ?_ ?_); · first | decide | rfl) | ((with_reducible refine c_decF ?_ ?_); · decide) | with_reducible refine w_seq ?_ | ((with_reducible apply w_var); · rfl) | with_reducible refine w_setN ?_ | with_reducible refine w_snew ?_ | with_reducible refine w_C ?_ | with_reducible refine w_bin ?_ | with_reducible refine w_un ?_ | with_reducible refine w_isi ?_ | with_reducible refine w_isi2 ?_ | with_reducible refine w_chain ?_ | with_reducible refine w_if ?_ | with_reducible refine w_nil ?_ | with_reducible refine w_cons ?_ | with_reducible refine w_F ?_ | with_reducible refine w_Fb ?_ | with_reducible refine w_FN ?_ | with_reducible refine w_noPart ?_ | with_reducible refine w_slice ?_ | with_reducible refine w_val ?_ | with_reducible refine w_tAnd ?_ | with_reducible refine w_tOr ?_ | with_reducible refine w_tNot ?_ | with_reducible refine w_tYes ?_ | with_reducible refine w_and ?_ | with_reducible refine w_or ?_ | with_reducible refine w_not ?_ | with_reducible refine w_iRng ?_ | with_reducible refine w_iRngD ?_ | with_reducible refine w_iZip ?_ | with_reducible refine w_fr ?_ | with_reducible refine w_tupL ?_ | with_reducible refine w_im ?_ | with_reducible refine w_ow ?_ | with_reducible refine w_set ?_ | with_reducible refine w_par ?_ | with_reducible refine w_expr ?_ | with_reducible refine w_ret ?_ | with_reducible refine w_retN ?_ | with_reducible refine w_pass ?_ | with_reducible refine w_break ?_ | with_reducible refine w_cont ?_ | with_reducible refine w_seq ?_ | with_reducible refine w_sif ?_ | with_reducible refine x_add ?_ | with_reducible refine x_addI ?_ | with_reducible refine x_sub ?_ | with_reducible refine x_neg ?_ | with_reducible refine x_lt ?_ | with_reducible refine x_le ?_ | with_reducible refine x_gt ?_ | with_reducible refine x_ge ?_ | with_reducible refine x_eqS ?_ | with_reducible refine x_eq ?_ | with_reducible refine x_ne ?_ | with_reducible refine x_isN ?_ | with_reducible refine x_notN ?_ | with_reducible refine x_isB ?_ | with_reducible refine x_notB ?_ | with_reducible refine x_lenL ?_ | with_reducible refine x_lenT ?_ | with_reducible refine x_max2 ?_ | with_reducible refine x_min2 ?_ | with_reducible refine x_abs ?_ | with_reducible refine x_tupleL ?_ | with_reducible refine x_tupleT ?_ | with_reducible refine x_partL ?_ | with_reducible refine x_partT ?_ | with_reducible refine x_listL ?_ | with_reducible refine x_listT ?_ | with_reducible refine x_iii ?_ | with_reducible refine x_ibi ?_ | with_reducible refine x_iss ?_ | with_reducible refine x_itt ?_ | with_reducible refine x_ill ?_ | with_reducible refine c_true ?_ | with_reducible refine c_false ?_ | with_reducible refine c_nt ?_ | with_reducible refine c_nf ?_ | with_reducible refine c_not ?_ | ((with_reducible apply w_FI); · rfl) | ((with_reducible apply w_oIx); · rfl) | ((with_reducible apply w_oLen); · rfl) | ((with_reducible apply w_oBin); · rfl) | ((with_reducible apply w_consO); · rfl) | ((with_reducible apply w_aug); · rfl) | ((with_reducible apply w_app); · rfl) | ((with_reducible apply w_oset); · rfl) | ((with_reducible apply w_ext); · rfl) | ((with_reducible apply w_retO); · rfl) | ((with_reducible apply w_frz); · rfl) | ((with_reducible apply e_ow); · rfl) | with_reducible refine e_bl ?_ | with_reducible refine e_int ?_ | with_reducible refine e_lst ?_ | with_reducible refine e_tup ?_ | with_reducible refine e_seqL ?_ | with_reducible refine e_seqT ?_ | with_reducible refine e_zipL ?_ | with_reducible refine e_zipT ?_ | with_reducible refine w_partI ?_ | with_reducible refine w_iSeq ?_ | with_reducible refine w_iEnum ?_ | with_reducible refine w_new ?_ | with_reducible refine w_rev ?_ | with_reducible refine w_revT ?_ | with_reducible refine w_slice ?_ | with_reducible refine y_le ?_ | with_reducible refine y_lt ?_ | with_reducible refine y_ge ?_ | with_reducible refine y_gt ?_ | ((with_reducible apply x_ixT); · rfl) | ((with_reducible apply x_ixL); · rfl) | ((with_reducible apply e_at); · rfl) | ((with_reducible apply x_mul); · rfl) | ((with_reducible apply e_ix); · rfl) | ((with_reducible apply x_div); · decide) | ((with_reducible apply x_mod); · decide) | with_reducible refine w_lst ?_ | with_reducible refine w_tup ?_ | ((with_reducible apply e_cap); · exact Nat.le_of_ble_eq_true rfl) | ((with_reducible apply e_set); · (simp only [List.set_cons_zero, List.set_cons_succ]; rfl)) | ((with_reducible apply e_setL); (· rfl); (· (simp only [List.set_cons_zero, List.set_cons_succ]; rfl))) | ((with_reducible apply e_par); (· rfl); (· (simp only [List.set_cons_zero, List.set_cons_succ]; rfl))) | ((with_reducible apply e_par3); (· rfl); (· (simp only [List.set_cons_zero, List.set_cons_succ]; rfl))) | ((with_reducible apply e_pt); (· rfl); (· (simp only [List.set_cons_zero, List.set_cons_succ]; rfl))) | ((with_reducible apply e_pT); · (simp only [pTs, pN, List.length_cons, List.length_nil, List.set_cons_zero, List.set_cons_succ, Nat.reduceAdd, Nat.reduceLT, ite_true, Option.some.injEq]; rfl))))
    refine w_draw hs5 (by omega) (by omega) (by omega) fun k3 s6 hk4 hk5 hs6 => ?_
    (repeat' (first | ((with_reducible refine c_decT ?_ ?_); · first | decide | rfl) | ((with_reducible refine c_decF ?_ ?_); · decide) | with_reducible refine w_seq ?_ | ((with_reducible apply w_var); · rfl) | with_reducible refine w_setN ?_ | with_reducible refine w_snew ?_ | with_reducible refine w_C ?_ | with_reducible refine w_bin ?_ | with_reducible refine w_un ?_ | with_reducible refine w_isi ?_ | with_reducible refine w_isi2 ?_ | with_reducible refine w_chain ?_ | with_reducible refine w_if ?_ | with_reducible refine w_nil ?_ | with_reducible refine w_cons ?_ | with_reducible refine w_F ?_ | with_reducible refine w_Fb ?_ | with_reducible refine w_FN ?_ | with_reducible refine w_noPart ?_ | with_reducible refine w_slice ?_ | with_reducible refine w_val ?_ | with_reducible refine w_tAnd ?_ | with_reducible refine w_tOr ?_ | with_reducible refine w_tNot ?_ | with_reducible refine w_tYes ?_ | with_reducible refine w_and ?_ | with_reducible refine w_or ?_ | with_reducible refine w_not ?_ | with_reducible refine w_iRng ?_ | with_reducible refine w_iRngD ?_ | with_reducible refine w_iZip ?_ | with_reducible refine w_fr ?_ | with_reducible refine w_tupL ?_ | with_reducible refine w_im ?_ | with_reducible refine w_ow ?_ | with_reducible refine w_set ?_ | with_reducible refine w_par ?_ | with_reducible refine w_expr ?_ | with_reducible refine w_ret ?_ | with_reducible refine w_retN ?_ | with_reducible refine w_pass ?_ | with_reducible refine w_break ?_ | with_reducible refine w_cont ?_ | with_reducible refine w_seq ?_ | with_reducible refine w_sif ?_ | with_reducible refine x_add ?_ | with_reducible refine x_addI ?_ | with_reducible refine x_sub ?_ | with_reducible refine x_neg ?_ | with_reducible refine x_lt ?_ | with_reducible refine x_le ?_ | with_reducible refine x_gt ?_ | with_reducible refine x_ge ?_ | with_reducible refine x_eqS ?_ | with_reducible refine x_eq ?_ | with_reducible refine x_ne ?_ | with_reducible refine x_isN ?_ | with_reducible refine x_notN ?_ | with_reducible refine x_isB ?_ | with_reducible refine x_notB ?_ | with_reducible refine x_lenL ?_ | with_reducible refine x_lenT ?_ | with_reducible refine x_max2 ?_ | with_reducible refine x_min2 ?_ | with_reducible refine x_abs ?_ | with_reducible refine x_tupleL ?_ | with_reducible refine x_tupleT ?_ | with_reducible refine x_partL ?_ | with_reducible refine x_partT ?_ | with_reducible refine x_listL ?_ | with_reducible refine x_listT ?_ | with_reducible refine x_iii ?_ | with_reducible refine x_ibi ?_ | with_reducible refine x_iss ?_ | with_reducible refine x_itt ?_ | with_reducible refine x_ill ?_ | with_reducible refine c_true ?_ | with_reducible refine c_false ?_ | with_reducible refine c_nt ?_ | with_reducible refine c_nf ?_ | with_reducible refine c_not ?_ | ((with_reducible apply w_FI); · rfl) | ((with_reducible apply w_oIx); · rfl) | ((with_reducible apply w_oLen); · rfl) | ((with_reducible apply w_oBin); · rfl) | ((with_reducible apply w_consO); · rfl) | ((with_reducible apply w_aug); · rfl) | ((with_reducible apply w_app); · rfl) | ((with_reducible apply w_oset); · rfl) | ((with_reducible apply w_ext); · rfl) | ((with_reducible apply w_retO); · rfl) | ((with_reducible apply w_frz); · rfl) | ((with_reducible apply e_ow); · rfl) | with_reducible refine e_bl ?_ | with_reducible refine e_int ?_ | with_reducible refine e_lst ?_ | with_reducible refine e_tup ?_ | with_reducible refine e_seqL ?_ | with_reducible refine e_seqT ?_ | with_reducible refine e_zipL ?_ | with_reducible refine e_zipT ?_ | with_reducible refine w_partI ?_ | with_reducible refine w_iSeq ?_ | with_reducible refine w_iEnum ?_ | with_reducible refine w_new ?_ | with_reducible refine w_rev ?_ | with_reducible refine w_revT ?_ | with_reducible refine w_slice ?_ | with_reducible refine y_le ?_ | with_reducible refine y_lt ?_ | with_reducible refine y_ge ?_ | with_reducible refine y_gt ?_ | ((with_reducible apply x_ixT); · rfl) | ((with_reducible apply x_ixL); · rfl) | ((with_reducible apply e_at); · rfl) | ((with_reducible apply x_mul); · rfl) | ((with_reducible apply e_ix); · rfl) | ((with_reducible apply x_div); · decide) | ((with_reducible apply x_mod); · decide) | with_reducible refine w_lst ?_ | with_reducible refine w_tup ?_ | ((with_reducible apply e_cap); · exact Nat.le_of_ble_eq_true rfl) | ((with_reducible apply e_set); · (simp only [List.set_cons_zero, List.set_cons_succ]; rfl)) | ((with_reducible apply e_setL); (· rfl); (· (simp only [List.set_cons_zero, List.set_cons_succ]; rfl))) | ((with_reducible apply e_par); (· rfl); (· (simp only [List.set_cons_zero, List.set_cons_succ]; rfl))) | ((with_reducible apply e_par3); (· rfl); (· (simp only [List.set_cons_zero, List.set_cons_succ]; rfl))) | ((with_reducible apply e_pt); (· rfl); (· (simp only [List.set_cons_zero, List.set_cons_succ]; rfl))) | ((with_reducible apply e_pT); · (simp only [pTs, pN, List.length_cons, List.length_nil, List.set_cons_zero, List.set_cons_succ, Nat.reduceAdd, Nat.reduceLT, ite_true, Option.some.injEq]; rfl))))
    refine ⟨by simp only [schL, List.length_map, cap]; omega, ?_⟩
    refine e_set (e2 := [.ow s6, .im (.int c), .im (.int m), .ow (schL (cs ++ [⟨ch, 1 + k3, l⟩])), .im (.int w), .im d, .im (.int l), .im (.str (Cm.nm ⟨ch, 0, 0⟩))]) (by simp [schL, Cm.d, Cm.nm]) ?_
    refine ⟨s6, cs ++ [⟨ch, 1 + k3, l⟩], _, _, _, rfl, ?_, ?_, ?_⟩
    · simp only [List.length_append, List.length_cons, List.length_nil]; omega
    · intro x hx
      rcases List.mem_append.mp hx with hx | hx
      · exact h2 x hx
      · simp only [List.mem_cons, List.not_mem_nil, or_false] at hx
        subst hx
        exact ⟨by show 1 ≤ 1 + k3; omega, by show 1 + k3 ≤ 60; omega, hl1, hl2⟩
    · have : n + 2 + 5 * (cs ++ [(⟨ch, 1 + k3, l⟩ : Cm)]).length = n + 2 + 5 * cs.length + 1 + 1 + 1 + 1 + 1 := by simp; omega
      rw [this]
      exact hs6
  · rintro e ⟨s', cs, x5, x6, x7, rfl, h1, h2, h3⟩
    simp only [List.length_nil] at h1
    (repeat' (first | ((with_reducible refine c_decT ?_ ?_); · first | decide | rfl) | ((with_reducible refine c_decF ?_ ?_); · decide) | with_reducible refine w_seq ?_ | ((with_reducible apply w_var); · rfl) | with_reducible refine w_setN ?_ | with_reducible refine w_snew ?_ | with_reducible refine w_C ?_ | with_reducible refine w_bin ?_ | with_reducible refine w_un ?_ | with_reducible refine w_isi ?_ | with_reducible refine w_isi2 ?_ | with_reducible refine w_chain ?_ | with_reducible refine w_if ?_ | with_reducible refine w_nil ?_ | with_reducible refine w_cons ?_ | with_reducible refine w_F ?_ | with_reducible refine w_Fb ?_ | with_reducible refine w_FN ?_ | with_reducible refine w_noPart ?_ | with_reducible refine w_slice ?_ | with_reducible refine w_val ?_ | with_reducible refine w_tAnd ?_ | with_reducible refine w_tOr ?_ | with_reducible refine w_tNot ?_ | with_reducible refine w_tYes ?_ | with_reducible refine w_and ?_ | with_reducible refine w_or ?_ | with_reducible refine w_not ?_ | with_reducible refine w_iRng ?_ | with_reducible refine w_iRngD ?_ | with_reducible refine w_iZip ?_ | with_reducible refine w_fr ?_ | with_reducible refine w_tupL ?_ | with_reducible refine w_im ?_ | with_reducible refine w_ow ?_ | with_reducible refine w_set ?_ | with_reducible refine w_par ?_ | with_reducible refine w_expr ?_ | with_reducible refine w_ret ?_ | with_reducible refine w_retN ?_ | with_reducible refine w_pass ?_ | with_reducible refine w_break ?_ | with_reducible refine w_cont ?_ | with_reducible refine w_seq ?_ | with_reducible refine w_sif ?_ | with_reducible refine x_add ?_ | with_reducible refine x_addI ?_ | with_reducible refine x_sub ?_ | with_reducible refine x_neg ?_ | with_reducible refine x_lt ?_ | with_reducible refine x_le ?_ | with_reducible refine x_gt ?_ | with_reducible refine x_ge ?_ | with_reducible refine x_eqS ?_ | with_reducible refine x_eq ?_ | with_reducible refine x_ne ?_ | with_reducible refine x_isN ?_ | with_reducible refine x_notN ?_ | with_reducible refine x_isB ?_ | with_reducible refine x_notB ?_ | with_reducible refine x_lenL ?_ | with_reducible refine x_lenT ?_ | with_reducible refine x_max2 ?_ | with_reducible refine x_min2 ?_ | with_reducible refine x_abs ?_ | with_reducible refine x_tupleL ?_ | with_reducible refine x_tupleT ?_ | with_reducible refine x_partL ?_ | with_reducible refine x_partT ?_ | with_reducible refine x_listL ?_ | with_reducible refine x_listT ?_ | with_reducible refine x_iii ?_ | with_reducible refine x_ibi ?_ | with_reducible refine x_iss ?_ | with_reducible refine x_itt ?_ | with_reducible refine x_ill ?_ | with_reducible refine c_true ?_ | with_reducible refine c_false ?_ | with_reducible refine c_nt ?_ | with_reducible refine c_nf ?_ | with_reducible refine c_not ?_ | ((with_reducible apply w_FI); · rfl) | ((with_reducible apply w_oIx); · rfl) | ((with_reducible apply w_oLen); · rfl) | ((with_reducible apply w_oBin); · rfl) | ((with_reducible apply w_consO); · rfl) | ((with_reducible apply w_aug); · rfl) | ((with_reducible apply w_app); · rfl) | ((with_reducible apply w_oset); · rfl) | ((with_reducible apply w_ext); · rfl) | ((with_reducible apply w_retO); · rfl) | ((with_reducible apply w_frz); · rfl) | ((with_reducible apply e_ow); · rfl) | with_reducible refine e_bl ?_ | with_reducible refine e_int ?_ | with_reducible refine e_lst ?_ | with_reducible refine e_tup ?_ | with_reducible refine e_seqL ?_ | with_reducible refine e_seqT ?_ | with_reducible refine e_zipL ?_ | with_reducible refine e_zipT ?_ | with_reducible refine w_partI ?_ | with_reducible refine w_iSeq ?_ | with_reducible refine w_iEnum ?_ | with_reducible refine w_new ?_ | with_reducible refine w_rev ?_ | with_reducible refine w_revT ?_ | with_reducible refine w_slice ?_ | with_reducible refine y_le ?_ | with_reducible refine y_lt ?_ | with_reducible refine y_ge ?_ | with_reducible refine y_gt ?_ | ((with_reducible apply x_ixT); · rfl) | ((with_reducible apply x_ixL); · rfl) | ((with_reducible apply e_at); · rfl) | ((with_reducible apply x_mul); · rfl) | ((with_reducible apply e_ix); · rfl) | ((with_reducible apply x_div); · decide) | ((with_reducible apply x_mod); · decide) | with_reducible refine w_lst ?_ | with_reducible refine w_tup ?_ | ((with_reducible apply e_cap); · exact Nat.le_of_ble_eq_true rfl) | ((with_reducible apply e_set); · (simp only [List.set_cons_zero, List.set_cons_succ]; rfl)) | ((with_reducible apply e_setL); (· rfl); (· (simp only [List.set_cons_zero, List.set_cons_succ]; rfl))) | ((with_reducible apply e_par); (· rfl); (· (simp only [List.set_cons_zero, List.set_cons_succ]; rfl))) | ((with_reducible apply e_par3); (· rfl); (· (simp only [List.set_cons_zero, List.set_cons_succ]; rfl))) | ((with_reducible apply e_pt); (· rfl); (· (simp only [List.set_cons_zero, List.set_cons_succ]; rfl))) | ((with_reducible apply e_pT); · (simp only [pTs, pN, List.length_cons, List.length_nil, List.set_cons_zero, List.set_cons_succ, Nat.reduceAdd, Nat.reduceLT, ite_true, Option.some.injEq]; rfl))))
    exact ⟨_, _, rfl, rfl, cs, rfl, by omega, h2, h3.mono (by omega)⟩
theorem w_schedule {n : Nat} {s : List D} {c m : Int} {Q : D → List D → Prop} (hs : Src n s) (hn : n ≤ 100000000) (hc : Cok c) (hm0 : 0 ≤ m) (hm1 : m ≤ 100)
    (q : ∀ (cs : List Cm) s', cs.length ≤ m → (∀ x ∈ cs, x.ok c) → Src (n + 1000) s' → Q (schD cs) s') : ∃ d s', f_law_schedule s [.int c, .int m] = some (d, s') ∧ Q d s' := by
  obtain ⟨d, s', h, cs, rfl, h1, h2, h3⟩ := law_schedule_eq hs hn hc hm0 hm1
  exact ⟨_, s', h, q cs s' h1 h2 h3⟩
theorem law_after_eq {l : Int} {c : Cm} (hc : 0 ≤ c.am) : f_law_after [.int l, c.d] = some (.int (aft l c)) := by
  obtain ⟨ch, a, m⟩ := c
  simp only at hc
  cases ch with
  | true =>
    refine run_D (e := [.im (.int l), .im (.tup [.str "charge", .int a, .int m]), .un, .un, .un]) rfl rfl ?_
    unfold c_law_after
    (repeat' (first | ((with_reducible refine c_decT ?_ ?_); · first | decide | rfl) | ((with_reducible refine c_decF ?_ ?_); · decide) | with_reducible refine w_seq ?_ | ((with_reducible apply w_var); · rfl) | with_reducible refine w_setN ?_ | with_reducible refine w_snew ?_ | with_reducible refine w_C ?_ | with_reducible refine w_bin ?_ | with_reducible refine w_un ?_ | with_reducible refine w_isi ?_ | with_reducible refine w_isi2 ?_ | with_reducible refine w_chain ?_ | with_reducible refine w_if ?_ | with_reducible refine w_nil ?_ | with_reducible refine w_cons ?_ | with_reducible refine w_F ?_ | with_reducible refine w_Fb ?_ | with_reducible refine w_FN ?_ | with_reducible refine w_noPart ?_ | with_reducible refine w_slice ?_ | with_reducible refine w_val ?_ | with_reducible refine w_tAnd ?_ | with_reducible refine w_tOr ?_ | with_reducible refine w_tNot ?_ | with_reducible refine w_tYes ?_ | with_reducible refine w_and ?_ | with_reducible refine w_or ?_ | with_reducible refine w_not ?_ | with_reducible refine w_iRng ?_ | with_reducible refine w_iRngD ?_ | with_reducible refine w_iZip ?_ | with_reducible refine w_fr ?_ | with_reducible refine w_tupL ?_ | with_reducible refine w_im ?_ | with_reducible refine w_ow ?_ | with_reducible refine w_set ?_ | with_reducible refine w_par ?_ | with_reducible refine w_expr ?_ | with_reducible refine w_ret ?_ | with_reducible refine w_retN ?_ | with_reducible refine w_pass ?_ | with_reducible refine w_break ?_ | with_reducible refine w_cont ?_ | with_reducible refine w_seq ?_ | with_reducible refine w_sif ?_ | with_reducible refine x_add ?_ | with_reducible refine x_addI ?_ | with_reducible refine x_sub ?_ | with_reducible refine x_neg ?_ | with_reducible refine x_lt ?_ | with_reducible refine x_le ?_ | with_reducible refine x_gt ?_ | with_reducible refine x_ge ?_ | with_reducible refine x_eqS ?_ | with_reducible refine x_eq ?_ | with_reducible refine x_ne ?_ | with_reducible refine x_isN ?_ | with_reducible refine x_notN ?_ | with_reducible refine x_isB ?_ | with_reducible refine x_notB ?_ | with_reducible refine x_lenL ?_ | with_reducible refine x_lenT ?_ | with_reducible refine x_max2 ?_ | with_reducible refine x_min2 ?_ | with_reducible refine x_abs ?_ | with_reducible refine x_tupleL ?_ | with_reducible refine x_tupleT ?_ | with_reducible refine x_partL ?_ | with_reducible refine x_partT ?_ | with_reducible refine x_listL ?_ | with_reducible refine x_listT ?_ | with_reducible refine x_iii ?_ | with_reducible refine x_ibi ?_ | with_reducible refine x_iss ?_ | with_reducible refine x_itt ?_ | with_reducible refine x_ill ?_ | with_reducible refine c_true ?_ | with_reducible refine c_false ?_ | with_reducible refine c_nt ?_ | with_reducible refine c_nf ?_ | with_reducible refine c_not ?_ | ((with_reducible apply w_FI); · rfl) | ((with_reducible apply w_oIx); · rfl) | ((with_reducible apply w_oLen); · rfl) | ((with_reducible apply w_oBin); · rfl) | ((with_reducible apply w_consO); · rfl) | ((with_reducible apply w_aug); · rfl) | ((with_reducible apply w_app); · rfl) | ((with_reducible apply w_oset); · rfl) | ((with_reducible apply w_ext); · rfl) | ((with_reducible apply w_retO); · rfl) | ((with_reducible apply w_frz); · rfl) | ((with_reducible apply e_ow); · rfl) | with_reducible refine e_bl ?_ | with_reducible refine e_int ?_ | with_reducible refine e_lst ?_ | with_reducible refine e_tup ?_ | with_reducible refine e_seqL ?_ | with_reducible refine e_seqT ?_ | with_reducible refine e_zipL ?_ | with_reducible refine e_zipT ?_ | with_reducible refine w_partI ?_ | with_reducible refine w_iSeq ?_ | with_reducible refine w_iEnum ?_ | with_reducible refine w_new ?_ | with_reducible refine w_rev ?_ | with_reducible refine w_revT ?_ | with_reducible refine w_slice ?_ | with_reducible refine y_le ?_ | with_reducible refine y_lt ?_ | with_reducible refine y_ge ?_ | with_reducible refine y_gt ?_ | ((with_reducible apply x_ixT); · rfl) | ((with_reducible apply x_ixL); · rfl) | ((with_reducible apply e_at); · rfl) | ((with_reducible apply x_mul); · rfl) | ((with_reducible apply e_ix); · rfl) | ((with_reducible apply x_div); · decide) | ((with_reducible apply x_mod); · decide) | with_reducible refine w_lst ?_ | with_reducible refine w_tup ?_ | ((with_reducible apply e_cap); · exact Nat.le_of_ble_eq_true rfl) | ((with_reducible apply e_set); · (simp only [List.set_cons_zero, List.set_cons_succ]; rfl)) | ((with_reducible apply e_setL); (· rfl); (· (simp only [List.set_cons_zero, List.set_cons_succ]; rfl))) | ((with_reducible apply e_par); (· rfl); (· (simp only [List.set_cons_zero, List.set_cons_succ]; rfl))) | ((with_reducible apply e_par3); (· rfl); (· (simp only [List.set_cons_zero, List.set_cons_succ]; rfl))) | ((with_reducible apply e_pt); (· rfl); (· (simp only [List.set_cons_zero, List.set_cons_succ]; rfl))) | ((with_reducible apply e_pT); · (simp only [pTs, pN, List.length_cons, List.length_nil, List.set_cons_zero, List.set_cons_succ, Nat.reduceAdd, Nat.reduceLT, ite_true, Option.some.injEq]; rfl))))
    simp only [Rv.im.injEq, D.int.injEq, aft, if_true]
    split <;> omega
  | false =>
    refine run_D (e := [.im (.int l), .im (.tup [.str "discharge", .int a, .int m]), .un, .un, .un]) rfl rfl ?_
    unfold c_law_after
    (repeat' (first | ((with_reducible refine c_decT ?_ ?_); · first | decide | rfl) | ((with_reducible refine c_decF ?_ ?_); · decide) | with_reducible refine w_seq ?_ | ((with_reducible apply w_var); · rfl) | with_reducible refine w_setN ?_ | with_reducible refine w_snew ?_ | with_reducible refine w_C ?_ | with_reducible refine w_bin ?_ | with_reducible refine w_un ?_ | with_reducible refine w_isi ?_ | with_reducible refine w_isi2 ?_ | with_reducible refine w_chain ?_ | with_reducible refine w_if ?_ | with_reducible refine w_nil ?_ | with_reducible refine w_cons ?_ | with_reducible refine w_F ?_ | with_reducible refine w_Fb ?_ | with_reducible refine w_FN ?_ | with_reducible refine w_noPart ?_ | with_reducible refine w_slice ?_ | with_reducible refine w_val ?_ | with_reducible refine w_tAnd ?_ | with_reducible refine w_tOr ?_ | with_reducible refine w_tNot ?_ | with_reducible refine w_tYes ?_ | with_reducible refine w_and ?_ | with_reducible refine w_or ?_ | with_reducible refine w_not ?_ | with_reducible refine w_iRng ?_ | with_reducible refine w_iRngD ?_ | with_reducible refine w_iZip ?_ | with_reducible refine w_fr ?_ | with_reducible refine w_tupL ?_ | with_reducible refine w_im ?_ | with_reducible refine w_ow ?_ | with_reducible refine w_set ?_ | with_reducible refine w_par ?_ | with_reducible refine w_expr ?_ | with_reducible refine w_ret ?_ | with_reducible refine w_retN ?_ | with_reducible refine w_pass ?_ | with_reducible refine w_break ?_ | with_reducible refine w_cont ?_ | with_reducible refine w_seq ?_ | with_reducible refine w_sif ?_ | with_reducible refine x_add ?_ | with_reducible refine x_addI ?_ | with_reducible refine x_sub ?_ | with_reducible refine x_neg ?_ | with_reducible refine x_lt ?_ | with_reducible refine x_le ?_ | with_reducible refine x_gt ?_ | with_reducible refine x_ge ?_ | with_reducible refine x_eqS ?_ | with_reducible refine x_eq ?_ | with_reducible refine x_ne ?_ | with_reducible refine x_isN ?_ | with_reducible refine x_notN ?_ | with_reducible refine x_isB ?_ | with_reducible refine x_notB ?_ | with_reducible refine x_lenL ?_ | with_reducible refine x_lenT ?_ | with_reducible refine x_max2 ?_ | with_reducible refine x_min2 ?_ | with_reducible refine x_abs ?_ | with_reducible refine x_tupleL ?_ | with_reducible refine x_tupleT ?_ | with_reducible refine x_partL ?_ | with_reducible refine x_partT ?_ | with_reducible refine x_listL ?_ | with_reducible refine x_listT ?_ | with_reducible refine x_iii ?_ | with_reducible refine x_ibi ?_ | with_reducible refine x_iss ?_ | with_reducible refine x_itt ?_ | with_reducible refine x_ill ?_ | with_reducible refine c_true ?_ | with_reducible refine c_false ?_ | with_reducible refine c_nt ?_ | with_reducible refine c_nf ?_ | with_reducible refine c_not ?_ | ((with_reducible apply w_FI); · rfl) | ((with_reducible apply w_oIx); · rfl) | ((with_reducible apply w_oLen); · rfl) | ((with_reducible apply w_oBin); · rfl) | ((with_reducible apply w_consO); · rfl) | ((with_reducible apply w_aug); · rfl) | ((with_reducible apply w_app); · rfl) | ((with_reducible apply w_oset); · rfl) | ((with_reducible apply w_ext); · rfl) | ((with_reducible apply w_retO); · rfl) | ((with_reducible apply w_frz); · rfl) | ((with_reducible apply e_ow); · rfl) | with_reducible refine e_bl ?_ | with_reducible refine e_int ?_ | with_reducible refine e_lst ?_ | with_reducible refine e_tup ?_ | with_reducible refine e_seqL ?_ | with_reducible refine e_seqT ?_ | with_reducible refine e_zipL ?_ | with_reducible refine e_zipT ?_ | with_reducible refine w_partI ?_ | with_reducible refine w_iSeq ?_ | with_reducible refine w_iEnum ?_ | with_reducible refine w_new ?_ | with_reducible refine w_rev ?_ | with_reducible refine w_revT ?_ | with_reducible refine w_slice ?_ | with_reducible refine y_le ?_ | with_reducible refine y_lt ?_ | with_reducible refine y_ge ?_ | with_reducible refine y_gt ?_ | ((with_reducible apply x_ixT); · rfl) | ((with_reducible apply x_ixL); · rfl) | ((with_reducible apply e_at); · rfl) | ((with_reducible apply x_mul); · rfl) | ((with_reducible apply e_ix); · rfl) | ((with_reducible apply x_div); · decide) | ((with_reducible apply x_mod); · decide) | with_reducible refine w_lst ?_ | with_reducible refine w_tup ?_ | ((with_reducible apply e_cap); · exact Nat.le_of_ble_eq_true rfl) | ((with_reducible apply e_set); · (simp only [List.set_cons_zero, List.set_cons_succ]; rfl)) | ((with_reducible apply e_setL); (· rfl); (· (simp only [List.set_cons_zero, List.set_cons_succ]; rfl))) | ((with_reducible apply e_par); (· rfl); (· (simp only [List.set_cons_zero, List.set_cons_succ]; rfl))) | ((with_reducible apply e_par3); (· rfl); (· (simp only [List.set_cons_zero, List.set_cons_succ]; rfl))) | ((with_reducible apply e_pt); (· rfl); (· (simp only [List.set_cons_zero, List.set_cons_succ]; rfl))) | ((with_reducible apply e_pT); · (simp only [pTs, pN, List.length_cons, List.length_nil, List.set_cons_zero, List.set_cons_succ, Nat.reduceAdd, Nat.reduceLT, ite_true, Option.some.injEq]; rfl))))
    simp only [Rv.im.injEq, D.int.injEq, aft, if_neg Bool.false_ne_true]
    split <;> omega
theorem law_levels_eq {c : Int} (s : List Cm) (l : Int) (hs : s.length ≤ 1000) (hok : ∀ x ∈ s, x.ok c) : f_law_levels [schD s, .int l] = some (iL (lvs s l)) := by
  refine run_N (e := [.im (schD s), .im (.int l), .un, .un]) rfl rfl ?_
  unfold c_law_levels
  (repeat' (first | ((with_reducible refine c_decT ?_ ?_); · first | decide | rfl) | ((with_reducible refine c_decF ?_ ?_); · decide) | with_reducible refine w_seq ?_ | ((with_reducible apply w_var); · rfl) | with_reducible refine w_setN ?_ | with_reducible refine w_snew ?_ | with_reducible refine w_C ?_ | with_reducible refine w_bin ?_ | with_reducible refine w_un ?_ | with_reducible refine w_isi ?_ | with_reducible refine w_isi2 ?_ | with_reducible refine w_chain ?_ | with_reducible refine w_if ?_ | with_reducible refine w_nil ?_ | with_reducible refine w_cons ?_ | with_reducible refine w_F ?_ | with_reducible refine w_Fb ?_ | with_reducible refine w_FN ?_ | with_reducible refine w_noPart ?_ | with_reducible refine w_slice ?_ | with_reducible refine w_val ?_ | with_reducible refine w_tAnd ?_ | with_reducible refine w_tOr ?_ | with_reducible refine w_tNot ?_ | with_reducible refine w_tYes ?_ | with_reducible refine w_and ?_ | with_reducible refine w_or ?_ | with_reducible refine w_not ?_ | with_reducible refine w_iRng ?_ | with_reducible refine w_iRngD ?_ | with_reducible refine w_iZip ?_ | with_reducible refine w_fr ?_ | with_reducible refine w_tupL ?_ | with_reducible refine w_im ?_ | with_reducible refine w_ow ?_ | with_reducible refine w_set ?_ | with_reducible refine w_par ?_ | with_reducible refine w_expr ?_ | with_reducible refine w_ret ?_ | with_reducible refine w_retN ?_ | with_reducible refine w_pass ?_ | with_reducible refine w_break ?_ | with_reducible refine w_cont ?_ | with_reducible refine w_seq ?_ | with_reducible refine w_sif ?_ | with_reducible refine x_add ?_ | with_reducible refine x_addI ?_ | with_reducible refine x_sub ?_ | with_reducible refine x_neg ?_ | with_reducible refine x_lt ?_ | with_reducible refine x_le ?_ | with_reducible refine x_gt ?_ | with_reducible refine x_ge ?_ | with_reducible refine x_eqS ?_ | with_reducible refine x_eq ?_ | with_reducible refine x_ne ?_ | with_reducible refine x_isN ?_ | with_reducible refine x_notN ?_ | with_reducible refine x_isB ?_ | with_reducible refine x_notB ?_ | with_reducible refine x_lenL ?_ | with_reducible refine x_lenT ?_ | with_reducible refine x_max2 ?_ | with_reducible refine x_min2 ?_ | with_reducible refine x_abs ?_ | with_reducible refine x_tupleL ?_ | with_reducible refine x_tupleT ?_ | with_reducible refine x_partL ?_ | with_reducible refine x_partT ?_ | with_reducible refine x_listL ?_ | with_reducible refine x_listT ?_ | with_reducible refine x_iii ?_ | with_reducible refine x_ibi ?_ | with_reducible refine x_iss ?_ | with_reducible refine x_itt ?_ | with_reducible refine x_ill ?_ | with_reducible refine c_true ?_ | with_reducible refine c_false ?_ | with_reducible refine c_nt ?_ | with_reducible refine c_nf ?_ | with_reducible refine c_not ?_ | ((with_reducible apply w_FI); · rfl) | ((with_reducible apply w_oIx); · rfl) | ((with_reducible apply w_oLen); · rfl) | ((with_reducible apply w_oBin); · rfl) | ((with_reducible apply w_consO); · rfl) | ((with_reducible apply w_aug); · rfl) | ((with_reducible apply w_app); · rfl) | ((with_reducible apply w_oset); · rfl) | ((with_reducible apply w_ext); · rfl) | ((with_reducible apply w_retO); · rfl) | ((with_reducible apply w_frz); · rfl) | ((with_reducible apply e_ow); · rfl) | with_reducible refine e_bl ?_ | with_reducible refine e_int ?_ | with_reducible refine e_lst ?_ | with_reducible refine e_tup ?_ | with_reducible refine e_seqL ?_ | with_reducible refine e_seqT ?_ | with_reducible refine e_zipL ?_ | with_reducible refine e_zipT ?_ | with_reducible refine w_partI ?_ | with_reducible refine w_iSeq ?_ | with_reducible refine w_iEnum ?_ | with_reducible refine w_new ?_ | with_reducible refine w_rev ?_ | with_reducible refine w_revT ?_ | with_reducible refine w_slice ?_ | with_reducible refine y_le ?_ | with_reducible refine y_lt ?_ | with_reducible refine y_ge ?_ | with_reducible refine y_gt ?_ | ((with_reducible apply x_ixT); · rfl) | ((with_reducible apply x_ixL); · rfl) | ((with_reducible apply e_at); · rfl) | ((with_reducible apply x_mul); · rfl) | ((with_reducible apply e_ix); · rfl) | ((with_reducible apply x_div); · decide) | ((with_reducible apply x_mod); · decide) | with_reducible refine w_lst ?_ | with_reducible refine w_tup ?_ | ((with_reducible apply e_cap); · exact Nat.le_of_ble_eq_true rfl) | ((with_reducible apply e_set); · (simp only [List.set_cons_zero, List.set_cons_succ]; rfl)) | ((with_reducible apply e_setL); (· rfl); (· (simp only [List.set_cons_zero, List.set_cons_succ]; rfl))) | ((with_reducible apply e_par); (· rfl); (· (simp only [List.set_cons_zero, List.set_cons_succ]; rfl))) | ((with_reducible apply e_par3); (· rfl); (· (simp only [List.set_cons_zero, List.set_cons_succ]; rfl))) | ((with_reducible apply e_pt); (· rfl); (· (simp only [List.set_cons_zero, List.set_cons_succ]; rfl))) | ((with_reducible apply e_pT); · (simp only [pTs, pN, List.length_cons, List.length_nil, List.set_cons_zero, List.set_cons_succ, Nat.reduceAdd, Nat.reduceLT, ite_true, Option.some.injEq]; rfl))))
  refine w_forI (fun ds e => ∃ (p : List Int) (r : List Cm) (x : Int) (w : Sl), ds = schL r ∧ e = [.im (schD s), .im (.int l), .ow (iL (p ++ [x])), w] ∧ p ++ lvs r x = lvs s l ∧ p.length + r.length ≤ 1000 ∧ ∀ x ∈ r, x.ok c) ?_ ?_ ?_
  · unfold schD
    (repeat' (first | ((with_reducible refine c_decT ?_ ?_); · first | decide | rfl) | ((with_reducible refine c_decF ?_ ?_); · decide) | with_reducible refine w_seq ?_ | ((with_reducible apply w_var); · rfl) | with_reducible refine w_setN ?_ | with_reducible refine w_snew ?_ | with_reducible refine w_C ?_ | with_reducible refine w_bin ?_ | with_reducible refine w_un ?_ | with_reducible refine w_isi ?_ | with_reducible refine w_isi2 ?_ | with_reducible refine w_chain ?_ | with_reducible refine w_if ?_ | with_reducible refine w_nil ?_ | with_reducible refine w_cons ?_ | with_reducible refine w_F ?_ | with_reducible refine w_Fb ?_ | with_reducible refine w_FN ?_ | with_reducible refine w_noPart ?_ | with_reducible refine w_slice ?_ | with_reducible refine w_val ?_ | with_reducible refine w_tAnd ?_ | with_reducible refine w_tOr ?_ | with_reducible refine w_tNot ?_ | with_reducible refine w_tYes ?_ | with_reducible refine w_and ?_ | with_reducible refine w_or ?_ | with_reducible refine w_not ?_ | with_reducible refine w_iRng ?_ | with_reducible refine w_iRngD ?_ | with_reducible refine w_iZip ?_ | with_reducible refine w_fr ?_ | with_reducible refine w_tupL ?_ | with_reducible refine w_im ?_ | with_reducible refine w_ow ?_ | with_reducible refine w_set ?_ | with_reducible refine w_par ?_ | with_reducible refine w_expr ?_ | with_reducible refine w_ret ?_ | with_reducible refine w_retN ?_ | with_reducible refine w_pass ?_ | with_reducible refine w_break ?_ | with_reducible refine w_cont ?_ | with_reducible refine w_seq ?_ | with_reducible refine w_sif ?_ | with_reducible refine x_add ?_ | with_reducible refine x_addI ?_ | with_reducible refine x_sub ?_ | with_reducible refine x_neg ?_ | with_reducible refine x_lt ?_ | with_reducible refine x_le ?_ | with_reducible refine x_gt ?_ | with_reducible refine x_ge ?_ | with_reducible refine x_eqS ?_ | with_reducible refine x_eq ?_ | with_reducible refine x_ne ?_ | with_reducible refine x_isN ?_ | with_reducible refine x_notN ?_ | with_reducible refine x_isB ?_ | with_reducible refine x_notB ?_ | with_reducible refine x_lenL ?_ | with_reducible refine x_lenT ?_ | with_reducible refine x_max2 ?_ | with_reducible refine x_min2 ?_ | with_reducible refine x_abs ?_ | with_reducible refine x_tupleL ?_ | with_reducible refine x_tupleT ?_ | with_reducible refine x_partL ?_ | with_reducible refine x_partT ?_ | with_reducible refine x_listL ?_ | with_reducible refine x_listT ?_ | with_reducible refine x_iii ?_ | with_reducible refine x_ibi ?_ | with_reducible refine x_iss ?_ | with_reducible refine x_itt ?_ | with_reducible refine x_ill ?_ | with_reducible refine c_true ?_ | with_reducible refine c_false ?_ | with_reducible refine c_nt ?_ | with_reducible refine c_nf ?_ | with_reducible refine c_not ?_ | ((with_reducible apply w_FI); · rfl) | ((with_reducible apply w_oIx); · rfl) | ((with_reducible apply w_oLen); · rfl) | ((with_reducible apply w_oBin); · rfl) | ((with_reducible apply w_consO); · rfl) | ((with_reducible apply w_aug); · rfl) | ((with_reducible apply w_app); · rfl) | ((with_reducible apply w_oset); · rfl) | ((with_reducible apply w_ext); · rfl) | ((with_reducible apply w_retO); · rfl) | ((with_reducible apply w_frz); · rfl) | ((with_reducible apply e_ow); · rfl) | with_reducible refine e_bl ?_ | with_reducible refine e_int ?_ | with_reducible refine e_lst ?_ | with_reducible refine e_tup ?_ | with_reducible refine e_seqL ?_ | with_reducible refine e_seqT ?_ | with_reducible refine e_zipL ?_ | with_reducible refine e_zipT ?_ | with_reducible refine w_partI ?_ | with_reducible refine w_iSeq ?_ | with_reducible refine w_iEnum ?_ | with_reducible refine w_new ?_ | with_reducible refine w_rev ?_ | with_reducible refine w_revT ?_ | with_reducible refine w_slice ?_ | with_reducible refine y_le ?_ | with_reducible refine y_lt ?_ | with_reducible refine y_ge ?_ | with_reducible refine y_gt ?_ | ((with_reducible apply x_ixT); · rfl) | ((with_reducible apply x_ixL); · rfl) | ((with_reducible apply e_at); · rfl) | ((with_reducible apply x_mul); · rfl) | ((with_reducible apply e_ix); · rfl) | ((with_reducible apply x_div); · decide) | ((with_reducible apply x_mod); · decide) | with_reducible refine w_lst ?_ | with_reducible refine w_tup ?_ | ((with_reducible apply e_cap); · exact Nat.le_of_ble_eq_true rfl) | ((with_reducible apply e_set); · (simp only [List.set_cons_zero, List.set_cons_succ]; rfl)) | ((with_reducible apply e_setL); (· rfl); (· (simp only [List.set_cons_zero, List.set_cons_succ]; rfl))) | ((with_reducible apply e_par); (· rfl); (· (simp only [List.set_cons_zero, List.set_cons_succ]; rfl))) | ((with_reducible apply e_par3); (· rfl); (· (simp only [List.set_cons_zero, List.set_cons_succ]; rfl))) | ((with_reducible apply e_pt); (· rfl); (· (simp only [List.set_cons_zero, List.set_cons_succ]; rfl))) | ((with_reducible apply e_pT); · (simp only [pTs, pN, List.length_cons, List.length_nil, List.set_cons_zero, List.set_cons_succ, Nat.reduceAdd, Nat.reduceLT, ite_true, Option.some.injEq]; rfl))))
    exact ⟨[], s, l, .un, rfl, rfl, rfl, by simpa using hs, hok⟩
  · rintro d ds e ⟨p, r, x, w, h1, rfl, h3, h4, h5⟩
    cases r with
    | nil => simp [schL] at h1
    | cons c r =>
      simp only [schL, List.map, List.cons.injEq] at h1
      obtain ⟨rfl, rfl⟩ := h1
      (repeat' (first | ((with_reducible refine c_decT ?_ ?_); · first | decide | rfl) | ((with_reducible refine c_decF ?_ ?_); · decide) | with_reducible refine w_seq ?_ | ((with_reducible apply w_var); · rfl) | with_reducible refine w_setN ?_ | with_reducible refine w_snew ?_ | with_reducible refine w_C ?_ | with_reducible refine w_bin ?_ | with_reducible refine w_un ?_ | with_reducible refine w_isi ?_ | with_reducible refine w_isi2 ?_ | with_reducible refine w_chain ?_ | with_reducible refine w_if ?_ | with_reducible refine w_nil ?_ | with_reducible refine w_cons ?_ | with_reducible refine w_F ?_ | with_reducible refine w_Fb ?_ | with_reducible refine w_FN ?_ | with_reducible refine w_noPart ?_ | with_reducible refine w_slice ?_ | with_reducible refine w_val ?_ | with_reducible refine w_tAnd ?_ | with_reducible refine w_tOr ?_ | with_reducible refine w_tNot ?_ | with_reducible refine w_tYes ?_ | with_reducible refine w_and ?_ | with_reducible refine w_or ?_ | with_reducible refine w_not ?_ | with_reducible refine w_iRng ?_ | with_reducible refine w_iRngD ?_ | with_reducible refine w_iZip ?_ | with_reducible refine w_fr ?_ | with_reducible refine w_tupL ?_ | with_reducible refine w_im ?_ | with_reducible refine w_ow ?_ | with_reducible refine w_set ?_ | with_reducible refine w_par ?_ | with_reducible refine w_expr ?_ | with_reducible refine w_ret ?_ | with_reducible refine w_retN ?_ | with_reducible refine w_pass ?_ | with_reducible refine w_break ?_ | with_reducible refine w_cont ?_ | with_reducible refine w_seq ?_ | with_reducible refine w_sif ?_ | with_reducible refine x_add ?_ | with_reducible refine x_addI ?_ | with_reducible refine x_sub ?_ | with_reducible refine x_neg ?_ | with_reducible refine x_lt ?_ | with_reducible refine x_le ?_ | with_reducible refine x_gt ?_ | with_reducible refine x_ge ?_ | with_reducible refine x_eqS ?_ | with_reducible refine x_eq ?_ | with_reducible refine x_ne ?_ | with_reducible refine x_isN ?_ | with_reducible refine x_notN ?_ | with_reducible refine x_isB ?_ | with_reducible refine x_notB ?_ | with_reducible refine x_lenL ?_ | with_reducible refine x_lenT ?_ | with_reducible refine x_max2 ?_ | with_reducible refine x_min2 ?_ | with_reducible refine x_abs ?_ | with_reducible refine x_tupleL ?_ | with_reducible refine x_tupleT ?_ | with_reducible refine x_partL ?_ | with_reducible refine x_partT ?_ | with_reducible refine x_listL ?_ | with_reducible refine x_listT ?_ | with_reducible refine x_iii ?_ | with_reducible refine x_ibi ?_ | with_reducible refine x_iss ?_ | with_reducible refine x_itt ?_ | with_reducible refine x_ill ?_ | with_reducible refine c_true ?_ | with_reducible refine c_false ?_ | with_reducible refine c_nt ?_ | with_reducible refine c_nf ?_ | with_reducible refine c_not ?_ | ((with_reducible apply w_FI); · rfl) | ((with_reducible apply w_oIx); · rfl) | ((with_reducible apply w_oLen); · rfl) | ((with_reducible apply w_oBin); · rfl) | ((with_reducible apply w_consO); · rfl) | ((with_reducible apply w_aug); · rfl) | ((with_reducible apply w_app); · rfl) | ((with_reducible apply w_oset); · rfl) | ((with_reducible apply w_ext); · rfl) | ((with_reducible apply w_retO); · rfl) | ((with_reducible apply w_frz); · rfl) | ((with_reducible apply e_ow); · rfl) | with_reducible refine e_bl ?_ | with_reducible refine e_int ?_ | with_reducible refine e_lst ?_ | with_reducible refine e_tup ?_ | with_reducible refine e_seqL ?_ | with_reducible refine e_seqT ?_ | with_reducible refine e_zipL ?_ | with_reducible refine e_zipT ?_ | with_reducible refine w_partI ?_ | with_reducible refine w_iSeq ?_ | with_reducible refine w_iEnum ?_ | with_reducible refine w_new ?_ | with_reducible refine w_rev ?_ | with_reducible refine w_revT ?_ | with_reducible refine w_slice ?_ | with_reducible refine y_le ?_ | with_reducible refine y_lt ?_ | with_reducible refine y_ge ?_ | with_reducible refine y_gt ?_ | ((with_reducible apply x_ixT); · rfl) | ((with_reducible apply x_ixL); · rfl) | ((with_reducible apply e_at); · rfl) | ((with_reducible apply x_mul); · rfl) | ((with_reducible apply e_ix); · rfl) | ((with_reducible apply x_div); · decide) | ((with_reducible apply x_mod); · decide) | with_reducible refine w_lst ?_ | with_reducible refine w_tup ?_ | ((with_reducible apply e_cap); · exact Nat.le_of_ble_eq_true rfl) | ((with_reducible apply e_set); · (simp only [List.set_cons_zero, List.set_cons_succ]; rfl)) | ((with_reducible apply e_setL); (· rfl); (· (simp only [List.set_cons_zero, List.set_cons_succ]; rfl))) | ((with_reducible apply e_par); (· rfl); (· (simp only [List.set_cons_zero, List.set_cons_succ]; rfl))) | ((with_reducible apply e_par3); (· rfl); (· (simp only [List.set_cons_zero, List.set_cons_succ]; rfl))) | ((with_reducible apply e_pt); (· rfl); (· (simp only [List.set_cons_zero, List.set_cons_succ]; rfl))) | ((with_reducible apply e_pT); · (simp only [pTs, pN, List.length_cons, List.length_nil, List.set_cons_zero, List.set_cons_succ, Nat.reduceAdd, Nat.reduceLT, ite_true, Option.some.injEq]; rfl))))
      refine ⟨_, at_last (d := .int x) (by simp [iL]), ?_⟩
      (repeat' (first | ((with_reducible refine c_decT ?_ ?_); · first | decide | rfl) | ((with_reducible refine c_decF ?_ ?_); · decide) | with_reducible refine w_seq ?_ | ((with_reducible apply w_var); · rfl) | with_reducible refine w_setN ?_ | with_reducible refine w_snew ?_ | with_reducible refine w_C ?_ | with_reducible refine w_bin ?_ | with_reducible refine w_un ?_ | with_reducible refine w_isi ?_ | with_reducible refine w_isi2 ?_ | with_reducible refine w_chain ?_ | with_reducible refine w_if ?_ | with_reducible refine w_nil ?_ | with_reducible refine w_cons ?_ | with_reducible refine w_F ?_ | with_reducible refine w_Fb ?_ | with_reducible refine w_FN ?_ | with_reducible refine w_noPart ?_ | with_reducible refine w_slice ?_ | with_reducible refine w_val ?_ | with_reducible refine w_tAnd ?_ | with_reducible refine w_tOr ?_ | with_reducible refine w_tNot ?_ | with_reducible refine w_tYes ?_ | with_reducible refine w_and ?_ | with_reducible refine w_or ?_ | with_reducible refine w_not ?_ | with_reducible refine w_iRng ?_ | with_reducible refine w_iRngD ?_ | with_reducible refine w_iZip ?_ | with_reducible refine w_fr ?_ | with_reducible refine w_tupL ?_ | with_reducible refine w_im ?_ | with_reducible refine w_ow ?_ | with_reducible refine w_set ?_ | with_reducible refine w_par ?_ | with_reducible refine w_expr ?_ | with_reducible refine w_ret ?_ | with_reducible refine w_retN ?_ | with_reducible refine w_pass ?_ | with_reducible refine w_break ?_ | with_reducible refine w_cont ?_ | with_reducible refine w_seq ?_ | with_reducible refine w_sif ?_ | with_reducible refine x_add ?_ | with_reducible refine x_addI ?_ | with_reducible refine x_sub ?_ | with_reducible refine x_neg ?_ | with_reducible refine x_lt ?_ | with_reducible refine x_le ?_ | with_reducible refine x_gt ?_ | with_reducible refine x_ge ?_ | with_reducible refine x_eqS ?_ | with_reducible refine x_eq ?_ | with_reducible refine x_ne ?_ | with_reducible refine x_isN ?_ | with_reducible refine x_notN ?_ | with_reducible refine x_isB ?_ | with_reducible refine x_notB ?_ | with_reducible refine x_lenL ?_ | with_reducible refine x_lenT ?_ | with_reducible refine x_max2 ?_ | with_reducible refine x_min2 ?_ | with_reducible refine x_abs ?_ | with_reducible refine x_tupleL ?_ | with_reducible refine x_tupleT ?_ | with_reducible refine x_partL ?_ | with_reducible refine x_partT ?_ | with_reducible refine x_listL ?_ | with_reducible refine x_listT ?_ | with_reducible refine x_iii ?_ | with_reducible refine x_ibi ?_ | with_reducible refine x_iss ?_ | with_reducible refine x_itt ?_ | with_reducible refine x_ill ?_ | with_reducible refine c_true ?_ | with_reducible refine c_false ?_ | with_reducible refine c_nt ?_ | with_reducible refine c_nf ?_ | with_reducible refine c_not ?_ | ((with_reducible apply w_FI); · rfl) | ((with_reducible apply w_oIx); · rfl) | ((with_reducible apply w_oLen); · rfl) | ((with_reducible apply w_oBin); · rfl) | ((with_reducible apply w_consO); · rfl) | ((with_reducible apply w_aug); · rfl) | ((with_reducible apply w_app); · rfl) | ((with_reducible apply w_oset); · rfl) | ((with_reducible apply w_ext); · rfl) | ((with_reducible apply w_retO); · rfl) | ((with_reducible apply w_frz); · rfl) | ((with_reducible apply e_ow); · rfl) | with_reducible refine e_bl ?_ | with_reducible refine e_int ?_ | with_reducible refine e_lst ?_ | with_reducible refine e_tup ?_ | with_reducible refine e_seqL ?_ | with_reducible refine e_seqT ?_ | with_reducible refine e_zipL ?_ | with_reducible refine e_zipT ?_ | with_reducible refine w_partI ?_ | with_reducible refine w_iSeq ?_ | with_reducible refine w_iEnum ?_ | with_reducible refine w_new ?_ | with_reducible refine w_rev ?_ | with_reducible refine w_revT ?_ | with_reducible refine w_slice ?_ | with_reducible refine y_le ?_ | with_reducible refine y_lt ?_ | with_reducible refine y_ge ?_ | with_reducible refine y_gt ?_ | ((with_reducible apply x_ixT); · rfl) | ((with_reducible apply x_ixL); · rfl) | ((with_reducible apply e_at); · rfl) | ((with_reducible apply x_mul); · rfl) | ((with_reducible apply e_ix); · rfl) | ((with_reducible apply x_div); · decide) | ((with_reducible apply x_mod); · decide) | with_reducible refine w_lst ?_ | with_reducible refine w_tup ?_ | ((with_reducible apply e_cap); · exact Nat.le_of_ble_eq_true rfl) | ((with_reducible apply e_set); · (simp only [List.set_cons_zero, List.set_cons_succ]; rfl)) | ((with_reducible apply e_setL); (· rfl); (· (simp only [List.set_cons_zero, List.set_cons_succ]; rfl))) | ((with_reducible apply e_par); (· rfl); (· (simp only [List.set_cons_zero, List.set_cons_succ]; rfl))) | ((with_reducible apply e_par3); (· rfl); (· (simp only [List.set_cons_zero, List.set_cons_succ]; rfl))) | ((with_reducible apply e_pt); (· rfl); (· (simp only [List.set_cons_zero, List.set_cons_succ]; rfl))) | ((with_reducible apply e_pT); · (simp only [pTs, pN, List.length_cons, List.length_nil, List.set_cons_zero, List.set_cons_succ, Nat.reduceAdd, Nat.reduceLT, ite_true, Option.some.injEq]; rfl))))
      refine ⟨_, law_after_eq (by have := (h5 c (List.mem_cons_self ..)).1; omega), ?_⟩
      (repeat' (first | ((with_reducible refine c_decT ?_ ?_); · first | decide | rfl) | ((with_reducible refine c_decF ?_ ?_); · decide) | with_reducible refine w_seq ?_ | ((with_reducible apply w_var); · rfl) | with_reducible refine w_setN ?_ | with_reducible refine w_snew ?_ | with_reducible refine w_C ?_ | with_reducible refine w_bin ?_ | with_reducible refine w_un ?_ | with_reducible refine w_isi ?_ | with_reducible refine w_isi2 ?_ | with_reducible refine w_chain ?_ | with_reducible refine w_if ?_ | with_reducible refine w_nil ?_ | with_reducible refine w_cons ?_ | with_reducible refine w_F ?_ | with_reducible refine w_Fb ?_ | with_reducible refine w_FN ?_ | with_reducible refine w_noPart ?_ | with_reducible refine w_slice ?_ | with_reducible refine w_val ?_ | with_reducible refine w_tAnd ?_ | with_reducible refine w_tOr ?_ | with_reducible refine w_tNot ?_ | with_reducible refine w_tYes ?_ | with_reducible refine w_and ?_ | with_reducible refine w_or ?_ | with_reducible refine w_not ?_ | with_reducible refine w_iRng ?_ | with_reducible refine w_iRngD ?_ | with_reducible refine w_iZip ?_ | with_reducible refine w_fr ?_ | with_reducible refine w_tupL ?_ | with_reducible refine w_im ?_ | with_reducible refine w_ow ?_ | with_reducible refine w_set ?_ | with_reducible refine w_par ?_ | with_reducible refine w_expr ?_ | with_reducible refine w_ret ?_ | with_reducible refine w_retN ?_ | with_reducible refine w_pass ?_ | with_reducible refine w_break ?_ | with_reducible refine w_cont ?_ | with_reducible refine w_seq ?_ | with_reducible refine w_sif ?_ | with_reducible refine x_add ?_ | with_reducible refine x_addI ?_ | with_reducible refine x_sub ?_ | with_reducible refine x_neg ?_ | with_reducible refine x_lt ?_ | with_reducible refine x_le ?_ | with_reducible refine x_gt ?_ | with_reducible refine x_ge ?_ | with_reducible refine x_eqS ?_ | with_reducible refine x_eq ?_ | with_reducible refine x_ne ?_ | with_reducible refine x_isN ?_ | with_reducible refine x_notN ?_ | with_reducible refine x_isB ?_ | with_reducible refine x_notB ?_ | with_reducible refine x_lenL ?_ | with_reducible refine x_lenT ?_ | with_reducible refine x_max2 ?_ | with_reducible refine x_min2 ?_ | with_reducible refine x_abs ?_ | with_reducible refine x_tupleL ?_ | with_reducible refine x_tupleT ?_ | with_reducible refine x_partL ?_ | with_reducible refine x_partT ?_ | with_reducible refine x_listL ?_ | with_reducible refine x_listT ?_ | with_reducible refine x_iii ?_ | with_reducible refine x_ibi ?_ | with_reducible refine x_iss ?_ | with_reducible refine x_itt ?_ | with_reducible refine x_ill ?_ | with_reducible refine c_true ?_ | with_reducible refine c_false ?_ | with_reducible refine c_nt ?_ | with_reducible refine c_nf ?_ | with_reducible refine c_not ?_ | ((with_reducible apply w_FI); · rfl) | ((with_reducible apply w_oIx); · rfl) | ((with_reducible apply w_oLen); · rfl) | ((with_reducible apply w_oBin); · rfl) | ((with_reducible apply w_consO); · rfl) | ((with_reducible apply w_aug); · rfl) | ((with_reducible apply w_app); · rfl) | ((with_reducible apply w_oset); · rfl) | ((with_reducible apply w_ext); · rfl) | ((with_reducible apply w_retO); · rfl) | ((with_reducible apply w_frz); · rfl) | ((with_reducible apply e_ow); · rfl) | with_reducible refine e_bl ?_ | with_reducible refine e_int ?_ | with_reducible refine e_lst ?_ | with_reducible refine e_tup ?_ | with_reducible refine e_seqL ?_ | with_reducible refine e_seqT ?_ | with_reducible refine e_zipL ?_ | with_reducible refine e_zipT ?_ | with_reducible refine w_partI ?_ | with_reducible refine w_iSeq ?_ | with_reducible refine w_iEnum ?_ | with_reducible refine w_new ?_ | with_reducible refine w_rev ?_ | with_reducible refine w_revT ?_ | with_reducible refine w_slice ?_ | with_reducible refine y_le ?_ | with_reducible refine y_lt ?_ | with_reducible refine y_ge ?_ | with_reducible refine y_gt ?_ | ((with_reducible apply x_ixT); · rfl) | ((with_reducible apply x_ixL); · rfl) | ((with_reducible apply e_at); · rfl) | ((with_reducible apply x_mul); · rfl) | ((with_reducible apply e_ix); · rfl) | ((with_reducible apply x_div); · decide) | ((with_reducible apply x_mod); · decide) | with_reducible refine w_lst ?_ | with_reducible refine w_tup ?_ | ((with_reducible apply e_cap); · exact Nat.le_of_ble_eq_true rfl) | ((with_reducible apply e_set); · (simp only [List.set_cons_zero, List.set_cons_succ]; rfl)) | ((with_reducible apply e_setL); (· rfl); (· (simp only [List.set_cons_zero, List.set_cons_succ]; rfl))) | ((with_reducible apply e_par); (· rfl); (· (simp only [List.set_cons_zero, List.set_cons_succ]; rfl))) | ((with_reducible apply e_par3); (· rfl); (· (simp only [List.set_cons_zero, List.set_cons_succ]; rfl))) | ((with_reducible apply e_pt); (· rfl); (· (simp only [List.set_cons_zero, List.set_cons_succ]; rfl))) | ((with_reducible apply e_pT); · (simp only [pTs, pN, List.length_cons, List.length_nil, List.set_cons_zero, List.set_cons_succ, Nat.reduceAdd, Nat.reduceLT, ite_true, Option.some.injEq]; rfl))))
      refine ⟨by simp only [iL_len, List.length_append, List.length_cons, List.length_nil, cap] at h4 ⊢; omega, ?_⟩
      (repeat' (first | ((with_reducible refine c_decT ?_ ?_); · first | decide | rfl) | ((with_reducible refine c_decF ?_ ?_); · decide) | with_reducible refine w_seq ?_ | ((with_reducible apply w_var); · rfl) | with_reducible refine w_setN ?_ | with_reducible refine w_snew ?_ | with_reducible refine w_C ?_ | with_reducible refine w_bin ?_ | with_reducible refine w_un ?_ | with_reducible refine w_isi ?_ | with_reducible refine w_isi2 ?_ | with_reducible refine w_chain ?_ | with_reducible refine w_if ?_ | with_reducible refine w_nil ?_ | with_reducible refine w_cons ?_ | with_reducible refine w_F ?_ | with_reducible refine w_Fb ?_ | with_reducible refine w_FN ?_ | with_reducible refine w_noPart ?_ | with_reducible refine w_slice ?_ | with_reducible refine w_val ?_ | with_reducible refine w_tAnd ?_ | with_reducible refine w_tOr ?_ | with_reducible refine w_tNot ?_ | with_reducible refine w_tYes ?_ | with_reducible refine w_and ?_ | with_reducible refine w_or ?_ | with_reducible refine w_not ?_ | with_reducible refine w_iRng ?_ | with_reducible refine w_iRngD ?_ | with_reducible refine w_iZip ?_ | with_reducible refine w_fr ?_ | with_reducible refine w_tupL ?_ | with_reducible refine w_im ?_ | with_reducible refine w_ow ?_ | with_reducible refine w_set ?_ | with_reducible refine w_par ?_ | with_reducible refine w_expr ?_ | with_reducible refine w_ret ?_ | with_reducible refine w_retN ?_ | with_reducible refine w_pass ?_ | with_reducible refine w_break ?_ | with_reducible refine w_cont ?_ | with_reducible refine w_seq ?_ | with_reducible refine w_sif ?_ | with_reducible refine x_add ?_ | with_reducible refine x_addI ?_ | with_reducible refine x_sub ?_ | with_reducible refine x_neg ?_ | with_reducible refine x_lt ?_ | with_reducible refine x_le ?_ | with_reducible refine x_gt ?_ | with_reducible refine x_ge ?_ | with_reducible refine x_eqS ?_ | with_reducible refine x_eq ?_ | with_reducible refine x_ne ?_ | with_reducible refine x_isN ?_ | with_reducible refine x_notN ?_ | with_reducible refine x_isB ?_ | with_reducible refine x_notB ?_ | with_reducible refine x_lenL ?_ | with_reducible refine x_lenT ?_ | with_reducible refine x_max2 ?_ | with_reducible refine x_min2 ?_ | with_reducible refine x_abs ?_ | with_reducible refine x_tupleL ?_ | with_reducible refine x_tupleT ?_ | with_reducible refine x_partL ?_ | with_reducible refine x_partT ?_ | with_reducible refine x_listL ?_ | with_reducible refine x_listT ?_ | with_reducible refine x_iii ?_ | with_reducible refine x_ibi ?_ | with_reducible refine x_iss ?_ | with_reducible refine x_itt ?_ | with_reducible refine x_ill ?_ | with_reducible refine c_true ?_ | with_reducible refine c_false ?_ | with_reducible refine c_nt ?_ | with_reducible refine c_nf ?_ | with_reducible refine c_not ?_ | ((with_reducible apply w_FI); · rfl) | ((with_reducible apply w_oIx); · rfl) | ((with_reducible apply w_oLen); · rfl) | ((with_reducible apply w_oBin); · rfl) | ((with_reducible apply w_consO); · rfl) | ((with_reducible apply w_aug); · rfl) | ((with_reducible apply w_app); · rfl) | ((with_reducible apply w_oset); · rfl) | ((with_reducible apply w_ext); · rfl) | ((with_reducible apply w_retO); · rfl) | ((with_reducible apply w_frz); · rfl) | ((with_reducible apply e_ow); · rfl) | with_reducible refine e_bl ?_ | with_reducible refine e_int ?_ | with_reducible refine e_lst ?_ | with_reducible refine e_tup ?_ | with_reducible refine e_seqL ?_ | with_reducible refine e_seqT ?_ | with_reducible refine e_zipL ?_ | with_reducible refine e_zipT ?_ | with_reducible refine w_partI ?_ | with_reducible refine w_iSeq ?_ | with_reducible refine w_iEnum ?_ | with_reducible refine w_new ?_ | with_reducible refine w_rev ?_ | with_reducible refine w_revT ?_ | with_reducible refine w_slice ?_ | with_reducible refine y_le ?_ | with_reducible refine y_lt ?_ | with_reducible refine y_ge ?_ | with_reducible refine y_gt ?_ | ((with_reducible apply x_ixT); · rfl) | ((with_reducible apply x_ixL); · rfl) | ((with_reducible apply e_at); · rfl) | ((with_reducible apply x_mul); · rfl) | ((with_reducible apply e_ix); · rfl) | ((with_reducible apply x_div); · decide) | ((with_reducible apply x_mod); · decide) | with_reducible refine w_lst ?_ | with_reducible refine w_tup ?_ | ((with_reducible apply e_cap); · exact Nat.le_of_ble_eq_true rfl) | ((with_reducible apply e_set); · (simp only [List.set_cons_zero, List.set_cons_succ]; rfl)) | ((with_reducible apply e_setL); (· rfl); (· (simp only [List.set_cons_zero, List.set_cons_succ]; rfl))) | ((with_reducible apply e_par); (· rfl); (· (simp only [List.set_cons_zero, List.set_cons_succ]; rfl))) | ((with_reducible apply e_par3); (· rfl); (· (simp only [List.set_cons_zero, List.set_cons_succ]; rfl))) | ((with_reducible apply e_pt); (· rfl); (· (simp only [List.set_cons_zero, List.set_cons_succ]; rfl))) | ((with_reducible apply e_pT); · (simp only [pTs, pN, List.length_cons, List.length_nil, List.set_cons_zero, List.set_cons_succ, Nat.reduceAdd, Nat.reduceLT, ite_true, Option.some.injEq]; rfl))))
      refine ⟨p ++ [x], r, aft x c, .im c.d, rfl, by simp [iL], by rw [← h3]; simp [lvs], by simp only [List.length_append, List.length_cons, List.length_nil] at h4 ⊢; omega, fun x hx => h5 x (List.mem_cons_of_mem _ hx)⟩
  · rintro e ⟨p, r, x, w, h1, rfl, h3, h4, h5⟩
    cases r with
    | cons c r => simp [schL] at h1
    | nil =>
      (repeat' (first | ((with_reducible refine c_decT ?_ ?_); · first | decide | rfl) | ((with_reducible refine c_decF ?_ ?_); · decide) | with_reducible refine w_seq ?_ | ((with_reducible apply w_var); · rfl) | with_reducible refine w_setN ?_ | with_reducible refine w_snew ?_ | with_reducible refine w_C ?_ | with_reducible refine w_bin ?_ | with_reducible refine w_un ?_ | with_reducible refine w_isi ?_ | with_reducible refine w_isi2 ?_ | with_reducible refine w_chain ?_ | with_reducible refine w_if ?_ | with_reducible refine w_nil ?_ | with_reducible refine w_cons ?_ | with_reducible refine w_F ?_ | with_reducible refine w_Fb ?_ | with_reducible refine w_FN ?_ | with_reducible refine w_noPart ?_ | with_reducible refine w_slice ?_ | with_reducible refine w_val ?_ | with_reducible refine w_tAnd ?_ | with_reducible refine w_tOr ?_ | with_reducible refine w_tNot ?_ | with_reducible refine w_tYes ?_ | with_reducible refine w_and ?_ | with_reducible refine w_or ?_ | with_reducible refine w_not ?_ | with_reducible refine w_iRng ?_ | with_reducible refine w_iRngD ?_ | with_reducible refine w_iZip ?_ | with_reducible refine w_fr ?_ | with_reducible refine w_tupL ?_ | with_reducible refine w_im ?_ | with_reducible refine w_ow ?_ | with_reducible refine w_set ?_ | with_reducible refine w_par ?_ | with_reducible refine w_expr ?_ | with_reducible refine w_ret ?_ | with_reducible refine w_retN ?_ | with_reducible refine w_pass ?_ | with_reducible refine w_break ?_ | with_reducible refine w_cont ?_ | with_reducible refine w_seq ?_ | with_reducible refine w_sif ?_ | with_reducible refine x_add ?_ | with_reducible refine x_addI ?_ | with_reducible refine x_sub ?_ | with_reducible refine x_neg ?_ | with_reducible refine x_lt ?_ | with_reducible refine x_le ?_ | with_reducible refine x_gt ?_ | with_reducible refine x_ge ?_ | with_reducible refine x_eqS ?_ | with_reducible refine x_eq ?_ | with_reducible refine x_ne ?_ | with_reducible refine x_isN ?_ | with_reducible refine x_notN ?_ | with_reducible refine x_isB ?_ | with_reducible refine x_notB ?_ | with_reducible refine x_lenL ?_ | with_reducible refine x_lenT ?_ | with_reducible refine x_max2 ?_ | with_reducible refine x_min2 ?_ | with_reducible refine x_abs ?_ | with_reducible refine x_tupleL ?_ | with_reducible refine x_tupleT ?_ | with_reducible refine x_partL ?_ | with_reducible refine x_partT ?_ | with_reducible refine x_listL ?_ | with_reducible refine x_listT ?_ | with_reducible refine x_iii ?_ | with_reducible refine x_ibi ?_ | with_reducible refine x_iss ?_ | with_reducible refine x_itt ?_ | with_reducible refine x_ill ?_ | with_reducible refine c_true ?_ | with_reducible refine c_false ?_ | with_reducible refine c_nt ?_ | with_reducible refine c_nf ?_ | with_reducible refine c_not ?_ | ((with_reducible apply w_FI); · rfl) | ((with_reducible apply w_oIx); · rfl) | ((with_reducible apply w_oLen); · rfl) | ((with_reducible apply w_oBin); · rfl) | ((with_reducible apply w_consO); · rfl) | ((with_reducible apply w_aug); · rfl) | ((with_reducible apply w_app); · rfl) | ((with_reducible apply w_oset); · rfl) | ((with_reducible apply w_ext); · rfl) | ((with_reducible apply w_retO); · rfl) | ((with_reducible apply w_frz); · rfl) | ((with_reducible apply e_ow); · rfl) | with_reducible refine e_bl ?_ | with_reducible refine e_int ?_ | with_reducible refine e_lst ?_ | with_reducible refine e_tup ?_ | with_reducible refine e_seqL ?_ | with_reducible refine e_seqT ?_ | with_reducible refine e_zipL ?_ | with_reducible refine e_zipT ?_ | with_reducible refine w_partI ?_ | with_reducible refine w_iSeq ?_ | with_reducible refine w_iEnum ?_ | with_reducible refine w_new ?_ | with_reducible refine w_rev ?_ | with_reducible refine w_revT ?_ | with_reducible refine w_slice ?_ | with_reducible refine y_le ?_ | with_reducible refine y_lt ?_ | with_reducible refine y_ge ?_ | with_reducible refine y_gt ?_ | ((with_reducible apply x_ixT); · rfl) | ((with_reducible apply x_ixL); · rfl) | ((with_reducible apply e_at); · rfl) | ((with_reducible apply x_mul); · rfl) | ((with_reducible apply e_ix); · rfl) | ((with_reducible apply x_div); · decide) | ((with_reducible apply x_mod); · decide) | with_reducible refine w_lst ?_ | with_reducible refine w_tup ?_ | ((with_reducible apply e_cap); · exact Nat.le_of_ble_eq_true rfl) | ((with_reducible apply e_set); · (simp only [List.set_cons_zero, List.set_cons_succ]; rfl)) | ((with_reducible apply e_setL); (· rfl); (· (simp only [List.set_cons_zero, List.set_cons_succ]; rfl))) | ((with_reducible apply e_par); (· rfl); (· (simp only [List.set_cons_zero, List.set_cons_succ]; rfl))) | ((with_reducible apply e_par3); (· rfl); (· (simp only [List.set_cons_zero, List.set_cons_succ]; rfl))) | ((with_reducible apply e_pt); (· rfl); (· (simp only [List.set_cons_zero, List.set_cons_succ]; rfl))) | ((with_reducible apply e_pT); · (simp only [pTs, pN, List.length_cons, List.length_nil, List.set_cons_zero, List.set_cons_succ, Nat.reduceAdd, Nat.reduceLT, ite_true, Option.some.injEq]; rfl))))
      rw [← h3]
      simp [lvs]
theorem nin_tot {a b c : Int} (h : (a = 0 ∧ b = 0 ∧ c = 1) ∨ (a = -1 ∧ b = 0 ∧ c = 0) ∨ (a = 0 ∧ b = 1 ∧ c = 0)) : oNotIn (.tup [.int a, .int b, .int c]) (.tup [.tup [.int 0, .int 0, .int 1], .tup [.int (-1), .int 0, .int 0], .tup [.int 0, .int 1, .int 0]]) = some (.bl false) := by
  rcases h with ⟨rfl, rfl, rfl⟩ | ⟨rfl, rfl, rfl⟩ | ⟨rfl, rfl, rfl⟩ <;> rfl
/-- the row of a start -/
def rowT (s : List Cm) (l : Int) : D := .tup [.int (upS s l), .int (dnS s l), .int (fin s l)]
theorem zip_rows (s : List Cm) (n : Nat) : zipD ((upto n).map (rowT s)) (((upto n).map (rowT s)).drop 1) = (upto (n - 1)).map fun l => .tup [rowT s l, rowT s (l + 1)] := by
  have key : ∀ (k i : Nat), zipD ((List.range' i (k + 1)).map fun j : Nat => rowT s (j : Int)) ((List.range' (i + 1) k).map fun j : Nat => rowT s (j : Int)) = (List.range' i k).map fun j : Nat => .tup [rowT s (j : Int), rowT s ((j : Int) + 1)] := by
    intro k
    induction k with
    | zero => intro i; rfl
    | succ k ih =>
      intro i
      have h := ih (i + 1)
      simp only [List.range'_succ, List.map_cons, zipD] at h ⊢
      rw [h]
      congr 1
  cases n with
  | zero => rfl
  | succ n =>
    have h := key n 0
    simp only [upto, List.range_eq_range', List.map_map, Nat.add_sub_cancel]
    rw [← List.map_drop, List.drop_range']
    exact h
theorem law_ok : ∀ ns : List Int, ns.length ≤ 63 → f_law [.lst (ns.map .int)] = some (.bl true) := by
  intro ns hl
  refine run_D (e := [.im (.lst (iL ns)), .un, .un, .un, .un, .un, .un, .un, .un, .un, .un, .un, .un]) rfl rfl ?_
  unfold c_law
  (repeat' (first | ((with_reducible refine c_decT ?_ ?_); · first | decide | rfl) | ((with_reducible refine c_decF ?_ ?_); · decide) | with_reducible refine w_seq ?_ | ((with_reducible apply w_var); · rfl) | with_reducible refine w_setN ?_ | with_reducible refine w_snew ?_ | with_reducible refine w_C ?_ | with_reducible refine w_bin ?_ | with_reducible refine w_un ?_ | with_reducible refine w_isi ?_ | with_reducible refine w_isi2 ?_ | with_reducible refine w_chain ?_ | with_reducible refine w_if ?_ | with_reducible refine w_nil ?_ | with_reducible refine w_cons ?_ | with_reducible refine w_F ?_ | with_reducible refine w_Fb ?_ | with_reducible refine w_FN ?_ | with_reducible refine w_noPart ?_ | with_reducible refine w_slice ?_ | with_reducible refine w_val ?_ | with_reducible refine w_tAnd ?_ | with_reducible refine w_tOr ?_ | with_reducible refine w_tNot ?_ | with_reducible refine w_tYes ?_ | with_reducible refine w_and ?_ | with_reducible refine w_or ?_ | with_reducible refine w_not ?_ | with_reducible refine w_iRng ?_ | with_reducible refine w_iRngD ?_ | with_reducible refine w_iZip ?_ | with_reducible refine w_fr ?_ | with_reducible refine w_tupL ?_ | with_reducible refine w_im ?_ | with_reducible refine w_ow ?_ | with_reducible refine w_set ?_ | with_reducible refine w_par ?_ | with_reducible refine w_expr ?_ | with_reducible refine w_ret ?_ | with_reducible refine w_retN ?_ | with_reducible refine w_pass ?_ | with_reducible refine w_break ?_ | with_reducible refine w_cont ?_ | with_reducible refine w_seq ?_ | with_reducible refine w_sif ?_ | with_reducible refine x_add ?_ | with_reducible refine x_addI ?_ | with_reducible refine x_sub ?_ | with_reducible refine x_neg ?_ | with_reducible refine x_lt ?_ | with_reducible refine x_le ?_ | with_reducible refine x_gt ?_ | with_reducible refine x_ge ?_ | with_reducible refine x_eqS ?_ | with_reducible refine x_eq ?_ | with_reducible refine x_ne ?_ | with_reducible refine x_isN ?_ | with_reducible refine x_notN ?_ | with_reducible refine x_isB ?_ | with_reducible refine x_notB ?_ | with_reducible refine x_lenL ?_ | with_reducible refine x_lenT ?_ | with_reducible refine x_max2 ?_ | with_reducible refine x_min2 ?_ | with_reducible refine x_abs ?_ | with_reducible refine x_tupleL ?_ | with_reducible refine x_tupleT ?_ | with_reducible refine x_partL ?_ | with_reducible refine x_partT ?_ | with_reducible refine x_listL ?_ | with_reducible refine x_listT ?_ | with_reducible refine x_iii ?_ | with_reducible refine x_ibi ?_ | with_reducible refine x_iss ?_ | with_reducible refine x_itt ?_ | with_reducible refine x_ill ?_ | with_reducible refine c_true ?_ | with_reducible refine c_false ?_ | with_reducible refine c_nt ?_ | with_reducible refine c_nf ?_ | with_reducible refine c_not ?_ | ((with_reducible apply w_FI); · rfl) | ((with_reducible apply w_oIx); · rfl) | ((with_reducible apply w_oLen); · rfl) | ((with_reducible apply w_oBin); · rfl) | ((with_reducible apply w_consO); · rfl) | ((with_reducible apply w_aug); · rfl) | ((with_reducible apply w_app); · rfl) | ((with_reducible apply w_oset); · rfl) | ((with_reducible apply w_ext); · rfl) | ((with_reducible apply w_retO); · rfl) | ((with_reducible apply w_frz); · rfl) | ((with_reducible apply e_ow); · rfl) | with_reducible refine e_bl ?_ | with_reducible refine e_int ?_ | with_reducible refine e_lst ?_ | with_reducible refine e_tup ?_ | with_reducible refine e_seqL ?_ | with_reducible refine e_seqT ?_ | with_reducible refine e_zipL ?_ | with_reducible refine e_zipT ?_ | with_reducible refine w_partI ?_ | with_reducible refine w_iSeq ?_ | with_reducible refine w_iEnum ?_ | with_reducible refine w_new ?_ | with_reducible refine w_rev ?_ | with_reducible refine w_revT ?_ | with_reducible refine w_slice ?_ | with_reducible refine y_le ?_ | with_reducible refine y_lt ?_ | with_reducible refine y_ge ?_ | with_reducible refine y_gt ?_ | ((with_reducible apply x_ixT); · rfl) | ((with_reducible apply x_ixL); · rfl) | ((with_reducible apply e_at); · rfl) | ((with_reducible apply x_mul); · rfl) | ((with_reducible apply e_ix); · rfl) | ((with_reducible apply x_div); · decide) | ((with_reducible apply x_mod); · decide) | with_reducible refine w_lst ?_ | with_reducible refine w_tup ?_ | ((with_reducible apply e_cap); · exact Nat.le_of_ble_eq_true rfl) | ((with_reducible apply e_set); · (simp only [List.set_cons_zero, List.set_cons_succ]; rfl)) | ((with_reducible apply e_setL); (· rfl); (· (simp only [List.set_cons_zero, List.set_cons_succ]; rfl))) | ((with_reducible apply e_par); (· rfl); (· (simp only [List.set_cons_zero, List.set_cons_succ]; rfl))) | ((with_reducible apply e_par3); (· rfl); (· (simp only [List.set_cons_zero, List.set_cons_succ]; rfl))) | ((with_reducible apply e_pt); (· rfl); (· (simp only [List.set_cons_zero, List.set_cons_succ]; rfl))) | ((with_reducible apply e_pT); · (simp only [pTs, pN, List.length_cons, List.length_nil, List.set_cons_zero, List.set_cons_succ, Nat.reduceAdd, Nat.reduceLT, ite_true, Option.some.injEq]; rfl))))
  refine w_forI (fun ds e => ∃ (ms : List Int) (x1 x2 x3 x4 x5 x6 x7 x8 x9 x10 x11 x12 : Sl), ds = iL ms ∧ e = [.im (.lst (iL ns)), x1, x2, x3, x4, x5, x6, x7, x8, x9, x10, x11, x12]) ?_ ?_ ?_
  · (repeat' (first | ((with_reducible refine c_decT ?_ ?_); · first | decide | rfl) | ((with_reducible refine c_decF ?_ ?_); · decide) | with_reducible refine w_seq ?_ | ((with_reducible apply w_var); · rfl) | with_reducible refine w_setN ?_ | with_reducible refine w_snew ?_ | with_reducible refine w_C ?_ | with_reducible refine w_bin ?_ | with_reducible refine w_un ?_ | with_reducible refine w_isi ?_ | with_reducible refine w_isi2 ?_ | with_reducible refine w_chain ?_ | with_reducible refine w_if ?_ | with_reducible refine w_nil ?_ | with_reducible refine w_cons ?_ | with_reducible refine w_F ?_ | with_reducible refine w_Fb ?_ | with_reducible refine w_FN ?_ | with_reducible refine w_noPart ?_ | with_reducible refine w_slice ?_ | with_reducible refine w_val ?_ | with_reducible refine w_tAnd ?_ | with_reducible refine w_tOr ?_ | with_reducible refine w_tNot ?_ | with_reducible refine w_tYes ?_ | with_reducible refine w_and ?_ | with_reducible refine w_or ?_ | with_reducible refine w_not ?_ | with_reducible refine w_iRng ?_ | with_reducible refine w_iRngD ?_ | with_reducible refine w_iZip ?_ | with_reducible refine w_fr ?_ | with_reducible refine w_tupL ?_ | with_reducible refine w_im ?_ | with_reducible refine w_ow ?_ | with_reducible refine w_set ?_ | with_reducible refine w_par ?_ | with_reducible refine w_expr ?_ | with_reducible refine w_ret ?_ | with_reducible refine w_retN ?_ | with_reducible refine w_pass ?_ | with_reducible refine w_break ?_ | with_reducible refine w_cont ?_ | with_reducible refine w_seq ?_ | with_reducible refine w_sif ?_ | with_reducible refine x_add ?_ | with_reducible refine x_addI ?_ | with_reducible refine x_sub ?_ | with_reducible refine x_neg ?_ | with_reducible refine x_lt ?_ | with_reducible refine x_le ?_ | with_reducible refine x_gt ?_ | with_reducible refine x_ge ?_ | with_reducible refine x_eqS ?_ | with_reducible refine x_eq ?_ | with_reducible refine x_ne ?_ | with_reducible refine x_isN ?_ | with_reducible refine x_notN ?_ | with_reducible refine x_isB ?_ | with_reducible refine x_notB ?_ | with_reducible refine x_lenL ?_ | with_reducible refine x_lenT ?_ | with_reducible refine x_max2 ?_ | with_reducible refine x_min2 ?_ | with_reducible refine x_abs ?_ | with_reducible refine x_tupleL ?_ | with_reducible refine x_tupleT ?_ | with_reducible refine x_partL ?_ | with_reducible refine x_partT ?_ | with_reducible refine x_listL ?_ | with_reducible refine x_listT ?_ | with_reducible refine x_iii ?_ | with_reducible refine x_ibi ?_ | with_reducible refine x_iss ?_ | with_reducible refine x_itt ?_ | with_reducible refine x_ill ?_ | with_reducible refine c_true ?_ | with_reducible refine c_false ?_ | with_reducible refine c_nt ?_ | with_reducible refine c_nf ?_ | with_reducible refine c_not ?_ | ((with_reducible apply w_FI); · rfl) | ((with_reducible apply w_oIx); · rfl) | ((with_reducible apply w_oLen); · rfl) | ((with_reducible apply w_oBin); · rfl) | ((with_reducible apply w_consO); · rfl) | ((with_reducible apply w_aug); · rfl) | ((with_reducible apply w_app); · rfl) | ((with_reducible apply w_oset); · rfl) | ((with_reducible apply w_ext); · rfl) | ((with_reducible apply w_retO); · rfl) | ((with_reducible apply w_frz); · rfl) | ((with_reducible apply e_ow); · rfl) | with_reducible refine e_bl ?_ | with_reducible refine e_int ?_ | with_reducible refine e_lst ?_ | with_reducible refine e_tup ?_ | with_reducible refine e_seqL ?_ | with_reducible refine e_seqT ?_ | with_reducible refine e_zipL ?_ | with_reducible refine e_zipT ?_ | with_reducible refine w_partI ?_ | with_reducible refine w_iSeq ?_ | with_reducible refine w_iEnum ?_ | with_reducible refine w_new ?_ | with_reducible refine w_rev ?_ | with_reducible refine w_revT ?_ | with_reducible refine w_slice ?_ | with_reducible refine y_le ?_ | with_reducible refine y_lt ?_ | with_reducible refine y_ge ?_ | with_reducible refine y_gt ?_ | ((with_reducible apply x_ixT); · rfl) | ((with_reducible apply x_ixL); · rfl) | ((with_reducible apply e_at); · rfl) | ((with_reducible apply x_mul); · rfl) | ((with_reducible apply e_ix); · rfl) | ((with_reducible apply x_div); · decide) | ((with_reducible apply x_mod); · decide) | with_reducible refine w_lst ?_ | with_reducible refine w_tup ?_ | ((with_reducible apply e_cap); · exact Nat.le_of_ble_eq_true rfl) | ((with_reducible apply e_set); · (simp only [List.set_cons_zero, List.set_cons_succ]; rfl)) | ((with_reducible apply e_setL); (· rfl); (· (simp only [List.set_cons_zero, List.set_cons_succ]; rfl))) | ((with_reducible apply e_par); (· rfl); (· (simp only [List.set_cons_zero, List.set_cons_succ]; rfl))) | ((with_reducible apply e_par3); (· rfl); (· (simp only [List.set_cons_zero, List.set_cons_succ]; rfl))) | ((with_reducible apply e_pt); (· rfl); (· (simp only [List.set_cons_zero, List.set_cons_succ]; rfl))) | ((with_reducible apply e_pT); · (simp only [pTs, pN, List.length_cons, List.length_nil, List.set_cons_zero, List.set_cons_succ, Nat.reduceAdd, Nat.reduceLT, ite_true, Option.some.injEq]; rfl))))
    refine x_addL (by rw [iL_len]; exact cap_lt (by simp; omega)) ?_
    (repeat' (first | ((with_reducible refine c_decT ?_ ?_); · first | decide | rfl) | ((with_reducible refine c_decF ?_ ?_); · decide) | with_reducible refine w_seq ?_ | ((with_reducible apply w_var); · rfl) | with_reducible refine w_setN ?_ | with_reducible refine w_snew ?_ | with_reducible refine w_C ?_ | with_reducible refine w_bin ?_ | with_reducible refine w_un ?_ | with_reducible refine w_isi ?_ | with_reducible refine w_isi2 ?_ | with_reducible refine w_chain ?_ | with_reducible refine w_if ?_ | with_reducible refine w_nil ?_ | with_reducible refine w_cons ?_ | with_reducible refine w_F ?_ | with_reducible refine w_Fb ?_ | with_reducible refine w_FN ?_ | with_reducible refine w_noPart ?_ | with_reducible refine w_slice ?_ | with_reducible refine w_val ?_ | with_reducible refine w_tAnd ?_ | with_reducible refine w_tOr ?_ | with_reducible refine w_tNot ?_ | with_reducible refine w_tYes ?_ | with_reducible refine w_and ?_ | with_reducible refine w_or ?_ | with_reducible refine w_not ?_ | with_reducible refine w_iRng ?_ | with_reducible refine w_iRngD ?_ | with_reducible refine w_iZip ?_ | with_reducible refine w_fr ?_ | with_reducible refine w_tupL ?_ | with_reducible refine w_im ?_ | with_reducible refine w_ow ?_ | with_reducible refine w_set ?_ | with_reducible refine w_par ?_ | with_reducible refine w_expr ?_ | with_reducible refine w_ret ?_ | with_reducible refine w_retN ?_ | with_reducible refine w_pass ?_ | with_reducible refine w_break ?_ | with_reducible refine w_cont ?_ | with_reducible refine w_seq ?_ | with_reducible refine w_sif ?_ | with_reducible refine x_add ?_ | with_reducible refine x_addI ?_ | with_reducible refine x_sub ?_ | with_reducible refine x_neg ?_ | with_reducible refine x_lt ?_ | with_reducible refine x_le ?_ | with_reducible refine x_gt ?_ | with_reducible refine x_ge ?_ | with_reducible refine x_eqS ?_ | with_reducible refine x_eq ?_ | with_reducible refine x_ne ?_ | with_reducible refine x_isN ?_ | with_reducible refine x_notN ?_ | with_reducible refine x_isB ?_ | with_reducible refine x_notB ?_ | with_reducible refine x_lenL ?_ | with_reducible refine x_lenT ?_ | with_reducible refine x_max2 ?_ | with_reducible refine x_min2 ?_ | with_reducible refine x_abs ?_ | with_reducible refine x_tupleL ?_ | with_reducible refine x_tupleT ?_ | with_reducible refine x_partL ?_ | with_reducible refine x_partT ?_ | with_reducible refine x_listL ?_ | with_reducible refine x_listT ?_ | with_reducible refine x_iii ?_ | with_reducible refine x_ibi ?_ | with_reducible refine x_iss ?_ | with_reducible refine x_itt ?_ | with_reducible refine x_ill ?_ | with_reducible refine c_true ?_ | with_reducible refine c_false ?_ | with_reducible refine c_nt ?_ | with_reducible refine c_nf ?_ | with_reducible refine c_not ?_ | ((with_reducible apply w_FI); · rfl) | ((with_reducible apply w_oIx); · rfl) | ((with_reducible apply w_oLen); · rfl) | ((with_reducible apply w_oBin); · rfl) | ((with_reducible apply w_consO); · rfl) | ((with_reducible apply w_aug); · rfl) | ((with_reducible apply w_app); · rfl) | ((with_reducible apply w_oset); · rfl) | ((with_reducible apply w_ext); · rfl) | ((with_reducible apply w_retO); · rfl) | ((with_reducible apply w_frz); · rfl) | ((with_reducible apply e_ow); · rfl) | with_reducible refine e_bl ?_ | with_reducible refine e_int ?_ | with_reducible refine e_lst ?_ | with_reducible refine e_tup ?_ | with_reducible refine e_seqL ?_ | with_reducible refine e_seqT ?_ | with_reducible refine e_zipL ?_ | with_reducible refine e_zipT ?_ | with_reducible refine w_partI ?_ | with_reducible refine w_iSeq ?_ | with_reducible refine w_iEnum ?_ | with_reducible refine w_new ?_ | with_reducible refine w_rev ?_ | with_reducible refine w_revT ?_ | with_reducible refine w_slice ?_ | with_reducible refine y_le ?_ | with_reducible refine y_lt ?_ | with_reducible refine y_ge ?_ | with_reducible refine y_gt ?_ | ((with_reducible apply x_ixT); · rfl) | ((with_reducible apply x_ixL); · rfl) | ((with_reducible apply e_at); · rfl) | ((with_reducible apply x_mul); · rfl) | ((with_reducible apply e_ix); · rfl) | ((with_reducible apply x_div); · decide) | ((with_reducible apply x_mod); · decide) | with_reducible refine w_lst ?_ | with_reducible refine w_tup ?_ | ((with_reducible apply e_cap); · exact Nat.le_of_ble_eq_true rfl) | ((with_reducible apply e_set); · (simp only [List.set_cons_zero, List.set_cons_succ]; rfl)) | ((with_reducible apply e_setL); (· rfl); (· (simp only [List.set_cons_zero, List.set_cons_succ]; rfl))) | ((with_reducible apply e_par); (· rfl); (· (simp only [List.set_cons_zero, List.set_cons_succ]; rfl))) | ((with_reducible apply e_par3); (· rfl); (· (simp only [List.set_cons_zero, List.set_cons_succ]; rfl))) | ((with_reducible apply e_pt); (· rfl); (· (simp only [List.set_cons_zero, List.set_cons_succ]; rfl))) | ((with_reducible apply e_pT); · (simp only [pTs, pN, List.length_cons, List.length_nil, List.set_cons_zero, List.set_cons_succ, Nat.reduceAdd, Nat.reduceLT, ite_true, Option.some.injEq]; rfl))))
    obtain ⟨ms, e⟩ := cells_ints ns 10
    exact ⟨ms, _, _, _, _, _, _, _, _, _, _, _, _, e, rfl⟩
  · rintro d ds e ⟨ms, x1, x2, x3, x4, x5, x6, x7, x8, x9, x10, x11, x12, h0, rfl⟩
    obtain ⟨i, r, rfl, rfl, rfl⟩ := iL_cons_inv h0
    (repeat' (first | ((with_reducible refine c_decT ?_ ?_); · first | decide | rfl) | ((with_reducible refine c_decF ?_ ?_); · decide) | with_reducible refine w_seq ?_ | ((with_reducible apply w_var); · rfl) | with_reducible refine w_setN ?_ | with_reducible refine w_snew ?_ | with_reducible refine w_C ?_ | with_reducible refine w_bin ?_ | with_reducible refine w_un ?_ | with_reducible refine w_isi ?_ | with_reducible refine w_isi2 ?_ | with_reducible refine w_chain ?_ | with_reducible refine w_if ?_ | with_reducible refine w_nil ?_ | with_reducible refine w_cons ?_ | with_reducible refine w_F ?_ | with_reducible refine w_Fb ?_ | with_reducible refine w_FN ?_ | with_reducible refine w_noPart ?_ | with_reducible refine w_slice ?_ | with_reducible refine w_val ?_ | with_reducible refine w_tAnd ?_ | with_reducible refine w_tOr ?_ | with_reducible refine w_tNot ?_ | with_reducible refine w_tYes ?_ | with_reducible refine w_and ?_ | with_reducible refine w_or ?_ | with_reducible refine w_not ?_ | with_reducible refine w_iRng ?_ | with_reducible refine w_iRngD ?_ | with_reducible refine w_iZip ?_ | with_reducible refine w_fr ?_ | with_reducible refine w_tupL ?_ | with_reducible refine w_im ?_ | with_reducible refine w_ow ?_ | with_reducible refine w_set ?_ | with_reducible refine w_par ?_ | with_reducible refine w_expr ?_ | with_reducible refine w_ret ?_ | with_reducible refine w_retN ?_ | with_reducible refine w_pass ?_ | with_reducible refine w_break ?_ | with_reducible refine w_cont ?_ | with_reducible refine w_seq ?_ | with_reducible refine w_sif ?_ | with_reducible refine x_add ?_ | with_reducible refine x_addI ?_ | with_reducible refine x_sub ?_ | with_reducible refine x_neg ?_ | with_reducible refine x_lt ?_ | with_reducible refine x_le ?_ | with_reducible refine x_gt ?_ | with_reducible refine x_ge ?_ | with_reducible refine x_eqS ?_ | with_reducible refine x_eq ?_ | with_reducible refine x_ne ?_ | with_reducible refine x_isN ?_ | with_reducible refine x_notN ?_ | with_reducible refine x_isB ?_ | with_reducible refine x_notB ?_ | with_reducible refine x_lenL ?_ | with_reducible refine x_lenT ?_ | with_reducible refine x_max2 ?_ | with_reducible refine x_min2 ?_ | with_reducible refine x_abs ?_ | with_reducible refine x_tupleL ?_ | with_reducible refine x_tupleT ?_ | with_reducible refine x_partL ?_ | with_reducible refine x_partT ?_ | with_reducible refine x_listL ?_ | with_reducible refine x_listT ?_ | with_reducible refine x_iii ?_ | with_reducible refine x_ibi ?_ | with_reducible refine x_iss ?_ | with_reducible refine x_itt ?_ | with_reducible refine x_ill ?_ | with_reducible refine c_true ?_ | with_reducible refine c_false ?_ | with_reducible refine c_nt ?_ | with_reducible refine c_nf ?_ | with_reducible refine c_not ?_ | ((with_reducible apply w_FI); · rfl) | ((with_reducible apply w_oIx); · rfl) | ((with_reducible apply w_oLen); · rfl) | ((with_reducible apply w_oBin); · rfl) | ((with_reducible apply w_consO); · rfl) | ((with_reducible apply w_aug); · rfl) | ((with_reducible apply w_app); · rfl) | ((with_reducible apply w_oset); · rfl) | ((with_reducible apply w_ext); · rfl) | ((with_reducible apply w_retO); · rfl) | ((with_reducible apply w_frz); · rfl) | ((with_reducible apply e_ow); · rfl) | with_reducible refine e_bl ?_ | with_reducible refine e_int ?_ | with_reducible refine e_lst ?_ | with_reducible refine e_tup ?_ | with_reducible refine e_seqL ?_ | with_reducible refine e_seqT ?_ | with_reducible refine e_zipL ?_ | with_reducible refine e_zipT ?_ | with_reducible refine w_partI ?_ | with_reducible refine w_iSeq ?_ | with_reducible refine w_iEnum ?_ | with_reducible refine w_new ?_ | with_reducible refine w_rev ?_ | with_reducible refine w_revT ?_ | with_reducible refine w_slice ?_ | with_reducible refine y_le ?_ | with_reducible refine y_lt ?_ | with_reducible refine y_ge ?_ | with_reducible refine y_gt ?_ | ((with_reducible apply x_ixT); · rfl) | ((with_reducible apply x_ixL); · rfl) | ((with_reducible apply e_at); · rfl) | ((with_reducible apply x_mul); · rfl) | ((with_reducible apply e_ix); · rfl) | ((with_reducible apply x_div); · decide) | ((with_reducible apply x_mod); · decide) | with_reducible refine w_lst ?_ | with_reducible refine w_tup ?_ | ((with_reducible apply e_cap); · exact Nat.le_of_ble_eq_true rfl) | ((with_reducible apply e_set); · (simp only [List.set_cons_zero, List.set_cons_succ]; rfl)) | ((with_reducible apply e_setL); (· rfl); (· (simp only [List.set_cons_zero, List.set_cons_succ]; rfl))) | ((with_reducible apply e_par); (· rfl); (· (simp only [List.set_cons_zero, List.set_cons_succ]; rfl))) | ((with_reducible apply e_par3); (· rfl); (· (simp only [List.set_cons_zero, List.set_cons_succ]; rfl))) | ((with_reducible apply e_pt); (· rfl); (· (simp only [List.set_cons_zero, List.set_cons_succ]; rfl))) | ((with_reducible apply e_pT); · (simp only [pTs, pN, List.length_cons, List.length_nil, List.set_cons_zero, List.set_cons_succ, Nat.reduceAdd, Nat.reduceLT, ite_true, Option.some.injEq]; rfl))))
    refine w_source (by decide) (by decide) fun s1 hs1 => ?_
    (repeat' (first | ((with_reducible refine c_decT ?_ ?_); · first | decide | rfl) | ((with_reducible refine c_decF ?_ ?_); · decide) | with_reducible refine w_seq ?_ | ((with_reducible apply w_var); · rfl) | with_reducible refine w_setN ?_ | with_reducible refine w_snew ?_ | with_reducible refine w_C ?_ | with_reducible refine w_bin ?_ | with_reducible refine w_un ?_ | with_reducible refine w_isi ?_ | with_reducible refine w_isi2 ?_ | with_reducible refine w_chain ?_ | with_reducible refine w_if ?_ | with_reducible refine w_nil ?_ | with_reducible refine w_cons ?_ | with_reducible refine w_F ?_ | with_reducible refine w_Fb ?_ | with_reducible refine w_FN ?_ | with_reducible refine w_noPart ?_ | with_reducible refine w_slice ?_ | with_reducible refine w_val ?_ | with_reducible refine w_tAnd ?_ | with_reducible refine w_tOr ?_ | with_reducible refine w_tNot ?_ | with_reducible refine w_tYes ?_ | with_reducible refine w_and ?_ | with_reducible refine w_or ?_ | with_reducible refine w_not ?_ | with_reducible refine w_iRng ?_ | with_reducible refine w_iRngD ?_ | with_reducible refine w_iZip ?_ | with_reducible refine w_fr ?_ | with_reducible refine w_tupL ?_ | with_reducible refine w_im ?_ | with_reducible refine w_ow ?_ | with_reducible refine w_set ?_ | with_reducible refine w_par ?_ | with_reducible refine w_expr ?_ | with_reducible refine w_ret ?_ | with_reducible refine w_retN ?_ | with_reducible refine w_pass ?_ | with_reducible refine w_break ?_ | with_reducible refine w_cont ?_ | with_reducible refine w_seq ?_ | with_reducible refine w_sif ?_ | with_reducible refine x_add ?_ | with_reducible refine x_addI ?_ | with_reducible refine x_sub ?_ | with_reducible refine x_neg ?_ | with_reducible refine x_lt ?_ | with_reducible refine x_le ?_ | with_reducible refine x_gt ?_ | with_reducible refine x_ge ?_ | with_reducible refine x_eqS ?_ | with_reducible refine x_eq ?_ | with_reducible refine x_ne ?_ | with_reducible refine x_isN ?_ | with_reducible refine x_notN ?_ | with_reducible refine x_isB ?_ | with_reducible refine x_notB ?_ | with_reducible refine x_lenL ?_ | with_reducible refine x_lenT ?_ | with_reducible refine x_max2 ?_ | with_reducible refine x_min2 ?_ | with_reducible refine x_abs ?_ | with_reducible refine x_tupleL ?_ | with_reducible refine x_tupleT ?_ | with_reducible refine x_partL ?_ | with_reducible refine x_partT ?_ | with_reducible refine x_listL ?_ | with_reducible refine x_listT ?_ | with_reducible refine x_iii ?_ | with_reducible refine x_ibi ?_ | with_reducible refine x_iss ?_ | with_reducible refine x_itt ?_ | with_reducible refine x_ill ?_ | with_reducible refine c_true ?_ | with_reducible refine c_false ?_ | with_reducible refine c_nt ?_ | with_reducible refine c_nf ?_ | with_reducible refine c_not ?_ | ((with_reducible apply w_FI); · rfl) | ((with_reducible apply w_oIx); · rfl) | ((with_reducible apply w_oLen); · rfl) | ((with_reducible apply w_oBin); · rfl) | ((with_reducible apply w_consO); · rfl) | ((with_reducible apply w_aug); · rfl) | ((with_reducible apply w_app); · rfl) | ((with_reducible apply w_oset); · rfl) | ((with_reducible apply w_ext); · rfl) | ((with_reducible apply w_retO); · rfl) | ((with_reducible apply w_frz); · rfl) | ((with_reducible apply e_ow); · rfl) | with_reducible refine e_bl ?_ | with_reducible refine e_int ?_ | with_reducible refine e_lst ?_ | with_reducible refine e_tup ?_ | with_reducible refine e_seqL ?_ | with_reducible refine e_seqT ?_ | with_reducible refine e_zipL ?_ | with_reducible refine e_zipT ?_ | with_reducible refine w_partI ?_ | with_reducible refine w_iSeq ?_ | with_reducible refine w_iEnum ?_ | with_reducible refine w_new ?_ | with_reducible refine w_rev ?_ | with_reducible refine w_revT ?_ | with_reducible refine w_slice ?_ | with_reducible refine y_le ?_ | with_reducible refine y_lt ?_ | with_reducible refine y_ge ?_ | with_reducible refine y_gt ?_ | ((with_reducible apply x_ixT); · rfl) | ((with_reducible apply x_ixL); · rfl) | ((with_reducible apply e_at); · rfl) | ((with_reducible apply x_mul); · rfl) | ((with_reducible apply e_ix); · rfl) | ((with_reducible apply x_div); · decide) | ((with_reducible apply x_mod); · decide) | with_reducible refine w_lst ?_ | with_reducible refine w_tup ?_ | ((with_reducible apply e_cap); · exact Nat.le_of_ble_eq_true rfl) | ((with_reducible apply e_set); · (simp only [List.set_cons_zero, List.set_cons_succ]; rfl)) | ((with_reducible apply e_setL); (· rfl); (· (simp only [List.set_cons_zero, List.set_cons_succ]; rfl))) | ((with_reducible apply e_par); (· rfl); (· (simp only [List.set_cons_zero, List.set_cons_succ]; rfl))) | ((with_reducible apply e_par3); (· rfl); (· (simp only [List.set_cons_zero, List.set_cons_succ]; rfl))) | ((with_reducible apply e_pt); (· rfl); (· (simp only [List.set_cons_zero, List.set_cons_succ]; rfl))) | ((with_reducible apply e_pT); · (simp only [pTs, pN, List.length_cons, List.length_nil, List.set_cons_zero, List.set_cons_succ, Nat.reduceAdd, Nat.reduceLT, ite_true, Option.some.injEq]; rfl))))
    refine w_choice hs1 (by omega) (by simp) (by simp) fun d s2 hd hs2 => ?_
    have hw : ∃ w : Int, d = .int w ∧ 1 ≤ w ∧ w ≤ 60 := by
      simp only [List.mem_cons, List.not_mem_nil, or_false] at hd
      rcases hd with rfl | rfl | rfl <;> exact ⟨_, rfl, by omega, by omega⟩
    obtain ⟨w, rfl, hw1, hw2⟩ := hw
    (repeat' (first | ((with_reducible refine c_decT ?_ ?_); · first | decide | rfl) | ((with_reducible refine c_decF ?_ ?_); · decide) | with_reducible refine w_seq ?_ | ((with_reducible apply w_var); · rfl) | with_reducible refine w_setN ?_ | with_reducible refine w_snew ?_ | with_reducible refine w_C ?_ | with_reducible refine w_bin ?_ | with_reducible refine w_un ?_ | with_reducible refine w_isi ?_ | with_reducible refine w_isi2 ?_ | with_reducible refine w_chain ?_ | with_reducible refine w_if ?_ | with_reducible refine w_nil ?_ | with_reducible refine w_cons ?_ | with_reducible refine w_F ?_ | with_reducible refine w_Fb ?_ | with_reducible refine w_FN ?_ | with_reducible refine w_noPart ?_ | with_reducible refine w_slice ?_ | with_reducible refine w_val ?_ | with_reducible refine w_tAnd ?_ | with_reducible refine w_tOr ?_ | with_reducible refine w_tNot ?_ | with_reducible refine w_tYes ?_ | with_reducible refine w_and ?_ | with_reducible refine w_or ?_ | with_reducible refine w_not ?_ | with_reducible refine w_iRng ?_ | with_reducible refine w_iRngD ?_ | with_reducible refine w_iZip ?_ | with_reducible refine w_fr ?_ | with_reducible refine w_tupL ?_ | with_reducible refine w_im ?_ | with_reducible refine w_ow ?_ | with_reducible refine w_set ?_ | with_reducible refine w_par ?_ | with_reducible refine w_expr ?_ | with_reducible refine w_ret ?_ | with_reducible refine w_retN ?_ | with_reducible refine w_pass ?_ | with_reducible refine w_break ?_ | with_reducible refine w_cont ?_ | with_reducible refine w_seq ?_ | with_reducible refine w_sif ?_ | with_reducible refine x_add ?_ | with_reducible refine x_addI ?_ | with_reducible refine x_sub ?_ | with_reducible refine x_neg ?_ | with_reducible refine x_lt ?_ | with_reducible refine x_le ?_ | with_reducible refine x_gt ?_ | with_reducible refine x_ge ?_ | with_reducible refine x_eqS ?_ | with_reducible refine x_eq ?_ | with_reducible refine x_ne ?_ | with_reducible refine x_isN ?_ | with_reducible refine x_notN ?_ | with_reducible refine x_isB ?_ | with_reducible refine x_notB ?_ | with_reducible refine x_lenL ?_ | with_reducible refine x_lenT ?_ | with_reducible refine x_max2 ?_ | with_reducible refine x_min2 ?_ | with_reducible refine x_abs ?_ | with_reducible refine x_tupleL ?_ | with_reducible refine x_tupleT ?_ | with_reducible refine x_partL ?_ | with_reducible refine x_partT ?_ | with_reducible refine x_listL ?_ | with_reducible refine x_listT ?_ | with_reducible refine x_iii ?_ | with_reducible refine x_ibi ?_ | with_reducible refine x_iss ?_ | with_reducible refine x_itt ?_ | with_reducible refine x_ill ?_ | with_reducible refine c_true ?_ | with_reducible refine c_false ?_ | with_reducible refine c_nt ?_ | with_reducible refine c_nf ?_ | with_reducible refine c_not ?_ | ((with_reducible apply w_FI); · rfl) | ((with_reducible apply w_oIx); · rfl) | ((with_reducible apply w_oLen); · rfl) | ((with_reducible apply w_oBin); · rfl) | ((with_reducible apply w_consO); · rfl) | ((with_reducible apply w_aug); · rfl) | ((with_reducible apply w_app); · rfl) | ((with_reducible apply w_oset); · rfl) | ((with_reducible apply w_ext); · rfl) | ((with_reducible apply w_retO); · rfl) | ((with_reducible apply w_frz); · rfl) | ((with_reducible apply e_ow); · rfl) | with_reducible refine e_bl ?_ | with_reducible refine e_int ?_ | with_reducible refine e_lst ?_ | with_reducible refine e_tup ?_ | with_reducible refine e_seqL ?_ | with_reducible refine e_seqT ?_ | with_reducible refine e_zipL ?_ | with_reducible refine e_zipT ?_ | with_reducible refine w_partI ?_ | with_reducible refine w_iSeq ?_ | with_reducible refine w_iEnum ?_ | with_reducible refine w_new ?_ | with_reducible refine w_rev ?_ | with_reducible refine w_revT ?_ | with_reducible refine w_slice ?_ | with_reducible refine y_le ?_ | with_reducible refine y_lt ?_ | with_reducible refine y_ge ?_ | with_reducible refine y_gt ?_ | ((with_reducible apply x_ixT); · rfl) | ((with_reducible apply x_ixL); · rfl) | ((with_reducible apply e_at); · rfl) | ((with_reducible apply x_mul); · rfl) | ((with_reducible apply e_ix); · rfl) | ((with_reducible apply x_div); · decide) | ((with_reducible apply x_mod); · decide) | with_reducible refine w_lst ?_ | with_reducible refine w_tup ?_ | ((with_reducible apply e_cap); · exact Nat.le_of_ble_eq_true rfl) | ((with_reducible apply e_set); · (simp only [List.set_cons_zero, List.set_cons_succ]; rfl)) | ((with_reducible apply e_setL); (· rfl); (· (simp only [List.set_cons_zero, List.set_cons_succ]; rfl))) | ((with_reducible apply e_par); (· rfl); (· (simp only [List.set_cons_zero, List.set_cons_succ]; rfl))) | ((with_reducible apply e_par3); (· rfl); (· (simp only [List.set_cons_zero, List.set_cons_succ]; rfl))) | ((with_reducible apply e_pt); (· rfl); (· (simp only [List.set_cons_zero, List.set_cons_succ]; rfl))) | ((with_reducible apply e_pT); · (simp only [pTs, pN, List.length_cons, List.length_nil, List.set_cons_zero, List.set_cons_succ, Nat.reduceAdd, Nat.reduceLT, ite_true, Option.some.injEq]; rfl))))
    refine w_draw hs2 (by omega) (by omega) (by omega) fun k s3 hk0 hk1 hs3 => ?_
    (repeat' (first | ((with_reducible refine c_decT ?_ ?_); · first | decide | rfl) | ((with_reducible refine c_decF ?_ ?_); · decide) | with_reducible refine w_seq ?_ | ((with_reducible apply w_var); · rfl) | with_reducible refine w_setN ?_ | with_reducible refine w_snew ?_ | with_reducible refine w_C ?_ | with_reducible refine w_bin ?_ | with_reducible refine w_un ?_ | with_reducible refine w_isi ?_ | with_reducible refine w_isi2 ?_ | with_reducible refine w_chain ?_ | with_reducible refine w_if ?_ | with_reducible refine w_nil ?_ | with_reducible refine w_cons ?_ | with_reducible refine w_F ?_ | with_reducible refine w_Fb ?_ | with_reducible refine w_FN ?_ | with_reducible refine w_noPart ?_ | with_reducible refine w_slice ?_ | with_reducible refine w_val ?_ | with_reducible refine w_tAnd ?_ | with_reducible refine w_tOr ?_ | with_reducible refine w_tNot ?_ | with_reducible refine w_tYes ?_ | with_reducible refine w_and ?_ | with_reducible refine w_or ?_ | with_reducible refine w_not ?_ | with_reducible refine w_iRng ?_ | with_reducible refine w_iRngD ?_ | with_reducible refine w_iZip ?_ | with_reducible refine w_fr ?_ | with_reducible refine w_tupL ?_ | with_reducible refine w_im ?_ | with_reducible refine w_ow ?_ | with_reducible refine w_set ?_ | with_reducible refine w_par ?_ | with_reducible refine w_expr ?_ | with_reducible refine w_ret ?_ | with_reducible refine w_retN ?_ | with_reducible refine w_pass ?_ | with_reducible refine w_break ?_ | with_reducible refine w_cont ?_ | with_reducible refine w_seq ?_ | with_reducible refine w_sif ?_ | with_reducible refine x_add ?_ | with_reducible refine x_addI ?_ | with_reducible refine x_sub ?_ | with_reducible refine x_neg ?_ | with_reducible refine x_lt ?_ | with_reducible refine x_le ?_ | with_reducible refine x_gt ?_ | with_reducible refine x_ge ?_ | with_reducible refine x_eqS ?_ | with_reducible refine x_eq ?_ | with_reducible refine x_ne ?_ | with_reducible refine x_isN ?_ | with_reducible refine x_notN ?_ | with_reducible refine x_isB ?_ | with_reducible refine x_notB ?_ | with_reducible refine x_lenL ?_ | with_reducible refine x_lenT ?_ | with_reducible refine x_max2 ?_ | with_reducible refine x_min2 ?_ | with_reducible refine x_abs ?_ | with_reducible refine x_tupleL ?_ | with_reducible refine x_tupleT ?_ | with_reducible refine x_partL ?_ | with_reducible refine x_partT ?_ | with_reducible refine x_listL ?_ | with_reducible refine x_listT ?_ | with_reducible refine x_iii ?_ | with_reducible refine x_ibi ?_ | with_reducible refine x_iss ?_ | with_reducible refine x_itt ?_ | with_reducible refine x_ill ?_ | with_reducible refine c_true ?_ | with_reducible refine c_false ?_ | with_reducible refine c_nt ?_ | with_reducible refine c_nf ?_ | with_reducible refine c_not ?_ | ((with_reducible apply w_FI); · rfl) | ((with_reducible apply w_oIx); · rfl) | ((with_reducible apply w_oLen); · rfl) | ((with_reducible apply w_oBin); · rfl) | ((with_reducible apply w_consO); · rfl) | ((with_reducible apply w_aug); · rfl) | ((with_reducible apply w_app); · rfl) | ((with_reducible apply w_oset); · rfl) | ((with_reducible apply w_ext); · rfl) | ((with_reducible apply w_retO); · rfl) | ((with_reducible apply w_frz); · rfl) | ((with_reducible apply e_ow); · rfl) | with_reducible refine e_bl ?_ | with_reducible refine e_int ?_ | with_reducible refine e_lst ?_ | with_reducible refine e_tup ?_ | with_reducible refine e_seqL ?_ | with_reducible refine e_seqT ?_ | with_reducible refine e_zipL ?_ | with_reducible refine e_zipT ?_ | with_reducible refine w_partI ?_ | with_reducible refine w_iSeq ?_ | with_reducible refine w_iEnum ?_ | with_reducible refine w_new ?_ | with_reducible refine w_rev ?_ | with_reducible refine w_revT ?_ | with_reducible refine w_slice ?_ | with_reducible refine y_le ?_ | with_reducible refine y_lt ?_ | with_reducible refine y_ge ?_ | with_reducible refine y_gt ?_ | ((with_reducible apply x_ixT); · rfl) | ((with_reducible apply x_ixL); · rfl) | ((with_reducible apply e_at); · rfl) | ((with_reducible apply x_mul); · rfl) | ((with_reducible apply e_ix); · rfl) | ((with_reducible apply x_div); · decide) | ((with_reducible apply x_mod); · decide) | with_reducible refine w_lst ?_ | with_reducible refine w_tup ?_ | ((with_reducible apply e_cap); · exact Nat.le_of_ble_eq_true rfl) | ((with_reducible apply e_set); · (simp only [List.set_cons_zero, List.set_cons_succ]; rfl)) | ((with_reducible apply e_setL); (· rfl); (· (simp only [List.set_cons_zero, List.set_cons_succ]; rfl))) | ((with_reducible apply e_par); (· rfl); (· (simp only [List.set_cons_zero, List.set_cons_succ]; rfl))) | ((with_reducible apply e_par3); (· rfl); (· (simp only [List.set_cons_zero, List.set_cons_succ]; rfl))) | ((with_reducible apply e_pt); (· rfl); (· (simp only [List.set_cons_zero, List.set_cons_succ]; rfl))) | ((with_reducible apply e_pT); · (simp only [pTs, pN, List.length_cons, List.length_nil, List.set_cons_zero, List.set_cons_succ, Nat.reduceAdd, Nat.reduceLT, ite_true, Option.some.injEq]; rfl))))
    have hc : Cok (1 + k) := ⟨by omega, by omega⟩
    refine w_schedule hs3 (by omega) hc (by decide) (by decide) fun cs s4 hcs1 hcs2 hs4 => ?_
    have hS : Sok (1 + k) cs := ⟨by omega, hcs2⟩
    (repeat' (first | ((with_reducible refine c_decT ?_ ?_); · first | decide | rfl) | ((with_reducible refine c_decF ?_ ?_); · decide) | with_reducible refine w_seq ?_ | ((with_reducible apply w_var); · rfl) | with_reducible refine w_setN ?_ | with_reducible refine w_snew ?_ | with_reducible refine w_C ?_ | with_reducible refine w_bin ?_ | with_reducible refine w_un ?_ | with_reducible refine w_isi ?_ | with_reducible refine w_isi2 ?_ | with_reducible refine w_chain ?_ | with_reducible refine w_if ?_ | with_reducible refine w_nil ?_ | with_reducible refine w_cons ?_ | with_reducible refine w_F ?_ | with_reducible refine w_Fb ?_ | with_reducible refine w_FN ?_ | with_reducible refine w_noPart ?_ | with_reducible refine w_slice ?_ | with_reducible refine w_val ?_ | with_reducible refine w_tAnd ?_ | with_reducible refine w_tOr ?_ | with_reducible refine w_tNot ?_ | with_reducible refine w_tYes ?_ | with_reducible refine w_and ?_ | with_reducible refine w_or ?_ | with_reducible refine w_not ?_ | with_reducible refine w_iRng ?_ | with_reducible refine w_iRngD ?_ | with_reducible refine w_iZip ?_ | with_reducible refine w_fr ?_ | with_reducible refine w_tupL ?_ | with_reducible refine w_im ?_ | with_reducible refine w_ow ?_ | with_reducible refine w_set ?_ | with_reducible refine w_par ?_ | with_reducible refine w_expr ?_ | with_reducible refine w_ret ?_ | with_reducible refine w_retN ?_ | with_reducible refine w_pass ?_ | with_reducible refine w_break ?_ | with_reducible refine w_cont ?_ | with_reducible refine w_seq ?_ | with_reducible refine w_sif ?_ | with_reducible refine x_add ?_ | with_reducible refine x_addI ?_ | with_reducible refine x_sub ?_ | with_reducible refine x_neg ?_ | with_reducible refine x_lt ?_ | with_reducible refine x_le ?_ | with_reducible refine x_gt ?_ | with_reducible refine x_ge ?_ | with_reducible refine x_eqS ?_ | with_reducible refine x_eq ?_ | with_reducible refine x_ne ?_ | with_reducible refine x_isN ?_ | with_reducible refine x_notN ?_ | with_reducible refine x_isB ?_ | with_reducible refine x_notB ?_ | with_reducible refine x_lenL ?_ | with_reducible refine x_lenT ?_ | with_reducible refine x_max2 ?_ | with_reducible refine x_min2 ?_ | with_reducible refine x_abs ?_ | with_reducible refine x_tupleL ?_ | with_reducible refine x_tupleT ?_ | with_reducible refine x_partL ?_ | with_reducible refine x_partT ?_ | with_reducible refine x_listL ?_ | with_reducible refine x_listT ?_ | with_reducible refine x_iii ?_ | with_reducible refine x_ibi ?_ | with_reducible refine x_iss ?_ | with_reducible refine x_itt ?_ | with_reducible refine x_ill ?_ | with_reducible refine c_true ?_ | with_reducible refine c_false ?_ | with_reducible refine c_nt ?_ | with_reducible refine c_nf ?_ | with_reducible refine c_not ?_ | ((with_reducible apply w_FI); · rfl) | ((with_reducible apply w_oIx); · rfl) | ((with_reducible apply w_oLen); · rfl) | ((with_reducible apply w_oBin); · rfl) | ((with_reducible apply w_consO); · rfl) | ((with_reducible apply w_aug); · rfl) | ((with_reducible apply w_app); · rfl) | ((with_reducible apply w_oset); · rfl) | ((with_reducible apply w_ext); · rfl) | ((with_reducible apply w_retO); · rfl) | ((with_reducible apply w_frz); · rfl) | ((with_reducible apply e_ow); · rfl) | with_reducible refine e_bl ?_ | with_reducible refine e_int ?_ | with_reducible refine e_lst ?_ | with_reducible refine e_tup ?_ | with_reducible refine e_seqL ?_ | with_reducible refine e_seqT ?_ | with_reducible refine e_zipL ?_ | with_reducible refine e_zipT ?_ | with_reducible refine w_partI ?_ | with_reducible refine w_iSeq ?_ | with_reducible refine w_iEnum ?_ | with_reducible refine w_new ?_ | with_reducible refine w_rev ?_ | with_reducible refine w_revT ?_ | with_reducible refine w_slice ?_ | with_reducible refine y_le ?_ | with_reducible refine y_lt ?_ | with_reducible refine y_ge ?_ | with_reducible refine y_gt ?_ | ((with_reducible apply x_ixT); · rfl) | ((with_reducible apply x_ixL); · rfl) | ((with_reducible apply e_at); · rfl) | ((with_reducible apply x_mul); · rfl) | ((with_reducible apply e_ix); · rfl) | ((with_reducible apply x_div); · decide) | ((with_reducible apply x_mod); · decide) | with_reducible refine w_lst ?_ | with_reducible refine w_tup ?_ | ((with_reducible apply e_cap); · exact Nat.le_of_ble_eq_true rfl) | ((with_reducible apply e_set); · (simp only [List.set_cons_zero, List.set_cons_succ]; rfl)) | ((with_reducible apply e_setL); (· rfl); (· (simp only [List.set_cons_zero, List.set_cons_succ]; rfl))) | ((with_reducible apply e_par); (· rfl); (· (simp only [List.set_cons_zero, List.set_cons_succ]; rfl))) | ((with_reducible apply e_par3); (· rfl); (· (simp only [List.set_cons_zero, List.set_cons_succ]; rfl))) | ((with_reducible apply e_pt); (· rfl); (· (simp only [List.set_cons_zero, List.set_cons_succ]; rfl))) | ((with_reducible apply e_pT); · (simp only [pTs, pN, List.length_cons, List.length_nil, List.set_cons_zero, List.set_cons_succ, Nat.reduceAdd, Nat.reduceLT, ite_true, Option.some.injEq]; rfl))))
    refine w_forI (fun ds e => ∃ (p ms : List Int) (x6 x7 x8 x9 x10 x11 x12 : Sl), ds = iL ms ∧ p ++ ms = upto (1 + k + 1).toNat ∧ e = [.im (.lst (iL ns)), .im (.int i), .ow s4, .im (.int (1 + k)), .im (schD cs), .ow (p.map (rowT cs)), x6, x7, x8, x9, x10, x11, x12]) ?_ ?_ ?_
    · (repeat' (first | ((with_reducible refine c_decT ?_ ?_); · first | decide | rfl) | ((with_reducible refine c_decF ?_ ?_); · decide) | with_reducible refine w_seq ?_ | ((with_reducible apply w_var); · rfl) | with_reducible refine w_setN ?_ | with_reducible refine w_snew ?_ | with_reducible refine w_C ?_ | with_reducible refine w_bin ?_ | with_reducible refine w_un ?_ | with_reducible refine w_isi ?_ | with_reducible refine w_isi2 ?_ | with_reducible refine w_chain ?_ | with_reducible refine w_if ?_ | with_reducible refine w_nil ?_ | with_reducible refine w_cons ?_ | with_reducible refine w_F ?_ | with_reducible refine w_Fb ?_ | with_reducible refine w_FN ?_ | with_reducible refine w_noPart ?_ | with_reducible refine w_slice ?_ | with_reducible refine w_val ?_ | with_reducible refine w_tAnd ?_ | with_reducible refine w_tOr ?_ | with_reducible refine w_tNot ?_ | with_reducible refine w_tYes ?_ | with_reducible refine w_and ?_ | with_reducible refine w_or ?_ | with_reducible refine w_not ?_ | with_reducible refine w_iRng ?_ | with_reducible refine w_iRngD ?_ | with_reducible refine w_iZip ?_ | with_reducible refine w_fr ?_ | with_reducible refine w_tupL ?_ | with_reducible refine w_im ?_ | with_reducible refine w_ow ?_ | with_reducible refine w_set ?_ | with_reducible refine w_par ?_ | with_reducible refine w_expr ?_ | with_reducible refine w_ret ?_ | with_reducible refine w_retN ?_ | with_reducible refine w_pass ?_ | with_reducible refine w_break ?_ | with_reducible refine w_cont ?_ | with_reducible refine w_seq ?_ | with_reducible refine w_sif ?_ | with_reducible refine x_add ?_ | with_reducible refine x_addI ?_ | with_reducible refine x_sub ?_ | with_reducible refine x_neg ?_ | with_reducible refine x_lt ?_ | with_reducible refine x_le ?_ | with_reducible refine x_gt ?_ | with_reducible refine x_ge ?_ | with_reducible refine x_eqS ?_ | with_reducible refine x_eq ?_ | with_reducible refine x_ne ?_ | with_reducible refine x_isN ?_ | with_reducible refine x_notN ?_ | with_reducible refine x_isB ?_ | with_reducible refine x_notB ?_ | with_reducible refine x_lenL ?_ | with_reducible refine x_lenT ?_ | with_reducible refine x_max2 ?_ | with_reducible refine x_min2 ?_ | with_reducible refine x_abs ?_ | with_reducible refine x_tupleL ?_ | with_reducible refine x_tupleT ?_ | with_reducible refine x_partL ?_ | with_reducible refine x_partT ?_ | with_reducible refine x_listL ?_ | with_reducible refine x_listT ?_ | with_reducible refine x_iii ?_ | with_reducible refine x_ibi ?_ | with_reducible refine x_iss ?_ | with_reducible refine x_itt ?_ | with_reducible refine x_ill ?_ | with_reducible refine c_true ?_ | with_reducible refine c_false ?_ | with_reducible refine c_nt ?_ | with_reducible refine c_nf ?_ | with_reducible refine c_not ?_ | ((with_reducible apply w_FI); · rfl) | ((with_reducible apply w_oIx); · rfl) | ((with_reducible apply w_oLen); · rfl) | ((with_reducible apply w_oBin); · rfl) | ((with_reducible apply w_consO); · rfl) | ((with_reducible apply w_aug); · rfl) | ((with_reducible apply w_app); · rfl) | ((with_reducible apply w_oset); · rfl) | ((with_reducible apply w_ext); · rfl) | ((with_reducible apply w_retO); · rfl) | ((with_reducible apply w_frz); · rfl) | ((with_reducible apply e_ow); · rfl) | with_reducible refine e_bl ?_ | with_reducible refine e_int ?_ | with_reducible refine e_lst ?_ | with_reducible refine e_tup ?_ | with_reducible refine e_seqL ?_ | with_reducible refine e_seqT ?_ | with_reducible refine e_zipL ?_ | with_reducible refine e_zipT ?_ | with_reducible refine w_partI ?_ | with_reducible refine w_iSeq ?_ | with_reducible refine w_iEnum ?_ | with_reducible refine w_new ?_ | with_reducible refine w_rev ?_ | with_reducible refine w_revT ?_ | with_reducible refine w_slice ?_ | with_reducible refine y_le ?_ | with_reducible refine y_lt ?_ | with_reducible refine y_ge ?_ | with_reducible refine y_gt ?_ | ((with_reducible apply x_ixT); · rfl) | ((with_reducible apply x_ixL); · rfl) | ((with_reducible apply e_at); · rfl) | ((with_reducible apply x_mul); · rfl) | ((with_reducible apply e_ix); · rfl) | ((with_reducible apply x_div); · decide) | ((with_reducible apply x_mod); · decide) | with_reducible refine w_lst ?_ | with_reducible refine w_tup ?_ | ((with_reducible apply e_cap); · exact Nat.le_of_ble_eq_true rfl) | ((with_reducible apply e_set); · (simp only [List.set_cons_zero, List.set_cons_succ]; rfl)) | ((with_reducible apply e_setL); (· rfl); (· (simp only [List.set_cons_zero, List.set_cons_succ]; rfl))) | ((with_reducible apply e_par); (· rfl); (· (simp only [List.set_cons_zero, List.set_cons_succ]; rfl))) | ((with_reducible apply e_par3); (· rfl); (· (simp only [List.set_cons_zero, List.set_cons_succ]; rfl))) | ((with_reducible apply e_pt); (· rfl); (· (simp only [List.set_cons_zero, List.set_cons_succ]; rfl))) | ((with_reducible apply e_pT); · (simp only [pTs, pN, List.length_cons, List.length_nil, List.set_cons_zero, List.set_cons_succ, Nat.reduceAdd, Nat.reduceLT, ite_true, Option.some.injEq]; rfl))))
      refine e_rng (by decide) (inR_of (by omega) (by omega)) ?_
      rw [rng_zero]
      exact ⟨[], _, _, _, _, _, _, _, _, rfl, rfl, rfl⟩
    · rintro d ds e ⟨p, ms, x6, x7, x8, x9, x10, x11, x12, h0, hp, rfl⟩
      obtain ⟨l, r2, rfl, rfl, rfl⟩ := iL_cons_inv h0
      have hm : l ∈ upto (1 + k + 1).toNat := by rw [← hp]; simp
      have hL : Lok (1 + k) l := ⟨(mem_upto hm).1, by have := (mem_upto hm).2; omega⟩
      have hpl : p.length + (l :: r2).length = (1 + k + 1).toNat := by rw [← List.length_append, hp, len_upto]
      (repeat' (first | ((with_reducible refine c_decT ?_ ?_); · first | decide | rfl) | ((with_reducible refine c_decF ?_ ?_); · decide) | with_reducible refine w_seq ?_ | ((with_reducible apply w_var); · rfl) | with_reducible refine w_setN ?_ | with_reducible refine w_snew ?_ | with_reducible refine w_C ?_ | with_reducible refine w_bin ?_ | with_reducible refine w_un ?_ | with_reducible refine w_isi ?_ | with_reducible refine w_isi2 ?_ | with_reducible refine w_chain ?_ | with_reducible refine w_if ?_ | with_reducible refine w_nil ?_ | with_reducible refine w_cons ?_ | with_reducible refine w_F ?_ | with_reducible refine w_Fb ?_ | with_reducible refine w_FN ?_ | with_reducible refine w_noPart ?_ | with_reducible refine w_slice ?_ | with_reducible refine w_val ?_ | with_reducible refine w_tAnd ?_ | with_reducible refine w_tOr ?_ | with_reducible refine w_tNot ?_ | with_reducible refine w_tYes ?_ | with_reducible refine w_and ?_ | with_reducible refine w_or ?_ | with_reducible refine w_not ?_ | with_reducible refine w_iRng ?_ | with_reducible refine w_iRngD ?_ | with_reducible refine w_iZip ?_ | with_reducible refine w_fr ?_ | with_reducible refine w_tupL ?_ | with_reducible refine w_im ?_ | with_reducible refine w_ow ?_ | with_reducible refine w_set ?_ | with_reducible refine w_par ?_ | with_reducible refine w_expr ?_ | with_reducible refine w_ret ?_ | with_reducible refine w_retN ?_ | with_reducible refine w_pass ?_ | with_reducible refine w_break ?_ | with_reducible refine w_cont ?_ | with_reducible refine w_seq ?_ | with_reducible refine w_sif ?_ | with_reducible refine x_add ?_ | with_reducible refine x_addI ?_ | with_reducible refine x_sub ?_ | with_reducible refine x_neg ?_ | with_reducible refine x_lt ?_ | with_reducible refine x_le ?_ | with_reducible refine x_gt ?_ | with_reducible refine x_ge ?_ | with_reducible refine x_eqS ?_ | with_reducible refine x_eq ?_ | with_reducible refine x_ne ?_ | with_reducible refine x_isN ?_ | with_reducible refine x_notN ?_ | with_reducible refine x_isB ?_ | with_reducible refine x_notB ?_ | with_reducible refine x_lenL ?_ | with_reducible refine x_lenT ?_ | with_reducible refine x_max2 ?_ | with_reducible refine x_min2 ?_ | with_reducible refine x_abs ?_ | with_reducible refine x_tupleL ?_ | with_reducible refine x_tupleT ?_ | with_reducible refine x_partL ?_ | with_reducible refine x_partT ?_ | with_reducible refine x_listL ?_ | with_reducible refine x_listT ?_ | with_reducible refine x_iii ?_ | with_reducible refine x_ibi ?_ | with_reducible refine x_iss ?_ | with_reducible refine x_itt ?_ | with_reducible refine x_ill ?_ | with_reducible refine c_true ?_ | with_reducible refine c_false ?_ | with_reducible refine c_nt ?_ | with_reducible refine c_nf ?_ | with_reducible refine c_not ?_ | ((with_reducible apply w_FI); · rfl) | ((with_reducible apply w_oIx); · rfl) | ((with_reducible apply w_oLen); · rfl) | ((with_reducible apply w_oBin); · rfl) | ((with_reducible apply w_consO); · rfl) | ((with_reducible apply w_aug); · rfl) | ((with_reducible apply w_app); · rfl) | ((with_reducible apply w_oset); · rfl) | ((with_reducible apply w_ext); · rfl) | ((with_reducible apply w_retO); · rfl) | ((with_reducible apply w_frz); · rfl) | ((with_reducible apply e_ow); · rfl) | with_reducible refine e_bl ?_ | with_reducible refine e_int ?_ | with_reducible refine e_lst ?_ | with_reducible refine e_tup ?_ | with_reducible refine e_seqL ?_ | with_reducible refine e_seqT ?_ | with_reducible refine e_zipL ?_ | with_reducible refine e_zipT ?_ | with_reducible refine w_partI ?_ | with_reducible refine w_iSeq ?_ | with_reducible refine w_iEnum ?_ | with_reducible refine w_new ?_ | with_reducible refine w_rev ?_ | with_reducible refine w_revT ?_ | with_reducible refine w_slice ?_ | with_reducible refine y_le ?_ | with_reducible refine y_lt ?_ | with_reducible refine y_ge ?_ | with_reducible refine y_gt ?_ | ((with_reducible apply x_ixT); · rfl) | ((with_reducible apply x_ixL); · rfl) | ((with_reducible apply e_at); · rfl) | ((with_reducible apply x_mul); · rfl) | ((with_reducible apply e_ix); · rfl) | ((with_reducible apply x_div); · decide) | ((with_reducible apply x_mod); · decide) | with_reducible refine w_lst ?_ | with_reducible refine w_tup ?_ | ((with_reducible apply e_cap); · exact Nat.le_of_ble_eq_true rfl) | ((with_reducible apply e_set); · (simp only [List.set_cons_zero, List.set_cons_succ]; rfl)) | ((with_reducible apply e_setL); (· rfl); (· (simp only [List.set_cons_zero, List.set_cons_succ]; rfl))) | ((with_reducible apply e_par); (· rfl); (· (simp only [List.set_cons_zero, List.set_cons_succ]; rfl))) | ((with_reducible apply e_par3); (· rfl); (· (simp only [List.set_cons_zero, List.set_cons_succ]; rfl))) | ((with_reducible apply e_pt); (· rfl); (· (simp only [List.set_cons_zero, List.set_cons_succ]; rfl))) | ((with_reducible apply e_pT); · (simp only [pTs, pN, List.length_cons, List.length_nil, List.set_cons_zero, List.set_cons_succ, Nat.reduceAdd, Nat.reduceLT, ite_true, Option.some.injEq]; rfl))))
      refine ⟨_, law_levels_eq cs l (by omega) hcs2, ?_⟩
      (repeat' (first | ((with_reducible refine c_decT ?_ ?_); · first | decide | rfl) | ((with_reducible refine c_decF ?_ ?_); · decide) | with_reducible refine w_seq ?_ | ((with_reducible apply w_var); · rfl) | with_reducible refine w_setN ?_ | with_reducible refine w_snew ?_ | with_reducible refine w_C ?_ | with_reducible refine w_bin ?_ | with_reducible refine w_un ?_ | with_reducible refine w_isi ?_ | with_reducible refine w_isi2 ?_ | with_reducible refine w_chain ?_ | with_reducible refine w_if ?_ | with_reducible refine w_nil ?_ | with_reducible refine w_cons ?_ | with_reducible refine w_F ?_ | with_reducible refine w_Fb ?_ | with_reducible refine w_FN ?_ | with_reducible refine w_noPart ?_ | with_reducible refine w_slice ?_ | with_reducible refine w_val ?_ | with_reducible refine w_tAnd ?_ | with_reducible refine w_tOr ?_ | with_reducible refine w_tNot ?_ | with_reducible refine w_tYes ?_ | with_reducible refine w_and ?_ | with_reducible refine w_or ?_ | with_reducible refine w_not ?_ | with_reducible refine w_iRng ?_ | with_reducible refine w_iRngD ?_ | with_reducible refine w_iZip ?_ | with_reducible refine w_fr ?_ | with_reducible refine w_tupL ?_ | with_reducible refine w_im ?_ | with_reducible refine w_ow ?_ | with_reducible refine w_set ?_ | with_reducible refine w_par ?_ | with_reducible refine w_expr ?_ | with_reducible refine w_ret ?_ | with_reducible refine w_retN ?_ | with_reducible refine w_pass ?_ | with_reducible refine w_break ?_ | with_reducible refine w_cont ?_ | with_reducible refine w_seq ?_ | with_reducible refine w_sif ?_ | with_reducible refine x_add ?_ | with_reducible refine x_addI ?_ | with_reducible refine x_sub ?_ | with_reducible refine x_neg ?_ | with_reducible refine x_lt ?_ | with_reducible refine x_le ?_ | with_reducible refine x_gt ?_ | with_reducible refine x_ge ?_ | with_reducible refine x_eqS ?_ | with_reducible refine x_eq ?_ | with_reducible refine x_ne ?_ | with_reducible refine x_isN ?_ | with_reducible refine x_notN ?_ | with_reducible refine x_isB ?_ | with_reducible refine x_notB ?_ | with_reducible refine x_lenL ?_ | with_reducible refine x_lenT ?_ | with_reducible refine x_max2 ?_ | with_reducible refine x_min2 ?_ | with_reducible refine x_abs ?_ | with_reducible refine x_tupleL ?_ | with_reducible refine x_tupleT ?_ | with_reducible refine x_partL ?_ | with_reducible refine x_partT ?_ | with_reducible refine x_listL ?_ | with_reducible refine x_listT ?_ | with_reducible refine x_iii ?_ | with_reducible refine x_ibi ?_ | with_reducible refine x_iss ?_ | with_reducible refine x_itt ?_ | with_reducible refine x_ill ?_ | with_reducible refine c_true ?_ | with_reducible refine c_false ?_ | with_reducible refine c_nt ?_ | with_reducible refine c_nf ?_ | with_reducible refine c_not ?_ | ((with_reducible apply w_FI); · rfl) | ((with_reducible apply w_oIx); · rfl) | ((with_reducible apply w_oLen); · rfl) | ((with_reducible apply w_oBin); · rfl) | ((with_reducible apply w_consO); · rfl) | ((with_reducible apply w_aug); · rfl) | ((with_reducible apply w_app); · rfl) | ((with_reducible apply w_oset); · rfl) | ((with_reducible apply w_ext); · rfl) | ((with_reducible apply w_retO); · rfl) | ((with_reducible apply w_frz); · rfl) | ((with_reducible apply e_ow); · rfl) | with_reducible refine e_bl ?_ | with_reducible refine e_int ?_ | with_reducible refine e_lst ?_ | with_reducible refine e_tup ?_ | with_reducible refine e_seqL ?_ | with_reducible refine e_seqT ?_ | with_reducible refine e_zipL ?_ | with_reducible refine e_zipT ?_ | with_reducible refine w_partI ?_ | with_reducible refine w_iSeq ?_ | with_reducible refine w_iEnum ?_ | with_reducible refine w_new ?_ | with_reducible refine w_rev ?_ | with_reducible refine w_revT ?_ | with_reducible refine w_slice ?_ | with_reducible refine y_le ?_ | with_reducible refine y_lt ?_ | with_reducible refine y_ge ?_ | with_reducible refine y_gt ?_ | ((with_reducible apply x_ixT); · rfl) | ((with_reducible apply x_ixL); · rfl) | ((with_reducible apply e_at); · rfl) | ((with_reducible apply x_mul); · rfl) | ((with_reducible apply e_ix); · rfl) | ((with_reducible apply x_div); · decide) | ((with_reducible apply x_mod); · decide) | with_reducible refine w_lst ?_ | with_reducible refine w_tup ?_ | ((with_reducible apply e_cap); · exact Nat.le_of_ble_eq_true rfl) | ((with_reducible apply e_set); · (simp only [List.set_cons_zero, List.set_cons_succ]; rfl)) | ((with_reducible apply e_setL); (· rfl); (· (simp only [List.set_cons_zero, List.set_cons_succ]; rfl))) | ((with_reducible apply e_par); (· rfl); (· (simp only [List.set_cons_zero, List.set_cons_succ]; rfl))) | ((with_reducible apply e_par3); (· rfl); (· (simp only [List.set_cons_zero, List.set_cons_succ]; rfl))) | ((with_reducible apply e_pt); (· rfl); (· (simp only [List.set_cons_zero, List.set_cons_succ]; rfl))) | ((with_reducible apply e_pT); · (simp only [pTs, pN, List.length_cons, List.length_nil, List.set_cons_zero, List.set_cons_succ, Nat.reduceAdd, Nat.reduceLT, ite_true, Option.some.injEq]; rfl))))
      refine w_compQ (fun _ => true) (fun d => match d with | .tup [.int a, .int b] => .int (max 0 (b - a)) | _ => .non) ?_
      (repeat' (first | ((with_reducible refine c_decT ?_ ?_); · first | decide | rfl) | ((with_reducible refine c_decF ?_ ?_); · decide) | with_reducible refine w_seq ?_ | ((with_reducible apply w_var); · rfl) | with_reducible refine w_setN ?_ | with_reducible refine w_snew ?_ | with_reducible refine w_C ?_ | with_reducible refine w_bin ?_ | with_reducible refine w_un ?_ | with_reducible refine w_isi ?_ | with_reducible refine w_isi2 ?_ | with_reducible refine w_chain ?_ | with_reducible refine w_if ?_ | with_reducible refine w_nil ?_ | with_reducible refine w_cons ?_ | with_reducible refine w_F ?_ | with_reducible refine w_Fb ?_ | with_reducible refine w_FN ?_ | with_reducible refine w_noPart ?_ | with_reducible refine w_slice ?_ | with_reducible refine w_val ?_ | with_reducible refine w_tAnd ?_ | with_reducible refine w_tOr ?_ | with_reducible refine w_tNot ?_ | with_reducible refine w_tYes ?_ | with_reducible refine w_and ?_ | with_reducible refine w_or ?_ | with_reducible refine w_not ?_ | with_reducible refine w_iRng ?_ | with_reducible refine w_iRngD ?_ | with_reducible refine w_iZip ?_ | with_reducible refine w_fr ?_ | with_reducible refine w_tupL ?_ | with_reducible refine w_im ?_ | with_reducible refine w_ow ?_ | with_reducible refine w_set ?_ | with_reducible refine w_par ?_ | with_reducible refine w_expr ?_ | with_reducible refine w_ret ?_ | with_reducible refine w_retN ?_ | with_reducible refine w_pass ?_ | with_reducible refine w_break ?_ | with_reducible refine w_cont ?_ | with_reducible refine w_seq ?_ | with_reducible refine w_sif ?_ | with_reducible refine x_add ?_ | with_reducible refine x_addI ?_ | with_reducible refine x_sub ?_ | with_reducible refine x_neg ?_ | with_reducible refine x_lt ?_ | with_reducible refine x_le ?_ | with_reducible refine x_gt ?_ | with_reducible refine x_ge ?_ | with_reducible refine x_eqS ?_ | with_reducible refine x_eq ?_ | with_reducible refine x_ne ?_ | with_reducible refine x_isN ?_ | with_reducible refine x_notN ?_ | with_reducible refine x_isB ?_ | with_reducible refine x_notB ?_ | with_reducible refine x_lenL ?_ | with_reducible refine x_lenT ?_ | with_reducible refine x_max2 ?_ | with_reducible refine x_min2 ?_ | with_reducible refine x_abs ?_ | with_reducible refine x_tupleL ?_ | with_reducible refine x_tupleT ?_ | with_reducible refine x_partL ?_ | with_reducible refine x_partT ?_ | with_reducible refine x_listL ?_ | with_reducible refine x_listT ?_ | with_reducible refine x_iii ?_ | with_reducible refine x_ibi ?_ | with_reducible refine x_iss ?_ | with_reducible refine x_itt ?_ | with_reducible refine x_ill ?_ | with_reducible refine c_true ?_ | with_reducible refine c_false ?_ | with_reducible refine c_nt ?_ | with_reducible refine c_nf ?_ | with_reducible refine c_not ?_ | ((with_reducible apply w_FI); · rfl) | ((with_reducible apply w_oIx); · rfl) | ((with_reducible apply w_oLen); · rfl) | ((with_reducible apply w_oBin); · rfl) | ((with_reducible apply w_consO); · rfl) | ((with_reducible apply w_aug); · rfl) | ((with_reducible apply w_app); · rfl) | ((with_reducible apply w_oset); · rfl) | ((with_reducible apply w_ext); · rfl) | ((with_reducible apply w_retO); · rfl) | ((with_reducible apply w_frz); · rfl) | ((with_reducible apply e_ow); · rfl) | with_reducible refine e_bl ?_ | with_reducible refine e_int ?_ | with_reducible refine e_lst ?_ | with_reducible refine e_tup ?_ | with_reducible refine e_seqL ?_ | with_reducible refine e_seqT ?_ | with_reducible refine e_zipL ?_ | with_reducible refine e_zipT ?_ | with_reducible refine w_partI ?_ | with_reducible refine w_iSeq ?_ | with_reducible refine w_iEnum ?_ | with_reducible refine w_new ?_ | with_reducible refine w_rev ?_ | with_reducible refine w_revT ?_ | with_reducible refine w_slice ?_ | with_reducible refine y_le ?_ | with_reducible refine y_lt ?_ | with_reducible refine y_ge ?_ | with_reducible refine y_gt ?_ | ((with_reducible apply x_ixT); · rfl) | ((with_reducible apply x_ixL); · rfl) | ((with_reducible apply e_at); · rfl) | ((with_reducible apply x_mul); · rfl) | ((with_reducible apply e_ix); · rfl) | ((with_reducible apply x_div); · decide) | ((with_reducible apply x_mod); · decide) | with_reducible refine w_lst ?_ | with_reducible refine w_tup ?_ | ((with_reducible apply e_cap); · exact Nat.le_of_ble_eq_true rfl) | ((with_reducible apply e_set); · (simp only [List.set_cons_zero, List.set_cons_succ]; rfl)) | ((with_reducible apply e_setL); (· rfl); (· (simp only [List.set_cons_zero, List.set_cons_succ]; rfl))) | ((with_reducible apply e_par); (· rfl); (· (simp only [List.set_cons_zero, List.set_cons_succ]; rfl))) | ((with_reducible apply e_par3); (· rfl); (· (simp only [List.set_cons_zero, List.set_cons_succ]; rfl))) | ((with_reducible apply e_pt); (· rfl); (· (simp only [List.set_cons_zero, List.set_cons_succ]; rfl))) | ((with_reducible apply e_pT); · (simp only [pTs, pN, List.length_cons, List.length_nil, List.set_cons_zero, List.set_cons_succ, Nat.reduceAdd, Nat.reduceLT, ite_true, Option.some.injEq]; rfl))))
      rw [cut_one, zip_lvs]
      refine ⟨_, by rw [List.length_map, len_prs]; exact cap_lt (by omega), (by simp only [backE, wipeE, List.set_cons_zero, List.set_cons_succ, List.getElem?_cons_zero, List.getElem?_cons_succ]; rfl), rfl, ?_, ?_⟩
      · intro d hd
        simp only [List.mem_map] at hd
        obtain ⟨p, hp, rfl⟩ := hd
        refine ⟨_, rfl, rfl, rfl, ?_⟩
        (repeat' (first | ((with_reducible refine c_decT ?_ ?_); · first | decide | rfl) | ((with_reducible refine c_decF ?_ ?_); · decide) | with_reducible refine w_seq ?_ | ((with_reducible apply w_var); · rfl) | with_reducible refine w_setN ?_ | with_reducible refine w_snew ?_ | with_reducible refine w_C ?_ | with_reducible refine w_bin ?_ | with_reducible refine w_un ?_ | with_reducible refine w_isi ?_ | with_reducible refine w_isi2 ?_ | with_reducible refine w_chain ?_ | with_reducible refine w_if ?_ | with_reducible refine w_nil ?_ | with_reducible refine w_cons ?_ | with_reducible refine w_F ?_ | with_reducible refine w_Fb ?_ | with_reducible refine w_FN ?_ | with_reducible refine w_noPart ?_ | with_reducible refine w_slice ?_ | with_reducible refine w_val ?_ | with_reducible refine w_tAnd ?_ | with_reducible refine w_tOr ?_ | with_reducible refine w_tNot ?_ | with_reducible refine w_tYes ?_ | with_reducible refine w_and ?_ | with_reducible refine w_or ?_ | with_reducible refine w_not ?_ | with_reducible refine w_iRng ?_ | with_reducible refine w_iRngD ?_ | with_reducible refine w_iZip ?_ | with_reducible refine w_fr ?_ | with_reducible refine w_tupL ?_ | with_reducible refine w_im ?_ | with_reducible refine w_ow ?_ | with_reducible refine w_set ?_ | with_reducible refine w_par ?_ | with_reducible refine w_expr ?_ | with_reducible refine w_ret ?_ | with_reducible refine w_retN ?_ | with_reducible refine w_pass ?_ | with_reducible refine w_break ?_ | with_reducible refine w_cont ?_ | with_reducible refine w_seq ?_ | with_reducible refine w_sif ?_ | with_reducible refine x_add ?_ | with_reducible refine x_addI ?_ | with_reducible refine x_sub ?_ | with_reducible refine x_neg ?_ | with_reducible refine x_lt ?_ | with_reducible refine x_le ?_ | with_reducible refine x_gt ?_ | with_reducible refine x_ge ?_ | with_reducible refine x_eqS ?_ | with_reducible refine x_eq ?_ | with_reducible refine x_ne ?_ | with_reducible refine x_isN ?_ | with_reducible refine x_notN ?_ | with_reducible refine x_isB ?_ | with_reducible refine x_notB ?_ | with_reducible refine x_lenL ?_ | with_reducible refine x_lenT ?_ | with_reducible refine x_max2 ?_ | with_reducible refine x_min2 ?_ | with_reducible refine x_abs ?_ | with_reducible refine x_tupleL ?_ | with_reducible refine x_tupleT ?_ | with_reducible refine x_partL ?_ | with_reducible refine x_partT ?_ | with_reducible refine x_listL ?_ | with_reducible refine x_listT ?_ | with_reducible refine x_iii ?_ | with_reducible refine x_ibi ?_ | with_reducible refine x_iss ?_ | with_reducible refine x_itt ?_ | with_reducible refine x_ill ?_ | with_reducible refine c_true ?_ | with_reducible refine c_false ?_ | with_reducible refine c_nt ?_ | with_reducible refine c_nf ?_ | with_reducible refine c_not ?_ | ((with_reducible apply w_FI); · rfl) | ((with_reducible apply w_oIx); · rfl) | ((with_reducible apply w_oLen); · rfl) | ((with_reducible apply w_oBin); · rfl) | ((with_reducible apply w_consO); · rfl) | ((with_reducible apply w_aug); · rfl) | ((with_reducible apply w_app); · rfl) | ((with_reducible apply w_oset); · rfl) | ((with_reducible apply w_ext); · rfl) | ((with_reducible apply w_retO); · rfl) | ((with_reducible apply w_frz); · rfl) | ((with_reducible apply e_ow); · rfl) | with_reducible refine e_bl ?_ | with_reducible refine e_int ?_ | with_reducible refine e_lst ?_ | with_reducible refine e_tup ?_ | with_reducible refine e_seqL ?_ | with_reducible refine e_seqT ?_ | with_reducible refine e_zipL ?_ | with_reducible refine e_zipT ?_ | with_reducible refine w_partI ?_ | with_reducible refine w_iSeq ?_ | with_reducible refine w_iEnum ?_ | with_reducible refine w_new ?_ | with_reducible refine w_rev ?_ | with_reducible refine w_revT ?_ | with_reducible refine w_slice ?_ | with_reducible refine y_le ?_ | with_reducible refine y_lt ?_ | with_reducible refine y_ge ?_ | with_reducible refine y_gt ?_ | ((with_reducible apply x_ixT); · rfl) | ((with_reducible apply x_ixL); · rfl) | ((with_reducible apply e_at); · rfl) | ((with_reducible apply x_mul); · rfl) | ((with_reducible apply e_ix); · rfl) | ((with_reducible apply x_div); · decide) | ((with_reducible apply x_mod); · decide) | with_reducible refine w_lst ?_ | with_reducible refine w_tup ?_ | ((with_reducible apply e_cap); · exact Nat.le_of_ble_eq_true rfl) | ((with_reducible apply e_set); · (simp only [List.set_cons_zero, List.set_cons_succ]; rfl)) | ((with_reducible apply e_setL); (· rfl); (· (simp only [List.set_cons_zero, List.set_cons_succ]; rfl))) | ((with_reducible apply e_par); (· rfl); (· (simp only [List.set_cons_zero, List.set_cons_succ]; rfl))) | ((with_reducible apply e_par3); (· rfl); (· (simp only [List.set_cons_zero, List.set_cons_succ]; rfl))) | ((with_reducible apply e_pt); (· rfl); (· (simp only [List.set_cons_zero, List.set_cons_succ]; rfl))) | ((with_reducible apply e_pT); · (simp only [pTs, pN, List.length_cons, List.length_nil, List.set_cons_zero, List.set_cons_succ, Nat.reduceAdd, Nat.reduceLT, ite_true, Option.some.injEq]; rfl))))
        refine ⟨rfl, rfl, fun _ => ?_⟩
        (repeat' (first | ((with_reducible refine c_decT ?_ ?_); · first | decide | rfl) | ((with_reducible refine c_decF ?_ ?_); · decide) | with_reducible refine w_seq ?_ | ((with_reducible apply w_var); · rfl) | with_reducible refine w_setN ?_ | with_reducible refine w_snew ?_ | with_reducible refine w_C ?_ | with_reducible refine w_bin ?_ | with_reducible refine w_un ?_ | with_reducible refine w_isi ?_ | with_reducible refine w_isi2 ?_ | with_reducible refine w_chain ?_ | with_reducible refine w_if ?_ | with_reducible refine w_nil ?_ | with_reducible refine w_cons ?_ | with_reducible refine w_F ?_ | with_reducible refine w_Fb ?_ | with_reducible refine w_FN ?_ | with_reducible refine w_noPart ?_ | with_reducible refine w_slice ?_ | with_reducible refine w_val ?_ | with_reducible refine w_tAnd ?_ | with_reducible refine w_tOr ?_ | with_reducible refine w_tNot ?_ | with_reducible refine w_tYes ?_ | with_reducible refine w_and ?_ | with_reducible refine w_or ?_ | with_reducible refine w_not ?_ | with_reducible refine w_iRng ?_ | with_reducible refine w_iRngD ?_ | with_reducible refine w_iZip ?_ | with_reducible refine w_fr ?_ | with_reducible refine w_tupL ?_ | with_reducible refine w_im ?_ | with_reducible refine w_ow ?_ | with_reducible refine w_set ?_ | with_reducible refine w_par ?_ | with_reducible refine w_expr ?_ | with_reducible refine w_ret ?_ | with_reducible refine w_retN ?_ | with_reducible refine w_pass ?_ | with_reducible refine w_break ?_ | with_reducible refine w_cont ?_ | with_reducible refine w_seq ?_ | with_reducible refine w_sif ?_ | with_reducible refine x_add ?_ | with_reducible refine x_addI ?_ | with_reducible refine x_sub ?_ | with_reducible refine x_neg ?_ | with_reducible refine x_lt ?_ | with_reducible refine x_le ?_ | with_reducible refine x_gt ?_ | with_reducible refine x_ge ?_ | with_reducible refine x_eqS ?_ | with_reducible refine x_eq ?_ | with_reducible refine x_ne ?_ | with_reducible refine x_isN ?_ | with_reducible refine x_notN ?_ | with_reducible refine x_isB ?_ | with_reducible refine x_notB ?_ | with_reducible refine x_lenL ?_ | with_reducible refine x_lenT ?_ | with_reducible refine x_max2 ?_ | with_reducible refine x_min2 ?_ | with_reducible refine x_abs ?_ | with_reducible refine x_tupleL ?_ | with_reducible refine x_tupleT ?_ | with_reducible refine x_partL ?_ | with_reducible refine x_partT ?_ | with_reducible refine x_listL ?_ | with_reducible refine x_listT ?_ | with_reducible refine x_iii ?_ | with_reducible refine x_ibi ?_ | with_reducible refine x_iss ?_ | with_reducible refine x_itt ?_ | with_reducible refine x_ill ?_ | with_reducible refine c_true ?_ | with_reducible refine c_false ?_ | with_reducible refine c_nt ?_ | with_reducible refine c_nf ?_ | with_reducible refine c_not ?_ | ((with_reducible apply w_FI); · rfl) | ((with_reducible apply w_oIx); · rfl) | ((with_reducible apply w_oLen); · rfl) | ((with_reducible apply w_oBin); · rfl) | ((with_reducible apply w_consO); · rfl) | ((with_reducible apply w_aug); · rfl) | ((with_reducible apply w_app); · rfl) | ((with_reducible apply w_oset); · rfl) | ((with_reducible apply w_ext); · rfl) | ((with_reducible apply w_retO); · rfl) | ((with_reducible apply w_frz); · rfl) | ((with_reducible apply e_ow); · rfl) | with_reducible refine e_bl ?_ | with_reducible refine e_int ?_ | with_reducible refine e_lst ?_ | with_reducible refine e_tup ?_ | with_reducible refine e_seqL ?_ | with_reducible refine e_seqT ?_ | with_reducible refine e_zipL ?_ | with_reducible refine e_zipT ?_ | with_reducible refine w_partI ?_ | with_reducible refine w_iSeq ?_ | with_reducible refine w_iEnum ?_ | with_reducible refine w_new ?_ | with_reducible refine w_rev ?_ | with_reducible refine w_revT ?_ | with_reducible refine w_slice ?_ | with_reducible refine y_le ?_ | with_reducible refine y_lt ?_ | with_reducible refine y_ge ?_ | with_reducible refine y_gt ?_ | ((with_reducible apply x_ixT); · rfl) | ((with_reducible apply x_ixL); · rfl) | ((with_reducible apply e_at); · rfl) | ((with_reducible apply x_mul); · rfl) | ((with_reducible apply e_ix); · rfl) | ((with_reducible apply x_div); · decide) | ((with_reducible apply x_mod); · decide) | with_reducible refine w_lst ?_ | with_reducible refine w_tup ?_ | ((with_reducible apply e_cap); · exact Nat.le_of_ble_eq_true rfl) | ((with_reducible apply e_set); · (simp only [List.set_cons_zero, List.set_cons_succ]; rfl)) | ((with_reducible apply e_setL); (· rfl); (· (simp only [List.set_cons_zero, List.set_cons_succ]; rfl))) | ((with_reducible apply e_par); (· rfl); (· (simp only [List.set_cons_zero, List.set_cons_succ]; rfl))) | ((with_reducible apply e_par3); (· rfl); (· (simp only [List.set_cons_zero, List.set_cons_succ]; rfl))) | ((with_reducible apply e_pt); (· rfl); (· (simp only [List.set_cons_zero, List.set_cons_succ]; rfl))) | ((with_reducible apply e_pT); · (simp only [pTs, pN, List.length_cons, List.length_nil, List.set_cons_zero, List.set_cons_succ, Nat.reduceAdd, Nat.reduceLT, ite_true, Option.some.injEq]; rfl))))
        exact ⟨rfl, rfl⟩
      rw [List.filter_eq_self.mpr (fun _ _ => rfl)]
      have e : ((prs cs l).map pD).map (fun d => match d with | .tup [.int a, .int b] => D.int (max 0 (b - a)) | _ => .non) = iL ((prs cs l).map fun p => max 0 (p.2 - p.1)) := by
        simp only [iL, List.map_map]; rfl
      rw [e]
      (repeat' (first | ((with_reducible refine c_decT ?_ ?_); · first | decide | rfl) | ((with_reducible refine c_decF ?_ ?_); · decide) | with_reducible refine w_seq ?_ | ((with_reducible apply w_var); · rfl) | with_reducible refine w_setN ?_ | with_reducible refine w_snew ?_ | with_reducible refine w_C ?_ | with_reducible refine w_bin ?_ | with_reducible refine w_un ?_ | with_reducible refine w_isi ?_ | with_reducible refine w_isi2 ?_ | with_reducible refine w_chain ?_ | with_reducible refine w_if ?_ | with_reducible refine w_nil ?_ | with_reducible refine w_cons ?_ | with_reducible refine w_F ?_ | with_reducible refine w_Fb ?_ | with_reducible refine w_FN ?_ | with_reducible refine w_noPart ?_ | with_reducible refine w_slice ?_ | with_reducible refine w_val ?_ | with_reducible refine w_tAnd ?_ | with_reducible refine w_tOr ?_ | with_reducible refine w_tNot ?_ | with_reducible refine w_tYes ?_ | with_reducible refine w_and ?_ | with_reducible refine w_or ?_ | with_reducible refine w_not ?_ | with_reducible refine w_iRng ?_ | with_reducible refine w_iRngD ?_ | with_reducible refine w_iZip ?_ | with_reducible refine w_fr ?_ | with_reducible refine w_tupL ?_ | with_reducible refine w_im ?_ | with_reducible refine w_ow ?_ | with_reducible refine w_set ?_ | with_reducible refine w_par ?_ | with_reducible refine w_expr ?_ | with_reducible refine w_ret ?_ | with_reducible refine w_retN ?_ | with_reducible refine w_pass ?_ | with_reducible refine w_break ?_ | with_reducible refine w_cont ?_ | with_reducible refine w_seq ?_ | with_reducible refine w_sif ?_ | with_reducible refine x_add ?_ | with_reducible refine x_addI ?_ | with_reducible refine x_sub ?_ | with_reducible refine x_neg ?_ | with_reducible refine x_lt ?_ | with_reducible refine x_le ?_ | with_reducible refine x_gt ?_ | with_reducible refine x_ge ?_ | with_reducible refine x_eqS ?_ | with_reducible refine x_eq ?_ | with_reducible refine x_ne ?_ | with_reducible refine x_isN ?_ | with_reducible refine x_notN ?_ | with_reducible refine x_isB ?_ | with_reducible refine x_notB ?_ | with_reducible refine x_lenL ?_ | with_reducible refine x_lenT ?_ | with_reducible refine x_max2 ?_ | with_reducible refine x_min2 ?_ | with_reducible refine x_abs ?_ | with_reducible refine x_tupleL ?_ | with_reducible refine x_tupleT ?_ | with_reducible refine x_partL ?_ | with_reducible refine x_partT ?_ | with_reducible refine x_listL ?_ | with_reducible refine x_listT ?_ | with_reducible refine x_iii ?_ | with_reducible refine x_ibi ?_ | with_reducible refine x_iss ?_ | with_reducible refine x_itt ?_ | with_reducible refine x_ill ?_ | with_reducible refine c_true ?_ | with_reducible refine c_false ?_ | with_reducible refine c_nt ?_ | with_reducible refine c_nf ?_ | with_reducible refine c_not ?_ | ((with_reducible apply w_FI); · rfl) | ((with_reducible apply w_oIx); · rfl) | ((with_reducible apply w_oLen); · rfl) | ((with_reducible apply w_oBin); · rfl) | ((with_reducible apply w_consO); · rfl) | ((with_reducible apply w_aug); · rfl) | ((with_reducible apply w_app); · rfl) | ((with_reducible apply w_oset); · rfl) | ((with_reducible apply w_ext); · rfl) | ((with_reducible apply w_retO); · rfl) | ((with_reducible apply w_frz); · rfl) | ((with_reducible apply e_ow); · rfl) | with_reducible refine e_bl ?_ | with_reducible refine e_int ?_ | with_reducible refine e_lst ?_ | with_reducible refine e_tup ?_ | with_reducible refine e_seqL ?_ | with_reducible refine e_seqT ?_ | with_reducible refine e_zipL ?_ | with_reducible refine e_zipT ?_ | with_reducible refine w_partI ?_ | with_reducible refine w_iSeq ?_ | with_reducible refine w_iEnum ?_ | with_reducible refine w_new ?_ | with_reducible refine w_rev ?_ | with_reducible refine w_revT ?_ | with_reducible refine w_slice ?_ | with_reducible refine y_le ?_ | with_reducible refine y_lt ?_ | with_reducible refine y_ge ?_ | with_reducible refine y_gt ?_ | ((with_reducible apply x_ixT); · rfl) | ((with_reducible apply x_ixL); · rfl) | ((with_reducible apply e_at); · rfl) | ((with_reducible apply x_mul); · rfl) | ((with_reducible apply e_ix); · rfl) | ((with_reducible apply x_div); · decide) | ((with_reducible apply x_mod); · decide) | with_reducible refine w_lst ?_ | with_reducible refine w_tup ?_ | ((with_reducible apply e_cap); · exact Nat.le_of_ble_eq_true rfl) | ((with_reducible apply e_set); · (simp only [List.set_cons_zero, List.set_cons_succ]; rfl)) | ((with_reducible apply e_setL); (· rfl); (· (simp only [List.set_cons_zero, List.set_cons_succ]; rfl))) | ((with_reducible apply e_par); (· rfl); (· (simp only [List.set_cons_zero, List.set_cons_succ]; rfl))) | ((with_reducible apply e_par3); (· rfl); (· (simp only [List.set_cons_zero, List.set_cons_succ]; rfl))) | ((with_reducible apply e_pt); (· rfl); (· (simp only [List.set_cons_zero, List.set_cons_succ]; rfl))) | ((with_reducible apply e_pT); · (simp only [pTs, pN, List.length_cons, List.length_nil, List.set_cons_zero, List.set_cons_succ, Nat.reduceAdd, Nat.reduceLT, ite_true, Option.some.injEq]; rfl))))
      refine x_sum ?_
      rw [sum_up]
      (repeat' (first | ((with_reducible refine c_decT ?_ ?_); · first | decide | rfl) | ((with_reducible refine c_decF ?_ ?_); · decide) | with_reducible refine w_seq ?_ | ((with_reducible apply w_var); · rfl) | with_reducible refine w_setN ?_ | with_reducible refine w_snew ?_ | with_reducible refine w_C ?_ | with_reducible refine w_bin ?_ | with_reducible refine w_un ?_ | with_reducible refine w_isi ?_ | with_reducible refine w_isi2 ?_ | with_reducible refine w_chain ?_ | with_reducible refine w_if ?_ | with_reducible refine w_nil ?_ | with_reducible refine w_cons ?_ | with_reducible refine w_F ?_ | with_reducible refine w_Fb ?_ | with_reducible refine w_FN ?_ | with_reducible refine w_noPart ?_ | with_reducible refine w_slice ?_ | with_reducible refine w_val ?_ | with_reducible refine w_tAnd ?_ | with_reducible refine w_tOr ?_ | with_reducible refine w_tNot ?_ | with_reducible refine w_tYes ?_ | with_reducible refine w_and ?_ | with_reducible refine w_or ?_ | with_reducible refine w_not ?_ | with_reducible refine w_iRng ?_ | with_reducible refine w_iRngD ?_ | with_reducible refine w_iZip ?_ | with_reducible refine w_fr ?_ | with_reducible refine w_tupL ?_ | with_reducible refine w_im ?_ | with_reducible refine w_ow ?_ | with_reducible refine w_set ?_ | with_reducible refine w_par ?_ | with_reducible refine w_expr ?_ | with_reducible refine w_ret ?_ | with_reducible refine w_retN ?_ | with_reducible refine w_pass ?_ | with_reducible refine w_break ?_ | with_reducible refine w_cont ?_ | with_reducible refine w_seq ?_ | with_reducible refine w_sif ?_ | with_reducible refine x_add ?_ | with_reducible refine x_addI ?_ | with_reducible refine x_sub ?_ | with_reducible refine x_neg ?_ | with_reducible refine x_lt ?_ | with_reducible refine x_le ?_ | with_reducible refine x_gt ?_ | with_reducible refine x_ge ?_ | with_reducible refine x_eqS ?_ | with_reducible refine x_eq ?_ | with_reducible refine x_ne ?_ | with_reducible refine x_isN ?_ | with_reducible refine x_notN ?_ | with_reducible refine x_isB ?_ | with_reducible refine x_notB ?_ | with_reducible refine x_lenL ?_ | with_reducible refine x_lenT ?_ | with_reducible refine x_max2 ?_ | with_reducible refine x_min2 ?_ | with_reducible refine x_abs ?_ | with_reducible refine x_tupleL ?_ | with_reducible refine x_tupleT ?_ | with_reducible refine x_partL ?_ | with_reducible refine x_partT ?_ | with_reducible refine x_listL ?_ | with_reducible refine x_listT ?_ | with_reducible refine x_iii ?_ | with_reducible refine x_ibi ?_ | with_reducible refine x_iss ?_ | with_reducible refine x_itt ?_ | with_reducible refine x_ill ?_ | with_reducible refine c_true ?_ | with_reducible refine c_false ?_ | with_reducible refine c_nt ?_ | with_reducible refine c_nf ?_ | with_reducible refine c_not ?_ | ((with_reducible apply w_FI); · rfl) | ((with_reducible apply w_oIx); · rfl) | ((with_reducible apply w_oLen); · rfl) | ((with_reducible apply w_oBin); · rfl) | ((with_reducible apply w_consO); · rfl) | ((with_reducible apply w_aug); · rfl) | ((with_reducible apply w_app); · rfl) | ((with_reducible apply w_oset); · rfl) | ((with_reducible apply w_ext); · rfl) | ((with_reducible apply w_retO); · rfl) | ((with_reducible apply w_frz); · rfl) | ((with_reducible apply e_ow); · rfl) | with_reducible refine e_bl ?_ | with_reducible refine e_int ?_ | with_reducible refine e_lst ?_ | with_reducible refine e_tup ?_ | with_reducible refine e_seqL ?_ | with_reducible refine e_seqT ?_ | with_reducible refine e_zipL ?_ | with_reducible refine e_zipT ?_ | with_reducible refine w_partI ?_ | with_reducible refine w_iSeq ?_ | with_reducible refine w_iEnum ?_ | with_reducible refine w_new ?_ | with_reducible refine w_rev ?_ | with_reducible refine w_revT ?_ | with_reducible refine w_slice ?_ | with_reducible refine y_le ?_ | with_reducible refine y_lt ?_ | with_reducible refine y_ge ?_ | with_reducible refine y_gt ?_ | ((with_reducible apply x_ixT); · rfl) | ((with_reducible apply x_ixL); · rfl) | ((with_reducible apply e_at); · rfl) | ((with_reducible apply x_mul); · rfl) | ((with_reducible apply e_ix); · rfl) | ((with_reducible apply x_div); · decide) | ((with_reducible apply x_mod); · decide) | with_reducible refine w_lst ?_ | with_reducible refine w_tup ?_ | ((with_reducible apply e_cap); · exact Nat.le_of_ble_eq_true rfl) | ((with_reducible apply e_set); · (simp only [List.set_cons_zero, List.set_cons_succ]; rfl)) | ((with_reducible apply e_setL); (· rfl); (· (simp only [List.set_cons_zero, List.set_cons_succ]; rfl))) | ((with_reducible apply e_par); (· rfl); (· (simp only [List.set_cons_zero, List.set_cons_succ]; rfl))) | ((with_reducible apply e_par3); (· rfl); (· (simp only [List.set_cons_zero, List.set_cons_succ]; rfl))) | ((with_reducible apply e_pt); (· rfl); (· (simp only [List.set_cons_zero, List.set_cons_succ]; rfl))) | ((with_reducible apply e_pT); · (simp only [pTs, pN, List.length_cons, List.length_nil, List.set_cons_zero, List.set_cons_succ, Nat.reduceAdd, Nat.reduceLT, ite_true, Option.some.injEq]; rfl))))
      refine ⟨_, totals_eq hc hS hL, ?_⟩
      (repeat' (first | ((with_reducible refine c_decT ?_ ?_); · first | decide | rfl) | ((with_reducible refine c_decF ?_ ?_); · decide) | with_reducible refine w_seq ?_ | ((with_reducible apply w_var); · rfl) | with_reducible refine w_setN ?_ | with_reducible refine w_snew ?_ | with_reducible refine w_C ?_ | with_reducible refine w_bin ?_ | with_reducible refine w_un ?_ | with_reducible refine w_isi ?_ | with_reducible refine w_isi2 ?_ | with_reducible refine w_chain ?_ | with_reducible refine w_if ?_ | with_reducible refine w_nil ?_ | with_reducible refine w_cons ?_ | with_reducible refine w_F ?_ | with_reducible refine w_Fb ?_ | with_reducible refine w_FN ?_ | with_reducible refine w_noPart ?_ | with_reducible refine w_slice ?_ | with_reducible refine w_val ?_ | with_reducible refine w_tAnd ?_ | with_reducible refine w_tOr ?_ | with_reducible refine w_tNot ?_ | with_reducible refine w_tYes ?_ | with_reducible refine w_and ?_ | with_reducible refine w_or ?_ | with_reducible refine w_not ?_ | with_reducible refine w_iRng ?_ | with_reducible refine w_iRngD ?_ | with_reducible refine w_iZip ?_ | with_reducible refine w_fr ?_ | with_reducible refine w_tupL ?_ | with_reducible refine w_im ?_ | with_reducible refine w_ow ?_ | with_reducible refine w_set ?_ | with_reducible refine w_par ?_ | with_reducible refine w_expr ?_ | with_reducible refine w_ret ?_ | with_reducible refine w_retN ?_ | with_reducible refine w_pass ?_ | with_reducible refine w_break ?_ | with_reducible refine w_cont ?_ | with_reducible refine w_seq ?_ | with_reducible refine w_sif ?_ | with_reducible refine x_add ?_ | with_reducible refine x_addI ?_ | with_reducible refine x_sub ?_ | with_reducible refine x_neg ?_ | with_reducible refine x_lt ?_ | with_reducible refine x_le ?_ | with_reducible refine x_gt ?_ | with_reducible refine x_ge ?_ | with_reducible refine x_eqS ?_ | with_reducible refine x_eq ?_ | with_reducible refine x_ne ?_ | with_reducible refine x_isN ?_ | with_reducible refine x_notN ?_ | with_reducible refine x_isB ?_ | with_reducible refine x_notB ?_ | with_reducible refine x_lenL ?_ | with_reducible refine x_lenT ?_ | with_reducible refine x_max2 ?_ | with_reducible refine x_min2 ?_ | with_reducible refine x_abs ?_ | with_reducible refine x_tupleL ?_ | with_reducible refine x_tupleT ?_ | with_reducible refine x_partL ?_ | with_reducible refine x_partT ?_ | with_reducible refine x_listL ?_ | with_reducible refine x_listT ?_ | with_reducible refine x_iii ?_ | with_reducible refine x_ibi ?_ | with_reducible refine x_iss ?_ | with_reducible refine x_itt ?_ | with_reducible refine x_ill ?_ | with_reducible refine c_true ?_ | with_reducible refine c_false ?_ | with_reducible refine c_nt ?_ | with_reducible refine c_nf ?_ | with_reducible refine c_not ?_ | ((with_reducible apply w_FI); · rfl) | ((with_reducible apply w_oIx); · rfl) | ((with_reducible apply w_oLen); · rfl) | ((with_reducible apply w_oBin); · rfl) | ((with_reducible apply w_consO); · rfl) | ((with_reducible apply w_aug); · rfl) | ((with_reducible apply w_app); · rfl) | ((with_reducible apply w_oset); · rfl) | ((with_reducible apply w_ext); · rfl) | ((with_reducible apply w_retO); · rfl) | ((with_reducible apply w_frz); · rfl) | ((with_reducible apply e_ow); · rfl) | with_reducible refine e_bl ?_ | with_reducible refine e_int ?_ | with_reducible refine e_lst ?_ | with_reducible refine e_tup ?_ | with_reducible refine e_seqL ?_ | with_reducible refine e_seqT ?_ | with_reducible refine e_zipL ?_ | with_reducible refine e_zipT ?_ | with_reducible refine w_partI ?_ | with_reducible refine w_iSeq ?_ | with_reducible refine w_iEnum ?_ | with_reducible refine w_new ?_ | with_reducible refine w_rev ?_ | with_reducible refine w_revT ?_ | with_reducible refine w_slice ?_ | with_reducible refine y_le ?_ | with_reducible refine y_lt ?_ | with_reducible refine y_ge ?_ | with_reducible refine y_gt ?_ | ((with_reducible apply x_ixT); · rfl) | ((with_reducible apply x_ixL); · rfl) | ((with_reducible apply e_at); · rfl) | ((with_reducible apply x_mul); · rfl) | ((with_reducible apply e_ix); · rfl) | ((with_reducible apply x_div); · decide) | ((with_reducible apply x_mod); · decide) | with_reducible refine w_lst ?_ | with_reducible refine w_tup ?_ | ((with_reducible apply e_cap); · exact Nat.le_of_ble_eq_true rfl) | ((with_reducible apply e_set); · (simp only [List.set_cons_zero, List.set_cons_succ]; rfl)) | ((with_reducible apply e_setL); (· rfl); (· (simp only [List.set_cons_zero, List.set_cons_succ]; rfl))) | ((with_reducible apply e_par); (· rfl); (· (simp only [List.set_cons_zero, List.set_cons_succ]; rfl))) | ((with_reducible apply e_par3); (· rfl); (· (simp only [List.set_cons_zero, List.set_cons_succ]; rfl))) | ((with_reducible apply e_pt); (· rfl); (· (simp only [List.set_cons_zero, List.set_cons_succ]; rfl))) | ((with_reducible apply e_pT); · (simp only [pTs, pN, List.length_cons, List.length_nil, List.set_cons_zero, List.set_cons_succ, Nat.reduceAdd, Nat.reduceLT, ite_true, Option.some.injEq]; rfl))))
      refine ⟨_, at_last (getLast_iL (lvs_last cs l)), ?_⟩
      (repeat' (first | ((with_reducible refine c_decT ?_ ?_); · first | decide | rfl) | ((with_reducible refine c_decF ?_ ?_); · decide) | with_reducible refine w_seq ?_ | ((with_reducible apply w_var); · rfl) | with_reducible refine w_setN ?_ | with_reducible refine w_snew ?_ | with_reducible refine w_C ?_ | with_reducible refine w_bin ?_ | with_reducible refine w_un ?_ | with_reducible refine w_isi ?_ | with_reducible refine w_isi2 ?_ | with_reducible refine w_chain ?_ | with_reducible refine w_if ?_ | with_reducible refine w_nil ?_ | with_reducible refine w_cons ?_ | with_reducible refine w_F ?_ | with_reducible refine w_Fb ?_ | with_reducible refine w_FN ?_ | with_reducible refine w_noPart ?_ | with_reducible refine w_slice ?_ | with_reducible refine w_val ?_ | with_reducible refine w_tAnd ?_ | with_reducible refine w_tOr ?_ | with_reducible refine w_tNot ?_ | with_reducible refine w_tYes ?_ | with_reducible refine w_and ?_ | with_reducible refine w_or ?_ | with_reducible refine w_not ?_ | with_reducible refine w_iRng ?_ | with_reducible refine w_iRngD ?_ | with_reducible refine w_iZip ?_ | with_reducible refine w_fr ?_ | with_reducible refine w_tupL ?_ | with_reducible refine w_im ?_ | with_reducible refine w_ow ?_ | with_reducible refine w_set ?_ | with_reducible refine w_par ?_ | with_reducible refine w_expr ?_ | with_reducible refine w_ret ?_ | with_reducible refine w_retN ?_ | with_reducible refine w_pass ?_ | with_reducible refine w_break ?_ | with_reducible refine w_cont ?_ | with_reducible refine w_seq ?_ | with_reducible refine w_sif ?_ | with_reducible refine x_add ?_ | with_reducible refine x_addI ?_ | with_reducible refine x_sub ?_ | with_reducible refine x_neg ?_ | with_reducible refine x_lt ?_ | with_reducible refine x_le ?_ | with_reducible refine x_gt ?_ | with_reducible refine x_ge ?_ | with_reducible refine x_eqS ?_ | with_reducible refine x_eq ?_ | with_reducible refine x_ne ?_ | with_reducible refine x_isN ?_ | with_reducible refine x_notN ?_ | with_reducible refine x_isB ?_ | with_reducible refine x_notB ?_ | with_reducible refine x_lenL ?_ | with_reducible refine x_lenT ?_ | with_reducible refine x_max2 ?_ | with_reducible refine x_min2 ?_ | with_reducible refine x_abs ?_ | with_reducible refine x_tupleL ?_ | with_reducible refine x_tupleT ?_ | with_reducible refine x_partL ?_ | with_reducible refine x_partT ?_ | with_reducible refine x_listL ?_ | with_reducible refine x_listT ?_ | with_reducible refine x_iii ?_ | with_reducible refine x_ibi ?_ | with_reducible refine x_iss ?_ | with_reducible refine x_itt ?_ | with_reducible refine x_ill ?_ | with_reducible refine c_true ?_ | with_reducible refine c_false ?_ | with_reducible refine c_nt ?_ | with_reducible refine c_nf ?_ | with_reducible refine c_not ?_ | ((with_reducible apply w_FI); · rfl) | ((with_reducible apply w_oIx); · rfl) | ((with_reducible apply w_oLen); · rfl) | ((with_reducible apply w_oBin); · rfl) | ((with_reducible apply w_consO); · rfl) | ((with_reducible apply w_aug); · rfl) | ((with_reducible apply w_app); · rfl) | ((with_reducible apply w_oset); · rfl) | ((with_reducible apply w_ext); · rfl) | ((with_reducible apply w_retO); · rfl) | ((with_reducible apply w_frz); · rfl) | ((with_reducible apply e_ow); · rfl) | with_reducible refine e_bl ?_ | with_reducible refine e_int ?_ | with_reducible refine e_lst ?_ | with_reducible refine e_tup ?_ | with_reducible refine e_seqL ?_ | with_reducible refine e_seqT ?_ | with_reducible refine e_zipL ?_ | with_reducible refine e_zipT ?_ | with_reducible refine w_partI ?_ | with_reducible refine w_iSeq ?_ | with_reducible refine w_iEnum ?_ | with_reducible refine w_new ?_ | with_reducible refine w_rev ?_ | with_reducible refine w_revT ?_ | with_reducible refine w_slice ?_ | with_reducible refine y_le ?_ | with_reducible refine y_lt ?_ | with_reducible refine y_ge ?_ | with_reducible refine y_gt ?_ | ((with_reducible apply x_ixT); · rfl) | ((with_reducible apply x_ixL); · rfl) | ((with_reducible apply e_at); · rfl) | ((with_reducible apply x_mul); · rfl) | ((with_reducible apply e_ix); · rfl) | ((with_reducible apply x_div); · decide) | ((with_reducible apply x_mod); · decide) | with_reducible refine w_lst ?_ | with_reducible refine w_tup ?_ | ((with_reducible apply e_cap); · exact Nat.le_of_ble_eq_true rfl) | ((with_reducible apply e_set); · (simp only [List.set_cons_zero, List.set_cons_succ]; rfl)) | ((with_reducible apply e_setL); (· rfl); (· (simp only [List.set_cons_zero, List.set_cons_succ]; rfl))) | ((with_reducible apply e_par); (· rfl); (· (simp only [List.set_cons_zero, List.set_cons_succ]; rfl))) | ((with_reducible apply e_par3); (· rfl); (· (simp only [List.set_cons_zero, List.set_cons_succ]; rfl))) | ((with_reducible apply e_pt); (· rfl); (· (simp only [List.set_cons_zero, List.set_cons_succ]; rfl))) | ((with_reducible apply e_pT); · (simp only [pTs, pN, List.length_cons, List.length_nil, List.set_cons_zero, List.set_cons_succ, Nat.reduceAdd, Nat.reduceLT, ite_true, Option.some.injEq]; rfl))))
      rw [up_dn]
      refine w_equal (n := 1) (Wl.ints (xs := [upS cs l, upS cs l + l - fin cs l]) (cap_lt (by simp))) (by omega) ?_
      (repeat' (first | ((with_reducible refine c_decT ?_ ?_); · first | decide | rfl) | ((with_reducible refine c_decF ?_ ?_); · decide) | with_reducible refine w_seq ?_ | ((with_reducible apply w_var); · rfl) | with_reducible refine w_setN ?_ | with_reducible refine w_snew ?_ | with_reducible refine w_C ?_ | with_reducible refine w_bin ?_ | with_reducible refine w_un ?_ | with_reducible refine w_isi ?_ | with_reducible refine w_isi2 ?_ | with_reducible refine w_chain ?_ | with_reducible refine w_if ?_ | with_reducible refine w_nil ?_ | with_reducible refine w_cons ?_ | with_reducible refine w_F ?_ | with_reducible refine w_Fb ?_ | with_reducible refine w_FN ?_ | with_reducible refine w_noPart ?_ | with_reducible refine w_slice ?_ | with_reducible refine w_val ?_ | with_reducible refine w_tAnd ?_ | with_reducible refine w_tOr ?_ | with_reducible refine w_tNot ?_ | with_reducible refine w_tYes ?_ | with_reducible refine w_and ?_ | with_reducible refine w_or ?_ | with_reducible refine w_not ?_ | with_reducible refine w_iRng ?_ | with_reducible refine w_iRngD ?_ | with_reducible refine w_iZip ?_ | with_reducible refine w_fr ?_ | with_reducible refine w_tupL ?_ | with_reducible refine w_im ?_ | with_reducible refine w_ow ?_ | with_reducible refine w_set ?_ | with_reducible refine w_par ?_ | with_reducible refine w_expr ?_ | with_reducible refine w_ret ?_ | with_reducible refine w_retN ?_ | with_reducible refine w_pass ?_ | with_reducible refine w_break ?_ | with_reducible refine w_cont ?_ | with_reducible refine w_seq ?_ | with_reducible refine w_sif ?_ | with_reducible refine x_add ?_ | with_reducible refine x_addI ?_ | with_reducible refine x_sub ?_ | with_reducible refine x_neg ?_ | with_reducible refine x_lt ?_ | with_reducible refine x_le ?_ | with_reducible refine x_gt ?_ | with_reducible refine x_ge ?_ | with_reducible refine x_eqS ?_ | with_reducible refine x_eq ?_ | with_reducible refine x_ne ?_ | with_reducible refine x_isN ?_ | with_reducible refine x_notN ?_ | with_reducible refine x_isB ?_ | with_reducible refine x_notB ?_ | with_reducible refine x_lenL ?_ | with_reducible refine x_lenT ?_ | with_reducible refine x_max2 ?_ | with_reducible refine x_min2 ?_ | with_reducible refine x_abs ?_ | with_reducible refine x_tupleL ?_ | with_reducible refine x_tupleT ?_ | with_reducible refine x_partL ?_ | with_reducible refine x_partT ?_ | with_reducible refine x_listL ?_ | with_reducible refine x_listT ?_ | with_reducible refine x_iii ?_ | with_reducible refine x_ibi ?_ | with_reducible refine x_iss ?_ | with_reducible refine x_itt ?_ | with_reducible refine x_ill ?_ | with_reducible refine c_true ?_ | with_reducible refine c_false ?_ | with_reducible refine c_nt ?_ | with_reducible refine c_nf ?_ | with_reducible refine c_not ?_ | ((with_reducible apply w_FI); · rfl) | ((with_reducible apply w_oIx); · rfl) | ((with_reducible apply w_oLen); · rfl) | ((with_reducible apply w_oBin); · rfl) | ((with_reducible apply w_consO); · rfl) | ((with_reducible apply w_aug); · rfl) | ((with_reducible apply w_app); · rfl) | ((with_reducible apply w_oset); · rfl) | ((with_reducible apply w_ext); · rfl) | ((with_reducible apply w_retO); · rfl) | ((with_reducible apply w_frz); · rfl) | ((with_reducible apply e_ow); · rfl) | with_reducible refine e_bl ?_ | with_reducible refine e_int ?_ | with_reducible refine e_lst ?_ | with_reducible refine e_tup ?_ | with_reducible refine e_seqL ?_ | with_reducible refine e_seqT ?_ | with_reducible refine e_zipL ?_ | with_reducible refine e_zipT ?_ | with_reducible refine w_partI ?_ | with_reducible refine w_iSeq ?_ | with_reducible refine w_iEnum ?_ | with_reducible refine w_new ?_ | with_reducible refine w_rev ?_ | with_reducible refine w_revT ?_ | with_reducible refine w_slice ?_ | with_reducible refine y_le ?_ | with_reducible refine y_lt ?_ | with_reducible refine y_ge ?_ | with_reducible refine y_gt ?_ | ((with_reducible apply x_ixT); · rfl) | ((with_reducible apply x_ixL); · rfl) | ((with_reducible apply e_at); · rfl) | ((with_reducible apply x_mul); · rfl) | ((with_reducible apply e_ix); · rfl) | ((with_reducible apply x_div); · decide) | ((with_reducible apply x_mod); · decide) | with_reducible refine w_lst ?_ | with_reducible refine w_tup ?_ | ((with_reducible apply e_cap); · exact Nat.le_of_ble_eq_true rfl) | ((with_reducible apply e_set); · (simp only [List.set_cons_zero, List.set_cons_succ]; rfl)) | ((with_reducible apply e_setL); (· rfl); (· (simp only [List.set_cons_zero, List.set_cons_succ]; rfl))) | ((with_reducible apply e_par); (· rfl); (· (simp only [List.set_cons_zero, List.set_cons_succ]; rfl))) | ((with_reducible apply e_par3); (· rfl); (· (simp only [List.set_cons_zero, List.set_cons_succ]; rfl))) | ((with_reducible apply e_pt); (· rfl); (· (simp only [List.set_cons_zero, List.set_cons_succ]; rfl))) | ((with_reducible apply e_pT); · (simp only [pTs, pN, List.length_cons, List.length_nil, List.set_cons_zero, List.set_cons_succ, Nat.reduceAdd, Nat.reduceLT, ite_true, Option.some.injEq]; rfl))))
      refine ⟨_, at_last (getLast_iL (lvs_last cs l)), ?_⟩
      (repeat' (first | ((with_reducible refine c_decT ?_ ?_); · first | decide | rfl) | ((with_reducible refine c_decF ?_ ?_); · decide) | with_reducible refine w_seq ?_ | ((with_reducible apply w_var); · rfl) | with_reducible refine w_setN ?_ | with_reducible refine w_snew ?_ | with_reducible refine w_C ?_ | with_reducible refine w_bin ?_ | with_reducible refine w_un ?_ | with_reducible refine w_isi ?_ | with_reducible refine w_isi2 ?_ | with_reducible refine w_chain ?_ | with_reducible refine w_if ?_ | with_reducible refine w_nil ?_ | with_reducible refine w_cons ?_ | with_reducible refine w_F ?_ | with_reducible refine w_Fb ?_ | with_reducible refine w_FN ?_ | with_reducible refine w_noPart ?_ | with_reducible refine w_slice ?_ | with_reducible refine w_val ?_ | with_reducible refine w_tAnd ?_ | with_reducible refine w_tOr ?_ | with_reducible refine w_tNot ?_ | with_reducible refine w_tYes ?_ | with_reducible refine w_and ?_ | with_reducible refine w_or ?_ | with_reducible refine w_not ?_ | with_reducible refine w_iRng ?_ | with_reducible refine w_iRngD ?_ | with_reducible refine w_iZip ?_ | with_reducible refine w_fr ?_ | with_reducible refine w_tupL ?_ | with_reducible refine w_im ?_ | with_reducible refine w_ow ?_ | with_reducible refine w_set ?_ | with_reducible refine w_par ?_ | with_reducible refine w_expr ?_ | with_reducible refine w_ret ?_ | with_reducible refine w_retN ?_ | with_reducible refine w_pass ?_ | with_reducible refine w_break ?_ | with_reducible refine w_cont ?_ | with_reducible refine w_seq ?_ | with_reducible refine w_sif ?_ | with_reducible refine x_add ?_ | with_reducible refine x_addI ?_ | with_reducible refine x_sub ?_ | with_reducible refine x_neg ?_ | with_reducible refine x_lt ?_ | with_reducible refine x_le ?_ | with_reducible refine x_gt ?_ | with_reducible refine x_ge ?_ | with_reducible refine x_eqS ?_ | with_reducible refine x_eq ?_ | with_reducible refine x_ne ?_ | with_reducible refine x_isN ?_ | with_reducible refine x_notN ?_ | with_reducible refine x_isB ?_ | with_reducible refine x_notB ?_ | with_reducible refine x_lenL ?_ | with_reducible refine x_lenT ?_ | with_reducible refine x_max2 ?_ | with_reducible refine x_min2 ?_ | with_reducible refine x_abs ?_ | with_reducible refine x_tupleL ?_ | with_reducible refine x_tupleT ?_ | with_reducible refine x_partL ?_ | with_reducible refine x_partT ?_ | with_reducible refine x_listL ?_ | with_reducible refine x_listT ?_ | with_reducible refine x_iii ?_ | with_reducible refine x_ibi ?_ | with_reducible refine x_iss ?_ | with_reducible refine x_itt ?_ | with_reducible refine x_ill ?_ | with_reducible refine c_true ?_ | with_reducible refine c_false ?_ | with_reducible refine c_nt ?_ | with_reducible refine c_nf ?_ | with_reducible refine c_not ?_ | ((with_reducible apply w_FI); · rfl) | ((with_reducible apply w_oIx); · rfl) | ((with_reducible apply w_oLen); · rfl) | ((with_reducible apply w_oBin); · rfl) | ((with_reducible apply w_consO); · rfl) | ((with_reducible apply w_aug); · rfl) | ((with_reducible apply w_app); · rfl) | ((with_reducible apply w_oset); · rfl) | ((with_reducible apply w_ext); · rfl) | ((with_reducible apply w_retO); · rfl) | ((with_reducible apply w_frz); · rfl) | ((with_reducible apply e_ow); · rfl) | with_reducible refine e_bl ?_ | with_reducible refine e_int ?_ | with_reducible refine e_lst ?_ | with_reducible refine e_tup ?_ | with_reducible refine e_seqL ?_ | with_reducible refine e_seqT ?_ | with_reducible refine e_zipL ?_ | with_reducible refine e_zipT ?_ | with_reducible refine w_partI ?_ | with_reducible refine w_iSeq ?_ | with_reducible refine w_iEnum ?_ | with_reducible refine w_new ?_ | with_reducible refine w_rev ?_ | with_reducible refine w_revT ?_ | with_reducible refine w_slice ?_ | with_reducible refine y_le ?_ | with_reducible refine y_lt ?_ | with_reducible refine y_ge ?_ | with_reducible refine y_gt ?_ | ((with_reducible apply x_ixT); · rfl) | ((with_reducible apply x_ixL); · rfl) | ((with_reducible apply e_at); · rfl) | ((with_reducible apply x_mul); · rfl) | ((with_reducible apply e_ix); · rfl) | ((with_reducible apply x_div); · decide) | ((with_reducible apply x_mod); · decide) | with_reducible refine w_lst ?_ | with_reducible refine w_tup ?_ | ((with_reducible apply e_cap); · exact Nat.le_of_ble_eq_true rfl) | ((with_reducible apply e_set); · (simp only [List.set_cons_zero, List.set_cons_succ]; rfl)) | ((with_reducible apply e_setL); (· rfl); (· (simp only [List.set_cons_zero, List.set_cons_succ]; rfl))) | ((with_reducible apply e_par); (· rfl); (· (simp only [List.set_cons_zero, List.set_cons_succ]; rfl))) | ((with_reducible apply e_par3); (· rfl); (· (simp only [List.set_cons_zero, List.set_cons_succ]; rfl))) | ((with_reducible apply e_pt); (· rfl); (· (simp only [List.set_cons_zero, List.set_cons_succ]; rfl))) | ((with_reducible apply e_pT); · (simp only [pTs, pN, List.length_cons, List.length_nil, List.set_cons_zero, List.set_cons_succ, Nat.reduceAdd, Nat.reduceLT, ite_true, Option.some.injEq]; rfl))))
      refine x_addT (Nat.le_of_ble_eq_true rfl) ?_
      (repeat' (first | ((with_reducible refine c_decT ?_ ?_); · first | decide | rfl) | ((with_reducible refine c_decF ?_ ?_); · decide) | with_reducible refine w_seq ?_ | ((with_reducible apply w_var); · rfl) | with_reducible refine w_setN ?_ | with_reducible refine w_snew ?_ | with_reducible refine w_C ?_ | with_reducible refine w_bin ?_ | with_reducible refine w_un ?_ | with_reducible refine w_isi ?_ | with_reducible refine w_isi2 ?_ | with_reducible refine w_chain ?_ | with_reducible refine w_if ?_ | with_reducible refine w_nil ?_ | with_reducible refine w_cons ?_ | with_reducible refine w_F ?_ | with_reducible refine w_Fb ?_ | with_reducible refine w_FN ?_ | with_reducible refine w_noPart ?_ | with_reducible refine w_slice ?_ | with_reducible refine w_val ?_ | with_reducible refine w_tAnd ?_ | with_reducible refine w_tOr ?_ | with_reducible refine w_tNot ?_ | with_reducible refine w_tYes ?_ | with_reducible refine w_and ?_ | with_reducible refine w_or ?_ | with_reducible refine w_not ?_ | with_reducible refine w_iRng ?_ | with_reducible refine w_iRngD ?_ | with_reducible refine w_iZip ?_ | with_reducible refine w_fr ?_ | with_reducible refine w_tupL ?_ | with_reducible refine w_im ?_ | with_reducible refine w_ow ?_ | with_reducible refine w_set ?_ | with_reducible refine w_par ?_ | with_reducible refine w_expr ?_ | with_reducible refine w_ret ?_ | with_reducible refine w_retN ?_ | with_reducible refine w_pass ?_ | with_reducible refine w_break ?_ | with_reducible refine w_cont ?_ | with_reducible refine w_seq ?_ | with_reducible refine w_sif ?_ | with_reducible refine x_add ?_ | with_reducible refine x_addI ?_ | with_reducible refine x_sub ?_ | with_reducible refine x_neg ?_ | with_reducible refine x_lt ?_ | with_reducible refine x_le ?_ | with_reducible refine x_gt ?_ | with_reducible refine x_ge ?_ | with_reducible refine x_eqS ?_ | with_reducible refine x_eq ?_ | with_reducible refine x_ne ?_ | with_reducible refine x_isN ?_ | with_reducible refine x_notN ?_ | with_reducible refine x_isB ?_ | with_reducible refine x_notB ?_ | with_reducible refine x_lenL ?_ | with_reducible refine x_lenT ?_ | with_reducible refine x_max2 ?_ | with_reducible refine x_min2 ?_ | with_reducible refine x_abs ?_ | with_reducible refine x_tupleL ?_ | with_reducible refine x_tupleT ?_ | with_reducible refine x_partL ?_ | with_reducible refine x_partT ?_ | with_reducible refine x_listL ?_ | with_reducible refine x_listT ?_ | with_reducible refine x_iii ?_ | with_reducible refine x_ibi ?_ | with_reducible refine x_iss ?_ | with_reducible refine x_itt ?_ | with_reducible refine x_ill ?_ | with_reducible refine c_true ?_ | with_reducible refine c_false ?_ | with_reducible refine c_nt ?_ | with_reducible refine c_nf ?_ | with_reducible refine c_not ?_ | ((with_reducible apply w_FI); · rfl) | ((with_reducible apply w_oIx); · rfl) | ((with_reducible apply w_oLen); · rfl) | ((with_reducible apply w_oBin); · rfl) | ((with_reducible apply w_consO); · rfl) | ((with_reducible apply w_aug); · rfl) | ((with_reducible apply w_app); · rfl) | ((with_reducible apply w_oset); · rfl) | ((with_reducible apply w_ext); · rfl) | ((with_reducible apply w_retO); · rfl) | ((with_reducible apply w_frz); · rfl) | ((with_reducible apply e_ow); · rfl) | with_reducible refine e_bl ?_ | with_reducible refine e_int ?_ | with_reducible refine e_lst ?_ | with_reducible refine e_tup ?_ | with_reducible refine e_seqL ?_ | with_reducible refine e_seqT ?_ | with_reducible refine e_zipL ?_ | with_reducible refine e_zipT ?_ | with_reducible refine w_partI ?_ | with_reducible refine w_iSeq ?_ | with_reducible refine w_iEnum ?_ | with_reducible refine w_new ?_ | with_reducible refine w_rev ?_ | with_reducible refine w_revT ?_ | with_reducible refine w_slice ?_ | with_reducible refine y_le ?_ | with_reducible refine y_lt ?_ | with_reducible refine y_ge ?_ | with_reducible refine y_gt ?_ | ((with_reducible apply x_ixT); · rfl) | ((with_reducible apply x_ixL); · rfl) | ((with_reducible apply e_at); · rfl) | ((with_reducible apply x_mul); · rfl) | ((with_reducible apply e_ix); · rfl) | ((with_reducible apply x_div); · decide) | ((with_reducible apply x_mod); · decide) | with_reducible refine w_lst ?_ | with_reducible refine w_tup ?_ | ((with_reducible apply e_cap); · exact Nat.le_of_ble_eq_true rfl) | ((with_reducible apply e_set); · (simp only [List.set_cons_zero, List.set_cons_succ]; rfl)) | ((with_reducible apply e_setL); (· rfl); (· (simp only [List.set_cons_zero, List.set_cons_succ]; rfl))) | ((with_reducible apply e_par); (· rfl); (· (simp only [List.set_cons_zero, List.set_cons_succ]; rfl))) | ((with_reducible apply e_par3); (· rfl); (· (simp only [List.set_cons_zero, List.set_cons_succ]; rfl))) | ((with_reducible apply e_pt); (· rfl); (· (simp only [List.set_cons_zero, List.set_cons_succ]; rfl))) | ((with_reducible apply e_pT); · (simp only [pTs, pN, List.length_cons, List.length_nil, List.set_cons_zero, List.set_cons_succ, Nat.reduceAdd, Nat.reduceLT, ite_true, Option.some.injEq]; rfl))))
      refine ⟨by simp only [List.length_map, cap]; omega, ?_⟩
      (repeat' (first | ((with_reducible refine c_decT ?_ ?_); · first | decide | rfl) | ((with_reducible refine c_decF ?_ ?_); · decide) | with_reducible refine w_seq ?_ | ((with_reducible apply w_var); · rfl) | with_reducible refine w_setN ?_ | with_reducible refine w_snew ?_ | with_reducible refine w_C ?_ | with_reducible refine w_bin ?_ | with_reducible refine w_un ?_ | with_reducible refine w_isi ?_ | with_reducible refine w_isi2 ?_ | with_reducible refine w_chain ?_ | with_reducible refine w_if ?_ | with_reducible refine w_nil ?_ | with_reducible refine w_cons ?_ | with_reducible refine w_F ?_ | with_reducible refine w_Fb ?_ | with_reducible refine w_FN ?_ | with_reducible refine w_noPart ?_ | with_reducible refine w_slice ?_ | with_reducible refine w_val ?_ | with_reducible refine w_tAnd ?_ | with_reducible refine w_tOr ?_ | with_reducible refine w_tNot ?_ | with_reducible refine w_tYes ?_ | with_reducible refine w_and ?_ | with_reducible refine w_or ?_ | with_reducible refine w_not ?_ | with_reducible refine w_iRng ?_ | with_reducible refine w_iRngD ?_ | with_reducible refine w_iZip ?_ | with_reducible refine w_fr ?_ | with_reducible refine w_tupL ?_ | with_reducible refine w_im ?_ | with_reducible refine w_ow ?_ | with_reducible refine w_set ?_ | with_reducible refine w_par ?_ | with_reducible refine w_expr ?_ | with_reducible refine w_ret ?_ | with_reducible refine w_retN ?_ | with_reducible refine w_pass ?_ | with_reducible refine w_break ?_ | with_reducible refine w_cont ?_ | with_reducible refine w_seq ?_ | with_reducible refine w_sif ?_ | with_reducible refine x_add ?_ | with_reducible refine x_addI ?_ | with_reducible refine x_sub ?_ | with_reducible refine x_neg ?_ | with_reducible refine x_lt ?_ | with_reducible refine x_le ?_ | with_reducible refine x_gt ?_ | with_reducible refine x_ge ?_ | with_reducible refine x_eqS ?_ | with_reducible refine x_eq ?_ | with_reducible refine x_ne ?_ | with_reducible refine x_isN ?_ | with_reducible refine x_notN ?_ | with_reducible refine x_isB ?_ | with_reducible refine x_notB ?_ | with_reducible refine x_lenL ?_ | with_reducible refine x_lenT ?_ | with_reducible refine x_max2 ?_ | with_reducible refine x_min2 ?_ | with_reducible refine x_abs ?_ | with_reducible refine x_tupleL ?_ | with_reducible refine x_tupleT ?_ | with_reducible refine x_partL ?_ | with_reducible refine x_partT ?_ | with_reducible refine x_listL ?_ | with_reducible refine x_listT ?_ | with_reducible refine x_iii ?_ | with_reducible refine x_ibi ?_ | with_reducible refine x_iss ?_ | with_reducible refine x_itt ?_ | with_reducible refine x_ill ?_ | with_reducible refine c_true ?_ | with_reducible refine c_false ?_ | with_reducible refine c_nt ?_ | with_reducible refine c_nf ?_ | with_reducible refine c_not ?_ | ((with_reducible apply w_FI); · rfl) | ((with_reducible apply w_oIx); · rfl) | ((with_reducible apply w_oLen); · rfl) | ((with_reducible apply w_oBin); · rfl) | ((with_reducible apply w_consO); · rfl) | ((with_reducible apply w_aug); · rfl) | ((with_reducible apply w_app); · rfl) | ((with_reducible apply w_oset); · rfl) | ((with_reducible apply w_ext); · rfl) | ((with_reducible apply w_retO); · rfl) | ((with_reducible apply w_frz); · rfl) | ((with_reducible apply e_ow); · rfl) | with_reducible refine e_bl ?_ | with_reducible refine e_int ?_ | with_reducible refine e_lst ?_ | with_reducible refine e_tup ?_ | with_reducible refine e_seqL ?_ | with_reducible refine e_seqT ?_ | with_reducible refine e_zipL ?_ | with_reducible refine e_zipT ?_ | with_reducible refine w_partI ?_ | with_reducible refine w_iSeq ?_ | with_reducible refine w_iEnum ?_ | with_reducible refine w_new ?_ | with_reducible refine w_rev ?_ | with_reducible refine w_revT ?_ | with_reducible refine w_slice ?_ | with_reducible refine y_le ?_ | with_reducible refine y_lt ?_ | with_reducible refine y_ge ?_ | with_reducible refine y_gt ?_ | ((with_reducible apply x_ixT); · rfl) | ((with_reducible apply x_ixL); · rfl) | ((with_reducible apply e_at); · rfl) | ((with_reducible apply x_mul); · rfl) | ((with_reducible apply e_ix); · rfl) | ((with_reducible apply x_div); · decide) | ((with_reducible apply x_mod); · decide) | with_reducible refine w_lst ?_ | with_reducible refine w_tup ?_ | ((with_reducible apply e_cap); · exact Nat.le_of_ble_eq_true rfl) | ((with_reducible apply e_set); · (simp only [List.set_cons_zero, List.set_cons_succ]; rfl)) | ((with_reducible apply e_setL); (· rfl); (· (simp only [List.set_cons_zero, List.set_cons_succ]; rfl))) | ((with_reducible apply e_par); (· rfl); (· (simp only [List.set_cons_zero, List.set_cons_succ]; rfl))) | ((with_reducible apply e_par3); (· rfl); (· (simp only [List.set_cons_zero, List.set_cons_succ]; rfl))) | ((with_reducible apply e_pt); (· rfl); (· (simp only [List.set_cons_zero, List.set_cons_succ]; rfl))) | ((with_reducible apply e_pT); · (simp only [pTs, pN, List.length_cons, List.length_nil, List.set_cons_zero, List.set_cons_succ, Nat.reduceAdd, Nat.reduceLT, ite_true, Option.some.injEq]; rfl))))
      have ez : List.map (rowT cs) p ++ [D.tup ([.int (upS cs l), .int (upS cs l + l - fin cs l)] ++ [.int (fin cs l)])] = List.map (rowT cs) (p ++ [l]) := by simp [rowT, up_dn]
      rw [ez]
      exact ⟨p ++ [l], r2, _, _, _, _, _, _, _, rfl, by rw [← hp]; simp, rfl⟩
    · rintro e ⟨p, ms, x6, x7, x8, x9, x10, x11, x12, h0, hp, rfl⟩
      cases ms with
      | cons a l => simp [iL] at h0
      | nil =>
        rw [List.append_nil] at hp
        subst hp
        (repeat' (first | ((with_reducible refine c_decT ?_ ?_); · first | decide | rfl) | ((with_reducible refine c_decF ?_ ?_); · decide) | with_reducible refine w_seq ?_ | ((with_reducible apply w_var); · rfl) | with_reducible refine w_setN ?_ | with_reducible refine w_snew ?_ | with_reducible refine w_C ?_ | with_reducible refine w_bin ?_ | with_reducible refine w_un ?_ | with_reducible refine w_isi ?_ | with_reducible refine w_isi2 ?_ | with_reducible refine w_chain ?_ | with_reducible refine w_if ?_ | with_reducible refine w_nil ?_ | with_reducible refine w_cons ?_ | with_reducible refine w_F ?_ | with_reducible refine w_Fb ?_ | with_reducible refine w_FN ?_ | with_reducible refine w_noPart ?_ | with_reducible refine w_slice ?_ | with_reducible refine w_val ?_ | with_reducible refine w_tAnd ?_ | with_reducible refine w_tOr ?_ | with_reducible refine w_tNot ?_ | with_reducible refine w_tYes ?_ | with_reducible refine w_and ?_ | with_reducible refine w_or ?_ | with_reducible refine w_not ?_ | with_reducible refine w_iRng ?_ | with_reducible refine w_iRngD ?_ | with_reducible refine w_iZip ?_ | with_reducible refine w_fr ?_ | with_reducible refine w_tupL ?_ | with_reducible refine w_im ?_ | with_reducible refine w_ow ?_ | with_reducible refine w_set ?_ | with_reducible refine w_par ?_ | with_reducible refine w_expr ?_ | with_reducible refine w_ret ?_ | with_reducible refine w_retN ?_ | with_reducible refine w_pass ?_ | with_reducible refine w_break ?_ | with_reducible refine w_cont ?_ | with_reducible refine w_seq ?_ | with_reducible refine w_sif ?_ | with_reducible refine x_add ?_ | with_reducible refine x_addI ?_ | with_reducible refine x_sub ?_ | with_reducible refine x_neg ?_ | with_reducible refine x_lt ?_ | with_reducible refine x_le ?_ | with_reducible refine x_gt ?_ | with_reducible refine x_ge ?_ | with_reducible refine x_eqS ?_ | with_reducible refine x_eq ?_ | with_reducible refine x_ne ?_ | with_reducible refine x_isN ?_ | with_reducible refine x_notN ?_ | with_reducible refine x_isB ?_ | with_reducible refine x_notB ?_ | with_reducible refine x_lenL ?_ | with_reducible refine x_lenT ?_ | with_reducible refine x_max2 ?_ | with_reducible refine x_min2 ?_ | with_reducible refine x_abs ?_ | with_reducible refine x_tupleL ?_ | with_reducible refine x_tupleT ?_ | with_reducible refine x_partL ?_ | with_reducible refine x_partT ?_ | with_reducible refine x_listL ?_ | with_reducible refine x_listT ?_ | with_reducible refine x_iii ?_ | with_reducible refine x_ibi ?_ | with_reducible refine x_iss ?_ | with_reducible refine x_itt ?_ | with_reducible refine x_ill ?_ | with_reducible refine c_true ?_ | with_reducible refine c_false ?_ | with_reducible refine c_nt ?_ | with_reducible refine c_nf ?_ | with_reducible refine c_not ?_ | ((with_reducible apply w_FI); · rfl) | ((with_reducible apply w_oIx); · rfl) | ((with_reducible apply w_oLen); · rfl) | ((with_reducible apply w_oBin); · rfl) | ((with_reducible apply w_consO); · rfl) | ((with_reducible apply w_aug); · rfl) | ((with_reducible apply w_app); · rfl) | ((with_reducible apply w_oset); · rfl) | ((with_reducible apply w_ext); · rfl) | ((with_reducible apply w_retO); · rfl) | ((with_reducible apply w_frz); · rfl) | ((with_reducible apply e_ow); · rfl) | with_reducible refine e_bl ?_ | with_reducible refine e_int ?_ | with_reducible refine e_lst ?_ | with_reducible refine e_tup ?_ | with_reducible refine e_seqL ?_ | with_reducible refine e_seqT ?_ | with_reducible refine e_zipL ?_ | with_reducible refine e_zipT ?_ | with_reducible refine w_partI ?_ | with_reducible refine w_iSeq ?_ | with_reducible refine w_iEnum ?_ | with_reducible refine w_new ?_ | with_reducible refine w_rev ?_ | with_reducible refine w_revT ?_ | with_reducible refine w_slice ?_ | with_reducible refine y_le ?_ | with_reducible refine y_lt ?_ | with_reducible refine y_ge ?_ | with_reducible refine y_gt ?_ | ((with_reducible apply x_ixT); · rfl) | ((with_reducible apply x_ixL); · rfl) | ((with_reducible apply e_at); · rfl) | ((with_reducible apply x_mul); · rfl) | ((with_reducible apply e_ix); · rfl) | ((with_reducible apply x_div); · decide) | ((with_reducible apply x_mod); · decide) | with_reducible refine w_lst ?_ | with_reducible refine w_tup ?_ | ((with_reducible apply e_cap); · exact Nat.le_of_ble_eq_true rfl) | ((with_reducible apply e_set); · (simp only [List.set_cons_zero, List.set_cons_succ]; rfl)) | ((with_reducible apply e_setL); (· rfl); (· (simp only [List.set_cons_zero, List.set_cons_succ]; rfl))) | ((with_reducible apply e_par); (· rfl); (· (simp only [List.set_cons_zero, List.set_cons_succ]; rfl))) | ((with_reducible apply e_par3); (· rfl); (· (simp only [List.set_cons_zero, List.set_cons_succ]; rfl))) | ((with_reducible apply e_pt); (· rfl); (· (simp only [List.set_cons_zero, List.set_cons_succ]; rfl))) | ((with_reducible apply e_pT); · (simp only [pTs, pN, List.length_cons, List.length_nil, List.set_cons_zero, List.set_cons_succ, Nat.reduceAdd, Nat.reduceLT, ite_true, Option.some.injEq]; rfl))))
        refine w_forI (fun ds e => ∃ (ms : List Int) (x6 x7 x8 x9 x10 x11 x12 : Sl), ds = ms.map (fun l => .tup [rowT cs l, rowT cs (l + 1)]) ∧ e = [.im (.lst (iL ns)), .im (.int i), .ow s4, .im (.int (1 + k)), .im (schD cs), .im (.lst ((upto (1 + k + 1).toNat).map (rowT cs))), x6, x7, x8, x9, x10, x11, x12]) ?_ ?_ ?_
        · (repeat' (first | ((with_reducible refine c_decT ?_ ?_); · first | decide | rfl) | ((with_reducible refine c_decF ?_ ?_); · decide) | with_reducible refine w_seq ?_ | ((with_reducible apply w_var); · rfl) | with_reducible refine w_setN ?_ | with_reducible refine w_snew ?_ | with_reducible refine w_C ?_ | with_reducible refine w_bin ?_ | with_reducible refine w_un ?_ | with_reducible refine w_isi ?_ | with_reducible refine w_isi2 ?_ | with_reducible refine w_chain ?_ | with_reducible refine w_if ?_ | with_reducible refine w_nil ?_ | with_reducible refine w_cons ?_ | with_reducible refine w_F ?_ | with_reducible refine w_Fb ?_ | with_reducible refine w_FN ?_ | with_reducible refine w_noPart ?_ | with_reducible refine w_slice ?_ | with_reducible refine w_val ?_ | with_reducible refine w_tAnd ?_ | with_reducible refine w_tOr ?_ | with_reducible refine w_tNot ?_ | with_reducible refine w_tYes ?_ | with_reducible refine w_and ?_ | with_reducible refine w_or ?_ | with_reducible refine w_not ?_ | with_reducible refine w_iRng ?_ | with_reducible refine w_iRngD ?_ | with_reducible refine w_iZip ?_ | with_reducible refine w_fr ?_ | with_reducible refine w_tupL ?_ | with_reducible refine w_im ?_ | with_reducible refine w_ow ?_ | with_reducible refine w_set ?_ | with_reducible refine w_par ?_ | with_reducible refine w_expr ?_ | with_reducible refine w_ret ?_ | with_reducible refine w_retN ?_ | with_reducible refine w_pass ?_ | with_reducible refine w_break ?_ | with_reducible refine w_cont ?_ | with_reducible refine w_seq ?_ | with_reducible refine w_sif ?_ | with_reducible refine x_add ?_ | with_reducible refine x_addI ?_ | with_reducible refine x_sub ?_ | with_reducible refine x_neg ?_ | with_reducible refine x_lt ?_ | with_reducible refine x_le ?_ | with_reducible refine x_gt ?_ | with_reducible refine x_ge ?_ | with_reducible refine x_eqS ?_ | with_reducible refine x_eq ?_ | with_reducible refine x_ne ?_ | with_reducible refine x_isN ?_ | with_reducible refine x_notN ?_ | with_reducible refine x_isB ?_ | with_reducible refine x_notB ?_ | with_reducible refine x_lenL ?_ | with_reducible refine x_lenT ?_ | with_reducible refine x_max2 ?_ | with_reducible refine x_min2 ?_ | with_reducible refine x_abs ?_ | with_reducible refine x_tupleL ?_ | with_reducible refine x_tupleT ?_ | with_reducible refine x_partL ?_ | with_reducible refine x_partT ?_ | with_reducible refine x_listL ?_ | with_reducible refine x_listT ?_ | with_reducible refine x_iii ?_ | with_reducible refine x_ibi ?_ | with_reducible refine x_iss ?_ | with_reducible refine x_itt ?_ | with_reducible refine x_ill ?_ | with_reducible refine c_true ?_ | with_reducible refine c_false ?_ | with_reducible refine c_nt ?_ | with_reducible refine c_nf ?_ | with_reducible refine c_not ?_ | ((with_reducible apply w_FI); · rfl) | ((with_reducible apply w_oIx); · rfl) | ((with_reducible apply w_oLen); · rfl) | ((with_reducible apply w_oBin); · rfl) | ((with_reducible apply w_consO); · rfl) | ((with_reducible apply w_aug); · rfl) | ((with_reducible apply w_app); · rfl) | ((with_reducible apply w_oset); · rfl) | ((with_reducible apply w_ext); · rfl) | ((with_reducible apply w_retO); · rfl) | ((with_reducible apply w_frz); · rfl) | ((with_reducible apply e_ow); · rfl) | with_reducible refine e_bl ?_ | with_reducible refine e_int ?_ | with_reducible refine e_lst ?_ | with_reducible refine e_tup ?_ | with_reducible refine e_seqL ?_ | with_reducible refine e_seqT ?_ | with_reducible refine e_zipL ?_ | with_reducible refine e_zipT ?_ | with_reducible refine w_partI ?_ | with_reducible refine w_iSeq ?_ | with_reducible refine w_iEnum ?_ | with_reducible refine w_new ?_ | with_reducible refine w_rev ?_ | with_reducible refine w_revT ?_ | with_reducible refine w_slice ?_ | with_reducible refine y_le ?_ | with_reducible refine y_lt ?_ | with_reducible refine y_ge ?_ | with_reducible refine y_gt ?_ | ((with_reducible apply x_ixT); · rfl) | ((with_reducible apply x_ixL); · rfl) | ((with_reducible apply e_at); · rfl) | ((with_reducible apply x_mul); · rfl) | ((with_reducible apply e_ix); · rfl) | ((with_reducible apply x_div); · decide) | ((with_reducible apply x_mod); · decide) | with_reducible refine w_lst ?_ | with_reducible refine w_tup ?_ | ((with_reducible apply e_cap); · exact Nat.le_of_ble_eq_true rfl) | ((with_reducible apply e_set); · (simp only [List.set_cons_zero, List.set_cons_succ]; rfl)) | ((with_reducible apply e_setL); (· rfl); (· (simp only [List.set_cons_zero, List.set_cons_succ]; rfl))) | ((with_reducible apply e_par); (· rfl); (· (simp only [List.set_cons_zero, List.set_cons_succ]; rfl))) | ((with_reducible apply e_par3); (· rfl); (· (simp only [List.set_cons_zero, List.set_cons_succ]; rfl))) | ((with_reducible apply e_pt); (· rfl); (· (simp only [List.set_cons_zero, List.set_cons_succ]; rfl))) | ((with_reducible apply e_pT); · (simp only [pTs, pN, List.length_cons, List.length_nil, List.set_cons_zero, List.set_cons_succ, Nat.reduceAdd, Nat.reduceLT, ite_true, Option.some.injEq]; rfl))))
          rw [cut_one, zip_rows]
          exact ⟨_, _, _, _, _, _, _, _, rfl, rfl⟩
        · rintro d ds e ⟨ms, x6, x7, x8, x9, x10, x11, x12, h0, rfl⟩
          cases ms with
          | nil => cases h0
          | cons l ms =>
            simp only [List.map, List.cons.injEq] at h0
            obtain ⟨rfl, rfl⟩ := h0
            unfold rowT
            (repeat' (first | ((with_reducible refine c_decT ?_ ?_); · first | decide | rfl) | ((with_reducible refine c_decF ?_ ?_); · decide) | with_reducible refine w_seq ?_ | ((with_reducible apply w_var); · rfl) | with_reducible refine w_setN ?_ | with_reducible refine w_snew ?_ | with_reducible refine w_C ?_ | with_reducible refine w_bin ?_ | with_reducible refine w_un ?_ | with_reducible refine w_isi ?_ | with_reducible refine w_isi2 ?_ | with_reducible refine w_chain ?_ | with_reducible refine w_if ?_ | with_reducible refine w_nil ?_ | with_reducible refine w_cons ?_ | with_reducible refine w_F ?_ | with_reducible refine w_Fb ?_ | with_reducible refine w_FN ?_ | with_reducible refine w_noPart ?_ | with_reducible refine w_slice ?_ | with_reducible refine w_val ?_ | with_reducible refine w_tAnd ?_ | with_reducible refine w_tOr ?_ | with_reducible refine w_tNot ?_ | with_reducible refine w_tYes ?_ | with_reducible refine w_and ?_ | with_reducible refine w_or ?_ | with_reducible refine w_not ?_ | with_reducible refine w_iRng ?_ | with_reducible refine w_iRngD ?_ | with_reducible refine w_iZip ?_ | with_reducible refine w_fr ?_ | with_reducible refine w_tupL ?_ | with_reducible refine w_im ?_ | with_reducible refine w_ow ?_ | with_reducible refine w_set ?_ | with_reducible refine w_par ?_ | with_reducible refine w_expr ?_ | with_reducible refine w_ret ?_ | with_reducible refine w_retN ?_ | with_reducible refine w_pass ?_ | with_reducible refine w_break ?_ | with_reducible refine w_cont ?_ | with_reducible refine w_seq ?_ | with_reducible refine w_sif ?_ | with_reducible refine x_add ?_ | with_reducible refine x_addI ?_ | with_reducible refine x_sub ?_ | with_reducible refine x_neg ?_ | with_reducible refine x_lt ?_ | with_reducible refine x_le ?_ | with_reducible refine x_gt ?_ | with_reducible refine x_ge ?_ | with_reducible refine x_eqS ?_ | with_reducible refine x_eq ?_ | with_reducible refine x_ne ?_ | with_reducible refine x_isN ?_ | with_reducible refine x_notN ?_ | with_reducible refine x_isB ?_ | with_reducible refine x_notB ?_ | with_reducible refine x_lenL ?_ | with_reducible refine x_lenT ?_ | with_reducible refine x_max2 ?_ | with_reducible refine x_min2 ?_ | with_reducible refine x_abs ?_ | with_reducible refine x_tupleL ?_ | with_reducible refine x_tupleT ?_ | with_reducible refine x_partL ?_ | with_reducible refine x_partT ?_ | with_reducible refine x_listL ?_ | with_reducible refine x_listT ?_ | with_reducible refine x_iii ?_ | with_reducible refine x_ibi ?_ | with_reducible refine x_iss ?_ | with_reducible refine x_itt ?_ | with_reducible refine x_ill ?_ | with_reducible refine c_true ?_ | with_reducible refine c_false ?_ | with_reducible refine c_nt ?_ | with_reducible refine c_nf ?_ | with_reducible refine c_not ?_ | ((with_reducible apply w_FI); · rfl) | ((with_reducible apply w_oIx); · rfl) | ((with_reducible apply w_oLen); · rfl) | ((with_reducible apply w_oBin); · rfl) | ((with_reducible apply w_consO); · rfl) | ((with_reducible apply w_aug); · rfl) | ((with_reducible apply w_app); · rfl) | ((with_reducible apply w_oset); · rfl) | ((with_reducible apply w_ext); · rfl) | ((with_reducible apply w_retO); · rfl) | ((with_reducible apply w_frz); · rfl) | ((with_reducible apply e_ow); · rfl) | with_reducible refine e_bl ?_ | with_reducible refine e_int ?_ | with_reducible refine e_lst ?_ | with_reducible refine e_tup ?_ | with_reducible refine e_seqL ?_ | with_reducible refine e_seqT ?_ | with_reducible refine e_zipL ?_ | with_reducible refine e_zipT ?_ | with_reducible refine w_partI ?_ | with_reducible refine w_iSeq ?_ | with_reducible refine w_iEnum ?_ | with_reducible refine w_new ?_ | with_reducible refine w_rev ?_ | with_reducible refine w_revT ?_ | with_reducible refine w_slice ?_ | with_reducible refine y_le ?_ | with_reducible refine y_lt ?_ | with_reducible refine y_ge ?_ | with_reducible refine y_gt ?_ | ((with_reducible apply x_ixT); · rfl) | ((with_reducible apply x_ixL); · rfl) | ((with_reducible apply e_at); · rfl) | ((with_reducible apply x_mul); · rfl) | ((with_reducible apply e_ix); · rfl) | ((with_reducible apply x_div); · decide) | ((with_reducible apply x_mod); · decide) | with_reducible refine w_lst ?_ | with_reducible refine w_tup ?_ | ((with_reducible apply e_cap); · exact Nat.le_of_ble_eq_true rfl) | ((with_reducible apply e_set); · (simp only [List.set_cons_zero, List.set_cons_succ]; rfl)) | ((with_reducible apply e_setL); (· rfl); (· (simp only [List.set_cons_zero, List.set_cons_succ]; rfl))) | ((with_reducible apply e_par); (· rfl); (· (simp only [List.set_cons_zero, List.set_cons_succ]; rfl))) | ((with_reducible apply e_par3); (· rfl); (· (simp only [List.set_cons_zero, List.set_cons_succ]; rfl))) | ((with_reducible apply e_pt); (· rfl); (· (simp only [List.set_cons_zero, List.set_cons_succ]; rfl))) | ((with_reducible apply e_pT); · (simp only [pTs, pN, List.length_cons, List.length_nil, List.set_cons_zero, List.set_cons_succ, Nat.reduceAdd, Nat.reduceLT, ite_true, Option.some.injEq]; rfl))))
            refine ⟨_, nin_tot (by have := tot_one (s := cs) (l := l) (fun c hc => by have := (hcs2 c hc).1; omega); omega), ?_⟩
            (repeat' (first | ((with_reducible refine c_decT ?_ ?_); · first | decide | rfl) | ((with_reducible refine c_decF ?_ ?_); · decide) | with_reducible refine w_seq ?_ | ((with_reducible apply w_var); · rfl) | with_reducible refine w_setN ?_ | with_reducible refine w_snew ?_ | with_reducible refine w_C ?_ | with_reducible refine w_bin ?_ | with_reducible refine w_un ?_ | with_reducible refine w_isi ?_ | with_reducible refine w_isi2 ?_ | with_reducible refine w_chain ?_ | with_reducible refine w_if ?_ | with_reducible refine w_nil ?_ | with_reducible refine w_cons ?_ | with_reducible refine w_F ?_ | with_reducible refine w_Fb ?_ | with_reducible refine w_FN ?_ | with_reducible refine w_noPart ?_ | with_reducible refine w_slice ?_ | with_reducible refine w_val ?_ | with_reducible refine w_tAnd ?_ | with_reducible refine w_tOr ?_ | with_reducible refine w_tNot ?_ | with_reducible refine w_tYes ?_ | with_reducible refine w_and ?_ | with_reducible refine w_or ?_ | with_reducible refine w_not ?_ | with_reducible refine w_iRng ?_ | with_reducible refine w_iRngD ?_ | with_reducible refine w_iZip ?_ | with_reducible refine w_fr ?_ | with_reducible refine w_tupL ?_ | with_reducible refine w_im ?_ | with_reducible refine w_ow ?_ | with_reducible refine w_set ?_ | with_reducible refine w_par ?_ | with_reducible refine w_expr ?_ | with_reducible refine w_ret ?_ | with_reducible refine w_retN ?_ | with_reducible refine w_pass ?_ | with_reducible refine w_break ?_ | with_reducible refine w_cont ?_ | with_reducible refine w_seq ?_ | with_reducible refine w_sif ?_ | with_reducible refine x_add ?_ | with_reducible refine x_addI ?_ | with_reducible refine x_sub ?_ | with_reducible refine x_neg ?_ | with_reducible refine x_lt ?_ | with_reducible refine x_le ?_ | with_reducible refine x_gt ?_ | with_reducible refine x_ge ?_ | with_reducible refine x_eqS ?_ | with_reducible refine x_eq ?_ | with_reducible refine x_ne ?_ | with_reducible refine x_isN ?_ | with_reducible refine x_notN ?_ | with_reducible refine x_isB ?_ | with_reducible refine x_notB ?_ | with_reducible refine x_lenL ?_ | with_reducible refine x_lenT ?_ | with_reducible refine x_max2 ?_ | with_reducible refine x_min2 ?_ | with_reducible refine x_abs ?_ | with_reducible refine x_tupleL ?_ | with_reducible refine x_tupleT ?_ | with_reducible refine x_partL ?_ | with_reducible refine x_partT ?_ | with_reducible refine x_listL ?_ | with_reducible refine x_listT ?_ | with_reducible refine x_iii ?_ | with_reducible refine x_ibi ?_ | with_reducible refine x_iss ?_ | with_reducible refine x_itt ?_ | with_reducible refine x_ill ?_ | with_reducible refine c_true ?_ | with_reducible refine c_false ?_ | with_reducible refine c_nt ?_ | with_reducible refine c_nf ?_ | with_reducible refine c_not ?_ | ((with_reducible apply w_FI); · rfl) | ((with_reducible apply w_oIx); · rfl) | ((with_reducible apply w_oLen); · rfl) | ((with_reducible apply w_oBin); · rfl) | ((with_reducible apply w_consO); · rfl) | ((with_reducible apply w_aug); · rfl) | ((with_reducible apply w_app); · rfl) | ((with_reducible apply w_oset); · rfl) | ((with_reducible apply w_ext); · rfl) | ((with_reducible apply w_retO); · rfl) | ((with_reducible apply w_frz); · rfl) | ((with_reducible apply e_ow); · rfl) | with_reducible refine e_bl ?_ | with_reducible refine e_int ?_ | with_reducible refine e_lst ?_ | with_reducible refine e_tup ?_ | with_reducible refine e_seqL ?_ | with_reducible refine e_seqT ?_ | with_reducible refine e_zipL ?_ | with_reducible refine e_zipT ?_ | with_reducible refine w_partI ?_ | with_reducible refine w_iSeq ?_ | with_reducible refine w_iEnum ?_ | with_reducible refine w_new ?_ | with_reducible refine w_rev ?_ | with_reducible refine w_revT ?_ | with_reducible refine w_slice ?_ | with_reducible refine y_le ?_ | with_reducible refine y_lt ?_ | with_reducible refine y_ge ?_ | with_reducible refine y_gt ?_ | ((with_reducible apply x_ixT); · rfl) | ((with_reducible apply x_ixL); · rfl) | ((with_reducible apply e_at); · rfl) | ((with_reducible apply x_mul); · rfl) | ((with_reducible apply e_ix); · rfl) | ((with_reducible apply x_div); · decide) | ((with_reducible apply x_mod); · decide) | with_reducible refine w_lst ?_ | with_reducible refine w_tup ?_ | ((with_reducible apply e_cap); · exact Nat.le_of_ble_eq_true rfl) | ((with_reducible apply e_set); · (simp only [List.set_cons_zero, List.set_cons_succ]; rfl)) | ((with_reducible apply e_setL); (· rfl); (· (simp only [List.set_cons_zero, List.set_cons_succ]; rfl))) | ((with_reducible apply e_par); (· rfl); (· (simp only [List.set_cons_zero, List.set_cons_succ]; rfl))) | ((with_reducible apply e_par3); (· rfl); (· (simp only [List.set_cons_zero, List.set_cons_succ]; rfl))) | ((with_reducible apply e_pt); (· rfl); (· (simp only [List.set_cons_zero, List.set_cons_succ]; rfl))) | ((with_reducible apply e_pT); · (simp only [pTs, pN, List.length_cons, List.length_nil, List.set_cons_zero, List.set_cons_succ, Nat.reduceAdd, Nat.reduceLT, ite_true, Option.some.injEq]; rfl))))
            exact ⟨ms, _, _, _, _, _, _, _, rfl, rfl⟩
        · rintro e ⟨ms, x6, x7, x8, x9, x10, x11, x12, h0, rfl⟩
          exact ⟨r, _, _, _, _, _, _, _, _, _, _, _, _, rfl, rfl⟩
  · rintro e ⟨ms, x1, x2, x3, x4, x5, x6, x7, x8, x9, x10, x11, x12, h0, rfl⟩
    (repeat' (first | ((with_reducible refine c_decT ?_ ?_); · first | decide | rfl) | ((with_reducible refine c_decF ?_ ?_); · decide) | with_reducible refine w_seq ?_ | ((with_reducible apply w_var); · rfl) | with_reducible refine w_setN ?_ | with_reducible refine w_snew ?_ | with_reducible refine w_C ?_ | with_reducible refine w_bin ?_ | with_reducible refine w_un ?_ | with_reducible refine w_isi ?_ | with_reducible refine w_isi2 ?_ | with_reducible refine w_chain ?_ | with_reducible refine w_if ?_ | with_reducible refine w_nil ?_ | with_reducible refine w_cons ?_ | with_reducible refine w_F ?_ | with_reducible refine w_Fb ?_ | with_reducible refine w_FN ?_ | with_reducible refine w_noPart ?_ | with_reducible refine w_slice ?_ | with_reducible refine w_val ?_ | with_reducible refine w_tAnd ?_ | with_reducible refine w_tOr ?_ | with_reducible refine w_tNot ?_ | with_reducible refine w_tYes ?_ | with_reducible refine w_and ?_ | with_reducible refine w_or ?_ | with_reducible refine w_not ?_ | with_reducible refine w_iRng ?_ | with_reducible refine w_iRngD ?_ | with_reducible refine w_iZip ?_ | with_reducible refine w_fr ?_ | with_reducible refine w_tupL ?_ | with_reducible refine w_im ?_ | with_reducible refine w_ow ?_ | with_reducible refine w_set ?_ | with_reducible refine w_par ?_ | with_reducible refine w_expr ?_ | with_reducible refine w_ret ?_ | with_reducible refine w_retN ?_ | with_reducible refine w_pass ?_ | with_reducible refine w_break ?_ | with_reducible refine w_cont ?_ | with_reducible refine w_seq ?_ | with_reducible refine w_sif ?_ | with_reducible refine x_add ?_ | with_reducible refine x_addI ?_ | with_reducible refine x_sub ?_ | with_reducible refine x_neg ?_ | with_reducible refine x_lt ?_ | with_reducible refine x_le ?_ | with_reducible refine x_gt ?_ | with_reducible refine x_ge ?_ | with_reducible refine x_eqS ?_ | with_reducible refine x_eq ?_ | with_reducible refine x_ne ?_ | with_reducible refine x_isN ?_ | with_reducible refine x_notN ?_ | with_reducible refine x_isB ?_ | with_reducible refine x_notB ?_ | with_reducible refine x_lenL ?_ | with_reducible refine x_lenT ?_ | with_reducible refine x_max2 ?_ | with_reducible refine x_min2 ?_ | with_reducible refine x_abs ?_ | with_reducible refine x_tupleL ?_ | with_reducible refine x_tupleT ?_ | with_reducible refine x_partL ?_ | with_reducible refine x_partT ?_ | with_reducible refine x_listL ?_ | with_reducible refine x_listT ?_ | with_reducible refine x_iii ?_ | with_reducible refine x_ibi ?_ | with_reducible refine x_iss ?_ | with_reducible refine x_itt ?_ | with_reducible refine x_ill ?_ | with_reducible refine c_true ?_ | with_reducible refine c_false ?_ | with_reducible refine c_nt ?_ | with_reducible refine c_nf ?_ | with_reducible refine c_not ?_ | ((with_reducible apply w_FI); · rfl) | ((with_reducible apply w_oIx); · rfl) | ((with_reducible apply w_oLen); · rfl) | ((with_reducible apply w_oBin); · rfl) | ((with_reducible apply w_consO); · rfl) | ((with_reducible apply w_aug); · rfl) | ((with_reducible apply w_app); · rfl) | ((with_reducible apply w_oset); · rfl) | ((with_reducible apply w_ext); · rfl) | ((with_reducible apply w_retO); · rfl) | ((with_reducible apply w_frz); · rfl) | ((with_reducible apply e_ow); · rfl) | with_reducible refine e_bl ?_ | with_reducible refine e_int ?_ | with_reducible refine e_lst ?_ | with_reducible refine e_tup ?_ | with_reducible refine e_seqL ?_ | with_reducible refine e_seqT ?_ | with_reducible refine e_zipL ?_ | with_reducible refine e_zipT ?_ | with_reducible refine w_partI ?_ | with_reducible refine w_iSeq ?_ | with_reducible refine w_iEnum ?_ | with_reducible refine w_new ?_ | with_reducible refine w_rev ?_ | with_reducible refine w_revT ?_ | with_reducible refine w_slice ?_ | with_reducible refine y_le ?_ | with_reducible refine y_lt ?_ | with_reducible refine y_ge ?_ | with_reducible refine y_gt ?_ | ((with_reducible apply x_ixT); · rfl) | ((with_reducible apply x_ixL); · rfl) | ((with_reducible apply e_at); · rfl) | ((with_reducible apply x_mul); · rfl) | ((with_reducible apply e_ix); · rfl) | ((with_reducible apply x_div); · decide) | ((with_reducible apply x_mod); · decide) | with_reducible refine w_lst ?_ | with_reducible refine w_tup ?_ | ((with_reducible apply e_cap); · exact Nat.le_of_ble_eq_true rfl) | ((with_reducible apply e_set); · (simp only [List.set_cons_zero, List.set_cons_succ]; rfl)) | ((with_reducible apply e_setL); (· rfl); (· (simp only [List.set_cons_zero, List.set_cons_succ]; rfl))) | ((with_reducible apply e_par); (· rfl); (· (simp only [List.set_cons_zero, List.set_cons_succ]; rfl))) | ((with_reducible apply e_par3); (· rfl); (· (simp only [List.set_cons_zero, List.set_cons_succ]; rfl))) | ((with_reducible apply e_pt); (· rfl); (· (simp only [List.set_cons_zero, List.set_cons_succ]; rfl))) | ((with_reducible apply e_pT); · (simp only [pTs, pN, List.length_cons, List.length_nil, List.set_cons_zero, List.set_cons_succ, Nat.reduceAdd, Nat.reduceLT, ite_true, Option.some.injEq]; rfl))))
    refine ⟨_, totals_eq (cap := 10) (s := [⟨true, 4, 8⟩, ⟨false, 5, 2⟩]) (l := 6) ⟨by decide, by decide⟩ ⟨by decide, ?_⟩ ⟨by decide, by decide⟩, ?_⟩
    · intro c hc
      simp only [List.mem_cons, List.not_mem_nil, or_false] at hc
      rcases hc with rfl | rfl <;> exact ⟨by decide, by decide, by decide, by decide⟩
    (repeat' (first | ((with_reducible refine c_decT ?_ ?_); · first | decide | rfl) | ((with_reducible refine c_decF ?_ ?_); · decide) | with_reducible refine w_seq ?_ | ((with_reducible apply w_var); · rfl) | with_reducible refine w_setN ?_ | with_reducible refine w_snew ?_ | with_reducible refine w_C ?_ | with_reducible refine w_bin ?_ | with_reducible refine w_un ?_ | with_reducible refine w_isi ?_ | with_reducible refine w_isi2 ?_ | with_reducible refine w_chain ?_ | with_reducible refine w_if ?_ | with_reducible refine w_nil ?_ | with_reducible refine w_cons ?_ | with_reducible refine w_F ?_ | with_reducible refine w_Fb ?_ | with_reducible refine w_FN ?_ | with_reducible refine w_noPart ?_ | with_reducible refine w_slice ?_ | with_reducible refine w_val ?_ | with_reducible refine w_tAnd ?_ | with_reducible refine w_tOr ?_ | with_reducible refine w_tNot ?_ | with_reducible refine w_tYes ?_ | with_reducible refine w_and ?_ | with_reducible refine w_or ?_ | with_reducible refine w_not ?_ | with_reducible refine w_iRng ?_ | with_reducible refine w_iRngD ?_ | with_reducible refine w_iZip ?_ | with_reducible refine w_fr ?_ | with_reducible refine w_tupL ?_ | with_reducible refine w_im ?_ | with_reducible refine w_ow ?_ | with_reducible refine w_set ?_ | with_reducible refine w_par ?_ | with_reducible refine w_expr ?_ | with_reducible refine w_ret ?_ | with_reducible refine w_retN ?_ | with_reducible refine w_pass ?_ | with_reducible refine w_break ?_ | with_reducible refine w_cont ?_ | with_reducible refine w_seq ?_ | with_reducible refine w_sif ?_ | with_reducible refine x_add ?_ | with_reducible refine x_addI ?_ | with_reducible refine x_sub ?_ | with_reducible refine x_neg ?_ | with_reducible refine x_lt ?_ | with_reducible refine x_le ?_ | with_reducible refine x_gt ?_ | with_reducible refine x_ge ?_ | with_reducible refine x_eqS ?_ | with_reducible refine x_eq ?_ | with_reducible refine x_ne ?_ | with_reducible refine x_isN ?_ | with_reducible refine x_notN ?_ | with_reducible refine x_isB ?_ | with_reducible refine x_notB ?_ | with_reducible refine x_lenL ?_ | with_reducible refine x_lenT ?_ | with_reducible refine x_max2 ?_ | with_reducible refine x_min2 ?_ | with_reducible refine x_abs ?_ | with_reducible refine x_tupleL ?_ | with_reducible refine x_tupleT ?_ | with_reducible refine x_partL ?_ | with_reducible refine x_partT ?_ | with_reducible refine x_listL ?_ | with_reducible refine x_listT ?_ | with_reducible refine x_iii ?_ | with_reducible refine x_ibi ?_ | with_reducible refine x_iss ?_ | with_reducible refine x_itt ?_ | with_reducible refine x_ill ?_ | with_reducible refine c_true ?_ | with_reducible refine c_false ?_ | with_reducible refine c_nt ?_ | with_reducible refine c_nf ?_ | with_reducible refine c_not ?_ | ((with_reducible apply w_FI); · rfl) | ((with_reducible apply w_oIx); · rfl) | ((with_reducible apply w_oLen); · rfl) | ((with_reducible apply w_oBin); · rfl) | ((with_reducible apply w_consO); · rfl) | ((with_reducible apply w_aug); · rfl) | ((with_reducible apply w_app); · rfl) | ((with_reducible apply w_oset); · rfl) | ((with_reducible apply w_ext); · rfl) | ((with_reducible apply w_retO); · rfl) | ((with_reducible apply w_frz); · rfl) | ((with_reducible apply e_ow); · rfl) | with_reducible refine e_bl ?_ | with_reducible refine e_int ?_ | with_reducible refine e_lst ?_ | with_reducible refine e_tup ?_ | with_reducible refine e_seqL ?_ | with_reducible refine e_seqT ?_ | with_reducible refine e_zipL ?_ | with_reducible refine e_zipT ?_ | with_reducible refine w_partI ?_ | with_reducible refine w_iSeq ?_ | with_reducible refine w_iEnum ?_ | with_reducible refine w_new ?_ | with_reducible refine w_rev ?_ | with_reducible refine w_revT ?_ | with_reducible refine w_slice ?_ | with_reducible refine y_le ?_ | with_reducible refine y_lt ?_ | with_reducible refine y_ge ?_ | with_reducible refine y_gt ?_ | ((with_reducible apply x_ixT); · rfl) | ((with_reducible apply x_ixL); · rfl) | ((with_reducible apply e_at); · rfl) | ((with_reducible apply x_mul); · rfl) | ((with_reducible apply e_ix); · rfl) | ((with_reducible apply x_div); · decide) | ((with_reducible apply x_mod); · decide) | with_reducible refine w_lst ?_ | with_reducible refine w_tup ?_ | ((with_reducible apply e_cap); · exact Nat.le_of_ble_eq_true rfl) | ((with_reducible apply e_set); · (simp only [List.set_cons_zero, List.set_cons_succ]; rfl)) | ((with_reducible apply e_setL); (· rfl); (· (simp only [List.set_cons_zero, List.set_cons_succ]; rfl))) | ((with_reducible apply e_par); (· rfl); (· (simp only [List.set_cons_zero, List.set_cons_succ]; rfl))) | ((with_reducible apply e_par3); (· rfl); (· (simp only [List.set_cons_zero, List.set_cons_succ]; rfl))) | ((with_reducible apply e_pt); (· rfl); (· (simp only [List.set_cons_zero, List.set_cons_succ]; rfl))) | ((with_reducible apply e_pT); · (simp only [pTs, pN, List.length_cons, List.length_nil, List.set_cons_zero, List.set_cons_succ, Nat.reduceAdd, Nat.reduceLT, ite_true, Option.some.injEq]; rfl))))
    refine x_eqR (n := 1) (Wl.ints (xs := [2, 5]) (by decide)) (by omega) rfl
end DL.k04

namespace DL.k04
open PySem PySem.Spec PyProof.Rows L2 DL
def topS (i : Nat) : Stmt := PySem.Challenge.pw_levelmaps_k04_whole_totals_of_neighbouri.main.body.getD i (.Pass ⟨0, 0, 0, 0⟩)
structure Bf (mg : Str → Option Value) : Prop where
  b_all : mg "all" = none
  b_bool : mg "bool" = none
  b_enumerate : mg "enumerate" = none
  b_int : mg "int" = none
  b_isinstance : mg "isinstance" = none
  b_len : mg "len" = none
  b_list : mg "list" = none
  b_max : mg "max" = none
  b_min : mg "min" = none
  b_range : mg "range" = none
  b_str : mg "str" = none
  b_sum : mg "sum" = none
  b_tuple : mg "tuple" = none
  b_zip : mg "zip" = none
  c_MAX_AMOUNT : ∃ t, mg "MAX_AMOUNT" = some (.int 60 t)
  c_MAX_CAPACITY : ∃ t, mg "MAX_CAPACITY" = some (.int 60 t)
  c_MAX_COMMANDS : ∃ t, mg "MAX_COMMANDS" = some (.int 60 t)
abbrev s_is_between : Stmt := topS 9
abbrev n_is_between : List Str := ["value", "low", "high"]
theorem sc_is_between : FnScope n_is_between ["value", "low", "high"] (defScope s_is_between) := ⟨rfl, rfl, rfl, by decide +kernel, rfl, by decide +kernel, by decide +kernel⟩
abbrev s_check_capacity : Stmt := topS 10
abbrev n_check_capacity : List Str := ["capacity"]
theorem sc_check_capacity : FnScope n_check_capacity ["capacity"] (defScope s_check_capacity) := ⟨rfl, rfl, rfl, by decide +kernel, rfl, by decide +kernel, by decide +kernel⟩
abbrev s_check_level : Stmt := topS 11
abbrev n_check_level : List Str := ["capacity", "level"]
theorem sc_check_level : FnScope n_check_level ["capacity", "level"] (defScope s_check_level) := ⟨rfl, rfl, rfl, by decide +kernel, rfl, by decide +kernel, by decide +kernel⟩
abbrev s_is_command : Stmt := topS 12
abbrev n_is_command : List Str := ["capacity", "value"]
theorem sc_is_command : FnScope n_is_command ["capacity", "value"] (defScope s_is_command) := ⟨rfl, rfl, rfl, by decide +kernel, rfl, by decide +kernel, by decide +kernel⟩
abbrev s_are_commands : Stmt := topS 13
abbrev n_are_commands : List Str := ["capacity", "value", "command"]
theorem sc_are_commands : FnScope n_are_commands ["capacity", "value"] (defScope s_are_commands) := ⟨rfl, rfl, rfl, by decide +kernel, rfl, by decide +kernel, by decide +kernel⟩
abbrev s_check_schedule : Stmt := topS 14
abbrev n_check_schedule : List Str := ["capacity", "schedule"]
theorem sc_check_schedule : FnScope n_check_schedule ["capacity", "schedule"] (defScope s_check_schedule) := ⟨rfl, rfl, rfl, by decide +kernel, rfl, by decide +kernel, by decide +kernel⟩
abbrev s_after : Stmt := topS 15
abbrev n_after : List Str := ["level", "command", "kind", "amount", "limit"]
theorem sc_after : FnScope n_after ["level", "command"] (defScope s_after) := ⟨rfl, rfl, rfl, by decide +kernel, rfl, by decide +kernel, by decide +kernel⟩
abbrev s_levels_from : Stmt := topS 16
abbrev n_levels_from : List Str := ["schedule", "start", "found", "command"]
theorem sc_levels_from : FnScope n_levels_from ["schedule", "start"] (defScope s_levels_from) := ⟨rfl, rfl, rfl, by decide +kernel, rfl, by decide +kernel, by decide +kernel⟩
abbrev s_sums_from : Stmt := topS 17
abbrev n_sums_from : List Str := ["schedule", "start", "rows", "changes", "first", "second", "change"]
theorem sc_sums_from : FnScope n_sums_from ["schedule", "start"] (defScope s_sums_from) := ⟨rfl, rfl, rfl, by decide +kernel, rfl, by decide +kernel, by decide +kernel⟩
abbrev s_totals : Stmt := topS 18
abbrev n_totals : List Str := ["capacity", "schedule", "start"]
theorem sc_totals : FnScope n_totals ["capacity", "schedule", "start"] (defScope s_totals) := ⟨rfl, rfl, rfl, by decide +kernel, rfl, by decide +kernel, by decide +kernel⟩
abbrev s_law_source : Stmt := topS 20
abbrev n_law_source : List Str := ["cell", "turn"]
theorem sc_law_source : FnScope n_law_source ["cell", "turn"] (defScope s_law_source) := ⟨rfl, rfl, rfl, by decide +kernel, rfl, by decide +kernel, by decide +kernel⟩
abbrev s_law_draw : Stmt := topS 21
abbrev n_law_draw : List Str := ["source", "size", "drawn", "number"]
theorem sc_law_draw : FnScope n_law_draw ["source", "size"] (defScope s_law_draw) := ⟨rfl, rfl, rfl, by decide +kernel, rfl, by decide +kernel, by decide +kernel⟩
abbrev s_law_choice : Stmt := topS 22
abbrev n_law_choice : List Str := ["source", "items"]
theorem sc_law_choice : FnScope n_law_choice ["source", "items"] (defScope s_law_choice) := ⟨rfl, rfl, rfl, by decide +kernel, rfl, by decide +kernel, by decide +kernel⟩
abbrev s_law_kind : Stmt := topS 23
abbrev n_law_kind : List Str := ["value"]
theorem sc_law_kind : FnScope n_law_kind ["value"] (defScope s_law_kind) := ⟨rfl, rfl, rfl, by decide +kernel, rfl, by decide +kernel, by decide +kernel⟩
abbrev s_law_equal : Stmt := topS 24
abbrev n_law_equal : List Str := ["value", "expected", "k", "part"]
theorem sc_law_equal : FnScope n_law_equal ["value", "expected"] (defScope s_law_equal) := ⟨rfl, rfl, rfl, by decide +kernel, rfl, by decide +kernel, by decide +kernel⟩
abbrev s_law_schedule : Stmt := topS 25
abbrev n_law_schedule : List Str := ["source", "capacity", "most", "commands", "wide", "turn", "limit", "kind"]
theorem sc_law_schedule : FnScope n_law_schedule ["source", "capacity", "most"] (defScope s_law_schedule) := ⟨rfl, rfl, rfl, by decide +kernel, rfl, by decide +kernel, by decide +kernel⟩
abbrev s_law_after : Stmt := topS 26
abbrev n_law_after : List Str := ["level", "command", "kind", "amount", "limit"]
theorem sc_law_after : FnScope n_law_after ["level", "command"] (defScope s_law_after) := ⟨rfl, rfl, rfl, by decide +kernel, rfl, by decide +kernel, by decide +kernel⟩
abbrev s_law_levels : Stmt := topS 27
abbrev n_law_levels : List Str := ["schedule", "start", "found", "command"]
theorem sc_law_levels : FnScope n_law_levels ["schedule", "start"] (defScope s_law_levels) := ⟨rfl, rfl, rfl, by decide +kernel, rfl, by decide +kernel, by decide +kernel⟩
abbrev s_law : Stmt := topS 28
abbrev n_law : List Str := ["script", "cell", "source", "capacity", "schedule", "rows", "start", "found", "up", "result", "one", "other", "change"]
theorem sc_law : FnScope n_law ["script"] (defScope s_law) := ⟨rfl, rfl, rfl, by decide +kernel, rfl, by decide +kernel, by decide +kernel⟩
section
variable {P : Program} {w : World} {K : PySem.W.Frag} {mg : Str → Option Value} {base : Heap} (B : Bf mg)
include B
theorem cal_is_between {a : Addr} {fd : FuncData} (hF : FunD K "is_between" "is_between" (defArgs s_is_between) (defBody s_is_between) (defScope s_is_between) [] [] a fd) (hm : mg "is_between" = some (.ref a))  : Cal P w K mg base 1 "is_between" (spD K f_is_between) := by
  refine Cal.of (ps := ["value", "low", "high"]) hF (okD (N := n_is_between) (j := 0) hF sc_is_between rfl rfl (by decide) fun cdv A outer s H E O => ?_) hm (fun _ _ _ _ _ _ us hl => match us, hl with | [_, _, _], _ => rfl)
  exact (dss_one (ds_ret (de_and (de_isi .int (de_var 0) B.b_isinstance B.b_int bb_int) (de_and (de_not (de_isi .bool (de_var 0) B.b_isinstance B.b_bool bb_bool)) (de_one (de_chain os_le os_le (de_var 1) (de_var 0) (de_var 2)))))))
theorem cal_check_capacity {a : Addr} {fd : FuncData} (hF : FunD K "check_capacity" "check_capacity" (defArgs s_check_capacity) (defBody s_check_capacity) (defScope s_check_capacity) [] [] a fd) (hm : mg "check_capacity" = some (.ref a)) (G_is_between : Cal P w K mg base 1 "is_between" (spD K f_is_between)) : Cal P w K mg base 2 "check_capacity" (spD K f_check_capacity) := by
  refine Cal.of (ps := ["capacity"]) hF (okD (N := n_check_capacity) (j := 1) hF sc_check_capacity rfl rfl (by decide) fun cdv A outer s H E O => ?_) hm (fun _ _ _ _ _ _ us hl => match us, hl with | [_], _ => rfl)
  exact (dss_one (ds_if (dt_not (dt_val (de_call O G_is_between (da_cons (de_var 0) (da_cons de_int (da_cons (de_globI B.c_MAX_CAPACITY) da_nil)))))) (dss_one ds_never) dss_nil))
theorem cal_check_level {a : Addr} {fd : FuncData} (hF : FunD K "check_level" "check_level" (defArgs s_check_level) (defBody s_check_level) (defScope s_check_level) [] [] a fd) (hm : mg "check_level" = some (.ref a)) (G_is_between : Cal P w K mg base 1 "is_between" (spD K f_is_between)) : Cal P w K mg base 2 "check_level" (spD K f_check_level) := by
  refine Cal.of (ps := ["capacity", "level"]) hF (okD (N := n_check_level) (j := 1) hF sc_check_level rfl rfl (by decide) fun cdv A outer s H E O => ?_) hm (fun _ _ _ _ _ _ us hl => match us, hl with | [_, _], _ => rfl)
  exact (dss_one (ds_if (dt_not (dt_val (de_call O G_is_between (da_cons (de_var 1) (da_cons de_int (da_cons (de_var 0) da_nil)))))) (dss_one ds_never) dss_nil))
theorem cal_is_command {a : Addr} {fd : FuncData} (hF : FunD K "is_command" "is_command" (defArgs s_is_command) (defBody s_is_command) (defScope s_is_command) [] [] a fd) (hm : mg "is_command" = some (.ref a)) (G_is_between : Cal P w K mg base 1 "is_between" (spD K f_is_between)) : Cal P w K mg base 2 "is_command" (spD K f_is_command) := by
  refine Cal.of (ps := ["capacity", "value"]) hF (okD (N := n_is_command) (j := 1) hF sc_is_command rfl rfl (by decide) fun cdv A outer s H E O => ?_) hm (fun _ _ _ _ _ _ us hl => match us, hl with | [_, _], _ => rfl)
  exact (dss_cons (ds_if (DW.t (dw_or (dt_not (dt_val (de_isi .tuple (de_var 1) B.b_isinstance B.b_tuple bb_tuple))) (dw_or (dt_cmp (os_ne O) (de_callB cs_len B.b_len bb_len (da_cons (de_var 1) da_nil)) de_int) (dw_or1 (dt_not (dt_val (de_isi .str (de_ix (de_var 1) de_int) B.b_isinstance B.b_str bb_str))))))) (dss_one (ds_ret de_bl)) dss_nil) (dss_cons (ds_if (dt_cmp (os_notIn O) (de_ix (de_var 1) de_int) (de_tup (da_cons de_str (da_cons de_str da_nil)))) (dss_one (ds_ret de_bl)) dss_nil) (dss_one (ds_ret (de_and (de_call O G_is_between (da_cons (de_ix (de_var 1) de_int) (da_cons de_int (da_cons (de_globI B.c_MAX_AMOUNT) da_nil)))) (de_one (de_call O G_is_between (da_cons (de_ix (de_var 1) de_int) (da_cons de_int (da_cons (de_var 0) da_nil))))))))))
theorem cal_are_commands {a : Addr} {fd : FuncData} (hF : FunD K "are_commands" "are_commands" (defArgs s_are_commands) (defBody s_are_commands) (defScope s_are_commands) [] [] a fd) (hm : mg "are_commands" = some (.ref a)) (G_is_command : Cal P w K mg base 2 "is_command" (spD K f_is_command)) : Cal P w K mg base 3 "are_commands" (spD K f_are_commands) := by
  refine Cal.of (ps := ["capacity", "value"]) hF (okD (N := n_are_commands) (j := 2) hF sc_are_commands rfl rfl (by decide) fun cdv A outer s H E O => ?_) hm (fun _ _ _ _ _ _ us hl => match us, hl with | [_, _], _ => rfl)
  exact (dss_cons (ds_if (DW.t (dw_or (dt_not (dt_val (de_isi .tuple (de_var 1) B.b_isinstance B.b_tuple bb_tuple))) (dw_or1 (dt_cmp os_gt (de_callB cs_len B.b_len bb_len (da_cons (de_var 1) da_nil)) (de_globI B.c_MAX_COMMANDS))))) (dss_one (ds_ret de_bl)) dss_nil) (dss_one (ds_ret (de_callB (cs_all O) B.b_all bb_all (da_cons (DN.e (dn_comp (own := [("command", 2)]) O (di_seq (de_var 1)) (blkOk_by (N := n_are_commands) (sc := (defScope s_are_commands)) (by decide +kernel)) (fun s H C cl fp O => (dp_name O 2)) (fun s H C cl fp O => dts_nil) (fun s H C cl fp O => (de_call O G_is_command (da_cons (de_var 0) (da_cons (de_var 2) da_nil)))))) da_nil)))))
theorem cal_check_schedule {a : Addr} {fd : FuncData} (hF : FunD K "check_schedule" "check_schedule" (defArgs s_check_schedule) (defBody s_check_schedule) (defScope s_check_schedule) [] [] a fd) (hm : mg "check_schedule" = some (.ref a)) (G_are_commands : Cal P w K mg base 3 "are_commands" (spD K f_are_commands)) : Cal P w K mg base 4 "check_schedule" (spD K f_check_schedule) := by
  refine Cal.of (ps := ["capacity", "schedule"]) hF (okD (N := n_check_schedule) (j := 3) hF sc_check_schedule rfl rfl (by decide) fun cdv A outer s H E O => ?_) hm (fun _ _ _ _ _ _ us hl => match us, hl with | [_, _], _ => rfl)
  exact (dss_one (ds_if (dt_not (dt_val (de_call O G_are_commands (da_cons (de_var 0) (da_cons (de_var 1) da_nil))))) (dss_one ds_never) dss_nil))
theorem cal_after {a : Addr} {fd : FuncData} (hF : FunD K "after" "after" (defArgs s_after) (defBody s_after) (defScope s_after) [] [] a fd) (hm : mg "after" = some (.ref a))  : Cal P w K mg base 1 "after" (spD K f_after) := by
  refine Cal.of (ps := ["level", "command"]) hF (okD (N := n_after) (j := 0) hF sc_after rfl rfl (by decide) fun cdv A outer s H E O => ?_) hm (fun _ _ _ _ _ _ us hl => match us, hl with | [_, _], _ => rfl)
  exact (dss_cons (ds_asg (de_var 1) (dp_tup O (dps_cons (dp_name O 2) (dps_cons (dp_name O 3) (dps_cons (dp_name O 4) dps_nil))))) (dss_cons (ds_if (dt_cmp (os_eq O) (de_var 2) de_str) (dss_one (ds_ret (de_if (dt_cmp os_ge (de_var 0) (de_var 4)) (de_var 0) (de_callB (cs_min O) B.b_min bb_min (da_cons (de_bin os_add (de_var 0) (de_var 3)) (da_cons (de_var 4) da_nil)))))) dss_nil) (dss_one (ds_ret (de_if (dt_cmp os_le (de_var 0) (de_var 4)) (de_var 0) (de_callB (cs_max O) B.b_max bb_max (da_cons (de_bin os_sub (de_var 0) (de_var 3)) (da_cons (de_var 4) da_nil))))))))
theorem cal_levels_from {a : Addr} {fd : FuncData} (hF : FunD K "levels_from" "levels_from" (defArgs s_levels_from) (defBody s_levels_from) (defScope s_levels_from) [] [] a fd) (hm : mg "levels_from" = some (.ref a)) (G_after : Cal P w K mg base 1 "after" (spD K f_after)) : Cal P w K mg base 2 "levels_from" (spN K f_levels_from) := by
  refine Cal.of (ps := ["schedule", "start"]) hF (okN (N := n_levels_from) (j := 1) hF sc_levels_from rfl rfl (by decide) fun cdv A outer s H E O => ?_) hm (fun _ _ _ _ _ _ us hl => match us, hl with | [_, _], _ => rfl)
  exact (dss_cons (ds_new O 2 (dn_lst (da_cons (de_var 1) da_nil))) (dss_cons (ds_for O (di_seq (de_var 0)) (dp_name O 3) (dss_one (ds_app 2 (de_call O G_after (da_cons (de_oix 2 (de_un us_neg de_int)) (da_cons (de_var 3) da_nil)))))) (dss_one (ds_retO 2))))
theorem cal_sums_from {a : Addr} {fd : FuncData} (hF : FunD K "sums_from" "sums_from" (defArgs s_sums_from) (defBody s_sums_from) (defScope s_sums_from) [] [] a fd) (hm : mg "sums_from" = some (.ref a)) (G_levels_from : Cal P w K mg base 2 "levels_from" (spN K f_levels_from)) : Cal P w K mg base 3 "sums_from" (spD K f_sums_from) := by
  refine Cal.of (ps := ["schedule", "start"]) hF (okD (N := n_sums_from) (j := 2) hF sc_sums_from rfl rfl (by decide) fun cdv A outer s H E O => ?_) hm (fun _ _ _ _ _ _ us hl => match us, hl with | [_, _], _ => rfl)
  exact (dss_cons (ds_set O 2 (DN.e (dn_call O G_levels_from (da_cons (de_var 0) (da_cons (de_var 1) da_nil))))) (dss_cons (ds_setLcF (own := [("first", 4), ("second", 5)]) O 3 (di_zip (de_var 2) (de_slice (de_var 2) (do_some de_int) do_none) B.b_zip) (blkOk_by (N := n_sums_from) (sc := (defScope s_sums_from)) (by decide +kernel)) (fun s H C cl fp O => (dp_tup O (dps_cons (dp_name O 4) (dps_cons (dp_name O 5) dps_nil)))) (fun s H C cl fp O => dts_nil) (fun s H C cl fp O => (de_bin os_sub (de_var 5) (de_var 4)))) (dss_one (ds_ret (de_tup (da_cons (de_callB (cs_sum O) B.b_sum bb_sum (da_cons (DN.e (dn_comp (own := [("change", 6)]) O (di_seq (de_var 3)) (blkOk_by (N := n_sums_from) (sc := (defScope s_sums_from)) (by decide +kernel)) (fun s H C cl fp O => (dp_name O 6)) (fun s H C cl fp O => (dts_one (dt_cmp os_gt (de_var 6) de_int))) (fun s H C cl fp O => (de_var 6)))) da_nil)) (da_cons (de_un us_neg (de_callB (cs_sum O) B.b_sum bb_sum (da_cons (DN.e (dn_comp (own := [("change", 6)]) O (di_seq (de_var 3)) (blkOk_by (N := n_sums_from) (sc := (defScope s_sums_from)) (by decide +kernel)) (fun s H C cl fp O => (dp_name O 6)) (fun s H C cl fp O => (dts_one (dt_cmp os_lt (de_var 6) de_int))) (fun s H C cl fp O => (de_var 6)))) da_nil))) da_nil)))))))
theorem cal_totals {a : Addr} {fd : FuncData} (hF : FunD K "totals" "totals" (defArgs s_totals) (defBody s_totals) (defScope s_totals) [] [] a fd) (hm : mg "totals" = some (.ref a)) (G_check_capacity : Cal P w K mg base 2 "check_capacity" (spD K f_check_capacity)) (G_check_level : Cal P w K mg base 2 "check_level" (spD K f_check_level)) (G_check_schedule : Cal P w K mg base 4 "check_schedule" (spD K f_check_schedule)) (G_sums_from : Cal P w K mg base 3 "sums_from" (spD K f_sums_from)) : Cal P w K mg base 5 "totals" (spD K f_totals) := by
  refine Cal.of (ps := ["capacity", "schedule", "start"]) hF (okD (N := n_totals) (j := 4) hF sc_totals rfl rfl (by decide) fun cdv A outer s H E O => ?_) hm (fun _ _ _ _ _ _ us hl => match us, hl with | [_, _, _], _ => rfl)
  exact (dss_cons (ds_expr (de_call O G_check_capacity (da_cons (de_var 0) da_nil))) (dss_cons (ds_expr (de_call O G_check_schedule (da_cons (de_var 0) (da_cons (de_var 1) da_nil)))) (dss_cons (ds_expr (de_call O G_check_level (da_cons (de_var 0) (da_cons (de_var 2) da_nil)))) (dss_one (ds_ret (de_call O G_sums_from (da_cons (de_var 1) (da_cons (de_var 2) da_nil))))))))
theorem cal_law_source {a : Addr} {fd : FuncData} (hF : FunD K "_law_source" "_law_source" (defArgs s_law_source) (defBody s_law_source) (defScope s_law_source) [] [] a fd) (hm : mg "_law_source" = some (.ref a))  : Cal P w K mg base 1 "_law_source" (spN K f_law_source) := by
  refine Cal.of (ps := ["cell", "turn"]) hF (okN (N := n_law_source) (j := 0) hF sc_law_source rfl rfl (by decide) fun cdv A outer s H E O => ?_) hm (fun _ _ _ _ _ _ us hl => match us, hl with | [_, _], _ => rfl)
  exact (dss_cons (ds_if (dt_cmp os_ge (de_var 0) (de_bin os_pow de_int de_int)) (dss_one (ds_retN (dn_lst (da_cons (de_bin os_sub (de_var 0) (de_bin os_pow de_int de_int)) (da_cons (de_bin os_mod (de_var 0) de_int) (da_cons (de_var 1) da_nil)))))) dss_nil) (dss_one (ds_retN (dn_lst (da_cons de_int (da_cons (de_bin os_mod (de_var 0) de_int) (da_cons (de_var 1) da_nil)))))))
theorem cal_law_draw {a : Addr} {fd : FuncData} (hF : FunD K "_law_draw" "_law_draw" (defArgs s_law_draw) (defBody s_law_draw) (defScope s_law_draw) [] [] a fd) (hm : mg "_law_draw" = some (.ref a))  : Cal P w K mg base 1 "_law_draw" (spI K f_law_draw) := by
  refine Cal.of (ps := ["source", "size"]) hF (okI (N := n_law_draw) (j := 0) hF sc_law_draw rfl rfl (by decide) fun cdv A outer s H E O => ?_) hm (fun _ _ _ _ _ _ us hl => match us, hl with | [_, _], _ => rfl)
  exact (dss_cons (ds_if (dt_cmp os_gt (de_oix 0 de_int) de_int) (dss_cons (ds_set O 2 (de_bin os_mod (de_oix 0 de_int) (de_var 1))) (dss_cons (ds_oset 0 (de_bin os_div (de_oix 0 de_int) (de_var 1)) de_int) (dss_one (ds_ret (de_var 2))))) dss_nil) (dss_cons (ds_oset 0 (de_bin os_add (de_oix 0 de_int) de_int) de_int) (dss_cons (ds_set O 3 (de_bin os_mod (de_bin os_pow (de_bin os_add (de_oix 0 de_int) (de_bin os_mul de_int (de_oix 0 de_int))) de_int) de_int)) (dss_cons (ds_set O 2 (de_bin os_div (de_bin os_mod (de_bin os_pow (de_bin os_add (de_var 3) (de_bin os_mul de_int (de_oix 0 de_int))) de_int) de_int) de_int)) (dss_one (ds_ret (de_bin os_mod (de_var 2) (de_var 1))))))))
theorem cal_law_choice {a : Addr} {fd : FuncData} (hF : FunD K "_law_choice" "_law_choice" (defArgs s_law_choice) (defBody s_law_choice) (defScope s_law_choice) [] [] a fd) (hm : mg "_law_choice" = some (.ref a)) (G_law_draw : Cal P w K mg base 1 "_law_draw" (spI K f_law_draw)) : Cal P w K mg base 2 "_law_choice" (spI K f_law_choice) := by
  refine Cal.of (ps := ["source", "items"]) hF (okI (N := n_law_choice) (j := 1) hF sc_law_choice rfl rfl (by decide) fun cdv A outer s H E O => ?_) hm (fun _ _ _ _ _ _ us hl => match us, hl with | [_, _], _ => rfl)
  exact (dss_one (ds_ret (de_ix (de_var 1) (de_callI O G_law_draw 0 (da_cons (de_callB cs_len B.b_len bb_len (da_cons (de_var 1) da_nil)) da_nil)))))
theorem cal_law_kind {a : Addr} {fd : FuncData} (hF : FunD K "_law_kind" "_law_kind" (defArgs s_law_kind) (defBody s_law_kind) (defScope s_law_kind) [] [] a fd) (hm : mg "_law_kind" = some (.ref a))  : Cal P w K mg base 1 "_law_kind" (spD K f_law_kind) := by
  refine Cal.of (ps := ["value"]) hF (okD (N := n_law_kind) (j := 0) hF sc_law_kind rfl rfl (by decide) fun cdv A outer s H E O => ?_) hm (fun _ _ _ _ _ _ us hl => match us, hl with | [_], _ => rfl)
  exact (dss_cons (ds_if (dt_val (de_isi .bool (de_var 0) B.b_isinstance B.b_bool bb_bool)) (dss_one (ds_ret de_int)) dss_nil) (dss_cons (ds_if (dt_val (de_isi .int (de_var 0) B.b_isinstance B.b_int bb_int)) (dss_one (ds_ret de_int)) dss_nil) (dss_cons (ds_if (dt_val (de_isi .str (de_var 0) B.b_isinstance B.b_str bb_str)) (dss_one (ds_ret de_int)) dss_nil) (dss_cons (ds_if (dt_val (de_isi .list (de_var 0) B.b_isinstance B.b_list bb_list)) (dss_one (ds_ret de_int)) dss_nil) (dss_one (ds_ret (de_if (dt_val (de_isi .tuple (de_var 0) B.b_isinstance B.b_tuple bb_tuple)) de_int de_int)))))))
theorem cal_law_equal {a : Addr} {fd : FuncData} (hF : FunD K "_law_equal" "_law_equal" (defArgs s_law_equal) (defBody s_law_equal) (defScope s_law_equal) [] [] a fd) (hm : mg "_law_equal" = some (.ref a)) (G_law_kind : Cal P w K mg base 1 "_law_kind" (spD K f_law_kind)) : ∀ n : Nat, Cal P w K mg base (2 + n) "_law_equal" (spD K (f_law_equal n))
  | 0 => Cal.zero (ps := ["value", "expected"]) hF hm (fun _ _ _ _ _ _ us hl => match us, hl with | [_, _], _ => rfl)
  | n + 1 => by
    have G_self := cal_law_equal hF hm G_law_kind n
    refine Cal.of (ps := ["value", "expected"]) hF (okD (N := n_law_equal) (j := 2 + n) hF sc_law_equal rfl rfl (by decide) fun cdv A outer s H E O => ?_) hm (fun _ _ _ _ _ _ us hl => match us, hl with | [_, _], _ => rfl)
    exact (dss_cons (ds_if (dt_cmp (os_ne O) (de_call O G_law_kind (da_cons (de_var 0) da_nil) (hj := by omega)) (de_call O G_law_kind (da_cons (de_var 1) da_nil) (hj := by omega))) (dss_one (ds_ret de_bl)) dss_nil) (dss_cons (ds_if (DW.t (dw_and (dt_cmp os_gt (de_call O G_law_kind (da_cons (de_var 0) da_nil) (hj := by omega)) de_int) (dw_and1 (dt_cmp os_lt (de_call O G_law_kind (da_cons (de_var 0) da_nil) (hj := by omega)) de_int)))) (dss_cons (ds_if (dt_cmp (os_ne O) (de_callB cs_len B.b_len bb_len (da_cons (de_var 0) da_nil)) (de_callB cs_len B.b_len bb_len (da_cons (de_var 1) da_nil))) (dss_one (ds_ret de_bl)) dss_nil) (dss_one (ds_ret (de_cmp (os_eq O) (DN.e (dn_comp (own := [("k", 2), ("part", 3)]) O (di_enum (de_var 0) B.b_enumerate) (blkOk_by (N := n_law_equal) (sc := (defScope s_law_equal)) (by decide +kernel)) (fun s H C cl fp O => (dp_tup O (dps_cons (dp_name O 2) (dps_cons (dp_name O 3) dps_nil)))) (fun s H C cl fp O => (dts_one (dt_not (dt_val (de_call O G_self (da_cons (de_var 3) (da_cons (de_ix (de_var 1) (de_var 2)) da_nil)) (hj := by omega)))))) (fun s H C cl fp O => (de_var 2)))) (DN.e (dn_lst da_nil)))))) dss_nil) (dss_one (ds_ret (de_cmp (os_eq O) (de_var 0) (de_var 1))))))
theorem cal_law_schedule {a : Addr} {fd : FuncData} (hF : FunD K "_law_schedule" "_law_schedule" (defArgs s_law_schedule) (defBody s_law_schedule) (defScope s_law_schedule) [] [] a fd) (hm : mg "_law_schedule" = some (.ref a)) (G_law_draw : Cal P w K mg base 1 "_law_draw" (spI K f_law_draw)) (G_law_choice : Cal P w K mg base 2 "_law_choice" (spI K f_law_choice)) : Cal P w K mg base 3 "_law_schedule" (spI K f_law_schedule) := by
  refine Cal.of (ps := ["source", "capacity", "most"]) hF (okI (N := n_law_schedule) (j := 2) hF sc_law_schedule rfl rfl (by decide) fun cdv A outer s H E O => ?_) hm (fun _ _ _ _ _ _ us hl => match us, hl with | [_, _, _], _ => rfl)
  exact (dss_cons (ds_new O 3 (dn_lst da_nil)) (dss_cons (ds_set O 4 (de_callI O G_law_choice 0 (da_cons (DN.e (dn_lst (da_cons de_int (da_cons (de_callB (cs_max O) B.b_max bb_max (da_cons de_int (da_cons (de_bin os_div (de_var 1) de_int) da_nil))) (da_cons (de_var 1) (da_cons de_int da_nil)))))) da_nil))) (dss_cons (ds_for O (di_rng1 (de_callI O G_law_draw 0 (da_cons (de_bin os_add (de_var 2) de_int) da_nil)) B.b_range) (dp_name O 5) (dss_cons (ds_set O 6 (de_callI O G_law_choice 0 (da_cons (DN.e (dn_lst (da_cons (de_callI O G_law_draw 0 (da_cons (de_bin os_add (de_var 1) de_int) da_nil)) (da_cons (de_callI O G_law_draw 0 (da_cons (de_bin os_add (de_var 1) de_int) da_nil)) (da_cons de_int (da_cons (de_var 1) da_nil)))))) da_nil))) (dss_cons (ds_set O 7 (de_callI O G_law_choice 0 (da_cons (DN.e (dn_lst (da_cons de_str (da_cons de_str da_nil)))) da_nil))) (dss_one (ds_app 3 (de_tup (da_cons (de_var 7) (da_cons (de_bin os_add de_int (de_callI O G_law_draw 0 (da_cons (de_var 4) da_nil))) (da_cons (de_var 6) da_nil))))))))) (dss_one (ds_frz 3 (ds_ret (de_callTy cs_tuple B.b_tuple bb_tuple (da_cons (de_var 3) da_nil))))))))
theorem cal_law_after {a : Addr} {fd : FuncData} (hF : FunD K "_law_after" "_law_after" (defArgs s_law_after) (defBody s_law_after) (defScope s_law_after) [] [] a fd) (hm : mg "_law_after" = some (.ref a))  : Cal P w K mg base 1 "_law_after" (spD K f_law_after) := by
  refine Cal.of (ps := ["level", "command"]) hF (okD (N := n_law_after) (j := 0) hF sc_law_after rfl rfl (by decide) fun cdv A outer s H E O => ?_) hm (fun _ _ _ _ _ _ us hl => match us, hl with | [_, _], _ => rfl)
  exact (dss_cons (ds_asg (de_var 1) (dp_tup O (dps_cons (dp_name O 2) (dps_cons (dp_name O 3) (dps_cons (dp_name O 4) dps_nil))))) (dss_cons (ds_if (dt_cmp (os_eq O) (de_var 2) de_str) (dss_one (ds_ret (de_callB (cs_max O) B.b_max bb_max (da_cons (de_var 0) (da_cons (de_callB (cs_min O) B.b_min bb_min (da_cons (de_bin os_add (de_var 0) (de_var 3)) (da_cons (de_var 4) da_nil))) da_nil))))) dss_nil) (dss_one (ds_ret (de_callB (cs_min O) B.b_min bb_min (da_cons (de_var 0) (da_cons (de_callB (cs_max O) B.b_max bb_max (da_cons (de_bin os_sub (de_var 0) (de_var 3)) (da_cons (de_var 4) da_nil))) da_nil)))))))
theorem cal_law_levels {a : Addr} {fd : FuncData} (hF : FunD K "_law_levels" "_law_levels" (defArgs s_law_levels) (defBody s_law_levels) (defScope s_law_levels) [] [] a fd) (hm : mg "_law_levels" = some (.ref a)) (G_law_after : Cal P w K mg base 1 "_law_after" (spD K f_law_after)) : Cal P w K mg base 2 "_law_levels" (spN K f_law_levels) := by
  refine Cal.of (ps := ["schedule", "start"]) hF (okN (N := n_law_levels) (j := 1) hF sc_law_levels rfl rfl (by decide) fun cdv A outer s H E O => ?_) hm (fun _ _ _ _ _ _ us hl => match us, hl with | [_, _], _ => rfl)
  exact (dss_cons (ds_new O 2 (dn_lst (da_cons (de_var 1) da_nil))) (dss_cons (ds_for O (di_seq (de_var 0)) (dp_name O 3) (dss_one (ds_app 2 (de_call O G_law_after (da_cons (de_oix 2 (de_un us_neg de_int)) (da_cons (de_var 3) da_nil)))))) (dss_one (ds_retO 2))))
theorem ok_law {a : Addr} {fd : FuncData} (hF : FunD K "law" "law" (defArgs s_law) (defBody s_law) (defScope s_law) [] [] a fd) (hm : mg "law" = some (.ref a)) (G_totals : Cal P w K mg base 5 "totals" (spD K f_totals)) (G_law_source : Cal P w K mg base 1 "_law_source" (spN K f_law_source)) (G_law_draw : Cal P w K mg base 1 "_law_draw" (spI K f_law_draw)) (G_law_choice : Cal P w K mg base 2 "_law_choice" (spI K f_law_choice)) (G_law_equal : Cal P w K mg base 14 "_law_equal" (spD K (f_law_equal 12))) (G_law_schedule : Cal P w K mg base 3 "_law_schedule" (spI K f_law_schedule)) (G_law_levels : Cal P w K mg base 2 "_law_levels" (spN K f_law_levels)) : FnOk P w K mg base CX0 15 a fd ["script"] (spD K f_law) := by
  refine okD (N := n_law) (j := 14) hF sc_law rfl rfl (by decide) fun cdv A outer s H E O => ?_
  exact (dss_cons (ds_for O (di_seq (DN.e (dn_slice (DN.e (dn_add (DN.e (dn_lst (da_cons de_int da_nil))) (de_var 0))) do_none (do_some de_int)))) (dp_name O 1) (dss_cons (ds_new O 2 (dn_call O G_law_source (da_cons (de_var 1) (da_cons de_int da_nil)))) (dss_cons (ds_set O 3 (de_bin os_add de_int (de_callI O G_law_draw 2 (da_cons (de_callI O G_law_choice 2 (da_cons (DN.e (dn_lst (da_cons de_int (da_cons de_int (da_cons de_int da_nil))))) da_nil)) da_nil)))) (dss_cons (ds_set O 4 (de_callI O G_law_schedule 2 (da_cons (de_var 3) (da_cons de_int da_nil)))) (dss_cons (ds_new O 5 (dn_lst da_nil)) (dss_cons (ds_for O (di_rng1 (de_bin os_add (de_var 3) de_int) B.b_range) (dp_name O 6) (dss_cons (ds_set O 7 (DN.e (dn_call O G_law_levels (da_cons (de_var 4) (da_cons (de_var 6) da_nil))))) (dss_cons (ds_set O 8 (de_callB (cs_sum O) B.b_sum bb_sum (da_cons (DN.e (dn_comp (own := [("one", 10), ("other", 11)]) O (di_zip (de_var 7) (de_slice (de_var 7) (do_some de_int) do_none) B.b_zip) (blkOk_by (N := n_law) (sc := (defScope s_law)) (by decide +kernel)) (fun s H C cl fp O => (dp_tup O (dps_cons (dp_name O 10) (dps_cons (dp_name O 11) dps_nil)))) (fun s H C cl fp O => dts_nil) (fun s H C cl fp O => (de_callB (cs_max O) B.b_max bb_max (da_cons de_int (da_cons (de_bin os_sub (de_var 11) (de_var 10)) da_nil)))))) da_nil))) (dss_cons (ds_set O 9 (de_call O G_totals (da_cons (de_var 3) (da_cons (de_var 4) (da_cons (de_var 6) da_nil))))) (dss_cons (ds_if (dt_not (dt_val (de_call O G_law_equal (da_cons (de_var 9) (da_cons (de_tup (da_cons (de_var 8) (da_cons (de_bin os_sub (de_bin os_add (de_var 8) (de_var 6)) (de_ix (de_var 7) (de_un us_neg de_int))) da_nil))) da_nil))))) (dss_one (ds_ret de_bl)) dss_nil) (dss_one (ds_app 5 (de_bin os_add (de_var 9) (de_tup (da_cons (de_ix (de_var 7) (de_un us_neg de_int)) da_nil)))))))))) (dss_one (ds_frz 5 (ds_for O (di_zip (de_var 5) (de_slice (de_var 5) (do_some de_int) do_none) B.b_zip) (dp_tup O (dps_cons (dp_name O 10) (dps_cons (dp_name O 11) dps_nil))) (dss_cons (ds_set O 12 (de_tup (da_cons (de_bin os_sub (de_ix (de_var 11) de_int) (de_ix (de_var 10) de_int)) (da_cons (de_bin os_sub (de_ix (de_var 11) de_int) (de_ix (de_var 10) de_int)) (da_cons (de_bin os_sub (de_ix (de_var 11) de_int) (de_ix (de_var 10) de_int)) da_nil))))) (dss_one (ds_if (dt_cmp (os_notIn O) (de_var 12) (de_tup (da_cons (de_tup (da_cons de_int (da_cons de_int (da_cons de_int da_nil)))) (da_cons (de_tup (da_cons (de_un us_neg de_int) (da_cons de_int (da_cons de_int da_nil)))) (da_cons (de_tup (da_cons de_int (da_cons de_int (da_cons de_int da_nil)))) da_nil))))) (dss_one (ds_ret de_bl)) dss_nil)))))))))))) (dss_one (ds_ret (de_cmp (os_eq O) (de_call O G_totals (da_cons de_int (da_cons (de_tup (da_cons (de_tup (da_cons de_str (da_cons de_int (da_cons de_int da_nil)))) (da_cons (de_tup (da_cons de_str (da_cons de_int (da_cons de_int da_nil)))) da_nil))) (da_cons de_int da_nil)))) (de_tup (da_cons de_int (da_cons de_int da_nil)))))))
end
def d_is_between : He.DefD := ⟨("is_between", none), "is_between", "is_between", defArgs s_is_between, defBody s_is_between, defScope s_is_between, [], []⟩
def d_check_capacity : He.DefD := ⟨("check_capacity", none), "check_capacity", "check_capacity", defArgs s_check_capacity, defBody s_check_capacity, defScope s_check_capacity, [], []⟩
def d_check_level : He.DefD := ⟨("check_level", none), "check_level", "check_level", defArgs s_check_level, defBody s_check_level, defScope s_check_level, [], []⟩
def d_is_command : He.DefD := ⟨("is_command", none), "is_command", "is_command", defArgs s_is_command, defBody s_is_command, defScope s_is_command, [], []⟩
def d_are_commands : He.DefD := ⟨("are_commands", none), "are_commands", "are_commands", defArgs s_are_commands, defBody s_are_commands, defScope s_are_commands, [], []⟩
def d_check_schedule : He.DefD := ⟨("check_schedule", none), "check_schedule", "check_schedule", defArgs s_check_schedule, defBody s_check_schedule, defScope s_check_schedule, [], []⟩
def d_after : He.DefD := ⟨("after", none), "after", "after", defArgs s_after, defBody s_after, defScope s_after, [], []⟩
def d_levels_from : He.DefD := ⟨("levels_from", none), "levels_from", "levels_from", defArgs s_levels_from, defBody s_levels_from, defScope s_levels_from, [], []⟩
def d_sums_from : He.DefD := ⟨("sums_from", none), "sums_from", "sums_from", defArgs s_sums_from, defBody s_sums_from, defScope s_sums_from, [], []⟩
def d_totals : He.DefD := ⟨("totals", none), "totals", "totals", defArgs s_totals, defBody s_totals, defScope s_totals, [], []⟩
def d_law_source : He.DefD := ⟨("_law_source", none), "_law_source", "_law_source", defArgs s_law_source, defBody s_law_source, defScope s_law_source, [], []⟩
def d_law_draw : He.DefD := ⟨("_law_draw", none), "_law_draw", "_law_draw", defArgs s_law_draw, defBody s_law_draw, defScope s_law_draw, [], []⟩
def d_law_choice : He.DefD := ⟨("_law_choice", none), "_law_choice", "_law_choice", defArgs s_law_choice, defBody s_law_choice, defScope s_law_choice, [], []⟩
def d_law_kind : He.DefD := ⟨("_law_kind", none), "_law_kind", "_law_kind", defArgs s_law_kind, defBody s_law_kind, defScope s_law_kind, [], []⟩
def d_law_equal : He.DefD := ⟨("_law_equal", none), "_law_equal", "_law_equal", defArgs s_law_equal, defBody s_law_equal, defScope s_law_equal, [], []⟩
def d_law_schedule : He.DefD := ⟨("_law_schedule", none), "_law_schedule", "_law_schedule", defArgs s_law_schedule, defBody s_law_schedule, defScope s_law_schedule, [], []⟩
def d_law_after : He.DefD := ⟨("_law_after", none), "_law_after", "_law_after", defArgs s_law_after, defBody s_law_after, defScope s_law_after, [], []⟩
def d_law_levels : He.DefD := ⟨("_law_levels", none), "_law_levels", "_law_levels", defArgs s_law_levels, defBody s_law_levels, defScope s_law_levels, [], []⟩
def d_law : He.DefD := ⟨("law", none), "law", "law", defArgs s_law, defBody s_law, defScope s_law, [], []⟩
def fn : List He.DefD := [d_is_between, d_check_capacity, d_check_level, d_is_command, d_are_commands, d_check_schedule, d_after, d_levels_from, d_sums_from, d_totals, d_law_source, d_law_draw, d_law_choice, d_law_kind, d_law_equal, d_law_schedule, d_law_after, d_law_levels, d_law]
def fa : List He.Fa := [He.Fa.glo "is_between", He.Fa.glo "check_capacity", He.Fa.glo "check_level", He.Fa.glo "is_command", He.Fa.glo "are_commands", He.Fa.glo "check_schedule", He.Fa.glo "after", He.Fa.glo "levels_from", He.Fa.glo "sums_from", He.Fa.glo "totals", He.Fa.glo "_law_source", He.Fa.glo "_law_draw", He.Fa.glo "_law_choice", He.Fa.glo "_law_kind", He.Fa.glo "_law_equal", He.Fa.glo "_law_schedule", He.Fa.glo "_law_after", He.Fa.glo "_law_levels", He.Fa.glo "law", He.Fa.free "all", He.Fa.free "bool", He.Fa.free "enumerate", He.Fa.free "int", He.Fa.free "isinstance", He.Fa.free "len", He.Fa.free "list", He.Fa.free "max", He.Fa.free "min", He.Fa.free "range", He.Fa.free "str", He.Fa.free "sum", He.Fa.free "tuple", He.Fa.free "zip", He.Fa.int "MAX_AMOUNT" 60, He.Fa.int "MAX_CAPACITY" 60, He.Fa.int "MAX_COMMANDS" 60]
abbrev R : PySem.W.OpenRow := PySem.W.OpenLaw.row PySem.Challenge.rw_levelmaps_k04_whole_totals_of_neighbouri
abbrev hk : PySem.W.Hook := He.hookD 4 fa fn
def ob (s : PySem.W.SharedT) : He.AlD := He.obsDG 4 fa fn (HandSHeadRun.getT s)
theorem ob_eq (s : PySem.W.SharedT) : ob s = hk.obs s.abs := He.obsDG_eq (HandSHeadRun.getT_eq s)
def loose0 : List Str := ["LevelError", "InvalidCapacity", "InvalidSchedule", "InvalidLevel", "MAX_CAPACITY", "MAX_AMOUNT", "MAX_COMMANDS", "is_between", "check_capacity", "check_level", "is_command", "are_commands", "check_schedule", "after", "levels_from", "sums_from", "totals", "_law_source", "_law_draw", "_law_choice", "_law_kind", "_law_equal", "_law_schedule", "_law_after", "_law_levels"]
def loose : List Str := loose0
theorem run (w : World) : HandSHeadRun.RunEq R (PySem.W.view R.prog [28]) hk ob 20000 loose w := by
  intro os
  kernel_rfl
theorem facts {P : Program} {w : World} {K : PySem.W.Frag} {h : Heap} {mg : Str → Option Value} {f : Addr} (X : K.In h) (G : h.Ns mainGlobals mg) (hfa : mg ("law" : Str) = some (.ref f)) (c : He.SaysD fa fn K) :
    ∃ fd : FuncData, (∀ (s : Shared) (v : Value), BindsTo s fd ⟨[v], []⟩ [("script", v)]) ∧ ∀ base : Heap, K.In base → base.Ns mainGlobals mg → FnOk P w K mg base CX0 15 f fd ["script"] (spD K f_law) := by
  obtain ⟨fd_is_between, F_is_between⟩ := c.def_ 0 (d := d_is_between) rfl
  obtain ⟨fd_check_capacity, F_check_capacity⟩ := c.def_ 1 (d := d_check_capacity) rfl
  obtain ⟨fd_check_level, F_check_level⟩ := c.def_ 2 (d := d_check_level) rfl
  obtain ⟨fd_is_command, F_is_command⟩ := c.def_ 3 (d := d_is_command) rfl
  obtain ⟨fd_are_commands, F_are_commands⟩ := c.def_ 4 (d := d_are_commands) rfl
  obtain ⟨fd_check_schedule, F_check_schedule⟩ := c.def_ 5 (d := d_check_schedule) rfl
  obtain ⟨fd_after, F_after⟩ := c.def_ 6 (d := d_after) rfl
  obtain ⟨fd_levels_from, F_levels_from⟩ := c.def_ 7 (d := d_levels_from) rfl
  obtain ⟨fd_sums_from, F_sums_from⟩ := c.def_ 8 (d := d_sums_from) rfl
  obtain ⟨fd_totals, F_totals⟩ := c.def_ 9 (d := d_totals) rfl
  obtain ⟨fd_law_source, F_law_source⟩ := c.def_ 10 (d := d_law_source) rfl
  obtain ⟨fd_law_draw, F_law_draw⟩ := c.def_ 11 (d := d_law_draw) rfl
  obtain ⟨fd_law_choice, F_law_choice⟩ := c.def_ 12 (d := d_law_choice) rfl
  obtain ⟨fd_law_kind, F_law_kind⟩ := c.def_ 13 (d := d_law_kind) rfl
  obtain ⟨fd_law_equal, F_law_equal⟩ := c.def_ 14 (d := d_law_equal) rfl
  obtain ⟨fd_law_schedule, F_law_schedule⟩ := c.def_ 15 (d := d_law_schedule) rfl
  obtain ⟨fd_law_after, F_law_after⟩ := c.def_ 16 (d := d_law_after) rfl
  obtain ⟨fd_law_levels, F_law_levels⟩ := c.def_ 17 (d := d_law_levels) rfl
  obtain ⟨fd_law, F_law⟩ := c.def_ 18 (d := d_law) rfl
  have B : Bf mg := ⟨He.free_ok X G (c.fact 19 (f := He.Fa.free "all") rfl), He.free_ok X G (c.fact 20 (f := He.Fa.free "bool") rfl), He.free_ok X G (c.fact 21 (f := He.Fa.free "enumerate") rfl), He.free_ok X G (c.fact 22 (f := He.Fa.free "int") rfl), He.free_ok X G (c.fact 23 (f := He.Fa.free "isinstance") rfl), He.free_ok X G (c.fact 24 (f := He.Fa.free "len") rfl), He.free_ok X G (c.fact 25 (f := He.Fa.free "list") rfl), He.free_ok X G (c.fact 26 (f := He.Fa.free "max") rfl), He.free_ok X G (c.fact 27 (f := He.Fa.free "min") rfl), He.free_ok X G (c.fact 28 (f := He.Fa.free "range") rfl), He.free_ok X G (c.fact 29 (f := He.Fa.free "str") rfl), He.free_ok X G (c.fact 30 (f := He.Fa.free "sum") rfl), He.free_ok X G (c.fact 31 (f := He.Fa.free "tuple") rfl), He.free_ok X G (c.fact 32 (f := He.Fa.free "zip") rfl), He.int_ok X G (c.fact 33 (f := He.Fa.int "MAX_AMOUNT" 60) rfl), He.int_ok X G (c.fact 34 (f := He.Fa.int "MAX_CAPACITY" 60) rfl), He.int_ok X G (c.fact 35 (f := He.Fa.int "MAX_COMMANDS" 60) rfl)⟩
  have e := hfa.symm.trans (He.glo_ok X G (c.fact 18 (f := He.Fa.glo "law") rfl))
  cases e
  have b := FunD.bindsA (ps := ["script"]) F_law fun _ _ _ _ _ _ us hl => match us, hl with | [_], _ => rfl
  refine ⟨fd_law, fun s v => b s [v] rfl, fun base _ _ => ?_⟩
  have G_is_between : Cal P w K mg base 1 "is_between" (spD K f_is_between) := cal_is_between B F_is_between (He.glo_ok X G (c.fact 0 (f := He.Fa.glo "is_between") rfl)) 
  have G_check_capacity : Cal P w K mg base 2 "check_capacity" (spD K f_check_capacity) := cal_check_capacity B F_check_capacity (He.glo_ok X G (c.fact 1 (f := He.Fa.glo "check_capacity") rfl)) G_is_between
  have G_check_level : Cal P w K mg base 2 "check_level" (spD K f_check_level) := cal_check_level B F_check_level (He.glo_ok X G (c.fact 2 (f := He.Fa.glo "check_level") rfl)) G_is_between
  have G_is_command : Cal P w K mg base 2 "is_command" (spD K f_is_command) := cal_is_command B F_is_command (He.glo_ok X G (c.fact 3 (f := He.Fa.glo "is_command") rfl)) G_is_between
  have G_are_commands : Cal P w K mg base 3 "are_commands" (spD K f_are_commands) := cal_are_commands B F_are_commands (He.glo_ok X G (c.fact 4 (f := He.Fa.glo "are_commands") rfl)) G_is_command
  have G_check_schedule : Cal P w K mg base 4 "check_schedule" (spD K f_check_schedule) := cal_check_schedule B F_check_schedule (He.glo_ok X G (c.fact 5 (f := He.Fa.glo "check_schedule") rfl)) G_are_commands
  have G_after : Cal P w K mg base 1 "after" (spD K f_after) := cal_after B F_after (He.glo_ok X G (c.fact 6 (f := He.Fa.glo "after") rfl)) 
  have G_levels_from : Cal P w K mg base 2 "levels_from" (spN K f_levels_from) := cal_levels_from B F_levels_from (He.glo_ok X G (c.fact 7 (f := He.Fa.glo "levels_from") rfl)) G_after
  have G_sums_from : Cal P w K mg base 3 "sums_from" (spD K f_sums_from) := cal_sums_from B F_sums_from (He.glo_ok X G (c.fact 8 (f := He.Fa.glo "sums_from") rfl)) G_levels_from
  have G_totals : Cal P w K mg base 5 "totals" (spD K f_totals) := cal_totals B F_totals (He.glo_ok X G (c.fact 9 (f := He.Fa.glo "totals") rfl)) G_check_capacity G_check_level G_check_schedule G_sums_from
  have G_law_source : Cal P w K mg base 1 "_law_source" (spN K f_law_source) := cal_law_source B F_law_source (He.glo_ok X G (c.fact 10 (f := He.Fa.glo "_law_source") rfl)) 
  have G_law_draw : Cal P w K mg base 1 "_law_draw" (spI K f_law_draw) := cal_law_draw B F_law_draw (He.glo_ok X G (c.fact 11 (f := He.Fa.glo "_law_draw") rfl)) 
  have G_law_choice : Cal P w K mg base 2 "_law_choice" (spI K f_law_choice) := cal_law_choice B F_law_choice (He.glo_ok X G (c.fact 12 (f := He.Fa.glo "_law_choice") rfl)) G_law_draw
  have G_law_kind : Cal P w K mg base 1 "_law_kind" (spD K f_law_kind) := cal_law_kind B F_law_kind (He.glo_ok X G (c.fact 13 (f := He.Fa.glo "_law_kind") rfl)) 
  have G_law_equal : Cal P w K mg base 14 "_law_equal" (spD K (f_law_equal 12)) := cal_law_equal B F_law_equal (He.glo_ok X G (c.fact 14 (f := He.Fa.glo "_law_equal") rfl)) G_law_kind 12
  have G_law_schedule : Cal P w K mg base 3 "_law_schedule" (spI K f_law_schedule) := cal_law_schedule B F_law_schedule (He.glo_ok X G (c.fact 15 (f := He.Fa.glo "_law_schedule") rfl)) G_law_draw G_law_choice
  have G_law_after : Cal P w K mg base 1 "_law_after" (spD K f_law_after) := cal_law_after B F_law_after (He.glo_ok X G (c.fact 16 (f := He.Fa.glo "_law_after") rfl)) 
  have G_law_levels : Cal P w K mg base 2 "_law_levels" (spN K f_law_levels) := cal_law_levels B F_law_levels (He.glo_ok X G (c.fact 17 (f := He.Fa.glo "_law_levels") rfl)) G_law_after
  exact ok_law B F_law (He.glo_ok X G (c.fact 18 (f := He.Fa.glo "law") rfl)) G_totals G_law_source G_law_draw G_law_choice G_law_equal G_law_schedule G_law_levels
end DL.k04

open PySem PySem.W PyProof.Rows
set_option maxRecDepth 100000 in
set_option maxHeartbeats 0 in
theorem PySem.Challenge.cw_levelmaps_k04_whole_totals_of_neighbouri_holds : PySem.Challenge.rw_levelmaps_k04_whole_totals_of_neighbouri.Holds := by
  w_on; o_law
  refine HandSHeadRun.head_any (r := OpenLaw.row PySem.Challenge.rw_levelmaps_k04_whole_totals_of_neighbouri) (q := view (OpenLaw.row PySem.Challenge.rw_levelmaps_k04_whole_totals_of_neighbouri).prog [28]) (H := DL.k04.hk) (ob := DL.k04.ob) (M := 20000) (loose := DL.k04.loose) (d := HandSHeadRun.topDef (OpenLaw.row PySem.Challenge.rw_levelmaps_k04_whole_totals_of_neighbouri).prog 28) (kwd := []) DL.k04.ob_eq
    (by kernel_rfl) (fun s => by kernel_rfl) DL.k04.run (by kernel_rfl) (by kernel_rfl) (by kernel_rfl) (by rfl) (by first | assumption | decide +kernel) (by decide +kernel) ⟨rfl, rfl, rfl, rfl, rfl, by decide +kernel⟩ ?hw ?hc
  case hw => w_witness2
  case hc =>
    refine DL.walk_ofEB (l := PySem.Challenge.rw_levelmaps_k04_whole_totals_of_neighbouri) (n := 63) (k := 15) (x := "script") (CX := L2.CX0) rfl (by decide) (by kernel_rfl) ⟨rfl, by decide, by decide⟩ ?F (fun _ _ _ _ z => z)
    intro w mg fa h Y G hmg0
    obtain ⟨K, KX, c⟩ := Y
    have hmg : mg ("law" : PySem.Str) = some (.ref fa) := by
      have e : (HandSHeadRun.topDef (OpenLaw.row PySem.Challenge.rw_levelmaps_k04_whole_totals_of_neighbouri).prog 28).name = ("law" : PySem.Str) := by kernel_rfl
      rw [← e]
      exact hmg0
    obtain ⟨fd, hb, hF⟩ := DL.k04.facts (P := (PySem.Challenge.rw_levelmaps_k04_whole_totals_of_neighbouri).prog) (w := w) KX G hmg c
    exact ⟨K, fd, DL.spD K DL.k04.f_law, KX, hb, fun H a ns hl hbit _ hS => DL.law_end (DL.k04.law_ok ns hl) hS, hF⟩
