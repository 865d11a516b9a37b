import PyProof.Rows.All
import PySem.Str
import Wide.All
import OpenK.AllK
import Wide.FinOn
import KE.DataEq
import HandS.ForMost
import HandS.Walk
import HandS.TupAny
import HandS.TupLe
import HandS.Conv
import HandS.IsInst
import HandS.Deep
import HandS.Zip
import HandS.TupMul
import HandS.Wide
import HandS.Style
import HandS.Defaults
import HandS.TupLen
import KE.KTupSum
import PyProof.MinMaxWalk
import PyProof.WalksMore
import PyProof.SeqI3
import PyProof.DictWalks
import KE.GoesEnum
import HandS.Head0
import HandS.Head1
import HandS.Head2
import HandS.HeadEnd
import HandS.EndBits
import HandS.HeadHook1
import HandS.HeadHook2
import KE.KRevSl
import HandS.SortRule
import HandS.SortInts
import HandS.More
import HandS.DictComp
import HandS.ListItems
import KE.KDictZip
import KE.KItemsList
import HandS.SetFor
import HandS.Strs
import PyProof.Rows.TupDisplay
import KE.KDictCopyH
import KE.KEqDict
import PySem.Challenge.RW_levelmaps_k29_whole_effects_of_all_order
set_option Elab.async false
set_option linter.all false
set_option maxRecDepth 100000
set_option maxHeartbeats 4000000

/-! The data level: plain values of the programs, slots, and the small machine of combinators that a def's body is turned into. Nothing of Python's model stands here. -/
namespace DL
open PySem
abbrev Ky := Sum Int Str
/-- a plain value, without addresses -/
inductive D where
  | non | bl (b : Bool) | int (i : Int) | str (s : Str)
  | lst (xs : List D) | tup (xs : List D)
  | dK (ks : List Ky) (vs : List D) | dT (ks : List (List Ky)) (vs : List D)
  deriving Inhabited
/-- what a dict of the slot's own holds: keys ints and texts, or tuples of them -/
inductive Od where
  | k (kvs : List (Ky × D)) | t (kvs : List (List Ky × D))
  deriving Inhabited
/-- a slot: unbound (or not told), a value that nobody changes any more, a list of the slot's own, a dict of the slot's own -/
inductive Sl where
  | un | im (d : D) | ow (xs : List D) | od (q : Od)
  deriving Inhabited
abbrev Env := List Sl
/-- what a def hands back: a value, or a new list -/
inductive Rv where
  | im (d : D) | ow (xs : List D)
inductive Fl where
  | nx | bk | ct | ret (r : Rv)
abbrev M (α : Type) := Env → Option (α × Env)
/-- the most items that a list or tuple may have -/
abbrev cap : Nat := 16777216
mutual
/-- == of Python -/
def D.eqv : D → D → Bool
  | .non, .non => true
  | .bl a, .bl b => a == b
  | .bl a, .int j => (if a then 1 else 0) == j
  | .int i, .bl b => i == (if b then 1 else 0)
  | .int i, .int j => i == j
  | .str x, .str y => x == y
  | .lst xs, .lst ys => D.eqvL xs ys
  | .tup xs, .tup ys => D.eqvL xs ys
  | _, _ => false
def D.eqvL : List D → List D → Bool
  | [], [] => true
  | x :: xs, y :: ys => D.eqv x y && D.eqvL xs ys
  | _, _ => false
end
mutual
/-- no dict within -/
def D.pl : D → Bool
  | .lst xs | .tup xs => D.plL xs
  | .dK _ _ | .dT _ _ => false
  | _ => true
def D.plL : List D → Bool
  | [] => true
  | x :: xs => D.pl x && D.plL xs
end
mutual
def D.dep : D → Nat
  | .lst xs | .tup xs => D.depL xs + 1
  | _ => 0
def D.depL : List D → Nat
  | [] => 0
  | x :: xs => max (D.dep x) (D.depL xs)
end
/-- comparable by == within the model's depth -/
def D.ok (d : D) : Bool := D.pl d && decide (D.dep d ≤ 60)

/-! ### dicts -/
section
variable {κ ν : Type} [DecidableEq κ]
def aget : List (κ × ν) → κ → Option ν
  | [], _ => none
  | p :: r, k => if p.1 = k then some p.2 else aget r k
def arep : List (κ × ν) → κ → ν → List (κ × ν)
  | [], _, _ => []
  | p :: r, k, v => (if p.1 = k then (p.1, v) else p) :: arep r k v
def aput (kvs : List (κ × ν)) (k : κ) (v : ν) : List (κ × ν) := if (aget kvs k).isSome then arep kvs k v else kvs ++ [(k, v)]
end
def Od.d : Od → D
  | .k kvs => .dK (kvs.map (·.1)) (kvs.map (·.2))
  | .t kvs => .dT (kvs.map (·.1)) (kvs.map (·.2))
def kyD : Ky → D
  | .inl i => .int i
  | .inr s => .str s
def D.ky : D → Option Ky
  | .int i => some (.inl i)
  | .str s => some (.inr s)
  | _ => none
def D.kys : List D → Option (List Ky)
  | [] => some []
  | d :: r => match D.ky d with
    | none => none
    | some k => match D.kys r with
      | none => none
      | some ks => some (k :: ks)
def Od.get : Od → D → Option (Option D)
  | .k kvs, d => match D.ky d with
    | none => none
    | some z => some (aget kvs z)
  | .t kvs, .tup xs => match D.kys xs with
    | none => none
    | some z => some (aget kvs z)
  | _, _ => none
def Od.len : Od → Nat
  | .k kvs => kvs.length
  | .t kvs => kvs.length
def Od.put (q : Od) (d v : D) : Option Od := if q.len < cap then (match q, d with
  | .k kvs, d => (match D.ky d with
    | none => none
    | some z => some (.k (aput kvs z v)))
  | .t kvs, .tup xs => (match D.kys xs with
    | none => none
    | some z => some (.t (aput kvs z v)))
  | _, _ => none) else none
/-- a dict's value as what it holds -/
def D.od : D → Option Od
  | .dK ks vs => some (.k (ks.zip vs))
  | .dT ks vs => some (.t (ks.zip vs))
  | _ => none
def D.getD (d y : D) : Option (Option D) := match D.od d with
  | none => none
  | some q => q.get y
/-! ### places -/
def ix (n : Nat) (i : Int) : Option Nat := if 0 ≤ i then (if i < n then some i.toNat else none) else if -(n : Int) ≤ i then some (i + n).toNat else none
def at' (xs : List D) (i : Int) : Option D := match ix xs.length i with
  | none => none
  | some j => xs[j]?
def six (n d : Nat) : Option Int → Nat
  | none => d
  | some v => if v < 0 then (v + (n : Int)).toNat else min v.toNat n
def cut (xs : List D) (lo hi : Option Int) : List D := (xs.drop (six xs.length 0 lo)).take (six xs.length xs.length hi - six xs.length 0 lo)

/-! ### operations on values -/
def oAdd : D → D → Option D
  | .int i, .int j => some (.int (i + j))
  | .tup a, .tup b => if a.length + b.length ≤ cap then some (.tup (a ++ b)) else none
  | .lst a, .lst b => if a.length + b.length ≤ cap then some (.lst (a ++ b)) else none
  | _, _ => none
def oAddI : D → D → Option D
  | .int i, .int j => some (.int (i + j))
  | _, _ => none
def oSub : D → D → Option D
  | .int i, .int j => some (.int (i - j))
  | _, _ => none
def small (i : Int) : Bool := decide (-(2 ^ 64) < i ∧ i < 2 ^ 64)
def oMul : D → D → Option D
  | .int i, .int j => if small i || small j then some (.int (i * j)) else none
  | .tup xs, .int k => if !xs.isEmpty && decide (2 ≤ k ∧ k ≤ 1000 ∧ xs.length ≤ 1000) then some (.tup (List.replicate k.toNat xs).flatten) else none
  | _, _ => none
def oDiv : D → D → Option D
  | .int i, .int j => if decide (0 < j ∧ j < 2 ^ 64) then some (.int (i / j)) else none
  | _, _ => none
def oMod : D → D → Option D
  | .int i, .int j => if decide (0 < j) then some (.int (i % j)) else none
  | _, _ => none
def oPow : D → D → Option D
  | .int i, .int j => if decide (0 ≤ j ∧ j ≤ 1000000 ∧ i.natAbs < 2 ^ 64) then some (.int (i ^ j.toNat)) else none
  | _, _ => none
def oNeg : D → Option D
  | .int i => some (.int (-i))
  | _ => none
def oEq (x y : D) : Option D := if D.ok x && D.ok y then some (.bl (D.eqv x y)) else none
def oNe (x y : D) : Option D := if D.ok x && D.ok y then some (.bl (!D.eqv x y)) else none
def oLt : D → D → Option D
  | .int i, .int j => some (.bl (decide (i < j)))
  | _, _ => none
def oLe : D → D → Option D
  | .int i, .int j => some (.bl (decide (i ≤ j)))
  | _, _ => none
def oGt : D → D → Option D
  | .int i, .int j => some (.bl (decide (j < i)))
  | _, _ => none
def oGe : D → D → Option D
  | .int i, .int j => some (.bl (decide (j ≤ i)))
  | _, _ => none
def D.isNon : D → Bool
  | .non => true
  | _ => false
/-- x is None (the right side is None) -/
def oIsN (x y : D) : Option D := if D.isNon y then some (.bl (D.isNon x)) else none
def oNotN (x y : D) : Option D := if D.isNon y then some (.bl (!D.isNon x)) else none
def oIsB : D → D → Option D
  | .bl a, .bl b => some (.bl (decide (a = b)))
  | _, _ => none
def oNotB : D → D → Option D
  | .bl a, .bl b => some (.bl (!decide (a = b)))
  | _, _ => none
def oIn (x y : D) : Option D := match y with
  | .lst ds | .tup ds => if D.ok x && D.plL ds && decide (D.depL ds ≤ 60) then some (.bl (ds.any fun z => D.eqv z x)) else none
  | y => match D.getD y x with
    | none => none
    | some o => some (.bl o.isSome)
def oNotIn (x y : D) : Option D := match y with
  | .lst ds | .tup ds => if D.ok x && D.plL ds && decide (D.depL ds ≤ 60) then some (.bl (!ds.any fun z => D.eqv z x)) else none
  | y => match D.getD y x with
    | none => none
    | some o => some (.bl (!o.isSome))
def oIx : D → D → Option D
  | .lst xs, .int i | .tup xs, .int i => at' xs i
  | d, y => match D.getD d y with
    | some (some v) => some v
    | _ => none
/-! ### built-ins -/
def D.ints : List D → Option (List Int)
  | [] => some []
  | .int i :: r => match D.ints r with
    | none => none
    | some l => some (i :: l)
  | _ => none
def D.bls : List D → Option (List Bool)
  | [] => some []
  | .bl b :: r => match D.bls r with
    | none => none
    | some l => some (b :: l)
  | _ => none
def fLen : List D → Option D
  | [.lst xs] | [.tup xs] => some (.int xs.length)
  | [.dK ks _] => some (.int ks.length)
  | [.dT ks _] => some (.int ks.length)
  | _ => none
def kyInts : List Ky → Option (List Int)
  | [] => some []
  | .inl i :: r => match kyInts r with
    | none => none
    | some l => some (i :: l)
  | _ => none
def maxI (a : Int) (l : List Int) : Int := l.foldl max a
def minI (a : Int) (l : List Int) : Int := l.foldl min a
def fMax : List D → Option D
  | [.int i, .int j] => some (.int (max i j))
  | [.tup xs] => match D.ints xs with
    | some (a :: l) => some (.int (maxI a l))
    | _ => none
  | [.lst xs] => match D.ints xs with
    | some (a :: l) => some (.int (maxI a l))
    | _ => none
  | _ => none
def fMin : List D → Option D
  | [.int i, .int j] => some (.int (min i j))
  | [.tup xs] => match D.ints xs with
    | some (a :: l) => some (.int (minI a l))
    | _ => none
  | [.lst xs] => match D.ints xs with
    | some (a :: l) => some (.int (minI a l))
    | _ => none
  | [.dK ks _] => match kyInts ks with
    | some (a :: l) => some (.int (minI a l))
    | _ => none
  | _ => none
def fSum : List D → Option D
  | [.lst xs] => match D.ints xs with
    | none => none
    | some l => some (.int l.sum)
  | [.tup xs] => match D.ints xs with
    | none => none
    | some l => some (.int l.sum)
  | _ => none
def fAbs : List D → Option D
  | [.int i] => some (.int (if i < 0 then -i else i))
  | _ => none
def fAll : List D → Option D
  | [.lst xs] => match D.bls xs with
    | none => none
    | some l => some (.bl (l.all id))
  | _ => none
def fAny : List D → Option D
  | [.lst xs] => match D.bls xs with
    | none => none
    | some l => some (.bl (l.any id))
  | _ => none
def fTuple : List D → Option D
  | [.lst xs] | [.tup xs] => some (.tup xs)
  | _ => none
def fList : List D → Option D
  | [.lst xs] | [.tup xs] => some (.lst xs)
  | _ => none
def fInt : List D → Option D
  | [.int i] => some (.int i)
  | [.bl b] => some (.int (if b then 1 else 0))
  | _ => none
/-- the five built-in types that the laws ask for -/
inductive Ty where
  | bool | int | str | list | tuple
  deriving DecidableEq
def D.isA : D → Ty → Bool
  | .bl _, .bool | .bl _, .int | .int _, .int | .str _, .str | .lst _, .list | .tup _, .tuple => true
  | _, _ => false
def rng (a b : Int) : List D := (List.range (b - a).toNat).map fun i => .int (a + (i : Nat))

/-! ### expressions -/
def mVar (i : Nat) : M D := fun e => match e[i]? with
  | some (.im d) => some (d, e)
  | _ => none
def mC (d : D) : M D := fun e => some (d, e)
def mBin (op : D → D → Option D) (a b : M D) : M D := fun e => match a e with
  | none => none
  | some (x, e1) => match b e1 with
    | none => none
    | some (y, e2) => match op x y with
      | none => none
      | some z => some (z, e2)
def mUn (op : D → Option D) (a : M D) : M D := fun e => match a e with
  | none => none
  | some (x, e1) => match op x with
    | none => none
    | some z => some (z, e1)
/-- a op1 b op2 c -/
def mChain (op op' : D → D → Option D) (a b c : M D) : M D := fun e => match a e with
  | none => none
  | some (x, e1) => match b e1 with
    | none => none
    | some (y, e2) => match op x y with
      | some (.bl true) => (match c e2 with
        | none => none
        | some (z, e3) => match op' y z with
          | none => none
          | some u => some (u, e3))
      | some (.bl false) => some (.bl false, e2)
      | _ => none
def mIf (t : M Bool) (a b : M D) : M D := fun e => match t e with
  | none => none
  | some (true, e1) => a e1
  | some (false, e1) => b e1
def mNil : M (List D) := fun e => some ([], e)
def mCons (a : M D) (r : M (List D)) : M (List D) := fun e => match a e with
  | none => none
  | some (x, e1) => match r e1 with
    | none => none
    | some (xs, e2) => some (x :: xs, e2)
def mTup (a : M (List D)) : M D := fun e => match a e with
  | none => none
  | some (xs, e1) => if xs.length ≤ cap then some (.tup xs, e1) else none
/-- a call by values -/
def mF (f : List D → Option D) (a : M (List D)) : M D := fun e => match a e with
  | none => none
  | some (xs, e1) => match f xs with
    | none => none
    | some d => some (d, e1)
/-- a call that changes the caller's own list in slot j: its first argument -/
def mFI (f : List D → List D → Option (D × List D)) (j : Nat) (a : M (List D)) : M D := fun e => match e[j]? with
  | some (.ow _) => (match a e with
    | none => none
    | some (xs, e1) => match e1[j]? with
      | some (.ow s) => (match f s xs with
        | none => none
        | some (d, s') => some (d, e1.set j (.ow s')))
      | _ => none)
  | _ => none
def oIsi (t : Ty) : D → Option D
  | .dK _ _ | .dT _ _ => none
  | d => some (.bl (d.isA t))
def mIsi (t : Ty) (a : M D) : M D := mUn (oIsi t) a
/-- isinstance(x, (t, u)) -/
def oIsi2 (t u : Ty) : D → Option D
  | .dK _ _ | .dT _ _ => none
  | d => some (.bl (d.isA t || d.isA u))
def mIsi2 (t u : Ty) (a : M D) : M D := mUn (oIsi2 t u) a
def oPart (f : List D → List D) : D → Option D
  | .lst xs => some (.lst (f xs))
  | .tup xs => some (.tup (f xs))
  | _ => none
def D.oi : D → Option (Option Int)
  | .int i => some (some i)
  | _ => none
def mPart (a : M D) : M (Option Int) := fun e => match a e with
  | some (.int i, e1) => some (some i, e1)
  | _ => none
def mNoPart : M (Option Int) := fun e => some (none, e)
def mSlice (a : M D) (lo hi : M (Option Int)) : M D := fun e => match a e with
  | none => none
  | some (x, e1) => match lo e1 with
    | none => none
    | some (l, e2) => match hi e2 with
      | none => none
      | some (h, e3) => match oPart (fun xs => cut xs l h) x with
        | none => none
        | some z => some (z, e3)
/-- own[i], len(own), own == [], own != [] -/
def mOIx (j : Nat) (a : M D) : M D := fun e => match e[j]? with
  | some (.ow _) => (match a e with
    | some (.int i, e1) => (match e1[j]? with
      | some (.ow xs) => (match at' xs i with
        | none => none
        | some d => some (d, e1))
      | _ => none)
    | _ => none)
  | _ => none
def mOLen (j : Nat) : M D := fun e => match e[j]? with
  | some (.ow xs) => some (.int xs.length, e)
  | _ => none
/-- own op y, x op own -/
def mOBin (op : D → D → Option D) (j : Nat) (b : M D) : M D := fun e => match e[j]? with
  | some (.ow _) => (match b e with
    | none => none
    | some (y, e1) => match e1[j]? with
      | some (.ow xs) => (match op (.lst xs) y with
        | none => none
        | some z => some (z, e1))
      | _ => none)
  | _ => none
def mBinO (op : D → D → Option D) (a : M D) (j : Nat) : M D := fun e => match a e with
  | none => none
  | some (x, e1) => match e1[j]? with
    | some (.ow xs) => (match op x (.lst xs) with
      | none => none
      | some z => some (z, e1))
    | _ => none
/-! ### tests -/
def tVal (a : M D) : M Bool := fun e => match a e with
  | some (.bl b, e1) => some (b, e1)
  | _ => none
def tAnd (a b : M Bool) : M Bool := fun e => match a e with
  | none => none
  | some (true, e1) => b e1
  | some (false, e1) => some (false, e1)
def tOr (a b : M Bool) : M Bool := fun e => match a e with
  | none => none
  | some (true, e1) => some (true, e1)
  | some (false, e1) => b e1
def tNot (a : M Bool) : M Bool := fun e => match a e with
  | none => none
  | some (b, e1) => some (!b, e1)
def tYes : M Bool := fun e => some (true, e)
/-- and, or, not as values: all but the last are truth values -/
def mAnd (a b : M D) : M D := fun e => match a e with
  | some (.bl true, e1) => b e1
  | some (.bl false, e1) => some (.bl false, e1)
  | _ => none
def mOr (a b : M D) : M D := fun e => match a e with
  | some (.bl true, e1) => some (.bl true, e1)
  | some (.bl false, e1) => b e1
  | _ => none
def mNot (a : M D) : M D := fun e => match a e with
  | some (.bl b, e1) => some (.bl (!b), e1)
  | _ => none
/-! ### what is walked -/
def iSeq (a : M D) : M (List D) := fun e => match a e with
  | some (.lst xs, e1) => some (xs, e1)
  | some (.tup xs, e1) => some (xs, e1)
  | some (.dK ks _, e1) => some (ks.map kyD, e1)
  | some (.dT ks _, e1) => some (ks.map fun k => .tup (k.map kyD), e1)
  | _ => none
def inR (i : Int) : Bool := decide (-(2 ^ 62) ≤ i ∧ i < 2 ^ 62)
def iRng (a b : M D) : M (List D) := fun e => match a e with
  | some (.int i, e1) => (match b e1 with
    | some (.int j, e2) => if inR i && inR j then some (rng i j, e2) else none
    | _ => none)
  | _ => none
/-- range(a, b, -1) -/
def rngD (a b : Int) : List D := (List.range (a - b).toNat).map fun i => .int (a + (i : Nat) * -1)
def iRngD (a b : M D) : M (List D) := fun e => match a e with
  | some (.int i, e1) => (match b e1 with
    | some (.int j, e2) => if inR i && inR j then some (rngD i j, e2) else none
    | _ => none)
  | _ => none
def zipD : List D → List D → List D
  | x :: xs, y :: ys => .tup [x, y] :: zipD xs ys
  | _, _ => []
def enumD : Nat → List D → List D
  | _, [] => []
  | i, x :: xs => .tup [.int (i : Nat), x] :: enumD (i + 1) xs
def iZip (a b : M D) : M (List D) := fun e => match a e with
  | some (.lst xs, e1) => (match b e1 with
    | some (.lst ys, e2) => some (zipD xs ys, e2)
    | _ => none)
  | some (.tup xs, e1) => (match b e1 with
    | some (.tup ys, e2) => some (zipD xs ys, e2)
    | _ => none)
  | _ => none
def iEnum (a : M D) : M (List D) := fun e => match a e with
  | some (.lst xs, e1) => some (enumD 0 xs, e1)
  | some (.tup xs, e1) => some (enumD 0 xs, e1)
  | _ => none
/-! ### targets -/
abbrev Pt := D → Env → Option Env
def pN (i : Nat) : Pt := fun d e => if i < e.length then some (e.set i (.im d)) else none
def pTs : List Pt → List D → Env → Option Env
  | [], [], e => some e
  | p :: ps, d :: ds, e => (match p d e with
    | none => none
    | some e1 => pTs ps ds e1)
  | _, _, _ => none
def pT (ps : List Pt) : Pt := fun d e => match d with
  | .tup ds => pTs ps ds e
  | _ => none
/-! ### comprehensions -/
def wipeE (e : Env) : List Nat → Env
  | [] => e
  | v :: vs => (wipeE e vs).set v .un
def backE (e0 e : Env) : List Nat → Env
  | [] => e
  | v :: vs => (backE e0 e vs).set v (match e0[v]? with
    | some (.im d) => .im d
    | _ => .un)
def compL (vs : List Nat) (p : Pt) (t : M Bool) (elt : M D) : List D → Env → List D → Option (List D × Env)
  | [], e, acc => some (acc, e)
  | d :: ds, e, acc => match p d (wipeE e vs) with
    | none => none
    | some e1 => match t e1 with
      | none => none
      | some (false, e2) => compL vs p t elt ds e2 acc
      | some (true, e2) => match elt e2 with
        | none => none
        | some (y, e3) => if acc.length < cap then compL vs p t elt ds e3 (acc ++ [y]) else none
def mComp (vs : List Nat) (it : M (List D)) (p : Pt) (t : M Bool) (elt : M D) : M (List D) := fun e => match it e with
  | none => none
  | some (ds, e1) => match compL vs p t elt ds (wipeE e1 vs) [] with
    | none => none
    | some (acc, e2) => some (acc, backE e1 e2 vs)
/-- a new list as a value -/
def mFr (a : M (List D)) : M D := fun e => match a e with
  | none => none
  | some (xs, e1) => some (.lst xs, e1)
def mLst (a : M (List D)) : M (List D) := fun e => match a e with
  | none => none
  | some (xs, e1) => if xs.length ≤ cap then some (xs, e1) else none
/-- a new list that an operation on values makes -/
def mNew (a : M D) : M (List D) := fun e => match a e with
  | some (.lst xs, e1) => some (xs, e1)
  | _ => none
/-! ### statements -/
abbrev Ms := M Fl
def sSet (p : Pt) (a : M D) : Ms := fun e => match a e with
  | none => none
  | some (d, e1) => match p d e1 with
    | none => none
    | some e2 => some (.nx, e2)
def sNew (i : Nat) (a : M (List D)) : Ms := fun e => match a e with
  | none => none
  | some (xs, e1) => if i < e1.length then some (.nx, e1.set i (.ow xs)) else none
/-- a value, or a new list, to be bound -/
def mIm (a : M D) : M Sl := fun e => match a e with
  | none => none
  | some (d, e1) => some (.im d, e1)
def mOw (a : M (List D)) : M Sl := fun e => match a e with
  | none => none
  | some (d, e1) => some (.ow d, e1)
/-- a, b = x, y -/
def sPar (i j : Nat) (a b : M Sl) : Ms := fun e => match a e with
  | none => none
  | some (x, e1) => match b e1 with
    | none => none
    | some (y, e2) => if i < e2.length && j < e2.length then some (.nx, (e2.set i x).set j y) else none
def sPar3 (i j l : Nat) (a b c : M Sl) : Ms := fun e => match a e with
  | none => none
  | some (x, e1) => match b e1 with
    | none => none
    | some (y, e2) => match c e2 with
      | none => none
      | some (z, e3) => if i < e3.length && j < e3.length && l < e3.length then some (.nx, ((e3.set i x).set j y).set l z) else none
def sAug (i : Nat) (op : D → D → Option D) (a : M D) : Ms := fun e => match e[i]? with
  | some (.im x) => (match a e with
    | none => none
    | some (y, e1) => match op x y with
      | none => none
      | some z => if i < e1.length then some (.nx, e1.set i (.im z)) else none)
  | _ => none
/-- own.append(x) -/
def sApp (j : Nat) (a : M D) : Ms := fun e => match e[j]? with
  | some (.ow _) => (match a e with
    | none => none
    | some (d, e1) => match e1[j]? with
      | some (.ow xs) => if xs.length < cap then some (.nx, e1.set j (.ow (xs ++ [d]))) else none
      | _ => none)
  | _ => none
/-- own[i] = x -/
def sOSet (j : Nat) (i a : M D) : Ms := fun e => match e[j]? with
  | some (.ow _) => (match a e with
    | none => none
    | some (d, e1) => match i e1 with
      | some (.int k, e2) => (match e2[j]? with
        | some (.ow xs) => (match ix xs.length k with
          | none => none
          | some n => some (.nx, e2.set j (.ow (xs.set n d))))
        | _ => none)
      | _ => none)
  | _ => none
/-- own += a list -/
def sExt (j : Nat) (a : M (List D)) : Ms := fun e => match e[j]? with
  | some (.ow _) => (match a e with
    | none => none
    | some (ys, e1) => match e1[j]? with
      | some (.ow xs) => if xs.length + ys.length ≤ cap then some (.nx, e1.set j (.ow (xs ++ ys))) else none
      | _ => none)
  | _ => none
def sExpr (a : M D) : Ms := fun e => match a e with
  | none => none
  | some (_, e1) => some (.nx, e1)
def sRet (a : M D) : Ms := fun e => match a e with
  | none => none
  | some (d, e1) => some (.ret (.im d), e1)
def sRetN (a : M (List D)) : Ms := fun e => match a e with
  | none => none
  | some (xs, e1) => some (.ret (.ow xs), e1)
/-- return own -/
def sRetO (j : Nat) : Ms := fun e => match e[j]? with
  | some (.ow xs) => some (.ret (.ow xs), e)
  | _ => none
def sPass : Ms := fun e => some (.nx, e)
def sBreak : Ms := fun e => some (.bk, e)
def sCont : Ms := fun e => some (.ct, e)
def sNever : Ms := fun _ => none
def sSeq (a b : Ms) : Ms := fun e => match a e with
  | none => none
  | some (.nx, e1) => b e1
  | some (f, e1) => some (f, e1)
def sIf (t : M Bool) (a b : Ms) : Ms := fun e => match t e with
  | none => none
  | some (true, e1) => a e1
  | some (false, e1) => b e1
/-- from here on the own list in slot j is a value -/
def frzE (j : Nat) (e : Env) : Env := match e[j]? with
  | some (.ow xs) => e.set j (.im (.lst xs))
  | some (.od q) => e.set j (.im q.d)
  | _ => e
def sFrz (j : Nat) (a : Ms) : Ms := fun e => a (frzE j e)
def forL (p : Pt) (b : Ms) : List D → Env → Option (Fl × Env)
  | [], e => some (.nx, e)
  | d :: ds, e => match p d e with
    | none => none
    | some e1 => match b e1 with
      | none => none
      | some (.nx, e2) => forL p b ds e2
      | some (.ct, e2) => forL p b ds e2
      | some (.bk, e2) => some (.nx, e2)
      | some (.ret r, e2) => some (.ret r, e2)
def sFor (it : M (List D)) (p : Pt) (b : Ms) : Ms := fun e => match it e with
  | none => none
  | some (ds, e1) => forL p b ds e1
def whileN (t : M Bool) (b : Ms) : Nat → Env → Option (Fl × Env)
  | 0, _ => none
  | n + 1, e => match t e with
    | none => none
    | some (false, e1) => some (.nx, e1)
    | some (true, e1) => match b e1 with
      | none => none
      | some (.nx, e2) => whileN t b n e2
      | some (.ct, e2) => whileN t b n e2
      | some (.bk, e2) => some (.nx, e2)
      | some (.ret r, e2) => some (.ret r, e2)
def sWhile (n : Nat) (t : M Bool) (b : Ms) : Ms := whileN t b n
/-! ### a def -/
def env0 (k : Nat) (ds : List D) : Env := ds.map .im ++ List.replicate (k - ds.length) .un
/-- hands back a value -/
def runD (n k : Nat) (m : Ms) (ds : List D) : Option D := if ds.length = n then (match m (env0 k ds) with
  | some (.nx, _) => some .non
  | some (.ret (.im d), _) => some d
  | _ => none) else none
/-- hands back a new list -/
def runN (n k : Nat) (m : Ms) (ds : List D) : Option (List D) := if ds.length = n then (match m (env0 k ds) with
  | some (.ret (.ow xs), _) => some xs
  | _ => none) else none
/-- changes its first argument, a list of the caller's own, and hands back a value -/
def runI (n k : Nat) (m : Ms) (s : List D) (ds : List D) : Option (D × List D) := if ds.length + 1 = n then (match m (.ow s :: env0 (k - 1) ds) with
  | some (.nx, .ow s' :: _) => some (.non, s')
  | some (.ret (.im d), .ow s' :: _) => some (d, s')
  | _ => none) else none
/-- list(x), a new one -/
def fListN : List D → Option (List D)
  | [.lst xs] | [.tup xs] => some xs
  | _ => none
def iins (a : Int) : List Int → List Int
  | [] => [a]
  | b :: r => if a ≤ b then a :: b :: r else b :: iins a r
def isort : List Int → List Int
  | [] => []
  | a :: r => iins a (isort r)
/-- the order of tuples of ints -/
def lexL : List Int → List Int → Bool
  | [], [] => false
  | [], _ :: _ => true
  | _ :: _, [] => false
  | x :: xs, y :: ys => if x = y then lexL xs ys else decide (x < y)
def lins (a : List Int) : List (List Int) → List (List Int)
  | [] => [a]
  | b :: r => if lexL b a then b :: lins a r else a :: b :: r
def lsort : List (List Int) → List (List Int)
  | [] => []
  | a :: r => lins a (lsort r)
def D.itups : List D → Option (List (List Int))
  | [] => some []
  | .tup xs :: r => (match D.ints xs with
    | some (a :: l) => (match D.itups r with
      | some ls => some ((a :: l) :: ls)
      | none => none)
    | _ => none)
  | _ => none
/-- sorted(x) of ints, or of tuples of ints that are not empty: a new list -/
def fSorted : List D → Option (List D)
  | [.dK ks _] => (match kyInts ks with
    | none => none
    | some l => if l.length < 64 then some ((isort l).map .int) else none)
  | [.lst xs] => (match D.ints xs with
    | none => (match D.itups xs with
      | none => none
      | some ls => some ((lsort ls).map fun l => .tup (l.map .int)))
    | some l => some ((isort l).map .int))
  | _ => none
/-- tuple(range(a, b)), list(range(a, b)) -/
def mRg (a b : M D) : M (List D) := fun e => match a e with
  | some (.int i, e1) => (match b e1 with
    | some (.int j, e2) => if inR i && inR j && decide ((j - i).toNat ≤ cap) then some (rng i j, e2) else none
    | _ => none)
  | _ => none
def mTupL (a : M (List D)) : M D := fun e => match a e with
  | none => none
  | some (xs, e1) => some (.tup xs, e1)
/-- xs[::-1] -/
def mRev (a : M D) : M (List D) := fun e => match a e with
  | some (.lst xs, e1) => some (xs.reverse, e1)
  | _ => none
/-- arguments some of which are own lists that the caller keeps: f may only look at them, and hands back a value without parts -/
def mConsO (j : Nat) (r : M (List D)) : M (List D) := fun e => match e[j]? with
  | some (.ow _) => (match r e with
    | none => none
    | some (xs, e1) => match e1[j]? with
      | some (.ow ys) => some (.lst ys :: xs, e1)
      | _ => none)
  | _ => none
def D.flat : D → Bool
  | .non | .bl _ | .int _ | .str _ => true
  | _ => false
def mFb (f : List D → Option D) (a : M (List D)) : M D := fun e => match a e with
  | none => none
  | some (xs, e1) => match f xs with
    | none => none
    | some d => if D.flat d then some (d, e1) else none
/-- t[::-1] of a tuple -/
def mRevT (a : M D) : M D := fun e => match a e with
  | some (.tup xs, e1) => some (.tup xs.reverse, e1)
  | _ => none
/-- a new list of a call -/
def mFN (f : List D → Option (List D)) (a : M (List D)) : M (List D) := fun e => match a e with
  | none => none
  | some (xs, e1) => match f xs with
    | none => none
    | some d => some (d, e1)
/-! ### dicts as values and as the slot's own -/
/-- x.get(k), x.get(k, y) of a value -/
def mGet1 (a b : M D) : M D := fun e => match a e with
  | none => none
  | some (d, e1) => match b e1 with
    | none => none
    | some (k, e2) => match D.getD d k with
      | none => none
      | some o => some (o.getD .non, e2)
def mGet2 (a b c : M D) : M D := fun e => match a e with
  | none => none
  | some (d, e1) => match b e1 with
    | none => none
    | some (k, e2) => match c e2 with
      | none => none
      | some (y, e3) => match D.getD d k with
        | none => none
        | some o => some (o.getD y, e3)
/-- x == {}, x != {} -/
def mEmpK (ne : Bool) (a : M D) : M D := fun e => match a e with
  | some (.dK ks _, e1) => some (.bl (ne != ks.isEmpty), e1)
  | _ => none
/-- own[k], own.get(k), own.get(k, y), k in own, len(own), list(own.items()) -/
def mODIx (j : Nat) (a : M D) : M D := fun e => match e[j]? with
  | some (.od _) => (match a e with
    | none => none
    | some (k, e1) => match e1[j]? with
      | some (.od q) => (match q.get k with
        | some (some v) => some (v, e1)
        | _ => none)
      | _ => none)
  | _ => none
def mODGet1 (j : Nat) (a : M D) : M D := fun e => match e[j]? with
  | some (.od _) => (match a e with
    | none => none
    | some (k, e1) => match e1[j]? with
      | some (.od q) => (match q.get k with
        | some o => some (o.getD .non, e1)
        | none => none)
      | _ => none)
  | _ => none
def mODGet2 (j : Nat) (a b : M D) : M D := fun e => match e[j]? with
  | some (.od _) => (match a e with
    | none => none
    | some (k, e1) => match b e1 with
      | none => none
      | some (y, e2) => match e2[j]? with
        | some (.od q) => (match q.get k with
          | some o => some (o.getD y, e2)
          | none => none)
        | _ => none)
  | _ => none
def mODIn (no : Bool) (a : M D) (j : Nat) : M D := fun e => match a e with
  | none => none
  | some (k, e1) => match e1[j]? with
    | some (.od q) => (match q.get k with
      | some o => some (.bl (no != o.isSome), e1)
      | none => none)
    | _ => none
def mODLen (j : Nat) : M D := fun e => match e[j]? with
  | some (.od q) => some (.int q.len, e)
  | _ => none
def mODItems (j : Nat) : M (List D) := fun e => match e[j]? with
  | some (.od (.k kvs)) => some (kvs.map fun p => .tup [kyD p.1, p.2], e)
  | _ => none
/-- own[k] = v -/
def sODPut (j : Nat) (k v : M D) : Ms := fun e => match v e with
  | none => none
  | some (y, e1) => match e1[j]? with
    | some (.od _) => (match k e1 with
      | none => none
      | some (x, e2) => match e2[j]? with
        | some (.od q) => (match q.put x y with
          | none => none
          | some q' => some (.nx, e2.set j (.od q')))
        | _ => none)
    | _ => none
/-- new dicts: {} (t: its keys are tuples), {k: v, ..}, {k: v for ..} -/
def mDNew (t : Bool) : M Od := fun e => some (if t then .t [] else .k [], e)
def mPairs : List (M D × M D) → M (List (Ky × D))
  | [], e => some ([], e)
  | (a, b) :: r, e => match a e with
    | none => none
    | some (x, e1) => match b e1 with
      | none => none
      | some (y, e2) => match mPairs r e2 with
        | none => none
        | some (ps, e3) => match D.ky x with
          | none => none
          | some k => some ((k, y) :: ps, e3)
def amerge (kvs more : List (Ky × D)) : List (Ky × D) := more.foldl (fun acc p => aput acc p.1 p.2) kvs
def mDisp (ps : List (M D × M D)) : M Od := fun e => match mPairs ps e with
  | none => none
  | some (kvs, e1) => if kvs.length ≤ 15 then some (.k (amerge [] kvs), e1) else none
def dcompL (vs : List Nat) (p : Pt) (t : M Bool) (ek ev : M D) : List D → Env → List (Ky × D) → Option (List (Ky × D) × Env)
  | [], e, acc => some (acc, e)
  | d :: ds, e, acc => match p d (wipeE e vs) with
    | none => none
    | some e1 => match t e1 with
      | none => none
      | some (false, e2) => dcompL vs p t ek ev ds e2 acc
      | some (true, e2) => match ek e2 with
        | none => none
        | some (x, e3) => match ev e3 with
          | none => none
          | some (y, e4) => match D.ky x with
            | none => none
            | some k => if acc.length < cap then dcompL vs p t ek ev ds e4 (aput acc k y) else none
def mDComp (vs : List Nat) (it : M (List D)) (p : Pt) (t : M Bool) (ek ev : M D) : M Od := fun e => match it e with
  | none => none
  | some (ds, e1) => match dcompL vs p t ek ev ds (wipeE e1 vs) [] with
    | none => none
    | some (acc, e2) => some (.k acc, backE e1 e2 vs)
/-- a new dict as a value; bound to a name -/
def mDFr (a : M Od) : M D := fun e => match a e with
  | none => none
  | some (q, e1) => some (q.d, e1)
def sDNew (i : Nat) (a : M Od) : Ms := fun e => match a e with
  | none => none
  | some (q, e1) => if i < e1.length then some (.nx, e1.set i (.od q)) else none
def mOd (a : M Od) : M Sl := fun e => match a e with
  | none => none
  | some (d, e1) => some (.od d, e1)
/-- a new list, this or that -/
def mIfN (t : M Bool) (a b : M (List D)) : M (List D) := fun e => match t e with
  | none => none
  | some (true, e1) => a e1
  | some (false, e1) => b e1
/-- list(zip(a, b)) -/
def mLZip (a b : M D) : M (List D) := fun e => match a e with
  | some (.lst xs, e1) => (match b e1 with
    | some (.lst ys, e2) => some (zipD xs ys, e2)
    | _ => none)
  | _ => none
/-- x.index(y) of a tuple, y there -/
def idxD : List D → D → Option Nat
  | [], _ => none
  | x :: r, y => if D.eqv x y then some 0 else (idxD r y).map (· + 1)
def mIndex (a b : M D) : M D := fun e => match a e with
  | some (.tup xs, e1) => (match b e1 with
    | some (y, e2) => if D.ok y && D.plL xs && decide (D.depL xs ≤ 60) then (match idxD xs y with
      | none => none
      | some i => some (.int (i : Nat), e2)) else none
    | none => none)
  | _ => none
/-- set(x) of ints: its number of items; sorted, fewer than 64 -/
def dedupI : List Int → List Int
  | [] => []
  | a :: r => if a ∈ r then dedupI r else a :: dedupI r
def fLenSet : List D → Option D
  | [.lst xs] => match D.ints xs with
    | none => none
    | some l => if l.length ≤ 4000 then some (.int (dedupI l).length) else none
  | [.tup xs] => match D.ints xs with
    | none => none
    | some l => if l.length ≤ 4000 then some (.int (dedupI l).length) else none
  | _ => none
def fSortedSet : List D → Option (List D)
  | [.lst xs] => match D.ints xs with
    | none => none
    | some l => if l.length ≤ 4000 ∧ (dedupI l).length < 64 then some ((isort (dedupI l)).map .int) else none
  | _ => none
theorem dedup_mem (x : Int) : ∀ l : List Int, x ∈ dedupI l ↔ x ∈ l
  | [] => Iff.rfl
  | a :: r => by
    have ih := dedup_mem x r
    simp only [dedupI]
    split
    · rename_i h
      rw [ih, List.mem_cons]
      exact ⟨.inr, fun z => z.elim (fun e => e ▸ h) id⟩
    · rw [List.mem_cons, List.mem_cons, ih]
theorem dedup_nd : ∀ l : List Int, (dedupI l).Nodup
  | [] => List.nodup_nil
  | a :: r => by
    have ih := dedup_nd r
    simp only [dedupI]
    split
    · exact ih
    · rename_i h
      exact List.nodup_cons.mpr ⟨fun z => h ((dedup_mem a r).mp z), ih⟩
/-! ### sorting -/
theorem iins_perm (a : Int) : ∀ l : List Int, (iins a l).Perm (a :: l)
  | [] => List.Perm.refl _
  | b :: r => by
    simp only [iins]
    split
    · exact List.Perm.refl _
    · exact ((iins_perm a r).cons b).trans (List.Perm.swap a b r)
theorem isort_perm : ∀ l : List Int, (isort l).Perm l
  | [] => List.Perm.refl _
  | a :: r => (iins_perm a (isort r)).trans ((isort_perm r).cons a)
theorem iins_srt (a : Int) : ∀ {l : List Int}, l.Pairwise (· ≤ ·) → (iins a l).Pairwise (· ≤ ·)
  | [], _ => List.pairwise_singleton _ _
  | b :: r, h => by
    simp only [iins]
    have h1 := List.pairwise_cons.mp h
    split
    · rename_i hab
      refine List.pairwise_cons.mpr ⟨fun x hx => ?_, h⟩
      rcases List.mem_cons.mp hx with rfl | hx
      · exact hab
      · have := h1.1 x hx; omega
    · rename_i hab
      refine List.pairwise_cons.mpr ⟨fun x hx => ?_, iins_srt a h1.2⟩
      rcases List.mem_cons.mp ((iins_perm a r).mem_iff.mp hx) with rfl | hx
      · omega
      · exact h1.1 x hx
theorem isort_srt : ∀ l : List Int, (isort l).Pairwise (· ≤ ·)
  | [] => List.Pairwise.nil
  | a :: r => iins_srt a (isort_srt r)
theorem srt_uniq : ∀ {l m : List Int}, l.Pairwise (· ≤ ·) → m.Pairwise (· ≤ ·) → l.Perm m → l = m
  | [], m, _, _, p => (List.nil_perm.mp p).symm
  | a :: l, [], _, _, p => (List.perm_nil.mp p)
  | a :: l, b :: m, h1, h2, p => by
    have ha := List.pairwise_cons.mp h1
    have hb := List.pairwise_cons.mp h2
    have e : a = b := by
      have m1 : a ∈ b :: m := p.mem_iff.mp (List.mem_cons_self ..)
      have m2 : b ∈ a :: l := p.mem_iff.mpr (List.mem_cons_self ..)
      rcases List.mem_cons.mp m1 with h | h
      · exact h
      · rcases List.mem_cons.mp m2 with h' | h'
        · exact h'.symm
        · have := hb.1 a h
          have := ha.1 b h'
          omega
    subst e
    rw [srt_uniq ha.2 hb.2 p.cons_inv]
theorem D.ints_back : ∀ {xs : List D} {l : List Int}, D.ints xs = some l → xs = l.map .int
  | [], l, h => by simp only [D.ints, Option.some.injEq] at h; subst h; rfl
  | x :: xs, l, h => by
    unfold D.ints at h
    split at h
    · rename_i he; cases he
    · rename_i i r he
      cases he
      split at h
      · cases h
      · rename_i l2 h2
        cases h
        rw [D.ints_back h2]
        rfl
    · cases h
theorem lexL_antisymm : ∀ {a b : List Int}, lexL a b = false → lexL b a = false → a = b
  | [], [], _, _ => rfl
  | [], _ :: _, h, _ => by cases h
  | _ :: _, [], _, h => by cases h
  | x :: xs, y :: ys, h1, h2 => by
    simp only [lexL] at h1 h2
    by_cases e : x = y
    · subst e
      simp only [if_true] at h1 h2
      rw [lexL_antisymm h1 h2]
    · rw [if_neg e, decide_eq_false_iff_not] at h1
      rw [if_neg (Ne.symm e), decide_eq_false_iff_not] at h2
      omega
theorem lexL_asym : ∀ {a b : List Int}, lexL a b = true → lexL b a = false
  | [], [], h => by cases h
  | [], _ :: _, _ => rfl
  | _ :: _, [], h => by cases h
  | x :: xs, y :: ys, h => by
    simp only [lexL] at h ⊢
    by_cases e : x = y
    · rw [if_pos e] at h; rw [if_pos e.symm]; exact lexL_asym h
    · rw [if_neg e, decide_eq_true_eq] at h; rw [if_neg (Ne.symm e)]; exact decide_eq_false (by omega)
theorem lexL_tr : ∀ {a b c : List Int}, lexL a b = false → lexL b c = false → lexL a c = false
  | [], [], _, _, h => h
  | [], _ :: _, _, h, _ => by cases h
  | _ :: _, _, [], _, _ => rfl
  | _ :: _, [], _ :: _, _, h => by cases h
  | x :: xs, y :: ys, z :: zs, h1, h2 => by
    simp only [lexL] at h1 h2 ⊢
    by_cases e1 : x = y
    · rw [if_pos e1] at h1
      subst e1
      by_cases e2 : x = z
      · rw [if_pos e2] at h2 ⊢; exact lexL_tr h1 h2
      · rw [if_neg e2] at h2 ⊢; exact h2
    · rw [if_neg e1, decide_eq_false_iff_not] at h1
      by_cases e2 : y = z
      · subst e2
        rw [if_neg e1]; exact decide_eq_false h1
      · rw [if_neg e2, decide_eq_false_iff_not] at h2
        rw [if_neg (by omega)]; exact decide_eq_false (by omega)
theorem lins_perm (a : List Int) : ∀ l, (lins a l).Perm (a :: l)
  | [] => List.Perm.refl _
  | b :: r => by
    simp only [lins]
    split
    · exact ((lins_perm a r).cons b).trans (List.Perm.swap a b r)
    · exact List.Perm.refl _
theorem lsort_perm : ∀ l, (lsort l).Perm l
  | [] => List.Perm.refl _
  | a :: r => (lins_perm a (lsort r)).trans ((lsort_perm r).cons a)
theorem lins_srt (a : List Int) : ∀ {l : List (List Int)}, l.Pairwise (fun x y => lexL y x = false) → (lins a l).Pairwise (fun x y => lexL y x = false)
  | [], _ => List.pairwise_singleton _ _
  | b :: r, h => by
    have h1 := List.pairwise_cons.mp h
    simp only [lins]
    split
    · rename_i hab
      refine List.pairwise_cons.mpr ⟨fun x hx => ?_, lins_srt a h1.2⟩
      rcases List.mem_cons.mp ((lins_perm a r).mem_iff.mp hx) with rfl | hx
      · exact lexL_asym hab
      · exact h1.1 x hx
    · rename_i hab
      have hab : lexL b a = false := by simpa using hab
      refine List.pairwise_cons.mpr ⟨fun x hx => ?_, h⟩
      rcases List.mem_cons.mp hx with rfl | hx
      · exact hab
      · exact lexL_tr (h1.1 x hx) hab
theorem lsort_srt : ∀ l, (lsort l).Pairwise (fun x y => lexL y x = false)
  | [] => List.Pairwise.nil
  | a :: r => lins_srt a (lsort_srt r)
theorem lsrt_uniq : ∀ {l m : List (List Int)}, l.Pairwise (fun x y => lexL y x = false) → m.Pairwise (fun x y => lexL y x = false) → l.Perm m → l = m
  | [], m, _, _, p => (List.nil_perm.mp p).symm
  | a :: l, [], _, _, p => (List.perm_nil.mp p)
  | a :: l, b :: m, h1, h2, p => by
    have ha := List.pairwise_cons.mp h1
    have hb := List.pairwise_cons.mp h2
    have e : a = b := by
      rcases List.mem_cons.mp (p.mem_iff.mp (List.mem_cons_self ..)) with h | h
      · exact h
      · rcases List.mem_cons.mp (p.mem_iff.mpr (List.mem_cons_self ..)) with h' | h'
        · exact h'.symm
        · exact lexL_antisymm (hb.1 a h) (ha.1 b h')
    subst e
    rw [lsrt_uniq ha.2 hb.2 p.cons_inv]
end DL

namespace DL
open PySem
/-- a call that changes a list made for it alone: f(e, n) -/
def mFT (f : List D → List D → Option (D × List D)) (m0 : M (List D)) (n : Int) : M D := fun e => match m0 e with
  | none => none
  | some (s, e1) => match f s [.int n] with
    | none => none
    | some (d, _) => some (d, e1)
/-- {t: v}, t a tuple -/
def mDispT (mk mv : M D) : M Od := fun e => match mk e with
  | some (.tup ds, e1) => (match mv e1 with
    | none => none
    | some (y, e2) => match D.kys ds with
      | none => none
      | some ks => some (.t [(ks, y)], e2))
  | _ => none
def amergeT (kvs more : List (List Ky × D)) : List (List Ky × D) := more.foldl (fun acc p => aput acc p.1 p.2) kvs
/-- d.update(x), both with tuples for keys -/
def sODUpd (i : Nat) (a : M D) : Ms := fun e => match e[i]? with
  | some (.od (.t _)) => (match a e with
    | none => none
    | some (d, e1) => match e1[i]?, D.od d with
      | some (.od (.t kvs)), some (.t more) => if (!kvs.isEmpty || decide (more.length ≤ 1)) && decide (kvs.length + more.length ≤ cap) then some (.nx, e1.set i (.od (.t (amergeT kvs more)))) else none
      | _, _ => none)
  | _ => none
/-- x == {}, x != {}, x a dict with tuples for keys -/
def mEmpT (ne : Bool) (a : M D) : M D := fun e => match a e with
  | some (.dT ks _, e1) => some (.bl (ne != ks.isEmpty), e1)
  | _ => none
/-- tuple * int, from 1 on -/
def oMulT : D → D → Option D
  | .tup xs, .int k => if !xs.isEmpty && decide (1 ≤ k ∧ k ≤ 1000 ∧ xs.length ≤ 1000) then some (.tup (List.replicate k.toNat xs).flatten) else none
  | _, _ => none
/-- list(d), d with tuples for keys -/
def mLKeys (a : M D) : M (List D) := fun e => match a e with
  | some (.dT ks _, e1) => some (ks.map fun k => .tup (k.map kyD), e1)
  | _ => none
end DL

namespace DL
open PySem PySem.Spec PyProof.Rows L2
/-! ### a value at a heap -/
/-- a tuple that is tracked -/
structure TpA (H : Hp) (a : Addr) (xs : List V) : Prop where of ::
  h : H a = some (.tup xs)
theorem TpA.sq {K : PySem.W.Frag} {H : Hp} {a : Addr} {xs : List V} (t : TpA H a xs) : SqT K H a xs := SqT.of t.h
theorem TpA.mono {H H' : Hp} {a : Addr} {xs : List V} (s : Same H H') (t : TpA H a xs) : TpA H' a xs := .of (s _ _ t.h)
mutual
inductive Rep (K : PySem.W.Frag) (H : Hp) : V → D → Prop
  | non : Rep K H .non .non
  | bl (b : Bool) : Rep K H (.bl b) (.bl b)
  | int (i : Int) : Rep K H (.int i) (.int i)
  | str (x : Str) : Rep K H (.str x) (.str x)
  | lst {a : Addr} {xs : List V} {ds : List D} : SqL K H a xs → RepL K H xs ds → Rep K H (.ref a) (.lst ds)
  | tup {a : Addr} {xs : List V} {ds : List D} : TpA H a xs → RepL K H xs ds → Rep K H (.ref a) (.tup ds)
  | dK {a : Addr} {o : Obj} {ks : List Ky} {xs : List V} {ds : List D} : H a = some (.frz o (.dK (ks.zip xs))) → ks.length = xs.length → RepL K H xs ds → Rep K H (.ref a) (.dK ks ds)
  | dT {a : Addr} {o : Obj} {ks : List (List Ky)} {xs : List V} {ds : List D} : H a = some (.frz o (.dT (ks.zip xs))) → ks.length = xs.length → RepL K H xs ds → Rep K H (.ref a) (.dT ks ds)
inductive RepL (K : PySem.W.Frag) (H : Hp) : List V → List D → Prop
  | nil : RepL K H [] []
  | cons {v : V} {vs : List V} {d : D} {ds : List D} : Rep K H v d → RepL K H vs ds → RepL K H (v :: vs) (d :: ds)
end
theorem rd_mono {H H' : Hp} {a : Addr} {u : HO} (s : Same H H') (r : Rd H a u) : Rd H' a u := by
  rcases r with r | ⟨o, r⟩
  · exact .inl (s _ _ r)
  · exact .inr ⟨o, s _ _ r⟩
theorem sqT_mono {K : PySem.W.Frag} {H H' : Hp} {a : Addr} {xs : List V} (s : Same H H') (h : SqT K H a xs) : SqT K H' a xs := by
  rcases h with h | h
  · exact .inl (rd_mono s h)
  · exact .inr h
theorem sqL_mono {K : PySem.W.Frag} {H H' : Hp} {a : Addr} {xs : List V} (s : Same H H') (h : SqL K H a xs) : SqL K H' a xs := s.seq h
mutual
theorem Rep.mono {K : PySem.W.Frag} {H H' : Hp} (s : Same H H') : ∀ {v : V} {d : D}, Rep K H v d → Rep K H' v d
  | _, _, .non => .non
  | _, _, .bl b => .bl b
  | _, _, .int i => .int i
  | _, _, .str x => .str x
  | _, _, .lst h r => .lst (sqL_mono s h) (RepL.mono s r)
  | _, _, .tup h r => .tup (h.mono s) (RepL.mono s r)
  | _, _, .dK h e r => .dK (s _ _ h) e (RepL.mono s r)
  | _, _, .dT h e r => .dT (s _ _ h) e (RepL.mono s r)
theorem RepL.mono {K : PySem.W.Frag} {H H' : Hp} (s : Same H H') : ∀ {vs : List V} {ds : List D}, RepL K H vs ds → RepL K H' vs ds
  | _, _, .nil => .nil
  | _, _, .cons r t => .cons (Rep.mono s r) (RepL.mono s t)
end
theorem RepL.length {K : PySem.W.Frag} {H : Hp} : ∀ {vs : List V} {ds : List D}, RepL K H vs ds → vs.length = ds.length
  | _, _, .nil => rfl
  | _, _, .cons _ t => by simp [RepL.length t]
theorem RepL.get {K : PySem.W.Frag} {H : Hp} : ∀ {vs : List V} {ds : List D} {i : Nat} {d : D}, RepL K H vs ds → ds[i]? = some d → ∃ v, vs[i]? = some v ∧ Rep K H v d
  | _, _, _, _, .nil, e => by simp at e
  | _, _, 0, _, .cons r _, e => by simp at e; subst e; exact ⟨_, rfl, r⟩
  | _, _, i + 1, d, .cons _ t, e => by
    obtain ⟨v, h1, h2⟩ := RepL.get (i := i) (d := d) t (by simpa using e)
    exact ⟨v, by simpa using h1, h2⟩
theorem RepL.getV {K : PySem.W.Frag} {H : Hp} : ∀ {vs : List V} {ds : List D} {i : Nat} {v : V}, RepL K H vs ds → vs[i]? = some v → ∃ d, ds[i]? = some d ∧ Rep K H v d
  | _, _, _, _, .nil, e => by simp at e
  | _, _, 0, _, .cons r _, e => by simp at e; subst e; exact ⟨_, rfl, r⟩
  | _, _, i + 1, v, .cons _ t, e => by
    obtain ⟨d, h1, h2⟩ := RepL.getV (i := i) (v := v) t (by simpa using e)
    exact ⟨d, by simpa using h1, h2⟩
theorem RepL.app {K : PySem.W.Frag} {H : Hp} : ∀ {vs ws : List V} {ds es : List D}, RepL K H vs ds → RepL K H ws es → RepL K H (vs ++ ws) (ds ++ es)
  | _, _, _, _, .nil, s => s
  | _, _, _, _, .cons r t, s => .cons r (RepL.app t s)
theorem RepL.take {K : PySem.W.Frag} {H : Hp} : ∀ {vs : List V} {ds : List D} (n : Nat), RepL K H vs ds → RepL K H (vs.take n) (ds.take n)
  | _, _, 0, _ => .nil
  | _, _, _ + 1, .nil => .nil
  | _, _, n + 1, .cons r t => .cons r (RepL.take n t)
theorem RepL.drop {K : PySem.W.Frag} {H : Hp} : ∀ {vs : List V} {ds : List D} (n : Nat), RepL K H vs ds → RepL K H (vs.drop n) (ds.drop n)
  | _, _, 0, r => r
  | _, _, _ + 1, .nil => .nil
  | _, _, n + 1, .cons _ t => RepL.drop n t
theorem RepL.set {K : PySem.W.Frag} {H : Hp} {v : V} {d : D} (r : Rep K H v d) : ∀ {vs : List V} {ds : List D} (n : Nat), RepL K H vs ds → RepL K H (vs.set n v) (ds.set n d)
  | _, _, _, .nil => .nil
  | _, _, 0, .cons _ t => .cons r t
  | _, _, n + 1, .cons q t => .cons q (RepL.set r n t)
theorem RepL.rev {K : PySem.W.Frag} {H : Hp} : ∀ {vs : List V} {ds : List D}, RepL K H vs ds → RepL K H vs.reverse ds.reverse
  | _, _, .nil => .nil
  | _, _, .cons r t => by
    rw [List.reverse_cons, List.reverse_cons]
    exact RepL.app (RepL.rev t) (.cons r .nil)
theorem RepL.ints {K : PySem.W.Frag} {H : Hp} : ∀ {vs : List V} {ds : List D} {ns : List Int}, RepL K H vs ds → D.ints ds = some ns → vs = ns.map V.int
  | _, _, ns, .nil, e => by
    have e' : [] = ns := Option.some.inj e
    subst e'; rfl
  | _, _, ns, .cons (d := d) r t, e => by
    cases r with
    | int i =>
      unfold D.ints at e
      split at e
      · cases e
      · rename_i l hl
        have e' : i :: l = ns := Option.some.inj e
        subst e'
        rw [RepL.ints t hl]; rfl
    | _ => simp [D.ints] at e
theorem RepL.of_ints {K : PySem.W.Frag} {H : Hp} : ∀ ns : List Int, RepL K H (ns.map V.int) (ns.map D.int)
  | [] => .nil
  | i :: r => .cons (.int i) (RepL.of_ints r)
theorem RepL.bls {K : PySem.W.Frag} {H : Hp} : ∀ {vs : List V} {ds : List D} {ns : List Bool}, RepL K H vs ds → D.bls ds = some ns → vs = ns.map V.bl
  | _, _, ns, .nil, e => by
    have e' : [] = ns := Option.some.inj e
    subst e'; rfl
  | _, _, ns, .cons (d := d) r t, e => by
    cases r with
    | bl i =>
      unfold D.bls at e
      split at e
      · cases e
      · rename_i l hl
        have e' : i :: l = ns := Option.some.inj e
        subst e'
        rw [RepL.bls t hl]; rfl
    | _ => simp [D.bls] at e
/-! ### as the library's data -/
mutual
def toPy : D → PyData
  | .non => .none
  | .bl b => .bool b
  | .int i => .int i
  | .str x => .str x
  | .lst xs => .list (toPyL xs)
  | .tup xs => .tuple (toPyL xs)
  | .dK _ _ => .dict []
  | .dT _ _ => .dict []
def toPyL : List D → List PyData
  | [] => []
  | x :: xs => toPy x :: toPyL xs
end
mutual
theorem plain_toPy : ∀ d : D, D.pl d = true → (toPy d).plain = true
  | .non, _ => rfl
  | .bl _, _ => rfl
  | .int _, _ => rfl
  | .str _, _ => rfl
  | .lst xs, h => by
    simp only [toPy, PyData.plain]
    exact plain_toPyL xs (by simpa [D.pl] using h)
  | .tup xs, h => by
    simp only [toPy, PyData.plain]
    exact plain_toPyL xs (by simpa [D.pl] using h)
  | .dK _ _, h => by simp [D.pl] at h
  | .dT _ _, h => by simp [D.pl] at h
theorem plain_toPyL : ∀ ds : List D, D.plL ds = true → PyData.plainAll (toPyL ds) = true
  | [], _ => rfl
  | x :: xs, h => by
    simp only [D.plL, Bool.and_eq_true] at h
    simp only [toPyL, PyData.plainAll, Bool.and_eq_true]
    exact ⟨plain_toPy x h.1, plain_toPyL xs h.2⟩
end
mutual
theorem dep_toPy : ∀ d : D, D.pl d = true → (toPy d).depth ≤ D.dep d
  | .non, _ => by simp [toPy, PyData.depth]
  | .bl _, _ => by simp [toPy, PyData.depth]
  | .int _, _ => by simp [toPy, PyData.depth]
  | .str _, _ => by simp [toPy, PyData.depth]
  | .lst xs, h => by
    have := dep_toPyL xs (by simpa [D.pl] using h)
    simp only [toPy, PyData.depth, D.dep]; omega
  | .tup xs, h => by
    have := dep_toPyL xs (by simpa [D.pl] using h)
    simp only [toPy, PyData.depth, D.dep]; omega
  | .dK _ _, h => by simp [D.pl] at h
  | .dT _ _, h => by simp [D.pl] at h
theorem dep_toPyL : ∀ ds : List D, D.plL ds = true → PyData.depthAll (toPyL ds) ≤ D.depL ds
  | [], _ => by simp [toPyL, PyData.depthAll]
  | x :: xs, h => by
    simp only [D.plL, Bool.and_eq_true] at h
    have h1 := dep_toPy x h.1
    have h2 := dep_toPyL xs h.2
    simp only [toPyL, PyData.depthAll, D.depL]; omega
end
mutual
theorem eqv_toPy : ∀ a b : D, D.pl a = true → D.pl b = true → PyData.eqv (toPy a) (toPy b) = D.eqv a b
  | .lst xs, b, ha, hb => by
    cases b with
    | lst ys =>
      simp only [toPy, PyData.eqv, D.eqv]
      exact eqv_toPyL xs ys (by simpa [D.pl] using ha) (by simpa [D.pl] using hb)
    | _ => first | (simp [D.pl] at hb; done) | simp [toPy, PyData.eqv, D.eqv]
  | .tup xs, b, ha, hb => by
    cases b with
    | tup ys =>
      simp only [toPy, PyData.eqv, D.eqv]
      exact eqv_toPyL xs ys (by simpa [D.pl] using ha) (by simpa [D.pl] using hb)
    | _ => first | (simp [D.pl] at hb; done) | simp [toPy, PyData.eqv, D.eqv]
  | .non, b, ha, hb => by cases b <;> first | (simp [D.pl] at hb; done) | simp [toPy, PyData.eqv, D.eqv]
  | .bl _, b, ha, hb => by cases b <;> first | (simp [D.pl] at hb; done) | simp [toPy, PyData.eqv, D.eqv]
  | .int _, b, ha, hb => by cases b <;> first | (simp [D.pl] at hb; done) | simp [toPy, PyData.eqv, D.eqv]
  | .str _, b, ha, hb => by cases b <;> first | (simp [D.pl] at hb; done) | simp [toPy, PyData.eqv, D.eqv]
  | .dK _ _, _, ha, _ => by simp [D.pl] at ha
  | .dT _ _, _, ha, _ => by simp [D.pl] at ha
theorem eqv_toPyL : ∀ a b : List D, D.plL a = true → D.plL b = true → PyData.eqvAll (toPyL a) (toPyL b) = D.eqvL a b
  | [], [], _, _ => rfl
  | [], _ :: _, _, _ => rfl
  | _ :: _, [], _, _ => rfl
  | x :: xs, y :: ys, ha, hb => by
    simp only [D.plL, Bool.and_eq_true] at ha hb
    simp only [toPyL, PyData.eqvAll, D.eqvL]
    rw [eqv_toPy x y ha.1 hb.1, eqv_toPyL xs ys ha.2 hb.2]
end
mutual
theorem Rep.dp {K : PySem.W.Frag} {H : Hp} : ∀ {v : V} {d : D}, Rep K H v d → D.pl d = true → Dp K H v (toPy d)
  | _, _, .non, _ => by simp only [toPy]; exact .non
  | _, _, .bl b, _ => by simp only [toPy]; exact .bl b
  | _, _, .int i, _ => by simp only [toPy]; exact .int i
  | _, _, .str x, _ => by simp only [toPy]; exact .str x
  | _, _, .lst h r, p => by simp only [toPy]; exact .lst h (RepL.dp r (by simpa [D.pl] using p))
  | _, _, .tup h r, p => by simp only [toPy]; exact .tup h.sq (RepL.dp r (by simpa [D.pl] using p))
  | _, _, .dK _ _ _, p => by simp [D.pl] at p
  | _, _, .dT _ _ _, p => by simp [D.pl] at p
theorem RepL.dp {K : PySem.W.Frag} {H : Hp} : ∀ {vs : List V} {ds : List D}, RepL K H vs ds → D.plL ds = true → DpAll K H vs (toPyL ds)
  | _, _, .nil, _ => by simp only [toPyL]; exact .nil
  | _, _, .cons r t, p => by
    simp only [D.plL, Bool.and_eq_true] at p
    simp only [toPyL]
    exact .cons (Rep.dp r p.1) (RepL.dp t p.2)
end
theorem any_toPyL (x : D) (hx : D.pl x = true) : ∀ ds : List D, D.plL ds = true → ((toPyL ds).any fun y => PyData.eqv y (toPy x)) = ds.any fun z => D.eqv z x
  | [], _ => rfl
  | d :: ds, h => by
    simp only [D.plL, Bool.and_eq_true] at h
    simp only [toPyL, List.any_cons]
    rw [eqv_toPy d x h.1 hx, any_toPyL x hx ds h.2]
end DL

namespace DL
open PySem PySem.Spec PyProof.Rows L2
/-! ### what ties slots and heap to the data -/
/-- where one stands: the heap at the entry, its settled part, what may be changed, the address that slot 0 keeps -/
structure Ct where
  K : PySem.W.Frag
  H0 : Hp
  Hf0 : Hp
  own : Addr → Prop
  pin : Option Addr
/-- what stands in the heap for a dict of the slot's own -/
inductive OdR (K : PySem.W.Frag) (Hf : Hp) : HO → Od → Prop
  | k {ks : List Ky} {ws : List V} {kvs : List (Ky × D)} : ks = kvs.map (·.1) → RepL K Hf ws (kvs.map (·.2)) → OdR K Hf (.dK (ks.zip ws)) (.k kvs)
  | t {ks : List (List Ky)} {ws : List V} {kvs : List (List Ky × D)} : ks = kvs.map (·.1) → RepL K Hf ws (kvs.map (·.2)) → OdR K Hf (.dT (ks.zip ws)) (.t kvs)
theorem OdR.mono {K : PySem.W.Frag} {Hf Hf' : Hp} {o : HO} {q : Od} (s : Same Hf Hf') (h : OdR K Hf o q) : OdR K Hf' o q := by
  cases h with
  | k e r => exact .k e (r.mono s)
  | t e r => exact .t e (r.mono s)
theorem OdR.mut {K : PySem.W.Frag} {Hf : Hp} {o : HO} {q : Od} (h : OdR K Hf o q) : Mut (some o) := by cases h <;> trivial
theorem OdR.nl {K : PySem.W.Frag} {Hf : Hp} {o : HO} {q : Od} {vs : List V} (h : OdR K Hf o q) : o ≠ .lst vs := by cases h <;> exact fun z => nomatch z
theorem OdR.nt {K : PySem.W.Frag} {Hf : Hp} {o : HO} {q : Od} {vs : List V} (h : OdR K Hf o q) : o ≠ .tup vs := by cases h <;> exact fun z => nomatch z
theorem OdR.rep {K : PySem.W.Frag} {Hf : Hp} {o : HO} {q : Od} {p : Addr} {ob : Obj} (h : OdR K Hf o q) (e : Hf p = some (.frz ob o)) : Rep K Hf (.ref p) q.d := by
  cases h with
  | k e2 r => subst e2; exact .dK e (by rw [r.length]; simp) r
  | t e2 r => subst e2; exact .dT e (by rw [r.length]; simp) r
def SlR (c : Ct) (H Hf : Hp) (o : Option (Option V)) : Sl → Prop
  | .un => True
  | .im d => ∃ v, o = some (some v) ∧ Rep c.K Hf v d
  | .ow xs => ∃ p vs, o = some (some (.ref p)) ∧ Hf p = none ∧ (c.own p ∨ c.H0 p = none) ∧ H p = some (.lst vs) ∧ RepL c.K Hf vs xs
  | .od q => ∃ p u, o = some (some (.ref p)) ∧ Hf p = none ∧ (c.own p ∨ c.H0 p = none) ∧ H p = some u ∧ OdR c.K Hf u q
/-- what is settled behind is settled before, or new, or a tuple -/
abbrev Nw (Hf Hf' H : Hp) : Prop := ∀ a o, Hf' a = some o → Hf a = some o ∨ H a = none ∨ ∃ xs, o = HO.tup xs
structure Rl (c : Ct) (σ : L2.St) (H Hf : Hp) (e : DL.Env) : Prop where
  ln : σ.length = e.length
  fr : ∀ (b : Addr) (o : HO), c.H0 b = some o → ¬ c.own b → H b = some o
  fo : ∀ b o, c.H0 b = some o → c.own b → ∃ o', H b = some o'
  sf : Same Hf H
  s0 : Same c.Hf0 Hf
  nw : Nw c.Hf0 Hf c.H0
  sl : ∀ (i : Nat) (s : Sl), e[i]? = some s → SlR c H Hf (σ[i]?) s
  ap : ∀ (i j : Nat) (p : Addr) (xs ys : List D), i ≠ j → e[i]? = some (.ow xs) → e[j]? = some (.ow ys) → σ[i]? = some (some (.ref p)) → σ[j]? = some (some (.ref p)) → False
  p0 : ∀ p, c.pin = some p → σ[0]? = some (some (.ref p)) ∧ ∃ xs, e[0]? = some (.ow xs)
  ad : ∀ (i j : Nat) (p : Addr) (x y : Od), i ≠ j → e[i]? = some (.od x) → e[j]? = some (.od y) → σ[i]? = some (some (.ref p)) → σ[j]? = some (some (.ref p)) → False
theorem same_new {H : Hp} {p : Addr} {o : HO} (h : H p = none) : Same H (upd H p o) := fun b x e => by
  rw [upd_ne (ne_of_none e h)]; exact e
theorem none_sub {H Hf : Hp} (s : Same Hf H) {p : Addr} (h : H p = none) : Hf p = none := s.free h
section
variable {c : Ct} {σ : L2.St} {H Hf H' Hf' : Hp} {e : DL.Env} {p : Addr} {o : HO}
theorem Rl.h0 (r : Rl c σ H Hf e) (h : H p = none) : c.H0 p = none := by
  cases q : c.H0 p with
  | none => rfl
  | some u =>
    by_cases w : c.own p
    · obtain ⟨o', z⟩ := r.fo p u q w; rw [h] at z; cases z
    · have z := r.fr p u q w; rw [h] at z; cases z
/-- a new object, settled at once -/
theorem Rl.alloc (r : Rl c σ H Hf e) (h : H p = none) : Rl c σ (upd H p o) (upd Hf p o) e where
  ln := r.ln
  fr := fun b x q w => same_new h b x (r.fr b x q w)
  fo := fun b x q w => by obtain ⟨o', z⟩ := r.fo b x q w; exact ⟨o', same_new h b o' z⟩
  sf := fun b x q => by
    by_cases z : b = p
    · subst z; rw [upd_same] at q ⊢; exact q
    · rw [upd_ne z] at q ⊢; exact r.sf b x q
  s0 := r.s0.trans (same_new (none_sub r.sf h))
  nw := fun a x q => by
    by_cases z : a = p
    · subst z; exact .inr (.inl (r.h0 h))
    · rw [upd_ne z] at q; exact r.nw a x q
  sl := fun i s q => by
    have := r.sl i s q
    cases s with
    | un => trivial
    | im d => obtain ⟨v, e1, e2⟩ := this; exact ⟨v, e1, e2.mono (same_new (none_sub r.sf h))⟩
    | ow xs =>
      obtain ⟨a, vs, e1, e2, e3, e4, e5⟩ := this
      have n : a ≠ p := ne_of_none e4 h
      exact ⟨a, vs, e1, by rw [upd_ne n]; exact e2, e3, by rw [upd_ne n]; exact e4, e5.mono (same_new (none_sub r.sf h))⟩
    | od xs =>
      obtain ⟨a, vs, e1, e2, e3, e4, e5⟩ := this
      have n : a ≠ p := ne_of_none e4 h
      exact ⟨a, vs, e1, by rw [upd_ne n]; exact e2, e3, by rw [upd_ne n]; exact e4, e5.mono (same_new (none_sub r.sf h))⟩
  ap := r.ap
  p0 := r.p0
  ad := r.ad
/-- a new object, not settled -/
theorem Rl.track (r : Rl c σ H Hf e) (h : H p = none) : Rl c σ (upd H p o) Hf e where
  ln := r.ln
  fr := fun b x q w => same_new h b x (r.fr b x q w)
  fo := fun b x q w => by obtain ⟨o', z⟩ := r.fo b x q w; exact ⟨o', same_new h b o' z⟩
  sf := r.sf.trans (same_new h)
  s0 := r.s0
  nw := r.nw
  sl := fun i s q => by
    have := r.sl i s q
    cases s with
    | un => trivial
    | im d => exact this
    | ow xs =>
      obtain ⟨a, vs, e1, e2, e3, e4, e5⟩ := this
      exact ⟨a, vs, e1, e2, e3, by rw [upd_ne (ne_of_none e4 h)]; exact e4, e5⟩
    | od xs =>
      obtain ⟨a, vs, e1, e2, e3, e4, e5⟩ := this
      exact ⟨a, vs, e1, e2, e3, by rw [upd_ne (ne_of_none e4 h)]; exact e4, e5⟩
  ap := r.ap
  p0 := r.p0
  ad := r.ad
theorem get_set {α : Type} {l : List α} {i j : Nat} {x y : α} (h : (l.set i x)[j]? = some y) : (j = i ∧ y = x) ∨ (j ≠ i ∧ l[j]? = some y) := by
  by_cases z : j = i
  · subst z
    rw [List.getElem?_set] at h
    simp only [if_true] at h
    split at h
    · exact .inl ⟨rfl, (Option.some.inj h).symm⟩
    · cases h
  · rw [List.getElem?_set_ne (Ne.symm z)] at h; exact .inr ⟨z, h⟩
theorem set_at {α : Type} {l : List α} {i : Nat} {x : α} (h : i < l.length) : (l.set i x)[i]? = some x := List.getElem?_set_self h
theorem set_od {l : DL.Env} {j k : Nat} {s : Sl} {x : Od} (h : (l.set j s)[k]? = some (.od x)) (hs : ∀ y, s ≠ .od y := by exact fun _ z => nomatch z) : l[k]? = some (.od x) := by
  rcases get_set h with ⟨_, z⟩ | ⟨_, z⟩
  · exact absurd z.symm (hs x)
  · exact z
theorem set_ow {l : DL.Env} {j k : Nat} {s : Sl} {x : List D} (h : (l.set j s)[k]? = some (.ow x)) (hs : ∀ y, s ≠ .ow y := by exact fun _ z => nomatch z) : l[k]? = some (.ow x) := by
  rcases get_set h with ⟨_, z⟩ | ⟨_, z⟩
  · exact absurd z.symm (hs x)
  · exact z
/-- a name is bound to a value -/
theorem Rl.set (r : Rl c σ H Hf e) {i : Nat} {v : V} {d : D} (hi : i < e.length) (hv : Rep c.K Hf v d) (hp : i ≠ 0 ∨ c.pin = none) : Rl c (σ.set i (some v)) H Hf (e.set i (.im d)) where
  ln := by simp [r.ln]
  fr := r.fr
  fo := r.fo
  sf := r.sf
  s0 := r.s0
  nw := r.nw
  sl := fun j s q => by
    rcases get_set q with ⟨rfl, rfl⟩ | ⟨n, q⟩
    · exact ⟨v, set_at (by rw [r.ln]; exact hi), hv⟩
    · rw [List.getElem?_set_ne (Ne.symm n)]; exact r.sl j s q
  ap := fun j k p xs ys n h1 h2 h3 h4 => by
    rcases get_set h1 with ⟨_, z⟩ | ⟨n1, h1⟩
    · cases z
    rcases get_set h2 with ⟨_, z⟩ | ⟨n2, h2⟩
    · cases z
    rw [List.getElem?_set_ne (Ne.symm n1)] at h3
    rw [List.getElem?_set_ne (Ne.symm n2)] at h4
    exact r.ap j k p xs ys n h1 h2 h3 h4
  p0 := fun p q => by
    rcases hp with z | z
    · obtain ⟨h1, xs, h2⟩ := r.p0 p q
      exact ⟨by rw [List.getElem?_set_ne z]; exact h1, xs, by rw [List.getElem?_set_ne z]; exact h2⟩
    · rw [z] at q; cases q
  ad := fun j k p xs ys n h1 h2 h3 h4 => by
    rcases get_set h1 with ⟨_, z⟩ | ⟨n1, h1⟩
    · cases z
    rcases get_set h2 with ⟨_, z⟩ | ⟨n2, h2⟩
    · cases z
    rw [List.getElem?_set_ne (Ne.symm n1)] at h3
    rw [List.getElem?_set_ne (Ne.symm n2)] at h4
    exact r.ad j k p xs ys n h1 h2 h3 h4
/-- a name is bound to a new list -/
theorem Rl.setN (r : Rl c σ H Hf e) {i : Nat} {vs : List V} {xs : List D} (hi : i < e.length) (h1 : H p = some (.lst vs)) (h2 : Hf p = none) (h3 : c.H0 p = none) (hv : RepL c.K Hf vs xs) (hp : i ≠ 0 ∨ c.pin = none)
    (hn : ∀ (j : Nat) (ys : List D), e[j]? = some (.ow ys) → σ[j]? = some (some (.ref p)) → False) : Rl c (σ.set i (some (.ref p))) H Hf (e.set i (.ow xs)) where
  ln := by simp [r.ln]
  fr := r.fr
  fo := r.fo
  sf := r.sf
  s0 := r.s0
  nw := r.nw
  sl := fun j s q => by
    rcases get_set q with ⟨rfl, rfl⟩ | ⟨n, q⟩
    · exact ⟨p, vs, set_at (by rw [r.ln]; exact hi), h2, .inr h3, h1, hv⟩
    · rw [List.getElem?_set_ne (Ne.symm n)]; exact r.sl j s q
  ap := fun j k q ys zs n g1 g2 g3 g4 => by
    rcases get_set g1 with ⟨n1, z⟩ | ⟨n1, g1⟩
    · rcases get_set g2 with ⟨n2, z2⟩ | ⟨n2, g2⟩
      · exact n (n1.trans n2.symm)
      · rw [n1, set_at (by rw [r.ln]; exact hi)] at g3
        rw [List.getElem?_set_ne (Ne.symm n2)] at g4
        cases g3
        exact hn k zs g2 g4
    · rw [List.getElem?_set_ne (Ne.symm n1)] at g3
      rcases get_set g2 with ⟨n2, z2⟩ | ⟨n2, g2⟩
      · rw [n2, set_at (by rw [r.ln]; exact hi)] at g4
        cases g4
        exact hn j ys g1 g3
      · rw [List.getElem?_set_ne (Ne.symm n2)] at g4
        exact r.ap j k q ys zs n g1 g2 g3 g4
  p0 := fun p q => by
    rcases hp with z | z
    · obtain ⟨h1, xs, h2⟩ := r.p0 p q
      exact ⟨by rw [List.getElem?_set_ne z]; exact h1, xs, by rw [List.getElem?_set_ne z]; exact h2⟩
    · rw [z] at q; cases q
  ad := fun j k p xs ys n h1 h2 h3 h4 => by
    rcases get_set h1 with ⟨_, z⟩ | ⟨n1, h1⟩
    · cases z
    rcases get_set h2 with ⟨_, z⟩ | ⟨n2, h2⟩
    · cases z
    rw [List.getElem?_set_ne (Ne.symm n1)] at h3
    rw [List.getElem?_set_ne (Ne.symm n2)] at h4
    exact r.ad j k p xs ys n h1 h2 h3 h4
/-- a name is bound to a new dict -/
theorem Rl.setD (r : Rl c σ H Hf e) {i : Nat} {u : HO} {x : Od} (hi : i < e.length) (h1 : H p = some u) (h2 : Hf p = none) (h3 : c.H0 p = none) (hv : OdR c.K Hf u x) (hp : i ≠ 0 ∨ c.pin = none)
    (hn : ∀ (j : Nat) (y : Od), e[j]? = some (.od y) → σ[j]? = some (some (.ref p)) → False) : Rl c (σ.set i (some (.ref p))) H Hf (e.set i (.od x)) where
  ln := by simp [r.ln]
  fr := r.fr
  fo := r.fo
  sf := r.sf
  s0 := r.s0
  nw := r.nw
  sl := fun j s q => by
    rcases get_set q with ⟨rfl, rfl⟩ | ⟨n, q⟩
    · exact ⟨p, u, set_at (by rw [r.ln]; exact hi), h2, .inr h3, h1, hv⟩
    · rw [List.getElem?_set_ne (Ne.symm n)]; exact r.sl j s q
  ad := fun j k q ys zs n g1 g2 g3 g4 => by
    rcases get_set g1 with ⟨n1, z⟩ | ⟨n1, g1⟩
    · rcases get_set g2 with ⟨n2, z2⟩ | ⟨n2, g2⟩
      · exact n (n1.trans n2.symm)
      · rw [n1, set_at (by rw [r.ln]; exact hi)] at g3
        rw [List.getElem?_set_ne (Ne.symm n2)] at g4
        cases g3
        exact hn k zs g2 g4
    · rw [List.getElem?_set_ne (Ne.symm n1)] at g3
      rcases get_set g2 with ⟨n2, z2⟩ | ⟨n2, g2⟩
      · rw [n2, set_at (by rw [r.ln]; exact hi)] at g4
        cases g4
        exact hn j ys g1 g3
      · rw [List.getElem?_set_ne (Ne.symm n2)] at g4
        exact r.ad j k q ys zs n g1 g2 g3 g4
  ap := fun j k p xs ys n h1 h2 h3 h4 => by
    rcases get_set h1 with ⟨_, z⟩ | ⟨n1, h1⟩
    · cases z
    rcases get_set h2 with ⟨_, z⟩ | ⟨n2, h2⟩
    · cases z
    rw [List.getElem?_set_ne (Ne.symm n1)] at h3
    rw [List.getElem?_set_ne (Ne.symm n2)] at h4
    exact r.ap j k p xs ys n h1 h2 h3 h4
  p0 := fun p q => by
    rcases hp with z | z
    · obtain ⟨h1, xs, h2⟩ := r.p0 p q
      exact ⟨by rw [List.getElem?_set_ne z]; exact h1, xs, by rw [List.getElem?_set_ne z]; exact h2⟩
    · rw [z] at q; cases q
theorem Rl.new_noD (r : Rl c σ H Hf e) (h : H p = none) : ∀ (j : Nat) (y : Od), e[j]? = some (.od y) → σ[j]? = some (some (.ref p)) → False := fun j ys h1 h2 => by
  obtain ⟨a, vs, e1, _, _, e4, _⟩ := r.sl j _ h1
  rw [h2] at e1
  cases e1
  rw [h] at e4; cases e4
theorem Rl.lst_noD (r : Rl c σ H Hf e) {us : List V} (h : H p = some (.lst us)) : ∀ (j : Nat) (y : Od), e[j]? = some (.od y) → σ[j]? = some (some (.ref p)) → False := fun j ys h1 h2 => by
  obtain ⟨a, vs, e1, _, _, e4, e5⟩ := r.sl j _ h1
  rw [h2] at e1
  cases e1
  rw [h] at e4
  exact e5.nl (Option.some.inj e4).symm
theorem Rl.dct_noL (r : Rl c σ H Hf e) {u : HO} (h : H p = some u) (hu : ∀ vs, u ≠ .lst vs) : ∀ (j : Nat) (ys : List D), e[j]? = some (.ow ys) → σ[j]? = some (some (.ref p)) → False := fun j ys h1 h2 => by
  obtain ⟨a, vs, e1, _, _, e4, e5⟩ := r.sl j _ h1
  rw [h2] at e1
  cases e1
  rw [h] at e4
  exact hu _ (Option.some.inj e4)
/-- no slot's own list stands at an address that is new -/
theorem Rl.new_no (r : Rl c σ H Hf e) (h : H p = none) : ∀ (j : Nat) (ys : List D), e[j]? = some (.ow ys) → σ[j]? = some (some (.ref p)) → False := fun j ys h1 h2 => by
  obtain ⟨a, vs, e1, _, _, e4, _⟩ := r.sl j _ h1
  rw [h2] at e1
  cases e1
  rw [h] at e4; cases e4
/-- the own list in slot j is changed -/
theorem Rl.put (r : Rl c σ H Hf e) {j : Nat} {vs : List V} {xs ys : List D} (h1 : e[j]? = some (.ow xs)) (h2 : σ[j]? = some (some (.ref p))) (hv : RepL c.K Hf vs ys) : Rl c σ (upd H p (.lst vs)) Hf (e.set j (.ow ys)) := by
  have hj : j < e.length := by
    by_cases z : j < e.length
    · exact z
    · rw [List.getElem?_eq_none (by omega)] at h1; cases h1
  obtain ⟨p', ws, e1, e2, e3, e4, e5⟩ := r.sl j _ h1
  rw [h2] at e1
  cases e1
  refine ⟨by simp [r.ln], fun b o q w => ?_, fun b o q w => ?_, fun b o q => ?_, r.s0, r.nw, fun i s q => ?_, fun i k a us ws n g1 g2 g3 g4 => ?_, fun a q => ?_, fun i k a us ws n g1 g2 g3 g4 => r.ad i k a us ws n (set_od g1) (set_od g2) g3 g4⟩
  · have n : b ≠ p := fun z => by
      subst z
      rcases e3 with z | z
      · exact w z
      · rw [z] at q; cases q
    rw [upd_ne n]; exact r.fr b o q w
  · by_cases n : b = p
    · subst n; exact ⟨_, upd_same⟩
    · rw [upd_ne n]; exact r.fo b o q w
  · have n : b ≠ p := fun z => by subst z; rw [e2] at q; cases q
    rw [upd_ne n]; exact r.sf b o q
  · rcases get_set q with ⟨rfl, rfl⟩ | ⟨n, q⟩
    · exact ⟨p, vs, h2, e2, e3, upd_same, hv⟩
    · have := r.sl i s q
      cases s with
      | un => trivial
      | im d => exact this
      | ow us =>
        obtain ⟨a, us', f1, f2, f3, f4, f5⟩ := this
        have na : a ≠ p := fun z => by subst z; exact r.ap i j a us xs n q h1 f1 h2
        exact ⟨a, us', f1, f2, f3, by rw [upd_ne na]; exact f4, f5⟩
      | od us =>
        obtain ⟨a, us', f1, f2, f3, f4, f5⟩ := this
        have na : a ≠ p := fun z => by subst z; rw [e4] at f4; exact f5.nl (Option.some.inj f4).symm
        exact ⟨a, us', f1, f2, f3, by rw [upd_ne na]; exact f4, f5⟩
  · have g1' : ∃ us, e[i]? = some (.ow us) := by
      rcases get_set g1 with ⟨z, _⟩ | ⟨_, z⟩
      · subst z; exact ⟨_, h1⟩
      · exact ⟨_, z⟩
    have g2' : ∃ us, e[k]? = some (.ow us) := by
      rcases get_set g2 with ⟨z, _⟩ | ⟨_, z⟩
      · subst z; exact ⟨_, h1⟩
      · exact ⟨_, z⟩
    obtain ⟨u1, g1'⟩ := g1'
    obtain ⟨u2, g2'⟩ := g2'
    exact r.ap i k a u1 u2 n g1' g2' g3 g4
  · obtain ⟨f1, us, f2⟩ := r.p0 a q
    refine ⟨f1, ?_⟩
    by_cases z : j = 0
    · subst z; exact ⟨ys, set_at hj⟩
    · exact ⟨us, by rw [List.getElem?_set_ne z]; exact f2⟩
/-- the own dict in slot j is changed -/
theorem Rl.putD (r : Rl c σ H Hf e) {j : Nat} {u : HO} {x y : Od} (h1 : e[j]? = some (.od x)) (h2 : σ[j]? = some (some (.ref p))) (hv : OdR c.K Hf u y) : Rl c σ (upd H p u) Hf (e.set j (.od y)) := by
  have hj : j < e.length := by
    by_cases z : j < e.length
    · exact z
    · rw [List.getElem?_eq_none (by omega)] at h1; cases h1
  obtain ⟨p', ws, e1, e2, e3, e4, e5⟩ := r.sl j _ h1
  rw [h2] at e1
  cases e1
  refine ⟨by simp [r.ln], fun b o q w => ?_, fun b o q w => ?_, fun b o q => ?_, r.s0, r.nw, fun i s q => ?_, fun i k a us ws n g1 g2 g3 g4 => r.ap i k a us ws n (set_ow g1) (set_ow g2) g3 g4, fun a q => ?_, fun i k a us ws n g1 g2 g3 g4 => ?_⟩
  · have n : b ≠ p := fun z => by
      subst z
      rcases e3 with z | z
      · exact w z
      · rw [z] at q; cases q
    rw [upd_ne n]; exact r.fr b o q w
  · by_cases n : b = p
    · subst n; exact ⟨_, upd_same⟩
    · rw [upd_ne n]; exact r.fo b o q w
  · have n : b ≠ p := fun z => by subst z; rw [e2] at q; cases q
    rw [upd_ne n]; exact r.sf b o q
  · rcases get_set q with ⟨rfl, rfl⟩ | ⟨n, q⟩
    · exact ⟨p, u, h2, e2, e3, upd_same, hv⟩
    · have := r.sl i s q
      cases s with
      | un => trivial
      | im d => exact this
      | ow us =>
        obtain ⟨a, us', f1, f2, f3, f4, f5⟩ := this
        have na : a ≠ p := fun z => by subst z; rw [e4] at f4; exact e5.nl (Option.some.inj f4)
        exact ⟨a, us', f1, f2, f3, by rw [upd_ne na]; exact f4, f5⟩
      | od us =>
        obtain ⟨a, us', f1, f2, f3, f4, f5⟩ := this
        have na : a ≠ p := fun z => by subst z; exact r.ad i j a us x n q h1 f1 h2
        exact ⟨a, us', f1, f2, f3, by rw [upd_ne na]; exact f4, f5⟩
  · obtain ⟨f1, us, f2⟩ := r.p0 a q
    have z : j ≠ 0 := fun z => by subst z; rw [h1] at f2; cases f2
    exact ⟨f1, us, by rw [List.getElem?_set_ne z]; exact f2⟩
  · have g1' : ∃ us, e[i]? = some (.od us) := by
      rcases get_set g1 with ⟨z, _⟩ | ⟨_, z⟩
      · subst z; exact ⟨_, h1⟩
      · exact ⟨_, z⟩
    have g2' : ∃ us, e[k]? = some (.od us) := by
      rcases get_set g2 with ⟨z, _⟩ | ⟨_, z⟩
      · subst z; exact ⟨_, h1⟩
      · exact ⟨_, z⟩
    obtain ⟨u1, g1'⟩ := g1'
    obtain ⟨u2, g2'⟩ := g2'
    exact r.ad i k a u1 u2 n g1' g2' g3 g4
/-- the own dict in slot j is locked, and settled -/
theorem Rl.frzD (r : Rl c σ H Hf e) {j : Nat} {x : Od} {u : HO} {ob : Obj} (h1 : e[j]? = some (.od x)) (h2 : σ[j]? = some (some (.ref p))) (h3 : H p = some u) (ho : c.own = fun a => c.pin = some a) : Rl c σ (upd H p (.frz ob u)) (upd Hf p (.frz ob u)) (e.set j (.im x.d)) ∧ Same Hf (upd Hf p (.frz ob u)) := by
  obtain ⟨p', u', e1, e2, e3, e4, e5⟩ := r.sl j _ h1
  rw [h2] at e1
  cases e1
  rw [h3] at e4
  cases e4
  have h0 : c.H0 p = none := by
    rcases e3 with z | z
    · rw [ho] at z
      obtain ⟨f1, us, f2⟩ := r.p0 p z
      obtain ⟨a, vs, g1, _, _, g4, _⟩ := r.sl 0 _ f2
      rw [f1] at g1
      cases g1
      rw [h3] at g4
      exact (e5.nl (Option.some.inj g4)).elim
    · exact z
  have sm : Same Hf (upd Hf p (.frz ob u)) := same_new e2
  refine ⟨⟨by simp [r.ln], fun b o q w => ?_, fun b o q w => ?_, fun b o q => ?_, r.s0.trans sm, fun a o q => ?_, fun i s q => ?_, fun i k a us vs n g1 g2 g3 g4 => r.ap i k a us vs n (set_ow g1) (set_ow g2) g3 g4, fun a q => ?_, fun i k a us vs n g1 g2 g3 g4 => r.ad i k a us vs n (set_od g1) (set_od g2) g3 g4⟩, sm⟩
  · have n : b ≠ p := fun z => by subst z; rw [h0] at q; cases q
    rw [upd_ne n]; exact r.fr b o q w
  · have n : b ≠ p := fun z => by subst z; rw [h0] at q; cases q
    rw [upd_ne n]; exact r.fo b o q w
  · by_cases z : b = p
    · subst z; rw [upd_same] at q ⊢; exact q
    · rw [upd_ne z] at q ⊢; exact r.sf b o q
  · by_cases z : a = p
    · subst z; exact .inr (.inl h0)
    · rw [upd_ne z] at q; exact r.nw a o q
  · rcases get_set q with ⟨rfl, rfl⟩ | ⟨n, q⟩
    · exact ⟨.ref p, h2, (e5.mono sm).rep upd_same⟩
    · have := r.sl i s q
      cases s with
      | un => trivial
      | im d => obtain ⟨v, f1, f2⟩ := this; exact ⟨v, f1, f2.mono sm⟩
      | ow us =>
        obtain ⟨a, us', f1, f2, f3, f4, f5⟩ := this
        have na : a ≠ p := fun z => by subst z; rw [h3] at f4; exact e5.nl (Option.some.inj f4)
        exact ⟨a, us', f1, by rw [upd_ne na]; exact f2, f3, by rw [upd_ne na]; exact f4, f5.mono sm⟩
      | od us =>
        obtain ⟨a, us', f1, f2, f3, f4, f5⟩ := this
        have na : a ≠ p := fun z => by subst z; exact r.ad i j a us x n q h1 f1 h2
        exact ⟨a, us', f1, by rw [upd_ne na]; exact f2, f3, by rw [upd_ne na]; exact f4, f5.mono sm⟩
  · obtain ⟨f1, us, f2⟩ := r.p0 a q
    have z : j ≠ 0 := fun z => by subst z; rw [h1] at f2; cases f2
    exact ⟨f1, us, by rw [List.getElem?_set_ne z]; exact f2⟩
/-- a tuple that stands is settled -/
theorem Rl.settleT (r : Rl c σ H Hf e) {q0 : Addr} {xs : List V} (h : H q0 = some (.tup xs)) : Rl c σ H (upd Hf q0 (.tup xs)) e ∧ Same Hf (upd Hf q0 (.tup xs)) := by
  have sm : Same Hf (upd Hf q0 (.tup xs)) := fun b o q => by
    by_cases z : b = q0
    · subst z
      have := r.sf b o q
      rw [h] at this; cases this; exact upd_same
    · rw [upd_ne z]; exact q
  refine ⟨⟨r.ln, r.fr, r.fo, fun b o q => ?_, r.s0.trans sm, fun a o q => ?_, fun i s q => ?_, r.ap, r.p0, r.ad⟩, sm⟩
  · by_cases z : b = q0
    · subst z; rw [upd_same] at q; cases q; exact h
    · rw [upd_ne z] at q; exact r.sf b o q
  · by_cases z : a = q0
    · subst z; rw [upd_same] at q; cases q; exact .inr (.inr ⟨xs, rfl⟩)
    · rw [upd_ne z] at q; exact r.nw a o q
  · have := r.sl i s q
    cases s with
    | un => trivial
    | im d => obtain ⟨v, f1, f2⟩ := this; exact ⟨v, f1, f2.mono sm⟩
    | ow us =>
      obtain ⟨a, us', f1, f2, f3, f4, f5⟩ := this
      have na : a ≠ q0 := fun z => by subst z; rw [h] at f4; cases f4
      exact ⟨a, us', f1, by rw [upd_ne na]; exact f2, f3, f4, f5.mono sm⟩
    | od us =>
      obtain ⟨a, us', f1, f2, f3, f4, f5⟩ := this
      have na : a ≠ q0 := fun z => by subst z; rw [h] at f4; exact f5.nt (Option.some.inj f4).symm
      exact ⟨a, us', f1, by rw [upd_ne na]; exact f2, f3, f4, f5.mono sm⟩
/-- the own list in slot j is settled -/
theorem Rl.frz (r : Rl c σ H Hf e) {j : Nat} {xs : List D} (h1 : e[j]? = some (.ow xs)) (ho : c.own = fun a => c.pin = some a) (hp : j ≠ 0 ∨ c.pin = none) : ∃ Hf', Rl c σ H Hf' (e.set j (.im (.lst xs))) ∧ Same Hf Hf' := by
  have hj : j < e.length := by
    by_cases z : j < e.length
    · exact z
    · rw [List.getElem?_eq_none (by omega)] at h1; cases h1
  obtain ⟨p, ws, e1, e2, e3, e4, e5⟩ := r.sl j _ h1
  have h0 : c.H0 p = none := by
    rcases e3 with z | z
    · rw [ho] at z
      rcases hp with n | n
      · obtain ⟨f1, us, f2⟩ := r.p0 p z
        exact (r.ap 0 j p us xs (Ne.symm n) f2 h1 f1 e1).elim
      · rw [n] at z; cases z
    · exact z
  have sm : Same Hf (upd Hf p (.lst ws)) := same_new e2
  refine ⟨upd Hf p (.lst ws), ⟨by simp [r.ln], r.fr, r.fo, fun b o q => ?_, r.s0.trans sm, fun a o q => ?_, fun i s q => ?_, fun i k a us vs n g1 g2 g3 g4 => ?_, fun a q => ?_, fun i k a us vs n g1 g2 g3 g4 => r.ad i k a us vs n (set_od g1) (set_od g2) g3 g4⟩, sm⟩
  · by_cases z : b = p
    · subst z; rw [upd_same] at q; cases q; exact e4
    · rw [upd_ne z] at q; exact r.sf b o q
  · by_cases z : a = p
    · subst z; exact .inr (.inl h0)
    · rw [upd_ne z] at q; exact r.nw a o q
  · rcases get_set q with ⟨rfl, rfl⟩ | ⟨n, q⟩
    · exact ⟨.ref p, e1, .lst (.of upd_same) (e5.mono sm)⟩
    · have := r.sl i s q
      cases s with
      | un => trivial
      | im d => obtain ⟨v, f1, f2⟩ := this; exact ⟨v, f1, f2.mono sm⟩
      | ow us =>
        obtain ⟨a, us', f1, f2, f3, f4, f5⟩ := this
        have na : a ≠ p := fun z => by subst z; exact r.ap i j a us xs n q h1 f1 e1
        exact ⟨a, us', f1, by rw [upd_ne na]; exact f2, f3, f4, f5.mono sm⟩
      | od us =>
        obtain ⟨a, us', f1, f2, f3, f4, f5⟩ := this
        have na : a ≠ p := fun z => by subst z; rw [e4] at f4; exact f5.nl (Option.some.inj f4).symm
        exact ⟨a, us', f1, by rw [upd_ne na]; exact f2, f3, f4, f5.mono sm⟩
  · rcases get_set g1 with ⟨_, z⟩ | ⟨n1, g1⟩
    · cases z
    rcases get_set g2 with ⟨_, z⟩ | ⟨n2, g2⟩
    · cases z
    exact r.ap i k a us vs n g1 g2 g3 g4
  · obtain ⟨f1, us, f2⟩ := r.p0 a q
    rcases hp with z | z
    · exact ⟨f1, us, by rw [List.getElem?_set_ne z]; exact f2⟩
    · rw [z] at q; cases q
/-! ### a comprehension's own names -/
theorem wipeE_len (e : DL.Env) : ∀ vs, (wipeE e vs).length = e.length
  | [] => rfl
  | v :: vs => by simp [wipeE, wipeE_len e vs]
theorem wipeE_out {i : Nat} : ∀ {vs : List Nat}, i ∉ vs → (wipeE e vs)[i]? = e[i]?
  | [], _ => rfl
  | v :: vs, h => by
    simp only [List.mem_cons, not_or] at h
    show ((wipeE e vs).set v .un)[i]? = _
    rw [List.getElem?_set_ne (Ne.symm h.1), wipeE_out h.2]
theorem wipeE_in {i : Nat} {s : Sl} : ∀ {vs : List Nat}, i ∈ vs → (wipeE e vs)[i]? = some s → s = .un
  | v :: vs, h, q => by
    rcases get_set (show ((wipeE e vs).set v .un)[i]? = some s from q) with ⟨_, z⟩ | ⟨n, q⟩
    · exact z
    · rcases List.mem_cons.mp h with z | z
      · exact absurd z n
      · exact wipeE_in z q
theorem backE_len (e0 e : DL.Env) : ∀ vs, (backE e0 e vs).length = e.length
  | [] => rfl
  | v :: vs => by simp [backE, backE_len e0 e vs]
theorem backE_out {e0 : DL.Env} {i : Nat} : ∀ {vs : List Nat}, i ∉ vs → (backE e0 e vs)[i]? = e[i]?
  | [], _ => rfl
  | v :: vs, h => by
    simp only [List.mem_cons, not_or] at h
    show ((backE e0 e vs).set v _)[i]? = _
    rw [List.getElem?_set_ne (Ne.symm h.1), backE_out h.2]
theorem backE_in {e0 : DL.Env} {i : Nat} {s : Sl} : ∀ {vs : List Nat}, i ∈ vs → (backE e0 e vs)[i]? = some s → s = .un ∨ ∃ d, s = .im d ∧ e0[i]? = some (.im d)
  | v :: vs, h, q => by
    rcases get_set (show ((backE e0 e vs).set v _)[i]? = some s from q) with ⟨z, z2⟩ | ⟨n, q⟩
    · subst z
      split at z2
      · rename_i d w
        exact .inr ⟨d, z2, w⟩
      · exact .inl z2
    · rcases List.mem_cons.mp h with z | z
      · exact absurd z n
      · exact backE_in z q
theorem wipe_in {i : Nat} {x : V} {vs : List Nat} (h : (wipe σ vs)[i]? = some (some x)) : σ[i]? = some (some x) ∧ i ∉ vs := wipe_some h
theorem Rl.wipe (r : Rl c σ H Hf e) {vs : List Nat} (h0 : 0 ∉ vs) : Rl c (L2.wipe σ vs) H Hf (wipeE e vs) where
  ln := by rw [wipe_length, wipeE_len, r.ln]
  fr := r.fr
  fo := r.fo
  sf := r.sf
  s0 := r.s0
  nw := r.nw
  sl := fun i s q => by
    by_cases z : i ∈ vs
    · rw [wipeE_in z q]; trivial
    · rw [wipe_out z]; rw [wipeE_out z] at q; exact r.sl i s q
  ap := fun i j p xs ys n h1 h2 h3 h4 => by
    obtain ⟨h3, z3⟩ := wipe_in h3
    obtain ⟨h4, z4⟩ := wipe_in h4
    rw [wipeE_out z3] at h1
    rw [wipeE_out z4] at h2
    exact r.ap i j p xs ys n h1 h2 h3 h4
  p0 := fun p q => by
    obtain ⟨f1, us, f2⟩ := r.p0 p q
    exact ⟨by rw [wipe_out h0]; exact f1, us, by rw [wipeE_out h0]; exact f2⟩
  ad := fun i j p xs ys n h1 h2 h3 h4 => by
    obtain ⟨h3, z3⟩ := wipe_in h3
    obtain ⟨h4, z4⟩ := wipe_in h4
    rw [wipeE_out z3] at h1
    rw [wipeE_out z4] at h2
    exact r.ad i j p xs ys n h1 h2 h3 h4
/-- the context of a block that starts here -/
def Ct.blk (c : Ct) (σ : L2.St) (H Hf : Hp) (e : DL.Env) : Ct :=
  ⟨c.K, H, Hf, fun b => (∃ (j : Nat) (xs : List D), e[j]? = some (Sl.ow xs) ∧ σ[j]? = some (some (V.ref b))) ∨ ∃ (j : Nat) (x : Od), e[j]? = some (Sl.od x) ∧ σ[j]? = some (some (V.ref b)), c.pin⟩
theorem Rl.enter (r : Rl c σ H Hf e) : Rl (c.blk σ H Hf e) σ H Hf e where
  ln := r.ln
  fr := fun _ _ q _ => q
  fo := fun b o q _ => ⟨o, q⟩
  sf := r.sf
  s0 := Same.refl _
  nw := fun a o q => .inl q
  sl := fun i s q => by
    have := r.sl i s q
    cases s with
    | un => trivial
    | im d => exact this
    | ow xs =>
      obtain ⟨a, vs, e1, e2, e3, e4, e5⟩ := this
      exact ⟨a, vs, e1, e2, .inl (.inl ⟨i, xs, q, e1⟩), e4, e5⟩
    | od xs =>
      obtain ⟨a, vs, e1, e2, e3, e4, e5⟩ := this
      exact ⟨a, vs, e1, e2, .inl (.inr ⟨i, xs, q, e1⟩), e4, e5⟩
  ap := r.ap
  p0 := r.p0
  ad := r.ad
/-- behind the block -/
theorem Rl.leave {e2 : DL.Env} (r : Rl c σ H Hf e) (r1 : Rl (c.blk σ H Hf e) σ H' Hf' e2) : Rl c σ H' Hf' e2 := by
  have fr' : ∀ b o, H b = some o → ¬ (c.blk σ H Hf e).own b → H' b = some o := fun b o q w => r1.fr b o q w
  have fo' : ∀ b o, H b = some o → ∃ o', H' b = some o' := fun b o q => by
    by_cases w : (c.blk σ H Hf e).own b
    · exact r1.fo b o q w
    · exact ⟨o, fr' b o q w⟩
  refine ⟨r1.ln, fun b o q w => ?_, fun b o q w => ?_, r1.sf, r.s0.trans r1.s0, fun a o q => ?_, fun i s q => ?_, r1.ap, r1.p0, r1.ad⟩
  · refine fr' b o (r.fr b o q w) fun z => ?_
    rcases z with ⟨j, xs, q1, q2⟩ | ⟨j, xs, q1, q2⟩
    · obtain ⟨a, vs', e1, _, e3, _, _⟩ := r.sl j _ q1
      rw [q2] at e1
      cases e1
      rcases e3 with e3 | e3
      · exact w e3
      · rw [q] at e3; cases e3
    · obtain ⟨a, vs', e1, _, e3, _, _⟩ := r.sl j _ q1
      rw [q2] at e1
      cases e1
      rcases e3 with e3 | e3
      · exact w e3
      · rw [q] at e3; cases e3
  · obtain ⟨o', z⟩ := r.fo b o q w
    exact fo' b o' z
  · rcases r1.nw a o q with z | z | z
    · exact r.nw a o z
    · exact .inr (.inl (r.h0 z))
    · exact .inr (.inr z)
  · have := r1.sl i s q
    cases s with
    | un => trivial
    | im d => exact this
    | ow us =>
      obtain ⟨a, us', f1, f2, f3, f4, f5⟩ := this
      refine ⟨a, us', f1, f2, ?_, f4, f5⟩
      rcases f3 with k | k
      · rcases k with ⟨j, xs, q1, q2⟩ | ⟨j, xs, q1, q2⟩
        · obtain ⟨a', _, e1, _, e3, _, _⟩ := r.sl j _ q1
          rw [q2] at e1; cases e1; exact e3
        · obtain ⟨a', _, e1, _, e3, _, _⟩ := r.sl j _ q1
          rw [q2] at e1; cases e1; exact e3
      · exact .inr (r.h0 k)
    | od us =>
      obtain ⟨a, us', f1, f2, f3, f4, f5⟩ := this
      refine ⟨a, us', f1, f2, ?_, f4, f5⟩
      rcases f3 with k | k
      · rcases k with ⟨j, xs, q1, q2⟩ | ⟨j, xs, q1, q2⟩
        · obtain ⟨a', _, e1, _, e3, _, _⟩ := r.sl j _ q1
          rw [q2] at e1; cases e1; exact e3
        · obtain ⟨a', _, e1, _, e3, _, _⟩ := r.sl j _ q1
          rw [q2] at e1; cases e1; exact e3
      · exact .inr (r.h0 k)
/-- a comprehension's names are back -/
theorem Rl.unwipe {H1 Hf1 : Hp} {e1 e2 : DL.Env} {vs : List Nat} (r : Rl c σ H1 Hf1 e1) (h0 : 0 ∉ vs) (sm : Same Hf1 Hf) (r1 : Rl c (L2.wipe σ vs) H Hf (wipeE e2 vs)) : Rl c σ H Hf (backE e1 e2 vs) := by
  refine ⟨?_, r1.fr, r1.fo, r1.sf, r1.s0, r1.nw, fun i s q => ?_, fun i j p xs ys n g1 g2 g3 g4 => ?_, fun p q => ?_, fun i j p xs ys n g1 g2 g3 g4 => ?_⟩
  · rw [backE_len]
    have := r1.ln
    rw [wipe_length, wipeE_len] at this
    exact this
  · by_cases z : i ∈ vs
    · rcases backE_in z q with w | ⟨d, rfl, w⟩
      · rw [w]; trivial
      · obtain ⟨v, f1, f2⟩ := r.sl i _ w
        exact ⟨v, f1, f2.mono sm⟩
    · rw [backE_out z] at q
      have := r1.sl i s (by rw [wipeE_out z]; exact q)
      rw [wipe_out z] at this
      exact this
  · have out : ∀ k us, (backE e1 e2 vs)[k]? = some (.ow us) → k ∉ vs := fun k us q z => by
      rcases backE_in z q with w | ⟨d, w, _⟩ <;> cases w
    have zi := out i xs g1
    have zj := out j ys g2
    rw [backE_out zi] at g1
    rw [backE_out zj] at g2
    exact r1.ap i j p xs ys n (by rw [wipeE_out zi]; exact g1) (by rw [wipeE_out zj]; exact g2) (by rw [wipe_out zi]; exact g3) (by rw [wipe_out zj]; exact g4)
  · obtain ⟨f1, us, f2⟩ := r1.p0 p q
    rw [wipe_out h0] at f1
    rw [wipeE_out h0] at f2
    exact ⟨f1, us, by rw [backE_out h0]; exact f2⟩
  · have out : ∀ k us, (backE e1 e2 vs)[k]? = some (.od us) → k ∉ vs := fun k us q z => by
      rcases backE_in z q with w | ⟨d, w, _⟩ <;> cases w
    have zi := out i xs g1
    have zj := out j ys g2
    rw [backE_out zi] at g1
    rw [backE_out zj] at g2
    exact r1.ad i j p xs ys n (by rw [wipeE_out zi]; exact g1) (by rw [wipeE_out zj]; exact g2) (by rw [wipe_out zi]; exact g3) (by rw [wipe_out zj]; exact g4)
/-- an object of nobody's slot is changed -/
theorem Rl.bump (r : Rl c σ H Hf e) {q0 : Addr} {o : HO} (h0 : c.H0 q0 = none) (hf : Hf q0 = none) (hn : ∀ (j : Nat) (ys : List D), e[j]? = some (.ow ys) → σ[j]? = some (some (.ref q0)) → False) (hnd : ∀ (j : Nat) (y : Od), e[j]? = some (.od y) → σ[j]? = some (some (.ref q0)) → False) : Rl c σ (upd H q0 o) Hf e where
  ln := r.ln
  fr := fun b x q w => by
    have n : b ≠ q0 := fun z => by subst z; rw [h0] at q; cases q
    rw [upd_ne n]; exact r.fr b x q w
  fo := fun b x q w => by
    have n : b ≠ q0 := fun z => by subst z; rw [h0] at q; cases q
    rw [upd_ne n]; exact r.fo b x q w
  sf := fun b x q => by
    have n : b ≠ q0 := fun z => by subst z; rw [hf] at q; cases q
    rw [upd_ne n]; exact r.sf b x q
  s0 := r.s0
  nw := r.nw
  sl := fun i s q => by
    have := r.sl i s q
    cases s with
    | un => trivial
    | im d => exact this
    | ow xs =>
      obtain ⟨a, vs, e1, e2, e3, e4, e5⟩ := this
      have na : a ≠ q0 := fun z => by subst z; exact hn i xs q e1
      exact ⟨a, vs, e1, e2, e3, by rw [upd_ne na]; exact e4, e5⟩
    | od xs =>
      obtain ⟨a, vs, e1, e2, e3, e4, e5⟩ := this
      have na : a ≠ q0 := fun z => by subst z; exact hnd i xs q e1
      exact ⟨a, vs, e1, e2, e3, by rw [upd_ne na]; exact e4, e5⟩
  ap := r.ap
  p0 := r.p0
  ad := r.ad
/-- behind a call that changes nothing of ours -/
theorem Rl.call (r : Rl c σ H Hf e) (h1 : Same H H') (h2 : Same Hf Hf') (h3 : Same Hf' H') (h4 : Nw Hf Hf' H) : Rl c σ H' Hf' e where
  ln := r.ln
  fr := fun b x q w => h1 b x (r.fr b x q w)
  fo := fun b x q w => by obtain ⟨o', z⟩ := r.fo b x q w; exact ⟨o', h1 b o' z⟩
  sf := h3
  s0 := r.s0.trans h2
  nw := fun a x q => by
    rcases h4 a x q with z | z | z
    · exact r.nw a x z
    · exact .inr (.inl (r.h0 z))
    · exact .inr (.inr z)
  sl := fun i s q => by
    have := r.sl i s q
    cases s with
    | un => trivial
    | im d => obtain ⟨v, f1, f2⟩ := this; exact ⟨v, f1, f2.mono h2⟩
    | ow xs =>
      obtain ⟨a, vs, e1, e2, e3, e4, e5⟩ := this
      refine ⟨a, vs, e1, ?_, e3, h1 a _ e4, e5.mono h2⟩
      cases k : Hf' a with
      | none => rfl
      | some o =>
        rcases h4 a o k with z | z | ⟨ys, rfl⟩
        · rw [e2] at z; cases z
        · rw [e4] at z; cases z
        · have := h3 a _ k; rw [h1 a _ e4] at this; cases this
    | od xs =>
      obtain ⟨a, vs, e1, e2, e3, e4, e5⟩ := this
      refine ⟨a, vs, e1, ?_, e3, h1 a _ e4, e5.mono h2⟩
      cases k : Hf' a with
      | none => rfl
      | some o =>
        rcases h4 a o k with z | z | ⟨ys, rfl⟩
        · rw [e2] at z; cases z
        · rw [e4] at z; cases z
        · have := h3 a _ k; rw [h1 a _ e4] at this; exact (e5.nt (Option.some.inj this)).elim
  ap := r.ap
  p0 := r.p0
  ad := r.ad
/-- behind a call that changes the list of slot j -/
theorem Rl.callI (r : Rl c σ H Hf e) {j : Nat} {xs ys : List D} {ws : List V} (g1 : e[j]? = some (.ow xs)) (g2 : σ[j]? = some (some (.ref p))) (h1 : ∀ b o, H b = some o → b ≠ p → H' b = some o) (h2 : Same Hf Hf') (h3 : Same Hf' H') (h4 : Nw Hf Hf' H)
    (h5 : H' p = some (.lst ws)) (h6 : RepL c.K Hf' ws ys) : Rl c σ H' Hf' (e.set j (.ow ys)) := by
  have hj : j < e.length := by
    by_cases z : j < e.length
    · exact z
    · rw [List.getElem?_eq_none (by omega)] at g1; cases g1
  obtain ⟨p', vs, e1, e2, e3, e4, e5⟩ := r.sl j _ g1
  rw [g2] at e1
  cases e1
  have none_ : ∀ a, Hf a = none → (∃ o, H' a = some o ∧ ∀ ys, o ≠ .tup ys) → (∃ o, H a = some o) → Hf' a = none := fun a z1 ⟨o, y1, y2⟩ ⟨o2, z2⟩ => by
    cases k : Hf' a with
    | none => rfl
    | some o =>
      rcases h4 a o k with z | z | ⟨ys, rfl⟩
      · rw [z1] at z; cases z
      · rw [z2] at z; cases z
      · have := h3 a _ k; rw [y1] at this; exact (y2 ys (Option.some.inj this)).elim
  refine ⟨by simp [r.ln], fun b o q w => ?_, fun b o q w => ?_, h3, r.s0.trans h2, fun a o q => ?_, fun i s q => ?_, fun i k a us ws n q1 q2 q3 q4 => ?_, fun a q => ?_, fun i k a us ws n q1 q2 q3 q4 => r.ad i k a us ws n (set_od q1) (set_od q2) q3 q4⟩
  · have n : b ≠ p := fun z => by
      subst z
      rcases e3 with z | z
      · exact w z
      · rw [z] at q; cases q
    exact h1 b o (r.fr b o q w) n
  · by_cases n : b = p
    · subst n; exact ⟨_, h5⟩
    · obtain ⟨o', z⟩ := r.fo b o q w; exact ⟨o', h1 b o' z n⟩
  · rcases h4 a o q with z | z | z
    · exact r.nw a o z
    · exact .inr (.inl (r.h0 z))
    · exact .inr (.inr z)
  · rcases get_set q with ⟨rfl, rfl⟩ | ⟨n, q⟩
    · exact ⟨p, ws, g2, none_ p e2 ⟨_, h5, fun _ z => nomatch z⟩ ⟨_, e4⟩, e3, h5, h6⟩
    · have := r.sl i s q
      cases s with
      | un => trivial
      | im d => obtain ⟨v, f1, f2⟩ := this; exact ⟨v, f1, f2.mono h2⟩
      | ow us =>
        obtain ⟨a, us', f1, f2, f3, f4, f5⟩ := this
        have na : a ≠ p := fun z => by subst z; exact r.ap i j a us xs n q g1 f1 g2
        exact ⟨a, us', f1, none_ a f2 ⟨_, h1 a _ f4 na, fun _ z => nomatch z⟩ ⟨_, f4⟩, f3, h1 a _ f4 na, f5.mono h2⟩
      | od us =>
        obtain ⟨a, us', f1, f2, f3, f4, f5⟩ := this
        have na : a ≠ p := fun z => by subst z; rw [e4] at f4; exact f5.nl (Option.some.inj f4).symm
        exact ⟨a, us', f1, none_ a f2 ⟨_, h1 a _ f4 na, fun _ z => f5.nt z⟩ ⟨_, f4⟩, f3, h1 a _ f4 na, f5.mono h2⟩
  · have g1' : ∃ us, e[i]? = some (.ow us) := by
      rcases get_set q1 with ⟨z, _⟩ | ⟨_, z⟩
      · subst z; exact ⟨_, g1⟩
      · exact ⟨_, z⟩
    have g2' : ∃ us, e[k]? = some (.ow us) := by
      rcases get_set q2 with ⟨z, _⟩ | ⟨_, z⟩
      · subst z; exact ⟨_, g1⟩
      · exact ⟨_, z⟩
    obtain ⟨u1, g1'⟩ := g1'
    obtain ⟨u2, g2'⟩ := g2'
    exact r.ap i k a u1 u2 n g1' g2' q3 q4
  · obtain ⟨f1, us, f2⟩ := r.p0 a q
    refine ⟨f1, ?_⟩
    by_cases z : j = 0
    · subst z; exact ⟨ys, set_at hj⟩
    · exact ⟨us, by rw [List.getElem?_set_ne z]; exact f2⟩
theorem Rl.odAt (r : Rl c σ H Hf e) {j : Nat} {x : Od} (h : e[j]? = some (.od x)) : ∃ p u, σ[j]? = some (some (.ref p)) ∧ Hf p = none ∧ (c.own p ∨ c.H0 p = none) ∧ H p = some u ∧ OdR c.K Hf u x := r.sl j _ h
theorem Rl.ownAt (r : Rl c σ H Hf e) {j : Nat} {xs : List D} (h : e[j]? = some (.ow xs)) : ∃ p vs, σ[j]? = some (some (.ref p)) ∧ Hf p = none ∧ (c.own p ∨ c.H0 p = none) ∧ H p = some (.lst vs) ∧ RepL c.K Hf vs xs := r.sl j _ h
theorem wipe_wipe (σ : L2.St) (vs : List Nat) : L2.wipe (L2.wipe σ vs) vs = L2.wipe σ vs := by
  have key : ∀ (σ : L2.St) (vs : List Nat) (i : Nat), (L2.wipe σ vs)[i]? = if i ∈ vs then (if i < σ.length then some none else none) else σ[i]? := by
    intro σ vs i
    induction vs with
    | nil => simp [L2.wipe]
    | cons v vs ih =>
      show ((L2.wipe σ vs).set v none)[i]? = _
      by_cases z : i = v
      · subst z
        rw [List.getElem?_set]
        simp [wipe_length]
      · rw [List.getElem?_set_ne (Ne.symm z), ih]
        simp [z]
  apply List.ext_getElem?
  intro i
  rw [key, key]
  by_cases z : i ∈ vs
  · simp [z, wipe_length]
  · simp [z]
theorem wipe_set (σ : L2.St) (vs : List Nat) (i : Nat) (x : Option V) (h : i ∈ vs) : L2.wipe (σ.set i x) vs = L2.wipe σ vs := by
  have key : ∀ (σ : L2.St) (vs : List Nat) (i : Nat), (L2.wipe σ vs)[i]? = if i ∈ vs then (if i < σ.length then some none else none) else σ[i]? := by
    intro σ vs i
    induction vs with
    | nil => simp [L2.wipe]
    | cons v vs ih =>
      show ((L2.wipe σ vs).set v none)[i]? = _
      by_cases z : i = v
      · subst z
        rw [List.getElem?_set]
        simp [wipe_length]
      · rw [List.getElem?_set_ne (Ne.symm z), ih]
        simp [z]
  apply List.ext_getElem?
  intro k
  rw [key, key]
  by_cases z : k ∈ vs
  · simp [z]
  · simp only [z, if_false]
    rw [List.getElem?_set_ne (fun (y : i = k) => z (y ▸ h))]
theorem wipeE_wipeE (e : DL.Env) (vs : List Nat) : wipeE (wipeE e vs) vs = wipeE e vs := by
  have key : ∀ (e : DL.Env) (vs : List Nat) (i : Nat), (wipeE e vs)[i]? = if i ∈ vs then (if i < e.length then some .un else none) else e[i]? := by
    intro σ vs i
    induction vs with
    | nil => simp [wipeE]
    | cons v vs ih =>
      show ((wipeE σ vs).set v .un)[i]? = _
      by_cases z : i = v
      · subst z
        rw [List.getElem?_set]
        simp [wipeE_len]
      · rw [List.getElem?_set_ne (Ne.symm z), ih]
        simp [z]
  apply List.ext_getElem?
  intro i
  rw [key, key]
  by_cases z : i ∈ vs
  · simp [z, wipeE_len]
  · simp [z]
end
end DL

namespace DL
open PySem PySem.Spec PyProof.Rows L2
/-! ### the judgements: a piece of syntax does what a combinator says -/
structure XO (X : Cx) (k : Nat) : Prop where
  calm : X.calm = true
  nd : X.N.Nodup
  room : Room k X.A
  po : PassesOwn (model X.prog X.w) X.A X.env X.xe
def DE (X : Cx) (ex : Expr) (m : M D) : Prop := ∃ t, PE X ex t ∧ ∀ (c : Ct) (σ : L2.St) (H Hf : Hp) (e : DL.Env) (d : D) (e' : DL.Env) (Q : VK), c.K = X.K → Rl c σ H Hf e → m e = some (d, e') →
  (∀ v H' Hf', Rl c σ H' Hf' e' → Same Hf Hf' → Rep c.K Hf' v d → Q v H') → t σ H Q
def DT (X : Cx) (ex : Expr) (m : M Bool) : Prop := ∃ t, PT X ex t ∧ ∀ (c : Ct) (σ : L2.St) (H Hf : Hp) (e : DL.Env) (d : Bool) (e' : DL.Env) (Q : Bool → Hp → Prop), c.K = X.K → Rl c σ H Hf e → m e = some (d, e') →
  (∀ H' Hf', Rl c σ H' Hf' e' → Same Hf Hf' → Q d H') → t σ H Q
def DW (X : Cx) (ex : Expr) (m : M Bool) : Prop := ∃ t, PW X ex t ∧ ∀ (c : Ct) (σ : L2.St) (H Hf : Hp) (e : DL.Env) (d : Bool) (e' : DL.Env) (Q : Bool → Hp → Prop), c.K = X.K → Rl c σ H Hf e → m e = some (d, e') →
  (∀ H' Hf', Rl c σ H' Hf' e' → Same Hf Hf' → Q d H') → t σ H Q
def DA (X : Cx) (es : List Expr) (m : M (List D)) : Prop := ∃ t, PA X es t ∧ ∀ (c : Ct) (σ : L2.St) (H Hf : Hp) (e : DL.Env) (ds : List D) (e' : DL.Env) (Q : List V → Hp → Prop), c.K = X.K → Rl c σ H Hf e → m e = some (ds, e') →
  (∀ vs H' Hf', Rl c σ H' Hf' e' → Same Hf Hf' → RepL c.K Hf' vs ds → Q vs H') → t σ H Q
/-- an object of our own at p: tracked, not settled, in no slot -/
structure NewAt (c : Ct) (σ : L2.St) (H Hf : Hp) (e : DL.Env) (p : Addr) (vs : List V) : Prop where
  h : H p = some (.lst vs)
  f : Hf p = none
  z : c.H0 p = none
  n : ∀ (j : Nat) (ys : List D), e[j]? = some (.ow ys) → σ[j]? = some (some (.ref p)) → False
/-- an expression that makes a new list -/
def DN (X : Cx) (ex : Expr) (m : M (List D)) : Prop := ∃ t, PE X ex t ∧ ∀ (c : Ct) (σ : L2.St) (H Hf : Hp) (e : DL.Env) (xs : List D) (e' : DL.Env) (Q : VK), c.K = X.K → Rl c σ H Hf e → m e = some (xs, e') →
  (∀ p vs H' Hf', Rl c σ H' Hf' e' → Same Hf Hf' → NewAt c σ H' Hf' e' p vs → RepL c.K Hf' vs xs → Q (.ref p) H') → t σ H Q
/-- an operation on two values -/
def OpS (X : Cx) (f : Value → Value → Sem Value) (op : D → D → Option D) : Prop := ∃ r, OpR X f r ∧ ∀ (c : Ct) (σ : L2.St) (H Hf : Hp) (e : DL.Env) (x y z : D) (v w : V) (Q : VK), c.K = X.K → Rl c σ H Hf e → Rep c.K Hf v x → Rep c.K Hf w y → op x y = some z →
  (∀ u H' Hf', Rl c σ H' Hf' e → Same Hf Hf' → Rep c.K Hf' u z → Q u H') → r v w H Q
def UnS (X : Cx) (f : Value → Sem Value) (op : D → Option D) : Prop := ∃ r, UnR X f r ∧ ∀ (c : Ct) (σ : L2.St) (H Hf : Hp) (e : DL.Env) (x z : D) (v : V) (Q : VK), c.K = X.K → Rl c σ H Hf e → Rep c.K Hf v x → op x = some z →
  (∀ u H' Hf', Rl c σ H' Hf' e → Same Hf Hf' → Rep c.K Hf' u z → Q u H') → r v H Q
def CallS (X : Cx) (f : Value) (g : List D → Option D) : Prop := ∃ r, CallR X f r ∧ ∀ (c : Ct) (σ : L2.St) (H Hf : Hp) (e : DL.Env) (xs : List V) (ds : List D) (d : D) (Q : VK), c.K = X.K → Rl c σ H Hf e → RepL c.K Hf xs ds → g ds = some d →
  (∀ u H' Hf', Rl c σ H' Hf' e → Same Hf Hf' → Rep c.K Hf' u d → Q u H') → r xs H Q
/-- a call that makes a new list -/
def CallN (X : Cx) (f : Value) (g : List D → Option (List D)) : Prop := ∃ r, CallR X f r ∧ ∀ (c : Ct) (σ : L2.St) (H Hf : Hp) (e : DL.Env) (xs : List V) (ds : List D) (d : List D) (Q : VK), c.K = X.K → Rl c σ H Hf e → RepL c.K Hf xs ds → g ds = some d →
  (∀ p vs H' Hf', Rl c σ H' Hf' e → Same Hf Hf' → NewAt c σ H' Hf' e p vs → RepL c.K Hf' vs d → Q (.ref p) H') → r xs H Q
section
variable {c : Ct} {σ : L2.St} {H Hf : Hp} {e : DL.Env} {p : Addr} {vs : List V}
theorem NewAt.of (r : Rl c σ H Hf e) (h : H p = none) : NewAt c σ (upd H p (.lst vs)) Hf e p vs := ⟨upd_same, none_sub r.sf h, r.h0 h, r.new_no h⟩
theorem NewAt.settle (n : NewAt c σ H Hf e p vs) (r : Rl c σ H Hf e) : Rl c σ H (upd Hf p (.lst vs)) e where
  ln := r.ln
  fr := r.fr
  fo := r.fo
  sf := fun b x q => by
    by_cases z : b = p
    · subst z; rw [upd_same] at q; cases q; exact n.h
    · rw [upd_ne z] at q; exact r.sf b x q
  s0 := r.s0.trans (same_new n.f)
  nw := fun a x q => by
    by_cases z : a = p
    · subst z; exact .inr (.inl n.z)
    · rw [upd_ne z] at q; exact r.nw a x q
  sl := fun i s q => by
    have := r.sl i s q
    cases s with
    | un => trivial
    | im d => obtain ⟨v, e1, e2⟩ := this; exact ⟨v, e1, e2.mono (same_new n.f)⟩
    | ow xs =>
      obtain ⟨a, vs, e1, e2, e3, e4, e5⟩ := this
      have na : a ≠ p := fun z => by subst z; exact n.n i xs q e1
      exact ⟨a, vs, e1, by rw [upd_ne na]; exact e2, e3, e4, e5.mono (same_new n.f)⟩
    | od xs =>
      obtain ⟨a, vs, e1, e2, e3, e4, e5⟩ := this
      have na : a ≠ p := fun z => by subst z; rw [n.h] at e4; exact e5.nl (Option.some.inj e4).symm
      exact ⟨a, vs, e1, by rw [upd_ne na]; exact e2, e3, e4, e5.mono (same_new n.f)⟩
  ap := r.ap
  p0 := r.p0
  ad := r.ad
end
/-- a dict of our own at p: tracked, not settled, in no slot -/
structure NewD (c : Ct) (σ : L2.St) (H Hf : Hp) (e : DL.Env) (p : Addr) (u : HO) : Prop where
  h : H p = some u
  f : Hf p = none
  z : c.H0 p = none
  n : ∀ (j : Nat) (y : Od), e[j]? = some (.od y) → σ[j]? = some (some (.ref p)) → False
/-- an expression that makes a new dict -/
def DQ (X : Cx) (ex : Expr) (m : M Od) : Prop := ∃ t, PE X ex t ∧ ∀ (c : Ct) (σ : L2.St) (H Hf : Hp) (e : DL.Env) (x : Od) (e' : DL.Env) (Q : VK), c.K = X.K → Rl c σ H Hf e → m e = some (x, e') →
  (∀ p u H' Hf', Rl c σ H' Hf' e' → Same Hf Hf' → NewD c σ H' Hf' e' p u → OdR c.K Hf' u x → Q (.ref p) H') → t σ H Q
section
variable {c : Ct} {σ : L2.St} {H Hf : Hp} {e : DL.Env} {p : Addr} {u : HO} {x : Od}
theorem NewD.of (r : Rl c σ H Hf e) (h : H p = none) : NewD c σ (upd H p u) Hf e p u := ⟨upd_same, none_sub r.sf h, r.h0 h, r.new_noD h⟩
/-- a dict of nobody's slot is locked, and settled -/
theorem NewD.lock (n : NewD c σ H Hf e p u) (r : Rl c σ H Hf e) (hu : OdR c.K Hf u x) (ob : Obj) : Rl c σ (upd H p (.frz ob u)) (upd Hf p (.frz ob u)) e := by
  have nl : ∀ (i : Nat) (xs : List D), e[i]? = some (.ow xs) → σ[i]? = some (some (.ref p)) → False := fun i xs q1 q2 => by
    obtain ⟨a, vs, e1, _, _, e4, _⟩ := r.sl i _ q1
    rw [q2] at e1
    cases e1
    rw [n.h] at e4
    exact hu.nl (Option.some.inj e4)
  have r1 : Rl c σ (upd H p (.frz ob u)) Hf e := r.bump n.z n.f nl n.n
  have sm : Same Hf (upd Hf p (.frz ob u)) := same_new n.f
  refine ⟨r1.ln, r1.fr, r1.fo, fun b o q => ?_, r1.s0.trans sm, fun a o q => ?_, fun i s q => ?_, r1.ap, r1.p0, r1.ad⟩
  · by_cases z : b = p
    · subst z; rw [upd_same] at q ⊢; exact q
    · rw [upd_ne z] at q; exact r1.sf b o q
  · by_cases z : a = p
    · subst z; exact .inr (.inl n.z)
    · rw [upd_ne z] at q; exact r1.nw a o q
  · have := r1.sl i s q
    cases s with
    | un => trivial
    | im d => obtain ⟨v, e1, e2⟩ := this; exact ⟨v, e1, e2.mono sm⟩
    | ow xs =>
      obtain ⟨a, vs, e1, e2, e3, e4, e5⟩ := this
      have na : a ≠ p := fun z => by subst z; exact nl i xs q e1
      exact ⟨a, vs, e1, by rw [upd_ne na]; exact e2, e3, e4, e5.mono sm⟩
    | od xs =>
      obtain ⟨a, vs, e1, e2, e3, e4, e5⟩ := this
      have na : a ≠ p := fun z => by subst z; exact n.n i xs q e1
      exact ⟨a, vs, e1, by rw [upd_ne na]; exact e2, e3, e4, e5.mono sm⟩
end
variable {X : Cx}
theorem DN.e {ex : Expr} {m : M (List D)} (h : DN X ex m) : DE X ex (mFr m) := by
  obtain ⟨t, p, s⟩ := h
  refine ⟨t, p, fun c σ H Hf e d e' Q hK R hm q => ?_⟩
  unfold mFr at hm
  split at hm
  · cases hm
  · rename_i xs e1 he
    cases hm
    exact s c σ H Hf e xs e' Q hK R he fun a vs H' Hf' R' S' N' L' => q _ _ _ (N'.settle R') (S'.trans (same_new N'.f)) (.lst (.of upd_same) (L'.mono (same_new N'.f)))
/-! ### names, constants, operators -/
theorem de_var (i : Nat) {x : Str} {pos : Pos} (hN : X.N[i]? = some x := by rfl) (hv : Vis X.env.scope x := by first | exact Or.inl rfl | exact Or.inr (Or.inl rfl) | exact Or.inr (Or.inr rfl))
    (hd : (x == ("__debug__" : Str)) = false := by decide) (hcd : (x == ("__classdict__" : Str)) = false := by decide) : DE X (.Name x pos) (mVar i) := by
  refine ⟨_, pe_var hN hv hd hcd, fun c σ H Hf e d e' Q hK R hm q => ?_⟩
  unfold mVar at hm
  split at hm
  · rename_i d' he
    cases hm
    obtain ⟨v, h1, h2⟩ := R.sl i _ he
    exact ⟨v, h1, q v H Hf R (Same.refl _) h2⟩
  · cases hm
theorem de_int {i : Int} {j : Nat} {pos : Pos} : DE X (.Constant (.int i) j pos) (mC (.int i)) :=
  ⟨_, pe_int, fun c σ H Hf e d e' Q hK R hm q => by cases hm; exact q _ _ _ R (Same.refl _) (.int i)⟩
theorem de_bl {b : Bool} {j : Nat} {pos : Pos} : DE X (.Constant (.bool b) j pos) (mC (.bl b)) :=
  ⟨_, pe_bl, fun c σ H Hf e d e' Q hK R hm q => by cases hm; exact q _ _ _ R (Same.refl _) (.bl b)⟩
theorem de_non {j : Nat} {pos : Pos} : DE X (.Constant .none j pos) (mC .non) :=
  ⟨_, pe_non, fun c σ H Hf e d e' Q hK R hm q => by cases hm; exact q _ _ _ R (Same.refl _) .non⟩
theorem de_str {x : Str} {j : Nat} {pos : Pos} : DE X (.Constant (.str x) j pos) (mC (.str x)) :=
  ⟨_, pe_str, fun c σ H Hf e d e' Q hK R hm q => by cases hm; exact q _ _ _ R (Same.refl _) (.str x)⟩
/-- a module's constant, an int -/
theorem de_glob {x : Str} {n : Int} {u : Value} {pos : Pos} (hm : X.mg x = some u) (r : RelV (.int n) u) (hg : Gl X x := by rfl) (hd : (x == ("__debug__" : Str)) = false := by decide) : DE X (.Name x pos) (mC (.int n)) :=
  ⟨_, pe_glob hg hm r hd, fun c σ H Hf e d e' Q hK R hm q => by cases hm; exact q _ _ _ R (Same.refl _) (.int n)⟩
section
variable {a b ec : Expr} {ma mb mc : M D} {pos : Pos}
theorem de_bin {op : Operator} {o : D → D → Option D} (ho : OpS X (binaryOp op) o) (ha : DE X a ma) (hb : DE X b mb) : DE X (.BinOp a op b pos) (mBin o ma mb) := by
  obtain ⟨r, ro, so⟩ := ho
  obtain ⟨ta, pa, sa⟩ := ha
  obtain ⟨tb, pb, sb⟩ := hb
  refine ⟨_, pe_op ro pa pb, fun c σ H Hf e d e' Q hK R hm q => ?_⟩
  unfold mBin at hm
  split at hm
  · cases hm
  rename_i x e1 h1
  split at hm
  · cases hm
  rename_i y e2 h2
  split at hm
  · cases hm
  rename_i z h3
  cases hm
  refine sa c σ H Hf e x e1 _ hK R h1 fun v H1 Hf1 R1 S1 V1 => ?_
  refine sb c σ H1 Hf1 e1 y _ _ hK R1 h2 fun w H2 Hf2 R2 S2 V2 => ?_
  exact so c σ H2 Hf2 _ x y _ v w Q hK R2 (V1.mono S2) V2 h3 fun u H' Hf' R' S' V' => q u H' Hf' R' (S1.trans (S2.trans S')) V'
theorem de_un {op : UnaryOp} {o : D → Option D} (ho : UnS X (unaryOp op) o) (ha : DE X a ma) : DE X (.UnaryOp op a pos) (mUn o ma) := by
  obtain ⟨r, ro, so⟩ := ho
  obtain ⟨ta, pa, sa⟩ := ha
  refine ⟨_, pe_un ro pa, fun c σ H Hf e d e' Q hK R hm q => ?_⟩
  unfold mUn at hm
  split at hm
  · cases hm
  rename_i x e1 h1
  split at hm
  · cases hm
  rename_i z h3
  cases hm
  refine sa c σ H Hf e x _ _ hK R h1 fun v H1 Hf1 R1 S1 V1 => ?_
  exact so c σ H1 Hf1 _ x _ v Q hK R1 V1 h3 fun u H' Hf' R' S' V' => q u H' Hf' R' (S1.trans S') V'
theorem de_cmp {op : CmpOp} {o : D → D → Option D} (ho : OpS X (compareOp op) o) (ha : DE X a ma) (hb : DE X b mb) (hmk : behindInMarks op b = false := by first | exact nomark _ | rfl) : DE X (.Compare a [op] [b] pos) (mBin o ma mb) := by
  obtain ⟨r, ro, so⟩ := ho
  obtain ⟨ta, pa, sa⟩ := ha
  obtain ⟨tb, pb, sb⟩ := hb
  refine ⟨_, pe_cmpR ro pa pb hmk, fun c σ H Hf e d e' Q hK R hm q => ?_⟩
  unfold mBin at hm
  split at hm
  · cases hm
  rename_i x e1 h1
  split at hm
  · cases hm
  rename_i y e2 h2
  split at hm
  · cases hm
  rename_i z h3
  cases hm
  refine sa c σ H Hf e x e1 _ hK R h1 fun v H1 Hf1 R1 S1 V1 => ?_
  refine sb c σ H1 Hf1 e1 y _ _ hK R1 h2 fun w H2 Hf2 R2 S2 V2 => ?_
  exact so c σ H2 Hf2 _ x y _ v w Q hK R2 (V1.mono S2) V2 h3 fun u H' Hf' R' S' V' => q u H' Hf' R' (S1.trans (S2.trans S')) V'
theorem Rep.bl_inv {K : PySem.W.Frag} {H : Hp} {v : V} {b : Bool} (h : Rep K H v (.bl b)) : v = .bl b := by cases h; rfl
theorem Rep.int_inv {K : PySem.W.Frag} {H : Hp} {v : V} {i : Int} (h : Rep K H v (.int i)) : v = .int i := by cases h; rfl
/-- a test that is a comparison -/
theorem dt_cmp {op : CmpOp} {o : D → D → Option D} (ho : OpS X (compareOp op) o) (ha : DE X a ma) (hb : DE X b mb) (hmk : behindInMarks op b = false := by first | exact nomark _ | rfl) : DT X (.Compare a [op] [b] pos) (tVal (mBin o ma mb)) := by
  obtain ⟨r, ro, so⟩ := ho
  obtain ⟨ta, pa, sa⟩ := ha
  obtain ⟨tb, pb, sb⟩ := hb
  refine ⟨_, pt_cmpR ro pa pb hmk, fun c σ H Hf e d e' Q hK R hm q => ?_⟩
  unfold tVal at hm
  split at hm
  · rename_i k e2 hm2
    cases hm
    unfold mBin at hm2
    split at hm2
    · cases hm2
    rename_i x e1 h1
    split at hm2
    · cases hm2
    rename_i y e2 h2
    split at hm2
    · cases hm2
    rename_i z h3
    cases hm2
    refine sa c σ H Hf e x e1 _ hK R h1 fun v H1 Hf1 R1 S1 V1 => ?_
    refine sb c σ H1 Hf1 e1 y _ _ hK R1 h2 fun w H2 Hf2 R2 S2 V2 => ?_
    exact so c σ H2 Hf2 _ x y _ v w _ hK R2 (V1.mono S2) V2 h3 fun u H' Hf' R' S' V' => ⟨_, V'.bl_inv, q H' Hf' R' (S1.trans (S2.trans S'))⟩
  · cases hm
/-- a op1 b op2 c -/
theorem chain_core {r r' : R2} {o o' : D → D → Option D} {ta tb tc : TE}
    (so : ∀ (c : Ct) (σ : L2.St) (H Hf : Hp) (e : DL.Env) (x y z : D) (v w : V) (Q : VK), c.K = X.K → Rl c σ H Hf e → Rep c.K Hf v x → Rep c.K Hf w y → o x y = some z → (∀ u H' Hf', Rl c σ H' Hf' e → Same Hf Hf' → Rep c.K Hf' u z → Q u H') → r v w H Q)
    (so' : ∀ (c : Ct) (σ : L2.St) (H Hf : Hp) (e : DL.Env) (x y z : D) (v w : V) (Q : VK), c.K = X.K → Rl c σ H Hf e → Rep c.K Hf v x → Rep c.K Hf w y → o' x y = some z → (∀ u H' Hf', Rl c σ H' Hf' e → Same Hf Hf' → Rep c.K Hf' u z → Q u H') → r' v w H Q)
    (sa : ∀ (c : Ct) (σ : L2.St) (H Hf : Hp) (e : DL.Env) (d : D) (e' : DL.Env) (Q : VK), c.K = X.K → Rl c σ H Hf e → ma e = some (d, e') → (∀ v H' Hf', Rl c σ H' Hf' e' → Same Hf Hf' → Rep c.K Hf' v d → Q v H') → ta σ H Q)
    (sb : ∀ (c : Ct) (σ : L2.St) (H Hf : Hp) (e : DL.Env) (d : D) (e' : DL.Env) (Q : VK), c.K = X.K → Rl c σ H Hf e → mb e = some (d, e') → (∀ v H' Hf', Rl c σ H' Hf' e' → Same Hf Hf' → Rep c.K Hf' v d → Q v H') → tb σ H Q)
    (sc : ∀ (c : Ct) (σ : L2.St) (H Hf : Hp) (e : DL.Env) (d : D) (e' : DL.Env) (Q : VK), c.K = X.K → Rl c σ H Hf e → mc e = some (d, e') → (∀ v H' Hf', Rl c σ H' Hf' e' → Same Hf Hf' → Rep c.K Hf' v d → Q v H') → tc σ H Q)
    (c : Ct) (σ : L2.St) (H Hf : Hp) (e : DL.Env) (d : D) (e' : DL.Env) (Q : VK) (hK : c.K = X.K) (R : Rl c σ H Hf e) (hm : mChain o o' ma mb mc e = some (d, e'))
    (q : ∀ v H' Hf', Rl c σ H' Hf' e' → Same Hf Hf' → Rep c.K Hf' v d → Q v H') : tChain r r' ta tb tc σ H Q := by
  unfold mChain at hm
  split at hm
  · cases hm
  rename_i x e1 h1
  split at hm
  · cases hm
  rename_i y e2 h2
  refine sa c σ H Hf e x e1 _ hK R h1 fun v H1 Hf1 R1 S1 V1 => ?_
  refine sb c σ H1 Hf1 e1 y e2 _ hK R1 h2 fun w H2 Hf2 R2 S2 V2 => ?_
  split at hm
  · rename_i h3
    refine so c σ H2 Hf2 e2 x y _ v w _ hK R2 (V1.mono S2) V2 h3 fun u H3 Hf3 R3 S3 V3 => ⟨true, V3.bl_inv, ?_⟩
    rw [if_pos rfl]
    split at hm
    · cases hm
    rename_i z e3 h4
    split at hm
    · cases hm
    rename_i k h5
    cases hm
    refine sc c σ H3 Hf3 e2 z _ _ hK R3 h4 fun w3 H4 Hf4 R4 S4 V4 => ?_
    exact so' c σ H4 Hf4 _ y z _ w w3 Q hK R4 (V2.mono (S3.trans S4)) V4 h5 fun u5 H5 Hf5 R5 S5 V5 => q _ _ _ R5 (S1.trans (S2.trans (S3.trans (S4.trans S5)))) V5
  · rename_i h3
    cases hm
    refine so c σ H2 Hf2 _ x y _ v w _ hK R2 (V1.mono S2) V2 h3 fun u H3 Hf3 R3 S3 V3 => ⟨false, V3.bl_inv, ?_⟩
    rw [if_neg Bool.false_ne_true]
    exact q _ _ _ R3 (S1.trans (S2.trans S3)) (.bl false)
  · cases hm
theorem de_chain {op op' : CmpOp} {o o' : D → D → Option D} (ho : OpS X (compareOp op) o) (ho' : OpS X (compareOp op') o') (ha : DE X a ma) (hb : DE X b mb) (hc : DE X ec mc) (hmk : lastMarks [op, op'] [b, ec] = false := by with_unfolding_all rfl) :
    DE X (.Compare a [op, op'] [b, ec] pos) (mChain o o' ma mb mc) := by
  obtain ⟨r, ro, so⟩ := ho
  obtain ⟨r', ro', so'⟩ := ho'
  obtain ⟨ta, pa, sa⟩ := ha
  obtain ⟨tb, pb, sb⟩ := hb
  obtain ⟨tc, pc, sc⟩ := hc
  exact ⟨_, pe_chain ro ro' pa pb pc hmk, fun c σ H Hf e d e' Q hK R hm q => chain_core so so' sa sb sc c σ H Hf e d e' Q hK R hm q⟩
theorem dt_chain {op op' : CmpOp} {o o' : D → D → Option D} (ho : OpS X (compareOp op) o) (ho' : OpS X (compareOp op') o') (ha : DE X a ma) (hb : DE X b mb) (hc : DE X ec mc) (hmk : lastMarks [op, op'] [b, ec] = false := by with_unfolding_all rfl) :
    DT X (.Compare a [op, op'] [b, ec] pos) (tVal (mChain o o' ma mb mc)) := by
  obtain ⟨r, ro, so⟩ := ho
  obtain ⟨r', ro', so'⟩ := ho'
  obtain ⟨ta, pa, sa⟩ := ha
  obtain ⟨tb, pb, sb⟩ := hb
  obtain ⟨tc, pc, sc⟩ := hc
  refine ⟨_, pt_chain ro ro' pa pb pc hmk, fun c σ H Hf e d e' Q hK R hm q => ?_⟩
  unfold tVal at hm
  split at hm
  · rename_i k e2 hm2
    cases hm
    exact chain_core so so' sa sb sc c σ H Hf e _ _ _ hK R hm2 fun v H' Hf' R' S' V' => ⟨_, V'.bl_inv, q H' Hf' R' S'⟩
  · cases hm
/-! ### tests -/
/-- any expression that gives a truth value, as a test -/
theorem dt_val (ha : DE X a ma) (he : ∀ whole, isTrue a X.env whole = (do let v ← whole; standAt a.pos; holding [v] (truthy v)) := by intro _; rfl) : DT X a (tVal ma) := by
  obtain ⟨ta, pa, sa⟩ := ha
  refine ⟨_, pt_val pa he, fun c σ H Hf e d e' Q hK R hm q => ?_⟩
  unfold tVal at hm
  split at hm
  · rename_i k e2 hm2
    cases hm
    exact sa c σ H Hf e _ _ _ hK R hm2 fun v H' Hf' R' S' V' => ⟨_, V'.bl_inv, q H' Hf' R' S'⟩
  · cases hm
variable {tA tB : M Bool} {rest : List Expr}
theorem DW.t (h : DW X a tA) : DT X a tA := by
  obtain ⟨t, p, s⟩ := h
  exact ⟨t, p.pt, s⟩
theorem dw_and1 (ha : DT X a tA) : DW X (.BoolOp .And [a] pos) tA := by
  obtain ⟨t, p, s⟩ := ha
  exact ⟨t, pw_and1 p, s⟩
theorem dw_or1 (ha : DT X a tA) : DW X (.BoolOp .Or [a] pos) tA := by
  obtain ⟨t, p, s⟩ := ha
  exact ⟨t, pw_or1 p, s⟩
theorem dw_and (ha : DT X a tA) (hb : DW X (.BoolOp .And (b :: rest) pos) tB) : DW X (.BoolOp .And (a :: b :: rest) pos) (DL.tAnd tA tB) := by
  obtain ⟨t, p, s⟩ := ha
  obtain ⟨u, p2, s2⟩ := hb
  refine ⟨_, pw_and p p2, fun c σ H Hf e d e' Q hK R hm q => ?_⟩
  unfold DL.tAnd at hm
  split at hm
  · cases hm
  · rename_i e1 h1
    refine s c σ H Hf e _ _ _ hK R h1 fun H1 Hf1 R1 S1 => ?_
    rw [if_pos rfl]
    exact s2 c σ H1 Hf1 _ _ _ _ hK R1 hm fun H' Hf' R' S' => q H' Hf' R' (S1.trans S')
  · rename_i e1 h1
    cases hm
    refine s c σ H Hf e _ _ _ hK R h1 fun H1 Hf1 R1 S1 => ?_
    rw [if_neg Bool.false_ne_true]
    exact q H1 Hf1 R1 S1
theorem dw_or (ha : DT X a tA) (hb : DW X (.BoolOp .Or (b :: rest) pos) tB) : DW X (.BoolOp .Or (a :: b :: rest) pos) (DL.tOr tA tB) := by
  obtain ⟨t, p, s⟩ := ha
  obtain ⟨u, p2, s2⟩ := hb
  refine ⟨_, pw_or p p2, fun c σ H Hf e d e' Q hK R hm q => ?_⟩
  unfold DL.tOr at hm
  split at hm
  · cases hm
  · rename_i e1 h1
    cases hm
    refine s c σ H Hf e _ _ _ hK R h1 fun H1 Hf1 R1 S1 => ?_
    rw [if_pos rfl]
    exact q H1 Hf1 R1 S1
  · rename_i e1 h1
    refine s c σ H Hf e _ _ _ hK R h1 fun H1 Hf1 R1 S1 => ?_
    rw [if_neg Bool.false_ne_true]
    exact s2 c σ H1 Hf1 _ _ _ _ hK R1 hm fun H' Hf' R' S' => q H' Hf' R' (S1.trans S')
theorem dt_not (ha : DT X a tA) : DT X (.UnaryOp .Not a pos) (DL.tNot tA) := by
  obtain ⟨t, p, s⟩ := ha
  refine ⟨_, pt_not p, fun c σ H Hf e d e' Q hK R hm q => ?_⟩
  unfold DL.tNot at hm
  split at hm
  · cases hm
  · rename_i b e1 h1
    cases hm
    exact s c σ H Hf e _ _ _ hK R h1 fun H1 Hf1 R1 S1 => q H1 Hf1 R1 S1
/-! ### and, or, not as values -/
theorem de_one {op : BoolOp} (ha : DE X a ma) : DE X (.BoolOp op [a] pos) ma := by
  obtain ⟨t, p, s⟩ := ha
  exact ⟨t, pe_one p, s⟩
theorem de_and (ha : DE X a ma) (hb : DE X (.BoolOp .And (b :: rest) pos) mb) : DE X (.BoolOp .And (a :: b :: rest) pos) (mAnd ma mb) := by
  obtain ⟨t, p, s⟩ := ha
  obtain ⟨u, p2, s2⟩ := hb
  refine ⟨_, pe_and p p2, fun c σ H Hf e d e' Q hK R hm q => ?_⟩
  unfold mAnd at hm
  split at hm
  · rename_i e1 h1
    refine s c σ H Hf e _ _ _ hK R h1 fun v H1 Hf1 R1 S1 V1 => ⟨true, V1.bl_inv, ?_⟩
    rw [if_pos rfl]
    exact s2 c σ H1 Hf1 _ _ _ _ hK R1 hm fun v H' Hf' R' S' V' => q v H' Hf' R' (S1.trans S') V'
  · rename_i e1 h1
    cases hm
    refine s c σ H Hf e _ _ _ hK R h1 fun v H1 Hf1 R1 S1 V1 => ⟨false, V1.bl_inv, ?_⟩
    rw [if_neg Bool.false_ne_true]
    exact q _ H1 Hf1 R1 S1 (.bl false)
  · cases hm
theorem de_or (ha : DE X a ma) (hb : DE X (.BoolOp .Or (b :: rest) pos) mb) : DE X (.BoolOp .Or (a :: b :: rest) pos) (mOr ma mb) := by
  obtain ⟨t, p, s⟩ := ha
  obtain ⟨u, p2, s2⟩ := hb
  refine ⟨_, pe_or p p2, fun c σ H Hf e d e' Q hK R hm q => ?_⟩
  unfold mOr at hm
  split at hm
  · rename_i e1 h1
    cases hm
    refine s c σ H Hf e _ _ _ hK R h1 fun v H1 Hf1 R1 S1 V1 => ⟨true, V1.bl_inv, ?_⟩
    rw [if_pos rfl]
    exact q _ H1 Hf1 R1 S1 (.bl true)
  · rename_i e1 h1
    refine s c σ H Hf e _ _ _ hK R h1 fun v H1 Hf1 R1 S1 V1 => ⟨false, V1.bl_inv, ?_⟩
    rw [if_neg Bool.false_ne_true]
    exact s2 c σ H1 Hf1 _ _ _ _ hK R1 hm fun v H' Hf' R' S' V' => q v H' Hf' R' (S1.trans S') V'
  · cases hm
theorem de_not (ha : DE X a ma) : DE X (.UnaryOp .Not a pos) (mNot ma) := by
  obtain ⟨t, p, s⟩ := ha
  refine ⟨_, pe_not p, fun c σ H Hf e d e' Q hK R hm q => ?_⟩
  unfold mNot at hm
  split at hm
  · rename_i b e1 h1
    cases hm
    exact s c σ H Hf e _ _ _ hK R h1 fun v H1 Hf1 R1 S1 V1 => ⟨b, V1.bl_inv, q _ H1 Hf1 R1 S1 (.bl _)⟩
  · cases hm
theorem de_if (ht : DT X ec tA) (ha : DE X a ma) (hb : DE X b mb) : DE X (.IfExp ec a b pos) (mIf tA ma mb) := by
  obtain ⟨t, p, s⟩ := ht
  obtain ⟨u, p2, s2⟩ := ha
  obtain ⟨w, p3, s3⟩ := hb
  refine ⟨_, pe_ifExp p p2 p3, fun c σ H Hf e d e' Q hK R hm q => ?_⟩
  unfold mIf at hm
  split at hm
  · cases hm
  · rename_i e1 h1
    refine s c σ H Hf e _ _ _ hK R h1 fun H1 Hf1 R1 S1 => ?_
    rw [if_pos rfl]
    exact s2 c σ H1 Hf1 _ _ _ _ hK R1 hm fun v H' Hf' R' S' V' => q v H' Hf' R' (S1.trans S') V'
  · rename_i e1 h1
    refine s c σ H Hf e _ _ _ hK R h1 fun H1 Hf1 R1 S1 => ?_
    rw [if_neg Bool.false_ne_true]
    exact s3 c σ H1 Hf1 _ _ _ _ hK R1 hm fun v H' Hf' R' S' V' => q v H' Hf' R' (S1.trans S') V'
end
/-! ### argument lists, displays, calls -/
section
variable {ea : Expr} {es : List Expr} {m : M D} {r : M (List D)} {pos : Pos}
theorem da_nil : DA X [] mNil := ⟨_, pa_nil, fun c σ H Hf e d e' Q hK R hm q => by cases hm; exact q [] H Hf R (Same.refl _) .nil⟩
theorem da_cons (ha : DE X ea m) (hr : DA X es r) (hs : starEach (ea :: es) X.env = (false, eval ea X.env) :: starEach es X.env := by rfl) : DA X (ea :: es) (mCons m r) := by
  obtain ⟨t, p, s⟩ := ha
  obtain ⟨u, p2, s2⟩ := hr
  refine ⟨_, pa_cons p p2 hs, fun c σ H Hf e d e' Q hK R hm q => ?_⟩
  unfold mCons at hm
  split at hm
  · cases hm
  rename_i x e1 h1
  split at hm
  · cases hm
  rename_i xs e2 h2
  cases hm
  refine s c σ H Hf e _ _ _ hK R h1 fun v H1 Hf1 R1 S1 V1 => ?_
  exact s2 c σ H1 Hf1 _ _ _ _ hK R1 h2 fun vs H' Hf' R' S' V' => q _ H' Hf' R' (S1.trans S') (.cons (V1.mono S') V')
theorem cap_le {n : Nat} (h : n ≤ cap) : n ≤ sizeLine := h
theorem de_tup {x1 : Nat} (h : DA X es r) : DE X (.Tuple es x1 pos) (mTup r) := by
  obtain ⟨t, p, s⟩ := h
  refine ⟨_, pe_tup p, fun c σ H Hf e d e' Q hK R hm q => ?_⟩
  unfold mTup at hm
  split at hm
  · cases hm
  rename_i xs e1 h1
  split at hm
  · rename_i hc
    cases hm
    refine s c σ H Hf e _ _ _ hK R h1 fun vs H1 Hf1 R1 S1 V1 => ⟨by rw [V1.length]; exact cap_le hc, fun a ha => ?_⟩
    have sm := same_new (o := .tup vs) (none_sub R1.sf ha)
    exact q _ _ _ (R1.alloc ha) (S1.trans sm) (.tup (.of upd_same) (V1.mono sm))
  · cases hm
theorem dn_lst (h : DA X es r) : DN X (.List es pos) (mLst r) := by
  obtain ⟨t, p, s⟩ := h
  refine ⟨_, pe_lst p, fun c σ H Hf e d e' Q hK R hm q => ?_⟩
  unfold mLst at hm
  split at hm
  · cases hm
  rename_i xs e1 h1
  split at hm
  · rename_i hc
    cases hm
    refine s c σ H Hf e _ _ _ hK R h1 fun vs H1 Hf1 R1 S1 V1 => ⟨by rw [V1.length]; exact cap_le hc, fun a ha => ?_⟩
    exact q _ _ _ _ (R1.track ha) S1 (.of R1 ha) V1
  · cases hm
theorem de_callB {x : Str} {id : String} {p : Pos} {g : List D → Option D} (hc : CallS X (.builtin id) g) (hm : X.mg x = none) (hv : bootBuiltins x = some (.builtin id)) (ha : DA X (ea :: es) r) (hg : Gl X x := by rfl) (hn : x ≠ "__name__" := by decide) (hdb : (x == ("__debug__" : Str)) = false := by decide)
    (he : starEach (ea :: es) X.env = (false, eval ea X.env) :: starEach es X.env := by rfl) (hpl : (backTo pos (starEach es X.env)).any (·.1) = false := by rfl) : DE X (.Call (.Name x p) (ea :: es) [] pos) (mF g r) := by
  obtain ⟨rc, pc, sc⟩ := hc
  obtain ⟨t, pa, s⟩ := ha
  refine ⟨_, pe_callB pc hg hm hv pa hn hdb he hpl, fun c σ H Hf e d e' Q hK R hm q => ?_⟩
  unfold mF at hm
  split at hm
  · cases hm
  rename_i xs e1 h1
  split at hm
  · cases hm
  rename_i d' h2
  cases hm
  refine s c σ H Hf e _ _ _ hK R h1 fun vs H1 Hf1 R1 S1 V1 => ?_
  exact sc c σ H1 Hf1 _ vs xs _ Q hK R1 V1 h2 fun u H' Hf' R' S' V' => q u H' Hf' R' (S1.trans S') V'
theorem de_callTy {x : Str} {T : String} {p : Pos} {g : List D → Option D} (hc : CallS X (.type T) g) (hm : X.mg x = none) (hv : bootBuiltins x = some (.type T)) (ha : DA X (ea :: es) r) (hg : Gl X x := by rfl) (hn : x ≠ "__name__" := by decide) (hdb : (x == ("__debug__" : Str)) = false := by decide)
    (he : starEach (ea :: es) X.env = (false, eval ea X.env) :: starEach es X.env := by rfl) (hpl : (backTo pos (starEach es X.env)).any (·.1) = false := by rfl) : DE X (.Call (.Name x p) (ea :: es) [] pos) (mF g r) := by
  obtain ⟨rc, pc, sc⟩ := hc
  obtain ⟨t, pa, s⟩ := ha
  refine ⟨_, pe_callTy pc hg hm hv pa hn hdb he hpl, fun c σ H Hf e d e' Q hK R hm q => ?_⟩
  unfold mF at hm
  split at hm
  · cases hm
  rename_i xs e1 h1
  split at hm
  · cases hm
  rename_i d' h2
  cases hm
  refine s c σ H Hf e _ _ _ hK R h1 fun vs H1 Hf1 R1 S1 V1 => ?_
  exact sc c σ H1 Hf1 _ vs xs _ Q hK R1 V1 h2 fun u H' Hf' R' S' V' => q u H' Hf' R' (S1.trans S') V'
theorem dn_callTy {x : Str} {T : String} {p : Pos} {g : List D → Option (List D)} (hc : CallN X (.type T) g) (hm : X.mg x = none) (hv : bootBuiltins x = some (.type T)) (ha : DA X (ea :: es) r) (hg : Gl X x := by rfl) (hn : x ≠ "__name__" := by decide) (hdb : (x == ("__debug__" : Str)) = false := by decide)
    (he : starEach (ea :: es) X.env = (false, eval ea X.env) :: starEach es X.env := by rfl) (hpl : (backTo pos (starEach es X.env)).any (·.1) = false := by rfl) : DN X (.Call (.Name x p) (ea :: es) [] pos) (mFN g r) := by
  obtain ⟨rc, pc, sc⟩ := hc
  obtain ⟨t, pa, s⟩ := ha
  refine ⟨_, pe_callTy pc hg hm hv pa hn hdb he hpl, fun c σ H Hf e d e' Q hK R hm q => ?_⟩
  unfold mFN at hm
  split at hm
  · cases hm
  rename_i xs e1 h1
  split at hm
  · cases hm
  rename_i d' h2
  cases hm
  refine s c σ H Hf e _ _ _ hK R h1 fun vs H1 Hf1 R1 S1 V1 => ?_
  exact sc c σ H1 Hf1 _ vs xs _ Q hK R1 V1 h2 fun p vs H' Hf' R' S' N' V' => q p vs H' Hf' R' (S1.trans S') N' V'
theorem dn_callB {x : Str} {T : String} {p : Pos} {g : List D → Option (List D)} (hc : CallN X (.builtin T) g) (hm : X.mg x = none) (hv : bootBuiltins x = some (.builtin T)) (ha : DA X (ea :: es) r) (hg : Gl X x := by rfl) (hn : x ≠ "__name__" := by decide) (hdb : (x == ("__debug__" : Str)) = false := by decide)
    (he : starEach (ea :: es) X.env = (false, eval ea X.env) :: starEach es X.env := by rfl) (hpl : (backTo pos (starEach es X.env)).any (·.1) = false := by rfl) : DN X (.Call (.Name x p) (ea :: es) [] pos) (mFN g r) := by
  obtain ⟨rc, pc, sc⟩ := hc
  obtain ⟨t, pa, s⟩ := ha
  refine ⟨_, pe_callB pc hg hm hv pa hn hdb he hpl, fun c σ H Hf e d e' Q hK R hm q => ?_⟩
  unfold mFN at hm
  split at hm
  · cases hm
  rename_i xs e1 h1
  split at hm
  · cases hm
  rename_i d' h2
  cases hm
  refine s c σ H Hf e _ _ _ hK R h1 fun vs H1 Hf1 R1 S1 V1 => ?_
  exact sc c σ H1 Hf1 _ vs xs _ Q hK R1 V1 h2 fun p vs H' Hf' R' S' N' V' => q p vs H' Hf' R' (S1.trans S') N' V'
end
end DL

/-! dicts: what stands in the heap and what the data say -/
namespace DL
open PySem PySem.Spec PyProof.Rows L2
/-- both none, or both there -/
inductive OR (K : PySem.W.Frag) (Hf : Hp) : Option V → Option D → Prop
  | no : OR K Hf none none
  | so {v : V} {d : D} : Rep K Hf v d → OR K Hf (some v) (some d)
theorem OR.isSome {K : PySem.W.Frag} {Hf : Hp} {o : Option V} {q : Option D} (h : OR K Hf o q) : o.isSome = q.isSome := by cases h <;> rfl
theorem OR.getD {K : PySem.W.Frag} {Hf : Hp} {o : Option V} {q : Option D} {v : V} {d : D} (h : OR K Hf o q) (r : Rep K Hf v d) : Rep K Hf (o.getD v) (q.getD d) := by
  cases h with
  | no => exact r
  | so h => exact h
theorem OR.some {K : PySem.W.Frag} {Hf : Hp} {o : Option V} {d : D} (h : OR K Hf o (some d)) : ∃ v, o = Option.some v ∧ Rep K Hf v d := by
  cases h with
  | so h => exact ⟨_, rfl, h⟩
section
variable {κ : Type} [DecidableEq κ] {K : PySem.W.Frag} {Hf : Hp}
theorem val_rep (k : κ) : ∀ {kvs : List (κ × D)} {ws : List V}, RepL K Hf ws (kvs.map (·.2)) → OR K Hf (valV ((kvs.map (·.1)).zip ws) k) (aget kvs k)
  | [], ws, r => by
    cases r
    exact .no
  | p :: kvs, ws, r => by
    rw [List.map_cons] at r
    cases r with
    | cons h t =>
      rename_i v vs
      have ih := val_rep k t
      rw [List.map_cons, List.zip_cons_cons]
      by_cases e : p.1 = k
      · rw [valV_pos (p := (p.1, v)) e]
        unfold aget
        rw [if_pos e]
        exact .so h
      · rw [valV_neg (p := (p.1, v)) e]
        unfold aget
        rw [if_neg e]
        exact ih
theorem zip_fs : ∀ l : List (κ × D), (l.map (·.1)).zip (l.map (·.2)) = l
  | [] => rfl
  | p :: l => by simp [zip_fs l]
theorem rep_rep (k : κ) {v : V} {z : D} (hv : Rep K Hf v z) : ∀ {kvs : List (κ × D)} {ws : List V}, RepL K Hf ws (kvs.map (·.2)) →
    ∃ ws', (((kvs.map (·.1)).zip ws).map fun kv => if kv.1 = k then (kv.1, v) else kv) = ((arep kvs k z).map (·.1)).zip ws' ∧ RepL K Hf ws' ((arep kvs k z).map (·.2))
  | [], ws, r => by
    cases r
    exact ⟨[], rfl, .nil⟩
  | p :: kvs, ws, r => by
    rw [List.map_cons] at r
    cases r with
    | cons h t =>
      rename_i v0 vs
      obtain ⟨ws', e1, r1⟩ := rep_rep k hv t
      by_cases e : p.1 = k
      · refine ⟨v :: ws', ?_, ?_⟩
        · simp only [List.map_cons, List.zip_cons_cons, arep, e, if_true, e1]
        · simp only [arep, e, if_true, List.map_cons]
          exact .cons hv r1
      · refine ⟨v0 :: ws', ?_, ?_⟩
        · simp only [List.map_cons, List.zip_cons_cons, arep, e, if_false, e1]
        · simp only [arep, e, if_false, List.map_cons]
          exact .cons h r1
theorem put_rep (k : κ) {v : V} {z : D} {kvs : List (κ × D)} {ws : List V} (hv : Rep K Hf v z) (r : RepL K Hf ws (kvs.map (·.2))) :
    ∃ ws', putK ((kvs.map (·.1)).zip ws) k v = ((aput kvs k z).map (·.1)).zip ws' ∧ RepL K Hf ws' ((aput kvs k z).map (·.2)) := by
  have q := (val_rep k r).isSome
  unfold putK aput
  rw [valV_any, q]
  by_cases h : (aget kvs k).isSome = true
  · rw [if_pos h, if_pos h]
    exact rep_rep k hv r
  · rw [if_neg h, if_neg h]
    refine ⟨ws ++ [v], ?_, ?_⟩
    · rw [List.map_append, List.zip_append (by rw [r.length]; simp)]
      rfl
    · rw [List.map_append]
      exact r.app (.cons hv .nil)
end
section
variable {K : PySem.W.Frag} {Hf H : Hp}
theorem ky_rep {w : V} {y : D} {k : Ky} (h : Rep K Hf w y) (e : D.ky y = some k) : w = kV k := by
  cases h <;> first | (cases e; rfl) | cases e
theorem kys_rep : ∀ {ws : List V} {ys : List D} {ks : List Ky}, RepL K Hf ws ys → D.kys ys = some ks → ws = ks.map kV
  | _, _, ks, .nil, e => by cases e; rfl
  | _, _, ks, .cons (d := d) h t, e => by
    simp only [D.kys] at e
    split at e
    · cases e
    rename_i k hk
    split at e
    · cases e
    rename_i l hl
    cases e
    rw [ky_rep h hk, kys_rep t hl]
    rfl
theorem kyD_rep (k : Ky) : Rep K Hf (kV k) (kyD k) := by
  cases k with
  | inl i => exact .int i
  | inr s => exact .str s
theorem kyDs_rep : ∀ ks : List Ky, RepL K Hf (ks.map kV) (ks.map kyD)
  | [] => .nil
  | k :: ks => .cons (kyD_rep k) (kyDs_rep ks)
/-- a dict's value -/
theorem rep_od {v : V} {d : D} {q : Od} (h : Rep K Hf v d) (e : D.od d = some q) : ∃ a o u, v = .ref a ∧ Hf a = some (.frz o u) ∧ OdR K Hf u q ∧ q.d = d := by
  cases h with
  | dK h1 h2 h3 =>
    rename_i ks xs ds
    cases e
    have hl : ks.length = ds.length := by rw [h2, h3.length]
    have e1 : (ks.zip ds).map (·.1) = ks := List.map_fst_zip (Nat.le_of_eq hl)
    have e2 : (ks.zip ds).map (·.2) = ds := List.map_snd_zip (Nat.le_of_eq hl.symm)
    exact ⟨_, _, _, rfl, h1, .k e1.symm (by rw [e2]; exact h3), by simp only [Od.d, e1, e2]⟩
  | dT h1 h2 h3 =>
    rename_i ks xs ds
    cases e
    have hl : ks.length = ds.length := by rw [h2, h3.length]
    have e1 : (ks.zip ds).map (·.1) = ks := List.map_fst_zip (Nat.le_of_eq hl)
    have e2 : (ks.zip ds).map (·.2) = ds := List.map_snd_zip (Nat.le_of_eq hl.symm)
    exact ⟨_, _, _, rfl, h1, .t e1.symm (by rw [e2]; exact h3), by simp only [Od.d, e1, e2]⟩
  | _ => cases e
theorem dget_od {a : Addr} {u : HO} {q : Od} {w : V} {y : D} {o : Option D} (hu : OdR K Hf u q) (hr : Rd H a u) (hw : Rep K Hf w y) (s : Same Hf H) (h : q.get y = some o) : ∃ ov, DGet H a w ov ∧ OR K Hf ov o := by
  cases hu with
  | k e r =>
    subst e
    simp only [Od.get] at h
    split at h
    · cases h
    rename_i k hk
    cases h
    exact ⟨_, .inl ⟨_, k, hr, ky_rep hw hk, rfl⟩, val_rep k r⟩
  | t e r =>
    subst e
    cases hw with
    | tup ht rt =>
      simp only [Od.get] at h
      split at h
      · cases h
      rename_i k hk
      cases h
      have e2 := kys_rep rt hk
      subst e2
      exact ⟨_, .inr ⟨_, k, _, hr, rfl, s _ _ ht.h, rfl⟩, val_rep k r⟩
    | _ => cases h
theorem isD_od {a : Addr} {u : HO} {q : Od} (hu : OdR K Hf u q) (hr : Rd H a u) : IsD H a := by
  cases hu with
  | k e r => exact .inl ⟨_, hr⟩
  | t e r => exact .inr ⟨_, hr⟩
theorem od_len {u : HO} {q : Od} (hu : OdR K Hf u q) : (∃ kvs, u = .dK kvs ∧ kvs.length = q.len) ∨ ∃ kvs, u = .dT kvs ∧ kvs.length = q.len := by
  cases hu with
  | k e r => subst e; exact .inl ⟨_, rfl, by rw [List.length_zip, r.length]; simp [Od.len]⟩
  | t e r => subst e; exact .inr ⟨_, rfl, by rw [List.length_zip, r.length]; simp [Od.len]⟩
theorem dput_od {a : Addr} {u : HO} {q q' : Od} {w v : V} {y z : D} (hu : OdR K Hf u q) (hr : H a = some u) (hw : Rep K Hf w y) (hv : Rep K Hf v z) (s : Same Hf H) (h : q.put y z = some q') :
    ∃ u', DPut H a w v (upd H a u') ∧ OdR K Hf u' q' := by
  unfold Od.put at h
  split at h
  · rename_i hc
    cases hu with
    | k e r =>
      rename_i ks ws kvs
      subst e
      simp only at h
      split at h
      · cases h
      rename_i k hk
      cases h
      obtain ⟨ws', e1, r1⟩ := put_rep k hv r
      refine ⟨_, .inl ⟨_, k, hr, ky_rep hw hk, ?_, rfl⟩, ?_⟩
      · have hc : kvs.length < cap := hc
        rw [List.length_zip, r.length, List.length_map, List.length_map, Nat.min_self]
        exact hc
      · rw [e1]
        exact .k rfl r1
    | t e r =>
      rename_i ks ws kvs
      subst e
      cases hw with
      | tup ht rt =>
        simp only at h
        split at h
        · cases h
        rename_i k hk
        cases h
        have e2 := kys_rep rt hk
        subst e2
        obtain ⟨ws', e1, r1⟩ := put_rep k hv r
        refine ⟨_, .inr ⟨_, k, _, hr, rfl, s _ _ ht.h, ?_, rfl⟩, ?_⟩
        · have hc : kvs.length < cap := hc
          rw [List.length_zip, r.length, List.length_map, List.length_map, Nat.min_self]
          exact hc
        · rw [e1]
          exact .t rfl r1
      | _ => cases h
  · cases h
theorem rd_frz {a : Addr} {ob : Obj} {u : HO} (s : Same Hf H) (h : Hf a = some (.frz ob u)) : Rd H a u := .inr ⟨ob, s _ _ h⟩
end
/-- a piece that has two readings -/
theorem pe_or {X : Cx} {e : Expr} {t1 t2 : TE} (h1 : PE X e t1) (h2 : PE X e t2) : PE X e (fun σ H Q => t1 σ H Q ∨ t2 σ H Q) :=
  ⟨fun pins s σ H Q I h => h.elim (h1.run pins s σ H Q I) (h2.run pins s σ H Q I)⟩
section
variable {X : Cx}
theorem op_dIn (hu : X.A.units + 1 < cLine) : OpR X (compareOp .In) (fun x y H Q => ∃ a o, y = .ref a ∧ DGet H a x o ∧ Q (.bl o.isSome) H) := by
  intro pins s σ H x y v u Q I rx ry h
  obtain ⟨a, o, rfl, g, q⟩ := h
  obtain rfl : u = Value.ref a := ry
  exact d_in hu I g rx fun s3 I3 => ⟨.bl o.isSome, H, I3, rfl, q⟩
theorem op_dNotIn (hu : X.A.units + 1 < cLine) : OpR X (compareOp .NotIn) (fun x y H Q => ∃ a o, y = .ref a ∧ DGet H a x o ∧ Q (.bl (!o.isSome)) H) := by
  intro pins s σ H x y v u Q I rx ry h
  obtain ⟨a, o, rfl, g, q⟩ := h
  obtain rfl : u = Value.ref a := ry
  exact d_notIn hu I g rx fun s3 I3 => ⟨.bl (!o.isSome), H, I3, rfl, q⟩
theorem XO.u1 {k : Nat} (O : XO X k) : X.A.units + 1 < cLine := by have := O.room.units; omega
end
end DL

namespace DL
open PySem PySem.Spec PyProof.Rows L2
variable {X : Cx}
/-! ### the operations of values are Python's -/
/-- list + list, whatever they are read from -/
theorem op_catL : OpR X (binaryOp .Add) (fun x y H Q => ∃ l b xs zs, x = .ref l ∧ y = .ref b ∧ SqL X.K H l xs ∧ SqL X.K H b zs ∧ xs.length + zs.length ≤ sizeLine ∧ ∀ p, H p = none → Q (.ref p) (upd H p (.lst (xs ++ zs)))) := by
  intro pins s σ H x y v u Q I rx ry h
  obtain ⟨l, b, xs, zs, rfl, rfl, hl, hb, hz, q⟩ := h
  cases rx
  cases ry
  obtain ⟨its, r1, ⟨⟨c1, d1, da1, s1⟩, n1, e1, g1, k1, f1⟩, z1⟩ := I.list hl
  obtain ⟨its2, r2, ⟨⟨c2, d2, da2, s2⟩, n2, e2, g2, k2, f2⟩, z2⟩ := I.list hb
  simp only at g1 f1 g2 f2
  subst g1 f1 g2 f2
  have l1 := r1.length
  have l2 := r2.length
  have ea : its.toArray ++ its2.toArray = (its ++ its2).toArray := by simp
  refine concat_meets (A := X.A) ⟨_, e1, rfl⟩ ⟨_, e2, rfl⟩ noFill_list_add seq_list_add PySem.F.slot_list_add PySem.F.entry_list_add
    (PySem.F.args_list_add_2 _ _) (list_addW l b its.toArray its2.toArray n1 n2 d1 d2 s1 s2 (by rw [List.size_toArray, List.size_toArray]; omega)) ⟨e1, e2, ?_⟩
  rw [ea]
  exact ⟨.ref _, _, I.lnew (t' := s.toks) (r1.append r2) (by rw [List.length_append]; omega), rfl, q _ I.fresh⟩
section
variable {c : Ct} {σ : L2.St} {H Hf : Hp} {e : DL.Env}
theorem Rl.seqL (R : Rl c σ H Hf e) {a : Addr} {xs : List V} (h : SqL c.K Hf a xs) : SqL c.K H a xs := sqL_mono R.sf h
theorem Rl.seqT (R : Rl c σ H Hf e) {a : Addr} {xs : List V} (h : TpA Hf a xs) : SqT c.K H a xs := (h.mono R.sf).sq
theorem Rl.newT (R : Rl c σ H Hf e) {p : Addr} {vs : List V} {ds : List D} {Q : VK} (hp : H p = none) (r : RepL c.K Hf vs ds) (q : ∀ u H' Hf', Rl c σ H' Hf' e → Same Hf Hf' → Rep c.K Hf' u (.tup ds) → Q u H') : Q (.ref p) (upd H p (.tup vs)) :=
  q _ _ _ (R.alloc hp) (same_new (none_sub R.sf hp)) (.tup (.of upd_same) (r.mono (same_new (none_sub R.sf hp))))
theorem Rl.newL (R : Rl c σ H Hf e) {p : Addr} {vs : List V} {ds : List D} {Q : VK} (hp : H p = none) (r : RepL c.K Hf vs ds) (q : ∀ u H' Hf', Rl c σ H' Hf' e → Same Hf Hf' → Rep c.K Hf' u (.lst ds) → Q u H') : Q (.ref p) (upd H p (.lst vs)) :=
  q _ _ _ (R.alloc hp) (same_new (none_sub R.sf hp)) (.lst (.of upd_same) (r.mono (same_new (none_sub R.sf hp))))
end
theorem os_add : OpS X (binaryOp .Add) oAdd := by
  refine ⟨_, (op_add.or op_catA).or op_catL, fun c σ H Hf e x y z v w Q hK R hv hw ho q => ?_⟩
  unfold oAdd at ho
  split at ho
  · cases ho
    cases hv; cases hw
    exact .inl (.inl ⟨_, _, rfl, rfl, q _ _ _ R (Same.refl _) (.int _)⟩)
  · split at ho
    · rename_i hc
      cases ho
      cases hv with
      | tup ha ra =>
        cases hw with
        | tup hb rb =>
          refine .inl (.inr ⟨_, _, _, _, rfl, rfl, hK ▸ R.seqT ha, hK ▸ R.seqT hb, by rw [ra.length, rb.length]; exact cap_le hc, fun z1 => ?_, fun z1 z2 => ?_, fun z1 z2 p hp => ?_⟩)
          · subst z1; cases ra
            exact q _ _ _ R (Same.refl _) (.tup hb rb)
          · subst z2; cases rb
            rw [List.append_nil] at q
            exact q _ _ _ R (Same.refl _) (.tup ha ra)
          · exact R.newT hp (ra.app rb) q
    · cases ho
  · split at ho
    · rename_i hc
      cases ho
      cases hv with
      | lst ha ra =>
        cases hw with
        | lst hb rb =>
          refine .inr ⟨_, _, _, _, rfl, rfl, hK ▸ R.seqL ha, hK ▸ R.seqL hb, by rw [ra.length, rb.length]; exact cap_le hc, fun p hp => ?_⟩
          exact R.newL hp (ra.app rb) q
    · cases ho
  · cases ho
/-- list + list as a new list -/
theorem dn_add {a b : Expr} {ma mb : M D} {pos : Pos} (ha : DE X a ma) (hb : DE X b mb) : DN X (.BinOp a .Add b pos) (mNew (mBin oAdd ma mb)) := by
  obtain ⟨ta, pa, sa⟩ := ha
  obtain ⟨tb, pb, sb⟩ := hb
  refine ⟨_, pe_op op_catL pa pb, fun c σ H Hf e d e' Q hK R hm q => ?_⟩
  unfold mNew at hm
  split at hm
  · rename_i xs e3 hm2
    cases hm
    unfold mBin at hm2
    split at hm2
    · cases hm2
    rename_i x e1 h1
    split at hm2
    · cases hm2
    rename_i y e2 h2
    split at hm2
    · cases hm2
    rename_i z h3
    cases hm2
    refine sa c σ H Hf e x e1 _ hK R h1 fun v H1 Hf1 R1 S1 V1 => ?_
    refine sb c σ H1 Hf1 e1 y _ _ hK R1 h2 fun w H2 Hf2 R2 S2 V2 => ?_
    have V1 := V1.mono S2
    unfold oAdd at h3
    split at h3
    · cases h3
    · split at h3 <;> cases h3
    · split at h3
      · rename_i hc
        cases h3
        cases V1 with
        | lst ha ra =>
          cases V2 with
          | lst hb rb =>
            refine ⟨_, _, _, _, rfl, rfl, hK ▸ R2.seqL ha, hK ▸ R2.seqL hb, by rw [ra.length, rb.length]; exact cap_le hc, fun p hp => ?_⟩
            exact q _ _ _ _ (R2.track hp) (S1.trans S2) (.of R2 hp) (ra.app rb)
      · cases h3
    · cases h3
  · cases hm
theorem os_sub : OpS X (binaryOp .Sub) oSub := by
  refine ⟨_, op_sub, fun c σ H Hf e x y z v w Q hK R hv hw ho q => ?_⟩
  unfold oSub at ho
  split at ho
  · cases ho
    cases hv; cases hw
    exact ⟨_, _, rfl, rfl, q _ _ _ R (Same.refl _) (.int _)⟩
  · cases ho
theorem small_ok {i : Int} (h : small i = true) : -(2 ^ 64) < i ∧ i < 2 ^ 64 := of_decide_eq_true h
theorem RepL.rep {K : PySem.W.Frag} {H : Hp} {vs : List V} {ds : List D} (r : RepL K H vs ds) : ∀ n : Nat, RepL K H (List.replicate n vs).flatten (List.replicate n ds).flatten
  | 0 => .nil
  | n + 1 => by
    rw [List.replicate_succ, List.replicate_succ, List.flatten_cons, List.flatten_cons]
    exact r.app (r.rep n)
theorem os_mul : OpS X (binaryOp .Mult) oMul := by
  refine ⟨_, op_mul.or op_repT, fun c σ H Hf e x y z v w Q hK R hv hw ho q => ?_⟩
  unfold oMul at ho
  split at ho
  · split at ho
    · rename_i i j hc
      cases ho
      cases hv; cases hw
      refine .inl ⟨_, _, rfl, rfl, ?_, q _ _ _ R (Same.refl _) (.int _)⟩
      rcases Bool.or_eq_true_iff.mp hc with z | z
      · exact .inl (small_ok z)
      · exact .inr (small_ok z)
    · cases ho
  · split at ho
    · rename_i xs k hc
      cases ho
      cases hw
      cases hv with
      | tup ha ra =>
        obtain ⟨h1, h2⟩ := Bool.and_eq_true_iff.mp hc
        obtain ⟨h3, h4, h5⟩ := of_decide_eq_true h2
        refine .inr ⟨_, _, _, rfl, rfl, hK ▸ R.seqT ha, fun e => ?_, h3, h4, by rw [ra.length]; exact h5, fun p hp => R.newT hp (ra.rep _) q⟩
        subst e
        cases ra
        cases h1
    · cases ho
  · cases ho
theorem os_div : OpS X (binaryOp .FloorDiv) oDiv := by
  refine ⟨_, op_fdivW, fun c σ H Hf e x y z v w Q hK R hv hw ho q => ?_⟩
  unfold oDiv at ho
  split at ho
  · split at ho
    · rename_i i j hc
      cases ho
      cases hv; cases hw
      have hc := of_decide_eq_true hc
      refine ⟨_, _, rfl, rfl, wide_div (b := 64) hc.1 ?_ (by decide) (by decide), q _ _ _ R (Same.refl _) (.int _)⟩
      omega
    · cases ho
  · cases ho
theorem os_mod : OpS X (binaryOp .Mod) oMod := by
  refine ⟨_, op_mod, fun c σ H Hf e x y z v w Q hK R hv hw ho q => ?_⟩
  unfold oMod at ho
  split at ho
  · split at ho
    · rename_i i j hc
      cases ho
      cases hv; cases hw
      exact ⟨_, _, rfl, rfl, of_decide_eq_true hc, q _ _ _ R (Same.refl _) (.int _)⟩
    · cases ho
  · cases ho
theorem os_pow : OpS X (binaryOp .Pow) oPow := by
  refine ⟨_, op_pow, fun c σ H Hf e x y z v w Q hK R hv hw ho q => ?_⟩
  unfold oPow at ho
  split at ho
  · split at ho
    · rename_i i j hc
      cases ho
      cases hv; cases hw
      have hc : 0 ≤ j ∧ j ≤ 1000000 ∧ i.natAbs < 2 ^ 64 := of_decide_eq_true hc
      exact ⟨_, _, rfl, rfl, hc, q _ _ _ R (Same.refl _) (.int _)⟩
    · cases ho
  · cases ho
theorem us_neg : UnS X (unaryOp .USub) oNeg := by
  refine ⟨_, un_neg, fun c σ H Hf e x z v Q hK R hv ho q => ?_⟩
  unfold oNeg at ho
  split at ho
  · cases ho
    cases hv
    exact ⟨_, rfl, q _ _ _ R (Same.refl _) (.int _)⟩
  · cases ho
/-! ### comparisons -/
theorem op_eqP (hu : X.A.units + 64 < cLine) : OpR X (compareOp .Eq) (fun x y H Q => ∃ d e, Dp X.K H x d ∧ Dp X.K H y e ∧ d.plain = true ∧ e.plain = true ∧ d.depth ≤ 60 ∧ Q (.bl (PyData.eqv d e)) H) := by
  intro pins s σ H x y v u Q I rx ry h
  obtain ⟨d, e, h1, h2, p1, p2, hd, q⟩ := h
  obtain ⟨as, r1⟩ := Dp.reads I d x v h1 rx
  obtain ⟨bs, r2⟩ := Dp.reads I e y u h2 ry
  exact PySem.SeqAt.eq_plain r1 r2 p1 p2 (by have := Nat.min_le_left d.depth e.depth; omega) ⟨.bl _, H, I, rfl, q⟩
theorem op_neP (hu : X.A.units + 64 < cLine) : OpR X (compareOp .NotEq) (fun x y H Q => ∃ d e, Dp X.K H x d ∧ Dp X.K H y e ∧ d.plain = true ∧ e.plain = true ∧ d.depth ≤ 60 ∧ Q (.bl (!PyData.eqv d e)) H) := by
  intro pins s σ H x y v u Q I rx ry h
  obtain ⟨d, e, h1, h2, p1, p2, hd, q⟩ := h
  obtain ⟨as, r1⟩ := Dp.reads I d x v h1 rx
  obtain ⟨bs, r2⟩ := Dp.reads I e y u h2 ry
  exact PySem.SeqAt.ne_plain r1 r2 p1 p2 (by have := Nat.min_le_left d.depth e.depth; omega) ⟨.bl _, H, I, rfl, q⟩
theorem D.ok_pl {d : D} (h : D.ok d = true) : D.pl d = true := (Bool.and_eq_true_iff.mp h).1
theorem D.ok_dep {d : D} (h : D.ok d = true) : D.dep d ≤ 60 := of_decide_eq_true (Bool.and_eq_true_iff.mp h).2
theorem os_eq {k : Nat} (O : XO X k) : OpS X (compareOp .Eq) oEq := by
  refine ⟨_, op_eqP O.room.units, fun c σ H Hf e x y z v w Q hK R hv hw ho q => ?_⟩
  unfold oEq at ho
  split at ho
  · rename_i hc
    cases ho
    obtain ⟨hx, hy⟩ := Bool.and_eq_true_iff.mp hc
    have px := D.ok_pl hx
    have py := D.ok_pl hy
    refine ⟨_, _, hK ▸ (hv.mono R.sf).dp px, hK ▸ (hw.mono R.sf).dp py, plain_toPy x px, plain_toPy y py, Nat.le_trans (dep_toPy x px) (D.ok_dep hx), ?_⟩
    rw [eqv_toPy x y px py]
    exact q _ _ _ R (Same.refl _) (.bl _)
  · cases ho
theorem os_ne {k : Nat} (O : XO X k) : OpS X (compareOp .NotEq) oNe := by
  refine ⟨_, op_neP O.room.units, fun c σ H Hf e x y z v w Q hK R hv hw ho q => ?_⟩
  unfold oNe at ho
  split at ho
  · rename_i hc
    cases ho
    obtain ⟨hx, hy⟩ := Bool.and_eq_true_iff.mp hc
    have px := D.ok_pl hx
    have py := D.ok_pl hy
    refine ⟨_, _, hK ▸ (hv.mono R.sf).dp px, hK ▸ (hw.mono R.sf).dp py, plain_toPy x px, plain_toPy y py, Nat.le_trans (dep_toPy x px) (D.ok_dep hx), ?_⟩
    rw [eqv_toPy x y px py]
    exact q _ _ _ R (Same.refl _) (.bl _)
  · cases ho
theorem os_lt : OpS X (compareOp .Lt) oLt := by
  refine ⟨_, op_lt, fun c σ H Hf e x y z v w Q hK R hv hw ho q => ?_⟩
  unfold oLt at ho
  split at ho
  · cases ho
    cases hv; cases hw
    exact ⟨_, _, rfl, rfl, q _ _ _ R (Same.refl _) (.bl _)⟩
  · cases ho
theorem os_le : OpS X (compareOp .LtE) oLe := by
  refine ⟨_, op_le, fun c σ H Hf e x y z v w Q hK R hv hw ho q => ?_⟩
  unfold oLe at ho
  split at ho
  · cases ho
    cases hv; cases hw
    exact ⟨_, _, rfl, rfl, q _ _ _ R (Same.refl _) (.bl _)⟩
  · cases ho
theorem os_gt : OpS X (compareOp .Gt) oGt := by
  refine ⟨_, op_gt, fun c σ H Hf e x y z v w Q hK R hv hw ho q => ?_⟩
  unfold oGt at ho
  split at ho
  · cases ho
    cases hv; cases hw
    exact ⟨_, _, rfl, rfl, q _ _ _ R (Same.refl _) (.bl _)⟩
  · cases ho
theorem os_ge : OpS X (compareOp .GtE) oGe := by
  refine ⟨_, op_ge, fun c σ H Hf e x y z v w Q hK R hv hw ho q => ?_⟩
  unfold oGe at ho
  split at ho
  · cases ho
    cases hv; cases hw
    exact ⟨_, _, rfl, rfl, q _ _ _ R (Same.refl _) (.bl _)⟩
  · cases ho
theorem isNon_iff {K : PySem.W.Frag} {H : Hp} {v : V} {d : D} (h : Rep K H v d) : decide (v = .non) = D.isNon d := by
  cases h <;> rfl
theorem isNon_inv {K : PySem.W.Frag} {H : Hp} {v : V} {d : D} (h : Rep K H v d) (z : D.isNon d = true) : v = .non := by
  cases h <;> first | rfl | cases z
theorem os_isN : OpS X (compareOp .Is) oIsN := by
  refine ⟨_, op_isN, fun c σ H Hf e x y z v w Q hK R hv hw ho q => ?_⟩
  unfold oIsN at ho
  split at ho
  · rename_i hc
    cases ho
    refine ⟨isNon_inv hw hc, ?_⟩
    rw [isNon_iff hv]
    exact q _ _ _ R (Same.refl _) (.bl _)
  · cases ho
theorem os_notN : OpS X (compareOp .IsNot) oNotN := by
  refine ⟨_, op_notN, fun c σ H Hf e x y z v w Q hK R hv hw ho q => ?_⟩
  unfold oNotN at ho
  split at ho
  · rename_i hc
    cases ho
    refine ⟨isNon_inv hw hc, ?_⟩
    rw [isNon_iff hv]
    exact q _ _ _ R (Same.refl _) (.bl _)
  · cases ho
theorem os_isB : OpS X (compareOp .Is) oIsB := by
  refine ⟨_, op_isBl, fun c σ H Hf e x y z v w Q hK R hv hw ho q => ?_⟩
  unfold oIsB at ho
  split at ho
  · cases ho
    cases hv; cases hw
    exact ⟨_, _, rfl, rfl, q _ _ _ R (Same.refl _) (.bl _)⟩
  · cases ho
theorem os_notB : OpS X (compareOp .IsNot) oNotB := by
  refine ⟨_, op_notBl, fun c σ H Hf e x y z v w Q hK R hv hw ho q => ?_⟩
  unfold oNotB at ho
  split at ho
  · cases ho
    cases hv; cases hw
    exact ⟨_, _, rfl, rfl, q _ _ _ R (Same.refl _) (.bl _)⟩
  · cases ho
theorem op_inP (hu : X.A.units + 64 < cLine) : OpR X (compareOp .In) (fun x y H Q => ∃ d ds, Dp X.K H x d ∧ (Dp X.K H y (.list ds) ∨ Dp X.K H y (.tuple ds)) ∧ d.plain = true ∧ PyData.plainAll ds = true ∧ d.depth ≤ 60 ∧ Q (.bl (ds.any fun z => PyData.eqv z d)) H) := by
  intro pins s σ H x y v u Q I rx ry h
  obtain ⟨d, ds, h1, h2, p1, p2, hd, q⟩ := h
  obtain ⟨as, r1⟩ := Dp.reads I d x v h1 rx
  have hr : X.A.units + 1 + min (PyData.depthAll ds) d.depth < cLine := by have := Nat.min_le_right (PyData.depthAll ds) d.depth; omega
  rcases h2 with h2 | h2
  · obtain ⟨bs, r2⟩ := Dp.reads I _ y u h2 ry
    exact PySem.SeqAt.in_list_data r2 r1 p2 p1 hr ⟨.bl _, H, I, rfl, q⟩
  · obtain ⟨bs, r2⟩ := Dp.reads I _ y u h2 ry
    exact PySem.SeqAt.in_tuple_data r2 r1 p2 p1 hr ⟨.bl _, H, I, rfl, q⟩
theorem op_notInP (hu : X.A.units + 64 < cLine) : OpR X (compareOp .NotIn) (fun x y H Q => ∃ d ds, Dp X.K H x d ∧ (Dp X.K H y (.list ds) ∨ Dp X.K H y (.tuple ds)) ∧ d.plain = true ∧ PyData.plainAll ds = true ∧ d.depth ≤ 60 ∧ Q (.bl (!ds.any fun z => PyData.eqv z d)) H) := by
  intro pins s σ H x y v u Q I rx ry h
  obtain ⟨d, ds, h1, h2, p1, p2, hd, q⟩ := h
  obtain ⟨as, r1⟩ := Dp.reads I d x v h1 rx
  have hr : X.A.units + 1 + min (PyData.depthAll ds) d.depth < cLine := by have := Nat.min_le_right (PyData.depthAll ds) d.depth; omega
  rcases h2 with h2 | h2
  · obtain ⟨bs, r2⟩ := Dp.reads I _ y u h2 ry
    exact PySem.SeqAt.notIn_list_data r2 r1 p2 p1 hr ⟨.bl _, H, I, rfl, q⟩
  · obtain ⟨bs, r2⟩ := Dp.reads I _ y u h2 ry
    exact PySem.SeqAt.notIn_tuple_data r2 r1 p2 p1 hr ⟨.bl _, H, I, rfl, q⟩
theorem in_side {K : PySem.W.Frag} {H : Hp} {w : V} {y : D} {ds : List D} (hw : Rep K H w y) (hy : y = .lst ds ∨ y = .tup ds) (p : D.plL ds = true) : Dp K H w (.list (toPyL ds)) ∨ Dp K H w (.tuple (toPyL ds)) := by
  rcases hy with rfl | rfl
  · have := hw.dp (show D.pl (.lst ds) = true by simpa [D.pl] using p)
    simp only [toPy] at this; exact .inl this
  · have := hw.dp (show D.pl (.tup ds) = true by simpa [D.pl] using p)
    simp only [toPy] at this; exact .inr this
theorem os_in {k : Nat} (O : XO X k) : OpS X (compareOp .In) oIn := by
  refine ⟨_, (op_inP O.room.units).or (op_dIn O.u1), fun c σ H Hf e x y z v w Q hK R hv hw ho q => ?_⟩
  have key : ∀ ds, (y = .lst ds ∨ y = .tup ds) → (if D.ok x && D.plL ds && decide (D.depL ds ≤ 60) then some (D.bl (ds.any fun z => D.eqv z x)) else none) = some z →
      ∃ d es, Dp X.K H v d ∧ (Dp X.K H w (.list es) ∨ Dp X.K H w (.tuple es)) ∧ d.plain = true ∧ PyData.plainAll es = true ∧ d.depth ≤ 60 ∧ Q (.bl (es.any fun z => PyData.eqv z d)) H := by
    intro ds hy ho
    split at ho
    · rename_i hc
      cases ho
      simp only [Bool.and_eq_true] at hc
      have px := D.ok_pl hc.1.1
      refine ⟨_, _, hK ▸ (hv.mono R.sf).dp px, hK ▸ in_side (hw.mono R.sf) hy hc.1.2, plain_toPy x px, plain_toPyL ds hc.1.2, Nat.le_trans (dep_toPy x px) (D.ok_dep hc.1.1), ?_⟩
      rw [any_toPyL x px ds hc.1.2]
      exact q _ _ _ R (Same.refl _) (.bl _)
    · cases ho
  unfold oIn at ho
  split at ho
  · exact .inl (key _ (.inl rfl) ho)
  · exact .inl (key _ (.inr rfl) ho)
  · unfold D.getD at ho
    split at ho
    · cases ho
    rename_i o ho2
    cases ho
    split at ho2
    · cases ho2
    rename_i q0 hq0
    obtain ⟨a, ob, u, rfl, h1, h2, _⟩ := rep_od hw hq0
    obtain ⟨ov, g1, g2⟩ := dget_od h2 (rd_frz R.sf h1) hv R.sf ho2
    refine .inr ⟨a, ov, rfl, g1, ?_⟩
    rw [g2.isSome]
    exact q _ _ _ R (Same.refl _) (.bl _)
theorem os_notIn {k : Nat} (O : XO X k) : OpS X (compareOp .NotIn) oNotIn := by
  refine ⟨_, (op_notInP O.room.units).or (op_dNotIn O.u1), fun c σ H Hf e x y z v w Q hK R hv hw ho q => ?_⟩
  have key : ∀ ds, (y = .lst ds ∨ y = .tup ds) → (if D.ok x && D.plL ds && decide (D.depL ds ≤ 60) then some (D.bl (!ds.any fun z => D.eqv z x)) else none) = some z →
      ∃ d es, Dp X.K H v d ∧ (Dp X.K H w (.list es) ∨ Dp X.K H w (.tuple es)) ∧ d.plain = true ∧ PyData.plainAll es = true ∧ d.depth ≤ 60 ∧ Q (.bl (!es.any fun z => PyData.eqv z d)) H := by
    intro ds hy ho
    split at ho
    · rename_i hc
      cases ho
      simp only [Bool.and_eq_true] at hc
      have px := D.ok_pl hc.1.1
      refine ⟨_, _, hK ▸ (hv.mono R.sf).dp px, hK ▸ in_side (hw.mono R.sf) hy hc.1.2, plain_toPy x px, plain_toPyL ds hc.1.2, Nat.le_trans (dep_toPy x px) (D.ok_dep hc.1.1), ?_⟩
      rw [any_toPyL x px ds hc.1.2]
      exact q _ _ _ R (Same.refl _) (.bl _)
    · cases ho
  unfold oNotIn at ho
  split at ho
  · exact .inl (key _ (.inl rfl) ho)
  · exact .inl (key _ (.inr rfl) ho)
  · unfold D.getD at ho
    split at ho
    · cases ho
    rename_i o ho2
    cases ho
    split at ho2
    · cases ho2
    rename_i q0 hq0
    obtain ⟨a, ob, u, rfl, h1, h2, _⟩ := rep_od hw hq0
    obtain ⟨ov, g1, g2⟩ := dget_od h2 (rd_frz R.sf h1) hv R.sf ho2
    refine .inr ⟨a, ov, rfl, g1, ?_⟩
    rw [g2.isSome]
    exact q _ _ _ R (Same.refl _) (.bl _)
/-! ### subscripts, slices -/
theorem at_rep {K : PySem.W.Frag} {H : Hp} {vs : List V} {ds : List D} {i : Int} {d : D} (r : RepL K H vs ds) (h : at' ds i = some d) : ∃ v, atI vs i = some v ∧ Rep K H v d := by
  unfold at' at h
  split at h
  · cases h
  · rename_i j hj
    obtain ⟨v, h1, h2⟩ := r.get h
    refine ⟨v, ?_, h2⟩
    have e : ixN vs.length i = some j := by rw [r.length]; exact hj
    unfold atI
    rw [e]; exact h1
theorem de_ix {a b : Expr} {ma mb : M D} {pos : Pos} {k : Nat} (O : XO X k) (ha : DE X a ma) (hb : DE X b mb) (hs : PlainIx b := by exact fun _ _ => rfl) (hs2 : NoSl b := by exact fun _ _ => rfl) : DE X (.Subscript a b pos) (mBin oIx ma mb) := by
  obtain ⟨ta, pa, sa⟩ := ha
  obtain ⟨tb, pb, sb⟩ := hb
  refine ⟨_, pe_or (pe_ix (ix_list.or ix_tup) pa pb hs) (pe_dget O.u1 pa pb hs2), fun c σ H Hf e d e' Q hK R hm q => ?_⟩
  unfold mBin at hm
  split at hm
  · cases hm
  rename_i x e1 h1
  split at hm
  · cases hm
  rename_i y e2 h2
  split at hm
  · cases hm
  rename_i z h3
  cases hm
  unfold oIx at h3
  split at h3
  · refine .inl (sa c σ H Hf e _ e1 _ hK R h1 fun v H1 Hf1 R1 S1 V1 => ?_)
    refine sb c σ H1 Hf1 e1 _ _ _ hK R1 h2 fun w H2 Hf2 R2 S2 V2 => ?_
    have V1 := V1.mono S2
    cases V1 with
    | lst hs rs =>
      cases V2
      obtain ⟨v, g1, g2⟩ := at_rep rs h3
      exact .inl ⟨_, _, _, v, rfl, rfl, hK ▸ R2.seqL hs, g1, q v _ _ R2 (S1.trans S2) g2⟩
  · refine .inl (sa c σ H Hf e _ e1 _ hK R h1 fun v H1 Hf1 R1 S1 V1 => ?_)
    refine sb c σ H1 Hf1 e1 _ _ _ hK R1 h2 fun w H2 Hf2 R2 S2 V2 => ?_
    have V1 := V1.mono S2
    cases V1 with
    | tup hs rs =>
      cases V2
      obtain ⟨v, g1, g2⟩ := at_rep rs h3
      exact .inr ⟨_, _, _, v, rfl, rfl, hK ▸ R2.seqT hs, g1, q v _ _ R2 (S1.trans S2) g2⟩
  · split at h3
    · rename_i z0 hz
      cases h3
      unfold D.getD at hz
      split at hz
      · cases hz
      rename_i q0 hq0
      refine .inr (sa c σ H Hf e _ e1 _ hK R h1 fun v H1 Hf1 R1 S1 V1 => ?_)
      refine sb c σ H1 Hf1 e1 _ _ _ hK R1 h2 fun w H2 Hf2 R2 S2 V2 => ?_
      obtain ⟨a, ob, u, rfl, g1, g2, _⟩ := rep_od (V1.mono S2) hq0
      obtain ⟨ov, g3, g4⟩ := dget_od g2 (rd_frz R2.sf g1) V2 R2.sf hz
      obtain ⟨v', rfl, g5⟩ := g4.some
      exact ⟨a, v', rfl, g3, q v' _ _ R2 (S1.trans S2) g5⟩
    · cases h3
/-- a part of a slice -/
def DO (X : Cx) (ex : Option Expr) (m : M (Option Int)) : Prop := ∃ t, PO X ex t ∧ ∀ (c : Ct) (σ : L2.St) (H Hf : Hp) (e : DL.Env) (d : Option Int) (e' : DL.Env) (Q : Option Int → Hp → Prop), c.K = X.K → Rl c σ H Hf e → m e = some (d, e') →
  (∀ H' Hf', Rl c σ H' Hf' e' → Same Hf Hf' → Q d H') → t σ H Q
theorem do_none : DO X none mNoPart := ⟨_, po_none, fun c σ H Hf e d e' Q hK R hm q => by cases hm; exact q H Hf R (Same.refl _)⟩
theorem do_some {a : Expr} {ma : M D} (ha : DE X a ma) : DO X (some a) (mPart ma) := by
  obtain ⟨ta, pa, sa⟩ := ha
  refine ⟨_, po_some pa, fun c σ H Hf e d e' Q hK R hm q => ?_⟩
  unfold mPart at hm
  split at hm
  · rename_i i e1 h1
    cases hm
    exact sa c σ H Hf e _ _ _ hK R h1 fun v H1 Hf1 R1 S1 V1 => ⟨i, V1.int_inv, q H1 Hf1 R1 S1⟩
  · cases hm
theorem six_eq (n d : Nat) (o : Option Int) : six n d o = HT.sIx n d o := by cases o <;> rfl
theorem cut_rep {K : PySem.W.Frag} {H : Hp} {vs : List V} {ds : List D} {lo hi : Option Int} (r : RepL K H vs ds) : RepL K H (cutV vs lo hi) (cut ds lo hi) := by
  unfold cutV cut
  rw [six_eq, six_eq, r.length]
  exact (r.drop _).take _
theorem cut_whole {ds : List D} {lo hi : Option Int} (h : HT.sIx ds.length 0 lo = 0 ∧ HT.sIx ds.length ds.length hi = ds.length) : cut ds lo hi = ds := by
  unfold cut
  rw [six_eq, six_eq, h.1, h.2]
  simp
theorem de_slice {a : Expr} {lo hi : Option Expr} {ma : M D} {ml mh : M (Option Int)} {p2 pos : Pos} (ha : DE X a ma) (hl : DO X lo ml) (hh : DO X hi mh) : DE X (.Subscript a (.Slice lo hi none p2) pos) (mSlice ma ml mh) := by
  obtain ⟨ta, pa, sa⟩ := ha
  obtain ⟨tl, pl, sl⟩ := hl
  obtain ⟨th, ph, sh⟩ := hh
  refine ⟨_, pe_slice (sl_tupA.or sl_list) pa pl ph, fun c σ H Hf e d e' Q hK R hm q => ?_⟩
  unfold mSlice at hm
  split at hm
  · cases hm
  rename_i x e1 h1
  split at hm
  · cases hm
  rename_i l e2 h2
  split at hm
  · cases hm
  rename_i h e3 h3
  split at hm
  · cases hm
  rename_i z h4
  cases hm
  refine sa c σ H Hf e x e1 _ hK R h1 fun v H1 Hf1 R1 S1 V1 => ?_
  refine sl c σ H1 Hf1 e1 l e2 _ hK R1 h2 fun H2 Hf2 R2 S2 => ?_
  refine sh c σ H2 Hf2 e2 h _ _ hK R2 h3 fun H3 Hf3 R3 S3 => ?_
  have V1 := V1.mono (S2.trans S3)
  have S := S1.trans (S2.trans S3)
  unfold oPart at h4
  split at h4
  · cases h4
    cases V1 with
    | lst hs rs =>
      refine .inr ⟨_, _, rfl, hK ▸ R3.seqL hs, fun p hp => ?_⟩
      exact R3.newL hp (cut_rep rs) fun u H' Hf' R' S' V' => q u H' Hf' R' (S.trans S') V'
  · cases h4
    cases V1 with
    | tup hs rs =>
      refine .inl ⟨_, _, rfl, hK ▸ R3.seqT hs, fun hw => ?_, fun hw p hp => ?_⟩
      · rw [rs.length] at hw
        have q' := q _ _ _ R3 S (.tup hs (by show RepL c.K _ _ (cut _ _ _); rw [cut_whole hw]; exact rs))
        exact q'
      · exact R3.newT hp (cut_rep rs) fun u H' Hf' R' S' V' => q u H' Hf' R' (S.trans S') V'
  · cases h4
/-- of a list: a new list -/
theorem dn_slice {a : Expr} {lo hi : Option Expr} {ma : M D} {ml mh : M (Option Int)} {p2 pos : Pos} (ha : DE X a ma) (hl : DO X lo ml) (hh : DO X hi mh) : DN X (.Subscript a (.Slice lo hi none p2) pos) (mNew (mSlice ma ml mh)) := by
  obtain ⟨ta, pa, sa⟩ := ha
  obtain ⟨tl, pl, sl⟩ := hl
  obtain ⟨th, ph, sh⟩ := hh
  refine ⟨_, pe_slice sl_list pa pl ph, fun c σ H Hf e d e' Q hK R hm q => ?_⟩
  unfold mNew at hm
  split at hm
  · rename_i xs e4 hm2
    cases hm
    unfold mSlice at hm2
    split at hm2
    · cases hm2
    rename_i x e1 h1
    split at hm2
    · cases hm2
    rename_i l e2 h2
    split at hm2
    · cases hm2
    rename_i h e3 h3
    split at hm2
    · cases hm2
    rename_i z h4
    cases hm2
    refine sa c σ H Hf e x e1 _ hK R h1 fun v H1 Hf1 R1 S1 V1 => ?_
    refine sl c σ H1 Hf1 e1 l e2 _ hK R1 h2 fun H2 Hf2 R2 S2 => ?_
    refine sh c σ H2 Hf2 e2 h _ _ hK R2 h3 fun H3 Hf3 R3 S3 => ?_
    have V1 := V1.mono (S2.trans S3)
    unfold oPart at h4
    split at h4
    · cases h4
      cases V1 with
      | lst hs rs =>
        refine ⟨_, _, rfl, hK ▸ R3.seqL hs, fun p hp => ?_⟩
        exact q _ _ _ _ (R3.track hp) (S1.trans (S2.trans S3)) (.of R3 hp) (cut_rep rs)
    · cases h4
    · cases h4
  · cases hm
theorem dn_rev {a : Expr} {ma : M D} {k : Nat} {p1 p2 p3 pos : Pos} (ha : DE X a ma) : DN X (.Subscript a (.Slice none none (some (.UnaryOp .USub (.Constant (.int 1) k p1) p2)) p3) pos) (mRev ma) := by
  obtain ⟨ta, pa, sa⟩ := ha
  refine ⟨_, pe_revL pa, fun c σ H Hf e d e' Q hK R hm q => ?_⟩
  unfold mRev at hm
  split at hm
  · rename_i xs e1 h1
    cases hm
    refine sa c σ H Hf e _ _ _ hK R h1 fun v H1 Hf1 R1 S1 V1 => ?_
    cases V1 with
    | lst hs rs => exact ⟨_, _, rfl, hK ▸ R1.seqL hs, fun p hp => q _ _ _ _ (R1.track hp) S1 (.of R1 hp) rs.rev⟩
  · cases hm
/-! ### built-ins -/
theorem call_len_d : CallR X (.builtin "len") (fun xs H Q => ∃ (a : Addr), xs = [.ref a] ∧ ((∃ kvs, Rd H a (.dK kvs) ∧ Q (.int ((kvs.length : Nat) : Int)) H) ∨ ∃ kvs, Rd H a (.dT kvs) ∧ Q (.int ((kvs.length : Nat) : Int)) H)) := by
  intro pins s σ H xs us Q I r h
  obtain ⟨p, rfl, h⟩ := h
  obtain ⟨u, rfl, rx⟩ := vals1 r
  obtain rfl : u = .ref p := rx
  rcases h with ⟨kvs, hp, q⟩ | ⟨kvs, hp, q⟩
  · exact d_len I hp fun t s' I' => ⟨.int ((kvs.length : Nat) : Int), H, I', ⟨_, rfl⟩, q⟩
  · obtain ⟨z, hd, ys, rel, dd⟩ := dt_rd I.hok hp
    have hl : kvs.length = ys.length := Paired.length rel
    refine call_len_dictH hd dd (by rw [← hl]; rw [sizeLine_eq] at z; omega) ?_
    rw [← hl]
    exact ⟨.int ((kvs.length : Nat) : Int), H, I.tok _, ⟨_, rfl⟩, q⟩
theorem cs_len : CallS X (.builtin "len") fLen := by
  refine ⟨_, call_len_seq.or call_len_d, fun c σ H Hf e xs ds d Q hK R hv ho q => ?_⟩
  unfold fLen at ho
  split at ho
  · cases ho
    cases hv with
    | cons h t =>
      cases t
      cases h with
      | lst hs rs =>
        refine .inl ⟨_, _, rfl, .inl (hK ▸ R.seqL hs), ?_⟩
        rw [rs.length]; exact q _ _ _ R (Same.refl _) (.int _)
  · cases ho
    cases hv with
    | cons h t =>
      cases t
      cases h with
      | tup hs rs =>
        refine .inl ⟨_, _, rfl, .inr (hK ▸ R.seqT hs), ?_⟩
        rw [rs.length]; exact q _ _ _ R (Same.refl _) (.int _)
  · cases ho
    cases hv with
    | cons h t =>
      cases t
      cases h with
      | dK h1 h2 h3 =>
        refine .inr ⟨_, rfl, .inl ⟨_, rd_frz R.sf h1, ?_⟩⟩
        rw [List.length_zip, ← h2, Nat.min_self]
        exact q _ _ _ R (Same.refl _) (.int _)
  · cases ho
    cases hv with
    | cons h t =>
      cases t
      cases h with
      | dT h1 h2 h3 =>
        refine .inr ⟨_, rfl, .inr ⟨_, rd_frz R.sf h1, ?_⟩⟩
        rw [List.length_zip, ← h2, Nat.min_self]
        exact q _ _ _ R (Same.refl _) (.int _)
  · cases ho
theorem maxI_ge : ∀ (l : List Int) (a : Int), a ≤ maxI a l ∧ ∀ y ∈ l, y ≤ maxI a l
  | [], a => ⟨Int.le_refl _, fun y h => by cases h⟩
  | x :: l, a => by
    have := maxI_ge l (max a x)
    show a ≤ maxI (max a x) l ∧ ∀ y ∈ x :: l, y ≤ maxI (max a x) l
    refine ⟨by omega, fun y h => ?_⟩
    rcases List.mem_cons.mp h with z | z
    · subst z; omega
    · exact this.2 y z
theorem maxI_mem : ∀ (l : List Int) (a : Int), maxI a l = a ∨ maxI a l ∈ l
  | [], a => .inl rfl
  | x :: l, a => by
    show maxI (max a x) l = a ∨ maxI (max a x) l ∈ x :: l
    rcases maxI_mem l (max a x) with h | h
    · rw [h]
      by_cases z : a ≤ x
      · exact .inr (by rw [Int.max_eq_right z]; simp)
      · exact .inl (by omega)
    · exact .inr (List.mem_cons_of_mem _ h)
theorem minI_le : ∀ (l : List Int) (a : Int), minI a l ≤ a ∧ ∀ y ∈ l, minI a l ≤ y
  | [], a => ⟨Int.le_refl _, fun y h => by cases h⟩
  | x :: l, a => by
    have := minI_le l (min a x)
    show minI (min a x) l ≤ a ∧ ∀ y ∈ x :: l, minI (min a x) l ≤ y
    refine ⟨by omega, fun y h => ?_⟩
    rcases List.mem_cons.mp h with z | z
    · subst z; omega
    · exact this.2 y z
theorem minI_mem : ∀ (l : List Int) (a : Int), minI a l = a ∨ minI a l ∈ l
  | [], a => .inl rfl
  | x :: l, a => by
    show minI (min a x) l = a ∨ minI (min a x) l ∈ x :: l
    rcases minI_mem l (min a x) with h | h
    · rw [h]
      by_cases z : x ≤ a
      · exact .inr (by rw [Int.min_eq_right z]; simp)
      · exact .inl (by omega)
    · exact .inr (List.mem_cons_of_mem _ h)
section
/-- min of a tuple of ints -/
theorem cr_minT (hc : X.calm = true) : CallR X (.builtin "min") (fun vs H Q => ∃ (a : Addr) (is : List Int), vs = [V.ref a] ∧ SqT X.K H a (is.map V.int) ∧ is ≠ [] ∧ ∀ m, m ∈ is → (∀ j ∈ is, m ≤ j) → Q (.int m) H) := by
  intro pins s σ H vs us Q I r h
  obtain ⟨p, ns, rfl, hp, hns, want⟩ := h
  rw [Vals.ref1 r]
  obtain ⟨its, rv, stands, _⟩ := I.tuple hp
  have stands : s.heap.IsTuple p its.toArray := stands
  have below : p < s.heap.objs.size := by obtain ⟨_, z, _⟩ := id stands; exact Heap.lt_size z
  have sameLen : its.length = ns.length := by have z := rv.length; rw [List.length_map] at z; exact z.symm
  have some_ : 0 < its.toArray.size := by rw [List.size_toArray, sameLen]; exact List.length_pos_iff.mpr hns
  have isN : ∀ (i : Nat) (v : Value), its.toArray[i]? = some v → ∃ t, v = Value.int (ns.getD i 0) t := by
    intro i v at_
    have at_ : its[i]? = some v := by simpa using at_
    have hi : i < ns.length := by rw [← sameLen]; exact (List.getElem?_eq_some_iff.mp at_).1
    have f1 : (ns.map V.int)[i]? = some (V.int ns[i]) := by rw [List.getElem?_map, List.getElem?_eq_getElem hi]; rfl
    obtain ⟨u, f2, f3⟩ := rv.get f1
    rw [at_] at f2
    cases f2
    obtain ⟨t, f4⟩ := f3
    exact ⟨t, by rw [f4, List.getD_eq_getElem?_getD, List.getElem?_eq_getElem hi]; rfl⟩
  refine call_min_walk (wpAny_pyIter_tuple stands ⟨_, _, _, _, _, _, _, rfl,
    Walks.tuple (A := X.A.in1) (I.ok.hd hc) s.heap.objs.size p (Nat.ne_of_lt below) its.toArray,
    ⟨⟨_, Heap.get?_push_size _ rfl, rfl, rfl⟩, stands.at fun _ z => Heap.get?_push_of_some _ z⟩, fun c hin => ?_, some_,
    CmpOf.ints_lt (fun i => ns.getD i 0) isN, fun v h' tk got same => ?_⟩)
  · show c < (s.heap.push _).objs.size
    rw [Heap.size_push]
    rcases List.mem_cons.mp hin with rfl | hin
    · exact Nat.lt_succ_self _
    · have z := List.mem_singleton.mp hin
      subst z
      exact Nat.lt_succ_of_lt below
  · obtain ⟨t, rfl⟩ := isN _ v got
    obtain ⟨least1, least2⟩ := argBest_lt (fun i => ns.getD i 0) (its.toArray.size - 1)
    have hsz : its.toArray.size = ns.length := by rw [List.size_toArray, sameLen]
    refine ⟨.int _, H, I.kept (t' := tk) fun c w z => same c w (fun hin => ?_) (Heap.get?_push_of_some _ z), ⟨t, rfl⟩, want _ ?_ fun j hj => ?_⟩
    · have z1 := List.mem_singleton.mp hin
      subst z1
      exact (Nat.lt_irrefl _ (Heap.lt_size z)).elim
    · have inb : argBest (fun i j => decide (ns.getD i 0 < ns.getD j 0)) (its.toArray.size - 1) < ns.length := by
        have z := List.length_pos_iff.mpr hns
        omega
      rw [List.getD_eq_getElem?_getD, List.getElem?_eq_getElem inb]
      exact List.getElem_mem inb
    · obtain ⟨i, hi, z⟩ := List.mem_iff_getElem.mp hj
      have z2 : ns.getD i 0 = j := by rw [List.getD_eq_getElem?_getD, List.getElem?_eq_getElem hi, ← z]; rfl
      rw [← z2]
      exact least2 i (by omega)
/-- max of a tuple of ints -/
theorem cr_maxT (hc : X.calm = true) : CallR X (.builtin "max") (fun vs H Q => ∃ (a : Addr) (is : List Int), vs = [V.ref a] ∧ SqT X.K H a (is.map V.int) ∧ is ≠ [] ∧ ∀ m, m ∈ is → (∀ j ∈ is, j ≤ m) → Q (.int m) H) := by
  intro pins s σ H vs us Q I r h
  obtain ⟨p, ns, rfl, hp, hns, want⟩ := h
  rw [Vals.ref1 r]
  obtain ⟨its, rv, stands, _⟩ := I.tuple hp
  have stands : s.heap.IsTuple p its.toArray := stands
  have below : p < s.heap.objs.size := by obtain ⟨_, z, _⟩ := id stands; exact Heap.lt_size z
  have sameLen : its.length = ns.length := by have z := rv.length; rw [List.length_map] at z; exact z.symm
  have some_ : 0 < its.toArray.size := by rw [List.size_toArray, sameLen]; exact List.length_pos_iff.mpr hns
  have isN : ∀ (i : Nat) (v : Value), its.toArray[i]? = some v → ∃ t, v = Value.int (ns.getD i 0) t := by
    intro i v at_
    have at_ : its[i]? = some v := by simpa using at_
    have hi : i < ns.length := by rw [← sameLen]; exact (List.getElem?_eq_some_iff.mp at_).1
    have f1 : (ns.map V.int)[i]? = some (V.int ns[i]) := by rw [List.getElem?_map, List.getElem?_eq_getElem hi]; rfl
    obtain ⟨u, f2, f3⟩ := rv.get f1
    rw [at_] at f2
    cases f2
    obtain ⟨t, f4⟩ := f3
    exact ⟨t, by rw [f4, List.getD_eq_getElem?_getD, List.getElem?_eq_getElem hi]; rfl⟩
  refine call_max_walk (wpAny_pyIter_tuple stands ⟨_, _, _, _, _, _, _, rfl,
    Walks.tuple (A := X.A.in1) (I.ok.hd hc) s.heap.objs.size p (Nat.ne_of_lt below) its.toArray,
    ⟨⟨_, Heap.get?_push_size _ rfl, rfl, rfl⟩, stands.at fun _ z => Heap.get?_push_of_some _ z⟩, fun c hin => ?_, some_,
    CmpOf.ints_gt (fun i => ns.getD i 0) isN, fun v h' tk got same => ?_⟩)
  · show c < (s.heap.push _).objs.size
    rw [Heap.size_push]
    rcases List.mem_cons.mp hin with rfl | hin
    · exact Nat.lt_succ_self _
    · have z := List.mem_singleton.mp hin
      subst z
      exact Nat.lt_succ_of_lt below
  · obtain ⟨t, rfl⟩ := isN _ v got
    obtain ⟨least1, least2⟩ := argBest_gt (fun i => ns.getD i 0) (its.toArray.size - 1)
    have hsz : its.toArray.size = ns.length := by rw [List.size_toArray, sameLen]
    refine ⟨.int _, H, I.kept (t' := tk) fun c w z => same c w (fun hin => ?_) (Heap.get?_push_of_some _ z), ⟨t, rfl⟩, want _ ?_ fun j hj => ?_⟩
    · have z1 := List.mem_singleton.mp hin
      subst z1
      exact (Nat.lt_irrefl _ (Heap.lt_size z)).elim
    · have inb : argBest (fun i j => decide (ns.getD i 0 > ns.getD j 0)) (its.toArray.size - 1) < ns.length := by
        have z := List.length_pos_iff.mpr hns
        omega
      rw [List.getD_eq_getElem?_getD, List.getElem?_eq_getElem inb]
      exact List.getElem_mem inb
    · obtain ⟨i, hi, z⟩ := List.mem_iff_getElem.mp hj
      have z2 : ns.getD i 0 = j := by rw [List.getD_eq_getElem?_getD, List.getElem?_eq_getElem hi, ← z]; rfl
      rw [← z2]
      exact least2 i (by omega)
end
theorem cs_max {k : Nat} (O : XO X k) : CallS X (.builtin "max") fMax := by
  refine ⟨_, ((call_max2 O.calm).or (cr_max O.calm)).or (cr_maxT O.calm), fun c σ H Hf e xs ds d Q hK R hv ho q => ?_⟩
  unfold fMax at ho
  split at ho
  · rename_i i j
    cases ho
    cases hv with
    | cons h t =>
      cases t with
      | cons h2 t =>
        cases t; cases h; cases h2
        refine .inl (.inl ⟨i, j, rfl, ?_⟩)
        have e : (if j > i then j else i) = max i j := by
          by_cases z : j > i
          · rw [if_pos z]; omega
          · rw [if_neg z]; omega
        rw [e]; exact q _ _ _ R (Same.refl _) (.int _)
  · rename_i ys
    split at ho
    · rename_i a l hl
      cases ho
      cases hv with
      | cons h t =>
        cases t
        cases h with
        | tup hs rs =>
          have en := rs.ints hl
          subst en
          refine .inr ⟨_, a :: l, rfl, hK ▸ R.seqT hs, by simp, fun m hm hle => ?_⟩
          have e : m = maxI a l := by
            have h1 := maxI_ge l a
            have h2 := maxI_mem l a
            apply Int.le_antisymm
            · rcases List.mem_cons.mp hm with z | z
              · omega
              · exact h1.2 m z
            · refine hle _ ?_
              rcases h2 with z | z
              · rw [z]; simp
              · exact List.mem_cons_of_mem _ z
          rw [e]; exact q _ _ _ R (Same.refl _) (.int _)
    · cases ho
  · rename_i ys
    split at ho
    · rename_i a l hl
      cases ho
      cases hv with
      | cons h t =>
        cases t
        cases h with
        | lst hs rs =>
          have en := rs.ints hl
          subst en
          refine .inl (.inr ⟨_, a :: l, rfl, hK ▸ R.seqL hs, by simp, fun m hm hle => ?_⟩)
          have e : m = maxI a l := by
            have h1 := maxI_ge l a
            have h2 := maxI_mem l a
            apply Int.le_antisymm
            · rcases List.mem_cons.mp hm with z | z
              · omega
              · exact h1.2 m z
            · refine hle _ ?_
              rcases h2 with z | z
              · rw [z]; simp
              · exact List.mem_cons_of_mem _ z
          rw [e]; exact q _ _ _ R (Same.refl _) (.int _)
    · cases ho
  · cases ho
section
/-- min of a dict's keys, locked or not (as the kit has it of a dict that is not locked) -/
theorem cr_minR (hc : X.calm = true) : CallR X (.builtin "min") (fun vs H Q => ∃ (a : Addr) (kvs : List (Key × V)) (is : List Int), vs = [V.ref a] ∧ Rd H a (.dK kvs) ∧ kvs.map (·.1) = is.map Sum.inl ∧ is ≠ [] ∧ ∀ m, m ∈ is → (∀ j ∈ is, m ≤ j) → Q (.int m) H) := by
  intro pins s σ H vs us Q I r h
  obtain ⟨p, pairs, ns, rfl, hp, hkn, hns, want⟩ := h
  rw [Vals.ref1 r]
  obtain ⟨_, hsm, ws, kvr, hdo⟩ := dk_rd I.hok hp
  obtain ⟨nx, dat⟩ := hdo.dictAt
  obtain ⟨obj, _, stands, _⟩ := id dat
  have below : p < s.heap.objs.size := Heap.lt_size stands
  have keysN : ws.map (·.1) = ns.map Sum.inl := (KV.keys kvr).symm.trans hkn
  have sameLen : ws.length = ns.length := by simpa using congrArg List.length keysN
  have some_ : 0 < ws.length := by rw [sameLen]; exact List.length_pos_iff.mpr hns
  have isN : ∀ (i : Nat) (v : Value), (∃ k x, ws[i]? = some (k, x) ∧ (mixKind X.prog X.w).is k v = true) → ∃ t, v = Value.int (ns.getD i 0) t := by
    rintro i v ⟨k, x, at_, key_⟩
    have f1 : (ws.map (·.1))[i]? = some k := by rw [List.getElem?_map, at_]; rfl
    rw [keysN, List.getElem?_map] at f1
    obtain ⟨m, hm, rfl⟩ := Option.map_eq_some_iff.mp f1
    obtain ⟨t, f2⟩ := Value.isInt_shape (k := m) (v := v) key_
    exact ⟨t, by rw [f2, List.getD_eq_getElem?_getD, hm]; rfl⟩
  refine call_min_walk (wpAny_pyIter_dict (knd := mixKind X.prog X.w) hsm dat ⟨_, _, _, _, _, _, _, rfl,
    Walks.dictKeys (knd := mixKind X.prog X.w) (A := X.A.in1) (I.ok.hd hc) s.heap.objs.size p (Nat.ne_of_lt below) ws nx,
    ⟨⟨_, Heap.get?_push_size _ rfl, rfl, rfl⟩, dat.keep fun _ _ z => Heap.get?_push_of_some _ z⟩, fun c hin => ?_, some_,
    CmpOf.ints_lt (fun i => ns.getD i 0) isN, fun v h' tk got same => ?_⟩)
  · show c < (s.heap.push _).objs.size
    rw [Heap.size_push]
    rcases List.mem_cons.mp hin with rfl | hin
    · exact Nat.lt_succ_self _
    · have z := List.mem_singleton.mp hin
      subst z
      exact Nat.lt_succ_of_lt below
  · obtain ⟨t, rfl⟩ := isN _ v got
    obtain ⟨least1, least2⟩ := argBest_lt (fun i => ns.getD i 0) (ws.length - 1)
    refine ⟨.int _, H, I.kept (t' := tk) fun c w z => same c w (fun hin => ?_) (Heap.get?_push_of_some _ z), ⟨t, rfl⟩, want _ ?_ fun j hj => ?_⟩
    · have z1 := List.mem_singleton.mp hin
      subst z1
      exact (Nat.lt_irrefl _ (Heap.lt_size z)).elim
    · have inb : argBest (fun i j => decide (ns.getD i 0 < ns.getD j 0)) (ws.length - 1) < ns.length := by omega
      rw [List.getD_eq_getElem?_getD, List.getElem?_eq_getElem inb]
      exact List.getElem_mem inb
    · obtain ⟨i, hi, z⟩ := List.mem_iff_getElem.mp hj
      have z2 : ns.getD i 0 = j := by rw [List.getD_eq_getElem?_getD, List.getElem?_eq_getElem hi, ← z]; rfl
      rw [← z2]
      exact least2 i (by omega)
end
theorem kyInts_map : ∀ {ks : List Ky} {l : List Int}, kyInts ks = some l → ks = l.map Sum.inl
  | [], l, h => by cases h; rfl
  | .inl i :: r, l, h => by
    simp only [kyInts] at h
    split at h
    · cases h
    rename_i l2 h2
    cases h
    rw [kyInts_map h2]
    rfl
  | .inr _ :: r, l, h => by cases h
theorem cs_min {k : Nat} (O : XO X k) : CallS X (.builtin "min") fMin := by
  refine ⟨_, (((call_min2 O.calm).or (cr_min O.calm)).or (cr_minR O.calm)).or (cr_minT O.calm), fun c σ H Hf e xs ds d Q hK R hv ho q => ?_⟩
  unfold fMin at ho
  split at ho
  · rename_i i j
    cases ho
    cases hv with
    | cons h t =>
      cases t with
      | cons h2 t =>
        cases t; cases h; cases h2
        refine .inl (.inl (.inl ⟨i, j, rfl, ?_⟩))
        have e : (if j < i then j else i) = min i j := by
          by_cases z : j < i
          · rw [if_pos z]; omega
          · rw [if_neg z]; omega
        rw [e]; exact q _ _ _ R (Same.refl _) (.int _)
  · rename_i ys
    split at ho
    · rename_i a l hl
      cases ho
      cases hv with
      | cons h t =>
        cases t
        cases h with
        | tup hs rs =>
          have en := rs.ints hl
          subst en
          refine .inr ⟨_, a :: l, rfl, hK ▸ R.seqT hs, by simp, fun m hm hle => ?_⟩
          have e : m = minI a l := by
            have h1 := minI_le l a
            have h2 := minI_mem l a
            apply Int.le_antisymm
            · refine hle _ ?_
              rcases h2 with z | z
              · rw [z]; simp
              · exact List.mem_cons_of_mem _ z
            · rcases List.mem_cons.mp hm with z | z
              · omega
              · exact h1.2 m z
          rw [e]; exact q _ _ _ R (Same.refl _) (.int _)
    · cases ho
  · rename_i ys
    split at ho
    · rename_i a l hl
      cases ho
      cases hv with
      | cons h t =>
        cases t
        cases h with
        | lst hs rs =>
          have en := rs.ints hl
          subst en
          refine .inl (.inl (.inr ⟨_, a :: l, rfl, hK ▸ R.seqL hs, by simp, fun m hm hle => ?_⟩))
          have e : m = minI a l := by
            have h1 := minI_le l a
            have h2 := minI_mem l a
            apply Int.le_antisymm
            · refine hle _ ?_
              rcases h2 with z | z
              · rw [z]; simp
              · exact List.mem_cons_of_mem _ z
            · rcases List.mem_cons.mp hm with z | z
              · omega
              · exact h1.2 m z
          rw [e]; exact q _ _ _ R (Same.refl _) (.int _)
    · cases ho
  · rename_i ks vs
    split at ho
    · rename_i a l hl
      cases ho
      cases hv with
      | cons h t =>
        cases t
        cases h with
        | dK h1 h2 h3 =>
          refine .inl <| .inr ⟨_, _, a :: l, rfl, rd_frz R.sf h1, ?_, by simp, fun m hm hle => ?_⟩
          · rw [List.map_fst_zip (Nat.le_of_eq h2)]
            exact kyInts_map hl
          · have e : m = minI a l := by
              have h1 := minI_le l a
              have h2 := minI_mem l a
              apply Int.le_antisymm
              · refine hle _ ?_
                rcases h2 with z | z
                · rw [z]; simp
                · exact List.mem_cons_of_mem _ z
              · rcases List.mem_cons.mp hm with z | z
                · omega
                · exact h1.2 m z
            rw [e]; exact q _ _ _ R (Same.refl _) (.int _)
    · cases ho
  · cases ho
/-- sum of a tuple of ints -/
theorem cr_sumT (hc : X.calm = true) : CallR X (.builtin "sum") (fun vs H Q => ∃ (a : Addr) (is : List Int), vs = [V.ref a] ∧ SqT X.K H a (is.map V.int) ∧ Q (.int is.sum) H) := by
  intro pins s σ H vs us Q I r h
  obtain ⟨p, ns, rfl, hp, q⟩ := h
  rw [Vals.ref1 r]
  obtain ⟨its, rv, stands, _⟩ := I.tuple hp
  have stands : s.heap.IsTuple p its.toArray := stands
  have hi := rv.ints
  obtain ⟨xs, e⟩ := hi.allInts.items
  have hn : numsOf (intItems xs).toList = ns := by rw [← e]; exact hi.numsOf
  rw [nums_intItems] at hn
  rw [e] at stands
  refine PySem.W.ktm_sumG (I.ok.hd hc) stands fun h' tk t' hk => ?_
  rw [preSum_eq, List.take_of_length_le (by simp), hn]
  exact ⟨.int _, H, I.kept hk, ⟨_, rfl⟩, q⟩
theorem cs_sum {k : Nat} (O : XO X k) : CallS X (.builtin "sum") fSum := by
  refine ⟨_, (cr_sum O.calm).or (cr_sumT O.calm), fun c σ H Hf e xs ds d Q hK R hv ho q => ?_⟩
  unfold fSum at ho
  split at ho
  · split at ho
    · cases ho
    · rename_i l hl
      cases ho
      cases hv with
      | cons h t =>
        cases t
        cases h with
        | lst hs rs =>
          have en := rs.ints hl
          subst en
          exact .inl ⟨_, l, rfl, hK ▸ R.seqL hs, q _ _ _ R (Same.refl _) (.int _)⟩
  · split at ho
    · cases ho
    · rename_i l hl
      cases ho
      cases hv with
      | cons h t =>
        cases t
        cases h with
        | tup hs rs =>
          have en := rs.ints hl
          subst en
          exact .inr ⟨_, l, rfl, hK ▸ R.seqT hs, q _ _ _ R (Same.refl _) (.int _)⟩
  · cases ho
theorem cs_abs : CallS X (.builtin "abs") fAbs := by
  refine ⟨_, call_abs, fun c σ H Hf e xs ds d Q hK R hv ho q => ?_⟩
  unfold fAbs at ho
  split at ho
  · cases ho
    cases hv with
    | cons h t =>
      cases t; cases h
      exact ⟨_, rfl, q _ _ _ R (Same.refl _) (.int _)⟩
  · cases ho
theorem cs_all {k : Nat} (O : XO X k) : CallS X (.builtin "all") fAll := by
  refine ⟨_, cr_all O.calm, fun c σ H Hf e xs ds d Q hK R hv ho q => ?_⟩
  unfold fAll at ho
  split at ho
  · split at ho
    · cases ho
    · rename_i l hl
      cases ho
      cases hv with
      | cons h t =>
        cases t
        cases h with
        | lst hs rs =>
          have en := rs.bls hl
          subst en
          exact ⟨_, l, rfl, hK ▸ R.seqL hs, q _ _ _ R (Same.refl _) (.bl _)⟩
  · cases ho
theorem cs_any {k : Nat} (O : XO X k) : CallS X (.builtin "any") fAny := by
  refine ⟨_, cr_any O.calm, fun c σ H Hf e xs ds d Q hK R hv ho q => ?_⟩
  unfold fAny at ho
  split at ho
  · split at ho
    · cases ho
    · rename_i l hl
      cases ho
      cases hv with
      | cons h t =>
        cases t
        cases h with
        | lst hs rs =>
          have en := rs.bls hl
          subst en
          exact ⟨_, l, rfl, hK ▸ R.seqL hs, q _ _ _ R (Same.refl _) (.bl _)⟩
  · cases ho
theorem cs_tuple : CallS X (.type "tuple") fTuple := by
  refine ⟨_, call_tuple_of, fun c σ H Hf e xs ds d Q hK R hv ho q => ?_⟩
  unfold fTuple at ho
  split at ho
  · cases ho
    cases hv with
    | cons h t =>
      cases t
      cases h with
      | lst hs rs =>
        refine ⟨_, _, rfl, .inl ⟨hK ▸ R.seqL hs, fun p hp => ?_⟩⟩
        exact R.newT hp rs q
  · cases ho
    cases hv with
    | cons h t =>
      cases t
      cases h with
      | tup hs rs => exact ⟨_, _, rfl, .inr ⟨hK ▸ R.seqT hs, q _ _ _ R (Same.refl _) (.tup hs rs)⟩⟩
  · cases ho
theorem cn_list : CallN X (.type "list") fListN := by
  refine ⟨_, call_list_of, fun c σ H Hf e xs ds d Q hK R hv ho q => ?_⟩
  unfold fListN at ho
  split at ho
  · cases ho
    cases hv with
    | cons h t =>
      cases t
      cases h with
      | lst hs rs => exact ⟨_, _, rfl, .inl (hK ▸ R.seqL hs), fun p hp => q _ _ _ _ (R.track hp) (Same.refl _) (.of R hp) rs⟩
  · cases ho
    cases hv with
    | cons h t =>
      cases t
      cases h with
      | tup hs rs => exact ⟨_, _, rfl, .inr (hK ▸ R.seqT hs), fun p hp => q _ _ _ _ (R.track hp) (Same.refl _) (.of R hp) rs⟩
  · cases ho
theorem cs_int : CallS X (.type "int") fInt := by
  refine ⟨_, call_int1, fun c σ H Hf e xs ds d Q hK R hv ho q => ?_⟩
  unfold fInt at ho
  split at ho
  · cases ho
    cases hv with
    | cons h t =>
      cases t; cases h
      exact .inl ⟨_, rfl, q _ _ _ R (Same.refl _) (.int _)⟩
  · cases ho
    cases hv with
    | cons h t =>
      cases t; cases h
      exact .inr ⟨_, rfl, q _ _ _ R (Same.refl _) (.int _)⟩
  · cases ho
/-! ### isinstance -/
def Ty.nm : Ty → String
  | .bool => "bool" | .int => "int" | .str => "str" | .list => "list" | .tuple => "tuple"
def D.nm : D → String
  | .non => "NoneType" | .bl _ => "bool" | .int _ => "int" | .str _ => "str" | .lst _ => "list" | .tup _ => "tuple" | _ => "dict"
def D.noDict : D → Bool
  | .dK _ _ | .dT _ _ => false
  | _ => true
/-- the kinds of plain values -/
inductive Tg where
  | non | bl | int | str | lst | tup
def Tg.ex : Tg → D
  | .non => .non | .bl => .bl true | .int => .int 0 | .str => .str Str.empty | .lst => .lst [] | .tup => .tup []
theorem kit_of_tg (K : PySem.W.Frag) (g : Tg) (t : Ty) : PySem.W.kitOne K (.type g.ex.nm) (.type t.nm) = some (g.ex.isA t) := by
  cases g <;> cases t <;> exact kit_ty (by decide +kernel)
theorem kit_of_ty (K : PySem.W.Frag) (d : D) (h : d.noDict = true) (t : Ty) : PySem.W.kitOne K (.type d.nm) (.type t.nm) = some (d.isA t) := by
  cases d with
  | non => exact kit_of_tg K .non t
  | bl b => have := kit_of_tg K .bl t; cases t <;> exact this
  | int i => have := kit_of_tg K .int t; cases t <;> exact this
  | str x => have := kit_of_tg K .str t; cases t <;> exact this
  | lst x => have := kit_of_tg K .lst t; cases t <;> exact this
  | tup x => have := kit_of_tg K .tup t; cases t <;> exact this
  | dK _ _ => cases h
  | dT _ _ => cases h
theorem tyX_of {K : PySem.W.Frag} {H : Hp} {v : V} {d : D} (r : Rep K H v d) (h : d.noDict = true) : TyX K H v (.type d.nm) := by
  cases r with
  | non => exact .base .non
  | bl b => exact .base (.bl b)
  | int i => exact .base (.int i)
  | str x => exact .base (.str x)
  | lst hs _ =>
    rcases hs with (hs | ⟨o, hs⟩) | ⟨o, its, n, hk, hc, _⟩
    · exact .base (.lst hs)
    · exact .base (.frz hs)
    · exact .kList hk hc
  | tup hs _ => exact .base (.tup hs.h)
  | dK _ _ _ => cases h
  | dT _ _ _ => cases h
theorem oIsi_inv {t : Ty} {x z : D} (h : oIsi t x = some z) : x.noDict = true ∧ z = .bl (x.isA t) := by
  cases x <;> cases h <;> exact ⟨rfl, rfl⟩
theorem oIsi2_inv {t u : Ty} {x z : D} (h : oIsi2 t u x = some z) : x.noDict = true ∧ z = .bl (x.isA t || x.isA u) := by
  cases x <;> cases h <;> exact ⟨rfl, rfl⟩
theorem boot_ty (t : Ty) : bootBuiltins (t.nm : String) = some (.type t.nm) := by cases t <;> decide +kernel
theorem de_isi {a : Expr} {ma : M D} {p p2 pos : Pos} {x : Str} (t : Ty) (ha : DE X a ma) (hi : X.mg "isinstance" = none) (hm : X.mg x = none) (hx : bootBuiltins x = some (.type t.nm)) (g1 : Gl X "isinstance" := by rfl) (g2 : Gl X x := by rfl) (hn : x ≠ "__name__" := by decide) (hd : (x == ("__debug__" : Str)) = false := by decide)
    (he : starEach [a, .Name x p2] X.env = (false, eval a X.env) :: starEach [.Name x p2] X.env := by rfl) (he2 : starEach [.Name x p2] X.env = (false, eval (.Name x p2) X.env) :: starEach [] X.env := by rfl) (hpl : (backTo pos (starEach [.Name x p2] X.env)).any (·.1) = false := by rfl) :
    DE X (.Call (.Name "isinstance" p) [a, .Name x p2] [] pos) (mIsi t ma) := by
  obtain ⟨ta, pa, sa⟩ := ha
  have pn : PE X (.Name x p2) (tC (.ty t.nm)) := pe_bltn g2 hm hx rfl hn hd
  refine ⟨_, pe_callB call_isi g1 hi (by decide +kernel) (pa_cons pa (pa_cons pn pa_nil he2) he) (by decide) (by decide) he hpl, fun c σ H Hf e d e' Q hK R hm q => ?_⟩
  unfold mIsi mUn at hm
  split at hm
  · cases hm
  rename_i x e1 h1
  split at hm
  · cases hm
  rename_i z h3
  cases hm
  obtain ⟨nd, rfl⟩ := oIsi_inv h3
  refine sa c σ H Hf e x _ _ hK R h1 fun v H1 Hf1 R1 S1 V1 => ?_
  exact ⟨v, .ty t.nm, _, _, _, rfl, .ty _, hK ▸ tyX_of (V1.mono R1.sf) nd, kit_of_ty X.K x nd t, q _ _ _ R1 S1 (.bl _)⟩
/-- isinstance(x, (t, u)) -/
theorem de_isi2 {a : Expr} {ma : M D} {p p2 p3 p4 pos : Pos} {x y : Str} {x1 : Nat} (t u : Ty) (ha : DE X a ma) (hi : X.mg "isinstance" = none) (hm : X.mg x = none) (hx : bootBuiltins x = some (.type t.nm)) (hm2 : X.mg y = none) (hy : bootBuiltins y = some (.type u.nm))
    (g1 : Gl X "isinstance" := by rfl) (g2 : Gl X x := by rfl) (g3 : Gl X y := by rfl) (hn : x ≠ "__name__" := by decide) (hd : (x == ("__debug__" : Str)) = false := by decide) (hn2 : y ≠ "__name__" := by decide) (hd2 : (y == ("__debug__" : Str)) = false := by decide)
    (he : starEach [a, .Tuple [.Name x p2, .Name y p3] x1 p4] X.env = (false, eval a X.env) :: starEach [.Tuple [.Name x p2, .Name y p3] x1 p4] X.env := by rfl)
    (he2 : starEach [.Tuple [.Name x p2, .Name y p3] x1 p4] X.env = (false, eval (.Tuple [.Name x p2, .Name y p3] x1 p4) X.env) :: starEach [] X.env := by rfl)
    (he3 : starEach [.Name x p2, .Name y p3] X.env = (false, eval (.Name x p2) X.env) :: starEach [.Name y p3] X.env := by rfl)
    (he4 : starEach [.Name y p3] X.env = (false, eval (.Name y p3) X.env) :: starEach [] X.env := by rfl)
    (hpl : (backTo pos (starEach [.Tuple [.Name x p2, .Name y p3] x1 p4] X.env)).any (·.1) = false := by rfl) :
    DE X (.Call (.Name "isinstance" p) [a, .Tuple [.Name x p2, .Name y p3] x1 p4] [] pos) (mIsi2 t u ma) := by
  obtain ⟨ta, pa, sa⟩ := ha
  have pn : PE X (.Name x p2) (tC (.ty t.nm)) := pe_bltn g2 hm hx rfl hn hd
  have pn2 : PE X (.Name y p3) (tC (.ty u.nm)) := pe_bltn g3 hm2 hy rfl hn2 hd2
  refine ⟨_, pe_callB call_isiT g1 hi (by decide +kernel) (pa_cons pa (pa_cons (pe_tup (pa_cons pn (pa_cons pn2 pa_nil he4) he3)) pa_nil he2) he) (by decide) (by decide) he hpl, fun c σ H Hf e d e' Q hK R hm q => ?_⟩
  unfold mIsi2 mUn at hm
  split at hm
  · cases hm
  rename_i x e1 h1
  split at hm
  · cases hm
  rename_i z h3
  cases hm
  obtain ⟨nd, rfl⟩ := oIsi2_inv h3
  refine sa c σ H Hf e x _ _ hK R h1 fun v H1 Hf1 R1 S1 V1 => ⟨by show 2 ≤ sizeLine; decide, fun a ha => ?_⟩
  have sm := same_new (none_sub R1.sf ha) (o := HO.tup [.ty t.nm, .ty u.nm])
  refine ⟨v, a, _, _, _, _, rfl, upd_same, .cons (.ty _) (.cons (.ty _) .nil), hK ▸ tyX_of ((V1.mono R1.sf).mono (same_new ha)) nd, ?_, q _ _ _ (R1.alloc ha) (S1.trans sm) (.bl _)⟩
  refine kitAny_cons (kit_of_ty X.K x nd t) (b := x.isA t) (fun z => ?_) (fun z => by rw [z]; rfl)
  rw [z]
  refine kitAny_cons (kit_of_ty X.K x nd u) (b := x.isA u) (fun z2 => ?_) (fun z2 => by rw [z2]; rfl)
  rw [z2]; exact kitAny_nil
/-! ### tuple(range(a, b)), list(range(a, b)) -/
theorem rgV_rep (K : PySem.W.Frag) (H : Hp) (a b : Int) : RepL K H (rgV a b) (rng a b) := by
  unfold rgV rng
  generalize (b - a).toNat = n
  have : ∀ l : List Nat, RepL K H (l.map fun i => V.int (a + (i : Nat))) (l.map fun i => D.int (a + (i : Nat))) := fun l => by
    induction l with
    | nil => exact .nil
    | cons x l ih => exact .cons (.int _) ih
  exact this _
theorem inR_ok {i : Int} (h : inR i = true) : -(2 ^ 62) ≤ i ∧ i < 2 ^ 62 := of_decide_eq_true h
theorem rg_ok {i j : Int} (h : (inR i && inR j && decide ((j - i).toNat ≤ cap)) = true) : RgOk i j := by
  simp only [Bool.and_eq_true] at h
  exact ⟨(inR_ok h.1.1).1, (inR_ok h.1.1).2, (inR_ok h.1.2).1, (inR_ok h.1.2).2, of_decide_eq_true h.2⟩
section
variable {a b : Expr} {ma mb : M D} {p p2 pos pos2 : Pos} {k : Nat}
theorem de_tupRg1 (O : XO X k) (ha : DE X a ma) (m1 : X.mg "tuple" = none) (m2 : X.mg "range" = none) (g1 : Gl X "tuple" := by rfl) (g2 : Gl X "range" := by rfl)
    (na : starEach [a] X.env = (false, eval a X.env) :: starEach [] X.env := by rfl)
    (nb : starEach [.Call (.Name "range" p2) [a] [] pos2] X.env = (false, eval (.Call (.Name "range" p2) [a] [] pos2) X.env) :: starEach [] X.env := by rfl) :
    DE X (.Call (.Name "tuple" p) [.Call (.Name "range" p2) [a] [] pos2] [] pos) (mTupL (mRg (mC (.int 0)) ma)) := by
  obtain ⟨ta, pa, sa⟩ := ha
  refine ⟨_, pe_tupRg O.calm g1 m1 (prg_1 g2 m2 pa na) nb, fun c σ H Hf e d e' Q hK R hm q => ?_⟩
  unfold mTupL mRg mC at hm
  simp only at hm
  split at hm
  · cases hm
  rename_i xs e1 h1
  cases hm
  split at h1
  · rename_i j e2 h2
    split at h1
    · rename_i hc
      cases h1
      refine sa c σ H Hf e _ _ _ hK R h2 fun v H1 Hf1 R1 S1 V1 => ⟨j, V1.int_inv, rg_ok hc, fun a ha => ?_⟩
      have sm := same_new (none_sub R1.sf ha) (o := HO.tup (rgV 0 j))
      exact q _ _ _ (R1.alloc ha) (S1.trans sm) (.tup (.of upd_same) (rgV_rep _ _ _ _))
    · cases h1
  · cases h1
theorem de_tupRg2 (O : XO X k) (ha : DE X a ma) (hb : DE X b mb) (m1 : X.mg "tuple" = none) (m2 : X.mg "range" = none) (g1 : Gl X "tuple" := by rfl) (g2 : Gl X "range" := by rfl)
    (na : starEach [a, b] X.env = (false, eval a X.env) :: starEach [b] X.env := by rfl) (nb : starEach [b] X.env = (false, eval b X.env) :: starEach [] X.env := by rfl) (hp : (backTo pos2 (starEach [b] X.env)).any (·.1) = false := by rfl)
    (nc : starEach [.Call (.Name "range" p2) [a, b] [] pos2] X.env = (false, eval (.Call (.Name "range" p2) [a, b] [] pos2) X.env) :: starEach [] X.env := by rfl) :
    DE X (.Call (.Name "tuple" p) [.Call (.Name "range" p2) [a, b] [] pos2] [] pos) (mTupL (mRg ma mb)) := by
  obtain ⟨ta, pa, sa⟩ := ha
  obtain ⟨tb, pb, sb⟩ := hb
  refine ⟨_, pe_tupRg O.calm g1 m1 (prg_2 g2 m2 pa pb na nb hp) nc, fun c σ H Hf e d e' Q hK R hm q => ?_⟩
  unfold mTupL mRg at hm
  split at hm
  · cases hm
  rename_i xs e1 h1
  cases hm
  split at h1
  · rename_i i e0 h0
    split at h1
    · rename_i j e2 h2
      split at h1
      · rename_i hc
        cases h1
        refine sa c σ H Hf e _ _ _ hK R h0 fun v H1 Hf1 R1 S1 V1 => ?_
        refine sb c σ H1 Hf1 _ _ _ _ hK R1 h2 fun w H2 Hf2 R2 S2 V2 => ⟨i, j, V1.int_inv, V2.int_inv, rg_ok hc, fun a ha => ?_⟩
        have sm := same_new (none_sub R2.sf ha) (o := HO.tup (rgV i j))
        exact q _ _ _ (R2.alloc ha) (S1.trans (S2.trans sm)) (.tup (.of upd_same) (rgV_rep _ _ _ _))
      · cases h1
    · cases h1
  · cases h1
theorem dn_lstRg1 (O : XO X k) (ha : DE X a ma) (m1 : X.mg "list" = none) (m2 : X.mg "range" = none) (g1 : Gl X "list" := by rfl) (g2 : Gl X "range" := by rfl)
    (na : starEach [a] X.env = (false, eval a X.env) :: starEach [] X.env := by rfl)
    (nb : starEach [.Call (.Name "range" p2) [a] [] pos2] X.env = (false, eval (.Call (.Name "range" p2) [a] [] pos2) X.env) :: starEach [] X.env := by rfl) :
    DN X (.Call (.Name "list" p) [.Call (.Name "range" p2) [a] [] pos2] [] pos) (mRg (mC (.int 0)) ma) := by
  obtain ⟨ta, pa, sa⟩ := ha
  refine ⟨_, pe_listRg O.calm g1 m1 (prg_1 g2 m2 pa na) nb, fun c σ H Hf e d e' Q hK R hm q => ?_⟩
  unfold mRg mC at hm
  simp only at hm
  split at hm
  · rename_i j e2 h2
    split at hm
    · rename_i hc
      cases hm
      refine sa c σ H Hf e _ _ _ hK R h2 fun v H1 Hf1 R1 S1 V1 => ⟨j, V1.int_inv, rg_ok hc, fun a ha => ?_⟩
      exact q _ _ _ _ (R1.track ha) S1 (.of R1 ha) (rgV_rep _ _ _ _)
    · cases hm
  · cases hm
theorem dn_lstRg2 (O : XO X k) (ha : DE X a ma) (hb : DE X b mb) (m1 : X.mg "list" = none) (m2 : X.mg "range" = none) (g1 : Gl X "list" := by rfl) (g2 : Gl X "range" := by rfl)
    (na : starEach [a, b] X.env = (false, eval a X.env) :: starEach [b] X.env := by rfl) (nb : starEach [b] X.env = (false, eval b X.env) :: starEach [] X.env := by rfl) (hp : (backTo pos2 (starEach [b] X.env)).any (·.1) = false := by rfl)
    (nc : starEach [.Call (.Name "range" p2) [a, b] [] pos2] X.env = (false, eval (.Call (.Name "range" p2) [a, b] [] pos2) X.env) :: starEach [] X.env := by rfl) :
    DN X (.Call (.Name "list" p) [.Call (.Name "range" p2) [a, b] [] pos2] [] pos) (mRg ma mb) := by
  obtain ⟨ta, pa, sa⟩ := ha
  obtain ⟨tb, pb, sb⟩ := hb
  refine ⟨_, pe_listRg O.calm g1 m1 (prg_2 g2 m2 pa pb na nb hp) nc, fun c σ H Hf e d e' Q hK R hm q => ?_⟩
  unfold mRg at hm
  split at hm
  · rename_i i e0 h0
    split at hm
    · rename_i j e2 h2
      split at hm
      · rename_i hc
        cases hm
        refine sa c σ H Hf e _ _ _ hK R h0 fun v H1 Hf1 R1 S1 V1 => ?_
        refine sb c σ H1 Hf1 _ _ _ _ hK R1 h2 fun w H2 Hf2 R2 S2 V2 => ⟨i, j, V1.int_inv, V2.int_inv, rg_ok hc, fun a ha => ?_⟩
        exact q _ _ _ _ (R2.track ha) (S1.trans S2) (.of R2 ha) (rgV_rep _ _ _ _)
      · cases hm
    · cases hm
  · cases hm
end
end DL

namespace DL
open PySem PySem.Spec PyProof.Rows L2
variable {X : Cx}
/-! ### what a def promises, and its call -/
def spD (K : PySem.W.Frag) (f : List D → Option D) : Sp := fun vs H Q _ => ∃ Hf ds d, Same Hf H ∧ RepL K Hf vs ds ∧ f ds = some d ∧
  ∀ v H' Hf', Same H H' → Same Hf Hf' → Same Hf' H' → Nw Hf Hf' H → Rep K Hf' v d → Q v H'
def spN (K : PySem.W.Frag) (f : List D → Option (List D)) : Sp := fun vs H Q _ => ∃ Hf ds d, Same Hf H ∧ RepL K Hf vs ds ∧ f ds = some d ∧
  ∀ p ws H' Hf', Same H H' → Same Hf Hf' → Same Hf' H' → Nw Hf Hf' H → H p = none → Hf' p = none → H' p = some (.lst ws) → RepL K Hf' ws d → Q (.ref p) H'
def spI (K : PySem.W.Frag) (f : List D → List D → Option (D × List D)) : Sp := fun vs H Q _ => ∃ p ws us Hf ss ds d ss', vs = .ref p :: ws ∧ Same Hf H ∧ Hf p = none ∧ H p = some (.lst us) ∧ RepL K Hf us ss ∧ RepL K Hf ws ds ∧ f ss ds = some (d, ss') ∧
  ∀ v H' Hf' us', (∀ b o, H b = some o → b ≠ p → H' b = some o) → Same Hf Hf' → Same Hf' H' → Nw Hf Hf' H → H' p = some (.lst us') → RepL K Hf' us' ss' → Rep K Hf' v d → Q v H'
/-- a def that may be called by its name -/
def Cal (P : Program) (w : World) (K : PySem.W.Frag) (mg : Str → Option Value) (base : Heap) (k : Nat) (x : Str) (sp : Sp) : Prop :=
  ∃ f fd ps, mg x = some (.ref f) ∧ PySem.W.keepIn K (.ref f) = true ∧ Binds K fd ps [] ∧ FnOk P w K mg base CX0 k f fd ps sp
theorem Cal.mono {P : Program} {w : World} {K : PySem.W.Frag} {mg : Str → Option Value} {base : Heap} {j k : Nat} {x : Str} {sp : Sp} (h : Cal P w K mg base j x sp) (l : j ≤ k) : Cal P w K mg base k x sp := by
  obtain ⟨f, fd, ps, a, b, c, d⟩ := h
  exact ⟨f, fd, ps, a, b, c, d.mono l⟩
section
variable {ea : Expr} {es : List Expr} {r : M (List D)} {p pos : Pos} {x : Str} {k j : Nat}
theorem de_call {f : List D → Option D} (O : XO X k) (G : Cal X.prog X.w X.K X.mg X.base j x (spD X.K f)) (ha : DA X (ea :: es) r) (hj : j ≤ k := by decide) (hg : Gl X x := by rfl) (hdb : (x == ("__debug__" : Str)) = false := by decide)
    (he : starEach (ea :: es) X.env = (false, eval ea X.env) :: starEach es X.env := by rfl) (hpl : (backTo pos (starEach es X.env)).any (·.1) = false := by rfl) : DE X (.Call (.Name x p) (ea :: es) [] pos) (mF f r) := by
  obtain ⟨fa, fd, ps, h1, h2, h3, h4⟩ := G.mono hj
  obtain ⟨t, pa, s⟩ := ha
  refine ⟨_, pe_call h4 O.room hg h1 h2 h3 .nil pass0 pa hdb he hpl, fun c σ H Hf e d e' Q hK R hm q => ?_⟩
  unfold mF at hm
  split at hm
  · cases hm
  rename_i xs e1 g1
  split at hm
  · cases hm
  rename_i d' g2
  cases hm
  refine s c σ H Hf e _ _ _ hK R g1 fun vs H1 Hf1 R1 S1 V1 => ?_
  rw [List.append_nil]
  exact ⟨Hf1, xs, _, R1.sf, hK ▸ V1, g2, fun v H' Hf' a1 a2 a3 a4 a5 => q v H' Hf' (R1.call a1 a2 a3 a4) (S1.trans a2) (hK ▸ a5)⟩
theorem Rl.newAt {c : Ct} {σ : L2.St} {H Hf H' Hf' : Hp} {e : DL.Env} {q : Addr} {ws : List V} (R : Rl c σ H Hf e) (h1 : H q = none) (h2 : Hf' q = none) (h3 : H' q = some (.lst ws)) : NewAt c σ H' Hf' e q ws :=
  ⟨h3, h2, R.h0 h1, R.new_no h1⟩
theorem dn_call {f : List D → Option (List D)} (O : XO X k) (G : Cal X.prog X.w X.K X.mg X.base j x (spN X.K f)) (ha : DA X (ea :: es) r) (hj : j ≤ k := by decide) (hg : Gl X x := by rfl) (hdb : (x == ("__debug__" : Str)) = false := by decide)
    (he : starEach (ea :: es) X.env = (false, eval ea X.env) :: starEach es X.env := by rfl) (hpl : (backTo pos (starEach es X.env)).any (·.1) = false := by rfl) : DN X (.Call (.Name x p) (ea :: es) [] pos) (mFN f r) := by
  obtain ⟨fa, fd, ps, h1, h2, h3, h4⟩ := G.mono hj
  obtain ⟨t, pa, s⟩ := ha
  refine ⟨_, pe_call h4 O.room hg h1 h2 h3 .nil pass0 pa hdb he hpl, fun c σ H Hf e d e' Q hK R hm q => ?_⟩
  unfold mFN at hm
  split at hm
  · cases hm
  rename_i xs e1 g1
  split at hm
  · cases hm
  rename_i d' g2
  cases hm
  refine s c σ H Hf e _ _ _ hK R g1 fun vs H1 Hf1 R1 S1 V1 => ?_
  rw [List.append_nil]
  exact ⟨Hf1, xs, _, R1.sf, hK ▸ V1, g2, fun a ws H' Hf' a1 a2 a3 a4 b1 b2 b3 a5 => q a ws H' Hf' (R1.call a1 a2 a3 a4) (S1.trans a2) (R1.newAt b1 b2 b3) (hK ▸ a5)⟩
/-- a call that changes the own list of slot i, its first argument -/
theorem de_callI {f : List D → List D → Option (D × List D)} {y : Str} {py : Pos} (O : XO X k) (G : Cal X.prog X.w X.K X.mg X.base j x (spI X.K f)) (i : Nat) (ha : DA X es r) (hN : X.N[i]? = some y := by rfl) (hv : Vis X.env.scope y := by first | exact Or.inl rfl | exact Or.inr (Or.inl rfl) | exact Or.inr (Or.inr rfl))
    (hj : j ≤ k := by decide) (hg : Gl X x := by rfl) (hdb : (x == ("__debug__" : Str)) = false := by decide) (hd : (y == ("__debug__" : Str)) = false := by decide) (hcd : (y == ("__classdict__" : Str)) = false := by decide)
    (he : starEach (.Name y py :: es) X.env = (false, eval (.Name y py) X.env) :: starEach es X.env := by rfl) (hpl : (backTo pos (starEach es X.env)).any (·.1) = false := by rfl) : DE X (.Call (.Name x p) (.Name y py :: es) [] pos) (mFI f i r) := by
  obtain ⟨fa, fd, ps, h1, h2, h3, h4⟩ := G.mono hj
  obtain ⟨t, pa, s⟩ := ha
  refine ⟨_, pe_call h4 O.room hg h1 h2 h3 .nil pass0 (pa_cons (pe_var hN hv hd hcd) pa he) hdb he hpl, fun c σ H Hf e d e' Q hK R hm q => ?_⟩
  unfold mFI at hm
  split at hm
  · rename_i s0 g0
    obtain ⟨a, _, hv, _⟩ := R.ownAt g0
    split at hm
    · cases hm
    rename_i xs e1 g1
    split at hm
    · rename_i ss g2
      split at hm
      · cases hm
      rename_i d' ss' g3
      cases hm
      refine ⟨_, hv, s c σ H Hf e _ _ _ hK R g1 fun vs H1 Hf1 R1 S1 V1 => ?_⟩
      obtain ⟨a', us, z1, z2, _, z3, z4⟩ := R1.ownAt g2
      rw [hv] at z1
      cases z1
      rw [List.append_nil]
      exact ⟨a, vs, us, Hf1, ss, xs, _, ss', rfl, R1.sf, z2, z3, hK ▸ z4, hK ▸ V1, g3, fun v' H' Hf' us' a1 a2 a3 a4 b1 b2 a5 => q v' H' Hf' (R1.callI g2 hv a1 a2 a3 a4 b1 (hK ▸ b2)) (S1.trans a2) (hK ▸ a5)⟩
    · cases hm
  · cases hm
/-! ### the own list of a slot, read -/
theorem de_oix {b : Expr} {mb : M D} {y : Str} {py : Pos} (i : Nat) (hb : DE X b mb) (hs : PlainIx b := by exact fun _ _ => rfl) (hN : X.N[i]? = some y := by rfl) (hv : Vis X.env.scope y := by first | exact Or.inl rfl | exact Or.inr (Or.inl rfl) | exact Or.inr (Or.inr rfl))
    (hd : (y == ("__debug__" : Str)) = false := by decide) (hcd : (y == ("__classdict__" : Str)) = false := by decide) : DE X (.Subscript (.Name y py) b pos) (mOIx i mb) := by
  obtain ⟨tb, pb, sb⟩ := hb
  refine ⟨_, pe_ix ix_list (pe_var hN hv hd hcd) pb hs, fun c σ H Hf e d e' Q hK R hm q => ?_⟩
  unfold mOIx at hm
  split at hm
  · rename_i s0 g0
    obtain ⟨a, _, hv, _⟩ := R.ownAt g0
    split at hm
    · rename_i i' e1 g1
      split at hm
      · rename_i xs g2
        split at hm
        · cases hm
        rename_i d' g3
        cases hm
        refine ⟨_, hv, sb c σ H Hf e _ _ _ hK R g1 fun v H1 Hf1 R1 S1 V1 => ?_⟩
        obtain ⟨a', us, z1, z2, _, z3, z4⟩ := R1.ownAt g2
        rw [hv] at z1
        cases z1
        obtain ⟨u, k1, k2⟩ := at_rep z4 g3
        exact ⟨_, _, _, u, rfl, V1.int_inv, .of z3, k1, q u H1 Hf1 R1 S1 k2⟩
      · cases hm
    · cases hm
  · cases hm
theorem de_olen {y : Str} {py : Pos} (i : Nat) (hm0 : X.mg "len" = none) (hN : X.N[i]? = some y := by rfl) (hv : Vis X.env.scope y := by first | exact Or.inl rfl | exact Or.inr (Or.inl rfl) | exact Or.inr (Or.inr rfl))
    (hg : Gl X "len" := by rfl) (hd : (y == ("__debug__" : Str)) = false := by decide) (hcd : (y == ("__classdict__" : Str)) = false := by decide)
    (he : starEach [.Name y py] X.env = (false, eval (.Name y py) X.env) :: starEach [] X.env := by rfl) (hpl : (backTo pos (starEach [] X.env)).any (·.1) = false := by rfl) : DE X (.Call (.Name "len" p) [.Name y py] [] pos) (mOLen i) := by
  refine ⟨_, pe_callB call_len_seq hg hm0 PySem.boot_len (pa_cons (pe_var hN hv hd hcd) pa_nil he) (by decide) (by decide) he hpl, fun c σ H Hf e d e' Q hK R hm q => ?_⟩
  unfold mOLen at hm
  split at hm
  · rename_i s0 g0
    cases hm
    obtain ⟨a, us, hv, z2, _, z3, z4⟩ := R.ownAt g0
    refine ⟨_, hv, _, us, rfl, .inl (.of z3), ?_⟩
    rw [z4.length]; exact q _ H Hf R (Same.refl _) (.int _)
  · cases hm
theorem de_oEq {b : Expr} {mb : M D} {y : Str} {py : Pos} (O : XO X k) (i : Nat) (hb : DE X b mb) (hmk : behindInMarks .Eq b = false := by first | exact nomark _ | rfl) (hN : X.N[i]? = some y := by rfl) (hv : Vis X.env.scope y := by first | exact Or.inl rfl | exact Or.inr (Or.inl rfl) | exact Or.inr (Or.inr rfl))
    (hd : (y == ("__debug__" : Str)) = false := by decide) (hcd : (y == ("__classdict__" : Str)) = false := by decide) : DE X (.Compare (.Name y py) [.Eq] [b] pos) (mOBin oEq i mb) := by
  obtain ⟨tb, pb, sb⟩ := hb
  refine ⟨_, pe_cmpR (op_eqP O.room.units) (pe_var hN hv hd hcd) pb hmk, fun c σ H Hf e d e' Q hK R hm q => ?_⟩
  unfold mOBin at hm
  split at hm
  · rename_i s0 g0
    obtain ⟨a, _, hv, _⟩ := R.ownAt g0
    split at hm
    · cases hm
    rename_i y' e1 g1
    split at hm
    · rename_i xs g2
      split at hm
      · cases hm
      rename_i z g3
      cases hm
      refine ⟨_, hv, sb c σ H Hf e _ _ _ hK R g1 fun v H1 Hf1 R1 S1 V1 => ?_⟩
      obtain ⟨a', us, z1, z2, _, z3, z4⟩ := R1.ownAt g2
      rw [hv] at z1
      cases z1
      unfold oEq at g3
      split at g3
      · rename_i hc
        cases g3
        obtain ⟨hx, hy⟩ := Bool.and_eq_true_iff.mp hc
        have px := D.ok_pl hx
        have py := D.ok_pl hy
        refine ⟨_, _, hK ▸ (Rep.lst (.of z3) (z4.mono R1.sf)).dp px, hK ▸ (V1.mono R1.sf).dp py, plain_toPy _ px, plain_toPy _ py, Nat.le_trans (dep_toPy _ px) (D.ok_dep hx), ?_⟩
        rw [eqv_toPy _ _ px py]
        exact q _ _ _ R1 S1 (.bl _)
      · cases g3
    · cases hm
  · cases hm
theorem de_oNe {b : Expr} {mb : M D} {y : Str} {py : Pos} (O : XO X k) (i : Nat) (hb : DE X b mb) (hmk : behindInMarks .NotEq b = false := by first | exact nomark _ | rfl) (hN : X.N[i]? = some y := by rfl) (hv : Vis X.env.scope y := by first | exact Or.inl rfl | exact Or.inr (Or.inl rfl) | exact Or.inr (Or.inr rfl))
    (hd : (y == ("__debug__" : Str)) = false := by decide) (hcd : (y == ("__classdict__" : Str)) = false := by decide) : DE X (.Compare (.Name y py) [.NotEq] [b] pos) (mOBin oNe i mb) := by
  obtain ⟨tb, pb, sb⟩ := hb
  refine ⟨_, pe_cmpR (op_neP O.room.units) (pe_var hN hv hd hcd) pb hmk, fun c σ H Hf e d e' Q hK R hm q => ?_⟩
  unfold mOBin at hm
  split at hm
  · rename_i s0 g0
    obtain ⟨a, _, hv, _⟩ := R.ownAt g0
    split at hm
    · cases hm
    rename_i y' e1 g1
    split at hm
    · rename_i xs g2
      split at hm
      · cases hm
      rename_i z g3
      cases hm
      refine ⟨_, hv, sb c σ H Hf e _ _ _ hK R g1 fun v H1 Hf1 R1 S1 V1 => ?_⟩
      obtain ⟨a', us, z1, z2, _, z3, z4⟩ := R1.ownAt g2
      rw [hv] at z1
      cases z1
      unfold oNe at g3
      split at g3
      · rename_i hc
        cases g3
        obtain ⟨hx, hy⟩ := Bool.and_eq_true_iff.mp hc
        have px := D.ok_pl hx
        have py := D.ok_pl hy
        refine ⟨_, _, hK ▸ (Rep.lst (.of z3) (z4.mono R1.sf)).dp px, hK ▸ (V1.mono R1.sf).dp py, plain_toPy _ px, plain_toPy _ py, Nat.le_trans (dep_toPy _ px) (D.ok_dep hx), ?_⟩
        rw [eqv_toPy _ _ px py]
        exact q _ _ _ R1 S1 (.bl _)
      · cases g3
    · cases hm
  · cases hm
end
/-! ### canonical readings (the same whatever the context) -/
def cE (K : PySem.W.Frag) (m : M D) : TE := fun σ H Q => ∃ (c : Ct) (Hf : Hp) (e : DL.Env) (d : D) (e' : DL.Env), c.K = K ∧ Rl c σ H Hf e ∧ m e = some (d, e') ∧ ∀ v H' Hf', Rl c σ H' Hf' e' → Same Hf Hf' → Rep c.K Hf' v d → Q v H'
def cT (K : PySem.W.Frag) (m : M Bool) : TT := fun σ H Q => ∃ (c : Ct) (Hf : Hp) (e : DL.Env) (d : Bool) (e' : DL.Env), c.K = K ∧ Rl c σ H Hf e ∧ m e = some (d, e') ∧ ∀ H' Hf', Rl c σ H' Hf' e' → Same Hf Hf' → Q d H'
theorem DE.can {ex : Expr} {m : M D} (h : DE X ex m) : PE X ex (cE X.K m) := by
  obtain ⟨t, p, s⟩ := h
  exact ⟨fun pins st σ H Q I ⟨c, Hf, e, d, e', hK, R, hm, q⟩ => p.run pins st σ H Q I (s c σ H Hf e d e' Q hK R hm q)⟩
theorem DT.can {ex : Expr} {m : M Bool} (h : DT X ex m) : PT X ex (cT X.K m) := by
  obtain ⟨t, p, s⟩ := h
  exact ⟨fun pins st σ H Q I ⟨c, Hf, e, d, e', hK, R, hm, q⟩ => p.run pins st σ H Q I (s c σ H Hf e d e' Q hK R hm q)⟩
def DTs (X : Cx) (ifs : List Expr) (m : M Bool) : Prop := PTs X ifs (cT X.K m)
theorem dts_nil : DTs X [] tYes := ⟨fun pins s σ H Q I ⟨c, Hf, e, d, e', hK, R, hm, q⟩ => by
  cases hm
  exact pts_nil.run pins s σ H Q I (q H Hf R (Same.refl _))⟩
theorem dts_one {ex : Expr} {m : M Bool} (h : DT X ex m) : DTs X [ex] m := pts_one h.can
/-! ### targets -/
/-- is: the slots that it stores to -/
def gPt (K : PySem.W.Frag) (p : Pt) (is : List Nat) : TG := fun v σ H Q => ∃ (c : Ct) (Hf : Hp) (e : DL.Env) (d : D) (e' : DL.Env), c.K = K ∧ Rl c σ H Hf e ∧ (0 ∉ is ∨ c.pin = none) ∧ Rep c.K Hf v d ∧ p d e = some e' ∧
  ∀ σ', Rl c σ' H Hf e' → (∀ vs : List Nat, (∀ i ∈ is, i ∈ vs) → wipe σ' vs = wipe σ vs) → Q σ' H
def gPts (K : PySem.W.Frag) (ps : List Pt) (is : List Nat) : TGs := fun vs σ H Q => ∃ (c : Ct) (Hf : Hp) (e : DL.Env) (ds : List D) (e' : DL.Env), c.K = K ∧ Rl c σ H Hf e ∧ (0 ∉ is ∨ c.pin = none) ∧ RepL c.K Hf vs ds ∧ pTs ps ds e = some e' ∧
  ∀ σ', Rl c σ' H Hf e' → (∀ vs : List Nat, (∀ i ∈ is, i ∈ vs) → wipe σ' vs = wipe σ vs) → Q σ' H
def DPt (X : Cx) (tg : Expr) (p : Pt) (is : List Nat) : Prop := PG X tg (gPt X.K p is)
def DPts (X : Cx) (tgs : List Expr) (ps : List Pt) (is : List Nat) : Prop := PGs X tgs (gPts X.K ps is)
theorem pg_imp {tg : Expr} {t t' : TG} (h : PG X tg t) (k : ∀ v σ H Q, t' v σ H Q → t v σ H Q) : PG X tg t' := ⟨fun pins s σ H v u Q I r w => h.run pins s σ H v u Q I r (k _ _ _ _ w)⟩
theorem pgs_imp {tg : List Expr} {t t' : TGs} (h : PGs X tg t) (k : ∀ v σ H Q, t' v σ H Q → t v σ H Q) : PGs X tg t' := ⟨fun pins s σ H v u Q I r w => h.run pins s σ H v u Q I r (k _ _ _ _ w)⟩
end DL

namespace DL
open PySem PySem.Spec PyProof.Rows L2
variable {X : Cx} {k : Nat}
theorem dp_name {x : Str} {pos : Pos} (O : XO X k) (i : Nat) (hi : X.N[i]? = some x := by rfl) (hx : Loc X.env.scope x := by first | exact Or.inl rfl | exact Or.inr rfl) (hf : X.fn x = true ∨ X.env.scope.names.lookup x = some .local := by first | exact .inl rfl | exact .inr rfl) : DPt X (.Name x pos) (pN i) [i] := by
  refine pg_imp (pg_name (i := i) O.nd hi hx hf) fun v σ H Q w => ?_
  obtain ⟨c, Hf, e, d, e', hK, R, h0, hv, hp, q⟩ := w
  unfold pN at hp
  split at hp
  · rename_i hl
    cases hp
    refine q _ (R.set hl hv ?_) fun vs hvs => wipe_set _ _ _ _ (hvs i (by simp))
    rcases h0 with z | z
    · exact .inl fun y => z (by simp [y])
    · exact .inr z
  · cases hp
theorem dps_nil : DPts X [] [] [] := by
  refine pgs_imp pgs_nil fun v σ H Q w => ?_
  obtain ⟨c, Hf, e, d, e', hK, R, h0, hv, hp, q⟩ := w
  cases hv with
  | nil =>
    have z : e = e' := Option.some.inj hp
    subst z
    exact ⟨rfl, q _ R fun _ _ => rfl⟩
  | cons _ _ => exact absurd hp (by simp [pTs])
theorem pgs_cons' {e : Expr} {es : List Expr} {t : TG} {u : TGs} (h1 : PG X e t) (h2 : PGs X es u) (h : (assignEach (e :: es) X.env).map (·.2) = assign e X.env :: (assignEach es X.env).map (·.2)) : PGs X (e :: es) (gCons t u) := pgs_cons h1 h2 h
theorem dps_cons {e : Expr} {es : List Expr} {p : Pt} {ps : List Pt} {is js : List Nat} (h1 : DPt X e p is) (h2 : DPts X es ps js) (h : (assignEach (e :: es) X.env).map (·.2) = assign e X.env :: (assignEach es X.env).map (·.2) := by rfl) : DPts X (e :: es) (p :: ps) (is ++ js) := by
  refine pgs_imp (pgs_cons' h1 h2 h) fun v σ H Q w => ?_
  obtain ⟨c, Hf, e, ds, e', hK, R, h0, hv, hp, q⟩ := w
  cases hv with
  | nil => exact absurd hp (by simp [pTs])
  | cons hv ht =>
    rename_i d ds
    simp only [pTs] at hp
    split at hp
    · cases hp
    rename_i e1 h3
    refine ⟨_, _, rfl, c, Hf, e, d, e1, hK, R, ?_, hv, h3, fun σ' R' w' => ?_⟩
    · rcases h0 with z | z
      · exact .inl fun y => z (List.mem_append_left _ y)
      · exact .inr z
    refine ⟨c, Hf, e1, ds, e', hK, R', ?_, ht, hp, fun σ'' R'' w'' => q σ'' R'' fun vs hvs => (w'' vs fun i hi => hvs i (List.mem_append_right _ hi)).trans (w' vs fun i hi => hvs i (List.mem_append_left _ hi))⟩
    rcases h0 with z | z
    · exact .inl fun y => z (List.mem_append_right _ y)
    · exact .inr z
theorem dp_tup {es : List Expr} {ps : List Pt} {is : List Nat} {x1 : Nat} {pos : Pos} {n : Nat} (O : XO X k) (h : DPts X es ps is) (hl : ps.length = n := by rfl) (hn : (assignEach es X.env).length = n := by rfl) (hst : (assignEach es X.env).findIdx? (·.1) = none := by rfl) : DPt X (.Tuple es x1 pos) (pT ps) is := by
  refine pg_imp (pg_tup (n := n) O.calm h hn hst) fun v σ H Q w => ?_
  obtain ⟨c, Hf, e, d, e', hK, R, h0, hv, hp, q⟩ := w
  unfold pT at hp
  split at hp
  · rename_i ds
    cases hv with
    | tup hs rs =>
      refine ⟨_, _, rfl, hK ▸ R.seqT hs, ?_, c, Hf, e, ds, e', hK, R, h0, rs, hp, q⟩
      rw [rs.length, ← hl]
      have len : ∀ (ps : List Pt) (ds : List D) (e e' : DL.Env), pTs ps ds e = some e' → ds.length = ps.length := by
        intro ps
        induction ps with
        | nil => intro ds e e' h; cases ds with
          | nil => rfl
          | cons _ _ => cases h
        | cons p ps ih => intro ds e e' h; cases ds with
          | nil => cases h
          | cons d ds =>
            simp only [pTs] at h
            split at h
            · cases h
            · simp [ih ds _ _ h]
      exact len ps ds e e' hp
  · cases hp
/-! ### what is walked -/
def YD (K : PySem.W.Frag) (Hf : Hp) (ds : List D) : Nat → Hp → V → Hp → Prop := fun i H x H' => ∃ d, ds[i]? = some d ∧ ((H' = H ∧ Rep K Hf x d) ∨ (∃ T o, H T = none ∧ H' = upd H T o ∧ Rep K (upd Hf T o) x d) ∨ ∃ T xs, H T = some (.tup xs) ∧ H' = H ∧ Rep K (upd Hf T (.tup xs)) x d)
def WkD (K : PySem.W.Frag) (Hf : Hp) (J : It) (ds : List D) : Prop := Walk J ds.length (fun H => Same Hf H) (YD K Hf ds)
def DI (X : Cx) (tg iter : Expr) (m : M (List D)) : Prop := ∃ wi, PI X tg iter wi ∧ ∀ (c : Ct) (σ : L2.St) (H Hf : Hp) (e : DL.Env) (ds : List D) (e' : DL.Env) (R : It → Hp → Prop), c.K = X.K → Rl c σ H Hf e → m e = some (ds, e') →
  (∀ J H' Hf', Rl c σ H' Hf' e' → Same Hf Hf' → WkD X.K Hf' J ds → R J H') → wi σ H R
theorem pi_or {tg iter : Expr} {w1 w2 : TI} (h1 : PI X tg iter w1) (h2 : PI X tg iter w2) : PI X tg iter (fun σ H R => w1 σ H R ∨ w2 σ H R) :=
  ⟨fun pins s σ H R I h => h.elim (h1.run pins s σ H R I) (h2.run pins s σ H R I)⟩
theorem wk_list {K : PySem.W.Frag} {Hf : Hp} {a : Addr} {xs : List V} {ds : List D} (hs : SqL K Hf a xs) (rs : RepL K Hf xs ds) : WkD K Hf (Itl K a) ds := by
  have w := walk_list (K := K) (a := a) (xs := xs)
  rw [rs.length] at w
  refine w.mono (fun H s => sqL_mono s hs) fun i H x H' hi s y => ?_
  obtain ⟨e1, e2⟩ := y
  obtain ⟨d, h1, h2⟩ := rs.getV e2
  exact ⟨d, h1, .inl ⟨e1, h2⟩⟩
theorem wk_tup {K : PySem.W.Frag} {Hf : Hp} {a : Addr} {xs : List V} {ds : List D} (ht : TpA Hf a xs) (rs : RepL K Hf xs ds) : WkD K Hf (Itt K a) ds := by
  have hs : SqT K Hf a xs := ht.sq
  have w := walk_tup (K := K) (a := a) (xs := xs)
  rw [rs.length] at w
  refine w.mono (fun H s => sqT_mono s hs) fun i H x H' hi s y => ?_
  obtain ⟨e1, e2⟩ := y
  obtain ⟨d, h1, h2⟩ := rs.getV e2
  exact ⟨d, h1, .inl ⟨e1, h2⟩⟩
/-- the keys of a locked dict -/
theorem wk_keys {K : PySem.W.Frag} {Hf : Hp} {a : Addr} {o : Obj} {ks : List Ky} {xs : List V} (h : Hf a = some (.frz o (.dK (ks.zip xs)))) (hl : ks.length = xs.length) : WkD K Hf (Itk a o (ks.zip xs)) (ks.map kyD) := by
  have w := walk_keys (d := a) (o := o) (kvs := ks.zip xs)
  unfold WkD
  have e : (ks.map kyD).length = (ks.zip xs).length := by rw [List.length_map, List.length_zip, hl, Nat.min_self]
  rw [e]
  refine w.mono (fun H s => s _ _ h) fun i H x H' hi s y => ?_
  obtain ⟨e1, k, v, e2, e3⟩ := y
  subst e3
  have e4 := (List.getElem?_zip_eq_some.mp e2).1
  exact ⟨kyD k, by rw [List.getElem?_map, e4]; rfl, .inl ⟨e1, kyD_rep k⟩⟩
theorem wk_keysT {K : PySem.W.Frag} {Hf : Hp} {a : Addr} {o : Obj} {ks : List (List Ky)} {xs : List V} (h : Hf a = some (.frz o (.dT (ks.zip xs)))) (hl : ks.length = xs.length) : WkD K Hf (Itkt a o (ks.zip xs)) (ks.map fun k => .tup (k.map kyD)) := by
  have w := walk_keysT (d := a) (o := o) (kvs := ks.zip xs)
  unfold WkD
  have e : (ks.map fun k => D.tup (k.map kyD)).length = (ks.zip xs).length := by rw [List.length_map, List.length_zip, hl, Nat.min_self]
  rw [e]
  refine w.mono (fun H s => s _ _ h) fun i H x H' hi s y => ?_
  obtain ⟨e1, k, v, q, e2, e3, e5⟩ := y
  subst e3
  have e4 := (List.getElem?_zip_eq_some.mp e2).1
  exact ⟨.tup (k.map kyD), by rw [List.getElem?_map, e4]; rfl, .inr (.inr ⟨q, _, e5, e1, .tup (.of upd_same) (kyDs_rep k)⟩)⟩
theorem di_seq {tg a : Expr} {ma : M D} (ha : DE X a ma) : DI X tg a (iSeq ma) := by
  obtain ⟨t, p, s⟩ := ha
  refine ⟨_, pi_or (pi_or (pi_list p) (pi_tup p)) (pi_keys p), fun c σ H Hf e ds e' R hK R0 hm q => ?_⟩
  unfold iSeq at hm
  split at hm
  · rename_i xs e1 h1
    cases hm
    refine .inl (.inl (s c σ H Hf e _ _ _ hK R0 h1 fun v H1 Hf1 R1 S1 V1 => ?_))
    cases V1 with
    | lst hs rs => exact ⟨_, rfl, ⟨_, hK ▸ R1.seqL hs⟩, q _ _ Hf1 R1 S1 (hK ▸ wk_list hs rs)⟩
  · rename_i xs e1 h1
    cases hm
    refine .inl (.inr (s c σ H Hf e _ _ _ hK R0 h1 fun v H1 Hf1 R1 S1 V1 => ?_))
    cases V1 with
    | tup hs rs => exact ⟨_, rfl, ⟨_, hK ▸ R1.seqT hs⟩, q _ _ Hf1 R1 S1 (hK ▸ wk_tup hs rs)⟩
  · rename_i ks vs e1 h1
    cases hm
    refine .inr (s c σ H Hf e _ _ _ hK R0 h1 fun v H1 Hf1 R1 S1 V1 => ?_)
    cases V1 with
    | dK g1 g2 g3 => exact ⟨_, _, rfl, .inl ⟨_, R1.sf _ _ g1, q _ _ Hf1 R1 S1 (wk_keys g1 g2)⟩⟩
  · rename_i ks vs e1 h1
    cases hm
    refine .inr (s c σ H Hf e _ _ _ hK R0 h1 fun v H1 Hf1 R1 S1 V1 => ?_)
    cases V1 with
    | dT g1 g2 g3 => exact ⟨_, _, rfl, .inr ⟨_, R1.sf _ _ g1, q _ _ Hf1 R1 S1 (wk_keysT g1 g2)⟩⟩
  · cases hm
theorem rng_get {a b : Int} {i : Nat} (h : i < (rng a b).length) : (rng a b)[i]? = some (.int (a + (i : Nat))) := by
  unfold rng at *
  simp at h
  simp [h]
theorem rng_len (a b : Int) : (rng a b).length = (b - a).toNat := by simp [rng]
theorem wk_rng {K : PySem.W.Frag} {Hf : Hp} {a b : Int} : WkD K Hf (Itr a (b - a).toNat) (rng a b) := by
  have w := walk_range (lo := a) (n := (b - a).toNat)
  unfold WkD
  rw [rng_len]
  refine w.mono (fun H s => trivial) fun i H x H' hi s y => ?_
  obtain ⟨e1, e2⟩ := y
  subst e2
  exact ⟨_, rng_get (by rw [rng_len]; exact hi), .inl ⟨e1, .int _⟩⟩
section
variable {tg a b cc : Expr} {ma mb : M D} {p pos : Pos}
theorem di_rng1 (ha : DE X a ma) (hm0 : X.mg "range" = none) (hg : Gl X "range" := by rfl) (hs : starEach [a] X.env = [(false, eval a X.env)] := by rfl) : DI X tg (.Call (.Name "range" p) [a] [] pos) (iRng (mC (.int 0)) ma) := by
  obtain ⟨t, pa, s⟩ := ha
  refine ⟨_, pi_range1 hg hm0 (pa_cons pa pa_nil hs) hs, fun c σ H Hf e ds e' R hK R0 hm q => ?_⟩
  unfold iRng mC at hm
  simp only at hm
  split at hm
  · rename_i j e1 h1
    split at hm
    · rename_i hc
      cases hm
      refine s c σ H Hf e _ _ _ hK R0 h1 fun v H1 Hf1 R1 S1 V1 => ⟨j, by rw [V1.int_inv], (inR_ok (Bool.and_eq_true_iff.mp hc).2).1, (inR_ok (Bool.and_eq_true_iff.mp hc).2).2, ?_⟩
      have w := wk_rng (K := X.K) (Hf := Hf1) (a := 0) (b := j)
      rw [Int.sub_zero] at w
      exact q _ _ Hf1 R1 S1 w
    · cases hm
  · cases hm
theorem di_rng2 (ha : DE X a ma) (hb : DE X b mb) (hm0 : X.mg "range" = none) (hg : Gl X "range" := by rfl) (hs : starEach [a, b] X.env = [(false, eval a X.env), (false, eval b X.env)] := by rfl) (hs2 : starEach [b] X.env = [(false, eval b X.env)] := by rfl) : DI X tg (.Call (.Name "range" p) [a, b] [] pos) (iRng ma mb) := by
  obtain ⟨t, pa, s⟩ := ha
  obtain ⟨u, pb, s2⟩ := hb
  refine ⟨_, pi_range2 hg hm0 (pa_cons pa (pa_cons pb pa_nil hs2) (by rw [hs, hs2])) hs hs2, fun c σ H Hf e ds e' R hK R0 hm q => ?_⟩
  unfold iRng at hm
  split at hm
  · rename_i i e1 h1
    split at hm
    · rename_i j e2 h2
      split at hm
      · rename_i hc
        cases hm
        have hc := Bool.and_eq_true_iff.mp hc
        refine s c σ H Hf e _ _ _ hK R0 h1 fun v H1 Hf1 R1 S1 V1 => ?_
        refine s2 c σ H1 Hf1 _ _ _ _ hK R1 h2 fun w H2 Hf2 R2 S2 V2 => ⟨i, j, by rw [V1.int_inv, V2.int_inv], ⟨(inR_ok hc.1).1, (inR_ok hc.1).2, (inR_ok hc.2).1, (inR_ok hc.2).2⟩, ?_⟩
        exact q _ _ Hf2 R2 (S1.trans S2) wk_rng
      · cases hm
    · cases hm
  · cases hm
theorem rngD_len (a b : Int) : (rngD a b).length = (a - b).toNat := by simp [rngD]
theorem wk_rngD {K : PySem.W.Frag} {Hf : Hp} {a b : Int} : WkD K Hf (Itc a (-1) (a - b).toNat) (rngD a b) := by
  have w := walk_rangeC (lo := a) (c := -1) (n := (a - b).toNat)
  unfold WkD
  rw [rngD_len]
  refine w.mono (fun H s => trivial) fun i H x H' hi s y => ?_
  obtain ⟨e1, e2⟩ := y
  subst e2
  refine ⟨_, ?_, .inl ⟨e1, .int _⟩⟩
  unfold rngD
  simp [hi]
/-- range(a, b, -1) -/
theorem di_rngD {n : Nat} {p3 p4 : Pos} (ha : DE X a ma) (hb : DE X b mb) (hm0 : X.mg "range" = none) (hg : Gl X "range" := by rfl)
    (hs : starEach [a, b, .UnaryOp .USub (.Constant (.int 1) n p3) p4] X.env = (false, eval a X.env) :: starEach [b, .UnaryOp .USub (.Constant (.int 1) n p3) p4] X.env := by rfl)
    (hs2 : starEach [b, .UnaryOp .USub (.Constant (.int 1) n p3) p4] X.env = (false, eval b X.env) :: starEach [.UnaryOp .USub (.Constant (.int 1) n p3) p4] X.env := by rfl)
    (hs3 : starEach [.UnaryOp .USub (.Constant (.int 1) n p3) p4] X.env = (false, eval (.UnaryOp .USub (.Constant (.int 1) n p3) p4) X.env) :: starEach [] X.env := by rfl)
    (hpl : (backTo pos (starEach [b, .UnaryOp .USub (.Constant (.int 1) n p3) p4] X.env)).any (·.1) = false := by rfl) : DI X tg (.Call (.Name "range" p) [a, b, .UnaryOp .USub (.Constant (.int 1) n p3) p4] [] pos) (iRngD ma mb) := by
  obtain ⟨t, pa, s⟩ := ha
  obtain ⟨u, pb, s2⟩ := hb
  refine ⟨_, pi_range3 hg hm0 (pa_cons pa (pa_cons pb (pa_cons (pe_un un_neg pe_int) pa_nil hs3) hs2) hs) hs hpl, fun c σ H Hf e ds e' R hK R0 hm q => ?_⟩
  unfold iRngD at hm
  split at hm
  · rename_i i e1 h1
    split at hm
    · rename_i j e2 h2
      split at hm
      · rename_i hc
        cases hm
        have hc := Bool.and_eq_true_iff.mp hc
        refine s c σ H Hf e _ _ _ hK R0 h1 fun v H1 Hf1 R1 S1 V1 => ?_
        refine s2 c σ H1 Hf1 _ _ _ _ hK R1 h2 fun w H2 Hf2 R2 S2 V2 => ⟨1, rfl, i, j, -1, (i - j).toNat, by rw [V1.int_inv, V2.int_inv], .neg (inR_ok hc.1).1 (inR_ok hc.1).2 (inR_ok hc.2).1 (inR_ok hc.2).2, ?_⟩
        exact q _ _ Hf2 R2 (S1.trans S2) wk_rngD
      · cases hm
    · cases hm
  · cases hm
theorem zipD_len : ∀ xs ys : List D, (zipD xs ys).length = min xs.length ys.length
  | [], _ => by simp [zipD]
  | _ :: _, [] => by simp [zipD]
  | x :: xs, y :: ys => by simp only [zipD, List.length_cons, zipD_len xs ys]; omega
theorem zipD_get : ∀ {xs ys : List D} {i : Nat} {x y : D}, xs[i]? = some x → ys[i]? = some y → (zipD xs ys)[i]? = some (.tup [x, y])
  | [], _, _, _, _, h, _ => by simp at h
  | _ :: _, [], _, _, _, _, h => by simp at h
  | a :: xs, b :: ys, 0, x, y, h, h2 => by simp at h h2; subst h h2; rfl
  | a :: xs, b :: ys, i + 1, x, y, h, h2 => by
    simp only [zipD, List.getElem?_cons_succ]
    exact zipD_get (by simpa using h) (by simpa using h2)
theorem pair_rep {K : PySem.W.Frag} {Hf H : Hp} {T : Addr} {x y : V} {dx dy : D} (hn : H T = none) (s : Same Hf H) (hx : Rep K Hf x dx) (hy : Rep K Hf y dy) : Rep K (upd Hf T (.tup [x, y])) (.ref T) (.tup [dx, dy]) := by
  have sm := same_new (none_sub s hn) (o := HO.tup [x, y])
  exact .tup (.of upd_same) (.cons (hx.mono sm) (.cons (hy.mono sm) .nil))
theorem wk_zip {K : PySem.W.Frag} {Hf : Hp} {a b : Addr} {xs ys : List V} {ds es : List D} (h1 : SqL K Hf a xs) (r1 : RepL K Hf xs ds) (h2 : SqL K Hf b ys) (r2 : RepL K Hf ys es) : WkD K Hf (Itz K a b) (zipD ds es) := by
  have w := walk_zip (K := K) (a := a) (b := b) (xs := xs) (ys := ys) (n := (zipD ds es).length) (by rw [zipD_len, r1.length, r2.length])
  refine w.mono (fun H s => ⟨sqL_mono s h1, sqL_mono s h2⟩) fun i H v H' hi s y => ?_
  obtain ⟨T, x, y, rfl, hn, rfl, g1, g2⟩ := y
  obtain ⟨dx, k1, k2⟩ := r1.getV g1
  obtain ⟨dy, l1, l2⟩ := r2.getV g2
  exact ⟨_, zipD_get k1 l1, .inr (.inl ⟨T, _, hn, rfl, pair_rep hn s k2 l2⟩)⟩
theorem wk_zipT {K : PySem.W.Frag} {Hf : Hp} {a b : Addr} {xs ys : List V} {ds es : List D} (g1 : TpA Hf a xs) (r1 : RepL K Hf xs ds) (g2 : TpA Hf b ys) (r2 : RepL K Hf ys es) : WkD K Hf (RZ.ItzT K a b) (zipD ds es) := by
  have h1 : SqT K Hf a xs := g1.sq
  have h2 : SqT K Hf b ys := g2.sq
  have hl : (zipD ds es).length = min xs.length ys.length := by rw [zipD_len, r1.length, r2.length]
  refine ⟨fun i H hi s => ?_, fun H s => ?_, fun i H v H' hi s y => ?_⟩
  · exact ⟨xs, ys, xs[i]'(by omega), ys[i]'(by omega), sqT_mono s h1, sqT_mono s h2, List.getElem?_eq_getElem (by omega), List.getElem?_eq_getElem (by omega)⟩
  · exact ⟨xs, ys, sqT_mono s h1, sqT_mono s h2, by omega⟩
  · obtain ⟨T, x, y, rfl, hn, rfl, g1, g2⟩ := y
    obtain ⟨dx, k1, k2⟩ := r1.getV (g1 xs (sqT_mono s h1))
    obtain ⟨dy, l1, l2⟩ := r2.getV (g2 ys (sqT_mono s h2))
    exact ⟨_, zipD_get k1 l1, .inr (.inl ⟨T, _, hn, rfl, pair_rep hn s k2 l2⟩)⟩
theorem di_zip {elts : List Expr} {kk : Nat} {tpos : Pos} (ha : DE X a ma) (hb : DE X b mb) (hm0 : X.mg "zip" = none) (hg : Gl X "zip" := by rfl) (hs : starEach [a, b] X.env = (false, eval a X.env) :: starEach [b] X.env := by rfl) (hs2 : starEach [b] X.env = (false, eval b X.env) :: starEach [] X.env := by rfl)
    (hpl : (backTo pos (starEach [b] X.env)).any (·.1) = false := by rfl) : DI X (.Tuple elts kk tpos) (.Call (.Name "zip" p) [a, b] [] pos) (iZip ma mb) := by
  obtain ⟨t, pa, s⟩ := ha
  obtain ⟨u, pb, s2⟩ := hb
  refine ⟨_, RZ.pi_zipA hg hm0 (pa_cons pa (pa_cons pb pa_nil hs2) hs) hs hpl, fun c σ H Hf e ds e' R hK R0 hm q => ?_⟩
  unfold iZip at hm
  split at hm
  · rename_i xs e1 h1
    split at hm
    · rename_i ys e2 h2
      cases hm
      refine s c σ H Hf e _ _ _ hK R0 h1 fun v H1 Hf1 R1 S1 V1 => ?_
      refine s2 c σ H1 Hf1 _ _ _ _ hK R1 h2 fun w H2 Hf2 R2 S2 V2 => ?_
      have V1 := V1.mono S2
      cases V1 with
      | lst g1 r1 =>
        cases V2 with
        | lst g2 r2 => exact ⟨_, _, _, _, rfl, .inl ⟨hK ▸ R2.seqL g1, hK ▸ R2.seqL g2, q _ _ Hf2 R2 (S1.trans S2) (hK ▸ wk_zip g1 r1 g2 r2)⟩⟩
    · cases hm
  · rename_i xs e1 h1
    split at hm
    · rename_i ys e2 h2
      cases hm
      refine s c σ H Hf e _ _ _ hK R0 h1 fun v H1 Hf1 R1 S1 V1 => ?_
      refine s2 c σ H1 Hf1 _ _ _ _ hK R1 h2 fun w H2 Hf2 R2 S2 V2 => ?_
      have V1 := V1.mono S2
      cases V1 with
      | tup g1 r1 =>
        cases V2 with
        | tup g2 r2 => exact ⟨_, _, _, _, rfl, .inr ⟨hK ▸ R2.seqT g1, hK ▸ R2.seqT g2, q _ _ Hf2 R2 (S1.trans S2) (hK ▸ wk_zipT g1 r1 g2 r2)⟩⟩
    · cases hm
  · cases hm
/-! ### enumerate of a tuple: the library's rules for an enumerate over anything that is drawn -/
end
end DL

namespace DL
open PySem PySem.Spec PyProof.Rows L2
variable {X : Cx} {k : Nat}
theorem upd_upd_same {H : Hp} {q : Addr} {o : HO} (h : H q = some o) : upd H q o = H := by
  funext b
  by_cases z : b = q
  · subst z; rw [upd_same, h]
  · rw [upd_ne z]
theorem same_upd {H H' : Hp} (s : Same H H') (T : Addr) (o : HO) : Same (upd H T o) (upd H' T o) := fun b x q => by
  by_cases z : b = T
  · subst z; rw [upd_same] at q ⊢; exact q
  · rw [upd_ne z] at q ⊢; exact s b x q
/-- an item has come -/
theorem Rl.item {c : Ct} {σ : L2.St} {H Hf Hf1 H' : Hp} {e : DL.Env} {ds : List D} {i : Nat} {x : V} (R : Rl c σ H Hf e) (s : Same Hf1 Hf) (y : YD c.K Hf1 ds i H x H') :
    ∃ Hf' d, Rl c σ H' Hf' e ∧ Same Hf Hf' ∧ Rep c.K Hf' x d ∧ ds[i]? = some d ∧ (∀ b o, H b = some o → H' b = some o) ∧ ∀ b o, H b = some o → (∀ ys, o ≠ .tup ys) → Hf b = none → Hf' b = none := by
  obtain ⟨d, h1, ⟨rfl, h2⟩ | ⟨T, o, hn, rfl, h2⟩ | ⟨T, xs, hn, rfl, h2⟩⟩ := y
  · exact ⟨Hf, d, R, Same.refl _, h2.mono s, h1, fun _ _ q => q, fun _ _ _ _ q => q⟩
  · exact ⟨upd Hf T o, d, R.alloc hn, same_new (none_sub R.sf hn), h2.mono (same_upd s T o), h1, same_new hn, fun b o q _ q2 => by rw [upd_ne (ne_of_none q hn)]; exact q2⟩
  · obtain ⟨R1, S1⟩ := R.settleT hn
    exact ⟨upd Hf T (.tup xs), d, R1, S1, h2.mono (same_upd s T (.tup xs)), h1, fun _ _ q => q, fun b o q nt q2 => by rw [upd_ne (fun z => by subst z; rw [hn] at q; exact nt xs (Option.some.inj q).symm)]; exact q2⟩
/-! ### comprehensions -/
theorem drop_cons {ds : List D} {i : Nat} {d : D} (h : ds[i]? = some d) : ds.drop i = d :: ds.drop (i + 1) := by
  have hi : i < ds.length := (List.getElem?_eq_some_iff.mp h).1
  rw [List.drop_eq_getElem_cons hi]
  have := (List.getElem?_eq_some_iff.mp h).2
  rw [this]
/-- the state between two turns of a comprehension -/
structure LcAt (c : Ct) (σw : L2.St) (Hf1 : Hp) (vs : List Nat) (q0 : Addr) (p : Pt) (t : M Bool) (elt : M D) (ds res : List D) (e2 : DL.Env) (i : Nat) (H : Hp) (Hf : Hp) (e : DL.Env) (acc : List D) (us : List V) : Prop where
  r : Rl c σw H Hf (wipeE e vs)
  s : Same Hf1 Hf
  h : H q0 = some (.lst us)
  f : Hf q0 = none
  z : c.H0 q0 = none
  n : ∀ (j : Nat) (ys : List D), (wipeE e vs)[j]? = some (.ow ys) → σw[j]? = some (some (.ref q0)) → False
  l : RepL c.K Hf us acc
  g : compL vs p t elt (ds.drop i) e acc = some (res, e2)
/-- one turn: the target, the test, the element -/
theorem lc_turn {tt : TT} {te : TE} {K : PySem.W.Frag} {c : Ct} {σ : L2.St} {Hf1 : Hp} {vs is : List Nat} {q0 : Addr} {p : Pt} {t : M Bool} {elt : M D} {ds res : List D} {e2 : DL.Env} {i : Nat} {x : V} {H H' Hf : Hp} {e : DL.Env} {acc : List D} {us : List V}
    (hK : c.K = K) (h0 : 0 ∉ vs) (his : ∀ i ∈ is, i ∈ vs) (A : LcAt c (wipe σ vs) Hf1 vs q0 p t elt ds res e2 i H Hf e acc us) (hy : YD K Hf1 ds i H x H')
    (ht : ∀ σ H Q, cT K t σ H Q → tt σ H Q) (he : ∀ σ H Q, cE K elt σ H Q → te σ H Q) :
    gPt K p is x (wipe σ vs) H' fun σ2 H2 => wipe σ2 vs = wipe σ vs ∧ tt σ2 H2 fun b H3 =>
      if b = true then te σ2 H3 fun y H4 => ∃ acc, H4 q0 = some (.lst acc) ∧ acc.length < sizeLine ∧ ∃ Hf e acc' us, LcAt c (wipe σ vs) Hf1 vs q0 p t elt ds res e2 (i + 1) (upd H4 q0 (.lst (acc ++ [y]))) Hf e acc' us
      else ∃ Hf e acc' us, LcAt c (wipe σ vs) Hf1 vs q0 p t elt ds res e2 (i + 1) H3 Hf e acc' us := by
  subst hK
  obtain ⟨Hf', d, R1, S1, V1, hd, k1, k2⟩ := A.r.item A.s hy
  have g := A.g
  rw [drop_cons hd] at g
  unfold compL at g
  have hq : H' q0 = some (.lst us) := k1 _ _ A.h
  have hfq : Hf' q0 = none := k2 _ _ A.h (fun _ z => nomatch z) A.f
  -- from any state of the block back to the state around it
  have back : ∀ (σ2 : L2.St) (H3 Hf3 : Hp) (e3 : DL.Env), wipe σ2 vs = wipe σ vs → Rl (c.blk (wipe σ vs) H' Hf' (wipeE e vs)) σ2 H3 Hf3 e3 → Rl c (wipe σ vs) H3 Hf3 (wipeE e3 vs) ∧ H3 q0 = some (.lst us) ∧ Hf3 q0 = none ∧
      ∀ (j : Nat) (ys : List D), (wipeE e3 vs)[j]? = some (.ow ys) → (wipe σ vs)[j]? = some (some (.ref q0)) → False := fun σ2 H3 Hf3 e3 w R3 => by
    have no : ¬ (c.blk (wipe σ vs) H' Hf' (wipeE e vs)).own q0 := fun h => h.elim (fun ⟨j, xs, q1, q2⟩ => A.n j xs q1 q2) fun ⟨j, x, q1, q2⟩ => R1.lst_noD hq j x q1 q2
    have R4 := R3.wipe h0
    rw [w] at R4
    refine ⟨R1.leave R4, R3.fr _ _ hq no, ?_, fun j ys q1 q2 => ?_⟩
    · cases z : Hf3 q0 with
      | none => rfl
      | some o =>
        rcases R3.nw _ _ z with y | y | ⟨ys, rfl⟩
        · rw [show (c.blk (wipe σ vs) H' Hf' (wipeE e vs)).Hf0 q0 = Hf' q0 from rfl, hfq] at y; cases y
        · rw [show (c.blk (wipe σ vs) H' Hf' (wipeE e vs)).H0 q0 = H' q0 from rfl, hq] at y; cases y
        · have y := R3.sf _ _ z; rw [R3.fr _ _ hq no] at y; cases y
    · obtain ⟨a, us', f1, _, f3, _, _⟩ := R4.ownAt q1
      rw [q2] at f1
      cases f1
      rcases f3 with f3 | f3
      · exact no f3
      · rw [show (c.blk (wipe σ vs) H' Hf' (wipeE e vs)).H0 q0 = H' q0 from rfl, hq] at f3; cases f3
  split at g
  · cases g
  rename_i e1 h1
  refine ⟨c.blk (wipe σ vs) H' Hf' (wipeE e vs), Hf', wipeE e vs, d, e1, rfl, R1.enter, .inl fun y => h0 (his 0 y), V1, h1, fun σ2 R2 w2 => ?_⟩
  have w2 := (w2 vs his).trans (wipe_wipe σ vs)
  refine ⟨w2, ?_⟩
  split at g
  · cases g
  · rename_i e3 h2
    refine ht _ _ _ ⟨c.blk (wipe σ vs) H' Hf' (wipeE e vs), Hf', e1, false, e3, rfl, R2, h2, fun H3 Hf3 R3 S3 => ?_⟩
    dsimp only
    rw [if_neg Bool.false_ne_true]
    obtain ⟨b1, b2, b3, b4⟩ := back σ2 H3 Hf3 e3 w2 R3
    exact ⟨Hf3, e3, acc, us, b1, A.s.trans (S1.trans S3), b2, b3, A.z, b4, (A.l.mono S1).mono S3, g⟩
  · rename_i e3 h2
    refine ht _ _ _ ⟨c.blk (wipe σ vs) H' Hf' (wipeE e vs), Hf', e1, true, e3, rfl, R2, h2, fun H3 Hf3 R3 S3 => ?_⟩
    dsimp only
    rw [if_pos rfl]
    split at g
    · cases g
    rename_i y e4 h3
    refine he _ _ _ ⟨c.blk (wipe σ vs) H' Hf' (wipeE e vs), Hf3, e3, y, e4, rfl, R3, h3, fun v H4 Hf4 R4 S4 V4 => ?_⟩
    split at g
    · rename_i hc
      obtain ⟨b1, b2, b3, b4⟩ := back σ2 H4 Hf4 e4 w2 R4
      have l4 := ((A.l.mono S1).mono S3).mono S4
      refine ⟨us, b2, by rw [l4.length]; exact hc, Hf4, e4, _, us ++ [v], b1.bump A.z b3 b4 (b1.lst_noD b2), A.s.trans (S1.trans (S3.trans S4)), upd_same, b3, A.z, b4, l4.app (.cons V4 .nil), g⟩
    · cases g
variable {tg iter elt : Expr} {ifs : List Expr} {scope : Scope} {own : List (Str × Nat)} {mi : M (List D)} {p : Pt} {is : List Nat} {mt : M Bool} {me : M D} {pos spos : Pos}
theorem lc_sound {wi : TI} (O : XO X k) (si : ∀ (c : Ct) (σ : L2.St) (H Hf : Hp) (e : DL.Env) (ds : List D) (e' : DL.Env) (R : It → Hp → Prop), c.K = X.K → Rl c σ H Hf e → mi e = some (ds, e') → (∀ J H' Hf', Rl c σ H' Hf' e' → Same Hf Hf' → WkD X.K Hf' J ds → R J H') → wi σ H R)
    (vs : List Nat) (h0 : 0 ∉ vs) (his : ∀ i ∈ is, i ∈ vs) (c : Ct) (σ : L2.St) (H Hf : Hp) (e : DL.Env) (xs : List D) (e' : DL.Env) (Q : VK) (hK : c.K = X.K) (R : Rl c σ H Hf e) (hm : mComp vs mi p mt me e = some (xs, e'))
    (q : ∀ a us H' Hf', Rl c σ H' Hf' e' → Same Hf Hf' → NewAt c σ H' Hf' e' a us → RepL c.K Hf' us xs → Q (.ref a) H') : tLc wi (gPt X.K p is) (cT X.K mt) (cE X.K me) vs σ H Q := by
  unfold mComp at hm
  split at hm
  · cases hm
  rename_i ds e1 h1
  split at hm
  · cases hm
  rename_i acc e2 h2
  cases hm
  refine si c σ H Hf e ds e1 _ hK R h1 fun J H1 Hf1 R1 S1 W => fun q0 hq0 => ?_
  have z := R1.h0 hq0
  have f1 := none_sub R1.sf hq0
  refine lc_it W (Pv := fun i H' => ∃ Hf' e' acc us, LcAt c (wipe σ vs) Hf1 vs q0 p mt me ds xs e2 i H' Hf' e' acc us) ?_ (fun i H' _ ⟨Hf', e', acc, us, A⟩ => A.s.trans A.r.sf) (fun i x H' H'' hi ⟨Hf', e', acc, us, A⟩ y => ?_) (fun H' ⟨Hf', e', acc, us, A⟩ => ?_)
  · refine ⟨Hf1, wipeE e1 vs, [], [], ?_, Same.refl _, upd_same, f1, z, fun j ys q1 q2 => ?_, .nil, by rw [List.drop_zero]; exact h2⟩
    · rw [wipeE_wipeE]; exact (R1.track hq0).wipe h0
    · rw [wipeE_wipeE] at q1
      obtain ⟨q2, n⟩ := wipe_in q2
      rw [wipeE_out n] at q1
      exact R1.new_no hq0 j ys q1 q2
  · exact lc_turn hK h0 his A y (fun _ _ _ h => h) (fun _ _ _ h => h)
  · have g := A.g
    rw [List.drop_length] at g
    have g' : some (acc, e') = some (xs, e2) := g
    cases g'
    have R2 := R1.unwipe h0 A.s A.r
    refine q q0 us H' Hf' R2 (S1.trans A.s) ⟨A.h, A.f, z, fun j ys q1 q2 => ?_⟩ A.l
    by_cases n : j ∈ vs
    · rcases backE_in n q1 with y | ⟨d, y, _⟩ <;> cases y
    · rw [backE_out n] at q1
      exact A.n j ys (by rw [wipeE_out n]; exact q1) (by rw [wipe_out n]; exact q2)
/-- [elt for tg in iter if ..] -/
theorem dn_comp (O : XO X k) (hi : DI X tg iter mi) (ok : BlkOk X.N X.env.scope scope own)
    (hg : ∀ (s : Shared) (H : Hp) (C : Addr) (cl : List (Str × Addr)) (fp : List Addr), XO (X.blk s H scope (compEnvC scope cl C X.env) fp) k → DPt (X.blk s H scope (compEnvC scope cl C X.env) fp) tg p is)
    (ht : ∀ (s : Shared) (H : Hp) (C : Addr) (cl : List (Str × Addr)) (fp : List Addr), XO (X.blk s H scope (compEnvC scope cl C X.env) fp) k → DTs (X.blk s H scope (compEnvC scope cl C X.env) fp) ifs mt)
    (he : ∀ (s : Shared) (H : Hp) (C : Addr) (cl : List (Str × Addr)) (fp : List Addr), XO (X.blk s H scope (compEnvC scope cl C X.env) fp) k → DE (X.blk s H scope (compEnvC scope cl C X.env) fp) elt me)
    (h0 : 0 ∉ own.map (·.2) := by decide) (his : ∀ i ∈ is, i ∈ own.map (·.2) := by decide) (hs : ∀ x, foldedSetIterable iter X.env x = pure x := by intro _; rfl) : DN X (.ListComp elt [⟨tg, iter, ifs, 0⟩] scope pos) (mComp (own.map (·.2)) mi p mt me) := by
  obtain ⟨wi, pI, si⟩ := hi
  have bo : ∀ (s : Shared) (H : Hp) (C : Addr) (cl : List (Str × Addr)) (fp : List Addr), XO (X.blk s H scope (compEnvC scope cl C X.env) fp) k := fun s H C cl fp => ⟨O.calm, O.nd, O.room, PassesOwn.never⟩
  exact ⟨_, pe_lc (g := gPt X.K p is) (tt := cT X.K mt) (te := cE X.K me) O.calm O.nd pI ok (fun s H C cl fp => hg s H C cl fp (bo s H C cl fp)) (fun s H C cl fp => ht s H C cl fp (bo s H C cl fp)) (fun s H C cl fp => (he s H C cl fp (bo s H C cl fp)).can) hs, fun c σ H Hf e xs e' Q hK R hm q => lc_sound O si _ h0 his c σ H Hf e xs e' Q hK R hm q⟩
/-! ### statements -/
/-- what is wanted behind a statement -/
def RvR (c : Ct) (H Hf : Hp) (v : V) : Rv → Prop
  | .im d => Rep c.K Hf v d
  | .ow xs => ∃ p us, v = .ref p ∧ Hf p = none ∧ c.H0 p = none ∧ H p = some (.lst us) ∧ RepL c.K Hf us xs
def SPost (c : Ct) (Hf : Hp) (e' : DL.Env) (Dn : Ends) : Fl → Prop
  | .nx => ∀ σ' H' Hf', Rl c σ' H' Hf' e' → Same Hf Hf' → Dn.nx σ' H'
  | .bk => ∀ σ' H' Hf', Rl c σ' H' Hf' e' → Same Hf Hf' → Dn.bk σ' H'
  | .ct => ∀ σ' H' Hf', Rl c σ' H' Hf' e' → Same Hf Hf' → Dn.ct σ' H'
  | .ret r => ∀ v σ' H' Hf', Rl c σ' H' Hf' e' → Same Hf Hf' → RvR c H' Hf' v r → Dn.rt v H'
/-- a def's context; b: slot 0 is the caller's list -/
structure Fc (b : Bool) (X : Cx) (c : Ct) : Prop where
  k : c.K = X.K
  o : c.own = fun a => c.pin = some a
  p : b = false → c.pin = none
def SSnd (b : Bool) (X : Cx) (t : TS) (m : Ms) : Prop := ∀ (c : Ct) (σ : L2.St) (H Hf : Hp) (e : DL.Env) (f : Fl) (e' : DL.Env) (Dn : Ends), Fc b X c → Rl c σ H Hf e → m e = some (f, e') → SPost c Hf e' Dn f → t Dn σ H
def DSt (b : Bool) (X : Cx) (st : Stmt) (m : Ms) : Prop := ∃ t, PS X st t ∧ SSnd b X t m
def DSs (b : Bool) (X : Cx) (st : List Stmt) (m : Ms) : Prop := ∃ t, PSs X st t ∧ SSnd b X t m
variable {b : Bool} {st : Stmt} {rest body : List Stmt} {m m2 : Ms}
theorem SPost.mono {c : Ct} {Hf Hf1 : Hp} {e' : DL.Env} {Dn : Ends} : ∀ {f : Fl}, SPost c Hf e' Dn f → Same Hf Hf1 → SPost c Hf1 e' Dn f
  | .nx, h, s => fun σ' H' Hf' R S => h σ' H' Hf' R (s.trans S)
  | .bk, h, s => fun σ' H' Hf' R S => h σ' H' Hf' R (s.trans S)
  | .ct, h, s => fun σ' H' Hf' R S => h σ' H' Hf' R (s.trans S)
  | .ret r, h, s => fun v σ' H' Hf' R S => h v σ' H' Hf' R (s.trans S)
theorem dss_nil : DSs b X [] sPass := ⟨_, pss_nil, fun c σ H Hf e f e' Dn F R hm q => by cases hm; exact q σ H Hf R (Same.refl _)⟩
theorem dss_one (h : DSt b X st m) : DSs b X [st] m := by
  obtain ⟨t, p, s⟩ := h
  exact ⟨t, pss_one p, s⟩
theorem dss_cons (h : DSt b X st m) (h2 : DSs b X rest m2) : DSs b X (st :: rest) (sSeq m m2) := by
  obtain ⟨t, p, s⟩ := h
  obtain ⟨t2, p2, s2⟩ := h2
  refine ⟨_, pss_cons p p2, fun c σ H Hf e f e' Dn F R hm q => ?_⟩
  unfold sSeq at hm
  split at hm
  · cases hm
  · rename_i e1 h1
    exact s c σ H Hf e .nx e1 _ F R h1 fun σ' H' Hf' R' S' => s2 c σ' H' Hf' e1 f e' Dn F R' hm (q.mono S')
  · rename_i f1 e1 hn h1
    cases hm
    refine s c σ H Hf e _ _ _ F R h1 ?_
    cases f with
    | nx => exact (hn rfl).elim
    | bk => exact q
    | ct => exact q
    | ret r => exact q
theorem ds_pass : DSt b X (.Pass pos) sPass := ⟨_, ps_pass, fun c σ H Hf e f e' Dn F R hm q => by cases hm; exact q σ H Hf R (Same.refl _)⟩
theorem ds_break : DSt b X (.Break pos) sBreak := ⟨_, ps_break, fun c σ H Hf e f e' Dn F R hm q => by cases hm; exact q σ H Hf R (Same.refl _)⟩
theorem ds_continue : DSt b X (.Continue pos) sCont := ⟨_, ps_continue, fun c σ H Hf e f e' Dn F R hm q => by cases hm; exact q σ H Hf R (Same.refl _)⟩
/-- a statement that is never reached (a raise of a way that cannot be) -/
theorem ds_never : DSt b X st sNever := ⟨_, ps_never, fun c σ H Hf e f e' Dn F R hm q => by cases hm⟩
section
variable {ex a ec : Expr} {ma : M D} {mn : M (List D)} {tA : M Bool}
theorem ds_ret (h : DE X ex ma) : DSt b X (.Return (some ex) pos) (sRet ma) := by
  obtain ⟨t, p, s⟩ := h
  refine ⟨_, ps_ret p, fun c σ H Hf e f e' Dn F R hm q => ?_⟩
  unfold sRet at hm
  split at hm
  · cases hm
  rename_i d e1 h1
  cases hm
  exact s c σ H Hf e _ _ _ F.k R h1 fun v H' Hf' R' S' V' => q v σ H' Hf' R' S' V'
theorem ds_retN (h : DN X ex mn) : DSt b X (.Return (some ex) pos) (sRetN mn) := by
  obtain ⟨t, p, s⟩ := h
  refine ⟨_, ps_ret p, fun c σ H Hf e f e' Dn F R hm q => ?_⟩
  unfold sRetN at hm
  split at hm
  · cases hm
  rename_i d e1 h1
  cases hm
  exact s c σ H Hf e _ _ _ F.k R h1 fun a us H' Hf' R' S' N' V' => q _ σ H' Hf' R' S' ⟨a, us, rfl, N'.f, N'.z, N'.h, V'⟩
/-- return own: the list of slot i, which is not the caller's -/
theorem ds_retO {y : Str} {py : Pos} (i : Nat) (hN : X.N[i]? = some y := by rfl) (hb : (b && i == 0) = false := by rfl) (hv : Vis X.env.scope y := by first | exact Or.inl rfl | exact Or.inr (Or.inl rfl) | exact Or.inr (Or.inr rfl))
    (hd : (y == ("__debug__" : Str)) = false := by decide) (hcd : (y == ("__classdict__" : Str)) = false := by decide) : DSt b X (.Return (some (.Name y py)) pos) (sRetO i) := by
  refine ⟨_, ps_ret (pe_var hN hv hd hcd), fun c σ H Hf e f e' Dn F R hm q => ?_⟩
  unfold sRetO at hm
  split at hm
  · rename_i xs h1
    cases hm
    obtain ⟨p, us, z1, z2, z3, z4, z5⟩ := R.ownAt h1
    refine ⟨_, z1, q _ σ H Hf R (Same.refl _) ⟨p, us, rfl, z2, ?_, z4, z5⟩⟩
    rcases z3 with z | z
    · rw [F.o] at z
      obtain ⟨k1, ys, k2⟩ := R.p0 p z
      by_cases n : i = 0
      · subst n
        cases b with
        | false => rw [F.p rfl] at z; cases z
        | true => cases hb
      · exact (R.ap 0 i p ys xs (Ne.symm n) k2 h1 k1 z1).elim
    · exact z
  · cases hm
theorem ds_expr (h : DE X ex ma) (hs : swapsWith ex none pos.line X.env = pure false := by rfl) : DSt b X (.Expr ex pos) (sExpr ma) := by
  obtain ⟨t, p, s⟩ := h
  refine ⟨_, ps_expr p hs, fun c σ H Hf e f e' Dn F R hm q => ?_⟩
  unfold sExpr at hm
  split at hm
  · cases hm
  rename_i d e1 h1
  cases hm
  exact s c σ H Hf e _ _ _ F.k R h1 fun v H' Hf' R' S' V' => q σ H' Hf' R' S'
theorem pin_ok {c : Ct} {is : List Nat} (F : Fc b X c) (hb : (b && is.contains 0) = false) : 0 ∉ is ∨ c.pin = none := by
  cases b with
  | false => exact .inr (F.p rfl)
  | true =>
    left
    intro h
    have : is.contains 0 = true := by simpa using h
    rw [this] at hb
    cases hb
/-- tg = e -/
theorem ds_asg (h : DE X ex ma) (hg : DPt X tg p is) (hb : (b && is.contains 0) = false := by rfl) (hs : swapsWithSole [tg] ex pos.line X.env = pure false := by rfl) (hw : swappedStores [tg] ex X.env = pure none := by rfl) (h1 : (assignEach [tg] X.env).map (·.2) = [assign tg X.env] := by rfl) : DSt b X (.Assign [tg] ex pos) (sSet p ma) := by
  obtain ⟨t, pp, s⟩ := h
  refine ⟨_, ps_asg pp hg hs hw h1, fun c σ H Hf e f e' Dn F R hm q => ?_⟩
  unfold sSet at hm
  split at hm
  · cases hm
  rename_i d e1 h1
  split at hm
  · cases hm
  rename_i e2 h2
  cases hm
  refine s c σ H Hf e _ _ _ F.k R h1 fun v H' Hf' R' S' V' => ?_
  exact ⟨c, Hf', e1, d, _, F.k, R', pin_ok F hb, V', h2, fun σ' R'' _ => q σ' H' Hf' R'' S'⟩
/-- x = e by the rule for one name -/
theorem ds_set {x : Str} {pos' : Pos} (O : XO X k) (i : Nat) (h : DE X ex ma) (hi : X.N[i]? = some x := by rfl) (hb : (b && i == 0) = false := by rfl) (hx : Loc X.env.scope x := by first | exact Or.inl rfl | exact Or.inr rfl) (hs : swapsWith ex (some (.Name x pos')) pos.line X.env = pure false := by rfl)
    (hf : X.fn x = true ∨ X.env.scope.names.lookup x = some .local := by first | exact .inl rfl | exact .inr rfl) : DSt b X (.Assign [.Name x pos'] ex pos) (sSet (pN i) ma) := by
  obtain ⟨t, pp, s⟩ := h
  refine ⟨_, ps_set (i := i) O.nd hi hx pp hs hf, fun c σ H Hf e f e' Dn F R hm q => ?_⟩
  unfold sSet at hm
  split at hm
  · cases hm
  rename_i d e1 h1
  unfold pN at hm
  split at hm
  · cases hm
  rename_i e2 h2
  cases hm
  split at h2
  · rename_i hl
    cases h2
    refine s c σ H Hf e _ _ _ F.k R h1 fun v H' Hf' R' S' V' => q _ H' Hf' (R'.set hl V' ?_) S'
    by_cases n : i = 0
    · subst n
      cases b with
      | false => exact .inr (F.p rfl)
      | true => cases hb
    · exact .inl n
  · cases h2
theorem setN_core {c : Ct} {σ : L2.St} {H' Hf' : Hp} {e1 : DL.Env} {i : Nat} {a : Addr} {us : List V} {xs : List D} (F : Fc b X c) (hb : (b && i == 0) = false) (hl : i < e1.length) (R' : Rl c σ H' Hf' e1) (N' : NewAt c σ H' Hf' e1 a us) (V' : RepL c.K Hf' us xs) : Rl c (σ.set i (some (.ref a))) H' Hf' (e1.set i (.ow xs)) := by
  refine R'.setN hl N'.h N'.f N'.z V' ?_ N'.n
  by_cases n : i = 0
  · subst n
    cases b with
    | false => exact .inr (F.p rfl)
    | true => cases hb
  · exact .inl n
/-- x = a new list -/
theorem ds_new {x : Str} {pos' : Pos} (O : XO X k) (i : Nat) (h : DN X ex mn) (hi : X.N[i]? = some x := by rfl) (hb : (b && i == 0) = false := by rfl) (hx : Loc X.env.scope x := by first | exact Or.inl rfl | exact Or.inr rfl) (hs : swapsWith ex (some (.Name x pos')) pos.line X.env = pure false := by rfl)
    (hf : X.fn x = true ∨ X.env.scope.names.lookup x = some .local := by first | exact .inl rfl | exact .inr rfl) : DSt b X (.Assign [.Name x pos'] ex pos) (sNew i mn) := by
  obtain ⟨t, pp, s⟩ := h
  refine ⟨_, ps_set (i := i) O.nd hi hx pp hs hf, fun c σ H Hf e f e' Dn F R hm q => ?_⟩
  unfold sNew at hm
  split at hm
  · cases hm
  rename_i xs e1 h1
  split at hm
  · rename_i hl
    cases hm
    exact s c σ H Hf e _ _ _ F.k R h1 fun a us H' Hf' R' S' N' V' => q _ H' Hf' (setN_core F hb hl R' N' V') S'
  · cases hm
end
/-- x = [..] on one line, x a local: the store is part of the comprehension -/
theorem ds_setLc {y : Str} {py : Pos} (O : XO X k) (i : Nat) (hi : DI X tg iter mi) (ok : BlkOk X.N X.env.scope scope own)
    (hg : ∀ (s : Shared) (H : Hp) (C : Addr) (cl : List (Str × Addr)) (fp : List Addr), XO (X.blk s H scope (compEnvC scope cl C X.env) fp) k → DPt (X.blk s H scope (compEnvC scope cl C X.env) fp) tg p is)
    (ht : ∀ (s : Shared) (H : Hp) (C : Addr) (cl : List (Str × Addr)) (fp : List Addr), XO (X.blk s H scope (compEnvC scope cl C X.env) fp) k → DTs (X.blk s H scope (compEnvC scope cl C X.env) fp) ifs mt)
    (he : ∀ (s : Shared) (H : Hp) (C : Addr) (cl : List (Str × Addr)) (fp : List Addr), XO (X.blk s H scope (compEnvC scope cl C X.env) fp) k → DE (X.blk s H scope (compEnvC scope cl C X.env) fp) elt me)
    (hy : X.N[i]? = some y := by rfl) (hyl : X.env.scope.names.lookup y = some .local := by rfl) (hb : (b && i == 0) = false := by rfl) (hk : X.env.scope.kind = .function := by rfl) (hl : (py.line == pos.line) = true := by rfl) (hnn : (scope.names.any fun (n, k) => n == y && (k == .local || k == .cell)) = false := by decide +kernel)
    (h0 : 0 ∉ own.map (·.2) := by decide) (his : ∀ i ∈ is, i ∈ own.map (·.2) := by decide) (hs : ∀ x, foldedSetIterable iter X.env x = pure x := by intro _; rfl) : DSt b X (.Assign [.Name y py] (.ListComp elt [⟨tg, iter, ifs, 0⟩] scope pos) spos) (sNew i (mComp (own.map (·.2)) mi p mt me)) := by
  obtain ⟨wi, pI, si⟩ := hi
  have bo : ∀ (s : Shared) (H : Hp) (C : Addr) (cl : List (Str × Addr)) (fp : List Addr), XO (X.blk s H scope (compEnvC scope cl C X.env) fp) k := fun s H C cl fp => ⟨O.calm, O.nd, O.room, PassesOwn.never⟩
  refine ⟨_, ps_setLc (i := i) (g := gPt X.K p is) (tt := cT X.K mt) (te := cE X.K me) O.calm O.nd hy hyl (sw_true hk hyl hl hnn) pI ok (fun s H C cl fp => hg s H C cl fp (bo s H C cl fp)) (fun s H C cl fp => ht s H C cl fp (bo s H C cl fp)) (fun s H C cl fp => (he s H C cl fp (bo s H C cl fp)).can) hs, fun c σ H Hf e f e' Dn F R hm q => ?_⟩
  unfold sNew at hm
  split at hm
  · cases hm
  rename_i xs e1 h1
  split at hm
  · rename_i hl
    cases hm
    exact lc_sound O si _ h0 his c σ H Hf e xs _ _ F.k R h1 fun a us H' Hf' R' S' N' V' => q _ H' Hf' (setN_core F hb hl R' N' V') S'
  · cases hm
/-- the same, its value settled at once -/
theorem ds_setLcF {y : Str} {py : Pos} (O : XO X k) (i : Nat) (hi : DI X tg iter mi) (ok : BlkOk X.N X.env.scope scope own)
    (hg : ∀ (s : Shared) (H : Hp) (C : Addr) (cl : List (Str × Addr)) (fp : List Addr), XO (X.blk s H scope (compEnvC scope cl C X.env) fp) k → DPt (X.blk s H scope (compEnvC scope cl C X.env) fp) tg p is)
    (ht : ∀ (s : Shared) (H : Hp) (C : Addr) (cl : List (Str × Addr)) (fp : List Addr), XO (X.blk s H scope (compEnvC scope cl C X.env) fp) k → DTs (X.blk s H scope (compEnvC scope cl C X.env) fp) ifs mt)
    (he : ∀ (s : Shared) (H : Hp) (C : Addr) (cl : List (Str × Addr)) (fp : List Addr), XO (X.blk s H scope (compEnvC scope cl C X.env) fp) k → DE (X.blk s H scope (compEnvC scope cl C X.env) fp) elt me)
    (hy : X.N[i]? = some y := by rfl) (hyl : X.env.scope.names.lookup y = some .local := by rfl) (hb : (b && i == 0) = false := by rfl) (hk : X.env.scope.kind = .function := by rfl) (hl : (py.line == pos.line) = true := by rfl) (hnn : (scope.names.any fun (n, k) => n == y && (k == .local || k == .cell)) = false := by decide +kernel)
    (h0 : 0 ∉ own.map (·.2) := by decide) (his : ∀ i ∈ is, i ∈ own.map (·.2) := by decide) (hs : ∀ x, foldedSetIterable iter X.env x = pure x := by intro _; rfl) : DSt b X (.Assign [.Name y py] (.ListComp elt [⟨tg, iter, ifs, 0⟩] scope pos) spos) (sSet (pN i) (mFr (mComp (own.map (·.2)) mi p mt me))) := by
  obtain ⟨wi, pI, si⟩ := hi
  have bo : ∀ (s : Shared) (H : Hp) (C : Addr) (cl : List (Str × Addr)) (fp : List Addr), XO (X.blk s H scope (compEnvC scope cl C X.env) fp) k := fun s H C cl fp => ⟨O.calm, O.nd, O.room, PassesOwn.never⟩
  refine ⟨_, ps_setLc (i := i) (g := gPt X.K p is) (tt := cT X.K mt) (te := cE X.K me) O.calm O.nd hy hyl (sw_true hk hyl hl hnn) pI ok (fun s H C cl fp => hg s H C cl fp (bo s H C cl fp)) (fun s H C cl fp => ht s H C cl fp (bo s H C cl fp)) (fun s H C cl fp => (he s H C cl fp (bo s H C cl fp)).can) hs, fun c σ H Hf e f e' Dn F R hm q => ?_⟩
  unfold sSet mFr pN at hm
  split at hm
  · cases hm
  rename_i d e1 h1
  split at hm
  · cases hm
  rename_i e2 h2
  cases hm
  split at h1
  · cases h1
  rename_i xs e3 h3
  cases h1
  split at h2
  · rename_i hl
    cases h2
    refine lc_sound O si _ h0 his c σ H Hf e xs _ _ F.k R h3 fun a us H' Hf' R' S' N' V' => q _ H' _ ((N'.settle R').set hl (.lst (.of upd_same) (V'.mono (same_new N'.f))) ?_) (S'.trans (same_new N'.f))
    by_cases n : i = 0
    · subst n
      cases b with
      | false => exact .inr (F.p rfl)
      | true => cases hb
    · exact .inl n
  · cases h2
end DL

namespace DL
open PySem PySem.Spec PyProof.Rows L2
variable {X : Cx} {k : Nat} {b : Bool} {st : Stmt} {rest body : List Stmt} {m m2 : Ms} {pos : Pos}
/-! ### what is bound: a value, or a new list -/
def SV (c : Ct) (σ : L2.St) (H Hf : Hp) (e : DL.Env) (v : V) : Sl → Prop
  | .un => True
  | .im d => Rep c.K Hf v d
  | .ow xs => ∃ p us, v = .ref p ∧ NewAt c σ H Hf e p us ∧ RepL c.K Hf us xs
  | .od x => ∃ p u, v = .ref p ∧ NewD c σ H Hf e p u ∧ OdR c.K Hf u x
def isO : Sl → Prop
  | .ow _ => True
  | .od _ => True
  | _ => False
def DX (X : Cx) (ex : Expr) (m : M Sl) : Prop := ∃ t, PE X ex t ∧ ∀ (c : Ct) (σ : L2.St) (H Hf : Hp) (e : DL.Env) (s : Sl) (e' : DL.Env) (Q : VK), c.K = X.K → Rl c σ H Hf e → m e = some (s, e') →
  (∀ v H' Hf', Rl c σ H' Hf' e' → Same Hf Hf' → s ≠ .un → SV c σ H' Hf' e' v s → Q v H') → t σ H Q
section
variable {ex a b' cc : Expr} {ma mb mc : M Sl} {mv : M D} {mn : M (List D)}
theorem dx_im (h : DE X ex mv) : DX X ex (mIm mv) := by
  obtain ⟨t, p, s⟩ := h
  refine ⟨t, p, fun c σ H Hf e d e' Q hK R hm q => ?_⟩
  unfold mIm at hm
  split at hm
  · cases hm
  · rename_i d e1 h1
    cases hm
    exact s c σ H Hf e _ _ _ hK R h1 fun v H' Hf' R' S' V' => q v H' Hf' R' S' (fun z => nomatch z) V'
theorem dx_ow (h : DN X ex mn) : DX X ex (mOw mn) := by
  obtain ⟨t, p, s⟩ := h
  refine ⟨t, p, fun c σ H Hf e d e' Q hK R hm q => ?_⟩
  unfold mOw at hm
  split at hm
  · cases hm
  · rename_i d e1 h1
    cases hm
    exact s c σ H Hf e _ _ _ hK R h1 fun a us H' Hf' R' S' N' V' => q _ H' Hf' R' S' (fun z => nomatch z) ⟨a, us, rfl, N', V'⟩
theorem dx_od {mq : M Od} (h : DQ X ex mq) : DX X ex (mOd mq) := by
  obtain ⟨t, p, s⟩ := h
  refine ⟨t, p, fun c σ H Hf e d e' Q hK R hm q => ?_⟩
  unfold mOd at hm
  split at hm
  · cases hm
  · rename_i d e1 h1
    cases hm
    exact s c σ H Hf e _ _ _ hK R h1 fun a us H' Hf' R' S' N' V' => q _ H' Hf' R' S' (fun z => nomatch z) ⟨a, us, rfl, N', V'⟩
/-- what is bound stays while another expression is read -/
theorem SV.stay {c : Ct} {σ : L2.St} {H Hf H' Hf' : Hp} {e e' : DL.Env} {v : V} {s : Sl} (R : Rl c σ H Hf e) (R' : Rl (c.blk σ H Hf e) σ H' Hf' e') (h : SV c σ H Hf e v s) : SV c σ H' Hf' e' v s := by
  cases s with
  | un => trivial
  | im d => exact Rep.mono R'.s0 h
  | ow xs =>
    obtain ⟨p, us, rfl, N, L⟩ := h
    have no : ¬ (c.blk σ H Hf e).own p := fun h => h.elim (fun ⟨j, ys, q1, q2⟩ => N.n j ys q1 q2) fun ⟨j, y, q1, q2⟩ => R.lst_noD N.h j y q1 q2
    refine ⟨p, us, rfl, ⟨R'.fr _ _ N.h no, ?_, N.z, fun j ys q1 q2 => ?_⟩, L.mono R'.s0⟩
    · cases z : Hf' p with
      | none => rfl
      | some o =>
        rcases R'.nw _ _ z with y | y | ⟨ys, rfl⟩
        · rw [show (c.blk σ H Hf e).Hf0 p = Hf p from rfl, N.f] at y; cases y
        · rw [show (c.blk σ H Hf e).H0 p = H p from rfl, N.h] at y; cases y
        · have y := R'.sf _ _ z; rw [R'.fr _ _ N.h no] at y; cases y
    · obtain ⟨a, us', f1, _, f3, _, _⟩ := R'.ownAt q1
      rw [q2] at f1
      cases f1
      rcases f3 with f3 | f3
      · exact no f3
      · rw [show (c.blk σ H Hf e).H0 p = H p from rfl, N.h] at f3; cases f3
  | od x =>
    obtain ⟨p, us, rfl, N, L⟩ := h
    have no : ¬ (c.blk σ H Hf e).own p := fun h => h.elim (fun ⟨j, ys, q1, q2⟩ => R.dct_noL N.h (fun _ z => L.nl z) j ys q1 q2) fun ⟨j, y, q1, q2⟩ => N.n j y q1 q2
    refine ⟨p, us, rfl, ⟨R'.fr _ _ N.h no, ?_, N.z, fun j ys q1 q2 => ?_⟩, L.mono R'.s0⟩
    · cases z : Hf' p with
      | none => rfl
      | some o =>
        rcases R'.nw _ _ z with y | y | ⟨ys, rfl⟩
        · rw [show (c.blk σ H Hf e).Hf0 p = Hf p from rfl, N.f] at y; cases y
        · rw [show (c.blk σ H Hf e).H0 p = H p from rfl, N.h] at y; cases y
        · have y := R'.sf _ _ z; rw [R'.fr _ _ N.h no] at y; exact (L.nt (Option.some.inj y)).elim
    · obtain ⟨a, us', f1, _, f3, _, _⟩ := R'.odAt q1
      rw [q2] at f1
      cases f1
      rcases f3 with f3 | f3
      · exact no f3
      · rw [show (c.blk σ H Hf e).H0 p = H p from rfl, N.h] at f3; cases f3
/-- two new lists are two -/
theorem Rl.bind {c : Ct} {σ : L2.St} {H Hf : Hp} {e : DL.Env} {i : Nat} {v : V} {s : Sl} (F : Fc b X c) (hb : (b && i == 0) = false) (hl : i < e.length) (hu : s ≠ .un) (R : Rl c σ H Hf e) (h : SV c σ H Hf e v s) : Rl c (σ.set i (some v)) H Hf (e.set i s) := by
  have hp : i ≠ 0 ∨ c.pin = none := by
    by_cases n : i = 0
    · subst n
      cases b with
      | false => exact .inr (F.p rfl)
      | true => cases hb
    · exact .inl n
  cases s with
  | un => exact absurd rfl hu
  | im d => exact R.set hl h hp
  | ow xs =>
    obtain ⟨p, us, rfl, N, L⟩ := h
    exact R.setN hl N.h N.f N.z L hp N.n
  | od xs =>
    obtain ⟨p, us, rfl, N, L⟩ := h
    exact R.setD hl N.h N.f N.z L hp N.n
/-- a new list that is not the one just bound -/
theorem SV.behind {c : Ct} {σ : L2.St} {H Hf : Hp} {e : DL.Env} {i : Nat} {v w : V} {s t : Sl} (h : SV c σ H Hf e w t) (hd : ∀ p, v = .ref p → w = .ref p → isO s → isO t → False) : SV c (σ.set i (some v)) H Hf (e.set i s) w t := by
  cases t with
  | un => trivial
  | im d => exact h
  | ow ys =>
    obtain ⟨p, us, rfl, N, L⟩ := h
    refine ⟨p, us, rfl, ⟨N.h, N.f, N.z, fun j zs q1 q2 => ?_⟩, L⟩
    rcases get_set q1 with ⟨z1, z2⟩ | ⟨n, q1⟩
    · rcases get_set q2 with ⟨_, y2⟩ | ⟨n, _⟩
      · exact hd p (Option.some.inj y2).symm rfl (by rw [← z2]; trivial) trivial
      · exact n z1
    · rw [List.getElem?_set_ne (Ne.symm n)] at q2
      exact N.n j zs q1 q2
  | od ys =>
    obtain ⟨p, us, rfl, N, L⟩ := h
    refine ⟨p, us, rfl, ⟨N.h, N.f, N.z, fun j zs q1 q2 => ?_⟩, L⟩
    rcases get_set q1 with ⟨z1, z2⟩ | ⟨n, q1⟩
    · rcases get_set q2 with ⟨_, y2⟩ | ⟨n, _⟩
      · exact hd p (Option.some.inj y2).symm rfl (by rw [← z2]; trivial) trivial
      · exact n z1
    · rw [List.getElem?_set_ne (Ne.symm n)] at q2
      exact N.n j zs q1 q2
/-- what is read in a block, seen from around it -/
theorem SV.out {c : Ct} {σ : L2.St} {H1 Hf1 H Hf : Hp} {e1 e : DL.Env} {w : V} {t : Sl} (R1 : Rl c σ H1 Hf1 e1) (h : SV (c.blk σ H1 Hf1 e1) σ H Hf e w t) : SV c σ H Hf e w t := by
  cases t with
  | un => trivial
  | im d => exact h
  | ow ys =>
    obtain ⟨p, us, rfl, N, L⟩ := h
    exact ⟨p, us, rfl, ⟨N.h, N.f, R1.h0 N.z, N.n⟩, L⟩
  | od ys =>
    obtain ⟨p, us, rfl, N, L⟩ := h
    exact ⟨p, us, rfl, ⟨N.h, N.f, R1.h0 N.z, N.n⟩, L⟩
theorem SV.stands {c : Ct} {σ : L2.St} {H Hf : Hp} {e : DL.Env} {p : Addr} {s : Sl} (h : SV c σ H Hf e (.ref p) s) (hs : isO s) : (∃ o, H p = some o) ∧ c.H0 p = none := by
  cases s with
  | un => cases hs
  | im d => cases hs
  | ow xs => obtain ⟨p1, us1, z1, N1, _⟩ := h; cases z1; exact ⟨⟨_, N1.h⟩, N1.z⟩
  | od xs => obtain ⟨p1, us1, z1, N1, _⟩ := h; cases z1; exact ⟨⟨_, N1.h⟩, N1.z⟩
theorem SV.apart {c : Ct} {σ : L2.St} {H1 Hf1 H Hf : Hp} {e1 e : DL.Env} {v w : V} {s t : Sl} (h1 : SV c σ H1 Hf1 e1 v s) (h : SV (c.blk σ H1 Hf1 e1) σ H Hf e w t) : ∀ p, v = .ref p → w = .ref p → isO s → isO t → False := by
  rintro p rfl rfl hs ht
  obtain ⟨⟨o, z1⟩, _⟩ := h1.stands hs
  obtain ⟨_, z2⟩ := h.stands ht
  rw [show (c.blk σ H1 Hf1 e1).H0 p = H1 p from rfl, z1] at z2
  cases z2
theorem ds_par {x y : Str} {px py pt : Pos} {kt k2 : Nat} {pt2 : Pos} (O : XO X k) (i j : Nat) (ha : DX X a ma) (hbb : DX X b' mb) (hi : X.N[i]? = some x := by rfl) (hj : X.N[j]? = some y := by rfl) (hij : i ≠ j := by decide) (hb1 : (b && i == 0) = false := by rfl) (hb2 : (b && j == 0) = false := by rfl)
    (hx : X.env.scope.names.lookup x = some .local := by rfl) (hy : X.env.scope.names.lookup y = some .local := by rfl)
    (hw : swappedStores [.Tuple [.Name x px, .Name y py] kt pt] (.Tuple [a, b'] k2 pt2) X.env = pure (some [x, y]) := by rfl)
    (hs : swapsWithSole [.Tuple [.Name x px, .Name y py] kt pt] (.Tuple [a, b'] k2 pt2) pos.line X.env = pure false := by rfl)
    (e1 : starEach [a, b'] X.env = (false, eval a X.env) :: starEach [b'] X.env := by rfl) (e2 : starEach [b'] X.env = (false, eval b' X.env) :: starEach [] X.env := by rfl) :
    DSt b X (.Assign [.Tuple [.Name x px, .Name y py] kt pt] (.Tuple [a, b'] k2 pt2) pos) (sPar i j ma mb) := by
  obtain ⟨ta, pa, sa⟩ := ha
  obtain ⟨tb, pb, sb⟩ := hbb
  refine ⟨_, ps_par O.calm O.nd hi hj hij hx hy (pa_cons pa (pa_cons pb pa_nil e2) e1) hw hs, fun c σ H Hf e f e' Dn F R hm q => ?_⟩
  unfold sPar at hm
  split at hm
  · cases hm
  rename_i s e1 h1
  split at hm
  · cases hm
  rename_i t e2 h2
  split at hm
  · rename_i hc
    cases hm
    simp only [Bool.and_eq_true, decide_eq_true_eq] at hc
    refine sa c σ H Hf e _ _ _ F.k R h1 fun v H1 Hf1 R1 S1 u1 V1 => ?_
    refine sb (c.blk σ H1 Hf1 e1) σ H1 Hf1 e1 _ _ _ F.k R1.enter h2 fun w H2 Hf2 R2 S2 u2 V2 => ⟨v, w, rfl, ?_⟩
    have R3 := R1.leave R2
    have A1 := V1.stay R1 R2
    have A2 := SV.out R1 V2
    have D := SV.apart V1 V2
    refine q _ _ _ (Rl.bind F hb2 (by rw [List.length_set]; exact hc.2) u2 (R3.bind F hb1 hc.1 u1 A1) (A2.behind D)) (S1.trans S2)
  · cases hm
theorem ds_par3 {x y z : Str} {px py pz pt : Pos} {kt k2 : Nat} {pt2 : Pos} (O : XO X k) (i j l : Nat) (ha : DX X a ma) (hbb : DX X b' mb) (hcc : DX X cc mc) (hi : X.N[i]? = some x := by rfl) (hj : X.N[j]? = some y := by rfl) (hl : X.N[l]? = some z := by rfl) (hij : i ≠ j := by decide) (hil : i ≠ l := by decide) (hjl : j ≠ l := by decide) (hb1 : (b && i == 0) = false := by rfl) (hb2 : (b && j == 0) = false := by rfl) (hb3 : (b && l == 0) = false := by rfl)
    (hx : X.env.scope.names.lookup x = some .local := by rfl) (hy : X.env.scope.names.lookup y = some .local := by rfl) (hz : X.env.scope.names.lookup z = some .local := by rfl)
    (hw : swappedStores [.Tuple [.Name x px, .Name y py, .Name z pz] kt pt] (.Tuple [a, b', cc] k2 pt2) X.env = pure (some [x, y, z]) := by rfl)
    (hs : swapsWithSole [.Tuple [.Name x px, .Name y py, .Name z pz] kt pt] (.Tuple [a, b', cc] k2 pt2) pos.line X.env = pure false := by rfl)
    (e1 : starEach [a, b', cc] X.env = (false, eval a X.env) :: starEach [b', cc] X.env := by rfl) (e2 : starEach [b', cc] X.env = (false, eval b' X.env) :: starEach [cc] X.env := by rfl) (e3 : starEach [cc] X.env = (false, eval cc X.env) :: starEach [] X.env := by rfl) :
    DSt b X (.Assign [.Tuple [.Name x px, .Name y py, .Name z pz] kt pt] (.Tuple [a, b', cc] k2 pt2) pos) (sPar3 i j l ma mb mc) := by
  obtain ⟨ta, pa, sa⟩ := ha
  obtain ⟨tb, pb, sb⟩ := hbb
  obtain ⟨tc, pc, sc⟩ := hcc
  refine ⟨_, L2.ps_par3 O.calm O.nd hi hj hl hij hil hjl hx hy hz (pa_cons pa (pa_cons pb (pa_cons pc pa_nil e3) e2) e1) hw hs, fun c σ H Hf e f e' Dn F R hm q => ?_⟩
  unfold sPar3 at hm
  split at hm
  · cases hm
  rename_i s e1 h1
  split at hm
  · cases hm
  rename_i t e2 h2
  split at hm
  · cases hm
  rename_i u e3 h3
  split at hm
  · rename_i hc
    cases hm
    simp only [Bool.and_eq_true, decide_eq_true_eq] at hc
    refine sa c σ H Hf e _ _ _ F.k R h1 fun v H1 Hf1 R1 S1 u1 V1 => ?_
    refine sb (c.blk σ H1 Hf1 e1) σ H1 Hf1 e1 _ _ _ F.k R1.enter h2 fun w H2 Hf2 R2 S2 u2 V2 => ?_
    have R3 := R1.leave R2
    have A1 := V1.stay R1 R2
    have A2 := SV.out R1 V2
    have D := SV.apart V1 V2
    refine sc (c.blk σ H2 Hf2 e2) σ H2 Hf2 e2 _ _ _ F.k R3.enter h3 fun x H3 Hf3 R4 S3 u3 V3 => ⟨v, w, x, rfl, ?_⟩
    have R5 := R3.leave R4
    have B1 := A1.stay R3 R4
    have B2 := A2.stay R3 R4
    have B3 := SV.out R3 V3
    have D1 := SV.apart A1 V3
    have D2 := SV.apart A2 V3
    refine q _ _ _ (Rl.bind F hb3 (by rw [List.length_set, List.length_set]; exact hc.2) u3 (Rl.bind F hb2 (by rw [List.length_set]; exact hc.1.2) u2 (R5.bind F hb1 hc.1.1 u1 B1) (B2.behind D)) ((B3.behind D1).behind D2)) (S1.trans (S2.trans S3))
  · cases hm
end
/-! ### augmented stores, the own list changed -/
section
variable {ex : Expr} {ma mi : M D} {mn : M (List D)}
theorem ds_aug {x : Str} {op : Operator} {pos' : Pos} {o : D → D → Option D} (O : XO X k) (i : Nat) (ho : OpS X (inplaceOp op) o) (h : DE X ex ma) (hi : X.N[i]? = some x := by rfl) (hb : (b && i == 0) = false := by rfl) (hx : Loc X.env.scope x := by first | exact Or.inl rfl | exact Or.inr rfl)
    (hf : X.fn x = true ∨ X.env.scope.names.lookup x = some .local := by first | exact .inl rfl | exact .inr rfl) : DSt b X (.AugAssign (.Name x pos') op ex pos) (sAug i o ma) := by
  obtain ⟨t, p, s⟩ := h
  obtain ⟨r, ro, so⟩ := ho
  refine ⟨_, ps_aug (i := i) (ti := r) O.nd hi hx p ro hf, fun c σ H Hf e f e' Dn F R hm q => ?_⟩
  unfold sAug at hm
  split at hm
  · rename_i x0 h0
    obtain ⟨v, z1, z2⟩ := R.sl i _ h0
    split at hm
    · cases hm
    rename_i y e1 h1
    split at hm
    · cases hm
    rename_i z h2
    split at hm
    · rename_i hl
      cases hm
      refine ⟨v, z1, s c σ H Hf e _ _ _ F.k R h1 fun w H1 Hf1 R1 S1 V1 => ?_⟩
      refine so c σ H1 Hf1 e1 x0 y z v w _ F.k R1 (z2.mono S1) V1 h2 fun u H2 Hf2 R2 S2 V2 => q _ _ _ (R2.set hl V2 ?_) (S1.trans S2)
      by_cases n : i = 0
      · subst n
        cases b with
        | false => exact .inr (F.p rfl)
        | true => cases hb
      · exact .inl n
    · cases hm
  · cases hm
theorem is_add : OpS X (inplaceOp .Add) oAddI := by
  refine ⟨_, iop_add, fun c σ H Hf e x y z v w Q hK R hv hw ho q => ?_⟩
  unfold oAddI at ho
  split at ho
  · cases ho
    cases hv; cases hw
    exact ⟨_, _, rfl, rfl, q _ _ _ R (Same.refl _) (.int _)⟩
  · cases ho
theorem is_sub : OpS X (inplaceOp .Sub) oSub := by
  refine ⟨_, iop_sub, fun c σ H Hf e x y z v w Q hK R hv hw ho q => ?_⟩
  unfold oSub at ho
  split at ho
  · cases ho
    cases hv; cases hw
    exact ⟨_, _, rfl, rfl, q _ _ _ R (Same.refl _) (.int _)⟩
  · cases ho
/-- own.append(x) -/
theorem ds_app {y : Str} {py apos cpos : Pos} (i : Nat) (h : DE X ex ma) (hN : X.N[i]? = some y := by rfl) (hv : Vis X.env.scope y := by first | exact Or.inl rfl | exact Or.inr (Or.inl rfl) | exact Or.inr (Or.inr rfl)) (hd : (y == ("__debug__" : Str)) = false := by decide) (hcd : (y == ("__classdict__" : Str)) = false := by decide)
    (hbase : attributeBase (.Name y py) "append" X.env (eval (.Name y py) X.env) = eval (.Name y py) X.env := by rfl)
    (hfew : ((backTo cpos (starEach [ex] X.env)).all (fun x => !x.1) && (backToKw cpos (keywordEach [] X.env)).all (fun x => x.1.isSome) && decide ([ex].length + ([] : List Keyword).length + (if ([] : List Keyword).isEmpty then 0 else 1) < 30)) = true := by rfl)
    (hline : (apos.endLine == cpos.line) = true := by rfl) (hs : starEach [ex] X.env = (false, eval ex X.env) :: starEach [] X.env := by rfl) (hpl : (backTo cpos (starEach [] X.env)).any (·.1) = false := by rfl)
    (hsw : swapsWith (.Call (.Attribute (.Name y py) "append" apos) [ex] [] cpos) none pos.line X.env = pure false := by rfl) : DSt b X (.Expr (.Call (.Attribute (.Name y py) "append" apos) [ex] [] cpos) pos) (sApp i ma) := by
  obtain ⟨t, p, s⟩ := h
  refine ⟨_, ps_expr (pe_bm PySem.F.plainAttrs_list PySem.F.slot_list_append PySem.F.type_list_append mt_append (pe_var hN hv hd hcd) (pa_cons p pa_nil hs) hbase hfew hline hs hpl) hsw, fun c σ H Hf e f e' Dn F R hm q => ?_⟩
  unfold sApp at hm
  split at hm
  · rename_i s0 g0
    obtain ⟨a, us0, hv0, _, _, z0, _⟩ := R.ownAt g0
    split at hm
    · cases hm
    rename_i d e1 h1
    split at hm
    · rename_i xs h2
      split at hm
      · rename_i hc
        cases hm
        refine ⟨_, hv0, .inl ⟨rfl, _, .of z0⟩, s c σ H Hf e _ _ _ F.k R h1 fun v H1 Hf1 R1 S1 V1 => ?_⟩
        obtain ⟨a', us, z1, z2, _, z3, z4⟩ := R1.ownAt h2
        rw [hv0] at z1
        cases z1
        exact ⟨a, us, v, rfl, rfl, z3, by rw [z4.length]; exact hc, q _ _ Hf1 (R1.put h2 hv0 (z4.app (.cons V1 .nil))) S1⟩
      · cases hm
    · cases hm
  · cases hm
/-- own[i] = x -/
theorem ds_oset {y : Str} {ei : Expr} {py ppos : Pos} (i : Nat) (h : DE X ex ma) (h' : DE X ei mi) (hN : X.N[i]? = some y := by rfl) (hv : Vis X.env.scope y := by first | exact Or.inl rfl | exact Or.inr (Or.inl rfl) | exact Or.inr (Or.inr rfl)) (hd : (y == ("__debug__" : Str)) = false := by decide) (hcd : (y == ("__classdict__" : Str)) = false := by decide)
    (has : ∀ v, assign (.Subscript (.Name y py) ei ppos) X.env v = (do
      let ov ← holding [v] (eval (.Name y py) X.env)
      let iv ← holding [v, ov] (eval ei X.env)
      standAt ppos
      holding [v, ov, iv] (setItem ov iv v)
      release [v, ov, iv] []) := by intro _; rfl)
    (hs : swapsWithSole [.Subscript (.Name y py) ei ppos] ex pos.line X.env = pure false := by rfl) (hw : swappedStores [.Subscript (.Name y py) ei ppos] ex X.env = pure none := by rfl)
    (h1 : (assignEach [.Subscript (.Name y py) ei ppos] X.env).map (·.2) = [assign (.Subscript (.Name y py) ei ppos) X.env] := by rfl) : DSt b X (.Assign [.Subscript (.Name y py) ei ppos] ex pos) (sOSet i mi ma) := by
  obtain ⟨t, p, s⟩ := h
  obtain ⟨t2, p2, s2⟩ := h'
  refine ⟨_, ps_asg p (pg_sub (pe_var hN hv hd hcd) p2 set_list has) hs hw h1, fun c σ H Hf e f e' Dn F R hm q => ?_⟩
  unfold sOSet at hm
  split at hm
  · rename_i s0 g0
    obtain ⟨a, us0, hv0, _, _, z0, _⟩ := R.ownAt g0
    split at hm
    · cases hm
    rename_i d e1 h1
    split at hm
    · rename_i n e2 h2
      split at hm
      · rename_i xs h3
        split at hm
        · cases hm
        rename_i j hj
        cases hm
        refine s c σ H Hf e _ _ _ F.k R h1 fun v H1 Hf1 R1 S1 V1 => ⟨_, hv0, s2 c σ H1 Hf1 _ _ _ _ F.k R1 h2 fun w H2 Hf2 R2 S2 V2 => ?_⟩
        obtain ⟨a', us, z1, z2, _, z3, z4⟩ := R2.ownAt h3
        rw [hv0] at z1
        cases z1
        refine ⟨a, us, n, j, rfl, V2.int_inv, z3, ?_, q _ _ Hf2 (R2.put h3 hv0 (z4.set (V1.mono S2) j)) (S1.trans S2)⟩
        rw [z4.length]; exact hj
      · cases hm
    · cases hm
  · cases hm
/-- own += a new list -/
theorem ds_ext {x : Str} {pos' : Pos} (O : XO X k) (i : Nat) (h : DN X ex mn) (hi : X.N[i]? = some x := by rfl) (hb : (b && i == 0) = false := by rfl) (hx : Loc X.env.scope x := by first | exact Or.inl rfl | exact Or.inr rfl)
    (hf : X.fn x = true ∨ X.env.scope.names.lookup x = some .local := by first | exact .inl rfl | exact .inr rfl) : DSt b X (.AugAssign (.Name x pos') .Add ex pos) (sExt i mn) := by
  obtain ⟨t, p, s⟩ := h
  refine ⟨_, ps_aug (i := i) (ti := rExt2) O.nd hi hx p iop_ext hf, fun c σ H Hf e f e' Dn F R hm q => ?_⟩
  unfold sExt at hm
  split at hm
  · rename_i s0 g0
    obtain ⟨a, us0, hv0, _, _, z0, _⟩ := R.ownAt g0
    split at hm
    · cases hm
    rename_i ys e1 h1
    split at hm
    · rename_i xs h2
      split at hm
      · rename_i hc
        cases hm
        refine ⟨_, hv0, s c σ H Hf e _ _ _ F.k R h1 fun p ws H1 Hf1 R1 S1 N1 V1 => ?_⟩
        obtain ⟨a', us, z1, z2, _, z3, z4⟩ := R1.ownAt h2
        rw [hv0] at z1
        cases z1
        refine ⟨a, p, us, ws, rfl, rfl, z3, N1.h, by rw [z4.length, V1.length]; exact cap_le hc, ?_⟩
        have R2 := R1.put h2 hv0 (z4.app V1)
        have : σ.set i (some (.ref a)) = σ := by
          apply List.ext_getElem?
          intro j
          by_cases n : j = i
          · subst n
            rw [hv0]
            have : j < σ.length := (List.getElem?_eq_some_iff.mp hv0).1
            exact List.getElem?_set_self this
          · rw [List.getElem?_set_ne (Ne.symm n)]
        dsimp only
        rw [this]
        exact q _ _ Hf1 R2 S1
      · cases hm
    · cases hm
  · cases hm
end
/-! ### if, for, while -/
section
variable {ec tg iter : Expr} {tA : M Bool} {ba bb : List Stmt} {ma mb : Ms} {mi : M (List D)} {p : Pt} {is : List Nat}
theorem ds_if (ht : DT X ec tA) (ha : DSs b X ba ma) (hb : DSs b X bb mb) : DSt b X (.If ec ba bb pos) (sIf tA ma mb) := by
  obtain ⟨t, p, s⟩ := ht
  obtain ⟨u, p2, s2⟩ := ha
  obtain ⟨w, p3, s3⟩ := hb
  refine ⟨_, ps_if p p2 p3, fun c σ H Hf e f e' Dn F R hm q => ?_⟩
  unfold sIf at hm
  split at hm
  · cases hm
  · rename_i e1 h1
    refine s c σ H Hf e _ _ _ F.k R h1 fun H1 Hf1 R1 S1 => ?_
    rw [if_pos rfl]
    exact s2 c σ H1 Hf1 _ _ _ _ F R1 hm (q.mono S1)
  · rename_i e1 h1
    refine s c σ H Hf e _ _ _ F.k R h1 fun H1 Hf1 R1 S1 => ?_
    rw [if_neg Bool.false_ne_true]
    exact s3 c σ H1 Hf1 _ _ _ _ F R1 hm (q.mono S1)
theorem ds_for (O : XO X k) (hi : DI X tg iter mi) (hg : DPt X tg p is) (hbd : DSs b X body m) (hb : (b && is.contains 0) = false := by rfl) (hs : ∀ x, foldedSetIterable iter X.env x = pure x := by intro _; rfl) : DSt b X (.For tg iter body [] pos) (sFor mi p m) := by
  obtain ⟨wi, pI, si⟩ := hi
  obtain ⟨t, pb, sb⟩ := hbd
  refine ⟨_, ps_for O.po O.calm pI hg pb hs, fun c σ H Hf e f e' Dn F R hm q => ?_⟩
  unfold sFor at hm
  split at hm
  · cases hm
  rename_i ds e1 h1
  refine si c σ H Hf e ds e1 _ F.k R h1 fun J H1 Hf1 R1 S1 W => ?_
  have q1 := q.mono S1
  refine for_it W (Pv := fun i σ' H' => ∃ Hf' e2, Rl c σ' H' Hf' e2 ∧ Same Hf1 Hf' ∧ forL p m (ds.drop i) e2 = some (f, e')) ⟨Hf1, e1, R1, Same.refl _, hm⟩ (fun i σ' H' _ ⟨Hf', e2, R2, S2, _⟩ => S2.trans R2.sf) (fun i x σ' H' H'' hlt ⟨Hf', e2, R2, S2, g⟩ y => ?_) (fun σ' H' ⟨Hf', e2, R2, S2, g⟩ => ?_)
  · have y : YD c.K Hf1 ds i H' x H'' := F.k ▸ y
    obtain ⟨Hf2, d, R3, S3, V3, hd, _, _⟩ := R2.item S2 y
    rw [drop_cons hd] at g
    unfold forL at g
    split at g
    · cases g
    rename_i e3 h3
    refine ⟨c, Hf2, e2, d, e3, F.k, R3, pin_ok F hb, V3, h3, fun σ2 R4 _ => ?_⟩
    split at g
    · cases g
    · rename_i e4 h4
      exact sb c σ2 _ Hf2 e3 .nx e4 _ F R4 h4 fun σ5 H5 Hf5 R5 S5 => ⟨Hf5, e4, R5, S2.trans (S3.trans S5), g⟩
    · rename_i e4 h4
      exact sb c σ2 _ Hf2 e3 .ct e4 _ F R4 h4 fun σ5 H5 Hf5 R5 S5 => ⟨Hf5, e4, R5, S2.trans (S3.trans S5), g⟩
    · rename_i e4 h4
      cases g
      exact sb c σ2 _ Hf2 e3 .bk _ _ F R4 h4 fun σ5 H5 Hf5 R5 S5 => q1 σ5 H5 Hf5 R5 (S2.trans (S3.trans S5))
    · rename_i r e4 h4
      cases g
      exact sb c σ2 _ Hf2 e3 (.ret r) _ _ F R4 h4 fun v σ5 H5 Hf5 R5 S5 V5 => q1 v σ5 H5 Hf5 R5 (S2.trans (S3.trans S5)) V5
  · rw [List.drop_length] at g
    have g' : some (Fl.nx, e2) = some (f, e') := g
    cases g'
    exact q1 σ' H' Hf' R2 S2
theorem ds_while (n : Nat) (O : XO X k) (ht : DT X ec tA) (hbd : DSs b X body m) : DSt b X (.While ec body [] pos) (sWhile n tA m) := by
  obtain ⟨t, p, s⟩ := ht
  obtain ⟨u, pb, sb⟩ := hbd
  refine ⟨_, ps_while O.po p pb, fun c σ H Hf e f e' Dn F R hm q => ?_⟩
  unfold sWhile at hm
  refine ⟨fun n σ' H' => ∃ Hf' e2, Rl c σ' H' Hf' e2 ∧ Same Hf Hf' ∧ whileN tA m n e2 = some (f, e'), ⟨n, Hf, e, R, Same.refl _, hm⟩, fun j σ' H' ⟨Hf', e2, R2, S2, g⟩ => ?_⟩
  cases j with
  | zero => cases g
  | succ j =>
    unfold whileN at g
    split at g
    · cases g
    · rename_i e3 h3
      cases g
      refine s c σ' H' Hf' e2 _ _ _ F.k R2 h3 fun H3 Hf3 R3 S3 => ?_
      rw [if_neg Bool.false_ne_true]
      exact q σ' H3 Hf3 R3 (S2.trans S3)
    · rename_i e3 h3
      refine s c σ' H' Hf' e2 _ _ _ F.k R2 h3 fun H3 Hf3 R3 S3 => ?_
      rw [if_pos rfl]
      refine ⟨fun σ5 H5 => ∃ Hf5 e5, Rl c σ5 H5 Hf5 e5 ∧ Same Hf Hf5 ∧ whileN tA m j e5 = some (f, e'), fun σ5 H5 h5 => ⟨j, Nat.lt_succ_self _, h5⟩, ?_⟩
      split at g
      · cases g
      · rename_i e4 h4
        exact sb c σ' _ Hf3 e3 .nx e4 _ F R3 h4 fun σ5 H5 Hf5 R5 S5 => ⟨Hf5, e4, R5, S2.trans (S3.trans S5), g⟩
      · rename_i e4 h4
        exact sb c σ' _ Hf3 e3 .ct e4 _ F R3 h4 fun σ5 H5 Hf5 R5 S5 => ⟨Hf5, e4, R5, S2.trans (S3.trans S5), g⟩
      · rename_i e4 h4
        cases g
        exact sb c σ' _ Hf3 e3 .bk _ _ F R3 h4 fun σ5 H5 Hf5 R5 S5 => q σ5 H5 Hf5 R5 (S2.trans (S3.trans S5))
      · rename_i r e4 h4
        cases g
        exact sb c σ' _ Hf3 e3 (.ret r) _ _ F R3 h4 fun v σ5 H5 Hf5 R5 S5 V5 => q v σ5 H5 Hf5 R5 (S2.trans (S3.trans S5)) V5
/-- from here on slot j's own list is a value -/
theorem SSnd.frz {t : TS} (j : Nat) (hb : (b && j == 0) = false) (s : SSnd b X t m) : SSnd b X (fun D σ H => t D σ H ∨ ∃ d u, H d = some u ∧ Mut (some u) ∧ ∀ od, t D σ (upd H d (.frz od u))) (sFrz j m) := fun c σ H Hf e f e' Dn F R hm q => by
  unfold sFrz frzE at hm
  split at hm
  · rename_i xs h1
    have hp : j ≠ 0 ∨ c.pin = none := by
      by_cases n : j = 0
      · subst n
        cases b with
        | false => exact .inr (F.p rfl)
        | true => cases hb
      · exact .inl n
    obtain ⟨Hf1, R1, S1⟩ := R.frz h1 F.o hp
    exact .inl (s c σ H Hf1 _ f e' Dn F R1 hm (q.mono S1))
  · rename_i x h1
    obtain ⟨p, u, g1, _, _, g4, g5⟩ := R.odAt h1
    refine .inr ⟨p, u, g4, g5.mut, fun ob => ?_⟩
    obtain ⟨R1, S1⟩ := R.frzD (ob := ob) h1 g1 g4 F.o
    exact s c σ _ _ _ f e' Dn F R1 hm (q.mono S1)
  · exact .inl (s c σ H Hf e f e' Dn F R hm q)
theorem ds_frz (j : Nat) (h : DSt b X st m) (hb : (b && j == 0) = false := by rfl) : DSt b X st (sFrz j m) := by
  obtain ⟨t, p, s⟩ := h
  exact ⟨_, ⟨fun pins sh σ H D I w => w.elim (p.run pins sh σ H D I) fun ⟨d, u, hd, mu, w⟩ => (I.lock hd mu).elim fun od I1 => p.run pins sh σ _ D I1 (w od)⟩, s.frz j hb⟩
theorem dss_frz (j : Nat) (h : DSs b X rest m) (hb : (b && j == 0) = false := by rfl) : DSs b X rest (sFrz j m) := by
  obtain ⟨t, p, s⟩ := h
  exact ⟨_, ⟨fun pins sh σ H D I w => w.elim (p.run pins sh σ H D I) fun ⟨d, u, hd, mu, w⟩ => (I.lock hd mu).elim fun od I1 => p.run pins sh σ _ D I1 (w od)⟩, s.frz j hb⟩
end
/-! ### defs -/
section
variable {P : Program} {w : World} {K : PySem.W.Frag} {mg : Str → Option Value} {base : Heap} {f : Addr} {fd : FuncData} {x qual : Str} {params : Arguments} {scope : Scope} {N ps : List Str} {n kk j : Nat}
theorem env0_len {kk : Nat} {ds : List D} (h : ds.length ≤ kk) : (env0 kk ds).length = kk := by simp [env0]; omega
theorem start_len {N : List Str} {vs : List V} (h : vs.length ≤ N.length) : (start N vs).length = N.length := by simp [L2.start]; omega
theorem env0_rel {K : PySem.W.Frag} {Hf : Hp} {vs : List V} {ds : List D} {kk r : Nat} (L : RepL K Hf vs ds) {i : Nat} {s : Sl} (h : (env0 kk ds)[i]? = some s) : s = .un ∨ ∃ d v, s = .im d ∧ (vs.map some ++ List.replicate r none)[i]? = some (some v) ∧ Rep K Hf v d := by
  unfold env0 at h
  by_cases hi : i < ds.length
  · rw [List.getElem?_append_left (by simpa using hi)] at h
    rw [List.getElem?_map] at h
    cases e : ds[i]? with
    | none => rw [e] at h; cases h
    | some d =>
      rw [e] at h
      obtain ⟨v, h1, h2⟩ := L.get e
      refine .inr ⟨d, v, (Option.some.inj h).symm, ?_, h2⟩
      rw [List.getElem?_append_left (by rw [List.length_map, L.length]; exact hi), List.getElem?_map, h1]
      rfl
  · rw [List.getElem?_append_right (by simpa using hi)] at h
    obtain ⟨h1, h2⟩ := List.getElem?_eq_some_iff.mp h
    rw [List.getElem_replicate] at h2
    exact .inl h2.symm
theorem rl_start {H Hf : Hp} {vs : List V} {ds : List D} (s : Same Hf H) (L : RepL K Hf vs ds) (hk : N.length = kk) (hl : ds.length ≤ kk) : Rl ⟨K, H, Hf, fun a => (none : Option Addr) = some a, none⟩ (start N vs) H Hf (env0 kk ds) where
  ln := by rw [env0_len hl, start_len (by rw [L.length, hk]; exact hl), hk]
  fr := fun _ _ q _ => q
  fo := fun b o q _ => ⟨o, q⟩
  sf := s
  s0 := Same.refl _
  nw := fun _ _ q => .inl q
  sl := fun i t q => by
    rcases env0_rel (r := N.length - vs.length) L q with z | ⟨d, v, z, h1, h2⟩
    · subst z; trivial
    · subst z; exact ⟨v, h1, h2⟩
  ap := fun i j p xs ys _ q _ _ _ => by
    rcases env0_rel (r := 0) L q with z | ⟨d, v, z, _⟩ <;> cases z
  p0 := fun p q => by cases q
  ad := fun i j p xs ys _ q _ _ _ => by
    rcases env0_rel (r := 0) L q with z | ⟨d, v, z, _⟩ <;> cases z
theorem runD_len {ds : List D} {d : D} (h : runD n kk m ds = some d) : ds.length = n := by
  unfold runD at h
  split at h
  · assumption
  · cases h
theorem runN_len {ds d : List D} (h : runN n kk m ds = some d) : ds.length = n := by
  unfold runN at h
  split at h
  · assumption
  · cases h
theorem runI_len {ss ds : List D} {d : D × List D} (h : runI n kk m ss ds = some d) : ds.length + 1 = n := by
  unfold runI at h
  split at h
  · assumption
  · cases h
abbrev CxB (P : Program) (w : World) (K : PySem.W.Frag) (mg : Str → Option Value) (base : Heap) (N : List Str) (qual : Str) (scope : Scope) (f : Addr) (cdv : Value) (A : Around) (outer : List PySem.Env) (s : Shared) (H : Hp) (E : XK) : Cx := (cxOf CX0 P w K mg base N qual scope f cdv A outer s H E).nox
theorem xo_of {A : Around} {outer : List PySem.Env} {s : Shared} {H : Hp} {E : XK} {cdv : Value} (S : FnScope N ps scope) (hr : Room j (A.deeper (envOfC qual scope s.heap.objs.size f cdv))) : XO (CxB P w K mg base N qual scope f cdv A outer s H E) j := ⟨rfl, S.nd, hr, PassesOwn.never⟩
/-- a def that hands back a value -/
theorem okD (F : FunD K x qual params body scope [] [] f fd) (S : FnScope N ps scope) (hk : N.length = kk) (hn : ps.length = n) (hnk : n ≤ kk)
    (h : ∀ (cdv : Value) (A : Around) (outer : List PySem.Env) (s : Shared) (H : Hp) (E : XK), XO (CxB P w K mg base N qual scope f cdv A outer s H E) j → DSs false (CxB P w K mg base N qual scope f cdv A outer s H E) body m) :
    FnOk P w K mg base CX0 (j + 1) f fd ps (spD K (runD n kk m)) := by
  refine F.ok S (fun vs H Q E ⟨Hf, ds, d, _, L, e, _⟩ => by rw [L.length, runD_len e, hn]) fun cdv A outer s H vs Q E hr ⟨Hf, ds, d, sf, L, hrun, q⟩ => ?_
  obtain ⟨t, pt, st⟩ := h cdv A outer s H E (xo_of S hr)
  refine ⟨t, pt.nox, ?_⟩
  have hl := runD_len hrun
  unfold runD at hrun
  rw [if_pos hl] at hrun
  have R := rl_start (N := N) (kk := kk) sf L hk (by omega)
  split at hrun
  · rename_i e1 h1
    cases hrun
    refine st _ _ H Hf _ .nx e1 _ ⟨rfl, rfl, fun _ => rfl⟩ R h1 fun σ' H' Hf' R' S' => ?_
    exact q .non H' Hf' (fun a o z => R'.fr a o z (by simp)) S' R'.sf R'.nw .non
  · rename_i d' e1 h1
    cases hrun
    refine st _ _ H Hf _ (.ret (.im d)) e1 _ ⟨rfl, rfl, fun _ => rfl⟩ R h1 fun v σ' H' Hf' R' S' V' => ?_
    exact q v H' Hf' (fun a o z => R'.fr a o z (by simp)) S' R'.sf R'.nw V'
  · cases hrun
/-- a def that hands back a new list -/
theorem okN (F : FunD K x qual params body scope [] [] f fd) (S : FnScope N ps scope) (hk : N.length = kk) (hn : ps.length = n) (hnk : n ≤ kk)
    (h : ∀ (cdv : Value) (A : Around) (outer : List PySem.Env) (s : Shared) (H : Hp) (E : XK), XO (CxB P w K mg base N qual scope f cdv A outer s H E) j → DSs false (CxB P w K mg base N qual scope f cdv A outer s H E) body m) :
    FnOk P w K mg base CX0 (j + 1) f fd ps (spN K (runN n kk m)) := by
  refine F.ok S (fun vs H Q E ⟨Hf, ds, d, _, L, e, _⟩ => by rw [L.length, runN_len e, hn]) fun cdv A outer s H vs Q E hr ⟨Hf, ds, d, sf, L, hrun, q⟩ => ?_
  obtain ⟨t, pt, st⟩ := h cdv A outer s H E (xo_of S hr)
  refine ⟨t, pt.nox, ?_⟩
  have hl := runN_len hrun
  unfold runN at hrun
  rw [if_pos hl] at hrun
  have R := rl_start (N := N) (kk := kk) sf L hk (by omega)
  split at hrun
  · rename_i xs e1 h1
    cases hrun
    refine st _ _ H Hf _ (.ret (.ow d)) e1 _ ⟨rfl, rfl, fun _ => rfl⟩ R h1 fun v σ' H' Hf' R' S' V' => ?_
    obtain ⟨p, us, rfl, z1, z2, z3, z4⟩ := V'
    exact q p us H' Hf' (fun a o z => R'.fr a o z (by simp)) S' R'.sf R'.nw z2 z1 z3 z4
  · cases hrun
/-- a def that changes its first argument, a list, and hands back a value -/
theorem okI (F : FunD K x qual params body scope [] [] f fd) (S : FnScope N ps scope) (hk : N.length = kk) (hn : ps.length = n) (hnk : n ≤ kk)
    (h : ∀ (cdv : Value) (A : Around) (outer : List PySem.Env) (s : Shared) (H : Hp) (E : XK), XO (CxB P w K mg base N qual scope f cdv A outer s H E) j → DSs true (CxB P w K mg base N qual scope f cdv A outer s H E) body m) :
    FnOk P w K mg base CX0 (j + 1) f fd ps (spI K (runI n kk m)) := by
  refine F.ok S (fun vs H Q E ⟨p, ws, us, Hf, ss, ds, d, ss', ev, _, _, _, _, L, e, _⟩ => by subst ev; rw [List.length_cons, L.length, runI_len e, hn]) fun cdv A outer s H vs Q E hr ⟨p, ws, us, Hf, ss, ds, d, ss', ev, sf, f0, h0, L0, L, hrun, q⟩ => ?_
  subst ev
  obtain ⟨t, pt, st⟩ := h cdv A outer s H E (xo_of S hr)
  refine ⟨t, pt.nox, ?_⟩
  have hl := runI_len hrun
  unfold runI at hrun
  rw [if_pos hl] at hrun
  have hle : ds.length ≤ kk - 1 := by omega
  have R : Rl ⟨K, H, Hf, fun a => some p = some a, some p⟩ (start N (.ref p :: ws)) H Hf (.ow ss :: env0 (kk - 1) ds) := by
    have key : ∀ i s, (env0 (kk - 1) ds)[i]? = some s → s = .un ∨ ∃ d v, s = .im d ∧ (start N (.ref p :: ws))[i + 1]? = some (some v) ∧ Rep K Hf v d := fun i s q => by
      rcases env0_rel (r := N.length - (ws.length + 1)) L q with z | ⟨d, v, z, h1, h2⟩
      · exact .inl z
      · exact .inr ⟨d, v, z, by simpa [L2.start] using h1, h2⟩
    refine ⟨?_, fun _ _ q _ => q, fun b o q _ => ⟨o, q⟩, sf, Same.refl _, fun _ _ q => .inl q, fun i t q => ?_, fun i j a xs ys hij q1 q2 q3 q4 => ?_, fun a q => ?_, fun i j a xs ys hij q1 q2 q3 q4 => ?_⟩
    · rw [List.length_cons, env0_len hle, start_len (by rw [List.length_cons, L.length, hk]; omega), hk]; omega
    · cases i with
      | zero =>
        have q' : some (Sl.ow ss) = some t := q
        cases q'
        exact ⟨p, us, rfl, f0, .inl rfl, h0, L0⟩
      | succ i =>
        rcases key i t (by simpa using q) with z | ⟨d, v, z, h1, h2⟩
        · subst z; trivial
        · subst z; exact ⟨v, h1, h2⟩
    · cases i with
      | zero =>
        cases j with
        | zero => exact hij rfl
        | succ j => rcases key j _ (by simpa using q2) with z | ⟨d, v, z, _⟩ <;> cases z
      | succ i => rcases key i _ (by simpa using q1) with z | ⟨d, v, z, _⟩ <;> cases z
    · cases q
      exact ⟨rfl, ss, rfl⟩
    · cases i with
      | zero => cases q1
      | succ i => rcases key i _ (by simpa using q1) with z | ⟨d, v, z, _⟩ <;> cases z
  have fin : ∀ (v : V) (σ' : L2.St) (H' Hf' : Hp) (e1 : DL.Env) (s' : List D) (d' : D), Rl ⟨K, H, Hf, fun a => some p = some a, some p⟩ σ' H' Hf' (.ow s' :: e1) → Same Hf Hf' → Rep K Hf' v d' → some (d', s') = some (d, ss') → Q v H' := fun v σ' H' Hf' e1 s' d' R' S' V' e => by
    cases e
    obtain ⟨g1, _⟩ := R'.p0 p rfl
    obtain ⟨a, us', z1, _, _, z3, z4⟩ := R'.ownAt (j := 0) rfl
    rw [g1] at z1
    cases z1
    exact q v H' Hf' us' (fun b o z hb => R'.fr b o z (fun y => hb (Option.some.inj y).symm)) S' R'.sf R'.nw z3 z4 V'
  split at hrun
  · rename_i s' e1 h1
    exact st _ _ H Hf _ .nx _ _ ⟨rfl, rfl, fun z => by cases z⟩ R h1 fun σ' H' Hf' R' S' => fin .non σ' H' Hf' e1 s' .non R' S' .non hrun
  · rename_i d' s' e1 h1
    exact st _ _ H Hf _ (.ret (.im d')) _ _ ⟨rfl, rfl, fun z => by cases z⟩ R h1 fun v σ' H' Hf' R' S' V' => fin v σ' H' Hf' e1 s' d' R' S' V' hrun
  · cases hrun
theorem Cal.of {sp : Sp} (F : FunD K x qual params body scope [] [] f fd) (h : FnOk P w K mg base CX0 j f fd ps sp) (hm : mg x = some (.ref f))
    (hb : ∀ (kV doc pm : Value) (an : Option Addr) (cdv ct : Value) (us : List Value), us.length = ps.length → bindArgs (PySem.W.fnOf x qual params body scope .none kV doc pm an cdv ct) ⟨us, []⟩ = pure (ps.zip us)) : Cal P w K mg base j x sp :=
  ⟨f, fd, ps, hm, F.kp, F.bindsN hb, h⟩
/-- no fuel: nothing is promised -/
theorem Cal.zero (F : FunD K x qual params body scope [] [] f fd) (hm : mg x = some (.ref f))
    (hb : ∀ (kV doc pm : Value) (an : Option Addr) (cdv ct : Value) (us : List Value), us.length = ps.length → bindArgs (PySem.W.fnOf x qual params body scope .none kV doc pm an cdv ct) ⟨us, []⟩ = pure (ps.zip us)) : Cal P w K mg base j x (spD K fun _ => none) :=
  by
  refine ⟨f, fd, ps, hm, F.kp, F.bindsN hb, ⟨fun vs H Q E h => ?_, fun A outer s H args us vs Q E _ _ _ _ h => ?_⟩⟩ <;> (obtain ⟨Hf, ds, d, _, L, e, _⟩ := h; cases e)
theorem Cal.zeroI (F : FunD K x qual params body scope [] [] f fd) (hm : mg x = some (.ref f))
    (hb : ∀ (kV doc pm : Value) (an : Option Addr) (cdv ct : Value) (us : List Value), us.length = ps.length → bindArgs (PySem.W.fnOf x qual params body scope .none kV doc pm an cdv ct) ⟨us, []⟩ = pure (ps.zip us)) : Cal P w K mg base j x (spI K fun _ _ => none) :=
  by
  refine ⟨f, fd, ps, hm, F.kp, F.bindsN hb, ⟨fun vs H Q E h => ?_, fun A outer s H args us vs Q E _ _ _ _ h => ?_⟩⟩ <;> (obtain ⟨p, ws, us', Hf, ss, ds, d, ss', ev, _, _, _, _, L, e, _⟩ := h; cases e)
end
end DL

/-! enumerate of a tuple, as the hand layer has it of a list -/
namespace PySem
open Sem (wp)
open AutoSeq1 (wpAny_loadPart')
theorem dl_enum_newT (l : Addr) (items : Array Value) (n : Nat) (dct : Option Addr) (sl : Array (Option Value)) :
    Meets (Builtin.«enumerate.__new__» ⟨[.type "enumerate", .ref l], []⟩) (fun _ R s =>
      s.heap.get? l = some { cls := .type "tuple", dict := dct, data := .seq items n, slots := sl } ∧
      R (.ok (.ret (.ref (s.heap.push { cls := .type "tuple_iterator", data := .fields #[.ref l, .int 0 0] }).objs.size)))
        { s with heap := ((s.heap.push { cls := .type "tuple_iterator", data := .fields #[.ref l, .int 0 0] }).push { cls := .type "enumerate", data := .fields #[.none, .bool false, .ref s.heap.objs.size, rawInt 0, .none, .none] }) }) :=
  .of_wp fun prog w A R s h => by
    obtain ⟨hp, g, d, tk, os⟩ := s
    obtain ⟨hl, h⟩ := h
    have hsub := sub_enumerate
    have hT : Heap.IsTuple (Shared.heap ⟨hp, g, d, tk, os⟩) l items := ⟨_, hl, rfl, n, rfl⟩
    wp_walk using wpAny_loadPart' hl
    refine wpAny_stack_any fun st => wpAny_pure ?_
    split
    · rename_i c _ _ _ _ _
      cases (c == Value.type "enumerate") <;> (wp_walk using wpAny_loadPart' hl, wpAny_pyIter_tuple hT; exact ⟨_, rfl, h⟩)
    · wp_walk using wpAny_loadPart' hl, wpAny_pyIter_tuple hT
      exact ⟨_, rfl, h⟩
section
variable {prog : Program} {w : World} {A : Around} {E : Value → Shared → Prop} {s : Shared}
theorem dl_call_enumT {l : Addr} {items : Array Value} {Q : Value → Shared → Prop} (hL : s.heap.IsTuple l items)
    (h : ∀ h', IsEnum h' (s.heap.objs.size + 1) s.heap.objs.size 0 .none → h'.IsTupleIter s.heap.objs.size l 0 → h'.objs.size = s.heap.objs.size + 2 → (∀ b o, s.heap.get? b = some o → h'.get? b = some o) → Q (.ref (s.heap.objs.size + 1)) { s with heap := h' }) :
    wpAny (model prog w) A (call (.type "enumerate") [.ref l]) Q E s := by
  obtain ⟨⟨c, dct, dt, sl⟩, hl, hc, n, hd⟩ := hL
  simp only at hc hd
  subst hc hd
  refine callType_new F.called_enumerate (by decide) (F.typeCall_enumerate_1 _) (F.newCall_enumerate_1 _) (fun obj => F.args_object_init_2 obj _) F.entry_enumerate_new (dl_enum_newT l items n dct sl) ⟨hl, ?_⟩
  have hz : (s.heap.push { cls := .type "tuple_iterator", data := .fields #[.ref l, .int 0 0] }).objs.size = s.heap.objs.size + 1 := Heap.size_push ..
  show _ ∧ _
  rw [hz]
  have he : IsEnum ((s.heap.push { cls := .type "tuple_iterator", data := .fields #[.ref l, .int 0 0] }).push { cls := .type "enumerate", data := .fields #[.none, .bool false, .ref s.heap.objs.size, rawInt 0, .none, .none] }) (s.heap.objs.size + 1) s.heap.objs.size 0 .none := by
    have q := Heap.get?_push_size (s.heap.push { cls := .type "tuple_iterator", data := .fields #[.ref l, .int 0 0] }) (o := { cls := .type "enumerate", data := .fields #[.none, .bool false, .ref s.heap.objs.size, rawInt 0, .none, .none] }) rfl
    rw [hz] at q
    exact q
  exact ⟨⟨_, he, rfl⟩, h _ he ⟨{ cls := .type "tuple_iterator", data := .fields #[.ref l, .int 0 0] }, Heap.get?_push_of_some _ (Heap.get?_push_size _ rfl), rfl, rfl⟩ (by rw [Heap.size_push, hz]) fun b o x => Heap.get?_push_of_some _ (Heap.get?_push_of_some _ x)⟩
end
end PySem
namespace DL
open PySem PySem.Spec PyProof.Rows L2
/-- the tuple at a, each item in a new pair with its place -/
def ItEt (K : PySem.W.Frag) (a : Addr) : It :=
  ⟨fun i H => ∃ (xs : List V) (x : V), SqT K H a xs ∧ xs[i]? = some x,
   fun i H v H' => ∃ T x, v = .ref T ∧ H T = none ∧ H' = upd H T (.tup [.int (i : Nat), x]) ∧ ∀ xs, SqT K H a xs → xs[i]? = some x,
   fun i H => ∃ xs : List V, SqT K H a xs ∧ xs.length ≤ i⟩
theorem tup_apart {h : Heap} {a e it : Addr} {items : Array Value} {i : Nat} {c : Int} {old : Value} (ht : h.IsTuple a items) (he : IsEnum h e it c old) (hi : h.IsTupleIter it a i) : a ≠ e ∧ a ≠ it := by
  obtain ⟨o, h1, h2, _⟩ := ht
  constructor
  · rintro rfl
    have q : h.get? a = some _ := he
    rw [h1] at q
    cases q
    exact absurd h2 (by simp)
  · rintro rfl
    obtain ⟨o', k1, k2, _⟩ := hi
    rw [h1] at k1
    cases k1
    rw [h2] at k2
    exact absurd k2 (by simp)
theorem turn_enumT {P : Program} {w : World} {K : PySem.W.Frag} {elts : List Expr} {kk : Nat} {tpos : Pos} (a e it : Addr) :
    Turn P w K (.Tuple elts kk tpos) (ItEt K a) [e, it] e (fun i h => (∃ old, IsEnum h e it ((i : Nat) : Int) old) ∧ h.IsTupleIter it a i ∧ e ≠ it) where
  mem := by simp
  obj := fun i h st b hb => by
    obtain ⟨⟨old, he⟩, ⟨o, ho, hc, hd⟩, _⟩ := st
    rcases (by simpa using hb : b = e ∨ b = it) with rfl | rfl
    · exact ⟨_, he, fun v q => nomatch q⟩
    · exact ⟨o, ho, fun v q => by rw [hd] at q; cases q⟩
  keep := fun i h h' st k => by
    obtain ⟨⟨old, he⟩, hi, hne⟩ := st
    exact ⟨⟨old, k e (by simp) _ he⟩, hi.at fun o q => k it (by simp) o q, hne⟩
  item := by
    intro X hP hw hK hc i pins s σ H E I hf st hg
    subst hP hw hK
    obtain ⟨⟨old, he⟩, hit, hne⟩ := st
    obtain ⟨xs, x, hq, hx⟩ := hg
    obtain ⟨its, rv, p, hz⟩ := I.tuple hq
    obtain ⟨u, hu, ru⟩ := rv.get hx
    have hp : s.heap.IsTuple a its.toArray := p
    obtain ⟨na, nb⟩ := tup_apart hp he hit
    have hel : e < s.heap.objs.size := Heap.lt_size he
    have hil : it < s.heap.objs.size := by obtain ⟨_, q, _⟩ := hit; exact Heap.lt_size q
    have hlt : i < its.toArray.size := by
      have := (List.getElem?_eq_some_iff.mp hu).1
      simpa using this
    have hh : X.A.in1.handled = none := I.ok.hd hc
    refine wpAny_pyNext_enum_itemC (Draws.tuple hh it a nb its.toArray) he ⟨hit, hp⟩ hlt hne (by simp [hne, Ne.symm na]) fun u' h' tk hP ho hst' hT hsz hk => ?_
    have eu : u' = u := by
      have q : its.toArray[i]? = some u' := hP
      have q2 : its.toArray[i]? = some u := by simpa using hu
      rw [q2] at q
      exact (Option.some.inj q).symm
    subst eu
    refine ⟨_, rfl, wpAny_letOwnedTupleGo_enum (s := { s with heap := h', toks := tk + 1 }) ho fun h'' he' sb => ?_⟩
    have hT2 : h''.get? s.heap.objs.size = some { cls := .type "tuple", data := .seq #[.int i tk, u'] } := (sb.2 _ (Nat.ne_of_gt hel)).trans hT
    have new : ObjOk X.prog X.w (upd H s.heap.objs.size (.tup [.int (i : Nat), x])) h'' s.heap.objs.size (.tup [.int (i : Nat), x]) := ⟨by show 2 ≤ sizeLine; decide, [.int i tk, u'], .cons ⟨_, rfl⟩ (.cons ru .nil), ⟨_, hT2, rfl, _, rfl⟩⟩
    have I1 : Inv X pins σ (upd H s.heap.objs.size (.tup [.int (i : Nat), x])) { s with heap := h'', toks := tk + 1 } :=
      I.turnedNew (ch := [e, it]) (fun b ob hb q => (sb.2 b (fun z => hb (by simp [z]))).trans (hk b ob (fun z => hb (by simp [z])) (fun z => hb (by simp [z])) q)) hf (Nat.le_refl _) new
    refine ⟨.ref s.heap.objs.size, _, I1, rfl, ⟨_, x, rfl, I.hok.fresh (Nat.le_refl _), rfl, fun ys hy => by rw [I.tuple_inj hy hq]; exact hx⟩, ⟨⟨u', ?_⟩, hst'.1.at fun o q => (sb.2 it (Ne.symm hne)).trans q, hne⟩, fun b hb => ?_⟩
    · rw [show ((i + 1 : Nat) : Int) = (i : Int) + 1 by omega]
      exact he'
    · have hb' : b < s.heap.objs.size := by
        rcases (by simpa using hb : b = e ∨ b = it) with rfl | rfl
        · exact hel
        · exact hil
      rw [upd_ne (Nat.ne_of_lt hb')]
      exact (hf b hb).1
  done := by
    intro X hP hw hK hc i pins s σ H E I hf st hg
    subst hP hw hK
    obtain ⟨⟨old, he⟩, hit, hne⟩ := st
    obtain ⟨xs, hq, hx⟩ := hg
    obtain ⟨its, rv, p, hz⟩ := I.tuple hq
    have hp : s.heap.IsTuple a its.toArray := p
    obtain ⟨na, nb⟩ := tup_apart hp he hit
    obtain ⟨f0, f1, f2, f3, f4, f5⟩ := hf it (by simp)
    have hl := rv.length
    have hh : X.A.in1.handled = none := I.ok.hd hc
    have Dr : Draws X.prog X.w X.A.in1 it [it, a] i (fun _ _ => False) (fun j h => j = i ∧ h.IsTupleIter it a i ∧ h.IsTuple a its.toArray) :=
      { live := fun _ _ st => by obtain ⟨_, ⟨o, ho, _⟩, _⟩ := st; exact ⟨o, ho⟩
        frame := fun _ _ _ st hk => ⟨st.1, st.2.1.at fun o e => hk it (by simp) o e, st.2.2.at fun o e => hk a (by simp) o e⟩
        item := fun j s Q E hj st hQ => absurd st.1 (Nat.ne_of_lt hj)
        done := fun s Q E st hE => wpAny_nextOf_tuple_end hh st.2.1 st.2.2 (by simp; omega) hE }
    exact wpAny_pyNext_enum_endD Dr he ⟨rfl, hit, hp⟩ fun h' eb => ⟨rfl, I.turned (t' := s.toks) (fun b o hb q => eb b o hb q) f0 f1 f3 f4 f5⟩
  self := fun A i s Q E st h => by
    obtain ⟨⟨_, he⟩, _⟩ := st
    exact wpAny_pyIter_enum he h
theorem pi_enumT {X : Cx} {e : Expr} {ta : TA} {p pos tpos : Pos} {elts : List Expr} {kk : Nat} (hg : Gl X "enumerate") (hm : X.mg "enumerate" = none) (ha : PA X [e] ta) (hs : starEach [e] X.env = [(false, eval e X.env)]) :
    PI X (.Tuple elts kk tpos) (.Call (.Name "enumerate" p) [e] [] pos) (fun σ H R => ta σ H fun vs H1 => ∃ a xs, vs = [.ref a] ∧ SqT X.K H1 a xs ∧ R (ItEt X.K a) H1) := by
  refine ⟨fun pins s σ H R I h => ?_⟩
  refine Call_ (ld_blt I hg hm boot_enumerate (PyProof.Rows.callWith_type1 (thn (ha.run pos pins s σ H _ I h) fun us s1 ⟨vs, H1, I1, r1, q1⟩ => ?_) hs rfl))
  obtain ⟨a, xs, ex, hq, q⟩ := q1
  subst ex
  obtain rfl := Vals.ref1 r1
  obtain ⟨its, rv, p', hz⟩ := I1.tuple hq
  refine dl_call_enumT (show s1.heap.IsTuple a its.toArray from p') fun h' he hit hsz hk => wpAny_pyIter_enum he ?_
  have I2 : Inv X pins σ H1 { s1 with heap := h' } := I1.kept (t' := s1.toks) hk
  refine ⟨s1.heap.objs.size + 1, [s1.heap.objs.size + 1, s1.heap.objs.size], _, _, H1, rfl, I2, turn_enumT a (s1.heap.objs.size + 1) s1.heap.objs.size, ⟨⟨.none, he⟩, hit, Nat.succ_ne_self _⟩, fun b hb => ?_, q⟩
  have hle : s1.heap.objs.size ≤ b := by
    rcases (by simpa using hb : b = s1.heap.objs.size + 1 ∨ b = s1.heap.objs.size) with z | z
    · rw [z]; exact Nat.le_add_right _ _
    · rw [z]; exact Nat.le_refl _
  exact I1.fpOk hle (I1.hok.fresh hle)
theorem enumD_len : ∀ (xs : List D) (i : Nat), (enumD i xs).length = xs.length
  | [], _ => rfl
  | x :: xs, i => by simp [enumD, enumD_len xs (i + 1)]
theorem enumD_get : ∀ {xs : List D} {i j : Nat} {d : D}, xs[i]? = some d → (enumD j xs)[i]? = some (.tup [.int ((j + i : Nat) : Int), d])
  | [], _, _, _, h => by simp at h
  | x :: xs, 0, j, d, h => by simp at h; subst h; rfl
  | x :: xs, i + 1, j, d, h => by
    have q := enumD_get (xs := xs) (i := i) (j := j + 1) (d := d) (by simpa using h)
    simp only [enumD, List.getElem?_cons_succ]
    rw [q, Nat.add_assoc, Nat.add_comm 1 i]
theorem wk_enum {K : PySem.W.Frag} {Hf : Hp} {a : Addr} {xs : List V} {ds : List D} (h1 : SqL K Hf a xs) (r1 : RepL K Hf xs ds) : WkD K Hf (Ite K a) (enumD 0 ds) := by
  have w := walk_enum (K := K) (a := a) (xs := xs)
  unfold WkD
  rw [enumD_len, ← r1.length]
  refine w.mono (fun H s => sqL_mono s h1) fun i H v H' hi s y => ?_
  obtain ⟨T, x, y, rfl, hn, rfl, g1, g2⟩ := y
  cases g1
  obtain ⟨d, k1, k2⟩ := r1.getV g2
  have q := enumD_get (j := 0) k1
  rw [Nat.zero_add] at q
  exact ⟨_, q, .inr (.inl ⟨T, _, hn, rfl, pair_rep hn s (.int _) k2⟩)⟩
theorem wk_enumT {K : PySem.W.Frag} {Hf : Hp} {a : Addr} {xs : List V} {ds : List D} (h0 : TpA Hf a xs) (r1 : RepL K Hf xs ds) : WkD K Hf (ItEt K a) (enumD 0 ds) := by
  have h1 : SqT K Hf a xs := h0.sq
  unfold WkD
  rw [enumD_len, ← r1.length]
  refine ⟨fun i H hi s => ⟨xs, xs[i]'hi, sqT_mono s h1, List.getElem?_eq_getElem hi⟩, fun H s => ⟨xs, sqT_mono s h1, Nat.le_refl _⟩, fun i H v H' hi s y => ?_⟩
  obtain ⟨T, y, rfl, hn, rfl, g2⟩ := y
  obtain ⟨d, k1, k2⟩ := r1.getV (g2 xs (sqT_mono s h1))
  have q := enumD_get (j := 0) k1
  rw [Nat.zero_add] at q
  exact ⟨_, q, .inr (.inl ⟨T, _, hn, rfl, pair_rep hn s (.int _) k2⟩)⟩
theorem di_enum {X : Cx} {a : Expr} {ma : M D} {p pos : Pos} {elts : List Expr} {kk : Nat} {tpos : Pos} (ha : DE X a ma) (hm0 : X.mg "enumerate" = none) (hg : Gl X "enumerate" := by rfl) (hs : starEach [a] X.env = [(false, eval a X.env)] := by rfl) :
    DI X (.Tuple elts kk tpos) (.Call (.Name "enumerate" p) [a] [] pos) (iEnum ma) := by
  obtain ⟨t, pa, s⟩ := ha
  refine ⟨_, pi_or (pi_enum hg hm0 (pa_cons pa pa_nil hs) hs) (pi_enumT hg hm0 (pa_cons pa pa_nil hs) hs), fun c σ H Hf e ds e' R hK R0 hm q => ?_⟩
  unfold iEnum at hm
  split at hm
  · rename_i ys e2 h2
    cases hm
    refine .inl (s c σ H Hf e _ _ _ hK R0 h2 fun v H1 Hf1 R1 S1 V1 => ?_)
    cases V1 with
    | lst hs rs => exact ⟨_, _, rfl, hK ▸ R1.seqL hs, q _ _ Hf1 R1 S1 (hK ▸ wk_enum hs rs)⟩
  · rename_i ys e2 h2
    cases hm
    refine .inr (s c σ H Hf e _ _ _ hK R0 h2 fun v H1 Hf1 R1 S1 V1 => ?_)
    cases V1 with
    | tup hs rs => exact ⟨_, _, rfl, hK ▸ R1.seqT hs, q _ _ Hf1 R1 S1 (hK ▸ wk_enumT hs rs)⟩
  · cases hm
end DL

namespace DL
open PySem PySem.Spec PyProof.Rows L2
variable {X : Cx} {k : Nat}
theorem de_globI {x : Str} {n : Int} {pos : Pos} (hm : ∃ t, X.mg x = some (.int n t)) (hg : Gl X x := by rfl) (hd : (x == ("__debug__" : Str)) = false := by decide) : DE X (.Name x pos) (mC (.int n)) := by
  obtain ⟨t, h⟩ := hm
  exact de_glob h ⟨t, rfl⟩ hg hd
theorem bb_len : bootBuiltins ("len" : Str) = some (.builtin "len") := by decide +kernel
theorem bb_max : bootBuiltins ("max" : Str) = some (.builtin "max") := by decide +kernel
theorem bb_min : bootBuiltins ("min" : Str) = some (.builtin "min") := by decide +kernel
theorem bb_sum : bootBuiltins ("sum" : Str) = some (.builtin "sum") := by decide +kernel
theorem bb_abs : bootBuiltins ("abs" : Str) = some (.builtin "abs") := by decide +kernel
theorem bb_all : bootBuiltins ("all" : Str) = some (.builtin "all") := by decide +kernel
theorem bb_any : bootBuiltins ("any" : Str) = some (.builtin "any") := by decide +kernel
theorem bb_sorted : bootBuiltins ("sorted" : Str) = some (.builtin "sorted") := by decide +kernel
theorem bb_tuple : bootBuiltins ("tuple" : Str) = some (.type "tuple") := by decide +kernel
theorem bb_list : bootBuiltins ("list" : Str) = some (.type "list") := by decide +kernel
theorem bb_int : bootBuiltins ("int" : Str) = some (.type "int") := by decide +kernel
theorem bb_bool : bootBuiltins ("bool" : Str) = some (.type "bool") := by decide +kernel
theorem bb_str : bootBuiltins ("str" : Str) = some (.type "str") := by decide +kernel
/-! ### arguments that are looked at alone -/
def DAb (X : Cx) (es : List Expr) (m : M (List D)) : Prop := ∃ t, PA X es t ∧ ∀ (c : Ct) (σ : L2.St) (H Hf : Hp) (e : DL.Env) (ds : List D) (e' : DL.Env) (Q : List V → Hp → Prop), c.K = X.K → Rl c σ H Hf e → m e = some (ds, e') →
  (∀ vs H' Hf', Rl c σ H' Hf' e' → Same Hf Hf' → RepL c.K H' vs ds → Q vs H') → t σ H Q
section
variable {ea : Expr} {es : List Expr} {m : M D} {r : M (List D)} {pos p : Pos} {x : Str} {j : Nat}
theorem db_nil : DAb X [] mNil := ⟨_, pa_nil, fun c σ H Hf e d e' Q hK R hm q => by cases hm; exact q [] H Hf R (Same.refl _) .nil⟩
theorem db_cons (ha : DE X ea m) (hr : DAb X es r) (hs : starEach (ea :: es) X.env = (false, eval ea X.env) :: starEach es X.env := by rfl) : DAb X (ea :: es) (mCons m r) := by
  obtain ⟨t, p, s⟩ := ha
  obtain ⟨u, p2, s2⟩ := hr
  refine ⟨_, pa_cons p p2 hs, fun c σ H Hf e d e' Q hK R hm q => ?_⟩
  unfold mCons at hm
  split at hm
  · cases hm
  rename_i x e1 h1
  split at hm
  · cases hm
  rename_i xs e2 h2
  cases hm
  refine s c σ H Hf e _ _ _ hK R h1 fun v H1 Hf1 R1 S1 V1 => ?_
  exact s2 c σ H1 Hf1 _ _ _ _ hK R1 h2 fun vs H' Hf' R' S' V' => q _ H' Hf' R' (S1.trans S') (.cons ((V1.mono S').mono R'.sf) V')
theorem db_own {y : Str} {py : Pos} (i : Nat) (hr : DAb X es r) (hN : X.N[i]? = some y := by rfl) (hv : Vis X.env.scope y := by first | exact Or.inl rfl | exact Or.inr (Or.inl rfl) | exact Or.inr (Or.inr rfl))
    (hd : (y == ("__debug__" : Str)) = false := by decide) (hcd : (y == ("__classdict__" : Str)) = false := by decide) (hs : starEach (.Name y py :: es) X.env = (false, eval (.Name y py) X.env) :: starEach es X.env := by rfl) : DAb X (.Name y py :: es) (mConsO i r) := by
  obtain ⟨u, p2, s2⟩ := hr
  refine ⟨_, pa_cons (pe_var hN hv hd hcd) p2 hs, fun c σ H Hf e d e' Q hK R hm q => ?_⟩
  unfold mConsO at hm
  split at hm
  · rename_i s0 g0
    obtain ⟨a, _, hv0, _⟩ := R.ownAt g0
    split at hm
    · cases hm
    rename_i xs e1 h1
    split at hm
    · rename_i ys h2
      cases hm
      refine ⟨_, hv0, s2 c σ H Hf _ _ _ _ hK R h1 fun vs H' Hf' R' S' V' => ?_⟩
      obtain ⟨a', us, z1, z2, _, z3, z4⟩ := R'.ownAt h2
      rw [hv0] at z1
      cases z1
      exact q _ H' Hf' R' S' (.cons (.lst (.of z3) (z4.mono R'.sf)) V')
    · cases hm
  · cases hm
theorem flat_rep {K : PySem.W.Frag} {H H' : Hp} {v : V} {d : D} (h : Rep K H v d) (f : D.flat d = true) : Rep K H' v d := by
  cases h <;> first | exact .non | exact .bl _ | exact .int _ | exact .str _ | cases f
theorem de_callb {f : List D → Option D} (O : XO X k) (G : Cal X.prog X.w X.K X.mg X.base j x (spD X.K f)) (ha : DAb X (ea :: es) r) (hj : j ≤ k := by decide) (hg : Gl X x := by rfl) (hdb : (x == ("__debug__" : Str)) = false := by decide)
    (he : starEach (ea :: es) X.env = (false, eval ea X.env) :: starEach es X.env := by rfl) (hpl : (backTo pos (starEach es X.env)).any (·.1) = false := by rfl) : DE X (.Call (.Name x p) (ea :: es) [] pos) (mFb f r) := by
  obtain ⟨fa, fd, ps, h1, h2, h3, h4⟩ := G.mono hj
  obtain ⟨t, pa, s⟩ := ha
  refine ⟨_, pe_call h4 O.room hg h1 h2 h3 .nil pass0 pa hdb he hpl, fun c σ H Hf e d e' Q hK R hm q => ?_⟩
  unfold mFb at hm
  split at hm
  · cases hm
  rename_i xs e1 g1
  split at hm
  · cases hm
  rename_i d' g2
  split at hm
  · rename_i hf
    cases hm
    refine s c σ H Hf e _ _ _ hK R g1 fun vs H1 Hf1 R1 S1 V1 => ?_
    rw [List.append_nil]
    exact ⟨H1, xs, _, Same.refl _, hK ▸ V1, g2, fun v H' Hf' a1 a2 a3 a4 a5 => q v H' Hf1 (R1.call a1 (Same.refl _) (R1.sf.trans a1) fun _ _ z => .inl z) S1 (flat_rep (hK ▸ a5) hf)⟩
  · cases hm
end
/-! ### the end of a law -/
theorem walk_ofEB {l : PySem.W.OpenLaw} {n k : Nat} {q : Program} {loose : List Str} {XP : (Str → Option Value) → Heap → Prop} {YP : World → Heap → Prop} {d : DefRec} {CX : CXT} {x : Str} (hn : l.most = some n) (hn2 : n ≤ sizeLine) (hdf : d.params.defaults = []) (hr : Room k callerA)
    (F : ∀ (w : World) (mg : Str → Option Value) (fa : Addr) (h : Heap), YP w h → h.Ns mainGlobals mg → mg d.name = some (.ref fa) → ∃ (K : PySem.W.Frag) (fd : FuncData) (sp : Sp), K.In h ∧ (∀ (s : Shared) (u : Value), BindsTo s fd ⟨[u], []⟩ [(x, u)]) ∧
        (∀ (H : Hp) (a : Addr) (ns : List Int), ns.length ≤ n → (∀ z ∈ ns, Builtin.Int.intBits z ≤ 1048576) → Only H → SqL K H a (ns.map V.int) → sp [.ref a] H (fun v _ => v = .bl true) fun _ _ _ => False) ∧ ∀ base : Heap, K.In base → base.Ns mainGlobals mg → FnOk l.prog w K mg base CX k fa fd [x] sp)
    (hCX : ∀ (H : Hp) (s : Shared) (e : Value) (s' : Shared), CX [] H s (fun _ _ _ => False) e s' → False) : PySem.W.WalkO q loose XP YP l.row.toRowW d [] (fun f vs => PySem.call f vs) := by
  refine Att.attach_callB hn hdf fun w s₀ s₁ mg mb fa o pm cd doc a vs ns G Y ho hd hcd hmg hobj hints hlen hbits hg => ?_
  obtain ⟨K, fd, sp, KX, hb, hsp, hF⟩ := F w mg fa _ Y G.T.g hmg
  exact law_call KX G.T.g G.T.b G.T.builtins G.T.nolimit hg hobj hints (Nat.le_trans hlen hn2) hr hF hb (fun H hO hS => hsp H a ns hlen hbits hO hS) fun H e s' => hCX H s₁ e s'
theorem law_end {K : PySem.W.Frag} {f : List D → Option D} {H : Hp} {a : Addr} {ns : List Int} (h : f [.lst (ns.map .int)] = some (.bl true)) (hS : SqL K H a (ns.map V.int)) : spD K f [.ref a] H (fun v _ => v = .bl true) fun _ _ _ => False :=
  ⟨H, [.lst (ns.map .int)], .bl true, Same.refl _, .cons (.lst hS (.of_ints ns)) .nil, h, fun v H' Hf' _ _ _ _ r => r.bl_inv⟩
end DL

namespace DL
open PySem PySem.Spec PyProof.Rows L2
section
variable {X : L2.Cx} {p pos : Pos} {k : Nat}
theorem dt_oEq {b : Expr} {mb : M D} {y : Str} {py : Pos} (O : XO X k) (i : Nat) (hb : DE X b mb) (hmk : behindInMarks .Eq b = false := by first | exact nomark _ | rfl) (hN : X.N[i]? = some y := by rfl) (hv : Vis X.env.scope y := by first | exact Or.inl rfl | exact Or.inr (Or.inl rfl) | exact Or.inr (Or.inr rfl))
    (hd : (y == ("__debug__" : Str)) = false := by decide) (hcd : (y == ("__classdict__" : Str)) = false := by decide) : DT X (.Compare (.Name y py) [.Eq] [b] pos) (tVal (mOBin oEq i mb)) := by
  obtain ⟨tb, pb, sb⟩ := hb
  refine ⟨_, pt_cmpR (op_eqP O.room.units) (pe_var hN hv hd hcd) pb hmk, fun c σ H Hf e d e' Q hK R hm q => ?_⟩
  unfold tVal at hm
  split at hm
  rotate_left
  · cases hm
  rename_i kk ek hm2
  cases hm
  unfold mOBin at hm2
  split at hm2
  · rename_i s0 g0
    obtain ⟨a, _, hv, _⟩ := R.ownAt g0
    split at hm2
    · cases hm2
    rename_i y' e1 g1
    split at hm2
    · rename_i xs g2
      split at hm2
      · cases hm2
      rename_i z g3
      cases hm2
      refine ⟨_, hv, sb c σ H Hf e _ _ _ hK R g1 fun v H1 Hf1 R1 S1 V1 => ?_⟩
      obtain ⟨a', us, z1, z2, _, z3, z4⟩ := R1.ownAt g2
      rw [hv] at z1
      cases z1
      unfold oEq at g3
      split at g3
      · rename_i hc
        cases g3
        obtain ⟨hx, hy⟩ := Bool.and_eq_true_iff.mp hc
        have px := D.ok_pl hx
        have py := D.ok_pl hy
        refine ⟨_, _, hK ▸ (Rep.lst (.of z3) (z4.mono R1.sf)).dp px, hK ▸ (V1.mono R1.sf).dp py, plain_toPy _ px, plain_toPy _ py, Nat.le_trans (dep_toPy _ px) (D.ok_dep hx), ?_⟩
        rw [eqv_toPy _ _ px py]
        exact ⟨_, rfl, q _ _ R1 S1⟩
      · cases g3
    · cases hm2
  · cases hm2
theorem dt_oNe {b : Expr} {mb : M D} {y : Str} {py : Pos} (O : XO X k) (i : Nat) (hb : DE X b mb) (hmk : behindInMarks .NotEq b = false := by first | exact nomark _ | rfl) (hN : X.N[i]? = some y := by rfl) (hv : Vis X.env.scope y := by first | exact Or.inl rfl | exact Or.inr (Or.inl rfl) | exact Or.inr (Or.inr rfl))
    (hd : (y == ("__debug__" : Str)) = false := by decide) (hcd : (y == ("__classdict__" : Str)) = false := by decide) : DT X (.Compare (.Name y py) [.NotEq] [b] pos) (tVal (mOBin oNe i mb)) := by
  obtain ⟨tb, pb, sb⟩ := hb
  refine ⟨_, pt_cmpR (op_neP O.room.units) (pe_var hN hv hd hcd) pb hmk, fun c σ H Hf e d e' Q hK R hm q => ?_⟩
  unfold tVal at hm
  split at hm
  rotate_left
  · cases hm
  rename_i kk ek hm2
  cases hm
  unfold mOBin at hm2
  split at hm2
  · rename_i s0 g0
    obtain ⟨a, _, hv, _⟩ := R.ownAt g0
    split at hm2
    · cases hm2
    rename_i y' e1 g1
    split at hm2
    · rename_i xs g2
      split at hm2
      · cases hm2
      rename_i z g3
      cases hm2
      refine ⟨_, hv, sb c σ H Hf e _ _ _ hK R g1 fun v H1 Hf1 R1 S1 V1 => ?_⟩
      obtain ⟨a', us, z1, z2, _, z3, z4⟩ := R1.ownAt g2
      rw [hv] at z1
      cases z1
      unfold oNe at g3
      split at g3
      · rename_i hc
        cases g3
        obtain ⟨hx, hy⟩ := Bool.and_eq_true_iff.mp hc
        have px := D.ok_pl hx
        have py := D.ok_pl hy
        refine ⟨_, _, hK ▸ (Rep.lst (.of z3) (z4.mono R1.sf)).dp px, hK ▸ (V1.mono R1.sf).dp py, plain_toPy _ px, plain_toPy _ py, Nat.le_trans (dep_toPy _ px) (D.ok_dep hx), ?_⟩
        rw [eqv_toPy _ _ px py]
        exact ⟨_, rfl, q _ _ R1 S1⟩
      · cases g3
    · cases hm2
  · cases hm2
end
end DL

/-! t[::-1] of a tuple -/
namespace HT
open PySem PyProof.Rows
theorem revAdjust (n : Nat) : Builtin.Slice.sliceAdjust none none (-1) (n : Int) = ((n : Int) - 1, -1) := by
  unfold Builtin.Slice.sliceAdjust
  have h1 : ((-1 : Int) < 0) := by decide
  simp only [h1, if_true]
theorem revPlaces (n : Nat) : Builtin.Slice.slicePlaces ((n : Int) - 1) (-1) (-1) = n := by
  unfold Builtin.Slice.slicePlaces
  have h1 : ¬ ((-1 : Int) > 0) := by decide
  simp only [h1, if_false]
  by_cases h : (n : Int) - 1 > -1
  · simp only [h, if_true]
    rw [show ((n : Int) - 1 - -1 - 1) / (- -1) + 1 = (n : Int) by rw [show (- -1 : Int) = 1 by decide, Int.ediv_one]; omega]
    omega
  · simp only [h, if_false]
    omega
section
variable {prog : Program} {w : World} {A : Around} {E : Value → Shared → Prop} {s : Shared}
theorem sliceApplied_rev {sl : Addr} {vk : Value} {n : Nat} {Q : Int × Int × Nat → Shared → Prop} (hs : s.heap.IsSliceOf sl .none .none vk) (pk : IsPart vk (some (-1)))
    (h : Q ((n : Int) - 1, -1, n) s) : wpAny (model prog w) A (Builtin.Slice.sliceApplied (.ref sl) (pure (n : Int))) Q E s := by
  obtain ⟨os, hos, hcs, hds⟩ := id hs
  unfold Builtin.Slice.sliceApplied Builtin.Slice.sliceFields
  refine wpAny_bind (wpAny_bind (wpAny_field hos hds (x := .none) rfl (wpAny_bind (wpAny_field hos hds (x := .none) rfl (wpAny_bind (wpAny_field hos hds (x := vk) rfl (wpAny_pure ?_)))))))
  refine wpAny_bind (slicePart_ pk ?_)
  show wpAny _ _ (if ((-1 : Int) == 0) = true then _ else _) _ _ s
  rw [if_neg (by decide)]
  refine wpAny_bind (slicePart_none (wpAny_bind (slicePart_none (wpAny_bind (wpAny_pure ?_)))))
  show wpAny _ _ (match Builtin.Slice.sliceAdjust none none (-1) (n : Int) with | (lo, hi) => pure (lo, (-1 : Int), Builtin.Slice.slicePlaces lo hi (-1))) _ _ s
  rw [revAdjust n]
  show wpAny _ _ (pure ((n : Int) - 1, (-1 : Int), Builtin.Slice.slicePlaces ((n : Int) - 1) (-1) (-1))) _ _ s
  rw [revPlaces]
  exact wpAny_pure h
theorem fmc {α β : Type} {f g : α → Option β} : ∀ (l : List α), (∀ x ∈ l, f x = g x) → l.filterMap f = l.filterMap g
  | [], _ => rfl
  | a :: l, h => by
    have ih := fmc l fun x hx => h x (List.mem_cons_of_mem _ hx)
    rw [List.filterMap_cons, List.filterMap_cons, h a (List.mem_cons_self ..), ih]
theorem rev_pick (xs : Array Value) : ((List.range xs.size).filterMap fun (k : Nat) => xs[((xs.size : Int) - 1 + (k : Int) * -1).toNat]?).toArray = xs.toList.reverse.toArray := by
  congr 1
  have e := PySem.W.krv_all xs
  have e1 := congrArg List.reverse e
  rw [← List.filterMap_reverse, ← PySem.W.krv_range, List.filterMap_map] at e1
  rw [← e1]
  apply fmc
  intro k hk
  have := List.mem_range.mp hk
  show _ = xs[xs.size - 1 - k]?
  rw [show ((xs.size : Int) - 1 + (k : Int) * -1).toNat = xs.size - 1 - k by omega]
theorem getItem_tuple_rev {t sl : Addr} {items : Array Value} {vk : Value} {Q : Value → Shared → Prop} (ht : IsTup s.heap t items) (hs : s.heap.IsSliceOf sl .none .none vk) (pk : IsPart vk (some (-1)))
    (h : Q (.ref s.heap.objs.size) { s with heap := s.heap.push { cls := .type "tuple", data := .seq items.toList.reverse.toArray } })
    (hsz : items.size ≤ sizeLine) : wpAny (model prog w) A (getItem (.ref t) (.ref sl)) Q E s := by
  have htake : sizeOk (.seq items.toList.reverse.toArray) := by
    show items.toList.reverse.toArray.size ≤ sizeLine
    rw [List.size_toArray, List.length_reverse, Array.length_toList]
    exact hsz
  obtain ⟨os, hos, hcs, hds⟩ := id hs
  have hTs : s.TypeIs (.ref sl) "slice" := ⟨os, hos, hcs⟩
  unfold getItem
  try with_reducible refine wpAny_holding ?_
  first | refine wpAny_bind (wpAny_pure ?_) | skip
  refine wpAny_bind (wpAny_sequenceKey ht.typeIs (by decide) ?_)
  refine wpAny_bind (wpAny_callSpecial?_slot (name := Str.ofString "__getitem__") ht.typeIs PyProof.Rows.slot_tuple_getitem
    (wpAny_call_entry PyProof.Rows.slot_tuple_getitem ht.typeIs entry_tuple_getitem ?_ (args_tuple_getitem _ _)))
  show wpAny _ _ (Builtin.Tuple.tupleItemsOf (.ref t) >>= _) _ _ s
  refine wpAny_bind (tupleItemsOf_ ht ?_)
  refine wpAny_bind (wpAny_typeOf hTs ?_)
  rw [if_pos (by decide)]
  refine wpAny_bind (sliceApplied_rev (n := items.size) hs pk ?_)
  have hno : ¬ ((((items.size : Int) - 1) == 0 && (-1 : Int) == 1 && items.size == items.size) = true) := by
    intro q
    rw [Bool.and_eq_true, Bool.and_eq_true] at q
    exact absurd q.1.2 (by decide)
  show wpAny _ _ (if (((items.size : Int) - 1) == 0 && (-1 : Int) == 1 && items.size == items.size) = true then _ else _) _ _ s
  rw [if_neg hno, rev_pick]
  first
    | exact wpAny_bind (m := Builtin.Tuple.tupleExact _) (wpAny_newObj_type (wpAny_pure ⟨_, rfl, wpAny_pure h⟩) htake)
    | exact wpAny_bind (m := Builtin.Tuple.tupleExact _) (wpAny_newObj_type (wpAny_bind (wpAny_pure (wpAny_pure ⟨_, rfl, wpAny_pure h⟩))) htake)
    | exact wpAny_bind (wpAny_bind (m := Builtin.Tuple.tupleExact _) (wpAny_newObj_type (wpAny_pure (wpAny_pure ⟨_, rfl, wpAny_pure h⟩)) htake))
    | exact wpAny_bind (wpAny_bind (m := Builtin.Tuple.tupleExact _) (wpAny_newObj_type (wpAny_pure ⟨_, rfl, wpAny_pure h⟩) htake))
end
end HT
namespace DL
open PySem PySem.Spec PyProof.Rows L2
section
variable {X : L2.Cx}
def tRevT (K : PySem.W.Frag) (te : TE) : TE := fun σ H Q => te σ H fun x H1 => ∃ a xs, x = .ref a ∧ SqT K H1 a xs ∧ ∀ p, H1 p = none → Q (.ref p) (upd H1 p (.tup xs.reverse))
theorem pe_revT {e : Expr} {te : TE} {k : Nat} {p1 p2 p3 pos : Pos} (he : PE X e te) : PE X (.Subscript e (.Slice none none (some (.UnaryOp .USub (.Constant (.int 1) k p1) p2)) p3) pos) (tRevT X.K te) := by
  refine ⟨fun pins s σ H Q I h => ?_⟩
  refine Subscript_ (thn (he.run pins s σ H _ I h) fun v s1 ⟨x, H1, I1, r1, q1⟩ => ?_)
  obtain ⟨a, xs, ex, hx, q⟩ := q1
  subst ex
  cases r1
  have hst : PO X (some (.UnaryOp .USub (.Constant (.int 1) k p1) p2)) (tPart (tUn (rU fun i => .int (-i)) (tC (.int 1)))) := po_some (pe_un un_neg pe_int)
  refine wpAny_Slice (thn (po_none.run pins s1 σ H1 (fun o H2 => o = none ∧ H2 = H1) I1 ⟨rfl, rfl⟩) fun vl s2 ⟨l, H2, I2, pl, el, e2⟩ => ?_)
  subst el e2
  refine thn (po_none.run pins s2 σ H2 (fun o H3 => o = none ∧ H3 = H2) I2 ⟨rfl, rfl⟩) fun vu s3 ⟨u, H3, I3, pu, eu, e3⟩ => ?_
  subst eu e3
  refine thn (hst.run pins s3 σ H3 (fun o H4 => o = some (-1) ∧ H4 = H3) I3 ⟨1, rfl, -1, rfl, rfl, rfl⟩) fun vs s4 ⟨o, H4, I4, ps, eo, e4⟩ => ?_
  subst eo e4
  cases pl
  cases pu
  have I5 : Inv X pins σ H4 { s4 with heap := s4.heap.push { cls := .type "slice", data := .fields #[.none, .none, vs] } } := I4.kept (t' := s4.toks) fun b ob q => Heap.get?_push_of_some _ q
  obtain ⟨its, r, ht, hz⟩ := I5.tuple hx
  have hlen := r.length
  show wpAny (model X.prog X.w) X.A (subscriptTail e (.Slice none none (some (.UnaryOp .USub (.Constant (.int 1) k p1) p2)) p3) (.ref a) (.ref s4.heap.objs.size)) (EP X pins σ Q) X.xe { s4 with heap := s4.heap.push { cls := .type "slice", data := .fields #[.none, .none, vs] } }
  refine tail_any (ops := [.ref a, .ref s4.heap.objs.size]) ht.typeIs PyProof.Rows.slot_tuple_getitem.lookup ?_ (by with_unfolding_all rfl)
  refine HT.getItem_tuple_rev ht (Heap.IsSliceOf.new _ .none .none vs) ps ?_ (by rw [List.size_toArray]; omega)
  refine ⟨.ref _, _, I5.laid (t' := s4.toks) (o := .tup xs.reverse) (fun b ob q => Heap.get?_push_of_some _ q) (Nat.le_refl _) ?_, rfl, q _ (I5.hok.fresh (Nat.le_refl _))⟩
  exact ⟨by rw [List.length_reverse]; exact hz, _, r.reverse, IsTup.new _ _⟩
theorem de_revT {a : Expr} {ma : M D} {k : Nat} {p1 p2 p3 pos : Pos} (ha : DE X a ma) : DE X (.Subscript a (.Slice none none (some (.UnaryOp .USub (.Constant (.int 1) k p1) p2)) p3) pos) (mRevT ma) := by
  obtain ⟨ta, pa, sa⟩ := ha
  refine ⟨_, pe_revT pa, fun c σ H Hf e d e' Q hK R hm q => ?_⟩
  unfold mRevT at hm
  split at hm
  · rename_i xs e1 h1
    cases hm
    refine sa c σ H Hf e _ _ _ hK R h1 fun v H1 Hf1 R1 S1 V1 => ?_
    cases V1 with
    | tup hs rs => exact ⟨_, _, rfl, hK ▸ R1.seqT hs, fun p hp => R1.newT hp rs.rev fun u H' Hf' R' S' V' => q u H' Hf' R' (S1.trans S') V'⟩
  · cases hm
end
end DL

/-! sorted of tuples of ints -/
namespace SrtO
open PySem PySem.Spec PyProof.Rows Srt
/-- v is a tuple of ints in the heap -/
def IsIT (h : Heap) (v : Value) (xs : List Int) : Prop := ∃ a o vs n, v = .ref a ∧ h.get? a = some o ∧ o.cls = .type "tuple" ∧ o.data = .seq (List.toArray vs) n ∧ IntsAre vs xs
theorem IsIT.keeps {h h' : Heap} {v : Value} {xs : List Int} (p : IsIT h v xs) (k : ∀ b o, h.get? b = some o → o.cls = .type "tuple" → h'.get? b = some o) : IsIT h' v xs := by
  obtain ⟨a, o, vs, n, e, ho, hc, hd, hi⟩ := p
  exact ⟨a, o, vs, n, e, k _ _ ho hc, hc, hd, hi⟩
theorem ints_length : ∀ {vs : List Value} {xs : List Int}, IntsAre vs xs → vs.length = xs.length
  | _, _, .nil => rfl
  | _, _, .cons n t r => congrArg (· + 1) (ints_length r)
section
variable {prog : Program} {w : World} {A : Around} {s : Shared}
theorem kat_ints {b : Bool} {Q : Bool → Shared → Prop} : ∀ {xs ys : List Int} {vs us : List Value}, IntsAre vs xs → IntsAre us ys → ∀ i : Nat, Q (HT.lexLt xs ys) s → PySem.W.KatLex prog w A b (decide (vs.length < us.length)) Q (vs.zip us) i s
  | _, _, _, _, .nil, .nil, i, q => PySem.W.kat_nil q
  | _, _, _, _, .nil, .cons _ _ _, i, q => PySem.W.kat_nil q
  | _, _, _, _, .cons _ _ _, .nil, i, q => PySem.W.kat_nil q
  | _, _, _, _, .cons (ns := xs) x t r, .cons (ns := ys) y u r2, i, q => by
    refine PySem.W.kat_cons (SeqAt.EqAt.int_int x t y u prog w _ _ ?_)
    refine PySem.W.kat_go (fun e1 => ?_) (fun e1 => ?_)
    · have ex : x = y := by simpa using e1
      refine PySem.W.kat_yes ?_
      have := kat_ints (b := b) (Q := Q) r r2 (i + 1) (by rw [HT.lexLt_cons, if_pos ex] at q; exact q)
      simp only [List.length_cons, Nat.add_lt_add_iff_right]
      exact this
    · have ex : ¬ x = y := by simpa using e1
      rw [HT.lexLt_cons, if_neg ex] at q
      exact PySem.W.kat_no (TS.oneLt_ints _ q)
theorem it_cmp {vs : List Value} {k : Value → List Int} (hp : ∀ v ∈ vs, IsIT s.heap v (k v)) : Cmp prog w A s (tuples' true) (fun p => p.1 ∈ vs) (lt2 fun v u => HT.lexLt (k v) (k u)) := by
  intro p q hm hm'
  have h1 := hp _ hm
  have h2 := hp _ hm'
  show wpAny (model prog w) A (keyLt' (tuples' true) p.1 q.1) (fun r s' => s' = s ∧ r = HT.lexLt (k p.1) (k q.1)) (fun _ _ => False) s
  obtain ⟨a, o, vs1, n, e, ho, hc, hd, hi⟩ := h1
  obtain ⟨a', o', vs2, n', e', ho', hc', hd', hi'⟩ := h2
  generalize k p.1 = xs at hi ⊢
  generalize k q.1 = ys at hi' ⊢
  rw [e, e']
  refine PySem.W.kat_lt ho hd ho' hd' ?_
  have := kat_ints (prog := prog) (w := w) (A := A) (s := s) (b := true) (Q := fun r s' => s' = s ∧ r = HT.lexLt xs ys) hi hi' 0 ⟨rfl, rfl⟩
  simpa using this
theorem itfirsts {h : Heap} {k : Value → List Int} : ∀ {vs : List Value}, (∀ v ∈ vs, IsIT h v (k v) ∧ k v ≠ []) → ∃ fs : List Value, PySem.W.KatTups h vs fs ∧ fs.length = vs.length ∧ ∀ f ∈ fs, ∃ x t, f = Value.int x t
  | [], _ => ⟨[], PySem.W.KatTups.nil, rfl, fun _ hm => by simp at hm⟩
  | v :: vs, hp => by
    obtain ⟨fs, h1, h2, h3⟩ := itfirsts (vs := vs) fun v' hm => hp v' (List.mem_cons_of_mem _ hm)
    obtain ⟨⟨a, o, us, n, e, ho, hc, hd, hi⟩, hne⟩ := hp v (List.mem_cons_self ..)
    generalize k v = xs at hi hne
    cases hi with
    | nil => exact absurd rfl hne
    | cons x t r =>
      subst e
      refine ⟨.int x t :: fs, PySem.W.KatTups.cons ho hc hd rfl h1, by rw [List.length_cons, List.length_cons, h2], fun f hm => ?_⟩
      rcases List.mem_cons.mp hm with rfl | hm
      · exact ⟨x, t, rfl⟩
      · exact h3 f hm
theorem it_sortableO {a : Addr} {vs : List Value} {k : Value → List Int} (h0 : 0 < vs.length) (hp : ∀ v ∈ vs, IsIT s.heap v (k v) ∧ k v ≠ []) (ha : ∀ o, s.heap.get? a = some o → o.cls ≠ .type "tuple") : SortableO prog w A s a vs fun v u => HT.lexLt (k v) (k u) := by
  intro h' keep
  have hp' : ∀ v ∈ vs, IsIT h' v (k v) ∧ k v ≠ [] := fun v hm => ⟨(hp v hm).1.keeps fun b o e c => keep b o (fun z => by subst z; exact ha o e c) e, (hp v hm).2⟩
  obtain ⟨fs, h1, h2, h3⟩ := itfirsts hp'
  refine ⟨tuples' true, fun Q E hq => ?_, it_cmp fun v hv => (hp' v hv).1⟩
  refine PySem.W.kat_kind (T := .type "int") h1 (by omega) (fun f hm => ?_) (by rfl) ?_
  · obtain ⟨x, t, rfl⟩ := h3 f hm
    exact PySem.W.Looks.now
  · have e : (Value.type "int" != Value.type "tuple") = true := by first | decide +kernel | rfl | decide
    rw [e]
    exact hq
theorem lexLt_asym : ∀ {xs ys : List Int}, HT.lexLt xs ys = true → HT.lexLt ys xs = false
  | [], [], h => by cases h
  | [], _ :: _, _ => rfl
  | _ :: _, [], h => by cases h
  | x :: xs, y :: ys, h => by
    rw [HT.lexLt_cons] at h ⊢
    by_cases e : x = y
    · rw [if_pos e] at h; rw [if_pos e.symm]; exact lexLt_asym h
    · rw [if_neg e, decide_eq_true_eq] at h; rw [if_neg (Ne.symm e)]; exact decide_eq_false (by omega)
theorem lexLt_tr : ∀ {xs ys zs : List Int}, HT.lexLt xs ys = false → HT.lexLt ys zs = false → HT.lexLt xs zs = false
  | [], [], _, _, h => h
  | [], _ :: _, _, h, _ => by cases h
  | _ :: _, _, [], _, _ => rfl
  | _ :: _, [], _ :: _, _, h => by cases h
  | x :: xs, y :: ys, z :: zs, h1, h2 => by
    rw [HT.lexLt_cons] at h1 h2 ⊢
    by_cases e1 : x = y
    · rw [if_pos e1] at h1
      subst e1
      by_cases e2 : x = z
      · rw [if_pos e2] at h2 ⊢; exact lexLt_tr h1 h2
      · rw [if_neg e2] at h2 ⊢; exact h2
    · rw [if_neg e1, decide_eq_false_iff_not] at h1
      by_cases e2 : y = z
      · subst e2
        rw [if_neg e1]; exact decide_eq_false h1
      · rw [if_neg e2, decide_eq_false_iff_not] at h2
        rw [if_neg (by omega)]; exact decide_eq_false (by omega)
theorem swo_lexL {α : Type} (k : α → List Int) : Swo fun v u => HT.lexLt (k v) (k u) := ⟨fun _ _ h => lexLt_asym h, fun _ _ _ h1 h2 => lexLt_tr h2 h1⟩
theorem sorted_itO {E : Value → Shared → Prop} {l : Addr} {vs : List Value} {k : Value → List Int} {Q : Value → Shared → Prop} (hl : s.heap.IsList l vs.toArray) (hz : vs.length ≤ sizeLine) (hp : ∀ v ∈ vs, IsIT s.heap v (k v) ∧ k v ≠ [])
    (h : ∀ (h' : Heap) (d : Addr) (out : List Value), Srtd (fun v u => HT.lexLt (k v) (k u)) out → Stb (fun v u => HT.lexLt (k v) (k u)) out vs → (∀ b o, s.heap.get? b = some o → h'.get? b = some o) → s.heap.objs.size ≤ d → (∃ n, h'.get? d = some (seqObj "list" out.toArray n)) → Q (.ref d) { s with heap := h' }) :
    wpAny (model prog w) A (call (.builtin "sorted") [.ref l]) Q E s := by
  refine sorted_ord (swo_lexL k) hl hz (fun h2 h₁ a ha kk => ?_) fun out hs hb => ?_
  · refine it_sortableO (s := { s with heap := h₁ }) (by omega) (fun v hm => ⟨(hp v hm).1.keeps fun b o e _ => (kk b o e).2, (hp v hm).2⟩) fun o e => ?_
    have e' : some o = some (seqObj "list" vs.toArray 0) := e.symm.trans ha
    cases e'
    intro c
    exact absurd (Value.type.inj c) (by decide)
  · exact h _ _ out hs hb (fun b o e => sortedAll_old e) (Nat.le_succ _) (sortedAll_at s.heap vs out.toArray)
end
end SrtO

namespace L2
open PySem PySem.Spec PyProof.Rows
/-- xs are tuples of ints, not empty, with these ints -/
def ITs (K : PySem.W.Frag) (H : Hp) : List V → List (List Int) → Prop
  | [], [] => True
  | x :: xs, l :: ls => (l ≠ [] ∧ ∃ t, x = V.ref t ∧ SqT K H t (l.map V.int)) ∧ ITs K H xs ls
  | _, _ => False
/-- sorted(xs), xs tuples of ints, not empty -/
def rSortedT (K : PySem.W.Frag) : List V → Hp → VK → Prop := fun vs H Q => ∃ (a : Addr) (xs : List V) (ls : List (List Int)), vs = [V.ref a] ∧ SqL K H a xs ∧ ITs K H xs ls ∧
  ∀ ys (ls' : List (List Int)) p, ys.length = ls'.length → (ys.zip ls').Perm (xs.zip ls) → ls'.Pairwise (fun a b => HT.lexLt b a = false) → H p = none → Q (.ref p) (upd H p (.lst ys))
theorem vint_inj : ∀ {l m : List Int}, l.map V.int = m.map V.int → l = m
  | [], [], _ => rfl
  | [], _ :: _, h => by cases h
  | _ :: _, [], h => by cases h
  | a :: l, b :: m, h => by
    simp only [List.map_cons, List.cons.injEq] at h
    cases h.1
    rw [vint_inj h.2]
theorem zip_map_self {α β : Type} (k : α → β) : ∀ l : List α, l.zip (l.map k) = l.map fun x => (x, k x)
  | [] => rfl
  | a :: l => by simp [zip_map_self k l]
section
variable {X : Cx}
theorem cr_sortedT : CallR X (.builtin "sorted") (rSortedT X.K) := by
  intro pins s σ H vs us Q I r h
  obtain ⟨a, xs, ls, rfl, hs, hx, q⟩ := h
  obtain ⟨its, rv, hl, hz⟩ := I.list hs
  obtain ⟨u, rfl, ru⟩ := vals1 r
  obtain rfl : u = Value.ref a := ru
  classical
  let k : V → List Int := fun x => if h : ∃ l : List Int, ∃ t, x = V.ref t ∧ SqT X.K H t (l.map V.int) then h.choose else []
  have hk : ∀ (x : V) (l : List Int) (t : Addr), x = V.ref t → SqT X.K H t (l.map V.int) → k x = l := by
    intro x l t e ht
    have hex : ∃ l : List Int, ∃ t, x = V.ref t ∧ SqT X.K H t (l.map V.int) := ⟨l, t, e, ht⟩
    have e1 : k x = hex.choose := dif_pos hex
    obtain ⟨t', e2, ht'⟩ := hex.choose_spec
    rw [e1]
    have e3 : t' = t := by rw [e] at e2; cases e2; rfl
    subst e3
    have := I.tuple_inj ht' ht
    exact vint_inj this
  have hall : ∀ (xs : List V) (ls : List (List Int)), ITs X.K H xs ls → xs.map k = ls ∧ ∀ x ∈ xs, k x ≠ [] ∧ ∃ t, x = V.ref t ∧ SqT X.K H t ((k x).map V.int) := by
    intro xs
    induction xs with
    | nil =>
      intro ls h
      cases ls with
      | nil => exact ⟨rfl, fun x hx => nomatch hx⟩
      | cons _ _ => exact h.elim
    | cons x xs ih =>
      intro ls h
      cases ls with
      | nil => exact h.elim
      | cons l ls =>
        obtain ⟨⟨hne, t, e, ht⟩, h2⟩ := h
        obtain ⟨i1, i2⟩ := ih ls h2
        have e1 := hk x l t e ht
        refine ⟨by rw [List.map_cons, e1, i1], fun y hy => ?_⟩
        rcases List.mem_cons.mp hy with rfl | hy
        · rw [e1]; exact ⟨hne, t, e, ht⟩
        · exact i2 y hy
  obtain ⟨hm, hx2⟩ := hall xs ls hx
  obtain ⟨e1, e2⟩ := refs_back rv fun x m => by
    obtain ⟨_, t, e, _⟩ := hx2 x m
    exact ⟨t, e⟩
  refine SrtO.sorted_itO (k := fun u => k (backV u)) hl.isList (by rw [← rv.length]; exact hz) (fun v hv => ?_) fun h' d out h1 h2 kp hd hn => ?_
  · obtain ⟨t, rfl⟩ := e2 v hv
    have hmem : V.ref t ∈ xs := by rw [e1]; exact List.mem_map.mpr ⟨_, hv, rfl⟩
    obtain ⟨hne, t', e, ht⟩ := hx2 _ hmem
    cases e
    obtain ⟨its2, r2, ⟨o, ho, hc, n, hd⟩, _⟩ := I.tuple ht
    exact ⟨⟨t, o, its2, n, rfl, ho, hc, hd, r2.ints⟩, hne⟩
  · have h3 : ∀ u ∈ out, ∃ a, u = Value.ref a := fun u hu => e2 u (h2.perm.mem_iff.mp hu)
    obtain ⟨n, hn⟩ := hn
    have hb : SrtO.Stb (fun v u => HT.lexLt (k v) (k u)) (out.map backV) xs := by
      rw [e1]
      exact SrtO.Stb.map (SrtO.swo_lexL k) backV h2
    refine ⟨.ref d, upd H d (.lst (out.map backV)), I.laid (t' := s.toks) kp hd ⟨?_, out, n, vals_back h3, hn⟩, rfl, q _ ((out.map backV).map k) d (by simp) ?_ ?_ (I.hok.fresh hd)⟩
    · rw [hb.len]
      exact hz
    · rw [← hm, zip_map_self, zip_map_self]
      exact hb.perm.map _
    · rw [List.map_map, List.pairwise_map]
      exact h1
end
end L2

/-! sorted of ints -/
namespace DL
open PySem PySem.Spec PyProof.Rows L2
section
variable {X : L2.Cx}
theorem lexL_eq : ∀ a b : List Int, HT.lexLt a b = lexL a b
  | [], [] => rfl
  | [], _ :: _ => rfl
  | _ :: _, [] => rfl
  | x :: xs, y :: ys => by rw [HT.lexLt_cons]; simp only [lexL, lexL_eq xs ys]
theorem its_of {c : Ct} {σ : L2.St} {H Hf : Hp} {e : DL.Env} (R : Rl c σ H Hf e) : ∀ {vs : List V} {ds : List D} {ls : List (List Int)}, RepL c.K Hf vs ds → D.itups ds = some ls → ITs c.K H vs ls ∧ ds = ls.map fun l => .tup (l.map .int)
  | _, _, ls, .nil, h => by
    simp only [D.itups, Option.some.injEq] at h
    subst h
    exact ⟨trivial, rfl⟩
  | _, _, ls, .cons hv ht, h => by
    unfold D.itups at h
    split at h
    · rename_i he
      cases he
    · rename_i xs r he
      cases he
      split at h
      · rename_i a l hl
        split at h
        · rename_i ls2 h2
          cases h
          obtain ⟨i1, i2⟩ := its_of R ht h2
          cases hv with
          | tup hs rs =>
            have e1 := rs.ints hl
            subst e1
            refine ⟨⟨⟨List.cons_ne_nil _ _, _, rfl, R.seqT hs⟩, i1⟩, ?_⟩
            have e2 : xs = (a :: l).map D.int := D.ints_back hl
            rw [List.map_cons, ← e2, ← i2]
        · cases h
      · cases h
    · cases h
theorem RepL.of_zip {K : PySem.W.Frag} {H : Hp} : ∀ {vs : List V} {ds : List D}, vs.length = ds.length → (∀ p ∈ vs.zip ds, Rep K H p.1 p.2) → RepL K H vs ds
  | [], [], _, _ => .nil
  | [], _ :: _, h, _ => by cases h
  | _ :: _, [], h, _ => by cases h
  | v :: vs, d :: ds, h, hp => .cons (hp (v, d) (List.mem_cons_self ..)) (RepL.of_zip (by simpa using h) fun p hm => hp p (List.mem_cons_of_mem _ hm))
theorem RepL.in_zip {K : PySem.W.Frag} {H : Hp} : ∀ {vs : List V} {ds : List D}, RepL K H vs ds → ∀ p ∈ vs.zip ds, Rep K H p.1 p.2
  | _, _, .nil, p, h => nomatch h
  | _, _, .cons hv ht, p, h => by
    rcases List.mem_cons.mp h with rfl | h
    · exact hv
    · exact RepL.in_zip ht p h
theorem zip_mapR {α β γ : Type} (f : β → γ) : ∀ (l : List α) (m : List β), l.zip (m.map f) = (l.zip m).map fun p => (p.1, f p.2)
  | [], _ => rfl
  | _ :: _, [] => rfl
  | a :: l, b :: m => by simp [zip_mapR f l m]
theorem its_len {K : PySem.W.Frag} {H : Hp} : ∀ {vs : List V} {ls : List (List Int)}, ITs K H vs ls → vs.length = ls.length
  | [], [], _ => rfl
  | [], _ :: _, h => h.elim
  | _ :: _, [], h => h.elim
  | _ :: vs, _ :: ls, h => congrArg (· + 1) (its_len h.2)
theorem snd_zip {α β : Type} : ∀ {l : List α} {m : List β}, l.length = m.length → (l.zip m).map (·.2) = m
  | [], [], _ => rfl
  | [], _ :: _, h => by cases h
  | _ :: _, [], h => by cases h
  | a :: l, b :: m, h => by simp [snd_zip (l := l) (m := m) (by simpa using h)]
theorem cn_sorted {k : Nat} (O : XO X k) : CallN X (.builtin "sorted") fSorted := by
  refine ⟨_, (cr_sortedI.or cr_sortedT).or (call_sortedDI O.calm), fun c σ H Hf e xs ds d Q hK R hv ho q => ?_⟩
  unfold fSorted at ho
  split at ho
  · split at ho
    · cases ho
    · rename_i l hl
      split at ho
      · rename_i h64
        cases ho
        cases hv with
        | cons h t =>
          cases t
          cases h with
          | dK g1 g2 g3 =>
            refine .inr ⟨_, _, l, rfl, rd_frz R.sf g1, ?_, h64, fun ys p hp h2 hn => ?_⟩
            · rw [List.map_fst_zip (Nat.le_of_eq g2)]
              exact kyInts_map hl
            · have e2 : ys = isort l := srt_uniq h2 (isort_srt l) (hp.trans (isort_perm l).symm)
              subst e2
              exact q _ _ _ _ (R.track hn) (Same.refl _) (.of R hn) (RepL.of_ints _)
      · cases ho
  · split at ho
    · split at ho
      · cases ho
      · rename_i ys hn ls hl
        cases ho
        cases hv with
        | cons h t =>
          cases t
          cases h with
          | lst hs rs =>
            obtain ⟨i1, i2⟩ := its_of R rs hl
            subst i2
            refine .inl <| .inr ⟨_, _, ls, rfl, hK ▸ R.seqL hs, hK ▸ i1, fun zs ls' p hlen hp hsrt hn => ?_⟩
            have e2 : ls' = lsort ls := by
              have hp2 : ls'.Perm ls := by
                have := hp.map (·.2)
                rwa [snd_zip hlen, snd_zip (its_len i1)] at this
              refine lsrt_uniq (hsrt.imp fun {a b} h => by rw [← lexL_eq]; exact h) (lsort_srt ls) (hp2.trans (lsort_perm ls).symm)
            subst e2
            refine q _ _ _ _ (R.track hn) (Same.refl _) (.of R hn) (RepL.of_zip (by rw [List.length_map]; exact hlen) fun pr hpr => ?_)
            rw [zip_mapR] at hpr
            obtain ⟨pr0, hm, rfl⟩ := List.mem_map.mp hpr
            have hm2 := hp.mem_iff.mp hm
            refine rs.in_zip (pr0.1, _) ?_
            rw [zip_mapR]
            exact List.mem_map.mpr ⟨pr0, hm2, rfl⟩
    · rename_i ys l hl
      cases ho
      cases hv with
      | cons h t =>
        cases t
        cases h with
        | lst hs rs =>
          have e := rs.ints hl
          subst e
          refine .inl <| .inl ⟨_, l, rfl, hK ▸ R.seqL hs, fun ns' p hp h2 hn => ?_⟩
          have e2 : ns' = isort l := srt_uniq h2 (isort_srt l) (hp.trans (isort_perm l).symm)
          subst e2
          exact q _ _ _ _ (R.track hn) (Same.refl _) (.of R hn) (RepL.of_ints _)
  · cases ho
end
end DL

/-! dicts: the rules -/
namespace DL
open PySem PySem.Spec PyProof.Rows L2
variable {X : Cx} {k : Nat}
/-- a new dict, locked at once -/
theorem pe_lk {e : Expr} {t : TE} (h : PE X e t) : PE X e (fun σ H Q => t σ H fun v H' => ∃ d u, v = .ref d ∧ H' d = some u ∧ Mut (some u) ∧ ∀ od, Q v (upd H' d (.frz od u))) :=
  ⟨fun pins s σ H Q I w => thn (h.run pins s σ H _ I w) fun u s1 ⟨x, H1, I1, rx, d, ho, ex, hd, mu, q⟩ => (I1.lock hd mu).elim fun od I2 => ⟨x, _, I2, rx, q od⟩⟩
theorem DQ.e {ex : Expr} {m : M Od} (h : DQ X ex m) : DE X ex (mDFr m) := by
  obtain ⟨t, p, s⟩ := h
  refine ⟨_, pe_lk p, fun c σ H Hf e d e' Q hK R hm q => ?_⟩
  unfold mDFr at hm
  split at hm
  · cases hm
  rename_i x e1 he
  cases hm
  refine s c σ H Hf e x _ _ hK R he fun a u H' Hf' R' S' N' L' => ⟨a, u, rfl, N'.h, L'.mut, fun ob => ?_⟩
  have sm : Same Hf' (upd Hf' a (.frz ob u)) := same_new N'.f
  exact q _ _ _ (N'.lock R' L' ob) (S'.trans sm) ((L'.mono sm).rep upd_same)
/-- {}: keys ints and texts, or tuples -/
theorem dq_newK {pos : Pos} : DQ X (.Dict [] [] pos) (mDNew false) :=
  ⟨_, pe_dnewK, fun c σ H Hf e x e' Q hK R hm q => by
    cases hm
    exact fun p hp => q p _ _ Hf (R.track hp) (Same.refl _) (.of R hp) (.k (kvs := []) rfl .nil)⟩
theorem dq_newT {pos : Pos} : DQ X (.Dict [] [] pos) (mDNew true) :=
  ⟨_, pe_dnewT, fun c σ H Hf e x e' Q hK R hm q => by
    cases hm
    exact fun p hp => q p _ _ Hf (R.track hp) (Same.refl _) (.of R hp) (.t (kvs := []) rfl .nil)⟩
/-! ### displays -/
def DPr (X : Cx) (pos : Pos) (ks : List (Option Expr)) (vs : List Expr) (ms : List (M D × M D)) : Prop := ∃ trs, PPs X pos ks vs trs ∧ ∀ (c : Ct) (σ : L2.St) (H Hf : Hp) (e : DL.Env) (kvs : List (Ky × D)) (e' : DL.Env) (Q : List (V × V) → Hp → Prop), c.K = X.K → Rl c σ H Hf e → mPairs ms e = some (kvs, e') →
  (∀ ws H' Hf', Rl c σ H' Hf' e' → Same Hf Hf' → RepL c.K Hf' ws (kvs.map (·.2)) → Q (((kvs.map (·.1)).zip ws).map fun p => (kV p.1, p.2)) H') → tPairs trs σ H Q
theorem dpr_nil {pos : Pos} : DPr X pos [] [] [] := ⟨_, pps_nil, fun c σ H Hf e kvs e' Q hK R hm q => by
  unfold mPairs at hm
  cases hm
  exact q [] H Hf R (Same.refl _) .nil⟩
theorem dpr_cons {pos : Pos} {a b : Expr} {ma mb : M D} {ks : List (Option Expr)} {vs : List Expr} {ms : List (M D × M D)} (ha : DE X a ma) (hb : DE X b mb) (hr : DPr X pos ks vs ms) : DPr X pos (some a :: ks) (b :: vs) ((ma, mb) :: ms) := by
  obtain ⟨ta, pa, sa⟩ := ha
  obtain ⟨tb, pb, sb⟩ := hb
  obtain ⟨tr, pr, sr⟩ := hr
  refine ⟨_, pps_cons pa pb pr, fun c σ H Hf e kvs e' Q hK R hm q => ?_⟩
  unfold mPairs at hm
  split at hm
  · cases hm
  rename_i x e1 h1
  split at hm
  · cases hm
  rename_i y e2 h2
  split at hm
  · cases hm
  rename_i ps e3 h3
  split at hm
  · cases hm
  rename_i z hz
  cases hm
  refine sa c σ H Hf e x e1 _ hK R h1 fun v H1 Hf1 R1 S1 V1 => ?_
  refine sb c σ H1 Hf1 e1 y e2 _ hK R1 h2 fun w H2 Hf2 R2 S2 V2 => ?_
  refine sr c σ H2 Hf2 e2 ps _ _ hK R2 h3 fun ws H3 Hf3 R3 S3 V3 => ?_
  have q' := q (w :: ws) H3 Hf3 R3 (S1.trans (S2.trans S3)) (by rw [List.map_cons]; exact .cons (V2.mono S3) V3)
  rw [List.map_cons, List.zip_cons_cons, List.map_cons] at q'
  rw [ky_rep V1 hz]
  exact q'
theorem merge_rep {K : PySem.W.Frag} {Hf : Hp} : ∀ {more : List (Ky × D)} {ws : List V} {acc : List (Ky × D)} {us : List V}, RepL K Hf ws (more.map (·.2)) → RepL K Hf us (acc.map (·.2)) →
    ∃ ws', mergeK ((acc.map (·.1)).zip us) ((more.map (·.1)).zip ws) = ((amerge acc more).map (·.1)).zip ws' ∧ RepL K Hf ws' ((amerge acc more).map (·.2))
  | [], ws, acc, us, r, ra => by
    cases r
    exact ⟨us, rfl, ra⟩
  | p :: more, ws, acc, us, r, ra => by
    rw [List.map_cons] at r
    cases r with
    | cons h t =>
      obtain ⟨us', e1, r1⟩ := put_rep p.1 h ra
      obtain ⟨ws', e2, r2⟩ := merge_rep t r1
      refine ⟨ws', ?_, r2⟩
      rw [List.map_cons, List.zip_cons_cons]
      show mergeK (putK _ p.1 _) _ = _
      rw [e1]
      exact e2
theorem dq_disp {pos : Pos} {keys : List (Option Expr)} {values : List Expr} {ms : List (M D × M D)} (h : DPr X pos keys values ms) (hall : keys.all (·.isSome) = true := by rfl) (hl : keys.length = values.length := by rfl) (h0 : keys ≠ [] := by exact fun z => nomatch z) (h15 : keys.length ≤ 15 := by decide) : DQ X (.Dict keys values pos) (mDisp ms) := by
  obtain ⟨trs, p, s⟩ := h
  refine ⟨_, pe_disp p hall hl h0 h15, fun c σ H Hf e x e' Q hK R hm q => fun a ha => ?_⟩
  unfold mDisp at hm
  split at hm
  · cases hm
  rename_i kvs e1 h1
  split at hm
  · rename_i hc
    cases hm
    have R0 : Rl (c.blk σ (upd H a (.dK [])) Hf e) σ (upd H a (.dK [])) Hf e := (R.track ha).enter
    refine s (c.blk σ (upd H a (.dK [])) Hf e) σ _ Hf e kvs _ _ hK R0 h1 fun ws H2 Hf2 R2 S2 V2 => ?_
    have no : ¬ (c.blk σ (upd H a (.dK [])) Hf e).own a := fun h => h.elim (fun ⟨j, ys, q1, q2⟩ => R.new_no ha j ys q1 q2) fun ⟨j, y, q1, q2⟩ => R.new_noD ha j y q1 q2
    have ea : H2 a = some (.dK []) := R2.fr _ _ upd_same no
    have R3 := (R.track (o := .dK []) ha).leave R2
    have fa : Hf2 a = none := by
      cases z : Hf2 a with
      | none => rfl
      | some o =>
        rcases R2.nw _ _ z with y | y | ⟨ys, rfl⟩
        · rw [show (c.blk σ (upd H a (.dK [])) Hf e).Hf0 a = Hf a from rfl, none_sub R.sf ha] at y; cases y
        · rw [show (c.blk σ (upd H a (.dK [])) Hf e).H0 a = (upd H a (.dK [])) a from rfl, upd_same] at y; cases y
        · have y := R2.sf _ _ z; rw [ea] at y; cases y
    have nD : ∀ (j : Nat) (y : Od), e'[j]? = some (.od y) → σ[j]? = some (some (.ref a)) → False := fun j y q1 q2 => by
      obtain ⟨a', u', f1, _, f3, _, _⟩ := R2.odAt q1
      rw [q2] at f1
      cases f1
      rcases f3 with f3 | f3
      · exact no f3
      · rw [show (c.blk σ (upd H a (.dK [])) Hf e).H0 a = (upd H a (.dK [])) a from rfl, upd_same] at f3; cases f3
    obtain ⟨ws', g1, g2⟩ := merge_rep (acc := []) (us := []) V2 .nil
    refine ⟨ea, (kvs.map (·.1)).zip ws, rfl, ?_, ?_⟩
    · rw [List.length_zip, V2.length, List.length_map, List.length_map, Nat.min_self]
      exact hc
    · have R4 := R3.bump (o := .dK (mergeK [] ((kvs.map (·.1)).zip ws))) (R.h0 ha) fa (R3.dct_noL ea fun _ z => nomatch z) nD
      refine q a _ _ Hf2 R4 S2 ⟨upd_same, fa, R.h0 ha, nD⟩ ?_
      have g1 : mergeK [] ((kvs.map (·.1)).zip ws) = ((amerge [] kvs).map (·.1)).zip ws' := g1
      rw [g1]
      exact .k rfl g2
  · cases hm

/-! ### values -/
section
variable {a b f : Expr} {ma mb mf : M D} {pos apos cpos : Pos}
theorem val_get {c : Ct} {σ : L2.St} {H Hf : Hp} {e : DL.Env} {v w : V} {d y : D} {o : Option D} (R : Rl c σ H Hf e) (hv : Rep c.K Hf v d) (hw : Rep c.K Hf w y) (h : D.getD d y = some o) : ∃ p ov, v = .ref p ∧ IsD H p ∧ DGet H p w ov ∧ OR c.K Hf ov o := by
  unfold D.getD at h
  split at h
  · cases h
  rename_i q0 hq0
  obtain ⟨p, ob, u, rfl, h1, h2, _⟩ := rep_od hv hq0
  obtain ⟨ov, g1, g2⟩ := dget_od h2 (rd_frz R.sf h1) hw R.sf h
  exact ⟨p, ov, rfl, isD_od h2 (rd_frz R.sf h1), g1, g2⟩
theorem val_isD {c : Ct} {σ : L2.St} {H Hf : Hp} {e : DL.Env} {v : V} {d y : D} {o : Option D} (R : Rl c σ H Hf e) (hv : Rep c.K Hf v d) (h : D.getD d y = some o) : ∃ p, v = .ref p ∧ IsD H p := by
  unfold D.getD at h
  split at h
  · cases h
  rename_i q0 hq0
  obtain ⟨p, ob, u, rfl, h1, h2, _⟩ := rep_od hv hq0
  exact ⟨p, rfl, isD_od h2 (rd_frz R.sf h1)⟩
theorem de_get1 (O : XO X k) (ha : DE X a ma) (hb : DE X b mb) (m : M1 X a "get" apos b cpos := by exact ⟨rfl, rfl, rfl, rfl⟩) : DE X (.Call (.Attribute a "get" apos) [b] [] cpos) (mGet1 ma mb) := by
  obtain ⟨ta, pa, sa⟩ := ha
  obtain ⟨tb, pb, sb⟩ := hb
  refine ⟨_, pe_dget1 O.u1 pa pb m, fun c σ H Hf e d e' Q hK R hm q => ?_⟩
  unfold mGet1 at hm
  split at hm
  · cases hm
  rename_i x e1 h1
  split at hm
  · cases hm
  rename_i y e2 h2
  split at hm
  · cases hm
  rename_i o h3
  cases hm
  refine sa c σ H Hf e x e1 _ hK R h1 fun v H1 Hf1 R1 S1 V1 => ?_
  obtain ⟨p, rfl, hd⟩ := val_isD R1 V1 h3
  refine ⟨p, rfl, hd, sb c σ H1 Hf1 e1 y _ _ hK R1 h2 fun w H2 Hf2 R2 S2 V2 => ?_⟩
  obtain ⟨p', ov, z, _, g1, g2⟩ := val_get R2 (V1.mono S2) V2 h3
  cases z
  exact ⟨ov, g1, q _ H2 Hf2 R2 (S1.trans S2) (g2.getD .non)⟩
theorem de_get2 (O : XO X k) (ha : DE X a ma) (hb : DE X b mb) (hf : DE X f mf) (m : M2 X a "get" apos b f cpos := by exact ⟨rfl, rfl, rfl, rfl⟩) : DE X (.Call (.Attribute a "get" apos) [b, f] [] cpos) (mGet2 ma mb mf) := by
  obtain ⟨ta, pa, sa⟩ := ha
  obtain ⟨tb, pb, sb⟩ := hb
  obtain ⟨tf, pf, sf⟩ := hf
  refine ⟨_, pe_dget2 O.u1 pa pb pf m, fun c σ H Hf e d e' Q hK R hm q => ?_⟩
  unfold mGet2 at hm
  split at hm
  · cases hm
  rename_i x e1 h1
  split at hm
  · cases hm
  rename_i y e2 h2
  split at hm
  · cases hm
  rename_i z e3 h3
  split at hm
  · cases hm
  rename_i o h4
  cases hm
  refine sa c σ H Hf e x e1 _ hK R h1 fun v H1 Hf1 R1 S1 V1 => ?_
  obtain ⟨p, rfl, hd⟩ := val_isD R1 V1 h4
  refine ⟨p, rfl, hd, sb c σ H1 Hf1 e1 y _ _ hK R1 h2 fun w H2 Hf2 R2 S2 V2 => sf c σ H2 Hf2 e2 z _ _ hK R2 h3 fun u H3 Hf3 R3 S3 V3 => ?_⟩
  obtain ⟨p', ov, z', _, g1, g2⟩ := val_get R3 (V1.mono (S2.trans S3)) (V2.mono S3) h4
  cases z'
  exact ⟨ov, g1, q _ H3 Hf3 R3 (S1.trans (S2.trans S3)) (g2.getD V3)⟩
/-! ### x == {}, x != {} -/
def rEmp (ne : Bool) : R2 := fun x y H Q => ∃ a b kvs, x = .ref a ∧ y = .ref b ∧ Rd H a (.dK kvs) ∧ Rd H b (.dK []) ∧ Q (.bl (ne != kvs.isEmpty)) H
theorem op_emp (hu : X.A.units < cLine) : OpR X (compareOp .Eq) (rEmp false) := by
  intro pins s σ H x y v u Q I rx ry h
  obtain ⟨a, b, kvs, rfl, rfl, ea, eb, q⟩ := h
  obtain rfl : v = Value.ref a := rx
  obtain rfl : u = Value.ref b := ry
  obtain ⟨_, ya, va, ra, da⟩ := dk_rd I.hok ea
  obtain ⟨_, yb, vb, rb, db⟩ := dk_rd I.hok eb
  cases rb
  refine PySem.W.keq_eq (knd := mixKind X.prog X.w) (r := true) ya yb da db hu (fun z => ?_) ⟨.bl (false != kvs.isEmpty), H, I, ?_, q⟩
  · cases va with
    | nil => exact .nil
    | cons p r => cases z
  · cases ra with
    | nil => rfl
    | cons h t => rfl
theorem op_empN (hu : X.A.units < cLine) : OpR X (compareOp .NotEq) (rEmp true) := by
  intro pins s σ H x y v u Q I rx ry h
  obtain ⟨a, b, kvs, rfl, rfl, ea, eb, q⟩ := h
  obtain rfl : v = Value.ref a := rx
  obtain rfl : u = Value.ref b := ry
  obtain ⟨_, ya, va, ra, da⟩ := dk_rd I.hok ea
  obtain ⟨_, yb, vb, rb, db⟩ := dk_rd I.hok eb
  cases rb
  refine PySem.W.keq_ne (knd := mixKind X.prog X.w) (r := true) ya yb da db hu (fun z => ?_) ⟨.bl (true != kvs.isEmpty), H, I, ?_, q⟩
  · cases va with
    | nil => exact .nil
    | cons p r => cases z
  · cases ra with
    | nil => rfl
    | cons h t => rfl
theorem zip_emp {ks : List Ky} {xs : List V} (h : ks.length = xs.length) : (ks.zip xs).isEmpty = ks.isEmpty := by
  cases ks with
  | nil => rfl
  | cons k ks => cases xs with
    | nil => cases h
    | cons x xs => rfl
theorem de_empEq {p2 : Pos} (O : XO X k) (ha : DE X a ma) (hmk : behindInMarks .Eq (.Dict [] [] p2) = false := by first | exact nomark _ | rfl) : DE X (.Compare a [.Eq] [.Dict [] [] p2] pos) (mEmpK false ma) := by
  obtain ⟨ta, pa, sa⟩ := ha
  refine ⟨_, pe_cmpR (op_emp (by have := O.u1; omega)) pa pe_dnewK hmk, fun c σ H Hf e d e' Q hK R hm q => ?_⟩
  unfold mEmpK at hm
  split at hm
  · rename_i ks vs e1 h1
    cases hm
    refine sa c σ H Hf e _ _ _ hK R h1 fun v H1 Hf1 R1 S1 V1 => fun p hp => ?_
    cases V1 with
    | dK g1 g2 g3 =>
      refine ⟨_, p, _, rfl, rfl, .inr ⟨_, same_new hp _ _ (R1.sf _ _ g1)⟩, .of upd_same, ?_⟩
      rw [zip_emp g2]
      exact q _ _ Hf1 (R1.track hp) S1 (.bl _)
  · cases hm
theorem dt_empEq {p2 : Pos} (O : XO X k) (ha : DE X a ma) (hmk : behindInMarks .Eq (.Dict [] [] p2) = false := by first | exact nomark _ | rfl) : DT X (.Compare a [.Eq] [.Dict [] [] p2] pos) (tVal (mEmpK false ma)) := by
  obtain ⟨ta, pa, sa⟩ := ha
  refine ⟨_, pt_cmpR (op_emp (by have := O.u1; omega)) pa pe_dnewK hmk, fun c σ H Hf e d e' Q hK R hm q => ?_⟩
  unfold tVal at hm
  split at hm
  rotate_left
  · cases hm
  rename_i kb ek hm2
  cases hm
  unfold mEmpK at hm2
  split at hm2
  · rename_i ks vs e1 h1
    cases hm2
    refine sa c σ H Hf e _ _ _ hK R h1 fun v H1 Hf1 R1 S1 V1 => fun p hp => ?_
    cases V1 with
    | dK g1 g2 g3 =>
      refine ⟨_, p, _, rfl, rfl, .inr ⟨_, same_new hp _ _ (R1.sf _ _ g1)⟩, .of upd_same, _, rfl, ?_⟩
      rw [zip_emp g2]
      exact q _ Hf1 (R1.track hp) S1
  · cases hm2
theorem de_empNe {p2 : Pos} (O : XO X k) (ha : DE X a ma) (hmk : behindInMarks .NotEq (.Dict [] [] p2) = false := by first | exact nomark _ | rfl) : DE X (.Compare a [.NotEq] [.Dict [] [] p2] pos) (mEmpK true ma) := by
  obtain ⟨ta, pa, sa⟩ := ha
  refine ⟨_, pe_cmpR (op_empN (by have := O.u1; omega)) pa pe_dnewK hmk, fun c σ H Hf e d e' Q hK R hm q => ?_⟩
  unfold mEmpK at hm
  split at hm
  · rename_i ks vs e1 h1
    cases hm
    refine sa c σ H Hf e _ _ _ hK R h1 fun v H1 Hf1 R1 S1 V1 => fun p hp => ?_
    cases V1 with
    | dK g1 g2 g3 =>
      refine ⟨_, p, _, rfl, rfl, .inr ⟨_, same_new hp _ _ (R1.sf _ _ g1)⟩, .of upd_same, ?_⟩
      rw [zip_emp g2]
      exact q _ _ Hf1 (R1.track hp) S1 (.bl _)
  · cases hm
theorem dt_empNe {p2 : Pos} (O : XO X k) (ha : DE X a ma) (hmk : behindInMarks .NotEq (.Dict [] [] p2) = false := by first | exact nomark _ | rfl) : DT X (.Compare a [.NotEq] [.Dict [] [] p2] pos) (tVal (mEmpK true ma)) := by
  obtain ⟨ta, pa, sa⟩ := ha
  refine ⟨_, pt_cmpR (op_empN (by have := O.u1; omega)) pa pe_dnewK hmk, fun c σ H Hf e d e' Q hK R hm q => ?_⟩
  unfold tVal at hm
  split at hm
  rotate_left
  · cases hm
  rename_i kb ek hm2
  cases hm
  unfold mEmpK at hm2
  split at hm2
  · rename_i ks vs e1 h1
    cases hm2
    refine sa c σ H Hf e _ _ _ hK R h1 fun v H1 Hf1 R1 S1 V1 => fun p hp => ?_
    cases V1 with
    | dK g1 g2 g3 =>
      refine ⟨_, p, _, rfl, rfl, .inr ⟨_, same_new hp _ _ (R1.sf _ _ g1)⟩, .of upd_same, _, rfl, ?_⟩
      rw [zip_emp g2]
      exact q _ Hf1 (R1.track hp) S1
  · cases hm2
end
/-! ### the slot's own dict -/
section
variable {a b ev : Expr} {ma mb mv : M D} {pos p apos cpos py : Pos} {y : Str}
theorem de_odIx (O : XO X k) (i : Nat) (ha : DE X a ma) (hN : X.N[i]? = some y := by rfl) (hv : Vis X.env.scope y := by first | exact Or.inl rfl | exact Or.inr (Or.inl rfl) | exact Or.inr (Or.inr rfl)) (hd : (y == ("__debug__" : Str)) = false := by decide) (hcd : (y == ("__classdict__" : Str)) = false := by decide) (hs2 : NoSl a := by exact fun _ _ => rfl) : DE X (.Subscript (.Name y py) a pos) (mODIx i ma) := by
  obtain ⟨ta, pa, sa⟩ := ha
  refine ⟨_, pe_dget O.u1 (pe_var hN hv hd hcd) pa hs2, fun c σ H Hf e d e' Q hK R hm q => ?_⟩
  unfold mODIx at hm
  split at hm
  · rename_i q0 g0
    obtain ⟨p, _, hv, _⟩ := R.odAt g0
    split at hm
    · cases hm
    rename_i x e1 h1
    split at hm
    · rename_i q1 g1
      split at hm
      · rename_i z h2
        cases hm
        refine ⟨_, hv, sa c σ H Hf e _ _ _ hK R h1 fun w H1 Hf1 R1 S1 V1 => ?_⟩
        obtain ⟨p', u, z1, _, _, z4, z5⟩ := R1.odAt g1
        rw [hv] at z1
        cases z1
        obtain ⟨ov, k1, k2⟩ := dget_od z5 (.of z4) V1 R1.sf h2
        obtain ⟨v', rfl, k3⟩ := k2.some
        exact ⟨p, v', rfl, k1, q v' _ _ R1 S1 k3⟩
      · cases hm
    · cases hm
  · cases hm
theorem de_odGet1 (O : XO X k) (i : Nat) (ha : DE X a ma) (hN : X.N[i]? = some y := by rfl) (hv : Vis X.env.scope y := by first | exact Or.inl rfl | exact Or.inr (Or.inl rfl) | exact Or.inr (Or.inr rfl)) (hd : (y == ("__debug__" : Str)) = false := by decide) (hcd : (y == ("__classdict__" : Str)) = false := by decide) (m : M1 X (.Name y py) "get" apos a cpos := by exact ⟨rfl, rfl, rfl, rfl⟩) : DE X (.Call (.Attribute (.Name y py) "get" apos) [a] [] cpos) (mODGet1 i ma) := by
  obtain ⟨ta, pa, sa⟩ := ha
  refine ⟨_, pe_dget1 O.u1 (pe_var hN hv hd hcd) pa m, fun c σ H Hf e d e' Q hK R hm q => ?_⟩
  unfold mODGet1 at hm
  split at hm
  · rename_i q0 g0
    obtain ⟨p, u0, hv, _, _, w4, w5⟩ := R.odAt g0
    split at hm
    · cases hm
    rename_i x e1 h1
    split at hm
    · rename_i q1 g1
      split at hm
      · rename_i z h2
        cases hm
        refine ⟨_, hv, p, rfl, isD_od w5 (.of w4), sa c σ H Hf e _ _ _ hK R h1 fun w H1 Hf1 R1 S1 V1 => ?_⟩
        obtain ⟨p', u, z1, _, _, z4, z5⟩ := R1.odAt g1
        rw [hv] at z1
        cases z1
        obtain ⟨ov, k1, k2⟩ := dget_od z5 (.of z4) V1 R1.sf h2
        exact ⟨ov, k1, q _ _ _ R1 S1 (k2.getD .non)⟩
      · cases hm
    · cases hm
  · cases hm
theorem de_odGet2 (O : XO X k) (i : Nat) (ha : DE X a ma) (hb : DE X b mb) (hN : X.N[i]? = some y := by rfl) (hv : Vis X.env.scope y := by first | exact Or.inl rfl | exact Or.inr (Or.inl rfl) | exact Or.inr (Or.inr rfl)) (hd : (y == ("__debug__" : Str)) = false := by decide) (hcd : (y == ("__classdict__" : Str)) = false := by decide) (m : M2 X (.Name y py) "get" apos a b cpos := by exact ⟨rfl, rfl, rfl, rfl⟩) : DE X (.Call (.Attribute (.Name y py) "get" apos) [a, b] [] cpos) (mODGet2 i ma mb) := by
  obtain ⟨ta, pa, sa⟩ := ha
  obtain ⟨tb, pb, sb⟩ := hb
  refine ⟨_, pe_dget2 O.u1 (pe_var hN hv hd hcd) pa pb m, fun c σ H Hf e d e' Q hK R hm q => ?_⟩
  unfold mODGet2 at hm
  split at hm
  · rename_i q0 g0
    obtain ⟨p, u0, hv, _, _, w4, w5⟩ := R.odAt g0
    split at hm
    · cases hm
    rename_i x e1 h1
    split at hm
    · cases hm
    rename_i x2 e2 h2'
    split at hm
    · rename_i q1 g1
      split at hm
      · rename_i z h2
        cases hm
        refine ⟨_, hv, p, rfl, isD_od w5 (.of w4), sa c σ H Hf e _ _ _ hK R h1 fun w H1 Hf1 R1 S1 V1 => sb c σ H1 Hf1 _ _ _ _ hK R1 h2' fun w2 H2 Hf2 R2 S2 V2 => ?_⟩
        obtain ⟨p', u, z1, _, _, z4, z5⟩ := R2.odAt g1
        rw [hv] at z1
        cases z1
        obtain ⟨ov, k1, k2⟩ := dget_od z5 (.of z4) (V1.mono S2) R2.sf h2
        exact ⟨ov, k1, q _ _ _ R2 (S1.trans S2) (k2.getD V2)⟩
      · cases hm
    · cases hm
  · cases hm
theorem de_odLen (i : Nat) (hm0 : X.mg "len" = none) (hN : X.N[i]? = some y := by rfl) (hv : Vis X.env.scope y := by first | exact Or.inl rfl | exact Or.inr (Or.inl rfl) | exact Or.inr (Or.inr rfl)) (hd : (y == ("__debug__" : Str)) = false := by decide) (hcd : (y == ("__classdict__" : Str)) = false := by decide) (hg : Gl X "len" := by rfl)
    (he : starEach [.Name y py] X.env = (false, eval (.Name y py) X.env) :: starEach [] X.env := by rfl) (hpl : (backTo pos (starEach [] X.env)).any (·.1) = false := by rfl) : DE X (.Call (.Name "len" p) [.Name y py] [] pos) (mODLen i) := by
  refine ⟨_, pe_callB call_len_d hg hm0 PySem.boot_len (pa_cons (pe_var hN hv hd hcd) pa_nil he) (by decide) (by decide) he hpl, fun c σ H Hf e d e' Q hK R hm q => ?_⟩
  unfold mODLen at hm
  split at hm
  · rename_i q0 g0
    cases hm
    obtain ⟨p, u, hv, _, _, w4, w5⟩ := R.odAt g0
    refine ⟨_, hv, p, rfl, ?_⟩
    rcases od_len w5 with ⟨kvs, rfl, hl⟩ | ⟨kvs, rfl, hl⟩
    · exact .inl ⟨kvs, .of w4, by rw [hl]; exact q _ H Hf R (Same.refl _) (.int _)⟩
    · exact .inr ⟨kvs, .of w4, by rw [hl]; exact q _ H Hf R (Same.refl _) (.int _)⟩
  · cases hm
/-- own[a] = v -/
theorem ds_odPut {bb : Bool} {ppos : Pos} (O : XO X k) (i : Nat) (hva : DE X ev mv) (ha : DE X a ma) (hN : X.N[i]? = some y := by rfl) (hv : Vis X.env.scope y := by first | exact Or.inl rfl | exact Or.inr (Or.inl rfl) | exact Or.inr (Or.inr rfl)) (hd : (y == ("__debug__" : Str)) = false := by decide) (hcd : (y == ("__classdict__" : Str)) = false := by decide) (hs : swapsWith ev (some (.Subscript (.Name y py) a ppos)) pos.line X.env = pure false := by rfl) : DSt bb X (.Assign [.Subscript (.Name y py) a ppos] ev pos) (sODPut i ma mv) := by
  obtain ⟨ta, pa, sa⟩ := ha
  obtain ⟨tv, pv, sv⟩ := hva
  refine ⟨_, ps_dput O.u1 (pe_var hN hv hd hcd) pa pv hs, fun c σ H Hf e f e' Dn F R hm q => ?_⟩
  unfold sODPut at hm
  split at hm
  · cases hm
  rename_i z e1 h1
  split at hm
  · rename_i q0 g0
    split at hm
    · cases hm
    rename_i x e2 h2
    split at hm
    · rename_i q1 g1
      split at hm
      · cases hm
      rename_i q2 h3
      cases hm
      refine sv c σ H Hf e _ _ _ F.k R h1 fun w H1 Hf1 R1 S1 V1 => ?_
      obtain ⟨p, _, hv, _⟩ := R1.odAt g0
      refine ⟨_, hv, sa c σ H1 Hf1 _ _ _ _ F.k R1 h2 fun w2 H2 Hf2 R2 S2 V2 => ?_⟩
      obtain ⟨p', u, z1, _, _, z4, z5⟩ := R2.odAt g1
      rw [hv] at z1
      cases z1
      obtain ⟨u', k1, k2⟩ := dput_od z5 z4 V2 (V1.mono S2) R2.sf h3
      exact ⟨p, _, rfl, k1, q _ _ _ (R2.putD g1 hv k2) (S1.trans S2)⟩
    · cases hm
  · cases hm
/-- y = a new dict -/
theorem ds_dnew {bb : Bool} {ex : Expr} {mq : M Od} {x : Str} {pos' : Pos} (O : XO X k) (i : Nat) (h : DQ X ex mq) (hi : X.N[i]? = some x := by rfl) (hb : (bb && i == 0) = false := by rfl) (hx : Loc X.env.scope x := by first | exact Or.inl rfl | exact Or.inr rfl) (hs : swapsWith ex (some (.Name x pos')) pos.line X.env = pure false := by rfl)
    (hf : X.fn x = true ∨ X.env.scope.names.lookup x = some .local := by first | exact .inl rfl | exact .inr rfl) : DSt bb X (.Assign [.Name x pos'] ex pos) (sDNew i mq) := by
  obtain ⟨t, pp, s⟩ := h
  refine ⟨_, ps_set (i := i) O.nd hi hx pp hs hf, fun c σ H Hf e f e' Dn F R hm q => ?_⟩
  unfold sDNew at hm
  split at hm
  · cases hm
  rename_i xs e1 h1
  split at hm
  · rename_i hl
    cases hm
    refine s c σ H Hf e _ _ _ F.k R h1 fun a us H' Hf' R' S' N' V' => q _ H' Hf' (R'.setD hl N'.h N'.f N'.z V' ?_ N'.n) S'
    by_cases n : i = 0
    · subst n
      cases bb with
      | false => exact .inr (F.p rfl)
      | true => cases hb
    · exact .inl n
  · cases hm
/-- list(own.items()) -/
theorem dn_odItems {p2 : Pos} (O : XO X k) (i : Nat) (hm0 : X.mg "list" = none) (hN : X.N[i]? = some y := by rfl) (hv : Vis X.env.scope y := by first | exact Or.inl rfl | exact Or.inr (Or.inl rfl) | exact Or.inr (Or.inr rfl)) (hd : (y == ("__debug__" : Str)) = false := by decide) (hcd : (y == ("__classdict__" : Str)) = false := by decide) (hg : Gl X "list" := by rfl) (hbv : bootBuiltins "list" = some (.type "list") := by exact bb_list)
    (hbase : attributeBase (.Name y py) "items" X.env (eval (.Name y py) X.env) = eval (.Name y py) X.env := by rfl) (hline : (apos.endLine == cpos.line) = true := by rfl)
    (hs : starEach [.Call (.Attribute (.Name y py) "items" apos) [] [] cpos] X.env = (false, eval (.Call (.Attribute (.Name y py) "items" apos) [] [] cpos) X.env) :: starEach [] X.env := by rfl) :
    DN X (.Call (.Name "list" p2) [.Call (.Attribute (.Name y py) "items" apos) [] [] cpos] [] pos) (mODItems i) := by
  refine ⟨_, LiI.pe_listItems O.calm (pe_var hN hv hd hcd) hg hm0 hbv hbase hline hs, fun c σ H Hf e xs e' Q hK R hm q => ?_⟩
  unfold mODItems at hm
  split at hm
  · rename_i kvs g0
    cases hm
    obtain ⟨p, u, hv, _, _, w4, w5⟩ := R.odAt g0
    cases w5 with
    | k e1 r =>
      rename_i ks ws
      refine ⟨_, hv, p, _, rfl, w4, fun H' l ts hsame hl hts hlt hL hpr => ?_⟩
      -- the pairs are settled one by one
      have key : ∀ (ts : List Addr) (kws : List (Ky × V)) (kvs : List (Ky × D)) (Hf0 : Hp), kws.map (·.1) = kvs.map (·.1) → RepL c.K Hf0 (kws.map (·.2)) (kvs.map (·.2)) → Rl c σ H' Hf0 e → Paired (fun (t : Addr) (q : Ky × V) => H' t = some (.tup [kV q.1, q.2])) ts kws →
          ∃ Hf', Rl c σ H' Hf' e ∧ Same Hf0 Hf' ∧ (∀ a, a ∉ ts → Hf' a = Hf0 a) ∧ RepL c.K Hf' (ts.map V.ref) (kvs.map fun p => .tup [kyD p.1, p.2]) := by
        intro ts
        induction ts with
        | nil =>
          intro kws kvs Hf0 h1 h2 R0 hp
          cases hp
          cases kvs with
          | nil => exact ⟨Hf0, R0, Same.refl _, fun _ _ => rfl, .nil⟩
          | cons => cases h1
        | cons t ts ih =>
          intro kws kvs Hf0 h1 h2 R0 hp
          cases hp with
          | cons hh ht =>
            rename_i kw kws
            cases kvs with
            | nil => cases h1
            | cons kv kvs =>
              rw [List.map_cons, List.map_cons, List.cons.injEq] at h1
              rw [List.map_cons, List.map_cons] at h2
              cases h2 with
              | cons r1 r2 =>
                obtain ⟨R1, S1⟩ := R0.settleT hh
                obtain ⟨Hf', R2, S2, n2, r3⟩ := ih kws kvs _ h1.2 (r2.mono S1) R1 ht
                refine ⟨Hf', R2, S1.trans S2, fun a ha => ?_, ?_⟩
                · simp only [List.mem_cons, not_or] at ha
                  rw [n2 a ha.2, upd_ne ha.1]
                · rw [List.map_cons, List.map_cons]
                  refine .cons (.tup (.of (S2 _ _ upd_same)) ?_) r3
                  rw [← h1.1]
                  exact .cons (kyD_rep _) (.cons (r1.mono (S1.trans S2)) .nil)
      have len : ks.length = ws.length := by rw [e1, r.length]; simp
      have R0 : Rl c σ H' Hf e := R.call hsame (Same.refl _) (R.sf.trans hsame) fun a o z => .inl z
      obtain ⟨Hf', R1, S1, n1, r1⟩ := key ts (ks.zip ws) kvs Hf (by rw [List.map_fst_zip (Nat.le_of_eq len), e1]) (by rw [List.map_snd_zip (Nat.le_of_eq len.symm)]; exact r) R0 hpr
      refine q l _ H' Hf' R1 S1 ⟨hL, ?_, R.h0 hl, fun j ys q1 q2 => R.new_no hl j ys q1 q2⟩ r1
      rw [n1 l hlt]
      exact none_sub R.sf hl
  · cases hm
end
/-! ### k in own, k not in own -/
section
variable {a : Expr} {ma : M D} {pos py : Pos} {y : Str}
theorem de_odIn (O : XO X k) (i : Nat) (ha : DE X a ma) (hN : X.N[i]? = some y := by rfl) (hv : Vis X.env.scope y := by first | exact Or.inl rfl | exact Or.inr (Or.inl rfl) | exact Or.inr (Or.inr rfl)) (hd : (y == ("__debug__" : Str)) = false := by decide) (hcd : (y == ("__classdict__" : Str)) = false := by decide) (hmk : behindInMarks .In (.Name y py) = false := by first | exact nomark _ | rfl) : DE X (.Compare a [.In] [.Name y py] pos) (mODIn false ma i) := by
  obtain ⟨ta, pa, sa⟩ := ha
  refine ⟨_, pe_cmpR (op_dIn O.u1) pa (pe_var hN hv hd hcd) hmk, fun c σ H Hf e d e' Q hK R hm q => ?_⟩
  unfold mODIn at hm
  split at hm
  · cases hm
  rename_i x e1 h1
  split at hm
  · rename_i q1 g1
    split at hm
    · rename_i o h2
      cases hm
      refine sa c σ H Hf e _ _ _ hK R h1 fun w H1 Hf1 R1 S1 V1 => ?_
      obtain ⟨p, u, z1, _, _, z4, z5⟩ := R1.odAt g1
      obtain ⟨ov, k1, k2⟩ := dget_od z5 (.of z4) V1 R1.sf h2
      refine ⟨_, z1, p, ov, rfl, k1, ?_⟩
      rw [k2.isSome]
      have q' := q _ H1 Hf1 R1 S1 (.bl _)
      first | exact q' | (simpa using q')
    · cases hm
  · cases hm
theorem dt_odIn (O : XO X k) (i : Nat) (ha : DE X a ma) (hN : X.N[i]? = some y := by rfl) (hv : Vis X.env.scope y := by first | exact Or.inl rfl | exact Or.inr (Or.inl rfl) | exact Or.inr (Or.inr rfl)) (hd : (y == ("__debug__" : Str)) = false := by decide) (hcd : (y == ("__classdict__" : Str)) = false := by decide) (hmk : behindInMarks .In (.Name y py) = false := by first | exact nomark _ | rfl) : DT X (.Compare a [.In] [.Name y py] pos) (tVal (mODIn false ma i)) := by
  obtain ⟨ta, pa, sa⟩ := ha
  refine ⟨_, pt_cmpR (op_dIn O.u1) pa (pe_var hN hv hd hcd) hmk, fun c σ H Hf e d e' Q hK R hm q => ?_⟩
  unfold tVal at hm
  split at hm
  rotate_left
  · cases hm
  rename_i kb ek hm2
  cases hm
  unfold mODIn at hm2
  split at hm2
  · cases hm2
  rename_i x e1 h1
  split at hm2
  · rename_i q1 g1
    split at hm2
    · rename_i o h2
      cases hm2
      refine sa c σ H Hf e _ _ _ hK R h1 fun w H1 Hf1 R1 S1 V1 => ?_
      obtain ⟨p, u, z1, _, _, z4, z5⟩ := R1.odAt g1
      obtain ⟨ov, k1, k2⟩ := dget_od z5 (.of z4) V1 R1.sf h2
      refine ⟨_, z1, p, ov, rfl, k1, _, rfl, ?_⟩
      rw [k2.isSome]
      have q' := q H1 Hf1 R1 S1
      first | exact q' | (simpa using q')
    · cases hm2
  · cases hm2
theorem de_odNotIn (O : XO X k) (i : Nat) (ha : DE X a ma) (hN : X.N[i]? = some y := by rfl) (hv : Vis X.env.scope y := by first | exact Or.inl rfl | exact Or.inr (Or.inl rfl) | exact Or.inr (Or.inr rfl)) (hd : (y == ("__debug__" : Str)) = false := by decide) (hcd : (y == ("__classdict__" : Str)) = false := by decide) (hmk : behindInMarks .NotIn (.Name y py) = false := by first | exact nomark _ | rfl) : DE X (.Compare a [.NotIn] [.Name y py] pos) (mODIn true ma i) := by
  obtain ⟨ta, pa, sa⟩ := ha
  refine ⟨_, pe_cmpR (op_dNotIn O.u1) pa (pe_var hN hv hd hcd) hmk, fun c σ H Hf e d e' Q hK R hm q => ?_⟩
  unfold mODIn at hm
  split at hm
  · cases hm
  rename_i x e1 h1
  split at hm
  · rename_i q1 g1
    split at hm
    · rename_i o h2
      cases hm
      refine sa c σ H Hf e _ _ _ hK R h1 fun w H1 Hf1 R1 S1 V1 => ?_
      obtain ⟨p, u, z1, _, _, z4, z5⟩ := R1.odAt g1
      obtain ⟨ov, k1, k2⟩ := dget_od z5 (.of z4) V1 R1.sf h2
      refine ⟨_, z1, p, ov, rfl, k1, ?_⟩
      rw [k2.isSome]
      have q' := q _ H1 Hf1 R1 S1 (.bl _)
      first | exact q' | (simpa using q')
    · cases hm
  · cases hm
theorem dt_odNotIn (O : XO X k) (i : Nat) (ha : DE X a ma) (hN : X.N[i]? = some y := by rfl) (hv : Vis X.env.scope y := by first | exact Or.inl rfl | exact Or.inr (Or.inl rfl) | exact Or.inr (Or.inr rfl)) (hd : (y == ("__debug__" : Str)) = false := by decide) (hcd : (y == ("__classdict__" : Str)) = false := by decide) (hmk : behindInMarks .NotIn (.Name y py) = false := by first | exact nomark _ | rfl) : DT X (.Compare a [.NotIn] [.Name y py] pos) (tVal (mODIn true ma i)) := by
  obtain ⟨ta, pa, sa⟩ := ha
  refine ⟨_, pt_cmpR (op_dNotIn O.u1) pa (pe_var hN hv hd hcd) hmk, fun c σ H Hf e d e' Q hK R hm q => ?_⟩
  unfold tVal at hm
  split at hm
  rotate_left
  · cases hm
  rename_i kb ek hm2
  cases hm
  unfold mODIn at hm2
  split at hm2
  · cases hm2
  rename_i x e1 h1
  split at hm2
  · rename_i q1 g1
    split at hm2
    · rename_i o h2
      cases hm2
      refine sa c σ H Hf e _ _ _ hK R h1 fun w H1 Hf1 R1 S1 V1 => ?_
      obtain ⟨p, u, z1, _, _, z4, z5⟩ := R1.odAt g1
      obtain ⟨ov, k1, k2⟩ := dget_od z5 (.of z4) V1 R1.sf h2
      refine ⟨_, z1, p, ov, rfl, k1, _, rfl, ?_⟩
      rw [k2.isSome]
      have q' := q H1 Hf1 R1 S1
      first | exact q' | (simpa using q')
    · cases hm2
  · cases hm2
/-- a new list, this or that -/
theorem dn_if {ec b : Expr} {tA : M Bool} {mx my : M (List D)} (ht : DT X ec tA) (ha : DN X a mx) (hb : DN X b my) : DN X (.IfExp ec a b pos) (mIfN tA mx my) := by
  obtain ⟨t, p, s⟩ := ht
  obtain ⟨u, p2, s2⟩ := ha
  obtain ⟨w, p3, s3⟩ := hb
  refine ⟨_, pe_ifExp p p2 p3, fun c σ H Hf e d e' Q hK R hm q => ?_⟩
  unfold mIfN at hm
  split at hm
  · cases hm
  · rename_i e1 h1
    refine s c σ H Hf e _ _ _ hK R h1 fun H1 Hf1 R1 S1 => ?_
    rw [if_pos rfl]
    exact s2 c σ H1 Hf1 _ _ _ _ hK R1 hm fun v us H' Hf' R' S' N' V' => q v us H' Hf' R' (S1.trans S') N' V'
  · rename_i e1 h1
    refine s c σ H Hf e _ _ _ hK R h1 fun H1 Hf1 R1 S1 => ?_
    rw [if_neg Bool.false_ne_true]
    exact s3 c σ H1 Hf1 _ _ _ _ hK R1 hm fun v us H' Hf' R' S' N' V' => q v us H' Hf' R' (S1.trans S') N' V'
end
end DL

/-! {k: v for .. in ..} -/
namespace DL
open PySem PySem.Spec PyProof.Rows L2
variable {X : Cx} {k : Nat}
/-- a dict comprehension over anything that is walked -/
theorem dc_walk {J : It} {n : Nat} {G : Hp → Prop} {Y : Nat → Hp → V → Hp → Prop} (w : Walk J n G Y) {g : TG} {tt : TT} {tk tv : TE} {vs : List Nat} {σ : L2.St} {H1 : Hp} {p : Addr} {Qd : Hp → Prop} (Pv : Nat → Hp → Prop) (start : Pv 0 (upd H1 p (.dK []))) (gate : ∀ i H, i ≤ n → Pv i H → G H)
    (turn : ∀ i x H H', i < n → Pv i H → Y i H x H' → g x (wipe σ vs) H' fun σ2 H2 => wipe σ2 vs = wipe σ vs ∧ tt σ2 H2 fun b H3 =>
      if b = true then tk σ2 H3 fun y H4 => tv σ2 H4 fun z H5 => ∃ kvs k, y = kV k ∧ H5 p = some (.dK kvs) ∧ kvs.length < sizeLine ∧ Pv (i + 1) (upd H5 p (.dK (putK kvs k z))) else Pv (i + 1) H3) (done : ∀ H, Pv n H → Qd H) :
    ∃ W : Nat → Nat → Hp → Prop, (∃ m, W 0 m (upd H1 p (.dK []))) ∧ ∀ i m H, W i m H →
      (J.stop i H ∧ Qd H) ∨ (J.go i H ∧ ∃ Nx : Hp → Prop, (∀ H', Nx H' → ∃ m', m' < m ∧ W (i + 1) m' H') ∧ ∀ x H', J.yld i H x H' → g x (wipe σ vs) H' fun σ2 H2 => wipe σ2 vs = wipe σ vs ∧ tt σ2 H2 fun b H3 =>
        if b = true then tk σ2 H3 fun y H4 => tv σ2 H4 fun z H5 => ∃ kvs k, y = kV k ∧ H5 p = some (.dK kvs) ∧ kvs.length < sizeLine ∧ Nx (upd H5 p (.dK (putK kvs k z))) else Nx H3) := by
  refine ⟨fun i m H => m + i = n ∧ Pv i H, ⟨n, Nat.add_zero n, start⟩, ?_⟩
  rintro i m H ⟨hm, hp⟩
  have hg := gate i H (by omega) hp
  cases m with
  | zero =>
    have e : i = n := by omega
    subst e
    exact .inl ⟨w.stops H hg, done H hp⟩
  | succ m =>
    have hi : i < n := by omega
    exact .inr ⟨w.goes i H hi hg, Pv (i + 1), fun H' hp' => ⟨m, Nat.lt_succ_self m, by omega, hp'⟩, fun x H' y => turn i x H H' hi hp (w.yields i H x H' hi hg y)⟩
/-- the state between two turns -/
structure DcAt (c : Ct) (σw : L2.St) (Hf1 : Hp) (vs : List Nat) (q0 : Addr) (p : Pt) (t : M Bool) (ek ev : M D) (ds : List D) (res : List (Ky × D)) (e2 : DL.Env) (i : Nat) (H : Hp) (Hf : Hp) (e : DL.Env) (acc : List (Ky × D)) (u : HO) : Prop where
  r : Rl c σw H Hf (wipeE e vs)
  s : Same Hf1 Hf
  h : H q0 = some u
  f : Hf q0 = none
  z : c.H0 q0 = none
  n : ∀ (j : Nat) (y : Od), (wipeE e vs)[j]? = some (.od y) → σw[j]? = some (some (.ref q0)) → False
  l : OdR c.K Hf u (.k acc)
  g : dcompL vs p t ek ev (ds.drop i) e acc = some (res, e2)
theorem dc_turn {tt : TT} {tk tv : TE} {K : PySem.W.Frag} {c : Ct} {σ : L2.St} {Hf1 : Hp} {vs is : List Nat} {q0 : Addr} {p : Pt} {t : M Bool} {ek ev : M D} {ds : List D} {res : List (Ky × D)} {e2 : DL.Env} {i : Nat} {x : V} {H H' Hf : Hp} {e : DL.Env} {acc : List (Ky × D)} {u : HO}
    (hK : c.K = K) (h0 : 0 ∉ vs) (his : ∀ i ∈ is, i ∈ vs) (A : DcAt c (wipe σ vs) Hf1 vs q0 p t ek ev ds res e2 i H Hf e acc u) (hy : YD K Hf1 ds i H x H')
    (ht : ∀ σ H Q, cT K t σ H Q → tt σ H Q) (hk : ∀ σ H Q, cE K ek σ H Q → tk σ H Q) (hv : ∀ σ H Q, cE K ev σ H Q → tv σ H Q) :
    gPt K p is x (wipe σ vs) H' fun σ2 H2 => wipe σ2 vs = wipe σ vs ∧ tt σ2 H2 fun b H3 =>
      if b = true then tk σ2 H3 fun y H4 => tv σ2 H4 fun z H5 => ∃ kvs k, y = kV k ∧ H5 q0 = some (.dK kvs) ∧ kvs.length < sizeLine ∧ ∃ Hf e acc' u', DcAt c (wipe σ vs) Hf1 vs q0 p t ek ev ds res e2 (i + 1) (upd H5 q0 (.dK (putK kvs k z))) Hf e acc' u'
      else ∃ Hf e acc' u', DcAt c (wipe σ vs) Hf1 vs q0 p t ek ev ds res e2 (i + 1) H3 Hf e acc' u' := by
  subst hK
  obtain ⟨Hf', d, R1, S1, V1, hd, k1, k2⟩ := A.r.item A.s hy
  have g := A.g
  rw [drop_cons hd] at g
  unfold dcompL at g
  have hq : H' q0 = some u := k1 _ _ A.h
  have hfq : Hf' q0 = none := k2 _ _ A.h (fun _ z => A.l.nt z) A.f
  have back : ∀ (σ2 : L2.St) (H3 Hf3 : Hp) (e3 : DL.Env), wipe σ2 vs = wipe σ vs → Rl (c.blk (wipe σ vs) H' Hf' (wipeE e vs)) σ2 H3 Hf3 e3 → Rl c (wipe σ vs) H3 Hf3 (wipeE e3 vs) ∧ H3 q0 = some u ∧ Hf3 q0 = none ∧
      ∀ (j : Nat) (y : Od), (wipeE e3 vs)[j]? = some (.od y) → (wipe σ vs)[j]? = some (some (.ref q0)) → False := fun σ2 H3 Hf3 e3 w R3 => by
    have no : ¬ (c.blk (wipe σ vs) H' Hf' (wipeE e vs)).own q0 := fun h => h.elim (fun ⟨j, xs, q1, q2⟩ => R1.dct_noL hq (fun _ z => A.l.nl z) j xs q1 q2) fun ⟨j, y, q1, q2⟩ => A.n j y q1 q2
    have R4 := R3.wipe h0
    rw [w] at R4
    refine ⟨R1.leave R4, R3.fr _ _ hq no, ?_, fun j ys q1 q2 => ?_⟩
    · cases z : Hf3 q0 with
      | none => rfl
      | some o =>
        rcases R3.nw _ _ z with y | y | ⟨ys, rfl⟩
        · rw [show (c.blk (wipe σ vs) H' Hf' (wipeE e vs)).Hf0 q0 = Hf' q0 from rfl, hfq] at y; cases y
        · rw [show (c.blk (wipe σ vs) H' Hf' (wipeE e vs)).H0 q0 = H' q0 from rfl, hq] at y; cases y
        · have y := R3.sf _ _ z; rw [R3.fr _ _ hq no] at y; exact (A.l.nt (Option.some.inj y)).elim
    · obtain ⟨a, us', f1, _, f3, _, _⟩ := R4.odAt q1
      rw [q2] at f1
      cases f1
      rcases f3 with f3 | f3
      · exact no f3
      · rw [show (c.blk (wipe σ vs) H' Hf' (wipeE e vs)).H0 q0 = H' q0 from rfl, hq] at f3; cases f3
  split at g
  · cases g
  rename_i e1 h1
  refine ⟨c.blk (wipe σ vs) H' Hf' (wipeE e vs), Hf', wipeE e vs, d, e1, rfl, R1.enter, .inl fun y => h0 (his 0 y), V1, h1, fun σ2 R2 w2 => ?_⟩
  have w2 := (w2 vs his).trans (wipe_wipe σ vs)
  refine ⟨w2, ?_⟩
  split at g
  · cases g
  · rename_i e3 h2
    refine ht _ _ _ ⟨c.blk (wipe σ vs) H' Hf' (wipeE e vs), Hf', e1, false, e3, rfl, R2, h2, fun H3 Hf3 R3 S3 => ?_⟩
    dsimp only
    rw [if_neg Bool.false_ne_true]
    obtain ⟨b1, b2, b3, b4⟩ := back σ2 H3 Hf3 e3 w2 R3
    exact ⟨Hf3, e3, acc, u, b1, A.s.trans (S1.trans S3), b2, b3, A.z, b4, (A.l.mono S1).mono S3, g⟩
  · rename_i e3 h2
    refine ht _ _ _ ⟨c.blk (wipe σ vs) H' Hf' (wipeE e vs), Hf', e1, true, e3, rfl, R2, h2, fun H3 Hf3 R3 S3 => ?_⟩
    dsimp only
    rw [if_pos rfl]
    split at g
    · cases g
    rename_i y e4 h3
    split at g
    · cases g
    rename_i yv e5 h4
    split at g
    · cases g
    rename_i ky hky
    refine hk _ _ _ ⟨c.blk (wipe σ vs) H' Hf' (wipeE e vs), Hf3, e3, y, e4, rfl, R3, h3, fun v H4 Hf4 R4 S4 V4 => ?_⟩
    refine hv _ _ _ ⟨c.blk (wipe σ vs) H' Hf' (wipeE e vs), Hf4, e4, yv, e5, rfl, R4, h4, fun v2 H5 Hf5 R5 S5 V5 => ?_⟩
    split at g
    · rename_i hc
      obtain ⟨b1, b2, b3, b4⟩ := back σ2 H5 Hf5 e5 w2 R5
      have l5 := (((A.l.mono S1).mono S3).mono S4).mono S5
      cases l5 with
      | k ek1 rk =>
        subst ek1
        obtain ⟨ws', f1, f2⟩ := put_rep ky V5 rk
        refine ⟨_, ky, ky_rep V4 hky, b2, ?_, Hf5, e5, _, _, b1.bump A.z b3 (b1.dct_noL b2 fun _ z => nomatch z) b4, A.s.trans (S1.trans (S3.trans (S4.trans S5))), upd_same, b3, A.z, b4, ?_, g⟩
        · rw [List.length_zip, rk.length, List.length_map, List.length_map, Nat.min_self]
          exact hc
        · rw [f1]
          exact .k rfl f2
    · cases g
variable {tg iter ekx evx : Expr} {ifs : List Expr} {scope : Scope} {own : List (Str × Nat)} {mi : M (List D)} {p : Pt} {is : List Nat} {mt : M Bool} {mk mv : M D} {pos spos : Pos}
/-- {k: v for tg in iter if ..} -/
theorem dq_comp (O : XO X k) (hi : DI X tg iter mi) (ok : BlkOk X.N X.env.scope scope own)
    (hg : ∀ (s : Shared) (H : Hp) (C : Addr) (cl : List (Str × Addr)) (fp : List Addr), XO (X.blk s H scope (compEnvC scope cl C X.env) fp) k → DPt (X.blk s H scope (compEnvC scope cl C X.env) fp) tg p is)
    (ht : ∀ (s : Shared) (H : Hp) (C : Addr) (cl : List (Str × Addr)) (fp : List Addr), XO (X.blk s H scope (compEnvC scope cl C X.env) fp) k → DTs (X.blk s H scope (compEnvC scope cl C X.env) fp) ifs mt)
    (hk : ∀ (s : Shared) (H : Hp) (C : Addr) (cl : List (Str × Addr)) (fp : List Addr), XO (X.blk s H scope (compEnvC scope cl C X.env) fp) k → DE (X.blk s H scope (compEnvC scope cl C X.env) fp) ekx mk)
    (hv : ∀ (s : Shared) (H : Hp) (C : Addr) (cl : List (Str × Addr)) (fp : List Addr), XO (X.blk s H scope (compEnvC scope cl C X.env) fp) k → DE (X.blk s H scope (compEnvC scope cl C X.env) fp) evx mv)
    (h0 : 0 ∉ own.map (·.2) := by decide) (his : ∀ i ∈ is, i ∈ own.map (·.2) := by decide) (hs : ∀ x, foldedSetIterable iter X.env x = pure x := by intro _; rfl) : DQ X (.DictComp ekx evx [⟨tg, iter, ifs, 0⟩] scope pos) (mDComp (own.map (·.2)) mi p mt mk mv) := by
  obtain ⟨wi, pI, si⟩ := hi
  have bo : ∀ (s : Shared) (H : Hp) (C : Addr) (cl : List (Str × Addr)) (fp : List Addr), XO (X.blk s H scope (compEnvC scope cl C X.env) fp) k := fun s H C cl fp => ⟨O.calm, O.nd, O.room, PassesOwn.never⟩
  refine ⟨_, pe_dc (g := gPt X.K p is) (tt := cT X.K mt) (tk := cE X.K mk) (tv := cE X.K mv) O.calm O.nd pI ok (fun s H C cl fp => hg s H C cl fp (bo s H C cl fp)) (fun s H C cl fp => ht s H C cl fp (bo s H C cl fp)) (fun s H C cl fp => (hk s H C cl fp (bo s H C cl fp)).can) (fun s H C cl fp => (hv s H C cl fp (bo s H C cl fp)).can) hs, fun c σ H Hf e x e' Q hK R hm q => ?_⟩
  generalize own.map (·.2) = vs at h0 his hm ⊢
  unfold mDComp at hm
  split at hm
  · cases hm
  rename_i ds e1 h1
  split at hm
  · cases hm
  rename_i acc e2 h2
  cases hm
  refine si c σ H Hf e ds e1 _ hK R h1 fun J H1 Hf1 R1 S1 W => fun q0 hq0 => ?_
  have z := R1.h0 hq0
  have f1 := none_sub R1.sf hq0
  refine dc_walk W (Pv := fun i H' => ∃ Hf' e' acc' u, DcAt c (wipe σ vs) Hf1 vs q0 p mt mk mv ds acc e2 i H' Hf' e' acc' u) ?_ (fun i H' _ ⟨Hf', e', acc, us, A⟩ => A.s.trans A.r.sf) (fun i x H' H'' hi ⟨Hf', e', acc, us, A⟩ y => ?_) (fun H' ⟨Hf', e', acc', us, A⟩ => ?_)
  · refine ⟨Hf1, wipeE e1 vs, [], .dK [], ?_, Same.refl _, upd_same, f1, z, fun j ys q1 q2 => ?_, .k (kvs := []) rfl .nil, by rw [List.drop_zero]; exact h2⟩
    · rw [wipeE_wipeE]; exact (R1.track hq0).wipe h0
    · rw [wipeE_wipeE] at q1
      obtain ⟨q2, n⟩ := wipe_in q2
      rw [wipeE_out n] at q1
      exact R1.new_noD hq0 j ys q1 q2
  · exact dc_turn hK h0 his A y (fun _ _ _ h => h) (fun _ _ _ h => h) (fun _ _ _ h => h)
  · have g := A.g
    rw [List.drop_length] at g
    have g' : some (acc', e') = some (acc, e2) := g
    cases g'
    have R2 := R1.unwipe h0 A.s A.r
    refine q q0 us H' Hf' R2 (S1.trans A.s) ⟨A.h, A.f, z, fun j ys q1 q2 => ?_⟩ A.l
    by_cases n : j ∈ vs
    · rcases backE_in n q1 with y | ⟨d, y, _⟩ <;> cases y
    · rw [backE_out n] at q1
      exact A.n j ys (by rw [wipeE_out n]; exact q1) (by rw [wipe_out n]; exact q2)
end DL

/-! list(zip(a, b)) of two lists. -/
namespace ZLs
open PySem PySem.Spec PyProof.Rows L2 PySem.W
/-- the zip and what it draws from, behind i draws; every tuple that it gave still stands -/
structure ZSt (h : Heap) (z TI TO p q a b S : Addr) (xs ys : Array Value) (i : Nat) : Prop where
  j1 : h.IsListIter p a i
  j2 : h.IsListIter q b i
  r1 : h.IsList a xs
  r2 : h.IsList b ys
  ti : IsPair h TI (.ref p) (.ref q)
  zz : (IsZip h z TI TO .none ∧ ∃ u v, IsPair h TO u v) ∨ ∃ (T : Addr) (f : Bool) (oT : Obj), IsZipHeld h z TI TO T f ∧ h.get? T = some oT ∧ T ≠ z ∧ T ≠ p ∧ T ≠ q ∧ T ≠ S
theorem it_lt {h : Heap} {p a : Addr} {i : Nat} (j : h.IsListIter p a i) : p < h.objs.size := by
  obtain ⟨_, e, _⟩ := j; exact Heap.lt_size e
section
variable {prog : Program} {w : World} {A : Around} {E : Value → Shared → Prop} {s : Shared} {z TI TO p q a b S : Addr} {xs ys : Array Value} {i : Nat}
theorem ZSt.stay {h h' : Heap} (st : ZSt h z TI TO p q a b S xs ys i) (hS : S ∉ [z, TI, TO, p, q, a, b]) (k : ∀ c o, c ≠ S → h.get? c = some o → h'.get? c = some o) : ZSt h' z TI TO p q a b S xs ys i := by
  simp only [List.mem_cons, List.not_mem_nil, or_false, not_or] at hS
  obtain ⟨s1, s2, s3, s4, s5, s6, s7⟩ := hS
  refine ⟨st.j1.at fun o e => k _ o (Ne.symm s4) e, st.j2.at fun o e => k _ o (Ne.symm s5) e, st.r1.at fun o e => k _ o (Ne.symm s6) e, st.r2.at fun o e => k _ o (Ne.symm s7) e, k _ _ (Ne.symm s2) st.ti, ?_⟩
  rcases st.zz with ⟨g1, u, v, g2⟩ | ⟨T, f, oT, g1, g2, n1, n2, n3, n4⟩
  · exact .inl ⟨k _ _ (Ne.symm s1) g1, u, v, k _ _ (Ne.symm s3) g2⟩
  · exact .inr ⟨T, f, oT, k _ _ (Ne.symm s1) g1, k _ _ n4 g2, n1, n2, n3, n4⟩
theorem ZSt.draw {x y : Value} {Q : Option Value → Shared → Prop} (D : ZipApart z TI TO p q a b) (st : ZSt s.heap z TI TO p q a b S xs ys i) (hS : S < s.heap.objs.size) (hx : xs[i]? = some x) (hy : ys[i]? = some y)
    (hQ : ∀ h', ZSt h' z TI TO p q a b S xs ys (i + 1) → IsPair h' s.heap.objs.size x y → (∀ c o, c ≠ z → c ≠ TO → c ≠ p → c ≠ q → s.heap.get? c = some o → h'.get? c = some o) → Q (some (.ref s.heap.objs.size)) { s with heap := h' }) :
    wpAny (model prog w) A (pyNext (.ref z)) Q E s := by
  have np := it_lt st.j1
  have nq := it_lt st.j2
  rcases st.zz with ⟨g1, u, v, g2⟩ | ⟨T, f, oT, g1, g2, n1, n2, n3, n4⟩
  · refine wpAny_pyNext_zip_item D g1 st.ti g2 st.j1 st.j2 st.r1 st.r2 hx hy fun h' c1 c2 c3 c4 c5 c6 c7 => ?_
    have nz : z < s.heap.objs.size := Heap.lt_size g1
    exact hQ h' ⟨c3, c4, st.r1.at fun o e => c7 _ o D.l1z D.l1TO D.l1i1 D.l1i2 e, st.r2.at fun o e => c7 _ o D.l2z D.l2TO D.l2i1 D.l2i2 e, c7 _ _ D.TIz D.TITO D.TIi1 D.TIi2 st.ti,
      .inr ⟨s.heap.objs.size, false, _, c1, c5, Nat.ne_of_gt nz, Nat.ne_of_gt np, Nat.ne_of_gt nq, Nat.ne_of_gt hS⟩⟩ c5 c7
  · refine wpAny_pyNext_zip_item_held D g1 g2 st.ti st.j1 st.j2 st.r1 st.r2 hx hy fun h' c1 c3 c4 c5 c6 c7 => ?_
    exact hQ h' ⟨c3, c4, st.r1.at fun o e => c7 _ o D.l1z D.l1i1 D.l1i2 e, st.r2.at fun o e => c7 _ o D.l2z D.l2i1 D.l2i2 e, c7 _ _ D.TIz D.TIi1 D.TIi2 st.ti,
      .inr ⟨T, true, oT, c1, c7 _ _ n1 n2 n3 g2, n1, n2, n3, n4⟩⟩ c5 fun c o d1 _ d3 d4 e => c7 c o d1 d3 d4 e
theorem ZSt.fin {Q : Option Value → Shared → Prop} (hh : A.handled = none) (D : ZipApart z TI TO p q a b) (st : ZSt s.heap z TI TO p q a b S xs ys i) (he : xs[i]? = none ∨ ys[i]? = none)
    (hQ : ∀ h', (∀ c o, c ≠ z → c ≠ TO → c ≠ p → c ≠ q → s.heap.get? c = some o → h'.get? c = some o) → Q none { s with heap := h' }) :
    wpAny (model prog w) A (pyNext (.ref z)) Q E s := by
  rcases st.zz with ⟨g1, u, v, g2⟩ | ⟨T, f, oT, g1, g2, n1, n2, n3, n4⟩
  · exact wpAny_pyNext_zip_end hh D g1 st.ti g2 st.j1 st.j2 st.r1 st.r2 he fun h' k => hQ h' k
  · exact wpAny_pyNext_zip_end_held hh D g1 g2 st.ti st.j1 st.j2 st.r1 st.r2 he fun h' k => hQ h' fun c o d1 _ d3 d4 e => k c o d1 d3 d4 e
/-- the tuples of the first items, all from lo on -/
structure TPs (xs ys : Array Value) (lo : Addr) (h : Heap) (ts : List Addr) : Prop where
  up : ts.Pairwise (· < ·)
  lo : ∀ t ∈ ts, lo ≤ t
  pr : ∀ (j : Nat) (t : Addr), ts[j]? = some t → ∃ x y, xs[j]? = some x ∧ ys[j]? = some y ∧ IsPair h t x y
theorem TPs.lt {lo : Addr} {h : Heap} {ts : List Addr} (g : TPs xs ys lo h ts) {t : Addr} (ht : t ∈ ts) : t < h.objs.size := by
  obtain ⟨j, hj⟩ := List.mem_iff_getElem?.mp ht
  obtain ⟨_, _, _, _, e⟩ := g.pr j t hj
  exact Heap.lt_size e
theorem TPs.stay {lo : Addr} {h h' : Heap} {ts : List Addr} (g : TPs xs ys lo h ts) (k : ∀ t o, lo ≤ t → h.get? t = some o → h'.get? t = some o) : TPs xs ys lo h' ts :=
  ⟨g.up, g.lo, fun j t hj => by
    obtain ⟨x, y, e1, e2, e3⟩ := g.pr j t hj
    exact ⟨x, y, e1, e2, k t _ (g.lo t (List.mem_of_getElem? hj)) e3⟩⟩
theorem TPs.snoc {lo : Addr} {h : Heap} {ts : List Addr} {t : Addr} {x y : Value} (g : TPs xs ys lo h ts) (hl : lo ≤ t) (hu : ∀ u ∈ ts, u < t) (hx : xs[ts.length]? = some x) (hy : ys[ts.length]? = some y) (hp : IsPair h t x y) : TPs xs ys lo h (ts ++ [t]) := by
  refine ⟨List.pairwise_append.mpr ⟨g.up, List.pairwise_singleton _ _, fun u hu' v hv => ?_⟩, fun u hu' => ?_, fun j u hj => ?_⟩
  · rw [List.mem_singleton.mp hv]; exact hu u hu'
  · rcases List.mem_append.mp hu' with z | z
    · exact g.lo u z
    · rw [List.mem_singleton.mp z]; exact hl
  · by_cases h1 : j < ts.length
    · rw [List.getElem?_append_left h1] at hj
      exact g.pr j u hj
    · have h2 : j = ts.length := by
        have := (List.getElem?_eq_some_iff.mp hj).1
        rw [List.length_append, List.length_singleton] at this
        omega
      subst h2
      have : t = u := by simpa using hj
      subst this
      exact ⟨x, y, hx, hy, hp⟩
abbrev lstO (acc : Array Value) (c : Nat) : Obj := { cls := .type "list", dict := none, data := .seq acc c, slots := #[] }
theorem zip_drain {lo : Addr} (hh : A.handled = none) (D : ZipApart z TI TO p q a b) (hS : S ∉ [z, TI, TO, p, q, a, b]) (hlo : ∀ c ∈ [S, z, TO, p, q], c < lo) (res : Value) (h₀ : Heap) (hm : min xs.size ys.size ≤ sizeLine) {R : Result → Shared → Prop}
    (fin : ∀ h' tk acc c ts, (∀ u o, u ≠ S → u ≠ z → u ≠ TO → u ≠ p → u ≠ q → h₀.get? u = some o → h'.get? u = some o) → h'.get? S = some (lstO acc c) → ts.length = min xs.size ys.size → TPs xs ys lo h' ts →
      acc.toList = ts.map Value.ref → R (.ok (.ret res)) { s with heap := h', toks := tk }) :
    ∀ (m i : Nat) (h : Heap) (tk c : Nat) (acc : Array Value) (ts : List Addr), min xs.size ys.size - i = m → i ≤ min xs.size ys.size → ZSt h z TI TO p q a b S xs ys i →
      (∀ u o, u ≠ S → u ≠ z → u ≠ TO → u ≠ p → u ≠ q → h₀.get? u = some o → h.get? u = some o) → h.get? S = some (lstO acc c) → acc.toList = ts.map Value.ref → ts.length = i → TPs xs ys lo h ts → lo ≤ h.objs.size →
      codeAny (model prog w) A (.builtin "list.extend.loop" ⟨[.ref S, .ref z, res], []⟩) R { s with heap := h, toks := tk } := by
  have nS : S ≠ z ∧ S ≠ TO ∧ S ≠ p ∧ S ≠ q := by
    simp only [List.mem_cons, List.not_mem_nil, or_false, not_or] at hS
    exact ⟨hS.1, hS.2.2.1, hS.2.2.2.1, hS.2.2.2.2.1⟩
  have hl : ∀ t, lo ≤ t → t ≠ S ∧ t ≠ z ∧ t ≠ TO ∧ t ≠ p ∧ t ≠ q := fun t ht => by
    have h1 := hlo S (by simp)
    have h2 := hlo z (by simp)
    have h3 := hlo TO (by simp)
    have h4 := hlo p (by simp)
    have h5 := hlo q (by simp)
    exact ⟨Nat.ne_of_gt (Nat.lt_of_lt_of_le h1 ht), Nat.ne_of_gt (Nat.lt_of_lt_of_le h2 ht), Nat.ne_of_gt (Nat.lt_of_lt_of_le h3 ht), Nat.ne_of_gt (Nat.lt_of_lt_of_le h4 ht), Nat.ne_of_gt (Nat.lt_of_lt_of_le h5 ht)⟩
  intro m
  induction m with
  | zero =>
    intro i h tk c acc ts hk hi st keep hSo hacc htl g hsz
    have hin : i = min xs.size ys.size := by omega
    refine codeAny_builtin PySem.F.entry_extend_loop ?_
    rw [Around.under_plainId PySem.F.plain_extend_loop _]
    show wpAny _ A.in1 (pyNext (.ref z) >>= _) _ _ _
    have he : xs[i]? = none ∨ ys[i]? = none := by
      rcases Nat.le_total xs.size ys.size with z1 | z1
      · exact .inl (Array.getElem?_eq_none (by omega))
      · exact .inr (Array.getElem?_eq_none (by omega))
    refine wpAny_bind (st.fin (s := { s with heap := h, toks := tk }) (A := A.in1) hh D he fun h' k => ?_)
    refine wpAny_pure (fin h' tk acc c ts (fun u o n1 n2 n3 n4 n5 e => k u o n2 n3 n4 n5 (keep u o n1 n2 n3 n4 n5 e)) (k S _ nS.1 nS.2.1 nS.2.2.1 nS.2.2.2 hSo) (by omega) (g.stay fun t o ht e => ?_) hacc)
    obtain ⟨_, y2, y3, y4, y5⟩ := hl t ht
    exact k t o y2 y3 y4 y5 e
  | succ m ih =>
    intro i h tk c acc ts hk hi st keep hSo hacc htl g hsz
    have hlt : i < min xs.size ys.size := by omega
    have hx : xs[i]? = some xs[i] := Array.getElem?_eq_getElem (by omega)
    have hy : ys[i]? = some ys[i] := Array.getElem?_eq_getElem (by omega)
    have hasz : acc.size = i := by rw [← Array.length_toList, hacc, List.length_map, htl]
    have hSl : S < h.objs.size := Heap.lt_size hSo
    refine codeAny_builtin PySem.F.entry_extend_loop ?_
    rw [Around.under_plainId PySem.F.plain_extend_loop _]
    show wpAny _ A.in1 (pyNext (.ref z) >>= _) _ _ _
    refine wpAny_bind (st.draw (s := { s with heap := h, toks := tk }) D hSl hx hy fun h' st' hp k => ?_)
    dsimp only at hp k ⊢
    have hS' := k S _ nS.1 nS.2.1 nS.2.2.1 nS.2.2.2 hSo
    have up : ∀ u o, u ≠ S → h'.get? u = some o → (h'.update S (Obj.mapSeq (·.push (Value.ref h.objs.size)))).get? u = some o := fun u o hu e => (Heap.get?_update_other _ _ (Ne.symm hu)).trans e
    show wpAny _ A.in1 (updateSeq S (·.push (Value.ref h.objs.size)) >>= _) _ _ _
    have hp2 : IsPair (h'.update S (Obj.mapSeq (·.push (Value.ref h.objs.size)))) h.objs.size xs[i] ys[i] := up _ _ (Nat.ne_of_gt hSl) hp
    refine wpAny_bind (wpAny_updateSeq hS' rfl (wpAny_pure ⟨plainId_quiet PySem.F.plain_extend_loop _, ih (i + 1) _ tk _ (acc.push (Value.ref h.objs.size)) (ts ++ [h.objs.size]) (by omega) hlt (st'.stay hS up)
      (fun u o n1 n2 n3 n4 n5 e => up u o n1 (k u o n2 n3 n4 n5 (keep u o n1 n2 n3 n4 n5 e))) (Heap.get?_update_self _ hS' rfl) (by rw [Array.toList_push, hacc, List.map_append]; rfl) (by rw [List.length_append, htl]; rfl) ?_ ?_⟩) (by rw [hasz]; omega) (by show (acc.push (Value.ref h.objs.size)).size ≤ sizeLine + 1; rw [Array.size_push, hasz]; omega))
    · refine (g.stay fun t o ht e => ?_).snoc hsz (fun u hu => g.lt hu) (by rw [htl]; exact hx) (by rw [htl]; exact hy) hp2
      obtain ⟨y1, y2, y3, y4, y5⟩ := hl t ht
      exact up t o y1 (k t o y2 y3 y4 y5 e)
    · exact Nat.le_trans hsz (Nat.le_of_lt (Heap.lt_size hp2))
theorem no_len : typeLookup (.type "zip") "__len__" = pure none := by rw [typeLookup_type, builtinLookup_eq_fast]; kernel_rfl
theorem no_hint : typeLookup (.type "zip") "__length_hint__" = pure none := by rw [typeLookup_type, builtinLookup_eq_fast]; kernel_rfl
/-- list(z) of a new zip -/
theorem list_zip {Q : Value → Shared → Prop} (hh : A.handled = none) (D : ZipApart z TI TO p q a b) (hz : IsZip s.heap z TI TO .none) (hTI : IsPair s.heap TI (.ref p) (.ref q)) (hTO : ∃ u v, IsPair s.heap TO u v)
    (j1 : s.heap.IsListIter p a 0) (j2 : s.heap.IsListIter q b 0) (r1 : s.heap.IsList a xs) (r2 : s.heap.IsList b ys) (hm : min xs.size ys.size ≤ sizeLine)
    (hQ : ∀ h' tk acc c ts, (∀ u o, u ≠ z → u ≠ TO → u ≠ p → u ≠ q → s.heap.get? u = some o → h'.get? u = some o) → h'.get? s.heap.objs.size = some (lstO acc c) → ts.length = min xs.size ys.size → TPs xs ys (s.heap.objs.size + 1) h' ts →
      acc.toList = ts.map Value.ref → Q (.ref s.heap.objs.size) { s with heap := h', toks := tk }) :
    wpAny (model prog w) A (call (.type "list") [.ref z]) Q E s := by
  have lz : z < s.heap.objs.size := Heap.lt_size hz
  have lTI : TI < s.heap.objs.size := Heap.lt_size hTI
  have lTO : TO < s.heap.objs.size := let ⟨_, _, e⟩ := hTO; Heap.lt_size e
  have lp := it_lt j1
  have lq := it_lt j2
  have la : a < s.heap.objs.size := let ⟨_, e, _⟩ := r1; Heap.lt_size e
  have lb : b < s.heap.objs.size := let ⟨_, e, _⟩ := r2; Heap.lt_size e
  have hS : s.heap.objs.size ∉ [z, TI, TO, p, q, a, b] := by
    simp only [List.mem_cons, List.not_mem_nil, or_false, not_or]
    exact ⟨Nat.ne_of_gt lz, Nat.ne_of_gt lTI, Nat.ne_of_gt lTO, Nat.ne_of_gt lp, Nat.ne_of_gt lq, Nat.ne_of_gt la, Nat.ne_of_gt lb⟩
  have st0 : ZSt s.heap z TI TO p q a b s.heap.objs.size xs ys 0 := ⟨j1, j2, r1, r2, hTI, .inl ⟨hz, hTO⟩⟩
  refine callType_codes (Q₁ := fun obj s₁ => obj = .ref s.heap.objs.size ∧ s₁ = { s with heap := s.heap.push { cls := .type "list", data := .seq #[] } }) PySem.F.called_list (PySem.F.typeCall_list_1 _) PySem.F.entry_list_init
    (code_list_new _ ⟨rfl, rfl⟩) fun obj s₁ ⟨eo, es⟩ => ?_
  subst eo
  subst es
  have o1 : (s.heap.push { cls := .type "list", data := .seq #[] }).get? s.heap.objs.size = some { cls := .type "list", data := .seq #[] } := Heap.get?_push_size _ rfl
  refine ⟨⟨_, o1, rfl⟩, PySem.F.args_list_init_2 _ _, ?_⟩
  show wpAny _ A.in1.in1 (do let old ← Builtin.List.listItems (.ref s.heap.objs.size); Builtin.List.listUpdate (.ref s.heap.objs.size) (fun _ => #[]); letGo old.toList.reverse; Builtin.List.listExtendWith (.ref s.heap.objs.size) (.ref z) .none) _ _ _
  refine wpAny_bind ?_
  unfold Builtin.List.listItems
  refine wpAny_bind (wpAny_seqItems o1 rfl (wpAny_pure ?_))
  show wpAny _ A.in1.in1 (updateSeq s.heap.objs.size (fun _ => #[]) >>= fun _ => letGo (#[] : Array Value).toList.reverse >>= fun _ => Builtin.List.listExtendWith (.ref s.heap.objs.size) (.ref z) .none) _ _ _
  refine wpAny_bind (wpAny_updateSeq o1 rfl ?_)
  have o2 := Heap.get?_update_self (Obj.mapSeq (fun _ => (#[] : Array Value))) o1 rfl
  refine wpAny_bind (wpAny_letGo ?_)
  unfold Builtin.List.listExtendWith
  have step : ∀ (h : Heap) (f : Obj → Obj), (∀ u o, s.heap.get? u = some o → h.get? u = some o) → ∀ u o, s.heap.get? u = some o → (h.update s.heap.objs.size f).get? u = some o := fun h f x u o e =>
    (Heap.get?_update_other _ _ (Ne.symm (Nat.ne_of_lt (Heap.lt_size e)))).trans (x u o e)
  have k1 : ∀ u o, s.heap.get? u = some o → (s.heap.push { cls := .type "list", data := .seq #[] }).get? u = some o := fun u o e => Heap.get?_push_of_some _ e
  have k2 := step _ (Obj.mapSeq (fun _ => (#[] : Array Value))) k1
  have zt : ∀ {h : Heap} {tk : Nat}, (∀ u o, s.heap.get? u = some o → h.get? u = some o) → Shared.TypeIs { s with heap := h, toks := tk } (.ref z) "zip" := fun {h tk} x => ⟨_, x _ _ hz, rfl⟩
  refine wpAny_bind (wpAny_typeOf (T := "zip") (zt k2) ?_)
  have e1 : Builtin.List.listSameRef (.ref s.heap.objs.size) (.ref z) = false := by
    have : s.heap.objs.size ≠ z := Nat.ne_of_gt lz
    simp [Builtin.List.listSameRef, this]
  have e2 : (Value.type "zip" == Value.type "list") = false := by decide
  have e3 : (Value.type "zip" == Value.type "tuple") = false := by decide
  simp only [e1, e2, e3, Bool.or_false, Bool.false_eq_true, if_false]
  refine wpAny_bind (wpAny_pyIter_zip (k2 _ _ hz) ?_)
  refine wpAny_bind (wpAny_holding ?_)
  unfold Builtin.List.listLengthHint
  refine wpAny_bind (wpAny_specialOf (zt k2) no_len ?_)
  show wpAny _ A.in1.in1 (specialOf (Value.ref z) (Str.ofString "__length_hint__") >>= _) _ _ _
  refine wpAny_bind (wpAny_specialOf (zt k2) no_hint ?_)
  refine wpAny_pure ?_
  show wpAny _ A.in1.in1 (rule "list.extend.makes-room" >>= fun _ => Builtin.List.listTouch (.ref s.heap.objs.size) >>= fun _ => again (.builtin "list.extend.loop" ⟨[.ref s.heap.objs.size, .ref z, .none], []⟩)) _ _ _
  refine wpAny_bind (wpAny_rule ?_)
  refine wpAny_bind ?_
  show wpAny _ A.in1.in1 (updateSeq s.heap.objs.size (·.push .none) >>= fun _ => updateSeq s.heap.objs.size (·.pop)) _ _ _
  refine wpAny_bind (wpAny_updateSeq o2 rfl ?_)
  have o3 := Heap.get?_update_self (Obj.mapSeq (·.push Value.none)) o2 rfl
  refine wpAny_updateSeq (hz := by seq_fits) o3 rfl ?_
  have o4 := Heap.get?_update_self (Obj.mapSeq (·.pop)) o3 rfl
  have k4 := step _ (Obj.mapSeq (·.pop)) (step _ (Obj.mapSeq (·.push Value.none)) k2)
  have lt4 : ∀ {h : Heap}, h.get? s.heap.objs.size ≠ none → s.heap.objs.size + 1 ≤ h.objs.size := fun {h} x => by
    cases y : h.get? s.heap.objs.size with
    | none => exact absurd y x
    | some o => exact Heap.lt_size y
  refine wpAny_pure ⟨plainId_quiet PySem.F.plain_extend_loop _, ?_⟩
  refine zip_drain (s := s) (A := A.in1) (lo := s.heap.objs.size + 1) hh D hS (fun c hc => ?_) .none s.heap hm (fun h' tk acc c ts kk hSo htl g hacc => ⟨rfl, hQ h' tk acc c ts (fun u o n2 n3 n4 n5 e => kk u o (Nat.ne_of_lt (Heap.lt_size e)) n2 n3 n4 n5 e) hSo htl g hacc⟩)
    (min xs.size ys.size) 0 _ _ _ #[] [] (Nat.sub_zero _) (Nat.zero_le _) (st0.stay hS fun c o _ e => k4 c o e) (fun u o _ _ _ _ _ e => k4 u o e) o4 rfl rfl ⟨List.Pairwise.nil, (fun _ hc => nomatch hc), fun j t hj => by simp at hj⟩ (lt4 (by rw [o4]; exact fun e => nomatch e))
  simp only [List.mem_cons, List.not_mem_nil, or_false] at hc
  rcases hc with rfl | rfl | rfl | rfl | rfl
  · exact Nat.lt_succ_self _
  · exact Nat.lt_succ_of_lt lz
  · exact Nat.lt_succ_of_lt lTO
  · exact Nat.lt_succ_of_lt lp
  · exact Nat.lt_succ_of_lt lq
end
end ZLs
namespace ZLs
open PySem PySem.Spec PyProof.Rows L2 PySem.W
def putP : Hp → List Addr → List (V × V) → Hp
  | H, t :: ts, x :: r => putP (upd H t (.tup [x.1, x.2])) ts r
  | H, _, _ => H
theorem putP_off {u : Addr} : ∀ (ts : List Addr) (ps : List (V × V)) (H : Hp), u ∉ ts → putP H ts ps u = H u
  | [], _, _, _ => rfl
  | _ :: _, [], _, _ => rfl
  | t :: ts, x :: ps, H, h => by
    rw [List.mem_cons, not_or] at h
    show putP (upd H t (.tup [x.1, x.2])) ts ps u = H u
    rw [putP_off ts ps _ h.2, upd_ne h.1]
theorem putP_at : ∀ (ts : List Addr) (ps : List (V × V)) (H : Hp), ts.length = ps.length → ts.Nodup → Paired (fun (t : Addr) (x : V × V) => putP H ts ps t = some (.tup [x.1, x.2])) ts ps
  | [], [], _, _, _ => .nil
  | [], _ :: _, _, h, _ => by cases h
  | _ :: _, [], _, h, _ => by cases h
  | t :: ts, x :: ps, H, h, hn => by
    rw [List.nodup_cons] at hn
    refine .cons ?_ (putP_at ts ps (upd H t (.tup [x.1, x.2])) (Nat.succ.inj h) hn.2)
    show putP (upd H t (.tup [x.1, x.2])) ts ps t = _
    rw [putP_off ts ps _ hn.1, upd_same]
section
variable {X : Cx}
theorem zl_laid {pins : List (Addr × Obj)} {σ : L2.St} {H : Hp} {s : Shared} {h' : Heap} {tk : Nat} {ps : List (V × V)} {xs ys : Array Value} {acc : Array Value} {c : Nat} {ts : List Addr} {S : Addr} (I : Inv X pins σ H s) (hz : ps.length ≤ sizeLine)
    (hv : ∀ (j : Nat) (x y : Value), xs[j]? = some x → ys[j]? = some y → ∃ v, ps[j]? = some v ∧ RelV v.1 x ∧ RelV v.2 y) (hk : ∀ u o, s.heap.get? u = some o → h'.get? u = some o) (hS0 : s.heap.objs.size ≤ S) (hS : h'.get? S = some (lstO acc c))
    (hl : ts.length = ps.length) (g : TPs xs ys (S + 1) h' ts) (hacc : acc.toList = ts.map Value.ref) :
    ∃ H' : Hp, (∀ u o, H u = some o → H' u = some o) ∧ H S = none ∧ (∀ t ∈ ts, H t = none) ∧ S ∉ ts ∧ H' S = some (.lst (ts.map V.ref)) ∧ Paired (fun (t : Addr) (x : V × V) => H' t = some (.tup [x.1, x.2])) ts ps ∧ Inv X pins σ H' { s with heap := h', toks := tk } := by
  have nS : S ∉ ts := fun z => Nat.lt_irrefl _ (g.lo _ z)
  have nd : ts.Nodup := g.up.imp fun {a b} (h : a < b) => Nat.ne_of_lt h
  have fr : ∀ t ∈ ts, s.heap.objs.size ≤ t := fun t ht => Nat.le_trans hS0 (Nat.le_of_lt (g.lo t ht))
  have fresh : ∀ t ∈ ts, H t = none := fun t ht => I.hok.fresh (fr t ht)
  have freshS : H S = none := I.hok.fresh hS0
  have pr := putP_at ts ps (upd H S (.lst (ts.map V.ref))) hl nd
  have away : ∀ u, u ∉ ts → u ≠ S → putP (upd H S (.lst (ts.map V.ref))) ts ps u = H u := fun u h1 h2 => by rw [putP_off ts ps _ h1, upd_ne h2]
  have old : ∀ u o, s.heap.get? u = some o → u ∉ ts ∧ u ≠ S := fun u o e =>
    ⟨fun z => absurd (Heap.lt_size e) (Nat.not_lt.mpr (fr u z)), Nat.ne_of_lt (Nat.lt_of_lt_of_le (Heap.lt_size e) hS0)⟩
  have keep : ∀ u o, H u = some o → putP (upd H S (.lst (ts.map V.ref))) ts ps u = some o := fun u o e => by
    rw [away u (fun z => by rw [fresh u z] at e; cases e) (fun z => by rw [z, freshS] at e; cases e)]
    exact e
  have atS : putP (upd H S (.lst (ts.map V.ref))) ts ps S = some (.lst (ts.map V.ref)) := by rw [putP_off ts ps _ nS, upd_same]
  refine ⟨putP (upd H S (.lst (ts.map V.ref))) ts ps, keep, freshS, fresh, nS, atS, pr, ?_⟩
  have un : Un (frs X.stack) [] H (putP (upd H S (.lst (ts.map V.ref))) ts ps) s.heap h' := by
    refine ⟨fun u o e _ _ _ => hk u o e, fun u o e _ _ _ => ⟨o.slots, hk u o e⟩, fun u o e n _ => ?_, fun u o e _ => ⟨o, hk u o e⟩, fun u _ e => keep u _ e, fun u o v e => keep u _ e, fun u v e => ⟨#[], by rw [keep u _ e]; simp⟩⟩
    obtain ⟨z1, z2⟩ := old u o e
    rw [away u z1 z2]; exact n
  refine I.call' (ch := []) rfl un (fun u o e => ?_) I.bare fun u z => by simp at z
  by_cases hu : u ∈ ts
  · obtain ⟨j, v, e1, e2, e3⟩ := LiI.paired_ix pr hu
    rw [e3] at e
    cases e
    obtain ⟨x, y, f1, f2, f3⟩ := g.pr j u e1
    obtain ⟨v', g1, g2, g3⟩ := hv j x y f1 f2
    rw [e2] at g1
    cases g1
    exact ⟨by show 2 ≤ sizeLine; decide, [x, y], .cons g2 (.cons g3 .nil), ⟨_, f3, rfl, _, rfl⟩⟩
  · by_cases hu2 : u = S
    · subst hu2
      rw [atS] at e
      cases e
      refine ⟨by rw [List.length_map]; omega, acc.toList, c, by rw [hacc]; exact LiI.vals_refs ts, ?_⟩
      rw [Array.toArray_toList]
      exact hS
    · rw [away u hu hu2] at e
      exact (I.hok u o e).stay (fun d v _ y => hk d v y) (fun d y => keep d _ y) fun d v y => keep d _ y
theorem vals_back : ∀ {xs : List V} {us : List Value} {i : Nat} {u : Value}, Vals xs us → us[i]? = some u → ∃ x, xs[i]? = some x ∧ RelV x u
  | _, _, _, _, .nil, h => by simp at h
  | _, _, 0, _, .cons r _, h => by simp at h; subst h; exact ⟨_, rfl, r⟩
  | _, _, i + 1, _, .cons _ t, h => by
    obtain ⟨x, e1, e2⟩ := vals_back (i := i) t (by simpa using h)
    exact ⟨x, by simpa using e1, e2⟩
variable {e e2 : Expr} {ta : TA} {p p2 pos pos2 : Pos}
/-- list(zip(a, b)): a new list of new tuples -/
def tLZip (K : PySem.W.Frag) (ta : TA) : TE := fun σ H Q => ta σ H fun vs H1 => ∃ a b xs ys, vs = [.ref a, .ref b] ∧ SqL K H1 a xs ∧ SqL K H1 b ys ∧
  ∀ (H' : Hp) (S : Addr) (ts : List Addr), (∀ u o, H1 u = some o → H' u = some o) → H1 S = none → (∀ t ∈ ts, H1 t = none) → S ∉ ts → H' S = some (.lst (ts.map V.ref)) → Paired (fun (t : Addr) (x : V × V) => H' t = some (.tup [x.1, x.2])) ts (xs.zip ys) → Q (.ref S) H'
theorem pe_lzip (hc : X.calm = true) (hg : Gl X "list") (hm : X.mg "list" = none) (hbl : bootBuiltins "list" = some (.type "list")) (hg2 : Gl X "zip") (hm2 : X.mg "zip" = none) (ha : PA X [e, e2] ta)
    (hs2 : starEach [e, e2] X.env = (false, eval e X.env) :: starEach [e2] X.env := by rfl) (hpl2 : (backTo pos2 (starEach [e2] X.env)).any (·.1) = false := by rfl)
    (hs : starEach [.Call (.Name "zip" p2) [e, e2] [] pos2] X.env = (false, eval (.Call (.Name "zip" p2) [e, e2] [] pos2) X.env) :: starEach [] X.env := by rfl) :
    PE X (.Call (.Name "list" p) [.Call (.Name "zip" p2) [e, e2] [] pos2] [] pos) (tLZip X.K ta) := by
  refine ⟨fun pins s σ H Q I h => ?_⟩
  refine wpAny_Call_Name_kw (ld_blt I hg hm hbl ?_)
  refine PyProof.Rows.callWith_type1 ?_ hs rfl
  rw [hs]
  show wpAny _ _ (spliced ((false, eval (.Call (.Name "zip" p2) [e, e2] [] pos2) X.env) :: backTo pos (starEach [] X.env))) _ _ s
  refine Calls.spliced_cons ?_
  refine Call_ (ld_blt I hg2 hm2 PyProof.Rows.boot_zip (PyProof.Rows.callWith_type1 (thn (ha.run pos2 pins s σ H _ I h) fun us s1 ⟨vs, H1, I1, rr, q⟩ => ?_) hs2 hpl2))
  obtain ⟨a, b, xs, ys, ex, hqx, hqy, q⟩ := q
  subst ex
  cases rr with
  | cons r rr =>
  cases rr with
  | cons r' rr =>
  cases rr
  cases r
  cases r'
  obtain ⟨its, rv, pl1, hn1⟩ := I1.list hqx
  obtain ⟨its2, rv2, pl2, hn2⟩ := I1.list hqy
  have l1 := rv.length
  have l2 := rv2.length
  refine call_zip_2 pl1.isList pl2.isList fun h1 hz hTI hTO j1 j2 hsz k1 => ?_
  have I2 : Inv X pins σ H1 { s1 with heap := h1 } := I1.kept (t' := s1.toks) k1
  refine Calls.spliced_nil ?_
  have D := PySem.W.ktu_apart s1.heap.objs.size a b pl1.lt pl2.lt
  have r1 : h1.IsList a its.toArray := pl1.isList.at fun o e => k1 _ o e
  have r2 : h1.IsList b its2.toArray := pl2.isList.at fun o e => k1 _ o e
  refine list_zip (s := { s1 with heap := h1 }) (I2.ok.hd hc) D hz hTI ⟨_, _, hTO⟩ j1 j2 r1 r2 (by simp; omega) fun h' tk acc c ts kk hS htl g hacc => ?_
  have hS0 : s1.heap.objs.size ≤ h1.objs.size := by rw [hsz]; exact Nat.le_add_right _ _
  have hval : ∀ (j : Nat) (x y : Value), its.toArray[j]? = some x → its2.toArray[j]? = some y → ∃ v, (xs.zip ys)[j]? = some v ∧ RelV v.1 x ∧ RelV v.2 y := fun j x y hx hy => by
    obtain ⟨v, e1, e2⟩ := vals_back rv (by simpa using hx)
    obtain ⟨v', e3, e4⟩ := vals_back rv2 (by simpa using hy)
    exact ⟨(v, v'), by rw [List.getElem?_zip_eq_some]; exact ⟨e1, e3⟩, e2, e4⟩
  have far : ∀ u o, s1.heap.get? u = some o → ∀ k, u ≠ s1.heap.objs.size + k := fun u o e k => Nat.ne_of_lt (Nat.lt_of_lt_of_le (Heap.lt_size e) (Nat.le_add_right _ _))
  obtain ⟨H', m1, m2, m3, m4, m5, m6, J⟩ := zl_laid (ps := xs.zip ys) (tk := tk) I1 (by rw [List.length_zip]; omega) hval
    (fun u o e => kk u o (far u o e 4) (far u o e 3) (Nat.ne_of_lt (Heap.lt_size e)) (far u o e 1) (k1 u o e)) hS0 hS (by rw [htl, List.length_zip]; simp; omega) g hacc
  exact ⟨.ref _, H', J, rfl, q H' _ ts m1 m2 m3 m4 m5 m6⟩
end
end ZLs
namespace DL
open PySem PySem.Spec PyProof.Rows L2
section
variable {X : Cx} {k : Nat} {ea eb : Expr} {ma mb : M D} {p p2 pos pos2 : Pos}
/-- tuples that stand are settled one by one -/
theorem settle_pairs {c : Ct} {σ : L2.St} {H' : Hp} {e : DL.Env} : ∀ (ts : List Addr) (vs ws : List V) (xs ys : List D) (Hf0 : Hp), RepL c.K Hf0 vs xs → RepL c.K Hf0 ws ys → Rl c σ H' Hf0 e → Paired (fun (t : Addr) (q : V × V) => H' t = some (.tup [q.1, q.2])) ts (vs.zip ws) →
    ∃ Hf', Rl c σ H' Hf' e ∧ Same Hf0 Hf' ∧ (∀ a, a ∉ ts → Hf' a = Hf0 a) ∧ RepL c.K Hf' (ts.map V.ref) (zipD xs ys) := by
  intro ts
  induction ts with
  | nil =>
    intro vs ws xs ys Hf0 r1 r2 R0 hp
    refine ⟨Hf0, R0, Same.refl _, fun _ _ => rfl, ?_⟩
    cases r1 with
    | nil => exact .nil
    | cons a b =>
      cases r2 with
      | nil => exact .nil
      | cons c d => cases hp
  | cons t ts ih =>
    intro vs ws xs ys Hf0 r1 r2 R0 hp
    cases r1 with
    | nil => cases hp
    | cons a1 b1 =>
      cases r2 with
      | nil => cases hp
      | cons a2 b2 =>
        rw [List.zip_cons_cons] at hp
        cases hp with
        | cons hh ht =>
          obtain ⟨R1, S1⟩ := R0.settleT hh
          obtain ⟨Hf', R2, S2, n2, r3⟩ := ih _ _ _ _ _ (b1.mono S1) (b2.mono S1) R1 ht
          refine ⟨Hf', R2, S1.trans S2, fun a ha => ?_, ?_⟩
          · simp only [List.mem_cons, not_or] at ha
            rw [n2 a ha.2, upd_ne ha.1]
          · rw [List.map_cons]
            exact .cons (.tup (.of (S2 _ _ upd_same)) (.cons (a1.mono (S1.trans S2)) (.cons (a2.mono (S1.trans S2)) .nil))) r3
/-- list(zip(a, b)) -/
theorem dn_lzip (O : XO X k) (h : DA X [ea, eb] (mCons ma (mCons mb mNil))) (hm : X.mg "list" = none) (hm2 : X.mg "zip" = none) (hg : Gl X "list" := by rfl) (hg2 : Gl X "zip" := by rfl) (hbv : bootBuiltins "list" = some (.type "list") := by exact bb_list)
    (hs2 : starEach [ea, eb] X.env = (false, eval ea X.env) :: starEach [eb] X.env := by rfl) (hpl2 : (backTo pos2 (starEach [eb] X.env)).any (·.1) = false := by rfl)
    (hs : starEach [.Call (.Name "zip" p2) [ea, eb] [] pos2] X.env = (false, eval (.Call (.Name "zip" p2) [ea, eb] [] pos2) X.env) :: starEach [] X.env := by rfl) :
    DN X (.Call (.Name "list" p) [.Call (.Name "zip" p2) [ea, eb] [] pos2] [] pos) (mLZip ma mb) := by
  obtain ⟨t, pp, s⟩ := h
  refine ⟨_, ZLs.pe_lzip O.calm hg hm hbv hg2 hm2 pp hs2 hpl2 hs, fun c σ H Hf e zs e' Q hK R hm q => ?_⟩
  unfold mLZip at hm
  split at hm
  · rename_i xs e1 h1
    split at hm
    · rename_i ys e2 h2
      cases hm
      refine s c σ H Hf e [.lst xs, .lst ys] e' _ hK R (by simp only [mCons, h1, h2, mNil]) fun vs H1 Hf1 R1 S1 V1 => ?_
      cases V1 with
      | cons a1 V1 =>
      cases V1 with
      | cons a2 V1 =>
      cases V1
      cases a1 with
      | lst h1 r1 =>
      cases a2 with
      | lst h2 r2 =>
      refine ⟨_, _, _, _, rfl, hK ▸ R1.seqL h1, hK ▸ R1.seqL h2, fun H' l ts hsame hl hts hlt hL hpr => ?_⟩
      have R0 : Rl c σ H' Hf1 _ := R1.call hsame (Same.refl _) (R1.sf.trans hsame) fun a o z => .inl z
      obtain ⟨Hf', R2, S2, n2, r3⟩ := settle_pairs ts _ _ _ _ Hf1 r1 r2 R0 hpr
      refine q l _ H' Hf' R2 (S1.trans S2) ⟨hL, ?_, R1.h0 hl, fun j ys q1 q2 => R1.new_no hl j ys q1 q2⟩ r3
      rw [n2 l hlt]
      exact none_sub R1.sf hl
    · cases hm
  · cases hm
end
end DL

/-! set(xs) of a list of ints, its length, sorted. -/
namespace SeL
open PySem PySem.Spec PyProof.Rows L2
section
variable {P : Program} {w : World} {A : Around} {E : Value → Shared → Prop} {s : Shared}
theorem ints_pick {vs : List Value} {ns : List Int} (h : IntsAre vs ns) {i : Nat} {v : Value} (hv : vs[i]? = some v) : ∃ k t, ns[i]? = some k ∧ v = .int k t := by
  induction h generalizing i with
  | nil => simp at hv
  | cons n t r ih =>
    cases i with
    | zero => simp at hv; exact ⟨n, t, rfl, hv.symm⟩
    | succ i => exact ih (by simpa using hv)
abbrev seO (w : World) : Obj := { cls := .type "set", dict := none, data := .set #[] 0 (.fresh 0 0 (!w.params.followText "set-order")) }
theorem call_setL {l : Addr} {its : Array Value} (ns : List Int) {Q : Value → Shared → Prop} (h0 : A.handled = none) (hL : s.heap.IsList l its) (hI : IntsAre its.toList ns) (hb : ns.length + 1 < scanBound)
    (q : ∀ (h' : Heap) (tk c : Nat), SetR w h' s.heap.objs.size (fun j => decide (j ∈ ns)) c → (∀ u o, s.heap.get? u = some o → h'.get? u = some o) → Q (.ref s.heap.objs.size) { s with heap := h', toks := tk }) :
    wpAny (model P w) A (call (.type "set") [.ref l]) Q E s := by
  have hn : its.size = ns.length := by
    have e := IntsAre.length hI
    rwa [Array.length_toList] at e
  obtain ⟨m1, m2, hmr⟩ := F.called_set.mro
  have hma := F.called_set.made
  have hsu := F.called_set.sub
  refine wpAny_call (codeAny_of_tree (show wpAny _ _ (callAny (.type "set") _) _ _ _ from wpAny_pure ⟨Code.quiet_builtin _ (by decide +kernel), codeAny_builtin F.entry_type_call ?_⟩))
  rw [Around.under_plain (weight_type_call_type "set" [.ref l] []) rfl]
  have hnt := F.called_set.notType
  have hcc := F.called_set.canCreate
  have hty := F.typeCall_set_1 (.ref l)
  repeat (any_goals first | assumption | wp_step)
  refine codeAny_mono (code_set_led1 (.ref l) (E := E) (Q₁ := fun ob t => ob = .ref s.heap.objs.size ∧ t = { s with heap := s.heap.push (seO w) }) ⟨rfl, rfl⟩) fun r t hr => ?_
  cases r with
  | error e => exact hr
  | ok fl =>
    cases fl with
    | ret ob =>
      obtain ⟨rfl, rfl⟩ := hr
      have g0 : (s.heap.push (seO w)).get? s.heap.objs.size = some (seO w) := Heap.get?_push_size _ rfl
      have ty0 : Shared.TypeIs { s with heap := s.heap.push (seO w) } (.ref s.heap.objs.size) "set" := ⟨_, g0, rfl⟩
      have hlo := F.called_set.init.lookup
      have hbd := F.called_set.init.bind (.ref s.heap.objs.size)
      repeat (any_goals first | assumption | wp_step)
      refine codeAny_mono (codeAny_call_builtin (R := wants (fun r t => r = .none ∧ ∃ h' tk c, t = { s with heap := h', toks := tk } ∧ SetR w h' s.heap.objs.size (fun j => decide (j ∈ ns)) c ∧ (∀ u o, s.heap.get? u = some o → h'.get? u = some o)) E)
        F.called_set.init.plain F.entry_set_init (check_set_init_1 ty0 ?_)) fun r2 t2 hr2 => ?_
      · obtain ⟨o, ho, hc, n0, hd⟩ := hL
        obtain ⟨oc, od, odt, osl⟩ := o
        simp only at hc hd
        subst hc
        subst hd
        have ho2 : (s.heap.push (seO w)).get? l = some { cls := .type "list", dict := od, data := .seq its n0, slots := osl } := Heap.get?_push_of_some _ ho
        have k1 := F.sub_list_set
        have k2 := F.sub_list_frozenset
        have k3 : (Value.type "list" == Value.type "dict") = false := by decide
        have L1 : (s.heap.push (seO w)).IsList l its := ⟨_, ho2, rfl, n0, rfl⟩
        unfold Builtin.«set.__init__» noKeywords Builtin.Frozenset.updateFrom
        generalize hit : pyIter = IT
        wp_walk
        subst hit
        refine wpAny_pyIter_list L1 (wpAny_bind (wpAny_runValue ?_))
        have lt0 : l < s.heap.objs.size := Heap.lt_size ho
        have sz : (s.heap.push (seO w)).objs.size = s.heap.objs.size + 1 := Heap.size_push ..
        have n1 : l ≠ (s.heap.push (seO w)).objs.size := by rw [sz]; exact Nat.ne_of_lt (Nat.lt_succ_of_lt lt0)
        have n2 : s.heap.objs.size ∉ [(s.heap.push (seO w)).objs.size, l] := by
          rw [sz]
          simp only [List.mem_cons, List.not_mem_nil, or_false, not_or]
          exact ⟨Nat.ne_of_lt (Nat.lt_succ_self _), Nat.ne_of_gt lt0⟩
        refine set_update_ints ((Walks.list (show A.in1.in1.in1.handled = none by simp [h0]) _ l n1 its).toS) s.heap.objs.size n2 ns hn hb (fun i v hv => ints_pick hI (by rw [Array.getElem?_toList]; exact hv)) (its.size - 0) 0 _ (by omega) (Nat.zero_le _)
          ⟨⟨_, Heap.get?_push_size _ rfl, rfl, rfl⟩, L1.push _⟩ ⟨0, Nat.le_refl 0, setR_new_at (Heap.get?_push_of_some _ g0)⟩ fun t c mv _ hR => ?_
        obtain ⟨h', g', d', tk', os'⟩ := t
        have e1 : g' = s.gens := mv.gens
        have e2 : d' = s.drawn := mv.drawn
        have e3 : os' = s.os := mv.os
        subst e1
        subst e2
        subst e3
        show wpAny _ _ _ _ _ _
        refine wpAny_pure ?_
        show wpAny _ _ (ret Value.none) _ _ _
        refine wpAny_pure ⟨rfl, h', tk', c, rfl, hR, fun u o e => ?_⟩
        have lu : u < s.heap.objs.size := Heap.lt_size e
        refine mv.heap u o ?_ (Heap.get?_push_of_some _ (Heap.get?_push_of_some _ e))
        rw [sz]
        simp only [List.mem_cons, List.not_mem_nil, or_false, not_or]
        exact ⟨Nat.ne_of_lt lu, Nat.ne_of_lt (Nat.lt_succ_of_lt lu)⟩
      · cases r2 with
        | error e => exact hr2
        | ok fl2 =>
          cases fl2 with
          | ret r =>
            obtain ⟨rfl, h', tk, c, rfl, hR, hk⟩ := hr2
            repeat (any_goals first | assumption | wp_step)
            exact q _ _ _ hR hk
          | _ => exact hr2.elim
    | _ => exact hr.elim
end
end SeL
namespace SeL
open PySem PySem.Spec PyProof.Rows L2
theorem setR_len {w : World} {h : Heap} {a : Addr} {ns : List Int} {c : Nat} (R : SetR w h a (fun j => decide (j ∈ ns)) c) : c = (DL.dedupI ns).length := by
  obtain ⟨o, es, ep, t, ho, hx, hd, g, nd, hm, hb, hf, hn, _⟩ := R
  have e : (es.toList.map keyOf).Perm (DL.dedupI ns) := (List.perm_ext_iff_of_nodup nd (DL.dedup_nd ns)).mpr fun k => by
    rw [DL.dedup_mem, ← hm k]
    exact decide_eq_true_iff
  have := e.length_eq
  rw [List.length_map, Array.length_toList] at this
  omega
theorem dedup_le : ∀ ns : List Int, (DL.dedupI ns).length ≤ ns.length
  | [] => Nat.le_refl _
  | b :: ns => by
    have ih := dedup_le ns
    simp only [DL.dedupI]
    split
    · exact Nat.le_succ_of_le ih
    · exact Nat.succ_le_succ ih
section
variable {X : Cx} {a : Expr} {ta : TE} {p p2 q pos : Pos}
/-- set(x) of a list or a tuple of ints, under a call -/
theorem set_arg {pins : List (Addr × Obj)} {σ : L2.St} {H : Hp} {s : Shared} {A : Around} {v : V} {u : Value} {ns : List Int} {Q : Value → Shared → Prop} {E : Value → Shared → Prop} (I : Inv X pins σ H s) (hA : A.handled = none) (r : RelV v u) (hv : ∃ l, v = .ref l ∧ (SqL X.K H l (ns.map V.int) ∨ SqT X.K H l (ns.map V.int))) (hn : ns.length ≤ 4000)
    (k : ∀ h' tk, SetR X.w h' s.heap.objs.size (fun j => decide (j ∈ ns)) (DL.dedupI ns).length → Inv X pins σ H { s with heap := h', toks := tk } → Q (.ref s.heap.objs.size) { s with heap := h', toks := tk }) : wpAny (model X.prog X.w) A (call (.type "set") [u]) Q E s := by
  obtain ⟨l, rfl, hq⟩ := hv
  obtain rfl : u = .ref l := r
  rcases hq with hq | hq
  · obtain ⟨its, r2, pl, hz⟩ := I.list hq
    refine call_setL ns hA pl.isList (by simpa using RZ.intsAre_vals r2) (by unfold scanBound; omega) fun h' tk c R hk => ?_
    have e := setR_len R
    subst e
    exact k h' tk R (I.kept hk)
  · obtain ⟨its, r2, pl, hz⟩ := I.tuple hq
    refine call_set_tupI ns hA pl (by simpa using RZ.intsAre_vals r2) (by unfold scanBound; omega) fun h' tk c R _ hk => ?_
    have e := setR_len R
    subst e
    exact k h' tk R (I.kept hk)
def tLenSet (K : PySem.W.Frag) (ta : TE) : TE := fun σ H Q => ta σ H fun v H1 => ∃ ns : List Int, (∃ l, v = .ref l ∧ (SqL K H1 l (ns.map V.int) ∨ SqT K H1 l (ns.map V.int))) ∧ ns.length ≤ 4000 ∧ Q (.int ((DL.dedupI ns).length : Nat)) H1
theorem pe_lenSet (hg : Gl X "len") (hm : X.mg "len" = none) (hg2 : Gl X "set") (hm2 : X.mg "set" = none) (ha : PE X a ta) (hc : X.calm = true)
    (na : starEach [a] X.env = (false, eval a X.env) :: starEach [] X.env := by rfl) : PE X (.Call (.Name "len" p) [.Call (.Name "set" p2) [a] [] q] [] pos) (tLenSet X.K ta) := by
  refine ⟨fun pins s σ H Q I h => Call_ (ld_blt I hg hm boot_len (PyProof.Rows.callWith_builtin1 (PyProof.Rows.args_cons ?_ rfl) rfl rfl))⟩
  refine Call_ (ld_blt I hg2 hm2 boot_set (PyProof.Rows.callWith_type1 (PyProof.Rows.args_cons (thn (ha.run pins s σ H _ I h) fun v s1 ⟨x, H1, I1, r1, ns, hx, hl, k⟩ => PyProof.Rows.args_nil ?_) na) na rfl))
  refine set_arg I1 (I1.ok.hd hc) r1 hx hl fun h' tk R I2 => PyProof.Rows.args_nil ?_
  obtain ⟨o, es, ep, t, ho, hex, hd, _, _, _, _, hf, hn, _⟩ := R
  have hd2 := dedup_le ns
  exact call_len_set ho hex hd hf (by rw [hn]; omega) ⟨.int _, H1, I2.tok _, ⟨_, by rw [hn]⟩, k⟩
def tSortedSet (K : PySem.W.Frag) (ta : TE) : TE := fun σ H Q => ta σ H fun v H1 => ∃ ns : List Int, (∃ l, v = .ref l ∧ (SqL K H1 l (ns.map V.int) ∨ SqT K H1 l (ns.map V.int))) ∧ ns.length ≤ 4000 ∧ (DL.dedupI ns).length < 64 ∧
  ∀ p, H1 p = none → Q (.ref p) (upd H1 p (.lst ((DL.isort (DL.dedupI ns)).map V.int)))
theorem pe_sortedSet (hg : Gl X "sorted") (hm : X.mg "sorted" = none) (hbs : bootBuiltins "sorted" = some (.builtin "sorted")) (hg2 : Gl X "set") (hm2 : X.mg "set" = none) (ha : PE X a ta) (hc : X.calm = true)
    (na : starEach [a] X.env = (false, eval a X.env) :: starEach [] X.env := by rfl) : PE X (.Call (.Name "sorted" p) [.Call (.Name "set" p2) [a] [] q] [] pos) (tSortedSet X.K ta) := by
  refine ⟨fun pins s σ H Q I h => Call_ (ld_blt I hg hm hbs (PyProof.Rows.callWith_builtin1 (PyProof.Rows.args_cons ?_ rfl) rfl rfl))⟩
  refine Call_ (ld_blt I hg2 hm2 boot_set (PyProof.Rows.callWith_type1 (PyProof.Rows.args_cons (thn (ha.run pins s σ H _ I h) fun v s1 ⟨x, H1, I1, r1, ns, hx, hl, h64, k⟩ => PyProof.Rows.args_nil ?_) na) na rfl))
  refine set_arg I1 (I1.ok.hd hc) r1 hx hl fun h' tk R I2 => PyProof.Rows.args_nil ?_
  refine sorted_set R (I2.ok.hd hc) h64 fun t r out c js kk gg oo hp hat hi hs hme hle => ?_
  have hjs : js = DL.isort (DL.dedupI ns) := by
    refine DL.srt_uniq (hs.imp fun h => Int.le_of_lt h) (DL.isort_srt _) ?_
    have nd : js.Nodup := hs.imp fun h e => by omega
    refine List.Perm.trans ((List.perm_ext_iff_of_nodup nd (DL.dedup_nd ns)).mpr fun z => ?_) (DL.isort_perm _).symm
    rw [hme z, DL.dedup_mem]
    exact decide_eq_true_iff
  subst hjs
  have hlen : ((DL.isort (DL.dedupI ns)).map V.int).length ≤ sizeLine := by rw [List.length_map, hle, sizeLine_eq]; omega
  have hn : H1 r = none := I2.hok.fresh hp
  have J : Inv X pins σ (upd H1 r (.lst ((DL.isort (DL.dedupI ns)).map V.int))) { s1 with heap := t.heap, gens := t.gens, drawn := t.drawn, toks := t.toks } :=
    Inv.call (s := { s1 with heap := h', toks := tk }) I2 (ch := []) (g' := t.gens) (t' := t.toks) (d' := t.drawn) (Un.laid kk hp hn) (I2.hok.laid kk hp ⟨hlen, out.toList, c, vals_of_ints hi, hat⟩) (by rw [gg]; exact I2.bare) (fun _ z => nomatch z)
  have et : t = { s1 with heap := t.heap, gens := t.gens, drawn := t.drawn, toks := t.toks } := by
    cases t
    cases s1
    cases oo
    rfl
  rw [et]
  exact ⟨.ref r, _, J, rfl, k r hn⟩
end
end SeL
namespace DL
open PySem PySem.Spec PyProof.Rows L2
section
variable {X : Cx} {k : Nat} {a : Expr} {ma : M D} {p p2 q pos : Pos}
theorem ints_val {c : Ct} {σ : L2.St} {H Hf : Hp} {e : DL.Env} {v : V} {d : D} {xs : List D} {l : List Int} (R : Rl c σ H Hf e) (hv : Rep c.K Hf v d) (hd : d = .lst xs ∨ d = .tup xs) (hl : D.ints xs = some l) : ∃ b, v = .ref b ∧ (SqL c.K H b (l.map V.int) ∨ SqT c.K H b (l.map V.int)) := by
  rcases hd with rfl | rfl
  · cases hv with
    | lst h r => exact ⟨_, rfl, .inl (by rw [← r.ints hl]; exact R.seqL h)⟩
  · cases hv with
    | tup h r => exact ⟨_, rfl, .inr (by rw [← r.ints hl]; exact R.seqT h)⟩
/-- len(set(x)) -/
theorem de_lenSet (O : XO X k) (ha : DE X a ma) (hm : X.mg "len" = none) (hm2 : X.mg "set" = none) (hg : Gl X "len" := by rfl) (hg2 : Gl X "set" := by rfl) (na : starEach [a] X.env = (false, eval a X.env) :: starEach [] X.env := by rfl) :
    DE X (.Call (.Name "len" p) [.Call (.Name "set" p2) [a] [] q] [] pos) (mF fLenSet (mCons ma mNil)) := by
  obtain ⟨t, pp, s⟩ := ha
  refine ⟨_, SeL.pe_lenSet hg hm hg2 hm2 pp O.calm na, fun c σ H Hf e d e' Q hK R hh q => ?_⟩
  unfold mF mCons mNil at hh
  cases h1 : ma e with
  | none => rw [h1] at hh; cases hh
  | some z =>
    obtain ⟨x, e1⟩ := z
    rw [h1] at hh
    simp only at hh
    split at hh
    · cases hh
    rename_i d' h2
    cases hh
    refine s c σ H Hf e x _ _ hK R h1 fun v H1 Hf1 R1 S1 V1 => ?_
    unfold fLenSet at h2
    split at h2
    · rename_i xs hx
      simp only [List.cons.injEq, and_true] at hx
      split at h2
      · cases h2
      rename_i l hl
      split at h2
      · rename_i hz
        cases h2
        exact ⟨l, hK ▸ ints_val R1 V1 (.inl hx) hl, hz, q _ H1 Hf1 R1 S1 (.int _)⟩
      · cases h2
    · rename_i xs hx
      simp only [List.cons.injEq, and_true] at hx
      split at h2
      · cases h2
      rename_i l hl
      split at h2
      · rename_i hz
        cases h2
        exact ⟨l, hK ▸ ints_val R1 V1 (.inr hx) hl, hz, q _ H1 Hf1 R1 S1 (.int _)⟩
      · cases h2
    · cases h2
/-- sorted(set(x)) -/
theorem dn_sortedSet (O : XO X k) (ha : DE X a ma) (hm : X.mg "sorted" = none) (hm2 : X.mg "set" = none) (hg : Gl X "sorted" := by rfl) (hg2 : Gl X "set" := by rfl) (hbs : bootBuiltins "sorted" = some (.builtin "sorted") := by exact bb_sorted) (na : starEach [a] X.env = (false, eval a X.env) :: starEach [] X.env := by rfl) :
    DN X (.Call (.Name "sorted" p) [.Call (.Name "set" p2) [a] [] q] [] pos) (mFN fSortedSet (mCons ma mNil)) := by
  obtain ⟨t, pp, s⟩ := ha
  refine ⟨_, SeL.pe_sortedSet hg hm hbs hg2 hm2 pp O.calm na, fun c σ H Hf e d e' Q hK R hh q => ?_⟩
  unfold mFN mCons mNil at hh
  cases h1 : ma e with
  | none => rw [h1] at hh; cases hh
  | some z =>
    obtain ⟨x, e1⟩ := z
    rw [h1] at hh
    simp only at hh
    split at hh
    · cases hh
    rename_i d' h2
    cases hh
    refine s c σ H Hf e x _ _ hK R h1 fun v H1 Hf1 R1 S1 V1 => ?_
    unfold fSortedSet at h2
    split at h2
    · rename_i xs hx
      simp only [List.cons.injEq, and_true] at hx
      split at h2
      · cases h2
      rename_i l hl
      split at h2
      · rename_i hz
        cases h2
        refine ⟨l, hK ▸ ints_val R1 V1 (.inl hx) hl, hz.1, hz.2, fun b hb => ?_⟩
        exact q b _ _ Hf1 (R1.track hb) S1 (.of R1 hb) (RepL.of_ints _)
      · cases h2
    · cases h2
end
end DL

/-! a call that changes a list made for it alone. -/
namespace DL
open PySem PySem.Spec PyProof.Rows L2
section
variable {c : Ct} {σ : L2.St} {H Hf H' Hf' : Hp} {e : DL.Env} {p : Addr} {vs : List V}
theorem Rl.callT (r : Rl c σ H Hf e) (N : NewAt c σ H Hf e p vs) (h1 : ∀ b o, H b = some o → b ≠ p → H' b = some o) (h2 : Same Hf Hf') (h3 : Same Hf' H') (h4 : Nw Hf Hf' H) : Rl c σ H' Hf' e where
  ln := r.ln
  fr := fun b x q w => h1 b x (r.fr b x q w) fun z => by rw [z, N.z] at q; cases q
  fo := fun b x q w => by
    obtain ⟨o', z⟩ := r.fo b x q w
    exact ⟨o', h1 b o' z fun z2 => by rw [z2, N.z] at q; cases q⟩
  sf := h3
  s0 := r.s0.trans h2
  nw := fun a x q => by
    rcases h4 a x q with z | z | z
    · exact r.nw a x z
    · exact .inr (.inl (r.h0 z))
    · exact .inr (.inr z)
  sl := fun i s q => by
    have := r.sl i s q
    cases s with
    | un => trivial
    | im d => obtain ⟨v, f1, f2⟩ := this; exact ⟨v, f1, f2.mono h2⟩
    | ow xs =>
      obtain ⟨a, vs', e1, e2, e3, e4, e5⟩ := this
      have na : a ≠ p := fun z => by subst z; exact N.n i xs q e1
      refine ⟨a, vs', e1, ?_, e3, h1 a _ e4 na, e5.mono h2⟩
      cases k : Hf' a with
      | none => rfl
      | some o =>
        rcases h4 a o k with z | z | ⟨ys, rfl⟩
        · rw [e2] at z; cases z
        · rw [e4] at z; cases z
        · have := h3 a _ k; rw [h1 a _ e4 na] at this; cases this
    | od xs =>
      obtain ⟨a, vs', e1, e2, e3, e4, e5⟩ := this
      have na : a ≠ p := fun z => by subst z; rw [N.h] at e4; exact e5.nl (Option.some.inj e4).symm
      refine ⟨a, vs', e1, ?_, e3, h1 a _ e4 na, e5.mono h2⟩
      cases k : Hf' a with
      | none => rfl
      | some o =>
        rcases h4 a o k with z | z | ⟨ys, rfl⟩
        · rw [e2] at z; cases z
        · rw [e4] at z; cases z
        · have := h3 a _ k; rw [h1 a _ e4 na] at this; exact (e5.nt (Option.some.inj this)).elim
  ap := r.ap
  p0 := r.p0
  ad := r.ad
end
section
variable {X : Cx} {ea : Expr} {m0 : M (List D)} {p p2 pos : Pos} {x : Str} {k j kk : Nat} {n : Int}
theorem de_callT {f : List D → List D → Option (D × List D)} (O : XO X k) (G : Cal X.prog X.w X.K X.mg X.base j x (spI X.K f)) (hn : DN X ea m0) (hj : j ≤ k := by decide) (hg : Gl X x := by rfl) (hdb : (x == ("__debug__" : Str)) = false := by decide)
    (he : starEach [ea, .Constant (.int n) kk p2] X.env = (false, eval ea X.env) :: starEach [.Constant (.int n) kk p2] X.env := by rfl)
    (he2 : starEach [.Constant (.int n) kk p2] X.env = (false, eval (.Constant (.int n) kk p2) X.env) :: starEach [] X.env := by rfl) (hpl : (backTo pos (starEach [.Constant (.int n) kk p2] X.env)).any (·.1) = false := by rfl) :
    DE X (.Call (.Name x p) [ea, .Constant (.int n) kk p2] [] pos) (mFT f m0 n) := by
  obtain ⟨fa, fd, ps, h1, h2, h3, h4⟩ := G.mono hj
  obtain ⟨t, pp, s⟩ := hn
  refine ⟨_, pe_call h4 O.room hg h1 h2 h3 .nil pass0 (pa_cons pp (pa_cons pe_int pa_nil he2) he) hdb he hpl, fun c σ H Hf e d e' Q hK R hm q => ?_⟩
  unfold mFT at hm
  split at hm
  · cases hm
  rename_i xs e1 g1
  split at hm
  · cases hm
  rename_i d' ss' g3
  cases hm
  refine s c σ H Hf e _ _ _ hK R g1 fun a us H1 Hf1 R1 S1 N V1 => ?_
  exact ⟨a, [.int n], us, Hf1, xs, [.int n], _, ss', rfl, R1.sf, N.f, N.h, hK ▸ V1, .cons (.int n) .nil, g3, fun v' H' Hf' us' a1 a2 a3 a4 b1 b2 a5 => q v' H' Hf' (R1.callT N a1 a2 a3 a4) (S1.trans a2) (hK ▸ a5)⟩
end
end DL

/-! {t: v}, t a tuple. -/
namespace DisT
open PySem PySem.Spec PyProof.Rows L2
section
variable {X : Cx} {pos : Pos} {k v : Expr} {tk tv : TE}
def post (p : Addr) (Q : VK) : List (V × V) → Hp → Prop
  | [(x, y)], H2 => H2 p = some (.dT []) ∧ ∃ (ks : List Key) (b : Addr), x = .ref b ∧ H2 b = some (.tup (ks.map kV)) ∧ Q (.ref p) (upd H2 p (.dT [(ks, y)]))
  | _, _ => False
def tDispT1 (tk tv : TE) : TE := fun σ H Q => ∀ p, H p = none → tk σ (upd H p (.dT [])) fun x H1 => tv σ H1 fun y H2 => post p Q [(x, y)] H2
theorem pe_dispT1 (hu : X.A.units + 1 < cLine) (hk : PE X k tk) (hv : PE X v tv) : PE X (.Dict [some k] [v] pos) (tDispT1 tk tv) := by
  refine ⟨fun pins s σ H Q I h => ?_⟩
  have hn := I.hok.fresh (Nat.le_refl s.heap.objs.size)
  have I1 := I.laid (a := s.heap.objs.size) (o := .dT []) (h' := s.heap.push { cls := .type "dict", data := .dict #[] }) (t' := s.toks) (fun _ _ q => Heap.get?_push_of_some _ q) (Nat.le_refl _) (dt_empty s.heap I.big)
  refine wpAny_Dict_any rfl rfl (fun z => nomatch z) (by simp) (thn ((pps_cons hk hv pps_nil).run pins _ σ _ (post s.heap.objs.size Q) I1 (h _ hn)) fun ws s2 ⟨ps, H2, I2, rel, hp⟩ => ?_)
  unfold post at hp
  split at hp
  · rename_i x y
    obtain ⟨e, ks, b, ex, eb, q2⟩ := hp
    subst ex
    cases rel with
    | @cons p q ps qs r1 rel =>
    cases rel
    obtain ⟨u, w⟩ := q
    obtain ⟨ru, rw'⟩ := r1
    have ru : u = Value.ref b := ru
    subst ru
    obtain ⟨z, hd, xs, rl, dd⟩ := dt_of I2.hok e
    cases rl
    unfold storeAll
    rw [List.forIn_cons]
    refine wpAny_bind (wpAny_bind (wpAny_dictSet_heap (hsz := Nat.zero_le _) (show (tupleKind (mixKind X.prog X.w)).room X.A from Nat.lt_of_succ_lt hu) (key_of I2.hok eb) dd fun h' dd' hs => wpAny_pure ?_))
    show wpAny _ _ (forIn [] PUnit.unit _) _ _ _
    rw [List.forIn_nil]
    refine wpAny_pure ⟨.ref s.heap.objs.size, _, ?_, rfl, q2⟩
    obtain ⟨q, es, ep, hq, h2, h3, h4, h6, h5⟩ := dd'
    refine d_write I2 (by rw [e]; exact True.intro) hs ⟨q, hq⟩ ⟨(by simp [sizeLine_eq]), hd, [(ks, b, w)], .cons ⟨rfl, ?_, rw'⟩ .nil, q, es, ep, hq, h2, h3, h4, h5⟩
    rw [upd_ne (ne_of eb e (fun z => nomatch z))]
    exact eb
  · exact hp.elim
end
end DisT
namespace DL
open PySem PySem.Spec PyProof.Rows L2
section
variable {X : Cx} {k : Nat} {pos : Pos} {a b : Expr} {ma mb : M D}
theorem dq_dispT (O : XO X k) (ha : DE X a ma) (hb : DE X b mb) : DQ X (.Dict [some a] [b] pos) (mDispT ma mb) := by
  obtain ⟨ta, pa, sa⟩ := ha
  obtain ⟨tb, pb, sb⟩ := hb
  refine ⟨_, DisT.pe_dispT1 O.u1 pa pb, fun c σ H Hf e x e' Q hK R hm q => fun a ha => ?_⟩
  unfold mDispT at hm
  split at hm
  · rename_i ds e1 h1
    split at hm
    · cases hm
    rename_i y e2 h2
    split at hm
    · cases hm
    rename_i ks hks
    cases hm
    have R0 : Rl (c.blk σ (upd H a (.dT [])) Hf e) σ (upd H a (.dT [])) Hf e := (R.track ha).enter
    refine sa (c.blk σ (upd H a (.dT [])) Hf e) σ _ Hf e _ _ _ hK R0 h1 fun v H1 Hf1 R1 S1 V1 => ?_
    refine sb (c.blk σ (upd H a (.dT [])) Hf e) σ H1 Hf1 e1 _ _ _ hK R1 h2 fun w H2 Hf2 R2 S2 V2 => ?_
    have no : ¬ (c.blk σ (upd H a (.dT [])) Hf e).own a := fun h => h.elim (fun ⟨j, ys, q1, q2⟩ => R.new_no ha j ys q1 q2) fun ⟨j, y, q1, q2⟩ => R.new_noD ha j y q1 q2
    have ea : H2 a = some (.dT []) := R2.fr _ _ upd_same no
    have R3 := (R.track (o := .dT []) ha).leave R2
    have fa : Hf2 a = none := by
      cases z : Hf2 a with
      | none => rfl
      | some o =>
        rcases R2.nw _ _ z with y | y | ⟨ys, rfl⟩
        · rw [show (c.blk σ (upd H a (.dT [])) Hf e).Hf0 a = Hf a from rfl, none_sub R.sf ha] at y; cases y
        · rw [show (c.blk σ (upd H a (.dT [])) Hf e).H0 a = (upd H a (.dT [])) a from rfl, upd_same] at y; cases y
        · have y := R2.sf _ _ z; rw [ea] at y; cases y
    have nD : ∀ (j : Nat) (y : Od), e'[j]? = some (.od y) → σ[j]? = some (some (.ref a)) → False := fun j y q1 q2 => by
      obtain ⟨a', u', f1, _, f3, _, _⟩ := R2.odAt q1
      rw [q2] at f1
      cases f1
      rcases f3 with f3 | f3
      · exact no f3
      · rw [show (c.blk σ (upd H a (.dT [])) Hf e).H0 a = (upd H a (.dT [])) a from rfl, upd_same] at f3; cases f3
    cases V1 with
    | tup ht rt =>
      have V2 : Rep c.K Hf2 w y := V2
      have R4 := R3.bump (o := .dT [(ks, w)]) (R.h0 ha) fa (R3.dct_noL ea fun _ z => nomatch z) nD
      refine ⟨ea, ks, _, rfl, ?_, q a _ _ Hf2 R4 (S1.trans S2) ⟨upd_same, fa, R.h0 ha, nD⟩ ?_⟩
      · have e9 := kys_rep rt hks
        subst e9
        exact R2.sf _ _ (S2 _ _ ht.h)
      · exact .t (kvs := [(ks, y)]) (ws := [w]) rfl (.cons V2 .nil)
  · cases hm
end
end DL

/-! d.update(x), both with tuples for keys. -/
namespace DupT
open PySem PySem.Spec PyProof.Rows L2
section
variable {X : Cx} {apos cpos : Pos} {o e : Expr} {to te : TE}
def mergeT (kvs more : List (List Key × V)) : List (List Key × V) := more.foldl (fun acc p => putK acc p.1 p.2) kvs
theorem mergeT_len : ∀ (more kvs : List (List Key × V)), (mergeT kvs more).length ≤ kvs.length + more.length
  | [], kvs => by show kvs.length ≤ kvs.length + 0; omega
  | p :: r, kvs => by
    have h1 := mergeT_len r (putK kvs p.1 p.2)
    have h2 := length_putK kvs p.1 p.2
    show (mergeT (putK kvs p.1 p.2) r).length ≤ _
    rw [List.length_cons]; omega
theorem merge_kt {H : Hp} : ∀ {more : List (List Key × V)} {ys : List (List Key × Addr × Value)} {kvs : List (List Key × V)} {xs : List (List Key × Addr × Value)}, KT H more ys → KT H kvs xs → KT H (mergeT kvs more) (storedAllH xs ys) := by
  intro more ys kvs xs r
  unfold KT at r
  induction r generalizing kvs xs with
  | nil => intro q; exact q
  | @cons p q ps qs h t ih =>
    intro r0
    obtain ⟨h1, h2, h3⟩ := h
    have e : KT H (putK kvs p.1 p.2) (storedH xs q.1 q.2.1 q.2.2) := by
      have := KT.put r0 p.1 h2 h3
      rw [← h1]; exact this
    exact ih e
theorem call_upd {pins : List (Addr × Obj)} {σ : L2.St} {H : Hp} {s : Shared} {A : Around} {E : Value → Shared → Prop} {a b : Addr} {ob : Obj} {kvs more : List (List Key × V)} {Q : Value → Shared → Prop} (hu : A.units + 1 < cLine) (I : Inv X pins σ H s)
    (ha : H a = some (.dT kvs)) (hb : H b = some (.frz ob (.dT more))) (hap : kvs ≠ [] ∨ more.length ≤ 1) (hsz : kvs.length + more.length ≤ sizeLine) (h : ∀ s', Inv X pins σ (upd H a (.dT (mergeT kvs more))) s' → Q .none s') :
    wpAny (model X.prog X.w) A (call (.builtin "dict.update") [.ref a, .ref b]) Q E s := by
  obtain ⟨z, hd, xs, rel, dd⟩ := dt_of I.hok ha
  obtain ⟨z2, hd2, ys, rel2, dd2⟩ := dt_rd I.hok (.inr ⟨ob, hb⟩)
  have l1 := Paired.length rel
  have l2 := Paired.length rel2
  have nab : a ≠ b := fun e => by
    subst e
    rw [ha] at hb
    cases hb
  refine call_update_dictH (knd := tupleKind (mixKind X.prog X.w)) (tupleKind_room_in1 hu) nab hd2 dd dd2 ?_ (by rw [← l1, ← l2]; exact hsz) fun h' dd' _ hs => h _ ?_
  · rcases hap with hap | hap
    · left
      intro e
      subst e
      exact hap (List.length_eq_zero_iff.mp l1)
    · right
      refine ⟨fun x hx => ?_, ?_⟩
      · obtain ⟨_, _, _, _, _, _, _, his, _⟩ := dd2
        obtain ⟨o1, its, n, h1, h2, _⟩ := his x hx
        exact ⟨o1, h1, h2⟩
      · cases ys with
        | nil => exact List.nodup_nil
        | cons y r =>
          cases r with
          | nil => simp
          | cons y2 r =>
            rw [l2] at hap
            simp only [List.length_cons] at hap
            omega
  · obtain ⟨q, es, ep, hq, h2, h3, h4, _, h5⟩ := dd'
    have hl := mergeT_len more kvs
    refine d_write I (by rw [ha]; exact True.intro) hs ⟨q, hq⟩ ⟨by omega, hd, _, (merge_kt rel2 rel).keeps fun c zs ec => ?_, q, es, ep, hq, h2, h3, h4, h5⟩
    rw [upd_ne (ne_of ec ha (fun z => nomatch z))]
    exact ec
def tDUpd (to te : TE) : TE := fun σ H Q => to σ H fun x H1 => ∃ a, x = .ref a ∧ IsD H1 a ∧ te σ H1 fun y H2 => ∃ (b : Addr) (ob : Obj) (kvs more : List (List Key × V)), y = .ref b ∧ H2 a = some (.dT kvs) ∧ H2 b = some (.frz ob (.dT more)) ∧ (kvs ≠ [] ∨ more.length ≤ 1) ∧
  kvs.length + more.length ≤ sizeLine ∧ Q .non (upd H2 a (.dT (mergeT kvs more)))
theorem pe_dupd (hu : X.A.units + 1 < cLine) (ho : PE X o to) (he : PE X e te) (m : M1 X o "update" apos e cpos) : PE X (.Call (.Attribute o "update" apos) [e] [] cpos) (tDUpd to te) := by
  refine ⟨fun pins s σ H Q I h => ?_⟩
  refine wpAny_Call_method m.base m.few m.line PySem.F.plainAttrs_dict PySem.F.slot_dict_update PySem.F.type_dict_update (thn (ho.run pins s σ H _ I h) fun u s1 ⟨x, H1, I1, rx, a, ex, d, q1⟩ => ?_)
  subst ex
  obtain rfl : u = Value.ref a := rx
  obtain ⟨t1, t2, _⟩ := isD_at I1 d
  refine ⟨t1, t2, ?_⟩
  rw [m.trees]
  refine Calls.callWith_builtin rfl (Calls.evalArgs_plain (Calls.spliced_cons (thn (he.run pins s1 σ H1 _ I1 q1) fun iv s2 ⟨y, H2, I2, ry, b, ob, kvs, more, ey, h1, h2, h3, h4, q2⟩ => Calls.spliced_nil ?_)))
  subst ey
  obtain rfl : iv = Value.ref b := ry
  exact call_upd hu I2 h1 h2 h3 h4 fun s3 I3 => ⟨.non, _, I3, rfl, q2⟩
end
end DupT
namespace DL
open PySem PySem.Spec PyProof.Rows L2
theorem merge_repT {K : PySem.W.Frag} {Hf : Hp} : ∀ {more : List (List Ky × D)} {ws : List V} {acc : List (List Ky × D)} {us : List V}, RepL K Hf ws (more.map (·.2)) → RepL K Hf us (acc.map (·.2)) →
    ∃ ws', DupT.mergeT ((acc.map (·.1)).zip us) ((more.map (·.1)).zip ws) = ((amergeT acc more).map (·.1)).zip ws' ∧ RepL K Hf ws' ((amergeT acc more).map (·.2))
  | [], ws, acc, us, r, ra => by
    cases r
    exact ⟨us, rfl, ra⟩
  | p :: more, ws, acc, us, r, ra => by
    rw [List.map_cons] at r
    cases r with
    | cons h t =>
      obtain ⟨us', e1, r1⟩ := put_rep p.1 h ra
      obtain ⟨ws', e2, r2⟩ := merge_repT t r1
      refine ⟨ws', ?_, r2⟩
      rw [List.map_cons, List.zip_cons_cons]
      show DupT.mergeT (putK _ p.1 _) _ = _
      rw [e1]
      exact e2
section
variable {X : Cx} {k : Nat} {a : Expr} {ma : M D} {apos cpos pos py : Pos} {y : Str}
theorem ds_odUpd {bb : Bool} (O : XO X k) (i : Nat) (ha : DE X a ma) (hN : X.N[i]? = some y := by rfl) (hv : Vis X.env.scope y := by first | exact Or.inl rfl | exact Or.inr (Or.inl rfl) | exact Or.inr (Or.inr rfl)) (hd : (y == ("__debug__" : Str)) = false := by decide) (hcd : (y == ("__classdict__" : Str)) = false := by decide)
    (m : M1 X (.Name y py) "update" apos a cpos := by exact ⟨rfl, rfl, rfl, rfl⟩) (hs : swapsWith (.Call (.Attribute (.Name y py) "update" apos) [a] [] cpos) none pos.line X.env = pure false := by rfl) : DSt bb X (.Expr (.Call (.Attribute (.Name y py) "update" apos) [a] [] cpos) pos) (sODUpd i ma) := by
  obtain ⟨ta, pa, sa⟩ := ha
  refine ⟨_, ps_expr (DupT.pe_dupd O.u1 (pe_var hN hv hd hcd) pa m) hs, fun c σ H Hf e f e' Dn F R hm q => ?_⟩
  unfold sODUpd at hm
  split at hm
  · rename_i kvs0 g0
    split at hm
    · cases hm
    rename_i d e1 h1
    split at hm
    · rename_i kvs more g1 g2
      split at hm
      · rename_i hc
        cases hm
        rw [Bool.and_eq_true, Bool.or_eq_true, decide_eq_true_eq, decide_eq_true_eq] at hc
        obtain ⟨p, u0, hv, _, _, z0, z1⟩ := R.odAt g0
        refine ⟨_, hv, p, rfl, isD_od z1 (.inl z0), sa c σ H Hf e _ _ _ F.k R h1 fun v H1 Hf1 R1 S1 V1 => ?_⟩
        obtain ⟨p', u, k1, _, _, k4, k5⟩ := R1.odAt g1
        rw [hv] at k1
        cases k1
        obtain ⟨b, ob, u2, rfl, j1, j2, _⟩ := rep_od V1 g2
        cases k5 with
        | @t ks ws _ e5 r5 =>
        cases j2 with
        | @t ks2 ws2 _ e6 r6 =>
        subst e5 e6
        obtain ⟨ws', e7, r7⟩ := merge_repT r6 r5
        refine ⟨b, ob, _, _, rfl, k4, R1.sf _ _ j1, ?_, ?_, ?_⟩
        · rcases hc.1 with h | h
          · left
            intro z
            have zl := congrArg List.length z
            rw [List.length_zip, r5.length, List.length_map, List.length_map, Nat.min_self] at zl
            cases kvs with
            | nil => simp at h
            | cons _ _ => simp at zl
          · right
            rw [List.length_zip, r6.length, List.length_map, List.length_map, Nat.min_self]
            exact h
        · rw [List.length_zip, r5.length, List.length_map, List.length_map, Nat.min_self, List.length_zip, r6.length, List.length_map, List.length_map, Nat.min_self]
          exact hc.2
        · rw [e7]
          exact q σ _ Hf1 (R1.putD g1 hv (.t rfl r7)) S1
      · cases hm
    · cases hm
  · cases hm
end
end DL

/-! x == {}, x != {}, x a dict with tuples for keys. -/
namespace EmT
open PySem PySem.Spec PyProof.Rows L2
section
variable {prog : Program} {w : World} {A : Around} {E : Value → Shared → Prop} {s : Shared}
theorem same_empty {nm : String} {a b : Addr} {oa ob : Obj} {es es' : Array DictEntry} {ep ep' : Nat} {Q : Bool → Shared → Prop} (ha : (a == sysModules) = false) (hb : (b == sysModules) = false)
    (hoa : s.heap.get? a = some oa) (hda : oa.data = .dict es ep) (hob : s.heap.get? b = some ob) (hdb : ob.data = .dict es' ep') (h0 : es'.size = 0) (h : Q (es.size == 0) s) :
    wpAny (model prog w) A (Builtin.Dict.samePairs nm a b) Q E s := by
  unfold Builtin.Dict.samePairs Builtin.Dict.showsAll
  rw [if_neg (show ¬ (a == sysModules) = true by rw [ha]; exact Bool.false_ne_true), if_neg (show ¬ (b == sysModules) = true by rw [hb]; exact Bool.false_ne_true)]
  refine wpAny_bind (wpAny_pure (wpAny_bind (wpAny_pure ?_)))
  refine wpAny_bind (wpAny_dictEntries hoa hda ?_)
  dsimp only
  refine wpAny_bind (wpAny_dictEntries hob hdb ?_)
  by_cases hsz : es.size = es'.size
  case neg =>
    rw [if_pos (by simpa using hsz)]
    have hbf : (es.size == 0) = false := by rw [h0] at hsz; simpa using hsz
    rw [hbf] at h
    exact wpAny_bind (wpAny_rule (wpAny_pure h))
  case pos =>
    have h00 : es.size = 0 := by omega
    rw [if_neg (by rw [hsz]; simp)]
    refine wpAny_bind (wpAny_dictEpoch hoa hda ?_)
    refine wpAny_bind ?_
    rw [Std.Legacy.Range.forIn_eq_forIn_range']
    simp only [Std.Legacy.Range.size, Nat.sub_zero, Nat.add_sub_cancel, Nat.div_one]
    rw [h00]
    show wpAny _ _ (forIn [] _ _) _ _ _
    rw [List.forIn_nil]
    refine wpAny_pure ?_
    rw [h00] at h
    exact wpAny_pure h
end
def rEmpT (ne : Bool) : R2 := fun x y H Q => ∃ a b kvs, x = .ref a ∧ y = .ref b ∧ Rd H a (.dT kvs) ∧ Rd H b (.dT []) ∧ Q (.bl (ne != kvs.isEmpty)) H
section
variable {X : Cx}
theorem size_emp {P : Program} {w : World} {kvs : List (List Key × V)} {xs : List (List Key × Addr × Value)} {es : Array DictEntry} (l : kvs.length = xs.length) (h : es.toList = xs.map (entryOfKey (tupleKind (mixKind P w)))) : (es.size == 0) = kvs.isEmpty := by
  have h1 := congrArg List.length h
  rw [List.length_map, ← l, Array.length_toList] at h1
  cases kvs with
  | nil => rw [h1]; rfl
  | cons _ _ => rw [h1]; rfl
theorem op_empT (hu : X.A.units < cLine) : OpR X (compareOp .Eq) (rEmpT false) := by
  intro pins s σ H x y v u Q I rx ry h
  obtain ⟨a, b, kvs, rfl, rfl, ea, eb, q⟩ := h
  obtain rfl : v = Value.ref a := rx
  obtain rfl : u = Value.ref b := ry
  obtain ⟨_, ya, va, ra, da⟩ := dt_rd I.hok ea
  obtain ⟨_, yb, vb, rb, db⟩ := dt_rd I.hok eb
  have la := Paired.length ra
  have ta := da.typeIs
  have tb := db.typeIs
  obtain ⟨oa, es, ep, hoa, _, hda, hea, _⟩ := da
  obtain ⟨ob, es', ep', hob, _, hdb, heb, _⟩ := db
  have h0 : es'.size = 0 := by
    cases rb
    have := congrArg List.length heb
    rw [Array.length_toList] at this
    simpa using this
  refine wpAny_richCompare_same_room (op := .Eq) ta tb PySem.F.slot_dict_eq (wpAny_call_entry PySem.F.slot_dict_eq ta PySem.F.entry_dict_eq ?_ (PySem.F.args_dict_eq_2 _ _)) hu
  show wpAny _ _ (Builtin.Dict.dictSlotArgs "__eq__" ⟨[.ref a, .ref b], []⟩ >>= _) _ _ s
  refine wpAny_bind ?_
  unfold Builtin.Dict.dictSlotArgs
  refine wpAny_bind (wpAny_notOrdered_dict ta ?_)
  show wpAny _ _ (pure (Value.ref a, Value.ref b)) _ _ s
  refine wpAny_pure ?_
  refine wpAny_bind (wpAny_isInstance (T := "dict") tb PySem.F.sub_dict_dict ?_)
  simp only [Bool.not_true, Bool.false_eq_true, if_false]
  refine wpAny_bind (wpAny_pure (wpAny_bind (wpAny_pure ?_)))
  refine wpAny_bind (same_empty ya yb hoa hda hob hdb h0 ?_)
  rw [size_emp la hea]
  refine wpAny_pure ⟨_, rfl, ?_, ?_⟩
  · exact fun x => nomatch x
  · exact ⟨.bl (false != kvs.isEmpty), H, I, by cases kvs <;> rfl, q⟩
theorem op_empTN (hu : X.A.units < cLine) : OpR X (compareOp .NotEq) (rEmpT true) := by
  intro pins s σ H x y v u Q I rx ry h
  obtain ⟨a, b, kvs, rfl, rfl, ea, eb, q⟩ := h
  obtain rfl : v = Value.ref a := rx
  obtain rfl : u = Value.ref b := ry
  obtain ⟨_, ya, va, ra, da⟩ := dt_rd I.hok ea
  obtain ⟨_, yb, vb, rb, db⟩ := dt_rd I.hok eb
  have la := Paired.length ra
  have ta := da.typeIs
  have tb := db.typeIs
  obtain ⟨oa, es, ep, hoa, _, hda, hea, _⟩ := da
  obtain ⟨ob, es', ep', hob, _, hdb, heb, _⟩ := db
  have h0 : es'.size = 0 := by
    cases rb
    have := congrArg List.length heb
    rw [Array.length_toList] at this
    simpa using this
  refine wpAny_richCompare_same_room (op := .NotEq) ta tb PySem.F.slot_dict_ne (wpAny_call_entry PySem.F.slot_dict_ne ta PySem.F.entry_dict_ne ?_ (PySem.F.args_dict_ne_2 _ _)) hu
  show wpAny _ _ (Builtin.Dict.dictSlotArgs "__ne__" ⟨[.ref a, .ref b], []⟩ >>= _) _ _ s
  refine wpAny_bind ?_
  unfold Builtin.Dict.dictSlotArgs
  refine wpAny_bind (wpAny_notOrdered_dict ta ?_)
  show wpAny _ _ (pure (Value.ref a, Value.ref b)) _ _ s
  refine wpAny_pure ?_
  refine wpAny_bind (wpAny_isInstance (T := "dict") tb PySem.F.sub_dict_dict ?_)
  simp only [Bool.not_true, Bool.false_eq_true, if_false]
  refine wpAny_bind (wpAny_pure (wpAny_bind (wpAny_pure ?_)))
  refine wpAny_bind (same_empty ya yb hoa hda hob hdb h0 ?_)
  rw [size_emp la hea]
  refine wpAny_pure ⟨_, rfl, ?_, ?_⟩
  · exact fun x => nomatch x
  · exact ⟨.bl (true != kvs.isEmpty), H, I, by cases kvs <;> rfl, q⟩
end
end EmT
namespace DL
open PySem PySem.Spec PyProof.Rows L2
theorem zip_empT {κ ν : Type} {ks : List κ} {xs : List ν} (h : ks.length = xs.length) : (ks.zip xs).isEmpty = ks.isEmpty := by
  cases ks with
  | nil => rfl
  | cons k ks => cases xs with
    | nil => cases h
    | cons x xs => rfl
section
variable {X : Cx} {k : Nat} {a : Expr} {ma : M D} {pos : Pos}
theorem de_empTEq {p2 : Pos} (O : XO X k) (ha : DE X a ma) (hmk : behindInMarks .Eq (.Dict [] [] p2) = false := by first | exact nomark _ | rfl) : DE X (.Compare a [.Eq] [.Dict [] [] p2] pos) (mEmpT false ma) := by
  obtain ⟨ta, pa, sa⟩ := ha
  refine ⟨_, pe_cmpR (EmT.op_empT (by have := O.u1; omega)) pa pe_dnewT hmk, fun c σ H Hf e d e' Q hK R hm q => ?_⟩
  unfold mEmpT at hm
  split at hm
  · rename_i ks vs e1 h1
    cases hm
    refine sa c σ H Hf e _ _ _ hK R h1 fun v H1 Hf1 R1 S1 V1 => fun p hp => ?_
    cases V1 with
    | dT g1 g2 g3 =>
      refine ⟨_, p, _, rfl, rfl, .inr ⟨_, same_new hp _ _ (R1.sf _ _ g1)⟩, .of upd_same, ?_⟩
      rw [zip_empT g2]
      exact q _ _ Hf1 (R1.track hp) S1 (.bl _)
  · cases hm
theorem dt_empTEq {p2 : Pos} (O : XO X k) (ha : DE X a ma) (hmk : behindInMarks .Eq (.Dict [] [] p2) = false := by first | exact nomark _ | rfl) : DT X (.Compare a [.Eq] [.Dict [] [] p2] pos) (tVal (mEmpT false ma)) := by
  obtain ⟨ta, pa, sa⟩ := ha
  refine ⟨_, pt_cmpR (EmT.op_empT (by have := O.u1; omega)) pa pe_dnewT hmk, fun c σ H Hf e d e' Q hK R hm q => ?_⟩
  unfold tVal at hm
  split at hm
  rotate_left
  · cases hm
  rename_i kb ek hm2
  cases hm
  unfold mEmpT at hm2
  split at hm2
  · rename_i ks vs e1 h1
    cases hm2
    refine sa c σ H Hf e _ _ _ hK R h1 fun v H1 Hf1 R1 S1 V1 => fun p hp => ?_
    cases V1 with
    | dT g1 g2 g3 =>
      refine ⟨_, p, _, rfl, rfl, .inr ⟨_, same_new hp _ _ (R1.sf _ _ g1)⟩, .of upd_same, _, rfl, ?_⟩
      rw [zip_empT g2]
      exact q _ Hf1 (R1.track hp) S1
  · cases hm2
theorem de_empTNe {p2 : Pos} (O : XO X k) (ha : DE X a ma) (hmk : behindInMarks .NotEq (.Dict [] [] p2) = false := by first | exact nomark _ | rfl) : DE X (.Compare a [.NotEq] [.Dict [] [] p2] pos) (mEmpT true ma) := by
  obtain ⟨ta, pa, sa⟩ := ha
  refine ⟨_, pe_cmpR (EmT.op_empTN (by have := O.u1; omega)) pa pe_dnewT hmk, fun c σ H Hf e d e' Q hK R hm q => ?_⟩
  unfold mEmpT at hm
  split at hm
  · rename_i ks vs e1 h1
    cases hm
    refine sa c σ H Hf e _ _ _ hK R h1 fun v H1 Hf1 R1 S1 V1 => fun p hp => ?_
    cases V1 with
    | dT g1 g2 g3 =>
      refine ⟨_, p, _, rfl, rfl, .inr ⟨_, same_new hp _ _ (R1.sf _ _ g1)⟩, .of upd_same, ?_⟩
      rw [zip_empT g2]
      exact q _ _ Hf1 (R1.track hp) S1 (.bl _)
  · cases hm
theorem dt_empTNe {p2 : Pos} (O : XO X k) (ha : DE X a ma) (hmk : behindInMarks .NotEq (.Dict [] [] p2) = false := by first | exact nomark _ | rfl) : DT X (.Compare a [.NotEq] [.Dict [] [] p2] pos) (tVal (mEmpT true ma)) := by
  obtain ⟨ta, pa, sa⟩ := ha
  refine ⟨_, pt_cmpR (EmT.op_empTN (by have := O.u1; omega)) pa pe_dnewT hmk, fun c σ H Hf e d e' Q hK R hm q => ?_⟩
  unfold tVal at hm
  split at hm
  rotate_left
  · cases hm
  rename_i kb ek hm2
  cases hm
  unfold mEmpT at hm2
  split at hm2
  · rename_i ks vs e1 h1
    cases hm2
    refine sa c σ H Hf e _ _ _ hK R h1 fun v H1 Hf1 R1 S1 V1 => fun p hp => ?_
    cases V1 with
    | dT g1 g2 g3 =>
      refine ⟨_, p, _, rfl, rfl, .inr ⟨_, same_new hp _ _ (R1.sf _ _ g1)⟩, .of upd_same, _, rfl, ?_⟩
      rw [zip_empT g2]
      exact q _ Hf1 (R1.track hp) S1
  · cases hm2
end
end DL

/-! tuple * 1: the tuple itself. -/
namespace MuT
open PySem PySem.Spec PyProof.Rows L2
open AutoSeq1 (wpAny_loadPart')
theorem tuple_mul1 (l : Addr) (items : Array Value) (n : Nat) (dd : Option Addr) (sl : Array (Option Value)) (u : Tok) :
    Meets (Builtin.«tuple.__mul__» ⟨[.ref l, .int 1 u], []⟩) (fun _ R s => s.heap.get? l = some { cls := .type "tuple", dict := dd, data := .seq items n, slots := sl } ∧
      R (.ok (.ret (Value.ref l))) { s with toks := s.toks }) :=
  .of_wp fun prog w A R s h => by
    obtain ⟨hp, g, d, tk, os⟩ := s
    obtain ⟨hl, h⟩ := h
    have f1 := AutoSeq1.idx_int
    wp_walk using wpAny_loadPart' hl
    exact ⟨_, rfl, h⟩
def rRep1 (K : PySem.W.Frag) : R2 := fun x y H Q => ∃ l xs, x = .ref l ∧ y = .int 1 ∧ SqT K H l xs ∧ Q (.ref l) H
section
variable {X : Cx}
theorem op_rep1 : OpR X (binaryOp .Mult) (rRep1 X.K) := by
  intro pins s σ H x y v u Q I rx ry h
  obtain ⟨l, xs, rfl, rfl, hT, q⟩ := h
  cases rx
  obtain ⟨t, rfl⟩ := ry
  obtain ⟨its, r, ⟨⟨cls, dd, data, sl⟩, ho, hc, n, hd⟩, hs⟩ := I.tuple hT
  simp only at hc hd
  subst hc hd
  refine wpAny_binaryOp_repeat_ref (T := "tuple") (U := "int") (by decide) ⟨_, ho, rfl⟩ (fun s' => typeIs_int s' 1 t) noFill_tuple_mul F.fills_int_mul F.slot_int_rmul repeat_tuple F.slot_int_index.lookup
    (call_meets F.slot_int_rmul (typeIs_int s 1 t) F.entry_int_rmul (F.args_int_rmul_2 _ _) (int_rmul_tuple 1 t l its.toArray n dd sl)
      ⟨ho, rfl, ⟨_, ho, rfl⟩, call_meets F.slot_tuple_mul ⟨_, ho, rfl⟩ F.entry_tuple_mul (F.args_tuple_mul_2 _ _) (tuple_mul1 l its.toArray n dd sl t) ⟨ho, ?_⟩⟩)
  exact ⟨.ref l, H, I, rfl, q⟩
end
end MuT
namespace DL
open PySem PySem.Spec PyProof.Rows L2
variable {X : Cx}
theorem os_mulT : OpS X (binaryOp .Mult) oMulT := by
  refine ⟨_, MuT.op_rep1.or op_repT, fun c σ H Hf e x y z v w Q hK R hv hw ho q => ?_⟩
  unfold oMulT at ho
  split at ho
  · split at ho
    · rename_i xs k hc
      cases ho
      cases hw
      cases hv with
      | tup ha ra =>
        obtain ⟨h1, h2⟩ := Bool.and_eq_true_iff.mp hc
        obtain ⟨h3, h4, h5⟩ := of_decide_eq_true h2
        by_cases h : k = 1
        · subst h
          refine .inl ⟨_, _, rfl, rfl, hK ▸ R.seqT ha, q _ _ _ R (Same.refl _) ?_⟩
          rw [show (List.replicate (1 : Int).toNat xs).flatten = xs by simp]
          exact .tup ha ra
        · refine .inr ⟨_, _, _, rfl, rfl, hK ▸ R.seqT ha, fun e => ?_, by omega, h4, by rw [ra.length]; exact h5, fun p hp => R.newT hp (ra.rep _) q⟩
          subst e
          cases ra
          cases h1
    · cases ho
  · cases ho
end DL

/-! list(d), d with tuples for keys. -/
namespace LkT
open PySem PySem.Spec PyProof.Rows L2
section
variable {X : Cx} {a : Expr} {ta : TE} {p pos : Pos}
def tLKeys (ta : TE) : TE := fun σ H Q => ta σ H fun x H1 => ∃ (d : Addr) (kvs : List (List Key × V)), x = .ref d ∧ Rd H1 d (.dT kvs) ∧
  ∀ (q : Addr) (bs : List Addr), H1 q = none → Paired (fun (b : Addr) (kv : List Key × V) => H1 b = some (.tup (kv.1.map kV))) bs kvs → Q (.ref q) (upd H1 q (.lst (bs.map V.ref)))
theorem vals_refs : ∀ bs : List Addr, Vals (bs.map V.ref) (bs.map Value.ref)
  | [] => .nil
  | _ :: bs => .cons rfl (vals_refs bs)
theorem paired_keys {H : Hp} {kvs : List (List Key × V)} {xs : List (List Key × Addr × Value)} (rel : KT H kvs xs) : Paired (fun (b : Addr) (kv : List Key × V) => H b = some (.tup (kv.1.map kV))) (xs.map fun x => x.2.1) kvs := by
  unfold KT at rel
  induction rel with
  | nil => exact .nil
  | cons h t ih => exact .cons h.2.1 ih
theorem pe_lkeys (hg : Gl X "list") (hm : X.mg "list" = none) (hbv : bootBuiltins "list" = some (.type "list")) (ha : PE X a ta) (hc : X.calm = true)
    (na : starEach [a] X.env = (false, eval a X.env) :: starEach [] X.env := by rfl) : PE X (.Call (.Name "list" p) [a] [] pos) (tLKeys ta) := by
  refine ⟨fun pins s σ H Q I h => Call_ (ld_blt I hg hm hbv (PyProof.Rows.callWith_type1 (PyProof.Rows.args_cons (thn (ha.run pins s σ H _ I h) fun v s1 ⟨x, H1, I1, r1, d, kvs, ex, hd, k⟩ => PyProof.Rows.args_nil ?_) na) na rfl))⟩
  subst ex
  obtain rfl : v = Value.ref d := r1
  obtain ⟨hz, hsm, xs, rel, o, es, ep, ho, hx, hdat, he, _, _⟩ := dt_rd I1.hok hd
  have hl := Paired.length rel
  have hes : es.size = xs.length := by
    have := congrArg List.length he
    rwa [Array.length_toList, List.length_map] at this
  refine PySem.W.kdl_call (KdlSrc.rawDict (d := d) (es := es) (ep := ep) hsm) (I1.ok.hd hc) ⟨o, ho, hx, hdat⟩ (by omega) fun h' tk acc' c' hk hnew hit => ?_
  have hn : H1 s1.heap.objs.size = none := I1.hok.fresh (Nat.le_refl _)
  have hacc : acc' = ((xs.map fun x => x.2.1).map Value.ref).toArray := by
    obtain ⟨h1, h2⟩ := hit
    apply Array.ext
    · rw [h1, hes]; simp
    · intro j hj1 hj2
      obtain ⟨hi, e⟩ := h2 j acc'[j] (Array.getElem?_eq_getElem hj1)
      rw [e]
      have hjx : j < xs.length := by omega
      have e2 : es.toList[j]? = some (entryOfKey (tupleKind (mixKind X.prog X.w)) xs[j]) := by rw [he, List.getElem?_map, List.getElem?_eq_getElem hjx]; rfl
      rw [Array.getElem?_toList, Array.getElem?_eq_getElem hi] at e2
      rw [Option.some.inj e2]
      simp [entryOfKey]
  have hp : Paired (fun (b : Addr) (kv : List Key × V) => H1 b = some (.tup (kv.1.map kV))) (xs.map fun x => x.2.1) kvs := by
    exact paired_keys rel
  subst hacc
  refine ⟨.ref s1.heap.objs.size, _, I1.laid (a := s1.heap.objs.size) (o := .lst ((xs.map fun x => x.2.1).map V.ref)) (t' := tk) hk (Nat.le_refl _) ⟨by rw [List.length_map, List.length_map]; omega, _, c', vals_refs _, hnew⟩, rfl, k _ _ hn hp⟩
end
end LkT
namespace DL
open PySem PySem.Spec PyProof.Rows L2
section
variable {X : Cx} {k : Nat} {a : Expr} {ma : M D} {p pos : Pos}
theorem settle_keys {c : Ct} {σ : L2.St} {H : Hp} {e : DL.Env} : ∀ (bs : List Addr) (ks : List (List Ky)) (xs : List V) (Hf0 : Hp), ks.length = xs.length → Rl c σ H Hf0 e → Paired (fun (b : Addr) (kv : List Key × V) => H b = some (.tup (kv.1.map kV))) bs (ks.zip xs) →
    ∃ Hf', Rl c σ H Hf' e ∧ Same Hf0 Hf' ∧ (∀ a, a ∉ bs → Hf' a = Hf0 a) ∧ RepL c.K Hf' (bs.map V.ref) (ks.map fun k => .tup (k.map kyD)) := by
  intro bs
  induction bs with
  | nil =>
    intro ks xs Hf0 hl R0 hp
    cases ks with
    | nil => exact ⟨Hf0, R0, Same.refl _, fun _ _ => rfl, .nil⟩
    | cons k ks => cases xs with
      | nil => cases hl
      | cons x xs => cases hp
  | cons b bs ih =>
    intro ks xs Hf0 hl R0 hp
    cases ks with
    | nil => cases hp
    | cons k ks => cases xs with
      | nil => cases hl
      | cons x xs =>
        rw [List.zip_cons_cons] at hp
        cases hp with
        | cons hh ht =>
          obtain ⟨R1, S1⟩ := R0.settleT hh
          obtain ⟨Hf', R2, S2, n2, r3⟩ := ih ks xs _ (by simpa using hl) R1 ht
          refine ⟨Hf', R2, S1.trans S2, fun a ha => ?_, ?_⟩
          · simp only [List.mem_cons, not_or] at ha
            rw [n2 a ha.2, upd_ne ha.1]
          · rw [List.map_cons, List.map_cons]
            exact .cons (.tup (.of (S2 _ _ upd_same)) (kyDs_rep k)) r3
theorem dn_lkeys (O : XO X k) (ha : DE X a ma) (hm : X.mg "list" = none) (hg : Gl X "list" := by rfl) (hbv : bootBuiltins "list" = some (.type "list") := by exact bb_list) (na : starEach [a] X.env = (false, eval a X.env) :: starEach [] X.env := by rfl) :
    DN X (.Call (.Name "list" p) [a] [] pos) (mLKeys ma) := by
  obtain ⟨t, pp, s⟩ := ha
  refine ⟨_, LkT.pe_lkeys hg hm hbv pp O.calm na, fun c σ H Hf e d e' Q hK R hm q => ?_⟩
  unfold mLKeys at hm
  split at hm
  · rename_i ks vs e1 h1
    cases hm
    refine s c σ H Hf e _ _ _ hK R h1 fun v H1 Hf1 R1 S1 V1 => ?_
    cases V1 with
    | dT g1 g2 g3 =>
      refine ⟨_, _, rfl, rd_frz R1.sf g1, fun l bs hl hpr => ?_⟩
      have hfr : Hf1 l = none := none_sub R1.sf hl
      have R0 := R1.track (o := .lst (bs.map V.ref)) hl
      obtain ⟨Hf', R2, S2, n2, r3⟩ := settle_keys bs ks _ Hf1 g2 R0 (by
        refine Paired.mapP hpr fun b kv hb => ?_
        rw [upd_ne (fun z => by rw [z, hl] at hb; cases hb)]
        exact hb)
      have hln : l ∉ bs := fun hmem => by
        have key : ∀ {bs : List Addr} {kvs : List (List Key × V)}, Paired (fun (b : Addr) (kv : List Key × V) => H1 b = some (.tup (kv.1.map kV))) bs kvs → l ∈ bs → False := by
          intro bs kvs h
          induction h with
          | nil => intro h; cases h
          | cons h t ih =>
            intro hm2
            rcases List.mem_cons.mp hm2 with z | z
            · rw [← z, hl] at h; cases h
            · exact ih z
        exact key hpr hmem
      exact q l _ _ Hf' R2 (S1.trans S2) ⟨upd_same, by rw [n2 l hln]; exact hfr, R1.h0 hl, fun j ys q1 q2 => R1.new_no hl j ys q1 q2⟩ r3
  · cases hm
end
end DL

/-! Rules to walk through combinator code: wp for expressions, wpS for statements. -/
namespace DL
open PySem
def wp {α : Type} (m : M α) (e : Env) (Q : α → Env → Prop) : Prop := ∃ a e', m e = some (a, e') ∧ Q a e'
def wpS (m : Ms) (e : Env) (N B C : Env → Prop) (R : Rv → Env → Prop) : Prop :=
  ∃ f e', m e = some (f, e') ∧ (match f with | .nx => N e' | .bk => B e' | .ct => C e' | .ret r => R r e')
theorem wp_mono {α} {m : M α} {e : Env} {Q Q' : α → Env → Prop} (h : wp m e Q) (i : ∀ a e', Q a e' → Q' a e') : wp m e Q' := by
  obtain ⟨a, e', h1, h2⟩ := h; exact ⟨a, e', h1, i _ _ h2⟩
theorem wpS_mono {m : Ms} {e : Env} {N B C N' B' C' : Env → Prop} {R R' : Rv → Env → Prop} (h : wpS m e N B C R) (n : ∀ e', N e' → N' e') (b : ∀ e', B e' → B' e') (c : ∀ e', C e' → C' e') (r : ∀ v e', R v e' → R' v e') : wpS m e N' B' C' R' := by
  obtain ⟨f, e', h1, h2⟩ := h
  refine ⟨f, e', h1, ?_⟩
  cases f with
  | nx => exact n _ h2
  | bk => exact b _ h2
  | ct => exact c _ h2
  | ret v => exact r _ _ h2
section ex
variable {e : Env} {Q : D → Env → Prop} {QL : List D → Env → Prop} {QB : Bool → Env → Prop} {QP : Option Int → Env → Prop}
theorem w_var {i : Nat} {d : D} (h : e[i]? = some (.im d)) (q : Q d e) : wp (mVar i) e Q := ⟨d, e, by simp [mVar, h], q⟩
theorem w_C {d : D} (q : Q d e) : wp (mC d) e Q := ⟨d, e, rfl, q⟩
theorem w_bin {op : D → D → Option D} {a b : M D} (h : wp a e fun x e1 => wp b e1 fun y e2 => ∃ z, op x y = some z ∧ Q z e2) : wp (mBin op a b) e Q := by
  obtain ⟨x, e1, h1, y, e2, h2, z, h3, q⟩ := h
  exact ⟨z, e2, by simp [mBin, h1, h2, h3], q⟩
theorem w_un {op : D → Option D} {a : M D} (h : wp a e fun x e1 => ∃ z, op x = some z ∧ Q z e1) : wp (mUn op a) e Q := by
  obtain ⟨x, e1, h1, z, h3, q⟩ := h
  exact ⟨z, e1, by simp [mUn, h1, h3], q⟩
theorem w_isi {t : Ty} {a : M D} (h : wp a e fun x e1 => ∃ z, oIsi t x = some z ∧ Q z e1) : wp (mIsi t a) e Q := w_un h
theorem w_isi2 {t u : Ty} {a : M D} (h : wp a e fun x e1 => ∃ z, oIsi2 t u x = some z ∧ Q z e1) : wp (mIsi2 t u a) e Q := w_un h
theorem w_chain {o o' : D → D → Option D} {a b c : M D} (h : wp a e fun x e1 => wp b e1 fun y e2 => ∃ v, o x y = some (.bl v) ∧ ((v = true → wp c e2 fun z e3 => ∃ u, o' y z = some u ∧ Q u e3) ∧ (v = false → Q (.bl false) e2))) : wp (mChain o o' a b c) e Q := by
  obtain ⟨x, e1, h1, y, e2, h2, v, h3, t, f⟩ := h
  cases v with
  | true =>
    obtain ⟨z, e3, h4, u, h5, q⟩ := t rfl
    exact ⟨u, e3, by simp [mChain, h1, h2, h3, h4, h5], q⟩
  | false => exact ⟨.bl false, e2, by simp [mChain, h1, h2, h3], f rfl⟩
theorem w_if {t : M Bool} {a b : M D} (h : wp t e fun v e1 => (v = true → wp a e1 Q) ∧ (v = false → wp b e1 Q)) : wp (mIf t a b) e Q := by
  obtain ⟨v, e1, h1, t, f⟩ := h
  cases v with
  | true => obtain ⟨z, e3, h4, q⟩ := t rfl; exact ⟨z, e3, by simp [mIf, h1, h4], q⟩
  | false => obtain ⟨z, e3, h4, q⟩ := f rfl; exact ⟨z, e3, by simp [mIf, h1, h4], q⟩
theorem w_nil (q : QL [] e) : wp mNil e QL := ⟨_, _, rfl, q⟩
theorem w_cons {a : M D} {r : M (List D)} (h : wp a e fun x e1 => wp r e1 fun xs e2 => QL (x :: xs) e2) : wp (mCons a r) e QL := by
  obtain ⟨x, e1, h1, y, e2, h2, q⟩ := h
  exact ⟨_, e2, by simp [mCons, h1, h2], q⟩
theorem w_tup {a : M (List D)} (h : wp a e fun xs e1 => xs.length ≤ cap ∧ Q (.tup xs) e1) : wp (mTup a) e Q := by
  obtain ⟨x, e1, h1, l, q⟩ := h
  exact ⟨_, e1, by simp [mTup, h1, l], q⟩
theorem w_lst {a : M (List D)} (h : wp a e fun xs e1 => xs.length ≤ cap ∧ QL xs e1) : wp (mLst a) e QL := by
  obtain ⟨x, e1, h1, l, q⟩ := h
  exact ⟨_, e1, by simp [mLst, h1, l], q⟩
theorem w_F {f : List D → Option D} {a : M (List D)} (h : wp a e fun xs e1 => ∃ z, f xs = some z ∧ Q z e1) : wp (mF f a) e Q := by
  obtain ⟨x, e1, h1, z, h3, q⟩ := h
  exact ⟨_, e1, by simp [mF, h1, h3], q⟩
theorem w_Fb {f : List D → Option D} {a : M (List D)} (h : wp a e fun xs e1 => ∃ z, f xs = some z ∧ D.flat z = true ∧ Q z e1) : wp (mFb f a) e Q := by
  obtain ⟨x, e1, h1, z, h3, h4, q⟩ := h
  exact ⟨_, e1, by simp [mFb, h1, h3, h4], q⟩
theorem w_FN {f : List D → Option (List D)} {a : M (List D)} (h : wp a e fun xs e1 => ∃ z, f xs = some z ∧ QL z e1) : wp (mFN f a) e QL := by
  obtain ⟨x, e1, h1, z, h3, q⟩ := h
  exact ⟨_, e1, by simp [mFN, h1, h3], q⟩
theorem w_FI {f : List D → List D → Option (D × List D)} {j : Nat} {a : M (List D)} {s0 : List D} (h0 : e[j]? = some (.ow s0)) (h : wp a e fun xs e1 => ∃ s, e1[j]? = some (.ow s) ∧ ∃ d s', f s xs = some (d, s') ∧ ∃ e2, e1.set j (.ow s') = e2 ∧ Q d e2) : wp (mFI f j a) e Q := by
  obtain ⟨x, e1, h1, s, h2, d, s', h3, e2, rfl, q⟩ := h
  exact ⟨_, _, by simp [mFI, h0, h1, h2, h3], q⟩
theorem w_partI {a : M D} (h : wp a e fun x e1 => ∃ i, x = .int i ∧ QP (some i) e1) : wp (mPart a) e QP := by
  obtain ⟨x, e1, h1, i, rfl, q⟩ := h
  exact ⟨_, e1, by simp [mPart, h1], q⟩
theorem w_noPart (q : QP none e) : wp mNoPart e QP := ⟨_, _, rfl, q⟩
theorem w_slice {a : M D} {lo hi : M (Option Int)} (h : wp a e fun x e1 => wp lo e1 fun l e2 => wp hi e2 fun r e3 => ∃ z, oPart (fun xs => cut xs l r) x = some z ∧ Q z e3) : wp (mSlice a lo hi) e Q := by
  obtain ⟨x, e1, h1, l, e2, h2, r, e3, h3, z, h4, q⟩ := h
  exact ⟨_, e3, by simp [mSlice, h1, h2, h3, h4], q⟩
theorem w_oIx {j : Nat} {a : M D} {s0 : List D} (h0 : e[j]? = some (.ow s0)) (h : wp a e fun x e1 => ∃ i, x = .int i ∧ ∃ s, e1[j]? = some (.ow s) ∧ ∃ d, at' s i = some d ∧ Q d e1) : wp (mOIx j a) e Q := by
  obtain ⟨x, e1, h1, i, rfl, s, h2, d, h3, q⟩ := h
  exact ⟨_, _, by simp [mOIx, h0, h1, h2, h3], q⟩
theorem w_oLen {j : Nat} {s : List D} (h0 : e[j]? = some (.ow s)) (q : Q (.int s.length) e) : wp (mOLen j) e Q := ⟨_, _, by simp [mOLen, h0], q⟩
theorem w_oBin {op : D → D → Option D} {j : Nat} {b : M D} {s0 : List D} (h0 : e[j]? = some (.ow s0)) (h : wp b e fun y e1 => ∃ s, e1[j]? = some (.ow s) ∧ ∃ z, op (.lst s) y = some z ∧ Q z e1) : wp (mOBin op j b) e Q := by
  obtain ⟨x, e1, h1, s, h2, d, h3, q⟩ := h
  exact ⟨_, _, by simp [mOBin, h0, h1, h2, h3], q⟩
theorem w_binO {op : D → D → Option D} {j : Nat} {a : M D} (h : wp a e fun x e1 => ∃ s, e1[j]? = some (.ow s) ∧ ∃ z, op x (.lst s) = some z ∧ Q z e1) : wp (mBinO op a j) e Q := by
  obtain ⟨x, e1, h1, s, h2, d, h3, q⟩ := h
  exact ⟨_, _, by simp [mBinO, h1, h2, h3], q⟩
theorem w_consO {j : Nat} {r : M (List D)} {s0 : List D} (h0 : e[j]? = some (.ow s0)) (h : wp r e fun xs e1 => ∃ s, e1[j]? = some (.ow s) ∧ QL (.lst s :: xs) e1) : wp (mConsO j r) e QL := by
  obtain ⟨x, e1, h1, s, h2, q⟩ := h
  exact ⟨_, _, by simp [mConsO, h0, h1, h2], q⟩
theorem w_val {a : M D} (h : wp a e fun x e1 => ∃ b, x = .bl b ∧ QB b e1) : wp (tVal a) e QB := by
  obtain ⟨x, e1, h1, i, rfl, q⟩ := h
  exact ⟨_, e1, by simp [tVal, h1], q⟩
theorem w_tAnd {a b : M Bool} (h : wp a e fun v e1 => (v = true → wp b e1 QB) ∧ (v = false → QB false e1)) : wp (tAnd a b) e QB := by
  obtain ⟨v, e1, h1, t, f⟩ := h
  cases v with
  | true => obtain ⟨z, e3, h4, q⟩ := t rfl; exact ⟨z, e3, by simp [tAnd, h1, h4], q⟩
  | false => exact ⟨_, e1, by simp [tAnd, h1], f rfl⟩
theorem w_tOr {a b : M Bool} (h : wp a e fun v e1 => (v = true → QB true e1) ∧ (v = false → wp b e1 QB)) : wp (tOr a b) e QB := by
  obtain ⟨v, e1, h1, t, f⟩ := h
  cases v with
  | false => obtain ⟨z, e3, h4, q⟩ := f rfl; exact ⟨z, e3, by simp [tOr, h1, h4], q⟩
  | true => exact ⟨_, e1, by simp [tOr, h1], t rfl⟩
theorem w_tNot {a : M Bool} (h : wp a e fun v e1 => QB (!v) e1) : wp (tNot a) e QB := by
  obtain ⟨v, e1, h1, q⟩ := h
  exact ⟨_, e1, by simp [tNot, h1], q⟩
theorem w_tYes (q : QB true e) : wp tYes e QB := ⟨_, _, rfl, q⟩
theorem w_and {a b : M D} (h : wp a e fun x e1 => ∃ v, x = .bl v ∧ ((v = true → wp b e1 Q) ∧ (v = false → Q (.bl false) e1))) : wp (mAnd a b) e Q := by
  obtain ⟨x, e1, h1, v, rfl, t, f⟩ := h
  cases v with
  | true => obtain ⟨z, e3, h4, q⟩ := t rfl; exact ⟨z, e3, by simp [mAnd, h1, h4], q⟩
  | false => exact ⟨_, e1, by simp [mAnd, h1], f rfl⟩
theorem w_or {a b : M D} (h : wp a e fun x e1 => ∃ v, x = .bl v ∧ ((v = true → Q (.bl true) e1) ∧ (v = false → wp b e1 Q))) : wp (mOr a b) e Q := by
  obtain ⟨x, e1, h1, v, rfl, t, f⟩ := h
  cases v with
  | false => obtain ⟨z, e3, h4, q⟩ := f rfl; exact ⟨z, e3, by simp [mOr, h1, h4], q⟩
  | true => exact ⟨_, e1, by simp [mOr, h1], t rfl⟩
theorem w_not {a : M D} (h : wp a e fun x e1 => ∃ v, x = .bl v ∧ Q (.bl (!v)) e1) : wp (mNot a) e Q := by
  obtain ⟨x, e1, h1, v, rfl, q⟩ := h
  exact ⟨_, e1, by simp [mNot, h1], q⟩
theorem w_iSeq {a : M D} (h : wp a e fun x e1 => ∃ xs, (x = .lst xs ∨ x = .tup xs) ∧ QL xs e1) : wp (iSeq a) e QL := by
  obtain ⟨x, e1, h1, v, rfl | rfl, q⟩ := h <;> exact ⟨_, e1, by simp [iSeq, h1], q⟩
theorem w_iRng {a b : M D} (h : wp a e fun x e1 => wp b e1 fun y e2 => ∃ i j, x = .int i ∧ y = .int j ∧ inR i = true ∧ inR j = true ∧ QL (rng i j) e2) : wp (iRng a b) e QL := by
  obtain ⟨x, e1, h1, y, e2, h2, i, j, rfl, rfl, hi, hj, q⟩ := h
  exact ⟨_, e2, by simp [iRng, h1, h2, hi, hj], q⟩
theorem w_iRngD {a b : M D} (h : wp a e fun x e1 => wp b e1 fun y e2 => ∃ i j, x = .int i ∧ y = .int j ∧ inR i = true ∧ inR j = true ∧ QL (rngD i j) e2) : wp (iRngD a b) e QL := by
  obtain ⟨x, e1, h1, y, e2, h2, i, j, rfl, rfl, hi, hj, q⟩ := h
  exact ⟨_, e2, by simp [iRngD, h1, h2, hi, hj], q⟩
theorem w_rg {a b : M D} (h : wp a e fun x e1 => wp b e1 fun y e2 => ∃ i j, x = .int i ∧ y = .int j ∧ inR i = true ∧ inR j = true ∧ (j - i).toNat ≤ cap ∧ QL (rng i j) e2) : wp (mRg a b) e QL := by
  obtain ⟨x, e1, h1, y, e2, h2, i, j, rfl, rfl, hi, hj, hc, q⟩ := h
  exact ⟨_, e2, by simp only [mRg, h1, h2, hi, hj, hc, decide_true, Bool.and_true, ite_true], q⟩
theorem w_iZip {a b : M D} (h : wp a e fun x e1 => wp b e1 fun y e2 => ∃ xs ys, ((x = .lst xs ∧ y = .lst ys) ∨ (x = .tup xs ∧ y = .tup ys)) ∧ QL (zipD xs ys) e2) : wp (iZip a b) e QL := by
  obtain ⟨x, e1, h1, y, e2, h2, xs, ys, ⟨rfl, rfl⟩ | ⟨rfl, rfl⟩, q⟩ := h <;> exact ⟨_, e2, by simp [iZip, h1, h2], q⟩
theorem w_iEnum {a : M D} (h : wp a e fun x e1 => ∃ xs, (x = .lst xs ∨ x = .tup xs) ∧ QL (enumD 0 xs) e1) : wp (iEnum a) e QL := by
  obtain ⟨x, e1, h1, v, rfl | rfl, q⟩ := h <;> exact ⟨_, e1, by simp [iEnum, iSeq, h1], q⟩
theorem w_fr {a : M (List D)} (h : wp a e fun xs e1 => Q (.lst xs) e1) : wp (mFr a) e Q := by
  obtain ⟨x, e1, h1, q⟩ := h
  exact ⟨_, e1, by simp [mFr, h1], q⟩
theorem w_new {a : M D} (h : wp a e fun x e1 => ∃ xs, x = .lst xs ∧ QL xs e1) : wp (mNew a) e QL := by
  obtain ⟨x, e1, h1, xs, rfl, q⟩ := h
  exact ⟨_, e1, by simp [mNew, h1], q⟩
theorem w_tupL {a : M (List D)} (h : wp a e fun xs e1 => Q (.tup xs) e1) : wp (mTupL a) e Q := by
  obtain ⟨x, e1, h1, q⟩ := h
  exact ⟨_, e1, by simp [mTupL, h1], q⟩
theorem w_rev {a : M D} (h : wp a e fun x e1 => ∃ xs, x = .lst xs ∧ QL xs.reverse e1) : wp (mRev a) e QL := by
  obtain ⟨x, e1, h1, xs, rfl, q⟩ := h
  exact ⟨_, e1, by simp [mRev, h1], q⟩
theorem w_revT {a : M D} (h : wp a e fun x e1 => ∃ xs, x = .tup xs ∧ Q (.tup xs.reverse) e1) : wp (mRevT a) e Q := by
  obtain ⟨x, e1, h1, xs, rfl, q⟩ := h
  exact ⟨_, e1, by simp [mRevT, h1], q⟩
/-- the comprehension, with a promise I about (what is left, what is gathered, the slots) -/
theorem w_compL {vs : List Nat} {p : Pt} {t : M Bool} {elt : M D} (I : List D → List D → Env → Prop)
    (hs : ∀ d ds acc e, I (d :: ds) acc e → ∃ e1, p d (wipeE e vs) = some e1 ∧ wp t e1 fun b e2 => (b = true → wp elt e2 fun y e3 => acc.length < cap ∧ I ds (acc ++ [y]) e3) ∧ (b = false → I ds acc e2)) :
    ∀ (ds acc : List D) (e : Env), I ds acc e → ∃ acc' e', compL vs p t elt ds e acc = some (acc', e') ∧ I [] acc' e' := by
  intro ds
  induction ds with
  | nil => intro acc e h; exact ⟨acc, e, rfl, h⟩
  | cons d ds ih =>
    intro acc e h
    obtain ⟨e1, h1, b, e2, h2, ht, hf⟩ := hs d ds acc e h
    cases b with
    | true =>
      obtain ⟨y, e3, h3, hc, hI⟩ := ht rfl
      obtain ⟨acc', e', h4, h5⟩ := ih _ _ hI
      exact ⟨acc', e', by simp only [compL, h1, h2, h3, hc, if_true, h4], h5⟩
    | false =>
      obtain ⟨acc', e', h4, h5⟩ := ih _ _ (hf rfl)
      exact ⟨acc', e', by simp only [compL, h1, h2, h4], h5⟩
theorem w_comp {vs : List Nat} {it : M (List D)} {p : Pt} {t : M Bool} {elt : M D} (I : Env → List D → List D → Env → Prop)
    (h : wp it e fun ds e1 => I e1 ds [] (wipeE e1 vs) ∧
      (∀ d ds acc e, I e1 (d :: ds) acc e → ∃ e', p d (wipeE e vs) = some e' ∧ wp t e' fun b e2 => (b = true → wp elt e2 fun y e3 => acc.length < cap ∧ I e1 ds (acc ++ [y]) e3) ∧ (b = false → I e1 ds acc e2)) ∧
      ∀ acc e2, I e1 [] acc e2 → QL acc (backE e1 e2 vs)) : wp (mComp vs it p t elt) e QL := by
  obtain ⟨ds, e1, h1, hI, hs, hq⟩ := h
  obtain ⟨acc, e2, h2, h3⟩ := w_compL (I e1) hs ds [] _ hI
  exact ⟨acc, _, by simp only [mComp, h1, h2], hq acc e2 h3⟩
/-- the comprehension whose parts leave the slots alone, its own names apart -/
theorem w_compQ {vs : List Nat} {it : M (List D)} {p : Pt} {t : M Bool} {elt : M D} (tb : D → Bool) (g : D → D)
    (h : wp it e fun ds e1 => ∃ e3, ds.length ≤ cap ∧ backE e1 (wipeE e1 vs) vs = e3 ∧ wipeE (wipeE e1 vs) vs = wipeE e1 vs ∧
      (∀ d ∈ ds, ∃ e', p d (wipeE e1 vs) = some e' ∧ wipeE e' vs = wipeE e1 vs ∧ backE e1 e' vs = e3 ∧ wp t e' fun b e2 => e2 = e' ∧ b = tb d ∧ (tb d = true → wp elt e' fun y e3 => e3 = e' ∧ y = g d)) ∧
      QL ((ds.filter tb).map g) e3) : wp (mComp vs it p t elt) e QL := by
  obtain ⟨ds, e1, h1, ez, hc, hb, hw, hs, hq⟩ := h
  have key : ∀ (ds acc : List D) (e : Env), acc.length + ds.length ≤ cap → wipeE e vs = wipeE e1 vs → backE e1 e vs = ez →
      (∀ d ∈ ds, ∃ e', p d (wipeE e1 vs) = some e' ∧ wipeE e' vs = wipeE e1 vs ∧ backE e1 e' vs = ez ∧ wp t e' fun b e2 => e2 = e' ∧ b = tb d ∧ (tb d = true → wp elt e' fun y e3 => e3 = e' ∧ y = g d)) →
      ∃ e', compL vs p t elt ds e acc = some (acc ++ (ds.filter tb).map g, e') ∧ backE e1 e' vs = ez := by
    intro ds
    induction ds with
    | nil => intro acc e _ _ hb' _; exact ⟨e, by simp [compL], hb'⟩
    | cons d ds ih =>
      intro acc e hl hw' hb' hall
      obtain ⟨e', h1, h2, h2b, b, e2, h3, rfl, rfl, h4⟩ := hall d (List.mem_cons_self ..)
      simp only [List.length_cons] at hl
      cases hbd : tb d with
      | true =>
        obtain ⟨y, e3, h5, rfl, rfl⟩ := h4 hbd
        obtain ⟨e4, h6, h7⟩ := ih (acc ++ [g d]) e3 (by simp; omega) h2 h2b (fun x hx => hall x (List.mem_cons_of_mem _ hx))
        refine ⟨e4, ?_, h7⟩
        rw [hbd] at h3
        have hlt : acc.length < cap := by omega
        simp only [compL, hw', h1, h3, h5, hlt, if_true, h6, List.filter, hbd, List.map, List.append_assoc, List.cons_append, List.nil_append]
      | false =>
        obtain ⟨e4, h6, h7⟩ := ih acc e2 (by omega) h2 h2b (fun x hx => hall x (List.mem_cons_of_mem _ hx))
        refine ⟨e4, ?_, h7⟩
        rw [hbd] at h3
        simp only [compL, hw', h1, h3, h6, List.filter, hbd]
  obtain ⟨e2, h2, h3⟩ := key ds [] (wipeE e1 vs) (by simpa using hc) hw hb hs
  refine ⟨_, ez, ?_, hq⟩
  simp only [mComp, h1, h2, h3, List.nil_append]
theorem w_compP {vs : List Nat} {it : M (List D)} {p : Pt} {t : M Bool} {elt : M D} (tb : D → Bool) (g : D → D)
    (h : wp it e fun ds e1 => ds.length ≤ cap ∧
      (∀ d ∈ ds, ∃ e', p d (wipeE e1 vs) = some e' ∧ wipeE e' vs = wipeE e1 vs ∧ backE e1 e' vs = e1 ∧ wp t e' fun b e2 => e2 = e' ∧ b = tb d ∧ (tb d = true → wp elt e' fun y e3 => e3 = e' ∧ y = g d)) ∧
      backE e1 (wipeE e1 vs) vs = e1 ∧ wipeE (wipeE e1 vs) vs = wipeE e1 vs ∧ QL ((ds.filter tb).map g) e1) : wp (mComp vs it p t elt) e QL :=
  w_compQ tb g (wp_mono h fun _ e1 ⟨a, b, c, d, f⟩ => ⟨e1, a, c, d, b, f⟩)
end ex
section st
variable {e : Env} {N B C : Env → Prop} {R : Rv → Env → Prop}
theorem w_set {p : Pt} {a : M D} (h : wp a e fun d e1 => ∃ e2, p d e1 = some e2 ∧ N e2) : wpS (sSet p a) e N B C R := by
  obtain ⟨x, e1, h1, e2, h2, q⟩ := h
  exact ⟨.nx, e2, by simp [sSet, h1, h2], q⟩
theorem w_setN {i : Nat} {a : M D} (h : wp a e fun d e1 => ∃ e2, (decide (i < e1.length) = true ∧ e1.set i (.im d) = e2) ∧ N e2) : wpS (sSet (pN i) a) e N B C R :=
  w_set (wp_mono h fun d e1 ⟨e2, ⟨h1, h2⟩, h3⟩ => ⟨e2, by simp [pN, of_decide_eq_true h1, h2], h3⟩)
theorem w_snew {i : Nat} {a : M (List D)} (h : wp a e fun d e1 => ∃ e2, (decide (i < e1.length) = true ∧ e1.set i (.ow d) = e2) ∧ N e2) : wpS (sNew i a) e N B C R := by
  obtain ⟨x, e1, h1, e2, ⟨h2, h3⟩, q⟩ := h
  exact ⟨.nx, e2, by simp [sNew, h1, of_decide_eq_true h2, h3], q⟩
theorem w_im {a : M D} {Q : Sl → Env → Prop} (h : wp a e fun d e1 => Q (.im d) e1) : wp (mIm a) e Q := by
  obtain ⟨x, e1, h1, q⟩ := h; exact ⟨_, e1, by simp [mIm, h1], q⟩
theorem w_ow {a : M (List D)} {Q : Sl → Env → Prop} (h : wp a e fun d e1 => Q (.ow d) e1) : wp (mOw a) e Q := by
  obtain ⟨x, e1, h1, q⟩ := h; exact ⟨_, e1, by simp [mOw, h1], q⟩
theorem w_par {i j : Nat} {a b : M Sl} (h : wp a e fun x e1 => wp b e1 fun y e2 => ∃ e3, ((decide (i < e2.length) && decide (j < e2.length)) = true ∧ (e2.set i x).set j y = e3) ∧ N e3) : wpS (sPar i j a b) e N B C R := by
  obtain ⟨x, e1, h1, y, e2, h2, e3, ⟨h3, h4⟩, q⟩ := h
  exact ⟨.nx, e3, by simp only [sPar, h1, h2, h3, h4, if_true], q⟩
theorem w_par3 {i j l : Nat} {a b c : M Sl} (h : wp a e fun x e1 => wp b e1 fun y e2 => wp c e2 fun z e3 => ∃ e4, ((decide (i < e3.length) && decide (j < e3.length) && decide (l < e3.length)) = true ∧ ((e3.set i x).set j y).set l z = e4) ∧ N e4) : wpS (sPar3 i j l a b c) e N B C R := by
  obtain ⟨x, e1, h1, y, e2, h2, z, e3, h3, e4, ⟨h4, h5⟩, q⟩ := h
  exact ⟨.nx, e4, by simp only [sPar3, h1, h2, h3, h4, h5, if_true], q⟩
theorem w_aug {i : Nat} {op : D → D → Option D} {a : M D} {x : D} (h0 : e[i]? = some (.im x)) (h : wp a e fun y e1 => ∃ z, op x y = some z ∧ ∃ e2, (decide (i < e1.length) = true ∧ e1.set i (.im z) = e2) ∧ N e2) : wpS (sAug i op a) e N B C R := by
  obtain ⟨y, e1, h1, z, h2, e2, ⟨h3, h4⟩, q⟩ := h
  exact ⟨.nx, e2, by simp [sAug, h0, h1, h2, of_decide_eq_true h3, h4], q⟩
theorem w_app {j : Nat} {a : M D} {s0 : List D} (h0 : e[j]? = some (.ow s0)) (h : wp a e fun d e1 => ∃ s, e1[j]? = some (.ow s) ∧ s.length < cap ∧ ∃ e2, e1.set j (.ow (s ++ [d])) = e2 ∧ N e2) : wpS (sApp j a) e N B C R := by
  obtain ⟨d, e1, h1, s, h2, h3, e2, h4, q⟩ := h
  exact ⟨.nx, e2, by simp only [sApp, h0, h1, h2, h3, if_true, h4], q⟩
theorem w_oset {j : Nat} {i a : M D} {s0 : List D} (h0 : e[j]? = some (.ow s0)) (h : wp a e fun d e1 => wp i e1 fun x e2 => ∃ k, x = .int k ∧ ∃ s, e2[j]? = some (.ow s) ∧ ∃ n, ix s.length k = some n ∧ ∃ e3, e2.set j (.ow (s.set n d)) = e3 ∧ N e3) : wpS (sOSet j i a) e N B C R := by
  obtain ⟨d, e1, h1, x, e2, h2, k, rfl, s, h3, n, h4, e3, h5, q⟩ := h
  exact ⟨.nx, e3, by simp [sOSet, h0, h1, h2, h3, h4, h5], q⟩
theorem w_ext {j : Nat} {a : M (List D)} {s0 : List D} (h0 : e[j]? = some (.ow s0)) (h : wp a e fun ys e1 => ∃ s, e1[j]? = some (.ow s) ∧ s.length + ys.length ≤ cap ∧ ∃ e2, e1.set j (.ow (s ++ ys)) = e2 ∧ N e2) : wpS (sExt j a) e N B C R := by
  obtain ⟨d, e1, h1, s, h2, h3, e2, h4, q⟩ := h
  exact ⟨.nx, e2, by simp only [sExt, h0, h1, h2, h3, if_true, h4], q⟩
theorem w_expr {a : M D} (h : wp a e fun _ e1 => N e1) : wpS (sExpr a) e N B C R := by
  obtain ⟨x, e1, h1, q⟩ := h; exact ⟨.nx, e1, by simp [sExpr, h1], q⟩
theorem w_ret {a : M D} (h : wp a e fun d e1 => R (.im d) e1) : wpS (sRet a) e N B C R := by
  obtain ⟨x, e1, h1, q⟩ := h; exact ⟨.ret (.im x), e1, by simp [sRet, h1], q⟩
theorem w_retN {a : M (List D)} (h : wp a e fun d e1 => R (.ow d) e1) : wpS (sRetN a) e N B C R := by
  obtain ⟨x, e1, h1, q⟩ := h; exact ⟨.ret (.ow x), e1, by simp [sRetN, h1], q⟩
theorem w_retO {j : Nat} {s : List D} (h0 : e[j]? = some (.ow s)) (q : R (.ow s) e) : wpS (sRetO j) e N B C R := ⟨.ret (.ow s), e, by simp [sRetO, h0], q⟩
theorem w_pass (q : N e) : wpS sPass e N B C R := ⟨.nx, e, rfl, q⟩
theorem w_break (q : B e) : wpS sBreak e N B C R := ⟨.bk, e, rfl, q⟩
theorem w_cont (q : C e) : wpS sCont e N B C R := ⟨.ct, e, rfl, q⟩
theorem w_seq {a b : Ms} (h : wpS a e (fun e1 => wpS b e1 N B C R) B C R) : wpS (sSeq a b) e N B C R := by
  obtain ⟨f, e1, h1, h2⟩ := h
  cases f with
  | nx => obtain ⟨g, e2, h3, h4⟩ := h2; exact ⟨g, e2, by simp only [sSeq, h1, h3], h4⟩
  | bk => exact ⟨.bk, e1, by simp only [sSeq, h1], h2⟩
  | ct => exact ⟨.ct, e1, by simp only [sSeq, h1], h2⟩
  | ret r => exact ⟨.ret r, e1, by simp only [sSeq, h1], h2⟩
theorem w_seqM {a b : Ms} (M : Env → Prop) (h : wpS a e M B C R) (h2 : ∀ e1, M e1 → wpS b e1 N B C R) : wpS (sSeq a b) e N B C R :=
  w_seq (wpS_mono h h2 (fun _ h => h) (fun _ h => h) fun _ _ h => h)
theorem w_sif {t : M Bool} {a b : Ms} (h : wp t e fun v e1 => (v = true → wpS a e1 N B C R) ∧ (v = false → wpS b e1 N B C R)) : wpS (sIf t a b) e N B C R := by
  obtain ⟨v, e1, h1, t, f⟩ := h
  cases v with
  | true => obtain ⟨z, e3, h4, q⟩ := t rfl; exact ⟨z, e3, by simp [sIf, h1, h4], q⟩
  | false => obtain ⟨z, e3, h4, q⟩ := f rfl; exact ⟨z, e3, by simp [sIf, h1, h4], q⟩
theorem w_frz {j : Nat} {a : Ms} {s : List D} (h0 : e[j]? = some (.ow s)) (h : ∃ e2, e.set j (.im (.lst s)) = e2 ∧ wpS a e2 N B C R) : wpS (sFrz j a) e N B C R := by
  obtain ⟨e2, h1, f, e3, h2, h3⟩ := h
  exact ⟨f, e3, by simp [sFrz, frzE, h0, h1, h2], h3⟩
theorem w_frzI {j : Nat} {a : Ms} {d : D} (h0 : e[j]? = some (.im d)) (h : wpS a e N B C R) : wpS (sFrz j a) e N B C R := by
  obtain ⟨f, e3, h2, h3⟩ := h
  exact ⟨f, e3, by simp [sFrz, frzE, h0, h2], h3⟩
theorem w_forL {p : Pt} {b : Ms} (I : List D → Env → Prop)
    (hs : ∀ d ds e, I (d :: ds) e → ∃ e1, p d e = some e1 ∧ wpS b e1 (I ds) N (I ds) R) (he : ∀ e, I [] e → N e) :
    ∀ (ds : List D) (e : Env), I ds e → wpS (forL p b ds) e N B C R := by
  intro ds
  induction ds with
  | nil => intro e h; exact ⟨.nx, e, rfl, he e h⟩
  | cons d ds ih =>
    intro e h
    obtain ⟨e1, h1, f, e2, h2, h3⟩ := hs d ds e h
    cases f with
    | nx => obtain ⟨g, e3, h4, h5⟩ := ih e2 h3; exact ⟨g, e3, by simp only [forL, h1, h2, h4], h5⟩
    | ct => obtain ⟨g, e3, h4, h5⟩ := ih e2 h3; exact ⟨g, e3, by simp only [forL, h1, h2, h4], h5⟩
    | bk => exact ⟨.nx, e2, by simp only [forL, h1, h2], h3⟩
    | ret r => exact ⟨.ret r, e2, by simp only [forL, h1, h2], h3⟩
theorem w_for {it : M (List D)} {p : Pt} {b : Ms} (h : wp it e fun ds e1 => wpS (forL p b ds) e1 N B C R) : wpS (sFor it p b) e N B C R := by
  obtain ⟨ds, e1, h1, f, e2, h2, h3⟩ := h
  exact ⟨f, e2, by simp only [sFor, h1, h2], h3⟩
/-- the for, with a promise I about (what is left, the slots) -/
theorem w_forI {it : M (List D)} {p : Pt} {b : Ms} (I : List D → Env → Prop) (h : wp it e fun ds e1 => I ds e1)
    (hs : ∀ d ds e, I (d :: ds) e → ∃ e1, p d e = some e1 ∧ wpS b e1 (I ds) N (I ds) R) (he : ∀ e, I [] e → N e) : wpS (sFor it p b) e N B C R :=
  w_for (wp_mono h fun ds e1 h1 => w_forL I hs he ds e1 h1)
/-- the while, with a promise I about (a number that falls, the slots) -/
theorem w_whileN {t : M Bool} {b : Ms} (I : Nat → Env → Prop)
    (hs : ∀ k e, I k e → wp t e fun v e1 => (v = true → wpS b e1 (fun e2 => ∃ k', k' < k ∧ I k' e2) N (fun e2 => ∃ k', k' < k ∧ I k' e2) R) ∧ (v = false → N e1)) :
    ∀ (n k : Nat) (e : Env), k < n → I k e → wpS (whileN t b n) e N B C R := by
  intro n
  induction n with
  | zero => intro k e h; omega
  | succ n ih =>
    intro k e hk hI
    obtain ⟨v, e1, h1, ht, hf⟩ := hs k e hI
    cases v with
    | false => exact ⟨.nx, e1, by simp only [whileN, h1], hf rfl⟩
    | true =>
      obtain ⟨f, e2, h2, h3⟩ := ht rfl
      cases f with
      | nx => obtain ⟨k', hk', hI'⟩ := h3; obtain ⟨g, e3, h4, h5⟩ := ih k' e2 (by omega) hI'; exact ⟨g, e3, by simp only [whileN, h1, h2, h4], h5⟩
      | ct => obtain ⟨k', hk', hI'⟩ := h3; obtain ⟨g, e3, h4, h5⟩ := ih k' e2 (by omega) hI'; exact ⟨g, e3, by simp only [whileN, h1, h2, h4], h5⟩
      | bk => exact ⟨.nx, e2, by simp only [whileN, h1, h2], h3⟩
      | ret r => exact ⟨.ret r, e2, by simp only [whileN, h1, h2], h3⟩
theorem w_while {t : M Bool} {b : Ms} {n : Nat} (I : Nat → Env → Prop) (k : Nat) (hk : k < n) (h0 : I k e)
    (hs : ∀ k e, I k e → wp t e fun v e1 => (v = true → wpS b e1 (fun e2 => ∃ k', k' < k ∧ I k' e2) N (fun e2 => ∃ k', k' < k ∧ I k' e2) R) ∧ (v = false → N e1)) : wpS (sWhile n t b) e N B C R :=
  w_whileN I hs n k e hk h0
end st
/-! ### choices -/
theorem c_true {P P' : Prop} (h : P) : (true = true → P) ∧ (true = false → P') := ⟨fun _ => h, fun h => nomatch h⟩
theorem c_false {P P' : Prop} (h : P') : (false = true → P) ∧ (false = false → P') := ⟨(fun h => nomatch h), fun _ => h⟩
theorem c_nt {P P' : Prop} (h : P') : ((!true) = true → P) ∧ ((!true) = false → P') := ⟨(fun h => nomatch h), fun _ => h⟩
theorem c_nf {P P' : Prop} (h : P) : ((!false) = true → P) ∧ ((!false) = false → P') := ⟨fun _ => h, (fun h => nomatch h)⟩
theorem c_dec {p : Prop} {_ : Decidable p} {P P' : Prop} (h : p → P) (h' : ¬p → P') : (decide p = true → P) ∧ (decide p = false → P') :=
  ⟨fun x => h (of_decide_eq_true x), fun x => h' (of_decide_eq_false x)⟩
theorem c_decT {p : Prop} {_ : Decidable p} {P P' : Prop} (h : p) (h' : P) : (decide p = true → P) ∧ (decide p = false → P') := c_dec (fun _ => h') fun x => (x h).elim
theorem c_decF {p : Prop} {_ : Decidable p} {P P' : Prop} (h : ¬p) (h' : P') : (decide p = true → P) ∧ (decide p = false → P') := c_dec (fun x => (h x).elim) fun _ => h'
theorem c_not {b : Bool} {P P' : Prop} (h : (b = true → P') ∧ (b = false → P)) : ((!b) = true → P) ∧ ((!b) = false → P') := by
  cases b <;> simp_all
theorem c_and {a b : Bool} {P P' : Prop} (h : a = true → b = true → P) (h' : ¬ (a = true ∧ b = true) → P') : ((a && b) = true → P) ∧ ((a && b) = false → P') := by
  cases a <;> cases b <;> simp_all
/-! ### operations: ∃ z, op .. = some z ∧ Q z -/
section op
variable {Q : D → Prop} {i j : Int}
theorem x_add (q : Q (.int (i + j))) : ∃ z, oAdd (.int i) (.int j) = some z ∧ Q z := ⟨_, rfl, q⟩
theorem x_addI (q : Q (.int (i + j))) : ∃ z, oAddI (.int i) (.int j) = some z ∧ Q z := ⟨_, rfl, q⟩
theorem x_sub (q : Q (.int (i - j))) : ∃ z, oSub (.int i) (.int j) = some z ∧ Q z := ⟨_, rfl, q⟩
theorem x_neg (q : Q (.int (-i))) : ∃ z, oNeg (.int i) = some z ∧ Q z := ⟨_, rfl, q⟩
theorem x_mul (h : (small i || small j) = true) (q : Q (.int (i * j))) : ∃ z, oMul (.int i) (.int j) = some z ∧ Q z := ⟨_, by simp [oMul, h], q⟩
theorem x_mulA (h : small i = true) (q : Q (.int (i * j))) : ∃ z, oMul (.int i) (.int j) = some z ∧ Q z := ⟨_, by simp [oMul, h], q⟩
theorem x_mulB (h : small j = true) (q : Q (.int (i * j))) : ∃ z, oMul (.int i) (.int j) = some z ∧ Q z := ⟨_, by simp [oMul, h], q⟩
theorem x_mulT {xs : List D} {k : Int} (h0 : xs.isEmpty = false) (h : 2 ≤ k ∧ k ≤ 1000 ∧ xs.length ≤ 1000) (q : Q (.tup (List.replicate k.toNat xs).flatten)) : ∃ z, oMul (.tup xs) (.int k) = some z ∧ Q z :=
  ⟨_, by simp only [oMul, h0, decide_eq_true h, Bool.not_false, Bool.and_true, if_true], q⟩
theorem x_div (h : 0 < j ∧ j < 2 ^ 64) (q : Q (.int (i / j))) : ∃ z, oDiv (.int i) (.int j) = some z ∧ Q z := ⟨_, by simp only [oDiv, decide_eq_true h, if_true], q⟩
theorem x_mod (h : 0 < j) (q : Q (.int (i % j))) : ∃ z, oMod (.int i) (.int j) = some z ∧ Q z := ⟨_, by simp only [oMod, decide_eq_true h, if_true], q⟩
theorem x_pow (h : 0 ≤ j ∧ j ≤ 1000000 ∧ i.natAbs < 2 ^ 64) (q : Q (.int (i ^ j.toNat))) : ∃ z, oPow (.int i) (.int j) = some z ∧ Q z := ⟨_, by simp only [oPow, decide_eq_true h, if_true], q⟩
theorem x_lt (q : Q (.bl (decide (i < j)))) : ∃ z, oLt (.int i) (.int j) = some z ∧ Q z := ⟨_, rfl, q⟩
theorem x_le (q : Q (.bl (decide (i ≤ j)))) : ∃ z, oLe (.int i) (.int j) = some z ∧ Q z := ⟨_, rfl, q⟩
theorem x_gt (q : Q (.bl (decide (j < i)))) : ∃ z, oGt (.int i) (.int j) = some z ∧ Q z := ⟨_, rfl, q⟩
theorem x_ge (q : Q (.bl (decide (j ≤ i)))) : ∃ z, oGe (.int i) (.int j) = some z ∧ Q z := ⟨_, rfl, q⟩
theorem ok_int (i : Int) : D.ok (.int i) = true := by simp [D.ok, D.pl, D.dep]
theorem ok_str (i : Str) : D.ok (.str i) = true := by simp [D.ok, D.pl, D.dep]
theorem ok_non : D.ok .non = true := by simp [D.ok, D.pl, D.dep]
theorem ok_bl (b : Bool) : D.ok (.bl b) = true := by simp [D.ok, D.pl, D.dep]
theorem x_eq (q : Q (.bl (decide (i = j)))) : ∃ z, oEq (.int i) (.int j) = some z ∧ Q z :=
  ⟨_, by simp only [oEq, ok_int, D.eqv, Bool.and_true, if_true]; rfl, q⟩
theorem x_ne (q : Q (.bl (!decide (i = j)))) : ∃ z, oNe (.int i) (.int j) = some z ∧ Q z :=
  ⟨_, by simp only [oNe, ok_int, D.eqv, Bool.and_true, if_true]; rfl, q⟩
theorem x_eqS {s t : Str} (q : Q (.bl (decide (s = t)))) : ∃ z, oEq (.str s) (.str t) = some z ∧ Q z :=
  ⟨_, by simp only [oEq, ok_str, D.eqv, Bool.and_true, if_true]; rfl, q⟩
theorem x_isN {d : D} (q : Q (.bl (D.isNon d))) : ∃ z, oIsN d .non = some z ∧ Q z := ⟨_, rfl, q⟩
theorem x_notN {d : D} (q : Q (.bl (!D.isNon d))) : ∃ z, oNotN d .non = some z ∧ Q z := ⟨_, rfl, q⟩
theorem x_isB {a b : Bool} (q : Q (.bl (decide (a = b)))) : ∃ z, oIsB (.bl a) (.bl b) = some z ∧ Q z := ⟨_, rfl, q⟩
theorem x_notB {a b : Bool} (q : Q (.bl (!decide (a = b)))) : ∃ z, oNotB (.bl a) (.bl b) = some z ∧ Q z := ⟨_, rfl, q⟩
theorem x_ixL {xs : List D} {d : D} (h : at' xs i = some d) (q : Q d) : ∃ z, oIx (.lst xs) (.int i) = some z ∧ Q z := ⟨_, h, q⟩
theorem x_ixT {xs : List D} {d : D} (h : at' xs i = some d) (q : Q d) : ∃ z, oIx (.tup xs) (.int i) = some z ∧ Q z := ⟨_, h, q⟩
theorem x_lenL {xs : List D} (q : Q (.int xs.length)) : ∃ z, fLen [.lst xs] = some z ∧ Q z := ⟨_, rfl, q⟩
theorem x_lenT {xs : List D} (q : Q (.int xs.length)) : ∃ z, fLen [.tup xs] = some z ∧ Q z := ⟨_, rfl, q⟩
theorem x_max2 (q : Q (.int (max i j))) : ∃ z, fMax [.int i, .int j] = some z ∧ Q z := ⟨_, rfl, q⟩
theorem x_min2 (q : Q (.int (min i j))) : ∃ z, fMin [.int i, .int j] = some z ∧ Q z := ⟨_, rfl, q⟩
theorem x_abs (q : Q (.int (if i < 0 then -i else i))) : ∃ z, fAbs [.int i] = some z ∧ Q z := ⟨_, rfl, q⟩
theorem x_intI (q : Q (.int i)) : ∃ z, fInt [.int i] = some z ∧ Q z := ⟨_, rfl, q⟩
theorem x_tupleL {xs : List D} (q : Q (.tup xs)) : ∃ z, fTuple [.lst xs] = some z ∧ Q z := ⟨_, rfl, q⟩
theorem x_tupleT {xs : List D} (q : Q (.tup xs)) : ∃ z, fTuple [.tup xs] = some z ∧ Q z := ⟨_, rfl, q⟩
theorem x_partL {f : List D → List D} {xs : List D} (q : Q (.lst (f xs))) : ∃ z, oPart f (.lst xs) = some z ∧ Q z := ⟨_, rfl, q⟩
theorem x_partT {f : List D → List D} {xs : List D} (q : Q (.tup (f xs))) : ∃ z, oPart f (.tup xs) = some z ∧ Q z := ⟨_, rfl, q⟩
theorem x_addL {xs ys : List D} (h : xs.length + ys.length ≤ cap) (q : Q (.lst (xs ++ ys))) : ∃ z, oAdd (.lst xs) (.lst ys) = some z ∧ Q z := ⟨_, by simp only [oAdd, h, if_true], q⟩
theorem x_addT {xs ys : List D} (h : xs.length + ys.length ≤ cap) (q : Q (.tup (xs ++ ys))) : ∃ z, oAdd (.tup xs) (.tup ys) = some z ∧ Q z := ⟨_, by simp only [oAdd, h, if_true], q⟩
theorem x_listL {Q : List D → Prop} {xs : List D} (q : Q xs) : ∃ z, fListN [.lst xs] = some z ∧ Q z := ⟨_, rfl, q⟩
theorem x_listT {Q : List D → Prop} {xs : List D} (q : Q xs) : ∃ z, fListN [.tup xs] = some z ∧ Q z := ⟨_, rfl, q⟩
theorem x_iii (q : Q (.bl true)) : ∃ z, oIsi .int (.int i) = some z ∧ Q z := ⟨_, rfl, q⟩
theorem x_ibi (q : Q (.bl false)) : ∃ z, oIsi .bool (.int i) = some z ∧ Q z := ⟨_, rfl, q⟩
theorem x_iss {s : Str} (q : Q (.bl true)) : ∃ z, oIsi .str (.str s) = some z ∧ Q z := ⟨_, rfl, q⟩
theorem x_itt {s : List D} (q : Q (.bl true)) : ∃ z, oIsi .tuple (.tup s) = some z ∧ Q z := ⟨_, rfl, q⟩
theorem x_ill {s : List D} (q : Q (.bl true)) : ∃ z, oIsi .list (.lst s) = some z ∧ Q z := ⟨_, rfl, q⟩
theorem y_lt {Q : Bool → Prop} (q : Q (decide (i < j))) : ∃ z, oLt (.int i) (.int j) = some (.bl z) ∧ Q z := ⟨_, rfl, q⟩
theorem y_le {Q : Bool → Prop} (q : Q (decide (i ≤ j))) : ∃ z, oLe (.int i) (.int j) = some (.bl z) ∧ Q z := ⟨_, rfl, q⟩
theorem y_gt {Q : Bool → Prop} (q : Q (decide (j < i))) : ∃ z, oGt (.int i) (.int j) = some (.bl z) ∧ Q z := ⟨_, rfl, q⟩
theorem y_ge {Q : Bool → Prop} (q : Q (decide (j ≤ i))) : ∃ z, oGe (.int i) (.int j) = some (.bl z) ∧ Q z := ⟨_, rfl, q⟩
theorem x_eqD {x y : D} (hx : D.ok x = true) (hy : D.ok y = true) (q : Q (.bl (D.eqv x y))) : ∃ z, oEq x y = some z ∧ Q z := ⟨_, by simp [oEq, hx, hy], q⟩
theorem x_neD {x y : D} (hx : D.ok x = true) (hy : D.ok y = true) (q : Q (.bl (!D.eqv x y))) : ∃ z, oNe x y = some z ∧ Q z := ⟨_, by simp [oNe, hx, hy], q⟩
end op
/-! ### small existentials -/
theorem e_bl {b : Bool} {P : Bool → Prop} (q : P b) : ∃ v, D.bl b = .bl v ∧ P v := ⟨_, rfl, q⟩
theorem e_int {i : Int} {P : Int → Prop} (q : P i) : ∃ v, D.int i = .int v ∧ P v := ⟨_, rfl, q⟩
theorem e_lst {xs : List D} {P : List D → Prop} (q : P xs) : ∃ v, D.lst xs = .lst v ∧ P v := ⟨_, rfl, q⟩
theorem e_tup {xs : List D} {P : List D → Prop} (q : P xs) : ∃ v, D.tup xs = .tup v ∧ P v := ⟨_, rfl, q⟩
theorem e_seqL {xs : List D} {P : List D → Prop} (q : P xs) : ∃ v, (D.lst xs = .lst v ∨ D.lst xs = .tup v) ∧ P v := ⟨_, .inl rfl, q⟩
theorem e_seqT {xs : List D} {P : List D → Prop} (q : P xs) : ∃ v, (D.tup xs = .lst v ∨ D.tup xs = .tup v) ∧ P v := ⟨_, .inr rfl, q⟩
theorem e_zipL {xs ys : List D} {P : List D → List D → Prop} (q : P xs ys) : ∃ v w, ((D.lst xs = .lst v ∧ D.lst ys = .lst w) ∨ (D.lst xs = .tup v ∧ D.lst ys = .tup w)) ∧ P v w := ⟨_, _, .inl ⟨rfl, rfl⟩, q⟩
theorem e_zipT {xs ys : List D} {P : List D → List D → Prop} (q : P xs ys) : ∃ v w, ((D.tup xs = .lst v ∧ D.tup ys = .lst w) ∨ (D.tup xs = .tup v ∧ D.tup ys = .tup w)) ∧ P v w := ⟨_, _, .inr ⟨rfl, rfl⟩, q⟩
theorem e_rng {i j : Int} {P : Int → Int → Prop} (h1 : inR i = true) (h2 : inR j = true) (q : P i j) : ∃ v w, D.int i = .int v ∧ D.int j = .int w ∧ inR v = true ∧ inR w = true ∧ P v w := ⟨_, _, rfl, rfl, h1, h2, q⟩
theorem e_ow {e : Env} {j : Nat} {s : List D} {P : List D → Prop} (h : e[j]? = some (.ow s)) (q : P s) : ∃ v, e[j]? = some (.ow v) ∧ P v := ⟨_, h, q⟩
theorem e_ix {n : Nat} {k : Int} {m : Nat} {P : Nat → Prop} (h : ix n k = some m) (q : P m) : ∃ v, ix n k = some v ∧ P v := ⟨_, h, q⟩
theorem e_cap {xs : List D} {P : Prop} (h : xs.length ≤ cap) (q : P) : xs.length ≤ cap ∧ P := ⟨h, q⟩
theorem e_set {e e2 : Env} {j : Nat} {x : Sl} {P : Env → Prop} (h : e.set j x = e2) (q : P e2) : ∃ v, e.set j x = v ∧ P v := ⟨_, h, q⟩
theorem e_setL {e e2 : Env} {j : Nat} {x : Sl} {P : Env → Prop} (h1 : decide (j < e.length) = true) (h : e.set j x = e2) (q : P e2) : ∃ v, (decide (j < e.length) = true ∧ e.set j x = v) ∧ P v := ⟨_, ⟨h1, h⟩, q⟩
theorem e_par {e e2 : Env} {i j : Nat} {x y : Sl} {P : Env → Prop} (h1 : (decide (i < e.length) && decide (j < e.length)) = true) (h : (e.set i x).set j y = e2) (q : P e2) : ∃ v, ((decide (i < e.length) && decide (j < e.length)) = true ∧ (e.set i x).set j y = v) ∧ P v := ⟨_, ⟨h1, h⟩, q⟩
theorem e_par3 {e e2 : Env} {i j l : Nat} {x y z : Sl} {P : Env → Prop} (h1 : (decide (i < e.length) && decide (j < e.length) && decide (l < e.length)) = true) (h : ((e.set i x).set j y).set l z = e2) (q : P e2) : ∃ v, ((decide (i < e.length) && decide (j < e.length) && decide (l < e.length)) = true ∧ ((e.set i x).set j y).set l z = v) ∧ P v := ⟨_, ⟨h1, h⟩, q⟩
theorem e_at {xs : List D} {i : Int} {d : D} {P : D → Prop} (h : at' xs i = some d) (q : P d) : ∃ v, at' xs i = some v ∧ P v := ⟨_, h, q⟩
theorem e_pt {e : Env} {i : Nat} {d : D} {e2 : Env} {P : Env → Prop} (h1 : decide (i < e.length) = true) (h : e.set i (.im d) = e2) (q : P e2) : ∃ v, pN i d e = some v ∧ P v := ⟨_, by simp [pN, of_decide_eq_true h1, h], q⟩
theorem e_pT {ps : List Pt} {ds : List D} {e e2 : Env} {P : Env → Prop} (h : pTs ps ds e = some e2) (q : P e2) : ∃ v, pT ps (.tup ds) e = some v ∧ P v := ⟨_, h, q⟩
theorem inR_of {i : Int} (h1 : -1000000 ≤ i) (h2 : i ≤ 1000000) : inR i = true := by
  unfold inR
  exact decide_eq_true ⟨by omega, by omega⟩
theorem run_D {n k : Nat} {m : Ms} {ds : List D} {v : D} {e : Env} (hl : ds.length = n) (he : env0 k ds = e) (w : wpS m e (fun _ => v = .non) (fun _ => False) (fun _ => False) fun r _ => r = .im v) : runD n k m ds = some v := by
  obtain ⟨f, e', h1, h2⟩ := w
  subst he
  cases f with
  | nx => simp only [runD, hl, h1, if_true]; rw [h2]
  | bk => exact h2.elim
  | ct => exact h2.elim
  | ret r => simp only [runD, hl, h1, if_true]; rw [h2]
/-- what it hands back, told by a property -/
theorem run_D' {n k : Nat} {m : Ms} {ds : List D} {e : Env} {P : D → Prop} (hl : ds.length = n) (he : env0 k ds = e) (w : wpS m e (fun _ => P .non) (fun _ => False) (fun _ => False) fun r _ => ∃ v, r = .im v ∧ P v) : ∃ v, runD n k m ds = some v ∧ P v := by
  obtain ⟨f, e', h1, h2⟩ := w
  subst he
  cases f with
  | nx => exact ⟨.non, by simp only [runD, hl, h1, if_true], h2⟩
  | bk => exact h2.elim
  | ct => exact h2.elim
  | ret r => obtain ⟨v, rfl, h3⟩ := h2; exact ⟨v, by simp only [runD, hl, h1, if_true], h3⟩
theorem run_N {n k : Nat} {m : Ms} {ds : List D} {v : List D} {e : Env} (hl : ds.length = n) (he : env0 k ds = e) (w : wpS m e (fun _ => False) (fun _ => False) (fun _ => False) fun r _ => r = .ow v) : runN n k m ds = some v := by
  obtain ⟨f, e', h1, h2⟩ := w
  subst he
  cases f with
  | nx => exact h2.elim
  | bk => exact h2.elim
  | ct => exact h2.elim
  | ret r => simp only [runN, hl, h1, if_true]; rw [h2]
/-- a def that changes its first argument: what it hands back and what the argument is then -/
theorem run_I {n k : Nat} {m : Ms} {ds s : List D} {e : Env} {P : D → List D → Prop} (hl : ds.length + 1 = n) (he : .ow s :: env0 (k - 1) ds = e) (w : wpS m e (fun e' => ∃ s', e'.head? = some (.ow s') ∧ P .non s') (fun _ => False) (fun _ => False) fun r e' => ∃ v s', r = .im v ∧ e'.head? = some (.ow s') ∧ P v s') : ∃ v s', runI n k m s ds = some (v, s') ∧ P v s' := by
  obtain ⟨f, e', h1, h2⟩ := w
  subst he
  cases f with
  | nx =>
    obtain ⟨s', h3, h4⟩ := h2
    cases e' with
    | nil => cases h3
    | cons a l => simp at h3; subst h3; exact ⟨_, _, by simp only [runI, hl, h1, if_true], h4⟩
  | bk => exact h2.elim
  | ct => exact h2.elim
  | ret r =>
    obtain ⟨v, s', rfl, h3, h4⟩ := h2
    cases e' with
    | nil => cases h3
    | cons a l => simp at h3; subst h3; exact ⟨_, _, by simp only [runI, hl, h1, if_true], h4⟩
end DL

/-! Plain data of the program: commands, schedules, levels, effects. -/
namespace DL
open PySem
structure Cm where
  ch : Bool
  am : Int
  li : Int
def Cm.nm (c : Cm) : Str := if c.ch then "charge" else "discharge"
def Cm.d (c : Cm) : D := .tup [.str c.nm, .int c.am, .int c.li]
def schL (s : List Cm) : List D := s.map Cm.d
def schD (s : List Cm) : D := .tup (schL s)
def aft (l : Int) (c : Cm) : Int := if c.ch then (if c.li ≤ l then l else min (l + c.am) c.li) else (if l ≤ c.li then l else max (l - c.am) c.li)
def fin (s : List Cm) (l : Int) : Int := s.foldl aft l
/-- the levels, the start first -/
def lvs : List Cm → Int → List Int
  | [], l => [l]
  | c :: s, l => l :: lvs s (aft l c)
def iL (xs : List Int) : List D := xs.map .int
/-- 0, 1, .., n-1 -/
def upto (n : Nat) : List Int := (List.range n).map fun i => ((i : Nat) : Int)
def eff (cap : Int) (s : List Cm) : List Int := (upto (cap + 1).toNat).map (fin s)
/-- what the program takes for a command, a schedule, a capacity -/
abbrev Cm.ok (cap : Int) (c : Cm) : Prop := 1 ≤ c.am ∧ c.am ≤ 60 ∧ 0 ≤ c.li ∧ c.li ≤ cap
abbrev Sok (cap : Int) (s : List Cm) : Prop := s.length ≤ 60 ∧ ∀ c ∈ s, c.ok cap
abbrev Cok (cap : Int) : Prop := 1 ≤ cap ∧ cap ≤ 60
abbrev Lok (cap l : Int) : Prop := 0 ≤ l ∧ l ≤ cap
theorem aft_ok {cap l : Int} {c : Cm} (hc : c.ok cap) (hl : Lok cap l) : Lok cap (aft l c) := by
  obtain ⟨h1, h2, h3, h4⟩ := hc
  obtain ⟨h5, h6⟩ := hl
  unfold aft
  split <;> split <;> omega
theorem fin_ok {cap : Int} : ∀ {s : List Cm} {l : Int}, (∀ c ∈ s, c.ok cap) → Lok cap l → Lok cap (fin s l)
  | [], _, _, h => h
  | c :: s, l, hs, h => fin_ok (s := s) (fun x hx => hs x (List.mem_cons_of_mem _ hx)) (aft_ok (hs c (List.mem_cons_self ..)) h)
theorem lvs_ne (s : List Cm) (l : Int) : lvs s l ≠ [] := by cases s <;> simp [lvs]
theorem lvs_len : ∀ (s : List Cm) (l : Int), (lvs s l).length = s.length + 1
  | [], _ => rfl
  | c :: s, l => by simp [lvs, lvs_len s]
theorem lvs_last : ∀ (s : List Cm) (l : Int), (lvs s l).getLast? = some (fin s l)
  | [], _ => rfl
  | c :: s, l => by
    have := lvs_last s (aft l c)
    simp only [lvs]
    rw [List.getLast?_cons, this]
    rfl
theorem lvs_ok {cap : Int} : ∀ {s : List Cm} {l : Int}, (∀ c ∈ s, c.ok cap) → Lok cap l → ∀ x ∈ lvs s l, Lok cap x
  | [], _, _, h, x, hx => by simp [lvs] at hx; subst hx; exact h
  | c :: s, l, hs, h, x, hx => by
    simp only [lvs, List.mem_cons] at hx
    rcases hx with rfl | hx
    · exact h
    · exact lvs_ok (s := s) (fun x hx => hs x (List.mem_cons_of_mem _ hx)) (aft_ok (hs c (List.mem_cons_self ..)) h) x hx
theorem iL_len (xs : List Int) : (iL xs).length = xs.length := by simp [iL]
theorem rng_zero (n : Int) : rng 0 n = iL (upto n.toNat) := by
  simp only [rng, iL, upto, List.map_map, Int.sub_zero]
  apply List.map_congr_left
  intro i _
  simp
theorem mem_upto {n : Nat} {x : Int} (h : x ∈ upto n) : 0 ≤ x ∧ x < n := by
  simp only [upto, List.mem_map, List.mem_range] at h
  obtain ⟨i, h1, rfl⟩ := h
  omega
theorem len_upto (n : Nat) : (upto n).length = n := by simp [upto]
theorem at_last {xs : List D} {d : D} (h : xs.getLast? = some d) : at' xs (-1) = some d := by
  cases xs with
  | nil => cases h
  | cons a l =>
    have e1 : ix (a :: l).length (-1) = some l.length := by
      unfold ix
      rw [if_neg (by decide), if_pos (by simp only [List.length_cons]; omega)]
      simp only [List.length_cons]
      congr 1
      omega
    simp only [at', e1]
    rw [List.getLast?_eq_getElem?] at h
    simpa using h
theorem at_nat {xs : List D} {i : Int} {d : D} (h0 : 0 ≤ i) (h : xs[i.toNat]? = some d) : at' xs i = some d := by
  have hl : i.toNat < xs.length := by
    rcases Nat.lt_or_ge i.toNat xs.length with h1 | h1
    · exact h1
    · rw [List.getElem?_eq_none h1] at h; cases h
  have e1 : ix xs.length i = some i.toNat := by
    unfold ix
    rw [if_pos h0, if_pos (by omega)]
  simp only [at', e1, h]
theorem getLast_iL {xs : List Int} {i : Int} (h : xs.getLast? = some i) : (iL xs).getLast? = some (.int i) := by
  simp [iL, List.getLast?_map, h]
theorem ix_nat {n : Nat} {i : Int} (h0 : 0 ≤ i) (h : i < n) : ix n i = some i.toNat := by
  unfold ix; rw [if_pos h0, if_pos h]
theorem nin_ch : oNotIn (.str "charge") (.tup [.str "charge", .str "discharge"]) = some (.bl false) := by
  simp +decide [oNotIn, D.ok, D.pl, D.plL, D.dep, D.depL, D.eqv]
theorem nin_dis : oNotIn (.str "discharge") (.tup [.str "charge", .str "discharge"]) = some (.bl false) := by
  simp +decide [oNotIn, D.ok, D.pl, D.plL, D.dep, D.depL, D.eqv]
/-! ### the source of the draws -/
/-- what a source holds after at most n draws (begun at a turn below 100) -/
def Src (n : Nat) (s : List D) : Prop := ∃ a b t : Int, s = [.int a, .int b, .int t] ∧ 0 ≤ b ∧ b < 2147483579 ∧ 0 ≤ t ∧ t ≤ 100 + n
theorem Src.mono {n m : Nat} {s : List D} (h : Src n s) (l : n ≤ m) : Src m s := by
  obtain ⟨a, b, t, h0, h1, h2, h3, h4⟩ := h
  exact ⟨a, b, t, h0, h1, h2, h3, by omega⟩
/-! ### equal plain data -/
theorem eqv_refl_iL (xs : List Int) : D.eqvL (iL xs) (iL xs) = true := by
  induction xs with
  | nil => rfl
  | cons a l ih => simp only [iL, List.map, D.eqvL, D.eqv, beq_self_eq_true, Bool.true_and]; exact ih
end DL
namespace DL
open PySem
/-! ### plain data of bounded depth -/
def Wl : Nat → D → Prop
  | _, .non => True
  | _, .bl _ => True
  | _, .int _ => True
  | _, .str _ => True
  | n + 1, .lst xs => xs.length ≤ cap ∧ ∀ x ∈ xs, Wl n x
  | n + 1, .tup xs => xs.length ≤ cap ∧ ∀ x ∈ xs, Wl n x
  | _, _ => False
theorem Wl.pls : ∀ {xs : List D}, (∀ x ∈ xs, D.pl x = true) → D.plL xs = true
  | [], _ => rfl
  | x :: xs, h => by
    simp only [D.plL, h x (List.mem_cons_self ..), Bool.true_and]
    exact Wl.pls fun y hy => h y (List.mem_cons_of_mem _ hy)
theorem Wl.deps {n : Nat} : ∀ {xs : List D}, (∀ x ∈ xs, D.dep x ≤ n) → D.depL xs ≤ n
  | [], _ => Nat.zero_le _
  | x :: xs, h => by
    simp only [D.depL]
    exact Nat.max_le.mpr ⟨h x (List.mem_cons_self ..), Wl.deps fun y hy => h y (List.mem_cons_of_mem _ hy)⟩
theorem Wl.both : ∀ {n : Nat} {d : D}, Wl n d → D.pl d = true ∧ D.dep d ≤ n
  | n, .non, _ => ⟨by simp [D.pl], by simp [D.dep]⟩
  | n, .bl _, _ => ⟨by simp [D.pl], by simp [D.dep]⟩
  | n, .int _, _ => ⟨by simp [D.pl], by simp [D.dep]⟩
  | n, .str _, _ => ⟨by simp [D.pl], by simp [D.dep]⟩
  | n + 1, .lst xs, h => by
    simp only [D.pl, D.dep]
    exact ⟨Wl.pls fun x hx => (Wl.both (h.2 x hx)).1, Nat.succ_le_succ (Wl.deps fun x hx => (Wl.both (h.2 x hx)).2)⟩
  | n + 1, .tup xs, h => by
    simp only [D.pl, D.dep]
    exact ⟨Wl.pls fun x hx => (Wl.both (h.2 x hx)).1, Nat.succ_le_succ (Wl.deps fun x hx => (Wl.both (h.2 x hx)).2)⟩
  | 0, .lst _, h => h.elim
  | 0, .tup _, h => h.elim
  | 0, .dK _ _, h => h.elim
  | 0, .dT _ _, h => h.elim
  | n + 1, .dK _ _, h => h.elim
  | n + 1, .dT _ _, h => h.elim
theorem Wl.okd {n : Nat} {d : D} (h : Wl n d) (hn : n ≤ 60) : D.ok d = true := by
  obtain ⟨h1, h2⟩ := h.both
  simp only [D.ok, h1, Bool.true_and, decide_eq_true_eq]
  omega
theorem Wl.eqvs : ∀ {xs : List D}, (∀ x ∈ xs, D.eqv x x = true) → D.eqvL xs xs = true
  | [], _ => by simp [D.eqvL]
  | x :: xs, h => by
    simp only [D.eqvL, h x (List.mem_cons_self ..), Bool.true_and]
    exact Wl.eqvs fun y hy => h y (List.mem_cons_of_mem _ hy)
theorem Wl.refl : ∀ {n : Nat} {d : D}, Wl n d → D.eqv d d = true
  | n, .non, _ => by simp [D.eqv]
  | n, .bl _, _ => by simp [D.eqv]
  | n, .int _, _ => by simp [D.eqv]
  | n, .str _, _ => by simp [D.eqv]
  | n + 1, .lst xs, h => by simp only [D.eqv]; exact Wl.eqvs fun x hx => Wl.refl (h.2 x hx)
  | n + 1, .tup xs, h => by simp only [D.eqv]; exact Wl.eqvs fun x hx => Wl.refl (h.2 x hx)
  | 0, .lst _, h => h.elim
  | 0, .tup _, h => h.elim
  | 0, .dK _ _, h => h.elim
  | 0, .dT _ _, h => h.elim
  | n + 1, .dK _ _, h => h.elim
  | n + 1, .dT _ _, h => h.elim
theorem Wl.up : ∀ {n m : Nat} {d : D}, Wl n d → n ≤ m → Wl m d
  | n, m, .non, _, _ => by cases m <;> trivial
  | n, m, .bl _, _, _ => by cases m <;> trivial
  | n, m, .int _, _, _ => by cases m <;> trivial
  | n, m, .str _, _, _ => by cases m <;> trivial
  | n + 1, m + 1, .lst xs, h, l => ⟨h.1, fun x hx => Wl.up (h.2 x hx) (Nat.le_of_succ_le_succ l)⟩
  | n + 1, m + 1, .tup xs, h, l => ⟨h.1, fun x hx => Wl.up (h.2 x hx) (Nat.le_of_succ_le_succ l)⟩
  | n + 1, 0, .lst xs, h, l => absurd l (by omega)
  | n + 1, 0, .tup xs, h, l => absurd l (by omega)
  | 0, _, .lst _, h, _ => h.elim
  | 0, _, .tup _, h, _ => h.elim
  | 0, _, .dK _ _, h, _ => h.elim
  | 0, _, .dT _ _, h, _ => h.elim
  | n + 1, _, .dK _ _, h, _ => h.elim
  | n + 1, _, .dT _ _, h, _ => h.elim
theorem Wl.ints {xs : List Int} (h : xs.length ≤ cap) : Wl 1 (.tup (iL xs)) := by
  refine ⟨by rw [iL_len]; exact h, fun x hx => ?_⟩
  simp only [iL, List.mem_map] at hx
  obtain ⟨i, _, rfl⟩ := hx
  trivial
theorem Wl.intsL {xs : List Int} (h : xs.length ≤ cap) : Wl 1 (.lst (iL xs)) := Wl.ints h
theorem mem_enumD : ∀ {i : Nat} {xs : List D} {d : D}, d ∈ enumD i xs → ∃ k x, d = .tup [.int ((i + k : Nat) : Int), x] ∧ xs[k]? = some x
  | i, [], d, h => by simp [enumD] at h
  | i, x :: xs, d, h => by
    simp only [enumD, List.mem_cons] at h
    rcases h with rfl | h
    · exact ⟨0, x, rfl, rfl⟩
    · obtain ⟨k, y, rfl, hy⟩ := mem_enumD h
      exact ⟨k + 1, y, by congr 3; omega, by simpa using hy⟩
theorem len_enumD : ∀ (i : Nat) (xs : List D), (enumD i xs).length = xs.length
  | _, [] => rfl
  | i, x :: xs => by simp [enumD, len_enumD]
theorem x_eqR {Q : D → Prop} {n : Nat} {d : D} (h : Wl n d) (hn : n ≤ 60) (q : Q (.bl true)) : ∃ z, oEq d d = some z ∧ Q z :=
  x_eqD (h.okd hn) (h.okd hn) (by rw [h.refl]; exact q)
theorem x_neR {Q : D → Prop} {n : Nat} {d : D} (h : Wl n d) (hn : n ≤ 60) (q : Q (.bl false)) : ∃ z, oNe d d = some z ∧ Q z :=
  x_neD (h.okd hn) (h.okd hn) (by rw [h.refl]; exact q)
end DL
namespace DL
open PySem
theorem cells_ints (ns : List Int) (k : Int) : ∃ ms : List Int, cut ([D.int 0] ++ iL ns) none (some k) = iL ms := by
  refine ⟨((0 :: ns).drop 0).take (six (iL ns).length.succ (iL ns).length.succ (some k)), ?_⟩
  simp [cut, iL, six]
theorem cap_lt {n : Nat} (h : n ≤ 1000000) : n ≤ cap := Nat.le_trans h (by decide)
theorem iL_cons_inv {d : D} {ds : List D} {ms : List Int} (h : d :: ds = iL ms) : ∃ i r, d = .int i ∧ ds = iL r ∧ ms = i :: r := by
  cases ms with
  | nil => simp [iL] at h
  | cons i r => simp only [iL, List.map, List.cons.injEq] at h; exact ⟨i, r, h.1, h.2, rfl⟩
end DL
namespace DL
open PySem
theorem ints_iL : ∀ xs : List Int, D.ints (iL xs) = some xs
  | [] => rfl
  | i :: r => by
    show D.ints (.int i :: iL r) = _
    simp only [D.ints, ints_iL r]
theorem x_sum {Q : D → Prop} {xs : List Int} (q : Q (.int xs.sum)) : ∃ z, fSum [.lst (iL xs)] = some z ∧ Q z := ⟨_, by simp only [fSum, ints_iL], q⟩
theorem filter_iL (tb : D → Bool) (xs : List Int) : (iL xs).filter tb = iL (xs.filter fun i => tb (.int i)) := by
  simp only [iL, List.filter_map]; rfl
theorem map_iL (g : D → D) (f : Int → Int) (h : ∀ i, g (.int i) = .int (f i)) (xs : List Int) : (iL xs).map g = iL (xs.map f) := by
  simp only [iL, List.map_map]
  apply List.map_congr_left
  intro i _
  exact h i
/-! ### what is charged and discharged -/
/-- neighbouring levels -/
def prs : List Cm → Int → List (Int × Int)
  | [], _ => []
  | c :: s, l => (l, aft l c) :: prs s (aft l c)
def pD (p : Int × Int) : D := .tup [.int p.1, .int p.2]
theorem zip_lvs : ∀ (s : List Cm) (l : Int), zipD (iL (lvs s l)) ((iL (lvs s l)).drop 1) = (prs s l).map pD
  | [], l => rfl
  | c :: s, l => by
    have ih := zip_lvs s (aft l c)
    cases s with
    | nil => rfl
    | cons c2 s => 
      simp only [lvs, iL, List.map, List.drop, zipD, prs] at ih ⊢
      rw [← ih]
      rfl
theorem len_prs : ∀ (s : List Cm) (l : Int), (prs s l).length = s.length
  | [], _ => rfl
  | c :: s, l => by simp [prs, len_prs]
def upS : List Cm → Int → Int
  | [], _ => 0
  | c :: s, l => max 0 (aft l c - l) + upS s (aft l c)
def dnS : List Cm → Int → Int
  | [], _ => 0
  | c :: s, l => max 0 (l - aft l c) + dnS s (aft l c)
theorem up_dn : ∀ (s : List Cm) (l : Int), dnS s l = upS s l + l - fin s l
  | [], l => by simp [dnS, upS, fin]
  | c :: s, l => by
    have ih := up_dn s (aft l c)
    have e : fin (c :: s) l = fin s (aft l c) := rfl
    simp only [dnS, upS, e]
    omega
theorem aft_one {l : Int} {c : Cm} (h : 0 ≤ c.am) : (aft (l + 1) c = aft l c + 1 ∧ max 0 (aft (l + 1) c - (l + 1)) = max 0 (aft l c - l) ∧ max 0 ((l + 1) - aft (l + 1) c) = max 0 (l - aft l c)) ∨
    (aft (l + 1) c = aft l c ∧ max 0 (aft (l + 1) c - (l + 1)) = max 0 (aft l c - l) - 1 ∧ max 0 ((l + 1) - aft (l + 1) c) = max 0 (l - aft l c)) ∨
    (aft (l + 1) c = aft l c ∧ max 0 (aft (l + 1) c - (l + 1)) = max 0 (aft l c - l) ∧ max 0 ((l + 1) - aft (l + 1) c) = max 0 (l - aft l c) + 1) := by
  obtain ⟨ch, a, m⟩ := c
  simp only at h
  cases ch
  · simp only [aft, if_neg Bool.false_ne_true]
    split <;> split <;> omega
  · simp only [aft, if_true]
    split <;> split <;> omega
theorem tot_one : ∀ {s : List Cm} {l : Int}, (∀ c ∈ s, 0 ≤ c.am) →
    (upS s (l + 1) = upS s l ∧ dnS s (l + 1) = dnS s l ∧ fin s (l + 1) = fin s l + 1) ∨
    (upS s (l + 1) = upS s l - 1 ∧ dnS s (l + 1) = dnS s l ∧ fin s (l + 1) = fin s l) ∨
    (upS s (l + 1) = upS s l ∧ dnS s (l + 1) = dnS s l + 1 ∧ fin s (l + 1) = fin s l)
  | [], l, _ => by simp [upS, dnS, fin]
  | c :: s, l, h => by
    have ih := tot_one (s := s) (l := aft l c) fun x hx => h x (List.mem_cons_of_mem _ hx)
    have e : ∀ z, fin (c :: s) z = fin s (aft z c) := fun _ => rfl
    simp only [dnS, upS, e]
    rcases aft_one (l := l) (h c (List.mem_cons_self ..)) with ⟨h1, h2, h3⟩ | ⟨h1, h2, h3⟩ | ⟨h1, h2, h3⟩
    · rw [h2, h3, h1]; omega
    · rw [h2, h3, h1]; omega
    · rw [h2, h3, h1]; omega
theorem sum_up : ∀ (s : List Cm) (l : Int), ((prs s l).map fun p => max 0 (p.2 - p.1)).sum = upS s l
  | [], _ => rfl
  | c :: s, l => by simp only [prs, List.map, List.sum_cons, upS, sum_up s]
theorem sum_pos : ∀ (s : List Cm) (l : Int), (((prs s l).map fun p => p.2 - p.1).filter fun i => decide (0 < i)).sum = upS s l
  | [], _ => rfl
  | c :: s, l => by
    simp only [prs, List.map, upS, List.filter]
    by_cases h : 0 < aft l c - l
    · simp only [h, decide_true, List.sum_cons, sum_pos s]; omega
    · simp only [h, decide_false, sum_pos s]; omega
theorem sum_neg : ∀ (s : List Cm) (l : Int), - (((prs s l).map fun p => p.2 - p.1).filter fun i => decide (i < 0)).sum = dnS s l
  | [], _ => rfl
  | c :: s, l => by
    have ih := sum_neg s (aft l c)
    simp only [prs, List.map, dnS, List.filter]
    by_cases h : aft l c - l < 0
    · simp only [h, decide_true, List.sum_cons]; omega
    · simp only [h, decide_false]; omega
end DL
namespace DL
open PySem
theorem eqvL_iL : ∀ a b : List Int, D.eqvL (iL a) (iL b) = decide (a = b)
  | [], [] => by simp [iL, D.eqvL]
  | [], _ :: _ => by simp [iL, D.eqvL]
  | _ :: _, [] => by simp [iL, D.eqvL]
  | x :: a, y :: b => by
    have ih := eqvL_iL a b
    simp only [iL, List.map] at ih ⊢
    simp only [D.eqvL, D.eqv, ih, List.cons.injEq]
    by_cases h : x = y <;> simp [h]
theorem okL {xs : List Int} (h : xs.length ≤ cap) : D.ok (.lst (iL xs)) = true := (Wl.intsL h).okd (by omega)
theorem okT {xs : List Int} (h : xs.length ≤ cap) : D.ok (.tup (iL xs)) = true := (Wl.ints h).okd (by omega)
theorem x_neL {Q : D → Prop} {a b : List Int} (ha : a.length ≤ cap) (hb : b.length ≤ cap) (q : Q (.bl (!decide (a = b)))) : ∃ z, oNe (.lst (iL a)) (.lst (iL b)) = some z ∧ Q z :=
  x_neD (okL ha) (okL hb) (by simp only [D.eqv, eqvL_iL]; exact q)
theorem x_eqL {Q : D → Prop} {a b : List Int} (ha : a.length ≤ cap) (hb : b.length ≤ cap) (q : Q (.bl (decide (a = b)))) : ∃ z, oEq (.lst (iL a)) (.lst (iL b)) = some z ∧ Q z :=
  x_eqD (okL ha) (okL hb) (by simp only [D.eqv, eqvL_iL]; exact q)
theorem x_neT {Q : D → Prop} {a b : List Int} (ha : a.length ≤ cap) (hb : b.length ≤ cap) (q : Q (.bl (!decide (a = b)))) : ∃ z, oNe (.tup (iL a)) (.tup (iL b)) = some z ∧ Q z :=
  x_neD (okT ha) (okT hb) (by simp only [D.eqv, eqvL_iL]; exact q)
theorem x_eqT {Q : D → Prop} {a b : List Int} (ha : a.length ≤ cap) (hb : b.length ≤ cap) (q : Q (.bl (decide (a = b)))) : ∃ z, oEq (.tup (iL a)) (.tup (iL b)) = some z ∧ Q z :=
  x_eqD (okT ha) (okT hb) (by simp only [D.eqv, eqvL_iL]; exact q)
def bL (bs : List Bool) : List D := bs.map .bl
theorem bls_bL : ∀ bs : List Bool, D.bls (bL bs) = some bs
  | [] => rfl
  | b :: r => by
    show D.bls (.bl b :: bL r) = _
    simp only [D.bls, bls_bL r]
theorem x_all {Q : D → Prop} {bs : List Bool} (q : Q (.bl (bs.all id))) : ∃ z, fAll [.lst (bL bs)] = some z ∧ Q z := ⟨_, by simp only [fAll, bls_bL], q⟩
theorem x_any {Q : D → Prop} {bs : List Bool} (q : Q (.bl (bs.any id))) : ∃ z, fAny [.lst (bL bs)] = some z ∧ Q z := ⟨_, by simp only [fAny, bls_bL], q⟩
/-! ### sightings: (place, level) -/
def siD (fs : List (Int × Int)) : D := .tup (fs.map pD)
/-- the level at a place, the start at place 0 -/
def rowAt (s : List Cm) (l : Int) (i : Int) : Int := (lvs s l)[i.toNat]?.getD 0
abbrev Fok (cap : Int) (s : List Cm) (fs : List (Int × Int)) : Prop := 1 ≤ fs.length ∧ fs.length ≤ 20 ∧ ∀ p ∈ fs, 0 ≤ p.1 ∧ p.1 ≤ s.length ∧ 0 ≤ p.2 ∧ p.2 ≤ cap
theorem row_at {s : List Cm} {l i : Int} (h0 : 0 ≤ i) (h1 : i ≤ s.length) : at' (iL (lvs s l)) i = some (.int (rowAt s l i)) := by
  have hl : i.toNat < (lvs s l).length := by rw [lvs_len]; omega
  refine at_nat h0 ?_
  simp only [iL, List.getElem?_map, rowAt, List.getElem?_eq_getElem hl, Option.map_some, Option.getD_some]
def kp (s : List Cm) (fs : List (Int × Int)) (l : Int) : Bool := fs.all fun p => decide (p.2 ≤ rowAt s l p.1)
theorem aft_mono {l m : Int} {c : Cm} (h : 0 ≤ c.am) (hlm : l ≤ m) : aft l c ≤ aft m c := by
  obtain ⟨ch, a, k⟩ := c
  simp only at h
  cases ch
  · simp only [aft, if_neg Bool.false_ne_true]
    split <;> split <;> omega
  · simp only [aft, if_true]
    split <;> split <;> omega
theorem lvs_mono : ∀ {s : List Cm} {l m : Int}, (∀ c ∈ s, 0 ≤ c.am) → l ≤ m → ∀ i : Nat, (lvs s l)[i]?.getD 0 ≤ (lvs s m)[i]?.getD 0
  | [], l, m, _, h, 0 => by simpa [lvs] using h
  | [], l, m, _, h, i + 1 => by simp [lvs]
  | c :: s, l, m, _, h, 0 => by simpa [lvs] using h
  | c :: s, l, m, hs, h, i + 1 => by
    simp only [lvs, List.getElem?_cons_succ]
    exact lvs_mono (fun x hx => hs x (List.mem_cons_of_mem _ hx)) (aft_mono (hs c (List.mem_cons_self ..)) h) i
theorem fin_mono : ∀ {s : List Cm} {l m : Int}, (∀ c ∈ s, 0 ≤ c.am) → l ≤ m → fin s l ≤ fin s m
  | [], l, m, _, h => h
  | c :: s, l, m, hs, h => fin_mono (s := s) (fun x hx => hs x (List.mem_cons_of_mem _ hx)) (aft_mono (hs c (List.mem_cons_self ..)) h)
theorem kp_mono {s : List Cm} {fs : List (Int × Int)} {l m : Int} (hs : ∀ c ∈ s, 0 ≤ c.am) (h : l ≤ m) (k : kp s fs l = true) : kp s fs m = true := by
  simp only [kp, List.all_eq_true, decide_eq_true_eq] at k ⊢
  intro p hp
  exact Int.le_trans (k p hp) (lvs_mono hs h _)
/-- of an upward closed test: what is left of 0..n-1 is a whole end -/
theorem filter_up {n : Nat} (t : Int → Bool) (h : ∀ i j : Int, i ≤ j → t i = true → t j = true) {a : Int} {r : List Int} (e : (upto n).filter t = a :: r) :
    iL (a :: r) = rng a n ∧ 0 ≤ a ∧ a < n := by
  have key : ∀ (k i : Nat), ((List.range' i k).map fun j : Nat => (j : Int)).filter t = [] ∨ ∃ b : Nat, i ≤ b ∧ b < i + k ∧ ((List.range' i k).map fun j : Nat => (j : Int)).filter t = (List.range' b (i + k - b)).map fun j : Nat => (j : Int) := by
    intro k
    induction k with
    | zero => intro i; left; rfl
    | succ k ih =>
      intro i
      simp only [List.range'_succ, List.map_cons]
      by_cases ht : t (i : Int) = true
      · right
        refine ⟨i, Nat.le_refl _, by omega, ?_⟩
        rw [List.filter_cons_of_pos ht, List.filter_eq_self.mpr]
        · rw [show i + (k + 1) - i = k + 1 by omega, List.range'_succ, List.map_cons]
        · intro x hx
          simp only [List.mem_map, List.mem_range'_1] at hx
          obtain ⟨j, hj, rfl⟩ := hx
          exact h _ _ (by omega) ht
      · rw [List.filter_cons_of_neg ht]
        rcases ih (i + 1) with h1 | ⟨b, h1, h2, h3⟩
        · left; exact h1
        · right; exact ⟨b, by omega, by omega, by rw [h3]; congr 2; omega⟩
  have h0 := key n 0
  simp only [upto, List.range_eq_range'] at e
  rcases h0 with h0 | ⟨b, h1, h2, h3⟩
  · rw [h0] at e; cases e
  · rw [h3] at e
    have hb : 0 + n - b = (n - b - 1) + 1 := by omega
    have e' := e
    rw [hb, List.range'_succ, List.map_cons, List.cons.injEq] at e'
    obtain ⟨rfl, _⟩ := e'
    refine ⟨?_, by omega, by omega⟩
    rw [← e]
    simp only [iL, rng, List.map_map]
    rw [show ((n : Int) - (b : Int)).toNat = 0 + n - b by omega, List.range'_eq_map_range, List.map_map]
    apply List.map_congr_left
    intro j _
    simp
end DL
namespace DL
open PySem
theorem filter_iL' (tb : D → Bool) (t : Int → Bool) (h : ∀ i, tb (.int i) = t i) (xs : List Int) : (iL xs).filter tb = iL (xs.filter t) := by
  rw [filter_iL]
  congr 2
  funext i
  exact h i
end DL
namespace DL
open PySem
theorem x_lenSch {Q : D → Prop} {s : List Cm} (q : Q (.int s.length)) : ∃ z, fLen [schD s] = some z ∧ Q z := ⟨_, rfl, by simpa [schL] using q⟩
theorem x_lenSi {Q : D → Prop} {s : List (Int × Int)} (q : Q (.int s.length)) : ∃ z, fLen [siD s] = some z ∧ Q z := ⟨_, rfl, by simpa using q⟩
theorem e_seqSch {s : List Cm} {P : List D → Prop} (q : P (schL s)) : ∃ v, (schD s = .lst v ∨ schD s = .tup v) ∧ P v := ⟨_, .inr rfl, q⟩
theorem e_seqSi {s : List (Int × Int)} {P : List D → Prop} (q : P (s.map pD)) : ∃ v, (siD s = .lst v ∨ siD s = .tup v) ∧ P v := ⟨_, .inr rfl, q⟩
end DL
namespace DL
open PySem
/-- the sightings hold for the start l -/
def mt (s : List Cm) (fs : List (Int × Int)) (l : Int) : Bool := fs.all fun p => decide (rowAt s l p.1 = p.2)
/-- the least and the largest of an ordered list -/
def rangeD (xs : List Int) : D := match xs with
  | [] => .non
  | a :: r => .tup [.int a, .int ((a :: r).getLast?.getD 0)]
theorem rangeD_wl (xs : List Int) : Wl 1 (rangeD xs) := by
  unfold rangeD
  split
  · trivial
  · exact Wl.ints (xs := [_, _]) (cap_lt (by simp))
theorem getLast_cons (a : Int) (r : List Int) : (a :: r).getLast? = some ((a :: r).getLast?.getD 0) := by
  rw [List.getLast?_eq_some_getLast (l := a :: r) (by simp)]
  rfl
/-- of a test that holds between any two at which it holds: what is left of lo..lo+n-1 has no gap -/
theorem filter_mid {lo : Int} {n : Nat} (t : Int → Bool) (h : ∀ i j k : Int, lo ≤ i → i ≤ j → j ≤ k → k < lo + n → t i = true → t k = true → t j = true) {a : Int} {r : List Int}
    (e : ((upto n).map fun i => lo + i).filter t = a :: r) :
    iL (a :: r) = rng a ((a :: r).getLast?.getD 0 + 1) ∧ lo ≤ a ∧ a ≤ (a :: r).getLast?.getD 0 ∧ (a :: r).getLast?.getD 0 < lo + n := by
  have key : ∀ (k i : Nat), i + k ≤ n → ((List.range' i k).map fun j : Nat => lo + (j : Int)).filter t = [] ∨
      ∃ b m : Nat, i ≤ b ∧ b + (m + 1) ≤ i + k ∧ ((List.range' i k).map fun j : Nat => lo + (j : Int)).filter t = (List.range' b (m + 1)).map fun j : Nat => lo + (j : Int) := by
    intro k
    induction k with
    | zero => intro i _; left; rfl
    | succ k ih =>
      intro i hi
      simp only [List.range'_succ, List.map_cons]
      by_cases ht : t (lo + (i : Int)) = true
      · right
        rw [List.filter_cons_of_pos ht]
        rcases ih (i + 1) (by omega) with h1 | ⟨b, m, h1, h2, h3⟩
        · exact ⟨i, 0, Nat.le_refl _, by omega, by rw [h1]; simp⟩
        · have hb : t (lo + ((b + m : Nat) : Int)) = true := by
            have hmem : lo + ((b + m : Nat) : Int) ∈ ((List.range' (i + 1) k).map fun j : Nat => lo + (j : Int)).filter t := by
              rw [h3]
              exact List.mem_map.mpr ⟨b + m, by rw [List.mem_range'_1]; omega, rfl⟩
            exact (List.mem_filter.mp hmem).2
          have hall : ∀ x ∈ (List.range' (i + 1) (b + m - i)).map (fun j : Nat => lo + (j : Int)), t x = true := by
            intro x hx
            simp only [List.mem_map, List.mem_range'_1] at hx
            obtain ⟨j, hj, rfl⟩ := hx
            exact h (lo + (i : Int)) _ (lo + ((b + m : Nat) : Int)) (by omega) (by omega) (by omega) (by omega) ht hb
          -- so everything from i to b+m is kept
          have hib : b = i + 1 := by
            rcases Nat.lt_or_ge (i + 1) b with hlt | hge
            · have hmem : lo + ((i + 1 : Nat) : Int) ∈ ((List.range' (i + 1) k).map fun j : Nat => lo + (j : Int)).filter t := by
                refine List.mem_filter.mpr ⟨List.mem_map.mpr ⟨i + 1, by rw [List.mem_range'_1]; omega, rfl⟩, ?_⟩
                exact h (lo + (i : Int)) _ (lo + ((b + m : Nat) : Int)) (by omega) (by omega) (by omega) (by omega) ht hb
              rw [h3] at hmem
              simp only [List.mem_map, List.mem_range'_1] at hmem
              obtain ⟨j, hj, hj2⟩ := hmem
              omega
            · omega
          subst hib
          refine ⟨i, m + 1, Nat.le_refl _, by omega, ?_⟩
          rw [h3]; try rfl
      · rw [List.filter_cons_of_neg ht]
        rcases ih (i + 1) (by omega) with h1 | ⟨b, m, h1, h2, h3⟩
        · left; exact h1
        · right; exact ⟨b, m, by omega, by omega, h3⟩
  have h0 := key n 0 (by omega)
  simp only [upto, List.range_eq_range', List.map_map] at e
  have e1 : ((fun i => lo + i) ∘ fun i : Nat => ((i : Nat) : Int)) = fun j : Nat => lo + (j : Int) := rfl
  rw [e1] at e
  rcases h0 with h0 | ⟨b, m, h1, h2, h3⟩
  · rw [h0] at e; cases e
  · rw [h3] at e
    have hl : (a :: r).getLast? = some (lo + ((b + m : Nat) : Int)) := by
      rw [← e, List.getLast?_map, List.getLast?_eq_getElem?, List.length_range', List.getElem?_range' (by omega)]
      simp
    have ha : a = lo + (b : Int) := by
      have e' := e
      rw [List.range'_succ, List.map_cons, List.cons.injEq] at e'
      exact e'.1.symm
    rw [hl]
    simp only [Option.getD_some]
    refine ⟨?_, by omega, by omega, by omega⟩
    rw [← e]
    simp only [iL, rng, List.map_map]
    rw [show (lo + ((b + m : Nat) : Int) + 1 - a).toNat = m + 1 by omega, List.range'_eq_map_range, List.map_map]
    apply List.map_congr_left
    intro j _
    simp only [Function.comp, ha]
    congr 1
    omega
theorem upto_zero (n : Nat) : (upto n).map (fun i => (0 : Int) + i) = upto n := by
  have : (fun i => (0 : Int) + i) = id := by funext i; simp
  rw [this, List.map_id]
/-- a test of whole rows at neighbours between two -/
theorem mt_mid {s : List Cm} {fs : List (Int × Int)} {i j k : Int} (hs : ∀ c ∈ s, 0 ≤ c.am) (h1 : i ≤ j) (h2 : j ≤ k) (a : mt s fs i = true) (b : mt s fs k = true) : mt s fs j = true := by
  simp only [mt, List.all_eq_true, decide_eq_true_eq] at a b ⊢
  intro p hp
  have e1 := a p hp
  have e2 := b p hp
  have m1 : rowAt s i p.1 ≤ rowAt s j p.1 := lvs_mono hs h1 _
  have m2 : rowAt s j p.1 ≤ rowAt s k p.1 := lvs_mono hs h2 _
  omega
end DL
namespace DL
open PySem
theorem rng_from (lo : Int) (n : Nat) : rng lo (lo + n) = iL ((upto n).map fun i => lo + i) := by
  simp only [rng, iL, upto, List.map_map]
  rw [show (lo + (n : Int) - lo).toNat = n by omega]
  rfl
theorem cut_to {xs : List D} {i : Int} (h0 : 0 ≤ i) (h1 : i ≤ xs.length) : cut xs none (some i) = xs.take i.toNat := by
  simp only [cut, six, List.drop_zero, Nat.sub_zero]
  rw [if_neg (by omega), show min i.toNat xs.length = i.toNat by omega]
theorem cut_from {xs : List D} {i : Int} (h0 : 0 ≤ i) (h1 : i ≤ xs.length) : cut xs (some i) none = xs.drop i.toNat := by
  simp only [cut, six]
  rw [if_neg (by omega), show min i.toNat xs.length = i.toNat by omega, List.take_of_length_le (by rw [List.length_drop]; omega)]
/-- the schedule with another command at place i -/
def withC (s : List Cm) (i : Nat) (c : Cm) : List Cm := s.take i ++ [c] ++ s.drop (i + 1)
theorem withC_len {s : List Cm} {i : Nat} (c : Cm) (h : i < s.length) : (withC s i c).length = s.length := by
  simp only [withC, List.length_append, List.length_take, List.length_drop, List.length_cons, List.length_nil]
  omega
theorem withC_with {s : List Cm} {i : Nat} (c c' : Cm) (h : i < s.length) : withC (withC s i c') i c = withC s i c := by
  have e1 : (s.take i).length = i := by rw [List.length_take]; omega
  have e2 : (withC s i c').take i = s.take i := by
    unfold withC
    rw [List.append_assoc, List.take_append_of_le_length (by omega), List.take_of_length_le (by omega)]
  have e3 : (withC s i c').drop (i + 1) = s.drop (i + 1) := by
    have e4 : (s.take i ++ [c']).length = i + 1 := by simp [e1]
    unfold withC
    rw [← e4, List.drop_left]
  show (withC s i c').take i ++ [c] ++ (withC s i c').drop (i + 1) = _
  rw [e2, e3]
  rfl
theorem withC_get {s : List Cm} {i : Nat} (c : Cm) (h : i < s.length) : (withC s i c)[i]? = some c := by
  have e1 : (s.take i).length = i := by rw [List.length_take]; omega
  unfold withC
  rw [List.append_assoc, List.getElem?_append_right (by omega), e1]
  simp
theorem withC_mem {s : List Cm} {i : Nat} {c x : Cm} (h : x ∈ withC s i c) : x = c ∨ x ∈ s := by
  unfold withC at h
  rcases List.mem_append.mp h with h | h
  · rcases List.mem_append.mp h with h | h
    · exact .inr (List.mem_of_mem_take h)
    · exact .inl (by simpa using h)
  · exact .inr (List.mem_of_mem_drop h)
theorem withC_ok {cap : Int} {s : List Cm} {i : Nat} {c : Cm} (h : i < s.length) (hs : Sok cap s) (hc : c.ok cap) : Sok cap (withC s i c) :=
  ⟨by rw [withC_len c h]; exact hs.1, fun x hx => by rcases withC_mem hx with rfl | hx; exact hc; exact hs.2 x hx⟩
theorem withC_D (s : List Cm) (i : Nat) (c : Cm) : schL (withC s i c) = (schL s).take i ++ [c.d] ++ (schL s).drop (i + 1) := by
  simp [schL, withC, List.map_take, List.map_drop]
theorem lvs_app : ∀ (p : List Cm) (q : List Cm) (l : Int), lvs (p ++ q) l = (lvs p l).dropLast ++ lvs q (fin p l)
  | [], q, l => by simp [lvs, fin]
  | c :: p, q, l => by
    have ih := lvs_app p q (aft l c)
    simp only [List.cons_append, lvs, ih]
    rw [List.dropLast_cons_of_ne_nil (lvs_ne _ _), List.cons_append]
    rfl
/-- rows that rise with one command -/
theorem row_with_mono {s : List Cm} {i : Nat} {c c' : Cm} {l : Int} (hs : ∀ x ∈ s, 0 ≤ x.am) (h : ∀ z, aft z c ≤ aft z c') (p : Int) : rowAt (withC s i c) l p ≤ rowAt (withC s i c') l p := by
  unfold rowAt withC
  have e : ∀ k : Cm, lvs (s.take i ++ [k] ++ s.drop (i + 1)) l = (lvs (s.take i) l).dropLast ++ fin (s.take i) l :: lvs (s.drop (i + 1)) (aft (fin (s.take i) l) k) := fun k => by
    rw [List.append_assoc, lvs_app]; rfl
  rw [e, e]
  have hd : ∀ x ∈ s.drop (i + 1), 0 ≤ x.am := fun x hx => hs x (List.mem_of_mem_drop hx)
  generalize (lvs (s.take i) l).dropLast = u
  generalize fin (s.take i) l = z
  generalize s.drop (i + 1) = q at hd ⊢
  have hm := lvs_mono hd (h z)
  rcases Nat.lt_or_ge p.toNat u.length with h1 | h1
  · rw [List.getElem?_append_left h1, List.getElem?_append_left h1]
    exact Int.le_refl _
  · rw [List.getElem?_append_right h1, List.getElem?_append_right h1]
    cases hk : p.toNat - u.length with
    | zero => simp
    | succ k =>
      simp only [List.getElem?_cons_succ]
      exact hm k
theorem mt_between {s s1 s2 : List Cm} {fs : List (Int × Int)} {l : Int} (h1 : ∀ p, rowAt s1 l p ≤ rowAt s l p) (h2 : ∀ p, rowAt s l p ≤ rowAt s2 l p) (a : mt s1 fs l = true) (b : mt s2 fs l = true) : mt s fs l = true := by
  simp only [mt, List.all_eq_true, decide_eq_true_eq] at a b ⊢
  intro p hp
  have e1 := a p hp
  have e2 := b p hp
  have m1 := h1 p.1
  have m2 := h2 p.1
  omega
/-- amounts: what holds at two holds between them -/
theorem amount_mid {s : List Cm} {i : Nat} {ch : Bool} {li l : Int} {fs : List (Int × Int)} (hs : ∀ x ∈ s, 0 ≤ x.am) {a b c : Int} (h1 : a ≤ b) (h2 : b ≤ c)
    (ha : mt (withC s i ⟨ch, a, li⟩) fs l = true) (hc : mt (withC s i ⟨ch, c, li⟩) fs l = true) : mt (withC s i ⟨ch, b, li⟩) fs l = true := by
  cases ch with
  | true =>
    have up : ∀ x y : Int, x ≤ y → ∀ z, aft z ⟨true, x, li⟩ ≤ aft z ⟨true, y, li⟩ := by
      intro x y h z
      simp only [aft, if_true]
      split <;> omega
    exact mt_between (row_with_mono hs (up a b h1)) (row_with_mono hs (up b c h2)) ha hc
  | false =>
    have dn : ∀ x y : Int, x ≤ y → ∀ z, aft z ⟨false, y, li⟩ ≤ aft z ⟨false, x, li⟩ := by
      intro x y h z
      simp only [aft, if_neg Bool.false_ne_true]
      split <;> omega
    exact mt_between (row_with_mono hs (dn b c h2)) (row_with_mono hs (dn a b h1)) hc ha
theorem limit_mid {s : List Cm} {i : Nat} {ch : Bool} {am l : Int} {fs : List (Int × Int)} (ham : 0 ≤ am) (hs : ∀ x ∈ s, 0 ≤ x.am) {a b c : Int} (h1 : a ≤ b) (h2 : b ≤ c)
    (ha : mt (withC s i ⟨ch, am, a⟩) fs l = true) (hc : mt (withC s i ⟨ch, am, c⟩) fs l = true) : mt (withC s i ⟨ch, am, b⟩) fs l = true := by
  have up : ∀ x y : Int, x ≤ y → ∀ z, aft z ⟨ch, am, x⟩ ≤ aft z ⟨ch, am, y⟩ := by
    intro x y h z
    cases ch with
    | true =>
      simp only [aft, if_true]
      split <;> split <;> omega
    | false =>
      simp only [aft, if_neg Bool.false_ne_true]
      split <;> split <;> omega
  exact mt_between (row_with_mono hs (up a b h1)) (row_with_mono hs (up b c h2)) ha hc
end DL
namespace DL
open PySem
theorem cut_one (xs : List D) : cut xs (some 1) none = xs.drop 1 := by
  cases xs with
  | nil => rfl
  | cons a l =>
    simp only [cut, six, List.length_cons]
    rw [if_neg (by decide), show min (1 : Int).toNat (l.length + 1) = 1 by simp]
    simp
end DL

/-! Effects: whole maps of the levels. -/
namespace DL
open PySem
def mapL (c : Int) (g : Int → Int) : List Int := (upto (c + 1).toNat).map g
def mapD (c : Int) (g : Int → Int) : D := .tup (iL (mapL c g))
structure Eg (c : Int) (g : Int → Int) : Prop where
  inr : ∀ x, 0 ≤ x → x ≤ c → 0 ≤ g x ∧ g x ≤ c
  stp : ∀ x, 0 ≤ x → x < c → g (x + 1) = g x ∨ g (x + 1) = g x + 1
theorem mapL_len (c : Int) (g : Int → Int) : (mapL c g).length = (c + 1).toNat := by simp [mapL, len_upto]
theorem mapL_congr {c : Int} {g h : Int → Int} (e : ∀ x, 0 ≤ x → x ≤ c → g x = h x) : mapL c g = mapL c h := by
  apply List.map_congr_left
  intro x hx
  have := mem_upto hx
  exact e x this.1 (by omega)
theorem mapD_congr {c : Int} {g h : Int → Int} (e : ∀ x, 0 ≤ x → x ≤ c → g x = h x) : mapD c g = mapD c h := by
  rw [mapD, mapL_congr e]; rfl
theorem mapD_wl {c : Int} (h : c ≤ 1000) (g : Int → Int) : Wl 1 (mapD c g) := Wl.ints (by rw [mapL_len]; exact cap_lt (by omega))
theorem eff_map (c : Int) (s : List Cm) : D.tup (iL (eff c s)) = mapD c (fin s) := rfl
theorem Eg.fin {c : Int} {s : List Cm} (hs : ∀ x ∈ s, x.ok c) : Eg c (fin s) where
  inr x h0 h1 := fin_ok hs ⟨h0, h1⟩
  stp x h0 h1 := by
    have := tot_one (s := s) (l := x) fun y hy => by have := (hs y hy).1; omega
    omega
theorem Eg.id (c : Int) : Eg c fun x => x := ⟨fun x h0 h1 => ⟨h0, h1⟩, fun x _ _ => .inr rfl⟩
theorem Eg.comp {c : Int} {g h : Int → Int} (hg : Eg c g) (hh : Eg c h) : Eg c fun x => h (g x) where
  inr x h0 h1 := hh.inr _ (hg.inr x h0 h1).1 (hg.inr x h0 h1).2
  stp x h0 h1 := by
    rcases hg.stp x h0 h1 with e | e
    · left; show h (g (x + 1)) = h (g x); rw [e]
    · show h (g (x + 1)) = h (g x) ∨ h (g (x + 1)) = h (g x) + 1
      rw [e]
      have a := hg.inr x h0 (by omega)
      have b := hg.inr (x + 1) (by omega) (by omega)
      exact hh.stp (g x) a.1 (by omega)
theorem Eg.congr {c : Int} {g h : Int → Int} (hg : Eg c g) (e : ∀ x, 0 ≤ x → x ≤ c → g x = h x) : Eg c h where
  inr x h0 h1 := by rw [← e x h0 h1]; exact hg.inr x h0 h1
  stp x h0 h1 := by rw [← e x h0 (by omega), ← e (x + 1) (by omega) (by omega)]; exact hg.stp x h0 h1
theorem Eg.mono {c : Int} {g : Int → Int} (hg : Eg c g) : ∀ (n : Nat) (x : Int), 0 ≤ x → x + n ≤ c → g x ≤ g (x + n)
  | 0, x, _, _ => by simp
  | n + 1, x, h0, h1 => by
    have ih := hg.mono n x h0 (by omega)
    have := hg.stp (x + n) (by omega) (by omega)
    rw [show x + ((n + 1 : Nat) : Int) = x + n + 1 by omega]
    omega
theorem Eg.le {c : Int} {g : Int → Int} (hg : Eg c g) {x y : Int} (h0 : 0 ≤ x) (h : x ≤ y) (h1 : y ≤ c) : g x ≤ g y := by
  have := hg.mono (y - x).toNat x h0 (by omega)
  rwa [show x + ((y - x).toNat : Int) = y by omega] at this
theorem map_at {c : Int} (g : Int → Int) {x : Int} (h0 : 0 ≤ x) (h1 : x ≤ c) : at' (iL (mapL c g)) x = some (.int (g x)) := by
  refine at_nat h0 ?_
  have hl : x.toNat < (c + 1).toNat := by omega
  simp only [iL, mapL, upto, List.map_map, List.getElem?_map, List.getElem?_range hl, Option.map_some, Function.comp]
  rw [show ((x.toNat : Nat) : Int) = x by omega]
/-- neighbours of a list -/
theorem zip_upto (g : Int → Int) (n : Nat) : zipD (iL ((upto n).map g)) ((iL ((upto n).map g)).drop 1) = (upto (n - 1)).map fun x => .tup [.int (g x), .int (g (x + 1))] := by
  have key : ∀ (k i : Nat), zipD ((List.range' i (k + 1)).map fun j : Nat => D.int (g (j : Int))) ((List.range' (i + 1) k).map fun j : Nat => D.int (g (j : Int))) = (List.range' i k).map fun j : Nat => .tup [.int (g (j : Int)), .int (g ((j : Int) + 1))] := by
    intro k
    induction k with
    | zero => intro i; rfl
    | succ k ih =>
      intro i
      have h := ih (i + 1)
      simp only [List.range'_succ, List.map_cons, zipD] at h ⊢
      rw [h]
      congr 1
  cases n with
  | zero => rfl
  | succ n =>
    have h := key n 0
    simp only [iL, upto, List.range_eq_range', List.map_map, Nat.add_sub_cancel]
    rw [← List.map_drop, List.drop_range']
    exact h
/-! ### many times -/
def itr (g : Int → Int) : Nat → Int → Int
  | 0, x => x
  | n + 1, x => g (itr g n x)
theorem itr_add (g : Int → Int) (a b : Nat) (x : Int) : itr g (a + b) x = itr g a (itr g b x) := by
  induction a with
  | zero => rw [Nat.zero_add]; rfl
  | succ a ih => rw [Nat.succ_add]; show g (itr g (a + b) x) = g (itr g a (itr g b x)); rw [ih]
theorem Eg.itr {c : Int} {g : Int → Int} (hg : Eg c g) : ∀ n, Eg c (itr g n)
  | 0 => Eg.id c
  | n + 1 => (hg.itr n).comp hg
theorem itr_stay {g : Int → Int} {k : Nat} {x : Int} (h : itr g (k + 1) x = itr g k x) : ∀ n, k ≤ n → itr g n x = itr g k x := by
  intro n hn
  induction n with
  | zero => rw [show k = 0 by omega]
  | succ n ih =>
    by_cases e : k = n + 1
    · rw [e]
    · show g (itr g n x) = itr g k x
      rw [ih (by omega)]
      exact h
theorem Eg.settles {c : Int} {g : Int → Int} (hg : Eg c g) {x : Int} (h0 : 0 ≤ x) (h1 : x ≤ c) : ∃ k, k ≤ c.toNat ∧ DL.itr g (k + 1) x = DL.itr g k x := by
  have hin : ∀ n, 0 ≤ DL.itr g n x ∧ DL.itr g n x ≤ c := fun n => (hg.itr n).inr x h0 h1
  rcases Int.le_total x (g x) with hx | hx
  · have up : ∀ n, DL.itr g n x ≤ DL.itr g (n + 1) x := by
      intro n
      induction n with
      | zero => exact hx
      | succ n ih => exact hg.le (hin n).1 ih (hin (n + 1)).2
    have key : ∀ n, (∃ k, k < n ∧ DL.itr g (k + 1) x = DL.itr g k x) ∨ x + n ≤ DL.itr g n x := by
      intro n
      induction n with
      | zero => right; show x + ((0 : Nat) : Int) ≤ x; omega
      | succ n ih =>
        rcases ih with ⟨k, hk, e⟩ | h
        · left; exact ⟨k, by omega, e⟩
        · by_cases e : DL.itr g (n + 1) x = DL.itr g n x
          · left; exact ⟨n, by omega, e⟩
          · right; have := up n; omega
    rcases key (c.toNat + 1) with ⟨k, hk, e⟩ | h
    · exact ⟨k, by omega, e⟩
    · have := (hin (c.toNat + 1)).2; omega
  · have dn : ∀ n, DL.itr g (n + 1) x ≤ DL.itr g n x := by
      intro n
      induction n with
      | zero => exact hx
      | succ n ih => exact hg.le (hin (n + 1)).1 ih (hin n).2
    have key : ∀ n, (∃ k, k < n ∧ DL.itr g (k + 1) x = DL.itr g k x) ∨ DL.itr g n x + n ≤ x := by
      intro n
      induction n with
      | zero => right; show x + ((0 : Nat) : Int) ≤ x; omega
      | succ n ih =>
        rcases ih with ⟨k, hk, e⟩ | h
        · left; exact ⟨k, by omega, e⟩
        · by_cases e : DL.itr g (n + 1) x = DL.itr g n x
          · left; exact ⟨n, by omega, e⟩
          · right; have := dn n; omega
    rcases key (c.toNat + 1) with ⟨k, hk, e⟩ | h
    · exact ⟨k, by omega, e⟩
    · have := (hin (c.toNat + 1)).1; omega
theorem Eg.stable {c : Int} {g : Int → Int} (hg : Eg c g) {x : Int} (h0 : 0 ≤ x) (h1 : x ≤ c) {n m : Nat} (hn : c.toNat ≤ n) (hm : c.toNat ≤ m) : DL.itr g n x = DL.itr g m x := by
  obtain ⟨k, hk, e⟩ := hg.settles h0 h1
  rw [itr_stay e n (by omega), itr_stay e m (by omega)]
theorem Eg.cut {c : Int} {g : Int → Int} (hg : Eg c g) {x : Int} (h0 : 0 ≤ x) (h1 : x ≤ c) (n : Nat) : DL.itr g (min n c.toNat) x = DL.itr g n x := by
  rcases Nat.le_total n c.toNat with h | h
  · rw [Nat.min_eq_left h]
  · rw [Nat.min_eq_right h]; exact hg.stable h0 h1 (Nat.le_refl _) h
/-- a list that is a whole map -/
theorem list_map (L : List Int) : L = (upto L.length).map fun x => L[x.toNat]?.getD 0 := by
  apply List.ext_getElem
  · simp [len_upto]
  · intro i h1 h2
    simp [upto, List.getElem?_eq_getElem h1]
theorem in01 {i : Int} (h : i = 0 ∨ i = 1) : oIn (.int i) (.tup [.int 0, .int 1]) = some (.bl true) := by
  rcases h with rfl | rfl <;> rfl
end DL
namespace DL
open PySem
theorem x_addS {Q : D → Prop} {a b : List Cm} (h : a.length + b.length ≤ 1000000) (q : Q (schD (a ++ b))) : ∃ z, oAdd (schD a) (schD b) = some z ∧ Q z := by
  unfold schD
  refine x_addT (by simp only [schL, List.length_map]; exact cap_lt h) ?_
  rw [show schL a ++ schL b = schL (a ++ b) by simp [schL]]
  exact q
theorem fin_app (a b : List Cm) (l : Int) : fin (a ++ b) l = fin b (fin a l) := List.foldl_append
theorem oIn_ints (i : Int) {L : List Int} (h : L.length ≤ cap) : ∃ b, oIn (.int i) (.tup (iL L)) = some (.bl b) := by
  have w := (Wl.ints h).both
  refine ⟨(iL L).any fun z => D.eqv z (.int i), ?_⟩
  have h1 : D.plL (iL L) = true := by simpa [D.pl] using w.1
  have h2 : D.depL (iL L) ≤ 60 := by have := w.2; simp only [D.dep] at this; omega
  simp only [oIn, ok_int, h1, h2, decide_true, Bool.and_true, if_true]
theorem x_inI {Q : D → Prop} {i : Int} {L : List Int} (h : L.length ≤ cap) (q : ∀ b, Q (.bl b)) : ∃ z, oIn (.int i) (.tup (iL L)) = some z ∧ Q z := by
  obtain ⟨b, e⟩ := oIn_ints i h
  exact ⟨_, e, q b⟩
theorem Eg.of_list (c : Int) (L : List Int) (h1 : ∀ i : Nat, i < (c + 1).toNat → 0 ≤ L[i]?.getD 0 ∧ L[i]?.getD 0 ≤ c) (h2 : ∀ i : Nat, i < c.toNat → L[i + 1]?.getD 0 = L[i]?.getD 0 ∨ L[i + 1]?.getD 0 = L[i]?.getD 0 + 1) : Eg c fun x => L[x.toNat]?.getD 0 where
  inr x a b := h1 x.toNat (by omega)
  stp x a b := by
    have := h2 x.toNat (by omega)
    rw [show (x + 1).toNat = x.toNat + 1 by omega]
    exact this
end DL
namespace DL
open PySem
/-! ### fixed levels -/
def fixL (c : Int) (g : Int → Int) : List Int := (upto (c + 1).toNat).filter fun x => decide (g x = x)
theorem Eg.up {c : Int} {g : Int → Int} (hg : Eg c g) : ∀ (n : Nat) (x : Int), 0 ≤ x → x + n ≤ c → g (x + n) ≤ g x + n
  | 0, x, _, _ => by simp
  | n + 1, x, h0, h1 => by
    have ih := hg.up n x h0 (by omega)
    have := hg.stp (x + n) (by omega) (by omega)
    rw [show x + ((n + 1 : Nat) : Int) = x + n + 1 by omega]
    omega
theorem Eg.lip {c : Int} {g : Int → Int} (hg : Eg c g) {x y : Int} (h0 : 0 ≤ x) (h : x ≤ y) (h1 : y ≤ c) : g y ≤ g x + (y - x) := by
  have := hg.up (y - x).toNat x h0 (by omega)
  rw [show x + ((y - x).toNat : Int) = y by omega] at this
  omega
theorem Eg.fix_mid {c : Int} {g : Int → Int} (hg : Eg c g) {i j k : Int} (h0 : 0 ≤ i) (h1 : i ≤ j) (h2 : j ≤ k) (h3 : k ≤ c) (a : g i = i) (b : g k = k) : g j = j := by
  have e1 := hg.lip h0 h1 (by omega)
  have e2 := hg.lip (by omega) h2 h3
  omega
theorem Eg.fix_ne {c : Int} {g : Int → Int} (hg : Eg c g) (hc : 0 ≤ c) : fixL c g ≠ [] := by
  obtain ⟨k, hk, e⟩ := hg.settles (x := 0) (Int.le_refl _) hc
  have hin := (hg.itr k).inr 0 (Int.le_refl _) hc
  have hm : DL.itr g k 0 ∈ fixL c g := by
    refine List.mem_filter.mpr ⟨?_, decide_eq_true e⟩
    simp only [upto, List.mem_map, List.mem_range]
    exact ⟨(DL.itr g k 0).toNat, by omega, by omega⟩
  intro h
  rw [h] at hm
  cases hm
theorem Eg.fix_cons {c : Int} {g : Int → Int} (hg : Eg c g) (hc : 0 ≤ c) : ∃ a r, fixL c g = a :: r := by
  have := hg.fix_ne hc
  cases h : fixL c g with
  | nil => exact absurd h this
  | cons a r => exact ⟨a, r, rfl⟩
/-- the fixed levels: a, .., b -/
theorem Eg.fix_all {c : Int} {g : Int → Int} (hg : Eg c g) {a : Int} {r : List Int} (h : fixL c g = a :: r) :
    iL (a :: r) = rng a ((a :: r).getLast?.getD 0 + 1) ∧ 0 ≤ a ∧ a ≤ (a :: r).getLast?.getD 0 ∧ (a :: r).getLast?.getD 0 ≤ c ∧ g a = a ∧ g ((a :: r).getLast?.getD 0) = (a :: r).getLast?.getD 0 ∧
    ∀ x, 0 ≤ x → x ≤ c → g x = x → a ≤ x ∧ x ≤ (a :: r).getLast?.getD 0 := by
  have hh : ((upto (c + 1).toNat).map fun i => (0 : Int) + i).filter (fun x => decide (g x = x)) = a :: r := by rw [upto_zero]; exact h
  have hm := filter_mid (lo := 0) (n := (c + 1).toNat) (fun x => decide (g x = x)) (fun i j k h0 h1 h2 h3 x y => by
    have := hg.fix_mid h0 h1 h2 (by omega) (of_decide_eq_true x) (of_decide_eq_true y)
    exact decide_eq_true this) hh
  obtain ⟨m1, m2, m3, m4⟩ := hm
  have ga : g a = a := by
    have : a ∈ fixL c g := by rw [h]; exact List.mem_cons_self ..
    exact of_decide_eq_true (List.mem_filter.mp this).2
  have hlm : (a :: r).getLast?.getD 0 ∈ a :: r := List.mem_of_getLast? (getLast_cons a r)
  have gb : g ((a :: r).getLast?.getD 0) = (a :: r).getLast?.getD 0 := by
    rw [← h] at hlm ⊢
    exact of_decide_eq_true (List.mem_filter.mp hlm).2
  refine ⟨m1, m2, m3, by omega, ga, gb, fun x h0 h1 hx => ?_⟩
  have hxm : x ∈ a :: r := by
    rw [← h]
    refine List.mem_filter.mpr ⟨?_, decide_eq_true hx⟩
    simp only [upto, List.mem_map, List.mem_range]
    exact ⟨x.toNat, by omega, by omega⟩
  have hxD : D.int x ∈ rng a ((a :: r).getLast?.getD 0 + 1) := by rw [← m1]; exact List.mem_map.mpr ⟨x, hxm, rfl⟩
  simp only [rng, List.mem_map, List.mem_range, D.int.injEq] at hxD
  obtain ⟨i, hi, e⟩ := hxD
  omega
theorem itr_fix {g : Int → Int} {x : Int} (h : g x = x) : ∀ n, itr g n x = x
  | 0 => rfl
  | n + 1 => by show g (itr g n x) = x; rw [itr_fix h n, h]
theorem near_fix {c : Int} {g : Int → Int} (hg : Eg c g) {a b x : Int} {n : Nat} (h0 : 0 ≤ x) (h1 : x ≤ c) (ha0 : 0 ≤ a) (hab : a ≤ b) (hb : b ≤ c) (ga : g a = a) (gb : g b = b)
    (hall : ∀ y, 0 ≤ y → y ≤ c → g y = y → a ≤ y ∧ y ≤ b) (hx : itr g (n + 1) x = itr g n x) : itr g n x = max a (min b x) := by
  have hin := (hg.itr n).inr x h0 h1
  have hy := hall _ hin.1 hin.2 hx
  rcases Int.le_total x a with h | h
  · have := (hg.itr n).le h0 h (by omega)
    rw [itr_fix ga n] at this
    omega
  · rcases Int.le_total b x with h' | h'
    · have := (hg.itr n).le (by omega) h' h1
      rw [itr_fix gb n] at this
      omega
    · have := itr_fix (hg.fix_mid ha0 h h' hb ga gb) n
      omega
/-- the path of a level -/
def pathL (g : Int → Int) (x : Int) (n : Nat) : List Int := (List.range (n + 1)).map fun i => itr g i x
theorem path_last (g : Int → Int) (x : Int) (n : Nat) : (pathL g x n).getLast? = some (itr g n x) := by
  simp [pathL, List.range_succ]
theorem path_succ (g : Int → Int) (x : Int) (n : Nat) : pathL g x (n + 1) = pathL g x n ++ [itr g (n + 1) x] := by
  simp [pathL, List.range_succ]
theorem path_len (g : Int → Int) (x : Int) (n : Nat) : (pathL g x n).length = n + 1 := by simp [pathL]
/-- a path that moves on n times -/
theorem path_short {c : Int} {g : Int → Int} (hg : Eg c g) {x : Int} (h0 : 0 ≤ x) (h1 : x ≤ c) {n : Nat} (h : ∀ i, i < n → itr g (i + 1) x ≠ itr g i x) : n ≤ c.toNat := by
  obtain ⟨k, hk, e⟩ := hg.settles h0 h1
  rcases Nat.lt_or_ge k n with h2 | h2
  · exact absurd e (h k h2)
  · omega
theorem path_way {c : Int} {g : Int → Int} (hg : Eg c g) {x : Int} (h0 : 0 ≤ x) (h1 : x ≤ c) : (∀ i, itr g i x ≤ itr g (i + 1) x) ∨ (∀ i, itr g (i + 1) x ≤ itr g i x) := by
  have hin : ∀ n, 0 ≤ itr g n x ∧ itr g n x ≤ c := fun n => (hg.itr n).inr x h0 h1
  rcases Int.le_total x (g x) with hx | hx
  · left
    intro n
    induction n with
    | zero => exact hx
    | succ n ih => exact hg.le (hin n).1 ih (hin (n + 1)).2
  · right
    intro n
    induction n with
    | zero => exact hx
    | succ n ih => exact hg.le (hin (n + 1)).1 ih (hin n).2
theorem path_sorted {c : Int} {g : Int → Int} (hg : Eg c g) {x : Int} (h0 : 0 ≤ x) (h1 : x ≤ c) (n : Nat) : isort (pathL g x n) = pathL g x n ∨ (isort (pathL g x n)).reverse = pathL g x n := by
  rcases path_way hg h0 h1 with h | h
  · left
    have hm : ∀ i j, i ≤ j → itr g i x ≤ itr g j x := by
      intro i j hij
      induction j with
      | zero => rw [show i = 0 by omega]; exact Int.le_refl _
      | succ j ih =>
        by_cases e : i = j + 1
        · rw [e]; exact Int.le_refl _
        · have := ih (by omega); have := h j; omega
    refine srt_uniq (isort_srt _) ?_ (isort_perm _)
    unfold pathL
    rw [List.pairwise_map]
    exact List.pairwise_lt_range.imp fun hlt => hm _ _ (Nat.le_of_lt hlt)
  · right
    have hm : ∀ i j, i ≤ j → itr g j x ≤ itr g i x := by
      intro i j hij
      induction j with
      | zero => rw [show i = 0 by omega]; exact Int.le_refl _
      | succ j ih =>
        by_cases e : i = j + 1
        · rw [e]; exact Int.le_refl _
        · have := ih (by omega); have := h j; omega
    have e : isort (pathL g x n) = (pathL g x n).reverse := by
      refine srt_uniq (isort_srt _) ?_ ((isort_perm _).trans (List.reverse_perm _).symm)
      rw [List.pairwise_reverse]
      unfold pathL
      rw [List.pairwise_map]
      exact List.pairwise_lt_range.imp fun hlt => hm _ _ (Nat.le_of_lt hlt)
    rw [e, List.reverse_reverse]
theorem enum_iL (L : List Int) : ∀ i : Nat, enumD i (iL L) = (L.zipIdx i).map fun p => .tup [.int (p.2 : Nat), .int p.1] := by
  induction L with
  | nil => intro i; rfl
  | cons a l ih => intro i; simp only [iL, List.map, enumD, List.zipIdx_cons] at ih ⊢; rw [ih (i + 1)]
theorem enum_map (c : Int) (g : Int → Int) : enumD 0 (iL (mapL c g)) = (upto (c + 1).toNat).map fun x => .tup [.int x, .int (g x)] := by
  have key : ∀ (k i : Nat), enumD i ((List.range' i k).map fun j : Nat => D.int (g (j : Int))) = (List.range' i k).map fun j : Nat => .tup [.int (j : Int), .int (g (j : Int))] := by
    intro k
    induction k with
    | zero => intro i; rfl
    | succ k ih => intro i; simp only [List.range'_succ, List.map_cons, enumD, ih (i + 1)]
  have h := key (c + 1).toNat 0
  simp only [iL, mapL, upto, List.range_eq_range', List.map_map]
  exact h
end DL
namespace DL
open PySem
theorem x_sorted {Q : List D → Prop} {xs : List Int} (q : Q (iL (isort xs))) : ∃ z, fSorted [.lst (iL xs)] = some z ∧ Q z := ⟨_, by simp only [fSorted, ints_iL]; rfl, q⟩
theorem isort_len (xs : List Int) : (isort xs).length = xs.length := (isort_perm xs).length_eq
theorem rev_iL (xs : List Int) : (iL xs).reverse = iL xs.reverse := by simp [iL]
end DL

/-! All effects of a small capacity. -/
namespace DL
open PySem
def lastI (row : List Int) : Int := row.getLast?.getD 0
def extR (c : Int) (row : List Int) : List (List Int) := if lastI row + 1 ≤ c then [row ++ [lastI row], row ++ [lastI row + 1]] else [row ++ [lastI row]]
def mapsN (c : Int) : Nat → List (List Int)
  | 0 => (upto (c + 1).toNat).map fun x => [x]
  | n + 1 => (mapsN c n).flatMap (extR c)
def mapsAll (c : Int) : List (List Int) := mapsN c c.toNat
def tD (row : List Int) : D := .tup (iL row)
theorem lastI_app (row : List Int) (v : Int) : lastI (row ++ [v]) = v := by simp [lastI]
theorem last_of {row : List Int} (h : row ≠ []) : row.getLast? = some (lastI row) := by
  cases row with
  | nil => exact absurd rfl h
  | cons a r => exact getLast_cons a r
/-- what every row is, after n turns -/
theorem mapsN_row {c : Int} (hc : 0 ≤ c) : ∀ {n : Nat} {row : List Int}, row ∈ mapsN c n → row.length = n + 1 ∧ row ≠ [] ∧ 0 ≤ lastI row ∧ lastI row ≤ c
  | 0, row, h => by
    simp only [mapsN, List.mem_map] at h
    obtain ⟨x, hx, rfl⟩ := h
    have := mem_upto hx
    exact ⟨rfl, by simp, by simpa [lastI] using this.1, by simp [lastI]; omega⟩
  | n + 1, row, h => by
    simp only [mapsN, List.mem_flatMap] at h
    obtain ⟨r, hr, h⟩ := h
    obtain ⟨h1, h2, h3, h4⟩ := mapsN_row hc hr
    unfold extR at h
    split at h
    · simp only [List.mem_cons, List.not_mem_nil, or_false] at h
      rcases h with rfl | rfl
      · exact ⟨by simp [h1], by simp, by rw [lastI_app]; exact h3, by rw [lastI_app]; exact h4⟩
      · exact ⟨by simp [h1], by simp, by rw [lastI_app]; omega, by rw [lastI_app]; assumption⟩
    · simp only [List.mem_cons, List.not_mem_nil, or_false] at h
      subst h
      exact ⟨by simp [h1], by simp, by rw [lastI_app]; exact h3, by rw [lastI_app]; exact h4⟩
theorem extR_len (c : Int) (row : List Int) : (extR c row).length ≤ 2 := by unfold extR; split <;> simp
theorem ext_len (c : Int) : ∀ l : List (List Int), (l.flatMap (extR c)).length ≤ 2 * l.length
  | [] => by simp
  | r :: l => by
    have h1 := ext_len c l
    have h2 := extR_len c r
    simp only [List.flatMap_cons, List.length_append, List.length_cons]
    omega
theorem mapsN_len (c : Int) : ∀ n : Nat, (mapsN c n).length ≤ (c + 1).toNat * 2 ^ n
  | 0 => by simp [mapsN, len_upto]
  | n + 1 => by
    have h1 := mapsN_len c n
    have h2 := ext_len c (mapsN c n)
    simp only [mapsN]
    rw [Nat.pow_succ, ← Nat.mul_assoc]
    omega
/-- the rows are whole maps that rise by 0 or 1 -/
def rowOk (c : Int) (row : List Int) : Prop := ∀ i : Nat, i + 1 < row.length → (row[i + 1]?.getD 0 = row[i]?.getD 0 ∨ row[i + 1]?.getD 0 = row[i]?.getD 0 + 1)
theorem mapsN_ok {c : Int} (hc : 0 ≤ c) : ∀ {n : Nat} {row : List Int}, row ∈ mapsN c n → (∀ v ∈ row, 0 ≤ v ∧ v ≤ c) ∧ rowOk c row
  | 0, row, h => by
    simp only [mapsN, List.mem_map] at h
    obtain ⟨x, hx, rfl⟩ := h
    have := mem_upto hx
    refine ⟨fun v hv => ?_, fun i hi => ?_⟩
    · simp only [List.mem_cons, List.not_mem_nil, or_false] at hv; subst hv; omega
    · simp at hi
  | n + 1, row, h => by
    simp only [mapsN, List.mem_flatMap] at h
    obtain ⟨r, hr, h⟩ := h
    obtain ⟨h1, h2, h3, h4⟩ := mapsN_row hc hr
    obtain ⟨g1, g2⟩ := mapsN_ok hc hr
    have hl := last_of h2
    have key : ∀ v : Int, 0 ≤ v → v ≤ c → (v = lastI r ∨ v = lastI r + 1) → (∀ u ∈ r ++ [v], 0 ≤ u ∧ u ≤ c) ∧ rowOk c (r ++ [v]) := by
      intro v v0 v1 hv
      refine ⟨fun u hu => ?_, fun i hi => ?_⟩
      · rcases List.mem_append.mp hu with hu | hu
        · exact g1 u hu
        · simp only [List.mem_cons, List.not_mem_nil, or_false] at hu; subst hu; exact ⟨v0, v1⟩
      · simp only [List.length_append, List.length_cons, List.length_nil] at hi
        rcases Nat.lt_or_ge (i + 1) r.length with h | h
        · rw [List.getElem?_append_left h, List.getElem?_append_left (by omega)]
          exact g2 i h
        · have e : i + 1 = r.length := by omega
          have e2 : r[i]?.getD 0 = lastI r := by
            rw [lastI, List.getLast?_eq_getElem?, show r.length - 1 = i by omega]
          rw [List.getElem?_append_right (by omega), List.getElem?_append_left (by omega), e2, e]
          simpa using hv
    unfold extR at h
    split at h
    · simp only [List.mem_cons, List.not_mem_nil, or_false] at h
      rcases h with rfl | rfl
      · exact key _ h3 h4 (.inl rfl)
      · exact key _ (by omega) (by assumption) (.inr rfl)
    · simp only [List.mem_cons, List.not_mem_nil, or_false] at h
      subst h
      exact key _ h3 h4 (.inl rfl)
theorem maps_eg {c : Int} (hc : 0 ≤ c) {row : List Int} (h : row ∈ mapsAll c) : ∃ g, Eg c g ∧ tD row = mapD c g := by
  obtain ⟨h1, _⟩ := mapsN_row hc h
  obtain ⟨g1, g2⟩ := mapsN_ok hc h
  refine ⟨fun x => row[x.toNat]?.getD 0, ⟨fun x h0 hx => ?_, fun x h0 hx => ?_⟩, ?_⟩
  · have hlt : x.toNat < row.length := by omega
    rw [List.getElem?_eq_getElem hlt]
    exact g1 _ (List.getElem_mem hlt)
  · have := g2 x.toNat (by omega)
    rw [show (x + 1).toNat = x.toNat + 1 by omega]
    exact this
  · have e := list_map row
    rw [h1, show c.toNat + 1 = (c + 1).toNat by omega] at e
    show D.tup (iL row) = .tup (iL (mapL c _))
    rw [mapL, ← e]
/-- every effect is there -/
theorem maps_all {c : Int} {g : Int → Int} (hc : 0 ≤ c) (hg : Eg c g) : mapL c g ∈ mapsAll c := by
  have key : ∀ n : Nat, (n : Int) ≤ c → (upto (n + 1)).map g ∈ mapsN c n := by
    intro n
    induction n with
    | zero =>
      intro _
      have := hg.inr 0 (Int.le_refl _) hc
      simp only [mapsN, List.mem_map]
      refine ⟨g 0, ?_, by simp [upto]⟩
      simp only [upto, List.mem_map, List.mem_range]
      exact ⟨(g 0).toNat, by omega, by omega⟩
    | succ n ih =>
      intro hn
      have h1 := ih (by omega)
      simp only [mapsN, List.mem_flatMap]
      refine ⟨_, h1, ?_⟩
      have e1 : (upto (n + 1 + 1)).map g = (upto (n + 1)).map g ++ [g ((n : Int) + 1)] := by simp [upto, List.range_succ]
      have e2 : lastI ((upto (n + 1)).map g) = g n := by simp [lastI, upto, List.range_succ]
      have h3 := hg.stp n (by omega) (by omega)
      have h4 := hg.inr (n + 1) (by omega) (by omega)
      rw [e1]
      unfold extR
      rw [e2]
      rcases h3 with h3 | h3
      · rw [h3]
        split <;> simp
      · rw [h3]
        rw [if_pos (by omega)]
        simp
  have h := key c.toNat (by omega)
  have e : c.toNat + 1 = (c + 1).toNat := by omega
  rw [e] at h
  exact h
end DL
namespace DL
open PySem
theorem x_ixR {Q : D → Prop} {row : List Int} {i : Int} {d : D} (h : at' (iL row) i = some d) (q : Q d) : ∃ z, oIx (tD row) (.int i) = some z ∧ Q z := ⟨_, h, q⟩
theorem x_addR {Q : D → Prop} {row : List Int} {d : D} (h : row.length ≤ 1000) (q : Q (.tup (iL row ++ [d]))) : ∃ z, oAdd (tD row) (.tup [d]) = some z ∧ Q z :=
  x_addT (by rw [iL_len]; exact cap_lt (by simp; omega)) q
end DL
namespace DL
open PySem
theorem maps_sorted {c : Int} (h1 : 1 ≤ c) (h2 : c ≤ 6) : lsort (mapsAll c) = mapsAll c := by
  have : c = 1 ∨ c = 2 ∨ c = 3 ∨ c = 4 ∨ c = 5 ∨ c = 6 := by omega
  rcases this with rfl | rfl | rfl | rfl | rfl | rfl <;> decide +kernel
theorem itups_tD : ∀ {ls : List (List Int)}, (∀ l ∈ ls, l ≠ []) → D.itups (ls.map tD) = some ls
  | [], _ => rfl
  | l :: ls, h => by
    have ih := itups_tD (ls := ls) fun x hx => h x (List.mem_cons_of_mem _ hx)
    have hl := h l (List.mem_cons_self ..)
    cases l with
    | nil => exact absurd rfl hl
    | cons a r =>
      show D.itups (.tup (iL (a :: r)) :: ls.map tD) = _
      simp only [D.itups, ints_iL, ih]
theorem x_sortedT {Q : List D → Prop} {ls : List (List Int)} (h0 : ls ≠ []) (h : ∀ l ∈ ls, l ≠ []) (q : Q ((lsort ls).map tD)) : ∃ z, fSorted [.lst (ls.map tD)] = some z ∧ Q z := by
  refine ⟨_, ?_, q⟩
  cases ls with
  | nil => exact absurd rfl h0
  | cons l ls =>
    have e : D.ints ((l :: ls).map tD) = none := rfl
    simp only [fSorted, e, itups_tD h]
    rfl
theorem maps_ne {c : Int} (hc : 0 ≤ c) : mapsAll c ≠ [] := by
  have := maps_all hc (Eg.id c)
  intro h
  rw [h] at this
  cases this
end DL
namespace DL
open PySem
def rfn (row : List Int) : Int → Int := fun x => row[x.toNat]?.getD 0
theorem maps_fn {c : Int} (hc : 0 ≤ c) {row : List Int} (h : row ∈ mapsAll c) : Eg c (rfn row) ∧ tD row = mapD c (rfn row) := by
  obtain ⟨h1, _⟩ := mapsN_row hc h
  obtain ⟨g1, g2⟩ := mapsN_ok hc h
  refine ⟨⟨fun x h0 hx => ?_, fun x h0 hx => ?_⟩, ?_⟩
  · have hlt : x.toNat < row.length := by omega
    rw [rfn, List.getElem?_eq_getElem hlt]
    exact g1 _ (List.getElem_mem hlt)
  · have := g2 x.toNat (by omega)
    rw [rfn, rfn, show (x + 1).toNat = x.toNat + 1 by omega]
    exact this
  · have e := list_map row
    rw [h1, show c.toNat + 1 = (c + 1).toNat by omega] at e
    show D.tup (iL row) = .tup (iL (mapL c _))
    unfold rfn
    rw [mapL, ← e]
def powR (c : Int) (row : List Int) (n : Nat) : List Int := mapL c (itr (rfn row) n)
def rootsL (c : Int) (w : List Int) (n : Nat) : List (List Int) := (mapsAll c).filter fun row => decide (powR c row n = w)
theorem rootsL_len {c : Int} (h1 : 1 ≤ c) (h2 : c ≤ 8) (w : List Int) (n : Nat) : (rootsL c w n).length ≤ 2304 := by
  refine Nat.le_trans (List.length_filter_le _ _) ?_
  have h := mapsN_len c c.toNat
  have e1 : (c + 1).toNat ≤ 9 := by omega
  have e2 : 2 ^ c.toNat ≤ 2 ^ 8 := Nat.pow_le_pow_right (by decide) (by omega)
  exact Nat.le_trans h (Nat.le_trans (Nat.mul_le_mul e1 e2) (by decide))
theorem filter_tD (tb : D → Bool) (t : List Int → Bool) (ls : List (List Int)) (h : ∀ l ∈ ls, tb (tD l) = t l) : ((ls.map tD).filter tb).map (fun d => d) = (ls.filter t).map tD := by
  rw [List.map_id', List.filter_map]
  congr 1
  exact List.filter_congr h
end DL
namespace DL
open PySem
theorem x_neNil {Q : D → Prop} {n : Nat} {xs : List D} (h : Wl n (.lst xs)) (hn : n ≤ 60) (q : Q (.bl (!xs.isEmpty))) : ∃ z, oNe (.lst xs) (.lst []) = some z ∧ Q z := by
  refine x_neD (h.okd hn) (Wl.okd (n := 1) ⟨by decide, fun x hx => nomatch hx⟩ (by omega)) ?_
  have e : D.eqv (.lst xs) (.lst []) = xs.isEmpty := by cases xs <;> simp [D.eqv, D.eqvL]
  rw [e]
  exact q
theorem ok_rows {ls : List (List Int)} (h : ls.length ≤ cap) (hr : ∀ l ∈ ls, l.length ≤ cap) : Wl 2 (.lst (ls.map tD)) := by
  refine ⟨by rw [List.length_map]; exact h, fun x hx => ?_⟩
  obtain ⟨l, hl, rfl⟩ := List.mem_map.mp hx
  exact Wl.ints (hr l hl)
def headD (ls : List (List Int)) : D := match ls with
  | [] => .non
  | l :: _ => tD l
theorem rootsL_rows {c : Int} (h1 : 1 ≤ c) (h2 : c ≤ 8) {w : List Int} {n : Nat} : ∀ l ∈ rootsL c w n, l.length ≤ cap := by
  intro l hl
  have := (mapsN_row (by omega) (List.mem_filter.mp hl).1).1
  rw [this]
  exact cap_lt (by omega)
theorem headD_wl {ls : List (List Int)} (hr : ∀ l ∈ ls, l.length ≤ cap) : Wl 1 (headD ls) := by
  cases ls with
  | nil => trivial
  | cons l r => exact Wl.ints (hr l (List.mem_cons_self ..))
theorem roots_one {c : Int} (h1 : 1 ≤ c) (h2 : c ≤ 6) : (rootsL c (mapL c fun x => x) 2).length = 1 := by
  have : c = 1 ∨ c = 2 ∨ c = 3 ∨ c = 4 ∨ c = 5 ∨ c = 6 := by omega
  rcases this with rfl | rfl | rfl | rfl | rfl | rfl <;> decide +kernel
theorem roots_far {c : Int} (h1 : 1 ≤ c) {w : List Int} {n m : Nat} (hn : c.toNat ≤ n) (hm : c.toNat ≤ m) : rootsL c w n = rootsL c w m := by
  unfold rootsL
  apply List.filter_congr
  intro row hr
  obtain ⟨g1, _⟩ := maps_fn (by omega) hr
  have e : powR c row n = powR c row m := mapL_congr fun x h0 hx => g1.stable h0 hx hn hm
  rw [e]
end DL
namespace DL
open PySem
def exL (c : Int) (h : Int → Int) : List (List Int) := (mapsAll c).filter fun row => decide (mapL c (fun x => rfn row (h x)) = mapL c (fun x => h (rfn row x)))
theorem row_back {c : Int} (hc : 0 ≤ c) {row : List Int} (hr : row ∈ mapsAll c) : mapL c (rfn row) = row := by
  obtain ⟨_, g2⟩ := maps_fn hc hr
  simp only [tD, mapD, D.tup.injEq] at g2
  exact (List.map_inj_right (fun _ _ h => by cases h; rfl)).mp g2.symm
/-- a test of rows, as a test of values -/
def rowB (t : List Int → Bool) (d : D) : Bool := match d with
  | .tup xs => (match D.ints xs with | some row => t row | none => false)
  | _ => false
theorem rowB_tD (t : List Int → Bool) (l : List Int) : rowB t (tD l) = t l := by simp only [rowB, tD, ints_iL]
theorem rowB_map {c : Int} (hc : 0 ≤ c) (t : List Int → Bool) {row : List Int} (hr : row ∈ mapsAll c) : rowB t (mapD c (rfn row)) = t row := by
  show rowB t (tD (mapL c (rfn row))) = _
  rw [rowB_tD, row_back hc hr]
theorem filter_rowB (t : List Int → Bool) (ls : List (List Int)) : ((ls.map tD).filter (rowB t)).map (fun d => d) = (ls.filter t).map tD := filter_tD _ _ _ fun l _ => rowB_tD t l
end DL
namespace DL
open PySem
theorem Eg.mir {c : Int} {g : Int → Int} (hg : Eg c g) : Eg c fun x => c - g (c - x) where
  inr x h0 h1 := by have := hg.inr (c - x) (by omega) (by omega); omega
  stp x h0 h1 := by
    have := hg.stp (c - x - 1) (by omega) (by omega)
    rw [show c - x - 1 + 1 = c - x by omega] at this
    show c - g (c - (x + 1)) = c - g (c - x) ∨ c - g (c - (x + 1)) = c - g (c - x) + 1
    rw [show c - (x + 1) = c - x - 1 by omega]
    omega
def mirR (c : Int) (row : List Int) : List Int := row.reverse.map fun v => c - v
theorem mir_perm {c : Int} (h1 : 1 ≤ c) (h2 : c ≤ 6) : ((mapsAll c).map (mirR c)).Perm (mapsAll c) := by
  have : c = 1 ∨ c = 2 ∨ c = 3 ∨ c = 4 ∨ c = 5 ∨ c = 6 := by omega
  rcases this with rfl | rfl | rfl | rfl | rfl | rfl <;> decide +kernel
theorem mapL_inj {c : Int} {g h : Int → Int} (e : mapL c g = mapL c h) : ∀ x, 0 ≤ x → x ≤ c → g x = h x := by
  intro x h0 h1
  have a := map_at g h0 h1
  rw [e, map_at h h0 h1] at a
  simpa using a.symm
theorem mapL_iff {c : Int} {g h : Int → Int} : mapL c g = mapL c h ↔ ∀ x, 0 ≤ x → x ≤ c → g x = h x := ⟨mapL_inj, mapL_congr⟩
theorem mirR_fn {c : Int} (hc : 0 ≤ c) {row : List Int} (hr : row ∈ mapsAll c) {x : Int} (h0 : 0 ≤ x) (h1 : x ≤ c) : rfn (mirR c row) x = c - rfn row (c - x) := by
  obtain ⟨l1, _⟩ := mapsN_row hc hr
  have hx : x.toNat < row.length := by omega
  simp only [rfn, mirR, List.getElem?_map, List.getElem?_reverse hx]
  rw [show row.length - 1 - x.toNat = (c - x).toNat by omega]
  have hx2 : (c - x).toNat < row.length := by omega
  rw [List.getElem?_eq_getElem hx2]
  rfl
theorem exL_mir {c : Int} {g : Int → Int} (h1 : 1 ≤ c) (h2 : c ≤ 6) (hg : Eg c g) : (exL c fun x => c - g (c - x)).length = (exL c g).length := by
  unfold exL
  rw [← List.countP_eq_length_filter, ← List.countP_eq_length_filter, ← (mir_perm h1 h2).countP_eq, List.countP_map]
  apply List.countP_congr
  intro row hr
  obtain ⟨gr, _⟩ := maps_fn (by omega) hr
  simp only [Function.comp, decide_eq_true_eq, mapL_iff]
  constructor
  · intro h x h0 hx
    have a := h (c - x) (by omega) (by omega)
    have i1 := hg.inr x h0 hx
    have i2 := gr.inr x h0 hx
    rw [show c - (c - x) = x by omega, mirR_fn (by omega) hr (by omega) (by omega), mirR_fn (by omega) hr (by omega) (by omega)] at a
    rw [show c - (c - g x) = g x by omega, show c - (c - x) = x by omega, show c - (c - rfn row x) = rfn row x by omega] at a
    omega
  · intro h x h0 hx
    have a := h (c - x) (by omega) (by omega)
    have i1 := hg.inr (c - x) (by omega) (by omega)
    have i2 := gr.inr (c - x) (by omega) (by omega)
    rw [mirR_fn (by omega) hr (by omega) (by omega), mirR_fn (by omega) hr h0 hx]
    rw [show c - (c - g (c - x)) = g (c - x) by omega, show c - (c - rfn row (c - x)) = rfn row (c - x) by omega]
    omega
theorem exL_id (c : Int) : (exL c fun x => x) = mapsAll c := by
  unfold exL
  exact List.filter_eq_self.mpr fun _ _ => decide_eq_true rfl
theorem exL_const {c : Int} (h1 : 1 ≤ c) : (exL c fun _ => c) = (mapsAll c).filter fun row => decide (rfn row c = c) := by
  unfold exL
  apply List.filter_congr
  intro row hr
  refine decide_eq_decide.mpr ?_
  rw [mapL_iff]
  exact ⟨fun h => h 0 (Int.le_refl _) (by omega), fun h _ _ _ => h⟩
theorem x_ninMem {Q : D → Prop} {n : Nat} {d : D} {ds : List D} (h : Wl n (.lst ds)) (hn : n ≤ 60) (hd : d ∈ ds) (q : Q (.bl false)) : ∃ z, oNotIn d (.lst ds) = some z ∧ Q z := by
  cases n with
  | zero => exact h.elim
  | succ n =>
    have hdw := h.2 d hd
    have hb := h.both
    have e1 : D.plL ds = true := by simpa [D.pl] using hb.1
    have e2 : D.depL ds ≤ 60 := by have := hb.2; simp only [D.dep] at this; omega
    have e3 : (ds.any fun z => D.eqv z d) = true := List.any_eq_true.mpr ⟨d, hd, hdw.refl⟩
    exact ⟨_, by simp only [oNotIn, hdw.okd (by omega), e1, e2, decide_true, Bool.and_true, if_true, e3, Bool.not_true], q⟩
end DL

/-! Rules for dicts. -/
namespace DL
open PySem
section ex
variable {e : Env} {Q : D → Env → Prop} {QL : List D → Env → Prop} {QB : Bool → Env → Prop} {QO : Od → Env → Prop}
theorem w_odIx {j : Nat} {a : M D} {q0 : Od} (h0 : e[j]? = some (.od q0)) (h : wp a e fun k e1 => ∃ q, e1[j]? = some (.od q) ∧ ∃ v, q.get k = some (some v) ∧ Q v e1) : wp (mODIx j a) e Q := by
  obtain ⟨x, e1, h1, q, h2, v, h3, r⟩ := h
  exact ⟨_, _, by simp only [mODIx, h0, h1, h2, h3], r⟩
theorem w_odGet1 {j : Nat} {a : M D} {q0 : Od} (h0 : e[j]? = some (.od q0)) (h : wp a e fun k e1 => ∃ q, e1[j]? = some (.od q) ∧ ∃ o, q.get k = some o ∧ Q (o.getD .non) e1) : wp (mODGet1 j a) e Q := by
  obtain ⟨x, e1, h1, q, h2, v, h3, r⟩ := h
  exact ⟨_, _, by simp only [mODGet1, h0, h1, h2, h3], r⟩
theorem w_odGet2 {j : Nat} {a b : M D} {q0 : Od} (h0 : e[j]? = some (.od q0)) (h : wp a e fun k e1 => wp b e1 fun y e2 => ∃ q, e2[j]? = some (.od q) ∧ ∃ o, q.get k = some o ∧ Q (o.getD y) e2) : wp (mODGet2 j a b) e Q := by
  obtain ⟨x, e1, h1, y, e2, h2, q, h3, v, h4, r⟩ := h
  exact ⟨_, _, by simp only [mODGet2, h0, h1, h2, h3, h4], r⟩
theorem w_odIn {no : Bool} {j : Nat} {a : M D} (h : wp a e fun k e1 => ∃ q, e1[j]? = some (.od q) ∧ ∃ o, q.get k = some o ∧ Q (.bl (no != o.isSome)) e1) : wp (mODIn no a j) e Q := by
  obtain ⟨x, e1, h1, q, h2, v, h3, r⟩ := h
  exact ⟨_, _, by simp only [mODIn, h1, h2, h3], r⟩
theorem w_odLen {j : Nat} {q : Od} (h0 : e[j]? = some (.od q)) (r : Q (.int q.len) e) : wp (mODLen j) e Q := ⟨_, _, by simp only [mODLen, h0], r⟩
theorem w_odItems {j : Nat} {kvs : List (Ky × D)} (h0 : e[j]? = some (.od (.k kvs))) (r : QL (kvs.map fun p => .tup [kyD p.1, p.2]) e) : wp (mODItems j) e QL := ⟨_, _, by simp only [mODItems, h0], r⟩
theorem w_mdNewT (r : QO (.t []) e) : wp (mDNew true) e QO := ⟨_, _, rfl, r⟩
theorem w_mdNewK (r : QO (.k []) e) : wp (mDNew false) e QO := ⟨_, _, rfl, r⟩
theorem w_dfr {a : M Od} (h : wp a e fun q e1 => Q q.d e1) : wp (mDFr a) e Q := by
  obtain ⟨x, e1, h1, r⟩ := h
  exact ⟨_, _, by simp only [mDFr, h1], r⟩
theorem w_pnil {R : List (Ky × D) → Env → Prop} (r : R [] e) : wp (mPairs []) e R := ⟨_, _, by simp only [mPairs], r⟩
theorem w_pcons {a b : M D} {ps : List (M D × M D)} {R : List (Ky × D) → Env → Prop} (h : wp a e fun x e1 => wp b e1 fun y e2 => wp (mPairs ps) e2 fun l e3 => ∃ k, D.ky x = some k ∧ R ((k, y) :: l) e3) : wp (mPairs ((a, b) :: ps)) e R := by
  obtain ⟨x, e1, h1, y, e2, h2, l, e3, h3, k, h4, r⟩ := h
  exact ⟨_, _, by simp only [mPairs, h1, h2, h3, h4], r⟩
theorem w_disp {ps : List (M D × M D)} (h : wp (mPairs ps) e fun l e1 => l.length ≤ 15 ∧ QO (.k (amerge [] l)) e1) : wp (mDisp ps) e QO := by
  obtain ⟨l, e1, h1, h2, r⟩ := h
  exact ⟨_, _, by simp only [mDisp, h1, h2, if_true], r⟩
theorem w_get1 {a b : M D} (h : wp a e fun d e1 => wp b e1 fun k e2 => ∃ o, D.getD d k = some o ∧ Q (o.getD .non) e2) : wp (mGet1 a b) e Q := by
  obtain ⟨x, e1, h1, y, e2, h2, o, h3, r⟩ := h
  exact ⟨_, _, by simp only [mGet1, h1, h2, h3], r⟩
theorem w_get2 {a b c : M D} (h : wp a e fun d e1 => wp b e1 fun k e2 => wp c e2 fun y e3 => ∃ o, D.getD d k = some o ∧ Q (o.getD y) e3) : wp (mGet2 a b c) e Q := by
  obtain ⟨x, e1, h1, y, e2, h2, z, e3, h3, o, h4, r⟩ := h
  exact ⟨_, _, by simp only [mGet2, h1, h2, h3, h4], r⟩
theorem w_emp {ne : Bool} {a : M D} (h : wp a e fun d e1 => ∃ kvs : List (Ky × D), d = (Od.k kvs).d ∧ Q (.bl (ne != kvs.isEmpty)) e1) : wp (mEmpK ne a) e Q := by
  obtain ⟨x, e1, h1, kvs, rfl, r⟩ := h
  refine ⟨_, _, ?_, r⟩
  cases kvs <;> simp [mEmpK, h1, Od.d]
theorem w_ifn {t : M Bool} {a b : M (List D)} (h : wp t e fun v e1 => (v = true → wp a e1 QL) ∧ (v = false → wp b e1 QL)) : wp (mIfN t a b) e QL := by
  obtain ⟨v, e1, h1, t, f⟩ := h
  cases v with
  | true => obtain ⟨z, e3, h4, q⟩ := t rfl; exact ⟨z, e3, by simp [mIfN, h1, h4], q⟩
  | false => obtain ⟨z, e3, h4, q⟩ := f rfl; exact ⟨z, e3, by simp [mIfN, h1, h4], q⟩
theorem w_mod {a : M Od} {R : Sl → Env → Prop} (h : wp a e fun d e1 => R (.od d) e1) : wp (mOd a) e R := by
  obtain ⟨x, e1, h1, q⟩ := h; exact ⟨_, e1, by simp [mOd, h1], q⟩
theorem w_iSeqK {a : M D} {kvs : List (Ky × D)} (h : wp a e fun x e1 => x = (Od.k kvs).d ∧ QL (kvs.map fun p => kyD p.1) e1) : wp (iSeq a) e QL := by
  obtain ⟨x, e1, h1, rfl, q⟩ := h
  have z : kvs.map (fun p => kyD p.1) = (kvs.map (·.1)).map kyD := by rw [List.map_map]; rfl
  rw [z] at q
  exact ⟨_, e1, by simp only [iSeq, h1, Od.d], q⟩
theorem w_dcompL {vs : List Nat} {p : Pt} {t : M Bool} {ek ev : M D} (I : List D → List (Ky × D) → Env → Prop)
    (hs : ∀ d ds acc e, I (d :: ds) acc e → ∃ e1, p d (wipeE e vs) = some e1 ∧ wp t e1 fun b e2 => (b = true → wp ek e2 fun x e3 => wp ev e3 fun y e4 => ∃ k, D.ky x = some k ∧ acc.length < cap ∧ I ds (aput acc k y) e4) ∧ (b = false → I ds acc e2)) :
    ∀ (ds : List D) (acc : List (Ky × D)) (e : Env), I ds acc e → ∃ acc' e', dcompL vs p t ek ev ds e acc = some (acc', e') ∧ I [] acc' e' := by
  intro ds
  induction ds with
  | nil => intro acc e h; exact ⟨acc, e, rfl, h⟩
  | cons d ds ih =>
    intro acc e h
    obtain ⟨e1, h1, b, e2, h2, ht, hf⟩ := hs d ds acc e h
    cases b with
    | true =>
      obtain ⟨x, e3, h3, y, e4, h4, k, hk, hc, hI⟩ := ht rfl
      obtain ⟨acc', e', h5, h6⟩ := ih _ _ hI
      exact ⟨acc', e', by simp only [dcompL, h1, h2, h3, h4, hk, hc, if_true, h5], h6⟩
    | false =>
      obtain ⟨acc', e', h5, h6⟩ := ih _ _ (hf rfl)
      exact ⟨acc', e', by simp only [dcompL, h1, h2, h5], h6⟩
theorem w_dcomp {vs : List Nat} {it : M (List D)} {p : Pt} {t : M Bool} {ek ev : M D} (I : Env → List D → List (Ky × D) → Env → Prop)
    (h : wp it e fun ds e1 => I e1 ds [] (wipeE e1 vs) ∧
      (∀ d ds acc e, I e1 (d :: ds) acc e → ∃ e', p d (wipeE e vs) = some e' ∧ wp t e' fun b e2 => (b = true → wp ek e2 fun x e3 => wp ev e3 fun y e4 => ∃ k, D.ky x = some k ∧ acc.length < cap ∧ I e1 ds (aput acc k y) e4) ∧ (b = false → I e1 ds acc e2)) ∧
      ∀ acc e2, I e1 [] acc e2 → QO (.k acc) (backE e1 e2 vs)) : wp (mDComp vs it p t ek ev) e QO := by
  obtain ⟨ds, e1, h1, hI, hs, hq⟩ := h
  obtain ⟨acc, e2, h2, h3⟩ := w_dcompL (I e1) hs ds [] _ hI
  exact ⟨.k acc, _, by simp only [mDComp, h1, h2], hq acc e2 h3⟩
end ex
section st
variable {e : Env} {N B C : Env → Prop} {R : Rv → Env → Prop}
theorem w_mid {a : Ms} (M : Env → Prop) (h : wpS a e M B C R) (h2 : ∀ e1, M e1 → N e1) : wpS a e N B C R := wpS_mono h h2 (fun _ z => z) (fun _ z => z) fun _ _ z => z
theorem w_odPut {j : Nat} {k v : M D} (h : wp v e fun y e1 => ∃ q0, e1[j]? = some (.od q0) ∧ wp k e1 fun x e2 => ∃ q, e2[j]? = some (.od q) ∧ ∃ q', q.put x y = some q' ∧ ∃ e3, e2.set j (.od q') = e3 ∧ N e3) : wpS (sODPut j k v) e N B C R := by
  obtain ⟨y, e1, h1, q0, h0, x, e2, h2, q, h3, q', h4, e3, h5, r⟩ := h
  exact ⟨.nx, e3, by simp only [sODPut, h1, h0, h2, h3, h4, h5], r⟩
theorem w_dnew {i : Nat} {a : M Od} (h : wp a e fun q e1 => ∃ e2, (decide (i < e1.length) = true ∧ e1.set i (.od q) = e2) ∧ N e2) : wpS (sDNew i a) e N B C R := by
  obtain ⟨x, e1, h1, e2, ⟨h2, h3⟩, q⟩ := h
  exact ⟨.nx, e2, by simp [sDNew, h1, of_decide_eq_true h2, h3], q⟩
theorem w_frzD {j : Nat} {a : Ms} {q : Od} (h0 : e[j]? = some (.od q)) (h : ∃ e2, e.set j (.im q.d) = e2 ∧ wpS a e2 N B C R) : wpS (sFrz j a) e N B C R := by
  obtain ⟨e2, h1, f, e3, h2, h3⟩ := h
  exact ⟨f, e3, by simp [sFrz, frzE, h0, h1, h2], h3⟩
end st
/-! ### look-ups -/
section
variable {κ ν : Type} [DecidableEq κ]
theorem aget_arep (k j : κ) (v : ν) : ∀ l : List (κ × ν), aget (arep l k v) j = if j = k then (if (aget l k).isSome then some v else none) else aget l j
  | [] => by simp [arep, aget]
  | p :: r => by
    have ih := aget_arep k j v r
    by_cases e1 : p.1 = k
    · by_cases e2 : j = k
      · subst e2
        simp [arep, aget, e1]
      · have e3 : ¬ p.1 = j := fun z => e2 (z.symm.trans e1)
        simp only [arep, aget, e1, if_true, e2, if_false] at ih ⊢
        have e4 : ¬ k = j := fun z => e2 z.symm
        simp only [e4, if_false]
        exact ih
    · by_cases e2 : j = k
      · subst e2
        simp only [arep, aget, e1, if_false, if_true] at ih ⊢
        exact ih
      · simp only [arep, aget, e1, if_false, e2] at ih ⊢
        by_cases e3 : p.1 = j
        · simp [e3]
        · simp only [e3, if_false]; exact ih
theorem aget_app (k j : κ) (v : ν) : ∀ l : List (κ × ν), aget l k = none → aget (l ++ [(k, v)]) j = if j = k then some v else aget l j
  | [], _ => by
    by_cases e : j = k
    · simp [aget, e]
    · have e' : ¬ k = j := fun z => e z.symm
      simp [aget, e, e']
  | p :: r, h => by
    simp only [aget] at h
    by_cases e1 : p.1 = k
    · simp [e1] at h
    · simp only [e1, if_false] at h
      have ih := aget_app k j v r h
      simp only [List.cons_append, aget]
      by_cases e2 : p.1 = j
      · have e3 : ¬ j = k := fun z => e1 (e2.trans z)
        simp [e2, e3]
      · simp only [e2, if_false]; exact ih
theorem aget_aput (l : List (κ × ν)) (k j : κ) (v : ν) : aget (aput l k v) j = if j = k then some v else aget l j := by
  unfold aput
  by_cases h : (aget l k).isSome
  · rw [if_pos h, aget_arep, if_pos h]
  · rw [if_neg h]
    exact aget_app k j v l (by cases z : aget l k with | none => rfl | some _ => rw [z] at h; simp at h)
theorem arep_keys (k : κ) (v : ν) : ∀ l : List (κ × ν), (arep l k v).map (·.1) = l.map (·.1)
  | [] => rfl
  | p :: r => by
    simp only [arep, List.map_cons, arep_keys k v r]
    congr 1
    split <;> rfl
theorem aput_keys (l : List (κ × ν)) (k : κ) (v : ν) : (aput l k v).map (·.1) = if (aget l k).isSome then l.map (·.1) else l.map (·.1) ++ [k] := by
  unfold aput
  split
  · exact arep_keys k v l
  · simp
theorem aput_len (l : List (κ × ν)) (k : κ) (v : ν) : (aput l k v).length ≤ l.length + 1 := by
  have := congrArg List.length (aput_keys l k v)
  simp only [List.length_map] at this
  rw [this]
  split <;> simp
theorem aget_mem (k : κ) : ∀ {l : List (κ × ν)}, (aget l k).isSome = true ↔ k ∈ l.map (·.1)
  | [] => by simp [aget]
  | p :: r => by
    have ih := aget_mem k (l := r)
    simp only [aget, List.map_cons, List.mem_cons]
    by_cases e : p.1 = k
    · simp [e]
    · simp only [e, if_false, ih]
      constructor
      · exact .inr
      · rintro (z | z)
        · exact absurd z.symm e
        · exact z
theorem aput_nodup {l : List (κ × ν)} (h : (l.map (·.1)).Nodup) (k : κ) (v : ν) : ((aput l k v).map (·.1)).Nodup := by
  rw [aput_keys]
  split
  · exact h
  · rename_i z
    rw [aget_mem] at z
    rw [List.nodup_append]
    exact ⟨h, by simp, fun a ha b hb => by
      simp only [List.mem_cons, List.not_mem_nil, or_false] at hb
      subst hb
      exact fun e => z (e ▸ ha)⟩
end
theorem getD_d (q : Od) (y : D) : D.getD q.d y = q.get y := by
  have z : ∀ {κ : Type} (l : List (κ × D)), (l.map (·.1)).zip (l.map (·.2)) = l := by
    intro κ l
    induction l with
    | nil => rfl
    | cons p l ih => simp [ih]
  cases q <;> simp only [Od.d, D.getD, D.od, z]
theorem x_ixD {Q : D → Prop} {q : Od} {y v : D} (h : q.get y = some (some v)) (r : Q v) : ∃ z, oIx q.d y = some z ∧ Q z := by
  refine ⟨v, ?_, r⟩
  have g := getD_d q y
  rw [h] at g
  cases q <;> (simp only [Od.d] at g ⊢; simp only [oIx, g])
theorem x_inD {Q : D → Prop} {q : Od} {y : D} {o : Option D} (h : q.get y = some o) (r : Q (.bl o.isSome)) : ∃ z, oIn y q.d = some z ∧ Q z := by
  refine ⟨_, ?_, r⟩
  have g := getD_d q y
  rw [h] at g
  cases q <;> (simp only [Od.d] at g ⊢; simp only [oIn, g])
theorem x_ninD {Q : D → Prop} {q : Od} {y : D} {o : Option D} (h : q.get y = some o) (r : Q (.bl (!o.isSome))) : ∃ z, oNotIn y q.d = some z ∧ Q z := by
  refine ⟨_, ?_, r⟩
  have g := getD_d q y
  rw [h] at g
  cases q <;> (simp only [Od.d] at g ⊢; simp only [oNotIn, g])
theorem get_k (kvs : List (Ky × D)) (i : Int) : (Od.k kvs).get (.int i) = some (aget kvs (.inl i)) := rfl
theorem get_t (kvs : List (List Ky × D)) (i j : Int) : (Od.t kvs).get (.tup [.int i, .int j]) = some (aget kvs [.inl i, .inl j]) := rfl
theorem put_k {kvs : List (Ky × D)} (h : kvs.length < cap) (i : Int) (v : D) : (Od.k kvs).put (.int i) v = some (.k (aput kvs (.inl i) v)) := by
  simp only [Od.put, Od.len, h, if_true, D.ky]
theorem put_t {kvs : List (List Ky × D)} (h : kvs.length < cap) (i j : Int) (v : D) : (Od.t kvs).put (.tup [.int i, .int j]) v = some (.t (aput kvs [.inl i, .inl j] v)) := by
  simp only [Od.put, Od.len, h, if_true, D.kys, D.ky]
end DL

/-! Small facts on counts. -/
namespace DL
open PySem
theorem e_od {e : Env} {j : Nat} {s : Od} {P : Od → Prop} (h : e[j]? = some (.od s)) (q : P s) : ∃ v, e[j]? = some (.od v) ∧ P v := ⟨_, h, q⟩
/-- (the sum of the first k, the k-th) of the numbers of ways to choose from s -/
def wy (s : Nat) : Nat → Nat × Nat
  | 0 => (0, 1)
  | k + 1 => ((wy s k).1 + (wy s k).2, (wy s k).2 * (s - k) / (k + 1))
def waysN (s r : Nat) : Nat := (wy s (min s r + 1)).1
def effN (c : Nat) : Nat := ((List.range (c + 1)).map fun r => waysN c r).sum
def pow2 (n : Nat) : Nat := 2 ^ n
def setN (c l h : Nat) : Nat := 2 ^ ((l - 1) + (c - h - 1))
def setAll (c : Nat) : Nat := ((List.range (c + 1)).map fun l => ((List.range (c + 1 - l)).map fun d => setN c l (l + d)).sum).sum
def imgN (c d : Nat) : Nat := (wy c d).2
def imgAll (c : Nat) : Nat := ((List.range (c + 1)).map fun s => (c - s + 1) * imgN c s).sum
theorem set_all : ∀ c : Nat, 1 ≤ c → c ≤ 60 → setAll c = effN c := by
  have h : (List.range 61).all (fun c => decide (1 ≤ c → setAll c = effN c)) = true := by decide +kernel
  intro c h1 h2
  have := List.all_eq_true.mp h c (List.mem_range.mpr (by omega))
  exact of_decide_eq_true this h1
theorem img_all : ∀ c : Nat, 1 ≤ c → c ≤ 60 → imgAll c = effN c := by
  have h : (List.range 61).all (fun c => decide (1 ≤ c → imgAll c = effN c)) = true := by decide +kernel
  intro c h1 h2
  have := List.all_eq_true.mp h c (List.mem_range.mpr (by omega))
  exact of_decide_eq_true this h1
/-- rows of sums -/
def prow : Nat → List Nat
  | 0 => [1]
  | n + 1 => 1 :: List.zipWith (· + ·) (prow n) ((prow n).drop 1) ++ [1]
theorem img_row : ∀ c d : Nat, c ≤ 60 → d ≤ c → (prow c)[d]? = some (imgN c d) := by
  have h : (List.range 61).all (fun c => let r := prow c; (List.range (c + 1)).all fun d => decide (r[d]? = some (imgN c d))) = true := by decide +kernel
  intro c d h1 h2
  have h3 := List.all_eq_true.mp h c (List.mem_range.mpr (by omega))
  have h4 := List.all_eq_true.mp h3 d (List.mem_range.mpr (by omega))
  exact of_decide_eq_true h4
theorem wy_small : ∀ s k : Nat, s ≤ 60 → k ≤ 61 → (wy s k).2 < 2 ^ 62 ∧ (wy s k).1 < 2 ^ 62 := by
  have h : (List.range 61).all (fun s => (List.range 62).all fun k => decide ((wy s k).2 < 2 ^ 62 ∧ (wy s k).1 < 2 ^ 62)) = true := by decide +kernel
  intro s k h1 h2
  have h3 := List.all_eq_true.mp h s (List.mem_range.mpr (by omega))
  have h4 := List.all_eq_true.mp h3 k (List.mem_range.mpr (by omega))
  exact of_decide_eq_true h4
end DL
namespace DL
open PySem
/-! counts kept in a dict by pairs -/
def CT (kvs : List (List Ky × D)) (f : Int → Int → Nat) : Prop := ∀ a b : Int, aget kvs [.inl a, .inl b] = if f a b = 0 then none else some (.int (f a b))
theorem CT.nil : CT [] fun _ _ => 0 := fun _ _ => rfl
def cnt2 (key : List Int → Int × Int) (rows : List (List Int)) (a b : Int) : Nat := (rows.filter fun r => decide (key r = (a, b))).length
theorem cnt2_app (key : List Int → Int × Int) (p : List (List Int)) (r : List Int) (a b : Int) : cnt2 key (p ++ [r]) a b = cnt2 key p a b + if key r = (a, b) then 1 else 0 := by
  unfold cnt2
  rw [List.filter_append, List.length_append]
  congr 1
  by_cases h : key r = (a, b) <;> simp [h]
theorem CT.put {kvs : List (List Ky × D)} {key : List Int → Int × Int} {p : List (List Int)} (h : CT kvs (cnt2 key p)) (r : List Int) {a b : Int} (e : key r = (a, b)) :
    CT (aput kvs [.inl a, .inl b] (.int ((cnt2 key p a b : Nat) + 1))) (cnt2 key (p ++ [r])) := by
  intro x y
  rw [aget_aput, cnt2_app]
  by_cases z : x = a ∧ y = b
  · obtain ⟨rfl, rfl⟩ := z
    rw [if_pos rfl, if_pos e, if_neg (by omega)]
    simp
  · have z1 : ¬ ([.inl x, .inl y] : List Ky) = [.inl a, .inl b] := by
      intro w
      simp only [List.cons.injEq, Sum.inl.injEq, and_true] at w
      exact z w
    have z2 : ¬ key r = (x, y) := by
      rw [e]
      intro w
      simp only [Prod.mk.injEq] at w
      exact z ⟨w.1.symm, w.2.symm⟩
    rw [if_neg z1, if_neg z2, Nat.add_zero]
    exact h x y
theorem CT.getD {kvs : List (List Ky × D)} {f : Int → Int → Nat} (h : CT kvs f) (a b : Int) : (aget kvs [.inl a, .inl b]).getD (.int 0) = .int (f a b) := by
  rw [h a b]
  split
  · rename_i z; simp [z]
  · rfl
theorem CT.get {kvs : List (List Ky × D)} {f : Int → Int → Nat} (h : CT kvs f) {a b : Int} (z : f a b ≠ 0) : aget kvs [.inl a, .inl b] = some (.int (f a b)) := by
  rw [h a b, if_neg z]
def fixK (c : Int) (row : List Int) : Int × Int := ((fixL c (rfn row)).headD 0, (fixL c (rfn row)).getLast?.getD 0)
theorem fix_small : ∀ c l h : Nat, 1 ≤ c → c ≤ 6 → l ≤ h → h ≤ c → cnt2 (fixK c) (mapsAll c) l h = setN c l h := by
  have k : (List.range 7).all (fun c => decide (1 ≤ c → ((List.range (c + 1)).all fun h => (List.range (h + 1)).all fun l => decide (cnt2 (fixK c) (mapsAll c) l h = setN c l h)) = true)) = true := by decide +kernel
  intro c l h h1 h2 h3 h4
  have k1 := of_decide_eq_true (List.all_eq_true.mp k c (List.mem_range.mpr (by omega))) h1
  have k2 := List.all_eq_true.mp k1 h (List.mem_range.mpr (by omega))
  have k3 := List.all_eq_true.mp k2 l (List.mem_range.mpr (by omega))
  exact of_decide_eq_true k3
def imgK (row : List Int) : Int × Int := (row.headD 0, row.getLast?.getD 0)
theorem img_small : ∀ c l h : Nat, 1 ≤ c → c ≤ 6 → l ≤ h → h ≤ c → cnt2 imgK (mapsAll c) l h = imgN c (h - l) := by
  have k : (List.range 7).all (fun c => decide (1 ≤ c → ((List.range (c + 1)).all fun h => (List.range (h + 1)).all fun l => decide (cnt2 imgK (mapsAll c) l h = imgN c (h - l))) = true)) = true := by decide +kernel
  intro c l h h1 h2 h3 h4
  have k1 := of_decide_eq_true (List.all_eq_true.mp k c (List.mem_range.mpr (by omega))) h1
  have k2 := List.all_eq_true.mp k1 h (List.mem_range.mpr (by omega))
  have k3 := List.all_eq_true.mp k2 l (List.mem_range.mpr (by omega))
  exact of_decide_eq_true k3
end DL
namespace DL
open PySem
theorem x_getT {P : Option D → Prop} {kvs : List (List Ky × D)} {i j : Int} (q : P (aget kvs [.inl i, .inl j])) : ∃ o, (Od.t kvs).get (.tup [.int i, .int j]) = some o ∧ P o := ⟨_, rfl, q⟩
theorem x_getTs {P : D → Prop} {kvs : List (List Ky × D)} {i j : Int} {v : D} (h : aget kvs [.inl i, .inl j] = some v) (q : P v) : ∃ v, (Od.t kvs).get (.tup [.int i, .int j]) = some (some v) ∧ P v := ⟨v, by rw [get_t, h], q⟩
theorem x_putT {P : Od → Prop} {kvs : List (List Ky × D)} {i j : Int} {v : D} (h : kvs.length < cap) (q : P (.t (aput kvs [.inl i, .inl j] v))) : ∃ o, (Od.t kvs).put (.tup [.int i, .int j]) v = some o ∧ P o := ⟨_, put_t h i j v, q⟩
theorem x_getK {P : Option D → Prop} {kvs : List (Ky × D)} {i : Int} (q : P (aget kvs (.inl i))) : ∃ o, (Od.k kvs).get (.int i) = some o ∧ P o := ⟨_, rfl, q⟩
theorem x_getKs {P : D → Prop} {kvs : List (Ky × D)} {i : Int} {v : D} (h : aget kvs (.inl i) = some v) (q : P v) : ∃ v, (Od.k kvs).get (.int i) = some (some v) ∧ P v := ⟨v, by rw [get_k, h], q⟩
theorem x_putK {P : Od → Prop} {kvs : List (Ky × D)} {i : Int} {v : D} (h : kvs.length < cap) (q : P (.k (aput kvs (.inl i) v))) : ∃ o, (Od.k kvs).put (.int i) v = some o ∧ P o := ⟨_, put_k h i v, q⟩
theorem rng_iL (a b : Int) : rng a b = iL ((List.range (b - a).toNat).map fun i : Nat => a + (i : Int)) := by
  simp only [rng, iL, List.map_map]; rfl
theorem nat_sum (f : Nat → Nat) (l : List Nat) : (l.map fun i => ((f i : Nat) : Int)).sum = (((l.map f).sum : Nat) : Int) := by
  induction l with
  | nil => rfl
  | cons a l ih => rw [List.map_cons, List.sum_cons, ih, List.map_cons, List.sum_cons]; simp
theorem mem_rg {a b x : Int} (h : x ∈ (List.range (b - a).toNat).map fun i : Nat => a + (i : Int)) : a ≤ x ∧ x < b := by
  simp only [List.mem_map, List.mem_range] at h
  obtain ⟨i, h1, rfl⟩ := h
  omega
theorem aput_len_le {κ ν : Type} [DecidableEq κ] {l : List (κ × ν)} {n : Nat} (h : l.length ≤ n) (k : κ) (v : ν) : (aput l k v).length ≤ n + 1 := Nat.le_trans (aput_len l k v) (by omega)
end DL
namespace DL
open PySem
theorem e_seqM {c : Int} {g : Int → Int} {P : List D → Prop} (q : P (iL (mapL c g))) : ∃ v, (mapD c g = .lst v ∨ mapD c g = .tup v) ∧ P v := ⟨_, .inr rfl, q⟩
theorem x_lenM {c : Int} {g : Int → Int} {Q : D → Prop} (q : Q (.int ((c + 1).toNat : Nat))) : ∃ z, fLen [mapD c g] = some z ∧ Q z := ⟨_, rfl, by rw [iL_len, mapL_len]; exact q⟩
theorem x_ixM {c : Int} {g : Int → Int} {x : Int} {Q : D → Prop} (h0 : 0 ≤ x) (h1 : x ≤ c) (q : Q (.int (g x))) : ∃ z, oIx (mapD c g) (.int x) = some z ∧ Q z := ⟨_, map_at g h0 h1, q⟩
end DL
namespace DL
open PySem
theorem mapL_last {c : Int} (h : 0 ≤ c) (g : Int → Int) : (mapL c g).getLast? = some (g c) := by
  rw [mapL, upto, List.map_map, show (c + 1).toNat = c.toNat + 1 by omega, List.range_succ, List.map_append]
  simp only [List.map_cons, List.map_nil, List.getLast?_append, List.getLast?_singleton, Function.comp, Option.some_or]
  rw [show ((c.toNat : Nat) : Int) = c by omega]
theorem map_atL {c : Int} (h : 0 ≤ c) (g : Int → Int) : at' (iL (mapL c g)) (-1) = some (.int (g c)) := at_last (getLast_iL (mapL_last h g))
theorem x_ixML {c : Int} {g : Int → Int} {Q : D → Prop} (h : 0 ≤ c) (q : Q (.int (g c))) : ∃ z, oIx (mapD c g) (.int (-1)) = some z ∧ Q z := ⟨_, map_atL h g, q⟩
theorem Eg.pw {c : Int} {g : Int → Int} (hg : Eg c g) : (mapL c g).Pairwise (· ≤ ·) := by
  rw [List.pairwise_iff_getElem]
  intro i j hi hj hij
  rw [mapL_len] at hi hj
  simp only [mapL, upto, List.getElem_map, List.getElem_range]
  exact hg.le (by omega) (by omega) (by omega)
theorem minI_first {a : Int} : ∀ {l : List Int}, (∀ x ∈ l, a ≤ x) → minI a l = a
  | [], _ => rfl
  | x :: l, h => by
    show minI (min a x) l = a
    rw [Int.min_eq_left (h x (List.mem_cons_self ..))]
    exact minI_first fun y hy => h y (List.mem_cons_of_mem _ hy)
theorem maxI_last : ∀ {l : List Int} {a : Int}, (a :: l).Pairwise (· ≤ ·) → maxI a l = (a :: l).getLast?.getD 0
  | [], a, _ => rfl
  | x :: l, a, h => by
    have h1 := List.pairwise_cons.mp h
    show maxI (max a x) l = _
    rw [Int.max_eq_right (h1.1 x (List.mem_cons_self ..)), maxI_last h1.2]
    rfl
theorem x_minM {c : Int} {g : Int → Int} {Q : D → Prop} (hg : Eg c g) (h : 0 ≤ c) (q : Q (.int (g 0))) : ∃ z, fMin [mapD c g] = some z ∧ Q z := by
  have e : mapL c g = g 0 :: (mapL c g).tail := by
    rw [mapL, upto, List.map_map, show (c + 1).toNat = c.toNat + 1 by omega, List.range_succ_eq_map]
    rfl
  have p := hg.pw
  rw [e] at p
  refine ⟨_, ?_, q⟩
  unfold mapD
  rw [e]
  simp only [fMin, ints_iL]
  rw [minI_first (List.pairwise_cons.mp p).1]
theorem x_maxM {c : Int} {g : Int → Int} {Q : D → Prop} (hg : Eg c g) (h : 0 ≤ c) (q : Q (.int (g c))) : ∃ z, fMax [mapD c g] = some z ∧ Q z := by
  have e : mapL c g = g 0 :: (mapL c g).tail := by
    rw [mapL, upto, List.map_map, show (c + 1).toNat = c.toNat + 1 by omega, List.range_succ_eq_map]
    rfl
  have p := hg.pw
  have l := mapL_last h g
  rw [e] at p l
  refine ⟨_, ?_, q⟩
  unfold mapD
  rw [e]
  simp only [fMax, ints_iL]
  rw [maxI_last p, l]
  rfl
theorem imgK_row {c : Int} (hc : 0 ≤ c) {row : List Int} (hr : row ∈ mapsAll c) : imgK row = (rfn row 0, rfn row c) := by
  obtain ⟨h1, h2⟩ := mapsN_row hc hr
  have e := mapL_last hc (rfn row)
  rw [row_back hc hr] at e
  unfold imgK
  rw [e]
  cases row with
  | nil => simp at h1
  | cons a l => rfl
end DL
namespace DL
open PySem
theorem img_pos : ∀ c d : Nat, c ≤ 60 → d ≤ c → 0 < imgN c d := by
  have h : (List.range 61).all (fun c => (List.range (c + 1)).all fun d => decide (0 < imgN c d)) = true := by decide +kernel
  intro c d h1 h2
  have h3 := List.all_eq_true.mp h c (List.mem_range.mpr (by omega))
  exact of_decide_eq_true (List.all_eq_true.mp h3 d (List.mem_range.mpr (by omega)))
end DL

/-! Dicts of ints; commands that fail. -/
namespace DL
open PySem
/-! ### dicts from ints to numbers, as lists of pairs -/
abbrev IN := List (Int × Nat)
def iDc (ps : IN) : List (Ky × D) := ps.map fun p => (.inl p.1, .int (p.2 : Nat))
def inD (ps : IN) : D := (Od.k (iDc ps)).d
theorem aget_iDc (x : Int) : ∀ ps : IN, aget (iDc ps) (.inl x) = (aget ps x).map fun n => D.int (n : Nat)
  | [] => rfl
  | p :: r => by
    have ih := aget_iDc x r
    simp only [iDc, List.map_cons, aget, Sum.inl.injEq] at ih ⊢
    by_cases e : p.1 = x
    · simp [e]
    · simp only [e, if_false]; exact ih
theorem arep_iDc (x : Int) (n : Nat) : ∀ ps : IN, arep (iDc ps) (.inl x) (.int (n : Nat)) = iDc (arep ps x n)
  | [] => rfl
  | p :: r => by
    have ih := arep_iDc x n r
    simp only [iDc, List.map_cons, arep, Sum.inl.injEq] at ih ⊢
    rw [ih]
    congr 1
    by_cases e : p.1 = x <;> simp [e]
theorem aput_iDc (ps : IN) (x : Int) (n : Nat) : aput (iDc ps) (.inl x) (.int (n : Nat)) = iDc (aput ps x n) := by
  unfold aput
  rw [aget_iDc, Option.isSome_map]
  by_cases h : (aget ps x).isSome = true
  · rw [if_pos h, if_pos h, arep_iDc]
  · rw [if_neg h, if_neg h]
    simp [iDc]
theorem iDc_len (ps : IN) : (iDc ps).length = ps.length := by simp [iDc]
theorem aget_of_mem {κ ν : Type} [DecidableEq κ] : ∀ {l : List (κ × ν)} {p : κ × ν}, (l.map (·.1)).Nodup → p ∈ l → aget l p.1 = some p.2
  | [], p, _, h => by cases h
  | q :: r, p, hn, h => by
    simp only [List.map_cons, List.nodup_cons] at hn
    simp only [aget]
    rcases List.mem_cons.mp h with rfl | h
    · simp
    · have : ¬ q.1 = p.1 := fun z => hn.1 (z ▸ List.mem_map.mpr ⟨p, h, rfl⟩)
      rw [if_neg this]
      exact aget_of_mem hn.2 h
theorem mem_of_aget {κ ν : Type} [DecidableEq κ] {k : κ} {v : ν} : ∀ {l : List (κ × ν)}, aget l k = some v → (k, v) ∈ l
  | [], h => by cases h
  | q :: r, h => by
    simp only [aget] at h
    split at h
    · rename_i e
      cases h
      exact List.mem_cons.mpr (.inl (by rw [← e]))
    · exact List.mem_cons_of_mem _ (mem_of_aget h)
/-- ordered and without doubles: fixed by what is in it -/
theorem srt_same {xs ys : List Int} (hx : xs.Pairwise (· < ·)) (hy : ys.Pairwise (· < ·)) (h : ∀ z, z ∈ xs ↔ z ∈ ys) : xs = ys := by
  have nx : xs.Nodup := hx.imp fun h e => by omega
  have ny : ys.Nodup := hy.imp fun h e => by omega
  refine srt_uniq (hx.imp fun h => Int.le_of_lt h) (hy.imp fun h => Int.le_of_lt h) ?_
  exact (List.perm_ext_iff_of_nodup nx ny).mpr h
theorem isort_lt {xs : List Int} (h : xs.Nodup) : (isort xs).Pairwise (· < ·) := by
  have h1 := isort_srt xs
  have h2 : (isort xs).Nodup := (isort_perm xs).nodup_iff.mpr h
  exact h1.imp₂ (fun a b h1 h2 => by omega) h2
theorem nd_len : ∀ (n : Nat) {l : List Int}, l.Nodup → (∀ x ∈ l, 0 ≤ x ∧ x < n) → l.length ≤ n
  | 0, l, _, h => by
    cases l with
    | nil => exact Nat.le_refl _
    | cons a r => have := h a (List.mem_cons_self ..); omega
  | n + 1, l, hn, h => by
    by_cases hm : (n : Int) ∈ l
    · have h1 := nd_len n (l := l.erase (n : Int)) (hn.erase _) fun x hx => by
        have h2 := (hn.mem_erase_iff).mp hx
        have h3 := h x h2.2
        have := h2.1
        omega
      rw [List.length_erase_of_mem hm] at h1
      omega
    · have := nd_len n hn fun x hx => by
        have h3 := h x hx
        have : x ≠ n := fun e => hm (e ▸ hx)
        omega
      omega
theorem kyInts_inl : ∀ l : List Int, kyInts (l.map Sum.inl) = some l
  | [] => rfl
  | i :: r => by simp only [List.map_cons, kyInts, kyInts_inl r]
theorem inD_keys (ps : IN) : (iDc ps).map (·.1) = (ps.map (·.1)).map Sum.inl := by simp [iDc, List.map_map, Function.comp_def]
theorem x_sortedK {Q : List D → Prop} {ps : IN} (h : ps.length < 64) (q : Q (iL (isort (ps.map (·.1))))) : ∃ z, fSorted [inD ps] = some z ∧ Q z := by
  refine ⟨_, ?_, q⟩
  simp only [inD, Od.d, fSorted, inD_keys, kyInts_inl, List.length_map, h, if_true]
  rfl
theorem x_minK {Q : D → Prop} {ps : IN} {a : Int} {l : List Int} (h : ps.map (·.1) = a :: l) (q : Q (.int (minI a l))) : ∃ z, fMin [inD ps] = some z ∧ Q z := by
  refine ⟨_, ?_, q⟩
  simp only [inD, Od.d, fMin, inD_keys, kyInts_inl, h]
theorem x_ixN {Q : D → Prop} {ps : IN} {x : Int} {n : Nat} (h : aget ps x = some n) (q : Q (.int (n : Nat))) : ∃ z, oIx (inD ps) (.int x) = some z ∧ Q z :=
  x_ixD (q := .k (iDc ps)) (by rw [get_k, aget_iDc, h]; rfl) q
theorem getD_iDc (ps : IN) (x : Int) (m : Nat) : (aget (iDc ps) (.inl x)).getD (.int (m : Nat)) = .int (((aget ps x).getD m : Nat)) := by
  rw [aget_iDc]
  cases aget ps x <;> rfl
/-! ### commands that fail -/
def nxS (m : Nat) (c : Cm) (acc : IN) (p : Int × Nat) : IN :=
  let a1 := aput acc (aft p.1 c) (min p.2 ((aget acc (aft p.1 c)).getD m))
  if p.2 < m then aput a1 p.1 (min (p.2 + 1) ((aget a1 p.1).getD m)) else a1
def nxt (m : Nat) (c : Cm) (ps : IN) : IN := ps.foldl (nxS m c) []
def rowsN (m : Nat) : List Cm → IN → List IN
  | [], ps => [ps]
  | c :: s, ps => ps :: rowsN m s (nxt m c ps)
def lastN (m : Nat) (s : List Cm) (ps : IN) : IN := s.foldl (fun ps c => nxt m c ps) ps
theorem rowsN_last (m : Nat) : ∀ (s : List Cm) (ps : IN), (rowsN m s ps).getLast? = some (lastN m s ps)
  | [], _ => rfl
  | c :: s, ps => by
    have h := rowsN_last m s (nxt m c ps)
    simp only [rowsN]
    rw [List.getLast?_cons, h]
    rfl
theorem rowsN_len (m : Nat) : ∀ (s : List Cm) (ps : IN), (rowsN m s ps).length = s.length + 1
  | [], _ => rfl
  | c :: s, ps => by simp [rowsN, rowsN_len m s]
theorem rowsN_get (m : Nat) : ∀ (s : List Cm) (ps : IN) (i : Nat), i ≤ s.length → (rowsN m s ps)[i]? = some (lastN m (s.take i) ps)
  | s, ps, 0, _ => by cases s <;> rfl
  | [], _, i + 1, h => by simp at h
  | c :: s, ps, i + 1, h => by
    simp only [rowsN, List.getElem?_cons_succ, List.take_succ_cons]
    exact rowsN_get m s _ i (by simpa using h)
/-- n commands have failed, and the level is x -/
def stU (c : Cm) (P : Nat → Int → Prop) (n : Nat) (x : Int) : Prop := (∃ y, P n y ∧ x = aft y c) ∨ ∃ k, n = k + 1 ∧ P k x
def Rc (s : List Cm) (l : Int) : Nat → Int → Prop := s.foldl (fun P c => stU c P) fun n x => n = 0 ∧ x = l
/-- the pairs are the least numbers -/
structure Bs (ps : IN) (P : Nat → Int → Prop) : Prop where
  nd : (ps.map (·.1)).Nodup
  val : ∀ p ∈ ps, P p.2 p.1 ∧ ∀ k, P k p.1 → p.2 ≤ k
  all : ∀ n x, P n x → x ∈ ps.map (·.1)
theorem Bs.congr {ps : IN} {P Q : Nat → Int → Prop} (h : Bs ps P) (e : ∀ n x, P n x ↔ Q n x) : Bs ps Q :=
  ⟨h.nd, fun p hp => ⟨(e _ _).mp (h.val p hp).1, fun k hk => (h.val p hp).2 k ((e _ _).mpr hk)⟩, fun n x hx => h.all n x ((e _ _).mpr hx)⟩
theorem Bs.get {ps : IN} {P : Nat → Int → Prop} (h : Bs ps P) {n : Nat} {x : Int} (hx : P n x) : ∃ k, aget ps x = some k ∧ k ≤ n ∧ P k x := by
  obtain ⟨p, hp, rfl⟩ := List.mem_map.mp (h.all n x hx)
  exact ⟨p.2, aget_of_mem h.nd hp, (h.val p hp).2 n hx, (h.val p hp).1⟩
/-- one more fact -/
theorem Bs.add {ps : IN} {P : Nat → Int → Prop} (h : Bs ps P) {n m : Nat} {x : Int} (hm : n ≤ m) (hb : ∀ k y, P k y → k ≤ m) : Bs (aput ps x (min n ((aget ps x).getD m))) fun k y => P k y ∨ (k = n ∧ y = x) := by
  have hv : ∃ v, min n ((aget ps x).getD m) = v ∧ v ≤ n ∧ (v = n ∨ P v x) ∧ ∀ k, P k x → v ≤ k := by
    cases e : aget ps x with
    | none =>
      refine ⟨_, rfl, by simp; omega, .inl (by simp; omega), fun k hk => ?_⟩
      obtain ⟨j, hj, _⟩ := h.get hk
      rw [e] at hj; cases hj
    | some j =>
      have hj := h.val _ (mem_of_aget e)
      refine ⟨_, rfl, by simp; omega, ?_, fun k hk => ?_⟩
      · simp only [Option.getD_some]
        rcases Nat.le_total n j with z | z
        · exact .inl (by omega)
        · exact .inr (by rw [Nat.min_eq_right z]; exact hj.1)
      · have := hj.2 k hk
        simp only [Option.getD_some]
        omega
  obtain ⟨v, e, h1, h2, h3⟩ := hv
  rw [e]
  refine ⟨aput_nodup h.nd _ _, fun p hp => ?_, fun k y hy => ?_⟩
  · have hg := aget_of_mem (aput_nodup h.nd x v) hp
    rw [aget_aput] at hg
    by_cases z : p.1 = x
    · rw [if_pos z] at hg
      have hg := Option.some.inj hg
      rw [← hg, z]
      refine ⟨h2.elim (fun w => .inr ⟨w, rfl⟩) .inl, fun k hk => ?_⟩
      rcases hk with hk | ⟨rfl, _⟩
      · exact h3 k hk
      · exact h1
    · rw [if_neg z] at hg
      have hm := h.val _ (mem_of_aget hg)
      refine ⟨.inl hm.1, fun k hk => ?_⟩
      rcases hk with hk | ⟨_, w⟩
      · exact hm.2 k hk
      · exact absurd w z
  · rw [← aget_mem, aget_aput]
    by_cases z : y = x
    · rw [if_pos z]; rfl
    · rw [if_neg z, aget_mem]
      rcases hy with hy | ⟨_, w⟩
      · exact h.all k y hy
      · exact absurd w z
theorem Bs.keep {ps : IN} {P : Nat → Int → Prop} (h : Bs ps P) {n j : Nat} {x : Int} (e : aget ps x = some j) (hj : j ≤ n) : Bs ps P ∧ ∀ k, (P k x ∨ k = n) → j ≤ k := by
  refine ⟨h, fun k hk => ?_⟩
  rcases hk with hk | rfl
  · exact (h.val _ (mem_of_aget e)).2 k hk
  · exact hj
theorem Bs.start (l : Int) : Bs [(l, 0)] fun n x => n = 0 ∧ x = l := by
  refine ⟨by simp, fun p hp => ?_, fun n x ⟨_, e⟩ => by simp [e]⟩
  simp only [List.mem_cons, List.not_mem_nil, or_false] at hp
  subst hp
  exact ⟨⟨rfl, rfl⟩, fun k _ => Nat.zero_le _⟩
theorem Bs.empty : Bs [] fun _ _ => False := ⟨by simp, fun p hp => (by cases hp), fun _ _ h => h.elim⟩
theorem nxt_bs {m : Nat} {c : Cm} {ps : IN} {P : Nat → Int → Prop} (h : Bs ps P) (hb : ∀ k y, P k y → k ≤ m) : Bs (nxt m c ps) fun n x => n ≤ m ∧ stU c P n x := by
  have key : ∀ (r : IN) (acc : IN) (Q : Nat → Int → Prop), (∀ p ∈ r, p.2 ≤ m) → Bs acc Q → (∀ k y, Q k y → k ≤ m) →
      Bs (r.foldl (nxS m c) acc) fun n x => Q n x ∨ ∃ p ∈ r, (n = p.2 ∧ x = aft p.1 c) ∨ (n = p.2 + 1 ∧ p.2 < m ∧ x = p.1) := by
    intro r
    induction r with
    | nil => intro acc Q _ hq _; exact hq.congr fun n x => by simp
    | cons p r ih =>
      intro acc Q hr hq hm
      have hp := hr p (List.mem_cons_self ..)
      have h1 := hq.add (n := p.2) (m := m) (x := aft p.1 c) hp hm
      have hm1 : ∀ k y, (Q k y ∨ (k = p.2 ∧ y = aft p.1 c)) → k ≤ m := fun k y z => by
        rcases z with z | ⟨z, _⟩
        · exact hm k y z
        · omega
      rw [List.foldl_cons]
      by_cases hlt : p.2 < m
      · have h2 := h1.add (n := p.2 + 1) (m := m) (x := p.1) (by omega) hm1
        have hm2 : ∀ k y, ((Q k y ∨ (k = p.2 ∧ y = aft p.1 c)) ∨ (k = p.2 + 1 ∧ y = p.1)) → k ≤ m := fun k y z => by
          rcases z with z | ⟨z, _⟩
          · exact hm1 k y z
          · omega
        have e : nxS m c acc p = aput (aput acc (aft p.1 c) (min p.2 ((aget acc (aft p.1 c)).getD m))) p.1 (min (p.2 + 1) ((aget (aput acc (aft p.1 c) (min p.2 ((aget acc (aft p.1 c)).getD m))) p.1).getD m)) := by
          unfold nxS; simp only [hlt, if_true]
        rw [e]
        refine (ih _ _ (fun q hq => hr q (List.mem_cons_of_mem _ hq)) h2 hm2).congr fun n x => ?_
        simp only [List.mem_cons, exists_eq_or_imp]
        constructor
        · rintro (((z | z) | z) | z)
          · exact .inl z
          · exact .inr (.inl (.inl z))
          · exact .inr (.inl (.inr ⟨z.1, hlt, z.2⟩))
          · exact .inr (.inr z)
        · rintro (z | (z | z) | z)
          · exact .inl (.inl (.inl z))
          · exact .inl (.inl (.inr z))
          · exact .inl (.inr ⟨z.1, z.2.2⟩)
          · exact .inr z
      · have e : nxS m c acc p = aput acc (aft p.1 c) (min p.2 ((aget acc (aft p.1 c)).getD m)) := by
          unfold nxS; simp only [hlt, if_false]
        rw [e]
        refine (ih _ _ (fun q hq => hr q (List.mem_cons_of_mem _ hq)) h1 hm1).congr fun n x => ?_
        simp only [List.mem_cons, exists_eq_or_imp]
        constructor
        · rintro ((z | z) | z)
          · exact .inl z
          · exact .inr (.inl (.inl z))
          · exact .inr (.inr z)
        · rintro (z | (z | z) | z)
          · exact .inl (.inl z)
          · exact .inl (.inr z)
          · exact absurd z.2.1 hlt
          · exact .inr z
  have hk := key ps [] (fun _ _ => False) (fun p hp => hb _ _ (h.val p hp).1) Bs.empty (fun _ _ z => z.elim)
  -- from the pairs to all ways
  refine ⟨hk.nd, fun p hp => ?_, fun n x hx => ?_⟩
  · obtain ⟨v1, v2⟩ := hk.val p hp
    have lo : ∀ n x, (n ≤ m ∧ stU c P n x) → ∃ k, k ≤ n ∧ ∃ p ∈ ps, (k = p.2 ∧ x = aft p.1 c) ∨ (k = p.2 + 1 ∧ p.2 < m ∧ x = p.1) := fun n x ⟨hn, hx⟩ => by
      rcases hx with ⟨y, hy, rfl⟩ | ⟨k, rfl, hy⟩
      · obtain ⟨j, hj, hle, _⟩ := h.get hy
        exact ⟨j, hle, (y, j), mem_of_aget hj, .inl ⟨rfl, rfl⟩⟩
      · obtain ⟨j, hj, hle, _⟩ := h.get hy
        exact ⟨j + 1, by omega, (x, j), mem_of_aget hj, .inr ⟨rfl, by simp only; omega, rfl⟩⟩
    refine ⟨?_, fun k hkk => ?_⟩
    · rcases v1 with z | ⟨q, hq, ⟨e1, e2⟩ | ⟨e1, e2, e3⟩⟩
      · exact z.elim
      · have := (h.val q hq).1
        exact ⟨by rw [e1]; exact hb _ _ this, .inl ⟨q.1, by rw [e1]; exact this, e2⟩⟩
      · exact ⟨by omega, .inr ⟨q.2, e1, by rw [e3]; exact (h.val q hq).1⟩⟩
    · obtain ⟨j, hj, w⟩ := lo k p.1 hkk
      exact Nat.le_trans (v2 j (.inr w)) hj
  · obtain ⟨hn, hx⟩ := hx
    rcases hx with ⟨y, hy, rfl⟩ | ⟨k, rfl, hy⟩
    · obtain ⟨j, hj, hle, _⟩ := h.get hy
      exact hk.all j _ (.inr ⟨(y, j), mem_of_aget hj, .inl ⟨rfl, rfl⟩⟩)
    · obtain ⟨j, hj, hle, _⟩ := h.get hy
      exact hk.all (j + 1) _ (.inr ⟨(x, j), mem_of_aget hj, .inr ⟨rfl, by simp only; omega, rfl⟩⟩)
theorem stU_cut {c : Cm} {m : Nat} {P : Nat → Int → Prop} {n : Nat} {x : Int} : (n ≤ m ∧ stU c (fun n x => n ≤ m ∧ P n x) n x) ↔ (n ≤ m ∧ stU c P n x) := by
  constructor
  · rintro ⟨h, ⟨y, hy, e⟩ | ⟨k, e, hy⟩⟩
    · exact ⟨h, .inl ⟨y, hy.2, e⟩⟩
    · exact ⟨h, .inr ⟨k, e, hy.2⟩⟩
  · rintro ⟨h, ⟨y, hy, e⟩ | ⟨k, e, hy⟩⟩
    · exact ⟨h, .inl ⟨y, ⟨h, hy⟩, e⟩⟩
    · exact ⟨h, .inr ⟨k, e, by omega, hy⟩⟩
theorem lastN_bs (m : Nat) (s : List Cm) (l : Int) : Bs (lastN m s [(l, 0)]) fun n x => n ≤ m ∧ Rc s l n x := by
  have key : ∀ (s : List Cm) (ps : IN) (P : Nat → Int → Prop), Bs ps (fun n x => n ≤ m ∧ P n x) → Bs (lastN m s ps) fun n x => n ≤ m ∧ (s.foldl (fun P c => stU c P) P) n x := by
    intro s
    induction s with
    | nil => intro ps P h; exact h
    | cons c s ih =>
      intro ps P h
      exact ih _ _ ((nxt_bs (c := c) h fun k y z => z.1).congr fun n x => stU_cut)
  exact key s _ _ ((Bs.start l).congr fun n x => ⟨fun h => ⟨by omega, h⟩, fun h => h.2⟩)
theorem Rc_ok {c : Int} {s : List Cm} (hs : ∀ x ∈ s, x.ok c) {l : Int} (hl : Lok c l) : ∀ {n : Nat} {x : Int}, Rc s l n x → Lok c x := by
  have key : ∀ (s : List Cm) (P : Nat → Int → Prop), (∀ x ∈ s, x.ok c) → (∀ n x, P n x → Lok c x) → ∀ n x, (s.foldl (fun P c => stU c P) P) n x → Lok c x := by
    intro s
    induction s with
    | nil => intro P _ h; exact h
    | cons k s ih =>
      intro P hs h
      refine ih _ (fun x hx => hs x (List.mem_cons_of_mem _ hx)) fun n x hx => ?_
      rcases hx with ⟨y, hy, rfl⟩ | ⟨j, _, hy⟩
      · exact aft_ok (hs k (List.mem_cons_self ..)) (h n y hy)
      · exact h j x hy
  exact fun {n x} h => key s _ hs (fun n x z => by rw [z.2]; exact hl) n x h
end DL
namespace DL
open PySem
theorem x_putKN {P : Od → Prop} {ps : IN} {x i : Int} {n : Nat} (e : i = n) (h : ps.length ≤ 1000000) (q : P (.k (iDc (aput ps x n)))) : ∃ o, (Od.k (iDc ps)).put (.int x) (.int i) = some o ∧ P o := by
  subst e
  refine x_putK (by rw [iDc_len]; unfold cap; omega) ?_
  rw [aput_iDc]
  exact q
theorem iDc_keys (ps : IN) : (iDc ps).map (fun p => kyD p.1) = ps.map fun q => D.int q.1 := by simp [iDc, kyD]
theorem nxS_snoc (m : Nat) (c : Cm) (p : IN) (q : Int × Nat) : (p ++ [q]).foldl (nxS m c) [] = nxS m c (p.foldl (nxS m c) []) q := by simp
theorem nxS_len {m : Nat} {c : Cm} {acc : IN} {q : Int × Nat} {n : Nat} (h : acc.length ≤ n) : (nxS m c acc q).length ≤ n + 2 := by
  unfold nxS
  simp only
  split
  · exact aput_len_le (aput_len_le h _ _) _ _
  · exact Nat.le_trans (aput_len_le h _ _) (by omega)
end DL
namespace DL
open PySem
theorem rowsN_snoc (m : Nat) (c : Cm) : ∀ (s : List Cm) (ps : IN), rowsN m (s ++ [c]) ps = rowsN m s ps ++ [nxt m c (lastN m s ps)]
  | [], _ => rfl
  | k :: s, ps => by
    have h := rowsN_snoc m c s (nxt m k ps)
    simp only [List.cons_append, rowsN, h]
    rfl
def endsL (m : Nat) (s : List Cm) (l : Int) : List Int := isort ((lastN m s [(l, 0)]).map (·.1))
theorem keys_mem {m : Nat} {s : List Cm} {l x : Int} : x ∈ (lastN m s [(l, 0)]).map (·.1) ↔ ∃ n, n ≤ m ∧ Rc s l n x := by
  have h := lastN_bs m s l
  constructor
  · intro hx
    obtain ⟨p, hp, rfl⟩ := List.mem_map.mp hx
    exact ⟨p.2, (h.val p hp).1⟩
  · rintro ⟨n, hn⟩
    exact h.all n x hn
theorem ends_mem {m : Nat} {s : List Cm} {l x : Int} : x ∈ endsL m s l ↔ ∃ n, n ≤ m ∧ Rc s l n x := by
  unfold endsL
  rw [(isort_perm _).mem_iff]
  exact keys_mem
theorem ends_lt (m : Nat) (s : List Cm) (l : Int) : (endsL m s l).Pairwise (· < ·) := isort_lt (lastN_bs m s l).nd
theorem last_len {c : Int} {m : Nat} {s : List Cm} {l : Int} (hs : ∀ x ∈ s, x.ok c) (hl : Lok c l) : (lastN m s [(l, 0)]).length ≤ (c + 1).toNat := by
  have h := nd_len (c + 1).toNat (lastN_bs m s l).nd fun x hx => by
    obtain ⟨n, _, hr⟩ := keys_mem.mp hx
    have := Rc_ok hs hl hr
    omega
  rwa [List.length_map] at h
theorem ends_len {c : Int} {m : Nat} {s : List Cm} {l : Int} (hs : ∀ x ∈ s, x.ok c) (hl : Lok c l) : (endsL m s l).length ≤ (c + 1).toNat := by
  unfold endsL
  rw [isort_len, List.length_map]
  exact last_len hs hl
theorem Rc_snoc (s : List Cm) (c : Cm) (l : Int) : Rc (s ++ [c]) l = stU c (Rc s l) := by simp [Rc]
theorem Rc_fin (s : List Cm) (l : Int) : Rc s l 0 (fin s l) := by
  have key : ∀ (s : List Cm) (P : Nat → Int → Prop) (x : Int), P 0 x → (s.foldl (fun P c => stU c P) P) 0 (fin s x) := by
    intro s
    induction s with
    | nil => intro P x h; exact h
    | cons c s ih => intro P x h; exact ih _ (aft x c) (.inl ⟨x, h, rfl⟩)
  exact key s _ l ⟨rfl, rfl⟩
theorem Rc_stay (s : List Cm) (l : Int) : Rc s l s.length l := by
  have key : ∀ (s : List Cm) (P : Nat → Int → Prop) (n : Nat), P n l → (s.foldl (fun P c => stU c P) P) (n + s.length) l := by
    intro s
    induction s with
    | nil => intro P n h; exact h
    | cons c s ih =>
      intro P n h
      have := ih (stU c P) (n + 1) (.inr ⟨n, rfl, h⟩)
      rw [List.length_cons, show n + (s.length + 1) = n + 1 + s.length by omega]
      exact this
  have := key s (fun n x => n = 0 ∧ x = l) 0 ⟨rfl, rfl⟩
  rw [Nat.zero_add] at this
  exact this
/-! ### sets of failed commands -/
def subsN (m : Nat) : Nat → List (List Int)
  | 0 => [[]]
  | i + 1 => subsN m i ++ ((subsN m i).filter fun o => decide (o.length < m)).map fun o => o ++ [(i : Int)]
theorem subsN_len (m : Nat) : ∀ i, (subsN m i).length ≤ 2 ^ i
  | 0 => by simp [subsN]
  | i + 1 => by
    have h := subsN_len m i
    have h2 := List.length_filter_le (fun o : List Int => decide (o.length < m)) (subsN m i)
    simp only [subsN, List.length_append, List.length_map]
    rw [Nat.pow_succ]
    omega
theorem subsN_in (m : Nat) : ∀ i, ∀ o ∈ subsN m i, (∀ x ∈ o, 0 ≤ x ∧ x < i) ∧ o.length ≤ i
  | 0, o, h => by
    simp only [subsN, List.mem_cons, List.not_mem_nil, or_false] at h
    subst h
    exact ⟨fun x h => (by cases h), Nat.le_refl _⟩
  | i + 1, o, h => by
    simp only [subsN, List.mem_append, List.mem_map, List.mem_filter] at h
    rcases h with h | ⟨o, ⟨h, _⟩, rfl⟩
    · have := subsN_in m i o h
      exact ⟨fun x hx => by have := this.1 x hx; omega, by omega⟩
    · have h2 := subsN_in m i o h
      refine ⟨fun x hx => ?_, by simp; omega⟩
      rcases List.mem_append.mp hx with hx | hx
      · have := h2.1 x hx; omega
      · simp only [List.mem_cons, List.not_mem_nil, or_false] at hx
        omega
def fst1 (ch : List Int) (st : Nat × Int) (c : Cm) : Nat × Int := (st.1 + 1, if (st.1 : Int) ∈ ch then st.2 else aft st.2 c)
def fnd (s : List Cm) (ch : List Int) (l : Int) : Nat × Int := s.foldl (fst1 ch) (0, l)
/-- the levels, the start first -/
def flv (ch : List Int) : List Cm → Nat → Int → List Int
  | [], _, x => [x]
  | c :: s, i, x => x :: flv ch s (i + 1) (if (i : Int) ∈ ch then x else aft x c)
theorem flv_last (ch : List Int) : ∀ (s : List Cm) (i : Nat) (x : Int), (flv ch s i x).getLast? = some (s.foldl (fst1 ch) (i, x)).2
  | [], _, _ => rfl
  | c :: s, i, x => by
    have h := flv_last ch s (i + 1) (if (i : Int) ∈ ch then x else aft x c)
    simp only [flv]
    rw [List.getLast?_cons, h]
    rfl
theorem flv_len (ch : List Int) : ∀ (s : List Cm) (i : Nat) (x : Int), (flv ch s i x).length = s.length + 1
  | [], _, _ => rfl
  | c :: s, i, x => by simp [flv, flv_len ch s]
theorem flv_get (ch : List Int) : ∀ (s : List Cm) (i : Nat) (x : Int) (j : Nat), j ≤ s.length → (flv ch s i x)[j]? = some ((s.take j).foldl (fst1 ch) (i, x)).2
  | s, i, x, 0, _ => by cases s <;> rfl
  | [], _, _, j + 1, h => by simp at h
  | c :: s, i, x, j + 1, h => by
    simp only [flv, List.getElem?_cons_succ, List.take_succ_cons, List.foldl_cons]
    exact flv_get ch s (i + 1) _ j (by simpa using h)
theorem fst1_congr {ch ch' : List Int} : ∀ (s : List Cm) (i : Nat) (x : Int), (∀ j : Nat, i ≤ j → j < i + s.length → ((j : Int) ∈ ch ↔ (j : Int) ∈ ch')) → s.foldl (fst1 ch) (i, x) = s.foldl (fst1 ch') (i, x)
  | [], _, _, _ => rfl
  | c :: s, i, x, h => by
    have h0 := h i (Nat.le_refl _) (by simp)
    have e : fst1 ch (i, x) c = fst1 ch' (i, x) c := by
      unfold fst1
      simp only [h0]
    rw [List.foldl_cons, List.foldl_cons, e]
    exact fst1_congr s (i + 1) _ fun j h1 h2 => h j (by omega) (by simp only [List.length_cons]; omega)
theorem fnd_fst (ch : List Int) : ∀ (s : List Cm) (i : Nat) (x : Int), (s.foldl (fst1 ch) (i, x)).1 = i + s.length
  | [], _, _ => rfl
  | c :: s, i, x => by rw [List.foldl_cons, fst1, fnd_fst ch s]; simp only [List.length_cons]; omega
theorem subs_rc (m : Nat) (s : List Cm) (l : Int) : ∀ (k : Nat), k ≤ s.length → ∀ n x, (∃ ch ∈ subsN m k, ch.length = n ∧ (fnd (s.take k) ch l).2 = x) ↔ (n ≤ m ∧ Rc (s.take k) l n x)
  | 0, _, n, x => by
    simp only [subsN, List.mem_cons, List.not_mem_nil, or_false, exists_eq_left, List.length_nil, List.take_zero]
    show (0 = n ∧ l = x) ↔ (n ≤ m ∧ n = 0 ∧ x = l)
    constructor
    · rintro ⟨rfl, rfl⟩; exact ⟨Nat.zero_le _, rfl, rfl⟩
    · rintro ⟨_, rfl, rfl⟩; exact ⟨rfl, rfl⟩
  | k + 1, hk, n, x => by
    have ih := subs_rc m s l k (by omega)
    have hlt : k < s.length := by omega
    have et : s.take (k + 1) = s.take k ++ [s[k]] := by rw [List.take_add_one, List.getElem?_eq_getElem hlt]; rfl
    have hl : (s.take k).length = k := by rw [List.length_take]; omega
    rw [et, Rc_snoc]
    have st : ∀ ch, (fnd (s.take k ++ [s[k]]) ch l).2 = if (k : Int) ∈ ch then (fnd (s.take k) ch l).2 else aft (fnd (s.take k) ch l).2 s[k] := by
      intro ch
      have e1 : (fnd (s.take k) ch l).1 = k := by unfold fnd; rw [fnd_fst, hl]; omega
      unfold fnd at e1 ⊢
      rw [List.foldl_append, List.foldl_cons, List.foldl_nil, fst1]
      simp only [e1]
    have same : ∀ o ∈ subsN m k, (fnd (s.take k) (o ++ [(k : Int)]) l) = fnd (s.take k) o l := by
      intro o ho
      refine fst1_congr _ _ _ fun j h1 h2 => ?_
      simp only [List.mem_append, List.mem_cons, List.not_mem_nil, or_false]
      constructor
      · rintro (z | z)
        · exact z
        · omega
      · exact .inl
    constructor
    · rintro ⟨ch, hch, rfl, rfl⟩
      rw [st]
      simp only [subsN, List.mem_append, List.mem_map, List.mem_filter] at hch
      rcases hch with hch | ⟨o, ⟨ho, hlt2⟩, rfl⟩
      · have nm : ¬ (k : Int) ∈ ch := fun z => by have := (subsN_in m k ch hch).1 _ z; omega
        rw [if_neg nm]
        obtain ⟨h1, h2⟩ := (ih ch.length (fnd (s.take k) ch l).2).mp ⟨ch, hch, rfl, rfl⟩
        exact ⟨h1, .inl ⟨_, h2, rfl⟩⟩
      · rw [if_pos (by simp), same o ho]
        obtain ⟨h1, h2⟩ := (ih o.length (fnd (s.take k) o l).2).mp ⟨o, ho, rfl, rfl⟩
        have hlt2 := of_decide_eq_true hlt2
        exact ⟨by simp; omega, .inr ⟨o.length, by simp, h2⟩⟩
    · rintro ⟨hn, ⟨y, hy, rfl⟩ | ⟨j, rfl, hy⟩⟩
      · obtain ⟨ch, hch, h1, h2⟩ := (ih n y).mpr ⟨hn, hy⟩
        have nm : ¬ (k : Int) ∈ ch := fun z => by have := (subsN_in m k ch hch).1 _ z; omega
        exact ⟨ch, by simp only [subsN, List.mem_append]; exact .inl hch, h1, by rw [st, if_neg nm, h2]⟩
      · obtain ⟨ch, hch, h1, h2⟩ := (ih j x).mpr ⟨by omega, hy⟩
        refine ⟨ch ++ [(k : Int)], ?_, by simp [h1], ?_⟩
        · simp only [subsN, List.mem_append, List.mem_map, List.mem_filter]
          exact .inr ⟨ch, ⟨hch, decide_eq_true (by omega)⟩, rfl⟩
        · rw [st, if_pos (by simp), same ch hch, h2]
/-- k in a tuple of ints -/
theorem any_mem (i : Int) : ∀ L : List Int, ((iL L).any fun z => D.eqv z (.int i)) = decide (i ∈ L)
  | [] => by simp [iL]
  | a :: L => by
    have ih := any_mem i L
    simp only [iL, List.map_cons, List.any_cons, D.eqv, List.mem_cons] at ih ⊢
    rw [ih]
    by_cases e : a = i
    · simp [e]
    · have e2 : ¬ i = a := fun z => e z.symm
      simp [e, e2]
theorem x_inL {Q : D → Prop} {i : Int} {L : List Int} (h : L.length ≤ cap) (q : Q (.bl (decide (i ∈ L)))) : ∃ z, oIn (.int i) (tD L) = some z ∧ Q z := by
  have w := (Wl.ints h).both
  have h1 : D.plL (iL L) = true := by simpa [D.pl] using w.1
  have h2 : D.depL (iL L) ≤ 60 := by have := w.2; simp only [D.dep] at this; omega
  refine ⟨_, ?_, q⟩
  simp only [oIn, tD, ok_int, h1, h2, decide_true, Bool.and_true, if_true, any_mem]
/-! ### the other count of failed commands -/
def lput (m : Nat) (acc : IN) (n : Nat) (x : Int) : IN := if n ≤ m ∧ n < (aget acc x).getD (m + 1) then aput acc x n else acc
theorem lput_bs {m : Nat} {acc : IN} {Q : Nat → Int → Prop} (h : Bs acc Q) (hb : ∀ k y, Q k y → k ≤ m) (n : Nat) (x : Int) : Bs (lput m acc n x) fun k y => Q k y ∨ (n ≤ m ∧ k = n ∧ y = x) := by
  unfold lput
  by_cases hn : n ≤ m
  · by_cases hlt : n < (aget acc x).getD (m + 1)
    · rw [if_pos ⟨hn, hlt⟩]
      have e : n = min n ((aget acc x).getD m) := by
        cases z : aget acc x with
        | none => simp; omega
        | some j => rw [z] at hlt; simp at hlt ⊢; omega
      have h2 := h.add (n := n) (m := m) (x := x) hn hb
      rw [← e] at h2
      exact h2.congr fun k y => ⟨fun z => z.elim .inl fun z => .inr ⟨hn, z⟩, fun z => z.elim .inl fun z => .inr z.2⟩
    · rw [if_neg (fun z => hlt z.2)]
      cases z : aget acc x with
      | none => rw [z] at hlt; simp at hlt; omega
      | some j =>
        rw [z] at hlt
        simp at hlt
        refine ⟨h.nd, fun p hp => ⟨.inl (h.val p hp).1, fun k hk => ?_⟩, fun k y hy => ?_⟩
        · rcases hk with hk | ⟨_, rfl, w⟩
          · exact (h.val p hp).2 k hk
          · have := aget_of_mem h.nd hp
            rw [w, z] at this
            cases this
            exact hlt
        · rcases hy with hy | ⟨_, _, rfl⟩
          · exact h.all k y hy
          · rw [← aget_mem, z]; rfl
  · rw [if_neg (fun z => hn z.1)]
    exact h.congr fun k y => ⟨.inl, fun z => z.elim id fun w => absurd w.1 hn⟩
def leS (m : Nat) (c : Cm) (acc : IN) (p : Int × Nat) : IN := lput m (lput m acc p.2 (aft p.1 c)) (p.2 + 1) p.1
def leN (m : Nat) (c : Cm) (ps : IN) : IN := ps.foldl (leS m c) []
def leA (m : Nat) (s : List Cm) (ps : IN) : IN := s.foldl (fun ps c => leN m c ps) ps
theorem leN_bs {m : Nat} {c : Cm} {ps : IN} {P : Nat → Int → Prop} (h : Bs ps P) (hb : ∀ k y, P k y → k ≤ m) : Bs (leN m c ps) fun n x => n ≤ m ∧ stU c P n x := by
  have key : ∀ (r : IN) (acc : IN) (Q : Nat → Int → Prop), Bs acc Q → (∀ k y, Q k y → k ≤ m) →
      Bs (r.foldl (leS m c) acc) fun n x => Q n x ∨ ∃ p ∈ r, (p.2 ≤ m ∧ n = p.2 ∧ x = aft p.1 c) ∨ (p.2 + 1 ≤ m ∧ n = p.2 + 1 ∧ x = p.1) := by
    intro r
    induction r with
    | nil => intro acc Q hq _; exact hq.congr fun n x => by simp
    | cons p r ih =>
      intro acc Q hq hm
      have h1 := lput_bs hq hm p.2 (aft p.1 c)
      have hm1 : ∀ k y, (Q k y ∨ (p.2 ≤ m ∧ k = p.2 ∧ y = aft p.1 c)) → k ≤ m := fun k y z => by
        rcases z with z | ⟨z, rfl, _⟩
        · exact hm k y z
        · exact z
      have h2 := lput_bs h1 hm1 (p.2 + 1) p.1
      have hm2 : ∀ k y, ((Q k y ∨ (p.2 ≤ m ∧ k = p.2 ∧ y = aft p.1 c)) ∨ (p.2 + 1 ≤ m ∧ k = p.2 + 1 ∧ y = p.1)) → k ≤ m := fun k y z => by
        rcases z with z | ⟨z, rfl, _⟩
        · exact hm1 k y z
        · exact z
      rw [List.foldl_cons]
      refine (ih _ _ h2 hm2).congr fun n x => ?_
      simp only [List.mem_cons, exists_eq_or_imp]
      constructor
      · rintro (((z | z) | z) | z)
        · exact .inl z
        · exact .inr (.inl (.inl z))
        · exact .inr (.inl (.inr z))
        · exact .inr (.inr z)
      · rintro (z | (z | z) | z)
        · exact .inl (.inl (.inl z))
        · exact .inl (.inl (.inr z))
        · exact .inl (.inr z)
        · exact .inr z
  have hk := key ps [] (fun _ _ => False) Bs.empty (fun _ _ z => z.elim)
  refine ⟨hk.nd, fun p hp => ?_, fun n x hx => ?_⟩
  · obtain ⟨v1, v2⟩ := hk.val p hp
    refine ⟨?_, fun k hkk => ?_⟩
    · rcases v1 with z | ⟨q, hq, ⟨e0, e1, e2⟩ | ⟨e0, e1, e2⟩⟩
      · exact z.elim
      · exact ⟨by omega, .inl ⟨q.1, by rw [e1]; exact (h.val q hq).1, e2⟩⟩
      · exact ⟨by omega, .inr ⟨q.2, e1, by rw [e2]; exact (h.val q hq).1⟩⟩
    · obtain ⟨hn, hx⟩ := hkk
      rcases hx with ⟨y, hy, e⟩ | ⟨i, rfl, hy⟩
      · obtain ⟨j, hj, hle, _⟩ := h.get hy
        exact Nat.le_trans (v2 j (.inr ⟨(y, j), mem_of_aget hj, .inl ⟨by simp only; omega, rfl, e⟩⟩)) hle
      · obtain ⟨j, hj, hle, _⟩ := h.get hy
        exact Nat.le_trans (v2 (j + 1) (.inr ⟨(p.1, j), mem_of_aget hj, .inr ⟨by simp only; omega, rfl, rfl⟩⟩)) (by omega)
  · obtain ⟨hn, hx⟩ := hx
    rcases hx with ⟨y, hy, e⟩ | ⟨i, rfl, hy⟩
    · obtain ⟨j, hj, hle, _⟩ := h.get hy
      exact hk.all j _ (.inr ⟨(y, j), mem_of_aget hj, .inl ⟨by simp only; omega, rfl, e⟩⟩)
    · obtain ⟨j, hj, hle, _⟩ := h.get hy
      exact hk.all (j + 1) _ (.inr ⟨(x, j), mem_of_aget hj, .inr ⟨by simp only; omega, rfl, rfl⟩⟩)
theorem leA_bs (m : Nat) (s : List Cm) (l : Int) : Bs (leA m s [(l, 0)]) fun n x => n ≤ m ∧ Rc s l n x := by
  have key : ∀ (s : List Cm) (ps : IN) (P : Nat → Int → Prop), Bs ps (fun n x => n ≤ m ∧ P n x) → Bs (leA m s ps) fun n x => n ≤ m ∧ (s.foldl (fun P c => stU c P) P) n x := by
    intro s
    induction s with
    | nil => intro ps P h; exact h
    | cons c s ih =>
      intro ps P h
      exact ih _ _ ((leN_bs (c := c) h fun k y z => z.1).congr fun n x => stU_cut)
  exact key s _ _ ((Bs.start l).congr fun n x => ⟨fun h => ⟨by omega, h⟩, fun h => h.2⟩)
theorem leA_sort (m : Nat) (s : List Cm) (l : Int) : isort ((leA m s [(l, 0)]).map (·.1)) = endsL m s l := by
  have h := leA_bs m s l
  refine srt_same (isort_lt h.nd) (ends_lt m s l) fun z => ?_
  rw [(isort_perm _).mem_iff, ends_mem]
  constructor
  · intro hz
    obtain ⟨p, hp, rfl⟩ := List.mem_map.mp hz
    exact ⟨p.2, (h.val p hp).1⟩
  · rintro ⟨n, hn⟩
    exact h.all n z hn
theorem leA_len {c : Int} {m : Nat} {s : List Cm} {l : Int} (hs : ∀ x ∈ s, x.ok c) (hl : Lok c l) : (leA m s [(l, 0)]).length ≤ (c + 1).toNat := by
  have h := leA_bs m s l
  have h2 := nd_len (c + 1).toNat h.nd fun x hx => by
    obtain ⟨p, hp, rfl⟩ := List.mem_map.mp hx
    have := Rc_ok hs hl (h.val p hp).1.2
    omega
  rwa [List.length_map] at h2
/-! ### lists that are walked by hand -/
section
variable {e : Env} {N B C : Env → Prop} {R : Rv → Env → Prop}
theorem w_fnil {p : Pt} {b : Ms} (h : N e) : wpS (forL p b []) e N B C R := ⟨.nx, e, rfl, h⟩
theorem w_fcons {p : Pt} {b : Ms} {d : D} {ds : List D} (h : ∃ e1, p d e = some e1 ∧ wpS b e1 (fun e2 => wpS (forL p b ds) e2 N B C R) N (fun e2 => wpS (forL p b ds) e2 N B C R) R) : wpS (forL p b (d :: ds)) e N B C R := by
  obtain ⟨e1, h1, f, e2, h2, h3⟩ := h
  cases f with
  | nx => obtain ⟨g, e3, h4, h5⟩ := h3; exact ⟨g, e3, by simp only [forL, h1, h2, h4], h5⟩
  | ct => obtain ⟨g, e3, h4, h5⟩ := h3; exact ⟨g, e3, by simp only [forL, h1, h2, h4], h5⟩
  | bk => exact ⟨.nx, e2, by simp only [forL, h1, h2], h3⟩
  | ret r => exact ⟨.ret r, e2, by simp only [forL, h1, h2], h3⟩
end
/-! ### keys alone -/
def bDc (ks : List (Int × Bool)) : List (Ky × D) := ks.map fun p => (.inl p.1, .bl p.2)
theorem aget_bDc (x : Int) : ∀ ps : List (Int × Bool), aget (bDc ps) (.inl x) = (aget ps x).map .bl
  | [] => rfl
  | p :: r => by
    have ih := aget_bDc x r
    simp only [bDc, List.map_cons, aget, Sum.inl.injEq] at ih ⊢
    by_cases e : p.1 = x
    · simp [e]
    · simp only [e, if_false]; exact ih
theorem arep_bDc (x : Int) (n : Bool) : ∀ ps : List (Int × Bool), arep (bDc ps) (.inl x) (.bl n) = bDc (arep ps x n)
  | [] => rfl
  | p :: r => by
    have ih := arep_bDc x n r
    simp only [bDc, List.map_cons, arep, Sum.inl.injEq] at ih ⊢
    rw [ih]
    congr 1
    by_cases e : p.1 = x <;> simp [e]
theorem aput_bDc (ps : List (Int × Bool)) (x : Int) (n : Bool) : aput (bDc ps) (.inl x) (.bl n) = bDc (aput ps x n) := by
  unfold aput
  rw [aget_bDc, Option.isSome_map]
  by_cases h : (aget ps x).isSome = true
  · rw [if_pos h, if_pos h, arep_bDc]
  · rw [if_neg h, if_neg h]
    simp [bDc]
theorem aput_mem {κ ν : Type} [DecidableEq κ] (l : List (κ × ν)) (k : κ) (v : ν) (y : κ) : y ∈ (aput l k v).map (·.1) ↔ y ∈ l.map (·.1) ∨ y = k := by
  rw [← aget_mem, ← aget_mem, aget_aput]
  by_cases e : y = k <;> simp [e]
theorem bDc_len (ps : List (Int × Bool)) : (bDc ps).length = ps.length := by simp [bDc]
theorem x_sortedB {Q : List D → Prop} {ps : List (Int × Bool)} (h : ps.length < 64) (q : Q (iL (isort (ps.map (·.1))))) : ∃ z, fSorted [(Od.k (bDc ps)).d] = some z ∧ Q z := by
  have e : (bDc ps).map (·.1) = (ps.map (·.1)).map Sum.inl := by simp [bDc, List.map_map, Function.comp_def]
  refine ⟨_, ?_, q⟩
  simp only [Od.d, fSorted, e, kyInts_inl, List.length_map, h, if_true]
  rfl
end DL
namespace DL
open PySem
theorem x_lenR {Q : D → Prop} {row : List Int} (q : Q (.int row.length)) : ∃ z, fLen [tD row] = some z ∧ Q z := ⟨_, rfl, by rw [iL_len]; exact q⟩
theorem enum_sch : ∀ (s : List Cm) (i : Nat), enumD i (schL s) = (s.zipIdx i).map fun p => .tup [.int (p.2 : Nat), p.1.d]
  | [], _ => rfl
  | c :: s, i => by
    have h := enum_sch s (i + 1)
    simp only [schL, List.map_cons, enumD, List.zipIdx_cons] at h ⊢
    rw [h]
end DL

/-! The least level behind commands of which some fail. -/
namespace DL
open PySem
theorem mnI_le : ∀ (l : List Int) (a v : Int), v ≤ minI a l ↔ v ≤ a ∧ ∀ y ∈ l, v ≤ y
  | [], a, v => by simp [minI]
  | x :: l, a, v => by
    have h := mnI_le l (min a x) v
    show v ≤ minI (min a x) l ↔ _
    rw [h]
    simp only [List.mem_cons, forall_eq_or_imp]
    constructor
    · rintro ⟨h1, h2⟩; exact ⟨by omega, by omega, h2⟩
    · rintro ⟨h1, h2, h3⟩; exact ⟨by omega, h3⟩
def mnK (m : Nat) (s : List Cm) (l : Int) : Int := match (lastN m s [(l, 0)]).map (·.1) with
  | [] => 0
  | a :: r => minI a r
theorem lastN_ne (m : Nat) (s : List Cm) (l : Int) : ∃ a r, (lastN m s [(l, 0)]).map (·.1) = a :: r := by
  have h := (keys_mem (m := m) (s := s) (l := l)).mpr ⟨0, Nat.zero_le _, Rc_fin s l⟩
  generalize (lastN m s [(l, 0)]).map (·.1) = xs at h ⊢
  cases xs with
  | nil => cases h
  | cons a r => exact ⟨a, r, rfl⟩
theorem mnK_le {m : Nat} {s : List Cm} {l v : Int} : v ≤ mnK m s l ↔ ∀ n x, n ≤ m → Rc s l n x → v ≤ x := by
  obtain ⟨a, r, e⟩ := lastN_ne m s l
  have k := fun x => keys_mem (m := m) (s := s) (l := l) (x := x)
  unfold mnK
  rw [e] at k ⊢
  simp only [mnI_le]
  constructor
  · rintro ⟨h1, h2⟩ n x hn hx
    rcases List.mem_cons.mp ((k x).mpr ⟨n, hn, hx⟩) with rfl | z
    · exact h1
    · exact h2 x z
  · intro h
    refine ⟨?_, fun y hy => ?_⟩
    · obtain ⟨n, h1, h2⟩ := (k a).mp (List.mem_cons_self ..); exact h n a h1 h2
    · obtain ⟨n, h1, h2⟩ := (k y).mp (List.mem_cons_of_mem _ hy); exact h n y h1 h2
theorem x_minR {Q : D → Prop} {m : Nat} {s : List Cm} {l : Int} (q : Q (.int (mnK m s l))) : ∃ z, fMin [inD (lastN m s [(l, 0)])] = some z ∧ Q z := by
  obtain ⟨a, r, e⟩ := lastN_ne m s l
  refine x_minK e ?_
  unfold mnK at q
  rw [e] at q
  exact q
theorem x_minE {Q : D → Prop} {m : Nat} {s : List Cm} {l : Int} (q : Q (.int (mnK m s l))) : ∃ z, fMin [.lst (iL (endsL m s l))] = some z ∧ Q z := by
  have k := fun x => ends_mem (m := m) (s := s) (l := l) (x := x)
  have h := (k _).mpr ⟨0, Nat.zero_le _, Rc_fin s l⟩
  generalize endsL m s l = xs at h k ⊢
  cases xs with
  | nil => cases h
  | cons a r =>
    refine ⟨_, ?_, q⟩
    simp only [fMin, ints_iL]
    congr 2
    refine Int.le_antisymm ?_ ?_
    · rw [mnK_le]
      intro n x hn hx
      have h2 := (mnI_le r a (minI a r)).mp (Int.le_refl _)
      rcases List.mem_cons.mp ((k x).mpr ⟨n, hn, hx⟩) with rfl | z
      · exact h2.1
      · exact h2.2 x z
    · rw [mnI_le]
      have h2 := mnK_le.mp (Int.le_refl (mnK m s l))
      refine ⟨?_, fun y hy => ?_⟩
      · obtain ⟨n, h3, h4⟩ := (k a).mp (List.mem_cons_self ..); exact h2 n a h3 h4
      · obtain ⟨n, h3, h4⟩ := (k y).mp (List.mem_cons_of_mem _ hy); exact h2 n y h3 h4
def sureN (m : Nat) (s : List Cm) (fs : List (Int × Int)) (l : Int) : Bool := fs.all fun p => decide (p.2 ≤ mnK m (s.take p.1.toNat) l)
theorem Rc_zero : ∀ {s : List Cm} {l x : Int}, Rc s l 0 x → x = fin s l := by
  have key : ∀ (s : List Cm) (P : Nat → Int → Prop) (l : Int), (∀ x, P 0 x → x = l) → ∀ x, (s.foldl (fun P c => stU c P) P) 0 x → x = fin s l := by
    intro s
    induction s with
    | nil => intro P l h x hx; exact h x hx
    | cons c s ih =>
      intro P l h x hx
      refine ih (stU c P) (aft l c) (fun y hy => ?_) x hx
      rcases hy with ⟨z, hz, rfl⟩ | ⟨k, e, _⟩
      · rw [h z hz]
      · cases e
  intro s l x h
  exact key s (fun n x => n = 0 ∧ x = l) l (fun x h => h.2) x h
theorem mnK_zero (s : List Cm) (l : Int) : mnK 0 s l = fin s l := by
  refine Int.le_antisymm ?_ ?_
  · exact mnK_le.mp (Int.le_refl _) 0 _ (Nat.le_refl _) (Rc_fin s l)
  · rw [mnK_le]
    intro n x hn hx
    obtain rfl : n = 0 := by omega
    rw [Rc_zero hx]
    exact Int.le_refl _
theorem lvs_take : ∀ (s : List Cm) (l : Int) (i : Nat), i ≤ s.length → (lvs s l)[i]? = some (fin (s.take i) l)
  | s, l, 0, _ => by cases s <;> rfl
  | [], _, i + 1, h => by simp at h
  | c :: s, l, i + 1, h => by
    simp only [lvs, List.getElem?_cons_succ, List.take_succ_cons]
    exact lvs_take s _ i (by simpa using h)
theorem sure_zero {c : Int} {s : List Cm} {fs : List (Int × Int)} (hf : Fok c s fs) (l : Int) : sureN 0 s fs l = kp s fs l := by
  have h3 := hf.2.2
  unfold sureN kp
  have key : ∀ (gs : List (Int × Int)), (∀ p ∈ gs, 0 ≤ p.1 ∧ p.1 ≤ s.length ∧ 0 ≤ p.2 ∧ p.2 ≤ c) → (gs.all fun p => decide (p.2 ≤ mnK 0 (s.take p.1.toNat) l)) = gs.all fun p => decide (p.2 ≤ rowAt s l p.1) := by
    intro gs
    induction gs with
    | nil => intro _; rfl
    | cons p r ih =>
      intro h
      have hp := h p (List.mem_cons_self ..)
      rw [List.all_cons, List.all_cons, ih fun q hq => h q (List.mem_cons_of_mem _ hq), mnK_zero]
      unfold rowAt
      rw [lvs_take s l _ (by omega)]
      rfl
  exact key fs h3
/-- sets of more commands do not change what is ahead -/
theorem subs_cut (m : Nat) (s : List Cm) (l : Int) (k : Nat) : ∀ j, k + j ≤ s.length → ∀ ch ∈ subsN m (k + j), ∃ ch' ∈ subsN m k, fnd (s.take k) ch' l = fnd (s.take k) ch l
  | 0, _, ch, h => ⟨ch, h, rfl⟩
  | j + 1, hj, ch, h => by
    have ih := subs_cut m s l k j (by omega)
    rw [show k + (j + 1) = (k + j) + 1 by omega] at h
    simp only [subsN, List.mem_append, List.mem_map, List.mem_filter] at h
    rcases h with h | ⟨o, ⟨h, _⟩, rfl⟩
    · exact ih ch h
    · obtain ⟨ch', h1, h2⟩ := ih o h
      refine ⟨ch', h1, h2.trans (fst1_congr _ _ _ fun i h3 h4 => ?_)⟩
      rw [List.length_take] at h4
      simp only [List.mem_append, List.mem_cons, List.not_mem_nil, or_false]
      constructor
      · exact .inl
      · rintro (z | z)
        · exact z
        · omega
theorem subs_sub (m : Nat) (k : Nat) : ∀ j, ∀ ch ∈ subsN m k, ch ∈ subsN m (k + j)
  | 0, ch, h => h
  | j + 1, ch, h => by
    have := subs_sub m k j ch h
    rw [show k + (j + 1) = (k + j) + 1 by omega]
    simp only [subsN, List.mem_append]
    exact .inl this
theorem mnK_subs {m : Nat} {s : List Cm} {l v : Int} {k : Nat} (hk : k ≤ s.length) : v ≤ mnK m (s.take k) l ↔ ∀ ch ∈ subsN m s.length, v ≤ (fnd (s.take k) ch l).2 := by
  have hrc := subs_rc m s l k hk
  rw [mnK_le]
  constructor
  · intro h ch hch
    rw [show s.length = k + (s.length - k) by omega] at hch
    obtain ⟨ch', h1, h2⟩ := subs_cut m s l k _ (by omega) ch hch
    rw [← h2]
    obtain ⟨h3, h4⟩ := (hrc _ _).mp ⟨ch', h1, rfl, rfl⟩
    exact h _ _ h3 h4
  · intro h n x hn hx
    obtain ⟨ch, h1, _, rfl⟩ := (hrc n x).mpr ⟨hn, hx⟩
    refine h ch ?_
    rw [show s.length = k + (s.length - k) by omega]
    exact subs_sub m k _ ch h1
/-- floors with some commands failed -/
def okc (s : List Cm) (fs : List (Int × Int)) (l : Int) (ch : List Int) : Bool := fs.all fun p => decide (p.2 ≤ (fnd (s.take p.1.toNat) ch l).2)
theorem sure_subs {c : Int} {m : Nat} {s : List Cm} {fs : List (Int × Int)} {l : Int} (hf : Fok c s fs) : sureN m s fs l = (subsN m s.length).all (okc s fs l) := by
  have h3 := hf.2.2
  rw [Bool.eq_iff_iff]
  unfold sureN okc
  simp only [List.all_eq_true, decide_eq_true_eq]
  constructor
  · intro h ch hch p hp
    exact (mnK_subs (by have := h3 p hp; omega)).mp (h p hp) ch hch
  · intro h p hp
    exact (mnK_subs (by have := h3 p hp; omega)).mpr fun ch hch => h ch hch p hp
end DL

/-! How long effects settle: plain counts. -/
namespace DL
open PySem
def chN (n k : Nat) : Nat := if k ≤ n then (wy n k).2 else 0
def US : Nat → Nat → Nat → Nat
  | 0, _, _ => 0
  | m + 1, s, p => if p = 0 then 1 else ((List.range p).map fun a => chN (s - p) (p - a) * US m p a).sum
/-- rows: so many levels beside the settled ones, at most so many times -/
def Sk (k : Nat) (m : Int) : Nat := if k = 0 then (if 0 ≤ m then 1 else 0) else ((List.range k).map fun p => US m.toNat k p).sum
def CU (c : Nat) (F : Nat → Nat) : Nat := ((List.range (c + 1)).map fun l => ((List.range (c + 1 - l)).map fun i => F l * F (c - (l + i))).sum).sum
theorem sum_congr {α : Type} {f g : α → Nat} {l : List α} (h : ∀ a ∈ l, f a = g a) : (l.map f).sum = (l.map g).sum := by
  rw [List.map_congr_left h]
theorem CU_congr {c : Nat} {F G : Nat → Nat} (h : ∀ k, k ≤ c → F k = G k) : CU c F = CU c G := by
  refine sum_congr fun l hl => sum_congr fun i hi => ?_
  rw [List.mem_range] at hl hi
  rw [h l (by omega), h _ (by omega)]
theorem sum_le {α : Type} {f g : α → Nat} : ∀ {l : List α}, (∀ a ∈ l, f a ≤ g a) → (l.map f).sum ≤ (l.map g).sum
  | [], _ => Nat.le_refl _
  | a :: l, h => by
    have h1 := h a (List.mem_cons_self ..)
    have h2 := sum_le (l := l) fun b hb => h b (List.mem_cons_of_mem _ hb)
    simp only [List.map_cons, List.sum_cons]
    omega
theorem US_zero (s p : Nat) : US 0 s p = 0 := rfl
theorem sum_zero {α : Type} {f : α → Nat} : ∀ {l : List α}, (∀ a ∈ l, f a = 0) → (l.map f).sum = 0
  | [], _ => rfl
  | a :: l, h => by
    have h1 := h a (List.mem_cons_self ..)
    have h2 := sum_zero (l := l) fun b hb => h b (List.mem_cons_of_mem _ hb)
    simp only [List.map_cons, List.sum_cons, h1, h2]
theorem vand : ∀ s p : Nat, s ≤ 31 → p < s → 0 < p → ((List.range p).map fun a => chN (s - p) (p - a) * (wy (p - 1) a).2).sum = (wy (s - 1) p).2 := by
  have h : (List.range 32).all (fun s => (List.range s).all fun p => decide (0 < p → ((List.range p).map fun a => chN (s - p) (p - a) * (wy (p - 1) a).2).sum = (wy (s - 1) p).2)) = true := by decide +kernel
  intro s p h1 h2
  have h3 := List.all_eq_true.mp h s (List.mem_range.mpr (by omega))
  have h4 := List.all_eq_true.mp h3 p (List.mem_range.mpr (by omega))
  exact of_decide_eq_true h4
theorem US_le : ∀ (m s p : Nat), s ≤ 31 → p < s → US m s p ≤ (wy (s - 1) p).2
  | 0, s, p, _, _ => Nat.zero_le _
  | m + 1, s, p, h1, h2 => by
    unfold US
    split
    · rename_i e; subst e; exact Nat.le_refl _
    · rw [← vand s p h1 h2 (by omega)]
      refine sum_le fun a ha => Nat.mul_le_mul_left _ ?_
      exact US_le m p a (by omega) (List.mem_range.mp ha)
theorem US_eq : ∀ (m s p : Nat), s ≤ 31 → p < s → p < m → US m s p = (wy (s - 1) p).2
  | 0, s, p, _, _, h => by omega
  | m + 1, s, p, h1, h2, h3 => by
    unfold US
    split
    · rename_i e; subst e; rfl
    · rw [← vand s p h1 h2 (by omega)]
      refine sum_congr fun a ha => ?_
      have := List.mem_range.mp ha
      rw [US_eq m p a (by omega) this (by omega)]
theorem pow_rows : ∀ k : Nat, 1 ≤ k → k ≤ 31 → ((List.range k).map fun p => (wy (k - 1) p).2).sum = 2 ^ (k - 1) := by
  have h : (List.range 32).all (fun k => decide (1 ≤ k → ((List.range k).map fun p => (wy (k - 1) p).2).sum = 2 ^ (k - 1))) = true := by decide +kernel
  intro k h1 h2
  exact of_decide_eq_true (List.all_eq_true.mp h k (List.mem_range.mpr (by omega))) h1
theorem Sk_small {k : Nat} {m : Int} (h : k ≤ 31) : Sk k m < 2 ^ 62 := by
  unfold Sk
  split
  · split <;> omega
  · have h1 := sum_le (l := List.range k) (f := fun p => US m.toNat k p) (g := fun p => (wy (k - 1) p).2) fun p hp => US_le _ _ _ h (List.mem_range.mp hp)
    rw [pow_rows k (by omega) h] at h1
    have h2 : 2 ^ (k - 1) ≤ 2 ^ 30 := Nat.pow_le_pow_right (by decide) (by omega)
    omega
theorem Sk_all {k : Nat} {m : Int} (h : k ≤ 31) (h1 : 1 ≤ k) (hm : k ≤ m) : Sk k m = 2 ^ (k - 1) := by
  unfold Sk
  rw [if_neg (by omega), ← pow_rows k h1 h]
  refine sum_congr fun p hp => US_eq _ _ _ h (List.mem_range.mp hp) ?_
  have := List.mem_range.mp hp
  omega
theorem US_far : ∀ (m s p : Nat), p < m → US (m + 1) s p = US m s p
  | 0, s, p, h => by omega
  | m + 1, s, p, h => by
    rw [US, US]
    split
    · rfl
    · refine sum_congr fun a ha => ?_
      have := List.mem_range.mp ha
      rw [US_far m p a (by omega)]
theorem ch_one : chN 1 1 = 1 := by decide
theorem ch_far {k : Nat} (h : 2 ≤ k) : chN 1 k = 0 := by unfold chN; rw [if_neg (by omega)]
theorem US_chain : ∀ (m p : Nat), US m (p + 1) p = if p < m then 1 else 0
  | 0, p => by rw [US_zero, if_neg (by omega)]
  | m + 1, 0 => by rw [US, if_pos rfl, if_pos (by omega)]
  | m + 1, p + 1 => by
    rw [US, if_neg (by omega), List.range_succ, List.map_append, List.sum_append]
    rw [sum_zero (l := List.range p) fun a ha => by
      have := List.mem_range.mp ha
      rw [show p + 1 + 1 - (p + 1) = 1 by omega, ch_far (by omega), Nat.zero_mul]]
    simp only [List.map_cons, List.map_nil, List.sum_cons, List.sum_nil, Nat.zero_add, Nat.add_zero]
    rw [show p + 1 + 1 - (p + 1) = 1 by omega, show p + 1 - p = 1 by omega, ch_one, Nat.one_mul, US_chain m p]
    by_cases h : p < m
    · rw [if_pos h, if_pos (by omega)]
    · rw [if_neg h, if_neg (by omega)]
theorem Sk_far {k c : Nat} (h : k < c) : Sk k (c : Int) = Sk k ((c : Int) - 1) := by
  obtain ⟨c, rfl⟩ : ∃ d, c = d + 1 := ⟨c - 1, by omega⟩
  unfold Sk
  split
  · rw [if_pos (by omega), if_pos (by omega)]
  · refine sum_congr fun p hp => ?_
    have := List.mem_range.mp hp
    rw [show (((c + 1 : Nat) : Int)).toNat = c + 1 by omega, show (((c + 1 : Nat) : Int) - 1).toNat = c by omega]
    exact US_far c k p (by omega)
theorem Sk_end {c : Nat} (h : 1 ≤ c) : Sk c (c : Int) = Sk c ((c : Int) - 1) + 1 := by
  obtain ⟨c, rfl⟩ : ∃ d, c = d + 1 := ⟨c - 1, by omega⟩
  unfold Sk
  rw [if_neg (by omega), if_neg (by omega), show (((c + 1 : Nat) : Int)).toNat = c + 1 by omega, show (((c + 1 : Nat) : Int) - 1).toNat = c by omega]
  rw [List.range_succ, List.map_append, List.map_append, List.sum_append, List.sum_append]
  simp only [List.map_cons, List.map_nil, List.sum_cons, List.sum_nil, Nat.add_zero]
  rw [US_chain, US_chain, if_pos (by omega), if_neg (by omega)]
  rw [sum_congr (l := List.range c) fun p hp => US_far c (c + 1) p (List.mem_range.mp hp)]
theorem Sk_zero (k : Nat) : Sk k 0 = if k = 0 then 1 else 0 := by
  unfold Sk
  split
  · rfl
  · exact sum_zero fun p _ => rfl
theorem Sk_neg (k : Nat) : Sk k (-1) = 0 := by
  unfold Sk
  split
  · rfl
  · exact sum_zero fun p _ => rfl
theorem Sk_one (k : Nat) : Sk k 1 = 1 := by
  unfold Sk
  split
  · rfl
  · rename_i h
    obtain ⟨k, rfl⟩ : ∃ d, k = d + 1 := ⟨k - 1, by omega⟩
    rw [List.range_succ_eq_map, List.map_cons, List.sum_cons, List.map_map]
    rw [sum_zero (l := List.range k) fun p _ => by
      show US (0 + 1) (k + 1) (p + 1) = 0
      rw [US, if_neg (by omega)]
      exact sum_zero fun a _ => by rw [US_zero, Nat.mul_zero]]
    rfl
theorem CU_neg (c : Nat) : CU c (fun k => Sk k (-1)) = 0 :=
  sum_zero fun l _ => sum_zero fun i _ => by simp only [Sk_neg, Nat.zero_mul]
theorem CU_zero : ∀ c : Nat, c ≤ 60 → CU c (fun k => Sk k 0) = 1 := by
  have h : (List.range 61).all (fun c => decide (CU c (fun k => if k = 0 then 1 else 0) = 1)) = true := by decide +kernel
  intro c hc
  rw [CU_congr fun k _ => Sk_zero k]
  exact of_decide_eq_true (List.all_eq_true.mp h c (List.mem_range.mpr (by omega)))
theorem CU_one : ∀ c : Nat, c ≤ 60 → CU c (fun k => Sk k 1) = (c + 1) * (c + 2) / 2 := by
  have h : (List.range 61).all (fun c => decide (CU c (fun k => 1) = (c + 1) * (c + 2) / 2)) = true := by decide +kernel
  intro c hc
  rw [CU_congr fun k _ => Sk_one k]
  exact of_decide_eq_true (List.all_eq_true.mp h c (List.mem_range.mpr (by omega)))
theorem CU_two {c : Nat} {F G : Nat → Nat} (hc : 1 ≤ c) (h : ∀ k, k < c → F k = G k) (he : F c = G c + 1) (h0 : F 0 = 1) : CU c F = CU c G + 2 := by
  have g0 : G 0 = 1 := by rw [← h 0 hc, h0]
  unfold CU
  -- the last outer term
  rw [List.range_succ, List.map_append, List.map_append, List.sum_append, List.sum_append]
  simp only [List.map_cons, List.map_nil, List.sum_cons, List.sum_nil, Nat.add_zero]
  rw [show c + 1 - c = 1 by omega]
  simp only [List.range_one, List.map_cons, List.map_nil, List.sum_cons, List.sum_nil, Nat.add_zero, Nat.sub_self, h0, g0, he]
  obtain ⟨d, rfl⟩ : ∃ d, c = d + 1 := ⟨c - 1, by omega⟩
  rw [List.range_succ_eq_map (n := d), List.map_cons, List.map_cons, List.sum_cons, List.sum_cons, List.map_map, List.map_map]
  rw [sum_congr (l := List.range d) (f := (fun l => ((List.range (d + 1 + 1 - l)).map fun i => F l * F (d + 1 - (l + i))).sum) ∘ Nat.succ) (g := (fun l => ((List.range (d + 1 + 1 - l)).map fun i => G l * G (d + 1 - (l + i))).sum) ∘ Nat.succ) fun l hl => by
    have := List.mem_range.mp hl
    refine sum_congr fun i hi => ?_
    rw [h _ (by show l + 1 < _; omega), h _ (by show d + 1 - (l + 1 + i) < _; omega)]]
  rw [show d + 1 + 1 - 0 = (d + 1) + 1 by omega, List.range_succ_eq_map (n := d + 1), List.map_cons, List.map_cons, List.sum_cons, List.sum_cons, List.map_map, List.map_map]
  rw [sum_congr (l := List.range (d + 1)) (f := (fun i => F 0 * F (d + 1 - (0 + i))) ∘ Nat.succ) (g := (fun i => G 0 * G (d + 1 - (0 + i))) ∘ Nat.succ) fun i hi => by
    have := List.mem_range.mp hi
    show F 0 * F (d + 1 - (0 + (i + 1))) = G 0 * G (d + 1 - (0 + (i + 1)))
    rw [h0, g0, h _ (by omega)]]
  simp only [Nat.zero_add, Nat.sub_zero, Nat.add_zero, h0, g0, he, Nat.one_mul, Nat.mul_one]
  omega
theorem CU_end {c : Nat} (hc : 1 ≤ c) : CU c (fun k => Sk k (c : Int)) = CU c (fun k => Sk k ((c : Int) - 1)) + 2 :=
  CU_two hc (fun k hk => Sk_far hk) (Sk_end hc) (by show Sk 0 _ = 1; unfold Sk; rw [if_pos rfl, if_pos (by omega)])
theorem CU_all : ∀ c : Nat, 1 ≤ c → c ≤ 14 → CU c (fun k => Sk k (c : Int)) = effN c := by
  have h : (List.range 15).all (fun c => decide (1 ≤ c → CU c (fun k => if k = 0 then 1 else 2 ^ (k - 1)) = effN c)) = true := by decide +kernel
  intro c h1 h2
  rw [← of_decide_eq_true (List.all_eq_true.mp h c (List.mem_range.mpr (by omega))) h1]
  refine CU_congr fun k hk => ?_
  by_cases e : k = 0
  · subst e
    show Sk 0 _ = _
    unfold Sk
    rw [if_pos rfl, if_pos rfl, if_pos (by omega)]
  · rw [if_neg e]
    exact Sk_all (by omega) (by omega) (by omega)
/-! ### how long one effect settles -/
structure Slo (c : Int) (g : Int → Int) (n : Nat) : Prop where
  fix : ∀ x, 0 ≤ x → x ≤ c → itr g (n + 1) x = itr g n x
  low : ∀ k, k < n → ∃ x, 0 ≤ x ∧ x ≤ c ∧ itr g (k + 1) x ≠ itr g k x
theorem Slo.one {c : Int} {g : Int → Int} {n m : Nat} (h : Slo c g n) (h2 : Slo c g m) : n = m := by
  rcases Nat.lt_trichotomy n m with z | z | z
  · obtain ⟨x, a, b, e⟩ := h2.low n z; exact absurd (h.fix x a b) e
  · exact z
  · obtain ⟨x, a, b, e⟩ := h.low m z; exact absurd (h2.fix x a b) e
/-- the number of steps of one level -/
def Stp (g : Int → Int) (x : Int) (n : Nat) : Prop := itr g (n + 1) x = itr g n x ∧ ∀ i, i < n → itr g (i + 1) x ≠ itr g i x
theorem Stp.le {c : Int} {g : Int → Int} (hg : Eg c g) {x : Int} (h0 : 0 ≤ x) (h1 : x ≤ c) {n : Nat} (h : Stp g x n) : n ≤ c.toNat := path_short hg h0 h1 h.2
/-- the largest of all levels -/
theorem Slo.of_all {c : Int} {g : Int → Int} {n : Nat} (h : ∀ x, 0 ≤ x → x ≤ c → ∃ k, Stp g x k ∧ k ≤ n) (h2 : n = 0 ∨ ∃ x, 0 ≤ x ∧ x ≤ c ∧ Stp g x n) : Slo c g n where
  fix := fun x a b => by
    obtain ⟨k, hk, hle⟩ := h x a b
    rw [itr_stay hk.1 n hle, itr_stay hk.1 (n + 1) (by omega)]
  low := fun k hk => by
    rcases h2 with rfl | ⟨x, a, b, hx⟩
    · omega
    · exact ⟨x, a, b, hx.2 k hk⟩
/-- the ends are the slowest -/
theorem Slo.of_ends {c : Int} {g : Int → Int} (hg : Eg c g) (hc : 0 ≤ c) {n m : Nat} (h : Stp g 0 n) (h2 : Stp g c m) : Slo c g (max n m) where
  fix := fun x a b => by
    have e1 := itr_stay h.1 (max n m) (by omega)
    have e2 := itr_stay h.1 (max n m + 1) (by omega)
    have e3 := itr_stay h2.1 (max n m) (by omega)
    have e4 := itr_stay h2.1 (max n m + 1) (by omega)
    have f1 : g (itr g (max n m) 0) = itr g (max n m) 0 := e2.trans e1.symm
    have f2 : g (itr g (max n m) c) = itr g (max n m) c := e4.trans e3.symm
    have hi := hg.itr (max n m)
    have b0 := hi.inr 0 (Int.le_refl _) hc
    have b1 := hi.inr c hc (Int.le_refl _)
    exact hg.fix_mid b0.1 (hi.le (Int.le_refl _) a b) (hi.le a b (Int.le_refl _)) b1.2 f1 f2
  low := fun k hk => by
    by_cases e : k < n
    · exact ⟨0, Int.le_refl _, hc, h.2 k e⟩
    · exact ⟨c, hc, Int.le_refl _, h2.2 k (by omega)⟩
theorem Slo.rep {c : Int} {g : Int → Int} {n : Nat} (h : Slo c g n) {k : Nat} (hk : n ≤ k) {x : Int} (a : 0 ≤ x) (b : x ≤ c) : itr g k x = itr g n x := itr_stay (h.fix x a b) k hk
/-- by counting -/
def tmN (g : Int → Int) : Nat → Int → Nat
  | 0, _ => 0
  | k + 1, x => if g x = x then 0 else tmN g k (g x) + 1
theorem tm_stp {g : Int → Int} : ∀ (k : Nat) (x : Int) (n : Nat), Stp g x n → n ≤ k → tmN g k x = n
  | 0, x, n, _, h => by unfold tmN; omega
  | k + 1, x, n, hs, h => by
    unfold tmN
    have sh : ∀ i, itr g (i + 1) x = itr g i (g x) := fun i => itr_add g i 1 x
    by_cases e : g x = x
    · rw [if_pos e]
      cases n with
      | zero => rfl
      | succ n => exact absurd e (hs.2 0 (by omega))
    · rw [if_neg e]
      cases n with
      | zero => exact absurd hs.1 e
      | succ n =>
        rw [tm_stp k (g x) n ⟨by rw [← sh, ← sh]; exact hs.1, fun i hi => by rw [← sh, ← sh]; exact hs.2 (i + 1) (by omega)⟩ (by omega)]
def sloR (c : Int) (row : List Int) : Nat := max (tmN (rfn row) c.toNat 0) (tmN (rfn row) c.toNat c)
theorem Eg.hasStp {c : Int} {g : Int → Int} (hg : Eg c g) {x : Int} (h0 : 0 ≤ x) (h1 : x ≤ c) : ∃ n, Stp g x n := by
  obtain ⟨k, hk, e⟩ := hg.settles h0 h1
  have key : ∀ k, DL.itr g (k + 1) x = DL.itr g k x → ∃ n, Stp g x n := by
    intro k
    induction k using Nat.strongRecOn with
    | _ k ih =>
      intro e
      by_cases h : ∀ i, i < k → DL.itr g (i + 1) x ≠ DL.itr g i x
      · exact ⟨k, e, h⟩
      · simp only [Classical.not_forall, Classical.not_not] at h
        obtain ⟨i, hi, e2⟩ := h
        exact ih i hi e2
  exact key k e
theorem slo_row {c : Int} {row : List Int} (hc : 0 ≤ c) (hg : Eg c (rfn row)) : Slo c (rfn row) (sloR c row) := by
  obtain ⟨n, hn⟩ := hg.hasStp (Int.le_refl 0) hc
  obtain ⟨m, hm⟩ := hg.hasStp hc (Int.le_refl c)
  unfold sloR
  rw [tm_stp _ _ _ hn (hn.le hg (Int.le_refl 0) hc), tm_stp _ _ _ hm (hm.le hg hc (Int.le_refl c))]
  exact Slo.of_ends hg hc hn hm
/-! ### counts kept in a dict by one number -/
def CK (kvs : List (Ky × D)) (f : Int → Nat) : Prop := ∀ a : Int, aget kvs (.inl a) = if f a = 0 then none else some (.int (f a))
theorem CK.nil : CK [] fun _ => 0 := fun _ => rfl
def cnt1 (key : List Int → Int) (rows : List (List Int)) (a : Int) : Nat := (rows.filter fun r => decide (key r = a)).length
theorem cnt1_app (key : List Int → Int) (p : List (List Int)) (r : List Int) (a : Int) : cnt1 key (p ++ [r]) a = cnt1 key p a + if key r = a then 1 else 0 := by
  unfold cnt1
  rw [List.filter_append, List.length_append]
  congr 1
  by_cases e : key r = a <;> simp [e]
theorem CK.getD {kvs : List (Ky × D)} {f : Int → Nat} (h : CK kvs f) (a : Int) : (aget kvs (.inl a)).getD (.int 0) = .int (f a) := by
  rw [h a]
  by_cases e : f a = 0
  · rw [if_pos e, e]; rfl
  · rw [if_neg e]; rfl
theorem CK.put {kvs : List (Ky × D)} {key : List Int → Int} {p : List (List Int)} (h : CK kvs (cnt1 key p)) (r : List Int) {a : Int} (e : key r = a) :
    CK (aput kvs (.inl a) (.int ((cnt1 key p a : Nat) + 1))) (cnt1 key (p ++ [r])) := by
  intro b
  rw [aget_aput, cnt1_app]
  by_cases z : b = a
  · subst z
    rw [if_pos rfl, if_pos e, if_neg (by omega)]
    rfl
  · rw [if_neg (by simpa using z), h b]
    have w : ¬ key r = b := fun w => z (w.symm.trans e)
    simp only [w, if_false, Nat.add_zero]
theorem slo_small : ∀ c t : Nat, 1 ≤ c → c ≤ 7 → (t ≤ c + 1 ∨ t = 60) → (CU c (fun k => Sk k (t : Int)) : Int) - CU c (fun k => Sk k ((t : Int) - 1)) = cnt1 (fun row => (sloR c row : Nat)) (mapsAll c) t := by
  have h : (List.range 8).all (fun c => (60 :: List.range (c + 2)).all fun t => decide (1 ≤ c → (CU c (fun k => Sk k (t : Int)) : Int) - CU c (fun k => Sk k ((t : Int) - 1)) = cnt1 (fun row => (sloR c row : Nat)) (mapsAll c) t)) = true := by decide +kernel
  intro c t h1 h2 h3
  have h4 := List.all_eq_true.mp h c (List.mem_range.mpr (by omega))
  have h5 := List.all_eq_true.mp h4 t (by rcases h3 with h3 | h3; exact List.mem_cons_of_mem _ (List.mem_range.mpr (by omega)); rw [h3]; exact List.mem_cons_self ..)
  exact of_decide_eq_true h5 h1
end DL

/-! How many commands an effect needs. -/
namespace DL
open PySem
/-- the number of runs of merged steps -/
def nrA : Bool → List Bool → Nat
  | _, [] => 0
  | p, b :: r => (if b && !p then 1 else 0) + nrA b r
def lstB : Bool → List Bool → Bool
  | p, [] => p
  | _, b :: r => lstB b r
/-- their lengths -/
def lnA : Nat → List Bool → List Nat
  | 0, [] => []
  | k + 1, [] => [k + 1]
  | k, true :: r => lnA (k + 1) r
  | 0, false :: r => lnA 0 r
  | k + 1, false :: r => (k + 1) :: lnA 0 r
abbrev lens (ms : List Bool) : List Nat := lnA 0 ms
theorem nrA_app : ∀ (A B : List Bool) (p : Bool), nrA p (A ++ B) = nrA p A + nrA (lstB p A) B
  | [], B, p => by simp [nrA, lstB]
  | a :: A, B, p => by simp only [List.cons_append, nrA, lstB, nrA_app A B a]; omega
theorem lstB_app : ∀ (A B : List Bool) (p : Bool), lstB p (A ++ B) = lstB (lstB p A) B
  | [], B, p => rfl
  | a :: A, B, p => by simp only [List.cons_append, lstB]; exact lstB_app A B a
theorem ln_len : ∀ (l : List Bool) (k : Nat), (lnA k l).length = (if k = 0 then 0 else 1) + nrA (decide (k ≠ 0)) l
  | [], 0 => rfl
  | [], k + 1 => rfl
  | true :: r, 0 => by simp [lnA, ln_len r, nrA]
  | true :: r, k + 1 => by simp [lnA, ln_len r, nrA]
  | false :: r, 0 => by simp [lnA, ln_len r, nrA]
  | false :: r, k + 1 => by simp [lnA, ln_len r, nrA]; omega
theorem lens_len (ms : List Bool) : (lens ms).length = nrA false ms := by rw [ln_len]; simp
theorem ln_cut : ∀ (A B : List Bool) (k : Nat), lnA k (A ++ false :: B) = lnA k A ++ lnA 0 B
  | [], B, 0 => by simp [lnA]
  | [], B, k + 1 => by simp [lnA]
  | true :: A, B, k => by simp only [List.cons_append, lnA]; exact ln_cut A B (k + 1)
  | false :: A, B, 0 => by simp only [List.cons_append, lnA]; exact ln_cut A B 0
  | false :: A, B, k + 1 => by simp only [List.cons_append, lnA]; rw [ln_cut A B 0]
theorem lst_false {A : List Bool} (h : lstB false A = false) : A = [] ∨ ∃ A', A = A' ++ [false] := by
  rcases List.eq_nil_or_concat A with e | ⟨A', b, e⟩
  · exact .inl e
  · rw [List.concat_eq_append] at e
    subst e
    rw [lstB_app] at h
    cases h
    exact .inr ⟨A', rfl⟩
theorem lens_app {A : List Bool} (h : lstB false A = false) (X : List Bool) : lens (A ++ X) = lens A ++ lens X := by
  rcases lst_false h with rfl | ⟨A', rfl⟩
  · rfl
  · unfold lens
    rw [List.append_assoc, List.singleton_append, ln_cut, ln_cut]
    simp [lnA]
def okB (B : List Bool) : Prop := B = [] ∨ ∃ B', B = false :: B'
theorem lens_run {B : List Bool} (h : okB B) : ∀ (l k : Nat), 1 ≤ k + l → lnA k (List.replicate l true ++ B) = (k + l) :: lens B
  | 0, k, hk => by
    obtain ⟨k, rfl⟩ : ∃ j, k = j + 1 := ⟨k - 1, by omega⟩
    rcases h with rfl | ⟨B', rfl⟩ <;> simp [lnA]
  | l + 1, k, _ => by
    rw [List.replicate_succ, List.cons_append]
    have : lnA k (true :: (List.replicate l true ++ B)) = lnA (k + 1) (List.replicate l true ++ B) := by cases k <;> rfl
    rw [this, lens_run h l (k + 1) (by omega), show k + 1 + l = k + (l + 1) by omega]
theorem lens_off (B : List Bool) : ∀ l : Nat, lens (List.replicate l false ++ B) = lens B
  | 0 => rfl
  | l + 1 => by rw [List.replicate_succ, List.cons_append]; exact lens_off B l
theorem nr_true (B : List Bool) (p : Bool) : nrA true B ≤ nrA p B := by
  cases B with
  | nil => exact Nat.le_refl _
  | cons b r => cases b <;> cases p <;> simp [nrA]
theorem nr_on (B : List Bool) (p : Bool) : ∀ l : Nat, nrA p (List.replicate (l + 1) true ++ B) = (if p then 0 else 1) + nrA true B
  | 0 => by cases p <;> simp [nrA]
  | l + 1 => by
    rw [List.replicate_succ, List.cons_append, nrA, nr_on B true l]
    cases p <;> simp
theorem nr_zero : ∀ C : List Bool, nrA false C = 0 → C = List.replicate C.length false
  | [], _ => rfl
  | true :: r, h => by simp [nrA] at h
  | false :: r, h => by
    simp only [nrA, Bool.false_and, Bool.false_eq_true, if_false, Nat.zero_add] at h
    rw [List.length_cons, List.replicate_succ, ← nr_zero r h]
/-- one more merged block: at most one more run, and then it stands alone -/
theorem one_more {A C B : List Bool} (hC : C ≠ []) : nrA false (A ++ (List.replicate C.length true ++ B)) ≤ nrA false (A ++ (C ++ B)) + 1 ∧
    (nrA false (A ++ (List.replicate C.length true ++ B)) = nrA false (A ++ (C ++ B)) + 1 → lstB false A = false ∧ C = List.replicate C.length false ∧ okB B) := by
  obtain ⟨l, hl⟩ : ∃ l, C.length = l + 1 := by
    cases C with
    | nil => exact absurd rfl hC
    | cons a r => exact ⟨r.length, rfl⟩
  rw [nrA_app A (List.replicate C.length true ++ B), nrA_app A (C ++ B), nrA_app C B, hl, nr_on]
  have h1 := nr_true B (lstB (lstB false A) C)
  refine ⟨by split <;> omega, fun h => ?_⟩
  have ha : lstB false A = false := by
    cases e : lstB false A with
    | false => rfl
    | true => rw [e] at h h1; simp at h; omega
  rw [ha] at h h1
  simp only [Bool.false_eq_true, if_false] at h
  have hc0 : nrA false C = 0 := by omega
  have hc := nr_zero C hc0
  refine ⟨ha, by rw [← hl]; exact hc, ?_⟩
  have hlast : lstB false C = false := by
    rw [hc]
    generalize C.length = n
    induction n with
    | zero => rfl
    | succ n ih => rw [List.replicate_succ]; exact ih
  rw [hlast] at h
  cases B with
  | nil => exact .inl rfl
  | cons b r =>
    cases b with
    | false => exact .inr ⟨r, rfl⟩
    | true => simp [nrA] at h; omega
/-- enough with one command for each run -/
def Rule (s : Int) (ms : List Bool) : Prop :=
  (∃ sub : List Nat, sub.Sublist (lens ms) ∧ ((sub.sum : Nat) : Int) = s) ∨
  (∃ k B, ms = List.replicate k true ++ B ∧ 1 ≤ k ∧ okB B ∧ s ≤ ((lens B).sum : Nat)) ∨
  (∃ k A, ms = A ++ List.replicate k true ∧ 1 ≤ k ∧ lstB false A = false ∧ (k : Int) ≤ s)
theorem sub_sum : ∀ {a b : List Nat}, a.Sublist b → a.sum ≤ b.sum := by
  intro a b h
  induction h with
  | slnil => exact Nat.le_refl _
  | cons x _ ih => simp only [List.sum_cons]; omega
  | cons_cons x _ ih => simp only [List.sum_cons]; omega
/-- a run at the front lies wholly in A -/
theorem front_run {k l : Nat} {A B D : List Bool} (hl : 1 ≤ l) (h : A ++ (List.replicate l false ++ B) = List.replicate k true ++ D) : ∃ A2, A = List.replicate k true ++ A2 ∧ D = A2 ++ (List.replicate l false ++ B) := by
  rcases List.append_eq_append_iff.mp h with ⟨X, h1, h2⟩ | ⟨X, h1, h2⟩
  · cases X with
    | nil => exact ⟨[], by simpa using h1.symm, by simpa using h2.symm⟩
    | cons x X =>
      exfalso
      obtain ⟨l, rfl⟩ : ∃ j, l = j + 1 := ⟨l - 1, by omega⟩
      rw [List.replicate_succ, List.cons_append, List.cons_append, List.cons.injEq] at h2
      have : x ∈ List.replicate k true := by rw [h1]; simp
      rw [List.eq_of_mem_replicate this] at h2
      cases h2.1
  · exact ⟨X, h1, h2⟩
theorem back_run {k l : Nat} {A B D : List Bool} (hl : 1 ≤ l) (h : A ++ (List.replicate l false ++ B) = D ++ List.replicate k true) : ∃ B2, B = B2 ++ List.replicate k true ∧ D = A ++ (List.replicate l false ++ B2) := by
  rw [← List.append_assoc] at h
  rcases List.append_eq_append_iff.mp h with ⟨X, h1, h2⟩ | ⟨X, h1, h2⟩
  · exact ⟨X, h2, by rw [h1, List.append_assoc]⟩
  · cases X with
    | nil => exact ⟨[], by simpa using h2.symm, by simpa using h1.symm⟩
    | cons x X =>
      exfalso
      obtain ⟨l, rfl⟩ : ∃ j, l = j + 1 := ⟨l - 1, by omega⟩
      rcases List.eq_nil_or_concat (x :: X) with e | ⟨Y, y, e⟩
      · cases e
      · rw [List.concat_eq_append] at e
        rw [e] at h1 h2
        have hy : y ∈ List.replicate k true := by rw [h2]; simp
        have hyt := List.eq_of_mem_replicate hy
        have e2 : A ++ List.replicate (l + 1) false = (A ++ List.replicate l false) ++ [false] := by
          rw [List.append_assoc]; congr 1; exact List.replicate_succ'
        rw [e2, ← List.append_assoc] at h1
        have := (List.append_inj' h1 rfl).2
        simp only [List.cons.injEq, and_true] at this
        rw [hyt] at this
        cases this
theorem lst_ne {A : List Bool} (h : A ≠ []) (p q : Bool) : lstB p A = lstB q A := by
  cases A with
  | nil => exact absurd rfl h
  | cons a A => rfl
theorem lst_rep : ∀ (k : Nat) (p : Bool), 1 ≤ k → lstB p (List.replicate k true) = true
  | 1, _, _ => rfl
  | k + 2, p, _ => by rw [List.replicate_succ]; exact lst_rep (k + 1) true (by omega)
theorem ok_app {A B : List Bool} (h : okB (A ++ B)) (hA : A ≠ []) : okB A := by
  cases A with
  | nil => exact absurd rfl hA
  | cons a A =>
    rcases h with e | ⟨B', e⟩
    · cases e
    · rw [List.cons_append, List.cons.injEq] at e
      exact .inr ⟨A, by rw [e.1]⟩
/-- what one command does that makes a run of its own -/
inductive Ev (s s' : Int) (l : Nat) (A B : List Bool) : Prop where
  | up (h : s' = s + l)
  | same (h : s' = s)
  | top (h : B = []) (h2 : (l : Int) ≤ s')
  | low (h : A = []) (h2 : s' ≤ s)
theorem Rule.step {s s' : Int} {l : Nat} {A B : List Bool} (hl : 1 ≤ l) (hA : lstB false A = false) (hB : okB B) (he : Ev s s' l A B) (h : Rule s (A ++ (List.replicate l false ++ B))) : Rule s' (A ++ (List.replicate l true ++ B)) := by
  have e0 : lens (A ++ (List.replicate l false ++ B)) = lens A ++ lens B := by rw [lens_app hA, lens_off]
  have e1 : lens (A ++ (List.replicate l true ++ B)) = lens A ++ l :: lens B := by
    rw [lens_app hA]; congr 1
    have := lens_run hB l 0 (by omega)
    rw [Nat.zero_add] at this
    exact this
  -- what a run at the front gives
  have fr : ∀ k D, A ++ (List.replicate l false ++ B) = List.replicate k true ++ D → 1 ≤ k → okB D → ∃ A2, A2 ≠ [] ∧ A = List.replicate k true ++ A2 ∧ D = A2 ++ (List.replicate l false ++ B) ∧ okB A2 ∧ lstB false A2 = false := by
    intro k D h hk hD
    obtain ⟨A2, a1, a2⟩ := front_run hl h
    have hne : A2 ≠ [] := by
      rintro rfl
      rw [List.append_nil] at a1
      rw [a1, lst_rep k false hk] at hA
      cases hA
    refine ⟨A2, hne, a1, a2, ok_app (a2 ▸ hD) hne, ?_⟩
    rw [a1, lstB_app, lst_ne hne _ false] at hA
    exact hA
  have bk : ∀ k D, A ++ (List.replicate l false ++ B) = D ++ List.replicate k true → 1 ≤ k → lstB false D = false → ∃ B2, B2 ≠ [] ∧ B = B2 ++ List.replicate k true ∧ D = A ++ (List.replicate l false ++ B2) ∧ lstB false B2 = false := by
    intro k D h hk hD
    obtain ⟨B2, a1, a2⟩ := back_run hl h
    have hne : B2 ≠ [] := by
      rintro rfl
      rw [List.nil_append] at a1
      rw [a1] at hB
      obtain ⟨k, rfl⟩ : ∃ j, k = j + 1 := ⟨k - 1, by omega⟩
      rcases hB with e | ⟨B', e⟩
      · cases e
      · rw [List.replicate_succ] at e; cases e
    refine ⟨B2, hne, a1, a2, ?_⟩
    rw [a2, lstB_app, lstB_app, lst_ne hne _ false] at hD
    exact hD
  -- a run at the back stays
  have stay : ∀ k D, A ++ (List.replicate l false ++ B) = D ++ List.replicate k true → 1 ≤ k → lstB false D = false → (k : Int) ≤ s' → Rule s' (A ++ (List.replicate l true ++ B)) := by
    intro k D h hk hD hks
    obtain ⟨B2, hne, b1, b2, b3⟩ := bk k D h hk hD
    refine .inr (.inr ⟨k, A ++ (List.replicate l true ++ B2), by rw [b1]; simp, hk, ?_, hks⟩)
    rw [lstB_app, lstB_app, lst_ne hne _ false]
    exact b3
  cases he with
  | top hb h2 =>
    subst hb
    exact .inr (.inr ⟨l, A, by simp, hl, hA, h2⟩)
  | up hs =>
    rcases h with ⟨sub, h1, h2⟩ | ⟨k, D, h1, h2, h3, h4⟩ | ⟨k, D, h1, h2, h3, h4⟩
    · rw [e0] at h1
      obtain ⟨sa, sb, rfl, ha, hb⟩ := List.sublist_append_iff.mp h1
      refine .inl ⟨sa ++ l :: sb, ?_, ?_⟩
      · rw [e1]; exact ha.append (hb.cons₂ l)
      · rw [List.sum_append, List.sum_cons]
        rw [List.sum_append] at h2
        omega
    · obtain ⟨A2, hne, a1, a2, a3, a4⟩ := fr k D h1 h2 h3
      refine .inr (.inl ⟨k, A2 ++ (List.replicate l true ++ B), by rw [a1]; simp, h2, ?_, ?_⟩)
      · rcases a3 with e | ⟨A3, e⟩
        · exact absurd e hne
        · exact .inr ⟨A3 ++ (List.replicate l true ++ B), by rw [e]; rfl⟩
      · rw [a2, lens_app a4, lens_off, List.sum_append] at h4
        have := lens_run hB l 0 (by omega)
        rw [Nat.zero_add] at this
        rw [lens_app a4, show lens (List.replicate l true ++ B) = l :: lens B from this, List.sum_append, List.sum_cons]
        omega
    · exact stay k D h1 h2 h3 (by omega)
  | same hs =>
    rcases h with ⟨sub, h1, h2⟩ | ⟨k, D, h1, h2, h3, h4⟩ | ⟨k, D, h1, h2, h3, h4⟩
    · rw [e0] at h1
      obtain ⟨sa, sb, rfl, ha, hb⟩ := List.sublist_append_iff.mp h1
      refine .inl ⟨sa ++ sb, ?_, by omega⟩
      rw [e1]; exact ha.append (hb.cons l)
    · obtain ⟨A2, hne, a1, a2, a3, a4⟩ := fr k D h1 h2 h3
      refine .inr (.inl ⟨k, A2 ++ (List.replicate l true ++ B), by rw [a1]; simp, h2, ?_, ?_⟩)
      · rcases a3 with e | ⟨A3, e⟩
        · exact absurd e hne
        · exact .inr ⟨A3 ++ (List.replicate l true ++ B), by rw [e]; rfl⟩
      · rw [a2, lens_app a4, lens_off, List.sum_append] at h4
        have := lens_run hB l 0 (by omega)
        rw [Nat.zero_add] at this
        rw [lens_app a4, show lens (List.replicate l true ++ B) = l :: lens B from this, List.sum_append, List.sum_cons]
        omega
    · exact stay k D h1 h2 h3 (by omega)
  | low ha hs =>
    subst ha
    have two : s' ≤ ((lens B).sum : Nat) → Rule s' ([] ++ (List.replicate l true ++ B)) := fun h => .inr (.inl ⟨l, B, rfl, hl, hB, h⟩)
    rcases h with ⟨sub, h1, h2⟩ | ⟨k, D, h1, h2, h3, h4⟩ | ⟨k, D, h1, h2, h3, h4⟩
    · have := sub_sum h1
      rw [e0] at this
      exact two (by rw [show lens ([] : List Bool) = [] from rfl, List.nil_append] at this; omega)
    · exfalso
      obtain ⟨l, rfl⟩ : ∃ j, l = j + 1 := ⟨l - 1, by omega⟩
      obtain ⟨k, rfl⟩ : ∃ j, k = j + 1 := ⟨k - 1, by omega⟩
      rw [List.replicate_succ, List.replicate_succ] at h1
      cases h1
    · obtain ⟨B2, hne, b1, b2, b3⟩ := bk k D h1 h2 h3
      by_cases e : s' ≤ ((lens B).sum : Nat)
      · exact two e
      · refine stay k D h1 h2 h3 ?_
        have := lens_run (.inl rfl : okB []) k 0 (by omega)
        rw [Nat.zero_add, List.append_nil] at this
        rw [b1, lens_app b3, show lens (List.replicate k true) = [k] from this, List.sum_append] at e
        simp only [List.sum_cons, List.sum_nil] at e
        omega
end DL

/-! No schedule with fewer commands. -/
namespace DL
open PySem
def bits (c : Int) (h : Int → Int) : List Bool := (List.range c.toNat).map fun x : Nat => decide (h x = h ((x : Int) + 1))
theorem bits_len (c : Int) (h : Int → Int) : (bits c h).length = c.toNat := by simp [bits]
theorem cut_at (P : Nat → Prop) : ∀ n : Nat, (∀ x y, x ≤ y → y < n → P y → P x) → ∃ p, p ≤ n ∧ ∀ x, x < n → (P x ↔ x < p)
  | 0, _ => ⟨0, Nat.le_refl _, fun x h => by omega⟩
  | n + 1, h => by
    obtain ⟨p, h1, h2⟩ := cut_at P n fun x y a b => h x y a (by omega)
    by_cases e : P n
    · refine ⟨n + 1, Nat.le_refl _, fun x hx => ⟨fun _ => hx, fun _ => h x n (by omega) (by omega) e⟩⟩
    · refine ⟨p, by omega, fun x hx => ?_⟩
      by_cases z : x = n
      · subst z
        exact ⟨fun w => absurd w e, fun w => by omega⟩
      · exact h2 x (by omega)
theorem range_cut {α : Type} (f : Nat → α) {p q n : Nat} (h1 : p ≤ q) (h2 : q ≤ n) : (List.range n).map f = (List.range p).map f ++ (((List.range (q - p)).map fun i => f (p + i)) ++ (List.range (n - q)).map fun i => f (q + i)) := by
  have e1 : n = p + ((q - p) + (n - q)) := by omega
  rw [e1, List.range_add, List.map_append, List.range_add, List.map_append, List.map_append, List.map_map, List.map_map, List.map_map]
  have e2 : p + (q - p) + (n - q) - q = n - q := by omega
  have e3 : p + (q - p + (n - q)) - q = n - q := by omega
  congr 1
  congr 1
  rw [e3]
  apply List.map_congr_left
  intro i _
  simp only [Function.comp]
  rw [← Nat.add_assoc, show p + (q - p) = q by omega]
theorem rep_map {α : Type} {f : Nat → α} {n : Nat} {a : α} (h : ∀ i, i < n → f i = a) : (List.range n).map f = List.replicate n a := by
  rw [List.eq_replicate_iff]
  refine ⟨by simp, fun b hb => ?_⟩
  obtain ⟨i, hi, rfl⟩ := List.mem_map.mp hb
  exact h i (List.mem_range.mp hi)
theorem step_cmd {c : Int} {h : Int → Int} (hc : 0 ≤ c) (hg : Eg c h) {k : Cm} (hk : k.ok c) :
    bits c (fun x => aft (h x) k) = bits c h ∨ ∃ A C B, C ≠ [] ∧ bits c h = A ++ (C ++ B) ∧ bits c (fun x => aft (h x) k) = A ++ (List.replicate C.length true ++ B) ∧ (C = List.replicate C.length false → Ev (h 0) (aft (h 0) k) C.length A B) := by
  obtain ⟨k1, k2, k3, k4⟩ := hk
  -- the block of levels that the command merges
  obtain ⟨lo, hi, hlo, hbit⟩ : ∃ lo hi : Int, ((k.ch = true ∧ lo = k.li - k.am ∧ hi = k.li) ∨ (k.ch = false ∧ lo = k.li ∧ hi = k.li + k.am)) ∧ ∀ y z : Int, (z = y ∨ z = y + 1) → (aft y k = aft z k ↔ (y = z ∨ (lo ≤ y ∧ z ≤ hi))) := by
    cases e : k.ch with
    | true =>
      refine ⟨k.li - k.am, k.li, .inl ⟨rfl, rfl, rfl⟩, fun y z hz => ?_⟩
      unfold aft
      rw [e]
      simp only [if_true]
      rcases hz with rfl | rfl
      · simp
      · split <;> split <;> omega
    | false =>
      refine ⟨k.li, k.li + k.am, .inr ⟨rfl, rfl, rfl⟩, fun y z hz => ?_⟩
      unfold aft
      rw [e]
      simp only [Bool.false_eq_true, if_false]
      rcases hz with rfl | rfl
      · simp
      · split <;> split <;> omega
  have mono : ∀ x y : Nat, x ≤ y → y ≤ c.toNat → h x ≤ h y := fun x y a b => hg.le (by omega) (by omega) (by omega)
  obtain ⟨p, hp, hp2⟩ := cut_at (fun x : Nat => h x < lo) c.toNat fun x y a b d => Int.lt_of_le_of_lt (mono x y a (by omega)) d
  obtain ⟨q, hq, hq2⟩ := cut_at (fun x : Nat => h ((x : Int) + 1) ≤ hi) c.toNat fun x y a b d => Int.le_trans (hg.le (by omega) (by omega) (by omega)) d
  have bit : ∀ x : Nat, x < c.toNat → (aft (h x) k = aft (h ((x : Int) + 1)) k ↔ (h x = h ((x : Int) + 1) ∨ (p ≤ x ∧ x < q))) := by
    intro x hx
    rw [hbit _ _ (hg.stp x (by omega) (by omega))]
    have a := hp2 x hx
    have b := hq2 x hx
    constructor
    · rintro (e | ⟨e1, e2⟩)
      · exact .inl e
      · exact .inr ⟨Nat.le_of_not_lt fun w => by have := a.mpr w; omega, b.mp e2⟩
    · rintro (e | ⟨e1, e2⟩)
      · exact .inl e
      · exact .inr ⟨Int.le_of_not_gt fun w => by have := a.mp w; omega, b.mpr e2⟩
  by_cases hpq : q ≤ p
  · left
    apply List.map_congr_left
    intro x hx
    have hx := List.mem_range.mp hx
    refine decide_eq_decide.mpr ?_
    rw [bit x hx]
    constructor
    · rintro (e | e)
      · exact e
      · omega
    · exact .inl
  · right
    have hpq : p < q := by omega
    have cut := fun f : Nat → Bool => range_cut f (Nat.le_of_lt hpq) hq
    refine ⟨_, _, _, ?_, cut _, ?_, ?_⟩
    · intro e
      have := congrArg List.length e
      simp at this
      omega
    · show (List.range c.toNat).map _ = _
      rw [cut]
      congr 1
      · apply List.map_congr_left
        intro x hx
        have hx := List.mem_range.mp hx
        refine decide_eq_decide.mpr ?_
        rw [bit x (by omega)]
        constructor
        · rintro (e | e)
          · exact e
          · omega
        · exact .inl
      congr 1
      · rw [List.length_map, List.length_range]
        refine rep_map fun i hi => ?_
        refine decide_eq_true ?_
        rw [bit (p + i) (by omega)]
        exact .inr ⟨by omega, by omega⟩
      · apply List.map_congr_left
        intro i hi
        have hi := List.mem_range.mp hi
        refine decide_eq_decide.mpr ?_
        rw [bit (q + i) (by omega)]
        constructor
        · rintro (e | e)
          · exact e
          · omega
        · exact .inl
    · intro hC
      rw [List.length_map, List.length_range]
      -- all steps in the block were unmerged
      have un : ∀ i, i < q - p → h (((p + i : Nat) : Int) + 1) = h ((p + i : Nat) : Int) + 1 := by
        intro i hi
        have h1 : decide (h ((p + i : Nat) : Int) = h (((p + i : Nat) : Int) + 1)) = false := by
          have : decide (h ((p + i : Nat) : Int) = h (((p + i : Nat) : Int) + 1)) ∈ (List.range (q - p)).map fun i => decide (h ((p + i : Nat) : Int) = h (((p + i : Nat) : Int) + 1)) := List.mem_map.mpr ⟨i, List.mem_range.mpr hi, rfl⟩
          rw [hC] at this
          exact List.eq_of_mem_replicate this
        rcases hg.stp ((p + i : Nat) : Int) (by omega) (by omega) with e | e
        · rw [e] at h1; simp at h1
        · exact e
      have rise : ∀ j, j ≤ q - p → h ((p + j : Nat) : Int) = h (p : Int) + j := by
        intro j
        induction j with
        | zero => intro _; simp
        | succ j ih =>
          intro hj
          have a := ih (by omega)
          have b := un j (by omega)
          rw [show ((p + (j + 1) : Nat) : Int) = ((p + j : Nat) : Int) + 1 by omega, b, a]
          omega
      have hq3 := rise (q - p) (Nat.le_refl _)
      rw [show p + (q - p) = q by omega] at hq3
      have p1 : lo ≤ h (p : Int) := Int.le_of_not_gt fun w => by have := (hp2 p (by omega)).mp w; omega
      have q1 : h (q : Int) ≤ hi := by
        have := (hq2 (q - 1) (by omega)).mpr (by omega)
        rwa [show ((q - 1 : Nat) : Int) + 1 = (q : Int) by omega] at this
      have p0 : p = 0 ∨ (h (p : Int) = lo ∧ h 0 < lo) := by
        by_cases e : p = 0
        · exact .inl e
        · right
          have a := (hp2 (p - 1) (by omega)).mpr (by omega)
          have b := hg.stp ((p - 1 : Nat) : Int) (by omega) (by omega)
          rw [show ((p - 1 : Nat) : Int) + 1 = (p : Int) by omega] at b
          have d := mono 0 (p - 1) (by omega) (by omega)
          have : h ((0 : Nat) : Int) = h 0 := rfl
          omega
      have q0 : q = c.toNat ∨ h (q : Int) = hi := by
        by_cases e : q = c.toNat
        · exact .inl e
        · right
          have a : ¬ h ((q : Int) + 1) ≤ hi := fun w => by have := (hq2 q (by omega)).mp w; omega
          have b := hg.stp (q : Int) (by omega) (by omega)
          omega
      have in0 := hg.inr 0 (Int.le_refl _) hc
      have inq := hg.inr (q : Int) (by omega) (by omega)
      have hA0 : p = 0 → (List.range p).map (fun x : Nat => decide (h x = h ((x : Int) + 1))) = [] := fun e => by rw [e]; rfl
      have hBe : q = c.toNat → (List.range (c.toNat - q)).map (fun i : Nat => decide (h ((q + i : Nat) : Int) = h (((q + i : Nat) : Int) + 1))) = [] := fun e => by rw [e, Nat.sub_self]; rfl
      have h00 : p = 0 → h (p : Int) = h 0 := fun e => by rw [e]; rfl
      have hl : ((q - p : Nat) : Int) = (q : Int) - p := by omega
      rcases hlo with ⟨ec, el, eh⟩ | ⟨ec, el, eh⟩
      · have ea : aft (h 0) k = if k.li ≤ h 0 then h 0 else min (h 0 + k.am) k.li := by unfold aft; rw [ec]; rfl
        rcases p0 with p0 | ⟨p0, p00⟩
        · have := h00 p0
          rcases q0 with q0 | q0
          · -- the whole of the levels
            refine .up ?_
            rw [ea]
            split <;> omega
          · refine .up ?_
            rw [ea]
            split <;> omega
        · rcases q0 with q0 | q0
          · refine .top (hBe q0) ?_
            rw [ea]
            split <;> omega
          · refine .up ?_
            rw [ea]
            split <;> omega
      · have ea : aft (h 0) k = if h 0 ≤ k.li then h 0 else max (h 0 - k.am) k.li := by unfold aft; rw [ec]; rfl
        rcases p0 with p0 | ⟨p0, p00⟩
        · have := h00 p0
          refine .low (hA0 p0) ?_
          rw [ea]
          split <;> omega
        · refine .same ?_
          rw [ea]
          split <;> omega
theorem bits_id {c : Int} : bits c (fun x => x) = List.replicate c.toNat false := rep_map fun i _ => by simp; omega
theorem nr_off : ∀ n : Nat, nrA false (List.replicate n false) = 0
  | 0 => rfl
  | n + 1 => by rw [List.replicate_succ]; simp [nrA, nr_off n]
/-- as many commands as runs, and if there are no more, then the rule holds -/
theorem lower {c : Int} (hc : 0 ≤ c) (n : Nat) : ∀ s : List Cm, s.length = n → (∀ k ∈ s, k.ok c) → nrA false (bits c (fin s)) ≤ s.length ∧ (nrA false (bits c (fin s)) = s.length → Rule (fin s 0) (bits c (fin s))) := by
  induction n with
  | zero =>
    intro s hl _
    obtain rfl : s = [] := List.eq_nil_of_length_eq_zero hl
    have e : bits c (fin []) = List.replicate c.toNat false := bits_id
    rw [e, nr_off]
    exact ⟨Nat.le_refl _, fun _ => .inl ⟨[], List.nil_sublist _, rfl⟩⟩
  | succ n ih =>
    intro s hl hs
    rcases List.eq_nil_or_concat s with e | ⟨t, k, e⟩
    · rw [e] at hl; cases hl
    · rw [List.concat_eq_append] at e
      subst e
      rw [List.length_append, List.length_cons, List.length_nil] at hl ⊢
      have ht : ∀ k ∈ t, k.ok c := fun x hx => hs x (List.mem_append.mpr (.inl hx))
      have hk : k.ok c := hs k (by simp)
      obtain ⟨i1, i2⟩ := ih t (by omega) ht
      have ef : fin (t ++ [k]) = fun x => aft (fin t x) k := by funext x; rw [fin_app]; rfl
      rw [ef]
      rcases step_cmd hc (Eg.fin ht) hk with e | ⟨A, C, B, h1, h2, h3, h4⟩
      · rw [e]
        exact ⟨by omega, fun w => by omega⟩
      · obtain ⟨o1, o2⟩ := one_more (A := A) (B := B) h1
        rw [h3]
        rw [h2] at i1 i2
        refine ⟨by omega, fun w => ?_⟩
        obtain ⟨a1, a2, a3⟩ := o2 (by omega)
        have hrule := i2 (by omega)
        have hlen : 1 ≤ C.length := by
          cases C with
          | nil => exact absurd rfl h1
          | cons _ _ => simp
        rw [a2] at hrule
        exact Rule.step hlen a1 a3 (h4 a2) hrule
end DL

/-! Runs, and commands that merge them. -/
namespace DL
open PySem
abbrev Rn := List (Nat × Nat)
/-- the runs found so far, and one more step -/
def rnS (fd : Rn) (i : Nat) (b : Bool) : Rn :=
  if b then (match fd.getLast? with
    | some (f, l) => if f + l = i then fd.dropLast ++ [(f, l + 1)] else fd ++ [(i, 1)]
    | none => fd ++ [(i, 1)]) else fd
def rnF (ms : List Bool) : Rn := (ms.foldl (fun st b => (rnS st.1 st.2 b, st.2 + 1)) (([] : Rn), 0)).1
theorem rnF_at : ∀ (ms : List Bool) (st : Rn × Nat), (ms.foldl (fun st b => (rnS st.1 st.2 b, st.2 + 1)) st).2 = st.2 + ms.length
  | [], _ => rfl
  | b :: r, st => by rw [List.foldl_cons, rnF_at r]; simp only [List.length_cons]; omega
theorem rnF_snoc (ms : List Bool) (b : Bool) : rnF (ms ++ [b]) = rnS (rnF ms) ms.length b := by
  unfold rnF
  rw [List.foldl_append, List.foldl_cons, List.foldl_nil, rnF_at]
  simp
/-- runs in order, with gaps between them -/
def RnOk : Nat → Rn → Prop
  | _, [] => True
  | n, (f, l) :: r => n ≤ f ∧ 1 ≤ l ∧ RnOk (f + l + 1) r
theorem RnOk.mono {r : Rn} {n m : Nat} (h : RnOk m r) (hn : n ≤ m) : RnOk n r := by
  cases r with
  | nil => trivial
  | cons p r => exact ⟨Nat.le_trans hn h.1, h.2⟩
theorem RnOk.snoc : ∀ {r : Rn} {n f l : Nat}, RnOk n r → n ≤ f → 1 ≤ l → (∀ p ∈ r, p.1 + p.2 < f) → RnOk n (r ++ [(f, l)])
  | [], n, f, l, _, h1, h2, _ => ⟨h1, h2, trivial⟩
  | p :: r, n, f, l, h, h1, h2, h3 => ⟨h.1, h.2.1, RnOk.snoc h.2.2 (by have := h3 p (List.mem_cons_self ..); omega) h2 fun q hq => h3 q (List.mem_cons_of_mem _ hq)⟩
theorem RnOk.last : ∀ {r : Rn} {n f l : Nat}, RnOk n (r ++ [(f, l)]) → RnOk n r ∧ n ≤ f ∧ 1 ≤ l ∧ ∀ p ∈ r, p.1 + p.2 < f
  | [], n, f, l, h => ⟨trivial, h.1, h.2.1, (fun p hp => nomatch hp)⟩
  | p :: r, n, f, l, h => by
    obtain ⟨a, b, c⟩ := h
    obtain ⟨d1, d2, d3, d4⟩ := RnOk.last c
    exact ⟨⟨a, b, d1⟩, by omega, d3, fun q hq => by rcases List.mem_cons.mp hq with rfl | hq; omega; exact d4 q hq⟩
/-- a step lies in a run -/
def inRn (r : Rn) (x : Nat) : Prop := ∃ p ∈ r, p.1 ≤ x ∧ x < p.1 + p.2
structure RnF (ms : List Bool) (r : Rn) : Prop where
  ok : RnOk 0 r
  up : ∀ p ∈ r, p.1 + p.2 ≤ ms.length
  mem : ∀ x, x < ms.length → (ms[x]? = some true ↔ inRn r x)
  ln : r.map (·.2) = lens ms
  end_ : lstB false ms = true ↔ ∃ q f l, r = q ++ [(f, l)] ∧ f + l = ms.length
theorem ln_true : ∀ (P : List Bool) (k : Nat), lstB (decide (k ≠ 0)) P = true → ∃ L j, lnA k P = L ++ [j] ∧ lnA k (P ++ [true]) = L ++ [j + 1]
  | [], 0, h => by simp [lstB] at h
  | [], k + 1, _ => ⟨[], k + 1, rfl, rfl⟩
  | true :: P, k, h => by
    obtain ⟨L, j, h1, h2⟩ := ln_true P (k + 1) (by simpa [lstB] using h)
    have e : ∀ X : List Bool, lnA k (true :: X) = lnA (k + 1) X := fun X => by cases k <;> rfl
    exact ⟨L, j, by rw [e]; exact h1, by rw [List.cons_append, e]; exact h2⟩
  | false :: P, 0, h => ln_true P 0 (by simpa [lstB] using h)
  | false :: P, k + 1, h => by
    obtain ⟨L, j, h1, h2⟩ := ln_true P 0 (by simpa [lstB] using h)
    exact ⟨(k + 1) :: L, j, by simp only [lnA, h1]; rfl, by simp only [List.cons_append, lnA, h2]⟩
theorem rn_all (n : Nat) : ∀ ms : List Bool, ms.length = n → RnF ms (rnF ms) := by
  induction n with
  | zero =>
    intro ms h
    obtain rfl : ms = [] := List.eq_nil_of_length_eq_zero h
    exact ⟨trivial, (fun p hp => nomatch hp), (fun x hx => by simp at hx), rfl, ⟨(fun h => nomatch h), fun ⟨q, f, l, e, _⟩ => by cases q <;> cases e⟩⟩
  | succ n ih =>
    intro ms h
    rcases List.eq_nil_or_concat ms with e | ⟨P, b, e⟩
    · rw [e] at h; cases h
    · rw [List.concat_eq_append] at e
      subst e
      rw [List.length_append, List.length_cons, List.length_nil] at h
      obtain ⟨a1, a2, a3, a4, a5⟩ := ih P (by omega)
      rw [rnF_snoc]
      generalize rnF P = r at a1 a2 a3 a4 a5 ⊢
      have at_ : ∀ x, x < P.length + 1 → ((P ++ [b])[x]? = some true ↔ (x < P.length ∧ P[x]? = some true) ∨ (x = P.length ∧ b = true)) := by
        intro x hx
        by_cases hx2 : x < P.length
        · rw [List.getElem?_append_left hx2]
          constructor
          · exact fun w => .inl ⟨hx2, w⟩
          · rintro (w | w)
            · exact w.2
            · omega
        · obtain rfl : x = P.length := by omega
          simp
      cases b with
      | false =>
        have er : rnS r P.length false = r := rfl
        rw [er]
        refine ⟨a1, fun p hp => by have := a2 p hp; simp; omega, fun x hx => ?_, ?_, ?_⟩
        · rw [List.length_append] at hx
          rw [at_ x hx]
          constructor
          · rintro (⟨w1, w2⟩ | ⟨_, w⟩)
            · exact (a3 x w1).mp w2
            · cases w
          · intro w
            have hx2 : x < P.length := by
              obtain ⟨p, hp, _, h2⟩ := w
              have := a2 p hp
              omega
            exact .inl ⟨hx2, (a3 x hx2).mpr w⟩
        · rw [a4]
          exact (by rw [lens, lens, ln_cut]; simp [lnA])
        · rw [lstB_app]
          refine ⟨(fun w => nomatch w), fun ⟨q, f, l, e, e2⟩ => ?_⟩
          have := a2 (f, l) (by rw [e]; simp)
          simp only [List.length_append, List.length_cons, List.length_nil] at e2
          simp only at this
          omega
      | true =>
        have hlast : lstB false (P ++ [true]) = true := by rw [lstB_app]; rfl
        by_cases hl : lstB false P = true
        · obtain ⟨q, f, l, e, e2⟩ := a5.mp hl
          subst e
          have er : rnS (q ++ [(f, l)]) P.length true = q ++ [(f, l + 1)] := by
            unfold rnS
            simp [e2]
          rw [er]
          obtain ⟨o1, o2, o3, o4⟩ := a1.last
          obtain ⟨L, j, l1, l2⟩ := ln_true P 0 (by simpa using hl)
          refine ⟨o1.snoc o2 (by omega) o4, fun p hp => ?_, fun x hx => ?_, ?_, ?_⟩
          · rcases List.mem_append.mp hp with hp | hp
            · have := a2 p (List.mem_append.mpr (.inl hp)); simp; omega
            · simp only [List.mem_cons, List.not_mem_nil, or_false] at hp
              subst hp
              simp; omega
          · rw [List.length_append] at hx
            rw [at_ x hx]
            constructor
            · rintro (⟨w1, w2⟩ | ⟨w, _⟩)
              · obtain ⟨p, hp, h1, h2⟩ := (a3 x w1).mp w2
                rcases List.mem_append.mp hp with hp | hp
                · exact ⟨p, List.mem_append.mpr (.inl hp), h1, h2⟩
                · simp only [List.mem_cons, List.not_mem_nil, or_false] at hp
                  subst hp
                  simp only at h1 h2
                  exact ⟨(f, l + 1), by simp, h1, by simp only; omega⟩
              · exact ⟨(f, l + 1), by simp, by simp only; omega, by simp only; omega⟩
            · rintro ⟨p, hp, h1, h2⟩
              by_cases hx2 : x = P.length
              · exact .inr ⟨hx2, rfl⟩
              · have hx3 : x < P.length := by simp only [List.length_cons, List.length_nil] at hx; omega
                refine .inl ⟨hx3, (a3 x hx3).mpr ?_⟩
                rcases List.mem_append.mp hp with hp | hp
                · exact ⟨p, List.mem_append.mpr (.inl hp), h1, h2⟩
                · simp only [List.mem_cons, List.not_mem_nil, or_false] at hp
                  subst hp
                  simp only at h1 h2
                  exact ⟨(f, l), by simp, h1, by simp only; omega⟩
          · rw [List.map_append] at a4
            have a4' := a4.trans l1
            have := List.append_inj' a4' rfl
            rw [List.map_append, this.1]
            have hj : l = j := by simpa using this.2
            rw [hj]
            show L ++ [j + 1] = _
            exact l2.symm
          · exact ⟨fun _ => ⟨q, f, l + 1, rfl, by simp; omega⟩, fun _ => hlast⟩
        · have hlf : lstB false P = false := by simpa using hl
          have er : rnS r P.length true = r ++ [(P.length, 1)] := by
            unfold rnS
            simp only [if_true]
            cases e : r.getLast? with
            | none => rfl
            | some p =>
              obtain ⟨f, l⟩ := p
              simp only
              rw [if_neg]
              intro e2
              apply hl
              obtain ⟨q, e3⟩ := List.getLast?_eq_some_iff.mp e
              exact a5.mpr ⟨q, f, l, e3, e2⟩
          rw [er]
          have lt : ∀ p ∈ r, p.1 + p.2 < P.length := by
            intro p hp
            rcases Nat.lt_or_ge (p.1 + p.2) P.length with h | h
            · exact h
            · exfalso
              have h2 := a2 p hp
              -- then the last step is merged
              have hp2 : 1 ≤ p.2 := by
                have key : ∀ (r : Rn) (n : Nat), RnOk n r → ∀ p ∈ r, 1 ≤ p.2 := by
                  intro r
                  induction r with
                  | nil => intro n _ p hp; cases hp
                  | cons a r ih =>
                    intro n h p hp
                    rcases List.mem_cons.mp hp with rfl | hp
                    · exact h.2.1
                    · exact ih _ h.2.2 p hp
                exact key r 0 a1 p hp
              have h3 : P[P.length - 1]? = some true := (a3 (P.length - 1) (by omega)).mpr ⟨p, hp, by omega, by omega⟩
              rcases lst_false hlf with e | ⟨P', e⟩
              · rw [e] at h2 h3; simp at h2; omega
              · rw [e] at h3; simp at h3
          refine ⟨a1.snoc (Nat.zero_le _) (Nat.le_refl _) lt, fun p hp => ?_, fun x hx => ?_, ?_, ?_⟩
          · rcases List.mem_append.mp hp with hp | hp
            · have := a2 p hp; simp; omega
            · simp only [List.mem_cons, List.not_mem_nil, or_false] at hp
              subst hp
              simp
          · rw [List.length_append] at hx
            rw [at_ x hx]
            constructor
            · rintro (⟨w1, w2⟩ | ⟨w, _⟩)
              · obtain ⟨p, hp, h1, h2⟩ := (a3 x w1).mp w2
                exact ⟨p, List.mem_append.mpr (.inl hp), h1, h2⟩
              · exact ⟨(P.length, 1), by simp, by simp only; omega, by simp only; omega⟩
            · rintro ⟨p, hp, h1, h2⟩
              rcases List.mem_append.mp hp with hp | hp
              · have := a2 p hp
                exact .inl ⟨by omega, (a3 x (by omega)).mpr ⟨p, hp, h1, h2⟩⟩
              · simp only [List.mem_cons, List.not_mem_nil, or_false] at hp
                subst hp
                exact .inr ⟨by omega, rfl⟩
          · rw [List.map_append, a4, lens, lens_app hlf]; rfl
          · exact ⟨fun _ => ⟨r, P.length, 1, rfl, by simp⟩, fun _ => hlast⟩
theorem rn_ok (ms : List Bool) : RnF ms (rnF ms) := rn_all _ ms rfl
end DL

/-! Schedules that merge the runs. -/
namespace DL
open PySem
abbrev Pt3 := Nat × Nat × Bool
def kdS (b : Bool) : Str := if b then "charge" else "discharge"
def ptD (p : Pt3) : D := .tup [.int p.1, .int p.2.1, .str (kdS p.2.2)]
def PtOk : Nat → List Pt3 → Prop
  | _, [] => True
  | n, (f, l, _) :: r => n ≤ f ∧ 1 ≤ l ∧ PtOk (f + l) r
theorem PtOk.mono {r : List Pt3} {n m : Nat} (h : PtOk m r) (hn : n ≤ m) : PtOk n r := by
  cases r with
  | nil => trivial
  | cons p r => exact ⟨Nat.le_trans hn h.1, h.2⟩
def inPt (r : List Pt3) (x : Nat) : Prop := ∃ p ∈ r, p.1 ≤ x ∧ x < p.1 + p.2.1
def chg : List Pt3 → Nat
  | [] => 0
  | p :: r => (if p.2.2 then p.2.1 else 0) + chg r
theorem chg_app (a b : List Pt3) : chg (a ++ b) = chg a + chg b := by
  induction a with
  | nil => simp [chg]
  | cons p r ih => simp only [List.cons_append, chg, ih]; omega
theorem PtOk.far : ∀ {r : List Pt3} {n : Nat}, PtOk n r → ∀ x, inPt r x → n ≤ x
  | [], _, _, x, ⟨p, hp, _⟩ => nomatch hp
  | (f, l, b) :: r, n, h, x, ⟨p, hp, h1, h2⟩ => by
    rcases List.mem_cons.mp hp with rfl | hp
    · have := h.1; simp only at h1; omega
    · have := PtOk.far h.2.2 x ⟨p, hp, h1, h2⟩
      have := h.1
      omega
/-- the parts behind others are untouched by them -/
theorem PtOk.apart : ∀ {p : List Pt3} {f l : Nat} {b : Bool} {r : List Pt3} {n : Nat}, PtOk n (p ++ (f, l, b) :: r) → 1 ≤ l ∧ ∀ x, f ≤ x → x < f + l → ¬ inPt p x
  | [], f, l, b, r, n, h => ⟨h.2.1, fun x _ _ ⟨q, hq, _⟩ => nomatch hq⟩
  | (f0, l0, b0) :: p, f, l, b, r, n, h => by
    obtain ⟨a1, a2⟩ := PtOk.apart (p := p) h.2.2
    refine ⟨a1, fun x h1 h2 ⟨q, hq, h3, h4⟩ => ?_⟩
    rcases List.mem_cons.mp hq with rfl | hq
    · -- later parts lie behind
      have key : ∀ (p : List Pt3) (m : Nat), PtOk m (p ++ (f, l, b) :: r) → m ≤ f := by
        intro p
        induction p with
        | nil => intro m h; exact h.1
        | cons q p ih => intro m h; have := ih _ h.2.2; have := h.1; have := h.2.1; omega
      have := key p _ h.2.2
      simp only at h4
      omega
    · exact a2 x h1 h2 ⟨q, hq, h3, h4⟩
def ptCm (h : Int → Int) (p : Pt3) : Cm := if p.2.2 then ⟨true, p.2.1, h ((p.1 + p.2.1 : Nat) : Int)⟩ else ⟨false, p.2.1, h (p.1 : Int)⟩
theorem part_step {c : Int} {h : Int → Int} (hc2 : c ≤ 60) (hg : Eg c h) {f l : Nat} {b : Bool} (hl : 1 ≤ l) (hu : f + l ≤ c.toNat) (un : ∀ x : Nat, f ≤ x → x < f + l → ¬ h x = h ((x : Int) + 1)) :
    h ((f + l : Nat) : Int) = h (f : Int) + l ∧ (ptCm h (f, l, b)).ok c ∧
    (∀ x : Nat, x < c.toNat → (aft (h x) (ptCm h (f, l, b)) = aft (h ((x : Int) + 1)) (ptCm h (f, l, b)) ↔ (h x = h ((x : Int) + 1) ∨ (f ≤ x ∧ x < f + l)))) ∧
    aft (h 0) (ptCm h (f, l, b)) = h 0 + ((if b then l else 0 : Nat) : Int) := by
  have rise : ∀ j, j ≤ l → h ((f + j : Nat) : Int) = h (f : Int) + j := by
    intro j
    induction j with
    | zero => intro _; simp
    | succ j ih =>
      intro hj
      have a := ih (by omega)
      have b := un (f + j) (by omega) (by omega)
      have d := hg.stp ((f + j : Nat) : Int) (by omega) (by omega)
      rw [show ((f + (j + 1) : Nat) : Int) = ((f + j : Nat) : Int) + 1 by omega]
      omega
  have hr := rise l (Nat.le_refl _)
  have i1 := hg.inr (f : Int) (by omega) (by omega)
  have i2 := hg.inr ((f + l : Nat) : Int) (by omega) (by omega)
  have i0 := hg.inr 0 (by omega) (by omega)
  have m0 : h 0 ≤ h (f : Int) := hg.le (by omega) (by omega) (by omega)
  refine ⟨hr, ?_, fun x hx => ?_, ?_⟩
  · unfold ptCm Cm.ok
    cases b
    · simp only [Bool.false_eq_true, if_false]; omega
    · simp only [if_true]; omega
  · have s := hg.stp (x : Int) (by omega) (by omega)
    have lo : x < f → h ((x : Int) + 1) ≤ h (f : Int) := fun e => hg.le (by omega) (by omega) (by omega)
    have hi : f + l ≤ x → h ((f + l : Nat) : Int) ≤ h (x : Int) := fun e => hg.le (by omega) (by omega) (by omega)
    have mid : f ≤ x → x < f + l → h (x : Int) = h (f : Int) + (x - f) ∧ h ((x : Int) + 1) = h (f : Int) + (x - f) + 1 := fun e1 e2 => by
      have a := rise (x - f) (by omega)
      have b := rise (x - f + 1) (by omega)
      rw [show f + (x - f) = x by omega] at a
      rw [show ((f + (x - f + 1) : Nat) : Int) = (x : Int) + 1 by omega] at b
      omega
    unfold ptCm aft
    cases b
    · simp only [Bool.false_eq_true, if_false]
      rcases Nat.lt_or_ge x f with e | e
      · have := lo e
        (repeat' split) <;> omega
      · rcases Nat.lt_or_ge x (f + l) with e2 | e2
        · have := mid e e2
          (repeat' split) <;> omega
        · have := hi e2
          (repeat' split) <;> omega
    · simp only [if_true]
      rcases Nat.lt_or_ge x f with e | e
      · have := lo e
        (repeat' split) <;> omega
      · rcases Nat.lt_or_ge x (f + l) with e2 | e2
        · have := mid e e2
          (repeat' split) <;> omega
        · have := hi e2
          (repeat' split) <;> omega
  · unfold ptCm aft
    cases b
    · simp only [Bool.false_eq_true, if_false]
      split <;> omega
    · simp only [if_true]
      split <;> omega
/-- the same merged steps and the same first item: the same map -/
theorem same_map {c : Int} {g h : Int → Int} (hg : Eg c g) (hh : Eg c h) (h0 : g 0 = h 0) (e : ∀ x : Nat, x < c.toNat → (g x = g ((x : Int) + 1) ↔ h x = h ((x : Int) + 1))) : ∀ x, 0 ≤ x → x ≤ c → h x = g x := by
  have key : ∀ n : Nat, n ≤ c.toNat → h (n : Int) = g (n : Int) := by
    intro n
    induction n with
    | zero => intro _; exact h0.symm
    | succ n ih =>
      intro hn
      have a := ih (by omega)
      have b := hg.stp (n : Int) (by omega) (by omega)
      have d := hh.stp (n : Int) (by omega) (by omega)
      have f := e n (by omega)
      rw [show ((n + 1 : Nat) : Int) = (n : Int) + 1 by omega]
      omega
  intro x a b
  have := key x.toNat (by omega)
  rwa [show ((x.toNat : Nat) : Int) = x by omega] at this
structure PlanOk (c : Int) (g : Int → Int) (parts : List Pt3) (last : Option Cm) : Prop where
  ok : PtOk 0 parts
  up : ∀ p ∈ parts, p.1 + p.2.1 ≤ c.toNat
  fin : ∀ h, Eg c h → (∀ x : Nat, x < c.toNat → (h x = h ((x : Int) + 1) ↔ inPt parts x)) → h 0 = (chg parts : Nat) → ∀ x, 0 ≤ x → x ≤ c → (match last with | none => h x | some k => aft (h x) k) = g x
  lok : ∀ k, last = some k → k.ok c
theorem bits_at {c : Int} {g : Int → Int} {x : Nat} (hx : x < c.toNat) : (bits c g)[x]? = some true ↔ g x = g ((x : Int) + 1) := by
  unfold bits
  rw [List.getElem?_map, List.getElem?_range hx]
  simp
/-- how many runs and how much is merged -/
theorem fall {c : Int} {g : Int → Int} (hg : Eg c g) : ∀ n : Nat, n ≤ c.toNat → g (n : Int) + ((lens ((List.range n).map fun x : Nat => decide (g x = g ((x : Int) + 1)))).sum : Nat) = g 0 + n := by
  have sm : ∀ (l : List Bool), (lens l).sum = (l.filter id).length := by
    have key : ∀ (l : List Bool) (k : Nat), (lnA k l).sum = k + (l.filter id).length := by
      intro l
      induction l with
      | nil => intro k; cases k <;> simp [lnA]
      | cons b r ih =>
        intro k
        cases b
        · cases k <;> simp [lnA, ih]
        · have e : lnA k (true :: r) = lnA (k + 1) r := by cases k <;> rfl
          rw [e, ih]; simp; omega
    intro l
    rw [key]; omega
  intro n
  induction n with
  | zero => intro _; simp [lnA]
  | succ n ih =>
    intro hn
    have a := ih (by omega)
    rw [sm] at a ⊢
    rw [List.range_succ, List.map_append, List.filter_append, List.length_append]
    have d := hg.stp (n : Int) (by omega) (by omega)
    rw [show ((n + 1 : Nat) : Int) = (n : Int) + 1 by omega]
    by_cases e : g (n : Int) = g ((n : Int) + 1)
    · simp only [List.map_cons, List.map_nil, e, decide_true, List.filter_cons, id, if_true, List.filter_nil, List.length_cons, List.length_nil]
      omega
    · simp only [List.map_cons, List.map_nil, e, decide_false, List.filter_cons, id, List.filter_nil, List.length_nil, Bool.false_eq_true, if_false]
      omega
theorem total_eq {c : Int} {g : Int → Int} (hc : 0 ≤ c) (hg : Eg c g) : g c + ((lens (bits c g)).sum : Nat) = g 0 + c := by
  have := fall hg c.toNat (Nat.le_refl _)
  rw [show ((c.toNat : Nat) : Int) = c by omega] at this
  exact this
open Classical in
/-- the smallest number of commands -/
noncomputable def fewN (c : Int) (g : Int → Int) : Nat := nrA false (bits c g) + if Rule (g 0) (bits c g) then 0 else 1
theorem bits_congr {c : Int} {g h : Int → Int} (e : ∀ x, 0 ≤ x → x ≤ c → g x = h x) : bits c g = bits c h := by
  apply List.map_congr_left
  intro x hx
  have := List.mem_range.mp hx
  rw [e x (by omega) (by omega), e ((x : Int) + 1) (by omega) (by omega)]
theorem fewN_congr {c : Int} {g h : Int → Int} (hc : 0 ≤ c) (e : ∀ x, 0 ≤ x → x ≤ c → g x = h x) : fewN c g = fewN c h := by
  unfold fewN
  rw [bits_congr e, e 0 (by omega) hc]
/-- no schedule with fewer commands -/
theorem few_le {c : Int} {g : Int → Int} (hc : 0 ≤ c) {s : List Cm} (hs : ∀ k ∈ s, k.ok c) (e : ∀ x, 0 ≤ x → x ≤ c → fin s x = g x) : fewN c g ≤ s.length := by
  rw [← fewN_congr hc e]
  obtain ⟨h1, h2⟩ := lower hc _ s rfl hs
  unfold fewN
  split
  · omega
  · rename_i h
    have : nrA false (bits c (fin s)) ≠ s.length := fun w => h (h2 w)
    omega
end DL
namespace DL
open PySem
abbrev rgL (k : Nat) (ds : List D) : List D := iL ((List.range' k ds.length).map fun j : Nat => (j : Int))
theorem rg_cons {k : Nat} {d : D} {ds : List D} (h : d :: ds = rgL k (d :: ds)) : d = .int k ∧ ds = rgL (k + 1) ds := by
  unfold rgL at h
  rw [List.length_cons, List.range'_succ, List.map_cons] at h
  simp only [iL, List.map_cons, List.cons.injEq] at h
  exact h
theorem rg_rng {a : Int} {b : Int} {k : Nat} (h : a = k) : rng a b = rgL k (rng a b) ∧ (rng a b).length = (b - a).toNat := by
  subst h
  have e : rng (k : Int) b = iL ((List.range' k (b - k).toNat).map fun j : Nat => (j : Int)) := by
    rw [rng_iL]
    congr 1
    rw [List.range'_eq_map_range, List.map_map]
    apply List.map_congr_left
    intro x _
    simp
  have l : (rng (k : Int) b).length = (b - k).toNat := by rw [rng_iL, iL_len]; simp
  refine ⟨?_, l⟩
  unfold rgL
  rw [l]
  exact e
theorem x_sumT {Q : D → Prop} {xs : List Int} (q : Q (.int xs.sum)) : ∃ z, fSum [.tup (iL xs)] = some z ∧ Q z := ⟨_, by simp only [fSum, ints_iL], q⟩
def rnD (p : Nat × Nat) : D := .tup [.int p.1, .int p.2]
theorem rn_wl {r : Rn} (h : r.length ≤ cap) : Wl 2 (.lst (r.map rnD)) := by
  have := ok_rows (ls := r.map fun p => [(p.1 : Int), (p.2 : Int)]) (by rw [List.length_map]; exact h) (by
    intro l hl
    obtain ⟨p, _, rfl⟩ := List.mem_map.mp hl
    exact cap_lt (by simp))
  rw [List.map_map] at this
  exact this
theorem rnF_len (ms : List Bool) : (rnF ms).length ≤ ms.length := by
  have key : ∀ (l : List Bool), (lens l).length ≤ l.length := by
    intro l
    rw [lens_len]
    have : ∀ (l : List Bool) (p : Bool), nrA p l ≤ l.length := by
      intro l
      induction l with
      | nil => intro p; exact Nat.le_refl _
      | cons b r ih => intro p; have := ih b; simp only [nrA, List.length_cons]; split <;> omega
    exact this l false
  have h := key ms
  rw [← (rn_ok ms).ln, List.length_map] at h
  exact h
end DL

/-! Which parts make an effect. -/
namespace DL
open PySem
def selA (ch : List Int) : Nat → List Nat → Nat
  | _, [] => 0
  | i, l :: r => (if (i : Int) ∈ ch then l else 0) + selA ch (i + 1) r
def ptsA (ch : List Int) : Nat → Rn → List Pt3
  | _, [] => []
  | i, (f, l) :: r => (f, l, decide ((i : Int) ∈ ch)) :: ptsA ch (i + 1) r
def ptsK (b : Bool) (r : Rn) : List Pt3 := r.map fun p => (p.1, p.2, b)
def spl : Nat → Rn → List Pt3
  | _, [] => []
  | left, (f, l) :: r => (if 0 < min l left then [(f, min l left, true)] else []) ++ ((if min l left < l then [(f + min l left, l - min l left, false)] else []) ++ spl (left - min l left) r)
theorem ptsA_len (ch : List Int) : ∀ (r : Rn) (i : Nat), (ptsA ch i r).length = r.length
  | [], _ => rfl
  | (f, l) :: r, i => by simp [ptsA, ptsA_len ch r]
theorem ptsA_ok (ch : List Int) : ∀ {r : Rn} {n : Nat} (i : Nat), RnOk n r → PtOk n (ptsA ch i r)
  | [], _, _, _ => trivial
  | (f, l) :: r, n, i, h => ⟨h.1, h.2.1, (ptsA_ok ch (i + 1) h.2.2).mono (by omega)⟩
theorem ptsA_in (ch : List Int) (x : Nat) : ∀ (r : Rn) (i : Nat), inPt (ptsA ch i r) x ↔ inRn r x
  | [], _ => ⟨(fun ⟨p, hp, _⟩ => nomatch hp), (fun ⟨p, hp, _⟩ => nomatch hp)⟩
  | (f, l) :: r, i => by
    have ih := ptsA_in ch x r (i + 1)
    constructor
    · rintro ⟨p, hp, h⟩
      rcases List.mem_cons.mp hp with rfl | hp
      · exact ⟨(f, l), List.mem_cons_self .., h⟩
      · obtain ⟨q, hq, h2⟩ := ih.mp ⟨p, hp, h⟩
        exact ⟨q, List.mem_cons_of_mem _ hq, h2⟩
    · rintro ⟨p, hp, h⟩
      rcases List.mem_cons.mp hp with rfl | hp
      · exact ⟨(f, l, _), List.mem_cons_self .., h⟩
      · obtain ⟨q, hq, h2⟩ := ih.mpr ⟨p, hp, h⟩
        exact ⟨q, List.mem_cons_of_mem _ hq, h2⟩
theorem ptsA_chg (ch : List Int) : ∀ (r : Rn) (i : Nat), chg (ptsA ch i r) = selA ch i (r.map (·.2))
  | [], _ => rfl
  | (f, l) :: r, i => by simp [ptsA, chg, selA, ptsA_chg ch r]
theorem ptsK_ok (b : Bool) : ∀ {r : Rn} {n : Nat}, RnOk n r → PtOk n (ptsK b r)
  | [], _, _ => trivial
  | (f, l) :: r, n, h => ⟨h.1, h.2.1, (ptsK_ok b h.2.2).mono (by omega)⟩
theorem ptsK_in (b : Bool) (r : Rn) (x : Nat) : inPt (ptsK b r) x ↔ inRn r x := by
  constructor
  · rintro ⟨p, hp, h⟩
    obtain ⟨q, hq, rfl⟩ := List.mem_map.mp hp
    exact ⟨q, hq, h⟩
  · rintro ⟨q, hq, h⟩
    exact ⟨_, List.mem_map.mpr ⟨q, hq, rfl⟩, h⟩
theorem ptsK_chg (b : Bool) : ∀ r : Rn, chg (ptsK b r) = if b then (r.map (·.2)).sum else 0
  | [] => by cases b <;> rfl
  | (f, l) :: r => by
    have h := ptsK_chg b r
    unfold ptsK at h ⊢
    simp only [List.map_cons, chg, h, List.sum_cons]
    cases b <;> simp
theorem spl_ok : ∀ {r : Rn} {n : Nat} (left : Nat), RnOk n r → PtOk n (spl left r)
  | [], _, _, _ => trivial
  | (f, l) :: r, n, left, h => by
    obtain ⟨h1, h2, h3⟩ := h
    have ih := (spl_ok (left - min l left) h3)
    unfold spl
    split <;> split
    · refine ⟨h1, by omega, ?_⟩
      exact ⟨Nat.le_refl _, by omega, ih.mono (by omega)⟩
    · exact ⟨h1, by omega, ih.mono (by omega)⟩
    · exact ⟨by omega, by omega, ih.mono (by omega)⟩
    · exact ih.mono (by omega)
theorem spl_in (x : Nat) : ∀ {r : Rn} {n : Nat} (left : Nat), RnOk n r → (inPt (spl left r) x ↔ inRn r x)
  | [], _, _, _ => ⟨(fun ⟨p, hp, _⟩ => nomatch hp), (fun ⟨p, hp, _⟩ => nomatch hp)⟩
  | (f, l) :: r, n, left, h => by
    obtain ⟨h1, h2, h3⟩ := h
    have ih := spl_in x (left - min l left) h3
    constructor
    · rintro ⟨p, hp, a, b⟩
      unfold spl at hp
      rcases List.mem_append.mp hp with hp | hp
      · split at hp
        · simp only [List.mem_cons, List.not_mem_nil, or_false] at hp
          subst hp
          simp only at a b
          exact ⟨(f, l), List.mem_cons_self .., a, by simp only; omega⟩
        · cases hp
      · rcases List.mem_append.mp hp with hp | hp
        · split at hp
          · simp only [List.mem_cons, List.not_mem_nil, or_false] at hp
            subst hp
            simp only at a b
            exact ⟨(f, l), List.mem_cons_self .., by simp only; omega, by simp only; omega⟩
          · cases hp
        · obtain ⟨q, hq, h4⟩ := ih.mp ⟨p, hp, a, b⟩
          exact ⟨q, List.mem_cons_of_mem _ hq, h4⟩
    · rintro ⟨p, hp, a, b⟩
      rcases List.mem_cons.mp hp with rfl | hp
      · simp only at a b
        by_cases hx : x < f + min l left
        · refine ⟨(f, min l left, true), ?_, a, hx⟩
          unfold spl
          rw [if_pos (by omega)]
          simp
        · refine ⟨(f + min l left, l - min l left, false), ?_, by simp only; omega, by simp only; omega⟩
          unfold spl
          rw [if_pos (c := min l left < l) (by omega)]
          simp
      · obtain ⟨q, hq, h4⟩ := ih.mpr ⟨p, hp, a, b⟩
        refine ⟨q, ?_, h4⟩
        unfold spl
        exact List.mem_append.mpr (.inr (List.mem_append.mpr (.inr hq)))
theorem spl_chg : ∀ (r : Rn) (left : Nat), chg (spl left r) = min left (r.map (·.2)).sum
  | [], left => by simp [spl, chg]
  | (f, l) :: r, left => by
    have ih := spl_chg r (left - min l left)
    unfold spl
    rw [chg_app, chg_app, ih]
    simp only [List.map_cons, List.sum_cons]
    split <;> split <;> simp [chg] <;> omega
theorem spl_z : ∀ r : Rn, (∀ p ∈ r, 1 ≤ p.2) → (spl 0 r).length = r.length
  | [], _ => rfl
  | (f, l) :: r, h => by
    have h1 := h (f, l) (List.mem_cons_self ..)
    simp only at h1
    unfold spl
    simp only [Nat.min_zero, Nat.lt_irrefl, if_false, Nat.sub_zero]
    rw [if_pos (by omega)]
    simp [spl_z r fun q hq => h q (List.mem_cons_of_mem _ hq)]
theorem spl_len : ∀ (r : Rn) (left : Nat), (∀ p ∈ r, 1 ≤ p.2) → ((spl left r).length = r.length + 1 ∨ ((spl left r).length = r.length ∧ ∃ sub : List Nat, sub.Sublist (r.map (·.2)) ∧ sub.sum = min left (r.map (·.2)).sum))
  | [], left, _ => .inr ⟨rfl, [], List.Sublist.refl _, by simp⟩
  | (f, l) :: r, left, h => by
    have hl := h (f, l) (List.mem_cons_self ..)
    simp only at hl
    have hr : ∀ p ∈ r, 1 ≤ p.2 := fun q hq => h q (List.mem_cons_of_mem _ hq)
    have ih := spl_len r (left - min l left) hr
    unfold spl
    simp only [List.length_append, List.map_cons, List.sum_cons, List.length_cons]
    by_cases h1 : l ≤ left
    · rw [if_pos (by omega), if_neg (by omega)]
      rcases ih with ih | ⟨ih, sub, s1, s2⟩
      · left; simp only [List.length_cons, List.length_nil]; omega
      · right
        refine ⟨by simp only [List.length_cons, List.length_nil]; omega, l :: sub, s1.cons_cons l, ?_⟩
        rw [List.sum_cons, s2]
        omega
    · rcases Nat.eq_zero_or_pos left with h0 | h0
      · subst h0
        simp only [Nat.min_zero, Nat.sub_zero, Nat.lt_irrefl, if_false, List.length_nil, Nat.zero_add, Nat.zero_min] at ih ⊢
        rw [if_pos (by omega)]
        rcases ih with ih | ⟨ih, sub, s1, s2⟩
        · left; simp only [List.length_cons, List.length_nil]; omega
        · right
          exact ⟨by simp only [List.length_cons, List.length_nil]; omega, sub, s1.cons l, s2⟩
      · left
        rw [if_pos (by omega), if_pos (by omega), show left - min l left = 0 by omega, spl_z r hr]
        simp only [List.length_cons, List.length_nil]
        omega
theorem RnOk.pos : ∀ {r : Rn} {n : Nat}, RnOk n r → ∀ p ∈ r, 1 ≤ p.2
  | [], _, _, p, hp => nomatch hp
  | (f, l) :: r, n, h, p, hp => by
    rcases List.mem_cons.mp hp with rfl | hp
    · exact h.2.1
    · exact RnOk.pos h.2.2 p hp
theorem RnOk.from : ∀ {r : Rn} {n : Nat}, RnOk n r → ∀ p ∈ r, n ≤ p.1
  | [], _, _, p, hp => nomatch hp
  | (f, l) :: r, n, h, p, hp => by
    rcases List.mem_cons.mp hp with rfl | hp
    · exact h.1
    · have := RnOk.from h.2.2 p hp
      have := h.1
      omega
theorem PtOk.len : ∀ {r : List Pt3} {n c : Nat}, PtOk n r → (∀ p ∈ r, p.1 + p.2.1 ≤ c) → r.length ≤ c - n
  | [], _, _, _, _ => Nat.zero_le _
  | (f, l, b) :: r, n, c, h, hu => by
    have ih := PtOk.len h.2.2 fun q hq => hu q (List.mem_cons_of_mem _ hq)
    have h1 := hu _ (List.mem_cons_self ..)
    have h2 := h.1
    have h3 := h.2.1
    simp only at h1
    simp only [List.length_cons]
    omega
section
variable {c : Int} {g : Int → Int}
/-- all runs are merged by the parts -/
theorem plan_whole (hc : 0 ≤ c) (hg : Eg c g) {parts : List Pt3} (h1 : PtOk 0 parts) (h2 : ∀ x, inPt parts x ↔ inRn (rnF (bits c g)) x) (h3 : ((chg parts : Nat) : Int) = g 0) : PlanOk c g parts none where
  ok := h1
  up := fun p hp => by
    have F := rn_ok (bits c g)
    -- the last step of a part lies in a run
    have key : ∀ (r : List Pt3) (n : Nat), PtOk n r → ∀ p ∈ r, 1 ≤ p.2.1 := by
      intro r
      induction r with
      | nil => intro n _ p hp; cases hp
      | cons a r ih =>
        intro n h p hp
        rcases List.mem_cons.mp hp with rfl | hp
        · exact h.2.1
        · exact ih _ h.2.2 p hp
    have hp1 := key parts 0 h1 p hp
    obtain ⟨q, hq, a, b⟩ := (h2 (p.1 + p.2.1 - 1)).mp ⟨p, hp, by omega, by omega⟩
    have := F.up q hq
    rw [bits_len] at this
    omega
  fin := fun h hh hm h0 => by
    have F := rn_ok (bits c g)
    refine same_map hg hh (by rw [h0, h3]) fun x hx => ?_
    rw [hm x hx, h2 x, ← F.mem x (by rw [bits_len]; exact hx), bits_at hx]
  lok := fun k hk => nomatch hk
theorem bits_in {x : Nat} (hx : x < c.toNat) : g x = g ((x : Int) + 1) ↔ inRn (rnF (bits c g)) x := by
  have F := rn_ok (bits c g)
  rw [← F.mem x (by rw [bits_len]; exact hx), bits_at hx]
theorem plan_low (hc : 0 ≤ c) (hc2 : c ≤ 60) (hg : Eg c g) {l0 : Nat} {r : Rn} (hr : rnF (bits c g) = (0, l0) :: r) (hs : g 0 ≤ ((r.map (·.2)).sum : Nat)) : PlanOk c g (ptsK true r) (some ⟨false, ((lens (bits c g)).sum : Nat) - g 0, g 0⟩) := by
  have F := rn_ok (bits c g)
  have T := F.ln
  have hok := F.ok
  have hup := F.up
  have hb := fun x hx => bits_in (c := c) (g := g) (x := x) hx
  rw [hr] at T hok hup hb
  obtain ⟨_, o2, o3⟩ := hok
  have hu0 := hup _ (List.mem_cons_self ..)
  rw [bits_len] at hu0
  simp only [Nat.zero_add] at hu0 o3
  have Ts := congrArg List.sum T
  simp only [List.map_cons, List.sum_cons] at Ts
  have i0 := hg.inr 0 (Int.le_refl _) hc
  have hsl := total_eq hc hg
  have ic := hg.inr c hc (Int.le_refl _)
  refine ⟨(ptsK_ok true o3).mono (Nat.zero_le _), fun p hp => ?_, fun h hh hm h0 x hx0 hx1 => ?_, fun k hk => ?_⟩
  · obtain ⟨q, hq, rfl⟩ := List.mem_map.mp hp
    have := hup q (List.mem_cons_of_mem _ hq)
    rw [bits_len] at this
    exact this
  · rw [ptsK_chg] at h0
    simp only [if_true] at h0
    -- below l0
    have lowh : ∀ n : Nat, n ≤ l0 → h (n : Int) = h 0 + n ∧ g (n : Int) = g 0 := by
      intro n
      induction n with
      | zero => intro _; exact ⟨by simp, rfl⟩
      | succ n ih =>
        intro hn
        obtain ⟨a, b⟩ := ih (by omega)
        have e1 : ¬ h (n : Int) = h ((n : Int) + 1) := by
          rw [hm n (by omega), ptsK_in]
          rintro ⟨q, hq, q1, q2⟩
          have := RnOk.from o3 q hq
          omega
        have e2 : g (n : Int) = g ((n : Int) + 1) := (hb n (by omega)).mpr ⟨(0, l0), List.mem_cons_self .., by simp, by simp only; omega⟩
        have s1 := hh.stp (n : Int) (by omega) (by omega)
        rw [show ((n + 1 : Nat) : Int) = (n : Int) + 1 by omega]
        omega
    have highh : ∀ n : Nat, l0 + n ≤ c.toNat → h ((l0 + n : Nat) : Int) - h (l0 : Int) = g ((l0 + n : Nat) : Int) - g (l0 : Int) := by
      intro n
      induction n with
      | zero => intro _; simp
      | succ n ih =>
        intro hn
        have a := ih (by omega)
        have e : g ((l0 + n : Nat) : Int) = g (((l0 + n : Nat) : Int) + 1) ↔ h ((l0 + n : Nat) : Int) = h (((l0 + n : Nat) : Int) + 1) := by
          rw [hb (l0 + n) (by omega), hm (l0 + n) (by omega), ptsK_in]
          constructor
          · rintro ⟨q, hq, q1, q2⟩
            rcases List.mem_cons.mp hq with rfl | hq
            · simp only at q2; omega
            · exact ⟨q, hq, q1, q2⟩
          · rintro ⟨q, hq, q1, q2⟩
            exact ⟨q, List.mem_cons_of_mem _ hq, q1, q2⟩
        have s1 := hh.stp ((l0 + n : Nat) : Int) (by omega) (by omega)
        have s2 := hg.stp ((l0 + n : Nat) : Int) (by omega) (by omega)
        rw [show ((l0 + (n + 1) : Nat) : Int) = ((l0 + n : Nat) : Int) + 1 by omega]
        omega
    have hl := lowh l0 (Nat.le_refl _)
    show aft (h x) ⟨false, ((lens (bits c g)).sum : Nat) - g 0, g 0⟩ = g x
    unfold aft
    simp only [Bool.false_eq_true, if_false]
    rcases Int.le_total x l0 with hxl | hxl
    · have a := lowh x.toNat (by omega)
      rw [show ((x.toNat : Nat) : Int) = x by omega] at a
      split <;> omega
    · have a := highh (x.toNat - l0) (by omega)
      rw [show ((l0 + (x.toNat - l0) : Nat) : Int) = x by omega] at a
      have b := hg.le (x := 0) (y := x) (by omega) (by omega) (by omega)
      split <;> omega
  · cases hk
    refine ⟨?_, ?_, ?_, ?_⟩ <;> simp only <;> omega
theorem plan_top (hc : 0 ≤ c) (hc2 : c ≤ 60) (hg : Eg c g) {f l : Nat} {q : Rn} (hr : rnF (bits c g) = q ++ [(f, l)]) (he : f + l = c.toNat) (hs : (l : Int) ≤ g 0) : PlanOk c g (ptsK false q) (some ⟨true, g 0, g c⟩) := by
  have F := rn_ok (bits c g)
  have hok := F.ok
  have hup := F.up
  have hb := fun x hx => bits_in (c := c) (g := g) (x := x) hx
  rw [hr] at hok hup hb
  obtain ⟨o1, o2, o3, o4⟩ := hok.last
  have i0 := hg.inr 0 (Int.le_refl _) hc
  have ic := hg.inr c hc (Int.le_refl _)
  refine ⟨ptsK_ok false o1, fun p hp => ?_, fun h hh hm h0 x hx0 hx1 => ?_, fun k hk => ?_⟩
  · obtain ⟨z, hz, rfl⟩ := List.mem_map.mp hp
    have := hup z (List.mem_append.mpr (.inl hz))
    rw [bits_len] at this
    exact this
  · rw [ptsK_chg] at h0
    simp only [Bool.false_eq_true, if_false] at h0
    have lowh : ∀ n : Nat, n ≤ f → h (n : Int) = g (n : Int) - g 0 := by
      intro n
      induction n with
      | zero => intro _; show h 0 = g 0 - g 0; rw [h0]; omega
      | succ n ih =>
        intro hn
        have a := ih (by omega)
        have e : g (n : Int) = g ((n : Int) + 1) ↔ h (n : Int) = h ((n : Int) + 1) := by
          rw [hb n (by omega), hm n (by omega), ptsK_in]
          constructor
          · rintro ⟨z, hz, q1, q2⟩
            rcases List.mem_append.mp hz with hz | hz
            · exact ⟨z, hz, q1, q2⟩
            · simp only [List.mem_cons, List.not_mem_nil, or_false] at hz
              subst hz
              simp only at q1
              omega
          · rintro ⟨z, hz, q1, q2⟩
            exact ⟨z, List.mem_append.mpr (.inl hz), q1, q2⟩
        have s1 := hh.stp (n : Int) (by omega) (by omega)
        have s2 := hg.stp (n : Int) (by omega) (by omega)
        rw [show ((n + 1 : Nat) : Int) = (n : Int) + 1 by omega]
        omega
    have highh : ∀ n : Nat, f + n ≤ c.toNat → h ((f + n : Nat) : Int) = h (f : Int) + n ∧ g ((f + n : Nat) : Int) = g (f : Int) := by
      intro n
      induction n with
      | zero => intro _; simp
      | succ n ih =>
        intro hn
        obtain ⟨a, b⟩ := ih (by omega)
        have e1 : ¬ h ((f + n : Nat) : Int) = h (((f + n : Nat) : Int) + 1) := by
          rw [hm (f + n) (by omega), ptsK_in]
          rintro ⟨z, hz, q1, q2⟩
          have := o4 z hz
          omega
        have e2 : g ((f + n : Nat) : Int) = g (((f + n : Nat) : Int) + 1) := (hb (f + n) (by omega)).mpr ⟨(f, l), by simp, by simp only; omega, by simp only; omega⟩
        have s1 := hh.stp ((f + n : Nat) : Int) (by omega) (by omega)
        rw [show ((f + (n + 1) : Nat) : Int) = ((f + n : Nat) : Int) + 1 by omega]
        omega
    have hf := lowh f (Nat.le_refl _)
    have hcc := highh l (by omega)
    rw [show ((f + l : Nat) : Int) = c by omega] at hcc
    show aft (h x) ⟨true, g 0, g c⟩ = g x
    unfold aft
    simp only [if_true]
    rcases Int.le_total x f with hxl | hxl
    · have a := lowh x.toNat (by omega)
      rw [show ((x.toNat : Nat) : Int) = x by omega] at a
      have b := hg.le (x := x) (y := c) (by omega) (by omega) (by omega)
      have d := hg.le (x := x) (y := f) (by omega) (by omega) (by omega)
      split <;> omega
    · have a := highh (x.toNat - f) (by omega)
      rw [show ((f + (x.toNat - f) : Nat) : Int) = x by omega] at a
      split <;> omega
  · cases hk
    refine ⟨?_, ?_, ?_, ?_⟩ <;> simp only <;> omega
end
end DL

/-! When one command for each run is enough. -/
namespace DL
open PySem
section
variable {c : Int} {g : Int → Int}
theorem rep_get {l : List Bool} {n : Nat} {b : Bool} (hl : l.length = n) (h : ∀ i, i < n → l[i]? = some b) : l = List.replicate n b := by
  apply List.ext_getElem?
  intro i
  by_cases hi : i < n
  · rw [h i hi, List.getElem?_replicate, if_pos hi]
  · rw [List.getElem?_eq_none (by omega), List.getElem?_eq_none (by rw [List.length_replicate]; omega)]
theorem rule_low {ms : List Bool} {s : Int} {l0 : Nat} {r : Rn} (hr : rnF ms = (0, l0) :: r) (hs : s ≤ ((r.map (·.2)).sum : Nat)) : Rule s ms := by
  have F := rn_ok ms
  have T := F.ln
  have hok := F.ok
  have hup := F.up
  have hb := F.mem
  rw [hr] at T hok hup hb
  obtain ⟨_, o2, o3⟩ := hok
  have hu0 := hup _ (List.mem_cons_self ..)
  simp only [Nat.zero_add] at hu0 o3
  have e1 : ms.take l0 = List.replicate l0 true := by
    refine rep_get (by rw [List.length_take]; omega) fun i hi => ?_
    rw [List.getElem?_take_of_lt hi]
    exact (hb i (by omega)).mpr ⟨(0, l0), List.mem_cons_self .., Nat.zero_le _, by simp only; omega⟩
  have e2 : ms = List.replicate l0 true ++ ms.drop l0 := by rw [← e1, List.take_append_drop]
  have hB : okB (ms.drop l0) := by
    cases h : ms.drop l0 with
    | nil => exact .inl rfl
    | cons b B' =>
      right
      have hl : l0 < ms.length := by
        rcases Nat.lt_or_ge l0 ms.length with z | z
        · exact z
        · rw [List.drop_eq_nil_of_le z] at h; cases h
      have hb0 : ms[l0]? = some b := by
        have := congrArg (fun l => l[0]?) h
        simpa using this
      cases b with
      | false => exact ⟨B', rfl⟩
      | true =>
        exfalso
        obtain ⟨q, hq, q1, q2⟩ := (hb l0 hl).mp hb0
        rcases List.mem_cons.mp hq with rfl | hq
        · simp only at q2; omega
        · have := RnOk.from o3 q hq; omega
  refine .inr (.inl ⟨l0, ms.drop l0, e2, o2, hB, ?_⟩)
  have h1 := lens_run hB l0 0 (by omega)
  rw [Nat.zero_add, ← e2] at h1
  rw [show lens ms = l0 :: lens (ms.drop l0) from h1, List.map_cons, List.cons.injEq] at T
  rw [← T.2]
  exact hs
theorem rule_top {ms : List Bool} {s : Int} {f l : Nat} {q : Rn} (hr : rnF ms = q ++ [(f, l)]) (he : f + l = ms.length) (hs : (l : Int) ≤ s) : Rule s ms := by
  have F := rn_ok ms
  have hok := F.ok
  have hb := F.mem
  rw [hr] at hok hb
  obtain ⟨o1, o2, o3, o4⟩ := hok.last
  have e1 : ms.drop f = List.replicate l true := by
    refine rep_get (by rw [List.length_drop]; omega) fun i hi => ?_
    rw [List.getElem?_drop]
    exact (hb (f + i) (by omega)).mpr ⟨(f, l), by simp, by simp only; omega, by simp only; omega⟩
  have e2 : ms = ms.take f ++ List.replicate l true := by rw [← e1, List.take_append_drop]
  refine .inr (.inr ⟨l, ms.take f, e2, o3, ?_, hs⟩)
  rcases Nat.eq_zero_or_pos f with h0 | h0
  · rw [h0]; rfl
  · have hl : ms.take f = (ms.take f).dropLast ++ [false] := by
      have hne : ms.take f ≠ [] := by
        intro e
        have := congrArg List.length e
        rw [List.length_take, List.length_nil] at this
        omega
      have h1 := List.dropLast_concat_getLast hne
      have h2 : (ms.take f).getLast hne = false := by
        have h3 : (ms.take f)[f - 1]? = some ((ms.take f).getLast hne) := by
          rw [← List.getLast?_eq_some_getLast, List.getLast?_eq_getElem?, List.length_take, show min f ms.length = f by omega]
        rw [List.getElem?_take_of_lt (by omega)] at h3
        cases hv : (ms.take f).getLast hne with
        | false => rfl
        | true =>
          exfalso
          rw [hv] at h3
          obtain ⟨z, hz, q1, q2⟩ := (hb (f - 1) (by omega)).mp h3
          rcases List.mem_append.mp hz with hz | hz
          · have := o4 z hz; omega
          · simp only [List.mem_cons, List.not_mem_nil, or_false] at hz
            subst hz
            simp only at q1
            omega
      rw [h2] at h1
      exact h1.symm
    rw [hl, lstB_app]
    rfl
theorem no_rule {ms : List Bool} {s : Int} (h1 : ∀ sub : List Nat, sub.Sublist (lens ms) → ((sub.sum : Nat) : Int) ≠ s)
    (h2 : ∀ l0 r, rnF ms = (0, l0) :: r → ¬ s ≤ ((r.map (·.2)).sum : Nat)) (h3 : ∀ q f l, rnF ms = q ++ [(f, l)] → f + l = ms.length → ¬ (l : Int) ≤ s) : ¬ Rule s ms := by
  have F := rn_ok ms
  rintro (⟨sub, a, b⟩ | ⟨k, B, a, b, d, e⟩ | ⟨k, A, a, b, d, e⟩)
  · exact h1 sub a b
  · have hl := lens_run d k 0 (by omega)
    rw [Nat.zero_add, ← a] at hl
    have T := F.ln
    rw [show lens ms = k :: lens B from hl] at T
    cases hr : rnF ms with
    | nil => rw [hr] at T; cases T
    | cons p r =>
      obtain ⟨f, l⟩ := p
      rw [hr, List.map_cons, List.cons.injEq] at T
      have hok := F.ok
      have hb := F.mem
      rw [hr] at hok hb
      have hf : f = 0 := by
        have hm : ms[0]? = some true := by
          rw [a]
          obtain ⟨k, rfl⟩ : ∃ j, k = j + 1 := ⟨k - 1, by omega⟩
          rfl
        have hlen : 0 < ms.length := by
          rcases Nat.eq_zero_or_pos ms.length with z | z
          · rw [List.eq_nil_of_length_eq_zero z] at hm; cases hm
          · exact z
        obtain ⟨q, hq, q1, q2⟩ := (hb 0 hlen).mp hm
        rcases List.mem_cons.mp hq with rfl | hq
        · simp only at q1; omega
        · have := RnOk.from hok.2.2 q hq; omega
      subst hf
      exact h2 l r hr (by rw [T.2]; exact e)
  · have hlast : lstB false ms = true := by rw [a, lstB_app]; exact lst_rep k _ b
    obtain ⟨q, f, l, hr, he⟩ := F.end_.mp hlast
    have T := F.ln
    have hk := lens_run (.inl rfl : okB []) k 0 (by omega)
    rw [Nat.zero_add, List.append_nil] at hk
    rw [hr, a, lens_app d, show lens (List.replicate k true) = [k] from hk, List.map_append] at T
    have := (List.append_inj' T rfl).2
    simp only [List.map_cons, List.map_nil, List.cons.injEq, and_true] at this
    exact h3 q f l hr he (by rw [this]; exact e)
theorem runs_len (ms : List Bool) : (rnF ms).length = nrA false ms := by rw [← lens_len, ← (rn_ok ms).ln, List.length_map]
end
end DL

/-! Fewest commands: small facts. -/
namespace DL
open PySem
theorem few_small (c : Int) (g : Int → Int) : fewN c g ≤ c.toNat + 1 := by
  have h1 := rnF_len (bits c g)
  rw [runs_len, bits_len] at h1
  unfold fewN
  split <;> omega
theorem lst_off : ∀ n : Nat, 0 < n → ∀ p, lstB p (List.replicate n false) = false
  | 1, _, _ => rfl
  | n + 2, _, p => by rw [List.replicate_succ]; exact lst_off (n + 1) (by omega) false
/-- effects that change nothing twice -/
def clmp (a b : Int) : Int → Int := fun x => max a (min b x)
theorem clmp_bits {c a b : Int} (ha : 0 ≤ a) (hab : a ≤ b) (hb : b ≤ c) : bits c (clmp a b) = List.replicate a.toNat true ++ (List.replicate (b.toNat - a.toNat) false ++ List.replicate (c.toNat - b.toNat) true) := by
  unfold bits
  rw [range_cut _ (p := a.toNat) (q := b.toNat) (by omega) (by omega)]
  congr 1
  · refine rep_map fun i hi => decide_eq_true ?_
    unfold clmp; omega
  congr 1
  · refine rep_map fun i hi => decide_eq_false ?_
    unfold clmp; omega
  · refine rep_map fun i hi => decide_eq_true ?_
    unfold clmp; omega
theorem lens_on (n : Nat) : lens (List.replicate n true) = if n = 0 then [] else [n] := by
  split
  · rename_i h; subst h; rfl
  · have := lens_run (.inl rfl : okB []) n 0 (by omega)
    rw [Nat.zero_add, List.append_nil] at this
    exact this
theorem few_clmp {c a b : Int} (hc : 1 ≤ c) (ha : 0 ≤ a) (hab : a ≤ b) (hb : b ≤ c) : (fewN c (clmp a b) : Int) = if a = b ∧ 0 < a ∧ a < c then 2 else (if 0 < a then 1 else 0) + (if b < c then 1 else 0) := by
  have hbits := clmp_bits ha hab hb
  have h0 : clmp a b 0 = a := by unfold clmp; omega
  unfold fewN
  rw [h0, ← lens_len, hbits]
  rcases Int.lt_or_le a b with h | h
  · -- two runs apart
    have hl : lens (List.replicate a.toNat true ++ (List.replicate (b.toNat - a.toNat) false ++ List.replicate (c.toNat - b.toNat) true)) = (if a.toNat = 0 then [] else [a.toNat]) ++ (if c.toNat - b.toNat = 0 then [] else [c.toNat - b.toNat]) := by
      rw [← List.append_assoc, lens_app (by rw [lstB_app, lst_off _ (by omega)]), lens_on]
      congr 1
      obtain ⟨m, hm⟩ : ∃ m, b.toNat - a.toNat = m + 1 := ⟨b.toNat - a.toNat - 1, by omega⟩
      rw [hm, List.replicate_succ]
      unfold lens
      rw [ln_cut]
      have := lens_on a.toNat
      unfold lens at this
      rw [this]
      have h2 := lens_off [] m
      rw [List.append_nil] at h2
      rw [show lnA 0 (List.replicate m false) = lens ([] : List Bool) from h2]
      simp [lnA]
    have hR : Rule a (List.replicate a.toNat true ++ (List.replicate (b.toNat - a.toNat) false ++ List.replicate (c.toNat - b.toNat) true)) := by
      refine .inl ⟨if a.toNat = 0 then [] else [a.toNat], ?_, ?_⟩
      · rw [hl]; exact List.sublist_append_left _ _
      · split <;> simp <;> omega
    rw [if_pos hR, hl, if_neg (c := a = b ∧ 0 < a ∧ a < c) (by omega)]
    have l1 : (if a.toNat = 0 then ([] : List Nat) else [a.toNat]).length = if 0 < a then 1 else 0 := by
      by_cases e : a.toNat = 0
      · rw [if_pos e, if_neg (by omega)]; rfl
      · rw [if_neg e, if_pos (by omega)]; rfl
    have l2 : (if c.toNat - b.toNat = 0 then ([] : List Nat) else [c.toNat - b.toNat]).length = if b < c then 1 else 0 := by
      by_cases e : c.toNat - b.toNat = 0
      · rw [if_pos e, if_neg (by omega)]; rfl
      · rw [if_neg e, if_pos (by omega)]; rfl
    rw [List.length_append, l1, l2]
    (repeat' split) <;> rfl
  · obtain rfl : a = b := by omega
    have e : List.replicate a.toNat true ++ (List.replicate (a.toNat - a.toNat) false ++ List.replicate (c.toNat - a.toNat) true) = List.replicate c.toNat true := by
      rw [Nat.sub_self]
      show List.replicate a.toNat true ++ List.replicate (c.toNat - a.toNat) true = _
      rw [List.replicate_append_replicate]
      congr 1
      omega
    rw [e, lens_on, if_neg (c := c.toNat = 0) (by omega)]
    by_cases hin : 0 < a ∧ a < c
    · rw [if_pos (c := a = a ∧ 0 < a ∧ a < c) ⟨rfl, hin⟩]
      have hN : ¬ Rule a (List.replicate c.toNat true) := by
        rintro (⟨sub, h1, h2⟩ | ⟨k, B, h1, h2, h3, h4⟩ | ⟨k, A, h1, h2, h3, h4⟩)
        · rw [lens_on, if_neg (by omega)] at h1
          cases h1 with
          | cons _ h1 => cases h1; simp at h2; omega
          | cons_cons _ h1 => cases h1; simp at h2; omega
        · rcases h3 with rfl | ⟨B', rfl⟩
          · simp [lnA] at h4; omega
          · have : false ∈ List.replicate c.toNat true := by rw [h1]; simp
            have := List.eq_of_mem_replicate this
            cases this
        · rcases lst_false h3 with rfl | ⟨A', rfl⟩
          · have := congrArg List.length h1
            simp at this
            omega
          · have : false ∈ List.replicate c.toNat true := by rw [h1]; simp
            have := List.eq_of_mem_replicate this
            cases this
      rw [if_neg hN]
      rfl
    · rw [if_neg (c := a = a ∧ 0 < a ∧ a < c) (fun z => hin z.2)]
      have hR : Rule a (List.replicate c.toNat true) := by
        by_cases z : a = 0
        · exact .inl ⟨[], List.nil_sublist _, by rw [z]; rfl⟩
        · refine .inl ⟨[c.toNat], ?_, ?_⟩
          · rw [lens_on, if_neg (by omega)]; exact List.Sublist.refl _
          · simp; omega
      rw [if_pos hR]
      by_cases z : a = 0
      · rw [if_neg (by omega), if_pos (by omega)]; rfl
      · rw [if_pos (by omega), if_neg (by omega)]; rfl
end DL

/-! Failed commands told by sightings. -/
namespace DL
open PySem
def seenOk (fs : List (Int × Int)) (i : Int) (x : Int) : Bool := ((fs.filter fun p => decide (p.1 = i)).map (·.2)).all fun v => decide (x = v)
def seenK (fs : List (Int × Int)) (i : Int) (ps : IN) : IN := ps.filter fun p => seenOk fs i p.1
def movK (c : Cm) (ps : IN) : IN := ps.foldl (fun acc p => aput acc (aft p.1 c) p.2) []
def stepK (firm : Option Nat) (i : Nat) (c : Cm) (ps : IN) : IN := if firm = some i then movK c ps else nxt 61 c ps
def toldK (fs : List (Int × Int)) (firm : Option Nat) : List Cm → Nat → IN → IN
  | [], _, ps => ps
  | c :: s, i, ps => toldK fs firm s (i + 1) (seenK fs ((i : Int) + 1) (stepK firm i c ps))
def toldS (fs : List (Int × Int)) (firm : Option Nat) (s : List Cm) (l : Int) : IN := toldK fs firm s 0 (seenK fs 0 [(l, 0)])
def firmD : Option Nat → D
  | none => .non
  | some i => .int (i : Nat)
/-! ### levels without doubles, within the capacity -/
structure Kv (c : Int) (ps : IN) : Prop where
  nd : (ps.map (·.1)).Nodup
  ok : ∀ p ∈ ps, Lok c p.1
theorem Kv.len {c : Int} {ps : IN} (h : Kv c ps) : ps.length ≤ (c + 1).toNat := by
  have h2 := nd_len (c + 1).toNat h.nd fun x hx => by
    obtain ⟨p, hp, rfl⟩ := List.mem_map.mp hx
    have := h.ok p hp
    omega
  rwa [List.length_map] at h2
theorem aput_in {κ ν : Type} [DecidableEq κ] {l : List (κ × ν)} {k : κ} {v : ν} {p : κ × ν} (h : p ∈ aput l k v) : p ∈ l ∨ p = (k, v) := by
  unfold aput at h
  split at h
  · have key : ∀ l : List (κ × ν), p ∈ arep l k v → p ∈ l ∨ p = (k, v) := by
      intro l
      induction l with
      | nil => intro h; exact .inl h
      | cons q r ih =>
        intro h
        simp only [arep, List.mem_cons] at h
        rcases h with h | h
        · split at h
          · rename_i e; right; rw [h, e]
          · left; rw [h]; exact List.mem_cons_self ..
        · rcases ih h with z | z
          · exact .inl (List.mem_cons_of_mem _ z)
          · exact .inr z
    exact key l h
  · rcases List.mem_append.mp h with h | h
    · exact .inl h
    · simp only [List.mem_cons, List.not_mem_nil, or_false] at h; exact .inr h
theorem Kv.put {c : Int} {ps : IN} (h : Kv c ps) {x : Int} (hx : Lok c x) (v : Nat) : Kv c (aput ps x v) :=
  ⟨aput_nodup h.nd _ _, fun p hp => by
    rcases aput_in hp with z | rfl
    · exact h.ok p z
    · exact hx⟩
theorem Kv.nil (c : Int) : Kv c [] := ⟨by simp, fun p hp => nomatch hp⟩
theorem Kv.seen {c : Int} {ps : IN} (h : Kv c ps) (fs : List (Int × Int)) (i : Int) : Kv c (seenK fs i ps) :=
  ⟨h.nd.sublist (List.Sublist.map _ (List.filter_sublist ..)), fun p hp => h.ok p (List.mem_filter.mp hp).1⟩
theorem Kv.mov {c : Int} {k : Cm} (hk : k.ok c) {ps : IN} (h : Kv c ps) : Kv c (movK k ps) := by
  have key : ∀ (r acc : IN), (∀ p ∈ r, Lok c p.1) → Kv c acc → Kv c (r.foldl (fun acc p => aput acc (aft p.1 k) p.2) acc) := by
    intro r
    induction r with
    | nil => intro acc _ h; exact h
    | cons p r ih => intro acc hr h; exact ih _ (fun q hq => hr q (List.mem_cons_of_mem _ hq)) (h.put (aft_ok hk (hr p (List.mem_cons_self ..))) _)
  exact key ps [] h.ok (.nil c)
theorem Kv.nxS {c : Int} {k : Cm} (hk : k.ok c) {m : Nat} {acc : IN} (h : Kv c acc) {p : Int × Nat} (hp : Lok c p.1) : Kv c (nxS m k acc p) := by
  unfold DL.nxS
  simp only
  split
  · exact (h.put (aft_ok hk hp) _).put hp _
  · exact h.put (aft_ok hk hp) _
theorem Kv.nxt {c : Int} {k : Cm} (hk : k.ok c) {m : Nat} {ps : IN} (h : Kv c ps) : Kv c (nxt m k ps) := by
  have key : ∀ (r acc : IN), (∀ p ∈ r, Lok c p.1) → Kv c acc → Kv c (r.foldl (DL.nxS m k) acc) := by
    intro r
    induction r with
    | nil => intro acc _ h; exact h
    | cons p r ih => intro acc hr h; exact ih _ (fun q hq => hr q (List.mem_cons_of_mem _ hq)) (h.nxS hk (hr p (List.mem_cons_self ..)))
  exact key ps [] h.ok (.nil c)
theorem Kv.step {c : Int} {k : Cm} (hk : k.ok c) {firm : Option Nat} {i : Nat} {ps : IN} (h : Kv c ps) : Kv c (stepK firm i k ps) := by
  unfold stepK
  split
  · exact h.mov hk
  · exact h.nxt hk
theorem Kv.start {c l : Int} (hl : Lok c l) : Kv c [(l, 0)] := ⟨by simp, fun p hp => by simp only [List.mem_cons, List.not_mem_nil, or_false] at hp; subst hp; exact hl⟩
/-! ### what the dicts mean -/
def stF (firm : Option Nat) (i : Nat) (c : Cm) (P : Nat → Int → Prop) (n : Nat) (x : Int) : Prop := if firm = some i then ∃ y, P n y ∧ x = aft y c else stU c P n x
def Tf (fs : List (Int × Int)) (firm : Option Nat) : List Cm → Nat → (Nat → Int → Prop) → (Nat → Int → Prop)
  | [], _, P => P
  | c :: s, i, P => Tf fs firm s (i + 1) fun n x => stF firm i c P n x ∧ seenOk fs ((i : Int) + 1) x = true
def Tp (fs : List (Int × Int)) (firm : Option Nat) (s : List Cm) (l : Int) : Nat → Int → Prop := Tf fs firm s 0 fun n x => (n = 0 ∧ x = l) ∧ seenOk fs 0 x = true
theorem Tf_snoc (fs : List (Int × Int)) (firm : Option Nat) (c : Cm) : ∀ (s : List Cm) (i : Nat) (P : Nat → Int → Prop),
    Tf fs firm (s ++ [c]) i P = fun n x => stF firm (i + s.length) c (Tf fs firm s i P) n x ∧ seenOk fs (((i + s.length : Nat) : Int) + 1) x = true
  | [], i, P => rfl
  | k :: s, i, P => by
    have h := Tf_snoc fs firm c s (i + 1) fun n x => stF firm i k P n x ∧ seenOk fs ((i : Int) + 1) x = true
    simp only [List.cons_append, Tf, List.length_cons]
    rw [h, show i + 1 + s.length = i + (s.length + 1) by omega]
theorem Bs.seen {ps : IN} {P : Nat → Int → Prop} (h : Bs ps P) (fs : List (Int × Int)) (i : Int) : Bs (seenK fs i ps) fun n x => P n x ∧ seenOk fs i x = true := by
  refine ⟨h.nd.sublist (List.Sublist.map _ (List.filter_sublist ..)), fun p hp => ?_, fun n x hx => ?_⟩
  · have hp := List.mem_filter.mp hp
    exact ⟨⟨(h.val p hp.1).1, hp.2⟩, fun k hk => (h.val p hp.1).2 k hk.1⟩
  · obtain ⟨p, hp, rfl⟩ := List.mem_map.mp (h.all n x hx.1)
    exact List.mem_map.mpr ⟨p, List.mem_filter.mpr ⟨hp, hx.2⟩, rfl⟩
theorem told_bs (fs : List (Int × Int)) : ∀ (s : List Cm) (i : Nat) (ps : IN) (P : Nat → Int → Prop), i + s.length ≤ 60 → Bs ps P → (∀ n x, P n x → n ≤ i) → Bs (toldK fs none s i ps) (Tf fs none s i P)
  | [], _, _, _, _, h, _ => h
  | c :: s, i, ps, P, hl, h, hb => by
    simp only [List.length_cons] at hl
    have h1 := nxt_bs (m := 61) (c := c) h fun k y hk => by have := hb k y hk; omega
    have h2 : Bs (nxt 61 c ps) fun n x => stF none i c P n x := h1.congr fun n x => by
      simp only [stF, reduceCtorEq, if_false]
      refine ⟨fun z => z.2, fun z => ⟨?_, z⟩⟩
      rcases z with ⟨y, hy, _⟩ | ⟨k, rfl, hy⟩
      · have := hb n y hy; omega
      · have := hb k x hy; omega
    have e : stepK none i c ps = nxt 61 c ps := by simp [stepK]
    simp only [toldK, Tf, e]
    refine told_bs fs s (i + 1) _ _ (by omega) (h2.seen fs _) fun n x hx => ?_
    have hx := hx.1
    simp only [stF, reduceCtorEq, if_false] at hx
    rcases hx with ⟨y, hy, _⟩ | ⟨k, rfl, hy⟩
    · have := hb n y hy; omega
    · have := hb k x hy; omega
/-- the keys are the levels that are possible; the values stay small -/
structure Ks (ps : IN) (P : Nat → Int → Prop) (k : Nat) : Prop where
  keys : ∀ x, x ∈ ps.map (·.1) ↔ ∃ n, P n x
  small : ∀ p ∈ ps, p.2 ≤ k
theorem Ks.seen {ps : IN} {P : Nat → Int → Prop} {k : Nat} (h : Ks ps P k) (fs : List (Int × Int)) (i : Int) : Ks (seenK fs i ps) (fun n x => P n x ∧ seenOk fs i x = true) k := by
  refine ⟨fun x => ⟨fun hx => ?_, fun ⟨n, h1, h2⟩ => ?_⟩, fun p hp => h.small p (List.mem_filter.mp hp).1⟩
  · obtain ⟨p, hp, rfl⟩ := List.mem_map.mp hx
    have hp := List.mem_filter.mp hp
    obtain ⟨n, hn⟩ := (h.keys p.1).mp (List.mem_map.mpr ⟨p, hp.1, rfl⟩)
    exact ⟨n, hn, hp.2⟩
  · obtain ⟨p, hp, rfl⟩ := List.mem_map.mp ((h.keys x).mpr ⟨n, h1⟩)
    exact List.mem_map.mpr ⟨p, List.mem_filter.mpr ⟨hp, h2⟩, rfl⟩
theorem mov_keys (c : Cm) (ps : IN) : (∀ x, x ∈ (movK c ps).map (·.1) ↔ ∃ p ∈ ps, x = aft p.1 c) ∧ ∀ k, (∀ p ∈ ps, p.2 ≤ k) → ∀ p ∈ movK c ps, p.2 ≤ k := by
  have key : ∀ (r acc : IN), (∀ x, x ∈ (r.foldl (fun acc p => aput acc (aft p.1 c) p.2) acc).map (·.1) ↔ x ∈ acc.map (·.1) ∨ ∃ p ∈ r, x = aft p.1 c) ∧
      ∀ k, (∀ p ∈ acc, p.2 ≤ k) → (∀ p ∈ r, p.2 ≤ k) → ∀ p ∈ r.foldl (fun acc p => aput acc (aft p.1 c) p.2) acc, p.2 ≤ k := by
    intro r
    induction r with
    | nil => intro acc; exact ⟨fun x => by simp, fun k h _ => h⟩
    | cons p r ih =>
      intro acc
      obtain ⟨h1, h2⟩ := ih (aput acc (aft p.1 c) p.2)
      refine ⟨fun x => ?_, fun k ha hr => h2 k (fun q hq => ?_) fun q hq => hr q (List.mem_cons_of_mem _ hq)⟩
      · rw [List.foldl_cons, h1, aput_mem]
        simp only [List.mem_cons, exists_eq_or_imp, or_assoc]
      · rcases aput_in hq with z | rfl
        · exact ha q z
        · exact hr p (List.mem_cons_self ..)
  obtain ⟨h1, h2⟩ := key ps []
  exact ⟨fun x => (h1 x).trans (by simp), fun k h => h2 k (fun p hp => nomatch hp) h⟩
theorem nxt_keys (m : Nat) (c : Cm) (ps : IN) (k : Nat) (hk : k < m) (hs : ∀ p ∈ ps, p.2 ≤ k) : (∀ x, x ∈ (nxt m c ps).map (·.1) ↔ ∃ p ∈ ps, x = aft p.1 c ∨ x = p.1) ∧ ∀ p ∈ nxt m c ps, p.2 ≤ k + 1 := by
  have key : ∀ (r acc : IN), (∀ p ∈ r, p.2 ≤ k) → (∀ x, x ∈ (r.foldl (nxS m c) acc).map (·.1) ↔ x ∈ acc.map (·.1) ∨ ∃ p ∈ r, x = aft p.1 c ∨ x = p.1) ∧
      ((∀ p ∈ acc, p.2 ≤ k + 1) → ∀ p ∈ r.foldl (nxS m c) acc, p.2 ≤ k + 1) := by
    intro r
    induction r with
    | nil => intro acc _; exact ⟨fun x => by simp, fun h => h⟩
    | cons p r ih =>
      intro acc hr
      have hp := hr p (List.mem_cons_self ..)
      obtain ⟨h1, h2⟩ := ih (nxS m c acc p) fun q hq => hr q (List.mem_cons_of_mem _ hq)
      have e : nxS m c acc p = aput (aput acc (aft p.1 c) (min p.2 ((aget acc (aft p.1 c)).getD m))) p.1 (min (p.2 + 1) ((aget (aput acc (aft p.1 c) (min p.2 ((aget acc (aft p.1 c)).getD m))) p.1).getD m)) := by
        have hlt : p.2 < m := by omega
        unfold nxS; simp only [hlt, if_true]
      refine ⟨fun x => ?_, fun ha => h2 fun q hq => ?_⟩
      · rw [List.foldl_cons, h1, e, aput_mem, aput_mem]
        simp only [List.mem_cons, exists_eq_or_imp, or_assoc]
      · rw [e] at hq
        rcases aput_in hq with z | rfl
        · rcases aput_in z with z | rfl
          · exact ha q z
          · simp only; omega
        · simp only; omega
  obtain ⟨h1, h2⟩ := key ps [] hs
  exact ⟨fun x => (h1 x).trans (by simp), h2 fun p hp => nomatch hp⟩
theorem told_ks (fs : List (Int × Int)) (firm : Option Nat) : ∀ (s : List Cm) (i : Nat) (ps : IN) (P : Nat → Int → Prop), i + s.length ≤ 60 → Ks ps P i → Ks (toldK fs firm s i ps) (Tf fs firm s i P) (i + s.length)
  | [], _, _, _, _, h => h
  | c :: s, i, ps, P, hl, h => by
    simp only [List.length_cons] at hl
    have h1 : Ks (stepK firm i c ps) (stF firm i c P) (i + 1) := by
      unfold stepK stF
      by_cases hf : firm = some i
      · simp only [hf, if_true]
        obtain ⟨k1, k2⟩ := mov_keys c ps
        refine ⟨fun x => (k1 x).trans ⟨?_, ?_⟩, fun p hp => Nat.le_succ_of_le (k2 i h.small p hp)⟩
        · rintro ⟨p, hp, rfl⟩
          obtain ⟨n, hn⟩ := (h.keys p.1).mp (List.mem_map.mpr ⟨p, hp, rfl⟩)
          exact ⟨n, p.1, hn, rfl⟩
        · rintro ⟨n, y, hy, rfl⟩
          obtain ⟨p, hp, e⟩ := List.mem_map.mp ((h.keys y).mpr ⟨n, hy⟩)
          exact ⟨p, hp, by rw [e]⟩
      · simp only [hf, if_false]
        obtain ⟨k1, k2⟩ := nxt_keys 61 c ps i (by omega) h.small
        refine ⟨fun x => (k1 x).trans ⟨?_, ?_⟩, k2⟩
        · rintro ⟨p, hp, rfl | rfl⟩
          · obtain ⟨n, hn⟩ := (h.keys p.1).mp (List.mem_map.mpr ⟨p, hp, rfl⟩)
            exact ⟨n, .inl ⟨p.1, hn, rfl⟩⟩
          · obtain ⟨n, hn⟩ := (h.keys p.1).mp (List.mem_map.mpr ⟨p, hp, rfl⟩)
            exact ⟨n + 1, .inr ⟨n, rfl, hn⟩⟩
        · rintro ⟨n, ⟨y, hy, rfl⟩ | ⟨j, rfl, hy⟩⟩
          · obtain ⟨p, hp, e⟩ := List.mem_map.mp ((h.keys y).mpr ⟨_, hy⟩)
            exact ⟨p, hp, .inl (by rw [e])⟩
          · obtain ⟨p, hp, e⟩ := List.mem_map.mp ((h.keys x).mpr ⟨_, hy⟩)
            exact ⟨p, hp, .inr e.symm⟩
    have h2 := told_ks fs firm s (i + 1) _ _ (by omega) (h1.seen fs ((i : Int) + 1))
    simp only [toldK, Tf, List.length_cons]
    rw [show i + (s.length + 1) = i + 1 + s.length by omega]
    exact h2
theorem toldS_bs {fs : List (Int × Int)} {s : List Cm} {l : Int} (hs : s.length ≤ 60) : Bs (toldS fs none s l) (Tp fs none s l) :=
  told_bs fs s 0 _ _ (by omega) ((Bs.start l).seen fs 0) fun n x hx => by have := hx.1.1; omega
theorem toldS_ks {fs : List (Int × Int)} {firm : Option Nat} {s : List Cm} {l : Int} (hs : s.length ≤ 60) : Ks (toldS fs firm s l) (Tp fs firm s l) s.length := by
  have h0 : Ks [(l, 0)] (fun n x => n = 0 ∧ x = l) 0 := ⟨fun x => by simp, fun p hp => by simp only [List.mem_cons, List.not_mem_nil, or_false] at hp; subst hp; exact Nat.le_refl _⟩
  have := told_ks fs firm s 0 _ _ (by omega) (h0.seen fs 0)
  rw [Nat.zero_add] at this
  exact this
/-! ### sets of failed commands that the sightings allow -/
/-- all sightings up to a place are true -/
def truK (s : List Cm) (fs : List (Int × Int)) (l : Int) (k : Nat) (ch : List Int) : Prop := ∀ p ∈ fs, 0 ≤ p.1 ∧ p.1 ≤ k → (fnd (s.take p.1.toNat) ch l).2 = p.2
theorem seen_iff {fs : List (Int × Int)} {i x : Int} : seenOk fs i x = true ↔ ∀ p ∈ fs, p.1 = i → x = p.2 := by
  simp only [seenOk, List.all_eq_true, List.mem_map, List.mem_filter, decide_eq_true_eq, Prod.exists, exists_eq_right]
  constructor
  · rintro h ⟨a, b⟩ hp e
    have e : a = i := e
    subst e
    exact h b hp
  · intro h v hp; exact h (i, v) hp rfl
theorem truK_succ {s : List Cm} {fs : List (Int × Int)} {l : Int} {k : Nat} {ch : List Int} : truK s fs l (k + 1) ch ↔ truK s fs l k ch ∧ seenOk fs ((k : Int) + 1) (fnd (s.take (k + 1)) ch l).2 = true := by
  rw [seen_iff]
  constructor
  · intro h
    refine ⟨fun p hp hk => h p hp ⟨hk.1, by omega⟩, fun p hp e => ?_⟩
    have := h p hp ⟨by omega, by omega⟩
    rw [← this, show p.1.toNat = k + 1 by omega]
  · rintro ⟨h1, h2⟩ p hp hk
    by_cases e : p.1 = (k : Int) + 1
    · rw [show p.1.toNat = k + 1 by omega]; exact h2 p hp e
    · exact h1 p hp ⟨hk.1, by omega⟩
theorem truK_zero {s : List Cm} {fs : List (Int × Int)} {l : Int} {ch : List Int} : truK s fs l 0 ch ↔ seenOk fs 0 l = true := by
  rw [seen_iff]
  constructor
  · intro h p hp e
    have h2 := h p hp ⟨by omega, by omega⟩
    rw [e] at h2
    exact h2
  · intro h p hp hk
    have e : p.1 = 0 := by omega
    rw [e]
    exact h p hp e
theorem truK_congr {s : List Cm} {fs : List (Int × Int)} {l : Int} {k : Nat} {ch ch' : List Int} (hk : k ≤ s.length) (h : ∀ j : Nat, j < k → ((j : Int) ∈ ch ↔ (j : Int) ∈ ch')) : truK s fs l k ch ↔ truK s fs l k ch' := by
  have e : ∀ p : Int × Int, 0 ≤ p.1 ∧ p.1 ≤ k → fnd (s.take p.1.toNat) ch l = fnd (s.take p.1.toNat) ch' l := fun p hp =>
    fst1_congr _ _ _ fun j _ hj => h j (by rw [List.length_take] at hj; omega)
  constructor
  · intro z p hp hq; rw [← e p hq]; exact z p hp hq
  · intro z p hp hq; rw [e p hq]; exact z p hp hq
theorem subs_told {fs : List (Int × Int)} {firm : Option Nat} {s : List Cm} {l : Int} : ∀ (k : Nat), k ≤ s.length → k ≤ 8 → ∀ n x,
    (∃ ch ∈ subsN 8 k, ch.length = n ∧ (∀ f, firm = some f → ¬ (f : Int) ∈ ch) ∧ (fnd (s.take k) ch l).2 = x ∧ truK s fs l k ch) ↔ Tp fs firm (s.take k) l n x
  | 0, _, _, n, x => by
    simp only [subsN, List.mem_cons, List.not_mem_nil, or_false, exists_eq_left, List.length_nil, List.take_zero]
    show (0 = n ∧ _ ∧ l = x ∧ truK s fs l 0 []) ↔ ((n = 0 ∧ x = l) ∧ seenOk fs 0 x = true)
    rw [truK_zero]
    constructor
    · rintro ⟨rfl, _, rfl, h⟩; exact ⟨⟨rfl, rfl⟩, h⟩
    · rintro ⟨⟨rfl, rfl⟩, h⟩; exact ⟨rfl, fun _ _ => by simp, rfl, h⟩
  | k + 1, hk, hk8, n, x => by
    have ih := subs_told (fs := fs) (firm := firm) (s := s) (l := l) k (by omega) (by omega)
    have hlt : k < s.length := by omega
    have et : s.take (k + 1) = s.take k ++ [s[k]] := by rw [List.take_add_one, List.getElem?_eq_getElem hlt]; rfl
    have hl : (s.take k).length = k := by rw [List.length_take]; omega
    have etp : Tp fs firm (s.take (k + 1)) l = fun n x => stF firm k s[k] (Tp fs firm (s.take k) l) n x ∧ seenOk fs ((k : Int) + 1) x = true := by
      unfold Tp
      rw [et, Tf_snoc, hl, Nat.zero_add]
    rw [etp]
    have st : ∀ ch, (fnd (s.take (k + 1)) ch l).2 = if (k : Int) ∈ ch then (fnd (s.take k) ch l).2 else aft (fnd (s.take k) ch l).2 s[k] := by
      intro ch
      have e1 : (fnd (s.take k) ch l).1 = k := by unfold fnd; rw [fnd_fst, hl]; omega
      rw [et]
      unfold fnd at e1 ⊢
      rw [List.foldl_append, List.foldl_cons, List.foldl_nil, fst1]
      simp only [e1]
    have low : ∀ o ∈ subsN 8 k, ¬ (k : Int) ∈ o := fun o ho z => by have := (subsN_in 8 k o ho).1 _ z; omega
    have cg : ∀ o : List Int, ∀ j : Nat, j < k → ((j : Int) ∈ o ++ [(k : Int)] ↔ (j : Int) ∈ o) := fun o j hj => by
      simp only [List.mem_append, List.mem_cons, List.not_mem_nil, or_false]
      exact ⟨fun z => z.elim id fun z => by omega, .inl⟩
    have same : ∀ o : List Int, (fnd (s.take k) (o ++ [(k : Int)]) l) = fnd (s.take k) o l := fun o => fst1_congr _ _ _ fun j h1 h2 => cg o j (by omega)
    constructor
    · rintro ⟨ch, hch, rfl, hf, rfl, ht⟩
      rw [truK_succ] at ht
      refine ⟨?_, ht.2⟩
      simp only [subsN, List.mem_append, List.mem_map, List.mem_filter] at hch
      rcases hch with hch | ⟨o, ⟨ho, hlt2⟩, rfl⟩
      · have nm := low ch hch
        rw [st, if_neg nm]
        have h1 := (ih ch.length (fnd (s.take k) ch l).2).mp ⟨ch, hch, rfl, hf, rfl, ht.1⟩
        unfold stF
        split
        · exact ⟨_, h1, rfl⟩
        · exact .inl ⟨_, h1, rfl⟩
      · rw [st, if_pos (by simp), same o]
        have h1 := (ih o.length (fnd (s.take k) o l).2).mp ⟨o, ho, rfl, fun f e z => hf f e (List.mem_append_left _ z), rfl, (truK_congr (by omega) (cg o)).mp ht.1⟩
        have hf2 : ¬ firm = some k := fun e => hf k e (by simp)
        unfold stF
        rw [if_neg hf2]
        exact .inr ⟨o.length, by simp, h1⟩
    · rintro ⟨h1, h2⟩
      unfold stF at h1
      have stay : ∀ y, Tp fs firm (s.take k) l n y → x = aft y s[k] → ∃ ch ∈ subsN 8 (k + 1), ch.length = n ∧ (∀ f, firm = some f → ¬ (f : Int) ∈ ch) ∧ (fnd (s.take (k + 1)) ch l).2 = x ∧ truK s fs l (k + 1) ch := by
        rintro y hy rfl
        obtain ⟨ch, hch, e1, e2, e3, e4⟩ := (ih n y).mpr hy
        have e5 : (fnd (s.take (k + 1)) ch l).2 = aft y s[k] := by rw [st, if_neg (low ch hch), e3]
        exact ⟨ch, by simp only [subsN, List.mem_append]; exact .inl hch, e1, e2, e5, truK_succ.mpr ⟨e4, by rw [e5]; exact h2⟩⟩
      split at h1
      · obtain ⟨y, hy, e⟩ := h1
        exact stay y hy e
      · rename_i hf
        rcases h1 with ⟨y, hy, e⟩ | ⟨j, rfl, hy⟩
        · exact stay y hy e
        · obtain ⟨ch, hch, e1, e2, e3, e4⟩ := (ih j x).mpr hy
          have e5 : (fnd (s.take (k + 1)) (ch ++ [(k : Int)]) l).2 = x := by rw [st, if_pos (by simp), same ch, e3]
          have hle := (subsN_in 8 k ch hch).2
          refine ⟨ch ++ [(k : Int)], ?_, by simp [e1], fun f e z => ?_, e5, truK_succ.mpr ⟨(truK_congr (by omega) (cg ch)).mpr e4, by rw [e5]; exact h2⟩⟩
          · simp only [subsN, List.mem_append, List.mem_map, List.mem_filter]
            exact .inr ⟨ch, ⟨hch, decide_eq_true (by omega)⟩, rfl⟩
          · rcases List.mem_append.mp z with z | z
            · exact e2 f e z
            · simp only [List.mem_cons, List.not_mem_nil, or_false] at z
              have : f = k := by omega
              subst this
              exact hf e
/-! ### the least of some numbers -/
def leastI : List Int → Option Int
  | [] => none
  | a :: r => some (minI a r)
theorem minI_in : ∀ (l : List Int) (a : Int), minI a l ∈ a :: l
  | [], a => by simp [minI]
  | x :: l, a => by
    have h := minI_in l (min a x)
    show minI (min a x) l ∈ _
    rcases List.mem_cons.mp h with h | h
    · rw [h]
      rcases Int.le_total a x with z | z
      · rw [Int.min_eq_left z]; simp
      · rw [Int.min_eq_right z]; simp
    · exact List.mem_cons_of_mem _ (List.mem_cons_of_mem _ h)
theorem leastI_eq {xs ys : List Int} (h1 : ∀ x ∈ xs, ∃ y ∈ ys, y ≤ x) (h2 : ∀ y ∈ ys, ∃ x ∈ xs, x ≤ y) : leastI xs = leastI ys := by
  cases xs with
  | nil =>
    cases ys with
    | nil => rfl
    | cons b r => obtain ⟨x, hx, _⟩ := h2 b (List.mem_cons_self ..); cases hx
  | cons a l =>
    cases ys with
    | nil => obtain ⟨x, hx, _⟩ := h1 a (List.mem_cons_self ..); cases hx
    | cons b r =>
      simp only [leastI, Option.some.injEq]
      have l1 : ∀ y ∈ a :: l, minI a l ≤ y := fun y hy => by
        have := (mnI_le l a (minI a l)).mp (Int.le_refl _)
        rcases List.mem_cons.mp hy with rfl | hy
        · exact this.1
        · exact this.2 y hy
      have l2 : ∀ y ∈ b :: r, minI b r ≤ y := fun y hy => by
        have := (mnI_le r b (minI b r)).mp (Int.le_refl _)
        rcases List.mem_cons.mp hy with rfl | hy
        · exact this.1
        · exact this.2 y hy
      obtain ⟨y, hy, e1⟩ := h1 _ (minI_in l a)
      obtain ⟨x, hx, e2⟩ := h2 _ (minI_in r b)
      have := l2 y hy
      have := l1 x hx
      omega
def leastD' : Option Int → D
  | none => .non
  | some i => .int i
/-- all sightings are true -/
def truB (s : List Cm) (fs : List (Int × Int)) (l : Int) (ch : List Int) : Bool := fs.all fun p => decide ((fnd (s.take p.1.toNat) ch l).2 = p.2)
def goodN (s : List Cm) (fs : List (Int × Int)) (l : Int) : List (List Int) := (subsN 8 s.length).filter (truB s fs l)
theorem good_mem {c : Int} {s : List Cm} {fs : List (Int × Int)} {l : Int} (hf : ∀ p ∈ fs, 0 ≤ p.1 ∧ p.1 ≤ s.length ∧ 0 ≤ p.2 ∧ p.2 ≤ c) {ch : List Int} : ch ∈ goodN s fs l ↔ ch ∈ subsN 8 s.length ∧ truK s fs l s.length ch := by
  unfold goodN
  rw [List.mem_filter]
  refine and_congr_right fun _ => ?_
  unfold truB truK
  simp only [List.all_eq_true, decide_eq_true_eq]
  exact ⟨fun h p hp _ => h p hp, fun h p hp => h p hp ⟨(hf p hp).1, (hf p hp).2.1⟩⟩
theorem told_good {c : Int} {firm : Option Nat} {s : List Cm} {fs : List (Int × Int)} {l : Int} (hs : s.length ≤ 8) (hf : ∀ p ∈ fs, 0 ≤ p.1 ∧ p.1 ≤ s.length ∧ 0 ≤ p.2 ∧ p.2 ≤ c) (n : Nat) :
    (∃ x, Tp fs firm s l n x) ↔ ∃ ch ∈ goodN s fs l, ch.length = n ∧ ∀ f, firm = some f → ¬ (f : Int) ∈ ch := by
  have h := subs_told (fs := fs) (firm := firm) (s := s) (l := l) s.length (Nat.le_refl _) hs
  rw [List.take_length] at h
  constructor
  · rintro ⟨x, hx⟩
    obtain ⟨ch, h1, h2, h3, h4, h5⟩ := (h n x).mpr hx
    exact ⟨ch, (good_mem hf).mpr ⟨h1, h5⟩, h2, h3⟩
  · rintro ⟨ch, h1, h2, h3⟩
    obtain ⟨h4, h5⟩ := (good_mem hf).mp h1
    exact ⟨_, (h n _).mp ⟨ch, h4, h2, h3, rfl, h5⟩⟩
/-- the fewest failed -/
theorem few_told {c : Int} {s : List Cm} {fs : List (Int × Int)} {l : Int} (hs : s.length ≤ 8) (hf : ∀ p ∈ fs, 0 ≤ p.1 ∧ p.1 ≤ s.length ∧ 0 ≤ p.2 ∧ p.2 ≤ c) :
    leastI ((toldS fs none s l).map fun p => ((p.2 : Nat) : Int)) = leastI ((goodN s fs l).map fun ch => ((ch.length : Nat) : Int)) := by
  have hb := toldS_bs (fs := fs) (s := s) (l := l) (by omega)
  refine leastI_eq (fun x hx => ?_) fun y hy => ?_
  · obtain ⟨p, hp, rfl⟩ := List.mem_map.mp hx
    obtain ⟨ch, h1, h2, _⟩ := (told_good hs hf p.2).mp ⟨p.1, (hb.val p hp).1⟩
    exact ⟨_, List.mem_map.mpr ⟨ch, h1, rfl⟩, by rw [h2]; exact Int.le_refl _⟩
  · obtain ⟨ch, h1, rfl⟩ := List.mem_map.mp hy
    obtain ⟨x, hx⟩ := (told_good (firm := none) hs hf ch.length).mpr ⟨ch, h1, rfl, fun f e => nomatch e⟩
    obtain ⟨k, h2, h3, _⟩ := hb.get hx
    exact ⟨_, List.mem_map.mpr ⟨(x, k), mem_of_aget h2, rfl⟩, by simp only; omega⟩
/-- no way where one command does not fail -/
theorem none_told {c : Int} {firm : Option Nat} {s : List Cm} {fs : List (Int × Int)} {l : Int} (hs : s.length ≤ 8) (hf : ∀ p ∈ fs, 0 ≤ p.1 ∧ p.1 ≤ s.length ∧ 0 ≤ p.2 ∧ p.2 ≤ c) :
    (toldS fs firm s l).isEmpty = (goodN s fs l).all fun ch => match firm with | none => false | some f => decide ((f : Int) ∈ ch) := by
  have hk := toldS_ks (fs := fs) (firm := firm) (s := s) (l := l) (by omega)
  rw [Bool.eq_iff_iff, List.isEmpty_iff, List.all_eq_true]
  constructor
  · intro h ch hch
    rw [h] at hk
    cases firm with
    | none =>
      obtain ⟨x, hx⟩ := (told_good (firm := none) hs hf ch.length).mpr ⟨ch, hch, rfl, fun f e => nomatch e⟩
      have := (hk.keys x).mpr ⟨_, hx⟩
      cases this
    | some f =>
      simp only [decide_eq_true_eq]
      refine Classical.byContradiction fun z => ?_
      obtain ⟨x, hx⟩ := (told_good (firm := some f) hs hf ch.length).mpr ⟨ch, hch, rfl, fun f' e => by cases e; exact z⟩
      have := (hk.keys x).mpr ⟨_, hx⟩
      cases this
  · intro h
    cases e : toldS fs firm s l with
    | nil => rfl
    | cons p r =>
      rw [e] at hk
      obtain ⟨n, hn⟩ := (hk.keys p.1).mp (by simp)
      obtain ⟨ch, h1, _, h3⟩ := (told_good hs hf n).mp ⟨p.1, hn⟩
      have h4 := h ch h1
      cases firm with
      | none => cases h4
      | some f => simp only [decide_eq_true_eq] at h4; exact absurd h4 (h3 f rfl)
def sureI (s : List Cm) (fs : List (Int × Int)) (l : Int) : List Int := (upto s.length).filter fun i => (goodN s fs l).all fun ch => decide (i ∈ ch)
theorem sure_told {c : Int} {s : List Cm} {fs : List (Int × Int)} {l : Int} (hs : s.length ≤ 8) (hf : ∀ p ∈ fs, 0 ≤ p.1 ∧ p.1 ≤ s.length ∧ 0 ≤ p.2 ∧ p.2 ≤ c) :
    ((upto s.length).filter fun i => (toldS fs (some i.toNat) s l).isEmpty) = sureI s fs l := by
  unfold sureI
  refine List.filter_congr fun i hi => ?_
  have := mem_upto hi
  rw [none_told hs hf]
  congr 1
  funext ch
  show decide (((i.toNat : Nat) : Int) ∈ ch) = _
  rw [show ((i.toNat : Nat) : Int) = i by omega]
/-- surely failed ones are not more than the fewest -/
theorem sure_le_few {s : List Cm} {fs : List (Int × Int)} {l : Int} {m : Int} (h : leastI ((goodN s fs l).map fun ch => ((ch.length : Nat) : Int)) = some m) : ((sureI s fs l).length : Int) ≤ m := by
  cases hg : (goodN s fs l).map fun ch => ((ch.length : Nat) : Int) with
  | nil => rw [hg] at h; cases h
  | cons a r =>
    rw [hg] at h
    simp only [leastI, Option.some.injEq] at h
    have hm := minI_in r a
    rw [h, ← hg] at hm
    obtain ⟨ch, h1, h2⟩ := List.mem_map.mp hm
    have nd : (sureI s fs l).Nodup := by
      unfold sureI
      refine List.Nodup.sublist (List.filter_sublist ..) ?_
      exact (List.pairwise_map.mpr (List.pairwise_lt_range.imp fun h => by omega) : (upto s.length).Pairwise (· < ·)).imp fun h e => by omega
    have sub : ∀ i ∈ sureI s fs l, i ∈ ch := fun i hi => by
      have := (List.mem_filter.mp hi).2
      exact of_decide_eq_true (List.all_eq_true.mp this ch h1)
    have key : ∀ (xs ys : List Int), xs.Nodup → (∀ x ∈ xs, x ∈ ys) → xs.length ≤ ys.length := by
      intro xs
      induction xs with
      | nil => intro ys _ _; exact Nat.zero_le _
      | cons x xs ih =>
        intro ys hn hs
        rw [List.nodup_cons] at hn
        have hx := hs x (List.mem_cons_self ..)
        have := ih (ys.erase x) hn.2 fun y hy => (List.mem_erase_of_ne (fun e : y = x => hn.1 (e ▸ hy))).mpr (hs y (List.mem_cons_of_mem _ hy))
        rw [List.length_erase_of_mem hx] at this
        have := List.length_pos_of_mem hx
        simp only [List.length_cons]
        omega
    have := key _ _ nd sub
    omega
/-- the start seen at place 0 tells nothing -/
theorem good_more {s : List Cm} {fs : List (Int × Int)} {l : Int} : goodN s (fs ++ [(0, l)]) l = goodN s fs l := by
  unfold goodN
  refine List.filter_congr fun ch _ => ?_
  unfold truB
  simp only [List.all_append, List.all_cons, List.all_nil, Bool.and_true]
  have : decide ((fnd (s.take (0 : Int).toNat) ch l).2 = l) = true := decide_eq_true rfl
  rw [this, Bool.and_true]
end DL
namespace DL
open PySem
/-- the dict comprehension whose parts leave the slots alone, its own names apart -/
theorem w_dcompQ {e : Env} {QO : Od → Env → Prop} {vs : List Nat} {it : M (List D)} {p : Pt} {t : M Bool} {ek ev : M D} (tb : D → Bool) (gk : D → Ky) (gv : D → D)
    (h : wp it e fun ds e1 => ∃ e3, ds.length ≤ cap ∧ backE e1 (wipeE e1 vs) vs = e3 ∧ wipeE (wipeE e1 vs) vs = wipeE e1 vs ∧
      (∀ d ∈ ds, ∃ e', p d (wipeE e1 vs) = some e' ∧ wipeE e' vs = wipeE e1 vs ∧ backE e1 e' vs = e3 ∧ wp t e' fun b e2 => e2 = e' ∧ b = tb d ∧ (tb d = true → wp ek e' fun x e3 => e3 = e' ∧ wp ev e' fun y e4 => e4 = e' ∧ D.ky x = some (gk d) ∧ y = gv d)) ∧
      QO (.k ((ds.filter tb).foldl (fun acc d => aput acc (gk d) (gv d)) [])) e3) : wp (mDComp vs it p t ek ev) e QO := by
  obtain ⟨ds, e1, h1, ez, hc, hb, hw, hs, hq⟩ := h
  have key : ∀ (ds : List D) (acc : List (Ky × D)) (e : Env), acc.length + ds.length ≤ cap → wipeE e vs = wipeE e1 vs → backE e1 e vs = ez →
      (∀ d ∈ ds, ∃ e', p d (wipeE e1 vs) = some e' ∧ wipeE e' vs = wipeE e1 vs ∧ backE e1 e' vs = ez ∧ wp t e' fun b e2 => e2 = e' ∧ b = tb d ∧ (tb d = true → wp ek e' fun x e3 => e3 = e' ∧ wp ev e' fun y e4 => e4 = e' ∧ D.ky x = some (gk d) ∧ y = gv d)) →
      ∃ e', dcompL vs p t ek ev ds e acc = some ((ds.filter tb).foldl (fun acc d => aput acc (gk d) (gv d)) acc, e') ∧ backE e1 e' vs = ez := by
    intro ds
    induction ds with
    | nil => intro acc e _ _ hb' _; exact ⟨e, by simp [dcompL], hb'⟩
    | cons d ds ih =>
      intro acc e hl hw' hb' hall
      obtain ⟨e', h1, h2, h2b, b, e2, h3, rfl, rfl, h4⟩ := hall d (List.mem_cons_self ..)
      simp only [List.length_cons] at hl
      cases hbd : tb d with
      | true =>
        obtain ⟨x, e3, h5, rfl, y, e4, h6, rfl, hk, rfl⟩ := h4 hbd
        obtain ⟨e5, h7, h8⟩ := ih (aput acc (gk d) (gv d)) e4 (by have := aput_len acc (gk d) (gv d); omega) h2 h2b (fun x hx => hall x (List.mem_cons_of_mem _ hx))
        refine ⟨e5, ?_, h8⟩
        rw [hbd] at h3
        have hlt : acc.length < cap := by omega
        simp only [dcompL, hw', h1, h3, h5, h6, hk, hlt, if_true, h7, List.filter, hbd, List.foldl_cons]
      | false =>
        obtain ⟨e4, h6, h7⟩ := ih acc e2 (by omega) h2 h2b (fun x hx => hall x (List.mem_cons_of_mem _ hx))
        refine ⟨e4, ?_, h7⟩
        rw [hbd] at h3
        simp only [dcompL, hw', h1, h3, h6, List.filter, hbd]
  obtain ⟨e2, h2, h3⟩ := key ds [] (wipeE e1 vs) (by simpa using hc) hw hb hs
  refine ⟨_, ez, ?_, hq⟩
  simp only [mDComp, h1, h2, h3]
theorem aput_new {κ ν : Type} [DecidableEq κ] {l : List (κ × ν)} {k : κ} {v : ν} (h : ¬ k ∈ l.map (·.1)) : aput l k v = l ++ [(k, v)] := by
  unfold aput
  rw [if_neg (fun z => h ((aget_mem k).mp z))]
/-- a filter, key by key -/
theorem fold_new (ps : IN) (hn : (ps.map (·.1)).Nodup) (t : Int → Bool) : ((ps.map fun q => D.int q.1).filter (fun d => match d with | .int i => t i | _ => false)).foldl (fun acc d => aput acc (match d with | .int i => .inl i | _ => .inl 0) (match d with | .int i => .int (((aget ps i).getD 0 : Nat)) | _ => .non)) [] = iDc (ps.filter fun p => t p.1) := by
  have key : ∀ (r a : IN), a ++ r = ps → ((r.map fun q => D.int q.1).filter (fun d => match d with | .int i => t i | _ => false)).foldl (fun acc d => aput acc (match d with | .int i => .inl i | _ => .inl 0) (match d with | .int i => .int (((aget ps i).getD 0 : Nat)) | _ => .non)) (iDc (a.filter fun p => t p.1)) = iDc (ps.filter fun p => t p.1) := by
    intro r
    induction r with
    | nil => intro a h; rw [List.append_nil] at h; rw [h]; rfl
    | cons p r ih =>
      intro a h
      have h2 : (a ++ [p]) ++ r = ps := by rw [← h]; simp
      have hp : p ∈ ps := by rw [← h]; simp
      have ih := ih (a ++ [p]) h2
      rw [List.filter_append] at ih
      simp only [List.map_cons, List.filter_cons]
      by_cases ht : t p.1 = true
      case neg =>
        rw [if_neg ht]
        rw [List.filter_cons, if_neg ht, List.filter_nil, List.append_nil] at ih
        exact ih
      case pos =>
        rw [if_pos ht, List.foldl_cons]
        rw [List.filter_cons, if_pos ht, List.filter_nil] at ih
        simp only
        rw [aget_of_mem hn hp, Option.getD_some, aput_iDc, aput_new]
        · exact ih
        · intro z
          obtain ⟨q, hq, e⟩ := List.mem_map.mp z
          have hq := (List.mem_filter.mp hq).1
          have h3 := hn
          rw [← h, List.map_append, List.nodup_append] at h3
          exact h3.2.2 _ (List.mem_map.mpr ⟨q, hq, rfl⟩) _ (by simp) e
  exact key ps [] rfl
theorem fold_mov (c : Cm) (ps : IN) (hn : (ps.map (·.1)).Nodup) : ((ps.map fun q => D.int q.1).filter (fun _ => true)).foldl (fun acc d => aput acc (match d with | .int i => .inl (aft i c) | _ => .inl 0) (match d with | .int i => .int (((aget ps i).getD 0 : Nat)) | _ => .non)) [] = iDc (movK c ps) := by
  rw [List.filter_eq_self.mpr fun _ _ => rfl]
  have key : ∀ (r acc : IN), (∀ p ∈ r, p ∈ ps) → (r.map fun q => D.int q.1).foldl (fun acc d => aput acc (match d with | .int i => .inl (aft i c) | _ => .inl 0) (match d with | .int i => .int (((aget ps i).getD 0 : Nat)) | _ => .non)) (iDc acc) = iDc (r.foldl (fun acc p => aput acc (aft p.1 c) p.2) acc) := by
    intro r
    induction r with
    | nil => intro acc _; rfl
    | cons p r ih =>
      intro acc h
      simp only [List.map_cons, List.foldl_cons]
      rw [aget_of_mem hn (h p (List.mem_cons_self ..)), Option.getD_some, aput_iDc]
      exact ih _ fun q hq => h q (List.mem_cons_of_mem _ hq)
  exact key ps [] fun p h => h
end DL

/-! When levels meet. -/
namespace DL
open PySem
/-- the places where two lists are equal -/
def metF : Nat → List Int → List Int → List Int
  | i, x :: xs, y :: ys => if x = y then (i : Int) :: metF (i + 1) xs ys else metF (i + 1) xs ys
  | _, _, _ => []
theorem metF_mem : ∀ {i : Nat} {xs ys : List Int} {z : Int}, z ∈ metF i xs ys ↔ ∃ k x, z = ((i + k : Nat) : Int) ∧ xs[k]? = some x ∧ ys[k]? = some x
  | i, [], _, z => by simp [metF]
  | i, _ :: _, [], z => by simp [metF]
  | i, x :: xs, y :: ys, z => by
    have ih := metF_mem (i := i + 1) (xs := xs) (ys := ys) (z := z)
    have tl : (∃ k w, z = ((i + 1 + k : Nat) : Int) ∧ xs[k]? = some w ∧ ys[k]? = some w) ↔ ∃ k w, z = ((i + (k + 1) : Nat) : Int) ∧ (x :: xs)[k + 1]? = some w ∧ (y :: ys)[k + 1]? = some w := by
      simp only [List.getElem?_cons_succ]
      constructor
      · rintro ⟨k, w, h1, h2⟩; exact ⟨k, w, by omega, h2⟩
      · rintro ⟨k, w, h1, h2⟩; exact ⟨k, w, by omega, h2⟩
    rw [tl] at ih
    unfold metF
    split
    · rename_i e
      subst e
      rw [List.mem_cons, ih]
      constructor
      · rintro (rfl | ⟨k, w, h⟩)
        · exact ⟨0, x, rfl, rfl, rfl⟩
        · exact ⟨k + 1, w, h⟩
      · rintro ⟨k, w, h1, h2, h3⟩
        cases k with
        | zero => exact .inl h1
        | succ k => exact .inr ⟨k, w, h1, h2, h3⟩
    · rename_i e
      rw [ih]
      constructor
      · rintro ⟨k, w, h⟩; exact ⟨k + 1, w, h⟩
      · rintro ⟨k, w, h1, h2, h3⟩
        cases k with
        | zero => simp at h2 h3; exact absurd (h2.trans h3.symm) e
        | succ k => exact ⟨k, w, h1, h2, h3⟩
theorem metF_lt : ∀ {i : Nat} {xs ys : List Int}, (metF i xs ys).Pairwise (· < ·)
  | i, [], _ => by simp [metF]
  | i, _ :: _, [] => by simp [metF]
  | i, x :: xs, y :: ys => by
    have ih := metF_lt (i := i + 1) (xs := xs) (ys := ys)
    unfold metF
    split
    · refine List.pairwise_cons.mpr ⟨fun z hz => ?_, ih⟩
      obtain ⟨k, w, h, _⟩ := metF_mem.mp hz
      omega
    · exact ih
theorem metF_len : ∀ {i : Nat} {xs ys : List Int}, (metF i xs ys).length ≤ xs.length
  | i, [], _ => by simp [metF]
  | i, _ :: _, [] => by simp [metF]
  | i, x :: xs, y :: ys => by
    have ih := metF_len (i := i + 1) (xs := xs) (ys := ys)
    unfold metF
    split
    · simpa using ih
    · exact Nat.le_succ_of_le ih
/-- after how many commands two starts are at one level -/
def met (s : List Cm) (a b : Int) : List Int := metF 0 (lvs s a) (lvs s b)
theorem upto_lt (n : Nat) : (upto n).Pairwise (· < ·) := List.pairwise_map.mpr (List.pairwise_lt_range.imp fun h => by omega)
theorem mem_upto_iff {n : Nat} {x : Int} : x ∈ upto n ↔ 0 ≤ x ∧ x < n := by
  constructor
  · exact mem_upto
  · intro h; exact List.mem_map.mpr ⟨x.toNat, List.mem_range.mpr (by omega), by omega⟩
theorem met_mem {s : List Cm} {a b : Int} {z : Int} : z ∈ met s a b ↔ (0 ≤ z ∧ z < (s.length + 1 : Nat)) ∧ rowAt s a z = rowAt s b z := by
  unfold met
  rw [metF_mem]
  constructor
  · rintro ⟨k, x, rfl, h1, h2⟩
    have hk : k < (lvs s a).length := (List.getElem?_eq_some_iff.mp h1).1
    rw [lvs_len] at hk
    refine ⟨by omega, ?_⟩
    unfold rowAt
    rw [show ((0 + k : Nat) : Int).toNat = k by omega, h1, h2]
  · rintro ⟨⟨h0, h1⟩, h2⟩
    have ha : z.toNat < (lvs s a).length := by rw [lvs_len]; omega
    have hb : z.toNat < (lvs s b).length := by rw [lvs_len]; omega
    unfold rowAt at h2
    rw [List.getElem?_eq_getElem ha, List.getElem?_eq_getElem hb] at h2
    simp only [Option.getD_some] at h2
    exact ⟨z.toNat, (lvs s a)[z.toNat], by omega, List.getElem?_eq_getElem ha, by rw [h2]; exact List.getElem?_eq_getElem hb⟩
theorem met_filter (s : List Cm) (a b : Int) : met s a b = (upto (s.length + 1)).filter fun k => decide (rowAt s a k = rowAt s b k) := by
  refine srt_same metF_lt ((upto_lt _).filter _) fun z => ?_
  rw [met_mem, List.mem_filter, mem_upto_iff, decide_eq_true_eq]
theorem met_symm (s : List Cm) (a b : Int) : met s a b = met s b a := by
  rw [met_filter, met_filter]
  refine List.filter_congr fun k _ => ?_
  exact decide_eq_decide.mpr ⟨Eq.symm, Eq.symm⟩
theorem met_len (s : List Cm) (a b : Int) : (met s a b).length ≤ s.length + 1 := by
  have := metF_len (i := 0) (xs := lvs s a) (ys := lvs s b)
  rwa [lvs_len] at this
def metB : D → Bool
  | .tup [.int _, .tup [.int x, .int y]] => decide (x = y)
  | _ => false
def metG : D → D
  | .tup [x, _] => x
  | _ => .non
theorem metF_D : ∀ (i : Nat) (xs ys : List Int), ((enumD i (zipD (iL xs) (iL ys))).filter metB).map metG = iL (metF i xs ys)
  | i, [], ys => by cases ys <;> simp [iL, zipD, enumD, metF]
  | i, _ :: _, [] => by simp [iL, zipD, enumD, metF]
  | i, x :: xs, y :: ys => by
    have ih := metF_D (i + 1) xs ys
    simp only [iL, List.map_cons, zipD, enumD, List.filter_cons, metB, decide_eq_true_eq] at ih ⊢
    unfold metF
    split
    · rw [List.map_cons, ih, List.map_cons]
      rfl
    · rw [ih]
theorem zip_at : ∀ {xs ys : List Int} {k : Nat} {d : D}, (zipD (iL xs) (iL ys))[k]? = some d → ∃ x y, d = .tup [.int x, .int y]
  | [], ys, k, d, h => by cases ys <;> simp [iL, zipD] at h
  | _ :: _, [], k, d, h => by simp [iL, zipD] at h
  | x :: xs, y :: ys, 0, d, h => by
    simp only [iL, List.map_cons, zipD, List.getElem?_cons_zero, Option.some.injEq] at h
    exact ⟨x, y, h.symm⟩
  | x :: xs, y :: ys, k + 1, d, h => by
    simp only [iL, List.map_cons, zipD, List.getElem?_cons_succ] at h
    exact zip_at h
theorem zip_len : ∀ (xs ys : List Int), (zipD (iL xs) (iL ys)).length ≤ xs.length
  | [], ys => by cases ys <;> simp [iL, zipD]
  | _ :: _, [] => by simp [iL, zipD]
  | x :: xs, y :: ys => by
    have ih := zip_len xs ys
    simp only [iL, List.map_cons, zipD, List.length_cons] at ih ⊢
    omega
/-- levels from a higher start: never lower, never further away -/
theorem aft_gap {a b : Int} {c : Cm} (hc : 0 ≤ c.am) (h : a ≤ b) : 0 ≤ aft b c - aft a c ∧ aft b c - aft a c ≤ b - a := by
  obtain ⟨ch, m, l⟩ := c
  simp only at hc
  cases ch
  · simp only [aft, if_neg Bool.false_ne_true]
    split <;> split <;> omega
  · simp only [aft, if_true]
    split <;> split <;> omega
theorem row_zero (s : List Cm) (a : Int) : rowAt s a 0 = a := by cases s <;> rfl
theorem row_succ {c : Cm} {s : List Cm} {a k : Int} (h : 0 ≤ k) : rowAt (c :: s) a (k + 1) = rowAt s (aft a c) k := by
  unfold rowAt
  rw [show (k + 1).toNat = k.toNat + 1 by omega]
  rfl
/-- the gap falls -/
theorem row_gap : ∀ {s : List Cm} {a b : Int} {k j : Nat}, (∀ c ∈ s, 0 ≤ c.am) → a ≤ b → k ≤ j → j ≤ s.length → 0 ≤ rowAt s b j - rowAt s a j ∧ rowAt s b j - rowAt s a j ≤ rowAt s b k - rowAt s a k
  | s, a, b, k, 0, _, h, hk, _ => by
    have : k = 0 := by omega
    subst this
    rw [show ((0 : Nat) : Int) = 0 from rfl, row_zero, row_zero]
    omega
  | [], a, b, k, j + 1, _, _, _, hj => by simp at hj
  | c :: s, a, b, k, j + 1, hs, h, hk, hj => by
    have g := aft_gap (hs c (List.mem_cons_self ..)) h
    have h2 : aft a c ≤ aft b c := by omega
    have hs2 : ∀ x ∈ s, 0 ≤ x.am := fun x hx => hs x (List.mem_cons_of_mem _ hx)
    simp only [List.length_cons] at hj
    cases k with
    | zero =>
      have ih := row_gap (s := s) (k := 0) (j := j) hs2 h2 (Nat.zero_le _) (by omega)
      rw [show ((0 : Nat) : Int) = 0 from rfl, row_zero, row_zero] at ih ⊢
      rw [show ((j + 1 : Nat) : Int) = (j : Int) + 1 by omega, row_succ (by omega), row_succ (by omega)]
      omega
    | succ k =>
      have ih := row_gap (s := s) (k := k) (j := j) hs2 h2 (by omega) (by omega)
      rw [show ((j + 1 : Nat) : Int) = (j : Int) + 1 by omega, row_succ (by omega), row_succ (by omega), show ((k + 1 : Nat) : Int) = (k : Int) + 1 by omega, row_succ (by omega), row_succ (by omega)]
      exact ih
theorem row_mono {s : List Cm} {a b : Int} {k : Int} (hs : ∀ c ∈ s, 0 ≤ c.am) (h : a ≤ b) : rowAt s a k ≤ rowAt s b k := lvs_mono hs h _
end DL
namespace DL
open PySem
theorem w_lzip {e : Env} {QL : List D → Env → Prop} {a b : M D} (h : wp a e fun x e1 => wp b e1 fun y e2 => ∃ xs ys, x = .lst xs ∧ y = .lst ys ∧ QL (zipD xs ys) e2) : wp (mLZip a b) e QL := by
  obtain ⟨x, e1, h1, y, e2, h2, xs, ys, rfl, rfl, q⟩ := h
  exact ⟨_, e2, by simp only [mLZip, h1, h2], q⟩
theorem e_two {xs ys : List D} {P : List D → List D → Prop} (q : P xs ys) : ∃ v w, D.lst xs = .lst v ∧ D.lst ys = .lst w ∧ P v w := ⟨_, _, rfl, rfl, q⟩
theorem x_lenSet {Q : D → Prop} {xs : List Int} (h : xs.length ≤ 4000) (q : Q (.int (dedupI xs).length)) : ∃ z, fLenSet [.lst (iL xs)] = some z ∧ Q z := ⟨_, by simp only [fLenSet, ints_iL, h, if_true], q⟩
theorem x_sortedSet {Q : List D → Prop} {xs : List Int} (h : xs.length ≤ 4000) (h2 : (dedupI xs).length < 64) (q : Q (iL (isort (dedupI xs)))) : ∃ z, fSortedSet [.lst (iL xs)] = some z ∧ Q z := by
  refine ⟨_, ?_, q⟩
  simp only [fSortedSet, ints_iL, h, h2, and_self, if_true]
  rfl
/-- one item alone -/
theorem dedup_one {a : Int} {xs : List Int} : (dedupI (a :: xs)).length = 1 ↔ ∀ x ∈ xs, x = a := by
  have hm := dedup_mem (l := a :: xs)
  have hn := dedup_nd (a :: xs)
  constructor
  · intro h x hx
    cases e : dedupI (a :: xs) with
    | nil => rw [e] at h; cases h
    | cons b r =>
      rw [e] at h hm
      have hr : r = [] := by cases r with | nil => rfl | cons _ _ => simp at h
      subst hr
      have h1 := (hm a).mpr (List.mem_cons_self ..)
      have h2 := (hm x).mpr (List.mem_cons_of_mem _ hx)
      simp only [List.mem_cons, List.not_mem_nil, or_false] at h1 h2
      rw [h1, h2]
  · intro h
    cases e : dedupI (a :: xs) with
    | nil => rw [e] at hm; have := (hm a).mpr (List.mem_cons_self ..); cases this
    | cons b r =>
      rw [e] at hm hn
      cases r with
      | nil => rfl
      | cons c r =>
        have eq : ∀ y ∈ b :: c :: r, y = a := fun y hy => by
          rcases List.mem_cons.mp ((hm y).mp hy) with z | z
          · exact z
          · exact h y z
        have h1 := eq b (List.mem_cons_self ..)
        have h2 := eq c (List.mem_cons_of_mem _ (List.mem_cons_self ..))
        rw [List.nodup_cons] at hn
        exact absurd (List.mem_cons.mpr (.inl (h1.trans h2.symm))) hn.1
end DL
namespace DL
open PySem
/-- the first of a list, or None -/
def fstD : List Int → D
  | [] => .non
  | a :: _ => .int a
theorem fstD_wl (xs : List Int) : Wl 1 (fstD xs) := by cases xs <;> trivial
/-- xs[0] if xs != [] else None, of a value -/
theorem w_fst {e : Env} {Q : D → Env → Prop} {i : Nat} {xs : List Int} (h0 : e[i]? = some (.im (.lst (iL xs)))) (hl : xs.length ≤ cap) (q : Q (fstD xs) e) : wp (mIf (tVal (mBin oNe (mVar i) (mFr (mLst mNil)))) (mBin oIx (mVar i) (mC (.int 0))) (mC .non)) e Q := by
  refine w_if (w_val (w_bin (w_var h0 (w_fr (w_lst (w_nil ⟨Nat.zero_le _, ?_⟩))))))
  refine x_neL (b := []) hl (by decide) ⟨_, rfl, ?_⟩
  cases xs with
  | nil => exact ⟨fun h => by simp at h, fun _ => w_C q⟩
  | cons a r => exact ⟨fun _ => w_bin (w_var h0 (w_C (x_ixL (at_nat (by decide) (d := .int a) rfl) q))), fun h => by simp at h⟩
/-- the same of an own list -/
theorem w_fstO {e : Env} {Q : D → Env → Prop} {i : Nat} {xs : List Int} (h0 : e[i]? = some (.ow (iL xs))) (hl : xs.length ≤ cap) (q : Q (fstD xs) e) : wp (mIf (tVal (mOBin oNe i (mFr (mLst mNil)))) (mOIx i (mC (.int 0))) (mC .non)) e Q := by
  refine w_if (w_val (w_oBin h0 (w_fr (w_lst (w_nil ⟨Nat.zero_le _, _, h0, ?_⟩)))))
  refine x_neL (b := []) hl (by decide) ⟨_, rfl, ?_⟩
  cases xs with
  | nil => exact ⟨fun h => by simp at h, fun _ => w_C q⟩
  | cons a r => exact ⟨fun _ => w_oIx h0 (w_C ⟨_, rfl, _, h0, _, at_nat (by decide) (d := .int a) rfl, q⟩), fun h => by simp at h⟩
end DL
namespace DL
open PySem
/-! ### gaps of two starts -/
def gps (s : List Cm) (a b : Int) : List Int := List.zipWith (fun x y => y - x) (lvs s a) (lvs s b)
def gapG : D → D
  | .tup [.int x, .int y] => .int (y - x)
  | _ => .non
theorem gaps_D : ∀ xs ys : List Int, (zipD (iL xs) (iL ys)).map gapG = iL (List.zipWith (fun x y => y - x) xs ys)
  | [], ys => by cases ys <;> simp [iL, zipD]
  | _ :: _, [] => by simp [iL, zipD]
  | x :: xs, y :: ys => by
    have ih := gaps_D xs ys
    simp only [iL, List.map_cons, zipD, List.zipWith_cons_cons] at ih ⊢
    rw [ih]
    rfl
theorem gps_len (s : List Cm) (a b : Int) : (gps s a b).length = s.length + 1 := by simp [gps, lvs_len]
theorem gps_row (s : List Cm) (a b : Int) : gps s a b = (upto (s.length + 1)).map fun k => rowAt s b k - rowAt s a k := by
  apply List.ext_getElem?
  intro k
  by_cases h : k < s.length + 1
  · have h1 : k < (lvs s a).length := by rw [lvs_len]; exact h
    have h2 : k < (lvs s b).length := by rw [lvs_len]; exact h
    simp only [gps, List.getElem?_zipWith, upto, List.map_map, List.getElem?_map, List.getElem?_range h, rowAt, List.getElem?_eq_getElem h1, List.getElem?_eq_getElem h2, Option.map_some, Function.comp_apply, Int.toNat_natCast, Option.getD_some]
  · rw [List.getElem?_eq_none (by rw [gps_len]; omega), List.getElem?_eq_none (by rw [List.length_map, len_upto]; omega)]
theorem gps_sort {s : List Cm} {a b : Int} (hs : ∀ c ∈ s, 0 ≤ c.am) (h : a ≤ b) : (isort (gps s a b)).reverse = gps s a b := by
  have hp : (gps s a b).Pairwise (fun x y => y ≤ x) := by
    rw [gps_row, List.pairwise_map]
    refine List.Pairwise.imp_of_mem (fun {x y} hx hy hlt => ?_) (upto_lt (s.length + 1))
    have hx := mem_upto hx
    have hy := mem_upto hy
    have := row_gap (s := s) (k := x.toNat) (j := y.toNat) hs h (by omega) (by omega)
    rw [show ((x.toNat : Nat) : Int) = x by omega, show ((y.toNat : Nat) : Int) = y by omega] at this
    exact this.2
  have e : isort (gps s a b) = (gps s a b).reverse := by
    refine srt_uniq (isort_srt _) (List.pairwise_reverse.mpr hp) ?_
    exact (isort_perm _).trans (List.reverse_perm _).symm
  rw [e, List.reverse_reverse]
theorem gps_last {s : List Cm} {a b : Int} : (gps s a b).getLast? = some (rowAt s b s.length - rowAt s a s.length) := by
  rw [gps_row, List.getLast?_map, upto, List.range_succ, List.map_append]
  simp
def zerF : Nat → List Int → List Int
  | _, [] => []
  | i, g :: gs => if g = 0 then (i : Int) :: zerF (i + 1) gs else zerF (i + 1) gs
theorem zerF_met : ∀ (i : Nat) (xs ys : List Int), zerF i (List.zipWith (fun x y => y - x) xs ys) = metF i xs ys
  | i, [], ys => by cases ys <;> rfl
  | i, _ :: _, [] => rfl
  | i, x :: xs, y :: ys => by
    have ih := zerF_met (i + 1) xs ys
    simp only [List.zipWith_cons_cons, zerF, metF, ih]
    by_cases e : x = y
    · rw [if_pos e, if_pos (by omega)]
    · rw [if_neg e, if_neg (by omega)]
def zerB : D → Bool
  | .tup [.int _, .int g] => decide (g = 0)
  | _ => false
def zerG : D → D
  | .tup [x, _] => x
  | _ => .non
theorem zerF_D : ∀ (i : Nat) (gs : List Int), ((enumD i (iL gs)).filter zerB).map zerG = iL (zerF i gs)
  | i, [] => rfl
  | i, g :: gs => by
    have ih := zerF_D (i + 1) gs
    simp only [iL, List.map_cons, enumD, List.filter_cons, zerB, decide_eq_true_eq] at ih ⊢
    unfold zerF
    split
    · rw [List.map_cons, ih, List.map_cons]
      rfl
    · rw [ih]
end DL

/-! The rule of point [12], as one counts it from the runs. -/
namespace DL
open PySem
theorem front_split : ∀ {ms : List Bool}, ms.head? = some true → ∃ k B, ms = List.replicate k true ++ B ∧ 1 ≤ k ∧ okB B
  | [], h => by simp at h
  | b :: r, h => by
    simp only [List.head?_cons, Option.some.injEq] at h
    subst h
    cases r with
    | nil => exact ⟨1, [], rfl, Nat.le_refl _, .inl rfl⟩
    | cons b r =>
      cases b with
      | false => exact ⟨1, false :: r, rfl, Nat.le_refl _, .inr ⟨r, rfl⟩⟩
      | true =>
        obtain ⟨k, B, h1, h2, h3⟩ := front_split (ms := true :: r) rfl
        exact ⟨k + 1, B, by rw [h1]; rfl, by omega, h3⟩
theorem back_split : ∀ (n : Nat) {ms : List Bool}, ms.length = n → ms.getLast? = some true → ∃ k A, ms = A ++ List.replicate k true ∧ 1 ≤ k ∧ lstB false A = false
  | 0, ms, hn, h => by
    have : ms = [] := List.length_eq_zero_iff.mp hn
    subst this; simp at h
  | n + 1, ms, hn, h => by
    obtain ⟨A, rfl⟩ := List.getLast?_eq_some_iff.mp h
    cases hb : lstB false A with
    | false => exact ⟨1, A, rfl, Nat.le_refl _, hb⟩
    | true =>
      have hl : A.getLast? = some true := by
        have key : ∀ (A : List Bool) (p : Bool), A ≠ [] → A.getLast? = some (lstB p A) := by
          intro A
          induction A with
          | nil => intro p h; exact absurd rfl h
          | cons a A ih =>
            intro p _
            cases A with
            | nil => rfl
            | cons b A => rw [List.getLast?_cons_cons]; exact ih a (by simp)
        rw [key A false (fun e => by rw [e] at hb; cases hb), hb]
      obtain ⟨k, B, h1, h2, h3⟩ := back_split n (ms := A) (by simpa using hn) hl
      refine ⟨k + 1, B, ?_, by omega, h3⟩
      rw [h1, List.append_assoc]
      congr 1
      rw [← List.replicate_succ']
theorem lens_front {k : Nat} {B : List Bool} (hk : 1 ≤ k) (hB : okB B) : lens (List.replicate k true ++ B) = k :: lens B := by
  have := lens_run hB k 0 (by omega)
  rwa [Nat.zero_add] at this
theorem lens_back {k : Nat} {A : List Bool} (hk : 1 ≤ k) (hA : lstB false A = false) : lens (A ++ List.replicate k true) = lens A ++ [k] := by
  rw [lens_app hA]
  have := lens_front (B := []) hk (.inl rfl)
  rw [List.append_nil] at this
  rw [this]
  rfl
/-- sums of some of the first lengths -/
def sumS (L : List Nat) : List Int := L.foldl (fun (S : List Int) (l : Nat) => isort (dedupI (S ++ S.map fun t => t + (l : Int)))) [0]
theorem sumS_snoc (L : List Nat) (l : Nat) : sumS (L ++ [l]) = isort (dedupI (sumS L ++ (sumS L).map fun t => t + (l : Int))) := by simp [sumS]
theorem sumS_mem (n : Nat) : ∀ {L : List Nat}, L.length = n → ∀ {x : Int}, x ∈ sumS L ↔ ∃ sub : List Nat, sub.Sublist L ∧ ((sub.sum : Nat) : Int) = x := by
  induction n with
  | zero =>
    intro L hL x
    have : L = [] := List.length_eq_zero_iff.mp hL
    subst this
    simp only [sumS, List.foldl_nil, List.mem_cons, List.not_mem_nil, or_false, List.sublist_nil, exists_eq_left, List.sum_nil]
    exact ⟨fun h => h.symm, fun h => h.symm⟩
  | succ n ih =>
    intro L hL x
    have hne : L ≠ [] := fun e => by rw [e] at hL; cases hL
    obtain ⟨P, l, rfl⟩ : ∃ P l, L = P ++ [l] := ⟨L.dropLast, L.getLast hne, (List.dropLast_concat_getLast hne).symm⟩
    have ih := fun y => ih (L := P) (by simpa using hL) (x := y)
    rw [sumS_snoc, (isort_perm _).mem_iff, dedup_mem, List.mem_append, List.mem_map, ih]
    constructor
    · rintro (⟨sub, h1, h2⟩ | ⟨t, ht, rfl⟩)
      · exact ⟨sub, h1.trans (List.sublist_append_left ..), h2⟩
      · obtain ⟨sub, h1, rfl⟩ := (ih t).mp ht
        exact ⟨sub ++ [l], List.Sublist.append h1 (List.Sublist.refl _), by simp⟩
    · rintro ⟨sub, h1, rfl⟩
      obtain ⟨a, b, rfl, h2, h3⟩ := List.sublist_append_iff.mp h1
      cases b with
      | nil => exact .inl ⟨a, h2, by simp⟩
      | cons y b =>
        have hy : y :: b = [l] := by
          have h4 := h3.length_le
          have : b = [] := by cases b with | nil => rfl | cons _ _ => simp at h4
          subst this
          have h5 := h3.subset (List.mem_cons_self ..)
          simp at h5
          rw [h5]
        rw [hy]
        exact .inr ⟨((a.sum : Nat) : Int), (ih _).mpr ⟨a, h2, rfl⟩, by simp⟩
theorem sumS_in {L : List Nat} {x : Int} (h : x ∈ sumS L) : 0 ≤ x ∧ x < (L.sum + 1 : Nat) := by
  obtain ⟨sub, h1, rfl⟩ := (sumS_mem L.length rfl).mp h
  have := sub_sum h1
  omega
theorem sumS_nd : ∀ L : List Nat, (sumS L).Nodup := by
  intro L
  rcases List.eq_nil_or_concat L with rfl | ⟨P, l, rfl⟩
  · simp [sumS]
  · rw [List.concat_eq_append, sumS_snoc]
    exact (isort_perm _).nodup_iff.mpr (dedup_nd _)
theorem sumS_len (L : List Nat) : (sumS L).length ≤ L.sum + 1 := nd_len _ (sumS_nd L) fun x hx => sumS_in hx
theorem sumS_ded (L : List Nat) (l : Nat) : (dedupI (sumS L ++ (sumS L).map fun t => t + (l : Int))).length ≤ L.sum + l + 1 := by
  have h := sumS_len (L ++ [l])
  rw [sumS_snoc, isort_len] at h
  simpa using h
/-- the rule, from the lengths -/
def ruleB (s : Int) (ms : List Bool) : Bool :=
  decide (s ∈ sumS (lens ms)) || (decide (ms.head? = some true) && decide (s ≤ (((lens ms).drop 1).sum : Nat))) || (decide (ms.getLast? = some true) && decide ((((lens ms).getLast?.getD 0 : Nat) : Int) ≤ s))
theorem ruleB_iff {s : Int} {ms : List Bool} : ruleB s ms = true ↔ Rule s ms := by
  unfold ruleB Rule
  simp only [Bool.or_eq_true, Bool.and_eq_true, decide_eq_true_eq, or_assoc]
  refine or_congr (sumS_mem _ rfl) (or_congr ?_ ?_)
  · constructor
    · rintro ⟨h1, h2⟩
      obtain ⟨k, B, e, h3, h4⟩ := front_split h1
      refine ⟨k, B, e, h3, h4, ?_⟩
      rw [e, lens_front h3 h4] at h2
      exact h2
    · rintro ⟨k, B, e, h3, h4, h5⟩
      refine ⟨?_, ?_⟩
      · rw [e]
        obtain ⟨k, rfl⟩ : ∃ j, k = j + 1 := ⟨k - 1, by omega⟩
        rfl
      · rw [e, lens_front h3 h4]; exact h5
  · constructor
    · rintro ⟨h1, h2⟩
      obtain ⟨k, A, e, h3, h4⟩ := back_split _ rfl h1
      refine ⟨k, A, e, h3, h4, ?_⟩
      rw [e, lens_back h3 h4] at h2
      simpa using h2
    · rintro ⟨k, A, e, h3, h4, h5⟩
      refine ⟨?_, ?_⟩
      · rw [e]
        obtain ⟨k, rfl⟩ : ∃ j, k = j + 1 := ⟨k - 1, by omega⟩
        rw [List.replicate_succ', ← List.append_assoc, List.getLast?_append]
        rfl
      · rw [e, lens_back h3 h4]; simpa using h5
open Classical in
theorem fewN_rule (c : Int) (g : Int → Int) : fewN c g = (lens (bits c g)).length + if ruleB (g 0) (bits c g) = true then 0 else 1 := by
  unfold fewN
  rw [lens_len]
  by_cases h : Rule (g 0) (bits c g)
  · rw [if_pos h, if_pos (ruleB_iff.mpr h)]
  · rw [if_neg h, if_neg (fun z => h (ruleB_iff.mp z))]
/-- lengths, a step more -/
theorem lens_on_off (P : List Bool) : lens (P ++ [false]) = lens P := by
  rw [show P ++ [false] = P ++ false :: [] from rfl, lens, ln_cut]
  simp [lnA]
theorem lens_new {P : List Bool} (h : lstB false P = false) : lens (P ++ [true]) = lens P ++ [1] := by
  rw [lens_app h]; rfl
theorem lens_more {P : List Bool} (h : lstB false P = true) : ∃ L j, lens P = L ++ [j] ∧ lens (P ++ [true]) = L ++ [j + 1] := ln_true P 0 (by simpa using h)
theorem lens_sum_le : ∀ (ms : List Bool) (k : Nat), (lnA k ms).sum ≤ k + ms.length
  | [], 0 => by simp [lnA]
  | [], k + 1 => by simp [lnA]
  | true :: r, k => by
    have := lens_sum_le r (k + 1)
    have e : lnA k (true :: r) = lnA (k + 1) r := by cases k <;> rfl
    rw [e]; simp only [List.length_cons]; omega
  | false :: r, 0 => by
    have := lens_sum_le r 0
    simp only [lnA, List.length_cons]; omega
  | false :: r, k + 1 => by
    have := lens_sum_le r 0
    simp only [lnA, List.length_cons, List.sum_cons]; omega
theorem lens_le (ms : List Bool) : (lens ms).sum ≤ ms.length := by have := lens_sum_le ms 0; rwa [Nat.zero_add] at this
theorem lens_len_le (ms : List Bool) : (lens ms).length ≤ ms.length := by
  have h := rnF_len ms
  rw [← (rn_ok ms).ln, List.length_map]
  exact h
theorem lstB_last (p : Bool) : ∀ {A : List Bool}, A ≠ [] → A.getLast? = some (lstB p A) := by
  intro A
  induction A generalizing p with
  | nil => intro h; exact absurd rfl h
  | cons a A ih =>
    intro _
    cases A with
    | nil => rfl
    | cons b A => rw [List.getLast?_cons_cons]; exact ih a (by simp)
end DL
namespace DL
open PySem
def prB (g : Int → Int) (j : Nat) : List Bool := (List.range j).map fun x : Nat => decide (g x = g ((x : Int) + 1))
theorem prB_snoc (g : Int → Int) (j : Nat) : prB g (j + 1) = prB g j ++ [decide (g j = g ((j : Int) + 1))] := by
  unfold prB; rw [List.range_succ, List.map_append]; rfl
theorem prB_len (g : Int → Int) (j : Nat) : (prB g j).length = j := by simp [prB]
theorem prB_bits (c : Int) (g : Int → Int) : prB g c.toNat = bits c g := rfl
theorem prB_last (g : Int → Int) (j : Nat) : lstB false (prB g (j + 1)) = decide (g j = g ((j : Int) + 1)) := by
  rw [prB_snoc, lstB_app]; rfl
abbrev nI (L : List Nat) : List Int := L.map fun n => ((n : Nat) : Int)
/-- neighbouring items -/
def nbD (g : Int → Int) (j n : Nat) : List D := (List.range' j n).map fun x : Nat => .tup [.int (g (x : Int)), .int (g ((x : Int) + 1))]
theorem nb_zip (c : Int) (g : Int → Int) (hc : 0 ≤ c) : zipD (iL (mapL c g)) ((iL (mapL c g)).drop 1) = nbD g 0 c.toNat := by
  unfold mapL nbD
  rw [zip_upto, show (c + 1).toNat - 1 = c.toNat by omega, upto, List.range_eq_range', List.map_map]
  rfl
theorem nb_cons {g : Int → Int} {j n : Nat} {d : D} {ds : List D} (h : d :: ds = nbD g j n) : ∃ m, n = m + 1 ∧ d = .tup [.int (g (j : Int)), .int (g ((j : Int) + 1))] ∧ ds = nbD g (j + 1) m := by
  cases n with
  | zero => simp [nbD] at h
  | succ m =>
    rw [nbD, List.range'_succ, List.map_cons, List.cons.injEq] at h
    exact ⟨m, rfl, h.1, h.2⟩
theorem at_neg {xs : List D} {k : Nat} {d : D} (hk : 1 ≤ k) (hl : k ≤ xs.length) (h : xs[xs.length - k]? = some d) : at' xs (-(k : Int)) = some d := by
  have e1 : ix xs.length (-(k : Int)) = some (xs.length - k) := by
    unfold ix
    rw [if_neg (by omega), if_pos (by omega)]
    congr 1
    omega
  simp only [at', e1, h]
theorem x_ixM2 {c : Int} {g : Int → Int} {Q : D → Prop} (hc : 1 ≤ c) (q : Q (.int (g (c - 1)))) : ∃ z, oIx (mapD c g) (.int (-2)) = some z ∧ Q z := by
  refine ⟨_, ?_, q⟩
  show at' (iL (mapL c g)) (-2) = _
  refine at_neg (k := 2) (by omega) (by rw [iL_len, mapL_len]; omega) ?_
  rw [iL_len, mapL_len]
  simp only [iL, mapL, upto, List.map_map, List.getElem?_map]
  rw [List.getElem?_range (by omega)]
  simp only [Option.map_some, Function.comp_apply, Option.some.injEq, D.int.injEq]
  congr 1
  omega
theorem x_ninI {Q : D → Prop} {i : Int} {L : List Int} (q : Q (.bl (decide (i ∈ L)))) : ∃ z, oIn (.int i) (.lst (iL L)) = some z ∧ Q z := by
  have key : ∀ L : List Int, D.plL (iL L) = true ∧ D.depL (iL L) ≤ 60 := by
    intro L
    induction L with
    | nil => exact ⟨rfl, Nat.zero_le _⟩
    | cons a L ih =>
      refine ⟨?_, ?_⟩
      · simp only [iL, List.map_cons, D.plL, D.pl, Bool.true_and]; exact ih.1
      · simp only [iL, List.map_cons, D.depL, D.dep]; exact Nat.max_le.mpr ⟨Nat.zero_le _, ih.2⟩
  obtain ⟨h1, h2⟩ := key L
  refine ⟨_, ?_, q⟩
  simp only [oIn, ok_int, h1, h2, decide_true, Bool.and_true, if_true, any_mem]
theorem nI_sum (L : List Nat) : (nI L).sum = ((L.sum : Nat) : Int) := by
  induction L with
  | nil => rfl
  | cons a L ih => simp only [nI, List.map_cons, List.sum_cons] at ih ⊢; rw [ih]; omega
theorem bits_head {c : Int} {g : Int → Int} (hc : 1 ≤ c) : decide ((bits c g).head? = some true) = decide (g 0 = g 1) := by
  unfold bits
  obtain ⟨n, hn⟩ : ∃ n, c.toNat = n + 1 := ⟨c.toNat - 1, by omega⟩
  rw [hn, List.range_succ_eq_map, List.map_cons, List.head?_cons]
  simp
theorem bits_back {c : Int} {g : Int → Int} (hc : 1 ≤ c) : decide ((bits c g).getLast? = some true) = decide (g c = g (c - 1)) := by
  unfold bits
  obtain ⟨n, hn⟩ : ∃ n, c.toNat = n + 1 := ⟨c.toNat - 1, by omega⟩
  rw [hn, List.range_succ, List.map_append, List.getLast?_append]
  simp only [List.map_cons, List.map_nil, List.getLast?_singleton, Option.some_or, Option.some.injEq, decide_eq_true_eq]
  have e1 : ((n : Nat) : Int) = c - 1 := by omega
  have e2 : ((n : Nat) : Int) + 1 = c := by omega
  rw [e2, e1]
  exact decide_eq_decide.mpr ⟨Eq.symm, Eq.symm⟩
end DL
namespace DL
open PySem
theorem pl_iL : ∀ L : List Int, D.plL (iL L) = true ∧ D.depL (iL L) ≤ 60
  | [] => ⟨rfl, Nat.zero_le _⟩
  | a :: L => by
    have ih := pl_iL L
    refine ⟨?_, ?_⟩
    · simp only [iL, List.map_cons, D.plL, D.pl, Bool.true_and]; exact ih.1
    · simp only [iL, List.map_cons, D.depL, D.dep]; exact Nat.max_le.mpr ⟨Nat.zero_le _, ih.2⟩
theorem x_ninTD {Q : D → Prop} {i : Int} {L : List Int} (q : Q (.bl (!decide (i ∈ L)))) : ∃ z, oNotIn (.int i) (.tup (iL L)) = some z ∧ Q z := by
  obtain ⟨h1, h2⟩ := pl_iL L
  refine ⟨_, ?_, q⟩
  simp only [oNotIn, ok_int, h1, h2, decide_true, Bool.and_true, if_true, any_mem]
theorem runs_step {c : Int} (hc : 0 ≤ c) {s : List Cm} {k : Cm} (hs : ∀ x ∈ s, x.ok c) (hk : k.ok c) : nrA false (bits c (fin (s ++ [k]))) ≤ nrA false (bits c (fin s)) + 1 := by
  have e : fin (s ++ [k]) = fun x => aft (fin s x) k := by
    funext x
    simp [fin]
  rw [e]
  rcases step_cmd hc (Eg.fin hs) hk with h | ⟨A, C, B, hC, h1, h2, _⟩
  · rw [h]; omega
  · rw [h1, h2]; exact (one_more hC).1
theorem runs_none (c : Int) : nrA false (bits c (fin [])) = 0 := by
  have e : bits c (fin []) = List.replicate c.toNat false := bits_id
  rw [e, nr_off]
end DL
namespace DL
open PySem
theorem nr_half : ∀ (ms : List Bool) (p : Bool), 2 * nrA p ms ≤ ms.length + (if p then 0 else 1)
  | [], p => by cases p <;> simp [nrA]
  | b :: r, p => by
    have ih := nr_half r b
    cases b <;> cases p <;> simp only [nrA, List.length_cons, Bool.and_true, Bool.and_false, Bool.not_true, Bool.not_false, Bool.true_and, Bool.false_and, Bool.false_eq_true, if_true, if_false] at ih ⊢ <;> omega
theorem few_half {c : Int} (h : c ≤ 60) (g : Int → Int) : fewN c g ≤ 32 := by
  have h1 := nr_half (bits c g) false
  rw [bits_len] at h1
  simp only [Bool.false_eq_true, if_false] at h1
  unfold fewN
  split <;> omega
end DL

/-! Dicts by rows of ints; a call with a list made for it; loops over a dict's keys. -/
namespace DL
open PySem
section
variable {e : Env} {Q : D → Env → Prop} {QL : List D → Env → Prop} {QO : Od → Env → Prop}
theorem w_FT {f : List D → List D → Option (D × List D)} {m0 : M (List D)} {n : Int} (h : wp m0 e fun s e1 => ∃ d s', f s [.int n] = some (d, s') ∧ Q d e1) : wp (mFT f m0 n) e Q := by
  obtain ⟨s, e1, h1, d, s', h2, q⟩ := h
  exact ⟨d, e1, by simp only [mFT, h1, h2], q⟩
theorem w_dispT {a b : M D} (h : wp a e fun x e1 => wp b e1 fun y e2 => ∃ row, x = tD row ∧ QO (.t [(row.map Sum.inl, y)]) e2) : wp (mDispT a b) e QO := by
  have key : ∀ row : List Int, D.kys (iL row) = some (row.map Sum.inl) := by
    intro row
    induction row with
    | nil => rfl
    | cons i r ih =>
      show (match D.ky (.int i) with | none => none | some k => match D.kys (iL r) with | none => none | some ks => some (k :: ks)) = _
      rw [ih]; rfl
  obtain ⟨x, e1, h1, y, e2, h2, row, rfl, q⟩ := h
  exact ⟨_, e2, by simp only [mDispT, h1, h2, tD]; rw [key], q⟩
theorem w_iSeqT {a : M D} (h : wp a e fun x e1 => ∃ ks vs, x = .dT ks vs ∧ QL (ks.map fun k => .tup (k.map kyD)) e1) : wp (iSeq a) e QL := by
  obtain ⟨x, e1, h1, ks, vs, rfl, q⟩ := h
  exact ⟨_, e1, by simp only [iSeq, h1], q⟩
end
theorem kys_iL : ∀ row : List Int, D.kys (iL row) = some (row.map Sum.inl)
  | [] => rfl
  | i :: r => by
    show (match D.ky (.int i) with | none => none | some k => match D.kys (iL r) with | none => none | some ks => some (k :: ks)) = _
    rw [kys_iL r]; rfl
theorem inl_inj {a b : List Int} : (a.map Sum.inl : List Ky) = b.map Sum.inl ↔ a = b :=
  ⟨fun h => (List.map_inj_right (fun _ _ e => Sum.inl.inj e)).mp h, fun h => by rw [h]⟩
/-- a dict by rows of ints -/
def tDc (fs : List (List Int × D)) : List (List Ky × D) := fs.map fun p => (p.1.map Sum.inl, p.2)
theorem tDc_len (fs : List (List Int × D)) : (tDc fs).length = fs.length := by simp [tDc]
theorem aget_tDc (row : List Int) : ∀ fs : List (List Int × D), aget (tDc fs) (row.map Sum.inl) = aget fs row
  | [] => rfl
  | p :: fs => by
    have ih := aget_tDc row fs
    simp only [tDc, List.map_cons, aget] at ih ⊢
    rw [ih]
    by_cases h : p.1 = row
    · rw [if_pos h, if_pos (inl_inj.mpr h)]
    · rw [if_neg h, if_neg fun e => h (inl_inj.mp e)]
theorem arep_tDc (row : List Int) (v : D) : ∀ fs : List (List Int × D), arep (tDc fs) (row.map Sum.inl) v = tDc (arep fs row v)
  | [] => rfl
  | p :: fs => by
    have ih := arep_tDc row v fs
    simp only [tDc, List.map_cons, arep] at ih ⊢
    rw [ih]
    by_cases h : p.1 = row
    · rw [if_pos h, if_pos (inl_inj.mpr h)]
    · rw [if_neg h, if_neg fun e => h (inl_inj.mp e)]
theorem aput_tDc (fs : List (List Int × D)) (row : List Int) (v : D) : aput (tDc fs) (row.map Sum.inl) v = tDc (aput fs row v) := by
  unfold aput
  rw [aget_tDc, arep_tDc]
  split
  · rfl
  · simp [tDc]
theorem x_getR {P : Option D → Prop} {fs : List (List Int × D)} {row : List Int} (q : P (aget fs row)) : ∃ o, (Od.t (tDc fs)).get (tD row) = some o ∧ P o :=
  ⟨_, by simp only [Od.get, tD]; rw [kys_iL]; simp only [aget_tDc], q⟩
theorem x_getRs {P : D → Prop} {fs : List (List Int × D)} {row : List Int} {v : D} (h : aget fs row = some v) (q : P v) : ∃ v, (Od.t (tDc fs)).get (tD row) = some (some v) ∧ P v :=
  ⟨v, by simp only [Od.get, tD]; rw [kys_iL]; simp only [aget_tDc, h], q⟩
theorem x_putR {P : Od → Prop} {fs : List (List Int × D)} {row : List Int} {v : D} (h : fs.length < cap) (q : P (.t (tDc (aput fs row v)))) : ∃ o, (Od.t (tDc fs)).put (tD row) v = some o ∧ P o := by
  refine ⟨_, ?_, q⟩
  have hl : (Od.t (tDc fs)).len = fs.length := tDc_len fs
  simp only [Od.put, hl, h, if_true, tD]
  rw [kys_iL]
  simp only [aput_tDc]
theorem zip_fsT {α β : Type} : ∀ l : List (α × β), (l.map (·.1)).zip (l.map (·.2)) = l
  | [] => rfl
  | p :: l => by simp only [List.map_cons, List.zip_cons_cons, zip_fsT l]
/-- the value of such a dict -/
def tDd (fs : List (List Int × D)) : D := (Od.t (tDc fs)).d
theorem tDd_od (fs : List (List Int × D)) : D.od (tDd fs) = some (.t (tDc fs)) := by
  show some (Od.t (((tDc fs).map (·.1)).zip ((tDc fs).map (·.2)))) = _
  rw [zip_fsT]
theorem x_ixDR {P : D → Prop} {fs : List (List Int × D)} {row : List Int} {v : D} (h : aget fs row = some v) (q : P v) : ∃ z, oIx (tDd fs) (tD row) = some z ∧ P z := by
  refine ⟨v, ?_, q⟩
  show (match D.getD (tDd fs) (tD row) with | some (some v) => some v | _ => none) = _
  unfold D.getD
  rw [tDd_od]
  simp only [Od.get, tD]
  rw [kys_iL]
  simp only [aget_tDc, h]
theorem x_getDR {P : Option D → Prop} {fs : List (List Int × D)} {row : List Int} (q : P (aget fs row)) : ∃ o, D.getD (tDd fs) (tD row) = some o ∧ P o := by
  refine ⟨_, ?_, q⟩
  unfold D.getD
  rw [tDd_od]
  simp only [Od.get, tD]
  rw [kys_iL]
  simp only [aget_tDc]
theorem x_lenDR {P : D → Prop} {fs : List (List Int × D)} (q : P (.int fs.length)) : ∃ z, fLen [tDd fs] = some z ∧ P z := ⟨_, by
  show some (D.int (((tDc fs).map (·.1)).length : Nat)) = _
  rw [List.length_map, tDc_len], q⟩
theorem keys_tDd (fs : List (List Int × D)) : ∃ ks vs, tDd fs = .dT ks vs ∧ (ks.map fun k => D.tup (k.map kyD)) = fs.map fun p => tD p.1 := by
  refine ⟨_, _, rfl, ?_⟩
  simp only [tDc, List.map_map]
  refine List.map_congr_left fun p _ => ?_
  simp only [Function.comp, tD, iL, List.map_map]
  rfl
theorem w_iKeys {e : Env} {QL : List D → Env → Prop} {a : M D} (h : wp a e fun x e1 => ∃ fs, x = tDd fs ∧ QL (fs.map fun p => tD p.1) e1) : wp (iSeq a) e QL := by
  obtain ⟨x, e1, h1, fs, rfl, q⟩ := h
  obtain ⟨ks, vs, h2, h3⟩ := keys_tDd fs
  refine w_iSeqT ⟨_, e1, h1, ks, vs, h2, ?_⟩
  rw [h3]
  exact q
theorem nd_sub {α : Type} [BEq α] [LawfulBEq α] : ∀ {l m : List α}, l.Nodup → (∀ x ∈ l, x ∈ m) → l.length ≤ m.length
  | [], _, _, _ => Nat.zero_le _
  | a :: l, m, h, s => by
    have hn := List.nodup_cons.mp h
    have ha := s a (List.mem_cons_self ..)
    have ih := nd_sub (l := l) (m := m.erase a) hn.2 fun x hx => by
      have hx2 := s x (List.mem_cons_of_mem _ hx)
      have ne : x ≠ a := fun e => hn.1 (e ▸ hx)
      exact (List.mem_erase_of_ne ne).mpr hx2
    rw [List.length_erase_of_mem ha] at ih
    have : 0 < m.length := List.length_pos_of_mem ha
    rw [List.length_cons]
    omega
theorem Wl.rows {rows : List (List Int)} (h : rows.length ≤ cap) (hr : ∀ r ∈ rows, r.length ≤ cap) : Wl 2 (.lst (rows.map tD)) := by
  refine ⟨by rw [List.length_map]; exact h, fun x hx => ?_⟩
  obtain ⟨r, h1, rfl⟩ := List.mem_map.mp hx
  exact Wl.ints (hr r h1)
theorem x_neE {Q : D → Prop} {n : Nat} {xs : List D} (h : Wl n (.lst xs)) (hn : n ≤ 60) (q : Q (.bl (!xs.isEmpty))) : ∃ z, oNe (.lst xs) (.lst []) = some z ∧ Q z := by
  refine x_neD (h.okd hn) (by decide) ?_
  cases xs with
  | nil => exact q
  | cons a l => exact q
end DL
namespace DL
open PySem
theorem w_frzB {e : Env} {N B C : Env → Prop} {R : Rv → Env → Prop} {j : Nat} {a : Ms} {s : List D} (h0 : e[j]? = some (.ow s) ∨ e[j]? = some (.im (.lst s))) (h : ∃ e2, e.set j (.im (.lst s)) = e2 ∧ wpS a e2 N B C R) : wpS (sFrz j a) e N B C R := by
  rcases h0 with h0 | h0
  · exact w_frz h0 h
  · refine w_frzI h0 ?_
    obtain ⟨e2, h1, h2⟩ := h
    have : e.set j (.im (.lst s)) = e := by
      apply List.ext_getElem?
      intro i
      rw [List.getElem?_set]
      split
      · rename_i hij
        subst hij
        split
        · exact h0.symm
        · rename_i hlt
          rw [List.getElem?_eq_none (by omega)] at h0
          cases h0
      · rfl
    rw [this] at h1
    subst h1
    exact h2
end DL

/-! Words: a search by layers, in general. -/
namespace DL
open PySem
/-- the order of words: shorter ones first, then letter by letter -/
def llt : List Nat → List Nat → Prop
  | [], [] => False
  | [], _ :: _ => True
  | _ :: _, [] => False
  | a :: u, b :: v => a < b ∨ (a = b ∧ llt u v)
def slt (u v : List Nat) : Prop := u.length < v.length ∨ (u.length = v.length ∧ llt u v)
def sle (u v : List Nat) : Prop := u = v ∨ slt u v
theorem llt_irr : ∀ u : List Nat, ¬ llt u u
  | [], h => h
  | a :: u, h => by
    rcases h with h | ⟨_, h⟩
    · omega
    · exact llt_irr u h
theorem llt_trans : ∀ {u v w : List Nat}, llt u v → llt v w → llt u w
  | [], [], _, h, _ => h.elim
  | [], _ :: _, [], _, h => h.elim
  | [], _ :: _, _ :: _, _, _ => trivial
  | _ :: _, [], _, h, _ => h.elim
  | _ :: _, _ :: _, [], _, h => h.elim
  | a :: u, b :: v, c :: w, h1, h2 => by
    rcases h1 with h1 | ⟨rfl, h1⟩
    · rcases h2 with h2 | ⟨rfl, _⟩
      · exact .inl (by omega)
      · exact .inl h1
    · rcases h2 with h2 | ⟨rfl, h2⟩
      · exact .inl h2
      · exact .inr ⟨rfl, llt_trans h1 h2⟩
theorem llt_app : ∀ {u v : List Nat} (x y : List Nat), u.length = v.length → llt u v → llt (u ++ x) (v ++ y)
  | [], [], _, _, _, h => h.elim
  | [], _ :: _, _, _, h, _ => by simp at h
  | _ :: _, [], _, _, h, _ => by simp at h
  | a :: u, b :: v, x, y, hl, h => by
    rcases h with h | ⟨rfl, h⟩
    · exact .inl h
    · exact .inr ⟨rfl, llt_app x y (by simpa using hl) h⟩
theorem llt_last : ∀ (u : List Nat) {i j : Nat}, i < j → llt (u ++ [i]) (u ++ [j])
  | [], _, _, h => .inl h
  | _ :: u, _, _, h => .inr ⟨rfl, llt_last u h⟩
theorem slt_irr (u : List Nat) : ¬ slt u u := fun h => by
  rcases h with h | ⟨_, h⟩
  · omega
  · exact llt_irr u h
theorem slt_trans {u v w : List Nat} (h1 : slt u v) (h2 : slt v w) : slt u w := by
  rcases h1 with h1 | ⟨e1, h1⟩
  · rcases h2 with h2 | ⟨e2, _⟩
    · exact .inl (by omega)
    · exact .inl (by omega)
  · rcases h2 with h2 | ⟨e2, h2⟩
    · exact .inl (by omega)
    · exact .inr ⟨by omega, llt_trans h1 h2⟩
theorem sle_slt {u v w : List Nat} (h1 : sle u v) (h2 : slt v w) : slt u w := by
  rcases h1 with rfl | h1
  · exact h2
  · exact slt_trans h1 h2
theorem sle_trans {u v w : List Nat} (h1 : sle u v) (h2 : sle v w) : sle u w := by
  rcases h2 with rfl | h2
  · exact h1
  · exact .inr (sle_slt h1 h2)
theorem sle_anti {u v : List Nat} (h1 : sle u v) (h2 : sle v u) : u = v := by
  rcases h1 with h1 | h1
  · exact h1
  · exact absurd (sle_slt h2 h1) (slt_irr v)
theorem slt_app {u v : List Nat} (i j : Nat) (h : slt u v) : slt (u ++ [i]) (v ++ [j]) := by
  rcases h with h | ⟨e, h⟩
  · exact .inl (by simp; exact h)
  · exact .inr ⟨by simp [e], llt_app _ _ e h⟩
theorem sle_app {u v : List Nat} (i : Nat) (h : sle u v) : sle (u ++ [i]) (v ++ [i]) := by
  rcases h with rfl | h
  · exact .inl rfl
  · exact .inr (slt_app i i h)
theorem slt_last (u : List Nat) {i j : Nat} (h : i < j) : slt (u ++ [i]) (u ++ [j]) := .inr ⟨by simp, llt_last u h⟩
section
variable {σ : Type} [DecidableEq σ]
abbrev SW (σ : Type) := σ × List Nat
variable (act : σ → Nat → σ) (m : Nat)
def wd (x : SW σ × Nat) : List Nat := x.1.2 ++ [x.2]
def addx (base later : List (SW σ)) (x : SW σ × Nat) : List (SW σ) :=
  if act x.1.1 x.2 ∈ (base ++ later).map (·.1) then later else later ++ [(act x.1.1 x.2, wd x)]
def allx (L : List (SW σ)) : List (SW σ × Nat) := L.flatMap fun p => (List.range m).map fun i => (p, i)
def nxw (base L : List (SW σ)) : List (SW σ) := (allx m L).foldl (addx act base) []
variable {act} {m}
theorem fold_inv {base : List (SW σ)} : ∀ (X : List (SW σ × Nat)) (later : List (SW σ)), X.Pairwise (fun x y => slt (wd x) (wd y)) → ((base ++ later).map (·.2)).Pairwise slt → ((base ++ later).map (·.1)).Nodup →
    (∀ e ∈ base ++ later, ∀ x ∈ X, slt e.2 (wd x)) →
    ∃ new, X.foldl (addx act base) later = later ++ new ∧ ((base ++ (later ++ new)).map (·.2)).Pairwise slt ∧ ((base ++ (later ++ new)).map (·.1)).Nodup ∧ (∀ e ∈ new, ∃ x ∈ X, e = (act x.1.1 x.2, wd x)) ∧
      ∀ x ∈ X, ∃ e ∈ base ++ (later ++ new), e.1 = act x.1.1 x.2 ∧ sle e.2 (wd x)
  | [], later, _, h2, h3, _ => ⟨[], by simp, by simpa using h2, by simpa using h3, by simp, by simp⟩
  | x :: X, later, h1, h2, h3, h4 => by
    rw [List.pairwise_cons] at h1
    by_cases hx : act x.1.1 x.2 ∈ (base ++ later).map (·.1)
    · have e1 : addx act base later x = later := by unfold addx; rw [if_pos hx]
      obtain ⟨new, g1, g2, g3, g4, g5⟩ := fold_inv X later h1.2 h2 h3 fun e he y hy => h4 e he y (List.mem_cons_of_mem _ hy)
      refine ⟨new, by rw [List.foldl_cons, e1]; exact g1, g2, g3, fun e he => ?_, fun y hy => ?_⟩
      · obtain ⟨y, hy, e⟩ := g4 e he
        exact ⟨y, List.mem_cons_of_mem _ hy, e⟩
      · rcases List.mem_cons.mp hy with rfl | hy
        · obtain ⟨e, he, e2⟩ := List.mem_map.mp hx
          refine ⟨e, ?_, e2, .inr (h4 e he _ (List.mem_cons_self ..))⟩
          rw [← List.append_assoc]
          exact List.mem_append.mpr (.inl he)
        · exact g5 y hy
    · have e1 : addx act base later x = later ++ [(act x.1.1 x.2, wd x)] := by unfold addx; rw [if_neg hx]
      have e2 : base ++ (later ++ [(act x.1.1 x.2, wd x)]) = (base ++ later) ++ [(act x.1.1 x.2, wd x)] := by simp
      obtain ⟨new, g1, g2, g3, g4, g5⟩ := fold_inv X (later ++ [(act x.1.1 x.2, wd x)]) h1.2 (by
        rw [e2, List.map_append]
        refine List.pairwise_append.mpr ⟨h2, by simp, fun a ha b hb => ?_⟩
        simp only [List.map_cons, List.map_nil, List.mem_cons, List.not_mem_nil, or_false] at hb
        subst hb
        obtain ⟨e, he, rfl⟩ := List.mem_map.mp ha
        exact h4 e he x (List.mem_cons_self ..)) (by
        rw [e2, List.map_append]
        refine List.nodup_append.mpr ⟨h3, by simp, fun a ha b hb e => ?_⟩
        simp only [List.map_cons, List.map_nil, List.mem_cons, List.not_mem_nil, or_false] at hb
        subst hb
        subst e
        exact hx ha) fun e he y hy => by
        rw [e2] at he
        rcases List.mem_append.mp he with he | he
        · exact h4 e he y (List.mem_cons_of_mem _ hy)
        · simp only [List.mem_cons, List.not_mem_nil, or_false] at he
          rw [he]
          exact h1.1 y hy
      have ea : later ++ [(act x.1.1 x.2, wd x)] ++ new = later ++ ((act x.1.1 x.2, wd x) :: new) := by simp
      rw [ea] at g1 g2 g3 g5
      refine ⟨(act x.1.1 x.2, wd x) :: new, by rw [List.foldl_cons, e1]; exact g1, g2, g3, fun e he => ?_, fun y hy => ?_⟩
      · rcases List.mem_cons.mp he with rfl | he
        · exact ⟨x, List.mem_cons_self .., rfl⟩
        · obtain ⟨y, hy, e⟩ := g4 e he
          exact ⟨y, List.mem_cons_of_mem _ hy, e⟩
      · rcases List.mem_cons.mp hy with rfl | hy
        · exact ⟨_, List.mem_append.mpr (.inr (List.mem_append.mpr (.inr (List.mem_cons_self ..)))), rfl, .inl rfl⟩
        · exact g5 y hy
theorem allx_sorted {L : List (SW σ)} (h : (L.map (·.2)).Pairwise slt) : (allx m L).Pairwise (fun x y => slt (wd x) (wd y)) := by
  induction L with
  | nil => exact List.Pairwise.nil
  | cons p L ih =>
    rw [List.map_cons, List.pairwise_cons] at h
    show ((List.range m).map (fun i => (p, i)) ++ allx m L).Pairwise _
    refine List.pairwise_append.mpr ⟨List.pairwise_map.mpr (List.pairwise_lt_range.imp fun hab => slt_last _ hab), ih h.2, fun x hx y hy => ?_⟩
    obtain ⟨i, _, rfl⟩ := List.mem_map.mp hx
    obtain ⟨q, hq, hy2⟩ := List.mem_flatMap.mp hy
    obtain ⟨j, _, rfl⟩ := List.mem_map.mp hy2
    exact slt_app i j (h.1 q.2 (List.mem_map.mpr ⟨q, hq, rfl⟩))
theorem mem_allx {L : List (SW σ)} {x : SW σ × Nat} : x ∈ allx m L ↔ x.1 ∈ L ∧ x.2 < m := by
  unfold allx
  simp only [List.mem_flatMap, List.mem_map, List.mem_range]
  constructor
  · rintro ⟨p, hp, i, hi, rfl⟩; exact ⟨hp, hi⟩
  · rintro ⟨h1, h2⟩; exact ⟨x.1, h1, x.2, h2, rfl⟩
variable (act m) (s0 : σ)
/-- the state behind a word -/
def runW (w : List Nat) : σ := w.foldl act s0
/-- what is found before layer k, and layer k -/
def lay : Nat → List (SW σ) × List (SW σ)
  | 0 => ([], [(s0, [])])
  | k + 1 => ((lay k).1 ++ (lay k).2, nxw act m ((lay k).1 ++ (lay k).2) (lay k).2)
structure Bf (k : Nat) (F L : List (SW σ)) : Prop where
  srt : ((F ++ L).map (·.2)).Pairwise slt
  nd : ((F ++ L).map (·.1)).Nodup
  run : ∀ p ∈ F ++ L, p.1 = runW act s0 p.2 ∧ ∀ i ∈ p.2, i < m
  lenL : ∀ p ∈ L, p.2.length = k
  lenF : ∀ p ∈ F, p.2.length < k
  cov : ∀ p ∈ F, ∀ i, i < m → ∃ q ∈ F ++ L, q.1 = act p.1 i ∧ sle q.2 (p.2 ++ [i])
  st : (s0, []) ∈ F ++ L
  pre : ∀ p ∈ F ++ L, p.2 = [] ∨ ∃ q ∈ F ++ L, ∃ i, p.2 = q.2 ++ [i]
variable {act m s0}
theorem Bf.next {k : Nat} {F L : List (SW σ)} (h : Bf act m s0 k F L) : Bf act m s0 (k + 1) (F ++ L) (nxw act m (F ++ L) L) := by
  have hL : (L.map (·.2)).Pairwise slt := by
    have := h.srt
    rw [List.map_append] at this
    exact (List.pairwise_append.mp this).2.1
  obtain ⟨new, g1, g2, g3, g4, g5⟩ := fold_inv (act := act) (base := F ++ L) (allx m L) [] (allx_sorted hL) (by simpa using h.srt) (by simpa using h.nd) fun e he x hx => by
    rw [List.append_nil] at he
    have hx := mem_allx.mp hx
    have l1 := h.lenL _ hx.1
    refine .inl ?_
    have : (wd x).length = k + 1 := by unfold wd; simp [l1]
    rw [this]
    rcases List.mem_append.mp he with he | he
    · have := h.lenF e he; omega
    · have := h.lenL e he; omega
  have en : nxw act m (F ++ L) L = new := by
    unfold nxw; rw [g1]; simp
  rw [List.nil_append] at g2 g3 g5
  rw [en]
  have hnew : ∀ e ∈ new, ∃ q ∈ L, ∃ i, i < m ∧ e = (act q.1 i, q.2 ++ [i]) := fun e he => by
    obtain ⟨x, hx, rfl⟩ := g4 e he
    have hx := mem_allx.mp hx
    exact ⟨x.1, hx.1, x.2, hx.2, rfl⟩
  refine ⟨g2, g3, fun p hp => ?_, fun p hp => ?_, fun p hp => ?_, fun p hp i hi => ?_, List.mem_append.mpr (.inl h.st), fun p hp => ?_⟩
  · rcases List.mem_append.mp hp with hp | hp
    · exact h.run p hp
    · obtain ⟨q, hq, i, hi, rfl⟩ := hnew p hp
      obtain ⟨r1, r2⟩ := h.run q (List.mem_append.mpr (.inr hq))
      refine ⟨?_, fun j hj => ?_⟩
      · show act q.1 i = (q.2 ++ [i]).foldl act s0
        rw [List.foldl_append, List.foldl_cons, List.foldl_nil, r1]
        rfl
      · rcases List.mem_append.mp hj with hj | hj
        · exact r2 j hj
        · simp only [List.mem_cons, List.not_mem_nil, or_false] at hj
          rw [hj]; exact hi
  · obtain ⟨q, hq, i, hi, rfl⟩ := hnew p hp
    simp [h.lenL q hq]
  · rcases List.mem_append.mp hp with hp | hp
    · exact Nat.lt_succ_of_lt (h.lenF p hp)
    · rw [h.lenL p hp]; exact Nat.lt_succ_self k
  · rcases List.mem_append.mp hp with hp | hp
    · obtain ⟨q, hq, e1, e2⟩ := h.cov p hp i hi
      exact ⟨q, List.mem_append.mpr (.inl hq), e1, e2⟩
    · obtain ⟨e, he, e1, e2⟩ := g5 (p, i) (mem_allx.mpr ⟨hp, hi⟩)
      exact ⟨e, he, e1, e2⟩
  · rcases List.mem_append.mp hp with hp | hp
    · rcases h.pre p hp with e | ⟨q, hq, i, e⟩
      · exact .inl e
      · exact .inr ⟨q, List.mem_append.mpr (.inl hq), i, e⟩
    · obtain ⟨q, hq, i, hi, rfl⟩ := hnew p hp
      exact .inr ⟨q, List.mem_append.mpr (.inl (List.mem_append.mpr (.inr hq))), i, rfl⟩
theorem Bf.lay (k : Nat) : Bf act m s0 k (lay act m s0 k).1 (lay act m s0 k).2 := by
  induction k with
  | zero =>
    refine ⟨by simp [DL.lay], by simp [DL.lay], fun p hp => ?_, fun p hp => ?_, fun p hp => ?_, fun p hp => ?_, by simp [DL.lay], fun p hp => ?_⟩
    all_goals simp only [DL.lay, List.nil_append, List.mem_cons, List.not_mem_nil, or_false] at hp
    · subst hp; exact ⟨rfl, fun i hi => nomatch hi⟩
    · subst hp; rfl
    · subst hp; exact .inl rfl
  | succ k ih => exact ih.next
/-- all beginnings of a found word are found -/
theorem Bf.beg {k : Nat} {F L : List (SW σ)} (h : Bf act m s0 k F L) : ∀ (n : Nat) (p : SW σ), p ∈ F ++ L → p.2.length = n → ∀ j, j ≤ n → (runW act s0 (p.2.take j), p.2.take j) ∈ F ++ L := by
  intro n
  induction n with
  | zero =>
    intro p hp hl j hj
    have e : p.2 = [] := List.length_eq_zero_iff.mp hl
    rw [e, List.take_nil]
    exact h.st
  | succ n ih =>
    intro p hp hl j hj
    rcases Nat.lt_or_ge n j with hj2 | hj2
    · have : j = n + 1 := by omega
      subst this
      rw [← hl, List.take_length, ← (h.run p hp).1]
      exact hp
    · rcases h.pre p hp with e | ⟨q, hq, i, e⟩
      · rw [e] at hl; simp at hl
      · have hql : q.2.length = n := by rw [e] at hl; simpa using hl
        have := ih q hq hql j hj2
        rw [e, List.take_append_of_le_length (by omega)]
        exact this
theorem nd_key {l : List (SW σ)} (h : (l.map (·.1)).Nodup) {p q : SW σ} (hp : p ∈ l) (hq : q ∈ l) (e : p.1 = q.1) : p = q := by
  induction l with
  | nil => cases hp
  | cons a l ih =>
    rw [List.map_cons, List.nodup_cons] at h
    rcases List.mem_cons.mp hp with h1 | h1
    · rcases List.mem_cons.mp hq with h2 | h2
      · rw [h1, h2]
      · exact absurd (List.mem_map.mpr ⟨q, h2, by rw [← e, h1]⟩) h.1
    · rcases List.mem_cons.mp hq with h2 | h2
      · exact absurd (List.mem_map.mpr ⟨p, h1, by rw [e, h2]⟩) h.1
      · exact ih h.2 h1 h2
/-- the states on the way to a found word are all different -/
theorem Bf.apart {k : Nat} {F L : List (SW σ)} (h : Bf act m s0 k F L) {p : SW σ} (hp : p ∈ F ++ L) {i j : Nat} (hij : i < j) (hj : j ≤ p.2.length) : runW act s0 (p.2.take i) ≠ runW act s0 (p.2.take j) := fun e => by
  have h1 := h.beg _ p hp rfl i (by omega)
  have h2 := h.beg _ p hp rfl j hj
  have := nd_key h.nd h1 h2 e
  have e2 := congrArg (fun z => z.2.length) this
  simp only [List.length_take] at e2
  omega
/-- no way is longer than B -/
def Short (B : Nat) : Prop := ∀ w : List Nat, (∀ i ∈ w, i < m) → (∀ i j, i < j → j ≤ w.length → runW act s0 (w.take i) ≠ runW act s0 (w.take j)) → w.length ≤ B
theorem Bf.short {k B : Nat} {F L : List (SW σ)} (h : Bf act m s0 k F L) (hB : Short (act := act) (m := m) (s0 := s0) B) {p : SW σ} (hp : p ∈ F ++ L) : p.2.length ≤ B :=
  hB p.2 (h.run p hp).2 fun i j hij hj => h.apart hp hij hj
theorem lay_end {k B : Nat} (hB : Short (act := act) (m := m) (s0 := s0) B) (hk : B < k) : (lay act m s0 k).2 = [] := by
  have h := Bf.lay (act := act) (m := m) (s0 := s0) k
  cases e : (lay act m s0 k).2 with
  | nil => rfl
  | cons p r =>
    rw [e] at h
    have h1 := h.lenL p (List.mem_cons_self ..)
    have h2 := h.short hB (p := p) (by simp)
    omega
theorem lay_le {k B : Nat} (hB : Short (act := act) (m := m) (s0 := s0) B) (h : (lay act m s0 k).2 ≠ []) : k ≤ B := by
  rcases Nat.lt_or_ge B k with z | z
  · exact absurd (lay_end hB z) h
  · exact z
theorem lay_stop {k : Nat} (h : (lay act m s0 k).2 = []) : ∀ n, (lay act m s0 (k + n)).2 = [] ∧ (lay act m s0 (k + n)).1 = (lay act m s0 k).1
  | 0 => ⟨h, rfl⟩
  | n + 1 => by
    obtain ⟨h1, h2⟩ := lay_stop h n
    have e : k + (n + 1) = (k + n) + 1 := rfl
    rw [e]
    simp only [lay, h1, h2, List.append_nil, and_true]
    rfl
/-- the words -/
structure Wds (F : List (SW σ)) : Prop where
  srt : (F.map (·.2)).Pairwise slt
  nd : (F.map (·.1)).Nodup
  run : ∀ p ∈ F, p.1 = runW act s0 p.2 ∧ ∀ i ∈ p.2, i < m
  all : ∀ u : List Nat, (∀ i ∈ u, i < m) → ∃ q ∈ F, q.1 = runW act s0 u ∧ sle q.2 u
theorem Bf.wds {k : Nat} {F : List (SW σ)} (h : Bf act m s0 k F []) : Wds (act := act) (m := m) (s0 := s0) F := by
  have e : F ++ [] = F := List.append_nil F
  refine ⟨by have := h.srt; rwa [e] at this, by have := h.nd; rwa [e] at this, fun p hp => h.run p (by rw [e]; exact hp), ?_⟩
  have key : ∀ (n : Nat) (u : List Nat), u.length = n → (∀ i ∈ u, i < m) → ∃ q ∈ F, q.1 = runW act s0 u ∧ sle q.2 u := by
    intro n
    induction n with
    | zero =>
      intro u hu _
      have : u = [] := List.length_eq_zero_iff.mp hu
      subst this
      have := h.st
      rw [e] at this
      exact ⟨_, this, rfl, .inl rfl⟩
    | succ n ih =>
      intro u hu hm
      have hne : u ≠ [] := by intro z; rw [z] at hu; simp at hu
      obtain ⟨u', i, rfl⟩ : ∃ u' i, u = u' ++ [i] := ⟨u.dropLast, u.getLast hne, (List.dropLast_concat_getLast hne).symm⟩
      obtain ⟨q, hq, q1, q2⟩ := ih u' (by simpa using hu) fun j hj => hm j (List.mem_append.mpr (.inl hj))
      obtain ⟨r, hr, r1, r2⟩ := h.cov q hq i (hm i (by simp))
      rw [e] at hr
      refine ⟨r, hr, ?_, sle_trans r2 (sle_app i q2)⟩
      rw [r1, q1]
      show act (u'.foldl act s0) i = (u' ++ [i]).foldl act s0
      rw [List.foldl_append]
      rfl
  exact fun u hu => key u.length u rfl hu
end
/-- the first word with a property is the least one -/
theorem first_least {σ : Type} [DecidableEq σ] {act : σ → Nat → σ} {m : Nat} {s0 : σ} {F : List (SW σ)} (W : Wds (act := act) (m := m) (s0 := s0) F) (P : σ → Bool) :
    (∀ p r, F.filter (fun p => P p.1) = p :: r → P (runW act s0 p.2) = true ∧ (∀ i ∈ p.2, i < m) ∧ ∀ u : List Nat, (∀ i ∈ u, i < m) → P (runW act s0 u) = true → sle p.2 u) ∧
    (F.filter (fun p => P p.1) = [] → ∀ u : List Nat, (∀ i ∈ u, i < m) → P (runW act s0 u) = false) := by
  constructor
  · intro p r e
    have hp : p ∈ F.filter (fun p => P p.1) := by rw [e]; exact List.mem_cons_self ..
    obtain ⟨hp1, hp2⟩ := List.mem_filter.mp hp
    obtain ⟨r1, r2⟩ := W.run p hp1
    refine ⟨by rw [← r1]; exact hp2, r2, fun u hu hPu => ?_⟩
    obtain ⟨q, hq, q1, q2⟩ := W.all u hu
    have hqf : q ∈ F.filter (fun p => P p.1) := List.mem_filter.mpr ⟨hq, by rw [q1]; exact hPu⟩
    rw [e] at hqf
    rcases List.mem_cons.mp hqf with rfl | hqr
    · exact q2
    · have hs : ((F.filter (fun p => P p.1)).map (·.2)).Pairwise slt := W.srt.sublist (List.Sublist.map _ List.filter_sublist)
      rw [e, List.map_cons, List.pairwise_cons] at hs
      exact sle_trans (.inr (hs.1 q.2 (List.mem_map.mpr ⟨q, hqr, rfl⟩))) q2
  · intro e u hu
    cases hP : P (runW act s0 u) with
    | false => rfl
    | true =>
      obtain ⟨q, hq, q1, q2⟩ := W.all u hu
      have hqf : q ∈ F.filter (fun p => P p.1) := List.mem_filter.mpr ⟨hq, by rw [q1]; exact hP⟩
      rw [e] at hqf
      cases hqf
end DL

/-! Words of effects. -/
namespace DL
open PySem
def wAct (ss : List (List Int)) (row : List Int) (i : Nat) : List Int := row.map (rfn (ss[i]?.getD []))
def rowI (c : Int) : List Int := mapL c fun x => x
def wfn (ss : List (List Int)) (w : List Nat) (x : Int) : Int := w.foldl (fun y i => rfn (ss[i]?.getD []) y) x
theorem wfn_app (ss : List (List Int)) (u v : List Nat) (x : Int) : wfn ss (u ++ v) x = wfn ss v (wfn ss u x) := by
  unfold wfn; rw [List.foldl_append]
theorem run_wfn (ss : List (List Int)) : ∀ (w : List Nat) (row : List Int), runW (wAct ss) row w = row.map (wfn ss w)
  | [], row => by
    show row = row.map fun x => x
    rw [List.map_id']
  | i :: w, row => by
    show runW (wAct ss) (wAct ss row i) w = _
    rw [run_wfn ss w, wAct, List.map_map]
    rfl
/-- some effects -/
def Sm (c : Int) (ss : List (List Int)) : Prop := ∀ r ∈ ss, r ∈ mapsAll c
theorem Sm.eg {c : Int} {ss : List (List Int)} (h : Sm c ss) (hc : 0 ≤ c) {i : Nat} (hi : i < ss.length) : Eg c (rfn (ss[i]?.getD [])) := by
  rw [List.getElem?_eq_getElem hi]
  exact (maps_fn hc (h _ (List.getElem_mem hi))).1
theorem Sm.wfn {c : Int} {ss : List (List Int)} (h : Sm c ss) (hc : 0 ≤ c) : ∀ {w : List Nat}, (∀ i ∈ w, i < ss.length) → Eg c (wfn ss w) := by
  intro w
  induction w with
  | nil => intro _; exact Eg.id c
  | cons i w ih =>
    intro hw
    have h1 := h.eg hc (hw i (List.mem_cons_self ..))
    have h2 := ih fun j hj => hw j (List.mem_cons_of_mem _ hj)
    exact h1.comp h2
theorem Sm.act {c : Int} {ss : List (List Int)} (h : Sm c ss) (hc : 0 ≤ c) {row : List Int} (hr : row ∈ mapsAll c) {i : Nat} (hi : i < ss.length) : wAct ss row i = mapL c (fun x => rfn (ss[i]?.getD []) (rfn row x)) ∧ wAct ss row i ∈ mapsAll c := by
  have e : wAct ss row i = mapL c (fun x => rfn (ss[i]?.getD []) (rfn row x)) := by
    unfold wAct
    conv => lhs; rw [← row_back hc hr]
    rw [mapL, mapL, List.map_map]
    rfl
  refine ⟨e, ?_⟩
  rw [e]
  exact maps_all hc ((maps_fn hc hr).1.comp (h.eg hc hi))
def pairsU (c : Int) : List (List Int) := ((upto (c + 1).toNat).flatMap fun a => (upto (c + 1).toNat).map fun b => [a, b]).filter fun r => decide (rfn r 0 ≤ rfn r 1)
theorem pairs_few {c : Int} (h1 : 1 ≤ c) (h2 : c ≤ 8) : (pairsU c).length ≤ 45 := by
  have : c = 1 ∨ c = 2 ∨ c = 3 ∨ c = 4 ∨ c = 5 ∨ c = 6 ∨ c = 7 ∨ c = 8 := by omega
  rcases this with rfl | rfl | rfl | rfl | rfl | rfl | rfl | rfl <;> decide +kernel
theorem Eg.mono' {c : Int} {g : Int → Int} (hg : Eg c g) : ∀ (n : Nat) (x : Int), 0 ≤ x → x + n ≤ c → g x ≤ g (x + n)
  | 0, x, _, _ => by simp
  | n + 1, x, h0, h1 => by
    have ih := Eg.mono' hg n x h0 (by omega)
    have := hg.stp (x + n) (by omega) (by omega)
    rw [show x + ((n + 1 : Nat) : Int) = x + (n : Int) + 1 by omega]
    omega
theorem pair_in {c : Int} {g : Int → Int} (hc : 0 ≤ c) (hg : Eg c g) : [g 0, g c] ∈ pairsU c := by
  have h0 := hg.inr 0 (by omega) hc
  have h1 := hg.inr c hc (by omega)
  have h2 := hg.mono' c.toNat 0 (by omega) (by omega)
  rw [show (0 : Int) + (c.toNat : Int) = c by omega] at h2
  refine List.mem_filter.mpr ⟨List.mem_flatMap.mpr ⟨g 0, mem_upto_iff.mpr ⟨h0.1, by omega⟩, List.mem_map.mpr ⟨g c, mem_upto_iff.mpr ⟨h1.1, by omega⟩, rfl⟩⟩, ?_⟩
  exact decide_eq_true h2
theorem nd_range {α : Type} (f : Nat → α) (n : Nat) (h : ∀ i j, i < j → j < n → f i ≠ f j) : ((List.range n).map f).Nodup := by
  induction n with
  | zero => simp
  | succ n ih =>
    rw [List.range_succ, List.map_append]
    refine List.nodup_append.mpr ⟨ih fun i j a b => h i j a (by omega), by simp, fun a ha b hb e => ?_⟩
    simp only [List.map_cons, List.map_nil, List.mem_cons, List.not_mem_nil, or_false] at hb
    obtain ⟨i, hi, rfl⟩ := List.mem_map.mp ha
    rw [hb] at e
    exact h i n (List.mem_range.mp hi) (by omega) e
theorem few_pairs {c : Int} (h1 : 1 ≤ c) (h2 : c ≤ 8) {ss : List (List Int)} (hs : Sm c ss) {w : List Nat} (hw : ∀ i ∈ w, i < ss.length) (hd : ∀ i j, i < j → j ≤ w.length → [wfn ss (w.take i) 0, wfn ss (w.take i) c] ≠ [wfn ss (w.take j) 0, wfn ss (w.take j) c]) : w.length ≤ 44 := by
  have hn := nd_range (fun j => [wfn ss (w.take j) 0, wfn ss (w.take j) c]) (w.length + 1) fun i j a b => hd i j a (by omega)
  have := nd_sub (m := pairsU c) hn fun x hx => by
    obtain ⟨j, _, rfl⟩ := List.mem_map.mp hx
    exact pair_in (by omega) (hs.wfn (by omega) fun i hi => hw i (List.mem_of_mem_take hi))
  rw [List.length_map, List.length_range] at this
  have := pairs_few h1 h2
  omega
/-- the way of the ends -/
theorem short_ends {c : Int} (h1 : 1 ≤ c) (h2 : c ≤ 8) {ss : List (List Int)} (hs : Sm c ss) : Short (act := wAct ss) (m := ss.length) (s0 := [0, c]) 44 := by
  intro w hw hd
  refine few_pairs h1 h2 hs hw fun i j a b e => hd i j a b ?_
  rw [run_wfn, run_wfn]
  simp only [List.map_cons, List.map_nil]
  exact e
/-- the way of whole effects -/
theorem short_rows {c : Int} (h1 : 1 ≤ c) (h2 : c ≤ 8) {ss : List (List Int)} (hs : Sm c ss) : Short (act := wAct ss) (m := ss.length) (s0 := rowI c) 44 := by
  intro w hw hd
  refine few_pairs h1 h2 hs hw fun i j a b e => hd i j a b ?_
  have e0 : wfn ss (w.take i) 0 = wfn ss (w.take j) 0 := by injection e
  have e1 : wfn ss (w.take i) c = wfn ss (w.take j) c := by injection e with _ e; injection e
  have hsplit : w.take j = w.take i ++ (w.take j).drop i := by
    have := List.take_append_drop i (w.take j)
    rw [List.take_take, show min i j = i by omega] at this
    exact this.symm
  have hi := hs.wfn (c := c) (by omega) (w := w.take i) fun k hk => hw k (List.mem_of_mem_take hk)
  have hu := hs.wfn (c := c) (by omega) (w := (w.take j).drop i) fun k hk => hw k (List.mem_of_mem_take (List.mem_of_mem_drop hk))
  rw [run_wfn, run_wfn]
  refine List.map_congr_left fun x hx => ?_
  obtain ⟨y, hy, rfl⟩ := List.mem_map.mp hx
  have hy := mem_upto hy
  have q0 : wfn ss ((w.take j).drop i) (wfn ss (w.take i) 0) = wfn ss (w.take i) 0 := by rw [← wfn_app, ← hsplit, e0]
  have q1 : wfn ss ((w.take j).drop i) (wfn ss (w.take i) c) = wfn ss (w.take i) c := by rw [← wfn_app, ← hsplit, e1]
  have r0 := hi.inr 0 (by omega) (by omega)
  have r1 := hi.inr c (by omega) (by omega)
  have m0 := hi.mono' y.toNat 0 (by omega) (by omega)
  rw [show (0 : Int) + (y.toNat : Int) = y by omega] at m0
  have m1 := hi.mono' (c - y).toNat y (by omega) (by omega)
  rw [show y + ((c - y).toNat : Int) = c by omega] at m1
  show wfn ss (w.take i) y = wfn ss (w.take j) y
  have := hu.fix_mid (i := wfn ss (w.take i) 0) (j := wfn ss (w.take i) y) (k := wfn ss (w.take i) c) r0.1 m0 m1 r1.2 q0 q1
  rw [hsplit, wfn_app, this]
end DL

/-! Words in dicts. -/
namespace DL
open PySem
def wordD (w : List Nat) : D := .tup (iL (w.map fun i : Nat => (i : Int)))
def fDs (f : List Nat → D) (F : List (SW (List Int))) : List (List Int × D) := F.map fun p => (p.1, f p.2)
theorem fDs_keys (f : List Nat → D) (F : List (SW (List Int))) : (fDs f F).map (·.1) = F.map (·.1) := by simp [fDs]
theorem fDs_len (f : List Nat → D) (F : List (SW (List Int))) : (fDs f F).length = F.length := by simp [fDs]
theorem aget_fDs (f : List Nat → D) (row : List Int) : ∀ F : List (SW (List Int)), aget (fDs f F) row = (aget F row).map f
  | [] => rfl
  | p :: F => by
    have ih := aget_fDs f row F
    simp only [fDs, List.map_cons, aget] at ih ⊢
    rw [ih]
    split <;> rfl
theorem fDs_put {f : List Nat → D} {F : List (SW (List Int))} {row : List Int} {w : List Nat} (h : ¬ row ∈ F.map (·.1)) : aput (fDs f F) row (f w) = fDs f (F ++ [(row, w)]) := by
  rw [aput_new (by rw [fDs_keys]; exact h)]
  simp [fDs]
theorem fDs_none {f : List Nat → D} {F : List (SW (List Int))} {row : List Int} (h : aget (fDs f F) row = none) : ¬ row ∈ F.map (·.1) := fun hm => by
  have := (aget_mem (l := fDs f F) row).mpr (by rw [fDs_keys]; exact hm)
  rw [h] at this
  cases this
theorem fDs_some {f : List Nat → D} {F : List (SW (List Int))} {row : List Int} {v : D} (h : aget (fDs f F) row = some v) : row ∈ F.map (·.1) := by
  have := (aget_mem (l := fDs f F) row).mp (by rw [h]; rfl)
  rwa [fDs_keys] at this
theorem fDs_get {f : List Nat → D} {F : List (SW (List Int))} (h : (F.map (·.1)).Nodup) {p : SW (List Int)} (hp : p ∈ F) : aget (fDs f F) p.1 = some (f p.2) := by
  rw [aget_fDs, aget_of_mem h hp]
  rfl
theorem merge_fDs {f : List Nat → D} : ∀ (L F : List (SW (List Int))), ((F ++ L).map (·.1)).Nodup → amergeT (tDc (fDs f F)) (tDc (fDs f L)) = tDc (fDs f (F ++ L))
  | [], F, _ => by rw [List.append_nil]; rfl
  | p :: L, F, h => by
    have e : F ++ p :: L = (F ++ [p]) ++ L := by simp
    have hp : ¬ p.1 ∈ F.map (·.1) := fun hm => by
      rw [List.map_append] at h
      exact (List.nodup_append.mp h).2.2 p.1 hm p.1 (by simp) rfl
    show amergeT (aput (tDc (fDs f F)) (p.1.map Sum.inl) (f p.2)) (tDc (fDs f L)) = _
    rw [aput_tDc, fDs_put hp, merge_fDs L (F ++ [p]) (by rw [← e]; exact h), e]
theorem w_empT {e : Env} {Q : D → Env → Prop} {ne : Bool} {a : M D} (h : wp a e fun x e1 => ∃ fs, x = tDd fs ∧ Q (.bl (ne != fs.isEmpty)) e1) : wp (mEmpT ne a) e Q := by
  obtain ⟨x, e1, h1, fs, rfl, q⟩ := h
  refine ⟨_, e1, ?_, q⟩
  simp only [mEmpT, h1]
  show (match some (D.dT ((tDc fs).map (·.1)) ((tDc fs).map (·.2)), e1) with | some (.dT ks _, e1) => some (D.bl (ne != ks.isEmpty), e1) | _ => none) = _
  cases fs <;> rfl
theorem w_odUpd {e : Env} {N B C : Env → Prop} {R : Rv → Env → Prop} {i : Nat} {a : M D} {kvs0 : List (List Ky × D)} (h0 : e[i]? = some (.od (.t kvs0)))
    (h : wp a e fun d e1 => ∃ kvs more, e1[i]? = some (.od (.t kvs)) ∧ D.od d = some (.t more) ∧ (kvs ≠ [] ∨ more.length ≤ 1) ∧ kvs.length + more.length ≤ cap ∧ ∃ e2, e1.set i (.od (.t (amergeT kvs more))) = e2 ∧ N e2) : wpS (sODUpd i a) e N B C R := by
  obtain ⟨d, e1, h1, kvs, more, h2, h3, h4, h5, e2, h6, q⟩ := h
  refine ⟨.nx, e2, ?_, q⟩
  simp only [sODUpd, h0, h1, h2, h3]
  rw [if_pos, h6]
  rw [Bool.and_eq_true, Bool.or_eq_true, decide_eq_true_eq, decide_eq_true_eq]
  refine ⟨?_, h5⟩
  rcases h4 with h4 | h4
  · left
    cases kvs with
    | nil => exact absurd rfl h4
    | cons _ _ => rfl
  · exact .inr h4
theorem Bf.part {σ : Type} [DecidableEq σ] {act : σ → Nat → σ} {m : Nat} {s0 : σ} {k : Nat} {F L : List (SW σ)} (h : Bf act m s0 k F L) {X Y : List (SW σ × Nat)} (hX : X ++ Y = allx m L) :
    ((F ++ L ++ X.foldl (addx act (F ++ L)) []).map (·.1)).Nodup ∧ ∀ e ∈ X.foldl (addx act (F ++ L)) [], ∃ x ∈ X, e = (act x.1.1 x.2, wd x) := by
  have hL : (L.map (·.2)).Pairwise slt := by
    have := h.srt
    rw [List.map_append] at this
    exact (List.pairwise_append.mp this).2.1
  have hs := allx_sorted (m := m) hL
  rw [← hX] at hs
  obtain ⟨new, g1, g2, g3, g4, g5⟩ := fold_inv (act := act) (base := F ++ L) X [] (List.pairwise_append.mp hs).1 (by simpa using h.srt) (by simpa using h.nd) fun e he x hx => by
    rw [List.append_nil] at he
    have hx := mem_allx.mp (show x ∈ allx m L by rw [← hX]; exact List.mem_append.mpr (.inl hx))
    have l1 := h.lenL _ hx.1
    refine .inl ?_
    have : (wd x).length = k + 1 := by unfold wd; simp [l1]
    rw [this]
    rcases List.mem_append.mp he with he | he
    · have := h.lenF e he; omega
    · have := h.lenL e he; omega
  rw [List.nil_append] at g1 g3
  rw [g1]
  exact ⟨g3, g4⟩
theorem allx_cut {σ : Type} {m : Nat} {p r : List (SW σ)} {q : SW σ} {j : Nat} (hj : j < m) : ∃ Y, ((allx m p ++ (List.range j).map fun i => (q, i)) ++ [(q, j)]) ++ Y = allx m (p ++ q :: r) := by
  refine ⟨((List.range' (j + 1) (m - (j + 1))).map fun i => (q, i)) ++ allx m r, ?_⟩
  have e : List.range m = (List.range j ++ [j]) ++ List.range' (j + 1) (m - (j + 1)) := by
    have e0 : List.range' 0 (j + 1) ++ List.range' (0 + (j + 1)) (m - (j + 1)) = List.range' 0 ((j + 1) + (m - (j + 1))) := List.range'_append_1
    rw [Nat.zero_add, show j + 1 + (m - (j + 1)) = m by omega] at e0
    rw [← List.range_succ, List.range_eq_range', List.range_eq_range']
    exact e0.symm
  have e2 : allx m (p ++ q :: r) = allx m p ++ ((List.range m).map (fun i => (q, i)) ++ allx m r) := by
    unfold allx; simp
  rw [e2, e]
  simp
theorem rows_in {c : Int} (hc : 0 ≤ c) {ss : List (List Int)} (hs : Sm c ss) {s0 : List Int} {w : List Nat} (h0 : s0 ∈ mapsAll c) (hw : ∀ i ∈ w, i < ss.length) : runW (wAct ss) s0 w ∈ mapsAll c := by
  rw [run_wfn]
  have e : s0.map (wfn ss w) = mapL c (fun x => wfn ss w (rfn s0 x)) := by
    conv => lhs; rw [← row_back hc h0]
    rw [mapL, mapL, List.map_map]
    rfl
  rw [e]
  exact maps_all hc ((maps_fn hc h0).1.comp (hs.wfn hc hw))
theorem rowI_in {c : Int} (hc : 0 ≤ c) : rowI c ∈ mapsAll c := maps_all hc (Eg.id c)
/-- the words of some effects, and the words of their ends -/
def words (c : Int) (ss : List (List Int)) : List (SW (List Int)) := (lay (wAct ss) ss.length (rowI c) 50).1
def wordsE (c : Int) (ss : List (List Int)) : List (SW (List Int)) := (lay (wAct ss) ss.length [0, c] 50).1
theorem words_ok {c : Int} (h1 : 1 ≤ c) (h2 : c ≤ 8) {ss : List (List Int)} (hs : Sm c ss) : Wds (act := wAct ss) (m := ss.length) (s0 := rowI c) (words c ss) := by
  have h := Bf.lay (act := wAct ss) (m := ss.length) (s0 := rowI c) 50
  rw [lay_end (short_rows h1 h2 hs) (by omega)] at h
  exact h.wds
theorem wordsE_ok {c : Int} (h1 : 1 ≤ c) (h2 : c ≤ 8) {ss : List (List Int)} (hs : Sm c ss) : Wds (act := wAct ss) (m := ss.length) (s0 := [0, c]) (wordsE c ss) := by
  have h := Bf.lay (act := wAct ss) (m := ss.length) (s0 := [0, c]) 50
  rw [lay_end (short_ends h1 h2 hs) (by omega)] at h
  exact h.wds
theorem words_short {c : Int} (h1 : 1 ≤ c) (h2 : c ≤ 8) {ss : List (List Int)} (hs : Sm c ss) {p : SW (List Int)} (hp : p ∈ words c ss) : p.2.length ≤ 44 := by
  have h := Bf.lay (act := wAct ss) (m := ss.length) (s0 := rowI c) 50
  exact h.short (short_rows h1 h2 hs) (List.mem_append.mpr (.inl hp))
theorem x_mulP {xs : List D} {k : Int} {Q : D → Prop} (h0 : xs.isEmpty = false) (h : 1 ≤ k ∧ k ≤ 1000 ∧ xs.length ≤ 1000) (q : Q (.tup (List.replicate k.toNat xs).flatten)) : ∃ z, oMulT (.tup xs) (.int k) = some z ∧ Q z :=
  ⟨_, by simp only [oMulT, h0, decide_eq_true h]; rfl, q⟩
theorem w_lkeys {e : Env} {QL : List D → Env → Prop} {a : M D} (h : wp a e fun x e1 => ∃ fs, x = tDd fs ∧ QL (fs.map fun p => tD p.1) e1) : wp (mLKeys a) e QL := by
  obtain ⟨x, e1, h1, fs, rfl, q⟩ := h
  obtain ⟨ks, vs, h2, h3⟩ := keys_tDd fs
  refine ⟨_, e1, ?_, by rw [← h3] at q; exact q⟩
  simp only [mLKeys, h1, h2]
end DL

namespace DL.k29
open PySem DL
/- slots of is_between: 0 value 1 low 2 high -/
def c_is_between : Ms :=
  (sRet (mAnd (mIsi .int (mVar 0)) (mAnd (mNot (mIsi .bool (mVar 0))) (mChain oLe oLe (mVar 1) (mVar 0) (mVar 2)))))
def f_is_between : List D → Option D := runD 3 3 c_is_between
/- slots of is_map: 0 capacity 1 value 2 level 3 first 4 second -/
def c_is_map : Ms :=
  (sSeq (sIf (DL.tOr (DL.tNot (tVal (mIsi .tuple (mVar 1)))) (tVal (mBin oNe (mF fLen (mCons (mVar 1) mNil)) (mBin oAdd (mVar 0) (mC (.int 1))))))
  (sRet (mC (.bl false)))
  sPass)
  (sSeq (sIf (DL.tNot (tVal (mF fAll (mCons (mFr (mComp [2] (iSeq (mVar 1)) (pN 2) tYes (mF f_is_between (mCons (mVar 2) (mCons (mC (.int 0)) (mCons (mVar 0) mNil)))))) mNil))))
  (sRet (mC (.bl false)))
  sPass)
  (sRet (mF fAll (mCons (mFr (mComp [3, 4] (iZip (mVar 1) (mSlice (mVar 1) (mPart (mC (.int 1))) mNoPart)) (pT [(pN 3), (pN 4)]) tYes (mBin oIn (mBin oSub (mVar 4) (mVar 3)) (mTup (mCons (mC (.int 0)) (mCons (mC (.int 1)) mNil)))))) mNil)))))
def f_is_map : List D → Option D := runD 2 5 c_is_map
/- slots of check_effect: 0 capacity 1 effect -/
def c_check_effect : Ms :=
  (sIf (DL.tNot (tVal (mF f_is_map (mCons (mVar 0) (mCons (mVar 1) mNil)))))
  sNever
  sPass)
def f_check_effect : List D → Option D := runD 2 2 c_check_effect
/- slots of join: 0 first 1 second 2 level -/
def c_join : Ms :=
  (sRet (mF fTuple (mCons (mFr (mComp [2] (iSeq (mVar 0)) (pN 2) tYes (mBin oIx (mVar 1) (mVar 2)))) mNil)))
def f_join : List D → Option D := runD 2 3 c_join
/- slots of check_small: 0 capacity -/
def c_check_small : Ms :=
  (sIf (DL.tNot (tVal (mF f_is_between (mCons (mVar 0) (mCons (mC (.int 1)) (mCons (mC (.int 8)) mNil))))))
  sNever
  sPass)
def f_check_small : List D → Option D := runD 1 1 c_check_small
/- slots of check_some: 0 capacity 1 some 2 good 3 effect -/
def c_check_some : Ms :=
  (sSeq (sExpr (mF f_check_small (mCons (mVar 0) mNil)))
  (sSeq (sSet (pN 2) (mAnd (mIsi .tuple (mVar 1)) (mChain oLe oLe (mC (.int 1)) (mF fLen (mCons (mVar 1) mNil)) (mC (.int 4)))))
  (sIf (DL.tOr (DL.tNot (tVal (mVar 2))) (DL.tNot (tVal (mF fAll (mCons (mFr (mComp [3] (iSeq (mVar 1)) (pN 3) tYes (mF f_is_map (mCons (mVar 0) (mCons (mVar 3) mNil))))) mNil)))))
  sNever
  sPass)))
def f_check_some : List D → Option D := runD 2 4 c_check_some
/- slots of word_effect: 0 capacity 1 some 2 word 3 good 4 found 5 index -/
def c_word_effect : Ms :=
  (sSeq (sExpr (mF f_check_some (mCons (mVar 0) (mCons (mVar 1) mNil))))
  (sSeq (sSet (pN 3) (mAnd (mIsi .tuple (mVar 2)) (mBin oLe (mF fLen (mCons (mVar 2) mNil)) (mC (.int 60)))))
  (sSeq (sIf (DL.tOr (DL.tNot (tVal (mVar 3))) (DL.tNot (tVal (mF fAll (mCons (mFr (mComp [5] (iSeq (mVar 2)) (pN 5) tYes (mF f_is_between (mCons (mVar 5) (mCons (mC (.int 0)) (mCons (mBin oSub (mF fLen (mCons (mVar 1) mNil)) (mC (.int 1))) mNil)))))) mNil)))))
  sNever
  sPass)
  (sSeq (sSet (pN 4) (mTupL (mRg (mC (.int 0)) (mBin oAdd (mVar 0) (mC (.int 1))))))
  (sSeq (sFor (iSeq (mVar 2)) (pN 5)
  (sSet (pN 4) (mF f_join (mCons (mVar 4) (mCons (mBin oIx (mVar 1) (mVar 5)) mNil)))))
  (sRet (mVar 4)))))))
def f_word_effect : List D → Option D := runD 3 6 c_word_effect
/- slots of shortest_words: 0 capacity 1 some 2 layer 3 found 4 later 5 effect 6 index 7 other 8 new -/
def c_shortest_words : Ms :=
  (sSeq (sSet (pN 2) (mDFr (mDispT (mTupL (mRg (mC (.int 0)) (mBin oAdd (mVar 0) (mC (.int 1))))) (mTup mNil))))
  (sSeq (sDNew 3 (mDNew true))
  (sSeq (sWhile 3000 (tVal (mEmpT true (mVar 2)))
  (sSeq (sODUpd 3 (mVar 2))
  (sSeq (sDNew 4 (mDNew true))
  (sSeq (sFor (iSeq (mVar 2)) (pN 5)
  (sFor (iEnum (mVar 1)) (pT [(pN 6), (pN 7)])
  (sSeq (sSet (pN 8) (mF f_join (mCons (mVar 5) (mCons (mVar 7) mNil))))
  (sIf (DL.tAnd (tVal (mODIn true (mVar 8) 3)) (tVal (mODIn true (mVar 8) 4)))
  (sODPut 4 (mVar 8) (mBin oAdd (mBin oIx (mVar 2) (mVar 5)) (mTup (mCons (mVar 6) mNil))))
  sPass))))
  (sFrz 4 (sSet (pN 2) (mVar 4)))))))
  (sFrz 3 (sRet (mVar 3))))))
def f_shortest_words : List D → Option D := runD 2 9 c_shortest_words
/- slots of count_generated: 0 capacity 1 some -/
def c_count_generated : Ms :=
  (sSeq (sExpr (mF f_check_some (mCons (mVar 0) (mCons (mVar 1) mNil))))
  (sRet (mF fLen (mCons (mF f_shortest_words (mCons (mVar 0) (mCons (mVar 1) mNil))) mNil))))
def f_count_generated : List D → Option D := runD 2 2 c_count_generated
/- slots of shortest_word: 0 capacity 1 some 2 wanted -/
def c_shortest_word : Ms :=
  (sSeq (sExpr (mF f_check_some (mCons (mVar 0) (mCons (mVar 1) mNil))))
  (sSeq (sExpr (mF f_check_effect (mCons (mVar 0) (mCons (mVar 2) mNil))))
  (sRet (mGet2 (mF f_shortest_words (mCons (mVar 0) (mCons (mVar 1) mNil))) (mVar 2) (mC .non)))))
def f_shortest_word : List D → Option D := runD 3 3 c_shortest_word
/- slots of law_source: 0 cell 1 turn -/
def c_law_source : Ms :=
  (sSeq (sIf (tVal (mBin oGe (mVar 0) (mBin oPow (mC (.int 10)) (mC (.int 18)))))
  (sRetN (mLst (mCons (mBin oSub (mVar 0) (mBin oPow (mC (.int 10)) (mC (.int 18)))) (mCons (mBin oMod (mF fInt (mCons (mVar 0) mNil)) (mC (.int 2147483579))) (mCons (mVar 1) mNil)))))
  sPass)
  (sRetN (mLst (mCons (mC (.int 0)) (mCons (mBin oMod (mF fInt (mCons (mVar 0) mNil)) (mC (.int 2147483579))) (mCons (mVar 1) mNil))))))
def f_law_source : List D → Option (List D) := runN 2 2 c_law_source
/- slots of law_draw: 0 source 1 size 2 drawn 3 number -/
def c_law_draw : Ms :=
  (sSeq (sIf (tVal (mBin oGt (mOIx 0 (mC (.int 0))) (mC (.int 1))))
  (sSeq (sSet (pN 2) (mBin oMod (mF fInt (mCons (mOIx 0 (mC (.int 0))) mNil)) (mVar 1)))
  (sSeq (sOSet 0 (mC (.int 0)) (mBin oDiv (mOIx 0 (mC (.int 0))) (mVar 1)))
  (sRet (mVar 2))))
  sPass)
  (sSeq (sOSet 0 (mC (.int 2)) (mBin oAdd (mOIx 0 (mC (.int 2))) (mC (.int 1))))
  (sSeq (sSet (pN 3) (mBin oMod (mF fInt (mCons (mBin oPow (mBin oAdd (mOIx 0 (mC (.int 1))) (mBin oMul (mC (.int 15485867)) (mOIx 0 (mC (.int 2))))) (mC (.int 5))) mNil)) (mC (.int 2147483647))))
  (sSeq (sSet (pN 2) (mBin oDiv (mBin oMod (mF fInt (mCons (mBin oPow (mBin oAdd (mVar 3) (mBin oMul (mC (.int 7919)) (mOIx 0 (mC (.int 2))))) (mC (.int 3))) mNil)) (mC (.int 2147483629))) (mC (.int 32))))
  (sRet (mBin oMod (mF fInt (mCons (mVar 2) mNil)) (mVar 1)))))))
def f_law_draw : List D → List D → Option (D × List D) := runI 2 4 c_law_draw
/- slots of law_choice: 0 source 1 items -/
def c_law_choice : Ms :=
  (sRet (mBin oIx (mVar 1) (mFI f_law_draw 0 (mCons (mF fLen (mCons (mVar 1) mNil)) mNil))))
def f_law_choice : List D → List D → Option (D × List D) := runI 2 2 c_law_choice
/- slots of law_kind: 0 value -/
def c_law_kind : Ms :=
  (sSeq (sIf (tVal (mIsi .bool (mVar 0)))
  (sRet (mC (.int 1)))
  sPass)
  (sSeq (sIf (tVal (mIsi .int (mVar 0)))
  (sRet (mC (.int 2)))
  sPass)
  (sSeq (sIf (tVal (mIsi .str (mVar 0)))
  (sRet (mC (.int 3)))
  sPass)
  (sSeq (sIf (tVal (mIsi .list (mVar 0)))
  (sRet (mC (.int 4)))
  sPass)
  (sRet (mIf (tVal (mIsi .tuple (mVar 0))) (mC (.int 5)) (mC (.int 6))))))))
def f_law_kind : List D → Option D := runD 1 1 c_law_kind
/- slots of law_equal: 0 value 1 expected 2 k 3 part -/
def c_law_equal (f : List D → Option D) : Ms :=
  (sSeq (sIf (tVal (mBin oNe (mF f_law_kind (mCons (mVar 0) mNil)) (mF f_law_kind (mCons (mVar 1) mNil))))
  (sRet (mC (.bl false)))
  sPass)
  (sSeq (sIf (DL.tAnd (tVal (mBin oGt (mF f_law_kind (mCons (mVar 0) mNil)) (mC (.int 3)))) (tVal (mBin oLt (mF f_law_kind (mCons (mVar 0) mNil)) (mC (.int 6)))))
  (sSeq (sIf (tVal (mBin oNe (mF fLen (mCons (mVar 0) mNil)) (mF fLen (mCons (mVar 1) mNil))))
  (sRet (mC (.bl false)))
  sPass)
  (sRet (mBin oEq (mFr (mComp [2, 3] (iEnum (mVar 0)) (pT [(pN 2), (pN 3)]) (DL.tNot (tVal (mF f (mCons (mVar 3) (mCons (mBin oIx (mVar 1) (mVar 2)) mNil))))) (mVar 2))) (mFr (mLst mNil)))))
  sPass)
  (sRet (mBin oEq (mVar 0) (mVar 1)))))
def f_law_equal : Nat → (List D → Option D)
  | 0 => fun _ => none
  | n + 1 => runD 2 4 (c_law_equal (f_law_equal n))
/- slots of law_effect: 0 source 1 capacity 2 often 3 steps 4 turn 5 found 6 step -/
def c_law_effect : Ms :=
  (sSeq (sPar 2 3 (mIm (mFI f_law_choice 0 (mCons (mFr (mLst (mCons (mC (.int 1)) (mCons (mC (.int 2)) (mCons (mC (.int 4)) (mCons (mC (.int 9)) mNil)))))) mNil))) (mOw (mLst mNil)))
  (sSeq (sFor (iRng (mC (.int 0)) (mVar 1)) (pN 4)
  (sIf (DL.tAnd (tVal (mOBin oNe 3 (mFr (mLst mNil)))) (tVal (mBin oGt (mFI f_law_draw 0 (mCons (mC (.int 3)) mNil)) (mC (.int 0)))))
  (sApp 3 (mOIx 3 (mUn oNeg (mC (.int 1)))))
  (sApp 3 (mIf (tVal (mBin oEq (mFI f_law_draw 0 (mCons (mVar 2) mNil)) (mC (.int 0)))) (mC (.int 0)) (mC (.int 1))))))
  (sSeq (sFrz 3 (sNew 5 (mLst (mCons (mFI f_law_draw 0 (mCons (mBin oAdd (mBin oSub (mVar 1) (mF fSum (mCons (mVar 3) mNil))) (mC (.int 1))) mNil)) mNil))))
  (sSeq (sFor (iSeq (mVar 3)) (pN 6)
  (sApp 5 (mBin oAdd (mOIx 5 (mUn oNeg (mC (.int 1)))) (mVar 6))))
  (sFrz 5 (sRet (mF fTuple (mCons (mVar 5) mNil))))))))
def f_law_effect : List D → List D → Option (D × List D) := runI 2 7 c_law_effect
/- slots of law_joined: 0 first 1 second 2 level -/
def c_law_joined : Ms :=
  (sRet (mF fTuple (mCons (mFr (mComp [2] (iSeq (mVar 0)) (pN 2) tYes (mBin oIx (mVar 1) (mVar 2)))) mNil)))
def f_law_joined : List D → Option D := runD 2 3 c_law_joined
/- slots of law_small_cap: 0 source -/
def c_law_small_cap : Ms :=
  (sRet (mFI f_law_choice 0 (mCons (mFr (mLst (mCons (mC (.int 1)) (mCons (mC (.int 2)) (mCons (mC (.int 3)) (mCons (mC (.int 4)) (mCons (mC (.int 5)) (mCons (mC (.int 6)) mNil)))))))) mNil)))
def f_law_small_cap : List D → List D → Option (D × List D) := runI 1 1 c_law_small_cap
/- slots of law_some: 0 source 1 capacity 2 turn -/
def c_law_some : Ms :=
  (sRet (mF fTuple (mCons (mFr (mComp [2] (iRng (mC (.int 0)) (mBin oAdd (mC (.int 1)) (mFI f_law_draw 0 (mCons (mC (.int 4)) mNil)))) (pN 2) tYes (mFI f_law_effect 0 (mCons (mVar 1) mNil)))) mNil)))
def f_law_some : List D → List D → Option (D × List D) := runI 2 3 c_law_some
/- slots of law_words: 0 capacity 1 some 2 start 3 found 4 layer 5 longer 6 word 7 shape 8 index 9 other 10 new 11 level -/
def c_law_words : Ms :=
  (sSeq (sSet (pN 2) (mTupL (mRg (mC (.int 0)) (mBin oAdd (mVar 0) (mC (.int 1))))))
  (sSeq (sPar 3 4 (mOd (mDispT (mVar 2) (mTup mNil))) (mIm (mFr (mLst (mCons (mTup (mCons (mTup mNil) (mCons (mVar 2) mNil))) mNil)))))
  (sSeq (sWhile 3000 (tVal (mBin oNe (mVar 4) (mFr (mLst mNil))))
  (sSeq (sNew 5 (mLst mNil))
  (sSeq (sFor (iSeq (mVar 4)) (pT [(pN 6), (pN 7)])
  (sFor (iEnum (mVar 1)) (pT [(pN 8), (pN 9)])
  (sSeq (sSet (pN 10) (mF fTuple (mCons (mFr (mComp [11] (iSeq (mVar 7)) (pN 11) tYes (mBin oIx (mVar 9) (mVar 11)))) mNil)))
  (sIf (tVal (mODIn true (mVar 10) 3))
  (sSeq (sODPut 3 (mVar 10) (mBin oAdd (mVar 6) (mTup (mCons (mVar 8) mNil))))
  (sApp 5 (mTup (mCons (mBin oAdd (mVar 6) (mTup (mCons (mVar 8) mNil))) (mCons (mVar 10) mNil)))))
  sPass))))
  (sFrz 5 (sSet (pN 4) (mVar 5))))))
  (sFrz 3 (sRet (mVar 3))))))
def f_law_words : List D → Option D := runD 2 12 c_law_words
/- slots of law: 0 script 1 cell 2 source 3 capacity 4 some 5 words 6 turn 7 wanted 8 found 9 word 10 due 11 index -/
def c_law : Ms :=
  (sSeq (sFor (iSeq (mFr (mNew (mSlice (mFr (mNew (mBin oAdd (mFr (mLst (mCons (mC (.int 0)) mNil))) (mVar 0)))) mNoPart (mPart (mC (.int 8))))))) (pN 1)
  (sSeq (sNew 2 (mFN f_law_source (mCons (mVar 1) (mCons (mC (.int 29)) mNil))))
  (sSeq (sSet (pN 3) (mFI f_law_small_cap 2 mNil))
  (sSeq (sSet (pN 4) (mFI f_law_some 2 (mCons (mVar 3) mNil)))
  (sSeq (sSet (pN 5) (mF f_law_words (mCons (mVar 3) (mCons (mVar 4) mNil))))
  (sSeq (sIf (DL.tNot (tVal (mF (f_law_equal 12) (mCons (mF f_count_generated (mCons (mVar 3) (mCons (mVar 4) mNil))) (mCons (mF fLen (mCons (mVar 5) mNil)) mNil)))))
  (sRet (mC (.bl false)))
  sPass)
  (sSeq (sFor (iRng (mC (.int 0)) (mC (.int 4))) (pN 6)
  (sSeq (sSet (pN 7) (mFI f_law_choice 2 (mCons (mFr (mLst (mCons (mFI f_law_effect 2 (mCons (mVar 3) mNil)) (mCons (mFI f_law_choice 2 (mCons (mFr (mLKeys (mVar 5))) mNil)) mNil)))) mNil)))
  (sSeq (sSet (pN 8) (mF f_shortest_word (mCons (mVar 3) (mCons (mVar 4) (mCons (mVar 7) mNil)))))
  (sSeq (sIf (DL.tNot (tVal (mF (f_law_equal 12) (mCons (mVar 8) (mCons (mGet2 (mVar 5) (mVar 7) (mC .non)) mNil)))))
  (sRet (mC (.bl false)))
  sPass)
  (sIf (DL.tAnd (tVal (mBin oNotN (mVar 8) (mC .non))) (tVal (mBin oNe (mF f_word_effect (mCons (mVar 3) (mCons (mVar 4) (mCons (mVar 8) mNil)))) (mVar 7))))
  (sRet (mC (.bl false)))
  sPass)))))
  (sSeq (sSet (pN 9) (mF fTuple (mCons (mFr (mComp [6] (iRng (mC (.int 0)) (mFI f_law_draw 2 (mCons (mC (.int 61)) mNil))) (pN 6) tYes (mFI f_law_draw 2 (mCons (mF fLen (mCons (mVar 4) mNil)) mNil)))) mNil)))
  (sSeq (sSet (pN 10) (mTupL (mRg (mC (.int 0)) (mBin oAdd (mVar 3) (mC (.int 1))))))
  (sSeq (sFor (iSeq (mVar 9)) (pN 11)
  (sSet (pN 10) (mF f_law_joined (mCons (mVar 10) (mCons (mBin oIx (mVar 4) (mVar 11)) mNil)))))
  (sSeq (sIf (DL.tOr (DL.tNot (tVal (mF (f_law_equal 12) (mCons (mF f_word_effect (mCons (mVar 3) (mCons (mVar 4) (mCons (mVar 9) mNil)))) (mCons (mVar 10) mNil))))) (tVal (mBin oNotIn (mVar 10) (mVar 5))))
  (sRet (mC (.bl false)))
  sPass)
  (sIf (tVal (mBin oNe (mF f_count_generated (mCons (mVar 3) (mCons (mRevT (mVar 4)) mNil))) (mF fLen (mCons (mVar 5) mNil))))
  (sRet (mC (.bl false)))
  sPass))))))))))))
  (sRet (mAnd (mBin oEq (mF f_count_generated (mCons (mC (.int 2)) (mCons (mTup (mCons (mTup (mCons (mC (.int 0)) (mCons (mC (.int 0)) (mCons (mC (.int 1)) mNil)))) (mCons (mTup (mCons (mC (.int 1)) (mCons (mC (.int 2)) (mCons (mC (.int 2)) mNil)))) mNil))) mNil))) (mC (.int 8))) (mBin oIsN (mF f_shortest_word (mCons (mC (.int 2)) (mCons (mTup (mCons (mTup (mCons (mC (.int 0)) (mCons (mC (.int 0)) (mCons (mC (.int 1)) mNil)))) mNil)) (mCons (mTup (mCons (mC (.int 0)) (mCons (mC (.int 1)) (mCons (mC (.int 1)) mNil)))) mNil)))) (mC .non)))))
def f_law : List D → Option D := runD 1 12 c_law
end DL.k29

namespace DL.k29
open PySem DL
local macro_rules | `(tactic| tm_at "dlS") => `(tactic| (first | ((with_reducible refine c_decT ?_ ?_); · first | decide | rfl) | ((with_reducible refine c_decF ?_ ?_); · decide) | with_reducible refine w_seq ?_ | ((with_reducible apply w_var); · rfl) | with_reducible refine w_setN ?_ | with_reducible refine w_snew ?_ | with_reducible refine w_C ?_ | with_reducible refine w_bin ?_ | with_reducible refine w_un ?_ | with_reducible refine w_isi ?_ | with_reducible refine w_isi2 ?_ | with_reducible refine w_chain ?_ | with_reducible refine w_if ?_ | with_reducible refine w_nil ?_ | with_reducible refine w_cons ?_ | with_reducible refine w_F ?_ | with_reducible refine w_Fb ?_ | with_reducible refine w_FN ?_ | with_reducible refine w_noPart ?_ | with_reducible refine w_slice ?_ | with_reducible refine w_lzip ?_ | with_reducible refine w_val ?_ | with_reducible refine w_tAnd ?_ | with_reducible refine w_tOr ?_ | with_reducible refine w_tNot ?_ | with_reducible refine w_tYes ?_ | with_reducible refine w_and ?_ | with_reducible refine w_or ?_ | with_reducible refine w_not ?_ | with_reducible refine w_iRng ?_ | with_reducible refine w_iRngD ?_ | with_reducible refine w_iZip ?_ | with_reducible refine w_fr ?_ | with_reducible refine w_tupL ?_ | with_reducible refine w_im ?_ | with_reducible refine w_ow ?_ | with_reducible refine w_set ?_ | with_reducible refine w_par ?_ | with_reducible refine w_expr ?_ | with_reducible refine w_ret ?_ | with_reducible refine w_retN ?_ | with_reducible refine w_pass ?_ | with_reducible refine w_break ?_ | with_reducible refine w_cont ?_ | with_reducible refine w_seq ?_ | with_reducible refine w_sif ?_ | with_reducible refine x_add ?_ | with_reducible refine x_addI ?_ | with_reducible refine x_sub ?_ | with_reducible refine x_neg ?_ | with_reducible refine x_lt ?_ | with_reducible refine x_le ?_ | with_reducible refine x_gt ?_ | with_reducible refine x_ge ?_ | with_reducible refine x_eqS ?_ | with_reducible refine x_eq ?_ | with_reducible refine x_ne ?_ | with_reducible refine x_isN ?_ | with_reducible refine x_notN ?_ | with_reducible refine x_isB ?_ | with_reducible refine x_notB ?_ | with_reducible refine x_lenL ?_ | with_reducible refine x_lenT ?_ | with_reducible refine x_max2 ?_ | with_reducible refine x_min2 ?_ | with_reducible refine x_abs ?_ | with_reducible refine x_intI ?_ | with_reducible refine x_tupleL ?_ | with_reducible refine x_tupleT ?_ | with_reducible refine x_partL ?_ | with_reducible refine x_partT ?_ | with_reducible refine x_listL ?_ | with_reducible refine x_listT ?_ | with_reducible refine x_iii ?_ | with_reducible refine x_ibi ?_ | with_reducible refine x_iss ?_ | with_reducible refine x_itt ?_ | with_reducible refine x_ill ?_ | with_reducible refine x_getT ?_ | with_reducible refine x_getK ?_ | with_reducible refine e_seqM ?_ | with_reducible refine x_lenM ?_ | with_reducible refine c_true ?_ | with_reducible refine c_false ?_ | with_reducible refine c_nt ?_ | with_reducible refine c_nf ?_ | with_reducible refine c_not ?_ | ((with_reducible apply w_FI); · rfl) | ((with_reducible apply w_oIx); · rfl) | ((with_reducible apply w_oLen); · rfl) | ((with_reducible apply w_oBin); · rfl) | ((with_reducible apply w_consO); · rfl) | ((with_reducible apply w_aug); · rfl) | ((with_reducible apply w_app); · rfl) | ((with_reducible apply w_oset); · rfl) | ((with_reducible apply w_ext); · rfl) | ((with_reducible apply w_retO); · rfl) | ((with_reducible apply w_frz); · rfl) | ((with_reducible apply w_frzI); · rfl) | ((with_reducible apply e_ow); · rfl) | with_reducible refine x_lenSch ?_ | with_reducible refine x_lenSi ?_ | with_reducible refine e_seqSch ?_ | with_reducible refine e_seqSi ?_ | with_reducible refine e_bl ?_ | with_reducible refine e_int ?_ | with_reducible refine e_lst ?_ | with_reducible refine e_tup ?_ | with_reducible refine e_two ?_ | with_reducible refine e_seqL ?_ | with_reducible refine e_seqT ?_ | with_reducible refine e_zipL ?_ | with_reducible refine e_zipT ?_ | with_reducible refine w_partI ?_ | with_reducible refine w_iSeq ?_ | with_reducible refine w_iEnum ?_ | with_reducible refine w_new ?_ | with_reducible refine w_rev ?_ | with_reducible refine w_revT ?_ | with_reducible refine w_slice ?_ | with_reducible refine y_le ?_ | with_reducible refine y_lt ?_ | with_reducible refine y_ge ?_ | with_reducible refine y_gt ?_ | ((with_reducible apply x_ixT); · rfl) | ((with_reducible apply x_ixL); · rfl) | ((with_reducible apply e_at); · rfl) | ((with_reducible apply e_ix); · rfl) | ((with_reducible apply x_div); · decide) | ((with_reducible apply x_mod); · decide) | ((with_reducible apply x_mulA); · decide) | ((with_reducible apply x_mulB); · decide) | with_reducible refine w_odIn ?_ | with_reducible refine w_mdNewT ?_ | with_reducible refine w_mdNewK ?_ | with_reducible refine w_dfr ?_ | with_reducible refine w_pnil ?_ | with_reducible refine w_pcons ?_ | with_reducible refine w_disp ?_ | with_reducible refine w_dispT ?_ | with_reducible refine w_get1 ?_ | with_reducible refine w_get2 ?_ | with_reducible refine w_ifn ?_ | with_reducible refine w_mod ?_ | with_reducible refine w_odPut ?_ | with_reducible refine w_dnew ?_ | ((with_reducible apply w_odIx); · rfl) | ((with_reducible apply w_odGet1); · rfl) | ((with_reducible apply w_odGet2); · rfl) | ((with_reducible apply w_odLen); · rfl) | ((with_reducible apply w_odItems); · rfl) | ((with_reducible apply w_frzD); · rfl) | ((with_reducible apply e_od); · rfl) | with_reducible refine w_lst ?_ | with_reducible refine w_tup ?_ | ((with_reducible apply e_cap); · exact Nat.le_of_ble_eq_true rfl) | ((with_reducible apply e_set); · (simp only [List.set_cons_zero, List.set_cons_succ]; rfl)) | ((with_reducible apply e_setL); (· rfl); (· (simp only [List.set_cons_zero, List.set_cons_succ]; rfl))) | ((with_reducible apply e_par); (· rfl); (· (simp only [List.set_cons_zero, List.set_cons_succ]; rfl))) | ((with_reducible apply e_par3); (· rfl); (· (simp only [List.set_cons_zero, List.set_cons_succ]; rfl))) | ((with_reducible apply e_pt); (· rfl); (· (simp only [List.set_cons_zero, List.set_cons_succ]; rfl))) | ((with_reducible apply e_pT); · (simp only [pTs, pN, List.length_cons, List.length_nil, List.set_cons_zero, List.set_cons_succ, Nat.reduceAdd, Nat.reduceLT, ite_true, Option.some.injEq]; rfl))))
local macro_rules | `(tactic| tm_at "dlT") => `(tactic| (first | ((with_reducible refine c_decT ?_ ?_); · first | decide | rfl) | ((with_reducible refine c_decF ?_ ?_); · decide) | ((with_reducible apply w_var); · rfl) | with_reducible refine w_setN ?_ | with_reducible refine w_snew ?_ | with_reducible refine w_C ?_ | with_reducible refine w_bin ?_ | with_reducible refine w_un ?_ | with_reducible refine w_isi ?_ | with_reducible refine w_isi2 ?_ | with_reducible refine w_chain ?_ | with_reducible refine w_if ?_ | with_reducible refine w_nil ?_ | with_reducible refine w_cons ?_ | with_reducible refine w_F ?_ | with_reducible refine w_Fb ?_ | with_reducible refine w_FN ?_ | with_reducible refine w_noPart ?_ | with_reducible refine w_slice ?_ | with_reducible refine w_lzip ?_ | with_reducible refine w_val ?_ | with_reducible refine w_tAnd ?_ | with_reducible refine w_tOr ?_ | with_reducible refine w_tNot ?_ | with_reducible refine w_tYes ?_ | with_reducible refine w_and ?_ | with_reducible refine w_or ?_ | with_reducible refine w_not ?_ | with_reducible refine w_iRng ?_ | with_reducible refine w_iRngD ?_ | with_reducible refine w_iZip ?_ | with_reducible refine w_fr ?_ | with_reducible refine w_tupL ?_ | with_reducible refine w_im ?_ | with_reducible refine w_ow ?_ | with_reducible refine w_set ?_ | with_reducible refine w_par ?_ | with_reducible refine w_expr ?_ | with_reducible refine w_ret ?_ | with_reducible refine w_retN ?_ | with_reducible refine w_pass ?_ | with_reducible refine w_break ?_ | with_reducible refine w_cont ?_ | with_reducible refine w_sif ?_ | with_reducible refine x_add ?_ | with_reducible refine x_addI ?_ | with_reducible refine x_sub ?_ | with_reducible refine x_neg ?_ | with_reducible refine x_lt ?_ | with_reducible refine x_le ?_ | with_reducible refine x_gt ?_ | with_reducible refine x_ge ?_ | with_reducible refine x_eqS ?_ | with_reducible refine x_eq ?_ | with_reducible refine x_ne ?_ | with_reducible refine x_isN ?_ | with_reducible refine x_notN ?_ | with_reducible refine x_isB ?_ | with_reducible refine x_notB ?_ | with_reducible refine x_lenL ?_ | with_reducible refine x_lenT ?_ | with_reducible refine x_max2 ?_ | with_reducible refine x_min2 ?_ | with_reducible refine x_abs ?_ | with_reducible refine x_intI ?_ | with_reducible refine x_tupleL ?_ | with_reducible refine x_tupleT ?_ | with_reducible refine x_partL ?_ | with_reducible refine x_partT ?_ | with_reducible refine x_listL ?_ | with_reducible refine x_listT ?_ | with_reducible refine x_iii ?_ | with_reducible refine x_ibi ?_ | with_reducible refine x_iss ?_ | with_reducible refine x_itt ?_ | with_reducible refine x_ill ?_ | with_reducible refine x_getT ?_ | with_reducible refine x_getK ?_ | with_reducible refine e_seqM ?_ | with_reducible refine x_lenM ?_ | with_reducible refine c_true ?_ | with_reducible refine c_false ?_ | with_reducible refine c_nt ?_ | with_reducible refine c_nf ?_ | with_reducible refine c_not ?_ | ((with_reducible apply w_FI); · rfl) | ((with_reducible apply w_oIx); · rfl) | ((with_reducible apply w_oLen); · rfl) | ((with_reducible apply w_oBin); · rfl) | ((with_reducible apply w_consO); · rfl) | ((with_reducible apply w_aug); · rfl) | ((with_reducible apply w_app); · rfl) | ((with_reducible apply w_oset); · rfl) | ((with_reducible apply w_ext); · rfl) | ((with_reducible apply w_retO); · rfl) | ((with_reducible apply w_frz); · rfl) | ((with_reducible apply w_frzI); · rfl) | ((with_reducible apply e_ow); · rfl) | with_reducible refine x_lenSch ?_ | with_reducible refine x_lenSi ?_ | with_reducible refine e_seqSch ?_ | with_reducible refine e_seqSi ?_ | with_reducible refine e_bl ?_ | with_reducible refine e_int ?_ | with_reducible refine e_lst ?_ | with_reducible refine e_tup ?_ | with_reducible refine e_two ?_ | with_reducible refine e_seqL ?_ | with_reducible refine e_seqT ?_ | with_reducible refine e_zipL ?_ | with_reducible refine e_zipT ?_ | with_reducible refine w_partI ?_ | with_reducible refine w_iSeq ?_ | with_reducible refine w_iEnum ?_ | with_reducible refine w_new ?_ | with_reducible refine w_rev ?_ | with_reducible refine w_revT ?_ | with_reducible refine w_slice ?_ | with_reducible refine y_le ?_ | with_reducible refine y_lt ?_ | with_reducible refine y_ge ?_ | with_reducible refine y_gt ?_ | ((with_reducible apply x_ixT); · rfl) | ((with_reducible apply x_ixL); · rfl) | ((with_reducible apply e_at); · rfl) | ((with_reducible apply e_ix); · rfl) | ((with_reducible apply x_div); · decide) | ((with_reducible apply x_mod); · decide) | ((with_reducible apply x_mulA); · decide) | ((with_reducible apply x_mulB); · decide) | with_reducible refine w_odIn ?_ | with_reducible refine w_mdNewT ?_ | with_reducible refine w_mdNewK ?_ | with_reducible refine w_dfr ?_ | with_reducible refine w_pnil ?_ | with_reducible refine w_pcons ?_ | with_reducible refine w_disp ?_ | with_reducible refine w_dispT ?_ | with_reducible refine w_get1 ?_ | with_reducible refine w_get2 ?_ | with_reducible refine w_ifn ?_ | with_reducible refine w_mod ?_ | with_reducible refine w_odPut ?_ | with_reducible refine w_dnew ?_ | ((with_reducible apply w_odIx); · rfl) | ((with_reducible apply w_odGet1); · rfl) | ((with_reducible apply w_odGet2); · rfl) | ((with_reducible apply w_odLen); · rfl) | ((with_reducible apply w_odItems); · rfl) | ((with_reducible apply w_frzD); · rfl) | ((with_reducible apply e_od); · rfl) | with_reducible refine w_lst ?_ | with_reducible refine w_tup ?_ | ((with_reducible apply e_cap); · exact Nat.le_of_ble_eq_true rfl) | ((with_reducible apply e_set); · (simp only [List.set_cons_zero, List.set_cons_succ]; rfl)) | ((with_reducible apply e_setL); (· rfl); (· (simp only [List.set_cons_zero, List.set_cons_succ]; rfl))) | ((with_reducible apply e_par); (· rfl); (· (simp only [List.set_cons_zero, List.set_cons_succ]; rfl))) | ((with_reducible apply e_par3); (· rfl); (· (simp only [List.set_cons_zero, List.set_cons_succ]; rfl))) | ((with_reducible apply e_pt); (· rfl); (· (simp only [List.set_cons_zero, List.set_cons_succ]; rfl))) | ((with_reducible apply e_pT); · (simp only [pTs, pN, List.length_cons, List.length_nil, List.set_cons_zero, List.set_cons_succ, Nat.reduceAdd, Nat.reduceLT, ite_true, Option.some.injEq]; rfl))))
local macro_rules | `(tactic| tm_at "dlU") => `(tactic| (first | ((with_reducible refine c_decT ?_ ?_); · first | decide | rfl) | ((with_reducible refine c_decF ?_ ?_); · decide) | ((with_reducible apply w_var); · rfl) | with_reducible refine w_setN ?_ | with_reducible refine w_snew ?_ | with_reducible refine w_C ?_ | with_reducible refine w_bin ?_ | with_reducible refine w_un ?_ | with_reducible refine w_isi ?_ | with_reducible refine w_isi2 ?_ | with_reducible refine w_chain ?_ | with_reducible refine w_if ?_ | with_reducible refine w_nil ?_ | with_reducible refine w_cons ?_ | with_reducible refine w_F ?_ | with_reducible refine w_Fb ?_ | with_reducible refine w_FN ?_ | with_reducible refine w_noPart ?_ | with_reducible refine w_slice ?_ | with_reducible refine w_lzip ?_ | with_reducible refine w_val ?_ | with_reducible refine w_tAnd ?_ | with_reducible refine w_tOr ?_ | with_reducible refine w_tNot ?_ | with_reducible refine w_tYes ?_ | with_reducible refine w_and ?_ | with_reducible refine w_or ?_ | with_reducible refine w_not ?_ | with_reducible refine w_iRng ?_ | with_reducible refine w_iRngD ?_ | with_reducible refine w_iZip ?_ | with_reducible refine w_fr ?_ | with_reducible refine w_tupL ?_ | with_reducible refine w_im ?_ | with_reducible refine w_ow ?_ | with_reducible refine w_set ?_ | with_reducible refine w_par ?_ | with_reducible refine w_expr ?_ | with_reducible refine w_ret ?_ | with_reducible refine w_retN ?_ | with_reducible refine w_pass ?_ | with_reducible refine w_break ?_ | with_reducible refine w_cont ?_  | with_reducible refine x_add ?_ | with_reducible refine x_addI ?_ | with_reducible refine x_sub ?_ | with_reducible refine x_neg ?_ | with_reducible refine x_lt ?_ | with_reducible refine x_le ?_ | with_reducible refine x_gt ?_ | with_reducible refine x_ge ?_ | with_reducible refine x_eqS ?_ | with_reducible refine x_eq ?_ | with_reducible refine x_ne ?_ | with_reducible refine x_isN ?_ | with_reducible refine x_notN ?_ | with_reducible refine x_isB ?_ | with_reducible refine x_notB ?_ | with_reducible refine x_lenL ?_ | with_reducible refine x_lenT ?_ | with_reducible refine x_max2 ?_ | with_reducible refine x_min2 ?_ | with_reducible refine x_abs ?_ | with_reducible refine x_intI ?_ | with_reducible refine x_tupleL ?_ | with_reducible refine x_tupleT ?_ | with_reducible refine x_partL ?_ | with_reducible refine x_partT ?_ | with_reducible refine x_listL ?_ | with_reducible refine x_listT ?_ | with_reducible refine x_iii ?_ | with_reducible refine x_ibi ?_ | with_reducible refine x_iss ?_ | with_reducible refine x_itt ?_ | with_reducible refine x_ill ?_ | with_reducible refine x_getT ?_ | with_reducible refine x_getK ?_ | with_reducible refine e_seqM ?_ | with_reducible refine x_lenM ?_ | with_reducible refine c_true ?_ | with_reducible refine c_false ?_ | with_reducible refine c_nt ?_ | with_reducible refine c_nf ?_ | with_reducible refine c_not ?_ | ((with_reducible apply w_FI); · rfl) | ((with_reducible apply w_oIx); · rfl) | ((with_reducible apply w_oLen); · rfl) | ((with_reducible apply w_oBin); · rfl) | ((with_reducible apply w_consO); · rfl) | ((with_reducible apply w_aug); · rfl) | ((with_reducible apply w_app); · rfl) | ((with_reducible apply w_oset); · rfl) | ((with_reducible apply w_ext); · rfl) | ((with_reducible apply w_retO); · rfl) | ((with_reducible apply w_frz); · rfl) | ((with_reducible apply w_frzI); · rfl) | ((with_reducible apply e_ow); · rfl) | with_reducible refine x_lenSch ?_ | with_reducible refine x_lenSi ?_ | with_reducible refine e_seqSch ?_ | with_reducible refine e_seqSi ?_ | with_reducible refine e_bl ?_ | with_reducible refine e_int ?_ | with_reducible refine e_lst ?_ | with_reducible refine e_tup ?_ | with_reducible refine e_two ?_ | with_reducible refine e_seqL ?_ | with_reducible refine e_seqT ?_ | with_reducible refine e_zipL ?_ | with_reducible refine e_zipT ?_ | with_reducible refine w_partI ?_ | with_reducible refine w_iSeq ?_ | with_reducible refine w_iEnum ?_ | with_reducible refine w_new ?_ | with_reducible refine w_rev ?_ | with_reducible refine w_revT ?_ | with_reducible refine w_slice ?_ | with_reducible refine y_le ?_ | with_reducible refine y_lt ?_ | with_reducible refine y_ge ?_ | with_reducible refine y_gt ?_ | ((with_reducible apply x_ixT); · rfl) | ((with_reducible apply x_ixL); · rfl) | ((with_reducible apply e_at); · rfl) | ((with_reducible apply e_ix); · rfl) | ((with_reducible apply x_div); · decide) | ((with_reducible apply x_mod); · decide) | ((with_reducible apply x_mulA); · decide) | ((with_reducible apply x_mulB); · decide) | with_reducible refine w_odIn ?_ | with_reducible refine w_mdNewT ?_ | with_reducible refine w_mdNewK ?_ | with_reducible refine w_dfr ?_ | with_reducible refine w_pnil ?_ | with_reducible refine w_pcons ?_ | with_reducible refine w_disp ?_ | with_reducible refine w_dispT ?_ | with_reducible refine w_get1 ?_ | with_reducible refine w_get2 ?_ | with_reducible refine w_ifn ?_ | with_reducible refine w_mod ?_ | with_reducible refine w_odPut ?_ | with_reducible refine w_dnew ?_ | ((with_reducible apply w_odIx); · rfl) | ((with_reducible apply w_odGet1); · rfl) | ((with_reducible apply w_odGet2); · rfl) | ((with_reducible apply w_odLen); · rfl) | ((with_reducible apply w_odItems); · rfl) | ((with_reducible apply w_frzD); · rfl) | ((with_reducible apply e_od); · rfl) | with_reducible refine w_lst ?_ | with_reducible refine w_tup ?_ | ((with_reducible apply e_cap); · exact Nat.le_of_ble_eq_true rfl) | ((with_reducible apply e_set); · (simp only [List.set_cons_zero, List.set_cons_succ]; rfl)) | ((with_reducible apply e_setL); (· rfl); (· (simp only [List.set_cons_zero, List.set_cons_succ]; rfl))) | ((with_reducible apply e_par); (· rfl); (· (simp only [List.set_cons_zero, List.set_cons_succ]; rfl))) | ((with_reducible apply e_par3); (· rfl); (· (simp only [List.set_cons_zero, List.set_cons_succ]; rfl))) | ((with_reducible apply e_pt); (· rfl); (· (simp only [List.set_cons_zero, List.set_cons_succ]; rfl))) | ((with_reducible apply e_pT); · (simp only [pTs, pN, List.length_cons, List.length_nil, List.set_cons_zero, List.set_cons_succ, Nat.reduceAdd, Nat.reduceLT, ite_true, Option.some.injEq]; rfl))))
theorem is_between_eq (v a b : Int) : f_is_between [.int v, .int a, .int b] = some (.bl (decide (a ≤ v) && decide (v ≤ b))) := by
  refine run_D (e := [.im (.int v), .im (.int a), .im (.int b)]) rfl rfl ?_
  unfold c_is_between
  (repeat' (first | ((with_reducible refine c_decT ?_ ?_); · first | decide | rfl) | ((with_reducible refine c_decF ?_ ?_); · decide) | (with_reducible refine c_dec (fun h => ?_) (fun h => ?_)) | tm_at "dlS"))
  all_goals (simp_all; try omega)
theorem is_between_yes {v a b : Int} (h : a ≤ v ∧ v ≤ b) : f_is_between [.int v, .int a, .int b] = some (.bl true) := by
  rw [is_between_eq]; simp [h.1, h.2]
theorem is_map_eq {c : Int} {g : Int → Int} (hc : Cok c) (h : Eg c g) : f_is_map [.int c, mapD c g] = some (.bl true) := by
  have hc1 := hc.1
  have hc2 := hc.2
  have hlen : ((iL (mapL c g)).length : Int) = c + 1 := by rw [iL_len, mapL_len]; omega
  refine run_D (e := [.im (.int c), .im (.tup (iL (mapL c g))), .un, .un, .un]) rfl rfl ?_
  unfold c_is_map
  (repeat' tm_at "dlS")
  refine c_decT hlen ?_
  (repeat' tm_at "dlS")
  refine w_compP (fun _ => true) (fun _ => .bl true) ?_
  (repeat' tm_at "dlS")
  refine ⟨cap_lt (by omega), ?_, rfl, rfl, ?_⟩
  · intro d hd
    simp only [iL, mapL, List.mem_map] at hd
    obtain ⟨v, ⟨x, hx, rfl⟩, rfl⟩ := hd
    have hx := mem_upto hx
    refine ⟨_, rfl, rfl, rfl, ?_⟩
    (repeat' tm_at "dlS")
    refine ⟨rfl, rfl, fun _ => ?_⟩
    (repeat' tm_at "dlS")
    refine ⟨_, is_between_yes (h.inr x hx.1 (by omega)), rfl, rfl⟩
  have e1 : List.map (fun _ => D.bl true) (List.filter (fun _ => true) (iL (mapL c g))) = bL (List.replicate (iL (mapL c g)).length true) := by
    rw [List.filter_eq_self.mpr (fun _ _ => rfl), List.map_const', bL, List.map_replicate]
  rw [e1]
  (repeat' tm_at "dlS")
  refine x_all ?_
  rw [show (List.replicate (iL (mapL c g)).length true).all id = true by simp]
  (repeat' tm_at "dlS")
  refine w_compP (fun _ => true) (fun _ => .bl true) ?_
  (repeat' tm_at "dlS")
  rw [cut_one]
  unfold mapL
  rw [zip_upto]
  refine ⟨by rw [List.length_map, len_upto]; exact cap_lt (by omega), ?_, rfl, rfl, ?_⟩
  · intro d hd
    simp only [List.mem_map] at hd
    obtain ⟨x, hx, rfl⟩ := hd
    have hx := mem_upto hx
    refine ⟨_, rfl, rfl, rfl, ?_⟩
    (repeat' tm_at "dlS")
    refine ⟨rfl, rfl, fun _ => ?_⟩
    (repeat' tm_at "dlS")
    refine ⟨_, in01 (by have := h.stp x hx.1 (by omega); omega), rfl, rfl⟩
  have e2 : ∀ l : List D, List.map (fun _ => D.bl true) (List.filter (fun _ => true) l) = bL (List.replicate l.length true) := fun l => by
    rw [List.filter_eq_self.mpr (fun _ _ => rfl), List.map_const', bL, List.map_replicate]
  rw [e2]
  (repeat' tm_at "dlS")
  refine x_all ?_
  simp
theorem check_effect_eq {c : Int} {g : Int → Int} (hc : Cok c) (h : Eg c g) : f_check_effect [.int c, mapD c g] = some .non := by
  refine run_D (e := [.im (.int c), .im (mapD c g)]) rfl rfl ?_
  unfold c_check_effect
  (repeat' (first | ((with_reducible refine c_decT ?_ ?_); · first | decide | rfl) | ((with_reducible refine c_decF ?_ ?_); · decide) | (with_reducible refine ⟨_, is_map_eq hc h, ?_⟩) | tm_at "dlS"))
  rfl
theorem join_eq {c : Int} {g h : Int → Int} (hc : c ≤ 60) (hg : Eg c g) : f_join [mapD c g, mapD c h] = some (mapD c fun x => h (g x)) := by
  refine run_D (e := [.im (.tup (iL (mapL c g))), .im (.tup (iL (mapL c h))), .un]) rfl rfl ?_
  unfold c_join
  (repeat' tm_at "dlS")
  refine w_compP (fun _ => true) (fun d => match d with | .int i => .int (h i) | _ => .non) ?_
  (repeat' tm_at "dlS")
  refine ⟨by rw [iL_len, mapL_len]; exact cap_lt (by omega), ?_, rfl, rfl, ?_⟩
  · intro d hd
    simp only [iL, mapL, List.mem_map] at hd
    obtain ⟨v, ⟨x, hx, rfl⟩, rfl⟩ := hd
    have hx := mem_upto hx
    have hi := hg.inr x hx.1 (by omega)
    refine ⟨_, rfl, rfl, rfl, ?_⟩
    (repeat' tm_at "dlS")
    refine ⟨rfl, rfl, fun _ => ?_⟩
    (repeat' tm_at "dlS")
    refine x_ixT (map_at h hi.1 hi.2) ⟨rfl, rfl⟩
  · rw [List.filter_eq_self.mpr (fun _ _ => rfl), map_iL _ h (fun _ => rfl)]
    (repeat' tm_at "dlS")
    simp only [mapD, mapL, List.map_map]
    rfl
theorem check_small_eq {c : Int} (h1 : 1 ≤ c) (h2 : c ≤ 8) : f_check_small [.int c] = some .non := by
  refine run_D (e := [.im (.int c)]) rfl rfl ?_
  unfold c_check_small
  (repeat' tm_at "dlS")
  refine ⟨_, is_between_yes ⟨h1, h2⟩, ?_⟩
  (repeat' tm_at "dlS")
  rfl
def someD (ss : List (List Int)) : D := .tup (ss.map tD)
theorem check_some_eq {c : Int} {ss : List (List Int)} (h1 : 1 ≤ c) (h2 : c ≤ 8) (hs : Sm c ss) (l1 : 1 ≤ ss.length) (l2 : ss.length ≤ 4) : f_check_some [.int c, someD ss] = some .non := by
  refine run_D (e := [.im (.int c), .im (.tup (ss.map tD)), .un, .un]) rfl rfl ?_
  unfold c_check_some
  (repeat' (first | ((with_reducible refine c_decT ?_ ?_); · first | decide | rfl) | ((with_reducible refine c_decF ?_ ?_); · decide) | (with_reducible refine ⟨_, check_small_eq h1 h2, ?_⟩) | tm_at "dlS"))
  rw [List.length_map]
  refine c_decT (by omega) ?_
  (repeat' tm_at "dlS")
  refine c_decT (by omega) ?_
  (repeat' tm_at "dlS")
  refine w_compP (fun _ => true) (fun _ => .bl true) ?_
  (repeat' tm_at "dlS")
  refine ⟨by rw [List.length_map]; exact cap_lt (by omega), ?_, rfl, rfl, ?_⟩
  · intro d hd
    obtain ⟨row, hr, rfl⟩ := List.mem_map.mp hd
    obtain ⟨g1, g2⟩ := maps_fn (by omega) (hs row hr)
    refine ⟨_, rfl, rfl, rfl, ?_⟩
    rw [g2]
    (repeat' tm_at "dlS")
    refine ⟨rfl, rfl, fun _ => ?_⟩
    (repeat' tm_at "dlS")
    exact ⟨_, is_map_eq ⟨h1, by omega⟩ g1, rfl, rfl⟩
  have e1 : List.map (fun _ => D.bl true) (List.filter (fun _ => true) (ss.map tD)) = bL (List.replicate (ss.map tD).length true) := by
    rw [List.filter_eq_self.mpr (fun _ _ => rfl), List.map_const', bL, List.map_replicate]
  rw [e1]
  (repeat' tm_at "dlS")
  refine x_all ?_
  rw [show (List.replicate (ss.map tD).length true).all id = true by simp]
  (repeat' tm_at "dlS")
  rfl
theorem wfn_mapL (c : Int) (ss : List (List Int)) (w : List Nat) (i : Nat) : (mapL c fun x => rfn (ss[i]?.getD []) (wfn ss w x)) = mapL c (wfn ss (w ++ [i])) := by
  refine mapL_congr fun x _ _ => ?_
  rw [wfn_app]
  rfl
theorem word_effect_eq {c : Int} {ss : List (List Int)} {w : List Nat} (h1 : 1 ≤ c) (h2 : c ≤ 8) (hs : Sm c ss) (l1 : 1 ≤ ss.length) (l2 : ss.length ≤ 4) (hw : ∀ i ∈ w, i < ss.length) (hl : w.length ≤ 60) : f_word_effect [.int c, someD ss, wordD w] = some (mapD c (wfn ss w)) := by
  refine run_D (e := [.im (.int c), .im (.tup (ss.map tD)), .im (.tup (iL (w.map fun i : Nat => (i : Int)))), .un, .un, .un]) rfl rfl ?_
  unfold c_word_effect
  (repeat' tm_at "dlS")
  refine ⟨_, check_some_eq h1 h2 hs l1 l2, ?_⟩
  (repeat' tm_at "dlS")
  rw [iL_len, List.length_map]
  (repeat' tm_at "dlS")
  refine c_decT (by omega) ?_
  (repeat' tm_at "dlS")
  refine w_compP (fun _ => true) (fun _ => .bl true) ?_
  (repeat' tm_at "dlS")
  refine ⟨by rw [iL_len, List.length_map]; exact cap_lt (by omega), ?_, rfl, rfl, ?_⟩
  · intro d hd
    simp only [iL, List.mem_map] at hd
    obtain ⟨_, ⟨i, hi, rfl⟩, rfl⟩ := hd
    refine ⟨_, rfl, rfl, rfl, ?_⟩
    (repeat' tm_at "dlS")
    refine ⟨rfl, rfl, fun _ => ?_⟩
    (repeat' tm_at "dlS")
    rw [List.length_map]
    have := hw i hi
    exact ⟨_, is_between_yes ⟨by omega, by omega⟩, rfl, rfl⟩
  have e1 : List.map (fun _ => D.bl true) (List.filter (fun _ => true) (iL (w.map fun i : Nat => (i : Int)))) = bL (List.replicate (iL (w.map fun i : Nat => (i : Int))).length true) := by
    rw [List.filter_eq_self.mpr (fun _ _ => rfl), List.map_const', bL, List.map_replicate]
  rw [e1]
  (repeat' tm_at "dlS")
  refine x_all ?_
  rw [show (List.replicate (iL (w.map fun i : Nat => (i : Int))).length true).all id = true by simp]
  (repeat' tm_at "dlS")
  refine w_rg ?_
  (repeat' tm_at "dlS")
  refine ⟨_, _, rfl, rfl, by decide, inR_of (by omega) (by omega), cap_lt (by omega), ?_⟩
  rw [rng_zero]
  (repeat' tm_at "dlS")
  refine w_forI (fun ds e => ∃ (p r : List Nat) (x3 x5 : Sl), ds = iL (r.map fun i : Nat => (i : Int)) ∧ p ++ r = w ∧ e = [.im (.int c), .im (.tup (ss.map tD)), .im (.tup (iL (w.map fun i : Nat => (i : Int)))), x3, .im (mapD c (wfn ss p)), x5]) ?_ ?_ ?_
  · (repeat' tm_at "dlS")
    rw [show D.tup (iL (upto (c + 1).toNat)) = mapD c (wfn ss []) by rw [mapD, mapL, show wfn ss [] = fun x => x from rfl, List.map_id']]
    exact ⟨[], w, _, _, rfl, rfl, rfl⟩
  · rintro d ds e ⟨p, r, x3, x5, h0, hp, rfl⟩
    cases r with
    | nil => cases h0
    | cons i r =>
      simp only [iL, List.map_cons, List.cons.injEq] at h0
      obtain ⟨rfl, rfl⟩ := h0
      have hi : i < ss.length := hw i (by rw [← hp]; simp)
      have hpw := hs.wfn (c := c) (by omega) (w := p) fun j hj => hw j (by rw [← hp]; exact List.mem_append.mpr (.inl hj))
      obtain ⟨kg, kD⟩ := maps_fn (c := c) (by omega) (hs _ (List.getElem_mem hi))
      (repeat' tm_at "dlS")
      refine x_ixT (at_nat (by omega) (d := tD ss[i]) (by simp [hi])) ?_
      rw [kD]
      (repeat' tm_at "dlS")
      refine ⟨_, join_eq (by omega) hpw, ?_⟩
      rw [show mapD c (fun x => rfn ss[i] (wfn ss p x)) = mapD c (wfn ss (p ++ [i])) by
        have := wfn_mapL c ss p i
        rw [List.getElem?_eq_getElem hi] at this
        exact congrArg (fun l => D.tup (iL l)) this]
      (repeat' tm_at "dlS")
      exact ⟨p ++ [i], r, _, _, rfl, by rw [← hp]; simp, rfl⟩
  · rintro e ⟨p, r, x3, x5, h0, hp, rfl⟩
    cases r with
    | cons _ _ => cases h0
    | nil =>
      rw [List.append_nil] at hp
      subst hp
      (repeat' tm_at "dlS")
      rfl
theorem keys_small {c : Int} (h1 : 1 ≤ c) (h2 : c ≤ 8) {α : Type} {l : List (List Int × α)} (hn : (l.map (·.1)).Nodup) (hm : ∀ p ∈ l, p.1 ∈ mapsAll c) : l.length ≤ 2304 := by
  have h := mapsN_len c c.toNat
  have e1 : (c + 1).toNat ≤ 9 := by omega
  have e2 : 2 ^ c.toNat ≤ 2 ^ 8 := Nat.pow_le_pow_right (by decide) (by omega)
  have h3 : (mapsAll c).length ≤ 2304 := Nat.le_trans h (Nat.le_trans (Nat.mul_le_mul e1 e2) (by decide))
  have := nd_sub (m := mapsAll c) hn fun x hx => by
    obtain ⟨p, hp, rfl⟩ := List.mem_map.mp hx
    exact hm p hp
  rw [List.length_map] at this
  omega
theorem shortest_words_eq {c : Int} {ss : List (List Int)} (h1 : 1 ≤ c) (h2 : c ≤ 8) (hs : Sm c ss) (l2 : ss.length ≤ 4) : f_shortest_words [.int c, someD ss] = some (tDd (fDs wordD (words c ss))) := by
  have hBf := fun k => Bf.lay (act := wAct ss) (m := ss.length) (s0 := rowI c) k
  have hSh := short_rows h1 h2 hs
  have hin : ∀ k, ∀ p ∈ (lay (wAct ss) ss.length (rowI c) k).1 ++ (lay (wAct ss) ss.length (rowI c) k).2, p.1 ∈ mapsAll c := fun k p hp => by
    obtain ⟨r1, r2⟩ := (hBf k).run p hp
    rw [r1]
    exact rows_in (by omega) hs (rowI_in (by omega)) r2
  refine run_D (e := [.im (.int c), .im (.tup (ss.map tD)), .un, .un, .un, .un, .un, .un, .un]) rfl rfl ?_
  unfold c_shortest_words
  (repeat' tm_at "dlT")
  refine w_seqM (fun e => e = [.im (.int c), .im (.tup (ss.map tD)), .im (tDd (fDs wordD [(rowI c, [])])), .un, .un, .un, .un, .un, .un]) ?_ ?_
  · (repeat' tm_at "dlS")
    refine w_rg ?_
    (repeat' tm_at "dlS")
    refine ⟨_, _, rfl, rfl, by decide, inR_of (by omega) (by omega), cap_lt (by omega), ?_⟩
    rw [rng_zero]
    (repeat' tm_at "dlS")
    refine ⟨rowI c, by simp [rowI, mapL, tD], ?_⟩
    (repeat' tm_at "dlS")
    rfl
  rintro e rfl
  refine w_seqM (fun e => e = [.im (.int c), .im (.tup (ss.map tD)), .im (tDd (fDs wordD [(rowI c, [])])), .od (.t []), .un, .un, .un, .un, .un]) ?_ ?_
  · (repeat' tm_at "dlS")
    rfl
  rintro e rfl
  refine w_seqM (fun e => ∃ (k : Nat) (x4 x5 x6 x7 x8 : Sl), k ≤ 46 ∧ (lay (wAct ss) ss.length (rowI c) k).2 = [] ∧ e = [.im (.int c), .im (.tup (ss.map tD)), .im (tDd (fDs wordD (lay (wAct ss) ss.length (rowI c) k).2)), .od (.t (tDc (fDs wordD (lay (wAct ss) ss.length (rowI c) k).1))), x4, x5, x6, x7, x8]) ?_ ?_
  · refine w_while (n := 3000) (fun n e => ∃ (k : Nat) (x4 x5 x6 x7 x8 : Sl), n + k = 46 ∧ e = [.im (.int c), .im (.tup (ss.map tD)), .im (tDd (fDs wordD (lay (wAct ss) ss.length (rowI c) k).2)), .od (.t (tDc (fDs wordD (lay (wAct ss) ss.length (rowI c) k).1))), x4, x5, x6, x7, x8]) 46 (by omega) ⟨0, _, _, _, _, _, rfl, rfl⟩ ?_
    rintro n e ⟨k, x4, x5, x6, x7, x8, hnk, rfl⟩
    have hB := hBf k
    have hI := hin k
    have hstop := fun h => lay_le (act := wAct ss) (m := ss.length) (s0 := rowI c) (k := k) hSh h
    have hlay : lay (wAct ss) ss.length (rowI c) (k + 1) = ((lay (wAct ss) ss.length (rowI c) k).1 ++ (lay (wAct ss) ss.length (rowI c) k).2, nxw (wAct ss) ss.length ((lay (wAct ss) ss.length (rowI c) k).1 ++ (lay (wAct ss) ss.length (rowI c) k).2) (lay (wAct ss) ss.length (rowI c) k).2) := rfl
    have h0k : k = 0 → (lay (wAct ss) ss.length (rowI c) k).2.length ≤ 1 := by rintro rfl; exact Nat.le_refl _
    have hFk : k ≠ 0 → (lay (wAct ss) ss.length (rowI c) k).1 ≠ [] := fun hk e => by
      have hst := hB.st
      rw [e, List.nil_append] at hst
      have := hB.lenL _ hst
      simp only [List.length_nil] at this
      omega
    generalize hF : (lay (wAct ss) ss.length (rowI c) k).1 = F at hB hI hlay hFk ⊢
    generalize hL : (lay (wAct ss) ss.length (rowI c) k).2 = L at hB hI hstop hlay h0k ⊢
    have hFL : (F ++ L).length ≤ 2304 := keys_small h1 h2 hB.nd hI
    (repeat' tm_at "dlS")
    refine w_empT ?_
    (repeat' tm_at "dlS")
    refine ⟨fDs wordD L, rfl, ?_⟩
    (repeat' tm_at "dlS")
    refine ⟨fun hv => ?_, fun hv => ?_⟩
    · have hne : L ≠ [] := fun e => by rw [e] at hv; simp [fDs] at hv
      have hk := hstop hne
      (repeat' tm_at "dlT")
      refine w_seqM (fun e => e = [.im (.int c), .im (.tup (ss.map tD)), .im (tDd (fDs wordD L)), .od (.t (tDc (fDs wordD (F ++ L)))), x4, x5, x6, x7, x8]) ?_ ?_
      · refine w_odUpd rfl ?_
        (repeat' tm_at "dlS")
        refine ⟨_, _, rfl, tDd_od _, ?_, ?_, ?_⟩
        · by_cases h0 : k = 0
          · right; rw [tDc_len, fDs_len]; exact h0k h0
          · left
            intro z
            have := congrArg List.length z
            rw [tDc_len, fDs_len] at this
            exact hFk h0 (List.length_eq_zero_iff.mp this)
        · rw [tDc_len, fDs_len, tDc_len, fDs_len, ← List.length_append]
          exact Nat.le_trans hFL (by decide)
        · rw [merge_fDs L F hB.nd]
          (repeat' tm_at "dlS")
          rfl
      rintro e rfl
      refine w_seqM (fun e => e = [.im (.int c), .im (.tup (ss.map tD)), .im (tDd (fDs wordD L)), .od (.t (tDc (fDs wordD (F ++ L)))), .od (.t (tDc (fDs wordD []))), x5, x6, x7, x8]) ?_ ?_
      · (repeat' tm_at "dlS")
        rfl
      rintro e rfl
      refine w_seqM (fun e => ∃ x5 x6 x7 x8 : Sl, e = [.im (.int c), .im (.tup (ss.map tD)), .im (tDd (fDs wordD L)), .od (.t (tDc (fDs wordD (F ++ L)))), .od (.t (tDc (fDs wordD (nxw (wAct ss) ss.length (F ++ L) L)))), x5, x6, x7, x8]) ?_ ?_
      · refine w_forI (fun ds e => ∃ (p r : List (SW (List Int))) (x5 x6 x7 x8 : Sl), ds = (r.map fun p => tD p.1) ∧ p ++ r = L ∧ e = [.im (.int c), .im (.tup (ss.map tD)), .im (tDd (fDs wordD L)), .od (.t (tDc (fDs wordD (F ++ L)))), .od (.t (tDc (fDs wordD ((allx ss.length p).foldl (addx (wAct ss) (F ++ L)) [])))), x5, x6, x7, x8]) ?_ ?_ ?_
        · refine w_iKeys (w_var rfl ⟨fDs wordD L, rfl, [], L, x5, x6, x7, x8, ?_, rfl, rfl⟩)
          simp [fDs]
        · rintro d ds e ⟨p, r, x5, x6, x7, x8, h0, hp, rfl⟩
          cases r with
          | nil => cases h0
          | cons q r =>
            rw [List.map_cons, List.cons.injEq] at h0
            obtain ⟨rfl, rfl⟩ := h0
            have hq : q ∈ L := by rw [← hp]; simp
            have hqm : q.1 ∈ mapsAll c := hI q (List.mem_append.mpr (.inr hq))
            obtain ⟨hg, hgD⟩ := maps_fn (by omega) hqm
            have hLnd : (L.map (·.1)).Nodup := by
              have := hB.nd
              rw [List.map_append] at this
              exact (List.nodup_append.mp this).2.1
            have hqget : aget (fDs wordD L) (mapL c (rfn q.1)) = some (wordD q.2) := by
              rw [row_back (by omega) hqm]
              exact fDs_get hLnd hq
            rw [hgD]
            (repeat' tm_at "dlS")
            refine w_forI (fun ds e => ∃ (j : Nat) (x6 x7 x8 : Sl), ds = enumD j ((ss.drop j).map tD) ∧ j ≤ ss.length ∧ e = [.im (.int c), .im (.tup (ss.map tD)), .im (tDd (fDs wordD L)), .od (.t (tDc (fDs wordD (F ++ L)))), .od (.t (tDc (fDs wordD ((allx ss.length p ++ (List.range j).map fun i => (q, i)).foldl (addx (wAct ss) (F ++ L)) [])))), .im (mapD c (rfn q.1)), x6, x7, x8]) ?_ ?_ ?_
            · (repeat' tm_at "dlS")
              exact ⟨0, x6, x7, x8, rfl, Nat.zero_le _, by simp⟩
            · rintro d ds e ⟨j, x6, x7, x8, h0, hj, rfl⟩
              have hjl : j < ss.length := by
                rcases Nat.lt_or_ge j ss.length with h | h
                · exact h
                · rw [List.drop_eq_nil_of_le h] at h0
                  cases h0
              rw [List.drop_eq_getElem_cons hjl, List.map_cons, enumD, List.cons.injEq] at h0
              obtain ⟨rfl, rfl⟩ := h0
              obtain ⟨kg, kD⟩ := maps_fn (c := c) (by omega) (hs _ (List.getElem_mem hjl))
              obtain ⟨a1, a2⟩ := hs.act (by omega) hqm hjl
              have eA : mapD c (fun x => rfn ss[j] (rfn q.1 x)) = .tup (iL (wAct ss q.1 j)) := by
                rw [a1, List.getElem?_eq_getElem hjl]
                rfl
              obtain ⟨Y, hY⟩ := allx_cut (m := ss.length) (p := p) (q := q) (r := r) hjl
              rw [hp, List.append_assoc] at hY
              obtain ⟨pn, pe⟩ := hB.part hY
              have hX : (allx ss.length p ++ (List.range (j + 1)).map fun i => (q, i)).foldl (addx (wAct ss) (F ++ L)) [] = addx (wAct ss) (F ++ L) ((allx ss.length p ++ (List.range j).map fun i => (q, i)).foldl (addx (wAct ss) (F ++ L)) []) (q, j) := by
                rw [List.range_succ, List.map_append, ← List.append_assoc, List.foldl_append]
                rfl
              have hsub : ∀ x ∈ allx ss.length p ++ (List.range j).map (fun i => (q, i)), x.1 ∈ L ∧ x.2 < ss.length := fun x hx => mem_allx.mp (by rw [← hY]; exact List.mem_append.mpr (.inl hx))
              generalize hlat : (allx ss.length p ++ (List.range j).map fun i => (q, i)).foldl (addx (wAct ss) (F ++ L)) [] = later at pn pe hX ⊢
              have hlm : ∀ z ∈ F ++ L ++ later, z.1 ∈ mapsAll c := fun z hz => by
                rcases List.mem_append.mp hz with hz | hz
                · exact hI z hz
                · obtain ⟨x, hx, rfl⟩ := pe z hz
                  obtain ⟨y1, y2⟩ := hsub x hx
                  exact (hs.act (by omega) (hI x.1 (List.mem_append.mpr (.inr y1))) y2).2
              have hsz := keys_small h1 h2 pn hlm
              rw [List.length_append] at hsz
              rw [kD]
              (repeat' tm_at "dlS")
              refine ⟨_, join_eq (by omega) hg, ?_⟩
              rw [eA]
              (repeat' tm_at "dlS")
              refine x_getR (row := wAct ss q.1 j) ?_
              cases hg1 : aget (fDs wordD (F ++ L)) (wAct ss q.1 j) with
              | some v =>
                have hin1 := fDs_some hg1
                have hadd : addx (wAct ss) (F ++ L) later (q, j) = later := by
                  unfold addx
                  rw [if_pos]
                  rw [List.map_append]
                  exact List.mem_append.mpr (.inl hin1)
                (repeat' tm_at "dlS")
                refine ⟨fun h => by simp at h, fun _ => ?_⟩
                (repeat' tm_at "dlS")
                exact ⟨j + 1, _, _, _, rfl, hjl, by rw [hX, hadd]⟩
              | none =>
                have hni1 := fDs_none hg1
                (repeat' tm_at "dlS")
                refine ⟨fun _ => ?_, fun h => by simp at h⟩
                (repeat' tm_at "dlS")
                refine x_getR (row := wAct ss q.1 j) ?_
                cases hg2 : aget (fDs wordD later) (wAct ss q.1 j) with
                | some v =>
                  have hin1 := fDs_some hg2
                  have hadd : addx (wAct ss) (F ++ L) later (q, j) = later := by
                    unfold addx
                    rw [if_pos]
                    rw [List.map_append]
                    exact List.mem_append.mpr (.inr hin1)
                  (repeat' tm_at "dlS")
                  refine ⟨fun h => by simp at h, fun _ => ?_⟩
                  (repeat' tm_at "dlS")
                  exact ⟨j + 1, _, _, _, rfl, hjl, by rw [hX, hadd]⟩
                | none =>
                  have hni2 := fDs_none hg2
                  have hadd : addx (wAct ss) (F ++ L) later (q, j) = later ++ [(wAct ss q.1 j, q.2 ++ [j])] := by
                    unfold addx
                    rw [if_neg]
                    · rfl
                    · rw [List.map_append]
                      intro h
                      rcases List.mem_append.mp h with h | h
                      · exact hni1 h
                      · exact hni2 h
                  (repeat' tm_at "dlS")
                  refine ⟨fun _ => ?_, fun h => by simp at h⟩
                  (repeat' tm_at "dlS")
                  refine x_ixDR (row := mapL c (rfn q.1)) hqget ?_
                  (repeat' tm_at "dlS")
                  have hql : q.2.length = k := hB.lenL q hq
                  refine x_addT (by rw [iL_len, List.length_map, hql]; exact cap_lt (by simp only [List.length_cons, List.length_nil]; omega)) ?_
                  rw [show D.tup (iL (q.2.map fun i : Nat => (i : Int)) ++ [D.int (j : Nat)]) = wordD (q.2 ++ [j]) by simp [wordD, iL]]
                  (repeat' tm_at "dlS")
                  refine x_putR (row := wAct ss q.1 j) (by rw [fDs_len]; exact Nat.lt_of_le_of_lt (show later.length ≤ 2304 by omega) (by decide)) ?_
                  rw [fDs_put hni2]
                  (repeat' tm_at "dlS")
                  exact ⟨j + 1, _, _, _, rfl, hjl, by rw [hX, hadd]⟩
            · rintro e ⟨j, x6, x7, x8, h0, hj, rfl⟩
              have hjl : j = ss.length := by
                rcases Nat.lt_or_ge j ss.length with h | h
                · rw [List.drop_eq_getElem_cons h, List.map_cons, enumD] at h0
                  cases h0
                · omega
              subst hjl
              refine ⟨p ++ [q], r, .im (mapD c (rfn q.1)), x6, x7, x8, rfl, by rw [← hp]; simp, ?_⟩
              simp [allx]
        · rintro e ⟨p, r, x5, x6, x7, x8, h0, hp, rfl⟩
          cases r with
          | cons _ _ => cases h0
          | nil =>
            rw [List.append_nil] at hp
            subst hp
            exact ⟨x5, x6, x7, x8, rfl⟩
      rintro e ⟨x5, x6, x7, x8, rfl⟩
      (repeat' tm_at "dlS")
      refine ⟨45 - k, by omega, k + 1, .im (tDd (fDs wordD (nxw (wAct ss) ss.length (F ++ L) L))), x5, x6, x7, x8, by omega, ?_⟩
      rw [hlay]
      rfl
    · have hL0 : L = [] := by
        cases L with
        | nil => rfl
        | cons _ _ => simp [fDs] at hv
      exact ⟨k, _, _, _, _, _, by omega, by rw [hL]; exact hL0, by rw [hL, hF]⟩
  rintro e ⟨k, x4, x5, x6, x7, x8, hk, hend, rfl⟩
  have hw : words c ss = (lay (wAct ss) ss.length (rowI c) k).1 := by
    have := (lay_stop hend (50 - k)).2
    rw [show k + (50 - k) = 50 by omega] at this
    exact this
  (repeat' tm_at "dlS")
  rw [hw]
  rfl
theorem count_generated_eq {c : Int} {ss : List (List Int)} (h1 : 1 ≤ c) (h2 : c ≤ 8) (hs : Sm c ss) (l1 : 1 ≤ ss.length) (l2 : ss.length ≤ 4) : f_count_generated [.int c, someD ss] = some (.int (words c ss).length) := by
  refine run_D (e := [.im (.int c), .im (someD ss)]) rfl rfl ?_
  unfold c_count_generated
  (repeat' tm_at "dlS")
  refine ⟨_, check_some_eq h1 h2 hs l1 l2, ?_⟩
  (repeat' tm_at "dlS")
  refine ⟨_, shortest_words_eq h1 h2 hs l2, ?_⟩
  (repeat' tm_at "dlS")
  refine x_lenDR ?_
  rw [fDs_len]
theorem shortest_word_eq {c : Int} {ss : List (List Int)} {g : Int → Int} (h1 : 1 ≤ c) (h2 : c ≤ 8) (hs : Sm c ss) (l1 : 1 ≤ ss.length) (l2 : ss.length ≤ 4) (hg : Eg c g) : f_shortest_word [.int c, someD ss, mapD c g] = some ((aget (fDs wordD (words c ss)) (mapL c g)).getD .non) := by
  refine run_D (e := [.im (.int c), .im (someD ss), .im (mapD c g)]) rfl rfl ?_
  unfold c_shortest_word
  (repeat' tm_at "dlS")
  refine ⟨_, check_some_eq h1 h2 hs l1 l2, ?_⟩
  (repeat' tm_at "dlS")
  refine ⟨_, check_effect_eq ⟨h1, by omega⟩ hg, ?_⟩
  (repeat' tm_at "dlS")
  refine ⟨_, shortest_words_eq h1 h2 hs l2, ?_⟩
  (repeat' tm_at "dlS")
  refine x_getDR (row := mapL c g) ?_
  rfl
theorem law_source_eq (c : Int) {t : Int} (h0 : 0 ≤ t) (h1 : t ≤ 100) : ∃ s, f_law_source [.int c, .int t] = some s ∧ Src 0 s := by
  by_cases hc : (10 : Int) ^ (18 : Int).toNat ≤ c
  · refine ⟨_, run_N (v := [.int (c - 10 ^ (18 : Int).toNat), .int (c % 2147483579), .int t]) (e := [.im (.int c), .im (.int t)]) rfl rfl ?_, _, _, _, rfl, by omega, by omega, h0, by omega⟩
    unfold c_law_source
    (repeat' (first | ((with_reducible refine c_decT ?_ ?_); · first | decide | rfl) | ((with_reducible refine c_decF ?_ ?_); · decide) | ((with_reducible apply x_pow); · decide) | (with_reducible refine c_decT hc ?_) | tm_at "dlS"))
    rfl
  · refine ⟨_, run_N (v := [.int 0, .int (c % 2147483579), .int t]) (e := [.im (.int c), .im (.int t)]) rfl rfl ?_, _, _, _, rfl, by omega, by omega, h0, by omega⟩
    unfold c_law_source
    (repeat' (first | ((with_reducible refine c_decT ?_ ?_); · first | decide | rfl) | ((with_reducible refine c_decF ?_ ?_); · decide) | ((with_reducible apply x_pow); · decide) | (with_reducible refine c_decF hc ?_) | tm_at "dlS"))
    rfl
theorem w_source {c t : Int} {Q : List D → Prop} (h0 : 0 ≤ t) (h1 : t ≤ 100) (q : ∀ s, Src 0 s → Q s) : ∃ s, f_law_source [.int c, .int t] = some s ∧ Q s := by
  obtain ⟨s, h, hs⟩ := law_source_eq c h0 h1
  exact ⟨s, h, q s hs⟩
theorem law_draw_eq {n : Nat} {s : List D} {z : Int} (hs : Src n s) (hn : n ≤ 1000000000) (h1 : 0 < z) (h2 : z < 2 ^ 64) : ∃ d s', f_law_draw s [.int z] = some (d, s') ∧ ∃ k, d = .int k ∧ 0 ≤ k ∧ k < z ∧ Src (n + 1) s' := by
  obtain ⟨a, b, t, rfl, hb0, hb1, ht0, ht1⟩ := hs
  refine run_I (e := [.ow [.int a, .int b, .int t], .im (.int z), .un, .un]) rfl rfl ?_
  unfold c_law_draw
  (repeat' (first | ((with_reducible refine c_decT ?_ ?_); · first | decide | rfl) | ((with_reducible refine c_decF ?_ ?_); · decide) | (with_reducible refine c_dec (fun h => ?_) (fun h => ?_)) | (with_reducible refine x_mod h1 ?_) | (with_reducible refine x_div ⟨h1, h2⟩ ?_) | ((with_reducible apply x_pow); · omega) | tm_at "dlS"))
  · refine ⟨_, _, rfl, rfl, _, rfl, Int.emod_nonneg _ (by omega), Int.emod_lt_of_pos _ h1, ?_⟩
    exact ⟨_, _, _, rfl, hb0, hb1, ht0, by omega⟩
  · refine ⟨_, _, rfl, rfl, _, rfl, Int.emod_nonneg _ (by omega), Int.emod_lt_of_pos _ h1, ?_⟩
    exact ⟨_, _, _, rfl, hb0, hb1, by omega, by omega⟩
theorem w_draw {n : Nat} {s : List D} {z : Int} {Q : D → List D → Prop} (hs : Src n s) (hn : n ≤ 1000000000) (h1 : 0 < z) (h2 : z < 2 ^ 64) (q : ∀ k s', 0 ≤ k → k < z → Src (n + 1) s' → Q (.int k) s') :
    ∃ d s', f_law_draw s [.int z] = some (d, s') ∧ Q d s' := by
  obtain ⟨d, s', h, k, rfl, h3, h4, h5⟩ := law_draw_eq hs hn h1 h2
  exact ⟨_, s', h, q k s' h3 h4 h5⟩
theorem law_choice_eq {n : Nat} {s : List D} {xs : List D} (hs : Src n s) (hn : n ≤ 1000000000) (h1 : xs ≠ []) (h2 : xs.length ≤ 1000000) : ∃ d s', f_law_choice s [.lst xs] = some (d, s') ∧ d ∈ xs ∧ Src (n + 1) s' := by
  refine run_I (e := [.ow s, .im (.lst xs)]) rfl rfl ?_
  have hl : 0 < xs.length := List.length_pos_iff.mpr h1
  unfold c_law_choice
  (repeat' tm_at "dlS")
  refine w_draw hs hn (by omega) (by omega) fun k s' hk0 hk1 hs' => ?_
  (repeat' tm_at "dlS")
  have e := List.getElem?_eq_getElem (l := xs) (i := k.toNat) (by omega)
  refine x_ixL (at_nat hk0 e) ⟨_, _, rfl, rfl, List.getElem_mem _, hs'⟩
theorem w_choice {n : Nat} {s : List D} {xs : List D} {Q : D → List D → Prop} (hs : Src n s) (hn : n ≤ 1000000000) (h1 : xs ≠ []) (h2 : xs.length ≤ 1000000) (q : ∀ d s', d ∈ xs → Src (n + 1) s' → Q d s') :
    ∃ d s', f_law_choice s [.lst xs] = some (d, s') ∧ Q d s' := by
  obtain ⟨d, s', h, h3, h4⟩ := law_choice_eq hs hn h1 h2
  exact ⟨_, s', h, q d s' h3 h4⟩
theorem law_kind_non : f_law_kind [.non] = some (.int 6) := rfl
theorem law_kind_bl (b : Bool) : f_law_kind [.bl b] = some (.int 1) := rfl
theorem law_kind_int (i : Int) : f_law_kind [.int i] = some (.int 2) := rfl
theorem law_kind_str (s : Str) : f_law_kind [.str s] = some (.int 3) := rfl
theorem law_kind_lst (xs : List D) : f_law_kind [.lst xs] = some (.int 4) := rfl
theorem law_kind_tup (xs : List D) : f_law_kind [.tup xs] = some (.int 5) := rfl
theorem law_equal_refl : ∀ {n : Nat} {d : D}, n ≤ 50 → Wl n d → f_law_equal (n + 1) [d, d] = some (.bl true) := by
  intro n
  induction n with
  | zero =>
    intro d hn h
    refine run_D (e := [.im d, .im d, .un, .un]) rfl rfl ?_
    unfold c_law_equal
    cases d with
    | non => (repeat' (first | ((with_reducible refine c_decT ?_ ?_); · first | decide | rfl) | ((with_reducible refine c_decF ?_ ?_); · decide) | (with_reducible refine ⟨_, law_kind_non, ?_⟩) | (with_reducible refine x_eqR h (by omega) ?_) | tm_at "dlS")); rfl
    | bl b => (repeat' (first | ((with_reducible refine c_decT ?_ ?_); · first | decide | rfl) | ((with_reducible refine c_decF ?_ ?_); · decide) | (with_reducible refine ⟨_, law_kind_bl b, ?_⟩) | (with_reducible refine x_eqR h (by omega) ?_) | tm_at "dlS")); rfl
    | int i => (repeat' (first | ((with_reducible refine c_decT ?_ ?_); · first | decide | rfl) | ((with_reducible refine c_decF ?_ ?_); · decide) | (with_reducible refine ⟨_, law_kind_int i, ?_⟩) | (with_reducible refine x_eqR h (by omega) ?_) | tm_at "dlS")); rfl
    | str i => (repeat' (first | ((with_reducible refine c_decT ?_ ?_); · first | decide | rfl) | ((with_reducible refine c_decF ?_ ?_); · decide) | (with_reducible refine ⟨_, law_kind_str i, ?_⟩) | (with_reducible refine x_eqR h (by omega) ?_) | tm_at "dlS")); rfl
    | lst xs => exact h.elim
    | tup xs => exact h.elim
    | dK _ _ => exact h.elim
    | dT _ _ => exact h.elim
  | succ n ih =>
    intro d hn h
    refine run_D (e := [.im d, .im d, .un, .un]) rfl rfl ?_
    unfold c_law_equal
    cases d with
    | non => (repeat' (first | ((with_reducible refine c_decT ?_ ?_); · first | decide | rfl) | ((with_reducible refine c_decF ?_ ?_); · decide) | (with_reducible refine ⟨_, law_kind_non, ?_⟩) | (with_reducible refine x_eqR h (by omega) ?_) | tm_at "dlS")); rfl
    | bl b => (repeat' (first | ((with_reducible refine c_decT ?_ ?_); · first | decide | rfl) | ((with_reducible refine c_decF ?_ ?_); · decide) | (with_reducible refine ⟨_, law_kind_bl b, ?_⟩) | (with_reducible refine x_eqR h (by omega) ?_) | tm_at "dlS")); rfl
    | int i => (repeat' (first | ((with_reducible refine c_decT ?_ ?_); · first | decide | rfl) | ((with_reducible refine c_decF ?_ ?_); · decide) | (with_reducible refine ⟨_, law_kind_int i, ?_⟩) | (with_reducible refine x_eqR h (by omega) ?_) | tm_at "dlS")); rfl
    | str i => (repeat' (first | ((with_reducible refine c_decT ?_ ?_); · first | decide | rfl) | ((with_reducible refine c_decF ?_ ?_); · decide) | (with_reducible refine ⟨_, law_kind_str i, ?_⟩) | (with_reducible refine x_eqR h (by omega) ?_) | tm_at "dlS")); rfl
    | dK _ _ => exact h.elim
    | dT _ _ => exact h.elim
    | lst xs =>
      (repeat' (first | ((with_reducible refine c_decT ?_ ?_); · first | decide | rfl) | ((with_reducible refine c_decF ?_ ?_); · decide) | (with_reducible refine ⟨_, law_kind_lst xs, ?_⟩) | tm_at "dlS"))
      refine w_compP (fun _ => false) (fun _ => .non) ?_
      (repeat' tm_at "dlS")
      refine ⟨by rw [len_enumD]; exact h.1, ?_, rfl, rfl, ?_⟩
      · intro d hd
        obtain ⟨k, x, rfl, hx⟩ := mem_enumD hd
        have hk : k < xs.length := by
          rcases Nat.lt_or_ge k xs.length with h1 | h1
          · exact h1
          · rw [List.getElem?_eq_none h1] at hx; cases hx
        have hw := h.2 x (List.mem_of_getElem? hx)
        refine ⟨_, rfl, rfl, rfl, ?_⟩
        (repeat' tm_at "dlS")
        refine x_ixL (at_nat (by omega) (d := x) (by simpa using hx)) ?_
        (repeat' tm_at "dlS")
        refine ⟨_, ih (by omega) hw, ?_⟩
        (repeat' tm_at "dlS")
        exact ⟨rfl, rfl, fun z => nomatch z⟩
      · (repeat' tm_at "dlS")
        rw [List.filter_eq_nil_iff.mpr (fun _ _ => Bool.false_ne_true)]
        (repeat' tm_at "dlS")
        refine x_eqR (n := 1) ⟨by decide, fun x hx => nomatch hx⟩ (by omega) ?_
        rfl
    | tup xs =>
      (repeat' (first | ((with_reducible refine c_decT ?_ ?_); · first | decide | rfl) | ((with_reducible refine c_decF ?_ ?_); · decide) | (with_reducible refine ⟨_, law_kind_tup xs, ?_⟩) | tm_at "dlS"))
      refine w_compP (fun _ => false) (fun _ => .non) ?_
      (repeat' tm_at "dlS")
      refine ⟨by rw [len_enumD]; exact h.1, ?_, rfl, rfl, ?_⟩
      · intro d hd
        obtain ⟨k, x, rfl, hx⟩ := mem_enumD hd
        have hk : k < xs.length := by
          rcases Nat.lt_or_ge k xs.length with h1 | h1
          · exact h1
          · rw [List.getElem?_eq_none h1] at hx; cases hx
        have hw := h.2 x (List.mem_of_getElem? hx)
        refine ⟨_, rfl, rfl, rfl, ?_⟩
        (repeat' tm_at "dlS")
        refine x_ixT (at_nat (by omega) (d := x) (by simpa using hx)) ?_
        (repeat' tm_at "dlS")
        refine ⟨_, ih (by omega) hw, ?_⟩
        (repeat' tm_at "dlS")
        exact ⟨rfl, rfl, fun z => nomatch z⟩
      · (repeat' tm_at "dlS")
        rw [List.filter_eq_nil_iff.mpr (fun _ _ => Bool.false_ne_true)]
        (repeat' tm_at "dlS")
        refine x_eqR (n := 1) ⟨by decide, fun x hx => nomatch hx⟩ (by omega) ?_
        rfl
theorem w_equal {n : Nat} {d : D} {Q : D → Prop} (h : Wl n d) (hn : n ≤ 11) (q : Q (.bl true)) : ∃ z, f_law_equal 12 [d, d] = some z ∧ Q z := by
  have h' : Wl 11 d := h.up hn
  exact ⟨_, law_equal_refl (n := 11) (by omega) h', q⟩
theorem law_effect_eq {n : Nat} {s : List D} {c : Int} (hs : Src n s) (hn : n ≤ 100000000) (hc : Cok c) :
    ∃ d s', f_law_effect s [.int c] = some (d, s') ∧ ∃ g, d = mapD c g ∧ Eg c g ∧ Src (n + 200) s' := by
  have hc1 := hc.1
  have hc2 := hc.2
  refine run_I (e := [.ow s, .im (.int c), .un, .un, .un, .un, .un]) rfl rfl ?_
  unfold c_law_effect
  (repeat' tm_at "dlS")
  refine w_choice hs (by omega) (by simp) (by simp) fun d s1 hd hs1 => ?_
  have ho : ∃ o : Int, d = .int o ∧ 0 < o ∧ o < 2 ^ 64 := by
    simp only [List.mem_cons, List.not_mem_nil, or_false] at hd
    rcases hd with rfl | rfl | rfl | rfl <;> exact ⟨_, rfl, by omega, by omega⟩
  obtain ⟨o, rfl, ho1, ho2⟩ := ho
  (repeat' tm_at "dlT")
  refine w_seqM (fun e => ∃ (s' : List D) (st : List Int) (x4 : Sl), st.length = c.toNat ∧ (∀ x ∈ st, x = 0 ∨ x = 1) ∧ Src (n + 1 + 2 * st.length) s' ∧ e = [.ow s', .im (.int c), .im (.int o), .ow (iL st), x4, .un, .un]) ?_ ?_
  · refine w_forI (fun ds e => ∃ (s' : List D) (st : List Int) (x4 : Sl), st.length + ds.length = c.toNat ∧ (∀ x ∈ st, x = 0 ∨ x = 1) ∧ Src (n + 1 + 2 * st.length) s' ∧ e = [.ow s', .im (.int c), .im (.int o), .ow (iL st), x4, .un, .un]) ?_ ?_ ?_
    · (repeat' tm_at "dlS")
      refine e_rng (by decide) (inR_of (by omega) (by omega)) ?_
      rw [rng_zero]
      exact ⟨s1, [], _, by rw [iL_len, len_upto]; simp, (fun x hx => nomatch hx), hs1, rfl⟩
    · rintro d ds e ⟨s', st, x4, h1, h2, h3, rfl⟩
      simp only [List.length_cons] at h1
      (repeat' tm_at "dlU")
      have fin : ∀ (s2 : List D) (v : Int) (x4 : Sl), (v = 0 ∨ v = 1) → Src (n + 1 + 2 * (st ++ [v]).length) s2 →
          (∃ (s' : List D) (st' : List Int) (x4' : Sl), st'.length + ds.length = c.toNat ∧ (∀ x ∈ st', x = 0 ∨ x = 1) ∧ Src (n + 1 + 2 * st'.length) s' ∧ [.ow s2, .im (.int c), .im (.int o), .ow (iL (st ++ [v])), x4, .un, .un] = [.ow s', .im (.int c), .im (.int o), .ow (iL st'), x4', .un, .un]) := by
        intro s2 v x4 hv hs2
        refine ⟨s2, st ++ [v], x4, by simp; omega, ?_, hs2, rfl⟩
        intro x hx
        rcases List.mem_append.mp hx with hx | hx
        · exact h2 x hx
        · simp only [List.mem_cons, List.not_mem_nil, or_false] at hx; subst hx; exact hv
      have els : ∀ (s2 : List D) (x4 : Sl), Src (n + 1 + 2 * st.length + 1) s2 →
          wpS (sApp 3 (mIf (tVal (mBin oEq (mFI f_law_draw 0 (mCons (mVar 2) mNil)) (mC (.int 0)))) (mC (.int 0)) (mC (.int 1)))) [.ow s2, .im (.int c), .im (.int o), .ow (iL st), x4, .un, .un]
            (fun e => ∃ (s' : List D) (st : List Int) (x4 : Sl), st.length + ds.length = c.toNat ∧ (∀ x ∈ st, x = 0 ∨ x = 1) ∧ Src (n + 1 + 2 * st.length) s' ∧ e = [.ow s', .im (.int c), .im (.int o), .ow (iL st), x4, .un, .un])
            (fun e => ∃ (s' : List D) (st : List Int) (x4 : Sl), st.length = c.toNat ∧ (∀ x ∈ st, x = 0 ∨ x = 1) ∧ Src (n + 1 + 2 * st.length) s' ∧ e = [.ow s', .im (.int c), .im (.int o), .ow (iL st), x4, .un, .un])
            (fun e => ∃ (s' : List D) (st : List Int) (x4 : Sl), st.length + ds.length = c.toNat ∧ (∀ x ∈ st, x = 0 ∨ x = 1) ∧ Src (n + 1 + 2 * st.length) s' ∧ e = [.ow s', .im (.int c), .im (.int o), .ow (iL st), x4, .un, .un])
            (fun r e' => ∃ v s', r = .im v ∧ e'.head? = some (.ow s') ∧ ∃ g, v = mapD c g ∧ Eg c g ∧ Src (n + 200) s') := by
        intro s2 x4 hs2
        (repeat' tm_at "dlS")
        refine w_draw hs2 (by omega) ho1 ho2 fun q s3 _ _ hs3 => ?_
        (repeat' tm_at "dlS")
        refine c_dec (fun _ => ?_) (fun _ => ?_)
        · (repeat' tm_at "dlS")
          refine ⟨by rw [iL_len]; show _ < 16777216; omega, ?_⟩
          refine e_set (e2 := [.ow s3, .im (.int c), .im (.int o), .ow (iL (st ++ [0])), x4, .un, .un]) (by simp [iL]) ?_
          exact fin s3 0 x4 (.inl rfl) (hs3.mono (by simp; omega))
        · (repeat' tm_at "dlS")
          refine ⟨by rw [iL_len]; show _ < 16777216; omega, ?_⟩
          refine e_set (e2 := [.ow s3, .im (.int c), .im (.int o), .ow (iL (st ++ [1])), x4, .un, .un]) (by simp [iL]) ?_
          exact fin s3 1 x4 (.inr rfl) (hs3.mono (by simp; omega))
      refine w_sif (wp_mono (Q := fun v e => ∃ s2 : List D, (v = true → st ≠ []) ∧ Src (n + 1 + 2 * st.length + 1) s2 ∧ e = [.ow s2, .im (.int c), .im (.int o), .ow (iL st), .im d, .un, .un]) ?_ ?_)
      · have hlen : st.length ≤ DL.cap := cap_lt (by omega)
        (repeat' tm_at "dlT")
        refine x_neL (b := []) hlen (by decide) ?_
        (repeat' tm_at "dlT")
        refine c_dec (fun hne => ?_) (fun hne => ?_)
        · exact ⟨s', (fun h => nomatch h), h3.mono (by omega), rfl⟩
        · (repeat' tm_at "dlT")
          refine w_draw h3 (by omega) (by omega) (by omega) fun q s2 _ _ hs2 => ?_
          (repeat' tm_at "dlT")
          exact ⟨s2, fun _ => hne, hs2, rfl⟩
      · rintro v e ⟨s2, hv, hs2, rfl⟩
        refine ⟨fun hv1 => ?_, fun _ => els s2 _ hs2⟩
        have hne := hv hv1
        have hl : st.getLast? = some (st.getLast?.getD 0) := by
          cases st with
          | nil => exact absurd rfl hne
          | cons a r => exact getLast_cons a r
        have hm : st.getLast?.getD 0 ∈ st := List.mem_of_getLast? hl
        (repeat' tm_at "dlS")
        refine ⟨_, at_last (getLast_iL hl), ?_⟩
        (repeat' tm_at "dlS")
        refine ⟨by rw [iL_len]; show _ < 16777216; omega, ?_⟩
        refine e_set (e2 := [.ow s2, .im (.int c), .im (.int o), .ow (iL (st ++ [st.getLast?.getD 0])), .im d, .un, .un]) (by simp [iL]) ?_
        exact fin s2 _ _ (h2 _ hm) (hs2.mono (by simp; omega))
    · rintro e ⟨s', st, x4, h1, h2, h3, rfl⟩
      exact ⟨s', st, x4, by simpa using h1, h2, h3, rfl⟩
  · rintro e ⟨s', st, x4, h1, h2, h3, rfl⟩
    have hsum : ∀ l : List Int, (∀ x ∈ l, x = 0 ∨ x = 1) → 0 ≤ l.sum ∧ l.sum ≤ l.length := by
      intro l
      induction l with
      | nil => intro _; simp
      | cons a l ih =>
        intro h
        have h4 := ih fun x hx => h x (List.mem_cons_of_mem _ hx)
        have h5 := h a (List.mem_cons_self ..)
        simp only [List.sum_cons, List.length_cons]
        omega
    have hs0 := hsum st h2
    (repeat' tm_at "dlS")
    refine x_sum ?_
    (repeat' tm_at "dlS")
    refine w_draw h3 (by omega) (by omega) (by omega) fun a s2 ha0 ha1 hs2 => ?_
    (repeat' tm_at "dlS")
    -- the levels, one step after another
    refine w_forI (fun ds e => ∃ (p r : List Int) (L : List Int) (x6 : Sl), ds = iL r ∧ p ++ r = st ∧ L.length = p.length + 1 ∧ (∀ i : Nat, i ≤ p.length → L[i]? = some (a + (p.take i).sum)) ∧ e = [.ow s2, .im (.int c), .im (.int o), .im (.lst (iL st)), x4, .ow (iL L), x6]) ?_ ?_ ?_
    · (repeat' tm_at "dlS")
      refine ⟨[], st, [a], _, rfl, rfl, rfl, ?_, rfl⟩
      intro i hi
      simp only [List.length_nil, Nat.le_zero] at hi
      subst hi
      simp
    · rintro d ds e ⟨p, r, L, x6, hr, hp, hL, hI, rfl⟩
      obtain ⟨v, r2, rfl, rfl, rfl⟩ := iL_cons_inv hr
      have hpl : p.length + (v :: r2).length = st.length := by rw [← hp, List.length_append]
      simp only [List.length_cons] at hpl
      have hlast : L.getLast? = some (a + p.sum) := by
        rw [List.getLast?_eq_getElem?, hL, Nat.add_sub_cancel, hI _ (Nat.le_refl _), List.take_length]
      (repeat' tm_at "dlS")
      refine ⟨_, at_last (getLast_iL hlast), ?_⟩
      (repeat' tm_at "dlS")
      refine ⟨by rw [iL_len, hL]; show _ < 16777216; omega, ?_⟩
      refine e_set (e2 := [.ow s2, .im (.int c), .im (.int o), .im (.lst (iL st)), x4, .ow (iL (L ++ [a + p.sum + v])), .im (.int v)]) (by simp [iL]) ?_
      refine ⟨p ++ [v], r2, L ++ [a + p.sum + v], _, rfl, by rw [← hp]; simp, by simp [hL], ?_, rfl⟩
      intro i hi
      simp only [List.length_append, List.length_cons, List.length_nil] at hi
      rcases Nat.lt_or_ge i (p.length + 1) with h | h
      · rw [List.getElem?_append_left (by omega), hI i (by omega), List.take_append_of_le_length (by omega)]
      · have e : i = p.length + 1 := by omega
        subst e
        rw [List.getElem?_append_right (by omega), hL, List.take_of_length_le (by simp)]
        simp
        omega
    · rintro e ⟨p, r, L, x6, hr, hp, hL, hI, rfl⟩
      cases r with
      | cons z r => simp [iL] at hr
      | nil =>
        rw [List.append_nil] at hp
        subst hp
        (repeat' tm_at "dlS")
        refine ⟨_, _, rfl, rfl, fun x => L[x.toNat]?.getD 0, ?_, ⟨?_, ?_⟩, hs2.mono (by omega)⟩
        · have e := list_map L
          have e2 : L.length = (c + 1).toNat := by omega
          rw [e2] at e
          show D.tup (iL L) = .tup (iL (mapL c _))
          rw [mapL, ← e]
        · intro x hx0 hx1
          have ht := hsum (p.take x.toNat) (fun y hy => h2 y (List.mem_of_mem_take hy))
          have ht2 := hsum (p.drop x.toNat) (fun y hy => h2 y (List.mem_of_mem_drop hy))
          have hd : p.sum = (p.take x.toNat).sum + (p.drop x.toNat).sum := by rw [← List.sum_append, List.take_append_drop]
          simp only [hI x.toNat (by omega), Option.getD_some]
          omega
        · intro x hx0 hx1
          have hxl : x.toNat < p.length := by omega
          have hx2 : (x + 1).toNat = x.toNat + 1 := by omega
          simp only [hx2, hI x.toNat (by omega), hI (x.toNat + 1) (by omega), Option.getD_some]
          have hx3 := h2 p[x.toNat] (List.getElem_mem hxl)
          rw [List.take_add_one, List.sum_append, List.getElem?_eq_getElem hxl]
          simp only [Option.toList_some, List.sum_cons, List.sum_nil]
          omega
theorem w_effect {n : Nat} {s : List D} {c : Int} {Q : D → List D → Prop} (hs : Src n s) (hn : n ≤ 100000000) (hc : Cok c) (q : ∀ g s', Eg c g → Src (n + 200) s' → Q (mapD c g) s') : ∃ d s', f_law_effect s [.int c] = some (d, s') ∧ Q d s' := by
  obtain ⟨d, s', h, g, rfl, h1, h2⟩ := law_effect_eq hs hn hc
  exact ⟨_, s', h, q g s' h1 h2⟩
theorem law_joined_eq {c : Int} {g h : Int → Int} (hc : c ≤ 60) (hg : Eg c g) : f_law_joined [mapD c g, mapD c h] = some (mapD c fun x => h (g x)) := by
  refine run_D (e := [.im (.tup (iL (mapL c g))), .im (.tup (iL (mapL c h))), .un]) rfl rfl ?_
  unfold c_law_joined
  (repeat' tm_at "dlS")
  refine w_compP (fun _ => true) (fun d => match d with | .int i => .int (h i) | _ => .non) ?_
  (repeat' tm_at "dlS")
  refine ⟨by rw [iL_len, mapL_len]; exact cap_lt (by omega), ?_, rfl, rfl, ?_⟩
  · intro d hd
    simp only [iL, mapL, List.mem_map] at hd
    obtain ⟨v, ⟨x, hx, rfl⟩, rfl⟩ := hd
    have hx := mem_upto hx
    have hi := hg.inr x hx.1 (by omega)
    refine ⟨_, rfl, rfl, rfl, ?_⟩
    (repeat' tm_at "dlS")
    refine ⟨rfl, rfl, fun _ => ?_⟩
    (repeat' tm_at "dlS")
    refine x_ixT (map_at h hi.1 hi.2) ⟨rfl, rfl⟩
  · rw [List.filter_eq_self.mpr (fun _ _ => rfl), map_iL _ h (fun _ => rfl)]
    (repeat' tm_at "dlS")
    simp only [mapD, mapL, List.map_map]
    rfl
theorem w_small_cap {n : Nat} {s : List D} {Q : D → List D → Prop} (hs : Src n s) (hn : n ≤ 100000000) (q : ∀ c s', 1 ≤ c → c ≤ 6 → Src (n + 1) s' → Q (.int c) s') : ∃ d s', f_law_small_cap s [] = some (d, s') ∧ Q d s' := by
  suffices h : ∃ d s', f_law_small_cap s [] = some (d, s') ∧ ∃ c, d = .int c ∧ 1 ≤ c ∧ c ≤ 6 ∧ Src (n + 1) s' by
    obtain ⟨d, s', h, c, rfl, h1, h2, h3⟩ := h
    exact ⟨_, s', h, q c s' h1 h2 h3⟩
  refine run_I (e := [.ow s]) rfl rfl ?_
  unfold c_law_small_cap
  (repeat' tm_at "dlS")
  refine w_choice hs (by omega) (by simp) (by simp) fun d s1 hd hs1 => ?_
  (repeat' tm_at "dlS")
  simp only [List.mem_cons, List.not_mem_nil, or_false] at hd
  rcases hd with rfl | rfl | rfl | rfl | rfl | rfl <;> exact ⟨_, _, rfl, rfl, _, rfl, by omega, by omega, hs1⟩
theorem w_some {n : Nat} {s : List D} {c : Int} {Q : D → List D → Prop} (hs : Src n s) (hn : n ≤ 90000000) (hc : Cok c) (q : ∀ ss s', Sm c ss → 1 ≤ ss.length → ss.length ≤ 4 → Src (n + 1000) s' → Q (someD ss) s') : ∃ d s', f_law_some s [.int c] = some (d, s') ∧ Q d s' := by
  suffices h : ∃ d s', f_law_some s [.int c] = some (d, s') ∧ ∃ ss, d = someD ss ∧ Sm c ss ∧ 1 ≤ ss.length ∧ ss.length ≤ 4 ∧ Src (n + 1000) s' by
    obtain ⟨d, s', h, ss, rfl, a1, a2, a3, a4⟩ := h
    exact ⟨_, s', h, q ss s' a1 a2 a3 a4⟩
  have hc1 := hc.1
  refine run_I (e := [.ow s, .im (.int c), .un]) rfl rfl ?_
  unfold c_law_some
  (repeat' tm_at "dlS")
  refine w_comp (fun e1 ds acc e => ∃ (ss : List (List Int)) (s' : List D) (x2 : Sl) (k : Int), 0 ≤ k ∧ k < 4 ∧ acc = ss.map tD ∧ Sm c ss ∧ (ds.length : Int) + ss.length = 1 + k ∧ Src (n + 1 + 200 * ss.length) s' ∧ e = [.ow s', .im (.int c), x2] ∧ e1.length = 3 ∧ e1[2]? = some .un) ?_
  (repeat' tm_at "dlS")
  refine w_draw hs (by omega) (by omega) (by omega) fun k s1 hk0 hk1 hs1 => ?_
  (repeat' tm_at "dlS")
  refine e_rng (by decide) (inR_of (by omega) (by omega)) ?_
  rw [rng_zero]
  refine ⟨⟨[], s1, _, k, hk0, hk1, rfl, (fun _ h => nomatch h), by rw [iL_len, len_upto]; simp only [List.length_nil]; omega, hs1, rfl, rfl, rfl⟩, ?_, ?_⟩
  · rintro d ds acc e ⟨ss, s', x2, k, a0, a1, rfl, a3, a4, a5, rfl, a7, a8⟩
    have hsl : ss.length ≤ 4 := by rw [List.length_cons] at a4; omega
    refine ⟨[.ow s', .im (.int c), .im d], rfl, ?_⟩
    (repeat' tm_at "dlS")
    refine w_effect a5 (by omega) hc fun g s2 hg hs2 => ?_
    (repeat' tm_at "dlS")
    refine ⟨by rw [List.length_map]; unfold DL.cap; omega, ss ++ [mapL c g], s2, _, k, a0, a1, by rw [List.map_append]; rfl, fun r hr => ?_, ?_, ?_, rfl, a7, a8⟩
    · rcases List.mem_append.mp hr with hr | hr
      · exact a3 r hr
      · simp only [List.mem_cons, List.not_mem_nil, or_false] at hr
        rw [hr]
        exact maps_all (by omega) hg
    · rw [List.length_cons] at a4
      rw [List.length_append]
      simp only [List.length_cons, List.length_nil]
      omega
    · rw [List.length_append]
      exact hs2.mono (by simp only [List.length_cons, List.length_nil]; omega)
  · rintro acc e2 ⟨ss, s', x2, k, a0, a1, rfl, a3, a4, a5, rfl, a7, a8⟩
    have hl : ss.length ≤ 4 ∧ 1 ≤ ss.length := by
      simp only [List.length_nil] at a4
      omega
    (repeat' tm_at "dlS")
    refine ⟨_, s', rfl, rfl, ss, rfl, a3, hl.2, hl.1, a5.mono ?_⟩
    omega
def itD (p : SW (List Int)) : D := .tup [wordD p.2, tD p.1]
theorem law_words_eq {c : Int} {ss : List (List Int)} (h1 : 1 ≤ c) (h2 : c ≤ 8) (hs : Sm c ss) (l2 : ss.length ≤ 4) : f_law_words [.int c, someD ss] = some (tDd (fDs wordD (words c ss))) := by
  have hBf := fun k => Bf.lay (act := wAct ss) (m := ss.length) (s0 := rowI c) k
  have hSh := short_rows h1 h2 hs
  have hin : ∀ k, ∀ p ∈ (lay (wAct ss) ss.length (rowI c) k).1 ++ (lay (wAct ss) ss.length (rowI c) k).2, p.1 ∈ mapsAll c := fun k p hp => by
    obtain ⟨r1, r2⟩ := (hBf k).run p hp
    rw [r1]
    exact rows_in (by omega) hs (rowI_in (by omega)) r2
  refine run_D (e := [.im (.int c), .im (.tup (ss.map tD)), .un, .un, .un, .un, .un, .un, .un, .un, .un, .un]) rfl rfl ?_
  unfold c_law_words
  (repeat' tm_at "dlT")
  refine w_seqM (fun e => e = [.im (.int c), .im (.tup (ss.map tD)), .im (tD (rowI c)), .un, .un, .un, .un, .un, .un, .un, .un, .un]) ?_ ?_
  · (repeat' tm_at "dlS")
    refine w_rg ?_
    (repeat' tm_at "dlS")
    refine ⟨_, _, rfl, rfl, by decide, inR_of (by omega) (by omega), cap_lt (by omega), ?_⟩
    rw [rng_zero, show iL (upto (c + 1).toNat) = iL (rowI c) by rw [rowI, mapL, List.map_id']]
    (repeat' tm_at "dlS")
    rfl
  rintro e rfl
  refine w_seqM (fun e => e = [.im (.int c), .im (.tup (ss.map tD)), .im (tD (rowI c)), .od (.t (tDc (fDs wordD [(rowI c, [])]))), .im (.lst ([(rowI c, ([] : List Nat))].map itD)), .un, .un, .un, .un, .un, .un, .un]) ?_ ?_
  · (repeat' tm_at "dlS")
    refine ⟨rowI c, rfl, ?_⟩
    (repeat' tm_at "dlS")
    rfl
  rintro e rfl
  refine w_seqM (fun e => ∃ x4 x5 x6 x7 x8 x9 x10 x11 : Sl, e = [.im (.int c), .im (.tup (ss.map tD)), .im (tD (rowI c)), .od (.t (tDc (fDs wordD (words c ss)))), x4, x5, x6, x7, x8, x9, x10, x11]) ?_ ?_
  · refine w_while (n := 3000) (fun n e => ∃ (k : Nat) (x5 x6 x7 x8 x9 x10 x11 : Sl), n + k = 46 ∧ e = [.im (.int c), .im (.tup (ss.map tD)), .im (tD (rowI c)), .od (.t (tDc (fDs wordD ((lay (wAct ss) ss.length (rowI c) k).1 ++ (lay (wAct ss) ss.length (rowI c) k).2)))), .im (.lst ((lay (wAct ss) ss.length (rowI c) k).2.map itD)), x5, x6, x7, x8, x9, x10, x11]) 46 (by omega) ⟨0, _, _, _, _, _, _, _, rfl, rfl⟩ ?_
    rintro n e ⟨k, x5, x6, x7, x8, x9, x10, x11, hnk, rfl⟩
    have hB := hBf k
    have hI := hin k
    have hstop := fun h => lay_le (act := wAct ss) (m := ss.length) (s0 := rowI c) (k := k) hSh h
    have hlay : lay (wAct ss) ss.length (rowI c) (k + 1) = ((lay (wAct ss) ss.length (rowI c) k).1 ++ (lay (wAct ss) ss.length (rowI c) k).2, nxw (wAct ss) ss.length ((lay (wAct ss) ss.length (rowI c) k).1 ++ (lay (wAct ss) ss.length (rowI c) k).2) (lay (wAct ss) ss.length (rowI c) k).2) := rfl
    have hend : (lay (wAct ss) ss.length (rowI c) k).2 = [] → words c ss = (lay (wAct ss) ss.length (rowI c) k).1 := fun h => by
      have := (lay_stop h (50 - k)).2
      rw [show k + (50 - k) = 50 by omega] at this
      exact this
    generalize hF : (lay (wAct ss) ss.length (rowI c) k).1 = F at hB hI hlay hend ⊢
    generalize hL : (lay (wAct ss) ss.length (rowI c) k).2 = L at hB hI hstop hlay hend ⊢
    have hFL : (F ++ L).length ≤ 2304 := keys_small h1 h2 hB.nd hI
    have hLl : L.length ≤ 2304 := by rw [List.length_append] at hFL; omega
    (repeat' tm_at "dlS")
    refine x_neE (n := 3) ⟨by rw [List.length_map]; exact Nat.le_trans hLl (by decide), fun d hd => ?_⟩ (by omega) ?_
    · obtain ⟨p, hp, rfl⟩ := List.mem_map.mp hd
      have hpm := hI p (List.mem_append.mpr (.inr hp))
      refine ⟨show 2 ≤ DL.cap by decide, fun x hx => ?_⟩
      simp only [List.mem_cons, List.not_mem_nil, or_false] at hx
      rcases hx with rfl | rfl
      · exact (Wl.ints (xs := p.2.map fun i : Nat => (i : Int)) (by
          have hle : p.2.length ≤ 44 := hB.short hSh (List.mem_append.mpr (.inr hp))
          rw [List.length_map]
          exact Nat.le_trans hle (by decide)))
      · exact Wl.ints (xs := p.1) (by rw [← row_back (by omega) hpm, mapL_len]; exact cap_lt (by omega))
    (repeat' tm_at "dlS")
    refine ⟨fun hv => ?_, fun hv => ?_⟩
    · have hL0 : L = [] := by
        cases L with
        | nil => rfl
        | cons _ _ => simp at hv
      refine ⟨.im (.lst (L.map itD)), x5, x6, x7, x8, x9, x10, x11, ?_⟩
      rw [hend hL0, hL0, List.append_nil]
    · have hne : L ≠ [] := fun e => by rw [e] at hv; simp at hv
      have hk := hstop hne
      (repeat' tm_at "dlS")
      refine w_forI (fun ds e => ∃ (p r : List (SW (List Int))) (x6 x7 x8 x9 x10 x11 : Sl), ds = r.map itD ∧ p ++ r = L ∧ e = [.im (.int c), .im (.tup (ss.map tD)), .im (tD (rowI c)), .od (.t (tDc (fDs wordD ((F ++ L) ++ (allx ss.length p).foldl (addx (wAct ss) (F ++ L)) [])))), .im (.lst (L.map itD)), .ow (((allx ss.length p).foldl (addx (wAct ss) (F ++ L)) []).map itD), x6, x7, x8, x9, x10, x11]) ?_ ?_ ?_
      · (repeat' tm_at "dlS")
        refine ⟨[], L, x6, x7, x8, x9, x10, x11, rfl, rfl, ?_⟩
        simp [allx]
      · rintro d ds e ⟨p, r, x6, x7, x8, x9, x10, x11, h0, hp, rfl⟩
        cases r with
        | nil => cases h0
        | cons q r =>
          rw [List.map_cons, List.cons.injEq] at h0
          obtain ⟨rfl, rfl⟩ := h0
          have hq : q ∈ L := by rw [← hp]; simp
          have hqm : q.1 ∈ mapsAll c := hI q (List.mem_append.mpr (.inr hq))
          obtain ⟨hg, hgD⟩ := maps_fn (by omega) hqm
          rw [show itD q = .tup [wordD q.2, mapD c (rfn q.1)] by unfold itD; rw [hgD]]
          (repeat' tm_at "dlS")
          refine w_forI (fun ds e => ∃ (j : Nat) (x8 x9 x10 x11 : Sl), ds = enumD j ((ss.drop j).map tD) ∧ j ≤ ss.length ∧ e = [.im (.int c), .im (.tup (ss.map tD)), .im (tD (rowI c)), .od (.t (tDc (fDs wordD ((F ++ L) ++ (allx ss.length p ++ (List.range j).map fun i => (q, i)).foldl (addx (wAct ss) (F ++ L)) [])))), .im (.lst (L.map itD)), .ow (((allx ss.length p ++ (List.range j).map fun i => (q, i)).foldl (addx (wAct ss) (F ++ L)) []).map itD), .im (wordD q.2), .im (mapD c (rfn q.1)), x8, x9, x10, x11]) ?_ ?_ ?_
          · (repeat' tm_at "dlS")
            exact ⟨0, x8, x9, x10, x11, rfl, Nat.zero_le _, by simp⟩
          · rintro d ds e ⟨j, x8, x9, x10, x11, h0, hj, rfl⟩
            have hjl : j < ss.length := by
              rcases Nat.lt_or_ge j ss.length with h | h
              · exact h
              · rw [List.drop_eq_nil_of_le h] at h0
                cases h0
            rw [List.drop_eq_getElem_cons hjl, List.map_cons, enumD, List.cons.injEq] at h0
            obtain ⟨rfl, rfl⟩ := h0
            obtain ⟨kg, kD⟩ := maps_fn (c := c) (by omega) (hs _ (List.getElem_mem hjl))
            have eA : (mapL c (rfn q.1)).map (rfn ss[j]) = wAct ss q.1 j := by
              unfold wAct
              rw [row_back (by omega) hqm, List.getElem?_eq_getElem hjl]
              rfl
            obtain ⟨Y, hY⟩ := allx_cut (m := ss.length) (p := p) (q := q) (r := r) hjl
            rw [hp, List.append_assoc] at hY
            obtain ⟨pn, pe⟩ := hB.part hY
            have hX : (allx ss.length p ++ (List.range (j + 1)).map fun i => (q, i)).foldl (addx (wAct ss) (F ++ L)) [] = addx (wAct ss) (F ++ L) ((allx ss.length p ++ (List.range j).map fun i => (q, i)).foldl (addx (wAct ss) (F ++ L)) []) (q, j) := by
              rw [List.range_succ, List.map_append, ← List.append_assoc, List.foldl_append]
              rfl
            have hsub : ∀ x ∈ allx ss.length p ++ (List.range j).map (fun i => (q, i)), x.1 ∈ L ∧ x.2 < ss.length := fun x hx => mem_allx.mp (by rw [← hY]; exact List.mem_append.mpr (.inl hx))
            generalize hlat : (allx ss.length p ++ (List.range j).map fun i => (q, i)).foldl (addx (wAct ss) (F ++ L)) [] = later at pn pe hX ⊢
            have hlm : ∀ z ∈ F ++ L ++ later, z.1 ∈ mapsAll c := fun z hz => by
              rcases List.mem_append.mp hz with hz | hz
              · exact hI z hz
              · obtain ⟨x, hx, rfl⟩ := pe z hz
                obtain ⟨y1, y2⟩ := hsub x hx
                exact (hs.act (by omega) (hI x.1 (List.mem_append.mpr (.inr y1))) y2).2
            have hsz := keys_small h1 h2 pn hlm
            have hlz : later.length ≤ 2304 := by rw [List.length_append] at hsz; omega
            rw [kD]
            (repeat' tm_at "dlS")
            refine w_compQ (fun _ => true) (fun d => match d with | .int x => .int (rfn ss[j] x) | _ => .non) ?_
            (repeat' tm_at "dlS")
            refine ⟨_, by rw [iL_len, mapL_len]; exact cap_lt (by omega), (by simp only [backE, wipeE, List.set_cons_zero, List.set_cons_succ, List.getElem?_cons_zero, List.getElem?_cons_succ]; rfl), rfl, ?_, ?_⟩
            · intro d hd
              simp only [iL, mapL, List.mem_map] at hd
              obtain ⟨_, ⟨x, hx, rfl⟩, rfl⟩ := hd
              have hx := mem_upto hx
              have hgx := hg.inr x hx.1 (by omega)
              refine ⟨_, rfl, rfl, rfl, ?_⟩
              (repeat' tm_at "dlS")
              refine ⟨rfl, rfl, fun _ => ?_⟩
              (repeat' tm_at "dlS")
              refine x_ixM hgx.1 hgx.2 ?_
              exact ⟨rfl, rfl⟩
            rw [List.filter_eq_self.mpr (fun _ _ => rfl), map_iL _ (rfn ss[j]) (fun _ => rfl), eA]
            (repeat' tm_at "dlS")
            refine x_getR (row := wAct ss q.1 j) ?_
            cases hg1 : aget (fDs wordD (F ++ L ++ later)) (wAct ss q.1 j) with
            | some v =>
              have hin1 := fDs_some hg1
              have hadd : addx (wAct ss) (F ++ L) later (q, j) = later := by
                unfold addx
                rw [if_pos hin1]
              (repeat' tm_at "dlS")
              refine ⟨fun h => by simp at h, fun _ => ?_⟩
              (repeat' tm_at "dlS")
              exact ⟨j + 1, _, _, _, _, rfl, hjl, by rw [hX, hadd]⟩
            | none =>
              have hni1 := fDs_none hg1
              have hadd : addx (wAct ss) (F ++ L) later (q, j) = later ++ [(wAct ss q.1 j, q.2 ++ [j])] := by
                unfold addx
                rw [if_neg hni1]
                rfl
              have hql : q.2.length = k := hB.lenL q hq
              have ew : D.tup (iL (q.2.map fun i : Nat => (i : Int)) ++ [D.int (j : Nat)]) = wordD (q.2 ++ [j]) := by simp [wordD, iL]
              (repeat' tm_at "dlS")
              refine ⟨fun _ => ?_, fun h => by simp at h⟩
              (repeat' tm_at "dlS")
              refine x_addT (xs := iL (q.2.map fun i : Nat => (i : Int))) (by rw [iL_len, List.length_map, hql]; exact cap_lt (by simp only [List.length_cons, List.length_nil]; omega)) ?_
              rw [ew]
              (repeat' tm_at "dlS")
              refine x_putR (row := wAct ss q.1 j) (by rw [fDs_len]; exact Nat.lt_of_le_of_lt hsz (by decide)) ?_
              rw [fDs_put hni1]
              (repeat' tm_at "dlS")
              refine x_addT (xs := iL (q.2.map fun i : Nat => (i : Int))) (by rw [iL_len, List.length_map, hql]; exact cap_lt (by simp only [List.length_cons, List.length_nil]; omega)) ?_
              rw [ew]
              (repeat' tm_at "dlS")
              refine ⟨by rw [List.length_map]; exact Nat.lt_of_le_of_lt hlz (by decide), ?_⟩
              have eL : later.map itD ++ [D.tup [wordD (q.2 ++ [j]), D.tup (iL (wAct ss q.1 j))]] = (later ++ [(wAct ss q.1 j, q.2 ++ [j])]).map itD := by rw [List.map_append]; rfl
              rw [eL]
              (repeat' tm_at "dlS")
              exact ⟨j + 1, _, _, _, _, rfl, hjl, by rw [hX, hadd, List.append_assoc]⟩
          · rintro e ⟨j, x8, x9, x10, x11, h0, hj, rfl⟩
            have hjl : j = ss.length := by
              rcases Nat.lt_or_ge j ss.length with h | h
              · rw [List.drop_eq_getElem_cons h, List.map_cons, enumD] at h0
                cases h0
              · omega
            subst hjl
            refine ⟨p ++ [q], r, .im (wordD q.2), .im (mapD c (rfn q.1)), x8, x9, x10, x11, rfl, by rw [← hp]; simp, ?_⟩
            simp [allx]
      · rintro e ⟨p, r, x6, x7, x8, x9, x10, x11, h0, hp, rfl⟩
        cases r with
        | cons _ _ => cases h0
        | nil =>
          rw [List.append_nil] at hp
          subst hp
          (repeat' tm_at "dlS")
          refine ⟨45 - k, by omega, k + 1, .im (.lst (((allx ss.length p).foldl (addx (wAct ss) (F ++ p)) []).map itD)), x6, x7, x8, x9, x10, x11, by omega, ?_⟩
          rw [hlay]
          rfl
  rintro e ⟨x4, x5, x6, x7, x8, x9, x10, x11, rfl⟩
  (repeat' tm_at "dlS")
  rfl
theorem word_row {c : Int} (hc : 0 ≤ c) (ss : List (List Int)) (u : List Nat) : runW (wAct ss) (rowI c) u = mapL c (wfn ss u) := by
  rw [run_wfn, rowI, mapL, mapL, List.map_map]; rfl
theorem act_rev {ss : List (List Int)} {i : Nat} (hi : i < ss.length) : (ss.reverse[i]?.getD []) = ss[ss.length - 1 - i]?.getD [] := by
  rw [List.getElem?_reverse hi]
theorem wfn_rev {ss : List (List Int)} : ∀ {u : List Nat}, (∀ i ∈ u, i < ss.length) → ∀ x, wfn ss.reverse u x = wfn ss (u.map fun i => ss.length - 1 - i) x
  | [], _, x => rfl
  | i :: u, h, x => by
    show wfn ss.reverse u (rfn (ss.reverse[i]?.getD []) x) = wfn ss (u.map fun i => ss.length - 1 - i) (rfn (ss[ss.length - 1 - i]?.getD []) x)
    rw [act_rev (h i (List.mem_cons_self ..))]
    exact wfn_rev (fun j hj => h j (List.mem_cons_of_mem _ hj)) _
theorem words_le {c : Int} (h1 : 1 ≤ c) (h2 : c ≤ 8) {ss : List (List Int)} (hs : Sm c ss) : (words c ss.reverse).length ≤ (words c ss).length := by
  have hs' : Sm c ss.reverse := fun r hr => hs r (List.mem_reverse.mp hr)
  have W := words_ok h1 h2 hs
  have W' := words_ok h1 h2 hs'
  have := nd_sub (m := (words c ss).map (·.1)) W'.nd fun x hx => by
    obtain ⟨p, hp, rfl⟩ := List.mem_map.mp hx
    obtain ⟨r1, r2⟩ := W'.run p hp
    rw [List.length_reverse] at r2
    obtain ⟨q, hq, q1, _⟩ := W.all (p.2.map fun i => ss.length - 1 - i) fun i hi => by
      obtain ⟨j, hj, rfl⟩ := List.mem_map.mp hi
      have := r2 j hj
      show ss.length - 1 - j < ss.length
      omega
    refine List.mem_map.mpr ⟨q, hq, ?_⟩
    rw [q1, r1, word_row (by omega), word_row (by omega)]
    exact mapL_congr fun x _ _ => (wfn_rev r2 x).symm
  rw [List.length_map, List.length_map] at this
  exact this
theorem words_rev {c : Int} (h1 : 1 ≤ c) (h2 : c ≤ 8) {ss : List (List Int)} (hs : Sm c ss) : (words c ss.reverse).length = (words c ss).length := by
  have hs' : Sm c ss.reverse := fun r hr => hs r (List.mem_reverse.mp hr)
  have a := words_le h1 h2 hs
  have b := words_le h1 h2 hs'
  rw [List.reverse_reverse] at b
  omega
theorem x_ninDR {Q : D → Prop} {fs : List (List Int × D)} {row : List Int} {v : D} (h : aget fs row = some v) (q : Q (.bl false)) : ∃ z, oNotIn (tD row) (tDd fs) = some z ∧ Q z := by
  refine ⟨.bl false, ?_, q⟩
  show (match D.getD (tDd fs) (tD row) with | none => none | some o => some (D.bl (!o.isSome))) = _
  unfold D.getD
  rw [tDd_od]
  simp only [Od.get, tD]
  rw [kys_iL]
  simp only [aget_tDc, h]
  rfl
theorem law_ok : ∀ ns : List Int, ns.length ≤ 63 → f_law [.lst (ns.map .int)] = some (.bl true) := by
  intro ns hl
  refine run_D (e := [.im (.lst (iL ns)), .un, .un, .un, .un, .un, .un, .un, .un, .un, .un, .un]) rfl rfl ?_
  unfold c_law
  (repeat' tm_at "dlS")
  refine w_forI (fun ds e => ∃ (ms : List Int) (x1 x2 x3 x4 x5 x6 x7 x8 x9 x10 x11 : Sl), ds = iL ms ∧ e = [.im (.lst (iL ns)), x1, x2, x3, x4, x5, x6, x7, x8, x9, x10, x11]) ?_ ?_ ?_
  · (repeat' tm_at "dlS")
    refine x_addL (by rw [iL_len]; exact cap_lt (by simp; omega)) ?_
    (repeat' tm_at "dlS")
    obtain ⟨ms, e⟩ := cells_ints ns 8
    exact ⟨ms, _, _, _, _, _, _, _, _, _, _, _, e, rfl⟩
  · rintro d ds e ⟨ms, x1, x2, x3, x4, x5, x6, x7, x8, x9, x10, x11, h0, rfl⟩
    obtain ⟨i, r, rfl, rfl, rfl⟩ := iL_cons_inv h0
    (repeat' tm_at "dlS")
    refine w_source (by decide) (by decide) fun s1 hs1 => ?_
    (repeat' tm_at "dlS")
    refine w_small_cap hs1 (by omega) fun c s2 h1 h2' hs2 => ?_
    have h2 : c ≤ 8 := by omega
    (repeat' tm_at "dlS")
    refine w_some hs2 (by omega) ⟨h1, by omega⟩ fun ss s3 hsm l1 l2 hs3 => ?_
    (repeat' tm_at "dlS")
    refine ⟨_, law_words_eq h1 h2 hsm l2, ?_⟩
    have W := words_ok h1 h2 hsm
    have hshort := fun p (hp : p ∈ words c ss) => words_short h1 h2 hsm hp
    have hm : ∀ p ∈ words c ss, p.1 ∈ mapsAll c := fun p hp => by
      obtain ⟨r1, r2⟩ := W.run p hp
      rw [r1]
      exact rows_in (by omega) hsm (rowI_in (by omega)) r2
    have hszW := keys_small h1 h2 W.nd hm
    have hne : words c ss ≠ [] := fun e => by
      obtain ⟨q, hq, _⟩ := W.all [] (fun _ h => nomatch h)
      rw [e] at hq
      cases hq
    (repeat' tm_at "dlS")
    refine ⟨_, count_generated_eq h1 h2 hsm l1 l2, ?_⟩
    (repeat' tm_at "dlS")
    refine x_lenDR ?_
    rw [fDs_len]
    (repeat' tm_at "dlS")
    refine w_equal (n := 1) (d := .int _) trivial (by omega) ?_
    (repeat' tm_at "dlT")
    refine w_seqM (fun e => ∃ (s' : List D) (x6 x7 x8 : Sl), Src 10000 s' ∧ e = [.im (.lst (iL ns)), .im (.int i), .ow s', .im (.int c), .im (someD ss), .im (tDd (fDs wordD (words c ss))), x6, x7, x8, x9, x10, x11]) ?_ ?_
    · refine w_forI (fun ds e => ∃ (ts : List Int) (n : Nat) (s' : List D) (x6 x7 x8 : Sl), ds = iL ts ∧ ts.length + n = 4 ∧ Src (1100 + 300 * n) s' ∧ e = [.im (.lst (iL ns)), .im (.int i), .ow s', .im (.int c), .im (someD ss), .im (tDd (fDs wordD (words c ss))), x6, x7, x8, x9, x10, x11]) ?_ ?_ ?_
      · (repeat' tm_at "dlS")
        refine e_rng (by decide) (by decide) ?_
        exact ⟨[0, 1, 2, 3], 0, s3, _, _, _, rfl, rfl, hs3.mono (by omega), rfl⟩
      · rintro d ds e ⟨ts, n, s', x6, x7, x8, h0, hn, hs', rfl⟩
        obtain ⟨t, ts, rfl, rfl, rfl⟩ := iL_cons_inv h0
        rw [List.length_cons] at hn
        (repeat' tm_at "dlS")
        refine w_effect hs' (by omega) ⟨h1, by omega⟩ fun g1 s4 hg1 hs4 => ?_
        (repeat' tm_at "dlS")
        refine w_lkeys ?_
        (repeat' tm_at "dlS")
        refine ⟨fDs wordD (words c ss), rfl, ?_⟩
        (repeat' tm_at "dlS")
        refine w_choice hs4 (by omega) (by simpa [fDs] using hne) (by rw [List.length_map, fDs_len]; omega) fun d2 s5 hd2 hs5 => ?_
        obtain ⟨g2, hg2, rfl⟩ : ∃ g2, Eg c g2 ∧ d2 = mapD c g2 := by
          obtain ⟨z, hz, rfl⟩ := List.mem_map.mp hd2
          obtain ⟨p, hp, rfl⟩ := List.mem_map.mp hz
          obtain ⟨kg, kD⟩ := maps_fn (c := c) (by omega) (hm p hp)
          exact ⟨_, kg, kD⟩
        (repeat' tm_at "dlS")
        refine w_choice hs5 (by omega) (by simp) (by simp) fun d3 s6 hd3 hs6 => ?_
        obtain ⟨g, hg, rfl⟩ : ∃ g, Eg c g ∧ d3 = mapD c g := by
          simp only [List.mem_cons, List.not_mem_nil, or_false] at hd3
          rcases hd3 with rfl | rfl
          · exact ⟨g1, hg1, rfl⟩
          · exact ⟨g2, hg2, rfl⟩
        (repeat' tm_at "dlS")
        refine ⟨_, shortest_word_eq h1 h2 hsm l1 l2 hg, ?_⟩
        (repeat' tm_at "dlS")
        refine x_getDR (row := mapL c g) ?_
        cases hag : aget (fDs wordD (words c ss)) (mapL c g) with
        | none =>
          (repeat' tm_at "dlS")
          refine w_equal (n := 1) (d := .non) trivial (by omega) ?_
          (repeat' tm_at "dlS")
          refine ⟨fun _ => ⟨(fun h => by cases h), fun _ => ?_⟩, (fun h => by cases h)⟩
          (repeat' tm_at "dlS")
          exact ⟨ts, n + 1, s6, _, _, _, rfl, by omega, hs6.mono (by omega), rfl⟩
        | some v =>
          obtain ⟨w, rfl, hp⟩ : ∃ w, v = wordD w ∧ (mapL c g, w) ∈ words c ss := by
            have hk := fDs_some hag
            obtain ⟨p, hp, e⟩ := List.mem_map.mp hk
            have := fDs_get (f := wordD) W.nd hp
            rw [e, hag] at this
            exact ⟨p.2, Option.some.inj this, by rw [← e]; exact hp⟩
          obtain ⟨r1, r2⟩ := W.run _ hp
          have hwl := hshort _ hp
          simp only at r1 r2 hwl
          rw [word_row (by omega)] at r1
          (repeat' tm_at "dlS")
          refine w_equal (n := 1) (d := wordD w) (Wl.ints (by rw [List.length_map]; exact Nat.le_trans hwl (by decide))) (by omega) ?_
          (repeat' tm_at "dlS")
          refine ⟨(fun h => by cases h), fun _ => ?_⟩
          (repeat' tm_at "dlS")
          refine ⟨_, word_effect_eq (w := w) h1 h2 hsm l1 l2 r2 (by omega), ?_⟩
          rw [show mapD c (wfn ss w) = mapD c g from congrArg (fun l => D.tup (iL l)) r1.symm]
          (repeat' tm_at "dlS")
          refine x_neR (mapD_wl (by omega) _) (by omega) ?_
          (repeat' tm_at "dlS")
          exact ⟨ts, n + 1, s6, _, _, _, rfl, by omega, hs6.mono (by omega), rfl⟩
      · rintro e ⟨ts, n, s', x6, x7, x8, h0, hn, hs', rfl⟩
        exact ⟨s', _, _, _, hs'.mono (by omega), rfl⟩
    rintro e ⟨s', x6, x7, x8, hs', rfl⟩
    (repeat' tm_at "dlT")
    refine w_seqM (fun e => ∃ (u : List Nat) (s2 : List D) (x6 : Sl), (∀ i ∈ u, i < ss.length) ∧ u.length ≤ 60 ∧ Src 20000 s2 ∧ e = [.im (.lst (iL ns)), .im (.int i), .ow s2, .im (.int c), .im (someD ss), .im (tDd (fDs wordD (words c ss))), x6, x7, x8, .im (.tup (iL (u.map fun i : Nat => (i : Int)))), x10, x11]) ?_ ?_
    · (repeat' tm_at "dlS")
      refine w_comp (fun e1 ds acc e => ∃ (u : List Nat) (s2 : List D) (x6 : Sl), acc = iL (u.map fun i : Nat => (i : Int)) ∧ (∀ i ∈ u, i < ss.length) ∧ ds.length + u.length ≤ 60 ∧ Src (10001 + u.length) s2 ∧ e = [.im (.lst (iL ns)), .im (.int i), .ow s2, .im (.int c), .im (someD ss), .im (tDd (fDs wordD (words c ss))), x6, x7, x8, x9, x10, x11] ∧ e1.length = 12) ?_
      (repeat' tm_at "dlS")
      refine w_draw hs' (by omega) (by omega) (by omega) fun k s7 hk0 hk1 hs7 => ?_
      (repeat' tm_at "dlS")
      refine e_rng (by decide) (inR_of (by omega) (by omega)) ?_
      rw [rng_zero]
      refine ⟨⟨[], s7, .un, rfl, (fun _ h => nomatch h), by rw [iL_len, len_upto]; simp only [List.length_nil]; omega, hs7, rfl, rfl⟩, ?_, ?_⟩
      · rintro d ds acc e ⟨u, s2, x6', rfl, a2, a3, a4, rfl, a6⟩
        rw [List.length_cons] at a3
        refine ⟨[.im (.lst (iL ns)), .im (.int i), .ow s2, .im (.int c), .im (someD ss), .im (tDd (fDs wordD (words c ss))), .im d, x7, x8, x9, x10, x11], rfl, ?_⟩
        (repeat' tm_at "dlS")
        refine x_lenT (xs := ss.map tD) ?_
        rw [List.length_map]
        (repeat' tm_at "dlS")
        refine w_draw a4 (by omega) (by omega) (by omega) fun k2 s8 hk2 hk3 hs8 => ?_
        (repeat' tm_at "dlS")
        refine ⟨by rw [iL_len, List.length_map]; unfold DL.cap; omega, u ++ [k2.toNat], s8, _, ?_, fun z hz => ?_, ?_, ?_, rfl, a6⟩
        · rw [List.map_append]
          simp only [iL, List.map_append, List.map_cons, List.map_nil]
          rw [show ((k2.toNat : Nat) : Int) = k2 by omega]
        · rcases List.mem_append.mp hz with hz | hz
          · exact a2 z hz
          · simp only [List.mem_cons, List.not_mem_nil, or_false] at hz
            omega
        · rw [List.length_append]
          simp only [List.length_cons, List.length_nil]
          omega
        · rw [List.length_append]
          exact hs8.mono (by simp only [List.length_cons, List.length_nil]; omega)
      · rintro acc e2 ⟨u, s2, x6', rfl, a2, a3, a4, rfl, a6⟩
        (repeat' tm_at "dlS")
        exact ⟨_, ⟨rfl, rfl⟩, u, s2, _, a2, by simp only [List.length_nil] at a3; omega, a4.mono (by simp only [List.length_nil] at a3; omega), rfl⟩
    rintro e ⟨u, s2, x6, hu, hul, hs2', rfl⟩
    obtain ⟨qq, hqq, qq1, _⟩ := W.all u hu
    rw [word_row (by omega)] at qq1
    have hgetu : aget (fDs wordD (words c ss)) (mapL c (wfn ss u)) = some (wordD qq.2) := by
      rw [← qq1]
      exact fDs_get W.nd hqq
    (repeat' tm_at "dlS")
    refine w_rg ?_
    (repeat' tm_at "dlS")
    refine ⟨_, _, rfl, rfl, by decide, inR_of (by omega) (by omega), cap_lt (by omega), ?_⟩
    rw [rng_zero, show iL (upto (c + 1).toNat) = iL (mapL c (wfn ss [])) by rw [mapL, show wfn ss [] = fun x => x from rfl, List.map_id']]
    (repeat' tm_at "dlT")
    refine w_seqM (fun e => ∃ x11 : Sl, e = [.im (.lst (iL ns)), .im (.int i), .ow s2, .im (.int c), .im (someD ss), .im (tDd (fDs wordD (words c ss))), x6, x7, x8, .im (.tup (iL (u.map fun i : Nat => (i : Int)))), .im (mapD c (wfn ss u)), x11]) ?_ ?_
    · refine w_forI (fun ds e => ∃ (p r : List Nat) (x11 : Sl), ds = iL (r.map fun i : Nat => (i : Int)) ∧ p ++ r = u ∧ e = [.im (.lst (iL ns)), .im (.int i), .ow s2, .im (.int c), .im (someD ss), .im (tDd (fDs wordD (words c ss))), x6, x7, x8, .im (.tup (iL (u.map fun i : Nat => (i : Int)))), .im (mapD c (wfn ss p)), x11]) ?_ ?_ ?_
      · (repeat' tm_at "dlS")
        exact ⟨[], u, _, rfl, rfl, rfl⟩
      · rintro d ds e ⟨p, r, x11, h0, hp, rfl⟩
        cases r with
        | nil => cases h0
        | cons j r =>
          simp only [iL, List.map_cons, List.cons.injEq] at h0
          obtain ⟨rfl, rfl⟩ := h0
          have hj : j < ss.length := hu j (by rw [← hp]; simp)
          have hpw := hsm.wfn (c := c) (by omega) (w := p) fun z hz => hu z (by rw [← hp]; exact List.mem_append.mpr (.inl hz))
          obtain ⟨kg, kD⟩ := maps_fn (c := c) (by omega) (hsm _ (List.getElem_mem hj))
          (repeat' tm_at "dlS")
          refine x_ixT (xs := ss.map tD) (at_nat (by omega) (d := tD ss[j]) (by simp [hj])) ?_
          rw [kD]
          (repeat' tm_at "dlS")
          refine ⟨_, law_joined_eq (by omega) hpw, ?_⟩
          rw [show mapD c (fun x => rfn ss[j] (wfn ss p x)) = mapD c (wfn ss (p ++ [j])) by
            have := wfn_mapL c ss p j
            rw [List.getElem?_eq_getElem hj] at this
            exact congrArg (fun l => D.tup (iL l)) this]
          (repeat' tm_at "dlS")
          exact ⟨p ++ [j], r, _, rfl, by rw [← hp]; simp, rfl⟩
      · rintro e ⟨p, r, x11, h0, hp, rfl⟩
        cases r with
        | cons _ _ => cases h0
        | nil =>
          rw [List.append_nil] at hp
          subst hp
          exact ⟨_, rfl⟩
    rintro e ⟨x11, rfl⟩
    (repeat' tm_at "dlS")
    refine ⟨_, word_effect_eq (w := u) h1 h2 hsm l1 l2 hu hul, ?_⟩
    (repeat' tm_at "dlS")
    refine w_equal (mapD_wl (by omega) _) (by omega) ?_
    (repeat' tm_at "dlS")
    refine x_ninDR (row := mapL c (wfn ss u)) hgetu ?_
    (repeat' tm_at "dlS")
    refine ⟨ss.map tD, rfl, ?_⟩
    rw [← List.map_reverse]
    have hsm' : Sm c ss.reverse := fun r hr => hsm r (List.mem_reverse.mp hr)
    (repeat' tm_at "dlS")
    refine ⟨_, count_generated_eq (ss := ss.reverse) h1 h2 hsm' (by rw [List.length_reverse]; exact l1) (by rw [List.length_reverse]; exact l2), ?_⟩
    rw [words_rev h1 h2 hsm]
    (repeat' tm_at "dlS")
    refine x_lenDR ?_
    rw [fDs_len]
    (repeat' tm_at "dlS")
    exact ⟨r, _, _, _, _, _, _, _, _, _, _, _, rfl, rfl⟩
  · rintro e ⟨ms, x1, x2, x3, x4, x5, x6, x7, x8, x9, x10, x11, h0, rfl⟩
    have hs1 : Sm 2 [[0, 0, 1], [1, 2, 2]] := show ∀ r ∈ [[0, 0, 1], [1, 2, 2]], r ∈ mapsAll 2 by decide +kernel
    have hs2 : Sm 2 [[0, 0, 1]] := show ∀ r ∈ [[0, 0, 1]], r ∈ mapsAll 2 by decide +kernel
    have q1 : f_count_generated [.int 2, someD [[0, 0, 1], [1, 2, 2]]] = some (.int 8) := by
      rw [count_generated_eq (by decide) (by decide) hs1 (by decide) (by decide), show (words 2 [[0, 0, 1], [1, 2, 2]]).length = 8 by decide +kernel]
      rfl
    have hE : Eg 2 (rfn [0, 1, 1]) := by
      refine Eg.of_list 2 [0, 1, 1] ?_ ?_ <;> decide
    have q2 : f_shortest_word [.int 2, someD [[0, 0, 1]], mapD 2 (rfn [0, 1, 1])] = some .non := by
      rw [shortest_word_eq (by decide) (by decide) hs2 (by decide) (by decide) hE, aget_fDs, show aget (words 2 [[0, 0, 1]]) (mapL 2 (rfn [0, 1, 1])) = none by decide +kernel]
      rfl
    (repeat' tm_at "dlS")
    refine ⟨_, q1, ?_⟩
    (repeat' tm_at "dlS")
    refine ⟨_, q2, ?_⟩
    (repeat' tm_at "dlS")
    rfl
end DL.k29

namespace DL.k29
open PySem PySem.Spec PyProof.Rows L2 DL
def topS (i : Nat) : Stmt := PySem.Challenge.pw_levelmaps_k29_whole_effects_of_all_order.main.body.getD i (.Pass ⟨0, 0, 0, 0⟩)
structure Bf (mg : Str → Option Value) : Prop where
  b_all : mg "all" = none
  b_bool : mg "bool" = none
  b_enumerate : mg "enumerate" = none
  b_int : mg "int" = none
  b_isinstance : mg "isinstance" = none
  b_len : mg "len" = none
  b_list : mg "list" = none
  b_range : mg "range" = none
  b_str : mg "str" = none
  b_sum : mg "sum" = none
  b_tuple : mg "tuple" = none
  b_zip : mg "zip" = none
  c_MAX_EFFECTS : ∃ t, mg "MAX_EFFECTS" = some (.int 4 t)
  c_MAX_SMALL : ∃ t, mg "MAX_SMALL" = some (.int 8 t)
  c_MAX_WORD : ∃ t, mg "MAX_WORD" = some (.int 60 t)
abbrev s_is_between : Stmt := topS 7
abbrev n_is_between : List Str := ["value", "low", "high"]
theorem sc_is_between : FnScope n_is_between ["value", "low", "high"] (defScope s_is_between) := ⟨rfl, rfl, rfl, by decide +kernel, rfl, by decide +kernel, by decide +kernel⟩
abbrev s_is_map : Stmt := topS 9
abbrev n_is_map : List Str := ["capacity", "value", "level", "first", "second"]
theorem sc_is_map : FnScope n_is_map ["capacity", "value"] (defScope s_is_map) := ⟨rfl, rfl, rfl, by decide +kernel, rfl, by decide +kernel, by decide +kernel⟩
abbrev s_check_effect : Stmt := topS 10
abbrev n_check_effect : List Str := ["capacity", "effect"]
theorem sc_check_effect : FnScope n_check_effect ["capacity", "effect"] (defScope s_check_effect) := ⟨rfl, rfl, rfl, by decide +kernel, rfl, by decide +kernel, by decide +kernel⟩
abbrev s_join : Stmt := topS 12
abbrev n_join : List Str := ["first", "second", "level"]
theorem sc_join : FnScope n_join ["first", "second"] (defScope s_join) := ⟨rfl, rfl, rfl, by decide +kernel, rfl, by decide +kernel, by decide +kernel⟩
abbrev s_check_small : Stmt := topS 17
abbrev n_check_small : List Str := ["capacity"]
theorem sc_check_small : FnScope n_check_small ["capacity"] (defScope s_check_small) := ⟨rfl, rfl, rfl, by decide +kernel, rfl, by decide +kernel, by decide +kernel⟩
abbrev s_check_some : Stmt := topS 18
abbrev n_check_some : List Str := ["capacity", "some", "good", "effect"]
theorem sc_check_some : FnScope n_check_some ["capacity", "some"] (defScope s_check_some) := ⟨rfl, rfl, rfl, by decide +kernel, rfl, by decide +kernel, by decide +kernel⟩
abbrev s_word_effect : Stmt := topS 19
abbrev n_word_effect : List Str := ["capacity", "some", "word", "good", "found", "index"]
theorem sc_word_effect : FnScope n_word_effect ["capacity", "some", "word"] (defScope s_word_effect) := ⟨rfl, rfl, rfl, by decide +kernel, rfl, by decide +kernel, by decide +kernel⟩
abbrev s_shortest_words : Stmt := topS 20
abbrev n_shortest_words : List Str := ["capacity", "some", "layer", "found", "later", "effect", "index", "other", "new"]
theorem sc_shortest_words : FnScope n_shortest_words ["capacity", "some"] (defScope s_shortest_words) := ⟨rfl, rfl, rfl, by decide +kernel, rfl, by decide +kernel, by decide +kernel⟩
abbrev s_count_generated : Stmt := topS 21
abbrev n_count_generated : List Str := ["capacity", "some"]
theorem sc_count_generated : FnScope n_count_generated ["capacity", "some"] (defScope s_count_generated) := ⟨rfl, rfl, rfl, by decide +kernel, rfl, by decide +kernel, by decide +kernel⟩
abbrev s_shortest_word : Stmt := topS 22
abbrev n_shortest_word : List Str := ["capacity", "some", "wanted"]
theorem sc_shortest_word : FnScope n_shortest_word ["capacity", "some", "wanted"] (defScope s_shortest_word) := ⟨rfl, rfl, rfl, by decide +kernel, rfl, by decide +kernel, by decide +kernel⟩
abbrev s_law_source : Stmt := topS 24
abbrev n_law_source : List Str := ["cell", "turn"]
theorem sc_law_source : FnScope n_law_source ["cell", "turn"] (defScope s_law_source) := ⟨rfl, rfl, rfl, by decide +kernel, rfl, by decide +kernel, by decide +kernel⟩
abbrev s_law_draw : Stmt := topS 25
abbrev n_law_draw : List Str := ["source", "size", "drawn", "number"]
theorem sc_law_draw : FnScope n_law_draw ["source", "size"] (defScope s_law_draw) := ⟨rfl, rfl, rfl, by decide +kernel, rfl, by decide +kernel, by decide +kernel⟩
abbrev s_law_choice : Stmt := topS 26
abbrev n_law_choice : List Str := ["source", "items"]
theorem sc_law_choice : FnScope n_law_choice ["source", "items"] (defScope s_law_choice) := ⟨rfl, rfl, rfl, by decide +kernel, rfl, by decide +kernel, by decide +kernel⟩
abbrev s_law_kind : Stmt := topS 27
abbrev n_law_kind : List Str := ["value"]
theorem sc_law_kind : FnScope n_law_kind ["value"] (defScope s_law_kind) := ⟨rfl, rfl, rfl, by decide +kernel, rfl, by decide +kernel, by decide +kernel⟩
abbrev s_law_equal : Stmt := topS 28
abbrev n_law_equal : List Str := ["value", "expected", "k", "part"]
theorem sc_law_equal : FnScope n_law_equal ["value", "expected"] (defScope s_law_equal) := ⟨rfl, rfl, rfl, by decide +kernel, rfl, by decide +kernel, by decide +kernel⟩
abbrev s_law_effect : Stmt := topS 29
abbrev n_law_effect : List Str := ["source", "capacity", "often", "steps", "turn", "found", "step"]
theorem sc_law_effect : FnScope n_law_effect ["source", "capacity"] (defScope s_law_effect) := ⟨rfl, rfl, rfl, by decide +kernel, rfl, by decide +kernel, by decide +kernel⟩
abbrev s_law_joined : Stmt := topS 30
abbrev n_law_joined : List Str := ["first", "second", "level"]
theorem sc_law_joined : FnScope n_law_joined ["first", "second"] (defScope s_law_joined) := ⟨rfl, rfl, rfl, by decide +kernel, rfl, by decide +kernel, by decide +kernel⟩
abbrev s_law_small_cap : Stmt := topS 31
abbrev n_law_small_cap : List Str := ["source"]
theorem sc_law_small_cap : FnScope n_law_small_cap ["source"] (defScope s_law_small_cap) := ⟨rfl, rfl, rfl, by decide +kernel, rfl, by decide +kernel, by decide +kernel⟩
abbrev s_law_some : Stmt := topS 32
abbrev n_law_some : List Str := ["source", "capacity", "turn"]
theorem sc_law_some : FnScope n_law_some ["source", "capacity"] (defScope s_law_some) := ⟨rfl, rfl, rfl, by decide +kernel, rfl, by decide +kernel, by decide +kernel⟩
abbrev s_law_words : Stmt := topS 33
abbrev n_law_words : List Str := ["capacity", "some", "start", "found", "layer", "longer", "word", "shape", "index", "other", "new", "level"]
theorem sc_law_words : FnScope n_law_words ["capacity", "some"] (defScope s_law_words) := ⟨rfl, rfl, rfl, by decide +kernel, rfl, by decide +kernel, by decide +kernel⟩
abbrev s_law : Stmt := topS 34
abbrev n_law : List Str := ["script", "cell", "source", "capacity", "some", "words", "turn", "wanted", "found", "word", "due", "index"]
theorem sc_law : FnScope n_law ["script"] (defScope s_law) := ⟨rfl, rfl, rfl, by decide +kernel, rfl, by decide +kernel, by decide +kernel⟩
section
variable {P : Program} {w : World} {K : PySem.W.Frag} {mg : Str → Option Value} {base : Heap} (B : Bf mg)
include B
theorem cal_is_between {a : Addr} {fd : FuncData} (hF : FunD K "is_between" "is_between" (defArgs s_is_between) (defBody s_is_between) (defScope s_is_between) [] [] a fd) (hm : mg "is_between" = some (.ref a))  : Cal P w K mg base 1 "is_between" (spD K f_is_between) := by
  refine Cal.of (ps := ["value", "low", "high"]) hF (okD (N := n_is_between) (j := 0) hF sc_is_between rfl rfl (by decide) fun cdv A outer s H E O => ?_) hm (fun _ _ _ _ _ _ us hl => match us, hl with | [_, _, _], _ => rfl)
  exact (dss_one (ds_ret (de_and (de_isi .int (de_var 0) B.b_isinstance B.b_int bb_int) (de_and (de_not (de_isi .bool (de_var 0) B.b_isinstance B.b_bool bb_bool)) (de_one (de_chain os_le os_le (de_var 1) (de_var 0) (de_var 2)))))))
theorem cal_is_map {a : Addr} {fd : FuncData} (hF : FunD K "is_map" "is_map" (defArgs s_is_map) (defBody s_is_map) (defScope s_is_map) [] [] a fd) (hm : mg "is_map" = some (.ref a)) (G_is_between : Cal P w K mg base 1 "is_between" (spD K f_is_between)) : Cal P w K mg base 2 "is_map" (spD K f_is_map) := by
  refine Cal.of (ps := ["capacity", "value"]) hF (okD (N := n_is_map) (j := 1) hF sc_is_map rfl rfl (by decide) fun cdv A outer s H E O => ?_) hm (fun _ _ _ _ _ _ us hl => match us, hl with | [_, _], _ => rfl)
  exact (dss_cons (ds_if (DW.t (dw_or (dt_not (dt_val (de_isi .tuple (de_var 1) B.b_isinstance B.b_tuple bb_tuple))) (dw_or1 (dt_cmp (os_ne O) (de_callB cs_len B.b_len bb_len (da_cons (de_var 1) da_nil)) (de_bin os_add (de_var 0) de_int))))) (dss_one (ds_ret de_bl)) dss_nil) (dss_cons (ds_if (dt_not (dt_val (de_callB (cs_all O) B.b_all bb_all (da_cons (DN.e (dn_comp (own := [("level", 2)]) O (di_seq (de_var 1)) (blkOk_by (N := n_is_map) (sc := (defScope s_is_map)) (by decide +kernel)) (fun s H C cl fp O => (dp_name O 2)) (fun s H C cl fp O => dts_nil) (fun s H C cl fp O => (de_call O G_is_between (da_cons (de_var 2) (da_cons de_int (da_cons (de_var 0) da_nil))))))) da_nil)))) (dss_one (ds_ret de_bl)) dss_nil) (dss_one (ds_ret (de_callB (cs_all O) B.b_all bb_all (da_cons (DN.e (dn_comp (own := [("first", 3), ("second", 4)]) O (di_zip (de_var 1) (de_slice (de_var 1) (do_some de_int) do_none) B.b_zip) (blkOk_by (N := n_is_map) (sc := (defScope s_is_map)) (by decide +kernel)) (fun s H C cl fp O => (dp_tup O (dps_cons (dp_name O 3) (dps_cons (dp_name O 4) dps_nil)))) (fun s H C cl fp O => dts_nil) (fun s H C cl fp O => (de_cmp (os_in O) (de_bin os_sub (de_var 4) (de_var 3)) (de_tup (da_cons de_int (da_cons de_int da_nil))))))) da_nil))))))
theorem cal_check_effect {a : Addr} {fd : FuncData} (hF : FunD K "check_effect" "check_effect" (defArgs s_check_effect) (defBody s_check_effect) (defScope s_check_effect) [] [] a fd) (hm : mg "check_effect" = some (.ref a)) (G_is_map : Cal P w K mg base 2 "is_map" (spD K f_is_map)) : Cal P w K mg base 3 "check_effect" (spD K f_check_effect) := by
  refine Cal.of (ps := ["capacity", "effect"]) hF (okD (N := n_check_effect) (j := 2) hF sc_check_effect rfl rfl (by decide) fun cdv A outer s H E O => ?_) hm (fun _ _ _ _ _ _ us hl => match us, hl with | [_, _], _ => rfl)
  exact (dss_one (ds_if (dt_not (dt_val (de_call O G_is_map (da_cons (de_var 0) (da_cons (de_var 1) da_nil))))) (dss_one ds_never) dss_nil))
theorem cal_join {a : Addr} {fd : FuncData} (hF : FunD K "join" "join" (defArgs s_join) (defBody s_join) (defScope s_join) [] [] a fd) (hm : mg "join" = some (.ref a))  : Cal P w K mg base 1 "join" (spD K f_join) := by
  refine Cal.of (ps := ["first", "second"]) hF (okD (N := n_join) (j := 0) hF sc_join rfl rfl (by decide) fun cdv A outer s H E O => ?_) hm (fun _ _ _ _ _ _ us hl => match us, hl with | [_, _], _ => rfl)
  exact (dss_one (ds_ret (de_callTy cs_tuple B.b_tuple bb_tuple (da_cons (DN.e (dn_comp (own := [("level", 2)]) O (di_seq (de_var 0)) (blkOk_by (N := n_join) (sc := (defScope s_join)) (by decide +kernel)) (fun s H C cl fp O => (dp_name O 2)) (fun s H C cl fp O => dts_nil) (fun s H C cl fp O => (de_ix O (de_var 1) (de_var 2))))) da_nil))))
theorem cal_check_small {a : Addr} {fd : FuncData} (hF : FunD K "check_small" "check_small" (defArgs s_check_small) (defBody s_check_small) (defScope s_check_small) [] [] a fd) (hm : mg "check_small" = some (.ref a)) (G_is_between : Cal P w K mg base 1 "is_between" (spD K f_is_between)) : Cal P w K mg base 2 "check_small" (spD K f_check_small) := by
  refine Cal.of (ps := ["capacity"]) hF (okD (N := n_check_small) (j := 1) hF sc_check_small rfl rfl (by decide) fun cdv A outer s H E O => ?_) hm (fun _ _ _ _ _ _ us hl => match us, hl with | [_], _ => rfl)
  exact (dss_one (ds_if (dt_not (dt_val (de_call O G_is_between (da_cons (de_var 0) (da_cons de_int (da_cons (de_globI B.c_MAX_SMALL) da_nil)))))) (dss_one ds_never) dss_nil))
theorem cal_check_some {a : Addr} {fd : FuncData} (hF : FunD K "check_some" "check_some" (defArgs s_check_some) (defBody s_check_some) (defScope s_check_some) [] [] a fd) (hm : mg "check_some" = some (.ref a)) (G_is_map : Cal P w K mg base 2 "is_map" (spD K f_is_map)) (G_check_small : Cal P w K mg base 2 "check_small" (spD K f_check_small)) : Cal P w K mg base 3 "check_some" (spD K f_check_some) := by
  refine Cal.of (ps := ["capacity", "some"]) hF (okD (N := n_check_some) (j := 2) hF sc_check_some rfl rfl (by decide) fun cdv A outer s H E O => ?_) hm (fun _ _ _ _ _ _ us hl => match us, hl with | [_, _], _ => rfl)
  exact (dss_cons (ds_expr (de_call O G_check_small (da_cons (de_var 0) da_nil))) (dss_cons (ds_set O 2 (de_and (de_isi .tuple (de_var 1) B.b_isinstance B.b_tuple bb_tuple) (de_one (de_chain os_le os_le de_int (de_callB cs_len B.b_len bb_len (da_cons (de_var 1) da_nil)) (de_globI B.c_MAX_EFFECTS))))) (dss_one (ds_if (DW.t (dw_or (dt_not (dt_val (de_var 2))) (dw_or1 (dt_not (dt_val (de_callB (cs_all O) B.b_all bb_all (da_cons (DN.e (dn_comp (own := [("effect", 3)]) O (di_seq (de_var 1)) (blkOk_by (N := n_check_some) (sc := (defScope s_check_some)) (by decide +kernel)) (fun s H C cl fp O => (dp_name O 3)) (fun s H C cl fp O => dts_nil) (fun s H C cl fp O => (de_call O G_is_map (da_cons (de_var 0) (da_cons (de_var 3) da_nil)))))) da_nil))))))) (dss_one ds_never) dss_nil))))
theorem cal_word_effect {a : Addr} {fd : FuncData} (hF : FunD K "word_effect" "word_effect" (defArgs s_word_effect) (defBody s_word_effect) (defScope s_word_effect) [] [] a fd) (hm : mg "word_effect" = some (.ref a)) (G_is_between : Cal P w K mg base 1 "is_between" (spD K f_is_between)) (G_join : Cal P w K mg base 1 "join" (spD K f_join)) (G_check_some : Cal P w K mg base 3 "check_some" (spD K f_check_some)) : Cal P w K mg base 4 "word_effect" (spD K f_word_effect) := by
  refine Cal.of (ps := ["capacity", "some", "word"]) hF (okD (N := n_word_effect) (j := 3) hF sc_word_effect rfl rfl (by decide) fun cdv A outer s H E O => ?_) hm (fun _ _ _ _ _ _ us hl => match us, hl with | [_, _, _], _ => rfl)
  exact (dss_cons (ds_expr (de_call O G_check_some (da_cons (de_var 0) (da_cons (de_var 1) da_nil)))) (dss_cons (ds_set O 3 (de_and (de_isi .tuple (de_var 2) B.b_isinstance B.b_tuple bb_tuple) (de_one (de_cmp os_le (de_callB cs_len B.b_len bb_len (da_cons (de_var 2) da_nil)) (de_globI B.c_MAX_WORD))))) (dss_cons (ds_if (DW.t (dw_or (dt_not (dt_val (de_var 3))) (dw_or1 (dt_not (dt_val (de_callB (cs_all O) B.b_all bb_all (da_cons (DN.e (dn_comp (own := [("index", 5)]) O (di_seq (de_var 2)) (blkOk_by (N := n_word_effect) (sc := (defScope s_word_effect)) (by decide +kernel)) (fun s H C cl fp O => (dp_name O 5)) (fun s H C cl fp O => dts_nil) (fun s H C cl fp O => (de_call O G_is_between (da_cons (de_var 5) (da_cons de_int (da_cons (de_bin os_sub (de_callB cs_len B.b_len bb_len (da_cons (de_var 1) da_nil)) de_int) da_nil))))))) da_nil))))))) (dss_one ds_never) dss_nil) (dss_cons (ds_set O 4 (de_tupRg1 O (de_bin os_add (de_var 0) de_int) B.b_tuple B.b_range)) (dss_cons (ds_for O (di_seq (de_var 2)) (dp_name O 5) (dss_one (ds_set O 4 (de_call O G_join (da_cons (de_var 4) (da_cons (de_ix O (de_var 1) (de_var 5)) da_nil)))))) (dss_one (ds_ret (de_var 4))))))))
theorem cal_shortest_words {a : Addr} {fd : FuncData} (hF : FunD K "shortest_words" "shortest_words" (defArgs s_shortest_words) (defBody s_shortest_words) (defScope s_shortest_words) [] [] a fd) (hm : mg "shortest_words" = some (.ref a)) (G_join : Cal P w K mg base 1 "join" (spD K f_join)) : Cal P w K mg base 2 "shortest_words" (spD K f_shortest_words) := by
  refine Cal.of (ps := ["capacity", "some"]) hF (okD (N := n_shortest_words) (j := 1) hF sc_shortest_words rfl rfl (by decide) fun cdv A outer s H E O => ?_) hm (fun _ _ _ _ _ _ us hl => match us, hl with | [_, _], _ => rfl)
  exact (dss_cons (ds_set O 2 (DQ.e (dq_dispT O (de_tupRg1 O (de_bin os_add (de_var 0) de_int) B.b_tuple B.b_range) (de_tup da_nil)))) (dss_cons (ds_dnew O 3 dq_newT) (dss_cons (ds_while 3000 O (dt_empTNe O (de_var 2)) (dss_cons (ds_odUpd O 3 (de_var 2)) (dss_cons (ds_dnew O 4 dq_newT) (dss_cons (ds_for O (di_seq (de_var 2)) (dp_name O 5) (dss_one (ds_for O (di_enum (de_var 1) B.b_enumerate) (dp_tup O (dps_cons (dp_name O 6) (dps_cons (dp_name O 7) dps_nil))) (dss_cons (ds_set O 8 (de_call O G_join (da_cons (de_var 5) (da_cons (de_var 7) da_nil)))) (dss_one (ds_if (DW.t (dw_and (dt_odNotIn O 3 (de_var 8)) (dw_and1 (dt_odNotIn O 4 (de_var 8))))) (dss_one (ds_odPut O 4 (de_bin os_add (de_ix O (de_var 2) (de_var 5)) (de_tup (da_cons (de_var 6) da_nil))) (de_var 8))) dss_nil)))))) (dss_one (ds_frz 4 (ds_set O 2 (de_var 4)))))))) (dss_one (ds_frz 3 (ds_ret (de_var 3)))))))
theorem cal_count_generated {a : Addr} {fd : FuncData} (hF : FunD K "count_generated" "count_generated" (defArgs s_count_generated) (defBody s_count_generated) (defScope s_count_generated) [] [] a fd) (hm : mg "count_generated" = some (.ref a)) (G_check_some : Cal P w K mg base 3 "check_some" (spD K f_check_some)) (G_shortest_words : Cal P w K mg base 2 "shortest_words" (spD K f_shortest_words)) : Cal P w K mg base 4 "count_generated" (spD K f_count_generated) := by
  refine Cal.of (ps := ["capacity", "some"]) hF (okD (N := n_count_generated) (j := 3) hF sc_count_generated rfl rfl (by decide) fun cdv A outer s H E O => ?_) hm (fun _ _ _ _ _ _ us hl => match us, hl with | [_, _], _ => rfl)
  exact (dss_cons (ds_expr (de_call O G_check_some (da_cons (de_var 0) (da_cons (de_var 1) da_nil)))) (dss_one (ds_ret (de_callB cs_len B.b_len bb_len (da_cons (de_call O G_shortest_words (da_cons (de_var 0) (da_cons (de_var 1) da_nil))) da_nil)))))
theorem cal_shortest_word {a : Addr} {fd : FuncData} (hF : FunD K "shortest_word" "shortest_word" (defArgs s_shortest_word) (defBody s_shortest_word) (defScope s_shortest_word) [] [] a fd) (hm : mg "shortest_word" = some (.ref a)) (G_check_effect : Cal P w K mg base 3 "check_effect" (spD K f_check_effect)) (G_check_some : Cal P w K mg base 3 "check_some" (spD K f_check_some)) (G_shortest_words : Cal P w K mg base 2 "shortest_words" (spD K f_shortest_words)) : Cal P w K mg base 4 "shortest_word" (spD K f_shortest_word) := by
  refine Cal.of (ps := ["capacity", "some", "wanted"]) hF (okD (N := n_shortest_word) (j := 3) hF sc_shortest_word rfl rfl (by decide) fun cdv A outer s H E O => ?_) hm (fun _ _ _ _ _ _ us hl => match us, hl with | [_, _, _], _ => rfl)
  exact (dss_cons (ds_expr (de_call O G_check_some (da_cons (de_var 0) (da_cons (de_var 1) da_nil)))) (dss_cons (ds_expr (de_call O G_check_effect (da_cons (de_var 0) (da_cons (de_var 2) da_nil)))) (dss_one (ds_ret (de_get2 O (de_call O G_shortest_words (da_cons (de_var 0) (da_cons (de_var 1) da_nil))) (de_var 2) de_non)))))
theorem cal_law_source {a : Addr} {fd : FuncData} (hF : FunD K "_law_source" "_law_source" (defArgs s_law_source) (defBody s_law_source) (defScope s_law_source) [] [] a fd) (hm : mg "_law_source" = some (.ref a))  : Cal P w K mg base 1 "_law_source" (spN K f_law_source) := by
  refine Cal.of (ps := ["cell", "turn"]) hF (okN (N := n_law_source) (j := 0) hF sc_law_source rfl rfl (by decide) fun cdv A outer s H E O => ?_) hm (fun _ _ _ _ _ _ us hl => match us, hl with | [_, _], _ => rfl)
  exact (dss_cons (ds_if (dt_cmp os_ge (de_var 0) (de_bin os_pow de_int de_int)) (dss_one (ds_retN (dn_lst (da_cons (de_bin os_sub (de_var 0) (de_bin os_pow de_int de_int)) (da_cons (de_bin os_mod (de_callTy cs_int B.b_int bb_int (da_cons (de_var 0) da_nil)) de_int) (da_cons (de_var 1) da_nil)))))) dss_nil) (dss_one (ds_retN (dn_lst (da_cons de_int (da_cons (de_bin os_mod (de_callTy cs_int B.b_int bb_int (da_cons (de_var 0) da_nil)) de_int) (da_cons (de_var 1) da_nil)))))))
theorem cal_law_draw {a : Addr} {fd : FuncData} (hF : FunD K "_law_draw" "_law_draw" (defArgs s_law_draw) (defBody s_law_draw) (defScope s_law_draw) [] [] a fd) (hm : mg "_law_draw" = some (.ref a))  : Cal P w K mg base 1 "_law_draw" (spI K f_law_draw) := by
  refine Cal.of (ps := ["source", "size"]) hF (okI (N := n_law_draw) (j := 0) hF sc_law_draw rfl rfl (by decide) fun cdv A outer s H E O => ?_) hm (fun _ _ _ _ _ _ us hl => match us, hl with | [_, _], _ => rfl)
  exact (dss_cons (ds_if (dt_cmp os_gt (de_oix 0 de_int) de_int) (dss_cons (ds_set O 2 (de_bin os_mod (de_callTy cs_int B.b_int bb_int (da_cons (de_oix 0 de_int) da_nil)) (de_var 1))) (dss_cons (ds_oset 0 (de_bin os_div (de_oix 0 de_int) (de_var 1)) de_int) (dss_one (ds_ret (de_var 2))))) dss_nil) (dss_cons (ds_oset 0 (de_bin os_add (de_oix 0 de_int) de_int) de_int) (dss_cons (ds_set O 3 (de_bin os_mod (de_callTy cs_int B.b_int bb_int (da_cons (de_bin os_pow (de_bin os_add (de_oix 0 de_int) (de_bin os_mul de_int (de_oix 0 de_int))) de_int) da_nil)) de_int)) (dss_cons (ds_set O 2 (de_bin os_div (de_bin os_mod (de_callTy cs_int B.b_int bb_int (da_cons (de_bin os_pow (de_bin os_add (de_var 3) (de_bin os_mul de_int (de_oix 0 de_int))) de_int) da_nil)) de_int) de_int)) (dss_one (ds_ret (de_bin os_mod (de_callTy cs_int B.b_int bb_int (da_cons (de_var 2) da_nil)) (de_var 1))))))))
theorem cal_law_choice {a : Addr} {fd : FuncData} (hF : FunD K "_law_choice" "_law_choice" (defArgs s_law_choice) (defBody s_law_choice) (defScope s_law_choice) [] [] a fd) (hm : mg "_law_choice" = some (.ref a)) (G_law_draw : Cal P w K mg base 1 "_law_draw" (spI K f_law_draw)) : Cal P w K mg base 2 "_law_choice" (spI K f_law_choice) := by
  refine Cal.of (ps := ["source", "items"]) hF (okI (N := n_law_choice) (j := 1) hF sc_law_choice rfl rfl (by decide) fun cdv A outer s H E O => ?_) hm (fun _ _ _ _ _ _ us hl => match us, hl with | [_, _], _ => rfl)
  exact (dss_one (ds_ret (de_ix O (de_var 1) (de_callI O G_law_draw 0 (da_cons (de_callB cs_len B.b_len bb_len (da_cons (de_var 1) da_nil)) da_nil)))))
theorem cal_law_kind {a : Addr} {fd : FuncData} (hF : FunD K "_law_kind" "_law_kind" (defArgs s_law_kind) (defBody s_law_kind) (defScope s_law_kind) [] [] a fd) (hm : mg "_law_kind" = some (.ref a))  : Cal P w K mg base 1 "_law_kind" (spD K f_law_kind) := by
  refine Cal.of (ps := ["value"]) hF (okD (N := n_law_kind) (j := 0) hF sc_law_kind rfl rfl (by decide) fun cdv A outer s H E O => ?_) hm (fun _ _ _ _ _ _ us hl => match us, hl with | [_], _ => rfl)
  exact (dss_cons (ds_if (dt_val (de_isi .bool (de_var 0) B.b_isinstance B.b_bool bb_bool)) (dss_one (ds_ret de_int)) dss_nil) (dss_cons (ds_if (dt_val (de_isi .int (de_var 0) B.b_isinstance B.b_int bb_int)) (dss_one (ds_ret de_int)) dss_nil) (dss_cons (ds_if (dt_val (de_isi .str (de_var 0) B.b_isinstance B.b_str bb_str)) (dss_one (ds_ret de_int)) dss_nil) (dss_cons (ds_if (dt_val (de_isi .list (de_var 0) B.b_isinstance B.b_list bb_list)) (dss_one (ds_ret de_int)) dss_nil) (dss_one (ds_ret (de_if (dt_val (de_isi .tuple (de_var 0) B.b_isinstance B.b_tuple bb_tuple)) de_int de_int)))))))
theorem cal_law_equal {a : Addr} {fd : FuncData} (hF : FunD K "_law_equal" "_law_equal" (defArgs s_law_equal) (defBody s_law_equal) (defScope s_law_equal) [] [] a fd) (hm : mg "_law_equal" = some (.ref a)) (G_law_kind : Cal P w K mg base 1 "_law_kind" (spD K f_law_kind)) : ∀ n : Nat, Cal P w K mg base (2 + n) "_law_equal" (spD K (f_law_equal n))
  | 0 => Cal.zero (ps := ["value", "expected"]) hF hm (fun _ _ _ _ _ _ us hl => match us, hl with | [_, _], _ => rfl)
  | n + 1 => by
    have G_self := cal_law_equal hF hm G_law_kind n
    refine Cal.of (ps := ["value", "expected"]) hF (okD (N := n_law_equal) (j := 2 + n) hF sc_law_equal rfl rfl (by decide) fun cdv A outer s H E O => ?_) hm (fun _ _ _ _ _ _ us hl => match us, hl with | [_, _], _ => rfl)
    exact (dss_cons (ds_if (dt_cmp (os_ne O) (de_call O G_law_kind (da_cons (de_var 0) da_nil) (hj := by omega)) (de_call O G_law_kind (da_cons (de_var 1) da_nil) (hj := by omega))) (dss_one (ds_ret de_bl)) dss_nil) (dss_cons (ds_if (DW.t (dw_and (dt_cmp os_gt (de_call O G_law_kind (da_cons (de_var 0) da_nil) (hj := by omega)) de_int) (dw_and1 (dt_cmp os_lt (de_call O G_law_kind (da_cons (de_var 0) da_nil) (hj := by omega)) de_int)))) (dss_cons (ds_if (dt_cmp (os_ne O) (de_callB cs_len B.b_len bb_len (da_cons (de_var 0) da_nil)) (de_callB cs_len B.b_len bb_len (da_cons (de_var 1) da_nil))) (dss_one (ds_ret de_bl)) dss_nil) (dss_one (ds_ret (de_cmp (os_eq O) (DN.e (dn_comp (own := [("k", 2), ("part", 3)]) O (di_enum (de_var 0) B.b_enumerate) (blkOk_by (N := n_law_equal) (sc := (defScope s_law_equal)) (by decide +kernel)) (fun s H C cl fp O => (dp_tup O (dps_cons (dp_name O 2) (dps_cons (dp_name O 3) dps_nil)))) (fun s H C cl fp O => (dts_one (dt_not (dt_val (de_call O G_self (da_cons (de_var 3) (da_cons (de_ix O (de_var 1) (de_var 2)) da_nil)) (hj := by omega)))))) (fun s H C cl fp O => (de_var 2)))) (DN.e (dn_lst da_nil)))))) dss_nil) (dss_one (ds_ret (de_cmp (os_eq O) (de_var 0) (de_var 1))))))
theorem cal_law_effect {a : Addr} {fd : FuncData} (hF : FunD K "_law_effect" "_law_effect" (defArgs s_law_effect) (defBody s_law_effect) (defScope s_law_effect) [] [] a fd) (hm : mg "_law_effect" = some (.ref a)) (G_law_draw : Cal P w K mg base 1 "_law_draw" (spI K f_law_draw)) (G_law_choice : Cal P w K mg base 2 "_law_choice" (spI K f_law_choice)) : Cal P w K mg base 3 "_law_effect" (spI K f_law_effect) := by
  refine Cal.of (ps := ["source", "capacity"]) hF (okI (N := n_law_effect) (j := 2) hF sc_law_effect rfl rfl (by decide) fun cdv A outer s H E O => ?_) hm (fun _ _ _ _ _ _ us hl => match us, hl with | [_, _], _ => rfl)
  exact (dss_cons (ds_par O 2 3 (dx_im (de_callI O G_law_choice 0 (da_cons (DN.e (dn_lst (da_cons de_int (da_cons de_int (da_cons de_int (da_cons de_int da_nil)))))) da_nil))) (dx_ow (dn_lst da_nil))) (dss_cons (ds_for O (di_rng1 (de_var 1) B.b_range) (dp_name O 4) (dss_one (ds_if (DW.t (dw_and (dt_oNe O 3 (DN.e (dn_lst da_nil))) (dw_and1 (dt_cmp os_gt (de_callI O G_law_draw 0 (da_cons de_int da_nil)) de_int)))) (dss_one (ds_app 3 (de_oix 3 (de_un us_neg de_int)))) (dss_one (ds_app 3 (de_if (dt_cmp (os_eq O) (de_callI O G_law_draw 0 (da_cons (de_var 2) da_nil)) de_int) de_int de_int)))))) (dss_cons (ds_frz 3 (ds_new O 5 (dn_lst (da_cons (de_callI O G_law_draw 0 (da_cons (de_bin os_add (de_bin os_sub (de_var 1) (de_callB (cs_sum O) B.b_sum bb_sum (da_cons (de_var 3) da_nil))) de_int) da_nil)) da_nil)))) (dss_cons (ds_for O (di_seq (de_var 3)) (dp_name O 6) (dss_one (ds_app 5 (de_bin os_add (de_oix 5 (de_un us_neg de_int)) (de_var 6))))) (dss_one (ds_frz 5 (ds_ret (de_callTy cs_tuple B.b_tuple bb_tuple (da_cons (de_var 5) da_nil)))))))))
theorem cal_law_joined {a : Addr} {fd : FuncData} (hF : FunD K "_law_joined" "_law_joined" (defArgs s_law_joined) (defBody s_law_joined) (defScope s_law_joined) [] [] a fd) (hm : mg "_law_joined" = some (.ref a))  : Cal P w K mg base 1 "_law_joined" (spD K f_law_joined) := by
  refine Cal.of (ps := ["first", "second"]) hF (okD (N := n_law_joined) (j := 0) hF sc_law_joined rfl rfl (by decide) fun cdv A outer s H E O => ?_) hm (fun _ _ _ _ _ _ us hl => match us, hl with | [_, _], _ => rfl)
  exact (dss_one (ds_ret (de_callTy cs_tuple B.b_tuple bb_tuple (da_cons (DN.e (dn_comp (own := [("level", 2)]) O (di_seq (de_var 0)) (blkOk_by (N := n_law_joined) (sc := (defScope s_law_joined)) (by decide +kernel)) (fun s H C cl fp O => (dp_name O 2)) (fun s H C cl fp O => dts_nil) (fun s H C cl fp O => (de_ix O (de_var 1) (de_var 2))))) da_nil))))
theorem cal_law_small_cap {a : Addr} {fd : FuncData} (hF : FunD K "_law_small_cap" "_law_small_cap" (defArgs s_law_small_cap) (defBody s_law_small_cap) (defScope s_law_small_cap) [] [] a fd) (hm : mg "_law_small_cap" = some (.ref a)) (G_law_choice : Cal P w K mg base 2 "_law_choice" (spI K f_law_choice)) : Cal P w K mg base 3 "_law_small_cap" (spI K f_law_small_cap) := by
  refine Cal.of (ps := ["source"]) hF (okI (N := n_law_small_cap) (j := 2) hF sc_law_small_cap rfl rfl (by decide) fun cdv A outer s H E O => ?_) hm (fun _ _ _ _ _ _ us hl => match us, hl with | [_], _ => rfl)
  exact (dss_one (ds_ret (de_callI O G_law_choice 0 (da_cons (DN.e (dn_lst (da_cons de_int (da_cons de_int (da_cons de_int (da_cons de_int (da_cons de_int (da_cons de_int da_nil)))))))) da_nil))))
theorem cal_law_some {a : Addr} {fd : FuncData} (hF : FunD K "_law_some" "_law_some" (defArgs s_law_some) (defBody s_law_some) (defScope s_law_some) [] [] a fd) (hm : mg "_law_some" = some (.ref a)) (G_law_draw : Cal P w K mg base 1 "_law_draw" (spI K f_law_draw)) (G_law_effect : Cal P w K mg base 3 "_law_effect" (spI K f_law_effect)) : Cal P w K mg base 4 "_law_some" (spI K f_law_some) := by
  refine Cal.of (ps := ["source", "capacity"]) hF (okI (N := n_law_some) (j := 3) hF sc_law_some rfl rfl (by decide) fun cdv A outer s H E O => ?_) hm (fun _ _ _ _ _ _ us hl => match us, hl with | [_, _], _ => rfl)
  exact (dss_one (ds_ret (de_callTy cs_tuple B.b_tuple bb_tuple (da_cons (DN.e (dn_comp (own := [("turn", 2)]) O (di_rng1 (de_bin os_add de_int (de_callI O G_law_draw 0 (da_cons de_int da_nil))) B.b_range) (blkOk_by (N := n_law_some) (sc := (defScope s_law_some)) (by decide +kernel)) (fun s H C cl fp O => (dp_name O 2)) (fun s H C cl fp O => dts_nil) (fun s H C cl fp O => (de_callI O G_law_effect 0 (da_cons (de_var 1) da_nil))))) da_nil))))
theorem cal_law_words {a : Addr} {fd : FuncData} (hF : FunD K "_law_words" "_law_words" (defArgs s_law_words) (defBody s_law_words) (defScope s_law_words) [] [] a fd) (hm : mg "_law_words" = some (.ref a))  : Cal P w K mg base 1 "_law_words" (spD K f_law_words) := by
  refine Cal.of (ps := ["capacity", "some"]) hF (okD (N := n_law_words) (j := 0) hF sc_law_words rfl rfl (by decide) fun cdv A outer s H E O => ?_) hm (fun _ _ _ _ _ _ us hl => match us, hl with | [_, _], _ => rfl)
  exact (dss_cons (ds_set O 2 (de_tupRg1 O (de_bin os_add (de_var 0) de_int) B.b_tuple B.b_range)) (dss_cons (ds_par O 3 4 (dx_od (dq_dispT O (de_var 2) (de_tup da_nil))) (dx_im (DN.e (dn_lst (da_cons (de_tup (da_cons (de_tup da_nil) (da_cons (de_var 2) da_nil))) da_nil))))) (dss_cons (ds_while 3000 O (dt_cmp (os_ne O) (de_var 4) (DN.e (dn_lst da_nil))) (dss_cons (ds_new O 5 (dn_lst da_nil)) (dss_cons (ds_for O (di_seq (de_var 4)) (dp_tup O (dps_cons (dp_name O 6) (dps_cons (dp_name O 7) dps_nil))) (dss_one (ds_for O (di_enum (de_var 1) B.b_enumerate) (dp_tup O (dps_cons (dp_name O 8) (dps_cons (dp_name O 9) dps_nil))) (dss_cons (ds_set O 10 (de_callTy cs_tuple B.b_tuple bb_tuple (da_cons (DN.e (dn_comp (own := [("level", 11)]) O (di_seq (de_var 7)) (blkOk_by (N := n_law_words) (sc := (defScope s_law_words)) (by decide +kernel)) (fun s H C cl fp O => (dp_name O 11)) (fun s H C cl fp O => dts_nil) (fun s H C cl fp O => (de_ix O (de_var 9) (de_var 11))))) da_nil))) (dss_one (ds_if (dt_odNotIn O 3 (de_var 10)) (dss_cons (ds_odPut O 3 (de_bin os_add (de_var 6) (de_tup (da_cons (de_var 8) da_nil))) (de_var 10)) (dss_one (ds_app 5 (de_tup (da_cons (de_bin os_add (de_var 6) (de_tup (da_cons (de_var 8) da_nil))) (da_cons (de_var 10) da_nil)))))) dss_nil)))))) (dss_one (ds_frz 5 (ds_set O 4 (de_var 5))))))) (dss_one (ds_frz 3 (ds_ret (de_var 3)))))))
theorem ok_law {a : Addr} {fd : FuncData} (hF : FunD K "law" "law" (defArgs s_law) (defBody s_law) (defScope s_law) [] [] a fd) (hm : mg "law" = some (.ref a)) (G_word_effect : Cal P w K mg base 4 "word_effect" (spD K f_word_effect)) (G_count_generated : Cal P w K mg base 4 "count_generated" (spD K f_count_generated)) (G_shortest_word : Cal P w K mg base 4 "shortest_word" (spD K f_shortest_word)) (G_law_source : Cal P w K mg base 1 "_law_source" (spN K f_law_source)) (G_law_draw : Cal P w K mg base 1 "_law_draw" (spI K f_law_draw)) (G_law_choice : Cal P w K mg base 2 "_law_choice" (spI K f_law_choice)) (G_law_equal : Cal P w K mg base 14 "_law_equal" (spD K (f_law_equal 12))) (G_law_effect : Cal P w K mg base 3 "_law_effect" (spI K f_law_effect)) (G_law_joined : Cal P w K mg base 1 "_law_joined" (spD K f_law_joined)) (G_law_small_cap : Cal P w K mg base 3 "_law_small_cap" (spI K f_law_small_cap)) (G_law_some : Cal P w K mg base 4 "_law_some" (spI K f_law_some)) (G_law_words : Cal P w K mg base 1 "_law_words" (spD K f_law_words)) : FnOk P w K mg base CX0 15 a fd ["script"] (spD K f_law) := by
  refine okD (N := n_law) (j := 14) hF sc_law rfl rfl (by decide) fun cdv A outer s H E O => ?_
  exact (dss_cons (ds_for O (di_seq (DN.e (dn_slice (DN.e (dn_add (DN.e (dn_lst (da_cons de_int da_nil))) (de_var 0))) do_none (do_some de_int)))) (dp_name O 1) (dss_cons (ds_new O 2 (dn_call O G_law_source (da_cons (de_var 1) (da_cons de_int da_nil)))) (dss_cons (ds_set O 3 (de_callI O G_law_small_cap 2 da_nil)) (dss_cons (ds_set O 4 (de_callI O G_law_some 2 (da_cons (de_var 3) da_nil))) (dss_cons (ds_set O 5 (de_call O G_law_words (da_cons (de_var 3) (da_cons (de_var 4) da_nil)))) (dss_cons (ds_if (dt_not (dt_val (de_call O G_law_equal (da_cons (de_call O G_count_generated (da_cons (de_var 3) (da_cons (de_var 4) da_nil))) (da_cons (de_callB cs_len B.b_len bb_len (da_cons (de_var 5) da_nil)) da_nil))))) (dss_one (ds_ret de_bl)) dss_nil) (dss_cons (ds_for O (di_rng1 de_int B.b_range) (dp_name O 6) (dss_cons (ds_set O 7 (de_callI O G_law_choice 2 (da_cons (DN.e (dn_lst (da_cons (de_callI O G_law_effect 2 (da_cons (de_var 3) da_nil)) (da_cons (de_callI O G_law_choice 2 (da_cons (DN.e (dn_lkeys O (de_var 5) B.b_list)) da_nil)) da_nil)))) da_nil))) (dss_cons (ds_set O 8 (de_call O G_shortest_word (da_cons (de_var 3) (da_cons (de_var 4) (da_cons (de_var 7) da_nil))))) (dss_cons (ds_if (dt_not (dt_val (de_call O G_law_equal (da_cons (de_var 8) (da_cons (de_get2 O (de_var 5) (de_var 7) de_non) da_nil))))) (dss_one (ds_ret de_bl)) dss_nil) (dss_one (ds_if (DW.t (dw_and (dt_cmp os_notN (de_var 8) de_non) (dw_and1 (dt_cmp (os_ne O) (de_call O G_word_effect (da_cons (de_var 3) (da_cons (de_var 4) (da_cons (de_var 8) da_nil)))) (de_var 7))))) (dss_one (ds_ret de_bl)) dss_nil)))))) (dss_cons (ds_set O 9 (de_callTy cs_tuple B.b_tuple bb_tuple (da_cons (DN.e (dn_comp (own := [("turn", 6)]) O (di_rng1 (de_callI O G_law_draw 2 (da_cons de_int da_nil)) B.b_range) (blkOk_by (N := n_law) (sc := (defScope s_law)) (by decide +kernel)) (fun s H C cl fp O => (dp_name O 6)) (fun s H C cl fp O => dts_nil) (fun s H C cl fp O => (de_callI O G_law_draw 2 (da_cons (de_callB cs_len B.b_len bb_len (da_cons (de_var 4) da_nil)) da_nil))))) da_nil))) (dss_cons (ds_set O 10 (de_tupRg1 O (de_bin os_add (de_var 3) de_int) B.b_tuple B.b_range)) (dss_cons (ds_for O (di_seq (de_var 9)) (dp_name O 11) (dss_one (ds_set O 10 (de_call O G_law_joined (da_cons (de_var 10) (da_cons (de_ix O (de_var 4) (de_var 11)) da_nil)))))) (dss_cons (ds_if (DW.t (dw_or (dt_not (dt_val (de_call O G_law_equal (da_cons (de_call O G_word_effect (da_cons (de_var 3) (da_cons (de_var 4) (da_cons (de_var 9) da_nil)))) (da_cons (de_var 10) da_nil))))) (dw_or1 (dt_cmp (os_notIn O) (de_var 10) (de_var 5))))) (dss_one (ds_ret de_bl)) dss_nil) (dss_one (ds_if (dt_cmp (os_ne O) (de_call O G_count_generated (da_cons (de_var 3) (da_cons (de_revT (de_var 4)) da_nil))) (de_callB cs_len B.b_len bb_len (da_cons (de_var 5) da_nil))) (dss_one (ds_ret de_bl)) dss_nil))))))))))))) (dss_one (ds_ret (de_and (de_cmp (os_eq O) (de_call O G_count_generated (da_cons de_int (da_cons (de_tup (da_cons (de_tup (da_cons de_int (da_cons de_int (da_cons de_int da_nil)))) (da_cons (de_tup (da_cons de_int (da_cons de_int (da_cons de_int da_nil)))) da_nil))) da_nil))) de_int) (de_one (de_cmp os_isN (de_call O G_shortest_word (da_cons de_int (da_cons (de_tup (da_cons (de_tup (da_cons de_int (da_cons de_int (da_cons de_int da_nil)))) da_nil)) (da_cons (de_tup (da_cons de_int (da_cons de_int (da_cons de_int da_nil)))) da_nil)))) de_non))))))
end
def d_is_between : He.DefD := ⟨("is_between", none), "is_between", "is_between", defArgs s_is_between, defBody s_is_between, defScope s_is_between, [], []⟩
def d_is_map : He.DefD := ⟨("is_map", none), "is_map", "is_map", defArgs s_is_map, defBody s_is_map, defScope s_is_map, [], []⟩
def d_check_effect : He.DefD := ⟨("check_effect", none), "check_effect", "check_effect", defArgs s_check_effect, defBody s_check_effect, defScope s_check_effect, [], []⟩
def d_join : He.DefD := ⟨("join", none), "join", "join", defArgs s_join, defBody s_join, defScope s_join, [], []⟩
def d_check_small : He.DefD := ⟨("check_small", none), "check_small", "check_small", defArgs s_check_small, defBody s_check_small, defScope s_check_small, [], []⟩
def d_check_some : He.DefD := ⟨("check_some", none), "check_some", "check_some", defArgs s_check_some, defBody s_check_some, defScope s_check_some, [], []⟩
def d_word_effect : He.DefD := ⟨("word_effect", none), "word_effect", "word_effect", defArgs s_word_effect, defBody s_word_effect, defScope s_word_effect, [], []⟩
def d_shortest_words : He.DefD := ⟨("shortest_words", none), "shortest_words", "shortest_words", defArgs s_shortest_words, defBody s_shortest_words, defScope s_shortest_words, [], []⟩
def d_count_generated : He.DefD := ⟨("count_generated", none), "count_generated", "count_generated", defArgs s_count_generated, defBody s_count_generated, defScope s_count_generated, [], []⟩
def d_shortest_word : He.DefD := ⟨("shortest_word", none), "shortest_word", "shortest_word", defArgs s_shortest_word, defBody s_shortest_word, defScope s_shortest_word, [], []⟩
def d_law_source : He.DefD := ⟨("_law_source", none), "_law_source", "_law_source", defArgs s_law_source, defBody s_law_source, defScope s_law_source, [], []⟩
def d_law_draw : He.DefD := ⟨("_law_draw", none), "_law_draw", "_law_draw", defArgs s_law_draw, defBody s_law_draw, defScope s_law_draw, [], []⟩
def d_law_choice : He.DefD := ⟨("_law_choice", none), "_law_choice", "_law_choice", defArgs s_law_choice, defBody s_law_choice, defScope s_law_choice, [], []⟩
def d_law_kind : He.DefD := ⟨("_law_kind", none), "_law_kind", "_law_kind", defArgs s_law_kind, defBody s_law_kind, defScope s_law_kind, [], []⟩
def d_law_equal : He.DefD := ⟨("_law_equal", none), "_law_equal", "_law_equal", defArgs s_law_equal, defBody s_law_equal, defScope s_law_equal, [], []⟩
def d_law_effect : He.DefD := ⟨("_law_effect", none), "_law_effect", "_law_effect", defArgs s_law_effect, defBody s_law_effect, defScope s_law_effect, [], []⟩
def d_law_joined : He.DefD := ⟨("_law_joined", none), "_law_joined", "_law_joined", defArgs s_law_joined, defBody s_law_joined, defScope s_law_joined, [], []⟩
def d_law_small_cap : He.DefD := ⟨("_law_small_cap", none), "_law_small_cap", "_law_small_cap", defArgs s_law_small_cap, defBody s_law_small_cap, defScope s_law_small_cap, [], []⟩
def d_law_some : He.DefD := ⟨("_law_some", none), "_law_some", "_law_some", defArgs s_law_some, defBody s_law_some, defScope s_law_some, [], []⟩
def d_law_words : He.DefD := ⟨("_law_words", none), "_law_words", "_law_words", defArgs s_law_words, defBody s_law_words, defScope s_law_words, [], []⟩
def d_law : He.DefD := ⟨("law", none), "law", "law", defArgs s_law, defBody s_law, defScope s_law, [], []⟩
def fn : List He.DefD := [d_is_between, d_is_map, d_check_effect, d_join, d_check_small, d_check_some, d_word_effect, d_shortest_words, d_count_generated, d_shortest_word, d_law_source, d_law_draw, d_law_choice, d_law_kind, d_law_equal, d_law_effect, d_law_joined, d_law_small_cap, d_law_some, d_law_words, d_law]
def fa : List He.Fa := [He.Fa.glo "is_between", He.Fa.glo "is_map", He.Fa.glo "check_effect", He.Fa.glo "join", He.Fa.glo "check_small", He.Fa.glo "check_some", He.Fa.glo "word_effect", He.Fa.glo "shortest_words", He.Fa.glo "count_generated", He.Fa.glo "shortest_word", He.Fa.glo "_law_source", He.Fa.glo "_law_draw", He.Fa.glo "_law_choice", He.Fa.glo "_law_kind", He.Fa.glo "_law_equal", He.Fa.glo "_law_effect", He.Fa.glo "_law_joined", He.Fa.glo "_law_small_cap", He.Fa.glo "_law_some", He.Fa.glo "_law_words", He.Fa.glo "law", He.Fa.free "all", He.Fa.free "bool", He.Fa.free "enumerate", He.Fa.free "int", He.Fa.free "isinstance", He.Fa.free "len", He.Fa.free "list", He.Fa.free "range", He.Fa.free "str", He.Fa.free "sum", He.Fa.free "tuple", He.Fa.free "zip", He.Fa.int "MAX_EFFECTS" 4, He.Fa.int "MAX_SMALL" 8, He.Fa.int "MAX_WORD" 60]
abbrev R : PySem.W.OpenRow := PySem.W.OpenLaw.row PySem.Challenge.rw_levelmaps_k29_whole_effects_of_all_order
abbrev hk : PySem.W.Hook := He.hookD 4 fa fn
def ob (s : PySem.W.SharedT) : He.AlD := He.obsDG 4 fa fn (HandSHeadRun.getT s)
theorem ob_eq (s : PySem.W.SharedT) : ob s = hk.obs s.abs := He.obsDG_eq (HandSHeadRun.getT_eq s)
def loose0 : List Str := ["LevelError", "InvalidCapacity", "InvalidEffect", "InvalidEffects", "InvalidWord", "is_between", "is_map", "check_effect", "join", "MAX_SMALL", "MAX_EFFECTS", "MAX_WORD", "check_small", "check_some", "word_effect", "shortest_words", "count_generated", "shortest_word", "_law_source", "_law_draw", "_law_choice", "_law_kind", "_law_equal", "_law_effect"]
def loose1 : List Str := ["_law_joined", "_law_small_cap", "_law_some", "_law_words"]
def loose : List Str := loose0 ++ loose1
theorem run (w : World) : HandSHeadRun.RunEq R (PySem.W.view R.prog [34]) hk ob 20000 loose w := by
  intro os
  kernel_rfl
theorem facts {P : Program} {w : World} {K : PySem.W.Frag} {h : Heap} {mg : Str → Option Value} {f : Addr} (X : K.In h) (G : h.Ns mainGlobals mg) (hfa : mg ("law" : Str) = some (.ref f)) (c : He.SaysD fa fn K) :
    ∃ fd : FuncData, (∀ (s : Shared) (v : Value), BindsTo s fd ⟨[v], []⟩ [("script", v)]) ∧ ∀ base : Heap, K.In base → base.Ns mainGlobals mg → FnOk P w K mg base CX0 15 f fd ["script"] (spD K f_law) := by
  obtain ⟨fd_is_between, F_is_between⟩ := c.def_ 0 (d := d_is_between) rfl
  obtain ⟨fd_is_map, F_is_map⟩ := c.def_ 1 (d := d_is_map) rfl
  obtain ⟨fd_check_effect, F_check_effect⟩ := c.def_ 2 (d := d_check_effect) rfl
  obtain ⟨fd_join, F_join⟩ := c.def_ 3 (d := d_join) rfl
  obtain ⟨fd_check_small, F_check_small⟩ := c.def_ 4 (d := d_check_small) rfl
  obtain ⟨fd_check_some, F_check_some⟩ := c.def_ 5 (d := d_check_some) rfl
  obtain ⟨fd_word_effect, F_word_effect⟩ := c.def_ 6 (d := d_word_effect) rfl
  obtain ⟨fd_shortest_words, F_shortest_words⟩ := c.def_ 7 (d := d_shortest_words) rfl
  obtain ⟨fd_count_generated, F_count_generated⟩ := c.def_ 8 (d := d_count_generated) rfl
  obtain ⟨fd_shortest_word, F_shortest_word⟩ := c.def_ 9 (d := d_shortest_word) rfl
  obtain ⟨fd_law_source, F_law_source⟩ := c.def_ 10 (d := d_law_source) rfl
  obtain ⟨fd_law_draw, F_law_draw⟩ := c.def_ 11 (d := d_law_draw) rfl
  obtain ⟨fd_law_choice, F_law_choice⟩ := c.def_ 12 (d := d_law_choice) rfl
  obtain ⟨fd_law_kind, F_law_kind⟩ := c.def_ 13 (d := d_law_kind) rfl
  obtain ⟨fd_law_equal, F_law_equal⟩ := c.def_ 14 (d := d_law_equal) rfl
  obtain ⟨fd_law_effect, F_law_effect⟩ := c.def_ 15 (d := d_law_effect) rfl
  obtain ⟨fd_law_joined, F_law_joined⟩ := c.def_ 16 (d := d_law_joined) rfl
  obtain ⟨fd_law_small_cap, F_law_small_cap⟩ := c.def_ 17 (d := d_law_small_cap) rfl
  obtain ⟨fd_law_some, F_law_some⟩ := c.def_ 18 (d := d_law_some) rfl
  obtain ⟨fd_law_words, F_law_words⟩ := c.def_ 19 (d := d_law_words) rfl
  obtain ⟨fd_law, F_law⟩ := c.def_ 20 (d := d_law) rfl
  have B : Bf mg := ⟨He.free_ok X G (c.fact 21 (f := He.Fa.free "all") rfl), He.free_ok X G (c.fact 22 (f := He.Fa.free "bool") rfl), He.free_ok X G (c.fact 23 (f := He.Fa.free "enumerate") rfl), He.free_ok X G (c.fact 24 (f := He.Fa.free "int") rfl), He.free_ok X G (c.fact 25 (f := He.Fa.free "isinstance") rfl), He.free_ok X G (c.fact 26 (f := He.Fa.free "len") rfl), He.free_ok X G (c.fact 27 (f := He.Fa.free "list") rfl), He.free_ok X G (c.fact 28 (f := He.Fa.free "range") rfl), He.free_ok X G (c.fact 29 (f := He.Fa.free "str") rfl), He.free_ok X G (c.fact 30 (f := He.Fa.free "sum") rfl), He.free_ok X G (c.fact 31 (f := He.Fa.free "tuple") rfl), He.free_ok X G (c.fact 32 (f := He.Fa.free "zip") rfl), He.int_ok X G (c.fact 33 (f := He.Fa.int "MAX_EFFECTS" 4) rfl), He.int_ok X G (c.fact 34 (f := He.Fa.int "MAX_SMALL" 8) rfl), He.int_ok X G (c.fact 35 (f := He.Fa.int "MAX_WORD" 60) rfl)⟩
  have e := hfa.symm.trans (He.glo_ok X G (c.fact 20 (f := He.Fa.glo "law") rfl))
  cases e
  have b := FunD.bindsA (ps := ["script"]) F_law fun _ _ _ _ _ _ us hl => match us, hl with | [_], _ => rfl
  refine ⟨fd_law, fun s v => b s [v] rfl, fun base _ _ => ?_⟩
  have G_is_between : Cal P w K mg base 1 "is_between" (spD K f_is_between) := cal_is_between B F_is_between (He.glo_ok X G (c.fact 0 (f := He.Fa.glo "is_between") rfl)) 
  have G_is_map : Cal P w K mg base 2 "is_map" (spD K f_is_map) := cal_is_map B F_is_map (He.glo_ok X G (c.fact 1 (f := He.Fa.glo "is_map") rfl)) G_is_between
  have G_check_effect : Cal P w K mg base 3 "check_effect" (spD K f_check_effect) := cal_check_effect B F_check_effect (He.glo_ok X G (c.fact 2 (f := He.Fa.glo "check_effect") rfl)) G_is_map
  have G_join : Cal P w K mg base 1 "join" (spD K f_join) := cal_join B F_join (He.glo_ok X G (c.fact 3 (f := He.Fa.glo "join") rfl)) 
  have G_check_small : Cal P w K mg base 2 "check_small" (spD K f_check_small) := cal_check_small B F_check_small (He.glo_ok X G (c.fact 4 (f := He.Fa.glo "check_small") rfl)) G_is_between
  have G_check_some : Cal P w K mg base 3 "check_some" (spD K f_check_some) := cal_check_some B F_check_some (He.glo_ok X G (c.fact 5 (f := He.Fa.glo "check_some") rfl)) G_is_map G_check_small
  have G_word_effect : Cal P w K mg base 4 "word_effect" (spD K f_word_effect) := cal_word_effect B F_word_effect (He.glo_ok X G (c.fact 6 (f := He.Fa.glo "word_effect") rfl)) G_is_between G_join G_check_some
  have G_shortest_words : Cal P w K mg base 2 "shortest_words" (spD K f_shortest_words) := cal_shortest_words B F_shortest_words (He.glo_ok X G (c.fact 7 (f := He.Fa.glo "shortest_words") rfl)) G_join
  have G_count_generated : Cal P w K mg base 4 "count_generated" (spD K f_count_generated) := cal_count_generated B F_count_generated (He.glo_ok X G (c.fact 8 (f := He.Fa.glo "count_generated") rfl)) G_check_some G_shortest_words
  have G_shortest_word : Cal P w K mg base 4 "shortest_word" (spD K f_shortest_word) := cal_shortest_word B F_shortest_word (He.glo_ok X G (c.fact 9 (f := He.Fa.glo "shortest_word") rfl)) G_check_effect G_check_some G_shortest_words
  have G_law_source : Cal P w K mg base 1 "_law_source" (spN K f_law_source) := cal_law_source B F_law_source (He.glo_ok X G (c.fact 10 (f := He.Fa.glo "_law_source") rfl)) 
  have G_law_draw : Cal P w K mg base 1 "_law_draw" (spI K f_law_draw) := cal_law_draw B F_law_draw (He.glo_ok X G (c.fact 11 (f := He.Fa.glo "_law_draw") rfl)) 
  have G_law_choice : Cal P w K mg base 2 "_law_choice" (spI K f_law_choice) := cal_law_choice B F_law_choice (He.glo_ok X G (c.fact 12 (f := He.Fa.glo "_law_choice") rfl)) G_law_draw
  have G_law_kind : Cal P w K mg base 1 "_law_kind" (spD K f_law_kind) := cal_law_kind B F_law_kind (He.glo_ok X G (c.fact 13 (f := He.Fa.glo "_law_kind") rfl)) 
  have G_law_equal : Cal P w K mg base 14 "_law_equal" (spD K (f_law_equal 12)) := cal_law_equal B F_law_equal (He.glo_ok X G (c.fact 14 (f := He.Fa.glo "_law_equal") rfl)) G_law_kind 12
  have G_law_effect : Cal P w K mg base 3 "_law_effect" (spI K f_law_effect) := cal_law_effect B F_law_effect (He.glo_ok X G (c.fact 15 (f := He.Fa.glo "_law_effect") rfl)) G_law_draw G_law_choice
  have G_law_joined : Cal P w K mg base 1 "_law_joined" (spD K f_law_joined) := cal_law_joined B F_law_joined (He.glo_ok X G (c.fact 16 (f := He.Fa.glo "_law_joined") rfl)) 
  have G_law_small_cap : Cal P w K mg base 3 "_law_small_cap" (spI K f_law_small_cap) := cal_law_small_cap B F_law_small_cap (He.glo_ok X G (c.fact 17 (f := He.Fa.glo "_law_small_cap") rfl)) G_law_choice
  have G_law_some : Cal P w K mg base 4 "_law_some" (spI K f_law_some) := cal_law_some B F_law_some (He.glo_ok X G (c.fact 18 (f := He.Fa.glo "_law_some") rfl)) G_law_draw G_law_effect
  have G_law_words : Cal P w K mg base 1 "_law_words" (spD K f_law_words) := cal_law_words B F_law_words (He.glo_ok X G (c.fact 19 (f := He.Fa.glo "_law_words") rfl)) 
  exact ok_law B F_law (He.glo_ok X G (c.fact 20 (f := He.Fa.glo "law") rfl)) G_word_effect G_count_generated G_shortest_word G_law_source G_law_draw G_law_choice G_law_equal G_law_effect G_law_joined G_law_small_cap G_law_some G_law_words
end DL.k29

open PySem PySem.W PyProof.Rows
set_option maxRecDepth 100000 in
set_option maxHeartbeats 0 in
theorem PySem.Challenge.cw_levelmaps_k29_whole_effects_of_all_order_holds : PySem.Challenge.rw_levelmaps_k29_whole_effects_of_all_order.Holds := by
  w_on; o_law
  refine HandSHeadRun.head_any (r := OpenLaw.row PySem.Challenge.rw_levelmaps_k29_whole_effects_of_all_order) (q := view (OpenLaw.row PySem.Challenge.rw_levelmaps_k29_whole_effects_of_all_order).prog [34]) (H := DL.k29.hk) (ob := DL.k29.ob) (M := 20000) (loose := DL.k29.loose) (d := HandSHeadRun.topDef (OpenLaw.row PySem.Challenge.rw_levelmaps_k29_whole_effects_of_all_order).prog 34) (kwd := []) DL.k29.ob_eq
    (by kernel_rfl) (fun s => by kernel_rfl) DL.k29.run (by kernel_rfl) (by kernel_rfl) (by kernel_rfl) (by rfl) (by first | assumption | decide +kernel) (by decide +kernel) ⟨rfl, rfl, rfl, rfl, rfl, by decide +kernel⟩ ?hw ?hc
  case hw => w_witness2
  case hc =>
    refine DL.walk_ofEB (l := PySem.Challenge.rw_levelmaps_k29_whole_effects_of_all_order) (n := 63) (k := 15) (x := "script") (CX := L2.CX0) rfl (by decide) (by kernel_rfl) ⟨rfl, by decide, by decide⟩ ?F (fun _ _ _ _ z => z)
    intro w mg fa h Y G hmg0
    obtain ⟨K, KX, c⟩ := Y
    have hmg : mg ("law" : PySem.Str) = some (.ref fa) := by
      have e : (HandSHeadRun.topDef (OpenLaw.row PySem.Challenge.rw_levelmaps_k29_whole_effects_of_all_order).prog 34).name = ("law" : PySem.Str) := by kernel_rfl
      rw [← e]
      exact hmg0
    obtain ⟨fd, hb, hF⟩ := DL.k29.facts (P := (PySem.Challenge.rw_levelmaps_k29_whole_effects_of_all_order).prog) (w := w) KX G hmg c
    exact ⟨K, fd, DL.spD K DL.k29.f_law, KX, hb, fun H a ns hl hbit _ hS => DL.law_end (DL.k29.law_ok ns hl) hS, hF⟩
