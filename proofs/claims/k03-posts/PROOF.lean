import PyProof.Rows.All
import Wide.All
import OpenK.AllK
import Wide.FinOn
import HandS.ForMost
import HandS.Style
import HandS.Deep
import HandS.IsInst
import HandS.SortInts
import HandS.SetFor
import HandS.WordsExc
import PySem.Challenge.RW_freesets_k03_posts
set_option Elab.async false
set_option linter.all false
set_option maxRecDepth 100000
/-! FS1: the value-level language: values, stripped syntax, evaluation. Pure Lean. -/
namespace FS
open PySem L2

/-- deep values: no heap -/
inductive D where
  | non | bl (b : Bool) | int (i : Int) | str (s : Str) | scr (ns : List Int)
  | lst (xs : List D) | tup (xs : List D) | dic (kvs : List (Int × D))
  | obj (c : Str) (fs : List (Str × D)) | exc (c : Str)

/-- no list, no dict within -/
def D.imm : D → Bool
  | .lst _ => false
  | .dic _ => false
  | .tup xs => immL xs
  | .obj _ fs => immF fs
  | _ => true
where
  immL : List D → Bool
    | [] => true
    | d :: ds => d.imm && immL ds
  immF : List (Str × D) → Bool
    | [] => true
    | (_, d) :: ds => d.imm && immF ds

inductive R (α : Type) where
  | ok (a : α) | exc (c : Str) | bad

def R.bind {α β : Type} (x : R α) (f : α → R β) : R β := match x with
  | .ok a => f a
  | .exc c => .exc c
  | .bad => .bad

/-- no exception here -/
def R.nox {α : Type} : R α → R α
  | .ok a => .ok a
  | _ => .bad
/-- r: the root is new; n: all lists within are younger than the frame; c: no own root within -/
structure Fl where
  r : Bool
  n : Bool
  c : Bool
abbrev Fl.I : Fl := ⟨true, true, true⟩

inductive Slot where
  | shr (d : D) (n : Bool)
  | own (d : D) (n : Bool)
  /-- a tree of one's own: all lists, dicts within are its own -/
  | dep (d : D)
  /-- the object that is being made, its fields trees -/
  | slf (c : Str) (fs : List (Str × D))
abbrev SEnv := List (Option Slot)

inductive Fid where
  | fn (x : Str) | me (c m : Str) | mk (c : Str) | ini (c : Str)
  /-- the same, its i-th argument changed by it -/
  | fx (x : Str) (i : Nat) | mx (c m : Str) (i : Nat)

/-- what isinstance asks -/
inductive Ty where
  | int | bool | list | tuple | str | cls (c : Str)

inductive Bi where
  | len | list | tuple | sorted | sum | max | min | all | any | int | str | lenset | isi (t : Ty) | count | index
  | join | strip | starts | split | part

inductive Tg where
  | nm (i : Nat)
  | tp (is : List Nat)

mutual
inductive Ex where
  | var (i : Nat)
  | con (d : D)
  | glb (x : Str)
  | bin (op : Operator) (a b : Ex)
  | un (op : UnaryOp) (a : Ex)
  | and (a b : Ex)
  | or (a b : Ex)
  | cmp (op : CmpOp) (a b : Ex)
  | chn (op op' : CmpOp) (a b c : Ex)
  | ite (c a b : Ex)
  | lst (es : Exs)
  | tup (es : Exs)
  | dic (k e : Ex)
  | dic0
  | comp (elt : Ex) (tg : Tg) (it : It) (cond : Ex) (own : List Nat)
  | call (f : Fid) (es : Exs)
  | bi (b : Bi) (es : Exs)
  | mth (o : Ex) (m : Str) (es : Exs)
  | rcv (b : Bi) (o : Ex) (es : Exs)
  | att (o : Ex) (f : Str)
  | idx (o i : Ex)
  | rev (o : Ex)
  | slc (o lo hi : Ex)
  | sortk (e : Ex) (i : Nat) (key : Ex)
  /-- trees are lent: read, not kept -/
  | bor (e : Ex)
  /-- [k for k in d if d[k] == e] -/
  | keq (j i : Nat) (e : Ex)
inductive Exs where
  | nil
  | cons (e : Ex) (es : Exs)
inductive It where
  | seq (e : Ex)
  | rng (a b : Ex)
  | rng1 (b : Ex)
  | enum (e : Ex)
  | zip (a b : Ex)
end

mutual
/-- what makes a tree -/
inductive TEx where
  | im (e : Ex)
  | lst (ts : TExs)
  | comp (elt : Ex) (tg : Tg) (it : It) (cond : Ex) (own : List Nat)
  | call (f : Fid) (es : Exs)
inductive TExs where
  | nil
  | cons (t : TEx) (ts : TExs)
end
/-- a step into a tree -/
inductive PSt where
  | ix (e : Ex)
  | at (f : Str)
/-- what is done to a tree's list -/
inductive MOp where
  | app (t : TEx)
  | rem (e : Ex)
  | clr
  | set (k e : Ex)
inductive Cal where
  | fn (x : Str)
  | me (o : Ex) (m : Str)
mutual
inductive Sx where
  | asg (i : Nat) (e : Ex)
  | asgT (is : List Nat) (e : Ex)
  | par (i j : Nat) (a b : Ex)
  | fld (f : Str) (e : Ex)
  | supi (c : Str) (es : Exs)
  | app (i : Nat) (e : Ex)
  | popA (j i : Nat) (e : Ex)
  | appPop (j i : Nat) (e : Ex)
  | set (i : Nat) (k e : Ex)
  | aug (i : Nat) (op : Operator) (k e : Ex)
  | augV (i : Nat) (op : Operator) (e : Ex)
  | clr (i : Nat)
  | ite (c : Ex) (a b : Sxs)
  | whl (c : Ex) (b : Sxs)
  | for (tg : Tg) (it : It) (b : Sxs)
  | ret (e : Ex)
  | rai (c : Str)
  | expr (e : Ex)
  | pass
  | tryE (b : Sx) (c : Str) (i : Option Nat) (s : Sxs)
  | asgD (j : Nat) (t : TEx)
  | fldD (f : Str) (t : TEx)
  | mut (j : Nat) (p : List PSt) (op : MOp)
  | mutT (t : TEx) (p : List PSt) (op : MOp)
  | forM (j i : Nat) (op : MOp)
  | retT (t : TEx)
  | retP (e : Ex) (j : Nat)
  | retX (i : Nat) (e : Ex)
  | callX (c : Cal) (j : Nat) (pre post : Exs)
  | iteX (neg : Bool) (c : Cal) (j : Nat) (pre post : Exs) (a b : Sxs)
  | forX (tg : Tg) (c : Cal) (j : Nat) (pre post : Exs) (b : Sxs)
  | forD (tg : Tg) (j : Nat) (p : List PSt) (b : Sxs)
inductive Sxs where
  | nil
  | cons (s : Sx) (ss : Sxs)
end

/-- a def: the number of its parameters, of its slots, its body -/
structure Fn where
  np : Nat
  ns : Nat
  body : Sxs

structure Tb where
  /-- classes whose objects hold trees -/
  ans : Str → Bool
  con : Str → Option D
  fn : Fid → Option Fn
  /-- the class in which a class's method stands -/
  mro : Str → Str → Option Str
  /-- subclass -/
  sub : Str → Str → Bool

def lim : Nat := 1000000

/-! ### data -/
mutual
def D.eqv : D → D → Bool
  | .non, .non => true
  | .bl a, .bl b => a == b
  | .bl a, .int j => (if a then 1 else 0) == j
  | .int i, .bl b => i == (if b then 1 else 0)
  | .int i, .int j => i == j
  | .str x, .str y => x == y
  | .lst xs, .lst ys => eqvL xs ys
  | .tup xs, .tup ys => eqvL xs ys
  | _, _ => false
def eqvL : List D → List D → Bool
  | [], [] => true
  | x :: xs, y :: ys => x.eqv y && eqvL xs ys
  | _, _ => false
end
/-- data (no dict, no object) of depth at most n -/
def D.dat : Nat → D → Bool
  | _, .non => true
  | _, .bl _ => true
  | _, .int _ => true
  | _, .str x => PyData.strOk x
  | n + 1, .lst xs => xs.all (D.dat n)
  | n + 1, .tup xs => xs.all (D.dat n)
  | _, _ => false

def mkL (ds : List D) (n : Bool) : D × Fl := (.lst ds, ⟨true, n || ds.all D.imm, true⟩)
def mkI (d : D) : D × Fl := (d, .I)
/-- an item of something -/
def mkE (d : D) (n : Bool) : D × Fl := (d, ⟨false, n || d.imm, true⟩)

/-- no list within a list -/
def D.flat : D → Bool
  | .lst ds => ds.all D.imm
  | .dic kvs => kvs.all fun p => p.2.imm
  | d => d.imm
/-- a step, reckoned -/
inductive St1 where
  | ix (k : Nat)
  | at (f : Str)
def modI (g : D → D) : Nat → List D → List D
  | _, [] => []
  | 0, d :: ds => g d :: ds
  | k + 1, d :: ds => d :: modI g k ds
def modF (f : Str) (g : D → D) : List (Str × D) → List (Str × D)
  | [] => []
  | (k, d) :: r => if f == k then (k, g d) :: r else (k, d) :: modF f g r
def getP : List St1 → D → Option D
  | [], d => some d
  | .ix k :: p, .lst ds => (ds[k]?).bind (getP p)
  | .ix k :: p, .tup ds => (ds[k]?).bind (getP p)
  | .at f :: p, .obj _ fs => (fs.lookup f).bind (getP p)
  | _, _ => none
def setP (d' : D) : List St1 → D → D
  | [], _ => d'
  | .ix k :: p, .lst ds => .lst (modI (setP d' p) k ds)
  | .ix k :: p, .tup ds => .tup (modI (setP d' p) k ds)
  | .at f :: p, .obj c fs => .obj c (modF f (setP d' p) fs)
  | _, d => d
def ixN' (n : Nat) (i : Int) : Option Nat := if 0 ≤ i then (if i < n then some i.toNat else none) else if -(n : Int) ≤ i then some (i + n).toNat else none

/-! ### operators -/
def binV (op : Operator) (x y : D × Fl) : R (D × Fl) := match op, x, y with
  | .Add, (.int i, _), (.int j, _) => .ok (mkI (.int (i + j)))
  | .Add, (.lst a, f), (.lst b, g) => if a.length + b.length ≤ lim then .ok (mkL (a ++ b) (f.n && g.n)) else .bad
  | .Add, (.str a, _), (.str b, _) => if a.length + b.length ≤ lim then .ok (mkI (.str (a ++ b))) else .bad
  | .Sub, (.int i, _), (.int j, _) => .ok (mkI (.int (i - j)))
  | .Mult, (.int i, _), (.int j, _) => if (-(2 ^ 64) < i ∧ i < 2 ^ 64) ∨ (-(2 ^ 64) < j ∧ j < 2 ^ 64) then .ok (mkI (.int (i * j))) else .bad
  | .Mult, (.lst a, f), (.int j, _) => if 0 ≤ j ∧ j ≤ lim ∧ a.length * j.toNat ≤ lim then .ok (mkL (List.replicate j.toNat a).flatten f.n) else .bad
  | .Mod, (.int i, _), (.int j, _) => if 0 < j then .ok (mkI (.int (i % j))) else .bad
  | .FloorDiv, (.int i, _), (.int j, _) => if 0 < j ∧ j < 1073741824 then .ok (mkI (.int (i / j))) else .bad
  | .LShift, (.int i, _), (.int j, _) => if 0 ≤ j ∧ j ≤ 1000000 ∧ i.natAbs < 2 ^ 64 then .ok (mkI (.int (i * 2 ^ j.toNat))) else .bad
  | .RShift, (.int i, _), (.int j, _) => if 0 ≤ j then .ok (mkI (.int (i / 2 ^ j.toNat))) else .bad
  | .Pow, (.int i, _), (.int j, _) => if 0 ≤ j ∧ j ≤ 1000000 ∧ i.natAbs < 2 ^ 64 then .ok (mkI (.int (i ^ j.toNat))) else .bad
  | .BitAnd, (.int i, _), (.int j, _) => .ok (mkI (.int (Builtin.bitAnd i j)))
  | .BitOr, (.int i, _), (.int j, _) => .ok (mkI (.int (Builtin.bitOr i j)))
  | .BitXor, (.int i, _), (.int j, _) => .ok (mkI (.int (Builtin.bitXor i j)))
  | _, _, _ => .bad
def unV (op : UnaryOp) (x : D × Fl) : R (D × Fl) := match op, x with
  | .USub, (.int i, _) => .ok (mkI (.int (-i)))
  | .Invert, (.int i, _) => .ok (mkI (.int (Builtin.bitNot i)))
  | .Not, (.bl b, _) => .ok (mkI (.bl (!b)))
  | _, _ => .bad
def inV' (x : D) (xs : List D) : Bool := xs.any fun y => y.eqv x
def cmpV (op : CmpOp) (x y : D) : R Bool := match op, x, y with
  | .Lt, .int i, .int j => .ok (decide (i < j))
  | .LtE, .int i, .int j => .ok (decide (i ≤ j))
  | .Gt, .int i, .int j => .ok (decide (j < i))
  | .GtE, .int i, .int j => .ok (decide (j ≤ i))
  | .Eq, .scr ns, .lst [] => .ok ns.isEmpty
  | .Eq, x, y => if x.dat 60 && y.dat 60 then .ok (x.eqv y) else .bad
  | .NotEq, x, y => if x.dat 60 && y.dat 60 then .ok (!x.eqv y) else .bad
  | .Is, .non, .non => .ok true
  | .Is, _, .non => .ok false
  | .IsNot, .non, .non => .ok false
  | .IsNot, _, .non => .ok true
  | .Is, .bl a, .bl b => .ok (a == b)
  | .In, x, .lst ys => if x.dat 60 && ys.all (D.dat 60) then .ok (inV' x ys) else .bad
  | .In, x, .tup ys => if x.dat 0 && ys.all (D.dat 0) then .ok (inV' x ys) else .bad
  | .NotIn, x, .lst ys => if x.dat 60 && ys.all (D.dat 60) then .ok (!inV' x ys) else .bad
  | .NotIn, x, .tup ys => if x.dat 0 && ys.all (D.dat 0) then .ok (!inV' x ys) else .bad
  | .In, .int i, .dic kvs => .ok ((kvs.lookup i).isSome)
  | .NotIn, .int i, .dic kvs => .ok (!(kvs.lookup i).isSome)
  | _, _, _ => .bad
def idxV (x y : D × Fl) : R (D × Fl) := match x, y with
  | (.lst xs, f), (.int i, _) => match (ixN' xs.length i).bind fun j => xs[j]? with
    | some d => .ok (mkE d f.n)
    | none => .bad
  | (.tup xs, f), (.int i, _) => match (ixN' xs.length i).bind fun j => xs[j]? with
    | some d => .ok (mkE d f.n)
    | none => .bad
  | (.scr ns, _), (.int i, _) => match (ixN' ns.length i).bind fun j => ns[j]? with
    | some z => .ok (mkI (.int z))
    | none => .bad
  | (.dic kvs, f), (.int i, _) => match kvs.lookup i with
    | some d => .ok (mkE d f.n)
    | none => .bad
  | _, _ => .bad
/-- isinstance -/
def isiV (T : Tb) (t : Ty) (x : D) : R Bool := match t, x with
  | .int, .int _ => .ok true
  | .int, .bl _ => .ok true
  | .bool, .bl _ => .ok true
  | .list, .lst _ => .ok true
  | .tuple, .tup _ => .ok true
  | .str, .str _ => .ok true
  | .cls c, .obj e _ => .ok (T.sub e c)
  | .cls c, .exc e => .ok (T.sub e c)
  | _, .scr _ => .bad
  | _, .dic _ => .bad
  | _, _ => .ok false
def intsD : List D → Option (List Int)
  | [] => some []
  | .int i :: r => (intsD r).map (i :: ·)
  | _ :: _ => none
def bls : List D → Option (List Bool)
  | [] => some []
  | .bl i :: r => (bls r).map (i :: ·)
  | _ :: _ => none
def insSort {α : Type} (le : α → α → Bool) : List α → List α
  | [] => []
  | x :: xs => ins x (insSort le xs)
where
  ins (x : α) : List α → List α
    | [] => [x]
    | y :: ys => if le x y then x :: y :: ys else y :: ins x ys
def dedup (ns : List Int) : List Int := ns.foldl (fun acc x => if acc.any (· == x) then acc else acc ++ [x]) []
def maxL : List Int → Int
  | [] => 0
  | [x] => x
  | x :: xs => if maxL xs > x then maxL xs else x
def minL : List Int → Int
  | [] => 0
  | [x] => x
  | x :: xs => if minL xs < x then minL xs else x
def bi1 (T : Tb) (b : Bi) (x : D) (f : Fl) : R (D × Fl) := match b, x with
  | .len, .lst ds => .ok (mkI (.int ds.length))
  | .len, .tup ds => .ok (mkI (.int ds.length))
  | .len, .scr ds => .ok (mkI (.int ds.length))
  | .len, .str s => if s.length ≤ lim then .ok (mkI (.int s.length)) else .bad
  | .list, .lst ds => .ok (mkL ds f.n)
  | .list, .tup ds => .ok (mkL ds f.n)
  | .tuple, .lst ds => .ok (.tup ds, ⟨true, f.n || ds.all D.imm, true⟩)
  | .tuple, .tup ds => .ok (.tup ds, ⟨false, f.n, true⟩)
  | .all, .lst ds => match bls ds with
    | some bs => .ok (mkI (.bl (bs.all id)))
    | none => .bad
  | .any, .lst ds => match bls ds with
    | some bs => .ok (mkI (.bl (bs.any id)))
    | none => .bad
  | .sum, .lst ds => match intsD ds with
    | some ns => .ok (mkI (.int ns.sum))
    | none => .bad
  | .max, .lst ds => match intsD ds with
    | some ns => if ns = [] then .bad else .ok (mkI (.int (maxL ns)))
    | none => .bad
  | .min, .lst ds => match intsD ds with
    | some ns => if ns = [] then .bad else .ok (mkI (.int (minL ns)))
    | none => .bad
  | .sorted, .lst ds => match intsD ds with
    | some ns => .ok (mkL ((insSort (fun a b => decide (a ≤ b)) ns).map D.int) true)
    | none => .bad
  | .lenset, .lst ds => match intsD ds with
    | some ns => if ns.length ≤ 1000 then .ok (mkI (.int (dedup ns).length)) else .bad
    | none => .bad
  | .isi t, x => match isiV T t x with
    | .ok k => .ok (mkI (.bl k))
    | _ => .bad
  | _, _ => .bad
def bi2 (b : Bi) (x y : D) : R (D × Fl) := match b, x, y with
  | .max, .int i, .int j => .ok (mkI (.int (if j > i then j else i)))
  | .min, .int i, .int j => .ok (mkI (.int (if j < i then j else i)))
  | .count, .lst ds, .int k => match intsD ds with
    | some ns => .ok (mkI (.int (ns.count k)))
    | none => .bad
  | _, _, _ => .bad
def biV (T : Tb) (b : Bi) : List (D × Fl) → R (D × Fl)
  | [x] => bi1 T b x.1 x.2
  | [x, y] => bi2 b x.1 y.1
  | _ => .bad

/-- what a built-in method is asked of -/
def rcvB (b : Bi) (x : D) : Bool := match b, x with
  | .count, .lst _ => true
  | .index, .lst _ => true
  | .join, .str _ => true
  | .strip, .str _ => true
  | .starts, .str _ => true
  | .split, .str _ => true
  | .part, .str _ => true
  | _, _ => false
def wipeE (E : SEnv) : List Nat → SEnv
  | [] => E
  | v :: vs => (wipeE E vs).set v none
/-- the values of a target's names -/
def tgV (E : SEnv) (t : Tg) (x : D) (n : Bool) : R SEnv := match t, x with
  | .nm i, x => .ok (E.set i (some (.shr x n)))
  | .tp [i, j], .tup [a, b] => .ok ((E.set i (some (.shr a n))).set j (some (.shr b n)))
  | .tp [i, j, k], .tup [a, b, c] => .ok (((E.set i (some (.shr a n))).set j (some (.shr b n))).set k (some (.shr c n)))
  | _, _ => .bad
def cutD (xs : List D) (lo hi : Option Int) : List D := (xs.drop (HT.sIx xs.length 0 lo)).take (HT.sIx xs.length xs.length hi - HT.sIx xs.length 0 lo)
def enumD : Nat → List D → List D
  | _, [] => []
  | k, d :: ds => .tup [.int k, d] :: enumD (k + 1) ds
def keysV (f : Int → R Int) : List Int → R (List Int)
  | [] => .ok []
  | k :: ks => (f k).bind fun z => (keysV f ks).bind fun zs => .ok (z :: zs)
/-- arguments: their values; their flags together -/
def cmb : List (D × Fl) → List D × Fl
  | [] => ([], .I)
  | x :: xs => (x.1 :: (cmb xs).1, ⟨false, (x.2.n || x.1.imm) && (cmb xs).2.n, x.2.c && (cmb xs).2.c⟩)

/-! ### expressions -/
/-- a comprehension's turns -/
def compV (turn : D → R (Option (D × Bool))) : List D → List D → Bool → R (List D × Bool)
  | [], acc, n => .ok (acc, n)
  | x :: xs, acc, n => (turn x).bind fun o => match o with
    | none => compV turn xs acc n
    | some (d, m) => compV turn xs (acc ++ [d]) (n && m)
def compTurn (c e : SEnv → R (D × Fl)) (E : SEnv) (tg : Tg) (n : Bool) (x : D) : R (Option (D × Bool)) :=
  (tgV E tg x n).bind fun E' => (c E').bind fun k => match k.1 with
    | .bl true => (e E').bind fun y => if y.2.c then .ok (some (y.1, y.2.n || y.1.imm)) else .bad
    | .bl false => .ok none
    | _ => .bad
def callF (x : D × Bool) (f : Fl) : R (D × Fl) := if x.2 || x.1.imm || f.c then .ok (x.1, ⟨x.2, x.2 || x.1.imm || f.n, true⟩) else .bad
def boolR (x : D × Fl) (f : Bool → R α) : R α := match x.1 with
  | .bl k => f k
  | _ => .bad
def itV (it : D × Fl) : R (List D × Bool × Bool) := match it with
  | (.lst ds, f) => .ok (ds, f.n, f.c)
  | (.tup ds, f) => .ok (ds, f.n, f.c)
  | _ => .bad
def rngV (x y : D) : R (List D × Bool × Bool) := match x, y with
  | .int i, .int j => if -(lim : Int) ≤ i ∧ i ≤ lim ∧ -(lim : Int) ≤ j ∧ j ≤ lim then .ok ((List.range (j - i).toNat).map fun (k : Nat) => D.int (i + k), true, true) else .bad
  | _, _ => .bad
def enumV (x : D × Fl) : R (List D × Bool × Bool) := match x with
  | (.lst ds, f) => .ok (enumD 0 ds, f.n, f.c)
  | _ => .bad
def zipV (x y : D × Fl) : R (List D × Bool × Bool) := match x, y with
  | (.lst ds, f), (.lst es, g) => if ds.length = es.length then .ok ((ds.zip es).map fun p => D.tup [p.1, p.2], f.n && g.n, f.c && g.c) else .bad
  | (.tup ds, f), (.tup es, g) => if ds.length = es.length then .ok ((ds.zip es).map fun p => D.tup [p.1, p.2], f.n && g.n, f.c && g.c) else .bad
  | _, _ => .bad
def mthC (T : Tb) (m : Str) (x : D) : R Str := match x with
  | .obj c fs => match fs.lookup m, T.mro c m with
    | none, some b => .ok b
    | _, _ => .bad
  | _ => .bad
def attV (x : D × Fl) (f : Str) : R (D × Fl) := match x.1 with
  | .obj _ fs => match fs.lookup f with
    | some d => .ok (mkE d x.2.n)
    | none => .bad
  | _ => .bad
def revV (x : D × Fl) : R (D × Fl) := match x with
  | (.lst ds, f) => .ok (mkL ds.reverse f.n)
  | _ => .bad
def slcV (x : D × Fl) (l h : D) : R (D × Fl) := match x, l, h with
  | (.lst ds, f), .int i, .int j => .ok (mkL (cutD ds (some i) (some j)) f.n)
  | (.lst ds, f), .int i, .non => .ok (mkL (cutD ds (some i) none) f.n)
  | (.lst ds, f), .non, .int j => .ok (mkL (cutD ds none (some j)) f.n)
  | _, _, _ => .bad
def sortkV (x : D × Fl) (f : Int → R Int) : R (D × Fl) := match x.1 with
  | .lst ds => match intsD ds with
    | some ns => (keysV f ns).bind fun ks => .ok (mkL ((insSort (fun (a b : Int × Int) => decide (a.1 ≤ b.1)) (ks.zip ns)).map fun p => D.int p.2) true)
    | none => .bad
  | _ => .bad
def borS : Option Slot → Option Slot
  | some (.dep d) => some (.shr d false)
  | some (.slf _ _) => none
  | s => s
/-- the trees lent -/
def borE (E : SEnv) : SEnv := E.map borS
/-- a value that holds nothing of what was lent -/
def safeB (x : D × Fl) : Bool := x.1.imm || (x.2.r && x.2.c && x.1.flat)
def safeV (x : D × Fl) : R (D × Fl) := if safeB x then .ok (mkI x.1) else .bad
def isI : D → Bool
  | .int _ => true
  | _ => false
def keqV (x y : D) : R (D × Fl) := match x, y with
  | .dic kvs, .int z => if kvs.all (fun p => isI p.2) then .ok (mkL ((kvs.filter fun p => match kvs.lookup p.1 with
      | some d => d.eqv (.int z)
      | none => false).map fun p => D.int p.1) true) else .bad
  | _, _ => .bad
section
variable (T : Tb) (C : Fid → List D → R (D × Bool))
mutual
def ev : Ex → SEnv → R (D × Fl)
  | .var i, E => match E[i]? with
    | some (some (.shr d n)) => .ok (d, ⟨false, n || d.imm, true⟩)
    | some (some (.own (.lst ds) n)) => .ok (.lst ds, ⟨false, n, false⟩)
    | some (some (.own (.dic ds) n)) => .ok (.dic ds, ⟨false, n, false⟩)
    | _ => .bad
  | .con d, _ => .ok (mkI d)
  | .glb x, _ => match T.con x with
    | some d => .ok (mkI d)
    | none => .bad
  | .bin op a b, E => (ev a E).bind fun x => (ev b E).bind fun y => binV op x y
  | .un op a, E => (ev a E).bind fun x => unV op x
  | .and a b, E => (ev a E).bind fun x => boolR x fun k => if k then ev b E else .ok (mkI (.bl false))
  | .or a b, E => (ev a E).bind fun x => boolR x fun k => if k then .ok (mkI (.bl true)) else ev b E
  | .cmp op a b, E => (ev a E).bind fun x => (ev b E).bind fun y => (cmpV op x.1 y.1).bind fun k => .ok (mkI (.bl k))
  | .chn op op' a b c, E => (ev a E).bind fun x => (ev b E).bind fun y => (cmpV op x.1 y.1).bind fun k => if k then (ev c E).bind fun z => (cmpV op' y.1 z.1).bind fun k' => .ok (mkI (.bl k')) else .ok (mkI (.bl false))
  | .ite c a b, E => (ev c E).bind fun x => boolR x fun k => if k then ev a E else ev b E
  | .lst es, E => (evl es E).bind fun xs => if (cmb xs).2.c then .ok (mkL (cmb xs).1 (cmb xs).2.n) else .bad
  | .tup es, E => (evl es E).bind fun xs => if (cmb xs).2.c then .ok (.tup (cmb xs).1, ⟨true, (cmb xs).2.n, true⟩) else .bad
  | .dic0, _ => .ok (.dic [], .I)
  | .dic k e, E => (ev k E).bind fun x => (ev e E).bind fun y => match x.1 with
    | .int i => if y.2.c then .ok (.dic [(i, y.1)], ⟨true, y.2.n || y.1.imm, true⟩) else .bad
    | _ => .bad
  | .comp elt tg it cond own, E => (evI it E).bind fun p =>
      (compV (compTurn (fun E => ev cond E) (fun E => ev elt E) (wipeE E own) tg p.2.1) p.1 [] true).nox.bind fun q => .ok (mkL q.1 q.2)
  | .call f es, E => (evl es E).bind fun xs => (C f (cmb xs).1).bind fun q => callF q (cmb xs).2
  | .bi b es, E => (evl es E).bind fun xs => biV T b xs
  | .mth o m es, E => (ev o E).bind fun x => (mthC T m x.1).bind fun b => (evl es E).bind fun xs => (C (.me b m) (x.1 :: (cmb xs).1)).bind fun q => callF q (cmb (x :: xs)).2
  | .rcv b o es, E => (ev o E).bind fun x => if rcvB b x.1 then (evl es E).bind fun xs => biV T b (x :: xs) else .bad
  | .att o f, E => (ev o E).bind fun x => attV x f
  | .idx o i, E => (ev o E).bind fun x => (ev i E).bind fun y => idxV x y
  | .rev o, E => (ev o E).bind fun x => revV x
  | .slc o lo hi, E => (ev o E).bind fun x => (ev lo E).bind fun l => (ev hi E).bind fun h => slcV x l.1 h.1
  | .sortk e i key, E => (ev e E).bind fun x => sortkV x fun k => (ev key ((wipeE E [i]).set i (some (.shr (.int k) true)))).bind fun y => match y.1 with
          | .int z => .ok z
          | _ => .bad
  | .bor e, E => (ev e (borE E)).bind safeV
  | .keq j i e, E => if j < E.length then match E[i]? with
    | some (some (.shr d _)) => (ev e E).bind fun y => keqV d y.1
    | _ => .bad
    else .bad
def evl : Exs → SEnv → R (List (D × Fl))
  | .nil, _ => .ok []
  | .cons e es, E => (ev e E).bind fun x => (evl es E).bind fun p => .ok (x :: p)
/-- the items that are walked; whether all are younger than the frame; whether what is walked stands still -/
def evI : It → SEnv → R (List D × Bool × Bool)
  | .seq e, E => (ev e E).bind fun x => itV x
  | .rng a b, E => (ev a E).bind fun x => (ev b E).bind fun y => rngV x.1 y.1
  | .rng1 b, E => (ev b E).bind fun y => rngV (.int 0) y.1
  | .enum e, E => (ev e E).bind fun x => enumV x
  | .zip a b, E => (ev a E).bind fun x => (ev b E).bind fun y => zipV x y
end
end

/-! ### trees -/
section
variable (T : Tb) (C : Fid → List D → R (D × Bool))
def safeD (x : D × Fl) : R D := if safeB x then .ok x.1 else .bad
def compTurnT (c e : SEnv → R (D × Fl)) (E : SEnv) (tg : Tg) (n : Bool) (x : D) : R (Option (D × Bool)) :=
  (tgV E tg x n).bind fun E' => (c E').bind fun k => match k.1 with
    | .bl true => (e E').bind fun y => if safeB y then .ok (some (y.1, true)) else .bad
    | .bl false => .ok none
    | _ => .bad
mutual
def tev : TEx → SEnv → R D
  | .im e, E => (ev T C e (borE E)).bind safeD
  | .lst ts, E => (tevs ts E).bind fun ds => if ds.length ≤ lim then .ok (.lst ds) else .bad
  | .comp elt tg it cond own, E => (evI T C it (borE E)).bind fun p =>
      (compV (compTurnT (fun E => ev T C cond E) (fun E => ev T C elt E) (wipeE (borE E) own) tg p.2.1) p.1 [] true).nox.bind fun q => .ok (.lst q.1)
  | .call f es, E => (evl T C es (borE E)).bind fun xs => (C f (cmb xs).1).bind fun q => if q.2 || q.1.imm then .ok q.1 else .bad
def tevs : TExs → SEnv → R (List D)
  | .nil, _ => .ok []
  | .cons t ts, E => (tev t E).bind fun d => (tevs ts E).bind fun ds => .ok (d :: ds)
end
def stV (x : D) : R St1 := match x with
  | .int z => if 0 ≤ z then .ok (.ix z.toNat) else .bad
  | _ => .bad
/-- a way into a tree -/
def evP : List PSt → SEnv → R (List St1)
  | [], _ => .ok []
  | .ix e :: p, E => (ev T C e (borE E)).nox.bind fun x => (stV x.1).bind fun s => (evP p E).bind fun q => .ok (s :: q)
  | .at f :: p, E => (evP p E).bind fun q => .ok (.at f :: q)
def remV (d x : D) : R D := match d, x with
  | .lst ds, .int z => match intsD ds with
    | some ns => if ns.contains z then .ok (.lst ((ns.erase z).map D.int)) else .bad
    | none => .bad
  | _, _ => .bad
def appD (d x : D) : R D := match d with
  | .lst ds => if ds.length < lim then .ok (.lst (ds ++ [x])) else .bad
  | _ => .bad
def clrD (d : D) : R D := match d with
  | .lst _ => .ok (.lst [])
  | _ => .bad
end
/-! ### statements -/
inductive Fw where
  | nx (E : SEnv)
  | rt (d : D) (n : Bool)
  /-- a def that changes an argument: the value, the argument -/
  | rx (i : Nat) (d d2 : D)
def frz1 (E : SEnv) (i : Nat) : SEnv := match E[i]? with
  | some (some (.own (.lst ds) n)) => E.set i (some (.shr (.lst ds) n))
  | some (some (.own (.dic ds) n)) => E.set i (some (.shr (.dic ds) n))
  | _ => E
def frz (E : SEnv) : List Nat → SEnv
  | [] => E
  | i :: is => frz (frz1 E i) is
/-- the names whose own objects flow into the value -/
def esc : Ex → List Nat
  | .var i => [i]
  | .ite _ a b => esc a ++ esc b
  | .lst es => escs es
  | .tup es => escs es
  | .dic _ e => esc e
  | .bin _ a b => escb a ++ escb b
  | _ => []
where
  escs : Exs → List Nat
    | .nil => []
    | .cons e es => esc e ++ escs es
  escb : Ex → List Nat
    | .var _ => []
    | e => esc e
def escI : It → List Nat
  | .seq e => esc e
  | .enum e => esc e
  | .zip a b => esc a ++ esc b
  | _ => []
def D.isL : D → Bool
  | .lst _ => true
  | .dic _ => true
  | _ => false
/-- an own list, dict by its name -/
def ownV (E : SEnv) : Ex → Option (D × Bool)
  | .var i => match E[i]? with
    | some (some (.own (.lst ds) n)) => some (.lst ds, n)
    | some (some (.own (.dic ds) n)) => some (.dic ds, n)
    | _ => none
  | _ => none
def asgV (E : SEnv) (i : Nat) (x : D × Fl) : R Fw := match x.1 with
  | .lst ds => if x.2.r then .ok (.nx (E.set i (some (.own (.lst ds) x.2.n)))) else if x.2.c then .ok (.nx (E.set i (some (.shr (.lst ds) x.2.n)))) else .bad
  | .dic ds => if x.2.r then .ok (.nx (E.set i (some (.own (.dic ds) x.2.n)))) else if x.2.c then .ok (.nx (E.set i (some (.shr (.dic ds) x.2.n)))) else .bad
  | d => if x.2.c then .ok (.nx (E.set i (some (.shr d x.2.n)))) else .bad
def ownL (E : SEnv) (i : Nat) : Option (List D × Bool) := match E[i]? with
  | some (some (.own (.lst ds) n)) => some (ds, n)
  | _ => none
def ownK (E : SEnv) (i : Nat) : Option (List (Int × D) × Bool) := match E[i]? with
  | some (some (.own (.dic ds) n)) => some (ds, n)
  | _ => none
def putL (E : SEnv) (i : Nat) (ds : List D) (n : Bool) : SEnv := E.set i (some (.own (.lst ds) n))
def appV (E : SEnv) (i : Nat) (ds : List D) (n : Bool) (x : D × Fl) : R Fw := if x.2.c ∧ ds.length < lim then .ok (.nx (putL E i (ds ++ [x.1]) (n && (x.2.n || x.1.imm)))) else .bad
/-- the place of an index, the item there -/
def popV (ds : List D) (k : D) : R (Nat × D) := match k with
  | .int z => match ixN' ds.length z with
    | some m => match ds[m]? with
      | some d => if -(2 ^ 63) ≤ z ∧ z < 2 ^ 63 then .ok (m, d) else .bad
      | none => .bad
    | none => .bad
  | _ => .bad
def putD (kvs : List (Int × D)) (k : Int) (d : D) : List (Int × D) := if kvs.any (fun p => decide (p.1 = k)) then kvs.map (fun p => if p.1 = k then (p.1, d) else p) else kvs ++ [(k, d)]
def setLV (E : SEnv) (i : Nat) (ds : List D) (n : Bool) (k : D) (x : D × Fl) : R Fw := match k with
  | .int z => match ixN' ds.length z with
    | some m => if x.2.c then .ok (.nx (putL E i (ds.set m x.1) (n && (x.2.n || x.1.imm)))) else .bad
    | none => .bad
  | _ => .bad
def setKV (E : SEnv) (i : Nat) (kvs : List (Int × D)) (n : Bool) (k : D) (x : D × Fl) : R Fw := match k with
  | .int z => if x.2.c ∧ kvs.length < lim then .ok (.nx (E.set i (some (.own (.dic (putD kvs z x.1)) (n && (x.2.n || x.1.imm)))))) else .bad
  | _ => .bad
def putO (f : Str) (v : D) : List (Str × D) → List (Str × D)
  | [] => [(f, v)]
  | (g, w) :: r => if g = f then (g, v) :: r else (g, w) :: putO f v r
def ownO (E : SEnv) (i : Nat) : Option (Str × List (Str × D) × Bool) := match E[i]? with
  | some (some (.own (.obj c fs) n)) => some (c, fs, n)
  | _ => none
def putS (E : SEnv) (i : Nat) (c : Str) (fs : List (Str × D)) (n : Bool) : SEnv := E.set i (some (.own (.obj c fs) n))
def forV (turn : D → SEnv → R Fw) : List D → SEnv → R Fw
  | [], E => .ok (.nx E)
  | x :: xs, E => (turn x E).bind fun f => match f with
    | .nx E' => forV turn xs E'
    | .rt d n => .ok (.rt d n)
    | .rx i d n => .ok (.rx i d n)
def whlV (c : SEnv → R Bool) (b : SEnv → R Fw) : Nat → SEnv → R Fw
  | 0, _ => .bad
  | w + 1, E => (c E).bind fun k => if k then (b E).bind fun f => match f with
      | .nx E' => whlV c b w E'
      | .rt d n => .ok (.rt d n)
      | .rx i d n => .ok (.rx i d n)
    else .ok (.nx E)
/-- the slots of a target -/
def tgSlots : Tg → List Nat
  | .nm i => [i]
  | .tp is => is
/-- none of these is locked (i + 1000: the argument that is to be changed, which keeps its place) -/
def lkB (L is : List Nat) : Bool := is.all fun i => !(L.contains i || L.contains (i + 1000))
/-- an own list that is walked by its name -/
def ownIt (E : SEnv) : It → Option (Nat × List D × Bool)
  | .seq (.var i) => match ownL E i with
    | some (ds, n) => some (i, ds, n)
    | none => none
  | _ => none
def depO : Option (Option Slot) → Option D
  | some (some (.dep d)) => some d
  | _ => none
def slfO : Option (Option Slot) → Option (Str × List (Str × D))
  | some (some (.slf c fs)) => some (c, fs)
  | _ => none
section
variable (T : Tb) (C : Fid → List D → R (D × Bool))
def setV (d k x : D) : R D := match d, k with
  | .lst ds, .int z => match ixN' ds.length z with
    | some m => if x.imm && ds.all D.imm then .ok (.lst (ds.set m x)) else .bad
    | none => .bad
  | .dic kvs, .int z => if x.imm && decide (kvs.length < lim) then .ok (.dic (putD kvs z x)) else .bad
  | _, _ => .bad
/-- what is done to a list of a tree -/
def mutV (op : MOp) (E : SEnv) (d : D) : R D := match op with
  | .app t => (tev T C t E).bind fun x => appD d x
  | .rem e => (ev T C e (borE E)).nox.bind fun x => remV d x.1
  | .clr => clrD d
  | .set k e => (ev T C e (borE E)).nox.bind fun x => (ev T C k (borE E)).nox.bind fun y => setV d y.1 x.1
def okM (op : MOp) (d : D) : Bool := match op, d with
  | .set _ _, _ => true
  | _, .lst _ => true
  | _, _ => false
def mutD (p : List PSt) (op : MOp) (E : SEnv) (d : D) : R D := (evP T C p E).bind fun q => match getP q d with
  | some d1 => if okM op d1 then (mutV T C op E d1).bind fun d2 => .ok (setP d2 q d) else .bad
  | none => .bad
/-- the same done to all lists of a list -/
def allM (op : MOp) : List D → R (List D)
  | [] => .ok []
  | d :: ds => (match op with
    | .clr => clrD d
    | .app (.im (.con (.int z))) => appD d (.int z)
    | _ => .bad).bind fun d' => (allM op ds).bind fun ds' => .ok (d' :: ds')
/-- a call that changes an argument, own lists given up: what it tells, the argument -/
def evX1 (c : Cal) (pre post : Exs) (E : SEnv) (d : D) : R (D × Bool) := match c with
    | .fn x => (evl T C pre E).bind fun xs => (evl T C post E).bind fun ys => if (cmb xs).2.c && (cmb ys).2.c then (C (.fx x xs.length) ((cmb xs).1 ++ d :: (cmb ys).1)).nox else .bad
    | .me o m => (ev T C o E).bind fun x => (mthC T m x.1).bind fun b => (evl T C pre E).bind fun xs => (evl T C post E).bind fun ys => if (cmb xs).2.c && (cmb ys).2.c then (C (.mx b m (xs.length + 1)) (x.1 :: (cmb xs).1 ++ d :: (cmb ys).1)).nox else .bad
def evX2 (E : SEnv) (j : Nat) : D × Bool → R (D × SEnv)
    | (.tup [r, d2], true) => .ok (r, E.set j (some (.dep d2)))
    | _ => .bad
def evX (c : Cal) (j : Nat) (pre post : Exs) (L : List Nat) (E : SEnv) : R (D × SEnv) := if !L.contains j && lkB L (esc.escs pre ++ esc.escs post) then match depO E[j]? with
  | some d => (evX1 T C c pre post (frz E (esc.escs pre ++ esc.escs post)) d).bind (evX2 (frz E (esc.escs pre ++ esc.escs post)) j)
  | none => .bad
  else .bad
end
section
variable (T : Tb) (W : Nat) (C : Fid → List D → R (D × Bool))
mutual
/-- L: the locked slots: own lists that are being walked -/
def exec : Sx → List Nat → SEnv → R Fw
  | .asg i e, L, E => if lkB L (i :: esc e) then (ev T C e (frz E (esc e))).bind fun x => asgV (frz E (esc e)) i x else .bad
  | .asgT is e, L, E => if lkB L (is ++ esc e) then (ev T C e (frz E (esc e))).bind fun x => if x.2.c then (tgV (frz E (esc e)) (.tp is) x.1 x.2.n).bind fun E' => .ok (.nx E') else .bad else .bad
  | .par i j a b, L, E => if lkB L (i :: j :: (esc a ++ esc b)) then (ev T C a (frz E (esc a ++ esc b))).bind fun x => (ev T C b (frz E (esc a ++ esc b))).bind fun y => if x.2.c ∧ y.2.c then .ok (.nx (((frz E (esc a ++ esc b)).set i (some (.shr x.1 x.2.n))).set j (some (.shr y.1 y.2.n)))) else .bad else .bad
  | .fld f e, L, E => if lkB L (0 :: esc e) then match ownO (frz E (esc e)) 0 with
    | some (c, fs, n) => (ev T C e (frz E (esc e))).bind fun x => if x.2.c ∧ fs.length < 900 then .ok (.nx (putS (frz E (esc e)) 0 c (putO f x.1 fs) (n && (x.2.n || x.1.imm)))) else .bad
    | none => .bad
    else .bad
  | .supi b es, L, E => if lkB L [0] then match ownO E 0 with
    | some (c, fs, n) => (evl T C es E).bind fun xs => if (cmb xs).2.c && fs.isEmpty then (C (.ini b) (.obj c [] :: (cmb xs).1)).bind fun q => match q.1 with
        | .obj c2 fs2 => if c2 = c then .ok (.nx (putS E 0 c fs2 (n && (q.2 || (cmb xs).2.n)))) else .bad
        | _ => .bad
      else .bad
    | none => .bad
    else .bad
  | .app i e, L, E => if lkB L (i :: esc e) then match ownL (frz E (esc e)) i with
    | some (ds, n) => (ev T C e (frz E (esc e))).bind fun x => appV (frz E (esc e)) i ds n x
    | none => .bad
    else .bad
  | .popA j i e, L, E => if lkB L [j, i] then match ownL E i with
    | some (ds, n) => (ev T C e E).bind fun k => (popV ds k.1).bind fun p => .ok (.nx ((putL E i (ds.eraseIdx p.1) n).set j (some (.shr p.2 n))))
    | none => .bad
    else .bad
  | .appPop j i e, L, E => if lkB L [i, j] then match ownL E i, ownL E j with
    | some (ds, n), some (es, m) => if i = j then .bad else (ev T C e E).bind fun k => (popV ds k.1).bind fun p => appV (putL E i (ds.eraseIdx p.1) n) j es m (p.2, ⟨false, n, true⟩)
    | _, _ => .bad
    else .bad
  | .set i k e, L, E => if lkB L (i :: esc e) then match ownL (frz E (esc e)) i, ownK (frz E (esc e)) i with
    | some (ds, n), _ => (ev T C e (frz E (esc e))).bind fun x => (ev T C k (frz E (esc e))).bind fun y => setLV (frz E (esc e)) i ds n y.1 x
    | _, some (ds, n) => (ev T C e (frz E (esc e))).bind fun x => (ev T C k (frz E (esc e))).bind fun y => setKV (frz E (esc e)) i ds n y.1 x
    | _, _ => .bad
    else .bad
  | .aug i op k e, L, E => if lkB L [i] then match ownL E i with
    | some (ds, n) => (ev T C k E).bind fun y => match y.1 with
      | .int z => match (ixN' ds.length z).bind fun m => ds[m]? with
        | some d => (ev T C e E).bind fun u => match d, u.1 with
          | .int a, .int b => if op = .Add then setLV E i ds n y.1 (mkI (.int (a + b))) else .bad
          | _, _ => .bad
        | none => .bad
      | _ => .bad
    | none => .bad
    else .bad
  | .augV i op e, L, E => if lkB L [i] then (ev T C (.var i) E).bind fun x => (ev T C e E).bind fun y => match x.1, y.1 with
    | .int _, .int _ => (binV op x y).bind fun u => asgV E i u
    | _, _ => .bad
    else .bad
  | .clr i, L, E => if lkB L [i] then match ownL E i with
    | some (_, n) => .ok (.nx (putL E i [] n))
    | none => .bad
    else .bad
  | .ite c a b, L, E => (ev T C c E).bind fun k => boolR k fun k => if k then execs a L E else execs b L E
  | .whl c b, L, E => whlV (fun E => (ev T C c E).bind fun k => boolR k fun k => .ok k) (fun E => execs b L E) W E
  | .for tg it b, L, E => match ownIt E it with
    | some (i, ds, n) => if lkB L (tgSlots tg) && !(tgSlots tg).contains i then forV (fun x E => (tgV E tg x n).bind fun E' => execs b (i :: L) E') ds E else .bad
    | none => if lkB L (tgSlots tg ++ escI it) then (evI T C it (frz E (escI it))).bind fun p => if p.2.2 then forV (fun x E => (tgV E tg x p.2.1).bind fun E' => execs b L E') p.1 (frz E (escI it)) else .bad else .bad
  | .ret e, _, E => match ownV E e with
    | some (d, n) => .ok (.rt d (n && d.flat))
    | none => (ev T C e (frz E (List.range E.length))).bind fun x => if x.2.c then .ok (.rt x.1 (x.2.n && (x.2.r || !x.1.isL) && x.1.flat)) else .bad
  | .rai c, _, _ => .exc c
  | .expr e, _, E => (ev T C e E).bind fun _ => .ok (.nx E)
  | .pass, _, E => .ok (.nx E)
  | .tryE b c i s, L, E => match exec b L E with
    | .ok f => .ok f
    | .bad => .bad
    | .exc x => if T.sub x c then (match i with
        | some i => if lkB L [i] then (execs s L (E.set i (some (.shr (.exc x) true)))).bind fun f => match f with
            | .nx E' => .ok (.nx (E'.set i none))
            | .rt d n => .ok (.rt d n)
            | .rx i d n => .ok (.rx i d n)
          else .bad
        | none => execs s L E) else .exc x
  | .asgD j t, L, E => if lkB L [j] then (tev T C t E).bind fun d => .ok (.nx (E.set j (some (.dep d)))) else .bad
  | .fldD f t, _, E => match slfO E[0]? with
    | some (c, fs) => (tev T C t E).bind fun d => if fs.length < 900 ∧ fs.lookup f = none then .ok (.nx (E.set 0 (some (.slf c (fs ++ [(f, d)]))))) else .bad
    | none => .bad
  | .mut j p op, L, E => if L.contains j then .bad else match depO E[j]? with
    | some d => (mutD T C p op E d).bind fun d' => .ok (.nx (E.set j (some (.dep d'))))
    | none => .bad
  | .mutT t p op, _, E => (tev T C t E).bind fun d => (mutD T C p op E d).bind fun _ => .ok (.nx E)
  | .forM j i op, L, E => if (lkB L [j, i] && !(i == j)) && decide (i < E.length) then match depO E[j]? with
    | some (.lst ds) => (allM op ds).bind fun ds' => .ok (.nx ((E.set j (some (.dep (.lst ds')))).set i none))
    | _ => .bad
    else .bad
  | .retT t, _, E => (tev T C t E).bind fun d => .ok (.rt d true)
  | .retP e j, _, E => match ownL E j with
    | some (ds, n) => if ds.all D.imm then (ev T C e E).bind fun x => if x.1.imm then .ok (.rt (.tup [x.1, .lst ds]) true) else .bad else .bad
    | none => .bad
  | .retX i e, _, E => match depO E[i]? with
    | some d => (ev T C e E).bind fun x => if safeB x then .ok (.rx i x.1 d) else .bad
    | none => .bad
  | .callX c j pre post, L, E => (evX T C c j pre post L E).bind fun p => .ok (.nx p.2)
  | .iteX neg c j pre post a b, L, E => (evX T C c j pre post L E).bind fun p => match p.1 with
    | .bl k => if (neg != k) then execs a L p.2 else execs b L p.2
    | _ => .bad
  | .forX tg c j pre post b, L, E => if lkB L (tgSlots tg) then (evX T C c j pre post L E).bind fun p => match p.1 with
    | .lst ds => if ds.all D.imm then forV (fun x E => (tgV E tg x true).bind fun E' => execs b L E') ds p.2 else .bad
    | _ => .bad
    else .bad
  | .forD tg j p b, L, E => if lkB L (tgSlots tg) && !(tgSlots tg).contains j && !L.contains j then match depO E[j]? with
    | some d => (evP T C p E).bind fun q => match getP q d with
      | some (.lst ds) => if ds.all D.imm then forV (fun x E => (tgV E tg x true).bind fun E' => execs b (j :: L) E') ds E else .bad
      | _ => .bad
    | none => .bad
    else .bad
def execs : Sxs → List Nat → SEnv → R Fw
  | .nil, _, E => .ok (.nx E)
  | .cons s ss, L, E => (exec s L E).bind fun f => match f with
    | .nx E' => execs ss L E'
    | .rt d n => .ok (.rt d n)
    | .rx i d n => .ok (.rx i d n)
end
end
def startE (g : Fn) (ds : List D) : SEnv := ds.map (fun d => some (.shr d false)) ++ List.replicate (g.ns - g.np) none
def endV (r : R Fw) : R (D × Bool) := r.bind fun f => match f with
  | .nx _ => .ok (.non, true)
  | .rt d n => .ok (d, n)
  | .rx _ _ _ => .bad
def iniEnd (c' : Str) : Fw → R (D × Bool)
  | .nx (some (.own (.obj c2 fs2) m) :: _) => if c2 = c' then .ok (.obj c2 fs2, m && D.imm.immF fs2) else .bad
  | .nx (some (.slf c2 fs2) :: _) => if c2 = c' then .ok (.obj c2 fs2, true) else .bad
  | _ => .bad
def endX (i : Nat) (r : R Fw) : R (D × Bool) := r.bind fun f => match f with
  | .nx E => match depO E[i]? with
    | some d => .ok (.tup [.non, d], true)
    | none => .bad
  | .rx k v d => if k = i then .ok (.tup [v, d], true) else .bad
  | .rt _ _ => .bad
def startX (g : Fn) (i : Nat) (ds : List D) : SEnv := (startE g ds).set i (some (.dep (ds.getD i .non)))
def startI (T : Tb) (g : Fn) (c' : Str) (fs : List (Str × D)) (r : List D) : SEnv := (if T.ans c' && fs.isEmpty then some (.slf c' []) else some (.own (.obj c' fs) true)) :: r.map (fun d => some (.shr d false)) ++ List.replicate (g.ns - g.np) none
/-- a def's, a method's, a class's call -/
def run (T : Tb) (W : Nat) : Nat → Fid → List D → R (D × Bool)
  | 0, _, _ => .bad
  | n + 1, .mk c, ds => run T W n (.ini c) (.obj c [] :: ds)
  | n + 1, .ini c, ds => match T.fn (.ini c), ds with
    | some g, .obj c' fs :: r => if ds.length = g.np then (execs T W (run T W n) g.body [] (startI T g c' fs r)).bind fun f => iniEnd c' f
      else .bad
    | _, _ => .bad
  | n + 1, .fx x i, ds => match T.fn (.fx x i) with
    | some g => if ds.length = g.np ∧ i < ds.length then endX i (execs T W (run T W n) g.body [i + 1000] (startX g i ds)) else .bad
    | none => .bad
  | n + 1, .mx c m i, ds => match T.fn (.mx c m i) with
    | some g => if ds.length = g.np ∧ i < ds.length then endX i (execs T W (run T W n) g.body [i + 1000] (startX g i ds)) else .bad
    | none => .bad
  | n + 1, f, ds => match T.fn f with
    | some g => if ds.length = g.np then endV (execs T W (run T W n) g.body [] (startE g ds)) else .bad
    | none => .bad
end FS

/-! FS2: values as they lie in the abstract heap; the simulation; what an expression promises. -/
namespace FS
open PySem L2

structure GT where
  K : PySem.W.Frag
  cls : Str → Option Addr
  ecls : Str → Option Addr

/-- objects that never change -/
def immO : HO → Bool
  | .tup _ => true
  | .frz _ _ => true
  | _ => false
def ScrR (K : PySem.W.Frag) (H : Hp) (a : Addr) (vs : List V) : Prop := (∃ o, H a = some (.frz o (.lst vs))) ∨
    ∃ (o : Obj) (its : Array Value) (n : Nat), K.lookup a = some o ∧ o.cls = .type "list" ∧ o.dict = none ∧ o.data = .seq its n ∧ its.size ≤ sizeLine ∧ Vals vs its.toList

mutual
def Rep (G : GT) (P : Bool → Addr → Prop) (H : Hp) : D → V → Prop
  | .non, v => v = .non
  | .bl b, v => v = .bl b
  | .int i, v => v = .int i
  | .str s, v => v = .str s
  | .scr ns, v => ∃ a, v = .ref a ∧ ScrR G.K H a (ns.map V.int)
  | .lst ds, v => ∃ a vs, v = .ref a ∧ P true a ∧ H a = some (.lst vs) ∧ vs.length ≤ sizeLine ∧ Reps G P H ds vs
  | .tup ds, v => ∃ a vs, v = .ref a ∧ H a = some (.tup vs) ∧ vs.length ≤ sizeLine ∧ Reps G P H ds vs
  | .dic kvs, v => ∃ a ws, v = .ref a ∧ P true a ∧ H a = some (.dK ws) ∧ ws.length ≤ sizeLine ∧ RepK G P H kvs ws
  | .obj c fs, v => ∃ a C dx ws, v = .ref a ∧ P false a ∧ H a = some (.ins C dx ws) ∧ G.cls c = some C ∧ RepF G P H fs ws
  | .exc _, _ => False
def Reps (G : GT) (P : Bool → Addr → Prop) (H : Hp) : List D → List V → Prop
  | [], vs => vs = []
  | d :: ds, vs => ∃ v r, vs = v :: r ∧ Rep G P H d v ∧ Reps G P H ds r
def RepK (G : GT) (P : Bool → Addr → Prop) (H : Hp) : List (Int × D) → List (Key × V) → Prop
  | [], vs => vs = []
  | (k, d) :: ds, vs => ∃ v r, vs = (.inl k, v) :: r ∧ Rep G P H d v ∧ RepK G P H ds r
def RepF (G : GT) (P : Bool → Addr → Prop) (H : Hp) : List (Str × D) → List (Str × V) → Prop
  | [], vs => vs = []
  | (k, d) :: ds, vs => ∃ v r, vs = (k, v) :: r ∧ Rep G P H d v ∧ RepF G P H ds r
end

section
variable {G : GT} {P P' : Bool → Addr → Prop} {H H' : Hp}
theorem ScrR.mono {K : PySem.W.Frag} {a : Addr} {vs : List V} (hI : ∀ a o, immO o = true → H a = some o → H' a = some o) (h : ScrR K H a vs) : ScrR K H' a vs := by
  rcases h with ⟨o, h⟩ | h
  · exact .inl ⟨o, hI a _ rfl h⟩
  · exact .inr h
theorem ScrR.sql {K : PySem.W.Frag} {a : Addr} {vs : List V} (h : ScrR K H a vs) : SqL K H a vs := by
  rcases h with ⟨o, h⟩ | h
  · exact .inl (.inr ⟨o, h⟩)
  · exact .inr h
mutual
theorem Rep.mono (hP : ∀ k a o, P k a → H a = some o → P' k a ∧ H' a = some o) (hI : ∀ a o, immO o = true → H a = some o → H' a = some o) : ∀ (d : D) (v : V), Rep G P H d v → Rep G P' H' d v
  | .non, _, h => by simpa [Rep] using h
  | .bl _, _, h => by simpa [Rep] using h
  | .int _, _, h => by simpa [Rep] using h
  | .str _, _, h => by simpa [Rep] using h
  | .scr ns, _, h => by
    simp only [Rep] at h ⊢
    obtain ⟨a, e, h⟩ := h
    exact ⟨a, e, h.mono hI⟩
  | .lst ds, _, h => by
    simp only [Rep] at h ⊢
    obtain ⟨a, vs, e, p, q, z, r⟩ := h
    exact ⟨a, vs, e, (hP _ _ _ p q).1, (hP _ _ _ p q).2, z, Reps.mono hP hI ds vs r⟩
  | .tup ds, _, h => by
    simp only [Rep] at h ⊢
    obtain ⟨a, vs, e, q, z, r⟩ := h
    exact ⟨a, vs, e, hI _ _ rfl q, z, Reps.mono hP hI ds vs r⟩
  | .dic ds, _, h => by
    simp only [Rep] at h ⊢
    obtain ⟨a, vs, e, p, q, z, r⟩ := h
    exact ⟨a, vs, e, (hP _ _ _ p q).1, (hP _ _ _ p q).2, z, RepK.mono hP hI ds vs r⟩
  | .obj c fs, _, h => by
    simp only [Rep] at h ⊢
    obtain ⟨a, C, dx, ws, e, p, q, z, r⟩ := h
    exact ⟨a, C, dx, ws, e, (hP _ _ _ p q).1, (hP _ _ _ p q).2, z, RepF.mono hP hI fs ws r⟩
  | .exc _, _, h => by simp only [Rep] at h
theorem Reps.mono (hP : ∀ k a o, P k a → H a = some o → P' k a ∧ H' a = some o) (hI : ∀ a o, immO o = true → H a = some o → H' a = some o) : ∀ (d : List D) (v : List V), Reps G P H d v → Reps G P' H' d v
  | [], _, h => by simpa [Reps] using h
  | d :: ds, _, h => by
    simp only [Reps] at h ⊢
    obtain ⟨v, r, e, p, q⟩ := h
    exact ⟨v, r, e, Rep.mono hP hI d v p, Reps.mono hP hI ds r q⟩
theorem RepK.mono (hP : ∀ k a o, P k a → H a = some o → P' k a ∧ H' a = some o) (hI : ∀ a o, immO o = true → H a = some o → H' a = some o) : ∀ (d : List (Int × D)) (v : List (Key × V)), RepK G P H d v → RepK G P' H' d v
  | [], _, h => by simpa [RepK] using h
  | (k, d) :: ds, _, h => by
    simp only [RepK] at h ⊢
    obtain ⟨v, r, e, p, q⟩ := h
    exact ⟨v, r, e, Rep.mono hP hI d v p, RepK.mono hP hI ds r q⟩
theorem RepF.mono (hP : ∀ k a o, P k a → H a = some o → P' k a ∧ H' a = some o) (hI : ∀ a o, immO o = true → H a = some o → H' a = some o) : ∀ (d : List (Str × D)) (v : List (Str × V)), RepF G P H d v → RepF G P' H' d v
  | [], _, h => by simpa [RepF] using h
  | (k, d) :: ds, _, h => by
    simp only [RepF] at h ⊢
    obtain ⟨v, r, e, p, q⟩ := h
    exact ⟨v, r, e, Rep.mono hP hI d v p, RepF.mono hP hI ds r q⟩
end
mutual
theorem Rep.immI (hP : ∀ a C dx ws, P false a → H a = some (.ins C dx ws) → P' false a) : ∀ (d : D) (v : V), d.imm = true → Rep G P H d v → Rep G P' H d v
  | .non, _, _, h => by simpa [Rep] using h
  | .bl _, _, _, h => by simpa [Rep] using h
  | .int _, _, _, h => by simpa [Rep] using h
  | .str _, _, _, h => by simpa [Rep] using h
  | .scr ns, _, _, h => by simpa [Rep] using h
  | .lst ds, _, i, h => by simp [D.imm] at i
  | .tup ds, _, i, h => by
    simp only [Rep] at h ⊢
    obtain ⟨a, vs, e, q, z, r⟩ := h
    exact ⟨a, vs, e, q, z, Reps.immI hP ds vs (by simpa [D.imm] using i) r⟩
  | .dic ds, _, i, h => by simp [D.imm] at i
  | .obj c fs, _, i, h => by
    simp only [Rep] at h ⊢
    obtain ⟨a, C, dx, ws, e, p, q, z, r⟩ := h
    exact ⟨a, C, dx, ws, e, hP _ _ _ _ p q, q, z, RepF.immI hP fs ws (by simpa [D.imm] using i) r⟩
  | .exc _, _, _, h => by simp only [Rep] at h
theorem Reps.immI (hP : ∀ a C dx ws, P false a → H a = some (.ins C dx ws) → P' false a) : ∀ (d : List D) (v : List V), D.imm.immL d = true → Reps G P H d v → Reps G P' H d v
  | [], _, _, h => by simpa [Reps] using h
  | d :: ds, _, i, h => by
    simp only [D.imm.immL, Bool.and_eq_true] at i
    simp only [Reps] at h ⊢
    obtain ⟨v, r, e, p, q⟩ := h
    exact ⟨v, r, e, Rep.immI hP d v i.1 p, Reps.immI hP ds r i.2 q⟩
theorem RepF.immI (hP : ∀ a C dx ws, P false a → H a = some (.ins C dx ws) → P' false a) : ∀ (d : List (Str × D)) (v : List (Str × V)), D.imm.immF d = true → RepF G P H d v → RepF G P' H d v
  | [], _, _, h => by simpa [RepF] using h
  | (k, d) :: ds, _, i, h => by
    simp only [D.imm.immF, Bool.and_eq_true] at i
    simp only [RepF] at h ⊢
    obtain ⟨v, r, e, p, q⟩ := h
    exact ⟨v, r, e, Rep.immI hP d v i.1 p, RepF.immI hP ds r i.2 q⟩
end
theorem Rep.imm (hP : ∀ a o, P false a → H a = some o → P' false a) (d : D) (v : V) (i : d.imm = true) (h : Rep G P H d v) : Rep G P' H d v := Rep.immI (fun a _ _ _ p e => hP a _ p e) d v i h
theorem Reps.imm (hP : ∀ a o, P false a → H a = some o → P' false a) (d : List D) (v : List V) (i : D.imm.immL d = true) (h : Reps G P H d v) : Reps G P' H d v := Reps.immI (fun a _ _ _ p e => hP a _ p e) d v i h
theorem RepF.imm (hP : ∀ a o, P false a → H a = some o → P' false a) (d : List (Str × D)) (v : List (Str × V)) (i : D.imm.immF d = true) (h : RepF G P H d v) : RepF G P' H d v := RepF.immI (fun a _ _ _ p e => hP a _ p e) d v i h
theorem immL_all : ∀ ds : List D, D.imm.immL ds = ds.all D.imm
  | [] => rfl
  | d :: ds => by simp [D.imm.immL, immL_all ds]
theorem Reps.length : ∀ {ds : List D} {vs : List V}, Reps G P H ds vs → vs.length = ds.length
  | [], _, h => by simp only [Reps] at h; simp [h]
  | d :: ds, _, h => by
    simp only [Reps] at h
    obtain ⟨v, r, rfl, _, q⟩ := h
    simp [Reps.length q]
theorem Reps.get : ∀ {ds : List D} {vs : List V} {i : Nat} {d : D}, Reps G P H ds vs → ds[i]? = some d → ∃ v, vs[i]? = some v ∧ Rep G P H d v
  | [], _, _, _, _, e => by simp at e
  | d :: ds, _, 0, _, h, e => by
    simp only [Reps] at h
    obtain ⟨v, r, rfl, p, q⟩ := h
    simp at e
    subst e
    exact ⟨v, rfl, p⟩
  | d :: ds, _, i + 1, _, h, e => by
    simp only [Reps] at h
    obtain ⟨v, r, rfl, p, q⟩ := h
    obtain ⟨w, e1, e2⟩ := Reps.get (i := i) q (by simpa using e)
    exact ⟨w, by simpa using e1, e2⟩
theorem Reps.append : ∀ {ds es : List D} {vs ws : List V}, Reps G P H ds vs → Reps G P H es ws → Reps G P H (ds ++ es) (vs ++ ws)
  | [], _, _, _, h, k => by simp only [Reps] at h; subst h; simpa using k
  | d :: ds, _, _, _, h, k => by
    simp only [Reps] at h
    obtain ⟨v, r, rfl, p, q⟩ := h
    simp only [List.cons_append, Reps]
    exact ⟨v, _, rfl, p, Reps.append q k⟩
theorem Reps.one {d : D} {v : V} (h : Rep G P H d v) : Reps G P H [d] [v] := by
  simp only [Reps]
  exact ⟨v, [], rfl, h, rfl⟩
theorem Reps.drop : ∀ (n : Nat) {ds : List D} {vs : List V}, Reps G P H ds vs → Reps G P H (ds.drop n) (vs.drop n)
  | 0, _, _, h => by simpa using h
  | n + 1, [], _, h => by simp only [Reps] at h; subst h; simp [Reps]
  | n + 1, d :: ds, _, h => by
    simp only [Reps] at h
    obtain ⟨v, r, rfl, p, q⟩ := h
    simpa using Reps.drop n q
theorem Reps.take : ∀ (n : Nat) {ds : List D} {vs : List V}, Reps G P H ds vs → Reps G P H (ds.take n) (vs.take n)
  | 0, _, _, h => by simp [Reps]
  | n + 1, [], _, h => by simp only [Reps] at h; subst h; simp [Reps]
  | n + 1, d :: ds, _, h => by
    simp only [Reps] at h
    obtain ⟨v, r, rfl, p, q⟩ := h
    simp only [List.take_succ_cons, Reps]
    exact ⟨v, _, rfl, p, Reps.take n q⟩
theorem Reps.reverse : ∀ {ds : List D} {vs : List V}, Reps G P H ds vs → Reps G P H ds.reverse vs.reverse
  | [], _, h => by simp only [Reps] at h; subst h; simp [Reps]
  | d :: ds, _, h => by
    simp only [Reps] at h
    obtain ⟨v, r, rfl, p, q⟩ := h
    simp only [List.reverse_cons]
    exact (Reps.reverse q).append (.one p)
theorem Reps.set : ∀ (n : Nat) {ds : List D} {vs : List V} {d : D} {v : V}, Reps G P H ds vs → Rep G P H d v → Reps G P H (ds.set n d) (vs.set n v)
  | _, [], _, _, _, h, _ => by simp only [Reps] at h; subst h; simp [Reps]
  | 0, d :: ds, _, _, w, h, k => by
    simp only [Reps] at h
    obtain ⟨v, r, rfl, p, q⟩ := h
    simp only [List.set_cons_zero, Reps]
    exact ⟨w, _, rfl, k, q⟩
  | n + 1, d :: ds, _, _, w, h, k => by
    simp only [Reps] at h
    obtain ⟨v, r, rfl, p, q⟩ := h
    simp only [List.set_cons_succ, Reps]
    exact ⟨v, _, rfl, p, Reps.set n q k⟩
theorem Reps.erase : ∀ (n : Nat) {ds : List D} {vs : List V}, Reps G P H ds vs → Reps G P H (ds.eraseIdx n) (vs.eraseIdx n)
  | _, [], _, h => by simp only [Reps] at h; subst h; simp [Reps]
  | 0, d :: ds, _, h => by
    simp only [Reps] at h
    obtain ⟨v, r, rfl, p, q⟩ := h
    simpa using q
  | n + 1, d :: ds, _, h => by
    simp only [Reps] at h
    obtain ⟨v, r, rfl, p, q⟩ := h
    simp only [List.eraseIdx_cons_succ, Reps]
    exact ⟨v, _, rfl, p, Reps.erase n q⟩
theorem Reps.ints : ∀ {ds : List D} {vs : List V} {ns : List Int}, Reps G P H ds vs → intsD ds = some ns → vs = ns.map V.int ∧ ds = ns.map D.int
  | [], _, _, h, e => by simp only [Reps] at h; simp [intsD] at e; subst h; subst e; simp
  | .int i :: ds, _, ns, h, e => by
    simp only [Reps, Rep] at h
    obtain ⟨v, r, rfl, rfl, q⟩ := h
    simp only [intsD] at e
    cases e' : intsD ds with
    | none => rw [e'] at e; simp at e
    | some ms =>
      rw [e'] at e
      simp at e
      subst e
      obtain ⟨h1, h2⟩ := Reps.ints q e'
      subst h1; subst h2
      simp
  | .non :: _, _, _, _, e => by simp [intsD] at e
  | .bl _ :: _, _, _, _, e => by simp [intsD] at e
  | .str _ :: _, _, _, _, e => by simp [intsD] at e
  | .scr _ :: _, _, _, _, e => by simp [intsD] at e
  | .lst _ :: _, _, _, _, e => by simp [intsD] at e
  | .tup _ :: _, _, _, _, e => by simp [intsD] at e
  | .dic _ :: _, _, _, _, e => by simp [intsD] at e
  | .obj _ _ :: _, _, _, _, e => by simp [intsD] at e
  | .exc _ :: _, _, _, _, e => by simp [intsD] at e
theorem Reps.bls : ∀ {ds : List D} {vs : List V} {ns : List Bool}, Reps G P H ds vs → FS.bls ds = some ns → vs = ns.map V.bl ∧ ds = ns.map D.bl
  | [], _, _, h, e => by simp only [Reps] at h; simp [FS.bls] at e; subst h; subst e; simp
  | .bl i :: ds, _, ns, h, e => by
    simp only [Reps, Rep] at h
    obtain ⟨v, r, rfl, rfl, q⟩ := h
    simp only [FS.bls] at e
    cases e' : FS.bls ds with
    | none => rw [e'] at e; simp at e
    | some ms =>
      rw [e'] at e
      simp at e
      subst e
      obtain ⟨h1, h2⟩ := Reps.bls q e'
      subst h1; subst h2
      simp
  | .non :: _, _, _, _, e => by simp [FS.bls] at e
  | .int _ :: _, _, _, _, e => by simp [FS.bls] at e
  | .str _ :: _, _, _, _, e => by simp [FS.bls] at e
  | .scr _ :: _, _, _, _, e => by simp [FS.bls] at e
  | .lst _ :: _, _, _, _, e => by simp [FS.bls] at e
  | .tup _ :: _, _, _, _, e => by simp [FS.bls] at e
  | .dic _ :: _, _, _, _, e => by simp [FS.bls] at e
  | .obj _ _ :: _, _, _, _, e => by simp [FS.bls] at e
  | .exc _ :: _, _, _, _, e => by simp [FS.bls] at e
theorem Reps.of_ints : ∀ (ns : List Int), Reps G P H (ns.map D.int) (ns.map V.int)
  | [] => by simp [Reps]
  | n :: ns => by
    simp only [List.map_cons, Reps]
    exact ⟨_, _, rfl, by simp [Rep], Reps.of_ints ns⟩
theorem RepK.length : ∀ {ds : List (Int × D)} {vs : List (Key × V)}, RepK G P H ds vs → vs.length = ds.length
  | [], _, h => by simp only [RepK] at h; simp [h]
  | (k, d) :: ds, _, h => by
    simp only [RepK] at h
    obtain ⟨v, r, rfl, _, q⟩ := h
    simp [RepK.length q]
theorem RepF.look : ∀ {fs : List (Str × D)} {ws : List (Str × V)} {f : Str} {d : D}, RepF G P H fs ws → fs.lookup f = some d → ∃ v, ws.lookup f = some v ∧ Rep G P H d v
  | [], _, _, _, _, e => by simp at e
  | (k, d) :: fs, _, f, d', h, e => by
    simp only [RepF] at h
    obtain ⟨v, r, rfl, p, q⟩ := h
    rw [List.lookup_cons] at e ⊢
    cases hb : f == k with
    | true =>
      rw [hb] at e
      have e' : d = d' := Option.some.inj e
      subst e'
      exact ⟨v, rfl, p⟩
    | false =>
      rw [hb] at e
      exact RepF.look q e
end

theorem RepK.immK {G : GT} {P P' : Bool → Addr → Prop} {H H' : Hp} (hP : ∀ a C dx ws, P false a → H a = some (.ins C dx ws) → P' false a) (hS : ∀ a o, P false a → H a = some o → H' a = some o) (hI : ∀ a o, immO o = true → H a = some o → H' a = some o) : ∀ (ds : List (Int × D)) (vs : List (Key × V)), (ds.all fun p => p.2.imm) = true → RepK G P H ds vs → RepK G P' H' ds vs
  | [], _, _, h => by simpa [RepK] using h
  | (k, d) :: ds, _, i, h => by
    simp only [List.all_cons, Bool.and_eq_true] at i
    simp only [RepK] at h ⊢
    obtain ⟨v, r, e, p, q⟩ := h
    have p1 : Rep G (fun k a => k = false ∧ P false a ∧ ∃ C dx ws, H a = some (.ins C dx ws)) H d v := Rep.immI (P := P) (fun a C dx ws z e => ⟨rfl, z, C, dx, ws, e⟩) d v i.1 p
    exact ⟨v, r, e, Rep.mono (P := fun k a => k = false ∧ P false a ∧ ∃ C dx ws, H a = some (.ins C dx ws)) (fun k a o z e => by obtain ⟨rfl, z, C, dx, ws, ez⟩ := z; exact ⟨hP a C dx ws z ez, hS a o z e⟩) hI d v p1, RepK.immK hP hS hI ds r i.2 q⟩
/-! ### trees -/
mutual
/-- a tree with the addresses of its lists, dicts -/
def RepT (G : GT) (P : Bool → Addr → Prop) (H : Hp) : D → V → List Addr → Prop
  | .lst ds, v, fp => ∃ a vs fq, v = .ref a ∧ fp = a :: fq ∧ H a = some (.lst vs) ∧ vs.length ≤ sizeLine ∧ RepTs G P H ds vs fq
  | .dic kvs, v, fp => ∃ a ws, v = .ref a ∧ fp = [a] ∧ H a = some (.dK ws) ∧ ws.length ≤ sizeLine ∧ (kvs.all fun p => p.2.imm) = true ∧ RepK G P H kvs ws
  | .tup ds, v, fp => ∃ a vs, v = .ref a ∧ H a = some (.tup vs) ∧ vs.length ≤ sizeLine ∧ RepTs G P H ds vs fp
  | .obj c fs, v, fp => ∃ a C dx ws, v = .ref a ∧ P false a ∧ H a = some (.ins C dx ws) ∧ G.cls c = some C ∧ RepTf G P H fs ws fp
  | .non, v, fp => fp = [] ∧ v = .non
  | .bl b, v, fp => fp = [] ∧ v = .bl b
  | .int i, v, fp => fp = [] ∧ v = .int i
  | .str x, v, fp => fp = [] ∧ v = .str x
  | .scr ns, v, fp => fp = [] ∧ ∃ a, v = .ref a ∧ ScrR G.K H a (ns.map V.int)
  | .exc _, _, _ => False
def RepTs (G : GT) (P : Bool → Addr → Prop) (H : Hp) : List D → List V → List Addr → Prop
  | [], vs, fp => vs = [] ∧ fp = []
  | d :: ds, vs, fp => ∃ v r f1 f2, vs = v :: r ∧ fp = f1 ++ f2 ∧ RepT G P H d v f1 ∧ RepTs G P H ds r f2
def RepTf (G : GT) (P : Bool → Addr → Prop) (H : Hp) : List (Str × D) → List (Str × V) → List Addr → Prop
  | [], vs, fp => vs = [] ∧ fp = []
  | (k, d) :: ds, vs, fp => ∃ v r f1 f2, vs = (k, v) :: r ∧ fp = f1 ++ f2 ∧ RepT G P H d v f1 ∧ RepTf G P H ds r f2
end
section
variable {G : GT} {P P' : Bool → Addr → Prop} {H H' : Hp}
mutual
theorem RepT.mono (hP : ∀ a o, P false a → H a = some o → P' false a ∧ H' a = some o) (hI : ∀ a o, immO o = true → H a = some o → H' a = some o) : ∀ (d : D) (v : V) (fp : List Addr), (∀ a ∈ fp, ∀ o, H a = some o → H' a = some o) → RepT G P H d v fp → RepT G P' H' d v fp
  | .non, _, _, _, h => by simpa [RepT] using h
  | .bl _, _, _, _, h => by simpa [RepT] using h
  | .int _, _, _, _, h => by simpa [RepT] using h
  | .str _, _, _, _, h => by simpa [RepT] using h
  | .exc _, _, _, _, h => by simp only [RepT] at h
  | .scr ns, _, _, _, h => by
    simp only [RepT] at h ⊢
    obtain ⟨e0, a, e, h⟩ := h
    exact ⟨e0, a, e, h.mono hI⟩
  | .lst ds, _, _, hf, h => by
    simp only [RepT] at h ⊢
    obtain ⟨a, vs, fq, e, rfl, q, z, r⟩ := h
    exact ⟨a, vs, fq, e, rfl, hf _ List.mem_cons_self _ q, z, RepTs.mono hP hI ds vs fq (fun b hb => hf b (List.mem_cons_of_mem _ hb)) r⟩
  | .dic ds, _, _, hf, h => by
    simp only [RepT] at h ⊢
    obtain ⟨a, ws, e, rfl, q, z, im, r⟩ := h
    exact ⟨a, ws, e, rfl, hf _ List.mem_cons_self _ q, z, im, RepK.immK (fun a C dx ws p e => (hP a _ p e).1) (fun a o p e => (hP a o p e).2) hI ds ws im r⟩
  | .tup ds, _, _, hf, h => by
    simp only [RepT] at h ⊢
    obtain ⟨a, vs, e, q, z, r⟩ := h
    exact ⟨a, vs, e, hI _ _ rfl q, z, RepTs.mono hP hI ds vs _ hf r⟩
  | .obj c fs, _, _, hf, h => by
    simp only [RepT] at h ⊢
    obtain ⟨a, C, dx, ws, e, p, q, z, r⟩ := h
    exact ⟨a, C, dx, ws, e, (hP _ _ p q).1, (hP _ _ p q).2, z, RepTf.mono hP hI fs ws _ hf r⟩
theorem RepTs.mono (hP : ∀ a o, P false a → H a = some o → P' false a ∧ H' a = some o) (hI : ∀ a o, immO o = true → H a = some o → H' a = some o) : ∀ (d : List D) (v : List V) (fp : List Addr), (∀ a ∈ fp, ∀ o, H a = some o → H' a = some o) → RepTs G P H d v fp → RepTs G P' H' d v fp
  | [], _, _, _, h => by simpa [RepTs] using h
  | d :: ds, _, _, hf, h => by
    simp only [RepTs] at h ⊢
    obtain ⟨v, r, f1, f2, e, rfl, p, q⟩ := h
    exact ⟨v, r, f1, f2, e, rfl, RepT.mono hP hI d v f1 (fun b hb => hf b (List.mem_append_left _ hb)) p, RepTs.mono hP hI ds r f2 (fun b hb => hf b (List.mem_append_right _ hb)) q⟩
theorem RepTf.mono (hP : ∀ a o, P false a → H a = some o → P' false a ∧ H' a = some o) (hI : ∀ a o, immO o = true → H a = some o → H' a = some o) : ∀ (d : List (Str × D)) (v : List (Str × V)) (fp : List Addr), (∀ a ∈ fp, ∀ o, H a = some o → H' a = some o) → RepTf G P H d v fp → RepTf G P' H' d v fp
  | [], _, _, _, h => by simpa [RepTf] using h
  | (k, d) :: ds, _, _, hf, h => by
    simp only [RepTf] at h ⊢
    obtain ⟨v, r, f1, f2, e, rfl, p, q⟩ := h
    exact ⟨v, r, f1, f2, e, rfl, RepT.mono hP hI d v f1 (fun b hb => hf b (List.mem_append_left _ hb)) p, RepTf.mono hP hI ds r f2 (fun b hb => hf b (List.mem_append_right _ hb)) q⟩
end
mutual
theorem RepT.objs (hP : ∀ a C dx ws, P false a → H a = some (.ins C dx ws) → P' false a) : ∀ (d : D) (v : V) (fp : List Addr), RepT G P H d v fp → RepT G P' H d v fp
  | .non, _, _, h => by simpa [RepT] using h
  | .bl _, _, _, h => by simpa [RepT] using h
  | .int _, _, _, h => by simpa [RepT] using h
  | .str _, _, _, h => by simpa [RepT] using h
  | .exc _, _, _, h => by simp only [RepT] at h
  | .scr ns, _, _, h => by simpa [RepT] using h
  | .lst ds, _, _, h => by
    simp only [RepT] at h ⊢
    obtain ⟨a, vs, fq, e, rfl, q, z, r⟩ := h
    exact ⟨a, vs, fq, e, rfl, q, z, RepTs.objs hP ds vs fq r⟩
  | .dic ds, _, _, h => by
    simp only [RepT] at h ⊢
    obtain ⟨a, ws, e, rfl, q, z, im, r⟩ := h
    exact ⟨a, ws, e, rfl, q, z, im, RepK.immK hP (fun a o p e => e) (fun a o p e => e) ds ws im r⟩
  | .tup ds, _, _, h => by
    simp only [RepT] at h ⊢
    obtain ⟨a, vs, e, q, z, r⟩ := h
    exact ⟨a, vs, e, q, z, RepTs.objs hP ds vs _ r⟩
  | .obj c fs, _, _, h => by
    simp only [RepT] at h ⊢
    obtain ⟨a, C, dx, ws, e, p, q, z, r⟩ := h
    exact ⟨a, C, dx, ws, e, hP _ _ _ _ p q, q, z, RepTf.objs hP fs ws _ r⟩
theorem RepTs.objs (hP : ∀ a C dx ws, P false a → H a = some (.ins C dx ws) → P' false a) : ∀ (d : List D) (v : List V) (fp : List Addr), RepTs G P H d v fp → RepTs G P' H d v fp
  | [], _, _, h => by simpa [RepTs] using h
  | d :: ds, _, _, h => by
    simp only [RepTs] at h ⊢
    obtain ⟨v, r, f1, f2, e, rfl, p, q⟩ := h
    exact ⟨v, r, f1, f2, e, rfl, RepT.objs hP d v f1 p, RepTs.objs hP ds r f2 q⟩
theorem RepTf.objs (hP : ∀ a C dx ws, P false a → H a = some (.ins C dx ws) → P' false a) : ∀ (d : List (Str × D)) (v : List (Str × V)) (fp : List Addr), RepTf G P H d v fp → RepTf G P' H d v fp
  | [], _, _, h => by simpa [RepTf] using h
  | (k, d) :: ds, _, _, h => by
    simp only [RepTf] at h ⊢
    obtain ⟨v, r, f1, f2, e, rfl, p, q⟩ := h
    exact ⟨v, r, f1, f2, e, rfl, RepT.objs hP d v f1 p, RepTf.objs hP ds r f2 q⟩
end
mutual
/-- a tree as a value: its lists where P' has them -/
theorem RepT.rep (hP : ∀ a C dx ws, P false a → H a = some (.ins C dx ws) → P' false a) : ∀ (d : D) (v : V) (fp : List Addr), (∀ a ∈ fp, P' true a) → RepT G P H d v fp → Rep G P' H d v
  | .non, _, _, _, h => by simp only [RepT] at h; simp [Rep, h.2]
  | .bl _, _, _, _, h => by simp only [RepT] at h; simp [Rep, h.2]
  | .int _, _, _, _, h => by simp only [RepT] at h; simp [Rep, h.2]
  | .str _, _, _, _, h => by simp only [RepT] at h; simp [Rep, h.2]
  | .exc _, _, _, _, h => by simp only [RepT] at h
  | .scr ns, _, _, _, h => by simp only [RepT] at h; simpa [Rep] using h.2
  | .lst ds, _, _, hf, h => by
    simp only [RepT] at h
    simp only [Rep]
    obtain ⟨a, vs, fq, e, rfl, q, z, r⟩ := h
    exact ⟨a, vs, e, hf _ List.mem_cons_self, q, z, RepTs.rep hP ds vs fq (fun b hb => hf b (List.mem_cons_of_mem _ hb)) r⟩
  | .dic ds, _, _, hf, h => by
    simp only [RepT] at h
    simp only [Rep]
    obtain ⟨a, ws, e, rfl, q, z, im, r⟩ := h
    exact ⟨a, ws, e, hf _ List.mem_cons_self, q, z, RepK.immK hP (fun a o p e => e) (fun a o p e => e) ds ws im r⟩
  | .tup ds, _, _, hf, h => by
    simp only [RepT] at h
    simp only [Rep]
    obtain ⟨a, vs, e, q, z, r⟩ := h
    exact ⟨a, vs, e, q, z, RepTs.rep hP ds vs _ hf r⟩
  | .obj c fs, _, _, hf, h => by
    simp only [RepT] at h
    simp only [Rep]
    obtain ⟨a, C, dx, ws, e, p, q, z, r⟩ := h
    exact ⟨a, C, dx, ws, e, hP _ _ _ _ p q, q, z, RepTf.rep hP fs ws _ hf r⟩
theorem RepTs.rep (hP : ∀ a C dx ws, P false a → H a = some (.ins C dx ws) → P' false a) : ∀ (d : List D) (v : List V) (fp : List Addr), (∀ a ∈ fp, P' true a) → RepTs G P H d v fp → Reps G P' H d v
  | [], _, _, _, h => by simp only [RepTs] at h; simp [Reps, h.1]
  | d :: ds, _, _, hf, h => by
    simp only [RepTs] at h
    simp only [Reps]
    obtain ⟨v, r, f1, f2, e, rfl, p, q⟩ := h
    exact ⟨v, r, e, RepT.rep hP d v f1 (fun b hb => hf b (List.mem_append_left _ hb)) p, RepTs.rep hP ds r f2 (fun b hb => hf b (List.mem_append_right _ hb)) q⟩
theorem RepTf.rep (hP : ∀ a C dx ws, P false a → H a = some (.ins C dx ws) → P' false a) : ∀ (d : List (Str × D)) (v : List (Str × V)) (fp : List Addr), (∀ a ∈ fp, P' true a) → RepTf G P H d v fp → RepF G P' H d v
  | [], _, _, _, h => by simp only [RepTf] at h; simp [RepF, h.1]
  | (k, d) :: ds, _, _, hf, h => by
    simp only [RepTf] at h
    simp only [RepF]
    obtain ⟨v, r, f1, f2, e, rfl, p, q⟩ := h
    exact ⟨v, r, e, RepT.rep hP d v f1 (fun b hb => hf b (List.mem_append_left _ hb)) p, RepTf.rep hP ds r f2 (fun b hb => hf b (List.mem_append_right _ hb)) q⟩
end
mutual
/-- what holds no list is a tree -/
theorem Rep.tree : ∀ (d : D) (v : V), d.imm = true → Rep G P H d v → RepT G P H d v []
  | .non, _, _, h => by simp only [Rep] at h; simp [RepT, h]
  | .bl _, _, _, h => by simp only [Rep] at h; simp [RepT, h]
  | .int _, _, _, h => by simp only [Rep] at h; simp [RepT, h]
  | .str _, _, _, h => by simp only [Rep] at h; simp [RepT, h]
  | .scr ns, _, _, h => by simp only [Rep] at h; simpa [RepT] using h
  | .exc _, _, _, h => by simp only [Rep] at h
  | .lst _, _, i, _ => by simp [D.imm] at i
  | .dic _, _, i, _ => by simp [D.imm] at i
  | .tup ds, _, i, h => by
    simp only [Rep] at h
    simp only [RepT]
    obtain ⟨a, vs, e, q, z, r⟩ := h
    exact ⟨a, vs, e, q, z, Reps.tree ds vs (by simpa [D.imm] using i) r⟩
  | .obj c fs, _, i, h => by
    simp only [Rep] at h
    simp only [RepT]
    obtain ⟨a, C, dx, ws, e, p, q, z, r⟩ := h
    exact ⟨a, C, dx, ws, e, p, q, z, RepF.tree fs ws (by simpa [D.imm] using i) r⟩
theorem Reps.tree : ∀ (d : List D) (v : List V), D.imm.immL d = true → Reps G P H d v → RepTs G P H d v []
  | [], _, _, h => by simp only [Reps] at h; simp [RepTs, h]
  | d :: ds, _, i, h => by
    simp only [D.imm.immL, Bool.and_eq_true] at i
    simp only [Reps] at h
    simp only [RepTs]
    obtain ⟨v, r, e, p, q⟩ := h
    exact ⟨v, r, [], [], e, rfl, Rep.tree d v i.1 p, Reps.tree ds r i.2 q⟩
theorem RepF.tree : ∀ (d : List (Str × D)) (v : List (Str × V)), D.imm.immF d = true → RepF G P H d v → RepTf G P H d v []
  | [], _, _, h => by simp only [RepF] at h; simp [RepTf, h]
  | (k, d) :: ds, _, i, h => by
    simp only [D.imm.immF, Bool.and_eq_true] at i
    simp only [RepF] at h
    simp only [RepTf]
    obtain ⟨v, r, e, p, q⟩ := h
    exact ⟨v, r, [], [], e, rfl, Rep.tree d v i.1 p, RepF.tree ds r i.2 q⟩
end
/-- lists, dicts stand where a tree says -/
def isLD (o : Option HO) : Prop := (∃ vs, o = some (.lst vs)) ∨ ∃ ws, o = some (.dK ws)
mutual
theorem RepT.isLD : ∀ (d : D) (v : V) (fp : List Addr), RepT G P H d v fp → ∀ a ∈ fp, FS.isLD (H a)
  | .non, _, _, h, a, ha => by simp only [RepT] at h; rw [h.1] at ha; cases ha
  | .bl _, _, _, h, a, ha => by simp only [RepT] at h; rw [h.1] at ha; cases ha
  | .int _, _, _, h, a, ha => by simp only [RepT] at h; rw [h.1] at ha; cases ha
  | .str _, _, _, h, a, ha => by simp only [RepT] at h; rw [h.1] at ha; cases ha
  | .exc _, _, _, h, _, _ => by simp only [RepT] at h
  | .scr ns, _, _, h, a, ha => by simp only [RepT] at h; rw [h.1] at ha; cases ha
  | .lst ds, _, _, h, a, ha => by
    simp only [RepT] at h
    obtain ⟨b, vs, fq, e, rfl, q, z, r⟩ := h
    rcases List.mem_cons.mp ha with ha | ha
    · subst ha; exact .inl ⟨vs, q⟩
    · exact RepTs.isLD ds vs fq r a ha
  | .dic ds, _, _, h, a, ha => by
    simp only [RepT] at h
    obtain ⟨b, ws, e, rfl, q, z, im, r⟩ := h
    obtain rfl : a = b := by simpa using ha
    exact .inr ⟨ws, q⟩
  | .tup ds, _, _, h, a, ha => by
    simp only [RepT] at h
    obtain ⟨b, vs, e, q, z, r⟩ := h
    exact RepTs.isLD ds vs _ r a ha
  | .obj c fs, _, _, h, a, ha => by
    simp only [RepT] at h
    obtain ⟨b, C, dx, ws, e, p, q, z, r⟩ := h
    exact RepTf.isLD fs ws _ r a ha
theorem RepTs.isLD : ∀ (d : List D) (v : List V) (fp : List Addr), RepTs G P H d v fp → ∀ a ∈ fp, FS.isLD (H a)
  | [], _, _, h, a, ha => by simp only [RepTs] at h; rw [h.2] at ha; cases ha
  | d :: ds, _, _, h, a, ha => by
    simp only [RepTs] at h
    obtain ⟨v, r, f1, f2, e, rfl, p, q⟩ := h
    rcases List.mem_append.mp ha with ha | ha
    · exact RepT.isLD d v f1 p a ha
    · exact RepTs.isLD ds r f2 q a ha
theorem RepTf.isLD : ∀ (d : List (Str × D)) (v : List (Str × V)) (fp : List Addr), RepTf G P H d v fp → ∀ a ∈ fp, FS.isLD (H a)
  | [], _, _, h, a, ha => by simp only [RepTf] at h; rw [h.2] at ha; cases ha
  | (k, d) :: ds, _, _, h, a, ha => by
    simp only [RepTf] at h
    obtain ⟨v, r, f1, f2, e, rfl, p, q⟩ := h
    rcases List.mem_append.mp ha with ha | ha
    · exact RepT.isLD d v f1 p a ha
    · exact RepTf.isLD ds r f2 q a ha
end
end

/-! ### the simulation -/
/-- what no shared value holds: the roots of own objects, the regions of the trees, slot by slot -/
structure Xc where
  x : Addr → Prop
  rg : Nat → Addr → Prop
instance : CoeFun Xc fun _ => Addr → Prop := ⟨Xc.x⟩
structure Fr where
  P : Bool → Addr → Prop
  H0 : Hp
  self : Option Addr
  ex : Xc
  pin : List (D × V × Bool)
  lk : List (Nat × Addr × List D × Bool)
  mt : Addr → Prop
  io : Option (Nat × V)
  hk : List (Nat × Addr × List V)
/-- where a value's lists may stand: n: younger than the frame -/
def cl (F : Fr) (n : Bool) (k : Bool) (a : Addr) : Prop := ¬ F.ex a ∧ (F.H0 a = none ∨ (F.P k a ∧ (k = true → n = false)))
def OwnR (G : GT) (F : Fr) (H : Hp) (n : Bool) (a : Addr) : D → Prop
  | .lst ds => F.H0 a = none ∧ F.self ≠ some a ∧ ∃ vs, H a = some (.lst vs) ∧ vs.length ≤ sizeLine ∧ Reps G (cl F n) H ds vs
  | .dic ds => F.H0 a = none ∧ F.self ≠ some a ∧ ∃ vs, H a = some (.dK vs) ∧ vs.length ≤ sizeLine ∧ RepK G (cl F n) H ds vs
  | .obj c fs => F.self = some a ∧ ∃ C dx ws, H a = some (.ins C dx ws) ∧ G.cls c = some C ∧ RepF G (cl F n) H fs ws
  | _ => False
def SlotR (G : GT) (F : Fr) (H : Hp) : Slot → V → Prop
  | .shr d n, v => Rep G (cl F n) H d v
  | .own d n, v => ∃ a, v = .ref a ∧ F.ex a ∧ OwnR G F H n a d
  | .dep _, _ => True
  | .slf _ _, _ => True
def DepR (G : GT) (F : Fr) (H : Hp) (R : Addr → Prop) (d : D) (v : V) : Prop := ∃ fp, RepT G (cl F true) H d v fp ∧ fp.Nodup ∧ ∀ a ∈ fp, R a
def SlfR (G : GT) (F : Fr) (H : Hp) (R : Addr → Prop) (c : Str) (fs : List (Str × D)) (v : V) : Prop := ∃ a C dx ws fp, v = .ref a ∧ F.self = some a ∧ F.ex a ∧ H a = some (.ins C dx ws) ∧ G.cls c = some C ∧ RepTf G (cl F true) H fs ws fp ∧ fp.Nodup ∧ ∀ a ∈ fp, R a
/-- what is known of the trees -/
structure SimD (G : GT) (F : Fr) (E : SEnv) (σ : St) (H : Hp) : Prop where
  slot : ∀ (i : Nat) (d : D), E[i]? = some (some (.dep d)) → ∃ v, σ[i]? = some (some v) ∧ DepR G F H (F.ex.rg i) d v
  slf : ∀ (i : Nat) (c : Str) (fs : List (Str × D)), E[i]? = some (some (.slf c fs)) → ∃ v, σ[i]? = some (some v) ∧ SlfR G F H (F.ex.rg i) c fs v
  rgx : ∀ i a, F.ex.rg i a → F.ex a ∧ isLD (H a)
  rgj : ∀ i j a, i ≠ j → F.ex.rg i a → ¬ F.ex.rg j a
  rgo : ∀ (i j : Nat) (d : D) (n : Bool) (a : Addr), E[i]? = some (some (.own d n)) → σ[i]? = some (some (.ref a)) → ¬ F.ex.rg j a
  rgm : ∀ i a, F.ex.rg i a → (F.H0 a = none ∨ F.mt a) ∧ F.self ≠ some a
  io : ∀ p ∈ F.io, σ[p.1]? = some (some p.2)
  slo : ∀ (i j : Nat) (c c' : Str) (fs fs' : List (Str × D)) (n : Bool), E[i]? = some (some (.slf c fs)) → E[j]? ≠ some (some (.own (.obj c' fs') n))
  sl0 : ∀ (i : Nat) (c : Str) (fs : List (Str × D)), E[i]? = some (some (.slf c fs)) → i = 0
  /-- lists of trees that are being walked -/
  hk : ∀ p ∈ F.hk, F.ex.rg p.1 p.2.1 ∧ H p.2.1 = some (.lst p.2.2)
structure Sim (G : GT) (F : Fr) (E : SEnv) (σ : St) (H : Hp) : Prop where
  len : σ.length = E.length
  ent : ∀ a o, F.self ≠ some a → ¬ F.mt a → F.H0 a = some o → H a = some o
  slot : ∀ (i : Nat) (s : Slot), E[i]? = some (some s) → ∃ v, σ[i]? = some (some v) ∧ SlotR G F H s v
  dis : ∀ (i j : Nat) (d d' : D) (n n' : Bool) (v : V), i ≠ j → E[i]? = some (some (.own d n)) → E[j]? = some (some (.own d' n')) → σ[i]? = some (some v) → σ[j]? ≠ some (some v)
  pin : ∀ p ∈ F.pin, Rep G (cl F p.2.2) H p.1 p.2.1
  exH : ∀ a, F.ex a ∨ F.self = some a ∨ F.mt a → H a ≠ none
  lk : ∀ p ∈ F.lk, E[p.1]? = some (some (.own (.lst p.2.2.1) p.2.2.2)) ∧ σ[p.1]? = some (some (.ref p.2.1))
  dp : SimD G F E σ H

section
variable {G : GT} {F : Fr} {E : SEnv} {σ : St} {H H' H2 : Hp} {d : D} {v : V} {n m : Bool}
theorem Same.imm (s : Same H H') : ∀ a o, immO o = true → H a = some o → H' a = some o := fun a o _ e => s a o e
theorem Rep.same {P : Bool → Addr → Prop} (s : Same H H') (h : Rep G P H d v) : Rep G P H' d v := Rep.mono (fun _ a o p e => ⟨p, s a o e⟩) (Same.imm s) d v h
theorem Reps.same {P : Bool → Addr → Prop} {ds : List D} {vs : List V} (s : Same H H') (h : Reps G P H ds vs) : Reps G P H' ds vs := Reps.mono (fun _ a o p e => ⟨p, s a o e⟩) (Same.imm s) ds vs h
theorem RepK.same {P : Bool → Addr → Prop} {ds : List (Int × D)} {vs : List (Key × V)} (s : Same H H') (h : RepK G P H ds vs) : RepK G P H' ds vs := RepK.mono (fun _ a o p e => ⟨p, s a o e⟩) (Same.imm s) ds vs h
theorem RepF.same {P : Bool → Addr → Prop} {ds : List (Str × D)} {vs : List (Str × V)} (s : Same H H') (h : RepF G P H ds vs) : RepF G P H' ds vs := RepF.mono (fun _ a o p e => ⟨p, s a o e⟩) (Same.imm s) ds vs h
theorem Rep.weak {P P' : Bool → Addr → Prop} (hP : ∀ k a, P k a → P' k a) (h : Rep G P H d v) : Rep G P' H d v := Rep.mono (fun k a o p e => ⟨hP k a p, e⟩) (fun _ _ _ e => e) d v h
theorem Reps.weak {P P' : Bool → Addr → Prop} {ds : List D} {vs : List V} (hP : ∀ k a, P k a → P' k a) (h : Reps G P H ds vs) : Reps G P' H ds vs := Reps.mono (fun k a o p e => ⟨hP k a p, e⟩) (fun _ _ _ e => e) ds vs h
theorem RepK.weak {P P' : Bool → Addr → Prop} {ds : List (Int × D)} {vs : List (Key × V)} (hP : ∀ k a, P k a → P' k a) (h : RepK G P H ds vs) : RepK G P' H ds vs := RepK.mono (fun k a o p e => ⟨hP k a p, e⟩) (fun _ _ _ e => e) ds vs h
theorem cl_le (h : m = true → n = true) : ∀ k a, cl F n k a → cl F m k a := fun k a ⟨h1, h2⟩ => ⟨h1, h2.imp id fun ⟨h3, h4⟩ => ⟨h3, fun hk => by
  cases m with
  | false => rfl
  | true => rw [h rfl] at h4; exact h4 hk⟩⟩
theorem cl_false : ∀ k a, cl F n k a → cl F false k a := cl_le fun h => nomatch h
theorem cl_obj {a : Addr} : cl F n false a → cl F m false a := fun ⟨h1, h2⟩ => ⟨h1, h2.imp id fun ⟨h3, _⟩ => ⟨h3, fun h => nomatch h⟩⟩
/-- what holds no list is wherever it may be -/
theorem Rep.orI (h : Rep G (cl F n) H d v) : Rep G (cl F (n || d.imm)) H d v := by
  cases hi : d.imm with
  | true => exact Rep.imm (fun a _ p _ => cl_obj p) d v hi h
  | false => simpa using h
theorem Reps.orI {ds : List D} {vs : List V} (h : Reps G (cl F n) H ds vs) : Reps G (cl F (n || ds.all D.imm)) H ds vs := by
  cases hi : ds.all D.imm with
  | true => exact Reps.imm (fun a _ p _ => cl_obj p) ds vs (by rw [immL_all]; exact hi) h
  | false => simpa using h
theorem Reps.and {ds es : List D} {vs ws : List V} (h : Reps G (cl F n) H ds vs) (k : Reps G (cl F m) H es ws) : Reps G (cl F (n && m)) H (ds ++ es) (vs ++ ws) :=
  (h.weak (cl_le (by intro e; exact (Bool.and_eq_true_iff.mp e).1))).append (k.weak (cl_le (by intro e; exact (Bool.and_eq_true_iff.mp e).2)))
theorem SlotR.same {s : Slot} (sm : Same H H') (h : SlotR G F H s v) : SlotR G F H' s v := by
  cases s with
  | shr d n => exact Rep.same sm h
  | own d n =>
    obtain ⟨a, e, x, o⟩ := h
    refine ⟨a, e, x, ?_⟩
    cases d with
    | lst ds =>
      obtain ⟨h1, h2, vs, h3, h4, h5⟩ := o
      exact ⟨h1, h2, vs, sm _ _ h3, h4, h5.same sm⟩
    | dic ds =>
      obtain ⟨h1, h2, vs, h3, h4, h5⟩ := o
      exact ⟨h1, h2, vs, sm _ _ h3, h4, h5.same sm⟩
    | obj c fs =>
      obtain ⟨h2, C, dx, ws, h3, h4, h5⟩ := o
      exact ⟨h2, C, dx, ws, sm _ _ h3, h4, h5.same sm⟩
    | non => exact o
    | bl _ => exact o
    | int _ => exact o
    | str _ => exact o
    | scr _ => exact o
    | tup _ => exact o
    | exc _ => exact o
  | dep d => exact h
  | slf c fs => exact h
theorem isLD.same (sm : Same H H') {a : Addr} (h : isLD (H a)) : isLD (H' a) := by
  rcases h with ⟨vs, h⟩ | ⟨vs, h⟩
  · exact .inl ⟨vs, sm _ _ h⟩
  · exact .inr ⟨vs, sm _ _ h⟩
/-- a tree's frame, heap may change where the tree isn't -/
theorem DepR.mono {F' : Fr} {R R' : Addr → Prop} {d : D} {v : V} (hP : ∀ a o, cl F true false a → H a = some o → cl F' true false a ∧ H' a = some o) (hI : ∀ a o, immO o = true → H a = some o → H' a = some o) (hR : ∀ a, R a → R' a) (hH : ∀ a o, R a → H a = some o → H' a = some o) (h : DepR G F H R d v) : DepR G F' H' R' d v :=
  let ⟨fp, h1, h2, h3⟩ := h
  ⟨fp, RepT.mono hP hI d v fp (fun a ha o e => hH a o (h3 a ha) e) h1, h2, fun a ha => hR a (h3 a ha)⟩
theorem SlfR.mono {F' : Fr} {R R' : Addr → Prop} {c : Str} {fs : List (Str × D)} {v : V} (hP : ∀ a o, cl F true false a → H a = some o → cl F' true false a ∧ H' a = some o) (hI : ∀ a o, immO o = true → H a = some o → H' a = some o) (hR : ∀ a, R a → R' a) (hH : ∀ a o, R a → H a = some o → H' a = some o)
    (hs : F'.self = F.self) (hx : ∀ a, F.self = some a → F.ex a → F'.ex a) (hsf : ∀ a o, F.self = some a → H a = some o → H' a = some o) (h : SlfR G F H R c fs v) : SlfR G F' H' R' c fs v :=
  let ⟨a, C, dx, ws, fp, h1, h2, h3, h4, h5, h6, h7, h8⟩ := h
  ⟨a, C, dx, ws, fp, h1, by rw [hs]; exact h2, hx a h2 h3, hsf a _ h2 h4, h5, RepTf.mono hP hI fs ws fp (fun b hb o e => hH b o (h8 b hb) e) h6, h7, fun b hb => hR b (h8 b hb)⟩
theorem SimD.same (S : SimD G F E σ H) (sm : Same H H') : SimD G F E σ H' :=
  ⟨fun i d e => let ⟨v, h1, h2⟩ := S.slot i d e; ⟨v, h1, h2.mono (fun a o p e => ⟨p, sm a o e⟩) (fun a o _ e => sm a o e) (fun _ z => z) fun a o _ e => sm a o e⟩,
   fun i c fs e => let ⟨v, h1, h2⟩ := S.slf i c fs e; ⟨v, h1, h2.mono (fun a o p e => ⟨p, sm a o e⟩) (fun a o _ e => sm a o e) (fun _ z => z) (fun a o _ e => sm a o e) rfl (fun _ _ z => z) fun a o _ e => sm a o e⟩,
   fun i a z => ⟨(S.rgx i a z).1, by
     rcases (S.rgx i a z).2 with ⟨vs, h⟩ | ⟨vs, h⟩
     · exact .inl ⟨vs, sm _ _ h⟩
     · exact .inr ⟨vs, sm _ _ h⟩⟩, S.rgj, S.rgo, S.rgm, S.io, S.slo, S.sl0, fun p hp => ⟨(S.hk p hp).1, sm _ _ (S.hk p hp).2⟩⟩
theorem Sim.same (S : Sim G F E σ H) (sm : Same H H') : Sim G F E σ H' :=
  ⟨S.len, fun a o h1 h3 h2 => sm _ _ (S.ent a o h1 h3 h2), fun i s e => let ⟨v, h1, h2⟩ := S.slot i s e; ⟨v, h1, h2.same sm⟩, S.dis, fun p hp => (S.pin p hp).same sm, fun a h z => S.exH a h (sm.free z), S.lk, S.dp.same sm⟩
theorem Sim.h0 (S : Sim G F E σ H) {a : Addr} (h : H a = none) : F.H0 a = none := by
  cases q : F.H0 a with
  | none => rfl
  | some o =>
    have := S.ent a o (fun z => S.exH a (.inr (.inl z)) h) (fun z => S.exH a (.inr (.inr z)) h) q
    rw [h] at this
    cases this
/-- what is new may hold anything -/
theorem Sim.new (S : Sim G F E σ H) {a : Addr} (h : H a = none) (n k : Bool) : cl F n k a := by
  refine ⟨fun z => S.exH a (.inl z) h, .inl ?_⟩
  cases q : F.H0 a with
  | none => rfl
  | some o =>
    have := S.ent a o (fun z => S.exH a (.inr (.inl z)) h) (fun z => S.exH a (.inr (.inr z)) h) q
    rw [h] at this
    cases this
end

/-! ### what comes out -/
/-- a value with its flags: c: no own root within; else an own list, dict -/
def Val (G : GT) (F : Fr) (H : Hp) (x : D × Fl) (v : V) : Prop := match x.2.c with
  | true => Rep G (cl F x.2.n) H x.1 v
  | false => match x.1 with
    | .lst ds => ∃ a vs, v = .ref a ∧ H a = some (.lst vs) ∧ vs.length ≤ sizeLine ∧ Reps G (cl F x.2.n) H ds vs
    | .dic ds => ∃ a vs, v = .ref a ∧ H a = some (.dK vs) ∧ vs.length ≤ sizeLine ∧ RepK G (cl F x.2.n) H ds vs
    | _ => False
/-- a list, a dict that doesn't hold itself -/
def SepR (G : GT) (P : Bool → Addr → Prop) (H : Hp) : D → V → Prop
  | .lst ds, v => ∃ a vs, v = .ref a ∧ H a = some (.lst vs) ∧ vs.length ≤ sizeLine ∧ Reps G (fun k b => P k b ∧ b ≠ a) H ds vs
  | .dic ds, v => ∃ a vs, v = .ref a ∧ H a = some (.dK vs) ∧ vs.length ≤ sizeLine ∧ RepK G (fun k b => P k b ∧ b ≠ a) H ds vs
  | _, _ => True
structure Post (G : GT) (F : Fr) (H H' : Hp) (x : D × Fl) (v : V) : Prop where
  same : Same H H'
  val : Val G F H' x v
  new : x.2.r = true → (x.1.isL = true → x.2.c = true ∧ ∀ a, v = .ref a → H a = none) ∧ SepR G (cl F x.2.n) H' x.1 v
section
variable {G : GT} {F : Fr} {E : SEnv} {σ : St} {H H' H2 : Hp} {d : D} {v : V} {n m : Bool} {x : D × Fl} {f : Fl}
theorem Val.same (s : Same H H') (h : Val G F H x v) : Val G F H' x v := by
  unfold Val at h ⊢
  split at h
  · exact Rep.same s h
  · split at h
    · obtain ⟨a, vs, h1, h2, h3, h4⟩ := h
      exact ⟨a, vs, h1, s _ _ h2, h3, h4.same s⟩
    · obtain ⟨a, vs, h1, h2, h3, h4⟩ := h
      exact ⟨a, vs, h1, s _ _ h2, h3, h4.same s⟩
    · exact h
theorem Val.rep (h : Val G F H (d, f) v) (hc : f.c = true) : Rep G (cl F f.n) H d v := by
  unfold Val at h
  simp only [hc] at h
  exact h
theorem Val.clean (h : Val G F H (d, f) v) (hd : ∀ ds, d ≠ .lst ds) (hd' : ∀ ds, d ≠ .dic ds) : Rep G (cl F f.n) H d v := by
  unfold Val at h
  cases hc : f.c with
  | true => simp only [hc] at h; exact h
  | false =>
    cases d with
    | lst ds => exact absurd rfl (hd ds)
    | dic ds => exact absurd rfl (hd' ds)
    | _ => simp only [hc] at h
theorem Val.int {i : Int} (h : Val G F H (.int i, f) v) : v = .int i := by
  have := h.clean (by intro _ e; cases e) (by intro _ e; cases e)
  simpa [Rep] using this
theorem Val.bl {i : Bool} (h : Val G F H (.bl i, f) v) : v = .bl i := by
  have := h.clean (by intro _ e; cases e) (by intro _ e; cases e)
  simpa [Rep] using this
theorem Val.str {i : Str} (h : Val G F H (.str i, f) v) : v = .str i := by
  have := h.clean (by intro _ e; cases e) (by intro _ e; cases e)
  simpa [Rep] using this
theorem Val.non (h : Val G F H (.non, f) v) : v = .non := by
  have := h.clean (by intro _ e; cases e) (by intro _ e; cases e)
  simpa [Rep] using this
theorem Val.lst {ds : List D} (h : Val G F H (.lst ds, f) v) : ∃ a vs, v = .ref a ∧ H a = some (.lst vs) ∧ vs.length ≤ sizeLine ∧ Reps G (cl F f.n) H ds vs := by
  unfold Val at h
  split at h
  · simp only [Rep] at h
    obtain ⟨a, vs, e, _, h2, h3, h4⟩ := h
    exact ⟨a, vs, e, h2, h3, h4⟩
  · exact h
theorem Val.dic {ds : List (Int × D)} (h : Val G F H (.dic ds, f) v) : ∃ a vs, v = .ref a ∧ H a = some (.dK vs) ∧ vs.length ≤ sizeLine ∧ RepK G (cl F f.n) H ds vs := by
  unfold Val at h
  split at h
  · simp only [Rep] at h
    obtain ⟨a, vs, e, _, h2, h3, h4⟩ := h
    exact ⟨a, vs, e, h2, h3, h4⟩
  · exact h
theorem Val.tup {ds : List D} (h : Val G F H (.tup ds, f) v) : ∃ a vs, v = .ref a ∧ H a = some (.tup vs) ∧ vs.length ≤ sizeLine ∧ Reps G (cl F f.n) H ds vs := by
  have := h.clean (by intro _ e; cases e) (by intro _ e; cases e)
  simpa [Rep] using this
theorem Val.scr {ns : List Int} (h : Val G F H (.scr ns, f) v) : ∃ a, v = .ref a ∧ ScrR G.K H a (ns.map V.int) := by
  have := h.clean (by intro _ e; cases e) (by intro _ e; cases e)
  simpa [Rep] using this
theorem Val.ofRep (h : Rep G (cl F n) H d v) {r : Bool} : Val G F H (d, ⟨r, n, true⟩) v := h
theorem Post.int {i : Int} : Post G F H H (mkI (.int i)) (.int i) := ⟨Same.refl _, by show Rep _ _ _ _ _; simp [mkI, Rep], fun _ => ⟨(fun z => nomatch z), trivial⟩⟩
theorem Post.bl {i : Bool} : Post G F H H (mkI (.bl i)) (.bl i) := ⟨Same.refl _, by show Rep _ _ _ _ _; simp [mkI, Rep], fun _ => ⟨(fun z => nomatch z), trivial⟩⟩
theorem Post.str {i : Str} : Post G F H H (mkI (.str i)) (.str i) := ⟨Same.refl _, by show Rep _ _ _ _ _; simp [mkI, Rep], fun _ => ⟨(fun z => nomatch z), trivial⟩⟩
theorem Post.non : Post G F H H (mkI .non) .non := ⟨Same.refl _, by show Rep _ _ _ _ _; simp [mkI, Rep], fun _ => ⟨(fun z => nomatch z), trivial⟩⟩
theorem Post.trans (p : Same H H') (q : Post G F H' H2 x v) : Post G F H H2 x v :=
  ⟨p.trans q.same, q.val, fun hr => ⟨fun hd => ⟨((q.new hr).1 hd).1, fun a e => p.free (((q.new hr).1 hd).2 a e)⟩, (q.new hr).2⟩⟩
theorem same_upd {a : Addr} {o : HO} (h : H a = none) : Same H (upd H a o) := fun b o' e => by rw [upd_ne (ne_of_none e h)]; exact e
/-- a new list -/
theorem Post.list {ds : List D} {vs : List V} {p : Addr} (S : Sim G F E σ H) (hp : H p = none) (hz : vs.length ≤ sizeLine) (h : Reps G (cl F n) H ds vs) : Post G F H (upd H p (.lst vs)) (mkL ds n) (.ref p) := by
  have sm : Same H (upd H p (.lst vs)) := same_upd hp
  refine ⟨sm, ?_, fun _ => ⟨fun _ => ⟨rfl, fun a e => by cases e; exact hp⟩, p, vs, rfl, upd_same, hz, Reps.mono (fun k a o q e => ⟨⟨q, ne_of_none e hp⟩, sm a o e⟩) (Same.imm sm) _ _ h.orI⟩⟩
  show Rep _ _ _ _ _
  simp only [mkL, Rep]
  exact ⟨p, vs, rfl, S.new hp _ _, upd_same, hz, (h.orI).same sm⟩
/-- a new tuple -/
theorem Post.tupl {ds : List D} {vs : List V} {p : Addr} {r : Bool} (hp : H p = none) (hz : vs.length ≤ sizeLine) (h : Reps G (cl F n) H ds vs) : Post G F H (upd H p (.tup vs)) (.tup ds, ⟨r, n, true⟩) (.ref p) := by
  have sm : Same H (upd H p (.tup vs)) := same_upd hp
  refine ⟨sm, ?_, fun _ => ⟨(fun z => nomatch z), trivial⟩⟩
  show Rep _ _ _ _ _
  simp only [Rep]
  exact ⟨p, vs, rfl, upd_same, hz, h.same sm⟩
/-- an item -/
theorem Post.item (h : Rep G (cl F n) H d v) : Post G F H H (mkE d n) v :=
  ⟨Same.refl _, h.orI, fun e => by cases e⟩
end

/-! ### the wishes -/
def R.sat {α : Type} (r : R α) (p : α → Prop) (e : Str → Prop) : Prop := match r with
  | .ok a => p a
  | .exc c => e c
  | .bad => False
theorem R.sat_bind {α β : Type} {r : R α} {f : α → R β} {p : β → Prop} {e : Str → Prop} : (r.bind f).sat p e ↔ r.sat (fun a => (f a).sat p e) e := by
  cases r <;> exact Iff.rfl
theorem R.sat_mono {α : Type} {r : R α} {p p' : α → Prop} {e e' : Str → Prop} (h : r.sat p e) (hp : ∀ a, p a → p' a) (he : ∀ c, e c → e' c) : r.sat p' e' := by
  cases r with
  | ok a => exact hp a h
  | exc c => exact he c h
  | bad => exact h
theorem R.sat_ok {α : Type} {a : α} {p : α → Prop} {e : Str → Prop} : (R.ok a).sat p e ↔ p a := Iff.rfl
theorem R.sat_bad {α : Type} {p : α → Prop} {e : Str → Prop} : (R.bad : R α).sat p e ↔ False := Iff.rfl
/-- what is wanted of an exception of class c -/
def wish (G : GT) (Y : XK) (H : Hp) (c : Str) : Prop := ∀ H', Same H H' → ∃ C, G.ecls c = some C ∧ Y (.ref C) none H'
theorem wish.same {G : GT} {Y : XK} {H H' : Hp} {c : Str} (h : wish G Y H c) (s : Same H H') : wish G Y H' c := fun H2 s2 => h H2 (s.trans s2)

section
variable (T : Tb) (C : Fid → List D → R (D × Bool)) (G : GT) (Y : XK)
/-- the reading of an expression -/
def tP (e : Ex) : TE := fun σ H Q => ∃ F E, Sim G F E σ H ∧ (ev T C e E).sat (fun x => ∀ v H', Post G F H H' x v → Q v H') (wish G Y H)
/-- .. of a test -/
def tT (e : Ex) : TT := fun σ H Q => ∃ F E, Sim G F E σ H ∧ (ev T C e E).sat (fun x => ∃ k, x.1 = .bl k ∧ ∀ H', Same H H' → Q k H') (wish G Y H)
/-- .. of arguments -/
def tA (es : Exs) : TA := fun σ H Q => ∃ F E, Sim G F E σ H ∧ (evl T C es E).sat (fun xs => ∀ vs H', Same H H' → Paired (fun v x => Val G F H' x v) vs xs → Q vs H') (wish G Y H)
end
section
variable {X : Cx}
theorem PE_weak {e : Expr} {t t' : TE} (h : PE X e t) (w : ∀ σ H Q, t' σ H Q → t σ H Q) : PE X e t' := ⟨fun pins s σ H Q I q => h.run pins s σ H Q I (w σ H Q q)⟩
theorem PT_weak {e : Expr} {t t' : TT} (h : PT X e t) (w : ∀ σ H Q, t' σ H Q → t σ H Q) : PT X e t' := ⟨fun pins s σ H Q I q => h.run pins s σ H Q I (w σ H Q q)⟩
theorem PW_weak {e : Expr} {t t' : TT} (h : PW X e t) (w : ∀ σ H Q, t' σ H Q → t σ H Q) : PW X e t' := ⟨fun wh pins s σ H Q I q => h.run wh pins s σ H Q I (w σ H Q q)⟩
theorem PA_weak {e : List Expr} {t t' : TA} (h : PA X e t) (w : ∀ σ H Q, t' σ H Q → t σ H Q) : PA X e t' := ⟨fun pos pins s σ H Q I q => h.run pos pins s σ H Q I (w σ H Q q)⟩
theorem PS_weak {e : Stmt} {t t' : TS} (h : PS X e t) (w : ∀ D σ H, t' D σ H → t D σ H) : PS X e t' := ⟨fun pins s σ H D I q => h.run pins s σ H D I (w D σ H q)⟩
theorem PSs_weak {e : List Stmt} {t t' : TS} (h : PSs X e t) (w : ∀ D σ H, t' D σ H → t D σ H) : PSs X e t' := ⟨fun pins s σ H D I q => h.run pins s σ H D I (w D σ H q)⟩
end

/-! ### names, constants, operators -/
section
variable {T : Tb} {C : Fid → List D → R (D × Bool)} {G : GT} {Y : XK} {X : Cx} {a b c : Expr} {ea eb ec : Ex} {pos : Pos}
theorem ve_var {i : Nat} {x : Str} (hN : X.N[i]? = some x) (hv : Vis X.env.scope x) (hd : (x == ("__debug__" : Str)) = false) (hcd : (x == ("__classdict__" : Str)) = false) : PE X (.Name x pos) (tP T C G Y (.var i)) := by
  refine PE_weak (pe_var hN hv hd hcd) fun σ H Q => ?_
  rintro ⟨F, E, S, h⟩
  simp only [ev] at h
  cases e : E[i]? with
  | none => rw [e] at h; exact h.elim
  | some s =>
    cases s with
    | none => rw [e] at h; exact h.elim
    | some s =>
      obtain ⟨v, h1, h2⟩ := S.slot i s e
      rw [e] at h
      refine ⟨v, h1, ?_⟩
      cases s with
      | dep d => exact h.elim
      | slf c fs => exact h.elim
      | shr d n => exact h v H ⟨Same.refl _, Rep.orI h2, fun z => by cases z⟩
      | own d n =>
        cases d with
        | lst ds =>
          obtain ⟨a, e1, _, _, _, vs, h3, h4, h5⟩ := h2
          exact h v H ⟨Same.refl _, ⟨a, vs, e1, h3, h4, h5⟩, fun z => by cases z⟩
        | dic ds =>
          obtain ⟨a, e1, _, _, _, vs, h3, h4, h5⟩ := h2
          exact h v H ⟨Same.refl _, ⟨a, vs, e1, h3, h4, h5⟩, fun z => by cases z⟩
        | _ => exact h.elim
theorem ve_int {i j} : PE X (.Constant (.int i) j pos) (tP T C G Y (.con (.int i))) := PE_weak pe_int fun σ H Q ⟨F, E, S, h⟩ => h _ _ Post.int
theorem ve_bl {i j} : PE X (.Constant (.bool i) j pos) (tP T C G Y (.con (.bl i))) := PE_weak pe_bl fun σ H Q ⟨F, E, S, h⟩ => h _ _ Post.bl
theorem ve_non {j} : PE X (.Constant .none j pos) (tP T C G Y (.con .non)) := PE_weak pe_non fun σ H Q ⟨F, E, S, h⟩ => h _ _ Post.non
theorem ve_str {i j} : PE X (.Constant (.str i) j pos) (tP T C G Y (.con (.str i))) := PE_weak pe_str fun σ H Q ⟨F, E, S, h⟩ => h _ _ Post.str
/-- one after another -/
theorem tP_bind {σ : St} {H : Hp} {F : Fr} {E : SEnv} {β : Type} {f : D × Fl → R β} {p : β → Prop} (S : Sim G F E σ H) (h : ((ev T C ea E).bind f).sat p (wish G Y H)) {Q : VK}
    (k : ∀ x v H', Post G F H H' x v → Sim G F E σ H' → (f x).sat p (wish G Y H') → Q v H') : tP T C G Y ea σ H Q := by
  rw [R.sat_bind] at h
  exact ⟨F, E, S, R.sat_mono h (fun x q v H' P => k x v H' P (S.same P.same) (R.sat_mono q (fun _ z => z) fun c z => z.same P.same)) fun c z => z⟩
/-- an operator by its values -/
def OpV (G : GT) (r : R2) (f : D × Fl → D × Fl → R (D × Fl)) : Prop := ∀ (F : Fr) (E : SEnv) (σ : St) (H : Hp) (x y z : D × Fl) (v u : V) (Q : VK), Sim G F E σ H → Val G F H x v → Val G F H y u → f x y = .ok z → (∀ w H', Post G F H H' z w → Q w H') → r v u H Q
def NoExc {α β γ : Type} (f : α → β → R γ) : Prop := ∀ x y c, f x y ≠ .exc c
theorem sat_of {α : Type} {r : R α} {p : α → Prop} {e : Str → Prop} (h : r.sat p e) (n : ∀ c, r ≠ .exc c) : ∃ a, r = .ok a ∧ p a := by
  cases r with
  | ok a => exact ⟨a, rfl, h⟩
  | exc c => exact absurd rfl (n c)
  | bad => exact h.elim
theorem two {r : R2} {f : D × Fl → D × Fl → R (D × Fl)} (hv : OpV G r f) (hn : NoExc f) {σ : St} {H : Hp} {Q : VK} {F : Fr} {E : SEnv} (S : Sim G F E σ H)
    (h : ((ev T C ea E).bind fun x => (ev T C eb E).bind fun y => f x y).sat (fun x => ∀ v H', Post G F H H' x v → Q v H') (wish G Y H)) : tOp r (tP T C G Y ea) (tP T C G Y eb) σ H Q := by
  refine tP_bind S h fun x v H1 P1 S1 h1 => tP_bind S1 h1 fun y u H2 P2 S2 h2 => ?_
  obtain ⟨z, e, q⟩ := sat_of h2 (hn x y)
  exact hv F E σ H2 x y z v u Q S2 (P1.val.same P2.same) P2.val e fun w H' P => q w H' (Post.trans (P1.same.trans P2.same) P)
theorem ve_bin {op : Operator} {r : R2} (ho : OpR X (binaryOp op) r) (hv : OpV G r (binV op)) (hn : NoExc (binV op)) (ha : PE X a (tP T C G Y ea)) (hb : PE X b (tP T C G Y eb)) : PE X (.BinOp a op b pos) (tP T C G Y (.bin op ea eb)) :=
  PE_weak (pe_op ho ha hb) fun σ H Q ⟨F, E, S, h⟩ => two hv hn S (by simpa only [ev] using h)
end
end FS

/-! FS3: operators, tests, displays, items, attributes. -/
namespace FS
open PySem L2

theorem lim_line : lim ≤ sizeLine := by decide
theorem bin_ne (op : Operator) : NoExc (binV op) := by
  rintro ⟨d, f⟩ ⟨d', g⟩ c e
  unfold binV at e
  split at e <;> first | cases e | (split at e <;> cases e)

section
variable {T : Tb} {C : Fid → List D → R (D × Bool)} {G : GT} {Y : XK} {X : Cx} {a b c : Expr} {ea eb ec : Ex} {pos : Pos}

/-! ### arithmetic -/
theorem opV_int {op : Operator} {r : R2} {P : Int → Int → Prop} {g : Int → Int → Int} (hr : ∀ i j H Q, P i j → Q (V.int (g i j)) H → r (.int i) (.int j) H Q)
    (hf : ∀ x y z, binV op x y = .ok z → ∃ i j, x.1 = .int i ∧ y.1 = .int j ∧ P i j ∧ z = mkI (.int (g i j))) : OpV G r (binV op) := by
  intro F E σ H x y z v u Q S hx hy e k
  obtain ⟨i, j, e1, e2, p, rfl⟩ := hf x y z e
  obtain ⟨d, f⟩ := x
  obtain ⟨d', g'⟩ := y
  subst e1; subst e2
  rw [Val.int hx, Val.int hy]
  exact hr i j H Q p (k _ _ Post.int)
def rPlus : R2 := fun x y H Q => rI0 (fun i j => V.int (i + j)) x y H Q ∨ rCat x y H Q ∨ (fun x y H Q => ∃ i j, x = V.str i ∧ y = V.str j ∧ i.length + j.length ≤ sizeLine ∧ Q (V.str (i ++ j)) H) x y H Q
theorem op_plus : OpR X (binaryOp .Add) rPlus := op_add.or (op_cat.or op_add_str)
theorem opV_add : OpV G rPlus (binV .Add) := by
  rintro F E σ H ⟨d, f⟩ ⟨d', g⟩ z v u Q S hx hy e k
  cases d <;> cases d' <;> simp only [binV] at e <;> first | cases e | skip
  · refine .inl ⟨_, _, hx.int, hy.int, k _ _ Post.int⟩
  · split at e
    · rename_i hl
      cases e
      refine .inr (.inr ⟨_, _, hx.str, hy.str, Nat.le_trans hl lim_line, k _ _ Post.str⟩)
    · cases e
  · split at e
    · rename_i hl
      cases e
      obtain ⟨p, vs, rfl, h1, h2, h3⟩ := hx.lst
      obtain ⟨q, ws, rfl, h4, h5, h6⟩ := hy.lst
      have e1 := h3.length
      have e2 := h6.length
      refine .inr (.inl ⟨p, q, vs, ws, rfl, rfl, h1, h4, by rw [e1, e2]; exact Nat.le_trans hl lim_line, fun l hn => k _ _ ?_⟩)
      exact Post.list S hn (by rw [List.length_append, e1, e2]; exact Nat.le_trans hl lim_line) (h3.and h6)
    · cases e
theorem ve_add (ha : PE X a (tP T C G Y ea)) (hb : PE X b (tP T C G Y eb)) : PE X (.BinOp a .Add b pos) (tP T C G Y (.bin .Add ea eb)) := ve_bin op_plus opV_add (bin_ne _) ha hb
theorem ve_sub (ha : PE X a (tP T C G Y ea)) (hb : PE X b (tP T C G Y eb)) : PE X (.BinOp a .Sub b pos) (tP T C G Y (.bin .Sub ea eb)) := by
  refine ve_bin op_sub (opV_int (P := fun _ _ => True) (g := fun i j => i - j) (fun i j H Q _ q => ⟨i, j, rfl, rfl, q⟩) ?_) (bin_ne _) ha hb
  rintro ⟨d, f⟩ ⟨d', g⟩ z e
  cases d <;> cases d' <;> simp only [binV] at e <;> cases e
  exact ⟨_, _, rfl, rfl, trivial, rfl⟩
def rTimes : R2 := fun x y H Q => rI CMul (fun i j => V.int (i * j)) x y H Q ∨ rRep x y H Q
theorem op_times : OpR X (binaryOp .Mult) rTimes := op_mul.or op_rep
theorem Reps_rep {P : Bool → Addr → Prop} {H : Hp} {ds : List D} {vs : List V} (h : Reps G P H ds vs) : ∀ k : Nat, Reps G P H (List.replicate k ds).flatten (List.replicate k vs).flatten
  | 0 => by simp [Reps]
  | k + 1 => by
    simp only [List.replicate_succ, List.flatten_cons]
    exact h.append (Reps_rep h k)
theorem opV_mul : OpV G rTimes (binV .Mult) := by
  rintro F E σ H ⟨d, f⟩ ⟨d', g⟩ z v u Q S hx hy e k
  cases d <;> cases d' <;> simp only [binV] at e <;> first | cases e | skip
  · split at e
    · rename_i hl
      cases e
      exact .inl ⟨_, _, hx.int, hy.int, hl, k _ _ Post.int⟩
    · cases e
  · split at e
    · rename_i j hl
      cases e
      obtain ⟨p, vs, rfl, h1, h2, h3⟩ := hx.lst
      have e1 := h3.length
      have ll := lim_line
      have hj : j < 2 ^ 63 := by have := hl.2.1; simp only [lim] at this; omega
      refine .inr ⟨p, j, vs, rfl, hy.int, h1, by omega, hj, by rw [e1]; exact Nat.le_trans hl.2.2 ll, fun l hn => k _ _ ?_⟩
      refine Post.list S hn ?_ (Reps_rep h3 _)
      rw [List.length_flatten, List.map_replicate, List.sum_replicate_nat, e1, Nat.mul_comm]
      exact Nat.le_trans hl.2.2 ll
    · cases e
theorem ve_mul (ha : PE X a (tP T C G Y ea)) (hb : PE X b (tP T C G Y eb)) : PE X (.BinOp a .Mult b pos) (tP T C G Y (.bin .Mult ea eb)) := ve_bin op_times opV_mul (bin_ne _) ha hb
theorem ve_mod (ha : PE X a (tP T C G Y ea)) (hb : PE X b (tP T C G Y eb)) : PE X (.BinOp a .Mod b pos) (tP T C G Y (.bin .Mod ea eb)) := by
  refine ve_bin op_mod (opV_int (P := fun _ j => 0 < j) (g := fun i j => i % j) (fun i j H Q p q => ⟨i, j, rfl, rfl, p, q⟩) ?_) (bin_ne _) ha hb
  rintro ⟨d, f⟩ ⟨d', g⟩ z e
  cases d <;> cases d' <;> simp only [binV] at e <;> first | cases e | (split at e <;> cases e)
  exact ⟨_, _, rfl, rfl, by assumption, rfl⟩
theorem ve_fdiv (ha : PE X a (tP T C G Y ea)) (hb : PE X b (tP T C G Y eb)) : PE X (.BinOp a .FloorDiv b pos) (tP T C G Y (.bin .FloorDiv ea eb)) := by
  refine ve_bin op_fdiv (opV_int (P := fun _ j => 0 < j ∧ j < 1073741824) (g := fun i j => i / j) (fun i j H Q p q => ⟨i, j, rfl, rfl, p, q⟩) ?_) (bin_ne _) ha hb
  rintro ⟨d, f⟩ ⟨d', g⟩ z e
  cases d <;> cases d' <;> simp only [binV] at e <;> first | cases e | (split at e <;> cases e)
  exact ⟨_, _, rfl, rfl, by assumption, rfl⟩
theorem ve_shl (ha : PE X a (tP T C G Y ea)) (hb : PE X b (tP T C G Y eb)) : PE X (.BinOp a .LShift b pos) (tP T C G Y (.bin .LShift ea eb)) := by
  refine ve_bin op_shl (opV_int (P := fun i j => 0 ≤ j ∧ j ≤ 1000000 ∧ i.natAbs < 2 ^ 64) (g := fun i j => i * 2 ^ j.toNat) (fun i j H Q p q => ⟨i, j, rfl, rfl, p, q⟩) ?_) (bin_ne _) ha hb
  rintro ⟨d, f⟩ ⟨d', g⟩ z e
  cases d <;> cases d' <;> simp only [binV] at e <;> first | cases e | (split at e <;> cases e)
  exact ⟨_, _, rfl, rfl, by assumption, rfl⟩
theorem ve_pow (ha : PE X a (tP T C G Y ea)) (hb : PE X b (tP T C G Y eb)) : PE X (.BinOp a .Pow b pos) (tP T C G Y (.bin .Pow ea eb)) := by
  refine ve_bin op_pow (opV_int (P := fun i j => 0 ≤ j ∧ j ≤ 1000000 ∧ i.natAbs < 2 ^ 64) (g := fun i j => i ^ j.toNat) (fun i j H Q p q => ⟨i, j, rfl, rfl, p, q⟩) ?_) (bin_ne _) ha hb
  rintro ⟨d, f⟩ ⟨d', g⟩ z e
  cases d <;> cases d' <;> simp only [binV] at e <;> first | cases e | (split at e <;> cases e)
  exact ⟨_, _, rfl, rfl, by assumption, rfl⟩
theorem ve_shr (ha : PE X a (tP T C G Y ea)) (hb : PE X b (tP T C G Y eb)) : PE X (.BinOp a .RShift b pos) (tP T C G Y (.bin .RShift ea eb)) := by
  refine ve_bin op_shr (opV_int (P := fun i j => 0 ≤ j) (g := fun i j => i / 2 ^ j.toNat) (fun i j H Q p q => ⟨i, j, rfl, rfl, p, q⟩) ?_) (bin_ne _) ha hb
  rintro ⟨d, f⟩ ⟨d', g⟩ z e
  cases d <;> cases d' <;> simp only [binV] at e <;> first | cases e | (split at e <;> cases e)
  exact ⟨_, _, rfl, rfl, by assumption, rfl⟩
theorem ve_band (ha : PE X a (tP T C G Y ea)) (hb : PE X b (tP T C G Y eb)) : PE X (.BinOp a .BitAnd b pos) (tP T C G Y (.bin .BitAnd ea eb)) := by
  refine ve_bin op_and (opV_int (P := fun _ _ => True) (g := Builtin.bitAnd) (fun i j H Q _ q => ⟨i, j, rfl, rfl, q⟩) ?_) (bin_ne _) ha hb
  rintro ⟨d, f⟩ ⟨d', g⟩ z e
  cases d <;> cases d' <;> simp only [binV] at e <;> cases e
  exact ⟨_, _, rfl, rfl, trivial, rfl⟩
theorem ve_bor (ha : PE X a (tP T C G Y ea)) (hb : PE X b (tP T C G Y eb)) : PE X (.BinOp a .BitOr b pos) (tP T C G Y (.bin .BitOr ea eb)) := by
  refine ve_bin op_or (opV_int (P := fun _ _ => True) (g := Builtin.bitOr) (fun i j H Q _ q => ⟨i, j, rfl, rfl, q⟩) ?_) (bin_ne _) ha hb
  rintro ⟨d, f⟩ ⟨d', g⟩ z e
  cases d <;> cases d' <;> simp only [binV] at e <;> cases e
  exact ⟨_, _, rfl, rfl, trivial, rfl⟩
theorem ve_bxor (ha : PE X a (tP T C G Y ea)) (hb : PE X b (tP T C G Y eb)) : PE X (.BinOp a .BitXor b pos) (tP T C G Y (.bin .BitXor ea eb)) := by
  refine ve_bin op_xor (opV_int (P := fun _ _ => True) (g := Builtin.bitXor) (fun i j H Q _ q => ⟨i, j, rfl, rfl, q⟩) ?_) (bin_ne _) ha hb
  rintro ⟨d, f⟩ ⟨d', g⟩ z e
  cases d <;> cases d' <;> simp only [binV] at e <;> cases e
  exact ⟨_, _, rfl, rfl, trivial, rfl⟩
theorem ve_neg (ha : PE X a (tP T C G Y ea)) : PE X (.UnaryOp .USub a pos) (tP T C G Y (.un .USub ea)) := by
  refine PE_weak (pe_un un_neg ha) fun σ H Q ⟨F, E, S, h⟩ => ?_
  simp only [ev] at h
  refine tP_bind S h fun x v H' P S' h' => ?_
  obtain ⟨d, f⟩ := x
  cases d <;> simp only [unV] at h' <;> first | exact h'.elim | skip
  refine ⟨_, P.val.int, h' _ _ (Post.trans P.same Post.int)⟩
theorem ve_inv (ha : PE X a (tP T C G Y ea)) : PE X (.UnaryOp .Invert a pos) (tP T C G Y (.un .Invert ea)) := by
  refine PE_weak (pe_un un_inv ha) fun σ H Q ⟨F, E, S, h⟩ => ?_
  simp only [ev] at h
  refine tP_bind S h fun x v H' P S' h' => ?_
  obtain ⟨d, f⟩ := x
  cases d <;> simp only [unV] at h' <;> first | exact h'.elim | skip
  refine ⟨_, P.val.int, h' _ _ (Post.trans P.same Post.int)⟩

/-! ### tests -/
/-- a value that is a bool, as a test -/
theorem vt_val (ha : PE X a (tP T C G Y ea)) (he : ∀ whole, isTrue a X.env whole = (do let v ← whole; standAt a.pos; holding [v] (truthy v))) : PT X a (tT T C G Y ea) := by
  refine PT_weak (pt_val ha he) fun σ H Q ⟨F, E, S, h⟩ => ?_
  refine ⟨F, E, S, R.sat_mono h (fun x ⟨k, e, q⟩ v H' P => ?_) fun _ z => z⟩
  obtain ⟨d, f⟩ := x
  subst e
  exact ⟨k, P.val.bl, q _ P.same⟩
theorem tT_bind {σ : St} {H : Hp} {F : Fr} {E : SEnv} {β : Type} {f : Bool → R β} {p : β → Prop} (S : Sim G F E σ H) (h : ((ev T C ea E).bind fun x => boolR x f).sat p (wish G Y H)) {Q : Bool → Hp → Prop}
    (k : ∀ b H', Same H H' → Sim G F E σ H' → (f b).sat p (wish G Y H') → Q b H') : tT T C G Y ea σ H Q := by
  rw [R.sat_bind] at h
  refine ⟨F, E, S, R.sat_mono h (fun x q => ?_) fun c z => z⟩
  obtain ⟨d, fl⟩ := x
  cases d <;> simp only [boolR] at q <;> first | exact q.elim | skip
  exact ⟨_, rfl, fun H' s => k _ H' s (S.same s) (R.sat_mono q (fun _ z => z) fun c z => z.same s)⟩
theorem sat_bool {T : Tb} {C : Fid → List D → R (D × Bool)} {E : SEnv} {e : Ex} {p : D × Fl → Prop} {w : Str → Prop} : (ev T C e E).sat p w → (∀ x, p x → ∃ k, x.1 = .bl k) → ((ev T C e E).bind fun x => boolR x fun k => .ok (mkI (.bl k))).sat (fun z => ∃ x, p x ∧ z = mkI x.1) w := by
  intro h hp
  rw [R.sat_bind]
  refine R.sat_mono h (fun x q => ?_) fun _ z => z
  obtain ⟨k, e⟩ := hp x q
  obtain ⟨d, f⟩ := x
  subst e
  exact ⟨_, q, rfl⟩
theorem vt_not (ha : PT X a (tT T C G Y ea)) : PT X (.UnaryOp .Not a pos) (tT T C G Y (.un .Not ea)) := by
  refine PT_weak (pt_not ha) fun σ H Q ⟨F, E, S, h⟩ => ?_
  simp only [ev] at h
  refine ⟨F, E, S, ?_⟩
  rw [R.sat_bind] at h
  refine R.sat_mono h (fun x q => ?_) fun _ z => z
  obtain ⟨d, f⟩ := x
  cases d <;> simp only [unV] at q <;> first | exact q.elim | skip
  obtain ⟨k, e, q⟩ := q
  simp only [mkI, D.bl.injEq] at e
  subst e
  exact ⟨_, rfl, q⟩
theorem ve_not (ha : PE X a (tP T C G Y ea)) : PE X (.UnaryOp .Not a pos) (tP T C G Y (.un .Not ea)) := by
  refine PE_weak (pe_not ha) fun σ H Q ⟨F, E, S, h⟩ => ?_
  simp only [ev] at h
  refine tP_bind S h fun x v H' P S' h' => ?_
  obtain ⟨d, f⟩ := x
  cases d <;> simp only [unV] at h' <;> first | exact h'.elim | skip
  exact ⟨_, P.val.bl, h' _ _ (Post.trans P.same Post.bl)⟩
theorem vt_and1 (ha : PT X a (tT T C G Y ea)) : PW X (.BoolOp .And [a] pos) (tT T C G Y ea) := pw_and1 ha
theorem vt_or1 (ha : PT X a (tT T C G Y ea)) : PW X (.BoolOp .Or [a] pos) (tT T C G Y ea) := pw_or1 ha
theorem vt_and {rest : List Expr} (ha : PT X a (tT T C G Y ea)) (hb : PW X (.BoolOp .And (b :: rest) pos) (tT T C G Y eb)) : PW X (.BoolOp .And (a :: b :: rest) pos) (tT T C G Y (.and ea eb)) := by
  refine PW_weak (pw_and ha hb) fun σ H Q ⟨F, E, S, h⟩ => ?_
  simp only [ev] at h
  refine tT_bind S h fun k H1 s1 S1 h1 => ?_
  cases k with
  | true =>
    rw [if_pos rfl]
    rw [if_pos rfl] at h1
    exact ⟨F, E, S1, R.sat_mono h1 (fun x ⟨k, e, q⟩ => ⟨k, e, fun H' s' => q H' (s1.trans s')⟩) fun _ z => z⟩
  | false =>
    rw [if_neg Bool.false_ne_true]
    rw [if_neg Bool.false_ne_true] at h1
    obtain ⟨k, e, q⟩ := h1
    simp only [mkI, D.bl.injEq] at e
    subst e
    exact q H1 s1
theorem vt_or {rest : List Expr} (ha : PT X a (tT T C G Y ea)) (hb : PW X (.BoolOp .Or (b :: rest) pos) (tT T C G Y eb)) : PW X (.BoolOp .Or (a :: b :: rest) pos) (tT T C G Y (.or ea eb)) := by
  refine PW_weak (pw_or ha hb) fun σ H Q ⟨F, E, S, h⟩ => ?_
  simp only [ev] at h
  refine tT_bind S h fun k H1 s1 S1 h1 => ?_
  cases k with
  | false =>
    rw [if_neg Bool.false_ne_true]
    rw [if_neg Bool.false_ne_true] at h1
    exact ⟨F, E, S1, R.sat_mono h1 (fun x ⟨k, e, q⟩ => ⟨k, e, fun H' s' => q H' (s1.trans s')⟩) fun _ z => z⟩
  | true =>
    rw [if_pos rfl]
    rw [if_pos rfl] at h1
    obtain ⟨k, e, q⟩ := h1
    simp only [mkI, D.bl.injEq] at e
    subst e
    exact q H1 s1
theorem ve_and {rest : List Expr} (ha : PE X a (tP T C G Y ea)) (hb : PE X (.BoolOp .And (b :: rest) pos) (tP T C G Y eb)) : PE X (.BoolOp .And (a :: b :: rest) pos) (tP T C G Y (.and ea eb)) := by
  refine PE_weak (pe_and ha hb) fun σ H Q ⟨F, E, S, h⟩ => ?_
  simp only [ev] at h
  refine tP_bind S h fun x v H' P S' h' => ?_
  obtain ⟨d, f⟩ := x
  cases d <;> simp only [boolR] at h' <;> first | exact h'.elim | skip
  rename_i k
  refine ⟨k, P.val.bl, ?_⟩
  cases k with
  | true =>
    rw [if_pos rfl]
    rw [if_pos rfl] at h'
    exact ⟨F, E, S', R.sat_mono h' (fun x q v H2 P2 => q v H2 (Post.trans P.same P2)) fun _ z => z⟩
  | false =>
    rw [if_neg Bool.false_ne_true]
    rw [if_neg Bool.false_ne_true] at h'
    exact h' _ _ (Post.trans P.same Post.bl)
theorem ve_or {rest : List Expr} (ha : PE X a (tP T C G Y ea)) (hb : PE X (.BoolOp .Or (b :: rest) pos) (tP T C G Y eb)) : PE X (.BoolOp .Or (a :: b :: rest) pos) (tP T C G Y (.or ea eb)) := by
  refine PE_weak (pe_or ha hb) fun σ H Q ⟨F, E, S, h⟩ => ?_
  simp only [ev] at h
  refine tP_bind S h fun x v H' P S' h' => ?_
  obtain ⟨d, f⟩ := x
  cases d <;> simp only [boolR] at h' <;> first | exact h'.elim | skip
  rename_i k
  refine ⟨k, P.val.bl, ?_⟩
  cases k with
  | false =>
    rw [if_neg Bool.false_ne_true]
    rw [if_neg Bool.false_ne_true] at h'
    exact ⟨F, E, S', R.sat_mono h' (fun x q v H2 P2 => q v H2 (Post.trans P.same P2)) fun _ z => z⟩
  | true =>
    rw [if_pos rfl]
    rw [if_pos rfl] at h'
    exact h' _ _ (Post.trans P.same Post.bl)
theorem ve_ite (hc : PT X c (tT T C G Y ec)) (ha : PE X a (tP T C G Y ea)) (hb : PE X b (tP T C G Y eb)) : PE X (.IfExp c a b pos) (tP T C G Y (.ite ec ea eb)) := by
  refine PE_weak (pe_ifExp hc ha hb) fun σ H Q ⟨F, E, S, h⟩ => ?_
  simp only [ev] at h
  refine tT_bind S h fun k H1 s1 S1 h1 => ?_
  cases k with
  | true =>
    rw [if_pos rfl]
    rw [if_pos rfl] at h1
    exact ⟨F, E, S1, R.sat_mono h1 (fun x q v H2 P2 => q v H2 (Post.trans s1 P2)) fun _ z => z⟩
  | false =>
    rw [if_neg Bool.false_ne_true]
    rw [if_neg Bool.false_ne_true] at h1
    exact ⟨F, E, S1, R.sat_mono h1 (fun x q v H2 P2 => q v H2 (Post.trans s1 P2)) fun _ z => z⟩
end
end FS

/-! FS4: data, comparisons, arguments, displays, builtins, items. -/
namespace FS
open PySem L2

/-! ### data -/
mutual
def D.py : D → PyData
  | .bl b => .bool b
  | .int i => .int i
  | .str s => .str s
  | .lst xs => .list (pyL xs)
  | .tup xs => .tuple (pyL xs)
  | _ => .none
def pyL : List D → List PyData
  | [] => []
  | x :: xs => x.py :: pyL xs
end
theorem pyL_map : ∀ xs : List D, pyL xs = xs.map D.py
  | [] => rfl
  | x :: xs => by simp [pyL, pyL_map xs]
theorem pyL_any (f : PyData → Bool) (g : D → Bool) (xs : List D) (h : ∀ x ∈ xs, f x.py = g x) : (pyL xs).any f = xs.any g := by
  induction xs with
  | nil => rfl
  | cons x xs ih => simp only [pyL, List.any_cons, h x List.mem_cons_self, ih fun y hy => h y (List.mem_cons_of_mem _ hy)]
theorem dat_lay : ∀ (n : Nat) (d : D), d.dat n = true → d.py.canLay0 = true ∧ d.py.depth ≤ n := by
  intro n
  induction n with
  | zero => intro d h; cases d <;> simp_all [D.dat, D.py, PyData.canLay0, PyData.depth]
  | succ n ih =>
    have all : ∀ xs : List D, xs.all (D.dat n) = true → PyData.canLayAll0 (pyL xs) = true ∧ PyData.depthAll (pyL xs) ≤ n := by
      intro xs
      induction xs with
      | nil => intro _; simp [pyL, PyData.canLayAll0, PyData.depthAll]
      | cons x xs ihx =>
        intro h
        simp only [List.all_cons, Bool.and_eq_true] at h
        obtain ⟨h1, h2⟩ := ih x h.1
        obtain ⟨h3, h4⟩ := ihx h.2
        simp only [pyL, PyData.canLayAll0, PyData.depthAll, h1, h3, Bool.and_self, true_and]
        omega
    intro d h
    cases d with
    | lst xs =>
      obtain ⟨h1, h2⟩ := all xs (by simpa [D.dat] using h)
      simp only [D.py, PyData.canLay0, PyData.depth, h1, true_and]
      omega
    | tup xs =>
      obtain ⟨h1, h2⟩ := all xs (by simpa [D.dat] using h)
      simp only [D.py, PyData.canLay0, PyData.depth, h1, true_and]
      omega
    | _ => simp_all [D.dat, D.py, PyData.canLay0, PyData.depth]
theorem dat_shaped {n : Nat} {d : D} (hn : n ≤ 60) (h : d.dat n = true) : SeqAt.shaped d.py = true := by
  obtain ⟨h1, h2⟩ := dat_lay n d h
  unfold SeqAt.shaped
  rw [h1, decide_eq_true (by omega)]
  rfl
theorem dat_shapedL {ds : List D} (h : ds.all (D.dat 60) = true) : SeqAt.shaped (.list (pyL ds)) = true := by
  have h' : (D.lst ds).dat 61 = true := by simpa [D.dat] using h
  obtain ⟨h1, h2⟩ := dat_lay 61 (.lst ds) h'
  unfold SeqAt.shaped
  rw [show PyData.list (pyL ds) = (D.lst ds).py by rfl, h1, decide_eq_true (by omega)]
  rfl
mutual
theorem py_eqv : ∀ (n m : Nat) (d e : D), d.dat n = true → e.dat m = true → PyData.eqv d.py e.py = d.eqv e
  | n, m, .lst xs, e, h, k => by
    cases n with
    | zero => simp [D.dat] at h
    | succ n =>
      cases e with
      | lst ys =>
        cases m with
        | zero => simp [D.dat] at k
        | succ m =>
          simp only [D.py, PyData.eqv, D.eqv]
          exact py_eqvL n m xs ys (by simpa [D.dat] using h) (by simpa [D.dat] using k)
      | _ => simp_all [D.dat, D.py, PyData.eqv, D.eqv]
  | n, m, .tup xs, e, h, k => by
    cases n with
    | zero => simp [D.dat] at h
    | succ n =>
      cases e with
      | tup ys =>
        cases m with
        | zero => simp [D.dat] at k
        | succ m =>
          simp only [D.py, PyData.eqv, D.eqv]
          exact py_eqvL n m xs ys (by simpa [D.dat] using h) (by simpa [D.dat] using k)
      | _ => simp_all [D.dat, D.py, PyData.eqv, D.eqv]
  | n, m, .non, e, h, k => by cases e <;> simp_all [D.dat, D.py, PyData.eqv, D.eqv]
  | n, m, .bl b, e, h, k => by cases e <;> simp_all [D.dat, D.py, PyData.eqv, D.eqv]
  | n, m, .int i, e, h, k => by cases e <;> simp_all [D.dat, D.py, PyData.eqv, D.eqv]
  | n, m, .str s, e, h, k => by cases e <;> simp_all [D.dat, D.py, PyData.eqv, D.eqv]
  | n, m, .scr _, e, h, k => by simp [D.dat] at h
  | n, m, .dic _, e, h, k => by simp [D.dat] at h
  | n, m, .obj _ _, e, h, k => by simp [D.dat] at h
  | n, m, .exc _, e, h, k => by simp [D.dat] at h
theorem py_eqvL : ∀ (n m : Nat) (ds es : List D), ds.all (D.dat n) = true → es.all (D.dat m) = true → PyData.eqvAll (pyL ds) (pyL es) = eqvL ds es
  | n, m, [], [], h, k => by simp [pyL, PyData.eqvAll, eqvL]
  | n, m, [], e :: es, h, k => by simp [pyL, PyData.eqvAll, eqvL]
  | n, m, d :: ds, [], h, k => by simp [pyL, PyData.eqvAll, eqvL]
  | n, m, d :: ds, e :: es, h, k => by
    simp only [List.all_cons, Bool.and_eq_true] at h k
    simp only [pyL, PyData.eqvAll, eqvL, py_eqv n m d e h.1 k.1, py_eqvL n m ds es h.2 k.2]
end
section
variable {G : GT} {P : Bool → Addr → Prop} {H : Hp}
mutual
theorem Rep.dp : ∀ (n : Nat) (d : D) (v : V), d.dat n = true → Rep G P H d v → Dp G.K H v d.py
  | _, .non, _, _, h => by simp only [Rep] at h; subst h; exact .non
  | _, .bl _, _, _, h => by simp only [Rep] at h; subst h; simp only [D.py]; exact .bl _
  | _, .int _, _, _, h => by simp only [Rep] at h; subst h; simp only [D.py]; exact .int _
  | _, .str _, _, _, h => by simp only [Rep] at h; subst h; simp only [D.py]; exact .str _
  | 0, .lst ds, _, k, _ => by simp [D.dat] at k
  | n + 1, .lst ds, _, k, h => by
    simp only [Rep] at h
    obtain ⟨a, vs, rfl, _, e, _, r⟩ := h
    simp only [D.py]
    exact .lst (SqL.of e) (Reps.dp n ds vs (by simpa [D.dat] using k) r)
  | 0, .tup ds, _, k, _ => by simp [D.dat] at k
  | n + 1, .tup ds, _, k, h => by
    simp only [Rep] at h
    obtain ⟨a, vs, rfl, e, _, r⟩ := h
    simp only [D.py]
    exact .tup (SqT.of e) (Reps.dp n ds vs (by simpa [D.dat] using k) r)
  | _, .scr _, _, k, _ => by simp [D.dat] at k
  | _, .dic _, _, k, _ => by simp [D.dat] at k
  | _, .obj _ _, _, k, _ => by simp [D.dat] at k
  | _, .exc _, _, k, _ => by simp [D.dat] at k
theorem Reps.dp : ∀ (n : Nat) (ds : List D) (vs : List V), ds.all (D.dat n) = true → Reps G P H ds vs → DpAll G.K H vs (pyL ds)
  | _, [], _, _, h => by simp only [Reps] at h; subst h; simp only [pyL]; exact .nil
  | n, d :: ds, _, k, h => by
    simp only [Reps] at h
    obtain ⟨v, r, rfl, p, q⟩ := h
    simp only [List.all_cons, Bool.and_eq_true] at k
    simp only [pyL]
    exact .cons (Rep.dp n d v k.1 p) (Reps.dp n ds r k.2 q)
end
theorem Val.dp {F : Fr} {d : D} {f : Fl} {v : V} {n : Nat} (k : d.dat n = true) (h : Val G F H (d, f) v) : Dp G.K H v d.py := by
  cases d with
  | lst ds =>
    obtain ⟨a, vs, rfl, e, _, r⟩ := h.lst
    cases n with
    | zero => simp [D.dat] at k
    | succ n =>
      simp only [D.py]
      exact .lst (SqL.of e) (Reps.dp n ds vs (by simpa [D.dat] using k) r)
  | dic ds => simp [D.dat] at k
  | _ => exact Rep.dp n _ v k (h.clean (by intro _ e; cases e) (by intro _ e; cases e))
theorem DpAll.ints {K : PySem.W.Frag} : ∀ ns : List Int, DpAll K H (ns.map V.int) (ns.map PyData.int)
  | [] => .nil
  | n :: ns => .cons (.int n) (DpAll.ints ns)
theorem flat_of {d : D} {v : V} (k : d.dat 0 = true) (h : Rep G P H d v) : flatV v = true := by
  cases d <;> simp [D.dat] at k <;> simp only [Rep] at h <;> subst h <;> rfl
theorem flat_eqv {d e : D} {v u : V} (k : d.dat 0 = true) (h : Rep G P H d v) (k' : e.dat 0 = true) (h' : Rep G P H e u) : eqV v u = d.eqv e := by
  cases d <;> simp [D.dat] at k <;> simp only [Rep] at h <;> subst h <;> cases e <;> simp [D.dat] at k' <;> simp only [Rep] at h' <;> subst h' <;> simp [eqV, D.eqv]
theorem flats_of : ∀ {ds : List D} {vs : List V}, ds.all (D.dat 0) = true → Reps G P H ds vs → vs.all flatV = true
  | [], _, _, h => by simp only [Reps] at h; subst h; rfl
  | d :: ds, _, k, h => by
    simp only [Reps] at h
    obtain ⟨v, r, rfl, p, q⟩ := h
    simp only [List.all_cons, Bool.and_eq_true] at k ⊢
    exact ⟨flat_of k.1 p, flats_of k.2 q⟩
theorem flats_in {e : D} {u : V} (k' : e.dat 0 = true) (h' : Rep G P H e u) : ∀ {ds : List D} {vs : List V}, ds.all (D.dat 0) = true → Reps G P H ds vs → inV u vs = inV' e ds
  | [], _, _, h => by simp only [Reps] at h; subst h; rfl
  | d :: ds, _, k, h => by
    simp only [Reps] at h
    obtain ⟨v, r, rfl, p, q⟩ := h
    simp only [List.all_cons, Bool.and_eq_true] at k
    have ih := flats_in k' h' k.2 q
    unfold inV inV' at ih ⊢
    simp only [List.any_cons, flat_eqv k.1 p k' h', ih]
end

/-! ### comparisons -/
def CmV (G : GT) (r : R2) (op : CmpOp) : Prop := ∀ (F : Fr) (H : Hp) (x y : D × Fl) (v u : V) (k : Bool) (Q : VK), Val G F H x v → Val G F H y u → cmpV op x.1 y.1 = .ok k → Q (.bl k) H → r v u H Q
theorem cmp_ne (op : CmpOp) (x y : D) (c : Str) : cmpV op x y ≠ .exc c := by
  intro e
  unfold cmpV at e
  split at e <;> first | cases e | (split at e <;> cases e)
theorem isN_of {G : GT} {P : Bool → Addr → Prop} {H : Hp} {d : D} {v : V} (h : Rep G P H d v) : decide (v = V.non) = (match d with | .non => true | _ => false) := by
  cases d <;> simp only [Rep] at h
  · subst h; rfl
  · subst h; rfl
  · subst h; rfl
  · subst h; rfl
  · obtain ⟨a, e, _⟩ := h; subst e; rfl
  · obtain ⟨a, _, e, _⟩ := h; subst e; rfl
  · obtain ⟨a, _, e, _⟩ := h; subst e; rfl
  · obtain ⟨a, _, e, _⟩ := h; subst e; rfl
  · obtain ⟨a, _, _, _, e, _⟩ := h; subst e; rfl
theorem Val.isN {G : GT} {F : Fr} {H : Hp} {x : D × Fl} {v : V} (h : Val G F H x v) : decide (v = V.non) = (match x.1 with | .non => true | _ => false) := by
  obtain ⟨d, f⟩ := x
  cases d with
  | lst ds => obtain ⟨a, _, rfl, _⟩ := h.lst; rfl
  | dic ds => obtain ⟨a, _, rfl, _⟩ := h.dic; rfl
  | _ => exact isN_of (h.clean (by intro _ e; cases e) (by intro _ e; cases e))
section
variable {T : Tb} {C : Fid → List D → R (D × Bool)} {G : GT} {Y : XK} {X : Cx} {a b c : Expr} {ea eb ec : Ex} {pos : Pos}
theorem op_inDict (hu : X.A.units + 1 < cLine) : OpR X (compareOp .In) (fun y x H Q => ∃ a o, x = .ref a ∧ DGet H a y o ∧ Q (.bl o.isSome) H) := by
  intro pins s σ H y x iv u Q I ry rx h
  obtain ⟨a, ov, rfl, g, q⟩ := h
  cases rx
  exact d_in hu I g ry fun s3 I3 => ⟨.bl ov.isSome, H, I3, rfl, q⟩
theorem op_notInDict (hu : X.A.units + 1 < cLine) : OpR X (compareOp .NotIn) (fun y x H Q => ∃ a o, x = .ref a ∧ DGet H a y o ∧ Q (.bl (!o.isSome)) H) := by
  intro pins s σ H y x iv u Q I ry rx h
  obtain ⟨a, ov, rfl, g, q⟩ := h
  cases rx
  exact d_notIn hu I g ry fun s3 I3 => ⟨.bl (!ov.isSome), H, I3, rfl, q⟩
theorem RepK.look {P : Bool → Addr → Prop} {H : Hp} : ∀ {ds : List (Int × D)} {vs : List (Key × V)} {k : Int}, RepK G P H ds vs → (match ds.lookup k with | some d => ∃ v, valV vs (.inl k) = some v ∧ Rep G P H d v | none => valV vs (.inl k) = none)
  | [], _, k, h => by simp only [RepK] at h; subst h; simp [valV]
  | (j, d) :: ds, _, k, h => by
    simp only [RepK] at h
    obtain ⟨v, r, rfl, p, q⟩ := h
    have ih := RepK.look (k := k) q
    rw [List.lookup_cons]
    by_cases e : k = j
    · subst e
      simp only [beq_self_eq_true]
      exact ⟨v, by simp [valV], p⟩
    · have e1 : (k == j) = false := by simpa using e
      simp only [e1]
      have e2 : valV ((Sum.inl j, v) :: r) (Sum.inl k : Key) = valV r (Sum.inl k) := by
        have : ¬ (Sum.inl j : Key) = Sum.inl k := fun z => e (Sum.inl.inj z).symm
        simp [valV, this]
      rw [e2]
      exact ih
/-- the rules of comparison, all operand kinds -/
def rCmp (K : PySem.W.Frag) : CmpOp → R2
  | .Lt => rI0 fun i j => .bl (decide (i < j))
  | .LtE => rI0 fun i j => .bl (decide (i ≤ j))
  | .Gt => rI0 fun i j => .bl (decide (j < i))
  | .GtE => rI0 fun i j => .bl (decide (j ≤ i))
  | .Eq => rEqD K
  | .NotEq => rNeD K
  | .Is => fun x y H Q => (y = .non ∧ Q (.bl (decide (x = .non))) H) ∨ rIsB x y H Q
  | .IsNot => fun x y H Q => (y = .non ∧ Q (.bl (!decide (x = .non))) H) ∨ rNotB x y H Q
  | .In => fun x y H Q => rInD K x y H Q ∨ rIn K false x y H Q ∨ ∃ a o, y = .ref a ∧ DGet H a x o ∧ Q (.bl o.isSome) H
  | .NotIn => fun x y H Q => rNotInD K x y H Q ∨ rIn K true x y H Q ∨ ∃ a o, y = .ref a ∧ DGet H a x o ∧ Q (.bl (!o.isSome)) H
theorem op_cmp (hu : X.A.units + 65 < cLine) : ∀ op : CmpOp, OpR X (compareOp op) (rCmp X.K op)
  | .Lt => op_lt
  | .LtE => op_le
  | .Gt => op_gt
  | .GtE => op_ge
  | .Eq => op_eqD (by omega)
  | .NotEq => op_neD (by omega)
  | .Is => op_isN.or op_isBl
  | .IsNot => op_notN.or op_notBl
  | .In => (op_inD hu).or (op_in_seq.or (op_inDict (by omega)))
  | .NotIn => (op_notInD hu).or (op_notIn_seq.or (op_notInDict (by omega)))
theorem cmV : ∀ op : CmpOp, CmV G (rCmp G.K op) op := by
  have int2 : ∀ (op : CmpOp) (g : Int → Int → Bool), (∀ x y k, cmpV op x y = .ok k → ∃ i j, x = .int i ∧ y = .int j ∧ k = g i j) → CmV G (rI0 fun i j => .bl (g i j)) op := by
    rintro op g hg F H ⟨d, f⟩ ⟨d', f'⟩ v u k Q hx hy e q
    obtain ⟨i, j, e1, e2, rfl⟩ := hg _ _ _ e
    have e1 : d = .int i := e1
    have e2 : d' = .int j := e2
    subst e1; subst e2
    exact ⟨i, j, hx.int, hy.int, q⟩
  intro op
  cases op with
  | Lt => exact int2 _ (fun i j => decide (i < j)) fun x y k e => by cases x <;> cases y <;> simp only [cmpV] at e <;> cases e; exact ⟨_, _, rfl, rfl, rfl⟩
  | LtE => exact int2 _ (fun i j => decide (i ≤ j)) fun x y k e => by cases x <;> cases y <;> simp only [cmpV] at e <;> cases e; exact ⟨_, _, rfl, rfl, rfl⟩
  | Gt => exact int2 _ (fun i j => decide (j < i)) fun x y k e => by cases x <;> cases y <;> simp only [cmpV] at e <;> cases e; exact ⟨_, _, rfl, rfl, rfl⟩
  | GtE => exact int2 _ (fun i j => decide (j ≤ i)) fun x y k e => by cases x <;> cases y <;> simp only [cmpV] at e <;> cases e; exact ⟨_, _, rfl, rfl, rfl⟩
  | Eq =>
    rintro F H ⟨d, f⟩ ⟨d', f'⟩ v u k Q hx hy e q
    simp only at e
    have main : (d.dat 60 && d'.dat 60) = true → k = d.eqv d' → rCmp G.K .Eq v u H Q := by
      intro h e
      rw [Bool.and_eq_true] at h
      refine ⟨_, _, hx.dp h.1, hy.dp h.2, dat_shaped (Nat.le_refl _) h.1, dat_shaped (Nat.le_refl _) h.2, ?_⟩
      rw [py_eqv _ _ _ _ h.1 h.2, ← e]
      exact q
    unfold cmpV at e
    split at e <;> first | (rename_i h; cases h; done) | skip
    all_goals first | (rename_i h _ _; cases h; done) | (rename_i h _ _ _; cases h; done) | (rename_i h _; cases h; done) | (rename_i h _ _ _ _; cases h; done) | skip
    · cases e
      obtain ⟨a, rfl, h1⟩ := hx.scr
      obtain ⟨p, vs, rfl, h2, h3, h4⟩ := hy.lst
      rename_i ns _
      simp only [Reps] at h4
      subst h4
      refine ⟨.list (ns.map PyData.int), .list [], .lst h1.sql (DpAll.ints ns), .lst (SqL.of h2) .nil, ?_, by decide, ?_⟩
      · have hs : ((D.lst (ns.map D.int)).dat 60) = true := by
          simp only [D.dat, List.all_map, List.all_eq_true]
          intro x _
          rfl
        have := dat_shaped (Nat.le_refl _) hs
        simpa [D.py, pyL_map, Function.comp_def] using this
      · cases ns with
        | nil => exact q
        | cons n ns => exact q
    · split at e
      · rename_i h
        cases e
        exact main h rfl
      · cases e
    · cases e
  | NotEq =>
    rintro F H ⟨d, f⟩ ⟨d', f'⟩ v u k Q hx hy e q
    have e : (if (d.dat 60 && d'.dat 60) = true then R.ok (!d.eqv d') else .bad) = R.ok k := by simpa only [cmpV] using e
    split at e
    · rename_i h
      cases e
      rw [Bool.and_eq_true] at h
      refine ⟨_, _, hx.dp h.1, hy.dp h.2, dat_shaped (Nat.le_refl _) h.1, dat_shaped (Nat.le_refl _) h.2, ?_⟩
      rw [py_eqv _ _ _ _ h.1 h.2]
      exact q
    · cases e
  | Is =>
    rintro F H ⟨d, f⟩ ⟨d', f'⟩ v u k Q hx hy e q
    have hn := hx.isN
    cases d' <;> (try (cases d <;> simp only [cmpV] at e <;> cases e; done))
    · refine .inl ⟨hy.non, ?_⟩
      rw [hn]
      cases d <;> simp only [cmpV] at e <;> cases e <;> exact q
    · cases d <;> simp only [cmpV] at e <;> cases e
      refine .inr ⟨_, _, hx.bl, hy.bl, ?_⟩
      simpa [Bool.beq_eq_decide_eq] using q
  | IsNot =>
    rintro F H ⟨d, f⟩ ⟨d', f'⟩ v u k Q hx hy e q
    have hn := hx.isN
    cases d' <;> (try (cases d <;> simp only [cmpV] at e <;> cases e; done))
    · refine .inl ⟨hy.non, ?_⟩
      rw [hn]
      cases d <;> simp only [cmpV] at e <;> cases e <;> exact q
  | In =>
    rintro F H ⟨d, f⟩ ⟨d', f'⟩ v u k Q hx hy e q
    cases d' <;> (try (cases d <;> simp only [cmpV] at e <;> cases e; done))
    · rename_i ys
      have e : (if (d.dat 60 && ys.all (D.dat 60)) = true then R.ok (inV' d ys) else .bad) = R.ok k := by simpa only [cmpV] using e
      split at e
      · rename_i h
        cases e
        rw [Bool.and_eq_true] at h
        have h2 : (D.lst ys).dat 61 = true := by simpa [D.dat] using h.2
        refine .inl ⟨_, pyL ys, hx.dp h.1, by simpa [D.py] using hy.dp h2, dat_shaped (Nat.le_refl _) h.1, dat_shapedL h.2, ?_⟩
        rw [pyL_any (fun z => PyData.eqv z d.py) (fun y => y.eqv d) ys fun x hx' => py_eqv 60 60 _ _ (List.all_eq_true.mp h.2 x hx') h.1]
        exact q
      · cases e
    · rename_i ys
      have e : (if (d.dat 0 && ys.all (D.dat 0)) = true then R.ok (inV' d ys) else .bad) = R.ok k := by simpa only [cmpV] using e
      split at e
      · rename_i h
        cases e
        rw [Bool.and_eq_true] at h
        obtain ⟨p, vs, rfl, h1, _, h2⟩ := hy.tup
        have hx' : ∀ n, Rep G (cl F n) H d v := fun n => Rep.imm (P := cl F f.n) (fun a _ p _ => cl_obj p) d v (by cases d <;> simp [D.dat] at h <;> rfl) (hx.clean (by rintro _ rfl; simp [D.dat] at h) (by rintro _ rfl; simp [D.dat] at h))
        refine .inr (.inl ⟨p, vs, rfl, .inr (SqT.of h1), flat_of h.1 (hx' false), flats_of h.2 h2, ?_⟩)
        rw [if_neg Bool.false_ne_true, flats_in h.1 (hx' f'.n) h.2 h2]
        exact q
      · cases e
    · rename_i kvs
      cases d <;> simp only [cmpV] at e <;> cases e
      obtain ⟨p, ws, rfl, h1, h2, h3⟩ := hy.dic
      rename_i i
      have hl := h3.look (k := i)
      refine .inr (.inr ⟨p, valV ws (.inl i), rfl, by rw [hx.int]; exact DGet.k (k := Sum.inl i) h1, ?_⟩)
      cases e : kvs.lookup i with
      | none => rw [e] at hl q; rw [hl]; exact q
      | some d => rw [e] at hl q; obtain ⟨w, hl, _⟩ := hl; rw [hl]; exact q
  | NotIn =>
    rintro F H ⟨d, f⟩ ⟨d', f'⟩ v u k Q hx hy e q
    cases d' <;> (try (cases d <;> simp only [cmpV] at e <;> cases e; done))
    · rename_i ys
      have e : (if (d.dat 60 && ys.all (D.dat 60)) = true then R.ok (!inV' d ys) else .bad) = R.ok k := by simpa only [cmpV] using e
      split at e
      · rename_i h
        cases e
        rw [Bool.and_eq_true] at h
        have h2 : (D.lst ys).dat 61 = true := by simpa [D.dat] using h.2
        refine .inl ⟨_, pyL ys, hx.dp h.1, by simpa [D.py] using hy.dp h2, dat_shaped (Nat.le_refl _) h.1, dat_shapedL h.2, ?_⟩
        rw [pyL_any (fun z => PyData.eqv z d.py) (fun y => y.eqv d) ys fun x hx' => py_eqv 60 60 _ _ (List.all_eq_true.mp h.2 x hx') h.1]
        exact q
      · cases e
    · rename_i ys
      have e : (if (d.dat 0 && ys.all (D.dat 0)) = true then R.ok (!inV' d ys) else .bad) = R.ok k := by simpa only [cmpV] using e
      split at e
      · rename_i h
        cases e
        rw [Bool.and_eq_true] at h
        obtain ⟨p, vs, rfl, h1, _, h2⟩ := hy.tup
        have hx' : ∀ n, Rep G (cl F n) H d v := fun n => Rep.imm (P := cl F f.n) (fun a _ p _ => cl_obj p) d v (by cases d <;> simp [D.dat] at h <;> rfl) (hx.clean (by rintro _ rfl; simp [D.dat] at h) (by rintro _ rfl; simp [D.dat] at h))
        refine .inr (.inl ⟨p, vs, rfl, .inr (SqT.of h1), flat_of h.1 (hx' false), flats_of h.2 h2, ?_⟩)
        rw [if_pos rfl, flats_in h.1 (hx' f'.n) h.2 h2]
        exact q
      · cases e
    · rename_i kvs
      cases d <;> simp only [cmpV] at e <;> cases e
      obtain ⟨p, ws, rfl, h1, h2, h3⟩ := hy.dic
      rename_i i
      have hl := h3.look (k := i)
      refine .inr (.inr ⟨p, valV ws (.inl i), rfl, by rw [hx.int]; exact DGet.k (k := Sum.inl i) h1, ?_⟩)
      cases e : kvs.lookup i with
      | none => rw [e] at hl q; rw [hl]; exact q
      | some d => rw [e] at hl q; obtain ⟨w, hl, _⟩ := hl; rw [hl]; exact q
theorem ve_cmp {op : CmpOp} (hK : X.K = G.K) (hu : X.A.units + 65 < cLine) (hm : behindInMarks op b = false) (ha : PE X a (tP T C G Y ea)) (hb : PE X b (tP T C G Y eb)) : PE X (.Compare a [op] [b] pos) (tP T C G Y (.cmp op ea eb)) := by
  refine PE_weak (pe_cmpR (op_cmp hu op) ha hb hm) fun σ H Q ⟨F, E, S, h⟩ => ?_
  simp only [ev] at h
  refine tP_bind S h fun x v H1 P1 S1 h1 => tP_bind S1 h1 fun y u H2 P2 S2 h2 => ?_
  rw [R.sat_bind] at h2
  obtain ⟨k, e, q⟩ := sat_of h2 (cmp_ne op _ _)
  rw [hK]
  exact cmV op F H2 x y v u k Q (P1.val.same P2.same) P2.val e (q _ _ (Post.trans (P1.same.trans P2.same) Post.bl))
theorem vt_cmp {op : CmpOp} (hK : X.K = G.K) (hu : X.A.units + 65 < cLine) (hm : behindInMarks op b = false) (ha : PE X a (tP T C G Y ea)) (hb : PE X b (tP T C G Y eb)) : PT X (.Compare a [op] [b] pos) (tT T C G Y (.cmp op ea eb)) := by
  refine PT_weak (pt_cmpR (op_cmp hu op) ha hb hm) fun σ H Q ⟨F, E, S, h⟩ => ?_
  simp only [ev] at h
  show tP T C G Y ea σ H fun x H1 => tP T C G Y eb σ H1 fun y H2 => rCmp X.K op x y H2 fun x H' => ∃ k, x = .bl k ∧ Q k H'
  refine tP_bind S h fun x v H1 P1 S1 h1 => tP_bind S1 h1 fun y u H2 P2 S2 h2 => ?_
  rw [R.sat_bind] at h2
  obtain ⟨k, e, k', e', q⟩ := sat_of h2 (cmp_ne op _ _)
  simp only [mkI, D.bl.injEq] at e'
  subst e'
  rw [hK]
  exact cmV op F H2 x y v u k _ (P1.val.same P2.same) P2.val e ⟨k, rfl, q _ (P1.same.trans P2.same)⟩
end
end FS

/-! FS5: arguments, displays, builtins, items, attributes. -/
namespace FS
open PySem L2

/-! ### syntax without surprises -/
def notStar : Expr → Bool
  | .Starred _ _ => false
  | _ => true
theorem star_cons {e : Expr} {es : List Expr} {env : PySem.Env} (h : notStar e = true) : starEach (e :: es) env = (false, eval e env) :: starEach es env := by
  cases e <;> first | rfl | cases h
theorem star_any {pos : Pos} {env : PySem.Env} : ∀ {es : List Expr}, es.all notStar = true → (backTo pos (starEach es env)).any (·.1) = false
  | [], _ => rfl
  | e :: es, h => by
    simp only [List.all_cons, Bool.and_eq_true] at h
    rw [star_cons h.1]
    show (false || (backTo pos (starEach es env)).any (·.1)) = false
    rw [star_any h.2]
    rfl
def attrPlain : Expr → Bool
  | .Call (.Name _ _) [] [] _ => false
  | _ => true
theorem attr_base {o : Expr} {f : Str} {env : PySem.Env} {whole : Sem Value} (h : attrPlain o = true) : attributeBase o f env whole = whole := by
  unfold attributeBase
  split
  · simp [attrPlain] at h
  · rfl
def notSlice : Expr → Bool
  | .Slice _ _ _ _ => false
  | _ => true
theorem plain_ix {b : Expr} (h : notSlice b = true) : PlainIx b := by
  intro o i
  cases b <;> first | rfl | cases h

section
variable {T : Tb} {C : Fid → List D → R (D × Bool)} {G : GT} {Y : XK} {X : Cx} {a b c o i e : Expr} {ea eb ec eo ei ee : Ex} {es : List Expr} {ees : Exs} {pos : Pos}

/-! ### arguments -/
abbrev Vals' (G : GT) (F : Fr) (H : Hp) (vs : List V) (xs : List (D × Fl)) : Prop := Paired (fun v x => Val G F H x v) vs xs
theorem Vals'.same {F : Fr} {H H' : Hp} (s : Same H H') : ∀ {vs : List V} {xs : List (D × Fl)}, Vals' G F H vs xs → Vals' G F H' vs xs
  | _, _, .nil => .nil
  | _, _, .cons r t => .cons (r.same s) (Vals'.same s t)
theorem va_nil : PA X [] (tA T C G Y .nil) := PA_weak pa_nil fun σ H Q ⟨F, E, S, h⟩ => h [] H (Same.refl _) .nil
theorem va_cons (hs : notStar e = true) (ha : PE X e (tP T C G Y ee)) (hr : PA X es (tA T C G Y ees)) : PA X (e :: es) (tA T C G Y (.cons ee ees)) := by
  refine PA_weak (pa_cons ha hr (star_cons hs)) fun σ H Q ⟨F, E, S, h⟩ => ?_
  simp only [evl] at h
  show tP T C G Y ee σ H fun x H1 => tA T C G Y ees σ H1 fun xs H2 => Q (x :: xs) H2
  refine tP_bind S h fun x v H1 P1 S1 h1 => ?_
  rw [R.sat_bind] at h1
  exact ⟨F, E, S1, R.sat_mono h1 (fun xs q vs H2 s2 p => q (v :: vs) H2 (P1.same.trans s2) (.cons (P1.val.same s2) p)) fun c z => z⟩
/-- a list of arguments, then something -/
theorem tA_bind {σ : St} {H : Hp} {F : Fr} {E : SEnv} {β : Type} {f : List (D × Fl) → R β} {p : β → Prop} (S : Sim G F E σ H) (h : ((evl T C ees E).bind f).sat p (wish G Y H)) {Q : List V → Hp → Prop}
    (k : ∀ xs vs H', Same H H' → Vals' G F H' vs xs → Sim G F E σ H' → (f xs).sat p (wish G Y H') → Q vs H') : tA T C G Y ees σ H Q := by
  rw [R.sat_bind] at h
  exact ⟨F, E, S, R.sat_mono h (fun xs q vs H' s r => k xs vs H' s r (S.same s) (R.sat_mono q (fun _ z => z) fun c z => z.same s)) fun c z => z⟩
theorem cmb_reps {F : Fr} {H : Hp} : ∀ {xs : List (D × Fl)} {vs : List V}, Vals' G F H vs xs → (cmb xs).2.c = true → Reps G (cl F (cmb xs).2.n) H (cmb xs).1 vs
  | [], _, .nil, _ => by simp [cmb, Reps]
  | x :: xs, _, .cons r t, h => by
    simp only [cmb, Bool.and_eq_true] at h
    simp only [cmb, Reps]
    refine ⟨_, _, rfl, ?_, (cmb_reps t h.2).weak (cl_le (fun e => (Bool.and_eq_true_iff.mp e).2))⟩
    have := r.rep h.1
    exact (Rep.orI this).weak (cl_le (fun e => (Bool.and_eq_true_iff.mp e).1))
theorem cmb_len : ∀ xs : List (D × Fl), (cmb xs).1.length = xs.length
  | [] => rfl
  | x :: xs => by simp [cmb, cmb_len xs]
theorem Vals'.length {F : Fr} {H : Hp} : ∀ {vs : List V} {xs : List (D × Fl)}, Vals' G F H vs xs → vs.length = xs.length
  | _, _, .nil => rfl
  | _, _, .cons _ t => by simp [Vals'.length t]
def exsLen : Exs → Nat
  | .nil => 0
  | .cons _ es => exsLen es + 1
theorem evl_len {E : SEnv} : ∀ {es : Exs} {xs : List (D × Fl)}, evl T C es E = .ok xs → xs.length = exsLen es
  | .nil, xs, h => by simp only [evl, R.ok.injEq] at h; subst h; rfl
  | .cons e es, xs, h => by
    simp only [evl] at h
    cases h1 : ev T C e E with
    | ok x =>
      rw [h1] at h
      simp only [R.bind] at h
      cases h2 : evl T C es E with
      | ok ys =>
        rw [h2] at h
        simp only [R.ok.injEq] at h
        subst h
        simp [exsLen, evl_len h2]
      | exc c => rw [h2] at h; cases h
      | bad => rw [h2] at h; cases h
    | exc c => rw [h1] at h; cases h
    | bad => rw [h1] at h; cases h
theorem sat_known {α : Type} {r : R α} {p : α → Prop} {w : Str → Prop} (h : r.sat p w) : r.sat (fun a => p a ∧ r = .ok a) w := by
  cases r with
  | ok a => exact ⟨h, rfl⟩
  | exc c => exact h
  | bad => exact h

/-! ### displays -/
theorem ve_lst (hn : exsLen ees ≤ lim) (ha : PA X es (tA T C G Y ees)) : PE X (.List es pos) (tP T C G Y (.lst ees)) := by
  refine PE_weak (pe_lst ha) fun σ H Q ⟨F, E, S, h⟩ => ?_
  simp only [ev] at h
  rw [R.sat_bind] at h
  have h := sat_known h
  refine ⟨F, E, S, R.sat_mono h (fun xs ⟨q, e⟩ vs H1 s1 r => ?_) fun c z => z⟩
  split at q
  · rename_i hc
    have l1 := r.length
    have l2 := evl_len e
    have ll := lim_line
    refine ⟨by omega, fun p hp => q _ _ (Post.trans s1 (Post.list (S.same s1) hp (by omega) (cmb_reps r hc)))⟩
  · exact q.elim
theorem ve_tup {k : Nat} (hn : exsLen ees ≤ lim) (ha : PA X es (tA T C G Y ees)) : PE X (.Tuple es k pos) (tP T C G Y (.tup ees)) := by
  refine PE_weak (pe_tup ha) fun σ H Q ⟨F, E, S, h⟩ => ?_
  simp only [ev] at h
  rw [R.sat_bind] at h
  have h := sat_known h
  refine ⟨F, E, S, R.sat_mono h (fun xs ⟨q, e⟩ vs H1 s1 r => ?_) fun c z => z⟩
  split at q
  · rename_i hc
    have l1 := r.length
    have l2 := evl_len e
    have ll := lim_line
    refine ⟨by omega, fun p hp => q _ _ (Post.trans s1 (Post.tupl hp (by omega) (cmb_reps r hc)))⟩
  · exact q.elim

/-! ### builtins by their values -/
def BiV (T : Tb) (G : GT) (r : List V → Hp → VK → Prop) (b : Bi) : Prop := ∀ (F : Fr) (E : SEnv) (σ : St) (H : Hp) (xs : List (D × Fl)) (vs : List V) (z : D × Fl) (Q : VK), Sim G F E σ H → Vals' G F H vs xs → biV T b xs = .ok z → (∀ w H', Post G F H H' z w → Q w H') → r vs H Q
theorem bi_ne (b : Bi) (xs : List (D × Fl)) (c : Str) : biV T b xs ≠ .exc c := by
  intro e
  unfold biV at e
  split at e
  · unfold bi1 at e
    split at e <;> first | cases e | (split at e <;> first | cases e | (split at e <;> cases e))
  · unfold bi2 at e
    split at e <;> first | cases e | (split at e <;> first | cases e | (split at e <;> cases e))
  · cases e
theorem ve_biB {b : Bi} {x : Str} {id : String} {p : Pos} {r : List V → Hp → VK → Prop} (hc : CallR X (.builtin id) r) (hv : BiV T G r b) (hg : L2.Gl X x) (hm : X.mg x = none) (hb : bootBuiltins x = some (.builtin id)) (hn : x ≠ "__name__") (hd : (x == ("__debug__" : Str)) = false)
    (hs : (e :: es).all notStar = true) (ha : PA X (e :: es) (tA T C G Y ees)) : PE X (.Call (.Name x p) (e :: es) [] pos) (tP T C G Y (.bi b ees)) := by
  rw [List.all_cons, Bool.and_eq_true] at hs
  refine PE_weak (pe_callB hc hg hm hb ha hn hd (star_cons hs.1) (star_any hs.2)) fun σ H Q ⟨F, E, S, h⟩ => ?_
  simp only [ev] at h
  refine tA_bind S h fun xs vs H1 s1 r1 S1 h1 => ?_
  obtain ⟨z, e, q⟩ := sat_of h1 (bi_ne b xs)
  exact hv F E σ H1 xs vs z Q S1 r1 e fun w H' P => q w H' (Post.trans s1 P)
theorem ve_biT {b : Bi} {x : Str} {id : String} {p : Pos} {r : List V → Hp → VK → Prop} (hc : CallR X (.type id) r) (hv : BiV T G r b) (hg : L2.Gl X x) (hm : X.mg x = none) (hb : bootBuiltins x = some (.type id)) (hn : x ≠ "__name__") (hd : (x == ("__debug__" : Str)) = false)
    (hs : (e :: es).all notStar = true) (ha : PA X (e :: es) (tA T C G Y ees)) : PE X (.Call (.Name x p) (e :: es) [] pos) (tP T C G Y (.bi b ees)) := by
  rw [List.all_cons, Bool.and_eq_true] at hs
  refine PE_weak (pe_callTy hc hg hm hb ha hn hd (star_cons hs.1) (star_any hs.2)) fun σ H Q ⟨F, E, S, h⟩ => ?_
  simp only [ev] at h
  refine tA_bind S h fun xs vs H1 s1 r1 S1 h1 => ?_
  obtain ⟨z, e, q⟩ := sat_of h1 (bi_ne b xs)
  exact hv F E σ H1 xs vs z Q S1 r1 e fun w H' P => q w H' (Post.trans s1 P)
/-- one argument -/
theorem BiV1 {r : List V → Hp → VK → Prop} {b : Bi} (hb : ∀ x y z, bi2 b x y ≠ .ok z)
    (h : ∀ (F : Fr) (E : SEnv) (σ : St) (H : Hp) (d : D) (f : Fl) (v : V) (z : D × Fl) (Q : VK), Sim G F E σ H → Val G F H (d, f) v → bi1 T b d f = .ok z → (∀ w H', Post G F H H' z w → Q w H') → r [v] H Q) : BiV T G r b := by
  intro F E σ H xs vs z Q S hx e k
  unfold biV at e
  split at e
  · cases hx with
    | cons r t =>
      cases t
      exact h F E σ H _ _ _ z Q S r e k
  · exact absurd e (hb _ _ _)
  · cases e
theorem BiV2 {r : List V → Hp → VK → Prop} {b : Bi} (hb : ∀ x f z, bi1 T b x f ≠ .ok z)
    (h : ∀ (F : Fr) (E : SEnv) (σ : St) (H : Hp) (d d' : D) (f f' : Fl) (v v' : V) (z : D × Fl) (Q : VK), Sim G F E σ H → Val G F H (d, f) v → Val G F H (d', f') v' → bi2 b d d' = .ok z → (∀ w H', Post G F H H' z w → Q w H') → r [v, v'] H Q) : BiV T G r b := by
  intro F E σ H xs vs z Q S hx e k
  unfold biV at e
  split at e
  · exact absurd e (hb _ _ _)
  · cases hx with
    | cons r t =>
      cases t with
      | cons r' t =>
        cases t
        exact h F E σ H _ _ _ _ _ _ z Q S r r' e k
  · cases e
def rLen (K : PySem.W.Frag) : List V → Hp → VK → Prop := fun xs H Q => (∃ p ys, xs = [.ref p] ∧ (SqL K H p ys ∨ SqT K H p ys) ∧ Q (.int ys.length) H) ∨ (∃ z, xs = [.str z] ∧ z.length ≤ sizeLine ∧ Q (.int z.length) H)
theorem call_lenV : CallR X (.builtin "len") (rLen X.K) := call_len_seq.or call_len_str
theorem biV_len : BiV T G (rLen G.K) .len := by
  refine BiV1 (fun x y z e => by simp [bi2] at e) fun F E σ H d f v z Q S hx e k => ?_
  cases d <;> simp only [bi1] at e <;> first | cases e | skip
  · split at e
    · rename_i h
      cases e
      exact .inr ⟨_, by rw [hx.str], Nat.le_trans h lim_line, k _ _ Post.int⟩
    · cases e
  · obtain ⟨a, rfl, h1⟩ := hx.scr
    refine .inl ⟨a, _, rfl, .inl h1.sql, ?_⟩
    rw [List.length_map]
    exact k _ _ Post.int
  · obtain ⟨a, vs, rfl, h1, _, h3⟩ := hx.lst
    refine .inl ⟨a, _, rfl, .inl (SqL.of h1), ?_⟩
    rw [h3.length]
    exact k _ _ Post.int
  · obtain ⟨a, vs, rfl, h1, _, h3⟩ := hx.tup
    refine .inl ⟨a, _, rfl, .inr (SqT.of h1), ?_⟩
    rw [h3.length]
    exact k _ _ Post.int
end
end FS

/-! FS6: more builtins, items, attributes, slices. -/
namespace FS
open PySem L2

section
variable {T : Tb} {C : Fid → List D → R (D × Bool)} {G : GT} {Y : XK} {X : Cx} {a b c o i e : Expr} {ea eb ec eo ei ee : Ex} {es : List Expr} {ees : Exs} {pos : Pos}
theorem biV_list : BiV T G (fun xs H Q => ∃ p ys, xs = [.ref p] ∧ (SqL G.K H p ys ∨ SqT G.K H p ys) ∧ ∀ l, H l = none → Q (.ref l) (upd H l (.lst ys))) .list := by
  refine BiV1 (fun x y z e => by simp [bi2] at e) fun F E σ H d f v z Q S hx e k => ?_
  cases d <;> simp only [bi1] at e <;> cases e
  · obtain ⟨a, vs, rfl, h1, h2, h3⟩ := hx.lst
    exact ⟨a, _, rfl, .inl (SqL.of h1), fun l hl => k _ _ (Post.list S hl h2 h3)⟩
  · obtain ⟨a, vs, rfl, h1, h2, h3⟩ := hx.tup
    exact ⟨a, _, rfl, .inr (SqT.of h1), fun l hl => k _ _ (Post.list S hl h2 h3)⟩
theorem biV_tuple : BiV T G (fun xs H Q => ∃ p ys, xs = [.ref p] ∧ ((SqL G.K H p ys ∧ ∀ l, H l = none → Q (.ref l) (upd H l (.tup ys))) ∨ (SqT G.K H p ys ∧ Q (.ref p) H))) .tuple := by
  refine BiV1 (fun x y z e => by simp [bi2] at e) fun F E σ H d f v z Q S hx e k => ?_
  cases d <;> simp only [bi1] at e <;> cases e
  · obtain ⟨a, vs, rfl, h1, h2, h3⟩ := hx.lst
    exact ⟨a, _, rfl, .inl ⟨SqL.of h1, fun l hl => k _ _ (Post.tupl hl h2 h3.orI)⟩⟩
  · have hc := hx.clean (by intro _ e; cases e) (by intro _ e; cases e)
    obtain ⟨a, vs, rfl, h1, h2, h3⟩ := hx.tup
    exact ⟨a, _, rfl, .inr ⟨SqT.of h1, k _ _ ⟨Same.refl _, hc, fun e => by cases e⟩⟩⟩
theorem biV_all : BiV T G (rAll G.K) .all := by
  refine BiV1 (fun x y z e => by simp [bi2] at e) fun F E σ H d f v z Q S hx e k => ?_
  cases d <;> simp only [bi1] at e <;> first | cases e | skip
  obtain ⟨a, vs, rfl, h1, h2, h3⟩ := hx.lst
  split at e
  · rename_i bs hb
    cases e
    obtain ⟨rfl, rfl⟩ := h3.bls hb
    exact ⟨a, bs, rfl, SqL.of h1, k _ _ Post.bl⟩
  · cases e
theorem biV_any : BiV T G (rAny G.K) .any := by
  refine BiV1 (fun x y z e => by simp [bi2] at e) fun F E σ H d f v z Q S hx e k => ?_
  cases d <;> simp only [bi1] at e <;> first | cases e | skip
  obtain ⟨a, vs, rfl, h1, h2, h3⟩ := hx.lst
  split at e
  · rename_i bs hb
    cases e
    obtain ⟨rfl, rfl⟩ := h3.bls hb
    exact ⟨a, bs, rfl, SqL.of h1, k _ _ Post.bl⟩
  · cases e
theorem biV_sum : BiV T G (rSum G.K) .sum := by
  refine BiV1 (fun x y z e => by simp [bi2] at e) fun F E σ H d f v z Q S hx e k => ?_
  cases d <;> simp only [bi1] at e <;> first | cases e | skip
  obtain ⟨a, vs, rfl, h1, h2, h3⟩ := hx.lst
  split at e
  · rename_i bs hb
    cases e
    obtain ⟨rfl, rfl⟩ := h3.ints hb
    exact ⟨a, bs, rfl, SqL.of h1, k _ _ Post.int⟩
  · cases e
theorem maxL_is : ∀ {ns : List Int} {m : Int}, m ∈ ns → (∀ y ∈ ns, y ≤ m) → maxL ns = m
  | [x], m, h, _ => by simp at h; subst h; rfl
  | x :: y :: r, m, h, k => by
    have hx := k x List.mem_cons_self
    by_cases hm : m ∈ y :: r
    · have ih := maxL_is hm fun z hz => k z (List.mem_cons_of_mem _ hz)
      show (if maxL (y :: r) > x then maxL (y :: r) else x) = m
      rw [ih]
      split
      · rfl
      · omega
    · have e : m = x := by
        rcases List.mem_cons.mp h with h | h
        · exact h
        · exact absurd h hm
      subst e
      show (if maxL (y :: r) > m then maxL (y :: r) else m) = m
      have : maxL (y :: r) ∈ y :: r := by
        clear h hx hm k
        induction r generalizing y with
        | nil => exact List.mem_cons_self
        | cons z r ih =>
          show (if maxL (z :: r) > y then maxL (z :: r) else y) ∈ _
          split
          · exact List.mem_cons_of_mem _ (ih z)
          · exact List.mem_cons_self
      have := k _ (List.mem_cons_of_mem _ this)
      rw [if_neg (by omega)]
theorem minL_is : ∀ {ns : List Int} {m : Int}, m ∈ ns → (∀ y ∈ ns, m ≤ y) → minL ns = m
  | [x], m, h, _ => by simp at h; subst h; rfl
  | x :: y :: r, m, h, k => by
    have hx := k x List.mem_cons_self
    by_cases hm : m ∈ y :: r
    · have ih := minL_is hm fun z hz => k z (List.mem_cons_of_mem _ hz)
      show (if minL (y :: r) < x then minL (y :: r) else x) = m
      rw [ih]
      split
      · rfl
      · omega
    · have e : m = x := by
        rcases List.mem_cons.mp h with h | h
        · exact h
        · exact absurd h hm
      subst e
      show (if minL (y :: r) < m then minL (y :: r) else m) = m
      have : minL (y :: r) ∈ y :: r := by
        clear h hx hm k
        induction r generalizing y with
        | nil => exact List.mem_cons_self
        | cons z r ih =>
          show (if minL (z :: r) < y then minL (z :: r) else y) ∈ _
          split
          · exact List.mem_cons_of_mem _ (ih z)
          · exact List.mem_cons_self
      have := k _ (List.mem_cons_of_mem _ this)
      rw [if_neg (by omega)]
def rMax2 (K : PySem.W.Frag) : List V → Hp → VK → Prop := fun xs H Q => rMax K xs H Q ∨ ∃ i j, xs = [.int i, .int j] ∧ Q (.int (if j > i then j else i)) H
def rMin2 (K : PySem.W.Frag) : List V → Hp → VK → Prop := fun xs H Q => rMin K xs H Q ∨ ∃ i j, xs = [.int i, .int j] ∧ Q (.int (if j < i then j else i)) H
theorem call_maxV (hc : X.calm = true) : CallR X (.builtin "max") (rMax2 X.K) := (cr_max hc).or (call_max2 hc)
theorem call_minV (hc : X.calm = true) : CallR X (.builtin "min") (rMin2 X.K) := (cr_min hc).or (call_min2 hc)
theorem biV_max : BiV T G (rMax2 G.K) .max := by
  intro F E σ H xs vs z Q S hx e k
  unfold biV at e
  split at e
  · cases hx with
    | cons r t =>
      cases t
      rename_i x v
      obtain ⟨d, f⟩ := x
      cases d <;> simp only [bi1] at e <;> first | cases e | skip
      obtain ⟨a, vs, rfl, h1, h2, h3⟩ := Val.lst r
      split at e
      · rename_i bs hb
        obtain ⟨rfl, rfl⟩ := h3.ints hb
        split at e
        · cases e
        · rename_i hne
          cases e
          refine .inl ⟨a, bs, rfl, SqL.of h1, List.length_pos_iff.mpr hne, fun m hm hle => ?_⟩
          rw [← maxL_is hm hle]
          exact k _ _ Post.int
      · cases e
  · cases hx with
    | cons r t =>
      cases t with
      | cons r' t =>
        cases t
        rename_i x y v v'
        obtain ⟨d, f⟩ := x
        obtain ⟨d', f'⟩ := y
        cases d <;> cases d' <;> simp only [bi2] at e <;> first | cases e | skip
        exact .inr ⟨_, _, by rw [Val.int r, Val.int r'], k _ _ Post.int⟩
  · cases e
theorem biV_min : BiV T G (rMin2 G.K) .min := by
  intro F E σ H xs vs z Q S hx e k
  unfold biV at e
  split at e
  · cases hx with
    | cons r t =>
      cases t
      rename_i x v
      obtain ⟨d, f⟩ := x
      cases d <;> simp only [bi1] at e <;> first | cases e | skip
      obtain ⟨a, vs, rfl, h1, h2, h3⟩ := Val.lst r
      split at e
      · rename_i bs hb
        obtain ⟨rfl, rfl⟩ := h3.ints hb
        split at e
        · cases e
        · rename_i hne
          cases e
          refine .inl ⟨a, bs, rfl, SqL.of h1, List.length_pos_iff.mpr hne, fun m hm hle => ?_⟩
          rw [← minL_is hm hle]
          exact k _ _ Post.int
      · cases e
  · cases hx with
    | cons r t =>
      cases t with
      | cons r' t =>
        cases t
        rename_i x y v v'
        obtain ⟨d, f⟩ := x
        obtain ⟨d', f'⟩ := y
        cases d <;> cases d' <;> simp only [bi2] at e <;> first | cases e | skip
        exact .inr ⟨_, _, by rw [Val.int r, Val.int r'], k _ _ Post.int⟩
  · cases e
/-! ### the insertion sort of the value level -/
theorem ins_perm {α : Type} (le : α → α → Bool) (x : α) : ∀ l : List α, (insSort.ins le x l).Perm (x :: l)
  | [] => List.Perm.refl _
  | y :: ys => by
    unfold insSort.ins
    split
    · exact List.Perm.refl _
    · exact ((ins_perm le x ys).cons y).trans (List.Perm.swap x y ys)
theorem insSort_perm {α : Type} (le : α → α → Bool) : ∀ l : List α, (insSort le l).Perm l
  | [] => List.Perm.refl _
  | x :: xs => by
    unfold insSort
    exact (ins_perm le x _).trans ((insSort_perm le xs).cons x)
theorem ins_sorted {α : Type} {le : α → α → Bool} (ht : ∀ a b c, le a b = true → le b c = true → le a c = true) (hl : ∀ a b, le a b = true ∨ le b a = true) (x : α) : ∀ {l : List α}, l.Pairwise (fun a b => le a b = true) → (insSort.ins le x l).Pairwise (fun a b => le a b = true)
  | [], _ => by simp [insSort.ins]
  | y :: ys, h => by
    unfold insSort.ins
    obtain ⟨h1, h2⟩ := List.pairwise_cons.mp h
    split
    · rename_i hxy
      exact List.pairwise_cons.mpr ⟨fun z hz => by
        rcases List.mem_cons.mp hz with rfl | hz
        · exact hxy
        · exact ht _ _ _ hxy (h1 z hz), h⟩
    · rename_i hxy
      refine List.pairwise_cons.mpr ⟨fun z hz => ?_, ins_sorted ht hl x h2⟩
      rcases List.mem_cons.mp ((ins_perm le x ys).mem_iff.mp hz) with rfl | hz
      · rcases hl z y with q | q
        · exact absurd q hxy
        · exact q
      · exact h1 z hz
theorem insSort_sorted {α : Type} {le : α → α → Bool} (ht : ∀ a b c, le a b = true → le b c = true → le a c = true) (hl : ∀ a b, le a b = true ∨ le b a = true) : ∀ l : List α, (insSort le l).Pairwise (fun a b => le a b = true)
  | [] => List.Pairwise.nil
  | x :: xs => ins_sorted ht hl x (insSort_sorted ht hl xs)
def leI (a b : Int) : Bool := decide (a ≤ b)
theorem sortI_is {ns ms : List Int} (hp : ms.Perm ns) (hs : ms.Pairwise (· ≤ ·)) : insSort (fun a b => decide (a ≤ b)) ns = ms := by
  refine PySem.W.ksm_same ((insSort_perm _ ns).trans hp.symm) ?_ hs
  have := insSort_sorted (le := fun (a b : Int) => decide (a ≤ b)) (fun a b c h1 h2 => by simp at *; omega) (fun a b => by simp; omega) ns
  exact this.imp fun h => of_decide_eq_true h
theorem biV_sorted : BiV T G (rSortedI G.K) .sorted := by
  refine BiV1 (fun x y z e => by simp [bi2] at e) fun F E σ H d f v z Q S hx e k => ?_
  cases d <;> simp only [bi1] at e <;> first | cases e | skip
  obtain ⟨a, vs, rfl, h1, h2, h3⟩ := hx.lst
  split at e
  · rename_i bs hb
    cases e
    obtain ⟨rfl, rfl⟩ := h3.ints hb
    refine ⟨a, bs, rfl, SqL.of h1, fun ms p hp hs hn => k _ _ ?_⟩
    rw [sortI_is hp hs]
    have hl : (ms.map V.int).length ≤ sizeLine := by
      rw [List.length_map, hp.length_eq]
      simpa using h2
    have hr : Reps G (cl F true) H (ms.map D.int) (ms.map V.int) := Reps.of_ints ms
    exact Post.list S hn hl hr
  · cases e
theorem biV_count : BiV T G (fun xs H Q => ∃ x y, xs = [x, y] ∧ rCntI G.K x [y] H Q) .count := by
  refine BiV2 (fun x f z e => by simp [bi1] at e) fun F E σ H d d' f f' v v' z Q S hx hy e k => ?_
  cases d <;> cases d' <;> simp only [bi2] at e <;> first | cases e | skip
  obtain ⟨a, vs, rfl, h1, h2, h3⟩ := hx.lst
  split at e
  · rename_i bs hb
    cases e
    obtain ⟨rfl, rfl⟩ := h3.ints hb
    exact ⟨_, _, rfl, a, bs, _, rfl, by rw [hy.int], SqL.of h1, k _ _ Post.int⟩
  · cases e

/-! ### items -/
def rIxD : R2 := fun x y H Q => ∃ a v, x = .ref a ∧ DGet H a y (some v) ∧ Q v H
theorem ix_dict (hu : X.A.units + 1 < cLine) : IxR X rIxD := by
  intro value slice pins s σ H x y v u Q I rx ry h hs
  obtain ⟨p, z, rfl, g, q⟩ := h
  cases rx
  exact PyProof.Rows.tail_any (ops := [.ref p, u]) (dict_typeIs I g) PySem.F.slot_dict_getitem.lookup (d_getItem hu I g ry fun w' s3 I3 rw' => ⟨z, H, I3, rw', q⟩) hs
def rIxA (K : PySem.W.Frag) : R2 := fun x y H Q => rIxL K x y H Q ∨ rIxT K x y H Q ∨ rIxD x y H Q
theorem ix_all (hu : X.A.units + 1 < cLine) : IxR X (rIxA X.K) := ix_list.or (ix_tup.or (ix_dict hu))
theorem ixN_eq (n : Nat) (i : Int) : ixN' n i = ixN n i := rfl
theorem Reps.atI {P : Bool → Addr → Prop} {H : Hp} {ds : List D} {vs : List V} {i : Int} {d : D} (h : Reps G P H ds vs) (e : ((ixN' ds.length i).bind fun j => ds[j]?) = some d) : ∃ v, L2.atI vs i = some v ∧ Rep G P H d v := by
  unfold L2.atI
  rw [h.length, ← ixN_eq]
  cases q : ixN' ds.length i with
  | none => rw [q] at e; cases e
  | some j =>
    rw [q] at e
    exact h.get e
theorem opV_idx : OpV G (rIxA G.K) idxV := by
  rintro F E σ H ⟨d, f⟩ ⟨d', f'⟩ z v u Q S hx hy e k
  cases d <;> cases d' <;> simp only [idxV] at e <;> first | cases e | skip
  · rename_i ns j
    obtain ⟨a, rfl, h1⟩ := hx.scr
    split at e
    · rename_i w hw
      cases e
      refine .inl ⟨a, _, j, .int w, rfl, hy.int, h1.sql, ?_, k _ _ Post.int⟩
      unfold L2.atI
      rw [List.length_map, ← ixN_eq]
      cases q : ixN' ns.length j with
      | none => rw [q] at hw; cases hw
      | some m =>
        rw [q] at hw
        have hw : ns[m]? = some w := hw
        simp [hw]
    · cases e
  · obtain ⟨a, vs, rfl, h1, h2, h3⟩ := hx.lst
    split at e
    · rename_i w hw
      cases e
      obtain ⟨v, e1, e2⟩ := h3.atI hw
      exact .inl ⟨a, vs, _, v, rfl, hy.int, SqL.of h1, e1, k _ _ (Post.item e2)⟩
    · cases e
  · obtain ⟨a, vs, rfl, h1, h2, h3⟩ := hx.tup
    split at e
    · rename_i w hw
      cases e
      obtain ⟨v, e1, e2⟩ := h3.atI hw
      exact .inr (.inl ⟨a, vs, _, v, rfl, hy.int, SqT.of h1, e1, k _ _ (Post.item e2)⟩)
    · cases e
  · obtain ⟨a, ws, rfl, h1, h2, h3⟩ := hx.dic
    rename_i kvs i
    have hl := h3.look (k := i)
    split at e
    · rename_i w hw
      cases e
      rw [hw] at hl
      obtain ⟨v, e1, e2⟩ := hl
      refine .inr (.inr ⟨a, v, rfl, ?_, k _ _ (Post.item e2)⟩)
      rw [hy.int, ← e1]
      exact DGet.k (k := Sum.inl i) h1
    · cases e
theorem idx_ne : NoExc idxV := by
  rintro ⟨d, f⟩ ⟨d', f'⟩ c e
  unfold idxV at e
  split at e <;> first | cases e | (split at e <;> cases e)
theorem ve_idx (hK : X.K = G.K) (hu : X.A.units + 1 < cLine) (hs : notSlice i = true) (ho : PE X o (tP T C G Y eo)) (hi : PE X i (tP T C G Y ei)) : PE X (.Subscript o i pos) (tP T C G Y (.idx eo ei)) := by
  refine PE_weak (pe_ix (ix_all hu) ho hi (plain_ix hs)) fun σ H Q ⟨F, E, S, h⟩ => ?_
  rw [hK]
  exact two opV_idx idx_ne S (by simpa only [ev] using h)

/-! ### slices -/
theorem ve_rev {k : Nat} {p1 p2 p3 : Pos} (hK : X.K = G.K) (ho : PE X o (tP T C G Y eo)) : PE X (.Subscript o (.Slice none none (some (.UnaryOp .USub (.Constant (.int 1) k p1) p2)) p3) pos) (tP T C G Y (.rev eo)) := by
  refine PE_weak (pe_revL ho) fun σ H Q ⟨F, E, S, h⟩ => ?_
  simp only [ev] at h
  refine tP_bind S h fun x v H1 P1 S1 h1 => ?_
  obtain ⟨d, f⟩ := x
  cases d <;> simp only [revV] at h1 <;> first | exact h1.elim | skip
  obtain ⟨a, vs, rfl, q1, q2, q3⟩ := P1.val.lst
  refine ⟨a, vs, rfl, SqL.of q1, fun p hp => h1 _ _ (Post.trans P1.same (Post.list S1 hp (by simpa using q2) q3.reverse))⟩
theorem cut_reps {P : Bool → Addr → Prop} {H : Hp} {ds : List D} {vs : List V} (h : Reps G P H ds vs) (lo hi : Option Int) : Reps G P H (cutD ds lo hi) (cutV vs lo hi) := by
  unfold cutD cutV
  rw [h.length]
  exact (h.drop _).take _
theorem slc_core {F : Fr} {E : SEnv} {σ : St} {H : Hp} {f : Fl} {ds : List D} {v : V} {lo hi : Option Int} {Q : VK} (S : Sim G F E σ H) (hx : Val G F H (.lst ds, f) v) (k : ∀ w H', Post G F H H' (mkL (cutD ds lo hi) f.n) w → Q w H') : rSlL G.K v lo hi H Q := by
  obtain ⟨a, vs, rfl, q1, q2, q3⟩ := hx.lst
  refine ⟨a, vs, rfl, SqL.of q1, fun p hp => k _ _ (Post.list S hp (Nat.le_trans (cutV_length _ _ _) q2) (cut_reps q3 _ _))⟩
/-- xs[lo:] -/
theorem ve_slcL {lo : Expr} {elo : Ex} {p2 : Pos} (hK : X.K = G.K) (ho : PE X o (tP T C G Y eo)) (hl : PE X lo (tP T C G Y elo)) : PE X (.Subscript o (.Slice (some lo) none none p2) pos) (tP T C G Y (.slc eo elo (.con .non))) := by
  refine PE_weak (pe_slice sl_list ho (po_some hl) po_none) fun σ H Q ⟨F, E, S, h⟩ => ?_
  simp only [ev] at h
  rw [hK]
  show tP T C G Y eo σ H fun x H1 => tPart (tP T C G Y elo) σ H1 fun l H2 => rSlL G.K x l none H2 Q
  refine tP_bind S h fun x v H1 P1 S1 h1 => ?_
  show tP T C G Y elo σ H1 fun y H2 => ∃ i, y = .int i ∧ rSlL G.K v (some i) none H2 Q
  refine tP_bind S1 h1 fun y u H2 P2 S2 h2 => ?_
  obtain ⟨d, f⟩ := x
  obtain ⟨d', f'⟩ := y
  simp only [R.bind, mkI] at h2
  cases d <;> cases d' <;> simp only [slcV] at h2 <;> first | exact h2.elim | skip
  refine ⟨_, P2.val.int, slc_core S2 (P1.val.same P2.same) fun w H' P => h2 w H' (Post.trans (P1.same.trans P2.same) P)⟩
/-- xs[:hi] -/
theorem ve_slcH {hi : Expr} {ehi : Ex} {p2 : Pos} (hK : X.K = G.K) (ho : PE X o (tP T C G Y eo)) (hl : PE X hi (tP T C G Y ehi)) : PE X (.Subscript o (.Slice none (some hi) none p2) pos) (tP T C G Y (.slc eo (.con .non) ehi)) := by
  refine PE_weak (pe_slice sl_list ho po_none (po_some hl)) fun σ H Q ⟨F, E, S, h⟩ => ?_
  simp only [ev] at h
  rw [hK]
  show tP T C G Y eo σ H fun x H1 => tPart (tP T C G Y ehi) σ H1 fun l H2 => rSlL G.K x none l H2 Q
  refine tP_bind S h fun x v H1 P1 S1 h1 => ?_
  simp only [R.bind] at h1
  show tP T C G Y ehi σ H1 fun y H2 => ∃ i, y = .int i ∧ rSlL G.K v none (some i) H2 Q
  refine tP_bind S1 h1 fun y u H2 P2 S2 h2 => ?_
  obtain ⟨d, f⟩ := x
  obtain ⟨d', f'⟩ := y
  simp only [mkI] at h2
  cases d <;> cases d' <;> simp only [slcV] at h2 <;> first | exact h2.elim | skip
  refine ⟨_, P2.val.int, slc_core S2 (P1.val.same P2.same) fun w H' P => h2 w H' (Post.trans (P1.same.trans P2.same) P)⟩

/-! ### attributes -/
theorem ve_att {f : Str} (hK : X.K = G.K) (hcl : ∀ c C, G.cls c = some C → Cls G.K C ∧ NoAttr G.K C f) (hp : attrPlain o = true) (ho : PE X o (tP T C G Y eo)) : PE X (.Attribute o f pos) (tP T C G Y (.att eo f)) := by
  refine PE_weak (pe_fld ho (attr_base hp)) fun σ H Q ⟨F, E, S, h⟩ => ?_
  simp only [ev] at h
  rw [hK]
  refine tP_bind S h fun x v H1 P1 S1 h1 => ?_
  obtain ⟨d, fl⟩ := x
  cases d <;> simp only [attV] at h1 <;> first | exact h1.elim | skip
  have hc := P1.val.clean (by intro _ e; cases e) (by intro _ e; cases e)
  simp only [Rep] at hc
  obtain ⟨a, Ca, dx, ws, rfl, _, q1, q2, q3⟩ := hc
  split at h1
  · rename_i w hw
    obtain ⟨u, e1, e2⟩ := q3.look hw
    exact ⟨a, Ca, dx, ws, u, rfl, q1, (hcl _ _ q2).1, (hcl _ _ q2).2, e1, h1 _ _ (Post.trans P1.same (Post.item e2))⟩
  · exact h1.elim
end
end FS

/-! FS7: targets, what is walked, comprehensions, sets' lengths, isinstance, count. -/
namespace FS
open PySem L2

section
variable {T : Tb} {C : Fid → List D → R (D × Bool)} {G : GT} {Y : XK} {X : Cx} {a b c o i e : Expr} {ea eb ec eo ei ee : Ex} {es : List Expr} {ees : Exs} {pos : Pos}

/-! ### targets -/
/-- a slot that may be stored to -/
def NoLk (lk : List (Nat × Addr × List D × Bool)) (io : Option (Nat × V)) (i : Nat) : Prop := (∀ p ∈ lk, p.1 ≠ i) ∧ ∀ p ∈ io, p.1 ≠ i
theorem SimD.set {F : Fr} {E : SEnv} {σ : St} {H : Hp} {s : Option Slot} {v : V} (S : SimD G F E σ H) (i : Nat) (hl : NoLk F.lk F.io i) (h1 : ∀ d, s ≠ some (.dep d)) (h2 : ∀ c fs, s ≠ some (.slf c fs)) (h3 : ∀ d n, s = some (.own d n) → d.isL = true ∧ ∀ a, v = .ref a → ∀ j, ¬ F.ex.rg j a) : SimD G F (E.set i s) (σ.set i (some v)) H := by
  refine ⟨fun j d e => ?_, fun j c fs e => ?_, S.rgx, S.rgj, fun j k d n a e e2 => ?_, S.rgm, fun p hp => by rw [List.getElem?_set_ne (hl.2 p hp).symm]; exact S.io p hp, fun j k c c' fs fs' n e e2 => ?_, fun j c fs e => ?_, S.hk⟩
  · rw [List.getElem?_set] at e
    split at e
    · split at e
      · exact absurd (Option.some.inj e) (h1 d)
      · cases e
    · rename_i hij
      rw [List.getElem?_set_ne hij]
      exact S.slot j d e
  · rw [List.getElem?_set] at e
    split at e
    · split at e
      · exact absurd (Option.some.inj e) (h2 c fs)
      · cases e
    · rename_i hij
      rw [List.getElem?_set_ne hij]
      exact S.slf j c fs e
  · rw [List.getElem?_set] at e
    split at e
    · rename_i hij
      subst hij
      split at e
      · rw [List.getElem?_set] at e2
        simp only [if_true] at e2
        split at e2
        · exact (h3 d n (Option.some.inj e)).2 a (Option.some.inj (Option.some.inj e2)) k
        · cases e2
      · cases e
    · rename_i hij
      rw [List.getElem?_set_ne hij] at e2
      exact S.rgo j k d n a e e2
  · rw [List.getElem?_set] at e e2
    split at e
    · split at e
      · exact h2 c fs (Option.some.inj e)
      · cases e
    · split at e2
      · split at e2
        · exact absurd (h3 _ _ (Option.some.inj e2)).1 (by simp [D.isL])
        · cases e2
      · exact S.slo j k c c' fs fs' n e e2
  · rw [List.getElem?_set] at e
    split at e
    · split at e
      · exact absurd (Option.some.inj e) (h2 c fs)
      · cases e
    · exact S.sl0 j c fs e
theorem Sim.set {F : Fr} {E : SEnv} {σ : St} {H : Hp} {d : D} {v : V} {n : Bool} (S : Sim G F E σ H) (h : Rep G (cl F n) H d v) (i : Nat) (hl : NoLk F.lk F.io i) : Sim G F (E.set i (some (.shr d n))) (σ.set i (some v)) H := by
  refine ⟨by simp [S.len], S.ent, fun j s e => ?_, fun j k d d' n n' w hjk e1 e2 h1 h2 => ?_, S.pin, S.exH, fun p hp => by
    rw [List.getElem?_set_ne (hl.1 p hp).symm, List.getElem?_set_ne (hl.1 p hp).symm]
    exact S.lk p hp, S.dp.set i hl (fun d z => by cases z) (fun c fs z => by cases z) fun d n z => by cases z⟩
  · rw [List.getElem?_set] at e
    split at e
    · rename_i hij
      subst hij
      split at e
      · rename_i hl
        cases e
        exact ⟨v, by rw [List.getElem?_set_self (by rw [S.len]; exact hl)], h⟩
      · cases e
    · rename_i hij
      obtain ⟨w, e1, e2⟩ := S.slot j s e
      exact ⟨w, by rw [List.getElem?_set_ne hij]; exact e1, e2⟩
  · rw [List.getElem?_set] at e1 e2
    split at e1
    · split at e1 <;> cases e1
    · rename_i n1
      split at e2
      · split at e2 <;> cases e2
      · rename_i n2
        rw [List.getElem?_set_ne n1] at h1
        rw [List.getElem?_set_ne n2] at h2
        exact S.dis j k d d' n n' w hjk e1 e2 h1 h2
def tG (G : GT) (t : Tg) : TG := fun x σ H Q => ∃ F E d n, Sim G F E σ H ∧ (∀ j ∈ tgSlots t, NoLk F.lk F.io j) ∧ Rep G (cl F n) H d x ∧ ∃ E', tgV E t d n = .ok E' ∧ ∀ σ', Sim G F E' σ' H → (∀ vs, (∀ j ∈ tgSlots t, j ∈ vs) → wipe σ' vs = wipe σ vs) → Q σ' H
theorem PG_weak {X : Cx} {e : Expr} {t t' : TG} (h : PG X e t) (w : ∀ v σ H Q, t' v σ H Q → t v σ H Q) : PG X e t' := ⟨fun pins s σ H v u Q I r q => h.run pins s σ H v u Q I r (w v σ H Q q)⟩
theorem set_comm' {α : Type} {l : List α} {i j : Nat} {a b : α} : (l.set i a).set j b = if i = j then l.set j b else (l.set j b).set i a := by
  split
  · rename_i h; subst h; rw [List.set_set]
  · rename_i h; exact List.set_comm _ _ h
theorem wipe_set {σ : St} {i : Nat} {v : Option V} : ∀ {vs : List Nat}, i ∈ vs → wipe (σ.set i v) vs = wipe σ vs
  | x :: vs, h => by
    unfold wipe
    by_cases hi : i ∈ vs
    · rw [wipe_set hi]
    · have e : i = x := by
        rcases List.mem_cons.mp h with h | h
        · exact h
        · exact absurd h hi
      subst e
      have : ∀ vs : List Nat, i ∉ vs → wipe (σ.set i v) vs = (wipe σ vs).set i v := by
        intro vs
        induction vs with
        | nil => intro _; rfl
        | cons y ys ih =>
          intro hn
          have h1 : i ≠ y := fun z => hn (by rw [z]; exact List.mem_cons_self)
          have h2 : i ∉ ys := fun z => hn (List.mem_cons_of_mem _ z)
          show (wipe (σ.set i v) ys).set y none = ((wipe σ ys).set y none).set i v
          rw [ih h2, List.set_comm _ _ h1]
      rw [this vs hi, List.set_set]
theorem vg_name {i : Nat} {x : Str} (hN : X.N.Nodup) (hi : X.N[i]? = some x) (hx : Loc X.env.scope x) (hf : X.fn x = true ∨ X.env.scope.names.lookup x = some .local) : PG X (.Name x pos) (tG G (.nm i)) := by
  refine PG_weak (pg_name hN hi hx hf) fun v σ H Q => ?_
  rintro ⟨F, E, d, n, S, nl, r, E', e, k⟩
  simp only [tgV, R.ok.injEq] at e
  subst e
  exact k _ (S.set r i (nl _ (by simp [tgSlots]))) fun vs hv => wipe_set (hv i (by simp [tgSlots]))
theorem vg_tup2 {x y : Str} {px py : Pos} {k i j : Nat} (hK : X.K = G.K) (hc : X.calm = true) (hN : X.N.Nodup) (hi : X.N[i]? = some x) (hx : Loc X.env.scope x) (hf : X.fn x = true ∨ X.env.scope.names.lookup x = some .local)
    (hj : X.N[j]? = some y) (hy : Loc X.env.scope y) (hg : X.fn y = true ∨ X.env.scope.names.lookup y = some .local) : PG X (.Tuple [.Name x px, .Name y py] k pos) (tG G (.tp [i, j])) := by
  refine PG_weak (pg_tup (n := 2) hc (pgs_cons (pg_name hN hi hx hf) (pgs_cons (pg_name hN hj hy hg) pgs_nil))) fun v σ H Q => ?_
  rintro ⟨F, E, d, n, S, nl, r, E', e, k⟩
  cases d with
  | tup ds =>
    match ds, r, e with
    | [], r, e => simp [tgV] at e
    | [_], r, e => simp [tgV] at e
    | _ :: _ :: _ :: _, r, e => simp [tgV] at e
    | [d1, d2], r, e =>
      simp only [tgV, R.ok.injEq] at e
      subst e
      simp only [Rep, Reps] at r
      obtain ⟨p, vs, rfl, h1, _, v1, _, rfl, r1, v2, _, rfl, r2, rfl⟩ := r
      rw [hK]
      refine ⟨p, _, rfl, SqT.of h1, rfl, v1, _, rfl, v2, _, rfl, rfl, k _ ((S.set r1 i (nl _ (by simp [tgSlots]))).set r2 j (nl _ (by simp [tgSlots]))) fun vs hv => ?_⟩
      rw [wipe_set (hv j (by simp [tgSlots])), wipe_set (hv i (by simp [tgSlots]))]
  | _ => simp [tgV] at e

/-! ### what is walked -/
structure WalkV (G : GT) (J : L2.It) (ds : List D) (n : Bool) (kp : Fr → Hp → Prop) (rt : List Addr) : Prop where
  go : ∀ F H i, kp F H → i < ds.length → J.go i H
  yld : ∀ F H i x H' d, kp F H → ds[i]? = some d → J.yld i H x H' → Same H H' ∧ kp F H' ∧ Rep G (cl F n) H' d x
  stop : ∀ F H i, kp F H → ds.length ≤ i → J.stop i H
  len : ∀ F H, kp F H → ds.length ≤ sizeLine
  /-- it stands while nothing of it is changed -/
  st : ∀ F F' H H', kp F H → (∀ a o, H a = some o → (a ∈ rt ∨ immO o = true ∨ ∃ n k, cl F n k a) → H' a = some o) → (∀ n k a, cl F n k a → H a ≠ none → cl F' n k a) → kp F' H'
  rtH : ∀ F H a, kp F H → a ∈ rt → H a ≠ none
/-- what must be kept so that it stands -/
def PinsV (G : GT) (kp : Fr → Hp → Prop) (F : Fr) (H : Hp) (pins : List (D × V × Bool)) : Prop :=
  (∀ q ∈ pins, Rep G (cl F q.2.2) H q.1 q.2.1) ∧ ∀ F' H', (∀ q ∈ pins, Rep G (cl F' q.2.2) H' q.1 q.2.1) → kp F' H'
def tI (T : Tb) (C : Fid → List D → R (D × Bool)) (G : GT) (Y : XK) (it : It) : TI := fun σ H R => ∃ F E, Sim G F E σ H ∧ (evI T C it E).sat (fun p => ∀ J H' kp rt, Same H H' → WalkV G J p.1 p.2.1 kp rt → kp F H' → (p.2.2 = true → ∃ pins, PinsV G kp F H' pins) → R J H') (wish G Y H)
theorem PI_weak {X : Cx} {tg e : Expr} {t t' : TI} (h : PI X tg e t) (w : ∀ σ H Q, t' σ H Q → t σ H Q) : PI X tg e t' := ⟨fun pins s σ H R I q => h.run pins s σ H R I (w σ H R q)⟩
theorem cl_keep {F F' : Fr} {H H' : Hp} {n : Bool} (s : Same H H') (h : ∀ n k a, cl F n k a → H a ≠ none → cl F' n k a) : ∀ k a o, cl F n k a → H a = some o → cl F' n k a ∧ H' a = some o :=
  fun k a o p e => ⟨h n k a p (by rw [e]; simp), s a o e⟩
/-- a list -/
theorem walk_lst {K : PySem.W.Frag} {a : Addr} {ds : List D} {n : Bool} :
    WalkV G (Itl K a) ds n (fun F H => ∃ vs, H a = some (.lst vs) ∧ vs.length ≤ sizeLine ∧ Reps G (cl F n) H ds vs) [a] where
  go := fun F H i ⟨vs, h1, h2, h3⟩ hi => by
    obtain ⟨v, e, _⟩ := h3.get (List.getElem?_eq_getElem hi)
    exact ⟨vs, v, SqL.of h1, e⟩
  yld := fun F H i x H' d ⟨vs, h1, h2, h3⟩ hd ⟨e, y⟩ => by
    subst e
    obtain ⟨v, e1, e2⟩ := h3.get hd
    have := y vs (SqL.of h1)
    rw [e1] at this
    cases this
    exact ⟨Same.refl _, ⟨vs, h1, h2, h3⟩, e2⟩
  stop := fun F H i ⟨vs, h1, h2, h3⟩ hi => ⟨vs, SqL.of h1, by rw [h3.length]; exact hi⟩
  len := fun F H ⟨vs, h1, h2, h3⟩ => by rw [← h3.length]; exact h2
  st := fun F F' H H' ⟨vs, h1, h2, h3⟩ s hc => ⟨vs, s _ _ h1 (.inl (by simp)), h2, Reps.mono (fun k a o p e => ⟨hc _ k a p (by rw [e]; simp), s a o e (.inr (.inr ⟨_, k, p⟩))⟩) (fun a o im e => s a o e (.inr (.inl im))) _ _ h3⟩
  rtH := fun F H b ⟨vs, h1, _⟩ hb => by
    obtain rfl : b = a := by simpa using hb
    rw [h1]
    simp
theorem walk_tup {K : PySem.W.Frag} {a : Addr} {ds : List D} {n : Bool} :
    WalkV G (Itt K a) ds n (fun F H => ∃ vs, H a = some (.tup vs) ∧ vs.length ≤ sizeLine ∧ Reps G (cl F n) H ds vs) [a] where
  go := fun F H i ⟨vs, h1, h2, h3⟩ hi => by
    obtain ⟨v, e, _⟩ := h3.get (List.getElem?_eq_getElem hi)
    exact ⟨vs, v, SqT.of h1, e⟩
  yld := fun F H i x H' d ⟨vs, h1, h2, h3⟩ hd ⟨e, y⟩ => by
    subst e
    obtain ⟨v, e1, e2⟩ := h3.get hd
    have := y vs (SqT.of h1)
    rw [e1] at this
    cases this
    exact ⟨Same.refl _, ⟨vs, h1, h2, h3⟩, e2⟩
  stop := fun F H i ⟨vs, h1, h2, h3⟩ hi => ⟨vs, SqT.of h1, by rw [h3.length]; exact hi⟩
  len := fun F H ⟨vs, h1, h2, h3⟩ => by rw [← h3.length]; exact h2
  st := fun F F' H H' ⟨vs, h1, h2, h3⟩ s hc => ⟨vs, s _ _ h1 (.inl (by simp)), h2, Reps.mono (fun k a o p e => ⟨hc _ k a p (by rw [e]; simp), s a o e (.inr (.inr ⟨_, k, p⟩))⟩) (fun a o im e => s a o e (.inr (.inl im))) _ _ h3⟩
  rtH := fun F H b ⟨vs, h1, _⟩ hb => by
    obtain rfl : b = a := by simpa using hb
    rw [h1]
    simp
theorem walk_rng {lo : Int} {n : Nat} (hn : n ≤ sizeLine) : WalkV G (Itr lo n) ((List.range n).map fun (k : Nat) => D.int (lo + k)) true (fun _ _ => True) [] where
  go := fun F H i _ hi => by show i < n; simpa using hi
  yld := fun F H i x H' d _ hd ⟨e, y⟩ => by
    subst e
    refine ⟨Same.refl _, trivial, ?_⟩
    rw [List.getElem?_map] at hd
    cases h : (List.range n)[i]? with
    | none => rw [h] at hd; cases hd
    | some m =>
      rw [h] at hd
      cases hd
      obtain ⟨h1, h2⟩ := List.getElem?_eq_some_iff.mp h
      simp at h2
      subst h2
      simpa [Rep] using y
  stop := fun F H i _ hi => by show n ≤ i; simpa using hi
  len := fun F H _ => by simpa using hn
  st := fun _ _ _ _ _ _ _ => trivial
  rtH := fun _ _ _ _ h => by cases h
end
end FS

/-! FS8: walks over lists, tuples, ranges; comprehensions. -/
namespace FS
open PySem L2

section
variable {T : Tb} {C : Fid → List D → R (D × Bool)} {G : GT} {Y : XK} {X : Cx} {a b c o i e tg : Expr} {ea eb ec eo ei ee : Ex} {es : List Expr} {ees : Exs} {pos : Pos}
theorem PI_or {t t1 t2 : TI} (h1 : PI X tg e t1) (h2 : PI X tg e t2) (w : ∀ σ H R, t σ H R → t1 σ H R ∨ t2 σ H R) : PI X tg e t := ⟨fun pins s σ H R I q => by
  rcases w σ H R q with q | q
  · exact h1.run pins s σ H R I q
  · exact h2.run pins s σ H R I q⟩
theorem vi_seq (hK : X.K = G.K) (ha : PE X e (tP T C G Y ee)) : PI X tg e (tI T C G Y (.seq ee)) := by
  refine PI_or (pi_list ha) (pi_tup ha) fun σ H R => ?_
  rintro ⟨F, E, S, h⟩
  simp only [evI] at h
  rw [hK]
  cases q : ev T C ee E with
  | bad => rw [q] at h; exact h.elim
  | exc c =>
    rw [q] at h
    refine .inl ⟨F, E, S, ?_⟩
    rw [q]
    exact h
  | ok x =>
    rw [q] at h
    obtain ⟨d, f⟩ := x
    have h : (itV (d, f)).sat _ (wish G Y H) := h
    cases d with
    | lst ds =>
      simp only [itV] at h
      refine .inl ⟨F, E, S, ?_⟩
      rw [q]
      intro v H' P
      obtain ⟨a, vs, rfl, h1, h2, h3⟩ := P.val.lst
      refine ⟨a, rfl, ⟨vs, SqL.of h1⟩, h _ _ _ _ P.same walk_lst ⟨vs, h1, h2, h3⟩ fun hc => ?_⟩
      have hr := P.val.rep hc
      refine ⟨[(.lst ds, .ref a, f.n)], fun q hq => ?_, fun F' H2 hq => ?_⟩
      · obtain rfl : q = _ := by simpa using hq
        exact hr
      · have := hq _ List.mem_cons_self
        simp only [Rep] at this
        obtain ⟨a', vs', e, _, h1, h2, h3⟩ := this
        cases e
        exact ⟨vs', h1, h2, h3⟩
    | tup ds =>
      simp only [itV] at h
      refine .inr ⟨F, E, S, ?_⟩
      rw [q]
      intro v H' P
      have hr := P.val.clean (by intro _ e; cases e) (by intro _ e; cases e)
      obtain ⟨a, vs, rfl, h1, h2, h3⟩ := P.val.tup
      refine ⟨a, rfl, ⟨vs, SqT.of h1⟩, h _ _ _ _ P.same walk_tup ⟨vs, h1, h2, h3⟩ fun hc => ?_⟩
      refine ⟨[(.tup ds, .ref a, f.n)], fun q hq => ?_, fun F' H2 hq => ?_⟩
      · obtain rfl : q = _ := by simpa using hq
        exact hr
      · have := hq _ List.mem_cons_self
        simp only [Rep] at this
        obtain ⟨a', vs', e, h1, h2, h3⟩ := this
        cases e
        exact ⟨vs', h1, h2, h3⟩
    | _ => exact h.elim
theorem rng_ne (x y : D) (c : Str) : rngV x y ≠ .exc c := by
  intro e
  unfold rngV at e
  split at e <;> first | cases e | (split at e <;> cases e)
theorem PinsV.top {F : Fr} {H : Hp} : PinsV G (fun _ _ => True) F H [] := ⟨fun _ h => (nomatch h), fun _ _ _ => trivial⟩
theorem vi_rng1 {p : Pos} (hg : L2.Gl X "range") (hm : X.mg "range" = none) (hs : notStar b = true) (hb : PE X b (tP T C G Y eb)) : PI X tg (.Call (.Name "range" p) [b] [] pos) (tI T C G Y (.rng1 eb)) := by
  refine PI_weak (pi_range1 hg hm (va_cons hs hb va_nil) (star_cons hs)) fun σ H Rr => ?_
  rintro ⟨F, E, S, h⟩
  simp only [evI] at h
  rw [R.sat_bind] at h
  show tA T C G Y (.cons eb .nil) σ H fun vs H1 => ∃ j : Int, vs = [.int j] ∧ -(2 ^ 62) ≤ j ∧ j < 2 ^ 62 ∧ Rr (Itr 0 j.toNat) H1
  refine ⟨F, E, S, ?_⟩
  simp only [evl]
  rw [R.sat_bind]
  refine R.sat_mono h (fun x q vs H' s r => ?_) fun _ z => z
  obtain ⟨z, e, k⟩ := sat_of q (rng_ne _ _)
  cases r with
  | cons r t =>
    cases t
    obtain ⟨d, f⟩ := x
    cases d <;> simp only [rngV] at e <;> first | cases e | skip
    split at e
    · rename_i j hj
      cases e
      simp only [lim] at hj
      refine ⟨j, by rw [Val.int r], by omega, by omega, k _ _ _ [] s ?_ trivial fun _ => ⟨[], PinsV.top⟩⟩
      have ll : j.toNat ≤ sizeLine := by rw [PySem.sizeLine_eq]; omega
      simpa using walk_rng (G := G) (lo := 0) ll
    · cases e
theorem vi_rng2 {p : Pos} (hg : L2.Gl X "range") (hm : X.mg "range" = none) (hs : notStar a = true) (hs' : notStar b = true) (ha : PE X a (tP T C G Y ea)) (hb : PE X b (tP T C G Y eb)) : PI X tg (.Call (.Name "range" p) [a, b] [] pos) (tI T C G Y (.rng ea eb)) := by
  refine PI_weak (pi_range2 hg hm (va_cons hs ha (va_cons hs' hb va_nil)) (by rw [star_cons hs, star_cons hs']; rfl) (star_cons hs')) fun σ H Rr => ?_
  rintro ⟨F, E, S, h⟩
  simp only [evI] at h
  rw [R.sat_bind] at h
  show tA T C G Y (.cons ea (.cons eb .nil)) σ H fun vs H1 => ∃ i j : Int, vs = [.int i, .int j] ∧ (-(2 ^ 62) ≤ i ∧ i < 2 ^ 62 ∧ -(2 ^ 62) ≤ j ∧ j < 2 ^ 62) ∧ Rr (Itr i (j - i).toNat) H1
  refine ⟨F, E, S, ?_⟩
  simp only [evl]
  rw [R.sat_bind]
  refine R.sat_mono h (fun x q => ?_) fun _ z => z
  rw [R.sat_bind] at q
  rw [R.sat_bind, R.sat_bind]
  refine R.sat_mono q (fun y q => ?_) fun _ z => z
  intro vs H' s r
  obtain ⟨z, e, k⟩ := sat_of q (rng_ne _ _)
  cases r with
  | cons r t =>
    cases t with
    | cons r' t =>
      cases t
      obtain ⟨d, f⟩ := x
      obtain ⟨d', f'⟩ := y
      cases d <;> cases d' <;> simp only [rngV] at e <;> first | cases e | skip
      split at e
      · rename_i hj
        cases e
        simp only [lim] at hj
        refine ⟨_, _, by rw [Val.int r, Val.int r'], ⟨by omega, by omega, by omega, by omega⟩, k _ _ _ _ s (walk_rng ?_) trivial fun _ => ⟨[], PinsV.top⟩⟩
        rw [PySem.sizeLine_eq]
        omega
      · cases e

/-! ### comprehensions -/
theorem wipe_get : ∀ {σ : St} {vs : List Nat} {i : Nat}, i ∉ vs → (wipe σ vs)[i]? = σ[i]?
  | σ, [], i, _ => rfl
  | σ, v :: vs, i, h => by
    unfold wipe
    rw [List.getElem?_set_ne (fun z => h (by rw [z]; exact List.mem_cons_self))]
    exact wipe_get fun z => h (List.mem_cons_of_mem _ z)
theorem wipeE_get : ∀ {E : SEnv} {vs : List Nat} {i : Nat} {s : Slot}, (wipeE E vs)[i]? = some (some s) → E[i]? = some (some s) ∧ i ∉ vs
  | E, [], i, s, h => ⟨h, by simp⟩
  | E, v :: vs, i, s, h => by
    unfold wipeE at h
    rw [List.getElem?_set] at h
    split at h
    · split at h <;> cases h
    · rename_i hv
      obtain ⟨h1, h2⟩ := wipeE_get h
      exact ⟨h1, by simp only [List.mem_cons, not_or]; exact ⟨fun z => hv z.symm, h2⟩⟩
theorem wipeE_len : ∀ {E : SEnv} {vs : List Nat}, (wipeE E vs).length = E.length
  | E, [] => rfl
  | E, v :: vs => by unfold wipeE; rw [List.length_set, wipeE_len]
/-- the frame while a list is made at D -/
abbrev Fr.mk' (F : Fr) (D : Addr) : Fr := { F with ex := ⟨fun a => F.ex a ∨ a = D, F.ex.rg⟩, lk := [], io := none, hk := [] }
theorem cl_mk {F : Fr} {D : Addr} : ∀ n k a, cl (F.mk' D) n k a → cl F n k a := fun n k a ⟨h1, h2⟩ => ⟨fun z => h1 (.inl z), h2⟩
theorem cl_to {F : Fr} {D : Addr} {H : Hp} (hD : H D = none) : ∀ n k a, cl F n k a → H a ≠ none → cl (F.mk' D) n k a := fun n k a ⟨h1, h2⟩ h => ⟨fun z => z.elim h1 fun z => h (by rw [z]; exact hD), h2⟩
theorem Sim.block {F : Fr} {E : SEnv} {σ : St} {H H' : Hp} {D : Addr} (S : Sim G F E σ H) (hD : H D = none) (s : Same H H') (hd : H' D ≠ none) (vs : List Nat) : Sim G (F.mk' D) (wipeE E vs) (wipe σ vs) H' := by
  refine ⟨by rw [wipe_length, wipeE_len]; exact S.len, fun a o h1 h3 h2 => s _ _ (S.ent a o h1 h3 h2), fun i sl h => ?_, fun i j d d' n n' v hij e1 e2 h1 h2 => ?_, (fun p hp => Rep.mono (cl_keep s (cl_to hD)) (Same.imm s) _ _ (S.pin p hp)), fun a h => ?_, (fun p hp => by simp at hp), ⟨fun i d h => ?_, fun i c fs h => ?_, fun i a z => ⟨.inl (S.dp.rgx i a z).1, (S.dp.rgx i a z).2.same s⟩, S.dp.rgj, fun i j d n a h1 h2 => ?_, S.dp.rgm, (fun p hp => by simp at hp), fun i j c c' fs fs' n h1 h2 => S.dp.slo i j c c' fs fs' n (wipeE_get h1).1 (wipeE_get h2).1, (fun i c fs h => S.dp.sl0 i c fs (wipeE_get h).1), fun p hp => by simp at hp⟩⟩
  · obtain ⟨h1, h2⟩ := wipeE_get h
    obtain ⟨v, h3, h4⟩ := S.slot i sl h1
    refine ⟨v, by rw [wipe_get h2]; exact h3, ?_⟩
    cases sl with
    | dep d => exact h4
    | slf c fs => exact h4
    | shr d n => exact Rep.mono (cl_keep s (cl_to hD)) (Same.imm s) d v h4
    | own d n =>
      obtain ⟨a, e, x, o⟩ := h4
      refine ⟨a, e, .inl x, ?_⟩
      cases d with
      | lst ds =>
        obtain ⟨q1, q2, vs, q3, q4, q5⟩ := o
        exact ⟨q1, q2, vs, s _ _ q3, q4, Reps.mono (cl_keep s (cl_to hD)) (Same.imm s) _ _ q5⟩
      | dic ds =>
        obtain ⟨q1, q2, vs, q3, q4, q5⟩ := o
        exact ⟨q1, q2, vs, s _ _ q3, q4, RepK.mono (cl_keep s (cl_to hD)) (Same.imm s) _ _ q5⟩
      | obj c fs =>
        obtain ⟨q2, Ca, dx, ws, q3, q4, q5⟩ := o
        exact ⟨q2, Ca, dx, ws, s _ _ q3, q4, RepF.mono (cl_keep s (cl_to hD)) (Same.imm s) _ _ q5⟩
      | _ => exact o
  · obtain ⟨e1, n1⟩ := wipeE_get e1
    obtain ⟨e2, n2⟩ := wipeE_get e2
    rw [wipe_get n1] at h1
    rw [wipe_get n2] at h2
    exact S.dis i j d d' n n' v hij e1 e2 h1 h2
  · rcases h with (h | h) | h
    · exact fun z => S.exH a (.inl h) (s.free z)
    · rw [h]; exact hd
    · exact fun z => S.exH a (.inr h) (s.free z)
  · obtain ⟨h1, h2⟩ := wipeE_get h
    obtain ⟨v, h3, h4⟩ := S.dp.slot i d h1
    refine ⟨v, by rw [wipe_get h2]; exact h3, h4.mono (fun a o p e => ⟨cl_to hD _ _ _ p (by rw [e]; simp), s a o e⟩) (fun a o _ e => s a o e) (fun _ z => z) fun a o _ e => s a o e⟩
  · obtain ⟨h1, h2⟩ := wipeE_get h
    obtain ⟨v, h3, h4⟩ := S.dp.slf i c fs h1
    refine ⟨v, by rw [wipe_get h2]; exact h3, h4.mono (fun a o p e => ⟨cl_to hD _ _ _ p (by rw [e]; simp), s a o e⟩) (fun a o _ e => s a o e) (fun _ z => z) (fun a o _ e => s a o e) rfl (fun a _ z => .inl z) fun a o _ e => s a o e⟩
  · obtain ⟨h3, h4⟩ := wipeE_get h1
    rw [wipe_get h4] at h2
    exact S.dp.rgo i j d n a h3 h2
/-- tests of a clause: none, or one -/
structure PTv (T : Tb) (C : Fid → List D → R (D × Bool)) (G : GT) (Y : XK) (X : Cx) (ifs : List Expr) (cond : Ex) : Prop where
  h : PTs X ifs (tT T C G Y cond)
theorem vts_nil : PTv T C G Y X [] (.con (.bl true)) := ⟨⟨fun pins s σ H Q I h => pts_nil.run pins s σ H Q I (by
  obtain ⟨F, E, S, k, e, q⟩ := h
  have e : D.bl true = D.bl k := e
  cases e
  exact q H (Same.refl _))⟩⟩
theorem vts_one (h : PT X c (tT T C G Y ec)) : PTv T C G Y X [c] ec := ⟨pts_one h⟩
abbrev Y0 : XK := fun _ _ _ => False
theorem wish0 {H : Hp} {c : Str} : ¬ wish G Y0 H c := fun h => let ⟨_, _, z⟩ := h H (Same.refl _); z
theorem nox_sat {α : Type} {r : R α} {p : α → Prop} {w : Str → Prop} (h : r.nox.sat p w) : r.sat p (fun _ => False) := by
  cases r with
  | ok a => exact h
  | exc c => exact h.elim
  | bad => exact h.elim
theorem sat_fl {α : Type} {r : R α} {p : α → Prop} {w : Str → Prop} (h : r.sat p fun _ => False) : r.sat p w := R.sat_mono h (fun _ z => z) fun _ z => z.elim
theorem wipe_wipe {σ : St} : ∀ {vs ws : List Nat}, (∀ v ∈ vs, v ∈ ws) → wipe (wipe σ vs) ws = wipe σ ws
  | [], ws, _ => rfl
  | v :: vs, ws, h => by
    show wipe ((wipe σ vs).set v none) ws = wipe σ ws
    rw [wipe_set (h v List.mem_cons_self)]
    exact wipe_wipe fun u hu => h u (List.mem_cons_of_mem _ hu)
/-- a comprehension's reading, from its value -/
theorem comp_core {it : It} {t : Tg} {elt cond : Ex} {own : List Nat} (ho : ∀ j ∈ tgSlots t, j ∈ own) {σ : St} {H : Hp} {Q : VK} (h : tP T C G Y (.comp elt t it cond own) σ H Q) :
    tLc (tI T C G Y it) (tG G t) (tT T C G Y0 cond) (tP T C G Y0 elt) own σ H Q := by
  obtain ⟨F, E, S, h⟩ := h
  simp only [ev] at h
  rw [R.sat_bind] at h
  refine ⟨F, E, S, R.sat_mono h (fun p q => ?_) fun _ z => z⟩
  obtain ⟨ds, n, c⟩ := p
  intro J H1 kp rt s1 W hk hpin L hL
  have S1 := S.same s1
  simp only at q W
  rw [R.sat_bind] at q
  have q := nox_sat q
  have hL' : (upd H1 L (.lst [])) L ≠ none := by rw [upd_same]; simp
  generalize ht : compTurn (fun E => ev T C cond E) (fun E => ev T C elt E) (wipeE E own) t n = turn at q
  have hlen := W.len _ _ hk
  -- what holds of the turns that are left
  let Inv' : Nat → Hp → Prop := fun i H2 => i ≤ ds.length ∧ Same H1 H2 ∧ kp (F.mk' L) H2 ∧ ∃ (acc : List V) (ads : List D) (k : Bool), H2 L = some (.lst acc) ∧ acc.length ≤ i ∧ Reps G (cl (F.mk' L) k) H2 ads acc ∧
    (compV turn (ds.drop i) ads k).sat (fun p => ∀ v H', Post G F H H' (mkL p.1 p.2) v → Q v H') (fun _ => False)
  refine ⟨fun i m H2 => m = ds.length - i ∧ Inv' i H2,
    ⟨ds.length, by simp, Nat.zero_le _, same_upd hL, W.st _ _ _ _ hk (fun a o e _ => same_upd hL a o e) (fun n k a p z => cl_to hL n k a p z), [], [], true, upd_same, Nat.le_refl _, by simp [Reps], q⟩, ?_⟩
  rintro i m H2 ⟨rfl, hi, s2, k2, acc, ads, k, hLa, hal, hr, hq⟩
  by_cases hlt : i < ds.length
  · refine .inr ⟨W.go _ _ _ k2 hlt, Inv' (i + 1), fun H3 h3 => ⟨ds.length - (i + 1), by omega, rfl, h3⟩, fun x H3 y => ?_⟩
    obtain ⟨s3, k3, r3⟩ := W.yld _ _ _ _ _ _ k2 (List.getElem?_eq_getElem hlt) y
    rw [List.drop_eq_getElem_cons hlt] at hq
    simp only [compV] at hq
    rw [R.sat_bind] at hq
    have hL3 : H3 L = some (.lst acc) := s3 _ _ hLa
    have S3 : Sim G (F.mk' L) (wipeE E own) (wipe σ own) H3 := S1.block hL (s2.trans s3) (by rw [hL3]; simp) own
    have et : turn ds[i] = (tgV (wipeE E own) t ds[i] n).bind fun E' => (ev T C cond E').bind fun k => match k.1 with
      | .bl true => (ev T C elt E').bind fun y => if y.2.c then .ok (some (y.1, y.2.n || y.1.imm)) else .bad
      | .bl false => .ok none
      | _ => .bad := by rw [← ht]; rfl
    rw [et, R.sat_bind] at hq
    cases hE : tgV (wipeE E own) t ds[i] n with
    | bad => rw [hE] at hq; exact hq.elim
    | exc c => rw [hE] at hq; exact hq.elim
    | ok E' =>
      rw [hE, R.sat_ok, R.sat_bind] at hq
      refine ⟨F.mk' L, wipeE E own, ds[i], n, S3, (fun j hj => ⟨fun p hp => by simp at hp, fun p hp => by simp at hp⟩), r3, E', hE, fun σ' S4 hw => ⟨by rw [hw own ho, wipe_wipe fun v hv => hv], F.mk' L, E', S4, R.sat_mono hq (fun kx hq => ?_) fun _ z => z.elim⟩⟩
      obtain ⟨dk, fk⟩ := kx
      cases dk with
      | bl kb =>
        refine ⟨kb, rfl, fun H4 s4 => ?_⟩
        have S5 := S4.same s4
        have keep : ∀ {H5 : Hp}, Same H3 H5 → kp (F.mk' L) H5 := fun {H5} s => W.st _ _ _ _ k3 (fun a o e _ => s a o e) fun n k a p _ => p
        cases kb with
        | true =>
          show tP T C G Y0 elt σ' H4 _
          have hq := R.sat_bind.mp hq
          refine ⟨F.mk' L, E', S5, R.sat_mono hq (fun y hq => ?_) fun _ z => z.elim⟩
          intro v H5 P5
          split at hq
          · rename_i hc
            have hL5 : H5 L = some (.lst acc) := P5.same _ _ (s4 _ _ hL3)
            have hz : acc.length < sizeLine := by omega
            obtain ⟨dy, fy⟩ := y
            have ry := Rep.orI (P5.val.rep hc)
            have sU : ∀ k a o, cl (F.mk' L) k true a → H5 a = some o → cl (F.mk' L) k true a ∧ (upd H5 L (.lst (acc ++ [v]))) a = some o := fun k a o p e => ⟨p, by rw [upd_ne fun z => p.1 (.inr z)]; exact e⟩
            have sV : ∀ k k' a o, cl (F.mk' L) k k' a → H5 a = some o → cl (F.mk' L) k k' a ∧ (upd H5 L (.lst (acc ++ [v]))) a = some o := fun k k' a o p e => ⟨p, by rw [upd_ne fun z => p.1 (.inr z)]; exact e⟩
            have sI : ∀ a o, immO o = true → H5 a = some o → (upd H5 L (.lst (acc ++ [v]))) a = some o := fun a o im e => by
              rw [upd_ne fun z => by rw [z, hL5] at e; cases e; cases im]; exact e
            have r5 : Reps G (cl (F.mk' L) (k && (fy.n || dy.imm))) (upd H5 L (.lst (acc ++ [v]))) (ads ++ [dy]) (acc ++ [v]) := by
              have r6 : Reps G (cl (F.mk' L) k) H5 ads acc := hr.same (s3.trans (s4.trans P5.same))
              exact Reps.mono (sV _) sI _ _ (r6.and (Reps.one ry))
            refine ⟨acc, hL5, hz, hlt, ?_, ?_, acc ++ [v], ads ++ [dy], k && (fy.n || dy.imm), upd_same, by simp; omega, r5, hq⟩
            · intro a o e
              have e5 := (s2.trans (s3.trans (s4.trans P5.same))) a o e
              rw [upd_ne fun z => by rw [z, hL] at e; cases e]; exact e5
            · have k5 := keep (s4.trans P5.same)
              have nrt : L ∉ rt := fun z => W.rtH _ _ _ hk z hL
              refine W.st _ _ _ _ k5 (fun a o e hh => ?_) fun n k a p _ => p
              rw [upd_ne]
              · exact e
              · rintro rfl
                rcases hh with hh | hh | ⟨n', k', hh⟩
                · exact nrt hh
                · rw [hL5] at e; cases e; cases hh
                · exact hh.1 (.inr rfl)
          · exact hq.elim
        | false =>
          show Inv' (i + 1) H4
          exact ⟨hlt, s2.trans (s3.trans s4), keep s4, acc, ads, k, s4 _ _ hL3, by omega, hr.same (s3.trans s4), hq⟩
      | _ => exact hq.elim
  · have e : i = ds.length := by omega
    subst e
    refine .inl ⟨W.stop _ _ _ k2 (Nat.le_refl _), ?_⟩
    rw [List.drop_length] at hq
    simp only [compV] at hq
    have hr' : Reps G (fun k' b => cl F (k || ads.all D.imm) k' b ∧ b ≠ L) H2 ads acc := (hr.orI).weak fun k' a p => ⟨cl_mk _ _ _ p, fun z => p.1 (.inr z)⟩
    refine hq _ _ ⟨s1.trans s2, ?_, fun _ => ⟨fun _ => ⟨rfl, fun a e => by cases e; exact s1.free hL⟩, L, acc, rfl, hLa, by omega, hr'⟩⟩
    show Rep _ _ _ _ _
    simp only [mkL, Rep]
    exact ⟨L, acc, rfl, S1.new hL _ _, hLa, by omega, ((hr.weak (cl_mk _)).orI)⟩
end
end FS

/-! FS9: calls of defs and methods; comprehensions as rules; a set's length; isinstance; count. -/
namespace FS
open PySem L2

section
variable {T : Tb} {C : Fid → List D → R (D × Bool)} {G : GT} {Y : XK} {X : Cx} {a b c o i e tg : Expr} {ea eb ec eo ei ee : Ex} {es : List Expr} {ees : Exs} {pos apos p : Pos}

/-! ### comprehensions -/
theorem ve_comp {elt iter : Expr} {ifs : List Expr} {scope : Scope} {own : List (Str × Nat)} {it : It} {t : Tg} {eelt econd : Ex} (hc : X.calm = true) (hN : X.N.Nodup) (hi : PI X tg iter (tI T C G Y it)) (ok : BlkOk X.N X.env.scope scope own)
    (ho : ∀ j ∈ tgSlots t, j ∈ own.map (·.2))
    (hg : ∀ (s : Shared) (H : Hp) (K : Addr) (cs : List (Str × Addr)) (fp : List Addr), PG (X.blk s H scope (compEnvC scope cs K X.env) fp) tg (tG G t))
    (ht : ∀ (s : Shared) (H : Hp) (K : Addr) (cs : List (Str × Addr)) (fp : List Addr), PTv T C G Y0 (X.blk s H scope (compEnvC scope cs K X.env) fp) ifs econd)
    (he : ∀ (s : Shared) (H : Hp) (K : Addr) (cs : List (Str × Addr)) (fp : List Addr), PE (X.blk s H scope (compEnvC scope cs K X.env) fp) elt (tP T C G Y0 eelt))
    (hs : ∀ x, foldedSetIterable iter X.env x = pure x) : PE X (.ListComp elt [⟨tg, iter, ifs, 0⟩] scope pos) (tP T C G Y (.comp eelt t it econd (own.map (·.2)))) :=
  PE_weak (pe_lc hc hN hi ok hg (fun s H K cs fp => (ht s H K cs fp).h) he hs) fun σ H Q h => comp_core ho h

/-! ### calls -/
/-- where the arguments of a call may lie -/
def argP (F : Fr) (f : Fl) (k : Bool) (a : Addr) : Prop := match f.c with
  | true => cl F f.n k a
  | false => k = true ∨ cl F false false a
theorem Val.arg {F : Fr} {H : Hp} {x : D × Fl} {v : V} (h : Val G F H x v) : Rep G (fun k a => k = true ∨ cl F false false a) H x.1 v := by
  obtain ⟨d, f⟩ := x
  have w : ∀ k a, cl F f.n k a → (k = true ∨ cl F false false a) := fun k a p => by
    cases k with
    | true => exact .inl rfl
    | false => exact .inr (cl_obj p)
  cases hc : f.c with
  | true => exact (h.rep hc).weak w
  | false =>
    cases d with
    | lst ds =>
      obtain ⟨p, vs, rfl, h1, h2, h3⟩ := h.lst
      simp only [Rep]
      exact ⟨p, vs, rfl, .inl trivial, h1, h2, h3.weak w⟩
    | dic ds =>
      obtain ⟨p, vs, rfl, h1, h2, h3⟩ := h.dic
      simp only [Rep]
      exact ⟨p, vs, rfl, .inl trivial, h1, h2, h3.weak w⟩
    | _ => exact (h.clean (by intro _ e; cases e) (by intro _ e; cases e)).weak w
theorem Vals'.args {F : Fr} {H : Hp} {xs : List (D × Fl)} {vs : List V} (h : Vals' G F H vs xs) : Reps G (argP F (cmb xs).2) H (cmb xs).1 vs := by
  unfold argP
  cases hc : (cmb xs).2.c with
  | true => exact cmb_reps h hc
  | false =>
    clear hc
    induction h with
    | nil => simp [cmb, Reps]
    | cons r t ih =>
      simp only [cmb, Reps]
      exact ⟨_, _, rfl, r.arg, ih⟩
/-- what a def promises: its value's lists are new, or (n = false) where the arguments' are -/
def outP (H : Hp) (P : Bool → Addr → Prop) (n : Bool) (k : Bool) (a : Addr) : Prop := H a = none ∨ (P k a ∧ (k = true → n = false))
/-- a new tree -/
def TreeN (G : GT) (P : Bool → Addr → Prop) (H H' : Hp) (d : D) (v : V) : Prop := ∃ fp, RepT G P H' d v fp ∧ fp.Nodup ∧ ∀ a ∈ fp, H a = none
theorem treeN_flat {P : Bool → Addr → Prop} {H H' : Hp} {d : D} {v : V} (hf : d.flat = true) (hr : Rep G P H' d v) (hn : d.isL = true → ∀ a, v = .ref a → H a = none) : TreeN G P H H' d v := by
  cases d with
  | lst ds =>
    simp only [Rep] at hr
    obtain ⟨a, vs, rfl, _, q, z, r⟩ := hr
    refine ⟨[a], ?_, by simp, fun b hb => ?_⟩
    · simp only [RepT]
      exact ⟨a, vs, [], rfl, rfl, q, z, Reps.tree ds vs (by rw [immL_all]; exact hf) r⟩
    · obtain rfl : b = a := by simpa using hb
      exact hn rfl _ rfl
  | dic ds =>
    simp only [Rep] at hr
    obtain ⟨a, vs, rfl, _, q, z, r⟩ := hr
    refine ⟨[a], ?_, by simp, fun b hb => ?_⟩
    · simp only [RepT]
      exact ⟨a, vs, rfl, rfl, q, z, hf, r⟩
    · obtain rfl : b = a := by simpa using hb
      exact hn rfl _ rfl
  | _ => exact ⟨[], Rep.tree _ _ hf hr, by simp, fun a ha => by simp at ha⟩
theorem TreeN.sep {P P' : Bool → Addr → Prop} {H H' : Hp} {d : D} {v : V} (hP : ∀ a, P false a → P' false a) (hn : ∀ a, H a = none → P' true a) (h : TreeN G P H H' d v) : SepR G P' H' d v := by
  obtain ⟨fp, h1, h2, h3⟩ := h
  cases d with
  | lst ds =>
    simp only [RepT] at h1
    obtain ⟨a, vs, fq, rfl, rfl, q, z, r⟩ := h1
    have h2 := List.nodup_cons.mp h2
    exact ⟨a, vs, rfl, q, z, RepTs.rep (fun b C dx ws p e => ⟨hP b p, fun w => by subst w; rw [q] at e; cases e⟩) _ _ _ (fun b hb => ⟨hn b (h3 b (List.mem_cons_of_mem _ hb)), fun w => h2.1 (w ▸ hb)⟩) r⟩
  | dic ds =>
    simp only [RepT] at h1
    obtain ⟨a, ws, rfl, rfl, q, z, im, r⟩ := h1
    have r3 : RepK G (fun k b => P' k b ∧ b ≠ a) H' ds ws := RepK.immK (fun b C dx ws p e => ⟨hP b p, fun w => by subst w; rw [q] at e; cases e⟩) (fun b o p e => e) (fun b o _ e => e) ds ws im r
    exact ⟨a, ws, rfl, q, z, r3⟩
  | _ => trivial
def spC (G : GT) (C : Fid → List D → R (D × Bool)) (f : Fid) : Sp := fun vs H Q W => ∃ P ds, Reps G P H ds vs ∧ (C f ds).sat (fun q => ∀ v H', Same H H' → Rep G (outP H P q.2) H' q.1 v → (q.2 = true → TreeN G (outP H P true) H H' q.1 v) → Q v H') (wish G W H)
theorem callF_post {F : Fr} {E : SEnv} {σ : St} {H H' : Hp} {q : D × Bool} {f : Fl} {z : D × Fl} {v : V} (S : Sim G F E σ H) (s : Same H H') (h : Rep G (outP H (argP F f) q.2) H' q.1 v) (hs : q.2 = true → TreeN G (outP H (argP F f) true) H H' q.1 v) (e : callF q f = .ok z) : Post G F H H' z v := by
  obtain ⟨d, m⟩ := q
  unfold callF at e
  split at e
  · rename_i hc
    cases e
    refine ⟨s, ?_, fun hr => ?_⟩
    · show Rep G (cl F (m || d.imm || f.n)) H' d v
      by_cases hi : d.imm = true
      · refine Rep.imm (fun a o p _ => ?_) d v hi h
        rcases p with p | ⟨p, _⟩
        · exact S.new p _ _
        · unfold argP at p
          split at p
          · exact cl_obj p
          · rcases p with p | p
            · cases p
            · exact cl_obj p
      · have hi : d.imm = false := by simpa using hi
        rw [hi, Bool.or_false] at hc ⊢
        refine h.weak fun k a p => ?_
        rcases p with p | ⟨p, hk⟩
        · exact S.new p _ _
        · unfold argP at p
          split at p
          · rename_i hfc
            cases k with
            | false => exact cl_obj p
            | true =>
              have : m = false := hk rfl
              subst this
              simpa using p
          · rename_i hfc
            rcases p with p | p
            · subst p
              have hm : m = false := hk rfl
              rw [hm, hfc] at hc
              cases hc
            · cases k with
              | false => exact cl_obj p
              | true =>
                have hm : m = false := hk rfl
                rw [hm, hfc] at hc
                cases hc
    · have hm : m = true := hr
      subst hm
      have hs : SepR G (outP H (argP F f) true) H' d v := (hs rfl).sep (fun a p => p) fun a p => .inl p
      refine ⟨fun hd => ⟨rfl, fun a ea => ?_⟩, ?_⟩
      · subst ea
        cases d <;> simp only [D.isL] at hd <;> first | cases hd | skip
        · simp only [Rep] at h
          obtain ⟨a', _, e', p, _⟩ := h
          cases e'
          rcases p with p | ⟨_, p⟩
          · exact p
          · cases p rfl
        · simp only [Rep] at h
          obtain ⟨a', _, e', p, _⟩ := h
          cases e'
          rcases p with p | ⟨_, p⟩
          · exact p
          · cases p rfl
      · have w : ∀ k b, outP H (argP F f) true k b → cl F (true || d.imm || f.n) k b := fun k b p => by
          rcases p with p | ⟨p, hk⟩
          · exact S.new p _ _
          · cases k with
            | true => cases hk rfl
            | false =>
              unfold argP at p
              split at p
              · exact cl_obj p
              · rcases p with p | p
                · cases p
                · exact cl_obj p
        cases d with
        | lst ds =>
          obtain ⟨a, vs, h1, h2, h3, h4⟩ := hs
          exact ⟨a, vs, h1, h2, h3, h4.weak fun k b p => ⟨w k b p.1, p.2⟩⟩
        | dic ds =>
          obtain ⟨a, vs, h1, h2, h3, h4⟩ := hs
          exact ⟨a, vs, h1, h2, h3, h4.weak fun k b p => ⟨w k b p.1, p.2⟩⟩
        | _ => trivial
  · cases e
theorem callF_ne (q : D × Bool) (f : Fl) (c : Str) : callF q f ≠ .exc c := by
  unfold callF
  split <;> intro e <;> cases e
section
variable {CX : CXT} {k : Nat} {f : Addr} {fd : FuncData} {ps : List Str} {x m : Str} {fid : Fid}
/-- f(e, ..), as a call -/
theorem cc_call (Fo : FnOk X.prog X.w X.K X.mg X.base CX k f fd ps (spC G C fid)) (hr : Room k X.A) (hg : L2.Gl X x) (hm : X.mg x = some (.ref f)) (hk : PySem.W.keepIn X.K (.ref f) = true) (hb : Binds X.K fd ps []) (hx : Passes CX X Y)
    (hd : (x == ("__debug__" : Str)) = false) (hs : (e :: es).all notStar = true) (ha : PA X (e :: es) (tA T C G Y ees)) : PE X (.Call (.Name x p) (e :: es) [] pos) (fun σ H Q => tA T C G Y ees σ H fun vs H1 => spC G C fid vs H1 Q Y) := by
  rw [List.all_cons, Bool.and_eq_true] at hs
  refine PE_weak (pe_call Fo hr hg hm hk hb .nil hx ha hd (star_cons hs.1) (star_any hs.2)) fun σ H Q h => ?_
  show tA T C G Y ees σ H fun vs H1 => spC G C fid (vs ++ []) H1 Q Y
  simpa only [List.append_nil] using h
theorem cc_call0 (Fo : FnOk X.prog X.w X.K X.mg X.base CX k f fd ps (spC G C fid)) (hr : Room k X.A) (hg : L2.Gl X x) (hm : X.mg x = some (.ref f)) (hk : PySem.W.keepIn X.K (.ref f) = true) (hb : Binds X.K fd ps []) (hx : Passes CX X Y)
    (hd : (x == ("__debug__" : Str)) = false) : PE X (.Call (.Name x p) [] [] pos) (fun σ H Q => tA T C G Y .nil σ H fun vs H1 => spC G C fid vs H1 Q Y) := by
  refine PE_weak (pe_call0 Fo hr hg hm hk hb .nil hx hd) fun σ H Q ⟨F, E, S, h⟩ => ?_
  simp only [evl] at h
  exact h [] H (Same.refl _) .nil
/-- f(e, ..) -/
theorem ve_call (Fo : FnOk X.prog X.w X.K X.mg X.base CX k f fd ps (spC G C fid)) (hr : Room k X.A) (hg : L2.Gl X x) (hm : X.mg x = some (.ref f)) (hk : PySem.W.keepIn X.K (.ref f) = true) (hb : Binds X.K fd ps []) (hx : Passes CX X Y)
    (hd : (x == ("__debug__" : Str)) = false) (hs : (e :: es).all notStar = true) (ha : PA X (e :: es) (tA T C G Y ees)) : PE X (.Call (.Name x p) (e :: es) [] pos) (tP T C G Y (.call fid ees)) := by
  rw [List.all_cons, Bool.and_eq_true] at hs
  refine PE_weak (pe_call Fo hr hg hm hk hb .nil hx ha hd (star_cons hs.1) (star_any hs.2)) fun σ H Q ⟨F, E, S, h⟩ => ?_
  simp only [ev] at h
  show tA T C G Y ees σ H fun vs H1 => spC G C fid (vs ++ []) H1 Q Y
  refine tA_bind S h fun xs vs H1 s1 r1 S1 h1 => ?_
  rw [List.append_nil]
  rw [R.sat_bind] at h1
  refine ⟨_, _, r1.args, R.sat_mono h1 (fun q h2 v H' s r rs => ?_) fun _ z => z⟩
  obtain ⟨z, e, k⟩ := sat_of h2 (callF_ne _ _)
  exact k _ _ (Post.trans s1 (callF_post S1 s r rs e))
/-- f() -/
theorem ve_call0 (Fo : FnOk X.prog X.w X.K X.mg X.base CX k f fd ps (spC G C fid)) (hr : Room k X.A) (hg : L2.Gl X x) (hm : X.mg x = some (.ref f)) (hk : PySem.W.keepIn X.K (.ref f) = true) (hb : Binds X.K fd ps []) (hx : Passes CX X Y)
    (hd : (x == ("__debug__" : Str)) = false) : PE X (.Call (.Name x p) [] [] pos) (tP T C G Y (.call fid .nil)) := by
  refine PE_weak (pe_call0 Fo hr hg hm hk hb .nil hx hd) fun σ H Q ⟨F, E, S, h⟩ => ?_
  simp only [ev, evl] at h
  show spC G C fid ([] ++ []) H Q Y
  have h : ((C fid (cmb []).1).bind fun q => callF q (cmb []).2).sat _ _ := h
  rw [R.sat_bind] at h
  refine ⟨argP F (cmb []).2, _, by simp [cmb, Reps], R.sat_mono h (fun q h2 v H' s r rs => ?_) fun _ z => z⟩
  obtain ⟨z, e, k⟩ := sat_of h2 (callF_ne _ _)
  exact k _ _ (callF_post S s r rs e)
theorem PE_ex {ι : Type} {t' : TE} {t : ι → TE} (h : ∀ i, PE X e (t i)) (w : ∀ σ H Q, t' σ H Q → ∃ i, t i σ H Q) : PE X e t' := ⟨fun pins s σ H Q I q => by
  obtain ⟨i, q⟩ := w σ H Q q
  exact (h i).run pins s σ H Q I q⟩
/-- what is known of a method m, class by class -/
structure MethF (T : Tb) (C : Fid → List D → R (D × Bool)) (G : GT) (P : Program) (w : World) (mg : Str → Option Value) (base : Heap) (CX : CXT) (k : Nat) (m c b : Str) (Ca : Addr) : Prop where
  cls : Cls G.K Ca
  ex : ∃ f fd ps, Meth G.K Ca m f ∧ FnOk P w G.K mg base CX k f fd ps (spC G C (.me b m)) ∧ Binds G.K fd ps []
theorem RepF.none {P : Bool → Addr → Prop} {H : Hp} : ∀ {fs : List (Str × D)} {ws : List (Str × V)} {m : Str}, RepF G P H fs ws → fs.lookup m = none → ws.lookup m = none
  | [], _, _, h, _ => by simp only [RepF] at h; subst h; rfl
  | (k, d) :: fs, _, m, h, e => by
    simp only [RepF] at h
    obtain ⟨v, r, rfl, p, q⟩ := h
    rw [List.lookup_cons] at e ⊢
    cases hb : m == k with
    | true => rw [hb] at e; cases e
    | false => rw [hb] at e; exact RepF.none q e
/-- o.m(e, ..): the class by the value -/
theorem ve_mth (hK : X.K = G.K) (hM : ∀ c Ca b, G.cls c = some Ca → T.mro c m = some b → MethF T C G X.prog X.w X.mg X.base CX k m c b Ca) (hC : ∀ c b, T.mro c m = some b → ∃ Ca, G.cls c = some Ca) (h0 : ∃ c b, T.mro c m = some b) (hr : Room k X.A) (hx : Passes CX X Y)
    {pl : Sem Bool} (ho : PE X o (tP T C G Y eo)) (hs : (e :: es).all notStar = true) (ha : PA X (e :: es) (tA T C G Y ees))
    (ht : eval (.Call (.Attribute o m apos) (e :: es) [] pos) X.env = (do
      let ov ← eval o X.env
      standAt apos.atName
      let (f, first) ← holding [ov] (getMethod ov m pl)
      callWith pos f first (backTo pos (starEach (e :: es) X.env)) (backToKw pos (keywordEach [] X.env)))) : PE X (.Call (.Attribute o m apos) (e :: es) [] pos) (tP T C G Y (.mth eo m ees)) := by
  rw [List.all_cons, Bool.and_eq_true] at hs
  let ι := { x : Str × Addr × Str // G.cls x.1 = some x.2.1 ∧ T.mro x.1 m = some x.2.2 }
  refine PE_ex (ι := ι) (t := fun x => tMeth x.1.2.1 m (spC G C (.me x.1.2.2 m)) [] Y (tP T C G Y eo) (tA T C G Y ees)) (fun x => ?_) fun σ H Q => ?_
  · obtain ⟨⟨c, Ca, b⟩, h1, h2⟩ := x
    have MF := hM c Ca b h1 h2
    obtain ⟨f, fd, ps, me, fo, bi⟩ := MF.ex
    have cl := MF.cls
    rw [← hK] at me fo bi cl
    exact pe_meth (pl := pl) ho cl me fo hr bi .nil hx ha (star_cons hs.1) (star_any hs.2) ht
  · rintro ⟨F, E, S, h⟩
    simp only [ev] at h
    cases q : ev T C eo E with
    | bad => rw [q] at h; exact h.elim
    | exc cc =>
      rw [q] at h
      obtain ⟨c, b, g2⟩ := h0
      obtain ⟨Ca, g1⟩ := hC c b g2
      refine ⟨⟨(c, Ca, b), g1, g2⟩, F, E, S, ?_⟩
      rw [q]
      exact h
    | ok x =>
      rw [q] at h
      obtain ⟨d, fl⟩ := x
      have h : ((mthC T m d).bind fun b => (evl T C ees E).bind fun xs => (C (.me b m) (d :: (cmb xs).1)).bind fun q => callF q (cmb ((d, fl) :: xs)).2).sat _ (wish G Y H) := h
      cases hd : mthC T m d with
      | bad => rw [hd] at h; exact h.elim
      | exc cc =>
        exfalso
        unfold mthC at hd
        split at hd <;> first | cases hd | (split at hd <;> cases hd)
      | ok b =>
        rw [hd] at h
        have h : ((evl T C ees E).bind fun xs => (C (.me b m) (d :: (cmb xs).1)).bind fun q => callF q (cmb ((d, fl) :: xs)).2).sat _ (wish G Y H) := h
        obtain ⟨c, fs, rfl, hl, g2⟩ : ∃ c fs, d = .obj c fs ∧ fs.lookup m = none ∧ T.mro c m = some b := by
          unfold mthC at hd
          split at hd
          · split at hd
            · rename_i h1 h2
              cases hd
              exact ⟨_, _, rfl, h1, h2⟩
            · cases hd
          · cases hd
        obtain ⟨Ca, g1⟩ := hC c b g2
        refine ⟨⟨(c, Ca, b), g1, g2⟩, F, E, S, ?_⟩
        rw [q]
        intro v H1 P1
        have S1 := S.same P1.same
        have rx := P1.val.clean (by intro _ e; cases e) (by intro _ e; cases e)
        have rx' := rx
        simp only [Rep] at rx'
        obtain ⟨ad, Cd, dx, ws, rfl, q0, q1, q2, q3⟩ := rx'
        rw [g1] at q2
        cases q2
        rw [R.sat_bind] at h
        refine ⟨ad, dx, ws, rfl, q1, q3.none hl, F, E, S1, R.sat_mono h (fun xs hq vs H2 s2 r2 => ?_) fun c z => z.same P1.same⟩
        rw [R.sat_bind] at hq
        rw [List.append_nil]
        have S2 := S1.same s2
        have r3 : Vals' G F H2 (.ref ad :: vs) ((.obj c fs, fl) :: xs) := .cons (P1.val.same s2) r2
        refine ⟨_, _, r3.args, R.sat_mono hq (fun q h3 v H' s r rs => ?_) fun c z => z.same (P1.same.trans s2)⟩
        obtain ⟨z, e, k⟩ := sat_of h3 (callF_ne _ _)
        exact k _ _ (Post.trans (P1.same.trans s2) (callF_post S2 s r rs e))
/-- o.m() -/
theorem ve_mth0 (hK : X.K = G.K) (hM : ∀ c Ca b, G.cls c = some Ca → T.mro c m = some b → MethF T C G X.prog X.w X.mg X.base CX k m c b Ca) (hC : ∀ c b, T.mro c m = some b → ∃ Ca, G.cls c = some Ca) (h0 : ∃ c b, T.mro c m = some b) (hr : Room k X.A) (hx : Passes CX X Y)
    {pl : Sem Bool} (ho : PE X o (tP T C G Y eo))
    (ht : eval (.Call (.Attribute o m apos) [] [] pos) X.env = (do
      let ov ← eval o X.env
      standAt apos.atName
      let (f, first) ← holding [ov] (getMethod ov m pl)
      callWith pos f first (backTo pos (starEach [] X.env)) (backToKw pos (keywordEach [] X.env)))) : PE X (.Call (.Attribute o m apos) [] [] pos) (tP T C G Y (.mth eo m .nil)) := by
  let ι := { x : Str × Addr × Str // G.cls x.1 = some x.2.1 ∧ T.mro x.1 m = some x.2.2 }
  refine PE_ex (ι := ι) (t := fun x => tMeth x.1.2.1 m (spC G C (.me x.1.2.2 m)) [] Y (tP T C G Y eo) tNil) (fun x => ?_) fun σ H Q => ?_
  · obtain ⟨⟨c, Ca, b⟩, h1, h2⟩ := x
    have MF := hM c Ca b h1 h2
    obtain ⟨f, fd, ps, me, fo, bi⟩ := MF.ex
    have cl := MF.cls
    rw [← hK] at me fo bi cl
    exact pe_meth0 (pl := pl) ho cl me fo hr bi .nil hx ht
  · rintro ⟨F, E, S, h⟩
    simp only [ev, evl] at h
    cases q : ev T C eo E with
    | bad => rw [q] at h; exact h.elim
    | exc cc =>
      rw [q] at h
      obtain ⟨c, b, g2⟩ := h0
      obtain ⟨Ca, g1⟩ := hC c b g2
      refine ⟨⟨(c, Ca, b), g1, g2⟩, F, E, S, ?_⟩
      rw [q]
      exact h
    | ok x =>
      rw [q] at h
      obtain ⟨d, fl⟩ := x
      have h : ((mthC T m d).bind fun b => (C (.me b m) (d :: (cmb []).1)).bind fun q => callF q (cmb [(d, fl)]).2).sat _ (wish G Y H) := h
      cases hd : mthC T m d with
      | bad => rw [hd] at h; exact h.elim
      | exc cc =>
        exfalso
        unfold mthC at hd
        split at hd <;> first | cases hd | (split at hd <;> cases hd)
      | ok b =>
        rw [hd] at h
        have h : ((C (.me b m) (d :: (cmb []).1)).bind fun q => callF q (cmb [(d, fl)]).2).sat _ (wish G Y H) := h
        obtain ⟨c, fs, rfl, hl, g2⟩ : ∃ c fs, d = .obj c fs ∧ fs.lookup m = none ∧ T.mro c m = some b := by
          unfold mthC at hd
          split at hd
          · split at hd
            · rename_i h1 h2
              cases hd
              exact ⟨_, _, rfl, h1, h2⟩
            · cases hd
          · cases hd
        obtain ⟨Ca, g1⟩ := hC c b g2
        refine ⟨⟨(c, Ca, b), g1, g2⟩, F, E, S, ?_⟩
        rw [q]
        intro v H1 P1
        have S1 := S.same P1.same
        have rx := P1.val.clean (by intro _ e; cases e) (by intro _ e; cases e)
        have rx' := rx
        simp only [Rep] at rx'
        obtain ⟨ad, Cd, dx, ws, rfl, q0, q1, q2, q3⟩ := rx'
        rw [g1] at q2
        cases q2
        rw [R.sat_bind] at h
        refine ⟨ad, dx, ws, rfl, q1, q3.none hl, ?_⟩
        show spC G C (.me b m) (.ref ad :: ([] ++ [])) H1 Q Y
        have r3 : Vals' G F H1 [.ref ad] [(.obj c fs, fl)] := .cons P1.val .nil
        refine ⟨_, _, r3.args, R.sat_mono h (fun q h3 v H' s r rs => ?_) fun c z => z.same P1.same⟩
        obtain ⟨z, e, k⟩ := sat_of h3 (callF_ne _ _)
        exact k _ _ (Post.trans P1.same (callF_post S1 s r rs e))
end
end
end FS

/-! FS10: statements. -/
namespace FS
open PySem L2

/-- what does not change of a frame -/
structure Bs where
  P : Bool → Addr → Prop
  H0 : Hp
  self : Option Addr
  pin : List (D × V × Bool)
  lk : List (Nat × Addr × List D × Bool)
  mt : Addr → Prop
  io : Option (Nat × V)
  hk : List (Nat × Addr × List V)
  /-- the locked slots -/
  L : List Nat
  hL : (∀ p ∈ lk, p.1 ∈ L) ∧ (∀ p ∈ io, p.1 + 1000 ∈ L) ∧ ∀ p ∈ hk, p.1 ∈ L
abbrev Bs.fr (B : Bs) (ex : Xc) : Fr := ⟨B.P, B.H0, B.self, ex, B.pin, B.lk, B.mt, B.io, B.hk⟩
def EntB (B : Bs) (H' : Hp) : Prop := ∀ a o, B.self ≠ some a → ¬ B.mt a → B.H0 a = some o → H' a = some o
def wishB (G : GT) (Y : XK) (B : Bs) (c : Str) : Prop := ∀ H', EntB B H' → ∃ Ca, G.ecls c = some Ca ∧ Y (.ref Ca) none H'
/-- without the locks -/
abbrev Bs.un (B : Bs) : Bs := { B with lk := [], io := none, hk := [], L := [], hL := ⟨fun p hp => by simp at hp, fun p hp => by simp at hp, fun p hp => by simp at hp⟩ }
def SPo (G : GT) (B : Bs) (D : Ends) : Fw → Prop
  | .nx E' => ∀ ex σ' H', Sim G (B.fr ex) E' σ' H' → D.nx σ' H'
  | .rt d n => ∀ v H', EntB B H' → Rep G (outP B.H0 B.P n) H' d v → (n = true → TreeN G (outP B.H0 B.P true) B.H0 H' d v) → D.rt v H'
  | .rx i d d2 => ∀ v H' fr, EntB B H' → (∀ a, B.mt a → H' a ≠ none) → RepT G (outP B.H0 B.P true) H' d v fr → fr.Nodup → (∀ a ∈ fr, B.H0 a = none) → (∀ v0, B.io = some (i, v0) → ∃ fp, RepT G (outP B.H0 B.P true) H' d2 v0 fp ∧ fp.Nodup ∧ (∀ a ∈ fp, B.H0 a = none ∨ B.mt a) ∧ ∀ a ∈ fr, a ∉ fp) → D.rt v H'
section
variable (T : Tb) (W : Nat) (C : Fid → List D → R (D × Bool)) (G : GT) (Y : XK)
def tS (B : Bs) (s : Sx) : TS := fun D σ H => ∃ ex E, Sim G (B.fr ex) E σ H ∧ (exec T W C s B.L E).sat (SPo G B D) (wishB G Y B)
def tSs (B : Bs) (s : Sxs) : TS := fun D σ H => ∃ ex E, Sim G (B.fr ex) E σ H ∧ (execs T W C s B.L E).sat (SPo G B D) (wishB G Y B)
end

section
variable {T : Tb} {W : Nat} {C : Fid → List D → R (D × Bool)} {G : GT} {Y : XK} {X : Cx} {B : Bs} {ex : Xc} {E : SEnv} {σ : St} {H H' : Hp} {a b c o i e tg : Expr} {ea eb ec eo ei ee : Ex} {es : List Expr} {ees : Exs} {pos apos p : Pos} {D' : Ends}
theorem Sim.entB (S : Sim G (B.fr ex) E σ H) (s : Same H H') : EntB B H' := fun a o h1 h3 h2 => s a o (S.ent a o h1 h3 h2)
theorem Sim.wish (S : Sim G (B.fr ex) E σ H) {c : Str} (h : wishB G Y B c) : wish G Y H c := fun H' s => h H' (S.entB s)
/-- an expression, then something -/
theorem st_bind {β : Type} {f : D × Fl → R β} {q : β → Prop} (S : Sim G (B.fr ex) E σ H) (h : ((ev T C ea E).bind f).sat q (wishB G Y B)) {Q : VK}
    (k : ∀ x v H', Post G (B.fr ex) H H' x v → Sim G (B.fr ex) E σ H' → (f x).sat q (wishB G Y B) → Q v H') : tP T C G Y ea σ H Q := by
  rw [R.sat_bind] at h
  exact ⟨_, E, S, R.sat_mono h (fun x q v H' P => k x v H' P (S.same P.same) q) fun c z => S.wish z⟩
theorem stT_bind {β : Type} {f : Bool → R β} {q : β → Prop} (S : Sim G (B.fr ex) E σ H) (h : ((ev T C ea E).bind fun x => boolR x f).sat q (wishB G Y B)) {Q : Bool → Hp → Prop}
    (k : ∀ b H', Sim G (B.fr ex) E σ H' → (f b).sat q (wishB G Y B) → Q b H') : tT T C G Y ea σ H Q := by
  rw [R.sat_bind] at h
  refine ⟨_, E, S, R.sat_mono h (fun x q => ?_) fun c z => S.wish z⟩
  obtain ⟨d, fl⟩ := x
  cases d <;> simp only [boolR] at q <;> first | exact q.elim | skip
  exact ⟨_, rfl, fun H' s => k _ H' (S.same s) q⟩

/-! ### own lists given up -/
theorem Reps.weakEx {F F' : Fr} {n : Bool} {ds : List D} {vs : List V} (h : Reps G (cl F n) H ds vs) (w : ∀ n k a, cl F n k a → cl F' n k a) : Reps G (cl F' n) H ds vs := h.weak (w n)
theorem lkB_no {is : List Nat} (h : lkB B.L is = true) : ∀ i ∈ is, NoLk B.lk B.io i := fun i hi => by
  have := List.all_eq_true.mp h i hi
  simp only [Bool.not_eq_true', Bool.or_eq_false_iff, List.contains_eq_mem, decide_eq_false_iff_not] at this
  exact ⟨fun p hp z => this.1 (z ▸ B.hL.1 p hp), fun p hp z => this.2 (z ▸ B.hL.2.1 p hp)⟩
theorem lkB_app {L is js : List Nat} (h : lkB L (is ++ js) = true) : lkB L is = true ∧ lkB L js = true := by
  unfold lkB at h ⊢
  rw [List.all_append, Bool.and_eq_true] at h
  exact h
theorem lkB_cons {L is : List Nat} {i : Nat} (h : lkB L (i :: is) = true) : lkB L [i] = true ∧ lkB L is = true := lkB_app (is := [i]) h
theorem Sim.frz1 {ex : Xc} (S : Sim G (B.fr ex) E σ H) (i : Nat) (hl : NoLk B.lk B.io i) : ∃ ex', Sim G (B.fr ex') (FS.frz1 E i) σ H := by
  have main : ∀ (d : D) (n : Bool), d.isL = true → E[i]? = some (some (.own d n)) → ∃ ex', Sim G (B.fr ex') (E.set i (some (.shr d n))) σ H := by
    intro d n hd he
    obtain ⟨v, hv, a, rfl, ha, ho⟩ := S.slot i _ he
    have w : ∀ n k b, cl (B.fr ex) n k b → cl (B.fr ⟨fun b => ex b ∧ b ≠ a, ex.rg⟩) n k b := fun n k b ⟨h1, h2⟩ => ⟨fun z => h1 z.1, h2⟩
    have dpx : SimD G (B.fr ⟨fun b => ex b ∧ b ≠ a, ex.rg⟩) (E.set i (some (.shr d n))) σ H := by
      have ne : ∀ j, ¬ ex.rg j a := fun j => S.dp.rgo i j d n a he hv
      refine ⟨fun j d' e => ?_, fun j c fs e => ?_, fun j b z => ⟨⟨(S.dp.rgx j b z).1, fun w => ne j (w ▸ z)⟩, (S.dp.rgx j b z).2⟩, S.dp.rgj, fun j k d' n' b e1 e2 => ?_, S.dp.rgm, S.dp.io, fun j k c c' fs fs' n' e1 e2 => ?_, fun j c fs e => ?_, S.dp.hk⟩
      · rw [List.getElem?_set] at e
        split at e
        · split at e <;> cases e
        · obtain ⟨u, h1, h2⟩ := S.dp.slot j d' e
          exact ⟨u, h1, h2.mono (fun b o p e => ⟨w _ _ _ p, e⟩) (fun b o _ e => e) (fun _ z => z) fun b o _ e => e⟩
      · rw [List.getElem?_set] at e
        split at e
        · split at e <;> cases e
        · obtain ⟨u, h1, h2⟩ := S.dp.slf j c fs e
          refine ⟨u, h1, h2.mono (fun b o p e => ⟨w _ _ _ p, e⟩) (fun b o _ e => e) (fun _ z => z) (fun b o _ e => e) rfl (fun b hs hb => ⟨hb, fun z => ?_⟩) fun b o _ e => e⟩
          subst z
          cases d with
          | lst ds => exact ho.2.1 hs
          | dic ds => exact ho.2.1 hs
          | _ => cases hd
      · rw [List.getElem?_set] at e1
        split at e1
        · split at e1 <;> cases e1
        · exact S.dp.rgo j k d' n' b e1 e2
      · rw [List.getElem?_set] at e1 e2
        split at e1
        · split at e1 <;> cases e1
        · split at e2
          · split at e2 <;> cases e2
          · exact S.dp.slo j k c c' fs fs' n' e1 e2
      · rw [List.getElem?_set] at e
        split at e
        · split at e <;> cases e
        · exact S.dp.sl0 j c fs e
    have own : ∀ (dd : D) (b : Addr) (m : Bool), OwnR G (B.fr ex) H m b dd → OwnR G (B.fr ⟨fun b => ex b ∧ b ≠ a, ex.rg⟩) H m b dd := by
      intro dd b m h
      cases dd with
      | lst ds => obtain ⟨h1, h2, vs, h3, h4, h5⟩ := h; exact ⟨h1, h2, vs, h3, h4, h5.weak (w m)⟩
      | dic ds => obtain ⟨h1, h2, vs, h3, h4, h5⟩ := h; exact ⟨h1, h2, vs, h3, h4, h5.weak (w m)⟩
      | obj c fs => obtain ⟨h2, Ca, dx, ws, h3, h4, h5⟩ := h; exact ⟨h2, Ca, dx, ws, h3, h4, RepF.mono (fun k b o p e => ⟨w m k b p, e⟩) (fun _ _ _ e => e) _ _ h5⟩
      | _ => exact h
    refine ⟨⟨fun b => ex b ∧ b ≠ a, ex.rg⟩, by simp [S.len], S.ent, fun j s e => ?_, fun j k d1 d2 n1 n2 w' hjk e1 e2 h1 h2 => ?_, fun q hq => (S.pin q hq).weak (w _), fun b h => S.exH b (h.imp And.left id), fun p hp => by
      rw [List.getElem?_set_ne (hl.1 p hp).symm]
      exact S.lk p hp, dpx⟩
    · rw [List.getElem?_set] at e
      split at e
      · rename_i hij
        subst hij
        split at e
        · cases e
          refine ⟨.ref a, hv, ?_⟩
          cases d with
          | lst ds =>
            obtain ⟨h1, h2, vs, h3, h4, h5⟩ := ho
            show Rep _ _ _ _ _
            simp only [Rep]
            exact ⟨a, vs, rfl, ⟨fun z => z.2 rfl, .inl h1⟩, h3, h4, h5.weak (w n)⟩
          | dic ds =>
            obtain ⟨h1, h2, vs, h3, h4, h5⟩ := ho
            show Rep _ _ _ _ _
            simp only [Rep]
            exact ⟨a, vs, rfl, ⟨fun z => z.2 rfl, .inl h1⟩, h3, h4, h5.weak (w n)⟩
          | _ => cases hd
        · cases e
      · rename_i hij
        obtain ⟨u, e1, e2⟩ := S.slot j s e
        refine ⟨u, e1, ?_⟩
        cases s with
        | dep _ => exact e2
        | slf _ _ => exact e2
        | shr d1 n1 => exact Rep.weak (w n1) e2
        | own d1 n1 =>
          obtain ⟨b, rfl, hb, hob⟩ := e2
          refine ⟨b, rfl, ⟨hb, fun z => ?_⟩, own _ _ _ hob⟩
          subst z
          exact S.dis i j d d1 n n1 (.ref b) hij he e hv e1
    · rw [List.getElem?_set] at e1 e2
      split at e1
      · split at e1 <;> cases e1
      · split at e2
        · split at e2 <;> cases e2
        · exact S.dis j k d1 d2 n1 n2 w' hjk e1 e2 h1 h2
  unfold FS.frz1
  split
  · rename_i he; exact main _ _ rfl he
  · rename_i he; exact main _ _ rfl he
  · exact ⟨ex, S⟩
theorem Sim.frz : ∀ (is : List Nat) {ex : Xc} {E : SEnv}, Sim G (B.fr ex) E σ H → lkB B.L is = true → ∃ ex', Sim G (B.fr ex') (FS.frz E is) σ H
  | [], ex, E, S, _ => ⟨ex, S⟩
  | i :: is, ex, E, S, h => by
    obtain ⟨ex1, S1⟩ := S.frz1 i (lkB_no h i List.mem_cons_self)
    exact Sim.frz is S1 (lkB_cons h).2
/-- a new own list, dict -/
theorem Sim.own {d : D} {n : Bool} {a : Addr} (S : Sim G (B.fr ex) E σ H) (s : Same H H') (hn : H a = none) (hd : d.isL = true) (h : SepR G (cl (B.fr ex) n) H' d (.ref a)) (i : Nat) (hl : NoLk B.lk B.io i) :
    ∃ ex', Sim G (B.fr ex') (E.set i (some (.own d n))) (σ.set i (some (.ref a))) H' := by
  have ha : H' a ≠ none := by
    cases d with
    | lst ds => obtain ⟨b, vs, e, h1, _⟩ := h; cases e; rw [h1]; simp
    | dic ds => obtain ⟨b, vs, e, h1, _⟩ := h; cases e; rw [h1]; simp
    | _ => cases hd
  have S0 := S.block hn s ha []
  have S1 : Sim G (B.fr ⟨fun b => ex b ∨ b = a, ex.rg⟩) E σ H' := ⟨S0.len, S0.ent, S0.slot, S0.dis, S0.pin, S0.exH, S.lk, ⟨S0.dp.slot, S0.dp.slf, S0.dp.rgx, S0.dp.rgj, S0.dp.rgo, S0.dp.rgm, S.dp.io, S0.dp.slo, S0.dp.sl0, fun p hp => ⟨(S.dp.hk p hp).1, s _ _ (S.dp.hk p hp).2⟩⟩⟩
  have nrg : ∀ j, ¬ ex.rg j a := fun j z => S.exH a (.inl (S.dp.rgx j a z).1) hn
  have h0 : B.H0 a = none := by
    rcases (S.new hn false true).2 with z | z
    · exact z
    · cases q : B.H0 a with
      | none => rfl
      | some o =>
        have := S.ent a o (fun z => S.exH a (.inr (.inl z)) hn) (fun z => S.exH a (.inr (.inr z)) hn) q
        rw [hn] at this
        cases this
  refine ⟨⟨fun b => ex b ∨ b = a, ex.rg⟩, by simp [S1.len], S1.ent, fun j sl e => ?_, fun j k d1 d2 n1 n2 w' hjk e1 e2 h1 h2 => ?_, S1.pin, S1.exH, fun p hp => by
    rw [List.getElem?_set_ne (hl.1 p hp).symm, List.getElem?_set_ne (hl.1 p hp).symm]
    exact S.lk p hp, S1.dp.set i hl (fun d z => by cases z) (fun c fs z => by cases z) fun d' n' z => by cases z; exact ⟨hd, fun b hb j => by cases hb; exact nrg j⟩⟩
  · rw [List.getElem?_set] at e
    split at e
    · rename_i hij
      subst hij
      split at e
      · rename_i hl
        cases e
        refine ⟨.ref a, by rw [List.getElem?_set_self (by rw [S1.len]; exact hl)], a, rfl, .inr rfl, ?_⟩
        have w : ∀ k b, cl (B.fr ex) n k b ∧ b ≠ a → cl (B.fr ⟨fun b => ex b ∨ b = a, ex.rg⟩) n k b := fun k b ⟨⟨p1, p2⟩, p3⟩ => ⟨fun z => z.elim p1 p3, p2⟩
        cases d with
        | lst ds =>
          obtain ⟨b, vs, e, h1, h2, h3⟩ := h
          cases e
          exact ⟨h0, fun z => S.exH a (.inr (.inl z)) hn, vs, h1, h2, h3.weak w⟩
        | dic ds =>
          obtain ⟨b, vs, e, h1, h2, h3⟩ := h
          cases e
          exact ⟨h0, fun z => S.exH a (.inr (.inl z)) hn, vs, h1, h2, h3.weak w⟩
        | _ => cases hd
      · cases e
    · rename_i hij
      obtain ⟨u, e1, e2⟩ := S1.slot j sl e
      exact ⟨u, by rw [List.getElem?_set_ne hij]; exact e1, e2⟩
  · rw [List.getElem?_set] at e1 e2
    -- an older own object stands elsewhere
    have old : ∀ (m : Nat) (d3 : D) (n3 : Bool), E[m]? = some (some (.own d3 n3)) → σ[m]? ≠ some (some (.ref a)) := by
      intro m d3 n3 e3 z
      obtain ⟨v, e4, b, rfl, hb, hob⟩ := S.slot m _ e3
      rw [z] at e4
      cases e4
      exact S.exH a (.inl hb) hn
    split at e1
    · rename_i hj
      subst hj
      split at e1
      · rename_i hl
        rw [List.getElem?_set_self (by rw [S1.len]; exact hl)] at h1
        cases h1
        split at e2
        · rename_i hk; exact absurd hk hjk
        · rename_i hk
          rw [List.getElem?_set_ne hk] at h2
          exact old k _ _ e2 h2
      · cases e1
    · rename_i hj
      rw [List.getElem?_set_ne hj] at h1
      split at e2
      · rename_i hk
        subst hk
        split at e2
        · rename_i hl
          rw [List.getElem?_set_self (by rw [S1.len]; exact hl)] at h2
          cases h2
          exact old j _ _ e1 h1
        · cases e2
      · rename_i hk
        rw [List.getElem?_set_ne hk] at h2
        exact S1.dis j k d1 d2 n1 n2 w' hjk e1 e2 h1 h2
/-- name = value -/
theorem asg_ok {x : D × Fl} {v : V} {i : Nat} (hl : NoLk B.lk B.io i) (S : Sim G (B.fr ex) E σ H) (P : Post G (B.fr ex) H H' x v) (h : (asgV E i x).sat (SPo G B D') (wishB G Y B)) : D'.nx (σ.set i (some v)) H' := by
  obtain ⟨d, f⟩ := x
  have sh : f.c = true → (∀ ex σ' H', Sim G (B.fr ex) (E.set i (some (.shr d f.n))) σ' H' → D'.nx σ' H') → D'.nx (σ.set i (some v)) H' := fun hc q =>
    q _ _ _ ((S.same P.same).set (P.val.rep hc) i hl)
  have ow : d.isL = true → f.r = true → (∀ ex σ' H', Sim G (B.fr ex) (E.set i (some (.own d f.n))) σ' H' → D'.nx σ' H') → D'.nx (σ.set i (some v)) H' := fun hd hr q => by
    obtain ⟨h1, h2⟩ := P.new hr
    obtain ⟨hc, hn⟩ := h1 hd
    obtain ⟨a, rfl⟩ : ∃ a, v = .ref a := by
      cases d with
      | lst ds => obtain ⟨a, _, e, _⟩ := h2; exact ⟨a, e⟩
      | dic ds => obtain ⟨a, _, e, _⟩ := h2; exact ⟨a, e⟩
      | _ => cases hd
    obtain ⟨ex', S'⟩ := S.own P.same (hn a rfl) hd h2 i hl
    exact q _ _ _ S'
  cases d <;> simp only [asgV] at h
  case lst ds =>
    split at h
    · rename_i hr; exact ow rfl hr h
    · split at h
      · rename_i hc; exact sh hc h
      · exact h.elim
  case dic ds =>
    split at h
    · rename_i hr; exact ow rfl hr h
    · split at h
      · rename_i hc; exact sh hc h
      · exact h.elim
  all_goals
    split at h
    · rename_i hc; exact sh hc h
    · exact h.elim
theorem vs_asg {i : Nat} {x : Str} {p' : Pos} (hN : X.N.Nodup) (hi : X.N[i]? = some x) (hx : Loc X.env.scope x) (he : PE X e (tP T C G Y ee)) (hs : swapsWith e (some (.Name x p')) pos.line X.env = pure false) (hf : X.fn x = true ∨ X.env.scope.names.lookup x = some .local) :
    PS X (.Assign [.Name x p'] e pos) (tS T W C G Y B (.asg i ee)) := by
  refine PS_weak (ps_set hN hi hx he hs hf) fun D' σ H => ?_
  rintro ⟨ex, E, S, h⟩
  simp only [exec] at h
  split at h
  · rename_i hlk
    obtain ⟨ex1, S1⟩ := S.frz (esc ee) (lkB_cons hlk).2
    rw [R.sat_bind] at h
    exact ⟨_, _, S1, R.sat_mono h (fun x q v H' P => asg_ok (lkB_no hlk i List.mem_cons_self) S1 P q) fun c z => S1.wish z⟩
  · exact h.elim

/-! ### blocks, branches, loops -/
theorem vs_nil : PSs X [] (tSs T W C G Y B .nil) := PSs_weak pss_nil fun D' σ H ⟨ex, E, S, h⟩ => by
  simp only [execs] at h
  exact h _ _ _ S
theorem vs_cons {st : Stmt} {rest : List Stmt} {s : Sx} {ss : Sxs} (h1 : PS X st (tS T W C G Y B s)) (h2 : PSs X rest (tSs T W C G Y B ss)) : PSs X (st :: rest) (tSs T W C G Y B (.cons s ss)) := by
  refine PSs_weak (pss_cons h1 h2) fun D' σ H => ?_
  rintro ⟨ex, E, S, h⟩
  simp only [execs] at h
  rw [R.sat_bind] at h
  refine ⟨ex, E, S, R.sat_mono h (fun f q => ?_) fun _ z => z⟩
  cases f with
  | nx E' => exact fun ex' σ' H' S' => ⟨ex', E', S', q⟩
  | rt d n => exact q
  | rx i d n => exact q
theorem vs_ite {ss ss' : List Stmt} {s s' : Sxs} (hc : PT X c (tT T C G Y ec)) (ha : PSs X ss (tSs T W C G Y B s)) (hb : PSs X ss' (tSs T W C G Y B s')) : PS X (.If c ss ss' pos) (tS T W C G Y B (.ite ec s s')) := by
  refine PS_weak (ps_if hc ha hb) fun D' σ H => ?_
  rintro ⟨ex, E, S, h⟩
  simp only [exec] at h
  refine stT_bind S h fun k H1 S1 h1 => ?_
  cases k with
  | true => exact ⟨ex, E, S1, h1⟩
  | false => exact ⟨ex, E, S1, h1⟩
theorem vs_pass : PS X (.Pass pos) (tS T W C G Y B .pass) := PS_weak ps_pass fun D' σ H ⟨ex, E, S, h⟩ => by
  simp only [exec] at h
  exact h _ _ _ S
theorem vs_expr (he : PE X e (tP T C G Y ee)) (hs : swapsWith e none pos.line X.env = pure false) : PS X (.Expr e pos) (tS T W C G Y B (.expr ee)) := by
  refine PS_weak (ps_expr he hs) fun D' σ H => ?_
  rintro ⟨ex, E, S, h⟩
  simp only [exec] at h
  exact st_bind S h fun x v H1 P1 S1 h1 => h1 _ _ _ S1
theorem outP_cl {n k : Bool} {a : Addr} (h : cl (B.fr ex) n k a) : outP B.H0 B.P n k a := h.2
/-- what an expression's value is worth as a return -/
theorem Sim.un (S : Sim G (B.fr ex) E σ H) : Sim G (B.un.fr ex) E σ H := ⟨S.len, S.ent, S.slot, S.dis, S.pin, S.exH, (fun p hp => by simp at hp), ⟨S.dp.slot, S.dp.slf, S.dp.rgx, S.dp.rgj, S.dp.rgo, S.dp.rgm, (fun p hp => by simp at hp), S.dp.slo, S.dp.sl0, fun p hp => by simp at hp⟩⟩
theorem lkB_un {is : List Nat} : lkB B.un.L is = true := by
  unfold lkB
  rw [List.all_eq_true]
  intro i _
  rfl
theorem SPo.rt_un {d : D} {n : Bool} (h : SPo G B D' (.rt d n)) : SPo G B.un D' (.rt d n) := h
theorem ret_ok {x : D × Fl} {v : V} (S1 : Sim G (B.fr ex) E σ H) (P1 : Post G (B.fr ex) H H' x v) (h1 : (if x.2.c = true then R.ok (Fw.rt x.1 (x.2.n && (x.2.r || !x.1.isL) && x.1.flat)) else .bad).sat (SPo G B D') (wishB G Y B)) : D'.rt v H' := by
  obtain ⟨d, f⟩ := x
  split at h1
  · rename_i hc
    have hr := P1.val.rep hc
    have ho : Rep G (outP B.H0 B.P (f.n && (f.r || !d.isL) && d.flat)) H' d v := hr.weak fun k b p => by
      have : (f.n && (f.r || !d.isL) && d.flat) = true → f.n = true := fun z => (Bool.and_eq_true_iff.mp (Bool.and_eq_true_iff.mp z).1).1
      exact outP_cl (cl_le this k b p)
    refine h1 _ _ (S1.entB P1.same) ho fun hn => ?_
    simp only at hn
    rw [hn] at ho
    rw [Bool.and_eq_true, Bool.and_eq_true] at hn
    obtain ⟨⟨hn1, hn2⟩, hn3⟩ := hn
    refine treeN_flat hn3 ho fun hd a e => ?_
    have hr : f.r = true := by rw [hd] at hn2; simpa using hn2
    exact S1.h0 (((P1.new hr).1 hd).2 a e)
  · exact h1.elim
theorem vs_ret (hv : ∀ E, ownV E ee = none) (he : PE X e (tP T C G Y ee)) : PS X (.Return (some e) pos) (tS T W C G Y B (.ret ee)) := by
  refine PS_weak (ps_ret he) fun D' σ H => ?_
  rintro ⟨ex, E, S, h⟩
  simp only [exec, hv] at h
  obtain ⟨ex1, S1⟩ := S.un.frz (List.range E.length) lkB_un
  have h : ((ev T C ee (FS.frz E (List.range E.length))).bind fun x => if x.2.c = true then R.ok (Fw.rt x.1 (x.2.n && (x.2.r || !x.1.isL) && x.1.flat)) else .bad).sat (SPo G B D') (wishB G Y B.un) := h
  exact st_bind (B := B.un) S1 h fun x v H1 P1 S2 h1 => ret_ok (B := B.un) (Y := Y) (G := G) S1 P1 (by
    split at h1
    · rename_i hc; rw [if_pos hc]; exact h1
    · exact h1.elim)
/-- return name -/
theorem vs_retN {i : Nat} {x : Str} {p' : Pos} (hN : X.N[i]? = some x) (hv : Vis X.env.scope x) (hd : (x == ("__debug__" : Str)) = false) (hcd : (x == ("__classdict__" : Str)) = false) : PS X (.Return (some (.Name x p')) pos) (tS T W C G Y B (.ret (.var i))) := by
  refine PS_weak (ps_ret (pe_var hN hv hd hcd)) fun D' σ H => ?_
  rintro ⟨ex, E, S, h⟩
  simp only [exec] at h
  show ∃ v, σ[i]? = some (some v) ∧ D'.rt v H
  split at h
  · rename_i d n ho
    have core : ∀ d' n', E[i]? = some (some (.own d' n')) → d'.isL = true → d' = d → n' = n → ∃ v, σ[i]? = some (some v) ∧ D'.rt v H := by
      intro d' n' he hd e1 e2
      subst e1; subst e2
      obtain ⟨v, hv, a, rfl, ha, hr⟩ := S.slot i _ he
      have le : ∀ k b, cl (B.fr ex) n' k b → outP B.H0 B.P (n' && d'.flat) k b := fun k b p => outP_cl (cl_le (fun z => (Bool.and_eq_true_iff.mp z).1) k b p)
      have rr : Rep G (outP B.H0 B.P (n' && d'.flat)) H d' (.ref a) := by
        cases d' with
        | lst ds =>
          obtain ⟨h1, h2, vs, h3, h4, h5⟩ := hr
          simp only [Rep]
          exact ⟨a, vs, rfl, .inl h1, h3, h4, h5.weak le⟩
        | dic ds =>
          obtain ⟨h1, h2, vs, h3, h4, h5⟩ := hr
          simp only [Rep]
          exact ⟨a, vs, rfl, .inl h1, h3, h4, h5.weak le⟩
        | _ => cases hd
      refine ⟨_, hv, h _ _ (S.entB (Same.refl _)) rr fun hn => ?_⟩
      rw [hn] at rr
      refine treeN_flat (Bool.and_eq_true_iff.mp hn).2 rr fun _ b e => ?_
      cases e
      cases d' with
      | lst ds => exact hr.1
      | dic ds => exact hr.1
      | _ => cases hd
    simp only [ownV] at ho
    split at ho
    · rename_i he; cases ho; exact core _ _ he rfl rfl rfl
    · rename_i he; cases ho; exact core _ _ he rfl rfl rfl
    · cases ho
  · obtain ⟨ex1, S1⟩ := S.un.frz (List.range E.length) lkB_un
    generalize frz E (List.range E.length) = E1 at h S1
    simp only [ev] at h
    cases e : E1[i]? with
    | none => rw [e] at h; exact h.elim
    | some s =>
      cases s with
      | none => rw [e] at h; exact h.elim
      | some s =>
        obtain ⟨v, h1, h2⟩ := S1.slot i s e
        rw [e] at h
        refine ⟨v, h1, ?_⟩
        cases s with
        | dep d => exact h.elim
        | slf c fs => exact h.elim
        | shr d n => exact ret_ok (B := B.un) (Y := Y) (x := (d, ⟨false, n || d.imm, true⟩)) S1 ⟨Same.refl _, Rep.orI h2, fun z => by cases z⟩ h
        | own d n =>
          cases d with
          | lst ds => exact h.elim
          | dic ds => exact h.elim
          | _ => exact h.elim
end
end FS

/-! FS11: what changes an own list; loops; raise. -/
namespace FS
open PySem L2

section
variable {T : Tb} {W : Nat} {C : Fid → List D → R (D × Bool)} {G : GT} {Y : XK} {X : Cx} {B : Bs} {ex : Xc} {E : SEnv} {σ : St} {H H' : Hp} {a b c o i e k tg iter : Expr} {ea eb ec eo ei ee ek : Ex} {es : List Expr} {ees : Exs} {pos apos cpos px p : Pos} {D' : Ends}

/-- an own object is written -/
theorem Sim.upd {j : Nat} {q : Addr} {d d' : D} {n n' : Bool} (S : Sim G (B.fr ex) E σ H) (he : E[j]? = some (some (.own d n))) (hv : σ[j]? = some (some (.ref q))) (hx : ex q) (h0 : B.H0 q = none ∨ B.self = some q)
    (hl : NoLk B.lk B.io j) (hm : ∀ b u, b ≠ q → H b = some u → H' b = some u) (ha : H' q ≠ none) (him : ∀ u, H q = some u → immO u = false) (hnew : OwnR G (B.fr ex) H' n' q d') : Sim G (B.fr ex) (E.set j (some (.own d' n'))) σ H' := by
  have kP : ∀ m kk b u, cl (B.fr ex) m kk b → H b = some u → cl (B.fr ex) m kk b ∧ H' b = some u := fun m kk b u z e => ⟨z, hm b u (fun w => z.1 (by rw [w]; exact hx)) e⟩
  have kI : ∀ b u, immO u = true → H b = some u → H' b = some u := fun b u z e => hm b u (fun w => by subst w; rw [him u e] at z; cases z) e
  have hlt : j < E.length := (List.getElem?_eq_some_iff.mp he).1
  refine ⟨by simp [S.len], fun b u h1 hmt h2 => ?_, fun l s e => ?_, fun l m d1 d2 n1 n2 w hlm e1 e2 h1 h2 => ?_, fun r hr => Rep.mono (kP _) kI _ _ (S.pin r hr), fun b hb => ?_, fun p hp => by
    rw [List.getElem?_set_ne (hl.1 p hp).symm]
    exact S.lk p hp, ?_⟩
  · refine hm b u (fun w => ?_) (S.ent b u h1 hmt h2)
    subst w
    rcases h0 with h0 | h0
    · have h2 : B.H0 b = some u := h2
      rw [h0] at h2; cases h2
    · exact h1 h0
  · rw [List.getElem?_set] at e
    split at e
    · rename_i hjl
      subst hjl
      cases e
      exact ⟨_, hv, q, rfl, hx, hnew⟩
    · rename_i hjl
      obtain ⟨w, e1, e2⟩ := S.slot l s e
      refine ⟨w, e1, ?_⟩
      cases s with
      | dep _ => exact e2
      | slf _ _ => exact e2
      | shr d1 n1 => exact Rep.mono (kP n1) kI _ _ e2
      | own d1 n1 =>
        obtain ⟨b, rfl, hb, hob⟩ := e2
        have hbq : b ≠ q := fun z => by
          subst z
          exact S.dis j l d d1 n n1 (.ref b) hjl he e hv e1
        refine ⟨b, rfl, hb, ?_⟩
        cases d1 with
        | lst ds => obtain ⟨h1, h2, vs, h3, h4, h5⟩ := hob; exact ⟨h1, h2, vs, hm _ _ hbq h3, h4, Reps.mono (kP n1) kI _ _ h5⟩
        | dic ds => obtain ⟨h1, h2, vs, h3, h4, h5⟩ := hob; exact ⟨h1, h2, vs, hm _ _ hbq h3, h4, RepK.mono (kP n1) kI _ _ h5⟩
        | obj c fs => obtain ⟨h2, Ca, dx, ws, h3, h4, h5⟩ := hob; exact ⟨h2, Ca, dx, ws, hm _ _ hbq h3, h4, RepF.mono (kP n1) kI _ _ h5⟩
        | _ => exact hob
  · -- the slots' values are as they were
    have own_of : ∀ (l : Nat) (d3 : D) (n3 : Bool), (E.set j (some (.own d' n')))[l]? = some (some (.own d3 n3)) → ∃ d4 n4, E[l]? = some (some (.own d4 n4)) := by
      intro l d3 n3 e
      rw [List.getElem?_set] at e
      split at e
      · rename_i hjl
        subst hjl
        exact ⟨d, n, he⟩
      · exact ⟨d3, n3, e⟩
    obtain ⟨d3, n3, f1⟩ := own_of _ _ _ e1
    obtain ⟨d4, n4, f2⟩ := own_of _ _ _ e2
    exact S.dis l m d3 d4 n3 n4 w hlm f1 f2 h1 h2
  · by_cases w : b = q
    · rw [w]; exact ha
    · cases z : H b with
      | none => exact absurd z (S.exH b hb)
      | some u => rw [hm b u w z]; simp
  · have nq : ∀ k, ¬ ex.rg k q := fun k => S.dp.rgo j k d n q he hv
    have hH : ∀ k a u, ex.rg k a → H a = some u → H' a = some u := fun k a u z e => hm a u (fun w => nq k (w ▸ z)) e
    refine ⟨fun l d1 e => ?_, fun l c fs e => ?_, fun k a z => ⟨(S.dp.rgx k a z).1, ?_⟩, S.dp.rgj, fun l k d1 n1 a e1 e2 => ?_, S.dp.rgm, S.dp.io, fun l k c c' fs fs' n1 e1 e2 => ?_, fun l c fs e => ?_, fun p hp => ⟨(S.dp.hk p hp).1, hH _ _ _ (S.dp.hk p hp).1 (S.dp.hk p hp).2⟩⟩
    · rw [List.getElem?_set] at e
      split at e
      · cases e
      · obtain ⟨w, f1, f2⟩ := S.dp.slot l d1 e
        exact ⟨w, f1, f2.mono (fun a o p e => kP _ _ _ _ p e) kI (fun _ z => z) fun a o z e => hH l a o z e⟩
    · rw [List.getElem?_set] at e
      split at e
      · cases e
      · obtain ⟨w, f1, f2⟩ := S.dp.slf l c fs e
        refine ⟨w, f1, f2.mono (fun a o p e => kP _ _ _ _ p e) kI (fun _ z => z) (fun a o z e => hH l a o z e) rfl (fun _ _ z => z) fun a o hs e' => hm a o (fun w => ?_) e'⟩
        subst w
        obtain ⟨v', g1, b, g2, _, g3⟩ := S.slot j _ he
        rw [hv] at g1
        cases g1
        cases g2
        cases d with
        | lst ds => exact g3.2.1 hs
        | dic ds => exact g3.2.1 hs
        | obj c' fs' => exact S.dp.slo l j c c' fs fs' n e he
        | _ => exact g3
    · rcases (S.dp.rgx k a z).2 with ⟨vs, g⟩ | ⟨vs, g⟩
      · exact .inl ⟨vs, hH k a _ z g⟩
      · exact .inr ⟨vs, hH k a _ z g⟩
    · rw [List.getElem?_set] at e1
      split at e1
      · rename_i hjl
        subst hjl
        rw [hv] at e2
        cases e2
        exact nq k
      · exact S.dp.rgo l k d1 n1 a e1 e2
    · rw [List.getElem?_set] at e1 e2
      split at e1
      · cases e1
      · split at e2
        · rename_i hjk
          subst hjk
          cases e2
          obtain ⟨v', g1, b, g2, _, g3⟩ := S.slot j _ he
          rw [hv] at g1
          cases g1
          cases g2
          cases d with
          | lst ds => exact g3.2.1 hnew.1
          | dic ds => exact g3.2.1 hnew.1
          | obj c2 fs2 => exact S.dp.slo l j c c2 fs fs2 n e1 he
          | _ => exact g3
        · exact S.dp.slo l k c c' fs fs' n1 e1 e2
    · rw [List.getElem?_set] at e
      split at e
      · cases e
      · exact S.dp.sl0 l c fs e
theorem ownL_some {j : Nat} {ds : List D} {n : Bool} (h : ownL E j = some (ds, n)) : E[j]? = some (some (.own (.lst ds) n)) := by
  unfold ownL at h
  split at h
  · rename_i e; cases h; exact e
  · cases h
theorem ownK_some {j : Nat} {ds : List (Int × D)} {n : Bool} (h : ownK E j = some (ds, n)) : E[j]? = some (some (.own (.dic ds) n)) := by
  unfold ownK at h
  split at h
  · rename_i e; cases h; exact e
  · cases h
/-- the list of an own name, ready to be written -/
theorem Sim.ownL {j : Nat} {ds : List D} {n : Bool} (S : Sim G (B.fr ex) E σ H) (h : FS.ownL E j = some (ds, n)) (hl : NoLk B.lk B.io j) : ∃ q vs, σ[j]? = some (some (.ref q)) ∧ ex q ∧ B.H0 q = none ∧ B.self ≠ some q ∧ H q = some (.lst vs) ∧ vs.length ≤ sizeLine ∧ Reps G (cl (B.fr ex) n) H ds vs ∧
    ∀ (ds' : List D) (n' : Bool) (vs' : List V), vs'.length ≤ sizeLine → Reps G (cl (B.fr ex) n') H ds' vs' → Sim G (B.fr ex) (putL E j ds' n') σ (L2.upd H q (.lst vs')) := by
  have he := ownL_some h
  obtain ⟨v, hv, q, rfl, hx, h0, h1, vs, h2, h3, h4⟩ := S.slot j _ he
  refine ⟨q, vs, hv, hx, h0, h1, h2, h3, h4, fun ds' n' vs' z r => ?_⟩
  refine S.upd he hv hx (.inl h0) hl (fun b u hb e => by rw [upd_ne hb]; exact e) (by rw [upd_same]; simp) (fun u e => by rw [h2] at e; cases e; rfl) ?_
  refine ⟨h0, h1, vs', upd_same, z, Reps.mono (fun kk b u w e => ⟨w, ?_⟩) (fun b u im e => ?_) _ _ r⟩
  · rw [upd_ne fun z => w.1 (by rw [z]; exact hx)]; exact e
  · rw [upd_ne fun z => by subst z; rw [h2] at e; cases e; cases im]; exact e
theorem Sim.ownK {j : Nat} {ds : List (Int × D)} {n : Bool} (S : Sim G (B.fr ex) E σ H) (h : FS.ownK E j = some (ds, n)) (hl : NoLk B.lk B.io j) : ∃ q vs, σ[j]? = some (some (.ref q)) ∧ ex q ∧ B.H0 q = none ∧ B.self ≠ some q ∧ H q = some (.dK vs) ∧ vs.length ≤ sizeLine ∧ RepK G (cl (B.fr ex) n) H ds vs ∧
    ∀ (ds' : List (Int × D)) (n' : Bool) (vs' : List (Key × V)), vs'.length ≤ sizeLine → RepK G (cl (B.fr ex) n') H ds' vs' → Sim G (B.fr ex) (E.set j (some (.own (.dic ds') n'))) σ (L2.upd H q (.dK vs')) := by
  have he := ownK_some h
  obtain ⟨v, hv, q, rfl, hx, h0, h1, vs, h2, h3, h4⟩ := S.slot j _ he
  refine ⟨q, vs, hv, hx, h0, h1, h2, h3, h4, fun ds' n' vs' z r => ?_⟩
  refine S.upd he hv hx (.inl h0) hl (fun b u hb e => by rw [upd_ne hb]; exact e) (by rw [upd_same]; simp) (fun u e => by rw [h2] at e; cases e; rfl) ?_
  refine ⟨h0, h1, vs', upd_same, z, RepK.mono (fun kk b u w e => ⟨w, ?_⟩) (fun b u im e => ?_) _ _ r⟩
  · rw [upd_ne fun z => w.1 (by rw [z]; exact hx)]; exact e
  · rw [upd_ne fun z => by subst z; rw [h2] at e; cases e; cases im]; exact e
theorem Val.keep {F : Fr} {x : D × Fl} {v : V} (hc : x.2.c = true) (h : Val G F H x v) : Rep G (cl F (x.2.n || x.1.imm)) H x.1 v := by
  obtain ⟨d, f⟩ := x
  exact Rep.orI (h.rep hc)
/-- x.append(e) -/
theorem vs_app {j : Nat} {x : Str} (hN : X.N[j]? = some x) (hv : Vis X.env.scope x) (hd : (x == ("__debug__" : Str)) = false) (hcd : (x == ("__classdict__" : Str)) = false) (he : PE X e (tP T C G Y ee)) (hs : notStar e = true) (hl : (apos.endLine == cpos.line) = true) :
    PS X (.Expr (.Call (.Attribute (.Name x px) "append" apos) [e] [] cpos) pos) (tS T W C G Y B (.app j ee)) := by
  refine PS_weak (ps_expr (pe_bm PySem.F.plainAttrs_list PySem.F.slot_list_append PySem.F.type_list_append mt_append (pe_var hN hv hd hcd) (pa_cons he pa_nil (star_cons hs)) (attr_base rfl) (by rw [star_cons hs]; rfl) hl (star_cons hs) rfl) rfl) fun D' σ H => ?_
  rintro ⟨ex, E, S, h⟩
  simp only [exec] at h
  split at h
  rotate_left
  · exact h.elim
  rename_i hlk
  have nl := lkB_no hlk j List.mem_cons_self
  obtain ⟨ex1, S1⟩ := S.frz (esc ee) (lkB_cons hlk).2
  split at h
  · rename_i ds n ho
    obtain ⟨q, vs, h1, h2, h3, h3', h4, h5, h6, up⟩ := S1.ownL ho nl
    refine ⟨_, h1, .inl ⟨rfl, _, .inl (.inl h4)⟩, ?_⟩
    show tP T C G Y ee σ H fun y H1 => rAppend (.ref q) [y] H1 fun _ H2 => D'.nx σ H2
    refine st_bind S1 h fun x v H1 P1 S2 hh => ?_
    unfold appV at hh
    split at hh
    · rename_i hc
      have e1 := P1.same _ _ h4
      have ll := lim_line
      have hlen := h6.length
      obtain ⟨q', vs', g1, g2, g3, g3', g4, g5, g6, up'⟩ := S2.ownL ho nl
      rw [h1] at g1
      cases g1
      rw [e1] at g4
      cases g4
      refine ⟨q, vs, v, rfl, rfl, e1, by omega, hh _ _ _ (up' _ _ _ (by simp; omega) (g6.and (Reps.one (P1.val.keep hc.1))))⟩
    · exact hh.elim
  · exact h.elim
/-- x.clear() -/
theorem vs_clr {j : Nat} {x : Str} (hN : X.N[j]? = some x) (hv : Vis X.env.scope x) (hd : (x == ("__debug__" : Str)) = false) (hcd : (x == ("__classdict__" : Str)) = false) (hl : (apos.endLine == cpos.line) = true) :
    PS X (.Expr (.Call (.Attribute (.Name x px) "clear" apos) [] [] cpos) pos) (tS T W C G Y B (.clr j)) := by
  refine PS_weak (ps_expr (pe_bm0 PySem.F.plainAttrs_list PySem.F.slot_list_clear PySem.F.type_list_clear mt_clear (pe_var hN hv hd hcd) (attr_base rfl) hl) rfl) fun D' σ H => ?_
  rintro ⟨ex, E, S, h⟩
  simp only [exec] at h
  split at h
  rotate_left
  · exact h.elim
  rename_i hlk
  split at h
  · rename_i ds n ho
    obtain ⟨q, vs, h1, h2, h3, h3', h4, h5, h6, up⟩ := S.ownL ho (lkB_no hlk j List.mem_cons_self)
    exact ⟨_, h1, .inl ⟨rfl, _, .inl (.inl h4)⟩, q, vs, rfl, rfl, h4, h _ _ _ (up [] n [] (Nat.zero_le _) (by simp [Reps]))⟩
  · exact h.elim
/-- y = x.pop(e) -/
theorem vs_popA {j l : Nat} {x y : Str} {py : Pos} (hN : X.N[j]? = some x) (hv : Vis X.env.scope x) (hd : (x == ("__debug__" : Str)) = false) (hcd : (x == ("__classdict__" : Str)) = false) (he : PE X e (tP T C G Y ee)) (hs : notStar e = true) (hl : (apos.endLine == cpos.line) = true)
    (hnd : X.N.Nodup) (hi : X.N[l]? = some y) (hx : Loc X.env.scope y) (hf : X.fn y = true ∨ X.env.scope.names.lookup y = some .local) :
    PS X (.Assign [.Name y py] (.Call (.Attribute (.Name x px) "pop" apos) [e] [] cpos) pos) (tS T W C G Y B (.popA l j ee)) := by
  refine PS_weak (ps_set hnd hi hx (pe_bm PySem.F.plainAttrs_list PySem.F.slot_list_pop PySem.F.type_list_pop mt_popAt (pe_var hN hv hd hcd) (pa_cons he pa_nil (star_cons hs)) (attr_base rfl) (by rw [star_cons hs]; rfl) hl (star_cons hs) rfl) rfl hf) fun D' σ H => ?_
  rintro ⟨ex, E, S, h⟩
  simp only [exec] at h
  split at h
  rotate_left
  · exact h.elim
  rename_i hlk
  have nl := lkB_no hlk j (by simp)
  have nl2 := lkB_no hlk l (by simp)
  split at h
  · rename_i ds n ho
    obtain ⟨q, vs, h1, h2, h3, h3', h4, h5, h6, up⟩ := S.ownL ho nl
    refine ⟨_, h1, .inl ⟨rfl, _, .inl (.inl h4)⟩, ?_⟩
    show tP T C G Y ee σ H fun y H1 => rPopAt (.ref q) [y] H1 fun z H2 => D'.nx (σ.set l (some z)) H2
    refine st_bind S h fun x v H1 P1 S2 hh => ?_
    obtain ⟨q', vs', g1, g2, g3, g3', g4, g5, g6, up'⟩ := S2.ownL ho nl
    rw [h1] at g1
    cases g1
    obtain ⟨d, f⟩ := x
    cases d <;> simp only [popV] at hh <;> first | exact hh.elim | skip
    rename_i z
    cases hm : ixN' ds.length z with
    | none => rw [hm] at hh; exact hh.elim
    | some m =>
      rw [hm] at hh
      simp only at hh
      cases hdm : ds[m]? with
      | none => rw [hdm] at hh; exact hh.elim
      | some dm =>
        rw [hdm] at hh
        simp only at hh
        split at hh
        · rename_i hz
          obtain ⟨w, e1, e2⟩ := g6.get hdm
          have hix : ixN vs'.length z = some m := by rw [g6.length]; exact hm
          have hsq := (ixN_seq hix).1
          refine ⟨q, vs', z, m, w, rfl, by rw [P1.val.int], g4, hz.1, hz.2, hsq, e1, ?_⟩
          have S3 := up' (ds.eraseIdx m) n (vs'.eraseIdx m) (Nat.le_trans (List.length_eraseIdx_le _ _) g5) (g6.erase m)
          have e3 : Rep G (cl (B.fr ex) n) (upd H1 q (.lst (vs'.eraseIdx m))) dm w := by
            refine Rep.mono (fun kk b u w' e => ⟨w', ?_⟩) (fun b u im e => ?_) _ _ e2
            · rw [upd_ne fun z => w'.1 (by rw [z]; exact g2)]; exact e
            · rw [upd_ne fun z => by subst z; rw [g4] at e; cases e; cases im]; exact e
          exact hh _ _ _ (S3.set e3 l nl2)
        · exact hh.elim
  · exact h.elim
/-- x[k] = e, a list -/
theorem PS_or {st : Stmt} {t t1 t2 : TS} (h1 : PS X st t1) (h2 : PS X st t2) (w : ∀ D σ H, t D σ H → t1 D σ H ∨ t2 D σ H) : PS X st t := ⟨fun pins s σ H D I q => by
  rcases w D σ H q with q | q
  · exact h1.run pins s σ H D I q
  · exact h2.run pins s σ H D I q⟩
theorem key_dec (j z : Int) : decide ((Sum.inl j : Key) = Sum.inl z) = decide (j = z) := by
  by_cases h : j = z
  · subst h; simp
  · have : ¬ (Sum.inl j : Key) = Sum.inl z := fun w => h (Sum.inl.inj w)
    simp [h, this]
theorem RepK.any {P : Bool → Addr → Prop} (z : Int) : ∀ {ds : List (Int × D)} {vs : List (Key × V)}, RepK G P H ds vs → (vs.any fun kv => decide (kv.1 = (Sum.inl z : Key))) = ds.any fun p => decide (p.1 = z)
  | [], _, h => by simp only [RepK] at h; subst h; rfl
  | (j, e) :: ds, _, h => by
    simp only [RepK] at h
    obtain ⟨w, r, rfl, p, q⟩ := h
    simp only [List.any_cons, key_dec, RepK.any z q]
theorem RepK.mapPut {P : Bool → Addr → Prop} {z : Int} {d : D} {v : V} (hr : Rep G P H d v) : ∀ {ds : List (Int × D)} {vs : List (Key × V)}, RepK G P H ds vs → RepK G P H (ds.map fun p => if p.1 = z then (p.1, d) else p) (vs.map fun kv => if kv.1 = (Sum.inl z : Key) then (kv.1, v) else kv)
  | [], _, h => by simp only [RepK] at h; subst h; simp [RepK]
  | (j, e) :: ds, _, h => by
    simp only [RepK] at h
    obtain ⟨w, r, rfl, p, q⟩ := h
    have ih := RepK.mapPut (z := z) hr q
    simp only [List.map_cons]
    by_cases hj : j = z
    · subst hj
      rw [if_pos rfl, if_pos rfl]
      simp only [RepK]
      exact ⟨v, _, rfl, hr, ih⟩
    · have : ¬ (Sum.inl j : Key) = Sum.inl z := fun w => hj (Sum.inl.inj w)
      rw [if_neg hj, if_neg this]
      simp only [RepK]
      exact ⟨w, _, rfl, p, ih⟩
theorem RepK.snoc {P : Bool → Addr → Prop} {z : Int} {d : D} {v : V} (hr : Rep G P H d v) : ∀ {ds : List (Int × D)} {vs : List (Key × V)}, RepK G P H ds vs → RepK G P H (ds ++ [(z, d)]) (vs ++ [(.inl z, v)])
  | [], _, h => by
    simp only [RepK] at h
    subst h
    simp only [List.nil_append, RepK]
    exact ⟨v, _, rfl, hr, rfl⟩
  | (j, e) :: ds, _, h => by
    simp only [RepK] at h
    obtain ⟨w, r, rfl, p, q⟩ := h
    simp only [List.cons_append, RepK]
    exact ⟨w, _, rfl, p, RepK.snoc hr q⟩
theorem RepK.put {P : Bool → Addr → Prop} {z : Int} {d : D} {v : V} (hr : Rep G P H d v) {ds : List (Int × D)} {vs : List (Key × V)} (h : RepK G P H ds vs) : RepK G P H (putD ds z d) (putK vs (.inl z : Key) v) := by
  unfold putD putK
  rw [RepK.any z h]
  split
  · exact RepK.mapPut hr h
  · exact RepK.snoc hr h
theorem putD_len (z : Int) (d : D) (ds : List (Int × D)) : (putD ds z d).length ≤ ds.length + 1 := by
  unfold putD
  split
  · simp
  · simp
theorem vs_set {j : Nat} {x : Str} {pos' : Pos} (hu : X.A.units + 1 < cLine) (hN : X.N[j]? = some x) (hv : Vis X.env.scope x) (hd : (x == ("__debug__" : Str)) = false) (hcd : (x == ("__classdict__" : Str)) = false) (he : PE X e (tP T C G Y ee)) (hk : PE X k (tP T C G Y ek)) (hns : notSlice k = true)
    (hs : swapsWith e (some (.Subscript (.Name x px) k pos')) pos.line X.env = pure false) (hs2 : swapsWithSole [.Subscript (.Name x px) k pos'] e pos.line X.env = pure false) (hw : swappedStores [.Subscript (.Name x px) k pos'] e X.env = pure none) :
    PS X (.Assign [.Subscript (.Name x px) k pos'] e pos) (tS T W C G Y B (.set j ek ee)) := by
  refine PS_or (ps_asg he (pg_sub (pe_var hN hv hd hcd) hk set_list (fun v => by cases k <;> first | rfl | cases hns)) hs2 hw rfl) (ps_dput hu (pe_var hN hv hd hcd) hk he hs) fun D' σ H => ?_
  rintro ⟨ex, E, S, h⟩
  simp only [exec] at h
  split at h
  rotate_left
  · exact h.elim
  rename_i hlk
  have nl := lkB_no hlk j List.mem_cons_self
  obtain ⟨ex1, S1⟩ := S.frz (esc ee) (lkB_cons hlk).2
  split at h
  · rename_i ds n ho
    refine .inl ?_
    show tP T C G Y ee σ H fun y H1 => ∃ v, σ[j]? = some (some v) ∧ tP T C G Y ek σ H1 fun i H2 => rSetL v i y H2 fun H3 => D'.nx σ H3
    refine st_bind S1 h fun x v H1 P1 S2 hh => ?_
    obtain ⟨q, vs, g1, g2, g3, g3', g4, g5, g6, up⟩ := S2.ownL ho nl
    refine ⟨_, g1, st_bind S2 hh fun y u H2 P2 S3 h3 => ?_⟩
    obtain ⟨q', vs', f1, f2, f3, f3', f4, f5, f6, up'⟩ := S3.ownL ho nl
    rw [g1] at f1
    cases f1
    obtain ⟨d, f⟩ := y
    cases d <;> simp only [setLV] at h3 <;> first | exact h3.elim | skip
    rename_i z
    cases hm : ixN' ds.length z with
    | none => rw [hm] at h3; exact h3.elim
    | some m =>
      rw [hm] at h3
      simp only at h3
      split at h3
      · rename_i hc
        refine ⟨q, vs', z, m, rfl, P2.val.int, f4, by rw [f6.length]; exact hm, h3 _ _ _ (up' _ _ _ (by simpa using f5) ?_)⟩
        have r1 : Reps G (cl (B.fr ex1) (n && (x.2.n || x.1.imm))) H2 ds vs' := f6.weak (cl_le fun e => (Bool.and_eq_true_iff.mp e).1)
        have r2 : Rep G (cl (B.fr ex1) (n && (x.2.n || x.1.imm))) H2 x.1 v := ((P1.val.same P2.same).keep hc).weak (cl_le fun e => (Bool.and_eq_true_iff.mp e).2)
        exact r1.set m r2
      · exact h3.elim
  · rename_i ds n ho hno
    refine .inr ?_
    show tP T C G Y ee σ H fun y H1 => ∃ v, σ[j]? = some (some v) ∧ tP T C G Y ek σ H1 fun i H2 => ∃ a H4, v = .ref a ∧ DPut H2 a i y H4 ∧ D'.nx σ H4
    refine st_bind S1 h fun x v H1 P1 S2 hh => ?_
    obtain ⟨q, vs, g1, g2, g3, g3', g4, g5, g6, up⟩ := S2.ownK ho nl
    refine ⟨_, g1, st_bind S2 hh fun y u H2 P2 S3 h3 => ?_⟩
    obtain ⟨q', vs', f1, f2, f3, f3', f4, f5, f6, up'⟩ := S3.ownK ho nl
    rw [g1] at f1
    cases f1
    obtain ⟨d, f⟩ := y
    cases d <;> simp only [setKV] at h3 <;> first | exact h3.elim | skip
    rename_i z
    split at h3
    · rename_i hc
      have ll := lim_line
      have fl := f6.length
      refine ⟨q, _, rfl, by rw [P2.val.int]; exact DPut.k (k := Sum.inl z) f4 (by omega), h3 _ _ _ (up' _ _ _ ?_ ?_)⟩
      · have r1 : RepK G (cl (B.fr ex1) (n && (x.2.n || x.1.imm))) H2 ds vs' := f6.weak (cl_le fun e => (Bool.and_eq_true_iff.mp e).1)
        have r2 : Rep G (cl (B.fr ex1) (n && (x.2.n || x.1.imm))) H2 x.1 v := ((P1.val.same P2.same).keep hc.1).weak (cl_le fun e => (Bool.and_eq_true_iff.mp e).2)
        have := (RepK.put (z := z) r2 r1).length
        rw [this]
        have := putD_len z x.1 ds
        omega
      · have r1 : RepK G (cl (B.fr ex1) (n && (x.2.n || x.1.imm))) H2 ds vs' := f6.weak (cl_le fun e => (Bool.and_eq_true_iff.mp e).1)
        have r2 : Rep G (cl (B.fr ex1) (n && (x.2.n || x.1.imm))) H2 x.1 v := ((P1.val.same P2.same).keep hc.1).weak (cl_le fun e => (Bool.and_eq_true_iff.mp e).2)
        exact RepK.put r2 r1
    · exact h3.elim
  · exact h.elim

/-! ### loops -/
theorem vs_whl {ss : List Stmt} {s : Sxs} (po : PassesOwn (model X.prog X.w) X.A X.env X.xe) (hc : PT X c (tT T C G Y ec)) (hb : PSs X ss (tSs T W C G Y B s)) : PS X (.While c ss [] pos) (tS T W C G Y B (.whl ec s)) := by
  refine PS_weak (ps_while po hc hb) fun D' σ H => ?_
  rintro ⟨ex, E, S, h⟩
  simp only [exec] at h
  generalize hcv : (fun E => (ev T C ec E).bind fun k => boolR k fun k => R.ok k) = cv at h
  generalize hbv : (fun E => execs T W C s B.L E) = bv at h
  refine ⟨fun m σ H => ∃ ex E, Sim G (B.fr ex) E σ H ∧ (whlV cv bv m E).sat (SPo G B D') (wishB G Y B), ⟨W, ex, E, S, h⟩, ?_⟩
  rintro m σ H ⟨ex, E, S, h⟩
  cases m with
  | zero => exact h.elim
  | succ m =>
    simp only [whlV] at h
    rw [← hcv] at h
    simp only at h
    have h2 : ((ev T C ec E).bind fun x => boolR x fun k => if k = true then (bv E).bind fun f => match f with | .nx E' => whlV cv bv m E' | .rt d n => .ok (.rt d n) | .rx i d n => .ok (.rx i d n) else .ok (.nx E)).sat (SPo G B D') (wishB G Y B) := by
      rw [hcv] at h
      rw [R.sat_bind, R.sat_bind] at h
      rw [R.sat_bind]
      refine R.sat_mono h (fun x q => ?_) fun _ z => z
      obtain ⟨d, f⟩ := x
      cases d <;> simp only [boolR] at q ⊢ <;> exact q
    refine stT_bind S h2 fun kk H1 S1 h1 => ?_
    cases kk with
    | true =>
      show ∃ N : St → Hp → Prop, _
      refine ⟨fun σ' H' => ∃ ex E, Sim G (B.fr ex) E σ' H' ∧ (whlV cv bv m E).sat (SPo G B D') (wishB G Y B), fun σ' H' q => ⟨m, Nat.lt_succ_self _, q⟩, ?_⟩
      have h1 : ((bv E).bind fun f => match f with | .nx E' => whlV cv bv m E' | .rt d n => .ok (.rt d n) | .rx i d n => .ok (.rx i d n)).sat (SPo G B D') (wishB G Y B) := h1
      rw [R.sat_bind, ← hbv] at h1
      refine ⟨ex, E, S1, R.sat_mono h1 (fun f q => ?_) fun _ z => z⟩
      cases f with
      | nx E' => exact fun ex' σ' H' S' => ⟨ex', E', S', by rw [hbv] at q; exact q⟩
      | rt d n => exact q
      | rx i d n => exact q
    | false => exact h1 _ _ _ S1
/-- for .. over what is not locked -/
theorem vs_forS {ss : List Stmt} {s : Sxs} {t : Tg} {it : It} (po : PassesOwn (model X.prog X.w) X.A X.env X.xe) (hc : X.calm = true) (hi : PI X tg iter (tI T C G Y it)) (hg : PG X tg (tG G t)) (hb : ∀ B, PSs X ss (tSs T W C G Y B s)) (hs : ∀ x, foldedSetIterable iter X.env x = pure x) :
    PS X (.For tg iter ss [] pos) (fun D' σ H => ∃ ex E, Sim G (B.fr ex) E σ H ∧ (if lkB B.L (tgSlots t ++ escI it) then (evI T C it (FS.frz E (escI it))).bind fun p => if p.2.2 then forV (fun x E => (tgV E t x p.2.1).bind fun E' => execs T W C s B.L E') p.1 (FS.frz E (escI it)) else .bad else .bad).sat (SPo G B D') (wishB G Y B)) := by
  -- the pins that a loop adds are known only within: one reading for all of them
  have hall : PSs X ss (fun D σ H => ∃ pins, tSs T W C G Y { B with pin := pins } s D σ H) := ⟨fun pins s' σ H D I ⟨pn, q⟩ => (hb { B with pin := pn }).run pins s' σ H D I q⟩
  refine PS_weak (ps_for po hc hi hg hall hs) fun D' σ H => ?_
  rintro ⟨ex, E, S, h⟩
  split at h
  rotate_left
  · exact h.elim
  rename_i hlk
  have nlt : ∀ j ∈ tgSlots t, NoLk B.lk B.io j := fun j z => lkB_no hlk _ (List.mem_append_left _ z)
  obtain ⟨ex1, S1⟩ := S.frz (escI it) (lkB_app hlk).2
  rw [R.sat_bind] at h
  refine ⟨_, _, S1, R.sat_mono h (fun pr q => ?_) fun c z => S1.wish z⟩
  obtain ⟨ds, n, c⟩ := pr
  intro J H1 kp rt s1 Wk hk hpin
  simp only at q Wk hpin
  split at q
  · rename_i hcl
    obtain ⟨pins, hp1, hp2⟩ := hpin hcl
    have S2 := S1.same s1
    generalize frz E (escI it) = E1 at q S2
    generalize htu : (fun x E => (tgV E t x n).bind fun E' => execs T W C s B.L E') = turn at q
    let B' : Bs := { B with pin := pins ++ B.pin }
    have SB : ∀ {ex : Xc} {E : SEnv} {σ : St} {H : Hp}, Sim G (B'.fr ex) E σ H → Sim G (B.fr ex) E σ H := fun {ex E σ H} S => ⟨S.len, S.ent, S.slot, S.dis, fun r hr => S.pin r (List.mem_append_right _ hr), S.exH, S.lk, ⟨S.dp.slot, S.dp.slf, S.dp.rgx, S.dp.rgj, S.dp.rgo, S.dp.rgm, S.dp.io, S.dp.slo, S.dp.sl0, S.dp.hk⟩⟩
    have kB : ∀ {ex : Xc} {E : SEnv} {σ : St} {H : Hp}, Sim G (B'.fr ex) E σ H → kp (B'.fr ex) H := fun {ex E σ H} S => hp2 _ _ fun r hr => S.pin r (List.mem_append_left _ hr)
    have S3 : Sim G (B'.fr ex1) E1 σ H1 := ⟨S2.len, S2.ent, S2.slot, S2.dis, fun r hr => by
      rcases List.mem_append.mp hr with hr | hr
      · exact hp1 r hr
      · exact S2.pin r hr, S2.exH, S2.lk, ⟨S2.dp.slot, S2.dp.slf, S2.dp.rgx, S2.dp.rgj, S2.dp.rgo, S2.dp.rgm, S2.dp.io, S2.dp.slo, S2.dp.sl0, S2.dp.hk⟩⟩
    have Sp : ∀ f, SPo G B D' f → ∀ {N : St → Hp → Prop}, (∀ E', f = .nx E' → ∀ ex σ' H', Sim G (B'.fr ex) E' σ' H' → N σ' H') → SPo G B' { D' with nx := N, ct := N, bk := D'.nx } f := fun f q N hN => by
      cases f with
      | nx E' => exact hN E' rfl
      | rt d n => exact q
      | rx i d n => exact q
    refine ⟨fun i m σ H => m = ds.length - i ∧ i ≤ ds.length ∧ ∃ ex E, Sim G (B'.fr ex) E σ H ∧ (forV turn (ds.drop i) E).sat (SPo G B D') (wishB G Y B), ⟨ds.length, by simp, Nat.zero_le _, ex1, E1, S3, q⟩, ?_⟩
    rintro i m σ H ⟨rfl, hi, ex, E, S, h⟩
    by_cases hlt : i < ds.length
    · refine .inr ⟨Wk.go _ _ _ (kB S) hlt, fun σ' H' => i + 1 ≤ ds.length ∧ ∃ ex E, Sim G (B'.fr ex) E σ' H' ∧ (forV turn (ds.drop (i + 1)) E).sat (SPo G B D') (wishB G Y B), fun σ' H' ⟨h1, h2⟩ => ⟨ds.length - (i + 1), by omega, rfl, h1, h2⟩, fun x H2 y => ?_⟩
      obtain ⟨s3, k3, r3⟩ := Wk.yld _ _ _ _ _ _ (kB S) (List.getElem?_eq_getElem hlt) y
      rw [List.drop_eq_getElem_cons hlt] at h
      simp only [forV] at h
      rw [R.sat_bind, ← htu] at h
      simp only at h
      rw [R.sat_bind] at h
      cases hE : tgV E t ds[i] n with
      | bad => rw [hE] at h; exact h.elim
      | exc cc =>
        exfalso
        unfold tgV at hE
        split at hE <;> cases hE
      | ok E' =>
        rw [hE, R.sat_ok] at h
        refine ⟨_, E, _, n, S.same s3, nlt, r3, E', hE, fun σ' S4 _ => ⟨_, ex, E', S4, R.sat_mono h (fun f q => ?_) fun _ z => z⟩⟩
        cases f with
        | nx E2 => exact fun ex' σ2 H3 S5 => ⟨hlt, ex', E2, S5, by rw [htu] at q; exact q⟩
        | rt d n => exact q
        | rx i d n => exact q
    · have e : i = ds.length := by omega
      subst e
      refine .inl ⟨Wk.stop _ _ _ (kB S) (Nat.le_refl _), ?_⟩
      rw [List.drop_length] at h
      simp only [forV] at h
      exact h _ _ _ (SB S)
  · exact q.elim

/-- an own list is locked -/
abbrev Bs.lock (B : Bs) (j : Nat) (a : Addr) (ds : List D) (n : Bool) : Bs := { B with lk := (j, a, ds, n) :: B.lk, L := j :: B.L, hL := ⟨fun p hp => by
  rcases List.mem_cons.mp hp with rfl | hp
  · exact List.mem_cons_self
  · exact List.mem_cons_of_mem _ (B.hL.1 p hp), fun p hp => List.mem_cons_of_mem _ (B.hL.2.1 p hp), fun p hp => List.mem_cons_of_mem _ (B.hL.2.2 p hp)⟩ }
/-- for .. in x, x an own list: it is locked meanwhile -/
theorem vs_forO {ss : List Stmt} {s : Sxs} {t : Tg} {j : Nat} {x : Str} (hK : X.K = G.K) (po : PassesOwn (model X.prog X.w) X.A X.env X.xe) (hc : X.calm = true) (hN : X.N[j]? = some x) (hv : Vis X.env.scope x) (hd : (x == ("__debug__" : Str)) = false) (hcd : (x == ("__classdict__" : Str)) = false)
    (hg : PG X tg (tG G t)) (hb : ∀ B, PSs X ss (tSs T W C G Y B s)) (hs : ∀ v, foldedSetIterable (.Name x px) X.env v = pure v) : PS X (.For tg (.Name x px) ss [] pos) (fun D' σ H => ∃ ex E ds n, Sim G (B.fr ex) E σ H ∧ ownL E j = some (ds, n) ∧ (lkB B.L (tgSlots t) && !(tgSlots t).contains j) = true ∧
      (forV (fun y E => (tgV E t y n).bind fun E' => execs T W C s (j :: B.L) E') ds E).sat (SPo G B D') (wishB G Y B)) := by
  have hall : PSs X ss (fun D σ H => ∃ a ds n, tSs T W C G Y (B.lock j a ds n) s D σ H) := ⟨fun pins s' σ H D I ⟨a, ds, n, q⟩ => (hb (B.lock j a ds n)).run pins s' σ H D I q⟩
  refine PS_weak (ps_for po hc (pi_list (pe_var hN hv hd hcd)) hg hall hs) fun D' σ H => ?_
  rintro ⟨ex, E, ds, n, S, ho, hlk, q⟩
  rw [Bool.and_eq_true] at hlk
  have he := ownL_some ho
  obtain ⟨v, hv, a, rfl, hx, h0, h1, vs, h2, h3, h4⟩ := S.slot j _ he
  refine ⟨_, hv, a, rfl, ⟨vs, SqL.of h2⟩, ?_⟩
  rw [hK]
  let B' : Bs := B.lock j a ds n
  have nlt : ∀ i ∈ tgSlots t, NoLk B'.lk B'.io i := fun i z => ⟨fun p hp w => by
    rcases List.mem_cons.mp hp with e | e
    · subst e
      have := hlk.2
      simp only [Bool.not_eq_true', List.contains_eq_mem, decide_eq_false_iff_not] at this
      exact this (by rw [show j = i from w]; exact z)
    · exact (lkB_no hlk.1 _ z).1 p e w, (lkB_no hlk.1 _ z).2⟩
  have Wk := walk_lst (G := G) (K := G.K) (a := a) (ds := ds) (n := n)
  have SB : ∀ {ex : Xc} {E : SEnv} {σ : St} {H : Hp}, Sim G (B'.fr ex) E σ H → Sim G (B.fr ex) E σ H := fun {ex E σ H} S => ⟨S.len, S.ent, S.slot, S.dis, S.pin, S.exH, fun p hp => S.lk p (List.mem_cons_of_mem _ hp), ⟨S.dp.slot, S.dp.slf, S.dp.rgx, S.dp.rgj, S.dp.rgo, S.dp.rgm, S.dp.io, S.dp.slo, S.dp.sl0, S.dp.hk⟩⟩
  have kB : ∀ {ex : Xc} {E : SEnv} {σ : St} {H : Hp}, Sim G (B'.fr ex) E σ H → ∃ vs, H a = some (.lst vs) ∧ vs.length ≤ sizeLine ∧ Reps G (cl (B'.fr ex) n) H ds vs := fun {ex E σ H} S => by
    obtain ⟨e1, e2⟩ := S.lk _ List.mem_cons_self
    obtain ⟨v, hv, b, rfl, _, _, _, vs, h2, h3, h4⟩ := S.slot j _ e1
    have e2 : σ[j]? = some (some (.ref a)) := e2
    rw [e2] at hv
    cases hv
    exact ⟨vs, h2, h3, h4⟩
  have S3 : Sim G (B'.fr ex) E σ H := ⟨S.len, S.ent, S.slot, S.dis, S.pin, S.exH, fun p hp => by
    rcases List.mem_cons.mp hp with e | e
    · subst e
      exact ⟨he, hv⟩
    · exact S.lk p e, ⟨S.dp.slot, S.dp.slf, S.dp.rgx, S.dp.rgj, S.dp.rgo, S.dp.rgm, S.dp.io, S.dp.slo, S.dp.sl0, S.dp.hk⟩⟩
  generalize htu : (fun y E => (tgV E t y n).bind fun E' => execs T W C s (j :: B.L) E') = turn at q
  refine ⟨fun i m σ H => m = ds.length - i ∧ i ≤ ds.length ∧ ∃ ex E, Sim G (B'.fr ex) E σ H ∧ (forV turn (ds.drop i) E).sat (SPo G B D') (wishB G Y B), ⟨ds.length, by simp, Nat.zero_le _, ex, E, S3, q⟩, ?_⟩
  rintro i m σ H ⟨rfl, hi, ex, E, S, h⟩
  by_cases hlt : i < ds.length
  · refine .inr ⟨Wk.go _ _ _ (kB S) hlt, fun σ' H' => i + 1 ≤ ds.length ∧ ∃ ex E, Sim G (B'.fr ex) E σ' H' ∧ (forV turn (ds.drop (i + 1)) E).sat (SPo G B D') (wishB G Y B), fun σ' H' ⟨h1, h2⟩ => ⟨ds.length - (i + 1), by omega, rfl, h1, h2⟩, fun x H2 y => ?_⟩
    obtain ⟨s3, k3, r3⟩ := Wk.yld _ _ _ _ _ _ (kB S) (List.getElem?_eq_getElem hlt) y
    rw [List.drop_eq_getElem_cons hlt] at h
    simp only [forV] at h
    rw [R.sat_bind, ← htu] at h
    simp only at h
    rw [R.sat_bind] at h
    cases hE : tgV E t ds[i] n with
    | bad => rw [hE] at h; exact h.elim
    | exc cc =>
      exfalso
      unfold tgV at hE
      split at hE <;> cases hE
    | ok E' =>
      rw [hE, R.sat_ok] at h
      refine ⟨_, E, _, n, S.same s3, nlt, r3, E', hE, fun σ' S4 _ => ⟨a, ds, n, ex, E', S4, R.sat_mono h (fun f q => ?_) fun _ z => z⟩⟩
      cases f with
      | nx E2 => exact fun ex' σ2 H3 S5 => ⟨hlt, ex', E2, S5, by rw [htu] at q; exact q⟩
      | rt d n => exact q
      | rx i d n => exact q
  · have e : i = ds.length := by omega
    subst e
    refine .inl ⟨Wk.stop _ _ _ (kB S) (Nat.le_refl _), ?_⟩
    rw [List.drop_length] at h
    simp only [forV] at h
    exact h _ _ _ (SB S)
/-- for .. in x, whatever x is -/
theorem vs_forN {ss : List Stmt} {s : Sxs} {t : Tg} {j : Nat} {x : Str} (hK : X.K = G.K) (po : PassesOwn (model X.prog X.w) X.A X.env X.xe) (hc : X.calm = true) (hN : X.N[j]? = some x) (hv : Vis X.env.scope x) (hd : (x == ("__debug__" : Str)) = false) (hcd : (x == ("__classdict__" : Str)) = false)
    (hi : PI X tg (.Name x px) (tI T C G Y (.seq (.var j)))) (hg : PG X tg (tG G t)) (hb : ∀ B, PSs X ss (tSs T W C G Y B s)) (hs : ∀ v, foldedSetIterable (.Name x px) X.env v = pure v) : PS X (.For tg (.Name x px) ss [] pos) (tS T W C G Y B (.for t (.seq (.var j)) s)) := by
  refine PS_or (vs_forO (B := B) hK po hc hN hv hd hcd hg hb hs) (vs_forS (B := B) po hc hi hg hb hs) fun D' σ H => ?_
  rintro ⟨ex, E, S, h⟩
  simp only [exec] at h
  cases ho : ownL E j with
  | some p =>
    obtain ⟨ds, n⟩ := p
    have e : ownIt E (.seq (.var j)) = some (j, ds, n) := by simp only [ownIt, ho]
    rw [e] at h
    simp only at h
    split at h
    · rename_i hl
      exact .inl ⟨ex, E, ds, n, S, ho, hl, h⟩
    · exact h.elim
  | none =>
    have e : ownIt E (.seq (.var j)) = none := by simp only [ownIt, ho]
    rw [e] at h
    exact .inr ⟨ex, E, S, h⟩
/-- for .. where no own list is walked by its name -/
theorem vs_for {ss : List Stmt} {s : Sxs} {t : Tg} {it : It} (po : PassesOwn (model X.prog X.w) X.A X.env X.xe) (hc : X.calm = true) (hno : ∀ E, ownIt E it = none) (hi : PI X tg iter (tI T C G Y it)) (hg : PG X tg (tG G t)) (hb : ∀ B, PSs X ss (tSs T W C G Y B s)) (hs : ∀ x, foldedSetIterable iter X.env x = pure x) : PS X (.For tg iter ss [] pos) (tS T W C G Y B (.for t it s)) :=
  PS_weak (vs_forS po hc hi hg hb hs) fun D' σ H ⟨ex, E, S, h⟩ => ⟨ex, E, S, by simp only [exec, hno] at h; exact h⟩

/-! ### raise -/
theorem vs_rai {cn : Str} {m : Str} {j : Nat} {p2 : Pos} {Ce : Addr} {bmB : List Value} {Bn newId initId : String} (hc : X.calm = true) (tk : Takes X fun cls d _ H => Y cls d H) (Fe : ExcBaseFacts Bn newId initId bmB) (xi : PySem.W.excIn X.K Ce bmB newId = true) (gC : X.mg cn = some (.ref Ce)) (kC : PySem.W.keepIn X.K (.ref Ce) = true)
    (rs : Raises X (.ref Ce)) (hg : L2.Gl X cn) (hdb : (cn == ("__debug__" : Str)) = false) (he : G.ecls cn = some Ce) : PS X (.Raise (some (.Call (.Name cn p) [.Constant (.str m) j p2] [] apos)) none pos) (tS T W C G Y B (.rai cn)) := by
  refine PS_weak (ps_raise hc tk (pmk_own Fe xi gC kC rs hg hdb)) fun D' σ H => ?_
  rintro ⟨ex, E, S, h⟩
  simp only [exec] at h
  have h : wishB G Y B cn := h
  obtain ⟨Ca, h1, h2⟩ := h H (S.entB (Same.refl _))
  rw [he] at h1
  cases h1
  exact h2
end
end FS

/-! FS12: chains, globals, isinstance, len(set()), a comprehension on its own line, tuple targets. -/
namespace FS
open PySem L2

section
variable {T : Tb} {W : Nat} {C : Fid → List D → R (D × Bool)} {G : GT} {Y : XK} {X : Cx} {B : Bs} {ex : Xc} {E : SEnv} {σ : St} {H H' : Hp} {a b c o i e k tg iter : Expr} {ea eb ec eo ei ee ek : Ex} {es : List Expr} {ees : Exs} {pos apos cpos px p : Pos} {D' : Ends}

/-! ### chains -/
theorem ve_chn {op op' : CmpOp} (hK : X.K = G.K) (hu : X.A.units + 65 < cLine) (hm : lastMarks [op, op'] [b, c] = false) (ha : PE X a (tP T C G Y ea)) (hb : PE X b (tP T C G Y eb)) (hc : PE X c (tP T C G Y ec)) : PE X (.Compare a [op, op'] [b, c] pos) (tP T C G Y (.chn op op' ea eb ec)) := by
  refine PE_weak (pe_chain (op_cmp hu op) (op_cmp hu op') ha hb hc hm) fun σ H Q ⟨F, E, S, h⟩ => ?_
  simp only [ev] at h
  refine tP_bind S h fun x v H1 P1 S1 h1 => tP_bind S1 h1 fun y u H2 P2 S2 h2 => ?_
  rw [R.sat_bind] at h2
  obtain ⟨k, e, q⟩ := sat_of h2 (cmp_ne op _ _)
  rw [hK]
  refine cmV op F H2 x y v u k _ (P1.val.same P2.same) P2.val e ⟨k, rfl, ?_⟩
  cases k with
  | false =>
    rw [if_neg Bool.false_ne_true]
    rw [if_neg Bool.false_ne_true] at q
    exact q _ _ (Post.trans (P1.same.trans P2.same) Post.bl)
  | true =>
    rw [if_pos rfl]
    rw [if_pos rfl] at q
    refine tP_bind S2 q fun z w H3 P3 S3 h3 => ?_
    rw [R.sat_bind] at h3
    obtain ⟨k', e', q'⟩ := sat_of h3 (cmp_ne op' _ _)
    exact cmV op' F H3 y z u w k' _ (P2.val.same P3.same) P3.val e' (q' _ _ (Post.trans ((P1.same.trans P2.same).trans P3.same) Post.bl))

/-! ### globals -/
theorem ve_glb {x : Str} {d : D} {v : V} {u : Value} (hT : T.con x = some d) (hg : L2.Gl X x) (hm : X.mg x = some u) (r : RelV v u) (hd : (x == ("__debug__" : Str)) = false) (hp : ∀ F H, Post G F H H (mkI d) v) : PE X (.Name x pos) (tP T C G Y (.glb x)) :=
  PE_weak (pe_glob hg hm r hd) fun σ H Q ⟨F, E, S, h⟩ => by
    simp only [ev, hT] at h
    exact h _ _ (hp _ _)

/-! ### isinstance -/
/-- the class that is asked for -/
def tyName : Ty → Option String
  | .int => some "int"
  | .bool => some "bool"
  | .list => some "list"
  | .tuple => some "tuple"
  | .str => some "str"
  | .cls _ => none
/-- what isinstance needs of the classes -/
structure IsF (T : Tb) (G : GT) (c : Str) (Ca : Addr) : Prop where
  cls : Cls G.K Ca
  ha : PySem.W.findIn G.K (.ref Ca) "__class__" = some (some (.builtin "object.__class__"))
  hn : PySem.W.specialIn G.K (.builtin "object.__class__") "__get__" = some (some (.builtin "getset_descriptor.__get__"))
  htk : PySem.W.takesIn G.K (.builtin "object.__class__") = some true
  hm : PySem.W.mroIn G.K Ca (.type "object") = some true
  bt : ∀ n, n ∈ ["NoneType", "bool", "int", "str", "list", "tuple"] → PySem.W.kitOne G.K (.type n) (.ref Ca) = some false ∧ PySem.W.kitOne G.K (.ref Ca) (.type n) = some false
  sub : ∀ c' Ca', G.cls c' = some Ca' → PySem.W.kitOne G.K (.ref Ca') (.ref Ca) = some (T.sub c' c)
theorem isi_bt (hI : ∀ c Ca, G.cls c = some Ca → IsF T G c Ca) {n : String} {t : Ty} (hn : tyName t = some n) {d : D} {v : V} {k : Bool} {P : Bool → Addr → Prop} (r : Rep G P H d v) (e : isiV T t d = .ok k) : ∃ ty, TyX G.K H v ty ∧ PySem.W.kitOne G.K ty (.type n) = some k := by
  cases d with
  | non =>
    simp only [Rep] at r
    subst r
    refine ⟨_, .base .non, ?_⟩
    cases t <;> simp only [tyName] at hn <;> cases hn <;> simp only [isiV] at e <;> cases e <;> exact kit_ty (by decide +kernel)
  | bl z =>
    simp only [Rep] at r
    subst r
    refine ⟨_, .base (.bl _), ?_⟩
    cases t <;> simp only [tyName] at hn <;> cases hn <;> simp only [isiV] at e <;> cases e <;> exact kit_ty (by decide +kernel)
  | int z =>
    simp only [Rep] at r
    subst r
    refine ⟨_, .base (.int _), ?_⟩
    cases t <;> simp only [tyName] at hn <;> cases hn <;> simp only [isiV] at e <;> cases e <;> exact kit_ty (by decide +kernel)
  | str z =>
    simp only [Rep] at r
    subst r
    refine ⟨_, .base (.str _), ?_⟩
    cases t <;> simp only [tyName] at hn <;> cases hn <;> simp only [isiV] at e <;> cases e <;> exact kit_ty (by decide +kernel)
  | scr z => cases t <;> simp only [tyName] at hn <;> cases hn <;> simp only [isiV] at e <;> cases e
  | dic z => cases t <;> simp only [tyName] at hn <;> cases hn <;> simp only [isiV] at e <;> cases e
  | exc z => simp only [Rep] at r
  | lst z =>
    simp only [Rep] at r
    obtain ⟨q, vs, rfl, _, h, _⟩ := r
    refine ⟨_, .base (.lst h), ?_⟩
    cases t <;> simp only [tyName] at hn <;> cases hn <;> simp only [isiV] at e <;> cases e <;> exact kit_ty (by decide +kernel)
  | tup z =>
    simp only [Rep] at r
    obtain ⟨q, vs, rfl, h, _⟩ := r
    refine ⟨_, .base (.tup h), ?_⟩
    cases t <;> simp only [tyName] at hn <;> cases hn <;> simp only [isiV] at e <;> cases e <;> exact kit_ty (by decide +kernel)
  | obj z fs =>
    simp only [Rep] at r
    obtain ⟨q, Ca, dx, ws, rfl, _, h, hc, _⟩ := r
    have F := hI _ _ hc
    refine ⟨_, .base (.ins h F.cls F.ha F.hn F.htk F.hm), ?_⟩
    cases t <;> simp only [tyName] at hn <;> cases hn <;> simp only [isiV] at e <;> cases e <;> exact (F.bt _ (by decide)).2
theorem isi_cl (hI : ∀ c Ca, G.cls c = some Ca → IsF T G c Ca) {c : Str} {Ca : Addr} (hc : G.cls c = some Ca) {d : D} {v : V} {k : Bool} {P : Bool → Addr → Prop} (r : Rep G P H d v) (e : isiV T (.cls c) d = .ok k) : ∃ ty, TyX G.K H v ty ∧ PySem.W.kitOne G.K ty (.ref Ca) = some k := by
  have F := hI _ _ hc
  cases d with
  | non =>
    simp only [Rep] at r
    subst r
    simp only [isiV] at e
    cases e
    exact ⟨_, .base .non, (F.bt _ (by decide)).1⟩
  | bl z =>
    simp only [Rep] at r
    subst r
    simp only [isiV] at e
    cases e
    exact ⟨_, .base (.bl _), (F.bt _ (by decide)).1⟩
  | int z =>
    simp only [Rep] at r
    subst r
    simp only [isiV] at e
    cases e
    exact ⟨_, .base (.int _), (F.bt _ (by decide)).1⟩
  | str z =>
    simp only [Rep] at r
    subst r
    simp only [isiV] at e
    cases e
    exact ⟨_, .base (.str _), (F.bt _ (by decide)).1⟩
  | scr z => simp only [isiV] at e; cases e
  | dic z => simp only [isiV] at e; cases e
  | exc z => simp only [Rep] at r
  | lst z =>
    simp only [Rep] at r
    obtain ⟨q, vs, rfl, _, h, _⟩ := r
    simp only [isiV] at e
    cases e
    exact ⟨_, .base (.lst h), (F.bt _ (by decide)).1⟩
  | tup z =>
    simp only [Rep] at r
    obtain ⟨q, vs, rfl, h, _⟩ := r
    simp only [isiV] at e
    cases e
    exact ⟨_, .base (.tup h), (F.bt _ (by decide)).1⟩
  | obj z fs =>
    simp only [Rep] at r
    obtain ⟨q, Ca', dx, ws, rfl, _, h, hc', _⟩ := r
    have F' := hI _ _ hc'
    simp only [isiV] at e
    cases e
    exact ⟨_, .base (.ins h F'.cls F'.ha F'.hn F'.htk F'.hm), F.sub _ _ hc'⟩
theorem isi_at (t : Ty) (d : D) (f : Fl) : biV T (.isi t) [(d, f)] = (match isiV T t d with
    | .ok k => .ok (mkI (.bl k))
    | _ => .bad) := by
  cases d <;> rfl
theorem isi_ne {t : Ty} {x : D × Fl} {c : Str} : biV T (.isi t) [x] ≠ .exc c := by
  obtain ⟨d, f⟩ := x
  rw [isi_at]
  intro h
  split at h <;> cases h
theorem isi_val {t : Ty} {d : D} {f : Fl} {z : D × Fl} (h : biV T (.isi t) [(d, f)] = .ok z) : ∃ k, isiV T t d = .ok k ∧ z = mkI (.bl k) := by
  rw [isi_at] at h
  split at h
  · rename_i e
    cases h
    exact ⟨_, e, rfl⟩
  · cases h
/-- isinstance(e, T) -/
theorem ve_isi {t : Ty} {x : Str} {cv : V} {u : Value} {p2 : Pos} (hK : X.K = G.K) (hg : L2.Gl X "isinstance") (hm : X.mg "isinstance" = none) (hs : notStar e = true) (he : PE X e (tP T C G Y ee)) (hx : PE X (.Name x p2) (tC cv)) (hcv : ClsV cv u)
    (hI : ∀ {d : D} {v : V} {k : Bool} {P : Bool → Addr → Prop} {H : Hp}, Rep G P H d v → isiV T t d = .ok k → ∃ ty, TyX G.K H v ty ∧ PySem.W.kitOne G.K ty u = some k) : PE X (.Call (.Name "isinstance" p) [e, .Name x p2] [] pos) (tP T C G Y (.bi (.isi t) (.cons ee .nil))) := by
  refine PE_weak (pe_callB call_isi hg hm (by first | rfl | decide +kernel) (pa_cons he (pa_cons hx pa_nil) (star_cons hs)) (by decide) (by decide) (star_cons hs) rfl) fun σ H Q ⟨F, E, S, h⟩ => ?_
  simp only [ev, evl] at h
  rw [R.sat_bind, R.sat_bind] at h
  refine ⟨F, E, S, R.sat_mono h (fun x q v H' P => ?_) fun _ z => z⟩
  show rIsi X.K [v, cv] H' Q
  have q : (biV T (.isi t) [x]).sat (fun x => ∀ v H', Post G F H H' x v → Q v H') (wish G Y H) := q
  obtain ⟨z, e1, k1⟩ := sat_of q fun c => isi_ne
  obtain ⟨d, f⟩ := x
  obtain ⟨k, e2, rfl⟩ := isi_val e1
  obtain ⟨ty, h1, h2⟩ := hI P.val.arg e2
  rw [hK]
  exact ⟨v, cv, ty, u, k, rfl, hcv, h1, h2, k1 _ _ (Post.trans P.same Post.bl)⟩

/-! ### len(set(..)) -/
theorem met_dedup {ns : List Int} : ∀ i, i ≤ ns.length → PyProof.Rows.firstMet (fun i => ns.getD i 0) i = dedup (ns.take i)
  | 0, _ => by simp [dedup, PyProof.Rows.firstMet]
  | i + 1, h => by
    have h1 : i < ns.length := h
    rw [PyProof.Rows.firstMet_succ, met_dedup i (Nat.le_of_lt h1), List.take_succ_eq_append_getElem h1]
    unfold dedup
    rw [List.foldl_append]
    have : ns.getD i 0 = ns[i] := by simp [List.getD, List.getElem?_eq_getElem h1]
    simp only [List.foldl_cons, List.foldl_nil, this]
    rfl
theorem dedup_len (ns : List Int) : (dedup ns).length ≤ ns.length := by
  have : ∀ (l acc : List Int), (l.foldl (fun acc x => if acc.any (· == x) then acc else acc ++ [x]) acc).length ≤ acc.length + l.length := by
    intro l
    induction l with
    | nil => intro acc; simp
    | cons x l ih =>
      intro acc
      rw [List.foldl_cons]
      split
      · have := ih acc
        simp only [List.length_cons]
        omega
      · have := ih (acc ++ [x])
        simp only [List.length_cons, List.length_append, List.length_nil] at *
        omega
  exact Nat.le_trans (this ns []) (by simp)
def tLs (K : PySem.W.Frag) (ta : TE) : TE := fun σ H Q => ta σ H fun x H1 => ∃ (l : Addr) (ns : List Int), x = .ref l ∧ SqL K H1 l (ns.map V.int) ∧ ns.length ≤ 1000 ∧ Q (.int ((dedup ns).length : Nat)) H1
theorem pe_ls {ta : TE} {p2 q : Pos} (hc : X.calm = true) (hg : L2.Gl X "len") (hm : X.mg "len" = none) (hg2 : L2.Gl X "set") (hm2 : X.mg "set" = none) (ha : PE X a ta) (hs : notStar a = true) :
    PE X (.Call (.Name "len" p) [.Call (.Name "set" p2) [a] [] q] [] pos) (tLs X.K ta) := by
  refine ⟨fun pins s σ H Q I h => PyProof.Rows.Call_ (ld_blt I hg hm (by rfl) (PyProof.Rows.callWith_builtin1 (PyProof.Rows.args_cons (PyProof.Rows.Call_ (ld_blt I hg2 hm2 (by rfl) (PyProof.Rows.callWith_type1
    (PyProof.Rows.args_cons (thn (ha.run pins s σ H _ I h) fun v s1 ⟨x, H1, I1, r1, q1⟩ => PyProof.Rows.args_nil ?_) (star_cons hs)) (star_cons hs) rfl))) rfl) rfl rfl))⟩
  obtain ⟨l, ns, e, hq, hl, qq⟩ := q1
  subst e
  cases r1
  obtain ⟨its, r, pl, hz⟩ := I1.list hq
  have hlen : its.toArray.size = ns.length := by simp [List.size_toArray, ← r.length]
  refine PySem.call_set_list (ns := ns) (I1.ok.hd hc) pl.isList (by simpa using intsAre_of r) (by rw [hlen]; unfold scanBound; omega) fun h' tk hS hk => PyProof.Rows.args_nil ?_
  rw [hlen, met_dedup ns.length (Nat.le_refl _), List.take_length] at hS
  have hd := dedup_len ns
  obtain ⟨o, st, ep, t, ho, hex, hd', _, _, _, hf, hn⟩ := hS
  exact call_len_set ho hex hd' hf (by rw [hn]; omega) ⟨.int (dedup ns).length, H1, (I1.kept (h' := h') (t' := tk) fun b o e => hk b o (Heap.lt_size e) e).tok _, ⟨_, by rw [hn]⟩, qq⟩
theorem ve_lenset {p2 q : Pos} (hK : X.K = G.K) (hc : X.calm = true) (hg : L2.Gl X "len") (hm : X.mg "len" = none) (hg2 : L2.Gl X "set") (hm2 : X.mg "set" = none) (ha : PE X a (tP T C G Y ea)) (hs : notStar a = true) :
    PE X (.Call (.Name "len" p) [.Call (.Name "set" p2) [a] [] q] [] pos) (tP T C G Y (.bi .lenset (.cons ea .nil))) := by
  refine PE_weak (pe_ls hc hg hm hg2 hm2 ha hs) fun σ H Q ⟨F, E, S, h⟩ => ?_
  simp only [ev, evl] at h
  rw [R.sat_bind, R.sat_bind] at h
  refine ⟨F, E, S, R.sat_mono h (fun x q v H' P => ?_) fun _ z => z⟩
  have q : (biV T .lenset [x]).sat (fun x => ∀ v H', Post G F H H' x v → Q v H') (wish G Y H) := q
  obtain ⟨z, e1, k1⟩ := sat_of q (bi_ne _ _)
  obtain ⟨d, f⟩ := x
  simp only [biV] at e1
  cases d <;> simp only [bi1] at e1 <;> first | (cases e1; done) | skip
  rename_i ds _
  cases hi : intsD ds with
  | none => rw [hi] at e1; cases e1
  | some ns =>
    rw [hi] at e1
    simp only at e1
    split at e1
    · rename_i hl
      cases e1
      obtain ⟨l, vs, rfl, h2, h3, h4⟩ := P.val.lst
      obtain ⟨rfl, _⟩ := h4.ints hi
      refine ⟨l, ns, rfl, .inl (.inl h2), hl, k1 _ _ (Post.trans P.same Post.int)⟩
    · cases e1

/-! ### assignments -/
theorem tG_asg {t : Tg} {x : D × Fl} {v : V} {E' : SEnv} (S : Sim G (B.fr ex) E σ H') (nlt : ∀ j ∈ tgSlots t, NoLk B.lk B.io j) (P : Post G (B.fr ex) H H' x v) (hc : x.2.c = true) (e : tgV E t x.1 x.2.n = .ok E') (h : (R.ok (Fw.nx E')).sat (SPo G B D') (wishB G Y B)) : tG G t v σ H' D'.nx :=
  ⟨_, E, x.1, x.2.n, S, nlt, P.val.rep hc, E', e, fun σ' S' _ => h _ _ _ S'⟩
/-- a, b = e -/
theorem vs_asgT {is : List Nat} (he : PE X e (tP T C G Y ee)) (hg : PG X tg (tG G (.tp is))) (hs2 : swapsWithSole [tg] e pos.line X.env = pure false) (hw : swappedStores [tg] e X.env = pure none) (h1 : (assignEach [tg] X.env).map (·.2) = [assign tg X.env]) :
    PS X (.Assign [tg] e pos) (tS T W C G Y B (.asgT is ee)) := by
  refine PS_weak (ps_asg he hg hs2 hw h1) fun D' σ H => ?_
  rintro ⟨ex, E, S, h⟩
  simp only [exec] at h
  split at h
  rotate_left
  · exact h.elim
  rename_i hlk
  have nlt : ∀ j ∈ tgSlots (.tp is), NoLk B.lk B.io j := fun j z => lkB_no (lkB_app hlk).1 _ z
  obtain ⟨ex1, S1⟩ := S.frz (esc ee) (lkB_app hlk).2
  show tP T C G Y ee σ H fun x H1 => tG G (.tp is) x σ H1 D'.nx
  refine st_bind S1 h fun x v H1 P1 S2 hh => ?_
  split at hh
  · rename_i hc
    cases e : tgV (frz E (esc ee)) (.tp is) x.1 x.2.n with
    | bad => rw [e] at hh; exact hh.elim
    | exc c =>
      exfalso
      unfold tgV at e
      split at e <;> cases e
    | ok E' =>
      rw [e] at hh
      exact tG_asg S2 nlt P1 hc e hh
  · exact hh.elim
/-- x = [.. for ..] on one line -/
theorem vs_setLc {i : Nat} {y : Str} {py : Pos} {elt iter : Expr} {ifs : List Expr} {scope : Scope} {own : List (Str × Nat)} {it : It} {t : Tg} {eelt econd : Ex} {spos : Pos} (hc : X.calm = true) (hN : X.N.Nodup) (hy : X.N[i]? = some y) (hyl : X.env.scope.names.lookup y = some .local)
    (hsw : swapsWith (.ListComp elt [⟨tg, iter, ifs, 0⟩] scope pos) (some (.Name y py)) spos.line X.env = pure true) (hi : PI X tg iter (tI T C G Y it)) (ok : BlkOk X.N X.env.scope scope own)
    (ho : ∀ j ∈ tgSlots t, j ∈ own.map (·.2))
    (hg : ∀ (s : Shared) (H : Hp) (K : Addr) (cs : List (Str × Addr)) (fp : List Addr), PG (X.blk s H scope (compEnvC scope cs K X.env) fp) tg (tG G t))
    (ht : ∀ (s : Shared) (H : Hp) (K : Addr) (cs : List (Str × Addr)) (fp : List Addr), PTv T C G Y0 (X.blk s H scope (compEnvC scope cs K X.env) fp) ifs econd)
    (he : ∀ (s : Shared) (H : Hp) (K : Addr) (cs : List (Str × Addr)) (fp : List Addr), PE (X.blk s H scope (compEnvC scope cs K X.env) fp) elt (tP T C G Y0 eelt))
    (hs : ∀ x, foldedSetIterable iter X.env x = pure x) : PS X (.Assign [.Name y py] (.ListComp elt [⟨tg, iter, ifs, 0⟩] scope pos) spos) (tS T W C G Y B (.asg i (.comp eelt t it econd (own.map (·.2))))) := by
  refine PS_weak (ps_setLc hc hN hy hyl hsw hi ok hg (fun s H K cs fp => (ht s H K cs fp).h) he hs) fun D' σ H => ?_
  rintro ⟨ex, E, S, h⟩
  simp only [exec] at h
  split at h
  rotate_left
  · exact h.elim
  rename_i hlk
  obtain ⟨ex1, S1⟩ := S.frz (esc (.comp eelt t it econd (own.map (·.2)))) (lkB_cons hlk).2
  show tLc (tI T C G Y it) (tG G t) (tT T C G Y0 econd) (tP T C G Y0 eelt) (own.map (·.2)) σ H fun x H1 => D'.nx (σ.set i (some x)) H1
  refine comp_core ho (st_bind S1 h fun x v H1 P1 S2 hh => ?_)
  exact asg_ok (lkB_no hlk i List.mem_cons_self) S1 P1 hh
end
end FS

/-! FS13: objects: fields, makers. -/
namespace FS
open PySem L2

/-- an own object outside of what the arguments may hold -/
def iniP (P : Bool → Addr → Prop) (a : Addr) (k : Bool) (b : Addr) : Prop := P k b ∧ b ≠ a
/-- all but a stands -/
def But (a : Addr) (H H' : Hp) : Prop := ∀ b o, b ≠ a → H b = some o → H' b = some o
/-- a maker's promise -/
def spI (G : GT) (C : Fid → List D → R (D × Bool)) (c : Str) : Sp := fun vs H Q W => ∃ (P : Bool → Addr → Prop) (a : Addr) (c' : Str) (Ca dx : Addr) (ds : List D) (r : List V), vs = .ref a :: r ∧ H a = some (.ins Ca dx []) ∧ G.cls c' = some Ca ∧ Reps G (iniP P a) H ds r ∧
  (C (.ini c) (.obj c' [] :: ds)).sat (fun q => ∀ H', But a H H' → (∃ fs dx' ws, q.1 = .obj c' fs ∧ H' a = some (.ins Ca dx' ws) ∧ RepF G (outP H (iniP P a) q.2) H' fs ws ∧ (q.2 = true → ∃ fp, RepTf G (outP H (iniP P a) true) H' fs ws fp ∧ fp.Nodup ∧ ∀ b ∈ fp, H b = none)) → Q .non H')
    fun e => ∀ H', But a H H' → ∃ Ce, G.ecls e = some Ce ∧ W (.ref Ce) none H'

section
variable {T : Tb} {W : Nat} {C : Fid → List D → R (D × Bool)} {G : GT} {Y : XK} {X : Cx} {B : Bs} {ex : Xc} {E : SEnv} {σ : St} {H H' : Hp} {a b c o i e k tg iter : Expr} {ea eb ec eo ei ee ek : Ex} {es : List Expr} {ees : Exs} {pos apos cpos px p : Pos} {D' : Ends}
theorem ownO_some {j : Nat} {c : Str} {fs : List (Str × D)} {n : Bool} (h : ownO E j = some (c, fs, n)) : E[j]? = some (some (.own (.obj c fs) n)) := by
  unfold ownO at h
  split at h
  · rename_i e; cases h; exact e
  · cases h
theorem RepF.weak {P P' : Bool → Addr → Prop} {fs : List (Str × D)} {ws : List (Str × V)} (hP : ∀ k a, P k a → P' k a) (h : RepF G P H fs ws) : RepF G P' H fs ws := RepF.mono (fun k a o p e => ⟨hP k a p, e⟩) (fun _ _ _ e => e) fs ws h
theorem RepF.putF {P : Bool → Addr → Prop} {f : Str} {d : D} {v : V} (hr : Rep G P H d v) : ∀ {fs : List (Str × D)} {ws : List (Str × V)}, RepF G P H fs ws → RepF G P H (putO f d fs) (L2.putF f v ws)
  | [], _, h => by
    simp only [RepF] at h
    subst h
    simp only [putO, L2.putF, RepF]
    exact ⟨v, _, rfl, hr, rfl⟩
  | (g, w) :: fs, _, h => by
    simp only [RepF] at h
    obtain ⟨u, r, rfl, p, q⟩ := h
    simp only [putO, L2.putF]
    by_cases e : g = f
    · subst e
      simp only [if_true, RepF]
      exact ⟨v, _, by simp, hr, q⟩
    · rw [if_neg e]
      simp only [RepF]
      exact ⟨u, _, by simp [e], p, RepF.putF hr q⟩
theorem RepF.length {P : Bool → Addr → Prop} : ∀ {fs : List (Str × D)} {ws : List (Str × V)}, RepF G P H fs ws → ws.length = fs.length
  | [], _, h => by simp only [RepF] at h; simp [h]
  | (k, d) :: ds, _, h => by
    simp only [RepF] at h
    obtain ⟨v, r, rfl, _, q⟩ := h
    simp [RepF.length q]
/-- the object that is being made, ready to be written -/
theorem Sim.ownO {j : Nat} {c : Str} {fs : List (Str × D)} {n : Bool} (S : Sim G (B.fr ex) E σ H) (h : FS.ownO E j = some (c, fs, n)) (hl : NoLk B.lk B.io j) : ∃ q Ca dx ws, σ[j]? = some (some (.ref q)) ∧ ex q ∧ B.self = some q ∧ G.cls c = some Ca ∧ H q = some (.ins Ca dx ws) ∧ RepF G (cl (B.fr ex) n) H fs ws ∧
    ∀ (fs' : List (Str × D)) (n' : Bool) (H' : Hp) (dx' : Addr) (ws' : List (Str × V)), But q H H' → H' q = some (.ins Ca dx' ws') → RepF G (cl (B.fr ex) n') H' fs' ws' → Sim G (B.fr ex) (putS E j c fs' n') σ H' := by
  have he := ownO_some h
  obtain ⟨v, hv, q, rfl, hx, h0, Ca, dx, ws, h2, h3, h4⟩ := S.slot j _ he
  refine ⟨q, Ca, dx, ws, hv, hx, h0, h3, h2, h4, fun fs' n' H' dx' ws' bt e r => ?_⟩
  exact S.upd he hv hx (.inr h0) hl bt (by rw [e]; simp) (fun u e => by rw [h2] at e; cases e; rfl) ⟨h0, Ca, dx', ws', e, h3, r⟩
/-- self.f = e -/
theorem vs_fld {x f : Str} {pos' : Pos} (hK : X.K = G.K) (hcl : ∀ c Ca, G.cls c = some Ca → Cls G.K Ca ∧ NoAttr G.K Ca f) (hN : X.N[0]? = some x) (hv : Vis X.env.scope x) (hd : (x == ("__debug__" : Str)) = false) (hcd : (x == ("__classdict__" : Str)) = false) (he : PE X e (tP T C G Y ee))
    (hs : swapsWith e (some (.Attribute (.Name x px) f pos')) pos.line X.env = pure false) : PS X (.Assign [.Attribute (.Name x px) f pos'] e pos) (tS T W C G Y B (.fld f ee)) := by
  refine PS_weak (ps_fld (pe_var hN hv hd hcd) he hs) fun D' σ H => ?_
  rintro ⟨ex, E, S, h⟩
  simp only [exec] at h
  split at h
  rotate_left
  · exact h.elim
  rename_i hlk
  have nl := lkB_no hlk 0 List.mem_cons_self
  obtain ⟨ex1, S1⟩ := S.frz (esc ee) (lkB_cons hlk).2
  split at h
  · rename_i c fs n ho
    show tP T C G Y ee σ H fun y H1 => ∃ v, σ[0]? = some (some v) ∧ ∃ a C dx fs, v = .ref a ∧ H1 a = some (.ins C dx fs) ∧ Cls X.K C ∧ NoAttr X.K C f ∧ fs.length < 1000 ∧ D'.nx σ (L2.upd H1 a (.ins C dx (L2.putF f y fs)))
    refine st_bind S1 h fun x v H1 P1 S2 hh => ?_
    split at hh
    · rename_i hc
      obtain ⟨q, Ca, dx, ws, g1, g2, g3, g4, g5, g6, up⟩ := S2.ownO ho nl
      rw [hK]
      have hl := g6.length
      refine ⟨_, g1, q, Ca, dx, ws, rfl, g5, (hcl _ _ g4).1, (hcl _ _ g4).2, by omega, hh _ _ _ (up _ _ _ dx _ (fun b o hb e => by rw [upd_ne hb]; exact e) upd_same ?_)⟩
      have r1 : RepF G (cl (B.fr ex1) (n && (x.2.n || x.1.imm))) H1 fs ws := g6.weak (cl_le fun e => (Bool.and_eq_true_iff.mp e).1)
      have r2 : Rep G (cl (B.fr ex1) (n && (x.2.n || x.1.imm))) H1 x.1 v := (P1.val.keep hc.1).weak (cl_le fun e => (Bool.and_eq_true_iff.mp e).2)
      refine RepF.mono (fun kk b u w e => ⟨w, ?_⟩) (fun b u im e => ?_) _ _ (RepF.putF r2 r1)
      · rw [upd_ne fun z => w.1 (by rw [z]; exact g2)]; exact e
      · rw [upd_ne fun z => by subst z; rw [g5] at e; cases e; cases im]; exact e
    · exact hh.elim
  · exact h.elim

/-! ### makers -/
/-- a class's maker, called by the class's name: C.__init__(self, ..) -/
structure SupF (K : PySem.W.Frag) (Ca f : Addr) (mc : Value) : Prop where
  ga : PySem.W.specialIn K (.ref Ca) "__getattribute__" = some (some (.builtin "type.__getattribute__"))
  rd : PySem.W.readsIn K Ca mc = true
  at_ : PySem.W.findCls K (.ref Ca) mc "__init__" = some (.val (.ref f))
  kp : PySem.W.keepIn K (.ref f) = true
theorem ps_sup {CX : CXT} {n : Nat} {Ca f : Addr} {fd : FuncData} {ps : List Str} {mc : Value} {cn : Str} {pl : Sem Bool} {sp : Sp} {t : TA} (sf : SupF X.K Ca f mc) (Fo : FnOk X.prog X.w X.K X.mg X.base CX n f fd ps sp) (hr : Room n X.A) (hb : Binds X.K fd ps []) (hx : Passes CX X Y) (hg : L2.Gl X cn) (hm : X.mg cn = some (.ref Ca)) (hdb : (cn == ("__debug__" : Str)) = false) (ha : PA X (e :: es) t)
    (hst : starEach (e :: es) X.env = (false, eval e X.env) :: starEach es X.env) (hpl : (backTo pos (starEach es X.env)).any (·.1) = false)
    (ht : eval (.Call (.Attribute (.Name cn px) "__init__" apos) (e :: es) [] pos) X.env = (do
      let ov ← eval (.Name cn px) X.env
      standAt apos.atName
      let (f, first) ← holding [ov] (getMethod ov "__init__" pl)
      callWith pos f first (backTo pos (starEach (e :: es) X.env)) (backToKw pos (keywordEach [] X.env)))) :
    PE X (.Call (.Attribute (.Name cn px) "__init__" apos) (e :: es) [] pos) (tCall sp [] Y t) := by
  refine ⟨fun pins s σ H Q I h => ?_⟩
  refine PySem.W.methodCall_KW (pl := pl) (ld_glob I hg hm ?_ hdb) ht
  refine PySem.W.method_cls I.kIn sf.ga (PySem.W.cls_value I.kIn sf.rd sf.at_ rfl ?_)
  have I1 := I.tok (s.toks + 1)
  refine PySem.W.callWith_K (first := []) (h₀ := X.base) I.ok.mod.kin sf.kp (thn (ha.run pos pins _ σ H _ I1 h) fun us s2 ⟨vs, H2, I2, r, q2⟩ => ⟨I2.kIn, ?_⟩) hst hpl
  exact run_fn (us := us) (vs := vs) (ds := []) (dvs := []) Fo hr hb .nil hx I2 r q2
theorem st_bindA {β : Type} {f : List (D × Fl) → R β} {q : β → Prop} (S : Sim G (B.fr ex) E σ H) (h : ((evl T C ees E).bind f).sat q (wishB G Y B)) {Q : List V → Hp → Prop}
    (k : ∀ xs vs H', Same H H' → Vals' G (B.fr ex) H' vs xs → Sim G (B.fr ex) E σ H' → (f xs).sat q (wishB G Y B) → Q vs H') : tA T C G Y ees σ H Q := by
  rw [R.sat_bind] at h
  exact ⟨_, _, S, R.sat_mono h (fun xs q vs H' s r => k xs vs H' s r (S.same s) q) fun c z => S.wish z⟩
/-- C.__init__(self, ..) -/
theorem vs_sup {CX : CXT} {n : Nat} {Ca f : Addr} {fd : FuncData} {ps : List Str} {mc : Value} {cn x : Str} {pl : Sem Bool} {p1 : Pos} (sf : SupF X.K Ca f mc) (Fo : FnOk X.prog X.w X.K X.mg X.base CX n f fd ps (spI G C cn)) (hr : Room n X.A) (hb : Binds X.K fd ps []) (hx : Passes CX X Y) (hg : L2.Gl X cn) (hm : X.mg cn = some (.ref Ca)) (hdb : (cn == ("__debug__" : Str)) = false)
    (hN : X.N[0]? = some x) (hv : Vis X.env.scope x) (hd : (x == ("__debug__" : Str)) = false) (hcd : (x == ("__classdict__" : Str)) = false) (ha : PA X es (tA T C G Y ees)) (hs : es.all notStar = true)
    (ht : eval (.Call (.Attribute (.Name cn px) "__init__" apos) (.Name x p1 :: es) [] pos) X.env = (do
      let ov ← eval (.Name cn px) X.env
      standAt apos.atName
      let (f, first) ← holding [ov] (getMethod ov "__init__" pl)
      callWith pos f first (backTo pos (starEach (.Name x p1 :: es) X.env)) (backToKw pos (keywordEach [] X.env))))
    (hsw : swapsWith (.Call (.Attribute (.Name cn px) "__init__" apos) (.Name x p1 :: es) [] pos) none cpos.line X.env = pure false) :
    PS X (.Expr (.Call (.Attribute (.Name cn px) "__init__" apos) (.Name x p1 :: es) [] pos) cpos) (tS T W C G Y B (.supi cn ees)) := by
  refine PS_weak (ps_expr (ps_sup sf Fo hr hb hx hg hm hdb (pa_cons (pe_var hN hv hd hcd) ha (star_cons rfl)) (star_cons rfl) (star_any hs) ht) hsw) fun D' σ H => ?_
  rintro ⟨ex, E, S, h⟩
  simp only [exec] at h
  split at h
  rotate_left
  · exact h.elim
  rename_i hlk
  have nl := lkB_no hlk 0 List.mem_cons_self
  split at h
  · rename_i c fs m ho
    obtain ⟨q, Ca', dx, ws, g1, g2, g3, g4, g5, g6, up⟩ := S.ownO ho nl
    refine ⟨_, g1, ?_⟩
    show tA T C G Y ees σ H fun vs H1 => spI G C cn (.ref q :: vs ++ []) H1 (fun _ H' => D'.nx σ H') Y
    refine st_bindA S h fun xs vs H1 s1 r1 S1 h1 => ?_
    obtain ⟨q', Ca2, dx, ws, f1, f2, f3, f4, f5, f6, up⟩ := S1.ownO ho nl
    rw [g1] at f1
    cases f1
    split at h1
    · rename_i hc
      rw [Bool.and_eq_true] at hc
      have hfs : fs = [] := List.isEmpty_iff.mp hc.2
      subst hfs
      have hw : ws = [] := List.length_eq_zero_iff.mp f6.length
      subst hw
      rw [List.append_nil]
      have hne : ∀ n k b, cl (B.fr ex) n k b → b ≠ q := fun n k b w z => w.1 (by rw [z]; exact f2)
      rw [R.sat_bind] at h1
      refine ⟨cl (B.fr ex) (cmb xs).2.n, q, c, Ca2, dx, _, vs, rfl, f5, f4, (cmb_reps r1 hc.1).weak fun k b w => ⟨w, hne _ _ _ w⟩, R.sat_mono h1 (fun z hz H' bt hq => ?_) fun e hw H' bt => hw H' fun b o h2 h4 h3 => bt b o (fun w => h2 (by rw [w]; exact f3)) (S1.ent b o h2 h4 h3)⟩
      obtain ⟨fs', dx', ws', e1, e2, e3, _⟩ := hq
      rw [e1] at hz
      simp only [if_true] at hz
      refine hz _ _ _ (up fs' _ H' dx' ws' bt e2 (e3.weak fun k b w => ?_))
      rcases w with w | ⟨⟨w1, w2⟩, w3⟩
      · exact S1.new w _ _
      · cases k with
        | false => exact cl_obj w1
        | true =>
          rw [w3 rfl]
          exact cl_le (fun z => by simpa using (Bool.and_eq_true_iff.mp z).2) _ _ w1
    · exact h1.elim
  · exact h.elim
/-- C(..), by what is promised of a call -/
theorem mk_spI {Ca : Addr} {C' : Fid → List D → R (D × Bool)} {c : Str} (hC : ∀ ds, C (.mk c) ds = C' (.ini c) (.obj c [] :: ds)) (hcl : G.cls c = some Ca) {vs : List V} {H1 : Hp} {Q : VK}
    (h : spC G C (.mk c) vs H1 Q Y) (x dx : Addr) (hx : H1 x = none) (hdx : H1 dx = none) (hne : dx ≠ x) :
    spI G C' c (.ref x :: (vs ++ [])) (upd (upd H1 dx (.own x)) x (.ins Ca dx [])) (fun v H2 => v = .non ∧ Q (.ref x) H2) Y := by
  have old : ∀ {b o}, H1 b = some o → (upd (upd H1 dx (.own x)) x (.ins Ca dx [])) b = some o := fun {b o} e => by rw [upd_ne (ne_of_none e hx), upd_ne (ne_of_none e hdx)]; exact e
  have sm : ∀ {H'}, But x (upd (upd H1 dx (.own x)) x (.ins Ca dx [])) H' → Same H1 H' := fun {H'} bt b o e => bt b o (ne_of_none e hx) (old e)
  have nn : ∀ b, (upd (upd H1 dx (.own x)) x (.ins Ca dx [])) b = none → H1 b = none := fun b w => by
    cases z : H1 b with
    | none => rfl
    | some o => rw [old z] at w; cases w
  obtain ⟨P, ds, r1, h1⟩ := h
  rw [hC] at h1
  rw [List.append_nil]
  refine ⟨P, x, c, Ca, dx, ds, vs, rfl, upd_same, hcl, Reps.mono (fun k b o w e => ⟨⟨w, ne_of_none e hx⟩, old e⟩) (fun b o _ e => old e) _ _ r1, R.sat_mono h1 (fun q h2 H' bt hq => ⟨rfl, ?_⟩) fun e hw H' bt => hw H' (sm bt)⟩
  obtain ⟨fs', dx', ws', e1, e2, e3, e4⟩ := hq
  refine h2 _ _ (sm bt) ?_ (fun hn => ?_)
  · rw [e1]
    simp only [Rep]
    refine ⟨x, Ca, dx', ws', rfl, .inl hx, e2, hcl, e3.weak fun k b w => ?_⟩
    rcases w with w | ⟨⟨w1, w2⟩, w3⟩
    · exact .inl (nn b w)
    · exact .inr ⟨w1, w3⟩
  · rw [e1]
    obtain ⟨fp, t1, t2, t3⟩ := e4 hn
    refine ⟨fp, ?_, t2, fun b hb => nn b (t3 b hb)⟩
    simp only [RepT]
    refine ⟨x, Ca, dx', ws', rfl, .inl hx, e2, hcl, RepTf.mono (fun b o w e => ⟨?_, e⟩) (fun b o _ e => e) _ _ _ (fun b _ o e => e) t1⟩
    rcases w with w | ⟨⟨w1, w2⟩, w3⟩
    · exact .inl (nn b w)
    · exact .inr ⟨w1, fun z => by cases z⟩
section
variable {CX : CXT} {n : Nat} {Ca f : Addr} {fd : FuncData} {ps : List Str} {C' : Fid → List D → R (D × Bool)} {c : Str}
/-- the reading of a call -/
def tCC (T : Tb) (C : Fid → List D → R (D × Bool)) (G : GT) (Y : XK) (fid : Fid) (ees : Exs) : TE := fun σ H Q => tA T C G Y ees σ H fun vs H1 => spC G C fid vs H1 Q Y
theorem ve_cc {fid : Fid} (h : PE X e (tCC T C G Y fid ees)) : PE X e (tP T C G Y (.call fid ees)) := by
  refine PE_weak h fun σ H Q ⟨F, E, S, h⟩ => ?_
  simp only [ev] at h
  show tA T C G Y ees σ H fun vs H1 => spC G C fid vs H1 Q Y
  refine tA_bind S h fun xs vs H1 s1 r1 S1 h1 => ?_
  rw [R.sat_bind] at h1
  refine ⟨_, _, r1.args, R.sat_mono h1 (fun q h2 v H' s r rs => ?_) fun _ z => z⟩
  obtain ⟨z, e, k⟩ := sat_of h2 (callF_ne _ _)
  exact k _ _ (Post.trans s1 (callF_post S1 s r rs e))
theorem cc_mk (hC : ∀ ds, C (.mk c) ds = C' (.ini c) (.obj c [] :: ds)) (hcl : G.cls c = some Ca) (M : Mk X.K Ca f) (Fo : FnOk X.prog X.w X.K X.mg X.base CX n f fd ps (spI G C' c)) (hr : Room (n + 1) X.A) (hg : L2.Gl X c) (hm : X.mg c = some (.ref Ca)) (hb : Binds X.K fd ps []) (hx : Passes CX X Y)
    (hd : (c == ("__debug__" : Str)) = false) (hs : (e :: es).all notStar = true) (ha : PA X (e :: es) (tA T C G Y ees)) : PE X (.Call (.Name c p) (e :: es) [] pos) (tCC T C G Y (.mk c) ees) := by
  rw [List.all_cons, Bool.and_eq_true] at hs
  refine PE_weak (pe_make M Fo hr hg hm hb .nil hx ha hd (star_cons hs.1) (star_any hs.2)) fun σ H Q ⟨F, E, S, h⟩ => ?_
  exact ⟨F, E, S, R.sat_mono h (fun xs q vs H1 s1 r1 x dx hx hdx hne => mk_spI hC hcl (q vs H1 s1 r1) x dx hx hdx hne) fun _ z => z⟩
theorem cc_mk0 (hC : ∀ ds, C (.mk c) ds = C' (.ini c) (.obj c [] :: ds)) (hcl : G.cls c = some Ca) (M : Mk X.K Ca f) (Fo : FnOk X.prog X.w X.K X.mg X.base CX n f fd ps (spI G C' c)) (hr : Room (n + 1) X.A) (hg : L2.Gl X c) (hm : X.mg c = some (.ref Ca)) (hb : Binds X.K fd ps []) (hx : Passes CX X Y)
    (hd : (c == ("__debug__" : Str)) = false) : PE X (.Call (.Name c p) [] [] pos) (tCC T C G Y (.mk c) .nil) := by
  refine PE_weak (pe_make0 M Fo hr hg hm hb .nil hx hd) fun σ H Q ⟨F, E, S, h⟩ => ?_
  simp only [evl] at h
  exact fun x dx hx hdx hne => mk_spI (vs := []) hC hcl (h [] H (Same.refl _) .nil) x dx hx hdx hne
theorem ve_mk (hC : ∀ ds, C (.mk c) ds = C' (.ini c) (.obj c [] :: ds)) (hcl : G.cls c = some Ca) (M : Mk X.K Ca f) (Fo : FnOk X.prog X.w X.K X.mg X.base CX n f fd ps (spI G C' c)) (hr : Room (n + 1) X.A) (hg : L2.Gl X c) (hm : X.mg c = some (.ref Ca)) (hb : Binds X.K fd ps []) (hx : Passes CX X Y)
    (hd : (c == ("__debug__" : Str)) = false) (hs : (e :: es).all notStar = true) (ha : PA X (e :: es) (tA T C G Y ees)) : PE X (.Call (.Name c p) (e :: es) [] pos) (tP T C G Y (.call (.mk c) ees)) := ve_cc (cc_mk hC hcl M Fo hr hg hm hb hx hd hs ha)
theorem ve_mk0 (hC : ∀ ds, C (.mk c) ds = C' (.ini c) (.obj c [] :: ds)) (hcl : G.cls c = some Ca) (M : Mk X.K Ca f) (Fo : FnOk X.prog X.w X.K X.mg X.base CX n f fd ps (spI G C' c)) (hr : Room (n + 1) X.A) (hg : L2.Gl X c) (hm : X.mg c = some (.ref Ca)) (hb : Binds X.K fd ps []) (hx : Passes CX X Y)
    (hd : (c == ("__debug__" : Str)) = false) : PE X (.Call (.Name c p) [] [] pos) (tP T C G Y (.call (.mk c) .nil)) := ve_cc (cc_mk0 hC hcl M Fo hr hg hm hb hx hd)
end
end
end FS

/-! FS21: trees are lent; what makes a tree. -/
namespace FS
open PySem L2
section
variable {T : Tb} {W : Nat} {C : Fid → List D → R (D × Bool)} {G : GT} {Y : XK} {X : Cx} {B : Bs} {F : Fr} {ex : Xc} {E : SEnv} {σ : St} {H H' : Hp} {a b c o i e k tg iter : Expr} {ea eb ec eo ei ee ek : Ex} {es : List Expr} {ees : Exs} {pos apos cpos px p : Pos} {D' : Ends}
/-- the frame while the trees are lent -/
abbrev Fr.bor (F : Fr) : Fr := { F with P := fun k a => F.P k a ∨ ∃ i, F.ex.rg i a, ex := ⟨fun a => F.ex a ∧ ∀ i, ¬ F.ex.rg i a, fun _ _ => False⟩, hk := [] }
theorem borE_get {i : Nat} : (borE E)[i]? = (E[i]?).map borS := List.getElem?_map
theorem borE_some {i : Nat} {s : Slot} (h : (borE E)[i]? = some (some s)) : (E[i]? = some (some s) ∧ (∀ d, s ≠ .dep d) ∧ ∀ c fs, s ≠ .slf c fs) ∨ ∃ d, E[i]? = some (some (.dep d)) ∧ s = .shr d false := by
  rw [borE_get] at h
  cases e : E[i]? with
  | none => rw [e] at h; cases h
  | some t =>
    rw [e] at h
    cases t with
    | none => cases h
    | some t =>
      cases t with
      | dep d => cases h; exact .inr ⟨d, rfl, rfl⟩
      | shr d n => cases h; exact .inl ⟨rfl, (fun d z => by cases z), fun c fs z => by cases z⟩
      | own d n => cases h; exact .inl ⟨rfl, (fun d z => by cases z), fun c fs z => by cases z⟩
      | slf c fs => cases h
theorem cl_bor {n k : Bool} {a : Addr} (h : cl F n k a) : cl F.bor n k a := ⟨fun z => h.1 z.1, h.2.imp id fun z => ⟨.inl z.1, z.2⟩⟩
theorem cl_unbor (S : Sim G F E σ H) (s : Same H H') {n m : Bool} {a C dx : Addr} {ws : List (Str × V)} (h : cl F.bor n false a) (e : H' a = some (.ins C dx ws)) : cl F m false a := by
  have nr : ∀ i, ¬ F.ex.rg i a := fun i z => by
    rcases (S.dp.rgx i a z).2 with ⟨vs, g⟩ | ⟨vs, g⟩
    · rw [s _ _ g] at e; cases e
    · rw [s _ _ g] at e; cases e
  refine ⟨fun z => h.1 ⟨z, nr⟩, h.2.imp id fun z => ⟨z.1.elim id fun ⟨i, z⟩ => absurd z (nr i), fun z => nomatch z⟩⟩
theorem Sim.bor (S : Sim G F E σ H) : Sim G F.bor (borE E) σ H := by
  have wk : ∀ n k a o, cl F n k a → H a = some o → cl F.bor n k a ∧ H a = some o := fun n k a o p e => ⟨cl_bor p, e⟩
  refine ⟨by rw [S.len]; exact (List.length_map _).symm, S.ent, fun i s e => ?_, fun i j d d' n n' v hij e1 e2 => ?_, fun p hp => Rep.mono (wk _) (fun _ _ _ e => e) _ _ (S.pin p hp), fun a h => S.exH a (h.imp And.left id), fun p hp => ?_, ⟨fun i d e => ?_, fun i c fs e => ?_, fun i a z => z.elim, fun i j a _ z => z.elim, fun i j d n a _ _ z => z, fun i a z => z.elim, S.dp.io, fun i j c c' fs fs' n e1 e2 => ?_, fun i c fs e => ?_, fun p hp => by simp at hp⟩⟩
  · rcases borE_some e with ⟨e, hd, _⟩ | ⟨d, e2, rfl⟩
    · obtain ⟨v, h1, h2⟩ := S.slot i s e
      refine ⟨v, h1, ?_⟩
      cases s with
      | dep d => exact h2
      | slf c fs => exact h2
      | shr d n => exact Rep.mono (wk n) (fun _ _ _ e => e) _ _ h2
      | own d n =>
        obtain ⟨a, rfl, hx, ho⟩ := h2
        refine ⟨a, rfl, ⟨hx, fun j => S.dp.rgo i j d n a e h1⟩, ?_⟩
        cases d with
        | lst ds => obtain ⟨q1, q2, vs, q3, q4, q5⟩ := ho; exact ⟨q1, q2, vs, q3, q4, Reps.mono (wk n) (fun _ _ _ e => e) _ _ q5⟩
        | dic ds => obtain ⟨q1, q2, vs, q3, q4, q5⟩ := ho; exact ⟨q1, q2, vs, q3, q4, RepK.mono (wk n) (fun _ _ _ e => e) _ _ q5⟩
        | obj c fs => obtain ⟨q2, Ca, dx, ws, q3, q4, q5⟩ := ho; exact ⟨q2, Ca, dx, ws, q3, q4, RepF.mono (wk n) (fun _ _ _ e => e) _ _ q5⟩
        | _ => exact ho
    · obtain ⟨v, h1, fp, h2, h3, h4⟩ := S.dp.slot i d e2
      refine ⟨v, h1, RepT.rep (P' := cl F.bor false) (fun a C dx ws p e => cl_obj (cl_bor p)) d v fp (fun a ha => ?_) h2⟩
      exact ⟨fun z => z.2 i (h4 a ha), .inr ⟨.inr ⟨i, h4 a ha⟩, fun _ => rfl⟩⟩
  · have f1 : E[i]? = some (some (.own d n)) := by
      rcases borE_some e1 with ⟨e, _⟩ | ⟨_, _, z⟩
      · exact e
      · cases z
    have f2 : E[j]? = some (some (.own d' n')) := by
      rcases borE_some e2 with ⟨e, _⟩ | ⟨_, _, z⟩
      · exact e
      · cases z
    exact S.dis i j d d' n n' v hij f1 f2
  · obtain ⟨h1, h2⟩ := S.lk p hp
    refine ⟨?_, h2⟩
    rw [borE_get, h1]
    rfl
  · rcases borE_some e with ⟨_, z, _⟩ | ⟨_, _, z⟩
    · exact absurd rfl (z d)
    · cases z
  · rcases borE_some e with ⟨_, _, z⟩ | ⟨_, _, z⟩
    · exact absurd rfl (z c fs)
    · cases z
  · rcases borE_some e1 with ⟨f1, _⟩ | ⟨_, _, z⟩
    · rcases borE_some e2 with ⟨f2, _⟩ | ⟨_, _, z⟩
      · exact S.dp.slo i j c c' fs fs' n f1 f2
      · cases z
    · cases z
  · rcases borE_some e with ⟨_, _, z⟩ | ⟨_, _, z⟩
    · exact absurd rfl (z c fs)
    · cases z
/-- what is safe holds nothing of what was lent -/
theorem safe_post {x : D × Fl} {v : V} (S : Sim G F E σ H) (P : Post G F.bor H H' x v) (hs : safeB x = true) : Post G F H H' (mkI x.1) v := by
  obtain ⟨d, f⟩ := x
  unfold safeB at hs
  rw [Bool.or_eq_true] at hs
  have im : ∀ d v n, d.imm = true → Rep G (cl F.bor n) H' d v → Rep G (cl F true) H' d v := fun d v n hi r => Rep.immI (fun a Ca dx ws p e => cl_unbor S P.same p e) d v hi r
  have ims : ∀ ds vs n, D.imm.immL ds = true → Reps G (cl F.bor n) H' ds vs → Reps G (cl F true) H' ds vs := fun ds vs n hi r => Reps.immI (fun a Ca dx ws p e => cl_unbor S P.same p e) ds vs hi r
  rcases hs with hi | hs
  · have hi : d.imm = true := hi
    have hl : d.isL = false := by cases d <;> first | rfl | (simp [D.imm] at hi)
    refine ⟨P.same, ?_, fun _ => ⟨fun z => ?_, ?_⟩⟩
    · refine im d v f.n hi (P.val.clean (fun ds e => ?_) fun ds e => ?_)
      · subst e; simp [D.imm] at hi
      · subst e; simp [D.imm] at hi
    · have z : d.isL = true := z
      rw [hl] at z
      cases z
    · cases d <;> first | exact trivial | (simp [D.isL] at hl)
  · rw [Bool.and_eq_true, Bool.and_eq_true] at hs
    obtain ⟨⟨hr, hc⟩, hf⟩ := hs
    have hf : d.flat = true := hf
    obtain ⟨n1, n2⟩ := P.new hr
    by_cases hl : d.isL = true
    · have root := (n1 hl).2
      cases d with
      | lst ds =>
        obtain ⟨a, vs, rfl, h1, h2, h3⟩ := n2
        have r3 := ims ds vs f.n (by rw [immL_all]; exact hf) (h3.weak fun k b p => p.1)
        have hn := root a rfl
        refine ⟨P.same, ?_, fun _ => ⟨fun _ => ⟨rfl, fun b e => by cases e; exact hn⟩, a, vs, rfl, h1, h2, Reps.mono (fun k b o p e => ?_) (fun b o _ e => e) _ _ (Reps.immI (P' := fun k b => cl F true k b ∧ ∃ C dx ws, H' b = some (.ins C dx ws)) (fun b C dx ws p e => ⟨p, C, dx, ws, e⟩) ds vs (by rw [immL_all]; exact hf) r3)⟩⟩
        · show Rep _ _ _ _ _
          simp only [mkI, Rep]
          exact ⟨a, vs, rfl, S.new hn _ _, h1, h2, r3⟩
        · obtain ⟨p, C, dx, ws, e2⟩ := p
          exact ⟨⟨p, fun z => by subst z; rw [h1] at e2; cases e2⟩, e⟩
      | dic ds =>
        obtain ⟨a, vs, rfl, h1, h2, h3⟩ := n2
        have hn := root a rfl
        have r3 : RepK G (fun k b => cl F true k b ∧ b ≠ a) H' ds vs := RepK.immK (fun b Ca dx ws p e => ⟨cl_unbor S P.same p.1 e, p.2⟩) (fun b o p e => e) (fun b o _ e => e) ds vs hf h3
        refine ⟨P.same, ?_, fun _ => ⟨fun _ => ⟨rfl, fun b e => by cases e; exact hn⟩, a, vs, rfl, h1, h2, r3⟩⟩
        show Rep _ _ _ _ _
        simp only [mkI, Rep]
        exact ⟨a, vs, rfl, S.new hn _ _, h1, h2, r3.weak fun k b p => p.1⟩
      | _ => cases hl
    · have hl : d.isL = false := by simpa using hl
      have hi : d.imm = true := by cases d <;> first | exact hf | (simp [D.isL] at hl)
      refine ⟨P.same, ?_, fun _ => ⟨fun z => ?_, ?_⟩⟩
      · refine im d v f.n hi (P.val.clean (fun ds e => ?_) fun ds e => ?_)
        · subst e; simp [D.imm] at hi
        · subst e; simp [D.imm] at hi
      · have z : d.isL = true := z
        rw [hl] at z
        cases z
      · cases d <;> first | exact trivial | (simp [D.isL] at hl)
theorem safeV_sat {x : D × Fl} {p : D × Fl → Prop} {w : Str → Prop} (h : (safeV x).sat p w) : safeB x = true ∧ p (mkI x.1) := by
  unfold safeV at h
  split at h
  · rename_i e; exact ⟨e, h⟩
  · exact h.elim
theorem ve_lend (he : PE X e (tP T C G Y ee)) : PE X e (tP T C G Y (.bor ee)) := by
  refine PE_weak he fun σ H Q ⟨F, E, S, h⟩ => ?_
  simp only [ev] at h
  rw [R.sat_bind] at h
  refine ⟨F.bor, borE E, S.bor, R.sat_mono h (fun x q v H' P => ?_) fun _ z => z⟩
  obtain ⟨hs, q⟩ := safeV_sat q
  exact q v H' (safe_post S P hs)
theorem vt_lend (he : PT X e (tT T C G Y ee)) : PT X e (tT T C G Y (.bor ee)) := by
  refine PT_weak he fun σ H Q ⟨F, E, S, h⟩ => ?_
  simp only [ev] at h
  rw [R.sat_bind] at h
  refine ⟨F.bor, borE E, S.bor, R.sat_mono h (fun x q => ?_) fun _ z => z⟩
  obtain ⟨_, k, e, q⟩ := safeV_sat q
  exact ⟨k, e, q⟩
/-! ### what makes a tree -/
/-- the reading of what makes a tree: new lists, dicts, each in one place -/
def tTr (T : Tb) (C : Fid → List D → R (D × Bool)) (G : GT) (Y : XK) (t : TEx) : TE := fun σ H Q => ∃ F E, Sim G F E σ H ∧ (tev T C t E).sat (fun d => ∀ v H' fp, Same H H' → RepT G (cl F true) H' d v fp → fp.Nodup → (∀ a ∈ fp, H a = none) → Q v H') (wish G Y H)
def tTrs (T : Tb) (C : Fid → List D → R (D × Bool)) (G : GT) (Y : XK) (ts : TExs) : TA := fun σ H Q => ∃ F E, Sim G F E σ H ∧ (tevs T C ts E).sat (fun ds => ∀ vs H' fp, Same H H' → RepTs G (cl F true) H' ds vs fp → fp.Nodup → (∀ a ∈ fp, H a = none) → Q vs H') (wish G Y H)
/-- a value that is flat and new is a tree -/
theorem tree_flat {x : D × Fl} {v : V} (P : Post G F H H' (mkI x.1) v) (hs : safeB x = true) : ∃ fp, RepT G (cl F true) H' x.1 v fp ∧ fp.Nodup ∧ ∀ a ∈ fp, H a = none := by
  obtain ⟨d, f⟩ := x
  have hf : d.flat = true := by
    unfold safeB at hs
    rw [Bool.or_eq_true] at hs
    rcases hs with hs | hs
    · have hs : d.imm = true := hs
      cases d <;> first | exact hs | (simp [D.imm] at hs)
    · exact (Bool.and_eq_true_iff.mp hs).2
  exact treeN_flat (P := cl F true) hf (P.val.rep rfl) fun hl a e => ((P.new rfl).1 hl).2 a e
theorem vr_im (he : PE X e (tP T C G Y ee)) : PE X e (tTr T C G Y (.im ee)) := by
  refine PE_weak he fun σ H Q ⟨F, E, S, h⟩ => ?_
  simp only [tev] at h
  rw [R.sat_bind] at h
  refine ⟨F.bor, borE E, S.bor, R.sat_mono h (fun x q v H' P => ?_) fun _ z => z⟩
  unfold safeD at q
  split at q
  · rename_i hs
    obtain ⟨fp, h1, h2, h3⟩ := tree_flat (safe_post S P hs) hs
    exact q v H' fp P.same h1 h2 h3
  · exact q.elim
theorem vrs_nil : PA X [] (tTrs T C G Y .nil) := PA_weak pa_nil fun σ H Q ⟨F, E, S, h⟩ => by
  simp only [tevs] at h
  exact h [] H [] (Same.refl _) (by simp [RepTs]) (by simp) fun a ha => by simp at ha
theorem RepT.same {d : D} {v : V} {fp : List Addr} (s : Same H H') (h : RepT G (cl F true) H d v fp) : RepT G (cl F true) H' d v fp := RepT.mono (fun a o p e => ⟨p, s a o e⟩) (fun a o _ e => s a o e) d v fp (fun a _ o e => s a o e) h
theorem vrs_cons {t : TEx} {ts : TExs} (hs : notStar e = true) (h1 : PE X e (tTr T C G Y t)) (h2 : PA X es (tTrs T C G Y ts)) : PA X (e :: es) (tTrs T C G Y (.cons t ts)) := by
  refine PA_weak (pa_cons h1 h2 (star_cons hs)) fun σ H Q ⟨F, E, S, h⟩ => ?_
  simp only [tevs] at h
  rw [R.sat_bind] at h
  show tTr T C G Y t σ H fun v H1 => tTrs T C G Y ts σ H1 fun vs H2 => Q (v :: vs) H2
  refine ⟨F, E, S, R.sat_mono h (fun d q v H1 f1 s1 r1 n1 w1 => ?_) fun _ z => z⟩
  rw [R.sat_bind] at q
  refine ⟨F, E, S.same s1, R.sat_mono q (fun ds q vs H2 f2 s2 r2 n2 w2 => ?_) fun _ z => z.same s1⟩
  refine q (v :: vs) H2 (f1 ++ f2) (s1.trans s2) ?_ (List.nodup_append.mpr ⟨n1, n2, fun a ha b hb z => ?_⟩) fun a ha => ?_
  · simp only [RepTs]
    exact ⟨v, vs, f1, f2, rfl, rfl, r1.same s2, r2⟩
  · subst z
    have := w2 a hb
    rcases RepT.isLD d v f1 r1 a ha with ⟨vs, g⟩ | ⟨vs, g⟩ <;> rw [this] at g <;> cases g
  · rcases List.mem_append.mp ha with ha | ha
    · exact w1 a ha
    · exact s1.free (w2 a ha)
theorem RepTs.length {P : Bool → Addr → Prop} : ∀ {ds : List D} {vs : List V} {fp : List Addr}, RepTs G P H ds vs fp → vs.length = ds.length
  | [], _, _, h => by simp only [RepTs] at h; simp [h.1]
  | d :: ds, _, _, h => by
    simp only [RepTs] at h
    obtain ⟨v, r, f1, f2, rfl, _, _, q⟩ := h
    simp [RepTs.length q]
theorem vr_lst {ts : TExs} (h : PA X es (tTrs T C G Y ts)) : PE X (.List es pos) (tTr T C G Y (.lst ts)) := by
  refine PE_weak (pe_lst h) fun σ H Q ⟨F, E, S, h⟩ => ?_
  simp only [tev] at h
  rw [R.sat_bind] at h
  refine ⟨F, E, S, R.sat_mono h (fun ds q vs H' fp s r n w => ?_) fun _ z => z⟩
  split at q
  · rename_i hl
    have hz : vs.length ≤ sizeLine := by rw [r.length]; exact Nat.le_trans hl lim_line
    refine ⟨hz, fun l hn => ?_⟩
    have sm : Same H' (upd H' l (.lst vs)) := same_upd hn
    refine q (.ref l) _ (l :: fp) (s.trans sm) ?_ (List.nodup_cons.mpr ⟨fun z => ?_, n⟩) fun a ha => ?_
    · simp only [RepT]
      exact ⟨l, vs, fp, rfl, rfl, upd_same, hz, RepTs.mono (fun a o p e => ⟨p, sm a o e⟩) (fun a o _ e => sm a o e) _ _ _ (fun a _ o e => sm a o e) r⟩
    · rcases RepTs.isLD ds vs fp r l z with ⟨vs, g⟩ | ⟨vs, g⟩ <;> rw [hn] at g <;> cases g
    · rcases List.mem_cons.mp ha with rfl | ha
      · exact s.free hn
      · exact w a ha
  · exact q.elim
/-- a call that makes a tree -/
theorem vr_cc {fid : Fid} (h : PE X e (tCC T C G Y fid ees)) : PE X e (tTr T C G Y (.call fid ees)) := by
  refine PE_weak h fun σ H Q ⟨F, E, S, h⟩ => ?_
  simp only [tev] at h
  rw [R.sat_bind] at h
  refine ⟨F.bor, borE E, S.bor, R.sat_mono h (fun xs q vs H1 s1 r1 => ?_) fun _ z => z⟩
  rw [R.sat_bind] at q
  have r1 : Vals' G F.bor H1 vs xs := r1
  refine ⟨_, _, r1.args, R.sat_mono q (fun q h2 v H' s r rs => ?_) fun _ z => z.same s1⟩
  obtain ⟨d, m⟩ := q
  have S1 := S.same s1
  have obj : ∀ b Ca dx ws, outP H1 (argP F.bor (cmb xs).2) m false b → H' b = some (.ins Ca dx ws) → cl F true false b := fun b Ca dx ws p e => by
    rcases p with p | ⟨p, _⟩
    · exact S1.new p _ _
    · unfold argP at p
      split at p
      · exact cl_unbor S1 s p e
      · rcases p with p | p
        · cases p
        · exact cl_unbor S1 s p e
  split at h2
  · rename_i hc
    by_cases hm : m = true
    · subst hm
      obtain ⟨fp, t1, t2, t3⟩ := rs rfl
      exact h2 v H' fp (s1.trans s) (RepT.objs obj _ _ _ t1) t2 fun a ha => s1.free (t3 a ha)
    · have hi : d.imm = true := by
        have hm : m = false := by simpa using hm
        subst hm
        simpa using hc
      exact h2 v H' [] (s1.trans s) (Rep.tree _ _ hi (Rep.immI obj d v hi r)) (by simp) fun a ha => by simp at ha
  · exact h2.elim
theorem Post.bor {x : D × Fl} {v : V} (P : Post G F H H' x v) : Post G F.bor H H' x v := by
  obtain ⟨d, f⟩ := x
  refine ⟨P.same, ?_, fun hr => ⟨(P.new hr).1, ?_⟩⟩
  · have h := P.val
    unfold Val at h ⊢
    split at h
    · rename_i hc
      simp only [hc]
      exact h.weak fun k a p => cl_bor p
    · rename_i hc
      simp only [hc]
      cases d with
      | lst ds => obtain ⟨a, vs, h1, h2, h3, h4⟩ := h; exact ⟨a, vs, h1, h2, h3, h4.weak fun k a p => cl_bor p⟩
      | dic ds => obtain ⟨a, vs, h1, h2, h3, h4⟩ := h; exact ⟨a, vs, h1, h2, h3, h4.weak fun k a p => cl_bor p⟩
      | _ => exact h
  · have h := (P.new hr).2
    cases d with
    | lst ds => obtain ⟨a, vs, h1, h2, h3, h4⟩ := h; exact ⟨a, vs, h1, h2, h3, h4.weak fun k a p => ⟨cl_bor p.1, p.2⟩⟩
    | dic ds => obtain ⟨a, vs, h1, h2, h3, h4⟩ := h; exact ⟨a, vs, h1, h2, h3, h4.weak fun k a p => ⟨cl_bor p.1, p.2⟩⟩
    | _ => trivial
theorem RepTs.snoc {P : Bool → Addr → Prop} : ∀ {ds : List D} {vs : List V} {f1 : List Addr} {d : D} {v : V} {f2 : List Addr}, RepTs G P H ds vs f1 → RepT G P H d v f2 → RepTs G P H (ds ++ [d]) (vs ++ [v]) (f1 ++ f2)
  | [], _, _, d, v, f2, h, k => by
    simp only [RepTs] at h
    obtain ⟨rfl, rfl⟩ := h
    simp only [List.nil_append, RepTs]
    exact ⟨v, [], f2, [], rfl, by simp, k, rfl, rfl⟩
  | e :: ds, _, _, d, v, f2, h, k => by
    simp only [RepTs] at h
    obtain ⟨w, r, g1, g2, rfl, rfl, p, q⟩ := h
    simp only [List.cons_append, RepTs]
    exact ⟨w, _, g1, g2 ++ f2, rfl, by simp, p, RepTs.snoc q k⟩
/-! ### a list of flat things -/
/-- a comprehension that makes a tree: its reading -/
theorem compT_core {it : It} {t : Tg} {elt cond : Ex} {own : List Nat} (ho : ∀ j ∈ tgSlots t, j ∈ own) {σ : St} {H : Hp} {Q : VK} (h : tTr T C G Y (.comp elt t it cond own) σ H Q) :
    tLc (tI T C G Y it) (tG G t) (tT T C G Y0 cond) (tP T C G Y0 elt) own σ H Q := by
  obtain ⟨F, E, S, h⟩ := h
  simp only [tev] at h
  rw [R.sat_bind] at h
  refine ⟨F.bor, borE E, S.bor, R.sat_mono h (fun p q => ?_) fun _ z => z⟩
  obtain ⟨ds, n, c⟩ := p
  intro J H1 kp rt s1 W hk hpin L hL
  have S1 := S.bor.same s1
  simp only at q W
  rw [R.sat_bind] at q
  have q := nox_sat q
  have hL' : (upd H1 L (.lst [])) L ≠ none := by rw [upd_same]; simp
  generalize ht : compTurnT (fun E => ev T C cond E) (fun E => ev T C elt E) (wipeE (borE E) own) t n = turn at q
  have hlen := W.len _ _ hk
  have key : ∀ a Ca dx ws H2, Same H1 H2 → cl (F.bor.mk' L) true false a → H2 a = some (.ins Ca dx ws) → cl F true false a := fun a Ca dx ws H2 s p e => cl_unbor (S.same s1) s (cl_mk _ _ _ p) e
  let Inv' : Nat → Hp → Prop := fun i H2 => i ≤ ds.length ∧ Same H1 H2 ∧ kp (F.bor.mk' L) H2 ∧ ∃ (acc : List V) (ads : List D) (fp : List Addr), H2 L = some (.lst acc) ∧ acc.length ≤ i ∧ RepTs G (cl (F.bor.mk' L) true) H2 ads acc fp ∧ fp.Nodup ∧ (∀ a ∈ fp, H1 a = none ∧ a ≠ L) ∧
    (compV turn (ds.drop i) ads true).sat (fun p => ∀ v H' fp, Same H H' → RepT G (cl F true) H' (.lst p.1) v fp → fp.Nodup → (∀ a ∈ fp, H a = none) → Q v H') (fun _ => False)
  refine ⟨fun i m H2 => m = ds.length - i ∧ Inv' i H2,
    ⟨ds.length, by simp, Nat.zero_le _, same_upd hL, W.st _ _ _ _ hk (fun a o e _ => same_upd hL a o e) (fun n k a p z => cl_to hL n k a p z), [], [], [], upd_same, Nat.le_refl _, by simp [RepTs], by simp, by simp, by
      rw [List.drop_zero]
      refine R.sat_mono q (fun p q => ?_) fun _ z => z
      exact q⟩, ?_⟩
  rintro i m H2 ⟨rfl, hi, s2, k2, acc, ads, fp, hLa, hal, hr, hnd, hfp, hq⟩
  by_cases hlt : i < ds.length
  · refine .inr ⟨W.go _ _ _ k2 hlt, Inv' (i + 1), fun H3 h3 => ⟨ds.length - (i + 1), by omega, rfl, h3⟩, fun x H3 y => ?_⟩
    obtain ⟨s3, k3, r3⟩ := W.yld _ _ _ _ _ _ k2 (List.getElem?_eq_getElem hlt) y
    rw [List.drop_eq_getElem_cons hlt] at hq
    simp only [compV] at hq
    rw [R.sat_bind] at hq
    have hL3 : H3 L = some (.lst acc) := s3 _ _ hLa
    have S3 : Sim G (F.bor.mk' L) (wipeE (borE E) own) (wipe σ own) H3 := S1.block hL (s2.trans s3) (by rw [hL3]; simp) own
    have et : turn ds[i] = (tgV (wipeE (borE E) own) t ds[i] n).bind fun E' => (ev T C cond E').bind fun k => match k.1 with
      | .bl true => (ev T C elt E').bind fun y => if safeB y then .ok (some (y.1, true)) else .bad
      | .bl false => .ok none
      | _ => .bad := by rw [← ht]; rfl
    rw [et, R.sat_bind] at hq
    cases hE : tgV (wipeE (borE E) own) t ds[i] n with
    | bad => rw [hE] at hq; exact hq.elim
    | exc c => rw [hE] at hq; exact hq.elim
    | ok E' =>
      rw [hE, R.sat_ok, R.sat_bind] at hq
      refine ⟨F.bor.mk' L, wipeE (borE E) own, ds[i], n, S3, (fun j hj => ⟨fun p hp => by simp at hp, fun p hp => by simp at hp⟩), r3, E', hE, fun σ' S4 hw => ⟨by rw [hw own ho, wipe_wipe fun v hv => hv], F.bor.mk' L, E', S4, R.sat_mono hq (fun kx hq => ?_) fun _ z => z.elim⟩⟩
      obtain ⟨dk, fk⟩ := kx
      cases dk with
      | bl kb =>
        refine ⟨kb, rfl, fun H4 s4 => ?_⟩
        have S5 := S4.same s4
        have keep : ∀ {H5 : Hp}, Same H3 H5 → kp (F.bor.mk' L) H5 := fun {H5} s => W.st _ _ _ _ k3 (fun a o e _ => s a o e) fun n k a p _ => p
        cases kb with
        | true =>
          show tP T C G Y0 elt σ' H4 _
          have hq := R.sat_bind.mp hq
          refine ⟨F.bor.mk' L, E', S5, R.sat_mono hq (fun y hq => ?_) fun _ z => z.elim⟩
          intro v H5 P5
          split at hq
          · rename_i hs
            have hL5 : H5 L = some (.lst acc) := P5.same _ _ (s4 _ _ hL3)
            have hz : acc.length < sizeLine := by omega
            have P6 : Post G (F.bor.mk' L) H4 H5 (mkI y.1) v := safe_post S5 P5.bor hs
            obtain ⟨fy, t1, t2, t3⟩ := tree_flat P6 hs
            have s5 := s3.trans (s4.trans P5.same)
            have hL4 : H4 L = some (.lst acc) := s4 _ _ hL3
            have sO : ∀ a o, cl (F.bor.mk' L) true false a → H5 a = some o → cl (F.bor.mk' L) true false a ∧ (upd H5 L (.lst (acc ++ [v]))) a = some o := fun a o p e => ⟨p, by rw [upd_ne fun z => p.1 (.inr z)]; exact e⟩
            have sI : ∀ a o, immO o = true → H5 a = some o → (upd H5 L (.lst (acc ++ [v]))) a = some o := fun a o im e => by
              rw [upd_ne fun z => by rw [z, hL5] at e; cases e; cases im]; exact e
            have hy : ∀ a ∈ fy, a ≠ L := fun a ha z => by
              have := t3 a ha
              rw [z, hL4] at this
              cases this
            have r5 : RepTs G (cl (F.bor.mk' L) true) H5 ads acc fp := RepTs.mono (fun a o p e => ⟨p, s5 a o e⟩) (fun a o _ e => s5 a o e) _ _ _ (fun a _ o e => s5 a o e) hr
            have hne : ∀ a ∈ fp ++ fy, a ≠ L := fun a ha => by
              rcases List.mem_append.mp ha with ha | ha
              · exact (hfp a ha).2
              · exact hy a ha
            refine ⟨acc, hL5, hz, hlt, ?_, ?_, acc ++ [v], ads ++ [y.1], fp ++ fy, upd_same, by simp; omega, RepTs.mono sO sI _ _ _ (fun a ha o e => by rw [upd_ne (hne a ha)]; exact e) (r5.snoc t1), List.nodup_append.mpr ⟨hnd, t2, fun a ha b hb z => ?_⟩, fun a ha => ⟨?_, hne a ha⟩, hq⟩
            · intro a o e
              have e5 := (s2.trans s5) a o e
              rw [upd_ne fun z => by rw [z, hL] at e; cases e]; exact e5
            · have k5 := keep (s4.trans P5.same)
              have nrt : L ∉ rt := fun z => W.rtH _ _ _ hk z hL
              refine W.st _ _ _ _ k5 (fun a o e hh => ?_) fun n k a p _ => p
              rw [upd_ne]
              · exact e
              · rintro rfl
                rcases hh with hh | hh | ⟨n', k', hh⟩
                · exact nrt hh
                · rw [hL5] at e; cases e; cases hh
                · exact hh.1 (.inr rfl)
            · subst z
              have f4 : H4 a = none := t3 a hb
              have f2 : H2 a = none := (s3.trans s4).free f4
              rcases RepTs.isLD _ _ _ hr a ha with ⟨vs, g⟩ | ⟨vs, g⟩ <;> rw [f2] at g <;> cases g
            · rcases List.mem_append.mp ha with ha | ha
              · exact (hfp a ha).1
              · exact (s2.trans (s3.trans s4)).free (t3 a ha)
          · exact hq.elim
        | false =>
          show Inv' (i + 1) H4
          exact ⟨hlt, s2.trans (s3.trans s4), keep s4, acc, ads, fp, s4 _ _ hL3, by omega, RepTs.mono (fun a o p e => ⟨p, (s3.trans s4) a o e⟩) (fun a o _ e => (s3.trans s4) a o e) _ _ _ (fun a _ o e => (s3.trans s4) a o e) hr, hnd, hfp, hq⟩
      | _ => exact hq.elim
  · have e : i = ds.length := by omega
    subst e
    refine .inl ⟨W.stop _ _ _ k2 (Nat.le_refl _), ?_⟩
    rw [List.drop_length] at hq
    simp only [compV] at hq
    refine hq _ _ (L :: fp) (s1.trans s2) ?_ (List.nodup_cons.mpr ⟨fun z => (hfp L z).2 rfl, hnd⟩) fun a ha => ?_
    · simp only [RepT]
      exact ⟨L, acc, fp, rfl, rfl, hLa, by omega, RepTs.objs (fun a Ca dx ws p e => key a Ca dx ws H2 s2 p e) _ _ _ hr⟩
    · rcases List.mem_cons.mp ha with rfl | ha
      · exact s1.free hL
      · exact s1.free (hfp a ha).1
/-- x = [.. for ..], a tree -/
theorem vr_comp {elt iter : Expr} {ifs : List Expr} {scope : Scope} {own : List (Str × Nat)} {it : It} {t : Tg} {eelt econd : Ex} (hc : X.calm = true) (hN : X.N.Nodup) (hi : PI X tg iter (tI T C G Y it)) (ok : BlkOk X.N X.env.scope scope own)
    (ho : ∀ j ∈ tgSlots t, j ∈ own.map (·.2))
    (hg : ∀ (s : Shared) (H : Hp) (K : Addr) (cs : List (Str × Addr)) (fp : List Addr), PG (X.blk s H scope (compEnvC scope cs K X.env) fp) tg (tG G t))
    (ht : ∀ (s : Shared) (H : Hp) (K : Addr) (cs : List (Str × Addr)) (fp : List Addr), PTv T C G Y0 (X.blk s H scope (compEnvC scope cs K X.env) fp) ifs econd)
    (he : ∀ (s : Shared) (H : Hp) (K : Addr) (cs : List (Str × Addr)) (fp : List Addr), PE (X.blk s H scope (compEnvC scope cs K X.env) fp) elt (tP T C G Y0 eelt))
    (hs : ∀ x, foldedSetIterable iter X.env x = pure x) : PE X (.ListComp elt [⟨tg, iter, ifs, 0⟩] scope pos) (tTr T C G Y (.comp eelt t it econd (own.map (·.2)))) :=
  PE_weak (pe_lc hc hN hi ok hg (fun s H K cs fp => (ht s H K cs fp).h) he hs) fun σ H Q h => compT_core ho h
end
end FS

/-! FS22: trees stored, returned, changed. -/
namespace FS
open PySem L2
section
variable {T : Tb} {W : Nat} {C : Fid → List D → R (D × Bool)} {G : GT} {Y : XK} {X : Cx} {B : Bs} {F : Fr} {ex : Xc} {E : SEnv} {σ : St} {H H' : Hp} {a b c o i e k tg iter : Expr} {ea eb ec eo ei ee ek : Ex} {es : List Expr} {ees : Exs} {pos apos cpos px p : Pos} {D' : Ends}
/-- more is one's own -/
abbrev Xc.more (ex : Xc) (j : Nat) (fp : List Addr) : Xc := ⟨fun a => ex a ∨ a ∈ fp, fun i a => ex.rg i a ∨ (i = j ∧ a ∈ fp)⟩
/-- a new tree is stored -/
theorem Sim.dep {j : Nat} {d : D} {v : V} {fp : List Addr} (S : Sim G (B.fr ex) E σ H) (s : Same H H') (r : RepT G (cl (B.fr ex) true) H' d v fp) (hn : fp.Nodup) (hf : ∀ a ∈ fp, H a = none) (hl : NoLk B.lk B.io j) : Sim G (B.fr (ex.more j fp)) (E.set j (some (.dep d))) (σ.set j (some v)) H' := by
  have out : ∀ a o, H a = some o → a ∉ fp := fun a o e z => by rw [hf a z] at e; cases e
  have wk : ∀ n k a o, cl (B.fr ex) n k a → H a = some o → cl (B.fr (ex.more j fp)) n k a ∧ H' a = some o := fun n k a o p e => ⟨⟨fun z => z.elim p.1 (out a o e), p.2⟩, s a o e⟩
  have wI : ∀ a o, immO o = true → H a = some o → H' a = some o := fun a o _ e => s a o e
  have some' : ∀ {a}, H a ≠ none → ∃ o, H a = some o := fun {a} h => by
    cases z : H a with
    | none => exact absurd z h
    | some o => exact ⟨o, rfl⟩
  refine ⟨by simp [S.len], fun a o h1 h2 h3 => s _ _ (S.ent a o h1 h2 h3), fun i sl e => ?_, fun i k d1 d2 n1 n2 w hik e1 e2 h1 h2 => ?_, fun p hp => Rep.mono (wk _) wI _ _ (S.pin p hp), fun a h => ?_, fun p hp => ?_, ⟨fun i d1 e => ?_, fun i c fs e => ?_, fun i a z => ?_, fun i k a hik z1 z2 => ?_, fun i k d1 n1 a e1 e2 z => ?_, fun i a z => ?_, fun p hp => ?_, fun i k c c' fs fs' n1 e1 e2 => ?_, fun i c fs e => ?_, fun p hp => ⟨.inl (S.dp.hk p hp).1, s _ _ (S.dp.hk p hp).2⟩⟩⟩
  · rw [List.getElem?_set] at e
    split at e
    · rename_i hij
      subst hij
      split at e
      · rename_i hlt
        cases e
        exact ⟨v, by rw [List.getElem?_set_self (by rw [S.len]; exact hlt)], trivial⟩
      · cases e
    · rename_i hij
      obtain ⟨u, e1, e2⟩ := S.slot i sl e
      refine ⟨u, by rw [List.getElem?_set_ne hij]; exact e1, ?_⟩
      cases sl with
      | dep d1 => exact e2
      | slf c fs => exact e2
      | shr d1 n1 => exact Rep.mono (wk n1) wI _ _ e2
      | own d1 n1 =>
        obtain ⟨b, rfl, hb, hob⟩ := e2
        refine ⟨b, rfl, .inl hb, ?_⟩
        cases d1 with
        | lst ds => obtain ⟨q1, q2, vs, q3, q4, q5⟩ := hob; exact ⟨q1, q2, vs, s _ _ q3, q4, Reps.mono (wk n1) wI _ _ q5⟩
        | dic ds => obtain ⟨q1, q2, vs, q3, q4, q5⟩ := hob; exact ⟨q1, q2, vs, s _ _ q3, q4, RepK.mono (wk n1) wI _ _ q5⟩
        | obj c fs => obtain ⟨q2, Ca, dx, ws, q3, q4, q5⟩ := hob; exact ⟨q2, Ca, dx, ws, s _ _ q3, q4, RepF.mono (wk n1) wI _ _ q5⟩
        | _ => exact hob
  · rw [List.getElem?_set] at e1 e2
    split at e1
    · split at e1 <;> cases e1
    · rename_i n1
      split at e2
      · split at e2 <;> cases e2
      · rename_i n2
        rw [List.getElem?_set_ne n1] at h1
        rw [List.getElem?_set_ne n2] at h2
        exact S.dis i k d1 d2 _ _ w hik e1 e2 h1 h2
  · have old : H a ≠ none → H' a ≠ none := fun z w => z (s.free w)
    rcases h with (h | h) | h
    · exact old (S.exH a (.inl h))
    · rcases RepT.isLD d v fp r a h with ⟨vs, g⟩ | ⟨vs, g⟩ <;> rw [g] <;> simp
    · exact old (S.exH a (.inr h))
  · rw [List.getElem?_set_ne (hl.1 p hp).symm, List.getElem?_set_ne (hl.1 p hp).symm]
    exact S.lk p hp
  · rw [List.getElem?_set] at e
    split at e
    · rename_i hij
      subst hij
      split at e
      · rename_i hlt
        cases e
        refine ⟨v, by rw [List.getElem?_set_self (by rw [S.len]; exact hlt)], fp, RepT.objs (fun a Ca dx ws p e => ⟨fun z => z.elim p.1 fun z => ?_, p.2⟩) _ _ _ r, hn, fun a ha => .inr ⟨rfl, ha⟩⟩
        rcases RepT.isLD _ v fp r a z with ⟨vs, g⟩ | ⟨vs, g⟩ <;> rw [g] at e <;> cases e
      · cases e
    · rename_i hij
      obtain ⟨u, h1, h2⟩ := S.dp.slot i d1 e
      exact ⟨u, by rw [List.getElem?_set_ne hij]; exact h1, h2.mono (fun a o p e => wk _ _ _ _ p e) wI (fun a z => .inl z) fun a o _ e => s a o e⟩
  · rw [List.getElem?_set] at e
    split at e
    · split at e <;> cases e
    · rename_i hij
      obtain ⟨u, h1, h2⟩ := S.dp.slf i c fs e
      exact ⟨u, by rw [List.getElem?_set_ne hij]; exact h1, h2.mono (fun a o p e => wk _ _ _ _ p e) wI (fun a z => .inl z) (fun a o _ e => s a o e) rfl (fun _ _ z => .inl z) fun a o _ e => s a o e⟩
  · rcases z with z | ⟨_, z⟩
    · exact ⟨.inl (S.dp.rgx i a z).1, (S.dp.rgx i a z).2.same s⟩
    · exact ⟨.inr z, RepT.isLD d v fp r a z⟩
  · have nn : ∀ i, ex.rg i a → a ∉ fp := fun i z w => by
      rcases (S.dp.rgx i a z).2 with ⟨vs, g⟩ | ⟨vs, g⟩ <;> rw [hf a w] at g <;> cases g
    rcases z1 with z1 | ⟨e1, z1⟩
    · rcases z2 with z2 | ⟨e2, z2⟩
      · exact S.dp.rgj i k a hik z1 z2
      · exact nn _ z1 z2
    · rcases z2 with z2 | ⟨e2, z2⟩
      · exact nn _ z2 z1
      · exact hik (e1.trans e2.symm)
  · rw [List.getElem?_set] at e1
    split at e1
    · split at e1 <;> cases e1
    · rename_i hij
      rw [List.getElem?_set_ne hij] at e2
      rcases z with z | ⟨_, z⟩
      · exact S.dp.rgo i k d1 n1 a e1 e2 z
      · obtain ⟨u, g1, b, rfl, g2, _⟩ := S.slot i _ e1
        rw [e2] at g1
        cases g1
        exact S.exH _ (.inl g2) (hf _ z)
  · rcases z with z | ⟨_, z⟩
    · exact S.dp.rgm i a z
    · exact ⟨.inl (S.h0 (hf a z)), fun w => S.exH a (.inr (.inl w)) (hf a z)⟩
  · rw [List.getElem?_set_ne (hl.2 p hp).symm]
    exact S.dp.io p hp
  · rw [List.getElem?_set] at e1 e2
    split at e1
    · split at e1 <;> cases e1
    · split at e2
      · split at e2 <;> cases e2
      · exact S.dp.slo i k c c' fs fs' n1 e1 e2
  · rw [List.getElem?_set] at e
    split at e
    · split at e <;> cases e
    · exact S.dp.sl0 i c fs e
/-- a tree is reckoned, then something -/
theorem st_bindT {t : TEx} {β : Type} {f : D → R β} {q : β → Prop} (S : Sim G (B.fr ex) E σ H) (h : ((tev T C t E).bind f).sat q (wishB G Y B)) {Q : VK}
    (k : ∀ d v H' fp, Same H H' → RepT G (cl (B.fr ex) true) H' d v fp → fp.Nodup → (∀ a ∈ fp, H a = none) → (f d).sat q (wishB G Y B) → Q v H') : tTr T C G Y t σ H Q := by
  rw [R.sat_bind] at h
  exact ⟨_, E, S, R.sat_mono h (fun d q v H' fp s r n w => k d v H' fp s r n w q) fun c z => S.wish z⟩
/-- name = tree -/
theorem vs_asgD {i : Nat} {x : Str} {p' : Pos} {t : TEx} (hN : X.N.Nodup) (hi : X.N[i]? = some x) (hx : Loc X.env.scope x) (he : PE X e (tTr T C G Y t)) (hs : swapsWith e (some (.Name x p')) pos.line X.env = pure false) (hf : X.fn x = true ∨ X.env.scope.names.lookup x = some .local) :
    PS X (.Assign [.Name x p'] e pos) (tS T W C G Y B (.asgD i t)) := by
  refine PS_weak (ps_set hN hi hx he hs hf) fun D' σ H => ?_
  rintro ⟨ex, E, S, h⟩
  simp only [exec] at h
  split at h
  · rename_i hlk
    exact st_bindT S h fun d v H' fp s r n w q => q _ _ _ (S.dep s r n w (lkB_no hlk i List.mem_cons_self))
  · exact h.elim
/-- return tree -/
theorem vs_retT {t : TEx} (he : PE X e (tTr T C G Y t)) : PS X (.Return (some e) pos) (tS T W C G Y B (.retT t)) := by
  refine PS_weak (ps_ret he) fun D' σ H => ?_
  rintro ⟨ex, E, S, h⟩
  simp only [exec] at h
  refine st_bindT S h fun d v H' fp s r n w q => ?_
  have hP : ∀ a o, cl (B.fr ex) true false a → H' a = some o → outP B.H0 B.P true false a ∧ H' a = some o := fun a o p e => ⟨outP_cl p, e⟩
  have h0 : ∀ a ∈ fp, B.H0 a = none := fun a ha => S.h0 (w a ha)
  exact q v H' (S.entB s) (RepT.rep (fun a Ca dx ws p e => (hP a _ p e).1) _ _ _ (fun a ha => .inl (h0 a ha)) r) fun _ => ⟨fp, RepT.mono hP (fun _ _ _ e => e) _ _ _ (fun _ _ _ e => e) r, n, h0⟩
/-! ### the object that is being made -/
/-- a new tree, not stored yet -/
theorem Sim.grow {d : D} {v : V} {fp : List Addr} (j : Nat) (S : Sim G (B.fr ex) E σ H) (s : Same H H') (r : RepT G (cl (B.fr ex) true) H' d v fp) (hf : ∀ a ∈ fp, H a = none) : Sim G (B.fr (ex.more j fp)) E σ H' := by
  have out : ∀ a o, H a = some o → a ∉ fp := fun a o e z => by rw [hf a z] at e; cases e
  have wk : ∀ n k a o, cl (B.fr ex) n k a → H a = some o → cl (B.fr (ex.more j fp)) n k a ∧ H' a = some o := fun n k a o p e => ⟨⟨fun z => z.elim p.1 (out a o e), p.2⟩, s a o e⟩
  have wI : ∀ a o, immO o = true → H a = some o → H' a = some o := fun a o _ e => s a o e
  refine ⟨S.len, fun a o h1 h2 h3 => s _ _ (S.ent a o h1 h2 h3), fun i sl e => ?_, S.dis, fun p hp => Rep.mono (wk _) wI _ _ (S.pin p hp), fun a h => ?_, S.lk, ⟨fun i d1 e => ?_, fun i c fs e => ?_, fun i a z => ?_, fun i k a hik z1 z2 => ?_, fun i k d1 n1 a e1 e2 z => ?_, fun i a z => ?_, S.dp.io, S.dp.slo, S.dp.sl0, fun p hp => ⟨.inl (S.dp.hk p hp).1, s _ _ (S.dp.hk p hp).2⟩⟩⟩
  · obtain ⟨u, e1, e2⟩ := S.slot i sl e
    refine ⟨u, e1, ?_⟩
    cases sl with
    | dep d1 => exact e2
    | slf c fs => exact e2
    | shr d1 n1 => exact Rep.mono (wk n1) wI _ _ e2
    | own d1 n1 =>
      obtain ⟨b, rfl, hb, hob⟩ := e2
      refine ⟨b, rfl, .inl hb, ?_⟩
      cases d1 with
      | lst ds => obtain ⟨q1, q2, vs, q3, q4, q5⟩ := hob; exact ⟨q1, q2, vs, s _ _ q3, q4, Reps.mono (wk n1) wI _ _ q5⟩
      | dic ds => obtain ⟨q1, q2, vs, q3, q4, q5⟩ := hob; exact ⟨q1, q2, vs, s _ _ q3, q4, RepK.mono (wk n1) wI _ _ q5⟩
      | obj c fs => obtain ⟨q2, Ca, dx, ws, q3, q4, q5⟩ := hob; exact ⟨q2, Ca, dx, ws, s _ _ q3, q4, RepF.mono (wk n1) wI _ _ q5⟩
      | _ => exact hob
  · have old : H a ≠ none → H' a ≠ none := fun z w => z (s.free w)
    rcases h with (h | h) | h
    · exact old (S.exH a (.inl h))
    · rcases RepT.isLD d v fp r a h with ⟨vs, g⟩ | ⟨vs, g⟩ <;> rw [g] <;> simp
    · exact old (S.exH a (.inr h))
  · obtain ⟨u, h1, h2⟩ := S.dp.slot i d1 e
    exact ⟨u, h1, h2.mono (fun a o p e => wk _ _ _ _ p e) wI (fun a z => .inl z) fun a o _ e => s a o e⟩
  · obtain ⟨u, h1, h2⟩ := S.dp.slf i c fs e
    exact ⟨u, h1, h2.mono (fun a o p e => wk _ _ _ _ p e) wI (fun a z => .inl z) (fun a o _ e => s a o e) rfl (fun _ _ z => .inl z) fun a o _ e => s a o e⟩
  · rcases z with z | ⟨_, z⟩
    · exact ⟨.inl (S.dp.rgx i a z).1, (S.dp.rgx i a z).2.same s⟩
    · exact ⟨.inr z, RepT.isLD d v fp r a z⟩
  · have nn : ∀ i, ex.rg i a → a ∉ fp := fun i z w => by
      rcases (S.dp.rgx i a z).2 with ⟨vs, g⟩ | ⟨vs, g⟩ <;> rw [hf a w] at g <;> cases g
    rcases z1 with z1 | ⟨e1, z1⟩
    · rcases z2 with z2 | ⟨e2, z2⟩
      · exact S.dp.rgj i k a hik z1 z2
      · exact nn _ z1 z2
    · rcases z2 with z2 | ⟨e2, z2⟩
      · exact nn _ z2 z1
      · exact hik (e1.trans e2.symm)
  · rcases z with z | ⟨_, z⟩
    · exact S.dp.rgo i k d1 n1 a e1 e2 z
    · obtain ⟨u, g1, b, rfl, g2, _⟩ := S.slot i _ e1
      rw [e2] at g1
      cases g1
      exact S.exH _ (.inl g2) (hf _ z)
  · rcases z with z | ⟨_, z⟩
    · exact S.dp.rgm i a z
    · exact ⟨.inl (S.h0 (hf a z)), fun w => S.exH a (.inr (.inl w)) (hf a z)⟩
theorem putF_new {f : Str} {v : V} : ∀ {ws : List (Str × V)}, ws.lookup f = none → L2.putF f v ws = ws ++ [(f, v)]
  | [], _ => rfl
  | (g, w) :: ws, h => by
    rw [List.lookup_cons] at h
    cases hb : f == g with
    | true => rw [hb] at h; cases h
    | false =>
      rw [hb] at h
      have : ¬ g = f := fun z => by subst z; simp at hb
      simp only [L2.putF, this, List.cons_append]
      rw [putF_new h]
      simp
theorem RepTf.lookN {P : Bool → Addr → Prop} {f : Str} : ∀ {fs : List (Str × D)} {ws : List (Str × V)} {fp : List Addr}, RepTf G P H fs ws fp → fs.lookup f = none → ws.lookup f = none
  | [], _, _, h, _ => by simp only [RepTf] at h; rw [h.1]; rfl
  | (k, d) :: fs, _, _, h, e => by
    simp only [RepTf] at h
    obtain ⟨v, r, f1, f2, rfl, _, _, q⟩ := h
    rw [List.lookup_cons] at e ⊢
    cases hb : f == k with
    | true => rw [hb] at e; cases e
    | false => rw [hb] at e; exact RepTf.lookN q e
theorem RepTf.length {P : Bool → Addr → Prop} : ∀ {ds : List (Str × D)} {vs : List (Str × V)} {fp : List Addr}, RepTf G P H ds vs fp → vs.length = ds.length
  | [], _, _, h => by simp only [RepTf] at h; simp [h.1]
  | (k, d) :: ds, _, _, h => by
    simp only [RepTf] at h
    obtain ⟨v, r, f1, f2, rfl, _, _, q⟩ := h
    simp [RepTf.length q]
theorem RepTf.snoc {P : Bool → Addr → Prop} {f : Str} : ∀ {ds : List (Str × D)} {vs : List (Str × V)} {f1 : List Addr} {d : D} {v : V} {f2 : List Addr}, RepTf G P H ds vs f1 → RepT G P H d v f2 → RepTf G P H (ds ++ [(f, d)]) (vs ++ [(f, v)]) (f1 ++ f2)
  | [], _, _, d, v, f2, h, k => by
    simp only [RepTf] at h
    obtain ⟨rfl, rfl⟩ := h
    simp only [List.nil_append, RepTf]
    exact ⟨v, [], f2, [], rfl, by simp, k, rfl, rfl⟩
  | (j, e) :: ds, _, _, d, v, f2, h, k => by
    simp only [RepTf] at h
    obtain ⟨w, r, g1, g2, rfl, rfl, p, q⟩ := h
    simp only [List.cons_append, RepTf]
    exact ⟨w, _, g1, g2 ++ f2, rfl, by simp, p, RepTf.snoc q k⟩
theorem slfO_some {j : Nat} {c : Str} {fs : List (Str × D)} (h : slfO E[j]? = some (c, fs)) : E[j]? = some (some (.slf c fs)) := by
  unfold slfO at h
  split at h
  · rename_i e; cases h; exact e
  · cases h
theorem depO_some {j : Nat} {d : D} (h : depO E[j]? = some d) : E[j]? = some (some (.dep d)) := by
  unfold depO at h
  split at h
  · rename_i e; cases h; exact e
  · cases h
/-- self.f = tree -/
theorem vs_fldD {x f : Str} {pos' : Pos} {t : TEx} (hK : X.K = G.K) (hcl : ∀ c Ca, G.cls c = some Ca → Cls G.K Ca ∧ NoAttr G.K Ca f) (hN : X.N[0]? = some x) (hv : Vis X.env.scope x) (hd : (x == ("__debug__" : Str)) = false) (hcd : (x == ("__classdict__" : Str)) = false) (he : PE X e (tTr T C G Y t))
    (hs : swapsWith e (some (.Attribute (.Name x px) f pos')) pos.line X.env = pure false) : PS X (.Assign [.Attribute (.Name x px) f pos'] e pos) (tS T W C G Y B (.fldD f t)) := by
  refine PS_weak (ps_fld (pe_var hN hv hd hcd) he hs) fun D' σ H => ?_
  rintro ⟨ex, E, S, h⟩
  simp only [exec] at h
  split at h
  rotate_left
  · exact h.elim
  rename_i c fs ho
  have he := slfO_some ho
  show tTr T C G Y t σ H fun y H1 => ∃ v, σ[0]? = some (some v) ∧ ∃ a C dx fs, v = .ref a ∧ H1 a = some (.ins C dx fs) ∧ Cls X.K C ∧ NoAttr X.K C f ∧ fs.length < 1000 ∧ D'.nx σ (L2.upd H1 a (.ins C dx (L2.putF f y fs)))
  refine st_bindT S h fun d v H' fp s r n w q => ?_
  split at q
  rotate_left
  · exact q.elim
  rename_i hc
  have S1 := S.grow 0 s r w
  obtain ⟨u, g0, a, Ca, dx, ws, f0, rfl, g1, g2, g3, g4, g5, g6, g7⟩ := S.dp.slf 0 c fs he
  have g3 := s _ _ g3
  rw [hK]
  have hlen := g5.length
  refine ⟨_, g0, a, Ca, dx, ws, rfl, g3, (hcl _ _ g4).1, (hcl _ _ g4).2, by omega, ?_⟩
  rw [putF_new (g5.lookN hc.2)]
  generalize hH2 : upd H' a (.ins Ca dx (ws ++ [(f, v)])) = H2
  have hA : H2 a = some (.ins Ca dx (ws ++ [(f, v)])) := by rw [← hH2]; exact upd_same
  have up : ∀ b o, b ≠ a → H' b = some o → H2 b = some o := fun b o hb e => by rw [← hH2, upd_ne hb]; exact e
  have kP : ∀ n k b o, cl (B.fr (ex.more 0 fp)) n k b → H' b = some o → cl (B.fr (ex.more 0 fp)) n k b ∧ H2 b = some o := fun n k b o p e => ⟨p, up b o (fun z => p.1 (by rw [z]; exact .inl g2)) e⟩
  have kI : ∀ b o, immO o = true → H' b = some o → H2 b = some o := fun b o im e => up b o (fun z => by subst z; rw [g3] at e; cases e; cases im) e
  have kR : ∀ i b o, (ex.more 0 fp).rg i b → H' b = some o → H2 b = some o := fun i b o z e => up b o (fun w => by
    subst w
    rcases (S1.dp.rgx i b z).2 with ⟨vs, g⟩ | ⟨vs, g⟩ <;> rw [g3] at g <;> cases g) e
  have hdj : ∀ b ∈ f0, b ∉ fp := fun b hb z => by
    rcases (S.dp.rgx 0 b (g7 b hb)).2 with ⟨vs, g⟩ | ⟨vs, g⟩ <;> rw [w b z] at g <;> cases g
  have hlt : 0 < E.length := (List.getElem?_eq_some_iff.mp he).1
  have t0 : RepTf G (cl (B.fr (ex.more 0 fp)) true) H2 fs ws f0 := by
    refine RepTf.mono (fun b o p e => ?_) (fun b o im e => kI b o im (s b o e)) _ _ _ (fun b hb o e => kR 0 b o (.inl (g7 b hb)) (s b o e)) g5
    exact kP true false b o ⟨fun z => z.elim p.1 fun z => (by rw [w b z] at e; cases e), p.2⟩ (s b o e)
  have t1 : RepT G (cl (B.fr (ex.more 0 fp)) true) H2 d v fp := by
    refine RepT.mono (kP true false) kI _ _ _ (fun b hb o e => kR 0 b o (.inr ⟨rfl, hb⟩) e) (RepT.objs (fun b Cb dxb wsb p e => ⟨fun z => z.elim p.1 fun z => ?_, p.2⟩) _ _ _ r)
    rcases RepT.isLD d v fp r b z with ⟨vs, g⟩ | ⟨vs, g⟩ <;> rw [g] at e <;> cases e
  refine q (ex.more 0 fp) _ _ ⟨by simp [S1.len], fun b o h1 h2 h3 => up b o (fun z => h1 (by rw [z]; exact g1)) (S1.ent b o h1 h2 h3), fun i sl e => ?_, fun i k d1 d2 n1 n2 w' hik e1 e2 h1 h2 => ?_, fun p hp => Rep.mono (kP _) kI _ _ (S1.pin p hp), fun b hb => ?_, fun p hp => ?_, ⟨fun i d1 e => ?_, fun i c1 fs1 e => ?_, fun i b z => ⟨(S1.dp.rgx i b z).1, ?_⟩, S1.dp.rgj, fun i k d1 n1 b e1 e2 => ?_, S1.dp.rgm, S1.dp.io, fun i k c1 c' fs1 fs' n1 e1 e2 => ?_, fun i c1 fs1 e => ?_, fun p hp => ⟨(S1.dp.hk p hp).1, kR _ _ _ (S1.dp.hk p hp).1 (S1.dp.hk p hp).2⟩⟩⟩
  · rw [List.getElem?_set] at e
    split at e
    · rename_i hij
      subst hij
      cases e
      exact ⟨_, g0, trivial⟩
    · obtain ⟨u, e1, e2⟩ := S1.slot i sl e
      refine ⟨u, e1, ?_⟩
      cases sl with
      | dep d1 => exact e2
      | slf c fs => exact e2
      | shr d1 n1 => exact Rep.mono (kP n1) kI _ _ e2
      | own d1 n1 =>
        obtain ⟨b, rfl, hb, hob⟩ := e2
        refine ⟨b, rfl, hb, ?_⟩
        cases d1 with
        | lst ds => obtain ⟨q1, q2, vs, q3, q4, q5⟩ := hob; exact ⟨q1, q2, vs, up _ _ (fun z => q2 (by rw [z]; exact g1)) q3, q4, Reps.mono (kP n1) kI _ _ q5⟩
        | dic ds => obtain ⟨q1, q2, vs, q3, q4, q5⟩ := hob; exact ⟨q1, q2, vs, up _ _ (fun z => q2 (by rw [z]; exact g1)) q3, q4, RepK.mono (kP n1) kI _ _ q5⟩
        | obj c1 fs1 => exact absurd e (S1.dp.slo 0 i c c1 fs fs1 n1 he)
        | _ => exact hob
  · rw [List.getElem?_set] at e1 e2
    split at e1
    · cases e1
    · split at e2
      · cases e2
      · exact S1.dis i k d1 d2 n1 n2 w' hik e1 e2 h1 h2
  · by_cases hba : b = a
    · rw [hba, hA]; simp
    · have := S1.exH b hb
      cases z : H' b with
      | none => exact absurd z this
      | some o => rw [up b o hba z]; simp
  · obtain ⟨z1, z2⟩ := S1.lk p hp
    refine ⟨?_, z2⟩
    rw [List.getElem?_set_ne]
    · exact z1
    · intro z
      rw [← z, he] at z1
      cases z1
  · rw [List.getElem?_set] at e
    split at e
    · cases e
    · obtain ⟨u, h1, h2⟩ := S1.dp.slot i d1 e
      exact ⟨u, h1, h2.mono (kP true false) kI (fun b z => z) fun b o z e => kR i b o z e⟩
  · rw [List.getElem?_set] at e
    split at e
    · rename_i hij
      subst hij
      cases e
      refine ⟨_, g0, a, Ca, dx, ws ++ [(f, v)], f0 ++ fp, rfl, g1, .inl g2, hA, g4, t0.snoc t1, List.nodup_append.mpr ⟨g6, n, fun b hb b' hb' z => hdj b hb (z ▸ hb')⟩, fun b hb => ?_⟩
      rcases List.mem_append.mp hb with hb | hb
      · exact .inl (g7 b hb)
      · exact .inr ⟨rfl, hb⟩
    · rename_i hij
      exact absurd (S1.dp.sl0 i c1 fs1 e).symm hij
  · rcases (S1.dp.rgx i b z).2 with ⟨vs, g⟩ | ⟨vs, g⟩
    · exact .inl ⟨vs, kR i b _ z g⟩
    · exact .inr ⟨vs, kR i b _ z g⟩
  · rw [List.getElem?_set] at e1
    split at e1
    · cases e1
    · exact S1.dp.rgo i k d1 n1 b e1 e2
  · rw [List.getElem?_set] at e1 e2
    split at e2
    · cases e2
    · exact S1.dp.slo 0 k c c' fs fs' n1 he e2
  · rw [List.getElem?_set] at e
    split at e
    · rename_i hij; exact hij.symm
    · exact S1.dp.sl0 i c1 fs1 e
end
end FS

/-! FS23: ways into a tree; a tree changed. -/
namespace FS
open PySem L2
/-- the value at a way's end -/
def RdP (H : Hp) : List St1 → V → V → Prop
  | [], v, u => v = u
  | .ix k :: q, v, u => ∃ a vs w, v = .ref a ∧ (H a = some (.lst vs) ∨ H a = some (.tup vs)) ∧ vs[k]? = some w ∧ RdP H q w u
  | .at f :: q, v, u => ∃ a C dx ws w, v = .ref a ∧ H a = some (.ins C dx ws) ∧ ws.lookup f = some w ∧ RdP H q w u
section
variable {G : GT} {P P' : Bool → Addr → Prop} {H H' : Hp}
theorem RdP.same (s : Same H H') : ∀ {q : List St1} {v u : V}, RdP H q v u → RdP H' q v u
  | [], _, _, h => h
  | .ix k :: q, _, _, h => by
    obtain ⟨a, vs, w, h1, h2, h3, h4⟩ := h
    exact ⟨a, vs, w, h1, h2.imp (fun z => s _ _ z) (fun z => s _ _ z), h3, RdP.same s h4⟩
  | .at f :: q, _, _, h => by
    obtain ⟨a, C, dx, ws, w, h1, h2, h3, h4⟩ := h
    exact ⟨a, C, dx, ws, w, h1, s _ _ h2, h3, RdP.same s h4⟩
theorem RdP.det : ∀ {q : List St1} {v u u' : V}, RdP H q v u → RdP H q v u' → u = u'
  | [], _, _, _, h, h' => by
    have h : _ = _ := h
    have h' : _ = _ := h'
    rw [← h, ← h']
  | .ix k :: q, _, _, _, h, h' => by
    obtain ⟨a, vs, w, rfl, h2, h3, h4⟩ := h
    obtain ⟨b, vs', w', e, g2, g3, g4⟩ := h'
    cases e
    have : vs = vs' := by
      rcases h2 with h2 | h2 <;> rcases g2 with g2 | g2 <;> rw [h2] at g2 <;> cases g2 <;> rfl
    subst this
    rw [h3] at g3
    cases g3
    exact RdP.det h4 g4
  | .at f :: q, _, _, _, h, h' => by
    obtain ⟨a, C, dx, ws, w, rfl, h2, h3, h4⟩ := h
    obtain ⟨b, C', dx', ws', w', e, g2, g3, g4⟩ := h'
    cases e
    rw [h2] at g2
    cases g2
    rw [h3] at g3
    cases g3
    exact RdP.det h4 g4
theorem RdP.snoc_ix {k : Nat} {a : Addr} {vs : List V} {w : V} : ∀ {q : List St1} {v : V}, RdP H q v (.ref a) → (H a = some (.lst vs) ∨ H a = some (.tup vs)) → vs[k]? = some w → RdP H (q ++ [.ix k]) v w
  | [], _, h, h1, h2 => by
    have h : _ = _ := h
    exact ⟨a, vs, w, h, h1, h2, rfl⟩
  | .ix j :: q, _, h, h1, h2 => by
    obtain ⟨b, us, x, g1, g2, g3, g4⟩ := h
    exact ⟨b, us, x, g1, g2, g3, RdP.snoc_ix g4 h1 h2⟩
  | .at f :: q, _, h, h1, h2 => by
    obtain ⟨b, C, dx, ws, x, g1, g2, g3, g4⟩ := h
    exact ⟨b, C, dx, ws, x, g1, g2, g3, RdP.snoc_ix g4 h1 h2⟩
theorem RdP.snoc_at {f : Str} {a C dx : Addr} {ws : List (Str × V)} {w : V} : ∀ {q : List St1} {v : V}, RdP H q v (.ref a) → H a = some (.ins C dx ws) → ws.lookup f = some w → RdP H (q ++ [.at f]) v w
  | [], _, h, h1, h2 => by
    have h : _ = _ := h
    exact ⟨a, C, dx, ws, w, h, h1, h2, rfl⟩
  | .ix j :: q, _, h, h1, h2 => by
    obtain ⟨b, us, x, g1, g2, g3, g4⟩ := h
    exact ⟨b, us, x, g1, g2, g3, RdP.snoc_at g4 h1 h2⟩
  | .at g :: q, _, h, h1, h2 => by
    obtain ⟨b, C, dx, ws, x, g1, g2, g3, g4⟩ := h
    exact ⟨b, C, dx, ws, x, g1, g2, g3, RdP.snoc_at g4 h1 h2⟩
/-- one item of a tree's items -/
theorem RepTs.at : ∀ {k : Nat} {ds : List D} {vs : List V} {fq : List Addr} {d : D}, RepTs G P H ds vs fq → ds[k]? = some d → ∃ w g1 f1 g2, vs[k]? = some w ∧ fq = g1 ++ f1 ++ g2 ∧ RepT G P H d w f1 ∧
    ∀ (g : D → D) {H' : Hp} {P' : Bool → Addr → Prop} {f2 : List Addr}, (∀ a o, P false a → H a = some o → P' false a ∧ H' a = some o) → (∀ a o, immO o = true → H a = some o → H' a = some o) → (∀ a, (a ∈ g1 ∨ a ∈ g2) → ∀ o, H a = some o → H' a = some o) → RepT G P' H' (g d) w f2 → RepTs G P' H' (modI g k ds) vs (g1 ++ f2 ++ g2)
  | _, [], _, _, _, _, e => by simp at e
  | 0, d :: ds, _, _, d', h, e => by
    simp only [List.getElem?_cons_zero, Option.some.injEq] at e
    subst e
    simp only [RepTs] at h
    obtain ⟨v, r, f1, f2, rfl, rfl, p, q⟩ := h
    refine ⟨v, [], f1, f2, rfl, by simp, p, fun g {H' P' f3} hP hI hH r3 => ?_⟩
    simp only [modI, RepTs]
    exact ⟨v, r, f3, f2, rfl, by simp, r3, RepTs.mono hP hI _ _ _ (fun a ha o e => hH a (.inr ha) o e) q⟩
  | k + 1, d :: ds, _, _, d', h, e => by
    simp only [List.getElem?_cons_succ] at e
    simp only [RepTs] at h
    obtain ⟨v, r, f1, f2, rfl, rfl, p, q⟩ := h
    obtain ⟨w, g1, f3, g2, e1, rfl, p2, up⟩ := RepTs.at (k := k) q e
    refine ⟨w, f1 ++ g1, f3, g2, by simpa using e1, by simp, p2, fun g {H' P' f4} hP hI hH r4 => ?_⟩
    simp only [modI, RepTs]
    exact ⟨v, r, f1, g1 ++ f4 ++ g2, rfl, by simp, RepT.mono hP hI _ _ _ (fun a ha o e => hH a (.inl (List.mem_append_left _ ha)) o e) p, up g hP hI (fun a ha o e => hH a (ha.imp (fun z => List.mem_append_right _ z) id) o e) r4⟩
theorem RepTf.at {f : Str} : ∀ {fs : List (Str × D)} {ws : List (Str × V)} {fq : List Addr} {d : D}, RepTf G P H fs ws fq → fs.lookup f = some d → ∃ w g1 f1 g2, ws.lookup f = some w ∧ fq = g1 ++ f1 ++ g2 ∧ RepT G P H d w f1 ∧
    ∀ (g : D → D) {H' : Hp} {P' : Bool → Addr → Prop} {f2 : List Addr}, (∀ a o, P false a → H a = some o → P' false a ∧ H' a = some o) → (∀ a o, immO o = true → H a = some o → H' a = some o) → (∀ a, (a ∈ g1 ∨ a ∈ g2) → ∀ o, H a = some o → H' a = some o) → RepT G P' H' (g d) w f2 → RepTf G P' H' (modF f g fs) ws (g1 ++ f2 ++ g2)
  | [], _, _, _, _, e => by simp at e
  | (k, d) :: fs, _, _, d', h, e => by
    simp only [RepTf] at h
    obtain ⟨v, r, f1, f2, rfl, rfl, p, q⟩ := h
    rw [List.lookup_cons] at e
    cases hb : f == k with
    | true =>
      rw [hb] at e
      have e : d = d' := Option.some.inj e
      subst e
      refine ⟨v, [], f1, f2, by rw [List.lookup_cons, hb], by simp, p, fun g {H' P' f3} hP hI hH r3 => ?_⟩
      simp only [modF, hb, if_true, RepTf]
      exact ⟨v, r, f3, f2, rfl, by simp, r3, RepTf.mono hP hI _ _ _ (fun a ha o e => hH a (.inr ha) o e) q⟩
    | false =>
      rw [hb] at e
      obtain ⟨w, g1, f3, g2, e1, rfl, p2, up⟩ := RepTf.at q e
      refine ⟨w, f1 ++ g1, f3, g2, by rw [List.lookup_cons, hb]; exact e1, by simp, p2, fun g {H' P' f4} hP hI hH r4 => ?_⟩
      simp only [modF, hb, Bool.false_eq_true, if_false, RepTf]
      exact ⟨v, r, f1, g1 ++ f4 ++ g2, rfl, by simp, RepT.mono hP hI _ _ _ (fun a ha o e => hH a (.inl (List.mem_append_left _ ha)) o e) p, up g hP hI (fun a ha o e => hH a (ha.imp (fun z => List.mem_append_right _ z) id) o e) r4⟩
theorem nd3 {g1 f0 g2 f' : List Addr} (h : (g1 ++ f0 ++ g2).Nodup) (h' : f'.Nodup) (hs : ∀ b ∈ f', b ∈ f0 ∨ b ∉ g1 ++ f0 ++ g2) : (g1 ++ f' ++ g2).Nodup := by
  obtain ⟨h1, h2, h3⟩ := List.nodup_append.mp h
  obtain ⟨h4, h5, h6⟩ := List.nodup_append.mp h1
  have k1 : ∀ b ∈ g1, b ∉ f' := fun b hb z => by
    rcases hs b z with w | w
    · exact h6 b hb b w rfl
    · exact w (by simp [hb])
  have k2 : ∀ b ∈ g2, b ∉ f' := fun b hb z => by
    rcases hs b z with w | w
    · exact h3 b (by simp [w]) b hb rfl
    · exact w (by simp [hb])
  refine List.nodup_append.mpr ⟨List.nodup_append.mpr ⟨h4, h', fun a ha b hb z => k1 a ha (z ▸ hb)⟩, h2, fun a ha b hb z => ?_⟩
  subst z
  rcases List.mem_append.mp ha with ha | ha
  · exact h3 a (by simp [ha]) a hb rfl
  · exact k2 a hb ha
/-- a part of a tree, and the tree with the part changed -/
theorem RepT.path : ∀ (q : List St1) (d : D) (v : V) (fp : List Addr) (d1 : D), RepT G P H d v fp → fp.Nodup → getP q d = some d1 → ∃ v1 f1, RdP H q v v1 ∧ RepT G P H d1 v1 f1 ∧ f1.Nodup ∧ (∀ a ∈ f1, a ∈ fp) ∧
    ∀ (H' : Hp) (P' : Bool → Addr → Prop) (d2 : D) (f2 : List Addr), (∀ a o, P false a → H a = some o → P' false a ∧ H' a = some o) → (∀ a o, immO o = true → H a = some o → H' a = some o) → (∀ a ∈ fp, a ∉ f1 → ∀ o, H a = some o → H' a = some o) → RepT G P' H' d2 v1 f2 → f2.Nodup → (∀ a ∈ f2, a ∈ f1 ∨ a ∉ fp) →
      ∃ fp', RepT G P' H' (setP d2 q d) v fp' ∧ fp'.Nodup ∧ ∀ a ∈ fp', a ∈ fp ∨ a ∈ f2
  | [], d, v, fp, d1, h, hn, e => by
    simp only [getP, Option.some.injEq] at e
    subst e
    exact ⟨v, fp, rfl, h, hn, fun a ha => ha, fun H' P' d2 f2 _ _ _ r2 n2 h2 => ⟨f2, by simpa only [setP] using r2, n2, fun a ha => .inr ha⟩⟩
  | .ix k :: q, .lst ds, v, fp, d1, h, hn, e => by
    simp only [getP] at e
    obtain ⟨d0, e0, e1⟩ := Option.bind_eq_some_iff.mp e
    simp only [RepT] at h
    obtain ⟨a, vs, fq, rfl, rfl, ha, hz, r⟩ := h
    obtain ⟨w, g1, f0, g2, ew, rfl, r0, up⟩ := r.at e0
    obtain ⟨na, nq⟩ := List.nodup_cons.mp hn
    have n0 : f0.Nodup := (List.nodup_append.mp (List.nodup_append.mp nq).1).2.1
    obtain ⟨v1, f1, rd, r1, n1, sub, upd⟩ := RepT.path q d0 w f0 d1 r0 n0 e1
    refine ⟨v1, f1, ⟨a, vs, w, rfl, .inl ha, ew, rd⟩, r1, n1, fun b hb => by simp [sub b hb], fun H' P' d2 f2 hP hI hfp r2 n2 h2 => ?_⟩
    have a1 : a ∉ f1 := fun z => na (by simp [sub a z])
    obtain ⟨fp0, t1, t2, t3⟩ := upd H' P' d2 f2 hP hI (fun b hb hb1 => hfp b (by simp [hb]) hb1) r2 n2 fun b hb => (h2 b hb).imp id fun z w => z (by simp [w])
    have dj : ∀ b ∈ fp0, b ∈ f0 ∨ (b ∉ a :: (g1 ++ f0 ++ g2) ∧ b ∈ f2) := fun b hb => by
      rcases t3 b hb with z | z
      · exact .inl z
      · rcases h2 b z with w | w
        · exact .inl (sub b w)
        · exact .inr ⟨w, z⟩
    refine ⟨a :: (g1 ++ fp0 ++ g2), ?_, List.nodup_cons.mpr ⟨fun z => ?_, nd3 nq t2 fun b hb => (dj b hb).imp id fun z w => z.1 (by simp only [List.mem_cons, w, or_true])⟩, fun b hb => ?_⟩
    · simp only [setP, RepT]
      refine ⟨a, vs, g1 ++ fp0 ++ g2, rfl, rfl, hfp a (by simp) a1 _ ha, hz, up (setP d2 q) hP hI (fun b hb o e => ?_) t1⟩
      refine hfp b (by rcases hb with hb | hb <;> simp [hb]) (fun z => ?_) o e
      have zz := sub b z
      rcases hb with hb | hb
      · exact (List.nodup_append.mp (List.nodup_append.mp nq).1).2.2 b hb b zz rfl
      · exact (List.nodup_append.mp nq).2.2 b (by simp [zz]) b hb rfl
    · simp only [List.mem_append] at z
      rcases z with (z | z) | z
      · exact na (by simp [z])
      · rcases dj a z with w | ⟨w, _⟩
        · exact na (by simp [w])
        · exact w (by simp)
      · exact na (by simp [z])
    · simp only [List.mem_cons, List.mem_append] at hb ⊢
      rcases hb with hb | (hb | hb) | hb
      · exact .inl (.inl hb)
      · exact .inl (.inr (.inl (.inl hb)))
      · rcases t3 b hb with z | z
        · exact .inl (.inr (.inl (.inr z)))
        · exact .inr z
      · exact .inl (.inr (.inr hb))
  | .ix k :: q, .tup ds, v, fp, d1, h, hn, e => by
    simp only [getP] at e
    obtain ⟨d0, e0, e1⟩ := Option.bind_eq_some_iff.mp e
    simp only [RepT] at h
    obtain ⟨a, vs, rfl, ha, hz, r⟩ := h
    obtain ⟨w, g1, f0, g2, ew, rfl, r0, up⟩ := r.at e0
    have n0 : f0.Nodup := (List.nodup_append.mp (List.nodup_append.mp hn).1).2.1
    obtain ⟨v1, f1, rd, r1, n1, sub, upd⟩ := RepT.path q d0 w f0 d1 r0 n0 e1
    refine ⟨v1, f1, ⟨a, vs, w, rfl, .inr ha, ew, rd⟩, r1, n1, fun b hb => by simp [sub b hb], fun H' P' d2 f2 hP hI hfp r2 n2 h2 => ?_⟩
    obtain ⟨fp0, t1, t2, t3⟩ := upd H' P' d2 f2 hP hI (fun b hb hb1 => hfp b (by simp [hb]) hb1) r2 n2 fun b hb => (h2 b hb).imp id fun z w => z (by simp [w])
    refine ⟨g1 ++ fp0 ++ g2, ?_, nd3 hn t2 fun b hb => ?_, fun b hb => ?_⟩
    · simp only [setP, RepT]
      refine ⟨a, vs, rfl, hI a _ rfl ha, hz, up (setP d2 q) hP hI (fun b hb o e => ?_) t1⟩
      refine hfp b (by rcases hb with hb | hb <;> simp [hb]) (fun z => ?_) o e
      have zz := sub b z
      rcases hb with hb | hb
      · exact (List.nodup_append.mp (List.nodup_append.mp hn).1).2.2 b hb b zz rfl
      · exact (List.nodup_append.mp hn).2.2 b (by simp [zz]) b hb rfl
    · rcases t3 b hb with z | z
      · exact .inl z
      · exact (h2 b z).imp (sub b) id
    · simp only [List.mem_append] at hb ⊢
      rcases hb with (hb | hb) | hb
      · exact .inl (.inl (.inl hb))
      · rcases t3 b hb with z | z
        · exact .inl (.inl (.inr z))
        · exact .inr z
      · exact .inl (.inr hb)
  | .at f :: q, .obj c fs, v, fp, d1, h, hn, e => by
    simp only [getP] at e
    obtain ⟨d0, e0, e1⟩ := Option.bind_eq_some_iff.mp e
    simp only [RepT] at h
    obtain ⟨a, C, dx, ws, rfl, hp, ha, hc, r⟩ := h
    obtain ⟨w, g1, f0, g2, ew, rfl, r0, up⟩ := r.at e0
    have n0 : f0.Nodup := (List.nodup_append.mp (List.nodup_append.mp hn).1).2.1
    obtain ⟨v1, f1, rd, r1, n1, sub, upd⟩ := RepT.path q d0 w f0 d1 r0 n0 e1
    refine ⟨v1, f1, ⟨a, C, dx, ws, w, rfl, ha, ew, rd⟩, r1, n1, fun b hb => by simp [sub b hb], fun H' P' d2 f2 hP hI hfp r2 n2 h2 => ?_⟩
    obtain ⟨fp0, t1, t2, t3⟩ := upd H' P' d2 f2 hP hI (fun b hb hb1 => hfp b (by simp [hb]) hb1) r2 n2 fun b hb => (h2 b hb).imp id fun z w => z (by simp [w])
    refine ⟨g1 ++ fp0 ++ g2, ?_, nd3 hn t2 fun b hb => ?_, fun b hb => ?_⟩
    · simp only [setP, RepT]
      refine ⟨a, C, dx, ws, rfl, (hP a _ hp ha).1, (hP a _ hp ha).2, hc, up (setP d2 q) hP hI (fun b hb o e => ?_) t1⟩
      refine hfp b (by rcases hb with hb | hb <;> simp [hb]) (fun z => ?_) o e
      have zz := sub b z
      rcases hb with hb | hb
      · exact (List.nodup_append.mp (List.nodup_append.mp hn).1).2.2 b hb b zz rfl
      · exact (List.nodup_append.mp hn).2.2 b (by simp [zz]) b hb rfl
    · rcases t3 b hb with z | z
      · exact .inl z
      · exact (h2 b z).imp (sub b) id
    · simp only [List.mem_append] at hb ⊢
      rcases hb with (hb | hb) | hb
      · exact .inl (.inl (.inl hb))
      · rcases t3 b hb with z | z
        · exact .inl (.inl (.inr z))
        · exact .inr z
      · exact .inl (.inr hb)
  | .ix _ :: _, .non, _, _, _, _, _, e => by simp [getP] at e
  | .ix _ :: _, .bl _, _, _, _, _, _, e => by simp [getP] at e
  | .ix _ :: _, .int _, _, _, _, _, _, e => by simp [getP] at e
  | .ix _ :: _, .str _, _, _, _, _, _, e => by simp [getP] at e
  | .ix _ :: _, .scr _, _, _, _, _, _, e => by simp [getP] at e
  | .ix _ :: _, .dic _, _, _, _, _, _, e => by simp [getP] at e
  | .ix _ :: _, .obj _ _, _, _, _, _, _, e => by simp [getP] at e
  | .ix _ :: _, .exc _, _, _, _, _, _, e => by simp [getP] at e
  | .at _ :: _, .non, _, _, _, _, _, e => by simp [getP] at e
  | .at _ :: _, .bl _, _, _, _, _, _, e => by simp [getP] at e
  | .at _ :: _, .int _, _, _, _, _, _, e => by simp [getP] at e
  | .at _ :: _, .str _, _, _, _, _, _, e => by simp [getP] at e
  | .at _ :: _, .scr _, _, _, _, _, _, e => by simp [getP] at e
  | .at _ :: _, .lst _, _, _, _, _, _, e => by simp [getP] at e
  | .at _ :: _, .tup _, _, _, _, _, _, e => by simp [getP] at e
  | .at _ :: _, .dic _, _, _, _, _, _, e => by simp [getP] at e
  | .at _ :: _, .exc _, _, _, _, _, _, e => by simp [getP] at e
end
end FS

/-! FS24: a tree's list changed. -/
namespace FS
open PySem L2
section
variable {T : Tb} {W : Nat} {C : Fid → List D → R (D × Bool)} {G : GT} {Y : XK} {X : Cx} {B : Bs} {F : Fr} {ex : Xc} {E : SEnv} {σ : St} {H H' H0 H1 : Hp} {a b c o i e k tg iter : Expr} {ea eb ec eo ei ee ek : Ex} {es : List Expr} {ees : Exs} {pos apos cpos px p : Pos} {D' : Ends}
/-- a slot's tree is another one now -/
theorem Sim.mut {j : Nat} {d d' : D} {v : V} (S : Sim G (B.fr ex) E σ H) (he : E[j]? = some (some (.dep d))) (hv : σ[j]? = some (some v)) (hm : ∀ a o, ¬ ex.rg j a → H a = some o → H' a = some o) (hLD : ∀ a, ex.rg j a → isLD (H' a)) (hhk : ∀ p ∈ B.hk, p.1 ≠ j) (hd : DepR G (B.fr ex) H' (ex.rg j) d' v) : Sim G (B.fr ex) (E.set j (some (.dep d'))) σ H' := by
  have kP : ∀ n k b o, cl (B.fr ex) n k b → H b = some o → cl (B.fr ex) n k b ∧ H' b = some o := fun n k b o p e => ⟨p, hm b o (fun z => p.1 (S.dp.rgx j b z).1) e⟩
  have kI : ∀ b o, immO o = true → H b = some o → H' b = some o := fun b o im e => hm b o (fun z => by
    rcases (S.dp.rgx j b z).2 with ⟨vs, g⟩ | ⟨vs, g⟩ <;> rw [e] at g <;> cases g <;> cases im) e
  have hlt : j < E.length := (List.getElem?_eq_some_iff.mp he).1
  refine ⟨by simp [S.len], fun a o h1 h2 h3 => hm a o (fun z => ?_) (S.ent a o h1 h2 h3), fun i sl e => ?_, fun i k d1 d2 n1 n2 w hik e1 e2 h1 h2 => ?_, fun p hp => Rep.mono (kP _) kI _ _ (S.pin p hp), fun a h => ?_, fun p hp => ?_, ⟨fun i d1 e => ?_, fun i c fs e => ?_, fun i a z => ⟨(S.dp.rgx i a z).1, ?_⟩, S.dp.rgj, fun i k d1 n1 a e1 e2 => ?_, S.dp.rgm, S.dp.io, fun i k c c' fs fs' n1 e1 e2 => ?_, fun i c fs e => ?_, fun p hp => ⟨(S.dp.hk p hp).1, hm _ _ (fun z => S.dp.rgj _ _ _ (hhk p hp) (S.dp.hk p hp).1 z) (S.dp.hk p hp).2⟩⟩⟩
  · rcases (S.dp.rgm j a z).1 with w | w
    · have h3 : B.H0 a = some o := h3
      have w : B.H0 a = none := w
      rw [w] at h3
      cases h3
    · exact h2 w
  · rw [List.getElem?_set] at e
    split at e
    · rename_i hij
      subst hij
      cases e
      exact ⟨v, hv, trivial⟩
    · obtain ⟨u, e1, e2⟩ := S.slot i sl e
      refine ⟨u, e1, ?_⟩
      cases sl with
      | dep d1 => exact e2
      | slf c fs => exact e2
      | shr d1 n1 => exact Rep.mono (kP n1) kI _ _ e2
      | own d1 n1 =>
        obtain ⟨b, rfl, hb, hob⟩ := e2
        have nb : ¬ ex.rg j b := S.dp.rgo i j d1 n1 b e e1
        refine ⟨b, rfl, hb, ?_⟩
        cases d1 with
        | lst ds => obtain ⟨q1, q2, vs, q3, q4, q5⟩ := hob; exact ⟨q1, q2, vs, hm _ _ nb q3, q4, Reps.mono (kP n1) kI _ _ q5⟩
        | dic ds => obtain ⟨q1, q2, vs, q3, q4, q5⟩ := hob; exact ⟨q1, q2, vs, hm _ _ nb q3, q4, RepK.mono (kP n1) kI _ _ q5⟩
        | obj c fs => obtain ⟨q2, Ca, dx, ws, q3, q4, q5⟩ := hob; exact ⟨q2, Ca, dx, ws, hm _ _ nb q3, q4, RepF.mono (kP n1) kI _ _ q5⟩
        | _ => exact hob
  · rw [List.getElem?_set] at e1 e2
    split at e1
    · cases e1
    · split at e2
      · cases e2
      · exact S.dis i k d1 d2 n1 n2 w hik e1 e2 h1 h2
  · by_cases z : ex.rg j a
    · rcases hLD a z with ⟨vs, g⟩ | ⟨vs, g⟩ <;> rw [g] <;> simp
    · have := S.exH a h
      cases w : H a with
      | none => exact absurd w this
      | some o => rw [hm a o z w]; simp
  · obtain ⟨z1, z2⟩ := S.lk p hp
    refine ⟨?_, z2⟩
    rw [List.getElem?_set_ne]
    · exact z1
    · intro z
      rw [← z, he] at z1
      cases z1
  · rw [List.getElem?_set] at e
    split at e
    · rename_i hij
      subst hij
      cases e
      exact ⟨v, hv, hd⟩
    · rename_i hij
      obtain ⟨u, h1, h2⟩ := S.dp.slot i d1 e
      exact ⟨u, h1, h2.mono (kP true false) kI (fun b z => z) fun b o z e => hm b o (fun w => S.dp.rgj i j b (fun y => hij y.symm) z w) e⟩
  · rw [List.getElem?_set] at e
    split at e
    · cases e
    · rename_i hij
      obtain ⟨u, h1, h2⟩ := S.dp.slf i c fs e
      exact ⟨u, h1, h2.mono (kP true false) kI (fun b z => z) (fun b o z e => hm b o (fun w => S.dp.rgj i j b (fun y => hij y.symm) z w) e) rfl (fun _ _ z => z) fun b o hs e => hm b o (fun w => (S.dp.rgm j b w).2 hs) e⟩
  · by_cases z' : ex.rg j a
    · exact hLD a z'
    · rcases (S.dp.rgx i a z).2 with ⟨vs, g⟩ | ⟨vs, g⟩
      · exact .inl ⟨vs, hm a _ z' g⟩
      · exact .inr ⟨vs, hm a _ z' g⟩
  · rw [List.getElem?_set] at e1
    split at e1
    · cases e1
    · exact S.dp.rgo i k d1 n1 a e1 e2
  · rw [List.getElem?_set] at e1 e2
    split at e1
    · cases e1
    · split at e2
      · cases e2
      · exact S.dp.slo i k c c' fs fs' n1 e1 e2
  · rw [List.getElem?_set] at e
    split at e
    · cases e
    · exact S.dp.sl0 i c fs e
/-- a list, a dict within a slot's tree is written, with a new tree perhaps -/
theorem Sim.mutG {j : Nat} {d d1 dx : D} {vx : V} {fx : List Addr} {q : List St1} (S0 : Sim G (B.fr ex) E σ H0) (s : Same H0 H1) (rx : RepT G (cl (B.fr ex) true) H1 dx vx fx) (wx : ∀ a ∈ fx, H0 a = none) (he : E[j]? = some (some (.dep d))) (hhk : ∀ p ∈ B.hk, p.1 ≠ j) (hq : getP q d = some d1) :
    ∃ v v1 f1, σ[j]? = some (some v) ∧ RdP H0 q v v1 ∧ RepT G (cl (B.fr ex) true) H0 d1 v1 f1 ∧ f1.Nodup ∧ (∀ a ∈ f1, ex.rg j a) ∧ (∀ a ∈ f1, a ∉ fx) ∧
      ∀ (a1 : Addr) (o' : HO) (d2 : D) (f2 : List Addr), v1 = .ref a1 → a1 ∈ f1 → isLD (some o') → RepT G (cl (B.fr (ex.more j fx)) true) (L2.upd H1 a1 o') d2 v1 f2 → f2.Nodup → (∀ a ∈ f2, a ∈ f1 ∨ a ∈ fx) → Sim G (B.fr (ex.more j fx)) (E.set j (some (.dep (setP d2 q d)))) σ (L2.upd H1 a1 o') := by
  obtain ⟨v, hv, fp, r, n, sub⟩ := S0.dp.slot j d he
  obtain ⟨v1, f1, rd, r1, n1, sub1, up⟩ := RepT.path q d v fp d1 r n hq
  have old : ∀ a ∈ fp, a ∉ fx := fun a ha z => by
    rcases RepT.isLD d v fp r a ha with ⟨vs, g⟩ | ⟨vs, g⟩ <;> rw [wx a z] at g <;> cases g
  refine ⟨v, v1, f1, hv, rd, r1, n1, fun a ha => sub a (sub1 a ha), fun a ha => old a (sub1 a ha), fun a1 o' d2 f2 e1 ha1 hLD r2 n2 h2 => ?_⟩
  have S1 := S0.grow j s rx wx
  have hr1 : ex.rg j a1 := sub a1 (sub1 a1 ha1)
  have hO : ∀ a o, a ≠ a1 → H1 a = some o → (L2.upd H1 a1 o') a = some o := fun a o z e => by rw [upd_ne z]; exact e
  obtain ⟨fp', t1, t2, t3⟩ := up (L2.upd H1 a1 o') (cl (B.fr (ex.more j fx)) true) d2 f2 (fun a o p e => ⟨⟨fun z => z.elim p.1 fun z => (by rw [wx a z] at e; cases e), p.2⟩, hO a o (fun z => p.1 (by rw [z]; exact (S0.dp.rgx j a1 hr1).1)) (s a o e)⟩) (fun a o im e => hO a o (fun z => by
    subst z
    rcases (S0.dp.rgx j a hr1).2 with ⟨vs, g⟩ | ⟨vs, g⟩ <;> rw [e] at g <;> cases g <;> cases im) (s a o e)) (fun a ha hn o e => hO a o (fun z => hn (z ▸ ha1)) (s a o e)) r2 n2 fun a ha => (h2 a ha).imp id fun z w => old a w z
  refine S1.mut he hv (fun a o hn e => hO a o (fun z => hn (by rw [z]; exact .inl hr1)) e) (fun a ha => ?_) hhk ⟨fp', t1, t2, fun a ha => ?_⟩
  · by_cases z : a = a1
    · rw [z, upd_same]; exact hLD
    · rw [upd_ne z]
      exact (S1.dp.rgx j a ha).2
  · rcases t3 a ha with z | z
    · exact .inl (sub a z)
    · rcases h2 a z with w | w
      · exact .inl (sub a (sub1 a w))
      · exact .inr ⟨rfl, w⟩
/-! ### the way, as it is written -/
/-- the reading of a way into slot j's tree -/
def tPt (T : Tb) (C : Fid → List D → R (D × Bool)) (G : GT) (Y : XK) (j : Nat) (p : List PSt) : TE := fun σ H Q => ∃ F E d, Sim G F E σ H ∧ E[j]? = some (some (.dep d)) ∧ (evP T C p E).sat (fun q => (getP q d).isSome = true ∧ ∀ H' v u, Same H H' → σ[j]? = some (some v) → RdP H' q v u → Q u H') (wish G Y H)
theorem vp_var {j : Nat} {x : Str} (hN : X.N[j]? = some x) (hv : Vis X.env.scope x) (hd : (x == ("__debug__" : Str)) = false) (hcd : (x == ("__classdict__" : Str)) = false) : PE X (.Name x pos) (tPt T C G Y j []) := by
  refine PE_weak (pe_var hN hv hd hcd) fun σ H Q => ?_
  rintro ⟨F, E, d, S, he, h⟩
  simp only [evP] at h
  obtain ⟨v, hv, _⟩ := S.slot j _ he
  exact ⟨v, hv, h.2 H v v (Same.refl _) hv rfl⟩
theorem nox_ok {α β : Type} {r : R α} {f : α → R β} {q : β → Prop} {w : Str → Prop} (h : (r.nox.bind f).sat q w) : ∃ x, r = .ok x ∧ (f x).sat q w := by
  cases r with
  | ok x => exact ⟨x, rfl, h⟩
  | exc c => exact h.elim
  | bad => exact h.elim
theorem evP_ne : ∀ (p : List PSt) (E : SEnv) (c : Str), evP T C p E ≠ .exc c
  | [], E, c, h => by simp [evP] at h
  | .ix e :: p, E, c, h => by
    simp only [evP] at h
    cases q : ev T C e (borE E) with
    | bad => rw [q] at h; cases h
    | exc c => rw [q] at h; cases h
    | ok x =>
      rw [q] at h
      have h : ((stV x.1).bind fun s => (evP T C p E).bind fun q => R.ok (s :: q)) = .exc c := h
      cases q2 : stV x.1 with
      | bad => rw [q2] at h; cases h
      | exc c' =>
        unfold stV at q2
        split at q2
        · split at q2 <;> cases q2
        · cases q2
      | ok s =>
        rw [q2] at h
        cases q3 : evP T C p E with
        | bad => rw [q3] at h; cases h
        | exc c' => exact evP_ne p E c' q3
        | ok r => rw [q3] at h; cases h
  | .at f :: p, E, c, h => by
    simp only [evP] at h
    cases q3 : evP T C p E with
    | bad => rw [q3] at h; cases h
    | exc c' => exact evP_ne p E c' q3
    | ok r => rw [q3] at h; cases h
theorem evP_snoc (x : PSt) : ∀ (p : List PSt) (E : SEnv), evP T C (p ++ [x]) E = (evP T C p E).bind fun q => (evP T C [x] E).bind fun r => .ok (q ++ r)
  | [], E => by
    show evP T C [x] E = (evP T C [x] E).bind fun r => .ok ([] ++ r)
    cases evP T C [x] E <;> rfl
  | .ix e :: p, E => by
    show ((ev T C e (borE E)).nox.bind fun y => (stV y.1).bind fun s => (evP T C (p ++ [x]) E).bind fun q => .ok (s :: q)) = _
    rw [evP_snoc x p E]
    show _ = (((ev T C e (borE E)).nox.bind fun y => (stV y.1).bind fun s => (evP T C p E).bind fun q => .ok (s :: q))).bind _
    cases (ev T C e (borE E)).nox with
    | bad => rfl
    | exc c => rfl
    | ok y =>
      show ((stV y.1).bind _) = ((stV y.1).bind _).bind _
      cases stV y.1 with
      | bad => rfl
      | exc c => rfl
      | ok s =>
        show ((evP T C p E).bind _).bind _ = ((evP T C p E).bind _).bind _
        cases evP T C p E with
        | bad => rfl
        | exc c => rfl
        | ok q =>
          show ((evP T C [x] E).bind _).bind _ = (evP T C [x] E).bind _
          cases evP T C [x] E <;> rfl
  | .at f :: p, E => by
    show ((evP T C (p ++ [x]) E).bind fun q => .ok (.at f :: q)) = _
    rw [evP_snoc x p E]
    show _ = ((evP T C p E).bind fun q => .ok (.at f :: q)).bind _
    cases evP T C p E with
    | bad => rfl
    | exc c => rfl
    | ok q =>
      show ((evP T C [x] E).bind _).bind _ = (evP T C [x] E).bind _
      cases evP T C [x] E <;> rfl
theorem getP_snoc (s : St1) : ∀ (q : List St1) (d : D), getP (q ++ [s]) d = (getP q d).bind (getP [s])
  | [], d => rfl
  | .ix k :: q, .lst ds => by
    show (ds[k]?).bind (getP (q ++ [s])) = ((ds[k]?).bind (getP q)).bind _
    cases ds[k]? with
    | none => rfl
    | some d => exact getP_snoc s q d
  | .ix k :: q, .tup ds => by
    show (ds[k]?).bind (getP (q ++ [s])) = ((ds[k]?).bind (getP q)).bind _
    cases ds[k]? with
    | none => rfl
    | some d => exact getP_snoc s q d
  | .at f :: q, .obj c fs => by
    show (fs.lookup f).bind (getP (q ++ [s])) = ((fs.lookup f).bind (getP q)).bind _
    cases fs.lookup f with
    | none => rfl
    | some d => exact getP_snoc s q d
  | .ix _ :: _, .non => rfl
  | .ix _ :: _, .bl _ => rfl
  | .ix _ :: _, .int _ => rfl
  | .ix _ :: _, .str _ => rfl
  | .ix _ :: _, .scr _ => rfl
  | .ix _ :: _, .dic _ => rfl
  | .ix _ :: _, .obj _ _ => rfl
  | .ix _ :: _, .exc _ => rfl
  | .at _ :: _, .non => rfl
  | .at _ :: _, .bl _ => rfl
  | .at _ :: _, .int _ => rfl
  | .at _ :: _, .str _ => rfl
  | .at _ :: _, .scr _ => rfl
  | .at _ :: _, .lst _ => rfl
  | .at _ :: _, .tup _ => rfl
  | .at _ :: _, .dic _ => rfl
  | .at _ :: _, .exc _ => rfl
theorem evP_ok {p : List PSt} {β : Type} {f : List St1 → R β} {q : β → Prop} {w : Str → Prop} (h : ((evP T C p E).bind f).sat q w) : ∃ x, evP T C p E = .ok x ∧ (f x).sat q w := by
  rw [R.sat_bind] at h
  obtain ⟨x, e, h⟩ := sat_of h (evP_ne p E)
  exact ⟨x, e, h⟩
theorem stV_ok {β : Type} {d : D} {f : St1 → R β} {r : β} (h : (stV d).bind f = .ok r) : ∃ z : Int, d = .int z ∧ 0 ≤ z ∧ f (.ix z.toNat) = .ok r := by
  unfold stV at h
  split at h
  · split at h
    · rename_i z hz
      exact ⟨z, rfl, hz, h⟩
    · cases h
  · cases h
theorem vp_ix {j : Nat} {p : List PSt} (hK : X.K = G.K) (hu : X.A.units + 1 < cLine) (hs : notSlice i = true) (ho : PE X o (tPt T C G Y j p)) (hi : PE X i (tP T C G Y ei)) : PE X (.Subscript o i pos) (tPt T C G Y j (p ++ [.ix ei])) := by
  refine PE_weak (pe_ix (ix_all hu) ho hi (plain_ix hs)) fun σ H Q => ?_
  rintro ⟨F, E, d, S, he, h⟩
  rw [hK]
  rw [evP_snoc] at h
  obtain ⟨q, e1, h⟩ := evP_ok h
  obtain ⟨r, e2, h⟩ := evP_ok h
  obtain ⟨hs1, h⟩ := h
  simp only [evP] at e2
  cases e3 : ev T C ei (borE E) with
  | bad => rw [e3] at e2; cases e2
  | exc c => rw [e3] at e2; cases e2
  | ok x =>
    rw [e3] at e2
    have e2 : ((stV x.1).bind fun s => R.ok [s]) = .ok r := e2
    obtain ⟨z, hxz, hz, e4⟩ := stV_ok e2
    clear e2
    obtain ⟨dx, fx⟩ := x
    have hxz : dx = .int z := hxz
    subst hxz
    have e4 : R.ok [St1.ix z.toNat] = .ok r := e4
    cases e4
    rw [getP_snoc] at hs1
    obtain ⟨d0, g0⟩ : ∃ d0, getP q d = some d0 := by
      cases g : getP q d with
      | none => rw [g] at hs1; cases hs1
      | some d0 => exact ⟨d0, rfl⟩
    rw [g0] at hs1
    refine ⟨F, E, d, S, he, ?_⟩
    rw [e1]
    refine ⟨by rw [g0]; rfl, fun H1 v u s1 hv rd => ?_⟩
    refine ⟨F.bor, borE E, (S.same s1).bor, ?_⟩
    rw [e3]
    intro y H2 P2
    have hy : y = .int z := P2.val.int
    subst hy
    obtain ⟨v', hv', fp, r, n, _⟩ := (S.same (s1.trans P2.same)).dp.slot j d he
    rw [hv] at hv'
    cases hv'
    obtain ⟨v1, f1, rd1, r1, _, _, _⟩ := RepT.path q d v fp d0 r n g0
    have := rd1.det (rd.same P2.same)
    subst this
    cases d0 <;> first | (exfalso; revert hs1; simp [getP]; done) | skip
    · rename_i ds
      simp only [RepT] at r1
      obtain ⟨a, vs, fq, rfl, _, ha, hzl, rs⟩ := r1
      have hs1 : ((ds[z.toNat]?).bind (getP [])).isSome = true := hs1
      cases g1 : ds[z.toNat]? with
      | none => rw [g1] at hs1; cases hs1
      | some d2 =>
        obtain ⟨w, _, _, _, ew, _, _, _⟩ := rs.at g1
        refine .inl ⟨a, vs, z, w, rfl, rfl, SqL.of ha, ?_, h H2 v w (s1.trans P2.same) hv ((rd.same P2.same).snoc_ix (.inl ha) ew)⟩
        have hzn : (z.toNat : Int) = z := Int.toNat_of_nonneg hz
        rw [← hzn]
        exact (atI_nat ew)
    · rename_i ds
      simp only [RepT] at r1
      obtain ⟨a, vs, rfl, ha, hzl, rs⟩ := r1
      have hs1 : ((ds[z.toNat]?).bind (getP [])).isSome = true := hs1
      cases g1 : ds[z.toNat]? with
      | none => rw [g1] at hs1; cases hs1
      | some d2 =>
        obtain ⟨w, _, _, _, ew, _, _, _⟩ := rs.at g1
        refine .inr (.inl ⟨a, vs, z, w, rfl, rfl, SqT.of ha, ?_, h H2 v w (s1.trans P2.same) hv ((rd.same P2.same).snoc_ix (.inr ha) ew)⟩)
        have hzn : (z.toNat : Int) = z := Int.toNat_of_nonneg hz
        rw [← hzn]
        exact (atI_nat ew)
theorem vp_at {j : Nat} {p : List PSt} {f : Str} (hK : X.K = G.K) (hcl : ∀ c Ca, G.cls c = some Ca → Cls G.K Ca ∧ NoAttr G.K Ca f) (hp : attrPlain o = true) (ho : PE X o (tPt T C G Y j p)) : PE X (.Attribute o f pos) (tPt T C G Y j (p ++ [.at f])) := by
  refine PE_weak (pe_fld ho (attr_base hp)) fun σ H Q => ?_
  rintro ⟨F, E, d, S, he, h⟩
  rw [hK]
  rw [evP_snoc] at h
  obtain ⟨q, e1, h⟩ := evP_ok h
  obtain ⟨r, e2, h⟩ := evP_ok h
  obtain ⟨hs1, h⟩ := h
  simp only [evP] at e2
  cases e2
  rw [getP_snoc] at hs1
  obtain ⟨d0, g0⟩ : ∃ d0, getP q d = some d0 := by
    cases g : getP q d with
    | none => rw [g] at hs1; cases hs1
    | some d0 => exact ⟨d0, rfl⟩
  rw [g0] at hs1
  refine ⟨F, E, d, S, he, ?_⟩
  rw [e1]
  refine ⟨by rw [g0]; rfl, fun H1 v u s1 hv rd => ?_⟩
  obtain ⟨v', hv', fp, r, n, _⟩ := (S.same s1).dp.slot j d he
  rw [hv] at hv'
  cases hv'
  obtain ⟨v1, f1, rd1, r1, _, _, _⟩ := RepT.path q d v fp d0 r n g0
  have := rd1.det rd
  subst this
  cases d0 <;> first | (exfalso; revert hs1; simp [getP]; done) | skip
  rename_i c fs
  have hs1 : ((fs.lookup f).bind (getP [])).isSome = true := hs1
  simp only [RepT] at r1
  obtain ⟨a, Ca, dx, ws, rfl, _, ha, hc, rs⟩ := r1
  cases g1 : fs.lookup f with
  | none => rw [g1] at hs1; cases hs1
  | some d2 =>
    obtain ⟨w, _, _, _, ew, _, _, _⟩ := rs.at g1
    exact ⟨a, Ca, dx, ws, w, rfl, ha, (hcl _ _ hc).1, (hcl _ _ hc).2, ew, h H1 v w s1 hv (rd.snoc_at ha ew)⟩
end
end FS

/-! FS25: statements that change a tree. -/
namespace FS
open PySem L2
section
variable {T : Tb} {W : Nat} {C : Fid → List D → R (D × Bool)} {G : GT} {Y : XK} {X : Cx} {B : Bs} {F : Fr} {ex : Xc} {E : SEnv} {σ : St} {H H' H0 H1 : Hp} {a b c o i e k tg iter : Expr} {ea eb ec eo ei ee ek : Ex} {es : List Expr} {ees : Exs} {pos apos cpos px p : Pos} {D' : Ends}
theorem hk_no {j : Nat} (h : B.L.contains j = false) : ∀ p ∈ B.hk, p.1 ≠ j := fun p hp z => by
  have := B.hL.2.2 p hp
  rw [z] at this
  simp at h
  exact h this
/-- what a statement x.m(..) does to a list of a tree -/
theorem mut_start {j : Nat} {p : List PSt} {op : MOp} {L : List Nat} (h : (exec T W C (.mut j p op) L E).sat (SPo G B D') (wishB G Y B)) : L.contains j = false ∧ ∃ d q d1, E[j]? = some (some (.dep d)) ∧ evP T C p E = .ok q ∧ getP q d = some d1 ∧ okM op d1 = true ∧ ((mutV T C op E d1).bind fun d2 => R.ok (Fw.nx (E.set j (some (.dep (setP d2 q d)))))).sat (SPo G B D') (wishB G Y B) := by
  simp only [exec] at h
  split at h
  · exact h.elim
  rename_i hl
  refine ⟨by simpa using hl, ?_⟩
  split at h
  rotate_left
  · exact h.elim
  rename_i d ho
  simp only [mutD] at h
  rw [R.sat_bind, R.sat_bind] at h
  obtain ⟨q, e1, h⟩ := sat_of h (evP_ne p E)
  cases g : getP q d with
  | none => rw [g] at h; exact h.elim
  | some d1 =>
    rw [g] at h
    simp only at h
    split at h
    · rename_i hk
      refine ⟨d, q, d1, depO_some ho, e1, g, hk, ?_⟩
      rw [R.sat_bind] at h
      rw [R.sat_bind]
      exact h
    · exact h.elim
theorem okM_lst {op : MOp} {d : D} (h : okM op d = true) (hs : ∀ k e, op ≠ .set k e) : ∃ ds, d = .lst ds := by
  unfold okM at h
  split at h
  · exact absurd rfl (hs _ _)
  · exact ⟨_, rfl⟩
  · cases h
/-- way.append(tree) -/
theorem vs_mutA {j : Nat} {p : List PSt} {t : TEx} (ho : PE X o (tPt T C G Y j p)) (hb : attrPlain o = true) (he : PE X e (tTr T C G Y t)) (hs : notStar e = true) (hl : (apos.endLine == cpos.line) = true) :
    PS X (.Expr (.Call (.Attribute o "append" apos) [e] [] cpos) pos) (tS T W C G Y B (.mut j p (.app t))) := by
  refine PS_weak (ps_expr (pe_bm PySem.F.plainAttrs_list PySem.F.slot_list_append PySem.F.type_list_append mt_append ho (pa_cons he pa_nil (star_cons hs)) (attr_base hb) (by rw [star_cons hs]; rfl) hl (star_cons hs) rfl) rfl) fun D' σ H => ?_
  rintro ⟨ex, E, S, h⟩
  obtain ⟨hL, d, q, d1, he, e1, hq, hk, h⟩ := mut_start h
  obtain ⟨ds, rfl⟩ := okM_lst hk (fun _ _ z => by cases z)
  refine ⟨_, E, d, S, he, ?_⟩
  rw [e1]
  refine ⟨by rw [hq]; rfl, fun H1 v u s1 hv rd => ?_⟩
  have S1 := S.same s1
  obtain ⟨v', hv', fp, r, n, _⟩ := S1.dp.slot j d he
  rw [hv] at hv'
  cases hv'
  obtain ⟨v1, f1, rd1, r1, _, _, _⟩ := RepT.path q d v fp _ r n hq
  have := rd1.det rd
  subst this
  have r1' := r1
  simp only [RepT] at r1'
  obtain ⟨a, vs, fq, rfl, _, ha, hz, _⟩ := r1'
  refine ⟨.inl ⟨rfl, _, .inl (.inl ha)⟩, ?_⟩
  show tTr T C G Y t σ H1 fun y H2 => rAppend (.ref a) [y] H2 fun _ H3 => D'.nx σ H3
  simp only [mutV] at h
  have h : ((tev T C t E).bind fun x => (appD (.lst ds) x).bind fun d2 => R.ok (Fw.nx (E.set j (some (.dep (setP d2 q d)))))).sat (SPo G B D') (wishB G Y B) := by
    rw [R.sat_bind, R.sat_bind] at h
    rw [R.sat_bind]
    refine R.sat_mono h (fun x q => ?_) fun _ z => z
    rw [R.sat_bind]
    exact q
  refine st_bindT S1 h fun dx y H2 fx s2 rx nx wx q2 => ?_
  unfold appD at q2
  simp only at q2
  split at q2
  rotate_left
  · exact q2.elim
  rename_i hlt
  obtain ⟨w, w1, f2, hv2, rd2, r2, n2, sub2, dj, up⟩ := S1.mutG s2 rx wx he (hk_no hL) hq
  rw [hv] at hv2
  cases hv2
  have := rd2.det rd
  subst this
  simp only [RepT] at r2
  obtain ⟨a', vs', fq, e', rfl, ha', hz', rs⟩ := r2
  cases e'
  rw [ha] at ha'
  cases ha'
  have hlen := rs.length
  have ll := lim_line
  refine ⟨a, vs, y, rfl, rfl, s2 _ _ ha, by omega, ?_⟩
  have hfx : a ∉ fx := dj a List.mem_cons_self
  have S2 := S1.grow j s2 rx wx
  have hra : ex.rg j a := sub2 a List.mem_cons_self
  have kO : ∀ b o, b ≠ a → H2 b = some o → (upd H2 a (.lst (vs ++ [y]))) b = some o := fun b o z e => by rw [upd_ne z]; exact e
  have kP : ∀ b o, cl (B.fr (ex.more j fx)) true false b → H2 b = some o → cl (B.fr (ex.more j fx)) true false b ∧ (upd H2 a (.lst (vs ++ [y]))) b = some o := fun b o p e => ⟨p, kO b o (fun z => p.1 (by rw [z]; exact .inl (S1.dp.rgx j a hra).1)) e⟩
  have kI : ∀ b o, immO o = true → H2 b = some o → (upd H2 a (.lst (vs ++ [y]))) b = some o := fun b o im e => kO b o (fun z => by
    subst z
    rw [s2 _ _ ha] at e
    cases e
    cases im) e
  have nq := (List.nodup_cons.mp n2)
  have t1 : RepTs G (cl (B.fr (ex.more j fx)) true) (upd H2 a (.lst (vs ++ [y]))) ds vs fq := by
    refine RepTs.mono kP kI _ _ _ (fun b hb o e => kO b o (fun z => nq.1 (z ▸ hb)) e) (RepTs.mono (fun b o p e => ⟨⟨fun z => z.elim p.1 fun z => (by rw [wx b z] at e; cases e), p.2⟩, s2 b o e⟩) (fun b o _ e => s2 b o e) _ _ _ (fun b _ o e => s2 b o e) rs)
  have t2 : RepT G (cl (B.fr (ex.more j fx)) true) (upd H2 a (.lst (vs ++ [y]))) dx y fx := by
    refine RepT.mono kP kI _ _ _ (fun b hb o e => kO b o (fun z => hfx (z ▸ hb)) e) (RepT.objs (fun b Ca dxx ws p e => ⟨fun z => z.elim p.1 fun z => ?_, p.2⟩) _ _ _ rx)
    rcases RepT.isLD dx y fx rx b z with ⟨vs, g⟩ | ⟨vs, g⟩ <;> rw [g] at e <;> cases e
  refine q2 _ _ _ (up a (.lst (vs ++ [y])) (.lst (ds ++ [dx])) (a :: (fq ++ fx)) rfl List.mem_cons_self (.inl ⟨_, rfl⟩) ?_ ?_ fun b hb => ?_)
  · simp only [RepT]
    exact ⟨a, vs ++ [y], fq ++ fx, rfl, rfl, upd_same, by simp; omega, t1.snoc t2⟩
  · refine List.nodup_cons.mpr ⟨fun z => ?_, List.nodup_append.mpr ⟨nq.2, nx, fun b hb b' hb' z => ?_⟩⟩
    · rcases List.mem_append.mp z with z | z
      · exact nq.1 z
      · exact hfx z
    · subst z
      exact dj b (List.mem_cons_of_mem _ hb) hb'
  · simp only [List.mem_cons, List.mem_append] at hb ⊢
    rcases hb with hb | hb | hb
    · exact .inl (.inl hb)
    · exact .inl (.inr hb)
    · exact .inr hb
/-- a list, a dict of flat things within a slot's tree, ready to be written -/
theorem Sim.mutF {j : Nat} {d d1 : D} {q : List St1} {v u : V} (S : Sim G (B.fr ex) E σ H) (he : E[j]? = some (some (.dep d))) (hhk : ∀ p ∈ B.hk, p.1 ≠ j) (hq : getP q d = some d1) (hv : σ[j]? = some (some v)) (rd : RdP H q v u) (hl : d1.isL = true) :
    ∃ a f1, u = .ref a ∧ RepT G (cl (B.fr ex) true) H d1 u f1 ∧ ex a ∧ a ∈ f1 ∧ ∀ (H2 : Hp) (o' : HO) (d2 : D), Same H H2 → isLD (some o') → RepT G (cl (B.fr ex) true) (L2.upd H2 a o') d2 u [a] → ∃ ex', Sim G (B.fr ex') (E.set j (some (.dep (setP d2 q d)))) σ (L2.upd H2 a o') := by
  obtain ⟨w, w1, f1, hv2, rd2, r2, n2, sub2, _, _⟩ := S.mutG (dx := .non) (vx := .non) (fx := []) (Same.refl _) (by simp [RepT]) (by simp) he hhk hq
  rw [hv] at hv2
  cases hv2
  have := rd2.det rd
  subst this
  obtain ⟨a, rfl, ha⟩ : ∃ a, w1 = .ref a ∧ a ∈ f1 := by
    cases d1 with
    | lst ds => simp only [RepT] at r2; obtain ⟨a, vs, fq, rfl, rfl, _⟩ := r2; exact ⟨a, rfl, List.mem_cons_self⟩
    | dic ds => simp only [RepT] at r2; obtain ⟨a, vs, rfl, rfl, _⟩ := r2; exact ⟨a, rfl, List.mem_cons_self⟩
    | _ => cases hl
  refine ⟨a, f1, rfl, r2, (S.dp.rgx j a (sub2 a ha)).1, ha, fun H2 o' d2 s hLD r => ⟨ex.more j [], ?_⟩⟩
  obtain ⟨w, w1, f1', hv2, rd3, r3, n3, sub3, _, up⟩ := S.mutG (dx := .non) (vx := .non) (fx := []) s (by simp [RepT]) (by simp) he hhk hq
  rw [hv] at hv2
  cases hv2
  have := rd3.det rd2
  subst this
  have ha3 : a ∈ f1' := by
    cases d1 with
    | lst ds => simp only [RepT] at r3; obtain ⟨b, vs, fq, e, rfl, _⟩ := r3; cases e; exact List.mem_cons_self
    | dic ds => simp only [RepT] at r3; obtain ⟨b, vs, e, rfl, _⟩ := r3; cases e; exact List.mem_cons_self
    | _ => cases hl
  exact up a o' d2 [a] rfl ha3 hLD (RepT.objs (fun b Ca dx ws p e => ⟨fun z => z.elim p.1 fun z => by simp at z, p.2⟩) _ _ _ r) (by simp) fun b hb => .inl (by
    obtain rfl : b = a := by simpa using hb
    exact ha3)
theorem upd_keep {a : Addr} {o o' : HO} (hx : ex a) (ha : H a = some o) (him : immO o = false) : (∀ b u, cl (B.fr ex) true false b → H b = some u → cl (B.fr ex) true false b ∧ (upd H a o') b = some u) ∧ ∀ b u, immO u = true → H b = some u → (upd H a o') b = some u := by
  refine ⟨fun b u p e => ⟨p, by rw [upd_ne fun z => p.1 (by rw [z]; exact hx)]; exact e⟩, fun b u im e => ?_⟩
  rw [upd_ne fun z => by subst z; rw [ha] at e; cases e; rw [him] at im; cases im]
  exact e
theorem upd_lst {a : Addr} {o : HO} {ds : List D} {vs : List V} (hx : ex a) (ha : H a = some o) (him : immO o = false) (hf : ds.all D.imm = true) (hz : vs.length ≤ sizeLine) (r : Reps G (cl (B.fr ex) true) H ds vs) : RepT G (cl (B.fr ex) true) (upd H a (.lst vs)) (.lst ds) (.ref a) [a] := by
  simp only [RepT]
  refine ⟨a, vs, [], rfl, rfl, upd_same, hz, ?_⟩
  obtain ⟨kP, kI⟩ := upd_keep (o' := .lst vs) (B := B) hx ha him
  exact RepTs.mono kP kI _ _ _ (fun b hb => by simp at hb) (Reps.tree ds vs (by rw [immL_all]; exact hf) r)
theorem imms_of_trees {P : Bool → Addr → Prop} {ds : List D} {vs : List V} {fp : List Addr} (hf : ds.all D.imm = true) (r : RepTs G P H ds vs fp) : Reps G P H ds vs := by
  have r2 : Reps G (fun k b => k = true ∨ P k b) H ds vs := RepTs.rep (fun a _ _ _ p _ => .inr p) _ _ _ (fun a _ => .inl rfl) r
  exact Reps.immI (fun a _ _ _ p _ => p.elim (fun z => nomatch z) id) ds vs (by rw [immL_all]; exact hf) r2
/-- the list at a way's end -/
theorem path_lst {j : Nat} {d : D} {ds : List D} {q : List St1} {v u : V} (S : Sim G (B.fr ex) E σ H) (he : E[j]? = some (some (.dep d))) (hq : getP q d = some (.lst ds)) (hv : σ[j]? = some (some v)) (rd : RdP H q v u) : ∃ a vs, u = .ref a ∧ H a = some (.lst vs) ∧ vs.length ≤ sizeLine ∧ ∃ fq, RepTs G (cl (B.fr ex) true) H ds vs fq := by
  obtain ⟨v', hv', fp, r, n, _⟩ := S.dp.slot j d he
  rw [hv] at hv'
  cases hv'
  obtain ⟨v1, f1, rd1, r1, _, _, _⟩ := RepT.path q d v fp _ r n hq
  have := rd1.det rd
  subst this
  simp only [RepT] at r1
  obtain ⟨a, vs, fq, rfl, _, ha, hz, rs⟩ := r1
  exact ⟨a, vs, rfl, ha, hz, fq, rs⟩
theorem erase_idx {z : Int} : ∀ {ns : List Int}, ns.contains z = true → ∃ j, ns[j]? = some z ∧ (∀ m : Nat, m < j → ns[m]? ≠ some z) ∧ ns.erase z = ns.eraseIdx j
  | [], h => by simp at h
  | n :: ns, h => by
    by_cases e : n = z
    · subst e
      exact ⟨0, rfl, fun m hm => by omega, by simp⟩
    · have h2 : ns.contains z = true := by
        simp only [List.contains_cons, Bool.or_eq_true, beq_iff_eq] at h
        exact h.resolve_left fun w => e w.symm
      obtain ⟨j, h3, h4, h5⟩ := erase_idx h2
      refine ⟨j + 1, by simpa using h3, fun m hm => ?_, ?_⟩
      · cases m with
        | zero => simpa using e
        | succ m => simpa using h4 m (by omega)
      · rw [List.erase_cons_tail (by simpa using e), h5, List.eraseIdx_cons_succ]
/-- way.remove(e) -/
theorem vs_mutR {j : Nat} {p : List PSt} (ho : PE X o (tPt T C G Y j p)) (hb : attrPlain o = true) (he : PE X e (tP T C G Y ee)) (hs : notStar e = true) (hl : (apos.endLine == cpos.line) = true) :
    PS X (.Expr (.Call (.Attribute o "remove" apos) [e] [] cpos) pos) (tS T W C G Y B (.mut j p (.rem ee))) := by
  refine PS_weak (ps_expr (pe_bm PySem.F.plainAttrs_list PySem.F.slot_list_remove PySem.F.type_list_remove mt_remove ho (pa_cons he pa_nil (star_cons hs)) (attr_base hb) (by rw [star_cons hs]; rfl) hl (star_cons hs) rfl) rfl) fun D' σ H => ?_
  rintro ⟨ex, E, S, h⟩
  obtain ⟨hL, d, q, d1, he, e1, hq, hk, h⟩ := mut_start h
  obtain ⟨ds, rfl⟩ := okM_lst hk (fun _ _ z => by cases z)
  simp only [mutV] at h
  have h : ((ev T C ee (borE E)).nox.bind fun x => (remV (.lst ds) x.1).bind fun d2 => R.ok (Fw.nx (E.set j (some (.dep (setP d2 q d)))))).sat (SPo G B D') (wishB G Y B) := by
    rw [R.sat_bind, R.sat_bind] at h
    rw [R.sat_bind]
    refine R.sat_mono h (fun x q => ?_) fun _ z => z
    rw [R.sat_bind]
    exact q
  obtain ⟨x, ex1, h⟩ := nox_ok h
  obtain ⟨dx, fx⟩ := x
  obtain ⟨z, hz⟩ : ∃ z, dx = .int z := by
    cases dx <;> first | exact ⟨_, rfl⟩ | exact h.elim
  subst hz
  refine ⟨_, E, d, S, he, ?_⟩
  rw [e1]
  refine ⟨by rw [hq]; rfl, fun H1 v u s1 hv rd => ?_⟩
  have S1 := S.same s1
  obtain ⟨a, vs, rfl, ha, hz, fq, rs⟩ := path_lst S1 he hq hv rd
  refine ⟨.inl ⟨rfl, _, .inl (.inl ha)⟩, ?_⟩
  show tP T C G Y ee σ H1 fun y H2 => rRemI (.ref a) [y] H2 fun _ H3 => D'.nx σ H3
  refine ⟨_, borE E, S1.bor, ?_⟩
  rw [ex1]
  intro y H2 P2
  have hy : y = .int z := P2.val.int
  subst hy
  simp only [remV] at h
  cases hn : intsD ds with
  | none => rw [hn] at h; exact h.elim
  | some ns =>
    rw [hn] at h
    simp only at h
    split at h
    rotate_left
    · exact h.elim
    rename_i hc
    obtain ⟨i, g1, g2, g3⟩ := erase_idx hc
    have hds : ds.all D.imm = true := by
      obtain ⟨_, w⟩ := Reps.ints (RepTs.rep (P' := fun _ _ => True) (fun _ _ _ _ _ _ => trivial) _ _ _ (fun _ _ => trivial) rs) hn
      rw [w, List.all_map, List.all_eq_true]
      intro x _
      rfl
    obtain ⟨hvs, hds2⟩ := (imms_of_trees hds rs).ints hn
    subst hvs
    have S2 := S1.same P2.same
    obtain ⟨a', f1, e', _, hxa, _, up⟩ := S2.mutF he (hk_no hL) hq hv (rd.same P2.same) rfl
    cases e'
    refine ⟨a, ns, z, i, rfl, rfl, P2.same _ _ ha, g1, g2, ?_⟩
    obtain ⟨ex', S3⟩ := up H2 (.lst ((ns.eraseIdx i).map V.int)) (.lst ((ns.erase z).map D.int)) (Same.refl _) (.inl ⟨_, rfl⟩) (upd_lst (o := .lst (ns.map V.int)) hxa (P2.same _ _ ha) rfl (by
      rw [List.all_map, List.all_eq_true]
      intro x _
      rfl) (by
      have := List.length_eraseIdx_le ns i
      simp only [List.length_map] at hz ⊢
      omega) (by rw [g3]; exact Reps.of_ints _))
    exact h _ _ _ S3
/-- way.clear() -/
theorem vs_mutC {j : Nat} {p : List PSt} (ho : PE X o (tPt T C G Y j p)) (hb : attrPlain o = true) (hl : (apos.endLine == cpos.line) = true) :
    PS X (.Expr (.Call (.Attribute o "clear" apos) [] [] cpos) pos) (tS T W C G Y B (.mut j p .clr)) := by
  refine PS_weak (ps_expr (pe_bm0 PySem.F.plainAttrs_list PySem.F.slot_list_clear PySem.F.type_list_clear mt_clear ho (attr_base hb) hl) rfl) fun D' σ H => ?_
  rintro ⟨ex, E, S, h⟩
  obtain ⟨hL, d, q, d1, he, e1, hq, hk, h⟩ := mut_start h
  obtain ⟨ds, rfl⟩ := okM_lst hk (fun _ _ z => by cases z)
  simp only [mutV, clrD] at h
  refine ⟨_, E, d, S, he, ?_⟩
  rw [e1]
  refine ⟨by rw [hq]; rfl, fun H1 v u s1 hv rd => ?_⟩
  have S1 := S.same s1
  obtain ⟨a, vs, rfl, ha, hz, fq, rs⟩ := path_lst S1 he hq hv rd
  obtain ⟨a', f1, e', _, hxa, _, up⟩ := S1.mutF he (hk_no hL) hq hv rd rfl
  cases e'
  obtain ⟨ex', S3⟩ := up H1 (.lst []) (.lst []) (Same.refl _) (.inl ⟨_, rfl⟩) (upd_lst (o := .lst vs) hxa ha rfl rfl (Nat.zero_le _) (by simp [Reps]))
  exact ⟨.inl ⟨rfl, _, .inl (.inl ha)⟩, a, vs, rfl, rfl, ha, h _ _ _ S3⟩
end
end FS

/-! FS26: a store into a tree; a def that changes an argument: its returns, its calls. -/
namespace FS
open PySem L2
section
variable {T : Tb} {W : Nat} {C : Fid → List D → R (D × Bool)} {G : GT} {Y : XK} {X : Cx} {B : Bs} {F : Fr} {ex : Xc} {E : SEnv} {σ : St} {H H' H0 H1 : Hp} {a b c o i e k tg iter : Expr} {ea eb ec eo ei ee ek : Ex} {es : List Expr} {ees : Exs} {pos apos cpos px p : Pos} {D' : Ends}
theorem path_dic {j : Nat} {d : D} {kvs : List (Int × D)} {q : List St1} {v u : V} (S : Sim G (B.fr ex) E σ H) (he : E[j]? = some (some (.dep d))) (hq : getP q d = some (.dic kvs)) (hv : σ[j]? = some (some v)) (rd : RdP H q v u) : ∃ a ws, u = .ref a ∧ H a = some (.dK ws) ∧ ws.length ≤ sizeLine ∧ (kvs.all fun p => p.2.imm) = true ∧ RepK G (cl (B.fr ex) true) H kvs ws := by
  obtain ⟨v', hv', fp, r, n, _⟩ := S.dp.slot j d he
  rw [hv] at hv'
  cases hv'
  obtain ⟨v1, f1, rd1, r1, _, _, _⟩ := RepT.path q d v fp _ r n hq
  have := rd1.det rd
  subst this
  simp only [RepT] at r1
  obtain ⟨a, ws, rfl, _, ha, hz, hi, rk⟩ := r1
  exact ⟨a, ws, rfl, ha, hz, hi, rk⟩
theorem putD_imm {z : Int} {x : D} (hx : x.imm = true) : ∀ {kvs : List (Int × D)}, (kvs.all fun p => p.2.imm) = true → ((putD kvs z x).all fun p => p.2.imm) = true := by
  intro kvs h
  unfold putD
  split
  · rw [List.all_map, List.all_eq_true]
    intro p hp
    have := List.all_eq_true.mp h p hp
    simp only [Function.comp]
    split
    · exact hx
    · exact this
  · rw [List.all_append, h]
    simp [hx]
/-- way[k] = e -/
theorem vs_mutS {j : Nat} {p : List PSt} {pos' : Pos} (hu : X.A.units + 1 < cLine) (ho : PE X o (tPt T C G Y j p)) (he : PE X e (tP T C G Y ee)) (hk : PE X k (tP T C G Y ek)) (hns : notSlice k = true)
    (hs : swapsWith e (some (.Subscript o k pos')) pos.line X.env = pure false) (hs2 : swapsWithSole [.Subscript o k pos'] e pos.line X.env = pure false) (hw : swappedStores [.Subscript o k pos'] e X.env = pure none) :
    PS X (.Assign [.Subscript o k pos'] e pos) (tS T W C G Y B (.mut j p (.set ek ee))) := by
  refine PS_or (ps_asg he (pg_sub ho hk set_list (fun v => by cases k <;> first | rfl | cases hns)) hs2 hw rfl) (ps_dput hu ho hk he hs) fun D' σ H => ?_
  rintro ⟨ex, E, S, h⟩
  obtain ⟨hL, d, q, d1, hj, e1, hq, _, h⟩ := mut_start h
  simp only [mutV] at h
  have h : ((ev T C ee (borE E)).nox.bind fun x => (ev T C ek (borE E)).nox.bind fun y => (setV d1 y.1 x.1).bind fun d2 => R.ok (Fw.nx (E.set j (some (.dep (setP d2 q d)))))).sat (SPo G B D') (wishB G Y B) := by
    rw [R.sat_bind, R.sat_bind] at h
    rw [R.sat_bind]
    refine R.sat_mono h (fun x q => ?_) fun _ z => z
    rw [R.sat_bind] at q
    rw [R.sat_bind]
    refine R.sat_mono q (fun y q => ?_) fun _ z => z
    rw [R.sat_bind]
    exact q
  obtain ⟨x, hx, h⟩ := nox_ok h
  obtain ⟨y, hy, h⟩ := nox_ok h
  -- the value, the way, the key, then what follows
  have run : ∀ {Q : V → V → V → Hp → Prop}, (∀ xv u yv H3, Sim G (B.fr ex) E σ H3 → Rep G (cl (B.fr ex) true) H3 x.1 xv → Val G (B.fr ex).bor H3 y yv → (∀ v, σ[j]? = some (some v) → RdP H3 q v u) → Q u yv xv H3) → x.1.imm = true →
      tP T C G Y ee σ H fun xv H1 => tPt T C G Y j p σ H1 fun u H2 => tP T C G Y ek σ H2 fun yv H3 => Q u yv xv H3 := by
    intro Q hQ hi
    refine ⟨_, borE E, S.bor, ?_⟩
    rw [hx]
    intro xv H1 P1
    have S1 := S.same P1.same
    refine ⟨_, E, d, S1, hj, ?_⟩
    rw [e1]
    refine ⟨by rw [hq]; rfl, fun H2 v u s2 hv rd => ?_⟩
    have S2 := S1.same s2
    refine ⟨_, borE E, S2.bor, ?_⟩
    rw [hy]
    intro yv H3 P3
    have sx := safe_post S P1 (by unfold safeB; rw [hi]; rfl)
    refine hQ xv u yv H3 (S2.same P3.same) ((sx.val.rep rfl).same (s2.trans P3.same)) P3.val fun v' hv' => ?_
    rw [hv] at hv'
    cases hv'
    exact rd.same P3.same
  obtain ⟨dy, fy⟩ := y
  obtain ⟨v, hv, _⟩ := S.slot j _ hj
  cases d1 with
  | lst ds =>
    refine .inl ?_
    obtain ⟨z, rfl⟩ : ∃ z, dy = .int z := by
      cases dy <;> first | exact ⟨_, rfl⟩ | exact h.elim
    simp only [setV] at h
    cases hm : ixN' ds.length z with
    | none => rw [hm] at h; exact h.elim
    | some m =>
      rw [hm] at h
      simp only at h
      split at h
      rotate_left
      · exact h.elim
      rename_i hc
      rw [Bool.and_eq_true] at hc
      show tP T C G Y ee σ H fun xv H1 => tPt T C G Y j p σ H1 fun u H2 => tP T C G Y ek σ H2 fun yv H3 => rSetL u yv xv H3 fun H4 => D'.nx σ H4
      refine run (fun xv u yv H3 S3 rx vy rd => ?_) hc.1
      have hyv : yv = .int z := vy.int
      subst hyv
      obtain ⟨a, vs, rfl, ha, hz, fq, rs⟩ := path_lst S3 hj hq hv (rd v hv)
      obtain ⟨a', f1, e', _, hxa, _, up⟩ := S3.mutF hj (hk_no hL) hq hv (rd v hv) rfl
      cases e'
      have hlen := rs.length
      obtain ⟨ex', S4⟩ := up H3 (.lst (vs.set m xv)) (.lst (ds.set m x.1)) (Same.refl _) (.inl ⟨_, rfl⟩) (upd_lst (o := .lst vs) hxa ha rfl (by
        rw [List.all_eq_true]
        intro w hw
        rcases List.mem_or_eq_of_mem_set hw with hw | hw
        · exact List.all_eq_true.mp hc.2 w hw
        · rw [hw]; exact hc.1) (by simpa using hz) ((imms_of_trees hc.2 rs).set m rx))
      exact ⟨a, vs, z, m, rfl, rfl, ha, by rw [hlen]; exact hm, h _ _ _ S4⟩
  | dic kvs =>
    refine .inr ?_
    obtain ⟨z, rfl⟩ : ∃ z, dy = .int z := by
      cases dy <;> first | exact ⟨_, rfl⟩ | exact h.elim
    simp only [setV] at h
    split at h
    rotate_left
    · exact h.elim
    rename_i hc
    rw [Bool.and_eq_true, decide_eq_true_eq] at hc
    show tP T C G Y ee σ H fun xv H1 => tPt T C G Y j p σ H1 fun u H2 => tP T C G Y ek σ H2 fun yv H3 => ∃ a H4, u = .ref a ∧ DPut H3 a yv xv H4 ∧ D'.nx σ H4
    refine run (fun xv u yv H3 S3 rx vy rd => ?_) hc.1
    have hyv : yv = .int z := vy.int
    subst hyv
    obtain ⟨a, ws, rfl, ha, hz, hi, rk⟩ := path_dic S3 hj hq hv (rd v hv)
    obtain ⟨a', f1, e', _, hxa, _, up⟩ := S3.mutF hj (hk_no hL) hq hv (rd v hv) rfl
    cases e'
    have hlen := rk.length
    have ll := lim_line
    obtain ⟨kP, kI⟩ := upd_keep (B := B) (o' := .dK (putK ws (.inl z : Key) xv)) hxa ha rfl
    have rp := RepK.put (z := z) rx rk
    obtain ⟨ex', S4⟩ := up H3 (.dK (putK ws (.inl z : Key) xv)) (.dic (putD kvs z x.1)) (Same.refl _) (.inr ⟨_, rfl⟩) (by
      simp only [RepT]
      refine ⟨a, _, rfl, rfl, upd_same, ?_, putD_imm hc.1 hi, RepK.immK (fun b Ca dx ws p e => p) (fun b o p e => (kP b o p e).2) kI _ _ (putD_imm hc.1 hi) rp⟩
      have := rp.length
      have := putD_len z x.1 kvs
      omega)
    exact ⟨a, _, rfl, DPut.k (k := Sum.inl z) ha (by omega), h _ _ _ S4⟩
  | _ => exact h.elim
/-! ### returns of a def that changes an argument -/
theorem retX_ok {j : Nat} {d : D} {x : D × Fl} {v : V} (S : Sim G (B.fr ex) E σ H) (he : E[j]? = some (some (.dep d))) (P : Post G (B.fr ex) H H' x v) (hs : safeB x = true) (q : SPo G B D' (.rx j x.1 d)) : D'.rt v H' := by
  have S1 := S.same P.same
  have sx := safe_post S P.bor hs
  obtain ⟨fp, t1, t2, t3⟩ := tree_flat sx hs
  have hP : ∀ a o, cl (B.fr ex) true false a → H' a = some o → outP B.H0 B.P true false a ∧ H' a = some o := fun a o p e => ⟨outP_cl p, e⟩
  refine q v H' fp (S.entB P.same) (fun a ha => S1.exH a (.inr (.inr ha))) (RepT.mono hP (fun _ _ _ e => e) _ _ _ (fun _ _ _ e => e) t1) t2 (fun a ha => S.h0 (t3 a ha)) fun v0 hio => ?_
  obtain ⟨v1, hv, fd, r, n, sub⟩ := S1.dp.slot j d he
  have hi := S1.dp.io (j, v0) hio
  rw [hv] at hi
  cases hi
  refine ⟨fd, RepT.mono hP (fun _ _ _ e => e) _ _ _ (fun _ _ _ e => e) r, n, fun a ha => (S1.dp.rgm j a (sub a ha)).1, fun a ha hd => ?_⟩
  have := t3 a ha
  rcases (S.dp.rgx j a (sub a hd)).2 with ⟨vs, g⟩ | ⟨vs, g⟩ <;> rw [this] at g <;> cases g
theorem vs_retX {j : Nat} (he : PE X e (tP T C G Y ee)) : PS X (.Return (some e) pos) (tS T W C G Y B (.retX j ee)) := by
  refine PS_weak (ps_ret he) fun D' σ H => ?_
  rintro ⟨ex, E, S, h⟩
  simp only [exec] at h
  split at h
  · rename_i d ho
    refine st_bind S h fun x v H1 P1 S1 q => ?_
    split at q
    · rename_i hs
      exact retX_ok S (depO_some ho) P1 hs q
    · exact q.elim
  · exact h.elim
theorem vs_retNone : PS X (.Return none pos) (tS T W C G Y B (.ret (.con .non))) := by
  refine PS_weak ps_retN fun D' σ H => ?_
  rintro ⟨ex, E, S, h⟩
  simp only [exec, ownV, ev] at h
  exact h .non H (S.entB (Same.refl _)) (by simp [mkI, Rep]) fun _ => ⟨[], by simp [mkI, RepT], by simp, fun a ha => by simp at ha⟩
theorem vs_retXN {j : Nat} : PS X (.Return none pos) (tS T W C G Y B (.retX j (.con .non))) := by
  refine PS_weak ps_retN fun D' σ H => ?_
  rintro ⟨ex, E, S, h⟩
  simp only [exec] at h
  split at h
  · rename_i d ho
    simp only [ev] at h
    exact retX_ok (x := mkI .non) S (depO_some ho) Post.non rfl h
  · exact h.elim
end
end FS

/-! FS27: calls of defs that change an argument. -/
namespace FS
open PySem L2
/-- what such a def promises -/
def spX (G : GT) (C : Fid → List D → R (D × Bool)) (f : Fid) (i : Nat) : Sp := fun vs H Q W => ∃ (P : Bool → Addr → Prop) (ds1 : List D) (d : D) (ds2 : List D) (vs1 : List V) (v : V) (vs2 : List V) (fp : List Addr), vs = vs1 ++ v :: vs2 ∧ vs1.length = i ∧ Reps G P H ds1 vs1 ∧ Reps G P H ds2 vs2 ∧ RepT G P H d v fp ∧ fp.Nodup ∧ (∀ k a, P k a → a ∉ fp) ∧
  (C f (ds1 ++ d :: ds2)).sat (fun q => ∀ r d2, q = (.tup [r, d2], true) → ∀ u H' fr fp2, (∀ a o, a ∉ fp → H a = some o → H' a = some o) → (∀ a ∈ fp, H' a ≠ none) → RepT G (outP H P true) H' r u fr → fr.Nodup → (∀ a ∈ fr, H a = none) → RepT G (outP H P true) H' d2 v fp2 → fp2.Nodup → (∀ a ∈ fp2, H a = none ∨ a ∈ fp) → (∀ a ∈ fr, a ∉ fp2) → Q u H') fun _ => False
section
variable {T : Tb} {W : Nat} {C : Fid → List D → R (D × Bool)} {G : GT} {Y : XK} {X : Cx} {B : Bs} {F : Fr} {ex : Xc} {E : SEnv} {σ : St} {H H' H0 H1 H2 : Hp} {a b c o i e k tg iter : Expr} {ea eb ec eo ei ee ek : Ex} {es : List Expr} {ees : Exs} {pos apos cpos px p : Pos} {D' : Ends}
/-- one's own behind such a call -/
abbrev Xc.call (ex : Xc) (j : Nat) (fp fp2 : List Addr) : Xc := ⟨fun a => (ex a ∧ a ∉ fp) ∨ a ∈ fp2, fun i a => (ex.rg i a ∧ a ∉ fp) ∨ (i = j ∧ a ∈ fp2)⟩
theorem Sim.call {j : Nat} {d d2 : D} {v : V} {fp fp2 : List Addr} {P : Bool → Addr → Prop} (S : Sim G (B.fr ex) E σ H) (he : E[j]? = some (some (.dep d))) (hv : σ[j]? = some (some v)) (hhk : ∀ p ∈ B.hk, p.1 ≠ j) (hf : ∀ a ∈ fp, ex.rg j a) (hm : ∀ a o, a ∉ fp → H a = some o → H' a = some o) (hn : ∀ a ∈ fp, H' a ≠ none)
    (hP : ∀ a, P false a → cl (B.fr ex) true false a) (r : RepT G (outP H P true) H' d2 v fp2) (n2 : fp2.Nodup) (h2 : ∀ a ∈ fp2, H a = none ∨ a ∈ fp) : Sim G (B.fr (ex.call j fp fp2)) (E.set j (some (.dep d2))) σ H' := by
  have fx : ∀ a ∈ fp, ex a := fun a ha => (S.dp.rgx j a (hf a ha)).1
  have hLD : ∀ a ∈ fp2, isLD (H' a) := RepT.isLD d2 v fp2 r
  have old2 : ∀ a o, H a = some o → a ∉ fp → a ∉ fp2 := fun a o e hn z => by
    rcases h2 a z with w | w
    · rw [e] at w; cases w
    · exact hn w
  have kP : ∀ n k a o, cl (B.fr ex) n k a → H a = some o → cl (B.fr (ex.call j fp fp2)) n k a ∧ H' a = some o := fun n k a o p e => by
    have na : a ∉ fp := fun z => p.1 (fx a z)
    exact ⟨⟨fun z => z.elim (fun z => p.1 z.1) (old2 a o e na), p.2⟩, hm a o na e⟩
  have kI : ∀ a o, immO o = true → H a = some o → H' a = some o := fun a o im e => hm a o (fun z => by
    rcases (S.dp.rgx j a (hf a z)).2 with ⟨vs, g⟩ | ⟨vs, g⟩ <;> rw [e] at g <;> cases g <;> cases im) e
  have hlt : j < E.length := (List.getElem?_eq_some_iff.mp he).1
  have keep : ∀ a, a ∉ fp → H a ≠ none → H' a ≠ none := fun a na z => by
    cases w : H a with
    | none => exact absurd w z
    | some o => rw [hm a o na w]; simp
  refine ⟨by simp [S.len], fun a o h1 h2 h3 => hm a o (fun z => ?_) (S.ent a o h1 h2 h3), fun i sl e => ?_, fun i k d1 d2 n1 n2 w hik e1 e2 h1 h2 => ?_, fun p hp => Rep.mono (kP _) kI _ _ (S.pin p hp), fun a h => ?_, fun p hp => ?_, ⟨fun i d1 e => ?_, fun i c fs e => ?_, fun i a z => ?_, fun i k a hik z1 z2 => ?_, fun i k d1 n1 a e1 e2 z => ?_, fun i a z => ?_, S.dp.io, fun i k c c' fs fs' n1 e1 e2 => ?_, fun i c fs e => ?_, fun p hp => ?_⟩⟩
  · rcases (S.dp.rgm j a (hf a z)).1 with w | w
    · have h3 : B.H0 a = some o := h3
      have w : B.H0 a = none := w
      rw [w] at h3
      cases h3
    · exact h2 w
  · rw [List.getElem?_set] at e
    split at e
    · rename_i hij
      subst hij
      cases e
      exact ⟨v, hv, trivial⟩
    · obtain ⟨u, e1, e2⟩ := S.slot i sl e
      refine ⟨u, e1, ?_⟩
      cases sl with
      | dep d1 => exact e2
      | slf c fs => exact e2
      | shr d1 n1 => exact Rep.mono (kP n1) kI _ _ e2
      | own d1 n1 =>
        obtain ⟨b, rfl, hb, hob⟩ := e2
        have nb : b ∉ fp := fun z => S.dp.rgo i j d1 n1 b e e1 (hf b z)
        refine ⟨b, rfl, .inl ⟨hb, nb⟩, ?_⟩
        cases d1 with
        | lst ds => obtain ⟨q1, q2, vs, q3, q4, q5⟩ := hob; exact ⟨q1, q2, vs, hm _ _ nb q3, q4, Reps.mono (kP n1) kI _ _ q5⟩
        | dic ds => obtain ⟨q1, q2, vs, q3, q4, q5⟩ := hob; exact ⟨q1, q2, vs, hm _ _ nb q3, q4, RepK.mono (kP n1) kI _ _ q5⟩
        | obj c fs => obtain ⟨q2, Ca, dx, ws, q3, q4, q5⟩ := hob; exact ⟨q2, Ca, dx, ws, hm _ _ nb q3, q4, RepF.mono (kP n1) kI _ _ q5⟩
        | _ => exact hob
  · rw [List.getElem?_set] at e1 e2
    split at e1
    · cases e1
    · split at e2
      · cases e2
      · exact S.dis i k d1 d2 n1 n2 w hik e1 e2 h1 h2
  · by_cases na : a ∈ fp
    · exact hn a na
    · rcases h with (h | h) | h
      · exact keep a na (S.exH a (.inl h.1))
      · rcases hLD a h with ⟨vs, g⟩ | ⟨vs, g⟩ <;> rw [g] <;> simp
      · exact keep a na (S.exH a (.inr h))
  · obtain ⟨z1, z2⟩ := S.lk p hp
    refine ⟨?_, z2⟩
    rw [List.getElem?_set_ne]
    · exact z1
    · intro z
      rw [← z, he] at z1
      cases z1
  · rw [List.getElem?_set] at e
    split at e
    · rename_i hij
      subst hij
      cases e
      refine ⟨v, hv, fp2, RepT.objs (fun a Ca dx ws p e => ?_) _ _ _ r, n2, fun a ha => .inr ⟨rfl, ha⟩⟩
      have nf : a ∉ fp2 := fun z => by
        rcases hLD a z with ⟨vs, g⟩ | ⟨vs, g⟩ <;> rw [e] at g <;> cases g
      rcases p with p | ⟨p, _⟩
      · exact ⟨fun z => z.elim (fun z => S.exH a (.inl z.1) p) nf, .inl (S.h0 p)⟩
      · have := hP a p
        exact ⟨fun z => z.elim (fun z => this.1 z.1) nf, this.2⟩
    · rename_i hij
      obtain ⟨u, h1, h3⟩ := S.dp.slot i d1 e
      have na : ∀ b, ex.rg i b → b ∉ fp := fun b z w => S.dp.rgj i j b (fun y => hij y.symm) z (hf b w)
      exact ⟨u, h1, h3.mono (kP true false) kI (fun b z => .inl ⟨z, na b z⟩) fun b o z e => hm b o (na b z) e⟩
  · rw [List.getElem?_set] at e
    split at e
    · cases e
    · rename_i hij
      obtain ⟨u, h1, h3⟩ := S.dp.slf i c fs e
      have na : ∀ b, ex.rg i b → b ∉ fp := fun b z w => S.dp.rgj i j b (fun y => hij y.symm) z (hf b w)
      exact ⟨u, h1, h3.mono (kP true false) kI (fun b z => .inl ⟨z, na b z⟩) (fun b o z e => hm b o (na b z) e) rfl (fun b hs z => .inl ⟨z, fun w => (S.dp.rgm j b (hf b w)).2 hs⟩) fun b o hs e => hm b o (fun w => (S.dp.rgm j b (hf b w)).2 hs) e⟩
  · rcases z with ⟨z, na⟩ | ⟨_, z⟩
    · refine ⟨.inl ⟨(S.dp.rgx i a z).1, na⟩, ?_⟩
      rcases (S.dp.rgx i a z).2 with ⟨vs, g⟩ | ⟨vs, g⟩
      · exact .inl ⟨vs, hm a _ na g⟩
      · exact .inr ⟨vs, hm a _ na g⟩
    · exact ⟨.inr z, hLD a z⟩
  · have nn : ∀ i, i ≠ j → ex.rg i a → a ∉ fp2 := fun i hi z w => by
      rcases h2 a w with y | y
      · rcases (S.dp.rgx i a z).2 with ⟨vs, g⟩ | ⟨vs, g⟩ <;> rw [y] at g <;> cases g
      · exact S.dp.rgj i j a hi z (hf a y)
    rcases z1 with ⟨z1, _⟩ | ⟨e1, z1⟩
    · rcases z2 with ⟨z2, _⟩ | ⟨e2, z2⟩
      · exact S.dp.rgj i k a hik z1 z2
      · exact nn i (fun y => hik (y.trans e2.symm)) z1 z2
    · rcases z2 with ⟨z2, _⟩ | ⟨e2, z2⟩
      · exact nn k (fun y => hik (e1.trans y.symm)) z2 z1
      · exact hik (e1.trans e2.symm)
  · rw [List.getElem?_set] at e1
    split at e1
    · cases e1
    · rename_i hij
      rcases z with ⟨z, _⟩ | ⟨_, z⟩
      · exact S.dp.rgo i k d1 n1 a e1 e2 z
      · rcases h2 a z with y | y
        · obtain ⟨u, g1, b, rfl, g2, _⟩ := S.slot i _ e1
          rw [e2] at g1
          cases g1
          exact S.exH _ (.inl g2) y
        · exact S.dp.rgo i j d1 n1 a e1 e2 (hf a y)
  · rcases z with ⟨z, _⟩ | ⟨_, z⟩
    · exact S.dp.rgm i a z
    · rcases h2 a z with y | y
      · exact ⟨.inl (S.h0 y), fun w => S.exH a (.inr (.inl w)) y⟩
      · exact S.dp.rgm j a (hf a y)
  · rw [List.getElem?_set] at e1 e2
    split at e1
    · cases e1
    · split at e2
      · cases e2
      · exact S.dp.slo i k c c' fs fs' n1 e1 e2
  · rw [List.getElem?_set] at e
    split at e
    · cases e
    · exact S.dp.sl0 i c fs e
  · obtain ⟨z1, z2⟩ := S.dp.hk p hp
    have na : p.2.1 ∉ fp := fun w => S.dp.rgj _ _ _ (hhk p hp) z1 (hf _ w)
    exact ⟨.inl ⟨z1, na⟩, hm _ _ na z2⟩
end
end FS

/-! FS28: a call that changes an argument, as it is written. -/
namespace FS
open PySem L2
section
variable {T : Tb} {W : Nat} {C : Fid → List D → R (D × Bool)} {G : GT} {Y : XK} {X : Cx} {B : Bs} {F : Fr} {ex : Xc} {E : SEnv} {σ : St} {H H' H0 H1 H2 : Hp} {a b c o i e k tg iter : Expr} {ea eb ec eo ei ee ek : Ex} {es : List Expr} {ees pre post : Exs} {pos apos cpos px p : Pos} {D' : Ends}
/-- arguments, with slot j's tree among them -/
def tAX (T : Tb) (C : Fid → List D → R (D × Bool)) (G : GT) (Y : XK) (pre : Exs) (j : Nat) (post : Exs) : TA := fun σ H Q => ∃ F E d u, Sim G F E σ H ∧ E[j]? = some (some (.dep d)) ∧ σ[j]? = some (some u) ∧ ((evl T C pre E).bind fun xs => (evl T C post E).bind fun ys => R.ok (xs, ys)).sat (fun q => ∀ vs us H', Same H H' → Vals' G F H' vs q.1 → Vals' G F H' us q.2 → Q (vs ++ u :: us) H') (wish G Y H)
theorem va_x0 {j : Nat} {x : Str} (hN : X.N[j]? = some x) (hv : Vis X.env.scope x) (hd : (x == ("__debug__" : Str)) = false) (hcd : (x == ("__classdict__" : Str)) = false) (hr : PA X es (tA T C G Y post)) : PA X (.Name x pos :: es) (tAX T C G Y .nil j post) := by
  refine PA_weak (pa_cons (pe_var hN hv hd hcd) hr rfl) fun σ H Q => ?_
  rintro ⟨F, E, d, u, S, he, hu, h⟩
  simp only [evl] at h
  refine ⟨u, hu, ?_⟩
  have h : ((evl T C post E).bind fun ys => R.ok (([] : List (D × Fl)), ys)).sat _ (wish G Y H) := h
  refine tA_bind S h fun ys us H1 s1 r1 S1 q => ?_
  exact q [] us H1 s1 .nil r1
theorem va_xs {j : Nat} (hs : notStar e = true) (ha : PE X e (tP T C G Y ee)) (hr : PA X es (tAX T C G Y pre j post)) : PA X (e :: es) (tAX T C G Y (.cons ee pre) j post) := by
  refine PA_weak (pa_cons ha hr (star_cons hs)) fun σ H Q => ?_
  rintro ⟨F, E, d, u, S, he, hu, h⟩
  simp only [evl] at h
  have h : ((ev T C ee E).bind fun x => ((evl T C pre E).bind fun xs => (evl T C post E).bind fun ys => R.ok (x :: xs, ys))).sat (fun q => ∀ vs us H', Same H H' → Vals' G F H' vs q.1 → Vals' G F H' us q.2 → Q (vs ++ u :: us) H') (wish G Y H) := by
    rw [R.sat_bind, R.sat_bind] at h
    rw [R.sat_bind]
    refine R.sat_mono h (fun x q => ?_) fun _ z => z
    rw [R.sat_bind] at q ⊢
    exact q
  refine tP_bind S h fun x v H1 P1 S1 q => ⟨F, E, d, u, S1, he, hu, ?_⟩
  rw [R.sat_bind] at q ⊢
  refine R.sat_mono q (fun xs q => ?_) fun _ z => z
  rw [R.sat_bind] at q ⊢
  refine R.sat_mono q (fun ys q vs us H' s r1 r2 => ?_) fun _ z => z
  exact q (v :: vs) us H' (P1.same.trans s) (.cons (P1.val.same s) r1) r2
/-- behind the arguments: the callee -/
theorem spX_use {f : Fid} {j i : Nat} {xs ys : List (D × Fl)} {vs us : List V} {u : V} {d : D} {q : (D × SEnv) → Prop} {w : Str → Prop} (S : Sim G (B.fr ex) E σ H) (he : E[j]? = some (some (.dep d))) (hv : σ[j]? = some (some u)) (hL : B.L.contains j = false) (r1 : Vals' G (B.fr ex) H vs xs) (r2 : Vals' G (B.fr ex) H us ys) (hc1 : (cmb xs).2.c = true) (hc2 : (cmb ys).2.c = true)
    (hi : i = xs.length) (h : (((C f ((cmb xs).1 ++ d :: (cmb ys).1)).nox).bind (evX2 E j)).sat q w) {Q : VK} (k : ∀ p v H' ex', q p → Sim G (B.fr ex') p.2 σ H' → Rep G (cl (B.fr ex') true) H' p.1 v → Q v H') : spX G C f i (vs ++ u :: us) H Q Y := by
  obtain ⟨u', hu', fp, r, n, sub⟩ := S.dp.slot j d he
  rw [hv] at hu'
  cases hu'
  have fx : ∀ a ∈ fp, ex a := fun a ha => (S.dp.rgx j a (sub a ha)).1
  obtain ⟨z, e, h⟩ := nox_ok h
  refine ⟨cl (B.fr ex) false, (cmb xs).1, d, (cmb ys).1, vs, u, us, fp, rfl, ?_, (cmb_reps r1 hc1).weak cl_false, (cmb_reps r2 hc2).weak cl_false, RepT.objs (fun a _ _ _ p _ => cl_obj p) _ _ _ r, n, fun k a p ha => p.1 (fx a ha), ?_⟩
  · rw [hi]; exact r1.length
  rw [e]
  intro r0 d2 ez u2 H' fr fp2 hm hn t1 n1 w1 t2 n2 w2 dj
  subst ez
  have h : q (r0, E.set j (some (.dep d2))) := h
  have S' := S.call (fp := fp) (fp2 := fp2) (P := cl (B.fr ex) false) he hv (hk_no hL) sub hm hn (fun a p => cl_obj p) t2 n2 w2
  refine k _ _ _ _ h S' ?_
  have hLD2 := RepT.isLD d2 u fp2 t2
  refine RepT.rep (fun a Ca dx ws p e => ?_) r0 u2 fr (fun a ha => ⟨fun z => z.elim (fun z => S.exH a (.inl z.1) (w1 a ha)) (dj a ha), .inl (S.h0 (w1 a ha))⟩) t1
  have nf : a ∉ fp2 := fun z => by
    rcases hLD2 a z with ⟨vs, g⟩ | ⟨vs, g⟩ <;> rw [e] at g <;> cases g
  rcases p with p | ⟨p, _⟩
  · exact ⟨fun z => z.elim (fun z => S.exH a (.inl z.1) p) nf, .inl (S.h0 p)⟩
  · exact ⟨fun z => z.elim (fun z => p.1 z.1) nf, (cl_obj (m := true) p).2⟩
/-- the reading of such a call -/
def tXc (T : Tb) (C : Fid → List D → R (D × Bool)) (G : GT) (Y : XK) (B : Bs) (c : Cal) (j : Nat) (pre post : Exs) : TE := fun σ H Q => ∃ ex E, Sim G (B.fr ex) E σ H ∧ (evX T C c j pre post B.L E).sat (fun p => ∀ v H' ex', Sim G (B.fr ex') p.2 σ H' → Rep G (cl (B.fr ex') true) H' p.1 v → Q v H') (wishB G Y B)
theorem depO_frz1 (E : SEnv) (i j : Nat) : depO (frz1 E i)[j]? = depO E[j]? := by
  unfold frz1
  split
  · rename_i h
    rw [List.getElem?_set]
    split
    · rename_i z; subst z; rw [h]; split <;> rfl
    · rfl
  · rename_i h
    rw [List.getElem?_set]
    split
    · rename_i z; subst z; rw [h]; split <;> rfl
    · rfl
  · rfl
theorem depO_frz (j : Nat) : ∀ (is : List Nat) (E : SEnv), depO (frz E is)[j]? = depO E[j]?
  | [], E => rfl
  | i :: is, E => by
    show depO (frz (frz1 E i) is)[j]? = _
    rw [depO_frz j is, depO_frz1]
theorem evX_start {c : Cal} {j : Nat} {q : (D × SEnv) → Prop} (S : Sim G (B.fr ex) E σ H) (h : (evX T C c j pre post B.L E).sat q (wishB G Y B)) : ∃ ex1 d u, B.L.contains j = false ∧ Sim G (B.fr ex1) (frz E (esc.escs pre ++ esc.escs post)) σ H ∧ (frz E (esc.escs pre ++ esc.escs post))[j]? = some (some (.dep d)) ∧ σ[j]? = some (some u) ∧ ((evX1 T C c pre post (frz E (esc.escs pre ++ esc.escs post)) d).bind (evX2 (frz E (esc.escs pre ++ esc.escs post)) j)).sat q (wishB G Y B) := by
  unfold evX at h
  split at h
  rotate_left
  · exact h.elim
  rename_i hl
  rw [Bool.and_eq_true] at hl
  split at h
  rotate_left
  · exact h.elim
  rename_i d hd
  obtain ⟨ex1, S1⟩ := S.frz _ hl.2
  have he : (frz E (esc.escs pre ++ esc.escs post))[j]? = some (some (.dep d)) := depO_some (by rw [depO_frz]; exact hd)
  obtain ⟨u, hu, _⟩ := S1.dp.slot j d he
  exact ⟨ex1, d, u, by simpa using hl.1, S1, he, hu, h⟩
section
variable {CX : CXT} {n : Nat} {f : Addr} {fd : FuncData} {ps : List Str} {x m : Str}
theorem exsLen_evl {xs : List (D × Fl)} (h : evl T C ees E = .ok xs) : xs.length = exsLen ees := evl_len h
/-- f(.., name, ..) -/
theorem vx_call {j i : Nat} (Fo : FnOk X.prog X.w X.K X.mg X.base CX n f fd ps (spX G C (.fx x i) i)) (hi : i = exsLen pre) (hr : Room n X.A) (hg : L2.Gl X x) (hm : X.mg x = some (.ref f)) (hk : PySem.W.keepIn X.K (.ref f) = true) (hb : Binds X.K fd ps []) (hx : Passes CX X Y)
    (hd : (x == ("__debug__" : Str)) = false) (hs : (e :: es).all notStar = true) (ha : PA X (e :: es) (tAX T C G Y pre j post)) : PE X (.Call (.Name x p) (e :: es) [] pos) (tXc T C G Y B (.fn x) j pre post) := by
  rw [List.all_cons, Bool.and_eq_true] at hs
  refine PE_weak (pe_call Fo hr hg hm hk hb .nil hx ha hd (star_cons hs.1) (star_any hs.2)) fun σ H Q => ?_
  rintro ⟨ex, E, S, h⟩
  obtain ⟨ex1, d, u, hL, S1, he, hu, h⟩ := evX_start S h
  show tAX T C G Y pre j post σ H fun vs H1 => spX G C (.fx x i) i (vs ++ []) H1 Q Y
  refine ⟨_, _, d, u, S1, he, hu, ?_⟩
  simp only [evX1] at h
  rw [R.sat_bind, R.sat_bind] at h
  rw [R.sat_bind]
  refine R.sat_mono (sat_known h) (fun xs q => ?_) fun c z => S.wish z
  obtain ⟨q, ex1⟩ := q
  rw [R.sat_bind] at q ⊢
  refine R.sat_mono q (fun ys q vs us H' s r1 r2 => ?_) fun c z => S.wish z
  split at q
  rotate_left
  · exact q.elim
  rename_i hc
  rw [Bool.and_eq_true] at hc
  rw [List.append_nil]
  have hxl : i = xs.length := by rw [hi]; exact (evl_len ex1).symm
  subst hxl
  exact spX_use (q := fun p => ∀ v H' ex', Sim G (B.fr ex') p.2 σ H' → Rep G (cl (B.fr ex') true) H' p.1 v → Q v H') (S1.same s) he hu hL r1 r2 hc.1 hc.2 rfl (by rw [R.sat_bind]; exact q) fun p v H' ex' q S' r => q v H' ex' S' r
/-- what is known of a method m that changes its i-th argument, class by class -/
structure MethX (T : Tb) (C : Fid → List D → R (D × Bool)) (G : GT) (P : Program) (w : World) (mg : Str → Option Value) (base : Heap) (CX : CXT) (k : Nat) (m c b : Str) (i : Nat) (Ca : Addr) : Prop where
  cls : Cls G.K Ca
  ex : ∃ f fd ps, Meth G.K Ca m f ∧ FnOk P w G.K mg base CX k f fd ps (spX G C (.mx b m i) i) ∧ Binds G.K fd ps []
/-- o.m(.., name, ..) -/
theorem vx_mth {j i : Nat} (hK : X.K = G.K) (hM : ∀ c Ca b, G.cls c = some Ca → T.mro c m = some b → MethX T C G X.prog X.w X.mg X.base CX n m c b i Ca) (hC : ∀ c b, T.mro c m = some b → ∃ Ca, G.cls c = some Ca) (h0 : ∃ c b, T.mro c m = some b) (hi : i = exsLen pre + 1) (hr : Room n X.A) (hx : Passes CX X Y)
    {pl : Sem Bool} (ho : PE X o (tP T C G Y eo)) (hs : (e :: es).all notStar = true) (ha : PA X (e :: es) (tAX T C G Y pre j post))
    (ht : eval (.Call (.Attribute o m apos) (e :: es) [] pos) X.env = (do
      let ov ← eval o X.env
      standAt apos.atName
      let (f, first) ← holding [ov] (getMethod ov m pl)
      callWith pos f first (backTo pos (starEach (e :: es) X.env)) (backToKw pos (keywordEach [] X.env)))) : PE X (.Call (.Attribute o m apos) (e :: es) [] pos) (tXc T C G Y B (.me eo m) j pre post) := by
  rw [List.all_cons, Bool.and_eq_true] at hs
  let ι := { x : Str × Addr × Str // G.cls x.1 = some x.2.1 ∧ T.mro x.1 m = some x.2.2 }
  refine PE_ex (ι := ι) (t := fun x => tMeth x.1.2.1 m (spX G C (.mx x.1.2.2 m i) i) [] Y (tP T C G Y eo) (tAX T C G Y pre j post)) (fun x => ?_) fun σ H Q => ?_
  · obtain ⟨⟨c, Ca, b⟩, h1, h2⟩ := x
    have MF := hM c Ca b h1 h2
    obtain ⟨f, fd, ps, me, fo, bi⟩ := MF.ex
    have cl := MF.cls
    rw [← hK] at me fo bi cl
    exact pe_meth (pl := pl) ho cl me fo hr bi .nil hx ha (star_cons hs.1) (star_any hs.2) ht
  · rintro ⟨ex, E, S, h⟩
    obtain ⟨ex1, d, u, hL, S1, he, hu, h⟩ := evX_start S h
    simp only [evX1] at h
    cases q : ev T C eo (frz E (esc.escs pre ++ esc.escs post)) with
    | bad => rw [q] at h; exact h.elim
    | exc cc =>
      rw [q] at h
      obtain ⟨c, b, g2⟩ := h0
      obtain ⟨Ca, g1⟩ := hC c b g2
      refine ⟨⟨(c, Ca, b), g1, g2⟩, _, _, S1, ?_⟩
      rw [q]
      exact S.wish h
    | ok x =>
      rw [q] at h
      obtain ⟨dx, fl⟩ := x
      have h : (((mthC T m dx).bind fun b => (evl T C pre (frz E (esc.escs pre ++ esc.escs post))).bind fun xs => (evl T C post (frz E (esc.escs pre ++ esc.escs post))).bind fun ys => if ((cmb xs).2.c && (cmb ys).2.c) = true then (C (.mx b m (xs.length + 1)) (dx :: (cmb xs).1 ++ d :: (cmb ys).1)).nox else .bad).bind (evX2 (frz E (esc.escs pre ++ esc.escs post)) j)).sat _ (wishB G Y B) := h
      cases hd : mthC T m dx with
      | bad => rw [hd] at h; exact h.elim
      | exc cc =>
        exfalso
        unfold mthC at hd
        split at hd <;> first | cases hd | (split at hd <;> cases hd)
      | ok b =>
        rw [hd] at h
        have h : (((evl T C pre (frz E (esc.escs pre ++ esc.escs post))).bind fun xs => (evl T C post (frz E (esc.escs pre ++ esc.escs post))).bind fun ys => if ((cmb xs).2.c && (cmb ys).2.c) = true then (C (.mx b m (xs.length + 1)) (dx :: (cmb xs).1 ++ d :: (cmb ys).1)).nox else .bad).bind (evX2 (frz E (esc.escs pre ++ esc.escs post)) j)).sat _ (wishB G Y B) := h
        obtain ⟨c, fs, rfl, hl, g2⟩ : ∃ c fs, dx = .obj c fs ∧ fs.lookup m = none ∧ T.mro c m = some b := by
          unfold mthC at hd
          split at hd
          · split at hd
            · rename_i h1 h2
              cases hd
              exact ⟨_, _, rfl, h1, h2⟩
            · cases hd
          · cases hd
        obtain ⟨Ca, g1⟩ := hC c b g2
        refine ⟨⟨(c, Ca, b), g1, g2⟩, _, _, S1, ?_⟩
        rw [q]
        intro v H1 P1
        have S2 := S1.same P1.same
        have rx := P1.val.clean (by intro _ e; cases e) (by intro _ e; cases e)
        have rx' := rx
        simp only [Rep] at rx'
        obtain ⟨ad, Cd, dx, ws, rfl, q0, q1, q2, q3⟩ := rx'
        rw [g1] at q2
        cases q2
        rw [R.sat_bind, R.sat_bind] at h
        refine ⟨ad, dx, ws, rfl, q1, q3.none hl, _, _, d, u, S2, he, hu, ?_⟩
        rw [R.sat_bind]
        refine R.sat_mono (sat_known h) (fun xs q => ?_) fun c z => S2.wish z
        obtain ⟨q, ex1⟩ := q
        rw [R.sat_bind] at q ⊢
        refine R.sat_mono q (fun ys q vs us H' s r1 r2 => ?_) fun c z => S2.wish z
        split at q
        rotate_left
        · exact q.elim
        rename_i hc
        rw [Bool.and_eq_true] at hc
        rw [List.append_nil]
        have hxl : exsLen pre = xs.length := (evl_len ex1).symm
        have hi2 : i = xs.length + 1 := by omega
        have q' : (((C (.mx b m i) ((cmb ((.obj c fs, ⟨false, fl.n, true⟩) :: xs)).1 ++ d :: (cmb ys).1)).nox).bind (evX2 (frz E (esc.escs pre ++ esc.escs post)) j)).sat (fun p => ∀ v H' ex', Sim G (B.fr ex') p.2 σ H' → Rep G (cl (B.fr ex') true) H' p.1 v → Q v H') (wishB G Y B) := by
          rw [R.sat_bind, hi2]
          exact q
        exact spX_use (xs := (.obj c fs, ⟨false, fl.n, true⟩) :: xs) (S2.same s) he hu hL (.cons (Val.ofRep (rx.same s)) r1) r2 (by simpa [cmb] using hc.1) hc.2 (by simp [hi2]) q' fun p v H' ex' q S' r => q v H' ex' S' r
/-! ### its statements -/
theorem vs_callX {c : Cal} {j : Nat} (he : PE X e (tXc T C G Y B c j pre post)) (hs : swapsWith e none pos.line X.env = pure false) : PS X (.Expr e pos) (tS T W C G Y B (.callX c j pre post)) := by
  refine PS_weak (ps_expr he hs) fun D' σ H => ?_
  rintro ⟨ex, E, S, h⟩
  simp only [exec] at h
  rw [R.sat_bind] at h
  refine ⟨ex, E, S, R.sat_mono h (fun p q v H' ex' S' r => ?_) fun _ z => z⟩
  exact q _ _ _ S'
def xTst (neg : Bool) (t : TE) : TT := match neg with
  | true => tNot (tB t)
  | false => tB t
theorem vs_iteX {c : Cal} {j : Nat} {neg : Bool} {tst : Expr} {sa sb : List Stmt} {xa xb : Sxs} (ht : ∀ {t : TE}, PE X e t → PT X tst (xTst neg t)) (he : PE X e (tXc T C G Y B c j pre post)) (ha : PSs X sa (tSs T W C G Y B xa)) (hb : PSs X sb (tSs T W C G Y B xb)) : PS X (.If tst sa sb pos) (tS T W C G Y B (.iteX neg c j pre post xa xb)) := by
  refine PS_weak (ps_if (ht he) ha hb) fun D' σ H => ?_
  rintro ⟨ex, E, S, h⟩
  simp only [exec] at h
  rw [R.sat_bind] at h
  have main : ∀ {Q : Bool → Hp → Prop}, (∀ k H' E' ex', Sim G (B.fr ex') E' σ H' → ((if (neg != k) = true then execs T W C xa B.L E' else execs T W C xb B.L E').sat (SPo G B D') (wishB G Y B)) → Q k H') → tXc T C G Y B c j pre post σ H fun v H' => ∃ k, v = .bl k ∧ Q k H' := by
    intro Q hQ
    refine ⟨ex, E, S, R.sat_mono h (fun p q v H' ex' S' r => ?_) fun _ z => z⟩
    obtain ⟨d, E'⟩ := p
    cases d <;> simp only at q <;> first | exact q.elim | skip
    rename_i k
    simp only [Rep] at r
    exact ⟨k, r, hQ k H' E' ex' S' q⟩
  cases neg with
  | false =>
    show tB (tXc T C G Y B c j pre post) σ H (fun b H1 => if b = true then tSs T W C G Y B xa D' σ H1 else tSs T W C G Y B xb D' σ H1)
    refine main fun k H' E' ex' S' q => ?_
    cases k with
    | true => exact ⟨ex', E', S', q⟩
    | false => exact ⟨ex', E', S', q⟩
  | true =>
    show tB (tXc T C G Y B c j pre post) σ H (fun b H1 => if (!b) = true then tSs T W C G Y B xa D' σ H1 else tSs T W C G Y B xb D' σ H1)
    refine main fun k H' E' ex' S' q => ?_
    cases k with
    | true => exact ⟨ex', E', S', q⟩
    | false => exact ⟨ex', E', S', q⟩
end
end
end FS

/-! FS29: all lists of a tree changed in a loop. -/
namespace FS
open PySem L2
section
variable {T : Tb} {W : Nat} {C : Fid → List D → R (D × Bool)} {G : GT} {Y : XK} {X : Cx} {B : Bs} {F : Fr} {ex : Xc} {E : SEnv} {σ σ' : St} {H H' H0 H1 H2 : Hp} {a b c o i e k tg iter : Expr} {ea eb ec eo ei ee ek : Ex} {es : List Expr} {ees pre post : Exs} {pos apos cpos px p : Pos} {D' : Ends}
/-- a name's slot is given up -/
theorem Sim.drop {i : Nat} (S : Sim G F E σ H) (hl : NoLk F.lk F.io i) (hlen : σ'.length = σ.length) (hs : ∀ k, k ≠ i → σ'[k]? = σ[k]?) : Sim G F (E.set i none) σ' H := by
  have get : ∀ {k : Nat} {s : Slot}, (E.set i none)[k]? = some (some s) → k ≠ i ∧ E[k]? = some (some s) := fun {k s} e => by
    rw [List.getElem?_set] at e
    split at e
    · split at e <;> cases e
    · rename_i h; exact ⟨fun z => h z.symm, e⟩
  have loc : ∀ p ∈ F.lk, σ'[p.1]? = σ[p.1]? := fun p hp => hs _ (hl.1 p hp)
  refine ⟨by simp [S.len, hlen], S.ent, fun j s e => ?_, fun j k d d' n n' w hjk e1 e2 h1 h2 => ?_, S.pin, S.exH, fun p hp => ?_, ⟨fun j d e => ?_, fun j c fs e => ?_, S.dp.rgx, S.dp.rgj, fun j k d n a e e2 => ?_, S.dp.rgm, fun p hp => ?_, fun j k c c' fs fs' n e e2 => ?_, fun j c fs e => ?_, S.dp.hk⟩⟩
  · obtain ⟨n, e⟩ := get e
    rw [hs j n]
    exact S.slot j s e
  · obtain ⟨n1, e1⟩ := get e1
    obtain ⟨n2, e2⟩ := get e2
    rw [hs j n1] at h1
    rw [hs k n2] at h2
    exact S.dis j k d d' n n' w hjk e1 e2 h1 h2
  · rw [List.getElem?_set_ne (hl.1 p hp).symm, loc p hp]
    exact S.lk p hp
  · obtain ⟨n, e⟩ := get e
    rw [hs j n]
    exact S.dp.slot j d e
  · obtain ⟨n, e⟩ := get e
    rw [hs j n]
    exact S.dp.slf j c fs e
  · obtain ⟨n1, e⟩ := get e
    rw [hs j n1] at e2
    exact S.dp.rgo j k d n a e e2
  · rw [hs _ (hl.2 p hp)]
    exact S.dp.io p hp
  · exact S.dp.slo j k c c' fs fs' n (get e).2 (get e2).2
  · exact S.dp.sl0 j c fs (get e).2
/-- x.clear(), x any list -/
def tClr (i : Nat) : TS := fun D σ H => ∃ a ws, σ[i]? = some (some (.ref a)) ∧ H a = some (.lst ws) ∧ D.nx σ (upd H a (.lst []))
theorem vm_clr {i : Nat} {x : Str} (hN : X.N[i]? = some x) (hv : Vis X.env.scope x) (hd : (x == ("__debug__" : Str)) = false) (hcd : (x == ("__classdict__" : Str)) = false) (hl : (apos.endLine == cpos.line) = true) : PS X (.Expr (.Call (.Attribute (.Name x px) "clear" apos) [] [] cpos) pos) (tClr i) := by
  refine PS_weak (ps_expr (pe_bm0 PySem.F.plainAttrs_list PySem.F.slot_list_clear PySem.F.type_list_clear mt_clear (pe_var hN hv hd hcd) (attr_base rfl) hl) rfl) fun D' σ H => ?_
  rintro ⟨a, ws, h1, h2, h3⟩
  exact ⟨_, h1, .inl ⟨rfl, _, .inl (.inl h2)⟩, a, ws, rfl, rfl, h2, h3⟩
theorem allM_clr : ∀ {ds ds' : List D}, allM .clr ds = .ok ds' → ds'.length = ds.length ∧ ∀ k (h : k < ds.length), (∃ xs, ds[k]? = some (.lst xs)) ∧ ds'[k]? = some (.lst [])
  | [], ds', h => by simp only [allM] at h; cases h; exact ⟨rfl, fun k h => by simp at h⟩
  | d :: ds, ds', h => by
    simp only [allM] at h
    cases d <;> simp only [clrD] at h <;> first | cases h | skip
    rename_i xs
    have h : ((allM .clr ds).bind fun ds' => R.ok (D.lst [] :: ds')) = .ok ds' := h
    cases q : allM .clr ds with
    | bad => rw [q] at h; cases h
    | exc c => rw [q] at h; cases h
    | ok es =>
      rw [q] at h
      cases h
      obtain ⟨h1, h2⟩ := allM_clr q
      refine ⟨by simp [h1], fun k hk => ?_⟩
      cases k with
      | zero => exact ⟨⟨xs, rfl⟩, rfl⟩
      | succ k => simpa using h2 k (by simpa using hk)
theorem modI_at {g : D → D} : ∀ {k : Nat} {ds : List D} {d : D}, ds[k]? = some d → modI g k ds = ds.set k (g d)
  | _, [], _, h => by simp at h
  | 0, d :: ds, _, h => by simp at h; subst h; rfl
  | k + 1, d :: ds, _, h => by
    simp only [modI, List.set_cons_succ]
    rw [modI_at (by simpa using h)]
/-- for x in y: x.clear() -/
theorem vs_forM {i j : Nat} {x y : Str} {py pb : Pos} (hK : X.K = G.K) (po : PassesOwn (model X.prog X.w) X.A X.env X.xe) (hc : X.calm = true) (hN : X.N.Nodup) (hi : X.N[i]? = some x) (hx : Loc X.env.scope x) (hf : X.fn x = true ∨ X.env.scope.names.lookup x = some .local) (hvx : Vis X.env.scope x) (hdx : (x == ("__debug__" : Str)) = false) (hcx : (x == ("__classdict__" : Str)) = false)
    (hj : X.N[j]? = some y) (hvy : Vis X.env.scope y) (hdy : (y == ("__debug__" : Str)) = false) (hcy : (y == ("__classdict__" : Str)) = false) (hl : (apos.endLine == cpos.line) = true) (hs : ∀ v, foldedSetIterable (.Name y py) X.env v = pure v) :
    PS X (.For (.Name x p) (.Name y py) [.Expr (.Call (.Attribute (.Name x px) "clear" apos) [] [] cpos) pb] [] pos) (tS T W C G Y B (.forM j i .clr)) := by
  refine PS_weak (ps_for po hc (pi_list (pe_var hj hvy hdy hcy)) (pg_name hN hi hx hf) (pss_one (vm_clr hi hvx hdx hcx hl)) hs) fun D' σ H => ?_
  rintro ⟨ex, E, S, h⟩
  simp only [exec] at h
  split at h
  rotate_left
  · exact h.elim
  rename_i hlk
  rw [Bool.and_eq_true] at hlk
  obtain ⟨hlk, hiE⟩ := hlk
  rw [decide_eq_true_eq] at hiE
  rw [Bool.and_eq_true] at hlk
  have hij : i ≠ j := by
    have := hlk.2
    simpa using this
  have nl := lkB_no hlk.1
  have hLj : B.L.contains j = false := by
    have := List.all_eq_true.mp hlk.1 j (by simp)
    simp only [Bool.not_eq_true', Bool.or_eq_false_iff] at this
    exact this.1
  split at h
  rotate_left
  · exact h.elim
  rename_i ds hd
  have he := depO_some hd
  cases hq : allM .clr ds with
  | bad => rw [hq] at h; exact h.elim
  | exc c =>
    exfalso
    clear h hd he
    induction ds with
    | nil => simp [allM] at hq
    | cons d ds ih =>
      simp only [allM] at hq
      cases d <;> simp only [clrD] at hq <;> first | cases hq | skip
      have hq : ((allM .clr ds).bind fun ds' => R.ok (D.lst [] :: ds')) = .exc c := hq
      cases q : allM .clr ds with
      | bad => rw [q] at hq; cases hq
      | exc c' => exact ih (by rw [q] at hq; cases hq; exact q)
      | ok es => rw [q] at hq; cases hq
  | ok ds' =>
  rw [hq] at h
  have h : ∀ ex σ' H', Sim G (B.fr ex) ((E.set j (some (.dep (.lst ds')))).set i none) σ' H' → D'.nx σ' H' := h
  obtain ⟨hlen, hat⟩ := allM_clr hq
  obtain ⟨v, hv, fp, r, n, _⟩ := S.dp.slot j _ he
  simp only [RepT] at r
  obtain ⟨a, vs, fq, rfl, _, ha, hz, _⟩ := r
  refine ⟨_, hv, a, rfl, ⟨vs, SqL.of ha⟩, ?_⟩
  rw [hK]
  have hjE : j < E.length := (List.getElem?_eq_some_iff.mp he).1
  refine ⟨fun k m σ H => m = ds.length - k ∧ k ≤ ds.length ∧ σ[j]? = some (some (.ref a)) ∧ ∃ ex, Sim G (B.fr ex) ((E.set j (some (.dep (.lst (ds'.take k ++ ds.drop k))))).set i none) σ H, ⟨ds.length, by simp, Nat.zero_le _, hv, ex, ?_⟩, ?_⟩
  · have e : E.set j (some (.dep (.lst (ds'.take 0 ++ ds.drop 0)))) = E := by
      rw [List.take_zero, List.drop_zero, List.nil_append]
      apply List.ext_getElem?
      intro q
      rw [List.getElem?_set]
      split
      · rename_i z; subst z; exact he.symm
      · rfl
    rw [e]
    exact S.drop (nl i (by simp)) rfl fun _ _ => rfl
  rintro k m σ H ⟨rfl, hk, hσ, ex, S⟩
  have hj2 : ((E.set j (some (.dep (.lst (ds'.take k ++ ds.drop k))))).set i none)[j]? = some (some (.dep (.lst (ds'.take k ++ ds.drop k)))) := by
    rw [List.getElem?_set_ne hij, List.getElem?_set_self hjE]
  obtain ⟨v', hv', fp, r, n, _⟩ := S.dp.slot j _ hj2
  rw [hσ] at hv'
  cases hv'
  simp only [RepT] at r
  obtain ⟨a', vs, fq, e', _, ha, hz, rs⟩ := r
  cases e'
  have hl2 : vs.length = ds.length := by
    rw [rs.length, List.length_append, List.length_take, List.length_drop, hlen]
    omega
  by_cases hlt : k < ds.length
  · refine .inr ⟨⟨vs, vs[k], SqL.of ha, List.getElem?_eq_getElem (by omega)⟩, fun σ' H' => k + 1 ≤ ds.length ∧ σ'[j]? = some (some (.ref a)) ∧ ∃ ex, Sim G (B.fr ex) ((E.set j (some (.dep (.lst (ds'.take (k + 1) ++ ds.drop (k + 1)))))).set i none) σ' H', fun σ' H' ⟨h1, h2, h3⟩ => ⟨ds.length - (k + 1), by omega, rfl, h1, h2, h3⟩, fun x2 H3 y => ?_⟩
    obtain ⟨rfl, y⟩ := y
    have hxk := y vs (SqL.of ha)
    obtain ⟨⟨xs, hxs⟩, hcs⟩ := hat k hlt
    have hdk : (ds'.take k ++ ds.drop k)[k]? = some (.lst xs) := by
      rw [List.getElem?_append_right (by rw [List.length_take]; omega), List.length_take, Nat.min_eq_left (by omega), Nat.sub_self, List.getElem?_drop]
      simpa using hxs
    have hgp : getP [.ix k] (D.lst (ds'.take k ++ ds.drop k)) = some (.lst xs) := by
      simp only [getP, hdk]
      rfl
    -- the item is a list
    obtain ⟨w, g1, f1, g2, hw, _, rw1, _⟩ := rs.at hdk
    rw [hxk] at hw
    cases hw
    have rd : RdP H3 [.ix k] (.ref a) x2 := ⟨a, vs, x2, rfl, .inl ha, hxk, rfl⟩
    have S5 := S.drop (i := i) (σ' := σ.set i (some x2)) (nl i (by simp)) (by simp) fun q hq => by rw [List.getElem?_set_ne hq.symm]
    rw [List.set_set] at S5
    obtain ⟨b, f1', e1, r5, hxb, hbf, up⟩ := S5.mutF (q := [.ix k]) hj2 (hk_no hLj) hgp (by rw [List.getElem?_set_ne hij]; exact hσ) rd rfl
    subst e1
    simp only [RepT] at r5
    obtain ⟨b', ws, fw, eb, _, hb, hzb, _⟩ := r5
    cases eb
    show tClr i _ (σ.set i (some (.ref b))) H3
    have hiL : i < σ.length := by
      have := S.len
      simp only [List.length_set] at this
      omega
    refine ⟨b, ws, by rw [List.getElem?_set_self hiL], hb, hlt, by rw [List.getElem?_set_ne hij]; exact hσ, ?_⟩
    obtain ⟨ex', S6⟩ := up H3 (.lst []) (.lst []) (Same.refl _) (.inl ⟨_, rfl⟩) (upd_lst (o := .lst ws) hxb hb rfl rfl (Nat.zero_le _) (by simp [Reps]))
    refine ⟨ex', ?_⟩
    have e : setP (.lst []) [.ix k] (D.lst (ds'.take k ++ ds.drop k)) = .lst (ds'.take (k + 1) ++ ds.drop (k + 1)) := by
      simp only [setP]
      rw [modI_at hdk]
      congr 1
      apply List.ext_getElem?
      intro q
      rw [List.getElem?_set]
      have hk1 : (ds'.take (k + 1)).length = k + 1 := by rw [List.length_take]; omega
      have hk0 : (ds'.take k).length = k := by rw [List.length_take]; omega
      by_cases hq1 : k = q
      · subst hq1
        rw [if_pos rfl, if_pos (by rw [List.length_append, hk0, List.length_drop]; omega), List.getElem?_append_left (by omega), List.getElem?_take_of_lt (by omega), hcs]
      · rw [if_neg hq1]
        by_cases hq2 : q < k
        · rw [List.getElem?_append_left (by omega), List.getElem?_append_left (by omega), List.getElem?_take_of_lt hq2, List.getElem?_take_of_lt (by omega)]
        · rw [List.getElem?_append_right (by omega), List.getElem?_append_right (by omega), List.getElem?_drop, List.getElem?_drop, hk0, hk1]
          congr 1
          omega
    rw [e, List.set_comm _ _ hij, List.set_set] at S6
    exact S6
  · have ek : k = ds.length := by omega
    subst ek
    refine .inl ⟨⟨vs, SqL.of ha, by omega⟩, ?_⟩
    rw [List.drop_length, List.append_nil, List.take_of_length_le (by omega)] at S
    exact h _ _ _ S
end
end FS

/-! FS31: an expression with its store to a name (a comprehension on one line is stored otherwise). -/
namespace FS
open PySem L2
def isLC : Expr → Bool
  | .ListComp .. => true
  | .SetComp .. => true
  | .DictComp .. => true
  | _ => false
theorem sw_no {e : Expr} {t : Option Expr} {l : Nat} {env : PySem.Env} (h : isLC e = false) : swapsWith e t l env = pure false := by
  cases e <;> first | rfl | cases h
theorem sw_lc {elt : Expr} {gs : List Comprehension} {scope : Scope} {pos py : Pos} {y : Str} {l : Nat} {env : PySem.Env} : ∃ b, swapsWith (.ListComp elt gs scope pos) (some (.Name y py)) l env = pure b ∧ (b = true → env.scope.names.lookup y = some .local) := by
  refine ⟨env.blockKind == .function && env.kindOf y == some .local && py.line == pos.line && !(scope.names.any fun (n, k) => n == y && (k == .local || k == .cell)), rfl, fun h => ?_⟩
  simp only [Bool.and_eq_true, beq_iff_eq] at h
  exact h.1.1.2
structure PL (X : Cx) (e : Expr) (t : TE) : Prop where
  pe : PE X e t
  as : ∀ (y : Str) (py : Pos) (i : Nat) (spos : Pos), X.N.Nodup → X.N[i]? = some y → Loc X.env.scope y → (X.fn y = true ∨ X.env.scope.names.lookup y = some .local) → PS X (.Assign [.Name y py] e spos) (tAsg t (gName i))
section
variable {T : Tb} {W : Nat} {C : Fid → List D → R (D × Bool)} {G : GT} {Y : XK} {X : Cx} {B : Bs} {F : Fr} {ex : Xc} {E : SEnv} {σ σ' : St} {H H' H0 H1 H2 : Hp} {e : Expr} {ea eb ec eo ei ee ek : Ex} {ees : Exs} {t t' : TE} {pos p1 p2 p3 p4 p5 p6 p7 p8 : Pos}
theorem PL_weak (h : PL X e t) (w : ∀ σ H Q, t' σ H Q → t σ H Q) : PL X e t' := ⟨PE_weak h.pe w, fun y py i spos h1 h2 h3 h4 => PS_weak (h.as y py i spos h1 h2 h3 h4) fun D σ H q => w σ H _ q⟩
theorem PL.no (h : PE X e t) (n : isLC e = false) : PL X e t := ⟨h, fun y py i spos h1 h2 h3 h4 => ps_set h1 h2 h3 h (sw_no n) h4⟩
theorem PL.lock (h : PL X e t) : PL X e (tLockE t) := ⟨pe_lock h.pe, fun y py i spos h1 h2 h3 h4 => PS_weak (ps_lock (h.as y py i spos h1 h2 h3 h4)) fun D σ H ⟨d, u, hd, mu, q⟩ => ⟨d, u, hd, mu, fun od => q od⟩⟩
theorem pl_lc {elt tg iter : Expr} {ifs : List Expr} {scope : Scope} {own : List (Str × Nat)} {wi : TI} {g : TG} {tt : TT} {te : TE} (hc : X.calm = true) (hN : X.N.Nodup) (hi : PI X tg iter wi) (ok : BlkOk X.N X.env.scope scope own)
    (hg : ∀ (s : Shared) (H : Hp) (C : Addr) (cl : List (Str × Addr)) (fp : List Addr), PG (X.blk s H scope (compEnvC scope cl C X.env) fp) tg g) (ht : ∀ (s : Shared) (H : Hp) (C : Addr) (cl : List (Str × Addr)) (fp : List Addr), PTs (X.blk s H scope (compEnvC scope cl C X.env) fp) ifs tt)
    (he : ∀ (s : Shared) (H : Hp) (C : Addr) (cl : List (Str × Addr)) (fp : List Addr), PE (X.blk s H scope (compEnvC scope cl C X.env) fp) elt te) (hs : ∀ x, foldedSetIterable iter X.env x = pure x) :
    PL X (.ListComp elt [⟨tg, iter, ifs, 0⟩] scope pos) (tLc wi g tt te (own.map (·.2))) := by
  refine ⟨pe_lc hc hN hi ok hg ht he hs, fun y py i spos h1 h2 h3 h4 => ?_⟩
  obtain ⟨b, hb, hbl⟩ := sw_lc (elt := elt) (gs := [⟨tg, iter, ifs, 0⟩]) (scope := scope) (pos := pos) (py := py) (y := y) (l := spos.line) (env := X.env)
  cases b with
  | false => exact ps_set h1 h2 h3 (pe_lc hc hN hi ok hg ht he hs) hb h4
  | true => exact ps_setLc hc hN h2 (hbl rfl) hb hi ok hg ht he hs
theorem pl_lend (he : PL X e (tP T C G Y ee)) : PL X e (tP T C G Y (.bor ee)) := by
  refine PL_weak he fun σ H Q ⟨F, E, S, h⟩ => ?_
  simp only [ev] at h
  rw [R.sat_bind] at h
  refine ⟨F.bor, borE E, S.bor, R.sat_mono h (fun x q v H' P => ?_) fun _ z => z⟩
  obtain ⟨hs, q⟩ := safeV_sat q
  exact q v H' (safe_post S P hs)
theorem pr_im (he : PL X e (tP T C G Y ee)) : PL X e (tTr T C G Y (.im ee)) := by
  refine PL_weak he fun σ H Q ⟨F, E, S, h⟩ => ?_
  simp only [tev] at h
  rw [R.sat_bind] at h
  refine ⟨F.bor, borE E, S.bor, R.sat_mono h (fun x q v H' P => ?_) fun _ z => z⟩
  unfold safeD at q
  split at q
  · rename_i hs
    obtain ⟨fp, h1, h2, h3⟩ := tree_flat (safe_post S P hs) hs
    exact q v H' fp P.same h1 h2 h3
  · exact q.elim
theorem pl_comp {elt tg iter : Expr} {ifs : List Expr} {scope : Scope} {own : List (Str × Nat)} {it : It} {t : Tg} {eelt econd : Ex} (hc : X.calm = true) (hN : X.N.Nodup) (hi : PI X tg iter (tI T C G Y it)) (ok : BlkOk X.N X.env.scope scope own)
    (ho : ∀ j ∈ tgSlots t, j ∈ own.map (·.2))
    (hg : ∀ (s : Shared) (H : Hp) (K : Addr) (cs : List (Str × Addr)) (fp : List Addr), PG (X.blk s H scope (compEnvC scope cs K X.env) fp) tg (tG G t))
    (ht : ∀ (s : Shared) (H : Hp) (K : Addr) (cs : List (Str × Addr)) (fp : List Addr), PTv T C G Y0 (X.blk s H scope (compEnvC scope cs K X.env) fp) ifs econd)
    (he : ∀ (s : Shared) (H : Hp) (K : Addr) (cs : List (Str × Addr)) (fp : List Addr), PE (X.blk s H scope (compEnvC scope cs K X.env) fp) elt (tP T C G Y0 eelt))
    (hs : ∀ x, foldedSetIterable iter X.env x = pure x) : PL X (.ListComp elt [⟨tg, iter, ifs, 0⟩] scope pos) (tP T C G Y (.comp eelt t it econd (own.map (·.2)))) ∧ PL X (.ListComp elt [⟨tg, iter, ifs, 0⟩] scope pos) (tTr T C G Y (.comp eelt t it econd (own.map (·.2)))) :=
  have h := pl_lc hc hN hi ok hg (fun s H K cs fp => (ht s H K cs fp).h) he hs
  ⟨PL_weak h fun σ H Q h => comp_core ho h, PL_weak h fun σ H Q h => compT_core ho h⟩
/-- {} -/
theorem ve_dic0 : PE X (.Dict [] [] pos) (tP T C G Y .dic0) := by
  refine PE_weak pe_dnewK fun σ H Q ⟨F, E, S, h⟩ => ?_
  simp only [ev] at h
  intro p hp
  have sm : Same H (upd H p (.dK [])) := same_upd hp
  refine h _ _ ⟨sm, ?_, fun _ => ⟨fun _ => ⟨rfl, fun a e => by cases e; exact hp⟩, p, [], rfl, upd_same, Nat.zero_le _, by simp [RepK]⟩⟩
  show Rep _ _ _ _ _
  simp only [Rep]
  exact ⟨p, [], rfl, S.new hp _ _, upd_same, Nat.zero_le _, by simp [RepK]⟩
/-- name = value -/
theorem vs_asgL {i : Nat} {x : Str} {p' : Pos} (hN : X.N.Nodup) (hi : X.N[i]? = some x) (hx : Loc X.env.scope x) (he : PL X e (tP T C G Y ee)) (hf : X.fn x = true ∨ X.env.scope.names.lookup x = some .local) :
    PS X (.Assign [.Name x p'] e pos) (tS T W C G Y B (.asg i ee)) := by
  refine PS_weak (he.as x p' i pos hN hi hx hf) fun D' σ H => ?_
  rintro ⟨ex, E, S, h⟩
  simp only [exec] at h
  split at h
  · rename_i hlk
    obtain ⟨ex1, S1⟩ := S.frz (esc ee) (lkB_cons hlk).2
    rw [R.sat_bind] at h
    exact ⟨_, _, S1, R.sat_mono h (fun x q v H' P => asg_ok (lkB_no hlk i List.mem_cons_self) S1 P q) fun c z => S1.wish z⟩
  · exact h.elim
/-- name = tree -/
theorem vs_asgDL {i : Nat} {x : Str} {p' : Pos} {t : TEx} (hN : X.N.Nodup) (hi : X.N[i]? = some x) (hx : Loc X.env.scope x) (he : PL X e (tTr T C G Y t)) (hf : X.fn x = true ∨ X.env.scope.names.lookup x = some .local) :
    PS X (.Assign [.Name x p'] e pos) (tS T W C G Y B (.asgD i t)) := by
  refine PS_weak (he.as x p' i pos hN hi hx hf) fun D' σ H => ?_
  rintro ⟨ex, E, S, h⟩
  simp only [exec] at h
  split at h
  · rename_i hlk
    exact st_bindT S h fun d v H' fp s r n w q => q _ _ _ (S.dep s r n w (lkB_no hlk i List.mem_cons_self))
  · exact h.elim
end
end FS

/-! FS30: the keys of a dict that have a given value. -/
namespace FS
open PySem L2
section
variable {T : Tb} {W : Nat} {C : Fid → List D → R (D × Bool)} {G : GT} {Y : XK} {X : Cx} {B : Bs} {F : Fr} {ex : Xc} {E : SEnv} {σ σ' : St} {H H' H0 H1 H2 : Hp} {ea eb ec eo ei ee ek : Ex} {pos p1 p2 p3 p4 p5 p6 p7 p8 : Pos}
theorem RepK.ints {P : Bool → Addr → Prop} : ∀ {kvs : List (Int × D)} {ws : List (Key × V)}, RepK G P H kvs ws → (kvs.all fun p => isI p.2) = true → ∀ (j : Nat) (k : Key) (v : V), ws[j]? = some (k, v) → ∃ (i : Int) (d : D), k = Sum.inl i ∧ kvs[j]? = some (i, d) ∧ ∃ w : Int, d = D.int w ∧ v = V.int w
  | [], _, h, _, j, k, v, e => by simp only [RepK] at h; subst h; simp at e
  | (i, d) :: kvs, _, h, ha, j, k, v, e => by
    simp only [List.all_cons, Bool.and_eq_true] at ha
    simp only [RepK] at h
    obtain ⟨u, r, rfl, p, q⟩ := h
    cases j with
    | zero =>
      simp at e
      obtain ⟨rfl, rfl⟩ := e
      cases d <;> first | (cases ha.1; done) | skip
      simp only [Rep] at p
      exact ⟨i, _, rfl, rfl, _, rfl, p⟩
    | succ j => simpa using RepK.ints q ha.2 j k v (by simpa using e)
/-- which keys -/
def kq (kvs : List (Int × D)) (z : Int) (p : Int × D) : Bool := match kvs.lookup p.1 with
  | some d => d.eqv (.int z)
  | none => false
theorem lookup_mem' {α : Type} : ∀ {l : List (Int × α)} {k : Int} {d : α}, l.lookup k = some d → (k, d) ∈ l
  | [], _, _, h => by simp at h
  | (i, a) :: l, k, d, h => by
    rw [List.lookup_cons] at h
    cases hb : k == i with
    | true => rw [hb] at h; cases h; rw [show k = i by simpa using hb]; exact List.mem_cons_self
    | false => rw [hb] at h; exact List.mem_cons_of_mem _ (lookup_mem' h)
theorem lookup_some {α : Type} : ∀ {l : List (Int × α)} {k : Int} {d : α}, (k, d) ∈ l → ∃ d', l.lookup k = some d'
  | [], _, _, h => by simp at h
  | (i, a) :: l, k, d, h => by
    rw [List.lookup_cons]
    cases hb : k == i with
    | true => exact ⟨a, rfl⟩
    | false =>
      rcases List.mem_cons.mp h with h | h
      · cases h; simp at hb
      · exact lookup_some h
theorem wipe_len' {σ : St} : ∀ {vs : List Nat}, (wipe σ vs).length = σ.length
  | [] => rfl
  | v :: vs => by
    show ((wipe σ vs).set v none).length = _
    rw [List.length_set, wipe_len']
theorem pl_keq {x y z : Str} {jx i k : Nat} {scope : Scope} {own : List (Str × Nat)} (hK : X.K = G.K) (hu : X.A.units + 65 < cLine) (hc : X.calm = true) (hN : X.N.Nodup) (ok : BlkOk X.N X.env.scope scope own) (hj : jx ∈ own.map (·.2)) (hi : i ∉ own.map (·.2)) (hk : k ∉ own.map (·.2))
    (hy : PE X (.Name y p3) (tVar i)) (hg : ∀ (s : Shared) (H : Hp) (Ka : Addr) (cs : List (Str × Addr)) (fp : List Addr), PG (X.blk s H scope (compEnvC scope cs Ka X.env) fp) (.Name x p2) (gName jx))
    (hx1 : ∀ (s : Shared) (H : Hp) (Ka : Addr) (cs : List (Str × Addr)) (fp : List Addr) (p : Pos), PE (X.blk s H scope (compEnvC scope cs Ka X.env) fp) (.Name x p) (tVar jx))
    (hy1 : ∀ (s : Shared) (H : Hp) (Ka : Addr) (cs : List (Str × Addr)) (fp : List Addr) (p : Pos), PE (X.blk s H scope (compEnvC scope cs Ka X.env) fp) (.Name y p) (tVar i))
    (hz1 : ∀ (s : Shared) (H : Hp) (Ka : Addr) (cs : List (Str × Addr)) (fp : List Addr) (p : Pos), PE (X.blk s H scope (compEnvC scope cs Ka X.env) fp) (.Name z p) (tVar k)) :
    PL X (.ListComp (.Name x p1) [⟨.Name x p2, .Name y p3, [.Compare (.Subscript (.Name y p4) (.Name x p5) p6) [.Eq] [.Name z p7] p8], 0⟩] scope pos) (tP T C G Y (.keq jx i (.var k))) := by
  have hcmp : ∀ (s : Shared) (H : Hp) (Ka : Addr) (cs : List (Str × Addr)) (fp : List Addr), PTs (X.blk s H scope (compEnvC scope cs Ka X.env) fp) [.Compare (.Subscript (.Name y p4) (.Name x p5) p6) [.Eq] [.Name z p7] p8] (tTest (tOp (rCmp X.K .Eq) (tOp (rIxA X.K) (tVar i) (tVar jx)) (tVar k))) := fun s H Ka cs fp =>
    pts_one (pt_cmpR (op_cmp (X := X.blk s H scope (compEnvC scope cs Ka X.env) fp) hu .Eq) (pe_ix (ix_all (X := X.blk s H scope (compEnvC scope cs Ka X.env) fp) (Nat.lt_of_le_of_lt (by show X.A.units + 1 ≤ X.A.units + 65; omega) hu)) (hy1 s H Ka cs fp _) (hx1 s H Ka cs fp _) (plain_ix rfl)) (hz1 s H Ka cs fp _) rfl)
  refine PL_weak (pl_lc hc hN (pi_keys hy) ok hg hcmp (fun s H Ka cs fp => hx1 s H Ka cs fp _) fun _ => rfl).lock fun σ H Q => ?_
  rintro ⟨F, E, S, h⟩
  simp only [ev] at h
  split at h
  rotate_left
  · exact h.elim
  rename_i hjE
  split at h
  rotate_left
  · exact h.elim
  rename_i d n hd
  cases e2 : E[k]? with
  | none => rw [e2] at h; exact h.elim
  | some sl =>
  have key : ∃ kvs zz m, d = .dic kvs ∧ E[k]? = some (some (.shr (.int zz) m)) ∧ (kvs.all fun p => isI p.2) = true ∧ ∀ v H', Post G F H H' (mkL ((kvs.filter (kq kvs zz)).map fun p => D.int p.1) true) v → Q v H' := by
    rw [e2] at h
    cases sl with
    | none => exact h.elim
    | some sl =>
      cases sl with
      | dep d => exact h.elim
      | slf c fs => exact h.elim
      | own d' n =>
        exfalso
        cases d' <;> first | exact h.elim | skip
        · have h : (keqV d (.lst _)).sat _ _ := h
          unfold keqV at h
          split at h
          · rename_i e; cases e
          · exact h.elim
        · have h : (keqV d (.dic _)).sat _ _ := h
          unfold keqV at h
          split at h
          · rename_i e; cases e
          · exact h.elim
      | shr d' m =>
        have h : (keqV d d').sat _ _ := h
        unfold keqV at h
        split at h
        · split at h
          · rename_i ha
            exact ⟨_, _, m, rfl, e2, ha, h⟩
          · exact h.elim
        · exact h.elim
  obtain ⟨kvs, zz, m, rfl, ek, hall, hQ⟩ := key
  obtain ⟨v, hv, r⟩ := S.slot i _ hd
  obtain ⟨vk, hvk, rk⟩ := S.slot k _ ek
  have rk : Rep G (cl F m) H (.int zz) vk := rk
  simp only [Rep] at rk
  subst rk
  have r : Rep G (cl F n) H (.dic kvs) v := r
  simp only [Rep] at r
  obtain ⟨a, ws, rfl, _, ha, hz, rw⟩ := r
  have hwl := rw.length
  have hsl : S.len = S.len := rfl
  have hjσ : jx < σ.length := by rw [S.len]; exact hjE
  refine ⟨a, .dK ws, ha, trivial, fun od => ?_⟩
  refine ⟨.ref a, hv, a, od, rfl, .inl ⟨ws, upd_same, fun Da hD => ?_⟩⟩
  have hDa : Da ≠ a := fun z => by rw [z, upd_same] at hD; cases hD
  have hDn : H Da = none := by rw [upd_ne hDa] at hD; exact hD
  let Inv' : Nat → Hp → Prop := fun j H2 => j ≤ ws.length ∧ H2 a = some (.frz od (.dK ws)) ∧ (∀ b o, b ≠ a → H b = some o → H2 b = some o) ∧ H2 Da = some (.lst (((kvs.take j).filter (kq kvs zz)).map fun p => V.int p.1))
  refine ⟨fun j m H2 => m = ws.length - j ∧ Inv' j H2, ⟨ws.length, by simp, Nat.zero_le _, by rw [upd_ne hDa.symm, upd_same], fun b o hb e => by rw [upd_ne (ne_of_none e hDn), upd_ne hb]; exact e, by rw [upd_same]; simp⟩, ?_⟩
  rintro j m H2 ⟨rfl, hjl, h1, h2, h3⟩
  have hacc : ((kvs.take j).filter (kq kvs zz)).length ≤ j := Nat.le_trans (List.length_filter_le _ _) (by rw [List.length_take]; omega)
  by_cases hlt : j < ws.length
  · refine .inr ⟨⟨h1, hlt⟩, Inv' (j + 1), fun H3 h => ⟨ws.length - (j + 1), by omega, rfl, h⟩, fun xv H3 yv => ?_⟩
    obtain ⟨rfl, kk, vv, hw, rfl⟩ := yv
    obtain ⟨ki, dk, rfl, hkv, w, rfl, rfl⟩ := rw.ints hall _ _ _ hw
    have g1 : ((wipe σ (own.map (·.2))).set jx (some (kV (.inl ki))))[jx]? = some (some (.int ki)) := by
      rw [List.getElem?_set_self (by rw [wipe_len']; exact hjσ)]
      rfl
    have g2 : ∀ q, q ∉ own.map (·.2) → ((wipe σ (own.map (·.2))).set jx (some (kV (.inl ki))))[q]? = σ[q]? := fun q hq => by
      have hne : jx ≠ q := fun z => hq (by rw [← z]; exact hj)
      rw [List.getElem?_set_ne hne, wipe_get hq]
    have hkm : (ki, D.int w) ∈ kvs := List.mem_of_getElem? hkv
    obtain ⟨d', hd'⟩ := lookup_some hkm
    have hd'i : isI d' = true := List.all_eq_true.mp hall _ (lookup_mem' hd')
    cases d' <;> first | (cases hd'i; done) | skip
    rename_i w'
    have hval := rw.look (k := ki)
    rw [hd'] at hval
    obtain ⟨v', hv', rv'⟩ := hval
    simp only [Rep] at rv'
    subst rv'
    have hkq : kq kvs zz (ki, .int w) = decide (w' = zz) := by
      unfold kq
      simp only [hd', D.eqv]
      by_cases hq : w' = zz
      · simp [hq]
      · simp [hq]
    have htk : kvs.take (j + 1) = kvs.take j ++ [(ki, .int w)] := by
      rw [List.take_succ, hkv]
      rfl
    show gName jx _ _ _ _
    refine ⟨by rw [wipe_set hj, wipe_wipe fun v hv => hv], ?_⟩
    show tTest _ _ _ _
    refine ⟨.ref a, by rw [g2 i hi]; exact hv, .int ki, g1, .inr (.inr ⟨a, .int w', rfl, ?_, .int zz, by rw [g2 k hk]; exact hvk, ?_⟩)⟩
    · exact .inl ⟨ws, .inl ki, .inr ⟨od, h1⟩, rfl, hv'.symm⟩
    rw [hK]
    refine cmV .Eq F H3 (mkI (.int w')) (mkI (.int zz)) (.int w') (.int zz) (decide (w' = zz)) _ (Post.int (H := H3)).val (Post.int (H := H3)).val ?_ ?_
    · show (if (D.dat 60 (.int w') && D.dat 60 (.int zz)) = true then R.ok (D.eqv (.int w') (.int zz)) else .bad) = _
      by_cases hq : w' = zz <;> simp [D.dat, D.eqv, hq]
    · refine ⟨decide (w' = zz), rfl, ?_⟩
      simp only
      by_cases hq : w' = zz
      · rw [if_pos (by simp [hq])]
        refine ⟨.int ki, g1, _, h3, by simp only [List.length_map]; omega, hlt, by rw [upd_ne hDa.symm]; exact h1, fun b o hb e => by rw [upd_ne (ne_of_none e hDn)]; exact h2 b o hb e, ?_⟩
        rw [upd_same, htk, List.filter_append, List.filter_cons, hkq]
        simp [hq]
      · rw [if_neg (by simp [hq])]
        refine ⟨hlt, h1, h2, ?_⟩
        rw [htk, List.filter_append, List.filter_cons, hkq]
        simpa [hq] using h3
  · have ej : j = ws.length := by omega
    subst ej
    refine .inl ⟨⟨h1, Nat.le_refl _⟩, h1, ?_⟩
    rw [List.take_of_length_le (by omega)] at h3
    have sm : Same H (upd H2 a (.dK ws)) := fun b o e => by
      by_cases hb : b = a
      · rw [hb, upd_same, ← ha, ← hb, e]
      · rw [upd_ne hb]; exact h2 b o hb e
    have hLa : (upd H2 a (.dK ws)) Da = some (.lst ((kvs.filter (kq kvs zz)).map fun p => V.int p.1)) := by rw [upd_ne hDa]; exact h3
    have hrep : ∀ P, Reps G P (upd H2 a (.dK ws)) ((kvs.filter (kq kvs zz)).map fun p => D.int p.1) ((kvs.filter (kq kvs zz)).map fun p => V.int p.1) := fun P => by
      have := Reps.of_ints (G := G) (P := P) (H := upd H2 a (.dK ws)) ((kvs.filter (kq kvs zz)).map (·.1))
      rw [List.map_map, List.map_map] at this
      exact this
    have hlen : ((kvs.filter (kq kvs zz)).map fun p => V.int p.1).length ≤ sizeLine := by
      rw [List.length_map]
      have := List.length_filter_le (kq kvs zz) kvs
      omega
    refine hQ _ _ ⟨sm, ?_, fun _ => ⟨fun _ => ⟨rfl, fun b e => by cases e; exact hDn⟩, Da, _, rfl, hLa, hlen, hrep _⟩⟩
    show Rep _ _ _ _ _
    simp only [mkL, Rep]
    exact ⟨Da, _, rfl, S.new hDn _ _, hLa, hlen, hrep _⟩
end
end FS

/-! FS14: from a written expression to a stripped one, with all that must be looked at; that it is sound. -/
namespace FS
open PySem L2

/-- where a text stands -/
structure Kx where
  N : List Str
  sc : Scope
  fn : Str → Bool
  /-- the slots of trees -/
  dep : List Nat
  /-- the argument that is changed in place -/
  io : Option Nat
  /-- returns are trees -/
  rt : Bool
  /-- the fields are trees -/
  slf : Bool
/-- the names that are known -/
structure Nm where
  con : List Str
  fns : List Str
  mks : List Str
  cls : List Str
  att : List Str
  mth : List Str
  sup : List Str
  exc : List Str
  fxs : List (Str × Nat)
  mxs : List (Str × Nat)
def blts : List Str := ["len", "list", "tuple", "sorted", "sum", "max", "min", "all", "any", "set", "range", "isinstance", "int", "bool", "str", "enumerate", "zip"]

def Kx.blk (K : Kx) (scope : Scope) : Kx := ⟨K.N, relS scope K.sc, fun x => scope.names.lookup x == some .cell, K.dep, K.io, K.rt, K.slf⟩
def okN (x : Str) : Bool := !(x == ("__debug__" : Str)) && !(x == ("__classdict__" : Str))
def visB (K : Kx) (x : Str) : Bool := K.sc.names.lookup x == some .local || K.sc.names.lookup x == some .cell || K.sc.names.lookup x == some .free
def locB (K : Kx) (x : Str) : Bool := K.sc.names.lookup x == some .local || K.sc.names.lookup x == some .cell
def gloB (K : Kx) (x : Str) : Bool := K.sc.names.lookup x == some .globalImplicit && !(x == ("__debug__" : Str))
def stoB (K : Kx) (x : Str) : Bool := locB K x && (K.fn x || K.sc.names.lookup x == some .local)
def ixF (x : Str) : List Str → Option Nat
  | [] => none
  | y :: ys => if y = x then some 0 else (ixF x ys).map (· + 1)
theorem ixF_get {x : Str} : ∀ {N : List Str} {i : Nat}, ixF x N = some i → N[i]? = some x
  | [], _, h => by simp [ixF] at h
  | y :: ys, i, h => by
    unfold ixF at h
    split at h
    · rename_i e
      cases h
      simp [e]
    · cases hx : ixF x ys with
      | none => rw [hx] at h; cases h
      | some j =>
        rw [hx] at h
        cases h
        simpa using ixF_get hx
theorem ixF_none {x : Str} : ∀ {N : List Str}, ixF x N = none → x ∉ N
  | [], _ => by simp
  | y :: ys, h => by
    unfold ixF at h
    split at h
    · cases h
    · rename_i e
      cases hx : ixF x ys with
      | none =>
        rw [List.mem_cons, not_or]
        exact ⟨fun z => e z.symm, ixF_none hx⟩
      | some j => rw [hx] at h; cases h

/-! ### compiling -/
def cName (M : Nm) (K : Kx) (x : Str) : Option Ex := if visB K x && okN x then (ixF x K.N).map Ex.var else if gloB K x && M.con.contains x then some (.glb x) else none
def cCon : Const → Option Ex
  | .int i => some (.con (.int i))
  | .bool i => some (.con (.bl i))
  | .none => some (.con .non)
  | .str i => some (.con (.str i))
  | _ => none
def opOk : Operator → Bool
  | .Add | .Sub | .Mult | .Mod | .FloorDiv | .LShift | .RShift | .Pow | .BitAnd | .BitOr | .BitXor => true
  | _ => false
def cBin (op : Operator) (a b : Option Ex) : Option Ex := if opOk op then a.bind fun x => b.map fun y => .bin op x y else none
/-- what may stand as a test -/
def tst : Expr → Bool
  | .IfExp .. => false
  | .NamedExpr .. => false
  | _ => true
def cUn (op : UnaryOp) (a : Expr) (ea : Option Ex) : Option Ex := match op with
  | .USub => ea.map (.un .USub)
  | .Invert => ea.map (.un .Invert)
  | .Not => if tst a then ea.map (.un .Not) else none
  | _ => none
def cBool (r : Expr → Option Ex) (op : BoolOp) : List Expr → Option Ex
  | [] => none
  | [a] => if tst a then r a else none
  | a :: rest => if tst a then (r a).bind fun x => (cBool r op rest).map fun y => match op with
    | .And => .and x y
    | .Or => .or x y
    else none
def cCmp (r : Expr → Option Ex) (a : Expr) (ops : List CmpOp) (bs : List Expr) : Option Ex := match ops, bs with
  | [op], [b] => if behindInMarks op b then none else (r a).bind fun x => (r b).map fun y => .cmp op x y
  | [op, op'], [b, c] => if lastMarks [op, op'] [b, c] then none else (r a).bind fun x => (r b).bind fun y => (r c).map fun z => .chn op op' x y z
  | _, _ => none
def cL (r : Expr → Option Ex) : List Expr → Option Exs
  | [] => some .nil
  | e :: es => if notStar e then (r e).bind fun x => (cL r es).map fun xs => .cons x xs else none
def isSet : Expr → Bool
  | .Set .. => true
  | _ => false
def cTg (K : Kx) : Expr → Option Tg
  | .Name x _ => if stoB K x then (ixF x K.N).map Tg.nm else none
  | .Tuple [.Name x _, .Name y _] _ _ => if stoB K x && stoB K y then (ixF x K.N).bind fun i => (ixF y K.N).map fun j => .tp [i, j] else none
  | _ => none
def cIt (r : Expr → Option Ex) (K : Kx) : Expr → Option It
  | .Call (.Name x p) args [] pos => if x = "range" then
      (if gloB K x then match args with
        | [b] => if notStar b then (r b).map .rng1 else none
        | [a, b] => if notStar a && notStar b then (r a).bind fun x => (r b).map fun y => .rng x y else none
        | _ => none
      else none)
    else (r (.Call (.Name x p) args [] pos)).map .seq
  | e => (r e).map .seq
def ownF (N : List Str) : List (Str × NameKind) → List (Str × Nat)
  | [] => []
  | (x, k) :: r => if k == .local || k == .cell then (match ixF x N with
      | some i => (x, i) :: ownF N r
      | none => ownF N r)
    else ownF N r
def blkB (K : Kx) (scope : Scope) : Bool := scope.kind == .function && scope.names.all (fun y => scope.names.lookup y.1 == some y.2) && scope.names.all fun y => !(y.2 == .free) || K.sc.names.lookup y.1 == some .cell || K.sc.names.lookup y.1 == some .free
def cIfs (rb : Expr → Option Ex) : List Expr → Option Ex
  | [] => some (.con (.bl true))
  | [c] => if tst c then rb c else none
  | _ => none
def cComp (r rb : Expr → Option Ex) (K : Kx) (elt : Expr) (gens : List Comprehension) (scope : Scope) : Option Ex := match gens with
  | [⟨tg, iter, ifs, 0⟩] => if blkB K scope && !isSet iter then
      (cTg (K.blk scope) tg).bind fun t => (cIt r K iter).bind fun it => (cIfs rb ifs).bind fun cond => (rb elt).bind fun e =>
          if (tgSlots t).all ((ownF K.N scope.names).map (·.2)).contains then some (.comp e t it cond ((ownF K.N scope.names).map (·.2))) else none
    else none
  | _ => none
/-- [x for x in d if d[x] == z], d a tree's name -/
def keqOf (elt : Expr) (gens : List Comprehension) : Option (Str × Str × Str) := match elt, gens with
  | .Name x _, [⟨.Name x1 _, .Name y _, [.Compare (.Subscript (.Name y1 _) (.Name x2 _) _) [.Eq] [.Name z _] _], 0⟩] => if x = x1 ∧ x = x2 ∧ y = y1 then some (x, y, z) else none
  | _, _ => none
def cKeq (K : Kx) (elt : Expr) (gens : List Comprehension) (scope : Scope) : Option Ex := if K.dep.isEmpty then none else (keqOf elt gens).bind fun (q : Str × Str × Str) =>
  if blkB K scope && visB K q.2.1 && okN q.2.1 && okN q.1 && okN q.2.2 && stoB (K.blk scope) q.1 && visB (K.blk scope) q.1 && visB (K.blk scope) q.2.1 && visB (K.blk scope) q.2.2 then
    (ixF q.1 K.N).bind fun jx => (ixF q.2.1 K.N).bind fun i => (ixF q.2.2 K.N).bind fun k =>
      if K.dep.contains i && ((ownF K.N scope.names).map (·.2)).contains jx && !((ownF K.N scope.names).map (·.2)).contains i && !((ownF K.N scope.names).map (·.2)).contains k then some (.keq jx i (.var k)) else none
  else none
def biOf (x : Str) : Option Bi :=
  if x = "len" then some .len else if x = "list" then some .list else if x = "tuple" then some .tuple else if x = "sorted" then some .sorted else if x = "sum" then some .sum
  else if x = "max" then some .max else if x = "min" then some .min else if x = "all" then some .all else if x = "any" then some .any else none
def tyOf (M : Nm) (x : Str) : Option Ty :=
  if x = "int" then some .int else if x = "bool" then some .bool else if x = "list" then some .list else if x = "tuple" then some .tuple else if x = "str" then some .str
  else if M.cls.contains x then some (.cls x) else none
def setArg : List Expr → Option Expr
  | [.Call (.Name y _) [a] [] _] => if y = "set" then some a else none
  | _ => none
def isiArg : List Expr → Option (Expr × Str)
  | [e, .Name y _] => some (e, y)
  | _ => none
def cCallN (M : Nm) (r : Expr → Option Ex) (K : Kx) (x : Str) (as : List Expr) : Option Ex :=
  if gloB K x then
    (if x = "len" ∧ (setArg as).isSome then (setArg as).bind fun a => if notStar a && gloB K "set" then (r a).map fun y => .bi .lenset (.cons y .nil) else none
    else if x = "isinstance" then (isiArg as).bind fun (p : Expr × Str) => if notStar p.1 && gloB K p.2 then (tyOf M p.2).bind fun t => (r p.1).map fun y => .bi (.isi t) (.cons y .nil) else none
    else if M.fns.contains x then (cL r as).map fun xs => .call (.fn x) xs
    else if M.mks.contains x then (cL r as).map fun xs => .call (.mk x) xs
    else match biOf x, as with
      | some b, _ :: _ => (cL r as).map fun xs => .bi b xs
      | _, _ => none)
  else none
def cCallM (M : Nm) (r : Expr → Option Ex) (o : Expr) (m : Str) (as : List Expr) (apos pos : Pos) : Option Ex :=
  if attrPlain o && apos.endLine == pos.line && decide (as.length < 29) then
    (if M.mth.contains m then (r o).bind fun x => (cL r as).map fun xs => .mth x m xs
    else if m = "count" then (match as with
      | [a] => if notStar a then (r o).bind fun x => (r a).map fun y => .rcv .count x (.cons y .nil) else none
      | _ => none)
    else none)
  else none
def cSub (r : Expr → Option Ex) (o i : Expr) : Option Ex := match i with
  | .Slice none none (some (.UnaryOp .USub (.Constant (.int 1) _ _) _)) _ => (r o).map .rev
  | .Slice (some lo) none none _ => (r o).bind fun x => (r lo).map fun y => .slc x y (.con .non)
  | .Slice none (some hi) none _ => (r o).bind fun x => (r hi).map fun y => .slc x (.con .non) y
  | i => if notSlice i then (r o).bind fun x => (r i).map fun y => .idx x y else none
def cE1 (M : Nm) (rec : Kx → Expr → Option Ex) (K : Kx) : Expr → Option Ex
  | .Name x _ => cName M K x
  | .Constant c _ _ => cCon c
  | .BinOp a op b _ => cBin op (rec K a) (rec K b)
  | .UnaryOp op a _ => cUn op a (rec K a)
  | .BoolOp op es _ => cBool (rec K) op es
  | .IfExp c a b _ => if tst c then (rec K c).bind fun x => (rec K a).bind fun y => (rec K b).map fun z => .ite x y z else none
  | .Compare a ops bs _ => cCmp (rec K) a ops bs
  | .Dict [] [] _ => some .dic0
  | .List es _ => (cL (rec K) es).bind fun x => if exsLen x ≤ lim then some (.lst x) else none
  | .Tuple es _ _ => (cL (rec K) es).bind fun x => if exsLen x ≤ lim then some (.tup x) else none
  | .ListComp elt gens scope _ => match cKeq K elt gens scope with
    | some e => some e
    | none => cComp (rec K) (rec (K.blk scope)) K elt gens scope
  | .Call (.Name x _) as [] _ => cCallN M (rec K) K x as
  | .Call (.Attribute o m apos) as [] pos => cCallM M (rec K) o m as apos pos
  | .Attribute o f _ => if attrPlain o && M.att.contains f then (rec K o).map fun x => .att x f else none
  | .Subscript o i _ => cSub (rec K) o i
  | _ => none
def cE (M : Nm) : Nat → Kx → Expr → Option Ex
  | 0 => fun _ _ => none
  | n + 1 => cE1 M (cE M n)

/-! ### what is known of the names -/
structure GoodB (M : Nm) (T : Tb) (C : Fid → List D → R (D × Bool)) (G : GT) (n : Nat) (P : Program) (w : World) (mg : Str → Option Value) (base : Heap) : Prop where
  con : ∀ x ∈ M.con, ∃ d v u, T.con x = some d ∧ mg x = some u ∧ RelV v u ∧ ∀ F H, Post G F H H (mkI d) v
  fns : ∀ x ∈ M.fns, ∃ f fd ps, FnOk P w G.K mg base (L2.CX P w) n f fd ps (spC G C (.fn x)) ∧ mg x = some (.ref f) ∧ PySem.W.keepIn G.K (.ref f) = true ∧ Binds G.K fd ps []
  mks : ∀ c ∈ M.mks, ∃ C' k Ca f fd ps, k + 1 ≤ n ∧ (∀ ds, C (.mk c) ds = C' (.ini c) (.obj c [] :: ds)) ∧ G.cls c = some Ca ∧ Mk G.K Ca f ∧ FnOk P w G.K mg base (L2.CX P w) k f fd ps (spI G C' c) ∧ mg c = some (.ref Ca) ∧ Binds G.K fd ps []
  sup : ∀ c ∈ M.sup, ∃ Ca f fd ps mc, SupF G.K Ca f mc ∧ FnOk P w G.K mg base (L2.CX P w) n f fd ps (spI G C c) ∧ mg c = some (.ref Ca) ∧ Binds G.K fd ps []
  cls : ∀ c ∈ M.cls, ∃ Ca, G.cls c = some Ca ∧ mg c = some (.ref Ca)
  isi : ∀ c Ca, G.cls c = some Ca → IsF T G c Ca
  att : ∀ f ∈ M.att, ∀ c Ca, G.cls c = some Ca → NoAttr G.K Ca f
  mth : ∀ m ∈ M.mth, (∀ c Ca b, G.cls c = some Ca → T.mro c m = some b → MethF T C G P w mg base (L2.CX P w) n m c b Ca) ∧ ∃ c b, T.mro c m = some b
  fxs : ∀ p ∈ M.fxs, ∃ f fd ps, FnOk P w G.K mg base (L2.CX P w) n f fd ps (spX G C (.fx p.1 p.2) p.2) ∧ mg p.1 = some (.ref f) ∧ PySem.W.keepIn G.K (.ref f) = true ∧ Binds G.K fd ps []
  mxs : ∀ p ∈ M.mxs, (∀ c Ca b, G.cls c = some Ca → T.mro c p.1 = some b → MethX T C G P w mg base (L2.CX P w) n p.1 c b p.2 Ca) ∧ ∃ c b, T.mro c p.1 = some b
  hC : ∀ m c b, T.mro c m = some b → ∃ Ca, G.cls c = some Ca
  blt : ∀ x ∈ blts, mg x = none
  exc : ∀ c ∈ M.exc, ∃ Ca Bn newId initId bmB, ExcBaseFacts Bn newId initId bmB ∧ PySem.W.excIn G.K Ca bmB newId = true ∧ mg c = some (.ref Ca) ∧ PySem.W.keepIn G.K (.ref Ca) = true ∧ G.ecls c = some Ca ∧ ∀ X : Cx, X.K = G.K → Raises X (.ref Ca)
structure Good (M : Nm) (T : Tb) (C : Fid → List D → R (D × Bool)) (G : GT) (n : Nat) (Y : XK) (K : Kx) (X : Cx) : Prop where
  b : GoodB M T C G n X.prog X.w X.mg X.base
  hK : X.K = G.K
  N : X.N = K.N
  nd : K.N.Nodup
  sc : X.env.scope = K.sc
  kind : K.sc.kind = .function
  fn : ∀ x, K.fn x = true → X.fn x = true
  calm : X.calm = true
  room : Room n X.A
  px : Passes (L2.CX X.prog X.w) X Y
section
variable {M : Nm} {T : Tb} {C : Fid → List D → R (D × Bool)} {G : GT} {n : Nat} {Y : XK} {K : Kx} {X : Cx}
theorem pass_Y0 {X : Cx} : Passes (L2.CX X.prog X.w) X Y0 := fun pins σ H s e s' I c => by
  obtain ⟨_, _, _, _, _, _, _, _, _, _, _, _, z⟩ := c
  exact z.elim
/-- a block within -/
theorem Good.blk (g : Good M T C G n Y K X) {scope : Scope} (hb : blkB K scope = true) (s : Shared) (H : Hp) (Ka : Addr) (cs : List (Str × Addr)) (fp : List Addr) : Good M T C G n Y0 (K.blk scope) (X.blk s H scope (compEnvC scope cs Ka X.env) fp) where
  b := g.b
  hK := g.hK
  N := g.N
  nd := g.nd
  sc := by show relS scope X.env.scope = relS scope K.sc; rw [g.sc]
  kind := by
    unfold blkB at hb
    simp only [Bool.and_eq_true, beq_iff_eq] at hb
    exact hb.1.1
  fn := fun x h => h
  calm := g.calm
  room := g.room
  px := pass_Y0
theorem Good.vis (g : Good M T C G n Y K X) {x : Str} (h : visB K x = true) : Vis X.env.scope x := by
  rw [g.sc]
  unfold visB at h
  simp only [Bool.or_eq_true, beq_iff_eq] at h
  rcases h with (h | h) | h
  · exact .inl h
  · exact .inr (.inl h)
  · exact .inr (.inr h)
theorem Good.glo (g : Good M T C G n Y K X) {x : Str} (h : gloB K x = true) : L2.Gl X x ∧ (x == ("__debug__" : Str)) = false := by
  unfold gloB at h
  simp only [Bool.and_eq_true, beq_iff_eq, Bool.not_eq_true'] at h
  refine ⟨?_, h.2⟩
  show X.env.scope.names.lookup x = _
  rw [g.sc]
  exact h.1
theorem Good.sto (g : Good M T C G n Y K X) {x : Str} (h : stoB K x = true) : Loc X.env.scope x ∧ (X.fn x = true ∨ X.env.scope.names.lookup x = some .local) := by
  unfold stoB locB at h
  simp only [Bool.and_eq_true, Bool.or_eq_true, beq_iff_eq] at h
  rw [g.sc]
  exact ⟨h.1, h.2.imp (g.fn x) id⟩
theorem Good.ix (g : Good M T C G n Y K X) {x : Str} {i : Nat} (h : ixF x K.N = some i) : X.N[i]? = some x := by rw [g.N]; exact ixF_get h
theorem Good.nodup (g : Good M T C G n Y K X) : X.N.Nodup := by rw [g.N]; exact g.nd
theorem okN_1 {x : Str} (h : okN x = true) : (x == ("__debug__" : Str)) = false ∧ (x == ("__classdict__" : Str)) = false := by
  unfold okN at h
  simp only [Bool.and_eq_true, Bool.not_eq_true'] at h
  exact h

/-- a compiler of expressions that is sound -/
def Snd (M : Nm) (T : Tb) (C : Fid → List D → R (D × Bool)) (G : GT) (n : Nat) (K : Kx) (r : Expr → Option Ex) : Prop := ∀ e ee, r e = some ee → ∀ X Y, Good M T C G n Y K X → PE X e (tP T C G Y ee) ∧ (tst e = true → PT X e (tT T C G Y ee))
variable {r : Expr → Option Ex}
theorem s_name {x : Str} {p : Pos} {ee : Ex} (h : cName M K x = some ee) (g : Good M T C G n Y K X) : PE X (.Name x p) (tP T C G Y ee) := by
  unfold cName at h
  split at h
  · rename_i h1
    rw [Bool.and_eq_true] at h1
    obtain ⟨i, e, rfl⟩ := Option.map_eq_some_iff.mp h
    exact ve_var (g.ix e) (g.vis h1.1) (okN_1 h1.2).1 (okN_1 h1.2).2
  · split at h
    · rename_i h1
      rw [Bool.and_eq_true] at h1
      cases h
      obtain ⟨d, v, u, h3, h4, h5, h6⟩ := g.b.con x (by simpa using h1.2)
      exact ve_glb h3 (g.glo h1.1).1 h4 h5 (g.glo h1.1).2 h6
    · cases h
theorem s_con {c : Const} {j : Nat} {p : Pos} {ee : Ex} (h : cCon c = some ee) : PE X (.Constant c j p) (tP T C G Y ee) := by
  unfold cCon at h
  split at h <;> cases h
  · exact ve_int
  · exact ve_bl
  · exact ve_non
  · exact ve_str
theorem s_bin {op : Operator} {a b : Expr} {p : Pos} {ee : Ex} (hr : Snd M T C G n K r) (h : cBin op (r a) (r b) = some ee) (g : Good M T C G n Y K X) : PE X (.BinOp a op b p) (tP T C G Y ee) := by
  unfold cBin at h
  split at h
  · rename_i ho
    obtain ⟨x, e1, h⟩ := Option.bind_eq_some_iff.mp h
    obtain ⟨y, e2, rfl⟩ := Option.map_eq_some_iff.mp h
    have h1 := (hr _ _ e1 X Y g).1
    have h2 := (hr _ _ e2 X Y g).1
    cases op <;> first | (cases ho; done) | skip
    · exact ve_add h1 h2
    · exact ve_sub h1 h2
    · exact ve_mul h1 h2
    · exact ve_mod h1 h2
    · exact ve_pow h1 h2
    · exact ve_shl h1 h2
    · exact ve_shr h1 h2
    · exact ve_bor h1 h2
    · exact ve_bxor h1 h2
    · exact ve_band h1 h2
    · exact ve_fdiv h1 h2
  · cases h
theorem s_un {op : UnaryOp} {a : Expr} {p : Pos} {ee : Ex} (hr : Snd M T C G n K r) (h : cUn op a (r a) = some ee) (g : Good M T C G n Y K X) : PE X (.UnaryOp op a p) (tP T C G Y ee) ∧ PT X (.UnaryOp op a p) (tT T C G Y ee) := by
  unfold cUn at h
  split at h
  · obtain ⟨x, e1, rfl⟩ := Option.map_eq_some_iff.mp h
    have := ve_neg (pos := p) (hr _ _ e1 X Y g).1
    exact ⟨this, vt_val this fun _ => rfl⟩
  · obtain ⟨x, e1, rfl⟩ := Option.map_eq_some_iff.mp h
    have := ve_inv (pos := p) (hr _ _ e1 X Y g).1
    exact ⟨this, vt_val this fun _ => rfl⟩
  · split at h
    · rename_i ht
      obtain ⟨x, e1, rfl⟩ := Option.map_eq_some_iff.mp h
      exact ⟨ve_not (hr _ _ e1 X Y g).1, vt_not ((hr _ _ e1 X Y g).2 ht)⟩
    · cases h
  · cases h
theorem s_bool {op : BoolOp} {p : Pos} (hr : Snd M T C G n K r) (g : Good M T C G n Y K X) : ∀ {es : List Expr} {ee : Ex}, cBool r op es = some ee → PE X (.BoolOp op es p) (tP T C G Y ee) ∧ PW X (.BoolOp op es p) (tT T C G Y ee)
  | [], _, h => by simp [cBool] at h
  | [a], ee, h => by
    unfold cBool at h
    split at h
    · rename_i ht
      have q := hr _ _ h X Y g
      refine ⟨pe_one q.1, ?_⟩
      cases op with
      | And => exact vt_and1 (q.2 ht)
      | Or => exact vt_or1 (q.2 ht)
    · cases h
  | a :: b :: rest, ee, h => by
    unfold cBool at h
    split at h
    · rename_i ht
      obtain ⟨x, e1, h⟩ := Option.bind_eq_some_iff.mp h
      obtain ⟨y, e2, e3⟩ := Option.map_eq_some_iff.mp h
      have q := hr _ _ e1 X Y g
      have ih := s_bool (p := p) hr g (es := b :: rest) e2
      cases op with
      | And => subst e3; exact ⟨ve_and q.1 ih.1, vt_and (q.2 ht) ih.2⟩
      | Or => subst e3; exact ⟨ve_or q.1 ih.1, vt_or (q.2 ht) ih.2⟩
    · cases h
theorem Good.un65 (g : Good M T C G n Y K X) : X.A.units + 65 < cLine := by
  have := g.room.un
  have e : cLine = 9900 := by first | rfl | decide
  omega
end
end FS

/-! FS15: that the compiler of expressions is sound. -/
namespace FS
open PySem L2

section
variable {T : Tb} {C : Fid → List D → R (D × Bool)} {G : GT} {Y : XK} {X : Cx} {a b c : Expr} {ea eb ec : Ex} {pos : Pos}
theorem vt_chn {op op' : CmpOp} (hK : X.K = G.K) (hu : X.A.units + 65 < cLine) (hm : lastMarks [op, op'] [b, c] = false) (ha : PE X a (tP T C G Y ea)) (hb : PE X b (tP T C G Y eb)) (hc : PE X c (tP T C G Y ec)) : PT X (.Compare a [op, op'] [b, c] pos) (tT T C G Y (.chn op op' ea eb ec)) := by
  refine PT_weak (pt_chain (op_cmp hu op) (op_cmp hu op') ha hb hc hm) fun σ H Q ⟨F, E, S, h⟩ => ?_
  simp only [ev] at h
  show tChain (rCmp X.K op) (rCmp X.K op') (tP T C G Y ea) (tP T C G Y eb) (tP T C G Y ec) σ H fun x H' => ∃ k, x = .bl k ∧ Q k H'
  refine tP_bind S h fun x v H1 P1 S1 h1 => tP_bind S1 h1 fun y u H2 P2 S2 h2 => ?_
  rw [R.sat_bind] at h2
  obtain ⟨k, e, q⟩ := sat_of h2 (cmp_ne op _ _)
  rw [hK]
  refine cmV op F H2 x y v u k _ (P1.val.same P2.same) P2.val e ⟨k, rfl, ?_⟩
  cases k with
  | false =>
    rw [if_neg Bool.false_ne_true]
    rw [if_neg Bool.false_ne_true] at q
    obtain ⟨k', e', q⟩ := q
    simp only [mkI, D.bl.injEq] at e'
    subst e'
    exact ⟨_, rfl, q _ (P1.same.trans P2.same)⟩
  | true =>
    rw [if_pos rfl]
    rw [if_pos rfl] at q
    refine tP_bind S2 q fun z w H3 P3 S3 h3 => ?_
    rw [R.sat_bind] at h3
    obtain ⟨k', e', k2, e2, q'⟩ := sat_of h3 (cmp_ne op' _ _)
    simp only [mkI, D.bl.injEq] at e2
    subst e2
    exact cmV op' F H3 y z u w k' _ (P2.val.same P3.same) P3.val e' ⟨k', rfl, q' _ ((P1.same.trans P2.same).trans P3.same)⟩
end
section
variable {M : Nm} {T : Tb} {C : Fid → List D → R (D × Bool)} {G : GT} {n : Nat} {Y : XK} {K : Kx} {X : Cx} {r rb : Expr → Option Ex} {pos p apos : Pos} {ee : Ex}
theorem s_cmp {a : Expr} {ops : List CmpOp} {bs : List Expr} (hr : Snd M T C G n K r) (h : cCmp r a ops bs = some ee) (g : Good M T C G n Y K X) : PE X (.Compare a ops bs p) (tP T C G Y ee) ∧ PT X (.Compare a ops bs p) (tT T C G Y ee) := by
  unfold cCmp at h
  split at h
  · split at h
    · cases h
    · rename_i hm
      obtain ⟨x, e1, h⟩ := Option.bind_eq_some_iff.mp h
      obtain ⟨y, e2, rfl⟩ := Option.map_eq_some_iff.mp h
      have h1 := (hr _ _ e1 X Y g).1
      have h2 := (hr _ _ e2 X Y g).1
      have hm := Bool.eq_false_iff.mpr hm
      exact ⟨ve_cmp g.hK g.un65 hm h1 h2, vt_cmp g.hK g.un65 hm h1 h2⟩
  · split at h
    · cases h
    · rename_i hm
      obtain ⟨x, e1, h⟩ := Option.bind_eq_some_iff.mp h
      obtain ⟨y, e2, h⟩ := Option.bind_eq_some_iff.mp h
      obtain ⟨z, e3, rfl⟩ := Option.map_eq_some_iff.mp h
      have h1 := (hr _ _ e1 X Y g).1
      have h2 := (hr _ _ e2 X Y g).1
      have h3 := (hr _ _ e3 X Y g).1
      have hm := Bool.eq_false_iff.mpr hm
      exact ⟨ve_chn g.hK g.un65 hm h1 h2 h3, vt_chn g.hK g.un65 hm h1 h2 h3⟩
  · cases h
theorem s_list (hr : Snd M T C G n K r) (g : Good M T C G n Y K X) : ∀ {es : List Expr} {ees : Exs}, cL r es = some ees → PA X es (tA T C G Y ees) ∧ es.all notStar = true
  | [], _, h => by
    simp only [cL] at h
    cases h
    exact ⟨va_nil, rfl⟩
  | e :: es, ees, h => by
    unfold cL at h
    split at h
    · rename_i hs
      obtain ⟨x, e1, h⟩ := Option.bind_eq_some_iff.mp h
      obtain ⟨y, e2, rfl⟩ := Option.map_eq_some_iff.mp h
      have ih := s_list hr g e2
      exact ⟨va_cons hs (hr _ _ e1 X Y g).1 ih.1, by rw [List.all_cons, hs, ih.2]; rfl⟩
    · cases h
/-! ### comprehensions -/
theorem fold_no {e : Expr} {env : PySem.Env} {x : Value} (h : isSet e = false) : foldedSetIterable e env x = pure x := by
  cases e <;> first | rfl | cases h
theorem s_tg {tg : Expr} {t : Tg} (h : cTg K tg = some t) (g : Good M T C G n Y K X) : PG X tg (tG G t) := by
  unfold cTg at h
  split at h
  · split at h
    · rename_i hs
      obtain ⟨i, e, rfl⟩ := Option.map_eq_some_iff.mp h
      exact vg_name g.nodup (g.ix e) (g.sto hs).1 (g.sto hs).2
    · cases h
  · split at h
    · rename_i hs
      rw [Bool.and_eq_true] at hs
      obtain ⟨i, e1, h⟩ := Option.bind_eq_some_iff.mp h
      obtain ⟨j, e2, rfl⟩ := Option.map_eq_some_iff.mp h
      exact vg_tup2 g.hK g.calm g.nodup (g.ix e1) (g.sto hs.1).1 (g.sto hs.1).2 (g.ix e2) (g.sto hs.2).1 (g.sto hs.2).2
    · cases h
  · cases h
theorem blt_mem {x : Str} (g : Good M T C G n Y K X) (h : x ∈ blts) : X.mg x = none := g.b.blt x h
theorem s_it {iter : Expr} {it : It} {tg : Expr} (hr : Snd M T C G n K r) (h : cIt r K iter = some it) (g : Good M T C G n Y K X) : PI X tg iter (tI T C G Y it) := by
  unfold cIt at h
  split at h
  · split at h
    · rename_i hx
      subst hx
      split at h
      · rename_i hg
        have gl := g.glo hg
        have gm := blt_mem g (x := "range") (by decide)
        split at h
        · split at h
          · rename_i hs
            obtain ⟨y, e1, rfl⟩ := Option.map_eq_some_iff.mp h
            exact vi_rng1 gl.1 gm hs (hr _ _ e1 X Y g).1
          · cases h
        · split at h
          · rename_i hs
            rw [Bool.and_eq_true] at hs
            obtain ⟨x, e1, h⟩ := Option.bind_eq_some_iff.mp h
            obtain ⟨y, e2, rfl⟩ := Option.map_eq_some_iff.mp h
            exact vi_rng2 gl.1 gm hs.1 hs.2 (hr _ _ e1 X Y g).1 (hr _ _ e2 X Y g).1
          · cases h
        · cases h
      · cases h
    · obtain ⟨x, e1, rfl⟩ := Option.map_eq_some_iff.mp h
      exact vi_seq g.hK (hr _ _ e1 X Y g).1
  · obtain ⟨x, e1, rfl⟩ := Option.map_eq_some_iff.mp h
    exact vi_seq g.hK (hr _ _ e1 X Y g).1
theorem ownF_ix {N : List Str} : ∀ {l : List (Str × NameKind)}, ∀ q ∈ ownF N l, N[q.2]? = some q.1
  | [], q, h => by simp [ownF] at h
  | (x, k) :: l, q, h => by
    unfold ownF at h
    split at h
    · split at h
      · rename_i i e
        rcases List.mem_cons.mp h with h | h
        · subst h
          exact ixF_get e
        · exact ownF_ix q h
      · exact ownF_ix q h
    · exact ownF_ix q h
theorem ownF_all {N : List Str} : ∀ {l : List (Str × NameKind)}, ∀ y ∈ l, y.2 = .local ∨ y.2 = .cell → y.1 ∈ (ownF N l).map (·.1) ∨ y.1 ∉ N
  | [], y, h, _ => by simp at h
  | (x, k) :: l, y, h, hk => by
    have up : (y.1 ∈ (ownF N l).map (·.1) ∨ y.1 ∉ N) → (y.1 ∈ (ownF N ((x, k) :: l)).map (·.1) ∨ y.1 ∉ N) := fun z => by
      refine z.imp (fun z => ?_) id
      unfold ownF
      split
      · split
        · exact List.mem_cons_of_mem _ z
        · exact z
      · exact z
    rcases List.mem_cons.mp h with h | h
    · subst h
      unfold ownF
      have : (k == NameKind.local || k == NameKind.cell) = true := by
        rcases hk with z | z <;> simp only at z <;> subst z <;> rfl
      rw [if_pos this]
      cases e : ixF x N with
      | none => exact .inr (ixF_none e)
      | some i => exact .inl (by simp)
    · exact up (ownF_all y h hk)
theorem blk_ok {scope : Scope} (hb : blkB K scope = true) (g : Good M T C G n Y K X) : BlkOk X.N X.env.scope scope (ownF K.N scope.names) := by
  unfold blkB at hb
  simp only [Bool.and_eq_true, beq_iff_eq, List.all_eq_true, Bool.or_eq_true, Bool.not_eq_true', beq_eq_false_iff_ne] at hb
  obtain ⟨⟨h1, h2⟩, h3⟩ := hb
  rw [g.N, g.sc]
  refine ⟨h1, h2, ownF_ix, fun y hy e => ?_, ownF_all⟩
  rcases h3 y hy with (z | z) | z
  · exact absurd e z
  · exact .inl z
  · exact .inr z
theorem s_ifs {ifs : List Expr} {ec : Ex} (hr : Snd M T C G n K rb) (h : cIfs rb ifs = some ec) (g : Good M T C G n Y K X) : PTv T C G Y X ifs ec := by
  unfold cIfs at h
  split at h
  · cases h
    exact vts_nil
  · split at h
    · rename_i ht
      exact vts_one ((hr _ _ h X Y g).2 ht)
    · cases h
  · cases h
/-- what a comprehension wants -/
structure CompF (M : Nm) (T : Tb) (C : Fid → List D → R (D × Bool)) (G : GT) (n : Nat) (K : Kx) (elt tg iter : Expr) (ifs : List Expr) (scope : Scope) (e : Ex) (t : Tg) (it : It) (cond : Ex) : Prop where
  bl : blkB K scope = true
  st : isSet iter = false
  it : ∀ X Y, Good M T C G n Y K X → PI X tg iter (tI T C G Y it)
  ow : ∀ j ∈ tgSlots t, j ∈ (ownF K.N scope.names).map (·.2)
  tg : ∀ X Y, Good M T C G n Y (K.blk scope) X → PG X tg (tG G t)
  cd : ∀ X Y, Good M T C G n Y (K.blk scope) X → PTv T C G Y X ifs cond
  el : ∀ X Y, Good M T C G n Y (K.blk scope) X → PE X elt (tP T C G Y e)
theorem s_compF {elt : Expr} {gens : List Comprehension} {scope : Scope} (hr : Snd M T C G n K r) (hb : Snd M T C G n (K.blk scope) rb) (h : cComp r rb K elt gens scope = some ee) : ∃ tg iter ifs e t it cond, gens = [⟨tg, iter, ifs, 0⟩] ∧ ee = .comp e t it cond ((ownF K.N scope.names).map (·.2)) ∧ CompF M T C G n K elt tg iter ifs scope e t it cond := by
  unfold cComp at h
  split at h
  · rename_i tg iter ifs
    split at h
    · rename_i h1
      simp only [Bool.and_eq_true, Bool.not_eq_true'] at h1
      obtain ⟨t, e1, h⟩ := Option.bind_eq_some_iff.mp h
      obtain ⟨it, e2, h⟩ := Option.bind_eq_some_iff.mp h
      obtain ⟨cond, e3, h⟩ := Option.bind_eq_some_iff.mp h
      obtain ⟨e, e4, h⟩ := Option.bind_eq_some_iff.mp h
      split at h
      · rename_i h2
        cases h
        refine ⟨tg, iter, ifs, e, t, it, cond, rfl, rfl, h1.1, h1.2, fun X Y g => s_it hr e2 g, fun j hj => ?_, fun X Y g => s_tg e1 g, fun X Y g => s_ifs hb e3 g, fun X Y g => (hb _ _ e4 X Y g).1⟩
        simpa using (List.all_eq_true.mp h2) j hj
      · cases h
    · cases h
  · cases h
/-- a comprehension's parts -/
theorem CompF.pl {elt tg iter : Expr} {ifs : List Expr} {scope : Scope} {e : Ex} {t : Tg} {it : It} {cond : Ex} (F : CompF M T C G n K elt tg iter ifs scope e t it cond) (g : Good M T C G n Y K X) : PL X (.ListComp elt [⟨tg, iter, ifs, 0⟩] scope p) (tP T C G Y (.comp e t it cond ((ownF K.N scope.names).map (·.2)))) ∧ PL X (.ListComp elt [⟨tg, iter, ifs, 0⟩] scope p) (tTr T C G Y (.comp e t it cond ((ownF K.N scope.names).map (·.2)))) :=
  pl_comp g.calm g.nodup (F.it X Y g) (blk_ok F.bl g) F.ow (fun s H Ka cs fp => F.tg _ _ (g.blk F.bl s H Ka cs fp)) (fun s H Ka cs fp => F.cd _ _ (g.blk F.bl s H Ka cs fp)) (fun s H Ka cs fp => F.el _ _ (g.blk F.bl s H Ka cs fp)) fun x => fold_no F.st
theorem s_comp {elt : Expr} {gens : List Comprehension} {scope : Scope} (hr : Snd M T C G n K r) (hb : Snd M T C G n (K.blk scope) rb) (h : cComp r rb K elt gens scope = some ee) (g : Good M T C G n Y K X) : PL X (.ListComp elt gens scope p) (tP T C G Y ee) := by
  obtain ⟨tg, iter, ifs, e, t, it, cond, rfl, rfl, F⟩ := s_compF hr hb h
  exact (F.pl g).1
theorem s_keq {elt : Expr} {gens : List Comprehension} {scope : Scope} (h : cKeq K elt gens scope = some ee) (g : Good M T C G n Y K X) : PL X (.ListComp elt gens scope p) (tP T C G Y ee) := by
  unfold cKeq at h
  split at h
  · cases h
  obtain ⟨⟨x, y, z⟩, e1, h'⟩ := Option.bind_eq_some_iff.mp h
  clear h
  unfold keqOf at e1
  split at e1
  rotate_left
  · cases e1
  split at e1
  rotate_left
  · cases e1
  rename_i hxy
  obtain ⟨rfl, rfl, rfl⟩ := hxy
  cases e1
  have h := h'
  clear h'
  split at h
  rotate_left
  · cases h
  rename_i hb
  simp only [Bool.and_eq_true] at hb
  obtain ⟨⟨⟨⟨⟨⟨⟨⟨b1, b2⟩, b3⟩, b4⟩, b5⟩, b6⟩, b7⟩, b8⟩, b9⟩ := hb
  obtain ⟨jx, e2, h⟩ := Option.bind_eq_some_iff.mp h
  obtain ⟨i, e3, h⟩ := Option.bind_eq_some_iff.mp h
  obtain ⟨k, e4, h⟩ := Option.bind_eq_some_iff.mp h
  split at h
  rotate_left
  · cases h
  rename_i hc
  simp only [Bool.and_eq_true, Bool.not_eq_true', List.contains_eq_mem, decide_eq_true_eq, decide_eq_false_iff_not] at hc
  obtain ⟨⟨⟨_, c1⟩, c2⟩, c3⟩ := hc
  cases h
  have gb := fun s H Ka cs fp => g.blk b1 s H Ka cs fp
  refine pl_keq g.hK g.un65 g.calm g.nodup (blk_ok b1 g) c1 c2 c3 (pe_var (g.ix e3) (g.vis b2) (okN_1 b3).1 (okN_1 b3).2) (fun s H Ka cs fp => pg_name (gb s H Ka cs fp).nodup ((gb s H Ka cs fp).ix e2) ((gb s H Ka cs fp).sto b6).1 ((gb s H Ka cs fp).sto b6).2)
    (fun s H Ka cs fp p => pe_var ((gb s H Ka cs fp).ix e2) ((gb s H Ka cs fp).vis b7) (okN_1 b4).1 (okN_1 b4).2) (fun s H Ka cs fp p => pe_var ((gb s H Ka cs fp).ix e3) ((gb s H Ka cs fp).vis b8) (okN_1 b3).1 (okN_1 b3).2) fun s H Ka cs fp p => pe_var ((gb s H Ka cs fp).ix e4) ((gb s H Ka cs fp).vis b9) (okN_1 b5).1 (okN_1 b5).2
end
end FS

/-! FS16: calls, methods, items: the compiler of expressions whole. -/
namespace FS
open PySem L2

theorem star_all {pos : Pos} {env : PySem.Env} : ∀ {es : List Expr}, es.all notStar = true → (backTo pos (starEach es env)).all (fun x => !x.1) = true
  | [], _ => rfl
  | e :: es, h => by
    simp only [List.all_cons, Bool.and_eq_true] at h
    rw [star_cons h.1]
    show (true && (backTo pos (starEach es env)).all (fun x => !x.1)) = true
    rw [star_all h.2]
    rfl
/-- a call of a method, as it is run -/
theorem mth_eval {o : Expr} {m : Str} {apos pos : Pos} {es : List Expr} {env : PySem.Env} (hb : attrPlain o = true) (hs : es.all notStar = true) (hn : es.length < 29) (hl : (apos.endLine == pos.line) = true) : eval (.Call (.Attribute o m apos) es [] pos) env = (do
      let ov ← eval o env
      standAt apos.atName
      let (f, first) ← holding [ov] (getMethod ov m (do return (← importBound o env).getD true))
      callWith pos f first (backTo pos (starEach es env)) (backToKw pos (keywordEach [] env))) := by
  have few : methodCallForm (es.length + 0) (backTo pos (starEach es env)) (backToKw pos (keywordEach [] env)) = true := by
    unfold methodCallForm
    rw [star_all hs]
    simp only [Bool.true_and, Bool.and_eq_true, decide_eq_true_eq]
    exact ⟨rfl, by show es.length + 0 + 0 < 30; omega⟩
  show (do
    let ov ← attributeBase o m env (eval o env)
    standAt apos.atName
    methodCall o m apos pos env ov (es.length + 0) (backTo pos (starEach es env)) (backToKw pos (keywordEach [] env))) = _
  rw [attr_base hb]
  unfold methodCall
  rw [few]
  unfold calleeOf methodCallPos
  rw [hl]
  rfl

section
variable {M : Nm} {T : Tb} {C : Fid → List D → R (D × Bool)} {G : GT} {n : Nat} {Y : XK} {K : Kx} {X : Cx} {r rb : Expr → Option Ex} {e : Expr} {pos p apos : Pos} {ee : Ex}
/-- o.count(e) -/
theorem ve_count {o e : Expr} {eo ea : Ex} (hK : X.K = G.K) (hb : attrPlain o = true) (hs : notStar e = true) (hl : (apos.endLine == pos.line) = true) (ho : PE X o (tP T C G Y eo)) (he : PE X e (tP T C G Y ea)) : PE X (.Call (.Attribute o "count" apos) [e] [] pos) (tP T C G Y (.rcv .count eo (.cons ea .nil))) := by
  refine PE_weak (pe_bm PySem.F.plainAttrs_list PySem.F.slot_list_count PySem.F.type_list_count mt_lcount ho (pa_cons he pa_nil (star_cons hs)) (attr_base hb) (by rw [star_cons hs]; rfl) hl (star_cons hs) rfl) fun σ H Q ⟨F, E, S, h⟩ => ?_
  simp only [ev, evl] at h
  show tP T C G Y eo σ H fun x H1 => tyV X.K "list" x H1 ∧ tP T C G Y ea σ H1 fun y H2 => rCntI X.K x [y] H2 Q
  refine tP_bind S h fun x v H1 P1 S1 h1 => ?_
  obtain ⟨d, f⟩ := x
  cases d with
  | lst ds =>
    have h1 : ((ev T C ea E).bind fun y => biV T .count [(.lst ds, f), y]).sat (fun x => ∀ v H', Post G F H H' x v → Q v H') (wish G Y H1) := by
      simp only [rcvB, if_true] at h1
      cases h2 : ev T C ea E with
      | bad => rw [h2] at h1; exact h1
      | exc c => rw [h2] at h1; exact h1
      | ok y => rw [h2] at h1; exact h1
    obtain ⟨l, vs, rfl, q2, q3, q4⟩ := P1.val.lst
    refine ⟨.inl ⟨rfl, _, .inl (.inl q2)⟩, tP_bind S1 h1 fun y u H2 P2 S2 h2 => ?_⟩
    obtain ⟨z, e1, k1⟩ := sat_of h2 (bi_ne _ _)
    have := biV_count F E σ H2 [(.lst ds, f), y] [.ref l, u] z Q S2 (.cons (P1.val.same P2.same) (.cons P2.val .nil)) e1 fun w H' P => k1 _ _ (Post.trans (P1.same.trans P2.same) P)
    obtain ⟨x', y', e2, q⟩ := this
    cases e2
    rw [hK]
    exact q
  | _ => exact h1.elim
theorem s_setArg {as : List Expr} {a : Expr} (h : setArg as = some a) : ∃ p q, as = [.Call (.Name "set" p) [a] [] q] := by
  unfold setArg at h
  split at h
  · split at h
    · rename_i e
      subst e
      cases h
      exact ⟨_, _, rfl⟩
    · cases h
  · cases h
theorem s_isiArg {as : List Expr} {q : Expr × Str} (h : isiArg as = some q) : ∃ p, as = [q.1, .Name q.2 p] := by
  unfold isiArg at h
  split at h
  · cases h
    exact ⟨_, rfl⟩
  · cases h
theorem s_ty {x : Str} {t : Ty} {e : Expr} {ea : Ex} {p1 p2 : Pos} (hx : tyOf M x = some t) (hg : gloB K "isinstance" = true) (hgx : gloB K x = true) (hs : notStar e = true) (he : PE X e (tP T C G Y ea)) (g : Good M T C G n Y K X) : PE X (.Call (.Name "isinstance" p1) [e, .Name x p2] [] pos) (tP T C G Y (.bi (.isi t) (.cons ea .nil))) := by
  have bt : ∀ (nm : String) (y : Str), y ∈ blts → bootBuiltins y = some (.type nm) → y ≠ "__name__" → gloB K y = true → PE X (.Name y p2) (tC (.ty nm)) := fun nm y h1 h2 h3 h4 => pe_bltn (g.glo h4).1 (blt_mem g h1) h2 (by rfl) h3 (g.glo h4).2
  have hm := blt_mem g (x := "isinstance") (by decide)
  unfold tyOf at hx
  split at hx
  · rename_i e; subst e; cases hx
    exact ve_isi g.hK (g.glo hg).1 hm hs he (bt "int" "int" (by decide) (by rfl) (by decide) hgx) (.ty _) fun r e => isi_bt g.b.isi rfl r e
  · split at hx
    · rename_i e; subst e; cases hx
      exact ve_isi g.hK (g.glo hg).1 hm hs he (bt "bool" "bool" (by decide) (by rfl) (by decide) hgx) (.ty _) fun r e => isi_bt g.b.isi rfl r e
    · split at hx
      · rename_i e; subst e; cases hx
        exact ve_isi g.hK (g.glo hg).1 hm hs he (bt "list" "list" (by decide) (by rfl) (by decide) hgx) (.ty _) fun r e => isi_bt g.b.isi rfl r e
      · split at hx
        · rename_i e; subst e; cases hx
          exact ve_isi g.hK (g.glo hg).1 hm hs he (bt "tuple" "tuple" (by decide) (by rfl) (by decide) hgx) (.ty _) fun r e => isi_bt g.b.isi rfl r e
        · split at hx
          · rename_i e; subst e; cases hx
            exact ve_isi g.hK (g.glo hg).1 hm hs he (bt "str" "str" (by decide) (by rfl) (by decide) hgx) (.ty _) fun r e => isi_bt g.b.isi rfl r e
          · split at hx
            · rename_i hc
              cases hx
              obtain ⟨Ca, h1, h2⟩ := g.b.cls x (by simpa using hc)
              exact ve_isi g.hK (g.glo hg).1 hm hs he (pe_glob (v := .ref Ca) (g.glo hgx).1 h2 (by rfl) (g.glo hgx).2) (.own _) fun r e => isi_cl g.b.isi h1 r e
            · cases hx
theorem s_bi {x : Str} {b : Bi} {a : Expr} {as : List Expr} {ees : Exs} {p1 : Pos} (hx : biOf x = some b) (hg : gloB K x = true) (hs : (a :: as).all notStar = true) (ha : PA X (a :: as) (tA T C G Y ees)) (g : Good M T C G n Y K X) : PE X (.Call (.Name x p1) (a :: as) [] pos) (tP T C G Y (.bi b ees)) := by
  have hK := g.hK
  unfold biOf at hx
  split at hx
  · rename_i e; subst e; cases hx
    exact ve_biB call_lenV (hK ▸ biV_len) (g.glo hg).1 (blt_mem g (by decide)) (by rfl) (by decide) (g.glo hg).2 hs ha
  split at hx
  · rename_i e; subst e; cases hx
    exact ve_biT call_list_of (hK ▸ biV_list) (g.glo hg).1 (blt_mem g (by decide)) (by rfl) (by decide) (g.glo hg).2 hs ha
  split at hx
  · rename_i e; subst e; cases hx
    exact ve_biT call_tuple_of (hK ▸ biV_tuple) (g.glo hg).1 (blt_mem g (by decide)) (by rfl) (by decide) (g.glo hg).2 hs ha
  split at hx
  · rename_i e; subst e; cases hx
    exact ve_biB cr_sortedI (hK ▸ biV_sorted) (g.glo hg).1 (blt_mem g (by decide)) (by rfl) (by decide) (g.glo hg).2 hs ha
  split at hx
  · rename_i e; subst e; cases hx
    exact ve_biB (cr_sum g.calm) (hK ▸ biV_sum) (g.glo hg).1 (blt_mem g (by decide)) (by rfl) (by decide) (g.glo hg).2 hs ha
  split at hx
  · rename_i e; subst e; cases hx
    exact ve_biB (call_maxV g.calm) (hK ▸ biV_max) (g.glo hg).1 (blt_mem g (by decide)) (by rfl) (by decide) (g.glo hg).2 hs ha
  split at hx
  · rename_i e; subst e; cases hx
    exact ve_biB (call_minV g.calm) (hK ▸ biV_min) (g.glo hg).1 (blt_mem g (by decide)) (by rfl) (by decide) (g.glo hg).2 hs ha
  split at hx
  · rename_i e; subst e; cases hx
    exact ve_biB (cr_all g.calm) (hK ▸ biV_all) (g.glo hg).1 (blt_mem g (by decide)) (by rfl) (by decide) (g.glo hg).2 hs ha
  split at hx
  · rename_i e; subst e; cases hx
    exact ve_biB (cr_any g.calm) (hK ▸ biV_any) (g.glo hg).1 (blt_mem g (by decide)) (by rfl) (by decide) (g.glo hg).2 hs ha
  · cases hx
theorem s_callN {x : Str} {as : List Expr} {p1 : Pos} (hr : Snd M T C G n K r) (h : cCallN M r K x as = some ee) (g : Good M T C G n Y K X) : PE X (.Call (.Name x p1) as [] pos) (tP T C G Y ee) := by
  unfold cCallN at h
  split at h
  · rename_i hg
    have gl := g.glo hg
    have hK := g.hK
    split at h
    · rename_i hx
      obtain ⟨rfl, _⟩ := hx
      obtain ⟨a, e1, h'⟩ := Option.bind_eq_some_iff.mp h
      clear h
      obtain ⟨q1, q2, rfl⟩ := s_setArg e1
      have h := h'
      split at h
      · rename_i hs
        rw [Bool.and_eq_true] at hs
        obtain ⟨y, e2, rfl⟩ := Option.map_eq_some_iff.mp h
        exact ve_lenset g.hK g.calm gl.1 (blt_mem g (by decide)) (g.glo hs.2).1 (blt_mem g (by decide)) (hr _ _ e2 X Y g).1 hs.1
      · cases h
    split at h
    · rename_i hx
      subst hx
      obtain ⟨q, e1, h'⟩ := Option.bind_eq_some_iff.mp h
      clear h
      obtain ⟨q1, rfl⟩ := s_isiArg e1
      have h := h'
      split at h
      · rename_i hs
        rw [Bool.and_eq_true] at hs
        obtain ⟨t, e2, h⟩ := Option.bind_eq_some_iff.mp h
        obtain ⟨y, e3, rfl⟩ := Option.map_eq_some_iff.mp h
        exact s_ty e2 hg hs.2 hs.1 (hr _ _ e3 X Y g).1 g
      · cases h
    split at h
    · rename_i hx
      obtain ⟨xs, e1, rfl⟩ := Option.map_eq_some_iff.mp h
      obtain ⟨f, fd, ps, h1, h2, h3, h4⟩ := g.b.fns x (by simpa using hx)
      have L := s_list hr g e1
      rw [← hK] at h1 h3 h4
      cases as with
      | nil =>
        simp only [cL] at e1
        cases e1
        exact ve_call0 h1 g.room gl.1 h2 h3 h4 g.px gl.2
      | cons a as => exact ve_call h1 g.room gl.1 h2 h3 h4 g.px gl.2 L.2 L.1
    split at h
    · rename_i hx
      obtain ⟨xs, e1, rfl⟩ := Option.map_eq_some_iff.mp h
      obtain ⟨C', k, Ca, f, fd, ps, h0, h1, h2, h3, h4, h5, h6⟩ := g.b.mks x (by simpa using hx)
      have L := s_list hr g e1
      rw [← hK] at h3 h4 h6
      cases as with
      | nil =>
        simp only [cL] at e1
        cases e1
        exact ve_mk0 h1 h2 h3 h4 (g.room.mono h0) gl.1 h5 h6 g.px gl.2
      | cons a as => exact ve_mk h1 h2 h3 h4 (g.room.mono h0) gl.1 h5 h6 g.px gl.2 L.2 L.1
    split at h
    · rename_i b a as hx _
      obtain ⟨xs, e1, rfl⟩ := Option.map_eq_some_iff.mp h
      have L := s_list hr g e1
      exact s_bi hx hg L.2 L.1 g
    · cases h
  · cases h
theorem s_callM {o : Expr} {m : Str} {as : List Expr} (hr : Snd M T C G n K r) (h : cCallM M r o m as apos pos = some ee) (g : Good M T C G n Y K X) : PE X (.Call (.Attribute o m apos) as [] pos) (tP T C G Y ee) := by
  unfold cCallM at h
  split at h
  · rename_i h0
    simp only [Bool.and_eq_true, decide_eq_true_eq] at h0
    obtain ⟨⟨hb, hl⟩, hn⟩ := h0
    split at h
    · rename_i hm
      obtain ⟨x, e1, h⟩ := Option.bind_eq_some_iff.mp h
      obtain ⟨xs, e2, rfl⟩ := Option.map_eq_some_iff.mp h
      obtain ⟨h1, h2⟩ := g.b.mth m (by simpa using hm)
      have L := s_list hr g e2
      have ho := (hr _ _ e1 X Y g).1
      cases as with
      | nil =>
        simp only [cL] at e2
        cases e2
        exact ve_mth0 g.hK h1 (g.b.hC m) h2 g.room g.px ho (mth_eval hb L.2 hn hl)
      | cons a as => exact ve_mth g.hK h1 (g.b.hC m) h2 g.room g.px ho L.2 L.1 (mth_eval hb L.2 hn hl)
    split at h
    · rename_i hm
      subst hm
      split at h
      · split at h
        · rename_i hs
          obtain ⟨x, e1, h⟩ := Option.bind_eq_some_iff.mp h
          obtain ⟨y, e2, rfl⟩ := Option.map_eq_some_iff.mp h
          exact ve_count g.hK hb hs hl (hr _ _ e1 X Y g).1 (hr _ _ e2 X Y g).1
        · cases h
      · cases h
    · cases h
  · cases h
theorem s_sub {o i : Expr} (hr : Snd M T C G n K r) (h : cSub r o i = some ee) (g : Good M T C G n Y K X) : PE X (.Subscript o i p) (tP T C G Y ee) := by
  unfold cSub at h
  split at h
  · obtain ⟨x, e1, rfl⟩ := Option.map_eq_some_iff.mp h
    exact ve_rev g.hK (hr _ _ e1 X Y g).1
  · obtain ⟨x, e1, h⟩ := Option.bind_eq_some_iff.mp h
    obtain ⟨y, e2, rfl⟩ := Option.map_eq_some_iff.mp h
    exact ve_slcL g.hK (hr _ _ e1 X Y g).1 (hr _ _ e2 X Y g).1
  · obtain ⟨x, e1, h⟩ := Option.bind_eq_some_iff.mp h
    obtain ⟨y, e2, rfl⟩ := Option.map_eq_some_iff.mp h
    exact ve_slcH g.hK (hr _ _ e1 X Y g).1 (hr _ _ e2 X Y g).1
  · split at h
    · rename_i hs
      obtain ⟨x, e1, h⟩ := Option.bind_eq_some_iff.mp h
      obtain ⟨y, e2, rfl⟩ := Option.map_eq_some_iff.mp h
      exact ve_idx g.hK (Nat.lt_of_le_of_lt (by omega) g.un65) hs (hr _ _ e1 X Y g).1 (hr _ _ e2 X Y g).1
    · cases h
theorem pe_val (h : PE X e (tP T C G Y ee)) (he : ∀ whole, isTrue e X.env whole = (do let v ← whole; standAt e.pos; holding [v] (truthy v))) : PE X e (tP T C G Y ee) ∧ (tst e = true → PT X e (tT T C G Y ee)) := ⟨h, fun _ => vt_val h he⟩
/-- the compiler of expressions is sound -/
theorem cE1_ok {rec : Kx → Expr → Option Ex} (hR : ∀ K, Snd M T C G n K (rec K)) (K : Kx) : Snd M T C G n K (cE1 M rec K) := fun e ee h X Y g => by
    have hr := hR K
    unfold cE1 at h
    split at h
    · exact pe_val (s_name h g) fun _ => rfl
    · exact pe_val (s_con h) fun _ => rfl
    · exact pe_val (s_bin hr h g) fun _ => rfl
    · exact ⟨(s_un hr h g).1, fun _ => (s_un hr h g).2⟩
    · exact ⟨(s_bool hr g h).1, fun _ => (s_bool hr g h).2.pt⟩
    · split at h
      · rename_i ht
        obtain ⟨x, e1, h⟩ := Option.bind_eq_some_iff.mp h
        obtain ⟨y, e2, h⟩ := Option.bind_eq_some_iff.mp h
        obtain ⟨z, e3, rfl⟩ := Option.map_eq_some_iff.mp h
        exact ⟨ve_ite ((hr _ _ e1 X Y g).2 ht) (hr _ _ e2 X Y g).1 (hr _ _ e3 X Y g).1, fun z => nomatch z⟩
      · cases h
    · exact ⟨(s_cmp hr h g).1, fun _ => (s_cmp hr h g).2⟩
    · cases h
      exact pe_val ve_dic0 fun _ => rfl
    · obtain ⟨x, e1, h⟩ := Option.bind_eq_some_iff.mp h
      split at h
      · rename_i hl
        cases h
        exact pe_val (ve_lst hl (s_list hr g e1).1) fun _ => rfl
      · cases h
    · obtain ⟨x, e1, h⟩ := Option.bind_eq_some_iff.mp h
      split at h
      · rename_i hl
        cases h
        exact pe_val (ve_tup hl (s_list hr g e1).1) fun _ => rfl
      · cases h
    · split at h
      · rename_i e1
        cases h
        exact pe_val (s_keq e1 g).pe fun _ => rfl
      · exact pe_val (s_comp hr (hR _) h g).pe fun _ => rfl
    · exact pe_val (s_callN hr h g) fun _ => rfl
    · exact pe_val (s_callM hr h g) fun _ => rfl
    · split at h
      · rename_i h0
        rw [Bool.and_eq_true] at h0
        obtain ⟨x, e1, rfl⟩ := Option.map_eq_some_iff.mp h
        exact pe_val (ve_att g.hK (fun c Ca hc => ⟨(g.b.isi c Ca hc).cls, g.b.att _ (by simpa using h0.2) c Ca hc⟩) h0.1 (hr _ _ e1 X Y g).1) fun _ => rfl
      · cases h
    · exact pe_val (s_sub hr h g) fun _ => rfl
    · cases h
theorem cE_ok : ∀ (m : Nat) (K : Kx), Snd M T C G n K (cE M m K)
  | 0, K => fun e ee h => by simp [cE] at h
  | m + 1, K => cE1_ok (fun K => cE_ok m K) K
/-- .. with the store to a name -/
theorem cE_okL (m : Nat) {e : Expr} (h : cE M m K e = some ee) (g : Good M T C G n Y K X) : PL X e (tP T C G Y ee) := by
  by_cases hc : ∃ elt gens scope p, e = .ListComp elt gens scope p
  · obtain ⟨elt, gens, scope, p, rfl⟩ := hc
    cases m with
    | zero => simp [cE] at h
    | succ m =>
      have h : (match cKeq K elt gens scope with
        | some e => some e
        | none => cComp (cE M m K) (cE M m (K.blk scope)) K elt gens scope) = some ee := h
      split at h
      · rename_i e1
        cases h
        exact s_keq e1 g
      · exact s_comp (cE_ok m K) (cE_ok m _) h g
  · refine .no (cE_ok m K _ _ h X Y g).1 ?_
    cases m with
    | zero => simp [cE] at h
    | succ m => cases e <;> first | rfl | (exact absurd ⟨_, _, _, _, rfl⟩ hc) | (simp [cE, cE1] at h)
end
end FS

/-! FS32: the compilers of trees, ways, calls in place. -/
namespace FS
open PySem L2
mutual
/-- does a name of ds stand in it -/
def uses (ds : List Nat) : Ex → Bool
  | .var i => ds.contains i
  | .con _ => false
  | .glb _ => false
  | .bin _ a b => uses ds a || uses ds b
  | .un _ a => uses ds a
  | .and a b => uses ds a || uses ds b
  | .or a b => uses ds a || uses ds b
  | .cmp _ a b => uses ds a || uses ds b
  | .chn _ _ a b c => uses ds a || uses ds b || uses ds c
  | .ite c a b => uses ds c || uses ds a || uses ds b
  | .lst es => usesS ds es
  | .tup es => usesS ds es
  | .dic k e => uses ds k || uses ds e
  | .dic0 => false
  | .comp e _ it c _ => uses ds e || usesI ds it || uses ds c
  | .call _ es => usesS ds es
  | .bi _ es => usesS ds es
  | .mth o _ es => uses ds o || usesS ds es
  | .rcv _ o es => uses ds o || usesS ds es
  | .att o _ => uses ds o
  | .idx o i => uses ds o || uses ds i
  | .rev o => uses ds o
  | .slc o a b => uses ds o || uses ds a || uses ds b
  | .sortk e _ k => uses ds e || uses ds k
  | .bor _ => false
  | .keq _ i e => ds.contains i || uses ds e
def usesS (ds : List Nat) : Exs → Bool
  | .nil => false
  | .cons e es => uses ds e || usesS ds es
def usesI (ds : List Nat) : It → Bool
  | .seq e => uses ds e
  | .rng a b => uses ds a || uses ds b
  | .rng1 b => uses ds b
  | .enum e => uses ds e
  | .zip a b => uses ds a || uses ds b
end
def lendE (K : Kx) (ee : Ex) : Ex := if K.dep.isEmpty then ee else if uses K.dep ee then .bor ee else ee
def cB (r : Expr → Option Ex) (K : Kx) (e : Expr) : Option Ex := (r e).map (lendE K)
def cVar (K : Kx) (x : Str) : Option Nat := if visB K x && okN x then ixF x K.N else none
/-- the slot of a tree's name -/
def cDep (K : Kx) (x : Str) : Option Nat := if K.dep.isEmpty then none else (cVar K x).bind fun j => if K.dep.contains j then some j else none
/-- a way into a tree -/
def cP (M : Nm) (r : Expr → Option Ex) (K : Kx) : Nat → Expr → Option (Nat × List PSt)
  | 0, _ => none
  | _ + 1, .Name x _ => (cDep K x).map fun j => (j, [])
  | n + 1, .Subscript o k _ => if notSlice k then (cP M r K n o).bind fun q => (r k).map fun z => (q.1, q.2 ++ [.ix z]) else none
  | n + 1, .Attribute o f _ => if attrPlain o && M.att.contains f then (cP M r K n o).map fun q => (q.1, q.2 ++ [.at f]) else none
  | _ + 1, _ => none
def cTs (c : Expr → Option TEx) : List Expr → Option TExs
  | [] => some .nil
  | e :: es => if notStar e then (c e).bind fun x => (cTs c es).map fun xs => .cons x xs else none
def toT : Ex → TEx
  | .comp e t it c own => .comp e t it c own
  | e => .im e
def cTC (M : Nm) (r : Expr → Option Ex) (K : Kx) (x : Str) (as : List Expr) : Option TEx := if gloB K x then
    (if M.fns.contains x then (cL r as).map fun xs => .call (.fn x) xs
    else if M.mks.contains x then (cL r as).map fun xs => .call (.mk x) xs
    else none)
  else none
/-- what makes a tree -/
def cT (M : Nm) (r : Expr → Option Ex) (K : Kx) : Nat → Expr → Option TEx
  | 0, _ => none
  | n + 1, .List es _ => (cTs (cT M r K n) es).map .lst
  | _ + 1, .ListComp a b c d => (r (.ListComp a b c d)).map toT
  | _ + 1, .Call (.Name x p) as [] pos => match cTC M r K x as with
    | some t => some t
    | none => (r (.Call (.Name x p) as [] pos)).map .im
  | _ + 1, e => (r e).map .im
def lkN (x : Str) : List (Str × Nat) → Option Nat
  | [] => none
  | (y, i) :: r => if y = x then some i else lkN x r
theorem lkN_mem {x : Str} : ∀ {l : List (Str × Nat)} {i : Nat}, lkN x l = some i → (x, i) ∈ l
  | [], _, h => by simp [lkN] at h
  | (y, j) :: r, i, h => by
    unfold lkN at h
    split at h
    · rename_i e
      cases h
      subst e
      exact List.mem_cons_self
    · exact List.mem_cons_of_mem _ (lkN_mem h)
/-- arguments, the i-th a tree's name -/
def cXa (r : Expr → Option Ex) (K : Kx) : Nat → List Expr → Option (Nat × Exs × Exs)
  | 0, .Name y _ :: es => (cDep K y).bind fun j => (cL r es).map fun q => (j, .nil, q)
  | i + 1, e :: es => if notStar e then (r e).bind fun x => (cXa r K i es).map fun q => (q.1, .cons x q.2.1, q.2.2) else none
  | _, _ => none
/-- a call that changes an argument -/
def cX (M : Nm) (r : Expr → Option Ex) (K : Kx) : Expr → Option (Cal × Nat × Exs × Exs)
  | .Call (.Name x _) as [] _ => if gloB K x then (lkN x M.fxs).bind fun i => (cXa r K i as).map fun q => (.fn x, q) else none
  | .Call (.Attribute o m apos) as [] pos => if attrPlain o && apos.endLine == pos.line && decide (as.length < 29) then (lkN m M.mxs).bind fun i => match i with
      | 0 => none
      | i + 1 => (cXa r K i as).bind fun q => (r o).map fun z => (.me z m, q)
    else none
  | _ => none
section
variable {M : Nm} {T : Tb} {W : Nat} {C : Fid → List D → R (D × Bool)} {G : GT} {n : Nat} {Y : XK} {K : Kx} {X : Cx} {B : Bs} {r : Expr → Option Ex} {pos p apos : Pos} {ee : Ex} {e : Expr}
/-- a compiler of expressions that is sound, with the store to a name -/
def SndL (M : Nm) (T : Tb) (C : Fid → List D → R (D × Bool)) (G : GT) (n : Nat) (K : Kx) (r : Expr → Option Ex) : Prop := ∀ e ee, r e = some ee → ∀ X Y, Good M T C G n Y K X → PL X e (tP T C G Y ee)
theorem lend_snd (h : Snd M T C G n K r) : Snd M T C G n K (cB r K) := fun e ee he X Y g => by
  obtain ⟨x, e1, rfl⟩ := Option.map_eq_some_iff.mp he
  have q := h _ _ e1 X Y g
  unfold lendE
  split
  · exact q
  · split
    · exact ⟨ve_lend q.1, fun t => vt_lend (q.2 t)⟩
    · exact q
theorem lend_sndL (h : SndL M T C G n K r) : SndL M T C G n K (cB r K) := fun e ee he X Y g => by
  obtain ⟨x, e1, rfl⟩ := Option.map_eq_some_iff.mp he
  have q := h _ _ e1 X Y g
  unfold lendE
  split
  · exact q
  · split
    · exact pl_lend q
    · exact q
theorem c_var {x : Str} {i : Nat} (h : cVar K x = some i) (g : Good M T C G n Y K X) : X.N[i]? = some x ∧ Vis X.env.scope x ∧ (x == ("__debug__" : Str)) = false ∧ (x == ("__classdict__" : Str)) = false := by
  unfold cVar at h
  split at h
  · rename_i h1
    rw [Bool.and_eq_true] at h1
    exact ⟨g.ix h, g.vis h1.1, okN_1 h1.2⟩
  · cases h
theorem c_dep {x : Str} {i : Nat} (h : cDep K x = some i) (g : Good M T C G n Y K X) : X.N[i]? = some x ∧ Vis X.env.scope x ∧ (x == ("__debug__" : Str)) = false ∧ (x == ("__classdict__" : Str)) = false := by
  unfold cDep at h
  split at h
  · cases h
  obtain ⟨j, e1, h⟩ := Option.bind_eq_some_iff.mp h
  split at h
  · cases h
    exact c_var e1 g
  · cases h
theorem s_P (hr : Snd M T C G n K r) (g : Good M T C G n Y K X) : ∀ {k : Nat} {e : Expr} {q : Nat × List PSt}, cP M r K k e = some q → PE X e (tPt T C G Y q.1 q.2)
  | 0, _, _, h => by simp [cP] at h
  | k + 1, e, q, h => by
    unfold cP at h
    split at h
    · cases ‹_ = 0›
    · obtain ⟨j, e1, rfl⟩ := Option.map_eq_some_iff.mp h
      obtain ⟨v1, v2, v3, v4⟩ := c_dep e1 g
      exact vp_var v1 v2 v3 v4
    · rename_i n' o i _ hk
      cases hk
      split at h
      · rename_i hs
        obtain ⟨q1, e1, h⟩ := Option.bind_eq_some_iff.mp h
        obtain ⟨z, e2, rfl⟩ := Option.map_eq_some_iff.mp h
        exact vp_ix g.hK (Nat.lt_of_le_of_lt (by omega) g.un65) hs (s_P hr g e1) (hr _ _ e2 X Y g).1
      · cases h
    · rename_i n' o f _ hk
      cases hk
      split at h
      · rename_i h0
        rw [Bool.and_eq_true] at h0
        obtain ⟨q1, e1, rfl⟩ := Option.map_eq_some_iff.mp h
        exact vp_at g.hK (fun c Ca hc => ⟨(g.b.isi c Ca hc).cls, g.b.att _ (by simpa using h0.2) c Ca hc⟩) h0.1 (s_P hr g e1)
      · cases h
    · cases h
theorem s_TC {x : Str} {as : List Expr} {t : TEx} (hr : Snd M T C G n K r) (h : cTC M r K x as = some t) (g : Good M T C G n Y K X) : PE X (.Call (.Name x p) as [] pos) (tTr T C G Y t) := by
  unfold cTC at h
  split at h
  · rename_i hg
    have gl := g.glo hg
    have hK := g.hK
    split at h
    · rename_i hx
      obtain ⟨xs, e1, rfl⟩ := Option.map_eq_some_iff.mp h
      obtain ⟨f, fd, ps, h1, h2, h3, h4⟩ := g.b.fns x (by simpa using hx)
      have L := s_list hr g e1
      rw [← hK] at h1 h3 h4
      cases as with
      | nil =>
        simp only [cL] at e1
        cases e1
        exact vr_cc (cc_call0 h1 g.room gl.1 h2 h3 h4 g.px gl.2)
      | cons a as => exact vr_cc (cc_call h1 g.room gl.1 h2 h3 h4 g.px gl.2 L.2 L.1)
    split at h
    · rename_i hx
      obtain ⟨xs, e1, rfl⟩ := Option.map_eq_some_iff.mp h
      obtain ⟨C', k, Ca, f, fd, ps, h0, h1, h2, h3, h4, h5, h6⟩ := g.b.mks x (by simpa using hx)
      have L := s_list hr g e1
      rw [← hK] at h3 h4 h6
      cases as with
      | nil =>
        simp only [cL] at e1
        cases e1
        exact vr_cc (cc_mk0 h1 h2 h3 h4 (g.room.mono h0) gl.1 h5 h6 g.px gl.2)
      | cons a as => exact vr_cc (cc_mk h1 h2 h3 h4 (g.room.mono h0) gl.1 h5 h6 g.px gl.2 L.2 L.1)
    · cases h
  · cases h
theorem s_Ts {c : Expr → Option TEx} (hc : ∀ e t, c e = some t → PE X e (tTr T C G Y t)) : ∀ {es : List Expr} {ts : TExs}, cTs c es = some ts → PA X es (tTrs T C G Y ts)
  | [], _, h => by
    simp only [cTs] at h
    cases h
    exact vrs_nil
  | e :: es, ts, h => by
    unfold cTs at h
    split at h
    · rename_i hs
      obtain ⟨x, e1, h⟩ := Option.bind_eq_some_iff.mp h
      obtain ⟨y, e2, rfl⟩ := Option.map_eq_some_iff.mp h
      exact vrs_cons hs (hc _ _ e1) (s_Ts hc e2)
    · cases h
/-- a comprehension as a tree -/
theorem s_toT {m : Nat} {elt : Expr} {gens : List Comprehension} {scope : Scope} (h : cE M m K (.ListComp elt gens scope p) = some ee) (g : Good M T C G n Y K X) : PL X (.ListComp elt gens scope p) (tTr T C G Y (toT ee)) := by
  cases m with
  | zero => simp [cE] at h
  | succ m =>
    have h0 := cE_okL (T := T) (C := C) (G := G) (n := n) (Y := Y) (X := X) _ h g
    have h : (match cKeq K elt gens scope with
      | some e => some e
      | none => cComp (cE M m K) (cE M m (K.blk scope)) K elt gens scope) = some ee := h
    split at h
    · rename_i e1
      cases h
      have : ∃ a b c, ee = .keq a b c := by
        unfold cKeq at e1
        split at e1
        · cases e1
        obtain ⟨q, _, e1⟩ := Option.bind_eq_some_iff.mp e1
        split at e1
        · obtain ⟨jx, _, e1⟩ := Option.bind_eq_some_iff.mp e1
          obtain ⟨i, _, e1⟩ := Option.bind_eq_some_iff.mp e1
          obtain ⟨k, _, e1⟩ := Option.bind_eq_some_iff.mp e1
          split at e1
          · cases e1; exact ⟨_, _, _, rfl⟩
          · cases e1
        · cases e1
      obtain ⟨a, b, c, rfl⟩ := this
      exact pr_im h0
    · obtain ⟨tg, iter, ifs, e, t, it, cond, rfl, rfl, F⟩ := s_compF (T := T) (C := C) (G := G) (n := n) (cE_ok m K) (cE_ok m _) h
      exact (F.pl g).2
theorem s_T {m : Nat} (g : Good M T C G n Y K X) : ∀ {k : Nat} {e : Expr} {t : TEx}, cT M (cE M m K) K k e = some t → PL X e (tTr T C G Y t)
  | 0, _, _, h => by simp [cT] at h
  | k + 1, e, t, h => by
    unfold cT at h
    split at h
    · cases ‹_ = 0›
    · rename_i hk
      cases hk
      obtain ⟨ts, e1, rfl⟩ := Option.map_eq_some_iff.mp h
      exact .no (vr_lst (s_Ts (fun e t h => (s_T g h).pe) e1)) rfl
    · obtain ⟨x, e1, rfl⟩ := Option.map_eq_some_iff.mp h
      exact s_toT e1 g
    · split at h
      · rename_i e1
        cases h
        exact .no (s_TC (cE_ok m K) e1 g) rfl
      · obtain ⟨x, e1, rfl⟩ := Option.map_eq_some_iff.mp h
        exact pr_im (cE_okL m e1 g)
    · obtain ⟨x, e1, rfl⟩ := Option.map_eq_some_iff.mp h
      exact pr_im (cE_okL m e1 g)
theorem s_Xa (hr : Snd M T C G n K r) (g : Good M T C G n Y K X) : ∀ {i : Nat} {es : List Expr} {q : Nat × Exs × Exs}, cXa r K i es = some q → PA X es (tAX T C G Y q.2.1 q.1 q.2.2) ∧ i = exsLen q.2.1 ∧ es.all notStar = true ∧ ∃ e r, es = e :: r
  | 0, [], _, h => by simp [cXa] at h
  | 0, e :: es, q, h => by
    unfold cXa at h
    split at h
    · rename_i he
      cases he
      obtain ⟨j, e1, h⟩ := Option.bind_eq_some_iff.mp h
      obtain ⟨ys, e2, rfl⟩ := Option.map_eq_some_iff.mp h
      obtain ⟨v1, v2, v3, v4⟩ := c_dep e1 g
      have L := s_list hr g e2
      exact ⟨va_x0 v1 v2 v3 v4 L.1, rfl, by rw [List.all_cons, L.2]; rfl, _, _, rfl⟩
    · rename_i hk _
      cases hk
    · cases h
  | i + 1, [], _, h => by simp [cXa] at h
  | i + 1, e :: es, q, h => by
    simp only [cXa] at h
    split at h
    · rename_i hs
      obtain ⟨x, e1, h⟩ := Option.bind_eq_some_iff.mp h
      obtain ⟨y, e2, rfl⟩ := Option.map_eq_some_iff.mp h
      obtain ⟨h1, h2, h3, _⟩ := s_Xa hr g e2
      exact ⟨va_xs hs (hr _ _ e1 X Y g).1 h1, by rw [h2]; rfl, by rw [List.all_cons, hs, h3]; rfl, _, _, rfl⟩
    · cases h
def isCall : Expr → Bool
  | .Call .. => true
  | _ => false
theorem s_X {e : Expr} {q : Cal × Nat × Exs × Exs} (hr : Snd M T C G n K r) (h : cX M r K e = some q) (g : Good M T C G n Y K X) (B : Bs) : PE X e (tXc T C G Y B q.1 q.2.1 q.2.2.1 q.2.2.2) ∧ isCall e = true := by
  have hK := g.hK
  unfold cX at h
  split at h
  · split at h
    · rename_i hg
      have gl := g.glo hg
      obtain ⟨i, e1, h⟩ := Option.bind_eq_some_iff.mp h
      obtain ⟨q, e2, rfl⟩ := Option.map_eq_some_iff.mp h
      obtain ⟨f, fd, ps, h1, h2, h3, h4⟩ := g.b.fxs _ (lkN_mem e1)
      obtain ⟨g1, g2, g3, a, as, rfl⟩ := s_Xa hr g e2
      rw [← hK] at h1 h3 h4
      exact ⟨vx_call h1 g2 g.room gl.1 h2 h3 h4 g.px gl.2 g3 g1, rfl⟩
    · cases h
  · split at h
    · rename_i h0
      simp only [Bool.and_eq_true, decide_eq_true_eq] at h0
      obtain ⟨⟨hb, hl⟩, hn⟩ := h0
      obtain ⟨i, e1, h⟩ := Option.bind_eq_some_iff.mp h
      cases i with
      | zero => cases h
      | succ i =>
        obtain ⟨q, e2, h⟩ := Option.bind_eq_some_iff.mp h
        obtain ⟨z, e3, rfl⟩ := Option.map_eq_some_iff.mp h
        obtain ⟨h1, h2⟩ := g.b.mxs _ (lkN_mem e1)
        obtain ⟨g1, g2, g3, a, as, rfl⟩ := s_Xa hr g e2
        exact ⟨vx_mth hK h1 (g.b.hC _) h2 (by rw [g2]) g.room g.px (hr _ _ e3 X Y g).1 g3 g1 (mth_eval hb g3 hn hl), rfl⟩
    · cases h
  · cases h
end
end FS

/-! FS17: from written statements to stripped ones; that it is sound. -/
namespace FS
open PySem L2

/-! ### compiling -/
def isVar : Ex → Bool
  | .var _ => true
  | _ => false
def isTup : Expr → Bool
  | .Tuple .. => true
  | _ => false
/-- x.pop(e) -/
def popB : Expr → Option (Str × Expr)
  | .Call (.Attribute (.Name x _) m apos) [a] [] cpos => if m = "pop" ∧ (apos.endLine == cpos.line) = true ∧ notStar a = true then some (x, a) else none
  | _ => none
def cAsg (M : Nm) (ce : Expr → Option Ex) (K : Kx) (tg e : Expr) : Option Sx := match tg with
  | .Name y _ => if stoB K y then (ixF y K.N).bind fun i => match popB e with
      | some (x, a) => (cVar K x).bind fun j => (ce a).map fun k => .popA i j k
      | none => (ce e).map fun x => .asg i x
    else none
  | .Tuple ts k p => if isTup e then none else (cTg K (.Tuple ts k p)).bind fun t => match t with
      | .tp is => (ce e).map fun x => .asgT is x
      | _ => none
  | .Attribute (.Name x _) f _ => if cVar K x == some 0 && M.att.contains f then (ce e).map fun y => .fld f y else none
  | .Subscript (.Name x _) k _ => if notSlice k then (cVar K x).bind fun i => (ce e).bind fun y => (ce k).map fun z => .set i z y else none
  | _ => none
/-- stores of trees, to trees -/
def cAsgD (M : Nm) (m : Nat) (K : Kx) (tg e : Expr) : Option Sx := if K.dep.isEmpty && !K.slf then none else match tg with
  | .Name y _ => if stoB K y then (ixF y K.N).bind fun i => if K.dep.contains i then (cT M (cE M m K) K 40 e).map fun t => .asgD i t else none else none
  | .Attribute (.Name x _) f _ => if K.slf && cVar K x == some 0 && M.att.contains f then (cT M (cE M m K) K 40 e).map fun t => .fldD f t else none
  | .Subscript o k _ => if notSlice k then (cP M (cE M m K) K 40 o).bind fun q => (cE M m K e).bind fun y => (cE M m K k).map fun z => .mut q.1 q.2 (.set z y) else none
  | _ => none
/-- way.append(tree), way.remove(e), way.clear(); f(.., tree, ..) -/
def cExpD (M : Nm) (m : Nat) (K : Kx) (e : Expr) : Option Sx := if K.dep.isEmpty then none else match cX M (cE M m K) K e with
  | some q => some (.callX q.1 q.2.1 q.2.2.1 q.2.2.2)
  | none => match e with
    | .Call (.Attribute o x apos) as [] cpos => if attrPlain o && apos.endLine == cpos.line then (cP M (cE M m K) K 40 o).bind fun q => match as with
        | [a] => if notStar a then (if x = "append" then (cT M (cE M m K) K 40 a).map fun t => .mut q.1 q.2 (.app t) else if x = "remove" then (cE M m K a).map fun t => .mut q.1 q.2 (.rem t) else none) else none
        | [] => if x = "clear" then some (.mut q.1 q.2 .clr) else none
        | _ => none
      else none
    | _ => none
/-- for x in y: x.clear() -/
def clrOf (tg it : Expr) (b : List Stmt) : Option (Str × Str) := match tg, it, b with
  | .Name x _, .Name y _, [.Expr (.Call (.Attribute (.Name z _) m apos) [] [] cpos) _] => if x = z ∧ m = "clear" ∧ (apos.endLine == cpos.line) = true then some (x, y) else none
  | _, _, _ => none
def cForM (K : Kx) (tg it : Expr) (b : List Stmt) : Option Sx := if K.dep.isEmpty then none else (clrOf tg it b).bind fun q => if stoB K q.1 then (cVar K q.1).bind fun i => (cDep K q.2).map fun j => .forM j i .clr else none
/-- if [not] f(.., tree, ..) -/
def cIfX (M : Nm) (m : Nat) (K : Kx) (e : Expr) : Option (Bool × Cal × Nat × Exs × Exs) := if K.dep.isEmpty then none else match e with
  | .UnaryOp .Not e _ => (cX M (cE M m K) K e).map fun q => (true, q)
  | e => (cX M (cE M m K) K e).map fun q => (false, q)
/-- x.append(e), x.clear(), C.__init__(self, ..) -/
def cExp (M : Nm) (ce : Expr → Option Ex) (K : Kx) : Expr → Option Sx
  | .Call (.Attribute (.Name x _) m apos) as [] cpos =>
    if (apos.endLine == cpos.line) = true then
      (if m = "append" then match as with
        | [a] => if notStar a then (cVar K x).bind fun i => (ce a).map fun y => .app i y else none
        | _ => none
      else if m = "clear" then match as with
        | [] => (cVar K x).map fun i => .clr i
        | _ => none
      else if m = "__init__" then match as with
        | .Name s _ :: es => if gloB K x && M.sup.contains x && cVar K s == some 0 && decide (es.length < 28) then (cL ce es).map fun ys => .supi x ys else none
        | _ => none
      else none)
    else none
  | _ => none
def cRetD (M : Nm) (m : Nat) (K : Kx) (e : Expr) : Option (Option Sx) := match K.io with
  | some i => some ((cB (cE M m K) K e).map fun x => .retX i x)
  | none => if K.rt then some ((cT M (cE M m K) K 40 e).map fun t => .retT t) else none
def cRetN (K : Kx) : Option Sx := match K.io with
  | some i => some (.retX i (.con .non))
  | none => some (.ret (.con .non))
def cRet (ce : Expr → Option Ex) (K : Kx) (e : Expr) : Option Sx := match e with
  | .Name x _ => if visB K x then (cVar K x).map fun i => .ret (.var i) else (ce e).bind fun y => if isVar y then none else some (.ret y)
  | _ => (ce e).bind fun y => if isVar y then none else some (.ret y)
def cRai (M : Nm) (K : Kx) : Expr → Option Sx
  | .Call (.Name x _) [.Constant (.str _) _ _] [] _ => if gloB K x && M.exc.contains x then some (.rai x) else none
  | _ => none
def cSs (c : Stmt → Option Sx) : List Stmt → Option Sxs
  | [] => some .nil
  | s :: ss => (c s).bind fun x => (cSs c ss).map fun xs => .cons x xs
/-- a slot that is walked is walked by its name -/
def itN (K : Kx) : Expr → It → Bool
  | .Name x _, .seq (.var j) => cVar K x == some j
  | _, .seq (.var _) => false
  | _, _ => true
theorem itN_var {K : Kx} {e : Expr} {j : Nat} (h : itN K e (.seq (.var j)) = true) : ∃ x p, e = .Name x p ∧ cVar K x = some j := by
  unfold itN at h
  split at h
  · rename_i e2
    cases e2
    exact ⟨_, _, rfl, by simpa using h⟩
  · cases h
  · rename_i h1 _
    exact absurd rfl (h1 j)
def cS1 (M : Nm) (m : Nat) (K : Kx) (c : Stmt → Option Sx) : Stmt → Option Sx
  | .Assign [tg] e _ => match cAsgD M m K tg e with
    | some s => some s
    | none => cAsg M (cB (cE M m K) K) K tg e
  | .Expr e _ => match cExpD M m K e with
    | some s => some s
    | none => cExp M (cB (cE M m K) K) K e
  | .If e a b _ => match cIfX M m K e with
    | some q => (cSs c a).bind fun y => (cSs c b).map fun z => .iteX q.1 q.2.1 q.2.2.1 q.2.2.2.1 q.2.2.2.2 y z
    | none => if tst e then (cB (cE M m K) K e).bind fun x => (cSs c a).bind fun y => (cSs c b).map fun z => .ite x y z else none
  | .While e b [] _ => if tst e then (cB (cE M m K) K e).bind fun x => (cSs c b).map fun y => .whl x y else none
  | .For tg it b [] _ => match cForM K tg it b with
    | some s => some s
    | none => if isSet it then none else (cTg K tg).bind fun t => (cIt (cB (cE M m K) K) K it).bind fun i => if itN K it i then (cSs c b).map fun y => .for t i y else none
  | .Return (some e) _ => match cRetD M m K e with
    | some s => s
    | none => cRet (cB (cE M m K) K) K e
  | .Return none _ => cRetN K
  | .Raise (some e) none _ => cRai M K e
  | .Pass _ => some .pass
  | _ => none
def cS (M : Nm) (m : Nat) (K : Kx) : Nat → Stmt → Option Sx
  | 0 => fun _ => none
  | n + 1 => cS1 M m K (cS M m K n)

/-! ### it is sound -/
section
variable {M : Nm} {T : Tb} {W : Nat} {C : Fid → List D → R (D × Bool)} {G : GT} {n : Nat} {Y : XK} {K : Kx} {X : Cx} {r : Expr → Option Ex} {c : Stmt → Option Sx} {pos p apos : Pos} {ee : Ex}
structure GoodS (M : Nm) (T : Tb) (C : Fid → List D → R (D × Bool)) (G : GT) (n : Nat) (Y : XK) (K : Kx) (X : Cx) : Prop where
  g : Good M T C G n Y K X
  po : PassesOwn (model X.prog X.w) X.A X.env X.xe
  tk : Takes X fun cls d _ H => Y cls d H
theorem sw_att {e o : Expr} {f : Str} {p : Pos} {l : Nat} {env : PySem.Env} : swapsWith e (some (.Attribute o f p)) l env = pure false := by
  cases e <;> rfl
theorem sw_sub {e o i : Expr} {p : Pos} {l : Nat} {env : PySem.Env} : swapsWith e (some (.Subscript o i p)) l env = pure false := by
  cases e <;> rfl
theorem sw_tup {e : Expr} {ts : List Expr} {k} {p : Pos} {l : Nat} {env : PySem.Env} : swapsWith e (some (.Tuple ts k p)) l env = pure false := by
  cases e <;> rfl
theorem sole_tup {e : Expr} {ts : List Expr} {k} {p : Pos} {l : Nat} {env : PySem.Env} : swapsWithSole [.Tuple ts k p] e l env = pure false := by
  cases e <;> rfl
theorem sole_sub {e o i : Expr} {p : Pos} {l : Nat} {env : PySem.Env} : swapsWithSole [.Subscript o i p] e l env = pure false := by
  cases e <;> rfl
theorem s_popB {e : Expr} {q : Str × Expr} (h : popB e = some q) : ∃ px apos cpos, e = .Call (.Attribute (.Name q.1 px) "pop" apos) [q.2] [] cpos ∧ (apos.endLine == cpos.line) = true ∧ notStar q.2 = true := by
  unfold popB at h
  split at h
  · split at h
    · rename_i h1
      obtain ⟨rfl, h2, h3⟩ := h1
      cases h
      exact ⟨_, _, _, rfl, h2, h3⟩
    · cases h
  · cases h
theorem s_asg {m : Nat} {tg e : Expr} {s : Sx} (h : cAsg M (cB (cE M m K) K) K tg e = some s) (g : GoodS M T C G n Y K X) (B : Bs) : PS X (.Assign [tg] e pos) (tS T W C G Y B s) := by
  have hr : Snd M T C G n K (cB (cE M m K) K) := lend_snd (cE_ok m K)
  have g0 := g.g
  unfold cAsg at h
  split at h
  · split at h
    · rename_i y py hs
      obtain ⟨i, e1, h0⟩ := Option.bind_eq_some_iff.mp h
      clear h
      split at h0
      · rename_i x a hp
        obtain ⟨j, e2, h1⟩ := Option.bind_eq_some_iff.mp h0
        obtain ⟨k, e3, rfl⟩ := Option.map_eq_some_iff.mp h1
        clear h0 h1
        obtain ⟨px, apos, cpos, rfl, hl, hst⟩ := s_popB hp
        obtain ⟨v1, v2, v3, v4⟩ := c_var e2 g0
        exact vs_popA v1 v2 v3 v4 (hr _ _ e3 X Y g0).1 hst hl g0.nodup (g0.ix e1) (g0.sto hs).1 (g0.sto hs).2
      · obtain ⟨x, e2, rfl⟩ := Option.map_eq_some_iff.mp h0
        exact vs_asgL g0.nodup (g0.ix e1) (g0.sto hs).1 (lend_sndL (fun e ee h X Y g => cE_okL m h g) _ _ e2 X Y g0) (g0.sto hs).2
    · cases h
  · split at h
    · cases h
    · rename_i ht
      obtain ⟨t, e1, h⟩ := Option.bind_eq_some_iff.mp h
      split at h
      · obtain ⟨x, e2, rfl⟩ := Option.map_eq_some_iff.mp h
        refine vs_asgT (hr _ _ e2 X Y g0).1 (s_tg e1 g0) sole_tup ?_ rfl
        cases e <;> first | rfl | (exact absurd rfl ht)
      · cases h
  · split at h
    · rename_i h1
      rw [Bool.and_eq_true, beq_iff_eq] at h1
      obtain ⟨y, e2, rfl⟩ := Option.map_eq_some_iff.mp h
      obtain ⟨v1, v2, v3, v4⟩ := c_var h1.1 g0
      exact vs_fld g0.hK (fun c Ca hc => ⟨(g0.b.isi c Ca hc).cls, g0.b.att _ (by simpa using h1.2) c Ca hc⟩) v1 v2 v3 v4 (hr _ _ e2 X Y g0).1 sw_att
    · cases h
  · split at h
    · rename_i h1
      obtain ⟨i, e1, h⟩ := Option.bind_eq_some_iff.mp h
      obtain ⟨y, e2, h⟩ := Option.bind_eq_some_iff.mp h
      obtain ⟨z, e3, rfl⟩ := Option.map_eq_some_iff.mp h
      obtain ⟨v1, v2, v3, v4⟩ := c_var e1 g0
      exact vs_set (Nat.lt_of_le_of_lt (by omega) g0.un65) v1 v2 v3 v4 (hr _ _ e2 X Y g0).1 (hr _ _ e3 X Y g0).1 h1 sw_sub sole_sub (by cases e <;> rfl)
    · cases h
  · cases h
theorem s_exp {m : Nat} {e : Expr} {s : Sx} (h : cExp M (cB (cE M m K) K) K e = some s) (g : GoodS M T C G n Y K X) (B : Bs) : PS X (.Expr e pos) (tS T W C G Y B s) := by
  have hr : Snd M T C G n K (cB (cE M m K) K) := lend_snd (cE_ok m K)
  have g0 := g.g
  unfold cExp at h
  split at h
  · split at h
    · rename_i hl
      split at h
      · rename_i hm
        subst hm
        split at h
        · split at h
          · rename_i hs
            obtain ⟨i, e1, h⟩ := Option.bind_eq_some_iff.mp h
            obtain ⟨y, e2, rfl⟩ := Option.map_eq_some_iff.mp h
            obtain ⟨v1, v2, v3, v4⟩ := c_var e1 g0
            exact vs_app v1 v2 v3 v4 (hr _ _ e2 X Y g0).1 hs hl
          · cases h
        · cases h
      split at h
      · rename_i hm
        subst hm
        split at h
        · obtain ⟨i, e1, rfl⟩ := Option.map_eq_some_iff.mp h
          obtain ⟨v1, v2, v3, v4⟩ := c_var e1 g0
          exact vs_clr v1 v2 v3 v4 hl
        · cases h
      split at h
      · rename_i hm
        subst hm
        split at h
        · split at h
          · rename_i h1
            simp only [Bool.and_eq_true, beq_iff_eq, decide_eq_true_eq] at h1
            obtain ⟨⟨⟨h1, h2⟩, h3⟩, h4⟩ := h1
            obtain ⟨ys, e1, rfl⟩ := Option.map_eq_some_iff.mp h
            have L := s_list hr g0 e1
            obtain ⟨Ca, f, fd, ps, mc, q1, q2, q3, q4⟩ := g0.b.sup _ (by simpa using h2)
            rw [← g0.hK] at q1 q2 q4
            obtain ⟨v1, v2, v3, v4⟩ := c_var h3 g0
            exact vs_sup q1 q2 g0.room q4 g0.px (g0.glo h1).1 q3 (g0.glo h1).2 v1 v2 v3 v4 L.1 L.2 (mth_eval (o := .Name _ _) rfl (by rw [List.all_cons, L.2]; rfl) (by simp only [List.length_cons]; omega) hl) rfl
          · cases h
        · cases h
      · cases h
    · cases h
  · cases h
theorem ownV_no {ee : Ex} (h : isVar ee = false) (E : SEnv) : ownV E ee = none := by
  cases ee <;> first | rfl | cases h
theorem s_ret {m : Nat} {e : Expr} {s : Sx} (h : cRet (cB (cE M m K) K) K e = some s) (g : GoodS M T C G n Y K X) (B : Bs) : PS X (.Return (some e) pos) (tS T W C G Y B s) := by
  have hr : Snd M T C G n K (cB (cE M m K) K) := lend_snd (cE_ok m K)
  have g0 := g.g
  have gen : ∀ {h : ((cB (cE M m K) K e).bind fun y => if isVar y then none else some (.ret y)) = some s}, PS X (.Return (some e) pos) (tS T W C G Y B s) := fun {h} => by
    obtain ⟨y, e1, h⟩ := Option.bind_eq_some_iff.mp h
    split at h
    · cases h
    · rename_i hv
      cases h
      exact vs_ret (ownV_no (by simpa using hv)) (hr _ _ e1 X Y g0).1
  unfold cRet at h
  split at h
  · split at h
    · obtain ⟨i, e1, rfl⟩ := Option.map_eq_some_iff.mp h
      obtain ⟨v1, v2, v3, v4⟩ := c_var e1 g0
      exact vs_retN v1 v2 v3 v4
    · exact gen (h := h)
  · exact gen (h := h)
theorem s_rai {e : Expr} {s : Sx} (h : cRai M K e = some s) (g : GoodS M T C G n Y K X) (B : Bs) : PS X (.Raise (some e) none pos) (tS T W C G Y B s) := by
  have g0 := g.g
  unfold cRai at h
  split at h
  · split at h
    · rename_i h1
      rw [Bool.and_eq_true] at h1
      cases h
      obtain ⟨Ca, Bn, newId, initId, bmB, q1, q2, q3, q4, q5, q6⟩ := g0.b.exc _ (by simpa using h1.2)
      rw [← g0.hK] at q2 q4
      exact vs_rai g0.calm g.tk q1 q2 q3 q4 (q6 X g0.hK) (g0.glo h1.1).1 (g0.glo h1.1).2 q5
    · cases h
  · cases h
theorem s_asgD {m : Nat} {tg e : Expr} {s : Sx} (h : cAsgD M m K tg e = some s) (g : GoodS M T C G n Y K X) (B : Bs) : PS X (.Assign [tg] e pos) (tS T W C G Y B s) := by
  have hr : Snd M T C G n K (cE M m K) := cE_ok m K
  have g0 := g.g
  unfold cAsgD at h
  split at h
  · cases h
  split at h
  · split at h
    · rename_i hs
      obtain ⟨i, e1, h⟩ := Option.bind_eq_some_iff.mp h
      split at h
      · obtain ⟨t, e2, rfl⟩ := Option.map_eq_some_iff.mp h
        exact vs_asgDL g0.nodup (g0.ix e1) (g0.sto hs).1 (s_T g0 e2) (g0.sto hs).2
      · cases h
    · cases h
  · split at h
    · rename_i h1
      simp only [Bool.and_eq_true, beq_iff_eq] at h1
      obtain ⟨t, e2, rfl⟩ := Option.map_eq_some_iff.mp h
      obtain ⟨v1, v2, v3, v4⟩ := c_var h1.1.2 g0
      exact vs_fldD g0.hK (fun c Ca hc => ⟨(g0.b.isi c Ca hc).cls, g0.b.att _ (by simpa using h1.2) c Ca hc⟩) v1 v2 v3 v4 (s_T g0 e2).pe sw_att
    · cases h
  · split at h
    · rename_i h1
      obtain ⟨q, e1, h⟩ := Option.bind_eq_some_iff.mp h
      obtain ⟨y, e2, h⟩ := Option.bind_eq_some_iff.mp h
      obtain ⟨z, e3, rfl⟩ := Option.map_eq_some_iff.mp h
      exact vs_mutS (Nat.lt_of_le_of_lt (by omega) g0.un65) (s_P hr g0 e1) (hr _ _ e2 X Y g0).1 (hr _ _ e3 X Y g0).1 h1 sw_sub sole_sub (by cases e <;> rfl)
    · cases h
  · cases h
theorem sw_call {e : Expr} {l : Nat} {env : PySem.Env} (h : isCall e = true) : swapsWith e none l env = pure false := by
  cases e <;> first | rfl | cases h
theorem s_expD {m : Nat} {e : Expr} {s : Sx} (h : cExpD M m K e = some s) (g : GoodS M T C G n Y K X) (B : Bs) : PS X (.Expr e pos) (tS T W C G Y B s) := by
  have hr : Snd M T C G n K (cE M m K) := cE_ok m K
  have g0 := g.g
  unfold cExpD at h
  split at h
  · cases h
  split at h
  · rename_i q e1
    cases h
    obtain ⟨h1, h2⟩ := s_X hr e1 g0 B
    exact vs_callX h1 (sw_call h2)
  · split at h
    · split at h
      · rename_i h0
        rw [Bool.and_eq_true] at h0
        obtain ⟨q, e1, h'⟩ := Option.bind_eq_some_iff.mp h
        clear h
        have h := h'
        split at h
        · split at h
          · rename_i hs
            split at h
            · rename_i hx
              subst hx
              obtain ⟨t, e2, rfl⟩ := Option.map_eq_some_iff.mp h
              exact vs_mutA (s_P hr g0 e1) h0.1 (s_T g0 e2).pe hs h0.2
            · split at h
              · rename_i hx
                subst hx
                obtain ⟨t, e2, rfl⟩ := Option.map_eq_some_iff.mp h
                exact vs_mutR (s_P hr g0 e1) h0.1 (hr _ _ e2 X Y g0).1 hs h0.2
              · cases h
          · cases h
        · split at h
          · rename_i hx
            subst hx
            cases h
            exact vs_mutC (s_P hr g0 e1) h0.1 h0.2
          · cases h
        · cases h
      · cases h
    · cases h
theorem s_forM {tg it : Expr} {b : List Stmt} {s : Sx} (h : cForM K tg it b = some s) (g : GoodS M T C G n Y K X) (B : Bs) : PS X (.For tg it b [] pos) (tS T W C G Y B s) := by
  have g0 := g.g
  unfold cForM at h
  split at h
  · cases h
  obtain ⟨⟨x, y⟩, e1, h'⟩ := Option.bind_eq_some_iff.mp h
  clear h
  unfold clrOf at e1
  split at e1
  rotate_left
  · cases e1
  split at e1
  rotate_left
  · cases e1
  rename_i hx
  obtain ⟨rfl, rfl, hl⟩ := hx
  cases e1
  have h := h'
  clear h'
  split at h
  · rename_i hs
    obtain ⟨i, e2, h⟩ := Option.bind_eq_some_iff.mp h
    obtain ⟨j, e3, rfl⟩ := Option.map_eq_some_iff.mp h
    obtain ⟨v1, v2, v3, v4⟩ := c_var e2 g0
    obtain ⟨w1, w2, w3, w4⟩ := c_dep e3 g0
    exact vs_forM g0.hK g.po g0.calm g0.nodup v1 (g0.sto hs).1 (g0.sto hs).2 v2 v3 v4 w1 w2 w3 w4 hl fun _ => rfl
  · cases h
theorem s_retD {m : Nat} {e : Expr} {s : Option Sx} {s' : Sx} (h : cRetD M m K e = some s) (hs : s = some s') (g : GoodS M T C G n Y K X) (B : Bs) : PS X (.Return (some e) pos) (tS T W C G Y B s') := by
  have hr : Snd M T C G n K (cB (cE M m K) K) := lend_snd (cE_ok m K)
  have g0 := g.g
  subst hs
  unfold cRetD at h
  split at h
  · have h := Option.some.inj h
    obtain ⟨x, e1, rfl⟩ := Option.map_eq_some_iff.mp h
    exact vs_retX (hr _ _ e1 X Y g0).1
  · split at h
    · have h := Option.some.inj h
      obtain ⟨x, e1, rfl⟩ := Option.map_eq_some_iff.mp h
      exact vs_retT (s_T g0 e1).pe
    · cases h
theorem s_retN {s : Sx} (h : cRetN K = some s) (B : Bs) : PS X (.Return none pos) (tS T W C G Y B s) := by
  unfold cRetN at h
  split at h
  · cases h
    exact vs_retXN
  · cases h
    exact vs_retNone
theorem x_tst {e : Expr} {neg : Bool} {p : Pos} (h : isCall e = true) : ∀ {t : TE}, PE X e t → PT X (match neg with | true => .UnaryOp .Not e p | false => e) (xTst neg t) := fun {t} he => by
  have hv : PT X e (tB t) := by
    cases e <;> first | (cases h; done) | exact pt_val he fun _ => rfl
  cases neg with
  | true => exact pt_not hv
  | false => exact hv
theorem s_ifX {m : Nat} {e : Expr} {q : Bool × Cal × Nat × Exs × Exs} {sa sb : List Stmt} {xa xb : Sxs} (h : cIfX M m K e = some q) (g : GoodS M T C G n Y K X) (B : Bs) (ha : PSs X sa (tSs T W C G Y B xa)) (hb : PSs X sb (tSs T W C G Y B xb)) : PS X (.If e sa sb pos) (tS T W C G Y B (.iteX q.1 q.2.1 q.2.2.1 q.2.2.2.1 q.2.2.2.2 xa xb)) := by
  have hr : Snd M T C G n K (cE M m K) := cE_ok m K
  have g0 := g.g
  unfold cIfX at h
  split at h
  · cases h
  split at h
  · rename_i p
    obtain ⟨q1, e1, rfl⟩ := Option.map_eq_some_iff.mp h
    obtain ⟨h1, h2⟩ := s_X hr e1 g0 B
    exact vs_iteX (x_tst (neg := true) (p := p) h2) h1 ha hb
  · obtain ⟨q1, e1, rfl⟩ := Option.map_eq_some_iff.mp h
    obtain ⟨h1, h2⟩ := s_X hr e1 g0 B
    exact vs_iteX (x_tst (neg := false) (p := pos) h2) h1 ha hb
/-- a compiler of statements that is sound -/
def SndS (M : Nm) (T : Tb) (W : Nat) (C : Fid → List D → R (D × Bool)) (G : GT) (n : Nat) (K : Kx) (c : Stmt → Option Sx) : Prop := ∀ st s, c st = some s → ∀ X Y, GoodS M T C G n Y K X → ∀ B, PS X st (tS T W C G Y B s)
theorem s_sts (hc : SndS M T W C G n K c) (g : GoodS M T C G n Y K X) (B : Bs) : ∀ {ss : List Stmt} {s : Sxs}, cSs c ss = some s → PSs X ss (tSs T W C G Y B s)
  | [], _, h => by
    simp only [cSs] at h
    cases h
    exact vs_nil
  | st :: ss, _, h => by
    unfold cSs at h
    obtain ⟨x, e1, h⟩ := Option.bind_eq_some_iff.mp h
    obtain ⟨y, e2, rfl⟩ := Option.map_eq_some_iff.mp h
    exact vs_cons (hc _ _ e1 X Y g B) (s_sts hc g B e2)
theorem cS1_ok {m : Nat} (hc : SndS M T W C G n K c) : SndS M T W C G n K (cS1 M m K c) := fun st s h X Y g B => by
  have hr : Snd M T C G n K (cB (cE M m K) K) := lend_snd (cE_ok m K)
  have g0 := g.g
  unfold cS1 at h
  split at h
  · split at h
    · rename_i e1
      cases h
      exact s_asgD e1 g B
    · exact s_asg h g B
  · split at h
    · rename_i e1
      cases h
      exact s_expD e1 g B
    · exact s_exp h g B
  · split at h
    · rename_i q e0
      obtain ⟨y, e2, h⟩ := Option.bind_eq_some_iff.mp h
      obtain ⟨z, e3, rfl⟩ := Option.map_eq_some_iff.mp h
      exact s_ifX e0 g B (s_sts hc g B e2) (s_sts hc g B e3)
    split at h
    · rename_i ht
      obtain ⟨x, e1, h⟩ := Option.bind_eq_some_iff.mp h
      obtain ⟨y, e2, h⟩ := Option.bind_eq_some_iff.mp h
      obtain ⟨z, e3, rfl⟩ := Option.map_eq_some_iff.mp h
      exact vs_ite ((hr _ _ e1 X Y g0).2 ht) (s_sts hc g B e2) (s_sts hc g B e3)
    · cases h
  · split at h
    · rename_i ht
      obtain ⟨x, e1, h⟩ := Option.bind_eq_some_iff.mp h
      obtain ⟨y, e2, rfl⟩ := Option.map_eq_some_iff.mp h
      exact vs_whl g.po ((hr _ _ e1 X Y g0).2 ht) (s_sts hc g B e2)
    · cases h
  · split at h
    · rename_i e0
      cases h
      exact s_forM e0 g B
    split at h
    · cases h
    · rename_i ht
      obtain ⟨t, e1, h⟩ := Option.bind_eq_some_iff.mp h
      obtain ⟨i, e2, h⟩ := Option.bind_eq_some_iff.mp h
      split at h
      rotate_left
      · cases h
      rename_i hn
      obtain ⟨y, e3, rfl⟩ := Option.map_eq_some_iff.mp h
      by_cases hv : ∃ j, i = .seq (.var j)
      · obtain ⟨j, rfl⟩ := hv
        obtain ⟨x, p, rfl, e4⟩ := itN_var hn
        obtain ⟨v1, v2, v3, v4⟩ := c_var e4 g0
        exact vs_forN g0.hK g.po g0.calm v1 v2 v3 v4 (s_it hr e2 g0) (s_tg e1 g0) (fun B => s_sts hc g B e3) fun x => fold_no (by simpa using ht)
      · exact vs_for g.po g0.calm (fun E => by
          unfold ownIt
          split
          · exact absurd ⟨_, rfl⟩ hv
          · rfl) (s_it hr e2 g0) (s_tg e1 g0) (fun B => s_sts hc g B e3) fun x => fold_no (by simpa using ht)
  · split at h
    · rename_i e0
      exact s_retD e0 h g B
    · exact s_ret h g B
  · exact s_retN h B
  · exact s_rai h g B
  · cases h
    exact vs_pass
  · cases h
theorem cS_ok {m : Nat} : ∀ k : Nat, SndS M T W C G n K (cS M m K k)
  | 0 => fun st s h => by simp [cS] at h
  | k + 1 => cS1_ok (cS_ok k)
end
end FS

/-! FS18: the promises of all defs, by the level. -/
namespace FS
open PySem L2 PyProof.Rows

/-- how a def is compiled -/
structure Hn where
  dep : List Nat
  io : Option Nat
  rt : Bool
  slf : Bool
def Hn.kx (h : Hn) (N : List Str) (sc : Scope) : Kx := ⟨N, sc, fun _ => true, h.dep, h.io, h.rt, h.slf⟩
/-- a def's body, compiled -/
def cF (M : Nm) (h : Hn) (N : List Str) (st : Stmt) : Option Sxs := cSs (cS M 40 (h.kx N (defScope st)) 40) (defBody st)
/-- a def as it stands -/
structure DefOk (M : Nm) (T : Tb) (K : PySem.W.Frag) (f : Addr) (fd : FuncData) (ps : List Str) (fid : Fid) (x : Str) : Prop where
  ex : ∃ qual st N g h, Fun K x qual st f fd ∧ FnScope N ps (defScope st) ∧ cF M h N st = some g.body ∧ T.fn fid = some g ∧ g.np = ps.length ∧ g.ns = N.length
  bi : Binds K fd ps []
  ba : ∀ us : List Value, us.length = ps.length → bindArgs fd ⟨us, []⟩ = pure (ps.zip us)
section
variable {M : Nm} {T : Tb} {W : Nat} {G : GT} {n : Nat} {P : Program} {w : World} {mg : Str → Option Value} {base : Heap} {f : Addr} {fd : FuncData} {ps N : List Str} {x qual : Str} {st : Stmt} {fid : Fid} {g : Fn} {hn : Hn}
theorem FnOk.nil {k : Nat} {sp : Sp} (h : ∀ vs H Q E, ¬ sp vs H Q E) : FnOk P w G.K mg base (L2.CX P w) k f fd ps sp := ⟨fun vs H Q E z => absurd z (h _ _ _ _), fun A outer s H args us vs Q E _ _ _ _ z => absurd z (h _ _ _ _)⟩
/-- a def's frame is a good place -/
theorem goodS_of {C : Fid → List D → R (D × Bool)} (GB : GoodB M T C G n P w mg base) (S : FnScope N ps (defScope st)) (cdv : Value) (A : Around) (outer : List PySem.Env) (s : Shared) (H : Hp) (E : XK) (hr : Room n (A.deeper (envOfC qual (defScope st) s.heap.objs.size f cdv))) :
    GoodS M T C G n E (hn.kx N (defScope st)) (cxOf (L2.CX P w) P w G.K mg base N qual (defScope st) f cdv A outer s H E) := by
  have tk : Takes (cxOf (L2.CX P w) P w G.K mg base N qual (defScope st) f cdv A outer s H E) fun cls d _ H => E cls d H := takes_of rfl rfl rfl rfl
  exact ⟨⟨GB, rfl, rfl, S.nd, rfl, S.kind, fun _ _ => rfl, rfl, hr, passes_call tk fun _ _ _ _ h => h⟩, passes_of rfl, tk⟩
theorem start_slot {g : Fn} {ds : List D} {vs : List V} {P' : Bool → Addr → Prop} {H : Hp} (h : Reps G P' H ds vs) : ∀ (i : Nat) (s : Slot), (ds.map (fun d => some (Slot.shr d false)) ++ List.replicate (g.ns - g.np) none)[i]? = some (some s) → ∃ d v, s = .shr d false ∧ ds[i]? = some d ∧ vs[i]? = some v ∧ Rep G P' H d v := by
  intro i s e
  rw [List.getElem?_append] at e
  split at e
  · rw [List.getElem?_map] at e
    cases hd : ds[i]? with
    | none => rw [hd] at e; cases e
    | some d =>
      rw [hd] at e
      cases e
      obtain ⟨v, h1, h2⟩ := h.get hd
      exact ⟨d, v, rfl, rfl, h1, h2⟩
  · rw [List.getElem?_replicate] at e
    split at e <;> cases e
theorem hL0 : (∀ p ∈ ([] : List (Nat × Addr × List D × Bool)), p.1 ∈ ([] : List Nat)) ∧ (∀ p ∈ (none : Option (Nat × V)), p.1 + 1000 ∈ ([] : List Nat)) ∧ ∀ p ∈ ([] : List (Nat × Addr × List V)), p.1 ∈ ([] : List Nat) := ⟨fun p hp => by simp at hp, fun p hp => by simp at hp, fun p hp => by simp at hp⟩
/-- no trees at the start -/
theorem simD_start {F : Fr} {E : SEnv} {σ : L2.St} {H : Hp} (h1 : ∀ i a, ¬ F.ex.rg i a) (h2 : F.io = none) (h5 : F.hk = []) (h3 : ∀ (i : Nat) (d : D), E[i]? ≠ some (some (.dep d))) (h4 : ∀ (i : Nat) (c : Str) (fs : List (Str × D)), E[i]? = some (some (.slf c fs)) → (∃ v, σ[i]? = some (some v) ∧ SlfR G F H (F.ex.rg i) c fs v) ∧ i = 0 ∧ ∀ (j : Nat) (c' : Str) (fs' : List (Str × D)) (n : Bool), E[j]? ≠ some (some (.own (.obj c' fs') n))) : SimD G F E σ H :=
  ⟨fun i d e => absurd e (h3 i d), fun i c fs e => (h4 i c fs e).1, fun i a z => absurd z (h1 i a), fun i _ a _ z => absurd z (h1 i a), fun _ j _ _ a _ _ z => h1 j a z, fun i a z => absurd z (h1 i a), fun p hp => (by rw [h2] at hp; cases hp), (fun i j c c' fs fs' n e => (h4 i c fs e).2.2 j c' fs' n), (fun i c fs e => (h4 i c fs e).2.1), fun p hp => by rw [h5] at hp; cases hp⟩
/-- a def, a method -/
theorem fn_ok (GB : GoodB M T (run T W n) G (n + 1) P w mg base) (F : Fun G.K x qual st f fd) (S : FnScope N ps (defScope st)) (hc : cF M hn N st = some g.body) (hT : T.fn fid = some g) (hp : g.np = ps.length) (hs : g.ns = N.length)
    (hfid : ∀ ds, run T W (n + 1) fid ds = if ds.length = g.np then endV (execs T W (run T W n) g.body [] (startE g ds)) else .bad) : FnOk P w G.K mg base (L2.CX P w) (n + 2) f fd ps (spC G (run T W (n + 1)) fid) := by
  refine F.okX S (fun vs H Q E h => ?_) (fun cdv A outer s H vs Q E hr h => ?_)
  · obtain ⟨P', ds, h1, h2⟩ := h
    rw [hfid] at h2
    split at h2
    · rename_i hl
      rw [h1.length, hl, hp]
    · exact h2.elim
  · obtain ⟨P', ds, h1, h2⟩ := h
    rw [hfid] at h2
    split at h2
    · rename_i hl
      have gs := goodS_of (hn := hn) (N := N) (qual := qual) (f := f) GB S cdv A outer s H E hr
      have hv := h1.length
      refine ⟨_, s_sts (W := W) (cS_ok 40) gs ⟨P', H, none, [], [], fun _ => False, none, [], [], hL0⟩ hc, ⟨fun _ => False, fun _ _ => False⟩, startE g ds, ⟨?_, fun a o _ _ e => e, fun i s e => ?_, fun i j d d' n n' v hij e _ _ => ?_, (fun q hq => by simp at hq), (fun a h => by simp at h), (fun q hq => by simp at hq), simD_start (fun _ _ z => z) rfl rfl (fun i d e => by obtain ⟨_, _, z, _⟩ := start_slot (g := g) h1 i _ e; cases z) fun i c fs e => by obtain ⟨_, _, z, _⟩ := start_slot (g := g) h1 i _ e; cases z⟩, ?_⟩
      · unfold L2.start startE
        simp [hv, hl, hp, hs]
      · obtain ⟨d, v, rfl, e1, e2, e3⟩ := start_slot (g := g) h1 i s e
        refine ⟨v, ?_, e3.weak fun k a z => ⟨fun z => z, .inr ⟨z, fun _ => rfl⟩⟩⟩
        unfold L2.start
        have hi : i < vs.length := (List.getElem?_eq_some_iff.mp e2).1
        rw [List.getElem?_append_left (by simpa using hi), List.getElem?_map, e2]
        rfl
      · obtain ⟨_, _, z, _⟩ := start_slot (g := g) h1 i _ e
        cases z
      · unfold endV at h2
        rw [R.sat_bind] at h2
        refine R.sat_mono h2 (fun z q => ?_) fun e z H' en => z H' fun b o eo => en b o (by simp) (fun z => z) eo
        cases z with
        | nx E' => exact fun ex σ' H' S' => q .non H' (fun b o eo => S'.ent b o (by simp) (fun z => z) eo) (by simp [Rep]) fun _ => ⟨[], by simp [RepT], by simp, fun a ha => by simp at ha⟩
        | rt d m => exact fun v H' en r rs => q v H' (fun b o eo => en b o (by simp) (fun z => z) eo) r rs
        | rx i d m => exact q.elim
    · exact h2.elim
/-- a maker -/
theorem ini_ok {c : Str} (GB : GoodB M T (run T W n) G (n + 1) P w mg base) (F : Fun G.K x qual st f fd) (S : FnScope N ps (defScope st)) (hc : cF M hn N st = some g.body) (hT : T.fn (.ini c) = some g) (hp : g.np = ps.length) (hs : g.ns = N.length) : FnOk P w G.K mg base (L2.CX P w) (n + 2) f fd ps (spI G (run T W (n + 1)) c) := by
  have go : ∀ (c' : Str) (ds : List D), run T W (n + 1) (.ini c) (.obj c' [] :: ds) = if ds.length + 1 = g.np then (execs T W (run T W n) g.body [] (startI T g c' [] ds)).bind fun f => iniEnd c' f
      else .bad := fun c' ds => by simp only [run, hT, List.length_cons]
  refine F.okX S (fun vs H Q E h => ?_) (fun cdv A outer s H vs Q E hr h => ?_)
  · obtain ⟨P', a, c', Ca, dx, ds, r, rfl, h0, h1, h2, h3⟩ := h
    rw [go] at h3
    split at h3
    · rename_i hl
      rw [List.length_cons, h2.length, hl, hp]
    · exact h3.elim
  · obtain ⟨P', a, c', Ca, dx, ds, r, rfl, h0, h1, h2, h3⟩ := h
    rw [go] at h3
    split at h3
    · rename_i hl
      have gs := goodS_of (hn := hn) (N := N) (qual := qual) (f := f) GB S cdv A outer s H E hr
      have hv := h2.length
      have head : ∃ s0, startI T g c' [] ds = some s0 :: (ds.map (fun d => some (Slot.shr d false)) ++ List.replicate (g.ns - g.np) none) ∧ (s0 = .own (.obj c' []) true ∨ s0 = .slf c' []) := by
        unfold startI
        split
        · exact ⟨_, rfl, .inr rfl⟩
        · exact ⟨_, rfl, .inl rfl⟩
      obtain ⟨s0, hE, hs0⟩ := head
      rw [hE] at h3
      have tail : ∀ (i : Nat) (sl : Slot), (some s0 :: (ds.map (fun d => some (Slot.shr d false)) ++ List.replicate (g.ns - g.np) none))[i + 1]? = some (some sl) → ∃ d v, sl = .shr d false ∧ ds[i]? = some d ∧ r[i]? = some v ∧ Rep G (iniP P' a) H d v := fun i sl e => start_slot (g := g) h2 i sl e
      have nox : ∀ c2 fs2 n2 i, (some s0 :: (ds.map (fun d => some (Slot.shr d false)) ++ List.replicate (g.ns - g.np) none))[i]? = some (some (.own (.obj c2 fs2) n2)) → i = 0 ∧ s0 = .own (.obj c2 fs2) n2 := fun c2 fs2 n2 i e => by
        cases i with
        | zero => cases e; exact ⟨rfl, rfl⟩
        | succ i => obtain ⟨_, _, z, _⟩ := tail i _ e; cases z
      refine ⟨_, s_sts (W := W) (cS_ok 40) gs ⟨iniP P' a, H, some a, [], [], fun _ => False, none, [], [], hL0⟩ hc, ?_⟩
      refine ⟨⟨fun b => b = a, fun _ _ => False⟩, some s0 :: (ds.map (fun d => some (Slot.shr d false)) ++ List.replicate (g.ns - g.np) none), ⟨?_, fun b o _ _ e => e, fun i s e => ?_, fun i j d d' n n' v hij e e' _ => ?_, (fun q hq => by simp at hq), (fun b h => ?_), (fun q hq => by simp at hq), simD_start (fun _ _ z => z) rfl rfl (fun i d e => ?_) fun i c2 fs e => ?_⟩, ?_⟩
      · unfold L2.start
        simp [hv, hl, hp, hs]
      · cases i with
        | zero =>
          cases e
          rcases hs0 with rfl | rfl
          · exact ⟨.ref a, rfl, a, rfl, rfl, rfl, Ca, dx, [], h0, h1, by simp [RepF]⟩
          · exact ⟨.ref a, rfl, trivial⟩
        | succ i =>
          obtain ⟨d, v, rfl, e1, e2, e3⟩ := tail i s e
          refine ⟨v, ?_, e3.weak fun k b z => ⟨z.2, .inr ⟨z, fun _ => rfl⟩⟩⟩
          unfold L2.start
          have hi : i < r.length := (List.getElem?_eq_some_iff.mp e2).1
          show (r.map some ++ _)[i]? = _
          rw [List.getElem?_append_left (by simpa using hi), List.getElem?_map, e2]
          rfl
      · cases i with
        | zero =>
          cases j with
          | zero => exact absurd rfl hij
          | succ j => obtain ⟨_, _, z, _⟩ := tail j _ e'; cases z
        | succ i => obtain ⟨_, _, z, _⟩ := tail i _ e; cases z
      · have : b = a := h.elim id fun z => z.elim (fun z => (Option.some.inj z).symm) False.elim
        subst this
        rw [h0]
        simp
      · cases i with
        | zero => cases e; rcases hs0 with z | z <;> cases z
        | succ i => obtain ⟨_, _, z, _⟩ := tail i _ e; cases z
      · cases i with
        | zero =>
          cases e
          rcases hs0 with z | z
          · cases z
          · cases z
            refine ⟨⟨.ref a, rfl, a, Ca, dx, [], [], rfl, rfl, rfl, h0, h1, by simp [RepTf], by simp, fun b hb => by simp at hb⟩, rfl, fun j c' fs' n e2 => ?_⟩
            obtain ⟨_, z⟩ := nox _ _ _ _ e2
            cases z
        | succ i => obtain ⟨_, _, z, _⟩ := tail i _ e; cases z
      · rw [R.sat_bind] at h3
        have en' : ∀ {H'}, EntB ⟨iniP P' a, H, some a, [], [], fun _ => False, none, [], [], hL0⟩ H' → But a H H' := fun {H'} en b o hb eo => en b o (fun z => hb (Option.some.inj z).symm) (fun z => z) eo
        refine R.sat_mono h3 (fun z q => ?_) fun e z H' en => z H' (en' en)
        cases z with
        | rt d m => exact q.elim
        | rx i d m => exact q.elim
        | nx E' =>
          intro ex σ' H' S'
          cases E' with
          | nil => exact q.elim
          | cons s0 E' =>
            cases s0 with
            | none => exact q.elim
            | some s0 =>
              cases s0 with
              | shr d m => exact q.elim
              | dep d => exact q.elim
              | slf c2 fs2 =>
                simp only [iniEnd] at q
                split at q
                · rename_i hcc
                  subst hcc
                  obtain ⟨v, e1, b, Ca2, dx2, ws2, fp, rfl, hself, hx, g1, g2, g3, g4, g5⟩ := S'.dp.slf 0 _ _ rfl
                  have : b = a := (Option.some.inj hself).symm
                  subst this
                  rw [h1] at g2
                  cases g2
                  have hfp : ∀ q ∈ fp, H q = none := fun q hq => by
                    rcases (S'.dp.rgm 0 q (g5 q hq)).1 with z | z
                    · exact z
                    · exact z.elim
                  have hP : ∀ q o, cl (Bs.fr ⟨iniP P' b, H, some b, [], [], fun _ => False, none, [], [], hL0⟩ ex) true false q → H' q = some o → outP H (iniP P' b) true false q ∧ H' q = some o := fun q o p e => ⟨outP_cl (B := ⟨iniP P' b, H, some b, [], [], fun _ => False, none, [], [], hL0⟩) p, e⟩
                  exact q H' (en' fun b o h1 h3 h2 => S'.ent b o h1 h3 h2) ⟨fs2, dx2, ws2, rfl, g1, RepTf.rep (fun q C d w p e => (hP q _ p e).1) _ _ _ (fun q hq => .inl (hfp q hq)) g3, fun _ => ⟨fp, RepTf.mono hP (fun _ _ _ e => e) _ _ _ (fun _ _ _ e => e) g3, g4, hfp⟩⟩
                · exact q.elim
              | own d m =>
                cases d with
                | obj c2 fs2 =>
                  simp only [iniEnd] at q
                  split at q
                  · rename_i hcc
                    subst hcc
                    obtain ⟨v, e1, b, rfl, hx, hself, Ca2, dx2, ws2, g1, g2, g3⟩ := S'.slot 0 _ rfl
                    have : b = a := (Option.some.inj hself).symm
                    subst this
                    rw [h1] at g2
                    cases g2
                    have r3 : RepF G (outP H (iniP P' b) (m && D.imm.immF fs2)) H' fs2 ws2 := g3.weak fun k b z => outP_cl (B := ⟨iniP P' _, H, _, [], [], fun _ => False, none, [], [], hL0⟩) (cl_le (fun z => (Bool.and_eq_true_iff.mp z).1) k b z)
                    refine q H' (en' fun b o h1 h3 h2 => S'.ent b o h1 h3 h2) ⟨fs2, dx2, ws2, rfl, g1, r3, fun hn => ?_⟩
                    simp only at hn
                    rw [hn] at r3
                    exact ⟨[], RepF.tree _ _ (Bool.and_eq_true_iff.mp hn).2 r3, by simp, fun b hb => by simp at hb⟩
                  · exact q.elim
                | _ => exact q.elim
    · exact h3.elim

theorem set_mid {α : Type} {l1 l2 : List α} {x y : α} {i : Nat} (h : l1.length = i) : (l1 ++ x :: l2).set i y = l1 ++ y :: l2 := by
  subst h
  simp
theorem startX_eq {g : Fn} {i : Nat} {ds1 ds2 : List D} {d : D} (h : ds1.length = i) : startX g i (ds1 ++ d :: ds2) = (startE g (ds1 ++ .non :: ds2)).set i (some (.dep d)) := by
  have e : (ds1 ++ d :: ds2).getD i .non = d := by subst h; simp
  unfold startX startE
  rw [e]
  simp only [List.map_append, List.map_cons, List.append_assoc, List.cons_append]
  rw [set_mid (by simpa using h), set_mid (by simpa using h)]
theorem startX_slot {g : Fn} {i : Nat} {ds1 ds2 : List D} {d : D} {vs1 vs2 : List V} {v : V} {P' : Bool → Addr → Prop} {H : Hp} (h : ds1.length = i) (hv : vs1.length = i) (r1 : Reps G P' H ds1 vs1) (r2 : Reps G P' H ds2 vs2) : ∀ (j : Nat) (s : Slot), (startX g i (ds1 ++ d :: ds2))[j]? = some (some s) → (j = i ∧ s = .dep d) ∨ (j ≠ i ∧ ∃ d' v', s = .shr d' false ∧ (vs1 ++ v :: vs2)[j]? = some v' ∧ Rep G P' H d' v') := by
  intro j s e
  rw [startX_eq h, List.getElem?_set] at e
  split at e
  · rename_i z
    split at e
    · cases e; exact .inl ⟨z.symm, rfl⟩
    · cases e
  · rename_i hj
    refine .inr ⟨fun z => hj z.symm, ?_⟩
    have r : Reps G P' H (ds1 ++ .non :: ds2) (vs1 ++ .non :: vs2) := r1.append (by simp only [Reps]; exact ⟨_, _, rfl, by simp [Rep], r2⟩)
    obtain ⟨d', v', h1, _, h3, h4⟩ := start_slot r j s e
    refine ⟨d', v', h1, ?_, h4⟩
    have : vs1 ++ V.non :: vs2 = (vs1 ++ v :: vs2).set i .non := (set_mid hv).symm
    rw [this, List.getElem?_set_ne hj] at h3
    exact h3
/-- a def, a method that changes an argument -/
theorem fx_ok {i : Nat} (GB : GoodB M T (run T W n) G (n + 1) P w mg base) (F : Fun G.K x qual st f fd) (S : FnScope N ps (defScope st)) (hc : cF M hn N st = some g.body) (hp : g.np = ps.length) (hs : g.ns = N.length)
    (hfid : ∀ ds, run T W (n + 1) fid ds = if ds.length = g.np ∧ i < ds.length then endX i (execs T W (run T W n) g.body [i + 1000] (startX g i ds)) else .bad) : FnOk P w G.K mg base (L2.CX P w) (n + 2) f fd ps (spX G (run T W (n + 1)) fid i) := by
  refine F.okX S (fun vs H Q E h => ?_) (fun cdv A outer s H vs Q E hr h => ?_)
  · obtain ⟨P', ds1, d, ds2, vs1, v, vs2, fp, rfl, hi, r1, r2, rt, nd, dj, h⟩ := h
    rw [hfid] at h
    split at h
    · rename_i hl
      have e1 := r1.length
      have e2 := r2.length
      have := hl.1
      simp only [List.length_append, List.length_cons] at this ⊢
      omega
    · exact h.elim
  · obtain ⟨P', ds1, d, ds2, vs1, v, vs2, fp, rfl, hi, r1, r2, rt, nd, dj, h⟩ := h
    rw [hfid] at h
    split at h
    rotate_left
    · exact h.elim
    rename_i hl
    have gs := goodS_of (hn := hn) (N := N) (qual := qual) (f := f) GB S cdv A outer s H E hr
    have e1 := r1.length
    have e2 := r2.length
    have hd : ds1.length = i := by omega
    have hB : (∀ p ∈ ([] : List (Nat × Addr × List D × Bool)), p.1 ∈ [i + 1000]) ∧ (∀ p ∈ (some (i, v) : Option (Nat × V)), p.1 + 1000 ∈ [i + 1000]) ∧ ∀ p ∈ ([] : List (Nat × Addr × List V)), p.1 ∈ [i + 1000] := ⟨fun p hp => by simp at hp, fun p hp => by simp at hp; subst hp; simp, fun p hp => by simp at hp⟩
    have hLD := RepT.isLD d v fp rt
    have sl := startX_slot (g := g) (d := d) (v := v) (G := G) hd hi r1 r2
    have hlen : (vs1 ++ v :: vs2).length = g.np := by
      have := hl.1
      simp only [List.length_append, List.length_cons] at this ⊢
      omega
    have hσ : ∀ (j : Nat) (u : V), (vs1 ++ v :: vs2)[j]? = some u → (L2.start N (vs1 ++ v :: vs2))[j]? = some (some u) := fun j u e => by
      have hj : j < (vs1 ++ v :: vs2).length := (List.getElem?_eq_some_iff.mp e).1
      unfold L2.start
      rw [List.getElem?_append_left (by simpa using hj), List.getElem?_map, e]
      rfl
    have hvi : (vs1 ++ v :: vs2)[i]? = some v := by rw [List.getElem?_append_right (by omega)]; simp [hi]
    refine ⟨_, s_sts (W := W) (cS_ok 40) gs ⟨P', H, none, [], [], fun a => a ∈ fp, some (i, v), [], [i + 1000], hB⟩ hc, ⟨fun a => a ∈ fp, fun j a => j = i ∧ a ∈ fp⟩, startX g i (ds1 ++ d :: ds2), ⟨?_, fun a o _ _ e => e, fun j s e => ?_, fun j k d1 d2 n1 n2 w hjk e _ _ => ?_, (fun q hq => by simp at hq), (fun a z => ?_), (fun q hq => by simp at hq), ⟨fun j d1 e => ?_, fun j c fs e => ?_, fun j a z => ⟨z.2, hLD a z.2⟩, fun j k a hjk z1 z2 => hjk (z1.1.trans z2.1.symm), fun j k d1 n1 a e _ => ?_, fun j a z => ⟨.inr z.2, by simp⟩, fun p hp => ?_, fun j k c c' fs fs' n1 e _ => ?_, fun j c fs e => ?_, fun p hp => by simp at hp⟩⟩, ?_⟩
    · unfold L2.start startX startE
      have := hl.1
      simp only [List.length_append, List.length_cons] at this hlen
      simp [hs, hp]
      omega
    · rcases sl j s e with ⟨rfl, rfl⟩ | ⟨_, d', v', rfl, q1, q2⟩
      · exact ⟨v, hσ _ _ hvi, trivial⟩
      · exact ⟨v', hσ _ _ q1, q2.weak fun k a z => ⟨dj k a z, .inr ⟨z, fun _ => rfl⟩⟩⟩
    · rcases sl j _ e with ⟨_, z⟩ | ⟨_, _, _, z, _⟩ <;> cases z
    · have : a ∈ fp := z.elim id fun z => z.elim (fun z => nomatch z) id
      rcases hLD a this with ⟨vs, q⟩ | ⟨vs, q⟩ <;> rw [q] <;> simp
    · rcases sl j _ e with ⟨rfl, z⟩ | ⟨_, _, _, z, _⟩
      · cases z
        exact ⟨v, hσ _ _ hvi, fp, RepT.objs (fun a C dx ws p _ => ⟨dj _ a p, .inr ⟨p, fun z => nomatch z⟩⟩) _ _ _ rt, nd, fun a ha => ⟨rfl, ha⟩⟩
      · cases z
    · rcases sl j _ e with ⟨_, z⟩ | ⟨_, _, _, z, _⟩ <;> cases z
    · rcases sl j _ e with ⟨_, z⟩ | ⟨_, _, _, z, _⟩ <;> cases z
    · have hp : (i, v) = p := by simpa using hp
      subst hp
      exact hσ _ _ hvi
    · rcases sl j _ e with ⟨_, z⟩ | ⟨_, _, _, z, _⟩ <;> cases z
    · rcases sl j _ e with ⟨_, z⟩ | ⟨_, _, _, z, _⟩ <;> cases z
    · unfold endX at h
      rw [R.sat_bind] at h
      refine R.sat_mono h (fun z q => ?_) fun e z => z.elim
      cases z with
      | rt d m => exact q.elim
      | nx E' =>
        intro ex σ' H' S'
        cases hd2 : depO E'[i]? with
        | none => simp only [hd2] at q; exact q.elim
        | some d2 =>
          simp only [hd2] at q
          obtain ⟨v2, g1, fd2, g2, g3, g4⟩ := S'.dp.slot i d2 (depO_some hd2)
          have hi2 := S'.dp.io (i, v) rfl
          rw [hi2] at g1
          cases g1
          have hP : ∀ a o, cl (Bs.fr ⟨P', H, none, [], [], fun a => a ∈ fp, some (i, v), [], [i + 1000], hB⟩ ex) true false a → H' a = some o → outP H P' true false a ∧ H' a = some o := fun a o p e => ⟨outP_cl (B := ⟨P', H, none, [], [], fun a => a ∈ fp, some (i, v), [], [i + 1000], hB⟩) p, e⟩
          exact q .non d2 rfl .non H' [] fd2 (fun a o hn e => S'.ent a o (by simp) hn e) (fun a ha => S'.exH a (.inr (.inr ha))) (by simp [RepT]) (by simp) (fun a ha => by simp at ha) (RepT.mono hP (fun _ _ _ e => e) _ _ _ (fun _ _ _ e => e) g2) g3 (fun a ha => (S'.dp.rgm i a (g4 a ha)).1) fun a ha => by simp at ha
      | rx k d1 d2 =>
        simp only at q
        split at q
        rotate_left
        · exact q.elim
        rename_i hk
        subst hk
        intro u H' fr en hm t1 n1 w1 hio
        obtain ⟨fd2, g2, g3, g4, g5⟩ := hio v rfl
        exact q d1 d2 rfl u H' fr fd2 (fun a o hn e => en a o (by simp) hn e) hm t1 n1 w1 g2 g3 g4 g5

/-- the whole text: all that stands behind the top -/
structure TextOk (M : Nm) (T : Tb) (G : GT) (P : Program) (w : World) (mg : Str → Option Value) (base : Heap) (ad : Fid → Addr) (fdd : Fid → FuncData) (pss : Fid → List Str) : Prop where
  con : ∀ x ∈ M.con, ∃ d v u, T.con x = some d ∧ mg x = some u ∧ RelV v u ∧ ∀ F H, Post G F H H (mkI d) v
  fns : ∀ x ∈ M.fns, DefOk M T G.K (ad (.fn x)) (fdd (.fn x)) (pss (.fn x)) (.fn x) x ∧ mg x = some (.ref (ad (.fn x))) ∧ PySem.W.keepIn G.K (.ref (ad (.fn x))) = true
  ini : ∀ c, c ∈ M.mks ∨ c ∈ M.sup → ∃ Ca, G.cls c = some Ca ∧ mg c = some (.ref Ca) ∧ DefOk M T G.K (ad (.ini c)) (fdd (.ini c)) (pss (.ini c)) (.ini c) "__init__" ∧ (c ∈ M.mks → Mk G.K Ca (ad (.ini c))) ∧ (c ∈ M.sup → ∃ mc, SupF G.K Ca (ad (.ini c)) mc)
  cls : ∀ c ∈ M.cls, ∃ Ca, G.cls c = some Ca ∧ mg c = some (.ref Ca)
  isi : ∀ c Ca, G.cls c = some Ca → IsF T G c Ca
  att : ∀ f ∈ M.att, ∀ c Ca, G.cls c = some Ca → NoAttr G.K Ca f
  mth : ∀ m ∈ M.mth, (∀ c Ca b, G.cls c = some Ca → T.mro c m = some b → Meth G.K Ca m (ad (.me b m)) ∧ DefOk M T G.K (ad (.me b m)) (fdd (.me b m)) (pss (.me b m)) (.me b m) m) ∧ ∃ c b, T.mro c m = some b
  fxs : ∀ p ∈ M.fxs, DefOk M T G.K (ad (.fx p.1 p.2)) (fdd (.fx p.1 p.2)) (pss (.fx p.1 p.2)) (.fx p.1 p.2) p.1 ∧ mg p.1 = some (.ref (ad (.fx p.1 p.2))) ∧ PySem.W.keepIn G.K (.ref (ad (.fx p.1 p.2))) = true
  mxs : ∀ p ∈ M.mxs, (∀ c Ca b, G.cls c = some Ca → T.mro c p.1 = some b → Meth G.K Ca p.1 (ad (.mx b p.1 p.2)) ∧ DefOk M T G.K (ad (.mx b p.1 p.2)) (fdd (.mx b p.1 p.2)) (pss (.mx b p.1 p.2)) (.mx b p.1 p.2) p.1) ∧ ∃ c b, T.mro c p.1 = some b
  hC : ∀ m c b, T.mro c m = some b → ∃ Ca, G.cls c = some Ca
  blt : ∀ x ∈ blts, mg x = none
  exc : ∀ c ∈ M.exc, ∃ Ca Bn newId initId bmB, ExcBaseFacts Bn newId initId bmB ∧ PySem.W.excIn G.K Ca bmB newId = true ∧ mg c = some (.ref Ca) ∧ PySem.W.keepIn G.K (.ref Ca) = true ∧ G.ecls c = some Ca ∧ ∀ X : Cx, X.K = G.K → Raises X (.ref Ca)
variable {ad : Fid → Addr} {fdd : Fid → FuncData} {pss : Fid → List Str}
/-- the promises at a level -/
def Lv (M : Nm) (T : Tb) (W : Nat) (G : GT) (P : Program) (w : World) (mg : Str → Option Value) (base : Heap) (ad : Fid → Addr) (fdd : Fid → FuncData) (pss : Fid → List Str) (n : Nat) : Prop := ∀ fid x, DefOk M T G.K (ad fid) (fdd fid) (pss fid) fid x → match fid with
  | .ini c => FnOk P w G.K mg base (L2.CX P w) (n + 1) (ad (.ini c)) (fdd (.ini c)) (pss (.ini c)) (spI G (run T W n) c)
  | .mk _ => True
  | .fx x i => FnOk P w G.K mg base (L2.CX P w) (n + 1) (ad (.fx x i)) (fdd (.fx x i)) (pss (.fx x i)) (spX G (run T W n) (.fx x i) i)
  | .mx c m i => FnOk P w G.K mg base (L2.CX P w) (n + 1) (ad (.mx c m i)) (fdd (.mx c m i)) (pss (.mx c m i)) (spX G (run T W n) (.mx c m i) i)
  | fid => FnOk P w G.K mg base (L2.CX P w) (n + 1) (ad fid) (fdd fid) (pss fid) (spC G (run T W n) fid)
theorem lv_zero : Lv M T W G P w mg base ad fdd pss 0 := fun fid x _ => by
  have b : ∀ (f : Fid) (ds : List D), run T W 0 f ds = .bad := fun f ds => by cases f <;> rfl
  cases fid with
  | ini c =>
    refine FnOk.nil fun vs H Q E h => ?_
    obtain ⟨_, _, _, _, _, _, _, _, _, _, _, h⟩ := h
    rw [b] at h
    exact h
  | mk c => exact trivial
  | fn c =>
    refine FnOk.nil fun vs H Q E h => ?_
    obtain ⟨_, _, _, h⟩ := h
    rw [b] at h
    exact h
  | me c m =>
    refine FnOk.nil fun vs H Q E h => ?_
    obtain ⟨_, _, _, h⟩ := h
    rw [b] at h
    exact h
  | fx c i =>
    refine FnOk.nil fun vs H Q E h => ?_
    obtain ⟨_, _, _, _, _, _, _, _, _, _, _, _, _, _, _, h⟩ := h
    rw [b] at h
    exact h
  | mx c m i =>
    refine FnOk.nil fun vs H Q E h => ?_
    obtain ⟨_, _, _, _, _, _, _, _, _, _, _, _, _, _, _, h⟩ := h
    rw [b] at h
    exact h
theorem lv_good (TO : TextOk M T G P w mg base ad fdd pss) (L : Lv M T W G P w mg base ad fdd pss n) (L' : n = 0 ∨ ∃ m, n = m + 1 ∧ Lv M T W G P w mg base ad fdd pss m) : GoodB M T (run T W n) G (n + 1) P w mg base where
  con := TO.con
  fns := fun x hx => by
    obtain ⟨h1, h2, h3⟩ := TO.fns x hx
    exact ⟨_, _, _, L _ _ h1, h2, h3, h1.bi⟩
  mks := fun c hc => by
    obtain ⟨Ca, h1, h2, h3, h4, _⟩ := TO.ini c (.inl hc)
    rcases L' with rfl | ⟨m, rfl, Lm⟩
    · refine ⟨fun _ _ => .bad, 0, Ca, _, _, _, Nat.le_refl _, fun ds => by simp [run], h1, h4 hc, FnOk.nil fun vs H Q E h => ?_, h2, h3.bi⟩
      obtain ⟨_, _, _, _, _, _, _, _, _, _, _, h⟩ := h
      exact h
    · exact ⟨run T W m, m + 1, Ca, _, _, _, Nat.le_refl _, fun ds => by simp [run], h1, h4 hc, Lm _ _ h3, h2, h3.bi⟩
  sup := fun c hc => by
    obtain ⟨Ca, h1, h2, h3, _, h4⟩ := TO.ini c (.inr hc)
    obtain ⟨mc, h4⟩ := h4 hc
    exact ⟨Ca, _, _, _, mc, h4, L _ _ h3, h2, h3.bi⟩
  cls := TO.cls
  isi := TO.isi
  att := TO.att
  mth := fun m hm => by
    obtain ⟨h1, h2⟩ := TO.mth m hm
    refine ⟨fun c Ca b hc hb => ?_, h2⟩
    obtain ⟨h3, h4⟩ := h1 c Ca b hc hb
    exact ⟨(TO.isi c Ca hc).cls, _, _, _, h3, L _ _ h4, h4.bi⟩
  fxs := fun p hp => by
    obtain ⟨h1, h2, h3⟩ := TO.fxs p hp
    exact ⟨_, _, _, L _ _ h1, h2, h3, h1.bi⟩
  mxs := fun p hp => by
    obtain ⟨h1, h2⟩ := TO.mxs p hp
    refine ⟨fun c Ca b hc hb => ?_, h2⟩
    obtain ⟨h3, h4⟩ := h1 c Ca b hc hb
    exact ⟨(TO.isi c Ca hc).cls, _, _, _, h3, L _ _ h4, h4.bi⟩
  hC := TO.hC
  blt := TO.blt
  exc := TO.exc
theorem lv_succ (GB : GoodB M T (run T W n) G (n + 1) P w mg base) : Lv M T W G P w mg base ad fdd pss (n + 1) := fun fid x h => by
  obtain ⟨qual, st, N, g, hn, F, S, hc, hT, hp, hs⟩ := h.ex
  cases fid with
  | ini c => exact ini_ok GB F S hc hT hp hs
  | mk c => exact trivial
  | fn c => exact fn_ok GB F S hc hT hp hs fun ds => by simp only [run, hT]
  | me c m => exact fn_ok GB F S hc hT hp hs fun ds => by simp only [run, hT]
  | fx c i => exact fx_ok GB F S hc hp hs fun ds => by simp only [run, hT]
  | mx c m i => exact fx_ok GB F S hc hp hs fun ds => by simp only [run, hT]
theorem lv_all (TO : TextOk M T G P w mg base ad fdd pss) : ∀ n, Lv M T W G P w mg base ad fdd pss n ∧ (n = 0 ∨ ∃ m, n = m + 1 ∧ Lv M T W G P w mg base ad fdd pss m)
  | 0 => ⟨lv_zero, .inl rfl⟩
  | n + 1 => ⟨lv_succ (lv_good TO (lv_all TO n).1 (lv_all TO n).2), .inr ⟨n, rfl, (lv_all TO n).1⟩⟩
/-- the law's own promise -/
theorem law_ok {lw : Str} (TO : TextOk M T G P w mg base ad fdd pss) (h : lw ∈ M.fns) (n : Nat) : FnOk P w G.K mg base (L2.CX P w) (n + 1) (ad (.fn lw)) (fdd (.fn lw)) (pss (.fn lw)) (spC G (run T W n) (.fn lw)) := (lv_all TO n).1 _ _ (TO.fns lw h).1
/-- from the value to the promise's end -/
theorem law_end {C : Fid → List D → R (D × Bool)} {lw : Str} {H : Hp} {a : Addr} {ns : List Int} {m : Bool} (hO : Only H) (hS : SqL G.K H a (ns.map V.int)) (h : C (.fn lw) [.scr ns] = .ok (.bl true, m)) : spC G C (.fn lw) [.ref a] H (fun v _ => v = .bl true) fun _ _ _ => False := by
  refine ⟨fun _ _ => True, [.scr ns], ?_, ?_⟩
  · simp only [Reps, Rep]
    refine ⟨_, _, rfl, ⟨a, rfl, ?_⟩, rfl⟩
    rcases hS with (hS | hS) | hS
    · rcases hO a with z | ⟨o, xs, z⟩
      · rw [hS] at z; cases z
      · rw [hS] at z; cases z
    · exact .inl hS
    · exact .inr hS
  · rw [h]
    intro v H' _ r _
    simpa [Rep] using r
end
end FS

/-! FS19: from the written part of the heap to the promises; the law's end. -/
namespace FS
open PySem L2 PyProof.Rows

def lk {α : Type} (x : Str) : List (Str × α) → Option α
  | [] => none
  | (y, a) :: r => if x = y then some a else lk x r
def clsA (K : PySem.W.Frag) (c : Str) : Option Addr := match PySem.W.nsIn K mainGlobals c with
  | some (some (.ref a)) => some a
  | _ => none
def gt (rules excs : List Str) (K : PySem.W.Frag) : GT := ⟨K, fun c => if rules.contains c then clsA K c else none, fun c => if excs.contains c then clsA K c else none⟩
def fnA (K : PySem.W.Frag) (c m : Str) : Addr := match clsA K c with
  | some a => match PySem.W.findIn K (.ref a) m with
    | some (some (.ref f)) => f
    | _ => 0
  | none => 0
def adK (K : PySem.W.Frag) : Fid → Addr
  | .fn x => (clsA K x).getD 0
  | .ini c => fnA K c "__init__"
  | .me c m => fnA K c m
  | .mk _ => 0
  | .fx x _ => (clsA K x).getD 0
  | .mx c m _ => fnA K c m
def fdK (K : PySem.W.Frag) (f : Fid) : FuncData := match K.lookup (adK K f) with
  | some ⟨_, _, .func fd, _⟩ => fd
  | _ => PySem.W.fnOf "" "" { posonlyargs := [], args := [], vararg := none, kwonlyargs := [], kw_defaults := [], kwarg := none, defaults := [] } [] { kind := .function, names := [], isGenerator := false, isCoroutine := false } .none .none .none .none none .none .none
/-- a table of the defs: their texts, their names -/
structure Tab where
  fn : List (Str × Fn × List Str)
  ini : List (Str × Fn × List Str)
  me : List (Str × List (Str × Fn × List Str))
  con : List (Str × D)
  mro : List (Str × List (Str × Str))
  sub : List (Str × List Str)
  fx : List (Str × Nat × Fn × List Str)
  mx : List (Str × Str × Nat × Fn × List Str)
  ans : List Str
def lkX (x : Str) (i : Nat) : List (Str × Nat × Fn × List Str) → Option (Fn × List Str)
  | [] => none
  | (y, j, g) :: r => if x = y ∧ i = j then some g else lkX x i r
def lkM (c x : Str) (i : Nat) : List (Str × Str × Nat × Fn × List Str) → Option (Fn × List Str)
  | [] => none
  | (d, y, j, g) :: r => if c = d ∧ x = y ∧ i = j then some g else lkM c x i r
def Tab.get (t : Tab) : Fid → Option (Fn × List Str)
  | .fn x => lk x t.fn
  | .ini c => lk c t.ini
  | .me c m => (lk c t.me).bind fun l => lk m l
  | .mk _ => none
  | .fx x i => lkX x i t.fx
  | .mx c m i => lkM c m i t.mx
def Tab.tb (t : Tab) : Tb := ⟨fun c => t.ans.contains c, fun x => lk x t.con, fun f => (t.get f).map (·.1), fun c m => (lk c t.mro).bind fun l => lk m l, fun e c => match lk e t.sub with
  | some l => l.contains c
  | none => false⟩
def Tab.ps (t : Tab) (f : Fid) : List Str := match t.get f with
  | some (g, N) => N.take g.np
  | none => []
section
variable {M : Nm} {t : Tab} {rules excs : List Str} {K : PySem.W.Frag} {c x m qual : Str} {C f : Addr}
theorem clsA_of (h : PySem.W.nsIn K mainGlobals c = some (some (.ref C))) : clsA K c = some C := by
  unfold clsA
  rw [h]
theorem gt_cls (hc : rules.contains c = true) (h : PySem.W.nsIn K mainGlobals c = some (some (.ref C))) : (gt rules excs K).cls c = some C := by
  show (if rules.contains c then clsA K c else none) = some C
  rw [if_pos hc, clsA_of h]
theorem gt_ecls (hc : excs.contains c = true) (h : PySem.W.nsIn K mainGlobals c = some (some (.ref C))) : (gt rules excs K).ecls c = some C := by
  show (if excs.contains c then clsA K c else none) = some C
  rw [if_pos hc, clsA_of h]
theorem gt_in {Ca : Addr} (h : (gt rules excs K).cls c = some Ca) : c ∈ rules ∧ clsA K c = some Ca := by
  have h : (if rules.contains c then clsA K c else none) = some Ca := h
  split at h
  · rename_i hc
    exact ⟨by simpa using hc, h⟩
  · cases h
theorem ad_fn (h : PySem.W.nsIn K mainGlobals x = some (some (.ref f))) : adK K (.fn x) = f := by
  show (clsA K x).getD 0 = f
  rw [clsA_of h]
  rfl
theorem ad_fx {i : Nat} (h : PySem.W.nsIn K mainGlobals x = some (some (.ref f))) : adK K (.fx x i) = f := by
  show (clsA K x).getD 0 = f
  rw [clsA_of h]
  rfl
theorem fnA_of (h : PySem.W.nsIn K mainGlobals c = some (some (.ref C))) (h2 : PySem.W.findIn K (.ref C) m = some (some (.ref f))) : fnA K c m = f := by
  unfold fnA
  rw [clsA_of h]
  simp only
  rw [h2]
/-- a def's facts -/
theorem defOk_mk {T : Tb} {fid : Fid} {st : Stmt} {N ps : List Str} {g : Fn} {hn : Hn} {oc : Value} {od an : Option Addr} {osl : Array (Option Value)} {kV doc pm cdv ct : Value} (hA : adK K fid = f) (l : K.lookup f = some ⟨oc, od, .func (PySem.W.fnOf x qual (defArgs st) (defBody st) (defScope st) .none kV doc pm an cdv ct), osl⟩)
    (cd : PySem.W.codeIn K cdv qual = true) (kp : PySem.W.keepIn K (.ref f) = true) (hc : cF M hn N st = some g.body) (hT : T.fn fid = some g) (hp : g.np = ps.length) (hs : g.ns = N.length) (S : FnScope N ps (defScope st))
    (b : ∀ (kV doc pm : Value) (an : Option Addr) (cdv ct : Value) (us : List Value), us.length = ps.length → bindArgs (PySem.W.fnOf x qual (defArgs st) (defBody st) (defScope st) .none kV doc pm an cdv ct) ⟨us, []⟩ = pure (ps.zip us)) : DefOk M T K (adK K fid) (fdK K fid) ps fid x := by
  have e : fdK K fid = PySem.W.fnOf x qual (defArgs st) (defBody st) (defScope st) .none kV doc pm an cdv ct := by
    unfold fdK
    rw [hA, l]
  rw [e, hA]
  have F := fun_mk (st := st) l cd kp
  exact ⟨⟨qual, st, N, g, hn, F, S, hc, hT, hp, hs⟩, F.binds b, b _ _ _ _ _ _⟩
theorem scope_mk {N ps : List Str} {sc : Scope} (h : (decide (sc.kind = .function) && !sc.isCoroutine && !sc.isGenerator && decide N.Nodup && decide (N.take ps.length = ps) && ps.all (fun x => decide (sc.names.lookup x = some .local) || decide (sc.names.lookup x = some .cell)) && sc.names.all (fun y => !decide (y.2 = .free))) = true) : FnScope N ps sc := by
  simp only [Bool.and_eq_true, Bool.not_eq_true', decide_eq_true_eq, List.all_eq_true, Bool.or_eq_true, decide_eq_false_iff_not] at h
  obtain ⟨⟨⟨⟨⟨⟨h1, h2⟩, h3⟩, h4⟩, h5⟩, h6⟩, h7⟩ := h
  exact ⟨h1, h2, h3, h4, h5, h6, h7⟩
theorem con_mk {h : Heap} {mg : Str → Option Value} (X : K.In h) (Gl : h.Ns mainGlobals mg) {G : GT} {T : Tb} {i : Int} {tk : Tok} (hT : T.con x = some (.int i)) (e : PySem.W.nsIn K mainGlobals x = some (some (.int i tk))) : ∃ d v u, T.con x = some d ∧ mg x = some u ∧ RelV v u ∧ ∀ F H, Post G F H H (mkI d) v :=
  ⟨.int i, .int i, .int i tk, hT, PySem.W.mg_of X Gl e, ⟨_, rfl⟩, fun F H => Post.int⟩
/-- from the defs to the law -/
theorem walk {l : PySem.W.OpenLaw} {q : Program} {loose : List Str} {XP : (Str → Option Value) → Heap → Prop} {YP : World → Heap → Prop} {d : DefRec} {K : Params → PySem.W.Frag} {n W : Nat} {lw xs : Str} (hn : l.most = some 63) (hdf : d.params.defaults = []) (hk : Room (n + 1) callerA) (hnm : d.name = lw) (hlw : lw ∈ M.fns) (hps : t.ps (.fn lw) = [xs])
    (hY : ∀ (w : World) (h : Heap), YP w h → (K w.params).In h)
    (F : ∀ (w : World) (mg : Str → Option Value) (h : Heap), (K w.params).In h → h.Ns mainGlobals mg → (∀ base : Heap, TextOk M t.tb (gt rules excs (K w.params)) l.prog w mg base (adK (K w.params)) (fdK (K w.params)) t.ps))
    (hrun : ∀ ns : List Int, ns.length ≤ 63 → ∃ m, run t.tb W n (.fn lw) [.scr ns] = .ok (.bl true, m)) :
    PySem.W.WalkO q loose XP YP l.row.toRowW d [] (fun f vs => PySem.call f vs) :=
  L2.walk_of (n := 63) (k := n + 1) (x := xs) (CX := fun w => L2.CX l.prog w) (sp := fun w => spC (gt rules excs (K w.params)) (run t.tb W n) (.fn lw)) hn (by decide) hdf hk hY (fun w mg fa h KX Gl hmg => by
    have TO := F w mg h KX Gl
    obtain ⟨_, h2, _⟩ := (TO h).fns lw hlw
    rw [hnm, h2] at hmg
    have e : adK (K w.params) (.fn lw) = fa := by
      have := Option.some.inj hmg
      cases this
      rfl
    refine ⟨fdK (K w.params) (.fn lw), fun s u => ?_, fun base KB GB => ?_⟩
    · obtain ⟨h1, _, _⟩ := (TO h).fns lw hlw
      have b := h1.ba [u] (by rw [hps]; rfl)
      rw [hps] at b
      exact .of_eq b
    · have := law_ok (W := W) (TO base) hlw n
      rw [hps, e] at this
      exact this) (fun w H a ns hl hO hS => by
    obtain ⟨m, hm⟩ := hrun ns hl
    exact law_end hO hS hm) fun w H s e s' c => by
    obtain ⟨_, _, _, _, _, _, _, _, _, _, _, _, z⟩ := c
    exact z
end
end FS

namespace FS
open PySem L2
def f_is_number : Fn := ⟨3, 3,
  (.cons (.ret (.and (.bi (.isi .int) (.cons (.var 0) .nil)) (.and (.un .Not (.bi (.isi .bool) (.cons (.var 0) .nil))) (.chn .LtE .LtE (.var 1) (.var 0) (.var 2)))))
  .nil)⟩
def f_is_number_n : List Str := ["thing", "least", "most"]
def f_are_numbers : Fn := ⟨3, 4,
  (.cons (.ret (.and (.bi (.isi .list) (.cons (.var 0) .nil)) (.bi .all (.cons (.comp (.call (.fn "is_number") (.cons (.var 3) (.cons (.var 1) (.cons (.var 2) .nil)))) (.nm 3) (.seq (.var 0)) (.con (.bl true)) [3]) .nil))))
  .nil)⟩
def f_are_numbers_n : List Str := ["things", "least", "most", "thing"]
def f_asked_things : Fn := ⟨2, 2,
  (.cons (.ite (.or (.un .Not (.call (.fn "are_numbers") (.cons (.var 0) (.cons (.con (.int 0)) (.cons (.bin .Sub (.var 1) (.con (.int 1))) .nil))))) (.cmp .Lt (.bi .lenset (.cons (.var 0) .nil)) (.bi .len (.cons (.var 0) .nil))))
  (.cons (.rai "BadThing")
  .nil)
  .nil)
  (.cons (.ret (.bi .list (.cons (.var 0) .nil)))
  .nil))⟩
def f_asked_things_n : List Str := ["some", "many"]
def f_passed_on : Fn := ⟨3, 7,
  (.cons (.asg 3 (.var 2))
  (.cons (.whl (.con (.bl true))
  (.cons (.asg 4 (.idx (.var 1) (.var 3)))
  (.cons (.asg 5 (.bor (.keq 6 0 (.var 4))))
  (.cons (.mut 0 [] (.set (.var 3) (.var 4)))
  (.cons (.ite (.cmp .Eq (.var 5) (.lst .nil))
  (.cons (.retX 0 (.con .non))
  .nil)
  .nil)
  (.cons (.asg 3 (.idx (.var 5) (.con (.int 0))))
  .nil))))))
  .nil))⟩
def f_passed_on_n : List Str := ["owners", "asked", "post", "free", "one", "old", "other"]
def f_law_cell_at : Fn := ⟨2, 2,
  (.cons (.ite (.cmp .Lt (.var 1) (.bi .len (.cons (.var 0) .nil)))
  (.cons (.ret (.idx (.var 0) (.var 1)))
  .nil)
  .nil)
  (.cons (.ret (.con (.int 0)))
  .nil))⟩
def f_law_cell_at_n : List Str := ["_law_script", "_law_k"]
def f_law_draw : Fn := ⟨3, 4,
  (.cons (.asg 3 (.bin .Mod (.bin .Add (.bin .Add (.bin .Mult (.bin .Mod (.var 0) (.con (.int 1000000007))) (.con (.int 48271))) (.bin .Mult (.var 1) (.con (.int 69621)))) (.con (.int 7))) (.con (.int 1000000007))))
  (.cons (.ret (.bin .Mod (.bin .Mod (.bin .FloorDiv (.bin .Mult (.var 3) (.var 3)) (.con (.int 1013))) (.con (.int 1000003))) (.var 2)))
  .nil))⟩
def f_law_draw_n : List Str := ["_law_cell", "_law_k", "_law_many", "_law_mixed"]
def f_law_posts : Fn := ⟨1, 7,
  (.cons (.asg 1 (.lst (.cons (.tup .nil) .nil)))
  (.cons (.for (.nm 2) (.seq (.var 0))
  (.cons (.asg 3 (.lst .nil))
  (.cons (.for (.nm 4) (.seq (.var 1))
  (.cons (.for (.nm 5) (.seq (.var 2))
  (.cons (.asg 6 (.bi .tuple (.cons (.bi .sorted (.cons (.bin .Add (.bi .list (.cons (.var 4) .nil)) (.lst (.cons (.var 5) .nil))) .nil)) .nil)))
  (.cons (.ite (.and (.cmp .NotIn (.var 5) (.var 4)) (.cmp .NotIn (.var 6) (.var 3)))
  (.cons (.app 3 (.var 6))
  .nil)
  .nil)
  .nil)))
  .nil))
  (.cons (.asg 1 (.var 3))
  .nil))))
  (.cons (.ret (.cmp .NotEq (.var 1) (.lst .nil)))
  .nil)))⟩
def f_law_posts_n : List Str := ["_law_wants", "_law_ways", "_law_posts_here", "_law_more", "_law_way", "_law_post", "_law_one"]
def f_law : Fn := ⟨1, 14,
  (.cons (.asg 1 (.bin .Mod (.call (.fn "_law_cell_at") (.cons (.var 0) (.cons (.con (.int 0)) .nil))) (.con (.int 13))))
  (.cons (.asg 2 (.bin .Mod (.call (.fn "_law_cell_at") (.cons (.var 0) (.cons (.con (.int 1)) .nil))) (.con (.int 27))))
  (.cons (.asg 3 (.lst .nil))
  (.cons (.for (.nm 4) (.rng1 (.var 1))
  (.cons (.asg 5 (.bin .Add (.call (.fn "_law_cell_at") (.cons (.var 0) (.cons (.bin .Add (.con (.int 2)) (.bin .Mod (.var 4) (.con (.int 9)))) .nil))) (.bin .Mult (.con (.int 977)) (.var 4))))
  (.cons (.app 3 (.rev (.comp (.bin .Add (.var 2) (.var 6)) (.nm 6) (.rng1 (.con (.int 5))) (.cmp .Lt (.call (.fn "_law_draw") (.cons (.bin .Add (.var 5) (.bin .Mult (.con (.int 31)) (.var 6))) (.cons (.con (.int 0)) (.cons (.con (.int 5)) .nil)))) (.con (.int 2))) [6])))
  (.cons (.ite (.cmp .Eq (.call (.fn "_law_draw") (.cons (.var 5) (.cons (.con (.int 1)) (.cons (.con (.int 9)) .nil)))) (.con (.int 0)))
  (.cons (.set 3 (.var 4) (.lst (.cons (.call (.fn "_law_draw") (.cons (.var 5) (.cons (.con (.int 2)) (.cons (.con (.int 31)) .nil)))) .nil)))
  .nil)
  .nil)
  .nil))))
  (.cons (.asgD 7 (.comp (.bi .list (.cons (.var 8) .nil)) (.nm 8) (.seq (.var 3)) (.con (.bl true)) [8]))
  (.cons (.asg 9 (.bor (.call (.mk "Posts") (.cons (.var 7) .nil))))
  (.cons (.ite (.bor (.or (.cmp .NotEq (.var 7) (.var 3)) (.or (.un .Not (.bi (.isi (.cls "Rule")) (.cons (.var 9) .nil))) (.cmp .NotEq (.mth (.var 9) "many" .nil) (.var 1)))))
  (.cons (.ret (.con (.bl false)))
  .nil)
  .nil)
  (.cons (.forM 7 8 .clr)
  (.cons (.for (.nm 10) (.rng1 (.con (.int 8)))
  (.cons (.asg 5 (.bin .Add (.call (.fn "_law_cell_at") (.cons (.var 0) (.cons (.var 10) .nil))) (.bin .Mult (.con (.int 31)) (.var 10))))
  (.cons (.asg 11 (.comp (.var 4) (.nm 4) (.rng1 (.var 1)) (.cmp .Eq (.call (.fn "_law_draw") (.cons (.bin .Add (.var 5) (.bin .Mult (.con (.int 41)) (.var 4))) (.cons (.con (.int 3)) (.cons (.bin .Add (.con (.int 2)) (.bin .Mod (.var 10) (.con (.int 3)))) .nil)))) (.con (.int 0))) [4]))
  (.cons (.asg 12 (.rev (.var 11)))
  (.cons (.asg 13 (.mth (.var 9) "free" (.cons (.var 12) .nil)))
  (.cons (.ite (.or (.un .Not (.bi (.isi .bool) (.cons (.var 13) .nil))) (.or (.cmp .NotEq (.var 13) (.call (.fn "_law_posts") (.cons (.comp (.idx (.var 3) (.var 4)) (.nm 4) (.seq (.var 11)) (.con (.bl true)) [4]) .nil))) (.cmp .NotEq (.var 12) (.rev (.var 11)))))
  (.cons (.ret (.con (.bl false)))
  .nil)
  .nil)
  .nil))))))
  (.cons (.ret (.cmp .Is (.mth (.var 9) "free" (.cons (.lst .nil) .nil)) (.con (.bl true))))
  .nil))))))))))⟩
def f_law_n : List Str := ["_law_script", "_law_n", "_law_first", "_law_wants", "_law_k", "_law_cell", "_law_p", "_law_handed", "_law_posts_here", "_law_rule", "_law_at", "_law_some", "_law_asked", "_law_found"]
def i_Rule : Fn := ⟨2, 2,
  (.cons (.ite (.un .Not (.call (.fn "is_number") (.cons (.var 1) (.cons (.con (.int 0)) (.cons (.glb "MOST") .nil)))))
  (.cons (.rai "BadRule")
  .nil)
  .nil)
  (.cons (.fld "size" (.var 1))
  .nil))⟩
def i_Rule_n : List Str := ["self", "size"]
def m_Rule_many : Fn := ⟨1, 1,
  (.cons (.ret (.att (.var 0) "size"))
  .nil)⟩
def m_Rule_many_n : List Str := ["self"]
def m_Rule_free : Fn := ⟨2, 2,
  (.cons (.ret (.mth (.var 0) "stands" (.cons (.call (.fn "asked_things") (.cons (.var 1) (.cons (.att (.var 0) "size") .nil))) .nil)))
  .nil)⟩
def m_Rule_free_n : List Str := ["self", "some"]
def m_Rule_stands : Fn := ⟨2, 2,
  (.cons (.ret (.cmp .Eq (.var 1) (.lst .nil)))
  .nil)⟩
def m_Rule_stands_n : List Str := ["self", "some"]
def i_Posts : Fn := ⟨2, 3,
  (.cons (.ite (.un .Not (.bi (.isi .list) (.cons (.var 1) .nil)))
  (.cons (.rai "BadRule")
  .nil)
  .nil)
  (.cons (.for (.nm 2) (.seq (.var 1))
  (.cons (.ite (.or (.un .Not (.call (.fn "are_numbers") (.cons (.var 2) (.cons (.con (.int 0)) (.cons (.glb "POSTS") .nil))))) (.cmp .Lt (.bi .lenset (.cons (.var 2) .nil)) (.bi .len (.cons (.var 2) .nil))))
  (.cons (.rai "BadRule")
  .nil)
  .nil)
  .nil))
  (.cons (.supi "Rule" (.cons (.bi .len (.cons (.var 1) .nil)) .nil))
  (.cons (.fld "wants" (.bi .tuple (.cons (.comp (.bi .tuple (.cons (.var 2) .nil)) (.nm 2) (.seq (.var 1)) (.con (.bl true)) [2]) .nil)))
  .nil))))⟩
def i_Posts_n : List Str := ["self", "wants", "posts"]
def m_Posts_stands : Fn := ⟨2, 4,
  (.cons (.asgD 2 (.im .dic0))
  (.cons (.for (.nm 3) (.seq (.var 1))
  (.cons (.iteX true (.me (.var 0) "given") 2 .nil (.cons (.var 3) .nil)
  (.cons (.ret (.con (.bl false)))
  .nil)
  .nil)
  .nil))
  (.cons (.ret (.con (.bl true)))
  .nil)))⟩
def m_Posts_stands_n : List Str := ["self", "some", "owners", "thing"]
def m_Posts_given : Fn := ⟨3, 7,
  (.cons (.asg 3 .dic0)
  (.cons (.asg 4 (.lst (.cons (.var 2) .nil)))
  (.cons (.whl (.cmp .NotEq (.var 4) (.lst .nil))
  (.cons (.popA 5 4 (.con (.int 0)))
  (.cons (.for (.nm 6) (.seq (.idx (.att (.var 0) "wants") (.var 5)))
  (.cons (.ite (.cmp .NotIn (.var 6) (.var 3))
  (.cons (.set 3 (.var 6) (.var 5))
  (.cons (.ite (.bor (.cmp .NotIn (.var 6) (.var 1)))
  (.cons (.callX (.fn "passed_on") 1 .nil (.cons (.var 3) (.cons (.var 6) .nil)))
  (.cons (.retX 1 (.con (.bl true)))
  .nil))
  .nil)
  (.cons (.app 4 (.bor (.idx (.var 1) (.var 6))))
  .nil)))
  .nil)
  .nil))
  .nil)))
  (.cons (.retX 1 (.con (.bl false)))
  .nil))))⟩
def m_Posts_given_n : List Str := ["self", "owners", "thing", "asked", "waiting", "one", "post"]

def top (i : Nat) : Stmt := PySem.Challenge.pw_freesets_k03_posts.main.body.getD i (.Pass ⟨0, 0, 0, 0⟩)
def nms : Nm := { con := ["MOST", "POSTS"], fns := ["_law_cell_at", "_law_draw", "_law_posts", "are_numbers", "asked_things", "is_number", "law"], mks := ["Posts"], cls := ["Rule"], att := ["size", "wants"], mth := ["free", "many", "stands"], sup := ["Rule"], exc := ["BadRule", "BadThing"], fxs := [("passed_on", 0)], mxs := [("given", 1)] }
def tab : Tab where
  fn := [("is_number", (f_is_number, f_is_number_n)), ("are_numbers", (f_are_numbers, f_are_numbers_n)), ("asked_things", (f_asked_things, f_asked_things_n)), ("_law_cell_at", (f_law_cell_at, f_law_cell_at_n)), ("_law_draw", (f_law_draw, f_law_draw_n)), ("_law_posts", (f_law_posts, f_law_posts_n)), ("law", (f_law, f_law_n))]
  ini := [("Rule", (i_Rule, i_Rule_n)), ("Posts", (i_Posts, i_Posts_n))]
  me := [("Rule", [("many", (m_Rule_many, m_Rule_many_n)), ("free", (m_Rule_free, m_Rule_free_n)), ("stands", (m_Rule_stands, m_Rule_stands_n))]), ("Posts", [("stands", (m_Posts_stands, m_Posts_stands_n))])]
  con := [("MOST", .int 16), ("POSTS", .int 30)]
  mro := [("Rule", [("free", "Rule"), ("many", "Rule"), ("stands", "Rule")]), ("Posts", [("free", "Rule"), ("given", "Posts"), ("many", "Rule"), ("stands", "Posts")])]
  sub := [("Rule", ["Rule"]), ("Posts", ["Posts", "Rule"]), ("FreeError", ["FreeError"]), ("BadRule", ["BadRule", "FreeError"]), ("BadThing", ["BadThing", "FreeError"])]
  fx := [("passed_on", 0, (f_passed_on, f_passed_on_n))]
  mx := [("Posts", "given", 1, (m_Posts_given, m_Posts_given_n))]
  ans := []
abbrev rls : List Str := ["Rule", "Posts"]
abbrev exs : List Str := ["FreeError", "BadRule", "BadThing"]
theorem c_f_law_cell_at : cF nms ⟨[], none, false, false⟩ f_law_cell_at_n (top 14) = some f_law_cell_at.body := by rfl
theorem c_f_law_draw : cF nms ⟨[], none, false, false⟩ f_law_draw_n (top 15) = some f_law_draw.body := by rfl
theorem c_f_law_posts : cF nms ⟨[], none, false, false⟩ f_law_posts_n (top 16) = some f_law_posts.body := by rfl
theorem c_f_are_numbers : cF nms ⟨[], none, false, false⟩ f_are_numbers_n (top 8) = some f_are_numbers.body := by rfl
theorem c_f_asked_things : cF nms ⟨[], none, false, false⟩ f_asked_things_n (top 9) = some f_asked_things.body := by rfl
theorem c_f_is_number : cF nms ⟨[], none, false, false⟩ f_is_number_n (top 7) = some f_is_number.body := by rfl
theorem c_f_law : cF nms ⟨[7], none, false, false⟩ f_law_n (top 17) = some f_law.body := by rfl
theorem c_i_Posts : cF nms ⟨[], none, false, false⟩ i_Posts_n (inClass (top 11) 0) = some i_Posts.body := by rfl
theorem c_i_Rule : cF nms ⟨[], none, false, false⟩ i_Rule_n (inClass (top 10) 0) = some i_Rule.body := by rfl
theorem c_m_Rule_free : cF nms ⟨[], none, false, false⟩ m_Rule_free_n (inClass (top 10) 2) = some m_Rule_free.body := by rfl
theorem c_m_Rule_many : cF nms ⟨[], none, false, false⟩ m_Rule_many_n (inClass (top 10) 1) = some m_Rule_many.body := by rfl
theorem c_m_Rule_stands : cF nms ⟨[], none, false, false⟩ m_Rule_stands_n (inClass (top 10) 3) = some m_Rule_stands.body := by rfl
theorem c_m_Posts_stands : cF nms ⟨[2], none, false, false⟩ m_Posts_stands_n (inClass (top 11) 1) = some m_Posts_stands.body := by rfl
theorem c_f_passed_on : cF nms ⟨[0], some 0, false, false⟩ f_passed_on_n (top 12) = some f_passed_on.body := by rfl
theorem c_m_Posts_given : cF nms ⟨[1], some 1, false, false⟩ m_Posts_given_n (inClass (top 11) 2) = some m_Posts_given.body := by rfl
theorem text_mk {P : Program} {w : World} {K : PySem.W.Frag} {h base : Heap} {mg : Str → Option Value} (X : K.In h) (Gl : h.Ns mainGlobals mg)
    {C_Rule C_Posts X_BadRule X_BadThing A_f_law_cell_at A_f_law_draw A_f_law_posts A_f_are_numbers A_f_asked_things A_f_is_number A_f_law A_i_Posts A_i_Rule A_m_Rule_free A_m_Rule_many A_m_Rule_stands A_m_Posts_stands A_f_passed_on A_m_Posts_given : Addr} {oc_f_law_cell_at kV_f_law_cell_at dc_f_law_cell_at pm_f_law_cell_at cd_f_law_cell_at ct_f_law_cell_at oc_f_law_draw kV_f_law_draw dc_f_law_draw pm_f_law_draw cd_f_law_draw ct_f_law_draw oc_f_law_posts kV_f_law_posts dc_f_law_posts pm_f_law_posts cd_f_law_posts ct_f_law_posts oc_f_are_numbers kV_f_are_numbers dc_f_are_numbers pm_f_are_numbers cd_f_are_numbers ct_f_are_numbers oc_f_asked_things kV_f_asked_things dc_f_asked_things pm_f_asked_things cd_f_asked_things ct_f_asked_things oc_f_is_number kV_f_is_number dc_f_is_number pm_f_is_number cd_f_is_number ct_f_is_number oc_f_law kV_f_law dc_f_law pm_f_law cd_f_law ct_f_law oc_i_Posts kV_i_Posts dc_i_Posts pm_i_Posts cd_i_Posts ct_i_Posts oc_i_Rule kV_i_Rule dc_i_Rule pm_i_Rule cd_i_Rule ct_i_Rule oc_m_Rule_free kV_m_Rule_free dc_m_Rule_free pm_m_Rule_free cd_m_Rule_free ct_m_Rule_free oc_m_Rule_many kV_m_Rule_many dc_m_Rule_many pm_m_Rule_many cd_m_Rule_many ct_m_Rule_many oc_m_Rule_stands kV_m_Rule_stands dc_m_Rule_stands pm_m_Rule_stands cd_m_Rule_stands ct_m_Rule_stands oc_m_Posts_stands kV_m_Posts_stands dc_m_Posts_stands pm_m_Posts_stands cd_m_Posts_stands ct_m_Posts_stands oc_f_passed_on kV_f_passed_on dc_f_passed_on pm_f_passed_on cd_f_passed_on ct_f_passed_on oc_m_Posts_given kV_m_Posts_given dc_m_Posts_given pm_m_Posts_given cd_m_Posts_given ct_m_Posts_given : Value} {od_f_law_cell_at an_f_law_cell_at od_f_law_draw an_f_law_draw od_f_law_posts an_f_law_posts od_f_are_numbers an_f_are_numbers od_f_asked_things an_f_asked_things od_f_is_number an_f_is_number od_f_law an_f_law od_i_Posts an_i_Posts od_i_Rule an_i_Rule od_m_Rule_free an_m_Rule_free od_m_Rule_many an_m_Rule_many od_m_Rule_stands an_m_Rule_stands od_m_Posts_stands an_m_Posts_stands od_f_passed_on an_f_passed_on od_m_Posts_given an_m_Posts_given : Option Addr} {sl_f_law_cell_at sl_f_law_draw sl_f_law_posts sl_f_are_numbers sl_f_asked_things sl_f_is_number sl_f_law sl_i_Posts sl_i_Rule sl_m_Rule_free sl_m_Rule_many sl_m_Rule_stands sl_m_Posts_stands sl_f_passed_on sl_m_Posts_given : Array (Option Value)} {tk_MOST tk_POSTS : Tok}
    (aC_Rule : PySem.W.nsIn K mainGlobals "Rule" = some (some (.ref C_Rule)))
    (aC_Posts : PySem.W.nsIn K mainGlobals "Posts" = some (some (.ref C_Posts)))
    (a_f_law_cell_at : PySem.W.nsIn K mainGlobals "_law_cell_at" = some (some (.ref A_f_law_cell_at)))
    (l_f_law_cell_at : K.lookup A_f_law_cell_at = some ⟨oc_f_law_cell_at, od_f_law_cell_at, .func (PySem.W.fnOf "_law_cell_at" "_law_cell_at" (defArgs (top 14)) (defBody (top 14)) (defScope (top 14)) .none kV_f_law_cell_at dc_f_law_cell_at pm_f_law_cell_at an_f_law_cell_at cd_f_law_cell_at ct_f_law_cell_at), sl_f_law_cell_at⟩)
    (d_f_law_cell_at : PySem.W.codeIn K cd_f_law_cell_at "_law_cell_at" = true)
    (k_f_law_cell_at : PySem.W.keepIn K (.ref A_f_law_cell_at) = true)
    (a_f_law_draw : PySem.W.nsIn K mainGlobals "_law_draw" = some (some (.ref A_f_law_draw)))
    (l_f_law_draw : K.lookup A_f_law_draw = some ⟨oc_f_law_draw, od_f_law_draw, .func (PySem.W.fnOf "_law_draw" "_law_draw" (defArgs (top 15)) (defBody (top 15)) (defScope (top 15)) .none kV_f_law_draw dc_f_law_draw pm_f_law_draw an_f_law_draw cd_f_law_draw ct_f_law_draw), sl_f_law_draw⟩)
    (d_f_law_draw : PySem.W.codeIn K cd_f_law_draw "_law_draw" = true)
    (k_f_law_draw : PySem.W.keepIn K (.ref A_f_law_draw) = true)
    (a_f_law_posts : PySem.W.nsIn K mainGlobals "_law_posts" = some (some (.ref A_f_law_posts)))
    (l_f_law_posts : K.lookup A_f_law_posts = some ⟨oc_f_law_posts, od_f_law_posts, .func (PySem.W.fnOf "_law_posts" "_law_posts" (defArgs (top 16)) (defBody (top 16)) (defScope (top 16)) .none kV_f_law_posts dc_f_law_posts pm_f_law_posts an_f_law_posts cd_f_law_posts ct_f_law_posts), sl_f_law_posts⟩)
    (d_f_law_posts : PySem.W.codeIn K cd_f_law_posts "_law_posts" = true)
    (k_f_law_posts : PySem.W.keepIn K (.ref A_f_law_posts) = true)
    (a_f_are_numbers : PySem.W.nsIn K mainGlobals "are_numbers" = some (some (.ref A_f_are_numbers)))
    (l_f_are_numbers : K.lookup A_f_are_numbers = some ⟨oc_f_are_numbers, od_f_are_numbers, .func (PySem.W.fnOf "are_numbers" "are_numbers" (defArgs (top 8)) (defBody (top 8)) (defScope (top 8)) .none kV_f_are_numbers dc_f_are_numbers pm_f_are_numbers an_f_are_numbers cd_f_are_numbers ct_f_are_numbers), sl_f_are_numbers⟩)
    (d_f_are_numbers : PySem.W.codeIn K cd_f_are_numbers "are_numbers" = true)
    (k_f_are_numbers : PySem.W.keepIn K (.ref A_f_are_numbers) = true)
    (a_f_asked_things : PySem.W.nsIn K mainGlobals "asked_things" = some (some (.ref A_f_asked_things)))
    (l_f_asked_things : K.lookup A_f_asked_things = some ⟨oc_f_asked_things, od_f_asked_things, .func (PySem.W.fnOf "asked_things" "asked_things" (defArgs (top 9)) (defBody (top 9)) (defScope (top 9)) .none kV_f_asked_things dc_f_asked_things pm_f_asked_things an_f_asked_things cd_f_asked_things ct_f_asked_things), sl_f_asked_things⟩)
    (d_f_asked_things : PySem.W.codeIn K cd_f_asked_things "asked_things" = true)
    (k_f_asked_things : PySem.W.keepIn K (.ref A_f_asked_things) = true)
    (a_f_is_number : PySem.W.nsIn K mainGlobals "is_number" = some (some (.ref A_f_is_number)))
    (l_f_is_number : K.lookup A_f_is_number = some ⟨oc_f_is_number, od_f_is_number, .func (PySem.W.fnOf "is_number" "is_number" (defArgs (top 7)) (defBody (top 7)) (defScope (top 7)) .none kV_f_is_number dc_f_is_number pm_f_is_number an_f_is_number cd_f_is_number ct_f_is_number), sl_f_is_number⟩)
    (d_f_is_number : PySem.W.codeIn K cd_f_is_number "is_number" = true)
    (k_f_is_number : PySem.W.keepIn K (.ref A_f_is_number) = true)
    (a_f_law : PySem.W.nsIn K mainGlobals "law" = some (some (.ref A_f_law)))
    (l_f_law : K.lookup A_f_law = some ⟨oc_f_law, od_f_law, .func (PySem.W.fnOf "law" "law" (defArgs (top 17)) (defBody (top 17)) (defScope (top 17)) .none kV_f_law dc_f_law pm_f_law an_f_law cd_f_law ct_f_law), sl_f_law⟩)
    (d_f_law : PySem.W.codeIn K cd_f_law "law" = true)
    (k_f_law : PySem.W.keepIn K (.ref A_f_law) = true)
    (a_i_Posts : PySem.W.findIn K (.ref C_Posts) "__init__" = some (some (.ref A_i_Posts)))
    (i_i_Posts : PySem.W.isFn K (.ref A_i_Posts) = true)
    (l_i_Posts : K.lookup A_i_Posts = some ⟨oc_i_Posts, od_i_Posts, .func (PySem.W.fnOf "__init__" "Posts.__init__" (defArgs (inClass (top 11) 0)) (defBody (inClass (top 11) 0)) (defScope (inClass (top 11) 0)) .none kV_i_Posts dc_i_Posts pm_i_Posts an_i_Posts cd_i_Posts ct_i_Posts), sl_i_Posts⟩)
    (d_i_Posts : PySem.W.codeIn K cd_i_Posts "Posts.__init__" = true)
    (k_i_Posts : PySem.W.keepIn K (.ref A_i_Posts) = true)
    (a_i_Rule : PySem.W.findIn K (.ref C_Rule) "__init__" = some (some (.ref A_i_Rule)))
    (i_i_Rule : PySem.W.isFn K (.ref A_i_Rule) = true)
    (l_i_Rule : K.lookup A_i_Rule = some ⟨oc_i_Rule, od_i_Rule, .func (PySem.W.fnOf "__init__" "Rule.__init__" (defArgs (inClass (top 10) 0)) (defBody (inClass (top 10) 0)) (defScope (inClass (top 10) 0)) .none kV_i_Rule dc_i_Rule pm_i_Rule an_i_Rule cd_i_Rule ct_i_Rule), sl_i_Rule⟩)
    (d_i_Rule : PySem.W.codeIn K cd_i_Rule "Rule.__init__" = true)
    (k_i_Rule : PySem.W.keepIn K (.ref A_i_Rule) = true)
    (a_m_Rule_free : PySem.W.findIn K (.ref C_Rule) "free" = some (some (.ref A_m_Rule_free)))
    (i_m_Rule_free : PySem.W.isFn K (.ref A_m_Rule_free) = true)
    (l_m_Rule_free : K.lookup A_m_Rule_free = some ⟨oc_m_Rule_free, od_m_Rule_free, .func (PySem.W.fnOf "free" "Rule.free" (defArgs (inClass (top 10) 2)) (defBody (inClass (top 10) 2)) (defScope (inClass (top 10) 2)) .none kV_m_Rule_free dc_m_Rule_free pm_m_Rule_free an_m_Rule_free cd_m_Rule_free ct_m_Rule_free), sl_m_Rule_free⟩)
    (d_m_Rule_free : PySem.W.codeIn K cd_m_Rule_free "Rule.free" = true)
    (k_m_Rule_free : PySem.W.keepIn K (.ref A_m_Rule_free) = true)
    (a_m_Rule_many : PySem.W.findIn K (.ref C_Rule) "many" = some (some (.ref A_m_Rule_many)))
    (i_m_Rule_many : PySem.W.isFn K (.ref A_m_Rule_many) = true)
    (l_m_Rule_many : K.lookup A_m_Rule_many = some ⟨oc_m_Rule_many, od_m_Rule_many, .func (PySem.W.fnOf "many" "Rule.many" (defArgs (inClass (top 10) 1)) (defBody (inClass (top 10) 1)) (defScope (inClass (top 10) 1)) .none kV_m_Rule_many dc_m_Rule_many pm_m_Rule_many an_m_Rule_many cd_m_Rule_many ct_m_Rule_many), sl_m_Rule_many⟩)
    (d_m_Rule_many : PySem.W.codeIn K cd_m_Rule_many "Rule.many" = true)
    (k_m_Rule_many : PySem.W.keepIn K (.ref A_m_Rule_many) = true)
    (a_m_Rule_stands : PySem.W.findIn K (.ref C_Rule) "stands" = some (some (.ref A_m_Rule_stands)))
    (i_m_Rule_stands : PySem.W.isFn K (.ref A_m_Rule_stands) = true)
    (l_m_Rule_stands : K.lookup A_m_Rule_stands = some ⟨oc_m_Rule_stands, od_m_Rule_stands, .func (PySem.W.fnOf "stands" "Rule.stands" (defArgs (inClass (top 10) 3)) (defBody (inClass (top 10) 3)) (defScope (inClass (top 10) 3)) .none kV_m_Rule_stands dc_m_Rule_stands pm_m_Rule_stands an_m_Rule_stands cd_m_Rule_stands ct_m_Rule_stands), sl_m_Rule_stands⟩)
    (d_m_Rule_stands : PySem.W.codeIn K cd_m_Rule_stands "Rule.stands" = true)
    (k_m_Rule_stands : PySem.W.keepIn K (.ref A_m_Rule_stands) = true)
    (a_m_Posts_stands : PySem.W.findIn K (.ref C_Posts) "stands" = some (some (.ref A_m_Posts_stands)))
    (i_m_Posts_stands : PySem.W.isFn K (.ref A_m_Posts_stands) = true)
    (l_m_Posts_stands : K.lookup A_m_Posts_stands = some ⟨oc_m_Posts_stands, od_m_Posts_stands, .func (PySem.W.fnOf "stands" "Posts.stands" (defArgs (inClass (top 11) 1)) (defBody (inClass (top 11) 1)) (defScope (inClass (top 11) 1)) .none kV_m_Posts_stands dc_m_Posts_stands pm_m_Posts_stands an_m_Posts_stands cd_m_Posts_stands ct_m_Posts_stands), sl_m_Posts_stands⟩)
    (d_m_Posts_stands : PySem.W.codeIn K cd_m_Posts_stands "Posts.stands" = true)
    (k_m_Posts_stands : PySem.W.keepIn K (.ref A_m_Posts_stands) = true)
    (a_f_passed_on : PySem.W.nsIn K mainGlobals "passed_on" = some (some (.ref A_f_passed_on)))
    (l_f_passed_on : K.lookup A_f_passed_on = some ⟨oc_f_passed_on, od_f_passed_on, .func (PySem.W.fnOf "passed_on" "passed_on" (defArgs (top 12)) (defBody (top 12)) (defScope (top 12)) .none kV_f_passed_on dc_f_passed_on pm_f_passed_on an_f_passed_on cd_f_passed_on ct_f_passed_on), sl_f_passed_on⟩)
    (d_f_passed_on : PySem.W.codeIn K cd_f_passed_on "passed_on" = true)
    (k_f_passed_on : PySem.W.keepIn K (.ref A_f_passed_on) = true)
    (a_m_Posts_given : PySem.W.findIn K (.ref C_Posts) "given" = some (some (.ref A_m_Posts_given)))
    (i_m_Posts_given : PySem.W.isFn K (.ref A_m_Posts_given) = true)
    (l_m_Posts_given : K.lookup A_m_Posts_given = some ⟨oc_m_Posts_given, od_m_Posts_given, .func (PySem.W.fnOf "given" "Posts.given" (defArgs (inClass (top 11) 2)) (defBody (inClass (top 11) 2)) (defScope (inClass (top 11) 2)) .none kV_m_Posts_given dc_m_Posts_given pm_m_Posts_given an_m_Posts_given cd_m_Posts_given ct_m_Posts_given), sl_m_Posts_given⟩)
    (d_m_Posts_given : PySem.W.codeIn K cd_m_Posts_given "Posts.given" = true)
    (k_m_Posts_given : PySem.W.keepIn K (.ref A_m_Posts_given) = true)
    (gN : PySem.W.specialIn K (.builtin "object.__class__") "__get__" = some (some (.builtin "getset_descriptor.__get__")))
    (gT : PySem.W.takesIn K (.builtin "object.__class__") = some true)
    (pg_Rule : PySem.W.plainGet K C_Rule Str.empty = true)
    (hd_Rule : PySem.W.hasDictIn K C_Rule = true)
    (po_Rule : PySem.W.plainOver K C_Rule = true)
    (sa_Rule : PySem.W.findIn K (.ref C_Rule) "__setattr__" = some (some (.builtin "object.__setattr__")))
    (hc_Rule : PySem.W.findIn K (.ref C_Rule) "__class__" = some (some (.builtin "object.__class__")))
    (mo_Rule : PySem.W.mroIn K C_Rule (.type "object") = some true)
    (ba_Rule_NoneType : PySem.W.kitOne K (.type "NoneType") (.ref C_Rule) = some false)
    (bb_Rule_NoneType : PySem.W.kitOne K (.ref C_Rule) (.type "NoneType") = some false)
    (ba_Rule_bool : PySem.W.kitOne K (.type "bool") (.ref C_Rule) = some false)
    (bb_Rule_bool : PySem.W.kitOne K (.ref C_Rule) (.type "bool") = some false)
    (ba_Rule_int : PySem.W.kitOne K (.type "int") (.ref C_Rule) = some false)
    (bb_Rule_int : PySem.W.kitOne K (.ref C_Rule) (.type "int") = some false)
    (ba_Rule_str : PySem.W.kitOne K (.type "str") (.ref C_Rule) = some false)
    (bb_Rule_str : PySem.W.kitOne K (.ref C_Rule) (.type "str") = some false)
    (ba_Rule_list : PySem.W.kitOne K (.type "list") (.ref C_Rule) = some false)
    (bb_Rule_list : PySem.W.kitOne K (.ref C_Rule) (.type "list") = some false)
    (ba_Rule_tuple : PySem.W.kitOne K (.type "tuple") (.ref C_Rule) = some false)
    (bb_Rule_tuple : PySem.W.kitOne K (.ref C_Rule) (.type "tuple") = some false)
    (su_Rule_Rule : PySem.W.kitOne K (.ref C_Rule) (.ref C_Rule) = some true)
    (su_Posts_Rule : PySem.W.kitOne K (.ref C_Posts) (.ref C_Rule) = some true)
    (na_Rule_size : PySem.W.findIn K (.ref C_Rule) "size" = some none)
    (na_Rule_wants : PySem.W.findIn K (.ref C_Rule) "wants" = some none)
    (pg_Posts : PySem.W.plainGet K C_Posts Str.empty = true)
    (hd_Posts : PySem.W.hasDictIn K C_Posts = true)
    (po_Posts : PySem.W.plainOver K C_Posts = true)
    (sa_Posts : PySem.W.findIn K (.ref C_Posts) "__setattr__" = some (some (.builtin "object.__setattr__")))
    (hc_Posts : PySem.W.findIn K (.ref C_Posts) "__class__" = some (some (.builtin "object.__class__")))
    (mo_Posts : PySem.W.mroIn K C_Posts (.type "object") = some true)
    (ba_Posts_NoneType : PySem.W.kitOne K (.type "NoneType") (.ref C_Posts) = some false)
    (bb_Posts_NoneType : PySem.W.kitOne K (.ref C_Posts) (.type "NoneType") = some false)
    (ba_Posts_bool : PySem.W.kitOne K (.type "bool") (.ref C_Posts) = some false)
    (bb_Posts_bool : PySem.W.kitOne K (.ref C_Posts) (.type "bool") = some false)
    (ba_Posts_int : PySem.W.kitOne K (.type "int") (.ref C_Posts) = some false)
    (bb_Posts_int : PySem.W.kitOne K (.ref C_Posts) (.type "int") = some false)
    (ba_Posts_str : PySem.W.kitOne K (.type "str") (.ref C_Posts) = some false)
    (bb_Posts_str : PySem.W.kitOne K (.ref C_Posts) (.type "str") = some false)
    (ba_Posts_list : PySem.W.kitOne K (.type "list") (.ref C_Posts) = some false)
    (bb_Posts_list : PySem.W.kitOne K (.ref C_Posts) (.type "list") = some false)
    (ba_Posts_tuple : PySem.W.kitOne K (.type "tuple") (.ref C_Posts) = some false)
    (bb_Posts_tuple : PySem.W.kitOne K (.ref C_Posts) (.type "tuple") = some false)
    (su_Rule_Posts : PySem.W.kitOne K (.ref C_Rule) (.ref C_Posts) = some false)
    (su_Posts_Posts : PySem.W.kitOne K (.ref C_Posts) (.ref C_Posts) = some true)
    (na_Posts_size : PySem.W.findIn K (.ref C_Posts) "size" = some none)
    (na_Posts_wants : PySem.W.findIn K (.ref C_Posts) "wants" = some none)
    (me_Posts_free : PySem.W.findIn K (.ref C_Posts) "free" = some (some (.ref A_m_Rule_free)))
    (me_Posts_many : PySem.W.findIn K (.ref C_Posts) "many" = some (some (.ref A_m_Rule_many)))
    (mk_Posts : PySem.W.makesIn K C_Posts = true)
    (kc_Posts : PySem.W.keepIn K (.ref C_Posts) = true)
    (sg_Rule : PySem.W.specialIn K (.ref C_Rule) "__getattribute__" = some (some (.builtin "type.__getattribute__")))
    (sr_Rule : PySem.W.readsIn K C_Rule (.type "type") = true)
    (sf_Rule : PySem.W.findCls K (.ref C_Rule) (.type "type") "__init__" = some (.val (.ref A_i_Rule)))
    (ae_BadRule : PySem.W.nsIn K mainGlobals "BadRule" = some (some (.ref X_BadRule)))
    (xe_BadRule : PySem.W.excIn K X_BadRule [.type "ValueError", .type "Exception", .type "BaseException", .type "object"] "ValueError.__new__" = true)
    (ke_BadRule : PySem.W.keepIn K (.ref X_BadRule) = true)
    (be_BadRule : PySem.W.subIn K (.ref X_BadRule) (.type "BaseException") = some true)
    (te_BadRule : PySem.W.typeIn K (.ref X_BadRule) = some (.type "type"))
    (ae_BadThing : PySem.W.nsIn K mainGlobals "BadThing" = some (some (.ref X_BadThing)))
    (xe_BadThing : PySem.W.excIn K X_BadThing [.type "ValueError", .type "Exception", .type "BaseException", .type "object"] "ValueError.__new__" = true)
    (ke_BadThing : PySem.W.keepIn K (.ref X_BadThing) = true)
    (be_BadThing : PySem.W.subIn K (.ref X_BadThing) (.type "BaseException") = some true)
    (te_BadThing : PySem.W.typeIn K (.ref X_BadThing) = some (.type "type"))
    (co_MOST : PySem.W.nsIn K mainGlobals "MOST" = some (some (.int 16 tk_MOST)))
    (co_POSTS : PySem.W.nsIn K mainGlobals "POSTS" = some (some (.int 30 tk_POSTS)))
    (z_len : PySem.W.nsIn K mainGlobals "len" = some none)
    (z_list : PySem.W.nsIn K mainGlobals "list" = some none)
    (z_tuple : PySem.W.nsIn K mainGlobals "tuple" = some none)
    (z_sorted : PySem.W.nsIn K mainGlobals "sorted" = some none)
    (z_sum : PySem.W.nsIn K mainGlobals "sum" = some none)
    (z_max : PySem.W.nsIn K mainGlobals "max" = some none)
    (z_min : PySem.W.nsIn K mainGlobals "min" = some none)
    (z_all : PySem.W.nsIn K mainGlobals "all" = some none)
    (z_any : PySem.W.nsIn K mainGlobals "any" = some none)
    (z_set : PySem.W.nsIn K mainGlobals "set" = some none)
    (z_range : PySem.W.nsIn K mainGlobals "range" = some none)
    (z_isinstance : PySem.W.nsIn K mainGlobals "isinstance" = some none)
    (z_int : PySem.W.nsIn K mainGlobals "int" = some none)
    (z_bool : PySem.W.nsIn K mainGlobals "bool" = some none)
    (z_str : PySem.W.nsIn K mainGlobals "str" = some none)
    (z_enumerate : PySem.W.nsIn K mainGlobals "enumerate" = some none)
    (z_zip : PySem.W.nsIn K mainGlobals "zip" = some none)
    : TextOk nms tab.tb (gt rls exs K) P w mg base (adK K) (fdK K) tab.ps := by
  have g_Rule : (gt rls exs K).cls "Rule" = some C_Rule := gt_cls (by rfl) aC_Rule
  have g_Posts : (gt rls exs K).cls "Posts" = some C_Posts := gt_cls (by rfl) aC_Posts
  have q_f_law_cell_at : DefOk nms tab.tb K (adK K (.fn "_law_cell_at")) (fdK K (.fn "_law_cell_at")) (tab.ps (.fn "_law_cell_at")) (.fn "_law_cell_at") "_law_cell_at" := defOk_mk (g := f_law_cell_at) (hn := ⟨[], none, false, false⟩) (N := f_law_cell_at_n) (ps := ["_law_script", "_law_k"]) (ad_fn a_f_law_cell_at) l_f_law_cell_at d_f_law_cell_at k_f_law_cell_at c_f_law_cell_at (by rfl) (by rfl) (by rfl) (scope_mk (by decide +kernel)) fun _ _ _ _ _ _ us hl => match us, hl with | [_, _], _ => rfl
  have q_f_law_draw : DefOk nms tab.tb K (adK K (.fn "_law_draw")) (fdK K (.fn "_law_draw")) (tab.ps (.fn "_law_draw")) (.fn "_law_draw") "_law_draw" := defOk_mk (g := f_law_draw) (hn := ⟨[], none, false, false⟩) (N := f_law_draw_n) (ps := ["_law_cell", "_law_k", "_law_many"]) (ad_fn a_f_law_draw) l_f_law_draw d_f_law_draw k_f_law_draw c_f_law_draw (by rfl) (by rfl) (by rfl) (scope_mk (by decide +kernel)) fun _ _ _ _ _ _ us hl => match us, hl with | [_, _, _], _ => rfl
  have q_f_law_posts : DefOk nms tab.tb K (adK K (.fn "_law_posts")) (fdK K (.fn "_law_posts")) (tab.ps (.fn "_law_posts")) (.fn "_law_posts") "_law_posts" := defOk_mk (g := f_law_posts) (hn := ⟨[], none, false, false⟩) (N := f_law_posts_n) (ps := ["_law_wants"]) (ad_fn a_f_law_posts) l_f_law_posts d_f_law_posts k_f_law_posts c_f_law_posts (by rfl) (by rfl) (by rfl) (scope_mk (by decide +kernel)) fun _ _ _ _ _ _ us hl => match us, hl with | [_], _ => rfl
  have q_f_are_numbers : DefOk nms tab.tb K (adK K (.fn "are_numbers")) (fdK K (.fn "are_numbers")) (tab.ps (.fn "are_numbers")) (.fn "are_numbers") "are_numbers" := defOk_mk (g := f_are_numbers) (hn := ⟨[], none, false, false⟩) (N := f_are_numbers_n) (ps := ["things", "least", "most"]) (ad_fn a_f_are_numbers) l_f_are_numbers d_f_are_numbers k_f_are_numbers c_f_are_numbers (by rfl) (by rfl) (by rfl) (scope_mk (by decide +kernel)) fun _ _ _ _ _ _ us hl => match us, hl with | [_, _, _], _ => rfl
  have q_f_asked_things : DefOk nms tab.tb K (adK K (.fn "asked_things")) (fdK K (.fn "asked_things")) (tab.ps (.fn "asked_things")) (.fn "asked_things") "asked_things" := defOk_mk (g := f_asked_things) (hn := ⟨[], none, false, false⟩) (N := f_asked_things_n) (ps := ["some", "many"]) (ad_fn a_f_asked_things) l_f_asked_things d_f_asked_things k_f_asked_things c_f_asked_things (by rfl) (by rfl) (by rfl) (scope_mk (by decide +kernel)) fun _ _ _ _ _ _ us hl => match us, hl with | [_, _], _ => rfl
  have q_f_is_number : DefOk nms tab.tb K (adK K (.fn "is_number")) (fdK K (.fn "is_number")) (tab.ps (.fn "is_number")) (.fn "is_number") "is_number" := defOk_mk (g := f_is_number) (hn := ⟨[], none, false, false⟩) (N := f_is_number_n) (ps := ["thing", "least", "most"]) (ad_fn a_f_is_number) l_f_is_number d_f_is_number k_f_is_number c_f_is_number (by rfl) (by rfl) (by rfl) (scope_mk (by decide +kernel)) fun _ _ _ _ _ _ us hl => match us, hl with | [_, _, _], _ => rfl
  have q_f_law : DefOk nms tab.tb K (adK K (.fn "law")) (fdK K (.fn "law")) (tab.ps (.fn "law")) (.fn "law") "law" := defOk_mk (g := f_law) (hn := ⟨[7], none, false, false⟩) (N := f_law_n) (ps := ["_law_script"]) (ad_fn a_f_law) l_f_law d_f_law k_f_law c_f_law (by rfl) (by rfl) (by rfl) (scope_mk (by decide +kernel)) fun _ _ _ _ _ _ us hl => match us, hl with | [_], _ => rfl
  have q_i_Posts : DefOk nms tab.tb K (adK K (.ini "Posts")) (fdK K (.ini "Posts")) (tab.ps (.ini "Posts")) (.ini "Posts") "__init__" := defOk_mk (g := i_Posts) (hn := ⟨[], none, false, false⟩) (N := i_Posts_n) (ps := ["self", "wants"]) (fnA_of aC_Posts a_i_Posts) l_i_Posts d_i_Posts k_i_Posts c_i_Posts (by rfl) (by rfl) (by rfl) (scope_mk (by decide +kernel)) fun _ _ _ _ _ _ us hl => match us, hl with | [_, _], _ => rfl
  have q_i_Rule : DefOk nms tab.tb K (adK K (.ini "Rule")) (fdK K (.ini "Rule")) (tab.ps (.ini "Rule")) (.ini "Rule") "__init__" := defOk_mk (g := i_Rule) (hn := ⟨[], none, false, false⟩) (N := i_Rule_n) (ps := ["self", "size"]) (fnA_of aC_Rule a_i_Rule) l_i_Rule d_i_Rule k_i_Rule c_i_Rule (by rfl) (by rfl) (by rfl) (scope_mk (by decide +kernel)) fun _ _ _ _ _ _ us hl => match us, hl with | [_, _], _ => rfl
  have q_m_Rule_free : DefOk nms tab.tb K (adK K (.me "Rule" "free")) (fdK K (.me "Rule" "free")) (tab.ps (.me "Rule" "free")) (.me "Rule" "free") "free" := defOk_mk (g := m_Rule_free) (hn := ⟨[], none, false, false⟩) (N := m_Rule_free_n) (ps := ["self", "some"]) (fnA_of aC_Rule a_m_Rule_free) l_m_Rule_free d_m_Rule_free k_m_Rule_free c_m_Rule_free (by rfl) (by rfl) (by rfl) (scope_mk (by decide +kernel)) fun _ _ _ _ _ _ us hl => match us, hl with | [_, _], _ => rfl
  have q_m_Rule_many : DefOk nms tab.tb K (adK K (.me "Rule" "many")) (fdK K (.me "Rule" "many")) (tab.ps (.me "Rule" "many")) (.me "Rule" "many") "many" := defOk_mk (g := m_Rule_many) (hn := ⟨[], none, false, false⟩) (N := m_Rule_many_n) (ps := ["self"]) (fnA_of aC_Rule a_m_Rule_many) l_m_Rule_many d_m_Rule_many k_m_Rule_many c_m_Rule_many (by rfl) (by rfl) (by rfl) (scope_mk (by decide +kernel)) fun _ _ _ _ _ _ us hl => match us, hl with | [_], _ => rfl
  have q_m_Rule_stands : DefOk nms tab.tb K (adK K (.me "Rule" "stands")) (fdK K (.me "Rule" "stands")) (tab.ps (.me "Rule" "stands")) (.me "Rule" "stands") "stands" := defOk_mk (g := m_Rule_stands) (hn := ⟨[], none, false, false⟩) (N := m_Rule_stands_n) (ps := ["self", "some"]) (fnA_of aC_Rule a_m_Rule_stands) l_m_Rule_stands d_m_Rule_stands k_m_Rule_stands c_m_Rule_stands (by rfl) (by rfl) (by rfl) (scope_mk (by decide +kernel)) fun _ _ _ _ _ _ us hl => match us, hl with | [_, _], _ => rfl
  have q_m_Posts_stands : DefOk nms tab.tb K (adK K (.me "Posts" "stands")) (fdK K (.me "Posts" "stands")) (tab.ps (.me "Posts" "stands")) (.me "Posts" "stands") "stands" := defOk_mk (g := m_Posts_stands) (hn := ⟨[2], none, false, false⟩) (N := m_Posts_stands_n) (ps := ["self", "some"]) (fnA_of aC_Posts a_m_Posts_stands) l_m_Posts_stands d_m_Posts_stands k_m_Posts_stands c_m_Posts_stands (by rfl) (by rfl) (by rfl) (scope_mk (by decide +kernel)) fun _ _ _ _ _ _ us hl => match us, hl with | [_, _], _ => rfl
  have q_f_passed_on : DefOk nms tab.tb K (adK K (.fx "passed_on" 0)) (fdK K (.fx "passed_on" 0)) (tab.ps (.fx "passed_on" 0)) (.fx "passed_on" 0) "passed_on" := defOk_mk (g := f_passed_on) (hn := ⟨[0], some 0, false, false⟩) (N := f_passed_on_n) (ps := ["owners", "asked", "post"]) (ad_fx a_f_passed_on) l_f_passed_on d_f_passed_on k_f_passed_on c_f_passed_on (by rfl) (by rfl) (by rfl) (scope_mk (by decide +kernel)) fun _ _ _ _ _ _ us hl => match us, hl with | [_, _, _], _ => rfl
  have q_m_Posts_given : DefOk nms tab.tb K (adK K (.mx "Posts" "given" 1)) (fdK K (.mx "Posts" "given" 1)) (tab.ps (.mx "Posts" "given" 1)) (.mx "Posts" "given" 1) "given" := defOk_mk (g := m_Posts_given) (hn := ⟨[1], some 1, false, false⟩) (N := m_Posts_given_n) (ps := ["self", "owners", "thing"]) (fnA_of aC_Posts a_m_Posts_given) l_m_Posts_given d_m_Posts_given k_m_Posts_given c_m_Posts_given (by rfl) (by rfl) (by rfl) (scope_mk (by decide +kernel)) fun _ _ _ _ _ _ us hl => match us, hl with | [_, _, _], _ => rfl
  have cl_Rule : Cls K C_Rule := ⟨pg_Rule, hd_Rule, po_Rule, sa_Rule⟩
  have cl_Posts : Cls K C_Posts := ⟨pg_Posts, hd_Posts, po_Posts, sa_Posts⟩
  have inv : ∀ {c : Str} {Ca : Addr}, (gt rls exs K).cls c = some Ca → (c = "Rule" ∧ Ca = C_Rule) ∨ (c = "Posts" ∧ Ca = C_Posts) := fun {c Ca} hc => by
    have hm := (gt_in hc).1
    simp only [rls, List.mem_cons, List.not_mem_nil, or_false] at hm
    rcases hm with rfl | rfl
    · rw [g_Rule] at hc; exact .inl ⟨rfl, (Option.some.inj hc).symm⟩
    · rw [g_Posts] at hc; exact .inr (⟨rfl, (Option.some.inj hc).symm⟩)
  refine { con := ?_, fns := ?_, ini := ?_, cls := ?_, isi := ?_, att := ?_, mth := ?_, fxs := ?_, mxs := ?_, hC := ?_, blt := ?_, exc := ?_ }
  · exact List.forall_mem_cons.mpr ⟨con_mk (G := gt rls exs K) (T := tab.tb) X Gl (by rfl) co_MOST, List.forall_mem_cons.mpr ⟨con_mk (G := gt rls exs K) (T := tab.tb) X Gl (by rfl) co_POSTS, List.forall_mem_nil _⟩⟩
  · exact List.forall_mem_cons.mpr ⟨⟨q_f_law_cell_at, (by rw [ad_fn a_f_law_cell_at]; exact PySem.W.mg_of X Gl a_f_law_cell_at), (by rw [ad_fn a_f_law_cell_at]; exact k_f_law_cell_at)⟩, List.forall_mem_cons.mpr ⟨⟨q_f_law_draw, (by rw [ad_fn a_f_law_draw]; exact PySem.W.mg_of X Gl a_f_law_draw), (by rw [ad_fn a_f_law_draw]; exact k_f_law_draw)⟩, List.forall_mem_cons.mpr ⟨⟨q_f_law_posts, (by rw [ad_fn a_f_law_posts]; exact PySem.W.mg_of X Gl a_f_law_posts), (by rw [ad_fn a_f_law_posts]; exact k_f_law_posts)⟩, List.forall_mem_cons.mpr ⟨⟨q_f_are_numbers, (by rw [ad_fn a_f_are_numbers]; exact PySem.W.mg_of X Gl a_f_are_numbers), (by rw [ad_fn a_f_are_numbers]; exact k_f_are_numbers)⟩, List.forall_mem_cons.mpr ⟨⟨q_f_asked_things, (by rw [ad_fn a_f_asked_things]; exact PySem.W.mg_of X Gl a_f_asked_things), (by rw [ad_fn a_f_asked_things]; exact k_f_asked_things)⟩, List.forall_mem_cons.mpr ⟨⟨q_f_is_number, (by rw [ad_fn a_f_is_number]; exact PySem.W.mg_of X Gl a_f_is_number), (by rw [ad_fn a_f_is_number]; exact k_f_is_number)⟩, List.forall_mem_cons.mpr ⟨⟨q_f_law, (by rw [ad_fn a_f_law]; exact PySem.W.mg_of X Gl a_f_law), (by rw [ad_fn a_f_law]; exact k_f_law)⟩, List.forall_mem_nil _⟩⟩⟩⟩⟩⟩⟩
  · intro c hc
    have hm : c = "Posts" ∨ c = "Rule" := by
      simp only [nms, List.mem_cons, List.not_mem_nil, or_false] at hc
      rcases hc with hc | hc
      · rcases hc with hc
        · exact .inl hc
      · rcases hc with hc
        · exact .inr (hc)
    rcases hm with rfl | rfl
    · exact ⟨C_Posts, g_Posts, PySem.W.mg_of X Gl aC_Posts, q_i_Posts, (fun _ => by rw [show adK K (.ini "Posts") = _ from fnA_of aC_Posts a_i_Posts]; exact ⟨mk_Posts, a_i_Posts, i_i_Posts, kc_Posts⟩), fun z => absurd z (by decide +kernel)⟩
    · exact ⟨C_Rule, g_Rule, PySem.W.mg_of X Gl aC_Rule, q_i_Rule, fun z => absurd z (by decide +kernel), (fun _ => ⟨.type "type", by rw [show adK K (.ini "Rule") = _ from fnA_of aC_Rule a_i_Rule]; exact ⟨sg_Rule, sr_Rule, sf_Rule, k_i_Rule⟩⟩)⟩
  · exact List.forall_mem_cons.mpr ⟨⟨C_Rule, g_Rule, PySem.W.mg_of X Gl aC_Rule⟩, List.forall_mem_nil _⟩
  · intro c Ca hc
    rcases inv hc with ⟨rfl, rfl⟩ | ⟨rfl, rfl⟩
    · refine ⟨cl_Rule, hc_Rule, gN, gT, mo_Rule, List.forall_mem_cons.mpr ⟨⟨ba_Rule_NoneType, bb_Rule_NoneType⟩, List.forall_mem_cons.mpr ⟨⟨ba_Rule_bool, bb_Rule_bool⟩, List.forall_mem_cons.mpr ⟨⟨ba_Rule_int, bb_Rule_int⟩, List.forall_mem_cons.mpr ⟨⟨ba_Rule_str, bb_Rule_str⟩, List.forall_mem_cons.mpr ⟨⟨ba_Rule_list, bb_Rule_list⟩, List.forall_mem_cons.mpr ⟨⟨ba_Rule_tuple, bb_Rule_tuple⟩, List.forall_mem_nil _⟩⟩⟩⟩⟩⟩, fun c2 Ca2 h2 => ?_⟩
      rcases inv h2 with ⟨rfl, rfl⟩ | ⟨rfl, rfl⟩
      · exact su_Rule_Rule
      · exact su_Posts_Rule
    · refine ⟨cl_Posts, hc_Posts, gN, gT, mo_Posts, List.forall_mem_cons.mpr ⟨⟨ba_Posts_NoneType, bb_Posts_NoneType⟩, List.forall_mem_cons.mpr ⟨⟨ba_Posts_bool, bb_Posts_bool⟩, List.forall_mem_cons.mpr ⟨⟨ba_Posts_int, bb_Posts_int⟩, List.forall_mem_cons.mpr ⟨⟨ba_Posts_str, bb_Posts_str⟩, List.forall_mem_cons.mpr ⟨⟨ba_Posts_list, bb_Posts_list⟩, List.forall_mem_cons.mpr ⟨⟨ba_Posts_tuple, bb_Posts_tuple⟩, List.forall_mem_nil _⟩⟩⟩⟩⟩⟩, fun c2 Ca2 h2 => ?_⟩
      rcases inv h2 with ⟨rfl, rfl⟩ | ⟨rfl, rfl⟩
      · exact su_Rule_Posts
      · exact su_Posts_Posts
  · refine List.forall_mem_cons.mpr ⟨fun c Ca hc => ?_, List.forall_mem_cons.mpr ⟨fun c Ca hc => ?_, List.forall_mem_nil _⟩⟩
    · rcases inv hc with ⟨rfl, rfl⟩ | ⟨rfl, rfl⟩
      · exact na_Rule_size
      · exact na_Posts_size
    · rcases inv hc with ⟨rfl, rfl⟩ | ⟨rfl, rfl⟩
      · exact na_Rule_wants
      · exact na_Posts_wants
  · refine List.forall_mem_cons.mpr ⟨⟨fun c Ca b hc hb => ?_, "Rule", "Rule", by rfl⟩, List.forall_mem_cons.mpr ⟨⟨fun c Ca b hc hb => ?_, "Rule", "Rule", by rfl⟩, List.forall_mem_cons.mpr ⟨⟨fun c Ca b hc hb => ?_, "Rule", "Rule", by rfl⟩, List.forall_mem_nil _⟩⟩⟩
    · rcases inv hc with ⟨rfl, rfl⟩ | ⟨rfl, rfl⟩
      · have e : "Rule" = b := Option.some.inj hb
        subst e
        exact ⟨by rw [show adK K (.me "Rule" "free") = _ from fnA_of aC_Rule a_m_Rule_free]; exact ⟨a_m_Rule_free, i_m_Rule_free, k_m_Rule_free⟩, q_m_Rule_free⟩
      · have e : "Rule" = b := Option.some.inj hb
        subst e
        exact ⟨by rw [show adK K (.me "Rule" "free") = _ from fnA_of aC_Rule a_m_Rule_free]; exact ⟨me_Posts_free, i_m_Rule_free, k_m_Rule_free⟩, q_m_Rule_free⟩
    · rcases inv hc with ⟨rfl, rfl⟩ | ⟨rfl, rfl⟩
      · have e : "Rule" = b := Option.some.inj hb
        subst e
        exact ⟨by rw [show adK K (.me "Rule" "many") = _ from fnA_of aC_Rule a_m_Rule_many]; exact ⟨a_m_Rule_many, i_m_Rule_many, k_m_Rule_many⟩, q_m_Rule_many⟩
      · have e : "Rule" = b := Option.some.inj hb
        subst e
        exact ⟨by rw [show adK K (.me "Rule" "many") = _ from fnA_of aC_Rule a_m_Rule_many]; exact ⟨me_Posts_many, i_m_Rule_many, k_m_Rule_many⟩, q_m_Rule_many⟩
    · rcases inv hc with ⟨rfl, rfl⟩ | ⟨rfl, rfl⟩
      · have e : "Rule" = b := Option.some.inj hb
        subst e
        exact ⟨by rw [show adK K (.me "Rule" "stands") = _ from fnA_of aC_Rule a_m_Rule_stands]; exact ⟨a_m_Rule_stands, i_m_Rule_stands, k_m_Rule_stands⟩, q_m_Rule_stands⟩
      · have e : "Posts" = b := Option.some.inj hb
        subst e
        exact ⟨by rw [show adK K (.me "Posts" "stands") = _ from fnA_of aC_Posts a_m_Posts_stands]; exact ⟨a_m_Posts_stands, i_m_Posts_stands, k_m_Posts_stands⟩, q_m_Posts_stands⟩
  · exact List.forall_mem_cons.mpr ⟨⟨q_f_passed_on, (by rw [ad_fx a_f_passed_on]; exact PySem.W.mg_of X Gl a_f_passed_on), (by rw [ad_fx a_f_passed_on]; exact k_f_passed_on)⟩, List.forall_mem_nil _⟩
  · refine List.forall_mem_cons.mpr ⟨⟨fun c Ca b hc hb => ?_, "Posts", "Posts", by rfl⟩, List.forall_mem_nil _⟩
    · rcases inv hc with ⟨rfl, rfl⟩ | ⟨rfl, rfl⟩
      · exact absurd hb (by intro z; cases z)
      · have e : "Posts" = b := Option.some.inj hb
        subst e
        exact ⟨by rw [show adK K (.mx "Posts" "given" 1) = _ from fnA_of aC_Posts a_m_Posts_given]; exact ⟨a_m_Posts_given, i_m_Posts_given, k_m_Posts_given⟩, q_m_Posts_given⟩
  · intro m c b hb
    have hb : ((lk c tab.mro).bind fun l => lk m l) = some b := hb
    obtain ⟨l, e, _⟩ := Option.bind_eq_some_iff.mp hb
    simp only [tab, lk] at e
    split at e
    · rename_i z; subst z; exact ⟨_, g_Rule⟩
    split at e
    · rename_i z; subst z; exact ⟨_, g_Posts⟩
    · cases e
  · exact List.forall_mem_cons.mpr ⟨PySem.W.mg_none_of X Gl z_len, List.forall_mem_cons.mpr ⟨PySem.W.mg_none_of X Gl z_list, List.forall_mem_cons.mpr ⟨PySem.W.mg_none_of X Gl z_tuple, List.forall_mem_cons.mpr ⟨PySem.W.mg_none_of X Gl z_sorted, List.forall_mem_cons.mpr ⟨PySem.W.mg_none_of X Gl z_sum, List.forall_mem_cons.mpr ⟨PySem.W.mg_none_of X Gl z_max, List.forall_mem_cons.mpr ⟨PySem.W.mg_none_of X Gl z_min, List.forall_mem_cons.mpr ⟨PySem.W.mg_none_of X Gl z_all, List.forall_mem_cons.mpr ⟨PySem.W.mg_none_of X Gl z_any, List.forall_mem_cons.mpr ⟨PySem.W.mg_none_of X Gl z_set, List.forall_mem_cons.mpr ⟨PySem.W.mg_none_of X Gl z_range, List.forall_mem_cons.mpr ⟨PySem.W.mg_none_of X Gl z_isinstance, List.forall_mem_cons.mpr ⟨PySem.W.mg_none_of X Gl z_int, List.forall_mem_cons.mpr ⟨PySem.W.mg_none_of X Gl z_bool, List.forall_mem_cons.mpr ⟨PySem.W.mg_none_of X Gl z_str, List.forall_mem_cons.mpr ⟨PySem.W.mg_none_of X Gl z_enumerate, List.forall_mem_cons.mpr ⟨PySem.W.mg_none_of X Gl z_zip, List.forall_mem_nil _⟩⟩⟩⟩⟩⟩⟩⟩⟩⟩⟩⟩⟩⟩⟩⟩⟩
  · exact List.forall_mem_cons.mpr ⟨⟨X_BadRule, _, _, _, _, PySem.F.excBase_ValueError, xe_BadRule, PySem.W.mg_of X Gl ae_BadRule, ke_BadRule, gt_ecls (by rfl) ae_BadRule, fun Y hY => raises_own (hY ▸ be_BadRule) (hY ▸ te_BadRule)⟩, List.forall_mem_cons.mpr ⟨⟨X_BadThing, _, _, _, _, PySem.F.excBase_ValueError, xe_BadThing, PySem.W.mg_of X Gl ae_BadThing, ke_BadThing, gt_ecls (by rfl) ae_BadThing, fun Y hY => raises_own (hY ▸ be_BadThing) (hY ▸ te_BadThing)⟩, List.forall_mem_nil _⟩⟩
end FS

/-! FS20: how the evaluator is run by hand: small equations, comprehensions, loops. -/
namespace FS
open PySem L2
theorem ok_bind {α β : Type} (a : α) (f : α → R β) : (R.ok a).bind f = f a := rfl
theorem exc_bind {α β : Type} (c : Str) (f : α → R β) : (R.exc c : R α).bind f = .exc c := rfl
theorem ite_bind {α β : Type} {p : Prop} [Decidable p] (r s : R α) (f : α → R β) : (if p then r else s).bind f = if p then r.bind f else s.bind f := by split <;> rfl
theorem ok_nox {α : Type} (a : α) : (R.ok a).nox = .ok a := rfl
theorem run_fn {T : Tb} {W n : Nat} {x : Str} {ds : List D} {g : Fn} (h : T.fn (.fn x) = some g) (hl : ds.length = g.np) : run T W (n + 1) (.fn x) ds = endV (execs T W (run T W n) g.body [] (startE g ds)) := by
  simp only [run, h, hl, if_true]
theorem run_me {T : Tb} {W n : Nat} {c m : Str} {ds : List D} {g : Fn} (h : T.fn (.me c m) = some g) (hl : ds.length = g.np) : run T W (n + 1) (.me c m) ds = endV (execs T W (run T W n) g.body [] (startE g ds)) := by
  simp only [run, h, hl, if_true]
theorem run_ini {T : Tb} {W n : Nat} {c c' : Str} {fs : List (Str × D)} {ds : List D} {g : Fn} (h : T.fn (.ini c) = some g) (hl : ds.length + 1 = g.np) : run T W (n + 1) (.ini c) (.obj c' fs :: ds) = (execs T W (run T W n) g.body [] (startI T g c' fs ds)).bind (iniEnd c') := by
  simp only [run, h, List.length_cons, hl, if_true]
theorem run_mk {T : Tb} {W n : Nat} {c : Str} {ds : List D} : run T W (n + 1) (.mk c) ds = run T W n (.ini c) (.obj c [] :: ds) := by simp only [run]
/-- a comprehension, item by item -/
theorem comp_go {α : Type} {turn : D → R (Option (D × Bool))} {g : α → D} {f : α → D} {p : α → Bool} : ∀ {xs : List α} {acc : List D} {n : Bool}, (∀ x ∈ xs, turn (g x) = .ok (if p x then some (f x, true) else none)) → compV turn (xs.map g) acc n = .ok (acc ++ (xs.filter p).map f, n)
  | [], acc, n, _ => by simp [compV]
  | x :: xs, acc, n, h => by
    have ih := fun acc n => comp_go (turn := turn) (acc := acc) (n := n) fun y hy => h y (List.mem_cons_of_mem _ hy)
    rw [List.map_cons]
    unfold compV
    rw [h x List.mem_cons_self, ok_bind]
    cases hp : p x with
    | true =>
      simp only [if_true]
      rw [ih, Bool.and_true, List.filter_cons_of_pos hp]
      simp
    | false =>
      simp only [Bool.false_eq_true, if_false]
      rw [ih, List.filter_cons_of_neg (by simp [hp])]
theorem comp_all {α : Type} {turn : D → R (Option (D × Bool))} {g : α → D} {f : α → D} {xs : List α} {acc : List D} {n : Bool} (h : ∀ x ∈ xs, turn (g x) = .ok (some (f x, true))) : compV turn (xs.map g) acc n = .ok (acc ++ xs.map f, n) := by
  have := comp_go (p := fun _ => true) (turn := turn) (g := g) (f := f) (xs := xs) (acc := acc) (n := n) fun x hx => by simpa using h x hx
  rwa [List.filter_eq_self.mpr fun _ _ => rfl] at this
/-- a loop by its invariant, which may leave early -/
theorem for_go {α : Type} {turn : D → SEnv → R Fw} {g : α → D} (I : List α → List α → SEnv → Prop) (Rt : R Fw → Prop) : ∀ {xs pre : List α} {E : SEnv}, I pre xs E → (∀ pre x r E, I pre (x :: r) E → (∃ E', turn (g x) E = .ok (.nx E') ∧ I (pre ++ [x]) r E') ∨ (∃ d m, turn (g x) E = .ok (.rt d m) ∧ Rt (.ok (.rt d m)))) →
    (∃ E', forV turn (xs.map g) E = .ok (.nx E') ∧ I (pre ++ xs) [] E') ∨ (∃ d m, forV turn (xs.map g) E = .ok (.rt d m) ∧ Rt (.ok (.rt d m)))
  | [], pre, E, h, _ => .inl ⟨E, rfl, by simpa using h⟩
  | x :: xs, pre, E, h, hs => by
    rw [List.map_cons]
    unfold forV
    rcases hs pre x xs E h with ⟨E', e, h'⟩ | ⟨d, m, e, h'⟩
    · rw [e, ok_bind]
      rcases for_go I Rt h' hs with ⟨E2, e2, h2⟩ | ⟨d, m, e2, h2⟩
      · exact .inl ⟨E2, e2, by simpa using h2⟩
      · exact .inr ⟨d, m, e2, h2⟩
    · rw [e, ok_bind]
      exact .inr ⟨d, m, rfl, h'⟩
/-- .. without -/
theorem for_nx {α : Type} {turn : D → SEnv → R Fw} {g : α → D} (I : List α → List α → SEnv → Prop) {xs : List α} {E : SEnv} (h : I [] xs E) (hs : ∀ pre x r E, I pre (x :: r) E → ∃ E', turn (g x) E = .ok (.nx E') ∧ I (pre ++ [x]) r E') : ∃ E', forV turn (xs.map g) E = .ok (.nx E') ∧ I xs [] E' := by
  rcases for_go I (fun _ => False) h fun pre x r E h => .inl (hs pre x r E h) with h | ⟨_, _, _, z⟩
  · simpa using h
  · exact z.elim
theorem bind_assoc {α β γ : Type} (r : R α) (f : α → R β) (g : β → R γ) : (r.bind f).bind g = r.bind fun a => (f a).bind g := by cases r <;> rfl
theorem for_bind {α β : Type} {turn : D → SEnv → R Fw} {g : α → D} (I : List α → List α → SEnv → Prop) {xs : List α} {E : SEnv} {k : Fw → R β} {z : R β} (h : I [] xs E) (hs : ∀ pre x r E, I pre (x :: r) E → ∃ E', turn (g x) E = .ok (.nx E') ∧ I (pre ++ [x]) r E') (hk : ∀ E', I xs [] E' → k (.nx E') = z) : (forV turn (xs.map g) E).bind k = z := by
  obtain ⟨E', e, h'⟩ := for_nx I h hs
  rw [e, ok_bind]
  exact hk E' h'
theorem for_bindE {α β γ : Type} {turn : D → SEnv → R Fw} {g : α → D} (I : List α → List α → SEnv → Prop) {xs : List α} {E : SEnv} {k : Fw → R β} {z : γ → R β} {J : γ → Prop} (h : I [] xs E) (hs : ∀ pre x r E, I pre (x :: r) E → ∃ E', turn (g x) E = .ok (.nx E') ∧ I (pre ++ [x]) r E') (hk : ∀ E', I xs [] E' → ∃ c, k (.nx E') = z c ∧ J c) : ∃ c, (forV turn (xs.map g) E).bind k = z c ∧ J c := by
  obtain ⟨E', e, h'⟩ := for_nx I h hs
  rw [e, ok_bind]
  exact hk E' h'
theorem for_bind2 {α β : Type} {turn : D → SEnv → R Fw} {g : α → D} (I : List α → List α → SEnv → Prop) (Rt : R Fw → Prop) {xs : List α} {E : SEnv} {k : Fw → R β} {z : R β} (h : I [] xs E) (hs : ∀ pre x r E, I pre (x :: r) E → (∃ E', turn (g x) E = .ok (.nx E') ∧ I (pre ++ [x]) r E') ∨ (∃ d m, turn (g x) E = .ok (.rt d m) ∧ Rt (.ok (.rt d m)))) (hk : ∀ E', I xs [] E' → k (.nx E') = z) (hr : ∀ d m, Rt (.ok (.rt d m)) → k (.rt d m) = z) : (forV turn (xs.map g) E).bind k = z := by
  rcases for_go I Rt h hs with ⟨E', e, h'⟩ | ⟨d, m, e, h'⟩
  · rw [e, ok_bind]
    exact hk E' h'
  · rw [e, ok_bind]
    exact hr d m h'
theorem ixN_nat {n i : Nat} (h : i < n) : ixN' n (i : Int) = some i := by
  unfold ixN'
  rw [if_pos (by omega), if_pos (by omega)]
  rfl
theorem intsD_map : ∀ ns : List Int, intsD (ns.map D.int) = some ns
  | [] => rfl
  | n :: ns => by simp only [List.map_cons, intsD, intsD_map ns, Option.map_some]
theorem bls_map : ∀ ns : List Bool, bls (ns.map D.bl) = some ns
  | [] => rfl
  | n :: ns => by simp only [List.map_cons, bls, bls_map ns, Option.map_some]
theorem dedup_nodup {ns : List Int} (h : ns.Nodup) : dedup ns = ns := by
  have : ∀ (l acc : List Int), (acc ++ l).Nodup → l.foldl (fun acc x => if acc.any (· == x) then acc else acc ++ [x]) acc = acc ++ l := by
    intro l
    induction l with
    | nil => intro acc _; simp
    | cons x l ih =>
      intro acc hn
      rw [List.foldl_cons]
      have hx : x ∉ acc := by
        intro hx
        exact (List.nodup_append.mp hn).2.2 x hx x (by simp) rfl
      have : acc.any (· == x) = false := by
        rw [List.any_eq_false]
        intro y hy
        simp only [beq_iff_eq]
        exact fun z => hx (z ▸ hy)
      rw [this]
      simp only [Bool.false_eq_true, if_false]
      rw [ih (acc ++ [x]) (by simpa using hn)]
      simp
  have := this ns [] (by simpa using h)
  simpa [dedup] using this
theorem imm_ints (ns : List Int) : (ns.map D.int).all D.imm = true := by
  rw [List.all_map, List.all_eq_true]
  intro x _
  rfl
theorem dat_ints (n : Nat) (ns : List Int) : (ns.map D.int).all (D.dat n) = true := by
  rw [List.all_map, List.all_eq_true]
  intro x _
  cases n <;> rfl
theorem eqv_int (i j : Int) : (D.int i).eqv (.int j) = (i == j) := by unfold D.eqv; rfl
theorem eqvL_ints : ∀ xs ys : List Int, eqvL (xs.map D.int) (ys.map D.int) = (xs == ys)
  | [], [] => by simp [eqvL]
  | [], _ :: _ => by simp [eqvL]
  | _ :: _, [] => by simp [eqvL]
  | x :: xs, y :: ys => by simp only [List.map_cons, eqvL, eqv_int, eqvL_ints xs ys]; rfl

/-! ### operators at their values -/
section
variable {i j : Int} {f g : Fl} {a b : Bool} {T : Tb}
theorem bad_bind {α β : Type} (f : α → R β) : (R.bad : R α).bind f = .bad := rfl
theorem q_bool {α : Type} {k : Bool} {h : Bool → R α} : boolR (.bl k, f) h = h k := rfl
theorem q_add : binV .Add (.int i, f) (.int j, g) = .ok (.int (i + j), ⟨true, true, true⟩) := rfl
theorem q_sub : binV .Sub (.int i, f) (.int j, g) = .ok (.int (i - j), ⟨true, true, true⟩) := rfl
def mulOk (i j : Int) : Prop := (-(2 ^ 64) < i ∧ i < 2 ^ 64) ∨ (-(2 ^ 64) < j ∧ j < 2 ^ 64)
theorem q_mul (h : mulOk i j) : binV .Mult (.int i, f) (.int j, g) = .ok (.int (i * j), ⟨true, true, true⟩) := if_pos h
theorem q_mulr (h1 : -18446744073709551616 < j) (h2 : j < 18446744073709551616) : binV .Mult (.int i, f) (.int j, g) = .ok (.int (i * j), ⟨true, true, true⟩) := q_mul (.inr (by simpa using ⟨h1, h2⟩))
theorem q_mull (h1 : -18446744073709551616 < i) (h2 : i < 18446744073709551616) : binV .Mult (.int i, f) (.int j, g) = .ok (.int (i * j), ⟨true, true, true⟩) := q_mul (.inl (by simpa using ⟨h1, h2⟩))
theorem mulOk_r (h : -18446744073709551616 < j ∧ j < 18446744073709551616) : mulOk i j := .inr (by simpa using h)
theorem mulOk_l (h : -18446744073709551616 < i ∧ i < 18446744073709551616) : mulOk i j := .inl (by simpa using h)
theorem q_mod (h : 0 < j) : binV .Mod (.int i, f) (.int j, g) = .ok (.int (i % j), ⟨true, true, true⟩) := if_pos h
theorem q_fdiv (h1 : 0 < j) (h2 : j < 1073741824) : binV .FloorDiv (.int i, f) (.int j, g) = .ok (.int (i / j), ⟨true, true, true⟩) := if_pos ⟨h1, h2⟩
theorem q_cat {xs ys : List D} (h : xs.length + ys.length ≤ lim) : binV .Add (.lst xs, f) (.lst ys, g) = .ok (.lst (xs ++ ys), ⟨true, (f.n && g.n) || (xs ++ ys).all D.imm, true⟩) := if_pos h
theorem q_not : unV .Not (.bl a, f) = .ok (.bl (!a), ⟨true, true, true⟩) := rfl
theorem q_neg : unV .USub (.int i, f) = .ok (.int (-i), ⟨true, true, true⟩) := rfl
theorem q_lt : cmpV .Lt (.int i) (.int j) = .ok (decide (i < j)) := rfl
theorem q_le : cmpV .LtE (.int i) (.int j) = .ok (decide (i ≤ j)) := rfl
theorem q_gt : cmpV .Gt (.int i) (.int j) = .ok (decide (j < i)) := rfl
theorem q_ge : cmpV .GtE (.int i) (.int j) = .ok (decide (j ≤ i)) := rfl
theorem q_eqi : cmpV .Eq (.int i) (.int j) = .ok (i == j) := by
  show (if (D.int i).dat 60 && (D.int j).dat 60 then R.ok ((D.int i).eqv (.int j)) else R.bad) = _
  rw [eqv_int]
  rfl
theorem q_nei : cmpV .NotEq (.int i) (.int j) = .ok (!(i == j)) := by
  show (if (D.int i).dat 60 && (D.int j).dat 60 then R.ok (!(D.int i).eqv (.int j)) else R.bad) = _
  rw [eqv_int]
  rfl
theorem q_neb : cmpV .NotEq (.bl a) (.bl b) = .ok (!(a == b)) := by
  show (if (D.bl a).dat 60 && (D.bl b).dat 60 then R.ok (!(D.bl a).eqv (.bl b)) else R.bad) = _
  unfold D.eqv
  rfl
theorem q_isb : cmpV .Is (.bl a) (.bl b) = .ok (a == b) := rfl
theorem q_eql {xs ys : List D} (h1 : xs.all (D.dat 59) = true) (h2 : ys.all (D.dat 59) = true) : cmpV .Eq (.lst xs) (.lst ys) = .ok (eqvL xs ys) := by
  show (if (D.lst xs).dat 60 && (D.lst ys).dat 60 then R.ok ((D.lst xs).eqv (.lst ys)) else R.bad) = _
  rw [show (D.lst xs).dat 60 = true from h1, show (D.lst ys).dat 60 = true from h2]
  unfold D.eqv
  rfl
theorem q_nel {xs ys : List D} (h1 : xs.all (D.dat 59) = true) (h2 : ys.all (D.dat 59) = true) : cmpV .NotEq (.lst xs) (.lst ys) = .ok (!eqvL xs ys) := by
  show (if (D.lst xs).dat 60 && (D.lst ys).dat 60 then R.ok (!(D.lst xs).eqv (.lst ys)) else R.bad) = _
  rw [show (D.lst xs).dat 60 = true from h1, show (D.lst ys).dat 60 = true from h2]
  unfold D.eqv
  rfl
theorem eqvL_refl : ∀ (xs : List D), (∀ x ∈ xs, x.eqv x = true) → eqvL xs xs = true
  | [], _ => rfl
  | x :: xs, h => by simp [eqvL, h x List.mem_cons_self, eqvL_refl xs fun y hy => h y (List.mem_cons_of_mem _ hy)]
theorem eqvL_nil (xs : List D) : eqvL xs [] = xs.isEmpty := by cases xs <;> simp [eqvL]
theorem q_ixs {ns : List Int} {k : Nat} (h : k < ns.length) : idxV (.scr ns, f) (.int k, g) = .ok (.int ns[k], ⟨true, true, true⟩) := by
  show (match (ixN' ns.length k).bind fun j => ns[j]? with
    | some z => R.ok (mkI (.int z))
    | none => .bad) = _
  rw [ixN_nat h]
  simp only [Option.bind_some, List.getElem?_eq_getElem h]
  rfl
theorem q_ixl {xs : List D} {k : Nat} {d : D} (h : xs[k]? = some d) : idxV (.lst xs, f) (.int k, g) = .ok (d, ⟨false, f.n || d.imm, true⟩) := by
  show (match (ixN' xs.length k).bind fun j => xs[j]? with
    | some z => R.ok (mkE z f.n)
    | none => .bad) = _
  rw [ixN_nat (List.getElem?_eq_some_iff.mp h).1]
  simp only [Option.bind_some, h]
  rfl
theorem q_ixt {xs : List D} {k : Nat} {d : D} (h : xs[k]? = some d) : idxV (.tup xs, f) (.int k, g) = .ok (d, ⟨false, f.n || d.imm, true⟩) := by
  show (match (ixN' xs.length k).bind fun j => xs[j]? with
    | some z => R.ok (mkE z f.n)
    | none => .bad) = _
  rw [ixN_nat (List.getElem?_eq_some_iff.mp h).1]
  simp only [Option.bind_some, h]
  rfl
theorem q_t0 {x y : D} : idxV (.tup [x, y], f) (.int 0, g) = .ok (x, ⟨false, f.n || x.imm, true⟩) := q_ixt (k := 0) rfl
theorem q_t1 {x y : D} : idxV (.tup [x, y], f) (.int 1, g) = .ok (y, ⟨false, f.n || y.imm, true⟩) := q_ixt (k := 1) rfl
theorem q_len {xs : List D} : biV T .len [(.lst xs, f)] = .ok (.int xs.length, ⟨true, true, true⟩) := rfl
theorem q_lent {xs : List D} : biV T .len [(.tup xs, f)] = .ok (.int xs.length, ⟨true, true, true⟩) := rfl
theorem q_lens {xs : List Int} : biV T .len [(.scr xs, f)] = .ok (.int xs.length, ⟨true, true, true⟩) := rfl
theorem q_list {xs : List D} : biV T .list [(.lst xs, f)] = .ok (.lst xs, ⟨true, f.n || xs.all D.imm, true⟩) := rfl
theorem q_listt {xs : List D} : biV T .list [(.tup xs, f)] = .ok (.lst xs, ⟨true, f.n || xs.all D.imm, true⟩) := rfl
theorem q_tuple {xs : List D} : biV T .tuple [(.lst xs, f)] = .ok (.tup xs, ⟨true, f.n || xs.all D.imm, true⟩) := rfl
theorem q_all {bs : List Bool} : biV T .all [(.lst (bs.map D.bl), f)] = .ok (.bl (bs.all id), ⟨true, true, true⟩) := by
  show (match bls (bs.map D.bl) with
    | some bs => R.ok (mkI (.bl (bs.all id)))
    | none => .bad) = _
  rw [bls_map]
  rfl
theorem q_lenset {ns : List Int} (h : ns.length ≤ 1000) : biV T .lenset [(.lst (ns.map D.int), f)] = .ok (.int (dedup ns).length, ⟨true, true, true⟩) := by
  show (match intsD (ns.map D.int) with
    | some ns => if ns.length ≤ 1000 then R.ok (mkI (.int (dedup ns).length)) else .bad
    | none => .bad) = _
  rw [intsD_map]
  simp only
  rw [if_pos h]
  rfl
theorem q_count {ns : List Int} {k : Int} : biV T .count [(.lst (ns.map D.int), f), (.int k, g)] = .ok (.int (ns.count k), ⟨true, true, true⟩) := by
  show (match intsD (ns.map D.int) with
    | some ns => R.ok (mkI (.int (ns.count k)))
    | none => .bad) = _
  rw [intsD_map]
  rfl
theorem q_isi {t : Ty} {d : D} {k : Bool} (h : isiV T t d = .ok k) : biV T (.isi t) [(d, f)] = .ok (.bl k, ⟨true, true, true⟩) := by
  rw [isi_at, h]
  rfl
theorem i_int : isiV T .int (.int i) = .ok true := rfl
theorem i_bool : isiV T .bool (.int i) = .ok false := rfl
theorem i_boolb : isiV T .bool (.bl a) = .ok true := rfl
theorem i_list {xs : List D} : isiV T .list (.lst xs) = .ok true := rfl
theorem i_tuple {xs : List D} : isiV T .tuple (.tup xs) = .ok true := rfl
theorem i_cls {c e : Str} {fs : List (Str × D)} : isiV T (.cls c) (.obj e fs) = .ok (T.sub e c) := rfl
theorem q_is1 : biV T (.isi .int) [(.int i, f)] = .ok (.bl true, ⟨true, true, true⟩) := rfl
theorem q_is2 : biV T (.isi .bool) [(.int i, f)] = .ok (.bl false, ⟨true, true, true⟩) := rfl
theorem q_is3 : biV T (.isi .bool) [(.bl a, f)] = .ok (.bl true, ⟨true, true, true⟩) := rfl
theorem q_is4 {xs : List D} : biV T (.isi .list) [(.lst xs, f)] = .ok (.bl true, ⟨true, true, true⟩) := rfl
theorem q_is5 {xs : List D} : biV T (.isi .tuple) [(.tup xs, f)] = .ok (.bl true, ⟨true, true, true⟩) := rfl
theorem q_is6 {c e : Str} {fs : List (Str × D)} : biV T (.isi (.cls c)) [(.obj e fs, f)] = .ok (.bl (T.sub e c), ⟨true, true, true⟩) := rfl
theorem q_asg {E : SEnv} {k : Nat} {r n : Bool} : asgV E k (.int i, ⟨r, n, true⟩) = .ok (.nx (E.set k (some (.shr (.int i) n)))) := rfl
theorem q_asgb {E : SEnv} {k : Nat} {r n : Bool} : asgV E k (.bl a, ⟨r, n, true⟩) = .ok (.nx (E.set k (some (.shr (.bl a) n)))) := rfl
theorem q_asgt {E : SEnv} {k : Nat} {r n : Bool} {xs : List D} : asgV E k (.tup xs, ⟨r, n, true⟩) = .ok (.nx (E.set k (some (.shr (.tup xs) n)))) := rfl
theorem q_asgo {E : SEnv} {k : Nat} {r n : Bool} {c : Str} {fs : List (Str × D)} : asgV E k (.obj c fs, ⟨r, n, true⟩) = .ok (.nx (E.set k (some (.shr (.obj c fs) n)))) := rfl
theorem q_asgl {E : SEnv} {k : Nat} {n c : Bool} {xs : List D} : asgV E k (.lst xs, ⟨true, n, c⟩) = .ok (.nx (E.set k (some (.own (.lst xs) n)))) := rfl
theorem q_asgk {E : SEnv} {k : Nat} {n c : Bool} {xs : List (Int × D)} : asgV E k (.dic xs, ⟨true, n, c⟩) = .ok (.nx (E.set k (some (.own (.dic xs) n)))) := rfl
theorem q_rng {z : Nat} (h : (z : Int) ≤ lim) : rngV (.int 0) (.int z) = .ok ((List.range z).map fun (k : Nat) => D.int k, true, true) := by
  show (if -(lim : Int) ≤ 0 ∧ (0 : Int) ≤ lim ∧ -(lim : Int) ≤ z ∧ (z : Int) ≤ lim then R.ok ((List.range ((z : Int) - 0).toNat).map fun (k : Nat) => D.int (0 + k), true, true) else .bad) = _
  have hl : (lim : Int) = 1000000 := rfl
  rw [if_pos (by omega)]
  simp
theorem q_it {xs : List D} : itV (.lst xs, f) = .ok (xs, f.n, f.c) := rfl
theorem q_itt {xs : List D} : itV (.tup xs, f) = .ok (xs, f.n, f.c) := rfl
theorem q_rev {xs : List D} : revV (.lst xs, f) = .ok (.lst xs.reverse, ⟨true, f.n || xs.reverse.all D.imm, true⟩) := rfl
theorem q_call {d : D} {m : Bool} (h : (m || d.imm || f.c) = true) : callF (d, m) f = .ok (d, ⟨m, m || d.imm || f.n, true⟩) := if_pos h
theorem q_calli {m : Bool} : callF (.int i, m) f = .ok (.int i, ⟨m, true, true⟩) := by cases m <;> rfl
theorem q_callb {m : Bool} : callF (.bl a, m) f = .ok (.bl a, ⟨m, true, true⟩) := by cases m <;> rfl
theorem imm_i : D.imm (.int i) = true := rfl
theorem imm_b : D.imm (.bl a) = true := rfl
theorem imm_l {xs : List D} : D.imm (.lst xs) = false := rfl
theorem imm_k {xs : List (Int × D)} : D.imm (.dic xs) = false := rfl
theorem imm_s {x : Str} : D.imm (.str x) = true := rfl
theorem imm_n : D.imm .non = true := rfl
theorem imm_c {x : List Int} : D.imm (.scr x) = true := rfl
theorem q_nm {E : SEnv} {k : Nat} {d : D} {n : Bool} : tgV E (.nm k) d n = .ok (E.set k (some (.shr d n))) := rfl
theorem q_tp {E : SEnv} {k l : Nat} {x y : D} {n : Bool} : tgV E (.tp [k, l]) (.tup [x, y]) n = .ok ((E.set k (some (.shr x n))).set l (some (.shr y n))) := rfl
end


/-! ### the evaluator without binders -/
def varV : Option (Option Slot) → R (D × Fl)
  | some (some (.shr d n)) => .ok (d, ⟨false, n || d.imm, true⟩)
  | some (some (.own (.lst ds) n)) => .ok (.lst ds, ⟨false, n, false⟩)
  | some (some (.own (.dic ds) n)) => .ok (.dic ds, ⟨false, n, false⟩)
  | _ => .bad
def glbV : Option D → R (D × Fl)
  | some d => .ok (d, ⟨true, true, true⟩)
  | none => .bad
def binR (op : Operator) (x y : R (D × Fl)) : R (D × Fl) := x.bind fun x => y.bind fun y => binV op x y
def unR (op : UnaryOp) (x : R (D × Fl)) : R (D × Fl) := x.bind fun x => unV op x
abbrev Call := Fid → List D → R (D × Bool)
def andR (T : Tb) (C : Call) (b : Ex) (E : SEnv) (x : R (D × Fl)) : R (D × Fl) := x.bind fun x => boolR x fun k => if k then ev T C b E else .ok (mkI (.bl false))
def orR (T : Tb) (C : Call) (b : Ex) (E : SEnv) (x : R (D × Fl)) : R (D × Fl) := x.bind fun x => boolR x fun k => if k then .ok (mkI (.bl true)) else ev T C b E
def bolR (x : R Bool) : R (D × Fl) := x.bind fun k => .ok (mkI (.bl k))
def cmpR (op : CmpOp) (x y : R (D × Fl)) : R (D × Fl) := x.bind fun x => y.bind fun y => bolR (cmpV op x.1 y.1)
def chn2 (T : Tb) (C : Call) (op : CmpOp) (c : Ex) (E : SEnv) (y : D) (k : R Bool) : R (D × Fl) := k.bind fun k => if k then (ev T C c E).bind fun z => bolR (cmpV op y z.1) else .ok (mkI (.bl false))
def chnR (T : Tb) (C : Call) (op op' : CmpOp) (c : Ex) (E : SEnv) (x y : R (D × Fl)) : R (D × Fl) := x.bind fun x => y.bind fun y => chn2 T C op' c E y.1 (cmpV op x.1 y.1)
def iteR (T : Tb) (C : Call) (a b : Ex) (E : SEnv) (c : R (D × Fl)) : R (D × Fl) := c.bind fun c => boolR c fun k => if k then ev T C a E else ev T C b E
def lstR (xs : R (List (D × Fl))) : R (D × Fl) := xs.bind fun xs => if (cmb xs).2.c then .ok (mkL (cmb xs).1 (cmb xs).2.n) else .bad
def tupR (xs : R (List (D × Fl))) : R (D × Fl) := xs.bind fun xs => if (cmb xs).2.c then .ok (.tup (cmb xs).1, ⟨true, (cmb xs).2.n, true⟩) else .bad
def dicR (x y : R (D × Fl)) : R (D × Fl) := x.bind fun x => y.bind fun y => match x.1 with
    | .int i => if y.2.c then .ok (.dic [(i, y.1)], ⟨true, y.2.n || y.1.imm, true⟩) else .bad
    | _ => .bad
def consR (x : R (D × Fl)) (xs : R (List (D × Fl))) : R (List (D × Fl)) := x.bind fun x => xs.bind fun p => .ok (x :: p)
/-- a comprehension's items -/
def compL (T : Tb) (C : Fid → List D → R (D × Bool)) (elt : Ex) (tg : Tg) (cond : Ex) (n : Bool) (E : SEnv) (ds : List D) : R (List D × Bool) := compV (compTurn (fun E => ev T C cond E) (fun E => ev T C elt E) E tg n) ds [] true
def endC (q : R (List D × Bool)) : R (D × Fl) := q.nox.bind fun q => .ok (mkL q.1 q.2)
def compR (T : Tb) (C : Fid → List D → R (D × Bool)) (elt : Ex) (tg : Tg) (cond : Ex) (own : List Nat) (E : SEnv) (p : R (List D × Bool × Bool)) : R (D × Fl) := p.bind fun p => endC (compL T C elt tg cond p.2.1 (wipeE E own) p.1)
def clR (f : Fl) (q : R (D × Bool)) : R (D × Fl) := q.bind fun q => callF q f
def callR (C : Fid → List D → R (D × Bool)) (f : Fid) (xs : R (List (D × Fl))) : R (D × Fl) := xs.bind fun xs => clR (cmb xs).2 (C f (cmb xs).1)
def biR (T : Tb) (b : Bi) (xs : R (List (D × Fl))) : R (D × Fl) := xs.bind fun xs => biV T b xs
def mth2 (C : Fid → List D → R (D × Bool)) (m : Str) (x : D × Fl) (b : R Str) (xs : R (List (D × Fl))) : R (D × Fl) := b.bind fun b => xs.bind fun xs => clR (cmb (x :: xs)).2 (C (.me b m) (x.1 :: (cmb xs).1))
def mthR (T : Tb) (C : Fid → List D → R (D × Bool)) (m : Str) (x : R (D × Fl)) (xs : R (List (D × Fl))) : R (D × Fl) := x.bind fun x => mth2 C m x (mthC T m x.1) xs
def rcvR (T : Tb) (b : Bi) (x : R (D × Fl)) (xs : R (List (D × Fl))) : R (D × Fl) := x.bind fun x => if rcvB b x.1 then xs.bind fun xs => biV T b (x :: xs) else .bad
def attR (x : R (D × Fl)) (f : Str) : R (D × Fl) := x.bind fun x => attV x f
def idxR (x y : R (D × Fl)) : R (D × Fl) := x.bind fun x => y.bind fun y => idxV x y
def revR (x : R (D × Fl)) : R (D × Fl) := x.bind fun x => revV x
def slcR (x y z : R (D × Fl)) : R (D × Fl) := x.bind fun x => y.bind fun y => z.bind fun z => slcV x y.1 z.1
/-- the keys of a sort -/
def keyF (T : Tb) (C : Fid → List D → R (D × Bool)) (i : Nat) (key : Ex) (E : SEnv) (k : Int) : R Int := (ev T C key ((wipeE E [i]).set i (some (.shr (.int k) true)))).bind fun y => match y.1 with
          | .int z => .ok z
          | _ => .bad
def sortR (T : Tb) (C : Fid → List D → R (D × Bool)) (i : Nat) (key : Ex) (E : SEnv) (x : R (D × Fl)) : R (D × Fl) := x.bind fun x => sortkV x (keyF T C i key E)
def itR (x : R (D × Fl)) : R (List D × Bool × Bool) := x.bind fun x => itV x
def rngR (x y : R (D × Fl)) : R (List D × Bool × Bool) := x.bind fun x => y.bind fun y => rngV x.1 y.1
def rng1R (y : R (D × Fl)) : R (List D × Bool × Bool) := y.bind fun y => rngV (.int 0) y.1
def enumR (x : R (D × Fl)) : R (List D × Bool × Bool) := x.bind fun x => enumV x
def zipR (x y : R (D × Fl)) : R (List D × Bool × Bool) := x.bind fun x => y.bind fun y => zipV x y
section
variable {T : Tb} {W : Nat} {C : Fid → List D → R (D × Bool)} {E : SEnv} {e o k c a b d : Ex} {es : Exs} {i j : Nat}
theorem e_var : ev T C (.var i) E = varV E[i]? := by simp only [ev]; unfold varV; rfl
theorem e_con {d : D} : ev T C (.con d) E = .ok (d, ⟨true, true, true⟩) := by simp only [ev]; rfl
theorem e_glb {x : Str} : ev T C (.glb x) E = glbV (T.con x) := by simp only [ev]; cases T.con x <;> rfl
theorem e_bin {op : Operator} : ev T C (.bin op a b) E = binR op (ev T C a E) (ev T C b E) := by simp only [ev]; rfl
theorem e_un {op : UnaryOp} : ev T C (.un op a) E = unR op (ev T C a E) := by simp only [ev]; rfl
theorem e_and : ev T C (.and a b) E = andR T C b E (ev T C a E) := by simp only [ev]; rfl
theorem e_or : ev T C (.or a b) E = orR T C b E (ev T C a E) := by simp only [ev]; rfl
theorem e_cmp {op : CmpOp} : ev T C (.cmp op a b) E = cmpR op (ev T C a E) (ev T C b E) := by simp only [ev]; rfl
theorem e_chn {op op' : CmpOp} : ev T C (.chn op op' a b c) E = chnR T C op op' c E (ev T C a E) (ev T C b E) := by simp only [ev]; rfl
theorem e_ite : ev T C (.ite c a b) E = iteR T C a b E (ev T C c E) := by simp only [ev]; rfl
theorem e_lst : ev T C (.lst es) E = lstR (evl T C es E) := by simp only [ev]; rfl
theorem e_tup : ev T C (.tup es) E = tupR (evl T C es E) := by simp only [ev]; rfl
theorem e_dic0 : ev T C .dic0 E = .ok (.dic [], ⟨true, true, true⟩) := by simp only [ev]
theorem e_dic : ev T C (.dic a b) E = dicR (ev T C a E) (ev T C b E) := by simp only [ev]; rfl
theorem e_comp {tg : Tg} {it : It} {own : List Nat} : ev T C (.comp e tg it c own) E = compR T C e tg c own E (evI T C it E) := by simp only [ev]; rfl
theorem e_call {f : Fid} : ev T C (.call f es) E = callR C f (evl T C es E) := by simp only [ev]; rfl
theorem e_bi {b : Bi} : ev T C (.bi b es) E = biR T b (evl T C es E) := by simp only [ev]; rfl
theorem e_mth {m : Str} : ev T C (.mth o m es) E = mthR T C m (ev T C o E) (evl T C es E) := by
  simp only [ev]
  unfold mthR mth2 clR
  rfl
theorem e_rcv {b : Bi} : ev T C (.rcv b o es) E = rcvR T b (ev T C o E) (evl T C es E) := by simp only [ev]; rfl
theorem e_att {f : Str} : ev T C (.att o f) E = attR (ev T C o E) f := by simp only [ev]; rfl
theorem e_idx : ev T C (.idx a b) E = idxR (ev T C a E) (ev T C b E) := by simp only [ev]; rfl
theorem e_rev : ev T C (.rev a) E = revR (ev T C a E) := by simp only [ev]; rfl
theorem e_slc : ev T C (.slc a b c) E = slcR (ev T C a E) (ev T C b E) (ev T C c E) := by simp only [ev]; rfl
theorem e_sort : ev T C (.sortk e i k) E = sortR T C i k E (ev T C e E) := by simp only [ev]; rfl
theorem l_nil : evl T C .nil E = .ok [] := by simp only [evl]
theorem l_cons : evl T C (.cons e es) E = consR (ev T C e E) (evl T C es E) := by simp only [evl]; rfl
theorem i_seq : evI T C (.seq e) E = itR (ev T C e E) := by simp only [evI]; rfl
theorem i_rng : evI T C (.rng a b) E = rngR (ev T C a E) (ev T C b E) := by simp only [evI]; rfl
theorem i_rng1 : evI T C (.rng1 a) E = rng1R (ev T C a E) := by simp only [evI]; rfl
theorem i_enum : evI T C (.enum e) E = enumR (ev T C e E) := by simp only [evI]; rfl
theorem i_zip : evI T C (.zip a b) E = zipR (ev T C a E) (ev T C b E) := by simp only [evI]; rfl
end
section
variable {T : Tb} {C : Fid → List D → R (D × Bool)} {E : SEnv} {d d' : D} {f g h : Fl} {n : Bool} {x y z : D × Fl} {rx ry : R (D × Fl)} {k : Bool} {ds : List D}
theorem v_shr : varV (some (some (.shr d n))) = .ok (d, ⟨false, n || d.imm, true⟩) := (rfl)
theorem v_own : varV (some (some (.own (.lst ds) n))) = .ok (.lst ds, ⟨false, n, false⟩) := (rfl)
theorem v_dic {ks : List (Int × D)} : varV (some (some (.own (.dic ks) n))) = .ok (.dic ks, ⟨false, n, false⟩) := (rfl)
theorem g_some : glbV (some d) = .ok (d, ⟨true, true, true⟩) := rfl
theorem o_bin {op : Operator} : binR op (.ok x) (.ok y) = binV op x y := (rfl)
theorem o_un {op : UnaryOp} : unR op (.ok x) = unV op x := (rfl)
theorem o_andT {b : Ex} : andR T C b E (.ok (.bl true, f)) = ev T C b E := (rfl)
theorem o_andF {b : Ex} : andR T C b E (.ok (.bl false, f)) = .ok (.bl false, ⟨true, true, true⟩) := (rfl)
theorem o_orT {b : Ex} : orR T C b E (.ok (.bl true, f)) = .ok (.bl true, ⟨true, true, true⟩) := (rfl)
theorem o_orF {b : Ex} : orR T C b E (.ok (.bl false, f)) = ev T C b E := (rfl)
theorem o_bol : bolR (.ok k) = .ok (.bl k, ⟨true, true, true⟩) := (rfl)
theorem o_cmp {op : CmpOp} : cmpR op (.ok (d, f)) (.ok (d', g)) = bolR (cmpV op d d') := (rfl)
theorem o_chn {op op' : CmpOp} {c : Ex} : chnR T C op op' c E (.ok (d, f)) (.ok (d', g)) = chn2 T C op' c E d' (cmpV op d d') := (rfl)
theorem o_chT {op : CmpOp} {c : Ex} : chn2 T C op c E d (.ok true) = cmpR op (.ok (d, ⟨true, true, true⟩)) (ev T C c E) := (rfl)
theorem o_chF {op : CmpOp} {c : Ex} : chn2 T C op c E d (.ok false) = .ok (.bl false, ⟨true, true, true⟩) := (rfl)
theorem o_iteT {a b : Ex} : iteR T C a b E (.ok (.bl true, f)) = ev T C a E := (rfl)
theorem o_iteF {a b : Ex} : iteR T C a b E (.ok (.bl false, f)) = ev T C b E := (rfl)
theorem o_ite {a b : Ex} : iteR T C a b E (.ok (.bl k, f)) = if k then ev T C a E else ev T C b E := (rfl)
theorem o_and {b : Ex} : andR T C b E (.ok (.bl k, f)) = if k then ev T C b E else .ok (.bl false, ⟨true, true, true⟩) := (rfl)
theorem o_or {b : Ex} : orR T C b E (.ok (.bl k, f)) = if k then .ok (.bl true, ⟨true, true, true⟩) else ev T C b E := (rfl)
theorem o_ch {op : CmpOp} {c : Ex} : chn2 T C op c E d (.ok k) = if k then cmpR op (.ok (d, ⟨true, true, true⟩)) (ev T C c E) else .ok (.bl false, ⟨true, true, true⟩) := by cases k <;> rfl
theorem o_lst {xs : List (D × Fl)} : lstR (.ok xs) = if (cmb xs).2.c then .ok (.lst (cmb xs).1, ⟨true, (cmb xs).2.n || (cmb xs).1.all D.imm, true⟩) else .bad := (rfl)
theorem o_tup {xs : List (D × Fl)} : tupR (.ok xs) = if (cmb xs).2.c then .ok (.tup (cmb xs).1, ⟨true, (cmb xs).2.n, true⟩) else .bad := (rfl)
theorem o_dic {i : Int} : dicR (.ok (.int i, f)) (.ok (d, g)) = if g.c then .ok (.dic [(i, d)], ⟨true, g.n || d.imm, true⟩) else .bad := (rfl)
theorem o_cons {xs : List (D × Fl)} : consR (.ok x) (.ok xs) = .ok (x :: xs) := (rfl)
theorem o_comp {elt : Ex} {tg : Tg} {cond : Ex} {own : List Nat} {c : Bool} : compR T C elt tg cond own E (.ok (ds, n, c)) = endC (compL T C elt tg cond n (wipeE E own) ds) := (rfl)
theorem o_endC : endC (.ok (ds, n)) = .ok (.lst ds, ⟨true, n || ds.all D.imm, true⟩) := (rfl)
theorem o_call {fid : Fid} {xs : List (D × Fl)} : callR C fid (.ok xs) = clR (cmb xs).2 (C fid (cmb xs).1) := (rfl)
theorem o_cl {q : D × Bool} : clR f (.ok q) = callF q f := (rfl)
theorem o_clE {c : Str} : clR f (.exc c) = .exc c := (rfl)
theorem o_bi {b : Bi} {xs : List (D × Fl)} : biR T b (.ok xs) = biV T b xs := (rfl)
theorem o_mth {m : Str} {rs : R (List (D × Fl))} : mthR T C m (.ok x) rs = mth2 C m x (mthC T m x.1) rs := (rfl)
theorem o_mth2 {m b : Str} {xs : List (D × Fl)} : mth2 C m x (.ok b) (.ok xs) = clR (cmb (x :: xs)).2 (C (.me b m) (x.1 :: (cmb xs).1)) := (rfl)
theorem o_rcv {b : Bi} {xs : List (D × Fl)} : rcvR T b (.ok x) (.ok xs) = if rcvB b x.1 then biV T b (x :: xs) else .bad := (rfl)
theorem o_att {a : Str} : attR (.ok x) a = attV x a := (rfl)
theorem o_idx : idxR (.ok x) (.ok y) = idxV x y := (rfl)
theorem o_rev : revR (.ok x) = revV x := (rfl)
theorem o_slc : slcR (.ok x) (.ok y) (.ok z) = slcV x y.1 z.1 := (rfl)
theorem o_sort {i : Nat} {key : Ex} : sortR T C i key E (.ok x) = sortkV x (keyF T C i key E) := (rfl)
theorem o_it : itR (.ok x) = itV x := (rfl)
theorem o_rng : rngR (.ok (d, f)) (.ok (d', g)) = rngV d d' := (rfl)
theorem o_rng1 : rng1R (.ok (d, f)) = rngV (.int 0) d := (rfl)
theorem o_enum : enumR (.ok x) = enumV x := (rfl)
theorem o_zip : zipR (.ok x) (.ok y) = zipV x y := (rfl)
/-- an exception on the way -/
theorem o_consE {c : Str} {rs : R (List (D × Fl))} : consR (.exc c) rs = .exc c := (rfl)
theorem o_consE2 {c : Str} : consR (.ok x) (.exc c) = .exc c := (rfl)
theorem o_callE {fid : Fid} {c : Str} : callR C fid (.exc c) = .exc c := (rfl)
theorem o_biE {b : Bi} {c : Str} : biR T b (.exc c) = .exc c := (rfl)
theorem o_iteE {a b : Ex} {c : Str} : iteR T C a b E (.exc c) = .exc c := (rfl)
theorem o_orE {b : Ex} {c : Str} : orR T C b E (.exc c) = .exc c := (rfl)
theorem o_andE {b : Ex} {c : Str} : andR T C b E (.exc c) = .exc c := (rfl)
end
/-! ### statements, one equation each -/
def frzO : Option Slot → Option Slot
  | some (.own (.lst ds) n) => some (.shr (.lst ds) n)
  | some (.own (.dic ds) n) => some (.shr (.dic ds) n)
  | s => s
theorem frz1_get (E : SEnv) (i j : Nat) : (frz1 E i)[j]? = if i = j then (E[j]?).map frzO else E[j]? := by
  unfold frz1
  by_cases h : i = j
  · subst h
    rw [if_pos rfl]
    cases e : E[i]? with
    | none => simp [e]
    | some s =>
      have hl : i < E.length := (List.getElem?_eq_some_iff.mp e).1
      cases s with
      | none => simp [e, frzO]
      | some s =>
        cases s with
        | shr d n => simp [e, frzO]
        | dep d => simp [e, frzO]
        | slf c fs => simp [e, frzO]
        | own d n => cases d <;> first | (simp [e, frzO, List.getElem?_set, hl]; done) | (simp only [e, Option.map_some, frzO])
  · rw [if_neg h]
    cases e : E[i]? with
    | none => rfl
    | some s =>
      cases s with
      | none => rfl
      | some s =>
        cases s with
        | shr d n => rfl
        | dep d => rfl
        | slf c fs => rfl
        | own d n => cases d <;> simp [List.getElem?_set, h]
theorem frzO2 (s : Option Slot) : frzO (frzO s) = frzO s := by
  cases s with
  | none => rfl
  | some s =>
    cases s with
    | shr d n => rfl
    | dep d => rfl
    | slf c fs => rfl
    | own d n => cases d <;> rfl
theorem frz_get : ∀ (is : List Nat) (E : SEnv) (j : Nat), (frz E is)[j]? = if j ∈ is then (E[j]?).map frzO else E[j]?
  | [], E, j => by simp [frz]
  | i :: is, E, j => by
    unfold frz
    rw [frz_get is, frz1_get]
    by_cases h : i = j
    · subst h
      simp only [if_true, List.mem_cons, true_or]
      split
      · cases E[i]? with
        | none => rfl
        | some s => simp [frzO2]
      · rfl
    · have h' : ¬ j = i := fun z => h z.symm
      simp only [if_neg h, List.mem_cons, h', false_or]
theorem frz_all (E : SEnv) : frz E (List.range E.length) = E.map frzO := by
  apply List.ext_getElem?
  intro j
  rw [frz_get, List.getElem?_map]
  split
  · rfl
  · rename_i h
    rw [List.mem_range] at h
    rw [List.getElem?_eq_none (by omega)]
    rfl

/-! ### statements, one equation each -/
/-- a loop, its body as it is written -/
def turnV (T : Tb) (W : Nat) (C : Fid → List D → R (D × Bool)) (tg : Tg) (n : Bool) (b : Sxs) (L : List Nat) (x : D) (E : SEnv) : R Fw := (tgV E tg x n).bind fun E' => execs T W C b L E'
def loopV (T : Tb) (W : Nat) (C : Fid → List D → R (D × Bool)) (tg : Tg) (n : Bool) (b : Sxs) (L : List Nat) (ds : List D) (E : SEnv) : R Fw := forV (turnV T W C tg n b L) ds E
def seqR (T : Tb) (W : Nat) (C : Fid → List D → R (D × Bool)) (ss : Sxs) (L : List Nat) (r : R Fw) : R Fw := r.bind fun f => match f with
    | .nx E' => execs T W C ss L E'
    | .rt d n => .ok (.rt d n)
    | .rx i d n => .ok (.rx i d n)
def asgR (E : SEnv) (i : Nat) (x : R (D × Fl)) : R Fw := x.bind fun x => asgV E i x
def nxR (E : R SEnv) : R Fw := E.bind fun E' => .ok (.nx E')
def asgTR (E : SEnv) (is : List Nat) (x : R (D × Fl)) : R Fw := x.bind fun x => if x.2.c then nxR (tgV E (.tp is) x.1 x.2.n) else .bad
def parR (E : SEnv) (i j : Nat) (x y : R (D × Fl)) : R Fw := x.bind fun x => y.bind fun y => if x.2.c ∧ y.2.c then .ok (.nx ((E.set i (some (.shr x.1 x.2.n))).set j (some (.shr y.1 y.2.n)))) else .bad
def fldR (E : SEnv) (f : Str) (o : Option (Str × List (Str × D) × Bool)) (x : R (D × Fl)) : R Fw := match o with
    | some (c, fs, n) => x.bind fun x => if x.2.c ∧ fs.length < 900 then .ok (.nx (putS E 0 c (putO f x.1 fs) (n && (x.2.n || x.1.imm)))) else .bad
    | none => .bad
def sup2 (E : SEnv) (c : Str) (k : Bool) (q : R (D × Bool)) : R Fw := q.bind fun q => match q.1 with
        | .obj c2 fs2 => if c2 = c then .ok (.nx (putS E 0 c fs2 (k && q.2))) else .bad
        | _ => .bad
def retR (x : R (D × Fl)) : R Fw := x.bind fun x => if x.2.c then .ok (.rt x.1 (x.2.n && (x.2.r || !x.1.isL) && x.1.flat)) else .bad
def retO (o : Option (D × Bool)) (x : R (D × Fl)) : R Fw := match o with
    | some (d, n) => .ok (.rt d (n && d.flat))
    | none => retR x
def appR (E : SEnv) (i : Nat) (o : Option (List D × Bool)) (x : R (D × Fl)) : R Fw := match o with
    | some (ds, n) => x.bind fun x => appV E i ds n x
    | none => .bad
def clrR (E : SEnv) (i : Nat) (o : Option (List D × Bool)) : R Fw := match o with
    | some (_, n) => .ok (.nx (putL E i [] n))
    | none => .bad
def popR (E : SEnv) (j i : Nat) (o : Option (List D × Bool)) (k : R (D × Fl)) : R Fw := match o with
    | some (ds, n) => k.bind fun k => (popV ds k.1).bind fun p => .ok (.nx ((putL E i (ds.eraseIdx p.1) n).set j (some (.shr p.2 n))))
    | none => .bad
def setR (E : SEnv) (i : Nat) (o : Option (List D × Bool)) (o' : Option (List (Int × D) × Bool)) (x y : R (D × Fl)) : R Fw := match o, o' with
    | some (ds, n), _ => x.bind fun x => y.bind fun y => setLV E i ds n y.1 x
    | _, some (ds, n) => x.bind fun x => y.bind fun y => setKV E i ds n y.1 x
    | _, _ => .bad
def iteS (T : Tb) (W : Nat) (C : Call) (a b : Sxs) (L : List Nat) (E : SEnv) (c : R (D × Fl)) : R Fw := c.bind fun c => boolR c fun k => if k then execs T W C a L E else execs T W C b L E
def exprR (E : SEnv) (x : R (D × Fl)) : R Fw := x.bind fun _ => .ok (.nx E)
def whlR (T : Tb) (W : Nat) (C : Fid → List D → R (D × Bool)) (c : Ex) (b : Sxs) (L : List Nat) (w : Nat) (E : SEnv) : R Fw := whlV (fun E => (ev T C c E).bind fun k => boolR k fun k => .ok k) (fun E => execs T W C b L E) w E
def forR (T : Tb) (W : Nat) (C : Fid → List D → R (D × Bool)) (tg : Tg) (b : Sxs) (L : List Nat) (E : SEnv) (p : R (List D × Bool × Bool)) : R Fw := p.bind fun p => if p.2.2 then loopV T W C tg p.2.1 b L p.1 E else .bad
def forO (T : Tb) (W : Nat) (C : Fid → List D → R (D × Bool)) (tg : Tg) (it : It) (b : Sxs) (L : List Nat) (E : SEnv) : Option (Nat × List D × Bool) → R Fw
    | some (i, ds, n) => if lkB L (tgSlots tg) && !(tgSlots tg).contains i then loopV T W C tg n b (i :: L) ds E else .bad
    | none => if lkB L (tgSlots tg ++ escI it) then forR T W C tg b L (frz E (escI it)) (evI T C it (frz E (escI it))) else .bad
def slL : Option (Option Slot) → Option (List D × Bool)
  | some (some (.own (.lst ds) n)) => some (ds, n)
  | _ => none
def slK : Option (Option Slot) → Option (List (Int × D) × Bool)
  | some (some (.own (.dic ds) n)) => some (ds, n)
  | _ => none
def slO : Option (Option Slot) → Option (Str × List (Str × D) × Bool)
  | some (some (.own (.obj c fs) n)) => some (c, fs, n)
  | _ => none
def slV : Option (Option Slot) → Option (D × Bool)
  | some (some (.own (.lst ds) n)) => some (.lst ds, n)
  | some (some (.own (.dic ds) n)) => some (.dic ds, n)
  | _ => none
def frzW (E : SEnv) (i : Nat) : Option (Option Slot) → SEnv
  | some (some (.own (.lst ds) n)) => E.set i (some (.shr (.lst ds) n))
  | some (some (.own (.dic ds) n)) => E.set i (some (.shr (.dic ds) n))
  | _ => E
def itO (i : Nat) : Option (List D × Bool) → Option (Nat × List D × Bool)
  | some (ds, n) => some (i, ds, n)
  | none => none
section
variable {T : Tb} {W : Nat} {C : Fid → List D → R (D × Bool)} {E : SEnv} {e k c : Ex} {es : Exs} {i j : Nat} {b s : Sxs} {L : List Nat}
theorem lk_nil {is : List Nat} : lkB [] is = true := by unfold lkB; rw [List.all_eq_true]; intro i _; rfl
theorem lk_end : lkB L [] = true := rfl
theorem lk_cons {is : List Nat} : lkB L (i :: is) = (!(L.contains i || L.contains (i + 1000)) && lkB L is) := rfl
theorem sl_L : ownL E i = slL E[i]? := by unfold ownL slL; rfl
theorem sl_K : ownK E i = slK E[i]? := by unfold ownK slK; rfl
theorem sl_O : ownO E i = slO E[i]? := by unfold ownO slO; rfl
theorem sl_V : ownV E (.var i) = slV E[i]? := by unfold ownV slV; rfl
theorem sl_F : frz1 E i = frzW E i E[i]? := by unfold frz1 frzW; rfl
theorem it_V : ownIt E (.seq (.var i)) = itO i (ownL E i) := by
  unfold ownIt itO
  all_goals first | (simp only; done) | (simp only; cases ownL E i <;> rfl)
theorem x_asg : exec T W C (.asg i e) L E = if lkB L (i :: esc e) then asgR (frz E (esc e)) i (ev T C e (frz E (esc e))) else .bad := by simp only [exec]; rfl
theorem x_asgT {is : List Nat} : exec T W C (.asgT is e) L E = if lkB L (is ++ esc e) then asgTR (frz E (esc e)) is (ev T C e (frz E (esc e))) else .bad := by simp only [exec]; rfl
theorem x_par {e' : Ex} : exec T W C (.par i j e e') L E = if lkB L (i :: j :: (esc e ++ esc e')) then parR (frz E (esc e ++ esc e')) i j (ev T C e (frz E (esc e ++ esc e'))) (ev T C e' (frz E (esc e ++ esc e'))) else .bad := by simp only [exec]; rfl
theorem x_fld {f : Str} : exec T W C (.fld f e) L E = if lkB L (0 :: esc e) then fldR (frz E (esc e)) f (ownO (frz E (esc e)) 0) (ev T C e (frz E (esc e))) else .bad := by simp only [exec]; rfl
theorem x_ite {c : Ex} {a b : Sxs} : exec T W C (.ite c a b) L E = iteS T W C a b L E (ev T C c E) := by simp only [exec]; rfl
theorem x_for {tg : Tg} {it : It} : exec T W C (.for tg it b) L E = forO T W C tg it b L E (ownIt E it) := by simp only [exec]; rfl
theorem x_ret : exec T W C (.ret e) L E = retO (ownV E e) (ev T C e (E.map frzO)) := by simp only [exec, frz_all]; rfl
theorem x_rai {x : Str} : exec T W C (.rai x) L E = .exc x := by simp only [exec]
theorem x_expr : exec T W C (.expr e) L E = exprR E (ev T C e E) := by simp only [exec]; rfl
theorem x_pass : exec T W C .pass L E = .ok (.nx E) := by simp only [exec]
theorem x_whl : exec T W C (.whl c b) L E = whlR T W C c b L W E := by simp only [exec]; rfl
theorem x_clr : exec T W C (.clr i) L E = if lkB L [i] then clrR E i (ownL E i) else .bad := by simp only [exec]; rfl
theorem x_app : exec T W C (.app i e) L E = if lkB L (i :: esc e) then appR (frz E (esc e)) i (ownL (frz E (esc e)) i) (ev T C e (frz E (esc e))) else .bad := by simp only [exec]; rfl
theorem x_pop : exec T W C (.popA j i e) L E = if lkB L [j, i] then popR E j i (ownL E i) (ev T C e E) else .bad := by simp only [exec]; rfl
theorem x_set : exec T W C (.set i k e) L E = if lkB L (i :: esc e) then setR (frz E (esc e)) i (ownL (frz E (esc e)) i) (ownK (frz E (esc e)) i) (ev T C e (frz E (esc e))) (ev T C k (frz E (esc e))) else .bad := by simp only [exec]; rfl
theorem x_sup {b : Str} : exec T W C (.supi b es) L E = if lkB L [0] then match ownO E 0 with
    | some (c, fs, n) => (evl T C es E).bind fun xs => if (cmb xs).2.c && fs.isEmpty then (C (.ini b) (.obj c [] :: (cmb xs).1)).bind fun q => match q.1 with
        | .obj c2 fs2 => if c2 = c then .ok (.nx (putS E 0 c fs2 (n && (q.2 || (cmb xs).2.n)))) else .bad
        | _ => .bad
      else .bad
    | none => .bad
    else .bad := by simp only [exec] <;> rfl
theorem xs_nil : execs T W C .nil L E = .ok (.nx E) := by simp only [execs]
theorem xs_cons {s : Sx} {ss : Sxs} : execs T W C (.cons s ss) L E = seqR T W C ss L (exec T W C s L E) := by simp only [execs]; rfl
theorem s_nx : seqR T W C b L (.ok (.nx E)) = execs T W C b L E := (rfl)
theorem s_rt {d : D} {n : Bool} : seqR T W C b L (.ok (.rt d n)) = .ok (.rt d n) := (rfl)
theorem s_rx {i : Nat} {d d' : D} : seqR T W C b L (.ok (.rx i d d')) = .ok (.rx i d d') := (rfl)
theorem s_exc {x : Str} : seqR T W C b L (.exc x) = .exc x := (rfl)
theorem s_if {p : Prop} [Decidable p] {r r' : R Fw} : seqR T W C b L (if p then r else r') = if p then seqR T W C b L r else seqR T W C b L r' := by split <;> rfl
theorem t_nm {n : Bool} {x : D} : turnV T W C (.nm i) n b L x E = execs T W C b L (E.set i (some (.shr x n))) := (rfl)
theorem t_tp {n : Bool} {x y : D} : turnV T W C (.tp [i, j]) n b L (.tup [x, y]) E = execs T W C b L ((E.set i (some (.shr x n))).set j (some (.shr y n))) := (rfl)
section
variable {ds : List D} {n m r : Bool} {x y : D × Fl} {d : D} {f g : Fl} {ks : List (Int × D)} {cn : Str} {fs : List (Str × D)} {it : It} {tg : Tg}
theorem w_L : slL (some (some (.own (.lst ds) n))) = some (ds, n) := rfl
theorem w_Lk : slL (some (some (.own (.dic ks) n))) = none := rfl
theorem w_Ls : slL (some (some (.shr d n))) = none := rfl
theorem w_K : slK (some (some (.own (.dic ks) n))) = some (ks, n) := rfl
theorem w_Kl : slK (some (some (.own (.lst ds) n))) = none := rfl
theorem w_O : slO (some (some (.own (.obj cn fs) n))) = some (cn, fs, n) := rfl
theorem w_V : slV (some (some (.own (.lst ds) n))) = some (.lst ds, n) := rfl
theorem w_Vk : slV (some (some (.own (.dic ks) n))) = some (.dic ks, n) := rfl
theorem w_Vs : slV (some (some (.shr d n))) = none := rfl
theorem w_F : frzW E i (some (some (.own (.lst ds) n))) = E.set i (some (.shr (.lst ds) n)) := rfl
theorem w_Fk : frzW E i (some (some (.own (.dic ks) n))) = E.set i (some (.shr (.dic ks) n)) := rfl
theorem w_Fs : frzW E i (some (some (.shr d n))) = E := rfl
theorem w_Fo : frzW E i (some (some (.own (.obj cn fs) n))) = E := rfl
theorem w_Fn : frzW E i (some none) = E := rfl
theorem w_it : itO i (some (ds, n)) = some (i, ds, n) := rfl
theorem w_itn : itO i none = none := rfl
theorem a_asg : asgR E i (.ok x) = asgV E i x := (rfl)
theorem a_asgE {c : Str} : asgR E i (.exc c) = .exc c := (rfl)
theorem a_nx {E' : SEnv} : nxR (.ok E') = .ok (.nx E') := (rfl)
theorem a_asgT {is : List Nat} : asgTR E is (.ok (d, ⟨r, n, true⟩)) = nxR (tgV E (.tp is) d n) := (rfl)
theorem a_par {d' : D} {n' r' : Bool} : parR E i j (.ok (d, ⟨r, n, true⟩)) (.ok (d', ⟨r', n', true⟩)) = .ok (.nx ((E.set i (some (.shr d n))).set j (some (.shr d' n')))) := (rfl)
theorem a_fld {fn : Str} (h : fs.length < 900) : fldR E fn (some (cn, fs, m)) (.ok (d, ⟨r, n, true⟩)) = .ok (.nx (putS E 0 cn (putO fn d fs) (m && (n || d.imm)))) := if_pos ⟨rfl, h⟩
theorem a_retO : retO (some (d, n)) (.ok x) = .ok (.rt d (n && d.flat)) := (rfl)
theorem a_retS {rx : R (D × Fl)} : retO (some (d, n)) rx = .ok (.rt d (n && d.flat)) := (rfl)
theorem a_retN {rx : R (D × Fl)} : retO none rx = retR rx := (rfl)
theorem a_ret : retR (.ok (d, ⟨r, n, true⟩)) = .ok (.rt d (n && (r || !d.isL) && d.flat)) := (rfl)
theorem a_retE {c : Str} : retR (.exc c) = .exc c := (rfl)
theorem a_app : appR E i (some (ds, n)) (.ok x) = appV E i ds n x := (rfl)
theorem a_clr : clrR E i (some (ds, n)) = .ok (.nx (putL E i [] n)) := (rfl)
theorem a_set {o : Option (List (Int × D) × Bool)} : setR E i (some (ds, n)) o (.ok x) (.ok (d, f)) = setLV E i ds n d x := (rfl)
theorem a_setK : setR E i none (some (ks, n)) (.ok x) (.ok (d, f)) = setKV E i ks n d x := (rfl)
theorem a_expr : exprR E (.ok x) = .ok (.nx E) := (rfl)
theorem a_exprE {c : Str} : exprR E (.exc c) = .exc c := (rfl)
theorem a_iteT {a b : Sxs} : iteS T W C a b L E (.ok (.bl true, f)) = execs T W C a L E := (rfl)
theorem a_iteF {a b : Sxs} : iteS T W C a b L E (.ok (.bl false, f)) = execs T W C b L E := (rfl)
theorem a_ite {a b : Sxs} {k : Bool} : iteS T W C a b L E (.ok (.bl k, f)) = if k then execs T W C a L E else execs T W C b L E := (rfl)
theorem a_iteE {a b : Sxs} {c : Str} : iteS T W C a b L E (.exc c) = .exc c := (rfl)
theorem a_for : forR T W C tg b L E (.ok (ds, n, true)) = loopV T W C tg n b L ds E := (rfl)
theorem a_forO : forO T W C tg it b L E (some (i, ds, n)) = if lkB L (tgSlots tg) && !(tgSlots tg).contains i then loopV T W C tg n b (i :: L) ds E else .bad := (rfl)
theorem a_forN : forO T W C tg it b L E none = if lkB L (tgSlots tg ++ escI it) then forR T W C tg b L (frz E (escI it)) (evI T C it (frz E (escI it))) else .bad := (rfl)
theorem it_no (h : ∀ i, it ≠ .seq (.var i)) : ownIt E it = none := by
  unfold ownIt
  split
  · exact absurd rfl (h _)
  · rfl
end
theorem it_r1 : ownIt E (.rng1 e) = none := rfl
theorem it_r2 : ownIt E (.rng e k) = none := rfl
theorem it_e : ownIt E (.enum e) = none := rfl
theorem it_z : ownIt E (.zip e k) = none := rfl
theorem fo_shr {d : D} {n : Bool} : frzO (some (.shr d n)) = some (.shr d n) := rfl
theorem fo_lst {d : List D} {n : Bool} : frzO (some (.own (.lst d) n)) = some (.shr (.lst d) n) := rfl
theorem fo_dic {d : List (Int × D)} {n : Bool} : frzO (some (.own (.dic d) n)) = some (.shr (.dic d) n) := rfl
theorem fo_no : frzO none = none := rfl
theorem q_callT {d : D} {f : Fl} : callF (d, true) f = .ok (d, ⟨true, true, true⟩) := rfl
theorem fl_i {z : Int} : (D.int z).flat = true := rfl
theorem fl_b {z : Bool} : (D.bl z).flat = true := rfl
theorem fl_s {z : Str} : (D.str z).flat = true := rfl
theorem fl_n : D.non.flat = true := rfl
theorem fl_l {ds : List D} : (D.lst ds).flat = ds.all D.imm := rfl
theorem fl_t {ds : List D} : (D.tup ds).flat = D.imm.immL ds := rfl
theorem fl_o {c : Str} {fs : List (Str × D)} : (D.obj c fs).flat = D.imm.immF fs := rfl
theorem fl_d {ks : List (Int × D)} : (D.dic ks).flat = ks.all (fun p => p.2.imm) := rfl
theorem iF_nil : D.imm.immF [] = true := rfl
theorem iF_cons {x : Str} {d : D} {r : List (Str × D)} : D.imm.immF ((x, d) :: r) = (d.imm && D.imm.immF r) := rfl
theorem iL_nil : D.imm.immL [] = true := rfl
theorem iL_cons {d : D} {r : List D} : D.imm.immL (d :: r) = (d.imm && D.imm.immL r) := rfl
theorem st_I {T : Tb} {g : Fn} {c : Str} {fs : List (Str × D)} {r : List D} (h : T.ans c = false) : startI T g c fs r = some (.own (.obj c fs) true) :: r.map (fun d => some (.shr d false)) ++ List.replicate (g.ns - g.np) none := by
  unfold startI
  rw [h]
  rfl
theorem en_rt {d : D} {n : Bool} : endV (.ok (.rt d n)) = .ok (d, n) := (rfl)
theorem en_nx : endV (.ok (.nx E)) = .ok (.non, true) := (rfl)
theorem en_exc {x : Str} : endV (.exc x) = .exc x := (rfl)
theorem en_if {p : Prop} [Decidable p] {r r' : R Fw} : endV (if p then r else r') = if p then endV r else endV r' := by split <;> rfl
end
/-- a comprehension's turn, as it is written -/
def cturn (T : Tb) (C : Call) (elt cond : Ex) (E : SEnv) (tg : Tg) (n : Bool) (x : D) : R (Option (D × Bool)) := compTurn (fun E => ev T C cond E) (fun E => ev T C elt E) E tg n x
/-! ### loops by an invariant -/
section
variable {α : Type} {T : Tb} {W : Nat} {C : Fid → List D → R (D × Bool)} {tg : Tg} {n : Bool} {b : Sxs} {L : List Nat} {ds : List D} {E : SEnv} {z : R Fw} {g : α → D} {xs : List α}
theorem loop_nx (hz : loopV T W C tg n b L ds E = z) (hd : ds = xs.map g) (I : List α → List α → SEnv → Prop) (h : I [] xs E) (hs : ∀ pre x r E, pre ++ x :: r = xs → I pre (x :: r) E → ∃ E', turnV T W C tg n b L (g x) E = .ok (.nx E') ∧ I (pre ++ [x]) r E') : ∃ E', z = .ok (.nx E') ∧ I xs [] E' := by
  subst hz
  subst hd
  obtain ⟨E', e, h1, _⟩ := for_nx (turn := turnV T W C tg n b L) (g := g) (I := fun pre r E => I pre r E ∧ pre ++ r = xs) ⟨h, rfl⟩ fun pre x r E ⟨h1, h2⟩ => by
    obtain ⟨E', e, h3⟩ := hs pre x r E h2 h1
    exact ⟨E', e, h3, by rw [← h2]; simp⟩
  exact ⟨E', e, h1⟩
theorem loop_rt (hz : loopV T W C tg n b L ds E = z) (hd : ds = xs.map g) (I : List α → List α → SEnv → Prop) (Rt : D → Bool → Prop) (h : I [] xs E) (hs : ∀ pre x r E, pre ++ x :: r = xs → I pre (x :: r) E → (∃ E', turnV T W C tg n b L (g x) E = .ok (.nx E') ∧ I (pre ++ [x]) r E') ∨ (∃ d m, turnV T W C tg n b L (g x) E = .ok (.rt d m) ∧ Rt d m)) : (∃ E', z = .ok (.nx E') ∧ I xs [] E') ∨ (∃ d m, z = .ok (.rt d m) ∧ Rt d m) := by
  subst hz
  subst hd
  rcases for_go (turn := turnV T W C tg n b L) (g := g) (I := fun pre r E => I pre r E ∧ pre ++ r = xs) (Rt := fun z => ∃ d m, z = .ok (.rt d m) ∧ Rt d m) (pre := []) ⟨h, rfl⟩ (fun pre x r E ⟨h1, h2⟩ => by
    rcases hs pre x r E h2 h1 with ⟨E', e, h3⟩ | ⟨d, m, e, h3⟩
    · exact .inl ⟨E', e, h3, by rw [← h2]; simp⟩
    · exact .inr ⟨d, m, e, d, m, rfl, h3⟩) with ⟨E', e, h1, _⟩ | ⟨d, m, e, d', m', e', h1⟩
  · exact .inl ⟨E', e, by simpa using h1⟩
  · cases e'
    exact .inr ⟨d, m, e, h1⟩
/-- a while by a measure -/
theorem whl_go {c : Ex} (I : Nat → SEnv → Prop) (Q : R Fw → Prop) : ∀ (m w : Nat) (E : SEnv), m < w → I m E → (∀ m E, I m E → (∃ f, ev T C c E = .ok (.bl false, f) ∧ Q (.ok (.nx E))) ∨ (∃ f, ev T C c E = .ok (.bl true, f) ∧ ((∃ E' m', execs T W C b L E = .ok (.nx E') ∧ m' < m ∧ I m' E') ∨ ∃ d k, execs T W C b L E = .ok (.rt d k) ∧ Q (.ok (.rt d k))))) → Q (whlR T W C c b L w E)
  | m, 0, E, h, _, _ => absurd h (by omega)
  | m, w + 1, E, hw, h, hs => by
    unfold whlR whlV
    rcases hs m E h with ⟨f, e, q⟩ | ⟨f, e, ⟨E', m', e2, hm, h2⟩ | ⟨d, k, e2, q⟩⟩
    · simp only [e, ok_bind, q_bool]
      exact q
    · simp only [e, ok_bind, q_bool, e2, if_true]
      exact whl_go I Q m' w E' (by omega) h2 hs
    · simp only [e, ok_bind, q_bool, e2, if_true]
      exact q
theorem compL_go {elt cond : Ex} {E : SEnv} {f : α → D} {p : α → Bool} (h : ∀ x ∈ xs, cturn T C elt cond E tg n (g x) = .ok (if p x then some (f x, true) else none)) : compL T C elt tg cond n E (xs.map g) = .ok ((xs.filter p).map f, true) := by
  unfold compL
  exact (comp_go (turn := compTurn (fun E => ev T C cond E) (fun E => ev T C elt E) E tg n) h).trans rfl
theorem compL_all {elt cond : Ex} {E : SEnv} {f : α → D} (h : ∀ x ∈ xs, cturn T C elt cond E tg n (g x) = .ok (some (f x, true))) : compL T C elt tg cond n E (xs.map g) = .ok (xs.map f, true) := by
  unfold compL
  exact (comp_all (turn := compTurn (fun E => ev T C cond E) (fun E => ev T C elt E) E tg n) h).trans rfl
end
/-- a comprehension's turn, without binders -/
def turn2 (y : R (D × Fl)) : R (Option (D × Bool)) := y.bind fun y => if y.2.c then .ok (some (y.1, y.2.n || y.1.imm)) else .bad
def turn1 (T : Tb) (C : Call) (e : Ex) (E : SEnv) (k : R (D × Fl)) : R (Option (D × Bool)) := k.bind fun k => match k.1 with
    | .bl true => turn2 (ev T C e E)
    | .bl false => .ok none
    | _ => .bad
section
variable {T : Tb} {C : Fid → List D → R (D × Bool)} {c e : Ex} {E : SEnv} {i j : Nat} {n r : Bool} {x y d : D} {f : Fl} {ry : R (D × Fl)}
theorem ct_nm : cturn T C e c E (.nm i) n x = turn1 T C e (E.set i (some (.shr x n))) (ev T C c (E.set i (some (.shr x n)))) := (rfl)
theorem ct_tp : cturn T C e c E (.tp [i, j]) n (.tup [x, y]) = turn1 T C e ((E.set i (some (.shr x n))).set j (some (.shr y n))) (ev T C c ((E.set i (some (.shr x n))).set j (some (.shr y n)))) := (rfl)
theorem ct_T : turn1 T C e E (.ok (.bl true, f)) = turn2 (ev T C e E) := (rfl)
theorem ct_F : turn1 T C e E (.ok (.bl false, f)) = .ok none := (rfl)
theorem ct_2 : turn2 (.ok (d, ⟨r, n, true⟩)) = .ok (some (d, n || d.imm)) := (rfl)
end

theorem q_pop0 {E : SEnv} {i j : Nat} {d : D} {ds : List D} {n : Bool} {f : Fl} : popR E j i (some (d :: ds, n)) (.ok (.int 0, f)) = .ok (.nx ((putL E i ds n).set j (some (.shr d n)))) := by
  have : popV (d :: ds) (.int 0) = .ok (0, d) := by
    unfold popV
    simp [ixN']
  show (popV (d :: ds) (.int 0)).bind _ = _
  rw [this]
  rfl
/-! ### trees -/
theorem run_fx {T : Tb} {W n i : Nat} {x : Str} {ds : List D} {g : Fn} (h : T.fn (.fx x i) = some g) (hl : ds.length = g.np) (hi : i < ds.length) : run T W (n + 1) (.fx x i) ds = endX i (execs T W (run T W n) g.body [i + 1000] (startX g i ds)) := by
  simp only [run, h]
  rw [if_pos ⟨hl, hi⟩]
theorem run_mx {T : Tb} {W n i : Nat} {c m : Str} {ds : List D} {g : Fn} (h : T.fn (.mx c m i) = some g) (hl : ds.length = g.np) (hi : i < ds.length) : run T W (n + 1) (.mx c m i) ds = endX i (execs T W (run T W n) g.body [i + 1000] (startX g i ds)) := by
  simp only [run, h]
  rw [if_pos ⟨hl, hi⟩]
def keqR (s : Option (Option Slot)) (x : R (D × Fl)) : R (D × Fl) := match s with
  | some (some (.shr d _)) => x.bind fun y => keqV d y.1
  | _ => .bad
theorem e_keq {T : Tb} {C : Fid → List D → R (D × Bool)} {j i : Nat} {e : Ex} {E : SEnv} : ev T C (.keq j i e) E = if j < E.length then keqR E[i]? (ev T C e E) else .bad := by simp only [ev, keqR] <;> rfl
theorem o_keq {d : D} {n : Bool} {y : D × Fl} : keqR (some (some (.shr d n))) (.ok y) = keqV d y.1 := (rfl)
/-- what may go wrong, then no more -/
def asgDR (E : SEnv) (j : Nat) (x : R D) : R Fw := x.bind fun d => .ok (.nx (E.set j (some (.dep d))))
def fldDR (E : SEnv) (f : Str) (o : Option (Str × List (Str × D))) (x : R D) : R Fw := match o with
  | some (c, fs) => x.bind fun d => if fs.length < 900 ∧ fs.lookup f = none then .ok (.nx (E.set 0 (some (.slf c (fs ++ [(f, d)]))))) else .bad
  | none => .bad
def mutR2 (q : List St1) (d : D) (E : SEnv) (j : Nat) (x : R D) : R Fw := x.bind fun d2 => .ok (.nx (E.set j (some (.dep (setP d2 q d)))))
def mutR1 (T : Tb) (C : Call) (E : SEnv) (j : Nat) (op : MOp) (d : D) (q : List St1) (o : Option D) : R Fw := match o with
  | some d1 => if okM op d1 then mutR2 q d E j (mutV T C op E d1) else .bad
  | none => .bad
def mutR (T : Tb) (C : Call) (E : SEnv) (j : Nat) (op : MOp) (o : Option D) (q : R (List St1)) : R Fw := match o with
  | some d => q.bind fun q => mutR1 T C E j op d q (getP q d)
  | none => .bad
def appR2 (d : D) (x : R D) : R D := x.bind fun x => appD d x
def remR (d : D) (x : R (D × Fl)) : R D := x.bind fun x => remV d x.1
def setR2 (d : D) (x y : R (D × Fl)) : R D := x.bind fun x => y.bind fun y => setV d y.1 x.1
def forMR (E : SEnv) (j i : Nat) (op : MOp) (o : Option D) : R Fw := match o with
  | some (.lst ds) => (allM op ds).bind fun ds' => .ok (.nx ((E.set j (some (.dep (.lst ds')))).set i none))
  | _ => .bad
def retTR (x : R D) : R Fw := x.bind fun d => .ok (.rt d true)
def retXR (i : Nat) (o : Option D) (x : R (D × Fl)) : R Fw := match o with
  | some d => x.bind fun x => if safeB x then .ok (.rx i x.1 d) else .bad
  | none => .bad
def callXR (p : R (D × SEnv)) : R Fw := p.bind fun p => .ok (.nx p.2)
def iteXR (T : Tb) (W : Nat) (C : Call) (neg : Bool) (a b : Sxs) (L : List Nat) (p : R (D × SEnv)) : R Fw := p.bind fun p => match p.1 with
  | .bl k => if (neg != k) then execs T W C a L p.2 else execs T W C b L p.2
  | _ => .bad
def evXR (E : SEnv) (j : Nat) (x : R (D × Bool)) : R (D × SEnv) := x.bind (evX2 E j)
def fxR (C : Call) (x : Str) (d : D) (xs ys : R (List (D × Fl))) : R (D × Bool) := xs.bind fun xs => ys.bind fun ys => if (cmb xs).2.c && (cmb ys).2.c then (C (.fx x xs.length) ((cmb xs).1 ++ d :: (cmb ys).1)).nox else .bad
def mxR2 (C : Call) (b m : Str) (o d : D) (xs ys : R (List (D × Fl))) : R (D × Bool) := xs.bind fun xs => ys.bind fun ys => if (cmb xs).2.c && (cmb ys).2.c then (C (.mx b m (xs.length + 1)) (o :: (cmb xs).1 ++ d :: (cmb ys).1)).nox else .bad
def mxR1 (C : Call) (m : Str) (o d : D) (b : R Str) (xs ys : R (List (D × Fl))) : R (D × Bool) := b.bind fun b => mxR2 C b m o d xs ys
def mxR (T : Tb) (C : Call) (m : Str) (o : R (D × Fl)) (d : D) (xs ys : R (List (D × Fl))) : R (D × Bool) := o.bind fun x => mxR1 C m x.1 d (mthC T m x.1) xs ys
def evX0 (T : Tb) (C : Call) (c : Cal) (j : Nat) (pre post : Exs) (E : SEnv) (o : Option D) : R (D × SEnv) := match o with
  | some d => evXR E j (evX1 T C c pre post E d)
  | none => .bad
section
variable {T : Tb} {W : Nat} {C : Fid → List D → R (D × Bool)} {E : SEnv} {e k c : Ex} {es pre post : Exs} {i j n : Nat} {b s a : Sxs} {L : List Nat} {d d1 d2 : D} {t : TEx} {ts : TExs} {p : List PSt} {q : List St1} {op : MOp} {x y : D × Fl} {f g : Fl} {ds : List D} {xs ys : List (D × Fl)}
theorem x_asgD : exec T W C (.asgD j t) L E = if lkB L [j] then asgDR E j (tev T C t E) else .bad := by simp only [exec]; rfl
theorem x_fldD {f : Str} : exec T W C (.fldD f t) L E = fldDR E f (slfO E[0]?) (tev T C t E) := by simp only [exec, fldDR] <;> rfl
theorem x_mut : exec T W C (.mut j p op) L E = if L.contains j then .bad else mutR T C E j op (depO E[j]?) (evP T C p E) := by
  simp only [exec, mutD]
  split
  · rfl
  · unfold mutR
    cases depO E[j]? with
    | none => rfl
    | some d =>
      simp only
      rw [bind_assoc]
      congr 1
      funext q
      unfold mutR1
      cases getP q d with
      | none => rfl
      | some d1 =>
        simp only
        split
        · rw [bind_assoc]; rfl
        · rfl
theorem x_forM : exec T W C (.forM j i op) L E = if (lkB L [j, i] && !(i == j)) && decide (i < E.length) then forMR E j i op (depO E[j]?) else .bad := by simp only [exec, forMR] <;> rfl
theorem x_retT : exec T W C (.retT t) L E = retTR (tev T C t E) := by simp only [exec]; rfl
theorem x_retX : exec T W C (.retX i e) L E = retXR i (depO E[i]?) (ev T C e E) := by simp only [exec, retXR] <;> rfl
theorem x_callX {c : Cal} : exec T W C (.callX c j pre post) L E = callXR (evX T C c j pre post L E) := by simp only [exec]; rfl
theorem x_iteX {c : Cal} {neg : Bool} : exec T W C (.iteX neg c j pre post a b) L E = iteXR T W C neg a b L (evX T C c j pre post L E) := by simp only [exec, iteXR] <;> rfl
theorem x_X {c : Cal} : evX T C c j pre post L E = if !L.contains j && lkB L (esc.escs pre ++ esc.escs post) then evX0 T C c j pre post (frz E (esc.escs pre ++ esc.escs post)) (depO E[j]?) else .bad := by
  unfold evX evX0
  split
  · cases depO E[j]? <;> rfl
  · rfl
theorem x_X0 {c : Cal} : evX0 T C c j pre post E (some d) = evXR E j (evX1 T C c pre post E d) := (rfl)
theorem x_Xf {x : Str} : evX1 T C (.fn x) pre post E d = fxR C x d (evl T C pre E) (evl T C post E) := (rfl)
theorem x_Xm {m : Str} {o : Ex} : evX1 T C (.me o m) pre post E d = mxR T C m (ev T C o E) d (evl T C pre E) (evl T C post E) := (rfl)
theorem a_fxR {x : Str} (h : ((cmb xs).2.c && (cmb ys).2.c) = true) : fxR C x d (.ok xs) (.ok ys) = (C (.fx x xs.length) ((cmb xs).1 ++ d :: (cmb ys).1)).nox := if_pos h
theorem a_mxR {m : Str} : mxR T C m (.ok x) d (.ok xs) (.ok ys) = mxR1 C m x.1 d (mthC T m x.1) (.ok xs) (.ok ys) := (rfl)
theorem a_mxR1 {m b : Str} : mxR1 C m d1 d (.ok b) (.ok xs) (.ok ys) = mxR2 C b m d1 d (.ok xs) (.ok ys) := (rfl)
theorem a_mxR2 {m b : Str} (h : ((cmb xs).2.c && (cmb ys).2.c) = true) : mxR2 C b m d1 d (.ok xs) (.ok ys) = (C (.mx b m (xs.length + 1)) (d1 :: (cmb xs).1 ++ d :: (cmb ys).1)).nox := if_pos h
theorem a_evXR : evXR E j (.ok (.tup [d, d2], true)) = .ok (d, E.set j (some (.dep d2))) := (rfl)
theorem a_callXR {E' : SEnv} : callXR (.ok (d, E')) = .ok (.nx E') := (rfl)
theorem a_iteXR {k neg : Bool} {E' : SEnv} : iteXR T W C neg a b L (.ok (.bl k, E')) = if (neg != k) then execs T W C a L E' else execs T W C b L E' := (rfl)
theorem a_asgDR : asgDR E j (.ok d) = .ok (.nx (E.set j (some (.dep d)))) := (rfl)
theorem a_retTR : retTR (.ok d) = .ok (.rt d true) := (rfl)
theorem a_retXR (h : safeB x = true) : retXR i (some d) (.ok x) = .ok (.rx i x.1 d) := if_pos h
theorem a_mut {q : List St1} : mutR T C E j op (some d) (.ok q) = mutR1 T C E j op d q (getP q d) := (rfl)
theorem a_mut1 (h : okM op d1 = true) : mutR1 T C E j op d q (some d1) = mutR2 q d E j (mutV T C op E d1) := if_pos h
theorem a_mut1S : mutR1 T C E j (.set k e) d q (some d1) = mutR2 q d E j (mutV T C (.set k e) E d1) := a_mut1 (by unfold okM; rfl)
theorem a_mut1A : mutR1 T C E j (.app t) d q (some (.lst ds)) = mutR2 q d E j (mutV T C (.app t) E (.lst ds)) := a_mut1 (by unfold okM; rfl)
theorem a_mut1R : mutR1 T C E j (.rem e) d q (some (.lst ds)) = mutR2 q d E j (mutV T C (.rem e) E (.lst ds)) := a_mut1 (by unfold okM; rfl)
theorem a_mut1C : mutR1 T C E j .clr d q (some (.lst ds)) = mutR2 q d E j (mutV T C .clr E (.lst ds)) := a_mut1 (by unfold okM; rfl)
theorem a_mut2 : mutR2 q d E j (.ok d2) = .ok (.nx (E.set j (some (.dep (setP d2 q d))))) := (rfl)
theorem a_mutA : mutV T C (.app t) E d = appR2 d (tev T C t E) := by simp only [mutV]; rfl
theorem a_mutC : mutV T C .clr E d = clrD d := by simp only [mutV]
theorem a_mutR : mutV T C (.rem e) E d = remR d (ev T C e (borE E)).nox := by simp only [mutV]; rfl
theorem a_mutS : mutV T C (.set k e) E d = setR2 d (ev T C e (borE E)).nox (ev T C k (borE E)).nox := by simp only [mutV]; rfl
theorem a_setR2 {x y : D × Fl} : setR2 d (.ok x) (.ok y) = setV d y.1 x.1 := (rfl)
theorem a_appR2 : appR2 d (.ok d1) = appD d d1 := (rfl)
theorem a_remR : remR d (.ok x) = remV d x.1 := (rfl)
theorem a_forM {ds' : List D} (h : allM op ds = .ok ds') : forMR E j i op (some (.lst ds)) = .ok (.nx ((E.set j (some (.dep (.lst ds')))).set i none)) := by simp only [forMR, h]; rfl
theorem allM_map {xs : List (List D)} : allM .clr (xs.map D.lst) = .ok (xs.map fun _ => D.lst []) := by
  induction xs with
  | nil => rfl
  | cons x xs ih => simp only [List.map_cons, allM, clrD, ih, ok_bind]
/-- trees -/
def safeR (x : R (D × Fl)) : R D := x.bind safeD
def safeW (x : R (D × Fl)) : R (D × Fl) := x.bind safeV
theorem te_im : tev T C (.im e) E = safeR (ev T C e (borE E)) := by simp only [tev]; rfl
theorem a_safeR (h : safeB x = true) : safeR (.ok x) = .ok x.1 := if_pos h
theorem a_safeW (h : safeB x = true) : safeW (.ok x) = .ok (mkI x.1) := if_pos h
theorem e_bor : ev T C (.bor e) E = safeW (ev T C e (borE E)) := by simp only [ev]; rfl
theorem safe_imm {f : Fl} (h : d.imm = true) : safeB (d, f) = true := by unfold safeB; simp only [h, Bool.true_or]
theorem a_retXn : retXR i (some d) (.ok (.non, f)) = .ok (.rx i .non d) := a_retXR (safe_imm rfl)
theorem a_retXb {k : Bool} : retXR i (some d) (.ok (.bl k, f)) = .ok (.rx i (.bl k) d) := a_retXR (safe_imm rfl)
theorem a_retXi {k : Int} : retXR i (some d) (.ok (.int k, f)) = .ok (.rx i (.int k) d) := a_retXR (safe_imm rfl)
theorem a_safeb {k : Bool} : safeW (.ok (.bl k, f)) = .ok (.bl k, ⟨true, true, true⟩) := a_safeW (safe_imm rfl)
theorem a_safei {k : Int} : safeW (.ok (.int k, f)) = .ok (.int k, ⟨true, true, true⟩) := a_safeW (safe_imm rfl)
theorem bor_nil : borE [] = [] := rfl
theorem bor_cons {s : Option Slot} {E : SEnv} : borE (s :: E) = borS s :: borE E := rfl
theorem bor_set {s : Option Slot} : borE (E.set i s) = (borE E).set i (borS s) := by unfold borE; rw [List.map_set]
theorem bs_dep : borS (some (.dep d)) = some (.shr d false) := rfl
theorem bs_shr {n : Bool} : borS (some (.shr d n)) = some (.shr d n) := rfl
theorem bs_own {n : Bool} : borS (some (.own d n)) = some (.own d n) := rfl
theorem bs_no : borS none = none := rfl
theorem dp_dep : depO (some (some (.dep d))) = some d := rfl
theorem w_Ld : slL (some (some (.dep d))) = none := rfl
theorem w_Kd : slK (some (some (.dep d))) = none := rfl
theorem w_Fd : frzW E i (some (some (.dep d))) = E := rfl
theorem fo_dep : frzO (some (.dep d)) = some (.dep d) := rfl
theorem p_nil : evP T C [] E = .ok [] := by simp only [evP]
theorem en_Xnx : endX i (.ok (.nx E)) = match depO E[i]? with
    | some d => .ok (.tup [.non, d], true)
    | none => .bad := (rfl)
theorem en_Xrx : endX i (.ok (.rx i d d2)) = .ok (.tup [d, d2], true) := if_pos rfl
end
section
variable {α : Type} {T : Tb} {W : Nat} {C : Fid → List D → R (D × Bool)} {tg : Tg} {n : Bool} {b : Sxs} {L : List Nat} {ds : List D} {E : SEnv} {z : R Fw} {g : α → D} {xs : List α}
def Fw.isNx : Fw → Bool
  | .nx _ => true
  | _ => false
/-- a loop that may be left, by whatever return -/
theorem loop_fw : ∀ {xs pre all : List α} {E : SEnv}, (I : List α → List α → SEnv → Prop) → (Rt : Fw → Prop) → pre ++ xs = all → I pre xs E → (∀ pre x r E, pre ++ x :: r = all → I pre (x :: r) E → (∃ E', turnV T W C tg n b L (g x) E = .ok (.nx E') ∧ I (pre ++ [x]) r E') ∨ (∃ q, turnV T W C tg n b L (g x) E = .ok q ∧ q.isNx = false ∧ Rt q)) →
    (∃ E', loopV T W C tg n b L (xs.map g) E = .ok (.nx E') ∧ I all [] E') ∨ (∃ q, loopV T W C tg n b L (xs.map g) E = .ok q ∧ q.isNx = false ∧ Rt q)
  | [], pre, all, E, I, Rt, e, h, _ => .inl ⟨E, rfl, by rw [List.append_nil] at e; rw [← e]; exact h⟩
  | x :: xs, pre, all, E, I, Rt, e, h, hs => by
    have un : loopV T W C tg n b L ((x :: xs).map g) E = (turnV T W C tg n b L (g x) E).bind fun f => match f with
      | .nx E' => loopV T W C tg n b L (xs.map g) E'
      | .rt d n => .ok (.rt d n)
      | .rx i d n => .ok (.rx i d n) := rfl
    rw [un]
    rcases hs pre x xs E e h with ⟨E', e2, h2⟩ | ⟨q, e2, hq, h2⟩
    · rw [e2, ok_bind]
      exact loop_fw I Rt (by rw [← e]; simp) h2 hs
    · rw [e2, ok_bind]
      cases q with
      | nx E' => cases hq
      | rt d m => exact .inr ⟨_, rfl, rfl, h2⟩
      | rx i d m => exact .inr ⟨_, rfl, rfl, h2⟩
/-- a while by a measure, left by whatever return -/
theorem whl_fw {c : Ex} (I : Nat → SEnv → Prop) (Q : R Fw → Prop) : ∀ (m w : Nat) (E : SEnv), m < w → I m E → (∀ m E, I m E → (∃ f, ev T C c E = .ok (.bl false, f) ∧ Q (.ok (.nx E))) ∨ (∃ f, ev T C c E = .ok (.bl true, f) ∧ ((∃ E' m', execs T W C b L E = .ok (.nx E') ∧ m' < m ∧ I m' E') ∨ ∃ q, execs T W C b L E = .ok q ∧ q.isNx = false ∧ Q (.ok q)))) → Q (whlR T W C c b L w E)
  | m, 0, E, h, _, _ => absurd h (by omega)
  | m, w + 1, E, hw, h, hs => by
    unfold whlR whlV
    rcases hs m E h with ⟨f, e, q⟩ | ⟨f, e, ⟨E', m', e2, hm, h2⟩ | ⟨q, e2, hq, h2⟩⟩
    · simp only [e, ok_bind, q_bool]
      exact q
    · simp only [e, ok_bind, q_bool, e2, if_true]
      exact whl_fw I Q m' w E' (by omega) h2 hs
    · simp only [e, ok_bind, q_bool, e2, if_true]
      cases q with
      | nx E' => cases hq
      | rt d m => exact h2
      | rx i d m => exact h2
end
end FS

/-! FS33: more equations: what makes a tree. -/
namespace FS
open PySem L2
def cturnT (T : Tb) (C : Call) (elt cond : Ex) (E : SEnv) (tg : Tg) (n : Bool) (x : D) : R (Option (D × Bool)) := compTurnT (fun E => ev T C cond E) (fun E => ev T C elt E) E tg n x
def compTL (T : Tb) (C : Call) (elt : Ex) (tg : Tg) (cond : Ex) (n : Bool) (E : SEnv) (ds : List D) : R (List D × Bool) := compV (compTurnT (fun E => ev T C cond E) (fun E => ev T C elt E) E tg n) ds [] true
def endCT (q : R (List D × Bool)) : R D := q.nox.bind fun q => .ok (.lst q.1)
def compTR (T : Tb) (C : Call) (elt : Ex) (tg : Tg) (cond : Ex) (own : List Nat) (E : SEnv) (p : R (List D × Bool × Bool)) : R D := p.bind fun p => endCT (compTL T C elt tg cond p.2.1 (wipeE E own) p.1)
def turnT2 (y : R (D × Fl)) : R (Option (D × Bool)) := y.bind fun y => if safeB y then .ok (some (y.1, true)) else .bad
def turnT1 (T : Tb) (C : Call) (e : Ex) (E : SEnv) (k : R (D × Fl)) : R (Option (D × Bool)) := k.bind fun k => match k.1 with
    | .bl true => turnT2 (ev T C e E)
    | .bl false => .ok none
    | _ => .bad
def lstTR (x : R (List D)) : R D := x.bind fun ds => if ds.length ≤ lim then .ok (.lst ds) else .bad
def consTR (x : R D) (xs : R (List D)) : R (List D) := x.bind fun d => xs.bind fun ds => .ok (d :: ds)
def clTR (q : R (D × Bool)) : R D := q.bind fun q => if q.2 || q.1.imm then .ok q.1 else .bad
def callTR (C : Call) (f : Fid) (xs : R (List (D × Fl))) : R D := xs.bind fun xs => clTR (C f (cmb xs).1)
section
variable {T : Tb} {C : Fid → List D → R (D × Bool)} {c e : Ex} {es : Exs} {E : SEnv} {i j : Nat} {n r : Bool} {x y d : D} {f : Fl} {t : TEx} {ts : TExs}
theorem te_comp {tg : Tg} {it : It} {own : List Nat} : tev T C (.comp e tg it c own) E = compTR T C e tg c own (borE E) (evI T C it (borE E)) := by simp only [tev]; rfl
theorem te_lst : tev T C (.lst ts) E = lstTR (tevs T C ts E) := by simp only [tev]; rfl
theorem te_call {f : Fid} : tev T C (.call f es) E = callTR C f (evl T C es (borE E)) := by simp only [tev]; rfl
theorem ts_nil : tevs T C .nil E = .ok [] := by simp only [tevs]
theorem ts_cons : tevs T C (.cons t ts) E = consTR (tev T C t E) (tevs T C ts E) := by simp only [tevs]; rfl
theorem a_consT {ds : List D} : consTR (.ok d) (.ok ds) = .ok (d :: ds) := (rfl)
theorem a_lstT {ds : List D} (h : ds.length ≤ lim) : lstTR (.ok ds) = .ok (.lst ds) := if_pos h
theorem a_callT {g : Fid} {xs : List (D × Fl)} : callTR C g (.ok xs) = clTR (C g (cmb xs).1) := (rfl)
theorem a_clT {d : D} : clTR (.ok (d, true)) = .ok d := (rfl)
theorem a_clTi {d : D} {b : Bool} (h : d.imm = true) : clTR (.ok (d, b)) = .ok d := if_pos (by simp [h])
theorem a_compT {tg : Tg} {own : List Nat} {ds : List D} {k : Bool} : compTR T C e tg c own E (.ok (ds, n, k)) = endCT (compTL T C e tg c n (wipeE E own) ds) := (rfl)
theorem a_endCT {ds : List D} {k : Bool} : endCT (.ok (ds, k)) = .ok (.lst ds) := (rfl)
theorem cT_nm : cturnT T C e c E (.nm i) n x = turnT1 T C e (E.set i (some (.shr x n))) (ev T C c (E.set i (some (.shr x n)))) := (rfl)
theorem cT_tp : cturnT T C e c E (.tp [i, j]) n (.tup [x, y]) = turnT1 T C e ((E.set i (some (.shr x n))).set j (some (.shr y n))) (ev T C c ((E.set i (some (.shr x n))).set j (some (.shr y n)))) := (rfl)
theorem cT_T : turnT1 T C e E (.ok (.bl true, f)) = turnT2 (ev T C e E) := (rfl)
theorem cT_F : turnT1 T C e E (.ok (.bl false, f)) = .ok none := (rfl)
theorem cT_2 {y : D × Fl} (h : safeB y = true) : turnT2 (.ok y) = .ok (some (y.1, true)) := if_pos h
theorem compTL_go {α : Type} {tg : Tg} {xs : List α} {g f : α → D} {p : α → Bool} (h : ∀ x ∈ xs, cturnT T C e c E tg n (g x) = .ok (if p x then some (f x, true) else none)) : compTL T C e tg c n E (xs.map g) = .ok ((xs.filter p).map f, true) := by
  unfold compTL
  exact (comp_go (turn := compTurnT (fun E => ev T C c E) (fun E => ev T C e E) E tg n) h).trans rfl
theorem compTL_all {α : Type} {tg : Tg} {xs : List α} {g f : α → D} (h : ∀ x ∈ xs, cturnT T C e c E tg n (g x) = .ok (some (f x, true))) : compTL T C e tg c n E (xs.map g) = .ok (xs.map f, true) := by
  unfold compTL
  exact (comp_all (turn := compTurnT (fun E => ev T C c E) (fun E => ev T C e E) E tg n) h).trans rfl
theorem safe_ints {ns : List Int} {n : Bool} : safeB (.lst (ns.map .int), ⟨true, n, true⟩) = true := by
  unfold safeB
  show (false || (true && true && (ns.map D.int).all D.imm)) = true
  rw [imm_ints]
  rfl
/-- a safe list of what cannot change -/
theorem safe_lst {ds : List D} {n : Bool} (h : ds.all D.imm = true) : safeB (.lst ds, ⟨true, n, true⟩) = true := by
  unfold safeB
  show (false || (true && true && ds.all D.imm)) = true
  rw [h]
  rfl
end
end FS

namespace FS.P
open PySem L2
def f_is_number : Fn := ⟨3, 3,
  (.cons (.ret (.and (.bi (.isi .int) (.cons (.var 0) .nil)) (.and (.un .Not (.bi (.isi .bool) (.cons (.var 0) .nil))) (.chn .LtE .LtE (.var 1) (.var 0) (.var 2)))))
  .nil)⟩
def f_are_numbers : Fn := ⟨3, 4,
  (.cons (.ret (.and (.bi (.isi .list) (.cons (.var 0) .nil)) (.bi .all (.cons (.comp (.call (.fn "is_number") (.cons (.var 3) (.cons (.var 1) (.cons (.var 2) .nil)))) (.nm 3) (.seq (.var 0)) (.con (.bl true)) [3]) .nil))))
  .nil)⟩
def f_asked_things : Fn := ⟨2, 2,
  (.cons (.ite (.or (.un .Not (.call (.fn "are_numbers") (.cons (.var 0) (.cons (.con (.int 0)) (.cons (.bin .Sub (.var 1) (.con (.int 1))) .nil))))) (.cmp .Lt (.bi .lenset (.cons (.var 0) .nil)) (.bi .len (.cons (.var 0) .nil))))
  (.cons (.rai "BadThing")
  .nil)
  .nil)
  (.cons (.ret (.bi .list (.cons (.var 0) .nil)))
  .nil))⟩
def i_Rule : Fn := ⟨2, 2,
  (.cons (.ite (.un .Not (.call (.fn "is_number") (.cons (.var 1) (.cons (.con (.int 0)) (.cons (.glb "MOST") .nil)))))
  (.cons (.rai "BadRule")
  .nil)
  .nil)
  (.cons (.fld "size" (.var 1))
  .nil))⟩
def m_Rule_many : Fn := ⟨1, 1,
  (.cons (.ret (.att (.var 0) "size"))
  .nil)⟩
def m_Rule_free : Fn := ⟨2, 2,
  (.cons (.ret (.mth (.var 0) "stands" (.cons (.call (.fn "asked_things") (.cons (.var 1) (.cons (.att (.var 0) "size") .nil))) .nil)))
  .nil)⟩
def f_law_cell_at : Fn := ⟨2, 2,
  (.cons (.ite (.cmp .Lt (.var 1) (.bi .len (.cons (.var 0) .nil)))
  (.cons (.ret (.idx (.var 0) (.var 1)))
  .nil)
  .nil)
  (.cons (.ret (.con (.int 0)))
  .nil))⟩
def f_law_draw : Fn := ⟨3, 4,
  (.cons (.asg 3 (.bin .Mod (.bin .Add (.bin .Add (.bin .Mult (.bin .Mod (.var 0) (.con (.int 1000000007))) (.con (.int 48271))) (.bin .Mult (.var 1) (.con (.int 69621)))) (.con (.int 7))) (.con (.int 1000000007))))
  (.cons (.ret (.bin .Mod (.bin .Mod (.bin .FloorDiv (.bin .Mult (.var 3) (.var 3)) (.con (.int 1013))) (.con (.int 1000003))) (.var 2)))
  .nil))⟩
def i_Bits : Fn := ⟨2, 2,
  (.cons (.ite (.un .Not (.call (.fn "are_numbers") (.cons (.var 1) (.cons (.con (.int 0)) (.cons (.bin .Sub (.bin .LShift (.con (.int 1)) (.glb "BITS")) (.con (.int 1))) .nil)))))
  (.cons (.rai "BadRule")
  .nil)
  .nil)
  (.cons (.supi "Rule" (.cons (.bi .len (.cons (.var 1) .nil)) .nil))
  (.cons (.fld "rows" (.bi .tuple (.cons (.var 1) .nil)))
  .nil)))⟩
def m_Bits_stands : Fn := ⟨2, 6,
  (.cons (.asg 2 (.lst .nil))
  (.cons (.for (.nm 3) (.seq (.var 1))
  (.cons (.asg 4 (.idx (.att (.var 0) "rows") (.var 3)))
  (.cons (.for (.nm 5) (.seq (.var 2))
  (.cons (.asg 4 (.bi .min (.cons (.var 4) (.cons (.bin .BitXor (.var 4) (.var 5)) .nil))))
  .nil))
  (.cons (.ite (.cmp .Eq (.var 4) (.con (.int 0)))
  (.cons (.ret (.con (.bl false)))
  .nil)
  .nil)
  (.cons (.app 2 (.var 4))
  .nil)))))
  (.cons (.ret (.con (.bl true)))
  .nil)))⟩
def f_law_bits : Fn := ⟨1, 5,
  (.cons (.asg 1 (.lst (.cons (.con (.int 0)) .nil)))
  (.cons (.for (.nm 2) (.seq (.var 0))
  (.cons (.asg 3 (.comp (.bin .BitXor (.var 4) (.var 2)) (.nm 4) (.seq (.var 1)) (.con (.bl true)) [4]))
  (.cons (.ite (.cmp .In (.con (.int 0)) (.var 3))
  (.cons (.ret (.con (.bl false)))
  .nil)
  .nil)
  (.cons (.asg 1 (.bin .Add (.var 1) (.var 3)))
  .nil))))
  (.cons (.ret (.con (.bl true)))
  .nil)))⟩
end FS.P

/-! RB: the defs that all laws share, run by hand: numbers, lists of things, rules, a script's numbers, draws. -/
namespace FS
open PySem L2
/-- the program's base -/
structure PB (T : Tb) : Prop where
  num : T.fn (.fn "is_number") = some P.f_is_number
  nums : T.fn (.fn "are_numbers") = some P.f_are_numbers
  ask : T.fn (.fn "asked_things") = some P.f_asked_things
  iR : T.fn (.ini "Rule") = some P.i_Rule
  many : T.fn (.me "Rule" "many") = some P.m_Rule_many
  free : T.fn (.me "Rule" "free") = some P.m_Rule_free
  most : T.con "MOST" = some (.int 16)
/-- the laws' base -/
structure LB (T : Tb) : Prop where
  cell : T.fn (.fn "_law_cell_at") = some P.f_law_cell_at
  draw : T.fn (.fn "_law_draw") = some P.f_law_draw
section
variable {T : Tb} {W n : Nat}
theorem r_is_number (p : PB T) (t l m : Int) : run T W (n + 1) (.fn "is_number") [.int t, .int l, .int m] = .ok (.bl (decide (l ≤ t) && decide (t ≤ m)), true) := by
  rw [run_fn p.num rfl]
  by_cases h : l ≤ t <;> simp only [P.f_is_number, startE, e_var, e_con, e_glb, e_bin, e_un, e_and, e_or, e_cmp, e_chn, e_ite, e_lst, e_tup, e_dic0, e_dic, e_comp, e_call, e_bi, e_mth, e_rcv, e_att, e_idx, e_rev, e_slc, e_sort, l_nil, l_cons, i_seq, i_rng, i_rng1, i_enum, i_zip, v_shr, v_own, v_dic, g_some, o_bin, o_un, o_andT, o_andF, o_orT, o_orF, o_bol, o_cmp, o_chn, o_chT, o_chF, o_iteT, o_iteF, o_lst, o_tup, o_dic, o_cons, o_comp, o_endC, o_call, o_cl, o_clE, o_bi, o_mth, o_mth2, o_rcv, o_att, o_idx, o_rev, o_slc, o_sort, o_it, o_rng, o_rng1, o_enum, o_zip, ct_nm, ct_tp, ct_T, ct_F, ct_2, List.map_cons, List.map_nil, List.replicate, List.append_nil, List.cons_append, List.nil_append, Nat.sub_self, List.length_cons, List.length_nil, List.getElem?_cons_zero, List.getElem?_cons_succ, List.set_cons_zero, List.set_cons_succ, cmb, wipeE, if_true, if_false, Bool.not_true, Bool.not_false, Bool.false_eq_true, Bool.true_and, Bool.and_true, Bool.false_or, Bool.or_false, Bool.or_true, Bool.true_or, Bool.and_self, and_self, Bool.false_and, Bool.and_false, Int.reduceLT, Int.reduceLE, Int.reduceNeg, Nat.reduceAdd, Nat.reduceMul, Nat.reduceSub, Nat.reduceBEq, q_add, q_sub, q_mulr, q_mull, q_mod, q_fdiv, q_not, q_neg, q_lt, q_le, q_gt, q_ge, q_eqi, q_nei, q_neb, q_isb, q_t0, q_t1, q_len, q_lent, q_lens, q_list, q_listt, q_tuple, q_is1, q_is2, q_is3, q_is4, q_is5, q_is6, q_it, q_itt, q_rev, q_callT, q_calli, q_callb, imm_i, imm_b, imm_l, imm_k, imm_s, imm_n, imm_c, rcvB, fl_i, fl_b, fl_s, fl_n, fl_l, fl_t, fl_o, fl_d, iF_nil, iF_cons, iL_nil, iL_cons, imm_ints, xs_nil, xs_cons, x_asg, x_asgT, x_par, x_fld, x_ite, x_for, x_ret, x_rai, x_expr, x_pass, x_clr, x_app, x_pop, x_set, s_nx, s_rt, s_exc, lk_nil, lk_end, lk_cons, List.contains_cons, List.contains_nil, sl_L, sl_K, sl_O, sl_V, sl_F, it_V, it_r1, it_r2, it_e, it_z, w_L, w_Lk, w_Ls, w_K, w_Kl, w_O, w_V, w_Vk, w_Vs, w_F, w_Fk, w_Fs, w_Fo, w_Fn, w_it, w_itn, a_asg, a_asgE, a_nx, a_asgT, a_par, a_retO, a_retS, a_retN, a_ret, a_retE, a_app, a_clr, a_set, a_setK, a_expr, a_exprE, a_iteT, a_iteF, a_iteE, a_for, a_forO, a_forN, t_nm, t_tp, fo_shr, fo_lst, fo_dic, fo_no, en_rt, en_nx, en_exc, frz, esc, esc.escs, esc.escb, escI, tgSlots, putL, putS, D.isL, ownV, q_asg, q_asgb, q_asgt, q_asgo, q_asgl, q_asgk, q_pop0, q_nm, q_tp, x_asgD, x_mut, x_forM, x_retT, x_retX, x_callX, x_iteX, x_X, x_X0, x_Xf, x_Xm, a_mxR, a_mxR1, a_evXR, a_callXR, a_iteXR, a_asgDR, a_retTR, a_mut, a_mut2, a_mutA, a_mutC, a_mutR, a_mutS, a_setR2, a_appR2, a_remR, te_im, e_bor, e_keq, o_keq, bor_nil, bor_cons, bs_dep, bs_shr, bs_own, bs_no, dp_dep, w_Ld, w_Kd, w_Fd, fo_dep, p_nil, s_rx, en_Xrx, ok_nox, a_mut1S, a_mut1A, a_mut1R, a_mut1C, a_retXn, a_retXb, a_retXi, a_safeb, a_safei, te_comp, te_lst, te_call, ts_nil, ts_cons, a_consT, a_callT, a_clT, a_compT, a_endCT, cT_nm, cT_tp, cT_T, cT_F, h, decide_true, decide_false]
theorem r_are_numbers (p : PB T) (l m : Int) (xs : List Int) : run T W (n + 2) (.fn "are_numbers") [.lst (xs.map .int), .int l, .int m] = .ok (.bl (xs.all fun t => decide (l ≤ t) && decide (t ≤ m)), true) := by
  rw [run_fn p.nums rfl]
  simp only [P.f_are_numbers, startE, e_var, e_con, e_glb, e_bin, e_un, e_and, e_or, e_cmp, e_chn, e_ite, e_lst, e_tup, e_dic0, e_dic, e_comp, e_call, e_bi, e_mth, e_rcv, e_att, e_idx, e_rev, e_slc, e_sort, l_nil, l_cons, i_seq, i_rng, i_rng1, i_enum, i_zip, v_shr, v_own, v_dic, g_some, o_bin, o_un, o_andT, o_andF, o_orT, o_orF, o_bol, o_cmp, o_chn, o_chT, o_chF, o_iteT, o_iteF, o_lst, o_tup, o_dic, o_cons, o_comp, o_endC, o_call, o_cl, o_clE, o_bi, o_mth, o_mth2, o_rcv, o_att, o_idx, o_rev, o_slc, o_sort, o_it, o_rng, o_rng1, o_enum, o_zip, ct_nm, ct_tp, ct_T, ct_F, ct_2, List.map_cons, List.map_nil, List.replicate, List.append_nil, List.cons_append, List.nil_append, Nat.sub_self, List.length_cons, List.length_nil, List.getElem?_cons_zero, List.getElem?_cons_succ, List.set_cons_zero, List.set_cons_succ, cmb, wipeE, if_true, if_false, Bool.not_true, Bool.not_false, Bool.false_eq_true, Bool.true_and, Bool.and_true, Bool.false_or, Bool.or_false, Bool.or_true, Bool.true_or, Bool.and_self, and_self, Bool.false_and, Bool.and_false, Int.reduceLT, Int.reduceLE, Int.reduceNeg, Nat.reduceAdd, Nat.reduceMul, Nat.reduceSub, Nat.reduceBEq, q_add, q_sub, q_mulr, q_mull, q_mod, q_fdiv, q_not, q_neg, q_lt, q_le, q_gt, q_ge, q_eqi, q_nei, q_neb, q_isb, q_t0, q_t1, q_len, q_lent, q_lens, q_list, q_listt, q_tuple, q_is1, q_is2, q_is3, q_is4, q_is5, q_is6, q_it, q_itt, q_rev, q_callT, q_calli, q_callb, imm_i, imm_b, imm_l, imm_k, imm_s, imm_n, imm_c, rcvB, fl_i, fl_b, fl_s, fl_n, fl_l, fl_t, fl_o, fl_d, iF_nil, iF_cons, iL_nil, iL_cons, imm_ints, xs_nil, xs_cons, x_asg, x_asgT, x_par, x_fld, x_ite, x_for, x_ret, x_rai, x_expr, x_pass, x_clr, x_app, x_pop, x_set, s_nx, s_rt, s_exc, lk_nil, lk_end, lk_cons, List.contains_cons, List.contains_nil, sl_L, sl_K, sl_O, sl_V, sl_F, it_V, it_r1, it_r2, it_e, it_z, w_L, w_Lk, w_Ls, w_K, w_Kl, w_O, w_V, w_Vk, w_Vs, w_F, w_Fk, w_Fs, w_Fo, w_Fn, w_it, w_itn, a_asg, a_asgE, a_nx, a_asgT, a_par, a_retO, a_retS, a_retN, a_ret, a_retE, a_app, a_clr, a_set, a_setK, a_expr, a_exprE, a_iteT, a_iteF, a_iteE, a_for, a_forO, a_forN, t_nm, t_tp, fo_shr, fo_lst, fo_dic, fo_no, en_rt, en_nx, en_exc, frz, esc, esc.escs, esc.escb, escI, tgSlots, putL, putS, D.isL, ownV, q_asg, q_asgb, q_asgt, q_asgo, q_asgl, q_asgk, q_pop0, q_nm, q_tp, x_asgD, x_mut, x_forM, x_retT, x_retX, x_callX, x_iteX, x_X, x_X0, x_Xf, x_Xm, a_mxR, a_mxR1, a_evXR, a_callXR, a_iteXR, a_asgDR, a_retTR, a_mut, a_mut2, a_mutA, a_mutC, a_mutR, a_mutS, a_setR2, a_appR2, a_remR, te_im, e_bor, e_keq, o_keq, bor_nil, bor_cons, bs_dep, bs_shr, bs_own, bs_no, dp_dep, w_Ld, w_Kd, w_Fd, fo_dep, p_nil, s_rx, en_Xrx, ok_nox, a_mut1S, a_mut1A, a_mut1R, a_mut1C, a_retXn, a_retXb, a_retXi, a_safeb, a_safei, te_comp, te_lst, te_call, ts_nil, ts_cons, a_consT, a_callT, a_clT, a_compT, a_endCT, cT_nm, cT_tp, cT_T, cT_F]
  rw [compL_all (f := fun t => .bl (decide (l ≤ t) && decide (t ≤ m)))]
  · have e : xs.map (fun t => D.bl (decide (l ≤ t) && decide (t ≤ m))) = (xs.map fun t => decide (l ≤ t) && decide (t ≤ m)).map D.bl := by rw [List.map_map]; rfl
    simp only [e_var, e_con, e_glb, e_bin, e_un, e_and, e_or, e_cmp, e_chn, e_ite, e_lst, e_tup, e_dic0, e_dic, e_comp, e_call, e_bi, e_mth, e_rcv, e_att, e_idx, e_rev, e_slc, e_sort, l_nil, l_cons, i_seq, i_rng, i_rng1, i_enum, i_zip, v_shr, v_own, v_dic, g_some, o_bin, o_un, o_andT, o_andF, o_orT, o_orF, o_bol, o_cmp, o_chn, o_chT, o_chF, o_iteT, o_iteF, o_lst, o_tup, o_dic, o_cons, o_comp, o_endC, o_call, o_cl, o_clE, o_bi, o_mth, o_mth2, o_rcv, o_att, o_idx, o_rev, o_slc, o_sort, o_it, o_rng, o_rng1, o_enum, o_zip, ct_nm, ct_tp, ct_T, ct_F, ct_2, List.map_cons, List.map_nil, List.replicate, List.append_nil, List.cons_append, List.nil_append, Nat.sub_self, List.length_cons, List.length_nil, List.getElem?_cons_zero, List.getElem?_cons_succ, List.set_cons_zero, List.set_cons_succ, cmb, wipeE, if_true, if_false, Bool.not_true, Bool.not_false, Bool.false_eq_true, Bool.true_and, Bool.and_true, Bool.false_or, Bool.or_false, Bool.or_true, Bool.true_or, Bool.and_self, and_self, Bool.false_and, Bool.and_false, Int.reduceLT, Int.reduceLE, Int.reduceNeg, Nat.reduceAdd, Nat.reduceMul, Nat.reduceSub, Nat.reduceBEq, q_add, q_sub, q_mulr, q_mull, q_mod, q_fdiv, q_not, q_neg, q_lt, q_le, q_gt, q_ge, q_eqi, q_nei, q_neb, q_isb, q_t0, q_t1, q_len, q_lent, q_lens, q_list, q_listt, q_tuple, q_is1, q_is2, q_is3, q_is4, q_is5, q_is6, q_it, q_itt, q_rev, q_callT, q_calli, q_callb, imm_i, imm_b, imm_l, imm_k, imm_s, imm_n, imm_c, rcvB, fl_i, fl_b, fl_s, fl_n, fl_l, fl_t, fl_o, fl_d, iF_nil, iF_cons, iL_nil, iL_cons, imm_ints, xs_nil, xs_cons, x_asg, x_asgT, x_par, x_fld, x_ite, x_for, x_ret, x_rai, x_expr, x_pass, x_clr, x_app, x_pop, x_set, s_nx, s_rt, s_exc, lk_nil, lk_end, lk_cons, List.contains_cons, List.contains_nil, sl_L, sl_K, sl_O, sl_V, sl_F, it_V, it_r1, it_r2, it_e, it_z, w_L, w_Lk, w_Ls, w_K, w_Kl, w_O, w_V, w_Vk, w_Vs, w_F, w_Fk, w_Fs, w_Fo, w_Fn, w_it, w_itn, a_asg, a_asgE, a_nx, a_asgT, a_par, a_retO, a_retS, a_retN, a_ret, a_retE, a_app, a_clr, a_set, a_setK, a_expr, a_exprE, a_iteT, a_iteF, a_iteE, a_for, a_forO, a_forN, t_nm, t_tp, fo_shr, fo_lst, fo_dic, fo_no, en_rt, en_nx, en_exc, frz, esc, esc.escs, esc.escb, escI, tgSlots, putL, putS, D.isL, ownV, q_asg, q_asgb, q_asgt, q_asgo, q_asgl, q_asgk, q_pop0, q_nm, q_tp, x_asgD, x_mut, x_forM, x_retT, x_retX, x_callX, x_iteX, x_X, x_X0, x_Xf, x_Xm, a_mxR, a_mxR1, a_evXR, a_callXR, a_iteXR, a_asgDR, a_retTR, a_mut, a_mut2, a_mutA, a_mutC, a_mutR, a_mutS, a_setR2, a_appR2, a_remR, te_im, e_bor, e_keq, o_keq, bor_nil, bor_cons, bs_dep, bs_shr, bs_own, bs_no, dp_dep, w_Ld, w_Kd, w_Fd, fo_dep, p_nil, s_rx, en_Xrx, ok_nox, a_mut1S, a_mut1A, a_mut1R, a_mut1C, a_retXn, a_retXb, a_retXi, a_safeb, a_safei, te_comp, te_lst, te_call, ts_nil, ts_cons, a_consT, a_callT, a_clT, a_compT, a_endCT, cT_nm, cT_tp, cT_T, cT_F, e, q_all, List.all_map]
    rfl
  · intro x hx
    simp only [e_var, e_con, e_glb, e_bin, e_un, e_and, e_or, e_cmp, e_chn, e_ite, e_lst, e_tup, e_dic0, e_dic, e_comp, e_call, e_bi, e_mth, e_rcv, e_att, e_idx, e_rev, e_slc, e_sort, l_nil, l_cons, i_seq, i_rng, i_rng1, i_enum, i_zip, v_shr, v_own, v_dic, g_some, o_bin, o_un, o_andT, o_andF, o_orT, o_orF, o_bol, o_cmp, o_chn, o_chT, o_chF, o_iteT, o_iteF, o_lst, o_tup, o_dic, o_cons, o_comp, o_endC, o_call, o_cl, o_clE, o_bi, o_mth, o_mth2, o_rcv, o_att, o_idx, o_rev, o_slc, o_sort, o_it, o_rng, o_rng1, o_enum, o_zip, ct_nm, ct_tp, ct_T, ct_F, ct_2, List.map_cons, List.map_nil, List.replicate, List.append_nil, List.cons_append, List.nil_append, Nat.sub_self, List.length_cons, List.length_nil, List.getElem?_cons_zero, List.getElem?_cons_succ, List.set_cons_zero, List.set_cons_succ, cmb, wipeE, if_true, if_false, Bool.not_true, Bool.not_false, Bool.false_eq_true, Bool.true_and, Bool.and_true, Bool.false_or, Bool.or_false, Bool.or_true, Bool.true_or, Bool.and_self, and_self, Bool.false_and, Bool.and_false, Int.reduceLT, Int.reduceLE, Int.reduceNeg, Nat.reduceAdd, Nat.reduceMul, Nat.reduceSub, Nat.reduceBEq, q_add, q_sub, q_mulr, q_mull, q_mod, q_fdiv, q_not, q_neg, q_lt, q_le, q_gt, q_ge, q_eqi, q_nei, q_neb, q_isb, q_t0, q_t1, q_len, q_lent, q_lens, q_list, q_listt, q_tuple, q_is1, q_is2, q_is3, q_is4, q_is5, q_is6, q_it, q_itt, q_rev, q_callT, q_calli, q_callb, imm_i, imm_b, imm_l, imm_k, imm_s, imm_n, imm_c, rcvB, fl_i, fl_b, fl_s, fl_n, fl_l, fl_t, fl_o, fl_d, iF_nil, iF_cons, iL_nil, iL_cons, imm_ints, xs_nil, xs_cons, x_asg, x_asgT, x_par, x_fld, x_ite, x_for, x_ret, x_rai, x_expr, x_pass, x_clr, x_app, x_pop, x_set, s_nx, s_rt, s_exc, lk_nil, lk_end, lk_cons, List.contains_cons, List.contains_nil, sl_L, sl_K, sl_O, sl_V, sl_F, it_V, it_r1, it_r2, it_e, it_z, w_L, w_Lk, w_Ls, w_K, w_Kl, w_O, w_V, w_Vk, w_Vs, w_F, w_Fk, w_Fs, w_Fo, w_Fn, w_it, w_itn, a_asg, a_asgE, a_nx, a_asgT, a_par, a_retO, a_retS, a_retN, a_ret, a_retE, a_app, a_clr, a_set, a_setK, a_expr, a_exprE, a_iteT, a_iteF, a_iteE, a_for, a_forO, a_forN, t_nm, t_tp, fo_shr, fo_lst, fo_dic, fo_no, en_rt, en_nx, en_exc, frz, esc, esc.escs, esc.escb, escI, tgSlots, putL, putS, D.isL, ownV, q_asg, q_asgb, q_asgt, q_asgo, q_asgl, q_asgk, q_pop0, q_nm, q_tp, x_asgD, x_mut, x_forM, x_retT, x_retX, x_callX, x_iteX, x_X, x_X0, x_Xf, x_Xm, a_mxR, a_mxR1, a_evXR, a_callXR, a_iteXR, a_asgDR, a_retTR, a_mut, a_mut2, a_mutA, a_mutC, a_mutR, a_mutS, a_setR2, a_appR2, a_remR, te_im, e_bor, e_keq, o_keq, bor_nil, bor_cons, bs_dep, bs_shr, bs_own, bs_no, dp_dep, w_Ld, w_Kd, w_Fd, fo_dep, p_nil, s_rx, en_Xrx, ok_nox, a_mut1S, a_mut1A, a_mut1R, a_mut1C, a_retXn, a_retXb, a_retXi, a_safeb, a_safei, te_comp, te_lst, te_call, ts_nil, ts_cons, a_consT, a_callT, a_clT, a_compT, a_endCT, cT_nm, cT_tp, cT_T, cT_F, r_is_number p]
/-! ### a script's numbers, draws -/
def cell (ns : List Int) (k : Nat) : Int := ns.getD k 0
def mix (c k : Int) : Int := (c % 1000000007 * 48271 + k * 69621 + 7) % 1000000007
def draw (c k m : Int) : Int := mix c k * mix c k / 1013 % 1000003 % m
theorem mix_lt (c k : Int) : -18446744073709551616 < mix c k ∧ mix c k < 18446744073709551616 := by unfold mix; omega
theorem draw_lt (c k m : Int) (hm : 0 < m) : 0 ≤ draw c k m ∧ draw c k m < m := ⟨Int.emod_nonneg _ (by omega), Int.emod_lt_of_pos _ hm⟩
/-- a draw as a natural number -/
def drawN (c k : Int) (m : Nat) : Nat := (draw c k m).toNat
theorem drawN_eq (c k : Int) {m : Nat} (hm : 0 < m) : draw c k m = drawN c k m := (Int.toNat_of_nonneg (draw_lt c k m (by omega)).1).symm
theorem drawN_lt (c k : Int) {m : Nat} (hm : 0 < m) : drawN c k m < m := by
  have := draw_lt c k m (by omega)
  unfold drawN
  omega
theorem r_cell (l : LB T) (ns : List Int) (k : Nat) : run T W (n + 1) (.fn "_law_cell_at") [.scr ns, .int k] = .ok (.int (cell ns k), true) := by
  rw [run_fn l.cell rfl]
  unfold cell
  by_cases h : k < ns.length
  · simp only [P.f_law_cell_at, startE, e_var, e_con, e_glb, e_bin, e_un, e_and, e_or, e_cmp, e_chn, e_ite, e_lst, e_tup, e_dic0, e_dic, e_comp, e_call, e_bi, e_mth, e_rcv, e_att, e_idx, e_rev, e_slc, e_sort, l_nil, l_cons, i_seq, i_rng, i_rng1, i_enum, i_zip, v_shr, v_own, v_dic, g_some, o_bin, o_un, o_andT, o_andF, o_orT, o_orF, o_bol, o_cmp, o_chn, o_chT, o_chF, o_iteT, o_iteF, o_lst, o_tup, o_dic, o_cons, o_comp, o_endC, o_call, o_cl, o_clE, o_bi, o_mth, o_mth2, o_rcv, o_att, o_idx, o_rev, o_slc, o_sort, o_it, o_rng, o_rng1, o_enum, o_zip, ct_nm, ct_tp, ct_T, ct_F, ct_2, List.map_cons, List.map_nil, List.replicate, List.append_nil, List.cons_append, List.nil_append, Nat.sub_self, List.length_cons, List.length_nil, List.getElem?_cons_zero, List.getElem?_cons_succ, List.set_cons_zero, List.set_cons_succ, cmb, wipeE, if_true, if_false, Bool.not_true, Bool.not_false, Bool.false_eq_true, Bool.true_and, Bool.and_true, Bool.false_or, Bool.or_false, Bool.or_true, Bool.true_or, Bool.and_self, and_self, Bool.false_and, Bool.and_false, Int.reduceLT, Int.reduceLE, Int.reduceNeg, Nat.reduceAdd, Nat.reduceMul, Nat.reduceSub, Nat.reduceBEq, q_add, q_sub, q_mulr, q_mull, q_mod, q_fdiv, q_not, q_neg, q_lt, q_le, q_gt, q_ge, q_eqi, q_nei, q_neb, q_isb, q_t0, q_t1, q_len, q_lent, q_lens, q_list, q_listt, q_tuple, q_is1, q_is2, q_is3, q_is4, q_is5, q_is6, q_it, q_itt, q_rev, q_callT, q_calli, q_callb, imm_i, imm_b, imm_l, imm_k, imm_s, imm_n, imm_c, rcvB, fl_i, fl_b, fl_s, fl_n, fl_l, fl_t, fl_o, fl_d, iF_nil, iF_cons, iL_nil, iL_cons, imm_ints, xs_nil, xs_cons, x_asg, x_asgT, x_par, x_fld, x_ite, x_for, x_ret, x_rai, x_expr, x_pass, x_clr, x_app, x_pop, x_set, s_nx, s_rt, s_exc, lk_nil, lk_end, lk_cons, List.contains_cons, List.contains_nil, sl_L, sl_K, sl_O, sl_V, sl_F, it_V, it_r1, it_r2, it_e, it_z, w_L, w_Lk, w_Ls, w_K, w_Kl, w_O, w_V, w_Vk, w_Vs, w_F, w_Fk, w_Fs, w_Fo, w_Fn, w_it, w_itn, a_asg, a_asgE, a_nx, a_asgT, a_par, a_retO, a_retS, a_retN, a_ret, a_retE, a_app, a_clr, a_set, a_setK, a_expr, a_exprE, a_iteT, a_iteF, a_iteE, a_for, a_forO, a_forN, t_nm, t_tp, fo_shr, fo_lst, fo_dic, fo_no, en_rt, en_nx, en_exc, frz, esc, esc.escs, esc.escb, escI, tgSlots, putL, putS, D.isL, ownV, q_asg, q_asgb, q_asgt, q_asgo, q_asgl, q_asgk, q_pop0, q_nm, q_tp, x_asgD, x_mut, x_forM, x_retT, x_retX, x_callX, x_iteX, x_X, x_X0, x_Xf, x_Xm, a_mxR, a_mxR1, a_evXR, a_callXR, a_iteXR, a_asgDR, a_retTR, a_mut, a_mut2, a_mutA, a_mutC, a_mutR, a_mutS, a_setR2, a_appR2, a_remR, te_im, e_bor, e_keq, o_keq, bor_nil, bor_cons, bs_dep, bs_shr, bs_own, bs_no, dp_dep, w_Ld, w_Kd, w_Fd, fo_dep, p_nil, s_rx, en_Xrx, ok_nox, a_mut1S, a_mut1A, a_mut1R, a_mut1C, a_retXn, a_retXb, a_retXi, a_safeb, a_safei, te_comp, te_lst, te_call, ts_nil, ts_cons, a_consT, a_callT, a_clT, a_compT, a_endCT, cT_nm, cT_tp, cT_T, cT_F, show decide ((k : Int) < ns.length) = true by simpa using h, q_ixs h, List.getD_eq_getElem?_getD, List.getElem?_eq_getElem h, Option.getD_some]
  · simp only [P.f_law_cell_at, startE, e_var, e_con, e_glb, e_bin, e_un, e_and, e_or, e_cmp, e_chn, e_ite, e_lst, e_tup, e_dic0, e_dic, e_comp, e_call, e_bi, e_mth, e_rcv, e_att, e_idx, e_rev, e_slc, e_sort, l_nil, l_cons, i_seq, i_rng, i_rng1, i_enum, i_zip, v_shr, v_own, v_dic, g_some, o_bin, o_un, o_andT, o_andF, o_orT, o_orF, o_bol, o_cmp, o_chn, o_chT, o_chF, o_iteT, o_iteF, o_lst, o_tup, o_dic, o_cons, o_comp, o_endC, o_call, o_cl, o_clE, o_bi, o_mth, o_mth2, o_rcv, o_att, o_idx, o_rev, o_slc, o_sort, o_it, o_rng, o_rng1, o_enum, o_zip, ct_nm, ct_tp, ct_T, ct_F, ct_2, List.map_cons, List.map_nil, List.replicate, List.append_nil, List.cons_append, List.nil_append, Nat.sub_self, List.length_cons, List.length_nil, List.getElem?_cons_zero, List.getElem?_cons_succ, List.set_cons_zero, List.set_cons_succ, cmb, wipeE, if_true, if_false, Bool.not_true, Bool.not_false, Bool.false_eq_true, Bool.true_and, Bool.and_true, Bool.false_or, Bool.or_false, Bool.or_true, Bool.true_or, Bool.and_self, and_self, Bool.false_and, Bool.and_false, Int.reduceLT, Int.reduceLE, Int.reduceNeg, Nat.reduceAdd, Nat.reduceMul, Nat.reduceSub, Nat.reduceBEq, q_add, q_sub, q_mulr, q_mull, q_mod, q_fdiv, q_not, q_neg, q_lt, q_le, q_gt, q_ge, q_eqi, q_nei, q_neb, q_isb, q_t0, q_t1, q_len, q_lent, q_lens, q_list, q_listt, q_tuple, q_is1, q_is2, q_is3, q_is4, q_is5, q_is6, q_it, q_itt, q_rev, q_callT, q_calli, q_callb, imm_i, imm_b, imm_l, imm_k, imm_s, imm_n, imm_c, rcvB, fl_i, fl_b, fl_s, fl_n, fl_l, fl_t, fl_o, fl_d, iF_nil, iF_cons, iL_nil, iL_cons, imm_ints, xs_nil, xs_cons, x_asg, x_asgT, x_par, x_fld, x_ite, x_for, x_ret, x_rai, x_expr, x_pass, x_clr, x_app, x_pop, x_set, s_nx, s_rt, s_exc, lk_nil, lk_end, lk_cons, List.contains_cons, List.contains_nil, sl_L, sl_K, sl_O, sl_V, sl_F, it_V, it_r1, it_r2, it_e, it_z, w_L, w_Lk, w_Ls, w_K, w_Kl, w_O, w_V, w_Vk, w_Vs, w_F, w_Fk, w_Fs, w_Fo, w_Fn, w_it, w_itn, a_asg, a_asgE, a_nx, a_asgT, a_par, a_retO, a_retS, a_retN, a_ret, a_retE, a_app, a_clr, a_set, a_setK, a_expr, a_exprE, a_iteT, a_iteF, a_iteE, a_for, a_forO, a_forN, t_nm, t_tp, fo_shr, fo_lst, fo_dic, fo_no, en_rt, en_nx, en_exc, frz, esc, esc.escs, esc.escb, escI, tgSlots, putL, putS, D.isL, ownV, q_asg, q_asgb, q_asgt, q_asgo, q_asgl, q_asgk, q_pop0, q_nm, q_tp, x_asgD, x_mut, x_forM, x_retT, x_retX, x_callX, x_iteX, x_X, x_X0, x_Xf, x_Xm, a_mxR, a_mxR1, a_evXR, a_callXR, a_iteXR, a_asgDR, a_retTR, a_mut, a_mut2, a_mutA, a_mutC, a_mutR, a_mutS, a_setR2, a_appR2, a_remR, te_im, e_bor, e_keq, o_keq, bor_nil, bor_cons, bs_dep, bs_shr, bs_own, bs_no, dp_dep, w_Ld, w_Kd, w_Fd, fo_dep, p_nil, s_rx, en_Xrx, ok_nox, a_mut1S, a_mut1A, a_mut1R, a_mut1C, a_retXn, a_retXb, a_retXi, a_safeb, a_safei, te_comp, te_lst, te_call, ts_nil, ts_cons, a_consT, a_callT, a_clT, a_compT, a_endCT, cT_nm, cT_tp, cT_T, cT_F, show decide ((k : Int) < ns.length) = false by simpa using h, List.getD_eq_getElem?_getD, List.getElem?_eq_none (Nat.le_of_not_lt h), Option.getD_none]
theorem r_draw (l : LB T) (c k m : Int) (hm : 0 < m) : run T W (n + 1) (.fn "_law_draw") [.int c, .int k, .int m] = .ok (.int (draw c k m), true) := by
  rw [run_fn l.draw rfl]
  have e := mix_lt c k
  simp only [P.f_law_draw, startE, e_var, e_con, e_glb, e_bin, e_un, e_and, e_or, e_cmp, e_chn, e_ite, e_lst, e_tup, e_dic0, e_dic, e_comp, e_call, e_bi, e_mth, e_rcv, e_att, e_idx, e_rev, e_slc, e_sort, l_nil, l_cons, i_seq, i_rng, i_rng1, i_enum, i_zip, v_shr, v_own, v_dic, g_some, o_bin, o_un, o_andT, o_andF, o_orT, o_orF, o_bol, o_cmp, o_chn, o_chT, o_chF, o_iteT, o_iteF, o_lst, o_tup, o_dic, o_cons, o_comp, o_endC, o_call, o_cl, o_clE, o_bi, o_mth, o_mth2, o_rcv, o_att, o_idx, o_rev, o_slc, o_sort, o_it, o_rng, o_rng1, o_enum, o_zip, ct_nm, ct_tp, ct_T, ct_F, ct_2, List.map_cons, List.map_nil, List.replicate, List.append_nil, List.cons_append, List.nil_append, Nat.sub_self, List.length_cons, List.length_nil, List.getElem?_cons_zero, List.getElem?_cons_succ, List.set_cons_zero, List.set_cons_succ, cmb, wipeE, if_true, if_false, Bool.not_true, Bool.not_false, Bool.false_eq_true, Bool.true_and, Bool.and_true, Bool.false_or, Bool.or_false, Bool.or_true, Bool.true_or, Bool.and_self, and_self, Bool.false_and, Bool.and_false, Int.reduceLT, Int.reduceLE, Int.reduceNeg, Nat.reduceAdd, Nat.reduceMul, Nat.reduceSub, Nat.reduceBEq, q_add, q_sub, q_mulr, q_mull, q_mod, q_fdiv, q_not, q_neg, q_lt, q_le, q_gt, q_ge, q_eqi, q_nei, q_neb, q_isb, q_t0, q_t1, q_len, q_lent, q_lens, q_list, q_listt, q_tuple, q_is1, q_is2, q_is3, q_is4, q_is5, q_is6, q_it, q_itt, q_rev, q_callT, q_calli, q_callb, imm_i, imm_b, imm_l, imm_k, imm_s, imm_n, imm_c, rcvB, fl_i, fl_b, fl_s, fl_n, fl_l, fl_t, fl_o, fl_d, iF_nil, iF_cons, iL_nil, iL_cons, imm_ints, xs_nil, xs_cons, x_asg, x_asgT, x_par, x_fld, x_ite, x_for, x_ret, x_rai, x_expr, x_pass, x_clr, x_app, x_pop, x_set, s_nx, s_rt, s_exc, lk_nil, lk_end, lk_cons, List.contains_cons, List.contains_nil, sl_L, sl_K, sl_O, sl_V, sl_F, it_V, it_r1, it_r2, it_e, it_z, w_L, w_Lk, w_Ls, w_K, w_Kl, w_O, w_V, w_Vk, w_Vs, w_F, w_Fk, w_Fs, w_Fo, w_Fn, w_it, w_itn, a_asg, a_asgE, a_nx, a_asgT, a_par, a_retO, a_retS, a_retN, a_ret, a_retE, a_app, a_clr, a_set, a_setK, a_expr, a_exprE, a_iteT, a_iteF, a_iteE, a_for, a_forO, a_forN, t_nm, t_tp, fo_shr, fo_lst, fo_dic, fo_no, en_rt, en_nx, en_exc, frz, esc, esc.escs, esc.escb, escI, tgSlots, putL, putS, D.isL, ownV, q_asg, q_asgb, q_asgt, q_asgo, q_asgl, q_asgk, q_pop0, q_nm, q_tp, x_asgD, x_mut, x_forM, x_retT, x_retX, x_callX, x_iteX, x_X, x_X0, x_Xf, x_Xm, a_mxR, a_mxR1, a_evXR, a_callXR, a_iteXR, a_asgDR, a_retTR, a_mut, a_mut2, a_mutA, a_mutC, a_mutR, a_mutS, a_setR2, a_appR2, a_remR, te_im, e_bor, e_keq, o_keq, bor_nil, bor_cons, bs_dep, bs_shr, bs_own, bs_no, dp_dep, w_Ld, w_Kd, w_Fd, fo_dep, p_nil, s_rx, en_Xrx, ok_nox, a_mut1S, a_mut1A, a_mut1R, a_mut1C, a_retXn, a_retXb, a_retXi, a_safeb, a_safei, te_comp, te_lst, te_call, ts_nil, ts_cons, a_consT, a_callT, a_clT, a_compT, a_endCT, cT_nm, cT_tp, cT_T, cT_F]
  rw [show (c % 1000000007 * 48271 + k * 69621 + 7) % 1000000007 = mix c k from rfl]
  simp only [q_mull e.1 e.2, q_mod hm, e_var, e_con, e_glb, e_bin, e_un, e_and, e_or, e_cmp, e_chn, e_ite, e_lst, e_tup, e_dic0, e_dic, e_comp, e_call, e_bi, e_mth, e_rcv, e_att, e_idx, e_rev, e_slc, e_sort, l_nil, l_cons, i_seq, i_rng, i_rng1, i_enum, i_zip, v_shr, v_own, v_dic, g_some, o_bin, o_un, o_andT, o_andF, o_orT, o_orF, o_bol, o_cmp, o_chn, o_chT, o_chF, o_iteT, o_iteF, o_lst, o_tup, o_dic, o_cons, o_comp, o_endC, o_call, o_cl, o_clE, o_bi, o_mth, o_mth2, o_rcv, o_att, o_idx, o_rev, o_slc, o_sort, o_it, o_rng, o_rng1, o_enum, o_zip, ct_nm, ct_tp, ct_T, ct_F, ct_2, List.map_cons, List.map_nil, List.replicate, List.append_nil, List.cons_append, List.nil_append, Nat.sub_self, List.length_cons, List.length_nil, List.getElem?_cons_zero, List.getElem?_cons_succ, List.set_cons_zero, List.set_cons_succ, cmb, wipeE, if_true, if_false, Bool.not_true, Bool.not_false, Bool.false_eq_true, Bool.true_and, Bool.and_true, Bool.false_or, Bool.or_false, Bool.or_true, Bool.true_or, Bool.and_self, and_self, Bool.false_and, Bool.and_false, Int.reduceLT, Int.reduceLE, Int.reduceNeg, Nat.reduceAdd, Nat.reduceMul, Nat.reduceSub, Nat.reduceBEq, q_add, q_sub, q_mulr, q_mull, q_mod, q_fdiv, q_not, q_neg, q_lt, q_le, q_gt, q_ge, q_eqi, q_nei, q_neb, q_isb, q_t0, q_t1, q_len, q_lent, q_lens, q_list, q_listt, q_tuple, q_is1, q_is2, q_is3, q_is4, q_is5, q_is6, q_it, q_itt, q_rev, q_callT, q_calli, q_callb, imm_i, imm_b, imm_l, imm_k, imm_s, imm_n, imm_c, rcvB, fl_i, fl_b, fl_s, fl_n, fl_l, fl_t, fl_o, fl_d, iF_nil, iF_cons, iL_nil, iL_cons, imm_ints, xs_nil, xs_cons, x_asg, x_asgT, x_par, x_fld, x_ite, x_for, x_ret, x_rai, x_expr, x_pass, x_clr, x_app, x_pop, x_set, s_nx, s_rt, s_exc, lk_nil, lk_end, lk_cons, List.contains_cons, List.contains_nil, sl_L, sl_K, sl_O, sl_V, sl_F, it_V, it_r1, it_r2, it_e, it_z, w_L, w_Lk, w_Ls, w_K, w_Kl, w_O, w_V, w_Vk, w_Vs, w_F, w_Fk, w_Fs, w_Fo, w_Fn, w_it, w_itn, a_asg, a_asgE, a_nx, a_asgT, a_par, a_retO, a_retS, a_retN, a_ret, a_retE, a_app, a_clr, a_set, a_setK, a_expr, a_exprE, a_iteT, a_iteF, a_iteE, a_for, a_forO, a_forN, t_nm, t_tp, fo_shr, fo_lst, fo_dic, fo_no, en_rt, en_nx, en_exc, frz, esc, esc.escs, esc.escb, escI, tgSlots, putL, putS, D.isL, ownV, q_asg, q_asgb, q_asgt, q_asgo, q_asgl, q_asgk, q_pop0, q_nm, q_tp, x_asgD, x_mut, x_forM, x_retT, x_retX, x_callX, x_iteX, x_X, x_X0, x_Xf, x_Xm, a_mxR, a_mxR1, a_evXR, a_callXR, a_iteXR, a_asgDR, a_retTR, a_mut, a_mut2, a_mutA, a_mutC, a_mutR, a_mutS, a_setR2, a_appR2, a_remR, te_im, e_bor, e_keq, o_keq, bor_nil, bor_cons, bs_dep, bs_shr, bs_own, bs_no, dp_dep, w_Ld, w_Kd, w_Fd, fo_dep, p_nil, s_rx, en_Xrx, ok_nox, a_mut1S, a_mut1A, a_mut1R, a_mut1C, a_retXn, a_retXb, a_retXi, a_safeb, a_safei, te_comp, te_lst, te_call, ts_nil, ts_cons, a_consT, a_callT, a_clT, a_compT, a_endCT, cT_nm, cT_tp, cT_T, cT_F]
  rfl
theorem r_drawN (l : LB T) (c k : Int) {m : Nat} (hm : 0 < m) : run T W (n + 1) (.fn "_law_draw") [.int c, .int k, .int m] = .ok (.int (drawN c k m : Nat), true) := by rw [r_draw l c k m (by omega), drawN_eq c k hm]
/-! ### rules -/
theorem r_iR (p : PB T) (c : Str) (z : Int) (ha : T.ans c = false) (h0 : 0 ≤ z) (h1 : z ≤ 16) : run T W (n + 2) (.ini "Rule") [.obj c [], .int z] = .ok (.obj c [("size", .int z)], true) := by
  rw [run_ini p.iR rfl]
  simp only [st_I ha, P.i_Rule, e_var, e_con, e_glb, e_bin, e_un, e_and, e_or, e_cmp, e_chn, e_ite, e_lst, e_tup, e_dic0, e_dic, e_comp, e_call, e_bi, e_mth, e_rcv, e_att, e_idx, e_rev, e_slc, e_sort, l_nil, l_cons, i_seq, i_rng, i_rng1, i_enum, i_zip, v_shr, v_own, v_dic, g_some, o_bin, o_un, o_andT, o_andF, o_orT, o_orF, o_bol, o_cmp, o_chn, o_chT, o_chF, o_iteT, o_iteF, o_lst, o_tup, o_dic, o_cons, o_comp, o_endC, o_call, o_cl, o_clE, o_bi, o_mth, o_mth2, o_rcv, o_att, o_idx, o_rev, o_slc, o_sort, o_it, o_rng, o_rng1, o_enum, o_zip, ct_nm, ct_tp, ct_T, ct_F, ct_2, List.map_cons, List.map_nil, List.replicate, List.append_nil, List.cons_append, List.nil_append, Nat.sub_self, List.length_cons, List.length_nil, List.getElem?_cons_zero, List.getElem?_cons_succ, List.set_cons_zero, List.set_cons_succ, cmb, wipeE, if_true, if_false, Bool.not_true, Bool.not_false, Bool.false_eq_true, Bool.true_and, Bool.and_true, Bool.false_or, Bool.or_false, Bool.or_true, Bool.true_or, Bool.and_self, and_self, Bool.false_and, Bool.and_false, Int.reduceLT, Int.reduceLE, Int.reduceNeg, Nat.reduceAdd, Nat.reduceMul, Nat.reduceSub, Nat.reduceBEq, q_add, q_sub, q_mulr, q_mull, q_mod, q_fdiv, q_not, q_neg, q_lt, q_le, q_gt, q_ge, q_eqi, q_nei, q_neb, q_isb, q_t0, q_t1, q_len, q_lent, q_lens, q_list, q_listt, q_tuple, q_is1, q_is2, q_is3, q_is4, q_is5, q_is6, q_it, q_itt, q_rev, q_callT, q_calli, q_callb, imm_i, imm_b, imm_l, imm_k, imm_s, imm_n, imm_c, rcvB, fl_i, fl_b, fl_s, fl_n, fl_l, fl_t, fl_o, fl_d, iF_nil, iF_cons, iL_nil, iL_cons, imm_ints, xs_nil, xs_cons, x_asg, x_asgT, x_par, x_fld, x_ite, x_for, x_ret, x_rai, x_expr, x_pass, x_clr, x_app, x_pop, x_set, s_nx, s_rt, s_exc, lk_nil, lk_end, lk_cons, List.contains_cons, List.contains_nil, sl_L, sl_K, sl_O, sl_V, sl_F, it_V, it_r1, it_r2, it_e, it_z, w_L, w_Lk, w_Ls, w_K, w_Kl, w_O, w_V, w_Vk, w_Vs, w_F, w_Fk, w_Fs, w_Fo, w_Fn, w_it, w_itn, a_asg, a_asgE, a_nx, a_asgT, a_par, a_retO, a_retS, a_retN, a_ret, a_retE, a_app, a_clr, a_set, a_setK, a_expr, a_exprE, a_iteT, a_iteF, a_iteE, a_for, a_forO, a_forN, t_nm, t_tp, fo_shr, fo_lst, fo_dic, fo_no, en_rt, en_nx, en_exc, frz, esc, esc.escs, esc.escb, escI, tgSlots, putL, putS, D.isL, ownV, q_asg, q_asgb, q_asgt, q_asgo, q_asgl, q_asgk, q_pop0, q_nm, q_tp, x_asgD, x_mut, x_forM, x_retT, x_retX, x_callX, x_iteX, x_X, x_X0, x_Xf, x_Xm, a_mxR, a_mxR1, a_evXR, a_callXR, a_iteXR, a_asgDR, a_retTR, a_mut, a_mut2, a_mutA, a_mutC, a_mutR, a_mutS, a_setR2, a_appR2, a_remR, te_im, e_bor, e_keq, o_keq, bor_nil, bor_cons, bs_dep, bs_shr, bs_own, bs_no, dp_dep, w_Ld, w_Kd, w_Fd, fo_dep, p_nil, s_rx, en_Xrx, ok_nox, a_mut1S, a_mut1A, a_mut1R, a_mut1C, a_retXn, a_retXb, a_retXi, a_safeb, a_safei, te_comp, te_lst, te_call, ts_nil, ts_cons, a_consT, a_callT, a_clT, a_compT, a_endCT, cT_nm, cT_tp, cT_T, cT_F, r_is_number p, p.most, h0, h1, decide_true, x_fld, w_O]
  rw [a_fld (by decide)]
  simp only [e_var, e_con, e_glb, e_bin, e_un, e_and, e_or, e_cmp, e_chn, e_ite, e_lst, e_tup, e_dic0, e_dic, e_comp, e_call, e_bi, e_mth, e_rcv, e_att, e_idx, e_rev, e_slc, e_sort, l_nil, l_cons, i_seq, i_rng, i_rng1, i_enum, i_zip, v_shr, v_own, v_dic, g_some, o_bin, o_un, o_andT, o_andF, o_orT, o_orF, o_bol, o_cmp, o_chn, o_chT, o_chF, o_iteT, o_iteF, o_lst, o_tup, o_dic, o_cons, o_comp, o_endC, o_call, o_cl, o_clE, o_bi, o_mth, o_mth2, o_rcv, o_att, o_idx, o_rev, o_slc, o_sort, o_it, o_rng, o_rng1, o_enum, o_zip, ct_nm, ct_tp, ct_T, ct_F, ct_2, List.map_cons, List.map_nil, List.replicate, List.append_nil, List.cons_append, List.nil_append, Nat.sub_self, List.length_cons, List.length_nil, List.getElem?_cons_zero, List.getElem?_cons_succ, List.set_cons_zero, List.set_cons_succ, cmb, wipeE, if_true, if_false, Bool.not_true, Bool.not_false, Bool.false_eq_true, Bool.true_and, Bool.and_true, Bool.false_or, Bool.or_false, Bool.or_true, Bool.true_or, Bool.and_self, and_self, Bool.false_and, Bool.and_false, Int.reduceLT, Int.reduceLE, Int.reduceNeg, Nat.reduceAdd, Nat.reduceMul, Nat.reduceSub, Nat.reduceBEq, q_add, q_sub, q_mulr, q_mull, q_mod, q_fdiv, q_not, q_neg, q_lt, q_le, q_gt, q_ge, q_eqi, q_nei, q_neb, q_isb, q_t0, q_t1, q_len, q_lent, q_lens, q_list, q_listt, q_tuple, q_is1, q_is2, q_is3, q_is4, q_is5, q_is6, q_it, q_itt, q_rev, q_callT, q_calli, q_callb, imm_i, imm_b, imm_l, imm_k, imm_s, imm_n, imm_c, rcvB, fl_i, fl_b, fl_s, fl_n, fl_l, fl_t, fl_o, fl_d, iF_nil, iF_cons, iL_nil, iL_cons, imm_ints, xs_nil, xs_cons, x_asg, x_asgT, x_par, x_fld, x_ite, x_for, x_ret, x_rai, x_expr, x_pass, x_clr, x_app, x_pop, x_set, s_nx, s_rt, s_exc, lk_nil, lk_end, lk_cons, List.contains_cons, List.contains_nil, sl_L, sl_K, sl_O, sl_V, sl_F, it_V, it_r1, it_r2, it_e, it_z, w_L, w_Lk, w_Ls, w_K, w_Kl, w_O, w_V, w_Vk, w_Vs, w_F, w_Fk, w_Fs, w_Fo, w_Fn, w_it, w_itn, a_asg, a_asgE, a_nx, a_asgT, a_par, a_retO, a_retS, a_retN, a_ret, a_retE, a_app, a_clr, a_set, a_setK, a_expr, a_exprE, a_iteT, a_iteF, a_iteE, a_for, a_forO, a_forN, t_nm, t_tp, fo_shr, fo_lst, fo_dic, fo_no, en_rt, en_nx, en_exc, frz, esc, esc.escs, esc.escb, escI, tgSlots, putL, putS, D.isL, ownV, q_asg, q_asgb, q_asgt, q_asgo, q_asgl, q_asgk, q_pop0, q_nm, q_tp, x_asgD, x_mut, x_forM, x_retT, x_retX, x_callX, x_iteX, x_X, x_X0, x_Xf, x_Xm, a_mxR, a_mxR1, a_evXR, a_callXR, a_iteXR, a_asgDR, a_retTR, a_mut, a_mut2, a_mutA, a_mutC, a_mutR, a_mutS, a_setR2, a_appR2, a_remR, te_im, e_bor, e_keq, o_keq, bor_nil, bor_cons, bs_dep, bs_shr, bs_own, bs_no, dp_dep, w_Ld, w_Kd, w_Fd, fo_dep, p_nil, s_rx, en_Xrx, ok_nox, a_mut1S, a_mut1A, a_mut1R, a_mut1C, a_retXn, a_retXb, a_retXi, a_safeb, a_safei, te_comp, te_lst, te_call, ts_nil, ts_cons, a_consT, a_callT, a_clT, a_compT, a_endCT, cT_nm, cT_tp, cT_T, cT_F, putO, ok_bind, iniEnd]
theorem r_many (p : PB T) (c : Str) (fs : List (Str × D)) (z : Int) (h : List.lookup ("size" : Str) fs = some (.int z)) : run T W (n + 1) (.me "Rule" "many") [.obj c fs] = .ok (.int z, true) := by
  rw [run_me p.many rfl]
  simp only [P.m_Rule_many, startE, e_var, e_con, e_glb, e_bin, e_un, e_and, e_or, e_cmp, e_chn, e_ite, e_lst, e_tup, e_dic0, e_dic, e_comp, e_call, e_bi, e_mth, e_rcv, e_att, e_idx, e_rev, e_slc, e_sort, l_nil, l_cons, i_seq, i_rng, i_rng1, i_enum, i_zip, v_shr, v_own, v_dic, g_some, o_bin, o_un, o_andT, o_andF, o_orT, o_orF, o_bol, o_cmp, o_chn, o_chT, o_chF, o_iteT, o_iteF, o_lst, o_tup, o_dic, o_cons, o_comp, o_endC, o_call, o_cl, o_clE, o_bi, o_mth, o_mth2, o_rcv, o_att, o_idx, o_rev, o_slc, o_sort, o_it, o_rng, o_rng1, o_enum, o_zip, ct_nm, ct_tp, ct_T, ct_F, ct_2, List.map_cons, List.map_nil, List.replicate, List.append_nil, List.cons_append, List.nil_append, Nat.sub_self, List.length_cons, List.length_nil, List.getElem?_cons_zero, List.getElem?_cons_succ, List.set_cons_zero, List.set_cons_succ, cmb, wipeE, if_true, if_false, Bool.not_true, Bool.not_false, Bool.false_eq_true, Bool.true_and, Bool.and_true, Bool.false_or, Bool.or_false, Bool.or_true, Bool.true_or, Bool.and_self, and_self, Bool.false_and, Bool.and_false, Int.reduceLT, Int.reduceLE, Int.reduceNeg, Nat.reduceAdd, Nat.reduceMul, Nat.reduceSub, Nat.reduceBEq, q_add, q_sub, q_mulr, q_mull, q_mod, q_fdiv, q_not, q_neg, q_lt, q_le, q_gt, q_ge, q_eqi, q_nei, q_neb, q_isb, q_t0, q_t1, q_len, q_lent, q_lens, q_list, q_listt, q_tuple, q_is1, q_is2, q_is3, q_is4, q_is5, q_is6, q_it, q_itt, q_rev, q_callT, q_calli, q_callb, imm_i, imm_b, imm_l, imm_k, imm_s, imm_n, imm_c, rcvB, fl_i, fl_b, fl_s, fl_n, fl_l, fl_t, fl_o, fl_d, iF_nil, iF_cons, iL_nil, iL_cons, imm_ints, xs_nil, xs_cons, x_asg, x_asgT, x_par, x_fld, x_ite, x_for, x_ret, x_rai, x_expr, x_pass, x_clr, x_app, x_pop, x_set, s_nx, s_rt, s_exc, lk_nil, lk_end, lk_cons, List.contains_cons, List.contains_nil, sl_L, sl_K, sl_O, sl_V, sl_F, it_V, it_r1, it_r2, it_e, it_z, w_L, w_Lk, w_Ls, w_K, w_Kl, w_O, w_V, w_Vk, w_Vs, w_F, w_Fk, w_Fs, w_Fo, w_Fn, w_it, w_itn, a_asg, a_asgE, a_nx, a_asgT, a_par, a_retO, a_retS, a_retN, a_ret, a_retE, a_app, a_clr, a_set, a_setK, a_expr, a_exprE, a_iteT, a_iteF, a_iteE, a_for, a_forO, a_forN, t_nm, t_tp, fo_shr, fo_lst, fo_dic, fo_no, en_rt, en_nx, en_exc, frz, esc, esc.escs, esc.escb, escI, tgSlots, putL, putS, D.isL, ownV, q_asg, q_asgb, q_asgt, q_asgo, q_asgl, q_asgk, q_pop0, q_nm, q_tp, x_asgD, x_mut, x_forM, x_retT, x_retX, x_callX, x_iteX, x_X, x_X0, x_Xf, x_Xm, a_mxR, a_mxR1, a_evXR, a_callXR, a_iteXR, a_asgDR, a_retTR, a_mut, a_mut2, a_mutA, a_mutC, a_mutR, a_mutS, a_setR2, a_appR2, a_remR, te_im, e_bor, e_keq, o_keq, bor_nil, bor_cons, bs_dep, bs_shr, bs_own, bs_no, dp_dep, w_Ld, w_Kd, w_Fd, fo_dep, p_nil, s_rx, en_Xrx, ok_nox, a_mut1S, a_mut1A, a_mut1R, a_mut1C, a_retXn, a_retXb, a_retXi, a_safeb, a_safei, te_comp, te_lst, te_call, ts_nil, ts_cons, a_consT, a_callT, a_clT, a_compT, a_endCT, cT_nm, cT_tp, cT_T, cT_F, attV, h, mkE]
/-- what is asked of things -/
def askedB (m : Int) (xs : List Int) : Bool := (xs.all fun t => decide (0 ≤ t) && decide (t ≤ m - 1)) && !decide ((dedup xs).length < xs.length)
theorem r_asked (p : PB T) (xs : List Int) (m : Int) (hn : xs.Nodup) (hl : xs.length ≤ 1000) (h : ∀ x ∈ xs, 0 ≤ x ∧ x < m) : run T W (n + 3) (.fn "asked_things") [.lst (xs.map .int), .int m] = .ok (.lst (xs.map .int), true) := by
  rw [run_fn p.ask rfl]
  have e : (xs.all fun t => decide (0 ≤ t) && decide (t ≤ m - 1)) = true := by
    rw [List.all_eq_true]
    intro x hx
    have := h x hx
    simp
    omega
  simp only [P.f_asked_things, startE, e_var, e_con, e_glb, e_bin, e_un, e_and, e_or, e_cmp, e_chn, e_ite, e_lst, e_tup, e_dic0, e_dic, e_comp, e_call, e_bi, e_mth, e_rcv, e_att, e_idx, e_rev, e_slc, e_sort, l_nil, l_cons, i_seq, i_rng, i_rng1, i_enum, i_zip, v_shr, v_own, v_dic, g_some, o_bin, o_un, o_andT, o_andF, o_orT, o_orF, o_bol, o_cmp, o_chn, o_chT, o_chF, o_iteT, o_iteF, o_lst, o_tup, o_dic, o_cons, o_comp, o_endC, o_call, o_cl, o_clE, o_bi, o_mth, o_mth2, o_rcv, o_att, o_idx, o_rev, o_slc, o_sort, o_it, o_rng, o_rng1, o_enum, o_zip, ct_nm, ct_tp, ct_T, ct_F, ct_2, List.map_cons, List.map_nil, List.replicate, List.append_nil, List.cons_append, List.nil_append, Nat.sub_self, List.length_cons, List.length_nil, List.getElem?_cons_zero, List.getElem?_cons_succ, List.set_cons_zero, List.set_cons_succ, cmb, wipeE, if_true, if_false, Bool.not_true, Bool.not_false, Bool.false_eq_true, Bool.true_and, Bool.and_true, Bool.false_or, Bool.or_false, Bool.or_true, Bool.true_or, Bool.and_self, and_self, Bool.false_and, Bool.and_false, Int.reduceLT, Int.reduceLE, Int.reduceNeg, Nat.reduceAdd, Nat.reduceMul, Nat.reduceSub, Nat.reduceBEq, q_add, q_sub, q_mulr, q_mull, q_mod, q_fdiv, q_not, q_neg, q_lt, q_le, q_gt, q_ge, q_eqi, q_nei, q_neb, q_isb, q_t0, q_t1, q_len, q_lent, q_lens, q_list, q_listt, q_tuple, q_is1, q_is2, q_is3, q_is4, q_is5, q_is6, q_it, q_itt, q_rev, q_callT, q_calli, q_callb, imm_i, imm_b, imm_l, imm_k, imm_s, imm_n, imm_c, rcvB, fl_i, fl_b, fl_s, fl_n, fl_l, fl_t, fl_o, fl_d, iF_nil, iF_cons, iL_nil, iL_cons, imm_ints, xs_nil, xs_cons, x_asg, x_asgT, x_par, x_fld, x_ite, x_for, x_ret, x_rai, x_expr, x_pass, x_clr, x_app, x_pop, x_set, s_nx, s_rt, s_exc, lk_nil, lk_end, lk_cons, List.contains_cons, List.contains_nil, sl_L, sl_K, sl_O, sl_V, sl_F, it_V, it_r1, it_r2, it_e, it_z, w_L, w_Lk, w_Ls, w_K, w_Kl, w_O, w_V, w_Vk, w_Vs, w_F, w_Fk, w_Fs, w_Fo, w_Fn, w_it, w_itn, a_asg, a_asgE, a_nx, a_asgT, a_par, a_retO, a_retS, a_retN, a_ret, a_retE, a_app, a_clr, a_set, a_setK, a_expr, a_exprE, a_iteT, a_iteF, a_iteE, a_for, a_forO, a_forN, t_nm, t_tp, fo_shr, fo_lst, fo_dic, fo_no, en_rt, en_nx, en_exc, frz, esc, esc.escs, esc.escb, escI, tgSlots, putL, putS, D.isL, ownV, q_asg, q_asgb, q_asgt, q_asgo, q_asgl, q_asgk, q_pop0, q_nm, q_tp, x_asgD, x_mut, x_forM, x_retT, x_retX, x_callX, x_iteX, x_X, x_X0, x_Xf, x_Xm, a_mxR, a_mxR1, a_evXR, a_callXR, a_iteXR, a_asgDR, a_retTR, a_mut, a_mut2, a_mutA, a_mutC, a_mutR, a_mutS, a_setR2, a_appR2, a_remR, te_im, e_bor, e_keq, o_keq, bor_nil, bor_cons, bs_dep, bs_shr, bs_own, bs_no, dp_dep, w_Ld, w_Kd, w_Fd, fo_dep, p_nil, s_rx, en_Xrx, ok_nox, a_mut1S, a_mut1A, a_mut1R, a_mut1C, a_retXn, a_retXb, a_retXi, a_safeb, a_safei, te_comp, te_lst, te_call, ts_nil, ts_cons, a_consT, a_callT, a_clT, a_compT, a_endCT, cT_nm, cT_tp, cT_T, cT_F, r_are_numbers p, q_lenset hl, dedup_nodup hn, List.length_map, e, Int.lt_irrefl, decide_false, imm_ints]
end
theorem z0T {a : Nat} (h : a = 0) : ((a : Int) == 0) = true := by subst h; rfl
theorem z0F {a : Nat} (h : ¬ a = 0) : ((a : Int) == 0) = false := by simp; omega
theorem zT {a b : Nat} (h : a = b) : ((a : Int) == b) = true := by subst h; simp
theorem zF {a b : Nat} (h : ¬ a = b) : ((a : Int) == b) = false := by simp; omega
/-! ### lists of natural numbers -/
def natD (l : List Nat) : List D := l.map fun v : Nat => D.int (v : Int)
theorem natD_app (l m : List Nat) : natD (l ++ m) = natD l ++ natD m := List.map_append
theorem natD_rev (l : List Nat) : natD l.reverse = (natD l).reverse := List.map_reverse
theorem natD_ints (l : List Nat) : natD l = (l.map fun v : Nat => (v : Int)).map D.int := by rw [List.map_map]; rfl
theorem natD_imm (l : List Nat) : (natD l).all D.imm = true := by rw [natD_ints]; exact imm_ints _
theorem natD_immL (l : List Nat) : D.imm (.tup (natD l)) = true := by
  show D.imm.immL _ = true
  rw [immL_all, natD_imm]
theorem natD_dat (l : List Nat) : (natD l).all (D.dat 59) = true := by rw [natD_ints]; exact dat_ints _ _
theorem natD_get {l : List Nat} {k v : Nat} (h : l[k]? = some v) : (natD l)[k]? = some (.int (v : Int)) := by
  unfold natD
  rw [List.getElem?_map, h]
  rfl
theorem natD_len (l : List Nat) : (natD l).length = l.length := List.length_map _
theorem eqvL_nats (l m : List Nat) : eqvL (natD l) (natD m) = (l == m) := by
  rw [natD_ints, natD_ints, eqvL_ints]
  have inj : ∀ (l m : List Nat), (l.map (fun v : Nat => (v : Int)) == m.map fun v : Nat => (v : Int)) = (l == m) := by
    intro l
    induction l with
    | nil => intro m; cases m <;> rfl
    | cons a l ih =>
      intro m
      cases m with
      | nil => rfl
      | cons b m =>
        have e : ((a : Int) == b) = (a == b) := by rw [Bool.eq_iff_iff]; simp; omega
        simp only [List.map_cons, List.cons_beq_cons, ih, e]
  exact inj l m
theorem nodup_ints {l : List Nat} (h : l.Nodup) : (l.map fun v : Nat => (v : Int)).Nodup := List.Pairwise.map _ (fun a b h z => h (Int.ofNat.inj z)) h
theorem q_app {E : SEnv} {i : Nat} {ds : List D} {n r m : Bool} {d : D} (h : ds.length < lim) : appV E i ds n (d, ⟨r, m, true⟩) = .ok (.nx (E.set i (some (.own (.lst (ds ++ [d])) (n && (m || d.imm)))))) := if_pos ⟨rfl, h⟩
theorem q_setL {E : SEnv} {i k : Nat} {ds : List D} {n r m : Bool} {d : D} (h : k < ds.length) : setLV E i ds n (.int k) (d, ⟨r, m, true⟩) = .ok (.nx (E.set i (some (.own (.lst (ds.set k d)) (n && (m || d.imm)))))) := by
  show (match ixN' ds.length (k : Int) with
    | some m' => if true = true then R.ok (Fw.nx (putL E i (ds.set m' d) (n && (m || d.imm)))) else .bad
    | none => .bad) = _
  rw [ixN_nat h]
  rfl
theorem q_shl {i : Int} {k : Nat} {f g : Fl} (h1 : (k : Int) ≤ 1000000) (h2 : i.natAbs < 18446744073709551616) : binV .LShift (.int i, f) (.int k, g) = .ok (.int (i * 2 ^ k), ⟨true, true, true⟩) := by
  show (if 0 ≤ (k : Int) ∧ (k : Int) ≤ 1000000 ∧ i.natAbs < 2 ^ 64 then R.ok (mkI (.int (i * 2 ^ (k : Int).toNat))) else .bad) = _
  rw [if_pos ⟨by omega, h1, by simpa using h2⟩]
  rfl
theorem q_min {T : Tb} {a b : Nat} {f g : Fl} : biV T .min [(.int a, f), (.int b, g)] = .ok (.int ((min a b : Nat) : Int), ⟨true, true, true⟩) := by
  show R.ok (mkI (.int (if (b : Int) < a then (b : Int) else a))) = _
  have : (if (b : Int) < a then (b : Int) else a) = ((min a b : Nat) : Int) := by
    by_cases h : (b : Int) < a
    · rw [if_pos h]; omega
    · rw [if_neg h]; omega
  rw [this]
  rfl
theorem att_imm {c a : Str} {fs : List (Str × D)} {f : Fl} {d : D} (h : List.lookup a fs = some d) (hd : d.imm = true) : attV (.obj c fs, f) a = .ok (d, ⟨false, true, true⟩) := by
  unfold attV
  simp only [h, mkE, hd, Bool.or_true]
theorem compL_nat {T : Tb} {C : Call} {elt cond : Ex} {tg : Tg} {n : Bool} {E : SEnv} {xs : List Nat} {f : Nat → D} (h : ∀ x ∈ xs, cturn T C elt cond E tg n (.int (x : Int)) = .ok (some (f x, true))) : compL T C elt tg cond n E (natD xs) = .ok (xs.map f, true) := compL_all (g := fun k : Nat => D.int (k : Int)) h
theorem map_natD {α : Type} (f : α → Nat) (l : List α) : (l.map fun x => D.int ((f x : Nat) : Int)) = natD (l.map f) := by unfold natD; rw [List.map_map]; rfl
/-! ### loops over range -/
theorem loop_nxR {T : Tb} {W : Nat} {C : Call} {tg : Tg} {n : Bool} {b : Sxs} {L : List Nat} {ds : List D} {E : SEnv} {z : R Fw} {nn : Nat} (hz : loopV T W C tg n b L ds E = z) (hd : ds = (List.range nn).map fun k : Nat => D.int (k : Int)) (I : Nat → SEnv → Prop) (h : I 0 E) (hs : ∀ k E, k < nn → I k E → ∃ E', turnV T W C tg n b L (.int k) E = .ok (.nx E') ∧ I (k + 1) E') : ∃ E', z = .ok (.nx E') ∧ I nn E' := by
  obtain ⟨E', e, h1⟩ := loop_nx hz hd (fun pre r E => I pre.length E ∧ pre ++ r = List.range nn) ⟨h, rfl⟩ fun pre x r E he ⟨h1, _⟩ => by
    have hk : pre.length < nn ∧ x = pre.length := by
      have h1 := congrArg (fun l => l[pre.length]?) he
      have h2 : pre.length < (List.range nn).length := by rw [← he]; simp
      rw [List.length_range] at h2
      simp [List.getElem?_range h2] at h1
      exact ⟨h2, h1⟩
    obtain ⟨h2, rfl⟩ := hk
    obtain ⟨E', e, h3⟩ := hs _ _ h2 h1
    exact ⟨E', e, by simpa using h3, by rw [← he]; simp⟩
  exact ⟨E', e, by simpa using h1.1⟩
theorem loop_rtR {T : Tb} {W : Nat} {C : Call} {tg : Tg} {n : Bool} {b : Sxs} {L : List Nat} {ds : List D} {E : SEnv} {z : R Fw} {nn : Nat} (hz : loopV T W C tg n b L ds E = z) (hd : ds = (List.range nn).map fun k : Nat => D.int (k : Int)) (I : Nat → SEnv → Prop) (Rt : D → Bool → Prop) (h : I 0 E) (hs : ∀ k E, k < nn → I k E → (∃ E', turnV T W C tg n b L (.int k) E = .ok (.nx E') ∧ I (k + 1) E') ∨ ∃ d m, turnV T W C tg n b L (.int k) E = .ok (.rt d m) ∧ Rt d m) : (∃ E', z = .ok (.nx E') ∧ I nn E') ∨ ∃ d m, z = .ok (.rt d m) ∧ Rt d m := by
  rcases loop_rt hz hd (fun pre r E => I pre.length E ∧ pre ++ r = List.range nn) Rt ⟨h, rfl⟩ (fun pre x r E he ⟨h1, _⟩ => by
    have hk : pre.length < nn ∧ x = pre.length := by
      have h1 := congrArg (fun l => l[pre.length]?) he
      have h2 : pre.length < (List.range nn).length := by rw [← he]; simp
      rw [List.length_range] at h2
      simp [List.getElem?_range h2] at h1
      exact ⟨h2, h1⟩
    obtain ⟨h2, rfl⟩ := hk
    rcases hs _ _ h2 h1 with ⟨E', e, h3⟩ | h3
    · exact .inl ⟨E', e, by simpa using h3, by rw [← he]; simp⟩
    · exact .inr h3) with ⟨E', e, h1⟩ | h1
  · exact .inl ⟨E', e, by simpa using h1.1⟩
  · exact .inr h1
/-- a number among numbers -/
theorem q_inN {v : Nat} {l : List Nat} : cmpV .In (.int (v : Int)) (.lst (natD l)) = .ok (decide (v ∈ l)) := by
  show (if (D.int (v : Int)).dat 60 && (natD l).all (D.dat 60) then R.ok (inV' (.int v) (natD l)) else .bad) = _
  rw [natD_ints, dat_ints, if_pos (by rfl)]
  congr 1
  unfold inV'
  rw [List.map_map, List.any_map]
  have : ((fun y : D => y.eqv (.int (v : Int))) ∘ (D.int ∘ fun v : Nat => (v : Int))) = fun x : Nat => decide (x = v) := by
    funext x
    show (D.int (x : Int)).eqv (.int v) = _
    rw [eqv_int, Bool.eq_iff_iff]
    simp
    omega
  rw [this, Bool.eq_iff_iff]
  simp
theorem q_rngN {z : Nat} (h : z ≤ 1000000) : rngV (.int 0) (.int (z : Int)) = .ok ((List.range z).map fun (k : Nat) => D.int k, true, true) := q_rng (by rw [show (lim : Int) = 1000000 from rfl]; omega)
/-- free, of any rule -/
theorem r_free {T : Tb} {W n : Nat} (p : PB T) (c b : Str) (fs : List (Str × D)) (m : Nat) (ks : List Nat) (z : R (D × Bool)) (h : List.lookup ("size" : Str) fs = some (.int m)) (hs : List.lookup ("stands" : Str) fs = none) (hb : T.mro c "stands" = some b) (hn : ks.Nodup) (hl : ks.length ≤ 1000) (hk : ∀ k ∈ ks, k < m) (k : Bool)
    (hst : run T W (n + 3) (.me b "stands") [.obj c fs, .lst (natD ks)] = .ok (.bl k, true)) : run T W (n + 4) (.me "Rule" "free") [.obj c fs, .lst (natD ks)] = .ok (.bl k, true) := by
  rw [run_me p.free rfl]
  have hm : mthC T "stands" (.obj c fs) = .ok b := by
    unfold mthC
    simp only [hs, hb]
  have hA := r_asked (W := W) (n := n) p (ks.map fun v : Nat => (v : Int)) m (nodup_ints hn) (by simpa using hl) fun x hx => by
    obtain ⟨q, hq, rfl⟩ := List.mem_map.mp hx
    have := hk q hq
    omega
  rw [← natD_ints] at hA
  simp only [P.m_Rule_free, startE, e_var, e_con, e_glb, e_bin, e_un, e_and, e_or, e_cmp, e_chn, e_ite, e_lst, e_tup, e_dic0, e_dic, e_comp, e_call, e_bi, e_mth, e_rcv, e_att, e_idx, e_rev, e_slc, e_sort, l_nil, l_cons, i_seq, i_rng, i_rng1, i_enum, i_zip, v_shr, v_own, v_dic, g_some, o_bin, o_un, o_andT, o_andF, o_orT, o_orF, o_bol, o_cmp, o_chn, o_chT, o_chF, o_iteT, o_iteF, o_lst, o_tup, o_dic, o_cons, o_comp, o_endC, o_call, o_cl, o_clE, o_bi, o_mth, o_mth2, o_rcv, o_att, o_idx, o_rev, o_slc, o_sort, o_it, o_rng, o_rng1, o_enum, o_zip, ct_nm, ct_tp, ct_T, ct_F, ct_2, List.map_cons, List.map_nil, List.replicate, List.append_nil, List.cons_append, List.nil_append, Nat.sub_self, List.length_cons, List.length_nil, List.getElem?_cons_zero, List.getElem?_cons_succ, List.set_cons_zero, List.set_cons_succ, cmb, wipeE, if_true, if_false, Bool.not_true, Bool.not_false, Bool.false_eq_true, Bool.true_and, Bool.and_true, Bool.false_or, Bool.or_false, Bool.or_true, Bool.true_or, Bool.and_self, and_self, Bool.false_and, Bool.and_false, Int.reduceLT, Int.reduceLE, Int.reduceNeg, Nat.reduceAdd, Nat.reduceMul, Nat.reduceSub, Nat.reduceBEq, q_add, q_sub, q_mulr, q_mull, q_mod, q_fdiv, q_not, q_neg, q_lt, q_le, q_gt, q_ge, q_eqi, q_nei, q_neb, q_isb, q_t0, q_t1, q_len, q_lent, q_lens, q_list, q_listt, q_tuple, q_is1, q_is2, q_is3, q_is4, q_is5, q_is6, q_it, q_itt, q_rev, q_callT, q_calli, q_callb, imm_i, imm_b, imm_l, imm_k, imm_s, imm_n, imm_c, rcvB, fl_i, fl_b, fl_s, fl_n, fl_l, fl_t, fl_o, fl_d, iF_nil, iF_cons, iL_nil, iL_cons, imm_ints, xs_nil, xs_cons, x_asg, x_asgT, x_par, x_fld, x_ite, x_for, x_ret, x_rai, x_expr, x_pass, x_clr, x_app, x_pop, x_set, s_nx, s_rt, s_exc, lk_nil, lk_end, lk_cons, List.contains_cons, List.contains_nil, sl_L, sl_K, sl_O, sl_V, sl_F, it_V, it_r1, it_r2, it_e, it_z, w_L, w_Lk, w_Ls, w_K, w_Kl, w_O, w_V, w_Vk, w_Vs, w_F, w_Fk, w_Fs, w_Fo, w_Fn, w_it, w_itn, a_asg, a_asgE, a_nx, a_asgT, a_par, a_retO, a_retS, a_retN, a_ret, a_retE, a_app, a_clr, a_set, a_setK, a_expr, a_exprE, a_iteT, a_iteF, a_iteE, a_for, a_forO, a_forN, t_nm, t_tp, fo_shr, fo_lst, fo_dic, fo_no, en_rt, en_nx, en_exc, frz, esc, esc.escs, esc.escb, escI, tgSlots, putL, putS, D.isL, ownV, q_asg, q_asgb, q_asgt, q_asgo, q_asgl, q_asgk, q_pop0, q_nm, q_tp, x_asgD, x_mut, x_forM, x_retT, x_retX, x_callX, x_iteX, x_X, x_X0, x_Xf, x_Xm, a_mxR, a_mxR1, a_evXR, a_callXR, a_iteXR, a_asgDR, a_retTR, a_mut, a_mut2, a_mutA, a_mutC, a_mutR, a_mutS, a_setR2, a_appR2, a_remR, te_im, e_bor, e_keq, o_keq, bor_nil, bor_cons, bs_dep, bs_shr, bs_own, bs_no, dp_dep, w_Ld, w_Kd, w_Fd, fo_dep, p_nil, s_rx, en_Xrx, ok_nox, a_mut1S, a_mut1A, a_mut1R, a_mut1C, a_retXn, a_retXb, a_retXi, a_safeb, a_safei, te_comp, te_lst, te_call, ts_nil, ts_cons, a_consT, a_callT, a_clT, a_compT, a_endCT, cT_nm, cT_tp, cT_T, cT_F, att_imm h rfl, hm, hA, hst]
end FS

/-! MP1: posts: owners, asked, ways. Plain Lean. -/
namespace FS.Post
open FS
/-- a dict of numbers -/
abbrev KV := List (Int × Int)
def kd (O : KV) : List (Int × D) := O.map fun p => (p.1, D.int p.2)
def putI (O : KV) (k t : Int) : KV := if O.any (fun p => decide (p.1 = k)) then O.map (fun p => if p.1 = k then (p.1, t) else p) else O ++ [(k, t)]
theorem kd_put (O : KV) (k t : Int) : putD (kd O) k (.int t) = kd (putI O k t) := by
  unfold putD putI kd
  rw [List.any_map, show ((fun p : Int × D => decide (p.1 = k)) ∘ fun p : Int × Int => (p.1, D.int p.2)) = fun p => decide (p.1 = k) from rfl]
  by_cases h : (O.any fun p => decide (p.1 = k)) = true
  · rw [if_pos h, if_pos h, List.map_map, List.map_map]
    apply List.map_congr_left
    intro p _
    simp only [Function.comp]
    split <;> rfl
  · rw [if_neg h, if_neg h, List.map_append]
    rfl
theorem kd_look (O : KV) (k : Int) : (kd O).lookup k = (O.lookup k).map D.int := by
  induction O with
  | nil => rfl
  | cons p O ih =>
    obtain ⟨i, t⟩ := p
    show List.lookup k ((i, D.int t) :: kd O) = _
    rw [List.lookup_cons, List.lookup_cons]
    cases k == i <;> simp [ih]
theorem look_app (O : KV) (k j t : Int) : (O ++ [(k, t)]).lookup j = match O.lookup j with
    | some v => some v
    | none => if j = k then some t else none := by
  induction O with
  | nil =>
    rw [List.nil_append, List.lookup_cons]
    by_cases h : j = k
    · simp [h]
    · have : (j == k) = false := by simpa using h
      simp [this, h]
  | cons p O ih =>
    obtain ⟨i, s⟩ := p
    rw [List.cons_append, List.lookup_cons, List.lookup_cons]
    cases j == i <;> simp [ih]
theorem look_none {O : KV} {k : Int} : O.lookup k = none ↔ ∀ p ∈ O, p.1 ≠ k := by
  induction O with
  | nil => simp
  | cons p O ih =>
    obtain ⟨i, s⟩ := p
    rw [List.lookup_cons]
    by_cases h : k = i
    · subst h; simp
    · have : (k == i) = false := by simpa using h
      simp only [this, ih, List.forall_mem_cons]
      exact ⟨fun z => ⟨fun w => h w.symm, z⟩, fun z => z.2⟩
theorem look_put (O : KV) (k j t : Int) : (putI O k t).lookup j = if j = k then some t else O.lookup j := by
  unfold putI
  by_cases h : (O.any fun p => decide (p.1 = k)) = true
  · rw [if_pos h]
    have main : ∀ O : KV, (O.any fun p => decide (p.1 = k)) = true ∨ j ≠ k → (O.map fun p => if p.1 = k then (p.1, t) else p).lookup j = if j = k then some t else O.lookup j := by
      intro O
      induction O with
      | nil => intro h; rcases h with h | h
               · simp at h
               · simp [h]
      | cons p O ih =>
        intro h
        obtain ⟨i, s⟩ := p
        rw [List.map_cons]
        by_cases hi : i = k
        · subst hi
          rw [if_pos rfl, List.lookup_cons, List.lookup_cons]
          by_cases hj : j = i
          · subst hj; simp
          · have : (j == i) = false := by simpa using hj
            simp only [this]
            exact ih (.inr hj)
        · rw [if_neg hi, List.lookup_cons, List.lookup_cons]
          by_cases hj : j = i
          · subst hj
            simp [hi]
          · have : (j == i) = false := by simpa using hj
            simp only [this]
            refine ih (h.imp (fun h => ?_) id)
            simpa [hi] using h
    exact main O (.inl h)
  · rw [if_neg h, look_app]
    have hn : O.lookup k = none := look_none.mpr fun p hp z => h (List.any_eq_true.mpr ⟨p, hp, by simpa using z⟩)
    by_cases hj : j = k
    · subst hj; simp [hn]
    · simp only [hj, if_false]
      cases O.lookup j <;> rfl
theorem look_some {O : KV} {k t : Int} (h : O.lookup k = some t) : (k, t) ∈ O := by
  induction O with
  | nil => simp at h
  | cons p O ih =>
    obtain ⟨i, s⟩ := p
    rw [List.lookup_cons] at h
    by_cases hk : k = i
    · subst hk
      simp at h
      subst h
      exact List.mem_cons_self
    · have : (k == i) = false := by simpa using hk
      rw [this] at h
      exact List.mem_cons_of_mem _ (ih h)
/-- a way to give each its own -/
def SDR (w : Int → List Int) (S : List Int) : Prop := ∃ m : Int → Int, (∀ t ∈ S, m t ∈ w t) ∧ ∀ t ∈ S, ∀ u ∈ S, m t = m u → t = u
theorem nodup_len : ∀ {l k : List Int}, l.Nodup → (∀ x ∈ l, x ∈ k) → l.length ≤ k.length
  | [], _, _, _ => Nat.zero_le _
  | x :: l, k, hn, hs => by
    have hn := List.nodup_cons.mp hn
    have := nodup_len (l := l) (k := k.erase x) hn.2 fun y hy => (List.mem_erase_of_ne (fun z => hn.1 (by rw [← z]; exact hy))).mpr (hs y (List.mem_cons_of_mem _ hy))
    have hx := hs x List.mem_cons_self
    rw [List.length_erase_of_mem hx] at this
    have : 0 < k.length := List.length_pos_of_mem hx
    simp only [List.length_cons]
    omega
/-- more things than posts -/
theorem no_sdr {w : Int → List Int} {S V P : List Int} (hV : V.Nodup) (hS : ∀ t ∈ V, t ∈ S) (hP : ∀ t ∈ V, ∀ p ∈ w t, p ∈ P) (hl : P.length < V.length) : ¬ SDR w S := fun ⟨m, h1, h2⟩ => by
  have hn : (V.map m).Nodup := by
    rw [List.nodup_iff_pairwise_ne, List.pairwise_map]
    exact List.Pairwise.imp_of_mem (fun ha hb hne z => hne (h2 _ (hS _ ha) _ (hS _ hb) z)) hV
  have := nodup_len hn fun p hp => by
    obtain ⟨t, ht, rfl⟩ := List.mem_map.mp hp
    exact hP t ht _ (h1 t (hS t ht))
  rw [List.length_map] at this
  omega
end FS.Post

/-! MP2: the law's ways. Plain Lean. -/
namespace FS.Post
open FS
def srt (l : List Int) : List Int := insSort (fun a b => decide (a ≤ b)) l
theorem srt_perm (l : List Int) : (srt l).Perm l := insSort_perm _ l
theorem srt_sorted (l : List Int) : (srt l).Pairwise (· ≤ ·) := by
  have := insSort_sorted (le := fun (a b : Int) => decide (a ≤ b)) (fun a b c h1 h2 => by simp only [decide_eq_true_eq] at *; omega) (fun a b => by simp only [decide_eq_true_eq]; omega) l
  exact this.imp fun h => by simpa using h
theorem srt_eq {l k : List Int} (h : l.Perm k) : srt l = srt k := sortI_is ((srt_perm k).trans h.symm) (srt_sorted k)
theorem srt_len (l : List Int) : (srt l).length = l.length := (srt_perm l).length_eq
theorem srt_mem {l : List Int} {x : Int} : x ∈ srt l ↔ x ∈ l := (srt_perm l).mem_iff
/-- one post more -/
def wput (more : List (List Int)) (way : List Int) (p : Int) : List (List Int) := if p ∉ way ∧ srt (way ++ [p]) ∉ more then more ++ [srt (way ++ [p])] else more
def wway (ps : List Int) (more : List (List Int)) (way : List Int) : List (List Int) := ps.foldl (fun more p => wput more way p) more
def wstep (ways : List (List Int)) (ps : List Int) : List (List Int) := ways.foldl (wway ps) []
def waysOf (L : List (List Int)) : List (List Int) := L.foldl wstep [[]]
theorem wput_mem {more : List (List Int)} {way one : List Int} {p : Int} : one ∈ wput more way p ↔ one ∈ more ∨ (p ∉ way ∧ one = srt (way ++ [p])) := by
  unfold wput
  split
  · rename_i h
    rw [List.mem_append, List.mem_singleton]
    exact ⟨fun z => z.imp id fun z => ⟨h.1, z⟩, fun z => z.imp id fun z => z.2⟩
  · rename_i h
    refine ⟨.inl, fun z => z.elim id fun ⟨z1, z2⟩ => ?_⟩
    subst z2
    exact Decidable.by_contra fun z => h ⟨z1, z⟩
theorem wway_mem {way one : List Int} : ∀ {ps : List Int} {more : List (List Int)}, one ∈ wway ps more way ↔ one ∈ more ∨ ∃ p ∈ ps, p ∉ way ∧ one = srt (way ++ [p])
  | [], more => by simp [wway]
  | p :: ps, more => by
    show one ∈ wway ps (wput more way p) way ↔ _
    rw [wway_mem, wput_mem]
    constructor
    · rintro ((z | z) | ⟨q, h1, h2⟩)
      · exact .inl z
      · exact .inr ⟨p, List.mem_cons_self, z⟩
      · exact .inr ⟨q, List.mem_cons_of_mem _ h1, h2⟩
    · rintro (z | ⟨q, h1, h2⟩)
      · exact .inl (.inl z)
      · rcases List.mem_cons.mp h1 with rfl | h1
        · exact .inl (.inr h2)
        · exact .inr ⟨q, h1, h2⟩
theorem wstep_mem0 {ps one : List Int} : ∀ {ways more : List (List Int)}, one ∈ ways.foldl (wway ps) more ↔ one ∈ more ∨ ∃ way ∈ ways, ∃ p ∈ ps, p ∉ way ∧ one = srt (way ++ [p])
  | [], more => by simp
  | way :: ways, more => by
    rw [List.foldl_cons, wstep_mem0, wway_mem]
    constructor
    · rintro ((z | z) | ⟨q, h1, h2⟩)
      · exact .inl z
      · exact .inr ⟨way, List.mem_cons_self, z⟩
      · exact .inr ⟨q, List.mem_cons_of_mem _ h1, h2⟩
    · rintro (z | ⟨q, h1, h2⟩)
      · exact .inl (.inl z)
      · rcases List.mem_cons.mp h1 with rfl | h1
        · exact .inl (.inr h2)
        · exact .inr ⟨q, h1, h2⟩
theorem wstep_mem {ways : List (List Int)} {ps one : List Int} : one ∈ wstep ways ps ↔ ∃ way ∈ ways, ∃ p ∈ ps, p ∉ way ∧ one = srt (way ++ [p]) := by
  unfold wstep
  rw [wstep_mem0]
  simp
/-- a choice for each -/
def Ch : List (List Int) → List Int → Prop
  | [], [] => True
  | ps :: L, c :: cs => c ∈ ps ∧ Ch L cs
  | _, _ => False
theorem Ch.snoc {ps : List Int} {c : Int} : ∀ {L : List (List Int)} {cs : List Int}, Ch L cs → c ∈ ps → Ch (L ++ [ps]) (cs ++ [c])
  | [], [], _, h => ⟨h, trivial⟩
  | [], _ :: _, h, _ => h.elim
  | _ :: _, [], h, _ => h.elim
  | _ :: L, _ :: cs, h, hc => ⟨h.1, Ch.snoc h.2 hc⟩
theorem Ch.unsnoc {ps : List Int} : ∀ {L : List (List Int)} {cs : List Int}, Ch (L ++ [ps]) cs → ∃ ds c, cs = ds ++ [c] ∧ Ch L ds ∧ c ∈ ps
  | [], [], h => h.elim
  | [], [c], h => ⟨[], c, rfl, trivial, h.1⟩
  | [], _ :: _ :: _, h => h.2.elim
  | _ :: _, [], h => h.elim
  | _ :: L, c :: cs, h => by
    obtain ⟨ds, d, rfl, h1, h2⟩ := Ch.unsnoc h.2
    exact ⟨c :: ds, d, rfl, ⟨h.1, h1⟩, h2⟩
theorem ways_mem (L : List (List Int)) : ∀ one, one ∈ waysOf L ↔ ∃ cs, Ch L cs ∧ cs.Nodup ∧ one = srt cs := by
  induction h : L.length generalizing L with
  | zero =>
    obtain rfl := List.length_eq_zero_iff.mp h
    intro one
    show one ∈ [[]] ↔ _
    rw [List.mem_singleton]
    refine ⟨fun z => ⟨[], trivial, List.nodup_nil, z⟩, fun ⟨cs, h1, _, h3⟩ => ?_⟩
    cases cs with
    | nil => exact h3
    | cons c cs => exact h1.elim
  | succ n ih =>
    intro one
    have hL : L ≠ [] := fun z => by rw [z] at h; cases h
    obtain ⟨L', ps, rfl⟩ : ∃ L' ps, L = L' ++ [ps] := ⟨L.dropLast, L.getLast hL, (List.dropLast_concat_getLast hL).symm⟩
    have ih := ih L' (by simpa using h)
    unfold waysOf at ih ⊢
    rw [List.foldl_append, List.foldl_cons, List.foldl_nil, wstep_mem]
    constructor
    · rintro ⟨way, hw, p, hp, hn, rfl⟩
      obtain ⟨cs, h1, h2, rfl⟩ := (ih way).mp hw
      have hn : p ∉ cs := fun z => hn (srt_mem.mpr z)
      refine ⟨cs ++ [p], h1.snoc hp, ?_, srt_eq ((srt_perm cs).append_right _)⟩
      rw [List.nodup_append]
      exact ⟨h2, by simp, fun a ha b hb z => hn (by rw [List.mem_singleton] at hb; rw [← hb, ← z]; exact ha)⟩
    · rintro ⟨cs, h1, h2, rfl⟩
      obtain ⟨ds, c, rfl, h3, h4⟩ := h1.unsnoc
      rw [List.nodup_append] at h2
      refine ⟨srt ds, (ih _).mpr ⟨ds, h3, h2.1, rfl⟩, c, h4, fun z => h2.2.2 c (srt_mem.mp z) c (by simp) rfl, srt_eq ((srt_perm ds).append_right _).symm⟩
theorem Ch.map {w : Int → List Int} {m : Int → Int} : ∀ {S : List Int}, (∀ t ∈ S, m t ∈ w t) → Ch (S.map w) (S.map m)
  | [], _ => trivial
  | t :: S, h => ⟨h t List.mem_cons_self, Ch.map fun u hu => h u (List.mem_cons_of_mem _ hu)⟩
theorem Ch.sdr {w : Int → List Int} : ∀ {S cs : List Int}, S.Nodup → Ch (S.map w) cs → ∃ m : Int → Int, S.map m = cs ∧ ∀ t ∈ S, m t ∈ w t
  | [], [], _, _ => ⟨fun _ => 0, rfl, by simp⟩
  | [], _ :: _, _, h => h.elim
  | _ :: _, [], _, h => h.elim
  | t :: S, c :: cs, hn, h => by
    have hn := List.nodup_cons.mp hn
    obtain ⟨m, h1, h2⟩ := Ch.sdr hn.2 h.2
    have ne : ∀ u ∈ S, u ≠ t := fun u hu z => hn.1 (by rw [← z]; exact hu)
    refine ⟨fun u => if u = t then c else m u, ?_, fun u hu => ?_⟩
    · rw [List.map_cons, if_pos rfl, ← h1]
      congr 1
      exact List.map_congr_left fun u hu => if_neg (ne u hu)
    · rcases List.mem_cons.mp hu with rfl | hu
      · show (if u = u then c else m u) ∈ w u
        rw [if_pos rfl]; exact h.1
      · show (if u = t then c else m u) ∈ w u
        rw [if_neg (ne u hu)]; exact h2 u hu
theorem inj_of {m : Int → Int} : ∀ {S : List Int} {t u : Int}, (S.map m).Nodup → t ∈ S → u ∈ S → m t = m u → t = u
  | [], _, _, _, h, _, _ => by cases h
  | s :: S, t, u, hn, ht, hu, e => by
    rw [List.map_cons, List.nodup_cons] at hn
    rcases List.mem_cons.mp ht with rfl | ht'
    · rcases List.mem_cons.mp hu with rfl | hu'
      · rfl
      · exact absurd (List.mem_map.mpr ⟨u, hu', e.symm⟩) hn.1
    · rcases List.mem_cons.mp hu with rfl | hu'
      · exact absurd (List.mem_map.mpr ⟨t, ht', e⟩) hn.1
      · exact inj_of hn.2 ht' hu' e
theorem ways_sdr {w : Int → List Int} {S : List Int} (hn : S.Nodup) : waysOf (S.map w) ≠ [] ↔ SDR w S := by
  constructor
  · intro h
    obtain ⟨one, ho⟩ := List.exists_mem_of_ne_nil _ h
    obtain ⟨cs, h1, h2, _⟩ := (ways_mem _ _).mp ho
    obtain ⟨m, rfl, h3⟩ := h1.sdr hn
    refine ⟨m, h3, fun t ht u hu e => ?_⟩
    exact inj_of h2 ht hu e
  · rintro ⟨m, h1, h2⟩ h
    have : srt (S.map m) ∈ waysOf (S.map w) := (ways_mem _ _).mpr ⟨_, Ch.map h1, by
      rw [List.nodup_iff_pairwise_ne, List.pairwise_map]
      exact List.Pairwise.imp_of_mem (fun ha hb hne z => hne (h2 _ ha _ hb z)) hn, rfl⟩
    rw [h] at this
    cases this
end FS.Post

/-! MP3: posts passed on. Plain Lean. -/
namespace FS.Post
open FS
/-- who owns what: each of S one post that it wants -/
structure Own (w : Int → List Int) (O : KV) (S : List Int) : Prop where
  a : ∀ p t, O.lookup p = some t → t ∈ S ∧ p ∈ w t
  b : ∀ t ∈ S, ∃ p, O.lookup p = some t
  c : ∀ p p' t, O.lookup p = some t → O.lookup p' = some t → p = p'
def vis (O : KV) (root : Int) (A : KV) : List Int := root :: A.map fun q => (O.lookup q.1).getD 0
/-- what was asked: all owned, but perhaps the last -/
structure Ask (w : Int → List Int) (O : KV) (root : Int) (A : KV) : Prop where
  nd : (A.map (·.1)).Nodup
  ow : ∀ A1 q A2, A = A1 ++ q :: A2 → A2 ≠ [] → ∃ t, O.lookup q.1 = some t
  ask : ∀ A1 q A2, A = A1 ++ q :: A2 → q.1 ∈ w q.2 ∧ q.2 ∈ vis O root A1
theorem look_mem : ∀ {A : KV} {p t : Int}, (A.map (·.1)).Nodup → (p, t) ∈ A → A.lookup p = some t
  | [], _, _, _, h => by cases h
  | (i, s) :: A, p, t, hn, h => by
    rw [List.map_cons, List.nodup_cons] at hn
    rw [List.lookup_cons]
    rcases List.mem_cons.mp h with h | h
    · cases h; simp
    · have : p ≠ i := fun z => hn.1 (List.mem_map.mpr ⟨(p, t), h, z⟩)
      have : (p == i) = false := by simpa using this
      rw [this]
      exact look_mem hn.2 h
/-- under way: q is to be given to t, done were given already -/
structure Chn (w : Int → List Int) (O A : KV) (root : Int) (O' : KV) (q t : Int) (A1 A2 : KV) (done : List Int) : Prop where
  sp : A = A1 ++ (q, t) :: A2
  look : ∀ p, O'.lookup p = if p ∈ done then A.lookup p else O.lookup p
  dk : ∀ p ∈ done, p ∈ A2.map (·.1)
  td : ∀ p ∈ done, ∀ s, A.lookup p = some s → s ≠ root ∧ ∃ p', O.lookup p' = some s ∧ (p' ∈ done ∨ p' = q)
  inj : ∀ p ∈ done, ∀ p' ∈ done, A.lookup p = A.lookup p' → p = p'
  dn : ∀ p, p ∈ done ∨ p = q → O.lookup p = none ∨ ∃ s, O.lookup p = some s ∧ ∃ p2 ∈ done, A.lookup p2 = some s
section
variable {w : Int → List Int} {O A O' A1 A2 : KV} {root q t : Int} {done S : List Int}
theorem Chn.lq (k : Ask w O root A) (h : Chn w O A root O' q t A1 A2 done) : A.lookup q = some t := look_mem k.nd (by rw [h.sp]; simp)
theorem Chn.q_no (k : Ask w O root A) (h : Chn w O A root O' q t A1 A2 done) : q ∉ done ∧ (∀ p ∈ A1.map (·.1), p ∉ done) ∧ q ∉ A1.map (·.1) := by
  have hn := k.nd
  rw [h.sp, List.map_append, List.map_cons, List.nodup_append, List.nodup_cons] at hn
  exact ⟨fun z => hn.2.1.1 (h.dk q z), fun p hp z => hn.2.2 p hp p (List.mem_cons_of_mem _ (h.dk p z)) rfl, fun z => hn.2.2 q z q List.mem_cons_self rfl⟩
/-- it is none of those who were given posts -/
theorem Chn.tn (OW : Own w O S) (k : Ask w O root A) (h : Chn w O A root O' q t A1 A2 done) : ∀ p ∈ done, A.lookup p ≠ some t := by
  obtain ⟨n1, n2, n3⟩ := h.q_no k
  have hv : t ∈ vis O root A1 := (k.ask A1 (q, t) A2 h.sp).2
  intro p hp e
  obtain ⟨hne, p', e', hp'⟩ := h.td p hp t e
  rcases List.mem_cons.mp hv with z | z
  · exact hne z
  · obtain ⟨⟨q', t'⟩, hq', e2⟩ := List.mem_map.mp z
    obtain ⟨B1, B2, rfl⟩ := List.append_of_mem hq'
    obtain ⟨s, hs⟩ := k.ow B1 (q', t') (B2 ++ (q, t) :: A2) (by rw [h.sp]; simp) (by simp)
    have hs : O.lookup q' = some s := hs
    have e2 : (O.lookup q').getD 0 = t := e2
    rw [hs] at e2
    have e2 : s = t := e2
    subst e2
    have := OW.c _ _ _ e' hs
    subst this
    rcases hp' with hp' | hp'
    · exact n2 p' (List.mem_map.mpr ⟨_, hq', rfl⟩) hp'
    · subst hp'
      exact n3 (List.mem_map.mpr ⟨_, hq', rfl⟩)
/-- the posts of the one that gets q -/
theorem Chn.old (OW : Own w O S) (hr : root ∉ S) (k : Ask w O root A) (h : Chn w O A root O' q t A1 A2 done) :
    (t = root ∧ ∀ p, O'.lookup p ≠ some t) ∨ (t ≠ root ∧ ∃ q' t', (q', t') ∈ A1 ∧ O.lookup q' = some t ∧ ∀ p, O'.lookup p = some t ↔ p = q') := by
  obtain ⟨n1, n2, n3⟩ := h.q_no k
  have hv : t ∈ vis O root A1 := (k.ask A1 (q, t) A2 h.sp).2
  have tn := h.tn OW k
  have lk : ∀ p, O'.lookup p = some t → O.lookup p = some t ∧ p ∉ done := fun p e => by
    rw [h.look] at e
    split at e
    · rename_i hp
      exact absurd e (tn p hp)
    · rename_i hp
      exact ⟨e, hp⟩
  rcases List.mem_cons.mp hv with z | z
  · refine .inl ⟨z, fun p e => ?_⟩
    have := (OW.a _ _ (lk p e).1).1
    rw [z] at this
    exact hr this
  · obtain ⟨⟨q', t'⟩, hq', e2⟩ := List.mem_map.mp z
    obtain ⟨B1, B2, rfl⟩ := List.append_of_mem hq'
    obtain ⟨s, hs⟩ := k.ow B1 (q', t') (B2 ++ (q, t) :: A2) (by rw [h.sp]; simp) (by simp)
    have hs : O.lookup q' = some s := hs
    have e2 : (O.lookup q').getD 0 = t := e2
    rw [hs] at e2
    have e2 : s = t := e2
    subst e2
    refine .inr ⟨fun z => hr (z ▸ (OW.a _ _ hs).1), q', t', hq', hs, fun p => ⟨fun e => OW.c _ _ _ (lk p e).1 hs, fun e => ?_⟩⟩
    subst e
    rw [h.look, if_neg (n2 p (List.mem_map.mpr ⟨_, hq', rfl⟩))]
    exact hs
theorem Chn.look' (k : Ask w O root A) (h : Chn w O A root O' q t A1 A2 done) (p : Int) : (putI O' q t).lookup p = if p ∈ q :: done then A.lookup p else O.lookup p := by
  rw [look_put, h.look]
  by_cases hp : p = q
  · subst hp
    rw [if_pos rfl, if_pos List.mem_cons_self, h.lq k]
  · rw [if_neg hp]
    by_cases hd : p ∈ done
    · rw [if_pos hd, if_pos (List.mem_cons_of_mem _ hd)]
    · rw [if_neg hd, if_neg (by simp [hp, hd])]
/-- one step on -/
theorem Chn.next (OW : Own w O S) (hr : root ∉ S) (k : Ask w O root A) (h : Chn w O A root O' q t A1 A2 done) {q' t' : Int} {B1 B2 : KV} (ht : t ≠ root) (hA : A1 = B1 ++ (q', t') :: B2) (hq' : O.lookup q' = some t) : Chn w O A root (putI O' q t) q' t' B1 (B2 ++ (q, t) :: A2) (q :: done) := by
  have tn := h.tn OW k
  refine ⟨by rw [h.sp, hA]; simp, h.look' k, fun p hp => ?_, fun p hp s hs => ?_, fun p hp p' hp' e => ?_, fun p hp => ?_⟩
  · rw [List.map_append, List.map_cons, List.mem_append, List.mem_cons]
    rcases List.mem_cons.mp hp with rfl | hp
    · exact .inr (.inl rfl)
    · exact .inr (.inr (h.dk p hp))
  · rcases List.mem_cons.mp hp with rfl | hp
    · rw [h.lq k] at hs
      cases hs
      exact ⟨ht, q', hq', .inr rfl⟩
    · obtain ⟨h1, p', h2, h3⟩ := h.td p hp s hs
      refine ⟨h1, p', h2, .inl ?_⟩
      rcases h3 with h3 | rfl
      · exact List.mem_cons_of_mem _ h3
      · exact List.mem_cons_self
  · rcases List.mem_cons.mp hp with rfl | hp2
    · rcases List.mem_cons.mp hp' with rfl | hp3
      · rfl
      · rw [h.lq k] at e
        exact absurd e.symm (tn p' hp3)
    · rcases List.mem_cons.mp hp' with rfl | hp3
      · rw [h.lq k] at e
        exact absurd e (tn p hp2)
      · exact h.inj p hp2 p' hp3 e
  · rcases hp with hp | rfl
    · rcases h.dn p ((List.mem_cons.mp hp).symm) with z | ⟨s, z1, p2, z2, z3⟩
      · exact .inl z
      · exact .inr ⟨s, z1, p2, List.mem_cons_of_mem _ z2, z3⟩
    · exact .inr ⟨t, hq', q, List.mem_cons_self, h.lq k⟩
/-- the end: one more has its post -/
theorem Chn.fin (OW : Own w O S) (hr : root ∉ S) (k : Ask w O root A) (h : Chn w O A root O' q t A1 A2 done) (ht : t = root) : Own w (putI O' q t) (root :: S) := by
  have tn := h.tn OW k
  have lk := h.look' k
  have as : ∀ p s, A.lookup p = some s → p ∈ w s ∧ s ∈ root :: S := fun p s e => by
    obtain ⟨C1, C2, e2⟩ := List.append_of_mem (look_some e)
    obtain ⟨h1, h2⟩ := k.ask C1 (p, s) C2 e2
    refine ⟨h1, ?_⟩
    rcases List.mem_cons.mp h2 with z | z
    · rw [show s = root from z]; exact List.mem_cons_self
    · obtain ⟨⟨q', t'⟩, hq', e3⟩ := List.mem_map.mp z
      obtain ⟨B1, B2, rfl⟩ := List.append_of_mem hq'
      obtain ⟨u, hu⟩ := k.ow B1 (q', t') (B2 ++ (p, s) :: C2) (by rw [e2]; simp) (by simp)
      have hu : O.lookup q' = some u := hu
      have e3 : (O.lookup q').getD 0 = s := e3
      rw [hu] at e3
      have e3 : u = s := e3
      rw [← e3]
      exact List.mem_cons_of_mem _ (OW.a _ _ hu).1
  refine ⟨fun p s e => ?_, fun s hs => ?_, fun p p' s e e' => ?_⟩
  · rw [lk] at e
    split at e
    · exact (as p s e).symm
    · exact ⟨List.mem_cons_of_mem _ (OW.a _ _ e).1, (OW.a _ _ e).2⟩
  · rcases List.mem_cons.mp hs with rfl | hs
    · exact ⟨q, by rw [lk, if_pos List.mem_cons_self, h.lq k, ht]⟩
    · obtain ⟨p, hp⟩ := OW.b s hs
      by_cases hd : p ∈ q :: done
      · rcases h.dn p (List.mem_cons.mp hd).symm with z | ⟨s', z1, p2, z2, z3⟩
        · rw [hp] at z; cases z
        · rw [hp] at z1
          cases z1
          exact ⟨p2, by rw [lk, if_pos (List.mem_cons_of_mem _ z2), z3]⟩
      · exact ⟨p, by rw [lk, if_neg hd, hp]⟩
  · have main : ∀ p p', p ∈ q :: done → p' ∉ q :: done → A.lookup p = some s → O.lookup p' = some s → p = p' := by
      intro p p' hp hp' f f'
      rcases List.mem_cons.mp hp with rfl | hp
      · rw [h.lq k, ht] at f
        cases f
        exact absurd (OW.a _ _ f').1 hr
      · obtain ⟨_, p3, h2, h3⟩ := h.td p hp s f
        have := OW.c _ _ _ f' h2
        subst this
        refine absurd ?_ hp'
        rcases h3 with h3 | rfl
        · exact List.mem_cons_of_mem _ h3
        · exact List.mem_cons_self
    rw [lk] at e e'
    split at e
    · rename_i hp
      split at e'
      · rename_i hp'
        rcases List.mem_cons.mp hp with rfl | hp2
        · rcases List.mem_cons.mp hp' with rfl | hp3
          · rfl
          · rw [h.lq k] at e
            rw [← e] at e'
            exact absurd e' (tn p' hp3)
        · rcases List.mem_cons.mp hp' with rfl | hp3
          · rw [h.lq k] at e'
            rw [← e'] at e
            exact absurd e (tn p hp2)
          · exact h.inj p hp2 p' hp3 (e.trans e'.symm)
      · rename_i hp'
        exact main p p' hp hp' e e'
    · rename_i hp
      split at e'
      · rename_i hp'
        exact (main p' p hp' hp e' e).symm
      · exact OW.c _ _ _ e e'
end
end FS.Post

/-! MP4: the search. Plain Lean. -/
namespace FS.Post
open FS
/-- the search: proc are done with, Wt wait -/
structure Bfs (w : Int → List Int) (O : KV) (root : Int) (A : KV) (proc Wt : List Int) : Prop where
  ask : Ask w O root A
  ow : ∀ q ∈ A, ∃ t, O.lookup q.1 = some t
  vq : vis O root A = proc ++ Wt
  cov : ∀ t ∈ proc, ∀ p ∈ w t, p ∈ A.map (·.1)
section
variable {w : Int → List Int} {O A : KV} {root one p t : Int} {proc Wt S : List Int}
theorem Bfs.start : Bfs w O root [] [] [root] :=
  ⟨⟨List.nodup_nil, fun A1 q A2 h _ => absurd h (by simp), fun A1 q A2 h => absurd h (by simp)⟩, by simp, rfl, by simp⟩
theorem vis_snoc (h : O.lookup p = some t) : vis O root (A ++ [(p, one)]) = vis O root A ++ [t] := by
  unfold vis
  simp [h]
theorem ask_snoc (B : Bfs w O root A proc (one :: Wt)) (hw : p ∈ w one) (hn : p ∉ A.map (·.1)) : Ask w O root (A ++ [(p, one)]) := by
  have ho : one ∈ vis O root A := by rw [B.vq]; simp
  refine ⟨?_, fun A1 q A2 e he => ?_, fun A1 q A2 e => ?_⟩
  · rw [List.map_append, List.nodup_append]
    exact ⟨B.ask.nd, by simp, fun a ha b hb z => hn (by
      simp at hb
      rw [← hb, ← z]; exact ha)⟩
  · have hq : q ∈ A := by
      rcases List.eq_nil_or_concat A2 with rfl | ⟨C, c, rfl⟩
      · exact absurd rfl he
      · have e : A ++ [(p, one)] = (A1 ++ q :: C) ++ [c] := by rw [e]; simp
        rw [(List.append_inj' e rfl).1]
        simp
    exact B.ow q hq
  · rcases List.eq_nil_or_concat A2 with rfl | ⟨C, c, rfl⟩
    · have := List.append_inj' e rfl
      obtain ⟨rfl, h2⟩ := this
      cases h2
      exact ⟨hw, ho⟩
    · have e : A ++ [(p, one)] = (A1 ++ q :: C) ++ [c] := by rw [e]; simp
      exact B.ask.ask A1 q C (List.append_inj' e rfl).1
/-- a post asked that is owned -/
theorem Bfs.push (B : Bfs w O root A proc (one :: Wt)) (hw : p ∈ w one) (hn : p ∉ A.map (·.1)) (h : O.lookup p = some t) : Bfs w O root (A ++ [(p, one)]) proc (one :: (Wt ++ [t])) :=
  ⟨ask_snoc B hw hn, fun q hq => by
    rcases List.mem_append.mp hq with hq | hq
    · exact B.ow q hq
    · obtain rfl : q = (p, one) := by simpa using hq
      exact ⟨t, h⟩, by rw [vis_snoc h, B.vq]; simp, fun u hu q hq => by
    rw [List.map_append, List.mem_append]
    exact .inl (B.cov u hu q hq)⟩
/-- a post asked that nobody owns -/
theorem Bfs.free (B : Bfs w O root A proc (one :: Wt)) (hw : p ∈ w one) (hn : p ∉ A.map (·.1)) (h : O.lookup p = none) : Ask w O root (A ++ [(p, one)]) ∧ Chn w O (A ++ [(p, one)]) root O p one A [] [] :=
  ⟨ask_snoc B hw hn, rfl, fun q => by simp, fun q hq => by simp at hq, fun q hq => by simp at hq, fun q hq => by simp at hq, fun q hq => by
    rcases hq with hq | rfl
    · simp at hq
    · exact .inl h⟩
/-- one done with -/
theorem Bfs.next (B : Bfs w O root A proc (one :: Wt)) (hc : ∀ p ∈ w one, p ∈ A.map (·.1)) : Bfs w O root A (proc ++ [one]) Wt :=
  ⟨B.ask, B.ow, by rw [B.vq]; simp, fun t ht p hp => by
    rcases List.mem_append.mp ht with ht | ht
    · exact B.cov t ht p hp
    · obtain rfl : t = one := by simpa using ht
      exact hc p hp⟩
theorem Bfs.nodup (OW : Own w O S) (hr : root ∉ S) (B : Bfs w O root A proc Wt) : (vis O root A).Nodup ∧ ∀ t ∈ vis O root A, t ∈ root :: S := by
  have hA := B.ask.nd
  have ho := B.ow
  clear B
  unfold vis
  rw [List.nodup_cons]
  have hm : ∀ t ∈ A.map (fun q => (O.lookup q.1).getD 0), t ∈ S := fun t ht => by
    obtain ⟨q, hq, rfl⟩ := List.mem_map.mp ht
    obtain ⟨s, hs⟩ := ho q hq
    rw [hs]
    exact (OW.a _ _ hs).1
  refine ⟨⟨fun z => hr (hm _ z), ?_⟩, fun t ht => ?_⟩
  · clear hm
    induction A with
    | nil => simp
    | cons q A ih =>
      rw [List.map_cons, List.nodup_cons] at hA ⊢
      refine ⟨fun z => ?_, ih hA.2 fun r hr => ho r (List.mem_cons_of_mem _ hr)⟩
      obtain ⟨r, hr, e⟩ := List.mem_map.mp z
      obtain ⟨s, hs⟩ := ho q List.mem_cons_self
      obtain ⟨s', hs'⟩ := ho r (List.mem_cons_of_mem _ hr)
      rw [hs, hs'] at e
      have e : s' = s := e
      subst e
      exact hA.1 (List.mem_map.mpr ⟨r, hr, (OW.c _ _ _ hs hs').symm⟩)
  · rcases List.mem_cons.mp ht with rfl | ht
    · exact List.mem_cons_self
    · exact List.mem_cons_of_mem _ (hm t ht)
/-- none found: there is no way -/
theorem Bfs.none (OW : Own w O S) (hr : root ∉ S) (B : Bfs w O root A proc []) : ¬ SDR w (root :: S) := by
  obtain ⟨h1, h2⟩ := B.nodup OW hr
  refine no_sdr (P := A.map (·.1)) h1 h2 (fun t ht p hp => ?_) ?_
  · rw [B.vq, List.append_nil] at ht
    exact B.cov t ht p hp
  · unfold vis
    simp
open Classical in
theorem Own.sdr (OW : Own w O S) : SDR w S := by
  have hb := OW.b
  refine ⟨fun t => if h : ∃ p, O.lookup p = some t then choose h else 0, fun t ht => ?_, fun t ht u hu e => ?_⟩
  · have h := hb t ht
    show (if h : ∃ p, O.lookup p = some t then choose h else 0) ∈ w t
    rw [dif_pos h]
    exact (OW.a _ _ (choose_spec h)).2
  · have h1 := hb t ht
    have h2 := hb u hu
    have e : (if h : ∃ p, O.lookup p = some t then choose h else 0) = (if h : ∃ p, O.lookup p = some u then choose h else 0) := e
    rw [dif_pos h1, dif_pos h2] at e
    have g1 := choose_spec h1
    have g2 := choose_spec h2
    rw [e] at g1
    rw [g1] at g2
    exact Option.some.inj g2
end
end FS.Post

namespace FS.P
open PySem L2
def f_passed_on : Fn := ⟨3, 7,
  (.cons (.asg 3 (.var 2))
  (.cons (.whl (.con (.bl true))
  (.cons (.asg 4 (.idx (.var 1) (.var 3)))
  (.cons (.asg 5 (.bor (.keq 6 0 (.var 4))))
  (.cons (.mut 0 [] (.set (.var 3) (.var 4)))
  (.cons (.ite (.cmp .Eq (.var 5) (.lst .nil))
  (.cons (.retX 0 (.con .non))
  .nil)
  .nil)
  (.cons (.asg 3 (.idx (.var 5) (.con (.int 0))))
  .nil))))))
  .nil))⟩
def m_Posts_given : Fn := ⟨3, 7,
  (.cons (.asg 3 .dic0)
  (.cons (.asg 4 (.lst (.cons (.var 2) .nil)))
  (.cons (.whl (.cmp .NotEq (.var 4) (.lst .nil))
  (.cons (.popA 5 4 (.con (.int 0)))
  (.cons (.for (.nm 6) (.seq (.idx (.att (.var 0) "wants") (.var 5)))
  (.cons (.ite (.cmp .NotIn (.var 6) (.var 3))
  (.cons (.set 3 (.var 6) (.var 5))
  (.cons (.ite (.bor (.cmp .NotIn (.var 6) (.var 1)))
  (.cons (.callX (.fn "passed_on") 1 .nil (.cons (.var 3) (.cons (.var 6) .nil)))
  (.cons (.retX 1 (.con (.bl true)))
  .nil))
  .nil)
  (.cons (.app 4 (.bor (.idx (.var 1) (.var 6))))
  .nil)))
  .nil)
  .nil))
  .nil)))
  (.cons (.retX 1 (.con (.bl false)))
  .nil))))⟩
def m_Posts_stands : Fn := ⟨2, 4,
  (.cons (.asgD 2 (.im .dic0))
  (.cons (.for (.nm 3) (.seq (.var 1))
  (.cons (.iteX true (.me (.var 0) "given") 2 .nil (.cons (.var 3) .nil)
  (.cons (.ret (.con (.bl false)))
  .nil)
  .nil)
  .nil))
  (.cons (.ret (.con (.bl true)))
  .nil)))⟩
def i_Posts : Fn := ⟨2, 3,
  (.cons (.ite (.un .Not (.bi (.isi .list) (.cons (.var 1) .nil)))
  (.cons (.rai "BadRule")
  .nil)
  .nil)
  (.cons (.for (.nm 2) (.seq (.var 1))
  (.cons (.ite (.or (.un .Not (.call (.fn "are_numbers") (.cons (.var 2) (.cons (.con (.int 0)) (.cons (.glb "POSTS") .nil))))) (.cmp .Lt (.bi .lenset (.cons (.var 2) .nil)) (.bi .len (.cons (.var 2) .nil))))
  (.cons (.rai "BadRule")
  .nil)
  .nil)
  .nil))
  (.cons (.supi "Rule" (.cons (.bi .len (.cons (.var 1) .nil)) .nil))
  (.cons (.fld "wants" (.bi .tuple (.cons (.comp (.bi .tuple (.cons (.var 2) .nil)) (.nm 2) (.seq (.var 1)) (.con (.bl true)) [2]) .nil)))
  .nil))))⟩
def f_law_posts : Fn := ⟨1, 7,
  (.cons (.asg 1 (.lst (.cons (.tup .nil) .nil)))
  (.cons (.for (.nm 2) (.seq (.var 0))
  (.cons (.asg 3 (.lst .nil))
  (.cons (.for (.nm 4) (.seq (.var 1))
  (.cons (.for (.nm 5) (.seq (.var 2))
  (.cons (.asg 6 (.bi .tuple (.cons (.bi .sorted (.cons (.bin .Add (.bi .list (.cons (.var 4) .nil)) (.lst (.cons (.var 5) .nil))) .nil)) .nil)))
  (.cons (.ite (.and (.cmp .NotIn (.var 5) (.var 4)) (.cmp .NotIn (.var 6) (.var 3)))
  (.cons (.app 3 (.var 6))
  .nil)
  .nil)
  .nil)))
  .nil))
  (.cons (.asg 1 (.var 3))
  .nil))))
  (.cons (.ret (.cmp .NotEq (.var 1) (.lst .nil)))
  .nil)))⟩
end FS.P

/-! RP: posts, run by hand. -/
namespace FS
open PySem L2 FS.Post
structure PP (T : Tb) : Prop where
  b : PB T
  posts : T.con "POSTS" = some (.int 30)
  i : T.fn (.ini "Posts") = some P.i_Posts
  stands : T.fn (.me "Posts" "stands") = some P.m_Posts_stands
  given : T.fn (.mx "Posts" "given" 1) = some P.m_Posts_given
  passed : T.fn (.fx "passed_on" 0) = some P.f_passed_on
  mro : T.mro "Posts" "given" = some "Posts"
  ans : T.ans "Posts" = false
section
variable {T : Tb} {W n : Nat} {w : Int → List Int} {O A A1 : KV} {root p t : Int} {S : List Int}
theorem kd_imm (O : KV) : ((kd O).all fun p => p.2.imm) = true := by
  unfold kd
  rw [List.all_map, List.all_eq_true]
  intro x _
  rfl
theorem kd_isI (O : KV) : ((kd O).all fun p => isI p.2) = true := by
  unfold kd
  rw [List.all_map, List.all_eq_true]
  intro x _
  rfl
def keyq (O : KV) (t : Int) : List Int := ((O.filter fun p => O.lookup p.1 == some t).map (·.1))
theorem q_keq (O : KV) (t : Int) : keqV (.dic (kd O)) (.int t) = .ok (mkL ((keyq O t).map D.int) true) := by
  have e : keqV (.dic (kd O)) (.int t) = if (kd O).all (fun p => isI p.2) then .ok (mkL (((kd O).filter fun p => match (kd O).lookup p.1 with
      | some d => d.eqv (.int t)
      | none => false).map fun p => D.int p.1) true) else .bad := (rfl)
  rw [e, if_pos (kd_isI O)]
  congr 2
  unfold keyq kd
  rw [List.filter_map, List.map_map, List.map_map]
  congr 1
  apply List.filter_congr
  intro x _
  show (match List.lookup x.1 (kd O) with
    | some d => d.eqv (.int t)
    | none => false) = _
  rw [kd_look]
  cases O.lookup x.1 with
  | none => rfl
  | some s =>
    show (D.int s).eqv (.int t) = _
    rw [eqv_int]
    rfl
theorem keyq_mem {O : KV} {t q : Int} : q ∈ keyq O t ↔ O.lookup q = some t := by
  unfold keyq
  rw [List.mem_map]
  constructor
  · rintro ⟨x, hx, rfl⟩
    simpa using (List.mem_filter.mp hx).2
  · intro h
    exact ⟨(q, t), List.mem_filter.mpr ⟨look_some h, by simpa using h⟩, rfl⟩
theorem mth_ok {T : Tb} {c m b : Str} {fs : List (Str × D)} (h1 : List.lookup m fs = none) (h2 : T.mro c m = some b) : mthC T m (.obj c fs) = .ok b := by
  unfold mthC
  simp only [h1, h2]
theorem putI_keys (O : KV) (k t : Int) : (putI O k t).map (·.1) = if k ∈ O.map (·.1) then O.map (·.1) else O.map (·.1) ++ [k] := by
  unfold putI
  by_cases h : k ∈ O.map (·.1)
  · have h2 : (O.any fun p => decide (p.1 = k)) = true := by
      obtain ⟨q, hq, e⟩ := List.mem_map.mp h
      exact List.any_eq_true.mpr ⟨q, hq, by simpa using e⟩
    rw [if_pos h2, if_pos h, List.map_map]
    apply List.map_congr_left
    intro p _
    simp only [Function.comp]
    split
    · rename_i e; exact e.symm ▸ rfl
    · rfl
  · have h2 : ¬ (O.any fun p => decide (p.1 = k)) = true := fun z => by
      obtain ⟨q, hq, e⟩ := List.any_eq_true.mp z
      exact h (List.mem_map.mpr ⟨q, hq, by simpa using e⟩)
    rw [if_neg h2, if_neg h, List.map_append]
    rfl
theorem putI_nd {O : KV} {k t : Int} (h : (O.map (·.1)).Nodup) : ((putI O k t).map (·.1)).Nodup := by
  rw [putI_keys]
  split
  · exact h
  · rename_i c
    rw [List.nodup_append]
    exact ⟨h, by simp, fun a ha b hb e => c (by rw [List.mem_singleton] at hb; rw [← hb, ← e]; exact ha)⟩
theorem own_len (OW : Own w O S) (h : (O.map (·.1)).Nodup) : O.length ≤ S.length := by
  have : (O.map (·.2)).Nodup := by
    have hm : ∀ p ∈ O, O.lookup p.1 = some p.2 := fun p hp => look_mem h hp
    rw [List.nodup_iff_pairwise_ne, List.pairwise_map] at h ⊢
    refine List.Pairwise.imp_of_mem (fun {a b} ha hb hne e => hne ?_) h
    have h1 := hm a ha
    have h2 := hm b hb
    rw [← e] at h2
    exact OW.c _ _ _ h1 h2
  have := nodup_len this (k := S) fun t ht => by
    obtain ⟨p, hp, rfl⟩ := List.mem_map.mp ht
    exact (OW.a _ _ (look_mem h hp)).1
  rwa [List.length_map] at this
/-- passed on, from a post nobody owns -/
theorem r_passed (h : PP T) (OW : Own w O S) (hr : root ∉ S) (k : Ask w O root A) (c : Chn w O A root O p t A1 [] []) (hW : A1.length < W) (hO : O.length + A1.length < 1000) (hk : (O.map (·.1)).Nodup) : ∃ O2, Own w O2 (root :: S) ∧ (O2.map (·.1)).Nodup ∧ run T W (n + 1) (.fx "passed_on" 0) [.dic (kd O), .dic (kd A), .int p] = .ok (.tup [.non, .dic (kd O2)], true) := by
  rw [run_fx (ds := [.dic (kd O), .dic (kd A), .int p]) h.passed rfl (by simp)]
  simp only [P.f_passed_on, startX, startE, e_var, e_con, e_glb, e_bin, e_un, e_and, e_or, e_cmp, e_chn, e_ite, e_lst, e_tup, e_dic0, e_dic, e_comp, e_call, e_bi, e_mth, e_rcv, e_att, e_idx, e_rev, e_slc, e_sort, l_nil, l_cons, i_seq, i_rng, i_rng1, i_enum, i_zip, v_shr, v_own, v_dic, g_some, o_bin, o_un, o_andT, o_andF, o_orT, o_orF, o_bol, o_cmp, o_chn, o_chT, o_chF, o_iteT, o_iteF, o_lst, o_tup, o_dic, o_cons, o_comp, o_endC, o_call, o_cl, o_clE, o_bi, o_mth, o_mth2, o_rcv, o_att, o_idx, o_rev, o_slc, o_sort, o_it, o_rng, o_rng1, o_enum, o_zip, ct_nm, ct_tp, ct_T, ct_F, ct_2, List.map_cons, List.map_nil, List.replicate, List.append_nil, List.cons_append, List.nil_append, Nat.sub_self, List.length_cons, List.length_nil, List.getElem?_cons_zero, List.getElem?_cons_succ, List.set_cons_zero, List.set_cons_succ, cmb, wipeE, if_true, if_false, Bool.not_true, Bool.not_false, Bool.false_eq_true, Bool.true_and, Bool.and_true, Bool.false_or, Bool.or_false, Bool.or_true, Bool.true_or, Bool.and_self, and_self, Bool.false_and, Bool.and_false, Int.reduceLT, Int.reduceLE, Int.reduceNeg, Nat.reduceAdd, Nat.reduceMul, Nat.reduceSub, Nat.reduceBEq, q_add, q_sub, q_mulr, q_mull, q_mod, q_fdiv, q_not, q_neg, q_lt, q_le, q_gt, q_ge, q_eqi, q_nei, q_neb, q_isb, q_t0, q_t1, q_len, q_lent, q_lens, q_list, q_listt, q_tuple, q_is1, q_is2, q_is3, q_is4, q_is5, q_is6, q_it, q_itt, q_rev, q_callT, q_calli, q_callb, imm_i, imm_b, imm_l, imm_k, imm_s, imm_n, imm_c, rcvB, fl_i, fl_b, fl_s, fl_n, fl_l, fl_t, fl_o, fl_d, iF_nil, iF_cons, iL_nil, iL_cons, imm_ints, xs_nil, xs_cons, x_asg, x_asgT, x_par, x_fld, x_ite, x_for, x_ret, x_rai, x_expr, x_pass, x_clr, x_app, x_pop, x_set, s_nx, s_rt, s_exc, lk_nil, lk_end, lk_cons, List.contains_cons, List.contains_nil, sl_L, sl_K, sl_O, sl_V, sl_F, it_V, it_r1, it_r2, it_e, it_z, w_L, w_Lk, w_Ls, w_K, w_Kl, w_O, w_V, w_Vk, w_Vs, w_F, w_Fk, w_Fs, w_Fo, w_Fn, w_it, w_itn, a_asg, a_asgE, a_nx, a_asgT, a_par, a_retO, a_retS, a_retN, a_ret, a_retE, a_app, a_clr, a_set, a_setK, a_expr, a_exprE, a_iteT, a_iteF, a_iteE, a_for, a_forO, a_forN, t_nm, t_tp, fo_shr, fo_lst, fo_dic, fo_no, en_rt, en_nx, en_exc, frz, esc, esc.escs, esc.escb, escI, tgSlots, putL, putS, D.isL, ownV, q_asg, q_asgb, q_asgt, q_asgo, q_asgl, q_asgk, q_pop0, q_nm, q_tp, x_asgD, x_mut, x_forM, x_retT, x_retX, x_callX, x_iteX, x_X, x_X0, x_Xf, x_Xm, a_mxR, a_mxR1, a_evXR, a_callXR, a_iteXR, a_asgDR, a_retTR, a_mut, a_mut2, a_mutA, a_mutC, a_mutR, a_mutS, a_setR2, a_appR2, a_remR, te_im, e_bor, e_keq, o_keq, bor_nil, bor_cons, bs_dep, bs_shr, bs_own, bs_no, dp_dep, w_Ld, w_Kd, w_Fd, fo_dep, p_nil, s_rx, en_Xrx, ok_nox, a_mut1S, a_mut1A, a_mut1R, a_mut1C, a_retXn, a_retXb, a_retXi, a_safeb, a_safei, te_comp, te_lst, te_call, ts_nil, ts_cons, a_consT, a_callT, a_clT, a_compT, a_endCT, cT_nm, cT_tp, cT_T, cT_F]
  rw [x_whl]
  refine whl_fw (L := [1000]) (fun m E => ∃ O' q t A1' A2 done s4 s5 s6, Chn w O A root O' q t A1' A2 done ∧ m = A1'.length ∧ O'.length + A1'.length ≤ O.length + A1.length ∧ (O'.map (·.1)).Nodup ∧ E = [some (.dep (.dic (kd O'))), some (.shr (.dic (kd A)) false), some (.shr (.int p) false), some (.shr (.int q) true), s4, s5, s6]) (fun z => ∃ O2, Own w O2 (root :: S) ∧ (O2.map (·.1)).Nodup ∧ endX 0 (seqR T W (run T W n) .nil [1000] z) = .ok (.tup [.non, .dic (kd O2)], true)) A1.length W _ hW ⟨O, p, t, A1, [], [], none, none, none, c, rfl, Nat.le_refl _, hk, rfl⟩ ?_
  rintro m E ⟨O', q, t, A1', A2, done, s4, s5, s6, c, rfl, hl, hk, rfl⟩
  refine .inr ⟨.I, by simp only [e_var, e_con, e_glb, e_bin, e_un, e_and, e_or, e_cmp, e_chn, e_ite, e_lst, e_tup, e_dic0, e_dic, e_comp, e_call, e_bi, e_mth, e_rcv, e_att, e_idx, e_rev, e_slc, e_sort, l_nil, l_cons, i_seq, i_rng, i_rng1, i_enum, i_zip, v_shr, v_own, v_dic, g_some, o_bin, o_un, o_andT, o_andF, o_orT, o_orF, o_bol, o_cmp, o_chn, o_chT, o_chF, o_iteT, o_iteF, o_lst, o_tup, o_dic, o_cons, o_comp, o_endC, o_call, o_cl, o_clE, o_bi, o_mth, o_mth2, o_rcv, o_att, o_idx, o_rev, o_slc, o_sort, o_it, o_rng, o_rng1, o_enum, o_zip, ct_nm, ct_tp, ct_T, ct_F, ct_2, List.map_cons, List.map_nil, List.replicate, List.append_nil, List.cons_append, List.nil_append, Nat.sub_self, List.length_cons, List.length_nil, List.getElem?_cons_zero, List.getElem?_cons_succ, List.set_cons_zero, List.set_cons_succ, cmb, wipeE, if_true, if_false, Bool.not_true, Bool.not_false, Bool.false_eq_true, Bool.true_and, Bool.and_true, Bool.false_or, Bool.or_false, Bool.or_true, Bool.true_or, Bool.and_self, and_self, Bool.false_and, Bool.and_false, Int.reduceLT, Int.reduceLE, Int.reduceNeg, Nat.reduceAdd, Nat.reduceMul, Nat.reduceSub, Nat.reduceBEq, q_add, q_sub, q_mulr, q_mull, q_mod, q_fdiv, q_not, q_neg, q_lt, q_le, q_gt, q_ge, q_eqi, q_nei, q_neb, q_isb, q_t0, q_t1, q_len, q_lent, q_lens, q_list, q_listt, q_tuple, q_is1, q_is2, q_is3, q_is4, q_is5, q_is6, q_it, q_itt, q_rev, q_callT, q_calli, q_callb, imm_i, imm_b, imm_l, imm_k, imm_s, imm_n, imm_c, rcvB, fl_i, fl_b, fl_s, fl_n, fl_l, fl_t, fl_o, fl_d, iF_nil, iF_cons, iL_nil, iL_cons, imm_ints, xs_nil, xs_cons, x_asg, x_asgT, x_par, x_fld, x_ite, x_for, x_ret, x_rai, x_expr, x_pass, x_clr, x_app, x_pop, x_set, s_nx, s_rt, s_exc, lk_nil, lk_end, lk_cons, List.contains_cons, List.contains_nil, sl_L, sl_K, sl_O, sl_V, sl_F, it_V, it_r1, it_r2, it_e, it_z, w_L, w_Lk, w_Ls, w_K, w_Kl, w_O, w_V, w_Vk, w_Vs, w_F, w_Fk, w_Fs, w_Fo, w_Fn, w_it, w_itn, a_asg, a_asgE, a_nx, a_asgT, a_par, a_retO, a_retS, a_retN, a_ret, a_retE, a_app, a_clr, a_set, a_setK, a_expr, a_exprE, a_iteT, a_iteF, a_iteE, a_for, a_forO, a_forN, t_nm, t_tp, fo_shr, fo_lst, fo_dic, fo_no, en_rt, en_nx, en_exc, frz, esc, esc.escs, esc.escb, escI, tgSlots, putL, putS, D.isL, ownV, q_asg, q_asgb, q_asgt, q_asgo, q_asgl, q_asgk, q_pop0, q_nm, q_tp, x_asgD, x_mut, x_forM, x_retT, x_retX, x_callX, x_iteX, x_X, x_X0, x_Xf, x_Xm, a_mxR, a_mxR1, a_evXR, a_callXR, a_iteXR, a_asgDR, a_retTR, a_mut, a_mut2, a_mutA, a_mutC, a_mutR, a_mutS, a_setR2, a_appR2, a_remR, te_im, e_bor, e_keq, o_keq, bor_nil, bor_cons, bs_dep, bs_shr, bs_own, bs_no, dp_dep, w_Ld, w_Kd, w_Fd, fo_dep, p_nil, s_rx, en_Xrx, ok_nox, a_mut1S, a_mut1A, a_mut1R, a_mut1C, a_retXn, a_retXb, a_retXi, a_safeb, a_safei, te_comp, te_lst, te_call, ts_nil, ts_cons, a_consT, a_callT, a_clT, a_compT, a_endCT, cT_nm, cT_tp, cT_T, cT_F], ?_⟩
  have hq := c.lq k
  have e1 : idxV (.dic (kd A), ⟨false, false, true⟩) (.int q, ⟨false, true, true⟩) = .ok (.int t, ⟨false, true, true⟩) := by
    show (match (kd A).lookup q with
      | some d => R.ok (mkE d false)
      | none => .bad) = _
    rw [kd_look, hq]
    rfl
  have e2 : ∀ l : List Int, safeW (.ok (mkL (l.map D.int) true)) = .ok (.lst (l.map D.int), ⟨true, true, true⟩) := fun l => by
    rw [a_safeW]
    · rfl
    · unfold safeB mkL
      simp only [fl_l, imm_ints, Bool.and_true, Bool.or_true]
  have e3 : setV (.dic (kd O')) (.int q) (.int t) = .ok (.dic (kd (putI O' q t))) := by
    have hn : (kd O').length < lim := by
      have : (kd O').length = O'.length := by unfold kd; rw [List.length_map]
      have : lim = 1000000 := rfl
      omega
    show (if (true && decide ((kd O').length < lim)) = true then R.ok (D.dic (putD (kd O') q (.int t))) else .bad) = _
    rw [kd_put, decide_eq_true hn]
    rfl
  have e7 : safeW (.ok (mkL [] true)) = .ok (.lst [], ⟨true, true, true⟩) := e2 []
  have e4 : getP [] (D.dic (kd O')) = some (.dic (kd O')) := rfl
  have e5 : ∀ d, setP d [] (D.dic (kd O')) = d := fun _ => rfl
  have e6 : ∀ l : List Int, cmpV .Eq (.lst (l.map D.int)) (.lst []) = .ok (l == []) := fun l => by
    rw [q_eql (dat_ints _ _) rfl]
    have := eqvL_ints l []
    rw [List.map_nil] at this
    rw [this]
  rcases c.old OW hr k with ⟨ht, ho⟩ | ⟨ht, q', t', hq', hl', ho⟩
  · have ek : keyq O' t = [] := List.eq_nil_iff_forall_not_mem.mpr fun x hx => ho x (keyq_mem.mp hx)
    refine .inr ⟨.rx 0 .non (.dic (kd (putI O' q t))), ?_, rfl, _, c.fin OW hr k ht, putI_nd hk, ?_⟩
    · have e8 : cmpV .Eq (.lst []) (.lst []) = .ok true := e6 []
      simp only [e_var, e_con, e_glb, e_bin, e_un, e_and, e_or, e_cmp, e_chn, e_ite, e_lst, e_tup, e_dic0, e_dic, e_comp, e_call, e_bi, e_mth, e_rcv, e_att, e_idx, e_rev, e_slc, e_sort, l_nil, l_cons, i_seq, i_rng, i_rng1, i_enum, i_zip, v_shr, v_own, v_dic, g_some, o_bin, o_un, o_andT, o_andF, o_orT, o_orF, o_bol, o_cmp, o_chn, o_chT, o_chF, o_iteT, o_iteF, o_lst, o_tup, o_dic, o_cons, o_comp, o_endC, o_call, o_cl, o_clE, o_bi, o_mth, o_mth2, o_rcv, o_att, o_idx, o_rev, o_slc, o_sort, o_it, o_rng, o_rng1, o_enum, o_zip, ct_nm, ct_tp, ct_T, ct_F, ct_2, List.map_cons, List.map_nil, List.replicate, List.append_nil, List.cons_append, List.nil_append, Nat.sub_self, List.length_cons, List.length_nil, List.getElem?_cons_zero, List.getElem?_cons_succ, List.set_cons_zero, List.set_cons_succ, cmb, wipeE, if_true, if_false, Bool.not_true, Bool.not_false, Bool.false_eq_true, Bool.true_and, Bool.and_true, Bool.false_or, Bool.or_false, Bool.or_true, Bool.true_or, Bool.and_self, and_self, Bool.false_and, Bool.and_false, Int.reduceLT, Int.reduceLE, Int.reduceNeg, Nat.reduceAdd, Nat.reduceMul, Nat.reduceSub, Nat.reduceBEq, q_add, q_sub, q_mulr, q_mull, q_mod, q_fdiv, q_not, q_neg, q_lt, q_le, q_gt, q_ge, q_eqi, q_nei, q_neb, q_isb, q_t0, q_t1, q_len, q_lent, q_lens, q_list, q_listt, q_tuple, q_is1, q_is2, q_is3, q_is4, q_is5, q_is6, q_it, q_itt, q_rev, q_callT, q_calli, q_callb, imm_i, imm_b, imm_l, imm_k, imm_s, imm_n, imm_c, rcvB, fl_i, fl_b, fl_s, fl_n, fl_l, fl_t, fl_o, fl_d, iF_nil, iF_cons, iL_nil, iL_cons, imm_ints, xs_nil, xs_cons, x_asg, x_asgT, x_par, x_fld, x_ite, x_for, x_ret, x_rai, x_expr, x_pass, x_clr, x_app, x_pop, x_set, s_nx, s_rt, s_exc, lk_nil, lk_end, lk_cons, List.contains_cons, List.contains_nil, sl_L, sl_K, sl_O, sl_V, sl_F, it_V, it_r1, it_r2, it_e, it_z, w_L, w_Lk, w_Ls, w_K, w_Kl, w_O, w_V, w_Vk, w_Vs, w_F, w_Fk, w_Fs, w_Fo, w_Fn, w_it, w_itn, a_asg, a_asgE, a_nx, a_asgT, a_par, a_retO, a_retS, a_retN, a_ret, a_retE, a_app, a_clr, a_set, a_setK, a_expr, a_exprE, a_iteT, a_iteF, a_iteE, a_for, a_forO, a_forN, t_nm, t_tp, fo_shr, fo_lst, fo_dic, fo_no, en_rt, en_nx, en_exc, frz, esc, esc.escs, esc.escb, escI, tgSlots, putL, putS, D.isL, ownV, q_asg, q_asgb, q_asgt, q_asgo, q_asgl, q_asgk, q_pop0, q_nm, q_tp, x_asgD, x_mut, x_forM, x_retT, x_retX, x_callX, x_iteX, x_X, x_X0, x_Xf, x_Xm, a_mxR, a_mxR1, a_evXR, a_callXR, a_iteXR, a_asgDR, a_retTR, a_mut, a_mut2, a_mutA, a_mutC, a_mutR, a_mutS, a_setR2, a_appR2, a_remR, te_im, e_bor, e_keq, o_keq, bor_nil, bor_cons, bs_dep, bs_shr, bs_own, bs_no, dp_dep, w_Ld, w_Kd, w_Fd, fo_dep, p_nil, s_rx, en_Xrx, ok_nox, a_mut1S, a_mut1A, a_mut1R, a_mut1C, a_retXn, a_retXb, a_retXi, a_safeb, a_safei, te_comp, te_lst, te_call, ts_nil, ts_cons, a_consT, a_callT, a_clT, a_compT, a_endCT, cT_nm, cT_tp, cT_T, cT_F, e1, q_keq, e7, Nat.reduceLT, e3, e4, e5, e8, ek]
    · simp only [e_var, e_con, e_glb, e_bin, e_un, e_and, e_or, e_cmp, e_chn, e_ite, e_lst, e_tup, e_dic0, e_dic, e_comp, e_call, e_bi, e_mth, e_rcv, e_att, e_idx, e_rev, e_slc, e_sort, l_nil, l_cons, i_seq, i_rng, i_rng1, i_enum, i_zip, v_shr, v_own, v_dic, g_some, o_bin, o_un, o_andT, o_andF, o_orT, o_orF, o_bol, o_cmp, o_chn, o_chT, o_chF, o_iteT, o_iteF, o_lst, o_tup, o_dic, o_cons, o_comp, o_endC, o_call, o_cl, o_clE, o_bi, o_mth, o_mth2, o_rcv, o_att, o_idx, o_rev, o_slc, o_sort, o_it, o_rng, o_rng1, o_enum, o_zip, ct_nm, ct_tp, ct_T, ct_F, ct_2, List.map_cons, List.map_nil, List.replicate, List.append_nil, List.cons_append, List.nil_append, Nat.sub_self, List.length_cons, List.length_nil, List.getElem?_cons_zero, List.getElem?_cons_succ, List.set_cons_zero, List.set_cons_succ, cmb, wipeE, if_true, if_false, Bool.not_true, Bool.not_false, Bool.false_eq_true, Bool.true_and, Bool.and_true, Bool.false_or, Bool.or_false, Bool.or_true, Bool.true_or, Bool.and_self, and_self, Bool.false_and, Bool.and_false, Int.reduceLT, Int.reduceLE, Int.reduceNeg, Nat.reduceAdd, Nat.reduceMul, Nat.reduceSub, Nat.reduceBEq, q_add, q_sub, q_mulr, q_mull, q_mod, q_fdiv, q_not, q_neg, q_lt, q_le, q_gt, q_ge, q_eqi, q_nei, q_neb, q_isb, q_t0, q_t1, q_len, q_lent, q_lens, q_list, q_listt, q_tuple, q_is1, q_is2, q_is3, q_is4, q_is5, q_is6, q_it, q_itt, q_rev, q_callT, q_calli, q_callb, imm_i, imm_b, imm_l, imm_k, imm_s, imm_n, imm_c, rcvB, fl_i, fl_b, fl_s, fl_n, fl_l, fl_t, fl_o, fl_d, iF_nil, iF_cons, iL_nil, iL_cons, imm_ints, xs_nil, xs_cons, x_asg, x_asgT, x_par, x_fld, x_ite, x_for, x_ret, x_rai, x_expr, x_pass, x_clr, x_app, x_pop, x_set, s_nx, s_rt, s_exc, lk_nil, lk_end, lk_cons, List.contains_cons, List.contains_nil, sl_L, sl_K, sl_O, sl_V, sl_F, it_V, it_r1, it_r2, it_e, it_z, w_L, w_Lk, w_Ls, w_K, w_Kl, w_O, w_V, w_Vk, w_Vs, w_F, w_Fk, w_Fs, w_Fo, w_Fn, w_it, w_itn, a_asg, a_asgE, a_nx, a_asgT, a_par, a_retO, a_retS, a_retN, a_ret, a_retE, a_app, a_clr, a_set, a_setK, a_expr, a_exprE, a_iteT, a_iteF, a_iteE, a_for, a_forO, a_forN, t_nm, t_tp, fo_shr, fo_lst, fo_dic, fo_no, en_rt, en_nx, en_exc, frz, esc, esc.escs, esc.escb, escI, tgSlots, putL, putS, D.isL, ownV, q_asg, q_asgb, q_asgt, q_asgo, q_asgl, q_asgk, q_pop0, q_nm, q_tp, x_asgD, x_mut, x_forM, x_retT, x_retX, x_callX, x_iteX, x_X, x_X0, x_Xf, x_Xm, a_mxR, a_mxR1, a_evXR, a_callXR, a_iteXR, a_asgDR, a_retTR, a_mut, a_mut2, a_mutA, a_mutC, a_mutR, a_mutS, a_setR2, a_appR2, a_remR, te_im, e_bor, e_keq, o_keq, bor_nil, bor_cons, bs_dep, bs_shr, bs_own, bs_no, dp_dep, w_Ld, w_Kd, w_Fd, fo_dep, p_nil, s_rx, en_Xrx, ok_nox, a_mut1S, a_mut1A, a_mut1R, a_mut1C, a_retXn, a_retXb, a_retXi, a_safeb, a_safei, te_comp, te_lst, te_call, ts_nil, ts_cons, a_consT, a_callT, a_clT, a_compT, a_endCT, cT_nm, cT_tp, cT_T, cT_F]
  · obtain ⟨B1, B2, hA⟩ := List.append_of_mem hq'
    obtain ⟨l, ek⟩ : ∃ l, keyq O' t = q' :: l := by
      cases hk : keyq O' t with
      | nil =>
        have := keyq_mem.mpr ((ho q').mpr rfl)
        rw [hk] at this
        cases this
      | cons x l =>
        have : x ∈ keyq O' t := by rw [hk]; exact List.mem_cons_self
        have := (ho x).mp (keyq_mem.mp this)
        exact ⟨l, by rw [this]⟩
    have e8 : cmpV .Eq (.lst (.int q' :: l.map D.int)) (.lst []) = .ok false := e6 (q' :: l)
    have e9 : safeW (.ok (mkL (.int q' :: l.map D.int) true)) = .ok (.lst (.int q' :: l.map D.int), ⟨true, true, true⟩) := e2 (q' :: l)
    have e10 : ∀ f g, idxV (.lst (.int q' :: l.map D.int), f) (.int 0, g) = .ok (.int q', ⟨false, true, true⟩) := fun f g => by
      unfold idxV
      simp [ixN', mkE, D.imm]
    have hlen : (putI O' q t).length ≤ O'.length + 1 := by
      unfold putI
      split
      · rw [List.length_map]; omega
      · simp
    refine .inl ⟨[some (.dep (.dic (kd (putI O' q t)))), some (.shr (.dic (kd A)) false), some (.shr (.int p) false), some (.shr (.int q') true), some (.shr (.int t) true), some (.own (.lst (.int q' :: l.map D.int)) true), s6], B1.length, ?_, by rw [hA]; simp, _, q', t', B1, _, _, _, _, _, c.next OW hr k ht hA hl', rfl, by rw [hA] at hl; simp at hl ⊢; omega, putI_nd hk, rfl⟩
    simp only [e_var, e_con, e_glb, e_bin, e_un, e_and, e_or, e_cmp, e_chn, e_ite, e_lst, e_tup, e_dic0, e_dic, e_comp, e_call, e_bi, e_mth, e_rcv, e_att, e_idx, e_rev, e_slc, e_sort, l_nil, l_cons, i_seq, i_rng, i_rng1, i_enum, i_zip, v_shr, v_own, v_dic, g_some, o_bin, o_un, o_andT, o_andF, o_orT, o_orF, o_bol, o_cmp, o_chn, o_chT, o_chF, o_iteT, o_iteF, o_lst, o_tup, o_dic, o_cons, o_comp, o_endC, o_call, o_cl, o_clE, o_bi, o_mth, o_mth2, o_rcv, o_att, o_idx, o_rev, o_slc, o_sort, o_it, o_rng, o_rng1, o_enum, o_zip, ct_nm, ct_tp, ct_T, ct_F, ct_2, List.map_cons, List.map_nil, List.replicate, List.append_nil, List.cons_append, List.nil_append, Nat.sub_self, List.length_cons, List.length_nil, List.getElem?_cons_zero, List.getElem?_cons_succ, List.set_cons_zero, List.set_cons_succ, cmb, wipeE, if_true, if_false, Bool.not_true, Bool.not_false, Bool.false_eq_true, Bool.true_and, Bool.and_true, Bool.false_or, Bool.or_false, Bool.or_true, Bool.true_or, Bool.and_self, and_self, Bool.false_and, Bool.and_false, Int.reduceLT, Int.reduceLE, Int.reduceNeg, Nat.reduceAdd, Nat.reduceMul, Nat.reduceSub, Nat.reduceBEq, q_add, q_sub, q_mulr, q_mull, q_mod, q_fdiv, q_not, q_neg, q_lt, q_le, q_gt, q_ge, q_eqi, q_nei, q_neb, q_isb, q_t0, q_t1, q_len, q_lent, q_lens, q_list, q_listt, q_tuple, q_is1, q_is2, q_is3, q_is4, q_is5, q_is6, q_it, q_itt, q_rev, q_callT, q_calli, q_callb, imm_i, imm_b, imm_l, imm_k, imm_s, imm_n, imm_c, rcvB, fl_i, fl_b, fl_s, fl_n, fl_l, fl_t, fl_o, fl_d, iF_nil, iF_cons, iL_nil, iL_cons, imm_ints, xs_nil, xs_cons, x_asg, x_asgT, x_par, x_fld, x_ite, x_for, x_ret, x_rai, x_expr, x_pass, x_clr, x_app, x_pop, x_set, s_nx, s_rt, s_exc, lk_nil, lk_end, lk_cons, List.contains_cons, List.contains_nil, sl_L, sl_K, sl_O, sl_V, sl_F, it_V, it_r1, it_r2, it_e, it_z, w_L, w_Lk, w_Ls, w_K, w_Kl, w_O, w_V, w_Vk, w_Vs, w_F, w_Fk, w_Fs, w_Fo, w_Fn, w_it, w_itn, a_asg, a_asgE, a_nx, a_asgT, a_par, a_retO, a_retS, a_retN, a_ret, a_retE, a_app, a_clr, a_set, a_setK, a_expr, a_exprE, a_iteT, a_iteF, a_iteE, a_for, a_forO, a_forN, t_nm, t_tp, fo_shr, fo_lst, fo_dic, fo_no, en_rt, en_nx, en_exc, frz, esc, esc.escs, esc.escb, escI, tgSlots, putL, putS, D.isL, ownV, q_asg, q_asgb, q_asgt, q_asgo, q_asgl, q_asgk, q_pop0, q_nm, q_tp, x_asgD, x_mut, x_forM, x_retT, x_retX, x_callX, x_iteX, x_X, x_X0, x_Xf, x_Xm, a_mxR, a_mxR1, a_evXR, a_callXR, a_iteXR, a_asgDR, a_retTR, a_mut, a_mut2, a_mutA, a_mutC, a_mutR, a_mutS, a_setR2, a_appR2, a_remR, te_im, e_bor, e_keq, o_keq, bor_nil, bor_cons, bs_dep, bs_shr, bs_own, bs_no, dp_dep, w_Ld, w_Kd, w_Fd, fo_dep, p_nil, s_rx, en_Xrx, ok_nox, a_mut1S, a_mut1A, a_mut1R, a_mut1C, a_retXn, a_retXb, a_retXi, a_safeb, a_safei, te_comp, te_lst, te_call, ts_nil, ts_cons, a_consT, a_callT, a_clT, a_compT, a_endCT, cT_nm, cT_tp, cT_T, cT_F, e1, q_keq, e9, Nat.reduceLT, e3, e4, e5, e8, ek, e10]
theorem loop_fz {α : Type} {T : Tb} {W : Nat} {C : Fid → List D → R (D × Bool)} {tg : Tg} {n : Bool} {b : Sxs} {L : List Nat} {ds : List D} {E : SEnv} {z : R Fw} {g : α → D} {xs : List α} (hz : loopV T W C tg n b L ds E = z) (hd : ds = xs.map g) (I : List α → List α → SEnv → Prop) (Rt : Fw → Prop) (h : I [] xs E) (hs : ∀ pre x r E, pre ++ x :: r = xs → I pre (x :: r) E → (∃ E', turnV T W C tg n b L (g x) E = .ok (.nx E') ∧ I (pre ++ [x]) r E') ∨ (∃ q, turnV T W C tg n b L (g x) E = .ok q ∧ q.isNx = false ∧ Rt q)) : (∃ E', z = .ok (.nx E') ∧ I xs [] E') ∨ (∃ q, z = .ok q ∧ q.isNx = false ∧ Rt q) := by
  subst hz
  subst hd
  exact loop_fw I Rt rfl h hs
theorem kd_notin (O : KV) (x : Int) : cmpV .NotIn (.int x) (.dic (kd O)) = .ok (!decide (x ∈ O.map (·.1))) := by
  show R.ok (!((kd O).lookup x).isSome) = _
  congr 2
  rw [kd_look, Bool.eq_iff_iff, decide_eq_true_eq]
  cases e : O.lookup x with
  | none => simpa using fun b hb => look_none.mp e (x, b) hb rfl
  | some t => simpa using ⟨t, look_some e⟩
/-- one more asks for a post -/
theorem r_given (h : PP T) (OW : Own w O S) (hr : root ∉ S) (hS : S.length < 20) (hW : 100 ≤ W) (hO : O.length < 100) (hkn : (O.map (·.1)).Nodup) (ws : List (List Int)) (fs : List (Str × D)) (hf : fs.lookup ("wants" : Str) = some (.tup (ws.map fun l => .tup (l.map .int)))) (hn : List.lookup ("given" : Str) fs = none) (hw : ∀ t ∈ root :: S, ∃ k : Nat, t = k ∧ ws[k]? = some (w t)) : ∃ b O2, run T W (n + 2) (.mx "Posts" "given" 1) [.obj "Posts" fs, .dic (kd O), .int root] = .ok (.tup [.bl b, .dic (kd O2)], true) ∧ (O2.map (·.1)).Nodup ∧ (b = true → Own w O2 (root :: S)) ∧ (b = false → ¬ SDR w (root :: S)) := by
  rw [run_mx (ds := [.obj "Posts" fs, .dic (kd O), .int root]) h.given rfl (by simp)]
  simp only [P.m_Posts_given, startX, startE, e_var, e_con, e_glb, e_bin, e_un, e_and, e_or, e_cmp, e_chn, e_ite, e_lst, e_tup, e_dic0, e_dic, e_comp, e_call, e_bi, e_mth, e_rcv, e_att, e_idx, e_rev, e_slc, e_sort, l_nil, l_cons, i_seq, i_rng, i_rng1, i_enum, i_zip, v_shr, v_own, v_dic, g_some, o_bin, o_un, o_andT, o_andF, o_orT, o_orF, o_bol, o_cmp, o_chn, o_chT, o_chF, o_iteT, o_iteF, o_lst, o_tup, o_dic, o_cons, o_comp, o_endC, o_call, o_cl, o_clE, o_bi, o_mth, o_mth2, o_rcv, o_att, o_idx, o_rev, o_slc, o_sort, o_it, o_rng, o_rng1, o_enum, o_zip, ct_nm, ct_tp, ct_T, ct_F, ct_2, List.map_cons, List.map_nil, List.replicate, List.append_nil, List.cons_append, List.nil_append, Nat.sub_self, List.length_cons, List.length_nil, List.getElem?_cons_zero, List.getElem?_cons_succ, List.set_cons_zero, List.set_cons_succ, cmb, wipeE, if_true, if_false, Bool.not_true, Bool.not_false, Bool.false_eq_true, Bool.true_and, Bool.and_true, Bool.false_or, Bool.or_false, Bool.or_true, Bool.true_or, Bool.and_self, and_self, Bool.false_and, Bool.and_false, Int.reduceLT, Int.reduceLE, Int.reduceNeg, Nat.reduceAdd, Nat.reduceMul, Nat.reduceSub, Nat.reduceBEq, q_add, q_sub, q_mulr, q_mull, q_mod, q_fdiv, q_not, q_neg, q_lt, q_le, q_gt, q_ge, q_eqi, q_nei, q_neb, q_isb, q_t0, q_t1, q_len, q_lent, q_lens, q_list, q_listt, q_tuple, q_is1, q_is2, q_is3, q_is4, q_is5, q_is6, q_it, q_itt, q_rev, q_callT, q_calli, q_callb, imm_i, imm_b, imm_l, imm_k, imm_s, imm_n, imm_c, rcvB, fl_i, fl_b, fl_s, fl_n, fl_l, fl_t, fl_o, fl_d, iF_nil, iF_cons, iL_nil, iL_cons, imm_ints, xs_nil, xs_cons, x_asg, x_asgT, x_par, x_fld, x_ite, x_for, x_ret, x_rai, x_expr, x_pass, x_clr, x_app, x_pop, x_set, s_nx, s_rt, s_exc, lk_nil, lk_end, lk_cons, List.contains_cons, List.contains_nil, sl_L, sl_K, sl_O, sl_V, sl_F, it_V, it_r1, it_r2, it_e, it_z, w_L, w_Lk, w_Ls, w_K, w_Kl, w_O, w_V, w_Vk, w_Vs, w_F, w_Fk, w_Fs, w_Fo, w_Fn, w_it, w_itn, a_asg, a_asgE, a_nx, a_asgT, a_par, a_retO, a_retS, a_retN, a_ret, a_retE, a_app, a_clr, a_set, a_setK, a_expr, a_exprE, a_iteT, a_iteF, a_iteE, a_for, a_forO, a_forN, t_nm, t_tp, fo_shr, fo_lst, fo_dic, fo_no, en_rt, en_nx, en_exc, frz, esc, esc.escs, esc.escb, escI, tgSlots, putL, putS, D.isL, ownV, q_asg, q_asgb, q_asgt, q_asgo, q_asgl, q_asgk, q_pop0, q_nm, q_tp, x_asgD, x_mut, x_forM, x_retT, x_retX, x_callX, x_iteX, x_X, x_X0, x_Xf, x_Xm, a_mxR, a_mxR1, a_evXR, a_callXR, a_iteXR, a_asgDR, a_retTR, a_mut, a_mut2, a_mutA, a_mutC, a_mutR, a_mutS, a_setR2, a_appR2, a_remR, te_im, e_bor, e_keq, o_keq, bor_nil, bor_cons, bs_dep, bs_shr, bs_own, bs_no, dp_dep, w_Ld, w_Kd, w_Fd, fo_dep, p_nil, s_rx, en_Xrx, ok_nox, a_mut1S, a_mut1A, a_mut1R, a_mut1C, a_retXn, a_retXb, a_retXi, a_safeb, a_safei, te_comp, te_lst, te_call, ts_nil, ts_cons, a_consT, a_callT, a_clT, a_compT, a_endCT, cT_nm, cT_tp, cT_T, cT_F]
  show ∃ b O2, endX 1 (seqR T W (run T W (n + 1)) _ [1001] (exec T W (run T W (n + 1)) _ [1001] [some (.shr (.obj "Posts" fs) false), some (.dep (.dic (kd O))), some (.shr (.int root) false), some (.own (.dic (kd [])) true), some (.own (.lst ([root].map D.int)) true), none, none])) = .ok (.tup [.bl b, .dic (kd O2)], true) ∧ (O2.map (·.1)).Nodup ∧ (b = true → Own w O2 (root :: S)) ∧ (b = false → ¬ SDR w (root :: S))
  rw [x_whl]
  refine whl_fw (L := [1001]) (fun m E => ∃ A proc Wt s5 s6, Bfs w O root A proc Wt ∧ m = 40 - proc.length ∧ E = [some (.shr (.obj "Posts" fs) false), some (.dep (.dic (kd O))), some (.shr (.int root) false), some (.own (.dic (kd A)) true), some (.own (.lst (Wt.map D.int)) true), s5, s6]) (fun z => ∃ b O2, endX 1 (seqR T W (run T W (n + 1)) _ [1001] z) = .ok (.tup [.bl b, .dic (kd O2)], true) ∧ (O2.map (·.1)).Nodup ∧ (b = true → Own w O2 (root :: S)) ∧ (b = false → ¬ SDR w (root :: S))) 40 W _ (by omega) ⟨[], [], [root], none, none, .start, rfl, rfl⟩ ?_
  rintro m E ⟨A, proc, Wt, s5, s6, B, rfl, rfl⟩
  obtain ⟨vn, vs⟩ := B.nodup OW hr
  have B0 := B
  have cmp : ∀ l : List Int, cmpV .NotEq (.lst (l.map D.int)) (.lst []) = .ok (!(l == [])) := fun l => by
    rw [q_nel (dat_ints _ _) rfl]
    have := eqvL_ints l []
    rw [List.map_nil] at this
    rw [this]
  cases Wt with
  | nil =>
    refine .inl ⟨.I, ?_, false, O, ?_, hkn, fun z => (nomatch z), fun _ => B.none OW hr⟩
    · have := cmp []
      simp only [List.map_nil] at this
      simp only [e_var, e_con, e_glb, e_bin, e_un, e_and, e_or, e_cmp, e_chn, e_ite, e_lst, e_tup, e_dic0, e_dic, e_comp, e_call, e_bi, e_mth, e_rcv, e_att, e_idx, e_rev, e_slc, e_sort, l_nil, l_cons, i_seq, i_rng, i_rng1, i_enum, i_zip, v_shr, v_own, v_dic, g_some, o_bin, o_un, o_andT, o_andF, o_orT, o_orF, o_bol, o_cmp, o_chn, o_chT, o_chF, o_iteT, o_iteF, o_lst, o_tup, o_dic, o_cons, o_comp, o_endC, o_call, o_cl, o_clE, o_bi, o_mth, o_mth2, o_rcv, o_att, o_idx, o_rev, o_slc, o_sort, o_it, o_rng, o_rng1, o_enum, o_zip, ct_nm, ct_tp, ct_T, ct_F, ct_2, List.map_cons, List.map_nil, List.replicate, List.append_nil, List.cons_append, List.nil_append, Nat.sub_self, List.length_cons, List.length_nil, List.getElem?_cons_zero, List.getElem?_cons_succ, List.set_cons_zero, List.set_cons_succ, cmb, wipeE, if_true, if_false, Bool.not_true, Bool.not_false, Bool.false_eq_true, Bool.true_and, Bool.and_true, Bool.false_or, Bool.or_false, Bool.or_true, Bool.true_or, Bool.and_self, and_self, Bool.false_and, Bool.and_false, Int.reduceLT, Int.reduceLE, Int.reduceNeg, Nat.reduceAdd, Nat.reduceMul, Nat.reduceSub, Nat.reduceBEq, q_add, q_sub, q_mulr, q_mull, q_mod, q_fdiv, q_not, q_neg, q_lt, q_le, q_gt, q_ge, q_eqi, q_nei, q_neb, q_isb, q_t0, q_t1, q_len, q_lent, q_lens, q_list, q_listt, q_tuple, q_is1, q_is2, q_is3, q_is4, q_is5, q_is6, q_it, q_itt, q_rev, q_callT, q_calli, q_callb, imm_i, imm_b, imm_l, imm_k, imm_s, imm_n, imm_c, rcvB, fl_i, fl_b, fl_s, fl_n, fl_l, fl_t, fl_o, fl_d, iF_nil, iF_cons, iL_nil, iL_cons, imm_ints, xs_nil, xs_cons, x_asg, x_asgT, x_par, x_fld, x_ite, x_for, x_ret, x_rai, x_expr, x_pass, x_clr, x_app, x_pop, x_set, s_nx, s_rt, s_exc, lk_nil, lk_end, lk_cons, List.contains_cons, List.contains_nil, sl_L, sl_K, sl_O, sl_V, sl_F, it_V, it_r1, it_r2, it_e, it_z, w_L, w_Lk, w_Ls, w_K, w_Kl, w_O, w_V, w_Vk, w_Vs, w_F, w_Fk, w_Fs, w_Fo, w_Fn, w_it, w_itn, a_asg, a_asgE, a_nx, a_asgT, a_par, a_retO, a_retS, a_retN, a_ret, a_retE, a_app, a_clr, a_set, a_setK, a_expr, a_exprE, a_iteT, a_iteF, a_iteE, a_for, a_forO, a_forN, t_nm, t_tp, fo_shr, fo_lst, fo_dic, fo_no, en_rt, en_nx, en_exc, frz, esc, esc.escs, esc.escb, escI, tgSlots, putL, putS, D.isL, ownV, q_asg, q_asgb, q_asgt, q_asgo, q_asgl, q_asgk, q_pop0, q_nm, q_tp, x_asgD, x_mut, x_forM, x_retT, x_retX, x_callX, x_iteX, x_X, x_X0, x_Xf, x_Xm, a_mxR, a_mxR1, a_evXR, a_callXR, a_iteXR, a_asgDR, a_retTR, a_mut, a_mut2, a_mutA, a_mutC, a_mutR, a_mutS, a_setR2, a_appR2, a_remR, te_im, e_bor, e_keq, o_keq, bor_nil, bor_cons, bs_dep, bs_shr, bs_own, bs_no, dp_dep, w_Ld, w_Kd, w_Fd, fo_dep, p_nil, s_rx, en_Xrx, ok_nox, a_mut1S, a_mut1A, a_mut1R, a_mut1C, a_retXn, a_retXb, a_retXi, a_safeb, a_safei, te_comp, te_lst, te_call, ts_nil, ts_cons, a_consT, a_callT, a_clT, a_compT, a_endCT, cT_nm, cT_tp, cT_T, cT_F, this]
      rfl
    · simp only [e_var, e_con, e_glb, e_bin, e_un, e_and, e_or, e_cmp, e_chn, e_ite, e_lst, e_tup, e_dic0, e_dic, e_comp, e_call, e_bi, e_mth, e_rcv, e_att, e_idx, e_rev, e_slc, e_sort, l_nil, l_cons, i_seq, i_rng, i_rng1, i_enum, i_zip, v_shr, v_own, v_dic, g_some, o_bin, o_un, o_andT, o_andF, o_orT, o_orF, o_bol, o_cmp, o_chn, o_chT, o_chF, o_iteT, o_iteF, o_lst, o_tup, o_dic, o_cons, o_comp, o_endC, o_call, o_cl, o_clE, o_bi, o_mth, o_mth2, o_rcv, o_att, o_idx, o_rev, o_slc, o_sort, o_it, o_rng, o_rng1, o_enum, o_zip, ct_nm, ct_tp, ct_T, ct_F, ct_2, List.map_cons, List.map_nil, List.replicate, List.append_nil, List.cons_append, List.nil_append, Nat.sub_self, List.length_cons, List.length_nil, List.getElem?_cons_zero, List.getElem?_cons_succ, List.set_cons_zero, List.set_cons_succ, cmb, wipeE, if_true, if_false, Bool.not_true, Bool.not_false, Bool.false_eq_true, Bool.true_and, Bool.and_true, Bool.false_or, Bool.or_false, Bool.or_true, Bool.true_or, Bool.and_self, and_self, Bool.false_and, Bool.and_false, Int.reduceLT, Int.reduceLE, Int.reduceNeg, Nat.reduceAdd, Nat.reduceMul, Nat.reduceSub, Nat.reduceBEq, q_add, q_sub, q_mulr, q_mull, q_mod, q_fdiv, q_not, q_neg, q_lt, q_le, q_gt, q_ge, q_eqi, q_nei, q_neb, q_isb, q_t0, q_t1, q_len, q_lent, q_lens, q_list, q_listt, q_tuple, q_is1, q_is2, q_is3, q_is4, q_is5, q_is6, q_it, q_itt, q_rev, q_callT, q_calli, q_callb, imm_i, imm_b, imm_l, imm_k, imm_s, imm_n, imm_c, rcvB, fl_i, fl_b, fl_s, fl_n, fl_l, fl_t, fl_o, fl_d, iF_nil, iF_cons, iL_nil, iL_cons, imm_ints, xs_nil, xs_cons, x_asg, x_asgT, x_par, x_fld, x_ite, x_for, x_ret, x_rai, x_expr, x_pass, x_clr, x_app, x_pop, x_set, s_nx, s_rt, s_exc, lk_nil, lk_end, lk_cons, List.contains_cons, List.contains_nil, sl_L, sl_K, sl_O, sl_V, sl_F, it_V, it_r1, it_r2, it_e, it_z, w_L, w_Lk, w_Ls, w_K, w_Kl, w_O, w_V, w_Vk, w_Vs, w_F, w_Fk, w_Fs, w_Fo, w_Fn, w_it, w_itn, a_asg, a_asgE, a_nx, a_asgT, a_par, a_retO, a_retS, a_retN, a_ret, a_retE, a_app, a_clr, a_set, a_setK, a_expr, a_exprE, a_iteT, a_iteF, a_iteE, a_for, a_forO, a_forN, t_nm, t_tp, fo_shr, fo_lst, fo_dic, fo_no, en_rt, en_nx, en_exc, frz, esc, esc.escs, esc.escb, escI, tgSlots, putL, putS, D.isL, ownV, q_asg, q_asgb, q_asgt, q_asgo, q_asgl, q_asgk, q_pop0, q_nm, q_tp, x_asgD, x_mut, x_forM, x_retT, x_retX, x_callX, x_iteX, x_X, x_X0, x_Xf, x_Xm, a_mxR, a_mxR1, a_evXR, a_callXR, a_iteXR, a_asgDR, a_retTR, a_mut, a_mut2, a_mutA, a_mutC, a_mutR, a_mutS, a_setR2, a_appR2, a_remR, te_im, e_bor, e_keq, o_keq, bor_nil, bor_cons, bs_dep, bs_shr, bs_own, bs_no, dp_dep, w_Ld, w_Kd, w_Fd, fo_dep, p_nil, s_rx, en_Xrx, ok_nox, a_mut1S, a_mut1A, a_mut1R, a_mut1C, a_retXn, a_retXb, a_retXi, a_safeb, a_safei, te_comp, te_lst, te_call, ts_nil, ts_cons, a_consT, a_callT, a_clT, a_compT, a_endCT, cT_nm, cT_tp, cT_T, cT_F]
  | cons one Wt =>
    have hone : one ∈ root :: S := vs one (by rw [B.vq]; simp)
    obtain ⟨k, hk, hwk⟩ := hw one hone
    have := cmp (one :: Wt)
    simp only [List.map_cons] at this
    refine .inr ⟨.I, by simp only [e_var, e_con, e_glb, e_bin, e_un, e_and, e_or, e_cmp, e_chn, e_ite, e_lst, e_tup, e_dic0, e_dic, e_comp, e_call, e_bi, e_mth, e_rcv, e_att, e_idx, e_rev, e_slc, e_sort, l_nil, l_cons, i_seq, i_rng, i_rng1, i_enum, i_zip, v_shr, v_own, v_dic, g_some, o_bin, o_un, o_andT, o_andF, o_orT, o_orF, o_bol, o_cmp, o_chn, o_chT, o_chF, o_iteT, o_iteF, o_lst, o_tup, o_dic, o_cons, o_comp, o_endC, o_call, o_cl, o_clE, o_bi, o_mth, o_mth2, o_rcv, o_att, o_idx, o_rev, o_slc, o_sort, o_it, o_rng, o_rng1, o_enum, o_zip, ct_nm, ct_tp, ct_T, ct_F, ct_2, List.map_cons, List.map_nil, List.replicate, List.append_nil, List.cons_append, List.nil_append, Nat.sub_self, List.length_cons, List.length_nil, List.getElem?_cons_zero, List.getElem?_cons_succ, List.set_cons_zero, List.set_cons_succ, cmb, wipeE, if_true, if_false, Bool.not_true, Bool.not_false, Bool.false_eq_true, Bool.true_and, Bool.and_true, Bool.false_or, Bool.or_false, Bool.or_true, Bool.true_or, Bool.and_self, and_self, Bool.false_and, Bool.and_false, Int.reduceLT, Int.reduceLE, Int.reduceNeg, Nat.reduceAdd, Nat.reduceMul, Nat.reduceSub, Nat.reduceBEq, q_add, q_sub, q_mulr, q_mull, q_mod, q_fdiv, q_not, q_neg, q_lt, q_le, q_gt, q_ge, q_eqi, q_nei, q_neb, q_isb, q_t0, q_t1, q_len, q_lent, q_lens, q_list, q_listt, q_tuple, q_is1, q_is2, q_is3, q_is4, q_is5, q_is6, q_it, q_itt, q_rev, q_callT, q_calli, q_callb, imm_i, imm_b, imm_l, imm_k, imm_s, imm_n, imm_c, rcvB, fl_i, fl_b, fl_s, fl_n, fl_l, fl_t, fl_o, fl_d, iF_nil, iF_cons, iL_nil, iL_cons, imm_ints, xs_nil, xs_cons, x_asg, x_asgT, x_par, x_fld, x_ite, x_for, x_ret, x_rai, x_expr, x_pass, x_clr, x_app, x_pop, x_set, s_nx, s_rt, s_exc, lk_nil, lk_end, lk_cons, List.contains_cons, List.contains_nil, sl_L, sl_K, sl_O, sl_V, sl_F, it_V, it_r1, it_r2, it_e, it_z, w_L, w_Lk, w_Ls, w_K, w_Kl, w_O, w_V, w_Vk, w_Vs, w_F, w_Fk, w_Fs, w_Fo, w_Fn, w_it, w_itn, a_asg, a_asgE, a_nx, a_asgT, a_par, a_retO, a_retS, a_retN, a_ret, a_retE, a_app, a_clr, a_set, a_setK, a_expr, a_exprE, a_iteT, a_iteF, a_iteE, a_for, a_forO, a_forN, t_nm, t_tp, fo_shr, fo_lst, fo_dic, fo_no, en_rt, en_nx, en_exc, frz, esc, esc.escs, esc.escb, escI, tgSlots, putL, putS, D.isL, ownV, q_asg, q_asgb, q_asgt, q_asgo, q_asgl, q_asgk, q_pop0, q_nm, q_tp, x_asgD, x_mut, x_forM, x_retT, x_retX, x_callX, x_iteX, x_X, x_X0, x_Xf, x_Xm, a_mxR, a_mxR1, a_evXR, a_callXR, a_iteXR, a_asgDR, a_retTR, a_mut, a_mut2, a_mutA, a_mutC, a_mutR, a_mutS, a_setR2, a_appR2, a_remR, te_im, e_bor, e_keq, o_keq, bor_nil, bor_cons, bs_dep, bs_shr, bs_own, bs_no, dp_dep, w_Ld, w_Kd, w_Fd, fo_dep, p_nil, s_rx, en_Xrx, ok_nox, a_mut1S, a_mut1A, a_mut1R, a_mut1C, a_retXn, a_retXb, a_retXi, a_safeb, a_safei, te_comp, te_lst, te_call, ts_nil, ts_cons, a_consT, a_callT, a_clT, a_compT, a_endCT, cT_nm, cT_tp, cT_T, cT_F, this]; rfl, ?_⟩
    have hat : ∀ f, attV (.obj "Posts" fs, f) "wants" = .ok (.tup (ws.map fun l => .tup (l.map D.int)), ⟨false, f.n || (D.tup (ws.map fun l => .tup (l.map D.int))).imm, true⟩) := fun f => by
      unfold attV
      simp only [hf, mkE]
    have hix : ∀ f g, idxV (.tup (ws.map fun l => .tup (l.map D.int)), f) (.int one, g) = .ok (mkE (.tup ((w one).map D.int)) f.n) := fun f g => by
      have hlt : k < ws.length := (List.getElem?_eq_some_iff.mp hwk).1
      unfold idxV
      simp only [hk, List.length_map, ixN_nat hlt, Option.bind_some, List.getElem?_map, hwk, Option.map_some]
    have hno : ∀ (E : SEnv) a b, ownIt E (.seq (.idx a b)) = none := fun _ _ _ => rfl
    have hi : (D.tup ((w one).map D.int)).imm = true := by
      show D.imm.immL _ = true
      rw [immL_all]
      exact imm_ints _
    simp only [e_var, e_con, e_glb, e_bin, e_un, e_and, e_or, e_cmp, e_chn, e_ite, e_lst, e_tup, e_dic0, e_dic, e_comp, e_call, e_bi, e_mth, e_rcv, e_att, e_idx, e_rev, e_slc, e_sort, l_nil, l_cons, i_seq, i_rng, i_rng1, i_enum, i_zip, v_shr, v_own, v_dic, g_some, o_bin, o_un, o_andT, o_andF, o_orT, o_orF, o_bol, o_cmp, o_chn, o_chT, o_chF, o_iteT, o_iteF, o_lst, o_tup, o_dic, o_cons, o_comp, o_endC, o_call, o_cl, o_clE, o_bi, o_mth, o_mth2, o_rcv, o_att, o_idx, o_rev, o_slc, o_sort, o_it, o_rng, o_rng1, o_enum, o_zip, ct_nm, ct_tp, ct_T, ct_F, ct_2, List.map_cons, List.map_nil, List.replicate, List.append_nil, List.cons_append, List.nil_append, Nat.sub_self, List.length_cons, List.length_nil, List.getElem?_cons_zero, List.getElem?_cons_succ, List.set_cons_zero, List.set_cons_succ, cmb, wipeE, if_true, if_false, Bool.not_true, Bool.not_false, Bool.false_eq_true, Bool.true_and, Bool.and_true, Bool.false_or, Bool.or_false, Bool.or_true, Bool.true_or, Bool.and_self, and_self, Bool.false_and, Bool.and_false, Int.reduceLT, Int.reduceLE, Int.reduceNeg, Nat.reduceAdd, Nat.reduceMul, Nat.reduceSub, Nat.reduceBEq, q_add, q_sub, q_mulr, q_mull, q_mod, q_fdiv, q_not, q_neg, q_lt, q_le, q_gt, q_ge, q_eqi, q_nei, q_neb, q_isb, q_t0, q_t1, q_len, q_lent, q_lens, q_list, q_listt, q_tuple, q_is1, q_is2, q_is3, q_is4, q_is5, q_is6, q_it, q_itt, q_rev, q_callT, q_calli, q_callb, imm_i, imm_b, imm_l, imm_k, imm_s, imm_n, imm_c, rcvB, fl_i, fl_b, fl_s, fl_n, fl_l, fl_t, fl_o, fl_d, iF_nil, iF_cons, iL_nil, iL_cons, imm_ints, xs_nil, xs_cons, x_asg, x_asgT, x_par, x_fld, x_ite, x_for, x_ret, x_rai, x_expr, x_pass, x_clr, x_app, x_pop, x_set, s_nx, s_rt, s_exc, lk_nil, lk_end, lk_cons, List.contains_cons, List.contains_nil, sl_L, sl_K, sl_O, sl_V, sl_F, it_V, it_r1, it_r2, it_e, it_z, w_L, w_Lk, w_Ls, w_K, w_Kl, w_O, w_V, w_Vk, w_Vs, w_F, w_Fk, w_Fs, w_Fo, w_Fn, w_it, w_itn, a_asg, a_asgE, a_nx, a_asgT, a_par, a_retO, a_retS, a_retN, a_ret, a_retE, a_app, a_clr, a_set, a_setK, a_expr, a_exprE, a_iteT, a_iteF, a_iteE, a_for, a_forO, a_forN, t_nm, t_tp, fo_shr, fo_lst, fo_dic, fo_no, en_rt, en_nx, en_exc, frz, esc, esc.escs, esc.escb, escI, tgSlots, putL, putS, D.isL, ownV, q_asg, q_asgb, q_asgt, q_asgo, q_asgl, q_asgk, q_pop0, q_nm, q_tp, x_asgD, x_mut, x_forM, x_retT, x_retX, x_callX, x_iteX, x_X, x_X0, x_Xf, x_Xm, a_mxR, a_mxR1, a_evXR, a_callXR, a_iteXR, a_asgDR, a_retTR, a_mut, a_mut2, a_mutA, a_mutC, a_mutR, a_mutS, a_setR2, a_appR2, a_remR, te_im, e_bor, e_keq, o_keq, bor_nil, bor_cons, bs_dep, bs_shr, bs_own, bs_no, dp_dep, w_Ld, w_Kd, w_Fd, fo_dep, p_nil, s_rx, en_Xrx, ok_nox, a_mut1S, a_mut1A, a_mut1R, a_mut1C, a_retXn, a_retXb, a_retXi, a_safeb, a_safei, te_comp, te_lst, te_call, ts_nil, ts_cons, a_consT, a_callT, a_clT, a_compT, a_endCT, cT_nm, cT_tp, cT_T, cT_F, hat, hix, mkE, hno, hi]
    generalize hz : loopV _ _ _ _ _ _ _ _ _ = z
    rcases loop_fz hz rfl (fun pre r E => ∃ A Wt s6, Bfs w O root A proc (one :: Wt) ∧ (∀ p ∈ pre, p ∈ A.map (·.1)) ∧ E = [some (.shr (.obj "Posts" fs) false), some (.dep (.dic (kd O))), some (.shr (.int root) false), some (.own (.dic (kd A)) true), some (.own (.lst (Wt.map D.int)) true), some (.shr (.int one) true), s6]) (fun q => ∃ O2, q = .rx 1 (.bl true) (.dic (kd O2)) ∧ (O2.map (·.1)).Nodup ∧ Own w O2 (root :: S)) ⟨A, Wt, s6, B, by simp, rfl⟩ (fun pre x r E hx ⟨A, Wt, s6, B, hp, hE⟩ => by
      subst hE
      have hxw : x ∈ w one := by rw [← hx]; simp
      have hin : cmpV .NotIn (.int x) (.dic (kd A)) = .ok (!decide (x ∈ A.map (·.1))) := kd_notin A x
      have hin2 : cmpV .NotIn (.int x) (.dic (kd O)) = .ok (!decide (x ∈ O.map (·.1))) := kd_notin O x
      have hAl : A.length ≤ 30 := by
        obtain ⟨vn, vs⟩ := B.nodup OW hr
        have := nodup_len vn vs
        unfold vis at this
        simp at this
        omega
      by_cases c : x ∈ A.map (·.1)
      · refine .inl ⟨_, by simp only [e_var, e_con, e_glb, e_bin, e_un, e_and, e_or, e_cmp, e_chn, e_ite, e_lst, e_tup, e_dic0, e_dic, e_comp, e_call, e_bi, e_mth, e_rcv, e_att, e_idx, e_rev, e_slc, e_sort, l_nil, l_cons, i_seq, i_rng, i_rng1, i_enum, i_zip, v_shr, v_own, v_dic, g_some, o_bin, o_un, o_andT, o_andF, o_orT, o_orF, o_bol, o_cmp, o_chn, o_chT, o_chF, o_iteT, o_iteF, o_lst, o_tup, o_dic, o_cons, o_comp, o_endC, o_call, o_cl, o_clE, o_bi, o_mth, o_mth2, o_rcv, o_att, o_idx, o_rev, o_slc, o_sort, o_it, o_rng, o_rng1, o_enum, o_zip, ct_nm, ct_tp, ct_T, ct_F, ct_2, List.map_cons, List.map_nil, List.replicate, List.append_nil, List.cons_append, List.nil_append, Nat.sub_self, List.length_cons, List.length_nil, List.getElem?_cons_zero, List.getElem?_cons_succ, List.set_cons_zero, List.set_cons_succ, cmb, wipeE, if_true, if_false, Bool.not_true, Bool.not_false, Bool.false_eq_true, Bool.true_and, Bool.and_true, Bool.false_or, Bool.or_false, Bool.or_true, Bool.true_or, Bool.and_self, and_self, Bool.false_and, Bool.and_false, Int.reduceLT, Int.reduceLE, Int.reduceNeg, Nat.reduceAdd, Nat.reduceMul, Nat.reduceSub, Nat.reduceBEq, q_add, q_sub, q_mulr, q_mull, q_mod, q_fdiv, q_not, q_neg, q_lt, q_le, q_gt, q_ge, q_eqi, q_nei, q_neb, q_isb, q_t0, q_t1, q_len, q_lent, q_lens, q_list, q_listt, q_tuple, q_is1, q_is2, q_is3, q_is4, q_is5, q_is6, q_it, q_itt, q_rev, q_callT, q_calli, q_callb, imm_i, imm_b, imm_l, imm_k, imm_s, imm_n, imm_c, rcvB, fl_i, fl_b, fl_s, fl_n, fl_l, fl_t, fl_o, fl_d, iF_nil, iF_cons, iL_nil, iL_cons, imm_ints, xs_nil, xs_cons, x_asg, x_asgT, x_par, x_fld, x_ite, x_for, x_ret, x_rai, x_expr, x_pass, x_clr, x_app, x_pop, x_set, s_nx, s_rt, s_exc, lk_nil, lk_end, lk_cons, List.contains_cons, List.contains_nil, sl_L, sl_K, sl_O, sl_V, sl_F, it_V, it_r1, it_r2, it_e, it_z, w_L, w_Lk, w_Ls, w_K, w_Kl, w_O, w_V, w_Vk, w_Vs, w_F, w_Fk, w_Fs, w_Fo, w_Fn, w_it, w_itn, a_asg, a_asgE, a_nx, a_asgT, a_par, a_retO, a_retS, a_retN, a_ret, a_retE, a_app, a_clr, a_set, a_setK, a_expr, a_exprE, a_iteT, a_iteF, a_iteE, a_for, a_forO, a_forN, t_nm, t_tp, fo_shr, fo_lst, fo_dic, fo_no, en_rt, en_nx, en_exc, frz, esc, esc.escs, esc.escb, escI, tgSlots, putL, putS, D.isL, ownV, q_asg, q_asgb, q_asgt, q_asgo, q_asgl, q_asgk, q_pop0, q_nm, q_tp, x_asgD, x_mut, x_forM, x_retT, x_retX, x_callX, x_iteX, x_X, x_X0, x_Xf, x_Xm, a_mxR, a_mxR1, a_evXR, a_callXR, a_iteXR, a_asgDR, a_retTR, a_mut, a_mut2, a_mutA, a_mutC, a_mutR, a_mutS, a_setR2, a_appR2, a_remR, te_im, e_bor, e_keq, o_keq, bor_nil, bor_cons, bs_dep, bs_shr, bs_own, bs_no, dp_dep, w_Ld, w_Kd, w_Fd, fo_dep, p_nil, s_rx, en_Xrx, ok_nox, a_mut1S, a_mut1A, a_mut1R, a_mut1C, a_retXn, a_retXb, a_retXi, a_safeb, a_safei, te_comp, te_lst, te_call, ts_nil, ts_cons, a_consT, a_callT, a_clT, a_compT, a_endCT, cT_nm, cT_tp, cT_T, cT_F, hin, c, decide_true]; rfl, A, Wt, _, B, fun p hp' => ?_, rfl⟩
        rcases List.mem_append.mp hp' with h | h
        · exact hp p h
        · rw [List.mem_singleton] at h; subst h; exact c
      · have hl : O.lookup x = none ∨ ∃ t, O.lookup x = some t := by cases O.lookup x <;> simp
        have hset : ∀ E : SEnv, setKV E 3 (kd A) true (.int x) (.int one, ⟨false, true, true⟩) = .ok (.nx (E.set 3 (some (.own (.dic (kd (A ++ [(x, one)]))) true)))) := fun E => by
          have hn : (kd A).length < lim := by
            have : (kd A).length = A.length := by unfold kd; rw [List.length_map]
            have : lim = 1000000 := rfl
            omega
          have e : putI A x one = A ++ [(x, one)] := by
            unfold putI
            rw [if_neg]
            intro z
            rw [List.any_eq_true] at z
            obtain ⟨q, hq, hqe⟩ := z
            exact c (List.mem_map.mpr ⟨q, hq, by simpa using hqe⟩)
          show (if true ∧ (kd A).length < lim then R.ok (Fw.nx (E.set 3 (some (.own (.dic (putD (kd A) x (.int one))) (true && (true || true)))))) else .bad) = _
          rw [if_pos ⟨rfl, hn⟩, kd_put, e]
          rfl
        rcases hl with hl | ⟨t, hl⟩
        · have hO2 : x ∉ O.map (·.1) := fun z => by
            obtain ⟨q, hq, e⟩ := List.mem_map.mp z
            exact look_none.mp hl q hq e
          obtain ⟨k1, k2⟩ := B.free hxw c hl
          obtain ⟨O2, ho, hk2, hrun⟩ := r_passed (W := W) (n := n) h OW hr k1 k2 (by omega) (by omega) hkn
          refine .inr ⟨.rx 1 (.bl true) (.dic (kd O2)), ?_, rfl, O2, rfl, hk2, ho⟩
          simp only [e_var, e_con, e_glb, e_bin, e_un, e_and, e_or, e_cmp, e_chn, e_ite, e_lst, e_tup, e_dic0, e_dic, e_comp, e_call, e_bi, e_mth, e_rcv, e_att, e_idx, e_rev, e_slc, e_sort, l_nil, l_cons, i_seq, i_rng, i_rng1, i_enum, i_zip, v_shr, v_own, v_dic, g_some, o_bin, o_un, o_andT, o_andF, o_orT, o_orF, o_bol, o_cmp, o_chn, o_chT, o_chF, o_iteT, o_iteF, o_lst, o_tup, o_dic, o_cons, o_comp, o_endC, o_call, o_cl, o_clE, o_bi, o_mth, o_mth2, o_rcv, o_att, o_idx, o_rev, o_slc, o_sort, o_it, o_rng, o_rng1, o_enum, o_zip, ct_nm, ct_tp, ct_T, ct_F, ct_2, List.map_cons, List.map_nil, List.replicate, List.append_nil, List.cons_append, List.nil_append, Nat.sub_self, List.length_cons, List.length_nil, List.getElem?_cons_zero, List.getElem?_cons_succ, List.set_cons_zero, List.set_cons_succ, cmb, wipeE, if_true, if_false, Bool.not_true, Bool.not_false, Bool.false_eq_true, Bool.true_and, Bool.and_true, Bool.false_or, Bool.or_false, Bool.or_true, Bool.true_or, Bool.and_self, and_self, Bool.false_and, Bool.and_false, Int.reduceLT, Int.reduceLE, Int.reduceNeg, Nat.reduceAdd, Nat.reduceMul, Nat.reduceSub, Nat.reduceBEq, q_add, q_sub, q_mulr, q_mull, q_mod, q_fdiv, q_not, q_neg, q_lt, q_le, q_gt, q_ge, q_eqi, q_nei, q_neb, q_isb, q_t0, q_t1, q_len, q_lent, q_lens, q_list, q_listt, q_tuple, q_is1, q_is2, q_is3, q_is4, q_is5, q_is6, q_it, q_itt, q_rev, q_callT, q_calli, q_callb, imm_i, imm_b, imm_l, imm_k, imm_s, imm_n, imm_c, rcvB, fl_i, fl_b, fl_s, fl_n, fl_l, fl_t, fl_o, fl_d, iF_nil, iF_cons, iL_nil, iL_cons, imm_ints, xs_nil, xs_cons, x_asg, x_asgT, x_par, x_fld, x_ite, x_for, x_ret, x_rai, x_expr, x_pass, x_clr, x_app, x_pop, x_set, s_nx, s_rt, s_exc, lk_nil, lk_end, lk_cons, List.contains_cons, List.contains_nil, sl_L, sl_K, sl_O, sl_V, sl_F, it_V, it_r1, it_r2, it_e, it_z, w_L, w_Lk, w_Ls, w_K, w_Kl, w_O, w_V, w_Vk, w_Vs, w_F, w_Fk, w_Fs, w_Fo, w_Fn, w_it, w_itn, a_asg, a_asgE, a_nx, a_asgT, a_par, a_retO, a_retS, a_retN, a_ret, a_retE, a_app, a_clr, a_set, a_setK, a_expr, a_exprE, a_iteT, a_iteF, a_iteE, a_for, a_forO, a_forN, t_nm, t_tp, fo_shr, fo_lst, fo_dic, fo_no, en_rt, en_nx, en_exc, frz, esc, esc.escs, esc.escb, escI, tgSlots, putL, putS, D.isL, ownV, q_asg, q_asgb, q_asgt, q_asgo, q_asgl, q_asgk, q_pop0, q_nm, q_tp, x_asgD, x_mut, x_forM, x_retT, x_retX, x_callX, x_iteX, x_X, x_X0, x_Xf, x_Xm, a_mxR, a_mxR1, a_evXR, a_callXR, a_iteXR, a_asgDR, a_retTR, a_mut, a_mut2, a_mutA, a_mutC, a_mutR, a_mutS, a_setR2, a_appR2, a_remR, te_im, e_bor, e_keq, o_keq, bor_nil, bor_cons, bs_dep, bs_shr, bs_own, bs_no, dp_dep, w_Ld, w_Kd, w_Fd, fo_dep, p_nil, s_rx, en_Xrx, ok_nox, a_mut1S, a_mut1A, a_mut1R, a_mut1C, a_retXn, a_retXb, a_retXi, a_safeb, a_safei, te_comp, te_lst, te_call, ts_nil, ts_cons, a_consT, a_callT, a_clT, a_compT, a_endCT, cT_nm, cT_tp, cT_T, cT_F, hin, hin2, c, hO2, decide_false, hset]
          rw [a_fxR (by rfl)]
          simp only [e_var, e_con, e_glb, e_bin, e_un, e_and, e_or, e_cmp, e_chn, e_ite, e_lst, e_tup, e_dic0, e_dic, e_comp, e_call, e_bi, e_mth, e_rcv, e_att, e_idx, e_rev, e_slc, e_sort, l_nil, l_cons, i_seq, i_rng, i_rng1, i_enum, i_zip, v_shr, v_own, v_dic, g_some, o_bin, o_un, o_andT, o_andF, o_orT, o_orF, o_bol, o_cmp, o_chn, o_chT, o_chF, o_iteT, o_iteF, o_lst, o_tup, o_dic, o_cons, o_comp, o_endC, o_call, o_cl, o_clE, o_bi, o_mth, o_mth2, o_rcv, o_att, o_idx, o_rev, o_slc, o_sort, o_it, o_rng, o_rng1, o_enum, o_zip, ct_nm, ct_tp, ct_T, ct_F, ct_2, List.map_cons, List.map_nil, List.replicate, List.append_nil, List.cons_append, List.nil_append, Nat.sub_self, List.length_cons, List.length_nil, List.getElem?_cons_zero, List.getElem?_cons_succ, List.set_cons_zero, List.set_cons_succ, cmb, wipeE, if_true, if_false, Bool.not_true, Bool.not_false, Bool.false_eq_true, Bool.true_and, Bool.and_true, Bool.false_or, Bool.or_false, Bool.or_true, Bool.true_or, Bool.and_self, and_self, Bool.false_and, Bool.and_false, Int.reduceLT, Int.reduceLE, Int.reduceNeg, Nat.reduceAdd, Nat.reduceMul, Nat.reduceSub, Nat.reduceBEq, q_add, q_sub, q_mulr, q_mull, q_mod, q_fdiv, q_not, q_neg, q_lt, q_le, q_gt, q_ge, q_eqi, q_nei, q_neb, q_isb, q_t0, q_t1, q_len, q_lent, q_lens, q_list, q_listt, q_tuple, q_is1, q_is2, q_is3, q_is4, q_is5, q_is6, q_it, q_itt, q_rev, q_callT, q_calli, q_callb, imm_i, imm_b, imm_l, imm_k, imm_s, imm_n, imm_c, rcvB, fl_i, fl_b, fl_s, fl_n, fl_l, fl_t, fl_o, fl_d, iF_nil, iF_cons, iL_nil, iL_cons, imm_ints, xs_nil, xs_cons, x_asg, x_asgT, x_par, x_fld, x_ite, x_for, x_ret, x_rai, x_expr, x_pass, x_clr, x_app, x_pop, x_set, s_nx, s_rt, s_exc, lk_nil, lk_end, lk_cons, List.contains_cons, List.contains_nil, sl_L, sl_K, sl_O, sl_V, sl_F, it_V, it_r1, it_r2, it_e, it_z, w_L, w_Lk, w_Ls, w_K, w_Kl, w_O, w_V, w_Vk, w_Vs, w_F, w_Fk, w_Fs, w_Fo, w_Fn, w_it, w_itn, a_asg, a_asgE, a_nx, a_asgT, a_par, a_retO, a_retS, a_retN, a_ret, a_retE, a_app, a_clr, a_set, a_setK, a_expr, a_exprE, a_iteT, a_iteF, a_iteE, a_for, a_forO, a_forN, t_nm, t_tp, fo_shr, fo_lst, fo_dic, fo_no, en_rt, en_nx, en_exc, frz, esc, esc.escs, esc.escb, escI, tgSlots, putL, putS, D.isL, ownV, q_asg, q_asgb, q_asgt, q_asgo, q_asgl, q_asgk, q_pop0, q_nm, q_tp, x_asgD, x_mut, x_forM, x_retT, x_retX, x_callX, x_iteX, x_X, x_X0, x_Xf, x_Xm, a_mxR, a_mxR1, a_evXR, a_callXR, a_iteXR, a_asgDR, a_retTR, a_mut, a_mut2, a_mutA, a_mutC, a_mutR, a_mutS, a_setR2, a_appR2, a_remR, te_im, e_bor, e_keq, o_keq, bor_nil, bor_cons, bs_dep, bs_shr, bs_own, bs_no, dp_dep, w_Ld, w_Kd, w_Fd, fo_dep, p_nil, s_rx, en_Xrx, ok_nox, a_mut1S, a_mut1A, a_mut1R, a_mut1C, a_retXn, a_retXb, a_retXi, a_safeb, a_safei, te_comp, te_lst, te_call, ts_nil, ts_cons, a_consT, a_callT, a_clT, a_compT, a_endCT, cT_nm, cT_tp, cT_T, cT_F, hrun]
        · have hO2 : x ∈ O.map (·.1) := List.mem_map.mpr ⟨_, look_some hl, rfl⟩
          refine .inl ⟨_, ?_, A ++ [(x, one)], Wt ++ [t], some (.shr (.int x) true), B.push hxw c hl, fun p hp' => ?_, rfl⟩
          · have hix : ∀ f, idxV (.dic (kd O), f) (.int x, ⟨false, true, true⟩) = .ok (.int t, ⟨false, true, true⟩) := fun f => by
              show (match (kd O).lookup x with
                | some d => R.ok (mkE d f.n)
                | none => .bad) = _
              rw [kd_look, hl]
              show R.ok (D.int t, ({ r := false, n := f.n || D.imm (.int t), c := true } : Fl)) = _
              rw [imm_i, Bool.or_true]
            have hWl : (Wt.map D.int).length < lim := by
              obtain ⟨vn, vs⟩ := B.nodup OW hr
              have := nodup_len vn vs
              rw [B.vq] at this
              simp at this
              have : lim = 1000000 := rfl
              rw [List.length_map]
              omega
            simp only [e_var, e_con, e_glb, e_bin, e_un, e_and, e_or, e_cmp, e_chn, e_ite, e_lst, e_tup, e_dic0, e_dic, e_comp, e_call, e_bi, e_mth, e_rcv, e_att, e_idx, e_rev, e_slc, e_sort, l_nil, l_cons, i_seq, i_rng, i_rng1, i_enum, i_zip, v_shr, v_own, v_dic, g_some, o_bin, o_un, o_andT, o_andF, o_orT, o_orF, o_bol, o_cmp, o_chn, o_chT, o_chF, o_iteT, o_iteF, o_lst, o_tup, o_dic, o_cons, o_comp, o_endC, o_call, o_cl, o_clE, o_bi, o_mth, o_mth2, o_rcv, o_att, o_idx, o_rev, o_slc, o_sort, o_it, o_rng, o_rng1, o_enum, o_zip, ct_nm, ct_tp, ct_T, ct_F, ct_2, List.map_cons, List.map_nil, List.replicate, List.append_nil, List.cons_append, List.nil_append, Nat.sub_self, List.length_cons, List.length_nil, List.getElem?_cons_zero, List.getElem?_cons_succ, List.set_cons_zero, List.set_cons_succ, cmb, wipeE, if_true, if_false, Bool.not_true, Bool.not_false, Bool.false_eq_true, Bool.true_and, Bool.and_true, Bool.false_or, Bool.or_false, Bool.or_true, Bool.true_or, Bool.and_self, and_self, Bool.false_and, Bool.and_false, Int.reduceLT, Int.reduceLE, Int.reduceNeg, Nat.reduceAdd, Nat.reduceMul, Nat.reduceSub, Nat.reduceBEq, q_add, q_sub, q_mulr, q_mull, q_mod, q_fdiv, q_not, q_neg, q_lt, q_le, q_gt, q_ge, q_eqi, q_nei, q_neb, q_isb, q_t0, q_t1, q_len, q_lent, q_lens, q_list, q_listt, q_tuple, q_is1, q_is2, q_is3, q_is4, q_is5, q_is6, q_it, q_itt, q_rev, q_callT, q_calli, q_callb, imm_i, imm_b, imm_l, imm_k, imm_s, imm_n, imm_c, rcvB, fl_i, fl_b, fl_s, fl_n, fl_l, fl_t, fl_o, fl_d, iF_nil, iF_cons, iL_nil, iL_cons, imm_ints, xs_nil, xs_cons, x_asg, x_asgT, x_par, x_fld, x_ite, x_for, x_ret, x_rai, x_expr, x_pass, x_clr, x_app, x_pop, x_set, s_nx, s_rt, s_exc, lk_nil, lk_end, lk_cons, List.contains_cons, List.contains_nil, sl_L, sl_K, sl_O, sl_V, sl_F, it_V, it_r1, it_r2, it_e, it_z, w_L, w_Lk, w_Ls, w_K, w_Kl, w_O, w_V, w_Vk, w_Vs, w_F, w_Fk, w_Fs, w_Fo, w_Fn, w_it, w_itn, a_asg, a_asgE, a_nx, a_asgT, a_par, a_retO, a_retS, a_retN, a_ret, a_retE, a_app, a_clr, a_set, a_setK, a_expr, a_exprE, a_iteT, a_iteF, a_iteE, a_for, a_forO, a_forN, t_nm, t_tp, fo_shr, fo_lst, fo_dic, fo_no, en_rt, en_nx, en_exc, frz, esc, esc.escs, esc.escb, escI, tgSlots, putL, putS, D.isL, ownV, q_asg, q_asgb, q_asgt, q_asgo, q_asgl, q_asgk, q_pop0, q_nm, q_tp, x_asgD, x_mut, x_forM, x_retT, x_retX, x_callX, x_iteX, x_X, x_X0, x_Xf, x_Xm, a_mxR, a_mxR1, a_evXR, a_callXR, a_iteXR, a_asgDR, a_retTR, a_mut, a_mut2, a_mutA, a_mutC, a_mutR, a_mutS, a_setR2, a_appR2, a_remR, te_im, e_bor, e_keq, o_keq, bor_nil, bor_cons, bs_dep, bs_shr, bs_own, bs_no, dp_dep, w_Ld, w_Kd, w_Fd, fo_dep, p_nil, s_rx, en_Xrx, ok_nox, a_mut1S, a_mut1A, a_mut1R, a_mut1C, a_retXn, a_retXb, a_retXi, a_safeb, a_safei, te_comp, te_lst, te_call, ts_nil, ts_cons, a_consT, a_callT, a_clT, a_compT, a_endCT, cT_nm, cT_tp, cT_T, cT_F, hin, hin2, c, hO2, decide_false, decide_true, hset, hix]
            rw [q_app hWl]
            simp only [e_var, e_con, e_glb, e_bin, e_un, e_and, e_or, e_cmp, e_chn, e_ite, e_lst, e_tup, e_dic0, e_dic, e_comp, e_call, e_bi, e_mth, e_rcv, e_att, e_idx, e_rev, e_slc, e_sort, l_nil, l_cons, i_seq, i_rng, i_rng1, i_enum, i_zip, v_shr, v_own, v_dic, g_some, o_bin, o_un, o_andT, o_andF, o_orT, o_orF, o_bol, o_cmp, o_chn, o_chT, o_chF, o_iteT, o_iteF, o_lst, o_tup, o_dic, o_cons, o_comp, o_endC, o_call, o_cl, o_clE, o_bi, o_mth, o_mth2, o_rcv, o_att, o_idx, o_rev, o_slc, o_sort, o_it, o_rng, o_rng1, o_enum, o_zip, ct_nm, ct_tp, ct_T, ct_F, ct_2, List.map_cons, List.map_nil, List.replicate, List.append_nil, List.cons_append, List.nil_append, Nat.sub_self, List.length_cons, List.length_nil, List.getElem?_cons_zero, List.getElem?_cons_succ, List.set_cons_zero, List.set_cons_succ, cmb, wipeE, if_true, if_false, Bool.not_true, Bool.not_false, Bool.false_eq_true, Bool.true_and, Bool.and_true, Bool.false_or, Bool.or_false, Bool.or_true, Bool.true_or, Bool.and_self, and_self, Bool.false_and, Bool.and_false, Int.reduceLT, Int.reduceLE, Int.reduceNeg, Nat.reduceAdd, Nat.reduceMul, Nat.reduceSub, Nat.reduceBEq, q_add, q_sub, q_mulr, q_mull, q_mod, q_fdiv, q_not, q_neg, q_lt, q_le, q_gt, q_ge, q_eqi, q_nei, q_neb, q_isb, q_t0, q_t1, q_len, q_lent, q_lens, q_list, q_listt, q_tuple, q_is1, q_is2, q_is3, q_is4, q_is5, q_is6, q_it, q_itt, q_rev, q_callT, q_calli, q_callb, imm_i, imm_b, imm_l, imm_k, imm_s, imm_n, imm_c, rcvB, fl_i, fl_b, fl_s, fl_n, fl_l, fl_t, fl_o, fl_d, iF_nil, iF_cons, iL_nil, iL_cons, imm_ints, xs_nil, xs_cons, x_asg, x_asgT, x_par, x_fld, x_ite, x_for, x_ret, x_rai, x_expr, x_pass, x_clr, x_app, x_pop, x_set, s_nx, s_rt, s_exc, lk_nil, lk_end, lk_cons, List.contains_cons, List.contains_nil, sl_L, sl_K, sl_O, sl_V, sl_F, it_V, it_r1, it_r2, it_e, it_z, w_L, w_Lk, w_Ls, w_K, w_Kl, w_O, w_V, w_Vk, w_Vs, w_F, w_Fk, w_Fs, w_Fo, w_Fn, w_it, w_itn, a_asg, a_asgE, a_nx, a_asgT, a_par, a_retO, a_retS, a_retN, a_ret, a_retE, a_app, a_clr, a_set, a_setK, a_expr, a_exprE, a_iteT, a_iteF, a_iteE, a_for, a_forO, a_forN, t_nm, t_tp, fo_shr, fo_lst, fo_dic, fo_no, en_rt, en_nx, en_exc, frz, esc, esc.escs, esc.escb, escI, tgSlots, putL, putS, D.isL, ownV, q_asg, q_asgb, q_asgt, q_asgo, q_asgl, q_asgk, q_pop0, q_nm, q_tp, x_asgD, x_mut, x_forM, x_retT, x_retX, x_callX, x_iteX, x_X, x_X0, x_Xf, x_Xm, a_mxR, a_mxR1, a_evXR, a_callXR, a_iteXR, a_asgDR, a_retTR, a_mut, a_mut2, a_mutA, a_mutC, a_mutR, a_mutS, a_setR2, a_appR2, a_remR, te_im, e_bor, e_keq, o_keq, bor_nil, bor_cons, bs_dep, bs_shr, bs_own, bs_no, dp_dep, w_Ld, w_Kd, w_Fd, fo_dep, p_nil, s_rx, en_Xrx, ok_nox, a_mut1S, a_mut1A, a_mut1R, a_mut1C, a_retXn, a_retXb, a_retXi, a_safeb, a_safei, te_comp, te_lst, te_call, ts_nil, ts_cons, a_consT, a_callT, a_clT, a_compT, a_endCT, cT_nm, cT_tp, cT_T, cT_F]
            rw [List.map_append]
            rfl
          · rcases List.mem_append.mp hp' with h | h
            · simp [hp p h]
            · rw [List.mem_singleton] at h; subst h; simp) with ⟨E', e, A, Wt, s6, B, hp, hE⟩ | ⟨q, e, _, O2, hq, hk2, hO2⟩
    · have hpl : proc.length < 40 := by
        have := nodup_len vn vs
        rw [B0.vq] at this
        simp at this
        omega
      subst e
      subst hE
      exact .inl ⟨_, 40 - (proc ++ [one]).length, by simp only [s_nx, xs_nil]; rfl, by simp; omega, A, proc ++ [one], Wt, _, _, B.next hp, rfl, rfl⟩
    · subst e
      subst hq
      exact .inr ⟨_, by simp only [s_rx]; rfl, rfl, true, O2, by simp only [e_var, e_con, e_glb, e_bin, e_un, e_and, e_or, e_cmp, e_chn, e_ite, e_lst, e_tup, e_dic0, e_dic, e_comp, e_call, e_bi, e_mth, e_rcv, e_att, e_idx, e_rev, e_slc, e_sort, l_nil, l_cons, i_seq, i_rng, i_rng1, i_enum, i_zip, v_shr, v_own, v_dic, g_some, o_bin, o_un, o_andT, o_andF, o_orT, o_orF, o_bol, o_cmp, o_chn, o_chT, o_chF, o_iteT, o_iteF, o_lst, o_tup, o_dic, o_cons, o_comp, o_endC, o_call, o_cl, o_clE, o_bi, o_mth, o_mth2, o_rcv, o_att, o_idx, o_rev, o_slc, o_sort, o_it, o_rng, o_rng1, o_enum, o_zip, ct_nm, ct_tp, ct_T, ct_F, ct_2, List.map_cons, List.map_nil, List.replicate, List.append_nil, List.cons_append, List.nil_append, Nat.sub_self, List.length_cons, List.length_nil, List.getElem?_cons_zero, List.getElem?_cons_succ, List.set_cons_zero, List.set_cons_succ, cmb, wipeE, if_true, if_false, Bool.not_true, Bool.not_false, Bool.false_eq_true, Bool.true_and, Bool.and_true, Bool.false_or, Bool.or_false, Bool.or_true, Bool.true_or, Bool.and_self, and_self, Bool.false_and, Bool.and_false, Int.reduceLT, Int.reduceLE, Int.reduceNeg, Nat.reduceAdd, Nat.reduceMul, Nat.reduceSub, Nat.reduceBEq, q_add, q_sub, q_mulr, q_mull, q_mod, q_fdiv, q_not, q_neg, q_lt, q_le, q_gt, q_ge, q_eqi, q_nei, q_neb, q_isb, q_t0, q_t1, q_len, q_lent, q_lens, q_list, q_listt, q_tuple, q_is1, q_is2, q_is3, q_is4, q_is5, q_is6, q_it, q_itt, q_rev, q_callT, q_calli, q_callb, imm_i, imm_b, imm_l, imm_k, imm_s, imm_n, imm_c, rcvB, fl_i, fl_b, fl_s, fl_n, fl_l, fl_t, fl_o, fl_d, iF_nil, iF_cons, iL_nil, iL_cons, imm_ints, xs_nil, xs_cons, x_asg, x_asgT, x_par, x_fld, x_ite, x_for, x_ret, x_rai, x_expr, x_pass, x_clr, x_app, x_pop, x_set, s_nx, s_rt, s_exc, lk_nil, lk_end, lk_cons, List.contains_cons, List.contains_nil, sl_L, sl_K, sl_O, sl_V, sl_F, it_V, it_r1, it_r2, it_e, it_z, w_L, w_Lk, w_Ls, w_K, w_Kl, w_O, w_V, w_Vk, w_Vs, w_F, w_Fk, w_Fs, w_Fo, w_Fn, w_it, w_itn, a_asg, a_asgE, a_nx, a_asgT, a_par, a_retO, a_retS, a_retN, a_ret, a_retE, a_app, a_clr, a_set, a_setK, a_expr, a_exprE, a_iteT, a_iteF, a_iteE, a_for, a_forO, a_forN, t_nm, t_tp, fo_shr, fo_lst, fo_dic, fo_no, en_rt, en_nx, en_exc, frz, esc, esc.escs, esc.escb, escI, tgSlots, putL, putS, D.isL, ownV, q_asg, q_asgb, q_asgt, q_asgo, q_asgl, q_asgk, q_pop0, q_nm, q_tp, x_asgD, x_mut, x_forM, x_retT, x_retX, x_callX, x_iteX, x_X, x_X0, x_Xf, x_Xm, a_mxR, a_mxR1, a_evXR, a_callXR, a_iteXR, a_asgDR, a_retTR, a_mut, a_mut2, a_mutA, a_mutC, a_mutR, a_mutS, a_setR2, a_appR2, a_remR, te_im, e_bor, e_keq, o_keq, bor_nil, bor_cons, bs_dep, bs_shr, bs_own, bs_no, dp_dep, w_Ld, w_Kd, w_Fd, fo_dep, p_nil, s_rx, en_Xrx, ok_nox, a_mut1S, a_mut1A, a_mut1R, a_mut1C, a_retXn, a_retXb, a_retXi, a_safeb, a_safei, te_comp, te_lst, te_call, ts_nil, ts_cons, a_consT, a_callT, a_clT, a_compT, a_endCT, cT_nm, cT_tp, cT_T, cT_F], hk2, fun _ => hO2, fun z => nomatch z⟩
end
end FS

/-! RP3: posts, run by hand: a set stands, a rule is made, the law's ways. -/
namespace FS
open PySem L2 FS.Post
def wtsT (ws : List (List Int)) : List D := ws.map fun l => .tup (l.map .int)
def wtsL (ws : List (List Int)) : List D := ws.map fun l => .lst (l.map .int)
def pflds (ws : List (List Int)) : List (Str × D) := [("size", .int ws.length), ("wants", .tup (wtsT ws))]
/-- what a thing wants -/
def wof (ws : List (List Int)) (t : Int) : List Int := ws.getD t.toNat []
open Classical in
noncomputable def sdrB (ws : List (List Int)) (ks : List Nat) : Bool := decide (SDR (wof ws) (ks.map fun k : Nat => (k : Int)))
open Classical in
theorem sdrB_iff {ws : List (List Int)} {ks : List Nat} : sdrB ws ks = true ↔ SDR (wof ws) (ks.map fun k : Nat => (k : Int)) := by
  unfold sdrB
  rw [decide_eq_true_eq]
theorem mem_nat {k : Nat} {ks : List Nat} : (k : Int) ∈ ks.map (fun k : Nat => (k : Int)) ↔ k ∈ ks := by
  rw [List.mem_map]
  exact ⟨fun ⟨a, h, e⟩ => (Int.ofNat.inj e) ▸ h, fun h => ⟨k, h, rfl⟩⟩
theorem sdr_mono {w : Int → List Int} {S S' : List Int} (h : ∀ t ∈ S', t ∈ S) (k : SDR w S) : SDR w S' := by
  obtain ⟨m, h1, h2⟩ := k
  exact ⟨m, fun t ht => h1 t (h t ht), fun t ht u hu => h2 t (h t ht) u (h u hu)⟩
section
variable {T : Tb} {W n : Nat}
theorem wof_nat {ws : List (List Int)} {k : Nat} (h : k < ws.length) : ws[k]? = some (wof ws (k : Int)) := by
  unfold wof
  rw [Int.toNat_natCast, List.getD_eq_getElem?_getD, List.getElem?_eq_getElem h]
  rfl
theorem r_pStands (h : PP T) (hW : 100 ≤ W) (ws : List (List Int)) (ks : List Nat) (hn : ks.Nodup) (hl : ks.length ≤ 20) (hk : ∀ k ∈ ks, k < ws.length) : run T W (n + 3) (.me "Posts" "stands") [.obj "Posts" (pflds ws), .lst (natD ks)] = .ok (.bl (sdrB ws ks), true) := by
  rw [run_me h.stands rfl]
  simp only [P.m_Posts_stands, startE, e_var, e_con, e_glb, e_bin, e_un, e_and, e_or, e_cmp, e_chn, e_ite, e_lst, e_tup, e_dic0, e_dic, e_comp, e_call, e_bi, e_mth, e_rcv, e_att, e_idx, e_rev, e_slc, e_sort, l_nil, l_cons, i_seq, i_rng, i_rng1, i_enum, i_zip, v_shr, v_own, v_dic, g_some, o_bin, o_un, o_andT, o_andF, o_orT, o_orF, o_bol, o_cmp, o_chn, o_chT, o_chF, o_iteT, o_iteF, o_lst, o_tup, o_dic, o_cons, o_comp, o_endC, o_call, o_cl, o_clE, o_bi, o_mth, o_mth2, o_rcv, o_att, o_idx, o_rev, o_slc, o_sort, o_it, o_rng, o_rng1, o_enum, o_zip, ct_nm, ct_tp, ct_T, ct_F, ct_2, List.map_cons, List.map_nil, List.replicate, List.append_nil, List.cons_append, List.nil_append, Nat.sub_self, List.length_cons, List.length_nil, List.getElem?_cons_zero, List.getElem?_cons_succ, List.set_cons_zero, List.set_cons_succ, cmb, wipeE, if_true, if_false, Bool.not_true, Bool.not_false, Bool.false_eq_true, Bool.true_and, Bool.and_true, Bool.false_or, Bool.or_false, Bool.or_true, Bool.true_or, Bool.and_self, and_self, Bool.false_and, Bool.and_false, Int.reduceLT, Int.reduceLE, Int.reduceNeg, Nat.reduceAdd, Nat.reduceMul, Nat.reduceSub, Nat.reduceBEq, q_add, q_sub, q_mulr, q_mull, q_mod, q_fdiv, q_not, q_neg, q_lt, q_le, q_gt, q_ge, q_eqi, q_nei, q_neb, q_isb, q_t0, q_t1, q_len, q_lent, q_lens, q_list, q_listt, q_tuple, q_is1, q_is2, q_is3, q_is4, q_is5, q_is6, q_it, q_itt, q_rev, q_callT, q_calli, q_callb, imm_i, imm_b, imm_l, imm_k, imm_s, imm_n, imm_c, rcvB, fl_i, fl_b, fl_s, fl_n, fl_l, fl_t, fl_o, fl_d, iF_nil, iF_cons, iL_nil, iL_cons, imm_ints, xs_nil, xs_cons, x_asg, x_asgT, x_par, x_fld, x_ite, x_for, x_ret, x_rai, x_expr, x_pass, x_clr, x_app, x_pop, x_set, s_nx, s_rt, s_exc, lk_nil, lk_end, lk_cons, List.contains_cons, List.contains_nil, sl_L, sl_K, sl_O, sl_V, sl_F, it_V, it_r1, it_r2, it_e, it_z, w_L, w_Lk, w_Ls, w_K, w_Kl, w_O, w_V, w_Vk, w_Vs, w_F, w_Fk, w_Fs, w_Fo, w_Fn, w_it, w_itn, a_asg, a_asgE, a_nx, a_asgT, a_par, a_retO, a_retS, a_retN, a_ret, a_retE, a_app, a_clr, a_set, a_setK, a_expr, a_exprE, a_iteT, a_iteF, a_iteE, a_for, a_forO, a_forN, t_nm, t_tp, fo_shr, fo_lst, fo_dic, fo_no, en_rt, en_nx, en_exc, frz, esc, esc.escs, esc.escb, escI, tgSlots, putL, putS, D.isL, ownV, q_asg, q_asgb, q_asgt, q_asgo, q_asgl, q_asgk, q_pop0, q_nm, q_tp, x_asgD, x_mut, x_forM, x_retT, x_retX, x_callX, x_iteX, x_X, x_X0, x_Xf, x_Xm, a_mxR, a_mxR1, a_evXR, a_callXR, a_iteXR, a_asgDR, a_retTR, a_mut, a_mut2, a_mutA, a_mutC, a_mutR, a_mutS, a_setR2, a_appR2, a_remR, te_im, e_bor, e_keq, o_keq, bor_nil, bor_cons, bs_dep, bs_shr, bs_own, bs_no, dp_dep, w_Ld, w_Kd, w_Fd, fo_dep, p_nil, s_rx, en_Xrx, ok_nox, a_mut1S, a_mut1A, a_mut1R, a_mut1C, a_retXn, a_retXb, a_retXi, a_safeb, a_safei, te_comp, te_lst, te_call, ts_nil, ts_cons, a_consT, a_callT, a_clT, a_compT, a_endCT, cT_nm, cT_tp, cT_T, cT_F]
  rw [show safeR (R.ok (D.dic [], ⟨true, true, true⟩)) = .ok (D.dic (kd [])) from rfl]
  simp only [e_var, e_con, e_glb, e_bin, e_un, e_and, e_or, e_cmp, e_chn, e_ite, e_lst, e_tup, e_dic0, e_dic, e_comp, e_call, e_bi, e_mth, e_rcv, e_att, e_idx, e_rev, e_slc, e_sort, l_nil, l_cons, i_seq, i_rng, i_rng1, i_enum, i_zip, v_shr, v_own, v_dic, g_some, o_bin, o_un, o_andT, o_andF, o_orT, o_orF, o_bol, o_cmp, o_chn, o_chT, o_chF, o_iteT, o_iteF, o_lst, o_tup, o_dic, o_cons, o_comp, o_endC, o_call, o_cl, o_clE, o_bi, o_mth, o_mth2, o_rcv, o_att, o_idx, o_rev, o_slc, o_sort, o_it, o_rng, o_rng1, o_enum, o_zip, ct_nm, ct_tp, ct_T, ct_F, ct_2, List.map_cons, List.map_nil, List.replicate, List.append_nil, List.cons_append, List.nil_append, Nat.sub_self, List.length_cons, List.length_nil, List.getElem?_cons_zero, List.getElem?_cons_succ, List.set_cons_zero, List.set_cons_succ, cmb, wipeE, if_true, if_false, Bool.not_true, Bool.not_false, Bool.false_eq_true, Bool.true_and, Bool.and_true, Bool.false_or, Bool.or_false, Bool.or_true, Bool.true_or, Bool.and_self, and_self, Bool.false_and, Bool.and_false, Int.reduceLT, Int.reduceLE, Int.reduceNeg, Nat.reduceAdd, Nat.reduceMul, Nat.reduceSub, Nat.reduceBEq, q_add, q_sub, q_mulr, q_mull, q_mod, q_fdiv, q_not, q_neg, q_lt, q_le, q_gt, q_ge, q_eqi, q_nei, q_neb, q_isb, q_t0, q_t1, q_len, q_lent, q_lens, q_list, q_listt, q_tuple, q_is1, q_is2, q_is3, q_is4, q_is5, q_is6, q_it, q_itt, q_rev, q_callT, q_calli, q_callb, imm_i, imm_b, imm_l, imm_k, imm_s, imm_n, imm_c, rcvB, fl_i, fl_b, fl_s, fl_n, fl_l, fl_t, fl_o, fl_d, iF_nil, iF_cons, iL_nil, iL_cons, imm_ints, xs_nil, xs_cons, x_asg, x_asgT, x_par, x_fld, x_ite, x_for, x_ret, x_rai, x_expr, x_pass, x_clr, x_app, x_pop, x_set, s_nx, s_rt, s_exc, lk_nil, lk_end, lk_cons, List.contains_cons, List.contains_nil, sl_L, sl_K, sl_O, sl_V, sl_F, it_V, it_r1, it_r2, it_e, it_z, w_L, w_Lk, w_Ls, w_K, w_Kl, w_O, w_V, w_Vk, w_Vs, w_F, w_Fk, w_Fs, w_Fo, w_Fn, w_it, w_itn, a_asg, a_asgE, a_nx, a_asgT, a_par, a_retO, a_retS, a_retN, a_ret, a_retE, a_app, a_clr, a_set, a_setK, a_expr, a_exprE, a_iteT, a_iteF, a_iteE, a_for, a_forO, a_forN, t_nm, t_tp, fo_shr, fo_lst, fo_dic, fo_no, en_rt, en_nx, en_exc, frz, esc, esc.escs, esc.escb, escI, tgSlots, putL, putS, D.isL, ownV, q_asg, q_asgb, q_asgt, q_asgo, q_asgl, q_asgk, q_pop0, q_nm, q_tp, x_asgD, x_mut, x_forM, x_retT, x_retX, x_callX, x_iteX, x_X, x_X0, x_Xf, x_Xm, a_mxR, a_mxR1, a_evXR, a_callXR, a_iteXR, a_asgDR, a_retTR, a_mut, a_mut2, a_mutA, a_mutC, a_mutR, a_mutS, a_setR2, a_appR2, a_remR, te_im, e_bor, e_keq, o_keq, bor_nil, bor_cons, bs_dep, bs_shr, bs_own, bs_no, dp_dep, w_Ld, w_Kd, w_Fd, fo_dep, p_nil, s_rx, en_Xrx, ok_nox, a_mut1S, a_mut1A, a_mut1R, a_mut1C, a_retXn, a_retXb, a_retXi, a_safeb, a_safei, te_comp, te_lst, te_call, ts_nil, ts_cons, a_consT, a_callT, a_clT, a_compT, a_endCT, cT_nm, cT_tp, cT_T, cT_F]
  generalize hz : loopV _ _ _ _ _ _ _ _ _ = z
  have hm : mthC T "given" (.obj "Posts" (pflds ws)) = .ok "Posts" := mth_ok rfl h.mro
  rcases loop_fz (xs := ks) (g := fun k : Nat => .int (k : Int)) hz rfl (fun pre r E => ∃ O s3, Own (wof ws) O (pre.reverse.map fun k : Nat => (k : Int)) ∧ (O.map (·.1)).Nodup ∧ E = [some (.shr (.obj "Posts" (pflds ws)) false), some (.shr (.lst (natD ks)) false), some (.dep (.dic (kd O))), s3]) (fun q => q = .rt (.bl false) true ∧ sdrB ws ks = false) ⟨[], none, ⟨by simp, by simp, by simp⟩, by simp, rfl⟩ (by
    rintro pre k r E he ⟨O, s3, OW, hkn, rfl⟩
    have hpl : pre.length < 20 := by rw [← he] at hl; simp at hl; omega
    have hkp : (k : Int) ∉ (pre.reverse.map fun k : Nat => (k : Int)) := fun z => by
      rw [← he, List.nodup_append] at hn
      obtain ⟨k', hk', e⟩ := List.mem_map.mp z
      have e : k' = k := Int.ofNat.inj e
      exact hn.2.2 k' (by simpa using hk') k (by simp) e
    have hOl := own_len OW hkn
    rw [List.length_map, List.length_reverse] at hOl
    obtain ⟨b, O2, hrun, hk2, h1, h2⟩ := r_given (W := W) (n := n) h OW hkp (by rw [List.length_map, List.length_reverse]; omega) hW (by omega) hkn ws (pflds ws) rfl rfl (fun t ht => by
      rcases List.mem_cons.mp ht with rfl | ht
      · exact ⟨k, rfl, wof_nat (hk k (by rw [← he]; simp))⟩
      · obtain ⟨k', hk', rfl⟩ := List.mem_map.mp ht
        exact ⟨k', rfl, wof_nat (hk k' (by rw [← he]; simp at hk'; simp [hk']))⟩)
    simp only [e_var, e_con, e_glb, e_bin, e_un, e_and, e_or, e_cmp, e_chn, e_ite, e_lst, e_tup, e_dic0, e_dic, e_comp, e_call, e_bi, e_mth, e_rcv, e_att, e_idx, e_rev, e_slc, e_sort, l_nil, l_cons, i_seq, i_rng, i_rng1, i_enum, i_zip, v_shr, v_own, v_dic, g_some, o_bin, o_un, o_andT, o_andF, o_orT, o_orF, o_bol, o_cmp, o_chn, o_chT, o_chF, o_iteT, o_iteF, o_lst, o_tup, o_dic, o_cons, o_comp, o_endC, o_call, o_cl, o_clE, o_bi, o_mth, o_mth2, o_rcv, o_att, o_idx, o_rev, o_slc, o_sort, o_it, o_rng, o_rng1, o_enum, o_zip, ct_nm, ct_tp, ct_T, ct_F, ct_2, List.map_cons, List.map_nil, List.replicate, List.append_nil, List.cons_append, List.nil_append, Nat.sub_self, List.length_cons, List.length_nil, List.getElem?_cons_zero, List.getElem?_cons_succ, List.set_cons_zero, List.set_cons_succ, cmb, wipeE, if_true, if_false, Bool.not_true, Bool.not_false, Bool.false_eq_true, Bool.true_and, Bool.and_true, Bool.false_or, Bool.or_false, Bool.or_true, Bool.true_or, Bool.and_self, and_self, Bool.false_and, Bool.and_false, Int.reduceLT, Int.reduceLE, Int.reduceNeg, Nat.reduceAdd, Nat.reduceMul, Nat.reduceSub, Nat.reduceBEq, q_add, q_sub, q_mulr, q_mull, q_mod, q_fdiv, q_not, q_neg, q_lt, q_le, q_gt, q_ge, q_eqi, q_nei, q_neb, q_isb, q_t0, q_t1, q_len, q_lent, q_lens, q_list, q_listt, q_tuple, q_is1, q_is2, q_is3, q_is4, q_is5, q_is6, q_it, q_itt, q_rev, q_callT, q_calli, q_callb, imm_i, imm_b, imm_l, imm_k, imm_s, imm_n, imm_c, rcvB, fl_i, fl_b, fl_s, fl_n, fl_l, fl_t, fl_o, fl_d, iF_nil, iF_cons, iL_nil, iL_cons, imm_ints, xs_nil, xs_cons, x_asg, x_asgT, x_par, x_fld, x_ite, x_for, x_ret, x_rai, x_expr, x_pass, x_clr, x_app, x_pop, x_set, s_nx, s_rt, s_exc, lk_nil, lk_end, lk_cons, List.contains_cons, List.contains_nil, sl_L, sl_K, sl_O, sl_V, sl_F, it_V, it_r1, it_r2, it_e, it_z, w_L, w_Lk, w_Ls, w_K, w_Kl, w_O, w_V, w_Vk, w_Vs, w_F, w_Fk, w_Fs, w_Fo, w_Fn, w_it, w_itn, a_asg, a_asgE, a_nx, a_asgT, a_par, a_retO, a_retS, a_retN, a_ret, a_retE, a_app, a_clr, a_set, a_setK, a_expr, a_exprE, a_iteT, a_iteF, a_iteE, a_for, a_forO, a_forN, t_nm, t_tp, fo_shr, fo_lst, fo_dic, fo_no, en_rt, en_nx, en_exc, frz, esc, esc.escs, esc.escb, escI, tgSlots, putL, putS, D.isL, ownV, q_asg, q_asgb, q_asgt, q_asgo, q_asgl, q_asgk, q_pop0, q_nm, q_tp, x_asgD, x_mut, x_forM, x_retT, x_retX, x_callX, x_iteX, x_X, x_X0, x_Xf, x_Xm, a_mxR, a_mxR1, a_evXR, a_callXR, a_iteXR, a_asgDR, a_retTR, a_mut, a_mut2, a_mutA, a_mutC, a_mutR, a_mutS, a_setR2, a_appR2, a_remR, te_im, e_bor, e_keq, o_keq, bor_nil, bor_cons, bs_dep, bs_shr, bs_own, bs_no, dp_dep, w_Ld, w_Kd, w_Fd, fo_dep, p_nil, s_rx, en_Xrx, ok_nox, a_mut1S, a_mut1A, a_mut1R, a_mut1C, a_retXn, a_retXb, a_retXi, a_safeb, a_safei, te_comp, te_lst, te_call, ts_nil, ts_cons, a_consT, a_callT, a_clT, a_compT, a_endCT, cT_nm, cT_tp, cT_T, cT_F, hm]
    rw [a_mxR2 (by rfl)]
    simp only [e_var, e_con, e_glb, e_bin, e_un, e_and, e_or, e_cmp, e_chn, e_ite, e_lst, e_tup, e_dic0, e_dic, e_comp, e_call, e_bi, e_mth, e_rcv, e_att, e_idx, e_rev, e_slc, e_sort, l_nil, l_cons, i_seq, i_rng, i_rng1, i_enum, i_zip, v_shr, v_own, v_dic, g_some, o_bin, o_un, o_andT, o_andF, o_orT, o_orF, o_bol, o_cmp, o_chn, o_chT, o_chF, o_iteT, o_iteF, o_lst, o_tup, o_dic, o_cons, o_comp, o_endC, o_call, o_cl, o_clE, o_bi, o_mth, o_mth2, o_rcv, o_att, o_idx, o_rev, o_slc, o_sort, o_it, o_rng, o_rng1, o_enum, o_zip, ct_nm, ct_tp, ct_T, ct_F, ct_2, List.map_cons, List.map_nil, List.replicate, List.append_nil, List.cons_append, List.nil_append, Nat.sub_self, List.length_cons, List.length_nil, List.getElem?_cons_zero, List.getElem?_cons_succ, List.set_cons_zero, List.set_cons_succ, cmb, wipeE, if_true, if_false, Bool.not_true, Bool.not_false, Bool.false_eq_true, Bool.true_and, Bool.and_true, Bool.false_or, Bool.or_false, Bool.or_true, Bool.true_or, Bool.and_self, and_self, Bool.false_and, Bool.and_false, Int.reduceLT, Int.reduceLE, Int.reduceNeg, Nat.reduceAdd, Nat.reduceMul, Nat.reduceSub, Nat.reduceBEq, q_add, q_sub, q_mulr, q_mull, q_mod, q_fdiv, q_not, q_neg, q_lt, q_le, q_gt, q_ge, q_eqi, q_nei, q_neb, q_isb, q_t0, q_t1, q_len, q_lent, q_lens, q_list, q_listt, q_tuple, q_is1, q_is2, q_is3, q_is4, q_is5, q_is6, q_it, q_itt, q_rev, q_callT, q_calli, q_callb, imm_i, imm_b, imm_l, imm_k, imm_s, imm_n, imm_c, rcvB, fl_i, fl_b, fl_s, fl_n, fl_l, fl_t, fl_o, fl_d, iF_nil, iF_cons, iL_nil, iL_cons, imm_ints, xs_nil, xs_cons, x_asg, x_asgT, x_par, x_fld, x_ite, x_for, x_ret, x_rai, x_expr, x_pass, x_clr, x_app, x_pop, x_set, s_nx, s_rt, s_exc, lk_nil, lk_end, lk_cons, List.contains_cons, List.contains_nil, sl_L, sl_K, sl_O, sl_V, sl_F, it_V, it_r1, it_r2, it_e, it_z, w_L, w_Lk, w_Ls, w_K, w_Kl, w_O, w_V, w_Vk, w_Vs, w_F, w_Fk, w_Fs, w_Fo, w_Fn, w_it, w_itn, a_asg, a_asgE, a_nx, a_asgT, a_par, a_retO, a_retS, a_retN, a_ret, a_retE, a_app, a_clr, a_set, a_setK, a_expr, a_exprE, a_iteT, a_iteF, a_iteE, a_for, a_forO, a_forN, t_nm, t_tp, fo_shr, fo_lst, fo_dic, fo_no, en_rt, en_nx, en_exc, frz, esc, esc.escs, esc.escb, escI, tgSlots, putL, putS, D.isL, ownV, q_asg, q_asgb, q_asgt, q_asgo, q_asgl, q_asgk, q_pop0, q_nm, q_tp, x_asgD, x_mut, x_forM, x_retT, x_retX, x_callX, x_iteX, x_X, x_X0, x_Xf, x_Xm, a_mxR, a_mxR1, a_evXR, a_callXR, a_iteXR, a_asgDR, a_retTR, a_mut, a_mut2, a_mutA, a_mutC, a_mutR, a_mutS, a_setR2, a_appR2, a_remR, te_im, e_bor, e_keq, o_keq, bor_nil, bor_cons, bs_dep, bs_shr, bs_own, bs_no, dp_dep, w_Ld, w_Kd, w_Fd, fo_dep, p_nil, s_rx, en_Xrx, ok_nox, a_mut1S, a_mut1A, a_mut1R, a_mut1C, a_retXn, a_retXb, a_retXi, a_safeb, a_safei, te_comp, te_lst, te_call, ts_nil, ts_cons, a_consT, a_callT, a_clT, a_compT, a_endCT, cT_nm, cT_tp, cT_T, cT_F, hrun]
    cases b with
    | true =>
      refine .inl ⟨_, by rw [if_neg (by decide)]; simp only [e_var, e_con, e_glb, e_bin, e_un, e_and, e_or, e_cmp, e_chn, e_ite, e_lst, e_tup, e_dic0, e_dic, e_comp, e_call, e_bi, e_mth, e_rcv, e_att, e_idx, e_rev, e_slc, e_sort, l_nil, l_cons, i_seq, i_rng, i_rng1, i_enum, i_zip, v_shr, v_own, v_dic, g_some, o_bin, o_un, o_andT, o_andF, o_orT, o_orF, o_bol, o_cmp, o_chn, o_chT, o_chF, o_iteT, o_iteF, o_lst, o_tup, o_dic, o_cons, o_comp, o_endC, o_call, o_cl, o_clE, o_bi, o_mth, o_mth2, o_rcv, o_att, o_idx, o_rev, o_slc, o_sort, o_it, o_rng, o_rng1, o_enum, o_zip, ct_nm, ct_tp, ct_T, ct_F, ct_2, List.map_cons, List.map_nil, List.replicate, List.append_nil, List.cons_append, List.nil_append, Nat.sub_self, List.length_cons, List.length_nil, List.getElem?_cons_zero, List.getElem?_cons_succ, List.set_cons_zero, List.set_cons_succ, cmb, wipeE, if_true, if_false, Bool.not_true, Bool.not_false, Bool.false_eq_true, Bool.true_and, Bool.and_true, Bool.false_or, Bool.or_false, Bool.or_true, Bool.true_or, Bool.and_self, and_self, Bool.false_and, Bool.and_false, Int.reduceLT, Int.reduceLE, Int.reduceNeg, Nat.reduceAdd, Nat.reduceMul, Nat.reduceSub, Nat.reduceBEq, q_add, q_sub, q_mulr, q_mull, q_mod, q_fdiv, q_not, q_neg, q_lt, q_le, q_gt, q_ge, q_eqi, q_nei, q_neb, q_isb, q_t0, q_t1, q_len, q_lent, q_lens, q_list, q_listt, q_tuple, q_is1, q_is2, q_is3, q_is4, q_is5, q_is6, q_it, q_itt, q_rev, q_callT, q_calli, q_callb, imm_i, imm_b, imm_l, imm_k, imm_s, imm_n, imm_c, rcvB, fl_i, fl_b, fl_s, fl_n, fl_l, fl_t, fl_o, fl_d, iF_nil, iF_cons, iL_nil, iL_cons, imm_ints, xs_nil, xs_cons, x_asg, x_asgT, x_par, x_fld, x_ite, x_for, x_ret, x_rai, x_expr, x_pass, x_clr, x_app, x_pop, x_set, s_nx, s_rt, s_exc, lk_nil, lk_end, lk_cons, List.contains_cons, List.contains_nil, sl_L, sl_K, sl_O, sl_V, sl_F, it_V, it_r1, it_r2, it_e, it_z, w_L, w_Lk, w_Ls, w_K, w_Kl, w_O, w_V, w_Vk, w_Vs, w_F, w_Fk, w_Fs, w_Fo, w_Fn, w_it, w_itn, a_asg, a_asgE, a_nx, a_asgT, a_par, a_retO, a_retS, a_retN, a_ret, a_retE, a_app, a_clr, a_set, a_setK, a_expr, a_exprE, a_iteT, a_iteF, a_iteE, a_for, a_forO, a_forN, t_nm, t_tp, fo_shr, fo_lst, fo_dic, fo_no, en_rt, en_nx, en_exc, frz, esc, esc.escs, esc.escb, escI, tgSlots, putL, putS, D.isL, ownV, q_asg, q_asgb, q_asgt, q_asgo, q_asgl, q_asgk, q_pop0, q_nm, q_tp, x_asgD, x_mut, x_forM, x_retT, x_retX, x_callX, x_iteX, x_X, x_X0, x_Xf, x_Xm, a_mxR, a_mxR1, a_evXR, a_callXR, a_iteXR, a_asgDR, a_retTR, a_mut, a_mut2, a_mutA, a_mutC, a_mutR, a_mutS, a_setR2, a_appR2, a_remR, te_im, e_bor, e_keq, o_keq, bor_nil, bor_cons, bs_dep, bs_shr, bs_own, bs_no, dp_dep, w_Ld, w_Kd, w_Fd, fo_dep, p_nil, s_rx, en_Xrx, ok_nox, a_mut1S, a_mut1A, a_mut1R, a_mut1C, a_retXn, a_retXb, a_retXi, a_safeb, a_safei, te_comp, te_lst, te_call, ts_nil, ts_cons, a_consT, a_callT, a_clT, a_compT, a_endCT, cT_nm, cT_tp, cT_T, cT_F]; rfl, O2, _, ?_, hk2, rfl⟩
      have := h1 rfl
      rw [List.reverse_append]
      exact this
    | false =>
      refine .inr ⟨.rt (.bl false) true, by rw [if_pos (by decide)]; simp only [e_var, e_con, e_glb, e_bin, e_un, e_and, e_or, e_cmp, e_chn, e_ite, e_lst, e_tup, e_dic0, e_dic, e_comp, e_call, e_bi, e_mth, e_rcv, e_att, e_idx, e_rev, e_slc, e_sort, l_nil, l_cons, i_seq, i_rng, i_rng1, i_enum, i_zip, v_shr, v_own, v_dic, g_some, o_bin, o_un, o_andT, o_andF, o_orT, o_orF, o_bol, o_cmp, o_chn, o_chT, o_chF, o_iteT, o_iteF, o_lst, o_tup, o_dic, o_cons, o_comp, o_endC, o_call, o_cl, o_clE, o_bi, o_mth, o_mth2, o_rcv, o_att, o_idx, o_rev, o_slc, o_sort, o_it, o_rng, o_rng1, o_enum, o_zip, ct_nm, ct_tp, ct_T, ct_F, ct_2, List.map_cons, List.map_nil, List.replicate, List.append_nil, List.cons_append, List.nil_append, Nat.sub_self, List.length_cons, List.length_nil, List.getElem?_cons_zero, List.getElem?_cons_succ, List.set_cons_zero, List.set_cons_succ, cmb, wipeE, if_true, if_false, Bool.not_true, Bool.not_false, Bool.false_eq_true, Bool.true_and, Bool.and_true, Bool.false_or, Bool.or_false, Bool.or_true, Bool.true_or, Bool.and_self, and_self, Bool.false_and, Bool.and_false, Int.reduceLT, Int.reduceLE, Int.reduceNeg, Nat.reduceAdd, Nat.reduceMul, Nat.reduceSub, Nat.reduceBEq, q_add, q_sub, q_mulr, q_mull, q_mod, q_fdiv, q_not, q_neg, q_lt, q_le, q_gt, q_ge, q_eqi, q_nei, q_neb, q_isb, q_t0, q_t1, q_len, q_lent, q_lens, q_list, q_listt, q_tuple, q_is1, q_is2, q_is3, q_is4, q_is5, q_is6, q_it, q_itt, q_rev, q_callT, q_calli, q_callb, imm_i, imm_b, imm_l, imm_k, imm_s, imm_n, imm_c, rcvB, fl_i, fl_b, fl_s, fl_n, fl_l, fl_t, fl_o, fl_d, iF_nil, iF_cons, iL_nil, iL_cons, imm_ints, xs_nil, xs_cons, x_asg, x_asgT, x_par, x_fld, x_ite, x_for, x_ret, x_rai, x_expr, x_pass, x_clr, x_app, x_pop, x_set, s_nx, s_rt, s_exc, lk_nil, lk_end, lk_cons, List.contains_cons, List.contains_nil, sl_L, sl_K, sl_O, sl_V, sl_F, it_V, it_r1, it_r2, it_e, it_z, w_L, w_Lk, w_Ls, w_K, w_Kl, w_O, w_V, w_Vk, w_Vs, w_F, w_Fk, w_Fs, w_Fo, w_Fn, w_it, w_itn, a_asg, a_asgE, a_nx, a_asgT, a_par, a_retO, a_retS, a_retN, a_ret, a_retE, a_app, a_clr, a_set, a_setK, a_expr, a_exprE, a_iteT, a_iteF, a_iteE, a_for, a_forO, a_forN, t_nm, t_tp, fo_shr, fo_lst, fo_dic, fo_no, en_rt, en_nx, en_exc, frz, esc, esc.escs, esc.escb, escI, tgSlots, putL, putS, D.isL, ownV, q_asg, q_asgb, q_asgt, q_asgo, q_asgl, q_asgk, q_pop0, q_nm, q_tp, x_asgD, x_mut, x_forM, x_retT, x_retX, x_callX, x_iteX, x_X, x_X0, x_Xf, x_Xm, a_mxR, a_mxR1, a_evXR, a_callXR, a_iteXR, a_asgDR, a_retTR, a_mut, a_mut2, a_mutA, a_mutC, a_mutR, a_mutS, a_setR2, a_appR2, a_remR, te_im, e_bor, e_keq, o_keq, bor_nil, bor_cons, bs_dep, bs_shr, bs_own, bs_no, dp_dep, w_Ld, w_Kd, w_Fd, fo_dep, p_nil, s_rx, en_Xrx, ok_nox, a_mut1S, a_mut1A, a_mut1R, a_mut1C, a_retXn, a_retXb, a_retXi, a_safeb, a_safei, te_comp, te_lst, te_call, ts_nil, ts_cons, a_consT, a_callT, a_clT, a_compT, a_endCT, cT_nm, cT_tp, cT_T, cT_F], rfl, rfl, ?_⟩
      have := h2 rfl
      cases hs : sdrB ws ks with
      | false => rfl
      | true =>
      refine absurd ?_ this
      have z := sdrB_iff.mp hs
      refine sdr_mono (fun t ht => ?_) z
      rcases List.mem_cons.mp ht with rfl | ht
      · exact mem_nat.mpr (by rw [← he]; simp)
      · obtain ⟨k', hk', rfl⟩ := List.mem_map.mp ht
        exact mem_nat.mpr (by rw [← he]; simp at hk'; simp [hk'])) with ⟨E', rfl, O, s3, OW, hkn, rfl⟩ | ⟨q, rfl, _, rfl, hf⟩
  · have : sdrB ws ks = true := by
      refine sdrB_iff.mpr (sdr_mono (fun t ht => ?_) OW.sdr)
      obtain ⟨k', hk', rfl⟩ := List.mem_map.mp ht
      exact mem_nat.mpr (by simpa using hk')
    rw [this]
    simp only [e_var, e_con, e_glb, e_bin, e_un, e_and, e_or, e_cmp, e_chn, e_ite, e_lst, e_tup, e_dic0, e_dic, e_comp, e_call, e_bi, e_mth, e_rcv, e_att, e_idx, e_rev, e_slc, e_sort, l_nil, l_cons, i_seq, i_rng, i_rng1, i_enum, i_zip, v_shr, v_own, v_dic, g_some, o_bin, o_un, o_andT, o_andF, o_orT, o_orF, o_bol, o_cmp, o_chn, o_chT, o_chF, o_iteT, o_iteF, o_lst, o_tup, o_dic, o_cons, o_comp, o_endC, o_call, o_cl, o_clE, o_bi, o_mth, o_mth2, o_rcv, o_att, o_idx, o_rev, o_slc, o_sort, o_it, o_rng, o_rng1, o_enum, o_zip, ct_nm, ct_tp, ct_T, ct_F, ct_2, List.map_cons, List.map_nil, List.replicate, List.append_nil, List.cons_append, List.nil_append, Nat.sub_self, List.length_cons, List.length_nil, List.getElem?_cons_zero, List.getElem?_cons_succ, List.set_cons_zero, List.set_cons_succ, cmb, wipeE, if_true, if_false, Bool.not_true, Bool.not_false, Bool.false_eq_true, Bool.true_and, Bool.and_true, Bool.false_or, Bool.or_false, Bool.or_true, Bool.true_or, Bool.and_self, and_self, Bool.false_and, Bool.and_false, Int.reduceLT, Int.reduceLE, Int.reduceNeg, Nat.reduceAdd, Nat.reduceMul, Nat.reduceSub, Nat.reduceBEq, q_add, q_sub, q_mulr, q_mull, q_mod, q_fdiv, q_not, q_neg, q_lt, q_le, q_gt, q_ge, q_eqi, q_nei, q_neb, q_isb, q_t0, q_t1, q_len, q_lent, q_lens, q_list, q_listt, q_tuple, q_is1, q_is2, q_is3, q_is4, q_is5, q_is6, q_it, q_itt, q_rev, q_callT, q_calli, q_callb, imm_i, imm_b, imm_l, imm_k, imm_s, imm_n, imm_c, rcvB, fl_i, fl_b, fl_s, fl_n, fl_l, fl_t, fl_o, fl_d, iF_nil, iF_cons, iL_nil, iL_cons, imm_ints, xs_nil, xs_cons, x_asg, x_asgT, x_par, x_fld, x_ite, x_for, x_ret, x_rai, x_expr, x_pass, x_clr, x_app, x_pop, x_set, s_nx, s_rt, s_exc, lk_nil, lk_end, lk_cons, List.contains_cons, List.contains_nil, sl_L, sl_K, sl_O, sl_V, sl_F, it_V, it_r1, it_r2, it_e, it_z, w_L, w_Lk, w_Ls, w_K, w_Kl, w_O, w_V, w_Vk, w_Vs, w_F, w_Fk, w_Fs, w_Fo, w_Fn, w_it, w_itn, a_asg, a_asgE, a_nx, a_asgT, a_par, a_retO, a_retS, a_retN, a_ret, a_retE, a_app, a_clr, a_set, a_setK, a_expr, a_exprE, a_iteT, a_iteF, a_iteE, a_for, a_forO, a_forN, t_nm, t_tp, fo_shr, fo_lst, fo_dic, fo_no, en_rt, en_nx, en_exc, frz, esc, esc.escs, esc.escb, escI, tgSlots, putL, putS, D.isL, ownV, q_asg, q_asgb, q_asgt, q_asgo, q_asgl, q_asgk, q_pop0, q_nm, q_tp, x_asgD, x_mut, x_forM, x_retT, x_retX, x_callX, x_iteX, x_X, x_X0, x_Xf, x_Xm, a_mxR, a_mxR1, a_evXR, a_callXR, a_iteXR, a_asgDR, a_retTR, a_mut, a_mut2, a_mutA, a_mutC, a_mutR, a_mutS, a_setR2, a_appR2, a_remR, te_im, e_bor, e_keq, o_keq, bor_nil, bor_cons, bs_dep, bs_shr, bs_own, bs_no, dp_dep, w_Ld, w_Kd, w_Fd, fo_dep, p_nil, s_rx, en_Xrx, ok_nox, a_mut1S, a_mut1A, a_mut1R, a_mut1C, a_retXn, a_retXb, a_retXi, a_safeb, a_safei, te_comp, te_lst, te_call, ts_nil, ts_cons, a_consT, a_callT, a_clT, a_compT, a_endCT, cT_nm, cT_tp, cT_T, cT_F]
  · rw [hf]
    simp only [e_var, e_con, e_glb, e_bin, e_un, e_and, e_or, e_cmp, e_chn, e_ite, e_lst, e_tup, e_dic0, e_dic, e_comp, e_call, e_bi, e_mth, e_rcv, e_att, e_idx, e_rev, e_slc, e_sort, l_nil, l_cons, i_seq, i_rng, i_rng1, i_enum, i_zip, v_shr, v_own, v_dic, g_some, o_bin, o_un, o_andT, o_andF, o_orT, o_orF, o_bol, o_cmp, o_chn, o_chT, o_chF, o_iteT, o_iteF, o_lst, o_tup, o_dic, o_cons, o_comp, o_endC, o_call, o_cl, o_clE, o_bi, o_mth, o_mth2, o_rcv, o_att, o_idx, o_rev, o_slc, o_sort, o_it, o_rng, o_rng1, o_enum, o_zip, ct_nm, ct_tp, ct_T, ct_F, ct_2, List.map_cons, List.map_nil, List.replicate, List.append_nil, List.cons_append, List.nil_append, Nat.sub_self, List.length_cons, List.length_nil, List.getElem?_cons_zero, List.getElem?_cons_succ, List.set_cons_zero, List.set_cons_succ, cmb, wipeE, if_true, if_false, Bool.not_true, Bool.not_false, Bool.false_eq_true, Bool.true_and, Bool.and_true, Bool.false_or, Bool.or_false, Bool.or_true, Bool.true_or, Bool.and_self, and_self, Bool.false_and, Bool.and_false, Int.reduceLT, Int.reduceLE, Int.reduceNeg, Nat.reduceAdd, Nat.reduceMul, Nat.reduceSub, Nat.reduceBEq, q_add, q_sub, q_mulr, q_mull, q_mod, q_fdiv, q_not, q_neg, q_lt, q_le, q_gt, q_ge, q_eqi, q_nei, q_neb, q_isb, q_t0, q_t1, q_len, q_lent, q_lens, q_list, q_listt, q_tuple, q_is1, q_is2, q_is3, q_is4, q_is5, q_is6, q_it, q_itt, q_rev, q_callT, q_calli, q_callb, imm_i, imm_b, imm_l, imm_k, imm_s, imm_n, imm_c, rcvB, fl_i, fl_b, fl_s, fl_n, fl_l, fl_t, fl_o, fl_d, iF_nil, iF_cons, iL_nil, iL_cons, imm_ints, xs_nil, xs_cons, x_asg, x_asgT, x_par, x_fld, x_ite, x_for, x_ret, x_rai, x_expr, x_pass, x_clr, x_app, x_pop, x_set, s_nx, s_rt, s_exc, lk_nil, lk_end, lk_cons, List.contains_cons, List.contains_nil, sl_L, sl_K, sl_O, sl_V, sl_F, it_V, it_r1, it_r2, it_e, it_z, w_L, w_Lk, w_Ls, w_K, w_Kl, w_O, w_V, w_Vk, w_Vs, w_F, w_Fk, w_Fs, w_Fo, w_Fn, w_it, w_itn, a_asg, a_asgE, a_nx, a_asgT, a_par, a_retO, a_retS, a_retN, a_ret, a_retE, a_app, a_clr, a_set, a_setK, a_expr, a_exprE, a_iteT, a_iteF, a_iteE, a_for, a_forO, a_forN, t_nm, t_tp, fo_shr, fo_lst, fo_dic, fo_no, en_rt, en_nx, en_exc, frz, esc, esc.escs, esc.escb, escI, tgSlots, putL, putS, D.isL, ownV, q_asg, q_asgb, q_asgt, q_asgo, q_asgl, q_asgk, q_pop0, q_nm, q_tp, x_asgD, x_mut, x_forM, x_retT, x_retX, x_callX, x_iteX, x_X, x_X0, x_Xf, x_Xm, a_mxR, a_mxR1, a_evXR, a_callXR, a_iteXR, a_asgDR, a_retTR, a_mut, a_mut2, a_mutA, a_mutC, a_mutR, a_mutS, a_setR2, a_appR2, a_remR, te_im, e_bor, e_keq, o_keq, bor_nil, bor_cons, bs_dep, bs_shr, bs_own, bs_no, dp_dep, w_Ld, w_Kd, w_Fd, fo_dep, p_nil, s_rx, en_Xrx, ok_nox, a_mut1S, a_mut1A, a_mut1R, a_mut1C, a_retXn, a_retXb, a_retXi, a_safeb, a_safei, te_comp, te_lst, te_call, ts_nil, ts_cons, a_consT, a_callT, a_clT, a_compT, a_endCT, cT_nm, cT_tp, cT_T, cT_F]
theorem wtsL_imm (ws : List (List Int)) : (wtsT ws).all D.imm = true := by
  unfold wtsT
  rw [List.all_map, List.all_eq_true]
  intro l _
  show D.imm.immL _ = true
  rw [immL_all]
  exact imm_ints _
theorem r_iPosts (h : PP T) (ws : List (List Int)) (hl : ws.length ≤ 16) (hw : ∀ l ∈ ws, l.Nodup ∧ l.length ≤ 1000 ∧ ∀ p ∈ l, 0 ≤ p ∧ p ≤ 30) : run T W (n + 4) (.ini "Posts") [.obj "Posts" [], .lst (wtsL ws)] = .ok (.obj "Posts" (pflds ws), true) := by
  rw [run_ini h.i rfl]
  have hR := r_iR (W := W) (n := n + 1) h.b "Posts" (((wtsL ws).length : Nat) : Int) h.ans (by omega) (by unfold wtsL; rw [List.length_map]; omega)
  simp only [st_I h.ans, P.i_Posts, e_var, e_con, e_glb, e_bin, e_un, e_and, e_or, e_cmp, e_chn, e_ite, e_lst, e_tup, e_dic0, e_dic, e_comp, e_call, e_bi, e_mth, e_rcv, e_att, e_idx, e_rev, e_slc, e_sort, l_nil, l_cons, i_seq, i_rng, i_rng1, i_enum, i_zip, v_shr, v_own, v_dic, g_some, o_bin, o_un, o_andT, o_andF, o_orT, o_orF, o_bol, o_cmp, o_chn, o_chT, o_chF, o_iteT, o_iteF, o_lst, o_tup, o_dic, o_cons, o_comp, o_endC, o_call, o_cl, o_clE, o_bi, o_mth, o_mth2, o_rcv, o_att, o_idx, o_rev, o_slc, o_sort, o_it, o_rng, o_rng1, o_enum, o_zip, ct_nm, ct_tp, ct_T, ct_F, ct_2, List.map_cons, List.map_nil, List.replicate, List.append_nil, List.cons_append, List.nil_append, Nat.sub_self, List.length_cons, List.length_nil, List.getElem?_cons_zero, List.getElem?_cons_succ, List.set_cons_zero, List.set_cons_succ, cmb, wipeE, if_true, if_false, Bool.not_true, Bool.not_false, Bool.false_eq_true, Bool.true_and, Bool.and_true, Bool.false_or, Bool.or_false, Bool.or_true, Bool.true_or, Bool.and_self, and_self, Bool.false_and, Bool.and_false, Int.reduceLT, Int.reduceLE, Int.reduceNeg, Nat.reduceAdd, Nat.reduceMul, Nat.reduceSub, Nat.reduceBEq, q_add, q_sub, q_mulr, q_mull, q_mod, q_fdiv, q_not, q_neg, q_lt, q_le, q_gt, q_ge, q_eqi, q_nei, q_neb, q_isb, q_t0, q_t1, q_len, q_lent, q_lens, q_list, q_listt, q_tuple, q_is1, q_is2, q_is3, q_is4, q_is5, q_is6, q_it, q_itt, q_rev, q_callT, q_calli, q_callb, imm_i, imm_b, imm_l, imm_k, imm_s, imm_n, imm_c, rcvB, fl_i, fl_b, fl_s, fl_n, fl_l, fl_t, fl_o, fl_d, iF_nil, iF_cons, iL_nil, iL_cons, imm_ints, xs_nil, xs_cons, x_asg, x_asgT, x_par, x_fld, x_ite, x_for, x_ret, x_rai, x_expr, x_pass, x_clr, x_app, x_pop, x_set, s_nx, s_rt, s_exc, lk_nil, lk_end, lk_cons, List.contains_cons, List.contains_nil, sl_L, sl_K, sl_O, sl_V, sl_F, it_V, it_r1, it_r2, it_e, it_z, w_L, w_Lk, w_Ls, w_K, w_Kl, w_O, w_V, w_Vk, w_Vs, w_F, w_Fk, w_Fs, w_Fo, w_Fn, w_it, w_itn, a_asg, a_asgE, a_nx, a_asgT, a_par, a_retO, a_retS, a_retN, a_ret, a_retE, a_app, a_clr, a_set, a_setK, a_expr, a_exprE, a_iteT, a_iteF, a_iteE, a_for, a_forO, a_forN, t_nm, t_tp, fo_shr, fo_lst, fo_dic, fo_no, en_rt, en_nx, en_exc, frz, esc, esc.escs, esc.escb, escI, tgSlots, putL, putS, D.isL, ownV, q_asg, q_asgb, q_asgt, q_asgo, q_asgl, q_asgk, q_pop0, q_nm, q_tp, x_asgD, x_mut, x_forM, x_retT, x_retX, x_callX, x_iteX, x_X, x_X0, x_Xf, x_Xm, a_mxR, a_mxR1, a_evXR, a_callXR, a_iteXR, a_asgDR, a_retTR, a_mut, a_mut2, a_mutA, a_mutC, a_mutR, a_mutS, a_setR2, a_appR2, a_remR, te_im, e_bor, e_keq, o_keq, bor_nil, bor_cons, bs_dep, bs_shr, bs_own, bs_no, dp_dep, w_Ld, w_Kd, w_Fd, fo_dep, p_nil, s_rx, en_Xrx, ok_nox, a_mut1S, a_mut1A, a_mut1R, a_mut1C, a_retXn, a_retXb, a_retXi, a_safeb, a_safei, te_comp, te_lst, te_call, ts_nil, ts_cons, a_consT, a_callT, a_clT, a_compT, a_endCT, cT_nm, cT_tp, cT_T, cT_F]
  generalize hz : loopV _ _ _ _ _ _ _ _ _ = z
  obtain ⟨E', rfl, s2, rfl⟩ := loop_nx (xs := ws) (g := fun l => .lst (l.map .int)) hz rfl (fun pre r E => ∃ s2, E = [some (.own (.obj "Posts" []) true), some (.shr (.lst (wtsL ws)) false), s2]) ⟨none, rfl⟩ (by
    rintro pre l r E he ⟨s2, rfl⟩
    obtain ⟨h1, h2, h3⟩ := hw l (by rw [← he]; simp)
    have e : (l.all fun t => decide (0 ≤ t) && decide (t ≤ 30)) = true := by
      rw [List.all_eq_true]
      intro p hp
      have := h3 p hp
      simpa using this
    simp only [e_var, e_con, e_glb, e_bin, e_un, e_and, e_or, e_cmp, e_chn, e_ite, e_lst, e_tup, e_dic0, e_dic, e_comp, e_call, e_bi, e_mth, e_rcv, e_att, e_idx, e_rev, e_slc, e_sort, l_nil, l_cons, i_seq, i_rng, i_rng1, i_enum, i_zip, v_shr, v_own, v_dic, g_some, o_bin, o_un, o_andT, o_andF, o_orT, o_orF, o_bol, o_cmp, o_chn, o_chT, o_chF, o_iteT, o_iteF, o_lst, o_tup, o_dic, o_cons, o_comp, o_endC, o_call, o_cl, o_clE, o_bi, o_mth, o_mth2, o_rcv, o_att, o_idx, o_rev, o_slc, o_sort, o_it, o_rng, o_rng1, o_enum, o_zip, ct_nm, ct_tp, ct_T, ct_F, ct_2, List.map_cons, List.map_nil, List.replicate, List.append_nil, List.cons_append, List.nil_append, Nat.sub_self, List.length_cons, List.length_nil, List.getElem?_cons_zero, List.getElem?_cons_succ, List.set_cons_zero, List.set_cons_succ, cmb, wipeE, if_true, if_false, Bool.not_true, Bool.not_false, Bool.false_eq_true, Bool.true_and, Bool.and_true, Bool.false_or, Bool.or_false, Bool.or_true, Bool.true_or, Bool.and_self, and_self, Bool.false_and, Bool.and_false, Int.reduceLT, Int.reduceLE, Int.reduceNeg, Nat.reduceAdd, Nat.reduceMul, Nat.reduceSub, Nat.reduceBEq, q_add, q_sub, q_mulr, q_mull, q_mod, q_fdiv, q_not, q_neg, q_lt, q_le, q_gt, q_ge, q_eqi, q_nei, q_neb, q_isb, q_t0, q_t1, q_len, q_lent, q_lens, q_list, q_listt, q_tuple, q_is1, q_is2, q_is3, q_is4, q_is5, q_is6, q_it, q_itt, q_rev, q_callT, q_calli, q_callb, imm_i, imm_b, imm_l, imm_k, imm_s, imm_n, imm_c, rcvB, fl_i, fl_b, fl_s, fl_n, fl_l, fl_t, fl_o, fl_d, iF_nil, iF_cons, iL_nil, iL_cons, imm_ints, xs_nil, xs_cons, x_asg, x_asgT, x_par, x_fld, x_ite, x_for, x_ret, x_rai, x_expr, x_pass, x_clr, x_app, x_pop, x_set, s_nx, s_rt, s_exc, lk_nil, lk_end, lk_cons, List.contains_cons, List.contains_nil, sl_L, sl_K, sl_O, sl_V, sl_F, it_V, it_r1, it_r2, it_e, it_z, w_L, w_Lk, w_Ls, w_K, w_Kl, w_O, w_V, w_Vk, w_Vs, w_F, w_Fk, w_Fs, w_Fo, w_Fn, w_it, w_itn, a_asg, a_asgE, a_nx, a_asgT, a_par, a_retO, a_retS, a_retN, a_ret, a_retE, a_app, a_clr, a_set, a_setK, a_expr, a_exprE, a_iteT, a_iteF, a_iteE, a_for, a_forO, a_forN, t_nm, t_tp, fo_shr, fo_lst, fo_dic, fo_no, en_rt, en_nx, en_exc, frz, esc, esc.escs, esc.escb, escI, tgSlots, putL, putS, D.isL, ownV, q_asg, q_asgb, q_asgt, q_asgo, q_asgl, q_asgk, q_pop0, q_nm, q_tp, x_asgD, x_mut, x_forM, x_retT, x_retX, x_callX, x_iteX, x_X, x_X0, x_Xf, x_Xm, a_mxR, a_mxR1, a_evXR, a_callXR, a_iteXR, a_asgDR, a_retTR, a_mut, a_mut2, a_mutA, a_mutC, a_mutR, a_mutS, a_setR2, a_appR2, a_remR, te_im, e_bor, e_keq, o_keq, bor_nil, bor_cons, bs_dep, bs_shr, bs_own, bs_no, dp_dep, w_Ld, w_Kd, w_Fd, fo_dep, p_nil, s_rx, en_Xrx, ok_nox, a_mut1S, a_mut1A, a_mut1R, a_mut1C, a_retXn, a_retXb, a_retXi, a_safeb, a_safei, te_comp, te_lst, te_call, ts_nil, ts_cons, a_consT, a_callT, a_clT, a_compT, a_endCT, cT_nm, cT_tp, cT_T, cT_F, h.posts, r_are_numbers h.b, e, q_lenset h2, dedup_nodup h1, List.length_map, Int.lt_irrefl, decide_false]
    exact ⟨_, rfl, _, rfl⟩)
  simp only [e_var, e_con, e_glb, e_bin, e_un, e_and, e_or, e_cmp, e_chn, e_ite, e_lst, e_tup, e_dic0, e_dic, e_comp, e_call, e_bi, e_mth, e_rcv, e_att, e_idx, e_rev, e_slc, e_sort, l_nil, l_cons, i_seq, i_rng, i_rng1, i_enum, i_zip, v_shr, v_own, v_dic, g_some, o_bin, o_un, o_andT, o_andF, o_orT, o_orF, o_bol, o_cmp, o_chn, o_chT, o_chF, o_iteT, o_iteF, o_lst, o_tup, o_dic, o_cons, o_comp, o_endC, o_call, o_cl, o_clE, o_bi, o_mth, o_mth2, o_rcv, o_att, o_idx, o_rev, o_slc, o_sort, o_it, o_rng, o_rng1, o_enum, o_zip, ct_nm, ct_tp, ct_T, ct_F, ct_2, List.map_cons, List.map_nil, List.replicate, List.append_nil, List.cons_append, List.nil_append, Nat.sub_self, List.length_cons, List.length_nil, List.getElem?_cons_zero, List.getElem?_cons_succ, List.set_cons_zero, List.set_cons_succ, cmb, wipeE, if_true, if_false, Bool.not_true, Bool.not_false, Bool.false_eq_true, Bool.true_and, Bool.and_true, Bool.false_or, Bool.or_false, Bool.or_true, Bool.true_or, Bool.and_self, and_self, Bool.false_and, Bool.and_false, Int.reduceLT, Int.reduceLE, Int.reduceNeg, Nat.reduceAdd, Nat.reduceMul, Nat.reduceSub, Nat.reduceBEq, q_add, q_sub, q_mulr, q_mull, q_mod, q_fdiv, q_not, q_neg, q_lt, q_le, q_gt, q_ge, q_eqi, q_nei, q_neb, q_isb, q_t0, q_t1, q_len, q_lent, q_lens, q_list, q_listt, q_tuple, q_is1, q_is2, q_is3, q_is4, q_is5, q_is6, q_it, q_itt, q_rev, q_callT, q_calli, q_callb, imm_i, imm_b, imm_l, imm_k, imm_s, imm_n, imm_c, rcvB, fl_i, fl_b, fl_s, fl_n, fl_l, fl_t, fl_o, fl_d, iF_nil, iF_cons, iL_nil, iL_cons, imm_ints, xs_nil, xs_cons, x_asg, x_asgT, x_par, x_fld, x_ite, x_for, x_ret, x_rai, x_expr, x_pass, x_clr, x_app, x_pop, x_set, s_nx, s_rt, s_exc, lk_nil, lk_end, lk_cons, List.contains_cons, List.contains_nil, sl_L, sl_K, sl_O, sl_V, sl_F, it_V, it_r1, it_r2, it_e, it_z, w_L, w_Lk, w_Ls, w_K, w_Kl, w_O, w_V, w_Vk, w_Vs, w_F, w_Fk, w_Fs, w_Fo, w_Fn, w_it, w_itn, a_asg, a_asgE, a_nx, a_asgT, a_par, a_retO, a_retS, a_retN, a_ret, a_retE, a_app, a_clr, a_set, a_setK, a_expr, a_exprE, a_iteT, a_iteF, a_iteE, a_for, a_forO, a_forN, t_nm, t_tp, fo_shr, fo_lst, fo_dic, fo_no, en_rt, en_nx, en_exc, frz, esc, esc.escs, esc.escb, escI, tgSlots, putL, putS, D.isL, ownV, q_asg, q_asgb, q_asgt, q_asgo, q_asgl, q_asgk, q_pop0, q_nm, q_tp, x_asgD, x_mut, x_forM, x_retT, x_retX, x_callX, x_iteX, x_X, x_X0, x_Xf, x_Xm, a_mxR, a_mxR1, a_evXR, a_callXR, a_iteXR, a_asgDR, a_retTR, a_mut, a_mut2, a_mutA, a_mutC, a_mutR, a_mutS, a_setR2, a_appR2, a_remR, te_im, e_bor, e_keq, o_keq, bor_nil, bor_cons, bs_dep, bs_shr, bs_own, bs_no, dp_dep, w_Ld, w_Kd, w_Fd, fo_dep, p_nil, s_rx, en_Xrx, ok_nox, a_mut1S, a_mut1A, a_mut1R, a_mut1C, a_retXn, a_retXb, a_retXi, a_safeb, a_safei, te_comp, te_lst, te_call, ts_nil, ts_cons, a_consT, a_callT, a_clT, a_compT, a_endCT, cT_nm, cT_tp, cT_T, cT_F, x_sup, w_O, List.isEmpty_nil, ok_bind, hR, putS]
  rw [show wtsL ws = ws.map (fun l => D.lst (l.map D.int)) from rfl]
  rw [compL_all (xs := ws) (g := fun l => .lst (l.map .int)) (f := fun l => .tup (l.map .int)) (fun l _ => by simp only [e_var, e_con, e_glb, e_bin, e_un, e_and, e_or, e_cmp, e_chn, e_ite, e_lst, e_tup, e_dic0, e_dic, e_comp, e_call, e_bi, e_mth, e_rcv, e_att, e_idx, e_rev, e_slc, e_sort, l_nil, l_cons, i_seq, i_rng, i_rng1, i_enum, i_zip, v_shr, v_own, v_dic, g_some, o_bin, o_un, o_andT, o_andF, o_orT, o_orF, o_bol, o_cmp, o_chn, o_chT, o_chF, o_iteT, o_iteF, o_lst, o_tup, o_dic, o_cons, o_comp, o_endC, o_call, o_cl, o_clE, o_bi, o_mth, o_mth2, o_rcv, o_att, o_idx, o_rev, o_slc, o_sort, o_it, o_rng, o_rng1, o_enum, o_zip, ct_nm, ct_tp, ct_T, ct_F, ct_2, List.map_cons, List.map_nil, List.replicate, List.append_nil, List.cons_append, List.nil_append, Nat.sub_self, List.length_cons, List.length_nil, List.getElem?_cons_zero, List.getElem?_cons_succ, List.set_cons_zero, List.set_cons_succ, cmb, wipeE, if_true, if_false, Bool.not_true, Bool.not_false, Bool.false_eq_true, Bool.true_and, Bool.and_true, Bool.false_or, Bool.or_false, Bool.or_true, Bool.true_or, Bool.and_self, and_self, Bool.false_and, Bool.and_false, Int.reduceLT, Int.reduceLE, Int.reduceNeg, Nat.reduceAdd, Nat.reduceMul, Nat.reduceSub, Nat.reduceBEq, q_add, q_sub, q_mulr, q_mull, q_mod, q_fdiv, q_not, q_neg, q_lt, q_le, q_gt, q_ge, q_eqi, q_nei, q_neb, q_isb, q_t0, q_t1, q_len, q_lent, q_lens, q_list, q_listt, q_tuple, q_is1, q_is2, q_is3, q_is4, q_is5, q_is6, q_it, q_itt, q_rev, q_callT, q_calli, q_callb, imm_i, imm_b, imm_l, imm_k, imm_s, imm_n, imm_c, rcvB, fl_i, fl_b, fl_s, fl_n, fl_l, fl_t, fl_o, fl_d, iF_nil, iF_cons, iL_nil, iL_cons, imm_ints])]
  simp only [e_var, e_con, e_glb, e_bin, e_un, e_and, e_or, e_cmp, e_chn, e_ite, e_lst, e_tup, e_dic0, e_dic, e_comp, e_call, e_bi, e_mth, e_rcv, e_att, e_idx, e_rev, e_slc, e_sort, l_nil, l_cons, i_seq, i_rng, i_rng1, i_enum, i_zip, v_shr, v_own, v_dic, g_some, o_bin, o_un, o_andT, o_andF, o_orT, o_orF, o_bol, o_cmp, o_chn, o_chT, o_chF, o_iteT, o_iteF, o_lst, o_tup, o_dic, o_cons, o_comp, o_endC, o_call, o_cl, o_clE, o_bi, o_mth, o_mth2, o_rcv, o_att, o_idx, o_rev, o_slc, o_sort, o_it, o_rng, o_rng1, o_enum, o_zip, ct_nm, ct_tp, ct_T, ct_F, ct_2, List.map_cons, List.map_nil, List.replicate, List.append_nil, List.cons_append, List.nil_append, Nat.sub_self, List.length_cons, List.length_nil, List.getElem?_cons_zero, List.getElem?_cons_succ, List.set_cons_zero, List.set_cons_succ, cmb, wipeE, if_true, if_false, Bool.not_true, Bool.not_false, Bool.false_eq_true, Bool.true_and, Bool.and_true, Bool.false_or, Bool.or_false, Bool.or_true, Bool.true_or, Bool.and_self, and_self, Bool.false_and, Bool.and_false, Int.reduceLT, Int.reduceLE, Int.reduceNeg, Nat.reduceAdd, Nat.reduceMul, Nat.reduceSub, Nat.reduceBEq, q_add, q_sub, q_mulr, q_mull, q_mod, q_fdiv, q_not, q_neg, q_lt, q_le, q_gt, q_ge, q_eqi, q_nei, q_neb, q_isb, q_t0, q_t1, q_len, q_lent, q_lens, q_list, q_listt, q_tuple, q_is1, q_is2, q_is3, q_is4, q_is5, q_is6, q_it, q_itt, q_rev, q_callT, q_calli, q_callb, imm_i, imm_b, imm_l, imm_k, imm_s, imm_n, imm_c, rcvB, fl_i, fl_b, fl_s, fl_n, fl_l, fl_t, fl_o, fl_d, iF_nil, iF_cons, iL_nil, iL_cons, imm_ints, xs_nil, xs_cons, x_asg, x_asgT, x_par, x_fld, x_ite, x_for, x_ret, x_rai, x_expr, x_pass, x_clr, x_app, x_pop, x_set, s_nx, s_rt, s_exc, lk_nil, lk_end, lk_cons, List.contains_cons, List.contains_nil, sl_L, sl_K, sl_O, sl_V, sl_F, it_V, it_r1, it_r2, it_e, it_z, w_L, w_Lk, w_Ls, w_K, w_Kl, w_O, w_V, w_Vk, w_Vs, w_F, w_Fk, w_Fs, w_Fo, w_Fn, w_it, w_itn, a_asg, a_asgE, a_nx, a_asgT, a_par, a_retO, a_retS, a_retN, a_ret, a_retE, a_app, a_clr, a_set, a_setK, a_expr, a_exprE, a_iteT, a_iteF, a_iteE, a_for, a_forO, a_forN, t_nm, t_tp, fo_shr, fo_lst, fo_dic, fo_no, en_rt, en_nx, en_exc, frz, esc, esc.escs, esc.escb, escI, tgSlots, putL, putS, D.isL, ownV, q_asg, q_asgb, q_asgt, q_asgo, q_asgl, q_asgk, q_pop0, q_nm, q_tp, x_asgD, x_mut, x_forM, x_retT, x_retX, x_callX, x_iteX, x_X, x_X0, x_Xf, x_Xm, a_mxR, a_mxR1, a_evXR, a_callXR, a_iteXR, a_asgDR, a_retTR, a_mut, a_mut2, a_mutA, a_mutC, a_mutR, a_mutS, a_setR2, a_appR2, a_remR, te_im, e_bor, e_keq, o_keq, bor_nil, bor_cons, bs_dep, bs_shr, bs_own, bs_no, dp_dep, w_Ld, w_Kd, w_Fd, fo_dep, p_nil, s_rx, en_Xrx, ok_nox, a_mut1S, a_mut1A, a_mut1R, a_mut1C, a_retXn, a_retXb, a_retXi, a_safeb, a_safei, te_comp, te_lst, te_call, ts_nil, ts_cons, a_consT, a_callT, a_clT, a_compT, a_endCT, cT_nm, cT_tp, cT_T, cT_F, w_O]
  rw [a_fld (by show 1 < 900; decide)]
  rw [show ws.map (fun l => D.tup (l.map D.int)) = wtsT ws from rfl]
  simp only [e_var, e_con, e_glb, e_bin, e_un, e_and, e_or, e_cmp, e_chn, e_ite, e_lst, e_tup, e_dic0, e_dic, e_comp, e_call, e_bi, e_mth, e_rcv, e_att, e_idx, e_rev, e_slc, e_sort, l_nil, l_cons, i_seq, i_rng, i_rng1, i_enum, i_zip, v_shr, v_own, v_dic, g_some, o_bin, o_un, o_andT, o_andF, o_orT, o_orF, o_bol, o_cmp, o_chn, o_chT, o_chF, o_iteT, o_iteF, o_lst, o_tup, o_dic, o_cons, o_comp, o_endC, o_call, o_cl, o_clE, o_bi, o_mth, o_mth2, o_rcv, o_att, o_idx, o_rev, o_slc, o_sort, o_it, o_rng, o_rng1, o_enum, o_zip, ct_nm, ct_tp, ct_T, ct_F, ct_2, List.map_cons, List.map_nil, List.replicate, List.append_nil, List.cons_append, List.nil_append, Nat.sub_self, List.length_cons, List.length_nil, List.getElem?_cons_zero, List.getElem?_cons_succ, List.set_cons_zero, List.set_cons_succ, cmb, wipeE, if_true, if_false, Bool.not_true, Bool.not_false, Bool.false_eq_true, Bool.true_and, Bool.and_true, Bool.false_or, Bool.or_false, Bool.or_true, Bool.true_or, Bool.and_self, and_self, Bool.false_and, Bool.and_false, Int.reduceLT, Int.reduceLE, Int.reduceNeg, Nat.reduceAdd, Nat.reduceMul, Nat.reduceSub, Nat.reduceBEq, q_add, q_sub, q_mulr, q_mull, q_mod, q_fdiv, q_not, q_neg, q_lt, q_le, q_gt, q_ge, q_eqi, q_nei, q_neb, q_isb, q_t0, q_t1, q_len, q_lent, q_lens, q_list, q_listt, q_tuple, q_is1, q_is2, q_is3, q_is4, q_is5, q_is6, q_it, q_itt, q_rev, q_callT, q_calli, q_callb, imm_i, imm_b, imm_l, imm_k, imm_s, imm_n, imm_c, rcvB, fl_i, fl_b, fl_s, fl_n, fl_l, fl_t, fl_o, fl_d, iF_nil, iF_cons, iL_nil, iL_cons, imm_ints, xs_nil, xs_cons, x_asg, x_asgT, x_par, x_fld, x_ite, x_for, x_ret, x_rai, x_expr, x_pass, x_clr, x_app, x_pop, x_set, s_nx, s_rt, s_exc, lk_nil, lk_end, lk_cons, List.contains_cons, List.contains_nil, sl_L, sl_K, sl_O, sl_V, sl_F, it_V, it_r1, it_r2, it_e, it_z, w_L, w_Lk, w_Ls, w_K, w_Kl, w_O, w_V, w_Vk, w_Vs, w_F, w_Fk, w_Fs, w_Fo, w_Fn, w_it, w_itn, a_asg, a_asgE, a_nx, a_asgT, a_par, a_retO, a_retS, a_retN, a_ret, a_retE, a_app, a_clr, a_set, a_setK, a_expr, a_exprE, a_iteT, a_iteF, a_iteE, a_for, a_forO, a_forN, t_nm, t_tp, fo_shr, fo_lst, fo_dic, fo_no, en_rt, en_nx, en_exc, frz, esc, esc.escs, esc.escb, escI, tgSlots, putL, putS, D.isL, ownV, q_asg, q_asgb, q_asgt, q_asgo, q_asgl, q_asgk, q_pop0, q_nm, q_tp, x_asgD, x_mut, x_forM, x_retT, x_retX, x_callX, x_iteX, x_X, x_X0, x_Xf, x_Xm, a_mxR, a_mxR1, a_evXR, a_callXR, a_iteXR, a_asgDR, a_retTR, a_mut, a_mut2, a_mutA, a_mutC, a_mutR, a_mutS, a_setR2, a_appR2, a_remR, te_im, e_bor, e_keq, o_keq, bor_nil, bor_cons, bs_dep, bs_shr, bs_own, bs_no, dp_dep, w_Ld, w_Kd, w_Fd, fo_dep, p_nil, s_rx, en_Xrx, ok_nox, a_mut1S, a_mut1A, a_mut1R, a_mut1C, a_retXn, a_retXb, a_retXi, a_safeb, a_safei, te_comp, te_lst, te_call, ts_nil, ts_cons, a_consT, a_callT, a_clT, a_compT, a_endCT, cT_nm, cT_tp, cT_T, cT_F, ok_bind, iniEnd, putS, putO, wtsL_imm]
  unfold pflds
  rw [List.length_map, if_neg (by decide)]
  have e : D.imm.immF [(("size" : Str), D.int ((ws.length : Nat) : Int)), (("wants" : Str), D.tup (wtsT ws))] = true := by
    show (true && (D.imm.immL (wtsT ws) && true)) = true
    rw [immL_all, wtsL_imm]
    rfl
  rw [e]
end
end FS

/-! MP5: the ways are not too many. Plain Lean. -/
namespace FS.Post
open FS
def subs : List Int → List (List Int)
  | [] => [[]]
  | x :: l => subs l ++ (subs l).map (x :: ·)
theorem subs_len : ∀ l, (subs l).length = 2 ^ l.length
  | [] => rfl
  | x :: l => by
    unfold subs
    rw [List.length_append, List.length_map, subs_len l, List.length_cons, Nat.pow_succ]
    omega
theorem subs_filter (p : Int → Bool) : ∀ l, l.filter p ∈ subs l
  | [] => by simp [subs]
  | x :: l => by
    unfold subs
    rw [List.mem_append]
    cases h : p x with
    | true =>
      rw [List.filter_cons_of_pos h]
      exact .inr (List.mem_map.mpr ⟨_, subs_filter p l, rfl⟩)
    | false =>
      rw [List.filter_cons_of_neg (by simp [h])]
      exact .inl (subs_filter p l)
theorem nodup_len' {α : Type} [DecidableEq α] : ∀ {l k : List α}, l.Nodup → (∀ x ∈ l, x ∈ k) → l.length ≤ k.length
  | [], _, _, _ => Nat.zero_le _
  | x :: l, k, hn, hs => by
    have hn := List.nodup_cons.mp hn
    have := nodup_len' (l := l) (k := k.erase x) hn.2 fun y hy => (List.mem_erase_of_ne (fun z => hn.1 (by rw [← z]; exact hy))).mpr (hs y (List.mem_cons_of_mem _ hy))
    have hx := hs x List.mem_cons_self
    rw [List.length_erase_of_mem hx] at this
    have : 0 < k.length := List.length_pos_of_mem hx
    simp only [List.length_cons]
    omega
/-- rising, of these posts -/
structure WOk (P : List Int) (w : List Int) : Prop where
  nd : w.Nodup
  so : w.Pairwise (· ≤ ·)
  mem : ∀ p ∈ w, p ∈ P
theorem nodup_perm {l k : List Int} (hl : l.Nodup) (hk : k.Nodup) (h : ∀ x, x ∈ l ↔ x ∈ k) : l.Perm k := (List.perm_ext_iff_of_nodup hl hk).mpr fun {a} => h a
theorem wok_filter {P w : List Int} (hP : P.Nodup) (h : WOk P w) : w = (srt P).filter fun p => decide (p ∈ w) := by
  have h1 : (srt P).Nodup := (srt_perm P).nodup_iff.mpr hP
  have hp : ((srt P).filter fun p => decide (p ∈ w)).Perm w := nodup_perm (List.Pairwise.filter _ h1) h.nd fun x => by
    rw [List.mem_filter, srt_mem, decide_eq_true_eq]
    exact ⟨fun e => e.2, fun e => ⟨h.mem x e, e⟩⟩
  have s1 := sortI_is (hp.trans (List.Perm.refl w)) (List.Pairwise.filter _ (srt_sorted P))
  have s2 := sortI_is (List.Perm.refl w) h.so
  exact s2.symm.trans s1
theorem ways_len {P : List Int} {more : List (List Int)} (hP : P.Nodup) (hn : more.Nodup) (h : ∀ w ∈ more, WOk P w) : more.length ≤ 2 ^ P.length := by
  have := nodup_len' (k := subs (srt P)) hn fun w hw => by
    rw [wok_filter hP (h w hw)]
    exact subs_filter _ _
  rwa [subs_len, srt_len] at this
theorem wput_ok {P : List Int} {more : List (List Int)} {way : List Int} {p : Int} (hn : more.Nodup) (h : ∀ w ∈ more, WOk P w) (hw : WOk P way) (hp : p ∈ P) : (wput more way p).Nodup ∧ ∀ w ∈ wput more way p, WOk P w := by
  unfold wput
  split
  · rename_i c
    refine ⟨?_, fun w hw' => ?_⟩
    · rw [List.nodup_append]
      exact ⟨hn, by simp, fun a ha b hb e => c.2 (by rw [List.mem_singleton] at hb; rw [← hb, ← e]; exact ha)⟩
    · rcases List.mem_append.mp hw' with e | e
      · exact h w e
      · rw [List.mem_singleton] at e
        subst e
        refine ⟨(srt_perm _).nodup_iff.mpr ?_, srt_sorted _, fun q hq => ?_⟩
        · rw [List.nodup_append]
          exact ⟨hw.nd, by simp, fun a ha b hb e => c.1 (by rw [List.mem_singleton] at hb; rw [← hb, ← e]; exact ha)⟩
        · rw [srt_mem, List.mem_append, List.mem_singleton] at hq
          rcases hq with hq | rfl
          · exact hw.mem q hq
          · exact hp
  · exact ⟨hn, h⟩
theorem wput_all {P way : List Int} (hw : WOk P way) : ∀ (ps : List Int) (more : List (List Int)), (∀ p ∈ ps, p ∈ P) → more.Nodup → (∀ w ∈ more, WOk P w) → (wway ps more way).Nodup ∧ ∀ w ∈ wway ps more way, WOk P w
  | [], more, _, hn, h => ⟨hn, h⟩
  | p :: ps, more, hp, hn, h => by
    obtain ⟨h1, h2⟩ := wput_ok hn h hw (hp p List.mem_cons_self)
    exact wput_all hw ps _ (fun q hq => hp q (List.mem_cons_of_mem _ hq)) h1 h2
theorem wway_all {P ps : List Int} (hp : ∀ p ∈ ps, p ∈ P) : ∀ (ways more : List (List Int)), (∀ w ∈ ways, WOk P w) → more.Nodup → (∀ w ∈ more, WOk P w) → (ways.foldl (wway ps) more).Nodup ∧ ∀ w ∈ ways.foldl (wway ps) more, WOk P w
  | [], more, _, hn, h => ⟨hn, h⟩
  | w :: ways, more, hw, hn, h => by
    obtain ⟨h1, h2⟩ := wput_all (hw w List.mem_cons_self) ps more hp hn h
    exact wway_all hp ways _ (fun q hq => hw q (List.mem_cons_of_mem _ hq)) h1 h2
theorem wstep_all {P : List Int} : ∀ (L : List (List Int)) (ways : List (List Int)), (∀ ps ∈ L, ∀ p ∈ ps, p ∈ P) → ways.Nodup → (∀ w ∈ ways, WOk P w) → (L.foldl wstep ways).Nodup ∧ ∀ w ∈ L.foldl wstep ways, WOk P w
  | [], ways, _, hn, h => ⟨hn, h⟩
  | ps :: L, ways, hp, hn, h => by
    obtain ⟨h1, h2⟩ := wway_all (hp ps List.mem_cons_self) ways [] h List.nodup_nil (by simp)
    exact wstep_all L _ (fun q hq => hp q (List.mem_cons_of_mem _ hq)) h1 h2
end FS.Post

/-! RP4: the law's ways, run by hand. -/
namespace FS
open PySem L2 FS.Post
def tps (l : List (List Int)) : List D := l.map fun w => .tup (w.map .int)
theorem tps_dat (l : List (List Int)) : (tps l).all (D.dat 59) = true := by
  unfold tps
  rw [List.all_map, List.all_eq_true]
  intro x _
  exact dat_ints 58 _
theorem tps_imm (l : List (List Int)) : (tps l).all D.imm = true := wtsL_imm l
theorem tps_len (l : List (List Int)) : (tps l).length = l.length := List.length_map _
theorem tup_imm (w : List Int) : (D.tup (w.map .int)).imm = true := by
  show D.imm.immL _ = true
  rw [immL_all]
  exact imm_ints _
theorem beq_dec {α : Type} [BEq α] [LawfulBEq α] [DecidableEq α] (a b : α) : (a == b) = decide (a = b) := by
  rw [Bool.eq_iff_iff]
  simp
theorem q_intup {p : Int} {w : List Int} : cmpV .NotIn (.int p) (.tup (w.map .int)) = .ok (!decide (p ∈ w)) := by
  show (if (D.int p).dat 0 && (w.map D.int).all (D.dat 0) then R.ok (!inV' (.int p) (w.map D.int)) else .bad) = _
  rw [dat_ints, if_pos (by rfl)]
  congr 2
  unfold inV'
  rw [List.any_map, show ((fun y : D => y.eqv (.int p)) ∘ D.int) = fun x : Int => decide (x = p) from by
    funext x
    show (D.int x).eqv (.int p) = _
    rw [eqv_int, beq_dec], Bool.eq_iff_iff]
  simp
theorem q_intps {w : List Int} {l : List (List Int)} : cmpV .NotIn (.tup (w.map .int)) (.lst (tps l)) = .ok (!decide (w ∈ l)) := by
  show (if (D.tup (w.map .int)).dat 60 && (tps l).all (D.dat 60) then R.ok (!inV' (.tup (w.map .int)) (tps l)) else .bad) = _
  have h1 : (D.tup (w.map .int)).dat 60 = true := dat_ints 59 w
  have h2 : (tps l).all (D.dat 60) = true := by
    unfold tps
    rw [List.all_map, List.all_eq_true]
    intro x _
    exact dat_ints 59 _
  rw [h1, h2, if_pos (by rfl)]
  congr 2
  unfold inV' tps
  rw [List.any_map, show ((fun y : D => y.eqv (.tup (w.map .int))) ∘ fun w : List Int => D.tup (w.map .int)) = fun x : List Int => decide (x = w) from by
    funext x
    show (D.tup (x.map .int)).eqv (.tup (w.map .int)) = _
    rw [show (D.tup (x.map .int)).eqv (.tup (w.map .int)) = eqvL (x.map .int) (w.map .int) by unfold D.eqv; rfl, eqvL_ints, beq_dec], Bool.eq_iff_iff]
  simp
theorem q_sortl {T : Tb} {w : List Int} {f : Fl} : biV T .sorted [(.lst (w.map .int), f)] = .ok (.lst ((srt w).map .int), ⟨true, true, true⟩) := by
  show (match intsD (w.map D.int) with
    | some ns => R.ok (mkL ((insSort (fun a b => decide (a ≤ b)) ns).map D.int) true)
    | none => .bad) = _
  rw [intsD_map]
  rfl
section
variable {T : Tb} {W n : Nat}
theorem hw1 {Q : List Int} (hQ : Q.length ≤ 19) {w : List Int} (h : WOk Q w) : w.length ≤ 19 := Nat.le_trans (nodup_len h.nd h.mem) hQ
theorem hm1 {Q : List Int} (hn : Q.Nodup) (hQ : Q.length ≤ 19) {more : List (List Int)} (h1 : more.Nodup) (h2 : ∀ w ∈ more, WOk Q w) : more.length < lim := by
  have := ways_len hn h1 h2
  have h3 : 2 ^ Q.length ≤ 2 ^ 19 := Nat.pow_le_pow_right (by decide) hQ
  have h4 : lim = 1000000 := rfl
  have h5 : 2 ^ 19 = 524288 := rfl
  omega
/-- one thing's posts put to all ways -/
theorem r_ways1 {C : Call} {Q : List Int} (hP : Q.Nodup) (hP17 : Q.length ≤ 19) {ways : List (List Int)} {ps : List Int} (hps : ∀ p ∈ ps, p ∈ Q) (wo : ∀ w ∈ ways, WOk Q w) {s0 s1 t4 t5 t6 : Option Slot} {n0 : Bool} (L : List Nat) (hL : L = [] ∨ L = [1]) : ∃ s4 s5 s6, loopV T W C (.nm 4) true (.cons (.for (.nm 5) (.seq (.var 2))
  (.cons (.asg 6 (.bi .tuple (.cons (.bi .sorted (.cons (.bin .Add (.bi .list (.cons (.var 4) .nil)) (.lst (.cons (.var 5) .nil))) .nil)) .nil)))
  (.cons (.ite (.and (.cmp .NotIn (.var 5) (.var 4)) (.cmp .NotIn (.var 6) (.var 3)))
  (.cons (.app 3 (.var 6))
  .nil)
  .nil)
  .nil)))
  .nil) L (tps ways) [s0, s1, some (.shr (.lst (ps.map .int)) n0), some (.own (.lst []) true), t4, t5, t6] = .ok (.nx [s0, s1, some (.shr (.lst (ps.map .int)) n0), some (.own (.lst (tps (wstep ways ps))) true), s4, s5, s6]) := by
  obtain ⟨c2, c2', c3, c5, c6, c3', c5', c6'⟩ : L.contains 2 = false ∧ L.contains 1002 = false ∧ L.contains 3 = false ∧ L.contains 5 = false ∧ L.contains 6 = false ∧ L.contains 1003 = false ∧ L.contains 1005 = false ∧ L.contains 1006 = false := by rcases hL with rfl | rfl <;> decide
  generalize hz : loopV _ _ _ _ _ _ _ _ _ = z
  obtain ⟨E', rfl, s4, s5, s6, rfl⟩ := loop_nx (xs := ways) (g := fun w => .tup (w.map .int)) hz rfl (fun pre r E => ∃ s4 s5 s6, E = [s0, s1, some (.shr (.lst (ps.map .int)) n0), some (.own (.lst (tps (pre.foldl (wway ps) []))) true), s4, s5, s6]) ⟨t4, t5, t6, rfl⟩ (by
      rintro pre w r E he ⟨s4, s5, s6, rfl⟩
      obtain ⟨mn, mo⟩ := wway_all (P := Q) hps pre [] (fun w hw => wo w (by rw [← he]; simp [hw])) (by simp) (by simp)
      have hw : WOk Q w := wo w (by rw [← he]; simp)
      rw [List.foldl_append, List.foldl_cons, List.foldl_nil]
      generalize pre.foldl (wway ps) [] = more at mn mo ⊢
      simp only [e_var, e_con, e_glb, e_bin, e_un, e_and, e_or, e_cmp, e_chn, e_ite, e_lst, e_tup, e_dic0, e_dic, e_comp, e_call, e_bi, e_mth, e_rcv, e_att, e_idx, e_rev, e_slc, e_sort, l_nil, l_cons, i_seq, i_rng, i_rng1, i_enum, i_zip, v_shr, v_own, v_dic, g_some, o_bin, o_un, o_andT, o_andF, o_orT, o_orF, o_bol, o_cmp, o_chn, o_chT, o_chF, o_iteT, o_iteF, o_lst, o_tup, o_dic, o_cons, o_comp, o_endC, o_call, o_cl, o_clE, o_bi, o_mth, o_mth2, o_rcv, o_att, o_idx, o_rev, o_slc, o_sort, o_it, o_rng, o_rng1, o_enum, o_zip, ct_nm, ct_tp, ct_T, ct_F, ct_2, List.map_cons, List.map_nil, List.replicate, List.append_nil, List.cons_append, List.nil_append, Nat.sub_self, List.length_cons, List.length_nil, List.getElem?_cons_zero, List.getElem?_cons_succ, List.set_cons_zero, List.set_cons_succ, cmb, wipeE, if_true, if_false, Bool.not_true, Bool.not_false, Bool.false_eq_true, Bool.true_and, Bool.and_true, Bool.false_or, Bool.or_false, Bool.or_true, Bool.true_or, Bool.and_self, and_self, Bool.false_and, Bool.and_false, Int.reduceLT, Int.reduceLE, Int.reduceNeg, Nat.reduceAdd, Nat.reduceMul, Nat.reduceSub, Nat.reduceBEq, q_add, q_sub, q_mulr, q_mull, q_mod, q_fdiv, q_not, q_neg, q_lt, q_le, q_gt, q_ge, q_eqi, q_nei, q_neb, q_isb, q_t0, q_t1, q_len, q_lent, q_lens, q_list, q_listt, q_tuple, q_is1, q_is2, q_is3, q_is4, q_is5, q_is6, q_it, q_itt, q_rev, q_callT, q_calli, q_callb, imm_i, imm_b, imm_l, imm_k, imm_s, imm_n, imm_c, rcvB, fl_i, fl_b, fl_s, fl_n, fl_l, fl_t, fl_o, fl_d, iF_nil, iF_cons, iL_nil, iL_cons, imm_ints, xs_nil, xs_cons, x_asg, x_asgT, x_par, x_fld, x_ite, x_for, x_ret, x_rai, x_expr, x_pass, x_clr, x_app, x_pop, x_set, s_nx, s_rt, s_exc, lk_nil, lk_end, lk_cons, List.contains_cons, List.contains_nil, sl_L, sl_K, sl_O, sl_V, sl_F, it_V, it_r1, it_r2, it_e, it_z, w_L, w_Lk, w_Ls, w_K, w_Kl, w_O, w_V, w_Vk, w_Vs, w_F, w_Fk, w_Fs, w_Fo, w_Fn, w_it, w_itn, a_asg, a_asgE, a_nx, a_asgT, a_par, a_retO, a_retS, a_retN, a_ret, a_retE, a_app, a_clr, a_set, a_setK, a_expr, a_exprE, a_iteT, a_iteF, a_iteE, a_for, a_forO, a_forN, t_nm, t_tp, fo_shr, fo_lst, fo_dic, fo_no, en_rt, en_nx, en_exc, frz, esc, esc.escs, esc.escb, escI, tgSlots, putL, putS, D.isL, ownV, q_asg, q_asgb, q_asgt, q_asgo, q_asgl, q_asgk, q_pop0, q_nm, q_tp, x_asgD, x_mut, x_forM, x_retT, x_retX, x_callX, x_iteX, x_X, x_X0, x_Xf, x_Xm, a_mxR, a_mxR1, a_evXR, a_callXR, a_iteXR, a_asgDR, a_retTR, a_mut, a_mut2, a_mutA, a_mutC, a_mutR, a_mutS, a_setR2, a_appR2, a_remR, te_im, e_bor, e_keq, o_keq, bor_nil, bor_cons, bs_dep, bs_shr, bs_own, bs_no, dp_dep, w_Ld, w_Kd, w_Fd, fo_dep, p_nil, s_rx, en_Xrx, ok_nox, a_mut1S, a_mut1A, a_mut1R, a_mut1C, a_retXn, a_retXb, a_retXi, a_safeb, a_safei, te_comp, te_lst, te_call, ts_nil, ts_cons, a_consT, a_callT, a_clT, a_compT, a_endCT, cT_nm, cT_tp, cT_T, cT_F, c2, c2', c5, c5']
      generalize hz : loopV _ _ _ _ _ _ _ _ _ = z
      obtain ⟨E', rfl, s5, s6, rfl⟩ := loop_nx (xs := ps) (g := fun p => .int p) hz rfl (fun pre r E => ∃ s5 s6, E = [s0, s1, some (.shr (.lst (ps.map .int)) n0), some (.own (.lst (tps (wway pre more w))) true), some (.shr (.tup (w.map .int)) true), s5, s6]) ⟨s5, s6, rfl⟩ (by
        rintro pre p r E he ⟨s5, s6, rfl⟩
        obtain ⟨mn, mo⟩ := wput_all hw pre more (fun p hp => hps p (by rw [← he]; simp [hp])) mn mo
        have hp : p ∈ Q := hps p (by rw [← he]; simp)
        rw [show wway (pre ++ [p]) more w = wput (wway pre more w) w p by unfold wway; rw [List.foldl_append]; rfl]
        generalize wway pre more w = more at mn mo ⊢
        have hml := hm1 hP hP17 mn mo
        have hcat : ∀ f g, binV .Add (.lst (w.map .int), f) (.lst [.int p], g) = .ok (.lst ((w ++ [p]).map .int), ⟨true, true, true⟩) := fun f g => by
          rw [q_cat (by have := hw1 hP17 hw; have h4 : lim = 1000000 := rfl; simp; omega), show w.map D.int ++ [D.int p] = (w ++ [p]).map D.int by simp, imm_ints, Bool.or_true]
        by_cases c1 : p ∈ w
        · rw [show wput more w p = more by unfold wput; rw [if_neg fun z => z.1 c1]]
          simp only [e_var, e_con, e_glb, e_bin, e_un, e_and, e_or, e_cmp, e_chn, e_ite, e_lst, e_tup, e_dic0, e_dic, e_comp, e_call, e_bi, e_mth, e_rcv, e_att, e_idx, e_rev, e_slc, e_sort, l_nil, l_cons, i_seq, i_rng, i_rng1, i_enum, i_zip, v_shr, v_own, v_dic, g_some, o_bin, o_un, o_andT, o_andF, o_orT, o_orF, o_bol, o_cmp, o_chn, o_chT, o_chF, o_iteT, o_iteF, o_lst, o_tup, o_dic, o_cons, o_comp, o_endC, o_call, o_cl, o_clE, o_bi, o_mth, o_mth2, o_rcv, o_att, o_idx, o_rev, o_slc, o_sort, o_it, o_rng, o_rng1, o_enum, o_zip, ct_nm, ct_tp, ct_T, ct_F, ct_2, List.map_cons, List.map_nil, List.replicate, List.append_nil, List.cons_append, List.nil_append, Nat.sub_self, List.length_cons, List.length_nil, List.getElem?_cons_zero, List.getElem?_cons_succ, List.set_cons_zero, List.set_cons_succ, cmb, wipeE, if_true, if_false, Bool.not_true, Bool.not_false, Bool.false_eq_true, Bool.true_and, Bool.and_true, Bool.false_or, Bool.or_false, Bool.or_true, Bool.true_or, Bool.and_self, and_self, Bool.false_and, Bool.and_false, Int.reduceLT, Int.reduceLE, Int.reduceNeg, Nat.reduceAdd, Nat.reduceMul, Nat.reduceSub, Nat.reduceBEq, q_add, q_sub, q_mulr, q_mull, q_mod, q_fdiv, q_not, q_neg, q_lt, q_le, q_gt, q_ge, q_eqi, q_nei, q_neb, q_isb, q_t0, q_t1, q_len, q_lent, q_lens, q_list, q_listt, q_tuple, q_is1, q_is2, q_is3, q_is4, q_is5, q_is6, q_it, q_itt, q_rev, q_callT, q_calli, q_callb, imm_i, imm_b, imm_l, imm_k, imm_s, imm_n, imm_c, rcvB, fl_i, fl_b, fl_s, fl_n, fl_l, fl_t, fl_o, fl_d, iF_nil, iF_cons, iL_nil, iL_cons, imm_ints, xs_nil, xs_cons, x_asg, x_asgT, x_par, x_fld, x_ite, x_for, x_ret, x_rai, x_expr, x_pass, x_clr, x_app, x_pop, x_set, s_nx, s_rt, s_exc, lk_nil, lk_end, lk_cons, List.contains_cons, List.contains_nil, sl_L, sl_K, sl_O, sl_V, sl_F, it_V, it_r1, it_r2, it_e, it_z, w_L, w_Lk, w_Ls, w_K, w_Kl, w_O, w_V, w_Vk, w_Vs, w_F, w_Fk, w_Fs, w_Fo, w_Fn, w_it, w_itn, a_asg, a_asgE, a_nx, a_asgT, a_par, a_retO, a_retS, a_retN, a_ret, a_retE, a_app, a_clr, a_set, a_setK, a_expr, a_exprE, a_iteT, a_iteF, a_iteE, a_for, a_forO, a_forN, t_nm, t_tp, fo_shr, fo_lst, fo_dic, fo_no, en_rt, en_nx, en_exc, frz, esc, esc.escs, esc.escb, escI, tgSlots, putL, putS, D.isL, ownV, q_asg, q_asgb, q_asgt, q_asgo, q_asgl, q_asgk, q_pop0, q_nm, q_tp, x_asgD, x_mut, x_forM, x_retT, x_retX, x_callX, x_iteX, x_X, x_X0, x_Xf, x_Xm, a_mxR, a_mxR1, a_evXR, a_callXR, a_iteXR, a_asgDR, a_retTR, a_mut, a_mut2, a_mutA, a_mutC, a_mutR, a_mutS, a_setR2, a_appR2, a_remR, te_im, e_bor, e_keq, o_keq, bor_nil, bor_cons, bs_dep, bs_shr, bs_own, bs_no, dp_dep, w_Ld, w_Kd, w_Fd, fo_dep, p_nil, s_rx, en_Xrx, ok_nox, a_mut1S, a_mut1A, a_mut1R, a_mut1C, a_retXn, a_retXb, a_retXi, a_safeb, a_safei, te_comp, te_lst, te_call, ts_nil, ts_cons, a_consT, a_callT, a_clT, a_compT, a_endCT, cT_nm, cT_tp, cT_T, cT_F, hcat, q_sortl, q_intup, c1, decide_true, tup_imm, c6, c6']
          exact ⟨_, rfl, _, _, rfl⟩
        · by_cases c7 : srt (w ++ [p]) ∈ more
          · rw [show wput more w p = more by unfold wput; rw [if_neg fun z => z.2 c7]]
            simp only [e_var, e_con, e_glb, e_bin, e_un, e_and, e_or, e_cmp, e_chn, e_ite, e_lst, e_tup, e_dic0, e_dic, e_comp, e_call, e_bi, e_mth, e_rcv, e_att, e_idx, e_rev, e_slc, e_sort, l_nil, l_cons, i_seq, i_rng, i_rng1, i_enum, i_zip, v_shr, v_own, v_dic, g_some, o_bin, o_un, o_andT, o_andF, o_orT, o_orF, o_bol, o_cmp, o_chn, o_chT, o_chF, o_iteT, o_iteF, o_lst, o_tup, o_dic, o_cons, o_comp, o_endC, o_call, o_cl, o_clE, o_bi, o_mth, o_mth2, o_rcv, o_att, o_idx, o_rev, o_slc, o_sort, o_it, o_rng, o_rng1, o_enum, o_zip, ct_nm, ct_tp, ct_T, ct_F, ct_2, List.map_cons, List.map_nil, List.replicate, List.append_nil, List.cons_append, List.nil_append, Nat.sub_self, List.length_cons, List.length_nil, List.getElem?_cons_zero, List.getElem?_cons_succ, List.set_cons_zero, List.set_cons_succ, cmb, wipeE, if_true, if_false, Bool.not_true, Bool.not_false, Bool.false_eq_true, Bool.true_and, Bool.and_true, Bool.false_or, Bool.or_false, Bool.or_true, Bool.true_or, Bool.and_self, and_self, Bool.false_and, Bool.and_false, Int.reduceLT, Int.reduceLE, Int.reduceNeg, Nat.reduceAdd, Nat.reduceMul, Nat.reduceSub, Nat.reduceBEq, q_add, q_sub, q_mulr, q_mull, q_mod, q_fdiv, q_not, q_neg, q_lt, q_le, q_gt, q_ge, q_eqi, q_nei, q_neb, q_isb, q_t0, q_t1, q_len, q_lent, q_lens, q_list, q_listt, q_tuple, q_is1, q_is2, q_is3, q_is4, q_is5, q_is6, q_it, q_itt, q_rev, q_callT, q_calli, q_callb, imm_i, imm_b, imm_l, imm_k, imm_s, imm_n, imm_c, rcvB, fl_i, fl_b, fl_s, fl_n, fl_l, fl_t, fl_o, fl_d, iF_nil, iF_cons, iL_nil, iL_cons, imm_ints, xs_nil, xs_cons, x_asg, x_asgT, x_par, x_fld, x_ite, x_for, x_ret, x_rai, x_expr, x_pass, x_clr, x_app, x_pop, x_set, s_nx, s_rt, s_exc, lk_nil, lk_end, lk_cons, List.contains_cons, List.contains_nil, sl_L, sl_K, sl_O, sl_V, sl_F, it_V, it_r1, it_r2, it_e, it_z, w_L, w_Lk, w_Ls, w_K, w_Kl, w_O, w_V, w_Vk, w_Vs, w_F, w_Fk, w_Fs, w_Fo, w_Fn, w_it, w_itn, a_asg, a_asgE, a_nx, a_asgT, a_par, a_retO, a_retS, a_retN, a_ret, a_retE, a_app, a_clr, a_set, a_setK, a_expr, a_exprE, a_iteT, a_iteF, a_iteE, a_for, a_forO, a_forN, t_nm, t_tp, fo_shr, fo_lst, fo_dic, fo_no, en_rt, en_nx, en_exc, frz, esc, esc.escs, esc.escb, escI, tgSlots, putL, putS, D.isL, ownV, q_asg, q_asgb, q_asgt, q_asgo, q_asgl, q_asgk, q_pop0, q_nm, q_tp, x_asgD, x_mut, x_forM, x_retT, x_retX, x_callX, x_iteX, x_X, x_X0, x_Xf, x_Xm, a_mxR, a_mxR1, a_evXR, a_callXR, a_iteXR, a_asgDR, a_retTR, a_mut, a_mut2, a_mutA, a_mutC, a_mutR, a_mutS, a_setR2, a_appR2, a_remR, te_im, e_bor, e_keq, o_keq, bor_nil, bor_cons, bs_dep, bs_shr, bs_own, bs_no, dp_dep, w_Ld, w_Kd, w_Fd, fo_dep, p_nil, s_rx, en_Xrx, ok_nox, a_mut1S, a_mut1A, a_mut1R, a_mut1C, a_retXn, a_retXb, a_retXi, a_safeb, a_safei, te_comp, te_lst, te_call, ts_nil, ts_cons, a_consT, a_callT, a_clT, a_compT, a_endCT, cT_nm, cT_tp, cT_T, cT_F, hcat, q_sortl, q_intup, q_intps, c1, c7, decide_true, decide_false, tup_imm, c6, c6']
            exact ⟨_, rfl, _, _, rfl⟩
          · rw [show wput more w p = more ++ [srt (w ++ [p])] by unfold wput; rw [if_pos ⟨c1, c7⟩]]
            simp only [e_var, e_con, e_glb, e_bin, e_un, e_and, e_or, e_cmp, e_chn, e_ite, e_lst, e_tup, e_dic0, e_dic, e_comp, e_call, e_bi, e_mth, e_rcv, e_att, e_idx, e_rev, e_slc, e_sort, l_nil, l_cons, i_seq, i_rng, i_rng1, i_enum, i_zip, v_shr, v_own, v_dic, g_some, o_bin, o_un, o_andT, o_andF, o_orT, o_orF, o_bol, o_cmp, o_chn, o_chT, o_chF, o_iteT, o_iteF, o_lst, o_tup, o_dic, o_cons, o_comp, o_endC, o_call, o_cl, o_clE, o_bi, o_mth, o_mth2, o_rcv, o_att, o_idx, o_rev, o_slc, o_sort, o_it, o_rng, o_rng1, o_enum, o_zip, ct_nm, ct_tp, ct_T, ct_F, ct_2, List.map_cons, List.map_nil, List.replicate, List.append_nil, List.cons_append, List.nil_append, Nat.sub_self, List.length_cons, List.length_nil, List.getElem?_cons_zero, List.getElem?_cons_succ, List.set_cons_zero, List.set_cons_succ, cmb, wipeE, if_true, if_false, Bool.not_true, Bool.not_false, Bool.false_eq_true, Bool.true_and, Bool.and_true, Bool.false_or, Bool.or_false, Bool.or_true, Bool.true_or, Bool.and_self, and_self, Bool.false_and, Bool.and_false, Int.reduceLT, Int.reduceLE, Int.reduceNeg, Nat.reduceAdd, Nat.reduceMul, Nat.reduceSub, Nat.reduceBEq, q_add, q_sub, q_mulr, q_mull, q_mod, q_fdiv, q_not, q_neg, q_lt, q_le, q_gt, q_ge, q_eqi, q_nei, q_neb, q_isb, q_t0, q_t1, q_len, q_lent, q_lens, q_list, q_listt, q_tuple, q_is1, q_is2, q_is3, q_is4, q_is5, q_is6, q_it, q_itt, q_rev, q_callT, q_calli, q_callb, imm_i, imm_b, imm_l, imm_k, imm_s, imm_n, imm_c, rcvB, fl_i, fl_b, fl_s, fl_n, fl_l, fl_t, fl_o, fl_d, iF_nil, iF_cons, iL_nil, iL_cons, imm_ints, xs_nil, xs_cons, x_asg, x_asgT, x_par, x_fld, x_ite, x_for, x_ret, x_rai, x_expr, x_pass, x_clr, x_app, x_pop, x_set, s_nx, s_rt, s_exc, lk_nil, lk_end, lk_cons, List.contains_cons, List.contains_nil, sl_L, sl_K, sl_O, sl_V, sl_F, it_V, it_r1, it_r2, it_e, it_z, w_L, w_Lk, w_Ls, w_K, w_Kl, w_O, w_V, w_Vk, w_Vs, w_F, w_Fk, w_Fs, w_Fo, w_Fn, w_it, w_itn, a_asg, a_asgE, a_nx, a_asgT, a_par, a_retO, a_retS, a_retN, a_ret, a_retE, a_app, a_clr, a_set, a_setK, a_expr, a_exprE, a_iteT, a_iteF, a_iteE, a_for, a_forO, a_forN, t_nm, t_tp, fo_shr, fo_lst, fo_dic, fo_no, en_rt, en_nx, en_exc, frz, esc, esc.escs, esc.escb, escI, tgSlots, putL, putS, D.isL, ownV, q_asg, q_asgb, q_asgt, q_asgo, q_asgl, q_asgk, q_pop0, q_nm, q_tp, x_asgD, x_mut, x_forM, x_retT, x_retX, x_callX, x_iteX, x_X, x_X0, x_Xf, x_Xm, a_mxR, a_mxR1, a_evXR, a_callXR, a_iteXR, a_asgDR, a_retTR, a_mut, a_mut2, a_mutA, a_mutC, a_mutR, a_mutS, a_setR2, a_appR2, a_remR, te_im, e_bor, e_keq, o_keq, bor_nil, bor_cons, bs_dep, bs_shr, bs_own, bs_no, dp_dep, w_Ld, w_Kd, w_Fd, fo_dep, p_nil, s_rx, en_Xrx, ok_nox, a_mut1S, a_mut1A, a_mut1R, a_mut1C, a_retXn, a_retXb, a_retXi, a_safeb, a_safei, te_comp, te_lst, te_call, ts_nil, ts_cons, a_consT, a_callT, a_clT, a_compT, a_endCT, cT_nm, cT_tp, cT_T, cT_F, hcat, q_sortl, q_intup, q_intps, c1, c7, decide_false, tup_imm, c3, c6, c3', c6']
            rw [q_app (by rw [tps_len]; exact hml), show tps more ++ [D.tup ((srt (w ++ [p])).map D.int)] = tps (more ++ [srt (w ++ [p])]) by simp [tps]]
            simp only [e_var, e_con, e_glb, e_bin, e_un, e_and, e_or, e_cmp, e_chn, e_ite, e_lst, e_tup, e_dic0, e_dic, e_comp, e_call, e_bi, e_mth, e_rcv, e_att, e_idx, e_rev, e_slc, e_sort, l_nil, l_cons, i_seq, i_rng, i_rng1, i_enum, i_zip, v_shr, v_own, v_dic, g_some, o_bin, o_un, o_andT, o_andF, o_orT, o_orF, o_bol, o_cmp, o_chn, o_chT, o_chF, o_iteT, o_iteF, o_lst, o_tup, o_dic, o_cons, o_comp, o_endC, o_call, o_cl, o_clE, o_bi, o_mth, o_mth2, o_rcv, o_att, o_idx, o_rev, o_slc, o_sort, o_it, o_rng, o_rng1, o_enum, o_zip, ct_nm, ct_tp, ct_T, ct_F, ct_2, List.map_cons, List.map_nil, List.replicate, List.append_nil, List.cons_append, List.nil_append, Nat.sub_self, List.length_cons, List.length_nil, List.getElem?_cons_zero, List.getElem?_cons_succ, List.set_cons_zero, List.set_cons_succ, cmb, wipeE, if_true, if_false, Bool.not_true, Bool.not_false, Bool.false_eq_true, Bool.true_and, Bool.and_true, Bool.false_or, Bool.or_false, Bool.or_true, Bool.true_or, Bool.and_self, and_self, Bool.false_and, Bool.and_false, Int.reduceLT, Int.reduceLE, Int.reduceNeg, Nat.reduceAdd, Nat.reduceMul, Nat.reduceSub, Nat.reduceBEq, q_add, q_sub, q_mulr, q_mull, q_mod, q_fdiv, q_not, q_neg, q_lt, q_le, q_gt, q_ge, q_eqi, q_nei, q_neb, q_isb, q_t0, q_t1, q_len, q_lent, q_lens, q_list, q_listt, q_tuple, q_is1, q_is2, q_is3, q_is4, q_is5, q_is6, q_it, q_itt, q_rev, q_callT, q_calli, q_callb, imm_i, imm_b, imm_l, imm_k, imm_s, imm_n, imm_c, rcvB, fl_i, fl_b, fl_s, fl_n, fl_l, fl_t, fl_o, fl_d, iF_nil, iF_cons, iL_nil, iL_cons, imm_ints, xs_nil, xs_cons, x_asg, x_asgT, x_par, x_fld, x_ite, x_for, x_ret, x_rai, x_expr, x_pass, x_clr, x_app, x_pop, x_set, s_nx, s_rt, s_exc, lk_nil, lk_end, lk_cons, List.contains_cons, List.contains_nil, sl_L, sl_K, sl_O, sl_V, sl_F, it_V, it_r1, it_r2, it_e, it_z, w_L, w_Lk, w_Ls, w_K, w_Kl, w_O, w_V, w_Vk, w_Vs, w_F, w_Fk, w_Fs, w_Fo, w_Fn, w_it, w_itn, a_asg, a_asgE, a_nx, a_asgT, a_par, a_retO, a_retS, a_retN, a_ret, a_retE, a_app, a_clr, a_set, a_setK, a_expr, a_exprE, a_iteT, a_iteF, a_iteE, a_for, a_forO, a_forN, t_nm, t_tp, fo_shr, fo_lst, fo_dic, fo_no, en_rt, en_nx, en_exc, frz, esc, esc.escs, esc.escb, escI, tgSlots, putL, putS, D.isL, ownV, q_asg, q_asgb, q_asgt, q_asgo, q_asgl, q_asgk, q_pop0, q_nm, q_tp, x_asgD, x_mut, x_forM, x_retT, x_retX, x_callX, x_iteX, x_X, x_X0, x_Xf, x_Xm, a_mxR, a_mxR1, a_evXR, a_callXR, a_iteXR, a_asgDR, a_retTR, a_mut, a_mut2, a_mutA, a_mutC, a_mutR, a_mutS, a_setR2, a_appR2, a_remR, te_im, e_bor, e_keq, o_keq, bor_nil, bor_cons, bs_dep, bs_shr, bs_own, bs_no, dp_dep, w_Ld, w_Kd, w_Fd, fo_dep, p_nil, s_rx, en_Xrx, ok_nox, a_mut1S, a_mut1A, a_mut1R, a_mut1C, a_retXn, a_retXb, a_retXi, a_safeb, a_safei, te_comp, te_lst, te_call, ts_nil, ts_cons, a_consT, a_callT, a_clT, a_compT, a_endCT, cT_nm, cT_tp, cT_T, cT_F]
            exact ⟨_, rfl, _, _, rfl⟩)
      simp only [e_var, e_con, e_glb, e_bin, e_un, e_and, e_or, e_cmp, e_chn, e_ite, e_lst, e_tup, e_dic0, e_dic, e_comp, e_call, e_bi, e_mth, e_rcv, e_att, e_idx, e_rev, e_slc, e_sort, l_nil, l_cons, i_seq, i_rng, i_rng1, i_enum, i_zip, v_shr, v_own, v_dic, g_some, o_bin, o_un, o_andT, o_andF, o_orT, o_orF, o_bol, o_cmp, o_chn, o_chT, o_chF, o_iteT, o_iteF, o_lst, o_tup, o_dic, o_cons, o_comp, o_endC, o_call, o_cl, o_clE, o_bi, o_mth, o_mth2, o_rcv, o_att, o_idx, o_rev, o_slc, o_sort, o_it, o_rng, o_rng1, o_enum, o_zip, ct_nm, ct_tp, ct_T, ct_F, ct_2, List.map_cons, List.map_nil, List.replicate, List.append_nil, List.cons_append, List.nil_append, Nat.sub_self, List.length_cons, List.length_nil, List.getElem?_cons_zero, List.getElem?_cons_succ, List.set_cons_zero, List.set_cons_succ, cmb, wipeE, if_true, if_false, Bool.not_true, Bool.not_false, Bool.false_eq_true, Bool.true_and, Bool.and_true, Bool.false_or, Bool.or_false, Bool.or_true, Bool.true_or, Bool.and_self, and_self, Bool.false_and, Bool.and_false, Int.reduceLT, Int.reduceLE, Int.reduceNeg, Nat.reduceAdd, Nat.reduceMul, Nat.reduceSub, Nat.reduceBEq, q_add, q_sub, q_mulr, q_mull, q_mod, q_fdiv, q_not, q_neg, q_lt, q_le, q_gt, q_ge, q_eqi, q_nei, q_neb, q_isb, q_t0, q_t1, q_len, q_lent, q_lens, q_list, q_listt, q_tuple, q_is1, q_is2, q_is3, q_is4, q_is5, q_is6, q_it, q_itt, q_rev, q_callT, q_calli, q_callb, imm_i, imm_b, imm_l, imm_k, imm_s, imm_n, imm_c, rcvB, fl_i, fl_b, fl_s, fl_n, fl_l, fl_t, fl_o, fl_d, iF_nil, iF_cons, iL_nil, iL_cons, imm_ints, xs_nil, xs_cons, x_asg, x_asgT, x_par, x_fld, x_ite, x_for, x_ret, x_rai, x_expr, x_pass, x_clr, x_app, x_pop, x_set, s_nx, s_rt, s_exc, lk_nil, lk_end, lk_cons, List.contains_cons, List.contains_nil, sl_L, sl_K, sl_O, sl_V, sl_F, it_V, it_r1, it_r2, it_e, it_z, w_L, w_Lk, w_Ls, w_K, w_Kl, w_O, w_V, w_Vk, w_Vs, w_F, w_Fk, w_Fs, w_Fo, w_Fn, w_it, w_itn, a_asg, a_asgE, a_nx, a_asgT, a_par, a_retO, a_retS, a_retN, a_ret, a_retE, a_app, a_clr, a_set, a_setK, a_expr, a_exprE, a_iteT, a_iteF, a_iteE, a_for, a_forO, a_forN, t_nm, t_tp, fo_shr, fo_lst, fo_dic, fo_no, en_rt, en_nx, en_exc, frz, esc, esc.escs, esc.escb, escI, tgSlots, putL, putS, D.isL, ownV, q_asg, q_asgb, q_asgt, q_asgo, q_asgl, q_asgk, q_pop0, q_nm, q_tp, x_asgD, x_mut, x_forM, x_retT, x_retX, x_callX, x_iteX, x_X, x_X0, x_Xf, x_Xm, a_mxR, a_mxR1, a_evXR, a_callXR, a_iteXR, a_asgDR, a_retTR, a_mut, a_mut2, a_mutA, a_mutC, a_mutR, a_mutS, a_setR2, a_appR2, a_remR, te_im, e_bor, e_keq, o_keq, bor_nil, bor_cons, bs_dep, bs_shr, bs_own, bs_no, dp_dep, w_Ld, w_Kd, w_Fd, fo_dep, p_nil, s_rx, en_Xrx, ok_nox, a_mut1S, a_mut1A, a_mut1R, a_mut1C, a_retXn, a_retXb, a_retXi, a_safeb, a_safei, te_comp, te_lst, te_call, ts_nil, ts_cons, a_consT, a_callT, a_clT, a_compT, a_endCT, cT_nm, cT_tp, cT_T, cT_F]
      exact ⟨_, rfl, _, _, _, rfl⟩)
  exact ⟨_, _, _, rfl⟩
theorem r_law_posts (hT : T.fn (.fn "_law_posts") = some P.f_law_posts) (ws : List (List Int)) (Q : List Int) (hP : Q.Nodup) (hP17 : Q.length ≤ 19) (hL : ∀ ps ∈ ws, ∀ p ∈ ps, p ∈ Q) : run T W (n + 1) (.fn "_law_posts") [.lst (wtsL ws)] = .ok (.bl (!(waysOf ws).isEmpty), true) := by
  have w0 : ∀ w ∈ [([] : List Int)], WOk Q w := fun w hw => by
    rw [List.mem_singleton] at hw
    subst hw
    exact ⟨List.nodup_nil, .nil, by simp⟩
  rw [run_fn hT rfl]
  simp only [P.f_law_posts, startE, e_var, e_con, e_glb, e_bin, e_un, e_and, e_or, e_cmp, e_chn, e_ite, e_lst, e_tup, e_dic0, e_dic, e_comp, e_call, e_bi, e_mth, e_rcv, e_att, e_idx, e_rev, e_slc, e_sort, l_nil, l_cons, i_seq, i_rng, i_rng1, i_enum, i_zip, v_shr, v_own, v_dic, g_some, o_bin, o_un, o_andT, o_andF, o_orT, o_orF, o_bol, o_cmp, o_chn, o_chT, o_chF, o_iteT, o_iteF, o_lst, o_tup, o_dic, o_cons, o_comp, o_endC, o_call, o_cl, o_clE, o_bi, o_mth, o_mth2, o_rcv, o_att, o_idx, o_rev, o_slc, o_sort, o_it, o_rng, o_rng1, o_enum, o_zip, ct_nm, ct_tp, ct_T, ct_F, ct_2, List.map_cons, List.map_nil, List.replicate, List.append_nil, List.cons_append, List.nil_append, Nat.sub_self, List.length_cons, List.length_nil, List.getElem?_cons_zero, List.getElem?_cons_succ, List.set_cons_zero, List.set_cons_succ, cmb, wipeE, if_true, if_false, Bool.not_true, Bool.not_false, Bool.false_eq_true, Bool.true_and, Bool.and_true, Bool.false_or, Bool.or_false, Bool.or_true, Bool.true_or, Bool.and_self, and_self, Bool.false_and, Bool.and_false, Int.reduceLT, Int.reduceLE, Int.reduceNeg, Nat.reduceAdd, Nat.reduceMul, Nat.reduceSub, Nat.reduceBEq, q_add, q_sub, q_mulr, q_mull, q_mod, q_fdiv, q_not, q_neg, q_lt, q_le, q_gt, q_ge, q_eqi, q_nei, q_neb, q_isb, q_t0, q_t1, q_len, q_lent, q_lens, q_list, q_listt, q_tuple, q_is1, q_is2, q_is3, q_is4, q_is5, q_is6, q_it, q_itt, q_rev, q_callT, q_calli, q_callb, imm_i, imm_b, imm_l, imm_k, imm_s, imm_n, imm_c, rcvB, fl_i, fl_b, fl_s, fl_n, fl_l, fl_t, fl_o, fl_d, iF_nil, iF_cons, iL_nil, iL_cons, imm_ints, xs_nil, xs_cons, x_asg, x_asgT, x_par, x_fld, x_ite, x_for, x_ret, x_rai, x_expr, x_pass, x_clr, x_app, x_pop, x_set, s_nx, s_rt, s_exc, lk_nil, lk_end, lk_cons, List.contains_cons, List.contains_nil, sl_L, sl_K, sl_O, sl_V, sl_F, it_V, it_r1, it_r2, it_e, it_z, w_L, w_Lk, w_Ls, w_K, w_Kl, w_O, w_V, w_Vk, w_Vs, w_F, w_Fk, w_Fs, w_Fo, w_Fn, w_it, w_itn, a_asg, a_asgE, a_nx, a_asgT, a_par, a_retO, a_retS, a_retN, a_ret, a_retE, a_app, a_clr, a_set, a_setK, a_expr, a_exprE, a_iteT, a_iteF, a_iteE, a_for, a_forO, a_forN, t_nm, t_tp, fo_shr, fo_lst, fo_dic, fo_no, en_rt, en_nx, en_exc, frz, esc, esc.escs, esc.escb, escI, tgSlots, putL, putS, D.isL, ownV, q_asg, q_asgb, q_asgt, q_asgo, q_asgl, q_asgk, q_pop0, q_nm, q_tp, x_asgD, x_mut, x_forM, x_retT, x_retX, x_callX, x_iteX, x_X, x_X0, x_Xf, x_Xm, a_mxR, a_mxR1, a_evXR, a_callXR, a_iteXR, a_asgDR, a_retTR, a_mut, a_mut2, a_mutA, a_mutC, a_mutR, a_mutS, a_setR2, a_appR2, a_remR, te_im, e_bor, e_keq, o_keq, bor_nil, bor_cons, bs_dep, bs_shr, bs_own, bs_no, dp_dep, w_Ld, w_Kd, w_Fd, fo_dep, p_nil, s_rx, en_Xrx, ok_nox, a_mut1S, a_mut1A, a_mut1R, a_mut1C, a_retXn, a_retXb, a_retXi, a_safeb, a_safei, te_comp, te_lst, te_call, ts_nil, ts_cons, a_consT, a_callT, a_clT, a_compT, a_endCT, cT_nm, cT_tp, cT_T, cT_F]
  generalize hz : loopV _ _ _ _ _ _ _ _ _ = z
  obtain ⟨E', rfl, s1, s2, s3, s4, s5, s6, h1, rfl⟩ := loop_nx (xs := ws) (g := fun l => .lst (l.map .int)) hz rfl (fun pre r E => ∃ s1 s2 s3 s4 s5 s6, (s1 = some (.own (.lst (tps (pre.foldl wstep [[]]))) true) ∨ s1 = some (.shr (.lst (tps (pre.foldl wstep [[]]))) true)) ∧ E = [some (.shr (.lst (wtsL ws)) false), s1, s2, s3, s4, s5, s6]) ⟨_, none, none, none, none, none, .inl rfl, rfl⟩ (by
    rintro pre ps r E he ⟨s1, s2, s3, s4, s5, s6, h1, rfl⟩
    obtain ⟨wn, wo⟩ := wstep_all (P := Q) pre [[]] (fun ps hps => hL ps (by rw [← he]; simp [hps])) (by simp) w0
    have hps : ∀ p ∈ ps, p ∈ Q := hL ps (by rw [← he]; simp)
    rw [List.foldl_append, List.foldl_cons, List.foldl_nil]
    generalize pre.foldl wstep [[]] = ways at wn wo h1 ⊢
    rcases h1 with rfl | rfl
    · simp only [e_var, e_con, e_glb, e_bin, e_un, e_and, e_or, e_cmp, e_chn, e_ite, e_lst, e_tup, e_dic0, e_dic, e_comp, e_call, e_bi, e_mth, e_rcv, e_att, e_idx, e_rev, e_slc, e_sort, l_nil, l_cons, i_seq, i_rng, i_rng1, i_enum, i_zip, v_shr, v_own, v_dic, g_some, o_bin, o_un, o_andT, o_andF, o_orT, o_orF, o_bol, o_cmp, o_chn, o_chT, o_chF, o_iteT, o_iteF, o_lst, o_tup, o_dic, o_cons, o_comp, o_endC, o_call, o_cl, o_clE, o_bi, o_mth, o_mth2, o_rcv, o_att, o_idx, o_rev, o_slc, o_sort, o_it, o_rng, o_rng1, o_enum, o_zip, ct_nm, ct_tp, ct_T, ct_F, ct_2, List.map_cons, List.map_nil, List.replicate, List.append_nil, List.cons_append, List.nil_append, Nat.sub_self, List.length_cons, List.length_nil, List.getElem?_cons_zero, List.getElem?_cons_succ, List.set_cons_zero, List.set_cons_succ, cmb, wipeE, if_true, if_false, Bool.not_true, Bool.not_false, Bool.false_eq_true, Bool.true_and, Bool.and_true, Bool.false_or, Bool.or_false, Bool.or_true, Bool.true_or, Bool.and_self, and_self, Bool.false_and, Bool.and_false, Int.reduceLT, Int.reduceLE, Int.reduceNeg, Nat.reduceAdd, Nat.reduceMul, Nat.reduceSub, Nat.reduceBEq, q_add, q_sub, q_mulr, q_mull, q_mod, q_fdiv, q_not, q_neg, q_lt, q_le, q_gt, q_ge, q_eqi, q_nei, q_neb, q_isb, q_t0, q_t1, q_len, q_lent, q_lens, q_list, q_listt, q_tuple, q_is1, q_is2, q_is3, q_is4, q_is5, q_is6, q_it, q_itt, q_rev, q_callT, q_calli, q_callb, imm_i, imm_b, imm_l, imm_k, imm_s, imm_n, imm_c, rcvB, fl_i, fl_b, fl_s, fl_n, fl_l, fl_t, fl_o, fl_d, iF_nil, iF_cons, iL_nil, iL_cons, imm_ints, xs_nil, xs_cons, x_asg, x_asgT, x_par, x_fld, x_ite, x_for, x_ret, x_rai, x_expr, x_pass, x_clr, x_app, x_pop, x_set, s_nx, s_rt, s_exc, lk_nil, lk_end, lk_cons, List.contains_cons, List.contains_nil, sl_L, sl_K, sl_O, sl_V, sl_F, it_V, it_r1, it_r2, it_e, it_z, w_L, w_Lk, w_Ls, w_K, w_Kl, w_O, w_V, w_Vk, w_Vs, w_F, w_Fk, w_Fs, w_Fo, w_Fn, w_it, w_itn, a_asg, a_asgE, a_nx, a_asgT, a_par, a_retO, a_retS, a_retN, a_ret, a_retE, a_app, a_clr, a_set, a_setK, a_expr, a_exprE, a_iteT, a_iteF, a_iteE, a_for, a_forO, a_forN, t_nm, t_tp, fo_shr, fo_lst, fo_dic, fo_no, en_rt, en_nx, en_exc, frz, esc, esc.escs, esc.escb, escI, tgSlots, putL, putS, D.isL, ownV, q_asg, q_asgb, q_asgt, q_asgo, q_asgl, q_asgk, q_pop0, q_nm, q_tp, x_asgD, x_mut, x_forM, x_retT, x_retX, x_callX, x_iteX, x_X, x_X0, x_Xf, x_Xm, a_mxR, a_mxR1, a_evXR, a_callXR, a_iteXR, a_asgDR, a_retTR, a_mut, a_mut2, a_mutA, a_mutC, a_mutR, a_mutS, a_setR2, a_appR2, a_remR, te_im, e_bor, e_keq, o_keq, bor_nil, bor_cons, bs_dep, bs_shr, bs_own, bs_no, dp_dep, w_Ld, w_Kd, w_Fd, fo_dep, p_nil, s_rx, en_Xrx, ok_nox, a_mut1S, a_mut1A, a_mut1R, a_mut1C, a_retXn, a_retXb, a_retXi, a_safeb, a_safei, te_comp, te_lst, te_call, ts_nil, ts_cons, a_consT, a_callT, a_clT, a_compT, a_endCT, cT_nm, cT_tp, cT_T, cT_F]
      obtain ⟨s4, s5, s6, e⟩ := r_ways1 (T := T) (W := W) (C := run T W n) hP hP17 hps wo (s0 := some (.shr (.lst (wtsL ws)) false)) (s1 := some (.own (.lst (tps ways)) true)) (t4 := s4) (t5 := s5) (t6 := s6) (n0 := false) [1] (.inr rfl)
      rw [e]
      simp only [e_var, e_con, e_glb, e_bin, e_un, e_and, e_or, e_cmp, e_chn, e_ite, e_lst, e_tup, e_dic0, e_dic, e_comp, e_call, e_bi, e_mth, e_rcv, e_att, e_idx, e_rev, e_slc, e_sort, l_nil, l_cons, i_seq, i_rng, i_rng1, i_enum, i_zip, v_shr, v_own, v_dic, g_some, o_bin, o_un, o_andT, o_andF, o_orT, o_orF, o_bol, o_cmp, o_chn, o_chT, o_chF, o_iteT, o_iteF, o_lst, o_tup, o_dic, o_cons, o_comp, o_endC, o_call, o_cl, o_clE, o_bi, o_mth, o_mth2, o_rcv, o_att, o_idx, o_rev, o_slc, o_sort, o_it, o_rng, o_rng1, o_enum, o_zip, ct_nm, ct_tp, ct_T, ct_F, ct_2, List.map_cons, List.map_nil, List.replicate, List.append_nil, List.cons_append, List.nil_append, Nat.sub_self, List.length_cons, List.length_nil, List.getElem?_cons_zero, List.getElem?_cons_succ, List.set_cons_zero, List.set_cons_succ, cmb, wipeE, if_true, if_false, Bool.not_true, Bool.not_false, Bool.false_eq_true, Bool.true_and, Bool.and_true, Bool.false_or, Bool.or_false, Bool.or_true, Bool.true_or, Bool.and_self, and_self, Bool.false_and, Bool.and_false, Int.reduceLT, Int.reduceLE, Int.reduceNeg, Nat.reduceAdd, Nat.reduceMul, Nat.reduceSub, Nat.reduceBEq, q_add, q_sub, q_mulr, q_mull, q_mod, q_fdiv, q_not, q_neg, q_lt, q_le, q_gt, q_ge, q_eqi, q_nei, q_neb, q_isb, q_t0, q_t1, q_len, q_lent, q_lens, q_list, q_listt, q_tuple, q_is1, q_is2, q_is3, q_is4, q_is5, q_is6, q_it, q_itt, q_rev, q_callT, q_calli, q_callb, imm_i, imm_b, imm_l, imm_k, imm_s, imm_n, imm_c, rcvB, fl_i, fl_b, fl_s, fl_n, fl_l, fl_t, fl_o, fl_d, iF_nil, iF_cons, iL_nil, iL_cons, imm_ints, xs_nil, xs_cons, x_asg, x_asgT, x_par, x_fld, x_ite, x_for, x_ret, x_rai, x_expr, x_pass, x_clr, x_app, x_pop, x_set, s_nx, s_rt, s_exc, lk_nil, lk_end, lk_cons, List.contains_cons, List.contains_nil, sl_L, sl_K, sl_O, sl_V, sl_F, it_V, it_r1, it_r2, it_e, it_z, w_L, w_Lk, w_Ls, w_K, w_Kl, w_O, w_V, w_Vk, w_Vs, w_F, w_Fk, w_Fs, w_Fo, w_Fn, w_it, w_itn, a_asg, a_asgE, a_nx, a_asgT, a_par, a_retO, a_retS, a_retN, a_ret, a_retE, a_app, a_clr, a_set, a_setK, a_expr, a_exprE, a_iteT, a_iteF, a_iteE, a_for, a_forO, a_forN, t_nm, t_tp, fo_shr, fo_lst, fo_dic, fo_no, en_rt, en_nx, en_exc, frz, esc, esc.escs, esc.escb, escI, tgSlots, putL, putS, D.isL, ownV, q_asg, q_asgb, q_asgt, q_asgo, q_asgl, q_asgk, q_pop0, q_nm, q_tp, x_asgD, x_mut, x_forM, x_retT, x_retX, x_callX, x_iteX, x_X, x_X0, x_Xf, x_Xm, a_mxR, a_mxR1, a_evXR, a_callXR, a_iteXR, a_asgDR, a_retTR, a_mut, a_mut2, a_mutA, a_mutC, a_mutR, a_mutS, a_setR2, a_appR2, a_remR, te_im, e_bor, e_keq, o_keq, bor_nil, bor_cons, bs_dep, bs_shr, bs_own, bs_no, dp_dep, w_Ld, w_Kd, w_Fd, fo_dep, p_nil, s_rx, en_Xrx, ok_nox, a_mut1S, a_mut1A, a_mut1R, a_mut1C, a_retXn, a_retXb, a_retXi, a_safeb, a_safei, te_comp, te_lst, te_call, ts_nil, ts_cons, a_consT, a_callT, a_clT, a_compT, a_endCT, cT_nm, cT_tp, cT_T, cT_F]
      exact ⟨_, rfl, _, _, _, _, _, _, .inr rfl, rfl⟩
    · simp only [e_var, e_con, e_glb, e_bin, e_un, e_and, e_or, e_cmp, e_chn, e_ite, e_lst, e_tup, e_dic0, e_dic, e_comp, e_call, e_bi, e_mth, e_rcv, e_att, e_idx, e_rev, e_slc, e_sort, l_nil, l_cons, i_seq, i_rng, i_rng1, i_enum, i_zip, v_shr, v_own, v_dic, g_some, o_bin, o_un, o_andT, o_andF, o_orT, o_orF, o_bol, o_cmp, o_chn, o_chT, o_chF, o_iteT, o_iteF, o_lst, o_tup, o_dic, o_cons, o_comp, o_endC, o_call, o_cl, o_clE, o_bi, o_mth, o_mth2, o_rcv, o_att, o_idx, o_rev, o_slc, o_sort, o_it, o_rng, o_rng1, o_enum, o_zip, ct_nm, ct_tp, ct_T, ct_F, ct_2, List.map_cons, List.map_nil, List.replicate, List.append_nil, List.cons_append, List.nil_append, Nat.sub_self, List.length_cons, List.length_nil, List.getElem?_cons_zero, List.getElem?_cons_succ, List.set_cons_zero, List.set_cons_succ, cmb, wipeE, if_true, if_false, Bool.not_true, Bool.not_false, Bool.false_eq_true, Bool.true_and, Bool.and_true, Bool.false_or, Bool.or_false, Bool.or_true, Bool.true_or, Bool.and_self, and_self, Bool.false_and, Bool.and_false, Int.reduceLT, Int.reduceLE, Int.reduceNeg, Nat.reduceAdd, Nat.reduceMul, Nat.reduceSub, Nat.reduceBEq, q_add, q_sub, q_mulr, q_mull, q_mod, q_fdiv, q_not, q_neg, q_lt, q_le, q_gt, q_ge, q_eqi, q_nei, q_neb, q_isb, q_t0, q_t1, q_len, q_lent, q_lens, q_list, q_listt, q_tuple, q_is1, q_is2, q_is3, q_is4, q_is5, q_is6, q_it, q_itt, q_rev, q_callT, q_calli, q_callb, imm_i, imm_b, imm_l, imm_k, imm_s, imm_n, imm_c, rcvB, fl_i, fl_b, fl_s, fl_n, fl_l, fl_t, fl_o, fl_d, iF_nil, iF_cons, iL_nil, iL_cons, imm_ints, xs_nil, xs_cons, x_asg, x_asgT, x_par, x_fld, x_ite, x_for, x_ret, x_rai, x_expr, x_pass, x_clr, x_app, x_pop, x_set, s_nx, s_rt, s_exc, lk_nil, lk_end, lk_cons, List.contains_cons, List.contains_nil, sl_L, sl_K, sl_O, sl_V, sl_F, it_V, it_r1, it_r2, it_e, it_z, w_L, w_Lk, w_Ls, w_K, w_Kl, w_O, w_V, w_Vk, w_Vs, w_F, w_Fk, w_Fs, w_Fo, w_Fn, w_it, w_itn, a_asg, a_asgE, a_nx, a_asgT, a_par, a_retO, a_retS, a_retN, a_ret, a_retE, a_app, a_clr, a_set, a_setK, a_expr, a_exprE, a_iteT, a_iteF, a_iteE, a_for, a_forO, a_forN, t_nm, t_tp, fo_shr, fo_lst, fo_dic, fo_no, en_rt, en_nx, en_exc, frz, esc, esc.escs, esc.escb, escI, tgSlots, putL, putS, D.isL, ownV, q_asg, q_asgb, q_asgt, q_asgo, q_asgl, q_asgk, q_pop0, q_nm, q_tp, x_asgD, x_mut, x_forM, x_retT, x_retX, x_callX, x_iteX, x_X, x_X0, x_Xf, x_Xm, a_mxR, a_mxR1, a_evXR, a_callXR, a_iteXR, a_asgDR, a_retTR, a_mut, a_mut2, a_mutA, a_mutC, a_mutR, a_mutS, a_setR2, a_appR2, a_remR, te_im, e_bor, e_keq, o_keq, bor_nil, bor_cons, bs_dep, bs_shr, bs_own, bs_no, dp_dep, w_Ld, w_Kd, w_Fd, fo_dep, p_nil, s_rx, en_Xrx, ok_nox, a_mut1S, a_mut1A, a_mut1R, a_mut1C, a_retXn, a_retXb, a_retXi, a_safeb, a_safei, te_comp, te_lst, te_call, ts_nil, ts_cons, a_consT, a_callT, a_clT, a_compT, a_endCT, cT_nm, cT_tp, cT_T, cT_F]
      obtain ⟨s4, s5, s6, e⟩ := r_ways1 (T := T) (W := W) (C := run T W n) hP hP17 hps wo (s0 := some (.shr (.lst (wtsL ws)) false)) (s1 := some (.shr (.lst (tps ways)) true)) (t4 := s4) (t5 := s5) (t6 := s6) (n0 := false) [] (.inl rfl)
      rw [e]
      simp only [e_var, e_con, e_glb, e_bin, e_un, e_and, e_or, e_cmp, e_chn, e_ite, e_lst, e_tup, e_dic0, e_dic, e_comp, e_call, e_bi, e_mth, e_rcv, e_att, e_idx, e_rev, e_slc, e_sort, l_nil, l_cons, i_seq, i_rng, i_rng1, i_enum, i_zip, v_shr, v_own, v_dic, g_some, o_bin, o_un, o_andT, o_andF, o_orT, o_orF, o_bol, o_cmp, o_chn, o_chT, o_chF, o_iteT, o_iteF, o_lst, o_tup, o_dic, o_cons, o_comp, o_endC, o_call, o_cl, o_clE, o_bi, o_mth, o_mth2, o_rcv, o_att, o_idx, o_rev, o_slc, o_sort, o_it, o_rng, o_rng1, o_enum, o_zip, ct_nm, ct_tp, ct_T, ct_F, ct_2, List.map_cons, List.map_nil, List.replicate, List.append_nil, List.cons_append, List.nil_append, Nat.sub_self, List.length_cons, List.length_nil, List.getElem?_cons_zero, List.getElem?_cons_succ, List.set_cons_zero, List.set_cons_succ, cmb, wipeE, if_true, if_false, Bool.not_true, Bool.not_false, Bool.false_eq_true, Bool.true_and, Bool.and_true, Bool.false_or, Bool.or_false, Bool.or_true, Bool.true_or, Bool.and_self, and_self, Bool.false_and, Bool.and_false, Int.reduceLT, Int.reduceLE, Int.reduceNeg, Nat.reduceAdd, Nat.reduceMul, Nat.reduceSub, Nat.reduceBEq, q_add, q_sub, q_mulr, q_mull, q_mod, q_fdiv, q_not, q_neg, q_lt, q_le, q_gt, q_ge, q_eqi, q_nei, q_neb, q_isb, q_t0, q_t1, q_len, q_lent, q_lens, q_list, q_listt, q_tuple, q_is1, q_is2, q_is3, q_is4, q_is5, q_is6, q_it, q_itt, q_rev, q_callT, q_calli, q_callb, imm_i, imm_b, imm_l, imm_k, imm_s, imm_n, imm_c, rcvB, fl_i, fl_b, fl_s, fl_n, fl_l, fl_t, fl_o, fl_d, iF_nil, iF_cons, iL_nil, iL_cons, imm_ints, xs_nil, xs_cons, x_asg, x_asgT, x_par, x_fld, x_ite, x_for, x_ret, x_rai, x_expr, x_pass, x_clr, x_app, x_pop, x_set, s_nx, s_rt, s_exc, lk_nil, lk_end, lk_cons, List.contains_cons, List.contains_nil, sl_L, sl_K, sl_O, sl_V, sl_F, it_V, it_r1, it_r2, it_e, it_z, w_L, w_Lk, w_Ls, w_K, w_Kl, w_O, w_V, w_Vk, w_Vs, w_F, w_Fk, w_Fs, w_Fo, w_Fn, w_it, w_itn, a_asg, a_asgE, a_nx, a_asgT, a_par, a_retO, a_retS, a_retN, a_ret, a_retE, a_app, a_clr, a_set, a_setK, a_expr, a_exprE, a_iteT, a_iteF, a_iteE, a_for, a_forO, a_forN, t_nm, t_tp, fo_shr, fo_lst, fo_dic, fo_no, en_rt, en_nx, en_exc, frz, esc, esc.escs, esc.escb, escI, tgSlots, putL, putS, D.isL, ownV, q_asg, q_asgb, q_asgt, q_asgo, q_asgl, q_asgk, q_pop0, q_nm, q_tp, x_asgD, x_mut, x_forM, x_retT, x_retX, x_callX, x_iteX, x_X, x_X0, x_Xf, x_Xm, a_mxR, a_mxR1, a_evXR, a_callXR, a_iteXR, a_asgDR, a_retTR, a_mut, a_mut2, a_mutA, a_mutC, a_mutR, a_mutS, a_setR2, a_appR2, a_remR, te_im, e_bor, e_keq, o_keq, bor_nil, bor_cons, bs_dep, bs_shr, bs_own, bs_no, dp_dep, w_Ld, w_Kd, w_Fd, fo_dep, p_nil, s_rx, en_Xrx, ok_nox, a_mut1S, a_mut1A, a_mut1R, a_mut1C, a_retXn, a_retXb, a_retXi, a_safeb, a_safei, te_comp, te_lst, te_call, ts_nil, ts_cons, a_consT, a_callT, a_clT, a_compT, a_endCT, cT_nm, cT_tp, cT_T, cT_F]
      exact ⟨_, rfl, _, _, _, _, _, _, .inr rfl, rfl⟩)
  have fin : eqvL (tps (waysOf ws)) [] = (waysOf ws).isEmpty := by
    rw [eqvL_nil]
    unfold tps
    cases waysOf ws <;> rfl
  have fin2 : cmpV .NotEq (.lst (tps (ws.foldl wstep [[]]))) (.lst []) = .ok (!(waysOf ws).isEmpty) := by
    rw [q_nel (tps_dat _) rfl]
    show R.ok (!eqvL (tps (waysOf ws)) []) = _
    rw [fin]
  rcases h1 with rfl | rfl
  · simp only [e_var, e_con, e_glb, e_bin, e_un, e_and, e_or, e_cmp, e_chn, e_ite, e_lst, e_tup, e_dic0, e_dic, e_comp, e_call, e_bi, e_mth, e_rcv, e_att, e_idx, e_rev, e_slc, e_sort, l_nil, l_cons, i_seq, i_rng, i_rng1, i_enum, i_zip, v_shr, v_own, v_dic, g_some, o_bin, o_un, o_andT, o_andF, o_orT, o_orF, o_bol, o_cmp, o_chn, o_chT, o_chF, o_iteT, o_iteF, o_lst, o_tup, o_dic, o_cons, o_comp, o_endC, o_call, o_cl, o_clE, o_bi, o_mth, o_mth2, o_rcv, o_att, o_idx, o_rev, o_slc, o_sort, o_it, o_rng, o_rng1, o_enum, o_zip, ct_nm, ct_tp, ct_T, ct_F, ct_2, List.map_cons, List.map_nil, List.replicate, List.append_nil, List.cons_append, List.nil_append, Nat.sub_self, List.length_cons, List.length_nil, List.getElem?_cons_zero, List.getElem?_cons_succ, List.set_cons_zero, List.set_cons_succ, cmb, wipeE, if_true, if_false, Bool.not_true, Bool.not_false, Bool.false_eq_true, Bool.true_and, Bool.and_true, Bool.false_or, Bool.or_false, Bool.or_true, Bool.true_or, Bool.and_self, and_self, Bool.false_and, Bool.and_false, Int.reduceLT, Int.reduceLE, Int.reduceNeg, Nat.reduceAdd, Nat.reduceMul, Nat.reduceSub, Nat.reduceBEq, q_add, q_sub, q_mulr, q_mull, q_mod, q_fdiv, q_not, q_neg, q_lt, q_le, q_gt, q_ge, q_eqi, q_nei, q_neb, q_isb, q_t0, q_t1, q_len, q_lent, q_lens, q_list, q_listt, q_tuple, q_is1, q_is2, q_is3, q_is4, q_is5, q_is6, q_it, q_itt, q_rev, q_callT, q_calli, q_callb, imm_i, imm_b, imm_l, imm_k, imm_s, imm_n, imm_c, rcvB, fl_i, fl_b, fl_s, fl_n, fl_l, fl_t, fl_o, fl_d, iF_nil, iF_cons, iL_nil, iL_cons, imm_ints, xs_nil, xs_cons, x_asg, x_asgT, x_par, x_fld, x_ite, x_for, x_ret, x_rai, x_expr, x_pass, x_clr, x_app, x_pop, x_set, s_nx, s_rt, s_exc, lk_nil, lk_end, lk_cons, List.contains_cons, List.contains_nil, sl_L, sl_K, sl_O, sl_V, sl_F, it_V, it_r1, it_r2, it_e, it_z, w_L, w_Lk, w_Ls, w_K, w_Kl, w_O, w_V, w_Vk, w_Vs, w_F, w_Fk, w_Fs, w_Fo, w_Fn, w_it, w_itn, a_asg, a_asgE, a_nx, a_asgT, a_par, a_retO, a_retS, a_retN, a_ret, a_retE, a_app, a_clr, a_set, a_setK, a_expr, a_exprE, a_iteT, a_iteF, a_iteE, a_for, a_forO, a_forN, t_nm, t_tp, fo_shr, fo_lst, fo_dic, fo_no, en_rt, en_nx, en_exc, frz, esc, esc.escs, esc.escb, escI, tgSlots, putL, putS, D.isL, ownV, q_asg, q_asgb, q_asgt, q_asgo, q_asgl, q_asgk, q_pop0, q_nm, q_tp, x_asgD, x_mut, x_forM, x_retT, x_retX, x_callX, x_iteX, x_X, x_X0, x_Xf, x_Xm, a_mxR, a_mxR1, a_evXR, a_callXR, a_iteXR, a_asgDR, a_retTR, a_mut, a_mut2, a_mutA, a_mutC, a_mutR, a_mutS, a_setR2, a_appR2, a_remR, te_im, e_bor, e_keq, o_keq, bor_nil, bor_cons, bs_dep, bs_shr, bs_own, bs_no, dp_dep, w_Ld, w_Kd, w_Fd, fo_dep, p_nil, s_rx, en_Xrx, ok_nox, a_mut1S, a_mut1A, a_mut1R, a_mut1C, a_retXn, a_retXb, a_retXi, a_safeb, a_safei, te_comp, te_lst, te_call, ts_nil, ts_cons, a_consT, a_callT, a_clT, a_compT, a_endCT, cT_nm, cT_tp, cT_T, cT_F, fin2]
  · simp only [e_var, e_con, e_glb, e_bin, e_un, e_and, e_or, e_cmp, e_chn, e_ite, e_lst, e_tup, e_dic0, e_dic, e_comp, e_call, e_bi, e_mth, e_rcv, e_att, e_idx, e_rev, e_slc, e_sort, l_nil, l_cons, i_seq, i_rng, i_rng1, i_enum, i_zip, v_shr, v_own, v_dic, g_some, o_bin, o_un, o_andT, o_andF, o_orT, o_orF, o_bol, o_cmp, o_chn, o_chT, o_chF, o_iteT, o_iteF, o_lst, o_tup, o_dic, o_cons, o_comp, o_endC, o_call, o_cl, o_clE, o_bi, o_mth, o_mth2, o_rcv, o_att, o_idx, o_rev, o_slc, o_sort, o_it, o_rng, o_rng1, o_enum, o_zip, ct_nm, ct_tp, ct_T, ct_F, ct_2, List.map_cons, List.map_nil, List.replicate, List.append_nil, List.cons_append, List.nil_append, Nat.sub_self, List.length_cons, List.length_nil, List.getElem?_cons_zero, List.getElem?_cons_succ, List.set_cons_zero, List.set_cons_succ, cmb, wipeE, if_true, if_false, Bool.not_true, Bool.not_false, Bool.false_eq_true, Bool.true_and, Bool.and_true, Bool.false_or, Bool.or_false, Bool.or_true, Bool.true_or, Bool.and_self, and_self, Bool.false_and, Bool.and_false, Int.reduceLT, Int.reduceLE, Int.reduceNeg, Nat.reduceAdd, Nat.reduceMul, Nat.reduceSub, Nat.reduceBEq, q_add, q_sub, q_mulr, q_mull, q_mod, q_fdiv, q_not, q_neg, q_lt, q_le, q_gt, q_ge, q_eqi, q_nei, q_neb, q_isb, q_t0, q_t1, q_len, q_lent, q_lens, q_list, q_listt, q_tuple, q_is1, q_is2, q_is3, q_is4, q_is5, q_is6, q_it, q_itt, q_rev, q_callT, q_calli, q_callb, imm_i, imm_b, imm_l, imm_k, imm_s, imm_n, imm_c, rcvB, fl_i, fl_b, fl_s, fl_n, fl_l, fl_t, fl_o, fl_d, iF_nil, iF_cons, iL_nil, iL_cons, imm_ints, xs_nil, xs_cons, x_asg, x_asgT, x_par, x_fld, x_ite, x_for, x_ret, x_rai, x_expr, x_pass, x_clr, x_app, x_pop, x_set, s_nx, s_rt, s_exc, lk_nil, lk_end, lk_cons, List.contains_cons, List.contains_nil, sl_L, sl_K, sl_O, sl_V, sl_F, it_V, it_r1, it_r2, it_e, it_z, w_L, w_Lk, w_Ls, w_K, w_Kl, w_O, w_V, w_Vk, w_Vs, w_F, w_Fk, w_Fs, w_Fo, w_Fn, w_it, w_itn, a_asg, a_asgE, a_nx, a_asgT, a_par, a_retO, a_retS, a_retN, a_ret, a_retE, a_app, a_clr, a_set, a_setK, a_expr, a_exprE, a_iteT, a_iteF, a_iteE, a_for, a_forO, a_forN, t_nm, t_tp, fo_shr, fo_lst, fo_dic, fo_no, en_rt, en_nx, en_exc, frz, esc, esc.escs, esc.escb, escI, tgSlots, putL, putS, D.isL, ownV, q_asg, q_asgb, q_asgt, q_asgo, q_asgl, q_asgk, q_pop0, q_nm, q_tp, x_asgD, x_mut, x_forM, x_retT, x_retX, x_callX, x_iteX, x_X, x_X0, x_Xf, x_Xm, a_mxR, a_mxR1, a_evXR, a_callXR, a_iteXR, a_asgDR, a_retTR, a_mut, a_mut2, a_mutA, a_mutC, a_mutR, a_mutS, a_setR2, a_appR2, a_remR, te_im, e_bor, e_keq, o_keq, bor_nil, bor_cons, bs_dep, bs_shr, bs_own, bs_no, dp_dep, w_Ld, w_Kd, w_Fd, fo_dep, p_nil, s_rx, en_Xrx, ok_nox, a_mut1S, a_mut1A, a_mut1R, a_mut1C, a_retXn, a_retXb, a_retXi, a_safeb, a_safei, te_comp, te_lst, te_call, ts_nil, ts_cons, a_consT, a_callT, a_clT, a_compT, a_endCT, cT_nm, cT_tp, cT_T, cT_F, fin2]
end
end FS

namespace FS
open PySem L2 FS.Post
theorem filter_z {nn : Nat} {p : Nat → Bool} : ((List.range nn).filter p).Nodup ∧ ∀ q ∈ (List.range nn).filter p, q < nn := ⟨List.Pairwise.filter _ List.nodup_range, fun q hq => List.mem_range.mp (List.mem_filter.mp hq).1⟩
theorem win_nd (a : Int) (m : Nat) : ((List.range m).map fun k : Nat => a + (k : Int)).Nodup := List.Pairwise.map _ (fun x y h z => h (by omega)) List.nodup_range
theorem safe_n {ns : List Int} : safeB (mkL (ns.map .int) true) = true := safe_ints
theorem pflds_imm (ws : List (List Int)) : D.imm.immF (pflds ws) = true := by
  show (true && (D.imm.immL (wtsT ws) && true)) = true
  rw [immL_all, wtsL_imm]
  rfl
theorem obj_imm {c : Str} {fs : List (Str × D)} (h : D.imm.immF fs = true) : (D.obj c fs).imm = true := h
theorem a_safeo {c : Str} {fs : List (Str × D)} {f : Fl} (h : D.imm.immF fs = true) : safeW (.ok (.obj c fs, f)) = .ok (.obj c fs, ⟨true, true, true⟩) := a_safeW (safe_imm (obj_imm h))
theorem wtsL_dat (ws : List (List Int)) : (wtsL ws).all (D.dat 59) = true := by
  unfold wtsL
  rw [List.all_map, List.all_eq_true]
  intro l _
  exact dat_ints 58 l
theorem wtsL_eqv (ws : List (List Int)) : eqvL (wtsL ws) (wtsL ws) = true := eqvL_refl _ fun x hx => by
  obtain ⟨l, _, rfl⟩ := List.mem_map.mp hx
  show (D.lst (l.map .int)).eqv (.lst (l.map .int)) = true
  rw [show (D.lst (l.map .int)).eqv (.lst (l.map .int)) = eqvL (l.map .int) (l.map .int) by unfold D.eqv; rfl, eqvL_ints]
  simp
namespace K3
theorem pb : PB tab.tb := ⟨rfl, rfl, rfl, rfl, rfl, rfl, rfl⟩
theorem lb : LB tab.tb := ⟨rfl, rfl⟩
theorem pp : PP tab.tb := ⟨pb, rfl, rfl, rfl, rfl, rfl, rfl, rfl⟩
variable {W n : Nat}
theorem dr (c k : Int) (m : Nat) (hm : 0 < m := by decide) : run tab.tb W (n + 6) (.fn "_law_draw") [.int c, .int k, .int m] = .ok (.int (drawN c k m : Nat), true) := r_drawN (n := n + 5) lb c k hm
theorem ce (ns : List Int) (k : Nat) : run tab.tb W (n + 6) (.fn "_law_cell_at") [.scr ns, .int k] = .ok (.int (cell ns k), true) := r_cell (n := n + 5) lb ns k
theorem r_law (hW : 100 ≤ W) (ns : List Int) : ∃ m, run tab.tb W (n + 7) (.fn "law") [.scr ns] = .ok (.bl true, m) := by
  rw [run_fn (show tab.tb.fn (.fn "law") = some f_law from rfl) (by rfl)]
  have hc0 : run tab.tb W (n + 6) (.fn "_law_cell_at") [.scr ns, .int 0] = .ok (.int (cell ns 0), true) := ce ns 0
  have hc1 : run tab.tb W (n + 6) (.fn "_law_cell_at") [.scr ns, .int 1] = .ok (.int (cell ns 1), true) := ce ns 1
  obtain ⟨nn, hnn⟩ := Int.eq_ofNat_of_zero_le (show 0 ≤ cell ns 0 % 13 by omega)
  have hn13 : nn ≤ 12 := by omega
  obtain ⟨ff, hff⟩ := Int.eq_ofNat_of_zero_le (show 0 ≤ cell ns 1 % 27 by omega)
  have hn27 : ff ≤ 26 := by omega
  refine ⟨true, ?_⟩
  have hr5 : rngV (.int 0) (.int 5) = .ok ((List.range 5).map fun (k : Nat) => D.int k, true, true) := q_rngN (z := 5) (by decide)
  simp only [f_law, startE, e_var, e_con, e_glb, e_bin, e_un, e_and, e_or, e_cmp, e_chn, e_ite, e_lst, e_tup, e_dic0, e_dic, e_comp, e_call, e_bi, e_mth, e_rcv, e_att, e_idx, e_rev, e_slc, e_sort, l_nil, l_cons, i_seq, i_rng, i_rng1, i_enum, i_zip, v_shr, v_own, v_dic, g_some, o_bin, o_un, o_andT, o_andF, o_orT, o_orF, o_bol, o_cmp, o_chn, o_chT, o_chF, o_iteT, o_iteF, o_lst, o_tup, o_dic, o_cons, o_comp, o_endC, o_call, o_cl, o_clE, o_bi, o_mth, o_mth2, o_rcv, o_att, o_idx, o_rev, o_slc, o_sort, o_it, o_rng, o_rng1, o_enum, o_zip, ct_nm, ct_tp, ct_T, ct_F, ct_2, List.map_cons, List.map_nil, List.replicate, List.append_nil, List.cons_append, List.nil_append, Nat.sub_self, List.length_cons, List.length_nil, List.getElem?_cons_zero, List.getElem?_cons_succ, List.set_cons_zero, List.set_cons_succ, cmb, wipeE, if_true, if_false, Bool.not_true, Bool.not_false, Bool.false_eq_true, Bool.true_and, Bool.and_true, Bool.false_or, Bool.or_false, Bool.or_true, Bool.true_or, Bool.and_self, and_self, Bool.false_and, Bool.and_false, Int.reduceLT, Int.reduceLE, Int.reduceNeg, Nat.reduceAdd, Nat.reduceMul, Nat.reduceSub, Nat.reduceBEq, q_add, q_sub, q_mulr, q_mull, q_mod, q_fdiv, q_not, q_neg, q_lt, q_le, q_gt, q_ge, q_eqi, q_nei, q_neb, q_isb, q_t0, q_t1, q_len, q_lent, q_lens, q_list, q_listt, q_tuple, q_is1, q_is2, q_is3, q_is4, q_is5, q_is6, q_it, q_itt, q_rev, q_callT, q_calli, q_callb, imm_i, imm_b, imm_l, imm_k, imm_s, imm_n, imm_c, rcvB, fl_i, fl_b, fl_s, fl_n, fl_l, fl_t, fl_o, fl_d, iF_nil, iF_cons, iL_nil, iL_cons, imm_ints, xs_nil, xs_cons, x_asg, x_asgT, x_par, x_fld, x_ite, x_for, x_ret, x_rai, x_expr, x_pass, x_clr, x_app, x_pop, x_set, s_nx, s_rt, s_exc, lk_nil, lk_end, lk_cons, List.contains_cons, List.contains_nil, sl_L, sl_K, sl_O, sl_V, sl_F, it_V, it_r1, it_r2, it_e, it_z, w_L, w_Lk, w_Ls, w_K, w_Kl, w_O, w_V, w_Vk, w_Vs, w_F, w_Fk, w_Fs, w_Fo, w_Fn, w_it, w_itn, a_asg, a_asgE, a_nx, a_asgT, a_par, a_retO, a_retS, a_retN, a_ret, a_retE, a_app, a_clr, a_set, a_setK, a_expr, a_exprE, a_iteT, a_iteF, a_iteE, a_for, a_forO, a_forN, t_nm, t_tp, fo_shr, fo_lst, fo_dic, fo_no, en_rt, en_nx, en_exc, frz, esc, esc.escs, esc.escb, escI, tgSlots, putL, putS, D.isL, ownV, q_asg, q_asgb, q_asgt, q_asgo, q_asgl, q_asgk, q_pop0, q_nm, q_tp, x_asgD, x_mut, x_forM, x_retT, x_retX, x_callX, x_iteX, x_X, x_X0, x_Xf, x_Xm, a_mxR, a_mxR1, a_evXR, a_callXR, a_iteXR, a_asgDR, a_retTR, a_mut, a_mut2, a_mutA, a_mutC, a_mutR, a_mutS, a_setR2, a_appR2, a_remR, te_im, e_bor, e_keq, o_keq, bor_nil, bor_cons, bs_dep, bs_shr, bs_own, bs_no, dp_dep, w_Ld, w_Kd, w_Fd, fo_dep, p_nil, s_rx, en_Xrx, ok_nox, a_mut1S, a_mut1A, a_mut1R, a_mut1C, a_retXn, a_retXb, a_retXi, a_safeb, a_safei, te_comp, te_lst, te_call, ts_nil, ts_cons, a_consT, a_callT, a_clT, a_compT, a_endCT, cT_nm, cT_tp, cT_T, cT_F, hc0, hc1, hnn, hff, q_rngN (show nn ≤ 1000000 by omega)]
  generalize hz : loopV _ _ _ _ _ _ _ _ _ = z
  obtain ⟨E', rfl, l, Q, s4, s5, s6, hln, hQ, hQw, hQl, hl, rfl⟩ := loop_nxR (nn := nn) hz rfl (fun k E => ∃ (l : List (List Int)) (Q : List Int) (s4 s5 s6 : Option Slot), l.length = k ∧ Q.Nodup ∧ (∀ q : Nat, q < 5 → (ff : Int) + q ∈ Q) ∧ Q.length ≤ 5 + k ∧ (∀ t ∈ l, t.Nodup ∧ t.length ≤ 1000 ∧ (∀ p ∈ t, 0 ≤ p ∧ p ≤ 30) ∧ (∀ p ∈ t, p ∈ Q)) ∧ E = [some (.shr (.scr ns) false), some (.shr (.int nn) true), some (.shr (.int ff) true), some (.own (.lst (wtsL l)) true), s4, s5, s6, none, none, none, none, none, none, none]) ⟨[], (List.range 5).map fun k : Nat => (ff : Int) + k, none, none, none, rfl, win_nd ff 5, fun q hq => List.mem_map.mpr ⟨q, List.mem_range.mpr hq, rfl⟩, by simp, by simp, rfl⟩ (by
    rintro k E hk ⟨l, Q, s4, s5, s6, hln, hQ, hQw, hQl, hl, rfl⟩
    have h1 : (2 : Int) + (k : Int) % 9 = ((2 + k % 9 : Nat) : Int) := by omega
    simp only [e_var, e_con, e_glb, e_bin, e_un, e_and, e_or, e_cmp, e_chn, e_ite, e_lst, e_tup, e_dic0, e_dic, e_comp, e_call, e_bi, e_mth, e_rcv, e_att, e_idx, e_rev, e_slc, e_sort, l_nil, l_cons, i_seq, i_rng, i_rng1, i_enum, i_zip, v_shr, v_own, v_dic, g_some, o_bin, o_un, o_andT, o_andF, o_orT, o_orF, o_bol, o_cmp, o_chn, o_chT, o_chF, o_iteT, o_iteF, o_lst, o_tup, o_dic, o_cons, o_comp, o_endC, o_call, o_cl, o_clE, o_bi, o_mth, o_mth2, o_rcv, o_att, o_idx, o_rev, o_slc, o_sort, o_it, o_rng, o_rng1, o_enum, o_zip, ct_nm, ct_tp, ct_T, ct_F, ct_2, List.map_cons, List.map_nil, List.replicate, List.append_nil, List.cons_append, List.nil_append, Nat.sub_self, List.length_cons, List.length_nil, List.getElem?_cons_zero, List.getElem?_cons_succ, List.set_cons_zero, List.set_cons_succ, cmb, wipeE, if_true, if_false, Bool.not_true, Bool.not_false, Bool.false_eq_true, Bool.true_and, Bool.and_true, Bool.false_or, Bool.or_false, Bool.or_true, Bool.true_or, Bool.and_self, and_self, Bool.false_and, Bool.and_false, Int.reduceLT, Int.reduceLE, Int.reduceNeg, Nat.reduceAdd, Nat.reduceMul, Nat.reduceSub, Nat.reduceBEq, q_add, q_sub, q_mulr, q_mull, q_mod, q_fdiv, q_not, q_neg, q_lt, q_le, q_gt, q_ge, q_eqi, q_nei, q_neb, q_isb, q_t0, q_t1, q_len, q_lent, q_lens, q_list, q_listt, q_tuple, q_is1, q_is2, q_is3, q_is4, q_is5, q_is6, q_it, q_itt, q_rev, q_callT, q_calli, q_callb, imm_i, imm_b, imm_l, imm_k, imm_s, imm_n, imm_c, rcvB, fl_i, fl_b, fl_s, fl_n, fl_l, fl_t, fl_o, fl_d, iF_nil, iF_cons, iL_nil, iL_cons, imm_ints, xs_nil, xs_cons, x_asg, x_asgT, x_par, x_fld, x_ite, x_for, x_ret, x_rai, x_expr, x_pass, x_clr, x_app, x_pop, x_set, s_nx, s_rt, s_exc, lk_nil, lk_end, lk_cons, List.contains_cons, List.contains_nil, sl_L, sl_K, sl_O, sl_V, sl_F, it_V, it_r1, it_r2, it_e, it_z, w_L, w_Lk, w_Ls, w_K, w_Kl, w_O, w_V, w_Vk, w_Vs, w_F, w_Fk, w_Fs, w_Fo, w_Fn, w_it, w_itn, a_asg, a_asgE, a_nx, a_asgT, a_par, a_retO, a_retS, a_retN, a_ret, a_retE, a_app, a_clr, a_set, a_setK, a_expr, a_exprE, a_iteT, a_iteF, a_iteE, a_for, a_forO, a_forN, t_nm, t_tp, fo_shr, fo_lst, fo_dic, fo_no, en_rt, en_nx, en_exc, frz, esc, esc.escs, esc.escb, escI, tgSlots, putL, putS, D.isL, ownV, q_asg, q_asgb, q_asgt, q_asgo, q_asgl, q_asgk, q_pop0, q_nm, q_tp, x_asgD, x_mut, x_forM, x_retT, x_retX, x_callX, x_iteX, x_X, x_X0, x_Xf, x_Xm, a_mxR, a_mxR1, a_evXR, a_callXR, a_iteXR, a_asgDR, a_retTR, a_mut, a_mut2, a_mutA, a_mutC, a_mutR, a_mutS, a_setR2, a_appR2, a_remR, te_im, e_bor, e_keq, o_keq, bor_nil, bor_cons, bs_dep, bs_shr, bs_own, bs_no, dp_dep, w_Ld, w_Kd, w_Fd, fo_dep, p_nil, s_rx, en_Xrx, ok_nox, a_mut1S, a_mut1A, a_mut1R, a_mut1C, a_retXn, a_retXb, a_retXi, a_safeb, a_safei, te_comp, te_lst, te_call, ts_nil, ts_cons, a_consT, a_callT, a_clT, a_compT, a_endCT, cT_nm, cT_tp, cT_T, cT_F, h1, ce, hr5]
    generalize cell ns (2 + k % 9) + 977 * (k : Int) = c
    rw [compL_go (g := fun q : Nat => D.int (q : Int)) (f := fun q : Nat => .int ((ff : Int) + q)) (p := fun q : Nat => decide (drawN (c + 31 * q) 0 5 < 2)) (fun q _ => by
      have := dr (W := W) (n := n) (c + 31 * q) 0 5
      simp only [Int.cast_ofNat_Int] at this
      simp only [e_var, e_con, e_glb, e_bin, e_un, e_and, e_or, e_cmp, e_chn, e_ite, e_lst, e_tup, e_dic0, e_dic, e_comp, e_call, e_bi, e_mth, e_rcv, e_att, e_idx, e_rev, e_slc, e_sort, l_nil, l_cons, i_seq, i_rng, i_rng1, i_enum, i_zip, v_shr, v_own, v_dic, g_some, o_bin, o_un, o_andT, o_andF, o_orT, o_orF, o_bol, o_cmp, o_chn, o_chT, o_chF, o_iteT, o_iteF, o_lst, o_tup, o_dic, o_cons, o_comp, o_endC, o_call, o_cl, o_clE, o_bi, o_mth, o_mth2, o_rcv, o_att, o_idx, o_rev, o_slc, o_sort, o_it, o_rng, o_rng1, o_enum, o_zip, ct_nm, ct_tp, ct_T, ct_F, ct_2, List.map_cons, List.map_nil, List.replicate, List.append_nil, List.cons_append, List.nil_append, Nat.sub_self, List.length_cons, List.length_nil, List.getElem?_cons_zero, List.getElem?_cons_succ, List.set_cons_zero, List.set_cons_succ, cmb, wipeE, if_true, if_false, Bool.not_true, Bool.not_false, Bool.false_eq_true, Bool.true_and, Bool.and_true, Bool.false_or, Bool.or_false, Bool.or_true, Bool.true_or, Bool.and_self, and_self, Bool.false_and, Bool.and_false, Int.reduceLT, Int.reduceLE, Int.reduceNeg, Nat.reduceAdd, Nat.reduceMul, Nat.reduceSub, Nat.reduceBEq, q_add, q_sub, q_mulr, q_mull, q_mod, q_fdiv, q_not, q_neg, q_lt, q_le, q_gt, q_ge, q_eqi, q_nei, q_neb, q_isb, q_t0, q_t1, q_len, q_lent, q_lens, q_list, q_listt, q_tuple, q_is1, q_is2, q_is3, q_is4, q_is5, q_is6, q_it, q_itt, q_rev, q_callT, q_calli, q_callb, imm_i, imm_b, imm_l, imm_k, imm_s, imm_n, imm_c, rcvB, fl_i, fl_b, fl_s, fl_n, fl_l, fl_t, fl_o, fl_d, iF_nil, iF_cons, iL_nil, iL_cons, imm_ints, this]
      by_cases h : drawN (c + 31 * q) 0 5 < 2
      · rw [decide_eq_true (show ((drawN (c + 31 * q) 0 5 : Nat) : Int) < 2 by omega), decide_eq_true h]
        simp only [e_var, e_con, e_glb, e_bin, e_un, e_and, e_or, e_cmp, e_chn, e_ite, e_lst, e_tup, e_dic0, e_dic, e_comp, e_call, e_bi, e_mth, e_rcv, e_att, e_idx, e_rev, e_slc, e_sort, l_nil, l_cons, i_seq, i_rng, i_rng1, i_enum, i_zip, v_shr, v_own, v_dic, g_some, o_bin, o_un, o_andT, o_andF, o_orT, o_orF, o_bol, o_cmp, o_chn, o_chT, o_chF, o_iteT, o_iteF, o_lst, o_tup, o_dic, o_cons, o_comp, o_endC, o_call, o_cl, o_clE, o_bi, o_mth, o_mth2, o_rcv, o_att, o_idx, o_rev, o_slc, o_sort, o_it, o_rng, o_rng1, o_enum, o_zip, ct_nm, ct_tp, ct_T, ct_F, ct_2, List.map_cons, List.map_nil, List.replicate, List.append_nil, List.cons_append, List.nil_append, Nat.sub_self, List.length_cons, List.length_nil, List.getElem?_cons_zero, List.getElem?_cons_succ, List.set_cons_zero, List.set_cons_succ, cmb, wipeE, if_true, if_false, Bool.not_true, Bool.not_false, Bool.false_eq_true, Bool.true_and, Bool.and_true, Bool.false_or, Bool.or_false, Bool.or_true, Bool.true_or, Bool.and_self, and_self, Bool.false_and, Bool.and_false, Int.reduceLT, Int.reduceLE, Int.reduceNeg, Nat.reduceAdd, Nat.reduceMul, Nat.reduceSub, Nat.reduceBEq, q_add, q_sub, q_mulr, q_mull, q_mod, q_fdiv, q_not, q_neg, q_lt, q_le, q_gt, q_ge, q_eqi, q_nei, q_neb, q_isb, q_t0, q_t1, q_len, q_lent, q_lens, q_list, q_listt, q_tuple, q_is1, q_is2, q_is3, q_is4, q_is5, q_is6, q_it, q_itt, q_rev, q_callT, q_calli, q_callb, imm_i, imm_b, imm_l, imm_k, imm_s, imm_n, imm_c, rcvB, fl_i, fl_b, fl_s, fl_n, fl_l, fl_t, fl_o, fl_d, iF_nil, iF_cons, iL_nil, iL_cons, imm_ints]
      · rw [decide_eq_false (show ¬ ((drawN (c + 31 * q) 0 5 : Nat) : Int) < 2 by omega), decide_eq_false h]
        simp only [e_var, e_con, e_glb, e_bin, e_un, e_and, e_or, e_cmp, e_chn, e_ite, e_lst, e_tup, e_dic0, e_dic, e_comp, e_call, e_bi, e_mth, e_rcv, e_att, e_idx, e_rev, e_slc, e_sort, l_nil, l_cons, i_seq, i_rng, i_rng1, i_enum, i_zip, v_shr, v_own, v_dic, g_some, o_bin, o_un, o_andT, o_andF, o_orT, o_orF, o_bol, o_cmp, o_chn, o_chT, o_chF, o_iteT, o_iteF, o_lst, o_tup, o_dic, o_cons, o_comp, o_endC, o_call, o_cl, o_clE, o_bi, o_mth, o_mth2, o_rcv, o_att, o_idx, o_rev, o_slc, o_sort, o_it, o_rng, o_rng1, o_enum, o_zip, ct_nm, ct_tp, ct_T, ct_F, ct_2, List.map_cons, List.map_nil, List.replicate, List.append_nil, List.cons_append, List.nil_append, Nat.sub_self, List.length_cons, List.length_nil, List.getElem?_cons_zero, List.getElem?_cons_succ, List.set_cons_zero, List.set_cons_succ, cmb, wipeE, if_true, if_false, Bool.not_true, Bool.not_false, Bool.false_eq_true, Bool.true_and, Bool.and_true, Bool.false_or, Bool.or_false, Bool.or_true, Bool.true_or, Bool.and_self, and_self, Bool.false_and, Bool.and_false, Int.reduceLT, Int.reduceLE, Int.reduceNeg, Nat.reduceAdd, Nat.reduceMul, Nat.reduceSub, Nat.reduceBEq, q_add, q_sub, q_mulr, q_mull, q_mod, q_fdiv, q_not, q_neg, q_lt, q_le, q_gt, q_ge, q_eqi, q_nei, q_neb, q_isb, q_t0, q_t1, q_len, q_lent, q_lens, q_list, q_listt, q_tuple, q_is1, q_is2, q_is3, q_is4, q_is5, q_is6, q_it, q_itt, q_rev, q_callT, q_calli, q_callb, imm_i, imm_b, imm_l, imm_k, imm_s, imm_n, imm_c, rcvB, fl_i, fl_b, fl_s, fl_n, fl_l, fl_t, fl_o, fl_d, iF_nil, iF_cons, iL_nil, iL_cons, imm_ints])]
    generalize hs : (List.range 5).filter (fun q : Nat => decide (drawN (c + 31 * q) 0 5 < 2)) = sel
    have hsn : sel.Nodup := by rw [← hs]; exact filter_z.1
    have hsm : ∀ q ∈ sel, q < 5 := by rw [← hs]; exact filter_z.2
    have hsl : sel.length ≤ 5 := by
      have := List.Nodup.length_le_of_subset hsn (l₂ := List.range 5) fun q hq => List.mem_range.mpr (hsm q hq)
      simpa using this
    clear hs
    obtain ⟨pw, hpw⟩ : ∃ pw : List Int, pw = (sel.map fun q : Nat => (ff : Int) + q).reverse := ⟨_, rfl⟩
    have hpl : pw.length ≤ 5 := by rw [hpw]; simpa using hsl
    have hpn : pw.Nodup := by rw [hpw]; exact List.pairwise_reverse.mpr ((List.Pairwise.map _ (fun x y h z => h (by omega)) hsn).imp Ne.symm)
    have hpm : ∀ p ∈ pw, 0 ≤ p ∧ p ≤ 30 ∧ ∃ q : Nat, q < 5 ∧ p = (ff : Int) + q := fun p hp => by
      rw [hpw, List.mem_reverse, List.mem_map] at hp
      obtain ⟨q, hq, rfl⟩ := hp
      have := hsm q hq
      exact ⟨by omega, by omega, q, this, rfl⟩
    have erev : revV (.lst (sel.map fun q : Nat => D.int ((ff : Int) + q)), ⟨true, true, true⟩) = .ok (.lst (pw.map .int), ⟨true, true, true⟩) := by
      have e : (sel.map fun q : Nat => D.int ((ff : Int) + q)).reverse = pw.map D.int := by
        rw [hpw, List.map_reverse, List.map_map]
        rfl
      rw [q_rev, e, imm_ints, Bool.or_true]
    have hll : (wtsL l).length < lim := by
      unfold wtsL
      rw [List.length_map]
      have : lim = 1000000 := rfl
      omega
    simp only [e_var, e_con, e_glb, e_bin, e_un, e_and, e_or, e_cmp, e_chn, e_ite, e_lst, e_tup, e_dic0, e_dic, e_comp, e_call, e_bi, e_mth, e_rcv, e_att, e_idx, e_rev, e_slc, e_sort, l_nil, l_cons, i_seq, i_rng, i_rng1, i_enum, i_zip, v_shr, v_own, v_dic, g_some, o_bin, o_un, o_andT, o_andF, o_orT, o_orF, o_bol, o_cmp, o_chn, o_chT, o_chF, o_iteT, o_iteF, o_lst, o_tup, o_dic, o_cons, o_comp, o_endC, o_call, o_cl, o_clE, o_bi, o_mth, o_mth2, o_rcv, o_att, o_idx, o_rev, o_slc, o_sort, o_it, o_rng, o_rng1, o_enum, o_zip, ct_nm, ct_tp, ct_T, ct_F, ct_2, List.map_cons, List.map_nil, List.replicate, List.append_nil, List.cons_append, List.nil_append, Nat.sub_self, List.length_cons, List.length_nil, List.getElem?_cons_zero, List.getElem?_cons_succ, List.set_cons_zero, List.set_cons_succ, cmb, wipeE, if_true, if_false, Bool.not_true, Bool.not_false, Bool.false_eq_true, Bool.true_and, Bool.and_true, Bool.false_or, Bool.or_false, Bool.or_true, Bool.true_or, Bool.and_self, and_self, Bool.false_and, Bool.and_false, Int.reduceLT, Int.reduceLE, Int.reduceNeg, Nat.reduceAdd, Nat.reduceMul, Nat.reduceSub, Nat.reduceBEq, q_add, q_sub, q_mulr, q_mull, q_mod, q_fdiv, q_not, q_neg, q_lt, q_le, q_gt, q_ge, q_eqi, q_nei, q_neb, q_isb, q_t0, q_t1, q_len, q_lent, q_lens, q_list, q_listt, q_tuple, q_is1, q_is2, q_is3, q_is4, q_is5, q_is6, q_it, q_itt, q_rev, q_callT, q_calli, q_callb, imm_i, imm_b, imm_l, imm_k, imm_s, imm_n, imm_c, rcvB, fl_i, fl_b, fl_s, fl_n, fl_l, fl_t, fl_o, fl_d, iF_nil, iF_cons, iL_nil, iL_cons, imm_ints, xs_nil, xs_cons, x_asg, x_asgT, x_par, x_fld, x_ite, x_for, x_ret, x_rai, x_expr, x_pass, x_clr, x_app, x_pop, x_set, s_nx, s_rt, s_exc, lk_nil, lk_end, lk_cons, List.contains_cons, List.contains_nil, sl_L, sl_K, sl_O, sl_V, sl_F, it_V, it_r1, it_r2, it_e, it_z, w_L, w_Lk, w_Ls, w_K, w_Kl, w_O, w_V, w_Vk, w_Vs, w_F, w_Fk, w_Fs, w_Fo, w_Fn, w_it, w_itn, a_asg, a_asgE, a_nx, a_asgT, a_par, a_retO, a_retS, a_retN, a_ret, a_retE, a_app, a_clr, a_set, a_setK, a_expr, a_exprE, a_iteT, a_iteF, a_iteE, a_for, a_forO, a_forN, t_nm, t_tp, fo_shr, fo_lst, fo_dic, fo_no, en_rt, en_nx, en_exc, frz, esc, esc.escs, esc.escb, escI, tgSlots, putL, putS, D.isL, ownV, q_asg, q_asgb, q_asgt, q_asgo, q_asgl, q_asgk, q_pop0, q_nm, q_tp, x_asgD, x_mut, x_forM, x_retT, x_retX, x_callX, x_iteX, x_X, x_X0, x_Xf, x_Xm, a_mxR, a_mxR1, a_evXR, a_callXR, a_iteXR, a_asgDR, a_retTR, a_mut, a_mut2, a_mutA, a_mutC, a_mutR, a_mutS, a_setR2, a_appR2, a_remR, te_im, e_bor, e_keq, o_keq, bor_nil, bor_cons, bs_dep, bs_shr, bs_own, bs_no, dp_dep, w_Ld, w_Kd, w_Fd, fo_dep, p_nil, s_rx, en_Xrx, ok_nox, a_mut1S, a_mut1A, a_mut1R, a_mut1C, a_retXn, a_retXb, a_retXi, a_safeb, a_safei, te_comp, te_lst, te_call, ts_nil, ts_cons, a_consT, a_callT, a_clT, a_compT, a_endCT, cT_nm, cT_tp, cT_T, cT_F, erev]
    rw [q_app hll, show wtsL l ++ [D.lst (pw.map .int)] = wtsL (l ++ [pw]) by simp [wtsL]]
    have d1 := dr (W := W) (n := n) c 1 9
    have d2 := dr (W := W) (n := n) c 2 31
    simp only [Int.cast_ofNat_Int] at d1 d2
    have b2 := drawN_lt c 2 (m := 31) (by decide)
    generalize drawN c 1 9 = a1 at *
    generalize drawN c 2 31 = a2 at *
    by_cases h0 : a1 = 0
    · have hset : ∀ E : SEnv, setLV E 3 (wtsL (l ++ [pw])) true (.int k) (.lst [.int a2], ⟨true, true, true⟩) = .ok (.nx (E.set 3 (some (.own (.lst (wtsL (l ++ [[(a2 : Int)]]))) true)))) := fun E => by
        rw [q_setL (by unfold wtsL; rw [List.length_map, List.length_append, hln]; simp)]
        have : (wtsL (l ++ [pw])).set k (.lst [.int a2]) = wtsL (l ++ [[(a2 : Int)]]) := by
          unfold wtsL
          rw [List.map_append, List.map_append, List.set_append_right _ _ (by rw [List.length_map]; omega), List.length_map, hln, Nat.sub_self]
          rfl
        rw [this]
        rfl
      simp only [e_var, e_con, e_glb, e_bin, e_un, e_and, e_or, e_cmp, e_chn, e_ite, e_lst, e_tup, e_dic0, e_dic, e_comp, e_call, e_bi, e_mth, e_rcv, e_att, e_idx, e_rev, e_slc, e_sort, l_nil, l_cons, i_seq, i_rng, i_rng1, i_enum, i_zip, v_shr, v_own, v_dic, g_some, o_bin, o_un, o_andT, o_andF, o_orT, o_orF, o_bol, o_cmp, o_chn, o_chT, o_chF, o_iteT, o_iteF, o_lst, o_tup, o_dic, o_cons, o_comp, o_endC, o_call, o_cl, o_clE, o_bi, o_mth, o_mth2, o_rcv, o_att, o_idx, o_rev, o_slc, o_sort, o_it, o_rng, o_rng1, o_enum, o_zip, ct_nm, ct_tp, ct_T, ct_F, ct_2, List.map_cons, List.map_nil, List.replicate, List.append_nil, List.cons_append, List.nil_append, Nat.sub_self, List.length_cons, List.length_nil, List.getElem?_cons_zero, List.getElem?_cons_succ, List.set_cons_zero, List.set_cons_succ, cmb, wipeE, if_true, if_false, Bool.not_true, Bool.not_false, Bool.false_eq_true, Bool.true_and, Bool.and_true, Bool.false_or, Bool.or_false, Bool.or_true, Bool.true_or, Bool.and_self, and_self, Bool.false_and, Bool.and_false, Int.reduceLT, Int.reduceLE, Int.reduceNeg, Nat.reduceAdd, Nat.reduceMul, Nat.reduceSub, Nat.reduceBEq, q_add, q_sub, q_mulr, q_mull, q_mod, q_fdiv, q_not, q_neg, q_lt, q_le, q_gt, q_ge, q_eqi, q_nei, q_neb, q_isb, q_t0, q_t1, q_len, q_lent, q_lens, q_list, q_listt, q_tuple, q_is1, q_is2, q_is3, q_is4, q_is5, q_is6, q_it, q_itt, q_rev, q_callT, q_calli, q_callb, imm_i, imm_b, imm_l, imm_k, imm_s, imm_n, imm_c, rcvB, fl_i, fl_b, fl_s, fl_n, fl_l, fl_t, fl_o, fl_d, iF_nil, iF_cons, iL_nil, iL_cons, imm_ints, xs_nil, xs_cons, x_asg, x_asgT, x_par, x_fld, x_ite, x_for, x_ret, x_rai, x_expr, x_pass, x_clr, x_app, x_pop, x_set, s_nx, s_rt, s_exc, lk_nil, lk_end, lk_cons, List.contains_cons, List.contains_nil, sl_L, sl_K, sl_O, sl_V, sl_F, it_V, it_r1, it_r2, it_e, it_z, w_L, w_Lk, w_Ls, w_K, w_Kl, w_O, w_V, w_Vk, w_Vs, w_F, w_Fk, w_Fs, w_Fo, w_Fn, w_it, w_itn, a_asg, a_asgE, a_nx, a_asgT, a_par, a_retO, a_retS, a_retN, a_ret, a_retE, a_app, a_clr, a_set, a_setK, a_expr, a_exprE, a_iteT, a_iteF, a_iteE, a_for, a_forO, a_forN, t_nm, t_tp, fo_shr, fo_lst, fo_dic, fo_no, en_rt, en_nx, en_exc, frz, esc, esc.escs, esc.escb, escI, tgSlots, putL, putS, D.isL, ownV, q_asg, q_asgb, q_asgt, q_asgo, q_asgl, q_asgk, q_pop0, q_nm, q_tp, x_asgD, x_mut, x_forM, x_retT, x_retX, x_callX, x_iteX, x_X, x_X0, x_Xf, x_Xm, a_mxR, a_mxR1, a_evXR, a_callXR, a_iteXR, a_asgDR, a_retTR, a_mut, a_mut2, a_mutA, a_mutC, a_mutR, a_mutS, a_setR2, a_appR2, a_remR, te_im, e_bor, e_keq, o_keq, bor_nil, bor_cons, bs_dep, bs_shr, bs_own, bs_no, dp_dep, w_Ld, w_Kd, w_Fd, fo_dep, p_nil, s_rx, en_Xrx, ok_nox, a_mut1S, a_mut1A, a_mut1R, a_mut1C, a_retXn, a_retXb, a_retXi, a_safeb, a_safei, te_comp, te_lst, te_call, ts_nil, ts_cons, a_consT, a_callT, a_clT, a_compT, a_endCT, cT_nm, cT_tp, cT_T, cT_F, d1, d2, z0T h0, hset]
      have sub : ∀ p ∈ Q, p ∈ (if (a2 : Int) ∈ Q then Q else Q ++ [(a2 : Int)]) := fun p hp => by
        split
        · exact hp
        · exact List.mem_append.mpr (.inl hp)
      refine ⟨_, rfl, l ++ [[(a2 : Int)]], if (a2 : Int) ∈ Q then Q else Q ++ [(a2 : Int)], _, _, _, by simp [hln], ?_, fun q hq => sub _ (hQw q hq), ?_, fun t ht => ?_, rfl⟩
      · split
        · exact hQ
        · rename_i c
          rw [List.nodup_append]
          exact ⟨hQ, by simp, fun a ha b hb e => c (by rw [List.mem_singleton] at hb; rw [← hb, ← e]; exact ha)⟩
      · split
        · omega
        · rw [List.length_append]; simp; omega
      · rcases List.mem_append.mp ht with ht | ht
        · obtain ⟨g1, g2, g3, g4⟩ := hl t ht
          exact ⟨g1, g2, g3, fun p hp => sub p (g4 p hp)⟩
        · rw [List.mem_singleton] at ht
          subst ht
          refine ⟨by simp, by simp, fun p hp => ?_, fun p hp => ?_⟩
          · rw [List.mem_singleton] at hp; omega
          · rw [List.mem_singleton] at hp
            subst hp
            split
            · assumption
            · simp
    · simp only [e_var, e_con, e_glb, e_bin, e_un, e_and, e_or, e_cmp, e_chn, e_ite, e_lst, e_tup, e_dic0, e_dic, e_comp, e_call, e_bi, e_mth, e_rcv, e_att, e_idx, e_rev, e_slc, e_sort, l_nil, l_cons, i_seq, i_rng, i_rng1, i_enum, i_zip, v_shr, v_own, v_dic, g_some, o_bin, o_un, o_andT, o_andF, o_orT, o_orF, o_bol, o_cmp, o_chn, o_chT, o_chF, o_iteT, o_iteF, o_lst, o_tup, o_dic, o_cons, o_comp, o_endC, o_call, o_cl, o_clE, o_bi, o_mth, o_mth2, o_rcv, o_att, o_idx, o_rev, o_slc, o_sort, o_it, o_rng, o_rng1, o_enum, o_zip, ct_nm, ct_tp, ct_T, ct_F, ct_2, List.map_cons, List.map_nil, List.replicate, List.append_nil, List.cons_append, List.nil_append, Nat.sub_self, List.length_cons, List.length_nil, List.getElem?_cons_zero, List.getElem?_cons_succ, List.set_cons_zero, List.set_cons_succ, cmb, wipeE, if_true, if_false, Bool.not_true, Bool.not_false, Bool.false_eq_true, Bool.true_and, Bool.and_true, Bool.false_or, Bool.or_false, Bool.or_true, Bool.true_or, Bool.and_self, and_self, Bool.false_and, Bool.and_false, Int.reduceLT, Int.reduceLE, Int.reduceNeg, Nat.reduceAdd, Nat.reduceMul, Nat.reduceSub, Nat.reduceBEq, q_add, q_sub, q_mulr, q_mull, q_mod, q_fdiv, q_not, q_neg, q_lt, q_le, q_gt, q_ge, q_eqi, q_nei, q_neb, q_isb, q_t0, q_t1, q_len, q_lent, q_lens, q_list, q_listt, q_tuple, q_is1, q_is2, q_is3, q_is4, q_is5, q_is6, q_it, q_itt, q_rev, q_callT, q_calli, q_callb, imm_i, imm_b, imm_l, imm_k, imm_s, imm_n, imm_c, rcvB, fl_i, fl_b, fl_s, fl_n, fl_l, fl_t, fl_o, fl_d, iF_nil, iF_cons, iL_nil, iL_cons, imm_ints, xs_nil, xs_cons, x_asg, x_asgT, x_par, x_fld, x_ite, x_for, x_ret, x_rai, x_expr, x_pass, x_clr, x_app, x_pop, x_set, s_nx, s_rt, s_exc, lk_nil, lk_end, lk_cons, List.contains_cons, List.contains_nil, sl_L, sl_K, sl_O, sl_V, sl_F, it_V, it_r1, it_r2, it_e, it_z, w_L, w_Lk, w_Ls, w_K, w_Kl, w_O, w_V, w_Vk, w_Vs, w_F, w_Fk, w_Fs, w_Fo, w_Fn, w_it, w_itn, a_asg, a_asgE, a_nx, a_asgT, a_par, a_retO, a_retS, a_retN, a_ret, a_retE, a_app, a_clr, a_set, a_setK, a_expr, a_exprE, a_iteT, a_iteF, a_iteE, a_for, a_forO, a_forN, t_nm, t_tp, fo_shr, fo_lst, fo_dic, fo_no, en_rt, en_nx, en_exc, frz, esc, esc.escs, esc.escb, escI, tgSlots, putL, putS, D.isL, ownV, q_asg, q_asgb, q_asgt, q_asgo, q_asgl, q_asgk, q_pop0, q_nm, q_tp, x_asgD, x_mut, x_forM, x_retT, x_retX, x_callX, x_iteX, x_X, x_X0, x_Xf, x_Xm, a_mxR, a_mxR1, a_evXR, a_callXR, a_iteXR, a_asgDR, a_retTR, a_mut, a_mut2, a_mutA, a_mutC, a_mutR, a_mutS, a_setR2, a_appR2, a_remR, te_im, e_bor, e_keq, o_keq, bor_nil, bor_cons, bs_dep, bs_shr, bs_own, bs_no, dp_dep, w_Ld, w_Kd, w_Fd, fo_dep, p_nil, s_rx, en_Xrx, ok_nox, a_mut1S, a_mut1A, a_mut1R, a_mut1C, a_retXn, a_retXb, a_retXi, a_safeb, a_safei, te_comp, te_lst, te_call, ts_nil, ts_cons, a_consT, a_callT, a_clT, a_compT, a_endCT, cT_nm, cT_tp, cT_T, cT_F, d1, z0F h0]
      refine ⟨_, rfl, l ++ [pw], Q, _, _, _, by simp [hln], hQ, hQw, by omega, fun t ht => ?_, rfl⟩
      rcases List.mem_append.mp ht with ht | ht
      · exact hl t ht
      · rw [List.mem_singleton] at ht
        subst ht
        refine ⟨hpn, by omega, fun p hp => ⟨(hpm p hp).1, (hpm p hp).2.1⟩, fun p hp => ?_⟩
        obtain ⟨_, _, q, hq, rfl⟩ := hpm p hp
        exact hQw q hq)
  clear hz
  have hll : l.length ≤ 16 := by omega
  have hM : run tab.tb W (n + 6) (.mk "Posts") [.lst (wtsL l)] = .ok (.obj "Posts" (pflds l), true) := by
    rw [run_mk]
    exact r_iPosts (n := n + 1) pp l hll fun t ht => ⟨(hl t ht).1, (hl t ht).2.1, (hl t ht).2.2.1⟩
  have hmany : run tab.tb W (n + 6) (.me "Rule" "many") [.obj "Posts" (pflds l)] = .ok (.int nn, true) := r_many (n := n + 5) pb "Posts" (pflds l) nn (by rw [← hln]; rfl)
  have hm2 : mthC tab.tb "many" (.obj "Posts" (pflds l)) = .ok "Rule" := mth_ok rfl (by rfl)
  have hf2 : mthC tab.tb "free" (.obj "Posts" (pflds l)) = .ok "Rule" := mth_ok rfl (by rfl)
  have hsub : tab.tb.sub "Posts" "Rule" = true := by rfl
  have hr8 : rngV (.int 0) (.int 8) = .ok ((List.range 8).map fun (k : Nat) => D.int k, true, true) := q_rngN (z := 8) (by decide)
  have hfr : ∀ ks : List Nat, ks.Nodup → ks.length ≤ 20 → (∀ k ∈ ks, k < nn) → run tab.tb W (n + 6) (.me "Rule" "free") [.obj "Posts" (pflds l), .lst (natD ks)] = .ok (.bl (sdrB l ks), true) := fun ks h1 h2 h3 =>
    r_free (n := n + 2) pb "Posts" "Posts" (pflds l) nn ks .bad (by rw [← hln]; rfl) rfl (by rfl) h1 (by omega) h3 _ (r_pStands (n := n + 2) pp hW l ks h1 h2 (by rw [hln]; exact h3))
  have hcomp : ∀ t4 t5 t6, compTL tab.tb (run tab.tb W (n + 6)) (.bi .list (.cons (.var 8) .nil)) (.nm 8) (.con (.bl true)) true [some (.shr (.scr ns) false), some (.shr (.int nn) true), some (.shr (.int ff) true), some (.own (.lst (wtsL l)) true), t4, t5, t6, none, none, none, none, none, none, none] (wtsL l) = .ok (wtsL l, true) := fun t4 t5 t6 => by
    generalize hE : [some (Slot.shr (.scr ns) false), some (.shr (.int nn) true), some (.shr (.int ff) true), some (.own (.lst (wtsL l)) true), t4, t5, t6, none, none, none, none, none, none, none] = E
    rw [show wtsL l = l.map (fun t => D.lst (t.map D.int)) from rfl]
    rw [compTL_all (xs := l) (g := fun t => .lst (t.map .int)) (f := fun t => .lst (t.map .int)) (fun t _ => by
      subst hE
      simp only [e_var, e_con, e_glb, e_bin, e_un, e_and, e_or, e_cmp, e_chn, e_ite, e_lst, e_tup, e_dic0, e_dic, e_comp, e_call, e_bi, e_mth, e_rcv, e_att, e_idx, e_rev, e_slc, e_sort, l_nil, l_cons, i_seq, i_rng, i_rng1, i_enum, i_zip, v_shr, v_own, v_dic, g_some, o_bin, o_un, o_andT, o_andF, o_orT, o_orF, o_bol, o_cmp, o_chn, o_chT, o_chF, o_iteT, o_iteF, o_lst, o_tup, o_dic, o_cons, o_comp, o_endC, o_call, o_cl, o_clE, o_bi, o_mth, o_mth2, o_rcv, o_att, o_idx, o_rev, o_slc, o_sort, o_it, o_rng, o_rng1, o_enum, o_zip, ct_nm, ct_tp, ct_T, ct_F, ct_2, List.map_cons, List.map_nil, List.replicate, List.append_nil, List.cons_append, List.nil_append, Nat.sub_self, List.length_cons, List.length_nil, List.getElem?_cons_zero, List.getElem?_cons_succ, List.set_cons_zero, List.set_cons_succ, cmb, wipeE, if_true, if_false, Bool.not_true, Bool.not_false, Bool.false_eq_true, Bool.true_and, Bool.and_true, Bool.false_or, Bool.or_false, Bool.or_true, Bool.true_or, Bool.and_self, and_self, Bool.false_and, Bool.and_false, Int.reduceLT, Int.reduceLE, Int.reduceNeg, Nat.reduceAdd, Nat.reduceMul, Nat.reduceSub, Nat.reduceBEq, q_add, q_sub, q_mulr, q_mull, q_mod, q_fdiv, q_not, q_neg, q_lt, q_le, q_gt, q_ge, q_eqi, q_nei, q_neb, q_isb, q_t0, q_t1, q_len, q_lent, q_lens, q_list, q_listt, q_tuple, q_is1, q_is2, q_is3, q_is4, q_is5, q_is6, q_it, q_itt, q_rev, q_callT, q_calli, q_callb, imm_i, imm_b, imm_l, imm_k, imm_s, imm_n, imm_c, rcvB, fl_i, fl_b, fl_s, fl_n, fl_l, fl_t, fl_o, fl_d, iF_nil, iF_cons, iL_nil, iL_cons, imm_ints, xs_nil, xs_cons, x_asg, x_asgT, x_par, x_fld, x_ite, x_for, x_ret, x_rai, x_expr, x_pass, x_clr, x_app, x_pop, x_set, s_nx, s_rt, s_exc, lk_nil, lk_end, lk_cons, List.contains_cons, List.contains_nil, sl_L, sl_K, sl_O, sl_V, sl_F, it_V, it_r1, it_r2, it_e, it_z, w_L, w_Lk, w_Ls, w_K, w_Kl, w_O, w_V, w_Vk, w_Vs, w_F, w_Fk, w_Fs, w_Fo, w_Fn, w_it, w_itn, a_asg, a_asgE, a_nx, a_asgT, a_par, a_retO, a_retS, a_retN, a_ret, a_retE, a_app, a_clr, a_set, a_setK, a_expr, a_exprE, a_iteT, a_iteF, a_iteE, a_for, a_forO, a_forN, t_nm, t_tp, fo_shr, fo_lst, fo_dic, fo_no, en_rt, en_nx, en_exc, frz, esc, esc.escs, esc.escb, escI, tgSlots, putL, putS, D.isL, ownV, q_asg, q_asgb, q_asgt, q_asgo, q_asgl, q_asgk, q_pop0, q_nm, q_tp, x_asgD, x_mut, x_forM, x_retT, x_retX, x_callX, x_iteX, x_X, x_X0, x_Xf, x_Xm, a_mxR, a_mxR1, a_evXR, a_callXR, a_iteXR, a_asgDR, a_retTR, a_mut, a_mut2, a_mutA, a_mutC, a_mutR, a_mutS, a_setR2, a_appR2, a_remR, te_im, e_bor, e_keq, o_keq, bor_nil, bor_cons, bs_dep, bs_shr, bs_own, bs_no, dp_dep, w_Ld, w_Kd, w_Fd, fo_dep, p_nil, s_rx, en_Xrx, ok_nox, a_mut1S, a_mut1A, a_mut1R, a_mut1C, a_retXn, a_retXb, a_retXi, a_safeb, a_safei, te_comp, te_lst, te_call, ts_nil, ts_cons, a_consT, a_callT, a_clT, a_compT, a_endCT, cT_nm, cT_tp, cT_T, cT_F]
      rw [cT_2 safe_ints])]
  have hclr : allM .clr (wtsL l) = .ok (l.map fun _ => D.lst []) := by
    have := allM_map (xs := l.map fun t => t.map D.int)
    rw [List.map_map, List.map_map] at this
    exact this
  simp only [e_var, e_con, e_glb, e_bin, e_un, e_and, e_or, e_cmp, e_chn, e_ite, e_lst, e_tup, e_dic0, e_dic, e_comp, e_call, e_bi, e_mth, e_rcv, e_att, e_idx, e_rev, e_slc, e_sort, l_nil, l_cons, i_seq, i_rng, i_rng1, i_enum, i_zip, v_shr, v_own, v_dic, g_some, o_bin, o_un, o_andT, o_andF, o_orT, o_orF, o_bol, o_cmp, o_chn, o_chT, o_chF, o_iteT, o_iteF, o_lst, o_tup, o_dic, o_cons, o_comp, o_endC, o_call, o_cl, o_clE, o_bi, o_mth, o_mth2, o_rcv, o_att, o_idx, o_rev, o_slc, o_sort, o_it, o_rng, o_rng1, o_enum, o_zip, ct_nm, ct_tp, ct_T, ct_F, ct_2, List.map_cons, List.map_nil, List.replicate, List.append_nil, List.cons_append, List.nil_append, Nat.sub_self, List.length_cons, List.length_nil, List.getElem?_cons_zero, List.getElem?_cons_succ, List.set_cons_zero, List.set_cons_succ, cmb, wipeE, if_true, if_false, Bool.not_true, Bool.not_false, Bool.false_eq_true, Bool.true_and, Bool.and_true, Bool.false_or, Bool.or_false, Bool.or_true, Bool.true_or, Bool.and_self, and_self, Bool.false_and, Bool.and_false, Int.reduceLT, Int.reduceLE, Int.reduceNeg, Nat.reduceAdd, Nat.reduceMul, Nat.reduceSub, Nat.reduceBEq, q_add, q_sub, q_mulr, q_mull, q_mod, q_fdiv, q_not, q_neg, q_lt, q_le, q_gt, q_ge, q_eqi, q_nei, q_neb, q_isb, q_t0, q_t1, q_len, q_lent, q_lens, q_list, q_listt, q_tuple, q_is1, q_is2, q_is3, q_is4, q_is5, q_is6, q_it, q_itt, q_rev, q_callT, q_calli, q_callb, imm_i, imm_b, imm_l, imm_k, imm_s, imm_n, imm_c, rcvB, fl_i, fl_b, fl_s, fl_n, fl_l, fl_t, fl_o, fl_d, iF_nil, iF_cons, iL_nil, iL_cons, imm_ints, xs_nil, xs_cons, x_asg, x_asgT, x_par, x_fld, x_ite, x_for, x_ret, x_rai, x_expr, x_pass, x_clr, x_app, x_pop, x_set, s_nx, s_rt, s_exc, lk_nil, lk_end, lk_cons, List.contains_cons, List.contains_nil, sl_L, sl_K, sl_O, sl_V, sl_F, it_V, it_r1, it_r2, it_e, it_z, w_L, w_Lk, w_Ls, w_K, w_Kl, w_O, w_V, w_Vk, w_Vs, w_F, w_Fk, w_Fs, w_Fo, w_Fn, w_it, w_itn, a_asg, a_asgE, a_nx, a_asgT, a_par, a_retO, a_retS, a_retN, a_ret, a_retE, a_app, a_clr, a_set, a_setK, a_expr, a_exprE, a_iteT, a_iteF, a_iteE, a_for, a_forO, a_forN, t_nm, t_tp, fo_shr, fo_lst, fo_dic, fo_no, en_rt, en_nx, en_exc, frz, esc, esc.escs, esc.escb, escI, tgSlots, putL, putS, D.isL, ownV, q_asg, q_asgb, q_asgt, q_asgo, q_asgl, q_asgk, q_pop0, q_nm, q_tp, x_asgD, x_mut, x_forM, x_retT, x_retX, x_callX, x_iteX, x_X, x_X0, x_Xf, x_Xm, a_mxR, a_mxR1, a_evXR, a_callXR, a_iteXR, a_asgDR, a_retTR, a_mut, a_mut2, a_mutA, a_mutC, a_mutR, a_mutS, a_setR2, a_appR2, a_remR, te_im, e_bor, e_keq, o_keq, bor_nil, bor_cons, bs_dep, bs_shr, bs_own, bs_no, dp_dep, w_Ld, w_Kd, w_Fd, fo_dep, p_nil, s_rx, en_Xrx, ok_nox, a_mut1S, a_mut1A, a_mut1R, a_mut1C, a_retXn, a_retXb, a_retXi, a_safeb, a_safei, te_comp, te_lst, te_call, ts_nil, ts_cons, a_consT, a_callT, a_clT, a_compT, a_endCT, cT_nm, cT_tp, cT_T, cT_F, hcomp, hM, a_safeo (pflds_imm l), obj_imm (pflds_imm l), q_nel (wtsL_dat l) (wtsL_dat l), wtsL_eqv, hsub, hm2, hmany, beq_self_eq_true, a_forM hclr, hr8, Nat.reduceLT, decide_true]
  generalize hz : loopV _ _ _ _ _ _ _ _ _ = z
  obtain ⟨E', rfl, s4, s5, s10, s11, s12, s13, rfl⟩ := loop_nxR (nn := 8) hz rfl (fun k E => ∃ (s4 s5 s10 s11 s12 s13 : Option Slot), E = [some (.shr (.scr ns) false), some (.shr (.int nn) true), some (.shr (.int ff) true), some (.own (.lst (wtsL l)) true), s4, s5, s6, some (.dep (.lst (l.map fun _ => .lst []))), none, some (.shr (.obj "Posts" (pflds l)) true), s10, s11, s12, s13]) ⟨s4, s5, none, none, none, none, rfl⟩ (by
    rintro k E hk ⟨s4, s5, s10, s11, s12, s13, rfl⟩
    simp only [e_var, e_con, e_glb, e_bin, e_un, e_and, e_or, e_cmp, e_chn, e_ite, e_lst, e_tup, e_dic0, e_dic, e_comp, e_call, e_bi, e_mth, e_rcv, e_att, e_idx, e_rev, e_slc, e_sort, l_nil, l_cons, i_seq, i_rng, i_rng1, i_enum, i_zip, v_shr, v_own, v_dic, g_some, o_bin, o_un, o_andT, o_andF, o_orT, o_orF, o_bol, o_cmp, o_chn, o_chT, o_chF, o_iteT, o_iteF, o_lst, o_tup, o_dic, o_cons, o_comp, o_endC, o_call, o_cl, o_clE, o_bi, o_mth, o_mth2, o_rcv, o_att, o_idx, o_rev, o_slc, o_sort, o_it, o_rng, o_rng1, o_enum, o_zip, ct_nm, ct_tp, ct_T, ct_F, ct_2, List.map_cons, List.map_nil, List.replicate, List.append_nil, List.cons_append, List.nil_append, Nat.sub_self, List.length_cons, List.length_nil, List.getElem?_cons_zero, List.getElem?_cons_succ, List.set_cons_zero, List.set_cons_succ, cmb, wipeE, if_true, if_false, Bool.not_true, Bool.not_false, Bool.false_eq_true, Bool.true_and, Bool.and_true, Bool.false_or, Bool.or_false, Bool.or_true, Bool.true_or, Bool.and_self, and_self, Bool.false_and, Bool.and_false, Int.reduceLT, Int.reduceLE, Int.reduceNeg, Nat.reduceAdd, Nat.reduceMul, Nat.reduceSub, Nat.reduceBEq, q_add, q_sub, q_mulr, q_mull, q_mod, q_fdiv, q_not, q_neg, q_lt, q_le, q_gt, q_ge, q_eqi, q_nei, q_neb, q_isb, q_t0, q_t1, q_len, q_lent, q_lens, q_list, q_listt, q_tuple, q_is1, q_is2, q_is3, q_is4, q_is5, q_is6, q_it, q_itt, q_rev, q_callT, q_calli, q_callb, imm_i, imm_b, imm_l, imm_k, imm_s, imm_n, imm_c, rcvB, fl_i, fl_b, fl_s, fl_n, fl_l, fl_t, fl_o, fl_d, iF_nil, iF_cons, iL_nil, iL_cons, imm_ints, xs_nil, xs_cons, x_asg, x_asgT, x_par, x_fld, x_ite, x_for, x_ret, x_rai, x_expr, x_pass, x_clr, x_app, x_pop, x_set, s_nx, s_rt, s_exc, lk_nil, lk_end, lk_cons, List.contains_cons, List.contains_nil, sl_L, sl_K, sl_O, sl_V, sl_F, it_V, it_r1, it_r2, it_e, it_z, w_L, w_Lk, w_Ls, w_K, w_Kl, w_O, w_V, w_Vk, w_Vs, w_F, w_Fk, w_Fs, w_Fo, w_Fn, w_it, w_itn, a_asg, a_asgE, a_nx, a_asgT, a_par, a_retO, a_retS, a_retN, a_ret, a_retE, a_app, a_clr, a_set, a_setK, a_expr, a_exprE, a_iteT, a_iteF, a_iteE, a_for, a_forO, a_forN, t_nm, t_tp, fo_shr, fo_lst, fo_dic, fo_no, en_rt, en_nx, en_exc, frz, esc, esc.escs, esc.escb, escI, tgSlots, putL, putS, D.isL, ownV, q_asg, q_asgb, q_asgt, q_asgo, q_asgl, q_asgk, q_pop0, q_nm, q_tp, x_asgD, x_mut, x_forM, x_retT, x_retX, x_callX, x_iteX, x_X, x_X0, x_Xf, x_Xm, a_mxR, a_mxR1, a_evXR, a_callXR, a_iteXR, a_asgDR, a_retTR, a_mut, a_mut2, a_mutA, a_mutC, a_mutR, a_mutS, a_setR2, a_appR2, a_remR, te_im, e_bor, e_keq, o_keq, bor_nil, bor_cons, bs_dep, bs_shr, bs_own, bs_no, dp_dep, w_Ld, w_Kd, w_Fd, fo_dep, p_nil, s_rx, en_Xrx, ok_nox, a_mut1S, a_mut1A, a_mut1R, a_mut1C, a_retXn, a_retXb, a_retXi, a_safeb, a_safei, te_comp, te_lst, te_call, ts_nil, ts_cons, a_consT, a_callT, a_clT, a_compT, a_endCT, cT_nm, cT_tp, cT_T, cT_F, ce, q_rngN (show nn ≤ 1000000 by omega)]
    generalize cell ns k + 31 * (k : Int) = c
    have hmod : (2 : Int) + (k : Int) % 3 = ((2 + k % 3 : Nat) : Int) := by omega
    rw [compL_go (g := fun k : Nat => D.int (k : Int)) (f := fun k : Nat => .int (k : Int)) (p := fun q : Nat => drawN (c + 41 * q) 3 (2 + k % 3) == 0) (fun q _ => by
      simp only [e_var, e_con, e_glb, e_bin, e_un, e_and, e_or, e_cmp, e_chn, e_ite, e_lst, e_tup, e_dic0, e_dic, e_comp, e_call, e_bi, e_mth, e_rcv, e_att, e_idx, e_rev, e_slc, e_sort, l_nil, l_cons, i_seq, i_rng, i_rng1, i_enum, i_zip, v_shr, v_own, v_dic, g_some, o_bin, o_un, o_andT, o_andF, o_orT, o_orF, o_bol, o_cmp, o_chn, o_chT, o_chF, o_iteT, o_iteF, o_lst, o_tup, o_dic, o_cons, o_comp, o_endC, o_call, o_cl, o_clE, o_bi, o_mth, o_mth2, o_rcv, o_att, o_idx, o_rev, o_slc, o_sort, o_it, o_rng, o_rng1, o_enum, o_zip, ct_nm, ct_tp, ct_T, ct_F, ct_2, List.map_cons, List.map_nil, List.replicate, List.append_nil, List.cons_append, List.nil_append, Nat.sub_self, List.length_cons, List.length_nil, List.getElem?_cons_zero, List.getElem?_cons_succ, List.set_cons_zero, List.set_cons_succ, cmb, wipeE, if_true, if_false, Bool.not_true, Bool.not_false, Bool.false_eq_true, Bool.true_and, Bool.and_true, Bool.false_or, Bool.or_false, Bool.or_true, Bool.true_or, Bool.and_self, and_self, Bool.false_and, Bool.and_false, Int.reduceLT, Int.reduceLE, Int.reduceNeg, Nat.reduceAdd, Nat.reduceMul, Nat.reduceSub, Nat.reduceBEq, q_add, q_sub, q_mulr, q_mull, q_mod, q_fdiv, q_not, q_neg, q_lt, q_le, q_gt, q_ge, q_eqi, q_nei, q_neb, q_isb, q_t0, q_t1, q_len, q_lent, q_lens, q_list, q_listt, q_tuple, q_is1, q_is2, q_is3, q_is4, q_is5, q_is6, q_it, q_itt, q_rev, q_callT, q_calli, q_callb, imm_i, imm_b, imm_l, imm_k, imm_s, imm_n, imm_c, rcvB, fl_i, fl_b, fl_s, fl_n, fl_l, fl_t, fl_o, fl_d, iF_nil, iF_cons, iL_nil, iL_cons, imm_ints, hmod]
      have := dr (W := W) (n := n) (c + 41 * q) 3 (2 + k % 3) (by omega)
      simp only [this, e_var, e_con, e_glb, e_bin, e_un, e_and, e_or, e_cmp, e_chn, e_ite, e_lst, e_tup, e_dic0, e_dic, e_comp, e_call, e_bi, e_mth, e_rcv, e_att, e_idx, e_rev, e_slc, e_sort, l_nil, l_cons, i_seq, i_rng, i_rng1, i_enum, i_zip, v_shr, v_own, v_dic, g_some, o_bin, o_un, o_andT, o_andF, o_orT, o_orF, o_bol, o_cmp, o_chn, o_chT, o_chF, o_iteT, o_iteF, o_lst, o_tup, o_dic, o_cons, o_comp, o_endC, o_call, o_cl, o_clE, o_bi, o_mth, o_mth2, o_rcv, o_att, o_idx, o_rev, o_slc, o_sort, o_it, o_rng, o_rng1, o_enum, o_zip, ct_nm, ct_tp, ct_T, ct_F, ct_2, List.map_cons, List.map_nil, List.replicate, List.append_nil, List.cons_append, List.nil_append, Nat.sub_self, List.length_cons, List.length_nil, List.getElem?_cons_zero, List.getElem?_cons_succ, List.set_cons_zero, List.set_cons_succ, cmb, wipeE, if_true, if_false, Bool.not_true, Bool.not_false, Bool.false_eq_true, Bool.true_and, Bool.and_true, Bool.false_or, Bool.or_false, Bool.or_true, Bool.true_or, Bool.and_self, and_self, Bool.false_and, Bool.and_false, Int.reduceLT, Int.reduceLE, Int.reduceNeg, Nat.reduceAdd, Nat.reduceMul, Nat.reduceSub, Nat.reduceBEq, q_add, q_sub, q_mulr, q_mull, q_mod, q_fdiv, q_not, q_neg, q_lt, q_le, q_gt, q_ge, q_eqi, q_nei, q_neb, q_isb, q_t0, q_t1, q_len, q_lent, q_lens, q_list, q_listt, q_tuple, q_is1, q_is2, q_is3, q_is4, q_is5, q_is6, q_it, q_itt, q_rev, q_callT, q_calli, q_callb, imm_i, imm_b, imm_l, imm_k, imm_s, imm_n, imm_c, rcvB, fl_i, fl_b, fl_s, fl_n, fl_l, fl_t, fl_o, fl_d, iF_nil, iF_cons, iL_nil, iL_cons, imm_ints]
      by_cases h : drawN (c + 41 * q) 3 (2 + k % 3) = 0
      · simp only [h, e_var, e_con, e_glb, e_bin, e_un, e_and, e_or, e_cmp, e_chn, e_ite, e_lst, e_tup, e_dic0, e_dic, e_comp, e_call, e_bi, e_mth, e_rcv, e_att, e_idx, e_rev, e_slc, e_sort, l_nil, l_cons, i_seq, i_rng, i_rng1, i_enum, i_zip, v_shr, v_own, v_dic, g_some, o_bin, o_un, o_andT, o_andF, o_orT, o_orF, o_bol, o_cmp, o_chn, o_chT, o_chF, o_iteT, o_iteF, o_lst, o_tup, o_dic, o_cons, o_comp, o_endC, o_call, o_cl, o_clE, o_bi, o_mth, o_mth2, o_rcv, o_att, o_idx, o_rev, o_slc, o_sort, o_it, o_rng, o_rng1, o_enum, o_zip, ct_nm, ct_tp, ct_T, ct_F, ct_2, List.map_cons, List.map_nil, List.replicate, List.append_nil, List.cons_append, List.nil_append, Nat.sub_self, List.length_cons, List.length_nil, List.getElem?_cons_zero, List.getElem?_cons_succ, List.set_cons_zero, List.set_cons_succ, cmb, wipeE, if_true, if_false, Bool.not_true, Bool.not_false, Bool.false_eq_true, Bool.true_and, Bool.and_true, Bool.false_or, Bool.or_false, Bool.or_true, Bool.true_or, Bool.and_self, and_self, Bool.false_and, Bool.and_false, Int.reduceLT, Int.reduceLE, Int.reduceNeg, Nat.reduceAdd, Nat.reduceMul, Nat.reduceSub, Nat.reduceBEq, q_add, q_sub, q_mulr, q_mull, q_mod, q_fdiv, q_not, q_neg, q_lt, q_le, q_gt, q_ge, q_eqi, q_nei, q_neb, q_isb, q_t0, q_t1, q_len, q_lent, q_lens, q_list, q_listt, q_tuple, q_is1, q_is2, q_is3, q_is4, q_is5, q_is6, q_it, q_itt, q_rev, q_callT, q_calli, q_callb, imm_i, imm_b, imm_l, imm_k, imm_s, imm_n, imm_c, rcvB, fl_i, fl_b, fl_s, fl_n, fl_l, fl_t, fl_o, fl_d, iF_nil, iF_cons, iL_nil, iL_cons, imm_ints]
        rfl
      · have h1 : ((drawN (c + 41 * q) 3 (2 + k % 3) : Nat) : Int) ≠ 0 := by omega
        simp only [beq_eq_false_iff_ne.mpr h1, beq_eq_false_iff_ne.mpr h, e_var, e_con, e_glb, e_bin, e_un, e_and, e_or, e_cmp, e_chn, e_ite, e_lst, e_tup, e_dic0, e_dic, e_comp, e_call, e_bi, e_mth, e_rcv, e_att, e_idx, e_rev, e_slc, e_sort, l_nil, l_cons, i_seq, i_rng, i_rng1, i_enum, i_zip, v_shr, v_own, v_dic, g_some, o_bin, o_un, o_andT, o_andF, o_orT, o_orF, o_bol, o_cmp, o_chn, o_chT, o_chF, o_iteT, o_iteF, o_lst, o_tup, o_dic, o_cons, o_comp, o_endC, o_call, o_cl, o_clE, o_bi, o_mth, o_mth2, o_rcv, o_att, o_idx, o_rev, o_slc, o_sort, o_it, o_rng, o_rng1, o_enum, o_zip, ct_nm, ct_tp, ct_T, ct_F, ct_2, List.map_cons, List.map_nil, List.replicate, List.append_nil, List.cons_append, List.nil_append, Nat.sub_self, List.length_cons, List.length_nil, List.getElem?_cons_zero, List.getElem?_cons_succ, List.set_cons_zero, List.set_cons_succ, cmb, wipeE, if_true, if_false, Bool.not_true, Bool.not_false, Bool.false_eq_true, Bool.true_and, Bool.and_true, Bool.false_or, Bool.or_false, Bool.or_true, Bool.true_or, Bool.and_self, and_self, Bool.false_and, Bool.and_false, Int.reduceLT, Int.reduceLE, Int.reduceNeg, Nat.reduceAdd, Nat.reduceMul, Nat.reduceSub, Nat.reduceBEq, q_add, q_sub, q_mulr, q_mull, q_mod, q_fdiv, q_not, q_neg, q_lt, q_le, q_gt, q_ge, q_eqi, q_nei, q_neb, q_isb, q_t0, q_t1, q_len, q_lent, q_lens, q_list, q_listt, q_tuple, q_is1, q_is2, q_is3, q_is4, q_is5, q_is6, q_it, q_itt, q_rev, q_callT, q_calli, q_callb, imm_i, imm_b, imm_l, imm_k, imm_s, imm_n, imm_c, rcvB, fl_i, fl_b, fl_s, fl_n, fl_l, fl_t, fl_o, fl_d, iF_nil, iF_cons, iL_nil, iL_cons, imm_ints])]
    generalize hs : (List.range nn).filter (fun q : Nat => drawN (c + 41 * q) 3 (2 + k % 3) == 0) = some8
    have hs8 : some8.Nodup := by rw [← hs]; exact filter_z.1
    have hsm8 : ∀ q ∈ some8, q < nn := by rw [← hs]; exact filter_z.2
    clear hs
    have hl8 : some8.length ≤ 12 := by
      have := List.Nodup.length_le_of_subset hs8 (l₂ := List.range nn) fun q hq => List.mem_range.mpr (hsm8 q hq)
      rw [List.length_range] at this
      omega
    have hfr8 := hfr some8.reverse (List.pairwise_reverse.mpr (hs8.imp Ne.symm)) (by rw [List.length_reverse]; omega) (fun q hq => hsm8 q (List.mem_reverse.mp hq))
    rw [natD_rev] at hfr8
    have hpo : run tab.tb W (n + 6) (.fn "_law_posts") [.lst (wtsL (some8.map fun k : Nat => wof l (k : Int)))] = .ok (.bl (!(waysOf (some8.map fun k : Nat => wof l (k : Int))).isEmpty), true) := r_law_posts (n := n + 5) rfl _ Q hQ (by omega) fun ps hps p hp => by
      obtain ⟨q, hq, rfl⟩ := List.mem_map.mp hps
      have := wof_nat (ws := l) (k := q) (by rw [hln]; exact hsm8 q hq)
      exact (hl _ (List.mem_of_getElem? this)).2.2.2 p hp
    have heq : (!(waysOf (some8.map fun k : Nat => wof l (k : Int))).isEmpty) = sdrB l some8.reverse := by
      have h1 := ways_sdr (w := wof l) (S := some8.map fun k : Nat => (k : Int)) (nodup_ints hs8)
      rw [List.map_map] at h1
      have h2 := sdrB_iff (ws := l) (ks := some8.reverse)
      rw [Bool.eq_iff_iff, h2]
      have h3 : (!(waysOf (some8.map fun k : Nat => wof l (k : Int))).isEmpty) = true ↔ waysOf (some8.map fun k : Nat => wof l (k : Int)) ≠ [] := by
        cases waysOf (some8.map fun k : Nat => wof l (k : Int)) <;> simp
      rw [h3]
      refine h1.trans ⟨sdr_mono fun t ht => ?_, sdr_mono fun t ht => ?_⟩
      · rw [List.map_reverse, List.mem_reverse] at ht
        exact ht
      · rw [List.map_reverse, List.mem_reverse]
        exact ht
    rw [heq] at hpo
    have hrv : eqvL (natD some8).reverse (natD some8).reverse = true := by rw [← natD_rev, eqvL_nats]; simp
    have hdr : ((natD some8).reverse).all (D.dat 59) = true := by rw [← natD_rev]; exact natD_dat _
    have hir : ((natD some8).reverse).all D.imm = true := by rw [← natD_rev]; exact natD_imm _
    simp only [e_var, e_con, e_glb, e_bin, e_un, e_and, e_or, e_cmp, e_chn, e_ite, e_lst, e_tup, e_dic0, e_dic, e_comp, e_call, e_bi, e_mth, e_rcv, e_att, e_idx, e_rev, e_slc, e_sort, l_nil, l_cons, i_seq, i_rng, i_rng1, i_enum, i_zip, v_shr, v_own, v_dic, g_some, o_bin, o_un, o_andT, o_andF, o_orT, o_orF, o_bol, o_cmp, o_chn, o_chT, o_chF, o_iteT, o_iteF, o_lst, o_tup, o_dic, o_cons, o_comp, o_endC, o_call, o_cl, o_clE, o_bi, o_mth, o_mth2, o_rcv, o_att, o_idx, o_rev, o_slc, o_sort, o_it, o_rng, o_rng1, o_enum, o_zip, ct_nm, ct_tp, ct_T, ct_F, ct_2, List.map_cons, List.map_nil, List.replicate, List.append_nil, List.cons_append, List.nil_append, Nat.sub_self, List.length_cons, List.length_nil, List.getElem?_cons_zero, List.getElem?_cons_succ, List.set_cons_zero, List.set_cons_succ, cmb, wipeE, if_true, if_false, Bool.not_true, Bool.not_false, Bool.false_eq_true, Bool.true_and, Bool.and_true, Bool.false_or, Bool.or_false, Bool.or_true, Bool.true_or, Bool.and_self, and_self, Bool.false_and, Bool.and_false, Int.reduceLT, Int.reduceLE, Int.reduceNeg, Nat.reduceAdd, Nat.reduceMul, Nat.reduceSub, Nat.reduceBEq, q_add, q_sub, q_mulr, q_mull, q_mod, q_fdiv, q_not, q_neg, q_lt, q_le, q_gt, q_ge, q_eqi, q_nei, q_neb, q_isb, q_t0, q_t1, q_len, q_lent, q_lens, q_list, q_listt, q_tuple, q_is1, q_is2, q_is3, q_is4, q_is5, q_is6, q_it, q_itt, q_rev, q_callT, q_calli, q_callb, imm_i, imm_b, imm_l, imm_k, imm_s, imm_n, imm_c, rcvB, fl_i, fl_b, fl_s, fl_n, fl_l, fl_t, fl_o, fl_d, iF_nil, iF_cons, iL_nil, iL_cons, imm_ints, xs_nil, xs_cons, x_asg, x_asgT, x_par, x_fld, x_ite, x_for, x_ret, x_rai, x_expr, x_pass, x_clr, x_app, x_pop, x_set, s_nx, s_rt, s_exc, lk_nil, lk_end, lk_cons, List.contains_cons, List.contains_nil, sl_L, sl_K, sl_O, sl_V, sl_F, it_V, it_r1, it_r2, it_e, it_z, w_L, w_Lk, w_Ls, w_K, w_Kl, w_O, w_V, w_Vk, w_Vs, w_F, w_Fk, w_Fs, w_Fo, w_Fn, w_it, w_itn, a_asg, a_asgE, a_nx, a_asgT, a_par, a_retO, a_retS, a_retN, a_ret, a_retE, a_app, a_clr, a_set, a_setK, a_expr, a_exprE, a_iteT, a_iteF, a_iteE, a_for, a_forO, a_forN, t_nm, t_tp, fo_shr, fo_lst, fo_dic, fo_no, en_rt, en_nx, en_exc, frz, esc, esc.escs, esc.escb, escI, tgSlots, putL, putS, D.isL, ownV, q_asg, q_asgb, q_asgt, q_asgo, q_asgl, q_asgk, q_pop0, q_nm, q_tp, x_asgD, x_mut, x_forM, x_retT, x_retX, x_callX, x_iteX, x_X, x_X0, x_Xf, x_Xm, a_mxR, a_mxR1, a_evXR, a_callXR, a_iteXR, a_asgDR, a_retTR, a_mut, a_mut2, a_mutA, a_mutC, a_mutR, a_mutS, a_setR2, a_appR2, a_remR, te_im, e_bor, e_keq, o_keq, bor_nil, bor_cons, bs_dep, bs_shr, bs_own, bs_no, dp_dep, w_Ld, w_Kd, w_Fd, fo_dep, p_nil, s_rx, en_Xrx, ok_nox, a_mut1S, a_mut1A, a_mut1R, a_mut1C, a_retXn, a_retXb, a_retXi, a_safeb, a_safei, te_comp, te_lst, te_call, ts_nil, ts_cons, a_consT, a_callT, a_clT, a_compT, a_endCT, cT_nm, cT_tp, cT_T, cT_F, natD_imm, hir, hf2, hfr8]
    rw [show some8.map (fun k : Nat => D.int (k : Int)) = natD some8 from rfl]
    simp only [e_var, e_con, e_glb, e_bin, e_un, e_and, e_or, e_cmp, e_chn, e_ite, e_lst, e_tup, e_dic0, e_dic, e_comp, e_call, e_bi, e_mth, e_rcv, e_att, e_idx, e_rev, e_slc, e_sort, l_nil, l_cons, i_seq, i_rng, i_rng1, i_enum, i_zip, v_shr, v_own, v_dic, g_some, o_bin, o_un, o_andT, o_andF, o_orT, o_orF, o_bol, o_cmp, o_chn, o_chT, o_chF, o_iteT, o_iteF, o_lst, o_tup, o_dic, o_cons, o_comp, o_endC, o_call, o_cl, o_clE, o_bi, o_mth, o_mth2, o_rcv, o_att, o_idx, o_rev, o_slc, o_sort, o_it, o_rng, o_rng1, o_enum, o_zip, ct_nm, ct_tp, ct_T, ct_F, ct_2, List.map_cons, List.map_nil, List.replicate, List.append_nil, List.cons_append, List.nil_append, Nat.sub_self, List.length_cons, List.length_nil, List.getElem?_cons_zero, List.getElem?_cons_succ, List.set_cons_zero, List.set_cons_succ, cmb, wipeE, if_true, if_false, Bool.not_true, Bool.not_false, Bool.false_eq_true, Bool.true_and, Bool.and_true, Bool.false_or, Bool.or_false, Bool.or_true, Bool.true_or, Bool.and_self, and_self, Bool.false_and, Bool.and_false, Int.reduceLT, Int.reduceLE, Int.reduceNeg, Nat.reduceAdd, Nat.reduceMul, Nat.reduceSub, Nat.reduceBEq, q_add, q_sub, q_mulr, q_mull, q_mod, q_fdiv, q_not, q_neg, q_lt, q_le, q_gt, q_ge, q_eqi, q_nei, q_neb, q_isb, q_t0, q_t1, q_len, q_lent, q_lens, q_list, q_listt, q_tuple, q_is1, q_is2, q_is3, q_is4, q_is5, q_is6, q_it, q_itt, q_rev, q_callT, q_calli, q_callb, imm_i, imm_b, imm_l, imm_k, imm_s, imm_n, imm_c, rcvB, fl_i, fl_b, fl_s, fl_n, fl_l, fl_t, fl_o, fl_d, iF_nil, iF_cons, iL_nil, iL_cons, imm_ints, xs_nil, xs_cons, x_asg, x_asgT, x_par, x_fld, x_ite, x_for, x_ret, x_rai, x_expr, x_pass, x_clr, x_app, x_pop, x_set, s_nx, s_rt, s_exc, lk_nil, lk_end, lk_cons, List.contains_cons, List.contains_nil, sl_L, sl_K, sl_O, sl_V, sl_F, it_V, it_r1, it_r2, it_e, it_z, w_L, w_Lk, w_Ls, w_K, w_Kl, w_O, w_V, w_Vk, w_Vs, w_F, w_Fk, w_Fs, w_Fo, w_Fn, w_it, w_itn, a_asg, a_asgE, a_nx, a_asgT, a_par, a_retO, a_retS, a_retN, a_ret, a_retE, a_app, a_clr, a_set, a_setK, a_expr, a_exprE, a_iteT, a_iteF, a_iteE, a_for, a_forO, a_forN, t_nm, t_tp, fo_shr, fo_lst, fo_dic, fo_no, en_rt, en_nx, en_exc, frz, esc, esc.escs, esc.escb, escI, tgSlots, putL, putS, D.isL, ownV, q_asg, q_asgb, q_asgt, q_asgo, q_asgl, q_asgk, q_pop0, q_nm, q_tp, x_asgD, x_mut, x_forM, x_retT, x_retX, x_callX, x_iteX, x_X, x_X0, x_Xf, x_Xm, a_mxR, a_mxR1, a_evXR, a_callXR, a_iteXR, a_asgDR, a_retTR, a_mut, a_mut2, a_mutA, a_mutC, a_mutR, a_mutS, a_setR2, a_appR2, a_remR, te_im, e_bor, e_keq, o_keq, bor_nil, bor_cons, bs_dep, bs_shr, bs_own, bs_no, dp_dep, w_Ld, w_Kd, w_Fd, fo_dep, p_nil, s_rx, en_Xrx, ok_nox, a_mut1S, a_mut1A, a_mut1R, a_mut1C, a_retXn, a_retXb, a_retXi, a_safeb, a_safei, te_comp, te_lst, te_call, ts_nil, ts_cons, a_consT, a_callT, a_clT, a_compT, a_endCT, cT_nm, cT_tp, cT_T, cT_F, natD_imm, hir, hf2, hfr8]
    rw [compL_nat (f := fun q : Nat => .lst ((wof l (q : Int)).map .int)) (fun q hq => by
      have hg : (wtsL l)[q]? = some (.lst ((wof l (q : Int)).map .int)) := by
        unfold wtsL
        rw [List.getElem?_map, wof_nat (by rw [hln]; exact hsm8 q hq)]
        rfl
      simp only [e_var, e_con, e_glb, e_bin, e_un, e_and, e_or, e_cmp, e_chn, e_ite, e_lst, e_tup, e_dic0, e_dic, e_comp, e_call, e_bi, e_mth, e_rcv, e_att, e_idx, e_rev, e_slc, e_sort, l_nil, l_cons, i_seq, i_rng, i_rng1, i_enum, i_zip, v_shr, v_own, v_dic, g_some, o_bin, o_un, o_andT, o_andF, o_orT, o_orF, o_bol, o_cmp, o_chn, o_chT, o_chF, o_iteT, o_iteF, o_lst, o_tup, o_dic, o_cons, o_comp, o_endC, o_call, o_cl, o_clE, o_bi, o_mth, o_mth2, o_rcv, o_att, o_idx, o_rev, o_slc, o_sort, o_it, o_rng, o_rng1, o_enum, o_zip, ct_nm, ct_tp, ct_T, ct_F, ct_2, List.map_cons, List.map_nil, List.replicate, List.append_nil, List.cons_append, List.nil_append, Nat.sub_self, List.length_cons, List.length_nil, List.getElem?_cons_zero, List.getElem?_cons_succ, List.set_cons_zero, List.set_cons_succ, cmb, wipeE, if_true, if_false, Bool.not_true, Bool.not_false, Bool.false_eq_true, Bool.true_and, Bool.and_true, Bool.false_or, Bool.or_false, Bool.or_true, Bool.true_or, Bool.and_self, and_self, Bool.false_and, Bool.and_false, Int.reduceLT, Int.reduceLE, Int.reduceNeg, Nat.reduceAdd, Nat.reduceMul, Nat.reduceSub, Nat.reduceBEq, q_add, q_sub, q_mulr, q_mull, q_mod, q_fdiv, q_not, q_neg, q_lt, q_le, q_gt, q_ge, q_eqi, q_nei, q_neb, q_isb, q_t0, q_t1, q_len, q_lent, q_lens, q_list, q_listt, q_tuple, q_is1, q_is2, q_is3, q_is4, q_is5, q_is6, q_it, q_itt, q_rev, q_callT, q_calli, q_callb, imm_i, imm_b, imm_l, imm_k, imm_s, imm_n, imm_c, rcvB, fl_i, fl_b, fl_s, fl_n, fl_l, fl_t, fl_o, fl_d, iF_nil, iF_cons, iL_nil, iL_cons, imm_ints, q_ixl hg])]
    rw [show some8.map (fun q : Nat => D.lst ((wof l (q : Int)).map .int)) = wtsL (some8.map fun k : Nat => wof l (k : Int)) by unfold wtsL; rw [List.map_map]; rfl]
    simp only [e_var, e_con, e_glb, e_bin, e_un, e_and, e_or, e_cmp, e_chn, e_ite, e_lst, e_tup, e_dic0, e_dic, e_comp, e_call, e_bi, e_mth, e_rcv, e_att, e_idx, e_rev, e_slc, e_sort, l_nil, l_cons, i_seq, i_rng, i_rng1, i_enum, i_zip, v_shr, v_own, v_dic, g_some, o_bin, o_un, o_andT, o_andF, o_orT, o_orF, o_bol, o_cmp, o_chn, o_chT, o_chF, o_iteT, o_iteF, o_lst, o_tup, o_dic, o_cons, o_comp, o_endC, o_call, o_cl, o_clE, o_bi, o_mth, o_mth2, o_rcv, o_att, o_idx, o_rev, o_slc, o_sort, o_it, o_rng, o_rng1, o_enum, o_zip, ct_nm, ct_tp, ct_T, ct_F, ct_2, List.map_cons, List.map_nil, List.replicate, List.append_nil, List.cons_append, List.nil_append, Nat.sub_self, List.length_cons, List.length_nil, List.getElem?_cons_zero, List.getElem?_cons_succ, List.set_cons_zero, List.set_cons_succ, cmb, wipeE, if_true, if_false, Bool.not_true, Bool.not_false, Bool.false_eq_true, Bool.true_and, Bool.and_true, Bool.false_or, Bool.or_false, Bool.or_true, Bool.true_or, Bool.and_self, and_self, Bool.false_and, Bool.and_false, Int.reduceLT, Int.reduceLE, Int.reduceNeg, Nat.reduceAdd, Nat.reduceMul, Nat.reduceSub, Nat.reduceBEq, q_add, q_sub, q_mulr, q_mull, q_mod, q_fdiv, q_not, q_neg, q_lt, q_le, q_gt, q_ge, q_eqi, q_nei, q_neb, q_isb, q_t0, q_t1, q_len, q_lent, q_lens, q_list, q_listt, q_tuple, q_is1, q_is2, q_is3, q_is4, q_is5, q_is6, q_it, q_itt, q_rev, q_callT, q_calli, q_callb, imm_i, imm_b, imm_l, imm_k, imm_s, imm_n, imm_c, rcvB, fl_i, fl_b, fl_s, fl_n, fl_l, fl_t, fl_o, fl_d, iF_nil, iF_cons, iL_nil, iL_cons, imm_ints, xs_nil, xs_cons, x_asg, x_asgT, x_par, x_fld, x_ite, x_for, x_ret, x_rai, x_expr, x_pass, x_clr, x_app, x_pop, x_set, s_nx, s_rt, s_exc, lk_nil, lk_end, lk_cons, List.contains_cons, List.contains_nil, sl_L, sl_K, sl_O, sl_V, sl_F, it_V, it_r1, it_r2, it_e, it_z, w_L, w_Lk, w_Ls, w_K, w_Kl, w_O, w_V, w_Vk, w_Vs, w_F, w_Fk, w_Fs, w_Fo, w_Fn, w_it, w_itn, a_asg, a_asgE, a_nx, a_asgT, a_par, a_retO, a_retS, a_retN, a_ret, a_retE, a_app, a_clr, a_set, a_setK, a_expr, a_exprE, a_iteT, a_iteF, a_iteE, a_for, a_forO, a_forN, t_nm, t_tp, fo_shr, fo_lst, fo_dic, fo_no, en_rt, en_nx, en_exc, frz, esc, esc.escs, esc.escb, escI, tgSlots, putL, putS, D.isL, ownV, q_asg, q_asgb, q_asgt, q_asgo, q_asgl, q_asgk, q_pop0, q_nm, q_tp, x_asgD, x_mut, x_forM, x_retT, x_retX, x_callX, x_iteX, x_X, x_X0, x_Xf, x_Xm, a_mxR, a_mxR1, a_evXR, a_callXR, a_iteXR, a_asgDR, a_retTR, a_mut, a_mut2, a_mutA, a_mutC, a_mutR, a_mutS, a_setR2, a_appR2, a_remR, te_im, e_bor, e_keq, o_keq, bor_nil, bor_cons, bs_dep, bs_shr, bs_own, bs_no, dp_dep, w_Ld, w_Kd, w_Fd, fo_dep, p_nil, s_rx, en_Xrx, ok_nox, a_mut1S, a_mut1A, a_mut1R, a_mut1C, a_retXn, a_retXb, a_retXi, a_safeb, a_safei, te_comp, te_lst, te_call, ts_nil, ts_cons, a_consT, a_callT, a_clT, a_compT, a_endCT, cT_nm, cT_tp, cT_T, cT_F, hpo, beq_self_eq_true, q_nel hdr hdr, hrv]
    exact ⟨_, rfl, _, _, _, _, _, _, rfl⟩)
  have hfr0 : run tab.tb W (n + 6) (.me "Rule" "free") [.obj "Posts" (pflds l), .lst []] = .ok (.bl (sdrB l []), true) := hfr [] (by simp) (by simp) (by simp)
  have h0 : sdrB l [] = true := sdrB_iff.mpr ⟨fun _ => 0, by simp, by simp⟩
  rw [h0] at hfr0
  simp only [e_var, e_con, e_glb, e_bin, e_un, e_and, e_or, e_cmp, e_chn, e_ite, e_lst, e_tup, e_dic0, e_dic, e_comp, e_call, e_bi, e_mth, e_rcv, e_att, e_idx, e_rev, e_slc, e_sort, l_nil, l_cons, i_seq, i_rng, i_rng1, i_enum, i_zip, v_shr, v_own, v_dic, g_some, o_bin, o_un, o_andT, o_andF, o_orT, o_orF, o_bol, o_cmp, o_chn, o_chT, o_chF, o_iteT, o_iteF, o_lst, o_tup, o_dic, o_cons, o_comp, o_endC, o_call, o_cl, o_clE, o_bi, o_mth, o_mth2, o_rcv, o_att, o_idx, o_rev, o_slc, o_sort, o_it, o_rng, o_rng1, o_enum, o_zip, ct_nm, ct_tp, ct_T, ct_F, ct_2, List.map_cons, List.map_nil, List.replicate, List.append_nil, List.cons_append, List.nil_append, Nat.sub_self, List.length_cons, List.length_nil, List.getElem?_cons_zero, List.getElem?_cons_succ, List.set_cons_zero, List.set_cons_succ, cmb, wipeE, if_true, if_false, Bool.not_true, Bool.not_false, Bool.false_eq_true, Bool.true_and, Bool.and_true, Bool.false_or, Bool.or_false, Bool.or_true, Bool.true_or, Bool.and_self, and_self, Bool.false_and, Bool.and_false, Int.reduceLT, Int.reduceLE, Int.reduceNeg, Nat.reduceAdd, Nat.reduceMul, Nat.reduceSub, Nat.reduceBEq, q_add, q_sub, q_mulr, q_mull, q_mod, q_fdiv, q_not, q_neg, q_lt, q_le, q_gt, q_ge, q_eqi, q_nei, q_neb, q_isb, q_t0, q_t1, q_len, q_lent, q_lens, q_list, q_listt, q_tuple, q_is1, q_is2, q_is3, q_is4, q_is5, q_is6, q_it, q_itt, q_rev, q_callT, q_calli, q_callb, imm_i, imm_b, imm_l, imm_k, imm_s, imm_n, imm_c, rcvB, fl_i, fl_b, fl_s, fl_n, fl_l, fl_t, fl_o, fl_d, iF_nil, iF_cons, iL_nil, iL_cons, imm_ints, xs_nil, xs_cons, x_asg, x_asgT, x_par, x_fld, x_ite, x_for, x_ret, x_rai, x_expr, x_pass, x_clr, x_app, x_pop, x_set, s_nx, s_rt, s_exc, lk_nil, lk_end, lk_cons, List.contains_cons, List.contains_nil, sl_L, sl_K, sl_O, sl_V, sl_F, it_V, it_r1, it_r2, it_e, it_z, w_L, w_Lk, w_Ls, w_K, w_Kl, w_O, w_V, w_Vk, w_Vs, w_F, w_Fk, w_Fs, w_Fo, w_Fn, w_it, w_itn, a_asg, a_asgE, a_nx, a_asgT, a_par, a_retO, a_retS, a_retN, a_ret, a_retE, a_app, a_clr, a_set, a_setK, a_expr, a_exprE, a_iteT, a_iteF, a_iteE, a_for, a_forO, a_forN, t_nm, t_tp, fo_shr, fo_lst, fo_dic, fo_no, en_rt, en_nx, en_exc, frz, esc, esc.escs, esc.escb, escI, tgSlots, putL, putS, D.isL, ownV, q_asg, q_asgb, q_asgt, q_asgo, q_asgl, q_asgk, q_pop0, q_nm, q_tp, x_asgD, x_mut, x_forM, x_retT, x_retX, x_callX, x_iteX, x_X, x_X0, x_Xf, x_Xm, a_mxR, a_mxR1, a_evXR, a_callXR, a_iteXR, a_asgDR, a_retTR, a_mut, a_mut2, a_mutA, a_mutC, a_mutR, a_mutS, a_setR2, a_appR2, a_remR, te_im, e_bor, e_keq, o_keq, bor_nil, bor_cons, bs_dep, bs_shr, bs_own, bs_no, dp_dep, w_Ld, w_Kd, w_Fd, fo_dep, p_nil, s_rx, en_Xrx, ok_nox, a_mut1S, a_mut1A, a_mut1R, a_mut1C, a_retXn, a_retXb, a_retXi, a_safeb, a_safei, te_comp, te_lst, te_call, ts_nil, ts_cons, a_consT, a_callT, a_clT, a_compT, a_endCT, cT_nm, cT_tp, cT_T, cT_F, hf2, hfr0]
  rfl
end K3
theorem law_run (ns : List Int) (h : ns.length ≤ 63) : ∃ m, run tab.tb 100 12 (.fn "law") [.scr ns] = .ok (.bl true, m) := K3.r_law (n := 5) (by decide) ns
end FS

open PySem PySem.W
open PyProof.Rows
set_option maxHeartbeats 0 in
theorem PySem.Challenge.cw_freesets_k03_posts_holds : PySem.Challenge.rw_freesets_k03_posts.Holds := by
  w_on
  o_law
  k_head
  (case hw => w_witness2)
  k_fill
  refine FS.walk (M := FS.nms) (t := FS.tab) (rules := FS.rls) (excs := FS.exs) (n := 12) (W := 100) (lw := "law") (xs := "_law_script") (l := PySem.Challenge.rw_freesets_k03_posts) rfl rfl ⟨rfl, by decide, by decide⟩ rfl (by decide +kernel) (by rfl) (fun w h Y => PySem.W.kIn_of Y) ?F FS.law_run
  case F =>
    intro w mg h KX G base
    refine' FS.text_mk KX G ?aC_Rule ?aC_Posts ?a_f_law_cell_at ?l_f_law_cell_at ?d_f_law_cell_at ?k_f_law_cell_at ?a_f_law_draw ?l_f_law_draw ?d_f_law_draw ?k_f_law_draw ?a_f_law_posts ?l_f_law_posts ?d_f_law_posts ?k_f_law_posts ?a_f_are_numbers ?l_f_are_numbers ?d_f_are_numbers ?k_f_are_numbers ?a_f_asked_things ?l_f_asked_things ?d_f_asked_things ?k_f_asked_things ?a_f_is_number ?l_f_is_number ?d_f_is_number ?k_f_is_number ?a_f_law ?l_f_law ?d_f_law ?k_f_law ?a_i_Posts ?i_i_Posts ?l_i_Posts ?d_i_Posts ?k_i_Posts ?a_i_Rule ?i_i_Rule ?l_i_Rule ?d_i_Rule ?k_i_Rule ?a_m_Rule_free ?i_m_Rule_free ?l_m_Rule_free ?d_m_Rule_free ?k_m_Rule_free ?a_m_Rule_many ?i_m_Rule_many ?l_m_Rule_many ?d_m_Rule_many ?k_m_Rule_many ?a_m_Rule_stands ?i_m_Rule_stands ?l_m_Rule_stands ?d_m_Rule_stands ?k_m_Rule_stands ?a_m_Posts_stands ?i_m_Posts_stands ?l_m_Posts_stands ?d_m_Posts_stands ?k_m_Posts_stands ?a_f_passed_on ?l_f_passed_on ?d_f_passed_on ?k_f_passed_on ?a_m_Posts_given ?i_m_Posts_given ?l_m_Posts_given ?d_m_Posts_given ?k_m_Posts_given ?gN ?gT ?pg_Rule ?hd_Rule ?po_Rule ?sa_Rule ?hc_Rule ?mo_Rule ?ba_Rule_NoneType ?bb_Rule_NoneType ?ba_Rule_bool ?bb_Rule_bool ?ba_Rule_int ?bb_Rule_int ?ba_Rule_str ?bb_Rule_str ?ba_Rule_list ?bb_Rule_list ?ba_Rule_tuple ?bb_Rule_tuple ?su_Rule_Rule ?su_Posts_Rule ?na_Rule_size ?na_Rule_wants ?pg_Posts ?hd_Posts ?po_Posts ?sa_Posts ?hc_Posts ?mo_Posts ?ba_Posts_NoneType ?bb_Posts_NoneType ?ba_Posts_bool ?bb_Posts_bool ?ba_Posts_int ?bb_Posts_int ?ba_Posts_str ?bb_Posts_str ?ba_Posts_list ?bb_Posts_list ?ba_Posts_tuple ?bb_Posts_tuple ?su_Rule_Posts ?su_Posts_Posts ?na_Posts_size ?na_Posts_wants ?me_Posts_free ?me_Posts_many ?mk_Posts ?kc_Posts ?sg_Rule ?sr_Rule ?sf_Rule ?ae_BadRule ?xe_BadRule ?ke_BadRule ?be_BadRule ?te_BadRule ?ae_BadThing ?xe_BadThing ?ke_BadThing ?be_BadThing ?te_BadThing ?co_MOST ?co_POSTS ?z_len ?z_list ?z_tuple ?z_sorted ?z_sum ?z_max ?z_min ?z_all ?z_any ?z_set ?z_range ?z_isinstance ?z_int ?z_bool ?z_str ?z_enumerate ?z_zip
    (case aC_Rule => k_is)
    (case aC_Posts => k_is)
    (case a_f_law_cell_at => k_is)
    (case l_f_law_cell_at => k_is)
    (case d_f_law_cell_at => k_is)
    (case k_f_law_cell_at => k_is)
    (case a_f_law_draw => k_is)
    (case l_f_law_draw => k_is)
    (case d_f_law_draw => k_is)
    (case k_f_law_draw => k_is)
    (case a_f_law_posts => k_is)
    (case l_f_law_posts => k_is)
    (case d_f_law_posts => k_is)
    (case k_f_law_posts => k_is)
    (case a_f_are_numbers => k_is)
    (case l_f_are_numbers => k_is)
    (case d_f_are_numbers => k_is)
    (case k_f_are_numbers => k_is)
    (case a_f_asked_things => k_is)
    (case l_f_asked_things => k_is)
    (case d_f_asked_things => k_is)
    (case k_f_asked_things => k_is)
    (case a_f_is_number => k_is)
    (case l_f_is_number => k_is)
    (case d_f_is_number => k_is)
    (case k_f_is_number => k_is)
    (case a_f_law => k_is)
    (case l_f_law => k_is)
    (case d_f_law => k_is)
    (case k_f_law => k_is)
    (case a_i_Posts => k_is)
    (case i_i_Posts => k_is)
    (case l_i_Posts => k_is)
    (case d_i_Posts => k_is)
    (case k_i_Posts => k_is)
    (case a_i_Rule => k_is)
    (case i_i_Rule => k_is)
    (case l_i_Rule => k_is)
    (case d_i_Rule => k_is)
    (case k_i_Rule => k_is)
    (case a_m_Rule_free => k_is)
    (case i_m_Rule_free => k_is)
    (case l_m_Rule_free => k_is)
    (case d_m_Rule_free => k_is)
    (case k_m_Rule_free => k_is)
    (case a_m_Rule_many => k_is)
    (case i_m_Rule_many => k_is)
    (case l_m_Rule_many => k_is)
    (case d_m_Rule_many => k_is)
    (case k_m_Rule_many => k_is)
    (case a_m_Rule_stands => k_is)
    (case i_m_Rule_stands => k_is)
    (case l_m_Rule_stands => k_is)
    (case d_m_Rule_stands => k_is)
    (case k_m_Rule_stands => k_is)
    (case a_m_Posts_stands => k_is)
    (case i_m_Posts_stands => k_is)
    (case l_m_Posts_stands => k_is)
    (case d_m_Posts_stands => k_is)
    (case k_m_Posts_stands => k_is)
    (case a_f_passed_on => k_is)
    (case l_f_passed_on => k_is)
    (case d_f_passed_on => k_is)
    (case k_f_passed_on => k_is)
    (case a_m_Posts_given => k_is)
    (case i_m_Posts_given => k_is)
    (case l_m_Posts_given => k_is)
    (case d_m_Posts_given => k_is)
    (case k_m_Posts_given => k_is)
    (case gN => k_is)
    (case gT => k_is)
    (case pg_Rule => k_is)
    (case hd_Rule => k_is)
    (case po_Rule => k_is)
    (case sa_Rule => k_is)
    (case hc_Rule => k_is)
    (case mo_Rule => k_is)
    (case ba_Rule_NoneType => kit_is)
    (case bb_Rule_NoneType => kit_is)
    (case ba_Rule_bool => kit_is)
    (case bb_Rule_bool => kit_is)
    (case ba_Rule_int => kit_is)
    (case bb_Rule_int => kit_is)
    (case ba_Rule_str => kit_is)
    (case bb_Rule_str => kit_is)
    (case ba_Rule_list => kit_is)
    (case bb_Rule_list => kit_is)
    (case ba_Rule_tuple => kit_is)
    (case bb_Rule_tuple => kit_is)
    (case su_Rule_Rule => kit_is)
    (case su_Posts_Rule => kit_is)
    (case na_Rule_size => k_is)
    (case na_Rule_wants => k_is)
    (case pg_Posts => k_is)
    (case hd_Posts => k_is)
    (case po_Posts => k_is)
    (case sa_Posts => k_is)
    (case hc_Posts => k_is)
    (case mo_Posts => k_is)
    (case ba_Posts_NoneType => kit_is)
    (case bb_Posts_NoneType => kit_is)
    (case ba_Posts_bool => kit_is)
    (case bb_Posts_bool => kit_is)
    (case ba_Posts_int => kit_is)
    (case bb_Posts_int => kit_is)
    (case ba_Posts_str => kit_is)
    (case bb_Posts_str => kit_is)
    (case ba_Posts_list => kit_is)
    (case bb_Posts_list => kit_is)
    (case ba_Posts_tuple => kit_is)
    (case bb_Posts_tuple => kit_is)
    (case su_Rule_Posts => kit_is)
    (case su_Posts_Posts => kit_is)
    (case na_Posts_size => k_is)
    (case na_Posts_wants => k_is)
    (case me_Posts_free => k_is)
    (case me_Posts_many => k_is)
    (case mk_Posts => k_is)
    (case kc_Posts => k_is)
    (case sg_Rule => k_is)
    (case sr_Rule => k_is)
    (case sf_Rule => k_is)
    (case ae_BadRule => k_is)
    (case xe_BadRule => k_exc)
    (case ke_BadRule => k_is)
    (case be_BadRule => k_is)
    (case te_BadRule => k_is)
    (case ae_BadThing => k_is)
    (case xe_BadThing => k_exc)
    (case ke_BadThing => k_is)
    (case be_BadThing => k_is)
    (case te_BadThing => k_is)
    (case co_MOST => k_is)
    (case co_POSTS => k_is)
    (case z_len => k_is)
    (case z_list => k_is)
    (case z_tuple => k_is)
    (case z_sorted => k_is)
    (case z_sum => k_is)
    (case z_max => k_is)
    (case z_min => k_is)
    (case z_all => k_is)
    (case z_any => k_is)
    (case z_set => k_is)
    (case z_range => k_is)
    (case z_isinstance => k_is)
    (case z_int => k_is)
    (case z_bool => k_is)
    (case z_str => k_is)
    (case z_enumerate => k_is)
    (case z_zip => k_is)
