import PyProof.Rows.All
import Wide.All
import OpenK.AllK
import Wide.FinOn
import HandS.ForMost
import HandS.Style
import HandS.Deep
import HandS.IsInst
import HandS.SortInts
import HandS.SetFor
import HandS.WordsExc
import PySem.Challenge.RW_freesets_k04_bits
set_option Elab.async false
set_option linter.all false
set_option maxRecDepth 100000
/-! FS1: the value-level language: values, stripped syntax, evaluation. Pure Lean. -/
namespace FS
open PySem L2

/-- deep values: no heap -/
inductive D where
  | non | bl (b : Bool) | int (i : Int) | str (s : Str) | scr (ns : List Int)
  | lst (xs : List D) | tup (xs : List D) | dic (kvs : List (Int × D))
  | obj (c : Str) (fs : List (Str × D)) | exc (c : Str)

/-- no list, no dict within -/
def D.imm : D → Bool
  | .lst _ => false
  | .dic _ => false
  | .tup xs => immL xs
  | .obj _ fs => immF fs
  | _ => true
where
  immL : List D → Bool
    | [] => true
    | d :: ds => d.imm && immL ds
  immF : List (Str × D) → Bool
    | [] => true
    | (_, d) :: ds => d.imm && immF ds

inductive R (α : Type) where
  | ok (a : α) | exc (c : Str) | bad

def R.bind {α β : Type} (x : R α) (f : α → R β) : R β := match x with
  | .ok a => f a
  | .exc c => .exc c
  | .bad => .bad

/-- no exception here -/
def R.nox {α : Type} : R α → R α
  | .ok a => .ok a
  | _ => .bad
/-- r: the root is new; n: all lists within are younger than the frame; c: no own root within -/
structure Fl where
  r : Bool
  n : Bool
  c : Bool
abbrev Fl.I : Fl := ⟨true, true, true⟩

inductive Slot where
  | shr (d : D) (n : Bool)
  | own (d : D) (n : Bool)
abbrev SEnv := List (Option Slot)

inductive Fid where
  | fn (x : Str) | me (c m : Str) | mk (c : Str) | ini (c : Str)

/-- what isinstance asks -/
inductive Ty where
  | int | bool | list | tuple | str | cls (c : Str)

inductive Bi where
  | len | list | tuple | sorted | sum | max | min | all | any | int | str | lenset | isi (t : Ty) | count | index
  | join | strip | starts | split | part

inductive Tg where
  | nm (i : Nat)
  | tp (is : List Nat)

mutual
inductive Ex where
  | var (i : Nat)
  | con (d : D)
  | glb (x : Str)
  | bin (op : Operator) (a b : Ex)
  | un (op : UnaryOp) (a : Ex)
  | and (a b : Ex)
  | or (a b : Ex)
  | cmp (op : CmpOp) (a b : Ex)
  | chn (op op' : CmpOp) (a b c : Ex)
  | ite (c a b : Ex)
  | lst (es : Exs)
  | tup (es : Exs)
  | dic (k e : Ex)
  | dic0
  | comp (elt : Ex) (tg : Tg) (it : It) (cond : Ex) (own : List Nat)
  | call (f : Fid) (es : Exs)
  | bi (b : Bi) (es : Exs)
  | mth (o : Ex) (m : Str) (es : Exs)
  | rcv (b : Bi) (o : Ex) (es : Exs)
  | att (o : Ex) (f : Str)
  | idx (o i : Ex)
  | rev (o : Ex)
  | slc (o lo hi : Ex)
  | sortk (e : Ex) (i : Nat) (key : Ex)
inductive Exs where
  | nil
  | cons (e : Ex) (es : Exs)
inductive It where
  | seq (e : Ex)
  | rng (a b : Ex)
  | rng1 (b : Ex)
  | enum (e : Ex)
  | zip (a b : Ex)
end

mutual
inductive Sx where
  | asg (i : Nat) (e : Ex)
  | asgT (is : List Nat) (e : Ex)
  | par (i j : Nat) (a b : Ex)
  | fld (f : Str) (e : Ex)
  | supi (c : Str) (es : Exs)
  | app (i : Nat) (e : Ex)
  | popA (j i : Nat) (e : Ex)
  | appPop (j i : Nat) (e : Ex)
  | set (i : Nat) (k e : Ex)
  | aug (i : Nat) (op : Operator) (k e : Ex)
  | augV (i : Nat) (op : Operator) (e : Ex)
  | clr (i : Nat)
  | ite (c : Ex) (a b : Sxs)
  | whl (c : Ex) (b : Sxs)
  | for (tg : Tg) (it : It) (b : Sxs)
  | ret (e : Ex)
  | rai (c : Str)
  | expr (e : Ex)
  | pass
  | tryE (b : Sxs) (c : Str) (i : Nat) (s : Sxs)
inductive Sxs where
  | nil
  | cons (s : Sx) (ss : Sxs)
end

/-- a def: the number of its parameters, of its slots, its body -/
structure Fn where
  np : Nat
  ns : Nat
  body : Sxs

structure Tb where
  con : Str → Option D
  fn : Fid → Option Fn
  /-- the class in which a class's method stands -/
  mro : Str → Str → Option Str
  /-- subclass -/
  sub : Str → Str → Bool

def lim : Nat := 1000000

/-! ### data -/
mutual
def D.eqv : D → D → Bool
  | .non, .non => true
  | .bl a, .bl b => a == b
  | .bl a, .int j => (if a then 1 else 0) == j
  | .int i, .bl b => i == (if b then 1 else 0)
  | .int i, .int j => i == j
  | .str x, .str y => x == y
  | .lst xs, .lst ys => eqvL xs ys
  | .tup xs, .tup ys => eqvL xs ys
  | _, _ => false
def eqvL : List D → List D → Bool
  | [], [] => true
  | x :: xs, y :: ys => x.eqv y && eqvL xs ys
  | _, _ => false
end
/-- data (no dict, no object) of depth at most n -/
def D.dat : Nat → D → Bool
  | _, .non => true
  | _, .bl _ => true
  | _, .int _ => true
  | _, .str x => PyData.strOk x
  | n + 1, .lst xs => xs.all (D.dat n)
  | n + 1, .tup xs => xs.all (D.dat n)
  | _, _ => false

def mkL (ds : List D) (n : Bool) : D × Fl := (.lst ds, ⟨true, n || ds.all D.imm, true⟩)
def mkI (d : D) : D × Fl := (d, .I)
/-- an item of something -/
def mkE (d : D) (n : Bool) : D × Fl := (d, ⟨false, n || d.imm, true⟩)

def ixN' (n : Nat) (i : Int) : Option Nat := if 0 ≤ i then (if i < n then some i.toNat else none) else if -(n : Int) ≤ i then some (i + n).toNat else none

/-! ### operators -/
def binV (op : Operator) (x y : D × Fl) : R (D × Fl) := match op, x, y with
  | .Add, (.int i, _), (.int j, _) => .ok (mkI (.int (i + j)))
  | .Add, (.lst a, f), (.lst b, g) => if a.length + b.length ≤ lim then .ok (mkL (a ++ b) (f.n && g.n)) else .bad
  | .Add, (.str a, _), (.str b, _) => if a.length + b.length ≤ lim then .ok (mkI (.str (a ++ b))) else .bad
  | .Sub, (.int i, _), (.int j, _) => .ok (mkI (.int (i - j)))
  | .Mult, (.int i, _), (.int j, _) => if (-(2 ^ 64) < i ∧ i < 2 ^ 64) ∨ (-(2 ^ 64) < j ∧ j < 2 ^ 64) then .ok (mkI (.int (i * j))) else .bad
  | .Mult, (.lst a, f), (.int j, _) => if 0 ≤ j ∧ j ≤ lim ∧ a.length * j.toNat ≤ lim then .ok (mkL (List.replicate j.toNat a).flatten f.n) else .bad
  | .Mod, (.int i, _), (.int j, _) => if 0 < j then .ok (mkI (.int (i % j))) else .bad
  | .FloorDiv, (.int i, _), (.int j, _) => if 0 < j ∧ j < 1073741824 then .ok (mkI (.int (i / j))) else .bad
  | .LShift, (.int i, _), (.int j, _) => if 0 ≤ j ∧ j ≤ 1000000 ∧ i.natAbs < 2 ^ 64 then .ok (mkI (.int (i * 2 ^ j.toNat))) else .bad
  | .RShift, (.int i, _), (.int j, _) => if 0 ≤ j then .ok (mkI (.int (i / 2 ^ j.toNat))) else .bad
  | .Pow, (.int i, _), (.int j, _) => if 0 ≤ j ∧ j ≤ 1000000 ∧ i.natAbs < 2 ^ 64 then .ok (mkI (.int (i ^ j.toNat))) else .bad
  | .BitAnd, (.int i, _), (.int j, _) => .ok (mkI (.int (Builtin.bitAnd i j)))
  | .BitOr, (.int i, _), (.int j, _) => .ok (mkI (.int (Builtin.bitOr i j)))
  | .BitXor, (.int i, _), (.int j, _) => .ok (mkI (.int (Builtin.bitXor i j)))
  | _, _, _ => .bad
def unV (op : UnaryOp) (x : D × Fl) : R (D × Fl) := match op, x with
  | .USub, (.int i, _) => .ok (mkI (.int (-i)))
  | .Invert, (.int i, _) => .ok (mkI (.int (Builtin.bitNot i)))
  | .Not, (.bl b, _) => .ok (mkI (.bl (!b)))
  | _, _ => .bad
def inV' (x : D) (xs : List D) : Bool := xs.any fun y => y.eqv x
def cmpV (op : CmpOp) (x y : D) : R Bool := match op, x, y with
  | .Lt, .int i, .int j => .ok (decide (i < j))
  | .LtE, .int i, .int j => .ok (decide (i ≤ j))
  | .Gt, .int i, .int j => .ok (decide (j < i))
  | .GtE, .int i, .int j => .ok (decide (j ≤ i))
  | .Eq, .scr ns, .lst [] => .ok ns.isEmpty
  | .Eq, x, y => if x.dat 60 && y.dat 60 then .ok (x.eqv y) else .bad
  | .NotEq, x, y => if x.dat 60 && y.dat 60 then .ok (!x.eqv y) else .bad
  | .Is, .non, .non => .ok true
  | .Is, _, .non => .ok false
  | .IsNot, .non, .non => .ok false
  | .IsNot, _, .non => .ok true
  | .Is, .bl a, .bl b => .ok (a == b)
  | .In, x, .lst ys => if x.dat 60 && ys.all (D.dat 60) then .ok (inV' x ys) else .bad
  | .In, x, .tup ys => if x.dat 0 && ys.all (D.dat 0) then .ok (inV' x ys) else .bad
  | .NotIn, x, .lst ys => if x.dat 60 && ys.all (D.dat 60) then .ok (!inV' x ys) else .bad
  | .NotIn, x, .tup ys => if x.dat 0 && ys.all (D.dat 0) then .ok (!inV' x ys) else .bad
  | .In, .int i, .dic kvs => .ok ((kvs.lookup i).isSome)
  | .NotIn, .int i, .dic kvs => .ok (!(kvs.lookup i).isSome)
  | _, _, _ => .bad
def idxV (x y : D × Fl) : R (D × Fl) := match x, y with
  | (.lst xs, f), (.int i, _) => match (ixN' xs.length i).bind fun j => xs[j]? with
    | some d => .ok (mkE d f.n)
    | none => .bad
  | (.tup xs, f), (.int i, _) => match (ixN' xs.length i).bind fun j => xs[j]? with
    | some d => .ok (mkE d f.n)
    | none => .bad
  | (.scr ns, _), (.int i, _) => match (ixN' ns.length i).bind fun j => ns[j]? with
    | some z => .ok (mkI (.int z))
    | none => .bad
  | (.dic kvs, f), (.int i, _) => match kvs.lookup i with
    | some d => .ok (mkE d f.n)
    | none => .bad
  | _, _ => .bad
/-- isinstance -/
def isiV (T : Tb) (t : Ty) (x : D) : R Bool := match t, x with
  | .int, .int _ => .ok true
  | .int, .bl _ => .ok true
  | .bool, .bl _ => .ok true
  | .list, .lst _ => .ok true
  | .tuple, .tup _ => .ok true
  | .str, .str _ => .ok true
  | .cls c, .obj e _ => .ok (T.sub e c)
  | .cls c, .exc e => .ok (T.sub e c)
  | _, .scr _ => .bad
  | _, .dic _ => .bad
  | _, _ => .ok false
def intsD : List D → Option (List Int)
  | [] => some []
  | .int i :: r => (intsD r).map (i :: ·)
  | _ :: _ => none
def bls : List D → Option (List Bool)
  | [] => some []
  | .bl i :: r => (bls r).map (i :: ·)
  | _ :: _ => none
def insSort {α : Type} (le : α → α → Bool) : List α → List α
  | [] => []
  | x :: xs => ins x (insSort le xs)
where
  ins (x : α) : List α → List α
    | [] => [x]
    | y :: ys => if le x y then x :: y :: ys else y :: ins x ys
def dedup (ns : List Int) : List Int := ns.foldl (fun acc x => if acc.any (· == x) then acc else acc ++ [x]) []
def maxL : List Int → Int
  | [] => 0
  | [x] => x
  | x :: xs => if maxL xs > x then maxL xs else x
def minL : List Int → Int
  | [] => 0
  | [x] => x
  | x :: xs => if minL xs < x then minL xs else x
def bi1 (T : Tb) (b : Bi) (x : D) (f : Fl) : R (D × Fl) := match b, x with
  | .len, .lst ds => .ok (mkI (.int ds.length))
  | .len, .tup ds => .ok (mkI (.int ds.length))
  | .len, .scr ds => .ok (mkI (.int ds.length))
  | .len, .str s => if s.length ≤ lim then .ok (mkI (.int s.length)) else .bad
  | .list, .lst ds => .ok (mkL ds f.n)
  | .list, .tup ds => .ok (mkL ds f.n)
  | .tuple, .lst ds => .ok (.tup ds, ⟨true, f.n || ds.all D.imm, true⟩)
  | .tuple, .tup ds => .ok (.tup ds, ⟨false, f.n, true⟩)
  | .all, .lst ds => match bls ds with
    | some bs => .ok (mkI (.bl (bs.all id)))
    | none => .bad
  | .any, .lst ds => match bls ds with
    | some bs => .ok (mkI (.bl (bs.any id)))
    | none => .bad
  | .sum, .lst ds => match intsD ds with
    | some ns => .ok (mkI (.int ns.sum))
    | none => .bad
  | .max, .lst ds => match intsD ds with
    | some ns => if ns = [] then .bad else .ok (mkI (.int (maxL ns)))
    | none => .bad
  | .min, .lst ds => match intsD ds with
    | some ns => if ns = [] then .bad else .ok (mkI (.int (minL ns)))
    | none => .bad
  | .sorted, .lst ds => match intsD ds with
    | some ns => .ok (mkL ((insSort (fun a b => decide (a ≤ b)) ns).map D.int) true)
    | none => .bad
  | .lenset, .lst ds => match intsD ds with
    | some ns => if ns.length ≤ 1000 then .ok (mkI (.int (dedup ns).length)) else .bad
    | none => .bad
  | .isi t, x => match isiV T t x with
    | .ok k => .ok (mkI (.bl k))
    | _ => .bad
  | _, _ => .bad
def bi2 (b : Bi) (x y : D) : R (D × Fl) := match b, x, y with
  | .max, .int i, .int j => .ok (mkI (.int (if j > i then j else i)))
  | .min, .int i, .int j => .ok (mkI (.int (if j < i then j else i)))
  | .count, .lst ds, .int k => match intsD ds with
    | some ns => .ok (mkI (.int (ns.count k)))
    | none => .bad
  | _, _, _ => .bad
def biV (T : Tb) (b : Bi) : List (D × Fl) → R (D × Fl)
  | [x] => bi1 T b x.1 x.2
  | [x, y] => bi2 b x.1 y.1
  | _ => .bad

/-- what a built-in method is asked of -/
def rcvB (b : Bi) (x : D) : Bool := match b, x with
  | .count, .lst _ => true
  | .index, .lst _ => true
  | .join, .str _ => true
  | .strip, .str _ => true
  | .starts, .str _ => true
  | .split, .str _ => true
  | .part, .str _ => true
  | _, _ => false
def wipeE (E : SEnv) : List Nat → SEnv
  | [] => E
  | v :: vs => (wipeE E vs).set v none
/-- the values of a target's names -/
def tgV (E : SEnv) (t : Tg) (x : D) (n : Bool) : R SEnv := match t, x with
  | .nm i, x => .ok (E.set i (some (.shr x n)))
  | .tp [i, j], .tup [a, b] => .ok ((E.set i (some (.shr a n))).set j (some (.shr b n)))
  | .tp [i, j, k], .tup [a, b, c] => .ok (((E.set i (some (.shr a n))).set j (some (.shr b n))).set k (some (.shr c n)))
  | _, _ => .bad
def cutD (xs : List D) (lo hi : Option Int) : List D := (xs.drop (HT.sIx xs.length 0 lo)).take (HT.sIx xs.length xs.length hi - HT.sIx xs.length 0 lo)
def enumD : Nat → List D → List D
  | _, [] => []
  | k, d :: ds => .tup [.int k, d] :: enumD (k + 1) ds
def keysV (f : Int → R Int) : List Int → R (List Int)
  | [] => .ok []
  | k :: ks => (f k).bind fun z => (keysV f ks).bind fun zs => .ok (z :: zs)
/-- arguments: their values; their flags together -/
def cmb : List (D × Fl) → List D × Fl
  | [] => ([], .I)
  | x :: xs => (x.1 :: (cmb xs).1, ⟨false, (x.2.n || x.1.imm) && (cmb xs).2.n, x.2.c && (cmb xs).2.c⟩)

/-! ### expressions -/
/-- a comprehension's turns -/
def compV (turn : D → R (Option (D × Bool))) : List D → List D → Bool → R (List D × Bool)
  | [], acc, n => .ok (acc, n)
  | x :: xs, acc, n => (turn x).bind fun o => match o with
    | none => compV turn xs acc n
    | some (d, m) => compV turn xs (acc ++ [d]) (n && m)
def compTurn (c e : SEnv → R (D × Fl)) (E : SEnv) (tg : Tg) (n : Bool) (x : D) : R (Option (D × Bool)) :=
  (tgV E tg x n).bind fun E' => (c E').bind fun k => match k.1 with
    | .bl true => (e E').bind fun y => if y.2.c then .ok (some (y.1, y.2.n || y.1.imm)) else .bad
    | .bl false => .ok none
    | _ => .bad
def callF (x : D × Bool) (f : Fl) : R (D × Fl) := if x.2 || x.1.imm || f.c then .ok (x.1, ⟨x.2, x.2 || x.1.imm || f.n, true⟩) else .bad
def boolR (x : D × Fl) (f : Bool → R α) : R α := match x.1 with
  | .bl k => f k
  | _ => .bad
def itV (it : D × Fl) : R (List D × Bool × Bool) := match it with
  | (.lst ds, f) => .ok (ds, f.n, f.c)
  | (.tup ds, f) => .ok (ds, f.n, f.c)
  | _ => .bad
def rngV (x y : D) : R (List D × Bool × Bool) := match x, y with
  | .int i, .int j => if -(lim : Int) ≤ i ∧ i ≤ lim ∧ -(lim : Int) ≤ j ∧ j ≤ lim then .ok ((List.range (j - i).toNat).map fun (k : Nat) => D.int (i + k), true, true) else .bad
  | _, _ => .bad
def enumV (x : D × Fl) : R (List D × Bool × Bool) := match x with
  | (.lst ds, f) => .ok (enumD 0 ds, f.n, f.c)
  | _ => .bad
def zipV (x y : D × Fl) : R (List D × Bool × Bool) := match x, y with
  | (.lst ds, f), (.lst es, g) => if ds.length = es.length then .ok ((ds.zip es).map fun p => D.tup [p.1, p.2], f.n && g.n, f.c && g.c) else .bad
  | (.tup ds, f), (.tup es, g) => if ds.length = es.length then .ok ((ds.zip es).map fun p => D.tup [p.1, p.2], f.n && g.n, f.c && g.c) else .bad
  | _, _ => .bad
def mthC (T : Tb) (m : Str) (x : D) : R Str := match x with
  | .obj c fs => match fs.lookup m, T.mro c m with
    | none, some b => .ok b
    | _, _ => .bad
  | _ => .bad
def attV (x : D × Fl) (f : Str) : R (D × Fl) := match x.1 with
  | .obj _ fs => match fs.lookup f with
    | some d => .ok (mkE d x.2.n)
    | none => .bad
  | _ => .bad
def revV (x : D × Fl) : R (D × Fl) := match x with
  | (.lst ds, f) => .ok (mkL ds.reverse f.n)
  | _ => .bad
def slcV (x : D × Fl) (l h : D) : R (D × Fl) := match x, l, h with
  | (.lst ds, f), .int i, .int j => .ok (mkL (cutD ds (some i) (some j)) f.n)
  | (.lst ds, f), .int i, .non => .ok (mkL (cutD ds (some i) none) f.n)
  | (.lst ds, f), .non, .int j => .ok (mkL (cutD ds none (some j)) f.n)
  | _, _, _ => .bad
def sortkV (x : D × Fl) (f : Int → R Int) : R (D × Fl) := match x.1 with
  | .lst ds => match intsD ds with
    | some ns => (keysV f ns).bind fun ks => .ok (mkL ((insSort (fun (a b : Int × Int) => decide (a.1 ≤ b.1)) (ks.zip ns)).map fun p => D.int p.2) true)
    | none => .bad
  | _ => .bad
section
variable (T : Tb) (C : Fid → List D → R (D × Bool))
mutual
def ev : Ex → SEnv → R (D × Fl)
  | .var i, E => match E[i]? with
    | some (some (.shr d n)) => .ok (d, ⟨false, n || d.imm, true⟩)
    | some (some (.own (.lst ds) n)) => .ok (.lst ds, ⟨false, n, false⟩)
    | some (some (.own (.dic ds) n)) => .ok (.dic ds, ⟨false, n, false⟩)
    | _ => .bad
  | .con d, _ => .ok (mkI d)
  | .glb x, _ => match T.con x with
    | some d => .ok (mkI d)
    | none => .bad
  | .bin op a b, E => (ev a E).bind fun x => (ev b E).bind fun y => binV op x y
  | .un op a, E => (ev a E).bind fun x => unV op x
  | .and a b, E => (ev a E).bind fun x => boolR x fun k => if k then ev b E else .ok (mkI (.bl false))
  | .or a b, E => (ev a E).bind fun x => boolR x fun k => if k then .ok (mkI (.bl true)) else ev b E
  | .cmp op a b, E => (ev a E).bind fun x => (ev b E).bind fun y => (cmpV op x.1 y.1).bind fun k => .ok (mkI (.bl k))
  | .chn op op' a b c, E => (ev a E).bind fun x => (ev b E).bind fun y => (cmpV op x.1 y.1).bind fun k => if k then (ev c E).bind fun z => (cmpV op' y.1 z.1).bind fun k' => .ok (mkI (.bl k')) else .ok (mkI (.bl false))
  | .ite c a b, E => (ev c E).bind fun x => boolR x fun k => if k then ev a E else ev b E
  | .lst es, E => (evl es E).bind fun xs => if (cmb xs).2.c then .ok (mkL (cmb xs).1 (cmb xs).2.n) else .bad
  | .tup es, E => (evl es E).bind fun xs => if (cmb xs).2.c then .ok (.tup (cmb xs).1, ⟨true, (cmb xs).2.n, true⟩) else .bad
  | .dic0, _ => .ok (.dic [], .I)
  | .dic k e, E => (ev k E).bind fun x => (ev e E).bind fun y => match x.1 with
    | .int i => if y.2.c then .ok (.dic [(i, y.1)], ⟨true, y.2.n || y.1.imm, true⟩) else .bad
    | _ => .bad
  | .comp elt tg it cond own, E => (evI it E).bind fun p =>
      (compV (compTurn (fun E => ev cond E) (fun E => ev elt E) (wipeE E own) tg p.2.1) p.1 [] true).nox.bind fun q => .ok (mkL q.1 q.2)
  | .call f es, E => (evl es E).bind fun xs => (C f (cmb xs).1).bind fun q => callF q (cmb xs).2
  | .bi b es, E => (evl es E).bind fun xs => biV T b xs
  | .mth o m es, E => (ev o E).bind fun x => (mthC T m x.1).bind fun b => (evl es E).bind fun xs => (C (.me b m) (x.1 :: (cmb xs).1)).bind fun q => callF q (cmb (x :: xs)).2
  | .rcv b o es, E => (ev o E).bind fun x => if rcvB b x.1 then (evl es E).bind fun xs => biV T b (x :: xs) else .bad
  | .att o f, E => (ev o E).bind fun x => attV x f
  | .idx o i, E => (ev o E).bind fun x => (ev i E).bind fun y => idxV x y
  | .rev o, E => (ev o E).bind fun x => revV x
  | .slc o lo hi, E => (ev o E).bind fun x => (ev lo E).bind fun l => (ev hi E).bind fun h => slcV x l.1 h.1
  | .sortk e i key, E => (ev e E).bind fun x => sortkV x fun k => (ev key ((wipeE E [i]).set i (some (.shr (.int k) true)))).bind fun y => match y.1 with
          | .int z => .ok z
          | _ => .bad
def evl : Exs → SEnv → R (List (D × Fl))
  | .nil, _ => .ok []
  | .cons e es, E => (ev e E).bind fun x => (evl es E).bind fun p => .ok (x :: p)
/-- the items that are walked; whether all are younger than the frame; whether what is walked stands still -/
def evI : It → SEnv → R (List D × Bool × Bool)
  | .seq e, E => (ev e E).bind fun x => itV x
  | .rng a b, E => (ev a E).bind fun x => (ev b E).bind fun y => rngV x.1 y.1
  | .rng1 b, E => (ev b E).bind fun y => rngV (.int 0) y.1
  | .enum e, E => (ev e E).bind fun x => enumV x
  | .zip a b, E => (ev a E).bind fun x => (ev b E).bind fun y => zipV x y
end
end

/-! ### statements -/
inductive Fw where
  | nx (E : SEnv)
  | rt (d : D) (n : Bool)
def frz1 (E : SEnv) (i : Nat) : SEnv := match E[i]? with
  | some (some (.own (.lst ds) n)) => E.set i (some (.shr (.lst ds) n))
  | some (some (.own (.dic ds) n)) => E.set i (some (.shr (.dic ds) n))
  | _ => E
def frz (E : SEnv) : List Nat → SEnv
  | [] => E
  | i :: is => frz (frz1 E i) is
/-- the names whose own objects flow into the value -/
def esc : Ex → List Nat
  | .var i => [i]
  | .ite _ a b => esc a ++ esc b
  | .lst es => escs es
  | .tup es => escs es
  | .dic _ e => esc e
  | .bin _ a b => escb a ++ escb b
  | _ => []
where
  escs : Exs → List Nat
    | .nil => []
    | .cons e es => esc e ++ escs es
  escb : Ex → List Nat
    | .var _ => []
    | e => esc e
def escI : It → List Nat
  | .seq e => esc e
  | .enum e => esc e
  | .zip a b => esc a ++ esc b
  | _ => []
def D.isL : D → Bool
  | .lst _ => true
  | .dic _ => true
  | _ => false
/-- an own list, dict by its name -/
def ownV (E : SEnv) : Ex → Option (D × Bool)
  | .var i => match E[i]? with
    | some (some (.own (.lst ds) n)) => some (.lst ds, n)
    | some (some (.own (.dic ds) n)) => some (.dic ds, n)
    | _ => none
  | _ => none
def asgV (E : SEnv) (i : Nat) (x : D × Fl) : R Fw := match x.1 with
  | .lst ds => if x.2.r then .ok (.nx (E.set i (some (.own (.lst ds) x.2.n)))) else if x.2.c then .ok (.nx (E.set i (some (.shr (.lst ds) x.2.n)))) else .bad
  | .dic ds => if x.2.r then .ok (.nx (E.set i (some (.own (.dic ds) x.2.n)))) else if x.2.c then .ok (.nx (E.set i (some (.shr (.dic ds) x.2.n)))) else .bad
  | d => if x.2.c then .ok (.nx (E.set i (some (.shr d x.2.n)))) else .bad
def ownL (E : SEnv) (i : Nat) : Option (List D × Bool) := match E[i]? with
  | some (some (.own (.lst ds) n)) => some (ds, n)
  | _ => none
def ownK (E : SEnv) (i : Nat) : Option (List (Int × D) × Bool) := match E[i]? with
  | some (some (.own (.dic ds) n)) => some (ds, n)
  | _ => none
def putL (E : SEnv) (i : Nat) (ds : List D) (n : Bool) : SEnv := E.set i (some (.own (.lst ds) n))
def appV (E : SEnv) (i : Nat) (ds : List D) (n : Bool) (x : D × Fl) : R Fw := if x.2.c ∧ ds.length < lim then .ok (.nx (putL E i (ds ++ [x.1]) (n && (x.2.n || x.1.imm)))) else .bad
/-- the place of an index, the item there -/
def popV (ds : List D) (k : D) : R (Nat × D) := match k with
  | .int z => match ixN' ds.length z with
    | some m => match ds[m]? with
      | some d => if -(2 ^ 63) ≤ z ∧ z < 2 ^ 63 then .ok (m, d) else .bad
      | none => .bad
    | none => .bad
  | _ => .bad
def putD (kvs : List (Int × D)) (k : Int) (d : D) : List (Int × D) := if kvs.any (fun p => decide (p.1 = k)) then kvs.map (fun p => if p.1 = k then (p.1, d) else p) else kvs ++ [(k, d)]
def setLV (E : SEnv) (i : Nat) (ds : List D) (n : Bool) (k : D) (x : D × Fl) : R Fw := match k with
  | .int z => match ixN' ds.length z with
    | some m => if x.2.c then .ok (.nx (putL E i (ds.set m x.1) (n && (x.2.n || x.1.imm)))) else .bad
    | none => .bad
  | _ => .bad
def setKV (E : SEnv) (i : Nat) (kvs : List (Int × D)) (n : Bool) (k : D) (x : D × Fl) : R Fw := match k with
  | .int z => if x.2.c ∧ kvs.length < lim then .ok (.nx (E.set i (some (.own (.dic (putD kvs z x.1)) (n && (x.2.n || x.1.imm)))))) else .bad
  | _ => .bad
def putO (f : Str) (v : D) : List (Str × D) → List (Str × D)
  | [] => [(f, v)]
  | (g, w) :: r => if g = f then (g, v) :: r else (g, w) :: putO f v r
def ownO (E : SEnv) (i : Nat) : Option (Str × List (Str × D) × Bool) := match E[i]? with
  | some (some (.own (.obj c fs) n)) => some (c, fs, n)
  | _ => none
def putS (E : SEnv) (i : Nat) (c : Str) (fs : List (Str × D)) (n : Bool) : SEnv := E.set i (some (.own (.obj c fs) n))
def forV (turn : D → SEnv → R Fw) : List D → SEnv → R Fw
  | [], E => .ok (.nx E)
  | x :: xs, E => (turn x E).bind fun f => match f with
    | .nx E' => forV turn xs E'
    | .rt d n => .ok (.rt d n)
def whlV (c : SEnv → R Bool) (b : SEnv → R Fw) : Nat → SEnv → R Fw
  | 0, _ => .bad
  | w + 1, E => (c E).bind fun k => if k then (b E).bind fun f => match f with
      | .nx E' => whlV c b w E'
      | .rt d n => .ok (.rt d n)
    else .ok (.nx E)
/-- the slots of a target -/
def tgSlots : Tg → List Nat
  | .nm i => [i]
  | .tp is => is
/-- none of these is locked -/
def lkB (L is : List Nat) : Bool := is.all fun i => !L.contains i
/-- an own list that is walked by its name -/
def ownIt (E : SEnv) : It → Option (Nat × List D × Bool)
  | .seq (.var i) => match ownL E i with
    | some (ds, n) => some (i, ds, n)
    | none => none
  | _ => none
section
variable (T : Tb) (W : Nat) (C : Fid → List D → R (D × Bool))
mutual
/-- L: the locked slots: own lists that are being walked -/
def exec : Sx → List Nat → SEnv → R Fw
  | .asg i e, L, E => if lkB L (i :: esc e) then (ev T C e (frz E (esc e))).bind fun x => asgV (frz E (esc e)) i x else .bad
  | .asgT is e, L, E => if lkB L (is ++ esc e) then (ev T C e (frz E (esc e))).bind fun x => if x.2.c then (tgV (frz E (esc e)) (.tp is) x.1 x.2.n).bind fun E' => .ok (.nx E') else .bad else .bad
  | .par i j a b, L, E => if lkB L (i :: j :: (esc a ++ esc b)) then (ev T C a (frz E (esc a ++ esc b))).bind fun x => (ev T C b (frz E (esc a ++ esc b))).bind fun y => if x.2.c ∧ y.2.c then .ok (.nx (((frz E (esc a ++ esc b)).set i (some (.shr x.1 x.2.n))).set j (some (.shr y.1 y.2.n)))) else .bad else .bad
  | .fld f e, L, E => if lkB L (0 :: esc e) then match ownO (frz E (esc e)) 0 with
    | some (c, fs, n) => (ev T C e (frz E (esc e))).bind fun x => if x.2.c ∧ fs.length < 900 then .ok (.nx (putS (frz E (esc e)) 0 c (putO f x.1 fs) (n && (x.2.n || x.1.imm)))) else .bad
    | none => .bad
    else .bad
  | .supi b es, L, E => if lkB L [0] then match ownO E 0 with
    | some (c, fs, n) => (evl T C es E).bind fun xs => if (cmb xs).2.c && fs.isEmpty then (C (.ini b) (.obj c [] :: (cmb xs).1)).bind fun q => match q.1 with
        | .obj c2 fs2 => if c2 = c then .ok (.nx (putS E 0 c fs2 (n && (q.2 || (cmb xs).2.n)))) else .bad
        | _ => .bad
      else .bad
    | none => .bad
    else .bad
  | .app i e, L, E => if lkB L (i :: esc e) then match ownL (frz E (esc e)) i with
    | some (ds, n) => (ev T C e (frz E (esc e))).bind fun x => appV (frz E (esc e)) i ds n x
    | none => .bad
    else .bad
  | .popA j i e, L, E => if lkB L [j, i] then match ownL E i with
    | some (ds, n) => (ev T C e E).bind fun k => (popV ds k.1).bind fun p => .ok (.nx ((putL E i (ds.eraseIdx p.1) n).set j (some (.shr p.2 n))))
    | none => .bad
    else .bad
  | .appPop j i e, L, E => if lkB L [i, j] then match ownL E i, ownL E j with
    | some (ds, n), some (es, m) => if i = j then .bad else (ev T C e E).bind fun k => (popV ds k.1).bind fun p => appV (putL E i (ds.eraseIdx p.1) n) j es m (p.2, ⟨false, n, true⟩)
    | _, _ => .bad
    else .bad
  | .set i k e, L, E => if lkB L (i :: esc e) then match ownL (frz E (esc e)) i, ownK (frz E (esc e)) i with
    | some (ds, n), _ => (ev T C e (frz E (esc e))).bind fun x => (ev T C k (frz E (esc e))).bind fun y => setLV (frz E (esc e)) i ds n y.1 x
    | _, some (ds, n) => (ev T C e (frz E (esc e))).bind fun x => (ev T C k (frz E (esc e))).bind fun y => setKV (frz E (esc e)) i ds n y.1 x
    | _, _ => .bad
    else .bad
  | .aug i op k e, L, E => if lkB L [i] then match ownL E i with
    | some (ds, n) => (ev T C k E).bind fun y => match y.1 with
      | .int z => match (ixN' ds.length z).bind fun m => ds[m]? with
        | some d => (ev T C e E).bind fun u => match d, u.1 with
          | .int a, .int b => if op = .Add then setLV E i ds n y.1 (mkI (.int (a + b))) else .bad
          | _, _ => .bad
        | none => .bad
      | _ => .bad
    | none => .bad
    else .bad
  | .augV i op e, L, E => if lkB L [i] then (ev T C (.var i) E).bind fun x => (ev T C e E).bind fun y => match x.1, y.1 with
    | .int _, .int _ => (binV op x y).bind fun u => asgV E i u
    | _, _ => .bad
    else .bad
  | .clr i, L, E => if lkB L [i] then match ownL E i with
    | some (_, n) => .ok (.nx (putL E i [] n))
    | none => .bad
    else .bad
  | .ite c a b, L, E => (ev T C c E).bind fun k => boolR k fun k => if k then execs a L E else execs b L E
  | .whl c b, L, E => whlV (fun E => (ev T C c E).bind fun k => boolR k fun k => .ok k) (fun E => execs b L E) W E
  | .for tg it b, L, E => match ownIt E it with
    | some (i, ds, n) => if lkB L (tgSlots tg) && !(tgSlots tg).contains i then forV (fun x E => (tgV E tg x n).bind fun E' => execs b (i :: L) E') ds E else .bad
    | none => if lkB L (tgSlots tg ++ escI it) then (evI T C it (frz E (escI it))).bind fun p => if p.2.2 then forV (fun x E => (tgV E tg x p.2.1).bind fun E' => execs b L E') p.1 (frz E (escI it)) else .bad else .bad
  | .ret e, _, E => match ownV E e with
    | some (d, n) => .ok (.rt d n)
    | none => (ev T C e (frz E (List.range E.length))).bind fun x => if x.2.c then .ok (.rt x.1 (x.2.n && (x.2.r || !x.1.isL))) else .bad
  | .rai c, _, _ => .exc c
  | .expr e, _, E => (ev T C e E).bind fun _ => .ok (.nx E)
  | .pass, _, E => .ok (.nx E)
  | .tryE b c i s, L, E => match execs b L E with
    | .ok f => .ok f
    | .bad => .bad
    | .exc x => if T.sub x c then .bad else .exc x
def execs : Sxs → List Nat → SEnv → R Fw
  | .nil, _, E => .ok (.nx E)
  | .cons s ss, L, E => (exec s L E).bind fun f => match f with
    | .nx E' => execs ss L E'
    | .rt d n => .ok (.rt d n)
end
end
def startE (g : Fn) (ds : List D) : SEnv := ds.map (fun d => some (.shr d false)) ++ List.replicate (g.ns - g.np) none
def endV (r : R Fw) : R (D × Bool) := r.bind fun f => match f with
  | .nx _ => .ok (.non, true)
  | .rt d n => .ok (d, n)
def iniEnd (c' : Str) : Fw → R (D × Bool)
  | .nx (some (.own (.obj c2 fs2) m) :: _) => if c2 = c' then .ok (.obj c2 fs2, m) else .bad
  | _ => .bad
/-- a def's, a method's, a class's call -/
def run (T : Tb) (W : Nat) : Nat → Fid → List D → R (D × Bool)
  | 0, _, _ => .bad
  | n + 1, .mk c, ds => run T W n (.ini c) (.obj c [] :: ds)
  | n + 1, .ini c, ds => match T.fn (.ini c), ds with
    | some g, .obj c' fs :: r => if ds.length = g.np then (execs T W (run T W n) g.body [] (some (.own (.obj c' fs) true) :: r.map (fun d => some (.shr d false)) ++ List.replicate (g.ns - g.np) none)).bind fun f => iniEnd c' f
      else .bad
    | _, _ => .bad
  | n + 1, f, ds => match T.fn f with
    | some g => if ds.length = g.np then endV (execs T W (run T W n) g.body [] (startE g ds)) else .bad
    | none => .bad
end FS

/-! FS2: values as they lie in the abstract heap; the simulation; what an expression promises. -/
namespace FS
open PySem L2

structure GT where
  K : PySem.W.Frag
  cls : Str → Option Addr
  ecls : Str → Option Addr

/-- objects that never change -/
def immO : HO → Bool
  | .tup _ => true
  | .frz _ _ => true
  | _ => false
def ScrR (K : PySem.W.Frag) (H : Hp) (a : Addr) (vs : List V) : Prop := (∃ o, H a = some (.frz o (.lst vs))) ∨
    ∃ (o : Obj) (its : Array Value) (n : Nat), K.lookup a = some o ∧ o.cls = .type "list" ∧ o.dict = none ∧ o.data = .seq its n ∧ its.size ≤ sizeLine ∧ Vals vs its.toList

mutual
def Rep (G : GT) (P : Bool → Addr → Prop) (H : Hp) : D → V → Prop
  | .non, v => v = .non
  | .bl b, v => v = .bl b
  | .int i, v => v = .int i
  | .str s, v => v = .str s
  | .scr ns, v => ∃ a, v = .ref a ∧ ScrR G.K H a (ns.map V.int)
  | .lst ds, v => ∃ a vs, v = .ref a ∧ P true a ∧ H a = some (.lst vs) ∧ vs.length ≤ sizeLine ∧ Reps G P H ds vs
  | .tup ds, v => ∃ a vs, v = .ref a ∧ H a = some (.tup vs) ∧ vs.length ≤ sizeLine ∧ Reps G P H ds vs
  | .dic kvs, v => ∃ a ws, v = .ref a ∧ P true a ∧ H a = some (.dK ws) ∧ ws.length ≤ sizeLine ∧ RepK G P H kvs ws
  | .obj c fs, v => ∃ a C dx ws, v = .ref a ∧ P false a ∧ H a = some (.ins C dx ws) ∧ G.cls c = some C ∧ RepF G P H fs ws
  | .exc _, _ => False
def Reps (G : GT) (P : Bool → Addr → Prop) (H : Hp) : List D → List V → Prop
  | [], vs => vs = []
  | d :: ds, vs => ∃ v r, vs = v :: r ∧ Rep G P H d v ∧ Reps G P H ds r
def RepK (G : GT) (P : Bool → Addr → Prop) (H : Hp) : List (Int × D) → List (Key × V) → Prop
  | [], vs => vs = []
  | (k, d) :: ds, vs => ∃ v r, vs = (.inl k, v) :: r ∧ Rep G P H d v ∧ RepK G P H ds r
def RepF (G : GT) (P : Bool → Addr → Prop) (H : Hp) : List (Str × D) → List (Str × V) → Prop
  | [], vs => vs = []
  | (k, d) :: ds, vs => ∃ v r, vs = (k, v) :: r ∧ Rep G P H d v ∧ RepF G P H ds r
end

section
variable {G : GT} {P P' : Bool → Addr → Prop} {H H' : Hp}
theorem ScrR.mono {K : PySem.W.Frag} {a : Addr} {vs : List V} (hI : ∀ a o, immO o = true → H a = some o → H' a = some o) (h : ScrR K H a vs) : ScrR K H' a vs := by
  rcases h with ⟨o, h⟩ | h
  · exact .inl ⟨o, hI a _ rfl h⟩
  · exact .inr h
theorem ScrR.sql {K : PySem.W.Frag} {a : Addr} {vs : List V} (h : ScrR K H a vs) : SqL K H a vs := by
  rcases h with ⟨o, h⟩ | h
  · exact .inl (.inr ⟨o, h⟩)
  · exact .inr h
mutual
theorem Rep.mono (hP : ∀ k a o, P k a → H a = some o → P' k a ∧ H' a = some o) (hI : ∀ a o, immO o = true → H a = some o → H' a = some o) : ∀ (d : D) (v : V), Rep G P H d v → Rep G P' H' d v
  | .non, _, h => by simpa [Rep] using h
  | .bl _, _, h => by simpa [Rep] using h
  | .int _, _, h => by simpa [Rep] using h
  | .str _, _, h => by simpa [Rep] using h
  | .scr ns, _, h => by
    simp only [Rep] at h ⊢
    obtain ⟨a, e, h⟩ := h
    exact ⟨a, e, h.mono hI⟩
  | .lst ds, _, h => by
    simp only [Rep] at h ⊢
    obtain ⟨a, vs, e, p, q, z, r⟩ := h
    exact ⟨a, vs, e, (hP _ _ _ p q).1, (hP _ _ _ p q).2, z, Reps.mono hP hI ds vs r⟩
  | .tup ds, _, h => by
    simp only [Rep] at h ⊢
    obtain ⟨a, vs, e, q, z, r⟩ := h
    exact ⟨a, vs, e, hI _ _ rfl q, z, Reps.mono hP hI ds vs r⟩
  | .dic ds, _, h => by
    simp only [Rep] at h ⊢
    obtain ⟨a, vs, e, p, q, z, r⟩ := h
    exact ⟨a, vs, e, (hP _ _ _ p q).1, (hP _ _ _ p q).2, z, RepK.mono hP hI ds vs r⟩
  | .obj c fs, _, h => by
    simp only [Rep] at h ⊢
    obtain ⟨a, C, dx, ws, e, p, q, z, r⟩ := h
    exact ⟨a, C, dx, ws, e, (hP _ _ _ p q).1, (hP _ _ _ p q).2, z, RepF.mono hP hI fs ws r⟩
  | .exc _, _, h => by simp only [Rep] at h
theorem Reps.mono (hP : ∀ k a o, P k a → H a = some o → P' k a ∧ H' a = some o) (hI : ∀ a o, immO o = true → H a = some o → H' a = some o) : ∀ (d : List D) (v : List V), Reps G P H d v → Reps G P' H' d v
  | [], _, h => by simpa [Reps] using h
  | d :: ds, _, h => by
    simp only [Reps] at h ⊢
    obtain ⟨v, r, e, p, q⟩ := h
    exact ⟨v, r, e, Rep.mono hP hI d v p, Reps.mono hP hI ds r q⟩
theorem RepK.mono (hP : ∀ k a o, P k a → H a = some o → P' k a ∧ H' a = some o) (hI : ∀ a o, immO o = true → H a = some o → H' a = some o) : ∀ (d : List (Int × D)) (v : List (Key × V)), RepK G P H d v → RepK G P' H' d v
  | [], _, h => by simpa [RepK] using h
  | (k, d) :: ds, _, h => by
    simp only [RepK] at h ⊢
    obtain ⟨v, r, e, p, q⟩ := h
    exact ⟨v, r, e, Rep.mono hP hI d v p, RepK.mono hP hI ds r q⟩
theorem RepF.mono (hP : ∀ k a o, P k a → H a = some o → P' k a ∧ H' a = some o) (hI : ∀ a o, immO o = true → H a = some o → H' a = some o) : ∀ (d : List (Str × D)) (v : List (Str × V)), RepF G P H d v → RepF G P' H' d v
  | [], _, h => by simpa [RepF] using h
  | (k, d) :: ds, _, h => by
    simp only [RepF] at h ⊢
    obtain ⟨v, r, e, p, q⟩ := h
    exact ⟨v, r, e, Rep.mono hP hI d v p, RepF.mono hP hI ds r q⟩
end
mutual
theorem Rep.imm (hP : ∀ a o, P false a → H a = some o → P' false a) : ∀ (d : D) (v : V), d.imm = true → Rep G P H d v → Rep G P' H d v
  | .non, _, _, h => by simpa [Rep] using h
  | .bl _, _, _, h => by simpa [Rep] using h
  | .int _, _, _, h => by simpa [Rep] using h
  | .str _, _, _, h => by simpa [Rep] using h
  | .scr ns, _, _, h => by simpa [Rep] using h
  | .lst ds, _, i, h => by simp [D.imm] at i
  | .tup ds, _, i, h => by
    simp only [Rep] at h ⊢
    obtain ⟨a, vs, e, q, z, r⟩ := h
    exact ⟨a, vs, e, q, z, Reps.imm hP ds vs (by simpa [D.imm] using i) r⟩
  | .dic ds, _, i, h => by simp [D.imm] at i
  | .obj c fs, _, i, h => by
    simp only [Rep] at h ⊢
    obtain ⟨a, C, dx, ws, e, p, q, z, r⟩ := h
    exact ⟨a, C, dx, ws, e, hP _ _ p q, q, z, RepF.imm hP fs ws (by simpa [D.imm] using i) r⟩
  | .exc _, _, _, h => by simp only [Rep] at h
theorem Reps.imm (hP : ∀ a o, P false a → H a = some o → P' false a) : ∀ (d : List D) (v : List V), D.imm.immL d = true → Reps G P H d v → Reps G P' H d v
  | [], _, _, h => by simpa [Reps] using h
  | d :: ds, _, i, h => by
    simp only [D.imm.immL, Bool.and_eq_true] at i
    simp only [Reps] at h ⊢
    obtain ⟨v, r, e, p, q⟩ := h
    exact ⟨v, r, e, Rep.imm hP d v i.1 p, Reps.imm hP ds r i.2 q⟩
theorem RepF.imm (hP : ∀ a o, P false a → H a = some o → P' false a) : ∀ (d : List (Str × D)) (v : List (Str × V)), D.imm.immF d = true → RepF G P H d v → RepF G P' H d v
  | [], _, _, h => by simpa [RepF] using h
  | (k, d) :: ds, _, i, h => by
    simp only [D.imm.immF, Bool.and_eq_true] at i
    simp only [RepF] at h ⊢
    obtain ⟨v, r, e, p, q⟩ := h
    exact ⟨v, r, e, Rep.imm hP d v i.1 p, RepF.imm hP ds r i.2 q⟩
end
theorem immL_all : ∀ ds : List D, D.imm.immL ds = ds.all D.imm
  | [] => rfl
  | d :: ds => by simp [D.imm.immL, immL_all ds]
theorem Reps.length : ∀ {ds : List D} {vs : List V}, Reps G P H ds vs → vs.length = ds.length
  | [], _, h => by simp only [Reps] at h; simp [h]
  | d :: ds, _, h => by
    simp only [Reps] at h
    obtain ⟨v, r, rfl, _, q⟩ := h
    simp [Reps.length q]
theorem Reps.get : ∀ {ds : List D} {vs : List V} {i : Nat} {d : D}, Reps G P H ds vs → ds[i]? = some d → ∃ v, vs[i]? = some v ∧ Rep G P H d v
  | [], _, _, _, _, e => by simp at e
  | d :: ds, _, 0, _, h, e => by
    simp only [Reps] at h
    obtain ⟨v, r, rfl, p, q⟩ := h
    simp at e
    subst e
    exact ⟨v, rfl, p⟩
  | d :: ds, _, i + 1, _, h, e => by
    simp only [Reps] at h
    obtain ⟨v, r, rfl, p, q⟩ := h
    obtain ⟨w, e1, e2⟩ := Reps.get (i := i) q (by simpa using e)
    exact ⟨w, by simpa using e1, e2⟩
theorem Reps.append : ∀ {ds es : List D} {vs ws : List V}, Reps G P H ds vs → Reps G P H es ws → Reps G P H (ds ++ es) (vs ++ ws)
  | [], _, _, _, h, k => by simp only [Reps] at h; subst h; simpa using k
  | d :: ds, _, _, _, h, k => by
    simp only [Reps] at h
    obtain ⟨v, r, rfl, p, q⟩ := h
    simp only [List.cons_append, Reps]
    exact ⟨v, _, rfl, p, Reps.append q k⟩
theorem Reps.one {d : D} {v : V} (h : Rep G P H d v) : Reps G P H [d] [v] := by
  simp only [Reps]
  exact ⟨v, [], rfl, h, rfl⟩
theorem Reps.drop : ∀ (n : Nat) {ds : List D} {vs : List V}, Reps G P H ds vs → Reps G P H (ds.drop n) (vs.drop n)
  | 0, _, _, h => by simpa using h
  | n + 1, [], _, h => by simp only [Reps] at h; subst h; simp [Reps]
  | n + 1, d :: ds, _, h => by
    simp only [Reps] at h
    obtain ⟨v, r, rfl, p, q⟩ := h
    simpa using Reps.drop n q
theorem Reps.take : ∀ (n : Nat) {ds : List D} {vs : List V}, Reps G P H ds vs → Reps G P H (ds.take n) (vs.take n)
  | 0, _, _, h => by simp [Reps]
  | n + 1, [], _, h => by simp only [Reps] at h; subst h; simp [Reps]
  | n + 1, d :: ds, _, h => by
    simp only [Reps] at h
    obtain ⟨v, r, rfl, p, q⟩ := h
    simp only [List.take_succ_cons, Reps]
    exact ⟨v, _, rfl, p, Reps.take n q⟩
theorem Reps.reverse : ∀ {ds : List D} {vs : List V}, Reps G P H ds vs → Reps G P H ds.reverse vs.reverse
  | [], _, h => by simp only [Reps] at h; subst h; simp [Reps]
  | d :: ds, _, h => by
    simp only [Reps] at h
    obtain ⟨v, r, rfl, p, q⟩ := h
    simp only [List.reverse_cons]
    exact (Reps.reverse q).append (.one p)
theorem Reps.set : ∀ (n : Nat) {ds : List D} {vs : List V} {d : D} {v : V}, Reps G P H ds vs → Rep G P H d v → Reps G P H (ds.set n d) (vs.set n v)
  | _, [], _, _, _, h, _ => by simp only [Reps] at h; subst h; simp [Reps]
  | 0, d :: ds, _, _, w, h, k => by
    simp only [Reps] at h
    obtain ⟨v, r, rfl, p, q⟩ := h
    simp only [List.set_cons_zero, Reps]
    exact ⟨w, _, rfl, k, q⟩
  | n + 1, d :: ds, _, _, w, h, k => by
    simp only [Reps] at h
    obtain ⟨v, r, rfl, p, q⟩ := h
    simp only [List.set_cons_succ, Reps]
    exact ⟨v, _, rfl, p, Reps.set n q k⟩
theorem Reps.erase : ∀ (n : Nat) {ds : List D} {vs : List V}, Reps G P H ds vs → Reps G P H (ds.eraseIdx n) (vs.eraseIdx n)
  | _, [], _, h => by simp only [Reps] at h; subst h; simp [Reps]
  | 0, d :: ds, _, h => by
    simp only [Reps] at h
    obtain ⟨v, r, rfl, p, q⟩ := h
    simpa using q
  | n + 1, d :: ds, _, h => by
    simp only [Reps] at h
    obtain ⟨v, r, rfl, p, q⟩ := h
    simp only [List.eraseIdx_cons_succ, Reps]
    exact ⟨v, _, rfl, p, Reps.erase n q⟩
theorem Reps.ints : ∀ {ds : List D} {vs : List V} {ns : List Int}, Reps G P H ds vs → intsD ds = some ns → vs = ns.map V.int ∧ ds = ns.map D.int
  | [], _, _, h, e => by simp only [Reps] at h; simp [intsD] at e; subst h; subst e; simp
  | .int i :: ds, _, ns, h, e => by
    simp only [Reps, Rep] at h
    obtain ⟨v, r, rfl, rfl, q⟩ := h
    simp only [intsD] at e
    cases e' : intsD ds with
    | none => rw [e'] at e; simp at e
    | some ms =>
      rw [e'] at e
      simp at e
      subst e
      obtain ⟨h1, h2⟩ := Reps.ints q e'
      subst h1; subst h2
      simp
  | .non :: _, _, _, _, e => by simp [intsD] at e
  | .bl _ :: _, _, _, _, e => by simp [intsD] at e
  | .str _ :: _, _, _, _, e => by simp [intsD] at e
  | .scr _ :: _, _, _, _, e => by simp [intsD] at e
  | .lst _ :: _, _, _, _, e => by simp [intsD] at e
  | .tup _ :: _, _, _, _, e => by simp [intsD] at e
  | .dic _ :: _, _, _, _, e => by simp [intsD] at e
  | .obj _ _ :: _, _, _, _, e => by simp [intsD] at e
  | .exc _ :: _, _, _, _, e => by simp [intsD] at e
theorem Reps.bls : ∀ {ds : List D} {vs : List V} {ns : List Bool}, Reps G P H ds vs → FS.bls ds = some ns → vs = ns.map V.bl ∧ ds = ns.map D.bl
  | [], _, _, h, e => by simp only [Reps] at h; simp [FS.bls] at e; subst h; subst e; simp
  | .bl i :: ds, _, ns, h, e => by
    simp only [Reps, Rep] at h
    obtain ⟨v, r, rfl, rfl, q⟩ := h
    simp only [FS.bls] at e
    cases e' : FS.bls ds with
    | none => rw [e'] at e; simp at e
    | some ms =>
      rw [e'] at e
      simp at e
      subst e
      obtain ⟨h1, h2⟩ := Reps.bls q e'
      subst h1; subst h2
      simp
  | .non :: _, _, _, _, e => by simp [FS.bls] at e
  | .int _ :: _, _, _, _, e => by simp [FS.bls] at e
  | .str _ :: _, _, _, _, e => by simp [FS.bls] at e
  | .scr _ :: _, _, _, _, e => by simp [FS.bls] at e
  | .lst _ :: _, _, _, _, e => by simp [FS.bls] at e
  | .tup _ :: _, _, _, _, e => by simp [FS.bls] at e
  | .dic _ :: _, _, _, _, e => by simp [FS.bls] at e
  | .obj _ _ :: _, _, _, _, e => by simp [FS.bls] at e
  | .exc _ :: _, _, _, _, e => by simp [FS.bls] at e
theorem Reps.of_ints : ∀ (ns : List Int), Reps G P H (ns.map D.int) (ns.map V.int)
  | [] => by simp [Reps]
  | n :: ns => by
    simp only [List.map_cons, Reps]
    exact ⟨_, _, rfl, by simp [Rep], Reps.of_ints ns⟩
theorem RepK.length : ∀ {ds : List (Int × D)} {vs : List (Key × V)}, RepK G P H ds vs → vs.length = ds.length
  | [], _, h => by simp only [RepK] at h; simp [h]
  | (k, d) :: ds, _, h => by
    simp only [RepK] at h
    obtain ⟨v, r, rfl, _, q⟩ := h
    simp [RepK.length q]
theorem RepF.look : ∀ {fs : List (Str × D)} {ws : List (Str × V)} {f : Str} {d : D}, RepF G P H fs ws → fs.lookup f = some d → ∃ v, ws.lookup f = some v ∧ Rep G P H d v
  | [], _, _, _, _, e => by simp at e
  | (k, d) :: fs, _, f, d', h, e => by
    simp only [RepF] at h
    obtain ⟨v, r, rfl, p, q⟩ := h
    rw [List.lookup_cons] at e ⊢
    cases hb : f == k with
    | true =>
      rw [hb] at e
      have e' : d = d' := Option.some.inj e
      subst e'
      exact ⟨v, rfl, p⟩
    | false =>
      rw [hb] at e
      exact RepF.look q e
end

/-! ### the simulation -/
structure Fr where
  P : Bool → Addr → Prop
  H0 : Hp
  self : Option Addr
  ex : Addr → Prop
  pin : List (D × V × Bool)
  lk : List (Nat × Addr × List D × Bool)
/-- where a value's lists may stand: n: younger than the frame -/
def cl (F : Fr) (n : Bool) (k : Bool) (a : Addr) : Prop := ¬ F.ex a ∧ (F.H0 a = none ∨ (F.P k a ∧ (k = true → n = false)))
def OwnR (G : GT) (F : Fr) (H : Hp) (n : Bool) (a : Addr) : D → Prop
  | .lst ds => F.H0 a = none ∧ F.self ≠ some a ∧ ∃ vs, H a = some (.lst vs) ∧ vs.length ≤ sizeLine ∧ Reps G (cl F n) H ds vs
  | .dic ds => F.H0 a = none ∧ F.self ≠ some a ∧ ∃ vs, H a = some (.dK vs) ∧ vs.length ≤ sizeLine ∧ RepK G (cl F n) H ds vs
  | .obj c fs => F.self = some a ∧ ∃ C dx ws, H a = some (.ins C dx ws) ∧ G.cls c = some C ∧ RepF G (cl F n) H fs ws
  | _ => False
def SlotR (G : GT) (F : Fr) (H : Hp) : Slot → V → Prop
  | .shr d n, v => Rep G (cl F n) H d v
  | .own d n, v => ∃ a, v = .ref a ∧ F.ex a ∧ OwnR G F H n a d
structure Sim (G : GT) (F : Fr) (E : SEnv) (σ : St) (H : Hp) : Prop where
  len : σ.length = E.length
  ent : ∀ a o, F.self ≠ some a → F.H0 a = some o → H a = some o
  slot : ∀ (i : Nat) (s : Slot), E[i]? = some (some s) → ∃ v, σ[i]? = some (some v) ∧ SlotR G F H s v
  dis : ∀ (i j : Nat) (d d' : D) (n n' : Bool) (v : V), i ≠ j → E[i]? = some (some (.own d n)) → E[j]? = some (some (.own d' n')) → σ[i]? = some (some v) → σ[j]? ≠ some (some v)
  pin : ∀ p ∈ F.pin, Rep G (cl F p.2.2) H p.1 p.2.1
  exH : ∀ a, F.ex a ∨ F.self = some a → H a ≠ none
  lk : ∀ p ∈ F.lk, E[p.1]? = some (some (.own (.lst p.2.2.1) p.2.2.2)) ∧ σ[p.1]? = some (some (.ref p.2.1))

section
variable {G : GT} {F : Fr} {E : SEnv} {σ : St} {H H' H2 : Hp} {d : D} {v : V} {n m : Bool}
theorem Same.imm (s : Same H H') : ∀ a o, immO o = true → H a = some o → H' a = some o := fun a o _ e => s a o e
theorem Rep.same {P : Bool → Addr → Prop} (s : Same H H') (h : Rep G P H d v) : Rep G P H' d v := Rep.mono (fun _ a o p e => ⟨p, s a o e⟩) (Same.imm s) d v h
theorem Reps.same {P : Bool → Addr → Prop} {ds : List D} {vs : List V} (s : Same H H') (h : Reps G P H ds vs) : Reps G P H' ds vs := Reps.mono (fun _ a o p e => ⟨p, s a o e⟩) (Same.imm s) ds vs h
theorem RepK.same {P : Bool → Addr → Prop} {ds : List (Int × D)} {vs : List (Key × V)} (s : Same H H') (h : RepK G P H ds vs) : RepK G P H' ds vs := RepK.mono (fun _ a o p e => ⟨p, s a o e⟩) (Same.imm s) ds vs h
theorem RepF.same {P : Bool → Addr → Prop} {ds : List (Str × D)} {vs : List (Str × V)} (s : Same H H') (h : RepF G P H ds vs) : RepF G P H' ds vs := RepF.mono (fun _ a o p e => ⟨p, s a o e⟩) (Same.imm s) ds vs h
theorem Rep.weak {P P' : Bool → Addr → Prop} (hP : ∀ k a, P k a → P' k a) (h : Rep G P H d v) : Rep G P' H d v := Rep.mono (fun k a o p e => ⟨hP k a p, e⟩) (fun _ _ _ e => e) d v h
theorem Reps.weak {P P' : Bool → Addr → Prop} {ds : List D} {vs : List V} (hP : ∀ k a, P k a → P' k a) (h : Reps G P H ds vs) : Reps G P' H ds vs := Reps.mono (fun k a o p e => ⟨hP k a p, e⟩) (fun _ _ _ e => e) ds vs h
theorem RepK.weak {P P' : Bool → Addr → Prop} {ds : List (Int × D)} {vs : List (Key × V)} (hP : ∀ k a, P k a → P' k a) (h : RepK G P H ds vs) : RepK G P' H ds vs := RepK.mono (fun k a o p e => ⟨hP k a p, e⟩) (fun _ _ _ e => e) ds vs h
theorem cl_le (h : m = true → n = true) : ∀ k a, cl F n k a → cl F m k a := fun k a ⟨h1, h2⟩ => ⟨h1, h2.imp id fun ⟨h3, h4⟩ => ⟨h3, fun hk => by
  cases m with
  | false => rfl
  | true => rw [h rfl] at h4; exact h4 hk⟩⟩
theorem cl_false : ∀ k a, cl F n k a → cl F false k a := cl_le fun h => nomatch h
theorem cl_obj {a : Addr} : cl F n false a → cl F m false a := fun ⟨h1, h2⟩ => ⟨h1, h2.imp id fun ⟨h3, _⟩ => ⟨h3, fun h => nomatch h⟩⟩
/-- what holds no list is wherever it may be -/
theorem Rep.orI (h : Rep G (cl F n) H d v) : Rep G (cl F (n || d.imm)) H d v := by
  cases hi : d.imm with
  | true => exact Rep.imm (fun a _ p _ => cl_obj p) d v hi h
  | false => simpa using h
theorem Reps.orI {ds : List D} {vs : List V} (h : Reps G (cl F n) H ds vs) : Reps G (cl F (n || ds.all D.imm)) H ds vs := by
  cases hi : ds.all D.imm with
  | true => exact Reps.imm (fun a _ p _ => cl_obj p) ds vs (by rw [immL_all]; exact hi) h
  | false => simpa using h
theorem Reps.and {ds es : List D} {vs ws : List V} (h : Reps G (cl F n) H ds vs) (k : Reps G (cl F m) H es ws) : Reps G (cl F (n && m)) H (ds ++ es) (vs ++ ws) :=
  (h.weak (cl_le (by intro e; exact (Bool.and_eq_true_iff.mp e).1))).append (k.weak (cl_le (by intro e; exact (Bool.and_eq_true_iff.mp e).2)))
theorem SlotR.same {s : Slot} (sm : Same H H') (h : SlotR G F H s v) : SlotR G F H' s v := by
  cases s with
  | shr d n => exact Rep.same sm h
  | own d n =>
    obtain ⟨a, e, x, o⟩ := h
    refine ⟨a, e, x, ?_⟩
    cases d with
    | lst ds =>
      obtain ⟨h1, h2, vs, h3, h4, h5⟩ := o
      exact ⟨h1, h2, vs, sm _ _ h3, h4, h5.same sm⟩
    | dic ds =>
      obtain ⟨h1, h2, vs, h3, h4, h5⟩ := o
      exact ⟨h1, h2, vs, sm _ _ h3, h4, h5.same sm⟩
    | obj c fs =>
      obtain ⟨h2, C, dx, ws, h3, h4, h5⟩ := o
      exact ⟨h2, C, dx, ws, sm _ _ h3, h4, h5.same sm⟩
    | non => exact o
    | bl _ => exact o
    | int _ => exact o
    | str _ => exact o
    | scr _ => exact o
    | tup _ => exact o
    | exc _ => exact o
theorem Sim.same (S : Sim G F E σ H) (sm : Same H H') : Sim G F E σ H' :=
  ⟨S.len, fun a o h1 h2 => sm _ _ (S.ent a o h1 h2), fun i s e => let ⟨v, h1, h2⟩ := S.slot i s e; ⟨v, h1, h2.same sm⟩, S.dis, fun p hp => (S.pin p hp).same sm, fun a h z => S.exH a h (sm.free z), S.lk⟩
/-- what is new may hold anything -/
theorem Sim.new (S : Sim G F E σ H) {a : Addr} (h : H a = none) (n k : Bool) : cl F n k a := by
  refine ⟨fun z => S.exH a (.inl z) h, .inl ?_⟩
  cases q : F.H0 a with
  | none => rfl
  | some o =>
    have := S.ent a o (fun z => S.exH a (.inr z) h) q
    rw [h] at this
    cases this
end

/-! ### what comes out -/
/-- a value with its flags: c: no own root within; else an own list, dict -/
def Val (G : GT) (F : Fr) (H : Hp) (x : D × Fl) (v : V) : Prop := match x.2.c with
  | true => Rep G (cl F x.2.n) H x.1 v
  | false => match x.1 with
    | .lst ds => ∃ a vs, v = .ref a ∧ H a = some (.lst vs) ∧ vs.length ≤ sizeLine ∧ Reps G (cl F x.2.n) H ds vs
    | .dic ds => ∃ a vs, v = .ref a ∧ H a = some (.dK vs) ∧ vs.length ≤ sizeLine ∧ RepK G (cl F x.2.n) H ds vs
    | _ => False
/-- a list, a dict that doesn't hold itself -/
def SepR (G : GT) (P : Bool → Addr → Prop) (H : Hp) : D → V → Prop
  | .lst ds, v => ∃ a vs, v = .ref a ∧ H a = some (.lst vs) ∧ vs.length ≤ sizeLine ∧ Reps G (fun k b => P k b ∧ b ≠ a) H ds vs
  | .dic ds, v => ∃ a vs, v = .ref a ∧ H a = some (.dK vs) ∧ vs.length ≤ sizeLine ∧ RepK G (fun k b => P k b ∧ b ≠ a) H ds vs
  | _, _ => True
structure Post (G : GT) (F : Fr) (H H' : Hp) (x : D × Fl) (v : V) : Prop where
  same : Same H H'
  val : Val G F H' x v
  new : x.2.r = true → (x.1.isL = true → x.2.c = true ∧ ∀ a, v = .ref a → H a = none) ∧ SepR G (cl F x.2.n) H' x.1 v
section
variable {G : GT} {F : Fr} {E : SEnv} {σ : St} {H H' H2 : Hp} {d : D} {v : V} {n m : Bool} {x : D × Fl} {f : Fl}
theorem Val.same (s : Same H H') (h : Val G F H x v) : Val G F H' x v := by
  unfold Val at h ⊢
  split at h
  · exact Rep.same s h
  · split at h
    · obtain ⟨a, vs, h1, h2, h3, h4⟩ := h
      exact ⟨a, vs, h1, s _ _ h2, h3, h4.same s⟩
    · obtain ⟨a, vs, h1, h2, h3, h4⟩ := h
      exact ⟨a, vs, h1, s _ _ h2, h3, h4.same s⟩
    · exact h
theorem Val.rep (h : Val G F H (d, f) v) (hc : f.c = true) : Rep G (cl F f.n) H d v := by
  unfold Val at h
  simp only [hc] at h
  exact h
theorem Val.clean (h : Val G F H (d, f) v) (hd : ∀ ds, d ≠ .lst ds) (hd' : ∀ ds, d ≠ .dic ds) : Rep G (cl F f.n) H d v := by
  unfold Val at h
  cases hc : f.c with
  | true => simp only [hc] at h; exact h
  | false =>
    cases d with
    | lst ds => exact absurd rfl (hd ds)
    | dic ds => exact absurd rfl (hd' ds)
    | _ => simp only [hc] at h
theorem Val.int {i : Int} (h : Val G F H (.int i, f) v) : v = .int i := by
  have := h.clean (by intro _ e; cases e) (by intro _ e; cases e)
  simpa [Rep] using this
theorem Val.bl {i : Bool} (h : Val G F H (.bl i, f) v) : v = .bl i := by
  have := h.clean (by intro _ e; cases e) (by intro _ e; cases e)
  simpa [Rep] using this
theorem Val.str {i : Str} (h : Val G F H (.str i, f) v) : v = .str i := by
  have := h.clean (by intro _ e; cases e) (by intro _ e; cases e)
  simpa [Rep] using this
theorem Val.non (h : Val G F H (.non, f) v) : v = .non := by
  have := h.clean (by intro _ e; cases e) (by intro _ e; cases e)
  simpa [Rep] using this
theorem Val.lst {ds : List D} (h : Val G F H (.lst ds, f) v) : ∃ a vs, v = .ref a ∧ H a = some (.lst vs) ∧ vs.length ≤ sizeLine ∧ Reps G (cl F f.n) H ds vs := by
  unfold Val at h
  split at h
  · simp only [Rep] at h
    obtain ⟨a, vs, e, _, h2, h3, h4⟩ := h
    exact ⟨a, vs, e, h2, h3, h4⟩
  · exact h
theorem Val.dic {ds : List (Int × D)} (h : Val G F H (.dic ds, f) v) : ∃ a vs, v = .ref a ∧ H a = some (.dK vs) ∧ vs.length ≤ sizeLine ∧ RepK G (cl F f.n) H ds vs := by
  unfold Val at h
  split at h
  · simp only [Rep] at h
    obtain ⟨a, vs, e, _, h2, h3, h4⟩ := h
    exact ⟨a, vs, e, h2, h3, h4⟩
  · exact h
theorem Val.tup {ds : List D} (h : Val G F H (.tup ds, f) v) : ∃ a vs, v = .ref a ∧ H a = some (.tup vs) ∧ vs.length ≤ sizeLine ∧ Reps G (cl F f.n) H ds vs := by
  have := h.clean (by intro _ e; cases e) (by intro _ e; cases e)
  simpa [Rep] using this
theorem Val.scr {ns : List Int} (h : Val G F H (.scr ns, f) v) : ∃ a, v = .ref a ∧ ScrR G.K H a (ns.map V.int) := by
  have := h.clean (by intro _ e; cases e) (by intro _ e; cases e)
  simpa [Rep] using this
theorem Val.ofRep (h : Rep G (cl F n) H d v) {r : Bool} : Val G F H (d, ⟨r, n, true⟩) v := h
theorem Post.int {i : Int} : Post G F H H (mkI (.int i)) (.int i) := ⟨Same.refl _, by show Rep _ _ _ _ _; simp [mkI, Rep], fun _ => ⟨(fun z => nomatch z), trivial⟩⟩
theorem Post.bl {i : Bool} : Post G F H H (mkI (.bl i)) (.bl i) := ⟨Same.refl _, by show Rep _ _ _ _ _; simp [mkI, Rep], fun _ => ⟨(fun z => nomatch z), trivial⟩⟩
theorem Post.str {i : Str} : Post G F H H (mkI (.str i)) (.str i) := ⟨Same.refl _, by show Rep _ _ _ _ _; simp [mkI, Rep], fun _ => ⟨(fun z => nomatch z), trivial⟩⟩
theorem Post.non : Post G F H H (mkI .non) .non := ⟨Same.refl _, by show Rep _ _ _ _ _; simp [mkI, Rep], fun _ => ⟨(fun z => nomatch z), trivial⟩⟩
theorem Post.trans (p : Same H H') (q : Post G F H' H2 x v) : Post G F H H2 x v :=
  ⟨p.trans q.same, q.val, fun hr => ⟨fun hd => ⟨((q.new hr).1 hd).1, fun a e => p.free (((q.new hr).1 hd).2 a e)⟩, (q.new hr).2⟩⟩
theorem same_upd {a : Addr} {o : HO} (h : H a = none) : Same H (upd H a o) := fun b o' e => by rw [upd_ne (ne_of_none e h)]; exact e
/-- a new list -/
theorem Post.list {ds : List D} {vs : List V} {p : Addr} (S : Sim G F E σ H) (hp : H p = none) (hz : vs.length ≤ sizeLine) (h : Reps G (cl F n) H ds vs) : Post G F H (upd H p (.lst vs)) (mkL ds n) (.ref p) := by
  have sm : Same H (upd H p (.lst vs)) := same_upd hp
  refine ⟨sm, ?_, fun _ => ⟨fun _ => ⟨rfl, fun a e => by cases e; exact hp⟩, p, vs, rfl, upd_same, hz, Reps.mono (fun k a o q e => ⟨⟨q, ne_of_none e hp⟩, sm a o e⟩) (Same.imm sm) _ _ h.orI⟩⟩
  show Rep _ _ _ _ _
  simp only [mkL, Rep]
  exact ⟨p, vs, rfl, S.new hp _ _, upd_same, hz, (h.orI).same sm⟩
/-- a new tuple -/
theorem Post.tupl {ds : List D} {vs : List V} {p : Addr} {r : Bool} (hp : H p = none) (hz : vs.length ≤ sizeLine) (h : Reps G (cl F n) H ds vs) : Post G F H (upd H p (.tup vs)) (.tup ds, ⟨r, n, true⟩) (.ref p) := by
  have sm : Same H (upd H p (.tup vs)) := same_upd hp
  refine ⟨sm, ?_, fun _ => ⟨(fun z => nomatch z), trivial⟩⟩
  show Rep _ _ _ _ _
  simp only [Rep]
  exact ⟨p, vs, rfl, upd_same, hz, h.same sm⟩
/-- an item -/
theorem Post.item (h : Rep G (cl F n) H d v) : Post G F H H (mkE d n) v :=
  ⟨Same.refl _, h.orI, fun e => by cases e⟩
end

/-! ### the wishes -/
def R.sat {α : Type} (r : R α) (p : α → Prop) (e : Str → Prop) : Prop := match r with
  | .ok a => p a
  | .exc c => e c
  | .bad => False
theorem R.sat_bind {α β : Type} {r : R α} {f : α → R β} {p : β → Prop} {e : Str → Prop} : (r.bind f).sat p e ↔ r.sat (fun a => (f a).sat p e) e := by
  cases r <;> exact Iff.rfl
theorem R.sat_mono {α : Type} {r : R α} {p p' : α → Prop} {e e' : Str → Prop} (h : r.sat p e) (hp : ∀ a, p a → p' a) (he : ∀ c, e c → e' c) : r.sat p' e' := by
  cases r with
  | ok a => exact hp a h
  | exc c => exact he c h
  | bad => exact h
theorem R.sat_ok {α : Type} {a : α} {p : α → Prop} {e : Str → Prop} : (R.ok a).sat p e ↔ p a := Iff.rfl
theorem R.sat_bad {α : Type} {p : α → Prop} {e : Str → Prop} : (R.bad : R α).sat p e ↔ False := Iff.rfl
/-- what is wanted of an exception of class c -/
def wish (G : GT) (Y : XK) (H : Hp) (c : Str) : Prop := ∀ H', Same H H' → ∃ C, G.ecls c = some C ∧ Y (.ref C) none H'
theorem wish.same {G : GT} {Y : XK} {H H' : Hp} {c : Str} (h : wish G Y H c) (s : Same H H') : wish G Y H' c := fun H2 s2 => h H2 (s.trans s2)

section
variable (T : Tb) (C : Fid → List D → R (D × Bool)) (G : GT) (Y : XK)
/-- the reading of an expression -/
def tP (e : Ex) : TE := fun σ H Q => ∃ F E, Sim G F E σ H ∧ (ev T C e E).sat (fun x => ∀ v H', Post G F H H' x v → Q v H') (wish G Y H)
/-- .. of a test -/
def tT (e : Ex) : TT := fun σ H Q => ∃ F E, Sim G F E σ H ∧ (ev T C e E).sat (fun x => ∃ k, x.1 = .bl k ∧ ∀ H', Same H H' → Q k H') (wish G Y H)
/-- .. of arguments -/
def tA (es : Exs) : TA := fun σ H Q => ∃ F E, Sim G F E σ H ∧ (evl T C es E).sat (fun xs => ∀ vs H', Same H H' → Paired (fun v x => Val G F H' x v) vs xs → Q vs H') (wish G Y H)
end
section
variable {X : Cx}
theorem PE_weak {e : Expr} {t t' : TE} (h : PE X e t) (w : ∀ σ H Q, t' σ H Q → t σ H Q) : PE X e t' := ⟨fun pins s σ H Q I q => h.run pins s σ H Q I (w σ H Q q)⟩
theorem PT_weak {e : Expr} {t t' : TT} (h : PT X e t) (w : ∀ σ H Q, t' σ H Q → t σ H Q) : PT X e t' := ⟨fun pins s σ H Q I q => h.run pins s σ H Q I (w σ H Q q)⟩
theorem PW_weak {e : Expr} {t t' : TT} (h : PW X e t) (w : ∀ σ H Q, t' σ H Q → t σ H Q) : PW X e t' := ⟨fun wh pins s σ H Q I q => h.run wh pins s σ H Q I (w σ H Q q)⟩
theorem PA_weak {e : List Expr} {t t' : TA} (h : PA X e t) (w : ∀ σ H Q, t' σ H Q → t σ H Q) : PA X e t' := ⟨fun pos pins s σ H Q I q => h.run pos pins s σ H Q I (w σ H Q q)⟩
theorem PS_weak {e : Stmt} {t t' : TS} (h : PS X e t) (w : ∀ D σ H, t' D σ H → t D σ H) : PS X e t' := ⟨fun pins s σ H D I q => h.run pins s σ H D I (w D σ H q)⟩
theorem PSs_weak {e : List Stmt} {t t' : TS} (h : PSs X e t) (w : ∀ D σ H, t' D σ H → t D σ H) : PSs X e t' := ⟨fun pins s σ H D I q => h.run pins s σ H D I (w D σ H q)⟩
end

/-! ### names, constants, operators -/
section
variable {T : Tb} {C : Fid → List D → R (D × Bool)} {G : GT} {Y : XK} {X : Cx} {a b c : Expr} {ea eb ec : Ex} {pos : Pos}
theorem ve_var {i : Nat} {x : Str} (hN : X.N[i]? = some x) (hv : Vis X.env.scope x) (hd : (x == ("__debug__" : Str)) = false) (hcd : (x == ("__classdict__" : Str)) = false) : PE X (.Name x pos) (tP T C G Y (.var i)) := by
  refine PE_weak (pe_var hN hv hd hcd) fun σ H Q => ?_
  rintro ⟨F, E, S, h⟩
  simp only [ev] at h
  cases e : E[i]? with
  | none => rw [e] at h; exact h.elim
  | some s =>
    cases s with
    | none => rw [e] at h; exact h.elim
    | some s =>
      obtain ⟨v, h1, h2⟩ := S.slot i s e
      rw [e] at h
      refine ⟨v, h1, ?_⟩
      cases s with
      | shr d n => exact h v H ⟨Same.refl _, Rep.orI h2, fun z => by cases z⟩
      | own d n =>
        cases d with
        | lst ds =>
          obtain ⟨a, e1, _, _, _, vs, h3, h4, h5⟩ := h2
          exact h v H ⟨Same.refl _, ⟨a, vs, e1, h3, h4, h5⟩, fun z => by cases z⟩
        | dic ds =>
          obtain ⟨a, e1, _, _, _, vs, h3, h4, h5⟩ := h2
          exact h v H ⟨Same.refl _, ⟨a, vs, e1, h3, h4, h5⟩, fun z => by cases z⟩
        | _ => exact h.elim
theorem ve_int {i j} : PE X (.Constant (.int i) j pos) (tP T C G Y (.con (.int i))) := PE_weak pe_int fun σ H Q ⟨F, E, S, h⟩ => h _ _ Post.int
theorem ve_bl {i j} : PE X (.Constant (.bool i) j pos) (tP T C G Y (.con (.bl i))) := PE_weak pe_bl fun σ H Q ⟨F, E, S, h⟩ => h _ _ Post.bl
theorem ve_non {j} : PE X (.Constant .none j pos) (tP T C G Y (.con .non)) := PE_weak pe_non fun σ H Q ⟨F, E, S, h⟩ => h _ _ Post.non
theorem ve_str {i j} : PE X (.Constant (.str i) j pos) (tP T C G Y (.con (.str i))) := PE_weak pe_str fun σ H Q ⟨F, E, S, h⟩ => h _ _ Post.str
/-- one after another -/
theorem tP_bind {σ : St} {H : Hp} {F : Fr} {E : SEnv} {β : Type} {f : D × Fl → R β} {p : β → Prop} (S : Sim G F E σ H) (h : ((ev T C ea E).bind f).sat p (wish G Y H)) {Q : VK}
    (k : ∀ x v H', Post G F H H' x v → Sim G F E σ H' → (f x).sat p (wish G Y H') → Q v H') : tP T C G Y ea σ H Q := by
  rw [R.sat_bind] at h
  exact ⟨F, E, S, R.sat_mono h (fun x q v H' P => k x v H' P (S.same P.same) (R.sat_mono q (fun _ z => z) fun c z => z.same P.same)) fun c z => z⟩
/-- an operator by its values -/
def OpV (G : GT) (r : R2) (f : D × Fl → D × Fl → R (D × Fl)) : Prop := ∀ (F : Fr) (E : SEnv) (σ : St) (H : Hp) (x y z : D × Fl) (v u : V) (Q : VK), Sim G F E σ H → Val G F H x v → Val G F H y u → f x y = .ok z → (∀ w H', Post G F H H' z w → Q w H') → r v u H Q
def NoExc {α β γ : Type} (f : α → β → R γ) : Prop := ∀ x y c, f x y ≠ .exc c
theorem sat_of {α : Type} {r : R α} {p : α → Prop} {e : Str → Prop} (h : r.sat p e) (n : ∀ c, r ≠ .exc c) : ∃ a, r = .ok a ∧ p a := by
  cases r with
  | ok a => exact ⟨a, rfl, h⟩
  | exc c => exact absurd rfl (n c)
  | bad => exact h.elim
theorem two {r : R2} {f : D × Fl → D × Fl → R (D × Fl)} (hv : OpV G r f) (hn : NoExc f) {σ : St} {H : Hp} {Q : VK} {F : Fr} {E : SEnv} (S : Sim G F E σ H)
    (h : ((ev T C ea E).bind fun x => (ev T C eb E).bind fun y => f x y).sat (fun x => ∀ v H', Post G F H H' x v → Q v H') (wish G Y H)) : tOp r (tP T C G Y ea) (tP T C G Y eb) σ H Q := by
  refine tP_bind S h fun x v H1 P1 S1 h1 => tP_bind S1 h1 fun y u H2 P2 S2 h2 => ?_
  obtain ⟨z, e, q⟩ := sat_of h2 (hn x y)
  exact hv F E σ H2 x y z v u Q S2 (P1.val.same P2.same) P2.val e fun w H' P => q w H' (Post.trans (P1.same.trans P2.same) P)
theorem ve_bin {op : Operator} {r : R2} (ho : OpR X (binaryOp op) r) (hv : OpV G r (binV op)) (hn : NoExc (binV op)) (ha : PE X a (tP T C G Y ea)) (hb : PE X b (tP T C G Y eb)) : PE X (.BinOp a op b pos) (tP T C G Y (.bin op ea eb)) :=
  PE_weak (pe_op ho ha hb) fun σ H Q ⟨F, E, S, h⟩ => two hv hn S (by simpa only [ev] using h)
end
end FS

/-! FS3: operators, tests, displays, items, attributes. -/
namespace FS
open PySem L2

theorem lim_line : lim ≤ sizeLine := by decide
theorem bin_ne (op : Operator) : NoExc (binV op) := by
  rintro ⟨d, f⟩ ⟨d', g⟩ c e
  unfold binV at e
  split at e <;> first | cases e | (split at e <;> cases e)

section
variable {T : Tb} {C : Fid → List D → R (D × Bool)} {G : GT} {Y : XK} {X : Cx} {a b c : Expr} {ea eb ec : Ex} {pos : Pos}

/-! ### arithmetic -/
theorem opV_int {op : Operator} {r : R2} {P : Int → Int → Prop} {g : Int → Int → Int} (hr : ∀ i j H Q, P i j → Q (V.int (g i j)) H → r (.int i) (.int j) H Q)
    (hf : ∀ x y z, binV op x y = .ok z → ∃ i j, x.1 = .int i ∧ y.1 = .int j ∧ P i j ∧ z = mkI (.int (g i j))) : OpV G r (binV op) := by
  intro F E σ H x y z v u Q S hx hy e k
  obtain ⟨i, j, e1, e2, p, rfl⟩ := hf x y z e
  obtain ⟨d, f⟩ := x
  obtain ⟨d', g'⟩ := y
  subst e1; subst e2
  rw [Val.int hx, Val.int hy]
  exact hr i j H Q p (k _ _ Post.int)
def rPlus : R2 := fun x y H Q => rI0 (fun i j => V.int (i + j)) x y H Q ∨ rCat x y H Q ∨ (fun x y H Q => ∃ i j, x = V.str i ∧ y = V.str j ∧ i.length + j.length ≤ sizeLine ∧ Q (V.str (i ++ j)) H) x y H Q
theorem op_plus : OpR X (binaryOp .Add) rPlus := op_add.or (op_cat.or op_add_str)
theorem opV_add : OpV G rPlus (binV .Add) := by
  rintro F E σ H ⟨d, f⟩ ⟨d', g⟩ z v u Q S hx hy e k
  cases d <;> cases d' <;> simp only [binV] at e <;> first | cases e | skip
  · refine .inl ⟨_, _, hx.int, hy.int, k _ _ Post.int⟩
  · split at e
    · rename_i hl
      cases e
      refine .inr (.inr ⟨_, _, hx.str, hy.str, Nat.le_trans hl lim_line, k _ _ Post.str⟩)
    · cases e
  · split at e
    · rename_i hl
      cases e
      obtain ⟨p, vs, rfl, h1, h2, h3⟩ := hx.lst
      obtain ⟨q, ws, rfl, h4, h5, h6⟩ := hy.lst
      have e1 := h3.length
      have e2 := h6.length
      refine .inr (.inl ⟨p, q, vs, ws, rfl, rfl, h1, h4, by rw [e1, e2]; exact Nat.le_trans hl lim_line, fun l hn => k _ _ ?_⟩)
      exact Post.list S hn (by rw [List.length_append, e1, e2]; exact Nat.le_trans hl lim_line) (h3.and h6)
    · cases e
theorem ve_add (ha : PE X a (tP T C G Y ea)) (hb : PE X b (tP T C G Y eb)) : PE X (.BinOp a .Add b pos) (tP T C G Y (.bin .Add ea eb)) := ve_bin op_plus opV_add (bin_ne _) ha hb
theorem ve_sub (ha : PE X a (tP T C G Y ea)) (hb : PE X b (tP T C G Y eb)) : PE X (.BinOp a .Sub b pos) (tP T C G Y (.bin .Sub ea eb)) := by
  refine ve_bin op_sub (opV_int (P := fun _ _ => True) (g := fun i j => i - j) (fun i j H Q _ q => ⟨i, j, rfl, rfl, q⟩) ?_) (bin_ne _) ha hb
  rintro ⟨d, f⟩ ⟨d', g⟩ z e
  cases d <;> cases d' <;> simp only [binV] at e <;> cases e
  exact ⟨_, _, rfl, rfl, trivial, rfl⟩
def rTimes : R2 := fun x y H Q => rI CMul (fun i j => V.int (i * j)) x y H Q ∨ rRep x y H Q
theorem op_times : OpR X (binaryOp .Mult) rTimes := op_mul.or op_rep
theorem Reps_rep {P : Bool → Addr → Prop} {H : Hp} {ds : List D} {vs : List V} (h : Reps G P H ds vs) : ∀ k : Nat, Reps G P H (List.replicate k ds).flatten (List.replicate k vs).flatten
  | 0 => by simp [Reps]
  | k + 1 => by
    simp only [List.replicate_succ, List.flatten_cons]
    exact h.append (Reps_rep h k)
theorem opV_mul : OpV G rTimes (binV .Mult) := by
  rintro F E σ H ⟨d, f⟩ ⟨d', g⟩ z v u Q S hx hy e k
  cases d <;> cases d' <;> simp only [binV] at e <;> first | cases e | skip
  · split at e
    · rename_i hl
      cases e
      exact .inl ⟨_, _, hx.int, hy.int, hl, k _ _ Post.int⟩
    · cases e
  · split at e
    · rename_i j hl
      cases e
      obtain ⟨p, vs, rfl, h1, h2, h3⟩ := hx.lst
      have e1 := h3.length
      have ll := lim_line
      have hj : j < 2 ^ 63 := by have := hl.2.1; simp only [lim] at this; omega
      refine .inr ⟨p, j, vs, rfl, hy.int, h1, by omega, hj, by rw [e1]; exact Nat.le_trans hl.2.2 ll, fun l hn => k _ _ ?_⟩
      refine Post.list S hn ?_ (Reps_rep h3 _)
      rw [List.length_flatten, List.map_replicate, List.sum_replicate_nat, e1, Nat.mul_comm]
      exact Nat.le_trans hl.2.2 ll
    · cases e
theorem ve_mul (ha : PE X a (tP T C G Y ea)) (hb : PE X b (tP T C G Y eb)) : PE X (.BinOp a .Mult b pos) (tP T C G Y (.bin .Mult ea eb)) := ve_bin op_times opV_mul (bin_ne _) ha hb
theorem ve_mod (ha : PE X a (tP T C G Y ea)) (hb : PE X b (tP T C G Y eb)) : PE X (.BinOp a .Mod b pos) (tP T C G Y (.bin .Mod ea eb)) := by
  refine ve_bin op_mod (opV_int (P := fun _ j => 0 < j) (g := fun i j => i % j) (fun i j H Q p q => ⟨i, j, rfl, rfl, p, q⟩) ?_) (bin_ne _) ha hb
  rintro ⟨d, f⟩ ⟨d', g⟩ z e
  cases d <;> cases d' <;> simp only [binV] at e <;> first | cases e | (split at e <;> cases e)
  exact ⟨_, _, rfl, rfl, by assumption, rfl⟩
theorem ve_fdiv (ha : PE X a (tP T C G Y ea)) (hb : PE X b (tP T C G Y eb)) : PE X (.BinOp a .FloorDiv b pos) (tP T C G Y (.bin .FloorDiv ea eb)) := by
  refine ve_bin op_fdiv (opV_int (P := fun _ j => 0 < j ∧ j < 1073741824) (g := fun i j => i / j) (fun i j H Q p q => ⟨i, j, rfl, rfl, p, q⟩) ?_) (bin_ne _) ha hb
  rintro ⟨d, f⟩ ⟨d', g⟩ z e
  cases d <;> cases d' <;> simp only [binV] at e <;> first | cases e | (split at e <;> cases e)
  exact ⟨_, _, rfl, rfl, by assumption, rfl⟩
theorem ve_shl (ha : PE X a (tP T C G Y ea)) (hb : PE X b (tP T C G Y eb)) : PE X (.BinOp a .LShift b pos) (tP T C G Y (.bin .LShift ea eb)) := by
  refine ve_bin op_shl (opV_int (P := fun i j => 0 ≤ j ∧ j ≤ 1000000 ∧ i.natAbs < 2 ^ 64) (g := fun i j => i * 2 ^ j.toNat) (fun i j H Q p q => ⟨i, j, rfl, rfl, p, q⟩) ?_) (bin_ne _) ha hb
  rintro ⟨d, f⟩ ⟨d', g⟩ z e
  cases d <;> cases d' <;> simp only [binV] at e <;> first | cases e | (split at e <;> cases e)
  exact ⟨_, _, rfl, rfl, by assumption, rfl⟩
theorem ve_pow (ha : PE X a (tP T C G Y ea)) (hb : PE X b (tP T C G Y eb)) : PE X (.BinOp a .Pow b pos) (tP T C G Y (.bin .Pow ea eb)) := by
  refine ve_bin op_pow (opV_int (P := fun i j => 0 ≤ j ∧ j ≤ 1000000 ∧ i.natAbs < 2 ^ 64) (g := fun i j => i ^ j.toNat) (fun i j H Q p q => ⟨i, j, rfl, rfl, p, q⟩) ?_) (bin_ne _) ha hb
  rintro ⟨d, f⟩ ⟨d', g⟩ z e
  cases d <;> cases d' <;> simp only [binV] at e <;> first | cases e | (split at e <;> cases e)
  exact ⟨_, _, rfl, rfl, by assumption, rfl⟩
theorem ve_shr (ha : PE X a (tP T C G Y ea)) (hb : PE X b (tP T C G Y eb)) : PE X (.BinOp a .RShift b pos) (tP T C G Y (.bin .RShift ea eb)) := by
  refine ve_bin op_shr (opV_int (P := fun i j => 0 ≤ j) (g := fun i j => i / 2 ^ j.toNat) (fun i j H Q p q => ⟨i, j, rfl, rfl, p, q⟩) ?_) (bin_ne _) ha hb
  rintro ⟨d, f⟩ ⟨d', g⟩ z e
  cases d <;> cases d' <;> simp only [binV] at e <;> first | cases e | (split at e <;> cases e)
  exact ⟨_, _, rfl, rfl, by assumption, rfl⟩
theorem ve_band (ha : PE X a (tP T C G Y ea)) (hb : PE X b (tP T C G Y eb)) : PE X (.BinOp a .BitAnd b pos) (tP T C G Y (.bin .BitAnd ea eb)) := by
  refine ve_bin op_and (opV_int (P := fun _ _ => True) (g := Builtin.bitAnd) (fun i j H Q _ q => ⟨i, j, rfl, rfl, q⟩) ?_) (bin_ne _) ha hb
  rintro ⟨d, f⟩ ⟨d', g⟩ z e
  cases d <;> cases d' <;> simp only [binV] at e <;> cases e
  exact ⟨_, _, rfl, rfl, trivial, rfl⟩
theorem ve_bor (ha : PE X a (tP T C G Y ea)) (hb : PE X b (tP T C G Y eb)) : PE X (.BinOp a .BitOr b pos) (tP T C G Y (.bin .BitOr ea eb)) := by
  refine ve_bin op_or (opV_int (P := fun _ _ => True) (g := Builtin.bitOr) (fun i j H Q _ q => ⟨i, j, rfl, rfl, q⟩) ?_) (bin_ne _) ha hb
  rintro ⟨d, f⟩ ⟨d', g⟩ z e
  cases d <;> cases d' <;> simp only [binV] at e <;> cases e
  exact ⟨_, _, rfl, rfl, trivial, rfl⟩
theorem ve_bxor (ha : PE X a (tP T C G Y ea)) (hb : PE X b (tP T C G Y eb)) : PE X (.BinOp a .BitXor b pos) (tP T C G Y (.bin .BitXor ea eb)) := by
  refine ve_bin op_xor (opV_int (P := fun _ _ => True) (g := Builtin.bitXor) (fun i j H Q _ q => ⟨i, j, rfl, rfl, q⟩) ?_) (bin_ne _) ha hb
  rintro ⟨d, f⟩ ⟨d', g⟩ z e
  cases d <;> cases d' <;> simp only [binV] at e <;> cases e
  exact ⟨_, _, rfl, rfl, trivial, rfl⟩
theorem ve_neg (ha : PE X a (tP T C G Y ea)) : PE X (.UnaryOp .USub a pos) (tP T C G Y (.un .USub ea)) := by
  refine PE_weak (pe_un un_neg ha) fun σ H Q ⟨F, E, S, h⟩ => ?_
  simp only [ev] at h
  refine tP_bind S h fun x v H' P S' h' => ?_
  obtain ⟨d, f⟩ := x
  cases d <;> simp only [unV] at h' <;> first | exact h'.elim | skip
  refine ⟨_, P.val.int, h' _ _ (Post.trans P.same Post.int)⟩
theorem ve_inv (ha : PE X a (tP T C G Y ea)) : PE X (.UnaryOp .Invert a pos) (tP T C G Y (.un .Invert ea)) := by
  refine PE_weak (pe_un un_inv ha) fun σ H Q ⟨F, E, S, h⟩ => ?_
  simp only [ev] at h
  refine tP_bind S h fun x v H' P S' h' => ?_
  obtain ⟨d, f⟩ := x
  cases d <;> simp only [unV] at h' <;> first | exact h'.elim | skip
  refine ⟨_, P.val.int, h' _ _ (Post.trans P.same Post.int)⟩

/-! ### tests -/
/-- a value that is a bool, as a test -/
theorem vt_val (ha : PE X a (tP T C G Y ea)) (he : ∀ whole, isTrue a X.env whole = (do let v ← whole; standAt a.pos; holding [v] (truthy v))) : PT X a (tT T C G Y ea) := by
  refine PT_weak (pt_val ha he) fun σ H Q ⟨F, E, S, h⟩ => ?_
  refine ⟨F, E, S, R.sat_mono h (fun x ⟨k, e, q⟩ v H' P => ?_) fun _ z => z⟩
  obtain ⟨d, f⟩ := x
  subst e
  exact ⟨k, P.val.bl, q _ P.same⟩
theorem tT_bind {σ : St} {H : Hp} {F : Fr} {E : SEnv} {β : Type} {f : Bool → R β} {p : β → Prop} (S : Sim G F E σ H) (h : ((ev T C ea E).bind fun x => boolR x f).sat p (wish G Y H)) {Q : Bool → Hp → Prop}
    (k : ∀ b H', Same H H' → Sim G F E σ H' → (f b).sat p (wish G Y H') → Q b H') : tT T C G Y ea σ H Q := by
  rw [R.sat_bind] at h
  refine ⟨F, E, S, R.sat_mono h (fun x q => ?_) fun c z => z⟩
  obtain ⟨d, fl⟩ := x
  cases d <;> simp only [boolR] at q <;> first | exact q.elim | skip
  exact ⟨_, rfl, fun H' s => k _ H' s (S.same s) (R.sat_mono q (fun _ z => z) fun c z => z.same s)⟩
theorem sat_bool {T : Tb} {C : Fid → List D → R (D × Bool)} {E : SEnv} {e : Ex} {p : D × Fl → Prop} {w : Str → Prop} : (ev T C e E).sat p w → (∀ x, p x → ∃ k, x.1 = .bl k) → ((ev T C e E).bind fun x => boolR x fun k => .ok (mkI (.bl k))).sat (fun z => ∃ x, p x ∧ z = mkI x.1) w := by
  intro h hp
  rw [R.sat_bind]
  refine R.sat_mono h (fun x q => ?_) fun _ z => z
  obtain ⟨k, e⟩ := hp x q
  obtain ⟨d, f⟩ := x
  subst e
  exact ⟨_, q, rfl⟩
theorem vt_not (ha : PT X a (tT T C G Y ea)) : PT X (.UnaryOp .Not a pos) (tT T C G Y (.un .Not ea)) := by
  refine PT_weak (pt_not ha) fun σ H Q ⟨F, E, S, h⟩ => ?_
  simp only [ev] at h
  refine ⟨F, E, S, ?_⟩
  rw [R.sat_bind] at h
  refine R.sat_mono h (fun x q => ?_) fun _ z => z
  obtain ⟨d, f⟩ := x
  cases d <;> simp only [unV] at q <;> first | exact q.elim | skip
  obtain ⟨k, e, q⟩ := q
  simp only [mkI, D.bl.injEq] at e
  subst e
  exact ⟨_, rfl, q⟩
theorem ve_not (ha : PE X a (tP T C G Y ea)) : PE X (.UnaryOp .Not a pos) (tP T C G Y (.un .Not ea)) := by
  refine PE_weak (pe_not ha) fun σ H Q ⟨F, E, S, h⟩ => ?_
  simp only [ev] at h
  refine tP_bind S h fun x v H' P S' h' => ?_
  obtain ⟨d, f⟩ := x
  cases d <;> simp only [unV] at h' <;> first | exact h'.elim | skip
  exact ⟨_, P.val.bl, h' _ _ (Post.trans P.same Post.bl)⟩
theorem vt_and1 (ha : PT X a (tT T C G Y ea)) : PW X (.BoolOp .And [a] pos) (tT T C G Y ea) := pw_and1 ha
theorem vt_or1 (ha : PT X a (tT T C G Y ea)) : PW X (.BoolOp .Or [a] pos) (tT T C G Y ea) := pw_or1 ha
theorem vt_and {rest : List Expr} (ha : PT X a (tT T C G Y ea)) (hb : PW X (.BoolOp .And (b :: rest) pos) (tT T C G Y eb)) : PW X (.BoolOp .And (a :: b :: rest) pos) (tT T C G Y (.and ea eb)) := by
  refine PW_weak (pw_and ha hb) fun σ H Q ⟨F, E, S, h⟩ => ?_
  simp only [ev] at h
  refine tT_bind S h fun k H1 s1 S1 h1 => ?_
  cases k with
  | true =>
    rw [if_pos rfl]
    rw [if_pos rfl] at h1
    exact ⟨F, E, S1, R.sat_mono h1 (fun x ⟨k, e, q⟩ => ⟨k, e, fun H' s' => q H' (s1.trans s')⟩) fun _ z => z⟩
  | false =>
    rw [if_neg Bool.false_ne_true]
    rw [if_neg Bool.false_ne_true] at h1
    obtain ⟨k, e, q⟩ := h1
    simp only [mkI, D.bl.injEq] at e
    subst e
    exact q H1 s1
theorem vt_or {rest : List Expr} (ha : PT X a (tT T C G Y ea)) (hb : PW X (.BoolOp .Or (b :: rest) pos) (tT T C G Y eb)) : PW X (.BoolOp .Or (a :: b :: rest) pos) (tT T C G Y (.or ea eb)) := by
  refine PW_weak (pw_or ha hb) fun σ H Q ⟨F, E, S, h⟩ => ?_
  simp only [ev] at h
  refine tT_bind S h fun k H1 s1 S1 h1 => ?_
  cases k with
  | false =>
    rw [if_neg Bool.false_ne_true]
    rw [if_neg Bool.false_ne_true] at h1
    exact ⟨F, E, S1, R.sat_mono h1 (fun x ⟨k, e, q⟩ => ⟨k, e, fun H' s' => q H' (s1.trans s')⟩) fun _ z => z⟩
  | true =>
    rw [if_pos rfl]
    rw [if_pos rfl] at h1
    obtain ⟨k, e, q⟩ := h1
    simp only [mkI, D.bl.injEq] at e
    subst e
    exact q H1 s1
theorem ve_and {rest : List Expr} (ha : PE X a (tP T C G Y ea)) (hb : PE X (.BoolOp .And (b :: rest) pos) (tP T C G Y eb)) : PE X (.BoolOp .And (a :: b :: rest) pos) (tP T C G Y (.and ea eb)) := by
  refine PE_weak (pe_and ha hb) fun σ H Q ⟨F, E, S, h⟩ => ?_
  simp only [ev] at h
  refine tP_bind S h fun x v H' P S' h' => ?_
  obtain ⟨d, f⟩ := x
  cases d <;> simp only [boolR] at h' <;> first | exact h'.elim | skip
  rename_i k
  refine ⟨k, P.val.bl, ?_⟩
  cases k with
  | true =>
    rw [if_pos rfl]
    rw [if_pos rfl] at h'
    exact ⟨F, E, S', R.sat_mono h' (fun x q v H2 P2 => q v H2 (Post.trans P.same P2)) fun _ z => z⟩
  | false =>
    rw [if_neg Bool.false_ne_true]
    rw [if_neg Bool.false_ne_true] at h'
    exact h' _ _ (Post.trans P.same Post.bl)
theorem ve_or {rest : List Expr} (ha : PE X a (tP T C G Y ea)) (hb : PE X (.BoolOp .Or (b :: rest) pos) (tP T C G Y eb)) : PE X (.BoolOp .Or (a :: b :: rest) pos) (tP T C G Y (.or ea eb)) := by
  refine PE_weak (pe_or ha hb) fun σ H Q ⟨F, E, S, h⟩ => ?_
  simp only [ev] at h
  refine tP_bind S h fun x v H' P S' h' => ?_
  obtain ⟨d, f⟩ := x
  cases d <;> simp only [boolR] at h' <;> first | exact h'.elim | skip
  rename_i k
  refine ⟨k, P.val.bl, ?_⟩
  cases k with
  | false =>
    rw [if_neg Bool.false_ne_true]
    rw [if_neg Bool.false_ne_true] at h'
    exact ⟨F, E, S', R.sat_mono h' (fun x q v H2 P2 => q v H2 (Post.trans P.same P2)) fun _ z => z⟩
  | true =>
    rw [if_pos rfl]
    rw [if_pos rfl] at h'
    exact h' _ _ (Post.trans P.same Post.bl)
theorem ve_ite (hc : PT X c (tT T C G Y ec)) (ha : PE X a (tP T C G Y ea)) (hb : PE X b (tP T C G Y eb)) : PE X (.IfExp c a b pos) (tP T C G Y (.ite ec ea eb)) := by
  refine PE_weak (pe_ifExp hc ha hb) fun σ H Q ⟨F, E, S, h⟩ => ?_
  simp only [ev] at h
  refine tT_bind S h fun k H1 s1 S1 h1 => ?_
  cases k with
  | true =>
    rw [if_pos rfl]
    rw [if_pos rfl] at h1
    exact ⟨F, E, S1, R.sat_mono h1 (fun x q v H2 P2 => q v H2 (Post.trans s1 P2)) fun _ z => z⟩
  | false =>
    rw [if_neg Bool.false_ne_true]
    rw [if_neg Bool.false_ne_true] at h1
    exact ⟨F, E, S1, R.sat_mono h1 (fun x q v H2 P2 => q v H2 (Post.trans s1 P2)) fun _ z => z⟩
end
end FS

/-! FS4: data, comparisons, arguments, displays, builtins, items. -/
namespace FS
open PySem L2

/-! ### data -/
mutual
def D.py : D → PyData
  | .bl b => .bool b
  | .int i => .int i
  | .str s => .str s
  | .lst xs => .list (pyL xs)
  | .tup xs => .tuple (pyL xs)
  | _ => .none
def pyL : List D → List PyData
  | [] => []
  | x :: xs => x.py :: pyL xs
end
theorem pyL_map : ∀ xs : List D, pyL xs = xs.map D.py
  | [] => rfl
  | x :: xs => by simp [pyL, pyL_map xs]
theorem pyL_any (f : PyData → Bool) (g : D → Bool) (xs : List D) (h : ∀ x ∈ xs, f x.py = g x) : (pyL xs).any f = xs.any g := by
  induction xs with
  | nil => rfl
  | cons x xs ih => simp only [pyL, List.any_cons, h x List.mem_cons_self, ih fun y hy => h y (List.mem_cons_of_mem _ hy)]
theorem dat_lay : ∀ (n : Nat) (d : D), d.dat n = true → d.py.canLay0 = true ∧ d.py.depth ≤ n := by
  intro n
  induction n with
  | zero => intro d h; cases d <;> simp_all [D.dat, D.py, PyData.canLay0, PyData.depth]
  | succ n ih =>
    have all : ∀ xs : List D, xs.all (D.dat n) = true → PyData.canLayAll0 (pyL xs) = true ∧ PyData.depthAll (pyL xs) ≤ n := by
      intro xs
      induction xs with
      | nil => intro _; simp [pyL, PyData.canLayAll0, PyData.depthAll]
      | cons x xs ihx =>
        intro h
        simp only [List.all_cons, Bool.and_eq_true] at h
        obtain ⟨h1, h2⟩ := ih x h.1
        obtain ⟨h3, h4⟩ := ihx h.2
        simp only [pyL, PyData.canLayAll0, PyData.depthAll, h1, h3, Bool.and_self, true_and]
        omega
    intro d h
    cases d with
    | lst xs =>
      obtain ⟨h1, h2⟩ := all xs (by simpa [D.dat] using h)
      simp only [D.py, PyData.canLay0, PyData.depth, h1, true_and]
      omega
    | tup xs =>
      obtain ⟨h1, h2⟩ := all xs (by simpa [D.dat] using h)
      simp only [D.py, PyData.canLay0, PyData.depth, h1, true_and]
      omega
    | _ => simp_all [D.dat, D.py, PyData.canLay0, PyData.depth]
theorem dat_shaped {n : Nat} {d : D} (hn : n ≤ 60) (h : d.dat n = true) : SeqAt.shaped d.py = true := by
  obtain ⟨h1, h2⟩ := dat_lay n d h
  unfold SeqAt.shaped
  rw [h1, decide_eq_true (by omega)]
  rfl
theorem dat_shapedL {ds : List D} (h : ds.all (D.dat 60) = true) : SeqAt.shaped (.list (pyL ds)) = true := by
  have h' : (D.lst ds).dat 61 = true := by simpa [D.dat] using h
  obtain ⟨h1, h2⟩ := dat_lay 61 (.lst ds) h'
  unfold SeqAt.shaped
  rw [show PyData.list (pyL ds) = (D.lst ds).py by rfl, h1, decide_eq_true (by omega)]
  rfl
mutual
theorem py_eqv : ∀ (n m : Nat) (d e : D), d.dat n = true → e.dat m = true → PyData.eqv d.py e.py = d.eqv e
  | n, m, .lst xs, e, h, k => by
    cases n with
    | zero => simp [D.dat] at h
    | succ n =>
      cases e with
      | lst ys =>
        cases m with
        | zero => simp [D.dat] at k
        | succ m =>
          simp only [D.py, PyData.eqv, D.eqv]
          exact py_eqvL n m xs ys (by simpa [D.dat] using h) (by simpa [D.dat] using k)
      | _ => simp_all [D.dat, D.py, PyData.eqv, D.eqv]
  | n, m, .tup xs, e, h, k => by
    cases n with
    | zero => simp [D.dat] at h
    | succ n =>
      cases e with
      | tup ys =>
        cases m with
        | zero => simp [D.dat] at k
        | succ m =>
          simp only [D.py, PyData.eqv, D.eqv]
          exact py_eqvL n m xs ys (by simpa [D.dat] using h) (by simpa [D.dat] using k)
      | _ => simp_all [D.dat, D.py, PyData.eqv, D.eqv]
  | n, m, .non, e, h, k => by cases e <;> simp_all [D.dat, D.py, PyData.eqv, D.eqv]
  | n, m, .bl b, e, h, k => by cases e <;> simp_all [D.dat, D.py, PyData.eqv, D.eqv]
  | n, m, .int i, e, h, k => by cases e <;> simp_all [D.dat, D.py, PyData.eqv, D.eqv]
  | n, m, .str s, e, h, k => by cases e <;> simp_all [D.dat, D.py, PyData.eqv, D.eqv]
  | n, m, .scr _, e, h, k => by simp [D.dat] at h
  | n, m, .dic _, e, h, k => by simp [D.dat] at h
  | n, m, .obj _ _, e, h, k => by simp [D.dat] at h
  | n, m, .exc _, e, h, k => by simp [D.dat] at h
theorem py_eqvL : ∀ (n m : Nat) (ds es : List D), ds.all (D.dat n) = true → es.all (D.dat m) = true → PyData.eqvAll (pyL ds) (pyL es) = eqvL ds es
  | n, m, [], [], h, k => by simp [pyL, PyData.eqvAll, eqvL]
  | n, m, [], e :: es, h, k => by simp [pyL, PyData.eqvAll, eqvL]
  | n, m, d :: ds, [], h, k => by simp [pyL, PyData.eqvAll, eqvL]
  | n, m, d :: ds, e :: es, h, k => by
    simp only [List.all_cons, Bool.and_eq_true] at h k
    simp only [pyL, PyData.eqvAll, eqvL, py_eqv n m d e h.1 k.1, py_eqvL n m ds es h.2 k.2]
end
section
variable {G : GT} {P : Bool → Addr → Prop} {H : Hp}
mutual
theorem Rep.dp : ∀ (n : Nat) (d : D) (v : V), d.dat n = true → Rep G P H d v → Dp G.K H v d.py
  | _, .non, _, _, h => by simp only [Rep] at h; subst h; exact .non
  | _, .bl _, _, _, h => by simp only [Rep] at h; subst h; simp only [D.py]; exact .bl _
  | _, .int _, _, _, h => by simp only [Rep] at h; subst h; simp only [D.py]; exact .int _
  | _, .str _, _, _, h => by simp only [Rep] at h; subst h; simp only [D.py]; exact .str _
  | 0, .lst ds, _, k, _ => by simp [D.dat] at k
  | n + 1, .lst ds, _, k, h => by
    simp only [Rep] at h
    obtain ⟨a, vs, rfl, _, e, _, r⟩ := h
    simp only [D.py]
    exact .lst (SqL.of e) (Reps.dp n ds vs (by simpa [D.dat] using k) r)
  | 0, .tup ds, _, k, _ => by simp [D.dat] at k
  | n + 1, .tup ds, _, k, h => by
    simp only [Rep] at h
    obtain ⟨a, vs, rfl, e, _, r⟩ := h
    simp only [D.py]
    exact .tup (SqT.of e) (Reps.dp n ds vs (by simpa [D.dat] using k) r)
  | _, .scr _, _, k, _ => by simp [D.dat] at k
  | _, .dic _, _, k, _ => by simp [D.dat] at k
  | _, .obj _ _, _, k, _ => by simp [D.dat] at k
  | _, .exc _, _, k, _ => by simp [D.dat] at k
theorem Reps.dp : ∀ (n : Nat) (ds : List D) (vs : List V), ds.all (D.dat n) = true → Reps G P H ds vs → DpAll G.K H vs (pyL ds)
  | _, [], _, _, h => by simp only [Reps] at h; subst h; simp only [pyL]; exact .nil
  | n, d :: ds, _, k, h => by
    simp only [Reps] at h
    obtain ⟨v, r, rfl, p, q⟩ := h
    simp only [List.all_cons, Bool.and_eq_true] at k
    simp only [pyL]
    exact .cons (Rep.dp n d v k.1 p) (Reps.dp n ds r k.2 q)
end
theorem Val.dp {F : Fr} {d : D} {f : Fl} {v : V} {n : Nat} (k : d.dat n = true) (h : Val G F H (d, f) v) : Dp G.K H v d.py := by
  cases d with
  | lst ds =>
    obtain ⟨a, vs, rfl, e, _, r⟩ := h.lst
    cases n with
    | zero => simp [D.dat] at k
    | succ n =>
      simp only [D.py]
      exact .lst (SqL.of e) (Reps.dp n ds vs (by simpa [D.dat] using k) r)
  | dic ds => simp [D.dat] at k
  | _ => exact Rep.dp n _ v k (h.clean (by intro _ e; cases e) (by intro _ e; cases e))
theorem DpAll.ints {K : PySem.W.Frag} : ∀ ns : List Int, DpAll K H (ns.map V.int) (ns.map PyData.int)
  | [] => .nil
  | n :: ns => .cons (.int n) (DpAll.ints ns)
theorem flat_of {d : D} {v : V} (k : d.dat 0 = true) (h : Rep G P H d v) : flatV v = true := by
  cases d <;> simp [D.dat] at k <;> simp only [Rep] at h <;> subst h <;> rfl
theorem flat_eqv {d e : D} {v u : V} (k : d.dat 0 = true) (h : Rep G P H d v) (k' : e.dat 0 = true) (h' : Rep G P H e u) : eqV v u = d.eqv e := by
  cases d <;> simp [D.dat] at k <;> simp only [Rep] at h <;> subst h <;> cases e <;> simp [D.dat] at k' <;> simp only [Rep] at h' <;> subst h' <;> simp [eqV, D.eqv]
theorem flats_of : ∀ {ds : List D} {vs : List V}, ds.all (D.dat 0) = true → Reps G P H ds vs → vs.all flatV = true
  | [], _, _, h => by simp only [Reps] at h; subst h; rfl
  | d :: ds, _, k, h => by
    simp only [Reps] at h
    obtain ⟨v, r, rfl, p, q⟩ := h
    simp only [List.all_cons, Bool.and_eq_true] at k ⊢
    exact ⟨flat_of k.1 p, flats_of k.2 q⟩
theorem flats_in {e : D} {u : V} (k' : e.dat 0 = true) (h' : Rep G P H e u) : ∀ {ds : List D} {vs : List V}, ds.all (D.dat 0) = true → Reps G P H ds vs → inV u vs = inV' e ds
  | [], _, _, h => by simp only [Reps] at h; subst h; rfl
  | d :: ds, _, k, h => by
    simp only [Reps] at h
    obtain ⟨v, r, rfl, p, q⟩ := h
    simp only [List.all_cons, Bool.and_eq_true] at k
    have ih := flats_in k' h' k.2 q
    unfold inV inV' at ih ⊢
    simp only [List.any_cons, flat_eqv k.1 p k' h', ih]
end

/-! ### comparisons -/
def CmV (G : GT) (r : R2) (op : CmpOp) : Prop := ∀ (F : Fr) (H : Hp) (x y : D × Fl) (v u : V) (k : Bool) (Q : VK), Val G F H x v → Val G F H y u → cmpV op x.1 y.1 = .ok k → Q (.bl k) H → r v u H Q
theorem cmp_ne (op : CmpOp) (x y : D) (c : Str) : cmpV op x y ≠ .exc c := by
  intro e
  unfold cmpV at e
  split at e <;> first | cases e | (split at e <;> cases e)
theorem isN_of {G : GT} {P : Bool → Addr → Prop} {H : Hp} {d : D} {v : V} (h : Rep G P H d v) : decide (v = V.non) = (match d with | .non => true | _ => false) := by
  cases d <;> simp only [Rep] at h
  · subst h; rfl
  · subst h; rfl
  · subst h; rfl
  · subst h; rfl
  · obtain ⟨a, e, _⟩ := h; subst e; rfl
  · obtain ⟨a, _, e, _⟩ := h; subst e; rfl
  · obtain ⟨a, _, e, _⟩ := h; subst e; rfl
  · obtain ⟨a, _, e, _⟩ := h; subst e; rfl
  · obtain ⟨a, _, _, _, e, _⟩ := h; subst e; rfl
theorem Val.isN {G : GT} {F : Fr} {H : Hp} {x : D × Fl} {v : V} (h : Val G F H x v) : decide (v = V.non) = (match x.1 with | .non => true | _ => false) := by
  obtain ⟨d, f⟩ := x
  cases d with
  | lst ds => obtain ⟨a, _, rfl, _⟩ := h.lst; rfl
  | dic ds => obtain ⟨a, _, rfl, _⟩ := h.dic; rfl
  | _ => exact isN_of (h.clean (by intro _ e; cases e) (by intro _ e; cases e))
section
variable {T : Tb} {C : Fid → List D → R (D × Bool)} {G : GT} {Y : XK} {X : Cx} {a b c : Expr} {ea eb ec : Ex} {pos : Pos}
theorem op_inDict (hu : X.A.units + 1 < cLine) : OpR X (compareOp .In) (fun y x H Q => ∃ a o, x = .ref a ∧ DGet H a y o ∧ Q (.bl o.isSome) H) := by
  intro pins s σ H y x iv u Q I ry rx h
  obtain ⟨a, ov, rfl, g, q⟩ := h
  cases rx
  exact d_in hu I g ry fun s3 I3 => ⟨.bl ov.isSome, H, I3, rfl, q⟩
theorem op_notInDict (hu : X.A.units + 1 < cLine) : OpR X (compareOp .NotIn) (fun y x H Q => ∃ a o, x = .ref a ∧ DGet H a y o ∧ Q (.bl (!o.isSome)) H) := by
  intro pins s σ H y x iv u Q I ry rx h
  obtain ⟨a, ov, rfl, g, q⟩ := h
  cases rx
  exact d_notIn hu I g ry fun s3 I3 => ⟨.bl (!ov.isSome), H, I3, rfl, q⟩
theorem RepK.look {P : Bool → Addr → Prop} {H : Hp} : ∀ {ds : List (Int × D)} {vs : List (Key × V)} {k : Int}, RepK G P H ds vs → (match ds.lookup k with | some d => ∃ v, valV vs (.inl k) = some v ∧ Rep G P H d v | none => valV vs (.inl k) = none)
  | [], _, k, h => by simp only [RepK] at h; subst h; simp [valV]
  | (j, d) :: ds, _, k, h => by
    simp only [RepK] at h
    obtain ⟨v, r, rfl, p, q⟩ := h
    have ih := RepK.look (k := k) q
    rw [List.lookup_cons]
    by_cases e : k = j
    · subst e
      simp only [beq_self_eq_true]
      exact ⟨v, by simp [valV], p⟩
    · have e1 : (k == j) = false := by simpa using e
      simp only [e1]
      have e2 : valV ((Sum.inl j, v) :: r) (Sum.inl k : Key) = valV r (Sum.inl k) := by
        have : ¬ (Sum.inl j : Key) = Sum.inl k := fun z => e (Sum.inl.inj z).symm
        simp [valV, this]
      rw [e2]
      exact ih
/-- the rules of comparison, all operand kinds -/
def rCmp (K : PySem.W.Frag) : CmpOp → R2
  | .Lt => rI0 fun i j => .bl (decide (i < j))
  | .LtE => rI0 fun i j => .bl (decide (i ≤ j))
  | .Gt => rI0 fun i j => .bl (decide (j < i))
  | .GtE => rI0 fun i j => .bl (decide (j ≤ i))
  | .Eq => rEqD K
  | .NotEq => rNeD K
  | .Is => fun x y H Q => (y = .non ∧ Q (.bl (decide (x = .non))) H) ∨ rIsB x y H Q
  | .IsNot => fun x y H Q => (y = .non ∧ Q (.bl (!decide (x = .non))) H) ∨ rNotB x y H Q
  | .In => fun x y H Q => rInD K x y H Q ∨ rIn K false x y H Q ∨ ∃ a o, y = .ref a ∧ DGet H a x o ∧ Q (.bl o.isSome) H
  | .NotIn => fun x y H Q => rNotInD K x y H Q ∨ rIn K true x y H Q ∨ ∃ a o, y = .ref a ∧ DGet H a x o ∧ Q (.bl (!o.isSome)) H
theorem op_cmp (hu : X.A.units + 65 < cLine) : ∀ op : CmpOp, OpR X (compareOp op) (rCmp X.K op)
  | .Lt => op_lt
  | .LtE => op_le
  | .Gt => op_gt
  | .GtE => op_ge
  | .Eq => op_eqD (by omega)
  | .NotEq => op_neD (by omega)
  | .Is => op_isN.or op_isBl
  | .IsNot => op_notN.or op_notBl
  | .In => (op_inD hu).or (op_in_seq.or (op_inDict (by omega)))
  | .NotIn => (op_notInD hu).or (op_notIn_seq.or (op_notInDict (by omega)))
theorem cmV : ∀ op : CmpOp, CmV G (rCmp G.K op) op := by
  have int2 : ∀ (op : CmpOp) (g : Int → Int → Bool), (∀ x y k, cmpV op x y = .ok k → ∃ i j, x = .int i ∧ y = .int j ∧ k = g i j) → CmV G (rI0 fun i j => .bl (g i j)) op := by
    rintro op g hg F H ⟨d, f⟩ ⟨d', f'⟩ v u k Q hx hy e q
    obtain ⟨i, j, e1, e2, rfl⟩ := hg _ _ _ e
    have e1 : d = .int i := e1
    have e2 : d' = .int j := e2
    subst e1; subst e2
    exact ⟨i, j, hx.int, hy.int, q⟩
  intro op
  cases op with
  | Lt => exact int2 _ (fun i j => decide (i < j)) fun x y k e => by cases x <;> cases y <;> simp only [cmpV] at e <;> cases e; exact ⟨_, _, rfl, rfl, rfl⟩
  | LtE => exact int2 _ (fun i j => decide (i ≤ j)) fun x y k e => by cases x <;> cases y <;> simp only [cmpV] at e <;> cases e; exact ⟨_, _, rfl, rfl, rfl⟩
  | Gt => exact int2 _ (fun i j => decide (j < i)) fun x y k e => by cases x <;> cases y <;> simp only [cmpV] at e <;> cases e; exact ⟨_, _, rfl, rfl, rfl⟩
  | GtE => exact int2 _ (fun i j => decide (j ≤ i)) fun x y k e => by cases x <;> cases y <;> simp only [cmpV] at e <;> cases e; exact ⟨_, _, rfl, rfl, rfl⟩
  | Eq =>
    rintro F H ⟨d, f⟩ ⟨d', f'⟩ v u k Q hx hy e q
    simp only at e
    have main : (d.dat 60 && d'.dat 60) = true → k = d.eqv d' → rCmp G.K .Eq v u H Q := by
      intro h e
      rw [Bool.and_eq_true] at h
      refine ⟨_, _, hx.dp h.1, hy.dp h.2, dat_shaped (Nat.le_refl _) h.1, dat_shaped (Nat.le_refl _) h.2, ?_⟩
      rw [py_eqv _ _ _ _ h.1 h.2, ← e]
      exact q
    unfold cmpV at e
    split at e <;> first | (rename_i h; cases h; done) | skip
    all_goals first | (rename_i h _ _; cases h; done) | (rename_i h _ _ _; cases h; done) | (rename_i h _; cases h; done) | (rename_i h _ _ _ _; cases h; done) | skip
    · cases e
      obtain ⟨a, rfl, h1⟩ := hx.scr
      obtain ⟨p, vs, rfl, h2, h3, h4⟩ := hy.lst
      rename_i ns _
      simp only [Reps] at h4
      subst h4
      refine ⟨.list (ns.map PyData.int), .list [], .lst h1.sql (DpAll.ints ns), .lst (SqL.of h2) .nil, ?_, by decide, ?_⟩
      · have hs : ((D.lst (ns.map D.int)).dat 60) = true := by
          simp only [D.dat, List.all_map, List.all_eq_true]
          intro x _
          rfl
        have := dat_shaped (Nat.le_refl _) hs
        simpa [D.py, pyL_map, Function.comp_def] using this
      · cases ns with
        | nil => exact q
        | cons n ns => exact q
    · split at e
      · rename_i h
        cases e
        exact main h rfl
      · cases e
    · cases e
  | NotEq =>
    rintro F H ⟨d, f⟩ ⟨d', f'⟩ v u k Q hx hy e q
    have e : (if (d.dat 60 && d'.dat 60) = true then R.ok (!d.eqv d') else .bad) = R.ok k := by simpa only [cmpV] using e
    split at e
    · rename_i h
      cases e
      rw [Bool.and_eq_true] at h
      refine ⟨_, _, hx.dp h.1, hy.dp h.2, dat_shaped (Nat.le_refl _) h.1, dat_shaped (Nat.le_refl _) h.2, ?_⟩
      rw [py_eqv _ _ _ _ h.1 h.2]
      exact q
    · cases e
  | Is =>
    rintro F H ⟨d, f⟩ ⟨d', f'⟩ v u k Q hx hy e q
    have hn := hx.isN
    cases d' <;> (try (cases d <;> simp only [cmpV] at e <;> cases e; done))
    · refine .inl ⟨hy.non, ?_⟩
      rw [hn]
      cases d <;> simp only [cmpV] at e <;> cases e <;> exact q
    · cases d <;> simp only [cmpV] at e <;> cases e
      refine .inr ⟨_, _, hx.bl, hy.bl, ?_⟩
      simpa [Bool.beq_eq_decide_eq] using q
  | IsNot =>
    rintro F H ⟨d, f⟩ ⟨d', f'⟩ v u k Q hx hy e q
    have hn := hx.isN
    cases d' <;> (try (cases d <;> simp only [cmpV] at e <;> cases e; done))
    · refine .inl ⟨hy.non, ?_⟩
      rw [hn]
      cases d <;> simp only [cmpV] at e <;> cases e <;> exact q
  | In =>
    rintro F H ⟨d, f⟩ ⟨d', f'⟩ v u k Q hx hy e q
    cases d' <;> (try (cases d <;> simp only [cmpV] at e <;> cases e; done))
    · rename_i ys
      have e : (if (d.dat 60 && ys.all (D.dat 60)) = true then R.ok (inV' d ys) else .bad) = R.ok k := by simpa only [cmpV] using e
      split at e
      · rename_i h
        cases e
        rw [Bool.and_eq_true] at h
        have h2 : (D.lst ys).dat 61 = true := by simpa [D.dat] using h.2
        refine .inl ⟨_, pyL ys, hx.dp h.1, by simpa [D.py] using hy.dp h2, dat_shaped (Nat.le_refl _) h.1, dat_shapedL h.2, ?_⟩
        rw [pyL_any (fun z => PyData.eqv z d.py) (fun y => y.eqv d) ys fun x hx' => py_eqv 60 60 _ _ (List.all_eq_true.mp h.2 x hx') h.1]
        exact q
      · cases e
    · rename_i ys
      have e : (if (d.dat 0 && ys.all (D.dat 0)) = true then R.ok (inV' d ys) else .bad) = R.ok k := by simpa only [cmpV] using e
      split at e
      · rename_i h
        cases e
        rw [Bool.and_eq_true] at h
        obtain ⟨p, vs, rfl, h1, _, h2⟩ := hy.tup
        have hx' : ∀ n, Rep G (cl F n) H d v := fun n => Rep.imm (P := cl F f.n) (fun a _ p _ => cl_obj p) d v (by cases d <;> simp [D.dat] at h <;> rfl) (hx.clean (by rintro _ rfl; simp [D.dat] at h) (by rintro _ rfl; simp [D.dat] at h))
        refine .inr (.inl ⟨p, vs, rfl, .inr (SqT.of h1), flat_of h.1 (hx' false), flats_of h.2 h2, ?_⟩)
        rw [if_neg Bool.false_ne_true, flats_in h.1 (hx' f'.n) h.2 h2]
        exact q
      · cases e
    · rename_i kvs
      cases d <;> simp only [cmpV] at e <;> cases e
      obtain ⟨p, ws, rfl, h1, h2, h3⟩ := hy.dic
      rename_i i
      have hl := h3.look (k := i)
      refine .inr (.inr ⟨p, valV ws (.inl i), rfl, by rw [hx.int]; exact DGet.k (k := Sum.inl i) h1, ?_⟩)
      cases e : kvs.lookup i with
      | none => rw [e] at hl q; rw [hl]; exact q
      | some d => rw [e] at hl q; obtain ⟨w, hl, _⟩ := hl; rw [hl]; exact q
  | NotIn =>
    rintro F H ⟨d, f⟩ ⟨d', f'⟩ v u k Q hx hy e q
    cases d' <;> (try (cases d <;> simp only [cmpV] at e <;> cases e; done))
    · rename_i ys
      have e : (if (d.dat 60 && ys.all (D.dat 60)) = true then R.ok (!inV' d ys) else .bad) = R.ok k := by simpa only [cmpV] using e
      split at e
      · rename_i h
        cases e
        rw [Bool.and_eq_true] at h
        have h2 : (D.lst ys).dat 61 = true := by simpa [D.dat] using h.2
        refine .inl ⟨_, pyL ys, hx.dp h.1, by simpa [D.py] using hy.dp h2, dat_shaped (Nat.le_refl _) h.1, dat_shapedL h.2, ?_⟩
        rw [pyL_any (fun z => PyData.eqv z d.py) (fun y => y.eqv d) ys fun x hx' => py_eqv 60 60 _ _ (List.all_eq_true.mp h.2 x hx') h.1]
        exact q
      · cases e
    · rename_i ys
      have e : (if (d.dat 0 && ys.all (D.dat 0)) = true then R.ok (!inV' d ys) else .bad) = R.ok k := by simpa only [cmpV] using e
      split at e
      · rename_i h
        cases e
        rw [Bool.and_eq_true] at h
        obtain ⟨p, vs, rfl, h1, _, h2⟩ := hy.tup
        have hx' : ∀ n, Rep G (cl F n) H d v := fun n => Rep.imm (P := cl F f.n) (fun a _ p _ => cl_obj p) d v (by cases d <;> simp [D.dat] at h <;> rfl) (hx.clean (by rintro _ rfl; simp [D.dat] at h) (by rintro _ rfl; simp [D.dat] at h))
        refine .inr (.inl ⟨p, vs, rfl, .inr (SqT.of h1), flat_of h.1 (hx' false), flats_of h.2 h2, ?_⟩)
        rw [if_pos rfl, flats_in h.1 (hx' f'.n) h.2 h2]
        exact q
      · cases e
    · rename_i kvs
      cases d <;> simp only [cmpV] at e <;> cases e
      obtain ⟨p, ws, rfl, h1, h2, h3⟩ := hy.dic
      rename_i i
      have hl := h3.look (k := i)
      refine .inr (.inr ⟨p, valV ws (.inl i), rfl, by rw [hx.int]; exact DGet.k (k := Sum.inl i) h1, ?_⟩)
      cases e : kvs.lookup i with
      | none => rw [e] at hl q; rw [hl]; exact q
      | some d => rw [e] at hl q; obtain ⟨w, hl, _⟩ := hl; rw [hl]; exact q
theorem ve_cmp {op : CmpOp} (hK : X.K = G.K) (hu : X.A.units + 65 < cLine) (hm : behindInMarks op b = false) (ha : PE X a (tP T C G Y ea)) (hb : PE X b (tP T C G Y eb)) : PE X (.Compare a [op] [b] pos) (tP T C G Y (.cmp op ea eb)) := by
  refine PE_weak (pe_cmpR (op_cmp hu op) ha hb hm) fun σ H Q ⟨F, E, S, h⟩ => ?_
  simp only [ev] at h
  refine tP_bind S h fun x v H1 P1 S1 h1 => tP_bind S1 h1 fun y u H2 P2 S2 h2 => ?_
  rw [R.sat_bind] at h2
  obtain ⟨k, e, q⟩ := sat_of h2 (cmp_ne op _ _)
  rw [hK]
  exact cmV op F H2 x y v u k Q (P1.val.same P2.same) P2.val e (q _ _ (Post.trans (P1.same.trans P2.same) Post.bl))
theorem vt_cmp {op : CmpOp} (hK : X.K = G.K) (hu : X.A.units + 65 < cLine) (hm : behindInMarks op b = false) (ha : PE X a (tP T C G Y ea)) (hb : PE X b (tP T C G Y eb)) : PT X (.Compare a [op] [b] pos) (tT T C G Y (.cmp op ea eb)) := by
  refine PT_weak (pt_cmpR (op_cmp hu op) ha hb hm) fun σ H Q ⟨F, E, S, h⟩ => ?_
  simp only [ev] at h
  show tP T C G Y ea σ H fun x H1 => tP T C G Y eb σ H1 fun y H2 => rCmp X.K op x y H2 fun x H' => ∃ k, x = .bl k ∧ Q k H'
  refine tP_bind S h fun x v H1 P1 S1 h1 => tP_bind S1 h1 fun y u H2 P2 S2 h2 => ?_
  rw [R.sat_bind] at h2
  obtain ⟨k, e, k', e', q⟩ := sat_of h2 (cmp_ne op _ _)
  simp only [mkI, D.bl.injEq] at e'
  subst e'
  rw [hK]
  exact cmV op F H2 x y v u k _ (P1.val.same P2.same) P2.val e ⟨k, rfl, q _ (P1.same.trans P2.same)⟩
end
end FS

/-! FS5: arguments, displays, builtins, items, attributes. -/
namespace FS
open PySem L2

/-! ### syntax without surprises -/
def notStar : Expr → Bool
  | .Starred _ _ => false
  | _ => true
theorem star_cons {e : Expr} {es : List Expr} {env : PySem.Env} (h : notStar e = true) : starEach (e :: es) env = (false, eval e env) :: starEach es env := by
  cases e <;> first | rfl | cases h
theorem star_any {pos : Pos} {env : PySem.Env} : ∀ {es : List Expr}, es.all notStar = true → (backTo pos (starEach es env)).any (·.1) = false
  | [], _ => rfl
  | e :: es, h => by
    simp only [List.all_cons, Bool.and_eq_true] at h
    rw [star_cons h.1]
    show (false || (backTo pos (starEach es env)).any (·.1)) = false
    rw [star_any h.2]
    rfl
def attrPlain : Expr → Bool
  | .Call (.Name _ _) [] [] _ => false
  | _ => true
theorem attr_base {o : Expr} {f : Str} {env : PySem.Env} {whole : Sem Value} (h : attrPlain o = true) : attributeBase o f env whole = whole := by
  unfold attributeBase
  split
  · simp [attrPlain] at h
  · rfl
def notSlice : Expr → Bool
  | .Slice _ _ _ _ => false
  | _ => true
theorem plain_ix {b : Expr} (h : notSlice b = true) : PlainIx b := by
  intro o i
  cases b <;> first | rfl | cases h

section
variable {T : Tb} {C : Fid → List D → R (D × Bool)} {G : GT} {Y : XK} {X : Cx} {a b c o i e : Expr} {ea eb ec eo ei ee : Ex} {es : List Expr} {ees : Exs} {pos : Pos}

/-! ### arguments -/
abbrev Vals' (G : GT) (F : Fr) (H : Hp) (vs : List V) (xs : List (D × Fl)) : Prop := Paired (fun v x => Val G F H x v) vs xs
theorem Vals'.same {F : Fr} {H H' : Hp} (s : Same H H') : ∀ {vs : List V} {xs : List (D × Fl)}, Vals' G F H vs xs → Vals' G F H' vs xs
  | _, _, .nil => .nil
  | _, _, .cons r t => .cons (r.same s) (Vals'.same s t)
theorem va_nil : PA X [] (tA T C G Y .nil) := PA_weak pa_nil fun σ H Q ⟨F, E, S, h⟩ => h [] H (Same.refl _) .nil
theorem va_cons (hs : notStar e = true) (ha : PE X e (tP T C G Y ee)) (hr : PA X es (tA T C G Y ees)) : PA X (e :: es) (tA T C G Y (.cons ee ees)) := by
  refine PA_weak (pa_cons ha hr (star_cons hs)) fun σ H Q ⟨F, E, S, h⟩ => ?_
  simp only [evl] at h
  show tP T C G Y ee σ H fun x H1 => tA T C G Y ees σ H1 fun xs H2 => Q (x :: xs) H2
  refine tP_bind S h fun x v H1 P1 S1 h1 => ?_
  rw [R.sat_bind] at h1
  exact ⟨F, E, S1, R.sat_mono h1 (fun xs q vs H2 s2 p => q (v :: vs) H2 (P1.same.trans s2) (.cons (P1.val.same s2) p)) fun c z => z⟩
/-- a list of arguments, then something -/
theorem tA_bind {σ : St} {H : Hp} {F : Fr} {E : SEnv} {β : Type} {f : List (D × Fl) → R β} {p : β → Prop} (S : Sim G F E σ H) (h : ((evl T C ees E).bind f).sat p (wish G Y H)) {Q : List V → Hp → Prop}
    (k : ∀ xs vs H', Same H H' → Vals' G F H' vs xs → Sim G F E σ H' → (f xs).sat p (wish G Y H') → Q vs H') : tA T C G Y ees σ H Q := by
  rw [R.sat_bind] at h
  exact ⟨F, E, S, R.sat_mono h (fun xs q vs H' s r => k xs vs H' s r (S.same s) (R.sat_mono q (fun _ z => z) fun c z => z.same s)) fun c z => z⟩
theorem cmb_reps {F : Fr} {H : Hp} : ∀ {xs : List (D × Fl)} {vs : List V}, Vals' G F H vs xs → (cmb xs).2.c = true → Reps G (cl F (cmb xs).2.n) H (cmb xs).1 vs
  | [], _, .nil, _ => by simp [cmb, Reps]
  | x :: xs, _, .cons r t, h => by
    simp only [cmb, Bool.and_eq_true] at h
    simp only [cmb, Reps]
    refine ⟨_, _, rfl, ?_, (cmb_reps t h.2).weak (cl_le (fun e => (Bool.and_eq_true_iff.mp e).2))⟩
    have := r.rep h.1
    exact (Rep.orI this).weak (cl_le (fun e => (Bool.and_eq_true_iff.mp e).1))
theorem cmb_len : ∀ xs : List (D × Fl), (cmb xs).1.length = xs.length
  | [] => rfl
  | x :: xs => by simp [cmb, cmb_len xs]
theorem Vals'.length {F : Fr} {H : Hp} : ∀ {vs : List V} {xs : List (D × Fl)}, Vals' G F H vs xs → vs.length = xs.length
  | _, _, .nil => rfl
  | _, _, .cons _ t => by simp [Vals'.length t]
def exsLen : Exs → Nat
  | .nil => 0
  | .cons _ es => exsLen es + 1
theorem evl_len {E : SEnv} : ∀ {es : Exs} {xs : List (D × Fl)}, evl T C es E = .ok xs → xs.length = exsLen es
  | .nil, xs, h => by simp only [evl, R.ok.injEq] at h; subst h; rfl
  | .cons e es, xs, h => by
    simp only [evl] at h
    cases h1 : ev T C e E with
    | ok x =>
      rw [h1] at h
      simp only [R.bind] at h
      cases h2 : evl T C es E with
      | ok ys =>
        rw [h2] at h
        simp only [R.ok.injEq] at h
        subst h
        simp [exsLen, evl_len h2]
      | exc c => rw [h2] at h; cases h
      | bad => rw [h2] at h; cases h
    | exc c => rw [h1] at h; cases h
    | bad => rw [h1] at h; cases h
theorem sat_known {α : Type} {r : R α} {p : α → Prop} {w : Str → Prop} (h : r.sat p w) : r.sat (fun a => p a ∧ r = .ok a) w := by
  cases r with
  | ok a => exact ⟨h, rfl⟩
  | exc c => exact h
  | bad => exact h

/-! ### displays -/
theorem ve_lst (hn : exsLen ees ≤ lim) (ha : PA X es (tA T C G Y ees)) : PE X (.List es pos) (tP T C G Y (.lst ees)) := by
  refine PE_weak (pe_lst ha) fun σ H Q ⟨F, E, S, h⟩ => ?_
  simp only [ev] at h
  rw [R.sat_bind] at h
  have h := sat_known h
  refine ⟨F, E, S, R.sat_mono h (fun xs ⟨q, e⟩ vs H1 s1 r => ?_) fun c z => z⟩
  split at q
  · rename_i hc
    have l1 := r.length
    have l2 := evl_len e
    have ll := lim_line
    refine ⟨by omega, fun p hp => q _ _ (Post.trans s1 (Post.list (S.same s1) hp (by omega) (cmb_reps r hc)))⟩
  · exact q.elim
theorem ve_tup {k : Nat} (hn : exsLen ees ≤ lim) (ha : PA X es (tA T C G Y ees)) : PE X (.Tuple es k pos) (tP T C G Y (.tup ees)) := by
  refine PE_weak (pe_tup ha) fun σ H Q ⟨F, E, S, h⟩ => ?_
  simp only [ev] at h
  rw [R.sat_bind] at h
  have h := sat_known h
  refine ⟨F, E, S, R.sat_mono h (fun xs ⟨q, e⟩ vs H1 s1 r => ?_) fun c z => z⟩
  split at q
  · rename_i hc
    have l1 := r.length
    have l2 := evl_len e
    have ll := lim_line
    refine ⟨by omega, fun p hp => q _ _ (Post.trans s1 (Post.tupl hp (by omega) (cmb_reps r hc)))⟩
  · exact q.elim

/-! ### builtins by their values -/
def BiV (T : Tb) (G : GT) (r : List V → Hp → VK → Prop) (b : Bi) : Prop := ∀ (F : Fr) (E : SEnv) (σ : St) (H : Hp) (xs : List (D × Fl)) (vs : List V) (z : D × Fl) (Q : VK), Sim G F E σ H → Vals' G F H vs xs → biV T b xs = .ok z → (∀ w H', Post G F H H' z w → Q w H') → r vs H Q
theorem bi_ne (b : Bi) (xs : List (D × Fl)) (c : Str) : biV T b xs ≠ .exc c := by
  intro e
  unfold biV at e
  split at e
  · unfold bi1 at e
    split at e <;> first | cases e | (split at e <;> first | cases e | (split at e <;> cases e))
  · unfold bi2 at e
    split at e <;> first | cases e | (split at e <;> first | cases e | (split at e <;> cases e))
  · cases e
theorem ve_biB {b : Bi} {x : Str} {id : String} {p : Pos} {r : List V → Hp → VK → Prop} (hc : CallR X (.builtin id) r) (hv : BiV T G r b) (hg : L2.Gl X x) (hm : X.mg x = none) (hb : bootBuiltins x = some (.builtin id)) (hn : x ≠ "__name__") (hd : (x == ("__debug__" : Str)) = false)
    (hs : (e :: es).all notStar = true) (ha : PA X (e :: es) (tA T C G Y ees)) : PE X (.Call (.Name x p) (e :: es) [] pos) (tP T C G Y (.bi b ees)) := by
  rw [List.all_cons, Bool.and_eq_true] at hs
  refine PE_weak (pe_callB hc hg hm hb ha hn hd (star_cons hs.1) (star_any hs.2)) fun σ H Q ⟨F, E, S, h⟩ => ?_
  simp only [ev] at h
  refine tA_bind S h fun xs vs H1 s1 r1 S1 h1 => ?_
  obtain ⟨z, e, q⟩ := sat_of h1 (bi_ne b xs)
  exact hv F E σ H1 xs vs z Q S1 r1 e fun w H' P => q w H' (Post.trans s1 P)
theorem ve_biT {b : Bi} {x : Str} {id : String} {p : Pos} {r : List V → Hp → VK → Prop} (hc : CallR X (.type id) r) (hv : BiV T G r b) (hg : L2.Gl X x) (hm : X.mg x = none) (hb : bootBuiltins x = some (.type id)) (hn : x ≠ "__name__") (hd : (x == ("__debug__" : Str)) = false)
    (hs : (e :: es).all notStar = true) (ha : PA X (e :: es) (tA T C G Y ees)) : PE X (.Call (.Name x p) (e :: es) [] pos) (tP T C G Y (.bi b ees)) := by
  rw [List.all_cons, Bool.and_eq_true] at hs
  refine PE_weak (pe_callTy hc hg hm hb ha hn hd (star_cons hs.1) (star_any hs.2)) fun σ H Q ⟨F, E, S, h⟩ => ?_
  simp only [ev] at h
  refine tA_bind S h fun xs vs H1 s1 r1 S1 h1 => ?_
  obtain ⟨z, e, q⟩ := sat_of h1 (bi_ne b xs)
  exact hv F E σ H1 xs vs z Q S1 r1 e fun w H' P => q w H' (Post.trans s1 P)
/-- one argument -/
theorem BiV1 {r : List V → Hp → VK → Prop} {b : Bi} (hb : ∀ x y z, bi2 b x y ≠ .ok z)
    (h : ∀ (F : Fr) (E : SEnv) (σ : St) (H : Hp) (d : D) (f : Fl) (v : V) (z : D × Fl) (Q : VK), Sim G F E σ H → Val G F H (d, f) v → bi1 T b d f = .ok z → (∀ w H', Post G F H H' z w → Q w H') → r [v] H Q) : BiV T G r b := by
  intro F E σ H xs vs z Q S hx e k
  unfold biV at e
  split at e
  · cases hx with
    | cons r t =>
      cases t
      exact h F E σ H _ _ _ z Q S r e k
  · exact absurd e (hb _ _ _)
  · cases e
theorem BiV2 {r : List V → Hp → VK → Prop} {b : Bi} (hb : ∀ x f z, bi1 T b x f ≠ .ok z)
    (h : ∀ (F : Fr) (E : SEnv) (σ : St) (H : Hp) (d d' : D) (f f' : Fl) (v v' : V) (z : D × Fl) (Q : VK), Sim G F E σ H → Val G F H (d, f) v → Val G F H (d', f') v' → bi2 b d d' = .ok z → (∀ w H', Post G F H H' z w → Q w H') → r [v, v'] H Q) : BiV T G r b := by
  intro F E σ H xs vs z Q S hx e k
  unfold biV at e
  split at e
  · exact absurd e (hb _ _ _)
  · cases hx with
    | cons r t =>
      cases t with
      | cons r' t =>
        cases t
        exact h F E σ H _ _ _ _ _ _ z Q S r r' e k
  · cases e
def rLen (K : PySem.W.Frag) : List V → Hp → VK → Prop := fun xs H Q => (∃ p ys, xs = [.ref p] ∧ (SqL K H p ys ∨ SqT K H p ys) ∧ Q (.int ys.length) H) ∨ (∃ z, xs = [.str z] ∧ z.length ≤ sizeLine ∧ Q (.int z.length) H)
theorem call_lenV : CallR X (.builtin "len") (rLen X.K) := call_len_seq.or call_len_str
theorem biV_len : BiV T G (rLen G.K) .len := by
  refine BiV1 (fun x y z e => by simp [bi2] at e) fun F E σ H d f v z Q S hx e k => ?_
  cases d <;> simp only [bi1] at e <;> first | cases e | skip
  · split at e
    · rename_i h
      cases e
      exact .inr ⟨_, by rw [hx.str], Nat.le_trans h lim_line, k _ _ Post.int⟩
    · cases e
  · obtain ⟨a, rfl, h1⟩ := hx.scr
    refine .inl ⟨a, _, rfl, .inl h1.sql, ?_⟩
    rw [List.length_map]
    exact k _ _ Post.int
  · obtain ⟨a, vs, rfl, h1, _, h3⟩ := hx.lst
    refine .inl ⟨a, _, rfl, .inl (SqL.of h1), ?_⟩
    rw [h3.length]
    exact k _ _ Post.int
  · obtain ⟨a, vs, rfl, h1, _, h3⟩ := hx.tup
    refine .inl ⟨a, _, rfl, .inr (SqT.of h1), ?_⟩
    rw [h3.length]
    exact k _ _ Post.int
end
end FS

/-! FS6: more builtins, items, attributes, slices. -/
namespace FS
open PySem L2

section
variable {T : Tb} {C : Fid → List D → R (D × Bool)} {G : GT} {Y : XK} {X : Cx} {a b c o i e : Expr} {ea eb ec eo ei ee : Ex} {es : List Expr} {ees : Exs} {pos : Pos}
theorem biV_list : BiV T G (fun xs H Q => ∃ p ys, xs = [.ref p] ∧ (SqL G.K H p ys ∨ SqT G.K H p ys) ∧ ∀ l, H l = none → Q (.ref l) (upd H l (.lst ys))) .list := by
  refine BiV1 (fun x y z e => by simp [bi2] at e) fun F E σ H d f v z Q S hx e k => ?_
  cases d <;> simp only [bi1] at e <;> cases e
  · obtain ⟨a, vs, rfl, h1, h2, h3⟩ := hx.lst
    exact ⟨a, _, rfl, .inl (SqL.of h1), fun l hl => k _ _ (Post.list S hl h2 h3)⟩
  · obtain ⟨a, vs, rfl, h1, h2, h3⟩ := hx.tup
    exact ⟨a, _, rfl, .inr (SqT.of h1), fun l hl => k _ _ (Post.list S hl h2 h3)⟩
theorem biV_tuple : BiV T G (fun xs H Q => ∃ p ys, xs = [.ref p] ∧ ((SqL G.K H p ys ∧ ∀ l, H l = none → Q (.ref l) (upd H l (.tup ys))) ∨ (SqT G.K H p ys ∧ Q (.ref p) H))) .tuple := by
  refine BiV1 (fun x y z e => by simp [bi2] at e) fun F E σ H d f v z Q S hx e k => ?_
  cases d <;> simp only [bi1] at e <;> cases e
  · obtain ⟨a, vs, rfl, h1, h2, h3⟩ := hx.lst
    exact ⟨a, _, rfl, .inl ⟨SqL.of h1, fun l hl => k _ _ (Post.tupl hl h2 h3.orI)⟩⟩
  · have hc := hx.clean (by intro _ e; cases e) (by intro _ e; cases e)
    obtain ⟨a, vs, rfl, h1, h2, h3⟩ := hx.tup
    exact ⟨a, _, rfl, .inr ⟨SqT.of h1, k _ _ ⟨Same.refl _, hc, fun e => by cases e⟩⟩⟩
theorem biV_all : BiV T G (rAll G.K) .all := by
  refine BiV1 (fun x y z e => by simp [bi2] at e) fun F E σ H d f v z Q S hx e k => ?_
  cases d <;> simp only [bi1] at e <;> first | cases e | skip
  obtain ⟨a, vs, rfl, h1, h2, h3⟩ := hx.lst
  split at e
  · rename_i bs hb
    cases e
    obtain ⟨rfl, rfl⟩ := h3.bls hb
    exact ⟨a, bs, rfl, SqL.of h1, k _ _ Post.bl⟩
  · cases e
theorem biV_any : BiV T G (rAny G.K) .any := by
  refine BiV1 (fun x y z e => by simp [bi2] at e) fun F E σ H d f v z Q S hx e k => ?_
  cases d <;> simp only [bi1] at e <;> first | cases e | skip
  obtain ⟨a, vs, rfl, h1, h2, h3⟩ := hx.lst
  split at e
  · rename_i bs hb
    cases e
    obtain ⟨rfl, rfl⟩ := h3.bls hb
    exact ⟨a, bs, rfl, SqL.of h1, k _ _ Post.bl⟩
  · cases e
theorem biV_sum : BiV T G (rSum G.K) .sum := by
  refine BiV1 (fun x y z e => by simp [bi2] at e) fun F E σ H d f v z Q S hx e k => ?_
  cases d <;> simp only [bi1] at e <;> first | cases e | skip
  obtain ⟨a, vs, rfl, h1, h2, h3⟩ := hx.lst
  split at e
  · rename_i bs hb
    cases e
    obtain ⟨rfl, rfl⟩ := h3.ints hb
    exact ⟨a, bs, rfl, SqL.of h1, k _ _ Post.int⟩
  · cases e
theorem maxL_is : ∀ {ns : List Int} {m : Int}, m ∈ ns → (∀ y ∈ ns, y ≤ m) → maxL ns = m
  | [x], m, h, _ => by simp at h; subst h; rfl
  | x :: y :: r, m, h, k => by
    have hx := k x List.mem_cons_self
    by_cases hm : m ∈ y :: r
    · have ih := maxL_is hm fun z hz => k z (List.mem_cons_of_mem _ hz)
      show (if maxL (y :: r) > x then maxL (y :: r) else x) = m
      rw [ih]
      split
      · rfl
      · omega
    · have e : m = x := by
        rcases List.mem_cons.mp h with h | h
        · exact h
        · exact absurd h hm
      subst e
      show (if maxL (y :: r) > m then maxL (y :: r) else m) = m
      have : maxL (y :: r) ∈ y :: r := by
        clear h hx hm k
        induction r generalizing y with
        | nil => exact List.mem_cons_self
        | cons z r ih =>
          show (if maxL (z :: r) > y then maxL (z :: r) else y) ∈ _
          split
          · exact List.mem_cons_of_mem _ (ih z)
          · exact List.mem_cons_self
      have := k _ (List.mem_cons_of_mem _ this)
      rw [if_neg (by omega)]
theorem minL_is : ∀ {ns : List Int} {m : Int}, m ∈ ns → (∀ y ∈ ns, m ≤ y) → minL ns = m
  | [x], m, h, _ => by simp at h; subst h; rfl
  | x :: y :: r, m, h, k => by
    have hx := k x List.mem_cons_self
    by_cases hm : m ∈ y :: r
    · have ih := minL_is hm fun z hz => k z (List.mem_cons_of_mem _ hz)
      show (if minL (y :: r) < x then minL (y :: r) else x) = m
      rw [ih]
      split
      · rfl
      · omega
    · have e : m = x := by
        rcases List.mem_cons.mp h with h | h
        · exact h
        · exact absurd h hm
      subst e
      show (if minL (y :: r) < m then minL (y :: r) else m) = m
      have : minL (y :: r) ∈ y :: r := by
        clear h hx hm k
        induction r generalizing y with
        | nil => exact List.mem_cons_self
        | cons z r ih =>
          show (if minL (z :: r) < y then minL (z :: r) else y) ∈ _
          split
          · exact List.mem_cons_of_mem _ (ih z)
          · exact List.mem_cons_self
      have := k _ (List.mem_cons_of_mem _ this)
      rw [if_neg (by omega)]
def rMax2 (K : PySem.W.Frag) : List V → Hp → VK → Prop := fun xs H Q => rMax K xs H Q ∨ ∃ i j, xs = [.int i, .int j] ∧ Q (.int (if j > i then j else i)) H
def rMin2 (K : PySem.W.Frag) : List V → Hp → VK → Prop := fun xs H Q => rMin K xs H Q ∨ ∃ i j, xs = [.int i, .int j] ∧ Q (.int (if j < i then j else i)) H
theorem call_maxV (hc : X.calm = true) : CallR X (.builtin "max") (rMax2 X.K) := (cr_max hc).or (call_max2 hc)
theorem call_minV (hc : X.calm = true) : CallR X (.builtin "min") (rMin2 X.K) := (cr_min hc).or (call_min2 hc)
theorem biV_max : BiV T G (rMax2 G.K) .max := by
  intro F E σ H xs vs z Q S hx e k
  unfold biV at e
  split at e
  · cases hx with
    | cons r t =>
      cases t
      rename_i x v
      obtain ⟨d, f⟩ := x
      cases d <;> simp only [bi1] at e <;> first | cases e | skip
      obtain ⟨a, vs, rfl, h1, h2, h3⟩ := Val.lst r
      split at e
      · rename_i bs hb
        obtain ⟨rfl, rfl⟩ := h3.ints hb
        split at e
        · cases e
        · rename_i hne
          cases e
          refine .inl ⟨a, bs, rfl, SqL.of h1, List.length_pos_iff.mpr hne, fun m hm hle => ?_⟩
          rw [← maxL_is hm hle]
          exact k _ _ Post.int
      · cases e
  · cases hx with
    | cons r t =>
      cases t with
      | cons r' t =>
        cases t
        rename_i x y v v'
        obtain ⟨d, f⟩ := x
        obtain ⟨d', f'⟩ := y
        cases d <;> cases d' <;> simp only [bi2] at e <;> first | cases e | skip
        exact .inr ⟨_, _, by rw [Val.int r, Val.int r'], k _ _ Post.int⟩
  · cases e
theorem biV_min : BiV T G (rMin2 G.K) .min := by
  intro F E σ H xs vs z Q S hx e k
  unfold biV at e
  split at e
  · cases hx with
    | cons r t =>
      cases t
      rename_i x v
      obtain ⟨d, f⟩ := x
      cases d <;> simp only [bi1] at e <;> first | cases e | skip
      obtain ⟨a, vs, rfl, h1, h2, h3⟩ := Val.lst r
      split at e
      · rename_i bs hb
        obtain ⟨rfl, rfl⟩ := h3.ints hb
        split at e
        · cases e
        · rename_i hne
          cases e
          refine .inl ⟨a, bs, rfl, SqL.of h1, List.length_pos_iff.mpr hne, fun m hm hle => ?_⟩
          rw [← minL_is hm hle]
          exact k _ _ Post.int
      · cases e
  · cases hx with
    | cons r t =>
      cases t with
      | cons r' t =>
        cases t
        rename_i x y v v'
        obtain ⟨d, f⟩ := x
        obtain ⟨d', f'⟩ := y
        cases d <;> cases d' <;> simp only [bi2] at e <;> first | cases e | skip
        exact .inr ⟨_, _, by rw [Val.int r, Val.int r'], k _ _ Post.int⟩
  · cases e
/-! ### the insertion sort of the value level -/
theorem ins_perm {α : Type} (le : α → α → Bool) (x : α) : ∀ l : List α, (insSort.ins le x l).Perm (x :: l)
  | [] => List.Perm.refl _
  | y :: ys => by
    unfold insSort.ins
    split
    · exact List.Perm.refl _
    · exact ((ins_perm le x ys).cons y).trans (List.Perm.swap x y ys)
theorem insSort_perm {α : Type} (le : α → α → Bool) : ∀ l : List α, (insSort le l).Perm l
  | [] => List.Perm.refl _
  | x :: xs => by
    unfold insSort
    exact (ins_perm le x _).trans ((insSort_perm le xs).cons x)
theorem ins_sorted {α : Type} {le : α → α → Bool} (ht : ∀ a b c, le a b = true → le b c = true → le a c = true) (hl : ∀ a b, le a b = true ∨ le b a = true) (x : α) : ∀ {l : List α}, l.Pairwise (fun a b => le a b = true) → (insSort.ins le x l).Pairwise (fun a b => le a b = true)
  | [], _ => by simp [insSort.ins]
  | y :: ys, h => by
    unfold insSort.ins
    obtain ⟨h1, h2⟩ := List.pairwise_cons.mp h
    split
    · rename_i hxy
      exact List.pairwise_cons.mpr ⟨fun z hz => by
        rcases List.mem_cons.mp hz with rfl | hz
        · exact hxy
        · exact ht _ _ _ hxy (h1 z hz), h⟩
    · rename_i hxy
      refine List.pairwise_cons.mpr ⟨fun z hz => ?_, ins_sorted ht hl x h2⟩
      rcases List.mem_cons.mp ((ins_perm le x ys).mem_iff.mp hz) with rfl | hz
      · rcases hl z y with q | q
        · exact absurd q hxy
        · exact q
      · exact h1 z hz
theorem insSort_sorted {α : Type} {le : α → α → Bool} (ht : ∀ a b c, le a b = true → le b c = true → le a c = true) (hl : ∀ a b, le a b = true ∨ le b a = true) : ∀ l : List α, (insSort le l).Pairwise (fun a b => le a b = true)
  | [] => List.Pairwise.nil
  | x :: xs => ins_sorted ht hl x (insSort_sorted ht hl xs)
def leI (a b : Int) : Bool := decide (a ≤ b)
theorem sortI_is {ns ms : List Int} (hp : ms.Perm ns) (hs : ms.Pairwise (· ≤ ·)) : insSort (fun a b => decide (a ≤ b)) ns = ms := by
  refine PySem.W.ksm_same ((insSort_perm _ ns).trans hp.symm) ?_ hs
  have := insSort_sorted (le := fun (a b : Int) => decide (a ≤ b)) (fun a b c h1 h2 => by simp at *; omega) (fun a b => by simp; omega) ns
  exact this.imp fun h => of_decide_eq_true h
theorem biV_sorted : BiV T G (rSortedI G.K) .sorted := by
  refine BiV1 (fun x y z e => by simp [bi2] at e) fun F E σ H d f v z Q S hx e k => ?_
  cases d <;> simp only [bi1] at e <;> first | cases e | skip
  obtain ⟨a, vs, rfl, h1, h2, h3⟩ := hx.lst
  split at e
  · rename_i bs hb
    cases e
    obtain ⟨rfl, rfl⟩ := h3.ints hb
    refine ⟨a, bs, rfl, SqL.of h1, fun ms p hp hs hn => k _ _ ?_⟩
    rw [sortI_is hp hs]
    have hl : (ms.map V.int).length ≤ sizeLine := by
      rw [List.length_map, hp.length_eq]
      simpa using h2
    have hr : Reps G (cl F true) H (ms.map D.int) (ms.map V.int) := Reps.of_ints ms
    exact Post.list S hn hl hr
  · cases e
theorem biV_count : BiV T G (fun xs H Q => ∃ x y, xs = [x, y] ∧ rCntI G.K x [y] H Q) .count := by
  refine BiV2 (fun x f z e => by simp [bi1] at e) fun F E σ H d d' f f' v v' z Q S hx hy e k => ?_
  cases d <;> cases d' <;> simp only [bi2] at e <;> first | cases e | skip
  obtain ⟨a, vs, rfl, h1, h2, h3⟩ := hx.lst
  split at e
  · rename_i bs hb
    cases e
    obtain ⟨rfl, rfl⟩ := h3.ints hb
    exact ⟨_, _, rfl, a, bs, _, rfl, by rw [hy.int], SqL.of h1, k _ _ Post.int⟩
  · cases e

/-! ### items -/
def rIxD : R2 := fun x y H Q => ∃ a v, x = .ref a ∧ DGet H a y (some v) ∧ Q v H
theorem ix_dict (hu : X.A.units + 1 < cLine) : IxR X rIxD := by
  intro value slice pins s σ H x y v u Q I rx ry h hs
  obtain ⟨p, z, rfl, g, q⟩ := h
  cases rx
  exact PyProof.Rows.tail_any (ops := [.ref p, u]) (dict_typeIs I g) PySem.F.slot_dict_getitem.lookup (d_getItem hu I g ry fun w' s3 I3 rw' => ⟨z, H, I3, rw', q⟩) hs
def rIxA (K : PySem.W.Frag) : R2 := fun x y H Q => rIxL K x y H Q ∨ rIxT K x y H Q ∨ rIxD x y H Q
theorem ix_all (hu : X.A.units + 1 < cLine) : IxR X (rIxA X.K) := ix_list.or (ix_tup.or (ix_dict hu))
theorem ixN_eq (n : Nat) (i : Int) : ixN' n i = ixN n i := rfl
theorem Reps.atI {P : Bool → Addr → Prop} {H : Hp} {ds : List D} {vs : List V} {i : Int} {d : D} (h : Reps G P H ds vs) (e : ((ixN' ds.length i).bind fun j => ds[j]?) = some d) : ∃ v, L2.atI vs i = some v ∧ Rep G P H d v := by
  unfold L2.atI
  rw [h.length, ← ixN_eq]
  cases q : ixN' ds.length i with
  | none => rw [q] at e; cases e
  | some j =>
    rw [q] at e
    exact h.get e
theorem opV_idx : OpV G (rIxA G.K) idxV := by
  rintro F E σ H ⟨d, f⟩ ⟨d', f'⟩ z v u Q S hx hy e k
  cases d <;> cases d' <;> simp only [idxV] at e <;> first | cases e | skip
  · rename_i ns j
    obtain ⟨a, rfl, h1⟩ := hx.scr
    split at e
    · rename_i w hw
      cases e
      refine .inl ⟨a, _, j, .int w, rfl, hy.int, h1.sql, ?_, k _ _ Post.int⟩
      unfold L2.atI
      rw [List.length_map, ← ixN_eq]
      cases q : ixN' ns.length j with
      | none => rw [q] at hw; cases hw
      | some m =>
        rw [q] at hw
        have hw : ns[m]? = some w := hw
        simp [hw]
    · cases e
  · obtain ⟨a, vs, rfl, h1, h2, h3⟩ := hx.lst
    split at e
    · rename_i w hw
      cases e
      obtain ⟨v, e1, e2⟩ := h3.atI hw
      exact .inl ⟨a, vs, _, v, rfl, hy.int, SqL.of h1, e1, k _ _ (Post.item e2)⟩
    · cases e
  · obtain ⟨a, vs, rfl, h1, h2, h3⟩ := hx.tup
    split at e
    · rename_i w hw
      cases e
      obtain ⟨v, e1, e2⟩ := h3.atI hw
      exact .inr (.inl ⟨a, vs, _, v, rfl, hy.int, SqT.of h1, e1, k _ _ (Post.item e2)⟩)
    · cases e
  · obtain ⟨a, ws, rfl, h1, h2, h3⟩ := hx.dic
    rename_i kvs i
    have hl := h3.look (k := i)
    split at e
    · rename_i w hw
      cases e
      rw [hw] at hl
      obtain ⟨v, e1, e2⟩ := hl
      refine .inr (.inr ⟨a, v, rfl, ?_, k _ _ (Post.item e2)⟩)
      rw [hy.int, ← e1]
      exact DGet.k (k := Sum.inl i) h1
    · cases e
theorem idx_ne : NoExc idxV := by
  rintro ⟨d, f⟩ ⟨d', f'⟩ c e
  unfold idxV at e
  split at e <;> first | cases e | (split at e <;> cases e)
theorem ve_idx (hK : X.K = G.K) (hu : X.A.units + 1 < cLine) (hs : notSlice i = true) (ho : PE X o (tP T C G Y eo)) (hi : PE X i (tP T C G Y ei)) : PE X (.Subscript o i pos) (tP T C G Y (.idx eo ei)) := by
  refine PE_weak (pe_ix (ix_all hu) ho hi (plain_ix hs)) fun σ H Q ⟨F, E, S, h⟩ => ?_
  rw [hK]
  exact two opV_idx idx_ne S (by simpa only [ev] using h)

/-! ### slices -/
theorem ve_rev {k : Nat} {p1 p2 p3 : Pos} (hK : X.K = G.K) (ho : PE X o (tP T C G Y eo)) : PE X (.Subscript o (.Slice none none (some (.UnaryOp .USub (.Constant (.int 1) k p1) p2)) p3) pos) (tP T C G Y (.rev eo)) := by
  refine PE_weak (pe_revL ho) fun σ H Q ⟨F, E, S, h⟩ => ?_
  simp only [ev] at h
  refine tP_bind S h fun x v H1 P1 S1 h1 => ?_
  obtain ⟨d, f⟩ := x
  cases d <;> simp only [revV] at h1 <;> first | exact h1.elim | skip
  obtain ⟨a, vs, rfl, q1, q2, q3⟩ := P1.val.lst
  refine ⟨a, vs, rfl, SqL.of q1, fun p hp => h1 _ _ (Post.trans P1.same (Post.list S1 hp (by simpa using q2) q3.reverse))⟩
theorem cut_reps {P : Bool → Addr → Prop} {H : Hp} {ds : List D} {vs : List V} (h : Reps G P H ds vs) (lo hi : Option Int) : Reps G P H (cutD ds lo hi) (cutV vs lo hi) := by
  unfold cutD cutV
  rw [h.length]
  exact (h.drop _).take _
theorem slc_core {F : Fr} {E : SEnv} {σ : St} {H : Hp} {f : Fl} {ds : List D} {v : V} {lo hi : Option Int} {Q : VK} (S : Sim G F E σ H) (hx : Val G F H (.lst ds, f) v) (k : ∀ w H', Post G F H H' (mkL (cutD ds lo hi) f.n) w → Q w H') : rSlL G.K v lo hi H Q := by
  obtain ⟨a, vs, rfl, q1, q2, q3⟩ := hx.lst
  refine ⟨a, vs, rfl, SqL.of q1, fun p hp => k _ _ (Post.list S hp (Nat.le_trans (cutV_length _ _ _) q2) (cut_reps q3 _ _))⟩
/-- xs[lo:] -/
theorem ve_slcL {lo : Expr} {elo : Ex} {p2 : Pos} (hK : X.K = G.K) (ho : PE X o (tP T C G Y eo)) (hl : PE X lo (tP T C G Y elo)) : PE X (.Subscript o (.Slice (some lo) none none p2) pos) (tP T C G Y (.slc eo elo (.con .non))) := by
  refine PE_weak (pe_slice sl_list ho (po_some hl) po_none) fun σ H Q ⟨F, E, S, h⟩ => ?_
  simp only [ev] at h
  rw [hK]
  show tP T C G Y eo σ H fun x H1 => tPart (tP T C G Y elo) σ H1 fun l H2 => rSlL G.K x l none H2 Q
  refine tP_bind S h fun x v H1 P1 S1 h1 => ?_
  show tP T C G Y elo σ H1 fun y H2 => ∃ i, y = .int i ∧ rSlL G.K v (some i) none H2 Q
  refine tP_bind S1 h1 fun y u H2 P2 S2 h2 => ?_
  obtain ⟨d, f⟩ := x
  obtain ⟨d', f'⟩ := y
  simp only [R.bind, mkI] at h2
  cases d <;> cases d' <;> simp only [slcV] at h2 <;> first | exact h2.elim | skip
  refine ⟨_, P2.val.int, slc_core S2 (P1.val.same P2.same) fun w H' P => h2 w H' (Post.trans (P1.same.trans P2.same) P)⟩
/-- xs[:hi] -/
theorem ve_slcH {hi : Expr} {ehi : Ex} {p2 : Pos} (hK : X.K = G.K) (ho : PE X o (tP T C G Y eo)) (hl : PE X hi (tP T C G Y ehi)) : PE X (.Subscript o (.Slice none (some hi) none p2) pos) (tP T C G Y (.slc eo (.con .non) ehi)) := by
  refine PE_weak (pe_slice sl_list ho po_none (po_some hl)) fun σ H Q ⟨F, E, S, h⟩ => ?_
  simp only [ev] at h
  rw [hK]
  show tP T C G Y eo σ H fun x H1 => tPart (tP T C G Y ehi) σ H1 fun l H2 => rSlL G.K x none l H2 Q
  refine tP_bind S h fun x v H1 P1 S1 h1 => ?_
  simp only [R.bind] at h1
  show tP T C G Y ehi σ H1 fun y H2 => ∃ i, y = .int i ∧ rSlL G.K v none (some i) H2 Q
  refine tP_bind S1 h1 fun y u H2 P2 S2 h2 => ?_
  obtain ⟨d, f⟩ := x
  obtain ⟨d', f'⟩ := y
  simp only [mkI] at h2
  cases d <;> cases d' <;> simp only [slcV] at h2 <;> first | exact h2.elim | skip
  refine ⟨_, P2.val.int, slc_core S2 (P1.val.same P2.same) fun w H' P => h2 w H' (Post.trans (P1.same.trans P2.same) P)⟩

/-! ### attributes -/
theorem ve_att {f : Str} (hK : X.K = G.K) (hcl : ∀ c C, G.cls c = some C → Cls G.K C ∧ NoAttr G.K C f) (hp : attrPlain o = true) (ho : PE X o (tP T C G Y eo)) : PE X (.Attribute o f pos) (tP T C G Y (.att eo f)) := by
  refine PE_weak (pe_fld ho (attr_base hp)) fun σ H Q ⟨F, E, S, h⟩ => ?_
  simp only [ev] at h
  rw [hK]
  refine tP_bind S h fun x v H1 P1 S1 h1 => ?_
  obtain ⟨d, fl⟩ := x
  cases d <;> simp only [attV] at h1 <;> first | exact h1.elim | skip
  have hc := P1.val.clean (by intro _ e; cases e) (by intro _ e; cases e)
  simp only [Rep] at hc
  obtain ⟨a, Ca, dx, ws, rfl, _, q1, q2, q3⟩ := hc
  split at h1
  · rename_i w hw
    obtain ⟨u, e1, e2⟩ := q3.look hw
    exact ⟨a, Ca, dx, ws, u, rfl, q1, (hcl _ _ q2).1, (hcl _ _ q2).2, e1, h1 _ _ (Post.trans P1.same (Post.item e2))⟩
  · exact h1.elim
end
end FS

/-! FS7: targets, what is walked, comprehensions, sets' lengths, isinstance, count. -/
namespace FS
open PySem L2

section
variable {T : Tb} {C : Fid → List D → R (D × Bool)} {G : GT} {Y : XK} {X : Cx} {a b c o i e : Expr} {ea eb ec eo ei ee : Ex} {es : List Expr} {ees : Exs} {pos : Pos}

/-! ### targets -/
theorem Sim.set {F : Fr} {E : SEnv} {σ : St} {H : Hp} {d : D} {v : V} {n : Bool} (S : Sim G F E σ H) (h : Rep G (cl F n) H d v) (i : Nat) (hl : ∀ p ∈ F.lk, p.1 ≠ i) : Sim G F (E.set i (some (.shr d n))) (σ.set i (some v)) H := by
  refine ⟨by simp [S.len], S.ent, fun j s e => ?_, fun j k d d' n n' w hjk e1 e2 h1 h2 => ?_, S.pin, S.exH, fun p hp => by
    rw [List.getElem?_set_ne (hl p hp).symm, List.getElem?_set_ne (hl p hp).symm]
    exact S.lk p hp⟩
  · rw [List.getElem?_set] at e
    split at e
    · rename_i hij
      subst hij
      split at e
      · rename_i hl
        cases e
        exact ⟨v, by rw [List.getElem?_set_self (by rw [S.len]; exact hl)], h⟩
      · cases e
    · rename_i hij
      obtain ⟨w, e1, e2⟩ := S.slot j s e
      exact ⟨w, by rw [List.getElem?_set_ne hij]; exact e1, e2⟩
  · rw [List.getElem?_set] at e1 e2
    split at e1
    · split at e1 <;> cases e1
    · rename_i n1
      split at e2
      · split at e2 <;> cases e2
      · rename_i n2
        rw [List.getElem?_set_ne n1] at h1
        rw [List.getElem?_set_ne n2] at h2
        exact S.dis j k d d' n n' w hjk e1 e2 h1 h2
def tG (G : GT) (t : Tg) : TG := fun x σ H Q => ∃ F E d n, Sim G F E σ H ∧ (∀ p ∈ F.lk, p.1 ∉ tgSlots t) ∧ Rep G (cl F n) H d x ∧ ∃ E', tgV E t d n = .ok E' ∧ ∀ σ', Sim G F E' σ' H → (∀ vs, (∀ j ∈ tgSlots t, j ∈ vs) → wipe σ' vs = wipe σ vs) → Q σ' H
theorem PG_weak {X : Cx} {e : Expr} {t t' : TG} (h : PG X e t) (w : ∀ v σ H Q, t' v σ H Q → t v σ H Q) : PG X e t' := ⟨fun pins s σ H v u Q I r q => h.run pins s σ H v u Q I r (w v σ H Q q)⟩
theorem set_comm' {α : Type} {l : List α} {i j : Nat} {a b : α} : (l.set i a).set j b = if i = j then l.set j b else (l.set j b).set i a := by
  split
  · rename_i h; subst h; rw [List.set_set]
  · rename_i h; exact List.set_comm _ _ h
theorem wipe_set {σ : St} {i : Nat} {v : Option V} : ∀ {vs : List Nat}, i ∈ vs → wipe (σ.set i v) vs = wipe σ vs
  | x :: vs, h => by
    unfold wipe
    by_cases hi : i ∈ vs
    · rw [wipe_set hi]
    · have e : i = x := by
        rcases List.mem_cons.mp h with h | h
        · exact h
        · exact absurd h hi
      subst e
      have : ∀ vs : List Nat, i ∉ vs → wipe (σ.set i v) vs = (wipe σ vs).set i v := by
        intro vs
        induction vs with
        | nil => intro _; rfl
        | cons y ys ih =>
          intro hn
          have h1 : i ≠ y := fun z => hn (by rw [z]; exact List.mem_cons_self)
          have h2 : i ∉ ys := fun z => hn (List.mem_cons_of_mem _ z)
          show (wipe (σ.set i v) ys).set y none = ((wipe σ ys).set y none).set i v
          rw [ih h2, List.set_comm _ _ h1]
      rw [this vs hi, List.set_set]
theorem vg_name {i : Nat} {x : Str} (hN : X.N.Nodup) (hi : X.N[i]? = some x) (hx : Loc X.env.scope x) (hf : X.fn x = true ∨ X.env.scope.names.lookup x = some .local) : PG X (.Name x pos) (tG G (.nm i)) := by
  refine PG_weak (pg_name hN hi hx hf) fun v σ H Q => ?_
  rintro ⟨F, E, d, n, S, nl, r, E', e, k⟩
  simp only [tgV, R.ok.injEq] at e
  subst e
  exact k _ (S.set r i fun p hp z => nl p hp (by simp [tgSlots, z])) fun vs hv => wipe_set (hv i (by simp [tgSlots]))
theorem vg_tup2 {x y : Str} {px py : Pos} {k i j : Nat} (hK : X.K = G.K) (hc : X.calm = true) (hN : X.N.Nodup) (hi : X.N[i]? = some x) (hx : Loc X.env.scope x) (hf : X.fn x = true ∨ X.env.scope.names.lookup x = some .local)
    (hj : X.N[j]? = some y) (hy : Loc X.env.scope y) (hg : X.fn y = true ∨ X.env.scope.names.lookup y = some .local) : PG X (.Tuple [.Name x px, .Name y py] k pos) (tG G (.tp [i, j])) := by
  refine PG_weak (pg_tup (n := 2) hc (pgs_cons (pg_name hN hi hx hf) (pgs_cons (pg_name hN hj hy hg) pgs_nil))) fun v σ H Q => ?_
  rintro ⟨F, E, d, n, S, nl, r, E', e, k⟩
  cases d with
  | tup ds =>
    match ds, r, e with
    | [], r, e => simp [tgV] at e
    | [_], r, e => simp [tgV] at e
    | _ :: _ :: _ :: _, r, e => simp [tgV] at e
    | [d1, d2], r, e =>
      simp only [tgV, R.ok.injEq] at e
      subst e
      simp only [Rep, Reps] at r
      obtain ⟨p, vs, rfl, h1, _, v1, _, rfl, r1, v2, _, rfl, r2, rfl⟩ := r
      rw [hK]
      refine ⟨p, _, rfl, SqT.of h1, rfl, v1, _, rfl, v2, _, rfl, rfl, k _ ((S.set r1 i fun p hp z => nl p hp (by simp [tgSlots, z])).set r2 j fun p hp z => nl p hp (by simp [tgSlots, z])) fun vs hv => ?_⟩
      rw [wipe_set (hv j (by simp [tgSlots])), wipe_set (hv i (by simp [tgSlots]))]
  | _ => simp [tgV] at e

/-! ### what is walked -/
structure WalkV (G : GT) (J : L2.It) (ds : List D) (n : Bool) (kp : Fr → Hp → Prop) (rt : List Addr) : Prop where
  go : ∀ F H i, kp F H → i < ds.length → J.go i H
  yld : ∀ F H i x H' d, kp F H → ds[i]? = some d → J.yld i H x H' → Same H H' ∧ kp F H' ∧ Rep G (cl F n) H' d x
  stop : ∀ F H i, kp F H → ds.length ≤ i → J.stop i H
  len : ∀ F H, kp F H → ds.length ≤ sizeLine
  /-- it stands while nothing of it is changed -/
  st : ∀ F F' H H', kp F H → (∀ a o, H a = some o → (a ∈ rt ∨ immO o = true ∨ ∃ n k, cl F n k a) → H' a = some o) → (∀ n k a, cl F n k a → H a ≠ none → cl F' n k a) → kp F' H'
  rtH : ∀ F H a, kp F H → a ∈ rt → H a ≠ none
/-- what must be kept so that it stands -/
def PinsV (G : GT) (kp : Fr → Hp → Prop) (F : Fr) (H : Hp) (pins : List (D × V × Bool)) : Prop :=
  (∀ q ∈ pins, Rep G (cl F q.2.2) H q.1 q.2.1) ∧ ∀ F' H', (∀ q ∈ pins, Rep G (cl F' q.2.2) H' q.1 q.2.1) → kp F' H'
def tI (T : Tb) (C : Fid → List D → R (D × Bool)) (G : GT) (Y : XK) (it : It) : TI := fun σ H R => ∃ F E, Sim G F E σ H ∧ (evI T C it E).sat (fun p => ∀ J H' kp rt, Same H H' → WalkV G J p.1 p.2.1 kp rt → kp F H' → (p.2.2 = true → ∃ pins, PinsV G kp F H' pins) → R J H') (wish G Y H)
theorem PI_weak {X : Cx} {tg e : Expr} {t t' : TI} (h : PI X tg e t) (w : ∀ σ H Q, t' σ H Q → t σ H Q) : PI X tg e t' := ⟨fun pins s σ H R I q => h.run pins s σ H R I (w σ H R q)⟩
theorem cl_keep {F F' : Fr} {H H' : Hp} {n : Bool} (s : Same H H') (h : ∀ n k a, cl F n k a → H a ≠ none → cl F' n k a) : ∀ k a o, cl F n k a → H a = some o → cl F' n k a ∧ H' a = some o :=
  fun k a o p e => ⟨h n k a p (by rw [e]; simp), s a o e⟩
/-- a list -/
theorem walk_lst {K : PySem.W.Frag} {a : Addr} {ds : List D} {n : Bool} :
    WalkV G (Itl K a) ds n (fun F H => ∃ vs, H a = some (.lst vs) ∧ vs.length ≤ sizeLine ∧ Reps G (cl F n) H ds vs) [a] where
  go := fun F H i ⟨vs, h1, h2, h3⟩ hi => by
    obtain ⟨v, e, _⟩ := h3.get (List.getElem?_eq_getElem hi)
    exact ⟨vs, v, SqL.of h1, e⟩
  yld := fun F H i x H' d ⟨vs, h1, h2, h3⟩ hd ⟨e, y⟩ => by
    subst e
    obtain ⟨v, e1, e2⟩ := h3.get hd
    have := y vs (SqL.of h1)
    rw [e1] at this
    cases this
    exact ⟨Same.refl _, ⟨vs, h1, h2, h3⟩, e2⟩
  stop := fun F H i ⟨vs, h1, h2, h3⟩ hi => ⟨vs, SqL.of h1, by rw [h3.length]; exact hi⟩
  len := fun F H ⟨vs, h1, h2, h3⟩ => by rw [← h3.length]; exact h2
  st := fun F F' H H' ⟨vs, h1, h2, h3⟩ s hc => ⟨vs, s _ _ h1 (.inl (by simp)), h2, Reps.mono (fun k a o p e => ⟨hc _ k a p (by rw [e]; simp), s a o e (.inr (.inr ⟨_, k, p⟩))⟩) (fun a o im e => s a o e (.inr (.inl im))) _ _ h3⟩
  rtH := fun F H b ⟨vs, h1, _⟩ hb => by
    obtain rfl : b = a := by simpa using hb
    rw [h1]
    simp
theorem walk_tup {K : PySem.W.Frag} {a : Addr} {ds : List D} {n : Bool} :
    WalkV G (Itt K a) ds n (fun F H => ∃ vs, H a = some (.tup vs) ∧ vs.length ≤ sizeLine ∧ Reps G (cl F n) H ds vs) [a] where
  go := fun F H i ⟨vs, h1, h2, h3⟩ hi => by
    obtain ⟨v, e, _⟩ := h3.get (List.getElem?_eq_getElem hi)
    exact ⟨vs, v, SqT.of h1, e⟩
  yld := fun F H i x H' d ⟨vs, h1, h2, h3⟩ hd ⟨e, y⟩ => by
    subst e
    obtain ⟨v, e1, e2⟩ := h3.get hd
    have := y vs (SqT.of h1)
    rw [e1] at this
    cases this
    exact ⟨Same.refl _, ⟨vs, h1, h2, h3⟩, e2⟩
  stop := fun F H i ⟨vs, h1, h2, h3⟩ hi => ⟨vs, SqT.of h1, by rw [h3.length]; exact hi⟩
  len := fun F H ⟨vs, h1, h2, h3⟩ => by rw [← h3.length]; exact h2
  st := fun F F' H H' ⟨vs, h1, h2, h3⟩ s hc => ⟨vs, s _ _ h1 (.inl (by simp)), h2, Reps.mono (fun k a o p e => ⟨hc _ k a p (by rw [e]; simp), s a o e (.inr (.inr ⟨_, k, p⟩))⟩) (fun a o im e => s a o e (.inr (.inl im))) _ _ h3⟩
  rtH := fun F H b ⟨vs, h1, _⟩ hb => by
    obtain rfl : b = a := by simpa using hb
    rw [h1]
    simp
theorem walk_rng {lo : Int} {n : Nat} (hn : n ≤ sizeLine) : WalkV G (Itr lo n) ((List.range n).map fun (k : Nat) => D.int (lo + k)) true (fun _ _ => True) [] where
  go := fun F H i _ hi => by show i < n; simpa using hi
  yld := fun F H i x H' d _ hd ⟨e, y⟩ => by
    subst e
    refine ⟨Same.refl _, trivial, ?_⟩
    rw [List.getElem?_map] at hd
    cases h : (List.range n)[i]? with
    | none => rw [h] at hd; cases hd
    | some m =>
      rw [h] at hd
      cases hd
      obtain ⟨h1, h2⟩ := List.getElem?_eq_some_iff.mp h
      simp at h2
      subst h2
      simpa [Rep] using y
  stop := fun F H i _ hi => by show n ≤ i; simpa using hi
  len := fun F H _ => by simpa using hn
  st := fun _ _ _ _ _ _ _ => trivial
  rtH := fun _ _ _ _ h => by cases h
end
end FS

/-! FS8: walks over lists, tuples, ranges; comprehensions. -/
namespace FS
open PySem L2

section
variable {T : Tb} {C : Fid → List D → R (D × Bool)} {G : GT} {Y : XK} {X : Cx} {a b c o i e tg : Expr} {ea eb ec eo ei ee : Ex} {es : List Expr} {ees : Exs} {pos : Pos}
theorem PI_or {t t1 t2 : TI} (h1 : PI X tg e t1) (h2 : PI X tg e t2) (w : ∀ σ H R, t σ H R → t1 σ H R ∨ t2 σ H R) : PI X tg e t := ⟨fun pins s σ H R I q => by
  rcases w σ H R q with q | q
  · exact h1.run pins s σ H R I q
  · exact h2.run pins s σ H R I q⟩
theorem vi_seq (hK : X.K = G.K) (ha : PE X e (tP T C G Y ee)) : PI X tg e (tI T C G Y (.seq ee)) := by
  refine PI_or (pi_list ha) (pi_tup ha) fun σ H R => ?_
  rintro ⟨F, E, S, h⟩
  simp only [evI] at h
  rw [hK]
  cases q : ev T C ee E with
  | bad => rw [q] at h; exact h.elim
  | exc c =>
    rw [q] at h
    refine .inl ⟨F, E, S, ?_⟩
    rw [q]
    exact h
  | ok x =>
    rw [q] at h
    obtain ⟨d, f⟩ := x
    have h : (itV (d, f)).sat _ (wish G Y H) := h
    cases d with
    | lst ds =>
      simp only [itV] at h
      refine .inl ⟨F, E, S, ?_⟩
      rw [q]
      intro v H' P
      obtain ⟨a, vs, rfl, h1, h2, h3⟩ := P.val.lst
      refine ⟨a, rfl, ⟨vs, SqL.of h1⟩, h _ _ _ _ P.same walk_lst ⟨vs, h1, h2, h3⟩ fun hc => ?_⟩
      have hr := P.val.rep hc
      refine ⟨[(.lst ds, .ref a, f.n)], fun q hq => ?_, fun F' H2 hq => ?_⟩
      · obtain rfl : q = _ := by simpa using hq
        exact hr
      · have := hq _ List.mem_cons_self
        simp only [Rep] at this
        obtain ⟨a', vs', e, _, h1, h2, h3⟩ := this
        cases e
        exact ⟨vs', h1, h2, h3⟩
    | tup ds =>
      simp only [itV] at h
      refine .inr ⟨F, E, S, ?_⟩
      rw [q]
      intro v H' P
      have hr := P.val.clean (by intro _ e; cases e) (by intro _ e; cases e)
      obtain ⟨a, vs, rfl, h1, h2, h3⟩ := P.val.tup
      refine ⟨a, rfl, ⟨vs, SqT.of h1⟩, h _ _ _ _ P.same walk_tup ⟨vs, h1, h2, h3⟩ fun hc => ?_⟩
      refine ⟨[(.tup ds, .ref a, f.n)], fun q hq => ?_, fun F' H2 hq => ?_⟩
      · obtain rfl : q = _ := by simpa using hq
        exact hr
      · have := hq _ List.mem_cons_self
        simp only [Rep] at this
        obtain ⟨a', vs', e, h1, h2, h3⟩ := this
        cases e
        exact ⟨vs', h1, h2, h3⟩
    | _ => exact h.elim
theorem rng_ne (x y : D) (c : Str) : rngV x y ≠ .exc c := by
  intro e
  unfold rngV at e
  split at e <;> first | cases e | (split at e <;> cases e)
theorem PinsV.top {F : Fr} {H : Hp} : PinsV G (fun _ _ => True) F H [] := ⟨fun _ h => (nomatch h), fun _ _ _ => trivial⟩
theorem vi_rng1 {p : Pos} (hg : L2.Gl X "range") (hm : X.mg "range" = none) (hs : notStar b = true) (hb : PE X b (tP T C G Y eb)) : PI X tg (.Call (.Name "range" p) [b] [] pos) (tI T C G Y (.rng1 eb)) := by
  refine PI_weak (pi_range1 hg hm (va_cons hs hb va_nil) (star_cons hs)) fun σ H Rr => ?_
  rintro ⟨F, E, S, h⟩
  simp only [evI] at h
  rw [R.sat_bind] at h
  show tA T C G Y (.cons eb .nil) σ H fun vs H1 => ∃ j : Int, vs = [.int j] ∧ -(2 ^ 62) ≤ j ∧ j < 2 ^ 62 ∧ Rr (Itr 0 j.toNat) H1
  refine ⟨F, E, S, ?_⟩
  simp only [evl]
  rw [R.sat_bind]
  refine R.sat_mono h (fun x q vs H' s r => ?_) fun _ z => z
  obtain ⟨z, e, k⟩ := sat_of q (rng_ne _ _)
  cases r with
  | cons r t =>
    cases t
    obtain ⟨d, f⟩ := x
    cases d <;> simp only [rngV] at e <;> first | cases e | skip
    split at e
    · rename_i j hj
      cases e
      simp only [lim] at hj
      refine ⟨j, by rw [Val.int r], by omega, by omega, k _ _ _ [] s ?_ trivial fun _ => ⟨[], PinsV.top⟩⟩
      have ll : j.toNat ≤ sizeLine := by rw [PySem.sizeLine_eq]; omega
      simpa using walk_rng (G := G) (lo := 0) ll
    · cases e
theorem vi_rng2 {p : Pos} (hg : L2.Gl X "range") (hm : X.mg "range" = none) (hs : notStar a = true) (hs' : notStar b = true) (ha : PE X a (tP T C G Y ea)) (hb : PE X b (tP T C G Y eb)) : PI X tg (.Call (.Name "range" p) [a, b] [] pos) (tI T C G Y (.rng ea eb)) := by
  refine PI_weak (pi_range2 hg hm (va_cons hs ha (va_cons hs' hb va_nil)) (by rw [star_cons hs, star_cons hs']; rfl) (star_cons hs')) fun σ H Rr => ?_
  rintro ⟨F, E, S, h⟩
  simp only [evI] at h
  rw [R.sat_bind] at h
  show tA T C G Y (.cons ea (.cons eb .nil)) σ H fun vs H1 => ∃ i j : Int, vs = [.int i, .int j] ∧ (-(2 ^ 62) ≤ i ∧ i < 2 ^ 62 ∧ -(2 ^ 62) ≤ j ∧ j < 2 ^ 62) ∧ Rr (Itr i (j - i).toNat) H1
  refine ⟨F, E, S, ?_⟩
  simp only [evl]
  rw [R.sat_bind]
  refine R.sat_mono h (fun x q => ?_) fun _ z => z
  rw [R.sat_bind] at q
  rw [R.sat_bind, R.sat_bind]
  refine R.sat_mono q (fun y q => ?_) fun _ z => z
  intro vs H' s r
  obtain ⟨z, e, k⟩ := sat_of q (rng_ne _ _)
  cases r with
  | cons r t =>
    cases t with
    | cons r' t =>
      cases t
      obtain ⟨d, f⟩ := x
      obtain ⟨d', f'⟩ := y
      cases d <;> cases d' <;> simp only [rngV] at e <;> first | cases e | skip
      split at e
      · rename_i hj
        cases e
        simp only [lim] at hj
        refine ⟨_, _, by rw [Val.int r, Val.int r'], ⟨by omega, by omega, by omega, by omega⟩, k _ _ _ _ s (walk_rng ?_) trivial fun _ => ⟨[], PinsV.top⟩⟩
        rw [PySem.sizeLine_eq]
        omega
      · cases e

/-! ### comprehensions -/
theorem wipe_get : ∀ {σ : St} {vs : List Nat} {i : Nat}, i ∉ vs → (wipe σ vs)[i]? = σ[i]?
  | σ, [], i, _ => rfl
  | σ, v :: vs, i, h => by
    unfold wipe
    rw [List.getElem?_set_ne (fun z => h (by rw [z]; exact List.mem_cons_self))]
    exact wipe_get fun z => h (List.mem_cons_of_mem _ z)
theorem wipeE_get : ∀ {E : SEnv} {vs : List Nat} {i : Nat} {s : Slot}, (wipeE E vs)[i]? = some (some s) → E[i]? = some (some s) ∧ i ∉ vs
  | E, [], i, s, h => ⟨h, by simp⟩
  | E, v :: vs, i, s, h => by
    unfold wipeE at h
    rw [List.getElem?_set] at h
    split at h
    · split at h <;> cases h
    · rename_i hv
      obtain ⟨h1, h2⟩ := wipeE_get h
      exact ⟨h1, by simp only [List.mem_cons, not_or]; exact ⟨fun z => hv z.symm, h2⟩⟩
theorem wipeE_len : ∀ {E : SEnv} {vs : List Nat}, (wipeE E vs).length = E.length
  | E, [] => rfl
  | E, v :: vs => by unfold wipeE; rw [List.length_set, wipeE_len]
/-- the frame while a list is made at D -/
abbrev Fr.mk' (F : Fr) (D : Addr) : Fr := { F with ex := fun a => F.ex a ∨ a = D, lk := [] }
theorem cl_mk {F : Fr} {D : Addr} : ∀ n k a, cl (F.mk' D) n k a → cl F n k a := fun n k a ⟨h1, h2⟩ => ⟨fun z => h1 (.inl z), h2⟩
theorem cl_to {F : Fr} {D : Addr} {H : Hp} (hD : H D = none) : ∀ n k a, cl F n k a → H a ≠ none → cl (F.mk' D) n k a := fun n k a ⟨h1, h2⟩ h => ⟨fun z => z.elim h1 fun z => h (by rw [z]; exact hD), h2⟩
theorem Sim.block {F : Fr} {E : SEnv} {σ : St} {H H' : Hp} {D : Addr} (S : Sim G F E σ H) (hD : H D = none) (s : Same H H') (hd : H' D ≠ none) (vs : List Nat) : Sim G (F.mk' D) (wipeE E vs) (wipe σ vs) H' := by
  refine ⟨by rw [wipe_length, wipeE_len]; exact S.len, fun a o h1 h2 => s _ _ (S.ent a o h1 h2), fun i sl h => ?_, fun i j d d' n n' v hij e1 e2 h1 h2 => ?_, (fun p hp => Rep.mono (cl_keep s (cl_to hD)) (Same.imm s) _ _ (S.pin p hp)), fun a h => ?_, fun p hp => by simp at hp⟩
  · obtain ⟨h1, h2⟩ := wipeE_get h
    obtain ⟨v, h3, h4⟩ := S.slot i sl h1
    refine ⟨v, by rw [wipe_get h2]; exact h3, ?_⟩
    cases sl with
    | shr d n => exact Rep.mono (cl_keep s (cl_to hD)) (Same.imm s) d v h4
    | own d n =>
      obtain ⟨a, e, x, o⟩ := h4
      refine ⟨a, e, .inl x, ?_⟩
      cases d with
      | lst ds =>
        obtain ⟨q1, q2, vs, q3, q4, q5⟩ := o
        exact ⟨q1, q2, vs, s _ _ q3, q4, Reps.mono (cl_keep s (cl_to hD)) (Same.imm s) _ _ q5⟩
      | dic ds =>
        obtain ⟨q1, q2, vs, q3, q4, q5⟩ := o
        exact ⟨q1, q2, vs, s _ _ q3, q4, RepK.mono (cl_keep s (cl_to hD)) (Same.imm s) _ _ q5⟩
      | obj c fs =>
        obtain ⟨q2, Ca, dx, ws, q3, q4, q5⟩ := o
        exact ⟨q2, Ca, dx, ws, s _ _ q3, q4, RepF.mono (cl_keep s (cl_to hD)) (Same.imm s) _ _ q5⟩
      | _ => exact o
  · obtain ⟨e1, n1⟩ := wipeE_get e1
    obtain ⟨e2, n2⟩ := wipeE_get e2
    rw [wipe_get n1] at h1
    rw [wipe_get n2] at h2
    exact S.dis i j d d' n n' v hij e1 e2 h1 h2
  · rcases h with (h | h) | h
    · exact fun z => S.exH a (.inl h) (s.free z)
    · rw [h]; exact hd
    · exact fun z => S.exH a (.inr h) (s.free z)
/-- tests of a clause: none, or one -/
structure PTv (T : Tb) (C : Fid → List D → R (D × Bool)) (G : GT) (Y : XK) (X : Cx) (ifs : List Expr) (cond : Ex) : Prop where
  h : PTs X ifs (tT T C G Y cond)
theorem vts_nil : PTv T C G Y X [] (.con (.bl true)) := ⟨⟨fun pins s σ H Q I h => pts_nil.run pins s σ H Q I (by
  obtain ⟨F, E, S, k, e, q⟩ := h
  have e : D.bl true = D.bl k := e
  cases e
  exact q H (Same.refl _))⟩⟩
theorem vts_one (h : PT X c (tT T C G Y ec)) : PTv T C G Y X [c] ec := ⟨pts_one h⟩
abbrev Y0 : XK := fun _ _ _ => False
theorem wish0 {H : Hp} {c : Str} : ¬ wish G Y0 H c := fun h => let ⟨_, _, z⟩ := h H (Same.refl _); z
theorem nox_sat {α : Type} {r : R α} {p : α → Prop} {w : Str → Prop} (h : r.nox.sat p w) : r.sat p (fun _ => False) := by
  cases r with
  | ok a => exact h
  | exc c => exact h.elim
  | bad => exact h.elim
theorem sat_fl {α : Type} {r : R α} {p : α → Prop} {w : Str → Prop} (h : r.sat p fun _ => False) : r.sat p w := R.sat_mono h (fun _ z => z) fun _ z => z.elim
theorem wipe_wipe {σ : St} : ∀ {vs ws : List Nat}, (∀ v ∈ vs, v ∈ ws) → wipe (wipe σ vs) ws = wipe σ ws
  | [], ws, _ => rfl
  | v :: vs, ws, h => by
    show wipe ((wipe σ vs).set v none) ws = wipe σ ws
    rw [wipe_set (h v List.mem_cons_self)]
    exact wipe_wipe fun u hu => h u (List.mem_cons_of_mem _ hu)
/-- a comprehension's reading, from its value -/
theorem comp_core {it : It} {t : Tg} {elt cond : Ex} {own : List Nat} (ho : ∀ j ∈ tgSlots t, j ∈ own) {σ : St} {H : Hp} {Q : VK} (h : tP T C G Y (.comp elt t it cond own) σ H Q) :
    tLc (tI T C G Y it) (tG G t) (tT T C G Y0 cond) (tP T C G Y0 elt) own σ H Q := by
  obtain ⟨F, E, S, h⟩ := h
  simp only [ev] at h
  rw [R.sat_bind] at h
  refine ⟨F, E, S, R.sat_mono h (fun p q => ?_) fun _ z => z⟩
  obtain ⟨ds, n, c⟩ := p
  intro J H1 kp rt s1 W hk hpin L hL
  have S1 := S.same s1
  simp only at q W
  rw [R.sat_bind] at q
  have q := nox_sat q
  have hL' : (upd H1 L (.lst [])) L ≠ none := by rw [upd_same]; simp
  generalize ht : compTurn (fun E => ev T C cond E) (fun E => ev T C elt E) (wipeE E own) t n = turn at q
  have hlen := W.len _ _ hk
  -- what holds of the turns that are left
  let Inv' : Nat → Hp → Prop := fun i H2 => i ≤ ds.length ∧ Same H1 H2 ∧ kp (F.mk' L) H2 ∧ ∃ (acc : List V) (ads : List D) (k : Bool), H2 L = some (.lst acc) ∧ acc.length ≤ i ∧ Reps G (cl (F.mk' L) k) H2 ads acc ∧
    (compV turn (ds.drop i) ads k).sat (fun p => ∀ v H', Post G F H H' (mkL p.1 p.2) v → Q v H') (fun _ => False)
  refine ⟨fun i m H2 => m = ds.length - i ∧ Inv' i H2,
    ⟨ds.length, by simp, Nat.zero_le _, same_upd hL, W.st _ _ _ _ hk (fun a o e _ => same_upd hL a o e) (fun n k a p z => cl_to hL n k a p z), [], [], true, upd_same, Nat.le_refl _, by simp [Reps], q⟩, ?_⟩
  rintro i m H2 ⟨rfl, hi, s2, k2, acc, ads, k, hLa, hal, hr, hq⟩
  by_cases hlt : i < ds.length
  · refine .inr ⟨W.go _ _ _ k2 hlt, Inv' (i + 1), fun H3 h3 => ⟨ds.length - (i + 1), by omega, rfl, h3⟩, fun x H3 y => ?_⟩
    obtain ⟨s3, k3, r3⟩ := W.yld _ _ _ _ _ _ k2 (List.getElem?_eq_getElem hlt) y
    rw [List.drop_eq_getElem_cons hlt] at hq
    simp only [compV] at hq
    rw [R.sat_bind] at hq
    have hL3 : H3 L = some (.lst acc) := s3 _ _ hLa
    have S3 : Sim G (F.mk' L) (wipeE E own) (wipe σ own) H3 := S1.block hL (s2.trans s3) (by rw [hL3]; simp) own
    have et : turn ds[i] = (tgV (wipeE E own) t ds[i] n).bind fun E' => (ev T C cond E').bind fun k => match k.1 with
      | .bl true => (ev T C elt E').bind fun y => if y.2.c then .ok (some (y.1, y.2.n || y.1.imm)) else .bad
      | .bl false => .ok none
      | _ => .bad := by rw [← ht]; rfl
    rw [et, R.sat_bind] at hq
    cases hE : tgV (wipeE E own) t ds[i] n with
    | bad => rw [hE] at hq; exact hq.elim
    | exc c => rw [hE] at hq; exact hq.elim
    | ok E' =>
      rw [hE, R.sat_ok, R.sat_bind] at hq
      refine ⟨F.mk' L, wipeE E own, ds[i], n, S3, (fun p hp => by simp at hp), r3, E', hE, fun σ' S4 hw => ⟨by rw [hw own ho, wipe_wipe fun v hv => hv], F.mk' L, E', S4, R.sat_mono hq (fun kx hq => ?_) fun _ z => z.elim⟩⟩
      obtain ⟨dk, fk⟩ := kx
      cases dk with
      | bl kb =>
        refine ⟨kb, rfl, fun H4 s4 => ?_⟩
        have S5 := S4.same s4
        have keep : ∀ {H5 : Hp}, Same H3 H5 → kp (F.mk' L) H5 := fun {H5} s => W.st _ _ _ _ k3 (fun a o e _ => s a o e) fun n k a p _ => p
        cases kb with
        | true =>
          show tP T C G Y0 elt σ' H4 _
          have hq := R.sat_bind.mp hq
          refine ⟨F.mk' L, E', S5, R.sat_mono hq (fun y hq => ?_) fun _ z => z.elim⟩
          intro v H5 P5
          split at hq
          · rename_i hc
            have hL5 : H5 L = some (.lst acc) := P5.same _ _ (s4 _ _ hL3)
            have hz : acc.length < sizeLine := by omega
            obtain ⟨dy, fy⟩ := y
            have ry := Rep.orI (P5.val.rep hc)
            have sU : ∀ k a o, cl (F.mk' L) k true a → H5 a = some o → cl (F.mk' L) k true a ∧ (upd H5 L (.lst (acc ++ [v]))) a = some o := fun k a o p e => ⟨p, by rw [upd_ne fun z => p.1 (.inr z)]; exact e⟩
            have sV : ∀ k k' a o, cl (F.mk' L) k k' a → H5 a = some o → cl (F.mk' L) k k' a ∧ (upd H5 L (.lst (acc ++ [v]))) a = some o := fun k k' a o p e => ⟨p, by rw [upd_ne fun z => p.1 (.inr z)]; exact e⟩
            have sI : ∀ a o, immO o = true → H5 a = some o → (upd H5 L (.lst (acc ++ [v]))) a = some o := fun a o im e => by
              rw [upd_ne fun z => by rw [z, hL5] at e; cases e; cases im]; exact e
            have r5 : Reps G (cl (F.mk' L) (k && (fy.n || dy.imm))) (upd H5 L (.lst (acc ++ [v]))) (ads ++ [dy]) (acc ++ [v]) := by
              have r6 : Reps G (cl (F.mk' L) k) H5 ads acc := hr.same (s3.trans (s4.trans P5.same))
              exact Reps.mono (sV _) sI _ _ (r6.and (Reps.one ry))
            refine ⟨acc, hL5, hz, hlt, ?_, ?_, acc ++ [v], ads ++ [dy], k && (fy.n || dy.imm), upd_same, by simp; omega, r5, hq⟩
            · intro a o e
              have e5 := (s2.trans (s3.trans (s4.trans P5.same))) a o e
              rw [upd_ne fun z => by rw [z, hL] at e; cases e]; exact e5
            · have k5 := keep (s4.trans P5.same)
              have nrt : L ∉ rt := fun z => W.rtH _ _ _ hk z hL
              refine W.st _ _ _ _ k5 (fun a o e hh => ?_) fun n k a p _ => p
              rw [upd_ne]
              · exact e
              · rintro rfl
                rcases hh with hh | hh | ⟨n', k', hh⟩
                · exact nrt hh
                · rw [hL5] at e; cases e; cases hh
                · exact hh.1 (.inr rfl)
          · exact hq.elim
        | false =>
          show Inv' (i + 1) H4
          exact ⟨hlt, s2.trans (s3.trans s4), keep s4, acc, ads, k, s4 _ _ hL3, by omega, hr.same (s3.trans s4), hq⟩
      | _ => exact hq.elim
  · have e : i = ds.length := by omega
    subst e
    refine .inl ⟨W.stop _ _ _ k2 (Nat.le_refl _), ?_⟩
    rw [List.drop_length] at hq
    simp only [compV] at hq
    have hr' : Reps G (fun k' b => cl F (k || ads.all D.imm) k' b ∧ b ≠ L) H2 ads acc := (hr.orI).weak fun k' a p => ⟨cl_mk _ _ _ p, fun z => p.1 (.inr z)⟩
    refine hq _ _ ⟨s1.trans s2, ?_, fun _ => ⟨fun _ => ⟨rfl, fun a e => by cases e; exact s1.free hL⟩, L, acc, rfl, hLa, by omega, hr'⟩⟩
    show Rep _ _ _ _ _
    simp only [mkL, Rep]
    exact ⟨L, acc, rfl, S1.new hL _ _, hLa, by omega, ((hr.weak (cl_mk _)).orI)⟩
end
end FS

/-! FS9: calls of defs and methods; comprehensions as rules; a set's length; isinstance; count. -/
namespace FS
open PySem L2

section
variable {T : Tb} {C : Fid → List D → R (D × Bool)} {G : GT} {Y : XK} {X : Cx} {a b c o i e tg : Expr} {ea eb ec eo ei ee : Ex} {es : List Expr} {ees : Exs} {pos apos p : Pos}

/-! ### comprehensions -/
theorem ve_comp {elt iter : Expr} {ifs : List Expr} {scope : Scope} {own : List (Str × Nat)} {it : It} {t : Tg} {eelt econd : Ex} (hc : X.calm = true) (hN : X.N.Nodup) (hi : PI X tg iter (tI T C G Y it)) (ok : BlkOk X.N X.env.scope scope own)
    (ho : ∀ j ∈ tgSlots t, j ∈ own.map (·.2))
    (hg : ∀ (s : Shared) (H : Hp) (K : Addr) (cs : List (Str × Addr)) (fp : List Addr), PG (X.blk s H scope (compEnvC scope cs K X.env) fp) tg (tG G t))
    (ht : ∀ (s : Shared) (H : Hp) (K : Addr) (cs : List (Str × Addr)) (fp : List Addr), PTv T C G Y0 (X.blk s H scope (compEnvC scope cs K X.env) fp) ifs econd)
    (he : ∀ (s : Shared) (H : Hp) (K : Addr) (cs : List (Str × Addr)) (fp : List Addr), PE (X.blk s H scope (compEnvC scope cs K X.env) fp) elt (tP T C G Y0 eelt))
    (hs : ∀ x, foldedSetIterable iter X.env x = pure x) : PE X (.ListComp elt [⟨tg, iter, ifs, 0⟩] scope pos) (tP T C G Y (.comp eelt t it econd (own.map (·.2)))) :=
  PE_weak (pe_lc hc hN hi ok hg (fun s H K cs fp => (ht s H K cs fp).h) he hs) fun σ H Q h => comp_core ho h

/-! ### calls -/
/-- where the arguments of a call may lie -/
def argP (F : Fr) (f : Fl) (k : Bool) (a : Addr) : Prop := match f.c with
  | true => cl F f.n k a
  | false => k = true ∨ cl F false false a
theorem Val.arg {F : Fr} {H : Hp} {x : D × Fl} {v : V} (h : Val G F H x v) : Rep G (fun k a => k = true ∨ cl F false false a) H x.1 v := by
  obtain ⟨d, f⟩ := x
  have w : ∀ k a, cl F f.n k a → (k = true ∨ cl F false false a) := fun k a p => by
    cases k with
    | true => exact .inl rfl
    | false => exact .inr (cl_obj p)
  cases hc : f.c with
  | true => exact (h.rep hc).weak w
  | false =>
    cases d with
    | lst ds =>
      obtain ⟨p, vs, rfl, h1, h2, h3⟩ := h.lst
      simp only [Rep]
      exact ⟨p, vs, rfl, .inl trivial, h1, h2, h3.weak w⟩
    | dic ds =>
      obtain ⟨p, vs, rfl, h1, h2, h3⟩ := h.dic
      simp only [Rep]
      exact ⟨p, vs, rfl, .inl trivial, h1, h2, h3.weak w⟩
    | _ => exact (h.clean (by intro _ e; cases e) (by intro _ e; cases e)).weak w
theorem Vals'.args {F : Fr} {H : Hp} {xs : List (D × Fl)} {vs : List V} (h : Vals' G F H vs xs) : Reps G (argP F (cmb xs).2) H (cmb xs).1 vs := by
  unfold argP
  cases hc : (cmb xs).2.c with
  | true => exact cmb_reps h hc
  | false =>
    clear hc
    induction h with
    | nil => simp [cmb, Reps]
    | cons r t ih =>
      simp only [cmb, Reps]
      exact ⟨_, _, rfl, r.arg, ih⟩
/-- what a def promises: its value's lists are new, or (n = false) where the arguments' are -/
def outP (H : Hp) (P : Bool → Addr → Prop) (n : Bool) (k : Bool) (a : Addr) : Prop := H a = none ∨ (P k a ∧ (k = true → n = false))
def spC (G : GT) (C : Fid → List D → R (D × Bool)) (f : Fid) : Sp := fun vs H Q W => ∃ P ds, Reps G P H ds vs ∧ (C f ds).sat (fun q => ∀ v H', Same H H' → Rep G (outP H P q.2) H' q.1 v → (q.2 = true → SepR G (outP H P true) H' q.1 v) → Q v H') (wish G W H)
theorem callF_post {F : Fr} {E : SEnv} {σ : St} {H H' : Hp} {q : D × Bool} {f : Fl} {z : D × Fl} {v : V} (S : Sim G F E σ H) (s : Same H H') (h : Rep G (outP H (argP F f) q.2) H' q.1 v) (hs : q.2 = true → SepR G (outP H (argP F f) true) H' q.1 v) (e : callF q f = .ok z) : Post G F H H' z v := by
  obtain ⟨d, m⟩ := q
  unfold callF at e
  split at e
  · rename_i hc
    cases e
    refine ⟨s, ?_, fun hr => ?_⟩
    · show Rep G (cl F (m || d.imm || f.n)) H' d v
      by_cases hi : d.imm = true
      · refine Rep.imm (fun a o p _ => ?_) d v hi h
        rcases p with p | ⟨p, _⟩
        · exact S.new p _ _
        · unfold argP at p
          split at p
          · exact cl_obj p
          · rcases p with p | p
            · cases p
            · exact cl_obj p
      · have hi : d.imm = false := by simpa using hi
        rw [hi, Bool.or_false] at hc ⊢
        refine h.weak fun k a p => ?_
        rcases p with p | ⟨p, hk⟩
        · exact S.new p _ _
        · unfold argP at p
          split at p
          · rename_i hfc
            cases k with
            | false => exact cl_obj p
            | true =>
              have : m = false := hk rfl
              subst this
              simpa using p
          · rename_i hfc
            rcases p with p | p
            · subst p
              have hm : m = false := hk rfl
              rw [hm, hfc] at hc
              cases hc
            · cases k with
              | false => exact cl_obj p
              | true =>
                have hm : m = false := hk rfl
                rw [hm, hfc] at hc
                cases hc
    · have hm : m = true := hr
      subst hm
      refine ⟨fun hd => ⟨rfl, fun a ea => ?_⟩, ?_⟩
      · subst ea
        cases d <;> simp only [D.isL] at hd <;> first | cases hd | skip
        · simp only [Rep] at h
          obtain ⟨a', _, e', p, _⟩ := h
          cases e'
          rcases p with p | ⟨_, p⟩
          · exact p
          · cases p rfl
        · simp only [Rep] at h
          obtain ⟨a', _, e', p, _⟩ := h
          cases e'
          rcases p with p | ⟨_, p⟩
          · exact p
          · cases p rfl
      · have hs := hs rfl
        have w : ∀ k b, outP H (argP F f) true k b → cl F (true || d.imm || f.n) k b := fun k b p => by
          rcases p with p | ⟨p, hk⟩
          · exact S.new p _ _
          · cases k with
            | true => cases hk rfl
            | false =>
              unfold argP at p
              split at p
              · exact cl_obj p
              · rcases p with p | p
                · cases p
                · exact cl_obj p
        cases d with
        | lst ds =>
          obtain ⟨a, vs, h1, h2, h3, h4⟩ := hs
          exact ⟨a, vs, h1, h2, h3, h4.weak fun k b p => ⟨w k b p.1, p.2⟩⟩
        | dic ds =>
          obtain ⟨a, vs, h1, h2, h3, h4⟩ := hs
          exact ⟨a, vs, h1, h2, h3, h4.weak fun k b p => ⟨w k b p.1, p.2⟩⟩
        | _ => trivial
  · cases e
theorem callF_ne (q : D × Bool) (f : Fl) (c : Str) : callF q f ≠ .exc c := by
  unfold callF
  split <;> intro e <;> cases e
section
variable {CX : CXT} {k : Nat} {f : Addr} {fd : FuncData} {ps : List Str} {x m : Str} {fid : Fid}
/-- f(e, ..) -/
theorem ve_call (Fo : FnOk X.prog X.w X.K X.mg X.base CX k f fd ps (spC G C fid)) (hr : Room k X.A) (hg : L2.Gl X x) (hm : X.mg x = some (.ref f)) (hk : PySem.W.keepIn X.K (.ref f) = true) (hb : Binds X.K fd ps []) (hx : Passes CX X Y)
    (hd : (x == ("__debug__" : Str)) = false) (hs : (e :: es).all notStar = true) (ha : PA X (e :: es) (tA T C G Y ees)) : PE X (.Call (.Name x p) (e :: es) [] pos) (tP T C G Y (.call fid ees)) := by
  rw [List.all_cons, Bool.and_eq_true] at hs
  refine PE_weak (pe_call Fo hr hg hm hk hb .nil hx ha hd (star_cons hs.1) (star_any hs.2)) fun σ H Q ⟨F, E, S, h⟩ => ?_
  simp only [ev] at h
  show tA T C G Y ees σ H fun vs H1 => spC G C fid (vs ++ []) H1 Q Y
  refine tA_bind S h fun xs vs H1 s1 r1 S1 h1 => ?_
  rw [List.append_nil]
  rw [R.sat_bind] at h1
  refine ⟨_, _, r1.args, R.sat_mono h1 (fun q h2 v H' s r rs => ?_) fun _ z => z⟩
  obtain ⟨z, e, k⟩ := sat_of h2 (callF_ne _ _)
  exact k _ _ (Post.trans s1 (callF_post S1 s r rs e))
/-- f() -/
theorem ve_call0 (Fo : FnOk X.prog X.w X.K X.mg X.base CX k f fd ps (spC G C fid)) (hr : Room k X.A) (hg : L2.Gl X x) (hm : X.mg x = some (.ref f)) (hk : PySem.W.keepIn X.K (.ref f) = true) (hb : Binds X.K fd ps []) (hx : Passes CX X Y)
    (hd : (x == ("__debug__" : Str)) = false) : PE X (.Call (.Name x p) [] [] pos) (tP T C G Y (.call fid .nil)) := by
  refine PE_weak (pe_call0 Fo hr hg hm hk hb .nil hx hd) fun σ H Q ⟨F, E, S, h⟩ => ?_
  simp only [ev, evl] at h
  show spC G C fid ([] ++ []) H Q Y
  have h : ((C fid (cmb []).1).bind fun q => callF q (cmb []).2).sat _ _ := h
  rw [R.sat_bind] at h
  refine ⟨argP F (cmb []).2, _, by simp [cmb, Reps], R.sat_mono h (fun q h2 v H' s r rs => ?_) fun _ z => z⟩
  obtain ⟨z, e, k⟩ := sat_of h2 (callF_ne _ _)
  exact k _ _ (callF_post S s r rs e)
theorem PE_ex {ι : Type} {t' : TE} {t : ι → TE} (h : ∀ i, PE X e (t i)) (w : ∀ σ H Q, t' σ H Q → ∃ i, t i σ H Q) : PE X e t' := ⟨fun pins s σ H Q I q => by
  obtain ⟨i, q⟩ := w σ H Q q
  exact (h i).run pins s σ H Q I q⟩
/-- what is known of a method m, class by class -/
structure MethF (T : Tb) (C : Fid → List D → R (D × Bool)) (G : GT) (P : Program) (w : World) (mg : Str → Option Value) (base : Heap) (CX : CXT) (k : Nat) (m c b : Str) (Ca : Addr) : Prop where
  cls : Cls G.K Ca
  ex : ∃ f fd ps, Meth G.K Ca m f ∧ FnOk P w G.K mg base CX k f fd ps (spC G C (.me b m)) ∧ Binds G.K fd ps []
theorem RepF.none {P : Bool → Addr → Prop} {H : Hp} : ∀ {fs : List (Str × D)} {ws : List (Str × V)} {m : Str}, RepF G P H fs ws → fs.lookup m = none → ws.lookup m = none
  | [], _, _, h, _ => by simp only [RepF] at h; subst h; rfl
  | (k, d) :: fs, _, m, h, e => by
    simp only [RepF] at h
    obtain ⟨v, r, rfl, p, q⟩ := h
    rw [List.lookup_cons] at e ⊢
    cases hb : m == k with
    | true => rw [hb] at e; cases e
    | false => rw [hb] at e; exact RepF.none q e
/-- o.m(e, ..): the class by the value -/
theorem ve_mth (hK : X.K = G.K) (hM : ∀ c Ca b, G.cls c = some Ca → T.mro c m = some b → MethF T C G X.prog X.w X.mg X.base CX k m c b Ca) (hC : ∀ c b, T.mro c m = some b → ∃ Ca, G.cls c = some Ca) (h0 : ∃ c b, T.mro c m = some b) (hr : Room k X.A) (hx : Passes CX X Y)
    {pl : Sem Bool} (ho : PE X o (tP T C G Y eo)) (hs : (e :: es).all notStar = true) (ha : PA X (e :: es) (tA T C G Y ees))
    (ht : eval (.Call (.Attribute o m apos) (e :: es) [] pos) X.env = (do
      let ov ← eval o X.env
      standAt apos.atName
      let (f, first) ← holding [ov] (getMethod ov m pl)
      callWith pos f first (backTo pos (starEach (e :: es) X.env)) (backToKw pos (keywordEach [] X.env)))) : PE X (.Call (.Attribute o m apos) (e :: es) [] pos) (tP T C G Y (.mth eo m ees)) := by
  rw [List.all_cons, Bool.and_eq_true] at hs
  let ι := { x : Str × Addr × Str // G.cls x.1 = some x.2.1 ∧ T.mro x.1 m = some x.2.2 }
  refine PE_ex (ι := ι) (t := fun x => tMeth x.1.2.1 m (spC G C (.me x.1.2.2 m)) [] Y (tP T C G Y eo) (tA T C G Y ees)) (fun x => ?_) fun σ H Q => ?_
  · obtain ⟨⟨c, Ca, b⟩, h1, h2⟩ := x
    have MF := hM c Ca b h1 h2
    obtain ⟨f, fd, ps, me, fo, bi⟩ := MF.ex
    have cl := MF.cls
    rw [← hK] at me fo bi cl
    exact pe_meth (pl := pl) ho cl me fo hr bi .nil hx ha (star_cons hs.1) (star_any hs.2) ht
  · rintro ⟨F, E, S, h⟩
    simp only [ev] at h
    cases q : ev T C eo E with
    | bad => rw [q] at h; exact h.elim
    | exc cc =>
      rw [q] at h
      obtain ⟨c, b, g2⟩ := h0
      obtain ⟨Ca, g1⟩ := hC c b g2
      refine ⟨⟨(c, Ca, b), g1, g2⟩, F, E, S, ?_⟩
      rw [q]
      exact h
    | ok x =>
      rw [q] at h
      obtain ⟨d, fl⟩ := x
      have h : ((mthC T m d).bind fun b => (evl T C ees E).bind fun xs => (C (.me b m) (d :: (cmb xs).1)).bind fun q => callF q (cmb ((d, fl) :: xs)).2).sat _ (wish G Y H) := h
      cases hd : mthC T m d with
      | bad => rw [hd] at h; exact h.elim
      | exc cc =>
        exfalso
        unfold mthC at hd
        split at hd <;> first | cases hd | (split at hd <;> cases hd)
      | ok b =>
        rw [hd] at h
        have h : ((evl T C ees E).bind fun xs => (C (.me b m) (d :: (cmb xs).1)).bind fun q => callF q (cmb ((d, fl) :: xs)).2).sat _ (wish G Y H) := h
        obtain ⟨c, fs, rfl, hl, g2⟩ : ∃ c fs, d = .obj c fs ∧ fs.lookup m = none ∧ T.mro c m = some b := by
          unfold mthC at hd
          split at hd
          · split at hd
            · rename_i h1 h2
              cases hd
              exact ⟨_, _, rfl, h1, h2⟩
            · cases hd
          · cases hd
        obtain ⟨Ca, g1⟩ := hC c b g2
        refine ⟨⟨(c, Ca, b), g1, g2⟩, F, E, S, ?_⟩
        rw [q]
        intro v H1 P1
        have S1 := S.same P1.same
        have rx := P1.val.clean (by intro _ e; cases e) (by intro _ e; cases e)
        have rx' := rx
        simp only [Rep] at rx'
        obtain ⟨ad, Cd, dx, ws, rfl, q0, q1, q2, q3⟩ := rx'
        rw [g1] at q2
        cases q2
        rw [R.sat_bind] at h
        refine ⟨ad, dx, ws, rfl, q1, q3.none hl, F, E, S1, R.sat_mono h (fun xs hq vs H2 s2 r2 => ?_) fun c z => z.same P1.same⟩
        rw [R.sat_bind] at hq
        rw [List.append_nil]
        have S2 := S1.same s2
        have r3 : Vals' G F H2 (.ref ad :: vs) ((.obj c fs, fl) :: xs) := .cons (P1.val.same s2) r2
        refine ⟨_, _, r3.args, R.sat_mono hq (fun q h3 v H' s r rs => ?_) fun c z => z.same (P1.same.trans s2)⟩
        obtain ⟨z, e, k⟩ := sat_of h3 (callF_ne _ _)
        exact k _ _ (Post.trans (P1.same.trans s2) (callF_post S2 s r rs e))
/-- o.m() -/
theorem ve_mth0 (hK : X.K = G.K) (hM : ∀ c Ca b, G.cls c = some Ca → T.mro c m = some b → MethF T C G X.prog X.w X.mg X.base CX k m c b Ca) (hC : ∀ c b, T.mro c m = some b → ∃ Ca, G.cls c = some Ca) (h0 : ∃ c b, T.mro c m = some b) (hr : Room k X.A) (hx : Passes CX X Y)
    {pl : Sem Bool} (ho : PE X o (tP T C G Y eo))
    (ht : eval (.Call (.Attribute o m apos) [] [] pos) X.env = (do
      let ov ← eval o X.env
      standAt apos.atName
      let (f, first) ← holding [ov] (getMethod ov m pl)
      callWith pos f first (backTo pos (starEach [] X.env)) (backToKw pos (keywordEach [] X.env)))) : PE X (.Call (.Attribute o m apos) [] [] pos) (tP T C G Y (.mth eo m .nil)) := by
  let ι := { x : Str × Addr × Str // G.cls x.1 = some x.2.1 ∧ T.mro x.1 m = some x.2.2 }
  refine PE_ex (ι := ι) (t := fun x => tMeth x.1.2.1 m (spC G C (.me x.1.2.2 m)) [] Y (tP T C G Y eo) tNil) (fun x => ?_) fun σ H Q => ?_
  · obtain ⟨⟨c, Ca, b⟩, h1, h2⟩ := x
    have MF := hM c Ca b h1 h2
    obtain ⟨f, fd, ps, me, fo, bi⟩ := MF.ex
    have cl := MF.cls
    rw [← hK] at me fo bi cl
    exact pe_meth0 (pl := pl) ho cl me fo hr bi .nil hx ht
  · rintro ⟨F, E, S, h⟩
    simp only [ev, evl] at h
    cases q : ev T C eo E with
    | bad => rw [q] at h; exact h.elim
    | exc cc =>
      rw [q] at h
      obtain ⟨c, b, g2⟩ := h0
      obtain ⟨Ca, g1⟩ := hC c b g2
      refine ⟨⟨(c, Ca, b), g1, g2⟩, F, E, S, ?_⟩
      rw [q]
      exact h
    | ok x =>
      rw [q] at h
      obtain ⟨d, fl⟩ := x
      have h : ((mthC T m d).bind fun b => (C (.me b m) (d :: (cmb []).1)).bind fun q => callF q (cmb [(d, fl)]).2).sat _ (wish G Y H) := h
      cases hd : mthC T m d with
      | bad => rw [hd] at h; exact h.elim
      | exc cc =>
        exfalso
        unfold mthC at hd
        split at hd <;> first | cases hd | (split at hd <;> cases hd)
      | ok b =>
        rw [hd] at h
        have h : ((C (.me b m) (d :: (cmb []).1)).bind fun q => callF q (cmb [(d, fl)]).2).sat _ (wish G Y H) := h
        obtain ⟨c, fs, rfl, hl, g2⟩ : ∃ c fs, d = .obj c fs ∧ fs.lookup m = none ∧ T.mro c m = some b := by
          unfold mthC at hd
          split at hd
          · split at hd
            · rename_i h1 h2
              cases hd
              exact ⟨_, _, rfl, h1, h2⟩
            · cases hd
          · cases hd
        obtain ⟨Ca, g1⟩ := hC c b g2
        refine ⟨⟨(c, Ca, b), g1, g2⟩, F, E, S, ?_⟩
        rw [q]
        intro v H1 P1
        have S1 := S.same P1.same
        have rx := P1.val.clean (by intro _ e; cases e) (by intro _ e; cases e)
        have rx' := rx
        simp only [Rep] at rx'
        obtain ⟨ad, Cd, dx, ws, rfl, q0, q1, q2, q3⟩ := rx'
        rw [g1] at q2
        cases q2
        rw [R.sat_bind] at h
        refine ⟨ad, dx, ws, rfl, q1, q3.none hl, ?_⟩
        show spC G C (.me b m) (.ref ad :: ([] ++ [])) H1 Q Y
        have r3 : Vals' G F H1 [.ref ad] [(.obj c fs, fl)] := .cons P1.val .nil
        refine ⟨_, _, r3.args, R.sat_mono h (fun q h3 v H' s r rs => ?_) fun c z => z.same P1.same⟩
        obtain ⟨z, e, k⟩ := sat_of h3 (callF_ne _ _)
        exact k _ _ (Post.trans P1.same (callF_post S1 s r rs e))
end
end
end FS

/-! FS10: statements. -/
namespace FS
open PySem L2

/-- what does not change of a frame -/
structure Bs where
  P : Bool → Addr → Prop
  H0 : Hp
  self : Option Addr
  pin : List (D × V × Bool)
  lk : List (Nat × Addr × List D × Bool)
abbrev Bs.fr (B : Bs) (ex : Addr → Prop) : Fr := ⟨B.P, B.H0, B.self, ex, B.pin, B.lk⟩
/-- the locked slots -/
abbrev Bs.L (B : Bs) : List Nat := B.lk.map (·.1)
def EntB (B : Bs) (H' : Hp) : Prop := ∀ a o, B.self ≠ some a → B.H0 a = some o → H' a = some o
def wishB (G : GT) (Y : XK) (B : Bs) (c : Str) : Prop := ∀ H', EntB B H' → ∃ Ca, G.ecls c = some Ca ∧ Y (.ref Ca) none H'
/-- without the locks -/
abbrev Bs.un (B : Bs) : Bs := { B with lk := [] }
def SPo (G : GT) (B : Bs) (D : Ends) : Fw → Prop
  | .nx E' => ∀ ex σ' H', Sim G (B.fr ex) E' σ' H' → D.nx σ' H'
  | .rt d n => ∀ v H', EntB B H' → Rep G (outP B.H0 B.P n) H' d v → (n = true → SepR G (outP B.H0 B.P true) H' d v) → D.rt v H'
section
variable (T : Tb) (W : Nat) (C : Fid → List D → R (D × Bool)) (G : GT) (Y : XK)
def tS (B : Bs) (s : Sx) : TS := fun D σ H => ∃ ex E, Sim G (B.fr ex) E σ H ∧ (exec T W C s B.L E).sat (SPo G B D) (wishB G Y B)
def tSs (B : Bs) (s : Sxs) : TS := fun D σ H => ∃ ex E, Sim G (B.fr ex) E σ H ∧ (execs T W C s B.L E).sat (SPo G B D) (wishB G Y B)
end

section
variable {T : Tb} {W : Nat} {C : Fid → List D → R (D × Bool)} {G : GT} {Y : XK} {X : Cx} {B : Bs} {ex : Addr → Prop} {E : SEnv} {σ : St} {H H' : Hp} {a b c o i e tg : Expr} {ea eb ec eo ei ee : Ex} {es : List Expr} {ees : Exs} {pos apos p : Pos} {D' : Ends}
theorem Sim.entB (S : Sim G (B.fr ex) E σ H) (s : Same H H') : EntB B H' := fun a o h1 h2 => s a o (S.ent a o h1 h2)
theorem Sim.wish (S : Sim G (B.fr ex) E σ H) {c : Str} (h : wishB G Y B c) : wish G Y H c := fun H' s => h H' (S.entB s)
/-- an expression, then something -/
theorem st_bind {β : Type} {f : D × Fl → R β} {q : β → Prop} (S : Sim G (B.fr ex) E σ H) (h : ((ev T C ea E).bind f).sat q (wishB G Y B)) {Q : VK}
    (k : ∀ x v H', Post G (B.fr ex) H H' x v → Sim G (B.fr ex) E σ H' → (f x).sat q (wishB G Y B) → Q v H') : tP T C G Y ea σ H Q := by
  rw [R.sat_bind] at h
  exact ⟨_, E, S, R.sat_mono h (fun x q v H' P => k x v H' P (S.same P.same) q) fun c z => S.wish z⟩
theorem stT_bind {β : Type} {f : Bool → R β} {q : β → Prop} (S : Sim G (B.fr ex) E σ H) (h : ((ev T C ea E).bind fun x => boolR x f).sat q (wishB G Y B)) {Q : Bool → Hp → Prop}
    (k : ∀ b H', Sim G (B.fr ex) E σ H' → (f b).sat q (wishB G Y B) → Q b H') : tT T C G Y ea σ H Q := by
  rw [R.sat_bind] at h
  refine ⟨_, E, S, R.sat_mono h (fun x q => ?_) fun c z => S.wish z⟩
  obtain ⟨d, fl⟩ := x
  cases d <;> simp only [boolR] at q <;> first | exact q.elim | skip
  exact ⟨_, rfl, fun H' s => k _ H' (S.same s) q⟩

/-! ### own lists given up -/
theorem Reps.weakEx {F F' : Fr} {n : Bool} {ds : List D} {vs : List V} (h : Reps G (cl F n) H ds vs) (w : ∀ n k a, cl F n k a → cl F' n k a) : Reps G (cl F' n) H ds vs := h.weak (w n)
theorem lkB_no {is : List Nat} (h : lkB B.L is = true) : ∀ i ∈ is, ∀ p ∈ B.lk, p.1 ≠ i := fun i hi p hp z => by
  have := List.all_eq_true.mp h i hi
  simp only [Bool.not_eq_true', List.contains_eq_mem, decide_eq_false_iff_not] at this
  exact this (List.mem_map.mpr ⟨p, hp, z⟩)
theorem lkB_app {L is js : List Nat} (h : lkB L (is ++ js) = true) : lkB L is = true ∧ lkB L js = true := by
  unfold lkB at h ⊢
  rw [List.all_append, Bool.and_eq_true] at h
  exact h
theorem lkB_cons {L is : List Nat} {i : Nat} (h : lkB L (i :: is) = true) : lkB L [i] = true ∧ lkB L is = true := lkB_app (is := [i]) h
theorem Sim.frz1 {ex : Addr → Prop} (S : Sim G (B.fr ex) E σ H) (i : Nat) (hl : ∀ p ∈ B.lk, p.1 ≠ i) : ∃ ex', Sim G (B.fr ex') (FS.frz1 E i) σ H := by
  have main : ∀ (d : D) (n : Bool), d.isL = true → E[i]? = some (some (.own d n)) → ∃ ex', Sim G (B.fr ex') (E.set i (some (.shr d n))) σ H := by
    intro d n hd he
    obtain ⟨v, hv, a, rfl, ha, ho⟩ := S.slot i _ he
    have w : ∀ n k b, cl (B.fr ex) n k b → cl (B.fr fun b => ex b ∧ b ≠ a) n k b := fun n k b ⟨h1, h2⟩ => ⟨fun z => h1 z.1, h2⟩
    have own : ∀ (dd : D) (b : Addr) (m : Bool), OwnR G (B.fr ex) H m b dd → OwnR G (B.fr fun b => ex b ∧ b ≠ a) H m b dd := by
      intro dd b m h
      cases dd with
      | lst ds => obtain ⟨h1, h2, vs, h3, h4, h5⟩ := h; exact ⟨h1, h2, vs, h3, h4, h5.weak (w m)⟩
      | dic ds => obtain ⟨h1, h2, vs, h3, h4, h5⟩ := h; exact ⟨h1, h2, vs, h3, h4, h5.weak (w m)⟩
      | obj c fs => obtain ⟨h2, Ca, dx, ws, h3, h4, h5⟩ := h; exact ⟨h2, Ca, dx, ws, h3, h4, RepF.mono (fun k b o p e => ⟨w m k b p, e⟩) (fun _ _ _ e => e) _ _ h5⟩
      | _ => exact h
    refine ⟨fun b => ex b ∧ b ≠ a, by simp [S.len], S.ent, fun j s e => ?_, fun j k d1 d2 n1 n2 w' hjk e1 e2 h1 h2 => ?_, fun q hq => (S.pin q hq).weak (w _), fun b h => S.exH b (h.imp And.left id), fun p hp => by
      rw [List.getElem?_set_ne (hl p hp).symm]
      exact S.lk p hp⟩
    · rw [List.getElem?_set] at e
      split at e
      · rename_i hij
        subst hij
        split at e
        · cases e
          refine ⟨.ref a, hv, ?_⟩
          cases d with
          | lst ds =>
            obtain ⟨h1, h2, vs, h3, h4, h5⟩ := ho
            show Rep _ _ _ _ _
            simp only [Rep]
            exact ⟨a, vs, rfl, ⟨fun z => z.2 rfl, .inl h1⟩, h3, h4, h5.weak (w n)⟩
          | dic ds =>
            obtain ⟨h1, h2, vs, h3, h4, h5⟩ := ho
            show Rep _ _ _ _ _
            simp only [Rep]
            exact ⟨a, vs, rfl, ⟨fun z => z.2 rfl, .inl h1⟩, h3, h4, h5.weak (w n)⟩
          | _ => cases hd
        · cases e
      · rename_i hij
        obtain ⟨u, e1, e2⟩ := S.slot j s e
        refine ⟨u, e1, ?_⟩
        cases s with
        | shr d1 n1 => exact Rep.weak (w n1) e2
        | own d1 n1 =>
          obtain ⟨b, rfl, hb, hob⟩ := e2
          refine ⟨b, rfl, ⟨hb, fun z => ?_⟩, own _ _ _ hob⟩
          subst z
          exact S.dis i j d d1 n n1 (.ref b) hij he e hv e1
    · rw [List.getElem?_set] at e1 e2
      split at e1
      · split at e1 <;> cases e1
      · split at e2
        · split at e2 <;> cases e2
        · exact S.dis j k d1 d2 n1 n2 w' hjk e1 e2 h1 h2
  unfold FS.frz1
  split
  · rename_i he; exact main _ _ rfl he
  · rename_i he; exact main _ _ rfl he
  · exact ⟨ex, S⟩
theorem Sim.frz : ∀ (is : List Nat) {ex : Addr → Prop} {E : SEnv}, Sim G (B.fr ex) E σ H → lkB B.L is = true → ∃ ex', Sim G (B.fr ex') (FS.frz E is) σ H
  | [], ex, E, S, _ => ⟨ex, S⟩
  | i :: is, ex, E, S, h => by
    obtain ⟨ex1, S1⟩ := S.frz1 i (lkB_no h i List.mem_cons_self)
    exact Sim.frz is S1 (lkB_cons h).2
/-- a new own list, dict -/
theorem Sim.own {d : D} {n : Bool} {a : Addr} (S : Sim G (B.fr ex) E σ H) (s : Same H H') (hn : H a = none) (hd : d.isL = true) (h : SepR G (cl (B.fr ex) n) H' d (.ref a)) (i : Nat) (hl : ∀ p ∈ B.lk, p.1 ≠ i) :
    ∃ ex', Sim G (B.fr ex') (E.set i (some (.own d n))) (σ.set i (some (.ref a))) H' := by
  have ha : H' a ≠ none := by
    cases d with
    | lst ds => obtain ⟨b, vs, e, h1, _⟩ := h; cases e; rw [h1]; simp
    | dic ds => obtain ⟨b, vs, e, h1, _⟩ := h; cases e; rw [h1]; simp
    | _ => cases hd
  have S0 := S.block hn s ha []
  have S1 : Sim G (B.fr fun b => ex b ∨ b = a) E σ H' := ⟨S0.len, S0.ent, S0.slot, S0.dis, S0.pin, S0.exH, S.lk⟩
  have h0 : B.H0 a = none := by
    rcases (S.new hn false true).2 with z | z
    · exact z
    · cases q : B.H0 a with
      | none => rfl
      | some o =>
        have := S.ent a o (fun z => S.exH a (.inr z) hn) q
        rw [hn] at this
        cases this
  refine ⟨fun b => ex b ∨ b = a, by simp [S1.len], S1.ent, fun j sl e => ?_, fun j k d1 d2 n1 n2 w' hjk e1 e2 h1 h2 => ?_, S1.pin, S1.exH, fun p hp => by
    rw [List.getElem?_set_ne (hl p hp).symm, List.getElem?_set_ne (hl p hp).symm]
    exact S.lk p hp⟩
  · rw [List.getElem?_set] at e
    split at e
    · rename_i hij
      subst hij
      split at e
      · rename_i hl
        cases e
        refine ⟨.ref a, by rw [List.getElem?_set_self (by rw [S1.len]; exact hl)], a, rfl, .inr rfl, ?_⟩
        have w : ∀ k b, cl (B.fr ex) n k b ∧ b ≠ a → cl (B.fr fun b => ex b ∨ b = a) n k b := fun k b ⟨⟨p1, p2⟩, p3⟩ => ⟨fun z => z.elim p1 p3, p2⟩
        cases d with
        | lst ds =>
          obtain ⟨b, vs, e, h1, h2, h3⟩ := h
          cases e
          exact ⟨h0, fun z => S.exH a (.inr z) hn, vs, h1, h2, h3.weak w⟩
        | dic ds =>
          obtain ⟨b, vs, e, h1, h2, h3⟩ := h
          cases e
          exact ⟨h0, fun z => S.exH a (.inr z) hn, vs, h1, h2, h3.weak w⟩
        | _ => cases hd
      · cases e
    · rename_i hij
      obtain ⟨u, e1, e2⟩ := S1.slot j sl e
      exact ⟨u, by rw [List.getElem?_set_ne hij]; exact e1, e2⟩
  · rw [List.getElem?_set] at e1 e2
    -- an older own object stands elsewhere
    have old : ∀ (m : Nat) (d3 : D) (n3 : Bool), E[m]? = some (some (.own d3 n3)) → σ[m]? ≠ some (some (.ref a)) := by
      intro m d3 n3 e3 z
      obtain ⟨v, e4, b, rfl, hb, hob⟩ := S.slot m _ e3
      rw [z] at e4
      cases e4
      exact S.exH a (.inl hb) hn
    split at e1
    · rename_i hj
      subst hj
      split at e1
      · rename_i hl
        rw [List.getElem?_set_self (by rw [S1.len]; exact hl)] at h1
        cases h1
        split at e2
        · rename_i hk; exact absurd hk hjk
        · rename_i hk
          rw [List.getElem?_set_ne hk] at h2
          exact old k _ _ e2 h2
      · cases e1
    · rename_i hj
      rw [List.getElem?_set_ne hj] at h1
      split at e2
      · rename_i hk
        subst hk
        split at e2
        · rename_i hl
          rw [List.getElem?_set_self (by rw [S1.len]; exact hl)] at h2
          cases h2
          exact old j _ _ e1 h1
        · cases e2
      · rename_i hk
        rw [List.getElem?_set_ne hk] at h2
        exact S1.dis j k d1 d2 n1 n2 w' hjk e1 e2 h1 h2
/-- name = value -/
theorem asg_ok {x : D × Fl} {v : V} {i : Nat} (hl : ∀ p ∈ B.lk, p.1 ≠ i) (S : Sim G (B.fr ex) E σ H) (P : Post G (B.fr ex) H H' x v) (h : (asgV E i x).sat (SPo G B D') (wishB G Y B)) : D'.nx (σ.set i (some v)) H' := by
  obtain ⟨d, f⟩ := x
  have sh : f.c = true → (∀ ex σ' H', Sim G (B.fr ex) (E.set i (some (.shr d f.n))) σ' H' → D'.nx σ' H') → D'.nx (σ.set i (some v)) H' := fun hc q =>
    q _ _ _ ((S.same P.same).set (P.val.rep hc) i hl)
  have ow : d.isL = true → f.r = true → (∀ ex σ' H', Sim G (B.fr ex) (E.set i (some (.own d f.n))) σ' H' → D'.nx σ' H') → D'.nx (σ.set i (some v)) H' := fun hd hr q => by
    obtain ⟨h1, h2⟩ := P.new hr
    obtain ⟨hc, hn⟩ := h1 hd
    obtain ⟨a, rfl⟩ : ∃ a, v = .ref a := by
      cases d with
      | lst ds => obtain ⟨a, _, e, _⟩ := h2; exact ⟨a, e⟩
      | dic ds => obtain ⟨a, _, e, _⟩ := h2; exact ⟨a, e⟩
      | _ => cases hd
    obtain ⟨ex', S'⟩ := S.own P.same (hn a rfl) hd h2 i hl
    exact q _ _ _ S'
  cases d <;> simp only [asgV] at h
  case lst ds =>
    split at h
    · rename_i hr; exact ow rfl hr h
    · split at h
      · rename_i hc; exact sh hc h
      · exact h.elim
  case dic ds =>
    split at h
    · rename_i hr; exact ow rfl hr h
    · split at h
      · rename_i hc; exact sh hc h
      · exact h.elim
  all_goals
    split at h
    · rename_i hc; exact sh hc h
    · exact h.elim
theorem vs_asg {i : Nat} {x : Str} {p' : Pos} (hN : X.N.Nodup) (hi : X.N[i]? = some x) (hx : Loc X.env.scope x) (he : PE X e (tP T C G Y ee)) (hs : swapsWith e (some (.Name x p')) pos.line X.env = pure false) (hf : X.fn x = true ∨ X.env.scope.names.lookup x = some .local) :
    PS X (.Assign [.Name x p'] e pos) (tS T W C G Y B (.asg i ee)) := by
  refine PS_weak (ps_set hN hi hx he hs hf) fun D' σ H => ?_
  rintro ⟨ex, E, S, h⟩
  simp only [exec] at h
  split at h
  · rename_i hlk
    obtain ⟨ex1, S1⟩ := S.frz (esc ee) (lkB_cons hlk).2
    rw [R.sat_bind] at h
    exact ⟨_, _, S1, R.sat_mono h (fun x q v H' P => asg_ok (lkB_no hlk i List.mem_cons_self) S1 P q) fun c z => S1.wish z⟩
  · exact h.elim

/-! ### blocks, branches, loops -/
theorem vs_nil : PSs X [] (tSs T W C G Y B .nil) := PSs_weak pss_nil fun D' σ H ⟨ex, E, S, h⟩ => by
  simp only [execs] at h
  exact h _ _ _ S
theorem vs_cons {st : Stmt} {rest : List Stmt} {s : Sx} {ss : Sxs} (h1 : PS X st (tS T W C G Y B s)) (h2 : PSs X rest (tSs T W C G Y B ss)) : PSs X (st :: rest) (tSs T W C G Y B (.cons s ss)) := by
  refine PSs_weak (pss_cons h1 h2) fun D' σ H => ?_
  rintro ⟨ex, E, S, h⟩
  simp only [execs] at h
  rw [R.sat_bind] at h
  refine ⟨ex, E, S, R.sat_mono h (fun f q => ?_) fun _ z => z⟩
  cases f with
  | nx E' => exact fun ex' σ' H' S' => ⟨ex', E', S', q⟩
  | rt d n => exact q
theorem vs_ite {ss ss' : List Stmt} {s s' : Sxs} (hc : PT X c (tT T C G Y ec)) (ha : PSs X ss (tSs T W C G Y B s)) (hb : PSs X ss' (tSs T W C G Y B s')) : PS X (.If c ss ss' pos) (tS T W C G Y B (.ite ec s s')) := by
  refine PS_weak (ps_if hc ha hb) fun D' σ H => ?_
  rintro ⟨ex, E, S, h⟩
  simp only [exec] at h
  refine stT_bind S h fun k H1 S1 h1 => ?_
  cases k with
  | true => exact ⟨ex, E, S1, h1⟩
  | false => exact ⟨ex, E, S1, h1⟩
theorem vs_pass : PS X (.Pass pos) (tS T W C G Y B .pass) := PS_weak ps_pass fun D' σ H ⟨ex, E, S, h⟩ => by
  simp only [exec] at h
  exact h _ _ _ S
theorem vs_expr (he : PE X e (tP T C G Y ee)) (hs : swapsWith e none pos.line X.env = pure false) : PS X (.Expr e pos) (tS T W C G Y B (.expr ee)) := by
  refine PS_weak (ps_expr he hs) fun D' σ H => ?_
  rintro ⟨ex, E, S, h⟩
  simp only [exec] at h
  exact st_bind S h fun x v H1 P1 S1 h1 => h1 _ _ _ S1
theorem outP_cl {n k : Bool} {a : Addr} (h : cl (B.fr ex) n k a) : outP B.H0 B.P n k a := h.2
/-- what an expression's value is worth as a return -/
theorem Sim.un (S : Sim G (B.fr ex) E σ H) : Sim G (B.un.fr ex) E σ H := ⟨S.len, S.ent, S.slot, S.dis, S.pin, S.exH, fun p hp => by simp at hp⟩
theorem lkB_un {is : List Nat} : lkB B.un.L is = true := by
  unfold lkB
  rw [List.all_eq_true]
  intro i _
  rfl
theorem SPo.rt_un {d : D} {n : Bool} (h : SPo G B D' (.rt d n)) : SPo G B.un D' (.rt d n) := h
theorem ret_ok {x : D × Fl} {v : V} (S1 : Sim G (B.fr ex) E σ H) (P1 : Post G (B.fr ex) H H' x v) (h1 : (if x.2.c = true then R.ok (Fw.rt x.1 (x.2.n && (x.2.r || !x.1.isL))) else .bad).sat (SPo G B D') (wishB G Y B)) : D'.rt v H' := by
  obtain ⟨d, f⟩ := x
  split at h1
  · rename_i hc
    have hr := P1.val.rep hc
    refine h1 _ _ (S1.entB P1.same) (hr.weak fun k b p => ?_) fun hn => ?_
    · have : (f.n && (f.r || !d.isL)) = true → f.n = true := fun z => (Bool.and_eq_true_iff.mp z).1
      exact outP_cl (cl_le this k b p)
    · simp only at hn
      rw [Bool.and_eq_true] at hn
      obtain ⟨hn1, hn2⟩ := hn
      cases d with
      | lst ds =>
        have hr : f.r = true := by simpa [D.isL] using hn2
        obtain ⟨a, vs, q1, q2, q3, q4⟩ := (P1.new hr).2
        exact ⟨a, vs, q1, q2, q3, q4.weak fun k b p => ⟨by have := outP_cl p.1; rw [hn1] at this; exact this, p.2⟩⟩
      | dic ds =>
        have hr : f.r = true := by simpa [D.isL] using hn2
        obtain ⟨a, vs, q1, q2, q3, q4⟩ := (P1.new hr).2
        exact ⟨a, vs, q1, q2, q3, q4.weak fun k b p => ⟨by have := outP_cl p.1; rw [hn1] at this; exact this, p.2⟩⟩
      | _ => trivial
  · exact h1.elim
theorem vs_ret (hv : ∀ E, ownV E ee = none) (he : PE X e (tP T C G Y ee)) : PS X (.Return (some e) pos) (tS T W C G Y B (.ret ee)) := by
  refine PS_weak (ps_ret he) fun D' σ H => ?_
  rintro ⟨ex, E, S, h⟩
  simp only [exec, hv] at h
  obtain ⟨ex1, S1⟩ := S.un.frz (List.range E.length) lkB_un
  have h : ((ev T C ee (FS.frz E (List.range E.length))).bind fun x => if x.2.c = true then R.ok (Fw.rt x.1 (x.2.n && (x.2.r || !x.1.isL))) else .bad).sat (SPo G B D') (wishB G Y B.un) := h
  exact st_bind (B := B.un) S1 h fun x v H1 P1 S2 h1 => ret_ok (B := B.un) (Y := Y) (G := G) S1 P1 (by
    split at h1
    · rename_i hc; rw [if_pos hc]; exact h1
    · exact h1.elim)
/-- return name -/
theorem vs_retN {i : Nat} {x : Str} {p' : Pos} (hN : X.N[i]? = some x) (hv : Vis X.env.scope x) (hd : (x == ("__debug__" : Str)) = false) (hcd : (x == ("__classdict__" : Str)) = false) : PS X (.Return (some (.Name x p')) pos) (tS T W C G Y B (.ret (.var i))) := by
  refine PS_weak (ps_ret (pe_var hN hv hd hcd)) fun D' σ H => ?_
  rintro ⟨ex, E, S, h⟩
  simp only [exec] at h
  show ∃ v, σ[i]? = some (some v) ∧ D'.rt v H
  split at h
  · rename_i d n ho
    have core : ∀ d' n', E[i]? = some (some (.own d' n')) → d'.isL = true → d' = d → n' = n → ∃ v, σ[i]? = some (some v) ∧ D'.rt v H := by
      intro d' n' he hd e1 e2
      subst e1; subst e2
      obtain ⟨v, hv, a, rfl, ha, hr⟩ := S.slot i _ he
      refine ⟨_, hv, h _ _ (S.entB (Same.refl _)) ?_ fun hn => ?_⟩
      · cases d' with
        | lst ds =>
          obtain ⟨h1, h2, vs, h3, h4, h5⟩ := hr
          simp only [Rep]
          exact ⟨a, vs, rfl, .inl h1, h3, h4, h5.weak fun k b => outP_cl⟩
        | dic ds =>
          obtain ⟨h1, h2, vs, h3, h4, h5⟩ := hr
          simp only [Rep]
          exact ⟨a, vs, rfl, .inl h1, h3, h4, h5.weak fun k b => outP_cl⟩
        | _ => cases hd
      · subst hn
        cases d' with
        | lst ds =>
          obtain ⟨h1, h2, vs, h3, h4, h5⟩ := hr
          exact ⟨a, vs, rfl, h3, h4, h5.weak fun k b p => ⟨outP_cl p, fun z => p.1 (z ▸ ha)⟩⟩
        | dic ds =>
          obtain ⟨h1, h2, vs, h3, h4, h5⟩ := hr
          exact ⟨a, vs, rfl, h3, h4, h5.weak fun k b p => ⟨outP_cl p, fun z => p.1 (z ▸ ha)⟩⟩
        | _ => cases hd
    simp only [ownV] at ho
    split at ho
    · rename_i he; cases ho; exact core _ _ he rfl rfl rfl
    · rename_i he; cases ho; exact core _ _ he rfl rfl rfl
    · cases ho
  · obtain ⟨ex1, S1⟩ := S.un.frz (List.range E.length) lkB_un
    generalize frz E (List.range E.length) = E1 at h S1
    simp only [ev] at h
    cases e : E1[i]? with
    | none => rw [e] at h; exact h.elim
    | some s =>
      cases s with
      | none => rw [e] at h; exact h.elim
      | some s =>
        obtain ⟨v, h1, h2⟩ := S1.slot i s e
        rw [e] at h
        refine ⟨v, h1, ?_⟩
        cases s with
        | shr d n => exact ret_ok (B := B.un) (Y := Y) (x := (d, ⟨false, n || d.imm, true⟩)) S1 ⟨Same.refl _, Rep.orI h2, fun z => by cases z⟩ h
        | own d n =>
          cases d with
          | lst ds => exact h.elim
          | dic ds => exact h.elim
          | _ => exact h.elim
end
end FS

/-! FS11: what changes an own list; loops; raise. -/
namespace FS
open PySem L2

section
variable {T : Tb} {W : Nat} {C : Fid → List D → R (D × Bool)} {G : GT} {Y : XK} {X : Cx} {B : Bs} {ex : Addr → Prop} {E : SEnv} {σ : St} {H H' : Hp} {a b c o i e k tg iter : Expr} {ea eb ec eo ei ee ek : Ex} {es : List Expr} {ees : Exs} {pos apos cpos px p : Pos} {D' : Ends}

/-- an own object is written -/
theorem Sim.upd {j : Nat} {q : Addr} {d d' : D} {n n' : Bool} (S : Sim G (B.fr ex) E σ H) (he : E[j]? = some (some (.own d n))) (hv : σ[j]? = some (some (.ref q))) (hx : ex q) (h0 : B.H0 q = none ∨ B.self = some q)
    (hl : ∀ p ∈ B.lk, p.1 ≠ j) (hm : ∀ b u, b ≠ q → H b = some u → H' b = some u) (ha : H' q ≠ none) (him : ∀ u, H q = some u → immO u = false) (hnew : OwnR G (B.fr ex) H' n' q d') : Sim G (B.fr ex) (E.set j (some (.own d' n'))) σ H' := by
  have kP : ∀ m kk b u, cl (B.fr ex) m kk b → H b = some u → cl (B.fr ex) m kk b ∧ H' b = some u := fun m kk b u z e => ⟨z, hm b u (fun w => z.1 (by rw [w]; exact hx)) e⟩
  have kI : ∀ b u, immO u = true → H b = some u → H' b = some u := fun b u z e => hm b u (fun w => by subst w; rw [him u e] at z; cases z) e
  have hlt : j < E.length := (List.getElem?_eq_some_iff.mp he).1
  refine ⟨by simp [S.len], fun b u h1 h2 => ?_, fun l s e => ?_, fun l m d1 d2 n1 n2 w hlm e1 e2 h1 h2 => ?_, fun r hr => Rep.mono (kP _) kI _ _ (S.pin r hr), fun b hb => ?_, fun p hp => by
    rw [List.getElem?_set_ne (hl p hp).symm]
    exact S.lk p hp⟩
  · refine hm b u (fun w => ?_) (S.ent b u h1 h2)
    subst w
    rcases h0 with h0 | h0
    · have h2 : B.H0 b = some u := h2
      rw [h0] at h2; cases h2
    · exact h1 h0
  · rw [List.getElem?_set] at e
    split at e
    · rename_i hjl
      subst hjl
      cases e
      exact ⟨_, hv, q, rfl, hx, hnew⟩
    · rename_i hjl
      obtain ⟨w, e1, e2⟩ := S.slot l s e
      refine ⟨w, e1, ?_⟩
      cases s with
      | shr d1 n1 => exact Rep.mono (kP n1) kI _ _ e2
      | own d1 n1 =>
        obtain ⟨b, rfl, hb, hob⟩ := e2
        have hbq : b ≠ q := fun z => by
          subst z
          exact S.dis j l d d1 n n1 (.ref b) hjl he e hv e1
        refine ⟨b, rfl, hb, ?_⟩
        cases d1 with
        | lst ds => obtain ⟨h1, h2, vs, h3, h4, h5⟩ := hob; exact ⟨h1, h2, vs, hm _ _ hbq h3, h4, Reps.mono (kP n1) kI _ _ h5⟩
        | dic ds => obtain ⟨h1, h2, vs, h3, h4, h5⟩ := hob; exact ⟨h1, h2, vs, hm _ _ hbq h3, h4, RepK.mono (kP n1) kI _ _ h5⟩
        | obj c fs => obtain ⟨h2, Ca, dx, ws, h3, h4, h5⟩ := hob; exact ⟨h2, Ca, dx, ws, hm _ _ hbq h3, h4, RepF.mono (kP n1) kI _ _ h5⟩
        | _ => exact hob
  · -- the slots' values are as they were
    have own_of : ∀ (l : Nat) (d3 : D) (n3 : Bool), (E.set j (some (.own d' n')))[l]? = some (some (.own d3 n3)) → ∃ d4 n4, E[l]? = some (some (.own d4 n4)) := by
      intro l d3 n3 e
      rw [List.getElem?_set] at e
      split at e
      · rename_i hjl
        subst hjl
        exact ⟨d, n, he⟩
      · exact ⟨d3, n3, e⟩
    obtain ⟨d3, n3, f1⟩ := own_of _ _ _ e1
    obtain ⟨d4, n4, f2⟩ := own_of _ _ _ e2
    exact S.dis l m d3 d4 n3 n4 w hlm f1 f2 h1 h2
  · by_cases w : b = q
    · rw [w]; exact ha
    · cases z : H b with
      | none => exact absurd z (S.exH b hb)
      | some u => rw [hm b u w z]; simp
theorem ownL_some {j : Nat} {ds : List D} {n : Bool} (h : ownL E j = some (ds, n)) : E[j]? = some (some (.own (.lst ds) n)) := by
  unfold ownL at h
  split at h
  · rename_i e; cases h; exact e
  · cases h
theorem ownK_some {j : Nat} {ds : List (Int × D)} {n : Bool} (h : ownK E j = some (ds, n)) : E[j]? = some (some (.own (.dic ds) n)) := by
  unfold ownK at h
  split at h
  · rename_i e; cases h; exact e
  · cases h
/-- the list of an own name, ready to be written -/
theorem Sim.ownL {j : Nat} {ds : List D} {n : Bool} (S : Sim G (B.fr ex) E σ H) (h : FS.ownL E j = some (ds, n)) (hl : ∀ p ∈ B.lk, p.1 ≠ j) : ∃ q vs, σ[j]? = some (some (.ref q)) ∧ ex q ∧ B.H0 q = none ∧ B.self ≠ some q ∧ H q = some (.lst vs) ∧ vs.length ≤ sizeLine ∧ Reps G (cl (B.fr ex) n) H ds vs ∧
    ∀ (ds' : List D) (n' : Bool) (vs' : List V), vs'.length ≤ sizeLine → Reps G (cl (B.fr ex) n') H ds' vs' → Sim G (B.fr ex) (putL E j ds' n') σ (L2.upd H q (.lst vs')) := by
  have he := ownL_some h
  obtain ⟨v, hv, q, rfl, hx, h0, h1, vs, h2, h3, h4⟩ := S.slot j _ he
  refine ⟨q, vs, hv, hx, h0, h1, h2, h3, h4, fun ds' n' vs' z r => ?_⟩
  refine S.upd he hv hx (.inl h0) hl (fun b u hb e => by rw [upd_ne hb]; exact e) (by rw [upd_same]; simp) (fun u e => by rw [h2] at e; cases e; rfl) ?_
  refine ⟨h0, h1, vs', upd_same, z, Reps.mono (fun kk b u w e => ⟨w, ?_⟩) (fun b u im e => ?_) _ _ r⟩
  · rw [upd_ne fun z => w.1 (by rw [z]; exact hx)]; exact e
  · rw [upd_ne fun z => by subst z; rw [h2] at e; cases e; cases im]; exact e
theorem Sim.ownK {j : Nat} {ds : List (Int × D)} {n : Bool} (S : Sim G (B.fr ex) E σ H) (h : FS.ownK E j = some (ds, n)) (hl : ∀ p ∈ B.lk, p.1 ≠ j) : ∃ q vs, σ[j]? = some (some (.ref q)) ∧ ex q ∧ B.H0 q = none ∧ B.self ≠ some q ∧ H q = some (.dK vs) ∧ vs.length ≤ sizeLine ∧ RepK G (cl (B.fr ex) n) H ds vs ∧
    ∀ (ds' : List (Int × D)) (n' : Bool) (vs' : List (Key × V)), vs'.length ≤ sizeLine → RepK G (cl (B.fr ex) n') H ds' vs' → Sim G (B.fr ex) (E.set j (some (.own (.dic ds') n'))) σ (L2.upd H q (.dK vs')) := by
  have he := ownK_some h
  obtain ⟨v, hv, q, rfl, hx, h0, h1, vs, h2, h3, h4⟩ := S.slot j _ he
  refine ⟨q, vs, hv, hx, h0, h1, h2, h3, h4, fun ds' n' vs' z r => ?_⟩
  refine S.upd he hv hx (.inl h0) hl (fun b u hb e => by rw [upd_ne hb]; exact e) (by rw [upd_same]; simp) (fun u e => by rw [h2] at e; cases e; rfl) ?_
  refine ⟨h0, h1, vs', upd_same, z, RepK.mono (fun kk b u w e => ⟨w, ?_⟩) (fun b u im e => ?_) _ _ r⟩
  · rw [upd_ne fun z => w.1 (by rw [z]; exact hx)]; exact e
  · rw [upd_ne fun z => by subst z; rw [h2] at e; cases e; cases im]; exact e
theorem Val.keep {F : Fr} {x : D × Fl} {v : V} (hc : x.2.c = true) (h : Val G F H x v) : Rep G (cl F (x.2.n || x.1.imm)) H x.1 v := by
  obtain ⟨d, f⟩ := x
  exact Rep.orI (h.rep hc)
/-- x.append(e) -/
theorem vs_app {j : Nat} {x : Str} (hN : X.N[j]? = some x) (hv : Vis X.env.scope x) (hd : (x == ("__debug__" : Str)) = false) (hcd : (x == ("__classdict__" : Str)) = false) (he : PE X e (tP T C G Y ee)) (hs : notStar e = true) (hl : (apos.endLine == cpos.line) = true) :
    PS X (.Expr (.Call (.Attribute (.Name x px) "append" apos) [e] [] cpos) pos) (tS T W C G Y B (.app j ee)) := by
  refine PS_weak (ps_expr (pe_bm PySem.F.plainAttrs_list PySem.F.slot_list_append PySem.F.type_list_append mt_append (pe_var hN hv hd hcd) (pa_cons he pa_nil (star_cons hs)) (attr_base rfl) (by rw [star_cons hs]; rfl) hl (star_cons hs) rfl) rfl) fun D' σ H => ?_
  rintro ⟨ex, E, S, h⟩
  simp only [exec] at h
  split at h
  rotate_left
  · exact h.elim
  rename_i hlk
  have nl := lkB_no hlk j List.mem_cons_self
  obtain ⟨ex1, S1⟩ := S.frz (esc ee) (lkB_cons hlk).2
  split at h
  · rename_i ds n ho
    obtain ⟨q, vs, h1, h2, h3, h3', h4, h5, h6, up⟩ := S1.ownL ho nl
    refine ⟨_, h1, .inl ⟨rfl, _, .inl (.inl h4)⟩, ?_⟩
    show tP T C G Y ee σ H fun y H1 => rAppend (.ref q) [y] H1 fun _ H2 => D'.nx σ H2
    refine st_bind S1 h fun x v H1 P1 S2 hh => ?_
    unfold appV at hh
    split at hh
    · rename_i hc
      have e1 := P1.same _ _ h4
      have ll := lim_line
      have hlen := h6.length
      obtain ⟨q', vs', g1, g2, g3, g3', g4, g5, g6, up'⟩ := S2.ownL ho nl
      rw [h1] at g1
      cases g1
      rw [e1] at g4
      cases g4
      refine ⟨q, vs, v, rfl, rfl, e1, by omega, hh _ _ _ (up' _ _ _ (by simp; omega) (g6.and (Reps.one (P1.val.keep hc.1))))⟩
    · exact hh.elim
  · exact h.elim
/-- x.clear() -/
theorem vs_clr {j : Nat} {x : Str} (hN : X.N[j]? = some x) (hv : Vis X.env.scope x) (hd : (x == ("__debug__" : Str)) = false) (hcd : (x == ("__classdict__" : Str)) = false) (hl : (apos.endLine == cpos.line) = true) :
    PS X (.Expr (.Call (.Attribute (.Name x px) "clear" apos) [] [] cpos) pos) (tS T W C G Y B (.clr j)) := by
  refine PS_weak (ps_expr (pe_bm0 PySem.F.plainAttrs_list PySem.F.slot_list_clear PySem.F.type_list_clear mt_clear (pe_var hN hv hd hcd) (attr_base rfl) hl) rfl) fun D' σ H => ?_
  rintro ⟨ex, E, S, h⟩
  simp only [exec] at h
  split at h
  rotate_left
  · exact h.elim
  rename_i hlk
  split at h
  · rename_i ds n ho
    obtain ⟨q, vs, h1, h2, h3, h3', h4, h5, h6, up⟩ := S.ownL ho (lkB_no hlk j List.mem_cons_self)
    exact ⟨_, h1, .inl ⟨rfl, _, .inl (.inl h4)⟩, q, vs, rfl, rfl, h4, h _ _ _ (up [] n [] (Nat.zero_le _) (by simp [Reps]))⟩
  · exact h.elim
/-- y = x.pop(e) -/
theorem vs_popA {j l : Nat} {x y : Str} {py : Pos} (hN : X.N[j]? = some x) (hv : Vis X.env.scope x) (hd : (x == ("__debug__" : Str)) = false) (hcd : (x == ("__classdict__" : Str)) = false) (he : PE X e (tP T C G Y ee)) (hs : notStar e = true) (hl : (apos.endLine == cpos.line) = true)
    (hnd : X.N.Nodup) (hi : X.N[l]? = some y) (hx : Loc X.env.scope y) (hf : X.fn y = true ∨ X.env.scope.names.lookup y = some .local) :
    PS X (.Assign [.Name y py] (.Call (.Attribute (.Name x px) "pop" apos) [e] [] cpos) pos) (tS T W C G Y B (.popA l j ee)) := by
  refine PS_weak (ps_set hnd hi hx (pe_bm PySem.F.plainAttrs_list PySem.F.slot_list_pop PySem.F.type_list_pop mt_popAt (pe_var hN hv hd hcd) (pa_cons he pa_nil (star_cons hs)) (attr_base rfl) (by rw [star_cons hs]; rfl) hl (star_cons hs) rfl) rfl hf) fun D' σ H => ?_
  rintro ⟨ex, E, S, h⟩
  simp only [exec] at h
  split at h
  rotate_left
  · exact h.elim
  rename_i hlk
  have nl := lkB_no hlk j (by simp)
  have nl2 := lkB_no hlk l (by simp)
  split at h
  · rename_i ds n ho
    obtain ⟨q, vs, h1, h2, h3, h3', h4, h5, h6, up⟩ := S.ownL ho nl
    refine ⟨_, h1, .inl ⟨rfl, _, .inl (.inl h4)⟩, ?_⟩
    show tP T C G Y ee σ H fun y H1 => rPopAt (.ref q) [y] H1 fun z H2 => D'.nx (σ.set l (some z)) H2
    refine st_bind S h fun x v H1 P1 S2 hh => ?_
    obtain ⟨q', vs', g1, g2, g3, g3', g4, g5, g6, up'⟩ := S2.ownL ho nl
    rw [h1] at g1
    cases g1
    obtain ⟨d, f⟩ := x
    cases d <;> simp only [popV] at hh <;> first | exact hh.elim | skip
    rename_i z
    cases hm : ixN' ds.length z with
    | none => rw [hm] at hh; exact hh.elim
    | some m =>
      rw [hm] at hh
      simp only at hh
      cases hdm : ds[m]? with
      | none => rw [hdm] at hh; exact hh.elim
      | some dm =>
        rw [hdm] at hh
        simp only at hh
        split at hh
        · rename_i hz
          obtain ⟨w, e1, e2⟩ := g6.get hdm
          have hix : ixN vs'.length z = some m := by rw [g6.length]; exact hm
          have hsq := (ixN_seq hix).1
          refine ⟨q, vs', z, m, w, rfl, by rw [P1.val.int], g4, hz.1, hz.2, hsq, e1, ?_⟩
          have S3 := up' (ds.eraseIdx m) n (vs'.eraseIdx m) (Nat.le_trans (List.length_eraseIdx_le _ _) g5) (g6.erase m)
          have e3 : Rep G (cl (B.fr ex) n) (upd H1 q (.lst (vs'.eraseIdx m))) dm w := by
            refine Rep.mono (fun kk b u w' e => ⟨w', ?_⟩) (fun b u im e => ?_) _ _ e2
            · rw [upd_ne fun z => w'.1 (by rw [z]; exact g2)]; exact e
            · rw [upd_ne fun z => by subst z; rw [g4] at e; cases e; cases im]; exact e
          exact hh _ _ _ (S3.set e3 l nl2)
        · exact hh.elim
  · exact h.elim
/-- x[k] = e, a list -/
theorem PS_or {st : Stmt} {t t1 t2 : TS} (h1 : PS X st t1) (h2 : PS X st t2) (w : ∀ D σ H, t D σ H → t1 D σ H ∨ t2 D σ H) : PS X st t := ⟨fun pins s σ H D I q => by
  rcases w D σ H q with q | q
  · exact h1.run pins s σ H D I q
  · exact h2.run pins s σ H D I q⟩
theorem key_dec (j z : Int) : decide ((Sum.inl j : Key) = Sum.inl z) = decide (j = z) := by
  by_cases h : j = z
  · subst h; simp
  · have : ¬ (Sum.inl j : Key) = Sum.inl z := fun w => h (Sum.inl.inj w)
    simp [h, this]
theorem RepK.any {P : Bool → Addr → Prop} (z : Int) : ∀ {ds : List (Int × D)} {vs : List (Key × V)}, RepK G P H ds vs → (vs.any fun kv => decide (kv.1 = (Sum.inl z : Key))) = ds.any fun p => decide (p.1 = z)
  | [], _, h => by simp only [RepK] at h; subst h; rfl
  | (j, e) :: ds, _, h => by
    simp only [RepK] at h
    obtain ⟨w, r, rfl, p, q⟩ := h
    simp only [List.any_cons, key_dec, RepK.any z q]
theorem RepK.mapPut {P : Bool → Addr → Prop} {z : Int} {d : D} {v : V} (hr : Rep G P H d v) : ∀ {ds : List (Int × D)} {vs : List (Key × V)}, RepK G P H ds vs → RepK G P H (ds.map fun p => if p.1 = z then (p.1, d) else p) (vs.map fun kv => if kv.1 = (Sum.inl z : Key) then (kv.1, v) else kv)
  | [], _, h => by simp only [RepK] at h; subst h; simp [RepK]
  | (j, e) :: ds, _, h => by
    simp only [RepK] at h
    obtain ⟨w, r, rfl, p, q⟩ := h
    have ih := RepK.mapPut (z := z) hr q
    simp only [List.map_cons]
    by_cases hj : j = z
    · subst hj
      rw [if_pos rfl, if_pos rfl]
      simp only [RepK]
      exact ⟨v, _, rfl, hr, ih⟩
    · have : ¬ (Sum.inl j : Key) = Sum.inl z := fun w => hj (Sum.inl.inj w)
      rw [if_neg hj, if_neg this]
      simp only [RepK]
      exact ⟨w, _, rfl, p, ih⟩
theorem RepK.snoc {P : Bool → Addr → Prop} {z : Int} {d : D} {v : V} (hr : Rep G P H d v) : ∀ {ds : List (Int × D)} {vs : List (Key × V)}, RepK G P H ds vs → RepK G P H (ds ++ [(z, d)]) (vs ++ [(.inl z, v)])
  | [], _, h => by
    simp only [RepK] at h
    subst h
    simp only [List.nil_append, RepK]
    exact ⟨v, _, rfl, hr, rfl⟩
  | (j, e) :: ds, _, h => by
    simp only [RepK] at h
    obtain ⟨w, r, rfl, p, q⟩ := h
    simp only [List.cons_append, RepK]
    exact ⟨w, _, rfl, p, RepK.snoc hr q⟩
theorem RepK.put {P : Bool → Addr → Prop} {z : Int} {d : D} {v : V} (hr : Rep G P H d v) {ds : List (Int × D)} {vs : List (Key × V)} (h : RepK G P H ds vs) : RepK G P H (putD ds z d) (putK vs (.inl z : Key) v) := by
  unfold putD putK
  rw [RepK.any z h]
  split
  · exact RepK.mapPut hr h
  · exact RepK.snoc hr h
theorem putD_len (z : Int) (d : D) (ds : List (Int × D)) : (putD ds z d).length ≤ ds.length + 1 := by
  unfold putD
  split
  · simp
  · simp
theorem vs_set {j : Nat} {x : Str} {pos' : Pos} (hu : X.A.units + 1 < cLine) (hN : X.N[j]? = some x) (hv : Vis X.env.scope x) (hd : (x == ("__debug__" : Str)) = false) (hcd : (x == ("__classdict__" : Str)) = false) (he : PE X e (tP T C G Y ee)) (hk : PE X k (tP T C G Y ek)) (hns : notSlice k = true)
    (hs : swapsWith e (some (.Subscript (.Name x px) k pos')) pos.line X.env = pure false) (hs2 : swapsWithSole [.Subscript (.Name x px) k pos'] e pos.line X.env = pure false) (hw : swappedStores [.Subscript (.Name x px) k pos'] e X.env = pure none) :
    PS X (.Assign [.Subscript (.Name x px) k pos'] e pos) (tS T W C G Y B (.set j ek ee)) := by
  refine PS_or (ps_asg he (pg_sub (pe_var hN hv hd hcd) hk set_list (fun v => by cases k <;> first | rfl | cases hns)) hs2 hw rfl) (ps_dput hu (pe_var hN hv hd hcd) hk he hs) fun D' σ H => ?_
  rintro ⟨ex, E, S, h⟩
  simp only [exec] at h
  split at h
  rotate_left
  · exact h.elim
  rename_i hlk
  have nl := lkB_no hlk j List.mem_cons_self
  obtain ⟨ex1, S1⟩ := S.frz (esc ee) (lkB_cons hlk).2
  split at h
  · rename_i ds n ho
    refine .inl ?_
    show tP T C G Y ee σ H fun y H1 => ∃ v, σ[j]? = some (some v) ∧ tP T C G Y ek σ H1 fun i H2 => rSetL v i y H2 fun H3 => D'.nx σ H3
    refine st_bind S1 h fun x v H1 P1 S2 hh => ?_
    obtain ⟨q, vs, g1, g2, g3, g3', g4, g5, g6, up⟩ := S2.ownL ho nl
    refine ⟨_, g1, st_bind S2 hh fun y u H2 P2 S3 h3 => ?_⟩
    obtain ⟨q', vs', f1, f2, f3, f3', f4, f5, f6, up'⟩ := S3.ownL ho nl
    rw [g1] at f1
    cases f1
    obtain ⟨d, f⟩ := y
    cases d <;> simp only [setLV] at h3 <;> first | exact h3.elim | skip
    rename_i z
    cases hm : ixN' ds.length z with
    | none => rw [hm] at h3; exact h3.elim
    | some m =>
      rw [hm] at h3
      simp only at h3
      split at h3
      · rename_i hc
        refine ⟨q, vs', z, m, rfl, P2.val.int, f4, by rw [f6.length]; exact hm, h3 _ _ _ (up' _ _ _ (by simpa using f5) ?_)⟩
        have r1 : Reps G (cl (B.fr ex1) (n && (x.2.n || x.1.imm))) H2 ds vs' := f6.weak (cl_le fun e => (Bool.and_eq_true_iff.mp e).1)
        have r2 : Rep G (cl (B.fr ex1) (n && (x.2.n || x.1.imm))) H2 x.1 v := ((P1.val.same P2.same).keep hc).weak (cl_le fun e => (Bool.and_eq_true_iff.mp e).2)
        exact r1.set m r2
      · exact h3.elim
  · rename_i ds n ho hno
    refine .inr ?_
    show tP T C G Y ee σ H fun y H1 => ∃ v, σ[j]? = some (some v) ∧ tP T C G Y ek σ H1 fun i H2 => ∃ a H4, v = .ref a ∧ DPut H2 a i y H4 ∧ D'.nx σ H4
    refine st_bind S1 h fun x v H1 P1 S2 hh => ?_
    obtain ⟨q, vs, g1, g2, g3, g3', g4, g5, g6, up⟩ := S2.ownK ho nl
    refine ⟨_, g1, st_bind S2 hh fun y u H2 P2 S3 h3 => ?_⟩
    obtain ⟨q', vs', f1, f2, f3, f3', f4, f5, f6, up'⟩ := S3.ownK ho nl
    rw [g1] at f1
    cases f1
    obtain ⟨d, f⟩ := y
    cases d <;> simp only [setKV] at h3 <;> first | exact h3.elim | skip
    rename_i z
    split at h3
    · rename_i hc
      have ll := lim_line
      have fl := f6.length
      refine ⟨q, _, rfl, by rw [P2.val.int]; exact DPut.k (k := Sum.inl z) f4 (by omega), h3 _ _ _ (up' _ _ _ ?_ ?_)⟩
      · have r1 : RepK G (cl (B.fr ex1) (n && (x.2.n || x.1.imm))) H2 ds vs' := f6.weak (cl_le fun e => (Bool.and_eq_true_iff.mp e).1)
        have r2 : Rep G (cl (B.fr ex1) (n && (x.2.n || x.1.imm))) H2 x.1 v := ((P1.val.same P2.same).keep hc.1).weak (cl_le fun e => (Bool.and_eq_true_iff.mp e).2)
        have := (RepK.put (z := z) r2 r1).length
        rw [this]
        have := putD_len z x.1 ds
        omega
      · have r1 : RepK G (cl (B.fr ex1) (n && (x.2.n || x.1.imm))) H2 ds vs' := f6.weak (cl_le fun e => (Bool.and_eq_true_iff.mp e).1)
        have r2 : Rep G (cl (B.fr ex1) (n && (x.2.n || x.1.imm))) H2 x.1 v := ((P1.val.same P2.same).keep hc.1).weak (cl_le fun e => (Bool.and_eq_true_iff.mp e).2)
        exact RepK.put r2 r1
    · exact h3.elim
  · exact h.elim

/-! ### loops -/
theorem vs_whl {ss : List Stmt} {s : Sxs} (po : PassesOwn (model X.prog X.w) X.A X.env X.xe) (hc : PT X c (tT T C G Y ec)) (hb : PSs X ss (tSs T W C G Y B s)) : PS X (.While c ss [] pos) (tS T W C G Y B (.whl ec s)) := by
  refine PS_weak (ps_while po hc hb) fun D' σ H => ?_
  rintro ⟨ex, E, S, h⟩
  simp only [exec] at h
  generalize hcv : (fun E => (ev T C ec E).bind fun k => boolR k fun k => R.ok k) = cv at h
  generalize hbv : (fun E => execs T W C s B.L E) = bv at h
  refine ⟨fun m σ H => ∃ ex E, Sim G (B.fr ex) E σ H ∧ (whlV cv bv m E).sat (SPo G B D') (wishB G Y B), ⟨W, ex, E, S, h⟩, ?_⟩
  rintro m σ H ⟨ex, E, S, h⟩
  cases m with
  | zero => exact h.elim
  | succ m =>
    simp only [whlV] at h
    rw [← hcv] at h
    simp only at h
    have h2 : ((ev T C ec E).bind fun x => boolR x fun k => if k = true then (bv E).bind fun f => match f with | .nx E' => whlV cv bv m E' | .rt d n => .ok (.rt d n) else .ok (.nx E)).sat (SPo G B D') (wishB G Y B) := by
      rw [hcv] at h
      rw [R.sat_bind, R.sat_bind] at h
      rw [R.sat_bind]
      refine R.sat_mono h (fun x q => ?_) fun _ z => z
      obtain ⟨d, f⟩ := x
      cases d <;> simp only [boolR] at q ⊢ <;> exact q
    refine stT_bind S h2 fun kk H1 S1 h1 => ?_
    cases kk with
    | true =>
      show ∃ N : St → Hp → Prop, _
      refine ⟨fun σ' H' => ∃ ex E, Sim G (B.fr ex) E σ' H' ∧ (whlV cv bv m E).sat (SPo G B D') (wishB G Y B), fun σ' H' q => ⟨m, Nat.lt_succ_self _, q⟩, ?_⟩
      have h1 : ((bv E).bind fun f => match f with | .nx E' => whlV cv bv m E' | .rt d n => .ok (.rt d n)).sat (SPo G B D') (wishB G Y B) := h1
      rw [R.sat_bind, ← hbv] at h1
      refine ⟨ex, E, S1, R.sat_mono h1 (fun f q => ?_) fun _ z => z⟩
      cases f with
      | nx E' => exact fun ex' σ' H' S' => ⟨ex', E', S', by rw [hbv] at q; exact q⟩
      | rt d n => exact q
    | false => exact h1 _ _ _ S1
/-- for .. over what is not locked -/
theorem vs_forS {ss : List Stmt} {s : Sxs} {t : Tg} {it : It} (po : PassesOwn (model X.prog X.w) X.A X.env X.xe) (hc : X.calm = true) (hi : PI X tg iter (tI T C G Y it)) (hg : PG X tg (tG G t)) (hb : ∀ B, PSs X ss (tSs T W C G Y B s)) (hs : ∀ x, foldedSetIterable iter X.env x = pure x) :
    PS X (.For tg iter ss [] pos) (fun D' σ H => ∃ ex E, Sim G (B.fr ex) E σ H ∧ (if lkB B.L (tgSlots t ++ escI it) then (evI T C it (FS.frz E (escI it))).bind fun p => if p.2.2 then forV (fun x E => (tgV E t x p.2.1).bind fun E' => execs T W C s B.L E') p.1 (FS.frz E (escI it)) else .bad else .bad).sat (SPo G B D') (wishB G Y B)) := by
  -- the pins that a loop adds are known only within: one reading for all of them
  have hall : PSs X ss (fun D σ H => ∃ pins, tSs T W C G Y { B with pin := pins } s D σ H) := ⟨fun pins s' σ H D I ⟨pn, q⟩ => (hb { B with pin := pn }).run pins s' σ H D I q⟩
  refine PS_weak (ps_for po hc hi hg hall hs) fun D' σ H => ?_
  rintro ⟨ex, E, S, h⟩
  split at h
  rotate_left
  · exact h.elim
  rename_i hlk
  have nlt : ∀ p ∈ B.lk, p.1 ∉ tgSlots t := fun p hp z => lkB_no hlk _ (List.mem_append_left _ z) p hp rfl
  obtain ⟨ex1, S1⟩ := S.frz (escI it) (lkB_app hlk).2
  rw [R.sat_bind] at h
  refine ⟨_, _, S1, R.sat_mono h (fun pr q => ?_) fun c z => S1.wish z⟩
  obtain ⟨ds, n, c⟩ := pr
  intro J H1 kp rt s1 Wk hk hpin
  simp only at q Wk hpin
  split at q
  · rename_i hcl
    obtain ⟨pins, hp1, hp2⟩ := hpin hcl
    have S2 := S1.same s1
    generalize frz E (escI it) = E1 at q S2
    generalize htu : (fun x E => (tgV E t x n).bind fun E' => execs T W C s B.L E') = turn at q
    let B' : Bs := { B with pin := pins ++ B.pin }
    have SB : ∀ {ex : Addr → Prop} {E : SEnv} {σ : St} {H : Hp}, Sim G (B'.fr ex) E σ H → Sim G (B.fr ex) E σ H := fun {ex E σ H} S => ⟨S.len, S.ent, S.slot, S.dis, fun r hr => S.pin r (List.mem_append_right _ hr), S.exH, S.lk⟩
    have kB : ∀ {ex : Addr → Prop} {E : SEnv} {σ : St} {H : Hp}, Sim G (B'.fr ex) E σ H → kp (B'.fr ex) H := fun {ex E σ H} S => hp2 _ _ fun r hr => S.pin r (List.mem_append_left _ hr)
    have S3 : Sim G (B'.fr ex1) E1 σ H1 := ⟨S2.len, S2.ent, S2.slot, S2.dis, fun r hr => by
      rcases List.mem_append.mp hr with hr | hr
      · exact hp1 r hr
      · exact S2.pin r hr, S2.exH, S2.lk⟩
    have Sp : ∀ f, SPo G B D' f → ∀ {N : St → Hp → Prop}, (∀ E', f = .nx E' → ∀ ex σ' H', Sim G (B'.fr ex) E' σ' H' → N σ' H') → SPo G B' { D' with nx := N, ct := N, bk := D'.nx } f := fun f q N hN => by
      cases f with
      | nx E' => exact hN E' rfl
      | rt d n => exact q
    refine ⟨fun i m σ H => m = ds.length - i ∧ i ≤ ds.length ∧ ∃ ex E, Sim G (B'.fr ex) E σ H ∧ (forV turn (ds.drop i) E).sat (SPo G B D') (wishB G Y B), ⟨ds.length, by simp, Nat.zero_le _, ex1, E1, S3, q⟩, ?_⟩
    rintro i m σ H ⟨rfl, hi, ex, E, S, h⟩
    by_cases hlt : i < ds.length
    · refine .inr ⟨Wk.go _ _ _ (kB S) hlt, fun σ' H' => i + 1 ≤ ds.length ∧ ∃ ex E, Sim G (B'.fr ex) E σ' H' ∧ (forV turn (ds.drop (i + 1)) E).sat (SPo G B D') (wishB G Y B), fun σ' H' ⟨h1, h2⟩ => ⟨ds.length - (i + 1), by omega, rfl, h1, h2⟩, fun x H2 y => ?_⟩
      obtain ⟨s3, k3, r3⟩ := Wk.yld _ _ _ _ _ _ (kB S) (List.getElem?_eq_getElem hlt) y
      rw [List.drop_eq_getElem_cons hlt] at h
      simp only [forV] at h
      rw [R.sat_bind, ← htu] at h
      simp only at h
      rw [R.sat_bind] at h
      cases hE : tgV E t ds[i] n with
      | bad => rw [hE] at h; exact h.elim
      | exc cc =>
        exfalso
        unfold tgV at hE
        split at hE <;> cases hE
      | ok E' =>
        rw [hE, R.sat_ok] at h
        refine ⟨_, E, _, n, S.same s3, nlt, r3, E', hE, fun σ' S4 _ => ⟨_, ex, E', S4, R.sat_mono h (fun f q => ?_) fun _ z => z⟩⟩
        cases f with
        | nx E2 => exact fun ex' σ2 H3 S5 => ⟨hlt, ex', E2, S5, by rw [htu] at q; exact q⟩
        | rt d n => exact q
    · have e : i = ds.length := by omega
      subst e
      refine .inl ⟨Wk.stop _ _ _ (kB S) (Nat.le_refl _), ?_⟩
      rw [List.drop_length] at h
      simp only [forV] at h
      exact h _ _ _ (SB S)
  · exact q.elim

/-- for .. in x, x an own list: it is locked meanwhile -/
theorem vs_forO {ss : List Stmt} {s : Sxs} {t : Tg} {j : Nat} {x : Str} (hK : X.K = G.K) (po : PassesOwn (model X.prog X.w) X.A X.env X.xe) (hc : X.calm = true) (hN : X.N[j]? = some x) (hv : Vis X.env.scope x) (hd : (x == ("__debug__" : Str)) = false) (hcd : (x == ("__classdict__" : Str)) = false)
    (hg : PG X tg (tG G t)) (hb : ∀ B, PSs X ss (tSs T W C G Y B s)) (hs : ∀ v, foldedSetIterable (.Name x px) X.env v = pure v) : PS X (.For tg (.Name x px) ss [] pos) (fun D' σ H => ∃ ex E ds n, Sim G (B.fr ex) E σ H ∧ ownL E j = some (ds, n) ∧ (lkB B.L (tgSlots t) && !(tgSlots t).contains j) = true ∧
      (forV (fun y E => (tgV E t y n).bind fun E' => execs T W C s (j :: B.L) E') ds E).sat (SPo G B D') (wishB G Y B)) := by
  have hall : PSs X ss (fun D σ H => ∃ a ds n, tSs T W C G Y { B with lk := (j, a, ds, n) :: B.lk } s D σ H) := ⟨fun pins s' σ H D I ⟨a, ds, n, q⟩ => (hb { B with lk := (j, a, ds, n) :: B.lk }).run pins s' σ H D I q⟩
  refine PS_weak (ps_for po hc (pi_list (pe_var hN hv hd hcd)) hg hall hs) fun D' σ H => ?_
  rintro ⟨ex, E, ds, n, S, ho, hlk, q⟩
  rw [Bool.and_eq_true] at hlk
  have he := ownL_some ho
  obtain ⟨v, hv, a, rfl, hx, h0, h1, vs, h2, h3, h4⟩ := S.slot j _ he
  refine ⟨_, hv, a, rfl, ⟨vs, SqL.of h2⟩, ?_⟩
  rw [hK]
  let B' : Bs := { B with lk := (j, a, ds, n) :: B.lk }
  have nlt : ∀ p ∈ B'.lk, p.1 ∉ tgSlots t := fun p hp z => by
    rcases List.mem_cons.mp hp with e | e
    · subst e
      have := hlk.2
      simp only [Bool.not_eq_true', List.contains_eq_mem, decide_eq_false_iff_not] at this
      exact this z
    · exact lkB_no hlk.1 _ z p e rfl
  have Wk := walk_lst (G := G) (K := G.K) (a := a) (ds := ds) (n := n)
  have SB : ∀ {ex : Addr → Prop} {E : SEnv} {σ : St} {H : Hp}, Sim G (B'.fr ex) E σ H → Sim G (B.fr ex) E σ H := fun {ex E σ H} S => ⟨S.len, S.ent, S.slot, S.dis, S.pin, S.exH, fun p hp => S.lk p (List.mem_cons_of_mem _ hp)⟩
  have kB : ∀ {ex : Addr → Prop} {E : SEnv} {σ : St} {H : Hp}, Sim G (B'.fr ex) E σ H → ∃ vs, H a = some (.lst vs) ∧ vs.length ≤ sizeLine ∧ Reps G (cl (B'.fr ex) n) H ds vs := fun {ex E σ H} S => by
    obtain ⟨e1, e2⟩ := S.lk _ List.mem_cons_self
    obtain ⟨v, hv, b, rfl, _, _, _, vs, h2, h3, h4⟩ := S.slot j _ e1
    have e2 : σ[j]? = some (some (.ref a)) := e2
    rw [e2] at hv
    cases hv
    exact ⟨vs, h2, h3, h4⟩
  have S3 : Sim G (B'.fr ex) E σ H := ⟨S.len, S.ent, S.slot, S.dis, S.pin, S.exH, fun p hp => by
    rcases List.mem_cons.mp hp with e | e
    · subst e
      exact ⟨he, hv⟩
    · exact S.lk p e⟩
  generalize htu : (fun y E => (tgV E t y n).bind fun E' => execs T W C s (j :: B.L) E') = turn at q
  refine ⟨fun i m σ H => m = ds.length - i ∧ i ≤ ds.length ∧ ∃ ex E, Sim G (B'.fr ex) E σ H ∧ (forV turn (ds.drop i) E).sat (SPo G B D') (wishB G Y B), ⟨ds.length, by simp, Nat.zero_le _, ex, E, S3, q⟩, ?_⟩
  rintro i m σ H ⟨rfl, hi, ex, E, S, h⟩
  by_cases hlt : i < ds.length
  · refine .inr ⟨Wk.go _ _ _ (kB S) hlt, fun σ' H' => i + 1 ≤ ds.length ∧ ∃ ex E, Sim G (B'.fr ex) E σ' H' ∧ (forV turn (ds.drop (i + 1)) E).sat (SPo G B D') (wishB G Y B), fun σ' H' ⟨h1, h2⟩ => ⟨ds.length - (i + 1), by omega, rfl, h1, h2⟩, fun x H2 y => ?_⟩
    obtain ⟨s3, k3, r3⟩ := Wk.yld _ _ _ _ _ _ (kB S) (List.getElem?_eq_getElem hlt) y
    rw [List.drop_eq_getElem_cons hlt] at h
    simp only [forV] at h
    rw [R.sat_bind, ← htu] at h
    simp only at h
    rw [R.sat_bind] at h
    cases hE : tgV E t ds[i] n with
    | bad => rw [hE] at h; exact h.elim
    | exc cc =>
      exfalso
      unfold tgV at hE
      split at hE <;> cases hE
    | ok E' =>
      rw [hE, R.sat_ok] at h
      refine ⟨_, E, _, n, S.same s3, nlt, r3, E', hE, fun σ' S4 _ => ⟨a, ds, n, ex, E', S4, R.sat_mono h (fun f q => ?_) fun _ z => z⟩⟩
      cases f with
      | nx E2 => exact fun ex' σ2 H3 S5 => ⟨hlt, ex', E2, S5, by rw [htu] at q; exact q⟩
      | rt d n => exact q
  · have e : i = ds.length := by omega
    subst e
    refine .inl ⟨Wk.stop _ _ _ (kB S) (Nat.le_refl _), ?_⟩
    rw [List.drop_length] at h
    simp only [forV] at h
    exact h _ _ _ (SB S)
/-- for .. in x, whatever x is -/
theorem vs_forN {ss : List Stmt} {s : Sxs} {t : Tg} {j : Nat} {x : Str} (hK : X.K = G.K) (po : PassesOwn (model X.prog X.w) X.A X.env X.xe) (hc : X.calm = true) (hN : X.N[j]? = some x) (hv : Vis X.env.scope x) (hd : (x == ("__debug__" : Str)) = false) (hcd : (x == ("__classdict__" : Str)) = false)
    (hi : PI X tg (.Name x px) (tI T C G Y (.seq (.var j)))) (hg : PG X tg (tG G t)) (hb : ∀ B, PSs X ss (tSs T W C G Y B s)) (hs : ∀ v, foldedSetIterable (.Name x px) X.env v = pure v) : PS X (.For tg (.Name x px) ss [] pos) (tS T W C G Y B (.for t (.seq (.var j)) s)) := by
  refine PS_or (vs_forO (B := B) hK po hc hN hv hd hcd hg hb hs) (vs_forS (B := B) po hc hi hg hb hs) fun D' σ H => ?_
  rintro ⟨ex, E, S, h⟩
  simp only [exec] at h
  cases ho : ownL E j with
  | some p =>
    obtain ⟨ds, n⟩ := p
    have e : ownIt E (.seq (.var j)) = some (j, ds, n) := by simp only [ownIt, ho]
    rw [e] at h
    simp only at h
    split at h
    · rename_i hl
      exact .inl ⟨ex, E, ds, n, S, ho, hl, h⟩
    · exact h.elim
  | none =>
    have e : ownIt E (.seq (.var j)) = none := by simp only [ownIt, ho]
    rw [e] at h
    exact .inr ⟨ex, E, S, h⟩
/-- for .. where no own list is walked by its name -/
theorem vs_for {ss : List Stmt} {s : Sxs} {t : Tg} {it : It} (po : PassesOwn (model X.prog X.w) X.A X.env X.xe) (hc : X.calm = true) (hno : ∀ E, ownIt E it = none) (hi : PI X tg iter (tI T C G Y it)) (hg : PG X tg (tG G t)) (hb : ∀ B, PSs X ss (tSs T W C G Y B s)) (hs : ∀ x, foldedSetIterable iter X.env x = pure x) : PS X (.For tg iter ss [] pos) (tS T W C G Y B (.for t it s)) :=
  PS_weak (vs_forS po hc hi hg hb hs) fun D' σ H ⟨ex, E, S, h⟩ => ⟨ex, E, S, by simp only [exec, hno] at h; exact h⟩

/-! ### raise -/
theorem vs_rai {cn : Str} {m : Str} {j : Nat} {p2 : Pos} {Ce : Addr} {bmB : List Value} {Bn newId initId : String} (hc : X.calm = true) (tk : Takes X fun cls d _ H => Y cls d H) (Fe : ExcBaseFacts Bn newId initId bmB) (xi : PySem.W.excIn X.K Ce bmB newId = true) (gC : X.mg cn = some (.ref Ce)) (kC : PySem.W.keepIn X.K (.ref Ce) = true)
    (rs : Raises X (.ref Ce)) (hg : L2.Gl X cn) (hdb : (cn == ("__debug__" : Str)) = false) (he : G.ecls cn = some Ce) : PS X (.Raise (some (.Call (.Name cn p) [.Constant (.str m) j p2] [] apos)) none pos) (tS T W C G Y B (.rai cn)) := by
  refine PS_weak (ps_raise hc tk (pmk_own Fe xi gC kC rs hg hdb)) fun D' σ H => ?_
  rintro ⟨ex, E, S, h⟩
  simp only [exec] at h
  have h : wishB G Y B cn := h
  obtain ⟨Ca, h1, h2⟩ := h H (S.entB (Same.refl _))
  rw [he] at h1
  cases h1
  exact h2
end
end FS

/-! FS12: chains, globals, isinstance, len(set()), a comprehension on its own line, tuple targets. -/
namespace FS
open PySem L2

section
variable {T : Tb} {W : Nat} {C : Fid → List D → R (D × Bool)} {G : GT} {Y : XK} {X : Cx} {B : Bs} {ex : Addr → Prop} {E : SEnv} {σ : St} {H H' : Hp} {a b c o i e k tg iter : Expr} {ea eb ec eo ei ee ek : Ex} {es : List Expr} {ees : Exs} {pos apos cpos px p : Pos} {D' : Ends}

/-! ### chains -/
theorem ve_chn {op op' : CmpOp} (hK : X.K = G.K) (hu : X.A.units + 65 < cLine) (hm : lastMarks [op, op'] [b, c] = false) (ha : PE X a (tP T C G Y ea)) (hb : PE X b (tP T C G Y eb)) (hc : PE X c (tP T C G Y ec)) : PE X (.Compare a [op, op'] [b, c] pos) (tP T C G Y (.chn op op' ea eb ec)) := by
  refine PE_weak (pe_chain (op_cmp hu op) (op_cmp hu op') ha hb hc hm) fun σ H Q ⟨F, E, S, h⟩ => ?_
  simp only [ev] at h
  refine tP_bind S h fun x v H1 P1 S1 h1 => tP_bind S1 h1 fun y u H2 P2 S2 h2 => ?_
  rw [R.sat_bind] at h2
  obtain ⟨k, e, q⟩ := sat_of h2 (cmp_ne op _ _)
  rw [hK]
  refine cmV op F H2 x y v u k _ (P1.val.same P2.same) P2.val e ⟨k, rfl, ?_⟩
  cases k with
  | false =>
    rw [if_neg Bool.false_ne_true]
    rw [if_neg Bool.false_ne_true] at q
    exact q _ _ (Post.trans (P1.same.trans P2.same) Post.bl)
  | true =>
    rw [if_pos rfl]
    rw [if_pos rfl] at q
    refine tP_bind S2 q fun z w H3 P3 S3 h3 => ?_
    rw [R.sat_bind] at h3
    obtain ⟨k', e', q'⟩ := sat_of h3 (cmp_ne op' _ _)
    exact cmV op' F H3 y z u w k' _ (P2.val.same P3.same) P3.val e' (q' _ _ (Post.trans ((P1.same.trans P2.same).trans P3.same) Post.bl))

/-! ### globals -/
theorem ve_glb {x : Str} {d : D} {v : V} {u : Value} (hT : T.con x = some d) (hg : L2.Gl X x) (hm : X.mg x = some u) (r : RelV v u) (hd : (x == ("__debug__" : Str)) = false) (hp : ∀ F H, Post G F H H (mkI d) v) : PE X (.Name x pos) (tP T C G Y (.glb x)) :=
  PE_weak (pe_glob hg hm r hd) fun σ H Q ⟨F, E, S, h⟩ => by
    simp only [ev, hT] at h
    exact h _ _ (hp _ _)

/-! ### isinstance -/
/-- the class that is asked for -/
def tyName : Ty → Option String
  | .int => some "int"
  | .bool => some "bool"
  | .list => some "list"
  | .tuple => some "tuple"
  | .str => some "str"
  | .cls _ => none
/-- what isinstance needs of the classes -/
structure IsF (T : Tb) (G : GT) (c : Str) (Ca : Addr) : Prop where
  cls : Cls G.K Ca
  ha : PySem.W.findIn G.K (.ref Ca) "__class__" = some (some (.builtin "object.__class__"))
  hn : PySem.W.specialIn G.K (.builtin "object.__class__") "__get__" = some (some (.builtin "getset_descriptor.__get__"))
  htk : PySem.W.takesIn G.K (.builtin "object.__class__") = some true
  hm : PySem.W.mroIn G.K Ca (.type "object") = some true
  bt : ∀ n, n ∈ ["NoneType", "bool", "int", "str", "list", "tuple"] → PySem.W.kitOne G.K (.type n) (.ref Ca) = some false ∧ PySem.W.kitOne G.K (.ref Ca) (.type n) = some false
  sub : ∀ c' Ca', G.cls c' = some Ca' → PySem.W.kitOne G.K (.ref Ca') (.ref Ca) = some (T.sub c' c)
theorem isi_bt (hI : ∀ c Ca, G.cls c = some Ca → IsF T G c Ca) {n : String} {t : Ty} (hn : tyName t = some n) {d : D} {v : V} {k : Bool} {P : Bool → Addr → Prop} (r : Rep G P H d v) (e : isiV T t d = .ok k) : ∃ ty, TyX G.K H v ty ∧ PySem.W.kitOne G.K ty (.type n) = some k := by
  cases d with
  | non =>
    simp only [Rep] at r
    subst r
    refine ⟨_, .base .non, ?_⟩
    cases t <;> simp only [tyName] at hn <;> cases hn <;> simp only [isiV] at e <;> cases e <;> exact kit_ty (by decide +kernel)
  | bl z =>
    simp only [Rep] at r
    subst r
    refine ⟨_, .base (.bl _), ?_⟩
    cases t <;> simp only [tyName] at hn <;> cases hn <;> simp only [isiV] at e <;> cases e <;> exact kit_ty (by decide +kernel)
  | int z =>
    simp only [Rep] at r
    subst r
    refine ⟨_, .base (.int _), ?_⟩
    cases t <;> simp only [tyName] at hn <;> cases hn <;> simp only [isiV] at e <;> cases e <;> exact kit_ty (by decide +kernel)
  | str z =>
    simp only [Rep] at r
    subst r
    refine ⟨_, .base (.str _), ?_⟩
    cases t <;> simp only [tyName] at hn <;> cases hn <;> simp only [isiV] at e <;> cases e <;> exact kit_ty (by decide +kernel)
  | scr z => cases t <;> simp only [tyName] at hn <;> cases hn <;> simp only [isiV] at e <;> cases e
  | dic z => cases t <;> simp only [tyName] at hn <;> cases hn <;> simp only [isiV] at e <;> cases e
  | exc z => simp only [Rep] at r
  | lst z =>
    simp only [Rep] at r
    obtain ⟨q, vs, rfl, _, h, _⟩ := r
    refine ⟨_, .base (.lst h), ?_⟩
    cases t <;> simp only [tyName] at hn <;> cases hn <;> simp only [isiV] at e <;> cases e <;> exact kit_ty (by decide +kernel)
  | tup z =>
    simp only [Rep] at r
    obtain ⟨q, vs, rfl, h, _⟩ := r
    refine ⟨_, .base (.tup h), ?_⟩
    cases t <;> simp only [tyName] at hn <;> cases hn <;> simp only [isiV] at e <;> cases e <;> exact kit_ty (by decide +kernel)
  | obj z fs =>
    simp only [Rep] at r
    obtain ⟨q, Ca, dx, ws, rfl, _, h, hc, _⟩ := r
    have F := hI _ _ hc
    refine ⟨_, .base (.ins h F.cls F.ha F.hn F.htk F.hm), ?_⟩
    cases t <;> simp only [tyName] at hn <;> cases hn <;> simp only [isiV] at e <;> cases e <;> exact (F.bt _ (by decide)).2
theorem isi_cl (hI : ∀ c Ca, G.cls c = some Ca → IsF T G c Ca) {c : Str} {Ca : Addr} (hc : G.cls c = some Ca) {d : D} {v : V} {k : Bool} {P : Bool → Addr → Prop} (r : Rep G P H d v) (e : isiV T (.cls c) d = .ok k) : ∃ ty, TyX G.K H v ty ∧ PySem.W.kitOne G.K ty (.ref Ca) = some k := by
  have F := hI _ _ hc
  cases d with
  | non =>
    simp only [Rep] at r
    subst r
    simp only [isiV] at e
    cases e
    exact ⟨_, .base .non, (F.bt _ (by decide)).1⟩
  | bl z =>
    simp only [Rep] at r
    subst r
    simp only [isiV] at e
    cases e
    exact ⟨_, .base (.bl _), (F.bt _ (by decide)).1⟩
  | int z =>
    simp only [Rep] at r
    subst r
    simp only [isiV] at e
    cases e
    exact ⟨_, .base (.int _), (F.bt _ (by decide)).1⟩
  | str z =>
    simp only [Rep] at r
    subst r
    simp only [isiV] at e
    cases e
    exact ⟨_, .base (.str _), (F.bt _ (by decide)).1⟩
  | scr z => simp only [isiV] at e; cases e
  | dic z => simp only [isiV] at e; cases e
  | exc z => simp only [Rep] at r
  | lst z =>
    simp only [Rep] at r
    obtain ⟨q, vs, rfl, _, h, _⟩ := r
    simp only [isiV] at e
    cases e
    exact ⟨_, .base (.lst h), (F.bt _ (by decide)).1⟩
  | tup z =>
    simp only [Rep] at r
    obtain ⟨q, vs, rfl, h, _⟩ := r
    simp only [isiV] at e
    cases e
    exact ⟨_, .base (.tup h), (F.bt _ (by decide)).1⟩
  | obj z fs =>
    simp only [Rep] at r
    obtain ⟨q, Ca', dx, ws, rfl, _, h, hc', _⟩ := r
    have F' := hI _ _ hc'
    simp only [isiV] at e
    cases e
    exact ⟨_, .base (.ins h F'.cls F'.ha F'.hn F'.htk F'.hm), F.sub _ _ hc'⟩
theorem isi_at (t : Ty) (d : D) (f : Fl) : biV T (.isi t) [(d, f)] = (match isiV T t d with
    | .ok k => .ok (mkI (.bl k))
    | _ => .bad) := by
  cases d <;> rfl
theorem isi_ne {t : Ty} {x : D × Fl} {c : Str} : biV T (.isi t) [x] ≠ .exc c := by
  obtain ⟨d, f⟩ := x
  rw [isi_at]
  intro h
  split at h <;> cases h
theorem isi_val {t : Ty} {d : D} {f : Fl} {z : D × Fl} (h : biV T (.isi t) [(d, f)] = .ok z) : ∃ k, isiV T t d = .ok k ∧ z = mkI (.bl k) := by
  rw [isi_at] at h
  split at h
  · rename_i e
    cases h
    exact ⟨_, e, rfl⟩
  · cases h
/-- isinstance(e, T) -/
theorem ve_isi {t : Ty} {x : Str} {cv : V} {u : Value} {p2 : Pos} (hK : X.K = G.K) (hg : L2.Gl X "isinstance") (hm : X.mg "isinstance" = none) (hs : notStar e = true) (he : PE X e (tP T C G Y ee)) (hx : PE X (.Name x p2) (tC cv)) (hcv : ClsV cv u)
    (hI : ∀ {d : D} {v : V} {k : Bool} {P : Bool → Addr → Prop} {H : Hp}, Rep G P H d v → isiV T t d = .ok k → ∃ ty, TyX G.K H v ty ∧ PySem.W.kitOne G.K ty u = some k) : PE X (.Call (.Name "isinstance" p) [e, .Name x p2] [] pos) (tP T C G Y (.bi (.isi t) (.cons ee .nil))) := by
  refine PE_weak (pe_callB call_isi hg hm (by first | rfl | decide +kernel) (pa_cons he (pa_cons hx pa_nil) (star_cons hs)) (by decide) (by decide) (star_cons hs) rfl) fun σ H Q ⟨F, E, S, h⟩ => ?_
  simp only [ev, evl] at h
  rw [R.sat_bind, R.sat_bind] at h
  refine ⟨F, E, S, R.sat_mono h (fun x q v H' P => ?_) fun _ z => z⟩
  show rIsi X.K [v, cv] H' Q
  have q : (biV T (.isi t) [x]).sat (fun x => ∀ v H', Post G F H H' x v → Q v H') (wish G Y H) := q
  obtain ⟨z, e1, k1⟩ := sat_of q fun c => isi_ne
  obtain ⟨d, f⟩ := x
  obtain ⟨k, e2, rfl⟩ := isi_val e1
  obtain ⟨ty, h1, h2⟩ := hI P.val.arg e2
  rw [hK]
  exact ⟨v, cv, ty, u, k, rfl, hcv, h1, h2, k1 _ _ (Post.trans P.same Post.bl)⟩

/-! ### len(set(..)) -/
theorem met_dedup {ns : List Int} : ∀ i, i ≤ ns.length → PyProof.Rows.firstMet (fun i => ns.getD i 0) i = dedup (ns.take i)
  | 0, _ => by simp [dedup, PyProof.Rows.firstMet]
  | i + 1, h => by
    have h1 : i < ns.length := h
    rw [PyProof.Rows.firstMet_succ, met_dedup i (Nat.le_of_lt h1), List.take_succ_eq_append_getElem h1]
    unfold dedup
    rw [List.foldl_append]
    have : ns.getD i 0 = ns[i] := by simp [List.getD, List.getElem?_eq_getElem h1]
    simp only [List.foldl_cons, List.foldl_nil, this]
    rfl
theorem dedup_len (ns : List Int) : (dedup ns).length ≤ ns.length := by
  have : ∀ (l acc : List Int), (l.foldl (fun acc x => if acc.any (· == x) then acc else acc ++ [x]) acc).length ≤ acc.length + l.length := by
    intro l
    induction l with
    | nil => intro acc; simp
    | cons x l ih =>
      intro acc
      rw [List.foldl_cons]
      split
      · have := ih acc
        simp only [List.length_cons]
        omega
      · have := ih (acc ++ [x])
        simp only [List.length_cons, List.length_append, List.length_nil] at *
        omega
  exact Nat.le_trans (this ns []) (by simp)
def tLs (K : PySem.W.Frag) (ta : TE) : TE := fun σ H Q => ta σ H fun x H1 => ∃ (l : Addr) (ns : List Int), x = .ref l ∧ SqL K H1 l (ns.map V.int) ∧ ns.length ≤ 1000 ∧ Q (.int ((dedup ns).length : Nat)) H1
theorem pe_ls {ta : TE} {p2 q : Pos} (hc : X.calm = true) (hg : L2.Gl X "len") (hm : X.mg "len" = none) (hg2 : L2.Gl X "set") (hm2 : X.mg "set" = none) (ha : PE X a ta) (hs : notStar a = true) :
    PE X (.Call (.Name "len" p) [.Call (.Name "set" p2) [a] [] q] [] pos) (tLs X.K ta) := by
  refine ⟨fun pins s σ H Q I h => PyProof.Rows.Call_ (ld_blt I hg hm (by rfl) (PyProof.Rows.callWith_builtin1 (PyProof.Rows.args_cons (PyProof.Rows.Call_ (ld_blt I hg2 hm2 (by rfl) (PyProof.Rows.callWith_type1
    (PyProof.Rows.args_cons (thn (ha.run pins s σ H _ I h) fun v s1 ⟨x, H1, I1, r1, q1⟩ => PyProof.Rows.args_nil ?_) (star_cons hs)) (star_cons hs) rfl))) rfl) rfl rfl))⟩
  obtain ⟨l, ns, e, hq, hl, qq⟩ := q1
  subst e
  cases r1
  obtain ⟨its, r, pl, hz⟩ := I1.list hq
  have hlen : its.toArray.size = ns.length := by simp [List.size_toArray, ← r.length]
  refine PySem.call_set_list (ns := ns) (I1.ok.hd hc) pl.isList (by simpa using intsAre_of r) (by rw [hlen]; unfold scanBound; omega) fun h' tk hS hk => PyProof.Rows.args_nil ?_
  rw [hlen, met_dedup ns.length (Nat.le_refl _), List.take_length] at hS
  have hd := dedup_len ns
  obtain ⟨o, st, ep, t, ho, hex, hd', _, _, _, hf, hn⟩ := hS
  exact call_len_set ho hex hd' hf (by rw [hn]; omega) ⟨.int (dedup ns).length, H1, (I1.kept (h' := h') (t' := tk) fun b o e => hk b o (Heap.lt_size e) e).tok _, ⟨_, by rw [hn]⟩, qq⟩
theorem ve_lenset {p2 q : Pos} (hK : X.K = G.K) (hc : X.calm = true) (hg : L2.Gl X "len") (hm : X.mg "len" = none) (hg2 : L2.Gl X "set") (hm2 : X.mg "set" = none) (ha : PE X a (tP T C G Y ea)) (hs : notStar a = true) :
    PE X (.Call (.Name "len" p) [.Call (.Name "set" p2) [a] [] q] [] pos) (tP T C G Y (.bi .lenset (.cons ea .nil))) := by
  refine PE_weak (pe_ls hc hg hm hg2 hm2 ha hs) fun σ H Q ⟨F, E, S, h⟩ => ?_
  simp only [ev, evl] at h
  rw [R.sat_bind, R.sat_bind] at h
  refine ⟨F, E, S, R.sat_mono h (fun x q v H' P => ?_) fun _ z => z⟩
  have q : (biV T .lenset [x]).sat (fun x => ∀ v H', Post G F H H' x v → Q v H') (wish G Y H) := q
  obtain ⟨z, e1, k1⟩ := sat_of q (bi_ne _ _)
  obtain ⟨d, f⟩ := x
  simp only [biV] at e1
  cases d <;> simp only [bi1] at e1 <;> first | (cases e1; done) | skip
  rename_i ds _
  cases hi : intsD ds with
  | none => rw [hi] at e1; cases e1
  | some ns =>
    rw [hi] at e1
    simp only at e1
    split at e1
    · rename_i hl
      cases e1
      obtain ⟨l, vs, rfl, h2, h3, h4⟩ := P.val.lst
      obtain ⟨rfl, _⟩ := h4.ints hi
      refine ⟨l, ns, rfl, .inl (.inl h2), hl, k1 _ _ (Post.trans P.same Post.int)⟩
    · cases e1

/-! ### assignments -/
theorem tG_asg {t : Tg} {x : D × Fl} {v : V} {E' : SEnv} (S : Sim G (B.fr ex) E σ H') (nlt : ∀ p ∈ B.lk, p.1 ∉ tgSlots t) (P : Post G (B.fr ex) H H' x v) (hc : x.2.c = true) (e : tgV E t x.1 x.2.n = .ok E') (h : (R.ok (Fw.nx E')).sat (SPo G B D') (wishB G Y B)) : tG G t v σ H' D'.nx :=
  ⟨_, E, x.1, x.2.n, S, nlt, P.val.rep hc, E', e, fun σ' S' _ => h _ _ _ S'⟩
/-- a, b = e -/
theorem vs_asgT {is : List Nat} (he : PE X e (tP T C G Y ee)) (hg : PG X tg (tG G (.tp is))) (hs2 : swapsWithSole [tg] e pos.line X.env = pure false) (hw : swappedStores [tg] e X.env = pure none) (h1 : (assignEach [tg] X.env).map (·.2) = [assign tg X.env]) :
    PS X (.Assign [tg] e pos) (tS T W C G Y B (.asgT is ee)) := by
  refine PS_weak (ps_asg he hg hs2 hw h1) fun D' σ H => ?_
  rintro ⟨ex, E, S, h⟩
  simp only [exec] at h
  split at h
  rotate_left
  · exact h.elim
  rename_i hlk
  have nlt : ∀ p ∈ B.lk, p.1 ∉ tgSlots (.tp is) := fun p hp z => lkB_no (lkB_app hlk).1 _ z p hp rfl
  obtain ⟨ex1, S1⟩ := S.frz (esc ee) (lkB_app hlk).2
  show tP T C G Y ee σ H fun x H1 => tG G (.tp is) x σ H1 D'.nx
  refine st_bind S1 h fun x v H1 P1 S2 hh => ?_
  split at hh
  · rename_i hc
    cases e : tgV (frz E (esc ee)) (.tp is) x.1 x.2.n with
    | bad => rw [e] at hh; exact hh.elim
    | exc c =>
      exfalso
      unfold tgV at e
      split at e <;> cases e
    | ok E' =>
      rw [e] at hh
      exact tG_asg S2 nlt P1 hc e hh
  · exact hh.elim
/-- x = [.. for ..] on one line -/
theorem vs_setLc {i : Nat} {y : Str} {py : Pos} {elt iter : Expr} {ifs : List Expr} {scope : Scope} {own : List (Str × Nat)} {it : It} {t : Tg} {eelt econd : Ex} {spos : Pos} (hc : X.calm = true) (hN : X.N.Nodup) (hy : X.N[i]? = some y) (hyl : X.env.scope.names.lookup y = some .local)
    (hsw : swapsWith (.ListComp elt [⟨tg, iter, ifs, 0⟩] scope pos) (some (.Name y py)) spos.line X.env = pure true) (hi : PI X tg iter (tI T C G Y it)) (ok : BlkOk X.N X.env.scope scope own)
    (ho : ∀ j ∈ tgSlots t, j ∈ own.map (·.2))
    (hg : ∀ (s : Shared) (H : Hp) (K : Addr) (cs : List (Str × Addr)) (fp : List Addr), PG (X.blk s H scope (compEnvC scope cs K X.env) fp) tg (tG G t))
    (ht : ∀ (s : Shared) (H : Hp) (K : Addr) (cs : List (Str × Addr)) (fp : List Addr), PTv T C G Y0 (X.blk s H scope (compEnvC scope cs K X.env) fp) ifs econd)
    (he : ∀ (s : Shared) (H : Hp) (K : Addr) (cs : List (Str × Addr)) (fp : List Addr), PE (X.blk s H scope (compEnvC scope cs K X.env) fp) elt (tP T C G Y0 eelt))
    (hs : ∀ x, foldedSetIterable iter X.env x = pure x) : PS X (.Assign [.Name y py] (.ListComp elt [⟨tg, iter, ifs, 0⟩] scope pos) spos) (tS T W C G Y B (.asg i (.comp eelt t it econd (own.map (·.2))))) := by
  refine PS_weak (ps_setLc hc hN hy hyl hsw hi ok hg (fun s H K cs fp => (ht s H K cs fp).h) he hs) fun D' σ H => ?_
  rintro ⟨ex, E, S, h⟩
  simp only [exec] at h
  split at h
  rotate_left
  · exact h.elim
  rename_i hlk
  obtain ⟨ex1, S1⟩ := S.frz (esc (.comp eelt t it econd (own.map (·.2)))) (lkB_cons hlk).2
  show tLc (tI T C G Y it) (tG G t) (tT T C G Y0 econd) (tP T C G Y0 eelt) (own.map (·.2)) σ H fun x H1 => D'.nx (σ.set i (some x)) H1
  refine comp_core ho (st_bind S1 h fun x v H1 P1 S2 hh => ?_)
  exact asg_ok (lkB_no hlk i List.mem_cons_self) S1 P1 hh
end
end FS

/-! FS13: objects: fields, makers. -/
namespace FS
open PySem L2

/-- an own object outside of what the arguments may hold -/
def iniP (P : Bool → Addr → Prop) (a : Addr) (k : Bool) (b : Addr) : Prop := P k b ∧ b ≠ a
/-- all but a stands -/
def But (a : Addr) (H H' : Hp) : Prop := ∀ b o, b ≠ a → H b = some o → H' b = some o
/-- a maker's promise -/
def spI (G : GT) (C : Fid → List D → R (D × Bool)) (c : Str) : Sp := fun vs H Q W => ∃ (P : Bool → Addr → Prop) (a : Addr) (c' : Str) (Ca dx : Addr) (ds : List D) (r : List V), vs = .ref a :: r ∧ H a = some (.ins Ca dx []) ∧ G.cls c' = some Ca ∧ Reps G (iniP P a) H ds r ∧
  (C (.ini c) (.obj c' [] :: ds)).sat (fun q => ∀ H', But a H H' → (∃ fs dx' ws, q.1 = .obj c' fs ∧ H' a = some (.ins Ca dx' ws) ∧ RepF G (outP H (iniP P a) q.2) H' fs ws) → Q .non H')
    fun e => ∀ H', But a H H' → ∃ Ce, G.ecls e = some Ce ∧ W (.ref Ce) none H'

section
variable {T : Tb} {W : Nat} {C : Fid → List D → R (D × Bool)} {G : GT} {Y : XK} {X : Cx} {B : Bs} {ex : Addr → Prop} {E : SEnv} {σ : St} {H H' : Hp} {a b c o i e k tg iter : Expr} {ea eb ec eo ei ee ek : Ex} {es : List Expr} {ees : Exs} {pos apos cpos px p : Pos} {D' : Ends}
theorem ownO_some {j : Nat} {c : Str} {fs : List (Str × D)} {n : Bool} (h : ownO E j = some (c, fs, n)) : E[j]? = some (some (.own (.obj c fs) n)) := by
  unfold ownO at h
  split at h
  · rename_i e; cases h; exact e
  · cases h
theorem RepF.weak {P P' : Bool → Addr → Prop} {fs : List (Str × D)} {ws : List (Str × V)} (hP : ∀ k a, P k a → P' k a) (h : RepF G P H fs ws) : RepF G P' H fs ws := RepF.mono (fun k a o p e => ⟨hP k a p, e⟩) (fun _ _ _ e => e) fs ws h
theorem RepF.putF {P : Bool → Addr → Prop} {f : Str} {d : D} {v : V} (hr : Rep G P H d v) : ∀ {fs : List (Str × D)} {ws : List (Str × V)}, RepF G P H fs ws → RepF G P H (putO f d fs) (L2.putF f v ws)
  | [], _, h => by
    simp only [RepF] at h
    subst h
    simp only [putO, L2.putF, RepF]
    exact ⟨v, _, rfl, hr, rfl⟩
  | (g, w) :: fs, _, h => by
    simp only [RepF] at h
    obtain ⟨u, r, rfl, p, q⟩ := h
    simp only [putO, L2.putF]
    by_cases e : g = f
    · subst e
      simp only [if_true, RepF]
      exact ⟨v, _, by simp, hr, q⟩
    · rw [if_neg e]
      simp only [RepF]
      exact ⟨u, _, by simp [e], p, RepF.putF hr q⟩
theorem RepF.length {P : Bool → Addr → Prop} : ∀ {fs : List (Str × D)} {ws : List (Str × V)}, RepF G P H fs ws → ws.length = fs.length
  | [], _, h => by simp only [RepF] at h; simp [h]
  | (k, d) :: ds, _, h => by
    simp only [RepF] at h
    obtain ⟨v, r, rfl, _, q⟩ := h
    simp [RepF.length q]
/-- the object that is being made, ready to be written -/
theorem Sim.ownO {j : Nat} {c : Str} {fs : List (Str × D)} {n : Bool} (S : Sim G (B.fr ex) E σ H) (h : FS.ownO E j = some (c, fs, n)) (hl : ∀ p ∈ B.lk, p.1 ≠ j) : ∃ q Ca dx ws, σ[j]? = some (some (.ref q)) ∧ ex q ∧ B.self = some q ∧ G.cls c = some Ca ∧ H q = some (.ins Ca dx ws) ∧ RepF G (cl (B.fr ex) n) H fs ws ∧
    ∀ (fs' : List (Str × D)) (n' : Bool) (H' : Hp) (dx' : Addr) (ws' : List (Str × V)), But q H H' → H' q = some (.ins Ca dx' ws') → RepF G (cl (B.fr ex) n') H' fs' ws' → Sim G (B.fr ex) (putS E j c fs' n') σ H' := by
  have he := ownO_some h
  obtain ⟨v, hv, q, rfl, hx, h0, Ca, dx, ws, h2, h3, h4⟩ := S.slot j _ he
  refine ⟨q, Ca, dx, ws, hv, hx, h0, h3, h2, h4, fun fs' n' H' dx' ws' bt e r => ?_⟩
  exact S.upd he hv hx (.inr h0) hl bt (by rw [e]; simp) (fun u e => by rw [h2] at e; cases e; rfl) ⟨h0, Ca, dx', ws', e, h3, r⟩
/-- self.f = e -/
theorem vs_fld {x f : Str} {pos' : Pos} (hK : X.K = G.K) (hcl : ∀ c Ca, G.cls c = some Ca → Cls G.K Ca ∧ NoAttr G.K Ca f) (hN : X.N[0]? = some x) (hv : Vis X.env.scope x) (hd : (x == ("__debug__" : Str)) = false) (hcd : (x == ("__classdict__" : Str)) = false) (he : PE X e (tP T C G Y ee))
    (hs : swapsWith e (some (.Attribute (.Name x px) f pos')) pos.line X.env = pure false) : PS X (.Assign [.Attribute (.Name x px) f pos'] e pos) (tS T W C G Y B (.fld f ee)) := by
  refine PS_weak (ps_fld (pe_var hN hv hd hcd) he hs) fun D' σ H => ?_
  rintro ⟨ex, E, S, h⟩
  simp only [exec] at h
  split at h
  rotate_left
  · exact h.elim
  rename_i hlk
  have nl := lkB_no hlk 0 List.mem_cons_self
  obtain ⟨ex1, S1⟩ := S.frz (esc ee) (lkB_cons hlk).2
  split at h
  · rename_i c fs n ho
    show tP T C G Y ee σ H fun y H1 => ∃ v, σ[0]? = some (some v) ∧ ∃ a C dx fs, v = .ref a ∧ H1 a = some (.ins C dx fs) ∧ Cls X.K C ∧ NoAttr X.K C f ∧ fs.length < 1000 ∧ D'.nx σ (L2.upd H1 a (.ins C dx (L2.putF f y fs)))
    refine st_bind S1 h fun x v H1 P1 S2 hh => ?_
    split at hh
    · rename_i hc
      obtain ⟨q, Ca, dx, ws, g1, g2, g3, g4, g5, g6, up⟩ := S2.ownO ho nl
      rw [hK]
      have hl := g6.length
      refine ⟨_, g1, q, Ca, dx, ws, rfl, g5, (hcl _ _ g4).1, (hcl _ _ g4).2, by omega, hh _ _ _ (up _ _ _ dx _ (fun b o hb e => by rw [upd_ne hb]; exact e) upd_same ?_)⟩
      have r1 : RepF G (cl (B.fr ex1) (n && (x.2.n || x.1.imm))) H1 fs ws := g6.weak (cl_le fun e => (Bool.and_eq_true_iff.mp e).1)
      have r2 : Rep G (cl (B.fr ex1) (n && (x.2.n || x.1.imm))) H1 x.1 v := (P1.val.keep hc.1).weak (cl_le fun e => (Bool.and_eq_true_iff.mp e).2)
      refine RepF.mono (fun kk b u w e => ⟨w, ?_⟩) (fun b u im e => ?_) _ _ (RepF.putF r2 r1)
      · rw [upd_ne fun z => w.1 (by rw [z]; exact g2)]; exact e
      · rw [upd_ne fun z => by subst z; rw [g5] at e; cases e; cases im]; exact e
    · exact hh.elim
  · exact h.elim

/-! ### makers -/
/-- a class's maker, called by the class's name: C.__init__(self, ..) -/
structure SupF (K : PySem.W.Frag) (Ca f : Addr) (mc : Value) : Prop where
  ga : PySem.W.specialIn K (.ref Ca) "__getattribute__" = some (some (.builtin "type.__getattribute__"))
  rd : PySem.W.readsIn K Ca mc = true
  at_ : PySem.W.findCls K (.ref Ca) mc "__init__" = some (.val (.ref f))
  kp : PySem.W.keepIn K (.ref f) = true
theorem ps_sup {CX : CXT} {n : Nat} {Ca f : Addr} {fd : FuncData} {ps : List Str} {mc : Value} {cn : Str} {pl : Sem Bool} {sp : Sp} {t : TA} (sf : SupF X.K Ca f mc) (Fo : FnOk X.prog X.w X.K X.mg X.base CX n f fd ps sp) (hr : Room n X.A) (hb : Binds X.K fd ps []) (hx : Passes CX X Y) (hg : L2.Gl X cn) (hm : X.mg cn = some (.ref Ca)) (hdb : (cn == ("__debug__" : Str)) = false) (ha : PA X (e :: es) t)
    (hst : starEach (e :: es) X.env = (false, eval e X.env) :: starEach es X.env) (hpl : (backTo pos (starEach es X.env)).any (·.1) = false)
    (ht : eval (.Call (.Attribute (.Name cn px) "__init__" apos) (e :: es) [] pos) X.env = (do
      let ov ← eval (.Name cn px) X.env
      standAt apos.atName
      let (f, first) ← holding [ov] (getMethod ov "__init__" pl)
      callWith pos f first (backTo pos (starEach (e :: es) X.env)) (backToKw pos (keywordEach [] X.env)))) :
    PE X (.Call (.Attribute (.Name cn px) "__init__" apos) (e :: es) [] pos) (tCall sp [] Y t) := by
  refine ⟨fun pins s σ H Q I h => ?_⟩
  refine PySem.W.methodCall_KW (pl := pl) (ld_glob I hg hm ?_ hdb) ht
  refine PySem.W.method_cls I.kIn sf.ga (PySem.W.cls_value I.kIn sf.rd sf.at_ rfl ?_)
  have I1 := I.tok (s.toks + 1)
  refine PySem.W.callWith_K (first := []) (h₀ := X.base) I.ok.mod.kin sf.kp (thn (ha.run pos pins _ σ H _ I1 h) fun us s2 ⟨vs, H2, I2, r, q2⟩ => ⟨I2.kIn, ?_⟩) hst hpl
  exact run_fn (us := us) (vs := vs) (ds := []) (dvs := []) Fo hr hb .nil hx I2 r q2
theorem st_bindA {β : Type} {f : List (D × Fl) → R β} {q : β → Prop} (S : Sim G (B.fr ex) E σ H) (h : ((evl T C ees E).bind f).sat q (wishB G Y B)) {Q : List V → Hp → Prop}
    (k : ∀ xs vs H', Same H H' → Vals' G (B.fr ex) H' vs xs → Sim G (B.fr ex) E σ H' → (f xs).sat q (wishB G Y B) → Q vs H') : tA T C G Y ees σ H Q := by
  rw [R.sat_bind] at h
  exact ⟨_, _, S, R.sat_mono h (fun xs q vs H' s r => k xs vs H' s r (S.same s) q) fun c z => S.wish z⟩
/-- C.__init__(self, ..) -/
theorem vs_sup {CX : CXT} {n : Nat} {Ca f : Addr} {fd : FuncData} {ps : List Str} {mc : Value} {cn x : Str} {pl : Sem Bool} {p1 : Pos} (sf : SupF X.K Ca f mc) (Fo : FnOk X.prog X.w X.K X.mg X.base CX n f fd ps (spI G C cn)) (hr : Room n X.A) (hb : Binds X.K fd ps []) (hx : Passes CX X Y) (hg : L2.Gl X cn) (hm : X.mg cn = some (.ref Ca)) (hdb : (cn == ("__debug__" : Str)) = false)
    (hN : X.N[0]? = some x) (hv : Vis X.env.scope x) (hd : (x == ("__debug__" : Str)) = false) (hcd : (x == ("__classdict__" : Str)) = false) (ha : PA X es (tA T C G Y ees)) (hs : es.all notStar = true)
    (ht : eval (.Call (.Attribute (.Name cn px) "__init__" apos) (.Name x p1 :: es) [] pos) X.env = (do
      let ov ← eval (.Name cn px) X.env
      standAt apos.atName
      let (f, first) ← holding [ov] (getMethod ov "__init__" pl)
      callWith pos f first (backTo pos (starEach (.Name x p1 :: es) X.env)) (backToKw pos (keywordEach [] X.env))))
    (hsw : swapsWith (.Call (.Attribute (.Name cn px) "__init__" apos) (.Name x p1 :: es) [] pos) none cpos.line X.env = pure false) :
    PS X (.Expr (.Call (.Attribute (.Name cn px) "__init__" apos) (.Name x p1 :: es) [] pos) cpos) (tS T W C G Y B (.supi cn ees)) := by
  refine PS_weak (ps_expr (ps_sup sf Fo hr hb hx hg hm hdb (pa_cons (pe_var hN hv hd hcd) ha (star_cons rfl)) (star_cons rfl) (star_any hs) ht) hsw) fun D' σ H => ?_
  rintro ⟨ex, E, S, h⟩
  simp only [exec] at h
  split at h
  rotate_left
  · exact h.elim
  rename_i hlk
  have nl := lkB_no hlk 0 List.mem_cons_self
  split at h
  · rename_i c fs m ho
    obtain ⟨q, Ca', dx, ws, g1, g2, g3, g4, g5, g6, up⟩ := S.ownO ho nl
    refine ⟨_, g1, ?_⟩
    show tA T C G Y ees σ H fun vs H1 => spI G C cn (.ref q :: vs ++ []) H1 (fun _ H' => D'.nx σ H') Y
    refine st_bindA S h fun xs vs H1 s1 r1 S1 h1 => ?_
    obtain ⟨q', Ca2, dx, ws, f1, f2, f3, f4, f5, f6, up⟩ := S1.ownO ho nl
    rw [g1] at f1
    cases f1
    split at h1
    · rename_i hc
      rw [Bool.and_eq_true] at hc
      have hfs : fs = [] := List.isEmpty_iff.mp hc.2
      subst hfs
      have hw : ws = [] := List.length_eq_zero_iff.mp f6.length
      subst hw
      rw [List.append_nil]
      have hne : ∀ n k b, cl (B.fr ex) n k b → b ≠ q := fun n k b w z => w.1 (by rw [z]; exact f2)
      rw [R.sat_bind] at h1
      refine ⟨cl (B.fr ex) (cmb xs).2.n, q, c, Ca2, dx, _, vs, rfl, f5, f4, (cmb_reps r1 hc.1).weak fun k b w => ⟨w, hne _ _ _ w⟩, R.sat_mono h1 (fun z hz H' bt hq => ?_) fun e hw H' bt => hw H' fun b o h2 h3 => bt b o (fun w => h2 (by rw [w]; exact f3)) (S1.ent b o h2 h3)⟩
      obtain ⟨fs', dx', ws', e1, e2, e3⟩ := hq
      rw [e1] at hz
      simp only [if_true] at hz
      refine hz _ _ _ (up fs' _ H' dx' ws' bt e2 (e3.weak fun k b w => ?_))
      rcases w with w | ⟨⟨w1, w2⟩, w3⟩
      · exact S1.new w _ _
      · cases k with
        | false => exact cl_obj w1
        | true =>
          rw [w3 rfl]
          exact cl_le (fun z => by simpa using (Bool.and_eq_true_iff.mp z).2) _ _ w1
    · exact h1.elim
  · exact h.elim
/-- C(..) -/
theorem mk_core {Ca : Addr} {C' : Fid → List D → R (D × Bool)} {c : Str} (hC : ∀ ds, C (.mk c) ds = C' (.ini c) (.obj c [] :: ds)) (hcl : G.cls c = some Ca) {F : Fr} {xs : List (D × Fl)} {vs : List V} {H1 : Hp} {Q : VK} (s1 : Same H H1) (r1 : Vals' G F H1 vs xs) (S1 : Sim G F E σ H1)
    (h1 : ((C (.mk c) (cmb xs).1).bind fun q => callF q (cmb xs).2).sat (fun x => ∀ v H', Post G F H H' x v → Q v H') (wish G Y H1)) (x dx : Addr) (hx : H1 x = none) (hdx : H1 dx = none) (hne : dx ≠ x) :
    spI G C' c (.ref x :: (vs ++ [])) (upd (upd H1 dx (.own x)) x (.ins Ca dx [])) (fun v H2 => v = .non ∧ Q (.ref x) H2) Y := by
  have old : ∀ {b o}, H1 b = some o → (upd (upd H1 dx (.own x)) x (.ins Ca dx [])) b = some o := fun {b o} e => by rw [upd_ne (ne_of_none e hx), upd_ne (ne_of_none e hdx)]; exact e
  have sm : ∀ {H'}, But x (upd (upd H1 dx (.own x)) x (.ins Ca dx [])) H' → Same H1 H' := fun {H'} bt b o e => bt b o (ne_of_none e hx) (old e)
  rw [hC, R.sat_bind] at h1
  rw [List.append_nil]
  refine ⟨argP F (cmb xs).2, x, c, Ca, dx, _, vs, rfl, upd_same, hcl, Reps.mono (fun k b o w e => ⟨⟨w, ne_of_none e hx⟩, old e⟩) (fun b o _ e => old e) _ _ r1.args, R.sat_mono h1 (fun q h2 H' bt hq => ⟨rfl, ?_⟩) fun e hw H' bt => hw H' (sm bt)⟩
  obtain ⟨fs', dx', ws', e1, e2, e3⟩ := hq
  obtain ⟨z, ez, kz⟩ := sat_of h2 (callF_ne _ _)
  refine kz _ _ (Post.trans s1 (callF_post S1 (sm bt) ?_ (fun _ => ?_) ez))
  · rw [e1]
    simp only [Rep]
    refine ⟨x, Ca, dx', ws', rfl, .inl hx, e2, hcl, e3.weak fun k b w => ?_⟩
    rcases w with w | ⟨⟨w1, w2⟩, w3⟩
    · refine .inl ?_
      cases z : H1 b with
      | none => rfl
      | some o => rw [old z] at w; cases w
    · exact .inr ⟨w1, w3⟩
  · rw [e1]
    exact True.intro
section
variable {CX : CXT} {n : Nat} {Ca f : Addr} {fd : FuncData} {ps : List Str} {C' : Fid → List D → R (D × Bool)} {c : Str}
theorem ve_mk (hC : ∀ ds, C (.mk c) ds = C' (.ini c) (.obj c [] :: ds)) (hcl : G.cls c = some Ca) (M : Mk X.K Ca f) (Fo : FnOk X.prog X.w X.K X.mg X.base CX n f fd ps (spI G C' c)) (hr : Room (n + 1) X.A) (hg : L2.Gl X c) (hm : X.mg c = some (.ref Ca)) (hb : Binds X.K fd ps []) (hx : Passes CX X Y)
    (hd : (c == ("__debug__" : Str)) = false) (hs : (e :: es).all notStar = true) (ha : PA X (e :: es) (tA T C G Y ees)) : PE X (.Call (.Name c p) (e :: es) [] pos) (tP T C G Y (.call (.mk c) ees)) := by
  rw [List.all_cons, Bool.and_eq_true] at hs
  refine PE_weak (pe_make M Fo hr hg hm hb .nil hx ha hd (star_cons hs.1) (star_any hs.2)) fun σ H Q ⟨F, E, S, h⟩ => ?_
  simp only [ev] at h
  show tA T C G Y ees σ H fun vs H1 => ∀ x dx, H1 x = none → H1 dx = none → dx ≠ x → spI G C' c (.ref x :: (vs ++ [])) (upd (upd H1 dx (.own x)) x (.ins Ca dx [])) (fun v H2 => v = .non ∧ Q (.ref x) H2) Y
  exact tA_bind S h fun xs vs H1 s1 r1 S1 h1 x dx hx hdx hne => mk_core hC hcl s1 r1 S1 h1 x dx hx hdx hne
theorem ve_mk0 (hC : ∀ ds, C (.mk c) ds = C' (.ini c) (.obj c [] :: ds)) (hcl : G.cls c = some Ca) (M : Mk X.K Ca f) (Fo : FnOk X.prog X.w X.K X.mg X.base CX n f fd ps (spI G C' c)) (hr : Room (n + 1) X.A) (hg : L2.Gl X c) (hm : X.mg c = some (.ref Ca)) (hb : Binds X.K fd ps []) (hx : Passes CX X Y)
    (hd : (c == ("__debug__" : Str)) = false) : PE X (.Call (.Name c p) [] [] pos) (tP T C G Y (.call (.mk c) .nil)) := by
  refine PE_weak (pe_make0 M Fo hr hg hm hb .nil hx hd) fun σ H Q ⟨F, E, S, h⟩ => ?_
  simp only [ev, evl] at h
  exact fun x dx hx hdx hne => mk_core (xs := []) (vs := []) hC hcl (Same.refl _) .nil S h x dx hx hdx hne
end
end
end FS

/-! FS14: from a written expression to a stripped one, with all that must be looked at; that it is sound. -/
namespace FS
open PySem L2

/-- where a text stands -/
structure Kx where
  N : List Str
  sc : Scope
  fn : Str → Bool
/-- the names that are known -/
structure Nm where
  con : List Str
  fns : List Str
  mks : List Str
  cls : List Str
  att : List Str
  mth : List Str
  sup : List Str
  exc : List Str
def blts : List Str := ["len", "list", "tuple", "sorted", "sum", "max", "min", "all", "any", "set", "range", "isinstance", "int", "bool", "str", "enumerate", "zip"]

def Kx.blk (K : Kx) (scope : Scope) : Kx := ⟨K.N, relS scope K.sc, fun x => scope.names.lookup x == some .cell⟩
def okN (x : Str) : Bool := !(x == ("__debug__" : Str)) && !(x == ("__classdict__" : Str))
def visB (K : Kx) (x : Str) : Bool := K.sc.names.lookup x == some .local || K.sc.names.lookup x == some .cell || K.sc.names.lookup x == some .free
def locB (K : Kx) (x : Str) : Bool := K.sc.names.lookup x == some .local || K.sc.names.lookup x == some .cell
def gloB (K : Kx) (x : Str) : Bool := K.sc.names.lookup x == some .globalImplicit && !(x == ("__debug__" : Str))
def stoB (K : Kx) (x : Str) : Bool := locB K x && (K.fn x || K.sc.names.lookup x == some .local)
def ixF (x : Str) : List Str → Option Nat
  | [] => none
  | y :: ys => if y = x then some 0 else (ixF x ys).map (· + 1)
theorem ixF_get {x : Str} : ∀ {N : List Str} {i : Nat}, ixF x N = some i → N[i]? = some x
  | [], _, h => by simp [ixF] at h
  | y :: ys, i, h => by
    unfold ixF at h
    split at h
    · rename_i e
      cases h
      simp [e]
    · cases hx : ixF x ys with
      | none => rw [hx] at h; cases h
      | some j =>
        rw [hx] at h
        cases h
        simpa using ixF_get hx
theorem ixF_none {x : Str} : ∀ {N : List Str}, ixF x N = none → x ∉ N
  | [], _ => by simp
  | y :: ys, h => by
    unfold ixF at h
    split at h
    · cases h
    · rename_i e
      cases hx : ixF x ys with
      | none =>
        rw [List.mem_cons, not_or]
        exact ⟨fun z => e z.symm, ixF_none hx⟩
      | some j => rw [hx] at h; cases h

/-! ### compiling -/
def cName (M : Nm) (K : Kx) (x : Str) : Option Ex := if visB K x && okN x then (ixF x K.N).map Ex.var else if gloB K x && M.con.contains x then some (.glb x) else none
def cCon : Const → Option Ex
  | .int i => some (.con (.int i))
  | .bool i => some (.con (.bl i))
  | .none => some (.con .non)
  | .str i => some (.con (.str i))
  | _ => none
def opOk : Operator → Bool
  | .Add | .Sub | .Mult | .Mod | .FloorDiv | .LShift | .RShift | .Pow | .BitAnd | .BitOr | .BitXor => true
  | _ => false
def cBin (op : Operator) (a b : Option Ex) : Option Ex := if opOk op then a.bind fun x => b.map fun y => .bin op x y else none
/-- what may stand as a test -/
def tst : Expr → Bool
  | .IfExp .. => false
  | .NamedExpr .. => false
  | _ => true
def cUn (op : UnaryOp) (a : Expr) (ea : Option Ex) : Option Ex := match op with
  | .USub => ea.map (.un .USub)
  | .Invert => ea.map (.un .Invert)
  | .Not => if tst a then ea.map (.un .Not) else none
  | _ => none
def cBool (r : Expr → Option Ex) (op : BoolOp) : List Expr → Option Ex
  | [] => none
  | [a] => if tst a then r a else none
  | a :: rest => if tst a then (r a).bind fun x => (cBool r op rest).map fun y => match op with
    | .And => .and x y
    | .Or => .or x y
    else none
def cCmp (r : Expr → Option Ex) (a : Expr) (ops : List CmpOp) (bs : List Expr) : Option Ex := match ops, bs with
  | [op], [b] => if behindInMarks op b then none else (r a).bind fun x => (r b).map fun y => .cmp op x y
  | [op, op'], [b, c] => if lastMarks [op, op'] [b, c] then none else (r a).bind fun x => (r b).bind fun y => (r c).map fun z => .chn op op' x y z
  | _, _ => none
def cL (r : Expr → Option Ex) : List Expr → Option Exs
  | [] => some .nil
  | e :: es => if notStar e then (r e).bind fun x => (cL r es).map fun xs => .cons x xs else none
def isSet : Expr → Bool
  | .Set .. => true
  | _ => false
def cTg (K : Kx) : Expr → Option Tg
  | .Name x _ => if stoB K x then (ixF x K.N).map Tg.nm else none
  | .Tuple [.Name x _, .Name y _] _ _ => if stoB K x && stoB K y then (ixF x K.N).bind fun i => (ixF y K.N).map fun j => .tp [i, j] else none
  | _ => none
def cIt (r : Expr → Option Ex) (K : Kx) : Expr → Option It
  | .Call (.Name x p) args [] pos => if x = "range" then
      (if gloB K x then match args with
        | [b] => if notStar b then (r b).map .rng1 else none
        | [a, b] => if notStar a && notStar b then (r a).bind fun x => (r b).map fun y => .rng x y else none
        | _ => none
      else none)
    else (r (.Call (.Name x p) args [] pos)).map .seq
  | e => (r e).map .seq
def ownF (N : List Str) : List (Str × NameKind) → List (Str × Nat)
  | [] => []
  | (x, k) :: r => if k == .local || k == .cell then (match ixF x N with
      | some i => (x, i) :: ownF N r
      | none => ownF N r)
    else ownF N r
def blkB (K : Kx) (scope : Scope) : Bool := scope.kind == .function && scope.names.all (fun y => scope.names.lookup y.1 == some y.2) && scope.names.all fun y => !(y.2 == .free) || K.sc.names.lookup y.1 == some .cell || K.sc.names.lookup y.1 == some .free
def cIfs (rb : Expr → Option Ex) : List Expr → Option Ex
  | [] => some (.con (.bl true))
  | [c] => if tst c then rb c else none
  | _ => none
def cComp (r rb : Expr → Option Ex) (K : Kx) (elt : Expr) (gens : List Comprehension) (scope : Scope) : Option Ex := match gens with
  | [⟨tg, iter, ifs, 0⟩] => if blkB K scope && !isSet iter then
      (cTg (K.blk scope) tg).bind fun t => (cIt r K iter).bind fun it => (cIfs rb ifs).bind fun cond => (rb elt).bind fun e =>
          if (tgSlots t).all ((ownF K.N scope.names).map (·.2)).contains then some (.comp e t it cond ((ownF K.N scope.names).map (·.2))) else none
    else none
  | _ => none
def biOf (x : Str) : Option Bi :=
  if x = "len" then some .len else if x = "list" then some .list else if x = "tuple" then some .tuple else if x = "sorted" then some .sorted else if x = "sum" then some .sum
  else if x = "max" then some .max else if x = "min" then some .min else if x = "all" then some .all else if x = "any" then some .any else none
def tyOf (M : Nm) (x : Str) : Option Ty :=
  if x = "int" then some .int else if x = "bool" then some .bool else if x = "list" then some .list else if x = "tuple" then some .tuple else if x = "str" then some .str
  else if M.cls.contains x then some (.cls x) else none
def setArg : List Expr → Option Expr
  | [.Call (.Name y _) [a] [] _] => if y = "set" then some a else none
  | _ => none
def isiArg : List Expr → Option (Expr × Str)
  | [e, .Name y _] => some (e, y)
  | _ => none
def cCallN (M : Nm) (r : Expr → Option Ex) (K : Kx) (x : Str) (as : List Expr) : Option Ex :=
  if gloB K x then
    (if x = "len" ∧ (setArg as).isSome then (setArg as).bind fun a => if notStar a && gloB K "set" then (r a).map fun y => .bi .lenset (.cons y .nil) else none
    else if x = "isinstance" then (isiArg as).bind fun (p : Expr × Str) => if notStar p.1 && gloB K p.2 then (tyOf M p.2).bind fun t => (r p.1).map fun y => .bi (.isi t) (.cons y .nil) else none
    else if M.fns.contains x then (cL r as).map fun xs => .call (.fn x) xs
    else if M.mks.contains x then (cL r as).map fun xs => .call (.mk x) xs
    else match biOf x, as with
      | some b, _ :: _ => (cL r as).map fun xs => .bi b xs
      | _, _ => none)
  else none
def cCallM (M : Nm) (r : Expr → Option Ex) (o : Expr) (m : Str) (as : List Expr) (apos pos : Pos) : Option Ex :=
  if attrPlain o && apos.endLine == pos.line && decide (as.length < 29) then
    (if M.mth.contains m then (r o).bind fun x => (cL r as).map fun xs => .mth x m xs
    else if m = "count" then (match as with
      | [a] => if notStar a then (r o).bind fun x => (r a).map fun y => .rcv .count x (.cons y .nil) else none
      | _ => none)
    else none)
  else none
def cSub (r : Expr → Option Ex) (o i : Expr) : Option Ex := match i with
  | .Slice none none (some (.UnaryOp .USub (.Constant (.int 1) _ _) _)) _ => (r o).map .rev
  | .Slice (some lo) none none _ => (r o).bind fun x => (r lo).map fun y => .slc x y (.con .non)
  | .Slice none (some hi) none _ => (r o).bind fun x => (r hi).map fun y => .slc x (.con .non) y
  | i => if notSlice i then (r o).bind fun x => (r i).map fun y => .idx x y else none
def cE1 (M : Nm) (rec : Kx → Expr → Option Ex) (K : Kx) : Expr → Option Ex
  | .Name x _ => cName M K x
  | .Constant c _ _ => cCon c
  | .BinOp a op b _ => cBin op (rec K a) (rec K b)
  | .UnaryOp op a _ => cUn op a (rec K a)
  | .BoolOp op es _ => cBool (rec K) op es
  | .IfExp c a b _ => if tst c then (rec K c).bind fun x => (rec K a).bind fun y => (rec K b).map fun z => .ite x y z else none
  | .Compare a ops bs _ => cCmp (rec K) a ops bs
  | .List es _ => (cL (rec K) es).bind fun x => if exsLen x ≤ lim then some (.lst x) else none
  | .Tuple es _ _ => (cL (rec K) es).bind fun x => if exsLen x ≤ lim then some (.tup x) else none
  | .ListComp elt gens scope _ => cComp (rec K) (rec (K.blk scope)) K elt gens scope
  | .Call (.Name x _) as [] _ => cCallN M (rec K) K x as
  | .Call (.Attribute o m apos) as [] pos => cCallM M (rec K) o m as apos pos
  | .Attribute o f _ => if attrPlain o && M.att.contains f then (rec K o).map fun x => .att x f else none
  | .Subscript o i _ => cSub (rec K) o i
  | _ => none
def cE (M : Nm) : Nat → Kx → Expr → Option Ex
  | 0 => fun _ _ => none
  | n + 1 => cE1 M (cE M n)

/-! ### what is known of the names -/
structure GoodB (M : Nm) (T : Tb) (C : Fid → List D → R (D × Bool)) (G : GT) (n : Nat) (P : Program) (w : World) (mg : Str → Option Value) (base : Heap) : Prop where
  con : ∀ x ∈ M.con, ∃ d v u, T.con x = some d ∧ mg x = some u ∧ RelV v u ∧ ∀ F H, Post G F H H (mkI d) v
  fns : ∀ x ∈ M.fns, ∃ f fd ps, FnOk P w G.K mg base (L2.CX P w) n f fd ps (spC G C (.fn x)) ∧ mg x = some (.ref f) ∧ PySem.W.keepIn G.K (.ref f) = true ∧ Binds G.K fd ps []
  mks : ∀ c ∈ M.mks, ∃ C' k Ca f fd ps, k + 1 ≤ n ∧ (∀ ds, C (.mk c) ds = C' (.ini c) (.obj c [] :: ds)) ∧ G.cls c = some Ca ∧ Mk G.K Ca f ∧ FnOk P w G.K mg base (L2.CX P w) k f fd ps (spI G C' c) ∧ mg c = some (.ref Ca) ∧ Binds G.K fd ps []
  sup : ∀ c ∈ M.sup, ∃ Ca f fd ps mc, SupF G.K Ca f mc ∧ FnOk P w G.K mg base (L2.CX P w) n f fd ps (spI G C c) ∧ mg c = some (.ref Ca) ∧ Binds G.K fd ps []
  cls : ∀ c ∈ M.cls, ∃ Ca, G.cls c = some Ca ∧ mg c = some (.ref Ca)
  isi : ∀ c Ca, G.cls c = some Ca → IsF T G c Ca
  att : ∀ f ∈ M.att, ∀ c Ca, G.cls c = some Ca → NoAttr G.K Ca f
  mth : ∀ m ∈ M.mth, (∀ c Ca b, G.cls c = some Ca → T.mro c m = some b → MethF T C G P w mg base (L2.CX P w) n m c b Ca) ∧ ∃ c b, T.mro c m = some b
  hC : ∀ m c b, T.mro c m = some b → ∃ Ca, G.cls c = some Ca
  blt : ∀ x ∈ blts, mg x = none
  exc : ∀ c ∈ M.exc, ∃ Ca Bn newId initId bmB, ExcBaseFacts Bn newId initId bmB ∧ PySem.W.excIn G.K Ca bmB newId = true ∧ mg c = some (.ref Ca) ∧ PySem.W.keepIn G.K (.ref Ca) = true ∧ G.ecls c = some Ca ∧ ∀ X : Cx, X.K = G.K → Raises X (.ref Ca)
structure Good (M : Nm) (T : Tb) (C : Fid → List D → R (D × Bool)) (G : GT) (n : Nat) (Y : XK) (K : Kx) (X : Cx) : Prop where
  b : GoodB M T C G n X.prog X.w X.mg X.base
  hK : X.K = G.K
  N : X.N = K.N
  nd : K.N.Nodup
  sc : X.env.scope = K.sc
  kind : K.sc.kind = .function
  fn : ∀ x, K.fn x = true → X.fn x = true
  calm : X.calm = true
  room : Room n X.A
  px : Passes (L2.CX X.prog X.w) X Y
section
variable {M : Nm} {T : Tb} {C : Fid → List D → R (D × Bool)} {G : GT} {n : Nat} {Y : XK} {K : Kx} {X : Cx}
theorem pass_Y0 {X : Cx} : Passes (L2.CX X.prog X.w) X Y0 := fun pins σ H s e s' I c => by
  obtain ⟨_, _, _, _, _, _, _, _, _, _, _, _, z⟩ := c
  exact z.elim
/-- a block within -/
theorem Good.blk (g : Good M T C G n Y K X) {scope : Scope} (hb : blkB K scope = true) (s : Shared) (H : Hp) (Ka : Addr) (cs : List (Str × Addr)) (fp : List Addr) : Good M T C G n Y0 (K.blk scope) (X.blk s H scope (compEnvC scope cs Ka X.env) fp) where
  b := g.b
  hK := g.hK
  N := g.N
  nd := g.nd
  sc := by show relS scope X.env.scope = relS scope K.sc; rw [g.sc]
  kind := by
    unfold blkB at hb
    simp only [Bool.and_eq_true, beq_iff_eq] at hb
    exact hb.1.1
  fn := fun x h => h
  calm := g.calm
  room := g.room
  px := pass_Y0
theorem Good.vis (g : Good M T C G n Y K X) {x : Str} (h : visB K x = true) : Vis X.env.scope x := by
  rw [g.sc]
  unfold visB at h
  simp only [Bool.or_eq_true, beq_iff_eq] at h
  rcases h with (h | h) | h
  · exact .inl h
  · exact .inr (.inl h)
  · exact .inr (.inr h)
theorem Good.glo (g : Good M T C G n Y K X) {x : Str} (h : gloB K x = true) : L2.Gl X x ∧ (x == ("__debug__" : Str)) = false := by
  unfold gloB at h
  simp only [Bool.and_eq_true, beq_iff_eq, Bool.not_eq_true'] at h
  refine ⟨?_, h.2⟩
  show X.env.scope.names.lookup x = _
  rw [g.sc]
  exact h.1
theorem Good.sto (g : Good M T C G n Y K X) {x : Str} (h : stoB K x = true) : Loc X.env.scope x ∧ (X.fn x = true ∨ X.env.scope.names.lookup x = some .local) := by
  unfold stoB locB at h
  simp only [Bool.and_eq_true, Bool.or_eq_true, beq_iff_eq] at h
  rw [g.sc]
  exact ⟨h.1, h.2.imp (g.fn x) id⟩
theorem Good.ix (g : Good M T C G n Y K X) {x : Str} {i : Nat} (h : ixF x K.N = some i) : X.N[i]? = some x := by rw [g.N]; exact ixF_get h
theorem Good.nodup (g : Good M T C G n Y K X) : X.N.Nodup := by rw [g.N]; exact g.nd
theorem okN_1 {x : Str} (h : okN x = true) : (x == ("__debug__" : Str)) = false ∧ (x == ("__classdict__" : Str)) = false := by
  unfold okN at h
  simp only [Bool.and_eq_true, Bool.not_eq_true'] at h
  exact h

/-- a compiler of expressions that is sound -/
def Snd (M : Nm) (T : Tb) (C : Fid → List D → R (D × Bool)) (G : GT) (n : Nat) (K : Kx) (r : Expr → Option Ex) : Prop := ∀ e ee, r e = some ee → ∀ X Y, Good M T C G n Y K X → PE X e (tP T C G Y ee) ∧ (tst e = true → PT X e (tT T C G Y ee))
variable {r : Expr → Option Ex}
theorem s_name {x : Str} {p : Pos} {ee : Ex} (h : cName M K x = some ee) (g : Good M T C G n Y K X) : PE X (.Name x p) (tP T C G Y ee) := by
  unfold cName at h
  split at h
  · rename_i h1
    rw [Bool.and_eq_true] at h1
    obtain ⟨i, e, rfl⟩ := Option.map_eq_some_iff.mp h
    exact ve_var (g.ix e) (g.vis h1.1) (okN_1 h1.2).1 (okN_1 h1.2).2
  · split at h
    · rename_i h1
      rw [Bool.and_eq_true] at h1
      cases h
      obtain ⟨d, v, u, h3, h4, h5, h6⟩ := g.b.con x (by simpa using h1.2)
      exact ve_glb h3 (g.glo h1.1).1 h4 h5 (g.glo h1.1).2 h6
    · cases h
theorem s_con {c : Const} {j : Nat} {p : Pos} {ee : Ex} (h : cCon c = some ee) : PE X (.Constant c j p) (tP T C G Y ee) := by
  unfold cCon at h
  split at h <;> cases h
  · exact ve_int
  · exact ve_bl
  · exact ve_non
  · exact ve_str
theorem s_bin {op : Operator} {a b : Expr} {p : Pos} {ee : Ex} (hr : Snd M T C G n K r) (h : cBin op (r a) (r b) = some ee) (g : Good M T C G n Y K X) : PE X (.BinOp a op b p) (tP T C G Y ee) := by
  unfold cBin at h
  split at h
  · rename_i ho
    obtain ⟨x, e1, h⟩ := Option.bind_eq_some_iff.mp h
    obtain ⟨y, e2, rfl⟩ := Option.map_eq_some_iff.mp h
    have h1 := (hr _ _ e1 X Y g).1
    have h2 := (hr _ _ e2 X Y g).1
    cases op <;> first | (cases ho; done) | skip
    · exact ve_add h1 h2
    · exact ve_sub h1 h2
    · exact ve_mul h1 h2
    · exact ve_mod h1 h2
    · exact ve_pow h1 h2
    · exact ve_shl h1 h2
    · exact ve_shr h1 h2
    · exact ve_bor h1 h2
    · exact ve_bxor h1 h2
    · exact ve_band h1 h2
    · exact ve_fdiv h1 h2
  · cases h
theorem s_un {op : UnaryOp} {a : Expr} {p : Pos} {ee : Ex} (hr : Snd M T C G n K r) (h : cUn op a (r a) = some ee) (g : Good M T C G n Y K X) : PE X (.UnaryOp op a p) (tP T C G Y ee) ∧ PT X (.UnaryOp op a p) (tT T C G Y ee) := by
  unfold cUn at h
  split at h
  · obtain ⟨x, e1, rfl⟩ := Option.map_eq_some_iff.mp h
    have := ve_neg (pos := p) (hr _ _ e1 X Y g).1
    exact ⟨this, vt_val this fun _ => rfl⟩
  · obtain ⟨x, e1, rfl⟩ := Option.map_eq_some_iff.mp h
    have := ve_inv (pos := p) (hr _ _ e1 X Y g).1
    exact ⟨this, vt_val this fun _ => rfl⟩
  · split at h
    · rename_i ht
      obtain ⟨x, e1, rfl⟩ := Option.map_eq_some_iff.mp h
      exact ⟨ve_not (hr _ _ e1 X Y g).1, vt_not ((hr _ _ e1 X Y g).2 ht)⟩
    · cases h
  · cases h
theorem s_bool {op : BoolOp} {p : Pos} (hr : Snd M T C G n K r) (g : Good M T C G n Y K X) : ∀ {es : List Expr} {ee : Ex}, cBool r op es = some ee → PE X (.BoolOp op es p) (tP T C G Y ee) ∧ PW X (.BoolOp op es p) (tT T C G Y ee)
  | [], _, h => by simp [cBool] at h
  | [a], ee, h => by
    unfold cBool at h
    split at h
    · rename_i ht
      have q := hr _ _ h X Y g
      refine ⟨pe_one q.1, ?_⟩
      cases op with
      | And => exact vt_and1 (q.2 ht)
      | Or => exact vt_or1 (q.2 ht)
    · cases h
  | a :: b :: rest, ee, h => by
    unfold cBool at h
    split at h
    · rename_i ht
      obtain ⟨x, e1, h⟩ := Option.bind_eq_some_iff.mp h
      obtain ⟨y, e2, e3⟩ := Option.map_eq_some_iff.mp h
      have q := hr _ _ e1 X Y g
      have ih := s_bool (p := p) hr g (es := b :: rest) e2
      cases op with
      | And => subst e3; exact ⟨ve_and q.1 ih.1, vt_and (q.2 ht) ih.2⟩
      | Or => subst e3; exact ⟨ve_or q.1 ih.1, vt_or (q.2 ht) ih.2⟩
    · cases h
theorem Good.un65 (g : Good M T C G n Y K X) : X.A.units + 65 < cLine := by
  have := g.room.un
  have e : cLine = 9900 := by first | rfl | decide
  omega
end
end FS

/-! FS15: that the compiler of expressions is sound. -/
namespace FS
open PySem L2

section
variable {T : Tb} {C : Fid → List D → R (D × Bool)} {G : GT} {Y : XK} {X : Cx} {a b c : Expr} {ea eb ec : Ex} {pos : Pos}
theorem vt_chn {op op' : CmpOp} (hK : X.K = G.K) (hu : X.A.units + 65 < cLine) (hm : lastMarks [op, op'] [b, c] = false) (ha : PE X a (tP T C G Y ea)) (hb : PE X b (tP T C G Y eb)) (hc : PE X c (tP T C G Y ec)) : PT X (.Compare a [op, op'] [b, c] pos) (tT T C G Y (.chn op op' ea eb ec)) := by
  refine PT_weak (pt_chain (op_cmp hu op) (op_cmp hu op') ha hb hc hm) fun σ H Q ⟨F, E, S, h⟩ => ?_
  simp only [ev] at h
  show tChain (rCmp X.K op) (rCmp X.K op') (tP T C G Y ea) (tP T C G Y eb) (tP T C G Y ec) σ H fun x H' => ∃ k, x = .bl k ∧ Q k H'
  refine tP_bind S h fun x v H1 P1 S1 h1 => tP_bind S1 h1 fun y u H2 P2 S2 h2 => ?_
  rw [R.sat_bind] at h2
  obtain ⟨k, e, q⟩ := sat_of h2 (cmp_ne op _ _)
  rw [hK]
  refine cmV op F H2 x y v u k _ (P1.val.same P2.same) P2.val e ⟨k, rfl, ?_⟩
  cases k with
  | false =>
    rw [if_neg Bool.false_ne_true]
    rw [if_neg Bool.false_ne_true] at q
    obtain ⟨k', e', q⟩ := q
    simp only [mkI, D.bl.injEq] at e'
    subst e'
    exact ⟨_, rfl, q _ (P1.same.trans P2.same)⟩
  | true =>
    rw [if_pos rfl]
    rw [if_pos rfl] at q
    refine tP_bind S2 q fun z w H3 P3 S3 h3 => ?_
    rw [R.sat_bind] at h3
    obtain ⟨k', e', k2, e2, q'⟩ := sat_of h3 (cmp_ne op' _ _)
    simp only [mkI, D.bl.injEq] at e2
    subst e2
    exact cmV op' F H3 y z u w k' _ (P2.val.same P3.same) P3.val e' ⟨k', rfl, q' _ ((P1.same.trans P2.same).trans P3.same)⟩
end
section
variable {M : Nm} {T : Tb} {C : Fid → List D → R (D × Bool)} {G : GT} {n : Nat} {Y : XK} {K : Kx} {X : Cx} {r rb : Expr → Option Ex} {pos p apos : Pos} {ee : Ex}
theorem s_cmp {a : Expr} {ops : List CmpOp} {bs : List Expr} (hr : Snd M T C G n K r) (h : cCmp r a ops bs = some ee) (g : Good M T C G n Y K X) : PE X (.Compare a ops bs p) (tP T C G Y ee) ∧ PT X (.Compare a ops bs p) (tT T C G Y ee) := by
  unfold cCmp at h
  split at h
  · split at h
    · cases h
    · rename_i hm
      obtain ⟨x, e1, h⟩ := Option.bind_eq_some_iff.mp h
      obtain ⟨y, e2, rfl⟩ := Option.map_eq_some_iff.mp h
      have h1 := (hr _ _ e1 X Y g).1
      have h2 := (hr _ _ e2 X Y g).1
      have hm := Bool.eq_false_iff.mpr hm
      exact ⟨ve_cmp g.hK g.un65 hm h1 h2, vt_cmp g.hK g.un65 hm h1 h2⟩
  · split at h
    · cases h
    · rename_i hm
      obtain ⟨x, e1, h⟩ := Option.bind_eq_some_iff.mp h
      obtain ⟨y, e2, h⟩ := Option.bind_eq_some_iff.mp h
      obtain ⟨z, e3, rfl⟩ := Option.map_eq_some_iff.mp h
      have h1 := (hr _ _ e1 X Y g).1
      have h2 := (hr _ _ e2 X Y g).1
      have h3 := (hr _ _ e3 X Y g).1
      have hm := Bool.eq_false_iff.mpr hm
      exact ⟨ve_chn g.hK g.un65 hm h1 h2 h3, vt_chn g.hK g.un65 hm h1 h2 h3⟩
  · cases h
theorem s_list (hr : Snd M T C G n K r) (g : Good M T C G n Y K X) : ∀ {es : List Expr} {ees : Exs}, cL r es = some ees → PA X es (tA T C G Y ees) ∧ es.all notStar = true
  | [], _, h => by
    simp only [cL] at h
    cases h
    exact ⟨va_nil, rfl⟩
  | e :: es, ees, h => by
    unfold cL at h
    split at h
    · rename_i hs
      obtain ⟨x, e1, h⟩ := Option.bind_eq_some_iff.mp h
      obtain ⟨y, e2, rfl⟩ := Option.map_eq_some_iff.mp h
      have ih := s_list hr g e2
      exact ⟨va_cons hs (hr _ _ e1 X Y g).1 ih.1, by rw [List.all_cons, hs, ih.2]; rfl⟩
    · cases h
/-! ### comprehensions -/
theorem fold_no {e : Expr} {env : PySem.Env} {x : Value} (h : isSet e = false) : foldedSetIterable e env x = pure x := by
  cases e <;> first | rfl | cases h
theorem s_tg {tg : Expr} {t : Tg} (h : cTg K tg = some t) (g : Good M T C G n Y K X) : PG X tg (tG G t) := by
  unfold cTg at h
  split at h
  · split at h
    · rename_i hs
      obtain ⟨i, e, rfl⟩ := Option.map_eq_some_iff.mp h
      exact vg_name g.nodup (g.ix e) (g.sto hs).1 (g.sto hs).2
    · cases h
  · split at h
    · rename_i hs
      rw [Bool.and_eq_true] at hs
      obtain ⟨i, e1, h⟩ := Option.bind_eq_some_iff.mp h
      obtain ⟨j, e2, rfl⟩ := Option.map_eq_some_iff.mp h
      exact vg_tup2 g.hK g.calm g.nodup (g.ix e1) (g.sto hs.1).1 (g.sto hs.1).2 (g.ix e2) (g.sto hs.2).1 (g.sto hs.2).2
    · cases h
  · cases h
theorem blt_mem {x : Str} (g : Good M T C G n Y K X) (h : x ∈ blts) : X.mg x = none := g.b.blt x h
theorem s_it {iter : Expr} {it : It} {tg : Expr} (hr : Snd M T C G n K r) (h : cIt r K iter = some it) (g : Good M T C G n Y K X) : PI X tg iter (tI T C G Y it) := by
  unfold cIt at h
  split at h
  · split at h
    · rename_i hx
      subst hx
      split at h
      · rename_i hg
        have gl := g.glo hg
        have gm := blt_mem g (x := "range") (by decide)
        split at h
        · split at h
          · rename_i hs
            obtain ⟨y, e1, rfl⟩ := Option.map_eq_some_iff.mp h
            exact vi_rng1 gl.1 gm hs (hr _ _ e1 X Y g).1
          · cases h
        · split at h
          · rename_i hs
            rw [Bool.and_eq_true] at hs
            obtain ⟨x, e1, h⟩ := Option.bind_eq_some_iff.mp h
            obtain ⟨y, e2, rfl⟩ := Option.map_eq_some_iff.mp h
            exact vi_rng2 gl.1 gm hs.1 hs.2 (hr _ _ e1 X Y g).1 (hr _ _ e2 X Y g).1
          · cases h
        · cases h
      · cases h
    · obtain ⟨x, e1, rfl⟩ := Option.map_eq_some_iff.mp h
      exact vi_seq g.hK (hr _ _ e1 X Y g).1
  · obtain ⟨x, e1, rfl⟩ := Option.map_eq_some_iff.mp h
    exact vi_seq g.hK (hr _ _ e1 X Y g).1
theorem ownF_ix {N : List Str} : ∀ {l : List (Str × NameKind)}, ∀ q ∈ ownF N l, N[q.2]? = some q.1
  | [], q, h => by simp [ownF] at h
  | (x, k) :: l, q, h => by
    unfold ownF at h
    split at h
    · split at h
      · rename_i i e
        rcases List.mem_cons.mp h with h | h
        · subst h
          exact ixF_get e
        · exact ownF_ix q h
      · exact ownF_ix q h
    · exact ownF_ix q h
theorem ownF_all {N : List Str} : ∀ {l : List (Str × NameKind)}, ∀ y ∈ l, y.2 = .local ∨ y.2 = .cell → y.1 ∈ (ownF N l).map (·.1) ∨ y.1 ∉ N
  | [], y, h, _ => by simp at h
  | (x, k) :: l, y, h, hk => by
    have up : (y.1 ∈ (ownF N l).map (·.1) ∨ y.1 ∉ N) → (y.1 ∈ (ownF N ((x, k) :: l)).map (·.1) ∨ y.1 ∉ N) := fun z => by
      refine z.imp (fun z => ?_) id
      unfold ownF
      split
      · split
        · exact List.mem_cons_of_mem _ z
        · exact z
      · exact z
    rcases List.mem_cons.mp h with h | h
    · subst h
      unfold ownF
      have : (k == NameKind.local || k == NameKind.cell) = true := by
        rcases hk with z | z <;> simp only at z <;> subst z <;> rfl
      rw [if_pos this]
      cases e : ixF x N with
      | none => exact .inr (ixF_none e)
      | some i => exact .inl (by simp)
    · exact up (ownF_all y h hk)
theorem blk_ok {scope : Scope} (hb : blkB K scope = true) (g : Good M T C G n Y K X) : BlkOk X.N X.env.scope scope (ownF K.N scope.names) := by
  unfold blkB at hb
  simp only [Bool.and_eq_true, beq_iff_eq, List.all_eq_true, Bool.or_eq_true, Bool.not_eq_true', beq_eq_false_iff_ne] at hb
  obtain ⟨⟨h1, h2⟩, h3⟩ := hb
  rw [g.N, g.sc]
  refine ⟨h1, h2, ownF_ix, fun y hy e => ?_, ownF_all⟩
  rcases h3 y hy with (z | z) | z
  · exact absurd e z
  · exact .inl z
  · exact .inr z
theorem s_ifs {ifs : List Expr} {ec : Ex} (hr : Snd M T C G n K rb) (h : cIfs rb ifs = some ec) (g : Good M T C G n Y K X) : PTv T C G Y X ifs ec := by
  unfold cIfs at h
  split at h
  · cases h
    exact vts_nil
  · split at h
    · rename_i ht
      exact vts_one ((hr _ _ h X Y g).2 ht)
    · cases h
  · cases h
/-- what a comprehension wants -/
structure CompF (M : Nm) (T : Tb) (C : Fid → List D → R (D × Bool)) (G : GT) (n : Nat) (K : Kx) (elt tg iter : Expr) (ifs : List Expr) (scope : Scope) (e : Ex) (t : Tg) (it : It) (cond : Ex) : Prop where
  bl : blkB K scope = true
  st : isSet iter = false
  it : ∀ X Y, Good M T C G n Y K X → PI X tg iter (tI T C G Y it)
  ow : ∀ j ∈ tgSlots t, j ∈ (ownF K.N scope.names).map (·.2)
  tg : ∀ X Y, Good M T C G n Y (K.blk scope) X → PG X tg (tG G t)
  cd : ∀ X Y, Good M T C G n Y (K.blk scope) X → PTv T C G Y X ifs cond
  el : ∀ X Y, Good M T C G n Y (K.blk scope) X → PE X elt (tP T C G Y e)
theorem s_compF {elt : Expr} {gens : List Comprehension} {scope : Scope} (hr : Snd M T C G n K r) (hb : Snd M T C G n (K.blk scope) rb) (h : cComp r rb K elt gens scope = some ee) : ∃ tg iter ifs e t it cond, gens = [⟨tg, iter, ifs, 0⟩] ∧ ee = .comp e t it cond ((ownF K.N scope.names).map (·.2)) ∧ CompF M T C G n K elt tg iter ifs scope e t it cond := by
  unfold cComp at h
  split at h
  · rename_i tg iter ifs
    split at h
    · rename_i h1
      simp only [Bool.and_eq_true, Bool.not_eq_true'] at h1
      obtain ⟨t, e1, h⟩ := Option.bind_eq_some_iff.mp h
      obtain ⟨it, e2, h⟩ := Option.bind_eq_some_iff.mp h
      obtain ⟨cond, e3, h⟩ := Option.bind_eq_some_iff.mp h
      obtain ⟨e, e4, h⟩ := Option.bind_eq_some_iff.mp h
      split at h
      · rename_i h2
        cases h
        refine ⟨tg, iter, ifs, e, t, it, cond, rfl, rfl, h1.1, h1.2, fun X Y g => s_it hr e2 g, fun j hj => ?_, fun X Y g => s_tg e1 g, fun X Y g => s_ifs hb e3 g, fun X Y g => (hb _ _ e4 X Y g).1⟩
        simpa using (List.all_eq_true.mp h2) j hj
      · cases h
    · cases h
  · cases h
theorem s_comp {elt : Expr} {gens : List Comprehension} {scope : Scope} (hr : Snd M T C G n K r) (hb : Snd M T C G n (K.blk scope) rb) (h : cComp r rb K elt gens scope = some ee) (g : Good M T C G n Y K X) : PE X (.ListComp elt gens scope p) (tP T C G Y ee) := by
  obtain ⟨tg, iter, ifs, e, t, it, cond, rfl, rfl, F⟩ := s_compF hr hb h
  exact ve_comp g.calm g.nodup (F.it X Y g) (blk_ok F.bl g) F.ow (fun s H Ka cs fp => F.tg _ _ (g.blk F.bl s H Ka cs fp)) (fun s H Ka cs fp => F.cd _ _ (g.blk F.bl s H Ka cs fp)) (fun s H Ka cs fp => F.el _ _ (g.blk F.bl s H Ka cs fp)) fun x => fold_no F.st
end
end FS

/-! FS16: calls, methods, items: the compiler of expressions whole. -/
namespace FS
open PySem L2

theorem star_all {pos : Pos} {env : PySem.Env} : ∀ {es : List Expr}, es.all notStar = true → (backTo pos (starEach es env)).all (fun x => !x.1) = true
  | [], _ => rfl
  | e :: es, h => by
    simp only [List.all_cons, Bool.and_eq_true] at h
    rw [star_cons h.1]
    show (true && (backTo pos (starEach es env)).all (fun x => !x.1)) = true
    rw [star_all h.2]
    rfl
/-- a call of a method, as it is run -/
theorem mth_eval {o : Expr} {m : Str} {apos pos : Pos} {es : List Expr} {env : PySem.Env} (hb : attrPlain o = true) (hs : es.all notStar = true) (hn : es.length < 29) (hl : (apos.endLine == pos.line) = true) : eval (.Call (.Attribute o m apos) es [] pos) env = (do
      let ov ← eval o env
      standAt apos.atName
      let (f, first) ← holding [ov] (getMethod ov m (do return (← importBound o env).getD true))
      callWith pos f first (backTo pos (starEach es env)) (backToKw pos (keywordEach [] env))) := by
  have few : methodCallForm (es.length + 0) (backTo pos (starEach es env)) (backToKw pos (keywordEach [] env)) = true := by
    unfold methodCallForm
    rw [star_all hs]
    simp only [Bool.true_and, Bool.and_eq_true, decide_eq_true_eq]
    exact ⟨rfl, by show es.length + 0 + 0 < 30; omega⟩
  show (do
    let ov ← attributeBase o m env (eval o env)
    standAt apos.atName
    methodCall o m apos pos env ov (es.length + 0) (backTo pos (starEach es env)) (backToKw pos (keywordEach [] env))) = _
  rw [attr_base hb]
  unfold methodCall
  rw [few]
  unfold calleeOf methodCallPos
  rw [hl]
  rfl

section
variable {M : Nm} {T : Tb} {C : Fid → List D → R (D × Bool)} {G : GT} {n : Nat} {Y : XK} {K : Kx} {X : Cx} {r rb : Expr → Option Ex} {e : Expr} {pos p apos : Pos} {ee : Ex}
/-- o.count(e) -/
theorem ve_count {o e : Expr} {eo ea : Ex} (hK : X.K = G.K) (hb : attrPlain o = true) (hs : notStar e = true) (hl : (apos.endLine == pos.line) = true) (ho : PE X o (tP T C G Y eo)) (he : PE X e (tP T C G Y ea)) : PE X (.Call (.Attribute o "count" apos) [e] [] pos) (tP T C G Y (.rcv .count eo (.cons ea .nil))) := by
  refine PE_weak (pe_bm PySem.F.plainAttrs_list PySem.F.slot_list_count PySem.F.type_list_count mt_lcount ho (pa_cons he pa_nil (star_cons hs)) (attr_base hb) (by rw [star_cons hs]; rfl) hl (star_cons hs) rfl) fun σ H Q ⟨F, E, S, h⟩ => ?_
  simp only [ev, evl] at h
  show tP T C G Y eo σ H fun x H1 => tyV X.K "list" x H1 ∧ tP T C G Y ea σ H1 fun y H2 => rCntI X.K x [y] H2 Q
  refine tP_bind S h fun x v H1 P1 S1 h1 => ?_
  obtain ⟨d, f⟩ := x
  cases d with
  | lst ds =>
    have h1 : ((ev T C ea E).bind fun y => biV T .count [(.lst ds, f), y]).sat (fun x => ∀ v H', Post G F H H' x v → Q v H') (wish G Y H1) := by
      simp only [rcvB, if_true] at h1
      cases h2 : ev T C ea E with
      | bad => rw [h2] at h1; exact h1
      | exc c => rw [h2] at h1; exact h1
      | ok y => rw [h2] at h1; exact h1
    obtain ⟨l, vs, rfl, q2, q3, q4⟩ := P1.val.lst
    refine ⟨.inl ⟨rfl, _, .inl (.inl q2)⟩, tP_bind S1 h1 fun y u H2 P2 S2 h2 => ?_⟩
    obtain ⟨z, e1, k1⟩ := sat_of h2 (bi_ne _ _)
    have := biV_count F E σ H2 [(.lst ds, f), y] [.ref l, u] z Q S2 (.cons (P1.val.same P2.same) (.cons P2.val .nil)) e1 fun w H' P => k1 _ _ (Post.trans (P1.same.trans P2.same) P)
    obtain ⟨x', y', e2, q⟩ := this
    cases e2
    rw [hK]
    exact q
  | _ => exact h1.elim
theorem s_setArg {as : List Expr} {a : Expr} (h : setArg as = some a) : ∃ p q, as = [.Call (.Name "set" p) [a] [] q] := by
  unfold setArg at h
  split at h
  · split at h
    · rename_i e
      subst e
      cases h
      exact ⟨_, _, rfl⟩
    · cases h
  · cases h
theorem s_isiArg {as : List Expr} {q : Expr × Str} (h : isiArg as = some q) : ∃ p, as = [q.1, .Name q.2 p] := by
  unfold isiArg at h
  split at h
  · cases h
    exact ⟨_, rfl⟩
  · cases h
theorem s_ty {x : Str} {t : Ty} {e : Expr} {ea : Ex} {p1 p2 : Pos} (hx : tyOf M x = some t) (hg : gloB K "isinstance" = true) (hgx : gloB K x = true) (hs : notStar e = true) (he : PE X e (tP T C G Y ea)) (g : Good M T C G n Y K X) : PE X (.Call (.Name "isinstance" p1) [e, .Name x p2] [] pos) (tP T C G Y (.bi (.isi t) (.cons ea .nil))) := by
  have bt : ∀ (nm : String) (y : Str), y ∈ blts → bootBuiltins y = some (.type nm) → y ≠ "__name__" → gloB K y = true → PE X (.Name y p2) (tC (.ty nm)) := fun nm y h1 h2 h3 h4 => pe_bltn (g.glo h4).1 (blt_mem g h1) h2 (by rfl) h3 (g.glo h4).2
  have hm := blt_mem g (x := "isinstance") (by decide)
  unfold tyOf at hx
  split at hx
  · rename_i e; subst e; cases hx
    exact ve_isi g.hK (g.glo hg).1 hm hs he (bt "int" "int" (by decide) (by rfl) (by decide) hgx) (.ty _) fun r e => isi_bt g.b.isi rfl r e
  · split at hx
    · rename_i e; subst e; cases hx
      exact ve_isi g.hK (g.glo hg).1 hm hs he (bt "bool" "bool" (by decide) (by rfl) (by decide) hgx) (.ty _) fun r e => isi_bt g.b.isi rfl r e
    · split at hx
      · rename_i e; subst e; cases hx
        exact ve_isi g.hK (g.glo hg).1 hm hs he (bt "list" "list" (by decide) (by rfl) (by decide) hgx) (.ty _) fun r e => isi_bt g.b.isi rfl r e
      · split at hx
        · rename_i e; subst e; cases hx
          exact ve_isi g.hK (g.glo hg).1 hm hs he (bt "tuple" "tuple" (by decide) (by rfl) (by decide) hgx) (.ty _) fun r e => isi_bt g.b.isi rfl r e
        · split at hx
          · rename_i e; subst e; cases hx
            exact ve_isi g.hK (g.glo hg).1 hm hs he (bt "str" "str" (by decide) (by rfl) (by decide) hgx) (.ty _) fun r e => isi_bt g.b.isi rfl r e
          · split at hx
            · rename_i hc
              cases hx
              obtain ⟨Ca, h1, h2⟩ := g.b.cls x (by simpa using hc)
              exact ve_isi g.hK (g.glo hg).1 hm hs he (pe_glob (v := .ref Ca) (g.glo hgx).1 h2 (by rfl) (g.glo hgx).2) (.own _) fun r e => isi_cl g.b.isi h1 r e
            · cases hx
theorem s_bi {x : Str} {b : Bi} {a : Expr} {as : List Expr} {ees : Exs} {p1 : Pos} (hx : biOf x = some b) (hg : gloB K x = true) (hs : (a :: as).all notStar = true) (ha : PA X (a :: as) (tA T C G Y ees)) (g : Good M T C G n Y K X) : PE X (.Call (.Name x p1) (a :: as) [] pos) (tP T C G Y (.bi b ees)) := by
  have hK := g.hK
  unfold biOf at hx
  split at hx
  · rename_i e; subst e; cases hx
    exact ve_biB call_lenV (hK ▸ biV_len) (g.glo hg).1 (blt_mem g (by decide)) (by rfl) (by decide) (g.glo hg).2 hs ha
  split at hx
  · rename_i e; subst e; cases hx
    exact ve_biT call_list_of (hK ▸ biV_list) (g.glo hg).1 (blt_mem g (by decide)) (by rfl) (by decide) (g.glo hg).2 hs ha
  split at hx
  · rename_i e; subst e; cases hx
    exact ve_biT call_tuple_of (hK ▸ biV_tuple) (g.glo hg).1 (blt_mem g (by decide)) (by rfl) (by decide) (g.glo hg).2 hs ha
  split at hx
  · rename_i e; subst e; cases hx
    exact ve_biB cr_sortedI (hK ▸ biV_sorted) (g.glo hg).1 (blt_mem g (by decide)) (by rfl) (by decide) (g.glo hg).2 hs ha
  split at hx
  · rename_i e; subst e; cases hx
    exact ve_biB (cr_sum g.calm) (hK ▸ biV_sum) (g.glo hg).1 (blt_mem g (by decide)) (by rfl) (by decide) (g.glo hg).2 hs ha
  split at hx
  · rename_i e; subst e; cases hx
    exact ve_biB (call_maxV g.calm) (hK ▸ biV_max) (g.glo hg).1 (blt_mem g (by decide)) (by rfl) (by decide) (g.glo hg).2 hs ha
  split at hx
  · rename_i e; subst e; cases hx
    exact ve_biB (call_minV g.calm) (hK ▸ biV_min) (g.glo hg).1 (blt_mem g (by decide)) (by rfl) (by decide) (g.glo hg).2 hs ha
  split at hx
  · rename_i e; subst e; cases hx
    exact ve_biB (cr_all g.calm) (hK ▸ biV_all) (g.glo hg).1 (blt_mem g (by decide)) (by rfl) (by decide) (g.glo hg).2 hs ha
  split at hx
  · rename_i e; subst e; cases hx
    exact ve_biB (cr_any g.calm) (hK ▸ biV_any) (g.glo hg).1 (blt_mem g (by decide)) (by rfl) (by decide) (g.glo hg).2 hs ha
  · cases hx
theorem s_callN {x : Str} {as : List Expr} {p1 : Pos} (hr : Snd M T C G n K r) (h : cCallN M r K x as = some ee) (g : Good M T C G n Y K X) : PE X (.Call (.Name x p1) as [] pos) (tP T C G Y ee) := by
  unfold cCallN at h
  split at h
  · rename_i hg
    have gl := g.glo hg
    have hK := g.hK
    split at h
    · rename_i hx
      obtain ⟨rfl, _⟩ := hx
      obtain ⟨a, e1, h'⟩ := Option.bind_eq_some_iff.mp h
      clear h
      obtain ⟨q1, q2, rfl⟩ := s_setArg e1
      have h := h'
      split at h
      · rename_i hs
        rw [Bool.and_eq_true] at hs
        obtain ⟨y, e2, rfl⟩ := Option.map_eq_some_iff.mp h
        exact ve_lenset g.hK g.calm gl.1 (blt_mem g (by decide)) (g.glo hs.2).1 (blt_mem g (by decide)) (hr _ _ e2 X Y g).1 hs.1
      · cases h
    split at h
    · rename_i hx
      subst hx
      obtain ⟨q, e1, h'⟩ := Option.bind_eq_some_iff.mp h
      clear h
      obtain ⟨q1, rfl⟩ := s_isiArg e1
      have h := h'
      split at h
      · rename_i hs
        rw [Bool.and_eq_true] at hs
        obtain ⟨t, e2, h⟩ := Option.bind_eq_some_iff.mp h
        obtain ⟨y, e3, rfl⟩ := Option.map_eq_some_iff.mp h
        exact s_ty e2 hg hs.2 hs.1 (hr _ _ e3 X Y g).1 g
      · cases h
    split at h
    · rename_i hx
      obtain ⟨xs, e1, rfl⟩ := Option.map_eq_some_iff.mp h
      obtain ⟨f, fd, ps, h1, h2, h3, h4⟩ := g.b.fns x (by simpa using hx)
      have L := s_list hr g e1
      rw [← hK] at h1 h3 h4
      cases as with
      | nil =>
        simp only [cL] at e1
        cases e1
        exact ve_call0 h1 g.room gl.1 h2 h3 h4 g.px gl.2
      | cons a as => exact ve_call h1 g.room gl.1 h2 h3 h4 g.px gl.2 L.2 L.1
    split at h
    · rename_i hx
      obtain ⟨xs, e1, rfl⟩ := Option.map_eq_some_iff.mp h
      obtain ⟨C', k, Ca, f, fd, ps, h0, h1, h2, h3, h4, h5, h6⟩ := g.b.mks x (by simpa using hx)
      have L := s_list hr g e1
      rw [← hK] at h3 h4 h6
      cases as with
      | nil =>
        simp only [cL] at e1
        cases e1
        exact ve_mk0 h1 h2 h3 h4 (g.room.mono h0) gl.1 h5 h6 g.px gl.2
      | cons a as => exact ve_mk h1 h2 h3 h4 (g.room.mono h0) gl.1 h5 h6 g.px gl.2 L.2 L.1
    split at h
    · rename_i b a as hx _
      obtain ⟨xs, e1, rfl⟩ := Option.map_eq_some_iff.mp h
      have L := s_list hr g e1
      exact s_bi hx hg L.2 L.1 g
    · cases h
  · cases h
theorem s_callM {o : Expr} {m : Str} {as : List Expr} (hr : Snd M T C G n K r) (h : cCallM M r o m as apos pos = some ee) (g : Good M T C G n Y K X) : PE X (.Call (.Attribute o m apos) as [] pos) (tP T C G Y ee) := by
  unfold cCallM at h
  split at h
  · rename_i h0
    simp only [Bool.and_eq_true, decide_eq_true_eq] at h0
    obtain ⟨⟨hb, hl⟩, hn⟩ := h0
    split at h
    · rename_i hm
      obtain ⟨x, e1, h⟩ := Option.bind_eq_some_iff.mp h
      obtain ⟨xs, e2, rfl⟩ := Option.map_eq_some_iff.mp h
      obtain ⟨h1, h2⟩ := g.b.mth m (by simpa using hm)
      have L := s_list hr g e2
      have ho := (hr _ _ e1 X Y g).1
      cases as with
      | nil =>
        simp only [cL] at e2
        cases e2
        exact ve_mth0 g.hK h1 (g.b.hC m) h2 g.room g.px ho (mth_eval hb L.2 hn hl)
      | cons a as => exact ve_mth g.hK h1 (g.b.hC m) h2 g.room g.px ho L.2 L.1 (mth_eval hb L.2 hn hl)
    split at h
    · rename_i hm
      subst hm
      split at h
      · split at h
        · rename_i hs
          obtain ⟨x, e1, h⟩ := Option.bind_eq_some_iff.mp h
          obtain ⟨y, e2, rfl⟩ := Option.map_eq_some_iff.mp h
          exact ve_count g.hK hb hs hl (hr _ _ e1 X Y g).1 (hr _ _ e2 X Y g).1
        · cases h
      · cases h
    · cases h
  · cases h
theorem s_sub {o i : Expr} (hr : Snd M T C G n K r) (h : cSub r o i = some ee) (g : Good M T C G n Y K X) : PE X (.Subscript o i p) (tP T C G Y ee) := by
  unfold cSub at h
  split at h
  · obtain ⟨x, e1, rfl⟩ := Option.map_eq_some_iff.mp h
    exact ve_rev g.hK (hr _ _ e1 X Y g).1
  · obtain ⟨x, e1, h⟩ := Option.bind_eq_some_iff.mp h
    obtain ⟨y, e2, rfl⟩ := Option.map_eq_some_iff.mp h
    exact ve_slcL g.hK (hr _ _ e1 X Y g).1 (hr _ _ e2 X Y g).1
  · obtain ⟨x, e1, h⟩ := Option.bind_eq_some_iff.mp h
    obtain ⟨y, e2, rfl⟩ := Option.map_eq_some_iff.mp h
    exact ve_slcH g.hK (hr _ _ e1 X Y g).1 (hr _ _ e2 X Y g).1
  · split at h
    · rename_i hs
      obtain ⟨x, e1, h⟩ := Option.bind_eq_some_iff.mp h
      obtain ⟨y, e2, rfl⟩ := Option.map_eq_some_iff.mp h
      exact ve_idx g.hK (Nat.lt_of_le_of_lt (by omega) g.un65) hs (hr _ _ e1 X Y g).1 (hr _ _ e2 X Y g).1
    · cases h
theorem pe_val (h : PE X e (tP T C G Y ee)) (he : ∀ whole, isTrue e X.env whole = (do let v ← whole; standAt e.pos; holding [v] (truthy v))) : PE X e (tP T C G Y ee) ∧ (tst e = true → PT X e (tT T C G Y ee)) := ⟨h, fun _ => vt_val h he⟩
/-- the compiler of expressions is sound -/
theorem cE1_ok {rec : Kx → Expr → Option Ex} (hR : ∀ K, Snd M T C G n K (rec K)) (K : Kx) : Snd M T C G n K (cE1 M rec K) := fun e ee h X Y g => by
    have hr := hR K
    unfold cE1 at h
    split at h
    · exact pe_val (s_name h g) fun _ => rfl
    · exact pe_val (s_con h) fun _ => rfl
    · exact pe_val (s_bin hr h g) fun _ => rfl
    · exact ⟨(s_un hr h g).1, fun _ => (s_un hr h g).2⟩
    · exact ⟨(s_bool hr g h).1, fun _ => (s_bool hr g h).2.pt⟩
    · split at h
      · rename_i ht
        obtain ⟨x, e1, h⟩ := Option.bind_eq_some_iff.mp h
        obtain ⟨y, e2, h⟩ := Option.bind_eq_some_iff.mp h
        obtain ⟨z, e3, rfl⟩ := Option.map_eq_some_iff.mp h
        exact ⟨ve_ite ((hr _ _ e1 X Y g).2 ht) (hr _ _ e2 X Y g).1 (hr _ _ e3 X Y g).1, fun z => nomatch z⟩
      · cases h
    · exact ⟨(s_cmp hr h g).1, fun _ => (s_cmp hr h g).2⟩
    · obtain ⟨x, e1, h⟩ := Option.bind_eq_some_iff.mp h
      split at h
      · rename_i hl
        cases h
        exact pe_val (ve_lst hl (s_list hr g e1).1) fun _ => rfl
      · cases h
    · obtain ⟨x, e1, h⟩ := Option.bind_eq_some_iff.mp h
      split at h
      · rename_i hl
        cases h
        exact pe_val (ve_tup hl (s_list hr g e1).1) fun _ => rfl
      · cases h
    · exact pe_val (s_comp hr (hR _) h g) fun _ => rfl
    · exact pe_val (s_callN hr h g) fun _ => rfl
    · exact pe_val (s_callM hr h g) fun _ => rfl
    · split at h
      · rename_i h0
        rw [Bool.and_eq_true] at h0
        obtain ⟨x, e1, rfl⟩ := Option.map_eq_some_iff.mp h
        exact pe_val (ve_att g.hK (fun c Ca hc => ⟨(g.b.isi c Ca hc).cls, g.b.att _ (by simpa using h0.2) c Ca hc⟩) h0.1 (hr _ _ e1 X Y g).1) fun _ => rfl
      · cases h
    · exact pe_val (s_sub hr h g) fun _ => rfl
    · cases h
theorem cE_ok : ∀ (m : Nat) (K : Kx), Snd M T C G n K (cE M m K)
  | 0, K => fun e ee h => by simp [cE] at h
  | m + 1, K => cE1_ok (fun K => cE_ok m K) K
end
end FS

/-! FS17: from written statements to stripped ones; that it is sound. -/
namespace FS
open PySem L2

/-! ### compiling -/
def isLC : Expr → Bool
  | .ListComp .. => true
  | .SetComp .. => true
  | .DictComp .. => true
  | _ => false
def isVar : Ex → Bool
  | .var _ => true
  | _ => false
def isTup : Expr → Bool
  | .Tuple .. => true
  | _ => false
/-- x.pop(e) -/
def popB : Expr → Option (Str × Expr)
  | .Call (.Attribute (.Name x _) m apos) [a] [] cpos => if m = "pop" ∧ (apos.endLine == cpos.line) = true ∧ notStar a = true then some (x, a) else none
  | _ => none
def cVar (K : Kx) (x : Str) : Option Nat := if visB K x && okN x then ixF x K.N else none
def cAsg (M : Nm) (ce : Expr → Option Ex) (K : Kx) (tg e : Expr) : Option Sx := match tg with
  | .Name y _ => if stoB K y then (ixF y K.N).bind fun i => match popB e with
      | some (x, a) => (cVar K x).bind fun j => (ce a).map fun k => .popA i j k
      | none => (ce e).map fun x => .asg i x
    else none
  | .Tuple ts k p => if isTup e then none else (cTg K (.Tuple ts k p)).bind fun t => match t with
      | .tp is => (ce e).map fun x => .asgT is x
      | _ => none
  | .Attribute (.Name x _) f _ => if cVar K x == some 0 && M.att.contains f then (ce e).map fun y => .fld f y else none
  | .Subscript (.Name x _) k _ => if notSlice k then (cVar K x).bind fun i => (ce e).bind fun y => (ce k).map fun z => .set i z y else none
  | _ => none
/-- x.append(e), x.clear(), C.__init__(self, ..) -/
def cExp (M : Nm) (ce : Expr → Option Ex) (K : Kx) : Expr → Option Sx
  | .Call (.Attribute (.Name x _) m apos) as [] cpos =>
    if (apos.endLine == cpos.line) = true then
      (if m = "append" then match as with
        | [a] => if notStar a then (cVar K x).bind fun i => (ce a).map fun y => .app i y else none
        | _ => none
      else if m = "clear" then match as with
        | [] => (cVar K x).map fun i => .clr i
        | _ => none
      else if m = "__init__" then match as with
        | .Name s _ :: es => if gloB K x && M.sup.contains x && cVar K s == some 0 && decide (es.length < 28) then (cL ce es).map fun ys => .supi x ys else none
        | _ => none
      else none)
    else none
  | _ => none
def cRet (ce : Expr → Option Ex) (K : Kx) (e : Expr) : Option Sx := match e with
  | .Name x _ => if visB K x then (cVar K x).map fun i => .ret (.var i) else (ce e).bind fun y => if isVar y then none else some (.ret y)
  | _ => (ce e).bind fun y => if isVar y then none else some (.ret y)
def cRai (M : Nm) (K : Kx) : Expr → Option Sx
  | .Call (.Name x _) [.Constant (.str _) _ _] [] _ => if gloB K x && M.exc.contains x then some (.rai x) else none
  | _ => none
def cSs (c : Stmt → Option Sx) : List Stmt → Option Sxs
  | [] => some .nil
  | s :: ss => (c s).bind fun x => (cSs c ss).map fun xs => .cons x xs
/-- a slot that is walked is walked by its name -/
def itN (K : Kx) : Expr → It → Bool
  | .Name x _, .seq (.var j) => cVar K x == some j
  | _, .seq (.var _) => false
  | _, _ => true
theorem itN_var {K : Kx} {e : Expr} {j : Nat} (h : itN K e (.seq (.var j)) = true) : ∃ x p, e = .Name x p ∧ cVar K x = some j := by
  unfold itN at h
  split at h
  · rename_i e2
    cases e2
    exact ⟨_, _, rfl, by simpa using h⟩
  · cases h
  · rename_i h1 _
    exact absurd rfl (h1 j)
def cS1 (M : Nm) (ce : Expr → Option Ex) (K : Kx) (c : Stmt → Option Sx) : Stmt → Option Sx
  | .Assign [tg] e _ => cAsg M ce K tg e
  | .Expr e _ => cExp M ce K e
  | .If e a b _ => if tst e then (ce e).bind fun x => (cSs c a).bind fun y => (cSs c b).map fun z => .ite x y z else none
  | .While e b [] _ => if tst e then (ce e).bind fun x => (cSs c b).map fun y => .whl x y else none
  | .For tg it b [] _ => if isSet it then none else (cTg K tg).bind fun t => (cIt ce K it).bind fun i => if itN K it i then (cSs c b).map fun y => .for t i y else none
  | .Return (some e) _ => cRet ce K e
  | .Raise (some e) none _ => cRai M K e
  | .Pass _ => some .pass
  | _ => none
def cS (M : Nm) (ce : Expr → Option Ex) (K : Kx) : Nat → Stmt → Option Sx
  | 0 => fun _ => none
  | n + 1 => cS1 M ce K (cS M ce K n)

/-! ### it is sound -/
section
variable {M : Nm} {T : Tb} {W : Nat} {C : Fid → List D → R (D × Bool)} {G : GT} {n : Nat} {Y : XK} {K : Kx} {X : Cx} {r : Expr → Option Ex} {c : Stmt → Option Sx} {pos p apos : Pos} {ee : Ex}
structure GoodS (M : Nm) (T : Tb) (C : Fid → List D → R (D × Bool)) (G : GT) (n : Nat) (Y : XK) (K : Kx) (X : Cx) : Prop where
  g : Good M T C G n Y K X
  po : PassesOwn (model X.prog X.w) X.A X.env X.xe
  tk : Takes X fun cls d _ H => Y cls d H
theorem sw_no {e : Expr} {t : Option Expr} {l : Nat} {env : PySem.Env} (h : isLC e = false) : swapsWith e t l env = pure false := by
  cases e <;> first | rfl | cases h
theorem sw_lc {elt : Expr} {gs : List Comprehension} {scope : Scope} {pos py : Pos} {y : Str} {l : Nat} {env : PySem.Env} : ∃ b, swapsWith (.ListComp elt gs scope pos) (some (.Name y py)) l env = pure b ∧ (b = true → env.scope.names.lookup y = some .local) := by
  refine ⟨env.blockKind == .function && env.kindOf y == some .local && py.line == pos.line && !(scope.names.any fun (n, k) => n == y && (k == .local || k == .cell)), rfl, fun h => ?_⟩
  simp only [Bool.and_eq_true, beq_iff_eq] at h
  exact h.1.1.2
theorem sw_att {e o : Expr} {f : Str} {p : Pos} {l : Nat} {env : PySem.Env} : swapsWith e (some (.Attribute o f p)) l env = pure false := by
  cases e <;> rfl
theorem sw_sub {e o i : Expr} {p : Pos} {l : Nat} {env : PySem.Env} : swapsWith e (some (.Subscript o i p)) l env = pure false := by
  cases e <;> rfl
theorem sw_tup {e : Expr} {ts : List Expr} {k} {p : Pos} {l : Nat} {env : PySem.Env} : swapsWith e (some (.Tuple ts k p)) l env = pure false := by
  cases e <;> rfl
theorem sole_tup {e : Expr} {ts : List Expr} {k} {p : Pos} {l : Nat} {env : PySem.Env} : swapsWithSole [.Tuple ts k p] e l env = pure false := by
  cases e <;> rfl
theorem sole_sub {e o i : Expr} {p : Pos} {l : Nat} {env : PySem.Env} : swapsWithSole [.Subscript o i p] e l env = pure false := by
  cases e <;> rfl
theorem c_var {x : Str} {i : Nat} (h : cVar K x = some i) (g : Good M T C G n Y K X) : X.N[i]? = some x ∧ Vis X.env.scope x ∧ (x == ("__debug__" : Str)) = false ∧ (x == ("__classdict__" : Str)) = false := by
  unfold cVar at h
  split at h
  · rename_i h1
    rw [Bool.and_eq_true] at h1
    exact ⟨g.ix h, g.vis h1.1, okN_1 h1.2⟩
  · cases h
/-- a list comprehension is compiled as such -/
theorem c_lc {m : Nat} {elt : Expr} {gens : List Comprehension} {scope : Scope} (h : cE M m K (.ListComp elt gens scope p) = some ee) : ∃ tg iter ifs e t it cond, gens = [⟨tg, iter, ifs, 0⟩] ∧ ee = .comp e t it cond ((ownF K.N scope.names).map (·.2)) ∧ CompF M T C G n K elt tg iter ifs scope e t it cond := by
  cases m with
  | zero => simp [cE] at h
  | succ m => exact s_compF (cE_ok m K) (cE_ok m _) h
theorem s_popB {e : Expr} {q : Str × Expr} (h : popB e = some q) : ∃ px apos cpos, e = .Call (.Attribute (.Name q.1 px) "pop" apos) [q.2] [] cpos ∧ (apos.endLine == cpos.line) = true ∧ notStar q.2 = true := by
  unfold popB at h
  split at h
  · split at h
    · rename_i h1
      obtain ⟨rfl, h2, h3⟩ := h1
      cases h
      exact ⟨_, _, _, rfl, h2, h3⟩
    · cases h
  · cases h
theorem s_asg {m : Nat} {tg e : Expr} {s : Sx} (h : cAsg M (cE M m K) K tg e = some s) (g : GoodS M T C G n Y K X) (B : Bs) : PS X (.Assign [tg] e pos) (tS T W C G Y B s) := by
  have hr : Snd M T C G n K (cE M m K) := cE_ok m K
  have g0 := g.g
  unfold cAsg at h
  split at h
  · split at h
    · rename_i y py hs
      obtain ⟨i, e1, h0⟩ := Option.bind_eq_some_iff.mp h
      clear h
      split at h0
      · rename_i x a hp
        obtain ⟨j, e2, h1⟩ := Option.bind_eq_some_iff.mp h0
        obtain ⟨k, e3, rfl⟩ := Option.map_eq_some_iff.mp h1
        clear h0 h1
        obtain ⟨px, apos, cpos, rfl, hl, hst⟩ := s_popB hp
        obtain ⟨v1, v2, v3, v4⟩ := c_var e2 g0
        exact vs_popA v1 v2 v3 v4 (hr _ _ e3 X Y g0).1 hst hl g0.nodup (g0.ix e1) (g0.sto hs).1 (g0.sto hs).2
      · obtain ⟨x, e2, rfl⟩ := Option.map_eq_some_iff.mp h0
        by_cases hc : ∃ elt gens scope p, e = .ListComp elt gens scope p
        · obtain ⟨elt, gens, scope, p, rfl⟩ := hc
          obtain ⟨b, hb, hbl⟩ := sw_lc (elt := elt) (gs := gens) (scope := scope) (pos := p) (py := py) (y := y) (l := pos.line) (env := X.env)
          cases b with
          | false => exact vs_asg g0.nodup (g0.ix e1) (g0.sto hs).1 (hr _ _ e2 X Y g0).1 hb (g0.sto hs).2
          | true =>
            obtain ⟨tg, iter, ifs, e', t, it, cond, rfl, rfl, F⟩ := c_lc (T := T) (C := C) (G := G) (n := n) e2
            exact vs_setLc g0.calm g0.nodup (g0.ix e1) (hbl rfl) hb (F.it X Y g0) (blk_ok F.bl g0) F.ow (fun s H Ka cs fp => F.tg _ _ (g0.blk F.bl s H Ka cs fp)) (fun s H Ka cs fp => F.cd _ _ (g0.blk F.bl s H Ka cs fp)) (fun s H Ka cs fp => F.el _ _ (g0.blk F.bl s H Ka cs fp)) fun x => fold_no F.st
        · have hlc : isLC e = false := by
            cases m with
            | zero => simp [cE] at e2
            | succ m =>
              cases e <;> first | rfl | (exact absurd ⟨_, _, _, _, rfl⟩ hc) | (simp [cE, cE1] at e2)
          exact vs_asg g0.nodup (g0.ix e1) (g0.sto hs).1 (hr _ _ e2 X Y g0).1 (sw_no hlc) (g0.sto hs).2
    · cases h
  · split at h
    · cases h
    · rename_i ht
      obtain ⟨t, e1, h⟩ := Option.bind_eq_some_iff.mp h
      split at h
      · obtain ⟨x, e2, rfl⟩ := Option.map_eq_some_iff.mp h
        refine vs_asgT (hr _ _ e2 X Y g0).1 (s_tg e1 g0) sole_tup ?_ rfl
        cases e <;> first | rfl | (exact absurd rfl ht)
      · cases h
  · split at h
    · rename_i h1
      rw [Bool.and_eq_true, beq_iff_eq] at h1
      obtain ⟨y, e2, rfl⟩ := Option.map_eq_some_iff.mp h
      obtain ⟨v1, v2, v3, v4⟩ := c_var h1.1 g0
      exact vs_fld g0.hK (fun c Ca hc => ⟨(g0.b.isi c Ca hc).cls, g0.b.att _ (by simpa using h1.2) c Ca hc⟩) v1 v2 v3 v4 (hr _ _ e2 X Y g0).1 sw_att
    · cases h
  · split at h
    · rename_i h1
      obtain ⟨i, e1, h⟩ := Option.bind_eq_some_iff.mp h
      obtain ⟨y, e2, h⟩ := Option.bind_eq_some_iff.mp h
      obtain ⟨z, e3, rfl⟩ := Option.map_eq_some_iff.mp h
      obtain ⟨v1, v2, v3, v4⟩ := c_var e1 g0
      exact vs_set (Nat.lt_of_le_of_lt (by omega) g0.un65) v1 v2 v3 v4 (hr _ _ e2 X Y g0).1 (hr _ _ e3 X Y g0).1 h1 sw_sub sole_sub (by cases e <;> rfl)
    · cases h
  · cases h
theorem s_exp {m : Nat} {e : Expr} {s : Sx} (h : cExp M (cE M m K) K e = some s) (g : GoodS M T C G n Y K X) (B : Bs) : PS X (.Expr e pos) (tS T W C G Y B s) := by
  have hr : Snd M T C G n K (cE M m K) := cE_ok m K
  have g0 := g.g
  unfold cExp at h
  split at h
  · split at h
    · rename_i hl
      split at h
      · rename_i hm
        subst hm
        split at h
        · split at h
          · rename_i hs
            obtain ⟨i, e1, h⟩ := Option.bind_eq_some_iff.mp h
            obtain ⟨y, e2, rfl⟩ := Option.map_eq_some_iff.mp h
            obtain ⟨v1, v2, v3, v4⟩ := c_var e1 g0
            exact vs_app v1 v2 v3 v4 (hr _ _ e2 X Y g0).1 hs hl
          · cases h
        · cases h
      split at h
      · rename_i hm
        subst hm
        split at h
        · obtain ⟨i, e1, rfl⟩ := Option.map_eq_some_iff.mp h
          obtain ⟨v1, v2, v3, v4⟩ := c_var e1 g0
          exact vs_clr v1 v2 v3 v4 hl
        · cases h
      split at h
      · rename_i hm
        subst hm
        split at h
        · split at h
          · rename_i h1
            simp only [Bool.and_eq_true, beq_iff_eq, decide_eq_true_eq] at h1
            obtain ⟨⟨⟨h1, h2⟩, h3⟩, h4⟩ := h1
            obtain ⟨ys, e1, rfl⟩ := Option.map_eq_some_iff.mp h
            have L := s_list hr g0 e1
            obtain ⟨Ca, f, fd, ps, mc, q1, q2, q3, q4⟩ := g0.b.sup _ (by simpa using h2)
            rw [← g0.hK] at q1 q2 q4
            obtain ⟨v1, v2, v3, v4⟩ := c_var h3 g0
            exact vs_sup q1 q2 g0.room q4 g0.px (g0.glo h1).1 q3 (g0.glo h1).2 v1 v2 v3 v4 L.1 L.2 (mth_eval (o := .Name _ _) rfl (by rw [List.all_cons, L.2]; rfl) (by simp only [List.length_cons]; omega) hl) rfl
          · cases h
        · cases h
      · cases h
    · cases h
  · cases h
theorem ownV_no {ee : Ex} (h : isVar ee = false) (E : SEnv) : ownV E ee = none := by
  cases ee <;> first | rfl | cases h
theorem s_ret {m : Nat} {e : Expr} {s : Sx} (h : cRet (cE M m K) K e = some s) (g : GoodS M T C G n Y K X) (B : Bs) : PS X (.Return (some e) pos) (tS T W C G Y B s) := by
  have hr : Snd M T C G n K (cE M m K) := cE_ok m K
  have g0 := g.g
  have gen : ∀ {h : ((cE M m K e).bind fun y => if isVar y then none else some (.ret y)) = some s}, PS X (.Return (some e) pos) (tS T W C G Y B s) := fun {h} => by
    obtain ⟨y, e1, h⟩ := Option.bind_eq_some_iff.mp h
    split at h
    · cases h
    · rename_i hv
      cases h
      exact vs_ret (ownV_no (by simpa using hv)) (hr _ _ e1 X Y g0).1
  unfold cRet at h
  split at h
  · split at h
    · obtain ⟨i, e1, rfl⟩ := Option.map_eq_some_iff.mp h
      obtain ⟨v1, v2, v3, v4⟩ := c_var e1 g0
      exact vs_retN v1 v2 v3 v4
    · exact gen (h := h)
  · exact gen (h := h)
theorem s_rai {e : Expr} {s : Sx} (h : cRai M K e = some s) (g : GoodS M T C G n Y K X) (B : Bs) : PS X (.Raise (some e) none pos) (tS T W C G Y B s) := by
  have g0 := g.g
  unfold cRai at h
  split at h
  · split at h
    · rename_i h1
      rw [Bool.and_eq_true] at h1
      cases h
      obtain ⟨Ca, Bn, newId, initId, bmB, q1, q2, q3, q4, q5, q6⟩ := g0.b.exc _ (by simpa using h1.2)
      rw [← g0.hK] at q2 q4
      exact vs_rai g0.calm g.tk q1 q2 q3 q4 (q6 X g0.hK) (g0.glo h1.1).1 (g0.glo h1.1).2 q5
    · cases h
  · cases h
/-- a compiler of statements that is sound -/
def SndS (M : Nm) (T : Tb) (W : Nat) (C : Fid → List D → R (D × Bool)) (G : GT) (n : Nat) (K : Kx) (c : Stmt → Option Sx) : Prop := ∀ st s, c st = some s → ∀ X Y, GoodS M T C G n Y K X → ∀ B, PS X st (tS T W C G Y B s)
theorem s_sts (hc : SndS M T W C G n K c) (g : GoodS M T C G n Y K X) (B : Bs) : ∀ {ss : List Stmt} {s : Sxs}, cSs c ss = some s → PSs X ss (tSs T W C G Y B s)
  | [], _, h => by
    simp only [cSs] at h
    cases h
    exact vs_nil
  | st :: ss, _, h => by
    unfold cSs at h
    obtain ⟨x, e1, h⟩ := Option.bind_eq_some_iff.mp h
    obtain ⟨y, e2, rfl⟩ := Option.map_eq_some_iff.mp h
    exact vs_cons (hc _ _ e1 X Y g B) (s_sts hc g B e2)
theorem cS1_ok {m : Nat} (hc : SndS M T W C G n K c) : SndS M T W C G n K (cS1 M (cE M m K) K c) := fun st s h X Y g B => by
  have hr : Snd M T C G n K (cE M m K) := cE_ok m K
  have g0 := g.g
  unfold cS1 at h
  split at h
  · exact s_asg h g B
  · exact s_exp h g B
  · split at h
    · rename_i ht
      obtain ⟨x, e1, h⟩ := Option.bind_eq_some_iff.mp h
      obtain ⟨y, e2, h⟩ := Option.bind_eq_some_iff.mp h
      obtain ⟨z, e3, rfl⟩ := Option.map_eq_some_iff.mp h
      exact vs_ite ((hr _ _ e1 X Y g0).2 ht) (s_sts hc g B e2) (s_sts hc g B e3)
    · cases h
  · split at h
    · rename_i ht
      obtain ⟨x, e1, h⟩ := Option.bind_eq_some_iff.mp h
      obtain ⟨y, e2, rfl⟩ := Option.map_eq_some_iff.mp h
      exact vs_whl g.po ((hr _ _ e1 X Y g0).2 ht) (s_sts hc g B e2)
    · cases h
  · split at h
    · cases h
    · rename_i ht
      obtain ⟨t, e1, h⟩ := Option.bind_eq_some_iff.mp h
      obtain ⟨i, e2, h⟩ := Option.bind_eq_some_iff.mp h
      split at h
      rotate_left
      · cases h
      rename_i hn
      obtain ⟨y, e3, rfl⟩ := Option.map_eq_some_iff.mp h
      by_cases hv : ∃ j, i = .seq (.var j)
      · obtain ⟨j, rfl⟩ := hv
        obtain ⟨x, p, rfl, e4⟩ := itN_var hn
        obtain ⟨v1, v2, v3, v4⟩ := c_var e4 g0
        exact vs_forN g0.hK g.po g0.calm v1 v2 v3 v4 (s_it hr e2 g0) (s_tg e1 g0) (fun B => s_sts hc g B e3) fun x => fold_no (by simpa using ht)
      · exact vs_for g.po g0.calm (fun E => by
          unfold ownIt
          split
          · exact absurd ⟨_, rfl⟩ hv
          · rfl) (s_it hr e2 g0) (s_tg e1 g0) (fun B => s_sts hc g B e3) fun x => fold_no (by simpa using ht)
  · exact s_ret h g B
  · exact s_rai h g B
  · cases h
    exact vs_pass
  · cases h
theorem cS_ok {m : Nat} : ∀ k : Nat, SndS M T W C G n K (cS M (cE M m K) K k)
  | 0 => fun st s h => by simp [cS] at h
  | k + 1 => cS1_ok (cS_ok k)
end
end FS

/-! FS18: the promises of all defs, by the level. -/
namespace FS
open PySem L2 PyProof.Rows

/-- a def's body, compiled -/
def cF (M : Nm) (N : List Str) (st : Stmt) : Option Sxs := cSs (cS M (cE M 40 ⟨N, defScope st, fun _ => true⟩) ⟨N, defScope st, fun _ => true⟩ 40) (defBody st)
/-- a def as it stands -/
structure DefOk (M : Nm) (T : Tb) (K : PySem.W.Frag) (f : Addr) (fd : FuncData) (ps : List Str) (fid : Fid) (x : Str) : Prop where
  ex : ∃ qual st N g, Fun K x qual st f fd ∧ FnScope N ps (defScope st) ∧ cF M N st = some g.body ∧ T.fn fid = some g ∧ g.np = ps.length ∧ g.ns = N.length
  bi : Binds K fd ps []
  ba : ∀ us : List Value, us.length = ps.length → bindArgs fd ⟨us, []⟩ = pure (ps.zip us)
section
variable {M : Nm} {T : Tb} {W : Nat} {G : GT} {n : Nat} {P : Program} {w : World} {mg : Str → Option Value} {base : Heap} {f : Addr} {fd : FuncData} {ps N : List Str} {x qual : Str} {st : Stmt} {fid : Fid} {g : Fn}
theorem FnOk.nil {k : Nat} {sp : Sp} (h : ∀ vs H Q E, ¬ sp vs H Q E) : FnOk P w G.K mg base (L2.CX P w) k f fd ps sp := ⟨fun vs H Q E z => absurd z (h _ _ _ _), fun A outer s H args us vs Q E _ _ _ _ z => absurd z (h _ _ _ _)⟩
/-- a def's frame is a good place -/
theorem goodS_of {C : Fid → List D → R (D × Bool)} (GB : GoodB M T C G n P w mg base) (S : FnScope N ps (defScope st)) (cdv : Value) (A : Around) (outer : List PySem.Env) (s : Shared) (H : Hp) (E : XK) (hr : Room n (A.deeper (envOfC qual (defScope st) s.heap.objs.size f cdv))) :
    GoodS M T C G n E ⟨N, defScope st, fun _ => true⟩ (cxOf (L2.CX P w) P w G.K mg base N qual (defScope st) f cdv A outer s H E) := by
  have tk : Takes (cxOf (L2.CX P w) P w G.K mg base N qual (defScope st) f cdv A outer s H E) fun cls d _ H => E cls d H := takes_of rfl rfl rfl rfl
  exact ⟨⟨GB, rfl, rfl, S.nd, rfl, S.kind, fun _ _ => rfl, rfl, hr, passes_call tk fun _ _ _ _ h => h⟩, passes_of rfl, tk⟩
theorem start_slot {g : Fn} {ds : List D} {vs : List V} {P' : Bool → Addr → Prop} {H : Hp} (h : Reps G P' H ds vs) : ∀ (i : Nat) (s : Slot), (ds.map (fun d => some (Slot.shr d false)) ++ List.replicate (g.ns - g.np) none)[i]? = some (some s) → ∃ d v, s = .shr d false ∧ ds[i]? = some d ∧ vs[i]? = some v ∧ Rep G P' H d v := by
  intro i s e
  rw [List.getElem?_append] at e
  split at e
  · rw [List.getElem?_map] at e
    cases hd : ds[i]? with
    | none => rw [hd] at e; cases e
    | some d =>
      rw [hd] at e
      cases e
      obtain ⟨v, h1, h2⟩ := h.get hd
      exact ⟨d, v, rfl, rfl, h1, h2⟩
  · rw [List.getElem?_replicate] at e
    split at e <;> cases e
/-- a def, a method -/
theorem fn_ok (GB : GoodB M T (run T W n) G (n + 1) P w mg base) (F : Fun G.K x qual st f fd) (S : FnScope N ps (defScope st)) (hc : cF M N st = some g.body) (hT : T.fn fid = some g) (hp : g.np = ps.length) (hs : g.ns = N.length)
    (hfid : ∀ ds, run T W (n + 1) fid ds = if ds.length = g.np then endV (execs T W (run T W n) g.body [] (startE g ds)) else .bad) : FnOk P w G.K mg base (L2.CX P w) (n + 2) f fd ps (spC G (run T W (n + 1)) fid) := by
  refine F.okX S (fun vs H Q E h => ?_) (fun cdv A outer s H vs Q E hr h => ?_)
  · obtain ⟨P', ds, h1, h2⟩ := h
    rw [hfid] at h2
    split at h2
    · rename_i hl
      rw [h1.length, hl, hp]
    · exact h2.elim
  · obtain ⟨P', ds, h1, h2⟩ := h
    rw [hfid] at h2
    split at h2
    · rename_i hl
      have gs := goodS_of (N := N) (qual := qual) (f := f) GB S cdv A outer s H E hr
      have hv := h1.length
      refine ⟨_, s_sts (W := W) (cS_ok 40) gs ⟨P', H, none, [], []⟩ hc, fun _ => False, startE g ds, ⟨?_, fun a o _ e => e, fun i s e => ?_, fun i j d d' n n' v hij e _ _ => ?_, fun q hq => by simp at hq, fun a h => by simp at h, fun q hq => by simp at hq⟩, ?_⟩
      · unfold L2.start startE
        simp [hv, hl, hp, hs]
      · obtain ⟨d, v, rfl, e1, e2, e3⟩ := start_slot (g := g) h1 i s e
        refine ⟨v, ?_, e3.weak fun k a z => ⟨fun z => z, .inr ⟨z, fun _ => rfl⟩⟩⟩
        unfold L2.start
        have hi : i < vs.length := (List.getElem?_eq_some_iff.mp e2).1
        rw [List.getElem?_append_left (by simpa using hi), List.getElem?_map, e2]
        rfl
      · obtain ⟨_, _, z, _⟩ := start_slot (g := g) h1 i _ e
        cases z
      · unfold endV at h2
        rw [R.sat_bind] at h2
        refine R.sat_mono h2 (fun z q => ?_) fun e z H' en => z H' fun b o eo => en b o (by simp) eo
        cases z with
        | nx E' => exact fun ex σ' H' S' => q .non H' (fun b o eo => S'.ent b o (by simp) eo) (by simp [Rep]) fun _ => True.intro
        | rt d m => exact fun v H' en r rs => q v H' (fun b o eo => en b o (by simp) eo) r rs
    · exact h2.elim
/-- a maker -/
theorem ini_ok {c : Str} (GB : GoodB M T (run T W n) G (n + 1) P w mg base) (F : Fun G.K x qual st f fd) (S : FnScope N ps (defScope st)) (hc : cF M N st = some g.body) (hT : T.fn (.ini c) = some g) (hp : g.np = ps.length) (hs : g.ns = N.length) : FnOk P w G.K mg base (L2.CX P w) (n + 2) f fd ps (spI G (run T W (n + 1)) c) := by
  have go : ∀ (c' : Str) (ds : List D), run T W (n + 1) (.ini c) (.obj c' [] :: ds) = if ds.length + 1 = g.np then (execs T W (run T W n) g.body [] (some (.own (.obj c' []) true) :: ds.map (fun d => some (.shr d false)) ++ List.replicate (g.ns - g.np) none)).bind fun f => iniEnd c' f
      else .bad := fun c' ds => by simp only [run, hT, List.length_cons]
  refine F.okX S (fun vs H Q E h => ?_) (fun cdv A outer s H vs Q E hr h => ?_)
  · obtain ⟨P', a, c', Ca, dx, ds, r, rfl, h0, h1, h2, h3⟩ := h
    rw [go] at h3
    split at h3
    · rename_i hl
      rw [List.length_cons, h2.length, hl, hp]
    · exact h3.elim
  · obtain ⟨P', a, c', Ca, dx, ds, r, rfl, h0, h1, h2, h3⟩ := h
    rw [go] at h3
    split at h3
    · rename_i hl
      have gs := goodS_of (N := N) (qual := qual) (f := f) GB S cdv A outer s H E hr
      have hv := h2.length
      refine ⟨_, s_sts (W := W) (cS_ok 40) gs ⟨iniP P' a, H, some a, [], []⟩ hc, fun b => b = a, some (.own (.obj c' []) true) :: ds.map (fun d => some (.shr d false)) ++ List.replicate (g.ns - g.np) none, ⟨?_, fun b o _ e => e, fun i s e => ?_, fun i j d d' n n' v hij e e' _ => ?_, fun q hq => by simp at hq, fun b h => ?_, fun q hq => by simp at hq⟩, ?_⟩
      · unfold L2.start
        simp [hv, hl, hp, hs]
      · cases i with
        | zero =>
          cases e
          exact ⟨.ref a, rfl, a, rfl, rfl, rfl, Ca, dx, [], h0, h1, by simp [RepF]⟩
        | succ i =>
          have e : (ds.map (fun d => some (Slot.shr d false)) ++ List.replicate (g.ns - g.np) none)[i]? = some (some s) := e
          obtain ⟨d, v, rfl, e1, e2, e3⟩ := start_slot (g := g) h2 i s e
          refine ⟨v, ?_, e3.weak fun k b z => ⟨z.2, .inr ⟨z, fun _ => rfl⟩⟩⟩
          unfold L2.start
          have hi : i < r.length := (List.getElem?_eq_some_iff.mp e2).1
          show (r.map some ++ _)[i]? = _
          rw [List.getElem?_append_left (by simpa using hi), List.getElem?_map, e2]
          rfl
      · cases i with
        | zero =>
          cases j with
          | zero => exact absurd rfl hij
          | succ j =>
            have e' : (ds.map (fun d => some (Slot.shr d false)) ++ List.replicate (g.ns - g.np) none)[j]? = some (some (.own d' n')) := e'
            obtain ⟨_, _, z, _⟩ := start_slot (g := g) h2 j _ e'
            cases z
        | succ i =>
          have e : (ds.map (fun d => some (Slot.shr d false)) ++ List.replicate (g.ns - g.np) none)[i]? = some (some (.own d n)) := e
          obtain ⟨_, _, z, _⟩ := start_slot (g := g) h2 i _ e
          cases z
      · have : b = a := h.elim id fun z => (Option.some.inj z).symm
        subst this
        rw [h0]
        simp
      · rw [R.sat_bind] at h3
        have en' : ∀ {H'}, EntB ⟨iniP P' a, H, some a, [], []⟩ H' → But a H H' := fun {H'} en b o hb eo => en b o (fun z => hb (Option.some.inj z).symm) eo
        refine R.sat_mono h3 (fun z q => ?_) fun e z H' en => z H' (en' en)
        cases z with
        | rt d m => exact q.elim
        | nx E' =>
          intro ex σ' H' S'
          cases E' with
          | nil => exact q.elim
          | cons s0 E' =>
            cases s0 with
            | none => exact q.elim
            | some s0 =>
              cases s0 with
              | shr d m => exact q.elim
              | own d m =>
                cases d with
                | obj c2 fs2 =>
                  simp only [iniEnd] at q
                  split at q
                  · rename_i hcc
                    subst hcc
                    obtain ⟨v, e1, b, rfl, hx, hself, Ca2, dx2, ws2, g1, g2, g3⟩ := S'.slot 0 _ rfl
                    have : b = a := (Option.some.inj hself).symm
                    subst this
                    rw [h1] at g2
                    cases g2
                    exact q H' (en' fun b o h1 h2 => S'.ent b o h1 h2) ⟨fs2, dx2, ws2, rfl, g1, g3.weak fun k b z => outP_cl (B := ⟨iniP P' _, H, _, [], []⟩) z⟩
                  · exact q.elim
                | _ => exact q.elim
    · exact h3.elim

/-- the whole text: all that stands behind the top -/
structure TextOk (M : Nm) (T : Tb) (G : GT) (P : Program) (w : World) (mg : Str → Option Value) (base : Heap) (ad : Fid → Addr) (fdd : Fid → FuncData) (pss : Fid → List Str) : Prop where
  con : ∀ x ∈ M.con, ∃ d v u, T.con x = some d ∧ mg x = some u ∧ RelV v u ∧ ∀ F H, Post G F H H (mkI d) v
  fns : ∀ x ∈ M.fns, DefOk M T G.K (ad (.fn x)) (fdd (.fn x)) (pss (.fn x)) (.fn x) x ∧ mg x = some (.ref (ad (.fn x))) ∧ PySem.W.keepIn G.K (.ref (ad (.fn x))) = true
  ini : ∀ c, c ∈ M.mks ∨ c ∈ M.sup → ∃ Ca, G.cls c = some Ca ∧ mg c = some (.ref Ca) ∧ DefOk M T G.K (ad (.ini c)) (fdd (.ini c)) (pss (.ini c)) (.ini c) "__init__" ∧ (c ∈ M.mks → Mk G.K Ca (ad (.ini c))) ∧ (c ∈ M.sup → ∃ mc, SupF G.K Ca (ad (.ini c)) mc)
  cls : ∀ c ∈ M.cls, ∃ Ca, G.cls c = some Ca ∧ mg c = some (.ref Ca)
  isi : ∀ c Ca, G.cls c = some Ca → IsF T G c Ca
  att : ∀ f ∈ M.att, ∀ c Ca, G.cls c = some Ca → NoAttr G.K Ca f
  mth : ∀ m ∈ M.mth, (∀ c Ca b, G.cls c = some Ca → T.mro c m = some b → Meth G.K Ca m (ad (.me b m)) ∧ DefOk M T G.K (ad (.me b m)) (fdd (.me b m)) (pss (.me b m)) (.me b m) m) ∧ ∃ c b, T.mro c m = some b
  hC : ∀ m c b, T.mro c m = some b → ∃ Ca, G.cls c = some Ca
  blt : ∀ x ∈ blts, mg x = none
  exc : ∀ c ∈ M.exc, ∃ Ca Bn newId initId bmB, ExcBaseFacts Bn newId initId bmB ∧ PySem.W.excIn G.K Ca bmB newId = true ∧ mg c = some (.ref Ca) ∧ PySem.W.keepIn G.K (.ref Ca) = true ∧ G.ecls c = some Ca ∧ ∀ X : Cx, X.K = G.K → Raises X (.ref Ca)
variable {ad : Fid → Addr} {fdd : Fid → FuncData} {pss : Fid → List Str}
/-- the promises at a level -/
def Lv (M : Nm) (T : Tb) (W : Nat) (G : GT) (P : Program) (w : World) (mg : Str → Option Value) (base : Heap) (ad : Fid → Addr) (fdd : Fid → FuncData) (pss : Fid → List Str) (n : Nat) : Prop := ∀ fid x, DefOk M T G.K (ad fid) (fdd fid) (pss fid) fid x → match fid with
  | .ini c => FnOk P w G.K mg base (L2.CX P w) (n + 1) (ad (.ini c)) (fdd (.ini c)) (pss (.ini c)) (spI G (run T W n) c)
  | .mk _ => True
  | fid => FnOk P w G.K mg base (L2.CX P w) (n + 1) (ad fid) (fdd fid) (pss fid) (spC G (run T W n) fid)
theorem lv_zero : Lv M T W G P w mg base ad fdd pss 0 := fun fid x _ => by
  have b : ∀ (f : Fid) (ds : List D), run T W 0 f ds = .bad := fun f ds => by cases f <;> rfl
  cases fid with
  | ini c =>
    refine FnOk.nil fun vs H Q E h => ?_
    obtain ⟨_, _, _, _, _, _, _, _, _, _, _, h⟩ := h
    rw [b] at h
    exact h
  | mk c => exact trivial
  | fn c =>
    refine FnOk.nil fun vs H Q E h => ?_
    obtain ⟨_, _, _, h⟩ := h
    rw [b] at h
    exact h
  | me c m =>
    refine FnOk.nil fun vs H Q E h => ?_
    obtain ⟨_, _, _, h⟩ := h
    rw [b] at h
    exact h
theorem lv_good (TO : TextOk M T G P w mg base ad fdd pss) (L : Lv M T W G P w mg base ad fdd pss n) (L' : n = 0 ∨ ∃ m, n = m + 1 ∧ Lv M T W G P w mg base ad fdd pss m) : GoodB M T (run T W n) G (n + 1) P w mg base where
  con := TO.con
  fns := fun x hx => by
    obtain ⟨h1, h2, h3⟩ := TO.fns x hx
    exact ⟨_, _, _, L _ _ h1, h2, h3, h1.bi⟩
  mks := fun c hc => by
    obtain ⟨Ca, h1, h2, h3, h4, _⟩ := TO.ini c (.inl hc)
    rcases L' with rfl | ⟨m, rfl, Lm⟩
    · refine ⟨fun _ _ => .bad, 0, Ca, _, _, _, Nat.le_refl _, fun ds => by simp [run], h1, h4 hc, FnOk.nil fun vs H Q E h => ?_, h2, h3.bi⟩
      obtain ⟨_, _, _, _, _, _, _, _, _, _, _, h⟩ := h
      exact h
    · exact ⟨run T W m, m + 1, Ca, _, _, _, Nat.le_refl _, fun ds => by simp [run], h1, h4 hc, Lm _ _ h3, h2, h3.bi⟩
  sup := fun c hc => by
    obtain ⟨Ca, h1, h2, h3, _, h4⟩ := TO.ini c (.inr hc)
    obtain ⟨mc, h4⟩ := h4 hc
    exact ⟨Ca, _, _, _, mc, h4, L _ _ h3, h2, h3.bi⟩
  cls := TO.cls
  isi := TO.isi
  att := TO.att
  mth := fun m hm => by
    obtain ⟨h1, h2⟩ := TO.mth m hm
    refine ⟨fun c Ca b hc hb => ?_, h2⟩
    obtain ⟨h3, h4⟩ := h1 c Ca b hc hb
    exact ⟨(TO.isi c Ca hc).cls, _, _, _, h3, L _ _ h4, h4.bi⟩
  hC := TO.hC
  blt := TO.blt
  exc := TO.exc
theorem lv_succ (GB : GoodB M T (run T W n) G (n + 1) P w mg base) : Lv M T W G P w mg base ad fdd pss (n + 1) := fun fid x h => by
  obtain ⟨qual, st, N, g, F, S, hc, hT, hp, hs⟩ := h.ex
  cases fid with
  | ini c => exact ini_ok GB F S hc hT hp hs
  | mk c => exact trivial
  | fn c => exact fn_ok GB F S hc hT hp hs fun ds => by simp only [run, hT]
  | me c m => exact fn_ok GB F S hc hT hp hs fun ds => by simp only [run, hT]
theorem lv_all (TO : TextOk M T G P w mg base ad fdd pss) : ∀ n, Lv M T W G P w mg base ad fdd pss n ∧ (n = 0 ∨ ∃ m, n = m + 1 ∧ Lv M T W G P w mg base ad fdd pss m)
  | 0 => ⟨lv_zero, .inl rfl⟩
  | n + 1 => ⟨lv_succ (lv_good TO (lv_all TO n).1 (lv_all TO n).2), .inr ⟨n, rfl, (lv_all TO n).1⟩⟩
/-- the law's own promise -/
theorem law_ok {lw : Str} (TO : TextOk M T G P w mg base ad fdd pss) (h : lw ∈ M.fns) (n : Nat) : FnOk P w G.K mg base (L2.CX P w) (n + 1) (ad (.fn lw)) (fdd (.fn lw)) (pss (.fn lw)) (spC G (run T W n) (.fn lw)) := (lv_all TO n).1 _ _ (TO.fns lw h).1
/-- from the value to the promise's end -/
theorem law_end {C : Fid → List D → R (D × Bool)} {lw : Str} {H : Hp} {a : Addr} {ns : List Int} {m : Bool} (hO : Only H) (hS : SqL G.K H a (ns.map V.int)) (h : C (.fn lw) [.scr ns] = .ok (.bl true, m)) : spC G C (.fn lw) [.ref a] H (fun v _ => v = .bl true) fun _ _ _ => False := by
  refine ⟨fun _ _ => True, [.scr ns], ?_, ?_⟩
  · simp only [Reps, Rep]
    refine ⟨_, _, rfl, ⟨a, rfl, ?_⟩, rfl⟩
    rcases hS with (hS | hS) | hS
    · rcases hO a with z | ⟨o, xs, z⟩
      · rw [hS] at z; cases z
      · rw [hS] at z; cases z
    · exact .inl hS
    · exact .inr hS
  · rw [h]
    intro v H' _ r _
    simpa [Rep] using r
end
end FS

/-! FS19: from the written part of the heap to the promises; the law's end. -/
namespace FS
open PySem L2 PyProof.Rows

def lk {α : Type} (x : Str) : List (Str × α) → Option α
  | [] => none
  | (y, a) :: r => if x = y then some a else lk x r
def clsA (K : PySem.W.Frag) (c : Str) : Option Addr := match PySem.W.nsIn K mainGlobals c with
  | some (some (.ref a)) => some a
  | _ => none
def gt (rules excs : List Str) (K : PySem.W.Frag) : GT := ⟨K, fun c => if rules.contains c then clsA K c else none, fun c => if excs.contains c then clsA K c else none⟩
def fnA (K : PySem.W.Frag) (c m : Str) : Addr := match clsA K c with
  | some a => match PySem.W.findIn K (.ref a) m with
    | some (some (.ref f)) => f
    | _ => 0
  | none => 0
def adK (K : PySem.W.Frag) : Fid → Addr
  | .fn x => (clsA K x).getD 0
  | .ini c => fnA K c "__init__"
  | .me c m => fnA K c m
  | .mk _ => 0
def fdK (K : PySem.W.Frag) (f : Fid) : FuncData := match K.lookup (adK K f) with
  | some ⟨_, _, .func fd, _⟩ => fd
  | _ => PySem.W.fnOf "" "" { posonlyargs := [], args := [], vararg := none, kwonlyargs := [], kw_defaults := [], kwarg := none, defaults := [] } [] { kind := .function, names := [], isGenerator := false, isCoroutine := false } .none .none .none .none none .none .none
/-- a table of the defs: their texts, their names -/
structure Tab where
  fn : List (Str × Fn × List Str)
  ini : List (Str × Fn × List Str)
  me : List (Str × List (Str × Fn × List Str))
  con : List (Str × D)
  mro : List (Str × List (Str × Str))
  sub : List (Str × List Str)
def Tab.get (t : Tab) : Fid → Option (Fn × List Str)
  | .fn x => lk x t.fn
  | .ini c => lk c t.ini
  | .me c m => (lk c t.me).bind fun l => lk m l
  | .mk _ => none
def Tab.tb (t : Tab) : Tb := ⟨fun x => lk x t.con, fun f => (t.get f).map (·.1), fun c m => (lk c t.mro).bind fun l => lk m l, fun e c => match lk e t.sub with
  | some l => l.contains c
  | none => false⟩
def Tab.ps (t : Tab) (f : Fid) : List Str := match t.get f with
  | some (g, N) => N.take g.np
  | none => []
section
variable {M : Nm} {t : Tab} {rules excs : List Str} {K : PySem.W.Frag} {c x m qual : Str} {C f : Addr}
theorem clsA_of (h : PySem.W.nsIn K mainGlobals c = some (some (.ref C))) : clsA K c = some C := by
  unfold clsA
  rw [h]
theorem gt_cls (hc : rules.contains c = true) (h : PySem.W.nsIn K mainGlobals c = some (some (.ref C))) : (gt rules excs K).cls c = some C := by
  show (if rules.contains c then clsA K c else none) = some C
  rw [if_pos hc, clsA_of h]
theorem gt_ecls (hc : excs.contains c = true) (h : PySem.W.nsIn K mainGlobals c = some (some (.ref C))) : (gt rules excs K).ecls c = some C := by
  show (if excs.contains c then clsA K c else none) = some C
  rw [if_pos hc, clsA_of h]
theorem gt_in {Ca : Addr} (h : (gt rules excs K).cls c = some Ca) : c ∈ rules ∧ clsA K c = some Ca := by
  have h : (if rules.contains c then clsA K c else none) = some Ca := h
  split at h
  · rename_i hc
    exact ⟨by simpa using hc, h⟩
  · cases h
theorem ad_fn (h : PySem.W.nsIn K mainGlobals x = some (some (.ref f))) : adK K (.fn x) = f := by
  show (clsA K x).getD 0 = f
  rw [clsA_of h]
  rfl
theorem fnA_of (h : PySem.W.nsIn K mainGlobals c = some (some (.ref C))) (h2 : PySem.W.findIn K (.ref C) m = some (some (.ref f))) : fnA K c m = f := by
  unfold fnA
  rw [clsA_of h]
  simp only
  rw [h2]
/-- a def's facts -/
theorem defOk_mk {T : Tb} {fid : Fid} {st : Stmt} {N ps : List Str} {g : Fn} {oc : Value} {od an : Option Addr} {osl : Array (Option Value)} {kV doc pm cdv ct : Value} (hA : adK K fid = f) (l : K.lookup f = some ⟨oc, od, .func (PySem.W.fnOf x qual (defArgs st) (defBody st) (defScope st) .none kV doc pm an cdv ct), osl⟩)
    (cd : PySem.W.codeIn K cdv qual = true) (kp : PySem.W.keepIn K (.ref f) = true) (hc : cF M N st = some g.body) (hT : T.fn fid = some g) (hp : g.np = ps.length) (hs : g.ns = N.length) (S : FnScope N ps (defScope st))
    (b : ∀ (kV doc pm : Value) (an : Option Addr) (cdv ct : Value) (us : List Value), us.length = ps.length → bindArgs (PySem.W.fnOf x qual (defArgs st) (defBody st) (defScope st) .none kV doc pm an cdv ct) ⟨us, []⟩ = pure (ps.zip us)) : DefOk M T K (adK K fid) (fdK K fid) ps fid x := by
  have e : fdK K fid = PySem.W.fnOf x qual (defArgs st) (defBody st) (defScope st) .none kV doc pm an cdv ct := by
    unfold fdK
    rw [hA, l]
  rw [e, hA]
  have F := fun_mk (st := st) l cd kp
  exact ⟨⟨qual, st, N, g, F, S, hc, hT, hp, hs⟩, F.binds b, b _ _ _ _ _ _⟩
theorem scope_mk {N ps : List Str} {sc : Scope} (h : (decide (sc.kind = .function) && !sc.isCoroutine && !sc.isGenerator && decide N.Nodup && decide (N.take ps.length = ps) && ps.all (fun x => decide (sc.names.lookup x = some .local) || decide (sc.names.lookup x = some .cell)) && sc.names.all (fun y => !decide (y.2 = .free))) = true) : FnScope N ps sc := by
  simp only [Bool.and_eq_true, Bool.not_eq_true', decide_eq_true_eq, List.all_eq_true, Bool.or_eq_true, decide_eq_false_iff_not] at h
  obtain ⟨⟨⟨⟨⟨⟨h1, h2⟩, h3⟩, h4⟩, h5⟩, h6⟩, h7⟩ := h
  exact ⟨h1, h2, h3, h4, h5, h6, h7⟩
theorem con_mk {h : Heap} {mg : Str → Option Value} (X : K.In h) (Gl : h.Ns mainGlobals mg) {G : GT} {T : Tb} {i : Int} {tk : Tok} (hT : T.con x = some (.int i)) (e : PySem.W.nsIn K mainGlobals x = some (some (.int i tk))) : ∃ d v u, T.con x = some d ∧ mg x = some u ∧ RelV v u ∧ ∀ F H, Post G F H H (mkI d) v :=
  ⟨.int i, .int i, .int i tk, hT, PySem.W.mg_of X Gl e, ⟨_, rfl⟩, fun F H => Post.int⟩
/-- from the defs to the law -/
theorem walk {l : PySem.W.OpenLaw} {q : Program} {loose : List Str} {XP : (Str → Option Value) → Heap → Prop} {YP : World → Heap → Prop} {d : DefRec} {K : Params → PySem.W.Frag} {n W : Nat} {lw xs : Str} (hn : l.most = some 63) (hdf : d.params.defaults = []) (hk : Room (n + 1) callerA) (hnm : d.name = lw) (hlw : lw ∈ M.fns) (hps : t.ps (.fn lw) = [xs])
    (hY : ∀ (w : World) (h : Heap), YP w h → (K w.params).In h)
    (F : ∀ (w : World) (mg : Str → Option Value) (h : Heap), (K w.params).In h → h.Ns mainGlobals mg → (∀ base : Heap, TextOk M t.tb (gt rules excs (K w.params)) l.prog w mg base (adK (K w.params)) (fdK (K w.params)) t.ps))
    (hrun : ∀ ns : List Int, ns.length ≤ 63 → ∃ m, run t.tb W n (.fn lw) [.scr ns] = .ok (.bl true, m)) :
    PySem.W.WalkO q loose XP YP l.row.toRowW d [] (fun f vs => PySem.call f vs) :=
  L2.walk_of (n := 63) (k := n + 1) (x := xs) (CX := fun w => L2.CX l.prog w) (sp := fun w => spC (gt rules excs (K w.params)) (run t.tb W n) (.fn lw)) hn (by decide) hdf hk hY (fun w mg fa h KX Gl hmg => by
    have TO := F w mg h KX Gl
    obtain ⟨_, h2, _⟩ := (TO h).fns lw hlw
    rw [hnm, h2] at hmg
    have e : adK (K w.params) (.fn lw) = fa := by
      have := Option.some.inj hmg
      cases this
      rfl
    refine ⟨fdK (K w.params) (.fn lw), fun s u => ?_, fun base KB GB => ?_⟩
    · obtain ⟨h1, _, _⟩ := (TO h).fns lw hlw
      have b := h1.ba [u] (by rw [hps]; rfl)
      rw [hps] at b
      exact .of_eq b
    · have := law_ok (W := W) (TO base) hlw n
      rw [hps, e] at this
      exact this) (fun w H a ns hl hO hS => by
    obtain ⟨m, hm⟩ := hrun ns hl
    exact law_end hO hS hm) fun w H s e s' c => by
    obtain ⟨_, _, _, _, _, _, _, _, _, _, _, _, z⟩ := c
    exact z
end
end FS

/-! FS20: how the evaluator is run by hand: small equations, comprehensions, loops. -/
namespace FS
open PySem L2
theorem ok_bind {α β : Type} (a : α) (f : α → R β) : (R.ok a).bind f = f a := rfl
theorem exc_bind {α β : Type} (c : Str) (f : α → R β) : (R.exc c : R α).bind f = .exc c := rfl
theorem ite_bind {α β : Type} {p : Prop} [Decidable p] (r s : R α) (f : α → R β) : (if p then r else s).bind f = if p then r.bind f else s.bind f := by split <;> rfl
theorem ok_nox {α : Type} (a : α) : (R.ok a).nox = .ok a := rfl
theorem run_fn {T : Tb} {W n : Nat} {x : Str} {ds : List D} {g : Fn} (h : T.fn (.fn x) = some g) (hl : ds.length = g.np) : run T W (n + 1) (.fn x) ds = endV (execs T W (run T W n) g.body [] (startE g ds)) := by
  simp only [run, h, hl, if_true]
theorem run_me {T : Tb} {W n : Nat} {c m : Str} {ds : List D} {g : Fn} (h : T.fn (.me c m) = some g) (hl : ds.length = g.np) : run T W (n + 1) (.me c m) ds = endV (execs T W (run T W n) g.body [] (startE g ds)) := by
  simp only [run, h, hl, if_true]
theorem run_ini {T : Tb} {W n : Nat} {c c' : Str} {fs : List (Str × D)} {ds : List D} {g : Fn} (h : T.fn (.ini c) = some g) (hl : ds.length + 1 = g.np) : run T W (n + 1) (.ini c) (.obj c' fs :: ds) = (execs T W (run T W n) g.body [] (some (.own (.obj c' fs) true) :: ds.map (fun d => some (.shr d false)) ++ List.replicate (g.ns - g.np) none)).bind (iniEnd c') := by
  simp only [run, h, List.length_cons, hl, if_true]
theorem run_mk {T : Tb} {W n : Nat} {c : Str} {ds : List D} : run T W (n + 1) (.mk c) ds = run T W n (.ini c) (.obj c [] :: ds) := by simp only [run]
/-- a comprehension, item by item -/
theorem comp_go {α : Type} {turn : D → R (Option (D × Bool))} {g : α → D} {f : α → D} {p : α → Bool} : ∀ {xs : List α} {acc : List D} {n : Bool}, (∀ x ∈ xs, turn (g x) = .ok (if p x then some (f x, true) else none)) → compV turn (xs.map g) acc n = .ok (acc ++ (xs.filter p).map f, n)
  | [], acc, n, _ => by simp [compV]
  | x :: xs, acc, n, h => by
    have ih := fun acc n => comp_go (turn := turn) (acc := acc) (n := n) fun y hy => h y (List.mem_cons_of_mem _ hy)
    rw [List.map_cons]
    unfold compV
    rw [h x List.mem_cons_self, ok_bind]
    cases hp : p x with
    | true =>
      simp only [if_true]
      rw [ih, Bool.and_true, List.filter_cons_of_pos hp]
      simp
    | false =>
      simp only [Bool.false_eq_true, if_false]
      rw [ih, List.filter_cons_of_neg (by simp [hp])]
theorem comp_all {α : Type} {turn : D → R (Option (D × Bool))} {g : α → D} {f : α → D} {xs : List α} {acc : List D} {n : Bool} (h : ∀ x ∈ xs, turn (g x) = .ok (some (f x, true))) : compV turn (xs.map g) acc n = .ok (acc ++ xs.map f, n) := by
  have := comp_go (p := fun _ => true) (turn := turn) (g := g) (f := f) (xs := xs) (acc := acc) (n := n) fun x hx => by simpa using h x hx
  rwa [List.filter_eq_self.mpr fun _ _ => rfl] at this
/-- a loop by its invariant, which may leave early -/
theorem for_go {α : Type} {turn : D → SEnv → R Fw} {g : α → D} (I : List α → List α → SEnv → Prop) (Rt : R Fw → Prop) : ∀ {xs pre : List α} {E : SEnv}, I pre xs E → (∀ pre x r E, I pre (x :: r) E → (∃ E', turn (g x) E = .ok (.nx E') ∧ I (pre ++ [x]) r E') ∨ (∃ d m, turn (g x) E = .ok (.rt d m) ∧ Rt (.ok (.rt d m)))) →
    (∃ E', forV turn (xs.map g) E = .ok (.nx E') ∧ I (pre ++ xs) [] E') ∨ (∃ d m, forV turn (xs.map g) E = .ok (.rt d m) ∧ Rt (.ok (.rt d m)))
  | [], pre, E, h, _ => .inl ⟨E, rfl, by simpa using h⟩
  | x :: xs, pre, E, h, hs => by
    rw [List.map_cons]
    unfold forV
    rcases hs pre x xs E h with ⟨E', e, h'⟩ | ⟨d, m, e, h'⟩
    · rw [e, ok_bind]
      rcases for_go I Rt h' hs with ⟨E2, e2, h2⟩ | ⟨d, m, e2, h2⟩
      · exact .inl ⟨E2, e2, by simpa using h2⟩
      · exact .inr ⟨d, m, e2, h2⟩
    · rw [e, ok_bind]
      exact .inr ⟨d, m, rfl, h'⟩
/-- .. without -/
theorem for_nx {α : Type} {turn : D → SEnv → R Fw} {g : α → D} (I : List α → List α → SEnv → Prop) {xs : List α} {E : SEnv} (h : I [] xs E) (hs : ∀ pre x r E, I pre (x :: r) E → ∃ E', turn (g x) E = .ok (.nx E') ∧ I (pre ++ [x]) r E') : ∃ E', forV turn (xs.map g) E = .ok (.nx E') ∧ I xs [] E' := by
  rcases for_go I (fun _ => False) h fun pre x r E h => .inl (hs pre x r E h) with h | ⟨_, _, _, z⟩
  · simpa using h
  · exact z.elim
theorem bind_assoc {α β γ : Type} (r : R α) (f : α → R β) (g : β → R γ) : (r.bind f).bind g = r.bind fun a => (f a).bind g := by cases r <;> rfl
theorem for_bind {α β : Type} {turn : D → SEnv → R Fw} {g : α → D} (I : List α → List α → SEnv → Prop) {xs : List α} {E : SEnv} {k : Fw → R β} {z : R β} (h : I [] xs E) (hs : ∀ pre x r E, I pre (x :: r) E → ∃ E', turn (g x) E = .ok (.nx E') ∧ I (pre ++ [x]) r E') (hk : ∀ E', I xs [] E' → k (.nx E') = z) : (forV turn (xs.map g) E).bind k = z := by
  obtain ⟨E', e, h'⟩ := for_nx I h hs
  rw [e, ok_bind]
  exact hk E' h'
theorem for_bindE {α β γ : Type} {turn : D → SEnv → R Fw} {g : α → D} (I : List α → List α → SEnv → Prop) {xs : List α} {E : SEnv} {k : Fw → R β} {z : γ → R β} {J : γ → Prop} (h : I [] xs E) (hs : ∀ pre x r E, I pre (x :: r) E → ∃ E', turn (g x) E = .ok (.nx E') ∧ I (pre ++ [x]) r E') (hk : ∀ E', I xs [] E' → ∃ c, k (.nx E') = z c ∧ J c) : ∃ c, (forV turn (xs.map g) E).bind k = z c ∧ J c := by
  obtain ⟨E', e, h'⟩ := for_nx I h hs
  rw [e, ok_bind]
  exact hk E' h'
theorem for_bind2 {α β : Type} {turn : D → SEnv → R Fw} {g : α → D} (I : List α → List α → SEnv → Prop) (Rt : R Fw → Prop) {xs : List α} {E : SEnv} {k : Fw → R β} {z : R β} (h : I [] xs E) (hs : ∀ pre x r E, I pre (x :: r) E → (∃ E', turn (g x) E = .ok (.nx E') ∧ I (pre ++ [x]) r E') ∨ (∃ d m, turn (g x) E = .ok (.rt d m) ∧ Rt (.ok (.rt d m)))) (hk : ∀ E', I xs [] E' → k (.nx E') = z) (hr : ∀ d m, Rt (.ok (.rt d m)) → k (.rt d m) = z) : (forV turn (xs.map g) E).bind k = z := by
  rcases for_go I Rt h hs with ⟨E', e, h'⟩ | ⟨d, m, e, h'⟩
  · rw [e, ok_bind]
    exact hk E' h'
  · rw [e, ok_bind]
    exact hr d m h'
theorem ixN_nat {n i : Nat} (h : i < n) : ixN' n (i : Int) = some i := by
  unfold ixN'
  rw [if_pos (by omega), if_pos (by omega)]
  rfl
theorem intsD_map : ∀ ns : List Int, intsD (ns.map D.int) = some ns
  | [] => rfl
  | n :: ns => by simp only [List.map_cons, intsD, intsD_map ns, Option.map_some]
theorem bls_map : ∀ ns : List Bool, bls (ns.map D.bl) = some ns
  | [] => rfl
  | n :: ns => by simp only [List.map_cons, bls, bls_map ns, Option.map_some]
theorem dedup_nodup {ns : List Int} (h : ns.Nodup) : dedup ns = ns := by
  have : ∀ (l acc : List Int), (acc ++ l).Nodup → l.foldl (fun acc x => if acc.any (· == x) then acc else acc ++ [x]) acc = acc ++ l := by
    intro l
    induction l with
    | nil => intro acc _; simp
    | cons x l ih =>
      intro acc hn
      rw [List.foldl_cons]
      have hx : x ∉ acc := by
        intro hx
        exact (List.nodup_append.mp hn).2.2 x hx x (by simp) rfl
      have : acc.any (· == x) = false := by
        rw [List.any_eq_false]
        intro y hy
        simp only [beq_iff_eq]
        exact fun z => hx (z ▸ hy)
      rw [this]
      simp only [Bool.false_eq_true, if_false]
      rw [ih (acc ++ [x]) (by simpa using hn)]
      simp
  have := this ns [] (by simpa using h)
  simpa [dedup] using this
theorem imm_ints (ns : List Int) : (ns.map D.int).all D.imm = true := by
  rw [List.all_map, List.all_eq_true]
  intro x _
  rfl
theorem dat_ints (n : Nat) (ns : List Int) : (ns.map D.int).all (D.dat n) = true := by
  rw [List.all_map, List.all_eq_true]
  intro x _
  cases n <;> rfl
theorem eqv_int (i j : Int) : (D.int i).eqv (.int j) = (i == j) := by unfold D.eqv; rfl
theorem eqvL_ints : ∀ xs ys : List Int, eqvL (xs.map D.int) (ys.map D.int) = (xs == ys)
  | [], [] => by simp [eqvL]
  | [], _ :: _ => by simp [eqvL]
  | _ :: _, [] => by simp [eqvL]
  | x :: xs, y :: ys => by simp only [List.map_cons, eqvL, eqv_int, eqvL_ints xs ys]; rfl

/-! ### operators at their values -/
section
variable {i j : Int} {f g : Fl} {a b : Bool} {T : Tb}
theorem bad_bind {α β : Type} (f : α → R β) : (R.bad : R α).bind f = .bad := rfl
theorem q_bool {α : Type} {k : Bool} {h : Bool → R α} : boolR (.bl k, f) h = h k := rfl
theorem q_add : binV .Add (.int i, f) (.int j, g) = .ok (.int (i + j), ⟨true, true, true⟩) := rfl
theorem q_sub : binV .Sub (.int i, f) (.int j, g) = .ok (.int (i - j), ⟨true, true, true⟩) := rfl
def mulOk (i j : Int) : Prop := (-(2 ^ 64) < i ∧ i < 2 ^ 64) ∨ (-(2 ^ 64) < j ∧ j < 2 ^ 64)
theorem q_mul (h : mulOk i j) : binV .Mult (.int i, f) (.int j, g) = .ok (.int (i * j), ⟨true, true, true⟩) := if_pos h
theorem q_mulr (h1 : -18446744073709551616 < j) (h2 : j < 18446744073709551616) : binV .Mult (.int i, f) (.int j, g) = .ok (.int (i * j), ⟨true, true, true⟩) := q_mul (.inr (by simpa using ⟨h1, h2⟩))
theorem q_mull (h1 : -18446744073709551616 < i) (h2 : i < 18446744073709551616) : binV .Mult (.int i, f) (.int j, g) = .ok (.int (i * j), ⟨true, true, true⟩) := q_mul (.inl (by simpa using ⟨h1, h2⟩))
theorem mulOk_r (h : -18446744073709551616 < j ∧ j < 18446744073709551616) : mulOk i j := .inr (by simpa using h)
theorem mulOk_l (h : -18446744073709551616 < i ∧ i < 18446744073709551616) : mulOk i j := .inl (by simpa using h)
theorem q_mod (h : 0 < j) : binV .Mod (.int i, f) (.int j, g) = .ok (.int (i % j), ⟨true, true, true⟩) := if_pos h
theorem q_fdiv (h1 : 0 < j) (h2 : j < 1073741824) : binV .FloorDiv (.int i, f) (.int j, g) = .ok (.int (i / j), ⟨true, true, true⟩) := if_pos ⟨h1, h2⟩
theorem q_cat {xs ys : List D} (h : xs.length + ys.length ≤ lim) : binV .Add (.lst xs, f) (.lst ys, g) = .ok (.lst (xs ++ ys), ⟨true, (f.n && g.n) || (xs ++ ys).all D.imm, true⟩) := if_pos h
theorem q_not : unV .Not (.bl a, f) = .ok (.bl (!a), ⟨true, true, true⟩) := rfl
theorem q_neg : unV .USub (.int i, f) = .ok (.int (-i), ⟨true, true, true⟩) := rfl
theorem q_lt : cmpV .Lt (.int i) (.int j) = .ok (decide (i < j)) := rfl
theorem q_le : cmpV .LtE (.int i) (.int j) = .ok (decide (i ≤ j)) := rfl
theorem q_gt : cmpV .Gt (.int i) (.int j) = .ok (decide (j < i)) := rfl
theorem q_ge : cmpV .GtE (.int i) (.int j) = .ok (decide (j ≤ i)) := rfl
theorem q_eqi : cmpV .Eq (.int i) (.int j) = .ok (i == j) := by
  show (if (D.int i).dat 60 && (D.int j).dat 60 then R.ok ((D.int i).eqv (.int j)) else R.bad) = _
  rw [eqv_int]
  rfl
theorem q_nei : cmpV .NotEq (.int i) (.int j) = .ok (!(i == j)) := by
  show (if (D.int i).dat 60 && (D.int j).dat 60 then R.ok (!(D.int i).eqv (.int j)) else R.bad) = _
  rw [eqv_int]
  rfl
theorem q_neb : cmpV .NotEq (.bl a) (.bl b) = .ok (!(a == b)) := by
  show (if (D.bl a).dat 60 && (D.bl b).dat 60 then R.ok (!(D.bl a).eqv (.bl b)) else R.bad) = _
  unfold D.eqv
  rfl
theorem q_isb : cmpV .Is (.bl a) (.bl b) = .ok (a == b) := rfl
theorem q_eql {xs ys : List D} (h1 : xs.all (D.dat 59) = true) (h2 : ys.all (D.dat 59) = true) : cmpV .Eq (.lst xs) (.lst ys) = .ok (eqvL xs ys) := by
  show (if (D.lst xs).dat 60 && (D.lst ys).dat 60 then R.ok ((D.lst xs).eqv (.lst ys)) else R.bad) = _
  rw [show (D.lst xs).dat 60 = true from h1, show (D.lst ys).dat 60 = true from h2]
  unfold D.eqv
  rfl
theorem q_nel {xs ys : List D} (h1 : xs.all (D.dat 59) = true) (h2 : ys.all (D.dat 59) = true) : cmpV .NotEq (.lst xs) (.lst ys) = .ok (!eqvL xs ys) := by
  show (if (D.lst xs).dat 60 && (D.lst ys).dat 60 then R.ok (!(D.lst xs).eqv (.lst ys)) else R.bad) = _
  rw [show (D.lst xs).dat 60 = true from h1, show (D.lst ys).dat 60 = true from h2]
  unfold D.eqv
  rfl
theorem eqvL_refl : ∀ (xs : List D), (∀ x ∈ xs, x.eqv x = true) → eqvL xs xs = true
  | [], _ => rfl
  | x :: xs, h => by simp [eqvL, h x List.mem_cons_self, eqvL_refl xs fun y hy => h y (List.mem_cons_of_mem _ hy)]
theorem eqvL_nil (xs : List D) : eqvL xs [] = xs.isEmpty := by cases xs <;> simp [eqvL]
theorem q_ixs {ns : List Int} {k : Nat} (h : k < ns.length) : idxV (.scr ns, f) (.int k, g) = .ok (.int ns[k], ⟨true, true, true⟩) := by
  show (match (ixN' ns.length k).bind fun j => ns[j]? with
    | some z => R.ok (mkI (.int z))
    | none => .bad) = _
  rw [ixN_nat h]
  simp only [Option.bind_some, List.getElem?_eq_getElem h]
  rfl
theorem q_ixl {xs : List D} {k : Nat} {d : D} (h : xs[k]? = some d) : idxV (.lst xs, f) (.int k, g) = .ok (d, ⟨false, f.n || d.imm, true⟩) := by
  show (match (ixN' xs.length k).bind fun j => xs[j]? with
    | some z => R.ok (mkE z f.n)
    | none => .bad) = _
  rw [ixN_nat (List.getElem?_eq_some_iff.mp h).1]
  simp only [Option.bind_some, h]
  rfl
theorem q_ixt {xs : List D} {k : Nat} {d : D} (h : xs[k]? = some d) : idxV (.tup xs, f) (.int k, g) = .ok (d, ⟨false, f.n || d.imm, true⟩) := by
  show (match (ixN' xs.length k).bind fun j => xs[j]? with
    | some z => R.ok (mkE z f.n)
    | none => .bad) = _
  rw [ixN_nat (List.getElem?_eq_some_iff.mp h).1]
  simp only [Option.bind_some, h]
  rfl
theorem q_t0 {x y : D} : idxV (.tup [x, y], f) (.int 0, g) = .ok (x, ⟨false, f.n || x.imm, true⟩) := q_ixt (k := 0) rfl
theorem q_t1 {x y : D} : idxV (.tup [x, y], f) (.int 1, g) = .ok (y, ⟨false, f.n || y.imm, true⟩) := q_ixt (k := 1) rfl
theorem q_len {xs : List D} : biV T .len [(.lst xs, f)] = .ok (.int xs.length, ⟨true, true, true⟩) := rfl
theorem q_lent {xs : List D} : biV T .len [(.tup xs, f)] = .ok (.int xs.length, ⟨true, true, true⟩) := rfl
theorem q_lens {xs : List Int} : biV T .len [(.scr xs, f)] = .ok (.int xs.length, ⟨true, true, true⟩) := rfl
theorem q_list {xs : List D} : biV T .list [(.lst xs, f)] = .ok (.lst xs, ⟨true, f.n || xs.all D.imm, true⟩) := rfl
theorem q_listt {xs : List D} : biV T .list [(.tup xs, f)] = .ok (.lst xs, ⟨true, f.n || xs.all D.imm, true⟩) := rfl
theorem q_tuple {xs : List D} : biV T .tuple [(.lst xs, f)] = .ok (.tup xs, ⟨true, f.n || xs.all D.imm, true⟩) := rfl
theorem q_all {bs : List Bool} : biV T .all [(.lst (bs.map D.bl), f)] = .ok (.bl (bs.all id), ⟨true, true, true⟩) := by
  show (match bls (bs.map D.bl) with
    | some bs => R.ok (mkI (.bl (bs.all id)))
    | none => .bad) = _
  rw [bls_map]
  rfl
theorem q_lenset {ns : List Int} (h : ns.length ≤ 1000) : biV T .lenset [(.lst (ns.map D.int), f)] = .ok (.int (dedup ns).length, ⟨true, true, true⟩) := by
  show (match intsD (ns.map D.int) with
    | some ns => if ns.length ≤ 1000 then R.ok (mkI (.int (dedup ns).length)) else .bad
    | none => .bad) = _
  rw [intsD_map]
  simp only
  rw [if_pos h]
  rfl
theorem q_count {ns : List Int} {k : Int} : biV T .count [(.lst (ns.map D.int), f), (.int k, g)] = .ok (.int (ns.count k), ⟨true, true, true⟩) := by
  show (match intsD (ns.map D.int) with
    | some ns => R.ok (mkI (.int (ns.count k)))
    | none => .bad) = _
  rw [intsD_map]
  rfl
theorem q_isi {t : Ty} {d : D} {k : Bool} (h : isiV T t d = .ok k) : biV T (.isi t) [(d, f)] = .ok (.bl k, ⟨true, true, true⟩) := by
  rw [isi_at, h]
  rfl
theorem i_int : isiV T .int (.int i) = .ok true := rfl
theorem i_bool : isiV T .bool (.int i) = .ok false := rfl
theorem i_boolb : isiV T .bool (.bl a) = .ok true := rfl
theorem i_list {xs : List D} : isiV T .list (.lst xs) = .ok true := rfl
theorem i_tuple {xs : List D} : isiV T .tuple (.tup xs) = .ok true := rfl
theorem i_cls {c e : Str} {fs : List (Str × D)} : isiV T (.cls c) (.obj e fs) = .ok (T.sub e c) := rfl
theorem q_is1 : biV T (.isi .int) [(.int i, f)] = .ok (.bl true, ⟨true, true, true⟩) := rfl
theorem q_is2 : biV T (.isi .bool) [(.int i, f)] = .ok (.bl false, ⟨true, true, true⟩) := rfl
theorem q_is3 : biV T (.isi .bool) [(.bl a, f)] = .ok (.bl true, ⟨true, true, true⟩) := rfl
theorem q_is4 {xs : List D} : biV T (.isi .list) [(.lst xs, f)] = .ok (.bl true, ⟨true, true, true⟩) := rfl
theorem q_is5 {xs : List D} : biV T (.isi .tuple) [(.tup xs, f)] = .ok (.bl true, ⟨true, true, true⟩) := rfl
theorem q_is6 {c e : Str} {fs : List (Str × D)} : biV T (.isi (.cls c)) [(.obj e fs, f)] = .ok (.bl (T.sub e c), ⟨true, true, true⟩) := rfl
theorem q_asg {E : SEnv} {k : Nat} {r n : Bool} : asgV E k (.int i, ⟨r, n, true⟩) = .ok (.nx (E.set k (some (.shr (.int i) n)))) := rfl
theorem q_asgb {E : SEnv} {k : Nat} {r n : Bool} : asgV E k (.bl a, ⟨r, n, true⟩) = .ok (.nx (E.set k (some (.shr (.bl a) n)))) := rfl
theorem q_asgt {E : SEnv} {k : Nat} {r n : Bool} {xs : List D} : asgV E k (.tup xs, ⟨r, n, true⟩) = .ok (.nx (E.set k (some (.shr (.tup xs) n)))) := rfl
theorem q_asgo {E : SEnv} {k : Nat} {r n : Bool} {c : Str} {fs : List (Str × D)} : asgV E k (.obj c fs, ⟨r, n, true⟩) = .ok (.nx (E.set k (some (.shr (.obj c fs) n)))) := rfl
theorem q_asgl {E : SEnv} {k : Nat} {n c : Bool} {xs : List D} : asgV E k (.lst xs, ⟨true, n, c⟩) = .ok (.nx (E.set k (some (.own (.lst xs) n)))) := rfl
theorem q_rng {z : Nat} (h : (z : Int) ≤ lim) : rngV (.int 0) (.int z) = .ok ((List.range z).map fun (k : Nat) => D.int k, true, true) := by
  show (if -(lim : Int) ≤ 0 ∧ (0 : Int) ≤ lim ∧ -(lim : Int) ≤ z ∧ (z : Int) ≤ lim then R.ok ((List.range ((z : Int) - 0).toNat).map fun (k : Nat) => D.int (0 + k), true, true) else .bad) = _
  have hl : (lim : Int) = 1000000 := rfl
  rw [if_pos (by omega)]
  simp
theorem q_it {xs : List D} : itV (.lst xs, f) = .ok (xs, f.n, f.c) := rfl
theorem q_itt {xs : List D} : itV (.tup xs, f) = .ok (xs, f.n, f.c) := rfl
theorem q_rev {xs : List D} : revV (.lst xs, f) = .ok (.lst xs.reverse, ⟨true, f.n || xs.reverse.all D.imm, true⟩) := rfl
theorem q_call {d : D} {m : Bool} (h : (m || d.imm || f.c) = true) : callF (d, m) f = .ok (d, ⟨m, m || d.imm || f.n, true⟩) := if_pos h
theorem q_calli {m : Bool} : callF (.int i, m) f = .ok (.int i, ⟨m, true, true⟩) := by cases m <;> rfl
theorem q_callb {m : Bool} : callF (.bl a, m) f = .ok (.bl a, ⟨m, true, true⟩) := by cases m <;> rfl
theorem imm_i : D.imm (.int i) = true := rfl
theorem imm_b : D.imm (.bl a) = true := rfl
theorem imm_l {xs : List D} : D.imm (.lst xs) = false := rfl
theorem imm_k {xs : List (Int × D)} : D.imm (.dic xs) = false := rfl
theorem imm_s {x : Str} : D.imm (.str x) = true := rfl
theorem imm_n : D.imm .non = true := rfl
theorem imm_c {x : List Int} : D.imm (.scr x) = true := rfl
theorem q_nm {E : SEnv} {k : Nat} {d : D} {n : Bool} : tgV E (.nm k) d n = .ok (E.set k (some (.shr d n))) := rfl
theorem q_tp {E : SEnv} {k l : Nat} {x y : D} {n : Bool} : tgV E (.tp [k, l]) (.tup [x, y]) n = .ok ((E.set k (some (.shr x n))).set l (some (.shr y n))) := rfl
end


/-! ### the evaluator without binders -/
def varV : Option (Option Slot) → R (D × Fl)
  | some (some (.shr d n)) => .ok (d, ⟨false, n || d.imm, true⟩)
  | some (some (.own (.lst ds) n)) => .ok (.lst ds, ⟨false, n, false⟩)
  | some (some (.own (.dic ds) n)) => .ok (.dic ds, ⟨false, n, false⟩)
  | _ => .bad
def glbV : Option D → R (D × Fl)
  | some d => .ok (d, ⟨true, true, true⟩)
  | none => .bad
def binR (op : Operator) (x y : R (D × Fl)) : R (D × Fl) := x.bind fun x => y.bind fun y => binV op x y
def unR (op : UnaryOp) (x : R (D × Fl)) : R (D × Fl) := x.bind fun x => unV op x
abbrev Call := Fid → List D → R (D × Bool)
def andR (T : Tb) (C : Call) (b : Ex) (E : SEnv) (x : R (D × Fl)) : R (D × Fl) := x.bind fun x => boolR x fun k => if k then ev T C b E else .ok (mkI (.bl false))
def orR (T : Tb) (C : Call) (b : Ex) (E : SEnv) (x : R (D × Fl)) : R (D × Fl) := x.bind fun x => boolR x fun k => if k then .ok (mkI (.bl true)) else ev T C b E
def bolR (x : R Bool) : R (D × Fl) := x.bind fun k => .ok (mkI (.bl k))
def cmpR (op : CmpOp) (x y : R (D × Fl)) : R (D × Fl) := x.bind fun x => y.bind fun y => bolR (cmpV op x.1 y.1)
def chn2 (T : Tb) (C : Call) (op : CmpOp) (c : Ex) (E : SEnv) (y : D) (k : R Bool) : R (D × Fl) := k.bind fun k => if k then (ev T C c E).bind fun z => bolR (cmpV op y z.1) else .ok (mkI (.bl false))
def chnR (T : Tb) (C : Call) (op op' : CmpOp) (c : Ex) (E : SEnv) (x y : R (D × Fl)) : R (D × Fl) := x.bind fun x => y.bind fun y => chn2 T C op' c E y.1 (cmpV op x.1 y.1)
def iteR (T : Tb) (C : Call) (a b : Ex) (E : SEnv) (c : R (D × Fl)) : R (D × Fl) := c.bind fun c => boolR c fun k => if k then ev T C a E else ev T C b E
def lstR (xs : R (List (D × Fl))) : R (D × Fl) := xs.bind fun xs => if (cmb xs).2.c then .ok (mkL (cmb xs).1 (cmb xs).2.n) else .bad
def tupR (xs : R (List (D × Fl))) : R (D × Fl) := xs.bind fun xs => if (cmb xs).2.c then .ok (.tup (cmb xs).1, ⟨true, (cmb xs).2.n, true⟩) else .bad
def dicR (x y : R (D × Fl)) : R (D × Fl) := x.bind fun x => y.bind fun y => match x.1 with
    | .int i => if y.2.c then .ok (.dic [(i, y.1)], ⟨true, y.2.n || y.1.imm, true⟩) else .bad
    | _ => .bad
def consR (x : R (D × Fl)) (xs : R (List (D × Fl))) : R (List (D × Fl)) := x.bind fun x => xs.bind fun p => .ok (x :: p)
/-- a comprehension's items -/
def compL (T : Tb) (C : Fid → List D → R (D × Bool)) (elt : Ex) (tg : Tg) (cond : Ex) (n : Bool) (E : SEnv) (ds : List D) : R (List D × Bool) := compV (compTurn (fun E => ev T C cond E) (fun E => ev T C elt E) E tg n) ds [] true
def endC (q : R (List D × Bool)) : R (D × Fl) := q.nox.bind fun q => .ok (mkL q.1 q.2)
def compR (T : Tb) (C : Fid → List D → R (D × Bool)) (elt : Ex) (tg : Tg) (cond : Ex) (own : List Nat) (E : SEnv) (p : R (List D × Bool × Bool)) : R (D × Fl) := p.bind fun p => endC (compL T C elt tg cond p.2.1 (wipeE E own) p.1)
def clR (f : Fl) (q : R (D × Bool)) : R (D × Fl) := q.bind fun q => callF q f
def callR (C : Fid → List D → R (D × Bool)) (f : Fid) (xs : R (List (D × Fl))) : R (D × Fl) := xs.bind fun xs => clR (cmb xs).2 (C f (cmb xs).1)
def biR (T : Tb) (b : Bi) (xs : R (List (D × Fl))) : R (D × Fl) := xs.bind fun xs => biV T b xs
def mth2 (C : Fid → List D → R (D × Bool)) (m : Str) (x : D × Fl) (b : R Str) (xs : R (List (D × Fl))) : R (D × Fl) := b.bind fun b => xs.bind fun xs => clR (cmb (x :: xs)).2 (C (.me b m) (x.1 :: (cmb xs).1))
def mthR (T : Tb) (C : Fid → List D → R (D × Bool)) (m : Str) (x : R (D × Fl)) (xs : R (List (D × Fl))) : R (D × Fl) := x.bind fun x => mth2 C m x (mthC T m x.1) xs
def rcvR (T : Tb) (b : Bi) (x : R (D × Fl)) (xs : R (List (D × Fl))) : R (D × Fl) := x.bind fun x => if rcvB b x.1 then xs.bind fun xs => biV T b (x :: xs) else .bad
def attR (x : R (D × Fl)) (f : Str) : R (D × Fl) := x.bind fun x => attV x f
def idxR (x y : R (D × Fl)) : R (D × Fl) := x.bind fun x => y.bind fun y => idxV x y
def revR (x : R (D × Fl)) : R (D × Fl) := x.bind fun x => revV x
def slcR (x y z : R (D × Fl)) : R (D × Fl) := x.bind fun x => y.bind fun y => z.bind fun z => slcV x y.1 z.1
/-- the keys of a sort -/
def keyF (T : Tb) (C : Fid → List D → R (D × Bool)) (i : Nat) (key : Ex) (E : SEnv) (k : Int) : R Int := (ev T C key ((wipeE E [i]).set i (some (.shr (.int k) true)))).bind fun y => match y.1 with
          | .int z => .ok z
          | _ => .bad
def sortR (T : Tb) (C : Fid → List D → R (D × Bool)) (i : Nat) (key : Ex) (E : SEnv) (x : R (D × Fl)) : R (D × Fl) := x.bind fun x => sortkV x (keyF T C i key E)
def itR (x : R (D × Fl)) : R (List D × Bool × Bool) := x.bind fun x => itV x
def rngR (x y : R (D × Fl)) : R (List D × Bool × Bool) := x.bind fun x => y.bind fun y => rngV x.1 y.1
def rng1R (y : R (D × Fl)) : R (List D × Bool × Bool) := y.bind fun y => rngV (.int 0) y.1
def enumR (x : R (D × Fl)) : R (List D × Bool × Bool) := x.bind fun x => enumV x
def zipR (x y : R (D × Fl)) : R (List D × Bool × Bool) := x.bind fun x => y.bind fun y => zipV x y
section
variable {T : Tb} {W : Nat} {C : Fid → List D → R (D × Bool)} {E : SEnv} {e o k c a b d : Ex} {es : Exs} {i j : Nat}
theorem e_var : ev T C (.var i) E = varV E[i]? := by simp only [ev]; unfold varV; rfl
theorem e_con {d : D} : ev T C (.con d) E = .ok (d, ⟨true, true, true⟩) := by simp only [ev]; rfl
theorem e_glb {x : Str} : ev T C (.glb x) E = glbV (T.con x) := by simp only [ev]; cases T.con x <;> rfl
theorem e_bin {op : Operator} : ev T C (.bin op a b) E = binR op (ev T C a E) (ev T C b E) := by simp only [ev]; rfl
theorem e_un {op : UnaryOp} : ev T C (.un op a) E = unR op (ev T C a E) := by simp only [ev]; rfl
theorem e_and : ev T C (.and a b) E = andR T C b E (ev T C a E) := by simp only [ev]; rfl
theorem e_or : ev T C (.or a b) E = orR T C b E (ev T C a E) := by simp only [ev]; rfl
theorem e_cmp {op : CmpOp} : ev T C (.cmp op a b) E = cmpR op (ev T C a E) (ev T C b E) := by simp only [ev]; rfl
theorem e_chn {op op' : CmpOp} : ev T C (.chn op op' a b c) E = chnR T C op op' c E (ev T C a E) (ev T C b E) := by simp only [ev]; rfl
theorem e_ite : ev T C (.ite c a b) E = iteR T C a b E (ev T C c E) := by simp only [ev]; rfl
theorem e_lst : ev T C (.lst es) E = lstR (evl T C es E) := by simp only [ev]; rfl
theorem e_tup : ev T C (.tup es) E = tupR (evl T C es E) := by simp only [ev]; rfl
theorem e_dic0 : ev T C .dic0 E = .ok (.dic [], ⟨true, true, true⟩) := by simp only [ev]
theorem e_dic : ev T C (.dic a b) E = dicR (ev T C a E) (ev T C b E) := by simp only [ev]; rfl
theorem e_comp {tg : Tg} {it : It} {own : List Nat} : ev T C (.comp e tg it c own) E = compR T C e tg c own E (evI T C it E) := by simp only [ev]; rfl
theorem e_call {f : Fid} : ev T C (.call f es) E = callR C f (evl T C es E) := by simp only [ev]; rfl
theorem e_bi {b : Bi} : ev T C (.bi b es) E = biR T b (evl T C es E) := by simp only [ev]; rfl
theorem e_mth {m : Str} : ev T C (.mth o m es) E = mthR T C m (ev T C o E) (evl T C es E) := by
  simp only [ev]
  unfold mthR mth2 clR
  rfl
theorem e_rcv {b : Bi} : ev T C (.rcv b o es) E = rcvR T b (ev T C o E) (evl T C es E) := by simp only [ev]; rfl
theorem e_att {f : Str} : ev T C (.att o f) E = attR (ev T C o E) f := by simp only [ev]; rfl
theorem e_idx : ev T C (.idx a b) E = idxR (ev T C a E) (ev T C b E) := by simp only [ev]; rfl
theorem e_rev : ev T C (.rev a) E = revR (ev T C a E) := by simp only [ev]; rfl
theorem e_slc : ev T C (.slc a b c) E = slcR (ev T C a E) (ev T C b E) (ev T C c E) := by simp only [ev]; rfl
theorem e_sort : ev T C (.sortk e i k) E = sortR T C i k E (ev T C e E) := by simp only [ev]; rfl
theorem l_nil : evl T C .nil E = .ok [] := by simp only [evl]
theorem l_cons : evl T C (.cons e es) E = consR (ev T C e E) (evl T C es E) := by simp only [evl]; rfl
theorem i_seq : evI T C (.seq e) E = itR (ev T C e E) := by simp only [evI]; rfl
theorem i_rng : evI T C (.rng a b) E = rngR (ev T C a E) (ev T C b E) := by simp only [evI]; rfl
theorem i_rng1 : evI T C (.rng1 a) E = rng1R (ev T C a E) := by simp only [evI]; rfl
theorem i_enum : evI T C (.enum e) E = enumR (ev T C e E) := by simp only [evI]; rfl
theorem i_zip : evI T C (.zip a b) E = zipR (ev T C a E) (ev T C b E) := by simp only [evI]; rfl
end
section
variable {T : Tb} {C : Fid → List D → R (D × Bool)} {E : SEnv} {d d' : D} {f g h : Fl} {n : Bool} {x y z : D × Fl} {rx ry : R (D × Fl)} {k : Bool} {ds : List D}
theorem v_shr : varV (some (some (.shr d n))) = .ok (d, ⟨false, n || d.imm, true⟩) := (rfl)
theorem v_own : varV (some (some (.own (.lst ds) n))) = .ok (.lst ds, ⟨false, n, false⟩) := (rfl)
theorem v_dic {ks : List (Int × D)} : varV (some (some (.own (.dic ks) n))) = .ok (.dic ks, ⟨false, n, false⟩) := (rfl)
theorem g_some : glbV (some d) = .ok (d, ⟨true, true, true⟩) := rfl
theorem o_bin {op : Operator} : binR op (.ok x) (.ok y) = binV op x y := (rfl)
theorem o_un {op : UnaryOp} : unR op (.ok x) = unV op x := (rfl)
theorem o_andT {b : Ex} : andR T C b E (.ok (.bl true, f)) = ev T C b E := (rfl)
theorem o_andF {b : Ex} : andR T C b E (.ok (.bl false, f)) = .ok (.bl false, ⟨true, true, true⟩) := (rfl)
theorem o_orT {b : Ex} : orR T C b E (.ok (.bl true, f)) = .ok (.bl true, ⟨true, true, true⟩) := (rfl)
theorem o_orF {b : Ex} : orR T C b E (.ok (.bl false, f)) = ev T C b E := (rfl)
theorem o_bol : bolR (.ok k) = .ok (.bl k, ⟨true, true, true⟩) := (rfl)
theorem o_cmp {op : CmpOp} : cmpR op (.ok (d, f)) (.ok (d', g)) = bolR (cmpV op d d') := (rfl)
theorem o_chn {op op' : CmpOp} {c : Ex} : chnR T C op op' c E (.ok (d, f)) (.ok (d', g)) = chn2 T C op' c E d' (cmpV op d d') := (rfl)
theorem o_chT {op : CmpOp} {c : Ex} : chn2 T C op c E d (.ok true) = cmpR op (.ok (d, ⟨true, true, true⟩)) (ev T C c E) := (rfl)
theorem o_chF {op : CmpOp} {c : Ex} : chn2 T C op c E d (.ok false) = .ok (.bl false, ⟨true, true, true⟩) := (rfl)
theorem o_iteT {a b : Ex} : iteR T C a b E (.ok (.bl true, f)) = ev T C a E := (rfl)
theorem o_iteF {a b : Ex} : iteR T C a b E (.ok (.bl false, f)) = ev T C b E := (rfl)
theorem o_ite {a b : Ex} : iteR T C a b E (.ok (.bl k, f)) = if k then ev T C a E else ev T C b E := (rfl)
theorem o_and {b : Ex} : andR T C b E (.ok (.bl k, f)) = if k then ev T C b E else .ok (.bl false, ⟨true, true, true⟩) := (rfl)
theorem o_or {b : Ex} : orR T C b E (.ok (.bl k, f)) = if k then .ok (.bl true, ⟨true, true, true⟩) else ev T C b E := (rfl)
theorem o_ch {op : CmpOp} {c : Ex} : chn2 T C op c E d (.ok k) = if k then cmpR op (.ok (d, ⟨true, true, true⟩)) (ev T C c E) else .ok (.bl false, ⟨true, true, true⟩) := by cases k <;> rfl
theorem o_lst {xs : List (D × Fl)} : lstR (.ok xs) = if (cmb xs).2.c then .ok (.lst (cmb xs).1, ⟨true, (cmb xs).2.n || (cmb xs).1.all D.imm, true⟩) else .bad := (rfl)
theorem o_tup {xs : List (D × Fl)} : tupR (.ok xs) = if (cmb xs).2.c then .ok (.tup (cmb xs).1, ⟨true, (cmb xs).2.n, true⟩) else .bad := (rfl)
theorem o_dic {i : Int} : dicR (.ok (.int i, f)) (.ok (d, g)) = if g.c then .ok (.dic [(i, d)], ⟨true, g.n || d.imm, true⟩) else .bad := (rfl)
theorem o_cons {xs : List (D × Fl)} : consR (.ok x) (.ok xs) = .ok (x :: xs) := (rfl)
theorem o_comp {elt : Ex} {tg : Tg} {cond : Ex} {own : List Nat} {c : Bool} : compR T C elt tg cond own E (.ok (ds, n, c)) = endC (compL T C elt tg cond n (wipeE E own) ds) := (rfl)
theorem o_endC : endC (.ok (ds, n)) = .ok (.lst ds, ⟨true, n || ds.all D.imm, true⟩) := (rfl)
theorem o_call {fid : Fid} {xs : List (D × Fl)} : callR C fid (.ok xs) = clR (cmb xs).2 (C fid (cmb xs).1) := (rfl)
theorem o_cl {q : D × Bool} : clR f (.ok q) = callF q f := (rfl)
theorem o_clE {c : Str} : clR f (.exc c) = .exc c := (rfl)
theorem o_bi {b : Bi} {xs : List (D × Fl)} : biR T b (.ok xs) = biV T b xs := (rfl)
theorem o_mth {m : Str} {rs : R (List (D × Fl))} : mthR T C m (.ok x) rs = mth2 C m x (mthC T m x.1) rs := (rfl)
theorem o_mth2 {m b : Str} {xs : List (D × Fl)} : mth2 C m x (.ok b) (.ok xs) = clR (cmb (x :: xs)).2 (C (.me b m) (x.1 :: (cmb xs).1)) := (rfl)
theorem o_rcv {b : Bi} {xs : List (D × Fl)} : rcvR T b (.ok x) (.ok xs) = if rcvB b x.1 then biV T b (x :: xs) else .bad := (rfl)
theorem o_att {a : Str} : attR (.ok x) a = attV x a := (rfl)
theorem o_idx : idxR (.ok x) (.ok y) = idxV x y := (rfl)
theorem o_rev : revR (.ok x) = revV x := (rfl)
theorem o_slc : slcR (.ok x) (.ok y) (.ok z) = slcV x y.1 z.1 := (rfl)
theorem o_sort {i : Nat} {key : Ex} : sortR T C i key E (.ok x) = sortkV x (keyF T C i key E) := (rfl)
theorem o_it : itR (.ok x) = itV x := (rfl)
theorem o_rng : rngR (.ok (d, f)) (.ok (d', g)) = rngV d d' := (rfl)
theorem o_rng1 : rng1R (.ok (d, f)) = rngV (.int 0) d := (rfl)
theorem o_enum : enumR (.ok x) = enumV x := (rfl)
theorem o_zip : zipR (.ok x) (.ok y) = zipV x y := (rfl)
/-- an exception on the way -/
theorem o_consE {c : Str} {rs : R (List (D × Fl))} : consR (.exc c) rs = .exc c := (rfl)
theorem o_consE2 {c : Str} : consR (.ok x) (.exc c) = .exc c := (rfl)
theorem o_callE {fid : Fid} {c : Str} : callR C fid (.exc c) = .exc c := (rfl)
theorem o_biE {b : Bi} {c : Str} : biR T b (.exc c) = .exc c := (rfl)
theorem o_iteE {a b : Ex} {c : Str} : iteR T C a b E (.exc c) = .exc c := (rfl)
theorem o_orE {b : Ex} {c : Str} : orR T C b E (.exc c) = .exc c := (rfl)
theorem o_andE {b : Ex} {c : Str} : andR T C b E (.exc c) = .exc c := (rfl)
end
/-! ### statements, one equation each -/
def frzO : Option Slot → Option Slot
  | some (.own (.lst ds) n) => some (.shr (.lst ds) n)
  | some (.own (.dic ds) n) => some (.shr (.dic ds) n)
  | s => s
theorem frz1_get (E : SEnv) (i j : Nat) : (frz1 E i)[j]? = if i = j then (E[j]?).map frzO else E[j]? := by
  unfold frz1
  by_cases h : i = j
  · subst h
    rw [if_pos rfl]
    cases e : E[i]? with
    | none => simp [e]
    | some s =>
      have hl : i < E.length := (List.getElem?_eq_some_iff.mp e).1
      cases s with
      | none => simp [e, frzO]
      | some s =>
        cases s with
        | shr d n => simp [e, frzO]
        | own d n => cases d <;> first | (simp [e, frzO, List.getElem?_set, hl]; done) | (simp only [e, Option.map_some, frzO])
  · rw [if_neg h]
    cases e : E[i]? with
    | none => rfl
    | some s =>
      cases s with
      | none => rfl
      | some s =>
        cases s with
        | shr d n => rfl
        | own d n => cases d <;> simp [List.getElem?_set, h]
theorem frzO2 (s : Option Slot) : frzO (frzO s) = frzO s := by
  cases s with
  | none => rfl
  | some s =>
    cases s with
    | shr d n => rfl
    | own d n => cases d <;> rfl
theorem frz_get : ∀ (is : List Nat) (E : SEnv) (j : Nat), (frz E is)[j]? = if j ∈ is then (E[j]?).map frzO else E[j]?
  | [], E, j => by simp [frz]
  | i :: is, E, j => by
    unfold frz
    rw [frz_get is, frz1_get]
    by_cases h : i = j
    · subst h
      simp only [if_true, List.mem_cons, true_or]
      split
      · cases E[i]? with
        | none => rfl
        | some s => simp [frzO2]
      · rfl
    · have h' : ¬ j = i := fun z => h z.symm
      simp only [if_neg h, List.mem_cons, h', false_or]
theorem frz_all (E : SEnv) : frz E (List.range E.length) = E.map frzO := by
  apply List.ext_getElem?
  intro j
  rw [frz_get, List.getElem?_map]
  split
  · rfl
  · rename_i h
    rw [List.mem_range] at h
    rw [List.getElem?_eq_none (by omega)]
    rfl

/-! ### statements, one equation each -/
/-- a loop, its body as it is written -/
def turnV (T : Tb) (W : Nat) (C : Fid → List D → R (D × Bool)) (tg : Tg) (n : Bool) (b : Sxs) (L : List Nat) (x : D) (E : SEnv) : R Fw := (tgV E tg x n).bind fun E' => execs T W C b L E'
def loopV (T : Tb) (W : Nat) (C : Fid → List D → R (D × Bool)) (tg : Tg) (n : Bool) (b : Sxs) (L : List Nat) (ds : List D) (E : SEnv) : R Fw := forV (turnV T W C tg n b L) ds E
def seqR (T : Tb) (W : Nat) (C : Fid → List D → R (D × Bool)) (ss : Sxs) (L : List Nat) (r : R Fw) : R Fw := r.bind fun f => match f with
    | .nx E' => execs T W C ss L E'
    | .rt d n => .ok (.rt d n)
def asgR (E : SEnv) (i : Nat) (x : R (D × Fl)) : R Fw := x.bind fun x => asgV E i x
def nxR (E : R SEnv) : R Fw := E.bind fun E' => .ok (.nx E')
def asgTR (E : SEnv) (is : List Nat) (x : R (D × Fl)) : R Fw := x.bind fun x => if x.2.c then nxR (tgV E (.tp is) x.1 x.2.n) else .bad
def parR (E : SEnv) (i j : Nat) (x y : R (D × Fl)) : R Fw := x.bind fun x => y.bind fun y => if x.2.c ∧ y.2.c then .ok (.nx ((E.set i (some (.shr x.1 x.2.n))).set j (some (.shr y.1 y.2.n)))) else .bad
def fldR (E : SEnv) (f : Str) (o : Option (Str × List (Str × D) × Bool)) (x : R (D × Fl)) : R Fw := match o with
    | some (c, fs, n) => x.bind fun x => if x.2.c ∧ fs.length < 900 then .ok (.nx (putS E 0 c (putO f x.1 fs) (n && (x.2.n || x.1.imm)))) else .bad
    | none => .bad
def sup2 (E : SEnv) (c : Str) (k : Bool) (q : R (D × Bool)) : R Fw := q.bind fun q => match q.1 with
        | .obj c2 fs2 => if c2 = c then .ok (.nx (putS E 0 c fs2 (k && q.2))) else .bad
        | _ => .bad
def retR (x : R (D × Fl)) : R Fw := x.bind fun x => if x.2.c then .ok (.rt x.1 (x.2.n && (x.2.r || !x.1.isL))) else .bad
def retO (o : Option (D × Bool)) (x : R (D × Fl)) : R Fw := match o with
    | some (d, n) => .ok (.rt d n)
    | none => retR x
def appR (E : SEnv) (i : Nat) (o : Option (List D × Bool)) (x : R (D × Fl)) : R Fw := match o with
    | some (ds, n) => x.bind fun x => appV E i ds n x
    | none => .bad
def clrR (E : SEnv) (i : Nat) (o : Option (List D × Bool)) : R Fw := match o with
    | some (_, n) => .ok (.nx (putL E i [] n))
    | none => .bad
def popR (E : SEnv) (j i : Nat) (o : Option (List D × Bool)) (k : R (D × Fl)) : R Fw := match o with
    | some (ds, n) => k.bind fun k => (popV ds k.1).bind fun p => .ok (.nx ((putL E i (ds.eraseIdx p.1) n).set j (some (.shr p.2 n))))
    | none => .bad
def setR (E : SEnv) (i : Nat) (o : Option (List D × Bool)) (o' : Option (List (Int × D) × Bool)) (x y : R (D × Fl)) : R Fw := match o, o' with
    | some (ds, n), _ => x.bind fun x => y.bind fun y => setLV E i ds n y.1 x
    | _, some (ds, n) => x.bind fun x => y.bind fun y => setKV E i ds n y.1 x
    | _, _ => .bad
def iteS (T : Tb) (W : Nat) (C : Call) (a b : Sxs) (L : List Nat) (E : SEnv) (c : R (D × Fl)) : R Fw := c.bind fun c => boolR c fun k => if k then execs T W C a L E else execs T W C b L E
def exprR (E : SEnv) (x : R (D × Fl)) : R Fw := x.bind fun _ => .ok (.nx E)
def whlR (T : Tb) (W : Nat) (C : Fid → List D → R (D × Bool)) (c : Ex) (b : Sxs) (L : List Nat) (w : Nat) (E : SEnv) : R Fw := whlV (fun E => (ev T C c E).bind fun k => boolR k fun k => .ok k) (fun E => execs T W C b L E) w E
def forR (T : Tb) (W : Nat) (C : Fid → List D → R (D × Bool)) (tg : Tg) (b : Sxs) (L : List Nat) (E : SEnv) (p : R (List D × Bool × Bool)) : R Fw := p.bind fun p => if p.2.2 then loopV T W C tg p.2.1 b L p.1 E else .bad
def forO (T : Tb) (W : Nat) (C : Fid → List D → R (D × Bool)) (tg : Tg) (it : It) (b : Sxs) (L : List Nat) (E : SEnv) : Option (Nat × List D × Bool) → R Fw
    | some (i, ds, n) => if lkB L (tgSlots tg) && !(tgSlots tg).contains i then loopV T W C tg n b (i :: L) ds E else .bad
    | none => if lkB L (tgSlots tg ++ escI it) then forR T W C tg b L (frz E (escI it)) (evI T C it (frz E (escI it))) else .bad
def slL : Option (Option Slot) → Option (List D × Bool)
  | some (some (.own (.lst ds) n)) => some (ds, n)
  | _ => none
def slK : Option (Option Slot) → Option (List (Int × D) × Bool)
  | some (some (.own (.dic ds) n)) => some (ds, n)
  | _ => none
def slO : Option (Option Slot) → Option (Str × List (Str × D) × Bool)
  | some (some (.own (.obj c fs) n)) => some (c, fs, n)
  | _ => none
def slV : Option (Option Slot) → Option (D × Bool)
  | some (some (.own (.lst ds) n)) => some (.lst ds, n)
  | some (some (.own (.dic ds) n)) => some (.dic ds, n)
  | _ => none
def frzW (E : SEnv) (i : Nat) : Option (Option Slot) → SEnv
  | some (some (.own (.lst ds) n)) => E.set i (some (.shr (.lst ds) n))
  | some (some (.own (.dic ds) n)) => E.set i (some (.shr (.dic ds) n))
  | _ => E
def itO (i : Nat) : Option (List D × Bool) → Option (Nat × List D × Bool)
  | some (ds, n) => some (i, ds, n)
  | none => none
section
variable {T : Tb} {W : Nat} {C : Fid → List D → R (D × Bool)} {E : SEnv} {e k c : Ex} {es : Exs} {i j : Nat} {b s : Sxs} {L : List Nat}
theorem lk_nil {is : List Nat} : lkB [] is = true := by unfold lkB; rw [List.all_eq_true]; intro i _; rfl
theorem lk_end : lkB L [] = true := rfl
theorem lk_cons {is : List Nat} : lkB L (i :: is) = (!L.contains i && lkB L is) := rfl
theorem sl_L : ownL E i = slL E[i]? := by unfold ownL slL; rfl
theorem sl_K : ownK E i = slK E[i]? := by unfold ownK slK; rfl
theorem sl_O : ownO E i = slO E[i]? := by unfold ownO slO; rfl
theorem sl_V : ownV E (.var i) = slV E[i]? := by unfold ownV slV; rfl
theorem sl_F : frz1 E i = frzW E i E[i]? := by unfold frz1 frzW; rfl
theorem it_V : ownIt E (.seq (.var i)) = itO i (ownL E i) := by
  unfold ownIt itO
  all_goals first | (simp only; done) | (simp only; cases ownL E i <;> rfl)
theorem x_asg : exec T W C (.asg i e) L E = if lkB L (i :: esc e) then asgR (frz E (esc e)) i (ev T C e (frz E (esc e))) else .bad := by simp only [exec]; rfl
theorem x_asgT {is : List Nat} : exec T W C (.asgT is e) L E = if lkB L (is ++ esc e) then asgTR (frz E (esc e)) is (ev T C e (frz E (esc e))) else .bad := by simp only [exec]; rfl
theorem x_par {e' : Ex} : exec T W C (.par i j e e') L E = if lkB L (i :: j :: (esc e ++ esc e')) then parR (frz E (esc e ++ esc e')) i j (ev T C e (frz E (esc e ++ esc e'))) (ev T C e' (frz E (esc e ++ esc e'))) else .bad := by simp only [exec]; rfl
theorem x_fld {f : Str} : exec T W C (.fld f e) L E = if lkB L (0 :: esc e) then fldR (frz E (esc e)) f (ownO (frz E (esc e)) 0) (ev T C e (frz E (esc e))) else .bad := by simp only [exec]; rfl
theorem x_ite {c : Ex} {a b : Sxs} : exec T W C (.ite c a b) L E = iteS T W C a b L E (ev T C c E) := by simp only [exec]; rfl
theorem x_for {tg : Tg} {it : It} : exec T W C (.for tg it b) L E = forO T W C tg it b L E (ownIt E it) := by simp only [exec]; rfl
theorem x_ret : exec T W C (.ret e) L E = retO (ownV E e) (ev T C e (E.map frzO)) := by simp only [exec, frz_all]; rfl
theorem x_rai {x : Str} : exec T W C (.rai x) L E = .exc x := by simp only [exec]
theorem x_expr : exec T W C (.expr e) L E = exprR E (ev T C e E) := by simp only [exec]; rfl
theorem x_pass : exec T W C .pass L E = .ok (.nx E) := by simp only [exec]
theorem x_whl : exec T W C (.whl c b) L E = whlR T W C c b L W E := by simp only [exec]; rfl
theorem x_clr : exec T W C (.clr i) L E = if lkB L [i] then clrR E i (ownL E i) else .bad := by simp only [exec]; rfl
theorem x_app : exec T W C (.app i e) L E = if lkB L (i :: esc e) then appR (frz E (esc e)) i (ownL (frz E (esc e)) i) (ev T C e (frz E (esc e))) else .bad := by simp only [exec]; rfl
theorem x_pop : exec T W C (.popA j i e) L E = if lkB L [j, i] then popR E j i (ownL E i) (ev T C e E) else .bad := by simp only [exec]; rfl
theorem x_set : exec T W C (.set i k e) L E = if lkB L (i :: esc e) then setR (frz E (esc e)) i (ownL (frz E (esc e)) i) (ownK (frz E (esc e)) i) (ev T C e (frz E (esc e))) (ev T C k (frz E (esc e))) else .bad := by simp only [exec]; rfl
theorem x_sup {b : Str} : exec T W C (.supi b es) L E = if lkB L [0] then match ownO E 0 with
    | some (c, fs, n) => (evl T C es E).bind fun xs => if (cmb xs).2.c && fs.isEmpty then (C (.ini b) (.obj c [] :: (cmb xs).1)).bind fun q => match q.1 with
        | .obj c2 fs2 => if c2 = c then .ok (.nx (putS E 0 c fs2 (n && (q.2 || (cmb xs).2.n)))) else .bad
        | _ => .bad
      else .bad
    | none => .bad
    else .bad := by simp only [exec] <;> rfl
theorem xs_nil : execs T W C .nil L E = .ok (.nx E) := by simp only [execs]
theorem xs_cons {s : Sx} {ss : Sxs} : execs T W C (.cons s ss) L E = seqR T W C ss L (exec T W C s L E) := by simp only [execs]; rfl
theorem s_nx : seqR T W C b L (.ok (.nx E)) = execs T W C b L E := (rfl)
theorem s_rt {d : D} {n : Bool} : seqR T W C b L (.ok (.rt d n)) = .ok (.rt d n) := (rfl)
theorem s_exc {x : Str} : seqR T W C b L (.exc x) = .exc x := (rfl)
theorem s_if {p : Prop} [Decidable p] {r r' : R Fw} : seqR T W C b L (if p then r else r') = if p then seqR T W C b L r else seqR T W C b L r' := by split <;> rfl
theorem t_nm {n : Bool} {x : D} : turnV T W C (.nm i) n b L x E = execs T W C b L (E.set i (some (.shr x n))) := (rfl)
theorem t_tp {n : Bool} {x y : D} : turnV T W C (.tp [i, j]) n b L (.tup [x, y]) E = execs T W C b L ((E.set i (some (.shr x n))).set j (some (.shr y n))) := (rfl)
section
variable {ds : List D} {n m r : Bool} {x y : D × Fl} {d : D} {f g : Fl} {ks : List (Int × D)} {cn : Str} {fs : List (Str × D)} {it : It} {tg : Tg}
theorem w_L : slL (some (some (.own (.lst ds) n))) = some (ds, n) := rfl
theorem w_Lk : slL (some (some (.own (.dic ks) n))) = none := rfl
theorem w_Ls : slL (some (some (.shr d n))) = none := rfl
theorem w_K : slK (some (some (.own (.dic ks) n))) = some (ks, n) := rfl
theorem w_Kl : slK (some (some (.own (.lst ds) n))) = none := rfl
theorem w_O : slO (some (some (.own (.obj cn fs) n))) = some (cn, fs, n) := rfl
theorem w_V : slV (some (some (.own (.lst ds) n))) = some (.lst ds, n) := rfl
theorem w_Vk : slV (some (some (.own (.dic ks) n))) = some (.dic ks, n) := rfl
theorem w_Vs : slV (some (some (.shr d n))) = none := rfl
theorem w_F : frzW E i (some (some (.own (.lst ds) n))) = E.set i (some (.shr (.lst ds) n)) := rfl
theorem w_Fk : frzW E i (some (some (.own (.dic ks) n))) = E.set i (some (.shr (.dic ks) n)) := rfl
theorem w_Fs : frzW E i (some (some (.shr d n))) = E := rfl
theorem w_Fo : frzW E i (some (some (.own (.obj cn fs) n))) = E := rfl
theorem w_Fn : frzW E i (some none) = E := rfl
theorem w_it : itO i (some (ds, n)) = some (i, ds, n) := rfl
theorem w_itn : itO i none = none := rfl
theorem a_asg : asgR E i (.ok x) = asgV E i x := (rfl)
theorem a_asgE {c : Str} : asgR E i (.exc c) = .exc c := (rfl)
theorem a_nx {E' : SEnv} : nxR (.ok E') = .ok (.nx E') := (rfl)
theorem a_asgT {is : List Nat} : asgTR E is (.ok (d, ⟨r, n, true⟩)) = nxR (tgV E (.tp is) d n) := (rfl)
theorem a_par {d' : D} {n' r' : Bool} : parR E i j (.ok (d, ⟨r, n, true⟩)) (.ok (d', ⟨r', n', true⟩)) = .ok (.nx ((E.set i (some (.shr d n))).set j (some (.shr d' n')))) := (rfl)
theorem a_fld {fn : Str} (h : fs.length < 900) : fldR E fn (some (cn, fs, m)) (.ok (d, ⟨r, n, true⟩)) = .ok (.nx (putS E 0 cn (putO fn d fs) (m && (n || d.imm)))) := if_pos ⟨rfl, h⟩
theorem a_retO : retO (some (d, n)) (.ok x) = .ok (.rt d n) := (rfl)
theorem a_retS {rx : R (D × Fl)} : retO (some (d, n)) rx = .ok (.rt d n) := (rfl)
theorem a_retN {rx : R (D × Fl)} : retO none rx = retR rx := (rfl)
theorem a_ret : retR (.ok (d, ⟨r, n, true⟩)) = .ok (.rt d (n && (r || !d.isL))) := (rfl)
theorem a_retE {c : Str} : retR (.exc c) = .exc c := (rfl)
theorem a_app : appR E i (some (ds, n)) (.ok x) = appV E i ds n x := (rfl)
theorem a_clr : clrR E i (some (ds, n)) = .ok (.nx (putL E i [] n)) := (rfl)
theorem a_set {o : Option (List (Int × D) × Bool)} : setR E i (some (ds, n)) o (.ok x) (.ok (d, f)) = setLV E i ds n d x := (rfl)
theorem a_setK : setR E i none (some (ks, n)) (.ok x) (.ok (d, f)) = setKV E i ks n d x := (rfl)
theorem a_expr : exprR E (.ok x) = .ok (.nx E) := (rfl)
theorem a_exprE {c : Str} : exprR E (.exc c) = .exc c := (rfl)
theorem a_iteT {a b : Sxs} : iteS T W C a b L E (.ok (.bl true, f)) = execs T W C a L E := (rfl)
theorem a_iteF {a b : Sxs} : iteS T W C a b L E (.ok (.bl false, f)) = execs T W C b L E := (rfl)
theorem a_ite {a b : Sxs} {k : Bool} : iteS T W C a b L E (.ok (.bl k, f)) = if k then execs T W C a L E else execs T W C b L E := (rfl)
theorem a_iteE {a b : Sxs} {c : Str} : iteS T W C a b L E (.exc c) = .exc c := (rfl)
theorem a_for : forR T W C tg b L E (.ok (ds, n, true)) = loopV T W C tg n b L ds E := (rfl)
theorem a_forO : forO T W C tg it b L E (some (i, ds, n)) = if lkB L (tgSlots tg) && !(tgSlots tg).contains i then loopV T W C tg n b (i :: L) ds E else .bad := (rfl)
theorem a_forN : forO T W C tg it b L E none = if lkB L (tgSlots tg ++ escI it) then forR T W C tg b L (frz E (escI it)) (evI T C it (frz E (escI it))) else .bad := (rfl)
theorem it_no (h : ∀ i, it ≠ .seq (.var i)) : ownIt E it = none := by
  unfold ownIt
  split
  · exact absurd rfl (h _)
  · rfl
end
theorem it_r1 : ownIt E (.rng1 e) = none := rfl
theorem it_r2 : ownIt E (.rng e k) = none := rfl
theorem it_e : ownIt E (.enum e) = none := rfl
theorem it_z : ownIt E (.zip e k) = none := rfl
theorem fo_shr {d : D} {n : Bool} : frzO (some (.shr d n)) = some (.shr d n) := rfl
theorem fo_lst {d : List D} {n : Bool} : frzO (some (.own (.lst d) n)) = some (.shr (.lst d) n) := rfl
theorem fo_dic {d : List (Int × D)} {n : Bool} : frzO (some (.own (.dic d) n)) = some (.shr (.dic d) n) := rfl
theorem fo_no : frzO none = none := rfl
theorem q_callT {d : D} {f : Fl} : callF (d, true) f = .ok (d, ⟨true, true, true⟩) := rfl
theorem en_rt {d : D} {n : Bool} : endV (.ok (.rt d n)) = .ok (d, n) := (rfl)
theorem en_nx : endV (.ok (.nx E)) = .ok (.non, true) := (rfl)
theorem en_exc {x : Str} : endV (.exc x) = .exc x := (rfl)
theorem en_if {p : Prop} [Decidable p] {r r' : R Fw} : endV (if p then r else r') = if p then endV r else endV r' := by split <;> rfl
end
/-- a comprehension's turn, as it is written -/
def cturn (T : Tb) (C : Call) (elt cond : Ex) (E : SEnv) (tg : Tg) (n : Bool) (x : D) : R (Option (D × Bool)) := compTurn (fun E => ev T C cond E) (fun E => ev T C elt E) E tg n x
/-! ### loops by an invariant -/
section
variable {α : Type} {T : Tb} {W : Nat} {C : Fid → List D → R (D × Bool)} {tg : Tg} {n : Bool} {b : Sxs} {L : List Nat} {ds : List D} {E : SEnv} {z : R Fw} {g : α → D} {xs : List α}
theorem loop_nx (hz : loopV T W C tg n b L ds E = z) (hd : ds = xs.map g) (I : List α → List α → SEnv → Prop) (h : I [] xs E) (hs : ∀ pre x r E, pre ++ x :: r = xs → I pre (x :: r) E → ∃ E', turnV T W C tg n b L (g x) E = .ok (.nx E') ∧ I (pre ++ [x]) r E') : ∃ E', z = .ok (.nx E') ∧ I xs [] E' := by
  subst hz
  subst hd
  obtain ⟨E', e, h1, _⟩ := for_nx (turn := turnV T W C tg n b L) (g := g) (I := fun pre r E => I pre r E ∧ pre ++ r = xs) ⟨h, rfl⟩ fun pre x r E ⟨h1, h2⟩ => by
    obtain ⟨E', e, h3⟩ := hs pre x r E h2 h1
    exact ⟨E', e, h3, by rw [← h2]; simp⟩
  exact ⟨E', e, h1⟩
theorem loop_rt (hz : loopV T W C tg n b L ds E = z) (hd : ds = xs.map g) (I : List α → List α → SEnv → Prop) (Rt : D → Bool → Prop) (h : I [] xs E) (hs : ∀ pre x r E, pre ++ x :: r = xs → I pre (x :: r) E → (∃ E', turnV T W C tg n b L (g x) E = .ok (.nx E') ∧ I (pre ++ [x]) r E') ∨ (∃ d m, turnV T W C tg n b L (g x) E = .ok (.rt d m) ∧ Rt d m)) : (∃ E', z = .ok (.nx E') ∧ I xs [] E') ∨ (∃ d m, z = .ok (.rt d m) ∧ Rt d m) := by
  subst hz
  subst hd
  rcases for_go (turn := turnV T W C tg n b L) (g := g) (I := fun pre r E => I pre r E ∧ pre ++ r = xs) (Rt := fun z => ∃ d m, z = .ok (.rt d m) ∧ Rt d m) (pre := []) ⟨h, rfl⟩ (fun pre x r E ⟨h1, h2⟩ => by
    rcases hs pre x r E h2 h1 with ⟨E', e, h3⟩ | ⟨d, m, e, h3⟩
    · exact .inl ⟨E', e, h3, by rw [← h2]; simp⟩
    · exact .inr ⟨d, m, e, d, m, rfl, h3⟩) with ⟨E', e, h1, _⟩ | ⟨d, m, e, d', m', e', h1⟩
  · exact .inl ⟨E', e, by simpa using h1⟩
  · cases e'
    exact .inr ⟨d, m, e, h1⟩
/-- a while by a measure -/
theorem whl_go {c : Ex} (I : Nat → SEnv → Prop) (Q : R Fw → Prop) : ∀ (m w : Nat) (E : SEnv), m < w → I m E → (∀ m E, I m E → (∃ f, ev T C c E = .ok (.bl false, f) ∧ Q (.ok (.nx E))) ∨ (∃ f, ev T C c E = .ok (.bl true, f) ∧ ((∃ E' m', execs T W C b L E = .ok (.nx E') ∧ m' < m ∧ I m' E') ∨ ∃ d k, execs T W C b L E = .ok (.rt d k) ∧ Q (.ok (.rt d k))))) → Q (whlR T W C c b L w E)
  | m, 0, E, h, _, _ => absurd h (by omega)
  | m, w + 1, E, hw, h, hs => by
    unfold whlR whlV
    rcases hs m E h with ⟨f, e, q⟩ | ⟨f, e, ⟨E', m', e2, hm, h2⟩ | ⟨d, k, e2, q⟩⟩
    · simp only [e, ok_bind, q_bool]
      exact q
    · simp only [e, ok_bind, q_bool, e2, if_true]
      exact whl_go I Q m' w E' (by omega) h2 hs
    · simp only [e, ok_bind, q_bool, e2, if_true]
      exact q
theorem compL_go {elt cond : Ex} {E : SEnv} {f : α → D} {p : α → Bool} (h : ∀ x ∈ xs, cturn T C elt cond E tg n (g x) = .ok (if p x then some (f x, true) else none)) : compL T C elt tg cond n E (xs.map g) = .ok ((xs.filter p).map f, true) := by
  unfold compL
  exact (comp_go (turn := compTurn (fun E => ev T C cond E) (fun E => ev T C elt E) E tg n) h).trans rfl
theorem compL_all {elt cond : Ex} {E : SEnv} {f : α → D} (h : ∀ x ∈ xs, cturn T C elt cond E tg n (g x) = .ok (some (f x, true))) : compL T C elt tg cond n E (xs.map g) = .ok (xs.map f, true) := by
  unfold compL
  exact (comp_all (turn := compTurn (fun E => ev T C cond E) (fun E => ev T C elt E) E tg n) h).trans rfl
end
/-- a comprehension's turn, without binders -/
def turn2 (y : R (D × Fl)) : R (Option (D × Bool)) := y.bind fun y => if y.2.c then .ok (some (y.1, y.2.n || y.1.imm)) else .bad
def turn1 (T : Tb) (C : Call) (e : Ex) (E : SEnv) (k : R (D × Fl)) : R (Option (D × Bool)) := k.bind fun k => match k.1 with
    | .bl true => turn2 (ev T C e E)
    | .bl false => .ok none
    | _ => .bad
section
variable {T : Tb} {C : Fid → List D → R (D × Bool)} {c e : Ex} {E : SEnv} {i j : Nat} {n r : Bool} {x y d : D} {f : Fl} {ry : R (D × Fl)}
theorem ct_nm : cturn T C e c E (.nm i) n x = turn1 T C e (E.set i (some (.shr x n))) (ev T C c (E.set i (some (.shr x n)))) := (rfl)
theorem ct_tp : cturn T C e c E (.tp [i, j]) n (.tup [x, y]) = turn1 T C e ((E.set i (some (.shr x n))).set j (some (.shr y n))) (ev T C c ((E.set i (some (.shr x n))).set j (some (.shr y n)))) := (rfl)
theorem ct_T : turn1 T C e E (.ok (.bl true, f)) = turn2 (ev T C e E) := (rfl)
theorem ct_F : turn1 T C e E (.ok (.bl false, f)) = .ok none := (rfl)
theorem ct_2 : turn2 (.ok (d, ⟨r, n, true⟩)) = .ok (some (d, n || d.imm)) := (rfl)
end
end FS

namespace FS.P
open PySem L2
def f_is_number : Fn := ⟨3, 3,
  (.cons (.ret (.and (.bi (.isi .int) (.cons (.var 0) .nil)) (.and (.un .Not (.bi (.isi .bool) (.cons (.var 0) .nil))) (.chn .LtE .LtE (.var 1) (.var 0) (.var 2)))))
  .nil)⟩
def f_are_numbers : Fn := ⟨3, 4,
  (.cons (.ret (.and (.bi (.isi .list) (.cons (.var 0) .nil)) (.bi .all (.cons (.comp (.call (.fn "is_number") (.cons (.var 3) (.cons (.var 1) (.cons (.var 2) .nil)))) (.nm 3) (.seq (.var 0)) (.con (.bl true)) [3]) .nil))))
  .nil)⟩
def f_asked_things : Fn := ⟨2, 2,
  (.cons (.ite (.or (.un .Not (.call (.fn "are_numbers") (.cons (.var 0) (.cons (.con (.int 0)) (.cons (.bin .Sub (.var 1) (.con (.int 1))) .nil))))) (.cmp .Lt (.bi .lenset (.cons (.var 0) .nil)) (.bi .len (.cons (.var 0) .nil))))
  (.cons (.rai "BadThing")
  .nil)
  .nil)
  (.cons (.ret (.bi .list (.cons (.var 0) .nil)))
  .nil))⟩
def i_Rule : Fn := ⟨2, 2,
  (.cons (.ite (.un .Not (.call (.fn "is_number") (.cons (.var 1) (.cons (.con (.int 0)) (.cons (.glb "MOST") .nil)))))
  (.cons (.rai "BadRule")
  .nil)
  .nil)
  (.cons (.fld "size" (.var 1))
  .nil))⟩
def m_Rule_many : Fn := ⟨1, 1,
  (.cons (.ret (.att (.var 0) "size"))
  .nil)⟩
def m_Rule_free : Fn := ⟨2, 2,
  (.cons (.ret (.mth (.var 0) "stands" (.cons (.call (.fn "asked_things") (.cons (.var 1) (.cons (.att (.var 0) "size") .nil))) .nil)))
  .nil)⟩
def f_law_cell_at : Fn := ⟨2, 2,
  (.cons (.ite (.cmp .Lt (.var 1) (.bi .len (.cons (.var 0) .nil)))
  (.cons (.ret (.idx (.var 0) (.var 1)))
  .nil)
  .nil)
  (.cons (.ret (.con (.int 0)))
  .nil))⟩
def f_law_draw : Fn := ⟨3, 4,
  (.cons (.asg 3 (.bin .Mod (.bin .Add (.bin .Add (.bin .Mult (.bin .Mod (.var 0) (.con (.int 1000000007))) (.con (.int 48271))) (.bin .Mult (.var 1) (.con (.int 69621)))) (.con (.int 7))) (.con (.int 1000000007))))
  (.cons (.ret (.bin .Mod (.bin .Mod (.bin .FloorDiv (.bin .Mult (.var 3) (.var 3)) (.con (.int 1013))) (.con (.int 1000003))) (.var 2)))
  .nil))⟩
def i_Bits : Fn := ⟨2, 2,
  (.cons (.ite (.un .Not (.call (.fn "are_numbers") (.cons (.var 1) (.cons (.con (.int 0)) (.cons (.bin .Sub (.bin .LShift (.con (.int 1)) (.glb "BITS")) (.con (.int 1))) .nil)))))
  (.cons (.rai "BadRule")
  .nil)
  .nil)
  (.cons (.supi "Rule" (.cons (.bi .len (.cons (.var 1) .nil)) .nil))
  (.cons (.fld "rows" (.bi .tuple (.cons (.var 1) .nil)))
  .nil)))⟩
def m_Bits_stands : Fn := ⟨2, 6,
  (.cons (.asg 2 (.lst .nil))
  (.cons (.for (.nm 3) (.seq (.var 1))
  (.cons (.asg 4 (.idx (.att (.var 0) "rows") (.var 3)))
  (.cons (.for (.nm 5) (.seq (.var 2))
  (.cons (.asg 4 (.bi .min (.cons (.var 4) (.cons (.bin .BitXor (.var 4) (.var 5)) .nil))))
  .nil))
  (.cons (.ite (.cmp .Eq (.var 4) (.con (.int 0)))
  (.cons (.ret (.con (.bl false)))
  .nil)
  .nil)
  (.cons (.app 2 (.var 4))
  .nil)))))
  (.cons (.ret (.con (.bl true)))
  .nil)))⟩
def f_law_bits : Fn := ⟨1, 5,
  (.cons (.asg 1 (.lst (.cons (.con (.int 0)) .nil)))
  (.cons (.for (.nm 2) (.seq (.var 0))
  (.cons (.asg 3 (.comp (.bin .BitXor (.var 4) (.var 2)) (.nm 4) (.seq (.var 1)) (.con (.bl true)) [4]))
  (.cons (.ite (.cmp .In (.con (.int 0)) (.var 3))
  (.cons (.ret (.con (.bl false)))
  .nil)
  .nil)
  (.cons (.asg 1 (.bin .Add (.var 1) (.var 3)))
  .nil))))
  (.cons (.ret (.con (.bl true)))
  .nil)))⟩
end FS.P

/-! RB: the defs that all laws share, run by hand: numbers, lists of things, rules, a script's numbers, draws. -/
namespace FS
open PySem L2
/-- the program's base -/
structure PB (T : Tb) : Prop where
  num : T.fn (.fn "is_number") = some P.f_is_number
  nums : T.fn (.fn "are_numbers") = some P.f_are_numbers
  ask : T.fn (.fn "asked_things") = some P.f_asked_things
  iR : T.fn (.ini "Rule") = some P.i_Rule
  many : T.fn (.me "Rule" "many") = some P.m_Rule_many
  free : T.fn (.me "Rule" "free") = some P.m_Rule_free
  most : T.con "MOST" = some (.int 16)
/-- the laws' base -/
structure LB (T : Tb) : Prop where
  cell : T.fn (.fn "_law_cell_at") = some P.f_law_cell_at
  draw : T.fn (.fn "_law_draw") = some P.f_law_draw
section
variable {T : Tb} {W n : Nat}
theorem r_is_number (p : PB T) (t l m : Int) : run T W (n + 1) (.fn "is_number") [.int t, .int l, .int m] = .ok (.bl (decide (l ≤ t) && decide (t ≤ m)), true) := by
  rw [run_fn p.num rfl]
  by_cases h : l ≤ t <;> simp only [P.f_is_number, startE, e_var, e_con, e_glb, e_bin, e_un, e_and, e_or, e_cmp, e_chn, e_ite, e_lst, e_tup, e_dic0, e_dic, e_comp, e_call, e_bi, e_mth, e_rcv, e_att, e_idx, e_rev, e_slc, e_sort, l_nil, l_cons, i_seq, i_rng, i_rng1, i_enum, i_zip, v_shr, v_own, v_dic, g_some, o_bin, o_un, o_andT, o_andF, o_orT, o_orF, o_bol, o_cmp, o_chn, o_chT, o_chF, o_iteT, o_iteF, o_lst, o_tup, o_dic, o_cons, o_comp, o_endC, o_call, o_cl, o_clE, o_bi, o_mth, o_mth2, o_rcv, o_att, o_idx, o_rev, o_slc, o_sort, o_it, o_rng, o_rng1, o_enum, o_zip, ct_nm, ct_tp, ct_T, ct_F, ct_2, List.map_cons, List.map_nil, List.replicate, List.append_nil, List.cons_append, List.nil_append, Nat.sub_self, List.length_cons, List.length_nil, List.getElem?_cons_zero, List.getElem?_cons_succ, List.set_cons_zero, List.set_cons_succ, cmb, wipeE, if_true, if_false, Bool.not_true, Bool.not_false, Bool.false_eq_true, Bool.true_and, Bool.and_true, Bool.false_or, Bool.or_false, Bool.or_true, Bool.true_or, Bool.and_self, and_self, Bool.false_and, Bool.and_false, Int.reduceLT, Int.reduceLE, Int.reduceNeg, Nat.reduceAdd, Nat.reduceMul, Nat.reduceSub, Nat.reduceBEq, q_add, q_sub, q_mulr, q_mull, q_mod, q_fdiv, q_not, q_neg, q_lt, q_le, q_gt, q_ge, q_eqi, q_nei, q_neb, q_isb, q_t0, q_t1, q_len, q_lent, q_lens, q_list, q_listt, q_tuple, q_is1, q_is2, q_is3, q_is4, q_is5, q_is6, q_it, q_itt, q_rev, q_callT, q_calli, q_callb, imm_i, imm_b, imm_l, imm_k, imm_s, imm_n, imm_c, rcvB, xs_nil, xs_cons, x_asg, x_asgT, x_par, x_fld, x_ite, x_for, x_ret, x_rai, x_expr, x_pass, x_clr, x_app, x_pop, x_set, s_nx, s_rt, s_exc, lk_nil, lk_end, lk_cons, List.contains_cons, List.contains_nil, sl_L, sl_K, sl_O, sl_V, sl_F, it_V, it_r1, it_r2, it_e, it_z, w_L, w_Lk, w_Ls, w_K, w_Kl, w_O, w_V, w_Vk, w_Vs, w_F, w_Fk, w_Fs, w_Fo, w_Fn, w_it, w_itn, a_asg, a_asgE, a_nx, a_asgT, a_par, a_retO, a_retS, a_retN, a_ret, a_retE, a_app, a_clr, a_set, a_setK, a_expr, a_exprE, a_iteT, a_iteF, a_iteE, a_for, a_forO, a_forN, t_nm, t_tp, fo_shr, fo_lst, fo_dic, fo_no, en_rt, en_nx, en_exc, frz, esc, esc.escs, esc.escb, escI, tgSlots, putL, putS, D.isL, ownV, q_asg, q_asgb, q_asgt, q_asgo, q_asgl, q_nm, q_tp, h, decide_true, decide_false]
theorem r_are_numbers (p : PB T) (l m : Int) (xs : List Int) : run T W (n + 2) (.fn "are_numbers") [.lst (xs.map .int), .int l, .int m] = .ok (.bl (xs.all fun t => decide (l ≤ t) && decide (t ≤ m)), true) := by
  rw [run_fn p.nums rfl]
  simp only [P.f_are_numbers, startE, e_var, e_con, e_glb, e_bin, e_un, e_and, e_or, e_cmp, e_chn, e_ite, e_lst, e_tup, e_dic0, e_dic, e_comp, e_call, e_bi, e_mth, e_rcv, e_att, e_idx, e_rev, e_slc, e_sort, l_nil, l_cons, i_seq, i_rng, i_rng1, i_enum, i_zip, v_shr, v_own, v_dic, g_some, o_bin, o_un, o_andT, o_andF, o_orT, o_orF, o_bol, o_cmp, o_chn, o_chT, o_chF, o_iteT, o_iteF, o_lst, o_tup, o_dic, o_cons, o_comp, o_endC, o_call, o_cl, o_clE, o_bi, o_mth, o_mth2, o_rcv, o_att, o_idx, o_rev, o_slc, o_sort, o_it, o_rng, o_rng1, o_enum, o_zip, ct_nm, ct_tp, ct_T, ct_F, ct_2, List.map_cons, List.map_nil, List.replicate, List.append_nil, List.cons_append, List.nil_append, Nat.sub_self, List.length_cons, List.length_nil, List.getElem?_cons_zero, List.getElem?_cons_succ, List.set_cons_zero, List.set_cons_succ, cmb, wipeE, if_true, if_false, Bool.not_true, Bool.not_false, Bool.false_eq_true, Bool.true_and, Bool.and_true, Bool.false_or, Bool.or_false, Bool.or_true, Bool.true_or, Bool.and_self, and_self, Bool.false_and, Bool.and_false, Int.reduceLT, Int.reduceLE, Int.reduceNeg, Nat.reduceAdd, Nat.reduceMul, Nat.reduceSub, Nat.reduceBEq, q_add, q_sub, q_mulr, q_mull, q_mod, q_fdiv, q_not, q_neg, q_lt, q_le, q_gt, q_ge, q_eqi, q_nei, q_neb, q_isb, q_t0, q_t1, q_len, q_lent, q_lens, q_list, q_listt, q_tuple, q_is1, q_is2, q_is3, q_is4, q_is5, q_is6, q_it, q_itt, q_rev, q_callT, q_calli, q_callb, imm_i, imm_b, imm_l, imm_k, imm_s, imm_n, imm_c, rcvB, xs_nil, xs_cons, x_asg, x_asgT, x_par, x_fld, x_ite, x_for, x_ret, x_rai, x_expr, x_pass, x_clr, x_app, x_pop, x_set, s_nx, s_rt, s_exc, lk_nil, lk_end, lk_cons, List.contains_cons, List.contains_nil, sl_L, sl_K, sl_O, sl_V, sl_F, it_V, it_r1, it_r2, it_e, it_z, w_L, w_Lk, w_Ls, w_K, w_Kl, w_O, w_V, w_Vk, w_Vs, w_F, w_Fk, w_Fs, w_Fo, w_Fn, w_it, w_itn, a_asg, a_asgE, a_nx, a_asgT, a_par, a_retO, a_retS, a_retN, a_ret, a_retE, a_app, a_clr, a_set, a_setK, a_expr, a_exprE, a_iteT, a_iteF, a_iteE, a_for, a_forO, a_forN, t_nm, t_tp, fo_shr, fo_lst, fo_dic, fo_no, en_rt, en_nx, en_exc, frz, esc, esc.escs, esc.escb, escI, tgSlots, putL, putS, D.isL, ownV, q_asg, q_asgb, q_asgt, q_asgo, q_asgl, q_nm, q_tp]
  rw [compL_all (f := fun t => .bl (decide (l ≤ t) && decide (t ≤ m)))]
  · have e : xs.map (fun t => D.bl (decide (l ≤ t) && decide (t ≤ m))) = (xs.map fun t => decide (l ≤ t) && decide (t ≤ m)).map D.bl := by rw [List.map_map]; rfl
    simp only [e_var, e_con, e_glb, e_bin, e_un, e_and, e_or, e_cmp, e_chn, e_ite, e_lst, e_tup, e_dic0, e_dic, e_comp, e_call, e_bi, e_mth, e_rcv, e_att, e_idx, e_rev, e_slc, e_sort, l_nil, l_cons, i_seq, i_rng, i_rng1, i_enum, i_zip, v_shr, v_own, v_dic, g_some, o_bin, o_un, o_andT, o_andF, o_orT, o_orF, o_bol, o_cmp, o_chn, o_chT, o_chF, o_iteT, o_iteF, o_lst, o_tup, o_dic, o_cons, o_comp, o_endC, o_call, o_cl, o_clE, o_bi, o_mth, o_mth2, o_rcv, o_att, o_idx, o_rev, o_slc, o_sort, o_it, o_rng, o_rng1, o_enum, o_zip, ct_nm, ct_tp, ct_T, ct_F, ct_2, List.map_cons, List.map_nil, List.replicate, List.append_nil, List.cons_append, List.nil_append, Nat.sub_self, List.length_cons, List.length_nil, List.getElem?_cons_zero, List.getElem?_cons_succ, List.set_cons_zero, List.set_cons_succ, cmb, wipeE, if_true, if_false, Bool.not_true, Bool.not_false, Bool.false_eq_true, Bool.true_and, Bool.and_true, Bool.false_or, Bool.or_false, Bool.or_true, Bool.true_or, Bool.and_self, and_self, Bool.false_and, Bool.and_false, Int.reduceLT, Int.reduceLE, Int.reduceNeg, Nat.reduceAdd, Nat.reduceMul, Nat.reduceSub, Nat.reduceBEq, q_add, q_sub, q_mulr, q_mull, q_mod, q_fdiv, q_not, q_neg, q_lt, q_le, q_gt, q_ge, q_eqi, q_nei, q_neb, q_isb, q_t0, q_t1, q_len, q_lent, q_lens, q_list, q_listt, q_tuple, q_is1, q_is2, q_is3, q_is4, q_is5, q_is6, q_it, q_itt, q_rev, q_callT, q_calli, q_callb, imm_i, imm_b, imm_l, imm_k, imm_s, imm_n, imm_c, rcvB, xs_nil, xs_cons, x_asg, x_asgT, x_par, x_fld, x_ite, x_for, x_ret, x_rai, x_expr, x_pass, x_clr, x_app, x_pop, x_set, s_nx, s_rt, s_exc, lk_nil, lk_end, lk_cons, List.contains_cons, List.contains_nil, sl_L, sl_K, sl_O, sl_V, sl_F, it_V, it_r1, it_r2, it_e, it_z, w_L, w_Lk, w_Ls, w_K, w_Kl, w_O, w_V, w_Vk, w_Vs, w_F, w_Fk, w_Fs, w_Fo, w_Fn, w_it, w_itn, a_asg, a_asgE, a_nx, a_asgT, a_par, a_retO, a_retS, a_retN, a_ret, a_retE, a_app, a_clr, a_set, a_setK, a_expr, a_exprE, a_iteT, a_iteF, a_iteE, a_for, a_forO, a_forN, t_nm, t_tp, fo_shr, fo_lst, fo_dic, fo_no, en_rt, en_nx, en_exc, frz, esc, esc.escs, esc.escb, escI, tgSlots, putL, putS, D.isL, ownV, q_asg, q_asgb, q_asgt, q_asgo, q_asgl, q_nm, q_tp, e, q_all, List.all_map]
    rfl
  · intro x hx
    simp only [e_var, e_con, e_glb, e_bin, e_un, e_and, e_or, e_cmp, e_chn, e_ite, e_lst, e_tup, e_dic0, e_dic, e_comp, e_call, e_bi, e_mth, e_rcv, e_att, e_idx, e_rev, e_slc, e_sort, l_nil, l_cons, i_seq, i_rng, i_rng1, i_enum, i_zip, v_shr, v_own, v_dic, g_some, o_bin, o_un, o_andT, o_andF, o_orT, o_orF, o_bol, o_cmp, o_chn, o_chT, o_chF, o_iteT, o_iteF, o_lst, o_tup, o_dic, o_cons, o_comp, o_endC, o_call, o_cl, o_clE, o_bi, o_mth, o_mth2, o_rcv, o_att, o_idx, o_rev, o_slc, o_sort, o_it, o_rng, o_rng1, o_enum, o_zip, ct_nm, ct_tp, ct_T, ct_F, ct_2, List.map_cons, List.map_nil, List.replicate, List.append_nil, List.cons_append, List.nil_append, Nat.sub_self, List.length_cons, List.length_nil, List.getElem?_cons_zero, List.getElem?_cons_succ, List.set_cons_zero, List.set_cons_succ, cmb, wipeE, if_true, if_false, Bool.not_true, Bool.not_false, Bool.false_eq_true, Bool.true_and, Bool.and_true, Bool.false_or, Bool.or_false, Bool.or_true, Bool.true_or, Bool.and_self, and_self, Bool.false_and, Bool.and_false, Int.reduceLT, Int.reduceLE, Int.reduceNeg, Nat.reduceAdd, Nat.reduceMul, Nat.reduceSub, Nat.reduceBEq, q_add, q_sub, q_mulr, q_mull, q_mod, q_fdiv, q_not, q_neg, q_lt, q_le, q_gt, q_ge, q_eqi, q_nei, q_neb, q_isb, q_t0, q_t1, q_len, q_lent, q_lens, q_list, q_listt, q_tuple, q_is1, q_is2, q_is3, q_is4, q_is5, q_is6, q_it, q_itt, q_rev, q_callT, q_calli, q_callb, imm_i, imm_b, imm_l, imm_k, imm_s, imm_n, imm_c, rcvB, xs_nil, xs_cons, x_asg, x_asgT, x_par, x_fld, x_ite, x_for, x_ret, x_rai, x_expr, x_pass, x_clr, x_app, x_pop, x_set, s_nx, s_rt, s_exc, lk_nil, lk_end, lk_cons, List.contains_cons, List.contains_nil, sl_L, sl_K, sl_O, sl_V, sl_F, it_V, it_r1, it_r2, it_e, it_z, w_L, w_Lk, w_Ls, w_K, w_Kl, w_O, w_V, w_Vk, w_Vs, w_F, w_Fk, w_Fs, w_Fo, w_Fn, w_it, w_itn, a_asg, a_asgE, a_nx, a_asgT, a_par, a_retO, a_retS, a_retN, a_ret, a_retE, a_app, a_clr, a_set, a_setK, a_expr, a_exprE, a_iteT, a_iteF, a_iteE, a_for, a_forO, a_forN, t_nm, t_tp, fo_shr, fo_lst, fo_dic, fo_no, en_rt, en_nx, en_exc, frz, esc, esc.escs, esc.escb, escI, tgSlots, putL, putS, D.isL, ownV, q_asg, q_asgb, q_asgt, q_asgo, q_asgl, q_nm, q_tp, r_is_number p]
/-! ### a script's numbers, draws -/
def cell (ns : List Int) (k : Nat) : Int := ns.getD k 0
def mix (c k : Int) : Int := (c % 1000000007 * 48271 + k * 69621 + 7) % 1000000007
def draw (c k m : Int) : Int := mix c k * mix c k / 1013 % 1000003 % m
theorem mix_lt (c k : Int) : -18446744073709551616 < mix c k ∧ mix c k < 18446744073709551616 := by unfold mix; omega
theorem draw_lt (c k m : Int) (hm : 0 < m) : 0 ≤ draw c k m ∧ draw c k m < m := ⟨Int.emod_nonneg _ (by omega), Int.emod_lt_of_pos _ hm⟩
/-- a draw as a natural number -/
def drawN (c k : Int) (m : Nat) : Nat := (draw c k m).toNat
theorem drawN_eq (c k : Int) {m : Nat} (hm : 0 < m) : draw c k m = drawN c k m := (Int.toNat_of_nonneg (draw_lt c k m (by omega)).1).symm
theorem drawN_lt (c k : Int) {m : Nat} (hm : 0 < m) : drawN c k m < m := by
  have := draw_lt c k m (by omega)
  unfold drawN
  omega
theorem r_cell (l : LB T) (ns : List Int) (k : Nat) : run T W (n + 1) (.fn "_law_cell_at") [.scr ns, .int k] = .ok (.int (cell ns k), true) := by
  rw [run_fn l.cell rfl]
  unfold cell
  by_cases h : k < ns.length
  · simp only [P.f_law_cell_at, startE, e_var, e_con, e_glb, e_bin, e_un, e_and, e_or, e_cmp, e_chn, e_ite, e_lst, e_tup, e_dic0, e_dic, e_comp, e_call, e_bi, e_mth, e_rcv, e_att, e_idx, e_rev, e_slc, e_sort, l_nil, l_cons, i_seq, i_rng, i_rng1, i_enum, i_zip, v_shr, v_own, v_dic, g_some, o_bin, o_un, o_andT, o_andF, o_orT, o_orF, o_bol, o_cmp, o_chn, o_chT, o_chF, o_iteT, o_iteF, o_lst, o_tup, o_dic, o_cons, o_comp, o_endC, o_call, o_cl, o_clE, o_bi, o_mth, o_mth2, o_rcv, o_att, o_idx, o_rev, o_slc, o_sort, o_it, o_rng, o_rng1, o_enum, o_zip, ct_nm, ct_tp, ct_T, ct_F, ct_2, List.map_cons, List.map_nil, List.replicate, List.append_nil, List.cons_append, List.nil_append, Nat.sub_self, List.length_cons, List.length_nil, List.getElem?_cons_zero, List.getElem?_cons_succ, List.set_cons_zero, List.set_cons_succ, cmb, wipeE, if_true, if_false, Bool.not_true, Bool.not_false, Bool.false_eq_true, Bool.true_and, Bool.and_true, Bool.false_or, Bool.or_false, Bool.or_true, Bool.true_or, Bool.and_self, and_self, Bool.false_and, Bool.and_false, Int.reduceLT, Int.reduceLE, Int.reduceNeg, Nat.reduceAdd, Nat.reduceMul, Nat.reduceSub, Nat.reduceBEq, q_add, q_sub, q_mulr, q_mull, q_mod, q_fdiv, q_not, q_neg, q_lt, q_le, q_gt, q_ge, q_eqi, q_nei, q_neb, q_isb, q_t0, q_t1, q_len, q_lent, q_lens, q_list, q_listt, q_tuple, q_is1, q_is2, q_is3, q_is4, q_is5, q_is6, q_it, q_itt, q_rev, q_callT, q_calli, q_callb, imm_i, imm_b, imm_l, imm_k, imm_s, imm_n, imm_c, rcvB, xs_nil, xs_cons, x_asg, x_asgT, x_par, x_fld, x_ite, x_for, x_ret, x_rai, x_expr, x_pass, x_clr, x_app, x_pop, x_set, s_nx, s_rt, s_exc, lk_nil, lk_end, lk_cons, List.contains_cons, List.contains_nil, sl_L, sl_K, sl_O, sl_V, sl_F, it_V, it_r1, it_r2, it_e, it_z, w_L, w_Lk, w_Ls, w_K, w_Kl, w_O, w_V, w_Vk, w_Vs, w_F, w_Fk, w_Fs, w_Fo, w_Fn, w_it, w_itn, a_asg, a_asgE, a_nx, a_asgT, a_par, a_retO, a_retS, a_retN, a_ret, a_retE, a_app, a_clr, a_set, a_setK, a_expr, a_exprE, a_iteT, a_iteF, a_iteE, a_for, a_forO, a_forN, t_nm, t_tp, fo_shr, fo_lst, fo_dic, fo_no, en_rt, en_nx, en_exc, frz, esc, esc.escs, esc.escb, escI, tgSlots, putL, putS, D.isL, ownV, q_asg, q_asgb, q_asgt, q_asgo, q_asgl, q_nm, q_tp, show decide ((k : Int) < ns.length) = true by simpa using h, q_ixs h, List.getD_eq_getElem?_getD, List.getElem?_eq_getElem h, Option.getD_some]
  · simp only [P.f_law_cell_at, startE, e_var, e_con, e_glb, e_bin, e_un, e_and, e_or, e_cmp, e_chn, e_ite, e_lst, e_tup, e_dic0, e_dic, e_comp, e_call, e_bi, e_mth, e_rcv, e_att, e_idx, e_rev, e_slc, e_sort, l_nil, l_cons, i_seq, i_rng, i_rng1, i_enum, i_zip, v_shr, v_own, v_dic, g_some, o_bin, o_un, o_andT, o_andF, o_orT, o_orF, o_bol, o_cmp, o_chn, o_chT, o_chF, o_iteT, o_iteF, o_lst, o_tup, o_dic, o_cons, o_comp, o_endC, o_call, o_cl, o_clE, o_bi, o_mth, o_mth2, o_rcv, o_att, o_idx, o_rev, o_slc, o_sort, o_it, o_rng, o_rng1, o_enum, o_zip, ct_nm, ct_tp, ct_T, ct_F, ct_2, List.map_cons, List.map_nil, List.replicate, List.append_nil, List.cons_append, List.nil_append, Nat.sub_self, List.length_cons, List.length_nil, List.getElem?_cons_zero, List.getElem?_cons_succ, List.set_cons_zero, List.set_cons_succ, cmb, wipeE, if_true, if_false, Bool.not_true, Bool.not_false, Bool.false_eq_true, Bool.true_and, Bool.and_true, Bool.false_or, Bool.or_false, Bool.or_true, Bool.true_or, Bool.and_self, and_self, Bool.false_and, Bool.and_false, Int.reduceLT, Int.reduceLE, Int.reduceNeg, Nat.reduceAdd, Nat.reduceMul, Nat.reduceSub, Nat.reduceBEq, q_add, q_sub, q_mulr, q_mull, q_mod, q_fdiv, q_not, q_neg, q_lt, q_le, q_gt, q_ge, q_eqi, q_nei, q_neb, q_isb, q_t0, q_t1, q_len, q_lent, q_lens, q_list, q_listt, q_tuple, q_is1, q_is2, q_is3, q_is4, q_is5, q_is6, q_it, q_itt, q_rev, q_callT, q_calli, q_callb, imm_i, imm_b, imm_l, imm_k, imm_s, imm_n, imm_c, rcvB, xs_nil, xs_cons, x_asg, x_asgT, x_par, x_fld, x_ite, x_for, x_ret, x_rai, x_expr, x_pass, x_clr, x_app, x_pop, x_set, s_nx, s_rt, s_exc, lk_nil, lk_end, lk_cons, List.contains_cons, List.contains_nil, sl_L, sl_K, sl_O, sl_V, sl_F, it_V, it_r1, it_r2, it_e, it_z, w_L, w_Lk, w_Ls, w_K, w_Kl, w_O, w_V, w_Vk, w_Vs, w_F, w_Fk, w_Fs, w_Fo, w_Fn, w_it, w_itn, a_asg, a_asgE, a_nx, a_asgT, a_par, a_retO, a_retS, a_retN, a_ret, a_retE, a_app, a_clr, a_set, a_setK, a_expr, a_exprE, a_iteT, a_iteF, a_iteE, a_for, a_forO, a_forN, t_nm, t_tp, fo_shr, fo_lst, fo_dic, fo_no, en_rt, en_nx, en_exc, frz, esc, esc.escs, esc.escb, escI, tgSlots, putL, putS, D.isL, ownV, q_asg, q_asgb, q_asgt, q_asgo, q_asgl, q_nm, q_tp, show decide ((k : Int) < ns.length) = false by simpa using h, List.getD_eq_getElem?_getD, List.getElem?_eq_none (Nat.le_of_not_lt h), Option.getD_none]
theorem r_draw (l : LB T) (c k m : Int) (hm : 0 < m) : run T W (n + 1) (.fn "_law_draw") [.int c, .int k, .int m] = .ok (.int (draw c k m), true) := by
  rw [run_fn l.draw rfl]
  have e := mix_lt c k
  simp only [P.f_law_draw, startE, e_var, e_con, e_glb, e_bin, e_un, e_and, e_or, e_cmp, e_chn, e_ite, e_lst, e_tup, e_dic0, e_dic, e_comp, e_call, e_bi, e_mth, e_rcv, e_att, e_idx, e_rev, e_slc, e_sort, l_nil, l_cons, i_seq, i_rng, i_rng1, i_enum, i_zip, v_shr, v_own, v_dic, g_some, o_bin, o_un, o_andT, o_andF, o_orT, o_orF, o_bol, o_cmp, o_chn, o_chT, o_chF, o_iteT, o_iteF, o_lst, o_tup, o_dic, o_cons, o_comp, o_endC, o_call, o_cl, o_clE, o_bi, o_mth, o_mth2, o_rcv, o_att, o_idx, o_rev, o_slc, o_sort, o_it, o_rng, o_rng1, o_enum, o_zip, ct_nm, ct_tp, ct_T, ct_F, ct_2, List.map_cons, List.map_nil, List.replicate, List.append_nil, List.cons_append, List.nil_append, Nat.sub_self, List.length_cons, List.length_nil, List.getElem?_cons_zero, List.getElem?_cons_succ, List.set_cons_zero, List.set_cons_succ, cmb, wipeE, if_true, if_false, Bool.not_true, Bool.not_false, Bool.false_eq_true, Bool.true_and, Bool.and_true, Bool.false_or, Bool.or_false, Bool.or_true, Bool.true_or, Bool.and_self, and_self, Bool.false_and, Bool.and_false, Int.reduceLT, Int.reduceLE, Int.reduceNeg, Nat.reduceAdd, Nat.reduceMul, Nat.reduceSub, Nat.reduceBEq, q_add, q_sub, q_mulr, q_mull, q_mod, q_fdiv, q_not, q_neg, q_lt, q_le, q_gt, q_ge, q_eqi, q_nei, q_neb, q_isb, q_t0, q_t1, q_len, q_lent, q_lens, q_list, q_listt, q_tuple, q_is1, q_is2, q_is3, q_is4, q_is5, q_is6, q_it, q_itt, q_rev, q_callT, q_calli, q_callb, imm_i, imm_b, imm_l, imm_k, imm_s, imm_n, imm_c, rcvB, xs_nil, xs_cons, x_asg, x_asgT, x_par, x_fld, x_ite, x_for, x_ret, x_rai, x_expr, x_pass, x_clr, x_app, x_pop, x_set, s_nx, s_rt, s_exc, lk_nil, lk_end, lk_cons, List.contains_cons, List.contains_nil, sl_L, sl_K, sl_O, sl_V, sl_F, it_V, it_r1, it_r2, it_e, it_z, w_L, w_Lk, w_Ls, w_K, w_Kl, w_O, w_V, w_Vk, w_Vs, w_F, w_Fk, w_Fs, w_Fo, w_Fn, w_it, w_itn, a_asg, a_asgE, a_nx, a_asgT, a_par, a_retO, a_retS, a_retN, a_ret, a_retE, a_app, a_clr, a_set, a_setK, a_expr, a_exprE, a_iteT, a_iteF, a_iteE, a_for, a_forO, a_forN, t_nm, t_tp, fo_shr, fo_lst, fo_dic, fo_no, en_rt, en_nx, en_exc, frz, esc, esc.escs, esc.escb, escI, tgSlots, putL, putS, D.isL, ownV, q_asg, q_asgb, q_asgt, q_asgo, q_asgl, q_nm, q_tp]
  rw [show (c % 1000000007 * 48271 + k * 69621 + 7) % 1000000007 = mix c k from rfl]
  simp only [q_mull e.1 e.2, q_mod hm, e_var, e_con, e_glb, e_bin, e_un, e_and, e_or, e_cmp, e_chn, e_ite, e_lst, e_tup, e_dic0, e_dic, e_comp, e_call, e_bi, e_mth, e_rcv, e_att, e_idx, e_rev, e_slc, e_sort, l_nil, l_cons, i_seq, i_rng, i_rng1, i_enum, i_zip, v_shr, v_own, v_dic, g_some, o_bin, o_un, o_andT, o_andF, o_orT, o_orF, o_bol, o_cmp, o_chn, o_chT, o_chF, o_iteT, o_iteF, o_lst, o_tup, o_dic, o_cons, o_comp, o_endC, o_call, o_cl, o_clE, o_bi, o_mth, o_mth2, o_rcv, o_att, o_idx, o_rev, o_slc, o_sort, o_it, o_rng, o_rng1, o_enum, o_zip, ct_nm, ct_tp, ct_T, ct_F, ct_2, List.map_cons, List.map_nil, List.replicate, List.append_nil, List.cons_append, List.nil_append, Nat.sub_self, List.length_cons, List.length_nil, List.getElem?_cons_zero, List.getElem?_cons_succ, List.set_cons_zero, List.set_cons_succ, cmb, wipeE, if_true, if_false, Bool.not_true, Bool.not_false, Bool.false_eq_true, Bool.true_and, Bool.and_true, Bool.false_or, Bool.or_false, Bool.or_true, Bool.true_or, Bool.and_self, and_self, Bool.false_and, Bool.and_false, Int.reduceLT, Int.reduceLE, Int.reduceNeg, Nat.reduceAdd, Nat.reduceMul, Nat.reduceSub, Nat.reduceBEq, q_add, q_sub, q_mulr, q_mull, q_mod, q_fdiv, q_not, q_neg, q_lt, q_le, q_gt, q_ge, q_eqi, q_nei, q_neb, q_isb, q_t0, q_t1, q_len, q_lent, q_lens, q_list, q_listt, q_tuple, q_is1, q_is2, q_is3, q_is4, q_is5, q_is6, q_it, q_itt, q_rev, q_callT, q_calli, q_callb, imm_i, imm_b, imm_l, imm_k, imm_s, imm_n, imm_c, rcvB, xs_nil, xs_cons, x_asg, x_asgT, x_par, x_fld, x_ite, x_for, x_ret, x_rai, x_expr, x_pass, x_clr, x_app, x_pop, x_set, s_nx, s_rt, s_exc, lk_nil, lk_end, lk_cons, List.contains_cons, List.contains_nil, sl_L, sl_K, sl_O, sl_V, sl_F, it_V, it_r1, it_r2, it_e, it_z, w_L, w_Lk, w_Ls, w_K, w_Kl, w_O, w_V, w_Vk, w_Vs, w_F, w_Fk, w_Fs, w_Fo, w_Fn, w_it, w_itn, a_asg, a_asgE, a_nx, a_asgT, a_par, a_retO, a_retS, a_retN, a_ret, a_retE, a_app, a_clr, a_set, a_setK, a_expr, a_exprE, a_iteT, a_iteF, a_iteE, a_for, a_forO, a_forN, t_nm, t_tp, fo_shr, fo_lst, fo_dic, fo_no, en_rt, en_nx, en_exc, frz, esc, esc.escs, esc.escb, escI, tgSlots, putL, putS, D.isL, ownV, q_asg, q_asgb, q_asgt, q_asgo, q_asgl, q_nm, q_tp]
  rfl
theorem r_drawN (l : LB T) (c k : Int) {m : Nat} (hm : 0 < m) : run T W (n + 1) (.fn "_law_draw") [.int c, .int k, .int m] = .ok (.int (drawN c k m : Nat), true) := by rw [r_draw l c k m (by omega), drawN_eq c k hm]
/-! ### rules -/
theorem r_iR (p : PB T) (c : Str) (z : Int) (h0 : 0 ≤ z) (h1 : z ≤ 16) : run T W (n + 2) (.ini "Rule") [.obj c [], .int z] = .ok (.obj c [("size", .int z)], true) := by
  rw [run_ini p.iR rfl]
  simp only [P.i_Rule, e_var, e_con, e_glb, e_bin, e_un, e_and, e_or, e_cmp, e_chn, e_ite, e_lst, e_tup, e_dic0, e_dic, e_comp, e_call, e_bi, e_mth, e_rcv, e_att, e_idx, e_rev, e_slc, e_sort, l_nil, l_cons, i_seq, i_rng, i_rng1, i_enum, i_zip, v_shr, v_own, v_dic, g_some, o_bin, o_un, o_andT, o_andF, o_orT, o_orF, o_bol, o_cmp, o_chn, o_chT, o_chF, o_iteT, o_iteF, o_lst, o_tup, o_dic, o_cons, o_comp, o_endC, o_call, o_cl, o_clE, o_bi, o_mth, o_mth2, o_rcv, o_att, o_idx, o_rev, o_slc, o_sort, o_it, o_rng, o_rng1, o_enum, o_zip, ct_nm, ct_tp, ct_T, ct_F, ct_2, List.map_cons, List.map_nil, List.replicate, List.append_nil, List.cons_append, List.nil_append, Nat.sub_self, List.length_cons, List.length_nil, List.getElem?_cons_zero, List.getElem?_cons_succ, List.set_cons_zero, List.set_cons_succ, cmb, wipeE, if_true, if_false, Bool.not_true, Bool.not_false, Bool.false_eq_true, Bool.true_and, Bool.and_true, Bool.false_or, Bool.or_false, Bool.or_true, Bool.true_or, Bool.and_self, and_self, Bool.false_and, Bool.and_false, Int.reduceLT, Int.reduceLE, Int.reduceNeg, Nat.reduceAdd, Nat.reduceMul, Nat.reduceSub, Nat.reduceBEq, q_add, q_sub, q_mulr, q_mull, q_mod, q_fdiv, q_not, q_neg, q_lt, q_le, q_gt, q_ge, q_eqi, q_nei, q_neb, q_isb, q_t0, q_t1, q_len, q_lent, q_lens, q_list, q_listt, q_tuple, q_is1, q_is2, q_is3, q_is4, q_is5, q_is6, q_it, q_itt, q_rev, q_callT, q_calli, q_callb, imm_i, imm_b, imm_l, imm_k, imm_s, imm_n, imm_c, rcvB, xs_nil, xs_cons, x_asg, x_asgT, x_par, x_fld, x_ite, x_for, x_ret, x_rai, x_expr, x_pass, x_clr, x_app, x_pop, x_set, s_nx, s_rt, s_exc, lk_nil, lk_end, lk_cons, List.contains_cons, List.contains_nil, sl_L, sl_K, sl_O, sl_V, sl_F, it_V, it_r1, it_r2, it_e, it_z, w_L, w_Lk, w_Ls, w_K, w_Kl, w_O, w_V, w_Vk, w_Vs, w_F, w_Fk, w_Fs, w_Fo, w_Fn, w_it, w_itn, a_asg, a_asgE, a_nx, a_asgT, a_par, a_retO, a_retS, a_retN, a_ret, a_retE, a_app, a_clr, a_set, a_setK, a_expr, a_exprE, a_iteT, a_iteF, a_iteE, a_for, a_forO, a_forN, t_nm, t_tp, fo_shr, fo_lst, fo_dic, fo_no, en_rt, en_nx, en_exc, frz, esc, esc.escs, esc.escb, escI, tgSlots, putL, putS, D.isL, ownV, q_asg, q_asgb, q_asgt, q_asgo, q_asgl, q_nm, q_tp, r_is_number p, p.most, h0, h1, decide_true, x_fld, w_O]
  rw [a_fld (by decide)]
  simp only [e_var, e_con, e_glb, e_bin, e_un, e_and, e_or, e_cmp, e_chn, e_ite, e_lst, e_tup, e_dic0, e_dic, e_comp, e_call, e_bi, e_mth, e_rcv, e_att, e_idx, e_rev, e_slc, e_sort, l_nil, l_cons, i_seq, i_rng, i_rng1, i_enum, i_zip, v_shr, v_own, v_dic, g_some, o_bin, o_un, o_andT, o_andF, o_orT, o_orF, o_bol, o_cmp, o_chn, o_chT, o_chF, o_iteT, o_iteF, o_lst, o_tup, o_dic, o_cons, o_comp, o_endC, o_call, o_cl, o_clE, o_bi, o_mth, o_mth2, o_rcv, o_att, o_idx, o_rev, o_slc, o_sort, o_it, o_rng, o_rng1, o_enum, o_zip, ct_nm, ct_tp, ct_T, ct_F, ct_2, List.map_cons, List.map_nil, List.replicate, List.append_nil, List.cons_append, List.nil_append, Nat.sub_self, List.length_cons, List.length_nil, List.getElem?_cons_zero, List.getElem?_cons_succ, List.set_cons_zero, List.set_cons_succ, cmb, wipeE, if_true, if_false, Bool.not_true, Bool.not_false, Bool.false_eq_true, Bool.true_and, Bool.and_true, Bool.false_or, Bool.or_false, Bool.or_true, Bool.true_or, Bool.and_self, and_self, Bool.false_and, Bool.and_false, Int.reduceLT, Int.reduceLE, Int.reduceNeg, Nat.reduceAdd, Nat.reduceMul, Nat.reduceSub, Nat.reduceBEq, q_add, q_sub, q_mulr, q_mull, q_mod, q_fdiv, q_not, q_neg, q_lt, q_le, q_gt, q_ge, q_eqi, q_nei, q_neb, q_isb, q_t0, q_t1, q_len, q_lent, q_lens, q_list, q_listt, q_tuple, q_is1, q_is2, q_is3, q_is4, q_is5, q_is6, q_it, q_itt, q_rev, q_callT, q_calli, q_callb, imm_i, imm_b, imm_l, imm_k, imm_s, imm_n, imm_c, rcvB, xs_nil, xs_cons, x_asg, x_asgT, x_par, x_fld, x_ite, x_for, x_ret, x_rai, x_expr, x_pass, x_clr, x_app, x_pop, x_set, s_nx, s_rt, s_exc, lk_nil, lk_end, lk_cons, List.contains_cons, List.contains_nil, sl_L, sl_K, sl_O, sl_V, sl_F, it_V, it_r1, it_r2, it_e, it_z, w_L, w_Lk, w_Ls, w_K, w_Kl, w_O, w_V, w_Vk, w_Vs, w_F, w_Fk, w_Fs, w_Fo, w_Fn, w_it, w_itn, a_asg, a_asgE, a_nx, a_asgT, a_par, a_retO, a_retS, a_retN, a_ret, a_retE, a_app, a_clr, a_set, a_setK, a_expr, a_exprE, a_iteT, a_iteF, a_iteE, a_for, a_forO, a_forN, t_nm, t_tp, fo_shr, fo_lst, fo_dic, fo_no, en_rt, en_nx, en_exc, frz, esc, esc.escs, esc.escb, escI, tgSlots, putL, putS, D.isL, ownV, q_asg, q_asgb, q_asgt, q_asgo, q_asgl, q_nm, q_tp, putO, ok_bind, iniEnd]
theorem r_many (p : PB T) (c : Str) (fs : List (Str × D)) (z : Int) (h : List.lookup ("size" : Str) fs = some (.int z)) : run T W (n + 1) (.me "Rule" "many") [.obj c fs] = .ok (.int z, true) := by
  rw [run_me p.many rfl]
  simp only [P.m_Rule_many, startE, e_var, e_con, e_glb, e_bin, e_un, e_and, e_or, e_cmp, e_chn, e_ite, e_lst, e_tup, e_dic0, e_dic, e_comp, e_call, e_bi, e_mth, e_rcv, e_att, e_idx, e_rev, e_slc, e_sort, l_nil, l_cons, i_seq, i_rng, i_rng1, i_enum, i_zip, v_shr, v_own, v_dic, g_some, o_bin, o_un, o_andT, o_andF, o_orT, o_orF, o_bol, o_cmp, o_chn, o_chT, o_chF, o_iteT, o_iteF, o_lst, o_tup, o_dic, o_cons, o_comp, o_endC, o_call, o_cl, o_clE, o_bi, o_mth, o_mth2, o_rcv, o_att, o_idx, o_rev, o_slc, o_sort, o_it, o_rng, o_rng1, o_enum, o_zip, ct_nm, ct_tp, ct_T, ct_F, ct_2, List.map_cons, List.map_nil, List.replicate, List.append_nil, List.cons_append, List.nil_append, Nat.sub_self, List.length_cons, List.length_nil, List.getElem?_cons_zero, List.getElem?_cons_succ, List.set_cons_zero, List.set_cons_succ, cmb, wipeE, if_true, if_false, Bool.not_true, Bool.not_false, Bool.false_eq_true, Bool.true_and, Bool.and_true, Bool.false_or, Bool.or_false, Bool.or_true, Bool.true_or, Bool.and_self, and_self, Bool.false_and, Bool.and_false, Int.reduceLT, Int.reduceLE, Int.reduceNeg, Nat.reduceAdd, Nat.reduceMul, Nat.reduceSub, Nat.reduceBEq, q_add, q_sub, q_mulr, q_mull, q_mod, q_fdiv, q_not, q_neg, q_lt, q_le, q_gt, q_ge, q_eqi, q_nei, q_neb, q_isb, q_t0, q_t1, q_len, q_lent, q_lens, q_list, q_listt, q_tuple, q_is1, q_is2, q_is3, q_is4, q_is5, q_is6, q_it, q_itt, q_rev, q_callT, q_calli, q_callb, imm_i, imm_b, imm_l, imm_k, imm_s, imm_n, imm_c, rcvB, xs_nil, xs_cons, x_asg, x_asgT, x_par, x_fld, x_ite, x_for, x_ret, x_rai, x_expr, x_pass, x_clr, x_app, x_pop, x_set, s_nx, s_rt, s_exc, lk_nil, lk_end, lk_cons, List.contains_cons, List.contains_nil, sl_L, sl_K, sl_O, sl_V, sl_F, it_V, it_r1, it_r2, it_e, it_z, w_L, w_Lk, w_Ls, w_K, w_Kl, w_O, w_V, w_Vk, w_Vs, w_F, w_Fk, w_Fs, w_Fo, w_Fn, w_it, w_itn, a_asg, a_asgE, a_nx, a_asgT, a_par, a_retO, a_retS, a_retN, a_ret, a_retE, a_app, a_clr, a_set, a_setK, a_expr, a_exprE, a_iteT, a_iteF, a_iteE, a_for, a_forO, a_forN, t_nm, t_tp, fo_shr, fo_lst, fo_dic, fo_no, en_rt, en_nx, en_exc, frz, esc, esc.escs, esc.escb, escI, tgSlots, putL, putS, D.isL, ownV, q_asg, q_asgb, q_asgt, q_asgo, q_asgl, q_nm, q_tp, attV, h, mkE]
/-- what is asked of things -/
def askedB (m : Int) (xs : List Int) : Bool := (xs.all fun t => decide (0 ≤ t) && decide (t ≤ m - 1)) && !decide ((dedup xs).length < xs.length)
theorem r_asked (p : PB T) (xs : List Int) (m : Int) (hn : xs.Nodup) (hl : xs.length ≤ 1000) (h : ∀ x ∈ xs, 0 ≤ x ∧ x < m) : run T W (n + 3) (.fn "asked_things") [.lst (xs.map .int), .int m] = .ok (.lst (xs.map .int), true) := by
  rw [run_fn p.ask rfl]
  have e : (xs.all fun t => decide (0 ≤ t) && decide (t ≤ m - 1)) = true := by
    rw [List.all_eq_true]
    intro x hx
    have := h x hx
    simp
    omega
  simp only [P.f_asked_things, startE, e_var, e_con, e_glb, e_bin, e_un, e_and, e_or, e_cmp, e_chn, e_ite, e_lst, e_tup, e_dic0, e_dic, e_comp, e_call, e_bi, e_mth, e_rcv, e_att, e_idx, e_rev, e_slc, e_sort, l_nil, l_cons, i_seq, i_rng, i_rng1, i_enum, i_zip, v_shr, v_own, v_dic, g_some, o_bin, o_un, o_andT, o_andF, o_orT, o_orF, o_bol, o_cmp, o_chn, o_chT, o_chF, o_iteT, o_iteF, o_lst, o_tup, o_dic, o_cons, o_comp, o_endC, o_call, o_cl, o_clE, o_bi, o_mth, o_mth2, o_rcv, o_att, o_idx, o_rev, o_slc, o_sort, o_it, o_rng, o_rng1, o_enum, o_zip, ct_nm, ct_tp, ct_T, ct_F, ct_2, List.map_cons, List.map_nil, List.replicate, List.append_nil, List.cons_append, List.nil_append, Nat.sub_self, List.length_cons, List.length_nil, List.getElem?_cons_zero, List.getElem?_cons_succ, List.set_cons_zero, List.set_cons_succ, cmb, wipeE, if_true, if_false, Bool.not_true, Bool.not_false, Bool.false_eq_true, Bool.true_and, Bool.and_true, Bool.false_or, Bool.or_false, Bool.or_true, Bool.true_or, Bool.and_self, and_self, Bool.false_and, Bool.and_false, Int.reduceLT, Int.reduceLE, Int.reduceNeg, Nat.reduceAdd, Nat.reduceMul, Nat.reduceSub, Nat.reduceBEq, q_add, q_sub, q_mulr, q_mull, q_mod, q_fdiv, q_not, q_neg, q_lt, q_le, q_gt, q_ge, q_eqi, q_nei, q_neb, q_isb, q_t0, q_t1, q_len, q_lent, q_lens, q_list, q_listt, q_tuple, q_is1, q_is2, q_is3, q_is4, q_is5, q_is6, q_it, q_itt, q_rev, q_callT, q_calli, q_callb, imm_i, imm_b, imm_l, imm_k, imm_s, imm_n, imm_c, rcvB, xs_nil, xs_cons, x_asg, x_asgT, x_par, x_fld, x_ite, x_for, x_ret, x_rai, x_expr, x_pass, x_clr, x_app, x_pop, x_set, s_nx, s_rt, s_exc, lk_nil, lk_end, lk_cons, List.contains_cons, List.contains_nil, sl_L, sl_K, sl_O, sl_V, sl_F, it_V, it_r1, it_r2, it_e, it_z, w_L, w_Lk, w_Ls, w_K, w_Kl, w_O, w_V, w_Vk, w_Vs, w_F, w_Fk, w_Fs, w_Fo, w_Fn, w_it, w_itn, a_asg, a_asgE, a_nx, a_asgT, a_par, a_retO, a_retS, a_retN, a_ret, a_retE, a_app, a_clr, a_set, a_setK, a_expr, a_exprE, a_iteT, a_iteF, a_iteE, a_for, a_forO, a_forN, t_nm, t_tp, fo_shr, fo_lst, fo_dic, fo_no, en_rt, en_nx, en_exc, frz, esc, esc.escs, esc.escb, escI, tgSlots, putL, putS, D.isL, ownV, q_asg, q_asgb, q_asgt, q_asgo, q_asgl, q_nm, q_tp, r_are_numbers p, q_lenset hl, dedup_nodup hn, List.length_map, e, Int.lt_irrefl, decide_false, imm_ints]
end
theorem z0T {a : Nat} (h : a = 0) : ((a : Int) == 0) = true := by subst h; rfl
theorem z0F {a : Nat} (h : ¬ a = 0) : ((a : Int) == 0) = false := by simp; omega
theorem zT {a b : Nat} (h : a = b) : ((a : Int) == b) = true := by subst h; simp
theorem zF {a b : Nat} (h : ¬ a = b) : ((a : Int) == b) = false := by simp; omega
/-! ### lists of natural numbers -/
def natD (l : List Nat) : List D := l.map fun v : Nat => D.int (v : Int)
theorem natD_app (l m : List Nat) : natD (l ++ m) = natD l ++ natD m := List.map_append
theorem natD_rev (l : List Nat) : natD l.reverse = (natD l).reverse := List.map_reverse
theorem natD_ints (l : List Nat) : natD l = (l.map fun v : Nat => (v : Int)).map D.int := by rw [List.map_map]; rfl
theorem natD_imm (l : List Nat) : (natD l).all D.imm = true := by rw [natD_ints]; exact imm_ints _
theorem natD_immL (l : List Nat) : D.imm (.tup (natD l)) = true := by
  show D.imm.immL _ = true
  rw [immL_all, natD_imm]
theorem natD_dat (l : List Nat) : (natD l).all (D.dat 59) = true := by rw [natD_ints]; exact dat_ints _ _
theorem natD_get {l : List Nat} {k v : Nat} (h : l[k]? = some v) : (natD l)[k]? = some (.int (v : Int)) := by
  unfold natD
  rw [List.getElem?_map, h]
  rfl
theorem natD_len (l : List Nat) : (natD l).length = l.length := List.length_map _
theorem eqvL_nats (l m : List Nat) : eqvL (natD l) (natD m) = (l == m) := by
  rw [natD_ints, natD_ints, eqvL_ints]
  have inj : ∀ (l m : List Nat), (l.map (fun v : Nat => (v : Int)) == m.map fun v : Nat => (v : Int)) = (l == m) := by
    intro l
    induction l with
    | nil => intro m; cases m <;> rfl
    | cons a l ih =>
      intro m
      cases m with
      | nil => rfl
      | cons b m =>
        have e : ((a : Int) == b) = (a == b) := by rw [Bool.eq_iff_iff]; simp; omega
        simp only [List.map_cons, List.cons_beq_cons, ih, e]
  exact inj l m
theorem nodup_ints {l : List Nat} (h : l.Nodup) : (l.map fun v : Nat => (v : Int)).Nodup := List.Pairwise.map _ (fun a b h z => h (Int.ofNat.inj z)) h
theorem q_app {E : SEnv} {i : Nat} {ds : List D} {n r m : Bool} {d : D} (h : ds.length < lim) : appV E i ds n (d, ⟨r, m, true⟩) = .ok (.nx (E.set i (some (.own (.lst (ds ++ [d])) (n && (m || d.imm)))))) := if_pos ⟨rfl, h⟩
theorem q_setL {E : SEnv} {i k : Nat} {ds : List D} {n r m : Bool} {d : D} (h : k < ds.length) : setLV E i ds n (.int k) (d, ⟨r, m, true⟩) = .ok (.nx (E.set i (some (.own (.lst (ds.set k d)) (n && (m || d.imm)))))) := by
  show (match ixN' ds.length (k : Int) with
    | some m' => if true = true then R.ok (Fw.nx (putL E i (ds.set m' d) (n && (m || d.imm)))) else .bad
    | none => .bad) = _
  rw [ixN_nat h]
  rfl
theorem q_shl {i : Int} {k : Nat} {f g : Fl} (h1 : (k : Int) ≤ 1000000) (h2 : i.natAbs < 18446744073709551616) : binV .LShift (.int i, f) (.int k, g) = .ok (.int (i * 2 ^ k), ⟨true, true, true⟩) := by
  show (if 0 ≤ (k : Int) ∧ (k : Int) ≤ 1000000 ∧ i.natAbs < 2 ^ 64 then R.ok (mkI (.int (i * 2 ^ (k : Int).toNat))) else .bad) = _
  rw [if_pos ⟨by omega, h1, by simpa using h2⟩]
  rfl
theorem q_min {T : Tb} {a b : Nat} {f g : Fl} : biV T .min [(.int a, f), (.int b, g)] = .ok (.int ((min a b : Nat) : Int), ⟨true, true, true⟩) := by
  show R.ok (mkI (.int (if (b : Int) < a then (b : Int) else a))) = _
  have : (if (b : Int) < a then (b : Int) else a) = ((min a b : Nat) : Int) := by
    by_cases h : (b : Int) < a
    · rw [if_pos h]; omega
    · rw [if_neg h]; omega
  rw [this]
  rfl
theorem att_imm {c a : Str} {fs : List (Str × D)} {f : Fl} {d : D} (h : List.lookup a fs = some d) (hd : d.imm = true) : attV (.obj c fs, f) a = .ok (d, ⟨false, true, true⟩) := by
  unfold attV
  simp only [h, mkE, hd, Bool.or_true]
theorem compL_nat {T : Tb} {C : Call} {elt cond : Ex} {tg : Tg} {n : Bool} {E : SEnv} {xs : List Nat} {f : Nat → D} (h : ∀ x ∈ xs, cturn T C elt cond E tg n (.int (x : Int)) = .ok (some (f x, true))) : compL T C elt tg cond n E (natD xs) = .ok (xs.map f, true) := compL_all (g := fun k : Nat => D.int (k : Int)) h
theorem map_natD {α : Type} (f : α → Nat) (l : List α) : (l.map fun x => D.int ((f x : Nat) : Int)) = natD (l.map f) := by unfold natD; rw [List.map_map]; rfl
/-! ### loops over range -/
theorem loop_nxR {T : Tb} {W : Nat} {C : Call} {tg : Tg} {n : Bool} {b : Sxs} {L : List Nat} {ds : List D} {E : SEnv} {z : R Fw} {nn : Nat} (hz : loopV T W C tg n b L ds E = z) (hd : ds = (List.range nn).map fun k : Nat => D.int (k : Int)) (I : Nat → SEnv → Prop) (h : I 0 E) (hs : ∀ k E, k < nn → I k E → ∃ E', turnV T W C tg n b L (.int k) E = .ok (.nx E') ∧ I (k + 1) E') : ∃ E', z = .ok (.nx E') ∧ I nn E' := by
  obtain ⟨E', e, h1⟩ := loop_nx hz hd (fun pre r E => I pre.length E ∧ pre ++ r = List.range nn) ⟨h, rfl⟩ fun pre x r E he ⟨h1, _⟩ => by
    have hk : pre.length < nn ∧ x = pre.length := by
      have h1 := congrArg (fun l => l[pre.length]?) he
      have h2 : pre.length < (List.range nn).length := by rw [← he]; simp
      rw [List.length_range] at h2
      simp [List.getElem?_range h2] at h1
      exact ⟨h2, h1⟩
    obtain ⟨h2, rfl⟩ := hk
    obtain ⟨E', e, h3⟩ := hs _ _ h2 h1
    exact ⟨E', e, by simpa using h3, by rw [← he]; simp⟩
  exact ⟨E', e, by simpa using h1.1⟩
theorem loop_rtR {T : Tb} {W : Nat} {C : Call} {tg : Tg} {n : Bool} {b : Sxs} {L : List Nat} {ds : List D} {E : SEnv} {z : R Fw} {nn : Nat} (hz : loopV T W C tg n b L ds E = z) (hd : ds = (List.range nn).map fun k : Nat => D.int (k : Int)) (I : Nat → SEnv → Prop) (Rt : D → Bool → Prop) (h : I 0 E) (hs : ∀ k E, k < nn → I k E → (∃ E', turnV T W C tg n b L (.int k) E = .ok (.nx E') ∧ I (k + 1) E') ∨ ∃ d m, turnV T W C tg n b L (.int k) E = .ok (.rt d m) ∧ Rt d m) : (∃ E', z = .ok (.nx E') ∧ I nn E') ∨ ∃ d m, z = .ok (.rt d m) ∧ Rt d m := by
  rcases loop_rt hz hd (fun pre r E => I pre.length E ∧ pre ++ r = List.range nn) Rt ⟨h, rfl⟩ (fun pre x r E he ⟨h1, _⟩ => by
    have hk : pre.length < nn ∧ x = pre.length := by
      have h1 := congrArg (fun l => l[pre.length]?) he
      have h2 : pre.length < (List.range nn).length := by rw [← he]; simp
      rw [List.length_range] at h2
      simp [List.getElem?_range h2] at h1
      exact ⟨h2, h1⟩
    obtain ⟨h2, rfl⟩ := hk
    rcases hs _ _ h2 h1 with ⟨E', e, h3⟩ | h3
    · exact .inl ⟨E', e, by simpa using h3, by rw [← he]; simp⟩
    · exact .inr h3) with ⟨E', e, h1⟩ | h1
  · exact .inl ⟨E', e, by simpa using h1.1⟩
  · exact .inr h1
/-- a number among numbers -/
theorem q_inN {v : Nat} {l : List Nat} : cmpV .In (.int (v : Int)) (.lst (natD l)) = .ok (decide (v ∈ l)) := by
  show (if (D.int (v : Int)).dat 60 && (natD l).all (D.dat 60) then R.ok (inV' (.int v) (natD l)) else .bad) = _
  rw [natD_ints, dat_ints, if_pos (by rfl)]
  congr 1
  unfold inV'
  rw [List.map_map, List.any_map]
  have : ((fun y : D => y.eqv (.int (v : Int))) ∘ (D.int ∘ fun v : Nat => (v : Int))) = fun x : Nat => decide (x = v) := by
    funext x
    show (D.int (x : Int)).eqv (.int v) = _
    rw [eqv_int, Bool.eq_iff_iff]
    simp
    omega
  rw [this, Bool.eq_iff_iff]
  simp
theorem q_rngN {z : Nat} (h : z ≤ 1000000) : rngV (.int 0) (.int (z : Int)) = .ok ((List.range z).map fun (k : Nat) => D.int k, true, true) := q_rng (by rw [show (lim : Int) = 1000000 from rfl]; omega)
/-- free, of any rule -/
theorem r_free {T : Tb} {W n : Nat} (p : PB T) (c b : Str) (fs : List (Str × D)) (m : Nat) (ks : List Nat) (z : R (D × Bool)) (h : List.lookup ("size" : Str) fs = some (.int m)) (hs : List.lookup ("stands" : Str) fs = none) (hb : T.mro c "stands" = some b) (hn : ks.Nodup) (hl : ks.length ≤ 1000) (hk : ∀ k ∈ ks, k < m) (k : Bool)
    (hst : run T W (n + 3) (.me b "stands") [.obj c fs, .lst (natD ks)] = .ok (.bl k, true)) : run T W (n + 4) (.me "Rule" "free") [.obj c fs, .lst (natD ks)] = .ok (.bl k, true) := by
  rw [run_me p.free rfl]
  have hm : mthC T "stands" (.obj c fs) = .ok b := by
    unfold mthC
    simp only [hs, hb]
  have hA := r_asked (W := W) (n := n) p (ks.map fun v : Nat => (v : Int)) m (nodup_ints hn) (by simpa using hl) fun x hx => by
    obtain ⟨q, hq, rfl⟩ := List.mem_map.mp hx
    have := hk q hq
    omega
  rw [← natD_ints] at hA
  simp only [P.m_Rule_free, startE, e_var, e_con, e_glb, e_bin, e_un, e_and, e_or, e_cmp, e_chn, e_ite, e_lst, e_tup, e_dic0, e_dic, e_comp, e_call, e_bi, e_mth, e_rcv, e_att, e_idx, e_rev, e_slc, e_sort, l_nil, l_cons, i_seq, i_rng, i_rng1, i_enum, i_zip, v_shr, v_own, v_dic, g_some, o_bin, o_un, o_andT, o_andF, o_orT, o_orF, o_bol, o_cmp, o_chn, o_chT, o_chF, o_iteT, o_iteF, o_lst, o_tup, o_dic, o_cons, o_comp, o_endC, o_call, o_cl, o_clE, o_bi, o_mth, o_mth2, o_rcv, o_att, o_idx, o_rev, o_slc, o_sort, o_it, o_rng, o_rng1, o_enum, o_zip, ct_nm, ct_tp, ct_T, ct_F, ct_2, List.map_cons, List.map_nil, List.replicate, List.append_nil, List.cons_append, List.nil_append, Nat.sub_self, List.length_cons, List.length_nil, List.getElem?_cons_zero, List.getElem?_cons_succ, List.set_cons_zero, List.set_cons_succ, cmb, wipeE, if_true, if_false, Bool.not_true, Bool.not_false, Bool.false_eq_true, Bool.true_and, Bool.and_true, Bool.false_or, Bool.or_false, Bool.or_true, Bool.true_or, Bool.and_self, and_self, Bool.false_and, Bool.and_false, Int.reduceLT, Int.reduceLE, Int.reduceNeg, Nat.reduceAdd, Nat.reduceMul, Nat.reduceSub, Nat.reduceBEq, q_add, q_sub, q_mulr, q_mull, q_mod, q_fdiv, q_not, q_neg, q_lt, q_le, q_gt, q_ge, q_eqi, q_nei, q_neb, q_isb, q_t0, q_t1, q_len, q_lent, q_lens, q_list, q_listt, q_tuple, q_is1, q_is2, q_is3, q_is4, q_is5, q_is6, q_it, q_itt, q_rev, q_callT, q_calli, q_callb, imm_i, imm_b, imm_l, imm_k, imm_s, imm_n, imm_c, rcvB, xs_nil, xs_cons, x_asg, x_asgT, x_par, x_fld, x_ite, x_for, x_ret, x_rai, x_expr, x_pass, x_clr, x_app, x_pop, x_set, s_nx, s_rt, s_exc, lk_nil, lk_end, lk_cons, List.contains_cons, List.contains_nil, sl_L, sl_K, sl_O, sl_V, sl_F, it_V, it_r1, it_r2, it_e, it_z, w_L, w_Lk, w_Ls, w_K, w_Kl, w_O, w_V, w_Vk, w_Vs, w_F, w_Fk, w_Fs, w_Fo, w_Fn, w_it, w_itn, a_asg, a_asgE, a_nx, a_asgT, a_par, a_retO, a_retS, a_retN, a_ret, a_retE, a_app, a_clr, a_set, a_setK, a_expr, a_exprE, a_iteT, a_iteF, a_iteE, a_for, a_forO, a_forN, t_nm, t_tp, fo_shr, fo_lst, fo_dic, fo_no, en_rt, en_nx, en_exc, frz, esc, esc.escs, esc.escb, escI, tgSlots, putL, putS, D.isL, ownV, q_asg, q_asgb, q_asgt, q_asgo, q_asgl, q_nm, q_tp, att_imm h rfl, hm, hA, hst]
end FS

/-! MB1: rows of bits: a base that is reduced against all sums. Plain Lean. -/
namespace FS
def red (base : List Nat) (x : Nat) : Nat := base.foldl (fun l b => min l (l ^^^ b)) x
def fits : List Nat → List Nat → Bool
  | _, [] => true
  | base, r :: rs => if red base r = 0 then false else fits (base ++ [red base r]) rs
def sumsF : List Nat → List Nat → Bool
  | _, [] => true
  | sums, r :: rs => if 0 ∈ sums.map (· ^^^ r) then false else sumsF (sums ++ sums.map (· ^^^ r)) rs
def xorL : List Nat → Nat
  | [] => 0
  | x :: xs => x ^^^ xorL xs
theorem xor_eq0 {a b : Nat} : a ^^^ b = 0 ↔ a = b := by
  refine ⟨fun h => ?_, fun h => by rw [h, Nat.xor_self]⟩
  have : a ^^^ b ^^^ b = 0 ^^^ b := by rw [h]
  rwa [Nat.xor_assoc, Nat.xor_self, Nat.xor_zero, Nat.zero_xor] at this
theorem xor_can (a b : Nat) : a ^^^ b ^^^ b = a := by rw [Nat.xor_assoc, Nat.xor_self, Nat.xor_zero]
theorem xor_mv {a b c : Nat} : a ^^^ b = c ↔ a = c ^^^ b := by
  refine ⟨fun h => by rw [← h, xor_can], fun h => by rw [h, xor_can]⟩
/-! ### all sums -/
theorem sums_iff : ∀ (l sums : List Nat), sumsF sums l = true ↔ ∀ F : List Nat, F.Sublist l → F ≠ [] → xorL F ∉ sums
  | [], sums => ⟨fun _ F h hn => absurd (List.sublist_nil.mp h) hn, fun _ => rfl⟩
  | r :: rs, sums => by
    unfold sumsF
    have h0 : 0 ∈ sums.map (· ^^^ r) ↔ r ∈ sums := by
      rw [List.mem_map]
      refine ⟨fun ⟨s, hs, e⟩ => by rw [xor_eq0] at e; exact e ▸ hs, fun h => ⟨r, h, Nat.xor_self r⟩⟩
    have hm : ∀ s, s ∈ sums ++ sums.map (· ^^^ r) ↔ s ∈ sums ∨ r ^^^ s ∈ sums := fun s => by
      rw [List.mem_append, List.mem_map]
      refine or_congr Iff.rfl ⟨fun ⟨t, ht, e⟩ => ?_, fun h => ⟨r ^^^ s, h, by rw [Nat.xor_comm r s, xor_can]⟩⟩
      rw [← e, Nat.xor_comm, xor_can]
      exact ht
    by_cases c : 0 ∈ sums.map (· ^^^ r)
    · rw [if_pos c]
      refine ⟨fun z => (Bool.noConfusion z), fun z => absurd (h0.mp c) ?_⟩
      have := z [r] (by simp) (by simp)
      simpa [xorL] using this
    · rw [if_neg c, sums_iff rs]
      refine ⟨fun z F hF hn => ?_, fun z F hF hn => ?_⟩
      · rcases List.sublist_cons_iff.mp hF with h | ⟨F', rfl, h⟩
        · exact fun w => z F h hn ((hm _).mpr (.inl w))
        · by_cases e : F' = []
          · subst e
            intro w
            exact c (h0.mpr (by simpa [xorL] using w))
          · exact fun w => z F' h e ((hm _).mpr (.inr w))
      · rw [hm, not_or]
        exact ⟨z F (hF.trans (List.sublist_cons_self r rs)) hn, z (r :: F) (hF.cons_cons r) (by simp)⟩
/-! ### a base -/
inductive Sp (base : List Nat) : Nat → Prop where
  | zero : Sp base 0
  | xor {b s : Nat} (h : b ∈ base) (hs : Sp base s) : Sp base (s ^^^ b)
theorem Sp.add {base : List Nat} {s t : Nat} (hs : Sp base s) (ht : Sp base t) : Sp base (s ^^^ t) := by
  induction ht with
  | zero => rwa [Nat.xor_zero]
  | xor h _ ih => rw [← Nat.xor_assoc]; exact .xor h ih
theorem Sp.mem {base : List Nat} {b : Nat} (h : b ∈ base) : Sp base b := by
  have := Sp.xor h .zero
  rwa [Nat.zero_xor] at this
theorem Sp.mono {base base' : List Nat} {s : Nat} (hb : ∀ b ∈ base, b ∈ base') (h : Sp base s) : Sp base' s := by
  induction h with
  | zero => exact .zero
  | xor h _ ih => exact .xor (hb _ h) ih
/-- with one more -/
theorem Sp.more {base base' : List Nat} {x : Nat} (hb : ∀ b, b ∈ base' ↔ b = x ∨ b ∈ base) {s : Nat} : Sp base' s ↔ Sp base s ∨ Sp base (s ^^^ x) := by
  refine ⟨fun h => ?_, fun h => ?_⟩
  · induction h with
    | zero => exact .inl .zero
    | @xor b s h _ ih =>
      rcases (hb b).mp h with e | e
      · subst e
        rw [xor_can]
        exact ih.symm
      · rw [Nat.xor_assoc, Nat.xor_comm b x, ← Nat.xor_assoc]
        exact ih.imp (.xor e) (.xor e)
  · rcases h with h | h
    · exact h.mono fun b e => (hb b).mpr (.inr e)
    · have := (h.mono fun b e => (hb b).mpr (.inr e)).xor ((hb x).mpr (.inl rfl))
      rwa [xor_can] at this
/-- the highest bit -/
theorem top_ex {b : Nat} (h : b ≠ 0) : ∃ i, b.testBit i = true ∧ ∀ j, i < j → b.testBit j = false := by
  have key : ∀ n, (∀ j, n ≤ j → b.testBit j = false) → ∃ i, b.testBit i = true ∧ ∀ j, i < j → b.testBit j = false := by
    intro n
    induction n with
    | zero =>
      intro hn
      exact absurd (Nat.eq_of_testBit_eq fun i => by rw [hn i (Nat.zero_le _), Nat.zero_testBit]) h
    | succ n ih =>
      intro hn
      cases e : b.testBit n with
      | true => exact ⟨n, e, fun j hj => hn j hj⟩
      | false =>
        refine ih fun j hj => ?_
        by_cases e2 : j = n
        · rw [e2]; exact e
        · exact hn j (by omega)
  exact key b fun j hj => Nat.testBit_lt_two_pow (Nat.lt_of_lt_of_le b.lt_two_pow_self (Nat.pow_le_pow_right (by decide) hj))
def Top (b i : Nat) : Prop := b.testBit i = true ∧ ∀ j, i < j → b.testBit j = false
theorem lt_bit {x y : Nat} (i : Nat) (hx : x.testBit i = false) (hy : y.testBit i = true) (h : ∀ j, i < j → x.testBit j = y.testBit j) : x < y := by
  have e : x >>> (i + 1) = y >>> (i + 1) := Nat.eq_of_testBit_eq fun j => by
    rw [Nat.testBit_shiftRight, Nat.testBit_shiftRight]
    exact h _ (by omega)
  rw [Nat.shiftRight_eq_div_pow, Nat.shiftRight_eq_div_pow, Nat.pow_succ, ← Nat.div_div_eq_div_mul, ← Nat.div_div_eq_div_mul] at e
  rw [Nat.testBit_eq_decide_div_mod_eq] at hx hy
  simp only [decide_eq_false_iff_not, decide_eq_true_eq] at hx hy
  have lt : x / 2 ^ i < y / 2 ^ i := by omega
  apply Classical.byContradiction
  intro hn
  have := Nat.div_le_div_right (c := 2 ^ i) (Nat.le_of_not_lt hn)
  omega
theorem min_top {x b i : Nat} (h : Top b i) : (min x (x ^^^ b)).testBit i = false := by
  cases e : x.testBit i with
  | true =>
    have : x ^^^ b < x := lt_bit i (by rw [Nat.testBit_xor, e, h.1]; rfl) e fun j hj => by rw [Nat.testBit_xor, h.2 j hj, Bool.xor_false]
    rw [Nat.min_eq_right (Nat.le_of_lt this), Nat.testBit_xor, e, h.1]
    rfl
  | false =>
    have : x < x ^^^ b := lt_bit i e (by rw [Nat.testBit_xor, e, h.1]; rfl) fun j hj => by rw [Nat.testBit_xor, h.2 j hj, Bool.xor_false]
    rw [Nat.min_eq_left (Nat.le_of_lt this)]
    exact e
/-- each is without the highest bits of those ahead of it -/
def Red (base : List Nat) : Prop := (∀ b ∈ base, b ≠ 0) ∧ base.Pairwise fun a b => ∀ i, Top a i → b.testBit i = false
theorem sp_bit {base : List Nat} {i s : Nat} (h : ∀ b ∈ base, b.testBit i = false) (hs : Sp base s) : s.testBit i = false := by
  induction hs with
  | zero => exact Nat.zero_testBit i
  | xor hb _ ih => rw [Nat.testBit_xor, ih, h _ hb]; rfl
theorem sp_zero : ∀ {base : List Nat} {s : Nat}, Red base → Sp base s → (∀ b ∈ base, ∀ i, Top b i → s.testBit i = false) → s = 0
  | [], s, _, hs, _ => by
    cases hs with
    | zero => rfl
    | xor h _ => simp at h
  | b :: bs, s, hR, hs, h => by
    have hp := List.pairwise_cons.mp hR.2
    have hR' : Red bs := ⟨fun c hc => hR.1 c (List.mem_cons_of_mem _ hc), hp.2⟩
    obtain ⟨i, hi⟩ := top_ex (hR.1 b List.mem_cons_self)
    rcases (Sp.more (x := b) fun c => List.mem_cons).mp hs with hs | hs
    · exact sp_zero hR' hs fun c hc => h c (List.mem_cons_of_mem _ hc)
    · have h1 := sp_bit (fun c hc => hp.1 c hc i hi) hs
      rw [Nat.testBit_xor, h b List.mem_cons_self i hi, hi.1] at h1
      cases h1
theorem red_facts : ∀ {base : List Nat} (x : Nat), base.Pairwise (fun a b => ∀ i, Top a i → b.testBit i = false) → Sp base (x ^^^ red base x) ∧ ∀ b ∈ base, ∀ i, Top b i → (red base x).testBit i = false
  | [], x, _ => by
    refine ⟨?_, by simp⟩
    show Sp [] (x ^^^ x)
    rw [Nat.xor_self]
    exact .zero
  | b :: bs, x, hR => by
    have hp := List.pairwise_cons.mp hR
    have ih := red_facts (min x (x ^^^ b)) hp.2
    show Sp (b :: bs) (x ^^^ red bs (min x (x ^^^ b))) ∧ ∀ c ∈ b :: bs, ∀ i, Top c i → (red bs (min x (x ^^^ b))).testBit i = false
    generalize hy : min x (x ^^^ b) = y at ih ⊢
    have hxy : Sp (b :: bs) (x ^^^ y) := by
      rw [← hy]
      rcases Nat.le_total x (x ^^^ b) with h | h
      · rw [Nat.min_eq_left h, Nat.xor_self]; exact .zero
      · rw [Nat.min_eq_right h, ← Nat.xor_assoc, Nat.xor_self, Nat.zero_xor]; exact Sp.mem List.mem_cons_self
    refine ⟨?_, fun c hc i hi => ?_⟩
    · have := hxy.add (ih.1.mono fun c hc => List.mem_cons_of_mem b hc)
      rwa [Nat.xor_assoc, ← Nat.xor_assoc y, Nat.xor_self, Nat.zero_xor] at this
    · rcases List.mem_cons.mp hc with e | e
      · subst e
        have h1 := sp_bit (fun d hd => hp.1 d hd i hi) ih.1
        rw [Nat.testBit_xor, ← hy, min_top hi, Bool.false_xor, hy] at h1
        exact h1
      · exact ih.2 c e i hi
theorem red_zero {base : List Nat} {r : Nat} (hR : Red base) : red base r = 0 ↔ Sp base r := by
  obtain ⟨h1, h2⟩ := red_facts r hR.2
  refine ⟨fun h => by rwa [h, Nat.xor_zero] at h1, fun h => sp_zero hR ?_ h2⟩
  have := h.add h1
  rwa [← Nat.xor_assoc, Nat.xor_self, Nat.zero_xor] at this
theorem fits_iff : ∀ (l base : List Nat), Red base → (fits base l = true ↔ ∀ F : List Nat, F.Sublist l → F ≠ [] → ¬ Sp base (xorL F))
  | [], base, _ => ⟨fun _ F h hn => absurd (List.sublist_nil.mp h) hn, fun _ => rfl⟩
  | r :: rs, base, hR => by
    unfold fits
    by_cases c : red base r = 0
    · rw [if_pos c]
      refine ⟨fun z => (Bool.noConfusion z), fun z => absurd ((red_zero hR).mp c) ?_⟩
      have := z [r] (by simp) (by simp)
      simpa [xorL] using this
    · obtain ⟨h1, h2⟩ := red_facts r hR.2
      have hR' : Red (base ++ [red base r]) := ⟨fun b hb => by
        rcases List.mem_append.mp hb with h | h
        · exact hR.1 b h
        · rw [List.mem_singleton] at h; rw [h]; exact c, List.pairwise_append.mpr ⟨hR.2, by simp, fun a ha b hb i hi => by
        rw [List.mem_singleton] at hb
        rw [hb]
        exact h2 a ha i hi⟩⟩
      have hm : ∀ s, Sp (base ++ [red base r]) s ↔ Sp base s ∨ Sp base (r ^^^ s) := fun s => by
        rw [Sp.more (x := red base r) (base := base) (fun b => by simp [or_comm])]
        refine or_congr Iff.rfl ⟨fun h => ?_, fun h => ?_⟩
        · have := h.add h1
          rwa [Nat.xor_assoc, Nat.xor_comm r, ← Nat.xor_assoc (red base r), Nat.xor_self, Nat.zero_xor, Nat.xor_comm] at this
        · have := h.add h1
          rwa [Nat.xor_comm r s, Nat.xor_assoc, ← Nat.xor_assoc r, Nat.xor_self, Nat.zero_xor] at this
      rw [if_neg c, fits_iff rs _ hR']
      refine ⟨fun z F hF hn => ?_, fun z F hF hn => ?_⟩
      · rcases List.sublist_cons_iff.mp hF with h | ⟨F', rfl, h⟩
        · exact fun w => z F h hn ((hm _).mpr (.inl w))
        · by_cases e : F' = []
          · subst e
            intro w
            exact c ((red_zero hR).mpr (by simpa [xorL] using w))
          · exact fun w => z F' h e ((hm _).mpr (.inr w))
      · rw [hm, not_or]
        exact ⟨z F (hF.trans (List.sublist_cons_self r rs)) hn, z (r :: F) (hF.cons_cons r) (by simp)⟩
theorem xorL_append (l m : List Nat) : xorL (l ++ m) = xorL l ^^^ xorL m := by
  induction l with
  | nil => simp [xorL]
  | cons x l ih => simp only [List.cons_append, xorL, ih, Nat.xor_assoc]
theorem xorL_rev (l : List Nat) : xorL l.reverse = xorL l := by
  induction l with
  | nil => rfl
  | cons x l ih => rw [List.reverse_cons, xorL_append, ih]; simp only [xorL, Nat.xor_zero]; exact Nat.xor_comm _ _
/-- what law k04 asks of a set: asked from behind, told by all sums -/
theorem fits_sums (l : List Nat) : fits [] l.reverse = sumsF [0] l := by
  apply Bool.eq_iff_iff.mpr
  have h0 : ∀ s, Sp [] s ↔ s ∈ [0] := fun s => by
    refine ⟨fun h => ?_, fun h => by rw [List.mem_singleton] at h; rw [h]; exact .zero⟩
    cases h with
    | zero => simp
    | xor h _ => simp at h
  rw [fits_iff _ _ ⟨by simp, by simp⟩, sums_iff]
  refine ⟨fun h F hF hn => ?_, fun h F hF hn => ?_⟩
  · have := h F.reverse hF.reverse (by simpa using hn)
    rwa [xorL_rev, h0] at this
  · rw [h0, ← xorL_rev]
    exact h F.reverse (by have := hF.reverse; rwa [List.reverse_reverse] at this) (by simpa using hn)
end FS

namespace FS
open PySem L2
def f_is_number : Fn := ⟨3, 3,
  (.cons (.ret (.and (.bi (.isi .int) (.cons (.var 0) .nil)) (.and (.un .Not (.bi (.isi .bool) (.cons (.var 0) .nil))) (.chn .LtE .LtE (.var 1) (.var 0) (.var 2)))))
  .nil)⟩
def f_is_number_n : List Str := ["thing", "least", "most"]
def f_are_numbers : Fn := ⟨3, 4,
  (.cons (.ret (.and (.bi (.isi .list) (.cons (.var 0) .nil)) (.bi .all (.cons (.comp (.call (.fn "is_number") (.cons (.var 3) (.cons (.var 1) (.cons (.var 2) .nil)))) (.nm 3) (.seq (.var 0)) (.con (.bl true)) [3]) .nil))))
  .nil)⟩
def f_are_numbers_n : List Str := ["things", "least", "most", "thing"]
def f_asked_things : Fn := ⟨2, 2,
  (.cons (.ite (.or (.un .Not (.call (.fn "are_numbers") (.cons (.var 0) (.cons (.con (.int 0)) (.cons (.bin .Sub (.var 1) (.con (.int 1))) .nil))))) (.cmp .Lt (.bi .lenset (.cons (.var 0) .nil)) (.bi .len (.cons (.var 0) .nil))))
  (.cons (.rai "BadThing")
  .nil)
  .nil)
  (.cons (.ret (.bi .list (.cons (.var 0) .nil)))
  .nil))⟩
def f_asked_things_n : List Str := ["some", "many"]
def f_law_cell_at : Fn := ⟨2, 2,
  (.cons (.ite (.cmp .Lt (.var 1) (.bi .len (.cons (.var 0) .nil)))
  (.cons (.ret (.idx (.var 0) (.var 1)))
  .nil)
  .nil)
  (.cons (.ret (.con (.int 0)))
  .nil))⟩
def f_law_cell_at_n : List Str := ["_law_script", "_law_k"]
def f_law_draw : Fn := ⟨3, 4,
  (.cons (.asg 3 (.bin .Mod (.bin .Add (.bin .Add (.bin .Mult (.bin .Mod (.var 0) (.con (.int 1000000007))) (.con (.int 48271))) (.bin .Mult (.var 1) (.con (.int 69621)))) (.con (.int 7))) (.con (.int 1000000007))))
  (.cons (.ret (.bin .Mod (.bin .Mod (.bin .FloorDiv (.bin .Mult (.var 3) (.var 3)) (.con (.int 1013))) (.con (.int 1000003))) (.var 2)))
  .nil))⟩
def f_law_draw_n : List Str := ["_law_cell", "_law_k", "_law_many", "_law_mixed"]
def f_law_bits : Fn := ⟨1, 5,
  (.cons (.asg 1 (.lst (.cons (.con (.int 0)) .nil)))
  (.cons (.for (.nm 2) (.seq (.var 0))
  (.cons (.asg 3 (.comp (.bin .BitXor (.var 4) (.var 2)) (.nm 4) (.seq (.var 1)) (.con (.bl true)) [4]))
  (.cons (.ite (.cmp .In (.con (.int 0)) (.var 3))
  (.cons (.ret (.con (.bl false)))
  .nil)
  .nil)
  (.cons (.asg 1 (.bin .Add (.var 1) (.var 3)))
  .nil))))
  (.cons (.ret (.con (.bl true)))
  .nil)))⟩
def f_law_bits_n : List Str := ["_law_rows", "_law_sums", "_law_row", "_law_more", "_law_one"]
def f_law : Fn := ⟨1, 12,
  (.cons (.asg 1 (.bin .Mod (.call (.fn "_law_cell_at") (.cons (.var 0) (.cons (.con (.int 0)) .nil))) (.con (.int 17))))
  (.cons (.asg 2 (.lst .nil))
  (.cons (.for (.nm 3) (.rng1 (.var 1))
  (.cons (.asg 4 (.bin .Add (.call (.fn "_law_cell_at") (.cons (.var 0) (.cons (.bin .Add (.con (.int 1)) (.bin .Mod (.var 3) (.con (.int 9)))) .nil))) (.bin .Mult (.con (.int 977)) (.var 3))))
  (.cons (.asg 5 (.bin .LShift (.call (.fn "_law_draw") (.cons (.var 4) (.cons (.con (.int 0)) (.cons (.con (.int 16)) .nil)))) (.call (.fn "_law_draw") (.cons (.call (.fn "_law_cell_at") (.cons (.var 0) (.cons (.con (.int 10)) .nil))) (.cons (.con (.int 1)) (.cons (.con (.int 29)) .nil))))))
  (.cons (.ite (.cmp .Eq (.call (.fn "_law_draw") (.cons (.var 4) (.cons (.con (.int 2)) (.cons (.con (.int 4)) .nil)))) (.con (.int 0)))
  (.cons (.asg 5 (.bin .Add (.bin .Mult (.call (.fn "_law_draw") (.cons (.var 4) (.cons (.con (.int 3)) (.cons (.con (.int 65536)) .nil)))) (.con (.int 65536))) (.call (.fn "_law_draw") (.cons (.var 4) (.cons (.con (.int 4)) (.cons (.con (.int 65536)) .nil))))))
  .nil)
  .nil)
  (.cons (.ite (.and (.cmp .Gt (.var 3) (.con (.int 1))) (.cmp .Eq (.call (.fn "_law_draw") (.cons (.var 4) (.cons (.con (.int 5)) (.cons (.con (.int 4)) .nil)))) (.con (.int 0))))
  (.cons (.asg 5 (.bin .BitXor (.idx (.var 2) (.bin .Sub (.var 3) (.con (.int 1)))) (.idx (.var 2) (.bin .Sub (.var 3) (.con (.int 2))))))
  .nil)
  .nil)
  (.cons (.app 2 (.var 5))
  .nil))))))
  (.cons (.asg 6 (.bi .list (.cons (.var 2) .nil)))
  (.cons (.asg 7 (.call (.mk "Bits") (.cons (.var 6) .nil)))
  (.cons (.ite (.or (.cmp .NotEq (.var 6) (.var 2)) (.or (.un .Not (.bi (.isi (.cls "Rule")) (.cons (.var 7) .nil))) (.cmp .NotEq (.mth (.var 7) "many" .nil) (.var 1))))
  (.cons (.ret (.con (.bl false)))
  .nil)
  .nil)
  (.cons (.app 6 (.con (.int 1)))
  (.cons (.for (.nm 8) (.rng1 (.con (.int 8)))
  (.cons (.asg 4 (.bin .Add (.call (.fn "_law_cell_at") (.cons (.var 0) (.cons (.var 8) .nil))) (.bin .Mult (.con (.int 31)) (.var 8))))
  (.cons (.asg 9 (.slc (.comp (.var 3) (.nm 3) (.rng1 (.var 1)) (.cmp .Eq (.call (.fn "_law_draw") (.cons (.bin .Add (.var 4) (.bin .Mult (.con (.int 41)) (.var 3))) (.cons (.con (.int 3)) (.cons (.bin .Add (.con (.int 1)) (.bin .Mod (.var 8) (.con (.int 4)))) .nil)))) (.con (.int 0))) [3]) (.con .non) (.con (.int 8))))
  (.cons (.asg 10 (.rev (.var 9)))
  (.cons (.asg 11 (.mth (.var 7) "free" (.cons (.var 10) .nil)))
  (.cons (.ite (.or (.un .Not (.bi (.isi .bool) (.cons (.var 11) .nil))) (.or (.cmp .NotEq (.var 11) (.call (.fn "_law_bits") (.cons (.comp (.idx (.var 2) (.var 3)) (.nm 3) (.seq (.var 9)) (.con (.bl true)) [3]) .nil))) (.cmp .NotEq (.var 10) (.rev (.var 9)))))
  (.cons (.ret (.con (.bl false)))
  .nil)
  .nil)
  .nil))))))
  (.cons (.ret (.cmp .Is (.mth (.var 7) "free" (.cons (.lst .nil) .nil)) (.con (.bl true))))
  .nil)))))))))⟩
def f_law_n : List Str := ["_law_script", "_law_n", "_law_rows", "_law_k", "_law_cell", "_law_row", "_law_handed", "_law_rule", "_law_at", "_law_some", "_law_asked", "_law_found"]
def i_Rule : Fn := ⟨2, 2,
  (.cons (.ite (.un .Not (.call (.fn "is_number") (.cons (.var 1) (.cons (.con (.int 0)) (.cons (.glb "MOST") .nil)))))
  (.cons (.rai "BadRule")
  .nil)
  .nil)
  (.cons (.fld "size" (.var 1))
  .nil))⟩
def i_Rule_n : List Str := ["self", "size"]
def m_Rule_many : Fn := ⟨1, 1,
  (.cons (.ret (.att (.var 0) "size"))
  .nil)⟩
def m_Rule_many_n : List Str := ["self"]
def m_Rule_free : Fn := ⟨2, 2,
  (.cons (.ret (.mth (.var 0) "stands" (.cons (.call (.fn "asked_things") (.cons (.var 1) (.cons (.att (.var 0) "size") .nil))) .nil)))
  .nil)⟩
def m_Rule_free_n : List Str := ["self", "some"]
def m_Rule_stands : Fn := ⟨2, 2,
  (.cons (.ret (.cmp .Eq (.var 1) (.lst .nil)))
  .nil)⟩
def m_Rule_stands_n : List Str := ["self", "some"]
def i_Bits : Fn := ⟨2, 2,
  (.cons (.ite (.un .Not (.call (.fn "are_numbers") (.cons (.var 1) (.cons (.con (.int 0)) (.cons (.bin .Sub (.bin .LShift (.con (.int 1)) (.glb "BITS")) (.con (.int 1))) .nil)))))
  (.cons (.rai "BadRule")
  .nil)
  .nil)
  (.cons (.supi "Rule" (.cons (.bi .len (.cons (.var 1) .nil)) .nil))
  (.cons (.fld "rows" (.bi .tuple (.cons (.var 1) .nil)))
  .nil)))⟩
def i_Bits_n : List Str := ["self", "rows"]
def m_Bits_stands : Fn := ⟨2, 6,
  (.cons (.asg 2 (.lst .nil))
  (.cons (.for (.nm 3) (.seq (.var 1))
  (.cons (.asg 4 (.idx (.att (.var 0) "rows") (.var 3)))
  (.cons (.for (.nm 5) (.seq (.var 2))
  (.cons (.asg 4 (.bi .min (.cons (.var 4) (.cons (.bin .BitXor (.var 4) (.var 5)) .nil))))
  .nil))
  (.cons (.ite (.cmp .Eq (.var 4) (.con (.int 0)))
  (.cons (.ret (.con (.bl false)))
  .nil)
  .nil)
  (.cons (.app 2 (.var 4))
  .nil)))))
  (.cons (.ret (.con (.bl true)))
  .nil)))⟩
def m_Bits_stands_n : List Str := ["self", "some", "base", "thing", "left", "row"]

def top (i : Nat) : Stmt := PySem.Challenge.pw_freesets_k04_bits.main.body.getD i (.Pass ⟨0, 0, 0, 0⟩)
def nms : Nm := { con := ["BITS", "MOST"], fns := ["_law_bits", "_law_cell_at", "_law_draw", "are_numbers", "asked_things", "is_number", "law"], mks := ["Bits"], cls := ["Rule"], att := ["rows", "size"], mth := ["free", "many", "stands"], sup := ["Rule"], exc := ["BadRule", "BadThing"] }
def tab : Tab where
  fn := [("is_number", (f_is_number, f_is_number_n)), ("are_numbers", (f_are_numbers, f_are_numbers_n)), ("asked_things", (f_asked_things, f_asked_things_n)), ("_law_cell_at", (f_law_cell_at, f_law_cell_at_n)), ("_law_draw", (f_law_draw, f_law_draw_n)), ("_law_bits", (f_law_bits, f_law_bits_n)), ("law", (f_law, f_law_n))]
  ini := [("Rule", (i_Rule, i_Rule_n)), ("Bits", (i_Bits, i_Bits_n))]
  me := [("Rule", [("many", (m_Rule_many, m_Rule_many_n)), ("free", (m_Rule_free, m_Rule_free_n)), ("stands", (m_Rule_stands, m_Rule_stands_n))]), ("Bits", [("stands", (m_Bits_stands, m_Bits_stands_n))])]
  con := [("MOST", .int 16), ("BITS", .int 32)]
  mro := [("Rule", [("free", "Rule"), ("many", "Rule"), ("stands", "Rule")]), ("Bits", [("free", "Rule"), ("many", "Rule"), ("stands", "Bits")])]
  sub := [("Rule", ["Rule"]), ("Bits", ["Bits", "Rule"]), ("FreeError", ["FreeError"]), ("BadRule", ["BadRule", "FreeError"]), ("BadThing", ["BadThing", "FreeError"])]
abbrev rls : List Str := ["Rule", "Bits"]
abbrev exs : List Str := ["FreeError", "BadRule", "BadThing"]
theorem c_f_law_bits : cF nms f_law_bits_n (top 15) = some f_law_bits.body := by rfl
theorem c_f_law_cell_at : cF nms f_law_cell_at_n (top 13) = some f_law_cell_at.body := by rfl
theorem c_f_law_draw : cF nms f_law_draw_n (top 14) = some f_law_draw.body := by rfl
theorem c_f_are_numbers : cF nms f_are_numbers_n (top 8) = some f_are_numbers.body := by rfl
theorem c_f_asked_things : cF nms f_asked_things_n (top 9) = some f_asked_things.body := by rfl
theorem c_f_is_number : cF nms f_is_number_n (top 7) = some f_is_number.body := by rfl
theorem c_f_law : cF nms f_law_n (top 16) = some f_law.body := by rfl
theorem c_i_Bits : cF nms i_Bits_n (inClass (top 11) 0) = some i_Bits.body := by rfl
theorem c_i_Rule : cF nms i_Rule_n (inClass (top 10) 0) = some i_Rule.body := by rfl
theorem c_m_Rule_free : cF nms m_Rule_free_n (inClass (top 10) 2) = some m_Rule_free.body := by rfl
theorem c_m_Rule_many : cF nms m_Rule_many_n (inClass (top 10) 1) = some m_Rule_many.body := by rfl
theorem c_m_Rule_stands : cF nms m_Rule_stands_n (inClass (top 10) 3) = some m_Rule_stands.body := by rfl
theorem c_m_Bits_stands : cF nms m_Bits_stands_n (inClass (top 11) 1) = some m_Bits_stands.body := by rfl
theorem text_mk {P : Program} {w : World} {K : PySem.W.Frag} {h base : Heap} {mg : Str → Option Value} (X : K.In h) (Gl : h.Ns mainGlobals mg)
    {C_Rule C_Bits X_BadRule X_BadThing A_f_law_bits A_f_law_cell_at A_f_law_draw A_f_are_numbers A_f_asked_things A_f_is_number A_f_law A_i_Bits A_i_Rule A_m_Rule_free A_m_Rule_many A_m_Rule_stands A_m_Bits_stands : Addr} {oc_f_law_bits kV_f_law_bits dc_f_law_bits pm_f_law_bits cd_f_law_bits ct_f_law_bits oc_f_law_cell_at kV_f_law_cell_at dc_f_law_cell_at pm_f_law_cell_at cd_f_law_cell_at ct_f_law_cell_at oc_f_law_draw kV_f_law_draw dc_f_law_draw pm_f_law_draw cd_f_law_draw ct_f_law_draw oc_f_are_numbers kV_f_are_numbers dc_f_are_numbers pm_f_are_numbers cd_f_are_numbers ct_f_are_numbers oc_f_asked_things kV_f_asked_things dc_f_asked_things pm_f_asked_things cd_f_asked_things ct_f_asked_things oc_f_is_number kV_f_is_number dc_f_is_number pm_f_is_number cd_f_is_number ct_f_is_number oc_f_law kV_f_law dc_f_law pm_f_law cd_f_law ct_f_law oc_i_Bits kV_i_Bits dc_i_Bits pm_i_Bits cd_i_Bits ct_i_Bits oc_i_Rule kV_i_Rule dc_i_Rule pm_i_Rule cd_i_Rule ct_i_Rule oc_m_Rule_free kV_m_Rule_free dc_m_Rule_free pm_m_Rule_free cd_m_Rule_free ct_m_Rule_free oc_m_Rule_many kV_m_Rule_many dc_m_Rule_many pm_m_Rule_many cd_m_Rule_many ct_m_Rule_many oc_m_Rule_stands kV_m_Rule_stands dc_m_Rule_stands pm_m_Rule_stands cd_m_Rule_stands ct_m_Rule_stands oc_m_Bits_stands kV_m_Bits_stands dc_m_Bits_stands pm_m_Bits_stands cd_m_Bits_stands ct_m_Bits_stands : Value} {od_f_law_bits an_f_law_bits od_f_law_cell_at an_f_law_cell_at od_f_law_draw an_f_law_draw od_f_are_numbers an_f_are_numbers od_f_asked_things an_f_asked_things od_f_is_number an_f_is_number od_f_law an_f_law od_i_Bits an_i_Bits od_i_Rule an_i_Rule od_m_Rule_free an_m_Rule_free od_m_Rule_many an_m_Rule_many od_m_Rule_stands an_m_Rule_stands od_m_Bits_stands an_m_Bits_stands : Option Addr} {sl_f_law_bits sl_f_law_cell_at sl_f_law_draw sl_f_are_numbers sl_f_asked_things sl_f_is_number sl_f_law sl_i_Bits sl_i_Rule sl_m_Rule_free sl_m_Rule_many sl_m_Rule_stands sl_m_Bits_stands : Array (Option Value)} {tk_BITS tk_MOST : Tok}
    (aC_Rule : PySem.W.nsIn K mainGlobals "Rule" = some (some (.ref C_Rule)))
    (aC_Bits : PySem.W.nsIn K mainGlobals "Bits" = some (some (.ref C_Bits)))
    (a_f_law_bits : PySem.W.nsIn K mainGlobals "_law_bits" = some (some (.ref A_f_law_bits)))
    (l_f_law_bits : K.lookup A_f_law_bits = some ⟨oc_f_law_bits, od_f_law_bits, .func (PySem.W.fnOf "_law_bits" "_law_bits" (defArgs (top 15)) (defBody (top 15)) (defScope (top 15)) .none kV_f_law_bits dc_f_law_bits pm_f_law_bits an_f_law_bits cd_f_law_bits ct_f_law_bits), sl_f_law_bits⟩)
    (d_f_law_bits : PySem.W.codeIn K cd_f_law_bits "_law_bits" = true)
    (k_f_law_bits : PySem.W.keepIn K (.ref A_f_law_bits) = true)
    (a_f_law_cell_at : PySem.W.nsIn K mainGlobals "_law_cell_at" = some (some (.ref A_f_law_cell_at)))
    (l_f_law_cell_at : K.lookup A_f_law_cell_at = some ⟨oc_f_law_cell_at, od_f_law_cell_at, .func (PySem.W.fnOf "_law_cell_at" "_law_cell_at" (defArgs (top 13)) (defBody (top 13)) (defScope (top 13)) .none kV_f_law_cell_at dc_f_law_cell_at pm_f_law_cell_at an_f_law_cell_at cd_f_law_cell_at ct_f_law_cell_at), sl_f_law_cell_at⟩)
    (d_f_law_cell_at : PySem.W.codeIn K cd_f_law_cell_at "_law_cell_at" = true)
    (k_f_law_cell_at : PySem.W.keepIn K (.ref A_f_law_cell_at) = true)
    (a_f_law_draw : PySem.W.nsIn K mainGlobals "_law_draw" = some (some (.ref A_f_law_draw)))
    (l_f_law_draw : K.lookup A_f_law_draw = some ⟨oc_f_law_draw, od_f_law_draw, .func (PySem.W.fnOf "_law_draw" "_law_draw" (defArgs (top 14)) (defBody (top 14)) (defScope (top 14)) .none kV_f_law_draw dc_f_law_draw pm_f_law_draw an_f_law_draw cd_f_law_draw ct_f_law_draw), sl_f_law_draw⟩)
    (d_f_law_draw : PySem.W.codeIn K cd_f_law_draw "_law_draw" = true)
    (k_f_law_draw : PySem.W.keepIn K (.ref A_f_law_draw) = true)
    (a_f_are_numbers : PySem.W.nsIn K mainGlobals "are_numbers" = some (some (.ref A_f_are_numbers)))
    (l_f_are_numbers : K.lookup A_f_are_numbers = some ⟨oc_f_are_numbers, od_f_are_numbers, .func (PySem.W.fnOf "are_numbers" "are_numbers" (defArgs (top 8)) (defBody (top 8)) (defScope (top 8)) .none kV_f_are_numbers dc_f_are_numbers pm_f_are_numbers an_f_are_numbers cd_f_are_numbers ct_f_are_numbers), sl_f_are_numbers⟩)
    (d_f_are_numbers : PySem.W.codeIn K cd_f_are_numbers "are_numbers" = true)
    (k_f_are_numbers : PySem.W.keepIn K (.ref A_f_are_numbers) = true)
    (a_f_asked_things : PySem.W.nsIn K mainGlobals "asked_things" = some (some (.ref A_f_asked_things)))
    (l_f_asked_things : K.lookup A_f_asked_things = some ⟨oc_f_asked_things, od_f_asked_things, .func (PySem.W.fnOf "asked_things" "asked_things" (defArgs (top 9)) (defBody (top 9)) (defScope (top 9)) .none kV_f_asked_things dc_f_asked_things pm_f_asked_things an_f_asked_things cd_f_asked_things ct_f_asked_things), sl_f_asked_things⟩)
    (d_f_asked_things : PySem.W.codeIn K cd_f_asked_things "asked_things" = true)
    (k_f_asked_things : PySem.W.keepIn K (.ref A_f_asked_things) = true)
    (a_f_is_number : PySem.W.nsIn K mainGlobals "is_number" = some (some (.ref A_f_is_number)))
    (l_f_is_number : K.lookup A_f_is_number = some ⟨oc_f_is_number, od_f_is_number, .func (PySem.W.fnOf "is_number" "is_number" (defArgs (top 7)) (defBody (top 7)) (defScope (top 7)) .none kV_f_is_number dc_f_is_number pm_f_is_number an_f_is_number cd_f_is_number ct_f_is_number), sl_f_is_number⟩)
    (d_f_is_number : PySem.W.codeIn K cd_f_is_number "is_number" = true)
    (k_f_is_number : PySem.W.keepIn K (.ref A_f_is_number) = true)
    (a_f_law : PySem.W.nsIn K mainGlobals "law" = some (some (.ref A_f_law)))
    (l_f_law : K.lookup A_f_law = some ⟨oc_f_law, od_f_law, .func (PySem.W.fnOf "law" "law" (defArgs (top 16)) (defBody (top 16)) (defScope (top 16)) .none kV_f_law dc_f_law pm_f_law an_f_law cd_f_law ct_f_law), sl_f_law⟩)
    (d_f_law : PySem.W.codeIn K cd_f_law "law" = true)
    (k_f_law : PySem.W.keepIn K (.ref A_f_law) = true)
    (a_i_Bits : PySem.W.findIn K (.ref C_Bits) "__init__" = some (some (.ref A_i_Bits)))
    (i_i_Bits : PySem.W.isFn K (.ref A_i_Bits) = true)
    (l_i_Bits : K.lookup A_i_Bits = some ⟨oc_i_Bits, od_i_Bits, .func (PySem.W.fnOf "__init__" "Bits.__init__" (defArgs (inClass (top 11) 0)) (defBody (inClass (top 11) 0)) (defScope (inClass (top 11) 0)) .none kV_i_Bits dc_i_Bits pm_i_Bits an_i_Bits cd_i_Bits ct_i_Bits), sl_i_Bits⟩)
    (d_i_Bits : PySem.W.codeIn K cd_i_Bits "Bits.__init__" = true)
    (k_i_Bits : PySem.W.keepIn K (.ref A_i_Bits) = true)
    (a_i_Rule : PySem.W.findIn K (.ref C_Rule) "__init__" = some (some (.ref A_i_Rule)))
    (i_i_Rule : PySem.W.isFn K (.ref A_i_Rule) = true)
    (l_i_Rule : K.lookup A_i_Rule = some ⟨oc_i_Rule, od_i_Rule, .func (PySem.W.fnOf "__init__" "Rule.__init__" (defArgs (inClass (top 10) 0)) (defBody (inClass (top 10) 0)) (defScope (inClass (top 10) 0)) .none kV_i_Rule dc_i_Rule pm_i_Rule an_i_Rule cd_i_Rule ct_i_Rule), sl_i_Rule⟩)
    (d_i_Rule : PySem.W.codeIn K cd_i_Rule "Rule.__init__" = true)
    (k_i_Rule : PySem.W.keepIn K (.ref A_i_Rule) = true)
    (a_m_Rule_free : PySem.W.findIn K (.ref C_Rule) "free" = some (some (.ref A_m_Rule_free)))
    (i_m_Rule_free : PySem.W.isFn K (.ref A_m_Rule_free) = true)
    (l_m_Rule_free : K.lookup A_m_Rule_free = some ⟨oc_m_Rule_free, od_m_Rule_free, .func (PySem.W.fnOf "free" "Rule.free" (defArgs (inClass (top 10) 2)) (defBody (inClass (top 10) 2)) (defScope (inClass (top 10) 2)) .none kV_m_Rule_free dc_m_Rule_free pm_m_Rule_free an_m_Rule_free cd_m_Rule_free ct_m_Rule_free), sl_m_Rule_free⟩)
    (d_m_Rule_free : PySem.W.codeIn K cd_m_Rule_free "Rule.free" = true)
    (k_m_Rule_free : PySem.W.keepIn K (.ref A_m_Rule_free) = true)
    (a_m_Rule_many : PySem.W.findIn K (.ref C_Rule) "many" = some (some (.ref A_m_Rule_many)))
    (i_m_Rule_many : PySem.W.isFn K (.ref A_m_Rule_many) = true)
    (l_m_Rule_many : K.lookup A_m_Rule_many = some ⟨oc_m_Rule_many, od_m_Rule_many, .func (PySem.W.fnOf "many" "Rule.many" (defArgs (inClass (top 10) 1)) (defBody (inClass (top 10) 1)) (defScope (inClass (top 10) 1)) .none kV_m_Rule_many dc_m_Rule_many pm_m_Rule_many an_m_Rule_many cd_m_Rule_many ct_m_Rule_many), sl_m_Rule_many⟩)
    (d_m_Rule_many : PySem.W.codeIn K cd_m_Rule_many "Rule.many" = true)
    (k_m_Rule_many : PySem.W.keepIn K (.ref A_m_Rule_many) = true)
    (a_m_Rule_stands : PySem.W.findIn K (.ref C_Rule) "stands" = some (some (.ref A_m_Rule_stands)))
    (i_m_Rule_stands : PySem.W.isFn K (.ref A_m_Rule_stands) = true)
    (l_m_Rule_stands : K.lookup A_m_Rule_stands = some ⟨oc_m_Rule_stands, od_m_Rule_stands, .func (PySem.W.fnOf "stands" "Rule.stands" (defArgs (inClass (top 10) 3)) (defBody (inClass (top 10) 3)) (defScope (inClass (top 10) 3)) .none kV_m_Rule_stands dc_m_Rule_stands pm_m_Rule_stands an_m_Rule_stands cd_m_Rule_stands ct_m_Rule_stands), sl_m_Rule_stands⟩)
    (d_m_Rule_stands : PySem.W.codeIn K cd_m_Rule_stands "Rule.stands" = true)
    (k_m_Rule_stands : PySem.W.keepIn K (.ref A_m_Rule_stands) = true)
    (a_m_Bits_stands : PySem.W.findIn K (.ref C_Bits) "stands" = some (some (.ref A_m_Bits_stands)))
    (i_m_Bits_stands : PySem.W.isFn K (.ref A_m_Bits_stands) = true)
    (l_m_Bits_stands : K.lookup A_m_Bits_stands = some ⟨oc_m_Bits_stands, od_m_Bits_stands, .func (PySem.W.fnOf "stands" "Bits.stands" (defArgs (inClass (top 11) 1)) (defBody (inClass (top 11) 1)) (defScope (inClass (top 11) 1)) .none kV_m_Bits_stands dc_m_Bits_stands pm_m_Bits_stands an_m_Bits_stands cd_m_Bits_stands ct_m_Bits_stands), sl_m_Bits_stands⟩)
    (d_m_Bits_stands : PySem.W.codeIn K cd_m_Bits_stands "Bits.stands" = true)
    (k_m_Bits_stands : PySem.W.keepIn K (.ref A_m_Bits_stands) = true)
    (gN : PySem.W.specialIn K (.builtin "object.__class__") "__get__" = some (some (.builtin "getset_descriptor.__get__")))
    (gT : PySem.W.takesIn K (.builtin "object.__class__") = some true)
    (pg_Rule : PySem.W.plainGet K C_Rule Str.empty = true)
    (hd_Rule : PySem.W.hasDictIn K C_Rule = true)
    (po_Rule : PySem.W.plainOver K C_Rule = true)
    (sa_Rule : PySem.W.findIn K (.ref C_Rule) "__setattr__" = some (some (.builtin "object.__setattr__")))
    (hc_Rule : PySem.W.findIn K (.ref C_Rule) "__class__" = some (some (.builtin "object.__class__")))
    (mo_Rule : PySem.W.mroIn K C_Rule (.type "object") = some true)
    (ba_Rule_NoneType : PySem.W.kitOne K (.type "NoneType") (.ref C_Rule) = some false)
    (bb_Rule_NoneType : PySem.W.kitOne K (.ref C_Rule) (.type "NoneType") = some false)
    (ba_Rule_bool : PySem.W.kitOne K (.type "bool") (.ref C_Rule) = some false)
    (bb_Rule_bool : PySem.W.kitOne K (.ref C_Rule) (.type "bool") = some false)
    (ba_Rule_int : PySem.W.kitOne K (.type "int") (.ref C_Rule) = some false)
    (bb_Rule_int : PySem.W.kitOne K (.ref C_Rule) (.type "int") = some false)
    (ba_Rule_str : PySem.W.kitOne K (.type "str") (.ref C_Rule) = some false)
    (bb_Rule_str : PySem.W.kitOne K (.ref C_Rule) (.type "str") = some false)
    (ba_Rule_list : PySem.W.kitOne K (.type "list") (.ref C_Rule) = some false)
    (bb_Rule_list : PySem.W.kitOne K (.ref C_Rule) (.type "list") = some false)
    (ba_Rule_tuple : PySem.W.kitOne K (.type "tuple") (.ref C_Rule) = some false)
    (bb_Rule_tuple : PySem.W.kitOne K (.ref C_Rule) (.type "tuple") = some false)
    (su_Rule_Rule : PySem.W.kitOne K (.ref C_Rule) (.ref C_Rule) = some true)
    (su_Bits_Rule : PySem.W.kitOne K (.ref C_Bits) (.ref C_Rule) = some true)
    (na_Rule_rows : PySem.W.findIn K (.ref C_Rule) "rows" = some none)
    (na_Rule_size : PySem.W.findIn K (.ref C_Rule) "size" = some none)
    (pg_Bits : PySem.W.plainGet K C_Bits Str.empty = true)
    (hd_Bits : PySem.W.hasDictIn K C_Bits = true)
    (po_Bits : PySem.W.plainOver K C_Bits = true)
    (sa_Bits : PySem.W.findIn K (.ref C_Bits) "__setattr__" = some (some (.builtin "object.__setattr__")))
    (hc_Bits : PySem.W.findIn K (.ref C_Bits) "__class__" = some (some (.builtin "object.__class__")))
    (mo_Bits : PySem.W.mroIn K C_Bits (.type "object") = some true)
    (ba_Bits_NoneType : PySem.W.kitOne K (.type "NoneType") (.ref C_Bits) = some false)
    (bb_Bits_NoneType : PySem.W.kitOne K (.ref C_Bits) (.type "NoneType") = some false)
    (ba_Bits_bool : PySem.W.kitOne K (.type "bool") (.ref C_Bits) = some false)
    (bb_Bits_bool : PySem.W.kitOne K (.ref C_Bits) (.type "bool") = some false)
    (ba_Bits_int : PySem.W.kitOne K (.type "int") (.ref C_Bits) = some false)
    (bb_Bits_int : PySem.W.kitOne K (.ref C_Bits) (.type "int") = some false)
    (ba_Bits_str : PySem.W.kitOne K (.type "str") (.ref C_Bits) = some false)
    (bb_Bits_str : PySem.W.kitOne K (.ref C_Bits) (.type "str") = some false)
    (ba_Bits_list : PySem.W.kitOne K (.type "list") (.ref C_Bits) = some false)
    (bb_Bits_list : PySem.W.kitOne K (.ref C_Bits) (.type "list") = some false)
    (ba_Bits_tuple : PySem.W.kitOne K (.type "tuple") (.ref C_Bits) = some false)
    (bb_Bits_tuple : PySem.W.kitOne K (.ref C_Bits) (.type "tuple") = some false)
    (su_Rule_Bits : PySem.W.kitOne K (.ref C_Rule) (.ref C_Bits) = some false)
    (su_Bits_Bits : PySem.W.kitOne K (.ref C_Bits) (.ref C_Bits) = some true)
    (na_Bits_rows : PySem.W.findIn K (.ref C_Bits) "rows" = some none)
    (na_Bits_size : PySem.W.findIn K (.ref C_Bits) "size" = some none)
    (me_Bits_free : PySem.W.findIn K (.ref C_Bits) "free" = some (some (.ref A_m_Rule_free)))
    (me_Bits_many : PySem.W.findIn K (.ref C_Bits) "many" = some (some (.ref A_m_Rule_many)))
    (mk_Bits : PySem.W.makesIn K C_Bits = true)
    (kc_Bits : PySem.W.keepIn K (.ref C_Bits) = true)
    (sg_Rule : PySem.W.specialIn K (.ref C_Rule) "__getattribute__" = some (some (.builtin "type.__getattribute__")))
    (sr_Rule : PySem.W.readsIn K C_Rule (.type "type") = true)
    (sf_Rule : PySem.W.findCls K (.ref C_Rule) (.type "type") "__init__" = some (.val (.ref A_i_Rule)))
    (ae_BadRule : PySem.W.nsIn K mainGlobals "BadRule" = some (some (.ref X_BadRule)))
    (xe_BadRule : PySem.W.excIn K X_BadRule [.type "ValueError", .type "Exception", .type "BaseException", .type "object"] "ValueError.__new__" = true)
    (ke_BadRule : PySem.W.keepIn K (.ref X_BadRule) = true)
    (be_BadRule : PySem.W.subIn K (.ref X_BadRule) (.type "BaseException") = some true)
    (te_BadRule : PySem.W.typeIn K (.ref X_BadRule) = some (.type "type"))
    (ae_BadThing : PySem.W.nsIn K mainGlobals "BadThing" = some (some (.ref X_BadThing)))
    (xe_BadThing : PySem.W.excIn K X_BadThing [.type "ValueError", .type "Exception", .type "BaseException", .type "object"] "ValueError.__new__" = true)
    (ke_BadThing : PySem.W.keepIn K (.ref X_BadThing) = true)
    (be_BadThing : PySem.W.subIn K (.ref X_BadThing) (.type "BaseException") = some true)
    (te_BadThing : PySem.W.typeIn K (.ref X_BadThing) = some (.type "type"))
    (co_BITS : PySem.W.nsIn K mainGlobals "BITS" = some (some (.int 32 tk_BITS)))
    (co_MOST : PySem.W.nsIn K mainGlobals "MOST" = some (some (.int 16 tk_MOST)))
    (z_len : PySem.W.nsIn K mainGlobals "len" = some none)
    (z_list : PySem.W.nsIn K mainGlobals "list" = some none)
    (z_tuple : PySem.W.nsIn K mainGlobals "tuple" = some none)
    (z_sorted : PySem.W.nsIn K mainGlobals "sorted" = some none)
    (z_sum : PySem.W.nsIn K mainGlobals "sum" = some none)
    (z_max : PySem.W.nsIn K mainGlobals "max" = some none)
    (z_min : PySem.W.nsIn K mainGlobals "min" = some none)
    (z_all : PySem.W.nsIn K mainGlobals "all" = some none)
    (z_any : PySem.W.nsIn K mainGlobals "any" = some none)
    (z_set : PySem.W.nsIn K mainGlobals "set" = some none)
    (z_range : PySem.W.nsIn K mainGlobals "range" = some none)
    (z_isinstance : PySem.W.nsIn K mainGlobals "isinstance" = some none)
    (z_int : PySem.W.nsIn K mainGlobals "int" = some none)
    (z_bool : PySem.W.nsIn K mainGlobals "bool" = some none)
    (z_str : PySem.W.nsIn K mainGlobals "str" = some none)
    (z_enumerate : PySem.W.nsIn K mainGlobals "enumerate" = some none)
    (z_zip : PySem.W.nsIn K mainGlobals "zip" = some none)
    : TextOk nms tab.tb (gt rls exs K) P w mg base (adK K) (fdK K) tab.ps := by
  have g_Rule : (gt rls exs K).cls "Rule" = some C_Rule := gt_cls (by rfl) aC_Rule
  have g_Bits : (gt rls exs K).cls "Bits" = some C_Bits := gt_cls (by rfl) aC_Bits
  have q_f_law_bits : DefOk nms tab.tb K (adK K (.fn "_law_bits")) (fdK K (.fn "_law_bits")) (tab.ps (.fn "_law_bits")) (.fn "_law_bits") "_law_bits" := defOk_mk (g := f_law_bits) (N := f_law_bits_n) (ps := ["_law_rows"]) (ad_fn a_f_law_bits) l_f_law_bits d_f_law_bits k_f_law_bits c_f_law_bits (by rfl) (by rfl) (by rfl) (scope_mk (by decide +kernel)) fun _ _ _ _ _ _ us hl => match us, hl with | [_], _ => rfl
  have q_f_law_cell_at : DefOk nms tab.tb K (adK K (.fn "_law_cell_at")) (fdK K (.fn "_law_cell_at")) (tab.ps (.fn "_law_cell_at")) (.fn "_law_cell_at") "_law_cell_at" := defOk_mk (g := f_law_cell_at) (N := f_law_cell_at_n) (ps := ["_law_script", "_law_k"]) (ad_fn a_f_law_cell_at) l_f_law_cell_at d_f_law_cell_at k_f_law_cell_at c_f_law_cell_at (by rfl) (by rfl) (by rfl) (scope_mk (by decide +kernel)) fun _ _ _ _ _ _ us hl => match us, hl with | [_, _], _ => rfl
  have q_f_law_draw : DefOk nms tab.tb K (adK K (.fn "_law_draw")) (fdK K (.fn "_law_draw")) (tab.ps (.fn "_law_draw")) (.fn "_law_draw") "_law_draw" := defOk_mk (g := f_law_draw) (N := f_law_draw_n) (ps := ["_law_cell", "_law_k", "_law_many"]) (ad_fn a_f_law_draw) l_f_law_draw d_f_law_draw k_f_law_draw c_f_law_draw (by rfl) (by rfl) (by rfl) (scope_mk (by decide +kernel)) fun _ _ _ _ _ _ us hl => match us, hl with | [_, _, _], _ => rfl
  have q_f_are_numbers : DefOk nms tab.tb K (adK K (.fn "are_numbers")) (fdK K (.fn "are_numbers")) (tab.ps (.fn "are_numbers")) (.fn "are_numbers") "are_numbers" := defOk_mk (g := f_are_numbers) (N := f_are_numbers_n) (ps := ["things", "least", "most"]) (ad_fn a_f_are_numbers) l_f_are_numbers d_f_are_numbers k_f_are_numbers c_f_are_numbers (by rfl) (by rfl) (by rfl) (scope_mk (by decide +kernel)) fun _ _ _ _ _ _ us hl => match us, hl with | [_, _, _], _ => rfl
  have q_f_asked_things : DefOk nms tab.tb K (adK K (.fn "asked_things")) (fdK K (.fn "asked_things")) (tab.ps (.fn "asked_things")) (.fn "asked_things") "asked_things" := defOk_mk (g := f_asked_things) (N := f_asked_things_n) (ps := ["some", "many"]) (ad_fn a_f_asked_things) l_f_asked_things d_f_asked_things k_f_asked_things c_f_asked_things (by rfl) (by rfl) (by rfl) (scope_mk (by decide +kernel)) fun _ _ _ _ _ _ us hl => match us, hl with | [_, _], _ => rfl
  have q_f_is_number : DefOk nms tab.tb K (adK K (.fn "is_number")) (fdK K (.fn "is_number")) (tab.ps (.fn "is_number")) (.fn "is_number") "is_number" := defOk_mk (g := f_is_number) (N := f_is_number_n) (ps := ["thing", "least", "most"]) (ad_fn a_f_is_number) l_f_is_number d_f_is_number k_f_is_number c_f_is_number (by rfl) (by rfl) (by rfl) (scope_mk (by decide +kernel)) fun _ _ _ _ _ _ us hl => match us, hl with | [_, _, _], _ => rfl
  have q_f_law : DefOk nms tab.tb K (adK K (.fn "law")) (fdK K (.fn "law")) (tab.ps (.fn "law")) (.fn "law") "law" := defOk_mk (g := f_law) (N := f_law_n) (ps := ["_law_script"]) (ad_fn a_f_law) l_f_law d_f_law k_f_law c_f_law (by rfl) (by rfl) (by rfl) (scope_mk (by decide +kernel)) fun _ _ _ _ _ _ us hl => match us, hl with | [_], _ => rfl
  have q_i_Bits : DefOk nms tab.tb K (adK K (.ini "Bits")) (fdK K (.ini "Bits")) (tab.ps (.ini "Bits")) (.ini "Bits") "__init__" := defOk_mk (g := i_Bits) (N := i_Bits_n) (ps := ["self", "rows"]) (fnA_of aC_Bits a_i_Bits) l_i_Bits d_i_Bits k_i_Bits c_i_Bits (by rfl) (by rfl) (by rfl) (scope_mk (by decide +kernel)) fun _ _ _ _ _ _ us hl => match us, hl with | [_, _], _ => rfl
  have q_i_Rule : DefOk nms tab.tb K (adK K (.ini "Rule")) (fdK K (.ini "Rule")) (tab.ps (.ini "Rule")) (.ini "Rule") "__init__" := defOk_mk (g := i_Rule) (N := i_Rule_n) (ps := ["self", "size"]) (fnA_of aC_Rule a_i_Rule) l_i_Rule d_i_Rule k_i_Rule c_i_Rule (by rfl) (by rfl) (by rfl) (scope_mk (by decide +kernel)) fun _ _ _ _ _ _ us hl => match us, hl with | [_, _], _ => rfl
  have q_m_Rule_free : DefOk nms tab.tb K (adK K (.me "Rule" "free")) (fdK K (.me "Rule" "free")) (tab.ps (.me "Rule" "free")) (.me "Rule" "free") "free" := defOk_mk (g := m_Rule_free) (N := m_Rule_free_n) (ps := ["self", "some"]) (fnA_of aC_Rule a_m_Rule_free) l_m_Rule_free d_m_Rule_free k_m_Rule_free c_m_Rule_free (by rfl) (by rfl) (by rfl) (scope_mk (by decide +kernel)) fun _ _ _ _ _ _ us hl => match us, hl with | [_, _], _ => rfl
  have q_m_Rule_many : DefOk nms tab.tb K (adK K (.me "Rule" "many")) (fdK K (.me "Rule" "many")) (tab.ps (.me "Rule" "many")) (.me "Rule" "many") "many" := defOk_mk (g := m_Rule_many) (N := m_Rule_many_n) (ps := ["self"]) (fnA_of aC_Rule a_m_Rule_many) l_m_Rule_many d_m_Rule_many k_m_Rule_many c_m_Rule_many (by rfl) (by rfl) (by rfl) (scope_mk (by decide +kernel)) fun _ _ _ _ _ _ us hl => match us, hl with | [_], _ => rfl
  have q_m_Rule_stands : DefOk nms tab.tb K (adK K (.me "Rule" "stands")) (fdK K (.me "Rule" "stands")) (tab.ps (.me "Rule" "stands")) (.me "Rule" "stands") "stands" := defOk_mk (g := m_Rule_stands) (N := m_Rule_stands_n) (ps := ["self", "some"]) (fnA_of aC_Rule a_m_Rule_stands) l_m_Rule_stands d_m_Rule_stands k_m_Rule_stands c_m_Rule_stands (by rfl) (by rfl) (by rfl) (scope_mk (by decide +kernel)) fun _ _ _ _ _ _ us hl => match us, hl with | [_, _], _ => rfl
  have q_m_Bits_stands : DefOk nms tab.tb K (adK K (.me "Bits" "stands")) (fdK K (.me "Bits" "stands")) (tab.ps (.me "Bits" "stands")) (.me "Bits" "stands") "stands" := defOk_mk (g := m_Bits_stands) (N := m_Bits_stands_n) (ps := ["self", "some"]) (fnA_of aC_Bits a_m_Bits_stands) l_m_Bits_stands d_m_Bits_stands k_m_Bits_stands c_m_Bits_stands (by rfl) (by rfl) (by rfl) (scope_mk (by decide +kernel)) fun _ _ _ _ _ _ us hl => match us, hl with | [_, _], _ => rfl
  have cl_Rule : Cls K C_Rule := ⟨pg_Rule, hd_Rule, po_Rule, sa_Rule⟩
  have cl_Bits : Cls K C_Bits := ⟨pg_Bits, hd_Bits, po_Bits, sa_Bits⟩
  have inv : ∀ {c : Str} {Ca : Addr}, (gt rls exs K).cls c = some Ca → (c = "Rule" ∧ Ca = C_Rule) ∨ (c = "Bits" ∧ Ca = C_Bits) := fun {c Ca} hc => by
    have hm := (gt_in hc).1
    simp only [rls, List.mem_cons, List.not_mem_nil, or_false] at hm
    rcases hm with rfl | rfl
    · rw [g_Rule] at hc; exact .inl ⟨rfl, (Option.some.inj hc).symm⟩
    · rw [g_Bits] at hc; exact .inr (⟨rfl, (Option.some.inj hc).symm⟩)
  refine { con := ?_, fns := ?_, ini := ?_, cls := ?_, isi := ?_, att := ?_, mth := ?_, hC := ?_, blt := ?_, exc := ?_ }
  · exact List.forall_mem_cons.mpr ⟨con_mk (G := gt rls exs K) (T := tab.tb) X Gl (by rfl) co_BITS, List.forall_mem_cons.mpr ⟨con_mk (G := gt rls exs K) (T := tab.tb) X Gl (by rfl) co_MOST, List.forall_mem_nil _⟩⟩
  · exact List.forall_mem_cons.mpr ⟨⟨q_f_law_bits, (by rw [ad_fn a_f_law_bits]; exact PySem.W.mg_of X Gl a_f_law_bits), (by rw [ad_fn a_f_law_bits]; exact k_f_law_bits)⟩, List.forall_mem_cons.mpr ⟨⟨q_f_law_cell_at, (by rw [ad_fn a_f_law_cell_at]; exact PySem.W.mg_of X Gl a_f_law_cell_at), (by rw [ad_fn a_f_law_cell_at]; exact k_f_law_cell_at)⟩, List.forall_mem_cons.mpr ⟨⟨q_f_law_draw, (by rw [ad_fn a_f_law_draw]; exact PySem.W.mg_of X Gl a_f_law_draw), (by rw [ad_fn a_f_law_draw]; exact k_f_law_draw)⟩, List.forall_mem_cons.mpr ⟨⟨q_f_are_numbers, (by rw [ad_fn a_f_are_numbers]; exact PySem.W.mg_of X Gl a_f_are_numbers), (by rw [ad_fn a_f_are_numbers]; exact k_f_are_numbers)⟩, List.forall_mem_cons.mpr ⟨⟨q_f_asked_things, (by rw [ad_fn a_f_asked_things]; exact PySem.W.mg_of X Gl a_f_asked_things), (by rw [ad_fn a_f_asked_things]; exact k_f_asked_things)⟩, List.forall_mem_cons.mpr ⟨⟨q_f_is_number, (by rw [ad_fn a_f_is_number]; exact PySem.W.mg_of X Gl a_f_is_number), (by rw [ad_fn a_f_is_number]; exact k_f_is_number)⟩, List.forall_mem_cons.mpr ⟨⟨q_f_law, (by rw [ad_fn a_f_law]; exact PySem.W.mg_of X Gl a_f_law), (by rw [ad_fn a_f_law]; exact k_f_law)⟩, List.forall_mem_nil _⟩⟩⟩⟩⟩⟩⟩
  · intro c hc
    have hm : c = "Bits" ∨ c = "Rule" := by
      simp only [nms, List.mem_cons, List.not_mem_nil, or_false] at hc
      rcases hc with hc | hc
      · rcases hc with hc
        · exact .inl hc
      · rcases hc with hc
        · exact .inr (hc)
    rcases hm with rfl | rfl
    · exact ⟨C_Bits, g_Bits, PySem.W.mg_of X Gl aC_Bits, q_i_Bits, (fun _ => by rw [show adK K (.ini "Bits") = _ from fnA_of aC_Bits a_i_Bits]; exact ⟨mk_Bits, a_i_Bits, i_i_Bits, kc_Bits⟩), fun z => absurd z (by decide +kernel)⟩
    · exact ⟨C_Rule, g_Rule, PySem.W.mg_of X Gl aC_Rule, q_i_Rule, fun z => absurd z (by decide +kernel), (fun _ => ⟨.type "type", by rw [show adK K (.ini "Rule") = _ from fnA_of aC_Rule a_i_Rule]; exact ⟨sg_Rule, sr_Rule, sf_Rule, k_i_Rule⟩⟩)⟩
  · exact List.forall_mem_cons.mpr ⟨⟨C_Rule, g_Rule, PySem.W.mg_of X Gl aC_Rule⟩, List.forall_mem_nil _⟩
  · intro c Ca hc
    rcases inv hc with ⟨rfl, rfl⟩ | ⟨rfl, rfl⟩
    · refine ⟨cl_Rule, hc_Rule, gN, gT, mo_Rule, List.forall_mem_cons.mpr ⟨⟨ba_Rule_NoneType, bb_Rule_NoneType⟩, List.forall_mem_cons.mpr ⟨⟨ba_Rule_bool, bb_Rule_bool⟩, List.forall_mem_cons.mpr ⟨⟨ba_Rule_int, bb_Rule_int⟩, List.forall_mem_cons.mpr ⟨⟨ba_Rule_str, bb_Rule_str⟩, List.forall_mem_cons.mpr ⟨⟨ba_Rule_list, bb_Rule_list⟩, List.forall_mem_cons.mpr ⟨⟨ba_Rule_tuple, bb_Rule_tuple⟩, List.forall_mem_nil _⟩⟩⟩⟩⟩⟩, fun c2 Ca2 h2 => ?_⟩
      rcases inv h2 with ⟨rfl, rfl⟩ | ⟨rfl, rfl⟩
      · exact su_Rule_Rule
      · exact su_Bits_Rule
    · refine ⟨cl_Bits, hc_Bits, gN, gT, mo_Bits, List.forall_mem_cons.mpr ⟨⟨ba_Bits_NoneType, bb_Bits_NoneType⟩, List.forall_mem_cons.mpr ⟨⟨ba_Bits_bool, bb_Bits_bool⟩, List.forall_mem_cons.mpr ⟨⟨ba_Bits_int, bb_Bits_int⟩, List.forall_mem_cons.mpr ⟨⟨ba_Bits_str, bb_Bits_str⟩, List.forall_mem_cons.mpr ⟨⟨ba_Bits_list, bb_Bits_list⟩, List.forall_mem_cons.mpr ⟨⟨ba_Bits_tuple, bb_Bits_tuple⟩, List.forall_mem_nil _⟩⟩⟩⟩⟩⟩, fun c2 Ca2 h2 => ?_⟩
      rcases inv h2 with ⟨rfl, rfl⟩ | ⟨rfl, rfl⟩
      · exact su_Rule_Bits
      · exact su_Bits_Bits
  · refine List.forall_mem_cons.mpr ⟨fun c Ca hc => ?_, List.forall_mem_cons.mpr ⟨fun c Ca hc => ?_, List.forall_mem_nil _⟩⟩
    · rcases inv hc with ⟨rfl, rfl⟩ | ⟨rfl, rfl⟩
      · exact na_Rule_rows
      · exact na_Bits_rows
    · rcases inv hc with ⟨rfl, rfl⟩ | ⟨rfl, rfl⟩
      · exact na_Rule_size
      · exact na_Bits_size
  · refine List.forall_mem_cons.mpr ⟨⟨fun c Ca b hc hb => ?_, "Rule", "Rule", by rfl⟩, List.forall_mem_cons.mpr ⟨⟨fun c Ca b hc hb => ?_, "Rule", "Rule", by rfl⟩, List.forall_mem_cons.mpr ⟨⟨fun c Ca b hc hb => ?_, "Rule", "Rule", by rfl⟩, List.forall_mem_nil _⟩⟩⟩
    · rcases inv hc with ⟨rfl, rfl⟩ | ⟨rfl, rfl⟩
      · have e : "Rule" = b := Option.some.inj hb
        subst e
        exact ⟨by rw [show adK K (.me "Rule" "free") = _ from fnA_of aC_Rule a_m_Rule_free]; exact ⟨a_m_Rule_free, i_m_Rule_free, k_m_Rule_free⟩, q_m_Rule_free⟩
      · have e : "Rule" = b := Option.some.inj hb
        subst e
        exact ⟨by rw [show adK K (.me "Rule" "free") = _ from fnA_of aC_Rule a_m_Rule_free]; exact ⟨me_Bits_free, i_m_Rule_free, k_m_Rule_free⟩, q_m_Rule_free⟩
    · rcases inv hc with ⟨rfl, rfl⟩ | ⟨rfl, rfl⟩
      · have e : "Rule" = b := Option.some.inj hb
        subst e
        exact ⟨by rw [show adK K (.me "Rule" "many") = _ from fnA_of aC_Rule a_m_Rule_many]; exact ⟨a_m_Rule_many, i_m_Rule_many, k_m_Rule_many⟩, q_m_Rule_many⟩
      · have e : "Rule" = b := Option.some.inj hb
        subst e
        exact ⟨by rw [show adK K (.me "Rule" "many") = _ from fnA_of aC_Rule a_m_Rule_many]; exact ⟨me_Bits_many, i_m_Rule_many, k_m_Rule_many⟩, q_m_Rule_many⟩
    · rcases inv hc with ⟨rfl, rfl⟩ | ⟨rfl, rfl⟩
      · have e : "Rule" = b := Option.some.inj hb
        subst e
        exact ⟨by rw [show adK K (.me "Rule" "stands") = _ from fnA_of aC_Rule a_m_Rule_stands]; exact ⟨a_m_Rule_stands, i_m_Rule_stands, k_m_Rule_stands⟩, q_m_Rule_stands⟩
      · have e : "Bits" = b := Option.some.inj hb
        subst e
        exact ⟨by rw [show adK K (.me "Bits" "stands") = _ from fnA_of aC_Bits a_m_Bits_stands]; exact ⟨a_m_Bits_stands, i_m_Bits_stands, k_m_Bits_stands⟩, q_m_Bits_stands⟩
  · intro m c b hb
    have hb : ((lk c tab.mro).bind fun l => lk m l) = some b := hb
    obtain ⟨l, e, _⟩ := Option.bind_eq_some_iff.mp hb
    simp only [tab, lk] at e
    split at e
    · rename_i z; subst z; exact ⟨_, g_Rule⟩
    split at e
    · rename_i z; subst z; exact ⟨_, g_Bits⟩
    · cases e
  · exact List.forall_mem_cons.mpr ⟨PySem.W.mg_none_of X Gl z_len, List.forall_mem_cons.mpr ⟨PySem.W.mg_none_of X Gl z_list, List.forall_mem_cons.mpr ⟨PySem.W.mg_none_of X Gl z_tuple, List.forall_mem_cons.mpr ⟨PySem.W.mg_none_of X Gl z_sorted, List.forall_mem_cons.mpr ⟨PySem.W.mg_none_of X Gl z_sum, List.forall_mem_cons.mpr ⟨PySem.W.mg_none_of X Gl z_max, List.forall_mem_cons.mpr ⟨PySem.W.mg_none_of X Gl z_min, List.forall_mem_cons.mpr ⟨PySem.W.mg_none_of X Gl z_all, List.forall_mem_cons.mpr ⟨PySem.W.mg_none_of X Gl z_any, List.forall_mem_cons.mpr ⟨PySem.W.mg_none_of X Gl z_set, List.forall_mem_cons.mpr ⟨PySem.W.mg_none_of X Gl z_range, List.forall_mem_cons.mpr ⟨PySem.W.mg_none_of X Gl z_isinstance, List.forall_mem_cons.mpr ⟨PySem.W.mg_none_of X Gl z_int, List.forall_mem_cons.mpr ⟨PySem.W.mg_none_of X Gl z_bool, List.forall_mem_cons.mpr ⟨PySem.W.mg_none_of X Gl z_str, List.forall_mem_cons.mpr ⟨PySem.W.mg_none_of X Gl z_enumerate, List.forall_mem_cons.mpr ⟨PySem.W.mg_none_of X Gl z_zip, List.forall_mem_nil _⟩⟩⟩⟩⟩⟩⟩⟩⟩⟩⟩⟩⟩⟩⟩⟩⟩
  · exact List.forall_mem_cons.mpr ⟨⟨X_BadRule, _, _, _, _, PySem.F.excBase_ValueError, xe_BadRule, PySem.W.mg_of X Gl ae_BadRule, ke_BadRule, gt_ecls (by rfl) ae_BadRule, fun Y hY => raises_own (hY ▸ be_BadRule) (hY ▸ te_BadRule)⟩, List.forall_mem_cons.mpr ⟨⟨X_BadThing, _, _, _, _, PySem.F.excBase_ValueError, xe_BadThing, PySem.W.mg_of X Gl ae_BadThing, ke_BadThing, gt_ecls (by rfl) ae_BadThing, fun Y hY => raises_own (hY ▸ be_BadThing) (hY ▸ te_BadThing)⟩, List.forall_mem_nil _⟩⟩
end FS

namespace FS
open PySem L2
theorem q_xor {a b : Nat} {f g : Fl} : binV .BitXor (.int a, f) (.int b, g) = .ok (.int ((a ^^^ b : Nat) : Int), ⟨true, true, true⟩) := by
  show R.ok (mkI (.int (Builtin.bitXor a b))) = _
  rw [Bits.bitXor_pp (Int.natCast_nonneg a) (Int.natCast_nonneg b)]
  rfl
theorem fits_cons {base rs : List Nat} {r : Nat} : fits base (r :: rs) = if red base r = 0 then false else fits (base ++ [red base r]) rs := rfl
theorem sumsF_cons {sums rs : List Nat} {r : Nat} : sumsF sums (r :: rs) = if 0 ∈ sums.map (· ^^^ r) then false else sumsF (sums ++ sums.map (· ^^^ r)) rs := rfl
/-! ### rows -/
namespace Bit
def flds (rows : List Nat) : List (Str × D) := [("size", .int rows.length), ("rows", .tup (natD rows))]
structure Has (T : Tb) : Prop where
  i : T.fn (.ini "Bits") = some P.i_Bits
  st : T.fn (.me "Bits" "stands") = some P.m_Bits_stands
  bits : T.con "BITS" = some (.int 32)
variable {T : Tb} {W n : Nat}
theorem r_i (p : PB T) (h : Has T) (rows : List Nat) (hl : rows.length ≤ 16) (ht : ∀ t ∈ rows, t < 4294967296) : run T W (n + 4) (.ini "Bits") [.obj "Bits" [], .lst (natD rows)] = .ok (.obj "Bits" (flds rows), true) := by
  rw [run_ini h.i rfl]
  have hA : run T W (n + 3) (.fn "are_numbers") [.lst (natD rows), .int 0, .int (1 * 2 ^ 32 - 1)] = .ok (.bl true, true) := by
    rw [natD_ints, r_are_numbers (n := n + 1) p]
    have : ((rows.map fun v : Nat => (v : Int)).all fun t => decide (0 ≤ t) && decide (t ≤ 1 * 2 ^ 32 - 1)) = true := by
      rw [List.all_map, List.all_eq_true]
      intro v hv
      have := ht v hv
      simp
      omega
    rw [this]
  have hs : ∀ f g, binV .LShift (.int 1, f) (.int 32, g) = .ok (.int (1 * 2 ^ 32), ⟨true, true, true⟩) := fun f g => q_shl (k := 32) (by decide) (by decide)
  have hR := r_iR (W := W) (n := n + 1) p "Bits" (((natD rows).length : Nat) : Int) (by omega) (by rw [natD_len]; omega)
  simp only [P.i_Bits, e_var, e_con, e_glb, e_bin, e_un, e_and, e_or, e_cmp, e_chn, e_ite, e_lst, e_tup, e_dic0, e_dic, e_comp, e_call, e_bi, e_mth, e_rcv, e_att, e_idx, e_rev, e_slc, e_sort, l_nil, l_cons, i_seq, i_rng, i_rng1, i_enum, i_zip, v_shr, v_own, v_dic, g_some, o_bin, o_un, o_andT, o_andF, o_orT, o_orF, o_bol, o_cmp, o_chn, o_chT, o_chF, o_iteT, o_iteF, o_lst, o_tup, o_dic, o_cons, o_comp, o_endC, o_call, o_cl, o_clE, o_bi, o_mth, o_mth2, o_rcv, o_att, o_idx, o_rev, o_slc, o_sort, o_it, o_rng, o_rng1, o_enum, o_zip, ct_nm, ct_tp, ct_T, ct_F, ct_2, List.map_cons, List.map_nil, List.replicate, List.append_nil, List.cons_append, List.nil_append, Nat.sub_self, List.length_cons, List.length_nil, List.getElem?_cons_zero, List.getElem?_cons_succ, List.set_cons_zero, List.set_cons_succ, cmb, wipeE, if_true, if_false, Bool.not_true, Bool.not_false, Bool.false_eq_true, Bool.true_and, Bool.and_true, Bool.false_or, Bool.or_false, Bool.or_true, Bool.true_or, Bool.and_self, and_self, Bool.false_and, Bool.and_false, Int.reduceLT, Int.reduceLE, Int.reduceNeg, Nat.reduceAdd, Nat.reduceMul, Nat.reduceSub, Nat.reduceBEq, q_add, q_sub, q_mulr, q_mull, q_mod, q_fdiv, q_not, q_neg, q_lt, q_le, q_gt, q_ge, q_eqi, q_nei, q_neb, q_isb, q_t0, q_t1, q_len, q_lent, q_lens, q_list, q_listt, q_tuple, q_is1, q_is2, q_is3, q_is4, q_is5, q_is6, q_it, q_itt, q_rev, q_callT, q_calli, q_callb, imm_i, imm_b, imm_l, imm_k, imm_s, imm_n, imm_c, rcvB, xs_nil, xs_cons, x_asg, x_asgT, x_par, x_fld, x_ite, x_for, x_ret, x_rai, x_expr, x_pass, x_clr, x_app, x_pop, x_set, s_nx, s_rt, s_exc, lk_nil, lk_end, lk_cons, List.contains_cons, List.contains_nil, sl_L, sl_K, sl_O, sl_V, sl_F, it_V, it_r1, it_r2, it_e, it_z, w_L, w_Lk, w_Ls, w_K, w_Kl, w_O, w_V, w_Vk, w_Vs, w_F, w_Fk, w_Fs, w_Fo, w_Fn, w_it, w_itn, a_asg, a_asgE, a_nx, a_asgT, a_par, a_retO, a_retS, a_retN, a_ret, a_retE, a_app, a_clr, a_set, a_setK, a_expr, a_exprE, a_iteT, a_iteF, a_iteE, a_for, a_forO, a_forN, t_nm, t_tp, fo_shr, fo_lst, fo_dic, fo_no, en_rt, en_nx, en_exc, frz, esc, esc.escs, esc.escb, escI, tgSlots, putL, putS, D.isL, ownV, q_asg, q_asgb, q_asgt, q_asgo, q_asgl, q_nm, q_tp, hs, hA, h.bits, x_sup, w_O, List.isEmpty_nil, ok_bind, hR, putS, x_fld]
  rw [a_fld (by show 1 < 900; decide)]
  simp only [e_var, e_con, e_glb, e_bin, e_un, e_and, e_or, e_cmp, e_chn, e_ite, e_lst, e_tup, e_dic0, e_dic, e_comp, e_call, e_bi, e_mth, e_rcv, e_att, e_idx, e_rev, e_slc, e_sort, l_nil, l_cons, i_seq, i_rng, i_rng1, i_enum, i_zip, v_shr, v_own, v_dic, g_some, o_bin, o_un, o_andT, o_andF, o_orT, o_orF, o_bol, o_cmp, o_chn, o_chT, o_chF, o_iteT, o_iteF, o_lst, o_tup, o_dic, o_cons, o_comp, o_endC, o_call, o_cl, o_clE, o_bi, o_mth, o_mth2, o_rcv, o_att, o_idx, o_rev, o_slc, o_sort, o_it, o_rng, o_rng1, o_enum, o_zip, ct_nm, ct_tp, ct_T, ct_F, ct_2, List.map_cons, List.map_nil, List.replicate, List.append_nil, List.cons_append, List.nil_append, Nat.sub_self, List.length_cons, List.length_nil, List.getElem?_cons_zero, List.getElem?_cons_succ, List.set_cons_zero, List.set_cons_succ, cmb, wipeE, if_true, if_false, Bool.not_true, Bool.not_false, Bool.false_eq_true, Bool.true_and, Bool.and_true, Bool.false_or, Bool.or_false, Bool.or_true, Bool.true_or, Bool.and_self, and_self, Bool.false_and, Bool.and_false, Int.reduceLT, Int.reduceLE, Int.reduceNeg, Nat.reduceAdd, Nat.reduceMul, Nat.reduceSub, Nat.reduceBEq, q_add, q_sub, q_mulr, q_mull, q_mod, q_fdiv, q_not, q_neg, q_lt, q_le, q_gt, q_ge, q_eqi, q_nei, q_neb, q_isb, q_t0, q_t1, q_len, q_lent, q_lens, q_list, q_listt, q_tuple, q_is1, q_is2, q_is3, q_is4, q_is5, q_is6, q_it, q_itt, q_rev, q_callT, q_calli, q_callb, imm_i, imm_b, imm_l, imm_k, imm_s, imm_n, imm_c, rcvB, xs_nil, xs_cons, x_asg, x_asgT, x_par, x_fld, x_ite, x_for, x_ret, x_rai, x_expr, x_pass, x_clr, x_app, x_pop, x_set, s_nx, s_rt, s_exc, lk_nil, lk_end, lk_cons, List.contains_cons, List.contains_nil, sl_L, sl_K, sl_O, sl_V, sl_F, it_V, it_r1, it_r2, it_e, it_z, w_L, w_Lk, w_Ls, w_K, w_Kl, w_O, w_V, w_Vk, w_Vs, w_F, w_Fk, w_Fs, w_Fo, w_Fn, w_it, w_itn, a_asg, a_asgE, a_nx, a_asgT, a_par, a_retO, a_retS, a_retN, a_ret, a_retE, a_app, a_clr, a_set, a_setK, a_expr, a_exprE, a_iteT, a_iteF, a_iteE, a_for, a_forO, a_forN, t_nm, t_tp, fo_shr, fo_lst, fo_dic, fo_no, en_rt, en_nx, en_exc, frz, esc, esc.escs, esc.escb, escI, tgSlots, putL, putS, D.isL, ownV, q_asg, q_asgb, q_asgt, q_asgo, q_asgl, q_nm, q_tp, ok_bind, iniEnd, putS, putO, natD_imm, natD_len]
  rfl
theorem r_stands (h : Has T) (rows ks : List Nat) (hl : ks.length ≤ 1000) (hk : ∀ k ∈ ks, k < rows.length) : run T W (n + 1) (.me "Bits" "stands") [.obj "Bits" (flds rows), .lst (natD ks)] = .ok (.bl (fits [] (ks.map fun k => rows.getD k 0)), true) := by
  rw [run_me h.st rfl]
  simp only [P.m_Bits_stands, startE, e_var, e_con, e_glb, e_bin, e_un, e_and, e_or, e_cmp, e_chn, e_ite, e_lst, e_tup, e_dic0, e_dic, e_comp, e_call, e_bi, e_mth, e_rcv, e_att, e_idx, e_rev, e_slc, e_sort, l_nil, l_cons, i_seq, i_rng, i_rng1, i_enum, i_zip, v_shr, v_own, v_dic, g_some, o_bin, o_un, o_andT, o_andF, o_orT, o_orF, o_bol, o_cmp, o_chn, o_chT, o_chF, o_iteT, o_iteF, o_lst, o_tup, o_dic, o_cons, o_comp, o_endC, o_call, o_cl, o_clE, o_bi, o_mth, o_mth2, o_rcv, o_att, o_idx, o_rev, o_slc, o_sort, o_it, o_rng, o_rng1, o_enum, o_zip, ct_nm, ct_tp, ct_T, ct_F, ct_2, List.map_cons, List.map_nil, List.replicate, List.append_nil, List.cons_append, List.nil_append, Nat.sub_self, List.length_cons, List.length_nil, List.getElem?_cons_zero, List.getElem?_cons_succ, List.set_cons_zero, List.set_cons_succ, cmb, wipeE, if_true, if_false, Bool.not_true, Bool.not_false, Bool.false_eq_true, Bool.true_and, Bool.and_true, Bool.false_or, Bool.or_false, Bool.or_true, Bool.true_or, Bool.and_self, and_self, Bool.false_and, Bool.and_false, Int.reduceLT, Int.reduceLE, Int.reduceNeg, Nat.reduceAdd, Nat.reduceMul, Nat.reduceSub, Nat.reduceBEq, q_add, q_sub, q_mulr, q_mull, q_mod, q_fdiv, q_not, q_neg, q_lt, q_le, q_gt, q_ge, q_eqi, q_nei, q_neb, q_isb, q_t0, q_t1, q_len, q_lent, q_lens, q_list, q_listt, q_tuple, q_is1, q_is2, q_is3, q_is4, q_is5, q_is6, q_it, q_itt, q_rev, q_callT, q_calli, q_callb, imm_i, imm_b, imm_l, imm_k, imm_s, imm_n, imm_c, rcvB, xs_nil, xs_cons, x_asg, x_asgT, x_par, x_fld, x_ite, x_for, x_ret, x_rai, x_expr, x_pass, x_clr, x_app, x_pop, x_set, s_nx, s_rt, s_exc, lk_nil, lk_end, lk_cons, List.contains_cons, List.contains_nil, sl_L, sl_K, sl_O, sl_V, sl_F, it_V, it_r1, it_r2, it_e, it_z, w_L, w_Lk, w_Ls, w_K, w_Kl, w_O, w_V, w_Vk, w_Vs, w_F, w_Fk, w_Fs, w_Fo, w_Fn, w_it, w_itn, a_asg, a_asgE, a_nx, a_asgT, a_par, a_retO, a_retS, a_retN, a_ret, a_retE, a_app, a_clr, a_set, a_setK, a_expr, a_exprE, a_iteT, a_iteF, a_iteE, a_for, a_forO, a_forN, t_nm, t_tp, fo_shr, fo_lst, fo_dic, fo_no, en_rt, en_nx, en_exc, frz, esc, esc.escs, esc.escb, escI, tgSlots, putL, putS, D.isL, ownV, q_asg, q_asgb, q_asgt, q_asgo, q_asgl, q_nm, q_tp]
  generalize hz : loopV _ _ _ _ _ _ _ _ _ = z
  rcases loop_rt (xs := ks) (g := fun k : Nat => .int (k : Int)) hz rfl (fun pre r E => ∃ base s3 s4 s5, base.length = pre.length ∧ fits [] (ks.map fun k => rows.getD k 0) = fits base (r.map fun k => rows.getD k 0) ∧
    E = [some (.shr (.obj "Bits" (flds rows)) false), some (.shr (.lst (natD ks)) false), some (.own (.lst (natD base)) true), s3, s4, s5]) (fun d m => d = .bl false ∧ m = true ∧ fits [] (ks.map fun k => rows.getD k 0) = false) ⟨[], none, none, none, rfl, rfl, rfl⟩ (by
    rintro pre k r E he ⟨base, s3, s4, s5, hb, hj, rfl⟩
    have hkl : k < rows.length := hk k (by rw [← he]; simp)
    have hp : base.length ≤ 1000 := by rw [hb]; rw [← he] at hl; simp at hl; omega
    have hg : rows[k]? = some (rows.getD k 0) := by rw [List.getElem?_eq_getElem hkl, List.getD_eq_getElem?_getD, List.getElem?_eq_getElem hkl]; rfl
    simp only [e_var, e_con, e_glb, e_bin, e_un, e_and, e_or, e_cmp, e_chn, e_ite, e_lst, e_tup, e_dic0, e_dic, e_comp, e_call, e_bi, e_mth, e_rcv, e_att, e_idx, e_rev, e_slc, e_sort, l_nil, l_cons, i_seq, i_rng, i_rng1, i_enum, i_zip, v_shr, v_own, v_dic, g_some, o_bin, o_un, o_andT, o_andF, o_orT, o_orF, o_bol, o_cmp, o_chn, o_chT, o_chF, o_iteT, o_iteF, o_lst, o_tup, o_dic, o_cons, o_comp, o_endC, o_call, o_cl, o_clE, o_bi, o_mth, o_mth2, o_rcv, o_att, o_idx, o_rev, o_slc, o_sort, o_it, o_rng, o_rng1, o_enum, o_zip, ct_nm, ct_tp, ct_T, ct_F, ct_2, List.map_cons, List.map_nil, List.replicate, List.append_nil, List.cons_append, List.nil_append, Nat.sub_self, List.length_cons, List.length_nil, List.getElem?_cons_zero, List.getElem?_cons_succ, List.set_cons_zero, List.set_cons_succ, cmb, wipeE, if_true, if_false, Bool.not_true, Bool.not_false, Bool.false_eq_true, Bool.true_and, Bool.and_true, Bool.false_or, Bool.or_false, Bool.or_true, Bool.true_or, Bool.and_self, and_self, Bool.false_and, Bool.and_false, Int.reduceLT, Int.reduceLE, Int.reduceNeg, Nat.reduceAdd, Nat.reduceMul, Nat.reduceSub, Nat.reduceBEq, q_add, q_sub, q_mulr, q_mull, q_mod, q_fdiv, q_not, q_neg, q_lt, q_le, q_gt, q_ge, q_eqi, q_nei, q_neb, q_isb, q_t0, q_t1, q_len, q_lent, q_lens, q_list, q_listt, q_tuple, q_is1, q_is2, q_is3, q_is4, q_is5, q_is6, q_it, q_itt, q_rev, q_callT, q_calli, q_callb, imm_i, imm_b, imm_l, imm_k, imm_s, imm_n, imm_c, rcvB, xs_nil, xs_cons, x_asg, x_asgT, x_par, x_fld, x_ite, x_for, x_ret, x_rai, x_expr, x_pass, x_clr, x_app, x_pop, x_set, s_nx, s_rt, s_exc, lk_nil, lk_end, lk_cons, List.contains_cons, List.contains_nil, sl_L, sl_K, sl_O, sl_V, sl_F, it_V, it_r1, it_r2, it_e, it_z, w_L, w_Lk, w_Ls, w_K, w_Kl, w_O, w_V, w_Vk, w_Vs, w_F, w_Fk, w_Fs, w_Fo, w_Fn, w_it, w_itn, a_asg, a_asgE, a_nx, a_asgT, a_par, a_retO, a_retS, a_retN, a_ret, a_retE, a_app, a_clr, a_set, a_setK, a_expr, a_exprE, a_iteT, a_iteF, a_iteE, a_for, a_forO, a_forN, t_nm, t_tp, fo_shr, fo_lst, fo_dic, fo_no, en_rt, en_nx, en_exc, frz, esc, esc.escs, esc.escb, escI, tgSlots, putL, putS, D.isL, ownV, q_asg, q_asgb, q_asgt, q_asgo, q_asgl, q_nm, q_tp, att_imm (c := "Bits") (fs := flds rows) (a := "rows") rfl (natD_immL rows), q_ixt (natD_get hg)]
    rw [List.map_cons, fits_cons] at hj
    generalize rows.getD k 0 = v at hj ⊢
    generalize hz : loopV _ _ _ _ _ _ _ _ _ = z
    obtain ⟨E', rfl, s5, rfl⟩ := loop_nx (xs := base) (g := fun k : Nat => .int (k : Int)) hz rfl (fun pre r E => ∃ s5, E = [some (.shr (.obj "Bits" (flds rows)) false), some (.shr (.lst (natD ks)) false), some (.own (.lst (natD base)) true), some (.shr (.int k) false), some (.shr (.int (red pre v : Nat)) true), s5]) ⟨s5, rfl⟩ (by
      rintro pre b r E he ⟨s5, rfl⟩
      simp only [e_var, e_con, e_glb, e_bin, e_un, e_and, e_or, e_cmp, e_chn, e_ite, e_lst, e_tup, e_dic0, e_dic, e_comp, e_call, e_bi, e_mth, e_rcv, e_att, e_idx, e_rev, e_slc, e_sort, l_nil, l_cons, i_seq, i_rng, i_rng1, i_enum, i_zip, v_shr, v_own, v_dic, g_some, o_bin, o_un, o_andT, o_andF, o_orT, o_orF, o_bol, o_cmp, o_chn, o_chT, o_chF, o_iteT, o_iteF, o_lst, o_tup, o_dic, o_cons, o_comp, o_endC, o_call, o_cl, o_clE, o_bi, o_mth, o_mth2, o_rcv, o_att, o_idx, o_rev, o_slc, o_sort, o_it, o_rng, o_rng1, o_enum, o_zip, ct_nm, ct_tp, ct_T, ct_F, ct_2, List.map_cons, List.map_nil, List.replicate, List.append_nil, List.cons_append, List.nil_append, Nat.sub_self, List.length_cons, List.length_nil, List.getElem?_cons_zero, List.getElem?_cons_succ, List.set_cons_zero, List.set_cons_succ, cmb, wipeE, if_true, if_false, Bool.not_true, Bool.not_false, Bool.false_eq_true, Bool.true_and, Bool.and_true, Bool.false_or, Bool.or_false, Bool.or_true, Bool.true_or, Bool.and_self, and_self, Bool.false_and, Bool.and_false, Int.reduceLT, Int.reduceLE, Int.reduceNeg, Nat.reduceAdd, Nat.reduceMul, Nat.reduceSub, Nat.reduceBEq, q_add, q_sub, q_mulr, q_mull, q_mod, q_fdiv, q_not, q_neg, q_lt, q_le, q_gt, q_ge, q_eqi, q_nei, q_neb, q_isb, q_t0, q_t1, q_len, q_lent, q_lens, q_list, q_listt, q_tuple, q_is1, q_is2, q_is3, q_is4, q_is5, q_is6, q_it, q_itt, q_rev, q_callT, q_calli, q_callb, imm_i, imm_b, imm_l, imm_k, imm_s, imm_n, imm_c, rcvB, xs_nil, xs_cons, x_asg, x_asgT, x_par, x_fld, x_ite, x_for, x_ret, x_rai, x_expr, x_pass, x_clr, x_app, x_pop, x_set, s_nx, s_rt, s_exc, lk_nil, lk_end, lk_cons, List.contains_cons, List.contains_nil, sl_L, sl_K, sl_O, sl_V, sl_F, it_V, it_r1, it_r2, it_e, it_z, w_L, w_Lk, w_Ls, w_K, w_Kl, w_O, w_V, w_Vk, w_Vs, w_F, w_Fk, w_Fs, w_Fo, w_Fn, w_it, w_itn, a_asg, a_asgE, a_nx, a_asgT, a_par, a_retO, a_retS, a_retN, a_ret, a_retE, a_app, a_clr, a_set, a_setK, a_expr, a_exprE, a_iteT, a_iteF, a_iteE, a_for, a_forO, a_forN, t_nm, t_tp, fo_shr, fo_lst, fo_dic, fo_no, en_rt, en_nx, en_exc, frz, esc, esc.escs, esc.escb, escI, tgSlots, putL, putS, D.isL, ownV, q_asg, q_asgb, q_asgt, q_asgo, q_asgl, q_nm, q_tp, q_xor, q_min]
      exact ⟨_, rfl, some (.shr (.int b) true), by simp only [red, List.foldl_append, List.foldl_cons, List.foldl_nil]⟩)
    simp only [e_var, e_con, e_glb, e_bin, e_un, e_and, e_or, e_cmp, e_chn, e_ite, e_lst, e_tup, e_dic0, e_dic, e_comp, e_call, e_bi, e_mth, e_rcv, e_att, e_idx, e_rev, e_slc, e_sort, l_nil, l_cons, i_seq, i_rng, i_rng1, i_enum, i_zip, v_shr, v_own, v_dic, g_some, o_bin, o_un, o_andT, o_andF, o_orT, o_orF, o_bol, o_cmp, o_chn, o_chT, o_chF, o_iteT, o_iteF, o_lst, o_tup, o_dic, o_cons, o_comp, o_endC, o_call, o_cl, o_clE, o_bi, o_mth, o_mth2, o_rcv, o_att, o_idx, o_rev, o_slc, o_sort, o_it, o_rng, o_rng1, o_enum, o_zip, ct_nm, ct_tp, ct_T, ct_F, ct_2, List.map_cons, List.map_nil, List.replicate, List.append_nil, List.cons_append, List.nil_append, Nat.sub_self, List.length_cons, List.length_nil, List.getElem?_cons_zero, List.getElem?_cons_succ, List.set_cons_zero, List.set_cons_succ, cmb, wipeE, if_true, if_false, Bool.not_true, Bool.not_false, Bool.false_eq_true, Bool.true_and, Bool.and_true, Bool.false_or, Bool.or_false, Bool.or_true, Bool.true_or, Bool.and_self, and_self, Bool.false_and, Bool.and_false, Int.reduceLT, Int.reduceLE, Int.reduceNeg, Nat.reduceAdd, Nat.reduceMul, Nat.reduceSub, Nat.reduceBEq, q_add, q_sub, q_mulr, q_mull, q_mod, q_fdiv, q_not, q_neg, q_lt, q_le, q_gt, q_ge, q_eqi, q_nei, q_neb, q_isb, q_t0, q_t1, q_len, q_lent, q_lens, q_list, q_listt, q_tuple, q_is1, q_is2, q_is3, q_is4, q_is5, q_is6, q_it, q_itt, q_rev, q_callT, q_calli, q_callb, imm_i, imm_b, imm_l, imm_k, imm_s, imm_n, imm_c, rcvB, xs_nil, xs_cons, x_asg, x_asgT, x_par, x_fld, x_ite, x_for, x_ret, x_rai, x_expr, x_pass, x_clr, x_app, x_pop, x_set, s_nx, s_rt, s_exc, lk_nil, lk_end, lk_cons, List.contains_cons, List.contains_nil, sl_L, sl_K, sl_O, sl_V, sl_F, it_V, it_r1, it_r2, it_e, it_z, w_L, w_Lk, w_Ls, w_K, w_Kl, w_O, w_V, w_Vk, w_Vs, w_F, w_Fk, w_Fs, w_Fo, w_Fn, w_it, w_itn, a_asg, a_asgE, a_nx, a_asgT, a_par, a_retO, a_retS, a_retN, a_ret, a_retE, a_app, a_clr, a_set, a_setK, a_expr, a_exprE, a_iteT, a_iteF, a_iteE, a_for, a_forO, a_forN, t_nm, t_tp, fo_shr, fo_lst, fo_dic, fo_no, en_rt, en_nx, en_exc, frz, esc, esc.escs, esc.escb, escI, tgSlots, putL, putS, D.isL, ownV, q_asg, q_asgb, q_asgt, q_asgo, q_asgl, q_nm, q_tp]
    by_cases c : red base v = 0
    · rw [if_pos c] at hj
      right
      simp only [c, e_var, e_con, e_glb, e_bin, e_un, e_and, e_or, e_cmp, e_chn, e_ite, e_lst, e_tup, e_dic0, e_dic, e_comp, e_call, e_bi, e_mth, e_rcv, e_att, e_idx, e_rev, e_slc, e_sort, l_nil, l_cons, i_seq, i_rng, i_rng1, i_enum, i_zip, v_shr, v_own, v_dic, g_some, o_bin, o_un, o_andT, o_andF, o_orT, o_orF, o_bol, o_cmp, o_chn, o_chT, o_chF, o_iteT, o_iteF, o_lst, o_tup, o_dic, o_cons, o_comp, o_endC, o_call, o_cl, o_clE, o_bi, o_mth, o_mth2, o_rcv, o_att, o_idx, o_rev, o_slc, o_sort, o_it, o_rng, o_rng1, o_enum, o_zip, ct_nm, ct_tp, ct_T, ct_F, ct_2, List.map_cons, List.map_nil, List.replicate, List.append_nil, List.cons_append, List.nil_append, Nat.sub_self, List.length_cons, List.length_nil, List.getElem?_cons_zero, List.getElem?_cons_succ, List.set_cons_zero, List.set_cons_succ, cmb, wipeE, if_true, if_false, Bool.not_true, Bool.not_false, Bool.false_eq_true, Bool.true_and, Bool.and_true, Bool.false_or, Bool.or_false, Bool.or_true, Bool.true_or, Bool.and_self, and_self, Bool.false_and, Bool.and_false, Int.reduceLT, Int.reduceLE, Int.reduceNeg, Nat.reduceAdd, Nat.reduceMul, Nat.reduceSub, Nat.reduceBEq, q_add, q_sub, q_mulr, q_mull, q_mod, q_fdiv, q_not, q_neg, q_lt, q_le, q_gt, q_ge, q_eqi, q_nei, q_neb, q_isb, q_t0, q_t1, q_len, q_lent, q_lens, q_list, q_listt, q_tuple, q_is1, q_is2, q_is3, q_is4, q_is5, q_is6, q_it, q_itt, q_rev, q_callT, q_calli, q_callb, imm_i, imm_b, imm_l, imm_k, imm_s, imm_n, imm_c, rcvB, xs_nil, xs_cons, x_asg, x_asgT, x_par, x_fld, x_ite, x_for, x_ret, x_rai, x_expr, x_pass, x_clr, x_app, x_pop, x_set, s_nx, s_rt, s_exc, lk_nil, lk_end, lk_cons, List.contains_cons, List.contains_nil, sl_L, sl_K, sl_O, sl_V, sl_F, it_V, it_r1, it_r2, it_e, it_z, w_L, w_Lk, w_Ls, w_K, w_Kl, w_O, w_V, w_Vk, w_Vs, w_F, w_Fk, w_Fs, w_Fo, w_Fn, w_it, w_itn, a_asg, a_asgE, a_nx, a_asgT, a_par, a_retO, a_retS, a_retN, a_ret, a_retE, a_app, a_clr, a_set, a_setK, a_expr, a_exprE, a_iteT, a_iteF, a_iteE, a_for, a_forO, a_forN, t_nm, t_tp, fo_shr, fo_lst, fo_dic, fo_no, en_rt, en_nx, en_exc, frz, esc, esc.escs, esc.escb, escI, tgSlots, putL, putS, D.isL, ownV, q_asg, q_asgb, q_asgt, q_asgo, q_asgl, q_nm, q_tp]
      exact ⟨_, _, rfl, rfl, rfl, hj⟩
    · rw [if_neg c] at hj
      have c2 : ((red base v : Nat) == (0 : Int)) = false := by simp; omega
      left
      simp only [c2, e_var, e_con, e_glb, e_bin, e_un, e_and, e_or, e_cmp, e_chn, e_ite, e_lst, e_tup, e_dic0, e_dic, e_comp, e_call, e_bi, e_mth, e_rcv, e_att, e_idx, e_rev, e_slc, e_sort, l_nil, l_cons, i_seq, i_rng, i_rng1, i_enum, i_zip, v_shr, v_own, v_dic, g_some, o_bin, o_un, o_andT, o_andF, o_orT, o_orF, o_bol, o_cmp, o_chn, o_chT, o_chF, o_iteT, o_iteF, o_lst, o_tup, o_dic, o_cons, o_comp, o_endC, o_call, o_cl, o_clE, o_bi, o_mth, o_mth2, o_rcv, o_att, o_idx, o_rev, o_slc, o_sort, o_it, o_rng, o_rng1, o_enum, o_zip, ct_nm, ct_tp, ct_T, ct_F, ct_2, List.map_cons, List.map_nil, List.replicate, List.append_nil, List.cons_append, List.nil_append, Nat.sub_self, List.length_cons, List.length_nil, List.getElem?_cons_zero, List.getElem?_cons_succ, List.set_cons_zero, List.set_cons_succ, cmb, wipeE, if_true, if_false, Bool.not_true, Bool.not_false, Bool.false_eq_true, Bool.true_and, Bool.and_true, Bool.false_or, Bool.or_false, Bool.or_true, Bool.true_or, Bool.and_self, and_self, Bool.false_and, Bool.and_false, Int.reduceLT, Int.reduceLE, Int.reduceNeg, Nat.reduceAdd, Nat.reduceMul, Nat.reduceSub, Nat.reduceBEq, q_add, q_sub, q_mulr, q_mull, q_mod, q_fdiv, q_not, q_neg, q_lt, q_le, q_gt, q_ge, q_eqi, q_nei, q_neb, q_isb, q_t0, q_t1, q_len, q_lent, q_lens, q_list, q_listt, q_tuple, q_is1, q_is2, q_is3, q_is4, q_is5, q_is6, q_it, q_itt, q_rev, q_callT, q_calli, q_callb, imm_i, imm_b, imm_l, imm_k, imm_s, imm_n, imm_c, rcvB, xs_nil, xs_cons, x_asg, x_asgT, x_par, x_fld, x_ite, x_for, x_ret, x_rai, x_expr, x_pass, x_clr, x_app, x_pop, x_set, s_nx, s_rt, s_exc, lk_nil, lk_end, lk_cons, List.contains_cons, List.contains_nil, sl_L, sl_K, sl_O, sl_V, sl_F, it_V, it_r1, it_r2, it_e, it_z, w_L, w_Lk, w_Ls, w_K, w_Kl, w_O, w_V, w_Vk, w_Vs, w_F, w_Fk, w_Fs, w_Fo, w_Fn, w_it, w_itn, a_asg, a_asgE, a_nx, a_asgT, a_par, a_retO, a_retS, a_retN, a_ret, a_retE, a_app, a_clr, a_set, a_setK, a_expr, a_exprE, a_iteT, a_iteF, a_iteE, a_for, a_forO, a_forN, t_nm, t_tp, fo_shr, fo_lst, fo_dic, fo_no, en_rt, en_nx, en_exc, frz, esc, esc.escs, esc.escb, escI, tgSlots, putL, putS, D.isL, ownV, q_asg, q_asgb, q_asgt, q_asgo, q_asgl, q_nm, q_tp]
      rw [q_app (by rw [natD_len, show lim = 1000000 from rfl]; omega)]
      exact ⟨_, rfl, base ++ [red base v], _, _, _, by simp [hb], hj, by rw [natD_app]; rfl⟩) with ⟨E', rfl, base, s3, s4, s5, hb, hj, rfl⟩ | ⟨d, m, rfl, rfl, rfl, hj⟩
  · rw [hj]
    simp only [e_var, e_con, e_glb, e_bin, e_un, e_and, e_or, e_cmp, e_chn, e_ite, e_lst, e_tup, e_dic0, e_dic, e_comp, e_call, e_bi, e_mth, e_rcv, e_att, e_idx, e_rev, e_slc, e_sort, l_nil, l_cons, i_seq, i_rng, i_rng1, i_enum, i_zip, v_shr, v_own, v_dic, g_some, o_bin, o_un, o_andT, o_andF, o_orT, o_orF, o_bol, o_cmp, o_chn, o_chT, o_chF, o_iteT, o_iteF, o_lst, o_tup, o_dic, o_cons, o_comp, o_endC, o_call, o_cl, o_clE, o_bi, o_mth, o_mth2, o_rcv, o_att, o_idx, o_rev, o_slc, o_sort, o_it, o_rng, o_rng1, o_enum, o_zip, ct_nm, ct_tp, ct_T, ct_F, ct_2, List.map_cons, List.map_nil, List.replicate, List.append_nil, List.cons_append, List.nil_append, Nat.sub_self, List.length_cons, List.length_nil, List.getElem?_cons_zero, List.getElem?_cons_succ, List.set_cons_zero, List.set_cons_succ, cmb, wipeE, if_true, if_false, Bool.not_true, Bool.not_false, Bool.false_eq_true, Bool.true_and, Bool.and_true, Bool.false_or, Bool.or_false, Bool.or_true, Bool.true_or, Bool.and_self, and_self, Bool.false_and, Bool.and_false, Int.reduceLT, Int.reduceLE, Int.reduceNeg, Nat.reduceAdd, Nat.reduceMul, Nat.reduceSub, Nat.reduceBEq, q_add, q_sub, q_mulr, q_mull, q_mod, q_fdiv, q_not, q_neg, q_lt, q_le, q_gt, q_ge, q_eqi, q_nei, q_neb, q_isb, q_t0, q_t1, q_len, q_lent, q_lens, q_list, q_listt, q_tuple, q_is1, q_is2, q_is3, q_is4, q_is5, q_is6, q_it, q_itt, q_rev, q_callT, q_calli, q_callb, imm_i, imm_b, imm_l, imm_k, imm_s, imm_n, imm_c, rcvB, xs_nil, xs_cons, x_asg, x_asgT, x_par, x_fld, x_ite, x_for, x_ret, x_rai, x_expr, x_pass, x_clr, x_app, x_pop, x_set, s_nx, s_rt, s_exc, lk_nil, lk_end, lk_cons, List.contains_cons, List.contains_nil, sl_L, sl_K, sl_O, sl_V, sl_F, it_V, it_r1, it_r2, it_e, it_z, w_L, w_Lk, w_Ls, w_K, w_Kl, w_O, w_V, w_Vk, w_Vs, w_F, w_Fk, w_Fs, w_Fo, w_Fn, w_it, w_itn, a_asg, a_asgE, a_nx, a_asgT, a_par, a_retO, a_retS, a_retN, a_ret, a_retE, a_app, a_clr, a_set, a_setK, a_expr, a_exprE, a_iteT, a_iteF, a_iteE, a_for, a_forO, a_forN, t_nm, t_tp, fo_shr, fo_lst, fo_dic, fo_no, en_rt, en_nx, en_exc, frz, esc, esc.escs, esc.escb, escI, tgSlots, putL, putS, D.isL, ownV, q_asg, q_asgb, q_asgt, q_asgo, q_asgl, q_nm, q_tp]
    rfl
  · rw [hj]
    simp only [e_var, e_con, e_glb, e_bin, e_un, e_and, e_or, e_cmp, e_chn, e_ite, e_lst, e_tup, e_dic0, e_dic, e_comp, e_call, e_bi, e_mth, e_rcv, e_att, e_idx, e_rev, e_slc, e_sort, l_nil, l_cons, i_seq, i_rng, i_rng1, i_enum, i_zip, v_shr, v_own, v_dic, g_some, o_bin, o_un, o_andT, o_andF, o_orT, o_orF, o_bol, o_cmp, o_chn, o_chT, o_chF, o_iteT, o_iteF, o_lst, o_tup, o_dic, o_cons, o_comp, o_endC, o_call, o_cl, o_clE, o_bi, o_mth, o_mth2, o_rcv, o_att, o_idx, o_rev, o_slc, o_sort, o_it, o_rng, o_rng1, o_enum, o_zip, ct_nm, ct_tp, ct_T, ct_F, ct_2, List.map_cons, List.map_nil, List.replicate, List.append_nil, List.cons_append, List.nil_append, Nat.sub_self, List.length_cons, List.length_nil, List.getElem?_cons_zero, List.getElem?_cons_succ, List.set_cons_zero, List.set_cons_succ, cmb, wipeE, if_true, if_false, Bool.not_true, Bool.not_false, Bool.false_eq_true, Bool.true_and, Bool.and_true, Bool.false_or, Bool.or_false, Bool.or_true, Bool.true_or, Bool.and_self, and_self, Bool.false_and, Bool.and_false, Int.reduceLT, Int.reduceLE, Int.reduceNeg, Nat.reduceAdd, Nat.reduceMul, Nat.reduceSub, Nat.reduceBEq, q_add, q_sub, q_mulr, q_mull, q_mod, q_fdiv, q_not, q_neg, q_lt, q_le, q_gt, q_ge, q_eqi, q_nei, q_neb, q_isb, q_t0, q_t1, q_len, q_lent, q_lens, q_list, q_listt, q_tuple, q_is1, q_is2, q_is3, q_is4, q_is5, q_is6, q_it, q_itt, q_rev, q_callT, q_calli, q_callb, imm_i, imm_b, imm_l, imm_k, imm_s, imm_n, imm_c, rcvB, xs_nil, xs_cons, x_asg, x_asgT, x_par, x_fld, x_ite, x_for, x_ret, x_rai, x_expr, x_pass, x_clr, x_app, x_pop, x_set, s_nx, s_rt, s_exc, lk_nil, lk_end, lk_cons, List.contains_cons, List.contains_nil, sl_L, sl_K, sl_O, sl_V, sl_F, it_V, it_r1, it_r2, it_e, it_z, w_L, w_Lk, w_Ls, w_K, w_Kl, w_O, w_V, w_Vk, w_Vs, w_F, w_Fk, w_Fs, w_Fo, w_Fn, w_it, w_itn, a_asg, a_asgE, a_nx, a_asgT, a_par, a_retO, a_retS, a_retN, a_ret, a_retE, a_app, a_clr, a_set, a_setK, a_expr, a_exprE, a_iteT, a_iteF, a_iteE, a_for, a_forO, a_forN, t_nm, t_tp, fo_shr, fo_lst, fo_dic, fo_no, en_rt, en_nx, en_exc, frz, esc, esc.escs, esc.escb, escI, tgSlots, putL, putS, D.isL, ownV, q_asg, q_asgb, q_asgt, q_asgo, q_asgl, q_nm, q_tp]
end Bit
theorem r_bits {T : Tb} {W n : Nat} (hT : T.fn (.fn "_law_bits") = some P.f_law_bits) (rows : List Nat) (hl : rows.length ≤ 16) : run T W (n + 1) (.fn "_law_bits") [.lst (natD rows)] = .ok (.bl (sumsF [0] rows), true) := by
  rw [run_fn hT rfl]
  simp only [P.f_law_bits, startE, e_var, e_con, e_glb, e_bin, e_un, e_and, e_or, e_cmp, e_chn, e_ite, e_lst, e_tup, e_dic0, e_dic, e_comp, e_call, e_bi, e_mth, e_rcv, e_att, e_idx, e_rev, e_slc, e_sort, l_nil, l_cons, i_seq, i_rng, i_rng1, i_enum, i_zip, v_shr, v_own, v_dic, g_some, o_bin, o_un, o_andT, o_andF, o_orT, o_orF, o_bol, o_cmp, o_chn, o_chT, o_chF, o_iteT, o_iteF, o_lst, o_tup, o_dic, o_cons, o_comp, o_endC, o_call, o_cl, o_clE, o_bi, o_mth, o_mth2, o_rcv, o_att, o_idx, o_rev, o_slc, o_sort, o_it, o_rng, o_rng1, o_enum, o_zip, ct_nm, ct_tp, ct_T, ct_F, ct_2, List.map_cons, List.map_nil, List.replicate, List.append_nil, List.cons_append, List.nil_append, Nat.sub_self, List.length_cons, List.length_nil, List.getElem?_cons_zero, List.getElem?_cons_succ, List.set_cons_zero, List.set_cons_succ, cmb, wipeE, if_true, if_false, Bool.not_true, Bool.not_false, Bool.false_eq_true, Bool.true_and, Bool.and_true, Bool.false_or, Bool.or_false, Bool.or_true, Bool.true_or, Bool.and_self, and_self, Bool.false_and, Bool.and_false, Int.reduceLT, Int.reduceLE, Int.reduceNeg, Nat.reduceAdd, Nat.reduceMul, Nat.reduceSub, Nat.reduceBEq, q_add, q_sub, q_mulr, q_mull, q_mod, q_fdiv, q_not, q_neg, q_lt, q_le, q_gt, q_ge, q_eqi, q_nei, q_neb, q_isb, q_t0, q_t1, q_len, q_lent, q_lens, q_list, q_listt, q_tuple, q_is1, q_is2, q_is3, q_is4, q_is5, q_is6, q_it, q_itt, q_rev, q_callT, q_calli, q_callb, imm_i, imm_b, imm_l, imm_k, imm_s, imm_n, imm_c, rcvB, xs_nil, xs_cons, x_asg, x_asgT, x_par, x_fld, x_ite, x_for, x_ret, x_rai, x_expr, x_pass, x_clr, x_app, x_pop, x_set, s_nx, s_rt, s_exc, lk_nil, lk_end, lk_cons, List.contains_cons, List.contains_nil, sl_L, sl_K, sl_O, sl_V, sl_F, it_V, it_r1, it_r2, it_e, it_z, w_L, w_Lk, w_Ls, w_K, w_Kl, w_O, w_V, w_Vk, w_Vs, w_F, w_Fk, w_Fs, w_Fo, w_Fn, w_it, w_itn, a_asg, a_asgE, a_nx, a_asgT, a_par, a_retO, a_retS, a_retN, a_ret, a_retE, a_app, a_clr, a_set, a_setK, a_expr, a_exprE, a_iteT, a_iteF, a_iteE, a_for, a_forO, a_forN, t_nm, t_tp, fo_shr, fo_lst, fo_dic, fo_no, en_rt, en_nx, en_exc, frz, esc, esc.escs, esc.escb, escI, tgSlots, putL, putS, D.isL, ownV, q_asg, q_asgb, q_asgt, q_asgo, q_asgl, q_nm, q_tp]
  generalize hz : loopV _ _ _ _ _ _ _ _ _ = z
  rcases loop_rt (xs := rows) (g := fun k : Nat => .int (k : Int)) hz rfl (fun pre r E => ∃ sums s2 s3 s4, sums.length = 2 ^ pre.length ∧ sumsF [0] rows = sumsF sums r ∧ E = [some (.shr (.lst (natD rows)) false), some (.own (.lst (natD sums)) true), s2, s3, s4]) (fun d m => d = .bl false ∧ m = true ∧ sumsF [0] rows = false) ⟨[0], none, none, none, rfl, rfl, rfl⟩ (by
    rintro pre r rs E he ⟨sums, s2, s3, s4, hln, hj, rfl⟩
    have h16 : sums.length ≤ 65536 := by
      rw [hln, show 65536 = 2 ^ 16 from rfl]
      refine Nat.pow_le_pow_right (by decide) ?_
      rw [← he] at hl
      simp at hl
      omega
    simp only [e_var, e_con, e_glb, e_bin, e_un, e_and, e_or, e_cmp, e_chn, e_ite, e_lst, e_tup, e_dic0, e_dic, e_comp, e_call, e_bi, e_mth, e_rcv, e_att, e_idx, e_rev, e_slc, e_sort, l_nil, l_cons, i_seq, i_rng, i_rng1, i_enum, i_zip, v_shr, v_own, v_dic, g_some, o_bin, o_un, o_andT, o_andF, o_orT, o_orF, o_bol, o_cmp, o_chn, o_chT, o_chF, o_iteT, o_iteF, o_lst, o_tup, o_dic, o_cons, o_comp, o_endC, o_call, o_cl, o_clE, o_bi, o_mth, o_mth2, o_rcv, o_att, o_idx, o_rev, o_slc, o_sort, o_it, o_rng, o_rng1, o_enum, o_zip, ct_nm, ct_tp, ct_T, ct_F, ct_2, List.map_cons, List.map_nil, List.replicate, List.append_nil, List.cons_append, List.nil_append, Nat.sub_self, List.length_cons, List.length_nil, List.getElem?_cons_zero, List.getElem?_cons_succ, List.set_cons_zero, List.set_cons_succ, cmb, wipeE, if_true, if_false, Bool.not_true, Bool.not_false, Bool.false_eq_true, Bool.true_and, Bool.and_true, Bool.false_or, Bool.or_false, Bool.or_true, Bool.true_or, Bool.and_self, and_self, Bool.false_and, Bool.and_false, Int.reduceLT, Int.reduceLE, Int.reduceNeg, Nat.reduceAdd, Nat.reduceMul, Nat.reduceSub, Nat.reduceBEq, q_add, q_sub, q_mulr, q_mull, q_mod, q_fdiv, q_not, q_neg, q_lt, q_le, q_gt, q_ge, q_eqi, q_nei, q_neb, q_isb, q_t0, q_t1, q_len, q_lent, q_lens, q_list, q_listt, q_tuple, q_is1, q_is2, q_is3, q_is4, q_is5, q_is6, q_it, q_itt, q_rev, q_callT, q_calli, q_callb, imm_i, imm_b, imm_l, imm_k, imm_s, imm_n, imm_c, rcvB, xs_nil, xs_cons, x_asg, x_asgT, x_par, x_fld, x_ite, x_for, x_ret, x_rai, x_expr, x_pass, x_clr, x_app, x_pop, x_set, s_nx, s_rt, s_exc, lk_nil, lk_end, lk_cons, List.contains_cons, List.contains_nil, sl_L, sl_K, sl_O, sl_V, sl_F, it_V, it_r1, it_r2, it_e, it_z, w_L, w_Lk, w_Ls, w_K, w_Kl, w_O, w_V, w_Vk, w_Vs, w_F, w_Fk, w_Fs, w_Fo, w_Fn, w_it, w_itn, a_asg, a_asgE, a_nx, a_asgT, a_par, a_retO, a_retS, a_retN, a_ret, a_retE, a_app, a_clr, a_set, a_setK, a_expr, a_exprE, a_iteT, a_iteF, a_iteE, a_for, a_forO, a_forN, t_nm, t_tp, fo_shr, fo_lst, fo_dic, fo_no, en_rt, en_nx, en_exc, frz, esc, esc.escs, esc.escb, escI, tgSlots, putL, putS, D.isL, ownV, q_asg, q_asgb, q_asgt, q_asgo, q_asgl, q_nm, q_tp]
    rw [compL_nat (f := fun k : Nat => .int ((k ^^^ r : Nat) : Int)) (fun x _ => by simp only [e_var, e_con, e_glb, e_bin, e_un, e_and, e_or, e_cmp, e_chn, e_ite, e_lst, e_tup, e_dic0, e_dic, e_comp, e_call, e_bi, e_mth, e_rcv, e_att, e_idx, e_rev, e_slc, e_sort, l_nil, l_cons, i_seq, i_rng, i_rng1, i_enum, i_zip, v_shr, v_own, v_dic, g_some, o_bin, o_un, o_andT, o_andF, o_orT, o_orF, o_bol, o_cmp, o_chn, o_chT, o_chF, o_iteT, o_iteF, o_lst, o_tup, o_dic, o_cons, o_comp, o_endC, o_call, o_cl, o_clE, o_bi, o_mth, o_mth2, o_rcv, o_att, o_idx, o_rev, o_slc, o_sort, o_it, o_rng, o_rng1, o_enum, o_zip, ct_nm, ct_tp, ct_T, ct_F, ct_2, List.map_cons, List.map_nil, List.replicate, List.append_nil, List.cons_append, List.nil_append, Nat.sub_self, List.length_cons, List.length_nil, List.getElem?_cons_zero, List.getElem?_cons_succ, List.set_cons_zero, List.set_cons_succ, cmb, wipeE, if_true, if_false, Bool.not_true, Bool.not_false, Bool.false_eq_true, Bool.true_and, Bool.and_true, Bool.false_or, Bool.or_false, Bool.or_true, Bool.true_or, Bool.and_self, and_self, Bool.false_and, Bool.and_false, Int.reduceLT, Int.reduceLE, Int.reduceNeg, Nat.reduceAdd, Nat.reduceMul, Nat.reduceSub, Nat.reduceBEq, q_add, q_sub, q_mulr, q_mull, q_mod, q_fdiv, q_not, q_neg, q_lt, q_le, q_gt, q_ge, q_eqi, q_nei, q_neb, q_isb, q_t0, q_t1, q_len, q_lent, q_lens, q_list, q_listt, q_tuple, q_is1, q_is2, q_is3, q_is4, q_is5, q_is6, q_it, q_itt, q_rev, q_callT, q_calli, q_callb, imm_i, imm_b, imm_l, imm_k, imm_s, imm_n, imm_c, rcvB, q_xor]), map_natD]
    have hin : cmpV .In (.int 0) (.lst (natD (sums.map (· ^^^ r)))) = .ok (decide (0 ∈ sums.map (· ^^^ r))) := q_inN (v := 0)
    rw [sumsF_cons] at hj
    simp only [e_var, e_con, e_glb, e_bin, e_un, e_and, e_or, e_cmp, e_chn, e_ite, e_lst, e_tup, e_dic0, e_dic, e_comp, e_call, e_bi, e_mth, e_rcv, e_att, e_idx, e_rev, e_slc, e_sort, l_nil, l_cons, i_seq, i_rng, i_rng1, i_enum, i_zip, v_shr, v_own, v_dic, g_some, o_bin, o_un, o_andT, o_andF, o_orT, o_orF, o_bol, o_cmp, o_chn, o_chT, o_chF, o_iteT, o_iteF, o_lst, o_tup, o_dic, o_cons, o_comp, o_endC, o_call, o_cl, o_clE, o_bi, o_mth, o_mth2, o_rcv, o_att, o_idx, o_rev, o_slc, o_sort, o_it, o_rng, o_rng1, o_enum, o_zip, ct_nm, ct_tp, ct_T, ct_F, ct_2, List.map_cons, List.map_nil, List.replicate, List.append_nil, List.cons_append, List.nil_append, Nat.sub_self, List.length_cons, List.length_nil, List.getElem?_cons_zero, List.getElem?_cons_succ, List.set_cons_zero, List.set_cons_succ, cmb, wipeE, if_true, if_false, Bool.not_true, Bool.not_false, Bool.false_eq_true, Bool.true_and, Bool.and_true, Bool.false_or, Bool.or_false, Bool.or_true, Bool.true_or, Bool.and_self, and_self, Bool.false_and, Bool.and_false, Int.reduceLT, Int.reduceLE, Int.reduceNeg, Nat.reduceAdd, Nat.reduceMul, Nat.reduceSub, Nat.reduceBEq, q_add, q_sub, q_mulr, q_mull, q_mod, q_fdiv, q_not, q_neg, q_lt, q_le, q_gt, q_ge, q_eqi, q_nei, q_neb, q_isb, q_t0, q_t1, q_len, q_lent, q_lens, q_list, q_listt, q_tuple, q_is1, q_is2, q_is3, q_is4, q_is5, q_is6, q_it, q_itt, q_rev, q_callT, q_calli, q_callb, imm_i, imm_b, imm_l, imm_k, imm_s, imm_n, imm_c, rcvB, xs_nil, xs_cons, x_asg, x_asgT, x_par, x_fld, x_ite, x_for, x_ret, x_rai, x_expr, x_pass, x_clr, x_app, x_pop, x_set, s_nx, s_rt, s_exc, lk_nil, lk_end, lk_cons, List.contains_cons, List.contains_nil, sl_L, sl_K, sl_O, sl_V, sl_F, it_V, it_r1, it_r2, it_e, it_z, w_L, w_Lk, w_Ls, w_K, w_Kl, w_O, w_V, w_Vk, w_Vs, w_F, w_Fk, w_Fs, w_Fo, w_Fn, w_it, w_itn, a_asg, a_asgE, a_nx, a_asgT, a_par, a_retO, a_retS, a_retN, a_ret, a_retE, a_app, a_clr, a_set, a_setK, a_expr, a_exprE, a_iteT, a_iteF, a_iteE, a_for, a_forO, a_forN, t_nm, t_tp, fo_shr, fo_lst, fo_dic, fo_no, en_rt, en_nx, en_exc, frz, esc, esc.escs, esc.escb, escI, tgSlots, putL, putS, D.isL, ownV, q_asg, q_asgb, q_asgt, q_asgo, q_asgl, q_nm, q_tp, natD_imm, hin]
    by_cases c : 0 ∈ sums.map (· ^^^ r)
    · rw [if_pos c] at hj
      right
      simp only [c, decide_true, e_var, e_con, e_glb, e_bin, e_un, e_and, e_or, e_cmp, e_chn, e_ite, e_lst, e_tup, e_dic0, e_dic, e_comp, e_call, e_bi, e_mth, e_rcv, e_att, e_idx, e_rev, e_slc, e_sort, l_nil, l_cons, i_seq, i_rng, i_rng1, i_enum, i_zip, v_shr, v_own, v_dic, g_some, o_bin, o_un, o_andT, o_andF, o_orT, o_orF, o_bol, o_cmp, o_chn, o_chT, o_chF, o_iteT, o_iteF, o_lst, o_tup, o_dic, o_cons, o_comp, o_endC, o_call, o_cl, o_clE, o_bi, o_mth, o_mth2, o_rcv, o_att, o_idx, o_rev, o_slc, o_sort, o_it, o_rng, o_rng1, o_enum, o_zip, ct_nm, ct_tp, ct_T, ct_F, ct_2, List.map_cons, List.map_nil, List.replicate, List.append_nil, List.cons_append, List.nil_append, Nat.sub_self, List.length_cons, List.length_nil, List.getElem?_cons_zero, List.getElem?_cons_succ, List.set_cons_zero, List.set_cons_succ, cmb, wipeE, if_true, if_false, Bool.not_true, Bool.not_false, Bool.false_eq_true, Bool.true_and, Bool.and_true, Bool.false_or, Bool.or_false, Bool.or_true, Bool.true_or, Bool.and_self, and_self, Bool.false_and, Bool.and_false, Int.reduceLT, Int.reduceLE, Int.reduceNeg, Nat.reduceAdd, Nat.reduceMul, Nat.reduceSub, Nat.reduceBEq, q_add, q_sub, q_mulr, q_mull, q_mod, q_fdiv, q_not, q_neg, q_lt, q_le, q_gt, q_ge, q_eqi, q_nei, q_neb, q_isb, q_t0, q_t1, q_len, q_lent, q_lens, q_list, q_listt, q_tuple, q_is1, q_is2, q_is3, q_is4, q_is5, q_is6, q_it, q_itt, q_rev, q_callT, q_calli, q_callb, imm_i, imm_b, imm_l, imm_k, imm_s, imm_n, imm_c, rcvB, xs_nil, xs_cons, x_asg, x_asgT, x_par, x_fld, x_ite, x_for, x_ret, x_rai, x_expr, x_pass, x_clr, x_app, x_pop, x_set, s_nx, s_rt, s_exc, lk_nil, lk_end, lk_cons, List.contains_cons, List.contains_nil, sl_L, sl_K, sl_O, sl_V, sl_F, it_V, it_r1, it_r2, it_e, it_z, w_L, w_Lk, w_Ls, w_K, w_Kl, w_O, w_V, w_Vk, w_Vs, w_F, w_Fk, w_Fs, w_Fo, w_Fn, w_it, w_itn, a_asg, a_asgE, a_nx, a_asgT, a_par, a_retO, a_retS, a_retN, a_ret, a_retE, a_app, a_clr, a_set, a_setK, a_expr, a_exprE, a_iteT, a_iteF, a_iteE, a_for, a_forO, a_forN, t_nm, t_tp, fo_shr, fo_lst, fo_dic, fo_no, en_rt, en_nx, en_exc, frz, esc, esc.escs, esc.escb, escI, tgSlots, putL, putS, D.isL, ownV, q_asg, q_asgb, q_asgt, q_asgo, q_asgl, q_nm, q_tp]
      exact ⟨_, _, rfl, rfl, rfl, hj⟩
    · rw [if_neg c] at hj
      left
      simp only [c, decide_false, e_var, e_con, e_glb, e_bin, e_un, e_and, e_or, e_cmp, e_chn, e_ite, e_lst, e_tup, e_dic0, e_dic, e_comp, e_call, e_bi, e_mth, e_rcv, e_att, e_idx, e_rev, e_slc, e_sort, l_nil, l_cons, i_seq, i_rng, i_rng1, i_enum, i_zip, v_shr, v_own, v_dic, g_some, o_bin, o_un, o_andT, o_andF, o_orT, o_orF, o_bol, o_cmp, o_chn, o_chT, o_chF, o_iteT, o_iteF, o_lst, o_tup, o_dic, o_cons, o_comp, o_endC, o_call, o_cl, o_clE, o_bi, o_mth, o_mth2, o_rcv, o_att, o_idx, o_rev, o_slc, o_sort, o_it, o_rng, o_rng1, o_enum, o_zip, ct_nm, ct_tp, ct_T, ct_F, ct_2, List.map_cons, List.map_nil, List.replicate, List.append_nil, List.cons_append, List.nil_append, Nat.sub_self, List.length_cons, List.length_nil, List.getElem?_cons_zero, List.getElem?_cons_succ, List.set_cons_zero, List.set_cons_succ, cmb, wipeE, if_true, if_false, Bool.not_true, Bool.not_false, Bool.false_eq_true, Bool.true_and, Bool.and_true, Bool.false_or, Bool.or_false, Bool.or_true, Bool.true_or, Bool.and_self, and_self, Bool.false_and, Bool.and_false, Int.reduceLT, Int.reduceLE, Int.reduceNeg, Nat.reduceAdd, Nat.reduceMul, Nat.reduceSub, Nat.reduceBEq, q_add, q_sub, q_mulr, q_mull, q_mod, q_fdiv, q_not, q_neg, q_lt, q_le, q_gt, q_ge, q_eqi, q_nei, q_neb, q_isb, q_t0, q_t1, q_len, q_lent, q_lens, q_list, q_listt, q_tuple, q_is1, q_is2, q_is3, q_is4, q_is5, q_is6, q_it, q_itt, q_rev, q_callT, q_calli, q_callb, imm_i, imm_b, imm_l, imm_k, imm_s, imm_n, imm_c, rcvB, xs_nil, xs_cons, x_asg, x_asgT, x_par, x_fld, x_ite, x_for, x_ret, x_rai, x_expr, x_pass, x_clr, x_app, x_pop, x_set, s_nx, s_rt, s_exc, lk_nil, lk_end, lk_cons, List.contains_cons, List.contains_nil, sl_L, sl_K, sl_O, sl_V, sl_F, it_V, it_r1, it_r2, it_e, it_z, w_L, w_Lk, w_Ls, w_K, w_Kl, w_O, w_V, w_Vk, w_Vs, w_F, w_Fk, w_Fs, w_Fo, w_Fn, w_it, w_itn, a_asg, a_asgE, a_nx, a_asgT, a_par, a_retO, a_retS, a_retN, a_ret, a_retE, a_app, a_clr, a_set, a_setK, a_expr, a_exprE, a_iteT, a_iteF, a_iteE, a_for, a_forO, a_forN, t_nm, t_tp, fo_shr, fo_lst, fo_dic, fo_no, en_rt, en_nx, en_exc, frz, esc, esc.escs, esc.escb, escI, tgSlots, putL, putS, D.isL, ownV, q_asg, q_asgb, q_asgt, q_asgo, q_asgl, q_nm, q_tp]
      rw [q_cat (by simp only [natD_len, List.length_map]; rw [show lim = 1000000 from rfl]; omega)]
      simp only [e_var, e_con, e_glb, e_bin, e_un, e_and, e_or, e_cmp, e_chn, e_ite, e_lst, e_tup, e_dic0, e_dic, e_comp, e_call, e_bi, e_mth, e_rcv, e_att, e_idx, e_rev, e_slc, e_sort, l_nil, l_cons, i_seq, i_rng, i_rng1, i_enum, i_zip, v_shr, v_own, v_dic, g_some, o_bin, o_un, o_andT, o_andF, o_orT, o_orF, o_bol, o_cmp, o_chn, o_chT, o_chF, o_iteT, o_iteF, o_lst, o_tup, o_dic, o_cons, o_comp, o_endC, o_call, o_cl, o_clE, o_bi, o_mth, o_mth2, o_rcv, o_att, o_idx, o_rev, o_slc, o_sort, o_it, o_rng, o_rng1, o_enum, o_zip, ct_nm, ct_tp, ct_T, ct_F, ct_2, List.map_cons, List.map_nil, List.replicate, List.append_nil, List.cons_append, List.nil_append, Nat.sub_self, List.length_cons, List.length_nil, List.getElem?_cons_zero, List.getElem?_cons_succ, List.set_cons_zero, List.set_cons_succ, cmb, wipeE, if_true, if_false, Bool.not_true, Bool.not_false, Bool.false_eq_true, Bool.true_and, Bool.and_true, Bool.false_or, Bool.or_false, Bool.or_true, Bool.true_or, Bool.and_self, and_self, Bool.false_and, Bool.and_false, Int.reduceLT, Int.reduceLE, Int.reduceNeg, Nat.reduceAdd, Nat.reduceMul, Nat.reduceSub, Nat.reduceBEq, q_add, q_sub, q_mulr, q_mull, q_mod, q_fdiv, q_not, q_neg, q_lt, q_le, q_gt, q_ge, q_eqi, q_nei, q_neb, q_isb, q_t0, q_t1, q_len, q_lent, q_lens, q_list, q_listt, q_tuple, q_is1, q_is2, q_is3, q_is4, q_is5, q_is6, q_it, q_itt, q_rev, q_callT, q_calli, q_callb, imm_i, imm_b, imm_l, imm_k, imm_s, imm_n, imm_c, rcvB, xs_nil, xs_cons, x_asg, x_asgT, x_par, x_fld, x_ite, x_for, x_ret, x_rai, x_expr, x_pass, x_clr, x_app, x_pop, x_set, s_nx, s_rt, s_exc, lk_nil, lk_end, lk_cons, List.contains_cons, List.contains_nil, sl_L, sl_K, sl_O, sl_V, sl_F, it_V, it_r1, it_r2, it_e, it_z, w_L, w_Lk, w_Ls, w_K, w_Kl, w_O, w_V, w_Vk, w_Vs, w_F, w_Fk, w_Fs, w_Fo, w_Fn, w_it, w_itn, a_asg, a_asgE, a_nx, a_asgT, a_par, a_retO, a_retS, a_retN, a_ret, a_retE, a_app, a_clr, a_set, a_setK, a_expr, a_exprE, a_iteT, a_iteF, a_iteE, a_for, a_forO, a_forN, t_nm, t_tp, fo_shr, fo_lst, fo_dic, fo_no, en_rt, en_nx, en_exc, frz, esc, esc.escs, esc.escb, escI, tgSlots, putL, putS, D.isL, ownV, q_asg, q_asgb, q_asgt, q_asgo, q_asgl, q_nm, q_tp]
      exact ⟨_, rfl, sums ++ sums.map (· ^^^ r), _, _, _, by rw [List.length_append, List.length_map, List.length_append, hln, List.length_singleton, Nat.pow_succ]; omega, hj, by rw [natD_app]⟩) with ⟨E', rfl, sums, s2, s3, s4, _, hj, rfl⟩ | ⟨d, m, rfl, rfl, rfl, hj⟩
  · rw [hj]
    simp only [e_var, e_con, e_glb, e_bin, e_un, e_and, e_or, e_cmp, e_chn, e_ite, e_lst, e_tup, e_dic0, e_dic, e_comp, e_call, e_bi, e_mth, e_rcv, e_att, e_idx, e_rev, e_slc, e_sort, l_nil, l_cons, i_seq, i_rng, i_rng1, i_enum, i_zip, v_shr, v_own, v_dic, g_some, o_bin, o_un, o_andT, o_andF, o_orT, o_orF, o_bol, o_cmp, o_chn, o_chT, o_chF, o_iteT, o_iteF, o_lst, o_tup, o_dic, o_cons, o_comp, o_endC, o_call, o_cl, o_clE, o_bi, o_mth, o_mth2, o_rcv, o_att, o_idx, o_rev, o_slc, o_sort, o_it, o_rng, o_rng1, o_enum, o_zip, ct_nm, ct_tp, ct_T, ct_F, ct_2, List.map_cons, List.map_nil, List.replicate, List.append_nil, List.cons_append, List.nil_append, Nat.sub_self, List.length_cons, List.length_nil, List.getElem?_cons_zero, List.getElem?_cons_succ, List.set_cons_zero, List.set_cons_succ, cmb, wipeE, if_true, if_false, Bool.not_true, Bool.not_false, Bool.false_eq_true, Bool.true_and, Bool.and_true, Bool.false_or, Bool.or_false, Bool.or_true, Bool.true_or, Bool.and_self, and_self, Bool.false_and, Bool.and_false, Int.reduceLT, Int.reduceLE, Int.reduceNeg, Nat.reduceAdd, Nat.reduceMul, Nat.reduceSub, Nat.reduceBEq, q_add, q_sub, q_mulr, q_mull, q_mod, q_fdiv, q_not, q_neg, q_lt, q_le, q_gt, q_ge, q_eqi, q_nei, q_neb, q_isb, q_t0, q_t1, q_len, q_lent, q_lens, q_list, q_listt, q_tuple, q_is1, q_is2, q_is3, q_is4, q_is5, q_is6, q_it, q_itt, q_rev, q_callT, q_calli, q_callb, imm_i, imm_b, imm_l, imm_k, imm_s, imm_n, imm_c, rcvB, xs_nil, xs_cons, x_asg, x_asgT, x_par, x_fld, x_ite, x_for, x_ret, x_rai, x_expr, x_pass, x_clr, x_app, x_pop, x_set, s_nx, s_rt, s_exc, lk_nil, lk_end, lk_cons, List.contains_cons, List.contains_nil, sl_L, sl_K, sl_O, sl_V, sl_F, it_V, it_r1, it_r2, it_e, it_z, w_L, w_Lk, w_Ls, w_K, w_Kl, w_O, w_V, w_Vk, w_Vs, w_F, w_Fk, w_Fs, w_Fo, w_Fn, w_it, w_itn, a_asg, a_asgE, a_nx, a_asgT, a_par, a_retO, a_retS, a_retN, a_ret, a_retE, a_app, a_clr, a_set, a_setK, a_expr, a_exprE, a_iteT, a_iteF, a_iteE, a_for, a_forO, a_forN, t_nm, t_tp, fo_shr, fo_lst, fo_dic, fo_no, en_rt, en_nx, en_exc, frz, esc, esc.escs, esc.escb, escI, tgSlots, putL, putS, D.isL, ownV, q_asg, q_asgb, q_asgt, q_asgo, q_asgl, q_nm, q_tp]
    rfl
  · rw [hj]
    simp only [e_var, e_con, e_glb, e_bin, e_un, e_and, e_or, e_cmp, e_chn, e_ite, e_lst, e_tup, e_dic0, e_dic, e_comp, e_call, e_bi, e_mth, e_rcv, e_att, e_idx, e_rev, e_slc, e_sort, l_nil, l_cons, i_seq, i_rng, i_rng1, i_enum, i_zip, v_shr, v_own, v_dic, g_some, o_bin, o_un, o_andT, o_andF, o_orT, o_orF, o_bol, o_cmp, o_chn, o_chT, o_chF, o_iteT, o_iteF, o_lst, o_tup, o_dic, o_cons, o_comp, o_endC, o_call, o_cl, o_clE, o_bi, o_mth, o_mth2, o_rcv, o_att, o_idx, o_rev, o_slc, o_sort, o_it, o_rng, o_rng1, o_enum, o_zip, ct_nm, ct_tp, ct_T, ct_F, ct_2, List.map_cons, List.map_nil, List.replicate, List.append_nil, List.cons_append, List.nil_append, Nat.sub_self, List.length_cons, List.length_nil, List.getElem?_cons_zero, List.getElem?_cons_succ, List.set_cons_zero, List.set_cons_succ, cmb, wipeE, if_true, if_false, Bool.not_true, Bool.not_false, Bool.false_eq_true, Bool.true_and, Bool.and_true, Bool.false_or, Bool.or_false, Bool.or_true, Bool.true_or, Bool.and_self, and_self, Bool.false_and, Bool.and_false, Int.reduceLT, Int.reduceLE, Int.reduceNeg, Nat.reduceAdd, Nat.reduceMul, Nat.reduceSub, Nat.reduceBEq, q_add, q_sub, q_mulr, q_mull, q_mod, q_fdiv, q_not, q_neg, q_lt, q_le, q_gt, q_ge, q_eqi, q_nei, q_neb, q_isb, q_t0, q_t1, q_len, q_lent, q_lens, q_list, q_listt, q_tuple, q_is1, q_is2, q_is3, q_is4, q_is5, q_is6, q_it, q_itt, q_rev, q_callT, q_calli, q_callb, imm_i, imm_b, imm_l, imm_k, imm_s, imm_n, imm_c, rcvB, xs_nil, xs_cons, x_asg, x_asgT, x_par, x_fld, x_ite, x_for, x_ret, x_rai, x_expr, x_pass, x_clr, x_app, x_pop, x_set, s_nx, s_rt, s_exc, lk_nil, lk_end, lk_cons, List.contains_cons, List.contains_nil, sl_L, sl_K, sl_O, sl_V, sl_F, it_V, it_r1, it_r2, it_e, it_z, w_L, w_Lk, w_Ls, w_K, w_Kl, w_O, w_V, w_Vk, w_Vs, w_F, w_Fk, w_Fs, w_Fo, w_Fn, w_it, w_itn, a_asg, a_asgE, a_nx, a_asgT, a_par, a_retO, a_retS, a_retN, a_ret, a_retE, a_app, a_clr, a_set, a_setK, a_expr, a_exprE, a_iteT, a_iteF, a_iteE, a_for, a_forO, a_forN, t_nm, t_tp, fo_shr, fo_lst, fo_dic, fo_no, en_rt, en_nx, en_exc, frz, esc, esc.escs, esc.escb, escI, tgSlots, putL, putS, D.isL, ownV, q_asg, q_asgb, q_asgt, q_asgo, q_asgl, q_nm, q_tp]
theorem xor32 {a b : Nat} (ha : a < 4294967296) (hb : b < 4294967296) : a ^^^ b < 4294967296 := Nat.xor_lt_two_pow (n := 32) ha hb
theorem shl32 {a b : Nat} (ha : a ≤ 15) (hb : b ≤ 28) : a * 2 ^ b < 4294967296 := by
  have : 2 ^ b ≤ 2 ^ 28 := Nat.pow_le_pow_right (by decide) hb
  calc a * 2 ^ b ≤ 15 * 2 ^ 28 := Nat.mul_le_mul ha this
    _ < _ := by decide
namespace K4
theorem pb : PB tab.tb := ⟨rfl, rfl, rfl, rfl, rfl, rfl, rfl⟩
theorem lb : LB tab.tb := ⟨rfl, rfl⟩
theorem hb : Bit.Has tab.tb := ⟨rfl, rfl, rfl⟩
variable {W n : Nat}
/-- a drawn number -/
theorem dr (c k : Int) (m : Nat) (hm : 0 < m := by decide) : run tab.tb W (n + 6) (.fn "_law_draw") [.int c, .int k, .int m] = .ok (.int (drawN c k m : Nat), true) := r_drawN (n := n + 5) lb c k hm
theorem ce (ns : List Int) (k : Nat) : run tab.tb W (n + 6) (.fn "_law_cell_at") [.scr ns, .int k] = .ok (.int (cell ns k), true) := r_cell (n := n + 5) lb ns k
theorem r_law (ns : List Int) : ∃ m, run tab.tb W (n + 7) (.fn "law") [.scr ns] = .ok (.bl true, m) := by
  rw [run_fn (show tab.tb.fn (.fn "law") = some f_law from rfl) (by rfl)]
  have hc0 : run tab.tb W (n + 6) (.fn "_law_cell_at") [.scr ns, .int 0] = .ok (.int (cell ns 0), true) := ce ns 0
  obtain ⟨nn, hnn⟩ := Int.eq_ofNat_of_zero_le (show 0 ≤ cell ns 0 % 17 by omega)
  have hn17 : nn ≤ 16 := by omega
  refine ⟨true, ?_⟩
  simp only [f_law, startE, e_var, e_con, e_glb, e_bin, e_un, e_and, e_or, e_cmp, e_chn, e_ite, e_lst, e_tup, e_dic0, e_dic, e_comp, e_call, e_bi, e_mth, e_rcv, e_att, e_idx, e_rev, e_slc, e_sort, l_nil, l_cons, i_seq, i_rng, i_rng1, i_enum, i_zip, v_shr, v_own, v_dic, g_some, o_bin, o_un, o_andT, o_andF, o_orT, o_orF, o_bol, o_cmp, o_chn, o_chT, o_chF, o_iteT, o_iteF, o_lst, o_tup, o_dic, o_cons, o_comp, o_endC, o_call, o_cl, o_clE, o_bi, o_mth, o_mth2, o_rcv, o_att, o_idx, o_rev, o_slc, o_sort, o_it, o_rng, o_rng1, o_enum, o_zip, ct_nm, ct_tp, ct_T, ct_F, ct_2, List.map_cons, List.map_nil, List.replicate, List.append_nil, List.cons_append, List.nil_append, Nat.sub_self, List.length_cons, List.length_nil, List.getElem?_cons_zero, List.getElem?_cons_succ, List.set_cons_zero, List.set_cons_succ, cmb, wipeE, if_true, if_false, Bool.not_true, Bool.not_false, Bool.false_eq_true, Bool.true_and, Bool.and_true, Bool.false_or, Bool.or_false, Bool.or_true, Bool.true_or, Bool.and_self, and_self, Bool.false_and, Bool.and_false, Int.reduceLT, Int.reduceLE, Int.reduceNeg, Nat.reduceAdd, Nat.reduceMul, Nat.reduceSub, Nat.reduceBEq, q_add, q_sub, q_mulr, q_mull, q_mod, q_fdiv, q_not, q_neg, q_lt, q_le, q_gt, q_ge, q_eqi, q_nei, q_neb, q_isb, q_t0, q_t1, q_len, q_lent, q_lens, q_list, q_listt, q_tuple, q_is1, q_is2, q_is3, q_is4, q_is5, q_is6, q_it, q_itt, q_rev, q_callT, q_calli, q_callb, imm_i, imm_b, imm_l, imm_k, imm_s, imm_n, imm_c, rcvB, xs_nil, xs_cons, x_asg, x_asgT, x_par, x_fld, x_ite, x_for, x_ret, x_rai, x_expr, x_pass, x_clr, x_app, x_pop, x_set, s_nx, s_rt, s_exc, lk_nil, lk_end, lk_cons, List.contains_cons, List.contains_nil, sl_L, sl_K, sl_O, sl_V, sl_F, it_V, it_r1, it_r2, it_e, it_z, w_L, w_Lk, w_Ls, w_K, w_Kl, w_O, w_V, w_Vk, w_Vs, w_F, w_Fk, w_Fs, w_Fo, w_Fn, w_it, w_itn, a_asg, a_asgE, a_nx, a_asgT, a_par, a_retO, a_retS, a_retN, a_ret, a_retE, a_app, a_clr, a_set, a_setK, a_expr, a_exprE, a_iteT, a_iteF, a_iteE, a_for, a_forO, a_forN, t_nm, t_tp, fo_shr, fo_lst, fo_dic, fo_no, en_rt, en_nx, en_exc, frz, esc, esc.escs, esc.escb, escI, tgSlots, putL, putS, D.isL, ownV, q_asg, q_asgb, q_asgt, q_asgo, q_asgl, q_nm, q_tp, hc0, hnn, q_rngN (show nn ≤ 1000000 by omega)]
  generalize hz : loopV _ _ _ _ _ _ _ _ _ = z
  obtain ⟨E', rfl, l, s3, s4, s5, hln, hl, rfl⟩ := loop_nxR (nn := nn) hz rfl (fun k E => ∃ (l : List Nat) (s3 s4 s5 : Option Slot), l.length = k ∧ (∀ t ∈ l, t < 4294967296) ∧ E = [some (.shr (.scr ns) false), some (.shr (.int nn) true), some (.own (.lst (natD l)) true), s3, s4, s5, none, none, none, none, none, none]) ⟨[], none, none, none, rfl, by simp, rfl⟩ (by
    rintro k E hk ⟨l, s3, s4, s5, hln, hl, rfl⟩
    have h1 : (1 : Int) + (k : Int) % 9 = ((1 + k % 9 : Nat) : Int) := by omega
    have hc2 : run tab.tb W (n + 6) (.fn "_law_cell_at") [.scr ns, .int 10] = .ok (.int (cell ns 10), true) := ce ns 10
    simp only [e_var, e_con, e_glb, e_bin, e_un, e_and, e_or, e_cmp, e_chn, e_ite, e_lst, e_tup, e_dic0, e_dic, e_comp, e_call, e_bi, e_mth, e_rcv, e_att, e_idx, e_rev, e_slc, e_sort, l_nil, l_cons, i_seq, i_rng, i_rng1, i_enum, i_zip, v_shr, v_own, v_dic, g_some, o_bin, o_un, o_andT, o_andF, o_orT, o_orF, o_bol, o_cmp, o_chn, o_chT, o_chF, o_iteT, o_iteF, o_lst, o_tup, o_dic, o_cons, o_comp, o_endC, o_call, o_cl, o_clE, o_bi, o_mth, o_mth2, o_rcv, o_att, o_idx, o_rev, o_slc, o_sort, o_it, o_rng, o_rng1, o_enum, o_zip, ct_nm, ct_tp, ct_T, ct_F, ct_2, List.map_cons, List.map_nil, List.replicate, List.append_nil, List.cons_append, List.nil_append, Nat.sub_self, List.length_cons, List.length_nil, List.getElem?_cons_zero, List.getElem?_cons_succ, List.set_cons_zero, List.set_cons_succ, cmb, wipeE, if_true, if_false, Bool.not_true, Bool.not_false, Bool.false_eq_true, Bool.true_and, Bool.and_true, Bool.false_or, Bool.or_false, Bool.or_true, Bool.true_or, Bool.and_self, and_self, Bool.false_and, Bool.and_false, Int.reduceLT, Int.reduceLE, Int.reduceNeg, Nat.reduceAdd, Nat.reduceMul, Nat.reduceSub, Nat.reduceBEq, q_add, q_sub, q_mulr, q_mull, q_mod, q_fdiv, q_not, q_neg, q_lt, q_le, q_gt, q_ge, q_eqi, q_nei, q_neb, q_isb, q_t0, q_t1, q_len, q_lent, q_lens, q_list, q_listt, q_tuple, q_is1, q_is2, q_is3, q_is4, q_is5, q_is6, q_it, q_itt, q_rev, q_callT, q_calli, q_callb, imm_i, imm_b, imm_l, imm_k, imm_s, imm_n, imm_c, rcvB, xs_nil, xs_cons, x_asg, x_asgT, x_par, x_fld, x_ite, x_for, x_ret, x_rai, x_expr, x_pass, x_clr, x_app, x_pop, x_set, s_nx, s_rt, s_exc, lk_nil, lk_end, lk_cons, List.contains_cons, List.contains_nil, sl_L, sl_K, sl_O, sl_V, sl_F, it_V, it_r1, it_r2, it_e, it_z, w_L, w_Lk, w_Ls, w_K, w_Kl, w_O, w_V, w_Vk, w_Vs, w_F, w_Fk, w_Fs, w_Fo, w_Fn, w_it, w_itn, a_asg, a_asgE, a_nx, a_asgT, a_par, a_retO, a_retS, a_retN, a_ret, a_retE, a_app, a_clr, a_set, a_setK, a_expr, a_exprE, a_iteT, a_iteF, a_iteE, a_for, a_forO, a_forN, t_nm, t_tp, fo_shr, fo_lst, fo_dic, fo_no, en_rt, en_nx, en_exc, frz, esc, esc.escs, esc.escb, escI, tgSlots, putL, putS, D.isL, ownV, q_asg, q_asgb, q_asgt, q_asgo, q_asgl, q_nm, q_tp, h1, ce, hc2]
    generalize cell ns (1 + k % 9) + 977 * (k : Int) = c
    have d1 := dr (W := W) (n := n) c 0 16
    have d2 := dr (W := W) (n := n) (cell ns 10) 1 29
    have d3 := dr (W := W) (n := n) c 2 4
    have d4 := dr (W := W) (n := n) c 3 65536
    have d5 := dr (W := W) (n := n) c 4 65536
    have d6 := dr (W := W) (n := n) c 5 4
    have b1 := drawN_lt c 0 (m := 16) (by decide)
    have b2 := drawN_lt (cell ns 10) 1 (m := 29) (by decide)
    have b4 := drawN_lt c 3 (m := 65536) (by decide)
    have b5 := drawN_lt c 4 (m := 65536) (by decide)
    simp only [Int.cast_ofNat_Int] at d1 d2 d3 d4 d5 d6
    generalize drawN c 0 16 = a1 at *
    generalize drawN (cell ns 10) 1 29 = a2 at *
    generalize drawN c 2 4 = a3 at *
    generalize drawN c 3 65536 = a4 at *
    generalize drawN c 4 65536 = a5 at *
    generalize drawN c 5 4 = a6 at *
    have fin : ∀ (v : Nat), v < 4294967296 → ∃ E', execs tab.tb W (run tab.tb W (n + 6)) (.cons (.app 2 (.var 5)) .nil) [] [some (.shr (.scr ns) false), some (.shr (.int nn) true), some (.own (.lst (natD l)) true), some (.shr (.int k) true), some (.shr (.int c) true), some (.shr (.int v) true), none, none, none, none, none, none] = .ok (.nx E') ∧ ∃ (l : List Nat) (s3 s4 s5 : Option Slot), l.length = k + 1 ∧ (∀ t ∈ l, t < 4294967296) ∧ E' = [some (.shr (.scr ns) false), some (.shr (.int nn) true), some (.own (.lst (natD l)) true), s3, s4, s5, none, none, none, none, none, none] := by
      intro v hv
      simp only [e_var, e_con, e_glb, e_bin, e_un, e_and, e_or, e_cmp, e_chn, e_ite, e_lst, e_tup, e_dic0, e_dic, e_comp, e_call, e_bi, e_mth, e_rcv, e_att, e_idx, e_rev, e_slc, e_sort, l_nil, l_cons, i_seq, i_rng, i_rng1, i_enum, i_zip, v_shr, v_own, v_dic, g_some, o_bin, o_un, o_andT, o_andF, o_orT, o_orF, o_bol, o_cmp, o_chn, o_chT, o_chF, o_iteT, o_iteF, o_lst, o_tup, o_dic, o_cons, o_comp, o_endC, o_call, o_cl, o_clE, o_bi, o_mth, o_mth2, o_rcv, o_att, o_idx, o_rev, o_slc, o_sort, o_it, o_rng, o_rng1, o_enum, o_zip, ct_nm, ct_tp, ct_T, ct_F, ct_2, List.map_cons, List.map_nil, List.replicate, List.append_nil, List.cons_append, List.nil_append, Nat.sub_self, List.length_cons, List.length_nil, List.getElem?_cons_zero, List.getElem?_cons_succ, List.set_cons_zero, List.set_cons_succ, cmb, wipeE, if_true, if_false, Bool.not_true, Bool.not_false, Bool.false_eq_true, Bool.true_and, Bool.and_true, Bool.false_or, Bool.or_false, Bool.or_true, Bool.true_or, Bool.and_self, and_self, Bool.false_and, Bool.and_false, Int.reduceLT, Int.reduceLE, Int.reduceNeg, Nat.reduceAdd, Nat.reduceMul, Nat.reduceSub, Nat.reduceBEq, q_add, q_sub, q_mulr, q_mull, q_mod, q_fdiv, q_not, q_neg, q_lt, q_le, q_gt, q_ge, q_eqi, q_nei, q_neb, q_isb, q_t0, q_t1, q_len, q_lent, q_lens, q_list, q_listt, q_tuple, q_is1, q_is2, q_is3, q_is4, q_is5, q_is6, q_it, q_itt, q_rev, q_callT, q_calli, q_callb, imm_i, imm_b, imm_l, imm_k, imm_s, imm_n, imm_c, rcvB, xs_nil, xs_cons, x_asg, x_asgT, x_par, x_fld, x_ite, x_for, x_ret, x_rai, x_expr, x_pass, x_clr, x_app, x_pop, x_set, s_nx, s_rt, s_exc, lk_nil, lk_end, lk_cons, List.contains_cons, List.contains_nil, sl_L, sl_K, sl_O, sl_V, sl_F, it_V, it_r1, it_r2, it_e, it_z, w_L, w_Lk, w_Ls, w_K, w_Kl, w_O, w_V, w_Vk, w_Vs, w_F, w_Fk, w_Fs, w_Fo, w_Fn, w_it, w_itn, a_asg, a_asgE, a_nx, a_asgT, a_par, a_retO, a_retS, a_retN, a_ret, a_retE, a_app, a_clr, a_set, a_setK, a_expr, a_exprE, a_iteT, a_iteF, a_iteE, a_for, a_forO, a_forN, t_nm, t_tp, fo_shr, fo_lst, fo_dic, fo_no, en_rt, en_nx, en_exc, frz, esc, esc.escs, esc.escb, escI, tgSlots, putL, putS, D.isL, ownV, q_asg, q_asgb, q_asgt, q_asgo, q_asgl, q_nm, q_tp]
      rw [q_app (by rw [natD_len, show lim = 1000000 from rfl]; omega)]
      exact ⟨_, rfl, l ++ [v], _, _, _, by simp [hln], fun t ht => by
        rcases List.mem_append.mp ht with h | h
        · exact hl t h
        · rw [List.mem_singleton] at h; omega, by rw [natD_app]; rfl⟩
    have mid : ∀ (v : Nat), v < 4294967296 → ∃ E', execs tab.tb W (run tab.tb W (n + 6)) (.cons (.ite (.and (.cmp .Gt (.var 3) (.con (.int 1))) (.cmp .Eq (.call (.fn "_law_draw") (.cons (.var 4) (.cons (.con (.int 5)) (.cons (.con (.int 4)) .nil)))) (.con (.int 0))))
  (.cons (.asg 5 (.bin .BitXor (.idx (.var 2) (.bin .Sub (.var 3) (.con (.int 1)))) (.idx (.var 2) (.bin .Sub (.var 3) (.con (.int 2))))))
  .nil)
  .nil) (.cons (.app 2 (.var 5)) .nil)) [] [some (.shr (.scr ns) false), some (.shr (.int nn) true), some (.own (.lst (natD l)) true), some (.shr (.int k) true), some (.shr (.int c) true), some (.shr (.int v) true), none, none, none, none, none, none] = .ok (.nx E') ∧ ∃ (l : List Nat) (s3 s4 s5 : Option Slot), l.length = k + 1 ∧ (∀ t ∈ l, t < 4294967296) ∧ E' = [some (.shr (.scr ns) false), some (.shr (.int nn) true), some (.own (.lst (natD l)) true), s3, s4, s5, none, none, none, none, none, none] := by
      intro v hv
      by_cases hk1 : 1 < k
      · by_cases h6 : a6 = 0
        · have e1 : (k : Int) - 1 = ((k - 1 : Nat) : Int) := by omega
          have e2 : (k : Int) - 2 = ((k - 2 : Nat) : Int) := by omega
          have g1 : k - 1 < l.length := by omega
          have g2 : k - 2 < l.length := by omega
          simp only [xs_cons, e_var, e_con, e_glb, e_bin, e_un, e_and, e_or, e_cmp, e_chn, e_ite, e_lst, e_tup, e_dic0, e_dic, e_comp, e_call, e_bi, e_mth, e_rcv, e_att, e_idx, e_rev, e_slc, e_sort, l_nil, l_cons, i_seq, i_rng, i_rng1, i_enum, i_zip, v_shr, v_own, v_dic, g_some, o_bin, o_un, o_andT, o_andF, o_orT, o_orF, o_bol, o_cmp, o_chn, o_chT, o_chF, o_iteT, o_iteF, o_lst, o_tup, o_dic, o_cons, o_comp, o_endC, o_call, o_cl, o_clE, o_bi, o_mth, o_mth2, o_rcv, o_att, o_idx, o_rev, o_slc, o_sort, o_it, o_rng, o_rng1, o_enum, o_zip, ct_nm, ct_tp, ct_T, ct_F, ct_2, List.map_cons, List.map_nil, List.replicate, List.append_nil, List.cons_append, List.nil_append, Nat.sub_self, List.length_cons, List.length_nil, List.getElem?_cons_zero, List.getElem?_cons_succ, List.set_cons_zero, List.set_cons_succ, cmb, wipeE, if_true, if_false, Bool.not_true, Bool.not_false, Bool.false_eq_true, Bool.true_and, Bool.and_true, Bool.false_or, Bool.or_false, Bool.or_true, Bool.true_or, Bool.and_self, and_self, Bool.false_and, Bool.and_false, Int.reduceLT, Int.reduceLE, Int.reduceNeg, Nat.reduceAdd, Nat.reduceMul, Nat.reduceSub, Nat.reduceBEq, q_add, q_sub, q_mulr, q_mull, q_mod, q_fdiv, q_not, q_neg, q_lt, q_le, q_gt, q_ge, q_eqi, q_nei, q_neb, q_isb, q_t0, q_t1, q_len, q_lent, q_lens, q_list, q_listt, q_tuple, q_is1, q_is2, q_is3, q_is4, q_is5, q_is6, q_it, q_itt, q_rev, q_callT, q_calli, q_callb, imm_i, imm_b, imm_l, imm_k, imm_s, imm_n, imm_c, rcvB, xs_nil, xs_cons, x_asg, x_asgT, x_par, x_fld, x_ite, x_for, x_ret, x_rai, x_expr, x_pass, x_clr, x_app, x_pop, x_set, s_nx, s_rt, s_exc, lk_nil, lk_end, lk_cons, List.contains_cons, List.contains_nil, sl_L, sl_K, sl_O, sl_V, sl_F, it_V, it_r1, it_r2, it_e, it_z, w_L, w_Lk, w_Ls, w_K, w_Kl, w_O, w_V, w_Vk, w_Vs, w_F, w_Fk, w_Fs, w_Fo, w_Fn, w_it, w_itn, a_asg, a_asgE, a_nx, a_asgT, a_par, a_retO, a_retS, a_retN, a_ret, a_retE, a_app, a_clr, a_set, a_setK, a_expr, a_exprE, a_iteT, a_iteF, a_iteE, a_for, a_forO, a_forN, t_nm, t_tp, fo_shr, fo_lst, fo_dic, fo_no, en_rt, en_nx, en_exc, frz, esc, esc.escs, esc.escb, escI, tgSlots, putL, putS, D.isL, ownV, q_asg, q_asgb, q_asgt, q_asgo, q_asgl, q_nm, q_tp, decide_eq_true (show (1 : Int) < k by omega), d6, z0T h6, e1, e2, q_ixl (natD_get (List.getElem?_eq_getElem g1)), q_ixl (natD_get (List.getElem?_eq_getElem g2)), q_xor]
          have := fin (l[k - 1] ^^^ l[k - 2]) (xor32 (hl _ (List.getElem_mem g1)) (hl _ (List.getElem_mem g2)))
          simpa only [e_var, e_con, e_glb, e_bin, e_un, e_and, e_or, e_cmp, e_chn, e_ite, e_lst, e_tup, e_dic0, e_dic, e_comp, e_call, e_bi, e_mth, e_rcv, e_att, e_idx, e_rev, e_slc, e_sort, l_nil, l_cons, i_seq, i_rng, i_rng1, i_enum, i_zip, v_shr, v_own, v_dic, g_some, o_bin, o_un, o_andT, o_andF, o_orT, o_orF, o_bol, o_cmp, o_chn, o_chT, o_chF, o_iteT, o_iteF, o_lst, o_tup, o_dic, o_cons, o_comp, o_endC, o_call, o_cl, o_clE, o_bi, o_mth, o_mth2, o_rcv, o_att, o_idx, o_rev, o_slc, o_sort, o_it, o_rng, o_rng1, o_enum, o_zip, ct_nm, ct_tp, ct_T, ct_F, ct_2, List.map_cons, List.map_nil, List.replicate, List.append_nil, List.cons_append, List.nil_append, Nat.sub_self, List.length_cons, List.length_nil, List.getElem?_cons_zero, List.getElem?_cons_succ, List.set_cons_zero, List.set_cons_succ, cmb, wipeE, if_true, if_false, Bool.not_true, Bool.not_false, Bool.false_eq_true, Bool.true_and, Bool.and_true, Bool.false_or, Bool.or_false, Bool.or_true, Bool.true_or, Bool.and_self, and_self, Bool.false_and, Bool.and_false, Int.reduceLT, Int.reduceLE, Int.reduceNeg, Nat.reduceAdd, Nat.reduceMul, Nat.reduceSub, Nat.reduceBEq, q_add, q_sub, q_mulr, q_mull, q_mod, q_fdiv, q_not, q_neg, q_lt, q_le, q_gt, q_ge, q_eqi, q_nei, q_neb, q_isb, q_t0, q_t1, q_len, q_lent, q_lens, q_list, q_listt, q_tuple, q_is1, q_is2, q_is3, q_is4, q_is5, q_is6, q_it, q_itt, q_rev, q_callT, q_calli, q_callb, imm_i, imm_b, imm_l, imm_k, imm_s, imm_n, imm_c, rcvB, xs_nil, xs_cons, x_asg, x_asgT, x_par, x_fld, x_ite, x_for, x_ret, x_rai, x_expr, x_pass, x_clr, x_app, x_pop, x_set, s_nx, s_rt, s_exc, lk_nil, lk_end, lk_cons, List.contains_cons, List.contains_nil, sl_L, sl_K, sl_O, sl_V, sl_F, it_V, it_r1, it_r2, it_e, it_z, w_L, w_Lk, w_Ls, w_K, w_Kl, w_O, w_V, w_Vk, w_Vs, w_F, w_Fk, w_Fs, w_Fo, w_Fn, w_it, w_itn, a_asg, a_asgE, a_nx, a_asgT, a_par, a_retO, a_retS, a_retN, a_ret, a_retE, a_app, a_clr, a_set, a_setK, a_expr, a_exprE, a_iteT, a_iteF, a_iteE, a_for, a_forO, a_forN, t_nm, t_tp, fo_shr, fo_lst, fo_dic, fo_no, en_rt, en_nx, en_exc, frz, esc, esc.escs, esc.escb, escI, tgSlots, putL, putS, D.isL, ownV, q_asg, q_asgb, q_asgt, q_asgo, q_asgl, q_nm, q_tp] using this
        · simp only [xs_cons, e_var, e_con, e_glb, e_bin, e_un, e_and, e_or, e_cmp, e_chn, e_ite, e_lst, e_tup, e_dic0, e_dic, e_comp, e_call, e_bi, e_mth, e_rcv, e_att, e_idx, e_rev, e_slc, e_sort, l_nil, l_cons, i_seq, i_rng, i_rng1, i_enum, i_zip, v_shr, v_own, v_dic, g_some, o_bin, o_un, o_andT, o_andF, o_orT, o_orF, o_bol, o_cmp, o_chn, o_chT, o_chF, o_iteT, o_iteF, o_lst, o_tup, o_dic, o_cons, o_comp, o_endC, o_call, o_cl, o_clE, o_bi, o_mth, o_mth2, o_rcv, o_att, o_idx, o_rev, o_slc, o_sort, o_it, o_rng, o_rng1, o_enum, o_zip, ct_nm, ct_tp, ct_T, ct_F, ct_2, List.map_cons, List.map_nil, List.replicate, List.append_nil, List.cons_append, List.nil_append, Nat.sub_self, List.length_cons, List.length_nil, List.getElem?_cons_zero, List.getElem?_cons_succ, List.set_cons_zero, List.set_cons_succ, cmb, wipeE, if_true, if_false, Bool.not_true, Bool.not_false, Bool.false_eq_true, Bool.true_and, Bool.and_true, Bool.false_or, Bool.or_false, Bool.or_true, Bool.true_or, Bool.and_self, and_self, Bool.false_and, Bool.and_false, Int.reduceLT, Int.reduceLE, Int.reduceNeg, Nat.reduceAdd, Nat.reduceMul, Nat.reduceSub, Nat.reduceBEq, q_add, q_sub, q_mulr, q_mull, q_mod, q_fdiv, q_not, q_neg, q_lt, q_le, q_gt, q_ge, q_eqi, q_nei, q_neb, q_isb, q_t0, q_t1, q_len, q_lent, q_lens, q_list, q_listt, q_tuple, q_is1, q_is2, q_is3, q_is4, q_is5, q_is6, q_it, q_itt, q_rev, q_callT, q_calli, q_callb, imm_i, imm_b, imm_l, imm_k, imm_s, imm_n, imm_c, rcvB, xs_nil, xs_cons, x_asg, x_asgT, x_par, x_fld, x_ite, x_for, x_ret, x_rai, x_expr, x_pass, x_clr, x_app, x_pop, x_set, s_nx, s_rt, s_exc, lk_nil, lk_end, lk_cons, List.contains_cons, List.contains_nil, sl_L, sl_K, sl_O, sl_V, sl_F, it_V, it_r1, it_r2, it_e, it_z, w_L, w_Lk, w_Ls, w_K, w_Kl, w_O, w_V, w_Vk, w_Vs, w_F, w_Fk, w_Fs, w_Fo, w_Fn, w_it, w_itn, a_asg, a_asgE, a_nx, a_asgT, a_par, a_retO, a_retS, a_retN, a_ret, a_retE, a_app, a_clr, a_set, a_setK, a_expr, a_exprE, a_iteT, a_iteF, a_iteE, a_for, a_forO, a_forN, t_nm, t_tp, fo_shr, fo_lst, fo_dic, fo_no, en_rt, en_nx, en_exc, frz, esc, esc.escs, esc.escb, escI, tgSlots, putL, putS, D.isL, ownV, q_asg, q_asgb, q_asgt, q_asgo, q_asgl, q_nm, q_tp, decide_eq_true (show (1 : Int) < k by omega), d6, z0F h6]
          simpa only [e_var, e_con, e_glb, e_bin, e_un, e_and, e_or, e_cmp, e_chn, e_ite, e_lst, e_tup, e_dic0, e_dic, e_comp, e_call, e_bi, e_mth, e_rcv, e_att, e_idx, e_rev, e_slc, e_sort, l_nil, l_cons, i_seq, i_rng, i_rng1, i_enum, i_zip, v_shr, v_own, v_dic, g_some, o_bin, o_un, o_andT, o_andF, o_orT, o_orF, o_bol, o_cmp, o_chn, o_chT, o_chF, o_iteT, o_iteF, o_lst, o_tup, o_dic, o_cons, o_comp, o_endC, o_call, o_cl, o_clE, o_bi, o_mth, o_mth2, o_rcv, o_att, o_idx, o_rev, o_slc, o_sort, o_it, o_rng, o_rng1, o_enum, o_zip, ct_nm, ct_tp, ct_T, ct_F, ct_2, List.map_cons, List.map_nil, List.replicate, List.append_nil, List.cons_append, List.nil_append, Nat.sub_self, List.length_cons, List.length_nil, List.getElem?_cons_zero, List.getElem?_cons_succ, List.set_cons_zero, List.set_cons_succ, cmb, wipeE, if_true, if_false, Bool.not_true, Bool.not_false, Bool.false_eq_true, Bool.true_and, Bool.and_true, Bool.false_or, Bool.or_false, Bool.or_true, Bool.true_or, Bool.and_self, and_self, Bool.false_and, Bool.and_false, Int.reduceLT, Int.reduceLE, Int.reduceNeg, Nat.reduceAdd, Nat.reduceMul, Nat.reduceSub, Nat.reduceBEq, q_add, q_sub, q_mulr, q_mull, q_mod, q_fdiv, q_not, q_neg, q_lt, q_le, q_gt, q_ge, q_eqi, q_nei, q_neb, q_isb, q_t0, q_t1, q_len, q_lent, q_lens, q_list, q_listt, q_tuple, q_is1, q_is2, q_is3, q_is4, q_is5, q_is6, q_it, q_itt, q_rev, q_callT, q_calli, q_callb, imm_i, imm_b, imm_l, imm_k, imm_s, imm_n, imm_c, rcvB, xs_nil, xs_cons, x_asg, x_asgT, x_par, x_fld, x_ite, x_for, x_ret, x_rai, x_expr, x_pass, x_clr, x_app, x_pop, x_set, s_nx, s_rt, s_exc, lk_nil, lk_end, lk_cons, List.contains_cons, List.contains_nil, sl_L, sl_K, sl_O, sl_V, sl_F, it_V, it_r1, it_r2, it_e, it_z, w_L, w_Lk, w_Ls, w_K, w_Kl, w_O, w_V, w_Vk, w_Vs, w_F, w_Fk, w_Fs, w_Fo, w_Fn, w_it, w_itn, a_asg, a_asgE, a_nx, a_asgT, a_par, a_retO, a_retS, a_retN, a_ret, a_retE, a_app, a_clr, a_set, a_setK, a_expr, a_exprE, a_iteT, a_iteF, a_iteE, a_for, a_forO, a_forN, t_nm, t_tp, fo_shr, fo_lst, fo_dic, fo_no, en_rt, en_nx, en_exc, frz, esc, esc.escs, esc.escb, escI, tgSlots, putL, putS, D.isL, ownV, q_asg, q_asgb, q_asgt, q_asgo, q_asgl, q_nm, q_tp] using fin v hv
      · simp only [xs_cons, e_var, e_con, e_glb, e_bin, e_un, e_and, e_or, e_cmp, e_chn, e_ite, e_lst, e_tup, e_dic0, e_dic, e_comp, e_call, e_bi, e_mth, e_rcv, e_att, e_idx, e_rev, e_slc, e_sort, l_nil, l_cons, i_seq, i_rng, i_rng1, i_enum, i_zip, v_shr, v_own, v_dic, g_some, o_bin, o_un, o_andT, o_andF, o_orT, o_orF, o_bol, o_cmp, o_chn, o_chT, o_chF, o_iteT, o_iteF, o_lst, o_tup, o_dic, o_cons, o_comp, o_endC, o_call, o_cl, o_clE, o_bi, o_mth, o_mth2, o_rcv, o_att, o_idx, o_rev, o_slc, o_sort, o_it, o_rng, o_rng1, o_enum, o_zip, ct_nm, ct_tp, ct_T, ct_F, ct_2, List.map_cons, List.map_nil, List.replicate, List.append_nil, List.cons_append, List.nil_append, Nat.sub_self, List.length_cons, List.length_nil, List.getElem?_cons_zero, List.getElem?_cons_succ, List.set_cons_zero, List.set_cons_succ, cmb, wipeE, if_true, if_false, Bool.not_true, Bool.not_false, Bool.false_eq_true, Bool.true_and, Bool.and_true, Bool.false_or, Bool.or_false, Bool.or_true, Bool.true_or, Bool.and_self, and_self, Bool.false_and, Bool.and_false, Int.reduceLT, Int.reduceLE, Int.reduceNeg, Nat.reduceAdd, Nat.reduceMul, Nat.reduceSub, Nat.reduceBEq, q_add, q_sub, q_mulr, q_mull, q_mod, q_fdiv, q_not, q_neg, q_lt, q_le, q_gt, q_ge, q_eqi, q_nei, q_neb, q_isb, q_t0, q_t1, q_len, q_lent, q_lens, q_list, q_listt, q_tuple, q_is1, q_is2, q_is3, q_is4, q_is5, q_is6, q_it, q_itt, q_rev, q_callT, q_calli, q_callb, imm_i, imm_b, imm_l, imm_k, imm_s, imm_n, imm_c, rcvB, xs_nil, xs_cons, x_asg, x_asgT, x_par, x_fld, x_ite, x_for, x_ret, x_rai, x_expr, x_pass, x_clr, x_app, x_pop, x_set, s_nx, s_rt, s_exc, lk_nil, lk_end, lk_cons, List.contains_cons, List.contains_nil, sl_L, sl_K, sl_O, sl_V, sl_F, it_V, it_r1, it_r2, it_e, it_z, w_L, w_Lk, w_Ls, w_K, w_Kl, w_O, w_V, w_Vk, w_Vs, w_F, w_Fk, w_Fs, w_Fo, w_Fn, w_it, w_itn, a_asg, a_asgE, a_nx, a_asgT, a_par, a_retO, a_retS, a_retN, a_ret, a_retE, a_app, a_clr, a_set, a_setK, a_expr, a_exprE, a_iteT, a_iteF, a_iteE, a_for, a_forO, a_forN, t_nm, t_tp, fo_shr, fo_lst, fo_dic, fo_no, en_rt, en_nx, en_exc, frz, esc, esc.escs, esc.escb, escI, tgSlots, putL, putS, D.isL, ownV, q_asg, q_asgb, q_asgt, q_asgo, q_asgl, q_nm, q_tp, decide_eq_false (show ¬ (1 : Int) < k by omega)]
        simpa only [e_var, e_con, e_glb, e_bin, e_un, e_and, e_or, e_cmp, e_chn, e_ite, e_lst, e_tup, e_dic0, e_dic, e_comp, e_call, e_bi, e_mth, e_rcv, e_att, e_idx, e_rev, e_slc, e_sort, l_nil, l_cons, i_seq, i_rng, i_rng1, i_enum, i_zip, v_shr, v_own, v_dic, g_some, o_bin, o_un, o_andT, o_andF, o_orT, o_orF, o_bol, o_cmp, o_chn, o_chT, o_chF, o_iteT, o_iteF, o_lst, o_tup, o_dic, o_cons, o_comp, o_endC, o_call, o_cl, o_clE, o_bi, o_mth, o_mth2, o_rcv, o_att, o_idx, o_rev, o_slc, o_sort, o_it, o_rng, o_rng1, o_enum, o_zip, ct_nm, ct_tp, ct_T, ct_F, ct_2, List.map_cons, List.map_nil, List.replicate, List.append_nil, List.cons_append, List.nil_append, Nat.sub_self, List.length_cons, List.length_nil, List.getElem?_cons_zero, List.getElem?_cons_succ, List.set_cons_zero, List.set_cons_succ, cmb, wipeE, if_true, if_false, Bool.not_true, Bool.not_false, Bool.false_eq_true, Bool.true_and, Bool.and_true, Bool.false_or, Bool.or_false, Bool.or_true, Bool.true_or, Bool.and_self, and_self, Bool.false_and, Bool.and_false, Int.reduceLT, Int.reduceLE, Int.reduceNeg, Nat.reduceAdd, Nat.reduceMul, Nat.reduceSub, Nat.reduceBEq, q_add, q_sub, q_mulr, q_mull, q_mod, q_fdiv, q_not, q_neg, q_lt, q_le, q_gt, q_ge, q_eqi, q_nei, q_neb, q_isb, q_t0, q_t1, q_len, q_lent, q_lens, q_list, q_listt, q_tuple, q_is1, q_is2, q_is3, q_is4, q_is5, q_is6, q_it, q_itt, q_rev, q_callT, q_calli, q_callb, imm_i, imm_b, imm_l, imm_k, imm_s, imm_n, imm_c, rcvB, xs_nil, xs_cons, x_asg, x_asgT, x_par, x_fld, x_ite, x_for, x_ret, x_rai, x_expr, x_pass, x_clr, x_app, x_pop, x_set, s_nx, s_rt, s_exc, lk_nil, lk_end, lk_cons, List.contains_cons, List.contains_nil, sl_L, sl_K, sl_O, sl_V, sl_F, it_V, it_r1, it_r2, it_e, it_z, w_L, w_Lk, w_Ls, w_K, w_Kl, w_O, w_V, w_Vk, w_Vs, w_F, w_Fk, w_Fs, w_Fo, w_Fn, w_it, w_itn, a_asg, a_asgE, a_nx, a_asgT, a_par, a_retO, a_retS, a_retN, a_ret, a_retE, a_app, a_clr, a_set, a_setK, a_expr, a_exprE, a_iteT, a_iteF, a_iteE, a_for, a_forO, a_forN, t_nm, t_tp, fo_shr, fo_lst, fo_dic, fo_no, en_rt, en_nx, en_exc, frz, esc, esc.escs, esc.escb, escI, tgSlots, putL, putS, D.isL, ownV, q_asg, q_asgb, q_asgt, q_asgo, q_asgl, q_nm, q_tp] using fin v hv
    obtain ⟨w, esh, bsh⟩ : ∃ w : Nat, (a1 : Int) * 2 ^ a2 = w ∧ w < 4294967296 := ⟨a1 * 2 ^ a2, by simp, shl32 (by omega) (by omega)⟩
    have e64 : ((a1 : Int)).natAbs < 18446744073709551616 := by rw [Int.natAbs_natCast]; exact Nat.lt_of_lt_of_le b1 (by decide)
    simp only [d1, d2, e_var, e_con, e_glb, e_bin, e_un, e_and, e_or, e_cmp, e_chn, e_ite, e_lst, e_tup, e_dic0, e_dic, e_comp, e_call, e_bi, e_mth, e_rcv, e_att, e_idx, e_rev, e_slc, e_sort, l_nil, l_cons, i_seq, i_rng, i_rng1, i_enum, i_zip, v_shr, v_own, v_dic, g_some, o_bin, o_un, o_andT, o_andF, o_orT, o_orF, o_bol, o_cmp, o_chn, o_chT, o_chF, o_iteT, o_iteF, o_lst, o_tup, o_dic, o_cons, o_comp, o_endC, o_call, o_cl, o_clE, o_bi, o_mth, o_mth2, o_rcv, o_att, o_idx, o_rev, o_slc, o_sort, o_it, o_rng, o_rng1, o_enum, o_zip, ct_nm, ct_tp, ct_T, ct_F, ct_2, List.map_cons, List.map_nil, List.replicate, List.append_nil, List.cons_append, List.nil_append, Nat.sub_self, List.length_cons, List.length_nil, List.getElem?_cons_zero, List.getElem?_cons_succ, List.set_cons_zero, List.set_cons_succ, cmb, wipeE, if_true, if_false, Bool.not_true, Bool.not_false, Bool.false_eq_true, Bool.true_and, Bool.and_true, Bool.false_or, Bool.or_false, Bool.or_true, Bool.true_or, Bool.and_self, and_self, Bool.false_and, Bool.and_false, Int.reduceLT, Int.reduceLE, Int.reduceNeg, Nat.reduceAdd, Nat.reduceMul, Nat.reduceSub, Nat.reduceBEq, q_add, q_sub, q_mulr, q_mull, q_mod, q_fdiv, q_not, q_neg, q_lt, q_le, q_gt, q_ge, q_eqi, q_nei, q_neb, q_isb, q_t0, q_t1, q_len, q_lent, q_lens, q_list, q_listt, q_tuple, q_is1, q_is2, q_is3, q_is4, q_is5, q_is6, q_it, q_itt, q_rev, q_callT, q_calli, q_callb, imm_i, imm_b, imm_l, imm_k, imm_s, imm_n, imm_c, rcvB, xs_nil, xs_cons, x_asg, x_asgT, x_par, x_fld, x_ite, x_for, x_ret, x_rai, x_expr, x_pass, x_clr, x_app, x_pop, x_set, s_nx, s_rt, s_exc, lk_nil, lk_end, lk_cons, List.contains_cons, List.contains_nil, sl_L, sl_K, sl_O, sl_V, sl_F, it_V, it_r1, it_r2, it_e, it_z, w_L, w_Lk, w_Ls, w_K, w_Kl, w_O, w_V, w_Vk, w_Vs, w_F, w_Fk, w_Fs, w_Fo, w_Fn, w_it, w_itn, a_asg, a_asgE, a_nx, a_asgT, a_par, a_retO, a_retS, a_retN, a_ret, a_retE, a_app, a_clr, a_set, a_setK, a_expr, a_exprE, a_iteT, a_iteF, a_iteE, a_for, a_forO, a_forN, t_nm, t_tp, fo_shr, fo_lst, fo_dic, fo_no, en_rt, en_nx, en_exc, frz, esc, esc.escs, esc.escb, escI, tgSlots, putL, putS, D.isL, ownV, q_asg, q_asgb, q_asgt, q_asgo, q_asgl, q_nm, q_tp, q_shl (i := (a1 : Int)) (k := a2) (by omega) e64, esh, d3]
    by_cases h3 : a3 = 0
    · obtain ⟨v, hv, hv2⟩ : ∃ v : Nat, (a4 : Int) * 65536 + a5 = v ∧ v < 4294967296 := ⟨a4 * 65536 + a5, by omega, by omega⟩
      simp only [z0T h3, e_var, e_con, e_glb, e_bin, e_un, e_and, e_or, e_cmp, e_chn, e_ite, e_lst, e_tup, e_dic0, e_dic, e_comp, e_call, e_bi, e_mth, e_rcv, e_att, e_idx, e_rev, e_slc, e_sort, l_nil, l_cons, i_seq, i_rng, i_rng1, i_enum, i_zip, v_shr, v_own, v_dic, g_some, o_bin, o_un, o_andT, o_andF, o_orT, o_orF, o_bol, o_cmp, o_chn, o_chT, o_chF, o_iteT, o_iteF, o_lst, o_tup, o_dic, o_cons, o_comp, o_endC, o_call, o_cl, o_clE, o_bi, o_mth, o_mth2, o_rcv, o_att, o_idx, o_rev, o_slc, o_sort, o_it, o_rng, o_rng1, o_enum, o_zip, ct_nm, ct_tp, ct_T, ct_F, ct_2, List.map_cons, List.map_nil, List.replicate, List.append_nil, List.cons_append, List.nil_append, Nat.sub_self, List.length_cons, List.length_nil, List.getElem?_cons_zero, List.getElem?_cons_succ, List.set_cons_zero, List.set_cons_succ, cmb, wipeE, if_true, if_false, Bool.not_true, Bool.not_false, Bool.false_eq_true, Bool.true_and, Bool.and_true, Bool.false_or, Bool.or_false, Bool.or_true, Bool.true_or, Bool.and_self, and_self, Bool.false_and, Bool.and_false, Int.reduceLT, Int.reduceLE, Int.reduceNeg, Nat.reduceAdd, Nat.reduceMul, Nat.reduceSub, Nat.reduceBEq, q_add, q_sub, q_mulr, q_mull, q_mod, q_fdiv, q_not, q_neg, q_lt, q_le, q_gt, q_ge, q_eqi, q_nei, q_neb, q_isb, q_t0, q_t1, q_len, q_lent, q_lens, q_list, q_listt, q_tuple, q_is1, q_is2, q_is3, q_is4, q_is5, q_is6, q_it, q_itt, q_rev, q_callT, q_calli, q_callb, imm_i, imm_b, imm_l, imm_k, imm_s, imm_n, imm_c, rcvB, xs_nil, xs_cons, x_asg, x_asgT, x_par, x_fld, x_ite, x_for, x_ret, x_rai, x_expr, x_pass, x_clr, x_app, x_pop, x_set, s_nx, s_rt, s_exc, lk_nil, lk_end, lk_cons, List.contains_cons, List.contains_nil, sl_L, sl_K, sl_O, sl_V, sl_F, it_V, it_r1, it_r2, it_e, it_z, w_L, w_Lk, w_Ls, w_K, w_Kl, w_O, w_V, w_Vk, w_Vs, w_F, w_Fk, w_Fs, w_Fo, w_Fn, w_it, w_itn, a_asg, a_asgE, a_nx, a_asgT, a_par, a_retO, a_retS, a_retN, a_ret, a_retE, a_app, a_clr, a_set, a_setK, a_expr, a_exprE, a_iteT, a_iteF, a_iteE, a_for, a_forO, a_forN, t_nm, t_tp, fo_shr, fo_lst, fo_dic, fo_no, en_rt, en_nx, en_exc, frz, esc, esc.escs, esc.escb, escI, tgSlots, putL, putS, D.isL, ownV, q_asg, q_asgb, q_asgt, q_asgo, q_asgl, q_nm, q_tp, d4, d5, hv]
      simpa only [e_var, e_con, e_glb, e_bin, e_un, e_and, e_or, e_cmp, e_chn, e_ite, e_lst, e_tup, e_dic0, e_dic, e_comp, e_call, e_bi, e_mth, e_rcv, e_att, e_idx, e_rev, e_slc, e_sort, l_nil, l_cons, i_seq, i_rng, i_rng1, i_enum, i_zip, v_shr, v_own, v_dic, g_some, o_bin, o_un, o_andT, o_andF, o_orT, o_orF, o_bol, o_cmp, o_chn, o_chT, o_chF, o_iteT, o_iteF, o_lst, o_tup, o_dic, o_cons, o_comp, o_endC, o_call, o_cl, o_clE, o_bi, o_mth, o_mth2, o_rcv, o_att, o_idx, o_rev, o_slc, o_sort, o_it, o_rng, o_rng1, o_enum, o_zip, ct_nm, ct_tp, ct_T, ct_F, ct_2, List.map_cons, List.map_nil, List.replicate, List.append_nil, List.cons_append, List.nil_append, Nat.sub_self, List.length_cons, List.length_nil, List.getElem?_cons_zero, List.getElem?_cons_succ, List.set_cons_zero, List.set_cons_succ, cmb, wipeE, if_true, if_false, Bool.not_true, Bool.not_false, Bool.false_eq_true, Bool.true_and, Bool.and_true, Bool.false_or, Bool.or_false, Bool.or_true, Bool.true_or, Bool.and_self, and_self, Bool.false_and, Bool.and_false, Int.reduceLT, Int.reduceLE, Int.reduceNeg, Nat.reduceAdd, Nat.reduceMul, Nat.reduceSub, Nat.reduceBEq, q_add, q_sub, q_mulr, q_mull, q_mod, q_fdiv, q_not, q_neg, q_lt, q_le, q_gt, q_ge, q_eqi, q_nei, q_neb, q_isb, q_t0, q_t1, q_len, q_lent, q_lens, q_list, q_listt, q_tuple, q_is1, q_is2, q_is3, q_is4, q_is5, q_is6, q_it, q_itt, q_rev, q_callT, q_calli, q_callb, imm_i, imm_b, imm_l, imm_k, imm_s, imm_n, imm_c, rcvB, xs_nil, xs_cons, x_asg, x_asgT, x_par, x_fld, x_ite, x_for, x_ret, x_rai, x_expr, x_pass, x_clr, x_app, x_pop, x_set, s_nx, s_rt, s_exc, lk_nil, lk_end, lk_cons, List.contains_cons, List.contains_nil, sl_L, sl_K, sl_O, sl_V, sl_F, it_V, it_r1, it_r2, it_e, it_z, w_L, w_Lk, w_Ls, w_K, w_Kl, w_O, w_V, w_Vk, w_Vs, w_F, w_Fk, w_Fs, w_Fo, w_Fn, w_it, w_itn, a_asg, a_asgE, a_nx, a_asgT, a_par, a_retO, a_retS, a_retN, a_ret, a_retE, a_app, a_clr, a_set, a_setK, a_expr, a_exprE, a_iteT, a_iteF, a_iteE, a_for, a_forO, a_forN, t_nm, t_tp, fo_shr, fo_lst, fo_dic, fo_no, en_rt, en_nx, en_exc, frz, esc, esc.escs, esc.escb, escI, tgSlots, putL, putS, D.isL, ownV, q_asg, q_asgb, q_asgt, q_asgo, q_asgl, q_nm, q_tp] using mid v hv2
    · simp only [e_var, e_con, e_glb, e_bin, e_un, e_and, e_or, e_cmp, e_chn, e_ite, e_lst, e_tup, e_dic0, e_dic, e_comp, e_call, e_bi, e_mth, e_rcv, e_att, e_idx, e_rev, e_slc, e_sort, l_nil, l_cons, i_seq, i_rng, i_rng1, i_enum, i_zip, v_shr, v_own, v_dic, g_some, o_bin, o_un, o_andT, o_andF, o_orT, o_orF, o_bol, o_cmp, o_chn, o_chT, o_chF, o_iteT, o_iteF, o_lst, o_tup, o_dic, o_cons, o_comp, o_endC, o_call, o_cl, o_clE, o_bi, o_mth, o_mth2, o_rcv, o_att, o_idx, o_rev, o_slc, o_sort, o_it, o_rng, o_rng1, o_enum, o_zip, ct_nm, ct_tp, ct_T, ct_F, ct_2, List.map_cons, List.map_nil, List.replicate, List.append_nil, List.cons_append, List.nil_append, Nat.sub_self, List.length_cons, List.length_nil, List.getElem?_cons_zero, List.getElem?_cons_succ, List.set_cons_zero, List.set_cons_succ, cmb, wipeE, if_true, if_false, Bool.not_true, Bool.not_false, Bool.false_eq_true, Bool.true_and, Bool.and_true, Bool.false_or, Bool.or_false, Bool.or_true, Bool.true_or, Bool.and_self, and_self, Bool.false_and, Bool.and_false, Int.reduceLT, Int.reduceLE, Int.reduceNeg, Nat.reduceAdd, Nat.reduceMul, Nat.reduceSub, Nat.reduceBEq, q_add, q_sub, q_mulr, q_mull, q_mod, q_fdiv, q_not, q_neg, q_lt, q_le, q_gt, q_ge, q_eqi, q_nei, q_neb, q_isb, q_t0, q_t1, q_len, q_lent, q_lens, q_list, q_listt, q_tuple, q_is1, q_is2, q_is3, q_is4, q_is5, q_is6, q_it, q_itt, q_rev, q_callT, q_calli, q_callb, imm_i, imm_b, imm_l, imm_k, imm_s, imm_n, imm_c, rcvB, xs_nil, xs_cons, x_asg, x_asgT, x_par, x_fld, x_ite, x_for, x_ret, x_rai, x_expr, x_pass, x_clr, x_app, x_pop, x_set, s_nx, s_rt, s_exc, lk_nil, lk_end, lk_cons, List.contains_cons, List.contains_nil, sl_L, sl_K, sl_O, sl_V, sl_F, it_V, it_r1, it_r2, it_e, it_z, w_L, w_Lk, w_Ls, w_K, w_Kl, w_O, w_V, w_Vk, w_Vs, w_F, w_Fk, w_Fs, w_Fo, w_Fn, w_it, w_itn, a_asg, a_asgE, a_nx, a_asgT, a_par, a_retO, a_retS, a_retN, a_ret, a_retE, a_app, a_clr, a_set, a_setK, a_expr, a_exprE, a_iteT, a_iteF, a_iteE, a_for, a_forO, a_forN, t_nm, t_tp, fo_shr, fo_lst, fo_dic, fo_no, en_rt, en_nx, en_exc, frz, esc, esc.escs, esc.escb, escI, tgSlots, putL, putS, D.isL, ownV, q_asg, q_asgb, q_asgt, q_asgo, q_asgl, q_nm, q_tp, z0F h3]
      simpa only [e_var, e_con, e_glb, e_bin, e_un, e_and, e_or, e_cmp, e_chn, e_ite, e_lst, e_tup, e_dic0, e_dic, e_comp, e_call, e_bi, e_mth, e_rcv, e_att, e_idx, e_rev, e_slc, e_sort, l_nil, l_cons, i_seq, i_rng, i_rng1, i_enum, i_zip, v_shr, v_own, v_dic, g_some, o_bin, o_un, o_andT, o_andF, o_orT, o_orF, o_bol, o_cmp, o_chn, o_chT, o_chF, o_iteT, o_iteF, o_lst, o_tup, o_dic, o_cons, o_comp, o_endC, o_call, o_cl, o_clE, o_bi, o_mth, o_mth2, o_rcv, o_att, o_idx, o_rev, o_slc, o_sort, o_it, o_rng, o_rng1, o_enum, o_zip, ct_nm, ct_tp, ct_T, ct_F, ct_2, List.map_cons, List.map_nil, List.replicate, List.append_nil, List.cons_append, List.nil_append, Nat.sub_self, List.length_cons, List.length_nil, List.getElem?_cons_zero, List.getElem?_cons_succ, List.set_cons_zero, List.set_cons_succ, cmb, wipeE, if_true, if_false, Bool.not_true, Bool.not_false, Bool.false_eq_true, Bool.true_and, Bool.and_true, Bool.false_or, Bool.or_false, Bool.or_true, Bool.true_or, Bool.and_self, and_self, Bool.false_and, Bool.and_false, Int.reduceLT, Int.reduceLE, Int.reduceNeg, Nat.reduceAdd, Nat.reduceMul, Nat.reduceSub, Nat.reduceBEq, q_add, q_sub, q_mulr, q_mull, q_mod, q_fdiv, q_not, q_neg, q_lt, q_le, q_gt, q_ge, q_eqi, q_nei, q_neb, q_isb, q_t0, q_t1, q_len, q_lent, q_lens, q_list, q_listt, q_tuple, q_is1, q_is2, q_is3, q_is4, q_is5, q_is6, q_it, q_itt, q_rev, q_callT, q_calli, q_callb, imm_i, imm_b, imm_l, imm_k, imm_s, imm_n, imm_c, rcvB, xs_nil, xs_cons, x_asg, x_asgT, x_par, x_fld, x_ite, x_for, x_ret, x_rai, x_expr, x_pass, x_clr, x_app, x_pop, x_set, s_nx, s_rt, s_exc, lk_nil, lk_end, lk_cons, List.contains_cons, List.contains_nil, sl_L, sl_K, sl_O, sl_V, sl_F, it_V, it_r1, it_r2, it_e, it_z, w_L, w_Lk, w_Ls, w_K, w_Kl, w_O, w_V, w_Vk, w_Vs, w_F, w_Fk, w_Fs, w_Fo, w_Fn, w_it, w_itn, a_asg, a_asgE, a_nx, a_asgT, a_par, a_retO, a_retS, a_retN, a_ret, a_retE, a_app, a_clr, a_set, a_setK, a_expr, a_exprE, a_iteT, a_iteF, a_iteE, a_for, a_forO, a_forN, t_nm, t_tp, fo_shr, fo_lst, fo_dic, fo_no, en_rt, en_nx, en_exc, frz, esc, esc.escs, esc.escb, escI, tgSlots, putL, putS, D.isL, ownV, q_asg, q_asgb, q_asgt, q_asgo, q_asgl, q_nm, q_tp] using mid w bsh)
  clear hz
  have hM : run tab.tb W (n + 6) (.mk "Bits") [.lst (natD l)] = .ok (.obj "Bits" (Bit.flds l), true) := by
    rw [run_mk]
    exact Bit.r_i (n := n + 1) pb hb l (by omega) hl
  have hmany : run tab.tb W (n + 6) (.me "Rule" "many") [.obj "Bits" (Bit.flds l)] = .ok (.int nn, true) := r_many (n := n + 5) pb "Bits" (Bit.flds l) nn (by rw [← hln]; rfl)
  have hm2 : mthC tab.tb "many" (.obj "Bits" (Bit.flds l)) = .ok "Rule" := by rfl
  have hf2 : mthC tab.tb "free" (.obj "Bits" (Bit.flds l)) = .ok "Rule" := by rfl
  have hsub : tab.tb.sub "Bits" "Rule" = true := by rfl
  have hr8 : rngV (.int 0) (.int 8) = .ok ((List.range 8).map fun (k : Nat) => D.int k, true, true) := q_rngN (z := 8) (by decide)
  have hll : (natD l).length < lim := by rw [natD_len, show lim = 1000000 from rfl]; omega
  have hfr : ∀ ks : List Nat, ks.Nodup → ks.length ≤ 1000 → (∀ k ∈ ks, k < nn) → run tab.tb W (n + 6) (.me "Rule" "free") [.obj "Bits" (Bit.flds l), .lst (natD ks)] = .ok (.bl (fits [] (ks.map fun k => l.getD k 0)), true) := fun ks h1 h2 h3 =>
    r_free (n := n + 2) pb "Bits" "Bits" (Bit.flds l) nn ks .bad (by rw [← hln]; rfl) rfl (by rfl) h1 h2 h3 _ (Bit.r_stands (n := n + 4) hb l ks h2 (by rw [hln]; exact h3))
  have hfr0 : run tab.tb W (n + 6) (.me "Rule" "free") [.obj "Bits" (Bit.flds l), .lst []] = .ok (.bl true, true) := hfr [] (by simp) (by simp) (by simp)
  simp only [e_var, e_con, e_glb, e_bin, e_un, e_and, e_or, e_cmp, e_chn, e_ite, e_lst, e_tup, e_dic0, e_dic, e_comp, e_call, e_bi, e_mth, e_rcv, e_att, e_idx, e_rev, e_slc, e_sort, l_nil, l_cons, i_seq, i_rng, i_rng1, i_enum, i_zip, v_shr, v_own, v_dic, g_some, o_bin, o_un, o_andT, o_andF, o_orT, o_orF, o_bol, o_cmp, o_chn, o_chT, o_chF, o_iteT, o_iteF, o_lst, o_tup, o_dic, o_cons, o_comp, o_endC, o_call, o_cl, o_clE, o_bi, o_mth, o_mth2, o_rcv, o_att, o_idx, o_rev, o_slc, o_sort, o_it, o_rng, o_rng1, o_enum, o_zip, ct_nm, ct_tp, ct_T, ct_F, ct_2, List.map_cons, List.map_nil, List.replicate, List.append_nil, List.cons_append, List.nil_append, Nat.sub_self, List.length_cons, List.length_nil, List.getElem?_cons_zero, List.getElem?_cons_succ, List.set_cons_zero, List.set_cons_succ, cmb, wipeE, if_true, if_false, Bool.not_true, Bool.not_false, Bool.false_eq_true, Bool.true_and, Bool.and_true, Bool.false_or, Bool.or_false, Bool.or_true, Bool.true_or, Bool.and_self, and_self, Bool.false_and, Bool.and_false, Int.reduceLT, Int.reduceLE, Int.reduceNeg, Nat.reduceAdd, Nat.reduceMul, Nat.reduceSub, Nat.reduceBEq, q_add, q_sub, q_mulr, q_mull, q_mod, q_fdiv, q_not, q_neg, q_lt, q_le, q_gt, q_ge, q_eqi, q_nei, q_neb, q_isb, q_t0, q_t1, q_len, q_lent, q_lens, q_list, q_listt, q_tuple, q_is1, q_is2, q_is3, q_is4, q_is5, q_is6, q_it, q_itt, q_rev, q_callT, q_calli, q_callb, imm_i, imm_b, imm_l, imm_k, imm_s, imm_n, imm_c, rcvB, xs_nil, xs_cons, x_asg, x_asgT, x_par, x_fld, x_ite, x_for, x_ret, x_rai, x_expr, x_pass, x_clr, x_app, x_pop, x_set, s_nx, s_rt, s_exc, lk_nil, lk_end, lk_cons, List.contains_cons, List.contains_nil, sl_L, sl_K, sl_O, sl_V, sl_F, it_V, it_r1, it_r2, it_e, it_z, w_L, w_Lk, w_Ls, w_K, w_Kl, w_O, w_V, w_Vk, w_Vs, w_F, w_Fk, w_Fs, w_Fo, w_Fn, w_it, w_itn, a_asg, a_asgE, a_nx, a_asgT, a_par, a_retO, a_retS, a_retN, a_ret, a_retE, a_app, a_clr, a_set, a_setK, a_expr, a_exprE, a_iteT, a_iteF, a_iteE, a_for, a_forO, a_forN, t_nm, t_tp, fo_shr, fo_lst, fo_dic, fo_no, en_rt, en_nx, en_exc, frz, esc, esc.escs, esc.escb, escI, tgSlots, putL, putS, D.isL, ownV, q_asg, q_asgb, q_asgt, q_asgo, q_asgl, q_nm, q_tp, hM, q_nel (natD_dat l) (natD_dat l), eqvL_nats, beq_self_eq_true, hsub, hm2, hmany, natD_imm, q_app hll, hr8]
  generalize hz : loopV _ _ _ _ _ _ _ _ _ = z
  obtain ⟨E', rfl, s4, s8, s9, s10, s11, rfl⟩ := loop_nxR (nn := 8) hz rfl (fun k E => ∃ (s4 s8 s9 s10 s11 : Option Slot), E = [some (.shr (.scr ns) false), some (.shr (.int nn) true), some (.own (.lst (natD l)) true), s3, s4, s5, some (.own (.lst (natD l ++ [.int 1])) true), some (.shr (.obj "Bits" (Bit.flds l)) true), s8, s9, s10, s11]) ⟨s4, none, none, none, none, rfl⟩ (by
    rintro k E hk ⟨s4, s8, s9, s10, s11, rfl⟩
    simp only [e_var, e_con, e_glb, e_bin, e_un, e_and, e_or, e_cmp, e_chn, e_ite, e_lst, e_tup, e_dic0, e_dic, e_comp, e_call, e_bi, e_mth, e_rcv, e_att, e_idx, e_rev, e_slc, e_sort, l_nil, l_cons, i_seq, i_rng, i_rng1, i_enum, i_zip, v_shr, v_own, v_dic, g_some, o_bin, o_un, o_andT, o_andF, o_orT, o_orF, o_bol, o_cmp, o_chn, o_chT, o_chF, o_iteT, o_iteF, o_lst, o_tup, o_dic, o_cons, o_comp, o_endC, o_call, o_cl, o_clE, o_bi, o_mth, o_mth2, o_rcv, o_att, o_idx, o_rev, o_slc, o_sort, o_it, o_rng, o_rng1, o_enum, o_zip, ct_nm, ct_tp, ct_T, ct_F, ct_2, List.map_cons, List.map_nil, List.replicate, List.append_nil, List.cons_append, List.nil_append, Nat.sub_self, List.length_cons, List.length_nil, List.getElem?_cons_zero, List.getElem?_cons_succ, List.set_cons_zero, List.set_cons_succ, cmb, wipeE, if_true, if_false, Bool.not_true, Bool.not_false, Bool.false_eq_true, Bool.true_and, Bool.and_true, Bool.false_or, Bool.or_false, Bool.or_true, Bool.true_or, Bool.and_self, and_self, Bool.false_and, Bool.and_false, Int.reduceLT, Int.reduceLE, Int.reduceNeg, Nat.reduceAdd, Nat.reduceMul, Nat.reduceSub, Nat.reduceBEq, q_add, q_sub, q_mulr, q_mull, q_mod, q_fdiv, q_not, q_neg, q_lt, q_le, q_gt, q_ge, q_eqi, q_nei, q_neb, q_isb, q_t0, q_t1, q_len, q_lent, q_lens, q_list, q_listt, q_tuple, q_is1, q_is2, q_is3, q_is4, q_is5, q_is6, q_it, q_itt, q_rev, q_callT, q_calli, q_callb, imm_i, imm_b, imm_l, imm_k, imm_s, imm_n, imm_c, rcvB, xs_nil, xs_cons, x_asg, x_asgT, x_par, x_fld, x_ite, x_for, x_ret, x_rai, x_expr, x_pass, x_clr, x_app, x_pop, x_set, s_nx, s_rt, s_exc, lk_nil, lk_end, lk_cons, List.contains_cons, List.contains_nil, sl_L, sl_K, sl_O, sl_V, sl_F, it_V, it_r1, it_r2, it_e, it_z, w_L, w_Lk, w_Ls, w_K, w_Kl, w_O, w_V, w_Vk, w_Vs, w_F, w_Fk, w_Fs, w_Fo, w_Fn, w_it, w_itn, a_asg, a_asgE, a_nx, a_asgT, a_par, a_retO, a_retS, a_retN, a_ret, a_retE, a_app, a_clr, a_set, a_setK, a_expr, a_exprE, a_iteT, a_iteF, a_iteE, a_for, a_forO, a_forN, t_nm, t_tp, fo_shr, fo_lst, fo_dic, fo_no, en_rt, en_nx, en_exc, frz, esc, esc.escs, esc.escb, escI, tgSlots, putL, putS, D.isL, ownV, q_asg, q_asgb, q_asgt, q_asgo, q_asgl, q_nm, q_tp, ce, q_rngN (show nn ≤ 1000000 by omega)]
    generalize cell ns k + 31 * (k : Int) = c
    have hmod : (1 : Int) + (k : Int) % 4 = ((1 + k % 4 : Nat) : Int) := by omega
    rw [compL_go (g := fun k : Nat => D.int (k : Int)) (f := fun k : Nat => .int (k : Int)) (p := fun q : Nat => drawN (c + 41 * q) 3 (1 + k % 4) == 0) (fun q _ => by
      simp only [e_var, e_con, e_glb, e_bin, e_un, e_and, e_or, e_cmp, e_chn, e_ite, e_lst, e_tup, e_dic0, e_dic, e_comp, e_call, e_bi, e_mth, e_rcv, e_att, e_idx, e_rev, e_slc, e_sort, l_nil, l_cons, i_seq, i_rng, i_rng1, i_enum, i_zip, v_shr, v_own, v_dic, g_some, o_bin, o_un, o_andT, o_andF, o_orT, o_orF, o_bol, o_cmp, o_chn, o_chT, o_chF, o_iteT, o_iteF, o_lst, o_tup, o_dic, o_cons, o_comp, o_endC, o_call, o_cl, o_clE, o_bi, o_mth, o_mth2, o_rcv, o_att, o_idx, o_rev, o_slc, o_sort, o_it, o_rng, o_rng1, o_enum, o_zip, ct_nm, ct_tp, ct_T, ct_F, ct_2, List.map_cons, List.map_nil, List.replicate, List.append_nil, List.cons_append, List.nil_append, Nat.sub_self, List.length_cons, List.length_nil, List.getElem?_cons_zero, List.getElem?_cons_succ, List.set_cons_zero, List.set_cons_succ, cmb, wipeE, if_true, if_false, Bool.not_true, Bool.not_false, Bool.false_eq_true, Bool.true_and, Bool.and_true, Bool.false_or, Bool.or_false, Bool.or_true, Bool.true_or, Bool.and_self, and_self, Bool.false_and, Bool.and_false, Int.reduceLT, Int.reduceLE, Int.reduceNeg, Nat.reduceAdd, Nat.reduceMul, Nat.reduceSub, Nat.reduceBEq, q_add, q_sub, q_mulr, q_mull, q_mod, q_fdiv, q_not, q_neg, q_lt, q_le, q_gt, q_ge, q_eqi, q_nei, q_neb, q_isb, q_t0, q_t1, q_len, q_lent, q_lens, q_list, q_listt, q_tuple, q_is1, q_is2, q_is3, q_is4, q_is5, q_is6, q_it, q_itt, q_rev, q_callT, q_calli, q_callb, imm_i, imm_b, imm_l, imm_k, imm_s, imm_n, imm_c, rcvB, hmod]
      have := dr (W := W) (n := n) (c + 41 * q) 3 (1 + k % 4) (by omega)
      simp only [this, e_var, e_con, e_glb, e_bin, e_un, e_and, e_or, e_cmp, e_chn, e_ite, e_lst, e_tup, e_dic0, e_dic, e_comp, e_call, e_bi, e_mth, e_rcv, e_att, e_idx, e_rev, e_slc, e_sort, l_nil, l_cons, i_seq, i_rng, i_rng1, i_enum, i_zip, v_shr, v_own, v_dic, g_some, o_bin, o_un, o_andT, o_andF, o_orT, o_orF, o_bol, o_cmp, o_chn, o_chT, o_chF, o_iteT, o_iteF, o_lst, o_tup, o_dic, o_cons, o_comp, o_endC, o_call, o_cl, o_clE, o_bi, o_mth, o_mth2, o_rcv, o_att, o_idx, o_rev, o_slc, o_sort, o_it, o_rng, o_rng1, o_enum, o_zip, ct_nm, ct_tp, ct_T, ct_F, ct_2, List.map_cons, List.map_nil, List.replicate, List.append_nil, List.cons_append, List.nil_append, Nat.sub_self, List.length_cons, List.length_nil, List.getElem?_cons_zero, List.getElem?_cons_succ, List.set_cons_zero, List.set_cons_succ, cmb, wipeE, if_true, if_false, Bool.not_true, Bool.not_false, Bool.false_eq_true, Bool.true_and, Bool.and_true, Bool.false_or, Bool.or_false, Bool.or_true, Bool.true_or, Bool.and_self, and_self, Bool.false_and, Bool.and_false, Int.reduceLT, Int.reduceLE, Int.reduceNeg, Nat.reduceAdd, Nat.reduceMul, Nat.reduceSub, Nat.reduceBEq, q_add, q_sub, q_mulr, q_mull, q_mod, q_fdiv, q_not, q_neg, q_lt, q_le, q_gt, q_ge, q_eqi, q_nei, q_neb, q_isb, q_t0, q_t1, q_len, q_lent, q_lens, q_list, q_listt, q_tuple, q_is1, q_is2, q_is3, q_is4, q_is5, q_is6, q_it, q_itt, q_rev, q_callT, q_calli, q_callb, imm_i, imm_b, imm_l, imm_k, imm_s, imm_n, imm_c, rcvB]
      by_cases h : drawN (c + 41 * q) 3 (1 + k % 4) = 0
      · simp only [h, e_var, e_con, e_glb, e_bin, e_un, e_and, e_or, e_cmp, e_chn, e_ite, e_lst, e_tup, e_dic0, e_dic, e_comp, e_call, e_bi, e_mth, e_rcv, e_att, e_idx, e_rev, e_slc, e_sort, l_nil, l_cons, i_seq, i_rng, i_rng1, i_enum, i_zip, v_shr, v_own, v_dic, g_some, o_bin, o_un, o_andT, o_andF, o_orT, o_orF, o_bol, o_cmp, o_chn, o_chT, o_chF, o_iteT, o_iteF, o_lst, o_tup, o_dic, o_cons, o_comp, o_endC, o_call, o_cl, o_clE, o_bi, o_mth, o_mth2, o_rcv, o_att, o_idx, o_rev, o_slc, o_sort, o_it, o_rng, o_rng1, o_enum, o_zip, ct_nm, ct_tp, ct_T, ct_F, ct_2, List.map_cons, List.map_nil, List.replicate, List.append_nil, List.cons_append, List.nil_append, Nat.sub_self, List.length_cons, List.length_nil, List.getElem?_cons_zero, List.getElem?_cons_succ, List.set_cons_zero, List.set_cons_succ, cmb, wipeE, if_true, if_false, Bool.not_true, Bool.not_false, Bool.false_eq_true, Bool.true_and, Bool.and_true, Bool.false_or, Bool.or_false, Bool.or_true, Bool.true_or, Bool.and_self, and_self, Bool.false_and, Bool.and_false, Int.reduceLT, Int.reduceLE, Int.reduceNeg, Nat.reduceAdd, Nat.reduceMul, Nat.reduceSub, Nat.reduceBEq, q_add, q_sub, q_mulr, q_mull, q_mod, q_fdiv, q_not, q_neg, q_lt, q_le, q_gt, q_ge, q_eqi, q_nei, q_neb, q_isb, q_t0, q_t1, q_len, q_lent, q_lens, q_list, q_listt, q_tuple, q_is1, q_is2, q_is3, q_is4, q_is5, q_is6, q_it, q_itt, q_rev, q_callT, q_calli, q_callb, imm_i, imm_b, imm_l, imm_k, imm_s, imm_n, imm_c, rcvB]
        rfl
      · have h1 : ((drawN (c + 41 * q) 3 (1 + k % 4) : Nat) : Int) ≠ 0 := by omega
        simp only [beq_eq_false_iff_ne.mpr h1, beq_eq_false_iff_ne.mpr h, e_var, e_con, e_glb, e_bin, e_un, e_and, e_or, e_cmp, e_chn, e_ite, e_lst, e_tup, e_dic0, e_dic, e_comp, e_call, e_bi, e_mth, e_rcv, e_att, e_idx, e_rev, e_slc, e_sort, l_nil, l_cons, i_seq, i_rng, i_rng1, i_enum, i_zip, v_shr, v_own, v_dic, g_some, o_bin, o_un, o_andT, o_andF, o_orT, o_orF, o_bol, o_cmp, o_chn, o_chT, o_chF, o_iteT, o_iteF, o_lst, o_tup, o_dic, o_cons, o_comp, o_endC, o_call, o_cl, o_clE, o_bi, o_mth, o_mth2, o_rcv, o_att, o_idx, o_rev, o_slc, o_sort, o_it, o_rng, o_rng1, o_enum, o_zip, ct_nm, ct_tp, ct_T, ct_F, ct_2, List.map_cons, List.map_nil, List.replicate, List.append_nil, List.cons_append, List.nil_append, Nat.sub_self, List.length_cons, List.length_nil, List.getElem?_cons_zero, List.getElem?_cons_succ, List.set_cons_zero, List.set_cons_succ, cmb, wipeE, if_true, if_false, Bool.not_true, Bool.not_false, Bool.false_eq_true, Bool.true_and, Bool.and_true, Bool.false_or, Bool.or_false, Bool.or_true, Bool.true_or, Bool.and_self, and_self, Bool.false_and, Bool.and_false, Int.reduceLT, Int.reduceLE, Int.reduceNeg, Nat.reduceAdd, Nat.reduceMul, Nat.reduceSub, Nat.reduceBEq, q_add, q_sub, q_mulr, q_mull, q_mod, q_fdiv, q_not, q_neg, q_lt, q_le, q_gt, q_ge, q_eqi, q_nei, q_neb, q_isb, q_t0, q_t1, q_len, q_lent, q_lens, q_list, q_listt, q_tuple, q_is1, q_is2, q_is3, q_is4, q_is5, q_is6, q_it, q_itt, q_rev, q_callT, q_calli, q_callb, imm_i, imm_b, imm_l, imm_k, imm_s, imm_n, imm_c, rcvB])]
    generalize hs : (List.range nn).filter (fun q : Nat => drawN (c + 41 * q) 3 (1 + k % 4) == 0) = some0
    have hso : some0.Nodup := by rw [← hs]; exact List.Pairwise.filter _ List.nodup_range
    have hsm : ∀ q ∈ some0, q < nn := fun q hq => by rw [← hs] at hq; exact List.mem_range.mp (List.mem_filter.mp hq).1
    clear hs
    obtain ⟨some8, h8⟩ : ∃ l8, l8 = some0.take 8 := ⟨_, rfl⟩
    have hl8 : some8.length ≤ 8 := by rw [h8]; simp; omega
    have hs8 : some8.Nodup := by rw [h8]; exact List.Pairwise.sublist (List.take_sublist 8 some0) hso
    have hsm8 : ∀ q ∈ some8, q < nn := fun q hq => by rw [h8] at hq; exact hsm q (List.mem_of_mem_take hq)
    have hcut : ∀ (f g h : Fl), slcV (.lst (some0.map fun k : Nat => D.int (k : Int)), f) .non (.int 8) = .ok (.lst (natD some8), ⟨true, true, true⟩) := fun f g h => by
      have e : cutD (some0.map fun k : Nat => D.int (k : Int)) none (some 8) = natD some8 := by
        show ((some0.map fun k : Nat => D.int (k : Int)).drop _).take _ = _
        rw [h8]
        unfold natD HT.sIx
        simp
      show R.ok (mkL (cutD (some0.map fun k : Nat => D.int (k : Int)) none (some 8)) f.n) = _
      rw [e]
      unfold mkL
      rw [natD_imm, Bool.or_true]
    have hfr8 := hfr some8.reverse (List.pairwise_reverse.mpr (hs8.imp Ne.symm)) (by rw [List.length_reverse]; omega) (fun q hq => hsm8 q (List.mem_reverse.mp hq))
    rw [natD_rev] at hfr8
    have hbits : run tab.tb W (n + 6) (.fn "_law_bits") [.lst (natD (some8.map fun k => l.getD k 0))] = .ok (.bl (sumsF [0] (some8.map fun k => l.getD k 0)), true) := r_bits (n := n + 5) rfl _ (by simp; omega)
    have heq : fits [] (some8.reverse.map fun k => l.getD k 0) = sumsF [0] (some8.map fun k => l.getD k 0) := by rw [List.map_reverse, fits_sums]
    have hrv : eqvL (natD some8).reverse (natD some8).reverse = true := by rw [← natD_rev, eqvL_nats]; simp
    have hdr : ((natD some8).reverse).all (D.dat 59) = true := by rw [← natD_rev]; exact natD_dat _
    have hir : ((natD some8).reverse).all D.imm = true := by rw [← natD_rev]; exact natD_imm _
    simp only [e_var, e_con, e_glb, e_bin, e_un, e_and, e_or, e_cmp, e_chn, e_ite, e_lst, e_tup, e_dic0, e_dic, e_comp, e_call, e_bi, e_mth, e_rcv, e_att, e_idx, e_rev, e_slc, e_sort, l_nil, l_cons, i_seq, i_rng, i_rng1, i_enum, i_zip, v_shr, v_own, v_dic, g_some, o_bin, o_un, o_andT, o_andF, o_orT, o_orF, o_bol, o_cmp, o_chn, o_chT, o_chF, o_iteT, o_iteF, o_lst, o_tup, o_dic, o_cons, o_comp, o_endC, o_call, o_cl, o_clE, o_bi, o_mth, o_mth2, o_rcv, o_att, o_idx, o_rev, o_slc, o_sort, o_it, o_rng, o_rng1, o_enum, o_zip, ct_nm, ct_tp, ct_T, ct_F, ct_2, List.map_cons, List.map_nil, List.replicate, List.append_nil, List.cons_append, List.nil_append, Nat.sub_self, List.length_cons, List.length_nil, List.getElem?_cons_zero, List.getElem?_cons_succ, List.set_cons_zero, List.set_cons_succ, cmb, wipeE, if_true, if_false, Bool.not_true, Bool.not_false, Bool.false_eq_true, Bool.true_and, Bool.and_true, Bool.false_or, Bool.or_false, Bool.or_true, Bool.true_or, Bool.and_self, and_self, Bool.false_and, Bool.and_false, Int.reduceLT, Int.reduceLE, Int.reduceNeg, Nat.reduceAdd, Nat.reduceMul, Nat.reduceSub, Nat.reduceBEq, q_add, q_sub, q_mulr, q_mull, q_mod, q_fdiv, q_not, q_neg, q_lt, q_le, q_gt, q_ge, q_eqi, q_nei, q_neb, q_isb, q_t0, q_t1, q_len, q_lent, q_lens, q_list, q_listt, q_tuple, q_is1, q_is2, q_is3, q_is4, q_is5, q_is6, q_it, q_itt, q_rev, q_callT, q_calli, q_callb, imm_i, imm_b, imm_l, imm_k, imm_s, imm_n, imm_c, rcvB, xs_nil, xs_cons, x_asg, x_asgT, x_par, x_fld, x_ite, x_for, x_ret, x_rai, x_expr, x_pass, x_clr, x_app, x_pop, x_set, s_nx, s_rt, s_exc, lk_nil, lk_end, lk_cons, List.contains_cons, List.contains_nil, sl_L, sl_K, sl_O, sl_V, sl_F, it_V, it_r1, it_r2, it_e, it_z, w_L, w_Lk, w_Ls, w_K, w_Kl, w_O, w_V, w_Vk, w_Vs, w_F, w_Fk, w_Fs, w_Fo, w_Fn, w_it, w_itn, a_asg, a_asgE, a_nx, a_asgT, a_par, a_retO, a_retS, a_retN, a_ret, a_retE, a_app, a_clr, a_set, a_setK, a_expr, a_exprE, a_iteT, a_iteF, a_iteE, a_for, a_forO, a_forN, t_nm, t_tp, fo_shr, fo_lst, fo_dic, fo_no, en_rt, en_nx, en_exc, frz, esc, esc.escs, esc.escb, escI, tgSlots, putL, putS, D.isL, ownV, q_asg, q_asgb, q_asgt, q_asgo, q_asgl, q_nm, q_tp, hcut ⟨true, true, true⟩ ⟨true, true, true⟩ ⟨true, true, true⟩, natD_imm, hir, hf2, hfr8]
    rw [← heq] at hbits
    generalize hq : compL _ _ _ _ _ _ _ _ = q
    have hq2 := hq.symm.trans (compL_all (g := fun k : Nat => D.int (k : Int)) (f := fun k : Nat => D.int ((l.getD k 0 : Nat) : Int)) fun q hq => by
      have hg : l[q]? = some (l.getD q 0) := by
        have := hsm8 q hq
        rw [List.getElem?_eq_getElem (by omega), List.getD_eq_getElem?_getD, List.getElem?_eq_getElem (by omega)]
        rfl
      simp only [e_var, e_con, e_glb, e_bin, e_un, e_and, e_or, e_cmp, e_chn, e_ite, e_lst, e_tup, e_dic0, e_dic, e_comp, e_call, e_bi, e_mth, e_rcv, e_att, e_idx, e_rev, e_slc, e_sort, l_nil, l_cons, i_seq, i_rng, i_rng1, i_enum, i_zip, v_shr, v_own, v_dic, g_some, o_bin, o_un, o_andT, o_andF, o_orT, o_orF, o_bol, o_cmp, o_chn, o_chT, o_chF, o_iteT, o_iteF, o_lst, o_tup, o_dic, o_cons, o_comp, o_endC, o_call, o_cl, o_clE, o_bi, o_mth, o_mth2, o_rcv, o_att, o_idx, o_rev, o_slc, o_sort, o_it, o_rng, o_rng1, o_enum, o_zip, ct_nm, ct_tp, ct_T, ct_F, ct_2, List.map_cons, List.map_nil, List.replicate, List.append_nil, List.cons_append, List.nil_append, Nat.sub_self, List.length_cons, List.length_nil, List.getElem?_cons_zero, List.getElem?_cons_succ, List.set_cons_zero, List.set_cons_succ, cmb, wipeE, if_true, if_false, Bool.not_true, Bool.not_false, Bool.false_eq_true, Bool.true_and, Bool.and_true, Bool.false_or, Bool.or_false, Bool.or_true, Bool.true_or, Bool.and_self, and_self, Bool.false_and, Bool.and_false, Int.reduceLT, Int.reduceLE, Int.reduceNeg, Nat.reduceAdd, Nat.reduceMul, Nat.reduceSub, Nat.reduceBEq, q_add, q_sub, q_mulr, q_mull, q_mod, q_fdiv, q_not, q_neg, q_lt, q_le, q_gt, q_ge, q_eqi, q_nei, q_neb, q_isb, q_t0, q_t1, q_len, q_lent, q_lens, q_list, q_listt, q_tuple, q_is1, q_is2, q_is3, q_is4, q_is5, q_is6, q_it, q_itt, q_rev, q_callT, q_calli, q_callb, imm_i, imm_b, imm_l, imm_k, imm_s, imm_n, imm_c, rcvB, q_ixl (natD_get hg)])
    rw [show some8.map (fun k : Nat => D.int ((l.getD k 0 : Nat) : Int)) = natD (some8.map fun k => l.getD k 0) by unfold natD; rw [List.map_map]; rfl] at hq2
    subst hq2
    clear hq
    simp only [e_var, e_con, e_glb, e_bin, e_un, e_and, e_or, e_cmp, e_chn, e_ite, e_lst, e_tup, e_dic0, e_dic, e_comp, e_call, e_bi, e_mth, e_rcv, e_att, e_idx, e_rev, e_slc, e_sort, l_nil, l_cons, i_seq, i_rng, i_rng1, i_enum, i_zip, v_shr, v_own, v_dic, g_some, o_bin, o_un, o_andT, o_andF, o_orT, o_orF, o_bol, o_cmp, o_chn, o_chT, o_chF, o_iteT, o_iteF, o_lst, o_tup, o_dic, o_cons, o_comp, o_endC, o_call, o_cl, o_clE, o_bi, o_mth, o_mth2, o_rcv, o_att, o_idx, o_rev, o_slc, o_sort, o_it, o_rng, o_rng1, o_enum, o_zip, ct_nm, ct_tp, ct_T, ct_F, ct_2, List.map_cons, List.map_nil, List.replicate, List.append_nil, List.cons_append, List.nil_append, Nat.sub_self, List.length_cons, List.length_nil, List.getElem?_cons_zero, List.getElem?_cons_succ, List.set_cons_zero, List.set_cons_succ, cmb, wipeE, if_true, if_false, Bool.not_true, Bool.not_false, Bool.false_eq_true, Bool.true_and, Bool.and_true, Bool.false_or, Bool.or_false, Bool.or_true, Bool.true_or, Bool.and_self, and_self, Bool.false_and, Bool.and_false, Int.reduceLT, Int.reduceLE, Int.reduceNeg, Nat.reduceAdd, Nat.reduceMul, Nat.reduceSub, Nat.reduceBEq, q_add, q_sub, q_mulr, q_mull, q_mod, q_fdiv, q_not, q_neg, q_lt, q_le, q_gt, q_ge, q_eqi, q_nei, q_neb, q_isb, q_t0, q_t1, q_len, q_lent, q_lens, q_list, q_listt, q_tuple, q_is1, q_is2, q_is3, q_is4, q_is5, q_is6, q_it, q_itt, q_rev, q_callT, q_calli, q_callb, imm_i, imm_b, imm_l, imm_k, imm_s, imm_n, imm_c, rcvB, xs_nil, xs_cons, x_asg, x_asgT, x_par, x_fld, x_ite, x_for, x_ret, x_rai, x_expr, x_pass, x_clr, x_app, x_pop, x_set, s_nx, s_rt, s_exc, lk_nil, lk_end, lk_cons, List.contains_cons, List.contains_nil, sl_L, sl_K, sl_O, sl_V, sl_F, it_V, it_r1, it_r2, it_e, it_z, w_L, w_Lk, w_Ls, w_K, w_Kl, w_O, w_V, w_Vk, w_Vs, w_F, w_Fk, w_Fs, w_Fo, w_Fn, w_it, w_itn, a_asg, a_asgE, a_nx, a_asgT, a_par, a_retO, a_retS, a_retN, a_ret, a_retE, a_app, a_clr, a_set, a_setK, a_expr, a_exprE, a_iteT, a_iteF, a_iteE, a_for, a_forO, a_forN, t_nm, t_tp, fo_shr, fo_lst, fo_dic, fo_no, en_rt, en_nx, en_exc, frz, esc, esc.escs, esc.escb, escI, tgSlots, putL, putS, D.isL, ownV, q_asg, q_asgb, q_asgt, q_asgo, q_asgl, q_nm, q_tp, hbits, beq_self_eq_true, q_nel hdr hdr, hrv]
    exact ⟨_, rfl, _, _, _, _, _, rfl⟩)
  clear hz
  simp only [e_var, e_con, e_glb, e_bin, e_un, e_and, e_or, e_cmp, e_chn, e_ite, e_lst, e_tup, e_dic0, e_dic, e_comp, e_call, e_bi, e_mth, e_rcv, e_att, e_idx, e_rev, e_slc, e_sort, l_nil, l_cons, i_seq, i_rng, i_rng1, i_enum, i_zip, v_shr, v_own, v_dic, g_some, o_bin, o_un, o_andT, o_andF, o_orT, o_orF, o_bol, o_cmp, o_chn, o_chT, o_chF, o_iteT, o_iteF, o_lst, o_tup, o_dic, o_cons, o_comp, o_endC, o_call, o_cl, o_clE, o_bi, o_mth, o_mth2, o_rcv, o_att, o_idx, o_rev, o_slc, o_sort, o_it, o_rng, o_rng1, o_enum, o_zip, ct_nm, ct_tp, ct_T, ct_F, ct_2, List.map_cons, List.map_nil, List.replicate, List.append_nil, List.cons_append, List.nil_append, Nat.sub_self, List.length_cons, List.length_nil, List.getElem?_cons_zero, List.getElem?_cons_succ, List.set_cons_zero, List.set_cons_succ, cmb, wipeE, if_true, if_false, Bool.not_true, Bool.not_false, Bool.false_eq_true, Bool.true_and, Bool.and_true, Bool.false_or, Bool.or_false, Bool.or_true, Bool.true_or, Bool.and_self, and_self, Bool.false_and, Bool.and_false, Int.reduceLT, Int.reduceLE, Int.reduceNeg, Nat.reduceAdd, Nat.reduceMul, Nat.reduceSub, Nat.reduceBEq, q_add, q_sub, q_mulr, q_mull, q_mod, q_fdiv, q_not, q_neg, q_lt, q_le, q_gt, q_ge, q_eqi, q_nei, q_neb, q_isb, q_t0, q_t1, q_len, q_lent, q_lens, q_list, q_listt, q_tuple, q_is1, q_is2, q_is3, q_is4, q_is5, q_is6, q_it, q_itt, q_rev, q_callT, q_calli, q_callb, imm_i, imm_b, imm_l, imm_k, imm_s, imm_n, imm_c, rcvB, xs_nil, xs_cons, x_asg, x_asgT, x_par, x_fld, x_ite, x_for, x_ret, x_rai, x_expr, x_pass, x_clr, x_app, x_pop, x_set, s_nx, s_rt, s_exc, lk_nil, lk_end, lk_cons, List.contains_cons, List.contains_nil, sl_L, sl_K, sl_O, sl_V, sl_F, it_V, it_r1, it_r2, it_e, it_z, w_L, w_Lk, w_Ls, w_K, w_Kl, w_O, w_V, w_Vk, w_Vs, w_F, w_Fk, w_Fs, w_Fo, w_Fn, w_it, w_itn, a_asg, a_asgE, a_nx, a_asgT, a_par, a_retO, a_retS, a_retN, a_ret, a_retE, a_app, a_clr, a_set, a_setK, a_expr, a_exprE, a_iteT, a_iteF, a_iteE, a_for, a_forO, a_forN, t_nm, t_tp, fo_shr, fo_lst, fo_dic, fo_no, en_rt, en_nx, en_exc, frz, esc, esc.escs, esc.escb, escI, tgSlots, putL, putS, D.isL, ownV, q_asg, q_asgb, q_asgt, q_asgo, q_asgl, q_nm, q_tp, hf2, hfr0]
  rfl
end K4
theorem law_run (ns : List Int) (h : ns.length ≤ 63) : ∃ m, run tab.tb 100 12 (.fn "law") [.scr ns] = .ok (.bl true, m) := K4.r_law (n := 5) ns
end FS

open PySem PySem.W
open PyProof.Rows
set_option maxHeartbeats 0 in
theorem PySem.Challenge.cw_freesets_k04_bits_holds : PySem.Challenge.rw_freesets_k04_bits.Holds := by
  w_on
  o_law
  k_head
  (case hw => w_witness2)
  k_fill
  refine FS.walk (M := FS.nms) (t := FS.tab) (rules := FS.rls) (excs := FS.exs) (n := 12) (W := 100) (lw := "law") (xs := "_law_script") (l := PySem.Challenge.rw_freesets_k04_bits) rfl rfl ⟨rfl, by decide, by decide⟩ rfl (by decide +kernel) (by rfl) (fun w h Y => PySem.W.kIn_of Y) ?F FS.law_run
  case F =>
    intro w mg h KX G base
    refine' FS.text_mk KX G ?aC_Rule ?aC_Bits ?a_f_law_bits ?l_f_law_bits ?d_f_law_bits ?k_f_law_bits ?a_f_law_cell_at ?l_f_law_cell_at ?d_f_law_cell_at ?k_f_law_cell_at ?a_f_law_draw ?l_f_law_draw ?d_f_law_draw ?k_f_law_draw ?a_f_are_numbers ?l_f_are_numbers ?d_f_are_numbers ?k_f_are_numbers ?a_f_asked_things ?l_f_asked_things ?d_f_asked_things ?k_f_asked_things ?a_f_is_number ?l_f_is_number ?d_f_is_number ?k_f_is_number ?a_f_law ?l_f_law ?d_f_law ?k_f_law ?a_i_Bits ?i_i_Bits ?l_i_Bits ?d_i_Bits ?k_i_Bits ?a_i_Rule ?i_i_Rule ?l_i_Rule ?d_i_Rule ?k_i_Rule ?a_m_Rule_free ?i_m_Rule_free ?l_m_Rule_free ?d_m_Rule_free ?k_m_Rule_free ?a_m_Rule_many ?i_m_Rule_many ?l_m_Rule_many ?d_m_Rule_many ?k_m_Rule_many ?a_m_Rule_stands ?i_m_Rule_stands ?l_m_Rule_stands ?d_m_Rule_stands ?k_m_Rule_stands ?a_m_Bits_stands ?i_m_Bits_stands ?l_m_Bits_stands ?d_m_Bits_stands ?k_m_Bits_stands ?gN ?gT ?pg_Rule ?hd_Rule ?po_Rule ?sa_Rule ?hc_Rule ?mo_Rule ?ba_Rule_NoneType ?bb_Rule_NoneType ?ba_Rule_bool ?bb_Rule_bool ?ba_Rule_int ?bb_Rule_int ?ba_Rule_str ?bb_Rule_str ?ba_Rule_list ?bb_Rule_list ?ba_Rule_tuple ?bb_Rule_tuple ?su_Rule_Rule ?su_Bits_Rule ?na_Rule_rows ?na_Rule_size ?pg_Bits ?hd_Bits ?po_Bits ?sa_Bits ?hc_Bits ?mo_Bits ?ba_Bits_NoneType ?bb_Bits_NoneType ?ba_Bits_bool ?bb_Bits_bool ?ba_Bits_int ?bb_Bits_int ?ba_Bits_str ?bb_Bits_str ?ba_Bits_list ?bb_Bits_list ?ba_Bits_tuple ?bb_Bits_tuple ?su_Rule_Bits ?su_Bits_Bits ?na_Bits_rows ?na_Bits_size ?me_Bits_free ?me_Bits_many ?mk_Bits ?kc_Bits ?sg_Rule ?sr_Rule ?sf_Rule ?ae_BadRule ?xe_BadRule ?ke_BadRule ?be_BadRule ?te_BadRule ?ae_BadThing ?xe_BadThing ?ke_BadThing ?be_BadThing ?te_BadThing ?co_BITS ?co_MOST ?z_len ?z_list ?z_tuple ?z_sorted ?z_sum ?z_max ?z_min ?z_all ?z_any ?z_set ?z_range ?z_isinstance ?z_int ?z_bool ?z_str ?z_enumerate ?z_zip
    (case aC_Rule => k_is)
    (case aC_Bits => k_is)
    (case a_f_law_bits => k_is)
    (case l_f_law_bits => k_is)
    (case d_f_law_bits => k_is)
    (case k_f_law_bits => k_is)
    (case a_f_law_cell_at => k_is)
    (case l_f_law_cell_at => k_is)
    (case d_f_law_cell_at => k_is)
    (case k_f_law_cell_at => k_is)
    (case a_f_law_draw => k_is)
    (case l_f_law_draw => k_is)
    (case d_f_law_draw => k_is)
    (case k_f_law_draw => k_is)
    (case a_f_are_numbers => k_is)
    (case l_f_are_numbers => k_is)
    (case d_f_are_numbers => k_is)
    (case k_f_are_numbers => k_is)
    (case a_f_asked_things => k_is)
    (case l_f_asked_things => k_is)
    (case d_f_asked_things => k_is)
    (case k_f_asked_things => k_is)
    (case a_f_is_number => k_is)
    (case l_f_is_number => k_is)
    (case d_f_is_number => k_is)
    (case k_f_is_number => k_is)
    (case a_f_law => k_is)
    (case l_f_law => k_is)
    (case d_f_law => k_is)
    (case k_f_law => k_is)
    (case a_i_Bits => k_is)
    (case i_i_Bits => k_is)
    (case l_i_Bits => k_is)
    (case d_i_Bits => k_is)
    (case k_i_Bits => k_is)
    (case a_i_Rule => k_is)
    (case i_i_Rule => k_is)
    (case l_i_Rule => k_is)
    (case d_i_Rule => k_is)
    (case k_i_Rule => k_is)
    (case a_m_Rule_free => k_is)
    (case i_m_Rule_free => k_is)
    (case l_m_Rule_free => k_is)
    (case d_m_Rule_free => k_is)
    (case k_m_Rule_free => k_is)
    (case a_m_Rule_many => k_is)
    (case i_m_Rule_many => k_is)
    (case l_m_Rule_many => k_is)
    (case d_m_Rule_many => k_is)
    (case k_m_Rule_many => k_is)
    (case a_m_Rule_stands => k_is)
    (case i_m_Rule_stands => k_is)
    (case l_m_Rule_stands => k_is)
    (case d_m_Rule_stands => k_is)
    (case k_m_Rule_stands => k_is)
    (case a_m_Bits_stands => k_is)
    (case i_m_Bits_stands => k_is)
    (case l_m_Bits_stands => k_is)
    (case d_m_Bits_stands => k_is)
    (case k_m_Bits_stands => k_is)
    (case gN => k_is)
    (case gT => k_is)
    (case pg_Rule => k_is)
    (case hd_Rule => k_is)
    (case po_Rule => k_is)
    (case sa_Rule => k_is)
    (case hc_Rule => k_is)
    (case mo_Rule => k_is)
    (case ba_Rule_NoneType => kit_is)
    (case bb_Rule_NoneType => kit_is)
    (case ba_Rule_bool => kit_is)
    (case bb_Rule_bool => kit_is)
    (case ba_Rule_int => kit_is)
    (case bb_Rule_int => kit_is)
    (case ba_Rule_str => kit_is)
    (case bb_Rule_str => kit_is)
    (case ba_Rule_list => kit_is)
    (case bb_Rule_list => kit_is)
    (case ba_Rule_tuple => kit_is)
    (case bb_Rule_tuple => kit_is)
    (case su_Rule_Rule => kit_is)
    (case su_Bits_Rule => kit_is)
    (case na_Rule_rows => k_is)
    (case na_Rule_size => k_is)
    (case pg_Bits => k_is)
    (case hd_Bits => k_is)
    (case po_Bits => k_is)
    (case sa_Bits => k_is)
    (case hc_Bits => k_is)
    (case mo_Bits => k_is)
    (case ba_Bits_NoneType => kit_is)
    (case bb_Bits_NoneType => kit_is)
    (case ba_Bits_bool => kit_is)
    (case bb_Bits_bool => kit_is)
    (case ba_Bits_int => kit_is)
    (case bb_Bits_int => kit_is)
    (case ba_Bits_str => kit_is)
    (case bb_Bits_str => kit_is)
    (case ba_Bits_list => kit_is)
    (case bb_Bits_list => kit_is)
    (case ba_Bits_tuple => kit_is)
    (case bb_Bits_tuple => kit_is)
    (case su_Rule_Bits => kit_is)
    (case su_Bits_Bits => kit_is)
    (case na_Bits_rows => k_is)
    (case na_Bits_size => k_is)
    (case me_Bits_free => k_is)
    (case me_Bits_many => k_is)
    (case mk_Bits => k_is)
    (case kc_Bits => k_is)
    (case sg_Rule => k_is)
    (case sr_Rule => k_is)
    (case sf_Rule => k_is)
    (case ae_BadRule => k_is)
    (case xe_BadRule => k_exc)
    (case ke_BadRule => k_is)
    (case be_BadRule => k_is)
    (case te_BadRule => k_is)
    (case ae_BadThing => k_is)
    (case xe_BadThing => k_exc)
    (case ke_BadThing => k_is)
    (case be_BadThing => k_is)
    (case te_BadThing => k_is)
    (case co_BITS => k_is)
    (case co_MOST => k_is)
    (case z_len => k_is)
    (case z_list => k_is)
    (case z_tuple => k_is)
    (case z_sorted => k_is)
    (case z_sum => k_is)
    (case z_max => k_is)
    (case z_min => k_is)
    (case z_all => k_is)
    (case z_any => k_is)
    (case z_set => k_is)
    (case z_range => k_is)
    (case z_isinstance => k_is)
    (case z_int => k_is)
    (case z_bool => k_is)
    (case z_str => k_is)
    (case z_enumerate => k_is)
    (case z_zip => k_is)
