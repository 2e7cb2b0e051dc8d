import PyProof.Rows.All
import PySem.Str
import HandS.Text
import HandS.StrMore
import HandS.ForMost
import HandS.Lambda
import KE.KDictKeyed
import HandS.TupAny
import HandS.TupMul
import HandS.TupLe
import HandS.ForExc
import HandS.Style
import HandS.IsInst
import KE.KeyNested
import KE.DataCmp
import HandS.SortOrd
import HandS.Conv
import KE.DataMinMax
import KE.SortData
import HandS.Zip
import HandS.CallSlots
import HandS.CallLocal
import HandS.EndTab
import HandS.TryMany
import HandS.Defaults
import HandS.ExcOwn
import HandS.HeadHook1
import HandS.Dict
import HandS.EndOwn
import HandS.HeadHook2
import HandS.HeadHook4
import HandS.HeadWalk
import HandS.TupLen
import PyProof.DictTruth
import KE.KDictWalk
import KE.KDictList
import KE.SortCalls
import HandS.Deep
import KE.GoesEnum
import KE.KDictPairs
import HandS.TupSets
import HandS.Head0
import HandS.Head1
import HandS.Head2
import HandS.HeadHook3
import PySem.Challenge.RW_stallrows_k06_narrow_places
section
set_option autoImplicit false
set_option linter.all false
/-! Sr0: a small value-level core language for the programs of this row, and its evaluator in plain Lean. -/
namespace Sr
open PySem PySem.Spec PyProof.Rows


/-! ### data -/
/-- a value: trees of None, bools, ints, texts, tuples, lists, dicts (keys and values side by side); a def by its number; an object of the store by its number; the lambda at hand; the script -/
inductive D where
  | non | bl (b : Bool) | int (i : Int) | str (z : Str)
  | tup (l : List D) | lst (l : List D) | dic (ks vs : List D)
  | fn (f : Nat) | own (k : Nat) | scr (ns : List Int)
  deriving Inhabited

/-- what an object of the store holds -/
inductive Nd where
  | lst (l : List D) | dic (ks vs : List D) | ins (c : Nat) (fs : List (Str × D))
  deriving Inhabited

def b2i (b : Bool) : Int := if b then 1 else 0

mutual
/-- x == y -/
def D.eqv : D → D → Bool
  | .non, .non => true
  | .bl a, .bl b => a == b
  | .bl a, .int j => b2i a == j
  | .int i, .bl b => i == b2i b
  | .int i, .int j => i == j
  | .str x, .str y => x == y
  | .tup xs, .tup ys => D.eqvL xs ys
  | .lst xs, .lst ys => D.eqvL xs ys
  | _, _ => false
def D.eqvL : List D → List D → Bool
  | [], [] => true
  | x :: xs, y :: ys => D.eqv x y && D.eqvL xs ys
  | _, _ => false
end
mutual
/-- data that == and in may be asked of -/
def D.pln : D → Bool
  | .non => true | .bl _ => true | .int _ => true | .str _ => true
  | .tup l => D.plnL l | .lst l => D.plnL l
  | _ => false
def D.plnL : List D → Bool
  | [] => true
  | x :: xs => D.pln x && D.plnL xs
end
mutual
def D.dep : D → Nat
  | .tup l => D.depL l + 1 | .lst l => D.depL l + 1
  | _ => 0
def D.depL : List D → Nat
  | [] => 0
  | x :: xs => max (D.dep x) (D.depL xs)
end
mutual
/-- x and y can be compared by < : ints, tuples of such -/
def D.alk : D → D → Bool
  | .int _, .int _ => true
  | .tup xs, .tup ys => D.alkL xs ys
  | _, _ => false
def D.alkL : List D → List D → Bool
  | x :: xs, y :: ys => D.alk x y && D.alkL xs ys
  | _, _ => true
end
mutual
/-- x < y -/
def D.ltB : D → D → Bool
  | .int i, .int j => decide (i < j)
  | .tup xs, .tup ys => D.ltL xs ys
  | _, _ => false
def D.ltL : List D → List D → Bool
  | x :: xs, y :: ys => if D.eqv x y then D.ltL xs ys else D.ltB x y
  | [], _ :: _ => true
  | _, [] => false
end
mutual
/-- what may be a key of a dict -/
def D.isKey : D → Bool
  | .non => true | .int _ => true | .str _ => true
  | .tup l => D.isKeyL l
  | _ => false
def D.isKeyL : List D → Bool
  | [] => true
  | x :: xs => D.isKey x && D.isKeyL xs
end
def D.isTup : D → Bool
  | .tup _ => true
  | _ => false
def D.flatK : D → Bool
  | .int _ => true | .str _ => true
  | _ => false
mutual
/-- no object of the store in it -/
def D.noOwn : D → Bool
  | .own _ => false
  | .tup l => D.noOwnL l | .lst l => D.noOwnL l | .dic ks vs => D.noOwnL ks && D.noOwnL vs
  | _ => true
def D.noOwnL : List D → Bool
  | [] => true
  | x :: xs => D.noOwn x && D.noOwnL xs
end
mutual
/-- nothing in it that can be changed -/
def D.immut : D → Bool
  | .non => true | .bl _ => true | .int _ => true | .str _ => true | .fn _ => true
  | .tup l => D.immutL l
  | _ => false
def D.immutL : List D → Bool
  | [] => true
  | x :: xs => D.immut x && D.immutL xs
end
def D.immutKids : D → Bool
  | .tup l => D.immutL l | .lst l => D.immutL l | .dic ks vs => D.immutL ks && D.immutL vs
  | d => d.immut

def SZ : Nat := 16777216

/-! ### results -/
/-- a value and the store; an error of the class c with its fields; nothing is known -/
inductive R (α : Type) where
  | ok (a : α) (T : List Nd) | ex (c : Nat) (fs : List D) (T : List Nd) | no
def Mo (α : Type) := List Nd → R α
@[reducible] def Mo.ret {α : Type} (a : α) : Mo α := fun T => .ok a T
def R.bind {α β : Type} (r : R α) (f : α → Mo β) : R β :=
  match r with
  | .ok a T => f a T
  | .ex c fs T => .ex c fs T
  | .no => .no
def Mo.bind {α β : Type} (x : Mo α) (f : α → Mo β) : Mo β := fun T => (x T).bind f
def stuck {α : Type} : Mo α := fun _ => .no
def ofO {α : Type} : Option α → Mo α
  | some a => Mo.ret a
  | none => stuck
instance : Monad Mo where
  pure := Mo.ret
  bind := Mo.bind

/-! ### the language -/
inductive O2 where | add | sub | mul | fdiv | mod | pow deriving DecidableEq
inductive CO where | eq | ne | lt | le | gt | ge | isIn | notIn | is | isNot deriving DecidableEq
/-- the kinds of values -/
inductive Ty where | non | bool | int | str | tuple | list | dict deriving DecidableEq
/-- built-ins by name; lenSet, sortSet: len(set(x)), sorted(set(x)); lstRng, tupRng: list(range(..)), tuple(range(..)) -/
inductive BI where
  | len | sorted | tuple | list | dict | all | any | sum | max | min | abs | int | str
  | lenSet | sortSet | lstRng | tupRng | isinst (ts : List Ty)
  deriving DecidableEq
inductive MT where | index | count | get | pop | split | join | strip deriving DecidableEq
/-- a target: one name; several, of a tuple -/
inductive Tg where | nm (i : Nat) | tp (is : List Nat) deriving DecidableEq

inductive M where
  | var (i : Nat) | cst (d : D) | gcst (c : Nat) | fnv (f : Nat)
  | tup (es : List M) | lst (es : List M) | dic (ks vs : List M)
  | op2 (o : O2) (a b : M) | neg (a : M)
  | cmp (o : CO) (a b : M) | chn (o1 o2 : CO) (a b c : M)
  | and (a b : M) | or (a b : M) | not (a : M) | ite (c a b : M)
  | idx (a i : M) | slc (a lo hi : M) | nil | rev (a : M)
  | call (f : Nat) (es : List M) | callv (i : Nat) (es : List M)
  | bi (b : BI) (es : List M) | mt (m : MT) (a : M) (es : List M)
  | comp (elt : M) (tg : Tg) (k : Nat) (it : List M) (cond : List M)
  | fld (a : M) (f : Str) | mk (c : Nat) (es : List M) | meth (f : Nat) (a : M) (es : List M)
  | new (a : M) | lam (f : Nat) (body : M) (z : Str)
  deriving Inhabited

/-- what a handler gives back: a constant, name == text, the error's fields -/
inductive HE where | cst (d : D) | heq (i : Nat) (z : Str) | fld (k : Nat) | fld2 (j k : Nat)

inductive S where
  | asg (tg : Tg) (e : M) | asgO (i : Nat) (e : M) | par (is : List (Nat × Bool)) (es : List M)
  | setI (o i e : M) | augI (p : O2) (o i e : M) | aug (p : O2) (i : Nat) (e : M) | setF (o : M) (f : Str) (e : M)
  | expr (e : M) | app (o e : M) | ext (o e : M) | popk (o e : M)
  | iff (c : M) (a b : List S) | forr (k : Nat) (tg : Tg) (it : List M) (body : List S) | whl (c : M) (body : List S)
  | ret (e : M) | retO (i : Nat) | retN | brk | pass | rse (c : Nat) (es : List M)
  | try_ (body : List S) (hs : List (Nat × HE)) | frz (i : Nat)

/-- a def: its parameters, its slots, its body -/
structure Fn where
  np : Nat
  ns : Nat
  body : List S

/-! ### slots -/
inductive Md where | sh | ow | lk | br deriving DecidableEq
/-- a slot: shared data; an object of this frame's own; the same, locked by a loop; an object of a caller's own, lent -/
abbrev Env := List (Option (Md × D))
def Env.look (env : Env) (i : Nat) : Mo D := fun T =>
  match env[i]? with
  | some (some (.sh, d)) => .ok d T
  | _ => .no
def Env.lookAny (env : Env) (i : Nat) : Mo D := fun T =>
  match env[i]? with
  | some (some (_, d)) => .ok d T
  | _ => .no
def Env.free (env : Env) (i : Nat) : Bool :=
  match env[i]? with
  | some (some (.lk, _)) => false
  | some (some (.br, _)) => false
  | some _ => true
  | none => false
def Env.put (env : Env) (i : Nat) (b : Md × D) : Mo Env := fun T => if env.free i then .ok (env.set i (some b)) T else .no
def Env.wipe (env : Env) : List Nat → Env
  | [] => env
  | i :: is => (Env.wipe env is).set i none
def Env.puts (env : Env) : List Nat → List D → Mo Env
  | [], [] => Mo.ret env
  | i :: is, d :: ds => do let e ← env.put i (.sh, d); Env.puts e is ds
  | _, _ => stuck
def Env.target (env : Env) : Tg → D → Mo Env
  | .nm i, d => env.put i (.sh, d)
  | .tp is, .tup ds => env.puts is ds
  | _, _ => stuck

/-! ### what the operators give -/
def noOwn! (d : D) : Mo D := fun T => if d.noOwn then .ok d T else .no
/-- the object of the store, as data -/
def derefT (T : List Nd) : D → Option D
  | .own k => match T[k]? with
    | some (.lst l) => some (.lst l)
    | some (.dic ks vs) => some (.dic ks vs)
    | _ => none
  | d => some d
def deref (d : D) : Mo D := fun T => match derefT T d with | some d => .ok d T | none => .no

def bigOk (i : Int) : Bool := decide (-(2 ^ 64) < i ∧ i < 2 ^ 64)
def repL {α : Type} (l : List α) (k : Int) : List α := (List.replicate k.toNat l).flatten
/-- a o b; whether it is a new object -/
def binop : O2 → D → D → Option (D × Bool)
  | .add, .int i, .int j => some (.int (i + j), false)
  | .add, .str x, .str y => if x.length + y.length ≤ SZ then some (.str (x ++ y), false) else none
  | .add, .tup x, .tup y => if x.length + y.length ≤ SZ then some (.tup (x ++ y), false) else none
  | .add, .lst x, .lst y => if x.length + y.length ≤ SZ then some (.lst (x ++ y), true) else none
  | .sub, .int i, .int j => some (.int (i - j), false)
  | .mul, .int i, .int j => if bigOk i || bigOk j then some (.int (i * j), false) else none
  | .mul, .tup x, .int k => if 2 ≤ k ∧ k ≤ 1000 ∧ x.length ≤ 1000 ∧ x ≠ [] then some (.tup (repL x k), false) else none
  | .mul, .lst x, .int k => if 0 ≤ k ∧ k ≤ 1000 ∧ x.length ≤ 1000 then some (.lst (repL x k), true) else none

  | .fdiv, .int i, .int j => if j ≠ 0 ∧ j.natAbs < 1073741824 then some (.int (i.fdiv j), false) else none
  | .mod, .int i, .int j => if j ≠ 0 then some (.int (i.fmod j), false) else none
  | .pow, .int i, .int j => if 0 ≤ j ∧ j ≤ 1000000 ∧ i.natAbs < 2 ^ 64 then some (.int (i ^ j.toNat), false) else none
  | _, _, _ => none

/-- x in y -/
def memb (x y : D) : Option Bool :=
  match y with
  | .tup l => if x.pln && D.plnL l && decide (x.dep ≤ 64) then some (l.any fun z => z.eqv x) else none
  | .lst l => if x.pln && D.plnL l && decide (x.dep ≤ 64) then some (l.any fun z => z.eqv x) else none
  | .dic ks _ => if x.isKey && decide (x.dep ≤ 8) then (if x.isTup && ks.all D.isTup || x.flatK && ks.all D.flatK then some (ks.any fun z => z.eqv x) else none) else none
  | .str z => match x with
    | .str w => match w.cps.toList with
      | [c] => some (decide (c ∈ z.cps.toList))
      | _ => none
    | _ => none
  | _ => none
def isSame (x y : D) : Option Bool :=
  match y with
  | .non => some (match x with | .non => true | _ => false)
  | .bl b => match x with
    | .bl a => some (a == b)
    | _ => none
  | _ => none
def cmpop : CO → D → D → Option Bool
  | .eq, x, y => if x.pln && y.pln && decide (min x.dep y.dep ≤ 64) then some (x.eqv y) else none
  | .ne, x, y => if x.pln && y.pln && decide (min x.dep y.dep ≤ 64) then some (!x.eqv y) else none
  | .lt, x, y => if x.alk y && x.pln && y.pln && decide (min x.dep y.dep ≤ 64) then some (x.ltB y) else none
  | .gt, x, y => if x.alk y && x.pln && y.pln && decide (min x.dep y.dep ≤ 64) then some (y.ltB x) else none
  | .le, x, y => if x.alk y && x.pln && y.pln && decide (min x.dep y.dep ≤ 64) then some (!y.ltB x) else none
  | .ge, x, y => if x.alk y && x.pln && y.pln && decide (min x.dep y.dep ≤ 64) then some (!x.ltB y) else none
  | .isIn, x, y => memb x y
  | .notIn, x, y => (memb x y).map (!·)
  | .is, x, y => isSame x y
  | .isNot, x, y => (isSame x y).map (!·)

/-! dicts -/
def getK : List D → List D → D → Option D
  | k :: ks, v :: vs, x => if k.eqv x then some v else getK ks vs x
  | _, _, _ => none
def putK : List D → List D → D → D → List D × List D
  | k :: ks, v :: vs, x, y => if k.eqv x then (k :: ks, y :: vs) else let r := putK ks vs x y; (k :: r.1, v :: r.2)
  | _, _, x, y => ([x], [y])
def delK : List D → List D → D → List D × List D
  | k :: ks, v :: vs, x => if k.eqv x then (ks, vs) else let r := delK ks vs x; (k :: r.1, v :: r.2)
  | _, _, _ => ([], [])
/-- x may be asked of, or stored in, a dict with these keys -/
def keyOk (ks : List D) (x : D) : Bool := x.isKey && decide (x.dep ≤ 8) && (x.isTup && ks.all D.isTup || x.flatK && ks.all D.flatK)

def idxop : D → D → Option D
  | .tup l, .int i => L2.atI l i
  | .lst l, .int i => L2.atI l i
  | .str z, .int i => if z.length ≤ SZ then (L2.atI z.cps.toList i).map fun c => .str ⟨#[c]⟩ else none
  | .dic ks vs, x => if keyOk ks x then getK ks vs x else none
  | _, _ => none
def cut {α : Type} (xs : List α) (lo hi : Option Int) : List α := (xs.drop (HT.sIx xs.length 0 lo)).take (HT.sIx xs.length xs.length hi - HT.sIx xs.length 0 lo)
def slop : D → Option Int → Option Int → Option (D × Bool)
  | .tup l, lo, hi => some (.tup (cut l lo hi), false)
  | .lst l, lo, hi => some (.lst (cut l lo hi), true)
  | .str z, lo, hi => if z.length ≤ SZ then some (.str (L2.cutS z lo hi), false) else none
  | .scr ns, lo, hi => some (.lst ((cut ns lo hi).map .int), true)
  | _, _, _ => none
def revop : D → Option (D × Bool)
  | .tup l => some (.tup l.reverse, false)
  | .lst l => some (.lst l.reverse, true)
  | _ => none

def charsD (z : Str) : List D := z.cps.toList.map fun c => .str ⟨#[c]⟩
def rngLen (a b c : Int) : Nat := if 0 < c then ((b - a + c - 1).fdiv c).toNat else if c < 0 then ((a - b - c - 1).fdiv (-c)).toNat else 0
def rngL (a b c : Int) : List D := (List.range (rngLen a b c)).map fun (i : Nat) => D.int (a + (i : Int) * c)
def smallI (i : Int) : Bool := decide (-(1073741824) < i ∧ i < 1073741824)
def rngop : List D → Option (List D)
  | [.int n] => if smallI n then some (rngL 0 n 1) else none
  | [.int a, .int b] => if smallI a && smallI b then some (rngL a b 1) else none
  | [.int a, .int b, .int c] => if smallI a && smallI b && (c == -1) then some (rngL a b c) else none
  | _ => none
/-- what is walked: plain, range, enumerate, zip -/
def items : Nat → List D → Option (List D)
  | 0, [.tup l] => some l
  | 0, [.lst l] => some l
  | 0, [.str z] => some (charsD z)
  | 0, [.dic ks _] => some ks
  | 1, ds => rngop ds
  | 2, [.tup l] => some (l.zipIdx.map fun p => .tup [.int (p.2 : Nat), p.1])
  | 2, [.lst l] => some (l.zipIdx.map fun p => .tup [.int (p.2 : Nat), p.1])
  | 2, [.str z] => some ((charsD z).zipIdx.map fun p => .tup [.int (p.2 : Nat), p.1])
  | 3, [.tup l, .tup m] => some ((l.zip m).map fun p => .tup [p.1, p.2])
  | 3, [.lst l, .lst m] => some ((l.zip m).map fun p => .tup [p.1, p.2])
  | _, _ => none

/-! built-ins -/
/-- the sorted row (equal ones stay in order) -/
def insD (x : D) : List D → List D
  | [] => [x]
  | y :: ys => if y.ltB x then y :: insD x ys else x :: y :: ys
def sortD : List D → List D
  | [] => []
  | x :: xs => insD x (sortD xs)
/-- all are tuples with something in them, or none is a tuple -/
def sortable (l : List D) : Bool := (l.all fun d => match d with | .tup (_ :: _) => true | _ => false) || l.all fun d => match d with | .int _ => true | _ => false
def allAlk (l : List D) : Bool := l.all fun x => x.pln && decide (x.dep ≤ 64) && l.all fun y => x.alk y
/-- the first of each that are equal -/
def dedD : List D → List D
  | [] => []
  | x :: xs => x :: (dedD xs).filter fun y => !(y.eqv x)
def allB : List D → Option (List Bool)
  | [] => some []
  | .bl b :: r => (allB r).map (b :: ·)
  | _ => none
def allI : List D → Option (List Int)
  | [] => some []
  | .int b :: r => (allI r).map (b :: ·)
  | _ => none
def maxI : List Int → Int
  | [] => 0
  | a :: r => r.foldl max a
def minI : List Int → Int
  | [] => 0
  | a :: r => r.foldl min a
def seqOf : D → Option (List D)
  | .tup l => some l
  | .lst l => some l
  | _ => none
def keysOf : D → Option (List D)
  | .tup l => some l
  | .lst l => some l
  | .dic ks _ => some ks
  | _ => none
/-- pairs to keys and values, a later one of the same key wins at the first's place -/
def dictOf : List D → List D → List D → Option (List D × List D)
  | ks, vs, [] => some (ks, vs)
  | ks, vs, .tup [k, v] :: r => if keyOk ks k then dictOf (putK ks vs k v).1 (putK ks vs k v).2 r else none
  | _, _, _ => none
/-- a pair whose first is a tuple -/
def pairT : D → Bool
  | .tup [.tup _, _] => true
  | _ => false
/-- a small number; a row of small numbers, so many; rows of small numbers, alike long, not many -/
def smI : D → Bool
  | .int i => decide (0 ≤ i) && decide (i < 64)
  | _ => false
def smT (n : Nat) : D → Bool
  | .tup l => decide (l.length = n) && l.all smI
  | _ => false
def smN : List D → Nat
  | .tup (_ :: r) :: _ => r.length
  | _ => 0
def smTs (l : List D) : Bool := decide (l.length < 64) && l.all (smT (smN l + 1))
def tyD : D → Option Ty
  | .non => some .non | .bl _ => some .bool | .int _ => some .int | .str _ => some .str
  | .tup _ => some .tuple | .lst _ => some .list | .scr _ => some .list | .dic _ _ => some .dict
  | _ => none
/-- is a value of the kind t one of the kind c -/
def subTy (t c : Ty) : Bool := t == c || (t == .bool && c == .int)
def isTs (t : Ty) (cs : List Ty) : Bool := cs.any fun c => subTy t c
def bip : BI → List D → Option (D × Bool)
  | .len, [.tup l] => some (.int l.length, false)
  | .len, [.lst l] => some (.int l.length, false)
  | .len, [.dic ks _] => some (.int ks.length, false)
  | .len, [.str z] => if z.length ≤ SZ then some (.int z.length, false) else none
  | .sorted, [d] => (seqOf d).bind fun l => if allAlk l && sortable l then some (.lst (sortD l), true) else none
  | .sortSet, [.lst l] => if smTs l then some (.lst (sortD (dedD l)), true) else none
  | .lenSet, [d] => (seqOf d).bind fun l => if l.all D.isKey && l.all (fun x => decide (x.dep ≤ 8)) && decide (l.length < 1000000) then some (.int (dedD l).length, false) else none
  | .tuple, [d] => (seqOf d).map fun l => (.tup l, false)
  | .list, [d] => (keysOf d).map fun l => (.lst l, true)
  | .lstRng, ds => (rngop ds).bind fun l => if l.length ≤ SZ then some (.lst l, true) else none
  | .tupRng, ds => (rngop ds).bind fun l => if l.length ≤ SZ then some (.tup l, false) else none
  | .dict, [.lst l] => if l.all pairT then (dictOf [] [] l).map fun r => (.dic r.1 r.2, true) else none
  | .all, [.lst l] => (allB l).map fun bs => (.bl (bs.all id), false)
  | .any, [.lst l] => (allB l).map fun bs => (.bl (bs.any id), false)
  | .sum, [.lst l] => (allI l).map fun is => (.int is.sum, false)
  | .max, [.int i, .int j] => some (.int (if j > i then j else i), false)
  | .min, [.int i, .int j] => some (.int (if j < i then j else i), false)
  | .max, [d] => (seqOf d).bind fun l => (allI l).bind fun is => if is.isEmpty then none else some (.int (maxI is), false)
  | .min, [d] => (seqOf d).bind fun l => (allI l).bind fun is => if is.isEmpty then none else some (.int (minI is), false)
  | .abs, [.int i] => some (.int (if i < 0 then -i else i), false)
  | .int, [.int i] => some (.int i, false)
  | .str, [.int i] => if i.natAbs < 2 ^ 64 then some (.str (Str.ofString (toString i)), false) else none
  | .isinst cs, [d] => (tyD d).map fun t => (.bl (isTs t cs), false)
  | _, _ => none

def findD : List D → D → Option Nat
  | [], _ => none
  | y :: ys, x => if y.eqv x then some 0 else (findD ys x).map (· + 1)
def strsOf : List D → Option (List Str)
  | [] => some []
  | .str b :: r => (strsOf r).map (b :: ·)
  | _ => none
/-- whose method it is -/
def mtTy : MT → Option Ty
  | .get => some .dict | .index => some .list | .count => some .tuple | .split => some .str | .join => some .str | .strip => some .str | .pop => none
/-- the methods that change nothing -/
def mtp : MT → D → List D → Option (D × Bool)
  | .index, .lst l, [x] => if x.pln && D.plnL l && decide (x.dep ≤ 64) then (findD l x).map fun k => (.int (k : Nat), false) else none
  | .count, .tup l, [.int x] => (allI l).map fun is => (.int ((is.filter (· == x)).length : Nat), false)
  | .get, .dic ks vs, [x] => if keyOk ks x then some ((getK ks vs x).getD .non, false) else none
  | .get, .dic ks vs, [x, y] => if keyOk ks x then some ((getK ks vs x).getD y, false) else none
  | .split, .str z, [.str w] => if w.length = 1 ∧ z.length + 2 ≤ SZ then some (.lst ((Txt.split z w).map .str), true) else none
  | .join, .str z, [.lst l] => (strsOf l).bind fun xs => if z.length = 0 ∧ (xs.map Str.length).sum ≤ SZ ∧ l.length ≤ SZ then some (.str (Txt.join z xs), false) else none
  | .strip, .str z, [.str w] => if z.length ≤ SZ then some (.str (Txt.stripChars z w), false) else none
  | _, _, _ => none

/-! ### the store -/
/-- no object of the store inside another (but for instances) -/
def Nd.nw : Nd → Bool
  | .lst l => D.noOwnL l
  | .dic ks vs => D.noOwnL ks && D.noOwnL vs
  | .ins _ _ => true
def setAt (d : D) (i e : D) : Option D :=
  match d, i with
  | .lst l, .int i => (L2.ixN l.length i).map fun j => .lst (l.set j e)
  | .dic ks vs, x => if keyOk ks x && decide (ks.length < SZ) then some (.dic (putK ks vs x e).1 (putK ks vs x e).2) else none
  | _, _ => none
def appD : D → D → Option D
  | .lst l, e => if l.length < SZ then some (.lst (l ++ [e])) else none
  | _, _ => none
def extD : D → D → Option D
  | .lst l, .lst m => if l.length + m.length < SZ then some (.lst (l ++ m)) else none
  | _, _ => none
def popkD : D → D → Option D
  | .dic ks vs, x => if keyOk ks x && (getK ks vs x).isSome then some (.dic (delK ks vs x).1 (delK ks vs x).2) else none
  | _, _ => none
def toNd : D → Option Nd
  | .lst l => if D.noOwnL l then some (.lst l) else none
  | .dic ks vs => if D.noOwnL ks && D.noOwnL vs then some (.dic ks vs) else none
  | _ => none
/-- the object o of the store is changed by f -/
def updT (o : D) (f : D → Option D) : Mo Unit := fun T =>
  match o with
  | .own k => match (derefT T (.own k)).bind f with
    | some d => match toNd d with
      | some n => .ok () (T.set k n)
      | none => .no
    | none => .no
  | _ => .no
/-- a new object of the store -/
def newT (d : D) : Mo D := fun T =>
  match toNd d with
  | some n => .ok (.own T.length) (T ++ [n])
  | none => .no
/-- l.pop(), l.pop(i) of an object of the store -/
def popT (o : D) (es : List D) : Mo D := fun T =>
  match o with
  | .own k => match T[k]?, es with
    | some (.lst l), [] => match l.getLast? with
      | some d => .ok d (T.set k (.lst l.dropLast))
      | none => .no
    | some (.lst l), [.int i] => if 0 ≤ i ∧ i.toNat < l.length then (match l[i.toNat]? with
      | some d => .ok d (T.set k (.lst (l.eraseIdx i.toNat)))
      | none => .no) else .no
    | _, _ => .no
  | _ => .no

/-! ### the evaluator -/
/-- how a def that gets a lambda answers: of the errors it catches the names; or what NotNow tells -/
inductive LK where | raises (cs : List (Nat × Str)) | refused (c : Nat)
structure Pg where
  fns : Nat → Option Fn
  lks : Nat → Option LK
  nc : Nat
  con : Nat → D

def Env.isOw (env : Env) (i : Nat) : Bool :=
  match env[i]? with
  | some (some (.sh, _)) => false
  | some (some _) => true
  | _ => false
/-- how an argument is handed on -/
def M.mode (env : Env) : M → Md
  | .var i => if env.isOw i then .br else .sh
  | _ => .sh
def fstR : R (D × Bool) → R D
  | .ok a T' => .ok a.1 T'
  | .ex c fs T' => .ex c fs T'
  | .no => .no
def Mo.fst (x : Mo (D × Bool)) : Mo D := fun T => fstR (x T)
def opd (env : Env) (m : M) (x : Mo (D × Bool)) : Mo D :=
  match m with
  | .var i => env.lookAny i
  | _ => x.fst
/-- a bound of a slice: none, a number -/
def optI (env : Env) (m : M) (x : Mo (D × Bool)) : Mo (Option Int) :=
  match m with
  | .nil => Mo.ret none
  | _ => do
    let d ← opd env m x
    match d with
    | .int i => if smallI i then return some i else stuck
    | _ => stuck
def derefs : List D → Mo (List D)
  | [] => Mo.ret []
  | d :: ds => do
    let d ← deref d
    let ds ← derefs ds
    return d :: ds
def bol (d : D) : Mo Bool :=
  match d with
  | .bl b => Mo.ret b
  | _ => stuck
/-- one turn of a comprehension: the target is set, the test, the item -/
def compGo (env : Env) (tg : Tg) (test : Env → Mo Bool) (elt : Env → Mo (D × Bool)) : List D → List Nd → R (List D)
  | [], T => .ok [] T
  | x :: xs, T => match env.target tg x T with
    | .ok e T1 => match test e T1 with
      | .ok true T2 => match elt e T2 with
        | .ok y T3 => match compGo env tg test elt xs T3 with
          | .ok ys T4 => .ok (y.1 :: ys) T4
          | _ => .no
        | _ => .no
      | .ok false T2 => compGo env tg test elt xs T2
      | _ => .no
    | _ => .no
def Tg.slots : Tg → List Nat
  | .nm i => [i]
  | .tp is => is
/-- the first clause that takes an error of the class c (class 0 is above all) -/
def lookX {α : Type} (c : Nat) : List (Nat × α) → Option α
  | [] => none
  | (h, e) :: r => if c == h || h == 0 then some e else lookX c r
def lamEnd (nc : Nat) (k : LK) (z : Str) (r : R (D × Bool)) : R (D × Bool) :=
  match k, r with
  | .raises _, .ok _ T => .ok (.bl false, false) T
  | .raises cs, .ex c fs T => if c < nc then (match lookX c cs with
    | some n => .ok (.bl (z == n), false) T
    | none => .no) else .no
  | .refused _, .ok _ T => .ok (.non, false) T
  | .refused c', .ex c fs T => if c == c' then (match fs with
    | [d] => .ok (d, false) T
    | _ => .no) else .no
  | _, .no => .no

mutual
def ev (P : Pg) (call : Nat → List (Md × D) → Mo (D × Bool)) : M → Env → Mo (D × Bool)
  | .var i, env => do return (← env.look i, false)
  | .cst d, _ => Mo.ret (d, false)
  | .gcst c, _ => Mo.ret (P.con c, false)
  | .fnv f, _ => Mo.ret (.fn f, false)
  | .tup es, env => do let ds ← evs P call es env; return (.tup ds, false)
  | .lst es, env => do let ds ← evs P call es env; return (.lst ds, true)
  | .dic ks vs, env => do
    let ds ← evs P call ks env
    let cs ← evs P call vs env
    let r ← ofO (dictOf [] [] ((ds.zip cs).map fun p => .tup [p.1, p.2]))
    return (.dic r.1 r.2, true)
  | .op2 o a b, env => do
    let x ← opd env a (ev P call a env)
    let y ← opd env b (ev P call b env)
    ofO (binop o x y)
  | .neg a, env => do
    let x ← opd env a (ev P call a env)
    match x with
    | .int i => return (.int (-i), false)
    | _ => stuck
  | .cmp o a b, env => do
    let x ← opd env a (ev P call a env)
    let y ← opd env b (ev P call b env)
    return (.bl (← ofO (cmpop o x y)), false)
  | .chn o1 o2 a b c, env => do
    let x ← opd env a (ev P call a env)
    let y ← opd env b (ev P call b env)
    let k ← ofO (cmpop o1 x y)
    if k then do
      let z ← opd env c (ev P call c env)
      return (.bl (← ofO (cmpop o2 y z)), false)
    else return (.bl false, false)
  | .and a b, env => do
    let x ← opd env a (ev P call a env)
    let k ← bol x
    if k then ev P call b env else return (.bl false, false)
  | .or a b, env => do
    let x ← opd env a (ev P call a env)
    let k ← bol x
    if k then return (.bl true, false) else ev P call b env
  | .not a, env => do
    let x ← opd env a (ev P call a env)
    let k ← bol x
    return (.bl (!k), false)
  | .ite c a b, env => do
    let x ← opd env c (ev P call c env)
    let k ← bol x
    if k then ev P call a env else ev P call b env
  | .idx a i, env => do
    let x ← opd env a (ev P call a env)
    let y ← opd env i (ev P call i env)
    let x ← deref x
    return (← ofO (idxop x y), false)
  | .slc a lo hi, env => do
    let x ← opd env a (ev P call a env)
    let l ← optI env lo (ev P call lo env)
    let h ← optI env hi (ev P call hi env)
    ofO (slop x l h)
  | .nil, _ => stuck
  | .rev a, env => do
    let x ← opd env a (ev P call a env)
    ofO (revop x)
  | .call f es, env => do
    let ds ← evo P call es env
    call f ((es.map (M.mode env)).zip ds)
  | .callv i es, env => do
    let g ← env.look i
    match g with
    | .fn f => match P.fns f with
      | some F => if es.length = F.np then (evo P call es env >>= fun ds => call f ((es.map (M.mode env)).zip ds)) else stuck
      | none => stuck
    | _ => stuck
  | .bi b es, env => do
    let ds ← evo P call es env
    let ds ← derefs ds
    ofO (bip b ds)
  | .mt m a es, env => do
    let x ← opd env a (ev P call a env)
    let x0 ← deref x
    if m == .pop then do
      let ds ← evo P call es env
      if tyD x0 == some .list then return (← popT x ds, false) else stuck
    else if tyD x0 == mtTy m then do
      let ds ← evs P call es env
      let x1 ← deref x
      ofO (mtp m x1 ds)
    else stuck
  | .comp elt tg k it cond, env => do
    let ds ← evo P call it env
    let xs ← ofO (items k ds)
    let ys ← compGo (env.wipe tg.slots) tg (fun e => evc P call cond e) (fun e => ev P call elt e) xs
    if ys.length ≤ SZ then return (.lst ys, true) else stuck
  | .new a, env => do
    let r ← ev P call a env
    if r.2 then return (← newT r.1, false) else stuck
  | .lam f body z, env => fun T =>
    match P.lks f with
    | some k => lamEnd P.nc k z (ev P call body env T)
    | none => .no
  | .fld _ _, _ => stuck
  | .mk _ _, _ => stuck
  | .meth _ _ _, _ => stuck
def evs (P : Pg) (call : Nat → List (Md × D) → Mo (D × Bool)) : List M → Env → Mo (List D)
  | [], _ => Mo.ret []
  | m :: ms, env => do
    let r ← ev P call m env
    let ds ← evs P call ms env
    return r.1 :: ds
def evo (P : Pg) (call : Nat → List (Md × D) → Mo (D × Bool)) : List M → Env → Mo (List D)
  | [], _ => Mo.ret []
  | m :: ms, env => do
    let d ← opd env m (ev P call m env)
    let ds ← evo P call ms env
    return d :: ds
def evc (P : Pg) (call : Nat → List (Md × D) → Mo (D × Bool)) : List M → Env → Mo Bool
  | [], _ => Mo.ret true
  | m :: ms, env => do
    let d ← opd env m (ev P call m env)
    bol d
end

/-! ### statements -/
inductive RS where
  | nx (env : Env) (T : List Nd) | bk (env : Env) (T : List Nd) | rt (d : D) (fr : Bool) (T : List Nd) | ex (c : Nat) (fs : List D) (env : Env) (T : List Nd) | no
/-- an expression, then what follows -/
def thenR {α : Type} (env : Env) (r : R α) (f : α → List Nd → RS) : RS :=
  match r with
  | .ok a T => f a T
  | .ex c fs T => .ex c fs env T
  | .no => .no
def forGo (tg : Tg) (body : Env → List Nd → RS) : List D → Env → List Nd → RS
  | [], env, T => .nx env T
  | x :: xs, env, T => match env.target tg x T with
    | .ok e T1 => match body e T1 with
      | .nx e2 T2 => forGo tg body xs e2 T2
      | .bk e2 T2 => .nx e2 T2
      | r => r
    | _ => .no
def whlGo (test : Env → List Nd → R Bool) (body : Env → List Nd → RS) : Nat → Env → List Nd → RS
  | 0, _, _ => .no
  | n + 1, env, T => match test env T with
    | .ok true T1 => match body env T1 with
      | .nx e2 T2 => whlGo test body n e2 T2
      | .bk e2 T2 => .nx e2 T2
      | r => r
    | .ok false T1 => .nx env T1
    | .ex c fs T1 => .ex c fs env T1
    | .no => .no
/-- how many turns a while may take -/
def WF : Nat := 1000000000000
def Env.setMd (env : Env) (m : Md) : List Nat → Env
  | [] => env
  | i :: is => match (Env.setMd env m is)[i]? with
    | some (some (_, d)) => (Env.setMd env m is).set i (some (m, d))
    | _ => Env.setMd env m is
/-- the own slots that a loop walks -/
def lockOf (env : Env) : List M → List Nat
  | [] => []
  | .var i :: r => match env[i]? with
    | some (some (.ow, _)) => i :: lockOf env r
    | _ => lockOf env r
  | _ :: r => lockOf env r
def RS.unlock (is : List Nat) : RS → RS
  | .nx e T => .nx (e.setMd .ow is) T
  | .ex c fs e T => .ex c fs (e.setMd .ow is) T
  | r => r
def heval (e : HE) (fs : List D) (env : Env) (T : List Nd) : RS :=
  match e with
  | .cst d => .rt d false T
  | .heq i z => match env[i]? with
    | some (some (.sh, .str y)) => .rt (.bl (y == z)) false T
    | _ => .no
  | .fld k => match fs[k]? with
    | some d => .rt d false T
    | none => .no
  | .fld2 j k => match fs[j]?, fs[k]? with
    | some d, some e => .rt (.tup [d, e]) false T
    | _, _ => .no
/-- the object at hand (o, whose value is x) is changed by f: an own slot, or of the store -/
def updO (env : Env) (o : M) (x : D) (T : List Nd) (f : D → Option D) : RS :=
  match o with
  | .var i => match env[i]? with
    | some (some (.ow, d)) => match f d with
      | some d' => .nx (env.set i (some (.ow, d'))) T
      | none => .no
    | some (some (.sh, d)) => thenR env (updT d f T) fun _ T' => .nx env T'
    | _ => .no
  | _ => thenR env (updT x f T) fun _ T' => .nx env T'
/-- x[i], x an own slot or an object of the store -/
def asgs (env : Env) : List (Nat × Bool) → List (D × Bool) → Mo Env
  | [], [] => Mo.ret env
  | (i, true) :: is, (d, true) :: ds => do let e ← env.put i (.ow, d); asgs e is ds
  | (i, false) :: is, (d, _) :: ds => do let e ← env.put i (.sh, d); asgs e is ds
  | _, _ => stuck
def evp (P : Pg) (call : Nat → List (Md × D) → Mo (D × Bool)) : List M → Env → Mo (List (D × Bool))
  | [], _ => Mo.ret []
  | m :: ms, env => do
    let r ← ev P call m env
    let ds ← evp P call ms env
    return r :: ds
mutual
def exec (P : Pg) (call : Nat → List (Md × D) → Mo (D × Bool)) : S → Env → List Nd → RS
  | .asg tg e, env, T => thenR env (ev P call e env T) fun r T1 => thenR env (env.target tg r.1 T1) fun e2 T2 => .nx e2 T2
  | .asgO i e, env, T => thenR env (ev P call e env T) fun r T1 => if r.2 then thenR env (env.put i (.ow, r.1) T1) fun e2 T2 => .nx e2 T2 else .no
  | .par is es, env, T => thenR env (evp P call es env T) fun rs T1 => thenR env (asgs env is rs T1) fun e2 T2 => .nx e2 T2
  | .setI o i e, env, T => thenR env (ev P call e env T) fun r T1 => thenR env (opd env o (ev P call o env) T1) fun x T2 => thenR env (opd env i (ev P call i env) T2) fun k T3 => updO env o x T3 fun d => setAt d k r.1
  | .augI p o i e, env, T => thenR env (opd env o (ev P call o env) T) fun x T1 => thenR env (opd env i (ev P call i env) T1) fun k T2 => thenR env ((deref x).bind (fun x => ofO (idxop x k)) T2) fun g T3 =>
      thenR env (opd env e (ev P call e env) T3) fun y T4 => thenR env (ofO (binop p g y) T4) fun z T5 =>
      match z.1 with
      | .int n => updO env o x T5 fun d => setAt d k (.int n)
      | _ => .no
  | .aug p i e, env, T => thenR env (env.look i T) fun x T1 => thenR env (opd env e (ev P call e env) T1) fun y T2 => thenR env (ofO (binop p x y) T2) fun z T3 =>
      match z.1 with
      | .int k => thenR env (env.put i (.sh, .int k) T3) fun e2 T4 => .nx e2 T4
      | _ => .no
  | .setF _ _ _, env, T => .no
  | .expr e, env, T => thenR env (ev P call e env T) fun _ T1 => .nx env T1
  | .app o e, env, T => thenR env (opd env o (ev P call o env) T) fun x T1 => if (derefT T1 x).bind tyD != some .list then .no else thenR env (ev P call e env T1) fun r T2 => updO env o x T2 fun d => appD d r.1
  | .ext o e, env, T => thenR env (opd env o (ev P call o env) T) fun x T1 => if (derefT T1 x).bind tyD != some .list then .no else thenR env (opd env e (ev P call e env) T1) fun r T2 => updO env o x T2 fun d => extD d r
  | .popk o e, env, T => thenR env (opd env o (ev P call o env) T) fun x T1 => if (derefT T1 x).bind tyD != some .dict then .no else thenR env (opd env e (ev P call e env) T1) fun r T2 => updO env o x T2 fun d => popkD d r
  | .iff c a b, env, T => thenR env ((opd env c (ev P call c env)).bind bol T) fun k T1 => if k then execs P call a env T1 else execs P call b env T1
  | .forr k tg it body, env, T => thenR env (evo P call it env T) fun ds T1 => match items k ds with
      | some xs => (forGo tg (fun e t => execs P call body e t) xs (env.setMd .lk (lockOf env it)) T1).unlock (lockOf env it)
      | none => .no
  | .whl c body, env, T => whlGo (fun e t => (opd e c (ev P call c e)).bind bol t) (fun e t => execs P call body e t) WF env T
  | .ret e, env, T => thenR env (ev P call e env T) fun r T1 => .rt r.1 r.2 T1
  | .retO i, env, T => match env[i]? with
      | some (some (.ow, d)) => .rt d true T
      | _ => .no
  | .retN, _, T => .rt .non false T
  | .brk, env, T => .bk env T
  | .pass, env, T => .nx env T
  | .rse c es, env, T => thenR env (evs P call es env T) fun ds T1 => .ex c ds env T1
  | .try_ body hs, env, T => match execs P call body env T with
      | .ex c fs e2 T2 => if c < P.nc then (match lookX c hs with
        | some h => heval h fs e2 T2
        | none => .ex c fs e2 T2) else .no
      | r => r
  | .frz i, env, T => match env[i]? with
      | some (some (.ow, d)) => .nx (env.set i (some (.sh, d))) T
      | _ => .no
def execs (P : Pg) (call : Nat → List (Md × D) → Mo (D × Bool)) : List S → Env → List Nd → RS
  | [], env, T => .nx env T
  | s :: ss, env, T => match exec P call s env T with
    | .nx e T1 => execs P call ss e T1
    | r => r
end
/-- what a call leaves of the store: the objects that stood before -/
def Nd.isIns : Nd → Bool
  | .ins _ _ => true
  | _ => false
def trimT (n : Nat) (d : D) (T : List Nd) : List Nd := if d.noOwn && !((T.take n).any Nd.isIns) then T.take n else T
def finish (n : Nat) : RS → R (D × Bool)
  | .nx _ T => .ok (.non, false) (trimT n .non T)
  | .rt d fr T => .ok (d, fr) (trimT n d T)
  | .ex c fs _ T => .ex c fs (trimT n (.tup fs) T)
  | _ => .no
def initEnv (F : Fn) (args : List (Md × D)) : Env := args.map some ++ List.replicate (F.ns - F.np) none
/-- a call of the def f, at most l calls deep -/
def run (P : Pg) : Nat → Nat → List (Md × D) → Mo (D × Bool)
  | 0, _, _ => stuck
  | l + 1, f, args => fun T => match P.fns f with
    | some F => if args.length = F.np then finish T.length (execs P (run P l) F.body (initEnv F args) T) else .no
    | none => .no
end Sr
end

section
set_option autoImplicit false
set_option linter.all false
set_option Elab.async false
/-! Sr1: how data stand in the abstract heap. -/
namespace Sr
open PySem PySem.Spec PyProof.Rows L2

/-- what the numbers of the core language stand for -/
structure Lk where
  K : PySem.W.Frag
  w : World
  fa : Nat → Addr
  ca : Nat → Addr
  cf : Nat → List Str
  tl : List (Addr × Str)

def D.nkL' (f : D → NestedKey) : List D → List NestedKey
  | [] => []
  | d :: ds => f d :: D.nkL' f ds
mutual
/-- data as a key -/
def D.nk : D → NestedKey
  | .int i => .num i | .str z => .text z | .tup l => .tup (D.nkL l)
  | _ => .none
def D.nkL : List D → List NestedKey
  | [] => []
  | d :: ds => D.nk d :: D.nkL ds
end

/-- the dict at a is this very object -/
def DicO (a : Addr) (o : Obj) : HO := .ext fun h => h.get? a = some o ∧ (a == sysModules) = false
def EntsOk (w : World) : List DictEntry → List V → List V → List D → Prop
  | [], [], [], [] => True
  | e :: es, k :: ks, v :: vs, d :: ds => RelV k e.key ∧ RelV v e.val ∧ e.hash = (D.nk d).hash w ∧ EntsOk w es ks vs ds
  | _, _, _, _ => False
/-- at a stands a dict: its keys' values kv, its values vv, the keys as data -/
structure DicAt (w : World) (H : Hp) (a : Addr) (kv vv : List V) (ks : List D) : Prop where
  ob : ∃ o es ep, H a = some (DicO a o) ∧ o.ExactDict ∧ o.data = .dict es ep ∧ EntsOk w es.toList kv vv ks
  nd : (ks.map D.nk).Nodup
  kd : ks.all D.isTup = true ∨ ks.all D.flatK = true
  ok : ∀ k ∈ ks, k.isKey = true ∧ k.dep ≤ 8
  sz : ks.length ≤ sizeLine

mutual
/-- the value v of the heap H is the data d -/
def Rep (L : Lk) (ρ : List Addr) (H : Hp) : D → V → Prop
  | .non, v => v = .non
  | .bl b, v => v = .bl b
  | .int i, v => v = .int i
  | .str z, v => v = .str z
  | .tup l, v => ∃ a vs, v = .ref a ∧ SqT L.K H a vs ∧ Reps L ρ H l vs
  | .lst l, v => ∃ a vs, v = .ref a ∧ H a = some (.lst vs) ∧ Reps L ρ H l vs
  | .dic ks ds, v => ∃ a kv vv, v = .ref a ∧ DicAt L.w H a kv vv ks ∧ Reps L ρ H ks kv ∧ Reps L ρ H ds vv
  | .fn f, v => v = .ref (L.fa f)
  | .own k, v => ∃ a, ρ[k]? = some a ∧ v = .ref a
  | .scr ns, v => ∃ a, v = .ref a ∧ SqL L.K H a (ns.map V.int)
def Reps (L : Lk) (ρ : List Addr) (H : Hp) : List D → List V → Prop
  | [], vs => vs = []
  | d :: ds, vs => ∃ x xs, vs = x :: xs ∧ Rep L ρ H d x ∧ Reps L ρ H ds xs
end
def Sub (H H' : Hp) : Prop := ∀ a o, H a = some o → H' a = some o
theorem Sub.refl (H : Hp) : Sub H H := fun _ _ h => h
theorem Sub.trans {H H1 H2 : Hp} (a : Sub H H1) (b : Sub H1 H2) : Sub H H2 := fun x o h => b x o (a x o h)
theorem Sub.rd {H H' : Hp} (s : Sub H H') {a : Addr} {u : HO} : Rd H a u → Rd H' a u
  | .inl h => .inl (s _ _ h)
  | .inr ⟨o, h⟩ => .inr ⟨o, s _ _ h⟩
theorem Sub.sqT {K : PySem.W.Frag} {H H' : Hp} (s : Sub H H') {a : Addr} {xs : List V} : SqT K H a xs → SqT K H' a xs
  | .inl h => .inl (s.rd h)
  | .inr h => .inr h
theorem Sub.sqL {K : PySem.W.Frag} {H H' : Hp} (s : Sub H H') {a : Addr} {xs : List V} : SqL K H a xs → SqL K H' a xs
  | .inl h => .inl (s.rd h)
  | .inr h => .inr h
theorem DicAt.sub {w : World} {H H' : Hp} (s : Sub H H') {a : Addr} {kv vv : List V} {ks : List D} (x : DicAt w H a kv vv ks) : DicAt w H' a kv vv ks :=
  ⟨let ⟨o, es, ep, h, r⟩ := x.ob; ⟨o, es, ep, s _ _ h, r⟩, x.nd, x.kd, x.ok, x.sz⟩
theorem pre_get {ρ ρ' : List Addr} (p : ρ <+: ρ') {k : Nat} {a : Addr} (h : ρ[k]? = some a) : ρ'[k]? = some a := by
  obtain ⟨t, rfl⟩ := p
  rw [List.getElem?_append_left (List.getElem?_eq_some_iff.mp h).1]; exact h
mutual
theorem Rep.sub {L : Lk} {ρ ρ' : List Addr} {H H' : Hp} (p : ρ <+: ρ') (s : Sub H H') : ∀ (d : D) (v : V), Rep L ρ H d v → Rep L ρ' H' d v
  | .non, _, h => by simpa [Rep] using h
  | .bl _, _, h => by simpa [Rep] using h
  | .int _, _, h => by simpa [Rep] using h
  | .str _, _, h => by simpa [Rep] using h
  | .tup l, v, h => by
    simp only [Rep] at h ⊢
    obtain ⟨a, vs, e, q, r⟩ := h
    exact ⟨a, vs, e, s.sqT q, Reps.sub p s l vs r⟩
  | .lst l, v, h => by
    simp only [Rep] at h ⊢
    obtain ⟨a, vs, e, q, r⟩ := h
    exact ⟨a, vs, e, s _ _ q, Reps.sub p s l vs r⟩
  | .dic ks ds, v, h => by
    simp only [Rep] at h ⊢
    obtain ⟨a, kv, vv, e, q, r1, r2⟩ := h
    exact ⟨a, kv, vv, e, q.sub s, Reps.sub p s ks kv r1, Reps.sub p s ds vv r2⟩
  | .fn f, v, h => by simpa [Rep] using h
  | .own k, v, h => by
    simp only [Rep] at h ⊢
    obtain ⟨a, h1, h2⟩ := h
    exact ⟨a, pre_get p h1, h2⟩
  | .scr ns, v, h => by
    simp only [Rep] at h ⊢
    obtain ⟨a, h1, h2⟩ := h
    exact ⟨a, h1, s.sqL h2⟩
theorem Reps.sub {L : Lk} {ρ ρ' : List Addr} {H H' : Hp} (p : ρ <+: ρ') (s : Sub H H') : ∀ (ds : List D) (vs : List V), Reps L ρ H ds vs → Reps L ρ' H' ds vs
  | [], vs, h => by simpa [Reps] using h
  | d :: ds, vs, h => by
    simp only [Reps] at h ⊢
    obtain ⟨x, xs, e, r1, r2⟩ := h
    exact ⟨x, xs, e, Rep.sub p s d x r1, Reps.sub p s ds xs r2⟩
end
theorem Rep.mono {L : Lk} {ρ : List Addr} {H H' : Hp} {d : D} {v : V} (h : Rep L ρ H d v) (s : Sub H H') : Rep L ρ H' d v := Rep.sub (List.prefix_refl _) s d v h
theorem Reps.mono {L : Lk} {ρ : List Addr} {H H' : Hp} {d : List D} {v : List V} (h : Reps L ρ H d v) (s : Sub H H') : Reps L ρ H' d v := Reps.sub (List.prefix_refl _) s d v h
mutual
/-- without objects of the store the numbering does not matter -/
theorem Rep.reown {L : Lk} {ρ ρ' : List Addr} {H : Hp} : ∀ (d : D) (v : V), d.noOwn = true → Rep L ρ H d v → Rep L ρ' H d v
  | .non, _, _, h => by simpa [Rep] using h
  | .bl _, _, _, h => by simpa [Rep] using h
  | .int _, _, _, h => by simpa [Rep] using h
  | .str _, _, _, h => by simpa [Rep] using h
  | .tup l, v, n, h => by
    simp only [Rep] at h ⊢
    simp only [D.noOwn] at n
    obtain ⟨a, vs, e, q, r⟩ := h
    exact ⟨a, vs, e, q, Reps.reown l vs n r⟩
  | .lst l, v, n, h => by
    simp only [Rep] at h ⊢
    simp only [D.noOwn] at n
    obtain ⟨a, vs, e, q, r⟩ := h
    exact ⟨a, vs, e, q, Reps.reown l vs n r⟩
  | .dic ks ds, v, n, h => by
    simp only [Rep] at h ⊢
    simp only [D.noOwn, Bool.and_eq_true] at n
    obtain ⟨a, kv, vv, e, q, r1, r2⟩ := h
    exact ⟨a, kv, vv, e, q, Reps.reown ks kv n.1 r1, Reps.reown ds vv n.2 r2⟩
  | .fn f, v, _, h => by simpa [Rep] using h
  | .own k, v, n, _ => by simp [D.noOwn] at n
  | .scr ns, v, _, h => by
    simp only [Rep] at h ⊢
    exact h
theorem Reps.reown {L : Lk} {ρ ρ' : List Addr} {H : Hp} : ∀ (ds : List D) (vs : List V), D.noOwnL ds = true → Reps L ρ H ds vs → Reps L ρ' H ds vs
  | [], vs, _, h => by simpa [Reps] using h
  | d :: ds, vs, n, h => by
    simp only [Reps] at h ⊢
    simp only [D.noOwnL, Bool.and_eq_true] at n
    obtain ⟨x, xs, e, r1, r2⟩ := h
    exact ⟨x, xs, e, Rep.reown d x n.1 r1, Reps.reown ds xs n.2 r2⟩
end
theorem Reps.length {L : Lk} {ρ : List Addr} {H : Hp} : ∀ {ds : List D} {vs : List V}, Reps L ρ H ds vs → vs.length = ds.length
  | [], vs, h => by simp [Reps] at h; simp [h]
  | d :: ds, vs, h => by
    simp only [Reps] at h
    obtain ⟨x, xs, e, _, r2⟩ := h
    subst e
    simp [Reps.length r2]
theorem Reps.get {L : Lk} {ρ : List Addr} {H : Hp} : ∀ {ds : List D} {vs : List V} {i : Nat} {d : D}, Reps L ρ H ds vs → ds[i]? = some d → ∃ v, vs[i]? = some v ∧ Rep L ρ H d v
  | [], _, _, _, _, e => by simp at e
  | d :: ds, vs, 0, d', h, e => by
    simp only [Reps] at h
    obtain ⟨x, xs, rfl, r1, r2⟩ := h
    simp at e; subst e
    exact ⟨x, rfl, r1⟩
  | d :: ds, vs, i + 1, d', h, e => by
    simp only [Reps] at h
    obtain ⟨x, xs, rfl, r1, r2⟩ := h
    obtain ⟨v, hv, r⟩ := Reps.get (i := i) (d := d') r2 (by simpa using e)
    exact ⟨v, by simpa using hv, r⟩
theorem Reps.getV {L : Lk} {ρ : List Addr} {H : Hp} : ∀ {ds : List D} {vs : List V} {i : Nat} {v : V}, Reps L ρ H ds vs → vs[i]? = some v → ∃ d, ds[i]? = some d ∧ Rep L ρ H d v
  | [], vs, _, _, h, e => by simp [Reps] at h; subst h; simp at e
  | d :: ds, vs, 0, v, h, e => by
    simp only [Reps] at h
    obtain ⟨x, xs, rfl, r1, r2⟩ := h
    simp at e; subst e
    exact ⟨d, rfl, r1⟩
  | d :: ds, vs, i + 1, v, h, e => by
    simp only [Reps] at h
    obtain ⟨x, xs, rfl, r1, r2⟩ := h
    obtain ⟨v, hv, r⟩ := Reps.getV (i := i) (v := v) r2 (by simpa using e)
    exact ⟨v, by simpa using hv, r⟩
theorem Reps.nil {L : Lk} {ρ : List Addr} {H : Hp} : Reps L ρ H [] [] := by simp [Reps]
theorem Reps.cons {L : Lk} {ρ : List Addr} {H : Hp} {d : D} {ds : List D} {v : V} {vs : List V} (h : Rep L ρ H d v) (t : Reps L ρ H ds vs) : Reps L ρ H (d :: ds) (v :: vs) := by
  simp only [Reps]; exact ⟨v, vs, rfl, h, t⟩
theorem Reps.uncons {L : Lk} {ρ : List Addr} {H : Hp} {d : D} {ds : List D} {vs : List V} (h : Reps L ρ H (d :: ds) vs) : ∃ x xs, vs = x :: xs ∧ Rep L ρ H d x ∧ Reps L ρ H ds xs := by
  simpa only [Reps] using h
theorem Reps.unnil {L : Lk} {ρ : List Addr} {H : Hp} {vs : List V} (h : Reps L ρ H [] vs) : vs = [] := by simpa only [Reps] using h
theorem Reps.append {L : Lk} {ρ : List Addr} {H : Hp} : ∀ {ds es : List D} {vs us : List V}, Reps L ρ H ds vs → Reps L ρ H es us → Reps L ρ H (ds ++ es) (vs ++ us)
  | [], _, _, _, h, t => by rw [h.unnil]; exact t
  | d :: ds, es, vs, us, h, t => by
    obtain ⟨x, xs, rfl, r1, r2⟩ := h.uncons
    exact .cons r1 (r2.append t)
theorem Reps.take {L : Lk} {ρ : List Addr} {H : Hp} : ∀ {ds : List D} {vs : List V} (n : Nat), Reps L ρ H ds vs → Reps L ρ H (ds.take n) (vs.take n)
  | _, _, 0, _ => .nil
  | [], _, n + 1, h => by rw [h.unnil]; exact .nil
  | d :: ds, vs, n + 1, h => by
    obtain ⟨x, xs, rfl, r1, r2⟩ := h.uncons
    exact .cons r1 (r2.take n)
theorem Reps.drop {L : Lk} {ρ : List Addr} {H : Hp} : ∀ {ds : List D} {vs : List V} (n : Nat), Reps L ρ H ds vs → Reps L ρ H (ds.drop n) (vs.drop n)
  | _, _, 0, h => h
  | [], _, n + 1, h => by rw [h.unnil]; exact .nil
  | d :: ds, vs, n + 1, h => by
    obtain ⟨x, xs, rfl, r1, r2⟩ := h.uncons
    exact r2.drop n
theorem Reps.set {L : Lk} {ρ : List Addr} {H : Hp} {d : D} {v : V} (r : Rep L ρ H d v) : ∀ {ds : List D} {vs : List V} (i : Nat), Reps L ρ H ds vs → Reps L ρ H (ds.set i d) (vs.set i v)
  | [], _, _, h => by rw [h.unnil]; exact .nil
  | e :: ds, vs, 0, h => by
    obtain ⟨x, xs, rfl, r1, r2⟩ := h.uncons
    exact .cons r r2
  | e :: ds, vs, i + 1, h => by
    obtain ⟨x, xs, rfl, r1, r2⟩ := h.uncons
    exact .cons r1 (r2.set r i)
theorem Reps.reverse {L : Lk} {ρ : List Addr} {H : Hp} : ∀ {ds : List D} {vs : List V}, Reps L ρ H ds vs → Reps L ρ H ds.reverse vs.reverse
  | [], _, h => by rw [h.unnil]; exact .nil
  | e :: ds, vs, h => by
    obtain ⟨x, xs, rfl, r1, r2⟩ := h.uncons
    rw [List.reverse_cons, List.reverse_cons]
    exact r2.reverse.append (.cons r1 .nil)

/-! ### objects -/
def NodeAt (L : Lk) (ρ : List Addr) (H Hc : Hp) (a : Addr) : D → Prop
  | .lst l => ∃ vs, H a = some (.lst vs) ∧ Reps L ρ Hc l vs
  | .dic ks ds => ∃ kv vv, DicAt L.w H a kv vv ks ∧ Reps L ρ Hc ks kv ∧ Reps L ρ Hc ds vv
  | _ => False
def NdAt (L : Lk) (ρ : List Addr) (H Hc : Hp) (a : Addr) : Nd → Prop
  | .lst l => NodeAt L ρ H Hc a (.lst l)
  | .dic ks ds => NodeAt L ρ H Hc a (.dic ks ds)
  | .ins c fs => ∃ dx vs, H a = some (.ins (L.ca c) dx ((fs.map (·.1)).zip vs)) ∧ Reps L ρ Hc (fs.map (·.2)) vs
/-- a table of code, a code object -/
def isTb : Option HO → Prop
  | some (.tbl _) => True
  | some (.ext p) => ∃ c q, HO.ext p = LamX.CodeO c q
  | _ => False
theorem dic_notTb {a : Addr} {o : Obj} {es : Array DictEntry} {ep : Nat} (hd : o.data = .dict es ep) : ¬ isTb (some (DicO a o)) := by
  rintro ⟨c, q, e⟩
  injection e with e
  let cd : Obj := { cls := .none, data := .fields #[.none, .str q 0] }
  let h : Heap := { objs := Array.replicate (c + 1) cd }
  have hg : ∀ b o', h.get? b = some o' → o'.data = .fields #[.none, .str q 0] := fun b o' e => by
    unfold Heap.get? at e
    have z : ∀ x, h.objs[b]? = some x → x = cd := fun x hx => by
      have hx : (Array.replicate (c + 1) cd)[b]? = some x := hx
      rw [Array.getElem?_replicate] at hx
      split at hx
      · cases hx; rfl
      · cases hx
    split at e
    · cases e
    · have := z _ e
      rw [this]
  have hc : h.get? c = some cd := by
    unfold Heap.get?
    have z : h.objs[c]? = some cd := by
      show (Array.replicate (c + 1) cd)[c]? = some cd
      simp
    rw [z]
  have : h.get? a = some o ∧ (a == sysModules) = false := by
    have := congrFun e h
    rw [this]
    exact ⟨cd, _, 0, hc, rfl, rfl⟩
  have h1 := hg a o this.1
  rw [hd] at h1
  cases h1
open Classical in
/-- the heap without what is hidden -/
noncomputable def Hd (Z : Addr → Prop) (ρ : List Addr) (H : Hp) : Hp := fun a => if Z a ∨ a ∈ ρ ∨ isTb (H a) then none else H a
theorem Hd.of {Z : Addr → Prop} {ρ : List Addr} {H : Hp} {a : Addr} {o : HO} (h : Hd Z ρ H a = some o) : H a = some o ∧ ¬ Z a ∧ a ∉ ρ ∧ ¬ isTb (H a) := by
  unfold Hd at h
  split at h
  · cases h
  · rename_i n
    exact ⟨h, fun z => n (.inl z), fun z => n (.inr (.inl z)), fun z => n (.inr (.inr z))⟩
theorem Hd.mk {Z : Addr → Prop} {ρ : List Addr} {H : Hp} {a : Addr} {o : HO} (h : H a = some o) (z : ¬ Z a) (r : a ∉ ρ) (t : ¬ isTb (H a)) : Hd Z ρ H a = some o := by
  unfold Hd
  rw [if_neg (by rintro (q | q | q); exact z q; exact r q; exact t q)]
  exact h
theorem Hd.sub (Z : Addr → Prop) (ρ : List Addr) (H : Hp) : Sub (Hd Z ρ H) H := fun _ _ h => (Hd.of h).1
def Zp (Z : Addr → Prop) (p : Addr) : Addr → Prop := fun a => Z a ∨ a = p

/-- the store is laid: the objects ρ of T; Z: what is hidden -/
structure Bs (L : Lk) (Z : Addr → Prop) (ρ : List Addr) (T : List Nd) (H : Hp) : Prop where
  len : ρ.length = T.length
  nd : ρ.Nodup
  dj : ∀ a ∈ ρ, ¬ Z a
  zin : ∀ a, Z a → H a ≠ none ∧ ¬ isTb (H a)
  at_ : ∀ (k : Nat) (n : Nd) (a : Addr), T[k]? = some n → ρ[k]? = some a → NdAt L ρ H (Hd Z ρ H) a n
  tab : LamX.Tabs L.tl H
  nw : ∀ n ∈ T, n.nw = true
/-- from H on: what stood stands, but for the store and the tables of code -/
structure Fr (H : Hp) (ρ : List Addr) (H' : Hp) (ρ' : List Addr) : Prop where
  pre : ρ <+: ρ'
  new : ∀ a ∈ ρ', a ∉ ρ → H a = none
  ext : ∀ a o, H a = some o → a ∉ ρ → ¬ isTb (some o) → H' a = some o
  tb : ∀ a, isTb (H a) → isTb (H' a)
theorem Fr.refl (H : Hp) (ρ : List Addr) : Fr H ρ H ρ := ⟨List.prefix_refl _, fun _ h n => absurd h n, fun _ _ h _ _ => h, fun _ h => h⟩
theorem Fr.mem {H : Hp} {ρ : List Addr} {H' : Hp} {ρ' : List Addr} (f : Fr H ρ H' ρ') {a : Addr} (h : a ∈ ρ) : a ∈ ρ' := f.pre.subset h
theorem Fr.trans {H H1 H2 : Hp} {ρ ρ1 ρ2 : List Addr} (f : Fr H ρ H1 ρ1) (g : Fr H1 ρ1 H2 ρ2) : Fr H ρ H2 ρ2 where
  pre := f.pre.trans g.pre
  new := fun a h n => by
    by_cases h1 : a ∈ ρ1
    · exact f.new a h1 n
    · have e := g.new a h h1
      cases q : H a with
      | none => rfl
      | some o =>
        by_cases t : isTb (some o)
        · have := f.tb a (by rw [q]; exact t)
          rw [e] at this
          exact this.elim
        · rw [f.ext a o q n t] at e; cases e
  ext := fun a o h n t => by
    have h1 := f.ext a o h n t
    exact g.ext a o h1 (fun z => by rw [f.new a z n] at h; cases h) t
  tb := fun a h => g.tb a (f.tb a h)
theorem Fr.hd {H H' : Hp} {ρ ρ' : List Addr} (f : Fr H ρ H' ρ') (Z : Addr → Prop) : Sub (Hd Z ρ H) (Hd Z ρ' H') := fun a o h => by
  obtain ⟨e, z, r, t⟩ := Hd.of h
  rw [e] at t
  have e' := f.ext a o e r t
  exact Hd.mk e' z (fun m => by rw [f.new a m r] at e; cases e) (by rw [e']; exact t)
theorem Hd.less {Z Z' : Addr → Prop} {ρ : List Addr} {H : Hp} (h : ∀ a, Z' a → Z a) : Sub (Hd Z ρ H) (Hd Z' ρ H) := fun a o e => by
  obtain ⟨e, z, r, t⟩ := Hd.of e
  exact Hd.mk e (fun q => z (h a q)) r t
theorem NodeAt.sub {L : Lk} {ρ ρ' : List Addr} {H H' Hc Hc' : Hp} {a : Addr} (p : ρ <+: ρ') (h : H a = H' a) (s : Sub Hc Hc') : ∀ {d : D}, NodeAt L ρ H Hc a d → NodeAt L ρ' H' Hc' a d
  | .lst l, ⟨vs, e, r⟩ => ⟨vs, h ▸ e, Reps.sub p s _ _ r⟩
  | .dic ks ds, ⟨kv, vv, e, r1, r2⟩ => ⟨kv, vv, ⟨let ⟨o, es, ep, q, r⟩ := e.ob; ⟨o, es, ep, h ▸ q, r⟩, e.nd, e.kd, e.ok, e.sz⟩, Reps.sub p s _ _ r1, Reps.sub p s _ _ r2⟩
  | .non, h => h | .bl _, h => h | .int _, h => h | .str _, h => h | .tup _, h => h | .fn _, h => h | .own _, h => h | .scr _, h => h
theorem NdAt.sub {L : Lk} {ρ ρ' : List Addr} {H H' Hc Hc' : Hp} {a : Addr} (p : ρ <+: ρ') (h : H a = H' a) (s : Sub Hc Hc') : ∀ {n : Nd}, NdAt L ρ H Hc a n → NdAt L ρ' H' Hc' a n
  | .lst l, x => NodeAt.sub (d := .lst l) p h s x
  | .dic ks ds, x => NodeAt.sub (d := .dic ks ds) p h s x
  | .ins c fs, ⟨dx, vs, e, r⟩ => ⟨dx, vs, h ▸ e, Reps.sub p s _ _ r⟩
/-- an object that is there, as data -/
theorem NodeAt.rep {L : Lk} {ρ : List Addr} {H Hc : Hp} {a : Addr} (s : Sub Hc H) : ∀ {d : D}, NodeAt L ρ H Hc a d → Rep L ρ H d (.ref a)
  | .lst l, ⟨vs, e, r⟩ => by simp only [Rep]; exact ⟨a, vs, rfl, e, r.mono s⟩
  | .dic ks ds, ⟨kv, vv, e, r1, r2⟩ => by simp only [Rep]; exact ⟨a, kv, vv, rfl, e, r1.mono s, r2.mono s⟩
  | .non, h => h.elim | .bl _, h => h.elim | .int _, h => h.elim | .str _, h => h.elim | .tup _, h => h.elim | .fn _, h => h.elim | .own _, h => h.elim | .scr _, h => h.elim
theorem NodeAt.some {L : Lk} {ρ : List Addr} {H Hc : Hp} {a : Addr} : ∀ {d : D}, NodeAt L ρ H Hc a d → ∃ o, H a = some o ∧ ¬ isTb (some o)
  | .lst l, ⟨vs, e, r⟩ => ⟨_, e, id⟩
  | .dic ks ds, ⟨kv, vv, e, r1, r2⟩ => let ⟨o, es, ep, q, _, q2, _⟩ := e.ob; ⟨_, q, dic_notTb q2⟩
  | .non, h => h.elim | .bl _, h => h.elim | .int _, h => h.elim | .str _, h => h.elim | .tup _, h => h.elim | .fn _, h => h.elim | .own _, h => h.elim | .scr _, h => h.elim
theorem NdAt.some {L : Lk} {ρ : List Addr} {H Hc : Hp} {a : Addr} : ∀ {n : Nd}, NdAt L ρ H Hc a n → ∃ o, H a = some o ∧ ¬ isTb (some o)
  | .lst l, x => NodeAt.some (d := .lst l) x
  | .dic ks ds, x => NodeAt.some (d := .dic ks ds) x
  | .ins c fs, ⟨dx, vs, e, r⟩ => ⟨_, e, id⟩
theorem Bs.sub {L : Lk} {Z : Addr → Prop} {ρ : List Addr} {T : List Nd} {H : Hp} (b : Bs L Z ρ T H) : Sub (Hd Z ρ H) H := Hd.sub Z ρ H
/-- hiding less -/
theorem Bs.less {L : Lk} {Z Z' : Addr → Prop} {ρ : List Addr} {T : List Nd} {H : Hp} (b : Bs L Z ρ T H) (h : ∀ a, Z' a → Z a) : Bs L Z' ρ T H where
  len := b.len
  nd := b.nd
  dj := fun a m z => b.dj a m (h a z)
  zin := fun a z => b.zin a (h a z)
  at_ := fun k n a h1 h2 => (b.at_ k n a h1 h2).sub (List.prefix_refl _) rfl (Hd.less h)
  tab := b.tab
  nw := b.nw

/-! ### what an expression leaves -/
/-- the value v is the data d, at H' behind H -/
structure Post (L : Lk) (Z : Addr → Prop) (ρ : List Addr) (H : Hp) (v : V) (d : D) (fl : Bool) (H' : Hp) (T' : List Nd) (ρ' : List Addr) : Prop where
  fr : Fr H ρ H' ρ'
  bs : Bs L Z ρ' T' H'
  rep : Rep L ρ' (Hd Z ρ' H') d v
  new : fl = true → ∃ p, v = .ref p ∧ H p = none ∧ p ∉ ρ' ∧ Bs L (Zp Z p) ρ' T' H' ∧ NodeAt L ρ' H' (Hd (Zp Z p) ρ' H') p d
section
variable {L : Lk} {Z : Addr → Prop} {ρ ρ1 ρ' : List Addr} {T T1 : List Nd} {H H1 H' : Hp} {v : V} {d : D} {fl : Bool} {p : Addr} {o : HO}
theorem Post.of (b : Bs L Z ρ T H) (r : Rep L ρ (Hd Z ρ H) d v) : Post L Z ρ H v d false H T ρ := ⟨.refl _ _, b, r, fun h => nomatch h⟩
theorem Fr.none {f : Fr H ρ H' ρ'} {a : Addr} (h : H' a = none) (n : a ∉ ρ) : H a = none := by
  cases q : H a with
  | none => rfl
  | some o =>
    by_cases t : isTb (some o)
    · have := f.tb a (by rw [q]; exact t)
      rw [h] at this
      exact this.elim
    · rw [f.ext a o q n t] at h; cases h
theorem Post.after (f : Fr H ρ H1 ρ1) (x : Post L Z ρ1 H1 v d fl H' T ρ') : Post L Z ρ H v d fl H' T ρ' where
  fr := f.trans x.fr
  bs := x.bs
  rep := x.rep
  new := fun h => by
    obtain ⟨p, e, n, m, b, a⟩ := x.new h
    exact ⟨p, e, Fr.none (f := f) n (fun z => m (x.fr.mem (f.mem z))), m, b, a⟩
theorem Post.forget (x : Post L Z ρ H v d fl H' T ρ') : Post L Z ρ H v d false H' T ρ' := ⟨x.fr, x.bs, x.rep, fun h => nomatch h⟩
/-- a new object is laid -/
theorem Fr.laid (hp : H p = .none) : Fr H ρ (upd H p o) ρ where
  pre := List.prefix_refl _
  new := fun a h n => absurd h n
  ext := fun a u h _ _ => by rw [upd_ne (ne_of_none h hp)]; exact h
  tb := fun a h => by
    have : a ≠ p := fun e => by rw [e, hp] at h; exact h
    rw [upd_ne this]; exact h
theorem Bs.laid (b : Bs L Z ρ T H) (hp : H p = .none) : Bs L Z ρ T (upd H p o) where
  len := b.len
  nd := b.nd
  dj := b.dj
  zin := fun a z => by
    have q := b.zin a z
    have : a ≠ p := fun e => q.1 (by rw [e]; exact hp)
    rw [upd_ne this]; exact q
  at_ := fun k n a h1 h2 => by
    have x := b.at_ k n a h1 h2
    obtain ⟨u, e, t⟩ := x.some
    refine x.sub (List.prefix_refl _) (by rw [upd_ne (ne_of_none e hp)]) ((Fr.laid (o := o) (ρ := ρ) hp).hd Z)
  tab := b.tab.ext fun c u h => by rw [upd_ne (ne_of_none h hp)]; exact h
  nw := b.nw
theorem Bs.notIn (b : Bs L Z ρ T H) (hp : H p = .none) : p ∉ ρ ∧ ¬ Z p := by
  refine ⟨fun m => ?_, fun z => (b.zin p z).1 hp⟩
  obtain ⟨k, hk, e⟩ := List.mem_iff_getElem.mp m
  have hk' : k < T.length := b.len ▸ hk
  obtain ⟨u, q, _⟩ := (b.at_ k T[k] p (List.getElem?_eq_getElem hk') (by rw [List.getElem?_eq_getElem hk, e])).some
  rw [hp] at q; cases q
theorem Bs.laidZ (b : Bs L Z ρ T H) (hp : H p = .none) (ht : ¬ isTb (some o)) : Bs L (Zp Z p) ρ T (upd H p o) where
  len := b.len
  nd := b.nd
  dj := fun a m z => by
    rcases z with z | z
    · exact b.dj a m z
    · exact (b.notIn hp).1 (z ▸ m)
  zin := fun a z => by
    rcases z with z | z
    · exact (b.laid (o := o) hp).zin a z
    · rw [z, upd_same]; exact ⟨by simp, ht⟩
  at_ := fun k n a h1 h2 => by
    have x := b.at_ k n a h1 h2
    obtain ⟨u, e, t⟩ := x.some
    refine x.sub (List.prefix_refl _) (by rw [upd_ne (ne_of_none e hp)]) (fun c w h => ?_)
    obtain ⟨e1, e2, e3, e4⟩ := Hd.of h
    have nc : c ≠ p := ne_of_none e1 hp
    exact Hd.mk (by rw [upd_ne nc]; exact e1) (by rintro (q | q); exact e2 q; exact nc q) e3 (by rw [upd_ne nc]; exact e4)
  tab := (b.laid (o := o) hp).tab
  nw := b.nw
/-- old data at a laid heap, the new object hidden -/
theorem Hd.laidZ (hp : H p = .none) : Sub (Hd Z ρ H) (Hd (Zp Z p) ρ (upd H p o)) := fun c w h => by
  obtain ⟨e1, e2, e3, e4⟩ := Hd.of h
  have nc : c ≠ p := ne_of_none e1 hp
  exact Hd.mk (by rw [upd_ne nc]; exact e1) (by rintro (q | q); exact e2 q; exact nc q) e3 (by rw [upd_ne nc]; exact e4)
theorem Hd.at_new (b : Bs L Z ρ T H) (hp : H p = .none) (ht : ¬ isTb (some o)) : Hd Z ρ (upd H p o) p = some o :=
  Hd.mk upd_same (b.notIn hp).2 (b.notIn hp).1 (by rw [upd_same]; exact ht)
/-- a new list -/
theorem Post.newLst (b : Bs L Z ρ T H) (hp : H p = .none) {l : List D} {vs : List V} (r : Reps L ρ (Hd Z ρ H) l vs) : Post L Z ρ H (.ref p) (.lst l) true (upd H p (.lst vs)) T ρ where
  fr := Fr.laid hp
  bs := b.laid hp
  rep := by
    simp only [Rep]
    exact ⟨p, vs, rfl, Hd.at_new b hp id, r.mono ((Fr.laid hp).hd Z)⟩
  new := fun _ => ⟨p, rfl, hp, (b.notIn hp).1, b.laidZ hp id, vs, upd_same, r.mono (Hd.laidZ hp)⟩
/-- a new tuple -/
theorem Post.newTup (b : Bs L Z ρ T H) (hp : H p = .none) {l : List D} {vs : List V} (r : Reps L ρ (Hd Z ρ H) l vs) : Post L Z ρ H (.ref p) (.tup l) false (upd H p (.tup vs)) T ρ where
  fr := Fr.laid hp
  bs := b.laid hp
  rep := by
    simp only [Rep]
    exact ⟨p, vs, rfl, .of (Hd.at_new b hp id), r.mono ((Fr.laid hp).hd Z)⟩
  new := fun h => nomatch h
end
/-- an operand: shared data, or an object whose children are shared -/
def RepO (L : Lk) (ρ : List Addr) (H Hc : Hp) (d : D) (v : V) : Prop := Rep L ρ Hc d v ∨ ∃ a, v = .ref a ∧ NodeAt L ρ H Hc a d
theorem RepO.rep {L : Lk} {ρ : List Addr} {H Hc : Hp} {d : D} {v : V} (s : Sub Hc H) : RepO L ρ H Hc d v → Rep L ρ H d v
  | .inl h => h.mono s
  | .inr ⟨a, e, h⟩ => e ▸ h.rep s
theorem RepO.lst {L : Lk} {ρ : List Addr} {H Hc : Hp} {l : List D} {v : V} (s : Sub Hc H) : RepO L ρ H Hc (.lst l) v → ∃ a vs, v = .ref a ∧ H a = some (.lst vs) ∧ Reps L ρ Hc l vs
  | .inl h => by
    simp only [Rep] at h
    obtain ⟨a, vs, e, q, r⟩ := h
    exact ⟨a, vs, e, s _ _ q, r⟩
  | .inr ⟨a, e, vs, q, r⟩ => ⟨a, vs, e, q, r⟩
theorem RepO.dic {L : Lk} {ρ : List Addr} {H Hc : Hp} {ks ds : List D} {v : V} (s : Sub Hc H) : RepO L ρ H Hc (.dic ks ds) v → ∃ a kv vv, v = .ref a ∧ DicAt L.w H a kv vv ks ∧ Reps L ρ Hc ks kv ∧ Reps L ρ Hc ds vv
  | .inl h => by
    simp only [Rep] at h
    obtain ⟨a, kv, vv, e, q, r⟩ := h
    exact ⟨a, kv, vv, e, q.sub s, r⟩
  | .inr ⟨a, e, kv, vv, q, r⟩ => ⟨a, kv, vv, e, q, r⟩
theorem RepO.tup {L : Lk} {ρ : List Addr} {H Hc : Hp} {l : List D} {v : V} : RepO L ρ H Hc (.tup l) v → ∃ a vs, v = .ref a ∧ SqT L.K Hc a vs ∧ Reps L ρ Hc l vs
  | .inl h => by simpa only [Rep] using h
  | .inr ⟨a, e, h⟩ => h.elim
theorem RepO.sh {L : Lk} {ρ : List Addr} {H Hc : Hp} {d : D} {v : V} (hd : ∀ H Hc a, ¬ NodeAt L ρ H Hc a d) : RepO L ρ H Hc d v → Rep L ρ Hc d v
  | .inl h => h
  | .inr ⟨a, e, h⟩ => (hd _ _ _ h).elim
end Sr
end

section
set_option autoImplicit false
set_option linter.all false
set_option Elab.async false
/-! Sr2: readings by the evaluator; names, constants, displays, operators. -/
namespace Sr
open PySem PySem.Spec PyProof.Rows L2

/-! ### exceptions -/
/-- the error of the class c with the fields fs stands -/
def XRep (L : Lk) (ρ : List Addr) (Hc H : Hp) (c : Nat) (fs : List D) (cls : Value) (dd : Option Addr) : Prop :=
  cls = .ref (L.ca c) ∧ (fs = [] ∨ ∃ dx ns vs, dd = some dx ∧ H dx = some (.xd ((List.zip ns vs))) ∧ ns.length = vs.length ∧ ns = L.cf c ∧ Reps L ρ Hc fs vs)
structure PostX (L : Lk) (Z : Addr → Prop) (ρ : List Addr) (H : Hp) (c : Nat) (fs : List D) (cls : Value) (dd : Option Addr) (H' : Hp) (T' : List Nd) (ρ' : List Addr) : Prop where
  fr : Fr H ρ H' ρ'
  bs : Bs L Z ρ' T' H'
  rep : XRep L ρ' (Hd Z ρ' H') H' c fs cls dd
abbrev XW := Value → Option Addr → Hp → Prop
/-- what is wanted of a result: of a value k; of an error W -/
def RX (L : Lk) (Z : Addr → Prop) (ρ : List Addr) (H : Hp) (W : XW) {α : Type} (r : R α) (k : α → List Nd → Prop) : Prop :=
  match r with
  | .ok a T' => k a T'
  | .ex c fs T' => ∀ cls dd H' ρ', PostX L Z ρ H c fs cls dd H' T' ρ' → W cls dd H'
  | .no => False
section
variable {L : Lk} {Z : Addr → Prop} {ρ ρ1 : List Addr} {H H1 : Hp} {W : XW} {α β : Type}
theorem RX.imp {r : R α} {k k' : α → List Nd → Prop} (h : RX L Z ρ H W r k) (i : ∀ a T, k a T → k' a T) : RX L Z ρ H W r k' := by
  cases r with
  | ok a T => exact i a T h
  | ex c fs T => exact h
  | no => exact h
theorem RX.move {r : R α} {k : α → List Nd → Prop} (h : RX L Z ρ H W r k) (f : Fr H ρ H1 ρ1) : RX L Z ρ1 H1 W r k := by
  cases r with
  | ok a T => exact h
  | ex c fs T => exact fun cls dd H' ρ' p => h cls dd H' ρ' ⟨f.trans p.fr, p.bs, p.rep⟩
  | no => exact h
theorem RX.bind {x : Mo α} {f : α → Mo β} {T : List Nd} {k : β → List Nd → Prop} (h : RX L Z ρ H W ((x >>= f) T) k) : RX L Z ρ H W (x T) fun a T1 => RX L Z ρ H W (f a T1) k := by
  have e : (x >>= f) T = (x T).bind f := rfl
  rw [e] at h
  cases q : x T with
  | ok a T1 => rw [q] at h; exact h
  | ex c fs T1 => rw [q] at h; exact h
  | no => rw [q] at h; exact h
theorem RX.pure {a : α} {T : List Nd} {k : α → List Nd → Prop} (h : RX L Z ρ H W ((Pure.pure a : Mo α) T) k) : k a T := h
theorem RX.ofO {a : Option α} {T : List Nd} {k : α → List Nd → Prop} (h : RX L Z ρ H W (ofO a T) k) : ∃ b, a = some b ∧ k b T := by
  cases a with
  | none => exact h.elim
  | some b => exact ⟨b, rfl, h⟩
theorem RX.stuck {T : List Nd} {k : α → List Nd → Prop} (h : RX L Z ρ H W (stuck T : R α) k) : False := h
end

/-! ### slots and the store at a point -/
/-- an operand: shared data, or an object of some frame's own -/
def RO (L : Lk) (Z : Addr → Prop) (ρ : List Addr) (H : Hp) (d : D) (v : V) : Prop := Rep L ρ (Hd Z ρ H) d v ∨ ∃ a, v = .ref a ∧ Z a ∧ NodeAt L ρ H (Hd Z ρ H) a d
structure ER (L : Lk) (Z : Addr → Prop) (σ : L2.St) (H : Hp) (env : Env) (T : List Nd) (ρ : List Addr) : Prop where
  bs : Bs L Z ρ T H
  len : env.length = σ.length
  sl : ∀ (i : Nat) (m : Md) (d : D), env[i]? = some (some (m, d)) → ∃ v, σ[i]? = some (some v) ∧ (m = .sh → Rep L ρ (Hd Z ρ H) d v) ∧ (m ≠ .sh → ∃ a, v = .ref a ∧ Z a ∧ NodeAt L ρ H (Hd Z ρ H) a d)
section
variable {L : Lk} {Z : Addr → Prop} {ρ ρ1 ρ' : List Addr} {σ : L2.St} {H H1 H' : Hp} {env : Env} {T T1 T' : List Nd} {d : D} {v : V}
/-- an own object stays as it is -/
theorem Fr.node (f : Fr H ρ H1 ρ1) (b : Bs L Z ρ T H) {a : Addr} (z : Z a) (n : NodeAt L ρ H (Hd Z ρ H) a d) : NodeAt L ρ1 H1 (Hd Z ρ1 H1) a d := by
  obtain ⟨o, e, t⟩ := n.some
  refine n.sub f.pre ?_ (f.hd Z)
  rw [e, f.ext a o e (fun m => b.dj a m z) t]
theorem Fr.ro (f : Fr H ρ H1 ρ1) (b : Bs L Z ρ T H) : RO L Z ρ H d v → RO L Z ρ1 H1 d v
  | .inl h => .inl (Rep.sub f.pre (f.hd Z) d v h)
  | .inr ⟨a, e, z, n⟩ => .inr ⟨a, e, z, f.node b z n⟩
theorem ER.step (x : ER L Z σ H env T ρ) (f : Fr H ρ H1 ρ1) (b : Bs L Z ρ1 T1 H1) : ER L Z σ H1 env T1 ρ1 :=
  ⟨b, x.len, fun i m d e => by
    obtain ⟨v, h1, h2, h3⟩ := x.sl i m d e
    refine ⟨v, h1, fun q => Rep.sub f.pre (f.hd Z) d v (h2 q), fun q => ?_⟩
    obtain ⟨a, e, z, n⟩ := h3 q
    exact ⟨a, e, z, f.node x.bs z n⟩⟩
theorem RO.repO (h : RO L Z ρ H d v) : RepO L ρ H (Hd Z ρ H) d v := by
  rcases h with h | ⟨a, e, _, n⟩
  · exact .inl h
  · exact .inr ⟨a, e, n⟩
end
/-- what an operand leaves -/
structure PostO (L : Lk) (Z : Addr → Prop) (ρ : List Addr) (H : Hp) (v : V) (d : D) (H' : Hp) (T' : List Nd) (ρ' : List Addr) : Prop where
  fr : Fr H ρ H' ρ'
  bs : Bs L Z ρ' T' H'
  ro : RO L Z ρ' H' d v
theorem Post.op {L : Lk} {Z : Addr → Prop} {ρ ρ' : List Addr} {H H' : Hp} {v : V} {d : D} {fl : Bool} {T' : List Nd} (p : Post L Z ρ H v d fl H' T' ρ') : PostO L Z ρ H v d H' T' ρ' := ⟨p.fr, p.bs, .inl p.rep⟩

abbrev CallF := Nat → List (Md × D) → Mo (D × Bool)
section
variable (L : Lk) (P : Pg) (call : CallF) (W : WX)
/-- an expression's reading -/
def tV (m : M) : TE := fun σ H Q => ∃ Z env T ρ, ER L Z σ H env T ρ ∧ RX L Z ρ H (fun c d H' => W c d σ H') (ev P call m env T) fun r T' => ∀ v H' ρ', Post L Z ρ H v r.1 r.2 H' T' ρ' → Q v H'
/-- an operand's -/
def tO (m : M) : TE := fun σ H Q => ∃ Z env T ρ, ER L Z σ H env T ρ ∧ RX L Z ρ H (fun c d H' => W c d σ H') (opd env m (ev P call m env) T) fun d T' => ∀ v H' ρ', PostO L Z ρ H v d H' T' ρ' → Q v H'
/-- a test's: the operand is a truth value -/
def tB' (m : M) : TT := fun σ H Q => ∃ Z env T ρ, ER L Z σ H env T ρ ∧ RX L Z ρ H (fun c d H' => W c d σ H') (opd env m (ev P call m env) T) fun d T' => ∃ b, d = .bl b ∧ ∀ H' ρ', Fr H ρ H' ρ' → Bs L Z ρ' T' H' → Q b H'
/-- arguments' -/
def tOs (ms : List M) : TA := fun σ H Q => ∃ Z env T ρ, ER L Z σ H env T ρ ∧ RX L Z ρ H (fun c d H' => W c d σ H') (evo P call ms env T) fun ds T' => ∀ vs H' ρ', Fr H ρ H' ρ' → Bs L Z ρ' T' H' → Paired (RO L Z ρ' H') ds vs → Q vs H'
/-- a display's items' -/
def tVs (ms : List M) : TA := fun σ H Q => ∃ Z env T ρ, ER L Z σ H env T ρ ∧ RX L Z ρ H (fun c d H' => W c d σ H') (evs P call ms env T) fun ds T' => ∀ vs H' ρ', Fr H ρ H' ρ' → Bs L Z ρ' T' H' → Reps L ρ' (Hd Z ρ' H') ds vs → Q vs H'
end
theorem impE {X : Cx} {e : Expr} {t t' : TE} (h : PE X e t) (i : ∀ σ H Q, t' σ H Q → t σ H Q) : PE X e t' := ⟨fun pins s σ H Q I q => h.run pins s σ H Q I (i σ H Q q)⟩
theorem impT {X : Cx} {e : Expr} {t t' : TT} (h : PT X e t) (i : ∀ σ H Q, t' σ H Q → t σ H Q) : PT X e t' := ⟨fun pins s σ H Q I q => h.run pins s σ H Q I (i σ H Q q)⟩
theorem impW {X : Cx} {e : Expr} {t t' : TT} (h : PW X e t) (i : ∀ σ H Q, t' σ H Q → t σ H Q) : PW X e t' := ⟨fun wh pins s σ H Q I q => h.run wh pins s σ H Q I (i σ H Q q)⟩
theorem impA {X : Cx} {e : List Expr} {t t' : TA} (h : PA X e t) (i : ∀ σ H Q, t' σ H Q → t σ H Q) : PA X e t' := ⟨fun pos pins s σ H Q I q => h.run pos pins s σ H Q I (i σ H Q q)⟩
theorem impS {X : Cx} {e : Stmt} {t t' : TS} (h : PS X e t) (i : ∀ D σ H, t' D σ H → t D σ H) : PS X e t' := ⟨fun pins s σ H D I q => h.run pins s σ H D I (i D σ H q)⟩
theorem impSs {X : Cx} {e : List Stmt} {t t' : TS} (h : PSs X e t) (i : ∀ D σ H, t' D σ H → t D σ H) : PSs X e t' := ⟨fun pins s σ H D I q => h.run pins s σ H D I (i D σ H q)⟩
theorem preSs {X : Cx} {e : List Stmt} {t' : TS} (C : Prop) (h : C → PSs X e t') (i : ∀ D σ H, t' D σ H → C) : PSs X e t' := ⟨fun pins s σ H D I q => (h (i D σ H q)).run pins s σ H D I q⟩

/-! ### names and constants -/
section
variable {L : Lk} {P : Pg} {call : CallF} {W : WX} {X : Cx}
theorem pe_varV {i : Nat} {x : Str} {pos : Pos} (hN : X.N[i]? = some x) (hv : Vis X.env.scope x) (hd : (x == ("__debug__" : Str)) = false) (hcd : (x == ("__classdict__" : Str)) = false) : PE X (.Name x pos) (tV L P call W (.var i)) :=
  impE (pe_var hN hv hd hcd) fun σ H Q ⟨Z, env, T, ρ, er, h⟩ => by
    simp only [ev] at h
    have h := h.bind
    unfold Env.look at h
    split at h
    · rename_i d e
      obtain ⟨v, hv, h2, _⟩ := er.sl i .sh d e
      have h := RX.pure h
      exact ⟨v, hv, h v H ρ (Post.of er.bs (h2 rfl))⟩
    · exact h.elim
theorem opd_var {env : Env} {i : Nat} {x : Mo (D × Bool)} : opd env (.var i) x = env.lookAny i := rfl
theorem pe_varO {i : Nat} {x : Str} {pos : Pos} (hN : X.N[i]? = some x) (hv : Vis X.env.scope x) (hd : (x == ("__debug__" : Str)) = false) (hcd : (x == ("__classdict__" : Str)) = false) : PE X (.Name x pos) (tO L P call W (.var i)) :=
  impE (pe_var hN hv hd hcd) fun σ H Q ⟨Z, env, T, ρ, er, h⟩ => by
    rw [opd_var] at h
    unfold Env.lookAny at h
    cases e : env[i]? with
    | none => rw [e] at h; exact h.elim
    | some o =>
      cases o with
      | none => rw [e] at h; exact h.elim
      | some md =>
        obtain ⟨m, d⟩ := md
        rw [e] at h
        obtain ⟨v, hv, h2, h3⟩ := er.sl i m d e
        have h : ∀ v H' ρ', PostO L Z ρ H v d H' T ρ' → Q v H' := h
        refine ⟨v, hv, h v H ρ ⟨Fr.refl _ _, er.bs, ?_⟩⟩
        by_cases q : m = .sh
        · exact .inl (h2 q)
        · exact .inr (h3 q)
/-- an expression that is no name is an operand -/
theorem PE.opd {m : M} {e : Expr} (hm : ∀ i, m ≠ .var i) (h : PE X e (tV L P call W m)) : PE X e (tO L P call W m) := impE h fun σ H Q ⟨Z, env, T, ρ, er, h⟩ => by
  refine ⟨Z, env, T, ρ, er, ?_⟩
  have h' : RX L Z ρ H (fun c d H' => W c d σ H') (fstR (ev P call m env T)) fun d T' => ∀ v H' ρ', PostO L Z ρ H v d H' T' ρ' → Q v H' := by
    cases m <;> first | exact absurd rfl (hm _) | exact h
  cases q : ev P call m env T with
  | ok a T' =>
    rw [q] at h'
    exact fun v H' ρ' p => h' v H' ρ' p.op
  | ex c fs T' => rw [q] at h'; exact h'
  | no => rw [q] at h'; exact h'
/-- data that stand by themselves -/
def flatV : D → Option V
  | .non => some .non
  | .bl b => some (.bl b)
  | .int i => some (.int i)
  | .str z => some (.str z)
  | _ => none
theorem flat_rep {ρ : List Addr} {H : Hp} {d : D} {v : V} (h : flatV d = some v) : Rep L ρ H d v := by
  cases d <;> simp [flatV] at h <;> subst h <;> simp [Rep]
theorem pe_cstV {d : D} {v : V} {e : Expr} (hf : flatV d = some v) (h : PE X e (tC v)) : PE X e (tV L P call W (.cst d)) := impE h fun σ H Q ⟨Z, env, T, ρ, er, h⟩ => by
  simp only [ev] at h
  exact h v H ρ (Post.of er.bs (flat_rep hf))
/-- a global name whose value is known -/
theorem pe_gV {d : D} {v : V} {m : M} {e : Expr} (hm : ∀ env, ev P call m env = Mo.ret (d, false)) (hf : ∀ ρ H, Rep L ρ H d v) (h : PE X e (tC v)) : PE X e (tV L P call W m) := impE h fun σ H Q ⟨Z, env, T, ρ, er, h⟩ => by
  rw [hm] at h
  exact h v H ρ (Post.of er.bs (hf _ _))

/-! ### argument lists, displays -/
theorem pa_nilO : PA X [] (tOs L P call W []) := impA pa_nil fun σ H Q ⟨Z, env, T, ρ, er, h⟩ => by
  simp only [evo] at h
  exact h [] H ρ (Fr.refl _ _) er.bs .nil
theorem pa_consO {e : Expr} {es : List Expr} {m : M} {ms : List M} (ha : PE X e (tO L P call W m)) (hr : PA X es (tOs L P call W ms)) (hs : starEach (e :: es) X.env = (false, eval e X.env) :: starEach es X.env) : PA X (e :: es) (tOs L P call W (m :: ms)) :=
  impA (pa_cons ha hr hs) fun σ H Q ⟨Z, env, T, ρ, er, h⟩ => by
    simp only [evo] at h
    refine ⟨Z, env, T, ρ, er, h.bind.imp fun d T1 h1 v H1 ρ1 p1 => ?_⟩
    refine ⟨Z, env, T1, ρ1, er.step p1.fr p1.bs, (h1.move p1.fr).bind.imp fun ds T2 h2 vs H2 ρ2 f2 b2 r2 => ?_⟩
    exact (RX.pure h2) (v :: vs) H2 ρ2 (p1.fr.trans f2) b2 (.cons (f2.ro p1.bs p1.ro) r2)
theorem pa_nilV : PA X [] (tVs L P call W []) := impA pa_nil fun σ H Q ⟨Z, env, T, ρ, er, h⟩ => by
  simp only [evs] at h
  exact h [] H ρ (Fr.refl _ _) er.bs .nil
theorem pa_consV {e : Expr} {es : List Expr} {m : M} {ms : List M} (ha : PE X e (tV L P call W m)) (hr : PA X es (tVs L P call W ms)) (hs : starEach (e :: es) X.env = (false, eval e X.env) :: starEach es X.env) : PA X (e :: es) (tVs L P call W (m :: ms)) :=
  impA (pa_cons ha hr hs) fun σ H Q ⟨Z, env, T, ρ, er, h⟩ => by
    simp only [evs] at h
    refine ⟨Z, env, T, ρ, er, h.bind.imp fun d T1 h1 v H1 ρ1 p1 => ?_⟩
    refine ⟨Z, env, T1, ρ1, er.step p1.fr p1.bs, (h1.move p1.fr).bind.imp fun ds T2 h2 vs H2 ρ2 f2 b2 r2 => ?_⟩
    exact (RX.pure h2) (v :: vs) H2 ρ2 (p1.fr.trans f2) b2 (.cons (Rep.sub f2.pre (f2.hd Z) _ _ p1.rep) r2)
theorem bind_ok {α β : Type} {x : Mo α} {f : α → Mo β} {T T2 : List Nd} {b : β} (h : (x >>= f) T = .ok b T2) : ∃ a T1, x T = .ok a T1 ∧ f a T1 = .ok b T2 := by
  have e : (x >>= f) T = (x T).bind f := rfl
  rw [e] at h
  cases q : x T with
  | ok a T1 => rw [q] at h; exact ⟨a, T1, rfl, h⟩
  | ex c fs T1 => rw [q] at h; cases h
  | no => rw [q] at h; cases h
theorem evs_len : ∀ {ms : List M} {env : Env} {T T' : List Nd} {ds : List D}, evs P call ms env T = .ok ds T' → ds.length = ms.length
  | [], env, T, T', ds, h => by simp only [evs] at h; cases h; rfl
  | m :: ms, env, T, T', ds, h => by
    simp only [evs] at h
    obtain ⟨a, T1, h1, h⟩ := bind_ok h
    obtain ⟨b, T2, h2, h⟩ := bind_ok h
    cases h
    simp [evs_len h2]
theorem sz_of {n : Nat} (h : n ≤ 1000) : n ≤ sizeLine := by rw [sizeLine_eq]; omega
/-- (a, b, ..) -/
theorem pe_tupV {es : List Expr} {ms : List M} {x1 pos} (ha : PA X es (tVs L P call W ms)) (hl : ms.length ≤ 1000) : PE X (.Tuple es x1 pos) (tV L P call W (.tup ms)) := impE (pe_tup ha) fun σ H Q ⟨Z, env, T, ρ, er, h⟩ => by
  simp only [ev] at h
  refine ⟨Z, env, T, ρ, er, ?_⟩
  have h := h.bind
  cases q : evs P call ms env T with
  | no => rw [q] at h; exact h
  | ex c fs T1 => rw [q] at h; exact h
  | ok ds T1 =>
    rw [q] at h
    have h := RX.pure h
    intro vs H1 ρ1 f1 b1 r1
    exact ⟨by rw [r1.length, evs_len q]; exact sz_of hl, fun p hp => h _ _ _ (Post.after f1 (Post.newTup b1 hp r1))⟩
/-- [a, b, ..] -/
theorem pe_lstV {es : List Expr} {ms : List M} {pos} (ha : PA X es (tVs L P call W ms)) (hl : ms.length ≤ 1000) : PE X (.List es pos) (tV L P call W (.lst ms)) := impE (pe_lst ha) fun σ H Q ⟨Z, env, T, ρ, er, h⟩ => by
  simp only [ev] at h
  refine ⟨Z, env, T, ρ, er, ?_⟩
  have h := h.bind
  cases q : evs P call ms env T with
  | no => rw [q] at h; exact h
  | ex c fs T1 => rw [q] at h; exact h
  | ok ds T1 =>
    rw [q] at h
    have h := RX.pure h
    intro vs H1 ρ1 f1 b1 r1
    exact ⟨by rw [r1.length, evs_len q]; exact sz_of hl, fun p hp => h _ _ _ (Post.after f1 (Post.newLst b1 hp r1))⟩

/-! ### operators -/
/-- an operation by the data: whatever g gives of the data, the operation gives of the values -/
def OpD (L : Lk) (X : Cx) (f : Value → Value → Sem Value) (g : D → D → Option (D × Bool)) : Prop :=
  OpR X f fun x y H Q => ∃ Z ρ T dx dy r, Bs L Z ρ T H ∧ RO L Z ρ H dx x ∧ RO L Z ρ H dy y ∧ g dx dy = some r ∧ ∀ v H' ρ', Post L Z ρ H v r.1 r.2 H' T ρ' → Q v H'
theorem pe_op2 {o : O2} {op : Operator} {a b : Expr} {ma mb : M} {pos : Pos} (ho : OpD L X (binaryOp op) (binop o)) (ha : PE X a (tO L P call W ma)) (hb : PE X b (tO L P call W mb)) : PE X (.BinOp a op b pos) (tV L P call W (.op2 o ma mb)) :=
  impE (pe_op ho ha hb) fun σ H Q ⟨Z, env, T, ρ, er, h⟩ => by
    simp only [ev] at h
    refine ⟨Z, env, T, ρ, er, h.bind.imp fun dx T1 h1 x H1 ρ1 p1 => ?_⟩
    refine ⟨Z, env, T1, ρ1, er.step p1.fr p1.bs, (h1.move p1.fr).bind.imp fun dy T2 h2 y H2 ρ2 p2 => ?_⟩
    obtain ⟨r, e, h3⟩ := h2.ofO
    exact ⟨Z, ρ2, T2, dx, dy, r, p2.bs, p2.fr.ro p1.bs p1.ro, p2.ro, e, fun v H' ρ' p => h3 v H' ρ' (Post.after (p1.fr.trans p2.fr) p)⟩
/-- a comparison by the data -/
def CmD (L : Lk) (X : Cx) (op : CmpOp) (o : CO) : Prop := OpD L X (compareOp op) fun x y => (cmpop o x y).map fun k => (.bl k, false)
theorem cmp_read {o : CO} {ma mb : M} {σ : L2.St} {H : Hp} {Q : VK} (h : tV L P call W (.cmp o ma mb) σ H Q) : tOp (fun x y H Q => ∃ Z ρ T dx dy r, Bs L Z ρ T H ∧ RO L Z ρ H dx x ∧ RO L Z ρ H dy y ∧ (cmpop o dx dy).map (fun k => (D.bl k, false)) = some r ∧ ∀ v H' ρ', Post L Z ρ H v r.1 r.2 H' T ρ' → Q v H') (tO L P call W ma) (tO L P call W mb) σ H Q := by
  obtain ⟨Z, env, T, ρ, er, h⟩ := h
  simp only [ev] at h
  refine ⟨Z, env, T, ρ, er, h.bind.imp fun dx T1 h1 x H1 ρ1 p1 => ?_⟩
  refine ⟨Z, env, T1, ρ1, er.step p1.fr p1.bs, (h1.move p1.fr).bind.imp fun dy T2 h2 y H2 ρ2 p2 => ?_⟩
  obtain ⟨r, e, h3⟩ := h2.bind.ofO
  have h3 := RX.pure h3
  exact ⟨Z, ρ2, T2, dx, dy, (.bl r, false), p2.bs, p2.fr.ro p1.bs p1.ro, p2.ro, by rw [e]; rfl, fun v H' ρ' p => h3 v H' ρ' (Post.after (p1.fr.trans p2.fr) p)⟩
theorem pe_cmpV {o : CO} {op : CmpOp} {a b : Expr} {ma mb : M} {pos : Pos} (ho : CmD L X op o) (ha : PE X a (tO L P call W ma)) (hb : PE X b (tO L P call W mb)) (hm : behindInMarks op b = false) : PE X (.Compare a [op] [b] pos) (tV L P call W (.cmp o ma mb)) :=
  impE (pe_cmpR ho ha hb hm) fun σ H Q h => cmp_read h
theorem bl_rep {ρ : List Addr} {H : Hp} {b : Bool} {v : V} (h : Rep L ρ H (.bl b) v) : v = .bl b := by simpa [Rep] using h
theorem bl_ro {Z : Addr → Prop} {ρ : List Addr} {H : Hp} {b : Bool} {v : V} (h : RO L Z ρ H (.bl b) v) : v = .bl b := by
  rcases h with h | ⟨a, _, _, n⟩
  · exact bl_rep h
  · exact n.elim
/-- opd of what is no name -/
theorem opd_no {env : Env} {m : M} {x : Mo (D × Bool)} {T : List Nd} (hm : ∀ i, m ≠ .var i) : opd env m x T = fstR (x T) := by
  cases m <;> first | exact absurd rfl (hm _) | rfl
theorem opd_RX {env : Env} {m : M} {x : Mo (D × Bool)} {Z : Addr → Prop} {ρ : List Addr} {H : Hp} {Wx : XW} {T : List Nd} {k : D → List Nd → Prop} (hm : ∀ i, m ≠ .var i) (h : RX L Z ρ H Wx (opd env m x T) k) : RX L Z ρ H Wx (x T) fun r T' => k r.1 T' := by
  rw [opd_no hm] at h
  cases q : x T with
  | ok a T' => rw [q] at h; exact h
  | ex c fs T' => rw [q] at h; exact h
  | no => rw [q] at h; exact h
/-- a value that is known, as an operand -/
theorem RX_opd {env : Env} {m : M} {Z : Addr → Prop} {ρ : List Addr} {H : Hp} {Wx : XW} {T : List Nd} {k : D → List Nd → Prop} (h : RX L Z ρ H Wx (ev P call m env T) fun r T' => k r.1 T') : RX L Z ρ H Wx (opd env m (ev P call m env) T) k := by
  by_cases hm : ∀ i, m ≠ .var i
  · rw [opd_no hm]
    cases q : ev P call m env T with
    | ok a T' => rw [q] at h; exact h
    | ex c fs T' => rw [q] at h; exact h
    | no => rw [q] at h; exact h
  · obtain ⟨i, rfl⟩ : ∃ i, m = .var i := by
      cases m <;> first | exact ⟨_, rfl⟩ | exact absurd (fun i q => by cases q) hm
    rw [opd_var]
    simp only [ev] at h
    have h := h.bind
    unfold Env.look at h
    unfold Env.lookAny
    cases e : env[i]? with
    | none => rw [e] at h; exact h.elim
    | some o =>
      cases o with
      | none => rw [e] at h; exact h.elim
      | some md =>
        obtain ⟨m, d⟩ := md
        rw [e] at h
        cases m with
        | sh => exact RX.pure h
        | _ => exact h.elim
theorem RX.bol {Z : Addr → Prop} {ρ : List Addr} {H : Hp} {Wx : XW} {T : List Nd} {d : D} {k : Bool → List Nd → Prop} (h : RX L Z ρ H Wx (Sr.bol d T) k) : ∃ b, d = .bl b ∧ k b T := by
  cases d <;> first | exact ⟨_, rfl, h⟩ | exact h.elim
/-- a test's reading, of what is no name, as a value's -/
theorem tB_tV {m : M} (hm : ∀ i, m ≠ .var i) {σ : L2.St} {H : Hp} {Q : Bool → Hp → Prop} (h : tB' L P call W m σ H Q) : tV L P call W m σ H fun x H' => ∃ k, x = .bl k ∧ Q k H' := by
  obtain ⟨Z, env, T, ρ, er, h⟩ := h
  refine ⟨Z, env, T, ρ, er, (opd_RX hm h).imp fun r T' ⟨b, e, k⟩ v H' ρ' p => ?_⟩
  have r1 := p.rep
  rw [e] at r1
  exact ⟨b, bl_rep r1, k H' ρ' p.fr p.bs⟩
theorem tB_tO {m : M} {σ : L2.St} {H : Hp} {Q : Bool → Hp → Prop} (h : tB' L P call W m σ H Q) : tO L P call W m σ H fun x H' => ∃ k, x = .bl k ∧ Q k H' := by
  obtain ⟨Z, env, T, ρ, er, h⟩ := h
  refine ⟨Z, env, T, ρ, er, h.imp fun d T' ⟨b, e, k⟩ v H' ρ' p => ?_⟩
  have r1 := p.ro
  rw [e] at r1
  exact ⟨b, bl_ro r1, k H' ρ' p.fr p.bs⟩
/-- any operand, as a test -/
theorem pt_valV {m : M} {e : Expr} (h : PE X e (tO L P call W m)) (he : ∀ whole, isTrue e X.env whole = (do let v ← whole; standAt e.pos; holding [v] (truthy v))) : PT X e (tB' L P call W m) :=
  impT (pt_val h he) fun σ H Q h => tB_tO h
theorem pt_cmpV {o : CO} {op : CmpOp} {a b : Expr} {ma mb : M} {pos : Pos} (ho : CmD L X op o) (ha : PE X a (tO L P call W ma)) (hb : PE X b (tO L P call W mb)) (hm : behindInMarks op b = false) : PT X (.Compare a [op] [b] pos) (tB' L P call W (.cmp o ma mb)) :=
  impT (pt_cmpR ho ha hb hm) fun σ H Q h => cmp_read (tB_tV (fun i q => by cases q) h)
abbrev rCm (L : Lk) (o : CO) : R2 := fun x y H Q => ∃ Z ρ T dx dy r, Bs L Z ρ T H ∧ RO L Z ρ H dx x ∧ RO L Z ρ H dy y ∧ (cmpop o dx dy).map (fun k => (D.bl k, false)) = some r ∧ ∀ v H' ρ', Post L Z ρ H v r.1 r.2 H' T ρ' → Q v H'
/-- a op b op' c -/
theorem chn_read {o o' : CO} {ma mb mc : M} {σ : L2.St} {H : Hp} {Q : VK} (h : tV L P call W (.chn o o' ma mb mc) σ H Q) : tChain (rCm L o) (rCm L o') (tO L P call W ma) (tO L P call W mb) (tO L P call W mc) σ H Q := by
  obtain ⟨Z, env, T, ρ, er, h⟩ := h
  simp only [ev] at h
  refine ⟨Z, env, T, ρ, er, h.bind.imp fun dx T1 h1 x H1 ρ1 p1 => ?_⟩
  refine ⟨Z, env, T1, ρ1, er.step p1.fr p1.bs, (h1.move p1.fr).bind.imp fun dy T2 h2 y H2 ρ2 p2 => ?_⟩
  obtain ⟨r, e, h3⟩ := h2.bind.ofO
  refine ⟨Z, ρ2, T2, dx, dy, (.bl r, false), p2.bs, p2.fr.ro p1.bs p1.ro, p2.ro, by rw [e]; rfl, fun v H3 ρ3 p3 => ?_⟩
  refine ⟨r, bl_rep p3.rep, ?_⟩
  have f3 : Fr H1 ρ1 H3 ρ3 := p2.fr.trans p3.fr
  cases r with
  | false =>
    rw [if_neg (by simp)] at h3 ⊢
    exact (RX.pure h3) _ _ _ (Post.after (p1.fr.trans f3) (Post.of p3.bs (by simp [Rep])))
  | true =>
    rw [if_pos rfl] at h3 ⊢
    refine ⟨Z, env, T2, ρ3, er.step (p1.fr.trans f3) p3.bs, (h3.move f3).bind.imp fun dz T4 h4 z H4 ρ4 p4 => ?_⟩
    obtain ⟨r', e', h5⟩ := h4.bind.ofO
    have h5 := RX.pure h5
    exact ⟨Z, ρ4, T4, dy, dz, (.bl r', false), p4.bs, (p3.fr.trans p4.fr).ro p2.bs p2.ro, p4.ro, by rw [e']; rfl, fun v H' ρ' p => h5 v H' ρ' (Post.after ((p1.fr.trans f3).trans p4.fr) p)⟩
theorem pe_chnV {o o' : CO} {op op' : CmpOp} {a b c : Expr} {ma mb mc : M} {pos : Pos} (ho : CmD L X op o) (ho' : CmD L X op' o') (ha : PE X a (tO L P call W ma)) (hb : PE X b (tO L P call W mb)) (hc : PE X c (tO L P call W mc)) (hm : lastMarks [op, op'] [b, c] = false) :
    PE X (.Compare a [op, op'] [b, c] pos) (tV L P call W (.chn o o' ma mb mc)) := impE (pe_chain ho ho' ha hb hc hm) fun σ H Q h => chn_read h
theorem pt_chnV {o o' : CO} {op op' : CmpOp} {a b c : Expr} {ma mb mc : M} {pos : Pos} (ho : CmD L X op o) (ho' : CmD L X op' o') (ha : PE X a (tO L P call W ma)) (hb : PE X b (tO L P call W mb)) (hc : PE X c (tO L P call W mc)) (hm : lastMarks [op, op'] [b, c] = false) :
    PT X (.Compare a [op, op'] [b, c] pos) (tB' L P call W (.chn o o' ma mb mc)) := impT (pt_chain ho ho' ha hb hc hm) fun σ H Q h => chn_read (tB_tV (fun i q => by cases q) h)

/-! ### and, or, not, if-else -/
theorem pe_andV {a b : Expr} {rest : List Expr} {ma mb : M} {pos : Pos} (ha : PE X a (tO L P call W ma)) (hb : PE X (.BoolOp .And (b :: rest) pos) (tV L P call W mb)) : PE X (.BoolOp .And (a :: b :: rest) pos) (tV L P call W (.and ma mb)) :=
  impE (pe_and ha hb) fun σ H Q ⟨Z, env, T, ρ, er, h⟩ => by
    simp only [ev] at h
    refine ⟨Z, env, T, ρ, er, h.bind.imp fun dx T1 h1 x H1 ρ1 p1 => ?_⟩
    obtain ⟨k, e, h2⟩ := h1.bind.bol
    have r1 := p1.ro
    rw [e] at r1
    refine ⟨k, bl_ro r1, ?_⟩
    cases k with
    | false =>
      rw [if_neg (by simp)] at h2 ⊢
      exact (RX.pure h2) _ _ _ (Post.after p1.fr (Post.of p1.bs (by simp [Rep])))
    | true =>
      rw [if_pos rfl] at h2 ⊢
      exact ⟨Z, env, T1, ρ1, er.step p1.fr p1.bs, (h2.move p1.fr).imp fun r T' h3 v H' ρ' p => h3 v H' ρ' (Post.after p1.fr p)⟩
theorem pe_orV {a b : Expr} {rest : List Expr} {ma mb : M} {pos : Pos} (ha : PE X a (tO L P call W ma)) (hb : PE X (.BoolOp .Or (b :: rest) pos) (tV L P call W mb)) : PE X (.BoolOp .Or (a :: b :: rest) pos) (tV L P call W (.or ma mb)) :=
  impE (pe_or ha hb) fun σ H Q ⟨Z, env, T, ρ, er, h⟩ => by
    simp only [ev] at h
    refine ⟨Z, env, T, ρ, er, h.bind.imp fun dx T1 h1 x H1 ρ1 p1 => ?_⟩
    obtain ⟨k, e, h2⟩ := h1.bind.bol
    have r1 := p1.ro
    rw [e] at r1
    refine ⟨k, bl_ro r1, ?_⟩
    cases k with
    | true =>
      rw [if_pos rfl] at h2 ⊢
      exact (RX.pure h2) _ _ _ (Post.after p1.fr (Post.of p1.bs (by simp [Rep])))
    | false =>
      rw [if_neg (by simp)] at h2 ⊢
      exact ⟨Z, env, T1, ρ1, er.step p1.fr p1.bs, (h2.move p1.fr).imp fun r T' h3 v H' ρ' p => h3 v H' ρ' (Post.after p1.fr p)⟩
theorem pw_andV {a b : Expr} {rest : List Expr} {ma mb : M} {pos : Pos} (ha : PT X a (tB' L P call W ma)) (hb : PW X (.BoolOp .And (b :: rest) pos) (tB' L P call W mb)) : PW X (.BoolOp .And (a :: b :: rest) pos) (tB' L P call W (.and ma mb)) :=
  impW (pw_and ha hb) fun σ H Q ⟨Z, env, T, ρ, er, h⟩ => by
    have h := opd_RX (fun i q => by cases q) h
    simp only [ev] at h
    refine ⟨Z, env, T, ρ, er, h.bind.imp fun dx T1 h1 => ?_⟩
    obtain ⟨k, e, h2⟩ := h1.bind.bol
    refine ⟨k, e, fun H1 ρ1 f1 b1 => ?_⟩
    cases k with
    | false =>
      rw [if_neg (by simp)] at h2 ⊢
      obtain ⟨b, e', k⟩ := RX.pure h2
      cases e'
      exact k H1 ρ1 f1 b1
    | true =>
      rw [if_pos rfl] at h2 ⊢
      exact ⟨Z, env, T1, ρ1, er.step f1 b1, RX_opd ((h2.move f1).imp fun r T' ⟨b, e, k⟩ => ⟨b, e, fun H' ρ' f' b' => k H' ρ' (f1.trans f') b'⟩)⟩
theorem pw_orV {a b : Expr} {rest : List Expr} {ma mb : M} {pos : Pos} (ha : PT X a (tB' L P call W ma)) (hb : PW X (.BoolOp .Or (b :: rest) pos) (tB' L P call W mb)) : PW X (.BoolOp .Or (a :: b :: rest) pos) (tB' L P call W (.or ma mb)) :=
  impW (pw_or ha hb) fun σ H Q ⟨Z, env, T, ρ, er, h⟩ => by
    have h := opd_RX (fun i q => by cases q) h
    simp only [ev] at h
    refine ⟨Z, env, T, ρ, er, h.bind.imp fun dx T1 h1 => ?_⟩
    obtain ⟨k, e, h2⟩ := h1.bind.bol
    refine ⟨k, e, fun H1 ρ1 f1 b1 => ?_⟩
    cases k with
    | true =>
      rw [if_pos rfl] at h2 ⊢
      obtain ⟨b, e', k⟩ := RX.pure h2
      cases e'
      exact k H1 ρ1 f1 b1
    | false =>
      rw [if_neg (by simp)] at h2 ⊢
      exact ⟨Z, env, T1, ρ1, er.step f1 b1, RX_opd ((h2.move f1).imp fun r T' ⟨b, e, k⟩ => ⟨b, e, fun H' ρ' f' b' => k H' ρ' (f1.trans f') b'⟩)⟩
theorem pt_notV {a : Expr} {ma : M} {pos : Pos} (ha : PT X a (tB' L P call W ma)) : PT X (.UnaryOp .Not a pos) (tB' L P call W (.not ma)) :=
  impT (pt_not ha) fun σ H Q ⟨Z, env, T, ρ, er, h⟩ => by
    have h := opd_RX (fun i q => by cases q) h
    simp only [ev] at h
    refine ⟨Z, env, T, ρ, er, h.bind.imp fun dx T1 h1 => ?_⟩
    obtain ⟨k, e, h2⟩ := h1.bind.bol
    obtain ⟨b, e', k'⟩ := RX.pure h2
    cases e'
    exact ⟨k, e, k'⟩
theorem pe_notV {a : Expr} {ma : M} {pos : Pos} (ha : PE X a (tO L P call W ma)) : PE X (.UnaryOp .Not a pos) (tV L P call W (.not ma)) :=
  impE (pe_not ha) fun σ H Q ⟨Z, env, T, ρ, er, h⟩ => by
    simp only [ev] at h
    refine ⟨Z, env, T, ρ, er, h.bind.imp fun dx T1 h1 x H1 ρ1 p1 => ?_⟩
    obtain ⟨k, e, h2⟩ := h1.bind.bol
    have r1 := p1.ro
    rw [e] at r1
    exact ⟨k, bl_ro r1, (RX.pure h2) _ _ _ (Post.after p1.fr (Post.of p1.bs (by simp [Rep])))⟩
theorem pe_iteV {c a b : Expr} {mc ma mb : M} {pos : Pos} (hc : PT X c (tB' L P call W mc)) (ha : PE X a (tV L P call W ma)) (hb : PE X b (tV L P call W mb)) : PE X (.IfExp c a b pos) (tV L P call W (.ite mc ma mb)) :=
  impE (pe_ifExp hc ha hb) fun σ H Q ⟨Z, env, T, ρ, er, h⟩ => by
    simp only [ev] at h
    refine ⟨Z, env, T, ρ, er, h.bind.imp fun dx T1 h1 => ?_⟩
    obtain ⟨k, e, h2⟩ := h1.bind.bol
    refine ⟨k, e, fun H1 ρ1 f1 b1 => ?_⟩
    cases k with
    | true =>
      rw [if_pos rfl] at h2 ⊢
      exact ⟨Z, env, T1, ρ1, er.step f1 b1, (h2.move f1).imp fun r T' h3 v H' ρ' p => h3 v H' ρ' (Post.after f1 p)⟩
    | false =>
      rw [if_neg (by simp)] at h2 ⊢
      exact ⟨Z, env, T1, ρ1, er.step f1 b1, (h2.move f1).imp fun r T' h3 v H' ρ' p => h3 v H' ρ' (Post.after f1 p)⟩
theorem pe_negV {a : Expr} {ma : M} {pos : Pos} (ha : PE X a (tO L P call W ma)) : PE X (.UnaryOp .USub a pos) (tV L P call W (.neg ma)) :=
  impE (pe_un un_neg ha) fun σ H Q ⟨Z, env, T, ρ, er, h⟩ => by
    simp only [ev] at h
    refine ⟨Z, env, T, ρ, er, h.bind.imp fun dx T1 h1 x H1 ρ1 p1 => ?_⟩
    cases dx with
    | int i =>
      have r1 := p1.ro
      have e : x = .int i := by
        rcases r1 with r1 | ⟨_, _, _, n⟩
        · simpa [Rep] using r1
        · exact n.elim
      exact ⟨i, e, (RX.pure h1) _ _ _ (Post.after p1.fr (Post.of p1.bs (by simp [Rep])))⟩
    | _ => exact h1.elim
end
end Sr
end

section
set_option autoImplicit false
set_option linter.all false
set_option Elab.async false
/-! Sr3: the operators by the data. -/
namespace Sr
open PySem PySem.Spec PyProof.Rows L2

theorem SZ_eq : SZ = sizeLine := by rw [sizeLine_eq]; rfl
section
variable {L : Lk} {X : Cx} {Z : Addr → Prop} {ρ : List Addr} {H : Hp} {T : List Nd} {v : V}
theorem ro_int {i : Int} (h : RO L Z ρ H (.int i) v) : v = .int i := by
  rcases h with h | ⟨_, _, _, n⟩
  · simpa [Rep] using h
  · exact n.elim
theorem ro_non (h : RO L Z ρ H .non v) : v = .non := by
  rcases h with h | ⟨_, _, _, n⟩
  · simpa [Rep] using h
  · exact n.elim
theorem ro_str {z : Str} (h : RO L Z ρ H (.str z) v) : v = .str z := by
  rcases h with h | ⟨_, _, _, n⟩
  · simpa [Rep] using h
  · exact n.elim
theorem ro_tup {l : List D} (h : RO L Z ρ H (.tup l) v) : ∃ a vs, v = .ref a ∧ SqT L.K (Hd Z ρ H) a vs ∧ Reps L ρ (Hd Z ρ H) l vs := by
  rcases h with h | ⟨_, _, _, n⟩
  · simpa only [Rep] using h
  · exact n.elim
theorem ro_lst {l : List D} (h : RO L Z ρ H (.lst l) v) : ∃ a vs, v = .ref a ∧ H a = some (.lst vs) ∧ Reps L ρ (Hd Z ρ H) l vs := h.repO.lst (Hd.sub _ _ _)
theorem ro_dic {ks ds : List D} (h : RO L Z ρ H (.dic ks ds) v) : ∃ a kv vv, v = .ref a ∧ DicAt L.w H a kv vv ks ∧ Reps L ρ (Hd Z ρ H) ks kv ∧ Reps L ρ (Hd Z ρ H) ds vv := h.repO.dic (Hd.sub _ _ _)
theorem ro_own {k : Nat} (h : RO L Z ρ H (.own k) v) : ∃ a, ρ[k]? = some a ∧ v = .ref a := by
  rcases h with h | ⟨_, _, _, n⟩
  · simpa only [Rep] using h
  · exact n.elim
theorem ro_scr {ns : List Int} (h : RO L Z ρ H (.scr ns) v) : ∃ a, v = .ref a ∧ SqL L.K H a (ns.map V.int) := by
  rcases h with h | ⟨_, _, _, n⟩
  · simp only [Rep] at h
    obtain ⟨a, e, q⟩ := h
    exact ⟨a, e, (Hd.sub _ _ _).sqL q⟩
  · exact n.elim
theorem rep_tup {ρ : List Addr} {H : Hp} {a : Addr} {vs : List V} {l : List D} (q : SqT L.K H a vs) (r : Reps L ρ H l vs) : Rep L ρ H (.tup l) (.ref a) := by
  simp only [Rep]; exact ⟨a, vs, rfl, q, r⟩
theorem Post.int (b : Bs L Z ρ T H) (i : Int) : Post L Z ρ H (.int i) (.int i) false H T ρ := Post.of b (by simp [Rep])
theorem Post.bl (b : Bs L Z ρ T H) (i : Bool) : Post L Z ρ H (.bl i) (.bl i) false H T ρ := Post.of b (by simp [Rep])
theorem Post.str (b : Bs L Z ρ T H) (i : Str) : Post L Z ρ H (.str i) (.str i) false H T ρ := Post.of b (by simp [Rep])
theorem Reps.flat {ls : List (List D)} {vss : List (List V)} {ρ : List Addr} {H : Hp} (h : Paired (fun l vs => Reps L ρ H l vs) ls vss) : Reps L ρ H ls.flatten vss.flatten := by
  induction h with
  | nil => exact .nil
  | cons r t ih => rw [List.flatten_cons, List.flatten_cons]; exact r.append ih
theorem Reps.rep {l : List D} {vs : List V} {ρ : List Addr} {H : Hp} (r : Reps L ρ H l vs) : ∀ n : Nat, Reps L ρ H (List.replicate n l).flatten (List.replicate n vs).flatten
  | 0 => by simp only [List.replicate, List.flatten_nil]; exact .nil
  | n + 1 => by simp only [List.replicate, List.flatten_cons]; exact r.append (r.rep n)

/-! ### + - * // % ** -/
theorem op_addD (hK : X.K = L.K) : OpD L X (binaryOp .Add) (binop .add) := by
  rintro pins s σ H x y v u Q I rx ry ⟨Z, ρ, T, dx, dy, r, b, hx, hy, e, k⟩
  cases dx <;> cases dy <;> first
    | (simp only [binop] at e; cases e; done)
    | skip
  case int.int i j =>
    simp only [binop, Option.some.injEq] at e
    subst e
    exact op_add pins s σ H x y v u Q I rx ry ⟨i, j, ro_int hx, ro_int hy, k _ _ _ (Post.int b _)⟩
  case str.str i j =>
    simp only [binop] at e
    split at e
    · rename_i hl
      cases e
      exact op_add_str pins s σ H x y v u Q I rx ry ⟨i, j, ro_str hx, ro_str hy, by rw [← SZ_eq]; exact hl, k _ _ _ (Post.str b _)⟩
    · cases e
  case tup.tup i j =>
    simp only [binop] at e
    split at e
    · rename_i hl
      cases e
      obtain ⟨a, vs, ex, q1, r1⟩ := ro_tup hx
      obtain ⟨c, us, ey, q2, r2⟩ := ro_tup hy
      refine op_catA pins s σ H x y v u Q I rx ry ⟨a, c, vs, us, ex, ey, hK ▸ (Hd.sub _ _ _).sqT q1, hK ▸ (Hd.sub _ _ _).sqT q2, ?_, fun n => ?_, fun n n2 => ?_, fun n n2 p hp => ?_⟩
      · rw [r1.length, r2.length, ← SZ_eq]; exact hl
      · have hi : i = [] := List.eq_nil_of_length_eq_zero (by rw [← r1.length, n]; rfl)
        subst hi
        exact k _ _ _ (Post.of b (rep_tup q2 r2))
      · have hj : j = [] := List.eq_nil_of_length_eq_zero (by rw [← r2.length, n2]; rfl)
        subst hj
        refine k _ _ _ (Post.of b ?_)
        show Rep L ρ _ (.tup (i ++ [])) _
        rw [List.append_nil]
        exact rep_tup q1 r1
      · exact k _ _ _ (Post.newTup b hp (r1.append r2))
    · cases e
  case lst.lst i j =>
    simp only [binop] at e
    split at e
    · rename_i hl
      cases e
      obtain ⟨a, vs, ex, q1, r1⟩ := ro_lst hx
      obtain ⟨c, us, ey, q2, r2⟩ := ro_lst hy
      exact op_cat pins s σ H x y v u Q I rx ry ⟨a, c, vs, us, ex, ey, q1, q2, by rw [r1.length, r2.length, ← SZ_eq]; exact hl, fun p hp => k _ _ _ (Post.newLst b hp (r1.append r2))⟩
    · cases e
theorem op_subD : OpD L X (binaryOp .Sub) (binop .sub) := by
  rintro pins s σ H x y v u Q I rx ry ⟨Z, ρ, T, dx, dy, r, b, hx, hy, e, k⟩
  cases dx <;> cases dy <;> first
    | (simp only [binop] at e; cases e; done)
    | skip
  case int.int i j =>
    simp only [binop, Option.some.injEq] at e
    subst e
    exact op_sub pins s σ H x y v u Q I rx ry ⟨i, j, ro_int hx, ro_int hy, k _ _ _ (Post.int b _)⟩
theorem op_mulD (hK : X.K = L.K) : OpD L X (binaryOp .Mult) (binop .mul) := by
  rintro pins s σ H x y v u Q I rx ry ⟨Z, ρ, T, dx, dy, r, b, hx, hy, e, k⟩
  cases dx <;> cases dy <;> first
    | (simp only [binop] at e; cases e; done)
    | skip
  case int.int i j =>
    simp only [binop] at e
    split at e
    · rename_i hl
      cases e
      refine op_mul pins s σ H x y v u Q I rx ry ⟨i, j, ro_int hx, ro_int hy, ?_, k _ _ _ (Post.int b _)⟩
      simp only [bigOk, Bool.or_eq_true, decide_eq_true_eq] at hl
      exact hl
    · cases e
  case tup.int i j =>
    simp only [binop] at e
    split at e
    · rename_i hl
      cases e
      obtain ⟨a, vs, ex, q1, r1⟩ := ro_tup hx
      refine op_repT pins s σ H x y v u Q I rx ry ⟨a, j, vs, ex, ro_int hy, hK ▸ (Hd.sub _ _ _).sqT q1, fun n => hl.2.2.2 (List.eq_nil_of_length_eq_zero (by rw [← r1.length, n]; rfl)), hl.1, hl.2.1, by rw [r1.length]; exact hl.2.2.1, fun p hp => k _ _ _ (Post.newTup b hp ?_)⟩
      exact r1.rep _
    · cases e
  case lst.int i j =>
    simp only [binop] at e
    split at e
    · rename_i hl
      cases e
      obtain ⟨a, vs, ex, q1, r1⟩ := ro_lst hx
      refine op_rep pins s σ H x y v u Q I rx ry ⟨a, j, vs, ex, ro_int hy, q1, by omega, by omega, ?_, fun p hp => k _ _ _ (Post.newLst b hp (r1.rep _))⟩
      rw [r1.length, sizeLine_eq]
      have h1 : j.toNat ≤ 1000 := by omega
      calc i.length * j.toNat ≤ 1000 * 1000 := Nat.mul_le_mul hl.2.2 h1
        _ ≤ _ := by decide
    · cases e
theorem op_fdivD : OpD L X (binaryOp .FloorDiv) (binop .fdiv) := by
  rintro pins s σ H x y v u Q I rx ry ⟨Z, ρ, T, dx, dy, r, b, hx, hy, e, k⟩
  cases dx <;> cases dy <;> first
    | (simp only [binop] at e; cases e; done)
    | skip
  case int.int i j =>
    simp only [binop] at e
    split at e
    · rename_i hl
      cases e
      exact op_fdivN pins s σ H x y v u Q I rx ry ⟨i, j, ro_int hx, ro_int hy, hl, k _ _ _ (Post.int b _)⟩
    · cases e
theorem op_modD : OpD L X (binaryOp .Mod) (binop .mod) := by
  rintro pins s σ H x y v u Q I rx ry ⟨Z, ρ, T, dx, dy, r, b, hx, hy, e, k⟩
  cases dx <;> cases dy <;> first
    | (simp only [binop] at e; cases e; done)
    | skip
  case int.int i j =>
    simp only [binop] at e
    split at e
    · rename_i hl
      cases e
      exact op_modN pins s σ H x y v u Q I rx ry ⟨i, j, ro_int hx, ro_int hy, hl, k _ _ _ (Post.int b _)⟩
    · cases e
theorem op_powD : OpD L X (binaryOp .Pow) (binop .pow) := by
  rintro pins s σ H x y v u Q I rx ry ⟨Z, ρ, T, dx, dy, r, b, hx, hy, e, k⟩
  cases dx <;> cases dy <;> first
    | (simp only [binop] at e; cases e; done)
    | skip
  case int.int i j =>
    simp only [binop] at e
    split at e
    · rename_i hl
      cases e
      exact op_pow pins s σ H x y v u Q I rx ry ⟨i, j, ro_int hx, ro_int hy, hl, k _ _ _ (Post.int b _)⟩
    · cases e
def o2 : O2 → Operator
  | .add => .Add | .sub => .Sub | .mul => .Mult | .fdiv => .FloorDiv | .mod => .Mod | .pow => .Pow
theorem op_all (hK : X.K = L.K) : ∀ o : O2, OpD L X (binaryOp (o2 o)) (binop o)
  | .add => op_addD hK | .sub => op_subD | .mul => op_mulD hK | .fdiv => op_fdivD | .mod => op_modD | .pow => op_powD
end
end Sr
end

section
set_option autoImplicit false
set_option linter.all false
set_option Elab.async false
/-! Sr4: == and < of data, in. -/
namespace Sr
open PySem PySem.Spec PyProof.Rows L2 SeqAt

mutual
/-- the value in the heap is the plain data -/
inductive DIs (h : Heap) : D → Value → Prop
  | non : DIs h .non .none
  | bl (b) : DIs h (.bl b) (.bool b)
  | int (i t) : DIs h (.int i) (.int i t)
  | str (x t) : DIs h (.str x) (.str x t)
  | tup {a vs ks} : h.IsTuple a vs → DAll h ks vs.toList → DIs h (.tup ks) (.ref a)
  | lst {a vs ks} : h.IsList a vs → DAll h ks vs.toList → DIs h (.lst ks) (.ref a)
inductive DAll (h : Heap) : List D → List Value → Prop
  | nil : DAll h [] []
  | cons {k v ks vs} : DIs h k v → DAll h ks vs → DAll h (k :: ks) (v :: vs)
end
theorem IsTuple.inj {h : Heap} {a : Addr} {vs ws : Array Value} (x : h.IsTuple a vs) (y : h.IsTuple a ws) : vs = ws := by
  obtain ⟨o, e, _, n, d⟩ := x
  obtain ⟨o', e', _, n', d'⟩ := y
  rw [e] at e'; cases e'
  rw [d] at d'; cases d'; rfl
theorem IsList.inj {h : Heap} {a : Addr} {vs ws : Array Value} (x : h.IsList a vs) (y : h.IsList a ws) : vs = ws := by
  obtain ⟨o, e, _, n, d⟩ := x
  obtain ⟨o', e', _, n', d'⟩ := y
  rw [e] at e'; cases e'
  rw [d] at d'; cases d'; rfl
theorem noBoth {h : Heap} {a : Addr} {vs ws : Array Value} (x : h.IsTuple a vs) (y : h.IsList a ws) : False := by
  obtain ⟨o, e, c, n, d⟩ := x
  obtain ⟨o', e', c', n', d'⟩ := y
  rw [e] at e'; cases e'
  rw [c] at c'
  injection c' with c'
  exact absurd c' (by decide)
mutual
theorem DIs.inj {h : Heap} : ∀ (x y : D) (v : Value), DIs h x v → DIs h y v → x = y
  | .non, _, _, a, b => by cases a; cases b; rfl
  | .bl _, _, _, a, b => by cases a; cases b; rfl
  | .int _, _, _, a, b => by cases a; cases b; rfl
  | .str _, _, _, a, b => by cases a; cases b; rfl
  | .tup l, _, _, a, b => by
    cases a with
    | tup h1 h2 =>
      cases b with
      | tup k1 k2 => have e := IsTuple.inj h1 k1; subst e; rw [DAll.inj l _ _ h2 k2]
      | lst k1 k2 => exact (noBoth h1 k1).elim
  | .lst l, _, _, a, b => by
    cases a with
    | lst h1 h2 =>
      cases b with
      | lst k1 k2 => have e := IsList.inj h1 k1; subst e; rw [DAll.inj l _ _ h2 k2]
      | tup k1 k2 => exact (noBoth k1 h1).elim
  | .dic _ _, _, _, a, _ => by cases a
  | .fn _, _, _, a, _ => by cases a
  | .own _, _, _, a, _ => by cases a
  | .scr _, _, _, a, _ => by cases a
theorem DAll.inj {h : Heap} : ∀ (xs ys : List D) (vs : List Value), DAll h xs vs → DAll h ys vs → xs = ys
  | [], _, _, a, b => by cases a; cases b; rfl
  | x :: xs, _, _, a, b => by
    cases a with
    | cons a1 a2 => cases b with
      | cons b1 b2 => rw [DIs.inj x _ _ a1 b1, DAll.inj xs _ _ a2 b2]
end
theorem DAll.length {h : Heap} : ∀ {ks : List D} {vs : List Value}, DAll h ks vs → vs.length = ks.length
  | [], _, x => by cases x; rfl
  | k :: ks, _, x => by cases x with | cons _ t => simp [DAll.length t]
mutual
theorem D.eqv_self {h : Heap} : ∀ (x : D) (v : Value), DIs h x v → x.eqv x = true
  | .non, _, _ => rfl
  | .bl b, _, _ => by simp [D.eqv]
  | .int i, _, _ => by simp [D.eqv]
  | .str z, _, _ => by simp [D.eqv]
  | .tup l, _, a => by cases a with | tup _ h2 => simp only [D.eqv]; exact D.eqvL_self l _ h2
  | .lst l, _, a => by cases a with | lst _ h2 => simp only [D.eqv]; exact D.eqvL_self l _ h2
  | .dic _ _, _, a => by cases a
  | .fn _, _, a => by cases a
  | .own _, _, a => by cases a
  | .scr _, _, a => by cases a
theorem D.eqvL_self {h : Heap} : ∀ (xs : List D) (vs : List Value), DAll h xs vs → D.eqvL xs xs = true
  | [], _, _ => rfl
  | x :: xs, _, a => by cases a with | cons a1 a2 => simp only [D.eqvL, D.eqv_self x _ a1, D.eqvL_self xs _ a2, Bool.and_self]
end
def dEqAt (xs ys : List D) (j : Nat) : Bool := match xs[j]?, ys[j]? with
  | some x, some y => D.eqv x y
  | _, _ => true
theorem eqvL_all : ∀ xs ys : List D, ((List.range (min xs.length ys.length)).all (dEqAt xs ys) && xs.length == ys.length) = D.eqvL xs ys
  | [], [] => rfl
  | [], _ :: _ => by simp [D.eqvL]
  | _ :: _, [] => by simp [D.eqvL]
  | x :: xs, y :: ys => by
    have ih := eqvL_all xs ys
    have e1 : min (x :: xs).length (y :: ys).length = min xs.length ys.length + 1 := by simp only [List.length_cons]; omega
    have e2 : ((x :: xs).length == (y :: ys).length) = (xs.length == ys.length) := by simp
    have e3 : (List.range (min xs.length ys.length + 1)).all (dEqAt (x :: xs) (y :: ys)) = (D.eqv x y && (List.range (min xs.length ys.length)).all (dEqAt xs ys)) := by
      rw [List.range_succ_eq_map, List.all_cons, List.all_map]
      first | rfl | simp [dEqAt, Function.comp_def]
    rw [e1, e2, e3, D.eqvL, ← ih, Bool.and_assoc]
theorem eqvL_len {xs ys : List D} (h : xs.length ≠ ys.length) : D.eqvL xs ys = false := by
  rw [← eqvL_all]
  simp [h]
theorem room0 {A : Around} {n m : Nat} (h : A.units + min (n + 1) m < cLine) : A.units < cLine := by omega
theorem roomIn {A : Around} {n m : Nat} (h : A.units + min (n + 1) (m + 1) < cLine) : A.in1.units + min n m < cLine := by
  show A.units + 1 + min n m < cLine
  omega
theorem roomHd {A : Around} {a b c d : Nat} (h : A.units + min (max a b) (max c d) < cLine) : A.units + min a c < cLine := by omega
theorem roomTl {A : Around} {a b c d : Nat} (h : A.units + min (max a b) (max c d) < cLine) : A.units + min b d < cLine := by omega
mutual
/-- == of plain data -/
theorem eqAt_D : ∀ (x y : D) (A : Around) (s : Shared) (a b : Value), DIs s.heap x a → DIs s.heap y b → A.units + min x.dep y.dep < cLine → EqAt A s a b (D.eqv x y)
  | .non, _, A, s, _, _, ra, rb, hu => by
    cases ra
    cases rb with
    | non => exact EqAt.same _
    | bl e => exact EqAt.none_bool _
    | int y u => exact EqAt.none_int y u
    | str y u => exact EqAt.none_str y u
    | tup k1 k2 => exact EqAt.none_tuple k1 (by omega)
    | lst k1 k2 => exact EqAt.none_list k1 (by omega)
  | .bl c, _, A, s, _, _, ra, rb, hu => by
    cases ra
    cases rb with
    | non => exact EqAt.bool_none c
    | bl e => exact EqAt.bool_bool _ _
    | int y u => exact EqAt.bool_int c y u
    | str y u => exact EqAt.bool_str c y u
    | tup k1 k2 => exact EqAt.bool_tuple c k1 (by omega)
    | lst k1 k2 => exact EqAt.bool_list c k1 (by omega)
  | .int i, _, A, s, _, _, ra, rb, hu => by
    cases ra with
    | int _ t =>
      cases rb with
      | non => exact EqAt.int_none i t
      | bl e => exact EqAt.int_bool i t _
      | int y u => exact EqAt.int_int i t y u
      | str y u => exact EqAt.int_str i t y u
      | tup k1 k2 => exact EqAt.int_tuple i t k1 (by omega)
      | lst k1 k2 => exact EqAt.int_list i t k1 (by omega)
  | .str i, _, A, s, _, _, ra, rb, hu => by
    cases ra with
    | str _ t =>
      cases rb with
      | non => exact EqAt.str_none i t
      | bl e => exact EqAt.str_bool i t _
      | int y u => exact EqAt.str_int i t y u
      | str y u => exact EqAt.str_str i t y u
      | tup k1 k2 => exact EqAt.str_tuple i t k1 (by omega)
      | lst k1 k2 => exact EqAt.str_list i t k1 (by omega)
  | .tup xs, _, A, s, _, _, ra, rb, hu => by
    cases ra with
    | @tup l vs _ h1 h2 =>
      have hu0 : A.units < cLine := by simp only [D.dep] at hu; omega
      cases rb with
      | non => exact EqAt.tuple_none h1 hu0
      | bl d => exact EqAt.tuple_bool d h1 hu0
      | int y u => exact EqAt.tuple_int y u h1 hu0
      | str y u => exact EqAt.tuple_str y u h1 hu0
      | lst k1 k2 => exact EqAt.tuple_list h1 k1 hu0
      | @tup l' vs' ys k1 k2 =>
        simp only [D.dep] at hu
        show EqAt A s (.ref l) (.ref l') (D.eqvL xs ys)
        by_cases hll : l = l'
        · subst hll
          have e := IsTuple.inj h1 k1
          subst e
          rw [← DAll.inj xs ys _ h2 k2, D.eqvL_self xs _ h2]
          exact EqAt.same _
        · have n1 : vs.size = xs.length := by simpa using DAll.length h2
          have n2 : vs'.size = ys.length := by simpa using DAll.length k2
          rw [← eqvL_all xs ys, ← n1, ← n2]
          refine EqAt.of_refs hll (RcAt.tuples h1 k1 hu0 fun j j1 j2 => ?_)
          have := eqAt_Ds xs ys A.in1 s vs.toList vs'.toList h2 k2 (roomIn hu) j (by simpa using j1) (by simpa using j2)
          simpa using this
  | .lst xs, _, A, s, _, _, ra, rb, hu => by
    cases ra with
    | @lst l vs _ h1 h2 =>
      have hu0 : A.units < cLine := by simp only [D.dep] at hu; omega
      cases rb with
      | non => exact EqAt.list_none h1 hu0
      | bl d => exact EqAt.list_bool d h1 hu0
      | int y u => exact EqAt.list_int y u h1 hu0
      | str y u => exact EqAt.list_str y u h1 hu0
      | tup k1 k2 => exact EqAt.list_tuple h1 k1 hu0
      | @lst l' vs' ys k1 k2 =>
        simp only [D.dep] at hu
        show EqAt A s (.ref l) (.ref l') (D.eqvL xs ys)
        by_cases hll : l = l'
        · subst hll
          have e := IsList.inj h1 k1
          subst e
          rw [← DAll.inj xs ys _ h2 k2, D.eqvL_self xs _ h2]
          exact EqAt.same _
        · have n1 : vs.size = xs.length := by simpa using DAll.length h2
          have n2 : vs'.size = ys.length := by simpa using DAll.length k2
          by_cases hz : vs.size = vs'.size
          · have e : D.eqvL xs ys = (List.range vs.size).all (dEqAt xs ys) := by
              rw [← eqvL_all xs ys, ← n1, ← n2, hz]
              simp
            rw [e]
            refine EqAt.of_refs hll (RcAt.lists h1 k1 hz hu0 fun j j1 j2 => ?_)
            have := eqAt_Ds xs ys A.in1 s vs.toList vs'.toList h2 k2 (roomIn hu) j (by simpa using j1) (by simpa using j2)
            simpa using this
          · rw [eqvL_len (by rw [← n1, ← n2]; exact hz)]
            exact EqAt.of_refs hll (RcAt.lists_lengths h1 k1 (by simpa using hz) hu0)
  | .dic _ _, _, _, _, _, _, a, _, _ => by cases a
  | .fn _, _, _, _, _, _, a, _, _ => by cases a
  | .own _, _, _, _, _, _, a, _, _ => by cases a
  | .scr _, _, _, _, _, _, a, _, _ => by cases a
theorem eqAt_Ds : ∀ (xs ys : List D) (A : Around) (s : Shared) (vs ws : List Value), DAll s.heap xs vs → DAll s.heap ys ws →
    A.units + min (D.depL xs) (D.depL ys) < cLine → ∀ j (h1 : j < vs.length) (h2 : j < ws.length), EqAt A s vs[j] ws[j] (dEqAt xs ys j)
  | [], _, _, _, _, _, ra, _, _, j, h1, _ => by cases ra; exact absurd h1 (Nat.not_lt_zero _)
  | _ :: _, [], _, _, _, _, _, rb, _, j, _, h2 => by cases rb; exact absurd h2 (Nat.not_lt_zero _)
  | x :: xs, y :: ys, A, s, _, _, ra, rb, hu, j, h1, h2 => by
    simp only [D.depL] at hu
    cases ra with
    | cons r rs =>
      cases rb with
      | cons r' rs' =>
        cases j with
        | zero => exact eqAt_D x y A s _ _ r r' (roomHd hu)
        | succ j => exact eqAt_Ds xs ys A s _ _ rs rs' (roomTl hu) j (Nat.lt_of_succ_lt_succ h1) (Nat.lt_of_succ_lt_succ h2)
end
section
variable {L : Lk} {X : Cx} {Z : Addr → Prop} {ρ : List Addr} {H : Hp} {T : List Nd} {pins : List (Addr × Obj)} {σ : L2.St} {s : Shared}
mutual
/-- plain data, by the abstract heap, in the heap -/
theorem Rep.dIs (hK : X.K = L.K) (I : Inv X pins σ H s) : ∀ (d : D) (x : V) (u : Value), d.pln = true → Rep L ρ H d x → RelV x u → DIs s.heap d u
  | .non, _, _, _, r, rv => by simp [Rep] at r; subst r; cases rv; exact .non
  | .bl b, _, _, _, r, rv => by simp [Rep] at r; subst r; cases rv; exact .bl b
  | .int i, _, _, _, r, rv => by simp [Rep] at r; subst r; obtain ⟨t, rfl⟩ := rv; exact .int i t
  | .str z, _, _, _, r, rv => by simp [Rep] at r; subst r; obtain ⟨t, rfl⟩ := rv; exact .str z t
  | .tup l, _, _, p, r, rv => by
    simp only [Rep] at r
    obtain ⟨a, vs, rfl, q, r⟩ := r
    cases rv
    obtain ⟨its, rv, t, _⟩ := I.tuple (hK ▸ q)
    exact .tup (show s.heap.IsTuple a its.toArray from t) (Reps.dAll hK I l vs its (by simpa [D.pln] using p) r rv)
  | .lst l, _, _, p, r, rv => by
    simp only [Rep] at r
    obtain ⟨a, vs, rfl, q, r⟩ := r
    cases rv
    obtain ⟨its, rv, t, _⟩ := I.list (SqL.of q)
    exact .lst t.isList (Reps.dAll hK I l vs its (by simpa [D.pln] using p) r rv)
  | .dic _ _, _, _, p, _, _ => by simp [D.pln] at p
  | .fn _, _, _, p, _, _ => by simp [D.pln] at p
  | .own _, _, _, p, _, _ => by simp [D.pln] at p
  | .scr _, _, _, p, _, _ => by simp [D.pln] at p
theorem Reps.dAll (hK : X.K = L.K) (I : Inv X pins σ H s) : ∀ (ds : List D) (xs : List V) (us : List Value), D.plnL ds = true → Reps L ρ H ds xs → Vals xs us → DAll s.heap ds us
  | [], _, _, _, r, rv => by rw [r.unnil] at rv; cases rv; exact .nil
  | d :: ds, _, _, p, r, rv => by
    obtain ⟨x, xs, rfl, r1, r2⟩ := r.uncons
    simp only [D.plnL, Bool.and_eq_true] at p
    cases rv with
    | cons rv1 rv2 => exact .cons (Rep.dIs hK I d x _ p.1 r1 rv1) (Reps.dAll hK I ds xs _ p.2 r2 rv2)
end
theorem RO.dIs (hK : X.K = L.K) (I : Inv X pins σ H s) {d : D} {x : V} {u : Value} (p : d.pln = true) (r : RO L Z ρ H d x) (rv : RelV x u) : DIs s.heap d u :=
  Rep.dIs hK I d x u p (r.repO.rep (Hd.sub _ _ _)) rv
end
/-- == of plain data, asked by compareOp -/
theorem rcAt_D {x y : D} {A : Around} {s : Shared} {a b : Value} (ra : DIs s.heap x a) (rb : DIs s.heap y b) (hu : A.units + min x.dep y.dep < cLine) : RcAt A s a b (D.eqv x y) := by
  cases ra with
  | non =>
    cases rb with
    | non => exact RcAt.none_none
    | bl y => exact RcAt.none_bool y
    | int y u => exact RcAt.none_int y u
    | str y u => exact RcAt.none_str y u
    | lst k1 k2 => exact RcAt.none_list k1 (by omega)
    | tup k1 k2 => exact RcAt.none_tuple k1 (by omega)
  | bl x =>
    cases rb with
    | non => exact RcAt.bool_none x
    | bl y => exact RcAt.bool_bool x y
    | int y u => exact RcAt.bool_int x y u
    | str y u => exact RcAt.bool_str x y u
    | lst k1 k2 => exact RcAt.bool_list x k1 (by omega)
    | tup k1 k2 => exact RcAt.bool_tuple x k1 (by omega)
  | int x t =>
    cases rb with
    | non => exact RcAt.int_none x t
    | bl y => exact RcAt.int_bool x t y
    | int y u => exact RcAt.int_int x t y u
    | str y u => exact RcAt.int_str x t y u
    | lst k1 k2 => exact RcAt.int_list x t k1 (by omega)
    | tup k1 k2 => exact RcAt.int_tuple x t k1 (by omega)
  | str x t =>
    cases rb with
    | non => exact RcAt.str_none x t
    | bl y => exact RcAt.str_bool x t y
    | int y u => exact RcAt.str_int x t y u
    | str y u => exact RcAt.str_str x t y u
    | lst k1 k2 => exact RcAt.str_list x t k1 (by omega)
    | tup k1 k2 => exact RcAt.str_tuple x t k1 (by omega)
  | @lst l vs xs h1 h2 =>
    have hu0 : A.units < cLine := by simp only [D.dep] at hu; omega
    cases rb with
    | non => exact RcAt.list_none h1 hu0
    | bl y => exact RcAt.list_bool y h1 hu0
    | int y u => exact RcAt.list_int y u h1 hu0
    | str y u => exact RcAt.list_str y u h1 hu0
    | tup k1 k2 => exact RcAt.list_tuple h1 k1 hu0
    | @lst l' vs' ys k1 k2 =>
      simp only [D.dep] at hu
      have n1 : vs.size = xs.length := by simpa using DAll.length h2
      have n2 : vs'.size = ys.length := by simpa using DAll.length k2
      have he : ∀ j (j1 : j < vs.size) (j2 : j < vs'.size), EqAt A.in1 s vs[j] vs'[j] (dEqAt xs ys j) := fun j j1 j2 => by
        have := eqAt_Ds xs ys A.in1 s vs.toList vs'.toList h2 k2 (roomIn hu) j (by simpa using j1) (by simpa using j2)
        simpa using this
      show RcAt A s (.ref l) (.ref l') (D.eqvL xs ys)
      by_cases hz : vs.size = vs'.size
      · have e : D.eqvL xs ys = (List.range vs.size).all (dEqAt xs ys) := by
          rw [← eqvL_all xs ys, ← n1, ← n2, hz]
          simp
        rw [e]
        exact RcAt.lists h1 k1 hz hu0 he
      · rw [eqvL_len (by rw [← n1, ← n2]; exact hz)]
        exact RcAt.lists_lengths h1 k1 (by simpa using hz) hu0
  | @tup l vs xs h1 h2 =>
    have hu0 : A.units < cLine := by simp only [D.dep] at hu; omega
    cases rb with
    | non => exact RcAt.tuple_none h1 hu0
    | bl y => exact RcAt.tuple_bool y h1 hu0
    | int y u => exact RcAt.tuple_int y u h1 hu0
    | str y u => exact RcAt.tuple_str y u h1 hu0
    | lst k1 k2 => exact RcAt.tuple_list h1 k1 hu0
    | @tup l' vs' ys k1 k2 =>
      simp only [D.dep] at hu
      have n1 : vs.size = xs.length := by simpa using DAll.length h2
      have n2 : vs'.size = ys.length := by simpa using DAll.length k2
      have he : ∀ j (j1 : j < vs.size) (j2 : j < vs'.size), EqAt A.in1 s vs[j] vs'[j] (dEqAt xs ys j) := fun j j1 j2 => by
        have := eqAt_Ds xs ys A.in1 s vs.toList vs'.toList h2 k2 (roomIn hu) j (by simpa using j1) (by simpa using j2)
        simpa using this
      show RcAt A s (.ref l) (.ref l') (D.eqvL xs ys)
      rw [← eqvL_all xs ys, ← n1, ← n2]
      exact RcAt.tuples h1 k1 hu0 he
theorem rcNe_D {x y : D} {A : Around} {s : Shared} {a b : Value} (ra : DIs s.heap x a) (rb : DIs s.heap y b) (hu : A.units + min x.dep y.dep < cLine) : RcNeAt A s a b (!D.eqv x y) := by
  cases ra with
  | non =>
    cases rb with
    | non => exact RcNeAt.none_none
    | bl y => exact RcNeAt.none_bool y
    | int y u => exact RcNeAt.none_int y u
    | str y u => exact RcNeAt.none_str y u
    | lst k1 k2 => exact RcNeAt.none_list k1 (by omega)
    | tup k1 k2 => exact RcNeAt.none_tuple k1 (by omega)
  | bl x =>
    cases rb with
    | non => exact RcNeAt.bool_none x
    | bl y => exact RcNeAt.bool_bool x y
    | int y u => exact RcNeAt.bool_int x y u
    | str y u => exact RcNeAt.bool_str x y u
    | lst k1 k2 => exact RcNeAt.bool_list x k1 (by omega)
    | tup k1 k2 => exact RcNeAt.bool_tuple x k1 (by omega)
  | int x t =>
    cases rb with
    | non => exact RcNeAt.int_none x t
    | bl y => exact RcNeAt.int_bool x t y
    | int y u => exact RcNeAt.int_int x t y u
    | str y u => exact RcNeAt.int_str x t y u
    | lst k1 k2 => exact RcNeAt.int_list x t k1 (by omega)
    | tup k1 k2 => exact RcNeAt.int_tuple x t k1 (by omega)
  | str x t =>
    cases rb with
    | non => exact RcNeAt.str_none x t
    | bl y => exact RcNeAt.str_bool x t y
    | int y u => exact RcNeAt.str_int x t y u
    | str y u => exact RcNeAt.str_str x t y u
    | lst k1 k2 => exact RcNeAt.str_list x t k1 (by omega)
    | tup k1 k2 => exact RcNeAt.str_tuple x t k1 (by omega)
  | @lst l vs xs h1 h2 =>
    have hu0 : A.units < cLine := by simp only [D.dep] at hu; omega
    cases rb with
    | non => exact RcNeAt.list_none h1 hu0
    | bl y => exact RcNeAt.list_bool y h1 hu0
    | int y u => exact RcNeAt.list_int y u h1 hu0
    | str y u => exact RcNeAt.list_str y u h1 hu0
    | tup k1 k2 => exact RcNeAt.list_tuple h1 k1 hu0
    | @lst l' vs' ys k1 k2 =>
      simp only [D.dep] at hu
      have n1 : vs.size = xs.length := by simpa using DAll.length h2
      have n2 : vs'.size = ys.length := by simpa using DAll.length k2
      have he : ∀ j (j1 : j < vs.size) (j2 : j < vs'.size), EqAt A.in1 s vs[j] vs'[j] (dEqAt xs ys j) := fun j j1 j2 => by
        have := eqAt_Ds xs ys A.in1 s vs.toList vs'.toList h2 k2 (roomIn hu) j (by simpa using j1) (by simpa using j2)
        simpa using this
      show RcNeAt A s (.ref l) (.ref l') (!D.eqvL xs ys)
      by_cases hz : vs.size = vs'.size
      · have e : D.eqvL xs ys = (List.range vs.size).all (dEqAt xs ys) := by
          rw [← eqvL_all xs ys, ← n1, ← n2, hz]
          simp
        rw [e]
        exact RcNeAt.lists h1 k1 hz hu0 he
      · rw [eqvL_len (by rw [← n1, ← n2]; exact hz)]
        exact RcNeAt.lists_lengths h1 k1 (by simpa using hz) hu0
  | @tup l vs xs h1 h2 =>
    have hu0 : A.units < cLine := by simp only [D.dep] at hu; omega
    cases rb with
    | non => exact RcNeAt.tuple_none h1 hu0
    | bl y => exact RcNeAt.tuple_bool y h1 hu0
    | int y u => exact RcNeAt.tuple_int y u h1 hu0
    | str y u => exact RcNeAt.tuple_str y u h1 hu0
    | lst k1 k2 => exact RcNeAt.tuple_list h1 k1 hu0
    | @tup l' vs' ys k1 k2 =>
      simp only [D.dep] at hu
      have n1 : vs.size = xs.length := by simpa using DAll.length h2
      have n2 : vs'.size = ys.length := by simpa using DAll.length k2
      have he : ∀ j (j1 : j < vs.size) (j2 : j < vs'.size), EqAt A.in1 s vs[j] vs'[j] (dEqAt xs ys j) := fun j j1 j2 => by
        have := eqAt_Ds xs ys A.in1 s vs.toList vs'.toList h2 k2 (roomIn hu) j (by simpa using j1) (by simpa using j2)
        simpa using this
      show RcNeAt A s (.ref l) (.ref l') (!D.eqvL xs ys)
      rw [← eqvL_all xs ys, ← n1, ← n2]
      exact RcNeAt.tuples h1 k1 hu0 he

/-! ### as data of the library, for < -/
mutual
def D.pd : D → PyData
  | .bl b => .bool b
  | .str z => .str z
  | .lst l => .list (D.pdL l)
  | .int i => .int i
  | .tup l => .tuple (D.pdL l)
  | _ => .none
def D.pdL : List D → List PyData
  | [] => []
  | d :: ds => D.pd d :: D.pdL ds
end
mutual
theorem DIs.reads {h : Heap} : ∀ (d : D) (v : Value), DIs h d v → ∃ as, Reads h v d.pd as
  | .non, _, x => by cases x; exact ⟨_, .none⟩
  | .bl b, _, x => by cases x; exact ⟨_, .bool b⟩
  | .int i, _, x => by cases x; exact ⟨_, .int i _⟩
  | .str z, _, x => by cases x; exact ⟨_, .str z _⟩
  | .tup l, _, x => by
    cases x with
    | tup h1 h2 =>
      obtain ⟨o, e, c, n, d⟩ := h1
      obtain ⟨as, r⟩ := DAll.reads l _ h2
      exact ⟨_, .tuple e c d r⟩
  | .lst l, _, x => by
    cases x with
    | lst h1 h2 =>
      obtain ⟨o, e, c, n, d⟩ := h1
      obtain ⟨as, r⟩ := DAll.reads l _ h2
      exact ⟨_, .list e c d r⟩
  | .dic _ _, _, x => by cases x
  | .fn _, _, x => by cases x
  | .own _, _, x => by cases x
  | .scr _, _, x => by cases x
theorem DAll.reads {h : Heap} : ∀ (ds : List D) (vs : List Value), DAll h ds vs → ∃ as, ReadsAll h vs (D.pdL ds) as
  | [], _, x => by cases x; exact ⟨_, .nil⟩
  | d :: ds, _, x => by
    cases x with
    | cons a b =>
      obtain ⟨as, r⟩ := DIs.reads d _ a
      obtain ⟨bs, q⟩ := DAll.reads ds _ b
      exact ⟨_, .cons r q⟩
end
mutual
theorem dep_pd : ∀ d : D, d.pd.depth ≤ d.dep
  | .non | .bl _ | .int _ | .str _ | .dic _ _ | .fn _ | .own _ | .scr _ => by simp [D.pd, PyData.depth]
  | .tup l => by have := depL_pd l; simp only [D.pd, PyData.depth, D.dep]; omega
  | .lst l => by have := depL_pd l; simp only [D.pd, PyData.depth, D.dep]; omega
theorem depL_pd : ∀ ds : List D, PyData.depthAll (D.pdL ds) ≤ D.depL ds
  | [] => by simp [D.pdL, PyData.depthAll]
  | d :: ds => by have := dep_pd d; have := depL_pd ds; simp only [D.pdL, PyData.depthAll, D.depL]; omega
end
theorem alk_tup {xs : List D} {y : D} (h : (D.tup xs).alk y = true) : ∃ ys, y = .tup ys ∧ D.alkL xs ys = true := by
  cases y <;> simp [D.alk] at h
  exact ⟨_, rfl, h⟩
theorem alk_int {i : Int} {y : D} (h : (D.int i).alk y = true) : ∃ j, y = .int j := by
  cases y <;> simp [D.alk] at h
  exact ⟨_, rfl⟩
theorem alk_cases {x y : D} (h : x.alk y = true) : (∃ i, x = .int i) ∨ ∃ l, x = .tup l := by
  cases x <;> simp [D.alk] at h
  · exact .inl ⟨_, rfl⟩
  · exact .inr ⟨_, rfl⟩
mutual
theorem alk_pd : ∀ (x y : D), x.alk y = true → W.alike x.pd y.pd = true ∧ PyData.eqv x.pd y.pd = x.eqv y
  | .int i, y, h => by obtain ⟨j, rfl⟩ := alk_int h; exact ⟨rfl, rfl⟩
  | .tup xs, y, h => by
    obtain ⟨ys, rfl, h⟩ := alk_tup h
    simp only [D.pd, W.alike, PyData.eqv, D.eqv]
    exact alkL_pd xs ys h
  | .non, _, h | .bl _, _, h | .str _, _, h | .lst _, _, h | .dic _ _, _, h | .fn _, _, h | .own _, _, h | .scr _, _, h => by simp [D.alk] at h
theorem alkL_pd : ∀ (xs ys : List D), D.alkL xs ys = true → W.alikeAll (D.pdL xs) (D.pdL ys) = true ∧ PyData.eqvAll (D.pdL xs) (D.pdL ys) = D.eqvL xs ys
  | [], [], _ => ⟨rfl, rfl⟩
  | [], _ :: _, _ => ⟨rfl, rfl⟩
  | _ :: _, [], _ => ⟨rfl, rfl⟩
  | x :: xs, y :: ys, h => by
    simp only [D.alkL, Bool.and_eq_true] at h
    obtain ⟨a1, a2⟩ := alk_pd x y h.1
    obtain ⟨b1, b2⟩ := alkL_pd xs ys h.2
    simp only [D.pdL, W.alikeAll, PyData.eqvAll, D.eqvL, a1, a2, b1, b2, Bool.and_self]
    exact ⟨trivial, trivial⟩
end
mutual
theorem lt_pd : ∀ (x y : D), x.alk y = true → W.dataLt x.pd y.pd = x.ltB y
  | .int i, y, h => by obtain ⟨j, rfl⟩ := alk_int h; exact W.dataLt_int i j
  | .tup xs, y, h => by
    obtain ⟨ys, rfl, h⟩ := alk_tup h
    simp only [D.pd, D.ltB]
    rw [W.dataLt_tuple]
    exact ltL_pd xs ys h
  | .non, _, h | .bl _, _, h | .str _, _, h | .lst _, _, h | .dic _ _, _, h | .fn _, _, h | .own _, _, h | .scr _, _, h => by simp [D.alk] at h
theorem ltL_pd : ∀ (xs ys : List D), D.alkL xs ys = true → PyProof.Rows.lexLt itemOrd (W.keyToksAll (D.pdL xs)) (W.keyToksAll (D.pdL ys)) = D.ltL xs ys
  | [], [], _ => by simp only [D.pdL, D.ltL, W.keyToksAll]; decide
  | [], y :: ys, _ => by simp only [D.pdL, D.ltL, W.keyToksAll]; exact (W.lex_atom (p := .inl 0) (q := .inl 1) (by decide) _ _).trans (by decide)
  | x :: xs, [], _ => by simp only [D.pdL, D.ltL, W.keyToksAll]; exact (W.lex_atom (p := .inl 1) (q := .inl 0) (by decide) _ _).trans (by decide)
  | x :: xs, y :: ys, h => by
    simp only [D.alkL, Bool.and_eq_true] at h
    obtain ⟨a1, a2⟩ := alk_pd x y h.1
    simp only [D.pdL, D.ltL]
    cases q : x.eqv y with
    | true =>
      rw [W.dataLt_all_yes a1 (a2.trans q), if_pos rfl]
      exact ltL_pd xs ys h.2
    | false =>
      rw [W.dataLt_all_no a1 (a2.trans q), if_neg (by simp)]
      exact lt_pd x y h.1
end
theorem alk_ne {x y : D} (h : x.alk y = true) : x.pd ≠ .none := by
  rcases alk_cases h with ⟨i, rfl⟩ | ⟨l, rfl⟩ <;> simp [D.pd]
theorem min_dep {A : Around} {x y : D} (hu : A.units + 64 < cLine) (h : min x.dep y.dep ≤ 64) : A.units + min x.pd.depth y.pd.depth < cLine := by
  have := dep_pd x
  have := dep_pd y
  omega

section
variable {L : Lk} {X : Cx}
theorem cm_eq (hK : X.K = L.K) (hu : X.A.units + 64 < cLine) : CmD L X .Eq .eq := by
  rintro pins s σ H x y v u Q I rx ry ⟨Z, ρ, T, dx, dy, r, b, hx, hy, e, k⟩
  simp only [cmpop] at e
  split at e
  · rename_i c
    cases e
    simp only [Bool.and_eq_true, decide_eq_true_eq] at c
    exact rcAt_D (RO.dIs hK I c.1.1 hx rx) (RO.dIs hK I c.1.2 hy ry) (by omega) X.prog X.w X.xe _ ⟨.bl _, H, I, rfl, k _ _ _ (Post.bl b _)⟩
  · cases e
theorem cm_ne (hK : X.K = L.K) (hu : X.A.units + 64 < cLine) : CmD L X .NotEq .ne := by
  rintro pins s σ H x y v u Q I rx ry ⟨Z, ρ, T, dx, dy, r, b, hx, hy, e, k⟩
  simp only [cmpop] at e
  split at e
  · rename_i c
    cases e
    simp only [Bool.and_eq_true, decide_eq_true_eq] at c
    exact rcNe_D (RO.dIs hK I c.1.1 hx rx) (RO.dIs hK I c.1.2 hy ry) (by omega) X.prog X.w X.xe _ ⟨.bl _, H, I, rfl, k _ _ _ (Post.bl b _)⟩
  · cases e
mutual
theorem alk_comm : ∀ {x y : D}, x.alk y = true → y.alk x = true
  | .int i, y, h => by obtain ⟨j, rfl⟩ := alk_int h; rfl
  | .tup xs, y, h => by
    obtain ⟨ys, rfl, h⟩ := alk_tup h
    simp only [D.alk]
    exact alkL_comm h
  | .non, _, h | .bl _, _, h | .str _, _, h | .lst _, _, h | .dic _ _, _, h | .fn _, _, h | .own _, _, h | .scr _, _, h => by simp [D.alk] at h
theorem alkL_comm : ∀ {xs ys : List D}, D.alkL xs ys = true → D.alkL ys xs = true
  | [], [], _ => rfl
  | [], _ :: _, _ => rfl
  | _ :: _, [], _ => rfl
  | x :: xs, y :: ys, h => by
    simp only [D.alkL, Bool.and_eq_true] at h ⊢
    exact ⟨alk_comm h.1, alkL_comm h.2⟩
end
/-- what is compared by < need not be plain in all places: only ints and tuples stand where they meet; the whole is asked to be plain -/
theorem alk_reads (hK : X.K = L.K) {Z : Addr → Prop} {ρ : List Addr} {H : Hp} {pins : List (Addr × Obj)} {σ : L2.St} {s : Shared} (I : Inv X pins σ H s) {d e : D} {x : V} {u : Value} (h : d.alk e = true) (p : d.pln = true) (r : RO L Z ρ H d x) (rv : RelV x u) : ∃ as, Reads s.heap u d.pd as :=
  DIs.reads _ _ (RO.dIs hK I p r rv)
theorem cm_lt (hK : X.K = L.K) (hu : X.A.units + 64 < cLine) : CmD L X .Lt .lt := by
  rintro pins s σ H x y v u Q I rx ry ⟨Z, ρ, T, dx, dy, r, b, hx, hy, e, k⟩
  simp only [cmpop] at e
  split at e
  · rename_i c
    cases e
    simp only [Bool.and_eq_true, decide_eq_true_eq] at c
    obtain ⟨as, ra⟩ := alk_reads hK I c.1.1.1 c.1.1.2 hx rx
    obtain ⟨bs, rb⟩ := alk_reads hK I (alk_comm c.1.1.1) c.1.2 hy ry
    refine W.lt_data ra rb (alk_pd _ _ c.1.1.1).1 (alk_ne c.1.1.1) (min_dep hu c.2) ⟨.bl _, H, I, rfl, ?_⟩
    rw [lt_pd _ _ c.1.1.1]
    exact k _ _ _ (Post.bl b _)
  · cases e
theorem cm_gt (hK : X.K = L.K) (hu : X.A.units + 64 < cLine) : CmD L X .Gt .gt := by
  rintro pins s σ H x y v u Q I rx ry ⟨Z, ρ, T, dx, dy, r, b, hx, hy, e, k⟩
  simp only [cmpop] at e
  split at e
  · rename_i c
    cases e
    simp only [Bool.and_eq_true, decide_eq_true_eq] at c
    obtain ⟨as, ra⟩ := alk_reads hK I c.1.1.1 c.1.1.2 hx rx
    obtain ⟨bs, rb⟩ := alk_reads hK I (alk_comm c.1.1.1) c.1.2 hy ry
    refine W.gt_data ra rb (alk_pd _ _ c.1.1.1).1 (alk_ne c.1.1.1) (min_dep hu c.2) ⟨.bl _, H, I, rfl, ?_⟩
    rw [lt_pd _ _ (alk_comm c.1.1.1)]
    exact k _ _ _ (Post.bl b _)
  · cases e
theorem cm_le (hK : X.K = L.K) (hu : X.A.units + 64 < cLine) : CmD L X .LtE .le := by
  rintro pins s σ H x y v u Q I rx ry ⟨Z, ρ, T, dx, dy, r, b, hx, hy, e, k⟩
  simp only [cmpop] at e
  split at e
  · rename_i c
    cases e
    simp only [Bool.and_eq_true, decide_eq_true_eq] at c
    obtain ⟨as, ra⟩ := alk_reads hK I c.1.1.1 c.1.1.2 hx rx
    obtain ⟨bs, rb⟩ := alk_reads hK I (alk_comm c.1.1.1) c.1.2 hy ry
    refine W.le_data ra rb (alk_pd _ _ c.1.1.1).1 (alk_ne c.1.1.1) (min_dep hu c.2) ⟨.bl _, H, I, rfl, ?_⟩
    rw [lt_pd _ _ (alk_comm c.1.1.1)]
    exact k _ _ _ (Post.bl b _)
  · cases e
theorem cm_ge (hK : X.K = L.K) (hu : X.A.units + 64 < cLine) : CmD L X .GtE .ge := by
  rintro pins s σ H x y v u Q I rx ry ⟨Z, ρ, T, dx, dy, r, b, hx, hy, e, k⟩
  simp only [cmpop] at e
  split at e
  · rename_i c
    cases e
    simp only [Bool.and_eq_true, decide_eq_true_eq] at c
    obtain ⟨as, ra⟩ := alk_reads hK I c.1.1.1 c.1.1.2 hx rx
    obtain ⟨bs, rb⟩ := alk_reads hK I (alk_comm c.1.1.1) c.1.2 hy ry
    refine W.ge_data ra rb (alk_pd _ _ c.1.1.1).1 (alk_ne c.1.1.1) (min_dep hu c.2) ⟨.bl _, H, I, rfl, ?_⟩
    rw [lt_pd _ _ c.1.1.1]
    exact k _ _ _ (Post.bl b _)
  · cases e

/-- the data that a value is -/
noncomputable def dOf (h : Heap) (u : Value) : D := open Classical in if x : ∃ d, DIs h d u then x.choose else .non
theorem dOf_eq {h : Heap} {u : Value} {d : D} (x : DIs h d u) : dOf h u = d := by
  have e : ∃ d, DIs h d u := ⟨d, x⟩
  unfold dOf
  rw [dif_pos e]
  exact DIs.inj _ _ _ e.choose_spec x
theorem any_dOf {h : Heap} {f : D → Bool} : ∀ {ks : List D} {vs : List Value}, DAll h ks vs → vs.any (fun u => f (dOf h u)) = ks.any f
  | [], _, x => by cases x; rfl
  | k :: ks, _, x => by
    cases x with
    | cons a b => rw [List.any_cons, List.any_cons, dOf_eq a, any_dOf b]
theorem DAll.mem {h : Heap} : ∀ {ks : List D} {vs : List Value} {v : Value}, DAll h ks vs → v ∈ vs → ∃ k ∈ ks, DIs h k v
  | [], _, _, x, m => by cases x; cases m
  | k :: ks, _, v, x, m => by
    cases x with
    | cons a b =>
      rcases List.mem_cons.mp m with rfl | m
      · exact ⟨k, List.mem_cons_self, a⟩
      · obtain ⟨k', hk, r⟩ := DAll.mem b m
        exact ⟨k', List.mem_cons_of_mem _ hk, r⟩
theorem eq_items {s : Shared} {A : Around} {ks : List D} {vs : Array Value} {d : D} {u : Value} (a : DAll s.heap ks vs.toList) (x : DIs s.heap d u) (hu : A.units + 1 + d.dep < cLine) : ∀ y, y ∈ vs → EqAt A.in1 s y u ((fun w => (dOf s.heap w).eqv d) y) := fun y m => by
  obtain ⟨k, hk, r⟩ := a.mem (v := y) (by simpa using m)
  show EqAt A.in1 s y u ((dOf s.heap y).eqv d)
  rw [dOf_eq r]
  exact eqAt_D k d A.in1 s y u r x (by show A.units + 1 + min k.dep d.dep < cLine; omega)
theorem cm_in (hK : X.K = L.K) (hu : X.A.units + 80 < cLine) (hdic : ∀ (pins : List (Addr × Obj)) (s : Shared) (σ : L2.St) (H : Hp) (x y : V) (v u : Value) (Q : VK) (Z : Addr → Prop) (ρ : List Addr) (T : List Nd) (dx : D) (ks vs : List D) (r : Bool), Inv X pins σ H s → RelV x v → RelV y u →
      Bs L Z ρ T H → RO L Z ρ H dx x → RO L Z ρ H (.dic ks vs) y → memb dx (.dic ks vs) = some r → Q (.bl r) H → wpAny (model X.prog X.w) X.A (compareOp .In v u) (EP X pins σ Q) X.xe s) : CmD L X .In .isIn := by
  rintro pins s σ H x y v u Q I rx ry ⟨Z, ρ, T, dx, dy, r, b, hx, hy, e, k⟩
  simp only [cmpop, Option.map_eq_some_iff] at e
  obtain ⟨m, e, rfl⟩ := e
  have k : Q (.bl m) H := k _ _ _ (Post.bl b _)
  cases dy <;> first
    | (simp only [memb] at e; cases e; done)
    | skip
  case tup l =>
    simp only [memb] at e
    split at e
    · rename_i c
      cases e
      simp only [Bool.and_eq_true, decide_eq_true_eq] at c
      cases RO.dIs hK I (by simpa [D.pln] using c.1.2) hy ry with
      | tup h1 h2 =>
        refine in_tupleAt _ h1 (eq_items h2 (RO.dIs hK I c.1.1 hx rx) (by omega)) ⟨.bl _, H, I, rfl, ?_⟩
        rw [← Array.any_toList, any_dOf (f := fun w => w.eqv dx) h2]
        exact k
    · cases e
  case lst l =>
    simp only [memb] at e
    split at e
    · rename_i c
      cases e
      simp only [Bool.and_eq_true, decide_eq_true_eq] at c
      cases RO.dIs hK I (by simpa [D.pln] using c.1.2) hy ry with
      | lst h1 h2 =>
        refine in_listAt _ h1 (eq_items h2 (RO.dIs hK I c.1.1 hx rx) (by omega)) ⟨.bl _, H, I, rfl, ?_⟩
        rw [← Array.any_toList, any_dOf (f := fun w => w.eqv dx) h2]
        exact k
    · cases e
  case dic ks vs => exact hdic pins s σ H x y v u Q Z ρ T dx ks vs m I rx ry b hx hy e k
  case str z =>
    cases dx <;> first
      | (simp only [memb] at e; cases e; done)
      | skip
    case str w =>
      simp only [memb] at e
      split at e
      · rename_i c hc
        cases e
        have ew : w = ⟨#[c]⟩ := Str.ext' (Array.toList_inj.mp hc)
        exact op_in_sign pins s σ H x y v u Q I rx ry ⟨c, z, by rw [ro_str hx, ew], ro_str hy, k⟩
      · cases e
theorem cm_notIn (hK : X.K = L.K) (hu : X.A.units + 80 < cLine) (hdic : ∀ (pins : List (Addr × Obj)) (s : Shared) (σ : L2.St) (H : Hp) (x y : V) (v u : Value) (Q : VK) (Z : Addr → Prop) (ρ : List Addr) (T : List Nd) (dx : D) (ks vs : List D) (r : Bool), Inv X pins σ H s → RelV x v → RelV y u →
      Bs L Z ρ T H → RO L Z ρ H dx x → RO L Z ρ H (.dic ks vs) y → memb dx (.dic ks vs) = some r → Q (.bl (!r)) H → wpAny (model X.prog X.w) X.A (compareOp .NotIn v u) (EP X pins σ Q) X.xe s) : CmD L X .NotIn .notIn := by
  rintro pins s σ H x y v u Q I rx ry ⟨Z, ρ, T, dx, dy, r, b, hx, hy, e, k⟩
  simp only [cmpop, Option.map_eq_some_iff] at e
  obtain ⟨m', ⟨m, e, rfl⟩, rfl⟩ := e
  have k : Q (.bl (!m)) H := k _ _ _ (Post.bl b _)
  cases dy <;> first
    | (simp only [memb] at e; cases e; done)
    | skip
  case tup l =>
    simp only [memb] at e
    split at e
    · rename_i c
      cases e
      simp only [Bool.and_eq_true, decide_eq_true_eq] at c
      cases RO.dIs hK I (by simpa [D.pln] using c.1.2) hy ry with
      | tup h1 h2 =>
        refine notIn_tupleAt _ h1 (eq_items h2 (RO.dIs hK I c.1.1 hx rx) (by omega)) ⟨.bl _, H, I, rfl, ?_⟩
        rw [← Array.any_toList, any_dOf (f := fun w => w.eqv dx) h2]
        exact k
    · cases e
  case lst l =>
    simp only [memb] at e
    split at e
    · rename_i c
      cases e
      simp only [Bool.and_eq_true, decide_eq_true_eq] at c
      cases RO.dIs hK I (by simpa [D.pln] using c.1.2) hy ry with
      | lst h1 h2 =>
        refine notIn_listAt _ h1 (eq_items h2 (RO.dIs hK I c.1.1 hx rx) (by omega)) ⟨.bl _, H, I, rfl, ?_⟩
        rw [← Array.any_toList, any_dOf (f := fun w => w.eqv dx) h2]
        exact k
    · cases e
  case dic ks vs => exact hdic pins s σ H x y v u Q Z ρ T dx ks vs m I rx ry b hx hy e k
  case str z =>
    cases dx <;> first
      | (simp only [memb] at e; cases e; done)
      | skip
    case str w =>
      simp only [memb] at e
      split at e
      · rename_i c hc
        cases e
        have ew : w = ⟨#[c]⟩ := Str.ext' (Array.toList_inj.mp hc)
        exact op_notIn_sign pins s σ H x y v u Q I rx ry ⟨c, z, by rw [ro_str hx, ew], ro_str hy, k⟩
      · cases e

theorem cm_is : CmD L X .Is .is := by
  rintro pins s σ H x y v u Q I rx ry ⟨Z, ρ, T, dx, dy, r, b, hx, hy, e, k⟩
  simp only [cmpop, Option.map_eq_some_iff] at e
  obtain ⟨m, e, rfl⟩ := e
  have k : Q (.bl m) H := k _ _ _ (Post.bl b _)
  cases dy <;> first
    | (simp only [isSame] at e; cases e; done)
    | skip
  case non =>
    have ey := ro_non hy
    refine op_isN pins s σ H x y v u Q I rx ry ⟨ey, ?_⟩
    simp only [isSame, Option.some.injEq] at e
    rw [← e] at k
    cases dx <;> simp only [] at k
    case non => rw [ro_non hx]; exact k
    case bl c => rw [bl_ro hx]; exact k
    case int c => rw [ro_int hx]; exact k
    case str c => rw [ro_str hx]; exact k
    case tup c => obtain ⟨a, vs, ex, _⟩ := ro_tup hx; rw [ex]; exact k
    case lst c => obtain ⟨a, vs, ex, _⟩ := ro_lst hx; rw [ex]; exact k
    case dic c d => obtain ⟨a, vs, us, ex, _⟩ := ro_dic hx; rw [ex]; exact k
    case own c => obtain ⟨a, _, ex⟩ := ro_own hx; rw [ex]; exact k
    case scr c => obtain ⟨a, ex, _⟩ := ro_scr hx; rw [ex]; exact k
    case fn c =>
      rcases hx with hx | ⟨_, _, _, n⟩
      · simp only [Rep] at hx
        rw [hx]; exact k
      · exact n.elim
  case bl c =>
    cases dx <;> first
      | (simp only [isSame] at e; cases e; done)
      | skip
    case bl d =>
      simp only [isSame, Option.some.injEq] at e
      refine op_is_bl pins s σ H x y v u Q I rx ry ⟨d, c, bl_ro hx, bl_ro hy, ?_⟩
      rw [← e, Bool.beq_eq_decide_eq] at k
      exact k
theorem cm_isNot : CmD L X .IsNot .isNot := by
  rintro pins s σ H x y v u Q I rx ry ⟨Z, ρ, T, dx, dy, r, b, hx, hy, e, k⟩
  simp only [cmpop, Option.map_eq_some_iff] at e
  obtain ⟨m', ⟨m, e, rfl⟩, rfl⟩ := e
  have k : Q (.bl (!m)) H := k _ _ _ (Post.bl b _)
  cases dy <;> first
    | (simp only [isSame] at e; cases e; done)
    | skip
  case non =>
    have ey := ro_non hy
    refine op_notN pins s σ H x y v u Q I rx ry ⟨ey, ?_⟩
    simp only [isSame, Option.some.injEq] at e
    rw [← e] at k
    cases dx <;> simp only [] at k
    case non => rw [ro_non hx]; exact k
    case bl c => rw [bl_ro hx]; exact k
    case int c => rw [ro_int hx]; exact k
    case str c => rw [ro_str hx]; exact k
    case tup c => obtain ⟨a, vs, ex, _⟩ := ro_tup hx; rw [ex]; exact k
    case lst c => obtain ⟨a, vs, ex, _⟩ := ro_lst hx; rw [ex]; exact k
    case dic c d => obtain ⟨a, vs, us, ex, _⟩ := ro_dic hx; rw [ex]; exact k
    case own c => obtain ⟨a, _, ex⟩ := ro_own hx; rw [ex]; exact k
    case scr c => obtain ⟨a, ex, _⟩ := ro_scr hx; rw [ex]; exact k
    case fn c =>
      rcases hx with hx | ⟨_, _, _, n⟩
      · simp only [Rep] at hx
        rw [hx]; exact k
      · exact n.elim
  case bl c =>
    cases dx <;> first
      | (simp only [isSame] at e; cases e; done)
      | skip
    case bl d =>
      simp only [isSame, Option.some.injEq] at e
      refine op_isnot_bl pins s σ H x y v u Q I rx ry ⟨d, c, bl_ro hx, bl_ro hy, ?_⟩
      rw [← e, Bool.beq_eq_decide_eq] at k
      exact k
end
end Sr
end

section
set_option autoImplicit false
set_option linter.all false
set_option Elab.async false
/-! Sr5: subscripts, slices, built-ins. -/
namespace Sr
open PySem PySem.Spec PyProof.Rows L2 SeqAt

section
variable {L : Lk} {X : Cx} {Z : Addr → Prop} {ρ : List Addr} {H : Hp} {T : List Nd} {v : V} {P : Pg} {call : CallF} {W : WX}
abbrev RQ (L : Lk) (Z : Addr → Prop) (ρ : List Addr) (H : Hp) (d : D) (v : V) : Prop := RepO L ρ H (Hd Z ρ H) d v
theorem rq_int {i : Int} (h : RQ L Z ρ H (.int i) v) : v = .int i := by
  rcases h with h | ⟨_, _, n⟩
  · simpa [Rep] using h
  · exact n.elim
theorem rq_bl {i : Bool} (h : RQ L Z ρ H (.bl i) v) : v = .bl i := by
  rcases h with h | ⟨_, _, n⟩
  · simpa [Rep] using h
  · exact n.elim
theorem rq_str {z : Str} (h : RQ L Z ρ H (.str z) v) : v = .str z := by
  rcases h with h | ⟨_, _, n⟩
  · simpa [Rep] using h
  · exact n.elim
theorem rq_tup {l : List D} (h : RQ L Z ρ H (.tup l) v) : ∃ a vs, v = .ref a ∧ SqT L.K (Hd Z ρ H) a vs ∧ Reps L ρ (Hd Z ρ H) l vs := RepO.tup h
theorem rq_lst {l : List D} (h : RQ L Z ρ H (.lst l) v) : ∃ a vs, v = .ref a ∧ H a = some (.lst vs) ∧ Reps L ρ (Hd Z ρ H) l vs := RepO.lst (Hd.sub _ _ _) h
theorem rq_dic {ks ds : List D} (h : RQ L Z ρ H (.dic ks ds) v) : ∃ a kv vv, v = .ref a ∧ DicAt L.w H a kv vv ks ∧ Reps L ρ (Hd Z ρ H) ks kv ∧ Reps L ρ (Hd Z ρ H) ds vv := RepO.dic (Hd.sub _ _ _) h
theorem rq_scr {ns : List Int} (h : RQ L Z ρ H (.scr ns) v) : ∃ a, v = .ref a ∧ SqL L.K H a (ns.map V.int) := by
  rcases h with h | ⟨_, _, n⟩
  · simp only [Rep] at h
    obtain ⟨a, e, q⟩ := h
    exact ⟨a, e, (Hd.sub _ _ _).sqL q⟩
  · exact n.elim
/-- an operand, its object of the store opened -/
theorem RO.deref {d d' : D} (b : Bs L Z ρ T H) (h : RO L Z ρ H d v) (e : derefT T d = some d') : RQ L Z ρ H d' v := by
  by_cases hk : ∃ k, d = .own k
  · obtain ⟨k, rfl⟩ := hk
    obtain ⟨a, ha, rfl⟩ := ro_own h
    simp only [derefT] at e
    cases q : T[k]? with
    | none => rw [q] at e; cases e
    | some n =>
      rw [q] at e
      have at_ := b.at_ k n a q ha
      cases n with
      | lst l => cases e; exact .inr ⟨a, rfl, at_⟩
      | dic ks vs => cases e; exact .inr ⟨a, rfl, at_⟩
      | ins c fs => cases e
  · have : d' = d := by
      cases d <;> simp only [derefT, Option.some.injEq] at e <;> first | exact e.symm | exact absurd ⟨_, rfl⟩ hk
    rw [this]; exact h.repO
theorem RX.deref {Wx : XW} {d : D} {k : D → List Nd → Prop} (h : RX L Z ρ H Wx (Sr.deref d T) k) : ∃ d', derefT T d = some d' ∧ k d' T := by
  unfold Sr.deref at h
  cases e : derefT T d with
  | none => rw [e] at h; exact h.elim
  | some d' => rw [e] at h; exact ⟨d', rfl, h⟩

/-! ### subscripts -/
theorem atI_reps {l : List D} {vs : List V} {Hc : Hp} {i : Int} {d : D} (r : Reps L ρ Hc l vs) (e : L2.atI l i = some d) : ∃ v, L2.atI vs i = some v ∧ Rep L ρ Hc d v := by
  unfold L2.atI at e ⊢
  rw [← r.length] at e
  cases q : L2.ixN vs.length i with
  | none => rw [q] at e; cases e
  | some j =>
    rw [q] at e
    exact r.get e
/-- a subscript by the data -/
def IxD (L : Lk) (X : Cx) : Prop := IxR X fun x y H Q => ∃ Z ρ T dx dy d, Bs L Z ρ T H ∧ RQ L Z ρ H dx x ∧ RO L Z ρ H dy y ∧ idxop dx dy = some d ∧ ∀ v, Rep L ρ (Hd Z ρ H) d v → Q v H
def IxDic (L : Lk) (X : Cx) : Prop := IxR X fun x y H Q => ∃ Z ρ T ks vs dy d, Bs L Z ρ T H ∧ RQ L Z ρ H (.dic ks vs) x ∧ RO L Z ρ H dy y ∧ idxop (.dic ks vs) dy = some d ∧ ∀ v, Rep L ρ (Hd Z ρ H) d v → Q v H
theorem ix_D (hK : X.K = L.K) (hd : IxDic L X) : IxD L X := by
  rintro value slice pins s σ H x y v u Q I rx ry ⟨Z, ρ, T, dx, dy, d, b, hx, hy, e, k⟩ hs
  cases dx <;> first
    | (simp only [idxop] at e; cases e; done)
    | skip
  case tup l =>
    cases dy <;> first
      | (simp only [idxop] at e; cases e; done)
      | skip
    case int i =>
      simp only [idxop] at e
      obtain ⟨a, vs, ex, q, r⟩ := rq_tup hx
      obtain ⟨w, e2, r2⟩ := atI_reps r e
      exact ix_tup value slice pins s σ H x y v u Q I rx ry ⟨a, vs, i, w, ex, ro_int hy, hK ▸ (Hd.sub _ _ _).sqT q, e2, k w r2⟩ hs
  case lst l =>
    cases dy <;> first
      | (simp only [idxop] at e; cases e; done)
      | skip
    case int i =>
      simp only [idxop] at e
      obtain ⟨a, vs, ex, q, r⟩ := rq_lst hx
      obtain ⟨w, e2, r2⟩ := atI_reps r e
      exact ix_list value slice pins s σ H x y v u Q I rx ry ⟨a, vs, i, w, ex, ro_int hy, SqL.of q, e2, k w r2⟩ hs
  case str z =>
    cases dy <;> first
      | (simp only [idxop] at e; cases e; done)
      | skip
    case int i =>
      simp only [idxop] at e
      split at e
      · rename_i hz
        obtain ⟨c, e2, rfl⟩ := Option.map_eq_some_iff.mp e
        exact ix_str value slice pins s σ H x y v u Q I rx ry ⟨z, i, c, rq_str hx, ro_int hy, by rw [← SZ_eq]; exact hz, e2, k _ (by simp [Rep])⟩ hs
      · cases e
  case dic ks vs => exact hd value slice pins s σ H x y v u Q I rx ry ⟨Z, ρ, T, ks, vs, dy, d, b, hx, hy, e, k⟩ hs
theorem pe_idxV {a i : Expr} {ma mi : M} {pos : Pos} (hI : IxD L X) (ha : PE X a (tO L P call W ma)) (hi : PE X i (tO L P call W mi)) (hs : PlainIx i) : PE X (.Subscript a i pos) (tV L P call W (.idx ma mi)) :=
  impE (pe_ix hI ha hi hs) fun σ H Q ⟨Z, env, T, ρ, er, h⟩ => by
    simp only [ev] at h
    refine ⟨Z, env, T, ρ, er, h.bind.imp fun dx T1 h1 x H1 ρ1 p1 => ?_⟩
    refine ⟨Z, env, T1, ρ1, er.step p1.fr p1.bs, (h1.move p1.fr).bind.imp fun dy T2 h2 y H2 ρ2 p2 => ?_⟩
    obtain ⟨dx', e, h3⟩ := h2.bind.deref
    obtain ⟨d, e2, h4⟩ := h3.bind.ofO
    have h4 := RX.pure h4
    exact ⟨Z, ρ2, T2, dx', dy, d, p2.bs, (p2.fr.ro p1.bs p1.ro).deref p2.bs e, p2.ro, e2, fun v r => h4 v H2 ρ2 (Post.after (p1.fr.trans p2.fr) (Post.of p2.bs r))⟩

/-! ### slices -/
theorem cut_reps {l : List D} {vs : List V} {Hc : Hp} (r : Reps L ρ Hc l vs) (lo hi : Option Int) : Reps L ρ Hc (cut l lo hi) (cutV vs lo hi) := by
  unfold cut cutV
  rw [r.length]
  exact (r.drop _).take _
theorem cut_ints (ns : List Int) (lo hi : Option Int) : cutV (ns.map V.int) lo hi = (cut ns lo hi).map V.int := by
  unfold cut cutV
  rw [List.length_map, ← List.map_drop, ← List.map_take]
theorem ints_reps {Hc : Hp} : ∀ ns : List Int, Reps L ρ Hc (ns.map .int) (ns.map V.int)
  | [] => .nil
  | n :: ns => .cons (by simp [Rep]) (ints_reps ns)
def SlD (L : Lk) (X : Cx) : Prop := SlR X fun x lo hi H Q => ∃ Z ρ T dx r, Bs L Z ρ T H ∧ RO L Z ρ H dx x ∧ slop dx lo hi = some r ∧ ∀ v H' ρ', Post L Z ρ H v r.1 r.2 H' T ρ' → Q v H'
theorem sl_D (hK : X.K = L.K) : SlD L X := by
  rintro pins s σ H x v vl vu lo hi sl Q I rx hsl p1 p2 ⟨Z, ρ, T, dx, r, b, hx, e, k⟩
  cases dx <;> first
    | (simp only [slop] at e; cases e; done)
    | skip
  case tup l =>
    simp only [slop, Option.some.injEq] at e
    subst e
    obtain ⟨a, vs, ex, q, r⟩ := ro_tup hx
    refine sl_tupA pins s σ H x v vl vu lo hi sl Q I rx hsl p1 p2 ⟨a, vs, ex, hK ▸ (Hd.sub _ _ _).sqT q, fun ⟨h1, h2⟩ => k _ _ _ (Post.of b ?_), fun _ p hp => k _ _ _ (Post.newTup b hp (cut_reps r lo hi))⟩
    have e : cut l lo hi = l := by
      unfold cut
      rw [← r.length, h1, h2, List.drop_zero, Nat.sub_zero, r.length, List.take_length]
    show Rep L ρ _ (.tup (cut l lo hi)) _
    rw [e]
    exact rep_tup q r
  case lst l =>
    simp only [slop, Option.some.injEq] at e
    subst e
    obtain ⟨a, vs, ex, q, r⟩ := ro_lst hx
    exact sl_list pins s σ H x v vl vu lo hi sl Q I rx hsl p1 p2 ⟨a, vs, ex, SqL.of q, fun p hp => k _ _ _ (Post.newLst b hp (cut_reps r lo hi))⟩
  case str z =>
    simp only [slop] at e
    split at e
    · rename_i hz
      cases e
      exact sl_str pins s σ H x v vl vu lo hi sl Q I rx hsl p1 p2 ⟨z, ro_str hx, by rw [← SZ_eq]; exact hz, k _ _ _ (Post.str b _)⟩
    · cases e
  case scr ns =>
    simp only [slop, Option.some.injEq] at e
    subst e
    obtain ⟨a, ex, q⟩ := ro_scr hx
    refine sl_list pins s σ H x v vl vu lo hi sl Q I rx hsl p1 p2 ⟨a, _, ex, hK ▸ q, fun p hp => k _ _ _ (Post.newLst b hp ?_)⟩
    rw [cut_ints]
    exact ints_reps _
/-- a slice's bound -/
def tP (L : Lk) (P : Pg) (call : CallF) (W : WX) (m : M) : TO := fun σ H Q => ∃ Z env T ρ, ER L Z σ H env T ρ ∧ RX L Z ρ H (fun c d H' => W c d σ H') (optI env m (ev P call m env) T) fun o T' => ∀ H' ρ', Fr H ρ H' ρ' → Bs L Z ρ' T' H' → Q o H'
theorem po_nilP : PO X none (tP L P call W .nil) := ⟨fun pins s σ H Q I h => po_none.run pins s σ H Q I (by
  obtain ⟨Z, env, T, ρ, er, h⟩ := h
  exact h H ρ (Fr.refl _ _) er.bs)⟩
theorem po_someP {e : Expr} {m : M} (hm : m ≠ .nil) (he : PE X e (tO L P call W m)) : PO X (some e) (tP L P call W m) := ⟨fun pins s σ H Q I h => (po_some he).run pins s σ H Q I (by
  obtain ⟨Z, env, T, ρ, er, h⟩ := h
  have e : optI env m (ev P call m env) = (do let d ← opd env m (ev P call m env); match d with
    | .int i => if smallI i then return some i else stuck
    | _ => stuck) := by cases m <;> first | rfl | exact absurd rfl hm
  rw [e] at h
  refine ⟨Z, env, T, ρ, er, h.bind.imp fun d T1 h1 v H1 ρ1 p1 => ?_⟩
  cases d <;> first
    | exact h1.elim
    | skip
  case int i =>
    refine ⟨i, ro_int p1.ro, ?_⟩
    have h1 : RX L Z ρ H (fun c d H' => W c d σ H') ((if smallI i then (Pure.pure (some i) : Mo (Option Int)) else stuck) T1) fun o T' => ∀ H' ρ', Fr H ρ H' ρ' → Bs L Z ρ' T' H' → Q o H' := h1
    by_cases q : smallI i = true
    · rw [if_pos q] at h1
      exact (RX.pure h1) H1 ρ1 p1.fr p1.bs
    · rw [if_neg q] at h1
      exact h1.elim)⟩
theorem pe_slcV {a : Expr} {lo hi : Option Expr} {ma ml mh : M} {pos p2 : Pos} (hK : X.K = L.K) (ha : PE X a (tO L P call W ma)) (hl : PO X lo (tP L P call W ml)) (hh : PO X hi (tP L P call W mh)) : PE X (.Subscript a (.Slice lo hi none p2) pos) (tV L P call W (.slc ma ml mh)) :=
  impE (pe_slice (sl_D (L := L) hK) ha hl hh) fun σ H Q ⟨Z, env, T, ρ, er, h⟩ => by
    simp only [ev] at h
    refine ⟨Z, env, T, ρ, er, h.bind.imp fun dx T1 h1 x H1 ρ1 p1 => ?_⟩
    refine ⟨Z, env, T1, ρ1, er.step p1.fr p1.bs, (h1.move p1.fr).bind.imp fun l T2 h2 H2 ρ2 f2 b2 => ?_⟩
    refine ⟨Z, env, T2, ρ2, er.step (p1.fr.trans f2) b2, (h2.move f2).bind.imp fun u T3 h3 H3 ρ3 f3 b3 => ?_⟩
    obtain ⟨r, e, h4⟩ := h3.ofO
    have f := (p1.fr.trans f2).trans f3
    exact ⟨Z, ρ3, T3, dx, r, b3, (f2.trans f3).ro p1.bs p1.ro, e, fun v H' ρ' p => h4 v H' ρ' (Post.after f p)⟩

end
/-! ### t[::-1] of a tuple, in the model -/
section
variable {prog : Program} {w : World} {A : Around} {E : Value → Shared → Prop} {s : Shared}
open HT in
theorem revApplied {sl : Addr} {vl vu : Value} {tk : Tok} {n : Nat} {Q : Int × Int × Nat → Shared → Prop} (hs : s.heap.IsSliceOf sl vl vu (.int (-1) tk)) (pl : IsPart vl none) (pu : IsPart vu none)
    (h : Q ((n : Int) - 1, -1, n) s) : wpAny (model prog w) A (Builtin.Slice.sliceApplied (.ref sl) (pure (n : Int))) Q E s := by
  obtain ⟨os, hos, hcs, hds⟩ := id hs
  unfold Builtin.Slice.sliceApplied Builtin.Slice.sliceFields
  refine wpAny_bind (wpAny_bind (wpAny_field hos hds (x := vl) rfl (wpAny_bind (wpAny_field hos hds (x := vu) rfl (wpAny_bind (wpAny_field hos hds (x := .int (-1) tk) rfl (wpAny_pure ?_)))))))
  refine wpAny_bind (slicePart_int ?_)
  show wpAny _ _ (if ((-1 : Int) == 0) = true then _ else _) _ _ s
  rw [if_neg (by decide)]
  refine wpAny_bind (slicePart_ pl (wpAny_bind (slicePart_ pu (wpAny_bind (wpAny_pure ?_)))))
  show wpAny _ _ (pure ((n : Int) - 1, (-1 : Int), Builtin.Slice.slicePlaces ((n : Int) - 1) (-1) (-1))) _ _ s
  have e : Builtin.Slice.slicePlaces ((n : Int) - 1) (-1) (-1) = n := by
    unfold Builtin.Slice.slicePlaces
    rw [if_neg (by decide)]
    by_cases hn : n = 0
    · subst hn; rfl
    · rw [if_pos (by omega)]
      show (((n : Int) - 1 - -1 - 1) / (- -1) + 1).toNat = n
      have : (((n : Int) - 1 - -1 - 1) / (- -1) + 1) = n := by
        rw [Int.neg_neg, Int.ediv_one]; omega
      rw [this]; rfl
  rw [e]
  exact wpAny_pure h
theorem fm_congr {α β : Type} {f g : α → Option β} : ∀ {l : List α}, (∀ a ∈ l, f a = g a) → l.filterMap f = l.filterMap g
  | [], _ => rfl
  | a :: l, h => by
    rw [List.filterMap_cons, List.filterMap_cons, h a List.mem_cons_self, fm_congr fun b hb => h b (List.mem_cons_of_mem _ hb)]
theorem pick_rev (xs : Array Value) : ((List.range xs.size).filterMap fun (m : Nat) => xs[(((xs.size : Int) - 1) + (m : Int) * (-1)).toNat]?).toArray = xs.toList.reverse.toArray := by
  congr 1
  have e : ∀ m ∈ List.range xs.size, xs[(((xs.size : Int) - 1) + (m : Int) * (-1)).toNat]? = xs.toList.reverse[m]? := fun m hm => by
    have hm := List.mem_range.mp hm
    rw [List.getElem?_reverse (by simpa using hm), Array.getElem?_toList, Array.length_toList]
    congr 1
    omega
  rw [fm_congr e]
  have : ∀ l : List Value, (List.range l.length).filterMap (fun m => l[m]?) = l := by
    intro l
    induction l with
    | nil => rfl
    | cons a l ih =>
      rw [List.length_cons, List.range_succ_eq_map, List.filterMap_cons, List.filterMap_map]
      show a :: _ = _
      congr 1
  have := this xs.toList.reverse
  rw [List.length_reverse, Array.length_toList] at this
  exact this
theorem getItem_tuple_rev {t sl : Addr} {items : Array Value} {vl vu : Value} {tk : Tok} {Q : Value → Shared → Prop} (ht : IsTup s.heap t items) (hs : s.heap.IsSliceOf sl vl vu (.int (-1) tk)) (pl : IsPart vl none) (pu : IsPart vu none)
    (h : Q (.ref s.heap.objs.size) { s with heap := s.heap.push { cls := .type "tuple", data := .seq items.toList.reverse.toArray } })
    (hsz : items.size ≤ sizeLine) : wpAny (model prog w) A (getItem (.ref t) (.ref sl)) Q E s := by
  have htake : sizeOk (.seq items.toList.reverse.toArray) := by
    show items.toList.reverse.toArray.size ≤ sizeLine
    rw [List.size_toArray, List.length_reverse, Array.length_toList]
    exact hsz
  obtain ⟨os, hos, hcs, hds⟩ := id hs
  have hTs : s.TypeIs (.ref sl) "slice" := ⟨os, hos, hcs⟩
  unfold getItem
  try with_reducible refine wpAny_holding ?_
  first | refine wpAny_bind (wpAny_pure ?_) | skip
  refine wpAny_bind (wpAny_sequenceKey ht.typeIs (by decide) ?_)
  refine wpAny_bind (wpAny_callSpecial?_slot (name := Str.ofString "__getitem__") ht.typeIs PyProof.Rows.slot_tuple_getitem
    (wpAny_call_entry PyProof.Rows.slot_tuple_getitem ht.typeIs entry_tuple_getitem ?_ (args_tuple_getitem _ _)))
  show wpAny _ _ (Builtin.Tuple.tupleItemsOf (.ref t) >>= _) _ _ s
  refine wpAny_bind (tupleItemsOf_ ht ?_)
  refine wpAny_bind (wpAny_typeOf hTs ?_)
  rw [if_pos (by decide)]
  refine wpAny_bind (revApplied hs pl pu ?_)
  show wpAny _ _ (if (((items.size : Int) - 1) == 0 && (-1 : Int) == 1 && items.size == items.size) = true then _ else _) _ _ s
  rw [if_neg (by simp), pick_rev]
  first
    | exact wpAny_bind (m := Builtin.Tuple.tupleExact _) (wpAny_newObj_type (wpAny_pure ⟨_, rfl, wpAny_pure h⟩) htake)
    | exact wpAny_bind (m := Builtin.Tuple.tupleExact _) (wpAny_newObj_type (wpAny_bind (wpAny_pure (wpAny_pure ⟨_, rfl, wpAny_pure h⟩))) htake)
    | exact wpAny_bind (wpAny_bind (m := Builtin.Tuple.tupleExact _) (wpAny_newObj_type (wpAny_pure (wpAny_pure ⟨_, rfl, wpAny_pure h⟩)) htake))
    | exact wpAny_bind (wpAny_bind (m := Builtin.Tuple.tupleExact _) (wpAny_newObj_type (wpAny_pure ⟨_, rfl, wpAny_pure h⟩) htake))
end
section
variable {L : Lk} {X : Cx} {Z : Addr → Prop} {ρ : List Addr} {H : Hp} {T : List Nd} {v : V} {P : Pg} {call : CallF} {W : WX}
/-! ### [::-1] -/
/-- e[::-1], a list or a tuple -/
def tRev (K : PySem.W.Frag) (te : TE) : TE := fun σ H Q => te σ H fun x H1 => ∃ a xs, x = .ref a ∧ ((SqL K H1 a xs ∧ ∀ p, H1 p = none → Q (.ref p) (upd H1 p (.lst xs.reverse))) ∨ (SqT K H1 a xs ∧ ∀ p, H1 p = none → Q (.ref p) (upd H1 p (.tup xs.reverse))))
theorem pe_rev2 {e : Expr} {te : TE} {k : Nat} {p1 p2 p3 pos : Pos} (he : PE X e te) : PE X (.Subscript e (.Slice none none (some (.UnaryOp .USub (.Constant (.int 1) k p1) p2)) p3) pos) (tRev X.K te) := by
  refine ⟨fun pins s σ H Q I h => ?_⟩
  refine Subscript_ (thn (he.run pins s σ H _ I h) fun v s1 ⟨x, H1, I1, r1, q1⟩ => ?_)
  obtain ⟨a, xs, ex, q⟩ := q1
  subst ex
  cases r1
  have hst : PO X (some (.UnaryOp .USub (.Constant (.int 1) k p1) p2)) (tPart (tUn (rU fun i => .int (-i)) (tC (.int 1)))) := po_some (pe_un un_neg pe_int)
  refine wpAny_Slice (thn (po_none.run pins s1 σ H1 (fun o H2 => o = none ∧ H2 = H1) I1 ⟨rfl, rfl⟩) fun vl s2 ⟨l, H2, I2, pl, el, e2⟩ => ?_)
  subst el e2
  refine thn (po_none.run pins s2 σ H2 (fun o H3 => o = none ∧ H3 = H2) I2 ⟨rfl, rfl⟩) fun vu s3 ⟨u, H3, I3, pu, eu, e3⟩ => ?_
  subst eu e3
  refine thn (hst.run pins s3 σ H3 (fun o H4 => o = some (-1) ∧ H4 = H3) I3 ⟨1, rfl, -1, rfl, rfl, rfl⟩) fun vs s4 ⟨o, H4, I4, ps, eo, e4⟩ => ?_
  subst eo e4
  have I5 : Inv X pins σ H4 { s4 with heap := s4.heap.push { cls := .type "slice", data := .fields #[vl, vu, vs] } } := I4.kept (t' := s4.toks) fun b ob q => Heap.get?_push_of_some _ q
  show wpAny (model X.prog X.w) X.A (subscriptTail e (.Slice none none (some (.UnaryOp .USub (.Constant (.int 1) k p1) p2)) p3) (.ref a) (.ref s4.heap.objs.size)) (EP X pins σ Q) X.xe { s4 with heap := s4.heap.push { cls := .type "slice", data := .fields #[vl, vu, vs] } }
  rcases q with ⟨hx, q⟩ | ⟨hx, q⟩
  · obtain ⟨its, r, ht, hz⟩ := I5.list hx
    have hlen := r.length
    refine tail_any (ops := [.ref a, .ref s4.heap.objs.size]) ht.isList.typeIs (PySem.slot_list_getitem.lookup) ?_ (by with_unfolding_all rfl)
    refine wpAny_getItem_list_slice ht.isList (Heap.IsSliceOf.new _ vl vu vs) pl pu ps (by decide) ?_ (by rw [List.size_toArray]; omega)
    rw [PySem.W.krv_pick]
    refine ⟨.ref _, _, I5.laid (t' := s4.toks) (o := .lst xs.reverse) (fun b ob q => Heap.get?_push_of_some _ q) (Nat.le_refl _) ?_, rfl, q _ (I5.hok.fresh (Nat.le_refl _))⟩
    exact ⟨by rw [List.length_reverse]; exact hz, _, 0, r.reverse, Heap.get?_push_size _ rfl⟩
  · obtain ⟨its, r, ht, hz⟩ := I5.tuple hx
    have hlen := r.length
    have hs := Heap.IsSliceOf.new s4.heap vl vu vs
    cases ps with
    | int _ tk =>
      refine tail_any (ops := [.ref a, .ref s4.heap.objs.size]) ht.typeIs (PyProof.Rows.slot_tuple_getitem.lookup) ?_ (by with_unfolding_all rfl)
      refine getItem_tuple_rev ht hs pl pu ?_ (by rw [List.size_toArray]; omega)
      refine ⟨.ref _, _, I5.laid (t' := s4.toks) (o := .tup xs.reverse) (fun b ob q => Heap.get?_push_of_some _ q) (Nat.le_refl _) ?_, rfl, q _ (I5.hok.fresh (Nat.le_refl _))⟩
      exact ⟨by rw [List.length_reverse]; exact hz, _, r.reverse, IsTup.new _ _⟩
theorem pe_revV {a : Expr} {ma : M} {k : Nat} {p1 p2 p3 pos : Pos} (hK : X.K = L.K) (ha : PE X a (tO L P call W ma)) : PE X (.Subscript a (.Slice none none (some (.UnaryOp .USub (.Constant (.int 1) k p1) p2)) p3) pos) (tV L P call W (.rev ma)) :=
  impE (pe_rev2 ha) fun σ H Q ⟨Z, env, T, ρ, er, h⟩ => by
    simp only [ev] at h
    refine ⟨Z, env, T, ρ, er, h.bind.imp fun dx T1 h1 x H1 ρ1 p1 => ?_⟩
    obtain ⟨r, e, h2⟩ := h1.ofO
    cases dx <;> first
      | (simp only [revop] at e; cases e; done)
      | skip
    case tup l =>
      cases e
      obtain ⟨a, vs, ex, q, r⟩ := ro_tup p1.ro
      exact ⟨a, vs, ex, .inr ⟨hK ▸ (Hd.sub _ _ _).sqT q, fun p hp => h2 _ _ _ (Post.after p1.fr (Post.newTup p1.bs hp r.reverse))⟩⟩
    case lst l =>
      cases e
      obtain ⟨a, vs, ex, q, r⟩ := ro_lst p1.ro
      exact ⟨a, vs, ex, .inl ⟨SqL.of q, fun p hp => h2 _ _ _ (Post.after p1.fr (Post.newLst p1.bs hp r.reverse))⟩⟩
end
end Sr
end

section
set_option autoImplicit false
set_option linter.all false
set_option Elab.async false
/-! Sr6: built-ins. -/
namespace Sr
open PySem PySem.Spec PyProof.Rows L2 SeqAt

section
variable {L : Lk} {X : Cx} {Z : Addr → Prop} {ρ : List Addr} {H : Hp} {T : List Nd} {v : V} {P : Pg} {call : CallF} {W : WX}
/-- a built-in by the data -/
def BiD (L : Lk) (X : Cx) (f : Value) (b : BI) : Prop := CallR X f fun xs H Q => ∃ Z ρ T ds r, Bs L Z ρ T H ∧ Paired (RQ L Z ρ H) ds xs ∧ bip b ds = some r ∧ ∀ v H' ρ', Post L Z ρ H v r.1 r.2 H' T ρ' → Q v H'
theorem pq_one {d : D} {xs : List V} (h : Paired (RQ L Z ρ H) [d] xs) : ∃ x, xs = [x] ∧ RQ L Z ρ H d x := by
  cases h with | cons a t => cases t; exact ⟨_, rfl, a⟩
theorem pq_two {d e : D} {xs : List V} (h : Paired (RQ L Z ρ H) [d, e] xs) : ∃ x y, xs = [x, y] ∧ RQ L Z ρ H d x ∧ RQ L Z ρ H e y := by
  cases h with | cons a t => cases t with | cons b t => cases t; exact ⟨_, _, rfl, a, b⟩
theorem pq_nil {xs : List V} (h : Paired (RQ L Z ρ H) [] xs) : xs = [] := by cases h; rfl
theorem bi_len (hK : X.K = L.K) (hd : ∀ (pins : List (Addr × Obj)) (s : Shared) (σ : L2.St) (H : Hp) (x : V) (u : Value) (Q : VK) (Z : Addr → Prop) (ρ : List Addr) (T : List Nd) (ks vs : List D), Inv X pins σ H s → RelV x u →
    Bs L Z ρ T H → RQ L Z ρ H (.dic ks vs) x → Q (.int ks.length) H → wpAny (model X.prog X.w) X.A (PySem.call (.builtin "len") [u]) (EP X pins σ Q) X.xe s) : BiD L X (.builtin "len") .len := by
  rintro pins s σ H xs us Q I rx ⟨Z, ρ, T, ds, r, b, hx, e, k⟩
  match ds, hx, e with
  | [], hx, e => simp [bip] at e
  | [d], hx, e =>
    replace hx := pq_one hx
    obtain ⟨x, rfl, hx⟩ := hx
    cases d <;> first
      | (simp [bip] at e; done)
      | skip
    case str z =>
      simp only [bip] at e
      split at e
      · rename_i hz
        cases e
        exact call_len_str pins s σ H _ us Q I rx ⟨z, by rw [rq_str hx], by rw [← SZ_eq]; exact hz, k _ _ _ (Post.int b _)⟩
      · cases e
    case tup l =>
      simp only [bip, Option.some.injEq] at e
      subst e
      obtain ⟨a, vs, ex, q, r⟩ := rq_tup hx
      exact call_len_seq pins s σ H _ us Q I rx ⟨a, vs, by rw [ex], .inr (hK ▸ (Hd.sub _ _ _).sqT q), by rw [r.length]; exact k _ _ _ (Post.int b _)⟩
    case lst l =>
      simp only [bip, Option.some.injEq] at e
      subst e
      obtain ⟨a, vs, ex, q, r⟩ := rq_lst hx
      exact call_len_seq pins s σ H _ us Q I rx ⟨a, vs, by rw [ex], .inl (SqL.of q), by rw [r.length]; exact k _ _ _ (Post.int b _)⟩
    case dic ks vs =>
      simp only [bip, Option.some.injEq] at e
      subst e
      cases rx with | cons r1 rt => cases rt; exact hd pins s σ H x _ Q Z ρ T ks vs I r1 b hx (k _ _ _ (Post.int b _))
  | d :: d' :: ds, hx, e => cases d <;> simp [bip] at e
theorem allB_map : ∀ {l : List D} {bs : List Bool}, allB l = some bs → l = bs.map .bl
  | [], bs, h => by simp [allB] at h; subst h; rfl
  | d :: l, bs, h => by
    cases d <;> simp [allB] at h
    obtain ⟨cs, h1, rfl⟩ := h
    rw [allB_map h1]; rfl
theorem allI_map : ∀ {l : List D} {bs : List Int}, allI l = some bs → l = bs.map .int
  | [], bs, h => by simp [allI] at h; subst h; rfl
  | d :: l, bs, h => by
    cases d <;> simp [allI] at h
    obtain ⟨cs, h1, rfl⟩ := h
    rw [allI_map h1]; rfl
theorem reps_bls {Hc : Hp} : ∀ {bs : List Bool} {vs : List V}, Reps L ρ Hc (bs.map .bl) vs → vs = bs.map .bl
  | [], vs, h => h.unnil
  | b :: bs, vs, h => by
    obtain ⟨x, xs, rfl, r1, r2⟩ := h.uncons
    rw [bl_rep r1, reps_bls r2]; rfl
theorem reps_ints {Hc : Hp} : ∀ {bs : List Int} {vs : List V}, Reps L ρ Hc (bs.map .int) vs → vs = bs.map .int
  | [], vs, h => h.unnil
  | b :: bs, vs, h => by
    obtain ⟨x, xs, rfl, r1, r2⟩ := h.uncons
    have e : x = .int b := by simpa [Rep] using r1
    rw [e, reps_ints r2]; rfl
theorem bi_all (hc : X.calm = true) : BiD L X (.builtin "all") .all := by
  rintro pins s σ H xs us Q I rx ⟨Z, ρ, T, ds, r, b, hx, e, k⟩
  match ds, hx, e with
  | [], hx, e => simp [bip] at e
  | [d], hx, e =>
    replace hx := pq_one hx
    obtain ⟨x, rfl, hx⟩ := hx
    cases d <;> first
      | (simp [bip] at e; done)
      | skip
    case lst l =>
      simp only [bip] at e
      obtain ⟨bs, e1, rfl⟩ := Option.map_eq_some_iff.mp e
      obtain ⟨a, vs, ex, q, r⟩ := rq_lst hx
      rw [allB_map e1] at r
      rw [reps_bls r] at q
      exact cr_all hc pins s σ H _ us Q I rx ⟨a, bs, by rw [ex], SqL.of q, k _ _ _ (Post.bl b _)⟩
  | d :: d' :: ds, hx, e => cases d <;> simp [bip] at e
theorem bi_any (hc : X.calm = true) : BiD L X (.builtin "any") .any := by
  rintro pins s σ H xs us Q I rx ⟨Z, ρ, T, ds, r, b, hx, e, k⟩
  match ds, hx, e with
  | [], hx, e => simp [bip] at e
  | [d], hx, e =>
    replace hx := pq_one hx
    obtain ⟨x, rfl, hx⟩ := hx
    cases d <;> first
      | (simp [bip] at e; done)
      | skip
    case lst l =>
      simp only [bip] at e
      obtain ⟨bs, e1, rfl⟩ := Option.map_eq_some_iff.mp e
      obtain ⟨a, vs, ex, q, r⟩ := rq_lst hx
      rw [allB_map e1] at r
      rw [reps_bls r] at q
      exact cr_any hc pins s σ H _ us Q I rx ⟨a, bs, by rw [ex], SqL.of q, k _ _ _ (Post.bl b _)⟩
  | d :: d' :: ds, hx, e => cases d <;> simp [bip] at e
theorem bi_sum (hc : X.calm = true) : BiD L X (.builtin "sum") .sum := by
  rintro pins s σ H xs us Q I rx ⟨Z, ρ, T, ds, r, b, hx, e, k⟩
  match ds, hx, e with
  | [], hx, e => simp [bip] at e
  | [d], hx, e =>
    replace hx := pq_one hx
    obtain ⟨x, rfl, hx⟩ := hx
    cases d <;> first
      | (simp [bip] at e; done)
      | skip
    case lst l =>
      simp only [bip] at e
      obtain ⟨bs, e1, rfl⟩ := Option.map_eq_some_iff.mp e
      obtain ⟨a, vs, ex, q, r⟩ := rq_lst hx
      rw [allI_map e1] at r
      rw [reps_ints r] at q
      exact cr_sum hc pins s σ H _ us Q I rx ⟨a, bs, by rw [ex], SqL.of q, k _ _ _ (Post.int b _)⟩
  | d :: d' :: ds, hx, e => cases d <;> simp [bip] at e
theorem bi_abs : BiD L X (.builtin "abs") .abs := by
  rintro pins s σ H xs us Q I rx ⟨Z, ρ, T, ds, r, b, hx, e, k⟩
  match ds, hx, e with
  | [], hx, e => simp [bip] at e
  | [d], hx, e =>
    replace hx := pq_one hx
    obtain ⟨x, rfl, hx⟩ := hx
    cases d <;> first
      | (simp [bip] at e; done)
      | skip
    case int i =>
      simp only [bip, Option.some.injEq] at e
      subst e
      exact call_abs pins s σ H _ us Q I rx ⟨i, by rw [rq_int hx], k _ _ _ (Post.int b _)⟩
  | d :: d' :: ds, hx, e => cases d <;> simp [bip] at e
theorem bi_int : BiD L X (.type "int") .int := by
  rintro pins s σ H xs us Q I rx ⟨Z, ρ, T, ds, r, b, hx, e, k⟩
  match ds, hx, e with
  | [], hx, e => simp [bip] at e
  | [d], hx, e =>
    replace hx := pq_one hx
    obtain ⟨x, rfl, hx⟩ := hx
    cases d <;> first
      | (simp [bip] at e; done)
      | skip
    case int i =>
      simp only [bip, Option.some.injEq] at e
      subst e
      exact call_int1 pins s σ H _ us Q I rx (.inl ⟨i, by rw [rq_int hx], k _ _ _ (Post.int b _)⟩)
  | d :: d' :: ds, hx, e => cases d <;> simp [bip] at e
theorem bi_str : BiD L X (.type "str") .str := by
  rintro pins s σ H xs us Q I rx ⟨Z, ρ, T, ds, r, b, hx, e, k⟩
  match ds, hx, e with
  | [], hx, e => simp [bip] at e
  | [d], hx, e =>
    replace hx := pq_one hx
    obtain ⟨x, rfl, hx⟩ := hx
    cases d <;> first
      | (simp [bip] at e; done)
      | skip
    case int i =>
      simp only [bip] at e
      split at e
      · rename_i hi
        cases e
        refine call_str_int pins s σ H _ us Q I rx ⟨i, by rw [rq_int hx], ?_, k _ _ _ (Post.str b _)⟩
        by_cases h0 : i.natAbs = 0
        · rw [h0]; decide
        · have := (Nat.log2_lt h0).mpr hi
          omega
      · cases e
  | d :: d' :: ds, hx, e => cases d <;> simp [bip] at e
theorem bi_tuple (hK : X.K = L.K) : BiD L X (.type "tuple") .tuple := by
  rintro pins s σ H xs us Q I rx ⟨Z, ρ, T, ds, r, b, hx, e, k⟩
  match ds, hx, e with
  | [], hx, e => simp [bip] at e
  | [d], hx, e =>
    replace hx := pq_one hx
    obtain ⟨x, rfl, hx⟩ := hx
    cases d <;> first
      | (simp [bip, seqOf] at e; done)
      | skip
    case tup l =>
      simp only [bip, seqOf, Option.map_some, Option.some.injEq] at e
      subst e
      obtain ⟨a, vs, ex, q, r⟩ := rq_tup hx
      exact call_tuple_of pins s σ H _ us Q I rx ⟨a, vs, by rw [ex], .inr ⟨hK ▸ (Hd.sub _ _ _).sqT q, k _ _ _ (Post.of b (rep_tup q r))⟩⟩
    case lst l =>
      simp only [bip, seqOf, Option.map_some, Option.some.injEq] at e
      subst e
      obtain ⟨a, vs, ex, q, r⟩ := rq_lst hx
      exact call_tuple_of pins s σ H _ us Q I rx ⟨a, vs, by rw [ex], .inl ⟨SqL.of q, fun p hp => k _ _ _ (Post.newTup b hp r)⟩⟩
  | d :: d' :: ds, hx, e => cases d <;> simp [bip, seqOf] at e
theorem bi_list (hK : X.K = L.K) (hd : ∀ (pins : List (Addr × Obj)) (s : Shared) (σ : L2.St) (H : Hp) (x : V) (u : Value) (Q : VK) (Z : Addr → Prop) (ρ : List Addr) (T : List Nd) (ks vs : List D), Inv X pins σ H s → RelV x u →
    Bs L Z ρ T H → RQ L Z ρ H (.dic ks vs) x → (∀ v H' ρ', Post L Z ρ H v (.lst ks) true H' T ρ' → Q v H') → wpAny (model X.prog X.w) X.A (PySem.call (.type "list") [u]) (EP X pins σ Q) X.xe s) : BiD L X (.type "list") .list := by
  rintro pins s σ H xs us Q I rx ⟨Z, ρ, T, ds, r, b, hx, e, k⟩
  match ds, hx, e with
  | [], hx, e => simp [bip] at e
  | [d], hx, e =>
    replace hx := pq_one hx
    obtain ⟨x, rfl, hx⟩ := hx
    cases d <;> first
      | (simp [bip, keysOf] at e; done)
      | skip
    case tup l =>
      simp only [bip, keysOf, Option.map_some, Option.some.injEq] at e
      subst e
      obtain ⟨a, vs, ex, q, r⟩ := rq_tup hx
      exact call_list_of pins s σ H _ us Q I rx ⟨a, vs, by rw [ex], .inr (hK ▸ (Hd.sub _ _ _).sqT q), fun p hp => k _ _ _ (Post.newLst b hp r)⟩
    case lst l =>
      simp only [bip, keysOf, Option.map_some, Option.some.injEq] at e
      subst e
      obtain ⟨a, vs, ex, q, r⟩ := rq_lst hx
      exact call_list_of pins s σ H _ us Q I rx ⟨a, vs, by rw [ex], .inl (SqL.of q), fun p hp => k _ _ _ (Post.newLst b hp r)⟩
    case dic ks vs =>
      simp only [bip, keysOf, Option.map_some, Option.some.injEq] at e
      subst e
      cases rx with | cons r1 rt => cases rt; exact hd pins s σ H x _ Q Z ρ T ks vs I r1 b hx k
  | d :: d' :: ds, hx, e => cases d <;> simp [bip, keysOf] at e
theorem depthAll_ints : ∀ ns : List Int, PyData.depthAll (ns.map PyData.int) = 0
  | [] => by simp [PyData.depthAll]
  | n :: ns => by simp [PyData.depthAll, PyData.depth, depthAll_ints ns]
theorem alike_ints' : ∀ ns : List Int, PySem.W.AlikeAll (ns.map PyData.int) := by
  intro ns
  refine ⟨fun d hd d' hd' => ?_, fun d hd => ?_⟩
  · obtain ⟨a, _, rfl⟩ := List.mem_map.mp hd
    obtain ⟨b, _, rfl⟩ := List.mem_map.mp hd'
    rfl
  · obtain ⟨a, _, rfl⟩ := List.mem_map.mp hd
    exact fun z => nomatch z
theorem reads_ints {h : Heap} : ∀ {ns : List Int} {us : List Value}, Vals (ns.map V.int) us → ∃ as, ReadsAll h us (ns.map PyData.int) as
  | [], _, r => by cases r; exact ⟨_, .nil⟩
  | n :: ns, _, r => by
    cases r with
    | cons a t =>
      obtain ⟨tk, rfl⟩ := a
      obtain ⟨as, q⟩ := reads_ints t
      exact ⟨_, .cons (.int n tk) q⟩
theorem reads_int_inv {h : Heap} {v : Value} {n : Int} {as : List Addr} (r : Reads h v (.int n) as) : ∃ t, v = .int n t := by cases r; exact ⟨_, rfl⟩
theorem foldl_max_eq (a : Int) (r : List Int) : maxI (a :: r) = r.foldl max a := rfl
/-- max, min of a row of ints -/
theorem bi_max (hK : X.K = L.K) (hc : X.calm = true) (hu : X.A.units + 64 < cLine) : BiD L X (.builtin "max") .max := by
  rintro pins s σ H xs us Q I rx ⟨Z, ρ, T, ds, r, b, hx, e, k⟩
  have go : ∀ (d : D) (l : List D) (a : Addr) (vs : List V) (is : List Int), Reps L ρ (Hd Z ρ H) l vs → allI l = some is → is.isEmpty = false → (∀ v H' ρ', Post L Z ρ H v (.int (maxI is)) false H' T ρ' → Q v H') → Vals [V.ref a] us →
      (SqL X.K H a vs ∨ SqT X.K H a vs) → wpAny (model X.prog X.w) X.A (PySem.call (.builtin "max") us) (EP X pins σ Q) X.xe s := by
    intro d l a vs is r e1 ne k rx sq
    rw [Vals.ref1 rx]
    rw [allI_map e1] at r
    have ev := reps_ints r
    subst ev
    match is, ne with
    | n :: ns, _ =>
      rcases sq with sq | sq
      · obtain ⟨its, rv, t, _⟩ := I.list sq
        obtain ⟨as, q⟩ := reads_ints (h := s.heap) rv
        refine PySem.W.max_list_data (xs := ns.map .int) (x := .int n) (I.ok.hd hc) t.isList q (alike_ints' (n :: ns)) (by have := depthAll_ints (n :: ns); simp only [List.map_cons] at this; omega) fun i v h' tk bs hv rd kp => ?_
        rw [PySem.W.maxD_ints] at rd
        obtain ⟨tt, rfl⟩ := reads_int_inv rd
        exact ⟨.int _, H, I.kept kp, ⟨tt, rfl⟩, k _ _ _ (Post.int b _)⟩
      · obtain ⟨its, rv, t, _⟩ := I.tuple sq
        obtain ⟨as, q⟩ := reads_ints (h := s.heap) rv
        refine PySem.W.max_tuple_data (xs := ns.map .int) (x := .int n) (I.ok.hd hc) (show s.heap.IsTuple a its.toArray from t) q (alike_ints' (n :: ns)) (by have := depthAll_ints (n :: ns); simp only [List.map_cons] at this; omega) fun i v h' tk bs hv rd kp => ?_
        rw [PySem.W.maxD_ints] at rd
        obtain ⟨tt, rfl⟩ := reads_int_inv rd
        exact ⟨.int _, H, I.kept kp, ⟨tt, rfl⟩, k _ _ _ (Post.int b _)⟩
  have one : ∀ (d : D) (x : V), RQ L Z ρ H d x → Vals [x] us → ((seqOf d).bind fun l => (allI l).bind fun is => if is.isEmpty then none else some (D.int (maxI is), false)) = some r → wpAny (model X.prog X.w) X.A (PySem.call (.builtin "max") us) (EP X pins σ Q) X.xe s := by
    intro d x hx rx e
    obtain ⟨l, e0, e⟩ := Option.bind_eq_some_iff.mp e
    obtain ⟨is, e1, e⟩ := Option.bind_eq_some_iff.mp e
    split at e
    · cases e
    · rename_i ne
      cases e
      cases d <;> simp only [seqOf] at e0 <;> cases e0
      · obtain ⟨a, vs, ex, q, r⟩ := rq_tup hx
        subst ex
        exact go .non l a vs is r e1 (by simpa using ne) k rx (.inr (hK ▸ (Hd.sub _ _ _).sqT q))
      · obtain ⟨a, vs, ex, q, r⟩ := rq_lst hx
        subst ex
        exact go .non l a vs is r e1 (by simpa using ne) k rx (.inl (SqL.of q))
  match ds, hx, e with
  | [], hx, e => simp [bip] at e
  | [d], hx, e =>
    obtain ⟨x, rfl, hx1⟩ := pq_one hx
    exact one d x hx1 rx (by cases d <;> simpa [bip] using e)
  | [d, d'], hx, e =>
    replace hx := pq_two hx
    obtain ⟨x, y, rfl, hx, hy⟩ := hx
    cases d <;> cases d' <;> first
      | (simp [bip] at e; done)
      | skip
    case int.int i j =>
      simp only [bip, Option.some.injEq] at e
      subst e
      exact call_max2 hc pins s σ H _ us Q I rx ⟨i, j, by rw [rq_int hx, rq_int hy], k _ _ _ (Post.int b _)⟩
  | d :: d' :: d2 :: ds, hx, e => simp [bip] at e
/-- max, min of a row of ints -/
theorem bi_min (hK : X.K = L.K) (hc : X.calm = true) (hu : X.A.units + 64 < cLine) : BiD L X (.builtin "min") .min := by
  rintro pins s σ H xs us Q I rx ⟨Z, ρ, T, ds, r, b, hx, e, k⟩
  have go : ∀ (d : D) (l : List D) (a : Addr) (vs : List V) (is : List Int), Reps L ρ (Hd Z ρ H) l vs → allI l = some is → is.isEmpty = false → (∀ v H' ρ', Post L Z ρ H v (.int (minI is)) false H' T ρ' → Q v H') → Vals [V.ref a] us →
      (SqL X.K H a vs ∨ SqT X.K H a vs) → wpAny (model X.prog X.w) X.A (PySem.call (.builtin "min") us) (EP X pins σ Q) X.xe s := by
    intro d l a vs is r e1 ne k rx sq
    rw [Vals.ref1 rx]
    rw [allI_map e1] at r
    have ev := reps_ints r
    subst ev
    match is, ne with
    | n :: ns, _ =>
      rcases sq with sq | sq
      · obtain ⟨its, rv, t, _⟩ := I.list sq
        obtain ⟨as, q⟩ := reads_ints (h := s.heap) rv
        refine PySem.W.min_list_data (xs := ns.map .int) (x := .int n) (I.ok.hd hc) t.isList q (alike_ints' (n :: ns)) (by have := depthAll_ints (n :: ns); simp only [List.map_cons] at this; omega) fun i v h' tk bs hv rd kp => ?_
        rw [PySem.W.minD_ints] at rd
        obtain ⟨tt, rfl⟩ := reads_int_inv rd
        exact ⟨.int _, H, I.kept kp, ⟨tt, rfl⟩, k _ _ _ (Post.int b _)⟩
      · obtain ⟨its, rv, t, _⟩ := I.tuple sq
        obtain ⟨as, q⟩ := reads_ints (h := s.heap) rv
        refine PySem.W.min_tuple_data (xs := ns.map .int) (x := .int n) (I.ok.hd hc) (show s.heap.IsTuple a its.toArray from t) q (alike_ints' (n :: ns)) (by have := depthAll_ints (n :: ns); simp only [List.map_cons] at this; omega) fun i v h' tk bs hv rd kp => ?_
        rw [PySem.W.minD_ints] at rd
        obtain ⟨tt, rfl⟩ := reads_int_inv rd
        exact ⟨.int _, H, I.kept kp, ⟨tt, rfl⟩, k _ _ _ (Post.int b _)⟩
  have one : ∀ (d : D) (x : V), RQ L Z ρ H d x → Vals [x] us → ((seqOf d).bind fun l => (allI l).bind fun is => if is.isEmpty then none else some (D.int (minI is), false)) = some r → wpAny (model X.prog X.w) X.A (PySem.call (.builtin "min") us) (EP X pins σ Q) X.xe s := by
    intro d x hx rx e
    obtain ⟨l, e0, e⟩ := Option.bind_eq_some_iff.mp e
    obtain ⟨is, e1, e⟩ := Option.bind_eq_some_iff.mp e
    split at e
    · cases e
    · rename_i ne
      cases e
      cases d <;> simp only [seqOf] at e0 <;> cases e0
      · obtain ⟨a, vs, ex, q, r⟩ := rq_tup hx
        subst ex
        exact go .non l a vs is r e1 (by simpa using ne) k rx (.inr (hK ▸ (Hd.sub _ _ _).sqT q))
      · obtain ⟨a, vs, ex, q, r⟩ := rq_lst hx
        subst ex
        exact go .non l a vs is r e1 (by simpa using ne) k rx (.inl (SqL.of q))
  match ds, hx, e with
  | [], hx, e => simp [bip] at e
  | [d], hx, e =>
    obtain ⟨x, rfl, hx1⟩ := pq_one hx
    exact one d x hx1 rx (by cases d <;> simpa [bip] using e)
  | [d, d'], hx, e =>
    replace hx := pq_two hx
    obtain ⟨x, y, rfl, hx, hy⟩ := hx
    cases d <;> cases d' <;> first
      | (simp [bip] at e; done)
      | skip
    case int.int i j =>
      simp only [bip, Option.some.injEq] at e
      subst e
      exact call_min2 hc pins s σ H _ us Q I rx ⟨i, j, by rw [rq_int hx, rq_int hy], k _ _ _ (Post.int b _)⟩
  | d :: d' :: d2 :: ds, hx, e => simp [bip] at e

/-! ### isinstance -/
def tyS : Ty → String
  | .non => "NoneType" | .bool => "bool" | .int => "int" | .str => "str" | .tuple => "tuple" | .list => "list" | .dict => "dict"
theorem kit_one {K : PySem.W.Frag} (t c : Ty) (hc : c ≠ .non) : PySem.W.kitOne K (.type (tyS t)) (.type (tyS c)) = some (subTy t c) := by
  cases t <;> cases c <;> first
    | exact absurd rfl hc
    | exact kit_ty (by decide +kernel)
theorem kit_any {K : PySem.W.Frag} (t : Ty) : ∀ (cs : List Ty), (∀ c ∈ cs, c ≠ .non) → PySem.W.kitAny K (.type (tyS t)) (cs.map fun c => .type (tyS c)) = some (isTs t cs)
  | [], _ => rfl
  | c :: cs, h => by
    refine kitAny_cons (kit_one t c (h c List.mem_cons_self)) (fun e => ?_) (fun e => ?_)
    · rw [kit_any t cs fun c hc => h c (List.mem_cons_of_mem _ hc)]
      simp [isTs, e]
    · simp [isTs, e]
theorem rq_non (h : RQ L Z ρ H .non v) : v = .non := by
  rcases h with h | ⟨_, _, n⟩
  · simpa [Rep] using h
  · exact n.elim
theorem kit_D (hK : X.K = L.K) {pins : List (Addr × Obj)} {σ : L2.St} {s : Shared} (I : Inv X pins σ H s) {d : D} {x : V} {u : Value} {t : Ty} (rx : RelV x u) (r : RQ L Z ρ H d x) (e : tyD d = some t) :
    ∃ P : Heap → Prop, PySem.W.KitX X.K u (.type (tyS t)) P ∧ P s.heap ∧ u ≠ .builtin "__main__.__loader__#opaque" := by
  cases d <;> simp [tyD] at e <;> subst e
  case non => rw [rq_non r] at rx; cases (show u = Value.none from rx); exact ⟨_, PySem.W.kitx_none, True.intro, fun z => nomatch z⟩
  case bl b => rw [rq_bl r] at rx; cases (show u = Value.bool b from rx); exact ⟨_, PySem.W.kitx_bool, True.intro, fun z => nomatch z⟩
  case int b => rw [rq_int r] at rx; obtain ⟨t, q⟩ := (show ∃ t, u = Value.int b t from rx); cases q; exact ⟨_, PySem.W.kitx_int, True.intro, fun z => nomatch z⟩
  case str b => rw [rq_str r] at rx; obtain ⟨t, q⟩ := (show ∃ t, u = Value.str b t from rx); cases q; exact ⟨_, PySem.W.kitx_str, True.intro, fun z => nomatch z⟩
  case tup l =>
    obtain ⟨a, vs, ex, q, _⟩ := rq_tup r
    subst ex
    cases (show u = Value.ref a from rx)
    obtain ⟨its, rv, ⟨o, h1, h2, _⟩, _⟩ := I.tuple (hK ▸ (Hd.sub _ _ _).sqT q)
    exact ⟨_, PySem.W.kitx_tuple, ⟨o, h1, h2⟩, fun z => nomatch z⟩
  case lst l =>
    obtain ⟨a, vs, ex, q, _⟩ := rq_lst r
    subst ex
    cases (show u = Value.ref a from rx)
    obtain ⟨its, rv, t, _⟩ := I.list (SqL.of q)
    exact ⟨_, PySem.W.kitx_list, (by obtain ⟨o, h1, h2, _⟩ := t.isList; exact ⟨o, h1, h2⟩), fun z => nomatch z⟩
  case scr l =>
    obtain ⟨a, ex, q⟩ := rq_scr r
    subst ex
    cases (show u = Value.ref a from rx)
    obtain ⟨its, rv, t, _⟩ := I.list (hK ▸ q)
    exact ⟨_, PySem.W.kitx_list, (by obtain ⟨o, h1, h2, _⟩ := t.isList; exact ⟨o, h1, h2⟩), fun z => nomatch z⟩
  case dic ks vs =>
    obtain ⟨a, kv, vv, ex, q, _⟩ := rq_dic r
    subst ex
    cases (show u = Value.ref a from rx)
    obtain ⟨o, es, ep, h1, h2, _⟩ := q.ob
    obtain ⟨⟨h3, _⟩, _⟩ := (show ObjOk X.prog X.w H s.heap a (DicO a o) from I.hok a _ h1)
    exact ⟨_, PySem.W.kitx_dict, ⟨o, h3, h2.1⟩, fun z => nomatch z⟩

/-! ### calls of built-ins -/
theorem paired_rq {ds ds' : List D} {xs : List V} (b : Bs L Z ρ T H) (h : Paired (RO L Z ρ H) ds xs) : ∀ {T'}, derefs ds T = .ok ds' T' → T' = T ∧ Paired (RQ L Z ρ H) ds' xs := by
  intro T' e
  induction h generalizing ds' T' with
  | nil => simp only [derefs] at e; cases e; exact ⟨rfl, .nil⟩
  | @cons d x ds xs r t ih =>
    simp only [derefs] at e
    obtain ⟨d1, T1, e1, e⟩ := bind_ok e
    obtain ⟨d2, T2, e2, e⟩ := bind_ok e
    cases e
    have h1 : derefT T d = some d1 ∧ T1 = T := by
      unfold Sr.deref at e1
      cases q : derefT T d with
      | none => rw [q] at e1; cases e1
      | some d' => rw [q] at e1; cases e1; exact ⟨rfl, rfl⟩
    obtain ⟨h2, rfl⟩ := h1
    obtain ⟨rfl, p⟩ := ih e2
    exact ⟨rfl, .cons (r.deref b h2) p⟩
theorem derefs_no {ds : List D} {c : Nat} {fs : List D} {T T' : List Nd} : derefs ds T ≠ .ex c fs T' := by
  induction ds generalizing T T' c fs with
  | nil => simp only [derefs]; exact fun z => nomatch z
  | cons d ds ih =>
    simp only [derefs]
    intro e
    have e' : ((Sr.deref d T).bind _) = .ex c fs T' := e
    unfold Sr.deref at e'
    cases q : derefT T d with
    | none => rw [q] at e'; cases e'
    | some d1 =>
      rw [q] at e'
      have e' : ((derefs ds T).bind _) = .ex c fs T' := e'
      cases q2 : derefs ds T with
      | ok a T1 => rw [q2] at e'; cases e'
      | ex c fs T1 => exact ih q2
      | no => rw [q2] at e'; cases e'
theorem RX.derefs {Wx : XW} {ds : List D} {k : List D → List Nd → Prop} (h : RX L Z ρ H Wx (Sr.derefs ds T) k) : ∃ ds' T', Sr.derefs ds T = .ok ds' T' ∧ k ds' T' := by
  cases e : Sr.derefs ds T with
  | ok a T' => rw [e] at h; exact ⟨a, T', rfl, h⟩
  | ex c fs T' => exact (derefs_no e).elim
  | no => rw [e] at h; exact h.elim
theorem bi_read {b : BI} {ms : List M} {σ : L2.St} {H : Hp} {Q : VK} (h : tV L P call W (.bi b ms) σ H Q) : tCB (fun xs H Q => ∃ Z ρ T ds r, Bs L Z ρ T H ∧ Paired (RQ L Z ρ H) ds xs ∧ bip b ds = some r ∧ ∀ v H' ρ', Post L Z ρ H v r.1 r.2 H' T ρ' → Q v H') (tOs L P call W ms) σ H Q := by
  obtain ⟨Z, env, T, ρ, er, h⟩ := h
  simp only [ev] at h
  refine ⟨Z, env, T, ρ, er, h.bind.imp fun ds T1 h1 vs H1 ρ1 f1 b1 r1 => ?_⟩
  obtain ⟨ds', T', e, h2⟩ := h1.bind.derefs
  obtain ⟨rfl, p⟩ := paired_rq b1 r1 e
  obtain ⟨r, e2, h3⟩ := h2.ofO
  exact ⟨Z, ρ1, T', ds', r, b1, p, e2, fun v H' ρ' q => h3 v H' ρ' (Post.after f1 q)⟩
theorem pe_biB {b : BI} {id : String} {x : Str} {p pos : Pos} {e : Expr} {es : List Expr} {ms : List M} (hb : BiD L X (.builtin id) b) (hg : Gl X x) (hm : X.mg x = none) (hv : bootBuiltins x = some (.builtin id)) (ha : PA X (e :: es) (tOs L P call W ms)) (hn : x ≠ "__name__") (hdb : (x == ("__debug__" : Str)) = false)
    (he : starEach (e :: es) X.env = (false, eval e X.env) :: starEach es X.env) (hpl : (backTo pos (starEach es X.env)).any (·.1) = false) : PE X (.Call (.Name x p) (e :: es) [] pos) (tV L P call W (.bi b ms)) :=
  impE (pe_callB hb hg hm hv ha hn hdb he hpl) fun σ H Q h => bi_read h
theorem pe_biT {b : BI} {id : String} {x : Str} {p pos : Pos} {e : Expr} {es : List Expr} {ms : List M} (hb : BiD L X (.type id) b) (hg : Gl X x) (hm : X.mg x = none) (hv : bootBuiltins x = some (.type id)) (ha : PA X (e :: es) (tOs L P call W ms)) (hn : x ≠ "__name__") (hdb : (x == ("__debug__" : Str)) = false)
    (he : starEach (e :: es) X.env = (false, eval e X.env) :: starEach es X.env) (hpl : (backTo pos (starEach es X.env)).any (·.1) = false) : PE X (.Call (.Name x p) (e :: es) [] pos) (tV L P call W (.bi b ms)) :=
  impE (pe_callTy hb hg hm hv ha hn hdb he hpl) fun σ H Q h => bi_read h
/-- isinstance(x, T) -/
theorem pe_isi1 {c : Ty} {m : M} {a : Expr} {x : Str} {p p2 pos : Pos} (hK : X.K = L.K) (hc : c ≠ .non) (hg : Gl X "isinstance") (hm : X.mg "isinstance" = none) (hx : Gl X x) (hmx : X.mg x = none) (hv : bootBuiltins x = some (.type (tyS c))) (ha : PE X a (tO L P call W m)) (hn : x ≠ "__name__") (hdb : (x == ("__debug__" : Str)) = false)
    (he : starEach [a, .Name x p2] X.env = (false, eval a X.env) :: starEach [.Name x p2] X.env) : PE X (.Call (.Name "isinstance" p) [a, .Name x p2] [] pos) (tV L P call W (.bi (.isinst [c]) [m])) := by
  refine impE (pe_callB (r := fun xs H Q => ∃ (x c' : V) (u : Value), xs = [x, c'] ∧ ClsV c' u ∧ (∃ (Z : Addr → Prop) (ρ : List Addr) (d : D) (t : Ty), RQ L Z ρ H d x ∧ tyD d = some t ∧ PySem.W.kitOne X.K (.type (tyS t)) u = some (isTs t [c]) ∧ Q (.bl (isTs t [c])) H)) (id := "isinstance") ?_ hg hm (by decide +kernel) (pa_cons ha (pa_cons (pe_bltn (v := .ty (tyS c)) hx hmx hv rfl hn hdb) pa_nil) he) (by decide) (by decide) he (by rfl)) fun σ H Q h => ?_
  · intro pins s σ H xs us Q I r h
    obtain ⟨x, c', u, rfl, k, Z, ρ, d, t, ro, e1, e2, q⟩ := h
    obtain ⟨u1, u2, rfl, r1, r2⟩ := vals2 r
    have e3 := k.eq r2
    subst e3
    obtain ⟨Pk, Zk, pk, hxk⟩ := kit_D hK I r1 ro e1
    exact PySem.W.kia_one Zk I.kIn pk e2 hxk fun tk => ⟨.bl _, H, I.tok tk, rfl, q⟩
  · obtain ⟨Z, env, T, ρ, er, h⟩ := h
    simp only [ev] at h
    have h := h.bind
    simp only [evo] at h
    refine ⟨Z, env, T, ρ, er, h.bind.imp fun d T1 h1 v H1 ρ1 p1 => ?_⟩
    have h2 := RX.pure h1.bind
    obtain ⟨ds', T', e, h3⟩ := h2.bind.derefs
    simp only [Sr.derefs] at e
    obtain ⟨d1, T2, e1, e⟩ := bind_ok e
    obtain ⟨d2, T3, e2, e⟩ := bind_ok e
    cases e2
    cases e
    obtain ⟨r, e5, h4⟩ := h3.ofO
    simp only [bip] at e5
    obtain ⟨t, e6, rfl⟩ := Option.map_eq_some_iff.mp e5
    have hh : derefT T1 d = some d1 ∧ T' = T1 := by
      unfold Sr.deref at e1
      cases q : derefT T1 d with
      | none => rw [q] at e1; cases e1
      | some d' => rw [q] at e1; cases e1; exact ⟨rfl, rfl⟩
    obtain ⟨hh, rfl⟩ := hh
    have h4 : ∀ v H' ρ', Post L Z ρ H v (.bl (isTs t [c])) false H' T' ρ' → Q v H' := h4
    refine ⟨v, .ty (tyS c), .type (tyS c), rfl, .ty _, Z, ρ1, d1, t, p1.ro.deref p1.bs hh, e6, ?_, h4 _ _ _ (Post.after p1.fr (Post.bl p1.bs _))⟩
    rw [kit_one t c hc]
    simp [isTs]
/-- isinstance(x, (T1, T2)) -/
theorem pe_isi2 {c c2 : Ty} {m : M} {a : Expr} {x y : Str} {p p2 p3 p4 pos : Pos} {k : Nat} (hK : X.K = L.K) (hc : c ≠ .non) (hc2 : c2 ≠ .non) (hg : Gl X "isinstance") (hm : X.mg "isinstance" = none) (hx : Gl X x) (hmx : X.mg x = none) (hv : bootBuiltins x = some (.type (tyS c))) (hy : Gl X y) (hmy : X.mg y = none) (hvy : bootBuiltins y = some (.type (tyS c2)))
    (ha : PE X a (tO L P call W m)) (hn : x ≠ "__name__") (hdb : (x == ("__debug__" : Str)) = false) (hny : y ≠ "__name__") (hdby : (y == ("__debug__" : Str)) = false)
    (he : starEach [a, .Tuple [.Name x p2, .Name y p4] k p3] X.env = (false, eval a X.env) :: starEach [.Tuple [.Name x p2, .Name y p4] k p3] X.env) : PE X (.Call (.Name "isinstance" p) [a, .Tuple [.Name x p2, .Name y p4] k p3] [] pos) (tV L P call W (.bi (.isinst [c, c2]) [m])) := by
  refine impE (pe_callB (r := fun xs H Q => ∃ (x : V) (tp : Addr) (cs : List V) (us : List Value), xs = [x, .ref tp] ∧ H tp = some (.tup cs) ∧ Paired ClsV cs us ∧ (∃ (Z : Addr → Prop) (ρ : List Addr) (d : D) (t : Ty), RQ L Z ρ H d x ∧ tyD d = some t ∧ PySem.W.kitAny X.K (.type (tyS t)) us = some (isTs t [c, c2]) ∧ Q (.bl (isTs t [c, c2])) H)) (id := "isinstance") ?_ hg hm (by decide +kernel)
    (pa_cons ha (pa_cons (pe_tup (pa_cons (pe_bltn (v := .ty (tyS c)) hx hmx hv rfl hn hdb) (pa_cons (pe_bltn (v := .ty (tyS c2)) hy hmy hvy rfl hny hdby) pa_nil))) pa_nil) he) (by decide) (by decide) he (by rfl)) fun σ H Q h => ?_
  · intro pins s σ H xs us Q I r h
    obtain ⟨x, tp, cs, ws, rfl, hT, k, Z, ρ, d, t, ro, e1, e2, q⟩ := h
    obtain ⟨u1, u2, rfl, r1, r2⟩ := vals2 r
    cases (show u2 = Value.ref tp from r2)
    obtain ⟨Pk, Zk, pk, hxk⟩ := kit_D hK I r1 ro e1
    obtain ⟨_, its, rv, o, h1, h2, n, h3⟩ := (show ObjOk X.prog X.w H s.heap tp (.tup cs) from I.hok tp _ hT)
    have e3 := ClsV.all k rv
    subst e3
    obtain ⟨oc, od, dt, sl⟩ := o
    simp only at h2 h3
    subst h2 h3
    exact PySem.W.kia_tup Zk I.kIn pk h1 e2 hxk fun tk => ⟨.bl _, H, I.tok tk, rfl, q⟩
  · obtain ⟨Z, env, T, ρ, er, h⟩ := h
    simp only [ev] at h
    have h := h.bind
    simp only [evo] at h
    refine ⟨Z, env, T, ρ, er, h.bind.imp fun d T1 h1 v H1 ρ1 p1 => ?_⟩
    have h2 := RX.pure h1.bind
    obtain ⟨ds', T', e, h3⟩ := h2.bind.derefs
    simp only [Sr.derefs] at e
    obtain ⟨d1, T2, e1, e⟩ := bind_ok e
    obtain ⟨d2, T3, e2, e⟩ := bind_ok e
    cases e2
    cases e
    obtain ⟨r, e5, h4⟩ := h3.ofO
    simp only [bip] at e5
    obtain ⟨t, e6, rfl⟩ := Option.map_eq_some_iff.mp e5
    have hh : derefT T1 d = some d1 ∧ T' = T1 := by
      unfold Sr.deref at e1
      cases q : derefT T1 d with
      | none => rw [q] at e1; cases e1
      | some d' => rw [q] at e1; cases e1; exact ⟨rfl, rfl⟩
    obtain ⟨hh, rfl⟩ := hh
    have h4 : ∀ v H' ρ', Post L Z ρ H v (.bl (isTs t [c, c2])) false H' T' ρ' → Q v H' := h4
    refine ⟨by show 2 ≤ sizeLine; decide, fun p hp => ?_⟩
    have rq : RQ L Z ρ1 H1 d1 v := p1.ro.deref p1.bs hh
    have f2 : Fr H1 ρ1 (upd H1 p (.tup [.ty (tyS c), .ty (tyS c2)])) ρ1 := Fr.laid hp
    have rq2 : RQ L Z ρ1 (upd H1 p (.tup [.ty (tyS c), .ty (tyS c2)])) d1 v := by
      rcases rq with rq | ⟨a, ea, n⟩
      · exact .inl (rq.mono (f2.hd Z))
      · obtain ⟨o, eo, _⟩ := n.some
        exact .inr ⟨a, ea, n.sub (List.prefix_refl _) (by rw [upd_ne (ne_of_none eo hp)]) (f2.hd Z)⟩
    refine ⟨v, p, _, [.type (tyS c), .type (tyS c2)], rfl, upd_same, .cons (.ty _) (.cons (.ty _) .nil), Z, ρ1, d1, t, rq2, e6, ?_, h4 _ _ _ (Post.after (p1.fr.trans f2) (Post.bl (p1.bs.laid hp) _))⟩
    exact kit_any t [c, c2] fun z hz => by
      rcases List.mem_cons.mp hz with rfl | hz
      · exact hc
      · rcases List.mem_cons.mp hz with rfl | hz
        · exact hc2
        · cases hz
end
end Sr
end

section
set_option autoImplicit false
set_option linter.all false
set_option Elab.async false
/-! Sr7: what is walked; comprehensions. -/
namespace Sr
open PySem PySem.Spec PyProof.Rows L2 SeqAt

/-- a walked item comes: as it is, or as a new tuple -/
def Yld (L : Lk) (ρ : List Addr) (Hc : Hp) (d : D) (H : Hp) (x : V) (H' : Hp) : Prop :=
  (H' = H ∧ Rep L ρ Hc d x) ∨ ∃ p ds vs, d = .tup ds ∧ x = .ref p ∧ H p = none ∧ H' = upd H p (.tup vs) ∧ Reps L ρ Hc ds vs
/-- a dict's object stays -/
def Stay (H0 H : Hp) (d : D) (v : V) : Prop := ∀ ks ws a o es ep, d = .dic ks ws → v = .ref a → H0 a = some (DicO a o) → o.data = .dict es ep → H a = some (DicO a o)
/-- J walks xs, as long as the operands ds stand at vs -/
def Wk (L : Lk) (Hs : Hp) (ds : List D) (vs : List V) (J : It) (xs : List D) : Prop :=
  ∀ (Z : Addr → Prop) (ρ : List Addr) (H : Hp), Paired (RO L Z ρ H) ds vs → Paired (Stay Hs H) ds vs → ∀ i, (xs.length ≤ i → J.stop i H) ∧ ∀ d, xs[i]? = some d → J.go i H ∧ ∀ x H', J.yld i H x H' → Yld L ρ (Hd Z ρ H) d H x H'
/-- an operand: shared data, or the object of a slot that is named -/
def ROs (L : Lk) (Z : Addr → Prop) (ρ : List Addr) (H : Hp) (σ : L2.St) (env : Env) (ms : List M) (d : D) (v : V) : Prop := Rep L ρ (Hd Z ρ H) d v ∨
  ∃ (i : Nat) (m : Md) (a : Addr), M.var i ∈ ms ∧ env[i]? = some (some (m, d)) ∧ m ≠ .sh ∧ σ[i]? = some (some (.ref a)) ∧ v = .ref a ∧ Z a ∧ NodeAt L ρ H (Hd Z ρ H) a d
/-- a source's reading -/
def tI (L : Lk) (P : Pg) (call : CallF) (W : WX) (it : List M) (k : Nat) : TI := fun σ H R => ∃ Z env T ρ, ER L Z σ H env T ρ ∧ RX L Z ρ H (fun c d H' => W c d σ H') (evo P call it env T) fun ds T' => ∃ xs, items k ds = some xs ∧
  ∀ vs J H' ρ', Fr H ρ H' ρ' → Bs L Z ρ' T' H' → Paired (ROs L Z ρ' H' σ env it) ds vs → Wk L H' ds vs J xs → R J H'
theorem impI {X : Cx} {tg e : Expr} {t t' : TI} (h : PI X tg e t) (i : ∀ σ H R, t' σ H R → t σ H R) : PI X tg e t' := ⟨fun pins s σ H R I q => h.run pins s σ H R I (i σ H R q)⟩

section
variable {L : Lk} {P : Pg} {call : CallF} {W : WX} {X : Cx} {tg : Expr}
/-- an operand whose object is changed -/
def tX (L : Lk) (P : Pg) (call : CallF) (W : WX) (m : M) : TE := fun σ H Q => ∃ Z env T ρ, ER L Z σ H env T ρ ∧ RX L Z ρ H (fun c d H' => W c d σ H') (opd env m (ev P call m env) T) fun d T' => ∀ v H' ρ', PostO L Z ρ H v d H' T' ρ' → (∀ i, m = .var i → σ[i]? = some (some v)) → Q v H'
theorem PE.obj {m : M} {e : Expr} (hm : ∀ i, m ≠ .var i) (h : PE X e (tV L P call W m)) : PE X e (tX L P call W m) := impE (PE.opd hm h) fun σ H Q ⟨Z, env, T, ρ, er, h⟩ => ⟨Z, env, T, ρ, er, h.imp fun d T' k v H' ρ' p => k v H' ρ' p fun i e => absurd e (hm i)⟩
theorem pe_varX {i : Nat} {x : Str} {pos : Pos} (hN : X.N[i]? = some x) (hv : Vis X.env.scope x) (hd : (x == ("__debug__" : Str)) = false) (hcd : (x == ("__classdict__" : Str)) = false) : PE X (.Name x pos) (tX L P call W (.var i)) :=
  impE (pe_var hN hv hd hcd) fun σ H Q ⟨Z, env, T, ρ, er, h⟩ => by
    rw [opd_var] at h
    unfold Env.lookAny at h
    cases e : env[i]? with
    | none => rw [e] at h; exact h.elim
    | some o =>
      cases o with
      | none => rw [e] at h; exact h.elim
      | some md =>
        obtain ⟨m, d⟩ := md
        rw [e] at h
        obtain ⟨v, hv, h2, h3⟩ := er.sl i m d e
        have h : ∀ v H' ρ', PostO L Z ρ H v d H' T ρ' → (∀ j, M.var i = .var j → σ[j]? = some (some v)) → Q v H' := h
        refine ⟨v, hv, h v H ρ ⟨Fr.refl _ _, er.bs, ?_⟩ fun j e => by cases e; exact hv⟩
        by_cases q : m = .sh
        · exact .inl (h2 q)
        · exact .inr (h3 q)
theorem ROs.ro {Z : Addr → Prop} {ρ : List Addr} {H : Hp} {σ : L2.St} {env : Env} {ms : List M} {d : D} {v : V} : ROs L Z ρ H σ env ms d v → RO L Z ρ H d v
  | .inl h => .inl h
  | .inr ⟨_, _, a, _, _, _, _, e, z, n⟩ => .inr ⟨a, e, z, n⟩
theorem ROs.step {Z : Addr → Prop} {ρ ρ1 : List Addr} {H H1 : Hp} {T : List Nd} {σ : L2.St} {env : Env} {ms ms' : List M} {d : D} {v : V} (f : Fr H ρ H1 ρ1) (b : Bs L Z ρ T H) (s : ∀ m ∈ ms, m ∈ ms') : ROs L Z ρ H σ env ms d v → ROs L Z ρ1 H1 σ env ms' d v
  | .inl h => .inl (Rep.sub f.pre (f.hd Z) d v h)
  | .inr ⟨i, m, a, h1, h2, h3, h4, e, z, n⟩ => .inr ⟨i, m, a, s _ h1, h2, h3, h4, e, z, f.node b z n⟩
theorem ros_ro {Z : Addr → Prop} {ρ : List Addr} {H : Hp} {σ : L2.St} {env : Env} {ms : List M} : ∀ {ds : List D} {vs : List V}, Paired (ROs L Z ρ H σ env ms) ds vs → Paired (RO L Z ρ H) ds vs
  | _, _, .nil => .nil
  | _, _, .cons a t => .cons a.ro (ros_ro t)
theorem ros_step {Z : Addr → Prop} {ρ ρ1 : List Addr} {H H1 : Hp} {T : List Nd} {σ : L2.St} {env : Env} {ms ms' : List M} (f : Fr H ρ H1 ρ1) (b : Bs L Z ρ T H) (s : ∀ m ∈ ms, m ∈ ms') : ∀ {ds : List D} {vs : List V}, Paired (ROs L Z ρ H σ env ms) ds vs → Paired (ROs L Z ρ1 H1 σ env ms') ds vs
  | _, _, .nil => .nil
  | _, _, .cons a t => .cons (a.step f b s) (ros_step f b s t)
/-- an operand that is walked -/
def tY (L : Lk) (P : Pg) (call : CallF) (W : WX) (m : M) : TE := fun σ H Q => ∃ Z env T ρ, ER L Z σ H env T ρ ∧ RX L Z ρ H (fun c d H' => W c d σ H') (opd env m (ev P call m env) T) fun d T' => ∀ v H' ρ', Fr H ρ H' ρ' → Bs L Z ρ' T' H' → ROs L Z ρ' H' σ env [m] d v → Q v H'
theorem PE.walk {m : M} {e : Expr} (hm : ∀ i, m ≠ .var i) (h : PE X e (tV L P call W m)) : PE X e (tY L P call W m) := impE h fun σ H Q ⟨Z, env, T, ρ, er, h⟩ => ⟨Z, env, T, ρ, er, (opd_RX hm h).imp fun r T' k v H' ρ' p => k v H' ρ' p.fr p.bs (.inl p.rep)⟩
theorem pe_varY {i : Nat} {x : Str} {pos : Pos} (hN : X.N[i]? = some x) (hv : Vis X.env.scope x) (hd : (x == ("__debug__" : Str)) = false) (hcd : (x == ("__classdict__" : Str)) = false) : PE X (.Name x pos) (tY L P call W (.var i)) :=
  impE (pe_var hN hv hd hcd) fun σ H Q ⟨Z, env, T, ρ, er, h⟩ => by
    rw [opd_var] at h
    unfold Env.lookAny at h
    cases e : env[i]? with
    | none => rw [e] at h; exact h.elim
    | some o =>
      cases o with
      | none => rw [e] at h; exact h.elim
      | some md =>
        obtain ⟨m, d⟩ := md
        rw [e] at h
        obtain ⟨v, hv, h2, h3⟩ := er.sl i m d e
        have h : ∀ v H' ρ', Fr H ρ H' ρ' → Bs L Z ρ' T H' → ROs L Z ρ' H' σ env [.var i] d v → Q v H' := h
        refine ⟨v, hv, h v H ρ (Fr.refl _ _) er.bs ?_⟩
        by_cases q : m = .sh
        · exact .inl (h2 q)
        · obtain ⟨a, rfl, z, n⟩ := h3 q
          exact .inr ⟨i, m, a, by simp, e, q, hv, rfl, z, n⟩
/-- operands, with their slots -/
def tXs (L : Lk) (P : Pg) (call : CallF) (W : WX) (ms : List M) : TA := fun σ H Q => ∃ Z env T ρ, ER L Z σ H env T ρ ∧ RX L Z ρ H (fun c d H' => W c d σ H') (evo P call ms env T) fun ds T' => ∀ vs H' ρ', Fr H ρ H' ρ' → Bs L Z ρ' T' H' → Paired (ROs L Z ρ' H' σ env ms) ds vs → Q vs H'
theorem pa_nilX : PA X [] (tXs L P call W []) := impA pa_nil fun σ H Q ⟨Z, env, T, ρ, er, h⟩ => by
  simp only [evo] at h
  exact h [] H ρ (Fr.refl _ _) er.bs .nil
theorem pa_consX {e : Expr} {es : List Expr} {m : M} {ms : List M} (ha : PE X e (tY L P call W m)) (hr : PA X es (tXs L P call W ms)) (hs : starEach (e :: es) X.env = (false, eval e X.env) :: starEach es X.env) : PA X (e :: es) (tXs L P call W (m :: ms)) :=
  impA (pa_cons ha hr hs) fun σ H Q ⟨Z, env, T, ρ, er, h⟩ => by
    simp only [evo] at h
    refine ⟨Z, env, T, ρ, er, h.bind.imp fun d T1 h1 v H1 ρ1 f1 b1 r1 => ?_⟩
    refine ⟨Z, env, T1, ρ1, er.step f1 b1, (h1.move f1).bind.imp fun ds T2 h2 vs H2 ρ2 f2 b2 r2 => ?_⟩
    exact (RX.pure h2) (v :: vs) H2 ρ2 (f1.trans f2) b2 (.cons (r1.step f2 b1 fun x hx => by simp at hx; rw [hx]; exact List.mem_cons_self) (ros_step (Fr.refl _ _) b2 (fun x hx => List.mem_cons_of_mem _ hx) r2))
theorem po_one {Z : Addr → Prop} {ρ : List Addr} {H : Hp} {d : D} {vs : List V} (h : Paired (RO L Z ρ H) [d] vs) : ∃ x, vs = [x] ∧ RO L Z ρ H d x := by
  cases h with | cons a t => cases t; exact ⟨_, rfl, a⟩
theorem po_two {Z : Addr → Prop} {ρ : List Addr} {H : Hp} {d e : D} {vs : List V} (h : Paired (RO L Z ρ H) [d, e] vs) : ∃ x y, vs = [x, y] ∧ RO L Z ρ H d x ∧ RO L Z ρ H e y := by
  cases h with | cons a t => cases t with | cons b t => cases t; exact ⟨_, _, rfl, a, b⟩
theorem get_lt {α : Type} {l : List α} {i : Nat} {d : α} (h : l[i]? = some d) : i < l.length := (List.getElem?_eq_some_iff.mp h).1
theorem wk_lst {l : List D} {a : Addr} {Hs : Hp} : Wk L Hs [.lst l] [.ref a] (Itl L.K a) l := by
  intro Z ρ H h _ i
  obtain ⟨x, e, h⟩ := po_one h
  cases e
  obtain ⟨a', vs, ex, q, r⟩ := ro_lst h
  cases ex
  refine ⟨fun hi => ⟨vs, SqL.of q, by rw [r.length]; exact hi⟩, fun d hd => ?_⟩
  obtain ⟨v, hv, rv⟩ := r.get hd
  refine ⟨⟨vs, v, SqL.of q, hv⟩, fun x H' y => ?_⟩
  obtain ⟨y1, y2⟩ := y
  have := y2 vs (SqL.of q)
  rw [hv] at this; cases this
  exact .inl ⟨y1, rv⟩
theorem wk_tup {l : List D} {a : Addr} {Hs : Hp} : Wk L Hs [.tup l] [.ref a] (Itt L.K a) l := by
  intro Z ρ H h _ i
  obtain ⟨x, e, h⟩ := po_one h
  cases e
  obtain ⟨a', vs, ex, q0, r⟩ := ro_tup h
  cases ex
  have q := (Hd.sub _ _ _).sqT q0
  refine ⟨fun hi => ⟨vs, q, by rw [r.length]; exact hi⟩, fun d hd => ?_⟩
  obtain ⟨v, hv, rv⟩ := r.get hd
  refine ⟨⟨vs, v, q, hv⟩, fun x H' y => ?_⟩
  obtain ⟨y1, y2⟩ := y
  have := y2 vs q
  rw [hv] at this; cases this
  exact .inl ⟨y1, rv⟩
theorem wk_str {z : Str} {v : V} {Hs : Hp} : Wk L Hs [.str z] [v] (Its z) (charsD z) := by
  intro Z ρ H h _ i
  unfold charsD
  refine ⟨fun hi => (show z.cps.size ≤ i by simpa using hi), fun d hd => ?_⟩
  have hi := get_lt hd
  rw [List.length_map, Array.length_toList] at hi
  refine ⟨hi, fun x H' y => ?_⟩
  obtain ⟨y1, c, hc, rfl⟩ := y
  rw [List.getElem?_map, Array.getElem?_toList, hc] at hd
  cases hd
  exact .inl ⟨y1, by simp [Rep]⟩
theorem wk_rng {ds : List D} {vs : List V} {lo c : Int} {n : Nat} {Hs : Hp} : Wk L Hs ds vs (Itc lo c n) ((List.range n).map fun (i : Nat) => D.int (lo + (i : Int) * c)) := by
  intro Z ρ H h _ i
  refine ⟨fun hi => (show n ≤ i by simpa using hi), fun d hd => ?_⟩
  have hi := get_lt hd
  rw [List.length_map, List.length_range] at hi
  refine ⟨hi, fun x H' y => ?_⟩
  obtain ⟨y1, rfl⟩ := y
  rw [List.getElem?_map, List.getElem?_range hi] at hd
  cases hd
  exact .inl ⟨y1, by simp [Rep]⟩
theorem wk_rng1 {ds : List D} {vs : List V} {lo : Int} {n : Nat} {Hs : Hp} : Wk L Hs ds vs (Itr lo n) ((List.range n).map fun (i : Nat) => D.int (lo + (i : Int) * 1)) := by
  intro Z ρ H h _ i
  refine ⟨fun hi => (show n ≤ i by simpa using hi), fun d hd => ?_⟩
  have hi := get_lt hd
  rw [List.length_map, List.length_range] at hi
  refine ⟨hi, fun x H' y => ?_⟩
  obtain ⟨y1, rfl⟩ := y
  rw [List.getElem?_map, List.getElem?_range hi] at hd
  cases hd
  exact .inl ⟨y1, by simp [Rep]⟩
theorem tO_evo {m : M} {k : Nat} {σ : L2.St} {H : Hp} {R : It → Hp → Prop} (h : tI L P call W [m] k σ H R) : tY L P call W m σ H fun x H' => ∃ Z ρ T d xs, Bs L Z ρ T H' ∧ RO L Z ρ H' d x ∧ items k [d] = some xs ∧ ∀ J, Wk L H' [d] [x] J xs → R J H' := by
  obtain ⟨Z, env, T, ρ, er, h⟩ := h
  simp only [evo] at h
  refine ⟨Z, env, T, ρ, er, h.bind.imp fun d T1 h1 v H1 ρ1 f1 b1 r1 => ?_⟩
  obtain ⟨xs, e, h2⟩ := h1
  exact ⟨Z, ρ1, T1, d, xs, b1, r1.ro, e, fun J w => h2 [v] J H1 ρ1 f1 b1 (.cons r1 .nil) w⟩
/-- a list, a tuple, a text -/
def WalkDic (L : Lk) (X : Cx) : Prop := ∀ (tg : Expr) (pins : List (Addr × Obj)) (s : Shared) (σ : L2.St) (H : Hp) (x : V) (u : Value) (Z : Addr → Prop) (ρ : List Addr) (ks ws : List D) (R : It → Hp → Prop), Inv X pins σ H s → RelV x u → RO L Z ρ H (.dic ks ws) x →
  (∀ J, Wk L H [.dic ks ws] [x] J ks → R J H) → wpAny (model X.prog X.w) X.A (pyIter u) (PIE X pins σ tg R) X.xe s
theorem pi_plain (hK : X.K = L.K) (hdw : WalkDic L X) {e : Expr} {m : M} (he : PE X e (tY L P call W m)) : PI X tg e (tI L P call W [m] 0) := by
  refine ⟨fun pins s σ H R I h => thn (he.run pins s σ H _ I (tO_evo h)) fun u s1 ⟨x, H1, I1, rx, q⟩ => ?_⟩
  obtain ⟨Z, ρ, T, d, xs, b, r, ei, k⟩ := q
  have fr : FpOk X pins H1 s1.heap.objs.size := I1.fpOk (Nat.le_refl _) (I1.hok.fresh (Nat.le_refl _))
  cases d <;> first
    | (simp only [items] at ei; cases ei; done)
    | skip
  case str z =>
    simp only [items, Option.some.injEq] at ei; subst ei
    cases ro_str r
    obtain ⟨t, rfl⟩ := rx
    have kk := k _ wk_str
    cases ha : z.cps.all (· < 128)
    · exact wpAny_pyIter_wide ha (pi_one (tk := s1.toks) I1 _ (turn_str _ z t _ (.inr rfl)) ⟨_, Heap.get?_push_size _ rfl, rfl, rfl⟩ kk)
    · exact wpAny_pyIter_ascii ha (pi_one (tk := s1.toks) I1 _ (turn_str _ z t _ (.inl rfl)) ⟨_, Heap.get?_push_size _ rfl, rfl, rfl⟩ kk)
  case dic ks ws =>
    simp only [items, Option.some.injEq] at ei; subst ei
    exact hdw tg pins s1 σ H1 x u Z ρ ks ws R I1 rx r k
  case tup l =>
    simp only [items, Option.some.injEq] at ei; subst ei
    obtain ⟨a, vs, ex, q0, r'⟩ := ro_tup r
    subst ex
    cases rx
    have q := hK ▸ (Hd.sub _ _ _).sqT q0
    obtain ⟨its, _, pt, _⟩ := I1.tuple q
    exact wpAny_pyIter_tuple (show s1.heap.IsTuple a its.toArray from pt) (pi_one (tk := s1.toks) I1 _ (turn_tuple a _) ⟨_, Heap.get?_push_size _ rfl, rfl, rfl⟩ (hK ▸ k _ wk_tup))
  case lst l =>
    simp only [items, Option.some.injEq] at ei; subst ei
    obtain ⟨a, vs, ex, q0, r'⟩ := ro_lst r
    subst ex
    cases rx
    obtain ⟨its, _, pt, _⟩ := I1.list (SqL.of (K := X.K) q0)
    exact wpAny_pyIter_list pt.isList (pi_one (tk := s1.toks) I1 _ (turn_list a _) ⟨_, Heap.get?_push_size _ rfl, rfl, rfl⟩ (hK ▸ k _ wk_lst))
theorem rngL_one (a b : Int) : rngL a b 1 = (List.range (b - a).toNat).map fun (i : Nat) => D.int (a + (i : Int) * 1) := by
  unfold rngL rngLen
  rw [if_pos (by decide)]
  have : (b - a + 1 - 1).fdiv 1 = b - a := by rw [Int.fdiv_one]; omega
  rw [this]
theorem rngL_neg (a b : Int) : rngL a b (-1) = (List.range (a - b).toNat).map fun (i : Nat) => D.int (a + (i : Int) * (-1)) := by
  unfold rngL rngLen
  rw [if_neg (by decide), if_pos (by decide)]
  have : (a - b - -1 - 1).fdiv (- -1) = a - b := by rw [Int.neg_neg, Int.fdiv_one]; omega
  rw [this]
theorem small_lt {i : Int} (h : smallI i = true) : -(2 ^ 62) ≤ i ∧ i < 2 ^ 62 := by
  unfold smallI at h
  have := of_decide_eq_true h
  omega
theorem evo_len : ∀ {ms : List M} {env : Env} {T T' : List Nd} {ds : List D}, evo P call ms env T = .ok ds T' → ds.length = ms.length
  | [], env, T, T', ds, h => by simp only [evo] at h; cases h; rfl
  | m :: ms, env, T, T', ds, h => by
    simp only [evo] at h
    obtain ⟨a, T1, h1, h⟩ := bind_ok h
    obtain ⟨b, T2, h2, h⟩ := bind_ok h
    cases h
    simp [evo_len h2]
theorem RX.eqn {α : Type} {Z : Addr → Prop} {ρ : List Addr} {H : Hp} {Wx : XW} {r : R α} {k : α → List Nd → Prop} (h : RX L Z ρ H Wx r k) : RX L Z ρ H Wx r fun a T => r = .ok a T ∧ k a T := by
  cases r with
  | ok a T => exact ⟨rfl, h⟩
  | ex c fs T => exact h
  | no => exact h
theorem tOs_evo {ms : List M} {k : Nat} {σ : L2.St} {H : Hp} {R : It → Hp → Prop} (h : tI L P call W ms k σ H R) : tXs L P call W ms σ H fun vs H' => ∃ Z ρ T ds xs, Bs L Z ρ T H' ∧ Paired (RO L Z ρ H') ds vs ∧ ds.length = ms.length ∧ items k ds = some xs ∧ ∀ J, Wk L H' ds vs J xs → R J H' := by
  obtain ⟨Z, env, T, ρ, er, h⟩ := h
  refine ⟨Z, env, T, ρ, er, h.eqn.imp fun ds T1 h1 vs H1 ρ1 f1 b1 r1 => ?_⟩
  obtain ⟨eq, xs, e, h2⟩ := h1
  exact ⟨Z, ρ1, T1, ds, xs, b1, ros_ro r1, evo_len eq, e, fun J w => h2 vs J H1 ρ1 f1 b1 r1 w⟩
theorem tOs_mono {ms : List M} {σ : L2.St} {H : Hp} {Q Q' : List V → Hp → Prop} (h : tXs L P call W ms σ H Q) (i : ∀ vs H', Q vs H' → Q' vs H') : tXs L P call W ms σ H Q' := by
  obtain ⟨Z, env, T, ρ, er, h⟩ := h
  exact ⟨Z, env, T, ρ, er, h.imp fun ds T1 h1 vs H1 ρ1 f1 b1 r1 => i _ _ (h1 vs H1 ρ1 f1 b1 r1)⟩
theorem rng_inv {ds xs : List D} (e : rngop ds = some xs) : (∃ n, ds = [.int n] ∧ smallI n = true ∧ xs = rngL 0 n 1) ∨ (∃ a b, ds = [.int a, .int b] ∧ smallI a = true ∧ smallI b = true ∧ xs = rngL a b 1) ∨ (∃ a b, ds = [.int a, .int b, .int (-1)] ∧ smallI a = true ∧ smallI b = true ∧ xs = rngL a b (-1)) := by
  unfold rngop at e
  split at e
  · split at e
    · cases e; exact .inl ⟨_, rfl, by assumption, rfl⟩
    · cases e
  · split at e
    · rename_i h
      cases e
      simp only [Bool.and_eq_true] at h
      exact .inr (.inl ⟨_, _, rfl, h.1, h.2, rfl⟩)
    · cases e
  · split at e
    · rename_i h
      cases e
      simp only [Bool.and_eq_true, beq_iff_eq] at h
      exact .inr (.inr ⟨_, _, by rw [h.2], h.1.1, h.1.2, by rw [h.2]⟩)
    · cases e
  · cases e
theorem po_three {Z : Addr → Prop} {ρ : List Addr} {H : Hp} {d e f : D} {vs : List V} (h : Paired (RO L Z ρ H) [d, e, f] vs) : ∃ x y z, vs = [x, y, z] ∧ RO L Z ρ H d x ∧ RO L Z ρ H e y ∧ RO L Z ρ H f z := by
  cases h with | cons a t => cases t with | cons b t => cases t with | cons c t => cases t; exact ⟨_, _, _, rfl, a, b, c⟩
theorem pi_rngV1 {a : Expr} {m : M} {p pos : Pos} (hg : Gl X "range") (hm : X.mg "range" = none) (ha : PA X [a] (tXs L P call W [m])) (hs : starEach [a] X.env = [(false, eval a X.env)] := by rfl) : PI X tg (.Call (.Name "range" p) [a] [] pos) (tI L P call W [m] 1) :=
  impI (pi_range1 hg hm ha hs) fun σ H R h => by
    refine tOs_mono (tOs_evo h) fun vs H' ⟨Z, ρ, T, ds, xs, b, r, hl, e, k⟩ => ?_
    rcases rng_inv e with ⟨n, rfl, hn, rfl⟩ | ⟨_, _, rfl, _⟩ | ⟨_, _, rfl, _⟩
    · obtain ⟨x, rfl, r1⟩ := po_one r
      have hn := small_lt hn
      refine ⟨n, by rw [ro_int r1], hn.1, hn.2, k _ ?_⟩
      rw [rngL_one, Int.sub_zero]
      exact wk_rng1
    · cases hl
    · cases hl
theorem pi_rngV2 {a b : Expr} {ms : List M} {p pos : Pos} (hg : Gl X "range") (hm : X.mg "range" = none) (ha : PA X [a, b] (tXs L P call W ms)) (hl : ms.length = 2) (hs : starEach [a, b] X.env = [(false, eval a X.env), (false, eval b X.env)] := by rfl) (hs2 : starEach [b] X.env = [(false, eval b X.env)] := by rfl) :
    PI X tg (.Call (.Name "range" p) [a, b] [] pos) (tI L P call W ms 1) :=
  impI (pi_range2 hg hm ha hs hs2) fun σ H R h => by
    refine tOs_mono (tOs_evo h) fun vs H' ⟨Z, ρ, T, ds, xs, b, r, hl', e, k⟩ => ?_
    rcases rng_inv e with ⟨n, rfl, hn, rfl⟩ | ⟨i, j, rfl, hi, hj, rfl⟩ | ⟨_, _, rfl, _⟩
    · rw [hl] at hl'; cases hl'
    · obtain ⟨x, y, rfl, r1, r2⟩ := po_two r
      have hi := small_lt hi
      have hj := small_lt hj
      refine ⟨i, j, by rw [ro_int r1, ro_int r2], ⟨hi.1, hi.2, hj.1, hj.2⟩, k _ ?_⟩
      rw [rngL_one]
      exact wk_rng1
    · rw [hl] at hl'; cases hl'
theorem pi_rngV3 {a b c : Expr} {ms : List M} {p pos : Pos} (hg : Gl X "range") (hm : X.mg "range" = none) (ha : PA X [a, b, c] (tXs L P call W ms)) (hl : ms.length = 3) (hs : starEach [a, b, c] X.env = (false, eval a X.env) :: starEach [b, c] X.env := by rfl) (hpl : (backTo pos (starEach [b, c] X.env)).any (·.1) = false := by rfl) :
    PI X tg (.Call (.Name "range" p) [a, b, c] [] pos) (tI L P call W ms 1) :=
  impI (pi_range3 hg hm ha hs hpl) fun σ H R h => by
    refine tOs_mono (tOs_evo h) fun vs H' ⟨Z, ρ, T, ds, xs, b, r, hl', e, k⟩ => ?_
    rcases rng_inv e with ⟨n, rfl, hn, rfl⟩ | ⟨i, j, rfl, hi, hj, rfl⟩ | ⟨i, j, rfl, hi, hj, rfl⟩
    · rw [hl] at hl'; cases hl'
    · rw [hl] at hl'; cases hl'
    · obtain ⟨x, y, z, rfl, r1, r2, r3⟩ := po_three r
      have hi := small_lt hi
      have hj := small_lt hj
      refine ⟨i, j, -1, _, by rw [ro_int r1, ro_int r2, ro_int r3], RgC.neg hi.1 hi.2 hj.1 hj.2, k _ ?_⟩
      rw [rngL_neg]
      exact wk_rng
/-- pairs of two rows -/
theorem zip_get {l m : List D} {i : Nat} {d : D} (h : ((l.zip m).map fun p => D.tup [p.1, p.2])[i]? = some d) : ∃ x y, l[i]? = some x ∧ m[i]? = some y ∧ d = .tup [x, y] := by
  rw [List.getElem?_map] at h
  cases q : (l.zip m)[i]? with
  | none => rw [q] at h; cases h
  | some p =>
    rw [q] at h; cases h
    obtain ⟨h1, h2⟩ := List.getElem?_zip_eq_some.mp q
    exact ⟨_, _, h1, h2, rfl⟩
theorem wk_zipL {l m : List D} {a b : Addr} {Hs : Hp} : Wk L Hs [.lst l, .lst m] [.ref a, .ref b] (Itz L.K a b) ((l.zip m).map fun p => .tup [p.1, p.2]) := by
  intro Z ρ H h _ i
  obtain ⟨x, y, e, h1, h2⟩ := po_two h
  cases e
  obtain ⟨_, vs, ex, q, r⟩ := ro_lst h1
  cases ex
  obtain ⟨_, us, ex, q2, r2⟩ := ro_lst h2
  cases ex
  refine ⟨fun hi => ⟨vs, us, SqL.of q, SqL.of q2, ?_⟩, fun d hd => ?_⟩
  · rw [List.length_map, List.length_zip] at hi
    rw [r.length, r2.length]
    omega
  obtain ⟨dx, dy, h3, h4, rfl⟩ := zip_get hd
  obtain ⟨v, hv, rv⟩ := r.get h3
  obtain ⟨u, hu, ru⟩ := r2.get h4
  refine ⟨⟨vs, us, v, u, SqL.of q, SqL.of q2, hv, hu⟩, fun x H' y => ?_⟩
  obtain ⟨T, x', y', rfl, hT, rfl, y1, y2⟩ := y
  have e1 := y1 vs (SqL.of q)
  have e2 := y2 us (SqL.of q2)
  rw [hv] at e1; cases e1
  rw [hu] at e2; cases e2
  exact .inr ⟨T, _, _, rfl, rfl, hT, rfl, .cons rv (.cons ru .nil)⟩
theorem wk_zipT {l m : List D} {a b : Addr} {Hs : Hp} : Wk L Hs [.tup l, .tup m] [.ref a, .ref b] (RZ.ItzT L.K a b) ((l.zip m).map fun p => .tup [p.1, p.2]) := by
  intro Z ρ H h _ i
  obtain ⟨x, y, e, h1, h2⟩ := po_two h
  cases e
  obtain ⟨_, vs, ex, q, r⟩ := ro_tup h1
  cases ex
  obtain ⟨_, us, ex, q2, r2⟩ := ro_tup h2
  cases ex
  have q := (Hd.sub _ _ _).sqT q
  have q2 := (Hd.sub _ _ _).sqT q2
  refine ⟨fun hi => ⟨vs, us, q, q2, ?_⟩, fun d hd => ?_⟩
  · rw [List.length_map, List.length_zip] at hi
    rw [r.length, r2.length]
    omega
  obtain ⟨dx, dy, h3, h4, rfl⟩ := zip_get hd
  obtain ⟨v, hv, rv⟩ := r.get h3
  obtain ⟨u, hu, ru⟩ := r2.get h4
  refine ⟨⟨vs, us, v, u, q, q2, hv, hu⟩, fun x H' y => ?_⟩
  obtain ⟨T, x', y', rfl, hT, rfl, y1, y2⟩ := y
  have e1 := y1 vs q
  have e2 := y2 us q2
  rw [hv] at e1; cases e1
  rw [hu] at e2; cases e2
  exact .inr ⟨T, _, _, rfl, rfl, hT, rfl, .cons rv (.cons ru .nil)⟩
theorem zip_inv {ds xs : List D} (e : items 3 ds = some xs) : (∃ l m, ds = [.tup l, .tup m] ∧ xs = (l.zip m).map fun p => D.tup [p.1, p.2]) ∨ ∃ l m, ds = [.lst l, .lst m] ∧ xs = (l.zip m).map fun p => D.tup [p.1, p.2] := by
  match ds, e with
  | [], e => simp [items] at e
  | [d], e => cases d <;> simp [items] at e
  | [d, d'], e => cases d <;> cases d' <;> simp [items] at e <;> subst e <;> first | exact .inl ⟨_, _, rfl, rfl⟩ | exact .inr ⟨_, _, rfl, rfl⟩
  | d :: d' :: d'' :: ds, e => cases d <;> cases d' <;> simp [items] at e
theorem pi_zipV {elts : List Expr} {kk : Nat} {tpos : Pos} {a b : Expr} {ms : List M} {p pos : Pos} (hK : X.K = L.K) (hg : Gl X "zip") (hm : X.mg "zip" = none) (ha : PA X [a, b] (tXs L P call W ms)) (hs : starEach [a, b] X.env = (false, eval a X.env) :: starEach [b] X.env := by rfl) (hpl : (backTo pos (starEach [b] X.env)).any (·.1) = false := by rfl) :
    PI X (.Tuple elts kk tpos) (.Call (.Name "zip" p) [a, b] [] pos) (tI L P call W ms 3) :=
  impI (RZ.pi_zipA hg hm ha hs hpl) fun σ H R h => by
    refine tOs_mono (tOs_evo h) fun vs H' ⟨Z, ρ, T, ds, xs, b, r, hl, e, k⟩ => ?_
    rcases zip_inv e with ⟨l, m, rfl, rfl⟩ | ⟨l, m, rfl, rfl⟩
    · obtain ⟨x, y, rfl, r1, r2⟩ := po_two r
      obtain ⟨a1, vs, rfl, q, _⟩ := ro_tup r1
      obtain ⟨a2, us, rfl, q2, _⟩ := ro_tup r2
      rw [hK]
      exact ⟨a1, a2, vs, us, rfl, .inr ⟨(Hd.sub _ _ _).sqT q, (Hd.sub _ _ _).sqT q2, k _ wk_zipT⟩⟩
    · obtain ⟨x, y, rfl, r1, r2⟩ := po_two r
      obtain ⟨a1, vs, rfl, q, _⟩ := ro_lst r1
      obtain ⟨a2, us, rfl, q2, _⟩ := ro_lst r2
      exact ⟨a1, a2, vs, us, rfl, .inl ⟨SqL.of q, SqL.of q2, hK ▸ k _ wk_zipL⟩⟩
end
end Sr
end

section
set_option autoImplicit false
set_option linter.all false
set_option Elab.async false
/-! Sr8: targets; comprehensions. -/
namespace Sr
open PySem PySem.Spec PyProof.Rows L2 SeqAt

section
variable {L : Lk} {P : Pg} {call : CallF} {W : WX} {X : Cx} {Z : Addr → Prop} {ρ ρ1 ρ0 : List Addr} {H H0 H1 : Hp} {T : List Nd} {σ : L2.St} {env : Env} {p : Addr} {o : HO}
/-! ### a hidden object changes -/
theorem Hd.updZ (z : Z p) : Hd Z ρ (upd H p o) = Hd Z ρ H := by
  funext a
  unfold Hd
  by_cases e : a = p
  · subst e
    rw [if_pos (.inl z), if_pos (.inl z)]
  · rw [upd_ne e]
theorem Bs.updZ (b : Bs L Z ρ T H) (z : Z p) (ht : ¬ isTb (some o)) : Bs L Z ρ T (upd H p o) where
  len := b.len
  nd := b.nd
  dj := b.dj
  zin := fun a za => by
    by_cases e : a = p
    · subst e; rw [upd_same]; exact ⟨by simp, ht⟩
    · rw [upd_ne e]; exact b.zin a za
  at_ := fun k n a h1 h2 => by
    have x := b.at_ k n a h1 h2
    have e : a ≠ p := fun e => b.dj a (List.mem_of_getElem? h2) (e ▸ z)
    exact x.sub (List.prefix_refl _) (by rw [upd_ne e]) (by rw [Hd.updZ z]; exact Sub.refl _)
  nw := b.nw
  tab := fun q hq => by
    obtain ⟨ps, h1, h2, h3⟩ := b.tab q hq
    have ne : ∀ c, isTb (H c) → c ≠ p := fun c h e => (b.zin p z).2 (e ▸ h)
    refine ⟨ps, by rw [upd_ne (ne _ (by rw [h1]; trivial))]; exact h1, h2, fun pos cv hc => ?_⟩
    obtain ⟨c, e1, e2⟩ := h3 pos cv hc
    exact ⟨c, e1, by rw [upd_ne (ne c (by rw [e2]; exact ⟨c, _, rfl⟩))]; exact e2⟩
theorem Fr.updN (f : Fr H0 ρ0 H ρ) (n : H0 p = Option.none) : Fr H0 ρ0 (upd H p o) ρ where
  pre := f.pre
  new := f.new
  ext := fun a u h r t => by rw [upd_ne (ne_of_none h n)]; exact f.ext a u h r t
  tb := fun a h => by
    have : a ≠ p := fun e => by rw [e, n] at h; exact h
    rw [upd_ne this]; exact f.tb a h

/-! ### targets -/
def gNames : List Nat → TGs
  | [] => gNil
  | i :: is => gCons (gName i) (gNames is)
def tgG (K : PySem.W.Frag) : Tg → TG
  | .nm i => gName i
  | .tp is => gTup K is.length (gNames is)
theorem put_inv {env e : Env} {i : Nat} {b : Md × D} {T T' : List Nd} (h : env.put i b T = .ok e T') : T' = T ∧ env.free i = true ∧ e = env.set i (some b) := by
  unfold Env.put at h
  split at h
  · cases h; exact ⟨rfl, by assumption, rfl⟩
  · cases h
theorem free_lt {env : Env} {i : Nat} (h : env.free i = true) : i < env.length := by
  unfold Env.free at h
  by_cases q : i < env.length
  · exact q
  · rw [List.getElem?_eq_none (by omega)] at h; cases h
theorem ER.put {d : D} {v : V} {i : Nat} (x : ER L Z σ H env T ρ) (r : Rep L ρ (Hd Z ρ H) d v) (h : i < env.length) : ER L Z (σ.set i (some v)) H (env.set i (some (.sh, d))) T ρ where
  bs := x.bs
  len := by rw [List.length_set, List.length_set]; exact x.len
  sl := fun j m d' e => by
    by_cases q : i = j
    · subst q
      rw [List.getElem?_set_self h] at e
      cases e
      exact ⟨v, by rw [List.getElem?_set_self (x.len ▸ h)], fun _ => r, fun n => absurd rfl n⟩
    · rw [List.getElem?_set_ne q] at e ⊢
      exact x.sl j m d' e
theorem ER.wipe (x : ER L Z σ H env T ρ) : ∀ is : List Nat, ER L Z (L2.wipe σ is) H (env.wipe is) T ρ
  | [] => x
  | i :: is => by
    have y := x.wipe is
    refine ⟨y.bs, by simp only [Env.wipe, L2.wipe, List.length_set]; exact y.len, fun j m d e => ?_⟩
    simp only [Env.wipe, L2.wipe] at e ⊢
    by_cases q : i = j
    · subst q
      by_cases hl : i < (env.wipe is).length
      · rw [List.getElem?_set_self hl] at e; cases e
      · rw [List.getElem?_eq_none (by rw [List.length_set]; omega)] at e; cases e
    · rw [List.getElem?_set_ne q] at e ⊢
      exact y.sl j m d e
theorem wipe_set {σ : L2.St} {i : Nat} {v : Option V} : ∀ {is : List Nat}, i ∈ is → L2.wipe (σ.set i v) is = L2.wipe σ is
  | j :: is, h => by
    simp only [L2.wipe]
    by_cases q : j = i
    · subst q
      have : ∀ is : List Nat, (L2.wipe (σ.set j v) is).set j none = (L2.wipe σ is).set j none := by
        intro is
        induction is with
        | nil => simp [L2.wipe]
        | cons k is ih =>
          simp only [L2.wipe]
          by_cases e : k = j
          · subst e; rw [List.set_set, List.set_set]; exact ih
          · rw [List.set_comm _ _ e, ih, List.set_comm _ _ e]
      exact this is
    · rw [wipe_set (List.mem_of_ne_of_mem (Ne.symm q) h)]
theorem puts_g {Q : L2.St → Hp → Prop} : ∀ {is : List Nat} {ds : List D} {vs : List V} {σ : L2.St} {env e : Env} {T T' : List Nd}, ER L Z σ H env T ρ → Reps L ρ (Hd Z ρ H) ds vs → env.puts is ds T = .ok e T' →
    (∀ σ2, ER L Z σ2 H e T ρ → (∀ js, (∀ i ∈ is, i ∈ js) → L2.wipe σ2 js = L2.wipe σ js) → T' = T → Q σ2 H) → gNames is vs σ H Q
  | [], [], vs, σ, env, e, T, T', x, r, h, k => by
    rw [r.unnil]
    simp only [Env.puts] at h
    cases h
    exact ⟨rfl, k σ x (fun _ _ => rfl) rfl⟩
  | [], d :: ds, vs, σ, env, e, T, T', x, r, h, k => by simp only [Env.puts] at h; cases h
  | i :: is, [], vs, σ, env, e, T, T', x, r, h, k => by simp only [Env.puts] at h; cases h
  | i :: is, d :: ds, vs, σ, env, e, T, T', x, r, h, k => by
    obtain ⟨v, vs, rfl, r1, r2⟩ := r.uncons
    simp only [Env.puts] at h
    obtain ⟨e1, T1, h1, h2⟩ := bind_ok h
    obtain ⟨rfl, hf, rfl⟩ := put_inv h1
    refine ⟨v, vs, rfl, puts_g (x.put r1 (free_lt hf)) r2 h2 fun σ2 x2 w e => k σ2 x2 (fun js hj => ?_) e⟩
    rw [w js (fun i hi => hj i (List.mem_cons_of_mem _ hi)), wipe_set (hj i List.mem_cons_self)]
theorem target_g (hK : X.K = L.K) {Q : L2.St → Hp → Prop} {tg : Tg} {d : D} {v : V} {e : Env} {T' : List Nd} (x : ER L Z σ H env T ρ) (r : Rep L ρ (Hd Z ρ H) d v) (h : env.target tg d T = .ok e T')
    (k : ∀ σ2, ER L Z σ2 H e T ρ → (∀ js, (∀ i ∈ tg.slots, i ∈ js) → L2.wipe σ2 js = L2.wipe σ js) → T' = T → Q σ2 H) : tgG X.K tg v σ H Q := by
  cases tg with
  | nm i =>
    obtain ⟨rfl, hf, rfl⟩ := put_inv (show env.put i (.sh, d) T = .ok e T' by cases d <;> exact h)
    exact k _ (x.put r (free_lt hf)) (fun js hj => wipe_set (hj i (by simp [Tg.slots]))) rfl
  | tp is =>
    cases d <;> first
      | (simp only [Env.target] at h; cases h; done)
      | skip
    case tup ds =>
      simp only [Env.target] at h
      have r' := r
      simp only [Rep] at r'
      obtain ⟨a, vs, rfl, q, rs⟩ := r'
      have hl : ∀ {is : List Nat} {ds : List D} {env e : Env} {T T' : List Nd}, env.puts is ds T = .ok e T' → ds.length = is.length := by
        intro is
        induction is with
        | nil => intro ds env e T T' h; cases ds <;> simp only [Env.puts] at h <;> first | rfl | cases h
        | cons i is ih =>
          intro ds env e T T' h
          cases ds <;> simp only [Env.puts] at h
          · cases h
          · obtain ⟨e1, T1, h1, h2⟩ := bind_ok h
            rw [List.length_cons, List.length_cons, ih h2]
      refine ⟨a, vs, rfl, hK ▸ (Hd.sub _ _ _).sqT q, by rw [rs.length, hl h], puts_g x rs h k⟩
end
end Sr
end

section
set_option autoImplicit false
set_option linter.all false
set_option Elab.async false
/-! Sr9: comprehensions. -/
namespace Sr
open PySem PySem.Spec PyProof.Rows L2 SeqAt

section
variable {L : Lk} {P : Pg} {call : CallF} {W : WX} {X : Cx} {Z : Addr → Prop} {ρ ρ1 ρ0 : List Addr} {H H0 H1 : Hp} {T : List Nd} {σ : L2.St} {env : Env} {p : Addr} {o : HO}
abbrev WF0 : WX := fun _ _ _ _ => False
/-- the tests' reading -/
def tCs (L : Lk) (P : Pg) (call : CallF) (ms : List M) : TT := fun σ H Q => ∃ Z env T ρ, ER L Z σ H env T ρ ∧ RX L Z ρ H (fun _ _ _ => False) (evc P call ms env T) fun b T' => ∀ H' ρ', Fr H ρ H' ρ' → Bs L Z ρ' T' H' → Q b H'
theorem comp_go {gtest : Env → Mo Bool} {gelt : Env → Mo (D × Bool)} {tg : Tg} {x : D} {xs : List D} {ys : List D} {T T' : List Nd} (h : compGo env tg gtest gelt (x :: xs) T = .ok ys T') :
    ∃ e T1 b T2, env.target tg x T = .ok e T1 ∧ gtest e T1 = .ok b T2 ∧ ((b = true ∧ ∃ y T3 zs, gelt e T2 = .ok y T3 ∧ compGo env tg gtest gelt xs T3 = .ok zs T' ∧ ys = y.1 :: zs) ∨ (b = false ∧ compGo env tg gtest gelt xs T2 = .ok ys T')) := by
  simp only [compGo] at h
  split at h
  · rename_i e T1 h1
    split at h
    · rename_i T2 h2
      split at h
      · rename_i y T3 h3
        split at h
        · rename_i zs T4 h4
          cases h
          exact ⟨e, T1, true, T2, h1, h2, .inl ⟨rfl, y, T3, zs, h3, h4, rfl⟩⟩
        · cases h
      · cases h
    · rename_i T2 h2
      exact ⟨e, T1, false, T2, h1, h2, .inr ⟨rfl, h⟩⟩
    · cases h
  · cases h
theorem comp_no {gtest : Env → Mo Bool} {gelt : Env → Mo (D × Bool)} {tg : Tg} {c : Nat} {fs : List D} : ∀ {xs : List D} {T T' : List Nd}, compGo env tg gtest gelt xs T ≠ .ex c fs T'
  | [], T, T', h => by simp only [compGo] at h; cases h
  | x :: xs, T, T', h => by
    simp only [compGo] at h
    split at h
    · split at h
      · split at h
        · split at h
          · cases h
          · cases h
        · cases h
      · exact comp_no h
      · cases h
    · cases h
/-- what holds at turn i: xs still to come, acc laid -/
def CW (L : Lk) (P : Pg) (call : CallF) (Z : Addr → Prop) (ρ0 : List Addr) (H0 : Hp) (Hb : Hp) (ρb : List Addr) (env : Env) (σ : L2.St) (tg : Tg) (cond : List M) (elt : M) (xs : List D) (Df : List D) (Tf : List Nd) (Dp : Addr) : Nat → Nat → Hp → Prop := fun i m H =>
  m = xs.length - i ∧ i ≤ xs.length ∧ ∃ T ρ accD acc rest, Fr Hb ρb H ρ ∧ ER L (Zp Z Dp) σ H env T ρ ∧ H Dp = some (.lst acc) ∧ Reps L ρ (Hd (Zp Z Dp) ρ H) accD acc ∧
    compGo env tg (fun e => evc P call cond e) (fun e => ev P call elt e) (xs.drop i) T = .ok rest Tf ∧ accD ++ rest = Df
theorem Fr.zp (f : Fr H0 ρ0 H ρ) (b : Bs L Z ρ0 T H0) (hp : H0 p = Option.none) : Sub (Hd Z ρ0 H0) (Hd (Zp Z p) ρ H) := fun a u h => by
  have h2 := f.hd Z a u h
  obtain ⟨e1, _, _, _⟩ := Hd.of h
  obtain ⟨e2, z2, r2, t2⟩ := Hd.of h2
  exact Hd.mk e2 (by rintro (z | z); exact z2 z; exact ne_of_none e1 hp z) r2 t2
/-- an operand stands further on, with one more object hidden -/
theorem RO.zp {d : D} {v : V} (f : Fr H0 ρ0 H ρ) (b : Bs L Z ρ0 T H0) (hp : H0 p = Option.none) : RO L Z ρ0 H0 d v → RO L (Zp Z p) ρ H d v
  | .inl h => .inl (Rep.sub f.pre (f.zp b hp) d v h)
  | .inr ⟨a, e, z, n⟩ => by
    obtain ⟨o, q, t⟩ := n.some
    refine .inr ⟨a, e, .inl z, n.sub f.pre ?_ (f.zp b hp)⟩
    rw [q, f.ext a o q (fun m => b.dj a m z) t]
theorem Paired.imp {α β : Type} {R S : α → β → Prop} (h : ∀ a b, R a b → S a b) : ∀ {xs : List α} {ys : List β}, Paired R xs ys → Paired S xs ys
  | _, _, .nil => .nil
  | _, _, .cons a t => .cons (h _ _ a) (Paired.imp h t)
theorem ER.zp {o : HO} (x : ER L Z σ H env T ρ) (hp : H p = Option.none) (ht : ¬ isTb (some o)) : ER L (Zp Z p) σ (upd H p o) env T ρ where
  bs := x.bs.laidZ hp ht
  len := x.len
  sl := fun i m d e => by
    obtain ⟨v, h1, h2, h3⟩ := x.sl i m d e
    refine ⟨v, h1, fun q => (h2 q).mono (Hd.laidZ hp), fun q => ?_⟩
    obtain ⟨a, e, z, n⟩ := h3 q
    refine ⟨a, e, .inl z, n.sub (List.prefix_refl _) ?_ (Hd.laidZ hp)⟩
    obtain ⟨u, e2, _⟩ := n.some
    rw [upd_ne (ne_of_none e2 hp)]
/-- the new item, laid or as it stands -/
theorem Yld.step {d : D} {x : V} {H' : Hp} {Hc : Hp} (hs : Sub Hc (Hd Z ρ H)) (b : Bs L Z ρ T H) (y : Yld L ρ Hc d H x H') : Fr H ρ H' ρ ∧ Bs L Z ρ T H' ∧ Rep L ρ (Hd Z ρ H') d x := by
  rcases y with ⟨rfl, r⟩ | ⟨p, ds, vs, rfl, rfl, hp, rfl, r⟩
  · exact ⟨Fr.refl _ _, b, r.mono hs⟩
  · have q := Post.newTup b hp (r.mono hs)
    exact ⟨q.fr, q.bs, q.rep⟩
theorem drop_cons {α : Type} {l : List α} {i : Nat} {d : α} (h : l[i]? = some d) : l.drop i = d :: l.drop (i + 1) := by
  obtain ⟨h1, rfl⟩ := List.getElem?_eq_some_iff.mp h
  exact List.drop_eq_getElem_cons h1
theorem wipe_idem (σ : L2.St) (is : List Nat) : L2.wipe (L2.wipe σ is) is = L2.wipe σ is := by
  apply List.ext_getElem?
  intro j
  by_cases h : j ∈ is
  · have key : ∀ (τ : L2.St) (is : List Nat), j ∈ is → (L2.wipe τ is)[j]? = if j < τ.length then some none else none := by
      intro τ is
      induction is with
      | nil => intro h; cases h
      | cons k is ih =>
        intro h
        simp only [L2.wipe]
        by_cases e : k = j
        · subst e
          rw [List.getElem?_set, L2.wipe_length]; simp
        · rw [List.getElem?_set_ne e]
          exact ih (List.mem_of_ne_of_mem (Ne.symm e) h)
    rw [key _ _ h, key _ _ h, L2.wipe_length]
  · rw [L2.wipe_out h]
theorem RO.stay {L : Lk} {Z : Addr → Prop} {ρ1 ρ2 : List Addr} {H1 H2 : Hp} {T1 : List Nd} {d : D} {v : V} (h : RO L Z ρ1 H1 d v) (f : Fr H1 ρ1 H2 ρ2) (b : Bs L Z ρ1 T1 H1) : Stay H1 H2 d v := by
  rintro ks ws a o es ep rfl rfl ho hd
  have hn : a ∉ ρ1 := by
    rcases h with h | ⟨a', e', z, n⟩
    · simp only [Rep] at h
      obtain ⟨a', kv, vv, e', q, _⟩ := h
      cases e'
      obtain ⟨o', es', ep', q1, _⟩ := q.ob
      exact (Hd.of q1).2.2.1
    · cases e'
      exact fun m => b.dj a m z
  exact f.ext a _ ho hn (dic_notTb hd)
theorem comp_read (hK : X.K = L.K) {elt : M} {tg : Tg} {k : Nat} {it cond : List M} {Q : VK} {vs : List Nat} (hvs : vs = tg.slots) (h : tV L P call W (.comp elt tg k it cond) σ H Q) :
    tLc (tI L P call W it k) (tgG X.K tg) (tCs L P call cond) (tV L P call WF0 elt) vs σ H Q := by
  subst hvs
  obtain ⟨Z, env, T, ρ, er, h⟩ := h
  simp only [ev] at h
  refine ⟨Z, env, T, ρ, er, h.bind.imp fun ds T1 h1 => ?_⟩
  obtain ⟨xs, ei, h2⟩ := h1.bind.ofO
  refine ⟨xs, ei, fun vals J H1 ρ1 f1 b1 ros wk Dp hD => ?_⟩
  have ro := ros_ro ros
  have h3 := h2.bind
  cases q : compGo (env.wipe tg.slots) tg (fun e => evc P call cond e) (fun e => ev P call elt e) xs T1 with
  | no => rw [q] at h3; exact h3.elim
  | ex c fs T' => exact absurd q comp_no
  | ok Df Tf =>
  rw [q] at h3
  have h3 : RX L Z ρ H (fun c d H' => W c d σ H') ((if Df.length ≤ SZ then return (.lst Df, true) else stuck : Mo (D × Bool)) Tf) fun r T' => ∀ v H' ρ', Post L Z ρ H v r.1 r.2 H' T' ρ' → Q v H' := h3
  have hsz : Df.length ≤ SZ := by
    by_cases c : Df.length ≤ SZ
    · exact c
    · rw [if_neg c] at h3; exact h3.elim
  rw [if_pos hsz] at h3
  have h3 := RX.pure h3
  have er1 := er.step f1 b1
  have erw := er1.wipe tg.slots
  refine ⟨CW L P call Z ρ H H1 ρ1 (env.wipe tg.slots) (L2.wipe σ tg.slots) tg cond elt xs Df Tf Dp, ⟨xs.length, by omega, Nat.zero_le _, T1, ρ1, [], [], Df, Fr.laid hD, (er1.zp hD id).wipe _, upd_same, .nil, q, rfl⟩, ?_⟩
  rintro i m H2 ⟨rfl, hi, T2, ρ2, accD, acc, rest, f2, er2, hDp, ra, hgo, hf⟩
  have wk2 := wk (Zp Z Dp) ρ2 H2 (Paired.imp (fun a b z => z.zp f2 b1 hD) ro) (Paired.imp (fun a b z => z.stay f2 b1) ro) i
  by_cases hlt : i < xs.length
  · have hd : xs[i]? = some xs[i] := List.getElem?_eq_getElem hlt
    obtain ⟨go, wk3⟩ := wk2.2 _ hd
    refine .inr ⟨go, CW L P call Z ρ H H1 ρ1 (env.wipe tg.slots) (L2.wipe σ tg.slots) tg cond elt xs Df Tf Dp (i + 1) (xs.length - (i + 1)), fun H' w => ⟨_, by omega, w⟩, fun x H' y => ?_⟩
    rw [drop_cons hd] at hgo
    obtain ⟨e, T3, b, T4, g1, g2, g3⟩ := comp_go hgo
    obtain ⟨fy, by_, ry⟩ := (wk3 x H' y).step (Sub.refl _) er2.bs
    refine target_g hK (er2.step fy by_) ry g1 fun σ2 er3 hw e3 => ⟨(hw _ (fun _ z => z)).trans (wipe_idem _ _), ?_⟩
    subst e3
    refine ⟨_, _, _, _, er3, ?_⟩
    rw [g2]
    intro H3 ρ3 f3 b3
    have hD3 : H3 Dp = some (.lst acc) := f3.ext Dp _ (fy.ext Dp _ hDp (fun z => er2.bs.dj Dp z (.inr rfl)) id) (fun z => er2.bs.dj Dp z (.inr rfl)) id
    have ra3 := Reps.sub ((fy.trans f3).pre) ((fy.trans f3).hd _) _ _ ra
    have er4 : ER L (Zp Z Dp) (L2.wipe σ tg.slots) H3 (env.wipe tg.slots) T4 ρ3 := er2.step (fy.trans f3) b3
    rcases g3 with ⟨rfl, y', T5, zs, g4, g5, rfl⟩ | ⟨rfl, g4⟩
    · rw [if_pos rfl]
      refine ⟨_, _, _, _, er3.step f3 b3, ?_⟩
      rw [g4]
      intro v H4 ρ4 p4
      have hD4 : H4 Dp = some (.lst acc) := p4.fr.ext Dp _ hD3 (fun z => b3.dj Dp z (.inr rfl)) id
      refine ⟨acc, hD4, ?_, rfl, hlt, T5, ρ4, accD ++ [y'.1], acc ++ [v], zs, ?_, ?_, upd_same, ?_, g5, by rw [← hf]; simp⟩
      · rw [ra.length, ← SZ_eq]
        rw [← hf, List.length_append, List.length_cons] at hsz
        omega
      · exact (((f2.trans fy).trans f3).trans p4.fr).updN hD
      · have er5 := er4.step p4.fr p4.bs
        refine ⟨er5.bs.updZ (.inr rfl) id, er5.len, fun j m d e => ?_⟩
        obtain ⟨w, s1, s2, s3⟩ := er5.sl j m d e
        rw [Hd.updZ (.inr rfl)]
        refine ⟨w, s1, s2, fun n => ?_⟩
        obtain ⟨a, s4, s5, s6⟩ := s3 n
        refine ⟨a, s4, s5, s6.sub (List.prefix_refl _) ?_ (Sub.refl _)⟩
        rw [upd_ne]
        rintro rfl
        rw [s4] at s1
        obtain ⟨w', t1, _, t3⟩ := erw.sl j m d e
        obtain ⟨a', t4, t5, t6⟩ := t3 n
        rw [s1] at t1
        cases t1
        cases t4
        obtain ⟨u, t7, _⟩ := t6.some
        rw [hD] at t7; cases t7
      · rw [Hd.updZ (.inr rfl)]
        exact (Reps.sub p4.fr.pre (p4.fr.hd _) _ _ ra3).append (.cons p4.rep .nil)
    · rw [if_neg (by simp)]
      exact ⟨rfl, hlt, T4, ρ3, accD, acc, rest, (f2.trans fy).trans f3, er4, hD3, ra3, g4, hf⟩
  · have e : i = xs.length := by omega
    subst e
    refine .inl ⟨wk2.1 (Nat.le_refl _), ?_⟩
    rw [List.drop_length] at hgo
    simp only [compGo] at hgo
    cases hgo
    rw [List.append_nil] at hf
    subst hf
    have nz : ¬ Z Dp := (b1.notIn hD).2
    have nr : Dp ∉ ρ2 := fun z => er2.bs.dj Dp z (.inr rfl)
    refine h3 _ _ _ (Post.after f1 ⟨f2, er2.bs.less fun a z => .inl z, ?_, fun _ => ⟨Dp, rfl, hD, nr, er2.bs, acc, hDp, ra⟩⟩)
    simp only [Rep]
    exact ⟨Dp, acc, rfl, Hd.mk hDp nz nr (by rw [hDp]; exact id), ra.mono (Hd.less fun a z => .inl z)⟩
end
end Sr
namespace Sr
open PySem PySem.Spec PyProof.Rows L2 SeqAt
section
variable {L : Lk} {P : Pg} {call : CallF} {W : WX} {X : Cx}
theorem pts_nilV : PTs X [] (tCs L P call []) := ⟨fun pins s σ H Q I h => pts_nil.run pins s σ H Q I (by
  obtain ⟨Z, env, T, ρ, er, h⟩ := h
  simp only [evc] at h
  exact h H ρ (Fr.refl _ _) er.bs)⟩
theorem pts_oneV {c : Expr} {m : M} (h : PT X c (tB' L P call WF0 m)) : PTs X [c] (tCs L P call [m]) := ⟨fun pins s σ H Q I h' => (pts_one h).run pins s σ H Q I (by
  obtain ⟨Z, env, T, ρ, er, h⟩ := h'
  simp only [evc] at h
  refine ⟨Z, env, T, ρ, er, h.bind.imp fun d T1 h1 => ?_⟩
  obtain ⟨b, e, k⟩ := h1.bol
  exact ⟨b, e, k⟩)⟩
theorem pe_compV {elt tgE iter : Expr} {ifs : List Expr} {scope : Scope} {own : List (Str × Nat)} {pos : Pos} {me : M} {tg : Tg} {k : Nat} {it cond : List M} (hc : X.calm = true) (hN : X.N.Nodup) (hK : X.K = L.K) (hi : PI X tgE iter (tI L P call W it k)) (ok : BlkOk X.N X.env.scope scope own) (ho : own.map (·.2) = tg.slots)
    (hg : ∀ (s : Shared) (H : Hp) (C : Addr) (cl : List (Str × Addr)) (fp : List Addr), PG (X.blk s H scope (compEnvC scope cl C X.env) fp) tgE (tgG X.K tg)) (ht : ∀ (s : Shared) (H : Hp) (C : Addr) (cl : List (Str × Addr)) (fp : List Addr), PTs (X.blk s H scope (compEnvC scope cl C X.env) fp) ifs (tCs L P call cond))
    (he : ∀ (s : Shared) (H : Hp) (C : Addr) (cl : List (Str × Addr)) (fp : List Addr), PE (X.blk s H scope (compEnvC scope cl C X.env) fp) elt (tV L P call WF0 me)) (hs : ∀ x, foldedSetIterable iter X.env x = pure x := by intro _; rfl) :
    PE X (.ListComp elt [⟨tgE, iter, ifs, 0⟩] scope pos) (tV L P call W (.comp me tg k it cond)) :=
  impE (pe_lc hc hN hi ok hg ht he hs) fun σ H Q h => comp_read hK ho h
end
end Sr
end

section
set_option autoImplicit false
set_option linter.all false
set_option Elab.async false
/-! Sr10: calls. -/
namespace Sr
open PySem PySem.Spec PyProof.Rows L2 SeqAt

/-- an argument -/
def ArgOk (L : Lk) (Z : Addr → Prop) (ρ : List Addr) (H : Hp) (b : Md × D) (v : V) : Prop :=
  (b.1 = .sh ∧ Rep L ρ (Hd Z ρ H) b.2 v) ∨ (b.1 = .br ∧ ∃ a, v = .ref a ∧ Z a ∧ NodeAt L ρ H (Hd Z ρ H) a b.2)
/-- what a def promises -/
def spC (L : Lk) (call : CallF) (n : Nat) (f : Nat) : Sp := fun vs H Q E => ∃ Z ρ T args, vs.length = n ∧ Bs L Z ρ T H ∧ Paired (ArgOk L Z ρ H) args vs ∧ RX L Z ρ H E (call f args T) fun r T' => ∀ v H' ρ', Post L Z ρ H v r.1 r.2 H' T' ρ' → Q v H'
section
variable {L : Lk} {P : Pg} {call : CallF} {W : WX} {X : Cx} {Z : Addr → Prop} {ρ ρ1 ρ0 : List Addr} {H H0 H1 : Hp} {T : List Nd} {σ : L2.St} {env : Env} {p : Addr} {o : HO}
theorem ArgOk.step (f : Fr H ρ H1 ρ1) (b : Bs L Z ρ T H) {m : Md × D} {v : V} : ArgOk L Z ρ H m v → ArgOk L Z ρ1 H1 m v
  | .inl ⟨e, r⟩ => .inl ⟨e, Rep.sub f.pre (f.hd Z) _ _ r⟩
  | .inr ⟨e, a, ev, z, n⟩ => .inr ⟨e, a, ev, z, f.node b z n⟩
/-- an argument's reading -/
def tM (L : Lk) (P : Pg) (call : CallF) (W : WX) (m : M) : TE := fun σ H Q => ∃ Z env T ρ, ER L Z σ H env T ρ ∧ RX L Z ρ H (fun c d H' => W c d σ H') (opd env m (ev P call m env) T) fun d T' => ∀ v H' ρ', Fr H ρ H' ρ' → Bs L Z ρ' T' H' → ArgOk L Z ρ' H' (M.mode env m, d) v → Q v H'
def tMs (L : Lk) (P : Pg) (call : CallF) (W : WX) (ms : List M) : TA := fun σ H Q => ∃ Z env T ρ, ER L Z σ H env T ρ ∧ RX L Z ρ H (fun c d H' => W c d σ H') (evo P call ms env T) fun ds T' => ∀ vs H' ρ', Fr H ρ H' ρ' → Bs L Z ρ' T' H' →
  Paired (ArgOk L Z ρ' H') ((ms.map (M.mode env)).zip ds) vs → Q vs H'
theorem mode_sh {m : M} {env : Env} (hm : ∀ i, m ≠ .var i) : M.mode env m = .sh := by
  cases m <;> first | exact absurd rfl (hm _) | rfl
theorem mode_var {i : Nat} {env : Env} {m : Md} {d : D} (e : env[i]? = some (some (m, d))) : M.mode env (.var i) = if m = .sh then .sh else .br := by
  show (if env.isOw i then Md.br else Md.sh) = _
  have : env.isOw i = !decide (m = .sh) := by
    unfold Env.isOw
    rw [e]
    cases m <;> rfl
  rw [this]
  cases m <;> rfl
theorem PE.arg {m : M} {e : Expr} (hm : ∀ i, m ≠ .var i) (h : PE X e (tV L P call W m)) : PE X e (tM L P call W m) := impE h fun σ H Q ⟨Z, env, T, ρ, er, h⟩ => by
  refine ⟨Z, env, T, ρ, er, (opd_RX hm h).imp fun r T' k v H' ρ' p => k v H' ρ' p.fr p.bs (.inl ⟨mode_sh hm, p.rep⟩)⟩
theorem pe_varM {i : Nat} {x : Str} {pos : Pos} (hN : X.N[i]? = some x) (hv : Vis X.env.scope x) (hd : (x == ("__debug__" : Str)) = false) (hcd : (x == ("__classdict__" : Str)) = false) : PE X (.Name x pos) (tM L P call W (.var i)) :=
  impE (pe_var hN hv hd hcd) fun σ H Q ⟨Z, env, T, ρ, er, h⟩ => by
    rw [opd_var] at h
    unfold Env.lookAny at h
    cases e : env[i]? with
    | none => rw [e] at h; exact h.elim
    | some o =>
      cases o with
      | none => rw [e] at h; exact h.elim
      | some md =>
        obtain ⟨m, d⟩ := md
        rw [e] at h
        obtain ⟨v, hv, h2, h3⟩ := er.sl i m d e
        have h : ∀ v H' ρ', Fr H ρ H' ρ' → Bs L Z ρ' T H' → ArgOk L Z ρ' H' (M.mode env (.var i), d) v → Q v H' := h
        refine ⟨v, hv, h v H ρ (Fr.refl _ _) er.bs ?_⟩
        by_cases q : m = .sh
        · exact .inl ⟨(mode_var e).trans (if_pos q), h2 q⟩
        · exact .inr ⟨(mode_var e).trans (if_neg q), h3 q⟩
theorem pa_nilM : PA X [] (tMs L P call W []) := impA pa_nil fun σ H Q ⟨Z, env, T, ρ, er, h⟩ => by
  simp only [evo] at h
  exact h [] H ρ (Fr.refl _ _) er.bs .nil
theorem pa_consM {e : Expr} {es : List Expr} {m : M} {ms : List M} (ha : PE X e (tM L P call W m)) (hr : PA X es (tMs L P call W ms)) (hs : starEach (e :: es) X.env = (false, eval e X.env) :: starEach es X.env) : PA X (e :: es) (tMs L P call W (m :: ms)) :=
  impA (pa_cons ha hr hs) fun σ H Q ⟨Z, env, T, ρ, er, h⟩ => by
    simp only [evo] at h
    refine ⟨Z, env, T, ρ, er, h.bind.imp fun d T1 h1 v H1 ρ1 f1 b1 a1 => ?_⟩
    refine ⟨Z, env, T1, ρ1, er.step f1 b1, (h1.move f1).bind.imp fun ds T2 h2 vs H2 ρ2 f2 b2 r2 => ?_⟩
    exact (RX.pure h2) (v :: vs) H2 ρ2 (f1.trans f2) b2 (.cons (a1.step f2 b1) r2)
/-- f(e, ..) -/
theorem pe_callV {k n f : Nat} {fd : FuncData} {ps : List Str} {x : Str} {p pos : Pos} {e : Expr} {es : List Expr} {ms : List M} (F : FnOk X.prog X.w X.K X.mg X.base (L2.CX X.prog X.w) k (L.fa f) fd ps (spC L call n f)) (hr : Room k X.A) (hg : Gl X x) (hm : X.mg x = some (.ref (L.fa f)))
    (hk : PySem.W.keepIn X.K (.ref (L.fa f)) = true) (hb : Binds X.K fd ps []) (tk : Takes X W) (ha : PA X (e :: es) (tMs L P call W ms)) (hn : ms.length = n) (hdb : (x == ("__debug__" : Str)) = false) (he : starEach (e :: es) X.env = (false, eval e X.env) :: starEach es X.env)
    (hpl : (backTo pos (starEach es X.env)).any (·.1) = false) : PE X (.Call (.Name x p) (e :: es) [] pos) (tV L P call W (.call f ms)) :=
  impE (pe_callS F hr hg hm hk hb (passAt tk) ha hdb he hpl) fun σ H Q ⟨Z, env, T, ρ, er, h⟩ => by
    simp only [ev] at h
    refine ⟨Z, env, T, ρ, er, h.bind.eqn.imp fun ds T1 h1 vs H1 ρ1 f1 b1 a1 => ?_⟩
    refine ⟨Z, ρ1, T1, _, ?_, b1, a1, (h1.2.move f1).imp fun r T' k v H' ρ' p => k v H' ρ' (Post.after f1 p)⟩
    have := evo_len h1.1
    have pl : ∀ {α β : Type} {R : α → β → Prop} {xs : List α} {ys : List β}, Paired R xs ys → ys.length = xs.length := by
      intro α β R xs ys h
      induction h with
      | nil => rfl
      | cons _ _ ih => simp [ih]
    rw [pl a1, List.length_zip, List.length_map, this, hn, Nat.min_self]
end
end Sr
end

section
set_option autoImplicit false
set_option linter.all false
set_option Elab.async false
/-! Sr11: statements. -/
namespace Sr
open PySem PySem.Spec PyProof.Rows L2 SeqAt

/-- what is hidden in a frame: what was hidden at its start, and its own objects -/
def Zs (Z : Addr → Prop) (σ : L2.St) (env : Env) : Addr → Prop := fun a => Z a ∨ ∃ (i : Nat) (d : D), env[i]? = some (some (.ow, d)) ∧ σ[i]? = some (some (.ref a))
/-- slots that cannot be stored into (locked, lent), with what they hold -/
abbrev LkS := Nat → Addr → Md → D → Prop
/-- a frame: at its start the heap H0, the store ρ0, hidden Z -/
structure SR (L : Lk) (Z : Addr → Prop) (H0 : Hp) (ρ0 : List Addr) (K : LkS) (σ : L2.St) (H : Hp) (env : Env) (T : List Nd) (ρ : List Addr) : Prop where
  bs : Bs L (Zs Z σ env) ρ T H
  len : env.length = σ.length
  sl : ∀ (i : Nat) (m : Md) (d : D), env[i]? = some (some (m, d)) → ∃ v, σ[i]? = some (some v) ∧ (m = .sh → Rep L ρ (Hd (Zs Z σ env) ρ H) d v) ∧ (m ≠ .sh → ∃ a, v = .ref a ∧ NodeAt L ρ H (Hd (Zs Z σ env) ρ H) a d ∧ (m ≠ .ow → Z a) ∧ (m = .ow → H0 a = none ∧ ¬ Z a))
  dj : ∀ (i j : Nat) (d d' : D) (a : Addr), env[i]? = some (some (.ow, d)) → env[j]? = some (some (.ow, d')) → σ[i]? = some (some (.ref a)) → σ[j]? = some (some (.ref a)) → i = j
  fr : Fr H0 ρ0 H ρ
  lk : ∀ (i : Nat) (a : Addr) (m : Md) (d : D), K i a m d → Z a ∧ env[i]? = some (some (m, d)) ∧ σ[i]? = some (some (.ref a)) ∧ m ≠ .sh ∧ m ≠ .ow
  fx : ∀ (i : Nat) (m : Md) (d : D), env[i]? = some (some (m, d)) → m ≠ .sh → m ≠ .ow → ∃ a, K i a m d
section
variable {L : Lk} {P : Pg} {call : CallF} {W : WX} {X : Cx} {K : LkS} {Z : Addr → Prop} {ρ ρ1 ρ0 : List Addr} {H H0 H1 : Hp} {T T1 : List Nd} {σ : L2.St} {env : Env} {p : Addr} {o : HO}
theorem SR.er (x : SR L Z H0 ρ0 K σ H env T ρ) : ER L (Zs Z σ env) σ H env T ρ where
  bs := x.bs
  len := x.len
  sl := fun i m d e => by
    obtain ⟨v, h1, h2, h3⟩ := x.sl i m d e
    refine ⟨v, h1, h2, fun n => ?_⟩
    obtain ⟨a, e1, e2, e3, e4⟩ := h3 n
    refine ⟨a, e1, ?_, e2⟩
    by_cases q : m = .ow
    · subst q; exact .inr ⟨i, d, e, by rw [h1, e1]⟩
    · exact .inl (e3 q)
theorem SR.step (x : SR L Z H0 ρ0 K σ H env T ρ) (f : Fr H ρ H1 ρ1) (b : Bs L (Zs Z σ env) ρ1 T1 H1) : SR L Z H0 ρ0 K σ H1 env T1 ρ1 where
  bs := b
  len := x.len
  sl := fun i m d e => by
    obtain ⟨v, h1, h2, h3⟩ := x.sl i m d e
    refine ⟨v, h1, fun q => Rep.sub f.pre (f.hd _) d v (h2 q), fun n => ?_⟩
    obtain ⟨a, e1, e2, e3, e4⟩ := h3 n
    refine ⟨a, e1, f.node x.bs ?_ e2, e3, e4⟩
    by_cases q : m = .ow
    · subst q; exact .inr ⟨i, d, e, by rw [h1, e1]⟩
    · exact .inl (e3 q)
  dj := x.dj
  fr := x.fr.trans f
  lk := x.lk
  fx := x.fx
/-- an object that is no longer hidden, as shared data -/
theorem _root_.Sr.NodeAt.repZ {a : Addr} (hz : ¬ Z a) (hr : a ∉ ρ) : ∀ {d : D}, NodeAt L ρ H (Hd (Zp Z a) ρ H) a d → Rep L ρ (Hd Z ρ H) d (.ref a)
  | .lst l, ⟨vs, e, r⟩ => by
    simp only [Rep]
    exact ⟨a, vs, rfl, Hd.mk e hz hr (by rw [e]; exact id), r.mono (Hd.less fun a z => .inl z)⟩
  | .dic ks ds, ⟨kv, vv, e, r1, r2⟩ => by
    simp only [Rep]
    refine ⟨a, kv, vv, rfl, ⟨?_, e.nd, e.kd, e.ok, e.sz⟩, r1.mono (Hd.less fun a z => .inl z), r2.mono (Hd.less fun a z => .inl z)⟩
    obtain ⟨o, es, ep, q, h1, h2, h3⟩ := e.ob
    exact ⟨o, es, ep, Hd.mk q hz hr (by rw [q]; exact dic_notTb h2), h1, h2, h3⟩
  | .non, h => h.elim | .bl _, h => h.elim | .int _, h => h.elim | .str _, h => h.elim | .tup _, h => h.elim | .fn _, h => h.elim | .own _, h => h.elim | .scr _, h => h.elim
/-- the ends of a statement -/
def RSX (L : Lk) (Z : Addr → Prop) (H0 : Hp) (ρ0 : List Addr) (K : LkS) (W : WX) (D : Ends) (r : RS) : Prop :=
  match r with
  | .nx env T => ∀ σ H ρ, SR L Z H0 ρ0 K σ H env T ρ → D.nx σ H
  | .bk env T => ∀ σ H ρ, SR L Z H0 ρ0 K σ H env T ρ → D.bk σ H
  | .rt d fl T => ∀ v H ρ, Post L Z ρ0 H0 v d fl H T ρ → D.rt v H
  | .ex c fs env T => ∀ σ H ρ cls dd, SR L Z H0 ρ0 K σ H env T ρ → XRep L ρ (Hd (Zs Z σ env) ρ H) H c fs cls dd → W cls dd σ H
  | .no => False
def tS (L : Lk) (P : Pg) (call : CallF) (W : WX) (s : S) : TS := fun D σ H => ∃ Z H0 ρ0 K env T ρ, SR L Z H0 ρ0 K σ H env T ρ ∧ RSX L Z H0 ρ0 K W D (exec P call s env T)
def tSs (L : Lk) (P : Pg) (call : CallF) (W : WX) (s : List S) : TS := fun D σ H => ∃ Z H0 ρ0 K env T ρ, SR L Z H0 ρ0 K σ H env T ρ ∧ RSX L Z H0 ρ0 K W D (execs P call s env T)
/-- an expression, then what follows -/
theorem thenR_RX {α : Type} {D : Ends} {r : R α} {f : α → List Nd → RS} (x : SR L Z H0 ρ0 K σ H env T ρ) (h : RSX L Z H0 ρ0 K W D (thenR env r f)) : RX L (Zs Z σ env) ρ H (fun c d H' => W c d σ H') r fun a T' => RSX L Z H0 ρ0 K W D (f a T') := by
  cases r with
  | ok a T' => exact h
  | ex c fs T' => exact fun cls dd H' ρ' p => h σ H' ρ' cls dd (x.step p.fr p.bs) p.rep
  | no => exact h.elim
theorem pss_nilV : PSs X [] (tSs L P call W []) := impSs pss_nil fun D σ H ⟨Z, H0, ρ0, K, env, T, ρ, x, h⟩ => by
  simp only [execs] at h
  exact h σ H ρ x
theorem pss_consV {st : Stmt} {rest : List Stmt} {s : S} {ss : List S} (h1 : PS X st (tS L P call W s)) (h2 : PSs X rest (tSs L P call W ss)) : PSs X (st :: rest) (tSs L P call W (s :: ss)) :=
  impSs (pss_cons h1 h2) fun D σ H ⟨Z, H0, ρ0, K, env, T, ρ, x, h⟩ => by
    refine ⟨Z, H0, ρ0, K, env, T, ρ, x, ?_⟩
    simp only [execs] at h
    cases q : exec P call s env T with
    | nx e T1 =>
      rw [q] at h
      exact fun σ' H' ρ' x' => ⟨Z, H0, ρ0, K, e, T1, ρ', x', h⟩
    | bk e T1 => rw [q] at h; exact h
    | rt d fl T1 => rw [q] at h; exact h
    | ex c fs e T1 => rw [q] at h; exact h
    | no => rw [q] at h; exact h
theorem ps_passV {pos : Pos} : PS X (.Pass pos) (tS L P call W .pass) := impS ps_pass fun D σ H ⟨Z, H0, ρ0, K, env, T, ρ, x, h⟩ => by
  simp only [exec] at h
  exact h σ H ρ x
theorem ps_brkV {pos : Pos} : PS X (.Break pos) (tS L P call W .brk) := impS ps_break fun D σ H ⟨Z, H0, ρ0, K, env, T, ρ, x, h⟩ => by
  simp only [exec] at h
  exact h σ H ρ x
theorem ps_exprV {e : Expr} {m : M} {pos : Pos} (he : PE X e (tV L P call W m)) (hs : swapsWith e none pos.line X.env = pure false) : PS X (.Expr e pos) (tS L P call W (.expr m)) :=
  impS (ps_expr he hs) fun D σ H ⟨Z, H0, ρ0, K, env, T, ρ, x, h⟩ => by
    simp only [exec] at h
    exact ⟨_, _, _, _, x.er, (thenR_RX x h).imp fun r T1 h1 v H' ρ' p => h1 σ H' ρ' (x.step p.fr p.bs)⟩
/-- the value leaves the frame -/
theorem Post.leave {v : V} {d : D} {fl : Bool} {H' : Hp} {T' : List Nd} {ρ' : List Addr} (x : SR L Z H0 ρ0 K σ H env T ρ) (p : Post L (Zs Z σ env) ρ H v d fl H' T' ρ') : Post L Z ρ0 H0 v d fl H' T' ρ' where
  fr := x.fr.trans p.fr
  bs := p.bs.less fun a z => .inl z
  rep := p.rep.mono (Hd.less fun a z => .inl z)
  new := fun h => by
    obtain ⟨q, e, n, m, b, a⟩ := p.new h
    have lz : ∀ a, Zp Z q a → Zp (Zs Z σ env) q a := fun a z => z.elim (fun z => .inl (.inl z)) .inr
    exact ⟨q, e, Fr.none (f := x.fr) n (fun z => m (p.fr.mem (x.fr.mem z))), m, b.less lz, a.sub (List.prefix_refl _) rfl (Hd.less lz)⟩
theorem ps_retV {e : Expr} {m : M} {pos : Pos} (he : PE X e (tV L P call W m)) : PS X (.Return (some e) pos) (tS L P call W (.ret m)) :=
  impS (ps_ret he) fun D σ H ⟨Z, H0, ρ0, K, env, T, ρ, x, h⟩ => by
    simp only [exec] at h
    exact ⟨_, _, _, _, x.er, (thenR_RX x h).imp fun r T1 h1 v H' ρ' p => h1 v H' ρ' (p.leave x)⟩
theorem ps_retNV {pos : Pos} : PS X (.Return none pos) (tS L P call W .retN) := impS ps_retN fun D σ H ⟨Z, H0, ρ0, K, env, T, ρ, x, h⟩ => by
  simp only [exec] at h
  exact h _ _ _ (Post.leave x (Post.of x.bs (by simp [Rep])))
theorem ps_retOV {i : Nat} {x : Str} {p pos : Pos} (hN : X.N[i]? = some x) (hv : Vis X.env.scope x) (hd : (x == ("__debug__" : Str)) = false) (hcd : (x == ("__classdict__" : Str)) = false) : PS X (.Return (some (.Name x p)) pos) (tS L P call W (.retO i)) :=
  impS (ps_ret (pe_var hN hv hd hcd)) fun D σ H ⟨Z, H0, ρ0, K, env, T, ρ, x, h⟩ => by
    simp only [exec] at h
    cases e : env[i]? with
    | none => rw [e] at h; exact h.elim
    | some o =>
      cases o with
      | none => rw [e] at h; exact h.elim
      | some md =>
        obtain ⟨m, d⟩ := md
        rw [e] at h
        cases m <;> first
          | exact h.elim
          | skip
        obtain ⟨v, h1, _, h3⟩ := x.sl i _ d e
        obtain ⟨a, rfl, n, _, ho⟩ := h3 (by decide)
        obtain ⟨ho1, ho2⟩ := ho rfl
        have za : Zs Z σ env a := .inr ⟨i, d, e, h1⟩
        have lz : ∀ b, Zp Z a b → Zs Z σ env b := fun b z => z.elim .inl fun z => by rw [z]; exact za
        have n' := n.sub (List.prefix_refl _) rfl (Hd.less lz)
        have na : a ∉ ρ := fun m => x.bs.dj a m za
        refine ⟨_, h1, h _ H ρ ⟨x.fr, x.bs.less fun a z => .inl z, ?_, fun _ => ⟨a, rfl, ho1, na, x.bs.less lz, n'⟩⟩⟩
        exact n'.repZ ho2 na
theorem ps_ifV {c : Expr} {a b : List Stmt} {mc : M} {sa sb : List S} {pos : Pos} (hc : PT X c (tB' L P call W mc)) (ha : PSs X a (tSs L P call W sa)) (hb : PSs X b (tSs L P call W sb)) : PS X (.If c a b pos) (tS L P call W (.iff mc sa sb)) :=
  impS (ps_if hc ha hb) fun D σ H ⟨Z, H0, ρ0, K, env, T, ρ, x, h⟩ => by
    simp only [exec] at h
    have h2 := RX.bind (x := opd env mc (ev P call mc env)) (f := Sr.bol) (thenR_RX x h)
    refine ⟨_, _, _, _, x.er, h2.imp fun d T1 h1 => ?_⟩
    obtain ⟨k, e, h3⟩ := h1.bol
    refine ⟨k, e, fun H1 ρ1 f1 b1 => ?_⟩
    cases k with
    | true => rw [if_pos rfl] at h3 ⊢; exact ⟨Z, H0, ρ0, K, env, T1, ρ1, x.step f1 b1, h3⟩
    | false => rw [if_neg (by simp)] at h3 ⊢; exact ⟨Z, H0, ρ0, K, env, T1, ρ1, x.step f1 b1, h3⟩
end
end Sr
end

section
set_option autoImplicit false
set_option linter.all false
set_option Elab.async false
/-! Sr12: stores into slots. -/
namespace Sr
open PySem PySem.Spec PyProof.Rows L2 SeqAt
section
variable {L : Lk} {P : Pg} {call : CallF} {W : WX} {X : Cx} {K : LkS} {Z : Addr → Prop} {ρ ρ1 ρ0 : List Addr} {H H0 H1 : Hp} {T T1 : List Nd} {σ : L2.St} {env : Env} {p : Addr} {o : HO}
theorem zs_put {i : Nat} {d : D} {v : V} {a : Addr} (h : Zs Z (σ.set i (some v)) (env.set i (some (.sh, d))) a) : Zs Z σ env a := by
  rcases h with z | ⟨j, d', e1, e2⟩
  · exact .inl z
  · by_cases q : i = j
    · subst q
      by_cases hl : i < env.length
      · rw [List.getElem?_set_self hl] at e1; cases e1
      · rw [List.getElem?_eq_none (by rw [List.length_set]; omega)] at e1; cases e1
    · rw [List.getElem?_set_ne q] at e1 e2
      exact .inr ⟨j, d', e1, e2⟩
theorem free_lk {i : Nat} {m : Md} {d : D} (h : env.free i = true) (h1 : m ≠ .sh) (h2 : m ≠ .ow) : env[i]? ≠ some (some (m, d)) := fun e => by
  unfold Env.free at h
  rw [e] at h
  cases m <;> first | exact absurd rfl h1 | exact absurd rfl h2 | cases h
theorem SR.lk_set {i : Nat} {b : Option (Md × D)} {v : Option V} (x : SR L Z H0 ρ0 K σ H env T ρ) (hf : env.free i = true) : ∀ (j : Nat) (a : Addr) (m : Md) (d : D), K j a m d → Z a ∧ (env.set i b)[j]? = some (some (m, d)) ∧ (σ.set i v)[j]? = some (some (.ref a)) ∧ m ≠ .sh ∧ m ≠ .ow := fun j a m d k => by
  obtain ⟨h0, h1, h2, h3, h4⟩ := x.lk j a m d k
  have ne : i ≠ j := fun e => by subst e; exact free_lk hf h3 h4 h1
  rw [List.getElem?_set_ne ne, List.getElem?_set_ne ne]
  exact ⟨h0, h1, h2, h3, h4⟩
theorem SR.fx_set {i : Nat} {b : Md × D} (x : SR L Z H0 ρ0 K σ H env T ρ) (hf : env.free i = true) (hb : b.1 = .sh ∨ b.1 = .ow) : ∀ (j : Nat) (m : Md) (d : D), (env.set i (some b))[j]? = some (some (m, d)) → m ≠ .sh → m ≠ .ow → ∃ a, K j a m d := fun j m d e h1 h2 => by
  by_cases q : i = j
  · subst q
    rw [List.getElem?_set_self (free_lt hf)] at e
    cases e
    rcases hb with c | c
    · exact absurd c h1
    · exact absurd c h2
  · rw [List.getElem?_set_ne q] at e
    exact x.fx j m d e h1 h2
theorem SR.put {i : Nat} {d : D} {v : V} (x : SR L Z H0 ρ0 K σ H env T ρ) (r : Rep L ρ (Hd (Zs Z σ env) ρ H) d v) (hf : env.free i = true) : SR L Z H0 ρ0 K (σ.set i (some v)) H (env.set i (some (.sh, d))) T ρ := by
  have h := free_lt hf
  exact {
  bs := x.bs.less fun a => zs_put
  len := by rw [List.length_set, List.length_set]; exact x.len
  sl := fun j m d' e => by
    by_cases q : i = j
    · subst q
      rw [List.getElem?_set_self h] at e
      cases e
      exact ⟨v, by rw [List.getElem?_set_self (x.len ▸ h)], fun _ => r.mono (Hd.less fun a => zs_put), fun n => absurd rfl n⟩
    · rw [List.getElem?_set_ne q] at e ⊢
      obtain ⟨w, h1, h2, h3⟩ := x.sl j m d' e
      refine ⟨w, h1, fun n => (h2 n).mono (Hd.less fun a => zs_put), fun n => ?_⟩
      obtain ⟨a, e1, e2, e3⟩ := h3 n
      exact ⟨a, e1, e2.sub (List.prefix_refl _) rfl (Hd.less fun a => zs_put), e3⟩
  dj := fun j k d1 d2 a e1 e2 e3 e4 => by
    have ne : ∀ {j : Nat} {d1 : D}, (env.set i (some (.sh, d)))[j]? = some (some (Md.ow, d1)) → i ≠ j := fun {j d1} e q => by
      subst q
      rw [List.getElem?_set_self h] at e
      cases e
    have n1 := ne e1
    have n2 := ne e2
    rw [List.getElem?_set_ne n1] at e1 e3
    rw [List.getElem?_set_ne n2] at e2 e4
    exact x.dj j k d1 d2 a e1 e2 e3 e4
  fr := x.fr
  lk := x.lk_set hf
  fx := x.fx_set hf (.inl rfl) }
theorem puts_s {Q : L2.St → Hp → Prop} : ∀ {is : List Nat} {ds : List D} {vs : List V} {σ : L2.St} {env e : Env} {T T' : List Nd}, SR L Z H0 ρ0 K σ H env T ρ → Reps L ρ (Hd (Zs Z σ env) ρ H) ds vs → env.puts is ds T = .ok e T' →
    (∀ σ2, SR L Z H0 ρ0 K σ2 H e T ρ → T' = T → Q σ2 H) → gNames is vs σ H Q
  | [], [], vs, σ, env, e, T, T', x, r, h, k => by
    rw [r.unnil]
    simp only [Env.puts] at h
    cases h
    exact ⟨rfl, k σ x rfl⟩
  | [], d :: ds, vs, σ, env, e, T, T', x, r, h, k => by simp only [Env.puts] at h; cases h
  | i :: is, [], vs, σ, env, e, T, T', x, r, h, k => by simp only [Env.puts] at h; cases h
  | i :: is, d :: ds, vs, σ, env, e, T, T', x, r, h, k => by
    obtain ⟨v, vs, rfl, r1, r2⟩ := r.uncons
    simp only [Env.puts] at h
    obtain ⟨e1, T1, h1, h2⟩ := bind_ok h
    obtain ⟨rfl, hf, rfl⟩ := put_inv h1
    exact ⟨v, vs, rfl, puts_s (x.put r1 hf) (r2.mono (Hd.less fun a => zs_put)) h2 fun σ2 x2 e => k σ2 x2 e⟩
theorem puts_len : ∀ {is : List Nat} {ds : List D} {env e : Env} {T T' : List Nd}, env.puts is ds T = .ok e T' → ds.length = is.length
  | [], [], env, e, T, T', h => rfl
  | [], d :: ds, env, e, T, T', h => by simp only [Env.puts] at h; cases h
  | i :: is, [], env, e, T, T', h => by simp only [Env.puts] at h; cases h
  | i :: is, d :: ds, env, e, T, T', h => by
    simp only [Env.puts] at h
    obtain ⟨e1, T1, h1, h2⟩ := bind_ok h
    rw [List.length_cons, List.length_cons, puts_len h2]
theorem target_s (hK : X.K = L.K) {Q : L2.St → Hp → Prop} {tg : Tg} {d : D} {v : V} {e : Env} {T' : List Nd} (x : SR L Z H0 ρ0 K σ H env T ρ) (r : Rep L ρ (Hd (Zs Z σ env) ρ H) d v) (h : env.target tg d T = .ok e T')
    (k : ∀ σ2, SR L Z H0 ρ0 K σ2 H e T ρ → T' = T → Q σ2 H) : tgG X.K tg v σ H Q := by
  cases tg with
  | nm i =>
    obtain ⟨rfl, hf, rfl⟩ := put_inv (show env.put i (.sh, d) T = .ok e T' by cases d <;> exact h)
    exact k _ (x.put r hf) rfl
  | tp is =>
    cases d <;> first
      | (simp only [Env.target] at h; cases h; done)
      | skip
    case tup ds =>
      simp only [Env.target] at h
      have r' := r
      simp only [Rep] at r'
      obtain ⟨a, vs, rfl, q, rs⟩ := r'
      exact ⟨a, vs, rfl, hK ▸ (Hd.sub _ _ _).sqT q, by rw [rs.length, puts_len h], puts_s x rs h k⟩
theorem target_nox {tg : Tg} {d : D} {c : Nat} {fs : List D} {T T' : List Nd} : env.target tg d T ≠ .ex c fs T' := by
  have put : ∀ {env : Env} {i : Nat} {b : Md × D}, env.put i b T ≠ .ex c fs T' := fun {env i b} h => by
    unfold Env.put at h
    split at h <;> cases h
  have puts : ∀ {is : List Nat} {ds : List D} {env : Env}, env.puts is ds T ≠ .ex c fs T' := by
    intro is
    induction is with
    | nil => intro ds env h; cases ds <;> simp only [Env.puts] at h <;> cases h
    | cons i is ih =>
      intro ds env h
      cases ds with
      | nil => simp only [Env.puts] at h; cases h
      | cons d ds =>
        simp only [Env.puts] at h
        replace h : R.bind (env.put i (.sh, d) T) (fun e => e.puts is ds) = .ex c fs T' := h
        cases q : env.put i (.sh, d) T with
        | ok e T2 =>
          rw [q] at h
          obtain ⟨rfl, _, _⟩ := put_inv q
          exact ih (ds := ds) (env := e) h
        | ex c fs T2 =>
          unfold Env.put at q
          split at q <;> cases q
        | no => rw [q] at h; cases h
  intro h
  cases tg with
  | nm i => exact put (show env.put i (.sh, d) T = .ex c fs T' by cases d <;> exact h)
  | tp is =>
    cases d <;> first
      | exact puts h
      | cases h
theorem asg_read (hK : X.K = L.K) {tg : Tg} {m : M} {D : Ends} (h : tS L P call W (.asg tg m) D σ H) : tAsg (tV L P call W m) (tgG X.K tg) D σ H := by
  obtain ⟨Z, H0, ρ0, K, env, T, ρ, x, h⟩ := h
  simp only [exec] at h
  refine ⟨_, _, _, _, x.er, (thenR_RX x h).imp fun r T1 h1 v H1 ρ1 p => ?_⟩
  have x1 := x.step p.fr p.bs
  cases q : env.target tg r.1 T1 with
  | ok e T2 =>
    rw [q] at h1
    have h1 : RSX L Z H0 ρ0 K W D (.nx e T2) := h1
    refine target_s hK x1 p.rep q fun σ2 x2 e => ?_
    subst e
    exact h1 σ2 H1 ρ1 x2
  | ex c fs T2 => exact absurd q target_nox
  | no => rw [q] at h1; exact h1.elim
theorem zs_zp {a : Addr} : Zs (Zp Z p) σ env a ↔ Zp (Zs Z σ env) p a := by
  constructor
  · rintro ((z | z) | z)
    · exact .inl (.inl z)
    · exact .inr z
    · exact .inl (.inr z)
  · rintro ((z | z) | z)
    · exact .inl (.inl z)
    · exact .inr z
    · exact .inl (.inr z)
/-- no slot holds the object p as its own -/
def NoSl (σ : L2.St) (env : Env) (p : Addr) : Prop := ∀ (j : Nat) (m : Md) (d : D), env[j]? = some (some (m, d)) → m ≠ .sh → σ[j]? ≠ some (some (.ref p))
theorem NoSl.set {i : Nat} {v : V} {b : Md × D} (h : NoSl σ env p) (hv : v ≠ .ref p) (hl : env.length = σ.length) : NoSl (σ.set i (some v)) (env.set i (some b)) p := fun j m d e n q => by
  by_cases c : i = j
  · subst c
    by_cases hi : i < σ.length
    · rw [List.getElem?_set_self hi] at q
      cases q; exact hv rfl
    · rw [List.getElem?_eq_none (by rw [List.length_set]; omega)] at q; cases q
  · rw [List.getElem?_set_ne c] at e q
    exact h j m d e n q
/-- a new object stands loose -/
theorem SR.loose {d : D} {v : V} {H' : Hp} {T' : List Nd} {ρ' : List Addr} (x : SR L Z H0 ρ0 K σ H env T ρ) (q : Post L (Zs Z σ env) ρ H v d true H' T' ρ') :
    ∃ p, v = .ref p ∧ ¬ Z p ∧ H0 p = none ∧ H p = none ∧ NoSl σ env p ∧ SR L (Zp Z p) H0 ρ0 K σ H' env T' ρ' ∧ NodeAt L ρ' H' (Hd (Zs (Zp Z p) σ env) ρ' H') p d := by
  obtain ⟨p, e, hp, hr, b, n⟩ := q.new rfl
  have nz : ¬ Zs Z σ env p := (x.bs.notIn hp).2
  have f := q.fr
  have sub := Sub.trans (f.zp x.bs hp) (Hd.less (Z := Zp (Zs Z σ env) p) (Z' := Zs (Zp Z p) σ env) fun a => zs_zp.mp)
  refine ⟨p, e, fun z => nz (.inl z), Fr.none (f := x.fr) hp (fun z => hr (f.mem (x.fr.mem z))), hp, fun j m d e n q => ?_, ⟨b.less fun a => zs_zp.mp, x.len, fun i m d e => ?_, x.dj, x.fr.trans f, fun i a m d k => ⟨.inl (x.lk i a m d k).1, (x.lk i a m d k).2⟩, x.fx⟩, n.sub (List.prefix_refl _) rfl (Hd.less fun a => zs_zp.mp)⟩
  · obtain ⟨v, h1, _, h3⟩ := x.sl j m d e
    obtain ⟨a, e1, e2, _⟩ := h3 n
    rw [e1, q] at h1
    cases h1
    obtain ⟨u, hu, _⟩ := e2.some
    rw [hp] at hu; cases hu
  obtain ⟨v, h1, h2, h3⟩ := x.sl i m d e
  refine ⟨v, h1, fun q => Rep.sub f.pre sub d v (h2 q), fun n => ?_⟩
  obtain ⟨a, e1, e2, e3, e4⟩ := h3 n
  obtain ⟨u, hu, ht⟩ := e2.some
  have za : Zs Z σ env a := by
    by_cases q : m = .ow
    · subst q; exact .inr ⟨i, d, e, by rw [h1, e1]⟩
    · exact .inl (e3 q)
  refine ⟨a, e1, e2.sub f.pre ?_ sub, fun q => .inl (e3 q), fun q => ⟨(e4 q).1, ?_⟩⟩
  · rw [hu, f.ext a u hu (fun m => x.bs.dj a m za) ht]
  · rintro (z | z)
    · exact (e4 q).2 z
    · subst z; rw [hp] at hu; cases hu
/-- it goes into a slot -/
theorem SR.adopt {d : D} {i : Nat} (x : SR L (Zp Z p) H0 ρ0 K σ H env T ρ) (n : NodeAt L ρ H (Hd (Zs (Zp Z p) σ env) ρ H) p d) (nz : ¬ Z p) (h0 : H0 p = none) (ns : NoSl σ env p) (hf : env.free i = true) : SR L Z H0 ρ0 K (σ.set i (some (.ref p))) H (env.set i (some (.ow, d))) T ρ := by
  have hi := free_lt hf
  have le : ∀ a, Zs Z (σ.set i (some (.ref p))) (env.set i (some (.ow, d))) a → Zs (Zp Z p) σ env a := by
    rintro a (z | ⟨j, d', e1, e2⟩)
    · exact .inl (.inl z)
    · by_cases q : i = j
      · subst q
        rw [List.getElem?_set_self (x.len ▸ hi)] at e2
        cases e2
        exact .inl (.inr rfl)
      · rw [List.getElem?_set_ne q] at e1 e2
        exact .inr ⟨j, d', e1, e2⟩
  refine ⟨x.bs.less le, by rw [List.length_set, List.length_set]; exact x.len, fun j m d' e => ?_, fun j k d1 d2 a e1 e2 e3 e4 => ?_, x.fr, fun i a m d k => ?_, x.fx_set hf (.inr rfl)⟩
  · by_cases q : i = j
    · subst q
      rw [List.getElem?_set_self hi] at e
      cases e
      exact ⟨.ref p, by rw [List.getElem?_set_self (x.len ▸ hi)], fun n => (nomatch n), fun _ => ⟨p, rfl, n.sub (List.prefix_refl _) rfl (Hd.less le), fun z => absurd rfl z, fun _ => ⟨h0, nz⟩⟩⟩
    · rw [List.getElem?_set_ne q] at e ⊢
      obtain ⟨w, h1, h2, h3⟩ := x.sl j m d' e
      refine ⟨w, h1, fun n => (h2 n).mono (Hd.less le), fun nm => ?_⟩
      obtain ⟨a, e1, e2, e3, e4⟩ := h3 nm
      refine ⟨a, e1, e2.sub (List.prefix_refl _) rfl (Hd.less le), fun q => ?_, fun q => ⟨(e4 q).1, fun z => (e4 q).2 (.inl z)⟩⟩
      rcases e3 q with z | z
      · exact z
      · subst z
        exact absurd (by rw [h1, e1]) (ns j m d' e nm)
  · have key : ∀ {k : Nat} {d2 : D}, i ≠ k → env[k]? = some (some (.ow, d2)) → σ[k]? = some (some (.ref p)) → False := fun {k d2} c e q => ns k _ _ e (by decide) q
    by_cases q : i = j
    · subst q
      rw [List.getElem?_set_self (x.len ▸ hi)] at e3
      cases e3
      by_cases c : i = k
      · exact c
      · rw [List.getElem?_set_ne c] at e2 e4
        exact (key c e2 e4).elim
    · rw [List.getElem?_set_ne q] at e1 e3
      by_cases c : i = k
      · subst c
        rw [List.getElem?_set_self (x.len ▸ hi)] at e4
        cases e4
        exact (key q e1 e3).elim
      · rw [List.getElem?_set_ne c] at e2 e4
        exact x.dj j k d1 d2 a e1 e2 e3 e4
  · obtain ⟨g0, g1⟩ := x.lk_set hf i a m d k
    obtain ⟨_, g2, g3, g4, _⟩ := x.lk i a m d k
    refine ⟨?_, g1⟩
    rcases g0 with z | z
    · exact z
    · subst z
      exact absurd g3 (ns i m d g2 g4)
theorem asgO_read {i : Nat} {m : M} {D : Ends} (h : tS L P call W (.asgO i m) D σ H) : tAsg (tV L P call W m) (gName i) D σ H := by
  obtain ⟨Z, H0, ρ0, K, env, T, ρ, x, h⟩ := h
  simp only [exec] at h
  refine ⟨_, _, _, _, x.er, (thenR_RX x h).imp fun r T1 h1 v H1 ρ1 q => ?_⟩
  by_cases c : r.2 = true
  · rw [if_pos c] at h1
    rw [c] at q
    obtain ⟨p, rfl, nz, h0, hp, ns, x1, n⟩ := x.loose q
    cases e : env.put i (.ow, r.1) T1 with
    | ok e2 T2 =>
      rw [e] at h1
      obtain ⟨rfl, hf, rfl⟩ := put_inv e
      exact h1 _ _ _ (x1.adopt n nz h0 ns hf)
    | ex c fs T2 =>
      unfold Env.put at e
      split at e <;> cases e
    | no => rw [e] at h1; exact h1.elim
  · rw [if_neg c] at h1; exact h1.elim
end
end Sr
end

section
set_option autoImplicit false
set_option linter.all false
set_option Elab.async false
/-! Sr13: objects change. -/
namespace Sr
open PySem PySem.Spec PyProof.Rows L2 SeqAt
section
variable {L : Lk} {P : Pg} {call : CallF} {W : WX} {X : Cx} {K : LkS} {Z : Addr → Prop} {ρ ρ1 ρ0 : List Addr} {H H0 H1 : Hp} {T T1 : List Nd} {σ : L2.St} {env : Env} {p : Addr} {o : HO}
/-- an own object has changed -/
theorem SR.upd {i : Nat} {d d' : D} {u : HO} (x : SR L Z H0 ρ0 K σ H env T ρ) (e : env[i]? = some (some (.ow, d))) (hs : σ[i]? = some (some (.ref p))) (n : NodeAt L ρ (L2.upd H p u) (Hd (Zs Z σ env) ρ H) p d') : SR L Z H0 ρ0 K σ (L2.upd H p u) (env.set i (some (.ow, d'))) T ρ := by
  have hp : Zs Z σ env p := .inr ⟨i, d, e, hs⟩
  have hi : i < env.length := (List.getElem?_eq_some_iff.mp e).1
  have old : ∀ {j : Nat} {d1 : D}, (env.set i (some (.ow, d')))[j]? = some (some (Md.ow, d1)) → ∃ d2, env[j]? = some (some (Md.ow, d2)) := fun {j d1} e1 => by
    by_cases q : i = j
    · subst q; exact ⟨d, e⟩
    · rw [List.getElem?_set_ne q] at e1; exact ⟨_, e1⟩
  have le : ∀ a, Zs Z σ (env.set i (some (.ow, d'))) a → Zs Z σ env a := by
    rintro a (z | ⟨j, d1, e1, e2⟩)
    · exact .inl z
    · obtain ⟨d2, e3⟩ := old e1
      exact .inr ⟨j, d2, e3, e2⟩
  obtain ⟨w, h1, _, h3⟩ := x.sl i _ d e
  obtain ⟨a, rfl, _, _, ho⟩ := h3 (by decide)
  rw [hs] at h1
  cases h1
  obtain ⟨h0, nz⟩ := ho rfl
  have ht : ¬ isTb (some u) := by
    obtain ⟨o, q, t⟩ := n.some
    rw [upd_same] at q
    cases q; exact t
  have hh : Hd (Zs Z σ env) ρ (L2.upd H p u) = Hd (Zs Z σ env) ρ H := Hd.updZ hp
  refine ⟨(x.bs.updZ hp ht).less le, by rw [List.length_set]; exact x.len, fun j m d1 e1 => ?_, fun j k d1 d2 a e1 e2 e3 e4 => ?_, x.fr.updN h0, fun j a m d1 k => ?_, fun j m d1 e1 h1 h2 => ?_⟩
  · by_cases q : i = j
    · subst q
      rw [List.getElem?_set_self hi] at e1
      cases e1
      refine ⟨_, hs, fun n => (nomatch n), fun _ => ⟨p, rfl, ?_, fun z => absurd rfl z, fun _ => ⟨h0, nz⟩⟩⟩
      refine n.sub (List.prefix_refl _) rfl ?_
      rw [← hh]
      exact Hd.less le
    · rw [List.getElem?_set_ne q] at e1
      obtain ⟨w, h1, h2, h3⟩ := x.sl j m d1 e1
      refine ⟨w, h1, fun n => (h2 n).mono ?_, fun nm => ?_⟩
      · rw [← hh]; exact Hd.less le
      · obtain ⟨a, g1, g2, g3, g4⟩ := h3 nm
        refine ⟨a, g1, g2.sub (List.prefix_refl _) ?_ (by rw [← hh]; exact Hd.less le), g3, g4⟩
        rw [upd_ne]
        rintro rfl
        by_cases c : m = .ow
        · subst c
          exact q (x.dj i j d d1 a e e1 hs (by rw [h1, g1]))
        · exact nz (g3 c)
  · obtain ⟨f1, e5⟩ := old e1
    obtain ⟨f2, e6⟩ := old e2
    exact x.dj j k _ _ a e5 e6 e3 e4
  · obtain ⟨g0, g1, g2⟩ := x.lk j a m d1 k
    have ne : i ≠ j := fun q => by subst q; rw [e] at g1; cases g1; exact g2.2.2 rfl
    rw [List.getElem?_set_ne ne]
    exact ⟨g0, g1, g2⟩
  · by_cases q : i = j
    · subst q
      rw [List.getElem?_set_self hi] at e1
      cases e1; exact absurd rfl h2
    · rw [List.getElem?_set_ne q] at e1
      exact x.fx j m d1 e1 h1 h2
theorem Hd.updR {a : Addr} (m : a ∈ ρ) : Hd Z ρ (L2.upd H a o) = Hd Z ρ H := by
  funext b
  unfold Hd
  by_cases e : b = a
  · subst e
    rw [if_pos (.inr (.inl m)), if_pos (.inr (.inl m))]
  · rw [upd_ne e]
/-- an object of the store has changed -/
theorem SR.updR {k : Nat} {a : Addr} {n : Nd} {u : HO} (x : SR L Z H0 ρ0 K σ H env T ρ) (hk : ρ[k]? = some a) (nd : NdAt L ρ (L2.upd H a u) (Hd (Zs Z σ env) ρ H) a n) (hw : n.nw = true) : SR L Z H0 ρ0 K σ (L2.upd H a u) env (T.set k n) ρ := by
  have ma : a ∈ ρ := List.mem_of_getElem? hk
  have hh : Hd (Zs Z σ env) ρ (L2.upd H a u) = Hd (Zs Z σ env) ρ H := Hd.updR ma
  have hl : k < T.length := by rw [← x.bs.len]; exact (List.getElem?_eq_some_iff.mp hk).1
  have ta : ¬ isTb (H a) := by
    obtain ⟨o, q, t⟩ := (x.bs.at_ k T[k] a (List.getElem?_eq_getElem hl) hk).some
    rw [q]; exact t
  have tu : ¬ isTb (some u) := by
    obtain ⟨o, q, t⟩ := nd.some
    rw [upd_same] at q
    cases q; exact t
  refine ⟨⟨by rw [List.length_set]; exact x.bs.len, x.bs.nd, x.bs.dj, fun b z => ?_, fun j m b h1 h2 => ?_, ?_, fun n' h => (List.mem_or_eq_of_mem_set h).elim (x.bs.nw n') fun e => e ▸ hw⟩, x.len, fun i m d e => ?_, x.dj, ⟨x.fr.pre, x.fr.new, fun b w h r t => ?_, fun b h => ?_⟩, x.lk, x.fx⟩
  · rw [upd_ne]
    · exact x.bs.zin b z
    · rintro rfl; exact x.bs.dj b ma z
  · rw [hh]
    by_cases c : k = j
    · subst c
      rw [List.getElem?_set_self hl] at h1
      cases h1
      rw [hk] at h2
      cases h2
      exact nd
    · rw [List.getElem?_set_ne c] at h1
      refine (x.bs.at_ j m b h1 h2).sub (List.prefix_refl _) ?_ (Sub.refl _)
      rw [upd_ne]
      rintro rfl
      obtain ⟨g1, g2⟩ := List.getElem?_eq_some_iff.mp hk
      obtain ⟨g3, g4⟩ := List.getElem?_eq_some_iff.mp h2
      exact c ((List.getElem_inj x.bs.nd).mp (g2.trans g4.symm))
  · intro q hq
    obtain ⟨ps, h1, h2, h3⟩ := x.bs.tab q hq
    have ne : ∀ c, isTb (H c) → c ≠ a := fun c h e => ta (e ▸ h)
    refine ⟨ps, by rw [upd_ne (ne _ (by rw [h1]; trivial))]; exact h1, h2, fun pos cv hc => ?_⟩
    obtain ⟨c, e1, e2⟩ := h3 pos cv hc
    exact ⟨c, e1, by rw [upd_ne (ne c (by rw [e2]; exact ⟨c, _, rfl⟩))]; exact e2⟩
  · obtain ⟨v, h1, h2, h3⟩ := x.sl i m d e
    rw [hh]
    refine ⟨v, h1, h2, fun nm => ?_⟩
    obtain ⟨b, g1, g2, g3, g4⟩ := h3 nm
    refine ⟨b, g1, g2.sub (List.prefix_refl _) ?_ (Sub.refl _), g3, g4⟩
    rw [upd_ne]
    rintro rfl
    refine x.bs.dj b ma ?_
    by_cases c : m = .ow
    · subst c; exact .inr ⟨i, d, e, by rw [h1, g1]⟩
    · exact .inl (g3 c)
  · have hb := x.fr.ext b w h r t
    by_cases c : b = a
    · subst c
      have := x.fr.new b ma r
      rw [h] at this; cases this
    · rw [upd_ne c]; exact hb
  · have hb := x.fr.tb b h
    have : b ≠ a := fun c => ta (c ▸ hb)
    rw [upd_ne this]; exact hb
theorem toNd_nw {d : D} {n : Nd} (h : toNd d = some n) : n.nw = true := by
  cases d <;> simp only [toNd] at h <;> first
    | cases h
    | (split at h <;> cases h <;> assumption)
theorem noOwn_nk {d : D} {n : Nd} (h : toNd d = some n) : (∃ l, d = .lst l ∧ n = .lst l) ∨ ∃ ks vs, d = .dic ks vs ∧ n = .dic ks vs := by
  cases d <;> simp only [toNd] at h <;> first
    | cases h
    | (split at h <;> cases h <;> first | exact .inl ⟨_, rfl, rfl⟩ | exact .inr ⟨_, _, rfl, rfl⟩)
/-- the object at hand is changed -/
theorem updO_read {o : M} {xd : D} {v : V} {f : D → Option D} {D : Ends} (x : SR L Z H0 ρ0 K σ H env T ρ) (r : RO L (Zs Z σ env) ρ H xd v) (hv : ∀ i, o = .var i → σ[i]? = some (some v)) (h : RSX L Z H0 ρ0 K W D (updO env o xd T f)) :
    ∃ a d d', v = .ref a ∧ NodeAt L ρ H (Hd (Zs Z σ env) ρ H) a d ∧ f d = some d' ∧ ∀ u, NodeAt L ρ (L2.upd H a u) (Hd (Zs Z σ env) ρ H) a d' → D.nx σ (L2.upd H a u) := by
  have store : ∀ {xd : Sr.D}, RO L (Zs Z σ env) ρ H xd v → RSX L Z H0 ρ0 K W D (thenR env (updT xd f T) fun _ T' => .nx env T') →
      ∃ a d d', v = .ref a ∧ NodeAt L ρ H (Hd (Zs Z σ env) ρ H) a d ∧ f d = some d' ∧ ∀ u, NodeAt L ρ (L2.upd H a u) (Hd (Zs Z σ env) ρ H) a d' → D.nx σ (L2.upd H a u) := by
    intro xd r h
    cases xd <;> first
      | exact h.elim
      | skip
    case own k =>
      obtain ⟨a, ha, rfl⟩ := ro_own r
      unfold updT at h
      simp only at h
      cases e : derefT T (.own k) with
      | none => rw [e] at h; exact h.elim
      | some d =>
        rw [e] at h
        cases e2 : f d with
        | none =>
          rw [show (some d).bind f = none from e2] at h
          exact h.elim
        | some d' =>
          rw [show (some d).bind f = some d' from e2] at h
          simp only at h
          cases e3 : toNd d' with
          | none => rw [e3] at h; exact h.elim
          | some n =>
            rw [e3] at h
            have h : ∀ σ' H' ρ', SR L Z H0 ρ0 K σ' H' env (T.set k n) ρ' → D.nx σ' H' := h
            refine ⟨a, d, d', rfl, ?_, e2, fun u hu => h σ _ ρ (x.updR ha ?_ (toNd_nw e3))⟩
            · simp only [derefT] at e
              cases q : T[k]? with
              | none => rw [q] at e; cases e
              | some n' =>
                rw [q] at e
                have at_ := x.bs.at_ k n' a q ha
                cases n' <;> cases e <;> exact at_
            · rcases noOwn_nk e3 with ⟨l, rfl, rfl⟩ | ⟨ks, vs, rfl, rfl⟩ <;> exact hu
  by_cases hm : ∃ i, o = .var i
  · obtain ⟨i, rfl⟩ := hm
    have hs := hv i rfl
    simp only [updO] at h
    cases e : env[i]? with
    | none => rw [e] at h; exact h.elim
    | some b =>
      cases b with
      | none => rw [e] at h; exact h.elim
      | some md =>
        obtain ⟨m, d⟩ := md
        rw [e] at h
        cases m <;> first
          | exact h.elim
          | skip
        · -- shared
          obtain ⟨w, h1, h2, _⟩ := x.sl i _ d e
          rw [hs] at h1
          cases h1
          exact store (.inl (h2 rfl)) h
        · obtain ⟨w, h1, _, h3⟩ := x.sl i _ d e
          obtain ⟨a, rfl, n, _⟩ := h3 (by decide)
          rw [hs] at h1
          cases h1
          cases e2 : f d with
          | none => simp only [e2] at h; exact h.elim
          | some d' =>
            simp only [e2] at h
            exact ⟨a, d, d', rfl, n, e2, fun u hu => h σ _ ρ (x.upd e hs hu)⟩
  · have : updO env o xd T f = thenR env (updT xd f T) fun _ T' => .nx env T' := by
      cases o <;> first
        | exact absurd ⟨_, rfl⟩ hm
        | rfl
    rw [this] at h
    exact store r h
end
end Sr
end

section
set_option autoImplicit false
set_option linter.all false
set_option Elab.async false
/-! Sr14: x[i] = v, append, extend, op=. -/
namespace Sr
open PySem PySem.Spec PyProof.Rows L2 SeqAt
section
variable {L : Lk} {P : Pg} {call : CallF} {W : WX} {X : Cx} {K : LkS} {Z : Addr → Prop} {ρ ρ1 ρ0 : List Addr} {H H0 H1 : Hp} {T T1 : List Nd} {σ : L2.St} {env : Env} {p : Addr} {o : HO}
/-- a dict's store -/
def SetDic (L : Lk) (X : Cx) : Prop := PSet X fun o i v H Q => ∃ Z ρ T a ks vs di e d', o = .ref a ∧ Bs L Z ρ T H ∧ NodeAt L ρ H (Hd Z ρ H) a (.dic ks vs) ∧ RO L Z ρ H di i ∧ Rep L ρ (Hd Z ρ H) e v ∧ setAt (.dic ks vs) di e = some d' ∧
  ∀ u, NodeAt L ρ (L2.upd H a u) (Hd Z ρ H) a d' → Q (L2.upd H a u)
theorem set_D (hd : SetDic L X) : PSet X fun o i v H Q => ∃ Z ρ T a d di e d', o = .ref a ∧ Bs L Z ρ T H ∧ NodeAt L ρ H (Hd Z ρ H) a d ∧ RO L Z ρ H di i ∧ Rep L ρ (Hd Z ρ H) e v ∧ setAt d di e = some d' ∧
    ∀ u, NodeAt L ρ (L2.upd H a u) (Hd Z ρ H) a d' → Q (L2.upd H a u) := by
  rintro pins s σ H o i v ov iv u Q I ro ri rv ⟨Z, ρ, T, a, d, di, e, d', rfl, b, n, hi, re, es, k⟩
  cases d <;> first
    | exact n.elim
    | skip
  case lst l =>
    cases di <;> first
      | (simp only [setAt] at es; cases es; done)
      | skip
    case int j =>
      simp only [setAt] at es
      obtain ⟨j', e1, rfl⟩ := Option.map_eq_some_iff.mp es
      obtain ⟨vs, hv, rs⟩ := n
      exact set_list pins s σ H _ i v ov iv u Q I ro ri rv ⟨a, vs, j, j', rfl, ro_int hi, hv, by rw [rs.length]; exact e1, k _ ⟨_, upd_same, Reps.set re _ rs⟩⟩
  case dic ks vs => exact hd pins s σ H _ i v ov iv u Q I ro ri rv ⟨Z, ρ, T, a, ks, vs, di, e, d', rfl, b, n, hi, re, es, k⟩
/-- o[i] = e: e first -/
theorem setI_read {mo mi m : M} {D : Ends} (h : tS L P call W (.setI mo mi m) D σ H) : tAsg (tV L P call W m) (gSub (tX L P call W mo) (tO L P call W mi) fun o i v H Q => ∃ Z ρ T a d di e d', o = .ref a ∧ Bs L Z ρ T H ∧ NodeAt L ρ H (Hd Z ρ H) a d ∧ RO L Z ρ H di i ∧ Rep L ρ (Hd Z ρ H) e v ∧ setAt d di e = some d' ∧
    ∀ u, NodeAt L ρ (L2.upd H a u) (Hd Z ρ H) a d' → Q (L2.upd H a u)) D σ H := by
  obtain ⟨Z, H0, ρ0, K, env, T, ρ, x, h⟩ := h
  simp only [exec] at h
  refine ⟨_, _, _, _, x.er, (thenR_RX x h).imp fun r T1 h1 v H1 ρ1 p1 => ?_⟩
  have x1 := x.step p1.fr p1.bs
  refine ⟨_, _, _, _, x1.er, (thenR_RX x1 h1).imp fun xd T2 h2 vo H2 ρ2 p2 hv => ?_⟩
  have x2 := x1.step p2.fr p2.bs
  refine ⟨_, _, _, _, x2.er, (thenR_RX x2 h2).imp fun k T3 h3 vi H3 ρ3 p3 => ?_⟩
  have x3 := x2.step p3.fr p3.bs
  obtain ⟨a, d, d', e1, n, e2, q⟩ := updO_read x3 (p3.fr.ro p2.bs p2.ro) hv h3
  exact ⟨_, ρ3, T3, a, d, k, r.1, d', e1, p3.bs, n, p3.ro, Rep.sub (p2.fr.trans p3.fr).pre ((p2.fr.trans p3.fr).hd _) _ _ p1.rep, e2, q⟩
theorem node_RQ {d : D} {v : V} (b : Bs L Z ρ T H) (h : RO L Z ρ H d v) {d' : D} (e : derefT T d = some d') : RepO L ρ H (Hd Z ρ H) d' v := h.deref b e
theorem tyD_lst {d : D} (h : tyD d = some .list) : (∃ l, d = .lst l) ∨ ∃ ns, d = .scr ns := by
  cases d <;> simp [tyD] at h <;> simp
/-- a list stands there -/
theorem is_list {v : V} {d : D} (b : Bs L Z ρ T H) (h : RO L Z ρ H d v) (e : (derefT T d).bind tyD = some .list) (hK : X.K = L.K) : tyV X.K "list" v H := by
  obtain ⟨d', e1, e2⟩ := Option.bind_eq_some_iff.mp e
  have q := h.deref b e1
  rcases tyD_lst e2 with ⟨l, rfl⟩ | ⟨ns, rfl⟩
  · obtain ⟨a, vs, rfl, hv, _⟩ := rq_lst q
    exact .inl ⟨rfl, vs, SqL.of hv⟩
  · obtain ⟨a, rfl, hv⟩ := rq_scr q
    exact .inl ⟨rfl, _, hK ▸ hv⟩
theorem app_read (hK : X.K = L.K) {mo m : M} {D : Ends} (h : tS L P call W (.app mo m) D σ H) : tDrop (tBM X.K "list" rAppend (tX L P call W mo) (tVs L P call W [m])) D σ H := by
  obtain ⟨Z, H0, ρ0, K, env, T, ρ, x, h⟩ := h
  simp only [exec] at h
  refine ⟨_, _, _, _, x.er, (thenR_RX x h).imp fun xd T1 h1 vo H1 ρ1 p1 hv => ?_⟩
  have x1 := x.step p1.fr p1.bs
  by_cases c : (derefT T1 xd).bind tyD = some .list
  · rw [if_neg (by simp [c])] at h1
    refine ⟨is_list p1.bs p1.ro c hK, _, _, _, _, x1.er, ?_⟩
    simp only [evs]
    have h2 := thenR_RX x1 h1
    cases q : ev P call m env T1 with
    | no => rw [q] at h2; exact h2.elim
    | ex c fs T' =>
      rw [q] at h2
      show RX L _ ρ1 H1 _ (R.bind (ev P call m env T1) _) _
      rw [q]
      exact h2
    | ok r T2 =>
      rw [q] at h2
      show RX L _ ρ1 H1 _ (R.bind (ev P call m env T1) _) _
      rw [q]
      intro vs H2 ρ2 f2 b2 r2
      obtain ⟨v, us, rfl, r3, r4⟩ := Reps.uncons (ds := []) r2
      rw [r4.unnil]
      have x2 := x1.step f2 b2
      obtain ⟨a, d, d', rfl, n, e2, k⟩ := updO_read x2 (f2.ro p1.bs p1.ro) hv h2
      cases d <;> first
        | exact n.elim
        | (simp only [appD] at e2; cases e2; done)
        | skip
      case lst l =>
        simp only [appD] at e2
        split at e2
        · rename_i hz
          cases e2
          obtain ⟨ws, hw, rw'⟩ := n
          exact ⟨a, ws, v, rfl, rfl, hw, by rw [rw'.length, ← SZ_eq]; exact hz, k _ ⟨_, upd_same, rw'.append (.cons r3 .nil)⟩⟩
        · cases e2
  · rw [if_pos (by simp [c])] at h1
    exact h1.elim
theorem ext_read (hK : X.K = L.K) {mo m : M} {D : Ends} (h : tS L P call W (.ext mo m) D σ H) : tDrop (tBM X.K "list" rExtend (tX L P call W mo) (tOs L P call W [m])) D σ H := by
  obtain ⟨Z, H0, ρ0, K, env, T, ρ, x, h⟩ := h
  simp only [exec] at h
  refine ⟨_, _, _, _, x.er, (thenR_RX x h).imp fun xd T1 h1 vo H1 ρ1 p1 hv => ?_⟩
  have x1 := x.step p1.fr p1.bs
  by_cases c : (derefT T1 xd).bind tyD = some .list
  · rw [if_neg (by simp [c])] at h1
    refine ⟨is_list p1.bs p1.ro c hK, _, _, _, _, x1.er, ?_⟩
    simp only [evo]
    have h2 := thenR_RX x1 h1
    cases q : opd env m (ev P call m env) T1 with
    | no => rw [q] at h2; exact h2.elim
    | ex c fs T' =>
      rw [q] at h2
      show RX L _ ρ1 H1 _ (R.bind (opd env m (ev P call m env) T1) _) _
      rw [q]
      exact h2
    | ok r T2 =>
      rw [q] at h2
      show RX L _ ρ1 H1 _ (R.bind (opd env m (ev P call m env) T1) _) _
      rw [q]
      intro vs H2 ρ2 f2 b2 r2
      obtain ⟨v, rfl, r3⟩ := po_one r2
      have x2 := x1.step f2 b2
      obtain ⟨a, d, d', rfl, n, e2, k⟩ := updO_read x2 (f2.ro p1.bs p1.ro) hv h2
      cases d <;> first
        | exact n.elim
        | (simp only [extD] at e2; cases e2; done)
        | skip
      case lst l =>
        cases r <;> first
          | (simp only [extD] at e2; cases e2; done)
          | skip
        case lst l2 =>
          simp only [extD] at e2
          split at e2
          · rename_i hz
            cases e2
            obtain ⟨ws, hw, rw'⟩ := n
            obtain ⟨b, us, rfl, hu, ru⟩ := ro_lst r3
            exact ⟨a, b, ws, us, rfl, rfl, hw, hu, by rw [rw'.length, ru.length, ← SZ_eq]; omega, k _ ⟨_, upd_same, rw'.append ru⟩⟩
          · cases e2
  · rw [if_pos (by simp [c])] at h1
    exact h1.elim
/-- x += e, ints -/
theorem ip_D (op : Operator) (o : O2) (hp : (op = .Add ∧ o = .add) ∨ (op = .Sub ∧ o = .sub)) : PIp X op fun x y H Q => ∃ i j k, x = .int i ∧ y = .int j ∧ binop o (.int i) (.int j) = some (.int k, false) ∧ Q (.int k) H := by
  rintro pins s σ H x y v u Q I r1 r2 ⟨i, j, k, rfl, rfl, e, q⟩
  rcases hp with ⟨rfl, rfl⟩ | ⟨rfl, rfl⟩
  · simp only [binop] at e
    cases e
    exact ip_add pins s σ H _ _ v u Q I r1 r2 ⟨i, j, rfl, rfl, q⟩
  · simp only [binop] at e
    cases e
    exact ip_sub pins s σ H _ _ v u Q I r1 r2 ⟨i, j, rfl, rfl, q⟩
theorem bin_int {o : O2} (ho : o = .add ∨ o = .sub) {x y : D} {z : D × Bool} {k : Int} (e : binop o x y = some z) (ek : z.1 = .int k) : ∃ i j, x = .int i ∧ y = .int j ∧ binop o (.int i) (.int j) = some (.int k, false) := by
  obtain ⟨z1, z2⟩ := z
  simp only at ek
  subst ek
  rcases ho with rfl | rfl
  · cases x <;> cases y <;> simp only [binop] at e <;> first
      | (cases e; exact ⟨_, _, rfl, rfl, rfl⟩)
      | cases e
      | (split at e <;> cases e)
  · cases x <;> cases y <;> simp only [binop] at e <;> first
      | (cases e; exact ⟨_, _, rfl, rfl, rfl⟩)
      | cases e
theorem aug_read {o : O2} (ho : o = .add ∨ o = .sub) {i : Nat} {m : M} {D : Ends} (h : tS L P call W (.aug o i m) D σ H) : tAug i (tO L P call W m) (fun x y H Q => ∃ i j k, x = .int i ∧ y = .int j ∧ binop o (.int i) (.int j) = some (.int k, false) ∧ Q (.int k) H) D σ H := by
  obtain ⟨Z, H0, ρ0, K, env, T, ρ, x, h⟩ := h
  simp only [exec] at h
  unfold Env.look at h
  cases e : env[i]? with
  | none => rw [e] at h; exact h.elim
  | some b =>
    cases b with
    | none => rw [e] at h; exact h.elim
    | some md =>
      obtain ⟨mm, d⟩ := md
      cases mm <;> first
        | (rw [e] at h; exact h.elim)
        | skip
      rw [e] at h
      replace h : RSX L Z H0 ρ0 K W D (thenR env (opd env m (ev P call m env) T) fun y T2 => thenR env (ofO (binop o d y) T2) fun z T3 =>
        match z.1 with
        | .int k => thenR env (env.put i (.sh, .int k) T3) fun e2 T4 => .nx e2 T4
        | _ => .no) := h
      obtain ⟨v, hv, h2, _⟩ := x.sl i _ d e
      refine ⟨v, hv, _, _, _, _, x.er, (thenR_RX x h).imp fun y T2 h3 vy H1 ρ1 p1 => ?_⟩
      have x1 := x.step p1.fr p1.bs
      obtain ⟨z, e2, h4⟩ := (thenR_RX x1 h3).ofO
      obtain ⟨z1, z2⟩ := z
      cases z1 <;> first
        | exact h4.elim
        | skip
      case int k =>
        obtain ⟨a, b, rfl, rfl, e3⟩ := bin_int ho e2 rfl
        replace h4 : RSX L Z H0 ρ0 K W D (thenR env (env.put i (.sh, .int k) T2) fun e2 T4 => .nx e2 T4) := h4
        have ev : v = .int a := by simpa [Rep] using h2 rfl
        refine ⟨a, b, k, ev, ro_int p1.ro, e3, ?_⟩
        cases q : env.put i (.sh, .int k) T2 with
        | ok e5 T5 =>
          rw [q] at h4
          obtain ⟨rfl, hf, rfl⟩ := put_inv q
          exact h4 _ _ _ (x1.put (by simp [Rep]) hf)
        | ex c fs T5 =>
          unfold Env.put at q
          split at q <;> cases q
        | no => rw [q] at h4; exact h4.elim
end
end Sr
end

section
set_option autoImplicit false
set_option linter.all false
set_option Elab.async false
/-! Sr15: for, while. -/
namespace Sr
open PySem PySem.Spec PyProof.Rows L2 SeqAt
section
variable {L : Lk} {P : Pg} {call : CallF} {W : WX} {X : Cx} {K : LkS} {Z : Addr → Prop} {ρ ρ1 ρ2 ρ0 : List Addr} {H H0 H1 H2 : Hp} {T T1 : List Nd} {σ : L2.St} {env : Env} {p : Addr} {o : HO}
theorem setMd_get {env : Env} {m : Md} : ∀ {is : List Nat} {j : Nat}, (env.setMd m is)[j]? = if j ∈ is then (env[j]?).map (Option.map fun b => (m, b.2)) else env[j]? := by
  intro is
  induction is with
  | nil => intro j; simp [Env.setMd]
  | cons i is ih =>
    intro j
    simp only [Env.setMd]
    split
    · rename_i b d e
      by_cases q : i = j
      · subst q
        have hl := (List.getElem?_eq_some_iff.mp e).1
        rw [List.getElem?_set_self hl, if_pos List.mem_cons_self]
        rw [ih] at e
        split at e
        · cases c : env[i]? with
          | none => rw [c] at e; cases e
          | some w =>
            rw [c] at e
            cases w with
            | none => cases e
            | some w => cases e; rfl
        · rw [e]; rfl
      · rw [List.getElem?_set_ne q, ih]
        simp only [List.mem_cons, show ¬ j = i from fun e => q e.symm, false_or]
    · rename_i h
      rw [ih]
      by_cases q : i = j
      · subst q
        rw [if_pos List.mem_cons_self]
        by_cases c : i ∈ is
        · rw [if_pos c]
        · rw [if_neg c]
          rw [ih, if_neg c] at h
          cases e : env[i]? with
          | none => rfl
          | some w =>
            cases w with
            | none => rfl
            | some w => exact absurd e (h w.1 w.2)
      · simp only [List.mem_cons, show ¬ j = i from fun e => q e.symm, false_or]
theorem setMd_len {env : Env} {m : Md} : ∀ {is : List Nat}, (env.setMd m is).length = env.length
  | [] => rfl
  | i :: is => by
    simp only [Env.setMd]
    split
    · rw [List.length_set]; exact setMd_len
    · exact setMd_len
theorem lockOf_ow {env : Env} {i : Nat} : ∀ {it : List M}, i ∈ lockOf env it → ∃ d, env[i]? = some (some (.ow, d))
  | [], h => by simp [lockOf] at h
  | m :: it, h => by
    have ih := @lockOf_ow env i it
    cases m <;> first
      | exact ih h
      | skip
    case var j =>
      simp only [lockOf] at h
      split at h
      · rename_i d e
        rcases List.mem_cons.mp h with q | q
        · subst q; exact ⟨d, e⟩
        · exact ih q
      · exact ih h
/-- the locked objects -/
def Lo (σ : L2.St) (is : List Nat) (a : Addr) : Prop := ∃ i ∈ is, σ[i]? = some (some (.ref a))
/-- the slots' values in a loop's body -/
def KL (K : LkS) (σ : L2.St) (env : Env) (is : List Nat) : LkS := fun i a m d => K i a m d ∨ (i ∈ is ∧ m = .lk ∧ env[i]? = some (some (.ow, d)) ∧ σ[i]? = some (some (.ref a)))
open Classical in
/-- what a loop's body starts from: all but the own objects that are not locked -/
noncomputable def HL (Z : Addr → Prop) (σ : L2.St) (env : Env) (is : List Nat) (H : Hp) : Hp := fun a => if (∃ (i : Nat) (d : D), env[i]? = some (some (.ow, d)) ∧ σ[i]? = some (some (.ref a))) ∧ ¬ Lo σ is a then none else H a
theorem HL.of {is : List Nat} {a : Addr} {o : HO} (h : HL Z σ env is H a = some o) : H a = some o := by
  unfold HL at h
  split at h
  · cases h
  · exact h
theorem HL.eq {is : List Nat} {a : Addr} (h : ¬ ((∃ (i : Nat) (d : D), env[i]? = some (some (.ow, d)) ∧ σ[i]? = some (some (.ref a))) ∧ ¬ Lo σ is a)) : HL Z σ env is H a = H a := by
  unfold HL
  rw [if_neg h]
/-- own objects were not there at the frame's start -/
theorem SR.own0 (x : SR L Z H0 ρ0 K σ H env T ρ) {i : Nat} {d : D} {a : Addr} (e : env[i]? = some (some (.ow, d))) (hs : σ[i]? = some (some (.ref a))) : H0 a = none ∧ ¬ Z a ∧ NodeAt L ρ H (Hd (Zs Z σ env) ρ H) a d := by
  obtain ⟨v, h1, _, h3⟩ := x.sl i _ d e
  obtain ⟨b, rfl, n, _, ho⟩ := h3 (by decide)
  rw [hs] at h1
  cases h1
  exact ⟨(ho rfl).1, (ho rfl).2, n⟩
/-- into a loop's body -/
theorem SR.lock {is : List Nat} (x : SR L Z H0 ρ0 K σ H env T ρ) (hi : ∀ i ∈ is, ∃ d, env[i]? = some (some (.ow, d))) : SR L (fun a => Z a ∨ Lo σ is a) (HL Z σ env is H) ρ (KL K σ env is) σ H (env.setMd .lk is) T ρ := by
  have ow : ∀ {j : Nat} {d : D}, (env.setMd .lk is)[j]? = some (some (Md.ow, d)) → j ∉ is ∧ env[j]? = some (some (.ow, d)) := fun {j d} e => by
    rw [setMd_get] at e
    by_cases c : j ∈ is
    · rw [if_pos c] at e
      cases q : env[j]? with
      | none => rw [q] at e; cases e
      | some w =>
        rw [q] at e
        cases w with
        | none => cases e
        | some w => cases e
    · rw [if_neg c] at e; exact ⟨c, e⟩
  have zs : ∀ a, Zs (fun a => Z a ∨ Lo σ is a) σ (env.setMd .lk is) a → Zs Z σ env a := by
    rintro a ((z | ⟨i, hm, e⟩) | ⟨j, d, e1, e2⟩)
    · exact .inl z
    · obtain ⟨d, e1⟩ := hi i hm
      exact .inr ⟨i, d, e1, e⟩
    · exact .inr ⟨j, d, (ow e1).2, e2⟩
  have nlo : ∀ {j : Nat} {d : D} {a : Addr}, j ∉ is → env[j]? = some (some (.ow, d)) → σ[j]? = some (some (.ref a)) → ¬ Lo σ is a := by
    rintro j d a hj e1 e2 ⟨i, hm, e3⟩
    obtain ⟨d', e4⟩ := hi i hm
    exact hj (x.dj i j d' d a e4 e1 e3 e2 ▸ hm)
  refine ⟨x.bs.less zs, by rw [setMd_len]; exact x.len, fun j m d e => ?_, fun i j d d' a e1 e2 e3 e4 => x.dj i j d d' a (ow e1).2 (ow e2).2 e3 e4, ⟨List.prefix_refl _, fun a h n => absurd h n, fun a o h _ _ => HL.of h, fun a h => ?_⟩, fun i a m d k => ?_, fun j m d e h1 h2 => ?_⟩
  · rw [setMd_get] at e
    by_cases c : j ∈ is
    · rw [if_pos c] at e
      obtain ⟨d0, e0⟩ := hi j c
      rw [e0] at e
      cases e
      obtain ⟨v, h1, _, h3⟩ := x.sl j _ _ e0
      obtain ⟨a, rfl, n, _⟩ := h3 (by decide)
      exact ⟨_, h1, fun q => (nomatch q), fun _ => ⟨a, rfl, n.sub (List.prefix_refl _) rfl (Hd.less zs), fun _ => .inr ⟨j, c, h1⟩, fun q => (nomatch q)⟩⟩
    · rw [if_neg c] at e
      obtain ⟨v, h1, h2, h3⟩ := x.sl j m d e
      refine ⟨v, h1, fun q => (h2 q).mono (Hd.less zs), fun q => ?_⟩
      obtain ⟨a, rfl, n, g3, g4⟩ := h3 q
      refine ⟨a, rfl, n.sub (List.prefix_refl _) rfl (Hd.less zs), fun q => .inl (g3 q), fun q => ?_⟩
      subst q
      have nl := nlo c e h1
      refine ⟨?_, fun z => z.elim (g4 rfl).2 nl⟩
      unfold HL
      rw [if_pos ⟨⟨j, d, e, h1⟩, nl⟩]
  · cases q : HL Z σ env is H a with
    | none => rw [q] at h; exact h.elim
    | some o => rw [q] at h; rw [HL.of q]; exact h
  · rw [setMd_get]
    rcases k with k | ⟨hm, rfl, e1, e2⟩
    · obtain ⟨g0, g1, g2⟩ := x.lk i a m d k
      refine ⟨.inl g0, ?_, g2⟩
      by_cases c : i ∈ is
      · obtain ⟨d', e⟩ := hi i c
        rw [g1] at e; cases e
        exact absurd rfl g2.2.2
      · rw [if_neg c]; exact g1
    · rw [if_pos hm, e1]
      exact ⟨.inr ⟨i, hm, e2⟩, rfl, e2, by decide, by decide⟩
  · rw [setMd_get] at e
    by_cases c : j ∈ is
    · rw [if_pos c] at e
      obtain ⟨d0, e0⟩ := hi j c
      rw [e0] at e
      cases e
      obtain ⟨v, g1, _, g3⟩ := x.sl j _ _ e0
      obtain ⟨a, rfl, _⟩ := g3 (by decide)
      exact ⟨a, .inr ⟨c, rfl, e0, g1⟩⟩
    · rw [if_neg c] at e
      obtain ⟨a, k⟩ := x.fx j m d e h1 h2
      exact ⟨a, .inl k⟩
/-- a body's frame goes on the loop's -/
theorem SR.frC {is : List Nat} (x : SR L Z H0 ρ0 K σ H env T ρ) (f : Fr (HL Z σ env is H) ρ H2 ρ2) : Fr H0 ρ0 H2 ρ2 := by
  have keep : ∀ a o, H0 a = some o → HL Z σ env is H a = H a := fun a o h => HL.eq fun ⟨⟨i, d, e1, e2⟩, _⟩ => by
    have := (x.own0 e1 e2).1
    rw [h] at this; cases this
  refine ⟨x.fr.pre.trans f.pre, fun a h n => ?_, fun a o h n t => ?_, fun a h => ?_⟩
  · by_cases c : a ∈ ρ
    · exact x.fr.new a c n
    · have e := f.new a h c
      cases q : H0 a with
      | none => rfl
      | some o =>
        rw [keep a o q] at e
        rw [← q]
        exact Fr.none (f := x.fr) e n
  · have e := x.fr.ext a o h n t
    refine f.ext a o (by rw [keep a o h]; exact e) (fun m => ?_) t
    have := x.fr.new a m n
    rw [h] at this; cases this
  · cases q : H0 a with
    | none => rw [q] at h; exact h.elim
    | some o =>
      refine f.tb a ?_
      rw [keep a o q]
      exact x.fr.tb a h
/-- back from a loop's body -/
theorem SR.back {is : List Nat} {σ2 : L2.St} {env2 : Env} {T2 : List Nd} (x : SR L Z H0 ρ0 K σ H env T ρ) (hi : ∀ i ∈ is, ∃ d, env[i]? = some (some (.ow, d)))
    (y : SR L (fun a => Z a ∨ Lo σ is a) (HL Z σ env is H) ρ (KL K σ env is) σ2 H2 env2 T2 ρ2) : SR L Z H0 ρ0 K σ2 H2 (env2.setMd .ow is) T2 ρ2 := by
  -- the locked slots
  have lk : ∀ i ∈ is, ∃ d a, env[i]? = some (some (.ow, d)) ∧ σ[i]? = some (some (.ref a)) ∧ env2[i]? = some (some (.lk, d)) ∧ σ2[i]? = some (some (.ref a)) := fun i hm => by
    obtain ⟨d, e⟩ := hi i hm
    obtain ⟨v, h1, _, h3⟩ := x.sl i _ d e
    obtain ⟨a, rfl, _⟩ := h3 (by decide)
    obtain ⟨_, g1, g2, _⟩ := y.lk i a _ d (.inr ⟨hm, rfl, e, h1⟩)
    exact ⟨d, a, e, h1, g1, g2⟩
  have lo : ∀ a, Lo σ is a → ∃ i ∈ is, ∃ d, env2[i]? = some (some (.lk, d)) ∧ σ2[i]? = some (some (.ref a)) ∧ env[i]? = some (some (.ow, d)) ∧ σ[i]? = some (some (.ref a)) := by
    rintro a ⟨i, hm, e⟩
    obtain ⟨d, b, h1, h2, h3, h4⟩ := lk i hm
    rw [e] at h2
    cases h2
    exact ⟨i, hm, d, h3, h4, h1, e⟩
  have get : ∀ {j : Nat} {m : Md} {d : D}, (env2.setMd .ow is)[j]? = some (some (m, d)) → (j ∈ is ∧ m = .ow ∧ env2[j]? = some (some (.lk, d))) ∨ (j ∉ is ∧ env2[j]? = some (some (m, d))) := fun {j m d} e => by
    rw [setMd_get] at e
    by_cases c : j ∈ is
    · rw [if_pos c] at e
      obtain ⟨d', a, _, _, e3, _⟩ := lk j c
      rw [e3] at e
      cases e
      exact .inl ⟨c, rfl, e3⟩
    · rw [if_neg c] at e
      exact .inr ⟨c, e⟩
  have zs : ∀ a, Zs Z σ2 (env2.setMd .ow is) a ↔ Zs (fun a => Z a ∨ Lo σ is a) σ2 env2 a := fun a => by
    constructor
    · rintro (z | ⟨j, d, e1, e2⟩)
      · exact .inl (.inl z)
      · rcases get e1 with ⟨c, _, e3⟩ | ⟨c, e3⟩
        · obtain ⟨d', b, h1, h2, h3, h4⟩ := lk j c
          rw [e2] at h4
          cases h4
          exact .inl (.inr ⟨j, c, h2⟩)
        · exact .inr ⟨j, d, e3, e2⟩
    · rintro ((z | z) | ⟨j, d, e1, e2⟩)
      · exact .inl z
      · obtain ⟨i, hm, d, g1, g2, _⟩ := lo a z
        refine .inr ⟨i, d, ?_, g2⟩
        rw [setMd_get, if_pos hm, g1]; rfl
      · refine .inr ⟨j, d, ?_, e2⟩
        rw [setMd_get]
        by_cases c : j ∈ is
        · obtain ⟨d', b, h1, h2, h3, h4⟩ := lk j c
          rw [e1] at h3; cases h3
        · rw [if_neg c]; exact e1
  have h0 : ∀ {a : Addr}, HL Z σ env is H a = none → a ∉ ρ0 → H0 a = none := fun {a} e n => by
    cases q : H0 a with
    | none => rfl
    | some o =>
      rw [HL.eq (fun ⟨⟨i, d, e1, e2⟩, _⟩ => by have := (x.own0 e1 e2).1; rw [q] at this; cases this)] at e
      rw [← q]
      exact Fr.none (f := x.fr) e n
  have Fc := x.frC y.fr
  have nρ : ∀ {a : Addr}, Zs (fun a => Z a ∨ Lo σ is a) σ2 env2 a → a ∉ ρ0 := fun {a} z m => y.bs.dj a (Fc.mem m) z
  refine ⟨y.bs.less fun a => (zs a).mp, by rw [setMd_len]; exact y.len, fun j m d e => ?_, fun i j d d' a e1 e2 e3 e4 => ?_, Fc, fun i a m d k => ?_, fun j m d e n1 n2 => ?_⟩
  · rcases get e with ⟨c, rfl, e3⟩ | ⟨c, e3⟩
    · obtain ⟨d', a, h1, h2, h3, h4⟩ := lk j c
      obtain ⟨v, g1, _, g3⟩ := y.sl j _ d e3
      obtain ⟨b, rfl, n, _⟩ := g3 (by decide)
      rw [h4] at g1
      cases g1
      rw [e3] at h3
      cases h3
      obtain ⟨o1, o2, _⟩ := x.own0 h1 h2
      exact ⟨_, h4, fun q => (nomatch q), fun _ => ⟨a, rfl, n.sub (List.prefix_refl _) rfl (Hd.less fun a => (zs a).mp), fun q => absurd rfl q, fun _ => ⟨o1, o2⟩⟩⟩
    · obtain ⟨v, g1, g2, g3⟩ := y.sl j m d e3
      refine ⟨v, g1, fun q => (g2 q).mono (Hd.less fun a => (zs a).mp), fun q => ?_⟩
      obtain ⟨a, rfl, n, g4, g5⟩ := g3 q
      refine ⟨a, rfl, n.sub (List.prefix_refl _) rfl (Hd.less fun a => (zs a).mp), fun q => ?_, fun q => ?_⟩
      · rcases g4 q with z | z
        · exact z
        · obtain ⟨b, k⟩ := y.fx j m d e3 (by assumption) q
          obtain ⟨_, _, s2, _⟩ := y.lk j b m d k
          rw [g1] at s2
          cases s2
          rcases k with k | ⟨hm, _⟩
          · exact (x.lk j _ m d k).1
          · exact absurd hm c
      · subst q
        obtain ⟨o1, o2⟩ := g5 rfl
        exact ⟨h0 o1 (nρ (.inr ⟨j, d, e3, g1⟩)), fun z => o2 (.inl z)⟩
  · rcases get e1 with ⟨c1, _, f1⟩ | ⟨c1, f1⟩ <;> rcases get e2 with ⟨c2, _, f2⟩ | ⟨c2, f2⟩
    · obtain ⟨_, b, h1, h2, _, h4⟩ := lk i c1
      obtain ⟨_, b', h1', h2', _, h4'⟩ := lk j c2
      rw [e3] at h4; cases h4
      rw [e4] at h4'; cases h4'
      exact x.dj i j _ _ a h1 h1' h2 h2'
    · obtain ⟨_, b, h1, h2, _, h4⟩ := lk i c1
      rw [e3] at h4; cases h4
      exact absurd (.inr ⟨i, c1, h2⟩) (y.own0 f2 e4).2.1
    · obtain ⟨_, b, h1, h2, _, h4⟩ := lk j c2
      rw [e4] at h4; cases h4
      exact absurd (.inr ⟨j, c2, h2⟩) (y.own0 f1 e3).2.1
    · exact y.dj i j d d' a f1 f2 e3 e4
  · obtain ⟨_, g1, g2⟩ := y.lk i a m d (.inl k)
    obtain ⟨k0, k1, k2⟩ := x.lk i a m d k
    refine ⟨k0, ?_, g2⟩
    rw [setMd_get]
    by_cases c : i ∈ is
    · obtain ⟨d', e⟩ := hi i c
      rw [k1] at e; cases e
      exact absurd rfl k2.2.2
    · rw [if_neg c]; exact g1
  · rcases get e with ⟨_, rfl, _⟩ | ⟨c, e3⟩
    · exact absurd rfl n2
    · obtain ⟨a, k⟩ := y.fx j m d e3 n1 n2
      rcases k with k | ⟨hm, _⟩
      · exact ⟨a, k⟩
      · exact absurd hm c
end
end Sr
end

section
set_option autoImplicit false
set_option linter.all false
set_option Elab.async false
/-! Sr16: for, while. -/
namespace Sr
open PySem PySem.Spec PyProof.Rows L2 SeqAt
section
variable {L : Lk} {P : Pg} {call : CallF} {W : WX} {X : Cx} {K : LkS} {Z : Addr → Prop} {ρ ρ1 ρ2 ρ0 : List Addr} {H H0 H1 H2 : Hp} {T T1 : List Nd} {σ σ2 : L2.St} {env env2 : Env} {p : Addr} {o : HO}
theorem RSX.back {is : List Nat} {D : Ends} (x : SR L Z H0 ρ0 K σ H env T ρ) (hi : ∀ i ∈ is, ∃ d, env[i]? = some (some (.ow, d))) {r : RS} (h : RSX L Z H0 ρ0 K W D (r.unlock is)) (nb : ∀ e T, r ≠ .bk e T) :
    RSX L (fun a => Z a ∨ Lo σ is a) (HL Z σ env is H) ρ (KL K σ env is) W D r := by
  cases r with
  | nx e T2 => exact fun σ2 H2 ρ2 y => h σ2 H2 ρ2 (x.back hi y)
  | bk e T2 => exact absurd rfl (nb e T2)
  | rt d fl T2 =>
    intro v H2 ρ2 y
    refine h v H2 ρ2 ⟨x.frC y.fr, y.bs.less fun a z => .inl z, y.rep.mono (Hd.less fun a z => .inl z), fun q => ?_⟩
    obtain ⟨p, e, n, m, b, a⟩ := y.new q
    have lz : ∀ a, Zp Z p a → Zp (fun a => Z a ∨ Lo σ is a) p a := fun a z => z.elim (fun z => .inl (.inl z)) .inr
    refine ⟨p, e, ?_, m, b.less lz, a.sub (List.prefix_refl _) rfl (Hd.less lz)⟩
    have np : p ∉ ρ0 := fun z => m (y.fr.mem (x.fr.mem z))
    cases q : H0 p with
    | none => rfl
    | some o =>
      rw [HL.eq (fun ⟨⟨i, d, e1, e2⟩, _⟩ => by have := (x.own0 e1 e2).1; rw [q] at this; cases this)] at n
      rw [← q]
      exact Fr.none (f := x.fr) n np
  | ex c fs e T2 =>
    intro σ2 H2 ρ2 cls dd y xr
    have y' := x.back hi y
    refine h σ2 H2 ρ2 cls dd y' ?_
    obtain ⟨h1, h2⟩ := xr
    refine ⟨h1, h2.imp id fun ⟨dx, ns, vs, g1, g2, g3, g4, g5⟩ => ⟨dx, ns, vs, g1, g2, g3, g4, g5.mono ?_⟩⟩
    refine Hd.less fun a z => ?_
    rcases z with z | ⟨j, d, e1, e2⟩
    · exact .inl (.inl z)
    · rw [setMd_get] at e1
      by_cases c : j ∈ is
      · obtain ⟨d0, e0⟩ := hi j c
        obtain ⟨v, g1, _, g3⟩ := x.sl j _ _ e0
        obtain ⟨b, rfl, _⟩ := g3 (by decide)
        obtain ⟨_, _, g6, _⟩ := y.lk j b _ d0 (.inr ⟨c, rfl, e0, g1⟩)
        rw [e2] at g6
        cases g6
        exact .inl (.inr ⟨j, c, g1⟩)
      · rw [if_neg c] at e1
        exact .inr ⟨j, d, e1, e2⟩
  | no => exact h
/-- shared data of the loop's start stand in its body -/
theorem SR.subL {is : List Nat} {T2 : List Nd} (x : SR L Z H0 ρ0 K σ H env T ρ) (y : SR L (fun a => Z a ∨ Lo σ is a) (HL Z σ env is H) ρ (KL K σ env is) σ2 H2 env2 T2 ρ2) (hi : ∀ i ∈ is, ∃ d, env[i]? = some (some (.ow, d))) :
    Sub (Hd (Zs Z σ env) ρ H) (Hd (Zs (fun a => Z a ∨ Lo σ is a) σ2 env2) ρ2 H2) := fun a o h => by
  obtain ⟨e, z, r, t⟩ := Hd.of h
  rw [e] at t
  have hl : HL Z σ env is H a = some o := by rw [HL.eq fun ⟨⟨i, d, e1, e2⟩, _⟩ => z (.inr ⟨i, d, e1, e2⟩)]; exact e
  have e2 := y.fr.ext a o hl r t
  refine Hd.mk e2 ?_ (fun m => by have := y.fr.new a m r; rw [hl] at this; cases this) (by rw [e2]; exact t)
  rintro ((w | ⟨i, hm, w⟩) | ⟨j, d, e3, e4⟩)
  · exact z (.inl w)
  · obtain ⟨d, e3⟩ := hi i hm
    exact z (.inr ⟨i, d, e3, w⟩)
  · have := (y.own0 e3 e4).1
    rw [hl] at this; cases this
theorem lockOf_mem {i : Nat} {d : D} (e : env[i]? = some (some (.ow, d))) : ∀ {it : List M}, M.var i ∈ it → i ∈ lockOf env it
  | m :: it, h => by
    rcases List.mem_cons.mp h with q | q
    · subst q
      simp only [lockOf, e]
      exact List.mem_cons_self
    · have ih := lockOf_mem e q
      cases m <;> first
        | exact ih
        | skip
      case var j =>
        simp only [lockOf]
        split
        · exact List.mem_cons_of_mem _ ih
        · exact ih
/-- the operands stand in the body -/
theorem ros_L {it : List M} {T2 : List Nd} (x : SR L Z H0 ρ0 K σ H env T ρ) (y : SR L (fun a => Z a ∨ Lo σ (lockOf env it) a) (HL Z σ env (lockOf env it) H) ρ (KL K σ env (lockOf env it)) σ2 H2 env2 T2 ρ2) :
    ∀ {ds : List D} {vs : List V}, Paired (ROs L (Zs Z σ env) ρ H σ env it) ds vs → Paired (RO L (Zs (fun a => Z a ∨ Lo σ (lockOf env it) a) σ2 env2) ρ2 H2) ds vs
  | _, _, .nil => .nil
  | d :: _, v :: _, .cons h t => by
    refine .cons ?_ (ros_L x y t)
    have hi : ∀ i ∈ lockOf env it, ∃ d, env[i]? = some (some (.ow, d)) := fun i h => lockOf_ow h
    have sub := x.subL y hi
    rcases h with h | ⟨i, m, a, h1, h2, h3, h4, rfl, z, n⟩
    · exact .inl (Rep.sub y.fr.pre sub _ _ h)
    · refine .inr ⟨a, rfl, ?_⟩
      obtain ⟨u, hu, ht⟩ := n.some
      have za : Z a ∨ Lo σ (lockOf env it) a := by
        by_cases c : m = .ow
        · subst c
          exact .inr ⟨i, lockOf_mem h2 h1, h4⟩
        · obtain ⟨b, k⟩ := x.fx i m d h2 h3 c
          obtain ⟨k1, _, k3, _⟩ := x.lk i b m d k
          rw [h4] at k3
          cases k3
          exact .inl k1
      have hl : HL Z σ env (lockOf env it) H a = some u := by
        rw [HL.eq]
        · exact hu
        · rintro ⟨⟨j, d', e1, e2⟩, nl⟩
          rcases za with z | z
          · exact (x.own0 e1 e2).2.1 z
          · exact nl z
      refine ⟨.inl za, n.sub y.fr.pre ?_ sub⟩
      rw [hu, y.fr.ext a u hl (fun m => x.bs.dj a m z) ht]
/-- .. and a dict's object is the same -/
theorem stay_L {it : List M} {T2 : List Nd} (x : SR L Z H0 ρ0 K σ H env T ρ) (y : SR L (fun a => Z a ∨ Lo σ (lockOf env it) a) (HL Z σ env (lockOf env it) H) ρ (KL K σ env (lockOf env it)) σ2 H2 env2 T2 ρ2) :
    ∀ {ds : List D} {vs : List V}, Paired (ROs L (Zs Z σ env) ρ H σ env it) ds vs → Paired (Stay H H2) ds vs
  | _, _, .nil => .nil
  | d :: _, v :: _, .cons h t => by
    refine .cons ?_ (stay_L x y t)
    have hi : ∀ i ∈ lockOf env it, ∃ d, env[i]? = some (some (.ow, d)) := fun i h => lockOf_ow h
    have sub := x.subL y hi
    rintro ks ws a o es ep rfl rfl ho hd
    rcases h with h | ⟨i, m, a', h1, h2, h3, h4, e', z, n⟩
    · simp only [Rep] at h
      obtain ⟨a', kv, vv, e', q, _⟩ := h
      cases e'
      obtain ⟨o', es', ep', q1, _⟩ := q.ob
      exact (Hd.of (sub _ _ q1)).1.trans ((Hd.of q1).1.symm.trans ho)
    · cases e'
      have za : Z a ∨ Lo σ (lockOf env it) a := by
        by_cases c : m = .ow
        · subst c
          exact .inr ⟨i, lockOf_mem h2 h1, h4⟩
        · obtain ⟨b, k⟩ := x.fx i m _ h2 h3 c
          obtain ⟨k1, _, k3, _⟩ := x.lk i b m _ k
          rw [h4] at k3
          cases k3
          exact .inl k1
      have hl : HL Z σ env (lockOf env it) H a = some (DicO a o) := by
        rw [HL.eq]
        · exact ho
        · rintro ⟨⟨j, d', e1, e2⟩, nl⟩
          rcases za with z | z
          · exact (x.own0 e1 e2).2.1 z
          · exact nl z
      exact y.fr.ext a _ hl (fun m => x.bs.dj a m z) (dic_notTb hd)
theorem forGo_nb {tg : Tg} {body : Env → List Nd → RS} : ∀ {xs : List D} {env : Env} {T : List Nd} (e : Env) (T' : List Nd), forGo tg body xs env T ≠ .bk e T'
  | [], env, T, e, T', h => by simp only [forGo] at h; cases h
  | x :: xs, env, T, e, T', h => by
    simp only [forGo] at h
    split at h
    · split at h
      · exact forGo_nb _ _ h
      · cases h
      · rename_i _ _ _ _ h3
        exact h3 _ _ h
    · cases h
/-- what holds at turn i of a loop -/
def FW (L : Lk) (Z : Addr → Prop) (Hb : Hp) (ρb : List Addr) (K : LkS) (W : WX) (De : Ends) (tg : Tg) (body : Env → List Nd → RS) (xs : List D) : Nat → Nat → L2.St → Hp → Prop := fun i m σ H =>
  m = xs.length - i ∧ i ≤ xs.length ∧ ∃ env T ρ, SR L Z Hb ρb K σ H env T ρ ∧ RSX L Z Hb ρb K W De (forGo tg body (xs.drop i) env T)
theorem for_read (hK : X.K = L.K) {k : Nat} {tg : Tg} {it : List M} {body : List S} {De : Ends} (h : tS L P call W (.forr k tg it body) De σ H) : tFor (tI L P call W it k) (tgG X.K tg) (tSs L P call W body) De σ H := by
  obtain ⟨Z, H0, ρ0, K, env, T, ρ, x, h⟩ := h
  simp only [exec] at h
  refine ⟨_, _, _, _, x.er, (thenR_RX x h).imp fun ds T1 h1 => ?_⟩
  cases ei : items k ds with
  | none => rw [ei] at h1; exact h1.elim
  | some xs =>
  rw [ei] at h1
  refine ⟨xs, rfl, fun vs J H1 ρ1 f1 b1 ros wk => ?_⟩
  have x1 := x.step f1 b1
  have hi : ∀ i ∈ lockOf env it, ∃ d, env[i]? = some (some (.ow, d)) := fun i h => lockOf_ow h
  have h2 := RSX.back x1 hi h1 forGo_nb
  refine ⟨FW L (fun a => Z a ∨ Lo σ (lockOf env it) a) (HL Z σ env (lockOf env it) H1) ρ1 (KL K σ env (lockOf env it)) W De tg (fun e t => execs P call body e t) xs, ⟨xs.length, by omega, Nat.zero_le _, _, T1, ρ1, x1.lock hi, h2⟩, ?_⟩
  rintro i m σ2 H2 ⟨rfl, hle, env2, T2, ρ2, y, hgo⟩
  have wk2 := wk _ ρ2 H2 (ros_L x1 y ros) (stay_L x1 y ros) i
  by_cases hlt : i < xs.length
  · have hd : xs[i]? = some xs[i] := List.getElem?_eq_getElem hlt
    obtain ⟨go, wk3⟩ := wk2.2 _ hd
    refine .inr ⟨go, _, fun σ' H' w => ⟨xs.length - (i + 1), by omega, w⟩, fun v H' yl => ?_⟩
    rw [drop_cons hd] at hgo
    simp only [forGo] at hgo
    obtain ⟨fy, by_, ry⟩ := (wk3 v H' yl).step (Sub.refl _) y.bs
    have y1 := y.step fy by_
    cases q : env2.target tg xs[i] T2 with
    | ex c fs T3 => exact absurd q target_nox
    | no => rw [q] at hgo; exact hgo.elim
    | ok e T3 =>
      rw [q] at hgo
      refine target_s hK y1 ry q fun σ3 y3 e3 => ?_
      subst e3
      refine ⟨_, _, _, _, e, T3, ρ2, y3, ?_⟩
      have hgo : RSX L _ _ _ _ W De (match execs P call body e T3 with
        | .nx e2 T2 => forGo tg (fun e t => execs P call body e t) (xs.drop (i + 1)) e2 T2
        | .bk e2 T2 => .nx e2 T2
        | r => r) := hgo
      cases r : execs P call body e T3 with
      | nx e2 T4 =>
        rw [r] at hgo
        exact fun σ4 H4 ρ4 y4 => ⟨rfl, hlt, e2, T4, ρ4, y4, hgo⟩
      | bk e2 T4 => rw [r] at hgo; exact hgo
      | rt d fl T4 => rw [r] at hgo; exact hgo
      | ex c fs e2 T4 => rw [r] at hgo; exact hgo
      | no => rw [r] at hgo; exact hgo
  · have e : i = xs.length := by omega
    subst e
    refine .inl ⟨wk2.1 (Nat.le_refl _), ?_⟩
    rw [List.drop_length] at hgo
    simp only [forGo] at hgo
    exact hgo σ2 H2 ρ2 y
theorem ps_forV {tgE iter : Expr} {st : List Stmt} {k : Nat} {tg : Tg} {it : List M} {body : List S} {pos : Pos} (hK : X.K = L.K) (hp : PassesOwn (model X.prog X.w) X.A X.env X.xe) (hc : X.calm = true) (hi : PI X tgE iter (tI L P call W it k)) (hg : PG X tgE (tgG X.K tg)) (hb : PSs X st (tSs L P call W body))
    (hs : ∀ x, foldedSetIterable iter X.env x = pure x) : PS X (.For tgE iter st [] pos) (tS L P call W (.forr k tg it body)) :=
  impS (ps_for hp hc hi hg hb hs) fun De σ H h => for_read hK h
theorem while_read {c : M} {body : List S} {De : Ends} (h : tS L P call W (.whl c body) De σ H) : tWhile (tB' L P call W c) (tSs L P call W body) De σ H := by
  obtain ⟨Z, H0, ρ0, K, env, T, ρ, x, h⟩ := h
  simp only [exec] at h
  refine ⟨fun m σ H => ∃ env T ρ, SR L Z H0 ρ0 K σ H env T ρ ∧ RSX L Z H0 ρ0 K W De (whlGo (fun e t => (opd e c (ev P call c e)).bind Sr.bol t) (fun e t => execs P call body e t) m env T), ⟨WF, env, T, ρ, x, h⟩, ?_⟩
  rintro m σ2 H2 ⟨env2, T2, ρ2, y, hg⟩
  cases m with
  | zero => simp only [whlGo] at hg; exact hg.elim
  | succ m =>
    simp only [whlGo] at hg
    have key : RX L (Zs Z σ2 env2) ρ2 H2 (fun c d H' => W c d σ2 H') ((opd env2 c (ev P call c env2)).bind Sr.bol T2) fun b T3 => RSX L Z H0 ρ0 K W De (if b = true then (match execs P call body env2 T3 with
        | .nx e2 T2 => whlGo (fun e t => (opd e c (ev P call c e)).bind Sr.bol t) (fun e t => execs P call body e t) m e2 T2
        | .bk e2 T2 => .nx e2 T2
        | r => r) else .nx env2 T3) := by
      cases q : (opd env2 c (ev P call c env2)).bind Sr.bol T2 with
      | ok b T3 =>
        rw [q] at hg
        cases b <;> exact hg
      | ex cc fs T3 =>
        rw [q] at hg
        exact fun cls dd H' ρ' p => hg σ2 H' ρ' cls dd (y.step p.fr p.bs) p.rep
      | no => rw [q] at hg; exact hg.elim
    have key := RX.bind (x := opd env2 c (ev P call c env2)) (f := Sr.bol) key
    refine ⟨_, _, _, _, y.er, key.imp fun d T3 h1 => ?_⟩
    obtain ⟨b, e, h3⟩ := h1.bol
    refine ⟨b, e, fun H3 ρ3 f3 b3 => ?_⟩
    have y3 := y.step f3 b3
    cases b with
    | false =>
      rw [if_neg (by simp)] at h3
      dsimp only
      rw [if_neg (by simp)]
      exact h3 σ2 H3 ρ3 y3
    | true =>
      rw [if_pos rfl] at h3
      dsimp only
      rw [if_pos rfl]
      refine ⟨fun σ H => ∃ env T ρ, SR L Z H0 ρ0 K σ H env T ρ ∧ RSX L Z H0 ρ0 K W De (whlGo (fun e t => (opd e c (ev P call c e)).bind Sr.bol t) (fun e t => execs P call body e t) m env T), fun σ' H' w => ⟨m, Nat.lt_succ_self m, w⟩, Z, H0, ρ0, K, env2, T3, ρ3, y3, ?_⟩
      cases r : execs P call body env2 T3 with
      | nx e2 T4 =>
        rw [r] at h3
        exact fun σ4 H4 ρ4 y4 => ⟨e2, T4, ρ4, y4, h3⟩
      | bk e2 T4 => rw [r] at h3; exact h3
      | rt d fl T4 => rw [r] at h3; exact h3
      | ex c fs e2 T4 => rw [r] at h3; exact h3
      | no => rw [r] at h3; exact h3
theorem ps_whileV {c : Expr} {st : List Stmt} {mc : M} {body : List S} {pos : Pos} (hp : PassesOwn (model X.prog X.w) X.A X.env X.xe) (hc : PT X c (tB' L P call W mc)) (hb : PSs X st (tSs L P call W body)) : PS X (.While c st [] pos) (tS L P call W (.whl mc body)) :=
  impS (ps_while hp hc hb) fun De σ H h => while_read h
end
end Sr
end

section
set_option autoImplicit false
set_option linter.all false
set_option Elab.async false
/-! Sr17: new objects of the store; a, b = x, y. -/
namespace Sr
open PySem PySem.Spec PyProof.Rows L2 SeqAt
section
variable {L : Lk} {P : Pg} {call : CallF} {W : WX} {X : Cx} {K : LkS} {Z : Addr → Prop} {ρ ρ1 ρ2 ρ0 : List Addr} {H H0 H1 H2 : Hp} {T T1 : List Nd} {σ σ2 : L2.St} {env env2 : Env} {p : Addr} {o : HO}
theorem hd_app : Hd (Zp Z p) ρ H = Hd Z (ρ ++ [p]) H := by
  funext a
  unfold Hd
  have : (Zp Z p a ∨ a ∈ ρ ∨ isTb (H a)) ↔ (Z a ∨ a ∈ ρ ++ [p] ∨ isTb (H a)) := by
    rw [List.mem_append, List.mem_singleton]
    constructor
    · rintro ((z | z) | z | z)
      · exact .inl z
      · exact .inr (.inl (.inr z))
      · exact .inr (.inl (.inl z))
      · exact .inr (.inr z)
    · rintro (z | (z | z) | z)
      · exact .inl (.inl z)
      · exact .inr (.inl z)
      · exact .inl (.inr z)
      · exact .inr (.inr z)
  by_cases c : Zp Z p a ∨ a ∈ ρ ∨ isTb (H a)
  · rw [if_pos c, if_pos (this.mp c)]
  · rw [if_neg c, if_neg fun z => c (this.mpr z)]
theorem pe_newV {e : Expr} {m : M} (he : PE X e (tV L P call W m)) : PE X e (tV L P call W (.new m)) := impE he fun σ H Q ⟨Z, env, T, ρ, er, h⟩ => by
  simp only [ev] at h
  refine ⟨Z, env, T, ρ, er, h.bind.imp fun r T1 h1 v H1 ρ1 q => ?_⟩
  obtain ⟨d, fl⟩ := r
  cases fl with
  | false => exact h1.elim
  | true =>
    have h1 : RX L Z ρ H (fun c d H' => W c d σ H') ((do let o ← newT d; return (o, false) : Mo (Sr.D × Bool)) T1) fun r T' => ∀ v H' ρ', Post L Z ρ H v r.1 r.2 H' T' ρ' → Q v H' := h1
    have h1 := h1.bind
    unfold newT at h1
    cases e : toNd d with
    | none => rw [e] at h1; exact h1.elim
    | some n =>
      rw [e] at h1
      have h1 : ∀ v H' ρ', Post L Z ρ H v (.own T1.length) false H' (T1 ++ [n]) ρ' → Q v H' := h1
      obtain ⟨p, rfl, hp, hr, b, nd⟩ := q.new rfl
      refine h1 _ H1 (ρ1 ++ [p]) ⟨⟨q.fr.pre.trans (List.prefix_append _ _), fun a h n => ?_, q.fr.ext, q.fr.tb⟩, ⟨by rw [List.length_append, List.length_append, b.len]; rfl, ?_, fun a h z => ?_, q.bs.zin, fun k n' a g1 g2 => ?_, b.tab, fun n' h => (List.mem_append.mp h).elim (b.nw n') fun h => (List.mem_singleton.mp h) ▸ toNd_nw e⟩, ?_, fun z => nomatch z⟩
      · rcases List.mem_append.mp h with h | h
        · exact q.fr.new a h n
        · rw [List.mem_singleton.mp h]; exact hp
      · rw [List.nodup_append]
        refine ⟨b.nd, by simp, fun a h c h2 => ?_⟩
        rintro rfl
        rw [List.mem_singleton.mp h2] at h
        exact hr h
      · rcases List.mem_append.mp h with h | h
        · exact q.bs.dj a h z
        · rw [List.mem_singleton.mp h] at z
          exact (er.bs.zin p z).1 hp
      · rw [← hd_app]
        by_cases c : k < T1.length
        · rw [List.getElem?_append_left c] at g1
          rw [List.getElem?_append_left (b.len ▸ c)] at g2
          exact (b.at_ k n' a g1 g2).sub (List.prefix_append _ _) rfl (Sub.refl _)
        · have hk : k = T1.length := by
            have := (List.getElem?_eq_some_iff.mp g1).1
            rw [List.length_append] at this
            simp at this
            omega
          subst hk
          rw [List.getElem?_append_right (Nat.le_refl _), Nat.sub_self] at g1
          rw [← b.len, List.getElem?_append_right (Nat.le_refl _), Nat.sub_self] at g2
          cases g1
          cases g2
          rcases noOwn_nk e with ⟨l, rfl, rfl⟩ | ⟨ks, vs, rfl, rfl⟩ <;> exact nd.sub (List.prefix_append _ _) rfl (Sub.refl _)
      · simp only [Rep]
        refine ⟨p, ?_, rfl⟩
        rw [← b.len, List.getElem?_append_right (Nat.le_refl _), Nat.sub_self]; rfl
/-- an own object becomes shared -/
theorem frz_read {i : Nat} {ss : List S} {De : Ends} (h : tSs L P call W (.frz i :: ss) De σ H) : tSs L P call W ss De σ H := by
  obtain ⟨Z, H0, ρ0, K, env, T, ρ, x, h⟩ := h
  simp only [execs, exec] at h
  cases e : env[i]? with
  | none => rw [e] at h; exact h.elim
  | some b =>
    cases b with
    | none => rw [e] at h; exact h.elim
    | some md =>
      obtain ⟨m, d⟩ := md
      rw [e] at h
      cases m <;> first
        | exact h.elim
        | skip
      replace h : RSX L Z H0 ρ0 K W De (execs P call ss (env.set i (some (.sh, d))) T) := h
      have hi := (List.getElem?_eq_some_iff.mp e).1
      obtain ⟨v, h1, _, h3⟩ := x.sl i _ d e
      obtain ⟨a, rfl, n, _⟩ := h3 (by decide)
      have hf : env.free i = true := by unfold Env.free; rw [e]
      -- the slot forgotten, then stored into
      have x1 : SR L Z H0 ρ0 K σ H (env.set i none) T ρ := by
        have get : ∀ {j : Nat} {b : Md × D}, (env.set i none)[j]? = some (some b) → j ≠ i ∧ env[j]? = some (some b) := fun {j b} q => by
          by_cases c : i = j
          · subst c
            rw [List.getElem?_set_self hi] at q; cases q
          · rw [List.getElem?_set_ne c] at q
            exact ⟨fun z => c z.symm, q⟩
        have le : ∀ a, Zs Z σ (env.set i none) a → Zs Z σ env a := by
          rintro a (z | ⟨j, d, e1, e2⟩)
          · exact .inl z
          · exact .inr ⟨j, d, (get e1).2, e2⟩
        refine ⟨x.bs.less le, by rw [List.length_set]; exact x.len, fun j m d1 e1 => ?_, fun j k d1 d2 a e1 e2 => x.dj j k d1 d2 a (get e1).2 (get e2).2, x.fr, fun j a m d1 k => ?_, fun j m d1 e1 => x.fx j m d1 (get e1).2⟩
        · obtain ⟨v, g1, g2, g3⟩ := x.sl j m d1 (get e1).2
          refine ⟨v, g1, fun q => (g2 q).mono (Hd.less le), fun q => ?_⟩
          obtain ⟨b, rfl, g4, g5⟩ := g3 q
          exact ⟨b, rfl, g4.sub (List.prefix_refl _) rfl (Hd.less le), g5⟩
        · obtain ⟨k0, k1, k2⟩ := x.lk j a m d1 k
          refine ⟨k0, ?_, k2⟩
          rw [List.getElem?_set_ne]
          · exact k1
          · rintro rfl
            rw [e] at k1; cases k1
            exact k2.2.2 rfl
      have nz : ¬ Zs Z σ (env.set i none) a := by
        rintro (z | ⟨j, d1, e1, e2⟩)
        · exact (x.own0 e h1).2.1 z
        · by_cases c : i = j
          · subst c
            rw [List.getElem?_set_self hi] at e1; cases e1
          · rw [List.getElem?_set_ne c] at e1
            exact c (x.dj i j d d1 a e e1 h1 e2)
      have za : Zs Z σ env a := .inr ⟨i, d, e, h1⟩
      have na : a ∉ ρ := fun m => x.bs.dj a m za
      have lz : ∀ b, Zp (Zs Z σ (env.set i none)) a b → Zs Z σ env b := by
        rintro b (z | rfl)
        · rcases z with z | ⟨j, d1, e1, e2⟩
          · exact .inl z
          · refine .inr ⟨j, d1, ?_, e2⟩
            by_cases c : i = j
            · subst c
              rw [List.getElem?_set_self hi] at e1; cases e1
            · rw [List.getElem?_set_ne c] at e1; exact e1
        · exact za
      have r : Rep L ρ (Hd (Zs Z σ (env.set i none)) ρ H) d (.ref a) := (n.sub (List.prefix_refl _) rfl (Hd.less lz)).repZ nz na
      have hs : σ.set i (some (.ref a)) = σ := by
        apply List.ext_getElem?
        intro j
        by_cases c : i = j
        · subst c
          rw [List.getElem?_set_self (x.len ▸ hi), h1]
        · rw [List.getElem?_set_ne c]
      have x2 := x1.put (i := i) r (by unfold Env.free; rw [List.getElem?_set_self hi])
      rw [List.set_set, hs] at x2
      exact ⟨Z, H0, ρ0, K, _, T, ρ, x2, h⟩
/-- a, b = x, y: shared data -/
theorem par_read {i j : Nat} {m1 m2 : M} {De : Ends} (h : tS L P call W (.par [(i, false), (j, false)] [m1, m2]) De σ H) : tPar i j (tCons (tV L P call W m1) (tCons (tV L P call W m2) tNil)) De σ H := by
  obtain ⟨Z, H0, ρ0, K, env, T, ρ, x, h⟩ := h
  simp only [exec, evp] at h
  refine ⟨_, _, _, _, x.er, (thenR_RX x h).bind.imp fun r1 T1 h1 v1 H1 ρ1 q1 => ?_⟩
  have x1 := x.step q1.fr q1.bs
  refine ⟨_, _, _, _, x1.er, ((h1.move q1.fr).bind).bind.imp fun r2 T2 h2 v2 H2 ρ2 q2 => ?_⟩
  have x2 := x1.step q2.fr q2.bs
  refine ⟨v1, v2, rfl, ?_⟩
  have h2 : RSX L Z H0 ρ0 K W De (thenR env (asgs env [(i, false), (j, false)] [r1, r2] T2) fun e2 T2 => .nx e2 T2) := h2
  obtain ⟨d1, f1⟩ := r1
  obtain ⟨d2, f2⟩ := r2
  have e : asgs env [(i, false), (j, false)] [(d1, f1), (d2, f2)] T2 = R.bind (env.put i (.sh, d1) T2) fun e T => R.bind (e.put j (.sh, d2) T) fun e T => .ok e T := rfl
  rw [e] at h2
  cases g1 : env.put i (.sh, d1) T2 with
  | ex c fs T3 =>
    unfold Env.put at g1
    split at g1 <;> cases g1
  | no => rw [g1] at h2; exact h2.elim
  | ok e1 T3 =>
    rw [g1] at h2
    obtain ⟨rfl, hf, rfl⟩ := put_inv g1
    have h2 : RSX L Z H0 ρ0 K W De (thenR env (R.bind (Env.put (env.set i (some (.sh, d1))) j (.sh, d2) T3) fun e T => .ok e T) fun e2 T2 => .nx e2 T2) := h2
    cases g2 : Env.put (env.set i (some (.sh, d1))) j (.sh, d2) T3 with
    | ex c fs T4 =>
      unfold Env.put at g2
      split at g2 <;> cases g2
    | no => rw [g2] at h2; exact h2.elim
    | ok e2 T4 =>
      rw [g2] at h2
      obtain ⟨rfl, hf2, rfl⟩ := put_inv g2
      have x3 := x2.put (v := v1) (Rep.sub q2.fr.pre (q2.fr.hd _) _ _ q1.rep) hf
      exact h2 _ _ _ (x3.put (v := v2) (q2.rep.mono (Hd.less fun a => zs_put)) hf2)
end
end Sr
end

section
set_option autoImplicit false
set_option linter.all false
set_option Elab.async false
/-! Sr18: lambdas. -/
namespace Sr
open PySem PySem.Spec PyProof.Rows L2 SeqAt
section
variable {X : Cx} {pins : List (Addr × Obj)} {σ : L2.St} {H : Hp} {s : Shared}
/-- the lambda is made (as the kit's lam_make2, and: tables and code objects stay such) -/
theorem lam_mk {tl : List (Addr × Str)} {c P : Addr} {prm : Arguments} {bd : Expr} {sc : Scope} {pos : Pos} {E : Value → Shared → Prop} {Q : Value → Shared → Prop} (I : Inv X pins σ H s) (tb : LamX.TabB X.base X.mg c P) (hc0 : X.env.code = .ref c)
    (hm : (P, X.env.qual ++ "<lambda>") ∈ tl) (hu : ∀ p ∈ tl, p.1 = P → p.2 = X.env.qual ++ "<lambda>") (hT : LamX.Tabs tl H) (hdef : defaultsOf prm X.env = ([], [])) (hfree : ∀ y ∈ sc.names, y.2 = .free → ∃ c, X.env.cells.lookup y.1 = some c)
    (h : ∀ (f d : Addr) (pm ctv : Value) (H1 : Hp) (s' : Shared), Inv X pins σ H1 s' → LamX.ExtN H H1 → LamX.Tabs tl H1 → (∀ b, isTb (H b) → isTb (H1 b)) →
      s'.heap.get? f = some (PySem.W.kla_obj "<lambda>" (X.env.qual ++ "<lambda>") prm bd sc (cloFrom X.env.cells sc.names []) pm d ctv) → H1 f = none → f ∉ frs X.stack → H1 d = some (LamX.CodeO d (X.env.qual ++ "<lambda>")) → Q (.ref f) s') :
    wpAny (model X.prog X.w) X.A (eval (.Lambda prm bd sc pos) X.env) Q E s := by
  obtain ⟨ps, hP, ht, ha⟩ := hT _ hm
  have oldP : s.heap.get? P = some { cls := .none, data := .fields ps } := I.hok P _ hP
  have nofr : ∀ f, s.heap.objs.size ≤ f → f ∉ frs X.stack := fun f hf z => (List.mem_cons.mp (I.stkSub _ z)).elim (fun e => Nat.lt_irrefl _ (Nat.lt_of_lt_of_le (show f < s.heap.objs.size from e ▸ I.lt) hf)) (I.nofs hf)
  refine PySem.W.kla_eval hdef ?_
  have bP : s.heap.BuiltinsAt X.mg P := tb.bm.keeps I.bk
  cases hcm : codeAmong pos ps.toList with
  | some cv =>
    obtain ⟨d, rfl, hco⟩ := ha pos cv hcm
    exact PySem.W.kla_makeFunctionHit (mg := X.mg) (c := c) (P := P) (ps := ps) (closure_ok hfree) I.ok.glob (I.mod.glob.keeps I.bk) hc0 (tb.code.keeps I.bk) oldP ht hcm bP fun ctv h' tk hx hsz =>
      h _ d _ ctv H _ (I.kept (t' := tk) fun b o e => Heap.get?_push_of_some _ (hx b o e)) (LamX.ExtN.refl H) hT (fun _ q => q) (Heap.get?_push_size _ rfl) (I.hok.fresh hsz) (nofr _ hsz) hco
  | none =>
    refine PySem.W.kla_makeFunction (mg := X.mg) (c := c) (P := P) (ps := ps) (closure_ok hfree) I.ok.glob (I.mod.glob.keeps I.bk) hc0 (tb.code.keeps I.bk) oldP ht hcm tb.gP bP fun d ctv h' tk hx hge hlt hrec htb => ?_
    obtain ⟨d2, oc, vs, t, e2, hoc, hd, hv⟩ := hrec
    cases e2
    have hsz : s.heap.objs.size ≤ h'.objs.size := Nat.le_trans hge (Nat.le_of_lt hlt)
    have nC : H d = none := I.hok.fresh hge
    have eL : (ps ++ #[rawInt pos.line, rawInt pos.col, .ref d]).toList = ps.toList ++ [rawInt pos.line, rawInt pos.col, .ref d] := by simp
    generalize hq : ps ++ #[rawInt pos.line, rawInt pos.col, .ref d] = qs at eL
    have hE : LamX.ExtN H (upd (upd H P (.tbl qs)) d (LamX.CodeO d (X.env.qual ++ "<lambda>"))) := fun b o e n => by
      have nbP : b ≠ P := fun z => n ps (Option.some.inj (e.symm.trans (z ▸ hP)))
      rw [upd_ne (ne_of_none e nC), upd_ne nbP]; exact e
    have I1 := LamX.inv_table (t' := tk) (more := #[rawInt pos.line, rawInt pos.col, .ref d]) (h' := h'.push (PySem.W.kla_obj "<lambda>" (X.env.qual ++ "<lambda>") prm bd sc (cloFrom X.env.cells sc.names []) ((X.mg "__name__").getD .none) d ctv)) I hP
      (fun b o hb e => Heap.get?_push_of_some _ (hx b o hb e)) (by have := htb; exact Heap.get?_push_of_some _ this) hge ⟨oc, vs, t, Heap.get?_push_of_some _ hoc, hd, hv⟩
    rw [hq] at I1
    refine h h'.objs.size d ((X.mg "__name__").getD .none) ctv _ _ I1 hE (fun p hp => ?_) (fun b q => ?_) (Heap.get?_push_size _ rfl) ?_ (nofr _ hsz) upd_same
    · by_cases hb : p.1 = P
      · rw [hu p hp hb, hb]
        refine ⟨qs, by rw [upd_ne (ne_of_none hP nC), upd_same], by rw [eL]; exact PySem.TriplesOk_snoc _ _ _ _ ht, fun p' cv hcv => ?_⟩
        rw [eL] at hcv
        rcases LamX.among_app _ ht hcv with z | z
        · obtain ⟨c0, e1, e2⟩ := ha p' cv z
          exact ⟨c0, e1, hE _ _ e2 LamX.codeO_ne⟩
        · exact ⟨d, z, upd_same⟩
      · obtain ⟨ps', a1, a2, a3⟩ := hT p hp
        exact ⟨ps', by rw [upd_ne (ne_of_none a1 nC), upd_ne hb]; exact a1, a2, fun p' cv hcv => let ⟨c0, e1, e2⟩ := a3 p' cv hcv; ⟨c0, e1, hE _ _ e2 LamX.codeO_ne⟩⟩
    · by_cases c1 : b = d
      · subst c1; rw [upd_same]; exact ⟨b, _, rfl⟩
      · rw [upd_ne c1]
        by_cases c2 : b = P
        · subst c2; rw [upd_same]; trivial
        · rw [upd_ne c2]; exact q
    · have n1 : h'.objs.size ≠ d := Nat.ne_of_gt hlt
      have n2 : h'.objs.size ≠ P := Nat.ne_of_gt (Nat.lt_of_lt_of_le (Heap.lt_size oldP) hsz)
      rw [upd_ne n1, upd_ne n2]
      exact I.hok.fresh hsz
/-- the lambda's call x(), in the def that got it; σ0: that def's slots -/
theorem pe_act2 {CXg : CXT} {Eg : XK} {Ng : List Str} {qg : Str} {sg : Scope} {g f d : Addr} {cdg pm ctv : Value} {prm : Arguments} {bd : Expr} {sc : Scope} {k i : Nat} {a : Str} {pn : List (Addr × Obj)} {xe : Value → Shared → Prop} {W : WX} {σ0 : L2.St} {tb : TE} {p1 p2 : Pos}
    (I : Inv X pins σ H s) (L : LamX.LamS X.env.scope sc) (hf : s.heap.get? f = some (PySem.W.kla_obj "<lambda>" (X.env.qual ++ "<lambda>") prm bd sc (cloFrom X.env.cells sc.names []) pm d ctv)) (hfn : H f = none) (hfr : f ∉ frs X.stack)
    (hbind : bindArgs (PySem.W.kla_fn "<lambda>" (X.env.qual ++ "<lambda>") prm bd sc (cloFrom X.env.cells sc.names []) pm (.ref d) ctv) ⟨[], []⟩ = pure [])
    (tk : Takes ((cxOf CXg X.prog X.w X.K X.mg X.base Ng qg sg g cdg X.A X.stack s H Eg).tr pn xe) W) (hr : Room (k + 1) (X.A.deeper (envOfC qg sg s.heap.objs.size g cdg)))
    (hbody : ∀ (A : Around) (outer : List PySem.Env) (s : Shared) (H : Hp), Room k (A.deeper (LamX.lamEnv X sc s.heap.objs.size f d)) → PE (LamX.lamCx X A outer s H (fun cls dd H' => W cls dd σ0 H') sc f d) bd tb)
    (hN : Ng[i]? = some a) (hv : Vis sg a) (hd : (a == ("__debug__" : Str)) = false) (hcd : (a == ("__classdict__" : Str)) = false) :
    PE ((cxOf CXg X.prog X.w X.K X.mg X.base Ng qg sg g cdg X.A X.stack s H Eg).tr pn xe) (.Call (.Name a p1) [] [] p2)
      (fun τ HZ Q => τ = σ0 ∧ τ[i]? = some (some (.ref f)) ∧ HZ d = some (LamX.CodeO d (X.env.qual ++ "<lambda>")) ∧ tb σ HZ Q) := by
  refine ⟨fun pinsZ sZ τ HZ Q IZ h => ?_⟩
  obtain ⟨rfl, hs, hc, ht⟩ := h
  refine wpAny_Call_Name_kw (thn ((pe_var (pos := p1) (i := i) hN hv hd hcd).run pinsZ sZ τ HZ (fun v H1 => v = .ref f ∧ H1 = HZ) IZ ⟨.ref f, hs, rfl, rfl⟩) fun u s1 ⟨v, H1, I1, r1, q1⟩ => ?_)
  obtain ⟨rfl, rfl⟩ := q1
  cases (show u = Value.ref f from r1)
  have of1 : s1.heap.get? f = some (PySem.W.kla_obj "<lambda>" (X.env.qual ++ "<lambda>") prm bd sc (cloFrom X.env.cells sc.names []) pm d ctv) := I1.base.keep f _ hf hfn hfr (fun z => nomatch (show f ∈ ([] : List Addr) from z))
  refine PySem.W.callWith_F0 ⟨_, _, _, _, of1⟩ ?_
  have un : Un (frs X.stack) [] H H1 s.heap s1.heap := I1.base
  obtain ⟨⟨oc, vs, t, hoc, hdc, hvc⟩, _, _⟩ := I1.hok d _ hc
  have rc : codeAny (model X.prog X.w) (X.A.deeper (envOfC qg sg s.heap.objs.size g cdg)) (.call (.ref f) ⟨[], []⟩) (CR (L2.CX X.prog X.w) (envOfC qg sg s.heap.objs.size g cdg :: X.stack) X.prog X.w H1 s1 Q (fun cls dd H' => W cls dd τ H')) s1 := by
    refine PySem.W.kla_callFunE hr.depth of1 rfl L.co L.gen rfl ⟨d, oc, vs, t, rfl, hoc, hdc, hvc⟩ ?_
    rw [hbind]
    refine wpAny_pure (wpAny_newFunctionEnv (fun y hy => (L.own y hy).2) (fun y hy => absurd hy (by simp)) (fun h₁ hns hsb => ⟨I1.nolimit.fresh _ hsb, ?_⟩) L.kind)
    show codeAny _ _ (.expr bd (LamX.lamEnv X sc s1.heap.objs.size f d)) _ _
    have kp : ∀ b o, s1.heap.get? b = some o → h₁.get? b = some o := fun b o e => hsb.extBut b o (Nat.ne_of_lt (Heap.lt_size e)) (Heap.get?_push_of_some _ e)
    have J : Inv (LamX.lamCx X (X.A.deeper (envOfC qg sg s.heap.objs.size g cdg)) (envOfC qg sg s.heap.objs.size g cdg :: X.stack) s1 H1 (fun cls dd H' => W cls dd τ H') sc f d) [] σ H1 { s1 with heap := h₁, toks := s1.toks + ([] : List (Str × Value)).length } :=
      LamX.lam_start2 I L I1.env0 hr.hd un hns kp
    refine PySem.W.kla_codeExpr (wpAny_mono ((hbody _ _ s1 H1 (hr.deeper _)).run [] _ _ H1 Q J ht) (fun v s' hq => ?_) fun e s' hq => hq)
    obtain ⟨w', H', J', rv, q⟩ := hq
    exact ⟨w', H', J'.os, J'.bare, J'.base, J'.hok, rv, q⟩
  refine wpAny_call (codeAny_mono rc fun r s' hq => ?_)
  cases r with
  | error e => exact tk e s' (XE.of_call I1 (fun _ _ _ h => h) hq)
  | ok fl =>
    cases fl with
    | ret u => exact I1.after hq
    | next => exact False.elim hq
    | brk => exact False.elim hq
    | cont => exact False.elim hq
end
/-- the clauses of the def that gets the lambda: except e: return name == 'n' -/
inductive HM (X : Cx) (ca : Nat → Addr) (nm : Str) : List ExceptHandler → List (Nat × Str) → Prop
  | nil : HM X ca nm [] []
  | cons {e n : Str} {c j : Nat} {np q1 q2 q3 q4 q5 : Pos} {hds : List ExceptHandler} {cs : List (Nat × Str)} (hc : Names X e (.ref (ca c))) (r : HM X ca nm hds cs) :
    HM X ca nm (.ExceptHandler (some (.Name e np)) none [.Return (some (.Compare (.Name nm q1) [.Eq] [.Constant (.str n) j q2] q3)) q4] q5 :: hds) ((c, n) :: cs)
/-- the classes of errors: which clause takes which -/
def ExmOk (K : PySem.W.Frag) (ca : Nat → Addr) (nc : Nat) : Prop := ∀ c c', c < nc → c' < nc → PySem.W.exmOne K (.ref (ca c)) (.ref (ca c')) = some (c == c' || c' == 0)
abbrev tsL (z : Str) (n : Str) : Addr → Value → Option Addr → TS := fun _ _ _ D σ H => σ[1]? = some (some (.str z)) ∧ D.rt (.bl (z == n)) H
theorem HM.ok {X : Cx} {ca : Nat → Addr} {nm : Str} {z : Str} (hN : X.N[1]? = some nm) (hv : Vis X.env.scope nm) (hd : (nm == ("__debug__" : Str)) = false) (hcd : (nm == ("__classdict__" : Str)) = false) : ∀ {hds : List ExceptHandler} {cs : List (Nat × Str)}, HM X ca nm hds cs →
    HdsOk X hds (cs.map fun p => (.ref (ca p.1), tsL z p.2))
  | _, _, .nil => .nil
  | _, _, .cons (n := n) hc r => by
    refine .cons hc (fun a oe cls d pn _ _ => ?_) (HM.ok hN hv hd hcd r)
    refine impSs (pss_one (ps_ret (pe_cmpR op_eq (pe_var (X := _) (i := 1) hN hv hd hcd) pe_str (by first | exact nobehind _ (by decide) (by decide) | rfl)))) fun D σ H ⟨h1, h2⟩ => ?_
    refine ⟨.str z, h1, rfl, ?_⟩
    have : decide (V.str z = V.str n) = (z == n) := by
      rw [Bool.eq_iff_iff]; simp
    rw [this]
    exact h2
theorem hm_wish {K : PySem.W.Frag} {ca : Nat → Addr} {z n : Str} {nc c : Nat} (hx : ExmOk K ca nc) (hc : c < nc) {De : Ends} {σ : L2.St} {H : Hp} {dd : Option Addr} (hs : σ[1]? = some (some (.str z))) (k : De.rt (.bl (z == n)) H) :
    ∀ {cs : List (Nat × Str)}, (∀ p ∈ cs, p.1 < nc) → lookX c cs = some n → wMany K (fun _ _ _ _ => False) De (cs.map fun p => (.ref (ca p.1), tsL z p.2)) (.ref (ca c)) dd σ H
  | [], _, h => by simp [lookX] at h
  | (c', n') :: cs, hl, h => by
    simp only [lookX] at h
    refine ⟨_, hx c c' hc (hl (c', n') List.mem_cons_self), fun hb _ _ => ?_, fun hb => ?_⟩
    · rw [if_pos hb] at h
      cases h
      exact ⟨hs, k⟩
    · rw [if_neg (by rw [hb]; decide)] at h
      exact hm_wish hx hc hs k (fun p hp => hl p (List.mem_cons_of_mem _ hp)) h
section
variable {L : Lk} {P : Pg} {call : CallF} {W : WX} {X : Cx} {Z : Addr → Prop} {ρ : List Addr} {H H1 : Hp} {T : List Nd} {σ : L2.St} {env : Env}
/-- a heap with a new code object -/
theorem Bs.extN (b : Bs L Z ρ T H) (e : LamX.ExtN H H1) (tb : ∀ a, isTb (H a) → isTb (H1 a)) (t : LamX.Tabs L.tl H1) : Fr H ρ H1 ρ ∧ Bs L Z ρ T H1 := by
  have keep : ∀ a o, H a = some o → ¬ isTb (some o) → H1 a = some o := fun a o h n => e a o h fun ps z => n (by rw [z]; trivial)
  have fr : Fr H ρ H1 ρ := ⟨List.prefix_refl _, fun a h n => absurd h n, fun a o h _ n => keep a o h n, tb⟩
  refine ⟨fr, b.len, b.nd, b.dj, fun a z => ?_, fun k n a h1 h2 => ?_, t, b.nw⟩
  · obtain ⟨g1, g2⟩ := b.zin a z
    cases q : H a with
    | none => exact absurd q g1
    | some o =>
      rw [q] at g2
      rw [keep a o q g2]
      exact ⟨by simp, g2⟩
  · have x := b.at_ k n a h1 h2
    obtain ⟨o, q, t⟩ := x.some
    exact x.sub (List.prefix_refl _) (by rw [q, keep a o q t]) (fr.hd Z)
/-- the context of the def that gets the lambda -/
abbrev cxL (X : Cx) (N : List Str) (x : Str) (sg : Scope) (g : Addr) (cdv : Value) (s : Shared) (H : Hp) : Cx := (cxOf C8.CX0 X.prog X.w X.K X.mg X.base N x sg g cdv X.A X.stack s H C8.E0).nox
/-- f(lambda: body, 'z'), the def of the clauses cs -/
theorem pe_lamV {a x nm z : Str} {f k : Nat} {g c P0 : Addr} {fd : FuncData} {pg : Arguments} {hds : List ExceptHandler} {cs : List (Nat × Str)} {sg : Scope} {prm : Arguments} {bd : Expr} {sc : Scope} {mb : M} {j j6 : Nat} {p p1 p2 p3 p4 p5 p6 p7 lpos pos : Pos} {kws : List (Str × V)} {h0 : ExceptHandler}
    (hlk : P.lks f = some (.raises cs)) (hcs : ∀ q ∈ cs, q.1 < P.nc) (hx : ExmOk X.K L.ca P.nc)
    (hg : Gl X x) (hm : X.mg x = some (.ref g)) (F : FunD X.K x x pg [.Try [.Expr (.Call (.Name a p1) [] [] p2) p4] (h0 :: hds) [] [] p5, .Return (some (.Constant (.bool false) j6 p6)) p7] sg [] kws g fd) (hb : L2.Binds X.K fd [a, nm] []) (Sg : FnScope [a, nm] [a, nm] sg)
    (hva : Vis sg a) (hvn : Vis sg nm) (hM : ∀ Y : Cx, Y.env.scope = sg → Y.mg = X.mg → HM Y L.ca nm (h0 :: hds) cs)
    (TB : LamX.TabB X.base X.mg c P0) (hcode : X.env.code = .ref c) (hmT : (P0, X.env.qual ++ "<lambda>") ∈ L.tl) (hu : ∀ p ∈ L.tl, p.1 = P0 → p.2 = X.env.qual ++ "<lambda>") (hr : Room (k + 2) X.A) (Ls : LamX.LamS X.env.scope sc) (hdef : defaultsOf prm X.env = ([], []))
    (hbind : ∀ (q : Str) (cl : List (Str × Addr)) (pm cv ctv : Value), bindArgs (PySem.W.kla_fn "<lambda>" q prm bd sc cl pm cv ctv) ⟨[], []⟩ = pure [])
    (hbody : ∀ (A : Around) (outer : List PySem.Env) (s : Shared) (H : Hp) (E : XK) (f c' : Addr), Room k (A.deeper (LamX.lamEnv X sc s.heap.objs.size f c')) → PE (LamX.lamCx X A outer s H E sc f c') bd (tV L P call (fun c d _ H => E c d H) mb))
    (hdb : (x == ("__debug__" : Str)) = false) (hd : (a == ("__debug__" : Str)) = false) (hcd : (a == ("__classdict__" : Str)) = false) (hd2 : (nm == ("__debug__" : Str)) = false) (hcd2 : (nm == ("__classdict__" : Str)) = false) :
    PE X (.Call (.Name x p) [.Lambda prm bd sc lpos, .Constant (.str z) j p3] [] pos) (tV L P call W (.lam f mb z)) := by
  refine ⟨fun pins s σ H Q I h => ?_⟩
  obtain ⟨Z, env, T, ρ, er, h⟩ := h
  obtain ⟨oc, od, dV, kV, doc, pm, an, cdv, ct, osl, rfl, lk, hcg, _, _⟩ := F.ex
  refine wpAny_Call_Name_kw (ld_glob I hg hm ?_ hdb)
  refine PySem.W.callWith_K (h₀ := X.base) I.ok.mod.kin F.kp ?_ (by rfl) (by rfl)
  show wpAny _ _ (spliced ((false, eval (.Lambda prm bd sc lpos) X.env) :: (false, eval (.Constant (.str z) j p3) X.env) :: backTo pos (starEach [] X.env))) _ _ s
  refine Calls.spliced_cons (lam_mk I TB hcode hmT hu er.bs.tab hdef (Ls.has I.ok) fun ff c' pm' ctv H1 s' I1 eN T1 tb hf hfn hfr hco => ?_)
  refine Calls.spliced_cons (Calls.Constant_str ?_)
  have I1 : Inv X pins σ H1 { s' with toks := s'.toks + 1 } := I1.tok _
  refine Calls.spliced_nil ⟨I1.kIn, ?_⟩
  obtain ⟨f1, b1⟩ := er.bs.extN eN tb T1
  have er1 := er.step f1 b1
  have rc : codeAny (model X.prog X.w) X.A (.call (.ref g) ⟨[.ref ff, .str z s'.toks], []⟩) (CR C8.CX0 X.stack X.prog X.w H1 { s' with toks := s'.toks + 1 } Q C8.E0) { s' with toks := s'.toks + 1 } := by
    refine LamX.run_ofS (N := [a, nm]) (ps := [a, nm]) (us := [.ref ff, .str z s'.toks]) (vs := [.ref ff, .str z]) lk hcg Sg hr I1.env0 (hb { s' with toks := s'.toks + 1 } [.ref ff, .str z s'.toks] I1.kIn rfl) (.cons rfl (.cons ⟨_, rfl⟩ .nil)) rfl fun hr' => ?_
    have tryR := ps_try_many (X := cxL X [a, nm] x sg g cdv { s' with toks := s'.toks + 1 } H1) (body := [.Expr (.Call (.Name a p1) [] [] p2) p4]) (pos := p5) (Wout := fun _ _ _ _ => False) (l := cs.map fun p => (.ref (L.ca p.1), tsL z p.2))
      (tb := fun W D τ H => τ = [some (.ref ff), some (.str z)] ∧ τ[0]? = some (some (.ref ff)) ∧ H c' = some (LamX.CodeO c' (X.env.qual ++ "<lambda>")) ∧ tV L P call (fun c d _ H' => W c d [some (.ref ff), some (.str z)] H') mb σ H fun _ H' => D.nx [some (.ref ff), some (.str z)] H')
      rfl rfl LamX.takes0 (fun W pn xe tk _ => ?_) (HM.ok (X := cxL X [a, nm] x sg g cdv { s' with toks := s'.toks + 1 } H1) (z := z) rfl hvn hd2 hcd2 (hM _ rfl rfl))
    · refine ⟨_, PSs.nox (pss_cons tryR (pss_one (ps_ret pe_bl))), ?_⟩
      refine ⟨rfl, rfl, hco, Z, env, T, ρ, er1, ?_⟩
      simp only [ev, hlk] at h
      cases q : ev P call mb env T with
      | no => rw [q] at h; exact h.elim
      | ok r T' =>
        rw [q] at h
        have h : ∀ v H' ρ', Post L Z ρ H v (.bl false) false H' T' ρ' → Q v H' := h
        exact fun v H' ρ' p => h _ H' ρ' (Post.after (f1.trans p.fr) (Post.of p.bs (by simp [Rep])))
      | ex c fs T' =>
        rw [q] at h
        by_cases hc : c < P.nc
        · cases e : lookX c cs with
          | none =>
            simp only [lamEnd, if_pos hc, e] at h
            exact h.elim
          | some n =>
            simp only [lamEnd, if_pos hc, e] at h
            have h : ∀ v H' ρ', Post L Z ρ H v (.bl (z == n)) false H' T' ρ' → Q v H' := h
            intro cls dd H' ρ' p
            obtain ⟨rfl, _⟩ := p.rep
            exact hm_wish hx hc rfl (h _ H' ρ' (Post.after (f1.trans p.fr) (Post.of p.bs (by simp [Rep])))) hcs e
        · simp only [lamEnd, if_neg hc] at h
          exact h.elim
    · refine impSs (pss_one (ps_expr (pos := p4) (pe_act2 (CXg := C8.CX0) (Eg := C8.E0) (i := 0) (p1 := p1) (p2 := p2) (σ0 := [some (.ref ff), some (.str z)]) I1 Ls hf hfn hfr (hbind _ _ _ _ _) tk hr' (fun A outer s H hr2 => hbody A outer s H _ ff c' hr2) rfl hva hd hcd) (by rfl))) fun D τ H h => ?_
      obtain ⟨e1, e2, e3, e4⟩ := h
      subst e1
      exact ⟨rfl, e2, e3, e4⟩
  refine wpAny_call (codeAny_mono rc fun r s2 hq => ?_)
  cases r with
  | error e => exact (show False from hq).elim
  | ok fl =>
    cases fl with
    | ret u => exact I1.after hq
    | next => exact False.elim hq
    | brk => exact False.elim hq
    | cont => exact False.elim hq
end
end Sr
end

section
set_option autoImplicit false
set_option linter.all false
set_option Elab.async false
/-! Sr19: raise. -/
namespace Sr
open PySem PySem.Spec PyProof.Rows L2 SeqAt
section
variable {L : Lk} {P : Pg} {call : CallF} {W : WX} {X : Cx} {C : Addr} {bmB : List Value} {B newId initId : String}
/-- X() -/
theorem pmk_own0 {x : Str} {p pos : Pos} (F : ExcBaseFacts B newId initId bmB) (q : PySem.W.excIn X.K C bmB newId = true) (gC : X.mg x = some (.ref C)) (kC : PySem.W.keepIn X.K (.ref C) = true) (r : Raises X (.ref C)) (hg : Gl X x)
    (hdb : (x == ("__debug__" : Str)) = false) : PMk X (.Call (.Name x p) [] [] pos) (fun _ H Q => Q (.ref C) none H) := by
  intro pins s σ H Q I h
  refine wpAny_Call_Name_kw (ld_glob I hg gC ?_ hdb)
  refine PySem.W.callWith_K0 I.kIn kC ?_
  obtain ⟨bm, N, nm, qn, bs, hdct, sn, sub, ab, col, dd, k0, k1, k2, k3, k5, mN, hC, hN, hni, T⟩ := exc_obj I.kIn q
  exact wpAny_call_exc_subT F T hC hN hni (fun h' e hm => mk_of I hm r h (I.hok.gone hm.new)) (by show 0 ≤ sizeLine; exact Nat.zero_le _)
/-- raise X() -/
theorem ps_rse0 {x : Str} {c : Nat} {p pos pos2 : Pos} (hc : X.calm = true) (tk : Takes X W) (F : ExcBaseFacts B newId initId bmB) (q : PySem.W.excIn X.K (L.ca c) bmB newId = true) (gC : X.mg x = some (.ref (L.ca c))) (kC : PySem.W.keepIn X.K (.ref (L.ca c)) = true) (r : Raises X (.ref (L.ca c))) (hg : Gl X x)
    (hdb : (x == ("__debug__" : Str)) = false) : PS X (.Raise (some (.Call (.Name x p) [] [] pos)) none pos2) (tS L P call W (.rse c [])) :=
  impS (ps_raise hc tk (pmk_own0 F q gC kC r hg hdb)) fun D σ H ⟨Z, H0, ρ0, K, env, T, ρ, x, h⟩ => by
    simp only [exec, evs] at h
    exact h σ H ρ _ none x ⟨rfl, .inl rfl⟩
end
end Sr
end

section
set_option autoImplicit false
set_option linter.all false
set_option Elab.async false
/-! Sr20: a def by its body. -/
namespace Sr
open PySem PySem.Spec PyProof.Rows L2 SeqAt
section
variable {L : Lk} {P : Pg} {call : CallF} {W : WX} {X : Cx} {K : LkS} {Z : Addr → Prop} {ρ ρ1 ρ2 ρ0 : List Addr} {H H0 H1 H2 : Hp} {T T1 T0 : List Nd} {σ σ2 : L2.St} {env env2 : Env} {p : Addr} {v : V} {d : D} {fl : Bool}
/-! ### what a call leaves of the store -/
theorem Hd.lessR (h : ∀ a ∈ ρ0, a ∈ ρ) : Sub (Hd Z ρ H) (Hd Z ρ0 H) := fun a o e => by
  obtain ⟨e, z, r, t⟩ := Hd.of e
  exact Hd.mk e z (fun q => r (h a q)) t
theorem NodeAt.reown {a : Addr} {Hc Hc' : Hp} (s : Sub Hc Hc') : ∀ {d : D}, d.noOwn = true → NodeAt L ρ H Hc a d → NodeAt L ρ0 H Hc' a d
  | .lst l, n, ⟨vs, e, r⟩ => ⟨vs, e, (Reps.reown _ _ (by simpa [D.noOwn] using n) r).mono s⟩
  | .dic ks ds, n, ⟨kv, vv, e, r1, r2⟩ => by
    simp only [D.noOwn, Bool.and_eq_true] at n
    exact ⟨kv, vv, e, (Reps.reown _ _ n.1 r1).mono s, (Reps.reown _ _ n.2 r2).mono s⟩
  | .non, _, h => h | .bl _, _, h => h | .int _, _, h => h | .str _, _, h => h | .tup _, _, h => h | .fn _, _, h => h | .own _, _, h => h | .scr _, _, h => h
theorem NdAt.reown {a : Addr} {Hc Hc' : Hp} (s : Sub Hc Hc') : ∀ {n : Nd}, n.nw = true → n.isIns = false → NdAt L ρ H Hc a n → NdAt L ρ0 H Hc' a n
  | .lst l, w, _, x => NodeAt.reown (d := .lst l) s (by simpa [D.noOwn, Nd.nw] using w) x
  | .dic ks ds, w, _, x => NodeAt.reown (d := .dic ks ds) s (by simpa [D.noOwn, Nd.nw] using w) x
  | .ins c fs, _, i, _ => by simp [Nd.isIns] at i
theorem pre_take {ρ0 ρ : List Addr} (h : ρ0 <+: ρ) {k : Nat} {a : Addr} (e : ρ0[k]? = some a) : ρ[k]? = some a := pre_get h e
theorem Bs.trim (b : Bs L Z ρ T H) (h : ρ0 <+: ρ) (n : Nat) (hn : ρ0.length = n) (hi : ((T.take n).any Nd.isIns) = false) : Bs L Z ρ0 (T.take n) H where
  len := by
    have := h.length_le
    have := b.len
    rw [List.length_take]; omega
  nd := h.sublist.nodup b.nd
  dj := fun a m => b.dj a (h.subset m)
  zin := b.zin
  at_ := fun k nd a h1 h2 => by
    have hk := (List.getElem?_eq_some_iff.mp h2).1
    rw [List.getElem?_take, if_pos (by omega)] at h1
    have x := b.at_ k nd a h1 (pre_take h h2)
    refine x.reown (Hd.lessR fun a m => h.subset m) (b.nw nd (List.mem_of_getElem? h1)) ?_
    have := (List.any_eq_false.mp hi) nd (List.mem_of_getElem? (i := k) (by rw [List.getElem?_take, if_pos (by omega)]; exact h1))
    simpa using this
  tab := b.tab
  nw := fun n' m => b.nw n' (List.mem_of_mem_take m)
theorem Fr.trim (f : Fr H0 ρ0 H ρ) : Fr H0 ρ0 H ρ0 := ⟨List.prefix_refl _, fun _ h n => absurd h n, f.ext, f.tb⟩
theorem Post.trim (x : Post L Z ρ0 H0 v d fl H T ρ) (n : Nat) (hn : ρ0.length = n) (hd : d.noOwn = true) (hi : ((T.take n).any Nd.isIns) = false) : Post L Z ρ0 H0 v d fl H (T.take n) ρ0 where
  fr := x.fr.trim
  bs := x.bs.trim x.fr.pre n hn hi
  rep := (Rep.reown _ _ hd x.rep).mono (Hd.lessR fun a m => x.fr.pre.subset m)
  new := fun q => by
    obtain ⟨p, e, h1, h2, b, a⟩ := x.new q
    exact ⟨p, e, h1, fun m => h2 (x.fr.pre.subset m), b.trim x.fr.pre n hn hi, a.reown (Hd.lessR fun a m => x.fr.pre.subset m) hd⟩
theorem trimT_cases (n : Nat) (d : D) (T : List Nd) : (trimT n d T = T) ∨ (trimT n d T = T.take n ∧ d.noOwn = true ∧ ((T.take n).any Nd.isIns) = false) := by
  unfold trimT
  split
  · rename_i h
    simp only [Bool.and_eq_true, Bool.not_eq_true'] at h
    exact .inr ⟨rfl, h.1, h.2⟩
  · exact .inl rfl
theorem Post.trimT (x : Post L Z ρ0 H0 v d fl H T ρ) (n : Nat) (hn : ρ0.length = n) : ∃ ρ', Post L Z ρ0 H0 v d fl H (trimT n d T) ρ' := by
  rcases trimT_cases n d T with e | ⟨e, h1, h2⟩
  · rw [e]; exact ⟨ρ, x⟩
  · rw [e]; exact ⟨ρ0, x.trim n hn h1 h2⟩
/-! ### entering -/
/-- the arguments that are lent -/
def K0 (env : Env) (σ : L2.St) : LkS := fun i a m d => m = .br ∧ env[i]? = some (some (.br, d)) ∧ σ[i]? = some (some (.ref a))
theorem init_get {F : Fn} {args : List (Md × D)} {i : Nat} {b : Md × D} (h : (initEnv F args)[i]? = some (some b)) : args[i]? = some b := by
  unfold initEnv at h
  by_cases c : i < args.length
  · rw [List.getElem?_append_left (by simpa using c), List.getElem?_map] at h
    cases q : args[i]? with
    | none => rw [q] at h; cases h
    | some w => rw [q] at h; cases h; rfl
  · rw [List.getElem?_append_right (by simpa using c)] at h
    obtain ⟨h1, h2⟩ := List.getElem?_eq_some_iff.mp h
    rw [List.getElem_replicate] at h2
    cases h2
theorem paired_get {α β : Type} {R : α → β → Prop} : ∀ {xs : List α} {ys : List β} {i : Nat} {a : α}, Paired R xs ys → xs[i]? = some a → ∃ b, ys[i]? = some b ∧ R a b
  | _, _, _, _, .nil, h => by simp at h
  | _, _, 0, _, .cons r t, h => by simp at h; subst h; exact ⟨_, rfl, r⟩
  | _, _, i + 1, _, .cons r t, h => by
    obtain ⟨b, h1, h2⟩ := paired_get t (i := i) (by simpa using h)
    exact ⟨b, by simpa using h1, h2⟩
theorem paired_len {α β : Type} {R : α → β → Prop} : ∀ {xs : List α} {ys : List β}, Paired R xs ys → ys.length = xs.length
  | _, _, .nil => rfl
  | _, _, .cons r t => by simp [paired_len t]
theorem SR.enter {F : Fn} {N : List Str} {args : List (Md × D)} {vs : List V} (b : Bs L Z ρ T H) (ha : Paired (ArgOk L Z ρ H) args vs) (hl : args.length = F.np) (hN : N.length = F.ns) : SR L Z H ρ (K0 (initEnv F args) (L2.start N vs)) (L2.start N vs) H (initEnv F args) T ρ := by
  have vl := paired_len ha
  have get : ∀ {i : Nat} {m : Md} {d : D}, (initEnv F args)[i]? = some (some (m, d)) → ∃ v, (L2.start N vs)[i]? = some (some v) ∧ ArgOk L Z ρ H (m, d) v := fun {i m d} h => by
    obtain ⟨v, h1, h2⟩ := paired_get ha (init_get h)
    refine ⟨v, ?_, h2⟩
    unfold L2.start
    rw [List.getElem?_append_left (by simpa using (List.getElem?_eq_some_iff.mp h1).1), List.getElem?_map, h1]; rfl
  have now : ∀ {i : Nat} {d : D}, (initEnv F args)[i]? ≠ some (some (Md.ow, d)) := fun {i d} h => by
    obtain ⟨v, _, h2⟩ := get h
    rcases h2 with ⟨h2, _⟩ | ⟨h2, _⟩ <;> cases h2
  have zs : ∀ a, Zs Z (L2.start N vs) (initEnv F args) a → Z a := by
    rintro a (z | ⟨i, d, e, _⟩)
    · exact z
    · exact absurd e now
  refine ⟨b.less zs, ?_, fun i m d h => ?_, fun i j d d' a h => absurd h now, Fr.refl _ _, fun i a m d ⟨h1, h2, h3⟩ => ?_, fun i m d h n1 n2 => ?_⟩
  · unfold initEnv L2.start
    rw [List.length_append, List.length_append, List.length_map, List.length_map, List.length_replicate, List.length_replicate, vl, hl, hN]
  · obtain ⟨v, h1, h2⟩ := get h
    refine ⟨v, h1, fun q => ?_, fun q => ?_⟩
    · rcases h2 with ⟨_, h2⟩ | ⟨h2, _⟩
      · exact h2.mono (Hd.less zs)
      · subst q; cases h2
    · rcases h2 with ⟨h2, _⟩ | ⟨h2, a, h3, h4, h5⟩
      · exact absurd h2 q
      · refine ⟨a, h3, h5.sub (List.prefix_refl _) rfl (Hd.less zs), fun _ => h4, fun q => ?_⟩
        subst q; cases h2
  · subst h1
    obtain ⟨v, g1, g2⟩ := get h2
    rcases g2 with ⟨g2, _⟩ | ⟨_, a', g3, g4, _⟩
    · cases g2
    · subst g3
      rw [h3] at g1
      cases g1
      exact ⟨g4, h2, h3, by decide, by decide⟩
  · obtain ⟨v, g1, g2⟩ := get h
    rcases g2 with ⟨g2, _⟩ | ⟨g2, a', g3, _⟩
    · exact absurd g2 n1
    · cases g2
      subst g3
      exact ⟨a', rfl, h, g1⟩
/-- what a body's end gives the caller -/
theorem finish_RX {De : Ends} {E : XK} {Q : VK} (hn : De.nx = fun _ H' => Q .non H') (hr : De.rt = Q) {r : RS} (h : RX L Z ρ H E (finish ρ.length r) fun r T' => ∀ v H' ρ', Post L Z ρ H v r.1 r.2 H' T' ρ' → Q v H') : RSX L Z H ρ K (fun cls d _ H' => E cls d H') De r := by
  cases r with
  | nx e T' =>
    intro σ' H' ρ' x
    rw [hn]
    obtain ⟨ρ'', p⟩ := (Post.leave x (Post.of (v := .non) (d := .non) x.bs (by simp [Rep]))).trimT ρ.length rfl
    exact h _ H' ρ'' p
  | bk e T' => exact h.elim
  | rt d fl T' =>
    intro v H' ρ' p
    rw [hr]
    obtain ⟨ρ'', p⟩ := p.trimT ρ.length rfl
    exact h v H' ρ'' p
  | ex c fs e T' =>
    intro σ' H' ρ' cls dd x xr
    have h : ∀ cls dd H' ρ', PostX L Z ρ H c fs cls dd H' (trimT ρ.length (.tup fs) T') ρ' → E cls dd H' := h
    rcases trimT_cases ρ.length (.tup fs) T' with e | ⟨e, h1, h2⟩
    · refine h cls dd H' ρ' ⟨x.fr, by rw [e]; exact x.bs.less fun a z => .inl z, xr.1, xr.2.imp id fun ⟨dx, ns, vs, g1, g2, g3, g4, g5⟩ => ⟨dx, ns, vs, g1, g2, g3, g4, g5.mono (Hd.less fun a z => .inl z)⟩⟩
    · refine h cls dd H' ρ ⟨x.fr.trim, by rw [e]; exact (x.bs.less fun a z => .inl z).trim x.fr.pre ρ.length rfl h2, xr.1, xr.2.imp id fun ⟨dx, ns, vs, g1, g2, g3, g4, g5⟩ => ⟨dx, ns, vs, g1, g2, g3, g4, ?_⟩⟩
      exact (Reps.reown _ _ (by simpa [D.noOwn] using h1) g5).mono (Sub.trans (Hd.less fun a z => .inl z) (Hd.lessR fun a m => x.fr.pre.subset m))
  | no => exact h
end
end Sr
namespace Sr
open PySem PySem.Spec PyProof.Rows L2 SeqAt
/-- THE RULE: a def keeps its promise, by its body -/
theorem fn_ok {L : Lk} {P : Pg} {prog : Program} {w : World} {K : PySem.W.Frag} {mg : Str → Option Value} {base : Heap} {l k f : Nat} {F : Fn} {x qual : Str} {params : Arguments} {body : List Stmt} {scope : Scope} {kws : List (Str × V)} {fd : FuncData} {N ps : List Str}
    (FD : FunD K x qual params body scope [] kws (L.fa f) fd) (S : FnScope N ps scope) (hps : ps.length = F.np) (hN : N.length = F.ns) (hf : P.fns f = some F)
    (hbody : ∀ (cdv : Value) (A : Around) (outer : List PySem.Env) (s : Shared) (H : Hp) (E : XK), Room k (A.deeper (envOfC qual scope s.heap.objs.size (L.fa f) cdv)) →
      PSs (cxOf (L2.CX prog w) prog w K mg base N qual scope (L.fa f) cdv A outer s H E) body (tSs L P (run P l) (fun cls d _ H => E cls d H) F.body)) :
    FnOk prog w K mg base (L2.CX prog w) (k + 1) (L.fa f) fd ps (spC L (run P (l + 1)) F.np f) := by
  refine FD.ok S (fun vs H Q E h => ?_) fun cdv A outer s H vs Q E hr h => ⟨_, hbody cdv A outer s H E hr, ?_⟩
  · obtain ⟨_, _, _, _, h1, _⟩ := h
    rw [h1, hps]
  · obtain ⟨Z, ρ, T, args, h1, b, ha, h2⟩ := h
    have hl : args.length = F.np := by rw [← paired_len ha, h1]
    refine ⟨Z, H, ρ, _, initEnv F args, T, ρ, SR.enter b ha hl hN, ?_⟩
    have e : run P (l + 1) f args T = finish T.length (execs P (run P l) F.body (initEnv F args) T) := by
      simp only [run, hf]
      rw [if_pos hl]
    rw [e, ← b.len] at h2
    exact finish_RX rfl rfl h2
end Sr
end

section
set_option autoImplicit false
set_option linter.all false
set_option Elab.async false
/-! Sr21: contexts; calls of names that hold defs; the empty dict. -/
namespace Sr
open PySem PySem.Spec PyProof.Rows L2 SeqAt
section
variable {L : Lk} {P : Pg} {call : CallF} {W : WX} {X : Cx} {Z : Addr → Prop} {ρ : List Addr} {H : Hp} {T : List Nd}
/-- a new dict -/
theorem Post.newDic (b : Bs L Z ρ T H) {p : Addr} (hp : H p = none) {ks ds : List D} {kv vv : List V} (r1 : Reps L ρ (Hd Z ρ H) ks kv) (r2 : Reps L ρ (Hd Z ρ H) ds vv) {o : Obj} (a : ∀ H' : Hp, H' p = some (DicO p o) → DicAt L.w H' p kv vv ks) (ht : ¬ isTb (some (DicO p o))) :
    Post L Z ρ H (.ref p) (.dic ks ds) true (upd H p (DicO p o)) T ρ where
  fr := Fr.laid hp
  bs := b.laid hp
  rep := by
    simp only [Rep]
    exact ⟨p, kv, vv, rfl, a _ (Hd.at_new b hp ht), r1.mono ((Fr.laid hp).hd Z), r2.mono ((Fr.laid hp).hd Z)⟩
  new := fun _ => ⟨p, rfl, hp, (b.notIn hp).1, b.laidZ hp ht, kv, vv, a _ upd_same, r1.mono (Hd.laidZ hp), r2.mono (Hd.laidZ hp)⟩
theorem dicO_ok {Pr : Program} {w : World} {H : Hp} {h : Heap} {a : Addr} {o : Obj} (e : h.get? a = some o) (n : (a == sysModules) = false) : ObjOk Pr w H h a (DicO a o) := ⟨⟨e, n⟩, ⟨o, e⟩, fun h1 h2 ⟨e1, n1⟩ k => ⟨k o e1, n1⟩⟩
theorem pe_dic0V {pos : Pos} : PE X (.Dict [] [] pos) (tV L P call W (.dic [] [])) := ⟨fun pins s σ H Q I h => by
  obtain ⟨Z, env, T, ρ, er, h⟩ := h
  simp only [ev, evs] at h
  have h : ∀ v H' ρ', Post L Z ρ H v (.dic [] []) true H' T ρ' → Q v H' := h
  have nb : (s.heap.objs.size == sysModules) = false := beq_eq_false_iff_ne.mpr (Ne.symm (Nat.ne_of_lt I.big))
  have hp : H s.heap.objs.size = none := I.hok.fresh (Nat.le_refl _)
  refine wpAny_Dict_empty ⟨.ref s.heap.objs.size, upd H s.heap.objs.size (DicO s.heap.objs.size { cls := .type "dict", data := .dict #[] }), I.laid (a := s.heap.objs.size) (t' := s.toks) (fun _ _ q => Heap.get?_push_of_some _ q) (Nat.le_refl _) (dicO_ok (Heap.get?_push_size _ rfl) nb), rfl, h _ _ ρ ?_⟩
  exact Post.newDic er.bs hp .nil .nil (fun H' e => ⟨⟨_, #[], 0, e, ⟨rfl, rfl, rfl⟩, rfl, trivial⟩, List.nodup_nil, .inl rfl, fun k hk => (nomatch hk), Nat.zero_le _⟩) (dic_notTb rfl)⟩
/-- what is known of the defs that may be called -/
def FnsOk (L : Lk) (P : Pg) (call : CallF) (k : Nat) (X : Cx) : Prop := ∀ f F, P.fns f = some F → ∃ fd ps, FnOk X.prog X.w X.K X.mg X.base (L2.CX X.prog X.w) k (L.fa f) fd ps (spC L call F.np f) ∧ PySem.W.keepIn X.K (.ref (L.fa f)) = true ∧ Binds X.K fd ps []
/-- a call of a name that holds a def -/
theorem pe_callvV {k i : Nat} {x : Str} {p pos : Pos} {e : Expr} {es : List Expr} {ms : List M} (hF : FnsOk L P call k X) (hr : Room k X.A) (hN : X.N[i]? = some x) (hv : Vis X.env.scope x) (tk : Takes X W)
    (ha : PA X (e :: es) (tMs L P call W ms)) (hdb : (x == ("__debug__" : Str)) = false) (hcd : (x == ("__classdict__" : Str)) = false) (he : starEach (e :: es) X.env = (false, eval e X.env) :: starEach es X.env) (hpl : (backTo pos (starEach es X.env)).any (·.1) = false) :
    PE X (.Call (.Name x p) (e :: es) [] pos) (tV L P call W (.callv i ms)) := by
  refine ⟨fun pins s σ H Q I h => ?_⟩
  obtain ⟨Z, env, T, ρ, er, h⟩ := h
  simp only [ev] at h
  have h := h.bind
  unfold Env.look at h
  split at h
  · rename_i d hi
    obtain ⟨v, hs, hrep0, h9⟩ := er.sl i .sh d hi
    have hrep := hrep0 rfl
    clear h9 hrep0
    cases d <;> first
      | exact h.elim
      | skip
    case fn g =>
      have hv' : v = .ref (L.fa g) := by simpa [Rep] using hrep
      subst hv'
      replace h : RX L Z ρ H (fun c d H' => W c d σ H') ((match P.fns g with
        | some F => if ms.length = F.np then (do let ds ← evo P call ms env; call g ((ms.map (M.mode env)).zip ds) : Mo (D × Bool)) else stuck
        | none => stuck) T) fun r T' => ∀ v H' ρ', Post L Z ρ H v r.1 r.2 H' T' ρ' → Q v H' := h
      refine wpAny_Call_Name_kw (thn ((pe_var (pos := p) hN hv hdb hcd).run pins s σ H (fun v H1 => v = .ref (L.fa g) ∧ H1 = H) I ⟨_, hs, rfl, rfl⟩) fun u s1 ⟨v, H1, I1, r1, q1⟩ => ?_)
      obtain ⟨rfl, rfl⟩ := q1
      cases (show u = Value.ref (L.fa g) from r1)
      cases hf : P.fns g with
      | none => rw [hf] at h; exact h.elim
      | some F =>
        rw [hf] at h
        replace h : RX L Z ρ H1 (fun c d H' => W c d σ H') ((if ms.length = F.np then (do let ds ← evo P call ms env; call g ((ms.map (M.mode env)).zip ds) : Mo (D × Bool)) else stuck) T) fun r T' => ∀ v H' ρ', Post L Z ρ H1 v r.1 r.2 H' T' ρ' → Q v H' := h
        by_cases hl : ms.length = F.np
        · rw [if_pos hl] at h
          obtain ⟨fd, ps, FO, hk, hb⟩ := hF g F hf
          refine PySem.W.callWith_K (h₀ := X.base) I.ok.mod.kin hk (thn (ha.run pos pins s1 σ H1 (fun vs H2 => spC L call F.np g vs H2 Q (WE W σ)) I1 ?_) fun us s2 ⟨vs, H2, I2, r, q⟩ => ⟨I2.kIn, ?_⟩) he hpl
          · refine ⟨Z, env, T, ρ, er, h.bind.eqn.imp fun ds T1 h1 vs H2 ρ2 f2 b2 a2 => ?_⟩
            refine ⟨Z, ρ2, T1, _, by rw [paired_len a2, List.length_zip, List.length_map, evo_len h1.1, Nat.min_self]; exact hl, b2, a2, (h1.2.move f2).imp fun r T' k v H' ρ' p => k v H' ρ' (Post.after f2 p)⟩
          · exact run_fnS FO hr hb (passAt tk σ) I2 r q
        · rw [if_neg hl] at h; exact h.elim
  · exact h.elim
end
end Sr
end

section
set_option autoImplicit false
set_option linter.all false
set_option Elab.async false
/-! Sr22: the checker: a term of the core language belongs to an expression. -/
namespace Sr
open PySem PySem.Spec PyProof.Rows L2 SeqAt
/-- what the checked text's globals are: a def, a class of errors, a constant, the def that gets lambdas, a built-in -/
inductive GV where | fn (f : Nat) | cls (c : Nat) | con (c : Nat) | lam (f : Nat) | non deriving DecidableEq
abbrev GT := List (Str × GV)
def visB (sc : Scope) (x : Str) : Bool := match sc.names.lookup x with
  | some .local => true
  | some .cell => true
  | some .free => true
  | _ => false
def plainN (x : Str) : Bool := !(x == ("__debug__" : Str)) && !(x == ("__classdict__" : Str)) && !(x == ("__name__" : Str))
def gloB (G : GT) (sc : Scope) (x : Str) (g : GV) : Bool := decide (sc.names.lookup x = some .globalImplicit) && plainN x && decide (G.lookup x = some g)
def nmB (N : List Str) (sc : Scope) (i : Nat) (x : Str) : Bool := decide (N[i]? = some x) && visB sc x && plainN x
def nstar : Expr → Bool
  | .Starred _ _ => false
  | _ => true
def cstB : D → Const → Bool
  | .non, .none => true
  | .bl a, .bool b => a == b
  | .int a, .int b => a == b
  | .str a, .str b => a == b
  | _, _ => false
def c2 : CO → CmpOp
  | .eq => .Eq | .ne => .NotEq | .lt => .Lt | .le => .LtE | .gt => .Gt | .ge => .GtE | .isIn => .In | .notIn => .NotIn | .is => .Is | .isNot => .IsNot
def plainIxB : Expr → Bool
  | .Slice _ _ _ _ => false
  | _ => true
def notSet : Expr → Bool
  | .Set _ _ _ => false
  | _ => true
/-- the built-ins that are called by name -/
def biName : BI → Option Str
  | .len => some "len" | .all => some "all" | .any => some "any" | .sum => some "sum" | .max => some "max" | .min => some "min" | .abs => some "abs"
  | .tuple => some "tuple" | .list => some "list" | .int => some "int" | .str => some "str" | .sorted => some "sorted" | .dict => some "dict"
  | _ => none
def mtName : MT → Option Str
  | .get => some "get" | .index => some "index"
  | _ => none
/-- whose method is called: not super() -/
def objB : Expr → Bool
  | .Name _ _ => true
  | .Subscript _ _ _ => true
  | _ => false
def tyN : Ty → Str
  | .non => "NoneType" | .bool => "bool" | .int => "int" | .str => "str" | .tuple => "tuple" | .list => "list" | .dict => "dict"
def tgB (N : List Str) (raw sc : Scope) : Tg → Expr → Bool
  | .nm i, .Name x _ => nmS i x
  | .tp is, .Tuple es _ _ => go is es
  | _, _ => false
where
  nmS (i : Nat) (x : Str) : Bool := decide (N[i]? = some x) && (decide (sc.names.lookup x = some .local) || (decide (sc.names.lookup x = some .cell) && decide (raw.names.lookup x = some .cell)))
  go : List Nat → List Expr → Bool
    | [], [] => true
    | i :: is, .Name x _ :: es => nmS i x && go is es
    | _, _ => false
def ownOf (N : List Str) (is : List Nat) : List (Str × Nat) := is.map fun i => (N.getD i "", i)
def tupE : Expr → Bool
  | .Tuple _ _ _ => true
  | _ => false
/-- may the value be a test by itself -/
def valT : Expr → Bool
  | .UnaryOp .Not _ _ => false
  | .BoolOp _ _ _ => false
  | .IfExp _ _ _ _ => false
  | .Compare _ _ _ _ => false
  | _ => true
def tstE : M → Expr → Bool
  | .and a b, .BoolOp .And (ea :: eb :: rest) pos => tstE a ea && (match rest with
    | [] => tstE b eb
    | _ => tstE b (.BoolOp .And (eb :: rest) pos))
  | .or a b, .BoolOp .Or (ea :: eb :: rest) pos => tstE a ea && (match rest with
    | [] => tstE b eb
    | _ => tstE b (.BoolOp .Or (eb :: rest) pos))
  | .not a, .UnaryOp .Not ea _ => tstE a ea
  | .cmp _ _ _, .Compare _ _ _ _ => true
  | .chn _ _ _ _ _, .Compare _ _ _ _ => true
  | _, e => valT e
def isNil : M → Bool
  | .nil => true
  | _ => false
def optB (o : Option Expr) (n : Bool) (f : Expr → Bool) : Bool :=
  match o with
  | none => n
  | some e => f e
/-- none, or one test -/
def tstEs : List M → List Expr → Bool
  | [], [] => true
  | [m], [e] => tstE m e
  | _, _ => false
/-- the checker's fixed part: the globals, the program, the slots' names -/
structure Ck where
  G : GT
  P : Pg
  N : List Str
mutual
def chkE (C : Ck) (lam : Bool) : M → Scope → Expr → Bool
  | .var i, sc, .Name x _ => nmB C.N sc i x
  | .cst d, _, .Constant c _ _ => cstB d c
  | .gcst c, sc, .Name x _ => gloB C.G sc x (.con c)
  | .fnv f, sc, .Name x _ => gloB C.G sc x (.fn f)
  | .tup ms, sc, .Tuple es _ _ => chkEs C lam ms sc es && decide (ms.length ≤ 1000)
  | .lst ms, sc, .List es _ => chkEs C lam ms sc es && decide (ms.length ≤ 1000)
  | .dic [] [], _, .Dict [] [] _ => true
  | .dic [mk] [mv], sc, .Dict [some ek] [ev] _ => chkE C lam mk sc ek && chkE C lam mv sc ev
  | .mt m a ms, sc, .Call (.Attribute ea x pa) (eb :: es) [] pc => decide (mtName m = some x) && objB ea && (pa.endLine == pc.line) && decide (ms.length < 20) && chkE C lam a sc ea && chkEs C lam ms sc (eb :: es)
  | .bi .lstRng [ma, mb], sc, .Call (.Name x _) [.Call (.Name y _) [ea, eb] [] _] [] _ => decide (x = "list") && decide (y = "range") && gloB C.G sc x .non && gloB C.G sc y .non && nstar ea && nstar eb && chkE C lam ma sc ea && chkE C lam mb sc eb
  | .bi .lstRng [ma], sc, .Call (.Name x _) [.Call (.Name y _) [ea] [] _] [] _ => decide (x = "list") && decide (y = "range") && gloB C.G sc x .non && gloB C.G sc y .non && nstar ea && chkE C lam ma sc ea
  | .bi .tupRng [ma], sc, .Call (.Name x _) [.Call (.Name y _) [ea] [] _] [] _ => decide (x = "tuple") && decide (y = "range") && gloB C.G sc x .non && gloB C.G sc y .non && nstar ea && chkE C lam ma sc ea
  | .bi .sortSet [ma], sc, .Call (.Name x _) [.Call (.Name y _) [ea] [] _] [] _ => decide (x = "sorted") && decide (y = "set") && gloB C.G sc x .non && gloB C.G sc y .non && nstar ea && chkE C lam ma sc ea
  | .op2 o a b, sc, .BinOp ea op eb _ => decide (o2 o = op) && chkE C lam a sc ea && chkE C lam b sc eb
  | .neg a, sc, .UnaryOp .USub ea _ => chkE C lam a sc ea
  | .cmp o a b, sc, .Compare ea [op] [eb] _ => decide (c2 o = op) && notSet eb && chkE C lam a sc ea && chkE C lam b sc eb
  | .chn o p a b c, sc, .Compare ea [op, op'] [eb, ec] _ => decide (c2 o = op) && decide (c2 p = op') && notSet ec && chkE C lam a sc ea && chkE C lam b sc eb && chkE C lam c sc ec
  | .and a b, sc, .BoolOp .And (ea :: eb :: rest) pos => chkE C lam a sc ea && (match rest with
    | [] => chkE C lam b sc eb
    | _ => chkE C lam b sc (.BoolOp .And (eb :: rest) pos))
  | .or a b, sc, .BoolOp .Or (ea :: eb :: rest) pos => chkE C lam a sc ea && (match rest with
    | [] => chkE C lam b sc eb
    | _ => chkE C lam b sc (.BoolOp .Or (eb :: rest) pos))
  | .not a, sc, .UnaryOp .Not ea _ => chkE C lam a sc ea
  | .ite c a b, sc, .IfExp ec ea eb _ => chkE C lam c sc ec && tstE c ec && chkE C lam a sc ea && chkE C lam b sc eb
  | .idx a i, sc, .Subscript ea ei _ => plainIxB ei && chkE C lam a sc ea && chkE C lam i sc ei
  | .slc a lo hi, sc, .Subscript ea (.Slice elo ehi none _) _ => chkE C lam a sc ea && optB elo (isNil lo) (fun e => !isNil lo && chkE C lam lo sc e) && optB ehi (isNil hi) (fun e => !isNil hi && chkE C lam hi sc e)
  | .rev a, sc, .Subscript ea (.Slice none none (some (.UnaryOp .USub (.Constant (.int 1) _ _) _)) _) _ => chkE C lam a sc ea
  | .call f ms, sc, .Call (.Name x _) (ea :: es) [] _ => gloB C.G sc x (.fn f) && decide ((C.P.fns f).map Fn.np = some ms.length) && chkEs C lam ms sc (ea :: es)
  | .callv i ms, sc, .Call (.Name x _) (ea :: es) [] _ => nmB C.N sc i x && chkEs C lam ms sc (ea :: es)
  | .bi (.isinst [c]) [m], sc, .Call (.Name x _) [ea, .Name y _] [] _ => decide (x = "isinstance") && gloB C.G sc x .non && decide (y = tyN c) && decide (c ≠ .non) && gloB C.G sc y .non && nstar ea && chkE C lam m sc ea
  | .bi (.isinst [c, d]) [m], sc, .Call (.Name x _) [ea, .Tuple [.Name y _, .Name z _] _ _] [] _ => decide (x = "isinstance") && gloB C.G sc x .non && decide (y = tyN c) && decide (c ≠ .non) && gloB C.G sc y .non && decide (z = tyN d) && decide (d ≠ .non) && gloB C.G sc z .non && nstar ea && chkE C lam m sc ea
  | .bi b ms, sc, .Call (.Name x _) (ea :: es) [] _ => decide (biName b = some x) && gloB C.G sc x .non && chkEs C lam ms sc (ea :: es)
  | .comp m tg k it cond, sc, .ListComp ee [⟨te, ie, ifs, 0⟩] raw _ => blkC C.N sc raw (ownOf C.N tg.slots) && decide ((ownOf C.N tg.slots).map (·.2) = tg.slots) && tgB C.N raw (relS raw sc) tg te && (match k, ie with
    | 0, e => notSet e && decide (it.length = 1) && chkEs C lam it sc [e]
    | 1, .Call (.Name x _) es [] _ => decide (x = "range") && gloB C.G sc x .non && decide (1 ≤ it.length ∧ it.length ≤ 3) && chkEs C lam it sc es
    | 2, .Call (.Name x _) es [] _ => decide (x = "enumerate") && gloB C.G sc x .non && tupE te && decide (it.length = 1) && chkEs C lam it sc es
    | 3, .Call (.Name x _) es [] _ => decide (x = "zip") && gloB C.G sc x .non && tupE te && decide (it.length = 2) && chkEs C lam it sc es
    | _, _ => false) && chkEs C false cond (relS raw sc) ifs && tstEs cond ifs && chkE C false m (relS raw sc) ee
  | .new a, sc, e => chkE C lam a sc e
  | .lam f b z, sc, .Call (.Name x _) [.Lambda ⟨[], [], none, [], [], none, []⟩ eb raw _, .Constant (.str z') _ _] [] _ => lam && decide (z = z') && gloB C.G sc x (.lam f) && LamX.lamSB sc raw && chkE C false b raw eb
  | _, _, _ => false
def chkEs (C : Ck) (lam : Bool) : List M → Scope → List Expr → Bool
  | [], _, [] => true
  | m :: ms, sc, e :: es => nstar e && chkE C lam m sc e && chkEs C lam ms sc es
  | _, _, _ => false
end
end Sr
end

section
set_option autoImplicit false
set_option linter.all false
set_option Elab.async false
/-! Sr23: what the checker's soundness rests on. -/
namespace Sr
open PySem PySem.Spec PyProof.Rows L2 SeqAt
/-! ### side conditions -/
theorem star_cons {e : Expr} {es : List Expr} {env : PySem.Env} (h : nstar e = true) : starEach (e :: es) env = (false, eval e env) :: starEach es env := by
  cases e <;> first | rfl | cases h
theorem star_any {pos : Pos} {env : PySem.Env} : ∀ {es : List Expr}, es.all nstar = true → (backTo pos (starEach es env)).any (·.1) = false := by
  intro es h
  have : ∀ {es : List Expr}, es.all nstar = true → (starEach es env).any (·.1) = false := by
    intro es
    induction es with
    | nil => intro _; rfl
    | cons e es ih =>
      intro h
      rw [List.all_cons, Bool.and_eq_true] at h
      rw [star_cons h.1, List.any_cons, ih h.2]; rfl
  have := this h
  unfold backTo
  rw [List.any_map]
  exact this
theorem back_behind {op : CmpOp} {e : Expr} (h : notSet e = true) : behindInMarks op e = false := by
  cases e <;> first | rfl | cases h
theorem folded_ok {e : Expr} {env : PySem.Env} (h : notSet e = true) (x : Value) : foldedSetIterable e env x = pure x := by
  cases e <;> first | rfl | cases h
theorem plainIx_ok {e : Expr} (h : plainIxB e = true) : PlainIx e := by
  intro o i
  cases e <;> first | rfl | cases h
theorem valT_ok {e : Expr} {env : PySem.Env} (h : valT e = true) (whole : Sem Value) : isTrue e env whole = (do let v ← whole; standAt e.pos; holding [v] (truthy v)) := by
  cases e <;> first
    | rfl
    | cases h
    | (rename_i op _ _; cases op <;> first | rfl | cases h)
/-! ### contexts -/
/-- a class of errors without fields -/
structure ClsOk (K : PySem.W.Frag) (C : Addr) : Prop where
  exc : PySem.W.excIn K C He.veBase "ValueError.__new__" = true
  keep : PySem.W.keepIn K (.ref C) = true
  sub : PySem.W.subIn K (.ref C) (.type "BaseException") = some true
  ty : PySem.W.typeIn K (.ref C) = some (.type "type")
/-- the def that gets lambdas -/
structure LamDef (L : Lk) (P : Pg) (K : PySem.W.Frag) (mg : Str → Option Value) (f : Nat) (x : Str) : Prop where
  ex : ∃ (cs : List (Nat × Str)) (a nm : Str) (g : Addr) (fd : FuncData) (pg : Arguments) (h0 : ExceptHandler) (hds : List ExceptHandler) (sg : Scope) (kws : List (Str × V)) (j6 : Nat) (p1 p2 p4 p5 p6 p7 : Pos),
    P.lks f = some (.raises cs) ∧ (∀ q ∈ cs, q.1 < P.nc) ∧ mg x = some (.ref g) ∧ FunD K x x pg [.Try [.Expr (.Call (.Name a p1) [] [] p2) p4] (h0 :: hds) [] [] p5, .Return (some (.Constant (.bool false) j6 p6)) p7] sg [] kws g fd ∧ L2.Binds K fd [a, nm] [] ∧ FnScope [a, nm] [a, nm] sg ∧
      Vis sg a ∧ Vis sg nm ∧ (∀ Y : Cx, Y.env.scope = sg → Y.mg = mg → HM Y L.ca nm (h0 :: hds) cs) ∧ (a == ("__debug__" : Str)) = false ∧ (a == ("__classdict__" : Str)) = false ∧ (nm == ("__debug__" : Str)) = false ∧ (nm == ("__classdict__" : Str)) = false
/-- what the globals are -/
def GlobOk (L : Lk) (P : Pg) (G : GT) (K : PySem.W.Frag) (mg : Str → Option Value) : Prop := ∀ x g, G.lookup x = some g → match g with
  | .fn f => mg x = some (.ref (L.fa f))
  | .cls c => mg x = some (.ref (L.ca c)) ∧ ClsOk K (L.ca c)
  | .con c => ∃ v u, (∀ ρ H, Rep L ρ H (P.con c) v) ∧ mg x = some u ∧ RelV v u
  | .lam f => LamDef L P K mg f x
  | .non => mg x = none
/-- {k: v}'s rule -/
def DispD (L : Lk) (X : Cx) : Prop := ∀ (pins : List (Addr × Obj)) (s : Shared) (σ : L2.St) (H Hc : Hp) (ρ : List Addr) (p : Addr) (o : Obj) (k d : D) (x y : V) (u v : Value) (Q : Shared → Prop), L2.Inv X pins σ H s → Sub Hc H → H p = some (DicO p o) → o.ExactDict → o.data = .dict #[] →
  Rep L ρ Hc k x → Rep L ρ Hc d y → RelV x u → RelV y v → keyOk [] k = true →
  (∀ o' s' kv' vv', L2.Inv X pins σ (L2.upd H p (DicO p o')) s' → DicAt L.w (L2.upd H p (DicO p o')) p kv' vv' [k] → Reps L ρ Hc [k] kv' → Reps L ρ Hc [d] vv' → Q s') → wpAny (model X.prog X.w) X.A (storeAll p [(u, v)]) (fun _ s' => Q s') X.xe s
theorem RX.unzp {L : Lk} {Z : Addr → Prop} {ρ : List Addr} {H : Hp} {p : Addr} {o : HO} {Wx : XW} {α : Type} {r : R α} {k : α → List Nd → Prop} (hp : H p = none) (h : RX L Z ρ H Wx r k) : RX L (Zp Z p) ρ (upd H p o) Wx r k := by
  cases r with
  | ok a T => exact h
  | ex c fs T => exact fun cls dd H' ρ' q => h cls dd H' ρ' ⟨(Fr.laid hp).trans q.fr, q.bs.less fun a z => .inl z, ⟨q.rep.1, q.rep.2.imp id fun ⟨dx, ns, vs, h1, h2, h3, h4, h5⟩ => ⟨dx, ns, vs, h1, h2, h3, h4, h5.mono (Hd.less fun a z => .inl z)⟩⟩⟩
  | no => exact h
theorem pe_dic1V {L : Lk} {P : Pg} {call : CallF} {W : WX} {X : Cx} {mk mv : M} {ek ev' : Expr} {pos : Pos} (hD : DispD L X) (hk : PE X ek (tV L P call W mk)) (hv : PE X ev' (tV L P call W mv)) : PE X (.Dict [some ek] [ev'] pos) (tV L P call W (.dic [mk] [mv])) := ⟨fun pins s σ H Q I h => by
  obtain ⟨Z, env, T, ρ, er, h⟩ := h
  simp only [ev, evs] at h
  have nb : (s.heap.objs.size == sysModules) = false := beq_eq_false_iff_ne.mpr (Ne.symm (Nat.ne_of_lt I.big))
  have hp : H s.heap.objs.size = none := I.hok.fresh (Nat.le_refl _)
  have ht : ¬ isTb (some (DicO s.heap.objs.size { cls := .type "dict", data := .dict #[] })) := dic_notTb rfl
  have I1 := I.laid (a := s.heap.objs.size) (o := DicO s.heap.objs.size { cls := .type "dict", data := .dict #[] }) (h' := s.heap.push { cls := .type "dict", data := .dict #[] }) (t' := s.toks) (fun _ _ q => Heap.get?_push_of_some _ q) (Nat.le_refl _) (dicO_ok (Heap.get?_push_size _ rfl) nb)
  have er1 := er.zp hp ht
  have hn := er.bs.notIn hp
  have hq := (h.bind.bind).unzp (o := DicO s.heap.objs.size { cls := .type "dict", data := .dict #[] }) hp
  refine wpAny_Dict_any (keys := [some ek]) rfl rfl (by simp) (by simp) (thn ((pps_cons hk hv pps_nil).run pins _ σ _ (fun ps H3 => ∃ x y, ps = [(x, y)] ∧ ∃ (ρ3 : List Addr) (k d : D), H3 s.heap.objs.size = some (DicO s.heap.objs.size { cls := .type "dict", data := .dict #[] }) ∧ Rep L ρ3 (Hd (Zp Z s.heap.objs.size) ρ3 H3) k x ∧ Rep L ρ3 (Hd (Zp Z s.heap.objs.size) ρ3 H3) d y ∧ keyOk [] k = true ∧
    ∀ o' kv' vv', DicAt L.w (upd H3 s.heap.objs.size (DicO s.heap.objs.size o')) s.heap.objs.size kv' vv' [k] → Reps L ρ3 (Hd (Zp Z s.heap.objs.size) ρ3 H3) [k] kv' → Reps L ρ3 (Hd (Zp Z s.heap.objs.size) ρ3 H3) [d] vv' → Q (.ref s.heap.objs.size) (upd H3 s.heap.objs.size (DicO s.heap.objs.size o'))) I1 ?_) fun ws s2 ⟨ps, H3, I3, rel, x, y, ep, ρ3, k, d, g1, g2, g3, g4, g5⟩ => ?_)
  · refine ⟨_, env, T, ρ, er1, hq.imp fun rk T1 h1 x H2 ρ2 p2 => ?_⟩
    have h2 : RX L Z ρ H (fun c d H' => W c d σ H') (((do let r ← ev P call mv env; let ds ← Mo.ret []; pure (r.1 :: ds)) >>= fun cs => (do let r ← ofO (dictOf [] [] ((([rk.1] : List D).zip cs).map fun p => D.tup [p.1, p.2])); pure (D.dic r.1 r.2, true) : Mo (D × Bool))) T1) (fun r T' => ∀ v H' ρ', Post L Z ρ H v r.1 r.2 H' T' ρ' → Q v H') := h1
    have hv2 := ((h2.bind.bind).unzp (o := DicO s.heap.objs.size { cls := .type "dict", data := .dict #[] }) hp).move p2.fr
    refine ⟨_, env, T1, ρ2, er1.step p2.fr p2.bs, hv2.imp fun rv T2 h3 y H3 ρ3 p3 => ?_⟩
    have h4 : RX L Z ρ H (fun c d H' => W c d σ H') ((do let r ← ofO (dictOf [] [] [.tup [rk.1, rv.1]]); pure (D.dic r.1 r.2, true) : Mo (D × Bool)) T2) (fun r T' => ∀ v H' ρ', Post L Z ρ H v r.1 r.2 H' T' ρ' → Q v H') := h3
    obtain ⟨r, e, h5⟩ := h4.bind.ofO
    simp only [dictOf] at e
    split at e
    · rename_i kk
      cases e
      have h5 : ∀ v H' ρ', Post L Z ρ H v (.dic [rk.1] [rv.1]) true H' T2 ρ' → Q v H' := RX.pure h5
      have n2 : s.heap.objs.size ∉ ρ2 := fun z => p2.bs.dj _ z (.inr rfl)
      have n3 : s.heap.objs.size ∉ ρ3 := fun z => p3.bs.dj _ z (.inr rfl)
      have hD3 := p3.fr.ext _ _ (p2.fr.ext _ _ upd_same hn.1 ht) n2 ht
      refine ⟨x, y, rfl, ρ3, rk.1, rv.1, hD3, Rep.sub p3.fr.pre (p3.fr.hd _) _ _ p2.rep, p3.rep, kk, fun o' kv' vv' g1 g2 g3 => h5 _ _ ρ3 ?_⟩
      have ht' : ¬ isTb (some (DicO s.heap.objs.size o')) := by
        obtain ⟨o2, es, ep, q1, q2, q3, _⟩ := g1.ob
        rw [upd_same] at q1
        rw [q1]
        exact dic_notTb q3
      have bz : Bs L (Zp Z s.heap.objs.size) ρ3 T2 (upd H3 s.heap.objs.size (DicO s.heap.objs.size o')) := p3.bs.updZ (.inr rfl) ht'
      have g2' := g2
      have g3' := g3
      rw [← Hd.updZ (o := DicO s.heap.objs.size o') (.inr rfl)] at g2' g3'
      refine ⟨((Fr.laid hp).trans (p2.fr.trans p3.fr)).updN hp, bz.less fun a z => .inl z, ?_, fun _ => ⟨_, rfl, hp, n3, bz, kv', vv', g1, g2', g3'⟩⟩
      simp only [Rep]
      refine ⟨_, kv', vv', rfl, ⟨?_, g1.nd, g1.kd, g1.ok, g1.sz⟩, g2'.mono (Hd.less fun a z => .inl z), g3'.mono (Hd.less fun a z => .inl z)⟩
      obtain ⟨o2, es, ep, q1, q2⟩ := g1.ob
      exact ⟨o2, es, ep, Hd.mk q1 hn.2 n3 (by rw [upd_same]; exact ht'), q2⟩
    · cases e
  · subst ep
    cases rel with
    | cons r1 rt =>
      cases rt
      exact hD pins s2 σ H3 _ ρ3 _ _ k d x y _ _ _ I3 (Hd.sub _ _ _) g1 ⟨rfl, rfl, rfl⟩ rfl g2 g3 r1.1 r1.2 g4 (fun o' s' kv' vv' I' q r1 r2 => ⟨.ref _, _, I', rfl, g5 o' kv' vv' q r1 r2⟩)⟩
/-- a method's rule -/
def MtD (L : Lk) (X : Cx) (id : String) (m : MT) : Prop := MtR X id fun x xs H Q => ∃ Z ρ T d ds r, Bs L Z ρ T H ∧ RQ L Z ρ H d x ∧ Reps L ρ (Hd Z ρ H) ds xs ∧ mtp m d ds = some r ∧ ∀ v H' ρ', Post L Z ρ H v r.1 r.2 H' T ρ' → Q v H'
def mtSig : MT → String × String
  | .get => ("dict", "dict.get")
  | .index => ("list", "list.index")
  | _ => ("", "")
theorem mt_facts : ∀ {m : MT} {x : Str}, mtName m = some x → PlainAttrs (mtSig m).1 ∧ Slot (mtSig m).1 x (mtSig m).2 ∧ typeOf (.builtin (mtSig m).2) = pure (.type "method_descriptor") ∧ (m == .pop) = false ∧ (mtTy m = some .dict ∨ mtTy m = some .list) ∧ (mtTy m).map tyS = some (mtSig m).1
  | .get, x, h => by cases h; exact ⟨PySem.F.plainAttrs_dict, PySem.F.slot_dict_get, PySem.F.type_dict_get, rfl, .inl rfl, rfl⟩
  | .index, x, h => by cases h; exact ⟨PySem.F.plainAttrs_list, PySem.F.slot_list_index, PySem.F.type_list_index, rfl, .inr rfl, rfl⟩
  | .count, _, h | .pop, _, h | .split, _, h | .join, _, h | .strip, _, h => by cases h
theorem obj_ty {L : Lk} {X : Cx} (hK : X.K = L.K) {pins : List (Addr × Obj)} {σ : L2.St} {s : Shared} {H : Hp} {Z : Addr → Prop} {ρ : List Addr} (I : L2.Inv X pins σ H s) {d : D} {x : V} {u : Value} {t : Ty} (rx : RelV x u) (r : RQ L Z ρ H d x) (e : tyD d = some t) (ht : t = .dict ∨ t = .list) :
    s.TypeIs u (tyS t) ∧ ∀ a, u = .ref a → ∃ ob, s.heap.get? a = some ob ∧ ob.dict = none := by
  cases d <;> simp [tyD] at e <;> subst e <;> simp at ht
  case lst l =>
    obtain ⟨a, vs, ex, q, _⟩ := rq_lst r
    subst ex
    cases (show u = Value.ref a from rx)
    obtain ⟨its, _, pl, _⟩ := I.list (SqL.of (K := X.K) q)
    refine ⟨pl.isList.typeIs, fun b e => ?_⟩
    cases e
    obtain ⟨o, n, e, c, hd, _⟩ := pl
    exact ⟨o, e, hd⟩
  case scr l =>
    obtain ⟨a, ex, q⟩ := rq_scr r
    subst ex
    cases (show u = Value.ref a from rx)
    obtain ⟨its, _, pl, _⟩ := I.list (hK ▸ q)
    refine ⟨pl.isList.typeIs, fun b e => ?_⟩
    cases e
    obtain ⟨o, n, e, c, hd, _⟩ := pl
    exact ⟨o, e, hd⟩
  case dic ks vs =>
    obtain ⟨a, kv, vv, ex, q, _⟩ := rq_dic r
    subst ex
    cases (show u = Value.ref a from rx)
    obtain ⟨o, es, ep, h1, h2, _⟩ := q.ob
    obtain ⟨⟨h3, _⟩, _⟩ := (show ObjOk X.prog X.w H s.heap a (DicO a o) from I.hok a _ h1)
    refine ⟨⟨o, h3, h2.1⟩, fun b e => ?_⟩
    cases e
    exact ⟨o, h3, h2.2.1⟩
theorem mt_read {L : Lk} {P : Pg} {call : CallF} {W : WX} {m : MT} {t : Ty} {a : M} {ms : List M} {σ : L2.St} {H : Hp} {Q : VK} (hp : (m == .pop) = false) (ht : mtTy m = some t) (h : tV L P call W (.mt m a ms) σ H Q) :
    tO L P call W a σ H fun x H1 => (∃ Z ρ d, RQ L Z ρ H1 d x ∧ tyD d = some t) ∧ tVs L P call W ms σ H1 fun xs H2 => ∃ Z ρ T d ds r, Bs L Z ρ T H2 ∧ RQ L Z ρ H2 d x ∧ Reps L ρ (Hd Z ρ H2) ds xs ∧ mtp m d ds = some r ∧ ∀ v H' ρ', Post L Z ρ H2 v r.1 r.2 H' T ρ' → Q v H' := by
  obtain ⟨Z, env, T, ρ, er, h⟩ := h
  simp only [ev] at h
  refine ⟨Z, env, T, ρ, er, h.bind.imp fun dx T1 h1 x H1 ρ1 p1 => ?_⟩
  obtain ⟨dx', e, h3⟩ := h1.bind.deref
  rw [if_neg (by rw [hp]; decide)] at h3
  have rq1 := p1.ro.deref p1.bs e
  by_cases ct : (tyD dx' == mtTy m) = true
  · rw [if_pos ct] at h3
    have ct := eq_of_beq ct
    refine ⟨⟨Z, ρ1, dx', rq1, ct.trans ht⟩, Z, env, T1, ρ1, er.step p1.fr p1.bs, (h3.move p1.fr).bind.imp fun ds T2 h4 vs H2 ρ2 f2 b2 r2 => ?_⟩
    obtain ⟨dx2, e2, h5⟩ := h4.bind.deref
    obtain ⟨r, e3, h6⟩ := h5.ofO
    exact ⟨Z, ρ2, T2, dx2, ds, r, b2, (f2.ro p1.bs p1.ro).deref b2 e2, r2, e3, fun v H' ρ' q => h6 v H' ρ' (Post.after (p1.fr.trans f2) q)⟩
  · rw [if_neg ct] at h3
    exact h3.elim
theorem pe_mt {L : Lk} {P : Pg} {call : CallF} {W : WX} {X : Cx} {m : MT} {a : M} {ms : List M} {o e : Expr} {es : List Expr} {name : Str} {apos cpos : Pos} (hK : X.K = L.K) (hn : mtName m = some name) (hm : MtD L X (mtSig m).2 m) (ho : PE X o (tO L P call W a)) (ha : PA X (e :: es) (tVs L P call W ms))
    (hbase : attributeBase o name X.env (eval o X.env) = eval o X.env)
    (hfew : ((backTo cpos (starEach (e :: es) X.env)).all (fun x => !x.1) && (backToKw cpos (keywordEach [] X.env)).all (fun x => x.1.isSome)
      && decide ((e :: es).length + ([] : List Keyword).length + (if ([] : List Keyword).isEmpty then 0 else 1) < 30)) = true)
    (hline : (apos.endLine == cpos.line) = true) (hs : starEach (e :: es) X.env = (false, eval e X.env) :: starEach es X.env) (hplain : (backTo cpos (starEach es X.env)).any (·.1) = false) :
    PE X (.Call (.Attribute o name apos) (e :: es) [] cpos) (tV L P call W (.mt m a ms)) := by
  obtain ⟨f1, f2, f3, f4, f5, f6⟩ := mt_facts hn
  obtain ⟨t, ht⟩ : ∃ t, mtTy m = some t := by rcases f5 with h | h <;> exact ⟨_, h⟩
  have htt : t = .dict ∨ t = .list := by
    rcases f5 with h | h
    · rw [ht] at h; cases h; exact .inl rfl
    · rw [ht] at h; cases h; exact .inr rfl
  rw [ht] at f6
  have f6 := Option.some.inj f6
  refine ⟨fun pins s σ H Q I h => ?_⟩
  have h := mt_read f4 ht h
  refine wpAny_Call_method_late hbase hfew hline rfl (thn (ho.run pins s σ H _ I h) fun v s1 ⟨x, H1, I1, r1, ⟨Z, ρ, d, rq, ty⟩, q1⟩ => ?_)
  obtain ⟨h1, h2⟩ := obj_ty hK I1 r1 rq ty htt
  rw [f6] at h1
  refine ⟨_, _, f1, f2, f3, h1, h2, ?_⟩
  have hA := ha.run cpos pins s1 σ H1 _ I1 q1
  rw [hs] at hA ⊢
  refine Calls.callWith_builtin (by show (false || (backTo cpos (starEach es X.env)).any (·.1)) = false; rw [hplain] <;> rfl) (Calls.evalArgs_plain ?_)
  exact thn hA fun us s2 ⟨vs, H2, I2, r2, q2⟩ => hm pins s2 σ H2 x vs v us Q I2 r1 r2 q2
theorem few_ok {e : Expr} {es : List Expr} {env : PySem.Env} {pos : Pos} (h : (e :: es).all nstar = true) (hl : (e :: es).length < 20) : ((backTo pos (starEach (e :: es) env)).all (fun x => !x.1) && (backToKw pos (keywordEach [] env)).all (fun x => x.1.isSome)
      && decide ((e :: es).length + ([] : List Keyword).length + (if ([] : List Keyword).isEmpty then 0 else 1) < 30)) = true := by
  have h1 := star_any (pos := pos) (env := env) h
  have h2 : (backTo pos (starEach (e :: es) env)).all (fun x => !x.1) = true := by
    rw [List.any_eq_false] at h1
    rw [List.all_eq_true]
    intro x hx
    have := h1 x hx
    simpa using this
  have h3 : decide ((e :: es).length + ([] : List Keyword).length + (if ([] : List Keyword).isEmpty then 0 else 1) < 30) = true := decide_eq_true (by simp at *; omega)
  rw [h2, h3]
  rfl
theorem base_ok {o : Expr} {name : Str} {env : PySem.Env} {w : Sem Value} (h : objB o = true) : attributeBase o name env w = w := by
  cases o <;> first | rfl | cases h
/-- list(range(..)) -/
theorem rgV_reps {L : Lk} {ρ : List Addr} {Hc : Hp} (a b : Int) : Reps L ρ Hc (rngL a b 1) (rgV a b) := by
  rw [rngL_one]
  unfold rgV
  have : ∀ l : List Nat, Reps L ρ Hc (l.map fun (i : Nat) => D.int (a + (i : Int) * 1)) (l.map fun (i : Nat) => V.int (a + (i : Nat))) := by
    intro l
    induction l with
    | nil => exact Reps.nil
    | cons i l ih => exact Reps.cons (by simp [Rep]) ih
  exact this _
theorem rng_ok {a b : Int} (ha : smallI a = true) (hb : smallI b = true) (hl : (rngL a b 1).length ≤ SZ) : RgOk a b := by
  have h1 := small_lt ha
  have h2 := small_lt hb
  rw [rngL_one, List.length_map, List.length_range, SZ_eq, sizeLine_eq] at hl
  exact ⟨h1.1, h1.2, h2.1, h2.2, by simpa using hl⟩
section
variable {L : Lk} {P : Pg} {call : CallF} {W : WX} {X : Cx}
theorem lrng_read2 {b : BI} {ma mb : M} {σ : L2.St} {H : Hp} {Q : VK} (h : tV L P call W (.bi b [ma, mb]) σ H Q) (hb : ∀ ds r, bip b ds = some r → ∃ l, rngop ds = some l) :
    tO L P call W ma σ H fun x H1 => tO L P call W mb σ H1 fun y H2 => ∃ i j Z ρ T r, x = .int i ∧ y = .int j ∧ smallI i = true ∧ smallI j = true ∧ Bs L Z ρ T H2 ∧ bip b [.int i, .int j] = some r ∧ ∀ v H' ρ', Post L Z ρ H2 v r.1 r.2 H' T ρ' → Q v H' := by
  obtain ⟨Z, env, T, ρ, er, h⟩ := h
  simp only [ev, evo] at h
  refine ⟨Z, env, T, ρ, er, h.bind.bind.imp fun da T1 h2 x H1 ρ1 p1 => ?_⟩
  refine ⟨Z, env, T1, ρ1, er.step p1.fr p1.bs, (h2.bind.bind.move p1.fr).imp fun db T2 h3 y H2 ρ2 p2 => ?_⟩
  have h4 : RX L Z ρ H (fun c d H' => W c d σ H') ((do let ds ← derefs [da, db]; ofO (bip b ds) : Mo (D × Bool)) T2) (fun r T' => ∀ v H' ρ', Post L Z ρ H v r.1 r.2 H' T' ρ' → Q v H') := h3
  obtain ⟨ds', T', e, h5⟩ := h4.bind.derefs
  obtain ⟨rfl, pq⟩ := paired_rq p2.bs (.cons (p2.fr.ro p1.bs p1.ro) (.cons p2.ro .nil)) e
  obtain ⟨r, e2, h6⟩ := h5.ofO
  obtain ⟨l, e3⟩ := hb _ _ e2
  cases pq with
  | cons q1 q =>
    cases q with
    | cons q2 q =>
      cases q
      rcases rng_inv e3 with ⟨n, e4, _⟩ | ⟨i, j, e4, s1, s2, _⟩ | ⟨i, j, e4, _⟩
      · cases e4
      · cases e4
        exact ⟨i, j, Z, ρ2, _, r, rq_int q1, rq_int q2, s1, s2, p2.bs, e2, fun v H' ρ' q => h6 v H' ρ' (Post.after (p1.fr.trans p2.fr) q)⟩
      · cases e4
theorem lrng_read1 {b : BI} {ma : M} {σ : L2.St} {H : Hp} {Q : VK} (h : tV L P call W (.bi b [ma]) σ H Q) (hb : ∀ ds r, bip b ds = some r → ∃ l, rngop ds = some l) :
    tO L P call W ma σ H fun x H1 => ∃ i Z ρ T r, x = .int i ∧ smallI i = true ∧ Bs L Z ρ T H1 ∧ bip b [.int i] = some r ∧ ∀ v H' ρ', Post L Z ρ H1 v r.1 r.2 H' T ρ' → Q v H' := by
  obtain ⟨Z, env, T, ρ, er, h⟩ := h
  simp only [ev, evo] at h
  refine ⟨Z, env, T, ρ, er, h.bind.bind.imp fun da T1 h2 x H1 ρ1 p1 => ?_⟩
  have h4 : RX L Z ρ H (fun c d H' => W c d σ H') ((do let ds ← derefs [da]; ofO (bip b ds) : Mo (D × Bool)) T1) (fun r T' => ∀ v H' ρ', Post L Z ρ H v r.1 r.2 H' T' ρ' → Q v H') := h2
  obtain ⟨ds', T', e, h5⟩ := h4.bind.derefs
  obtain ⟨rfl, pq⟩ := paired_rq p1.bs (.cons p1.ro .nil) e
  obtain ⟨r, e2, h6⟩ := h5.ofO
  obtain ⟨l, e3⟩ := hb _ _ e2
  cases pq with
  | cons q1 q =>
    cases q
    rcases rng_inv e3 with ⟨n, e4, s1, _⟩ | ⟨i, j, e4, _⟩ | ⟨i, j, e4, _⟩
    · cases e4
      exact ⟨n, Z, ρ1, _, r, rq_int q1, s1, p1.bs, e2, fun v H' ρ' q => h6 v H' ρ' (Post.after p1.fr q)⟩
    · cases e4
    · cases e4
theorem lst_rng : ∀ ds r, bip .lstRng ds = some r → ∃ l, rngop ds = some l := fun ds r e => by
  have e : ((rngop ds).bind fun l => if l.length ≤ SZ then some (D.lst l, true) else none) = some r := by simpa [bip] using e
  obtain ⟨l, e1, _⟩ := Option.bind_eq_some_iff.mp e
  exact ⟨l, e1⟩
theorem tup_rng : ∀ ds r, bip .tupRng ds = some r → ∃ l, rngop ds = some l := fun ds r e => by
  have e : ((rngop ds).bind fun l => if l.length ≤ SZ then some (D.tup l, false) else none) = some r := by simpa [bip] using e
  obtain ⟨l, e1, _⟩ := Option.bind_eq_some_iff.mp e
  exact ⟨l, e1⟩
theorem rngop2 {i j : Int} (s1 : smallI i = true) (s2 : smallI j = true) : rngop [.int i, .int j] = some (rngL i j 1) := by
  show (if (smallI i && smallI j) = true then some (rngL i j 1) else none) = _
  rw [s1, s2]; rfl
theorem rngop1 {i : Int} (s1 : smallI i = true) : rngop [.int i] = some (rngL 0 i 1) := by
  show (if smallI i = true then some (rngL 0 i 1) else none) = _
  rw [s1]; rfl
theorem pe_lrng2 {ea eb : Expr} {ma mb : M} {p1 p2 p3 p4 : Pos} (hc : X.calm = true) (hg : Gl X "list") (hm : X.mg "list" = none) (hg2 : Gl X "range") (hm2 : X.mg "range" = none) (ha : PE X ea (tO L P call W ma)) (hb : PE X eb (tO L P call W mb))
    (na : starEach [ea, eb] X.env = (false, eval ea X.env) :: starEach [eb] X.env) (nb : starEach [eb] X.env = (false, eval eb X.env) :: starEach [] X.env) (hp : (backTo p3 (starEach [eb] X.env)).any (·.1) = false) :
    PE X (.Call (.Name "list" p1) [.Call (.Name "range" p2) [ea, eb] [] p3] [] p4) (tV L P call W (.bi .lstRng [ma, mb])) :=
  impE (pe_listRg hc hg hm (prg_2 hg2 hm2 ha hb na nb hp)) fun σ H Q h => by
    have h := lrng_read2 h lst_rng
    obtain ⟨Z, env, T, ρ, er, h⟩ := h
    refine ⟨Z, env, T, ρ, er, h.imp fun da T1 h2 x H1 ρ1 p1 => ?_⟩
    obtain ⟨Z, env, T, ρ, er, h⟩ := h2 x H1 ρ1 p1
    refine ⟨Z, env, T, ρ, er, h.imp fun db T2 h3 y H2 ρ2 p2 => ?_⟩
    obtain ⟨i, j, Z, ρ, T, r, rfl, rfl, s1, s2, b, e, k⟩ := h3 y H2 ρ2 p2
    have e : ((rngop [.int i, .int j]).bind fun l => if l.length ≤ SZ then some (D.lst l, true) else none) = some r := by simpa [bip] using e
    rw [rngop2 s1 s2, Option.bind_some] at e
    split at e
    · rename_i hl
      cases e
      exact ⟨i, j, rfl, rfl, rng_ok s1 s2 hl, fun q hq => k _ _ _ (Post.newLst b hq (rgV_reps i j))⟩
    · cases e
theorem pe_lrng1 {ea : Expr} {ma : M} {p1 p2 p3 p4 : Pos} (hc : X.calm = true) (hg : Gl X "list") (hm : X.mg "list" = none) (hg2 : Gl X "range") (hm2 : X.mg "range" = none) (ha : PE X ea (tO L P call W ma))
    (na : starEach [ea] X.env = (false, eval ea X.env) :: starEach [] X.env) : PE X (.Call (.Name "list" p1) [.Call (.Name "range" p2) [ea] [] p3] [] p4) (tV L P call W (.bi .lstRng [ma])) :=
  impE (pe_listRg hc hg hm (prg_1 hg2 hm2 ha na)) fun σ H Q h => by
    have h := lrng_read1 h lst_rng
    obtain ⟨Z, env, T, ρ, er, h⟩ := h
    refine ⟨Z, env, T, ρ, er, h.imp fun db T2 h3 y H2 ρ2 p2 => ?_⟩
    obtain ⟨i, Z, ρ, T, r, rfl, s1, b, e, k⟩ := h3 y H2 ρ2 p2
    have e : ((rngop [.int i]).bind fun l => if l.length ≤ SZ then some (D.lst l, true) else none) = some r := by simpa [bip] using e
    rw [rngop1 s1, Option.bind_some] at e
    split at e
    · rename_i hl
      cases e
      exact ⟨i, rfl, rng_ok (by decide) s1 hl, fun q hq => k _ _ _ (Post.newLst b hq (rgV_reps 0 i))⟩
    · cases e
theorem pe_trng1 {ea : Expr} {ma : M} {p1 p2 p3 p4 : Pos} (hc : X.calm = true) (hg : Gl X "tuple") (hm : X.mg "tuple" = none) (hg2 : Gl X "range") (hm2 : X.mg "range" = none) (ha : PE X ea (tO L P call W ma))
    (na : starEach [ea] X.env = (false, eval ea X.env) :: starEach [] X.env) : PE X (.Call (.Name "tuple" p1) [.Call (.Name "range" p2) [ea] [] p3] [] p4) (tV L P call W (.bi .tupRng [ma])) :=
  impE (pe_tupRg hc hg hm (prg_1 hg2 hm2 ha na)) fun σ H Q h => by
    have h := lrng_read1 h tup_rng
    obtain ⟨Z, env, T, ρ, er, h⟩ := h
    refine ⟨Z, env, T, ρ, er, h.imp fun db T2 h3 y H2 ρ2 p2 => ?_⟩
    obtain ⟨i, Z, ρ, T, r, rfl, s1, b, e, k⟩ := h3 y H2 ρ2 p2
    have e : ((rngop [.int i]).bind fun l => if l.length ≤ SZ then some (D.tup l, false) else none) = some r := by simpa [bip] using e
    rw [rngop1 s1, Option.bind_some] at e
    split at e
    · rename_i hl
      cases e
      exact ⟨i, rfl, rng_ok (by decide) s1 hl, fun q hq => k _ _ _ (Post.newTup b hq (rgV_reps 0 i))⟩
    · cases e
end
/-- enumerate's rule -/
def EnumD (L : Lk) (X : Cx) : Prop := ∀ (elts : List Expr) (kk : Nat) (tpos : Pos) (pins : List (Addr × Obj)) (s : Shared) (σ : L2.St) (H : Hp) (x : V) (u : Value) (Z : Addr → Prop) (ρ : List Addr) (d : D) (xs : List D) (R : It → Hp → Prop), L2.Inv X pins σ H s → RelV x u → RO L Z ρ H d x → items 2 [d] = some xs →
  (∀ J, Wk L H [d] [x] J xs → R J H) → wpAny (model X.prog X.w) X.A (PySem.call (.type "enumerate") [u]) (fun it s2 => wpAny (model X.prog X.w) X.A (pyIter it) (PIE X pins σ (.Tuple elts kk tpos) R) X.xe s2) X.xe s
theorem pi_enumV {L : Lk} {P : Pg} {call : CallF} {W : WX} {X : Cx} {elts : List Expr} {kk : Nat} {tpos : Pos} {a : Expr} {it : List M} {p pos : Pos} (hE : EnumD L X) (hg : Gl X "enumerate") (hm : X.mg "enumerate" = none) (ha : PA X [a] (tXs L P call W it)) (hs : starEach [a] X.env = [(false, eval a X.env)]) :
    PI X (.Tuple elts kk tpos) (.Call (.Name "enumerate" p) [a] [] pos) (tI L P call W it 2) := by
  refine ⟨fun pins s σ H R I h => ?_⟩
  refine Call_ (ld_blt I hg hm boot_enumerate (PyProof.Rows.callWith_type1 (thn (ha.run pos pins s σ H _ I (tOs_evo h)) fun us s1 ⟨vs, H1, I1, r1, Z, ρ, T, ds, xs, b, pr, hl, ei, k⟩ => ?_) hs rfl))
  cases r1 with
  | nil => cases pr; simp [items] at ei
  | cons rx rr =>
    cases pr with
    | cons q1 q2 =>
      cases rr with
      | nil => cases q2; exact hE elts kk tpos pins s1 σ H1 _ _ Z ρ _ xs R I1 rx q1 ei k
      | cons _ _ => cases q2 with | cons _ _ => simp [items] at ei
/-- sorted(set(..)) -/
def SetD (L : Lk) (X : Cx) (nm : Str) (b : BI) : Prop := ∀ (P : Pg) (call : CallF) (W : WX) (ea : Expr) (ma : M) (p1 p2 p3 p4 : Pos), Gl X nm → X.mg nm = none → Gl X "set" → X.mg "set" = none → PE X ea (tO L P call W ma) → starEach [ea] X.env = (false, eval ea X.env) :: starEach [] X.env →
  PE X (.Call (.Name nm p1) [.Call (.Name "set" p2) [ea] [] p3] [] p4) (tV L P call W (.bi b [ma]))
/-- the rules that are shown later: dicts, sorted, methods -/
structure DH (L : Lk) (X : Cx) : Prop where
  sorted : BiD L X (.builtin "sorted") .sorted
  sortSet : SetD L X "sorted" .sortSet
  walk : WalkDic L X
  mt : ∀ m x, mtName m = some x → MtD L X (mtSig m).2 m
  disp : DispD L X
  enum : EnumD L X
  dict : BiD L X (.type "dict") .dict
  ix : IxDic L X
  isIn : CmD L X .In .isIn
  notIn : CmD L X .NotIn .notIn
  len : BiD L X (.builtin "len") .len
  list : BiD L X (.type "list") .list
  set : SetDic L X
structure GX (C : Ck) (L : Lk) (call : CallF) (k : Nat) (lam : Bool) (sc : Scope) (W : WX) (X : Cx) : Prop where
  hK : X.K = L.K
  calm : X.calm = true
  nd : X.N.Nodup
  hN : X.N = C.N
  hsc : X.env.scope = sc
  tk : Takes X W
  room : Room (k + if lam then 2 else 0) X.A
  fns : FnsOk L C.P call k X
  glo : GlobOk L C.P C.G X.K X.mg
  exm : ExmOk X.K L.ca C.P.nc
  dh : ∀ Y : Cx, Y.K = L.K → Y.w = L.w → Y.calm = true → Room 0 Y.A → DH L Y
  hw : X.w = L.w
  lm : lam = true → ∃ c P0, LamX.TabB X.base X.mg c P0 ∧ X.env.code = .ref c ∧ (P0, X.env.qual ++ "<lambda>") ∈ L.tl ∧ ∀ p ∈ L.tl, p.1 = P0 → p.2 = X.env.qual ++ "<lambda>"
section
variable {C : Ck} {L : Lk} {call : CallF} {k : Nat} {lam : Bool} {sc : Scope} {W : WX} {X : Cx}
theorem GX.rk (g : GX C L call k lam sc W X) : Room k X.A := g.room.mono (Nat.le_add_right _ _)
theorem GX.u80 (g : GX C L call k lam sc W X) : X.A.units + 80 < cLine := by have := g.room.un; omega
theorem GX.u64 (g : GX C L call k lam sc W X) : X.A.units + 64 < cLine := by have := g.room.un; omega
theorem GX.d (g : GX C L call k lam sc W X) : DH L X := g.dh X g.hK g.hw g.calm (g.room.mono (Nat.zero_le _))
theorem plainN_of {x : Str} (h : plainN x = true) : (x == ("__debug__" : Str)) = false ∧ (x == ("__classdict__" : Str)) = false ∧ x ≠ "__name__" := by
  unfold plainN at h
  simp only [Bool.and_eq_true, Bool.not_eq_true'] at h
  exact ⟨h.1.1, h.1.2, fun e => by rw [e] at h; simp at h⟩
theorem GX.glob (g : GX C L call k lam sc W X) {x : Str} {v : GV} (h : gloB C.G sc x v = true) : Gl X x ∧ plainN x = true ∧ C.G.lookup x = some v := by
  unfold gloB at h
  simp only [Bool.and_eq_true, decide_eq_true_eq] at h
  exact ⟨by unfold Gl PySem.Env.kindOf; rw [g.hsc]; exact h.1.1, h.1.2, h.2⟩
theorem GX.nm (g : GX C L call k lam sc W X) {x : Str} {i : Nat} (h : nmB C.N sc i x = true) : X.N[i]? = some x ∧ Vis X.env.scope x ∧ plainN x = true := by
  unfold nmB visB at h
  simp only [Bool.and_eq_true, decide_eq_true_eq] at h
  refine ⟨by rw [g.hN]; exact h.1.1, ?_, h.2⟩
  rw [g.hsc]
  have h := h.1.2
  split at h
  · rename_i e; exact .inl e
  · rename_i e; exact .inr (.inl e)
  · rename_i e; exact .inr (.inr e)
  · cases h
/-- in a comprehension's block -/
theorem GX.blk (g : GX C L call k lam sc W X) (raw : Scope) (s : Shared) (H : Hp) (Cl : Addr) (cl : List (Str × Addr)) (fp : List Addr) : GX C L call k false (relS raw sc) WF0 (X.blk s H raw (compEnvC raw cl Cl X.env) fp) where
  hK := g.hK
  calm := g.calm
  nd := g.nd
  hN := g.hN
  hsc := by rw [← g.hsc]; rfl
  tk := LamX.takes0
  room := g.rk
  fns := g.fns
  glo := g.glo
  exm := g.exm
  dh := g.dh
  hw := g.hw
  lm := fun h => nomatch h
/-- in a lambda -/
theorem GX.lamC (g : GX C L call k lam sc W X) {raw : Scope} {A : Around} {outer : List PySem.Env} {s : Shared} {H : Hp} {E : XK} {f c' : Addr} (hr : Room k (A.deeper (LamX.lamEnv X raw s.heap.objs.size f c'))) : GX C L call k false raw (fun c d _ H => E c d H) (LamX.lamCx X A outer s H E raw f c') where
  hK := g.hK
  calm := rfl
  nd := g.nd
  hN := g.hN
  hsc := rfl
  tk := takes_of rfl rfl rfl rfl
  room := hr
  fns := g.fns
  glo := g.glo
  exm := g.exm
  dh := g.dh
  hw := g.hw
  lm := fun h => nomatch h
/-- a comparison's rule -/
theorem GX.cm (g : GX C L call k lam sc W X) : ∀ o : CO, CmD L X (c2 o) o
  | .eq => cm_eq g.hK g.u64 | .ne => cm_ne g.hK g.u64 | .lt => cm_lt g.hK g.u64 | .le => cm_le g.hK g.u64 | .gt => cm_gt g.hK g.u64 | .ge => cm_ge g.hK g.u64
  | .isIn => g.d.isIn | .notIn => g.d.notIn | .is => cm_is | .isNot => cm_isNot
/-- a built-in's rule -/
theorem GX.bi (g : GX C L call k lam sc W X) {b : BI} {x : Str} (h : biName b = some x) : ∃ id, (BiD L X (.builtin id) b ∧ bootBuiltins x = some (.builtin id)) ∨ (BiD L X (.type id) b ∧ bootBuiltins x = some (.type id)) := by
  cases b <;> simp only [biName, Option.some.injEq, reduceCtorEq] at h <;> subst h
  · exact ⟨"len", .inl ⟨g.d.len, by decide +kernel⟩⟩
  · exact ⟨"sorted", .inl ⟨g.d.sorted, by decide +kernel⟩⟩
  · exact ⟨"tuple", .inr ⟨bi_tuple g.hK, by decide +kernel⟩⟩
  · exact ⟨"list", .inr ⟨g.d.list, by decide +kernel⟩⟩
  · exact ⟨"dict", .inr ⟨g.d.dict, by decide +kernel⟩⟩
  · exact ⟨"all", .inl ⟨bi_all g.calm, by decide +kernel⟩⟩
  · exact ⟨"any", .inl ⟨bi_any g.calm, by decide +kernel⟩⟩
  · exact ⟨"sum", .inl ⟨bi_sum g.calm, by decide +kernel⟩⟩
  · exact ⟨"max", .inl ⟨bi_max g.hK g.calm g.u64, by decide +kernel⟩⟩
  · exact ⟨"min", .inl ⟨bi_min g.hK g.calm g.u64, by decide +kernel⟩⟩
  · exact ⟨"abs", .inl ⟨bi_abs, by decide +kernel⟩⟩
  · exact ⟨"int", .inr ⟨bi_int, by decide +kernel⟩⟩
  · exact ⟨"str", .inr ⟨bi_str, by decide +kernel⟩⟩
theorem tyN_boot {c : Ty} (h : c ≠ .non) : bootBuiltins (tyN c) = some (.type (tyS c)) := by
  cases c <;> first | exact absurd rfl h | decide +kernel
theorem nmS_ok {Y : Cx} {raw : Scope} (hN : Y.N = C.N) (hsc : Y.env.scope = sc) (hfn : ∀ x, raw.names.lookup x = some .cell → Y.fn x = true) {i : Nat} {x : Str} {p : Pos} (nd : Y.N.Nodup) (h : tgB.nmS C.N raw sc i x = true) : PG Y (.Name x p) (gName i) := by
  unfold tgB.nmS at h
  simp only [Bool.and_eq_true, Bool.or_eq_true, decide_eq_true_eq] at h
  obtain ⟨h1, h2⟩ := h
  rcases h2 with h2 | ⟨h2, h3⟩
  · exact pg_name nd (hN ▸ h1) (.inl (hsc ▸ h2)) (.inr (hsc ▸ h2))
  · exact pg_name nd (hN ▸ h1) (.inr (hsc ▸ h2)) (.inl (hfn x h3))
theorem tgB_ok {Y : Cx} {raw : Scope} (hc : Y.calm = true) (hN : Y.N = C.N) (hsc : Y.env.scope = sc) (hfn : ∀ x, raw.names.lookup x = some .cell → Y.fn x = true) (nd : Y.N.Nodup) : ∀ {tg : Tg} {e : Expr}, tgB C.N raw sc tg e = true → PG Y e (tgG Y.K tg)
  | .nm i, e, h => by
    cases e <;> first | exact absurd (show false = true from h) Bool.false_ne_true | skip
    exact nmS_ok hN hsc hfn nd h
  | .tp is, e, h => by
    cases e <;> first | exact absurd (show false = true from h) Bool.false_ne_true | skip
    case Tuple es j p =>
      replace h : tgB.go C.N raw sc is es = true := h
      have key : ∀ {is : List Nat} {es : List Expr}, tgB.go C.N raw sc is es = true → PGs Y es (gNames is) ∧ (assignEach es Y.env).length = is.length ∧ (assignEach es Y.env).findIdx? (·.1) = none := by
        intro is
        induction is with
        | nil =>
          intro es h
          cases es with
          | nil => exact ⟨pgs_nil, rfl, rfl⟩
          | cons e es => exact absurd (show false = true from h) Bool.false_ne_true
        | cons i is ih =>
          intro es h
          cases es with
          | nil => exact absurd (show false = true from h) Bool.false_ne_true
          | cons e es =>
            cases e <;> first | exact absurd (show false = true from h) Bool.false_ne_true | skip
            case Name x p2 =>
              replace h : (tgB.nmS C.N raw sc i x && tgB.go C.N raw sc is es) = true := h
              rw [Bool.and_eq_true] at h
              obtain ⟨h1, h2, h3⟩ := ih h.2
              refine ⟨pgs_cons (nmS_ok hN hsc hfn nd h.1) h1, ?_, ?_⟩
              · show (assignEach (.Name x p2 :: es) Y.env).length = _
                rw [show assignEach (.Name x p2 :: es) Y.env = (false, assign (.Name x p2) Y.env) :: assignEach es Y.env from rfl, List.length_cons, h2, List.length_cons]
              · rw [show assignEach (.Name x p2 :: es) Y.env = (false, assign (.Name x p2) Y.env) :: assignEach es Y.env from rfl, List.findIdx?_cons, h3]; rfl
      obtain ⟨h1, h2, h3⟩ := key h
      exact pg_tup hc h1 h2 h3
end
end Sr
end

section
set_option autoImplicit false
set_option linter.all false
set_option Elab.async false
set_option maxHeartbeats 0
/-! Sr24: the checker is sound: expressions. -/
namespace Sr
open PySem PySem.Spec PyProof.Rows L2 SeqAt
section
variable {L : Lk} {P : Pg} {call : CallF} {W : WX} {X : Cx}
/-- an expression's readings -/
structure OE (L : Lk) (P : Pg) (call : CallF) (W : WX) (X : Cx) (e : Expr) (m : M) : Prop where
  v : PE X e (tV L P call W m)
  o : PE X e (tO L P call W m)
  a : PE X e (tM L P call W m)
  y : PE X e (tY L P call W m)
  x : PE X e (tX L P call W m)
theorem OE.of {e : Expr} {m : M} (hm : ∀ i, m ≠ .var i) (h : PE X e (tV L P call W m)) : OE L P call W X e m := ⟨h, PE.opd hm h, PE.arg hm h, PE.walk hm h, PE.obj hm h⟩
def isBo : Expr → Prop
  | .BoolOp _ _ _ => True
  | _ => False
/-- what the check of m against e gives -/
structure CK (L : Lk) (P : Pg) (call : CallF) (W : WX) (X : Cx) (e : Expr) (m : M) : Prop where
  oe : OE L P call W X e m
  pt : tstE m e = true → PT X e (tB' L P call W m)
  pw : tstE m e = true → isBo e → PW X e (tB' L P call W m)
theorem CK.val {e : Expr} {m : M} (h : OE L P call W X e m) (hv : tstE m e = true → valT e = true) : CK L P call W X e m := ⟨h, fun t => pt_valV h.o (valT_ok (hv t)), fun t b => by
  have := hv t
  cases e <;> first | exact b.elim | cases this⟩
inductive OEs (L : Lk) (P : Pg) (call : CallF) (W : WX) (X : Cx) : List Expr → List M → Prop
  | nil : OEs L P call W X [] []
  | cons {e : Expr} {es : List Expr} {m : M} {ms : List M} (s : nstar e = true) (h : CK L P call W X e m) (t : OEs L P call W X es ms) : OEs L P call W X (e :: es) (m :: ms)
theorem OEs.star : ∀ {es : List Expr} {ms : List M}, OEs L P call W X es ms → es.all nstar = true
  | _, _, .nil => rfl
  | _, _, .cons s _ t => by rw [List.all_cons, s, t.star]; rfl
theorem OEs.len : ∀ {es : List Expr} {ms : List M}, OEs L P call W X es ms → es.length = ms.length
  | _, _, .nil => rfl
  | _, _, .cons _ _ t => by simp [t.len]
theorem OEs.paO : ∀ {es : List Expr} {ms : List M}, OEs L P call W X es ms → PA X es (tOs L P call W ms)
  | _, _, .nil => pa_nilO
  | _, _, .cons s h t => pa_consO h.oe.o t.paO (star_cons s)
theorem OEs.paV : ∀ {es : List Expr} {ms : List M}, OEs L P call W X es ms → PA X es (tVs L P call W ms)
  | _, _, .nil => pa_nilV
  | _, _, .cons s h t => pa_consV h.oe.v t.paV (star_cons s)
theorem OEs.paM : ∀ {es : List Expr} {ms : List M}, OEs L P call W X es ms → PA X es (tMs L P call W ms)
  | _, _, .nil => pa_nilM
  | _, _, .cons s h t => pa_consM h.oe.a t.paM (star_cons s)
theorem OEs.paX : ∀ {es : List Expr} {ms : List M}, OEs L P call W X es ms → PA X es (tXs L P call W ms)
  | _, _, .nil => pa_nilX
  | _, _, .cons s h t => pa_consX h.oe.y t.paX (star_cons s)
end
theorem and_inv {a b : Bool} (h : (a && b) = true) : a = true ∧ b = true := by simpa using h
theorem dec_of {p : Prop} [Decidable p] (h : decide p = true) : p := of_decide_eq_true h
theorem isi_inv {C : Ck} {lam : Bool} {ts : List Ty} {ms : List M} {sc : Scope} {e : Expr} (h : chkE C lam (.bi (.isinst ts) ms) sc e = true) :
    (∃ c m x p1 ea y p2 p, ts = [c] ∧ ms = [m] ∧ e = .Call (.Name x p1) [ea, .Name y p2] [] p ∧ (decide (x = "isinstance") && gloB C.G sc x .non && decide (y = tyN c) && decide (c ≠ .non) && gloB C.G sc y .non && nstar ea && chkE C lam m sc ea) = true) ∨
    (∃ c d m x p1 ea y p2 z p3 j p4 p, ts = [c, d] ∧ ms = [m] ∧ e = .Call (.Name x p1) [ea, .Tuple [.Name y p2, .Name z p3] j p4] [] p ∧ (decide (x = "isinstance") && gloB C.G sc x .non && decide (y = tyN c) && decide (c ≠ .non) && gloB C.G sc y .non && decide (z = tyN d) && decide (d ≠ .non) && gloB C.G sc z .non && nstar ea && chkE C lam m sc ea) = true) := by
  unfold chkE at h
  split at h <;> rename_i q <;> first
    | (cases q; done)
    | (cases h; done)
    | skip
  · cases q
    exact .inl ⟨_, _, _, _, _, _, _, _, rfl, rfl, rfl, h⟩
  · cases q
    exact .inr ⟨_, _, _, _, _, _, _, _, _, _, _, _, _, rfl, rfl, rfl, h⟩
  · cases q
    simp [biName] at h
theorem dic_inv {C : Ck} {lam : Bool} {ks vs : List M} {sc : Scope} {e : Expr} (h : chkE C lam (.dic ks vs) sc e = true) :
    (ks = [] ∧ vs = [] ∧ ∃ p, e = .Dict [] [] p) ∨ ∃ mk mv ek ev p, ks = [mk] ∧ vs = [mv] ∧ e = .Dict [some ek] [ev] p ∧ (chkE C lam mk sc ek && chkE C lam mv sc ev) = true := by
  unfold chkE at h
  split at h <;> rename_i q <;> first
    | (cases q; done)
    | (cases h; done)
    | skip
  · cases q
    exact .inl ⟨rfl, rfl, _, rfl⟩
  · cases q
    exact .inr ⟨_, _, _, _, _, rfl, rfl, rfl, h⟩
theorem lrng_inv {C : Ck} {lam : Bool} {ms : List M} {sc : Scope} {e : Expr} (h : chkE C lam (.bi .lstRng ms) sc e = true) :
    (∃ ma mb x p1 y p2 ea eb p3 p, ms = [ma, mb] ∧ e = .Call (.Name x p1) [.Call (.Name y p2) [ea, eb] [] p3] [] p ∧ (decide (x = "list") && decide (y = "range") && gloB C.G sc x .non && gloB C.G sc y .non && nstar ea && nstar eb && chkE C lam ma sc ea && chkE C lam mb sc eb) = true) ∨
    (∃ ma x p1 y p2 ea p3 p, ms = [ma] ∧ e = .Call (.Name x p1) [.Call (.Name y p2) [ea] [] p3] [] p ∧ (decide (x = "list") && decide (y = "range") && gloB C.G sc x .non && gloB C.G sc y .non && nstar ea && chkE C lam ma sc ea) = true) := by
  unfold chkE at h
  split at h <;> rename_i q <;> first
    | (cases q; done)
    | (cases h; done)
    | skip
  · cases q
    exact .inl ⟨_, _, _, _, _, _, _, _, _, _, rfl, rfl, h⟩
  · cases q
    exact .inr ⟨_, _, _, _, _, _, _, _, rfl, rfl, h⟩
  · cases q
    simp [biName] at h
theorem trng_inv {C : Ck} {lam : Bool} {ms : List M} {sc : Scope} {e : Expr} (h : chkE C lam (.bi .tupRng ms) sc e = true) :
    (∃ ma x p1 y p2 ea p3 p, ms = [ma] ∧ e = .Call (.Name x p1) [.Call (.Name y p2) [ea] [] p3] [] p ∧ (decide (x = "tuple") && decide (y = "range") && gloB C.G sc x .non && gloB C.G sc y .non && nstar ea && chkE C lam ma sc ea) = true) := by
  unfold chkE at h
  split at h <;> rename_i q <;> first
    | (cases q; done)
    | (cases h; done)
    | skip
  · cases q
    exact ⟨_, _, _, _, _, _, _, _, rfl, rfl, h⟩
  · cases q
    simp [biName] at h
theorem sset_inv {C : Ck} {lam : Bool} {ms : List M} {sc : Scope} {e : Expr} (h : chkE C lam (.bi .sortSet ms) sc e = true) :
    (∃ ma x p1 y p2 ea p3 p, ms = [ma] ∧ e = .Call (.Name x p1) [.Call (.Name y p2) [ea] [] p3] [] p ∧ (decide (x = "sorted") && decide (y = "set") && gloB C.G sc x .non && gloB C.G sc y .non && nstar ea && chkE C lam ma sc ea) = true) := by
  unfold chkE at h
  split at h <;> rename_i q <;> first
    | (cases q; done)
    | (cases h; done)
    | skip
  · cases q
    exact ⟨_, _, _, _, _, _, _, _, rfl, rfl, h⟩
  · cases q
    simp [biName] at h
theorem mt_inv {C : Ck} {lam : Bool} {m : MT} {a : M} {ms : List M} {sc : Scope} {e : Expr} (h : chkE C lam (.mt m a ms) sc e = true) :
    ∃ ea x pa eb es pc, e = .Call (.Attribute ea x pa) (eb :: es) [] pc ∧ (decide (mtName m = some x) && objB ea && (pa.endLine == pc.line) && decide (ms.length < 20) && chkE C lam a sc ea && chkEs C lam ms sc (eb :: es)) = true := by
  unfold chkE at h
  split at h <;> rename_i q <;> first
    | (cases q; done)
    | (cases h; done)
    | skip
  cases q
  exact ⟨_, _, _, _, _, _, rfl, h⟩
theorem lam_inv {C : Ck} {lam : Bool} {f : Nat} {b : M} {z : Str} {sc : Scope} {e : Expr} (h : chkE C lam (.lam f b z) sc e = true) :
    ∃ x p1 eb raw p2 z' j p3 p, e = .Call (.Name x p1) [.Lambda ⟨[], [], none, [], [], none, []⟩ eb raw p2, .Constant (.str z') j p3] [] p ∧ (lam && decide (z = z') && gloB C.G sc x (.lam f) && LamX.lamSB sc raw && chkE C false b raw eb) = true := by
  unfold chkE at h
  split at h <;> rename_i q <;> first
    | (cases q; done)
    | (cases h; done)
    | skip
  cases q
  exact ⟨_, _, _, _, _, _, _, _, _, rfl, h⟩
/-- what is walked -/
def iterB (C : Ck) (lam : Bool) (it : List M) (k : Nat) (sc : Scope) (te ie : Expr) : Bool := match k, ie with
    | 0, e => notSet e && decide (it.length = 1) && chkEs C lam it sc [e]
    | 1, .Call (.Name x _) es [] _ => decide (x = "range") && gloB C.G sc x .non && decide (1 ≤ it.length ∧ it.length ≤ 3) && chkEs C lam it sc es
    | 2, .Call (.Name x _) es [] _ => decide (x = "enumerate") && gloB C.G sc x .non && tupE te && decide (it.length = 1) && chkEs C lam it sc es
    | 3, .Call (.Name x _) es [] _ => decide (x = "zip") && gloB C.G sc x .non && tupE te && decide (it.length = 2) && chkEs C lam it sc es
    | _, _ => false
theorem comp_inv {C : Ck} {lam : Bool} {m : M} {tg : Tg} {k : Nat} {it cond : List M} {sc : Scope} {e : Expr} (h : chkE C lam (.comp m tg k it cond) sc e = true) :
    ∃ ee te ie ifs raw p, e = .ListComp ee [⟨te, ie, ifs, 0⟩] raw p ∧ (blkC C.N sc raw (ownOf C.N tg.slots) && decide ((ownOf C.N tg.slots).map (·.2) = tg.slots) && tgB C.N raw (relS raw sc) tg te && iterB C lam it k sc te ie && chkEs C false cond (relS raw sc) ifs && tstEs cond ifs && chkE C false m (relS raw sc) ee) = true := by
  unfold chkE at h
  split at h <;> rename_i q <;> first
    | (cases q; done)
    | (cases h; done)
    | skip
  cases q
  exact ⟨_, _, _, _, _, _, rfl, h⟩
theorem iter_inv {C : Ck} {lam : Bool} {it : List M} {k : Nat} {sc : Scope} {te ie : Expr} (h : iterB C lam it k sc te ie = true) : (k = 0 ∧ (notSet ie && decide (it.length = 1) && chkEs C lam it sc [ie]) = true) ∨
    (k = 1 ∧ ∃ x p1 es p, ie = .Call (.Name x p1) es [] p ∧ (decide (x = "range") && gloB C.G sc x .non && decide (1 ≤ it.length ∧ it.length ≤ 3) && chkEs C lam it sc es) = true) ∨
    (k = 2 ∧ ∃ x p1 es p, ie = .Call (.Name x p1) es [] p ∧ (decide (x = "enumerate") && gloB C.G sc x .non && tupE te && decide (it.length = 1) && chkEs C lam it sc es) = true) ∨
    (k = 3 ∧ ∃ x p1 es p, ie = .Call (.Name x p1) es [] p ∧ (decide (x = "zip") && gloB C.G sc x .non && tupE te && decide (it.length = 2) && chkEs C lam it sc es) = true) := by
  unfold iterB at h
  split at h
  · exact .inl ⟨rfl, h⟩
  · exact .inr (.inl ⟨rfl, _, _, _, _, rfl, h⟩)
  · exact .inr (.inr (.inl ⟨rfl, _, _, _, _, rfl, h⟩))
  · exact .inr (.inr (.inr ⟨rfl, _, _, _, _, rfl, h⟩))
  · cases h
/-- what is walked: its rule, from the operands' -/
theorem iter_ok {L : Lk} {call : CallF} {kf : Nat} {C : Ck} {lam : Bool} {sc : Scope} {W : WX} {X : Cx} {it : List M} {k : Nat} {te ie : Expr} (g : GX C L call kf lam sc W X) (h : iterB C lam it k sc te ie = true) (ih : ∀ es, chkEs C lam it sc es = true → OEs L C.P call W X es it) :
    PI X te ie (tI L C.P call W it k) ∧ ∀ x, foldedSetIterable ie X.env x = pure x := by
  rcases iter_inv h with ⟨rfl, h⟩ | ⟨rfl, x, p1, es, p, rfl, h⟩ | ⟨rfl, x, p1, es, p, rfl, h⟩ | ⟨rfl, x, p1, es, p, rfl, h⟩
  · obtain ⟨h, h3⟩ := and_inv h
    obtain ⟨h1, h2⟩ := and_inv h
    have hes := ih _ h3
    cases hes with
    | cons s ho t =>
      cases t
      exact ⟨pi_plain g.hK g.d.walk ho.oe.y, folded_ok h1⟩
  · obtain ⟨h, h4⟩ := and_inv h
    obtain ⟨h, h3⟩ := and_inv h
    obtain ⟨h1, h2⟩ := and_inv h
    have h1 := dec_of h1
    subst h1
    obtain ⟨g1, g2, g3⟩ := g.glob h2
    have hm : X.mg "range" = none := g.glo _ _ g3
    have hes := ih _ h4
    have h3 := dec_of h3
    have pa := hes.paX
    have st := hes.star
    refine ⟨?_, fun x => rfl⟩
    cases hes with
    | nil => simp at h3
    | cons s1 ho1 t1 =>
      cases t1 with
      | nil => exact pi_rngV1 g1 hm pa (star_cons s1)
      | cons s2 ho2 t2 =>
        cases t2 with
        | nil => exact pi_rngV2 g1 hm pa rfl (by rw [star_cons s1, star_cons s2]; rfl) (by rw [star_cons s2]; rfl)
        | cons s3 ho3 t3 =>
          cases t3 with
          | nil => exact pi_rngV3 g1 hm pa rfl (star_cons s1) (star_any (by simp [s2, s3]))
          | cons s4 ho4 t4 => simp at h3
  · obtain ⟨h, h5⟩ := and_inv h
    obtain ⟨h, h4⟩ := and_inv h
    obtain ⟨h, h3⟩ := and_inv h
    obtain ⟨h1, h2⟩ := and_inv h
    have h1 := dec_of h1
    subst h1
    obtain ⟨g1, g2, g3⟩ := g.glob h2
    have hm : X.mg "enumerate" = none := g.glo _ _ g3
    have hes := ih _ h5
    have h4 := dec_of h4
    have pa := hes.paX
    refine ⟨?_, fun x => rfl⟩
    cases te <;> first | exact absurd (show false = true from h3) Bool.false_ne_true | skip
    cases hes with
    | nil => simp at h4
    | cons s1 ho1 t1 =>
      cases t1 with
      | cons s2 ho2 t2 => simp at h4
      | nil => exact pi_enumV g.d.enum g1 hm pa (star_cons s1)
  · obtain ⟨h, h5⟩ := and_inv h
    obtain ⟨h, h4⟩ := and_inv h
    obtain ⟨h, h3⟩ := and_inv h
    obtain ⟨h1, h2⟩ := and_inv h
    have h1 := dec_of h1
    subst h1
    obtain ⟨g1, g2, g3⟩ := g.glob h2
    have hm : X.mg "zip" = none := g.glo _ _ g3
    have hes := ih _ h5
    have h4 := dec_of h4
    have pa := hes.paX
    refine ⟨?_, fun x => rfl⟩
    cases te <;> first | exact absurd (show false = true from h3) Bool.false_ne_true | skip
    cases hes with
    | nil => simp at h4
    | cons s1 ho1 t1 =>
      cases t1 with
      | nil => simp at h4
      | cons s2 ho2 t2 =>
        cases t2 with
        | cons s3 ho3 t3 => simp at h4
        | nil => exact pi_zipV g.hK g1 hm pa (star_cons s1) (star_any (by simp [s2]))
section
variable {L : Lk} {call : CallF} {k : Nat} {C : Ck}
theorem bi_ck {lam : Bool} {sc : Scope} {W : WX} {X : Cx} (g : GX C L call k lam sc W X) {b : BI} {x : Str} {p p2 : Pos} {ea : Expr} {es : List Expr} {ms : List M} (h1 : biName b = some x) (h2 : gloB C.G sc x .non = true) (hes : OEs L C.P call W X (ea :: es) ms) : CK L C.P call W X (.Call (.Name x p2) (ea :: es) [] p) (.bi b ms) := by
  obtain ⟨g1, g2, g3⟩ := g.glob h2
  have hm : X.mg x = none := g.glo x _ g3
  obtain ⟨n1, n2, n3⟩ := plainN_of g2
  have st := hes.star
  rw [List.all_cons] at st
  obtain ⟨s1, s2⟩ := and_inv st
  obtain ⟨id, ⟨hb, hv⟩ | ⟨hb, hv⟩⟩ := g.bi h1
  · exact .val (.of (fun _ q => nomatch q) (pe_biB hb g1 hm hv hes.paO n3 n1 (star_cons s1) (star_any s2))) fun t => t
  · exact .val (.of (fun _ q => nomatch q) (pe_biT hb g1 hm hv hes.paO n3 n1 (star_cons s1) (star_any s2))) fun t => t
mutual
theorem chk_ok : ∀ (m : M) (lam : Bool) (sc : Scope) (e : Expr) (W : WX) (X : Cx), GX C L call k lam sc W X → chkE C lam m sc e = true → CK L C.P call W X e m
  | .var i, lam, sc, e, W, X, g, h => by
    cases e <;> first | exact absurd (show false = true from h) Bool.false_ne_true | skip
    case Name x p =>
      replace h : nmB C.N sc i x = true := h
      obtain ⟨h1, h2, h3⟩ := g.nm h
      obtain ⟨h4, h5, _⟩ := plainN_of h3
      exact .val ⟨pe_varV h1 h2 h4 h5, pe_varO h1 h2 h4 h5, pe_varM h1 h2 h4 h5, pe_varY h1 h2 h4 h5, pe_varX h1 h2 h4 h5⟩ fun t => t
  | .cst d, lam, sc, e, W, X, g, h => by
    cases e <;> first | exact absurd (show false = true from h) Bool.false_ne_true | skip
    case Constant c j p =>
      replace h : cstB d c = true := h
      refine .val (.of (fun _ q => nomatch q) ?_) fun t => t
      cases d <;> cases c <;> first | exact absurd (show false = true from h) Bool.false_ne_true | skip
      · exact pe_cstV rfl pe_non
      · rw [show _ = _ from eq_of_beq h]; exact pe_cstV rfl pe_bl
      · rw [show _ = _ from eq_of_beq h]; exact pe_cstV rfl pe_int
      · rw [show _ = _ from eq_of_beq h]; exact pe_cstV rfl pe_str
  | .gcst c, lam, sc, e, W, X, g, h => by
    cases e <;> first | exact absurd (show false = true from h) Bool.false_ne_true | skip
    case Name x p =>
      replace h : gloB C.G sc x (.con c) = true := h
      obtain ⟨h1, h2, h3⟩ := g.glob h
      obtain ⟨v, u, r, hm, rv⟩ := g.glo x _ h3
      exact .val (.of (fun _ q => nomatch q) (pe_gV (fun env => rfl) r (pe_glob h1 hm rv (plainN_of h2).1))) fun t => t
  | .fnv f, lam, sc, e, W, X, g, h => by
    cases e <;> first | exact absurd (show false = true from h) Bool.false_ne_true | skip
    case Name x p =>
      replace h : gloB C.G sc x (.fn f) = true := h
      obtain ⟨h1, h2, h3⟩ := g.glob h
      have hm : X.mg x = some (.ref (L.fa f)) := g.glo x _ h3
      exact .val (.of (fun _ q => nomatch q) (pe_gV (d := .fn f) (v := .ref (L.fa f)) (fun env => rfl) (fun ρ H => by simp [Rep]) (pe_glob h1 hm rfl (plainN_of h2).1))) fun t => t
  | .tup ms, lam, sc, e, W, X, g, h => by
    cases e <;> first | exact absurd (show false = true from h) Bool.false_ne_true | skip
    case Tuple es j p =>
      replace h : (chkEs C lam ms sc es && decide (ms.length ≤ 1000)) = true := h
      obtain ⟨h1, h2⟩ := and_inv h
      exact .val (.of (fun _ q => nomatch q) (pe_tupV (chks_ok ms lam sc es W X g h1).paV (dec_of h2))) fun t => t
  | .lst ms, lam, sc, e, W, X, g, h => by
    cases e <;> first | exact absurd (show false = true from h) Bool.false_ne_true | skip
    case List es p =>
      replace h : (chkEs C lam ms sc es && decide (ms.length ≤ 1000)) = true := h
      obtain ⟨h1, h2⟩ := and_inv h
      exact .val (.of (fun _ q => nomatch q) (pe_lstV (chks_ok ms lam sc es W X g h1).paV (dec_of h2))) fun t => t
  | .dic ks vs, lam, sc, e, W, X, g, h => by
    rcases dic_inv h with ⟨rfl, rfl, p, rfl⟩ | ⟨mk, mv, ek, ev, p, rfl, rfl, rfl, h⟩
    · exact .val (.of (fun _ q => nomatch q) pe_dic0V) fun t => t
    · obtain ⟨h1, h2⟩ := and_inv h
      exact .val (.of (fun _ q => nomatch q) (pe_dic1V g.d.disp (chk_ok mk lam sc ek W X g h1).oe.v (chk_ok mv lam sc ev W X g h2).oe.v)) fun t => t
  | .op2 o a b, lam, sc, e, W, X, g, h => by
    cases e <;> first | exact absurd (show false = true from h) Bool.false_ne_true | skip
    case BinOp ea op eb p =>
      replace h : (decide (o2 o = op) && chkE C lam a sc ea && chkE C lam b sc eb) = true := h
      obtain ⟨h, h3⟩ := and_inv h
      obtain ⟨h1, h2⟩ := and_inv h
      have h1 := dec_of h1
      subst h1
      exact .val (.of (fun _ q => nomatch q) (pe_op2 (op_all g.hK o) (chk_ok a lam sc ea W X g h2).oe.o (chk_ok b lam sc eb W X g h3).oe.o)) fun t => t
  | .neg a, lam, sc, e, W, X, g, h => by
    cases e <;> first | exact absurd (show false = true from h) Bool.false_ne_true | skip
    case UnaryOp op ea p =>
      cases op <;> first | exact absurd (show false = true from h) Bool.false_ne_true | skip
      replace h : chkE C lam a sc ea = true := h
      exact .val (.of (fun _ q => nomatch q) (pe_negV (chk_ok a lam sc ea W X g h).oe.o)) fun t => t
  | .cmp o a b, lam, sc, e, W, X, g, h => by
    cases e <;> first | exact absurd (show false = true from h) Bool.false_ne_true | skip
    case Compare ea ops es p =>
      rcases ops with _ | ⟨op, _ | ⟨op', ops⟩⟩ <;> rcases es with _ | ⟨eb, _ | ⟨ec, es⟩⟩ <;> first | exact absurd (show false = true from h) Bool.false_ne_true | skip
      replace h : (decide (c2 o = op) && notSet eb && chkE C lam a sc ea && chkE C lam b sc eb) = true := h
      obtain ⟨h, h4⟩ := and_inv h
      obtain ⟨h, h3⟩ := and_inv h
      obtain ⟨h1, h2⟩ := and_inv h
      have h1 := dec_of h1
      subst h1
      have ha := (chk_ok a lam sc ea W X g h3).oe.o
      have hb := (chk_ok b lam sc eb W X g h4).oe.o
      exact ⟨.of (fun _ q => nomatch q) (pe_cmpV (g.cm o) ha hb (back_behind h2)), fun _ => pt_cmpV (g.cm o) ha hb (back_behind h2), fun _ q => q.elim⟩
  | .chn o o' a b c, lam, sc, e, W, X, g, h => by
    cases e <;> first | exact absurd (show false = true from h) Bool.false_ne_true | skip
    case Compare ea ops es p =>
      rcases ops with _ | ⟨op, _ | ⟨op', _ | ⟨op'', ops⟩⟩⟩ <;> rcases es with _ | ⟨eb, _ | ⟨ec, _ | ⟨ed, es⟩⟩⟩ <;> first | exact absurd (show false = true from h) Bool.false_ne_true | skip
      replace h : (decide (c2 o = op) && decide (c2 o' = op') && notSet ec && chkE C lam a sc ea && chkE C lam b sc eb && chkE C lam c sc ec) = true := h
      obtain ⟨h, h6⟩ := and_inv h
      obtain ⟨h, h5⟩ := and_inv h
      obtain ⟨h, h4⟩ := and_inv h
      obtain ⟨h, h3⟩ := and_inv h
      obtain ⟨h1, h2⟩ := and_inv h
      have h1 := dec_of h1
      subst h1
      have h2 := dec_of h2
      subst h2
      have ha := (chk_ok a lam sc ea W X g h4).oe.o
      have hb := (chk_ok b lam sc eb W X g h5).oe.o
      have hc := (chk_ok c lam sc ec W X g h6).oe.o
      exact ⟨.of (fun _ q => nomatch q) (pe_chnV (g.cm o) (g.cm o') ha hb hc (back_behind h3)), fun _ => pt_chnV (g.cm o) (g.cm o') ha hb hc (back_behind h3), fun _ q => q.elim⟩
  | .and a b, lam, sc, e, W, X, g, h => by
    cases e <;> first | exact absurd (show false = true from h) Bool.false_ne_true | skip
    case BoolOp bo es p =>
      cases bo <;> rcases es with _ | ⟨ea, _ | ⟨eb, rest⟩⟩ <;> first | exact absurd (show false = true from h) Bool.false_ne_true | skip
      cases rest with
      | nil =>
        replace h : (chkE C lam a sc ea && chkE C lam b sc eb) = true := h
        obtain ⟨h1, h2⟩ := and_inv h
        have ca := chk_ok a lam sc ea W X g h1
        have cb := chk_ok b lam sc eb W X g h2
        have pw : tstE (.and a b) (.BoolOp .And [ea, eb] p) = true → PW X (.BoolOp .And [ea, eb] p) (tB' L C.P call W (.and a b)) := fun t => by
          replace t : (tstE a ea && tstE b eb) = true := t
          obtain ⟨t1, t2⟩ := and_inv t
          exact pw_andV (ca.pt t1) (pw_and1 (cb.pt t2))
        exact ⟨.of (fun _ q => nomatch q) (pe_andV ca.oe.o (pe_one cb.oe.v)), fun t => (pw t).pt, fun t _ => pw t⟩
      | cons ec rest =>
        replace h : (chkE C lam a sc ea && chkE C lam b sc (.BoolOp .And (eb :: ec :: rest) p)) = true := h
        obtain ⟨h1, h2⟩ := and_inv h
        have ca := chk_ok a lam sc ea W X g h1
        have cb := chk_ok b lam sc (.BoolOp .And (eb :: ec :: rest) p) W X g h2
        have pw : tstE (.and a b) (.BoolOp .And (ea :: eb :: ec :: rest) p) = true → PW X (.BoolOp .And (ea :: eb :: ec :: rest) p) (tB' L C.P call W (.and a b)) := fun t => by
          replace t : (tstE a ea && tstE b (.BoolOp .And (eb :: ec :: rest) p)) = true := t
          obtain ⟨t1, t2⟩ := and_inv t
          exact pw_andV (ca.pt t1) (cb.pw t2 trivial)
        exact ⟨.of (fun _ q => nomatch q) (pe_andV ca.oe.o cb.oe.v), fun t => (pw t).pt, fun t _ => pw t⟩
  | .or a b, lam, sc, e, W, X, g, h => by
    cases e <;> first | exact absurd (show false = true from h) Bool.false_ne_true | skip
    case BoolOp bo es p =>
      cases bo <;> rcases es with _ | ⟨ea, _ | ⟨eb, rest⟩⟩ <;> first | exact absurd (show false = true from h) Bool.false_ne_true | skip
      cases rest with
      | nil =>
        replace h : (chkE C lam a sc ea && chkE C lam b sc eb) = true := h
        obtain ⟨h1, h2⟩ := and_inv h
        have ca := chk_ok a lam sc ea W X g h1
        have cb := chk_ok b lam sc eb W X g h2
        have pw : tstE (.or a b) (.BoolOp .Or [ea, eb] p) = true → PW X (.BoolOp .Or [ea, eb] p) (tB' L C.P call W (.or a b)) := fun t => by
          replace t : (tstE a ea && tstE b eb) = true := t
          obtain ⟨t1, t2⟩ := and_inv t
          exact pw_orV (ca.pt t1) (pw_or1 (cb.pt t2))
        exact ⟨.of (fun _ q => nomatch q) (pe_orV ca.oe.o (pe_one cb.oe.v)), fun t => (pw t).pt, fun t _ => pw t⟩
      | cons ec rest =>
        replace h : (chkE C lam a sc ea && chkE C lam b sc (.BoolOp .Or (eb :: ec :: rest) p)) = true := h
        obtain ⟨h1, h2⟩ := and_inv h
        have ca := chk_ok a lam sc ea W X g h1
        have cb := chk_ok b lam sc (.BoolOp .Or (eb :: ec :: rest) p) W X g h2
        have pw : tstE (.or a b) (.BoolOp .Or (ea :: eb :: ec :: rest) p) = true → PW X (.BoolOp .Or (ea :: eb :: ec :: rest) p) (tB' L C.P call W (.or a b)) := fun t => by
          replace t : (tstE a ea && tstE b (.BoolOp .Or (eb :: ec :: rest) p)) = true := t
          obtain ⟨t1, t2⟩ := and_inv t
          exact pw_orV (ca.pt t1) (cb.pw t2 trivial)
        exact ⟨.of (fun _ q => nomatch q) (pe_orV ca.oe.o cb.oe.v), fun t => (pw t).pt, fun t _ => pw t⟩
  | .not a, lam, sc, e, W, X, g, h => by
    cases e <;> first | exact absurd (show false = true from h) Bool.false_ne_true | skip
    case UnaryOp op ea p =>
      cases op <;> first | exact absurd (show false = true from h) Bool.false_ne_true | skip
      replace h : chkE C lam a sc ea = true := h
      have ca := chk_ok a lam sc ea W X g h
      exact ⟨.of (fun _ q => nomatch q) (pe_notV ca.oe.o), fun t => pt_notV (ca.pt t), fun _ q => q.elim⟩
  | .ite c a b, lam, sc, e, W, X, g, h => by
    cases e <;> first | exact absurd (show false = true from h) Bool.false_ne_true | skip
    case IfExp ec ea eb p =>
      replace h : (chkE C lam c sc ec && tstE c ec && chkE C lam a sc ea && chkE C lam b sc eb) = true := h
      obtain ⟨h, h4⟩ := and_inv h
      obtain ⟨h, h3⟩ := and_inv h
      obtain ⟨h1, h2⟩ := and_inv h
      exact .val (.of (fun _ q => nomatch q) (pe_iteV ((chk_ok c lam sc ec W X g h1).pt h2) (chk_ok a lam sc ea W X g h3).oe.v (chk_ok b lam sc eb W X g h4).oe.v)) fun t => t
  | .idx a i, lam, sc, e, W, X, g, h => by
    cases e <;> first | exact absurd (show false = true from h) Bool.false_ne_true | skip
    case Subscript ea ei p =>
      replace h : (plainIxB ei && chkE C lam a sc ea && chkE C lam i sc ei) = true := h
      obtain ⟨h, h3⟩ := and_inv h
      obtain ⟨h1, h2⟩ := and_inv h
      exact .val (.of (fun _ q => nomatch q) (pe_idxV (ix_D g.hK g.d.ix) (chk_ok a lam sc ea W X g h2).oe.o (chk_ok i lam sc ei W X g h3).oe.o (plainIx_ok h1))) fun t => t
  | .slc a lo hi, lam, sc, e, W, X, g, h => by
    cases e <;> first | exact absurd (show false = true from h) Bool.false_ne_true | skip
    case Subscript ea es p =>
      cases es <;> first | exact absurd (show false = true from h) Bool.false_ne_true | skip
      case Slice elo ehi est p2 =>
        cases est <;> first | exact absurd (show false = true from h) Bool.false_ne_true | skip
        replace h : (chkE C lam a sc ea && optB elo (isNil lo) (fun e => !isNil lo && chkE C lam lo sc e) && optB ehi (isNil hi) (fun e => !isNil hi && chkE C lam hi sc e)) = true := h
        obtain ⟨h, h3⟩ := and_inv h
        obtain ⟨h1, h2⟩ := and_inv h
        have po : ∀ (m : M) (o : Option Expr), (∀ e, o = some e → chkE C lam m sc e = true → CK L C.P call W X e m) → optB o (isNil m) (fun e => !isNil m && chkE C lam m sc e) = true → PO X o (tP L C.P call W m) := fun m o ih q => by
          cases o with
          | none =>
            cases m <;> first | exact absurd (show false = true from q) Bool.false_ne_true | exact po_nilP
          | some e =>
            obtain ⟨q1, q2⟩ := and_inv q
            exact po_someP (fun z => by rw [z] at q1; exact absurd q1 Bool.false_ne_true) (ih e rfl q2).oe.o
        exact .val (.of (fun _ q => nomatch q) (pe_slcV g.hK (chk_ok a lam sc ea W X g h1).oe.o (po lo elo (fun e _ q => chk_ok lo lam sc e W X g q) h2) (po hi ehi (fun e _ q => chk_ok hi lam sc e W X g q) h3))) fun t => t
  | .nil, lam, sc, e, W, X, g, h => by
    cases e <;> exact absurd (show false = true from h) Bool.false_ne_true
  | .rev a, lam, sc, e, W, X, g, h => by
    cases e <;> first | exact absurd (show false = true from h) Bool.false_ne_true | skip
    case Subscript ea es p =>
      cases es <;> first | exact absurd (show false = true from h) Bool.false_ne_true | skip
      case Slice elo ehi est p2 =>
        cases elo <;> cases ehi <;> cases est <;> first | exact absurd (show false = true from h) Bool.false_ne_true | skip
        case none.none.some st =>
          cases st <;> first | exact absurd (show false = true from h) Bool.false_ne_true | skip
          case UnaryOp op x p3 =>
            cases op <;> first | exact absurd (show false = true from h) Bool.false_ne_true | skip
            cases x <;> first | exact absurd (show false = true from h) Bool.false_ne_true | skip
            case Constant c j p4 =>
              cases c <;> first | exact absurd (show false = true from h) Bool.false_ne_true | skip
              case int i =>
                have hi : i = 1 := by
                  cases i with
                  | ofNat n =>
                    rcases n with _ | _ | n
                    · exact absurd (show false = true from h) Bool.false_ne_true
                    · rfl
                    · exact absurd (show false = true from h) Bool.false_ne_true
                  | negSucc n => exact absurd (show false = true from h) Bool.false_ne_true
                subst hi
                replace h : chkE C lam a sc ea = true := h
                exact .val (.of (fun _ q => nomatch q) (pe_revV g.hK (chk_ok a lam sc ea W X g h).oe.o)) fun t => t
  | .call f ms, lam, sc, e, W, X, g, h => by
    cases e <;> first | exact absurd (show false = true from h) Bool.false_ne_true | skip
    case Call fe es kw p =>
      cases fe <;> cases es <;> cases kw <;> first | exact absurd (show false = true from h) Bool.false_ne_true | skip
      case Name.cons.nil x p2 ea es =>
        replace h : (gloB C.G sc x (.fn f) && decide ((C.P.fns f).map Fn.np = some ms.length) && chkEs C lam ms sc (ea :: es)) = true := h
        obtain ⟨h, h3⟩ := and_inv h
        obtain ⟨h1, h2⟩ := and_inv h
        obtain ⟨g1, g2, g3⟩ := g.glob h1
        have hm : X.mg x = some (.ref (L.fa f)) := g.glo x _ g3
        obtain ⟨F, hF, hnp⟩ := Option.map_eq_some_iff.mp (dec_of h2)
        obtain ⟨fd, ps, FO, hk, hb⟩ := g.fns f F hF
        have hes := chks_ok ms lam sc (ea :: es) W X g h3
        have st := hes.star
        rw [List.all_cons] at st
        obtain ⟨s1, s2⟩ := and_inv st
        exact .val (.of (fun _ q => nomatch q) (pe_callV FO g.rk g1 hm hk hb g.tk hes.paM hnp.symm (plainN_of g2).1 (star_cons s1) (star_any s2))) fun t => t
  | .callv i ms, lam, sc, e, W, X, g, h => by
    cases e <;> first | exact absurd (show false = true from h) Bool.false_ne_true | skip
    case Call fe es kw p =>
      cases fe <;> cases es <;> cases kw <;> first | exact absurd (show false = true from h) Bool.false_ne_true | skip
      case Name.cons.nil x p2 ea es =>
        replace h : (nmB C.N sc i x && chkEs C lam ms sc (ea :: es)) = true := h
        obtain ⟨h1, h3⟩ := and_inv h
        obtain ⟨g1, g2, g3⟩ := g.nm h1
        obtain ⟨g4, g5, _⟩ := plainN_of g3
        have hes := chks_ok ms lam sc (ea :: es) W X g h3
        have st := hes.star
        rw [List.all_cons] at st
        obtain ⟨s1, s2⟩ := and_inv st
        exact .val (.of (fun _ q => nomatch q) (pe_callvV g.fns g.rk g1 g2 g.tk hes.paM g4 g5 (star_cons s1) (star_any s2))) fun t => t
  | .new a, lam, sc, e, W, X, g, h => by
    exact .val (.of (fun _ q => nomatch q) (pe_newV (chk_ok a lam sc e W X g h).oe.v)) fun t => t
  | .bi .len ms, lam, sc, e, W, X, g, h => by
    cases e <;> first | exact absurd (show false = true from h) Bool.false_ne_true | skip
    case Call fe es kw p =>
      cases fe <;> cases es <;> cases kw <;> first | exact absurd (show false = true from h) Bool.false_ne_true | skip
      case Name.cons.nil x p2 ea es =>
        replace h : (decide (biName .len = some x) && gloB C.G sc x .non && chkEs C lam ms sc (ea :: es)) = true := h
        obtain ⟨h, h3⟩ := and_inv h
        obtain ⟨h1, h2⟩ := and_inv h
        exact bi_ck g (dec_of h1) h2 (chks_ok ms lam sc (ea :: es) W X g h3)
  | .bi .tuple ms, lam, sc, e, W, X, g, h => by
    cases e <;> first | exact absurd (show false = true from h) Bool.false_ne_true | skip
    case Call fe es kw p =>
      cases fe <;> cases es <;> cases kw <;> first | exact absurd (show false = true from h) Bool.false_ne_true | skip
      case Name.cons.nil x p2 ea es =>
        replace h : (decide (biName .tuple = some x) && gloB C.G sc x .non && chkEs C lam ms sc (ea :: es)) = true := h
        obtain ⟨h, h3⟩ := and_inv h
        obtain ⟨h1, h2⟩ := and_inv h
        exact bi_ck g (dec_of h1) h2 (chks_ok ms lam sc (ea :: es) W X g h3)
  | .bi .list ms, lam, sc, e, W, X, g, h => by
    cases e <;> first | exact absurd (show false = true from h) Bool.false_ne_true | skip
    case Call fe es kw p =>
      cases fe <;> cases es <;> cases kw <;> first | exact absurd (show false = true from h) Bool.false_ne_true | skip
      case Name.cons.nil x p2 ea es =>
        replace h : (decide (biName .list = some x) && gloB C.G sc x .non && chkEs C lam ms sc (ea :: es)) = true := h
        obtain ⟨h, h3⟩ := and_inv h
        obtain ⟨h1, h2⟩ := and_inv h
        exact bi_ck g (dec_of h1) h2 (chks_ok ms lam sc (ea :: es) W X g h3)
  | .bi .all ms, lam, sc, e, W, X, g, h => by
    cases e <;> first | exact absurd (show false = true from h) Bool.false_ne_true | skip
    case Call fe es kw p =>
      cases fe <;> cases es <;> cases kw <;> first | exact absurd (show false = true from h) Bool.false_ne_true | skip
      case Name.cons.nil x p2 ea es =>
        replace h : (decide (biName .all = some x) && gloB C.G sc x .non && chkEs C lam ms sc (ea :: es)) = true := h
        obtain ⟨h, h3⟩ := and_inv h
        obtain ⟨h1, h2⟩ := and_inv h
        exact bi_ck g (dec_of h1) h2 (chks_ok ms lam sc (ea :: es) W X g h3)
  | .bi .any ms, lam, sc, e, W, X, g, h => by
    cases e <;> first | exact absurd (show false = true from h) Bool.false_ne_true | skip
    case Call fe es kw p =>
      cases fe <;> cases es <;> cases kw <;> first | exact absurd (show false = true from h) Bool.false_ne_true | skip
      case Name.cons.nil x p2 ea es =>
        replace h : (decide (biName .any = some x) && gloB C.G sc x .non && chkEs C lam ms sc (ea :: es)) = true := h
        obtain ⟨h, h3⟩ := and_inv h
        obtain ⟨h1, h2⟩ := and_inv h
        exact bi_ck g (dec_of h1) h2 (chks_ok ms lam sc (ea :: es) W X g h3)
  | .bi .sum ms, lam, sc, e, W, X, g, h => by
    cases e <;> first | exact absurd (show false = true from h) Bool.false_ne_true | skip
    case Call fe es kw p =>
      cases fe <;> cases es <;> cases kw <;> first | exact absurd (show false = true from h) Bool.false_ne_true | skip
      case Name.cons.nil x p2 ea es =>
        replace h : (decide (biName .sum = some x) && gloB C.G sc x .non && chkEs C lam ms sc (ea :: es)) = true := h
        obtain ⟨h, h3⟩ := and_inv h
        obtain ⟨h1, h2⟩ := and_inv h
        exact bi_ck g (dec_of h1) h2 (chks_ok ms lam sc (ea :: es) W X g h3)
  | .bi .max ms, lam, sc, e, W, X, g, h => by
    cases e <;> first | exact absurd (show false = true from h) Bool.false_ne_true | skip
    case Call fe es kw p =>
      cases fe <;> cases es <;> cases kw <;> first | exact absurd (show false = true from h) Bool.false_ne_true | skip
      case Name.cons.nil x p2 ea es =>
        replace h : (decide (biName .max = some x) && gloB C.G sc x .non && chkEs C lam ms sc (ea :: es)) = true := h
        obtain ⟨h, h3⟩ := and_inv h
        obtain ⟨h1, h2⟩ := and_inv h
        exact bi_ck g (dec_of h1) h2 (chks_ok ms lam sc (ea :: es) W X g h3)
  | .bi .min ms, lam, sc, e, W, X, g, h => by
    cases e <;> first | exact absurd (show false = true from h) Bool.false_ne_true | skip
    case Call fe es kw p =>
      cases fe <;> cases es <;> cases kw <;> first | exact absurd (show false = true from h) Bool.false_ne_true | skip
      case Name.cons.nil x p2 ea es =>
        replace h : (decide (biName .min = some x) && gloB C.G sc x .non && chkEs C lam ms sc (ea :: es)) = true := h
        obtain ⟨h, h3⟩ := and_inv h
        obtain ⟨h1, h2⟩ := and_inv h
        exact bi_ck g (dec_of h1) h2 (chks_ok ms lam sc (ea :: es) W X g h3)
  | .bi .abs ms, lam, sc, e, W, X, g, h => by
    cases e <;> first | exact absurd (show false = true from h) Bool.false_ne_true | skip
    case Call fe es kw p =>
      cases fe <;> cases es <;> cases kw <;> first | exact absurd (show false = true from h) Bool.false_ne_true | skip
      case Name.cons.nil x p2 ea es =>
        replace h : (decide (biName .abs = some x) && gloB C.G sc x .non && chkEs C lam ms sc (ea :: es)) = true := h
        obtain ⟨h, h3⟩ := and_inv h
        obtain ⟨h1, h2⟩ := and_inv h
        exact bi_ck g (dec_of h1) h2 (chks_ok ms lam sc (ea :: es) W X g h3)
  | .bi .int ms, lam, sc, e, W, X, g, h => by
    cases e <;> first | exact absurd (show false = true from h) Bool.false_ne_true | skip
    case Call fe es kw p =>
      cases fe <;> cases es <;> cases kw <;> first | exact absurd (show false = true from h) Bool.false_ne_true | skip
      case Name.cons.nil x p2 ea es =>
        replace h : (decide (biName .int = some x) && gloB C.G sc x .non && chkEs C lam ms sc (ea :: es)) = true := h
        obtain ⟨h, h3⟩ := and_inv h
        obtain ⟨h1, h2⟩ := and_inv h
        exact bi_ck g (dec_of h1) h2 (chks_ok ms lam sc (ea :: es) W X g h3)
  | .bi .str ms, lam, sc, e, W, X, g, h => by
    cases e <;> first | exact absurd (show false = true from h) Bool.false_ne_true | skip
    case Call fe es kw p =>
      cases fe <;> cases es <;> cases kw <;> first | exact absurd (show false = true from h) Bool.false_ne_true | skip
      case Name.cons.nil x p2 ea es =>
        replace h : (decide (biName .str = some x) && gloB C.G sc x .non && chkEs C lam ms sc (ea :: es)) = true := h
        obtain ⟨h, h3⟩ := and_inv h
        obtain ⟨h1, h2⟩ := and_inv h
        exact bi_ck g (dec_of h1) h2 (chks_ok ms lam sc (ea :: es) W X g h3)
  | .bi .sorted ms, lam, sc, e, W, X, g, h => by
    cases e <;> first | exact absurd (show false = true from h) Bool.false_ne_true | skip
    case Call fe es kw p =>
      cases fe <;> cases es <;> cases kw <;> first | exact absurd (show false = true from h) Bool.false_ne_true | skip
      case Name.cons.nil x p2 ea es =>
        replace h : (decide (biName .sorted = some x) && gloB C.G sc x .non && chkEs C lam ms sc (ea :: es)) = true := h
        obtain ⟨h, h3⟩ := and_inv h
        obtain ⟨h1, h2⟩ := and_inv h
        exact bi_ck g (dec_of h1) h2 (chks_ok ms lam sc (ea :: es) W X g h3)
  | .bi .dict ms, lam, sc, e, W, X, g, h => by
    cases e <;> first | exact absurd (show false = true from h) Bool.false_ne_true | skip
    case Call fe es kw p =>
      cases fe <;> cases es <;> cases kw <;> first | exact absurd (show false = true from h) Bool.false_ne_true | skip
      case Name.cons.nil x p2 ea es =>
        replace h : (decide (biName .dict = some x) && gloB C.G sc x .non && chkEs C lam ms sc (ea :: es)) = true := h
        obtain ⟨h, h3⟩ := and_inv h
        obtain ⟨h1, h2⟩ := and_inv h
        exact bi_ck g (dec_of h1) h2 (chks_ok ms lam sc (ea :: es) W X g h3)
  | .bi .lstRng ms, lam, sc, e, W, X, g, h => by
    rcases lrng_inv h with ⟨ma, mb, x, p1, y, p2, ea, eb, p3, p4, rfl, rfl, h⟩ | ⟨ma, x, p1, y, p2, ea, p3, p4, rfl, rfl, h⟩
    · obtain ⟨h, h8⟩ := and_inv h
      obtain ⟨h, h7⟩ := and_inv h
      obtain ⟨h, h6⟩ := and_inv h
      obtain ⟨h, h5⟩ := and_inv h
      obtain ⟨h, h4⟩ := and_inv h
      obtain ⟨h, h3⟩ := and_inv h
      obtain ⟨h1, h2⟩ := and_inv h
      have h1 := dec_of h1
      subst h1
      have h2 := dec_of h2
      subst h2
      obtain ⟨g1, g2, g3⟩ := g.glob h3
      obtain ⟨k1, k2, k3⟩ := g.glob h4
      have oa := (chk_ok ma lam sc ea W X g h7).oe.o
      have ob := (chk_ok mb lam sc eb W X g h8).oe.o
      exact .val (.of (fun _ q => nomatch q) (pe_lrng2 g.calm g1 (g.glo _ _ g3) k1 (g.glo _ _ k3) oa ob (star_cons h5) (star_cons h6) (star_any (by simp [h6])))) fun t => t
    · obtain ⟨h, h6⟩ := and_inv h
      obtain ⟨h, h5⟩ := and_inv h
      obtain ⟨h, h4⟩ := and_inv h
      obtain ⟨h, h3⟩ := and_inv h
      obtain ⟨h1, h2⟩ := and_inv h
      have h1 := dec_of h1
      subst h1
      have h2 := dec_of h2
      subst h2
      obtain ⟨g1, g2, g3⟩ := g.glob h3
      obtain ⟨k1, k2, k3⟩ := g.glob h4
      have oa := (chk_ok ma lam sc ea W X g h6).oe.o
      exact .val (.of (fun _ q => nomatch q) (pe_lrng1 g.calm g1 (g.glo _ _ g3) k1 (g.glo _ _ k3) oa (star_cons h5))) fun t => t
  | .bi .tupRng ms, lam, sc, e, W, X, g, h => by
    obtain ⟨ma, x, p1, y, p2, ea, p3, p4, rfl, rfl, h⟩ := trng_inv h
    obtain ⟨h, h6⟩ := and_inv h
    obtain ⟨h, h5⟩ := and_inv h
    obtain ⟨h, h4⟩ := and_inv h
    obtain ⟨h, h3⟩ := and_inv h
    obtain ⟨h1, h2⟩ := and_inv h
    have h1 := dec_of h1
    subst h1
    have h2 := dec_of h2
    subst h2
    obtain ⟨g1, g2, g3⟩ := g.glob h3
    obtain ⟨k1, k2, k3⟩ := g.glob h4
    have oa := (chk_ok ma lam sc ea W X g h6).oe.o
    exact .val (.of (fun _ q => nomatch q) (pe_trng1 g.calm g1 (g.glo _ _ g3) k1 (g.glo _ _ k3) oa (star_cons h5))) fun t => t
  | .mt m a ms, lam, sc, e, W, X, g, h => by
    obtain ⟨ea, x, pa, eb, es, pc, rfl, h⟩ := mt_inv h
    obtain ⟨h, h6⟩ := and_inv h
    obtain ⟨h, h5⟩ := and_inv h
    obtain ⟨h, h4⟩ := and_inv h
    obtain ⟨h, h3⟩ := and_inv h
    obtain ⟨h1, h2⟩ := and_inv h
    have hes := chks_ok ms lam sc (eb :: es) W X g h6
    have ha := (chk_ok a lam sc ea W X g h5).oe.o
    have st := hes.star
    have hl := hes.len
    have h4 := dec_of h4
    exact .val (.of (fun _ q => nomatch q) (pe_mt g.hK (dec_of h1) (g.d.mt m x (dec_of h1)) ha hes.paV (base_ok h2) (few_ok st (by rw [hl]; exact h4)) h3 (by rw [List.all_cons, Bool.and_eq_true] at st; exact star_cons st.1) (star_any (by rw [List.all_cons, Bool.and_eq_true] at st; exact st.2)))) fun t => t
  | .bi .sortSet ms, lam, sc, e, W, X, g, h => by
    obtain ⟨ma, x, p1, y, p2, ea, p3, p4, rfl, rfl, h⟩ := sset_inv h
    obtain ⟨h, h6⟩ := and_inv h
    obtain ⟨h, h5⟩ := and_inv h
    obtain ⟨h, h4⟩ := and_inv h
    obtain ⟨h, h3⟩ := and_inv h
    obtain ⟨h1, h2⟩ := and_inv h
    have h1 := dec_of h1
    subst h1
    have h2 := dec_of h2
    subst h2
    obtain ⟨g1, g2, g3⟩ := g.glob h3
    obtain ⟨k1, k2, k3⟩ := g.glob h4
    have oa := (chk_ok ma lam sc ea W X g h6).oe.o
    exact .val (.of (fun _ q => nomatch q) (g.d.sortSet _ _ _ _ _ _ _ _ _ g1 (g.glo _ _ g3) k1 (g.glo _ _ k3) oa (star_cons h5))) fun t => t
  | .bi .lenSet ms, lam, sc, e, W, X, g, h => by
    cases e <;> first | exact absurd (show false = true from h) Bool.false_ne_true | skip
    case Call fe es kw p =>
      cases fe <;> cases es <;> cases kw <;> exact absurd (show false = true from h) Bool.false_ne_true
  | .bi (.isinst ts) ms, lam, sc, e, W, X, g, h => by
    rcases isi_inv h with ⟨c, m, x, p1, ea, y, p2, p, rfl, rfl, rfl, h⟩ | ⟨c, d, m, x, p1, ea, y, p2, z, p3, j, p4, p, rfl, rfl, rfl, h⟩
    · obtain ⟨h, h7⟩ := and_inv h
      obtain ⟨h, h6⟩ := and_inv h
      obtain ⟨h, h5⟩ := and_inv h
      obtain ⟨h, h4⟩ := and_inv h
      obtain ⟨h, h3⟩ := and_inv h
      obtain ⟨h1, h2⟩ := and_inv h
      have h1 := dec_of h1
      subst h1
      have h3 := dec_of h3
      subst h3
      obtain ⟨g1, g2, g3⟩ := g.glob h2
      obtain ⟨k1, k2, k3⟩ := g.glob h5
      obtain ⟨n1, _, n3⟩ := plainN_of k2
      have ho := (chk_ok m lam sc ea W X g h7).oe
      exact .val (.of (fun _ q => nomatch q) (pe_isi1 g.hK (dec_of h4) g1 (g.glo _ _ g3) k1 (g.glo _ _ k3) (tyN_boot (dec_of h4)) ho.o n3 n1 (star_cons h6))) fun t => t
    · obtain ⟨h, h10⟩ := and_inv h
      obtain ⟨h, h9⟩ := and_inv h
      obtain ⟨h, h8⟩ := and_inv h
      obtain ⟨h, h7⟩ := and_inv h
      obtain ⟨h, h6⟩ := and_inv h
      obtain ⟨h, h5⟩ := and_inv h
      obtain ⟨h, h4⟩ := and_inv h
      obtain ⟨h, h3⟩ := and_inv h
      obtain ⟨h1, h2⟩ := and_inv h
      have h1 := dec_of h1
      subst h1
      have h3 := dec_of h3
      subst h3
      have h6 := dec_of h6
      subst h6
      obtain ⟨g1, g2, g3⟩ := g.glob h2
      obtain ⟨k1, k2, k3⟩ := g.glob h5
      obtain ⟨l1, l2, l3⟩ := g.glob h8
      obtain ⟨n1, _, n3⟩ := plainN_of k2
      obtain ⟨m1, _, m3⟩ := plainN_of l2
      have ho := (chk_ok m lam sc ea W X g h10).oe
      exact .val (.of (fun _ q => nomatch q) (pe_isi2 g.hK (dec_of h4) (dec_of h7) g1 (g.glo _ _ g3) k1 (g.glo _ _ k3) (tyN_boot (dec_of h4)) l1 (g.glo _ _ l3) (tyN_boot (dec_of h7)) ho.o n3 n1 m3 m1 (star_cons h9))) fun t => t
  | .lam f b z, lam, sc, e, W, X, g, h => by
    obtain ⟨x, p1, eb, raw, p2, z', j, p3, p, rfl, h⟩ := lam_inv h
    obtain ⟨h, h5⟩ := and_inv h
    obtain ⟨h, h4⟩ := and_inv h
    obtain ⟨h, h3⟩ := and_inv h
    obtain ⟨h1, h2⟩ := and_inv h
    have h2 := dec_of h2
    subst h2
    subst h1
    obtain ⟨g1, g2, g3⟩ := g.glob h3
    have hd : LamDef L C.P X.K X.mg f x := g.glo x _ g3
    obtain ⟨cs, a, nm, gg, fd, pg, h0, hds, sg, kws, j6, q1, q2, q4, q5, q6, q7, e1, e2, e3, e4, e5, e6, e7, e8, e9, e10, e11, e12, e13⟩ := hd.ex
    obtain ⟨c, P0, t1, t2, t3, t4⟩ := g.lm rfl
    exact .val (.of (fun _ q => nomatch q) (pe_lamV (k := k) e1 e2 g.exm g1 e3 e4 e5 e6 e7 e8 e9 t1 t2 t3 t4 g.room (LamX.lamS_by (by rw [g.hsc]; exact h4)) rfl (fun _ _ _ _ _ => rfl) (fun A outer s H E ff c' hr => (chk_ok b false raw eb _ _ (g.lamC hr) h5).oe.v) (plainN_of g2).1 e10 e11 e12 e13)) fun t => t
  | .comp m tg i it cond, lam, sc, e, W, X, g, h => by
    obtain ⟨ee, te, ie, ifs, raw, p, rfl, h⟩ := comp_inv h
    obtain ⟨h, h7⟩ := and_inv h
    obtain ⟨h, h6⟩ := and_inv h
    obtain ⟨h, h5⟩ := and_inv h
    obtain ⟨h, h4⟩ := and_inv h
    obtain ⟨h, h3⟩ := and_inv h
    obtain ⟨h1, h2⟩ := and_inv h
    obtain ⟨hi, hs⟩ := iter_ok g h4 fun es q => chks_ok it lam sc es W X g q
    refine .val (.of (fun _ q => nomatch q) (pe_compV g.calm g.nd g.hK hi (blkOk_by (by rw [g.hN, g.hsc]; exact h1)) (dec_of h2) (fun s H Cl cl fp => ?_) (fun s H Cl cl fp => ?_) (fun s H Cl cl fp => (chk_ok m false _ ee _ _ (g.blk raw s H Cl cl fp) h7).oe.v) hs)) fun t => t
    · have gb := g.blk raw s H Cl cl fp
      exact tgB_ok gb.calm gb.hN gb.hsc (fun x hx => by show (raw.names.lookup x == some .cell) = true; rw [hx]; rfl) gb.nd h3
    · have gb := g.blk raw s H Cl cl fp
      have hc := chks_ok cond false (relS raw sc) ifs _ _ gb h5
      cases hc with
      | nil => exact pts_nilV
      | cons s hq t =>
        cases t with
        | nil => exact pts_oneV (hq.pt h6)
        | cons _ _ _ => exact absurd (show false = true from h6) Bool.false_ne_true
  | .fld a f, lam, sc, e, W, X, g, h => by
    cases e <;> exact absurd (show false = true from h) Bool.false_ne_true
  | .mk c es, lam, sc, e, W, X, g, h => by
    cases e <;> exact absurd (show false = true from h) Bool.false_ne_true
  | .meth f a es, lam, sc, e, W, X, g, h => by
    cases e <;> exact absurd (show false = true from h) Bool.false_ne_true
theorem chks_ok : ∀ (ms : List M) (lam : Bool) (sc : Scope) (es : List Expr) (W : WX) (X : Cx), GX C L call k lam sc W X → chkEs C lam ms sc es = true → OEs L C.P call W X es ms
  | [], lam, sc, es, W, X, g, h => by
    cases es with
    | nil => exact .nil
    | cons e es => simp only [chkEs] at h; cases h
  | m :: ms, lam, sc, es, W, X, g, h => by
    cases es with
    | nil => simp only [chkEs] at h; cases h
    | cons e es =>
      simp only [chkEs] at h
      obtain ⟨h, h3⟩ := and_inv h
      obtain ⟨h1, h2⟩ := and_inv h
      exact .cons h1 (chk_ok m lam sc e W X g h2) (chks_ok ms lam sc es W X g h3)
end
end
end Sr
end

section
set_option autoImplicit false
set_option linter.all false
set_option Elab.async false
set_option maxHeartbeats 0
/-! Sr25: the checker of statements. -/
namespace Sr
open PySem PySem.Spec PyProof.Rows L2 SeqAt
def isComp : Expr → Bool
  | .ListComp _ _ _ _ => true
  | .SetComp _ _ _ _ => true
  | .DictComp _ _ _ _ _ => true
  | _ => false
/-- is the comprehension stored inside -/
def swB (sc : Scope) (y : Str) (py : Pos) : Expr → Bool
  | .ListComp _ _ raw pos => decide (sc.names.lookup y = some .local) && (py.line == pos.line) && !(raw.names.any fun (n, k) => n == y && (k == .local || k == .cell))
  | _ => false
def isLC : Expr → Bool
  | .ListComp _ _ _ _ => true
  | _ => false
def isCM : M → Bool
  | .comp _ _ _ _ _ => true
  | _ => false
def rcvB : Expr → Bool
  | .Name _ _ => true
  | .Subscript _ _ _ => true
  | .Attribute _ _ _ => true
  | _ => false
def locB (N : List Str) (sc : Scope) (i : Nat) (x : Str) : Bool := decide (N[i]? = some x) && (decide (sc.names.lookup x = some .local) || decide (sc.names.lookup x = some .cell)) && plainN x
def augOp : O2 → Operator → Bool
  | .add, .Add => true
  | .sub, .Sub => true
  | _, _ => false
/-- some target is no plain local: the stores are not swapped -/
def notSw (sc : Scope) (es : List Expr) : Bool := es.any fun
  | .Name x _ => decide (sc.names.lookup x ≠ some .local)
  | _ => true
mutual
def chkS (C : Ck) (lam : Bool) (sc : Scope) : S → Stmt → Bool
  | .asg (.nm i) e, .Assign [.Name x py] v _ => locB C.N sc i x && (!isComp v || isLC v) && (!swB sc x py v || isCM e) && chkE C lam e sc v
  | .asg (.tp is) e, .Assign [.Tuple es j p] v _ => tgB C.N sc sc (.tp is) (.Tuple es j p) && (!tupE v || notSw sc es) && !isComp v && chkE C lam e sc v
  | .asgO i e, .Assign [.Name x py] v _ => locB C.N sc i x && (!isComp v || isLC v) && (!swB sc x py v || isCM e) && chkE C lam e sc v
  | .par [(i, false), (j, false)] [a, b], .Assign [.Tuple [.Name x px, .Name y py] _ _] (.Tuple [ea, eb] _ _) _ => locB C.N sc i x && locB C.N sc j y && decide (i ≠ j) && decide (sc.names.lookup x = some .local) && decide (sc.names.lookup y = some .local) && (px.line == py.line) && !(foldedForSure 8 ea && foldedForSure 8 eb) && !(constantsAlone 8 ea && constantsAlone 8 eb) && nstar ea && nstar eb && chkE C lam a sc ea && chkE C lam b sc eb
  | .setI o i e, .Assign [.Subscript eo ei _] v _ => plainIxB ei && !isComp v && chkE C lam e sc v && chkE C lam o sc eo && chkE C lam i sc ei
  | .aug p i e, .AugAssign (.Name x _) op v _ => augOp p op && locB C.N sc i x && chkE C lam e sc v
  | .expr e, .Expr v _ => !isComp v && chkE C lam e sc v
  | .app o e, .Expr (.Call (.Attribute eo m ap) [v] [] cp) _ => decide (m = "append") && rcvB eo && (ap.endLine == cp.line) && nstar v && chkE C lam o sc eo && chkE C lam e sc v
  | .ext o e, .Expr (.Call (.Attribute eo m ap) [v] [] cp) _ => decide (m = "extend") && rcvB eo && (ap.endLine == cp.line) && nstar v && chkE C lam o sc eo && chkE C lam e sc v
  | .iff c a b, .If ec ea eb _ => chkE C lam c sc ec && tstE c ec && chkSs C lam sc a ea && chkSs C lam sc b eb
  | .forr k tg it body, .For te ie st [] _ => tgB C.N sc sc tg te && iterB C lam it k sc te ie && chkSs C lam sc body st
  | .whl c body, .While ec st [] _ => chkE C lam c sc ec && tstE c ec && chkSs C lam sc body st
  | .ret e, .Return (some v) _ => chkE C lam e sc v
  | .retO i, .Return (some (.Name x _)) _ => nmB C.N sc i x
  | .retN, .Return none _ => true
  | .brk, .Break _ => true
  | .pass, .Pass _ => true
  | .rse c [], .Raise (some (.Call (.Name x _) [] [] _)) none _ => gloB C.G sc x (.cls c)
  | _, _ => false
def chkSs (C : Ck) (lam : Bool) (sc : Scope) : List S → List Stmt → Bool
  | [], [] => true
  | .frz _ :: ss, st => chkSs C lam sc ss st
  | s :: ss, t :: ts => chkS C lam sc s t && chkSs C lam sc ss ts
  | _, _ => false
end
/-- a def's context -/
structure SX (X : Cx) (sc : Scope) : Prop where
  fn : ∀ x, X.fn x = true
  kd : sc.kind = .function
  pass : PassesOwn (model X.prog X.w) X.A X.env X.xe
section
variable {C : Ck} {L : Lk} {call : CallF} {k : Nat} {lam : Bool} {sc : Scope} {W : WX} {X : Cx}
theorem swapsWith_is (g : GX C L call k lam sc W X) (sx : SX X sc) {v : Expr} {x : Str} {py : Pos} {l : Nat} (h : isComp v = false ∨ ∃ a b c d, v = .ListComp a b c d) : swapsWith v (some (.Name x py)) l X.env = pure (swB sc x py v) := by
  rcases h with h | ⟨a, b, c, d, rfl⟩
  · cases v <;> first | rfl | exact absurd (show true = false from h) (by decide)
  · have hb : X.env.blockKind = .function := by unfold PySem.Env.blockKind; rw [g.hsc, sx.kd]; rfl
    have hk : (X.env.kindOf x == some .local) = decide (sc.names.lookup x = some .local) := by
      unfold PySem.Env.kindOf
      rw [g.hsc, Bool.eq_iff_iff]; simp
    unfold swapsWith
    simp only [hb, hk, Expr.pos, swB]
    rfl
theorem locB_of {i : Nat} {x : Str} (g : GX C L call k lam sc W X) (h : locB C.N sc i x = true) : X.N[i]? = some x ∧ L2.Loc X.env.scope x ∧ plainN x = true := by
  unfold locB at h
  simp only [Bool.and_eq_true, Bool.or_eq_true, decide_eq_true_eq] at h
  exact ⟨by rw [g.hN]; exact h.1.1, by unfold L2.Loc; rw [g.hsc]; exact h.1.2, h.2⟩
theorem isLC_of {v : Expr} (h : (!isComp v || isLC v) = true) : isComp v = false ∨ ∃ a b c d, v = .ListComp a b c d := by
  cases v <;> first
    | exact .inl rfl
    | exact .inr ⟨_, _, _, _, rfl⟩
    | exact absurd (show false = true from h) Bool.false_ne_true
theorem isCM_of {e : M} (h : isCM e = true) : ∃ m tg i it cond, e = .comp m tg i it cond := by
  cases e <;> first
    | exact absurd (show false = true from h) Bool.false_ne_true
    | exact ⟨_, _, _, _, _, rfl⟩
/-- x = v -/
theorem name_ps (g : GX C L call k lam sc W X) (sx : SX X sc) {e : M} {v : Expr} {i : Nat} {x : Str} {py pos : Pos} (h : (locB C.N sc i x && (!isComp v || isLC v) && (!swB sc x py v || isCM e) && chkE C lam e sc v) = true) :
    ∃ te : TE, PS X (.Assign [.Name x py] v pos) (tAsg te (gName i)) ∧ ∀ σ H Q, tV L C.P call W e σ H Q → te σ H Q := by
  obtain ⟨h, hc⟩ := and_inv h
  obtain ⟨h, hm⟩ := and_inv h
  obtain ⟨hl, hv⟩ := and_inv h
  obtain ⟨h1, h2, h3⟩ := locB_of g hl
  have ck := chk_ok e lam sc v W X g hc
  have sw := swapsWith_is (x := x) (py := py) (l := pos.line) g sx (isLC_of hv)
  by_cases hs : swB sc x py v = true
  · rw [hs] at hm sw
    obtain ⟨m, tg, i', it, cond, rfl⟩ := isCM_of (show isCM e = true from hm)
    · obtain ⟨ee, te, ie, ifs, raw, p, rfl, q⟩ := comp_inv hc
      obtain ⟨q, h7⟩ := and_inv q
      obtain ⟨q, h6⟩ := and_inv q
      obtain ⟨q, h5⟩ := and_inv q
      obtain ⟨q, h4⟩ := and_inv q
      obtain ⟨q, g3⟩ := and_inv q
      obtain ⟨g1, g2⟩ := and_inv q
      obtain ⟨hi, hf⟩ := iter_ok g h4 fun es q2 => chks_ok it lam sc es W X g q2
      have hyl : X.env.scope.names.lookup x = some .local := by
        rw [g.hsc]
        unfold swB at hs
        simp only [Bool.and_eq_true, decide_eq_true_eq] at hs
        exact hs.1.1
      refine ⟨_, ps_setLc g.calm g.nd h1 hyl sw hi (blkOk_by (by rw [g.hN, g.hsc]; exact g1)) (fun s H Cl cl fp => ?_) (fun s H Cl cl fp => ?_) (fun s H Cl cl fp => (chk_ok m false _ ee _ _ (g.blk raw s H Cl cl fp) h7).oe.v) hf, fun σ H Q h => comp_read g.hK (dec_of g2) h⟩
      · have gb := g.blk raw s H Cl cl fp
        exact tgB_ok gb.calm gb.hN gb.hsc (fun x hx => by show (raw.names.lookup x == some .cell) = true; rw [hx]; rfl) gb.nd g3
      · have gb := g.blk raw s H Cl cl fp
        have hc := chks_ok cond false (relS raw sc) ifs _ _ gb h5
        cases hc with
        | nil => exact pts_nilV
        | cons s hq t =>
          cases t with
          | nil => exact pts_oneV (hq.pt h6)
          | cons _ _ _ => exact absurd (show false = true from h6) Bool.false_ne_true
  · exact ⟨_, ps_set g.nd h1 h2 ck.oe.v (by rw [sw]; simp only [Bool.not_eq_true] at hs; rw [hs]) (.inl (sx.fn x)), fun _ _ _ h => h⟩
theorem tAsg_mono {te te' : TE} {gg : TG} {De : Ends} {σ : L2.St} {H : Hp} (i : ∀ σ H Q, te' σ H Q → te σ H Q) (h : tAsg te' gg De σ H) : tAsg te gg De σ H := i _ _ _ h
theorem swNone {v : Expr} {t : Option Expr} {l : Nat} {env : PySem.Env} (h : isComp v = false) : swapsWith v t l env = pure false := by
  cases v <;> first | rfl | exact absurd (show true = false from h) (by decide)
theorem few1 {v : Expr} {cp : Pos} {env : PySem.Env} (h : nstar v = true) : ((backTo cp (starEach [v] env)).all (fun x => !x.1) && (backToKw cp (keywordEach [] env)).all (fun x => x.1.isSome) && decide (([v] : List Expr).length + ([] : List Keyword).length + (if ([] : List Keyword).isEmpty then 0 else 1) < 30)) = true := by
  rw [star_cons h]; rfl
theorem rcv_ok {o : Expr} {m : Str} {env : PySem.Env} (h : rcvB o = true) : attributeBase o m env (eval o env) = eval o env := by
  cases o <;> first | rfl | exact absurd (show false = true from h) Bool.false_ne_true
end
end Sr
end

section
set_option autoImplicit false
set_option linter.all false
set_option Elab.async false
set_option maxHeartbeats 0
/-! Sr26: the checker is sound: statements. -/
namespace Sr
open PySem PySem.Spec PyProof.Rows L2 SeqAt
theorem rse_inv {C : Ck} {lam : Bool} {sc : Scope} {c : Nat} {es : List M} {st : Stmt} (h : chkS C lam sc (.rse c es) st = true) : ∃ x p1 p2 p, es = [] ∧ st = .Raise (some (.Call (.Name x p1) [] [] p2)) none p ∧ gloB C.G sc x (.cls c) = true := by
  unfold chkS at h
  split at h <;> rename_i q <;> first
    | (cases q; done)
    | (cases h; done)
    | skip
  cases q
  exact ⟨_, _, _, _, rfl, rfl, h⟩
theorem app_inv {C : Ck} {lam : Bool} {sc : Scope} {o e : M} {st : Stmt} (h : chkS C lam sc (.app o e) st = true) : ∃ eo m ap v cp p, st = .Expr (.Call (.Attribute eo m ap) [v] [] cp) p ∧ (decide (m = "append") && rcvB eo && (ap.endLine == cp.line) && nstar v && chkE C lam o sc eo && chkE C lam e sc v) = true := by
  unfold chkS at h
  split at h <;> rename_i q <;> first
    | (cases q; done)
    | (cases h; done)
    | skip
  cases q
  exact ⟨_, _, _, _, _, _, rfl, h⟩
theorem ext_inv {C : Ck} {lam : Bool} {sc : Scope} {o e : M} {st : Stmt} (h : chkS C lam sc (.ext o e) st = true) : ∃ eo m ap v cp p, st = .Expr (.Call (.Attribute eo m ap) [v] [] cp) p ∧ (decide (m = "extend") && rcvB eo && (ap.endLine == cp.line) && nstar v && chkE C lam o sc eo && chkE C lam e sc v) = true := by
  unfold chkS at h
  split at h <;> rename_i q <;> first
    | (cases q; done)
    | (cases h; done)
    | skip
  cases q
  exact ⟨_, _, _, _, _, _, rfl, h⟩
theorem par_inv {C : Ck} {lam : Bool} {sc : Scope} {is : List (Nat × Bool)} {es : List M} {st : Stmt} (h : chkS C lam sc (.par is es) st = true) : ∃ i j a b x px y py j1 p1 ea eb j2 p2 p, is = [(i, false), (j, false)] ∧ es = [a, b] ∧ st = .Assign [.Tuple [.Name x px, .Name y py] j1 p1] (.Tuple [ea, eb] j2 p2) p ∧
    (locB C.N sc i x && locB C.N sc j y && decide (i ≠ j) && decide (sc.names.lookup x = some .local) && decide (sc.names.lookup y = some .local) && (px.line == py.line) && !(foldedForSure 8 ea && foldedForSure 8 eb) && !(constantsAlone 8 ea && constantsAlone 8 eb) && nstar ea && nstar eb && chkE C lam a sc ea && chkE C lam b sc eb) = true := by
  unfold chkS at h
  split at h <;> rename_i q <;> first
    | (cases q; done)
    | (cases h; done)
    | skip
  cases q
  exact ⟨_, _, _, _, _, _, _, _, _, _, _, _, _, _, _, rfl, rfl, rfl, h⟩
theorem ite_none {α : Type} {c : Prop} [Decidable c] {a b : α} (h : b = a) : (if c then a else b) = a := by
  split
  · rfl
  · exact h
theorem fm_lt {α β : Type} {f : α → Option β} : ∀ {l : List α}, (∃ a ∈ l, f a = none) → (l.filterMap f).length < l.length
  | a :: l, h => by
    rw [List.filterMap_cons]
    cases e : f a with
    | none => exact Nat.lt_succ_of_le (List.length_filterMap_le f l)
    | some b =>
      refine Nat.succ_lt_succ (fm_lt ?_)
      obtain ⟨x, hx, hn⟩ := h
      rcases List.mem_cons.mp hx with rfl | hx
      · rw [e] at hn; cases hn
      · exact ⟨x, hx, hn⟩
theorem notSw_ok {sc : Scope} {es : List Expr} {v : Expr} {j : Nat} {p : Pos} {env : PySem.Env} (hsc : env.scope = sc) (h : (!tupE v || notSw sc es) = true) : swappedStores [.Tuple es j p] v env = pure none := by
  by_cases ht : tupE v = true
  · rw [ht] at h
    replace h : notSw sc es = true := h
    cases v <;> first | exact absurd (show false = true from ht) Bool.false_ne_true | skip
    case Tuple vs j2 p2 =>
      unfold swappedStores
      dsimp only
      split
      · rfl
      · refine ite_none ?_
        generalize hn : List.filterMap _ es = names
        have hlt : names.length < es.length := by
          rw [← hn]
          refine fm_lt ?_
          obtain ⟨x, hx, hp⟩ := List.any_eq_true.mp h
          refine ⟨x, hx, ?_⟩
          cases x <;> first | rfl | skip
          case Name x px =>
            have hp : sc.names.lookup x ≠ some .local := of_decide_eq_true hp
            refine if_neg ?_
            intro q
            obtain ⟨q1, _⟩ := and_inv q
            exact hp (by rw [← hsc]; exact eq_of_beq q1)
        refine if_pos ?_
        rw [Bool.or_eq_true]
        refine .inl ?_
        rw [bne_iff_ne]
        exact Nat.ne_of_lt hlt
  · cases v <;> first | rfl | exact absurd rfl ht
theorem swSole {t v : Expr} {l : Nat} {env : PySem.Env} (h : isComp v = false) : swapsWithSole [t] v l env = pure false := by
  unfold swapsWithSole
  exact swNone h
theorem swapped_ok {x y : Str} {px py p1 p2 : Pos} {j1 j2 : Nat} {ea eb : Expr} {env : PySem.Env} (hb : env.blockKind = .function) (hx : env.kindOf x = some .local) (hy : env.kindOf y = some .local) (hne : x ≠ y) (hl : (px.line == py.line) = true) (hf : (!(foldedForSure 8 ea && foldedForSure 8 eb)) = true) (hk : (!(constantsAlone 8 ea && constantsAlone 8 eb)) = true)
    (s1 : nstar ea = true) (s2 : nstar eb = true) : swappedStores [.Tuple [.Name x px, .Name y py] j1 p1] (.Tuple [ea, eb] j2 p2) env = pure (some [x, y]) := by
  have st : ([ea, eb].any fun | .Starred .. => true | _ => false) = false := by
    cases ea <;> cases eb <;> first | rfl | exact absurd (show false = true from s1) Bool.false_ne_true | exact absurd (show false = true from s2) Bool.false_ne_true
  have e2 : ((if (env.kindOf y == some NameKind.local && py.line == px.line) = true then some y else none) : Option Str) = some y := by
    rw [hy, if_pos]
    rw [Bool.and_eq_true]
    exact ⟨rfl, by rw [beq_iff_eq] at hl ⊢; exact hl.symm⟩
  have e1 : ((if (env.kindOf x == some NameKind.local && px.line == px.line) = true then some x else none) : Option Str) = some x := by
    rw [hx, if_pos]
    simp
  have nn : ([Expr.Name x px, Expr.Name y py].filterMap fun
    | .Name id pos => if env.kindOf id == some .local && pos.line == px.line then some id else none
    | _ => none) = [x, y] := by
    simp only [List.filterMap_cons, List.filterMap_nil, e1, e2]
  have ee : ([x, y] : List Str).eraseDups.length = 2 := by
    have : (y == x) = false := by simpa using fun h => hne h.symm
    simp [List.eraseDups_cons, this]
  have hf' : ¬ [ea, eb].all (foldedForSure 8) = true := by
    intro q
    simp only [List.all_cons, List.all_nil, Bool.and_true] at q
    rw [q] at hf; cases hf
  have hk' : ¬ [ea, eb].all (constantsAlone 8) = true := by
    intro q
    simp only [List.all_cons, List.all_nil, Bool.and_true] at q
    rw [q] at hk; cases hk
  unfold swappedStores
  dsimp only
  rw [hb]
  refine (if_neg (show ¬ false = true from Bool.false_ne_true)).trans ?_
  refine (if_neg (fun q => absurd (st.symm.trans q) Bool.false_ne_true)).trans ?_
  generalize hn : List.filterMap _ [Expr.Name x px, Expr.Name y py] = names
  have hn' : names = [x, y] := by rw [← hn]; exact nn
  subst hn'
  rw [ee, if_neg hf', if_neg hk']
  rfl
section
variable {C : Ck} {L : Lk} {call : CallF} {k : Nat} {lam : Bool} {sc : Scope} {W : WX} {X : Cx}
mutual
theorem chkss : ∀ (s : S) (st : Stmt), GX C L call k lam sc W X → SX X sc → chkS C lam sc s st = true → PS X st (tS L C.P call W s)
  | .asg tg e, st, g, sx, h => by
    cases tg with
    | nm i =>
      cases st <;> first | exact absurd (show false = true from h) Bool.false_ne_true | skip
      case Assign ts v p =>
        rcases ts with _ | ⟨t, _ | ⟨t2, ts⟩⟩ <;> first | exact absurd (show false = true from h) Bool.false_ne_true | skip
        · cases t <;> first | exact absurd (show false = true from h) Bool.false_ne_true | skip
          case Name x py =>
            obtain ⟨te, h1, h2⟩ := name_ps (pos := p) g sx h
            exact impS h1 fun D σ H q => tAsg_mono h2 (asg_read g.hK q)
        · cases t <;> exact absurd (show false = true from h) Bool.false_ne_true
    | tp is =>
      cases st <;> first | exact absurd (show false = true from h) Bool.false_ne_true | skip
      case Assign ts v p =>
        rcases ts with _ | ⟨t, _ | ⟨t2, ts⟩⟩ <;> first | exact absurd (show false = true from h) Bool.false_ne_true | skip
        · cases t <;> first | exact absurd (show false = true from h) Bool.false_ne_true | skip
          case Tuple es j p2 =>
            replace h : (tgB C.N sc sc (.tp is) (.Tuple es j p2) && (!tupE v || notSw sc es) && !isComp v && chkE C lam e sc v) = true := h
            obtain ⟨h, h4⟩ := and_inv h
            obtain ⟨h, h3⟩ := and_inv h
            obtain ⟨h1, h2⟩ := and_inv h
            have h3 : isComp v = false := by simpa using h3
            have hg := tgB_ok (Y := X) g.calm g.hN g.hsc (fun x _ => sx.fn x) g.nd h1
            exact impS (ps_asg (chk_ok e lam sc v W X g h4).oe.v hg (swSole h3) (notSw_ok g.hsc h2) rfl) fun D σ H q => asg_read g.hK q
        · cases t <;> exact absurd (show false = true from h) Bool.false_ne_true
  | .asgO i e, st, g, sx, h => by
    cases st <;> first | exact absurd (show false = true from h) Bool.false_ne_true | skip
    case Assign ts v p =>
      rcases ts with _ | ⟨t, _ | ⟨t2, ts⟩⟩ <;> first | exact absurd (show false = true from h) Bool.false_ne_true | skip
      · cases t <;> first | exact absurd (show false = true from h) Bool.false_ne_true | skip
        case Name x py =>
          obtain ⟨te, h1, h2⟩ := name_ps (pos := p) g sx h
          exact impS h1 fun D σ H q => tAsg_mono h2 (asgO_read q)
      · cases t <;> exact absurd (show false = true from h) Bool.false_ne_true
  | .par is es, st, g, sx, h => by
    obtain ⟨i, j, a, b, x, px, y, py, j1, p1, ea, eb, j2, p2, p, rfl, rfl, rfl, q⟩ := par_inv h
    obtain ⟨q, h12⟩ := and_inv q
    obtain ⟨q, h11⟩ := and_inv q
    obtain ⟨q, h10⟩ := and_inv q
    obtain ⟨q, h9⟩ := and_inv q
    obtain ⟨q, h8⟩ := and_inv q
    obtain ⟨q, h7⟩ := and_inv q
    obtain ⟨q, h6⟩ := and_inv q
    obtain ⟨q, h5⟩ := and_inv q
    obtain ⟨q, h4⟩ := and_inv q
    obtain ⟨q, h3⟩ := and_inv q
    obtain ⟨h1, h2⟩ := and_inv q
    obtain ⟨k1, k2, k3⟩ := locB_of g h1
    obtain ⟨l1, l2, l3⟩ := locB_of g h2
    have h4 := dec_of h4
    have h5 := dec_of h5
    have hb : X.env.blockKind = .function := by unfold PySem.Env.blockKind; rw [g.hsc, sx.kd]; rfl
    have ca := chk_ok a lam sc ea W X g h11
    have cb := chk_ok b lam sc eb W X g h12
    refine impS (ps_par g.calm g.nd k1 l1 (dec_of h3) (g.hsc ▸ h4) (g.hsc ▸ h5) (pa_cons ca.oe.v (pa_cons cb.oe.v pa_nil (star_cons h10)) (star_cons h9)) ?_ rfl) fun D σ H q => par_read q
    exact swapped_ok hb (by unfold PySem.Env.kindOf; rw [g.hsc]; exact h4) (by unfold PySem.Env.kindOf; rw [g.hsc]; exact h5) (fun e => by rw [e] at k1; exact dec_of h3 (L2.nodup_ix g.nd k1 l1)) h6 h7 h8 h9 h10
  | .setI o i e, st, g, sx, h => by
    cases st <;> first | exact absurd (show false = true from h) Bool.false_ne_true | skip
    case Assign ts v p =>
      rcases ts with _ | ⟨t, _ | ⟨t2, ts⟩⟩ <;> first | exact absurd (show false = true from h) Bool.false_ne_true | skip
      · cases t <;> first | exact absurd (show false = true from h) Bool.false_ne_true | skip
        case Subscript eo ei p2 =>
          replace h : (plainIxB ei && !isComp v && chkE C lam e sc v && chkE C lam o sc eo && chkE C lam i sc ei) = true := h
          obtain ⟨h, h5⟩ := and_inv h
          obtain ⟨h, h4⟩ := and_inv h
          obtain ⟨h, h3⟩ := and_inv h
          obtain ⟨h1, h2⟩ := and_inv h
          have h2 : isComp v = false := by simpa using h2
          refine impS (ps_asg (chk_ok e lam sc v W X g h3).oe.v (pg_sub (chk_ok o lam sc eo W X g h4).oe.x (chk_ok i lam sc ei W X g h5).oe.o (set_D (g.d.set)) (fun w => by cases ei <;> first | rfl | exact absurd (show false = true from h1) Bool.false_ne_true)) (swSole h2) (by cases v <;> rfl) rfl) fun D σ H q => setI_read q
      · cases t <;> exact absurd (show false = true from h) Bool.false_ne_true
  | .aug p i e, st, g, sx, h => by
    cases st <;> first | exact absurd (show false = true from h) Bool.false_ne_true | skip
    case AugAssign t op v p2 =>
      cases t <;> first | exact absurd (show false = true from h) Bool.false_ne_true | skip
      case Name x px =>
        replace h : (augOp p op && locB C.N sc i x && chkE C lam e sc v) = true := h
        obtain ⟨h, h3⟩ := and_inv h
        obtain ⟨h1, h2⟩ := and_inv h
        obtain ⟨k1, k2, k3⟩ := locB_of g h2
        have ho : (op = .Add ∧ p = .add) ∨ (op = .Sub ∧ p = .sub) := by
          cases p <;> cases op <;> first | exact .inl ⟨rfl, rfl⟩ | exact .inr ⟨rfl, rfl⟩ | exact absurd (show false = true from h1) Bool.false_ne_true
        exact impS (ps_aug g.nd k1 k2 (chk_ok e lam sc v W X g h3).oe.o (ip_D op p ho) (.inl (sx.fn x))) fun D σ H q => aug_read (ho.elim (fun z => .inl z.2) fun z => .inr z.2) q
  | .expr e, st, g, sx, h => by
    cases st <;> first | exact absurd (show false = true from h) Bool.false_ne_true | skip
    case Expr v p =>
      replace h : (!isComp v && chkE C lam e sc v) = true := h
      obtain ⟨h1, h2⟩ := and_inv h
      exact ps_exprV (chk_ok e lam sc v W X g h2).oe.v (swNone (by simpa using h1))
  | .app o e, st, g, sx, h => by
    obtain ⟨eo, m, ap, v, cp, p, rfl, q⟩ := app_inv h
    obtain ⟨q, h6⟩ := and_inv q
    obtain ⟨q, h5⟩ := and_inv q
    obtain ⟨q, h4⟩ := and_inv q
    obtain ⟨q, h3⟩ := and_inv q
    obtain ⟨h1, h2⟩ := and_inv q
    have h1 := dec_of h1
    subst h1
    have hes : OEs L C.P call W X [v] [e] := .cons h4 (chk_ok e lam sc v W X g h6) .nil
    exact impS (ps_expr (pe_bm F.plainAttrs_list F.slot_list_append F.type_list_append mt_append (chk_ok o lam sc eo W X g h5).oe.x hes.paV (rcv_ok h2) (few1 h4) h3 (star_cons h4) rfl) rfl) fun D σ H q => app_read g.hK q
  | .ext o e, st, g, sx, h => by
    obtain ⟨eo, m, ap, v, cp, p, rfl, q⟩ := ext_inv h
    obtain ⟨q, h6⟩ := and_inv q
    obtain ⟨q, h5⟩ := and_inv q
    obtain ⟨q, h4⟩ := and_inv q
    obtain ⟨q, h3⟩ := and_inv q
    obtain ⟨h1, h2⟩ := and_inv q
    have h1 := dec_of h1
    subst h1
    have hes : OEs L C.P call W X [v] [e] := .cons h4 (chk_ok e lam sc v W X g h6) .nil
    exact impS (ps_expr (pe_bm F.plainAttrs_list F.slot_list_extend F.type_list_extend mt_extend (chk_ok o lam sc eo W X g h5).oe.x hes.paO (rcv_ok h2) (few1 h4) h3 (star_cons h4) rfl) rfl) fun D σ H q => ext_read g.hK q
  | .iff c a b, st, g, sx, h => by
    cases st <;> first | exact absurd (show false = true from h) Bool.false_ne_true | skip
    case If ec ea eb p =>
      replace h : (chkE C lam c sc ec && tstE c ec && chkSs C lam sc a ea && chkSs C lam sc b eb) = true := h
      obtain ⟨h, h4⟩ := and_inv h
      obtain ⟨h, h3⟩ := and_inv h
      obtain ⟨h1, h2⟩ := and_inv h
      exact ps_ifV ((chk_ok c lam sc ec W X g h1).pt h2) (chkss_ok a ea g sx h3) (chkss_ok b eb g sx h4)
  | .forr k tg it body, st, g, sx, h => by
    cases st <;> first | exact absurd (show false = true from h) Bool.false_ne_true | skip
    case For te ie st els p =>
      cases els <;> first | exact absurd (show false = true from h) Bool.false_ne_true | skip
      replace h : (tgB C.N sc sc tg te && iterB C lam it k sc te ie && chkSs C lam sc body st) = true := h
      obtain ⟨h, h3⟩ := and_inv h
      obtain ⟨h1, h2⟩ := and_inv h
      obtain ⟨hi, hf⟩ := iter_ok g h2 fun es q => chks_ok it lam sc es W X g q
      exact ps_forV g.hK sx.pass g.calm hi (tgB_ok (Y := X) g.calm g.hN g.hsc (fun x _ => sx.fn x) g.nd h1) (chkss_ok body st g sx h3) hf
  | .whl c body, st, g, sx, h => by
    cases st <;> first | exact absurd (show false = true from h) Bool.false_ne_true | skip
    case While ec st els p =>
      cases els <;> first | exact absurd (show false = true from h) Bool.false_ne_true | skip
      replace h : (chkE C lam c sc ec && tstE c ec && chkSs C lam sc body st) = true := h
      obtain ⟨h, h3⟩ := and_inv h
      obtain ⟨h1, h2⟩ := and_inv h
      exact ps_whileV sx.pass ((chk_ok c lam sc ec W X g h1).pt h2) (chkss_ok body st g sx h3)
  | .ret e, st, g, sx, h => by
    cases st <;> first | exact absurd (show false = true from h) Bool.false_ne_true | skip
    case Return o p =>
      cases o <;> first | exact absurd (show false = true from h) Bool.false_ne_true | skip
      exact ps_retV (chk_ok e lam sc _ W X g h).oe.v
  | .retO i, st, g, sx, h => by
    cases st <;> first | exact absurd (show false = true from h) Bool.false_ne_true | skip
    case Return o p =>
      cases o <;> first | exact absurd (show false = true from h) Bool.false_ne_true | skip
      case some v =>
        cases v <;> first | exact absurd (show false = true from h) Bool.false_ne_true | skip
        case Name x p2 =>
          obtain ⟨h1, h2, h3⟩ := g.nm h
          obtain ⟨h4, h5, _⟩ := plainN_of h3
          exact ps_retOV h1 h2 h4 h5
  | .retN, st, g, sx, h => by
    cases st <;> first | exact absurd (show false = true from h) Bool.false_ne_true | skip
    case Return o p =>
      cases o <;> first | exact absurd (show false = true from h) Bool.false_ne_true | skip
      exact ps_retNV
  | .brk, st, g, sx, h => by
    cases st <;> first | exact absurd (show false = true from h) Bool.false_ne_true | skip
    exact ps_brkV
  | .pass, st, g, sx, h => by
    cases st <;> first | exact absurd (show false = true from h) Bool.false_ne_true | skip
    exact ps_passV
  | .rse c es, st, g, sx, h => by
    obtain ⟨x, p1, p2, p, rfl, rfl, q⟩ := rse_inv h
    obtain ⟨g1, g2, g3⟩ := g.glob q
    obtain ⟨m1, m2⟩ := (g.glo x _ g3 : X.mg x = some (.ref (L.ca c)) ∧ ClsOk X.K (L.ca c))
    exact ps_rse0 g.calm g.tk PySem.F.excBase_ValueError m2.exc m1 m2.keep (raises_own m2.sub m2.ty) g1 (plainN_of g2).1
  | .augI p o i e, st, g, sx, h => by
    cases st <;> exact absurd (show false = true from h) Bool.false_ne_true
  | .setF o f e, st, g, sx, h => by
    cases st <;> exact absurd (show false = true from h) Bool.false_ne_true
  | .popk o e, st, g, sx, h => by
    cases st <;> exact absurd (show false = true from h) Bool.false_ne_true
  | .frz i, st, g, sx, h => by
    cases st <;> exact absurd (show false = true from h) Bool.false_ne_true
  | .try_ body hs, st, g, sx, h => by
    cases st <;> exact absurd (show false = true from h) Bool.false_ne_true
theorem chkss_ok : ∀ (ss : List S) (st : List Stmt), GX C L call k lam sc W X → SX X sc → chkSs C lam sc ss st = true → PSs X st (tSs L C.P call W ss)
  | [], st, g, sx, h => by
    cases st with
    | nil => exact pss_nilV
    | cons t ts => exact absurd (show false = true from h) Bool.false_ne_true
  | s :: ss, st, g, sx, h => by
    by_cases hf : ∃ i, s = .frz i
    · obtain ⟨i, rfl⟩ := hf
      replace h : chkSs C lam sc ss st = true := by cases st <;> exact h
      exact impSs (chkss_ok ss st g sx h) fun D σ H q => frz_read q
    · cases st with
      | nil => cases s <;> first | exact absurd (show false = true from h) Bool.false_ne_true | exact absurd ⟨_, rfl⟩ hf
      | cons t ts =>
        replace h : (chkS C lam sc s t && chkSs C lam sc ss ts) = true := by
          cases s <;> first | exact h | exact absurd ⟨_, rfl⟩ hf
        obtain ⟨h1, h2⟩ := and_inv h
        exact pss_consV (chkss s t g sx h1) (chkss_ok ss ts g sx h2)
end
end
end Sr
end

section
set_option autoImplicit false
set_option linter.all false
set_option Elab.async false
set_option maxHeartbeats 0
/-! Sr27: all defs of a program keep their promises. -/
namespace Sr
open PySem PySem.Spec PyProof.Rows L2 SeqAt
theorem envOfC_qual {q : Str} {sc : Scope} {a b a' b' : Addr} {v v' : Value} : (envOfC q sc a b v).qual = (envOfC q sc a' b' v').qual := rfl
/-- a def with its text and its term -/
structure DefOk (C : Ck) (L : Lk) (K : PySem.W.Frag) (mg : Str → Option Value) (base : Heap) (f : Nat) (F : Fn) (x qual : Str) (params : Arguments) (body : List Stmt) (scope : Scope) (N ps : List Str) (lam : Bool) (fd : FuncData) : Prop where
  fn : ∃ kws, FunD K x qual params body scope [] kws (L.fa f) fd
  sc : FnScope N ps scope
  np : ps.length = F.np
  ns : N.length = F.ns
  bind : Binds K fd ps []
  chk : chkSs { C with N := N } lam scope F.body body = true
  lm : lam = true → ∀ (dV kV doc pm : Value) (an : Option Addr) (cdv ct : Value), fd = PySem.W.fnOf x qual params body scope dV kV doc pm an cdv ct → ∃ c P0, cdv = .ref c ∧ LamX.TabB base mg c P0 ∧ (P0, (envOfC qual scope 0 0 .none).qual ++ "<lambda>") ∈ L.tl ∧ ∀ p ∈ L.tl, p.1 = P0 → p.2 = (envOfC qual scope 0 0 .none).qual ++ "<lambda>"
def FnsAt (L : Lk) (P : Pg) (call : CallF) (k : Nat) (prog : Program) (w : World) (K : PySem.W.Frag) (mg : Str → Option Value) (base : Heap) : Prop :=
  ∀ f F, P.fns f = some F → ∃ fd ps, FnOk prog w K mg base (L2.CX prog w) k (L.fa f) fd ps (spC L call F.np f) ∧ PySem.W.keepIn K (.ref (L.fa f)) = true ∧ Binds K fd ps []
/-- one def, the depth one more -/
theorem fn_step {C : Ck} {L : Lk} {prog : Program} {w : World} {K : PySem.W.Frag} {mg : Str → Option Value} {base : Heap} {l f : Nat} {F : Fn} (hK : L.K = K) (hw : L.w = w) (glo : GlobOk L C.P C.G K mg) (exm : ExmOk K L.ca C.P.nc) (dh : ∀ Y : Cx, Y.K = L.K → Y.w = L.w → Y.calm = true → Room 0 Y.A → DH L Y)
    (ih : FnsAt L C.P (run C.P l) (3 * l) prog w K mg base) (hf : C.P.fns f = some F) {x qual : Str} {params : Arguments} {body : List Stmt} {scope : Scope} {N ps : List Str} {lam : Bool} {fd : FuncData} (d : DefOk C L K mg base f F x qual params body scope N ps lam fd) :
    FnOk prog w K mg base (L2.CX prog w) (3 * (l + 1)) (L.fa f) fd ps (spC L (run C.P (l + 1)) F.np f) := by
    obtain ⟨kws, FD⟩ := d.fn
    obtain ⟨oc, od, dV, kV, doc, pm, an, cdv, ct, osl, hfd, lk, hcd, hD, hKw⟩ := FD.ex
    rw [hfd]
    rw [hfd] at lk
    have hk : 3 * (l + 1) = (3 * l + 2) + 1 := by omega
    rw [hk]
    refine fn_of lk hcd d.sc (fun vs H Q E h => ?_) fun A outer s H vs Q E hr h => ⟨_, chkss_ok (C := { C with N := N }) (L := L) (call := run C.P l) (k := 3 * l) (lam := lam) (sc := scope) (W := fun cls d _ H => E cls d H) F.body body ?_ ⟨fun _ => rfl, d.sc.kind, passes_of rfl⟩ d.chk, ?_⟩
    · obtain ⟨_, _, _, _, h1, _⟩ := h
      rw [h1, d.np]
    · refine ⟨hK.symm, rfl, d.sc.nd, rfl, rfl, takes_of rfl rfl rfl rfl, hr.mono ?_, ih, glo, exm, dh, hw.symm, fun hl => ?_⟩
      · cases lam
        · exact Nat.le_add_right _ _
        · exact Nat.le_refl _
      · obtain ⟨c, P0, e, t1, t2, t3⟩ := d.lm hl _ _ _ _ _ _ _ hfd
        exact ⟨c, P0, t1, e, t2, t3⟩
    · obtain ⟨Z, ρ, T, args, h1, b, ha, h2⟩ := h
      have hl : args.length = F.np := by rw [← paired_len ha, h1]
      refine ⟨Z, H, ρ, _, initEnv F args, T, ρ, SR.enter b ha hl d.ns, ?_⟩
      have e : run C.P (l + 1) f args T = finish T.length (execs C.P (run C.P l) F.body (initEnv F args) T) := by
        simp only [run, hf]
        rw [if_pos hl]
      rw [e, ← b.len] at h2
      exact finish_RX rfl rfl h2
/-- THE THEOREM: whatever the depth l, each def keeps its promise -/
theorem fns_at {C : Ck} {L : Lk} {prog : Program} {w : World} {K : PySem.W.Frag} {mg : Str → Option Value} {base : Heap} (hK : L.K = K) (hw : L.w = w) (glo : GlobOk L C.P C.G K mg) (exm : ExmOk K L.ca C.P.nc) (dh : ∀ Y : Cx, Y.K = L.K → Y.w = L.w → Y.calm = true → Room 0 Y.A → DH L Y)
    (defs : ∀ f F, C.P.fns f = some F → ∃ x qual params body scope N ps lam fd, DefOk C L K mg base f F x qual params body scope N ps lam fd) : ∀ l, FnsAt L C.P (run C.P l) (3 * l) prog w K mg base
  | 0, f, F, hf => by
    obtain ⟨x, qual, params, body, scope, N, ps, lam, fd, d⟩ := defs f F hf
    obtain ⟨kws, FD⟩ := d.fn
    have no : ∀ vs H Q E, ¬ spC L (run C.P 0) F.np f vs H Q E := by
      rintro vs H Q E ⟨Z, ρ, T, args, _, _, _, h⟩
      simp only [run] at h
      exact h.elim
    exact ⟨fd, ps, ⟨fun vs H Q E h => (no _ _ _ _ h).elim, fun A outer s H args us vs Q E _ _ _ _ h => (no _ _ _ _ h).elim⟩, FD.kp, d.bind⟩
  | l + 1, f, F, hf => by
    have ih := fns_at (prog := prog) (w := w) hK hw glo exm dh defs l
    obtain ⟨x, qual, params, body, scope, N, ps, lam, fd, d⟩ := defs f F hf
    obtain ⟨kws, FD⟩ := id d.fn
    exact ⟨fd, ps, fn_step hK hw glo exm dh ih hf d, FD.kp, d.bind⟩
end Sr
end

section
set_option autoImplicit false
set_option linter.all false
set_option Elab.async false
set_option maxHeartbeats 0
/-! Sr28: the def that gets lambdas, checked; a law's promise. -/
namespace Sr
open PySem PySem.Spec PyProof.Rows L2 SeqAt
def hmB (G : GT) (sc : Scope) (nm : Str) : List ExceptHandler → List (Nat × Str) → Bool
  | [], [] => true
  | .ExceptHandler (some (.Name e _)) none [.Return (some (.Compare (.Name m _) [.Eq] [.Constant (.str n) _ _] _)) _] _ :: hs, (c, n') :: cs => decide (m = nm) && decide (n = n') && decide (sc.names.lookup e = some .globalImplicit) && plainN e && decide (G.lookup e = some (.cls c)) && hmB G sc nm hs cs
  | _, _ => false
def lamB (C : Ck) (sc : Scope) (a nm : Str) (cs : List (Nat × Str)) : List Stmt → Bool
  | [.Try [.Expr (.Call (.Name x _) [] [] _) _] (h0 :: hds) [] [] _, .Return (some (.Constant (.bool false) _ _)) _] => decide (x = a) && hmB C.G sc nm (h0 :: hds) cs && plainN a && plainN nm && visB sc a && visB sc nm && cs.all fun p => decide (p.1 < C.P.nc)
  | _ => false
theorem hmB_ok {G : GT} {sc : Scope} {nm : Str} {ca : Nat → Addr} {mg : Str → Option Value} (hcls : ∀ e c, G.lookup e = some (.cls c) → mg e = some (.ref (ca c))) {Y : Cx} (hs : Y.env.scope = sc) (hm : Y.mg = mg) : ∀ {hds : List ExceptHandler} {cs : List (Nat × Str)}, hmB G sc nm hds cs = true → HM Y ca nm hds cs := by
  intro hds
  induction hds with
  | nil =>
    intro cs h
    cases cs with
    | nil => exact .nil
    | cons c cs => exact absurd (show false = true from h) Bool.false_ne_true
  | cons hd hds ih =>
    intro cs h
    unfold hmB at h
    split at h <;> rename_i q <;> first
      | (cases q; done)
      | (cases h; done)
      | skip
    cases q
    obtain ⟨h, h6⟩ := and_inv h
    obtain ⟨h, h5⟩ := and_inv h
    obtain ⟨h, h4⟩ := and_inv h
    obtain ⟨h, h3⟩ := and_inv h
    obtain ⟨h1, h2⟩ := and_inv h
    have h1 := dec_of h1
    subst h1
    have h2 := dec_of h2
    subst h2
    exact .cons ⟨by unfold Gl PySem.Env.kindOf; rw [hs]; exact dec_of h3, (plainN_of h4).1, .inl (by rw [hm]; exact hcls _ _ (dec_of h5))⟩ (ih h6)
theorem visB_of {sc : Scope} {x : Str} (h : visB sc x = true) : Vis sc x := by
  unfold visB at h
  split at h
  · rename_i e; exact .inl e
  · rename_i e; exact .inr (.inl e)
  · rename_i e; exact .inr (.inr e)
  · cases h
theorem lamdef_ok {C : Ck} {L : Lk} {K : PySem.W.Frag} {mg : Str → Option Value} {f : Nat} {x a nm : Str} {g : Addr} {fd : FuncData} {pg : Arguments} {body : List Stmt} {sg : Scope} {kws : List (Str × V)} {cs : List (Nat × Str)} (hcls : ∀ e c, C.G.lookup e = some (.cls c) → mg e = some (.ref (L.ca c)))
    (hl : C.P.lks f = some (.raises cs)) (hm : mg x = some (.ref g)) (F : FunD K x x pg body sg [] kws g fd) (hb : Binds K fd [a, nm] []) (S : FnScope [a, nm] [a, nm] sg) (h : lamB C sg a nm cs body = true) : LamDef L C.P K mg f x := by
  unfold lamB at h
  split at h <;> first
    | (cases h; done)
    | skip
  obtain ⟨h, h7⟩ := and_inv h
  obtain ⟨h, h6⟩ := and_inv h
  obtain ⟨h, h5⟩ := and_inv h
  obtain ⟨h, h4⟩ := and_inv h
  obtain ⟨h, h3⟩ := and_inv h
  obtain ⟨h1, h2⟩ := and_inv h
  have h1 := dec_of h1
  subst h1
  obtain ⟨n1, n2, _⟩ := plainN_of h3
  obtain ⟨m1, m2, _⟩ := plainN_of h4
  exact ⟨⟨cs, _, nm, g, fd, pg, _, _, sg, kws, _, _, _, _, _, _, _, hl, fun q hq => dec_of (List.all_eq_true.mp h7 q hq), hm, F, hb, S, visB_of h5, visB_of h6, fun Y hs hmy => hmB_ok hcls hs hmy h2, n1, n2, m1, m2⟩⟩
/-- the law's promise, from what its def's run gives -/
theorem law_sp {L : Lk} {P : Pg} {l f : Nat} {H : Hp} {a : Addr} {ns : List Int} {T : List Nd} (hT : LamX.Tabs L.tl H) (hS : SqL L.K H a (ns.map V.int)) (hr : run P l f [(.sh, .scr ns)] [] = .ok (.bl true, false) T) :
    spC L (run P l) 1 f [.ref a] H (fun v _ => v = .bl true) fun _ _ _ => False := by
  have hh : SqL L.K (Hd (fun _ => False) [] H) a (ns.map V.int) := by
    rcases hS with h | h
    · refine .inl ?_
      rcases h with h | ⟨o, h⟩
      · exact .inl (Hd.mk h id (by simp) (by rw [h]; exact id))
      · exact .inr ⟨o, Hd.mk h id (by simp) (by rw [h]; exact id)⟩
    · exact .inr h
  refine ⟨fun _ => False, [], [], [(.sh, .scr ns)], rfl, ⟨rfl, List.nodup_nil, fun a m => (nomatch m), fun a z => z.elim, fun k n a h => (by simp at h), hT, fun n m => (nomatch m)⟩, .cons (.inl ⟨rfl, ?_⟩) .nil, ?_⟩
  · simp only [Rep]
    exact ⟨a, rfl, hh⟩
  · rw [hr]
    intro v H' ρ' p
    exact bl_rep p.rep
theorem lm_ok {L : Lk} {K : PySem.W.Frag} {mg : Str → Option Value} {base : Heap} {f : Nat} {x qual : Str} {params : Arguments} {body : List Stmt} {scope : Scope} {kws : List (Str × V)} {fd : FuncData} {p : He.Defn} (hp : He.fAd K p = L.fa f) (F : FunD K x qual params body scope [] kws (L.fa f) fd)
    (TB : LamX.TabB base mg (He.cT K p).1 (He.cT K p).2) (hm : ((He.cT K p).2, (envOfC qual scope 0 0 .none).qual ++ "<lambda>") ∈ L.tl) (hu : ∀ q ∈ L.tl, q.1 = (He.cT K p).2 → q.2 = (envOfC qual scope 0 0 .none).qual ++ "<lambda>") (dV kV doc pm : Value) (an : Option Addr) (cdv ct : Value)
    (e : fd = PySem.W.fnOf x qual params body scope dV kV doc pm an cdv ct) : ∃ c P0, cdv = .ref c ∧ LamX.TabB base mg c P0 ∧ (P0, (envOfC qual scope 0 0 .none).qual ++ "<lambda>") ∈ L.tl ∧ ∀ p ∈ L.tl, p.1 = P0 → p.2 = (envOfC qual scope 0 0 .none).qual ++ "<lambda>" := by
  obtain ⟨oc, od, dV', kV', doc', pm', an', cdv', ct', osl, hfd, lk, hcd, _, _⟩ := F.ex
  have ec : fd.code = cdv := by rw [e]
  have ec' : fd.code = cdv' := by rw [hfd]
  obtain ⟨c, hc⟩ := He.codeIn_ref hcd
  have h1 : cdv = .ref c := by rw [← ec, ec', hc]
  have h2 : He.codeOf K p = c := He.codeOf_eq (by rw [hp]; exact lk) (by rw [ec', hc])
  refine ⟨c, (He.cT K p).2, h1, ?_, hm, hu⟩
  have : (He.cT K p).1 = c := h2
  rw [← this]
  exact TB
theorem funD_uniq {K : PySem.W.Frag} {x x' q q' : Str} {pa pa' : Arguments} {b b' : List Stmt} {sc sc' : Scope} {dv dv' : List V} {kw kw' : List (Str × V)} {f : Addr} {fd fd' : FuncData} (F : FunD K x q pa b sc dv kw f fd) (F' : FunD K x' q' pa' b' sc' dv' kw' f fd') : fd = fd' := by
  obtain ⟨oc, od, dV, kV, doc, pm, an, cdv, ct, osl, _, lk, _⟩ := F.ex
  obtain ⟨oc', od', dV', kV', doc', pm', an', cdv', ct', osl', _, lk', _⟩ := F'.ex
  rw [lk] at lk'
  injection lk' with e
  injection e with _ _ e _
  injection e
end Sr
end

section
set_option autoImplicit false
set_option linter.all false
set_option Elab.async false
/-! Sr29: dicts. -/
namespace Sr
open PySem PySem.Spec PyProof.Rows L2 SeqAt
section
variable {L : Lk} {X : Cx} {Z : Addr → Prop} {ρ : List Addr} {H Hc : Hp} {T : List Nd} {pins : List (Addr × Obj)} {σ : L2.St} {s : Shared}
mutual
theorem key_is (hK : X.K = L.K) (I : L2.Inv X pins σ H s) (sb : Sub Hc H) : ∀ (d : D) (x : V) (u : Value), d.isKey = true → Rep L ρ Hc d x → RelV x u → NestedIs s.heap d.nk u
  | .non, x, u, _, r, rx => by
    simp only [Rep] at r; subst r
    cases (show u = Value.none from rx)
    exact .none
  | .int i, x, u, _, r, rx => by
    simp only [Rep] at r; subst r
    obtain ⟨t, rfl⟩ := rx
    exact .int i t
  | .str z, x, u, _, r, rx => by
    simp only [Rep] at r; subst r
    obtain ⟨t, rfl⟩ := rx
    exact .text z t
  | .tup l, x, u, k, r, rx => by
    simp only [Rep] at r
    obtain ⟨a, vs, rfl, q, rs⟩ := r
    cases (show u = Value.ref a from rx)
    obtain ⟨its, rv, pt, _⟩ := I.tuple (hK ▸ sb.sqT q)
    obtain ⟨o, ho, hc, n, hd⟩ := pt
    exact .tup ho hc hd (by simpa using keys_is hK I sb l vs its (by simpa [D.isKey] using k) rs rv)
  | .bl _, _, _, k, _, _ => by simp [D.isKey] at k
  | .lst _, _, _, k, _, _ => by simp [D.isKey] at k
  | .dic _ _, _, _, k, _, _ => by simp [D.isKey] at k
  | .fn _, _, _, k, _, _ => by simp [D.isKey] at k
  | .own _, _, _, k, _, _ => by simp [D.isKey] at k
  | .scr _, _, _, k, _, _ => by simp [D.isKey] at k
theorem keys_is (hK : X.K = L.K) (I : L2.Inv X pins σ H s) (sb : Sub Hc H) : ∀ (ds : List D) (xs : List V) (us : List Value), D.isKeyL ds = true → Reps L ρ Hc ds xs → Vals xs us → NestedAll s.heap (D.nkL ds) us
  | [], xs, us, _, r, rx => by
    rw [r.unnil] at rx
    cases rx
    exact .nil
  | d :: ds, xs, us, k, r, rx => by
    obtain ⟨x, xs, rfl, r1, r2⟩ := r.uncons
    simp only [D.isKeyL, Bool.and_eq_true] at k
    cases rx with
    | cons q qs => exact .cons (key_is hK I sb d x _ k.1 r1 q) (keys_is hK I sb ds xs _ k.2 r2 qs)
end
mutual
theorem nk_dep : ∀ (d : D), d.isKey = true → d.nk.depth = d.dep
  | .non, _ => rfl
  | .int _, _ => rfl
  | .str _, _ => rfl
  | .tup l, k => by
    simp only [D.isKey] at k
    simp only [D.nk, NestedKey.depth, D.dep, nks_dep l k]
  | .bl _, k => by simp [D.isKey] at k
  | .lst _, k => by simp [D.isKey] at k
  | .dic _ _, k => by simp [D.isKey] at k
  | .fn _, k => by simp [D.isKey] at k
  | .own _, k => by simp [D.isKey] at k
  | .scr _, k => by simp [D.isKey] at k
theorem nks_dep : ∀ (l : List D), D.isKeyL l = true → NestedKey.depthAll (D.nkL l) = D.depL l
  | [], _ => rfl
  | d :: l, k => by
    simp only [D.isKeyL, Bool.and_eq_true] at k
    simp only [D.nkL, NestedKey.depthAll, D.depL, nk_dep d k.1, nks_dep l k.2]
end
mutual
theorem nk_inj : ∀ (x y : D), x.isKey = true → y.isKey = true → (x.eqv y = true ↔ x.nk = y.nk)
  | .non, y, _, ky => by cases y <;> simp [D.isKey] at ky <;> simp [D.eqv, D.nk]
  | .int i, y, _, ky => by cases y <;> simp [D.isKey] at ky <;> simp [D.eqv, D.nk]
  | .str z, y, _, ky => by cases y <;> simp [D.isKey] at ky <;> simp [D.eqv, D.nk]
  | .tup l, y, kx, ky => by
    cases y <;> simp [D.isKey] at ky <;> simp [D.eqv, D.nk]
    exact nks_inj l _ (by simpa [D.isKey] using kx) ky
  | .bl _, _, k, _ => by simp [D.isKey] at k
  | .lst _, _, k, _ => by simp [D.isKey] at k
  | .dic _ _, _, k, _ => by simp [D.isKey] at k
  | .fn _, _, k, _ => by simp [D.isKey] at k
  | .own _, _, k, _ => by simp [D.isKey] at k
  | .scr _, _, k, _ => by simp [D.isKey] at k
theorem nks_inj : ∀ (x y : List D), D.isKeyL x = true → D.isKeyL y = true → (D.eqvL x y = true ↔ D.nkL x = D.nkL y)
  | [], [], _, _ => by simp [D.eqvL, D.nkL]
  | [], _ :: _, _, _ => by simp [D.eqvL, D.nkL]
  | _ :: _, [], _, _ => by simp [D.eqvL, D.nkL]
  | a :: x, b :: y, kx, ky => by
    simp only [D.isKeyL, Bool.and_eq_true] at kx ky
    simp only [D.eqvL, D.nkL, Bool.and_eq_true, List.cons.injEq, nk_inj a b kx.1 ky.1, nks_inj x y kx.2 ky.2]
end
/-- the dict's entries, by key, address and value -/
theorem ents_of (hK : X.K = L.K) (I : L2.Inv X pins σ H s) (sb : Sub Hc H) : ∀ {es : List DictEntry} {kv vv : List V} {ks : List D}, EntsOk L.w es kv vv ks → Reps L ρ Hc ks kv → (∀ k ∈ ks, k.isKey = true ∧ k.dep ≤ 8) → ks.all D.isTup = true →
    ∃ xs : List (NestedKey × Addr × Value), es = xs.map (entryOfKey (nestedKind X.prog L.w)) ∧ (∀ x ∈ xs, (nestedKind X.prog L.w).is s.heap x.1 x.2.1) ∧ xs.map (·.1) = ks.map D.nk ∧ Vals vv (xs.map (·.2.2))
  | [], [], [], [], _, _, _, _ => ⟨[], rfl, by simp, rfl, .nil⟩
  | e :: es, k :: kv, v :: vv, d :: ks, h, r, ok, tp => by
    obtain ⟨h1, h2, h3, h4⟩ := h
    obtain ⟨x, xs', ex, r1, r2⟩ := r.uncons
    cases ex
    rw [List.all_cons, Bool.and_eq_true] at tp
    obtain ⟨xs, e1, e2, e3, e4⟩ := ents_of hK I sb h4 r2 (fun k hk => ok k (List.mem_cons_of_mem _ hk)) tp.2
    obtain ⟨k1, k2⟩ := ok d List.mem_cons_self
    have ni := key_is hK I sb d k e.key k1 r1 h1
    cases d <;> first
      | (cases tp.1; done)
      | skip
    case tup l =>
      have hk := r1
      simp only [Rep] at hk
      obtain ⟨a, vs, rfl, _⟩ := hk
      have ek : e.key = .ref a := h1
      rw [ek] at ni
      refine ⟨(D.nk (.tup l), a, e.val) :: xs, ?_, ?_, by rw [List.map_cons, List.map_cons, e3], .cons h2 e4⟩
      · rw [List.map_cons, ← e1]
        congr 1
        obtain ⟨eh, ekk, ev⟩ := e
        simp only at h3 ek
        simp only [entryOfKey, h3, ek]
        rfl
      · intro y hy
        rcases List.mem_cons.mp hy with rfl | hy
        · exact ⟨ni, by rw [nk_dep _ k1]; exact k2⟩
        · exact e2 y hy
  | [], [], [], _ :: _, h, _, _, _ => h.elim
  | [], [], _ :: _, _, h, _, _, _ => h.elim
  | [], _ :: _, _, _, h, _, _, _ => h.elim
  | _ :: _, [], _, _, h, _, _, _ => h.elim
  | _ :: _, _ :: _, [], _, h, _, _, _ => h.elim
  | _ :: _, _ :: _, _ :: _, [], h, _, _, _ => h.elim
end
end Sr
end

section
set_option autoImplicit false
set_option linter.all false
set_option Elab.async false
/-! Sr30: what a dict's pairs answer. -/
namespace Sr
open PySem PySem.Spec PyProof.Rows L2 SeqAt
section
variable {L : Lk} {X : Cx} {Z : Addr → Prop} {ρ : List Addr} {H Hc : Hp} {T : List Nd} {pins : List (Addr × Obj)} {σ : L2.St} {s : Shared}
section
variable {κ : Type} [DecidableEq κ]
theorem valueAt_cons (p : κ × Value) (kvs : List (κ × Value)) (k : κ) : valueAt (p :: kvs) k = if p.1 = k then some p.2 else valueAt kvs k := by
  unfold valueAt
  by_cases e : p.1 = k <;> simp [List.find?_cons, e]
/-- the pairs kvs are the keys ks with the values ds -/
theorem val_of (kk : D → κ) (x : D) : ∀ {ks ds : List D} {kvs : List (κ × Value)} {vv : List V}, (∀ k ∈ ks, (k.eqv x = true ↔ kk k = kk x)) → kvs.map (·.1) = ks.map kk → Reps L ρ Hc ds vv → Vals vv (kvs.map (·.2)) →
    ∀ {d : D}, getK ks ds x = some d → ∃ v u, valueAt kvs (kk x) = some u ∧ Rep L ρ Hc d v ∧ RelV v u
  | [], _, _, _, _, _, _, _, _, e => by simp [getK] at e
  | _ :: _, [], _, _, _, _, _, _, _, e => by simp [getK] at e
  | k :: ks, c :: ds, [], _, _, h, _, _, _, _ => by simp at h
  | k :: ks, c :: ds, p :: kvs, vv, i, h, r, q, d, e => by
    obtain ⟨v, vv, rfl, r1, r2⟩ := r.uncons
    rw [List.map_cons] at q h
    rw [List.map_cons] at h
    injection h with h1 h2
    cases q with
    | cons q1 q2 =>
      simp only [getK] at e
      rw [valueAt_cons, h1]
      by_cases c : k.eqv x = true
      · rw [if_pos c] at e
        cases e
        rw [if_pos ((i k List.mem_cons_self).mp c)]
        exact ⟨v, _, rfl, r1, q1⟩
      · rw [if_neg c] at e
        rw [if_neg (fun z => c ((i k List.mem_cons_self).mpr z))]
        exact val_of kk x (fun k hk => i k (List.mem_cons_of_mem _ hk)) h2 r2 q2 e
theorem any_of (kk : D → κ) (x : D) : ∀ {ks : List D} {kvs : List (κ × Value)}, (∀ k ∈ ks, (k.eqv x = true ↔ kk k = kk x)) → kvs.map (·.1) = ks.map kk → (valueAt kvs (kk x)).isSome = ks.any fun z => z.eqv x
  | [], [], _, _ => rfl
  | [], _ :: _, _, h => by simp at h
  | _ :: _, [], _, h => by simp at h
  | k :: ks, p :: kvs, i, h => by
    rw [List.map_cons, List.map_cons] at h
    injection h with h1 h2
    rw [valueAt_cons, h1, List.any_cons]
    by_cases c : k.eqv x = true
    · rw [if_pos ((i k List.mem_cons_self).mp c), c]; rfl
    · rw [if_neg (fun z => c ((i k List.mem_cons_self).mpr z)), any_of kk x (fun k hk => i k (List.mem_cons_of_mem _ hk)) h2]
      simp [c]
end
/-- the dict of tuple keys in the real heap -/
theorem dicH (hK : X.K = L.K) (hw : X.w = L.w) (I : L2.Inv X pins σ H s) {a : Addr} {kv vv : List V} {ks : List D} (q : DicAt L.w H a kv vv ks) (sb : Sub Hc H) (r : Reps L ρ Hc ks kv) (t : ks.all D.isTup = true) :
    ∃ kvs : List (NestedKey × Value), s.heap.DictKeyed (nestedKind X.prog X.w) a kvs ∧ (a == sysModules) = false ∧ kvs.map (·.1) = ks.map D.nk ∧ Vals vv (kvs.map (·.2)) := by
  obtain ⟨o, es, ep, h1, h2, h3, h4⟩ := q.ob
  obtain ⟨⟨g, nb⟩, _⟩ := (show ObjOk X.prog X.w H s.heap a (DicO a o) from I.hok a _ h1)
  obtain ⟨xs, e1, e2, e3, e4⟩ := ents_of hK I sb h4 r q.ok t
  rw [← hw] at e1 e2
  exact ⟨pairsH xs, ⟨xs, ⟨o, es, ep, g, h2, h3, e1, e2, by rw [e3]; exact q.nd⟩, rfl⟩, nb, by rw [← e3]; simp [pairsH], by
    have : (pairsH xs).map (·.2) = xs.map (·.2.2) := by simp [pairsH]
    rw [this]; exact e4⟩
/-- a flat key -/
def D.fk : D → L2.Key
  | .int i => .inl i
  | .str z => .inr z
  | _ => .inl 0
theorem fk_inj : ∀ (x y : D), x.flatK = true → y.flatK = true → (x.eqv y = true ↔ x.fk = y.fk) := by
  intro x y a b
  cases x <;> simp [D.flatK] at a <;> cases y <;> simp [D.flatK] at b <;> simp [D.eqv, D.fk]
theorem fk_nk : ∀ (x y : D), x.flatK = true → y.flatK = true → (x.fk = y.fk ↔ x.nk = y.nk) := by
  intro x y a b
  cases x <;> simp [D.flatK] at a <;> cases y <;> simp [D.flatK] at b <;> simp [D.nk, D.fk]
theorem fk_is {P : Program} {w : World} {d : D} {x : V} {u : Value} (f : d.flatK = true) (r : Rep L ρ Hc d x) (rx : RelV x u) : (mixKind P w).is d.fk u = true := by
  cases d <;> simp [D.flatK] at f
  case int i =>
    simp only [Rep] at r; subst r
    obtain ⟨t, rfl⟩ := rx
    exact mixKind_int _ _ _ _
  case str z =>
    simp only [Rep] at r; subst r
    obtain ⟨t, rfl⟩ := rx
    exact mixKind_str _ _ _ _
theorem pairs_of {P : Program} {w : World} (sb : True) : ∀ {es : List DictEntry} {kv vv : List V} {ks : List D}, EntsOk w es kv vv ks → Reps L ρ Hc ks kv → ks.all D.flatK = true →
    ∃ kvs : List (L2.Key × Value), Pairs (mixKind P w) es kvs ∧ kvs.map (·.1) = ks.map D.fk ∧ Vals vv (kvs.map (·.2)) ∧ ∀ e ∈ es, ∃ k, (mixKind P w).is k e.key = true ∧ e.hash = (mixKind P w).hash k
  | [], [], [], [], _, _, _ => ⟨[], .nil, rfl, .nil, by simp⟩
  | e :: es, k :: kv, v :: vv, d :: ks, h, r, f => by
    obtain ⟨h1, h2, h3, h4⟩ := h
    obtain ⟨x, xs', ex, r1, r2⟩ := r.uncons
    cases ex
    rw [List.all_cons, Bool.and_eq_true] at f
    obtain ⟨kvs, e1, e2, e3, e4⟩ := pairs_of sb h4 r2 f.2
    have i := fk_is (P := P) (w := w) f.1 r1 h1
    refine ⟨(d.fk, e.val) :: kvs, .cons i rfl e1, by rw [List.map_cons, List.map_cons, e2], .cons h2 e3, ?_⟩
    intro y hy
    rcases List.mem_cons.mp hy with rfl | hy
    · refine ⟨d.fk, i, h3.trans ?_⟩
      have f1 := f.1
      cases d <;> simp [D.flatK] at f1 <;> rfl
    · exact e4 y hy
  | [], [], [], _ :: _, h, _, _ => h.elim
  | [], [], _ :: _, _, h, _, _ => h.elim
  | [], _ :: _, _, _, h, _, _ => h.elim
  | _ :: _, [], _, _, h, _, _ => h.elim
  | _ :: _, _ :: _, [], _, h, _, _ => h.elim
  | _ :: _, _ :: _, _ :: _, [], h, _, _ => h.elim
theorem nodup_fk : ∀ {ks : List D}, ks.all D.flatK = true → (ks.map D.nk).Nodup → (ks.map D.fk).Nodup
  | [], _, _ => .nil
  | k :: ks, f, n => by
    rw [List.all_cons, Bool.and_eq_true] at f
    rw [List.map_cons, List.nodup_cons] at n ⊢
    refine ⟨fun m => n.1 ?_, nodup_fk f.2 n.2⟩
    obtain ⟨y, hy, e⟩ := List.mem_map.mp m
    exact List.mem_map.mpr ⟨y, hy, (fk_nk y k (List.all_eq_true.mp f.2 y hy) f.1).mp e⟩
/-- the dict of flat keys in the real heap -/
theorem dicF (hw : X.w = L.w) (I : L2.Inv X pins σ H s) {a : Addr} {kv vv : List V} {ks : List D} (q : DicAt L.w H a kv vv ks) (r : Reps L ρ Hc ks kv) (t : ks.all D.flatK = true) :
    ∃ kvs : List (L2.Key × Value), s.heap.DictOf (mixKind X.prog X.w) a kvs ∧ (a == sysModules) = false ∧ kvs.map (·.1) = ks.map D.fk ∧ Vals vv (kvs.map (·.2)) := by
  obtain ⟨o, es, ep, h1, h2, h3, h4⟩ := q.ob
  obtain ⟨⟨g, nb⟩, _⟩ := (show ObjOk X.prog X.w H s.heap a (DicO a o) from I.hok a _ h1)
  obtain ⟨kvs, e1, e2, e3, e4⟩ := pairs_of (P := X.prog) trivial (hw ▸ h4) r t
  exact ⟨kvs, ⟨o, es, ep, g, h2, h3, fun e he => e4 e (by simpa using he), e1, by rw [e2]; exact nodup_fk t q.nd⟩, nb, e2, e3⟩
end
end Sr
end

section
set_option autoImplicit false
set_option linter.all false
set_option Elab.async false
/-! Sr31: the dicts' rules that read. -/
namespace Sr
open PySem PySem.Spec PyProof.Rows L2 SeqAt
section
variable {L : Lk} {X : Cx} {Z : Addr → Prop} {ρ : List Addr} {H Hc : Hp} {T : List Nd} {pins : List (Addr × Obj)} {σ : L2.St} {s : Shared} {a : Addr} {kv vv : List V} {ks ds : List D} {x : D} {y : V} {u : Value} {E : Value → Shared → Prop}
theorem keyOk_tup {l : List D} (k : keyOk ks (.tup l) = true) : ks.all D.isTup = true ∧ D.isKey (.tup l) = true ∧ D.dep (.tup l) ≤ 8 := by
  simp only [keyOk, D.isTup, D.flatK, Bool.and_eq_true, Bool.or_eq_true, decide_eq_true_eq, Bool.true_and, Bool.false_and, Bool.or_false] at k
  exact ⟨k.2, k.1.1, k.1.2⟩
theorem keyOk_flat (f : x.flatK = true) (k : keyOk ks x = true) : ks.all D.flatK = true := by
  simp only [keyOk, Bool.and_eq_true, Bool.or_eq_true] at k
  rcases k.2 with c | c
  · cases x <;> first
      | (cases f; done)
      | (cases c.1; done)
  · exact c.2
theorem keyOk_or (k : keyOk ks x = true) : x.flatK = true ∨ ∃ l, x = .tup l := by
  cases x <;> simp [keyOk, D.isTup, D.flatK, D.isKey] at k ⊢
theorem is_keyH (hK : X.K = L.K) (I : L2.Inv X pins σ H s) (sb : Sub Hc H) {l : List D} (k : D.isKey (.tup l) = true) (dp : D.dep (.tup l) ≤ 8) (r : Rep L ρ Hc (.tup l) y) (ry : RelV y u) : ∃ b, u = .ref b ∧ (nestedKind X.prog X.w).is s.heap (D.nk (.tup l)) b := by
  have n := key_is hK I sb _ _ _ k r ry
  simp only [Rep] at r
  obtain ⟨b, vs, rfl, _⟩ := r
  cases (show u = Value.ref b from ry)
  exact ⟨b, rfl, n, by rw [nk_dep _ k]; exact dp⟩
theorem d_get' {Q : Value → Shared → Prop} (hK : X.K = L.K) (hw : X.w = L.w) (hu : X.A.units + 80 < cLine) (I : L2.Inv X pins σ H s) (sb : Sub Hc H) (q : DicAt L.w H a kv vv ks) (r1 : Reps L ρ Hc ks kv) (r2 : Reps L ρ Hc ds vv) (rk : Rep L ρ Hc x y) (ry : RelV y u) (k : keyOk ks x = true)
    {d : D} (e : getK ks ds x = some d) (h : ∀ v u' s', L2.Inv X pins σ H s' → Rep L ρ Hc d v → RelV v u' → Q u' s') : wpAny (model X.prog X.w) X.A (getItem (.ref a) u) Q E s := by
  rcases keyOk_or k with f | ⟨l, rfl⟩
  · have fl := keyOk_flat f k
    obtain ⟨kvs, dd, nb, e1, e2⟩ := dicF (X := X) hw I q r1 fl
    obtain ⟨v, u', e3, r3, r4⟩ := val_of D.fk x (fun k' hk => fk_inj k' x (List.all_eq_true.mp fl k' hk) f) e1 r2 e2 e
    exact wpAny_getItem_of (fk_is f rk ry) dd.mapOf e3 (h v u' _ (I.tok _) r3 r4)
  · obtain ⟨tl, ik, dp⟩ := keyOk_tup k
    obtain ⟨kvs, dd, nb, e1, e2⟩ := dicH (X := X) hK hw I q sb r1 tl
    obtain ⟨b, rfl, is⟩ := is_keyH hK I sb ik dp rk ry
    obtain ⟨v, u', e3, r3, r4⟩ := val_of D.nk (.tup l) (fun k' hk => nk_inj k' _ (q.ok k' hk).1 ik) e1 r2 e2 e
    exact getItem_keyed (knd := nestedKind X.prog X.w) (show X.A.in1.units + 8 < cLine by show X.A.units + 1 + 8 < cLine; omega) is dd e3 (h v u' _ (I.tok _) r3 r4)
theorem d_in' {Q : Value → Shared → Prop} (hK : X.K = L.K) (hw : X.w = L.w) (hu : X.A.units + 80 < cLine) (I : L2.Inv X pins σ H s) (sb : Sub Hc H) (q : DicAt L.w H a kv vv ks) (r1 : Reps L ρ Hc ks kv) (rk : Rep L ρ Hc x y) (ry : RelV y u) (k : keyOk ks x = true)
    (h : ∀ s', L2.Inv X pins σ H s' → Q (.bool (ks.any fun z => z.eqv x)) s') : wpAny (model X.prog X.w) X.A (compareOp .In u (.ref a)) Q E s := by
  rcases keyOk_or k with f | ⟨l, rfl⟩
  · have fl := keyOk_flat f k
    obtain ⟨kvs, dd, nb, e1, e2⟩ := dicF (X := X) hw I q r1 fl
    refine wpAny_in_of (fk_is f rk ry) nb dd.mapOf ?_
    rw [any_of D.fk x (fun k' hk => fk_inj k' x (List.all_eq_true.mp fl k' hk) f) e1]
    exact h _ (I.tok _)
  · obtain ⟨tl, ik, dp⟩ := keyOk_tup k
    obtain ⟨kvs, dd, nb, e1, e2⟩ := dicH (X := X) hK hw I q sb r1 tl
    obtain ⟨b, rfl, is⟩ := is_keyH hK I sb ik dp rk ry
    refine in_keyed (knd := nestedKind X.prog X.w) (show X.A.in1.units + 8 < cLine by show X.A.units + 1 + 8 < cLine; omega) is nb dd ?_
    rw [any_of D.nk (.tup l) (fun k' hk => nk_inj k' _ (q.ok k' hk).1 ik) e1]
    exact h _ (I.tok _)
theorem d_notIn' {Q : Value → Shared → Prop} (hK : X.K = L.K) (hw : X.w = L.w) (hu : X.A.units + 80 < cLine) (I : L2.Inv X pins σ H s) (sb : Sub Hc H) (q : DicAt L.w H a kv vv ks) (r1 : Reps L ρ Hc ks kv) (rk : Rep L ρ Hc x y) (ry : RelV y u) (k : keyOk ks x = true)
    (h : ∀ s', L2.Inv X pins σ H s' → Q (.bool (!ks.any fun z => z.eqv x)) s') : wpAny (model X.prog X.w) X.A (compareOp .NotIn u (.ref a)) Q E s := by
  rcases keyOk_or k with f | ⟨l, rfl⟩
  · have fl := keyOk_flat f k
    obtain ⟨kvs, dd, nb, e1, e2⟩ := dicF (X := X) hw I q r1 fl
    refine wpAny_notIn_of (fk_is f rk ry) nb dd.mapOf ?_
    rw [any_of D.fk x (fun k' hk => fk_inj k' x (List.all_eq_true.mp fl k' hk) f) e1]
    exact h _ (I.tok _)
  · obtain ⟨tl, ik, dp⟩ := keyOk_tup k
    obtain ⟨kvs, dd, nb, e1, e2⟩ := dicH (X := X) hK hw I q sb r1 tl
    obtain ⟨b, rfl, is⟩ := is_keyH hK I sb ik dp rk ry
    refine notIn_keyed (knd := nestedKind X.prog X.w) (show X.A.in1.units + 8 < cLine by show X.A.units + 1 + 8 < cLine; omega) is nb dd ?_
    rw [any_of D.nk (.tup l) (fun k' hk => nk_inj k' _ (q.ok k' hk).1 ik) e1]
    exact h _ (I.tok _)
theorem memb_dic {vs : List D} {r : Bool} (e : memb x (.dic ks vs) = some r) : keyOk ks x = true ∧ r = ks.any fun z => z.eqv x := by
  simp only [memb] at e
  split at e
  · rename_i c
    split at e
    · rename_i c'
      cases e
      simp only [keyOk, c, c', Bool.and_self]
      exact ⟨trivial, trivial⟩
    · cases e
  · cases e
theorem ro_key (h : RO L Z ρ H x y) (k : keyOk ks x = true) : Rep L ρ (Hd Z ρ H) x y := by
  rcases h with h | ⟨a, _, _, n⟩
  · exact h
  · cases x <;> simp [keyOk, D.isKey] at k <;> exact n.elim
theorem dh_in (hK : X.K = L.K) (hw : X.w = L.w) (hu : X.A.units + 80 < cLine) : CmD L X .In .isIn := by
  refine cm_in hK hu fun pins s σ H x y v u Q Z ρ T dx ks vs r I rx ry b hx hy e k => ?_
  obtain ⟨k1, rfl⟩ := memb_dic e
  obtain ⟨a, kv, vv, ex, q, r1, _⟩ := ro_dic hy
  subst ex
  cases (show u = Value.ref a from ry)
  exact d_in' hK hw hu I (Hd.sub _ _ _) q r1 (ro_key hx k1) rx k1 fun s' I' => ⟨.bl _, H, I', rfl, k⟩
theorem dh_notIn (hK : X.K = L.K) (hw : X.w = L.w) (hu : X.A.units + 80 < cLine) : CmD L X .NotIn .notIn := by
  refine cm_notIn hK hu fun pins s σ H x y v u Q Z ρ T dx ks vs r I rx ry b hx hy e k => ?_
  obtain ⟨k1, rfl⟩ := memb_dic e
  obtain ⟨a, kv, vv, ex, q, r1, _⟩ := ro_dic hy
  subst ex
  cases (show u = Value.ref a from ry)
  exact d_notIn' hK hw hu I (Hd.sub _ _ _) q r1 (ro_key hx k1) rx k1 fun s' I' => ⟨.bl _, H, I', rfl, k⟩
theorem dic_ty (I : L2.Inv X pins σ H s) (q : DicAt L.w H a kv vv ks) : s.TypeIs (.ref a) "dict" := by
  obtain ⟨o, es, ep, h1, h2, h3, h4⟩ := q.ob
  obtain ⟨⟨g, nb⟩, _⟩ := (show ObjOk X.prog X.w H s.heap a (DicO a o) from I.hok a _ h1)
  exact ⟨o, g, h2.1⟩
theorem dh_ix (hK : X.K = L.K) (hw : X.w = L.w) (hu : X.A.units + 80 < cLine) : IxDic L X := by
  rintro value slice pins s σ H x y v u Q I rx ry ⟨Z, ρ, T, ks, vs, dy, d, b, hx, hy, e, k⟩ hs
  obtain ⟨a, kv, vv, ex, q, r1, r2⟩ := rq_dic hx
  subst ex
  cases (show v = Value.ref a from rx)
  simp only [idxop] at e
  split at e
  · rename_i k1
    have hT := dic_ty I q
    unfold subscriptTail
    refine wpAny_bind ?_
    rw [getitemInPython_of_ne hT.not_modules]
    refine wpAny_bind (wpAny_specialOf hT PySem.F.slot_dict_getitem.lookup ?_)
    have fin : wpAny (model X.prog X.w) X.A (subscripted slice false (.ref a) u) (fun r s₃ => wpAny (model X.prog X.w) X.A (letTemporaryGo value (.ref a) r >>= fun _ => pure r) (EP X pins σ Q) X.xe s₃) X.xe s := by
      rw [hs]
      exact wpAny_operating (d_get' hK hw hu I (Hd.sub _ _ _) q r1 r2 (ro_key hy k1) ry k1 e fun w u' s' I' rw' ru' => wpAny_bind (wpAny_letTemporaryGo (wpAny_pure ⟨w, H, I', ru', k w rw'⟩)))
    first
      | exact wpAny_pure (wpAny_bind fin)
      | exact wpAny_bind (wpAny_pure (wpAny_bind fin))
      | exact wpAny_bind fin
  · cases e
end
end Sr
end

section
set_option autoImplicit false
set_option linter.all false
set_option Elab.async false
/-! Sr32: len of a dict; a dict's store. -/
namespace Sr
open PySem PySem.Spec PyProof.Rows L2 SeqAt
section
variable {L : Lk} {X : Cx} {Z : Addr → Prop} {ρ : List Addr} {H Hc : Hp} {T : List Nd} {pins : List (Addr × Obj)} {σ : L2.St} {s : Shared} {a : Addr} {kv vv : List V} {ks ds : List D} {x : D} {y : V} {u : Value} {E : Value → Shared → Prop}
theorem SL_fit {n : Nat} (h : n ≤ sizeLine) : (n : Int) < 2 ^ 63 := by
  have := line63
  omega
theorem dh_len (hK : X.K = L.K) (hw : X.w = L.w) : BiD L X (.builtin "len") .len := by
  refine bi_len hK fun pins s σ H x u Q Z ρ T ks vs I rx b hx k => ?_
  obtain ⟨a, kv, vv, ex, q, r1, r2⟩ := rq_dic hx
  subst ex
  cases (show u = Value.ref a from rx)
  have hz := q.sz
  rcases q.kd with t | t
  · obtain ⟨kvs, ⟨xs, dd, rfl⟩, nb, e1, e2⟩ := dicH (X := X) hK hw I q (Hd.sub _ _ _) r1 t
    have hl : xs.length = ks.length := by
      have := congrArg List.length e1
      simpa [pairsH] using this
    refine call_len_dictH nb dd (SL_fit (by omega)) ?_
    refine ⟨.int ks.length, H, I.tok _, ⟨_, by rw [hl]⟩, k⟩
  · obtain ⟨kvs, dd, nb, e1, e2⟩ := dicF (X := X) hw I q r1 t
    have hl : kvs.length = ks.length := by
      have := congrArg List.length e1
      simpa using this
    refine call_len_dict nb dd (SL_fit (by omega)) ?_
    refine ⟨.int ks.length, H, I.tok _, ⟨_, by rw [hl]⟩, k⟩
end
end Sr
end

section
set_option autoImplicit false
set_option linter.all false
set_option Elab.async false
/-! Sr33: a dict's store. -/
namespace Sr
open PySem PySem.Spec PyProof.Rows L2 SeqAt
section
variable {κ : Type} [DecidableEq κ]
theorem atKey_cons (p : κ × Addr × Value) (xs : List (κ × Addr × Value)) (k : κ) : atKey (p :: xs) k = if p.1 = k then some p.2 else atKey xs k := by
  unfold atKey
  by_cases e : p.1 = k <;> simp [List.find?_cons, e]
theorem putAt_id : ∀ {xs : List (κ × Addr × Value)} {k : κ} (v : Value), k ∉ xs.map (·.1) → xs.map (putAt k v) = xs
  | [], _, _, _ => rfl
  | p :: xs, k, v, n => by
    rw [List.map_cons, List.mem_cons, not_or] at n
    rw [List.map_cons, putAt_id v n.2]
    unfold putAt
    rw [if_neg (fun z => n.1 z.symm)]
theorem storedH_cons {p : κ × Addr × Value} {xs : List (κ × Addr × Value)} {k : κ} (b : Addr) (v : Value) (n : p.1 ∉ xs.map (·.1)) : storedH (p :: xs) k b v = if p.1 = k then (p.1, p.2.1, v) :: xs else p :: storedH xs k b v := by
  unfold storedH
  rw [atKey_cons]
  by_cases e : p.1 = k
  · rw [if_pos e, if_pos e, if_pos (show (some p.2).isSome = true from rfl), List.map_cons, putAt_id v (e ▸ n)]
    unfold putAt
    rw [if_pos e]
  · rw [if_neg e, if_neg e]
    by_cases c : (atKey xs k).isSome = true
    · rw [if_pos c, if_pos c, List.map_cons]
      unfold putAt
      rw [if_neg e]
    · rw [if_neg c, if_neg c]; rfl
theorem stored_id : ∀ {xs : List (κ × Value)} {k : κ} (v : Value), k ∉ xs.map (·.1) → xs.map (fun kv => if kv.1 = k then (kv.1, v) else kv) = xs
  | [], _, _, _ => rfl
  | p :: xs, k, v, n => by
    rw [List.map_cons, List.mem_cons, not_or] at n
    rw [List.map_cons, stored_id v n.2, if_neg (fun z => n.1 z.symm)]
theorem stored_cons {p : κ × Value} {xs : List (κ × Value)} {k : κ} (v : Value) (n : p.1 ∉ xs.map (·.1)) : stored (p :: xs) k v = if p.1 = k then (p.1, v) :: xs else p :: stored xs k v := by
  unfold stored
  rw [List.any_cons]
  by_cases e : p.1 = k
  · rw [if_pos e, List.map_cons, if_pos e, stored_id v (e ▸ n)]
    simp [e]
  · rw [if_neg e]
    by_cases c : (xs.any fun kv => decide (kv.1 = k)) = true
    · rw [if_pos c, if_pos (by simp [c]), List.map_cons, if_neg e]
    · rw [if_neg c, if_neg (by simpa [e] using c)]; rfl
end
variable {L : Lk} {X : Cx} {Z : Addr → Prop} {ρ : List Addr} {H Hc : Hp} {T : List Nd} {pins : List (Addr × Obj)} {σ : L2.St} {s : Shared} {a : Addr} {kv vv : List V} {ks ds : List D} {x : D} {y : V} {u : Value} {E : Value → Shared → Prop}
/-- the entries, by key, address and value -/
def XsOk : List (NestedKey × Addr × Value) → List V → List V → List D → Prop
  | [], [], [], [] => True
  | p :: xs, k :: kv, v :: vv, d :: ks => k = .ref p.2.1 ∧ RelV v p.2.2 ∧ p.1 = d.nk ∧ XsOk xs kv vv ks
  | _, _, _, _ => False
theorem XsOk.ents {w : World} {P : Program} : ∀ {xs : List (NestedKey × Addr × Value)} {kv vv : List V} {ks : List D}, XsOk xs kv vv ks → EntsOk w (xs.map (entryOfKey (nestedKind P w))) kv vv ks
  | [], [], [], [], _ => True.intro
  | p :: xs, k :: kv, v :: vv, d :: ks, ⟨h1, h2, h3, h4⟩ => ⟨h1 ▸ rfl, h2, by rw [← h3]; rfl, XsOk.ents h4⟩
  | [], [], [], _ :: _, h => h.elim
  | [], [], _ :: _, _, h => h.elim
  | [], _ :: _, _, _, h => h.elim
  | _ :: _, [], _, _, h => h.elim
  | _ :: _, _ :: _, [], _, h => h.elim
  | _ :: _, _ :: _, _ :: _, [], h => h.elim
theorem XsOk.of {w : World} {P : Program} : ∀ {xs : List (NestedKey × Addr × Value)} {kv vv : List V} {ks : List D}, EntsOk w (xs.map (entryOfKey (nestedKind P w))) kv vv ks → Reps L ρ Hc ks kv → ks.all D.isTup = true → xs.map (·.1) = ks.map D.nk → XsOk xs kv vv ks
  | [], [], [], [], _, _, _, _ => True.intro
  | p :: xs, k :: kv, v :: vv, d :: ks, ⟨h1, h2, h3, h4⟩, r, t, e => by
    obtain ⟨x', xs', ex, r1, r2⟩ := r.uncons
    cases ex
    rw [List.all_cons, Bool.and_eq_true] at t
    rw [List.map_cons, List.map_cons] at e
    injection e with e1 e2
    refine ⟨?_, h2, e1, XsOk.of h4 r2 t.2 e2⟩
    cases d <;> first
      | (cases t.1; done)
      | skip
    case tup l =>
      simp only [Rep] at r1
      obtain ⟨b, vs, rfl, _⟩ := r1
      have : Value.ref p.2.1 = Value.ref b := h1
      cases this
      rfl
  | [], [], [], _ :: _, h, _, _, _ => h.elim
  | [], [], _ :: _, _, h, _, _, _ => h.elim
  | [], _ :: _, _, _, h, _, _, _ => h.elim
  | _ :: _, [], _, _, h, _, _, _ => h.elim
  | _ :: _, _ :: _, [], _, h, _, _, _ => h.elim
  | _ :: _, _ :: _, _ :: _, [], h, _, _, _ => h.elim
theorem putK_keys : ∀ {ks ds : List D} {x e : D}, ks.length = ds.length → ∀ k ∈ (putK ks ds x e).1, k ∈ ks ∨ k = x
  | [], [], x, e, _, k, h => by simp [putK] at h; exact .inr h
  | [], _ :: _, x, e, hl, k, h => by simp at hl
  | _ :: _, [], x, e, hl, k, h => by simp at hl
  | q :: ks, d :: ds, x, e, hl, k, h => by
    simp only [putK] at h
    split at h
    · exact .inl h
    · rcases List.mem_cons.mp h with rfl | h
      · exact .inl List.mem_cons_self
      · rcases putK_keys (by simpa using hl) k h with h | h
        · exact .inl (List.mem_cons_of_mem _ h)
        · exact .inr h
theorem putK_len : ∀ {ks ds : List D} {x e : D}, (putK ks ds x e).1.length ≤ ks.length + 1
  | [], _, x, e => by simp [putK]
  | _ :: _, [], x, e => by simp [putK]
  | q :: ks, d :: ds, x, e => by
    simp only [putK]
    split
    · simp
    · simp only [List.length_cons]
      have := putK_len (ks := ks) (ds := ds) (x := x) (e := e)
      omega
theorem XsOk.put {b : Addr} {e : D} {v : V} {u' : Value} (ry : y = .ref b) (rk : Rep L ρ Hc x y) (re : Rep L ρ Hc e v) (rv : RelV v u') : ∀ {xs : List (NestedKey × Addr × Value)} {kv vv : List V} {ks ds : List D}, XsOk xs kv vv ks → (xs.map (·.1)).Nodup → Reps L ρ Hc ks kv → Reps L ρ Hc ds vv → (∀ k ∈ ks, (k.eqv x = true ↔ k.nk = x.nk)) →
    ∃ kv' vv', XsOk (storedH xs x.nk b u') kv' vv' (putK ks ds x e).1 ∧ Reps L ρ Hc (putK ks ds x e).1 kv' ∧ Reps L ρ Hc (putK ks ds x e).2 vv'
  | [], [], [], [], [], _, _, _, _, _ => ⟨[y], [v], ⟨ry, rv, rfl, True.intro⟩, Reps.cons rk Reps.nil, Reps.cons re Reps.nil⟩
  | p :: xs, k :: kv, w :: vv, d :: ks, c :: ds, ⟨h1, h2, h3, h4⟩, n, r1, r2, i => by
    rw [List.map_cons, List.nodup_cons] at n
    obtain ⟨_, _, e1, r1a, r1b⟩ := r1.uncons
    cases e1
    obtain ⟨_, _, e1, r2a, r2b⟩ := r2.uncons
    cases e1
    rw [storedH_cons b u' n.1]
    simp only [putK]
    by_cases q : d.eqv x = true
    · rw [if_pos q, if_pos (h3.trans ((i d List.mem_cons_self).mp q))]
      exact ⟨k :: kv, v :: vv, ⟨h1, rv, h3, h4⟩, r1, Reps.cons re r2b⟩
    · rw [if_neg q, if_neg (fun z => q ((i d List.mem_cons_self).mpr (h3.symm.trans z)))]
      obtain ⟨kv', vv', g1, g2, g3⟩ := XsOk.put ry rk re rv h4 n.2 r1b r2b (fun k hk => i k (List.mem_cons_of_mem _ hk))
      exact ⟨k :: kv', w :: vv', ⟨h1, h2, h3, g1⟩, Reps.cons r1a g2, Reps.cons r2a g3⟩
  | [], [], [], [], _ :: _, _, _, _, h, _ => by simp [Reps] at h
  | _ :: _, _ :: _, _ :: _, _ :: _, [], _, _, _, h, _ => by simp [Reps] at h
  | [], [], [], _ :: _, _, h, _, _, _, _ => h.elim
  | [], [], _ :: _, _, _, h, _, _, _, _ => h.elim
  | [], _ :: _, _, _, _, h, _, _, _, _ => h.elim
  | _ :: _, [], _, _, _, h, _, _, _, _ => h.elim
  | _ :: _, _ :: _, [], _, _, h, _, _, _, _ => h.elim
  | _ :: _, _ :: _, _ :: _, [], _, h, _, _, _, _ => h.elim
end Sr
end

section
set_option autoImplicit false
set_option linter.all false
set_option Elab.async false
/-! Sr34: a dict's store, as a rule. -/
namespace Sr
open PySem PySem.Spec PyProof.Rows L2 SeqAt
variable {L : Lk} {X : Cx} {Z : Addr → Prop} {ρ : List Addr} {H Hc : Hp} {T : List Nd} {pins : List (Addr × Obj)} {σ : L2.St} {s : Shared} {a : Addr} {kv vv : List V} {ks ds : List D} {x : D} {y : V} {u : Value} {E : Value → Shared → Prop}
/-- a flat key's value -/
def D.keyV : D → V
  | .int i => .int i
  | .str z => .str z
  | _ => .non
theorem reps_kv : ∀ {ks : List D}, ks.all D.flatK = true → Reps L ρ Hc ks (ks.map D.keyV)
  | [], _ => Reps.nil
  | d :: ks, f => by
    rw [List.all_cons, Bool.and_eq_true] at f
    refine Reps.cons ?_ (reps_kv f.2)
    have f1 := f.1
    cases d <;> first
      | (cases f1; done)
      | simp [Rep, D.keyV]
theorem rel_of_is {P : Program} {w : World} {d : D} {u : Value} (f : d.flatK = true) (h : (mixKind P w).is d.fk u = true) : RelV d.keyV u := by
  rw [mixKind_is] at h
  cases d <;> first
    | (cases f; done)
    | skip
  case int i =>
    obtain ⟨t, e⟩ := Value.isInt_shape (k := i) (v := u) h
    exact ⟨t, e⟩
  case str z =>
    obtain ⟨t, e⟩ := Value.isStrOf_shape (x := z) (v := u) h
    exact ⟨t, e⟩
theorem ents_flat {P : Program} {w : World} : ∀ {es : List DictEntry} {kvs : List (L2.Key × Value)} {ks : List D} {vv : List V}, Pairs (mixKind P w) es kvs → (∀ e ∈ es, ∃ k, (mixKind P w).is k e.key = true ∧ e.hash = (mixKind P w).hash k) → kvs.map (·.1) = ks.map D.fk → ks.all D.flatK = true → Vals vv (kvs.map (·.2)) → EntsOk w es (ks.map D.keyV) vv ks
  | [], [], [], [], _, _, _, _, _ => True.intro
  | e :: es, p :: kvs, d :: ks, v :: vv, h, hk, hm, f, hv => by
    cases h with
    | cons h1 h2 h3 =>
      rw [List.all_cons, Bool.and_eq_true] at f
      rw [List.map_cons, List.map_cons] at hm
      injection hm with m1 m2
      rw [List.map_cons] at hv
      cases hv with
      | cons v1 v2 =>
        obtain ⟨k, k1, k2⟩ := hk e List.mem_cons_self
        have ek : k = p.1 := (mixKind P w).inj _ _ _ k1 h1
        refine ⟨?_, by rw [h2]; exact v1, ?_, ents_flat h3 (fun e he => hk e (List.mem_cons_of_mem _ he)) m2 f.2 v2⟩
        · exact rel_of_is f.1 (m1 ▸ h1)
        · rw [k2, ek, m1]
          have f1 := f.1
          cases d <;> first
            | (cases f1; done)
            | rfl
  | [], _ :: _, _, _, h, _, _, _, _ => by cases h
  | _ :: _, [], _, _, h, _, _, _, _ => by cases h
  | [], [], _ :: _, _, _, _, h, _, _ => by simp at h
  | [], [], [], _ :: _, _, _, _, _, h => by cases h
  | _ :: _, _ :: _, [], _, _, _, h, _, _ => by simp at h
  | _ :: _, _ :: _, _ :: _, [], _, _, _, _, h => by cases h
theorem flat_put {e : D} {v : V} {u' : Value} (re : Rep L ρ Hc e v) (rv : RelV v u') : ∀ {kvs : List (L2.Key × Value)} {ks ds : List D} {vv : List V}, kvs.map (·.1) = ks.map D.fk → (kvs.map (·.1)).Nodup → Vals vv (kvs.map (·.2)) → Reps L ρ Hc ds vv → (∀ k ∈ ks, (k.eqv x = true ↔ k.fk = x.fk)) →
    ∃ vv', Vals vv' ((stored kvs x.fk u').map (·.2)) ∧ (stored kvs x.fk u').map (·.1) = (putK ks ds x e).1.map D.fk ∧ Reps L ρ Hc (putK ks ds x e).2 vv'
  | [], [], [], [], _, _, _, _, _ => ⟨[v], .cons rv .nil, rfl, Reps.cons re Reps.nil⟩
  | p :: kvs, d :: ks, c :: ds, w :: vv, hm, n, hv, r, i => by
    rw [List.map_cons, List.nodup_cons] at n
    rw [List.map_cons, List.map_cons] at hm
    injection hm with m1 m2
    rw [List.map_cons] at hv
    obtain ⟨_, _, e1, ra, rb⟩ := r.uncons
    cases e1
    cases hv with
    | cons v1 v2 =>
      rw [stored_cons u' n.1]
      simp only [putK]
      by_cases q : d.eqv x = true
      · rw [if_pos q, if_pos (m1.trans ((i d List.mem_cons_self).mp q))]
        exact ⟨v :: vv, .cons rv v2, by rw [List.map_cons, List.map_cons, m2, m1], Reps.cons re rb⟩
      · rw [if_neg q, if_neg (fun z => q ((i d List.mem_cons_self).mpr (m1.symm.trans z)))]
        obtain ⟨vv', g1, g2, g3⟩ := flat_put re rv m2 n.2 v2 rb (fun k hk => i k (List.mem_cons_of_mem _ hk))
        exact ⟨w :: vv', .cons v1 g1, by rw [List.map_cons, List.map_cons, m1, g2], Reps.cons ra g3⟩
  | [], _ :: _, _, _, h, _, _, _, _ => by simp at h
  | _ :: _, [], _, _, h, _, _, _, _ => by simp at h
  | [], [], _ :: _, [], _, _, _, h, _ => by simp [Reps] at h
  | [], [], _, _ :: _, _, _, h, _, _ => by cases h
  | _ :: _, _ :: _, [], _ :: _, _, _, _, h, _ => by simp [Reps] at h
  | _ :: _, _ :: _, _, [], _, _, h, _, _ => by cases h
theorem nodup_nk : ∀ {ks : List D}, ks.all D.flatK = true → (ks.map D.fk).Nodup → (ks.map D.nk).Nodup
  | [], _, _ => .nil
  | k :: ks, f, n => by
    rw [List.all_cons, Bool.and_eq_true] at f
    rw [List.map_cons, List.nodup_cons] at n ⊢
    refine ⟨fun m => n.1 ?_, nodup_nk f.2 n.2⟩
    obtain ⟨y, hy, e⟩ := List.mem_map.mp m
    exact List.mem_map.mpr ⟨y, hy, (fk_nk y k (List.all_eq_true.mp f.2 y hy) f.1).mpr e⟩
theorem XsOk.keys : ∀ {xs : List (NestedKey × Addr × Value)} {kv vv : List V} {ks : List D}, XsOk xs kv vv ks → xs.map (·.1) = ks.map D.nk
  | [], [], [], [], _ => rfl
  | p :: xs, k :: kv, v :: vv, d :: ks, ⟨h1, h2, h3, h4⟩ => by rw [List.map_cons, List.map_cons, h3, XsOk.keys h4]
  | [], [], [], _ :: _, h => h.elim
  | [], [], _ :: _, _, h => h.elim
  | [], _ :: _, _, _, h => h.elim
  | _ :: _, [], _, _, h => h.elim
  | _ :: _, _ :: _, [], _, h => h.elim
  | _ :: _, _ :: _, _ :: _, [], h => h.elim
end Sr
end

section
set_option autoImplicit false
set_option linter.all false
set_option Elab.async false
/-! Sr35: x[k] = v on a dict. -/
namespace Sr
open PySem PySem.Spec PyProof.Rows L2 SeqAt
variable {L : Lk} {X : Cx} {Z : Addr → Prop} {ρ : List Addr} {H Hc : Hp} {T : List Nd} {pins : List (Addr × Obj)} {σ : L2.St} {s : Shared} {a : Addr} {kv vv : List V} {ks ds : List D} {x : D} {y : V} {u : Value} {E : Value → Shared → Prop}
theorem putK_all {f : D → Bool} {e : D} (hl : ks.length = ds.length) (h : ks.all f = true) (hx : f x = true) : (putK ks ds x e).1.all f = true :=
  List.all_eq_true.mpr fun k hk => (putK_keys hl k hk).elim (List.all_eq_true.mp h k) fun q => q ▸ hx
theorem putK_ok {e : D} (hl : ks.length = ds.length) (h : ∀ k ∈ ks, k.isKey = true ∧ k.dep ≤ 8) (hx : x.isKey = true ∧ x.dep ≤ 8) : ∀ k ∈ (putK ks ds x e).1, k.isKey = true ∧ k.dep ≤ 8 :=
  fun k hk => (putK_keys hl k hk).elim (h k) fun q => q ▸ hx
theorem keyOk_ok (k : keyOk ks x = true) : x.isKey = true ∧ x.dep ≤ 8 := by
  simp only [keyOk, Bool.and_eq_true, decide_eq_true_eq] at k
  exact k.1
theorem d_set {Q : Unit → Shared → Prop} {e : D} {v : V} {u' : Value} (hK : X.K = L.K) (hw : X.w = L.w) (hu : X.A.units + 80 < cLine) (I : L2.Inv X pins σ H s) (sb : Sub Hc H) (q : DicAt L.w H a kv vv ks) (r1 : Reps L ρ Hc ks kv) (r2 : Reps L ρ Hc ds vv) (rk : Rep L ρ Hc x y) (ry : RelV y u) (re : Rep L ρ Hc e v) (rv : RelV v u')
    (k : keyOk ks x = true) (hz : ks.length < SZ) (hl : ks.length = ds.length)
    (h : ∀ o s' kv' vv', L2.Inv X pins σ (L2.upd H a (DicO a o)) s' → DicAt L.w (L2.upd H a (DicO a o)) a kv' vv' (putK ks ds x e).1 → Reps L ρ Hc (putK ks ds x e).1 kv' → Reps L ρ Hc (putK ks ds x e).2 vv' → Q () s') : wpAny (model X.prog X.w) X.A (setItem (.ref a) u u') Q E s := by
  have zz : (putK ks ds x e).1.length ≤ sizeLine := by
    have h1 := putK_len (ks := ks) (ds := ds) (x := x) (e := e)
    have h2 := SZ_eq
    omega
  have mu : Mut (H a) := by
    obtain ⟨o, es, ep, h1, _⟩ := q.ob
    rw [h1]
    exact True.intro
  rcases keyOk_or k with f | ⟨l, rfl⟩
  · have fl := keyOk_flat f k
    obtain ⟨kvs, dd, nb, e1, e2⟩ := dicF (X := X) hw I q r1 fl
    have nd : (kvs.map (·.1)).Nodup := by rw [e1]; exact nodup_fk fl q.nd
    have lk : kvs.length = ks.length := by
      have := congrArg List.length e1
      simpa using this
    refine wpAny_setItem_pairs (hsz := by have h2 := SZ_eq; omega) (fk_is f rk ry) dd fun h' dd' hs => ?_
    obtain ⟨vv', g1, g2, g3⟩ := flat_put re rv e1 nd e2 r2 (fun k' hk => fk_inj k' x (List.all_eq_true.mp fl k' hk) f)
    obtain ⟨o, es, ep, q1, q2, q3, q4, q5, q6⟩ := dd'
    have af := putK_all (e := e) hl fl f
    refine h o _ _ vv' (d_write I mu hs ⟨o, q1⟩ (dicO_ok q1 nb)) ⟨⟨o, es, ep, L2.upd_same, q2, q3, by rw [← hw]; exact ents_flat (P := X.prog) q5 (fun d hd => q4 d (by simpa using hd)) g2 af g1⟩, nodup_nk af (g2 ▸ q6), .inr af, putK_ok hl q.ok (keyOk_ok k), zz⟩ (reps_kv af) g3
  · obtain ⟨tl, ik, dp⟩ := keyOk_tup k
    obtain ⟨o, es, ep, h1, h2, h3, h4⟩ := q.ob
    obtain ⟨⟨g, nb⟩, _⟩ := (show ObjOk X.prog X.w H s.heap a (DicO a o) from I.hok a _ h1)
    obtain ⟨xs, x1, x2, x3, x4⟩ := ents_of hK I sb h4 r1 q.ok tl
    rw [← hw] at x1 x2
    have ee : EntsOk X.w (xs.map (entryOfKey (nestedKind X.prog X.w))) kv vv ks := by
      have h5 := h4
      rw [← hw, x1] at h5
      exact h5
    have xo := XsOk.of ee r1 tl x3
    obtain ⟨b, rfl, is⟩ := is_keyH hK I sb ik dp rk ry
    have lk : xs.length = ks.length := by
      have := congrArg List.length x3
      simpa using this
    have yb : y = .ref b := by
      have rk' := rk
      simp only [Rep] at rk'
      obtain ⟨b', _, rfl, _⟩ := rk'
      have : Value.ref b = Value.ref b' := ry
      cases this
      rfl
    refine wpAny_setItem_heap (knd := nestedKind X.prog X.w) (hsz := by have h2 := SZ_eq; omega) (show X.A.in1.units + 8 < cLine by show X.A.units + 1 + 8 < cLine; omega) is (xs := xs) ⟨o, es, ep, g, h2, h3, x1, x2, by rw [x3]; exact q.nd⟩ fun h' dd' hs => ?_
    obtain ⟨kv', vv', g1, g2, g3⟩ := XsOk.put yb rk re rv xo (by rw [x3]; exact q.nd) r1 r2 (fun k' hk => nk_inj k' _ (q.ok k' hk).1 ik)
    obtain ⟨o', es', ep', q1, q2, q3, q4, q5, q6⟩ := dd'
    refine h o' _ kv' vv' (d_write I mu hs ⟨o', q1⟩ (dicO_ok q1 nb)) ⟨⟨o', es', ep', L2.upd_same, q2, q3, ?_⟩, by rw [← g1.keys]; exact q6, .inl (putK_all hl tl rfl), putK_ok hl q.ok (keyOk_ok k), zz⟩ g2 g3
    rw [q4, hw]
    exact g1.ents
theorem dh_set (hK : X.K = L.K) (hw : X.w = L.w) (hu : X.A.units + 80 < cLine) : SetDic L X := by
  rintro pins s σ H o i v ov iv u Q I ro ri rv ⟨Z, ρ, T, a, ks, vs, di, e, d', rfl, b, ⟨kv, vv, q, r1, r2⟩, hi, re, es, k⟩
  cases (show ov = Value.ref a from ro)
  have hl : ks.length = vs.length := by
    obtain ⟨o, es', ep, h1, h2, h3, h4⟩ := q.ob
    have : ∀ {es : List DictEntry} {kv vv : List V} {ks : List D}, EntsOk L.w es kv vv ks → kv.length = vv.length := by
      intro es
      induction es with
      | nil =>
        intro kv vv ks h
        cases kv <;> cases vv <;> cases ks <;> first
          | rfl
          | exact h.elim
      | cons e es ih =>
        intro kv vv ks h
        cases kv <;> cases vv <;> cases ks <;> first
          | exact h.elim
          | (rw [List.length_cons, List.length_cons, ih h.2.2.2])
    rw [← r1.length, ← r2.length]
    exact this h4
  simp only [setAt] at es
  split at es
  · rename_i c
    rw [Bool.and_eq_true, decide_eq_true_eq] at c
    cases es
    exact d_set hK hw hu I (Hd.sub _ _ _) q r1 r2 (ro_key hi c.1) ri re rv c.1 c.2 hl fun o s' kv' vv' I' qq g2 g3 => ⟨_, I', k _ ⟨kv', vv', qq, g2, g3⟩⟩
  · cases es
end Sr
end

section
set_option autoImplicit false
set_option linter.all false
set_option Elab.async false
/-! Sr36: list(dict); all the dicts' rules. -/
namespace Sr
open PySem PySem.Spec PyProof.Rows L2 SeqAt
section
variable {L : Lk} {X : Cx} {Z : Addr → Prop} {ρ : List Addr} {H Hc : Hp} {T : List Nd} {pins : List (Addr × Obj)} {σ : L2.St} {s : Shared} {a : Addr} {kv vv : List V} {ks ds : List D} {x : D} {y : V} {u : Value} {E : Value → Shared → Prop}
theorem raw_lt {h : Heap} {d : Addr} {es : Array DictEntry} {ep : Nat} (x : h.DictRaw d es ep) : d < h.objs.size := let ⟨_, ho, _⟩ := x; Heap.lt_size ho
theorem raw_src {P : Program} {w : World} {d : Addr} (es : Array DictEntry) (ep : Nat) (lo : (d == sysModules) = false) : PySem.W.KdlSrc P w "dict" d d es.size (fun i v => ∃ hi : i < es.size, v = es[i].key) (fun h => h.DictRaw d es ep) where
  type := fun _ hm => hm.typeIs
  there := fun _ hm => ⟨raw_lt hm, raw_lt hm⟩
  keep := fun _ _ hm hk => hm.at fun o e => hk d (.inl rfl) o e
  notList := by decide
  notTuple := by decide
  hint := fun _ _ _ _ hm hq => PySem.W.kdl_hint_dict hm.typeIs hq
  iter := fun _ _ hh hm => ⟨_, _, (fun _ _ hq => wpAny_pyIter_dict_raw lo hm hq), Walks.rawKeys hh _ d (Nat.ne_of_lt (raw_lt hm)) es ep, ⟨⟨_, Heap.get?_push_size _ rfl, rfl, rfl⟩, hm.at fun o e => Heap.get?_push_of_some _ e⟩⟩
theorem ents_vals {w : World} : ∀ {es : List DictEntry} {kv vv : List V} {ks : List D}, EntsOk w es kv vv ks → Vals kv (es.map (·.key))
  | [], [], [], [], _ => .nil
  | e :: es, k :: kv, v :: vv, d :: ks, ⟨h1, _, _, h4⟩ => .cons h1 (ents_vals h4)
  | [], [], [], _ :: _, h => h.elim
  | [], [], _ :: _, _, h => h.elim
  | [], _ :: _, _, _, h => h.elim
  | _ :: _, [], _, _, h => h.elim
  | _ :: _, _ :: _, [], _, h => h.elim
  | _ :: _, _ :: _, _ :: _, [], h => h.elim
theorem dh_list (hK : X.K = L.K) (hc : X.calm = true) : BiD L X (.type "list") .list := by
  refine bi_list hK fun pins s σ H x u Q Z ρ T ks vs I rx b hx k => ?_
  obtain ⟨a, kv, vv, ex, q, r1, r2⟩ := rq_dic hx
  subst ex
  cases (show u = Value.ref a from rx)
  obtain ⟨o, es, ep, h1, h2, h3, h4⟩ := q.ob
  obtain ⟨⟨g, nb⟩, _⟩ := (show ObjOk X.prog X.w H s.heap a (DicO a o) from I.hok a _ h1)
  have ev := ents_vals h4
  have el : es.size = kv.length := by
    have := ev.length
    simpa using this.symm
  have kl : kv.length = ks.length := r1.length
  have hz := q.sz
  refine PySem.W.kdl_call (raw_src (P := X.prog) (w := X.w) es ep nb) (I.ok.hd hc) ⟨o, g, h2, h3⟩ (by omega) fun h' tk acc' c' hkeep hS hacc => ?_
  have eq : acc'.toList = es.toList.map (·.key) := by
    refine List.ext_getElem? fun j => ?_
    have l1 : acc'.size = es.size := hacc.1
    by_cases hj : j < es.size
    · have hj' : j < acc'.size := by omega
      obtain ⟨hi, e⟩ := hacc.2 j acc'[j] (by simp [hj'])
      rw [List.getElem?_map, Array.getElem?_toList, Array.getElem?_toList, Array.getElem?_eq_getElem hj', Array.getElem?_eq_getElem hj, e]
      rfl
    · rw [List.getElem?_eq_none (by simp; omega), List.getElem?_eq_none (by simp; omega)]
  refine ⟨.ref s.heap.objs.size, L2.upd H s.heap.objs.size (.lst kv), I.laid hkeep (Nat.le_refl _) (show ObjOk X.prog X.w _ _ _ (.lst kv) from ⟨by omega, acc'.toList, c', by rw [eq]; exact ev, by simpa using hS⟩), rfl, ?_⟩
  exact k _ _ _ (Post.newLst b (I.hok.fresh (Nat.le_refl _)) r1)
end
end Sr
end

section
set_option autoImplicit false
set_option linter.all false
set_option Elab.async false
set_option maxRecDepth 100000
/-! Sr37: sorted(row). -/
namespace Sr
open PySem PySem.Spec PyProof.Rows L2 SeqAt
section
variable {prog : Program} {w : World} {A : Around} {E : Value → Shared → Prop} {s : Shared}
/-- what a tuple gives, gathered -/
theorem gather_tup {l : Addr} {vs : List Value} {Q : List Value → Shared → Prop} (hl : s.heap.IsTuple l vs.toArray)
    (h : Q vs { s with heap := (s.heap.push (seqObj "list" #[] 0)).update s.heap.objs.size (Obj.mapSeq (· ++ vs.toArray)) }) (hsz : vs.length ≤ sizeLine) :
    wpAny (model prog w) A (collect (.ref l)) Q E s := by
  obtain ⟨o, ho, hc, n, hd⟩ := id hl
  unfold collect
  refine wpAny_bind (wpAny_runValue (codeAny_builtin entry_proto_collect' ?_))
  show wpAny _ _ (do again (.builtin "list.__iadd__" ⟨[← newList [], .ref l], []⟩)) _ _ s
  refine wpAny_bind (wpAny_newList (wpAny_pure ⟨Code.quiet_builtin _ (by decide +kernel), codeAny_builtin entry_list_iadd' ?_⟩))
  show wpAny _ _ (Builtin.List.listExtendWith (.ref s.heap.objs.size) (.ref l) (.ref s.heap.objs.size)) _ _ { s with heap := s.heap.push (seqObj "list" #[] 0) }
  unfold Builtin.List.listExtendWith
  have ho' : (s.heap.push (seqObj "list" #[] 0)).get? l = some o := Heap.get?_push_of_some _ ho
  refine wpAny_bind (wpAny_typeOf (T := "tuple") ⟨o, ho', hc⟩ ?_)
  have ht : (Value.type "tuple" == Value.type "tuple") = true := by rfl
  rw [if_pos (by rw [ht]; simp)]
  refine wpAny_bind (listItems_at ho' hd ?_)
  refine wpAny_bind (listItems_at (xs := #[]) (n := 0) (Heap.get?_push_size _ rfl) rfl ?_)
  rw [if_neg (by simp)]
  refine wpAny_bind (listUpdate_at (xs := #[]) (n := 0) (Heap.get?_push_size _ rfl) rfl ?_ (Nat.zero_le _) (by show (#[] ++ vs.toArray).size ≤ sizeLine + 1; simp only [Array.size_append, List.size_toArray, List.length_nil]; omega))
  refine wpAny_pure ?_
  show wpAny (model prog w) A (do
      let o ← load s.heap.objs.size
      match o.data with
      | .seq xs _ => pure xs.toList
      | _ => unsupported "internal:collect") Q E { s with heap := (s.heap.push (seqObj "list" #[] 0)).update s.heap.objs.size (Obj.mapSeq (· ++ vs.toArray)) }
  refine wpAny_bind (wpAny_load (get?_update_seq (Heap.get?_push_size _ rfl) _) ?_)
  show wpAny _ _ (pure ((#[] : Array Value) ++ vs.toArray).toList) Q E _
  rw [show ((#[] : Array Value) ++ vs.toArray).toList = vs by simp]
  exact wpAny_pure h
/-- sorted(xs), xs a list or a tuple of alike data -/
theorem sorted_seq {β : Type} {vs : List Value} {bs : List β} {enc : β → PyData} {R : Value → β → Prop} {l : Addr} {Q : Value → Shared → Prop} (hl : s.heap.IsList l vs.toArray ∨ s.heap.IsTuple l vs.toArray) (e : PySem.W.EachIs R vs bs) (er : PySem.W.EachIs (fun v b => ∃ as, Reads s.heap v (enc b) as) vs bs) (hal : PySem.W.AllAlike (bs.map enc)) (hk : PySem.W.Sortable (bs.map enc)) (hL : bs.length ≤ sizeLine)
    (hu : ∀ b, b ∈ bs → A.units + 2 + (enc b).depth < cLine) (h : ∀ out, out.length = bs.length → PySem.W.EachIs R out (bs.mergeSort (PySem.W.dataLe false enc)) → Q (.ref (s.heap.objs.size + 1)) { s with heap := sortedAll s.heap vs (List.toArray out) }) :
    wpAny (model prog w) A (PySem.call (.builtin "sorted") [.ref l]) Q E s := by
  rcases hl with hl | hl
  · exact PySem.W.sorted_data hl e er hal hk hL hu h
  · have er' : PySem.W.EachIs (fun v b => ∃ as, Reads (PySem.W.sortingHeap (PySem.W.copyHeap s.heap vs) (s.heap.objs.size + 1) vs) v (enc b) as) vs bs := er.mono fun _ _ ⟨as, r⟩ => ⟨as, PyProof.Rows.Reads.keeps (fun _ _ => PySem.W.sorting_copy_old) r⟩
    have hL' : vs.length ≤ sizeLine := by rw [e.length]; exact hL
    have S := PySem.W.SortsAt.data (prog := prog) (w := w) (A := A.in1.in1) (s := { s with heap := PySem.W.sortingHeap (PySem.W.copyHeap s.heap vs) (s.heap.objs.size + 1) vs }) (PySem.W.each_map (R := fun v d => ∃ as, Reads (PySem.W.sortingHeap (PySem.W.copyHeap s.heap vs) (s.heap.objs.size + 1) vs) v d as) enc er') hal hk (PySem.W.bound_map hu)
    refine Calls.call_function_entry kind_sorted plain_sorted entry_sorted (args_sorted1 _) ?_
    unfold Builtin.«sorted»
    refine wpAny_bind (m := checkCount "sorted" 1 1 _) (wpAny_pure ?_)
    refine wpAny_bind (gather_tup hl ?_ hL')
    refine wpAny_bind (wpAny_newList ?_ hL')
    have hsz : ((s.heap.push (seqObj "list" #[] 0)).update s.heap.objs.size (Obj.mapSeq (· ++ vs.toArray))).objs.size = s.heap.objs.size + 1 := by
      rw [Heap.size_update, size_push']
    show wpAny _ _ _ _ _ { s with heap := PySem.W.copyHeap s.heap vs }
    rw [hsz]
    refine wpAny_bind (wpAny_holding (wpAny_call_entry slot_list_sort ⟨_, PySem.W.copyHeap_at s.heap vs, rfl⟩ entry_list_sort ?body (args_list_sort _)))
    case body =>
      show wpAny (model prog w) A.in1.in1 (Builtin.«list.sort» ⟨[.ref (s.heap.objs.size + 1)], []⟩) _ _ _
      refine wpAny_mono (PySem.W.list_sort_vals (s := { s with heap := PySem.W.copyHeap s.heap vs }) (P := fun f s' => f = .done (.ret .none) ∧ Q (.ref (s.heap.objs.size + 1)) s') (E := E) (PySem.W.copyHeap_at s.heap vs) S hL' ⟨rfl, h _ (by rw [PySem.W.sortVals_length false rfl]; exact e.length) (PySem.W.sortVals_data false e er' hal)⟩) (fun f s' hf => ?_) fun _ _ e => ?_
      · obtain ⟨rfl, hq⟩ := hf
        exact ⟨_, rfl, wpAny_pure ⟨_, rfl, hq⟩⟩
      · exact e
end
section
variable {L : Lk} {X : Cx}
theorem reps_pairs {ρ : List Addr} {Hc : Hp} : ∀ {ps : List (D × V)}, (∀ p ∈ ps, Rep L ρ Hc p.1 p.2) → Reps L ρ Hc (ps.map (·.1)) (ps.map (·.2))
  | [], _ => Reps.nil
  | p :: ps, h => Reps.cons (h p (List.mem_cons_self ..)) (reps_pairs fun q hq => h q (List.mem_cons_of_mem _ hq))
theorem reps_zip {ρ : List Addr} {Hc : Hp} : ∀ {ds : List D} {vs : List V}, Reps L ρ Hc ds vs → (ds.zip vs).map (·.1) = ds ∧ (ds.zip vs).map (·.2) = vs ∧ ∀ p ∈ ds.zip vs, Rep L ρ Hc p.1 p.2
  | [], vs, h => by rw [h.unnil]; exact ⟨rfl, rfl, by simp⟩
  | d :: ds, vs, h => by
    obtain ⟨x, xs, rfl, h1, h2⟩ := h.uncons
    obtain ⟨a, b, c⟩ := reps_zip h2
    refine ⟨by rw [List.zip_cons_cons, List.map_cons, a], by rw [List.zip_cons_cons, List.map_cons, b], fun p hp => ?_⟩
    rcases List.mem_cons.mp hp with rfl | hp
    · exact h1
    · exact c p hp
theorem each_vals {ps : List (D × V)} {us : List Value} (h : Vals (ps.map (·.2)) us) : PySem.W.EachIs (fun u (p : D × V) => RelV p.2 u) us ps := by
  induction ps generalizing us with
  | nil => cases h; exact .nil
  | cons p ps ih => cases h with | cons a t => exact .cons a (ih t)
theorem vals_each {ps : List (D × V)} {us : List Value} (h : PySem.W.EachIs (fun u (p : D × V) => RelV p.2 u) us ps) : Vals (ps.map (·.2)) us := by
  induction h with
  | nil => exact .nil
  | cons a t ih => exact .cons a ih
section
variable {α : Type}
def ins (le : α → α → Bool) (x : α) : List α → List α
  | [] => [x]
  | y :: ys => if le x y then x :: y :: ys else y :: ins le x ys
def isort (le : α → α → Bool) : List α → List α
  | [] => []
  | x :: xs => ins le x (isort le xs)
theorem ins_at {le : α → α → Bool} {a : α} : ∀ {l1 l2 : List α}, (∀ b ∈ l1, (!le a b) = true) → (∀ c ∈ l2, le a c = true) → ins le a (l1 ++ l2) = l1 ++ a :: l2
  | [], [], _, _ => rfl
  | [], c :: l2, _, h => by
    show (if le a c then a :: c :: l2 else c :: ins le a l2) = _
    rw [if_pos (h c (List.mem_cons_self ..))]; rfl
  | b :: l1, l2, h, h2 => by
    show (if le a b then a :: b :: (l1 ++ l2) else b :: ins le a (l1 ++ l2)) = _
    have := h b (List.mem_cons_self ..)
    rw [if_neg (by simpa using this), ins_at (fun c hc => h c (List.mem_cons_of_mem _ hc)) h2]; rfl
theorem mergeSort_isort {le : α → α → Bool} (trans : ∀ a b c, le a b = true → le b c = true → le a c = true) (total : ∀ a b, (le a b || le b a) = true) : ∀ l : List α, l.mergeSort le = isort le l
  | [] => by simp [isort]
  | a :: l => by
    obtain ⟨l1, l2, h1, h2, h3⟩ := List.mergeSort_cons trans total a l
    have hp := List.pairwise_mergeSort trans total (a :: l)
    rw [h1] at hp
    have h4 := (List.pairwise_cons.mp (List.pairwise_append.mp hp).2.1).1
    rw [h1, isort, ← mergeSort_isort trans total l, h2, ins_at h3 h4]
theorem ins_mem {le : α → α → Bool} {x y : α} : ∀ {l : List α}, y ∈ ins le x l → y = x ∨ y ∈ l
  | [], h => .inl (List.mem_singleton.mp h)
  | z :: l, h => by
    unfold ins at h
    split at h
    · rcases List.mem_cons.mp h with h | h
      · exact .inl h
      · exact .inr h
    · rcases List.mem_cons.mp h with h | h
      · exact .inr (h ▸ List.mem_cons_self ..)
      · rcases ins_mem h with h | h
        · exact .inl h
        · exact .inr (List.mem_cons_of_mem _ h)
theorem isort_mem {le : α → α → Bool} {y : α} : ∀ {l : List α}, y ∈ isort le l → y ∈ l
  | [], h => h
  | x :: l, h => by
    rcases ins_mem (show y ∈ ins le x (isort le l) from h) with h | h
    · exact h ▸ List.mem_cons_self ..
    · exact List.mem_cons_of_mem _ (isort_mem h)
end
theorem ins_fst {le : D × V → D × V → Bool} {x : D × V} : ∀ {l : List (D × V)}, (∀ y ∈ l, le x y = !y.1.ltB x.1) → (ins le x l).map (·.1) = insD x.1 (l.map (·.1))
  | [], _ => rfl
  | y :: l, h => by
    have h1 := h y (List.mem_cons_self ..)
    show ((if le x y then x :: y :: l else y :: ins le x l).map (·.1)) = if y.1.ltB x.1 then y.1 :: insD x.1 (l.map (·.1)) else x.1 :: y.1 :: l.map (·.1)
    rw [h1]
    cases y.1.ltB x.1
    · rfl
    · show y.1 :: (ins le x l).map (·.1) = _
      rw [ins_fst fun z hz => h z (List.mem_cons_of_mem _ hz)]; rfl
theorem isort_fst {le : D × V → D × V → Bool} : ∀ {l : List (D × V)}, (∀ x ∈ l, ∀ y ∈ l, le x y = !y.1.ltB x.1) → (isort le l).map (·.1) = sortD (l.map (·.1))
  | [], _ => rfl
  | x :: l, h => by
    show (ins le x (isort le l)).map (·.1) = insD x.1 (sortD (l.map (·.1)))
    rw [ins_fst fun y hy => h x (List.mem_cons_self ..) y (List.mem_cons_of_mem _ (isort_mem hy)), isort_fst fun a ha b hb => h a (List.mem_cons_of_mem _ ha) b (List.mem_cons_of_mem _ hb)]
theorem bi_sorted (hK : X.K = L.K) (hu : X.A.units + 80 < cLine) : BiD L X (.builtin "sorted") .sorted := by
  rintro pins s σ H xs us Q I rx ⟨Z, ρ, T, ds, r, b, hx, e, k⟩
  have go : ∀ (l : List D) (a : Addr) (vs : List V), Reps L ρ (Hd Z ρ H) l vs → (if (allAlk l && sortable l) = true then some (D.lst (sortD l), true) else none) = some r → Vals [V.ref a] us →
      (SqL X.K H a vs ∨ SqT X.K H a vs) → wpAny (model X.prog X.w) X.A (PySem.call (.builtin "sorted") us) (EP X pins σ Q) X.xe s := by
    intro l a vs hr e rx sq
    split at e
    · rename_i hc
      cases e
      rw [Bool.and_eq_true] at hc
      obtain ⟨c1, c2⟩ := hc
      have c1 : ∀ x ∈ l, (x.pln = true ∧ x.dep ≤ 64) ∧ ∀ y ∈ l, x.alk y = true := by
        intro x hx
        have := List.all_eq_true.mp c1 x hx
        simp only [Bool.and_eq_true, decide_eq_true_eq, List.all_eq_true] at this
        exact this
      rw [Vals.ref1 rx]
      obtain ⟨z1, z2, z3⟩ := reps_zip hr
      have key : ∃ its : List Value, Vals vs its ∧ (s.heap.IsList a its.toArray ∨ s.heap.IsTuple a its.toArray) ∧ vs.length ≤ sizeLine := by
        rcases sq with sq | sq
        · obtain ⟨its, rv, t, z⟩ := I.list sq
          exact ⟨its, rv, .inl t.isList, z⟩
        · obtain ⟨its, rv, t, z⟩ := I.tuple sq
          exact ⟨its, rv, .inr (show s.heap.IsTuple a its.toArray from t), z⟩
      obtain ⟨its, rv, hl, hz⟩ := key
      rw [← z2] at rv
      have hlen : (l.zip vs).length ≤ sizeLine := by
        have := congrArg List.length z2
        rw [List.length_map] at this
        omega
      have memL : ∀ p ∈ l.zip vs, p.1 ∈ l := fun p hp => by
        have : p.1 ∈ (l.zip vs).map (·.1) := List.mem_map.mpr ⟨p, hp, rfl⟩
        rwa [z1] at this
      refine sorted_seq (bs := l.zip vs) (enc := fun p => p.1.pd) (R := fun u p => RelV p.2 u) hl (each_vals rv) ?_ ?_ ?_ hlen (fun p hp => ?_) fun out hlo ho => ?_
      · have : ∀ {ps : List (D × V)} {us : List Value}, (∀ p ∈ ps, p.1 ∈ l ∧ Rep L ρ (Hd Z ρ H) p.1 p.2) → Vals (ps.map (·.2)) us → PySem.W.EachIs (fun v (p : D × V) => ∃ as, Reads s.heap v p.1.pd as) us ps := by
          intro ps
          induction ps with
          | nil => intro us _ h; cases h; exact .nil
          | cons p ps ih =>
            intro us hp h
            cases h with
            | cons a t =>
              obtain ⟨m, rr⟩ := hp p (List.mem_cons_self ..)
              obtain ⟨⟨p1, p2⟩, p3⟩ := c1 p.1 m
              exact .cons (alk_reads (Z := Z) (ρ := ρ) hK I (p3 p.1 m) p1 (.inl rr) a) (ih (fun q hq => hp q (List.mem_cons_of_mem _ hq)) t)
        exact this (fun p hp => ⟨memL p hp, z3 p hp⟩) rv
      · intro d hd d' hd'
        obtain ⟨p, hp, rfl⟩ := List.mem_map.mp hd
        obtain ⟨q, hq, rfl⟩ := List.mem_map.mp hd'
        exact (alk_pd _ _ ((c1 _ (memL p hp)).2 _ (memL q hq))).1
      · rw [sortable, Bool.or_eq_true, List.all_eq_true, List.all_eq_true] at c2
        rcases c2 with c2 | c2
        · refine .inl fun d hd => ?_
          obtain ⟨p, hp, rfl⟩ := List.mem_map.mp hd
          have := c2 _ (memL p hp)
          revert this
          cases p.1 with
          | tup es =>
            cases es with
            | nil => intro h; simp at h
            | cons y ys => exact fun _ => ⟨y.pd, D.pdL ys, rfl⟩
          | _ => intro h; simp at h
        · refine .inr fun d hd => ?_
          obtain ⟨p, hp, rfl⟩ := List.mem_map.mp hd
          have := c2 _ (memL p hp)
          revert this
          cases p.1 with
          | int i => exact fun _ => ⟨by simp [D.pd], by simp [D.pd]⟩
          | _ => intro h; simp at h
      · obtain ⟨⟨p1, p2⟩, p3⟩ := c1 p.1 (memL p hp)
        have := dep_pd p.1
        omega
      · have es : ((l.zip vs).mergeSort (PySem.W.dataLe false fun p => p.1.pd)).map (·.1) = sortD l := by
          have tl : PySem.W.TotalLe (PySem.W.dataLe false fun p : D × V => p.1.pd) := PySem.W.sortLe_total _ _ _
          rw [mergeSort_isort (fun a b c => tl.trans a b c) (fun a b => by rw [Bool.or_eq_true]; exact tl.total a b), isort_fst fun p hp q hq => ?_, z1]
          rw [PySem.W.dataLe_eq]
          show (!PySem.W.dataLt q.1.pd p.1.pd) = _
          rw [lt_pd _ _ ((c1 _ (memL q hq)).2 _ (memL p hp))]
        have hd : s.heap.objs.size ≤ s.heap.objs.size + 1 := Nat.le_succ _
        obtain ⟨n, hn⟩ := sortedAll_at s.heap its out.toArray
        have rv2 := vals_each ho
        have zz : (((l.zip vs).mergeSort (PySem.W.dataLe false fun p => p.1.pd)).map (·.2)).length ≤ sizeLine := by
          rw [List.length_map, List.length_mergeSort]; exact hlen
        refine ⟨.ref (s.heap.objs.size + 1), upd H (s.heap.objs.size + 1) (.lst (((l.zip vs).mergeSort (PySem.W.dataLe false fun p => p.1.pd)).map (·.2))), I.laid (t' := s.toks) (fun b o e => sortedAll_old e) hd ⟨zz, out, n, rv2, hn⟩, rfl, ?_⟩
        refine k _ _ ρ ?_
        have rr := reps_pairs (L := L) (ρ := ρ) (Hc := Hd Z ρ H) (ps := (l.zip vs).mergeSort (PySem.W.dataLe false fun p => p.1.pd)) fun p hp => z3 p (List.mem_mergeSort.mp hp)
        rw [es] at rr
        exact Post.newLst b (I.hok.fresh hd) rr
    · cases e
  match ds, hx, e with
  | [], hx, e => simp [bip] at e
  | [d], hx, e =>
    obtain ⟨x, exs, hx1⟩ := pq_one hx
    subst exs
    simp only [bip] at e
    obtain ⟨l, e0, e⟩ := Option.bind_eq_some_iff.mp e
    cases d <;> simp only [seqOf] at e0 <;> cases e0
    · obtain ⟨a, vs, ex, q, r⟩ := rq_tup hx1
      subst ex
      exact go _ a vs r e rx (.inr (hK ▸ (Hd.sub _ _ _).sqT q))
    · obtain ⟨a, vs, ex, q, r⟩ := rq_lst hx1
      subst ex
      exact go _ a vs r e rx (.inl (SqL.of q))
  | d :: d' :: ds, hx, e => cases d <;> simp [bip, seqOf] at e
end
end Sr
end

section
set_option autoImplicit false
set_option linter.all false
set_option Elab.async false
set_option maxRecDepth 100000
/-! Sr38: a dict is walked. -/
namespace Sr
open PySem PySem.Spec PyProof.Rows L2 SeqAt
/-- the keys of the dict at d, whose object stays -/
def Itq (d : Addr) (o : Obj) (kv : List V) : It :=
  ⟨fun i H => H d = some (DicO d o) ∧ i < kv.length, fun i H x H' => H' = H ∧ kv[i]? = some x, fun i H => H d = some (DicO d o) ∧ kv.length ≤ i⟩
section
variable {P : Program} {w : World} {K : PySem.W.Frag} {tg : Expr} {d : Addr} {o : Obj} {es : Array DictEntry} {ep : Nat}
theorem turn_q {kv : List V} (it : Addr) (hx : o.ExactDict) (hod : o.data = .dict es ep) (ev : ∀ s : Heap, Vals kv (es.toList.map (·.key))) : Turn P w K tg (Itq d o kv) [it] it (fun i h => h.IsKeyIter it d i kv.length ep) where
  mem := by simp
  obj := fun i h st b hb => by
    have e : b = it := by simpa using hb
    subst e
    obtain ⟨oi, e, c, dd⟩ := st
    exact ⟨oi, e, fun v z => by rw [dd] at z; cases z⟩
  keep := fun i h h' st k => st.at fun oi e => k it (by simp) oi e
  item := by
    intro X hP hw hK hc i pins s σ H E I hf st hg
    subst hP hw hK
    obtain ⟨hd, hi⟩ := hg
    obtain ⟨f0, f1, f2, f3, f4, f5⟩ := hf it (by simp)
    obtain ⟨⟨hgd, nb⟩, _⟩ := (show ObjOk X.prog X.w H s.heap d (DicO d o) from I.hok d _ hd)
    have ev := ev s.heap
    have hsz : es.size = kv.length := by
      have := ev.length
      simpa using this.symm
    have hie : i < es.size := by omega
    obtain ⟨u, hu, ru⟩ := ev.get (List.getElem?_eq_getElem hi)
    have hen : es[i]? = some es[i] := Array.getElem?_eq_getElem hie
    refine next_key_item st hgd hod hsz hen fun h' st' sb => ?_
    have I1 : Inv X pins σ H { s with heap := h' } := I.turned (t' := s.toks) (fun b ob hb e => (sb.2 b hb).trans e) f0 f1 f3 f4 f5
    obtain ⟨oi, e, c, dd⟩ := id st'
    have eu : u = es[i].key := by
      rw [List.getElem?_map, Array.getElem?_toList, hen] at hu
      exact (Option.some.inj hu).symm
    exact ⟨es[i].key, rfl, go_of (s := { s with heap := h' }) e c dd (by decide) ⟨kv[i], H, I1, eu ▸ ru, ⟨rfl, List.getElem?_eq_getElem hi⟩, st', fun b hb => (hf b hb).1⟩⟩
  done := by
    intro X hP hw hK hc i pins s σ H E I hf st hg
    subst hP hw hK
    obtain ⟨hd, hi⟩ := hg
    obtain ⟨f0, f1, f2, f3, f4, f5⟩ := hf it (by simp)
    obtain ⟨⟨hgd, nb⟩, _⟩ := (show ObjOk X.prog X.w H s.heap d (DicO d o) from I.hok d _ hd)
    have hsz : es.size = kv.length := by
      have := (ev s.heap).length
      simpa using this.symm
    exact next_key_end (I.ok.hd hc) st hgd hod hsz hi fun h' eb => ⟨rfl, I.turned (t' := s.toks) (fun b ob hb e => eb b ob hb e) f0 f1 f3 f4 f5⟩
  self := fun A i s Q E st h => by
    refine wpAny_pyIter_slot st.typeIs F.slot_dict_keyiterator_iter (wpAny_call_entry F.slot_dict_keyiterator_iter st.typeIs F.entry_dict_keyiterator_iter ?_ (F.args_dict_keyiterator_iter_1 _))
    show wpAny _ _ (ret (.ref it)) _ _ s
    exact wpAny_pure ⟨_, rfl, "dict_keyiterator", _, st.typeIs, F.slot_dict_keyiterator_next.lookup, h⟩
end
section
variable {L : Lk} {X : Cx}
theorem vals_inj : ∀ {xs ys : List V} {us : List Value}, Vals xs us → Vals ys us → xs = ys
  | _, _, _, .nil, .nil => rfl
  | _, _, _, .cons a r, .cons b q => by rw [RelV.inj a b, vals_inj r q]
theorem dh_walk (hK : X.K = L.K) : WalkDic L X := by
  intro tg pins s σ H x u Z ρ ks ws R I rx r k
  obtain ⟨a, kv, vv, ex, q, r1, r2⟩ := ro_dic r
  subst ex
  cases (show u = Value.ref a from rx)
  obtain ⟨o, es, ep, h1, h2, h3, h4⟩ := q.ob
  obtain ⟨⟨g, nb⟩, _⟩ := (show ObjOk X.prog X.w H s.heap a (DicO a o) from I.hok a _ h1)
  have ev := ents_vals h4
  have hsz : es.size = kv.length := by
    have := ev.length
    simpa using this.symm
  refine wpAny_pyIter_dict_raw nb ⟨o, g, h2, h3⟩ (pi_one (tk := s.toks) I _ (turn_q s.heap.objs.size h2 h3 fun _ => ev) ⟨_, Heap.get?_push_size _ rfl, rfl, by rw [hsz]; rfl⟩ (k _ ?_))
  intro Z' ρ' H' h st i
  obtain ⟨x', ex', h⟩ := po_one h
  cases ex'
  obtain ⟨a', kv', vv', e', q', r1', r2'⟩ := ro_dic h
  cases e'
  have hs : H' a = some (DicO a o) := by
    cases st with
    | cons s1 s2 => exact s1 ks ws a o es ep rfl rfl h1 h3
  obtain ⟨o', es', ep', g1, g2, g3, g4⟩ := q'.ob
  have oo : o = o' := by
    have e := Option.some.inj (hs.symm.trans g1)
    unfold DicO at e
    have e2 := HO.ext.inj e
    have e3 := congrFun e2 s.heap
    have e4 := e3.mp ⟨g, nb⟩
    exact Option.some.inj (g.symm.trans e4.1)
  subst oo
  rw [h3] at g3
  cases g3
  have ek : kv = kv' := vals_inj ev (ents_vals g4)
  subst ek
  refine ⟨fun hi => ⟨hs, by rw [r1'.length]; exact hi⟩, fun d hd => ?_⟩
  obtain ⟨v, hv, rv⟩ := r1'.get hd
  refine ⟨⟨hs, (List.getElem?_eq_some_iff.mp hv).1⟩, fun x H'' y => ?_⟩
  obtain ⟨y1, y2⟩ := y
  rw [hv] at y2
  cases y2
  exact .inl ⟨y1, rv⟩
end
end Sr
end

section
set_option autoImplicit false
set_option linter.all false
set_option Elab.async false
set_option maxRecDepth 100000
/-! Sr39: d.get(k), d.get(k, x), l.index(x). -/
namespace Sr
open PySem PySem.Spec PyProof.Rows L2 SeqAt
section
variable {L : Lk} {X : Cx} {Z : Addr → Prop} {ρ : List Addr} {H Hc : Hp} {T : List Nd} {pins : List (Addr × Obj)} {σ : L2.St} {s : Shared} {a : Addr} {kv vv : List V} {ks ds : List D} {x : D} {y : V} {u : Value} {E : Value → Shared → Prop}
/-- there is no such key -/
theorem none_of {κ : Type} [DecidableEq κ] (kk : D → κ) (x : D) {kvs : List (κ × Value)} (i : ∀ k ∈ ks, (k.eqv x = true ↔ kk k = kk x)) (h : kvs.map (·.1) = ks.map kk) (hl : ks.length = ds.length) (e : getK ks ds x = none) : valueAt kvs (kk x) = none := by
  have h1 := any_of kk x i h
  have : ∀ {ks ds : List D}, ks.length = ds.length → getK ks ds x = none → (ks.any fun z => z.eqv x) = false := by
    intro ks
    induction ks with
    | nil => intro _ _ _; rfl
    | cons k ks ih =>
      intro ds hl e
      cases ds with
      | nil => simp at hl
      | cons d ds =>
        simp only [getK] at e
        split at e
        · cases e
        · rename_i n
          rw [List.any_cons, ih (by simpa using hl) e]
          simpa using n
  rw [this hl e] at h1
  cases q : valueAt kvs (kk x) with
  | none => rfl
  | some v => rw [q] at h1; cases h1
/-- the answer of get, with r where there is none -/
theorem d_getD {Q : Value → Shared → Prop} (hK : X.K = L.K) (hw : X.w = L.w) (hu : X.A.units + 80 < cLine) (I : L2.Inv X pins σ H s) (sb : Sub Hc H) (q : DicAt L.w H a kv vv ks) (r1 : Reps L ρ Hc ks kv) (r2 : Reps L ρ Hc ds vv) (rk : Rep L ρ Hc x y) (ry : RelV y u) (k : keyOk ks x = true)
    {e : D} {f : V} {r : Value} (re : Rep L ρ Hc e f) (rf : RelV f r) (h : ∀ v u' s', L2.Inv X pins σ H s' → Rep L ρ Hc ((getK ks ds x).getD e) v → RelV v u' → Q u' s') :
    wpAny (model X.prog X.w) X.A (PySem.call (.builtin "dict.get") [.ref a, u, r]) Q E s ∧ (r = .none → wpAny (model X.prog X.w) X.A (PySem.call (.builtin "dict.get") [.ref a, u]) Q E s) := by
  have hl : ks.length = ds.length := by
    have h3 : vv.length = kv.length := by
      obtain ⟨o, es, ep, _, _, _, h4⟩ := q.ob
      have : ∀ {es : List DictEntry} {kv vv : List V} {ks : List D}, EntsOk L.w es kv vv ks → vv.length = kv.length := by
        intro es
        induction es with
        | nil => intro kv vv ks h; cases kv <;> cases vv <;> cases ks <;> first | rfl | exact h.elim
        | cons e es ih => intro kv vv ks h; cases kv <;> cases vv <;> cases ks <;> first | exact h.elim | (simp only [List.length_cons]; rw [ih h.2.2.2])
      exact this h4
    have h1 := r1.length
    have h2 := r2.length
    omega
  rcases keyOk_or k with f' | ⟨l, rfl⟩
  · have fl := keyOk_flat f' k
    obtain ⟨kvs, dd, nb, e1, e2⟩ := dicF (X := X) hw I q r1 fl
    have key : ∃ v u', (valueAt kvs x.fk).getD r = u' ∧ Rep L ρ Hc ((getK ks ds x).getD e) v ∧ RelV v u' := by
      cases g : getK ks ds x with
      | some d =>
        obtain ⟨v, u', e3, r3, r4⟩ := val_of D.fk x (fun k' hk => fk_inj k' x (List.all_eq_true.mp fl k' hk) f') e1 r2 e2 g
        exact ⟨v, u', by rw [e3]; rfl, r3, r4⟩
      | none => exact ⟨f, r, by rw [none_of D.fk x (fun k' hk => fk_inj k' x (List.all_eq_true.mp fl k' hk) f') e1 hl g]; rfl, re, rf⟩
    obtain ⟨v, u', e3, r3, r4⟩ := key
    refine ⟨call_meetsIn PySem.F.slot_dict_get dd.typeIs PySem.F.entry_dict_get (PySem.F.args_dict_get_3 _ _ _) (meets_dict_get_default (mixKind X.prog X.w) a (fk_is f' rk ry) nb r) ⟨_, dd.mapOf, ?_⟩, ?_⟩
    · rw [e3]; exact h v u' _ (I.tok _) r3 r4
    · rintro rfl
      refine call_meetsIn PySem.F.slot_dict_get dd.typeIs PySem.F.entry_dict_get (PySem.F.args_dict_get_2 _ _) (meets_dict_get (mixKind X.prog X.w) a (fk_is f' rk ry) nb) ⟨_, dd.mapOf, ?_⟩
      rw [e3]; exact h v u' _ (I.tok _) r3 r4
  · obtain ⟨tl, ik, dp⟩ := keyOk_tup k
    obtain ⟨kvs, dd, nb, e1, e2⟩ := dicH (X := X) hK hw I q sb r1 tl
    obtain ⟨b, rfl, is⟩ := is_keyH hK I sb ik dp rk ry
    have key : ∃ v u', (valueAt kvs (D.nk (.tup l))).getD r = u' ∧ Rep L ρ Hc ((getK ks ds (.tup l)).getD e) v ∧ RelV v u' := by
      cases g : getK ks ds (.tup l) with
      | some d =>
        obtain ⟨v, u', e3, r3, r4⟩ := val_of D.nk (.tup l) (fun k' hk => nk_inj k' _ (q.ok k' hk).1 ik) e1 r2 e2 g
        exact ⟨v, u', by rw [e3]; rfl, r3, r4⟩
      | none => exact ⟨f, r, by rw [none_of D.nk (.tup l) (fun k' hk => nk_inj k' _ (q.ok k' hk).1 ik) e1 hl g]; rfl, re, rf⟩
    obtain ⟨v, u', e3, r3, r4⟩ := key
    refine ⟨getOr_keyed (knd := nestedKind X.prog X.w) (show X.A.in1.units + 8 < cLine by show X.A.units + 1 + 8 < cLine; omega) is nb dd (by rw [e3]; exact h v u' _ (I.tok _) r3 r4), ?_⟩
    rintro rfl
    exact get_keyed (knd := nestedKind X.prog X.w) (show X.A.in1.units + 8 < cLine by show X.A.units + 1 + 8 < cLine; omega) is nb dd (by rw [e3]; exact h v u' _ (I.tok _) r3 r4)
theorem md_get (hK : X.K = L.K) (hw : X.w = L.w) (hu : X.A.units + 80 < cLine) : MtD L X "dict.get" .get := by
  rintro pins s σ H x xs v us Q I rx rxs ⟨Z, ρ, T, d, ds, r, b, hx, hds, e, k⟩
  cases d <;> first
    | (simp [mtp] at e; done)
    | skip
  case dic ks vs =>
    obtain ⟨a, kv, vv, ex, q, r1, r2⟩ := rq_dic hx
    subst ex
    cases (show v = Value.ref a from rx)
    match ds, hds, e with
    | [], hds, e => simp [mtp] at e
    | [c], hds, e =>
      obtain ⟨y, ys, rfl, h1, h2⟩ := hds.uncons
      rw [h2.unnil] at rxs
      cases rxs with
      | cons ry rt =>
        cases rt
        simp only [mtp] at e
        split at e
        · rename_i kk
          cases e
          exact (d_getD hK hw hu I (Hd.sub _ _ _) q r1 r2 h1 ry kk (e := .non) (f := .non) (r := .none) (by simp [Rep]) rfl fun v u' s' I' r3 r4 => ⟨v, H, I', r4, k _ _ _ (Post.of b r3)⟩).2 rfl
        · cases e
    | [c, c2], hds, e =>
      obtain ⟨y, ys, rfl, h1, h2⟩ := hds.uncons
      obtain ⟨y2, ys, rfl, h3, h4⟩ := h2.uncons
      rw [h4.unnil] at rxs
      cases rxs with
      | cons ry rt =>
        cases rt with
        | cons ry2 rt =>
          cases rt
          simp only [mtp] at e
          split at e
          · rename_i kk
            cases e
            exact (d_getD hK hw hu I (Hd.sub _ _ _) q r1 r2 h1 ry kk h3 ry2 fun v u' s' I' r3 r4 => ⟨v, H, I', r4, k _ _ _ (Post.of b r3)⟩).1
          · cases e
    | c :: c2 :: c3 :: ds, hds, e => simp [mtp] at e
end
end Sr
end

section
set_option autoImplicit false
set_option linter.all false
set_option Elab.async false
set_option maxRecDepth 100000
/-! Sr40: l.index(x). -/
namespace Sr
open PySem PySem.Spec PyProof.Rows L2 SeqAt
section
variable {L : Lk} {X : Cx}
theorem find_at {x : D} : ∀ {l : List D} {j : Nat}, findD l x = some j → (∃ d, l[j]? = some d ∧ d.eqv x = true) ∧ ∀ m d, m < j → l[m]? = some d → d.eqv x = false
  | [], j, h => by simp [findD] at h
  | y :: ys, j, h => by
    simp only [findD] at h
    split at h
    · rename_i c
      cases h
      exact ⟨⟨y, rfl, c⟩, fun m d hm => absurd hm (Nat.not_lt_zero _)⟩
    · rename_i c
      obtain ⟨i, h1, rfl⟩ := Option.map_eq_some_iff.mp h
      obtain ⟨⟨d, h2, h3⟩, h4⟩ := find_at h1
      refine ⟨⟨d, by simpa using h2, h3⟩, fun m d hm hd => ?_⟩
      cases m with
      | zero =>
        cases (Option.some.inj hd)
        simpa using c
      | succ m => exact h4 m d (by omega) (by simpa using hd)
theorem DAll.at {h : Heap} : ∀ {ks : List D} {vs : List Value} {i : Nat} {d : D}, DAll h ks vs → ks[i]? = some d → ∃ v, vs[i]? = some v ∧ DIs h d v
  | _, _, i, d, .nil, e => by simp at e
  | _, _, 0, d, .cons a b, e => by cases (Option.some.inj e); exact ⟨_, rfl, a⟩
  | _, _, i + 1, d, .cons a b, e => by
    obtain ⟨v, h1, h2⟩ := DAll.at b (by simpa using e)
    exact ⟨v, by simpa using h1, h2⟩
theorem md_index (hK : X.K = L.K) (hu : X.A.units + 80 < cLine) : MtD L X "list.index" .index := by
  rintro pins s σ H x xs v us Q I rx rxs ⟨Z, ρ, T, d, ds, r, b, hx, hds, e, k⟩
  cases d <;> first
    | (simp [mtp] at e; done)
    | skip
  case lst l =>
    match ds, hds, e with
    | [], hds, e => simp [mtp] at e
    | c :: c2 :: ds, hds, e => simp [mtp] at e
    | [c], hds, e =>
      obtain ⟨y, ys, rfl, h1, h2⟩ := hds.uncons
      rw [h2.unnil] at rxs
      cases rxs with
      | cons ry rt =>
        rename_i uy ut
        cases rt
        simp only [mtp] at e
        split at e
        · rename_i cc
          simp only [Bool.and_eq_true, decide_eq_true_eq] at cc
          obtain ⟨j, ej, rfl⟩ := Option.map_eq_some_iff.mp e
          obtain ⟨⟨dj, j1, j2⟩, j3⟩ := find_at ej
          obtain ⟨a, vs, ex, q, rr⟩ := rq_lst hx
          subst ex
          cases (show v = Value.ref a from rx)
          have dx : DIs s.heap (.lst l) (.ref a) := Rep.dIs hK I (.lst l) (.ref a) (.ref a) (by simpa [D.pln] using cc.1.2) (hx.rep (Hd.sub _ _ _)) rfl
          have dy : DIs s.heap c uy := Rep.dIs hK I c y uy cc.1.1 (h1.mono (Hd.sub _ _ _)) ry
          cases dx with
          | lst g1 g2 =>
            rename_i its
            obtain ⟨⟨cls, dd, data, sls⟩, ho, hc, n, hd⟩ := g1
            simp only at hc hd
            subst hc hd
            have hel := g2.length
            obtain ⟨uj, u1, u2⟩ := g2.at j1
            have hj : j < its.size := by
              have := (List.getElem?_eq_some_iff.mp u1).1
              simpa using this
            have hz : its.size ≤ sizeLine := by
              obtain ⟨its2, rv, pl, z⟩ := I.list (SqL.of (K := X.K) q)
              obtain ⟨o, n2, ho2, _, _, hd2⟩ := pl
              rw [ho] at ho2
              cases ho2
              cases hd2
              have := rv.length
              simp at *
              omega
            have hsl := sizeLine_eq
            refine call_meets PySem.F.slot_list_index ⟨_, ho, rfl⟩ PySem.F.entry_list_index (PySem.F.args_list_index_2 _ _)
              (SeqAt.list_indexAt a its n dd sls uy (fun w => (dOf s.heap w).eqv c) j hj (by omega) ?_ ?_) ⟨ho, eq_items g2 dy (by omega), .int (j : Nat), H, I.tok _, ⟨_, rfl⟩, k _ _ _ (Post.int b _)⟩
            · have : its[j] = uj := by
                rw [Array.getElem?_toList, Array.getElem?_eq_getElem hj] at u1
                exact Option.some.inj u1
              rw [this]
              show (dOf s.heap uj).eqv c = true
              rw [dOf_eq u2]; exact j2
            · intro m hm hmj
              have hml : m < l.length := by have : its.toList.length = l.length := hel; simp at this; omega
              obtain ⟨um, w1, w2⟩ := g2.at (List.getElem?_eq_getElem hml)
              have : its[m] = um := by
                rw [Array.getElem?_toList, Array.getElem?_eq_getElem hm] at w1
                exact Option.some.inj w1
              rw [this]
              show (dOf s.heap um).eqv c = false
              rw [dOf_eq w2]; exact j3 m _ hmj (List.getElem?_eq_getElem hml)
        · cases e
end
end Sr
end

section
set_option autoImplicit false
set_option linter.all false
set_option Elab.async false
set_option maxRecDepth 100000
/-! Sr41: enumerate over a list, a tuple, a text. -/
namespace Sr
open PySem PySem.Spec PyProof.Rows L2 SeqAt
set_option maxHeartbeats 1000000 in
theorem enum_new1 {v : Value} {o : Obj} {H : Heap → Prop} (B : Begins v o H) :
    Meets (Builtin.«enumerate.__new__» ⟨[.type "enumerate", v], []⟩) (fun _ R s => H s.heap ∧
      R (.ok (.ret (.ref (s.heap.push o).objs.size))) { s with heap := (s.heap.push o).push { cls := .type "enumerate", data := .fields #[.none, .bool false, .ref s.heap.objs.size, rawInt 0, .none, .none] } }) :=
  .of_wp fun prog w A R s h => by
    obtain ⟨hp, g, d, tk, os⟩ := s; obtain ⟨h1, h⟩ := h
    have hsub := sub_enumerate
    have q1 : ∀ {A' : Around} {E : Value → Shared → Prop} {Q : Value → Shared → Prop}, Q (.ref hp.objs.size) ⟨hp.push o, g, d, tk, os⟩ → wpAny (model prog w) A' (pyIter v) Q E ⟨hp, g, d, tk, os⟩ :=
      fun q => B.iter prog w _ _ ⟨hp, g, d, tk, os⟩ _ h1 q
    wp_walk using q1
    refine wpAny_stack_any fun st => wpAny_pure ?_
    split
    · rename_i c _ _ _ _ _
      cases (c == Value.type "enumerate")
      · wp_walk using q1
        exact ⟨_, rfl, h⟩
      · wp_walk using q1
        exact ⟨_, rfl, h⟩
    · wp_walk using q1
      exact ⟨_, rfl, h⟩
section
variable {prog : Program} {w : World} {A : Around} {E : Value → Shared → Prop} {s : Shared}
/-- enumerate(v): its two new cells -/
theorem enum_one {v : Value} {o : Obj} {H : Heap → Prop} {Q : Value → Shared → Prop} (B : Begins v o H) (h1 : H s.heap)
    (h : ∀ h', IsEnum h' (s.heap.objs.size + 1) s.heap.objs.size 0 .none → h'.get? s.heap.objs.size = some o → h'.objs.size = s.heap.objs.size + 2 →
      (∀ b o, s.heap.get? b = some o → h'.get? b = some o) → Q (.ref (s.heap.objs.size + 1)) { s with heap := h' }) :
    wpAny (model prog w) A (PySem.call (.type "enumerate") [v]) Q E s := by
  refine callType_new F.called_enumerate (by decide) (F.typeCall_enumerate_1 _) (F.newCall_enumerate_1 _) (fun obj => F.args_object_init_2 obj _) F.entry_enumerate_new
    (enum_new1 B) ⟨h1, ?_⟩
  have hz : (s.heap.push o).objs.size = s.heap.objs.size + 1 := Heap.size_push ..
  show _ ∧ _
  rw [hz]
  have he : IsEnum ((s.heap.push o).push { cls := .type "enumerate", data := .fields #[.none, .bool false, .ref s.heap.objs.size, rawInt 0, .none, .none] }) (s.heap.objs.size + 1) s.heap.objs.size 0 .none := by
    have := Heap.get?_push_size (s.heap.push o) (o := { cls := .type "enumerate", data := .fields #[.none, .bool false, .ref s.heap.objs.size, rawInt 0, .none, .none] }) rfl
    rw [hz] at this; exact this
  refine ⟨⟨_, he, rfl⟩, h _ he (Heap.get?_push_of_some _ (Heap.get?_push_size _ B.free)) (by rw [Heap.size_push, hz]) fun b o x => Heap.get?_push_of_some _ (Heap.get?_push_of_some _ x)⟩
end
/-- the pairs (i, x) of a tuple -/
def Itet (K : PySem.W.Frag) (a : Addr) : It :=
  ⟨fun i H => ∃ (xs : List V) (x : V), SqT K H a xs ∧ xs[i]? = some x, fun i H v H' => ∃ T x, v = .ref T ∧ H T = none ∧ H' = upd H T (.tup [.int (i : Nat), x]) ∧ ∀ xs, SqT K H a xs → xs[i]? = some x, fun i H => ∃ xs : List V, SqT K H a xs ∧ xs.length ≤ i⟩
theorem sqT_inj {X : Cx} {pins : List (Addr × Obj)} {σ : L2.St} {H : Hp} {s : Shared} (I : Inv X pins σ H s) {a : Addr} {xs ys : List V} (h : SqT X.K H a xs) (h' : SqT X.K H a ys) : xs = ys := by
  obtain ⟨its, r1, p1, _⟩ := I.tuple h
  obtain ⟨its', r2, p2, _⟩ := I.tuple h'
  have : its.toArray = its'.toArray := IsTuple.inj (show s.heap.IsTuple a its.toArray from p1) p2
  have e : its = its' := by simpa using this
  subst e
  exact vals_inj r1 r2
theorem turn_enumT {P : Program} {w : World} {K : PySem.W.Frag} {elts : List Expr} {kk : Nat} {tpos : Pos} (a e it : Addr) (hea : a ≠ e) (hia : a ≠ it) :
    Turn P w K (.Tuple elts kk tpos) (Itet K a) [e, it] e (fun i h => (∃ old, IsEnum h e it ((i : Nat) : Int) old) ∧ h.IsTupleIter it a i ∧ e ≠ it) where
  mem := by simp
  obj := fun i h st b hb => by
    obtain ⟨⟨old, he⟩, ⟨o, ho, hc, hd⟩, _⟩ := st
    have e' : b = e ∨ b = it := by simpa using hb
    rcases e' with z | z
    · rw [z]; exact ⟨_, he, fun v q => nomatch q⟩
    · rw [z]; exact ⟨o, ho, fun v q => by rw [hd] at q; cases q⟩
  keep := fun i h h' st k => let ⟨⟨old, he⟩, hi, hne⟩ := st; ⟨⟨old, k e (by simp) _ he⟩, hi.at fun o q => k it (by simp) o q, hne⟩
  item := by
    intro X hP hw hK hc i pins s σ H E I hf st hg
    subst hP hw hK
    obtain ⟨⟨old, he⟩, hit, hne⟩ := st
    obtain ⟨xs, x, hq, hx⟩ := hg
    obtain ⟨its, rv, p, hz⟩ := I.tuple hq
    obtain ⟨u, hu, ru⟩ := rv.get hx
    have hel : e < s.heap.objs.size := Heap.lt_size he
    have hil : it < s.heap.objs.size := by obtain ⟨_, q, _⟩ := hit; exact Heap.lt_size q
    have pt : s.heap.IsTuple a its.toArray := p
    have hlt : i < its.toArray.size := by have := (List.getElem?_eq_some_iff.mp hu).1; simpa using this
    refine wpAny_pyNext_enum_itemD (Draws.tuple (A := X.A.in1) (I.ok.hd hc) it a hia its.toArray) he ⟨hit, pt⟩ hlt hne (by simp; exact ⟨hne, fun z => hea z.symm⟩) fun y h' tk hy ho hit' hT hsz hk => ?_
    have hy : y = u := by
      have h1 : its.toArray[i]? = some u := by simpa using hu
      exact Option.some.inj (hy.symm.trans h1)
    subst hy
    refine ⟨_, rfl, wpAny_letOwnedTupleGo_enum (s := { s with heap := h', toks := tk + 1 }) ho fun h'' he' sb => ?_⟩
    have hT2 : h''.get? s.heap.objs.size = some { cls := .type "tuple", data := .seq #[.int i tk, y] } := (sb.2 _ (Nat.ne_of_gt hel)).trans hT
    have new : ObjOk X.prog X.w (upd H s.heap.objs.size (.tup [.int (i : Nat), x])) h'' s.heap.objs.size (.tup [.int (i : Nat), x]) :=
      ⟨by show 2 ≤ sizeLine; decide, [.int i tk, y], .cons ⟨_, rfl⟩ (.cons ru .nil), ⟨_, hT2, rfl, _, rfl⟩⟩
    have I1 : Inv X pins σ (upd H s.heap.objs.size (.tup [.int (i : Nat), x])) { s with heap := h'', toks := tk + 1 } :=
      I.turnedNew (ch := [e, it]) (fun b ob hb q => (sb.2 b (fun z => hb (by simp [z]))).trans (hk b ob (fun z => hb (by simp [z])) (fun z => hb (by simp [z])) q)) hf (Nat.le_refl _) new
    refine ⟨.ref s.heap.objs.size, _, I1, rfl, ⟨_, x, rfl, I.hok.fresh (Nat.le_refl _), rfl, fun ys hy => by rw [sqT_inj I hy hq]; exact hx⟩, ⟨⟨y, ?_⟩, hit'.1.at fun o q => (sb.2 it (Ne.symm hne)).trans q, hne⟩, fun b hb => ?_⟩
    · have e1 : ((i + 1 : Nat) : Int) = (i : Int) + 1 := by omega
      rw [e1]; exact he'
    · have hb' : b < s.heap.objs.size := by
        have e' : b = e ∨ b = it := by simpa using hb
        rcases e' with z | z
        · rw [z]; exact hel
        · rw [z]; exact hil
      rw [upd_ne (Nat.ne_of_lt hb')]
      exact (hf b hb).1
  done := by
    intro X hP hw hK hc i pins s σ H E I hf st hg
    subst hP hw hK
    obtain ⟨⟨old, he⟩, hit, hne⟩ := st
    obtain ⟨xs, hq, hx⟩ := hg
    obtain ⟨its, rv, p, hz⟩ := I.tuple hq
    have pt : s.heap.IsTuple a its.toArray := p
    obtain ⟨f0, f1, f2, f3, f4, f5⟩ := hf it (by simp)
    have hl := rv.length
    have hend : its.toArray[i]? = none := by simp; omega
    have hT : s.TypeIs (.ref e) "enumerate" := ⟨_, he, rfl⟩
    unfold pyNext
    refine wpAny_bind (wpAny_attempt (wpAny_callSpecial?_slot (name := Str.ofString "__next__") hT F.slot_enumerate_next
      (wpAny_call_entry F.slot_enumerate_next hT F.entry_enumerate_next ?_ (F.args_enumerate_next_1 _))))
    show wpAny _ _ (field (.ref e) 2 >>= _) _ _ _
    refine wpAny_bind (wpAny_field he rfl (x := .ref it) rfl ?_)
    refine wpAny_bind (wpAny_nextOf_tuple_end (A := X.A.in1) (I.ok.hd hc) hit pt hend fun h' x he' hx' => ?_)
    obtain ⟨o, ho, hc'⟩ := hx'
    refine wpAny_bind (wpAny_isInstance (T := "StopIteration") (b := true) ⟨o, ho, hc'⟩ isSubtype_stop ?_)
    exact wpAny_pure ⟨rfl, I.turned (t' := s.toks) (fun b o hb q => he' b o hb q) f0 f1 f3 f4 f5⟩
  self := fun A i s Q E st h => let ⟨⟨_, he⟩, _⟩ := st; wpAny_pyIter_enum he h
/-- the pairs (i, c) of a text -/
def Ites (z : Str) : It :=
  ⟨fun i _ => i < z.cps.size, fun i H v H' => ∃ T c, v = .ref T ∧ H T = none ∧ H' = upd H T (.tup [.int (i : Nat), .str ⟨#[c]⟩]) ∧ z.cps[i]? = some c, fun i _ => z.cps.size ≤ i⟩
theorem turn_enumS {P : Program} {w : World} {K : PySem.W.Frag} {elts : List Expr} {kk : Nat} {tpos : Pos} (z : Str) (t : Tok) (e it : Addr) :
    Turn P w K (.Tuple elts kk tpos) (Ites z) [e, it] e (fun i h => (∃ old, IsEnum h e it ((i : Nat) : Int) old) ∧ h.IsStrIter it (strIterType z) z t i ∧ e ≠ it ∧ i ≤ z.cps.size) where
  mem := by simp
  obj := fun i h st b hb => by
    obtain ⟨⟨old, he⟩, ⟨o, ho, hc, hd⟩, _⟩ := st
    have e' : b = e ∨ b = it := by simpa using hb
    rcases e' with z | z
    · rw [z]; exact ⟨_, he, fun v q => nomatch q⟩
    · rw [z]; exact ⟨o, ho, fun v q => by rw [hd] at q; cases q⟩
  keep := fun i h h' st k => let ⟨⟨old, he⟩, ⟨o, ho, r⟩, hne⟩ := st; ⟨⟨old, k e (by simp) _ he⟩, ⟨o, k it (by simp) o ho, r⟩, hne⟩
  item := by
    intro X hP hw hK hc i pins s σ H E I hf st hg
    subst hP hw hK
    obtain ⟨⟨old, he⟩, hit, hne, hle⟩ := st
    have hg : i < z.cps.size := hg
    have hel : e < s.heap.objs.size := Heap.lt_size he
    have hil : it < s.heap.objs.size := by obtain ⟨_, q, _⟩ := hit; exact Heap.lt_size q
    refine wpAny_pyNext_enum_itemD (Draws.text (A := X.A.in1) (I.ok.hd hc) it z t) he hit hg hne (by simpa using hne) fun y h' tk hy ho hit' hT hsz hk => ?_
    obtain ⟨c, u, hcc, rfl⟩ := hy
    refine ⟨_, rfl, wpAny_letOwnedTupleGo_enum (s := { s with heap := h', toks := tk + 1 }) ho fun h'' he' sb => ?_⟩
    have hT2 : h''.get? s.heap.objs.size = some { cls := .type "tuple", data := .seq #[.int i tk, .str ⟨#[c]⟩ u] } := (sb.2 _ (Nat.ne_of_gt hel)).trans hT
    have new : ObjOk X.prog X.w (upd H s.heap.objs.size (.tup [.int (i : Nat), .str ⟨#[c]⟩])) h'' s.heap.objs.size (.tup [.int (i : Nat), .str ⟨#[c]⟩]) :=
      ⟨by show 2 ≤ sizeLine; decide, [.int i tk, .str ⟨#[c]⟩ u], .cons ⟨_, rfl⟩ (.cons ⟨_, rfl⟩ .nil), ⟨_, hT2, rfl, _, rfl⟩⟩
    have I1 : Inv X pins σ (upd H s.heap.objs.size (.tup [.int (i : Nat), .str ⟨#[c]⟩])) { s with heap := h'', toks := tk + 1 } :=
      I.turnedNew (ch := [e, it]) (fun b ob hb q => (sb.2 b (fun z => hb (by simp [z]))).trans (hk b ob (fun z => hb (by simp [z])) (fun z => hb (by simp [z])) q)) hf (Nat.le_refl _) new
    refine ⟨.ref s.heap.objs.size, _, I1, rfl, ⟨_, c, rfl, I.hok.fresh (Nat.le_refl _), rfl, hcc⟩, ⟨⟨.str ⟨#[c]⟩ u, ?_⟩, ?_, hne, by omega⟩, fun b hb => ?_⟩
    · have e1 : ((i + 1 : Nat) : Int) = (i : Int) + 1 := by omega
      rw [e1]; exact he'
    · obtain ⟨o, ho2, r⟩ := hit'
      exact ⟨o, (sb.2 it (Ne.symm hne)).trans ho2, r⟩
    · have hb' : b < s.heap.objs.size := by
        have e' : b = e ∨ b = it := by simpa using hb
        rcases e' with z | z
        · rw [z]; exact hel
        · rw [z]; exact hil
      rw [upd_ne (Nat.ne_of_lt hb')]
      exact (hf b hb).1
  done := by
    intro X hP hw hK hc i pins s σ H E I hf st hg
    subst hP hw hK
    obtain ⟨⟨old, he⟩, hit, hne, hle⟩ := st
    have hg : z.cps.size ≤ i := hg
    have ei : i = z.cps.size := by omega
    subst ei
    obtain ⟨f0, f1, f2, f3, f4, f5⟩ := hf it (by simp)
    exact wpAny_pyNext_enum_endD (Draws.text (A := X.A.in1) (I.ok.hd hc) it z t) he hit fun h' eb => ⟨rfl, I.turned (t' := s.toks) (fun b o hb q => eb b o hb q) f0 f1 f3 f4 f5⟩
  self := fun A i s Q E st h => let ⟨⟨_, he⟩, _⟩ := st; wpAny_pyIter_enum he h
section
variable {L : Lk} {X : Cx}
theorem en_get {l : List D} {i : Nat} {d : D} (h : (l.zipIdx.map fun p => D.tup [.int (p.2 : Nat), p.1])[i]? = some d) : ∃ x, l[i]? = some x ∧ d = .tup [.int (i : Nat), x] := by
  rw [List.getElem?_map, List.getElem?_zipIdx] at h
  cases e : l[i]? with
  | none => rw [e] at h; cases h
  | some x =>
    rw [e] at h
    cases h
    exact ⟨x, rfl, by simp⟩
theorem wk_enL {l : List D} {a : Addr} {Hs : Hp} : Wk L Hs [.lst l] [.ref a] (Ite L.K a) (l.zipIdx.map fun p => .tup [.int (p.2 : Nat), p.1]) := by
  intro Z ρ H h _ i
  obtain ⟨x, e, h⟩ := po_one h
  cases e
  obtain ⟨a', vs, ex, q, r⟩ := ro_lst h
  cases ex
  refine ⟨fun hi => ⟨vs, SqL.of q, by rw [List.length_map, List.length_zipIdx] at hi; rw [r.length]; exact hi⟩, fun d hd => ?_⟩
  obtain ⟨dx, h3, rfl⟩ := en_get hd
  obtain ⟨v, hv, rv⟩ := r.get h3
  refine ⟨⟨vs, v, SqL.of q, hv⟩, fun x H' y => ?_⟩
  obtain ⟨T, x', rfl, hT, rfl, y1⟩ := y
  have e1 := y1 vs (SqL.of q)
  rw [hv] at e1; cases e1
  exact .inr ⟨T, _, _, rfl, rfl, hT, rfl, .cons (by simp [Rep]) (.cons rv .nil)⟩
theorem wk_enT {l : List D} {a : Addr} {Hs : Hp} : Wk L Hs [.tup l] [.ref a] (Itet L.K a) (l.zipIdx.map fun p => .tup [.int (p.2 : Nat), p.1]) := by
  intro Z ρ H h _ i
  obtain ⟨x, e, h⟩ := po_one h
  cases e
  obtain ⟨a', vs, ex, q, r⟩ := ro_tup h
  cases ex
  have q := (Hd.sub _ _ _).sqT q
  refine ⟨fun hi => ⟨vs, q, by rw [List.length_map, List.length_zipIdx] at hi; rw [r.length]; exact hi⟩, fun d hd => ?_⟩
  obtain ⟨dx, h3, rfl⟩ := en_get hd
  obtain ⟨v, hv, rv⟩ := r.get h3
  refine ⟨⟨vs, v, q, hv⟩, fun x H' y => ?_⟩
  obtain ⟨T, x', rfl, hT, rfl, y1⟩ := y
  have e1 := y1 vs q
  rw [hv] at e1; cases e1
  exact .inr ⟨T, _, _, rfl, rfl, hT, rfl, .cons (by simp [Rep]) (.cons rv .nil)⟩
theorem wk_enS {z : Str} {v : V} {Hs : Hp} : Wk L Hs [.str z] [v] (Ites z) ((charsD z).zipIdx.map fun p => .tup [.int (p.2 : Nat), p.1]) := by
  intro Z ρ H h _ i
  have hl : (charsD z).length = z.cps.size := by simp [charsD]
  refine ⟨fun hi => by rw [List.length_map, List.length_zipIdx, hl] at hi; exact hi, fun d hd => ?_⟩
  obtain ⟨dx, h3, rfl⟩ := en_get hd
  have hi : i < z.cps.size := by have := (List.getElem?_eq_some_iff.mp h3).1; omega
  refine ⟨hi, fun x H' y => ?_⟩
  obtain ⟨T, c, rfl, hT, rfl, hc⟩ := y
  have : dx = .str ⟨#[c]⟩ := by
    unfold charsD at h3
    rw [List.getElem?_map, Array.getElem?_toList, hc] at h3
    exact (Option.some.inj h3).symm
  subst this
  exact .inr ⟨T, _, _, rfl, rfl, hT, rfl, .cons (by simp [Rep]) (.cons (by simp [Rep]) .nil)⟩
theorem dh_enum (hK : X.K = L.K) : EnumD L X := by
  intro elts kk tpos pins s σ H x u Z ρ d xs R I rx r ei k
  cases d <;> first
    | (simp only [items] at ei; cases ei; done)
    | skip
  case lst l =>
    simp only [items, Option.some.injEq] at ei; subst ei
    obtain ⟨a, vs, ex, q0, r'⟩ := ro_lst r
    subst ex
    cases (show u = Value.ref a from rx)
    obtain ⟨its, rv, p', hz⟩ := I.list (SqL.of (K := X.K) q0)
    refine call_enumerate_list p'.isList fun h' he hit hsz hk => wpAny_pyIter_enum he ?_
    have I2 : Inv X pins σ H { s with heap := h' } := I.kept (t' := s.toks) hk
    refine ⟨s.heap.objs.size + 1, [s.heap.objs.size + 1, s.heap.objs.size], _, _, H, rfl, I2, turn_enum a (s.heap.objs.size + 1) s.heap.objs.size, ⟨⟨.none, he⟩, hit, Nat.succ_ne_self _⟩, fun b hb => ?_, hK ▸ k _ wk_enL⟩
    have hle : s.heap.objs.size ≤ b := by
      have e' : b = s.heap.objs.size + 1 ∨ b = s.heap.objs.size := by simpa using hb
      rcases e' with z | z
      · rw [z]; exact Nat.le_add_right _ _
      · rw [z]; exact Nat.le_refl _
    exact I.fpOk hle (I.hok.fresh hle)
  case tup l =>
    simp only [items, Option.some.injEq] at ei; subst ei
    obtain ⟨a, vs, ex, q0, r'⟩ := ro_tup r
    subst ex
    cases (show u = Value.ref a from rx)
    have q := hK ▸ (Hd.sub _ _ _).sqT q0
    obtain ⟨its, rv, p', hz⟩ := I.tuple q
    have pt : s.heap.IsTuple a its.toArray := p'
    have hal : a < s.heap.objs.size := by obtain ⟨o, ho, _⟩ := pt; exact Heap.lt_size ho
    refine enum_one (begins_tuple a its.toArray) pt fun h' he hit hsz hk => wpAny_pyIter_enum he ?_
    have I2 : Inv X pins σ H { s with heap := h' } := I.kept (t' := s.toks) hk
    refine ⟨s.heap.objs.size + 1, [s.heap.objs.size + 1, s.heap.objs.size], _, _, H, rfl, I2, turn_enumT a (s.heap.objs.size + 1) s.heap.objs.size (Nat.ne_of_lt (Nat.lt_succ_of_lt hal)) (Nat.ne_of_lt hal), ⟨⟨.none, he⟩, ⟨_, hit, rfl, rfl⟩, Nat.succ_ne_self _⟩, fun b hb => ?_, hK ▸ k _ wk_enT⟩
    have hle : s.heap.objs.size ≤ b := by
      have e' : b = s.heap.objs.size + 1 ∨ b = s.heap.objs.size := by simpa using hb
      rcases e' with z | z
      · rw [z]; exact Nat.le_add_right _ _
      · rw [z]; exact Nat.le_refl _
    exact I.fpOk hle (I.hok.fresh hle)
  case str z =>
    simp only [items, Option.some.injEq] at ei; subst ei
    cases ro_str r
    obtain ⟨t, rfl⟩ := (show ∃ t, u = Value.str z t from rx)
    refine enum_one (begins_text z t) trivial fun h' he hit hsz hk => wpAny_pyIter_enum he ?_
    have I2 : Inv X pins σ H { s with heap := h' } := I.kept (t' := s.toks) hk
    refine ⟨s.heap.objs.size + 1, [s.heap.objs.size + 1, s.heap.objs.size], _, _, H, rfl, I2, turn_enumS z t (s.heap.objs.size + 1) s.heap.objs.size, ⟨⟨.none, he⟩, ⟨_, hit, rfl, rfl⟩, Nat.succ_ne_self _, Nat.zero_le _⟩, fun b hb => ?_, k _ wk_enS⟩
    have hle : s.heap.objs.size ≤ b := by
      have e' : b = s.heap.objs.size + 1 ∨ b = s.heap.objs.size := by simpa using hb
      rcases e' with z | z
      · rw [z]; exact Nat.le_add_right _ _
      · rw [z]; exact Nat.le_refl _
    exact I.fpOk hle (I.hok.fresh hle)
end
end Sr
end

section
set_option autoImplicit false
set_option linter.all false
set_option Elab.async false
set_option maxRecDepth 100000
/-! Sr42: dict(row of pairs). -/
namespace Sr
open PySem PySem.Spec PyProof.Rows L2 SeqAt
/-- a pair at hand: its address, key and value as data, as values, in the heap -/
structure Pr where
  T : Addr
  k : D
  e : D
  y : V
  v : V
  b : Addr
  u : Value
section
variable {L : Lk} {X : Cx} {Z : Addr → Prop} {ρ : List Addr} {H Hc : Hp} {T : List Nd} {pins : List (Addr × Obj)} {σ : L2.St} {s : Shared}
def PrOk (L : Lk) (X : Cx) (ρ : List Addr) (Hc : Hp) (h : Heap) (p : Pr) : Prop :=
  p.y = .ref p.b ∧ Rep L ρ Hc p.k p.y ∧ Rep L ρ Hc p.e p.v ∧ RelV p.v p.u ∧ h.IsTuple p.T #[.ref p.b, p.u] ∧ (nestedKind X.prog X.w).is h p.k.nk p.b ∧ p.k.isTup = true ∧ p.k.isKey = true ∧ p.k.dep ≤ 8
theorem prs_of (hK : X.K = L.K) (I : L2.Inv X pins σ H s) (sb : Sub Hc H) : ∀ {l : List D} {vs : List V} {us : List Value}, Reps L ρ Hc l vs → Vals vs us → (∀ d ∈ l, ∃ k e, d = .tup [k, e] ∧ k.isTup = true ∧ k.isKey = true ∧ k.dep ≤ 8) →
    ∃ ps : List Pr, l = ps.map (fun p => .tup [p.k, p.e]) ∧ us = ps.map (fun p => .ref p.T) ∧ ∀ p ∈ ps, PrOk L X ρ Hc s.heap p
  | [], vs, us, r, rv, _ => by
    rw [r.unnil] at rv
    cases rv
    exact ⟨[], rfl, rfl, by simp⟩
  | d :: l, vs, us, r, rv, h => by
    obtain ⟨x, xs, rfl, r1, r2⟩ := r.uncons
    cases rv with
    | cons q qs =>
      obtain ⟨k, e, rfl, h1, h2, h3⟩ := h d (List.mem_cons_self ..)
      obtain ⟨ps, rfl, rfl, hp⟩ := prs_of hK I sb r2 qs fun c hc => h c (List.mem_cons_of_mem _ hc)
      simp only [Rep] at r1
      obtain ⟨a, vs, rfl, qa, ra⟩ := r1
      cases (show _ = Value.ref a from q)
      obtain ⟨its, rvs, pt, _⟩ := I.tuple (hK ▸ sb.sqT qa)
      obtain ⟨y, ys, rfl, k1, k2⟩ := ra.uncons
      obtain ⟨v, ys, rfl, k3, k4⟩ := k2.uncons
      rw [k4.unnil] at rvs
      cases rvs with
      | cons w1 ws =>
        cases ws with
        | cons w2 ws =>
          cases ws
          rename_i u0
          cases k <;> simp [D.isTup] at h1
          rename_i kl
          obtain ⟨b, rfl, is⟩ := is_keyH hK I sb h2 h3 k1 w1
          have yb : y = .ref b := by
            have k1' := k1
            simp only [Rep] at k1'
            obtain ⟨b', _, rfl, _⟩ := k1'
            have : Value.ref b = Value.ref b' := w1
            cases this
            rfl
          refine ⟨⟨a, .tup kl, e, y, v, b, u0⟩ :: ps, rfl, rfl, fun p hp' => ?_⟩
          rcases List.mem_cons.mp hp' with rfl | hp'
          · exact ⟨yb, k1, k3, w2, show s.heap.IsTuple a _ from pt, is, rfl, h2, h3⟩
          · exact hp p hp'
theorem putK_nodup {x e : D} : ∀ {ks ds : List D}, ks.length = ds.length → (ks.map D.nk).Nodup → (∀ k ∈ ks, (k.eqv x = true ↔ k.nk = x.nk)) → ((putK ks ds x e).1.map D.nk).Nodup
  | [], [], _, _, _ => by simp [putK]
  | k :: ks, d :: ds, hl, n, i => by
    rw [List.map_cons, List.nodup_cons] at n
    simp only [putK]
    by_cases q : k.eqv x = true
    · rw [if_pos q]
      exact List.nodup_cons.mpr n
    · rw [if_neg q]
      rw [List.map_cons, List.nodup_cons]
      refine ⟨fun m => ?_, putK_nodup (by simpa using hl) n.2 fun c hc => i c (List.mem_cons_of_mem _ hc)⟩
      obtain ⟨c, hc, e1⟩ := List.mem_map.mp m
      rcases putK_keys (by simpa using hl) c hc with hc | rfl
      · exact n.1 (List.mem_map.mpr ⟨c, hc, e1⟩)
      · exact q ((i k (List.mem_cons_self ..)).mpr e1.symm)
  | [], _ :: _, hl, _, _ => by simp at hl
  | _ :: _, [], hl, _, _ => by simp at hl
theorem putK_lens {x e : D} : ∀ {ks ds : List D}, ks.length = ds.length → (putK ks ds x e).1.length = (putK ks ds x e).2.length
  | [], [], _ => rfl
  | k :: ks, d :: ds, hl => by
    simp only [putK]
    split
    · simpa using hl
    · simp only [List.length_cons]
      rw [putK_lens (by simpa using hl)]
  | [], _ :: _, hl => by simp at hl
  | _ :: _, [], hl => by simp at hl
/-- the dict is filled -/
theorem fill_ok {h : Heap} : ∀ {ps : List Pr} {xs : List (NestedKey × Addr × Value)} {kv vv : List V} {ks ds : List D} {r : List D × List D}, (∀ p ∈ ps, PrOk L X ρ Hc h p) → XsOk xs kv vv ks → (ks.map D.nk).Nodup → Reps L ρ Hc ks kv → Reps L ρ Hc ds vv → ks.length = ds.length → (∀ k ∈ ks, k.isTup = true ∧ k.isKey = true ∧ k.dep ≤ 8) →
    dictOf ks ds (ps.map fun p => .tup [p.k, p.e]) = some r → ∃ kv' vv', XsOk (storedAllH xs (ps.map fun p => (p.k.nk, p.b, p.u))) kv' vv' r.1 ∧ Reps L ρ Hc r.1 kv' ∧ Reps L ρ Hc r.2 vv' ∧ (r.1.map D.nk).Nodup ∧ (∀ k ∈ r.1, k.isTup = true ∧ k.isKey = true ∧ k.dep ≤ 8) ∧ r.1.length ≤ ks.length + ps.length
  | [], xs, kv, vv, ks, ds, r, _, x, n, r1, r2, hl, ok, e => by
    simp only [List.map_nil, dictOf] at e
    cases e
    exact ⟨kv, vv, x, r1, r2, n, ok, by simp⟩
  | p :: ps, xs, kv, vv, ks, ds, r, hp, x, n, r1, r2, hl, ok, e => by
    simp only [List.map_cons, dictOf] at e
    split at e
    · rename_i kk
      obtain ⟨p1, p2, p3, p4, p5, p6, p7, p8, p9⟩ := hp p (List.mem_cons_self ..)
      have i : ∀ k ∈ ks, (k.eqv p.k = true ↔ k.nk = p.k.nk) := fun k hk => nk_inj k _ (ok k hk).2.1 p8
      have nx : (xs.map (·.1)).Nodup := by rw [x.keys]; exact n
      obtain ⟨kv', vv', g1, g2, g3⟩ := XsOk.put p1 p2 p3 p4 x nx r1 r2 i
      obtain ⟨kv2, vv2, f1, f2, f3, f4, f5, f6⟩ := fill_ok (fun c hc => hp c (List.mem_cons_of_mem _ hc)) g1 (putK_nodup hl n i) g2 g3 (putK_lens hl) (fun k hk => by
        rcases putK_keys hl k hk with hk | rfl
        · exact ok k hk
        · exact ⟨p7, p8, p9⟩) e
      refine ⟨kv2, vv2, f1, f2, f3, f4, f5, ?_⟩
      have := putK_len (ks := ks) (ds := ds) (x := p.k) (e := p.e)
      simp only [List.length_cons]
      omega
    · cases e
theorem dictOf_keys : ∀ {l ks ds : List D} {r : List D × List D}, l.all pairT = true → dictOf ks ds l = some r → ∀ d ∈ l, ∃ k e, d = .tup [k, e] ∧ k.isTup = true ∧ k.isKey = true ∧ k.dep ≤ 8
  | [], _, _, _, _, _, d, hd => nomatch hd
  | c :: l, ks, ds, r, ha, h, d, hd => by
    rw [List.all_cons, Bool.and_eq_true] at ha
    obtain ⟨h1, h2⟩ := ha
    unfold pairT at h1
    split at h1
    · rename_i kl e
      simp only [dictOf] at h
      split at h
      · rename_i kk
        rcases List.mem_cons.mp hd with rfl | hd
        · exact ⟨_, _, rfl, rfl, (keyOk_ok kk).1, (keyOk_ok kk).2⟩
        · exact dictOf_keys h2 h d hd
      · cases h
    · cases h1
theorem bi_dict (hK : X.K = L.K) (hw : X.w = L.w) (hc : X.calm = true) (hu : X.A.units + 80 < cLine) : BiD L X (.type "dict") .dict := by
  rintro pins s σ H xs us Q I rx ⟨Z, ρ, T, ds, r, b, hx, e, k⟩
  have go : ∀ (l : List D) (a : Addr) (vs : List V), Reps L ρ (Hd Z ρ H) l vs → (if (l.all pairT) = true then (dictOf [] [] l).map fun r => (D.dic r.1 r.2, true) else none) = some r → Vals [V.ref a] us →
      H a = some (.lst vs) → wpAny (model X.prog X.w) X.A (PySem.call (.type "dict") us) (EP X pins σ Q) X.xe s := by
    intro l a vs hr e rx q
    rw [Vals.ref1 rx]
    split at e
    · rename_i ha
      obtain ⟨r', e1, e2⟩ := Option.map_eq_some_iff.mp e
      cases e2
      obtain ⟨zz, its, n, rv, hn⟩ := (show ObjOk X.prog X.w H s.heap a (.lst vs) from I.hok a _ q)
      obtain ⟨ps, rfl, rfl, hp⟩ := prs_of hK I (Hd.sub _ _ _) hr rv (dictOf_keys ha e1)
      have hl : ps.length ≤ sizeLine := by
        have := hr.length
        rw [List.length_map] at this
        omega
      have hpn : H s.heap.objs.size = none := I.hok.fresh (Nat.le_refl _)
      have nb : (s.heap.objs.size == sysModules) = false := beq_eq_false_iff_ne.mpr (Ne.symm (Nat.ne_of_lt I.big))
      have key : ∀ j (h : j < ps.length), PrOk L X ρ (Hd Z ρ H) s.heap (ps[j]'h) := fun j h => hp _ (List.getElem_mem h)
      refine call_dict_pairsH (knd := nestedKind X.prog X.w) (ps := ps.map fun p => (p.k.nk, p.b, p.u)) (PairArg.list a (ps.map fun p => Value.ref p.T).toArray (fun j => (ps.map (·.T)).getD j 0) (ps.map fun p => (Value.ref p.b, p.u))) (I.ok.hd hc) (show X.A.in1.in1.units + 8 < cLine by show X.A.units + 1 + 1 + 8 < cLine; omega) ⟨⟨_, n, hn, rfl, rfl, rfl⟩, by simp, fun j kk v hj => ?_⟩ ⟨by simp, fun i kk v hr => ?_⟩ (fun h' hk x hx => ?_) (by simpa using hl) fun h' tk dd hk => ?_
      · rw [List.getElem?_map] at hj
        obtain ⟨p, hp', e3⟩ := Option.map_eq_some_iff.mp hj
        cases e3
        obtain ⟨hj', e4⟩ := List.getElem?_eq_some_iff.mp hp'
        obtain ⟨p1, p2, p3, p4, p5, p6, p7, p8, p9⟩ := key j hj'
        subst e4
        refine ⟨by simp [hj'], ?_⟩
        have : (ps.map (·.T)).getD j 0 = ps[j].T := by simp [List.getD, hj']
        show PairAt s.heap ((List.map (fun x => x.T) ps).getD j 0) _ _
        rw [this]
        exact .inl p5
      · have hr : (ps.map fun p => (Value.ref p.b, p.u))[i]? = some (kk, v) := hr
        rw [List.getElem?_map] at hr
        obtain ⟨p, hp', e3⟩ := Option.map_eq_some_iff.mp hr
        cases e3
        exact ⟨p.k.nk, p.b, by rw [List.getElem?_map, hp']; rfl, rfl⟩
      · obtain ⟨p, hp', rfl⟩ := List.mem_map.mp hx
        obtain ⟨p1, p2, p3, p4, p5, p6, p7, p8, p9⟩ := hp p hp'
        refine nestedKind_stays.all (h := s.heap) h' (fun b o _ e => hk b o (Nat.ne_of_lt (Heap.lt_size e)) (by simp) e) _ _ p6
      · obtain ⟨o, es, ep, q1, q2, q3, q4, q5, q6⟩ := dd
        obtain ⟨kv', vv', f1, f2, f3, f4, f5, f6⟩ := fill_ok (xs := []) (kv := []) (vv := []) (ks := []) (ds := []) hp True.intro List.nodup_nil .nil .nil rfl (fun k hk => nomatch hk) e1
        refine ⟨.ref s.heap.objs.size, upd H s.heap.objs.size (DicO s.heap.objs.size o), I.laid (t' := tk) (fun b o e => hk b o (by simp) e) (Nat.le_refl _) (dicO_ok q1 nb), rfl, ?_⟩
        refine k _ _ ρ (Post.newDic b hpn f2 f3 (fun H' e => ⟨⟨o, es, ep, e, q2, q3, ?_⟩, f4, .inl (List.all_eq_true.mpr fun k hk => (f5 k hk).1), fun k hk => (f5 k hk).2, ?_⟩) (dic_notTb q3))
        · rw [q4, ← hw]
          exact f1.ents
        · simp only [List.length_nil] at f6
          omega
    · cases e
  match ds, hx, e with
  | [], hx, e => simp [bip] at e
  | [d], hx, e =>
    obtain ⟨x, exs, hx1⟩ := pq_one hx
    subst exs
    cases d <;> simp only [bip] at e <;> first
      | (cases e; done)
      | skip
    obtain ⟨a, vs, ex, q, r⟩ := rq_lst hx1
    subst ex
    exact go _ a vs r e rx q
  | d :: d' :: ds, hx, e => cases d <;> simp [bip] at e
end
end Sr
end

section
set_option autoImplicit false
set_option linter.all false
set_option Elab.async false
set_option maxRecDepth 100000
/-! Sr43: sorted(set(rows of small numbers)). -/
namespace Sr
open PySem PySem.Spec PyProof.Rows L2 SeqAt
/-- the numbers of a row -/
def nI : D → Int
  | .int i => i
  | _ => 0
def kI : D → List Int
  | .tup l => l.map nI
  | _ => []
def cd (d : D) : Int := TS.code 64 (kI d)
theorem smT_of {n : Nat} {d : D} (h : smT n d = true) : d = .tup ((kI d).map D.int) ∧ (kI d).length = n ∧ TS.Bd 64 (kI d) := by
  unfold smT at h
  split at h
  · rename_i l
    simp only [Bool.and_eq_true, decide_eq_true_eq] at h
    obtain ⟨h1, h2⟩ := h
    have key : ∀ l : List D, l.all smI = true → l = (l.map nI).map D.int ∧ TS.Bd 64 (l.map nI) := by
      intro l
      induction l with
      | nil => exact fun _ => ⟨rfl, fun m hm => nomatch hm⟩
      | cons x l ih =>
        intro h
        rw [List.all_cons, Bool.and_eq_true] at h
        obtain ⟨e, b⟩ := ih h.2
        cases x <;> simp only [smI, Bool.false_eq_true, false_and] at h
        rename_i i
        simp only [Bool.and_eq_true, decide_eq_true_eq] at h
        refine ⟨by rw [List.map_cons, List.map_cons, ← e]; rfl, fun m hm => ?_⟩
        rcases List.mem_cons.mp hm with rfl | hm
        · exact h.1
        · exact b m hm
    obtain ⟨e, b⟩ := key l h2
    refine ⟨?_, by show (l.map nI).length = n; rw [List.length_map, h1], b⟩
    show D.tup l = D.tup ((l.map nI).map D.int)
    rw [← e]
  · cases h
theorem eqvL_int : ∀ xs ys : List Int, D.eqvL (xs.map D.int) (ys.map D.int) = decide (xs = ys)
  | [], [] => by simp [D.eqvL]
  | [], _ :: _ => by simp [D.eqvL]
  | _ :: _, [] => by simp [D.eqvL]
  | x :: xs, y :: ys => by
    simp only [List.map_cons, D.eqvL, D.eqv, eqvL_int xs ys, List.cons.injEq, Bool.decide_and]
    rfl
theorem ltL_int : ∀ xs ys : List Int, xs.length = ys.length → TS.Bd 64 xs → TS.Bd 64 ys → D.ltL (xs.map D.int) (ys.map D.int) = decide (TS.code 64 xs < TS.code 64 ys)
  | [], [], _, _, _ => by simp [D.ltL]
  | [], _ :: _, h, _, _ => by simp at h
  | _ :: _, [], h, _, _ => by simp at h
  | x :: xs, y :: ys, h, hx, hy => by
    have hl : xs.length = ys.length := by simpa using h
    simp only [List.map_cons, D.ltL]
    have q : (D.int x).eqv (D.int y) = (x == y) := by simp only [D.eqv]
    by_cases e : x = y
    · rw [if_pos (by rw [q]; simpa using e), ltL_int xs ys hl hx.tail hy.tail]
      subst e
      exact decide_eq_decide.mpr (TS.code_same hl).symm
    · rw [if_neg (by rw [q]; simpa using e)]
      simp only [D.ltB]
      refine decide_eq_decide.mpr ⟨fun z => TS.code_lt hl hx.tail hy.tail z, fun z => ?_⟩
      rcases Int.lt_trichotomy x y with q | q | q
      · exact q
      · exact absurd q e
      · have := TS.code_lt hl.symm hy.tail hx.tail q
        omega
theorem code_inj : ∀ xs ys : List Int, xs.length = ys.length → TS.Bd 64 xs → TS.Bd 64 ys → TS.code 64 xs = TS.code 64 ys → xs = ys
  | [], [], _, _, _, _ => rfl
  | [], _ :: _, h, _, _, _ => by simp at h
  | _ :: _, [], h, _, _, _ => by simp at h
  | x :: xs, y :: ys, h, hx, hy, e => by
    have hl : xs.length = ys.length := by simpa using h
    rcases Int.lt_trichotomy x y with q | q | q
    · have := TS.code_lt hl hx.tail hy.tail q
      omega
    · subst q
      have e' : x * 64 ^ xs.length + TS.code 64 xs = x * 64 ^ ys.length + TS.code 64 ys := e
      rw [← hl] at e'
      rw [code_inj xs ys hl hx.tail hy.tail (by omega)]
    · have := TS.code_lt hl.symm hy.tail hx.tail q
      omega
theorem cd_lt {n : Nat} {a b : D} (ha : smT n a = true) (hb : smT n b = true) : a.ltB b = decide (cd a < cd b) := by
  obtain ⟨e1, l1, b1⟩ := smT_of ha
  obtain ⟨e2, l2, b2⟩ := smT_of hb
  have := ltL_int _ _ (l1.trans l2.symm) b1 b2
  rw [e1, e2]
  have k : ∀ l : List Int, kI (.tup (l.map D.int)) = l := fun l => by
    show (l.map D.int).map nI = l
    rw [List.map_map]
    exact List.map_id l
  simp only [D.ltB, cd, k]
  exact this
theorem cd_inj {n : Nat} {a b : D} (ha : smT n a = true) (hb : smT n b = true) (h : cd a = cd b) : a = b := by
  obtain ⟨e1, l1, b1⟩ := smT_of ha
  obtain ⟨e2, l2, b2⟩ := smT_of hb
  rw [e1, e2, code_inj _ _ (l1.trans l2.symm) b1 b2 h]
theorem cd_eqv {n : Nat} {a b : D} (ha : smT n a = true) (hb : smT n b = true) : (a.eqv b = true ↔ a = b) := by
  obtain ⟨e1, l1, b1⟩ := smT_of ha
  obtain ⟨e2, l2, b2⟩ := smT_of hb
  generalize kI a = xs at *
  generalize kI b = ys at *
  subst e1 e2
  simp only [D.eqv, eqvL_int, D.tup.injEq, decide_eq_true_eq]
  refine ⟨fun h => by rw [h], fun h => ?_⟩
  have := congrArg (List.map nI) h
  simpa [nI, Function.comp_def] using this
/-! ### what sorted(set(..)) gives -/
theorem mem_insD {x y : D} : ∀ {l : List D}, y ∈ insD x l ↔ y = x ∨ y ∈ l
  | [] => by simp [insD]
  | z :: l => by
    simp only [insD]
    split
    · rw [List.mem_cons, mem_insD, List.mem_cons]
      exact ⟨fun h => h.elim (fun h => .inr (.inl h)) fun h => h.elim .inl fun h => .inr (.inr h), fun h => h.elim (fun h => .inr (.inl h)) fun h => h.elim .inl fun h => .inr (.inr h)⟩
    · rw [List.mem_cons]
theorem mem_sortD {y : D} : ∀ {l : List D}, y ∈ sortD l ↔ y ∈ l
  | [] => Iff.rfl
  | x :: l => by
    show y ∈ insD x (sortD l) ↔ _
    rw [mem_insD, mem_sortD, List.mem_cons]
theorem insD_lt {n : Nat} {x : D} (hx : smT n x = true) : ∀ {l : List D}, (∀ y ∈ l, smT n y = true) → l.Pairwise (fun a b => cd a < cd b) → x ∉ l → (insD x l).Pairwise fun a b => cd a < cd b
  | [], _, _, _ => by simp [insD]
  | z :: l, h, p, m => by
    have hz := h z (List.mem_cons_self ..)
    have ne : cd z ≠ cd x := fun e => m (cd_inj hx hz e.symm ▸ List.mem_cons_self ..)
    rw [List.pairwise_cons] at p
    simp only [insD, cd_lt hz hx]
    by_cases c : cd z < cd x
    · rw [if_pos (decide_eq_true c), List.pairwise_cons]
      refine ⟨fun y hy => ?_, insD_lt hx (fun y hy => h y (List.mem_cons_of_mem _ hy)) p.2 fun q => m (List.mem_cons_of_mem _ q)⟩
      rcases mem_insD.mp hy with rfl | hy
      · exact c
      · exact p.1 y hy
    · rw [if_neg (by simpa using c), List.pairwise_cons]
      refine ⟨fun y hy => ?_, List.pairwise_cons.mpr p⟩
      rcases List.mem_cons.mp hy with rfl | hy
      · omega
      · have := p.1 y hy
        omega
theorem sortD_lt {n : Nat} : ∀ {l : List D}, (∀ y ∈ l, smT n y = true) → l.Nodup → (sortD l).Pairwise fun a b => cd a < cd b
  | [], _, _ => .nil
  | x :: l, h, nd => by
    rw [List.nodup_cons] at nd
    exact insD_lt (h x (List.mem_cons_self ..)) (fun y hy => h y (List.mem_cons_of_mem _ (mem_sortD.mp hy))) (sortD_lt (fun y hy => h y (List.mem_cons_of_mem _ hy)) nd.2) fun q => nd.1 (mem_sortD.mp q)
theorem ded_ok {n : Nat} : ∀ {l : List D}, (∀ y ∈ l, smT n y = true) → (dedD l).Nodup ∧ ∀ y, y ∈ dedD l ↔ y ∈ l
  | [], _ => ⟨List.nodup_nil, fun y => Iff.rfl⟩
  | x :: l, h => by
    obtain ⟨nd, m⟩ := ded_ok fun y hy => h y (List.mem_cons_of_mem _ hy)
    have hx := h x (List.mem_cons_self ..)
    have mf : ∀ y, y ∈ (dedD l).filter (fun y => !(y.eqv x)) ↔ y ∈ l ∧ y ≠ x := fun y => by
      rw [List.mem_filter, m]
      constructor
      · rintro ⟨h1, h2⟩
        refine ⟨h1, fun e => ?_⟩
        rw [(cd_eqv (h y (List.mem_cons_of_mem _ h1)) hx).mpr e] at h2
        cases h2
      · rintro ⟨h1, h2⟩
        refine ⟨h1, ?_⟩
        rw [Bool.not_eq_true', ← Bool.not_eq_true]
        exact fun e => h2 ((cd_eqv (h y (List.mem_cons_of_mem _ h1)) hx).mp e)
    refine ⟨List.nodup_cons.mpr ⟨fun q => ((mf x).mp q).2 rfl, nd.filter _⟩, fun y => ?_⟩
    show y ∈ x :: (dedD l).filter _ ↔ _
    rw [List.mem_cons, mf, List.mem_cons]
    constructor
    · rintro (h | h)
      · exact .inl h
      · exact .inr h.1
    · rintro (h | h)
      · exact .inl h
      · by_cases e : y = x
        · exact .inl e
        · exact .inr ⟨h, e⟩
/-- ascending rows with the same members are the same -/
theorem lt_uniq {α : Type} {f : α → Int} : ∀ {l l' : List α}, l.Pairwise (fun a b => f a < f b) → l'.Pairwise (fun a b => f a < f b) → (∀ x, x ∈ l ↔ x ∈ l') → l = l'
  | [], [], _, _, _ => rfl
  | [], y :: _, _, _, h => nomatch (h y).mpr (List.mem_cons_self ..)
  | x :: _, [], _, _, h => nomatch (h x).mp (List.mem_cons_self ..)
  | x :: l, y :: l', p, p', h => by
    rw [List.pairwise_cons] at p p'
    have e : x = y := by
      rcases List.mem_cons.mp ((h x).mp (List.mem_cons_self ..)) with e | m1
      · exact e
      · rcases List.mem_cons.mp ((h y).mpr (List.mem_cons_self ..)) with e | m2
        · exact e.symm
        · have := p.1 y m2
          have := p'.1 x m1
          omega
    subst e
    rw [lt_uniq p.2 p'.2 fun z => ?_]
    constructor
    · intro hz
      rcases List.mem_cons.mp ((h z).mp (List.mem_cons_of_mem _ hz)) with rfl | m
      · exact absurd (p.1 _ hz) (Int.lt_irrefl _)
      · exact m
    · intro hz
      rcases List.mem_cons.mp ((h z).mpr (List.mem_cons_of_mem _ hz)) with rfl | m
      · exact absurd (p'.1 _ hz) (Int.lt_irrefl _)
      · exact m
theorem smTs_of {l : List D} (h : smTs l = true) : l.length < 64 ∧ ∀ d ∈ l, smT (smN l + 1) d = true := by
  simp only [smTs, Bool.and_eq_true, decide_eq_true_eq, List.all_eq_true] at h
  exact h
/-- WHAT IT GIVES: the members, ascending -/
theorem sset_ok {n : Nat} {l : List D} (h : ∀ y ∈ l, smT n y = true) : (sortD (dedD l)).Pairwise (fun a b => cd a < cd b) ∧ ∀ y, y ∈ sortD (dedD l) ↔ y ∈ l := by
  obtain ⟨nd, m⟩ := ded_ok h
  exact ⟨sortD_lt (fun y hy => h y ((m y).mp hy)) nd, fun y => mem_sortD.trans (m y)⟩
section
variable {L : Lk} {X : Cx}
theorem sset_rows {Z : Addr → Prop} {ρ : List Addr} {H : Hp} {n : Nat} : ∀ {l : List D} {vs : List V}, Reps L ρ (Hd Z ρ H) l vs → (∀ d ∈ l, smT n d = true) →
    ∃ ks : List (Addr × List Int), vs = ks.map (fun p => V.ref p.1) ∧ l = ks.map (fun p => D.tup (p.2.map D.int)) ∧ ∀ p ∈ ks, SqT L.K H p.1 (p.2.map V.int) ∧ p.2.length = n ∧ TS.Bd 64 p.2 ∧ Rep L ρ (Hd Z ρ H) (.tup (p.2.map D.int)) (.ref p.1)
  | [], vs, r, _ => by
    rw [r.unnil]
    exact ⟨[], rfl, rfl, fun p hp => nomatch hp⟩
  | d :: l, vs, r, h => by
    obtain ⟨x, xs, rfl, r1, r2⟩ := r.uncons
    obtain ⟨ks, rfl, e2, hk⟩ := sset_rows r2 fun y hy => h y (List.mem_cons_of_mem _ hy)
    obtain ⟨e, hl, hb⟩ := smT_of (h d (List.mem_cons_self ..))
    rw [e] at r1
    have r1' := r1
    simp only [Rep] at r1'
    obtain ⟨a, ws, rfl, q, rr⟩ := r1'
    have : ws = (kI d).map V.int := by
      have key : ∀ {ns : List Int} {ws : List V}, Reps L ρ (Hd Z ρ H) (ns.map D.int) ws → ws = ns.map V.int := by
        intro ns
        induction ns with
        | nil => intro ws h; exact h.unnil
        | cons i ns ih =>
          intro ws h
          obtain ⟨x, xs, rfl, g1, g2⟩ := h.uncons
          simp only [Rep] at g1
          rw [g1, ih g2]; rfl
      exact key rr
    subst this
    refine ⟨(a, kI d) :: ks, rfl, by rw [e2, List.map_cons, ← e], fun p hp => ?_⟩
    rcases List.mem_cons.mp hp with rfl | hp
    · exact ⟨(Hd.sub _ _ _).sqT q, hl, hb, r1⟩
    · exact hk p hp
theorem sset_read {P : Pg} {call : CallF} {W : WX} {ma : M} {σ : L2.St} {H : Hp} {Q : VK} (h : tV L P call W (.bi .sortSet [ma]) σ H Q) :
    tO L P call W ma σ H fun x H1 => ∃ l a vs Z ρ T, x = .ref a ∧ H1 a = some (.lst vs) ∧ Reps L ρ (Hd Z ρ H1) l vs ∧ smTs l = true ∧ Bs L Z ρ T H1 ∧ ∀ v H' ρ', Post L Z ρ H1 v (.lst (sortD (dedD l))) true H' T ρ' → Q v H' := by
  obtain ⟨Z, env, T, ρ, er, h⟩ := h
  simp only [ev, evo] at h
  refine ⟨Z, env, T, ρ, er, h.bind.bind.imp fun da T1 h2 x H1 ρ1 p1 => ?_⟩
  have h4 : RX L Z ρ H (fun c d H' => W c d σ H') ((do let ds ← derefs [da]; ofO (bip .sortSet ds) : Mo (D × Bool)) T1) (fun r T' => ∀ v H' ρ', Post L Z ρ H v r.1 r.2 H' T' ρ' → Q v H') := h2
  obtain ⟨ds', T', e, h5⟩ := h4.bind.derefs
  obtain ⟨rfl, pq⟩ := paired_rq p1.bs (.cons p1.ro .nil) e
  obtain ⟨r, e2, h6⟩ := h5.ofO
  cases pq with
  | @cons d _ _ _ q1 q =>
    cases q
    cases d <;> simp only [bip] at e2 <;> first
      | (cases e2; done)
      | skip
    rename_i l
    split at e2
    · rename_i hs
      cases e2
      obtain ⟨a, vs, ex, q, r⟩ := rq_lst q1
      exact ⟨l, a, vs, Z, ρ1, _, ex, q, r, hs, p1.bs, fun v H' ρ' q => h6 v H' ρ' (Post.after p1.fr q)⟩
    · cases e2
theorem dh_sset (hK : X.K = L.K) (hc : X.calm = true) (hu : X.A.units + 80 < cLine) : SetD L X "sorted" .sortSet := by
  intro P call W ea ma p1 p2 p3 p4 hg hm hg2 hm2 ha na
  refine impE (pe_callB (cr_sortedT hc) hg hm (by decide +kernel) (pa_cons (pe_callTy (cr_setOfT hc (by omega)) hg2 hm2 (by decide +kernel) (pa_cons ha pa_nil na) (he := na)) pa_nil)) fun σ H Q h => ?_
  obtain ⟨Z, env, T, ρ, er, h⟩ := sset_read h
  show tO L P call W ma σ H fun x H1 => rSetOfT X.K X.prog X.w [x] H1 fun y H2 => rSortedT X.K X.prog X.w [y] H2 Q
  refine ⟨Z, env, T, ρ, er, h.imp fun db T2 h3 y H1 ρ2 p2 => ?_⟩
  obtain ⟨l, a, vs, Z, ρ, T, rfl, q, r, hs, b, k⟩ := h3 y H1 ρ2 p2
  obtain ⟨hlen, hm⟩ := smTs_of hs
  obtain ⟨ks, rfl, el, hk⟩ := sset_rows r hm
  have hkl : ks.length = l.length := by rw [el, List.length_map]
  refine ⟨a, ks, rfl, SqL.of q, fun p hp => hK ▸ (hk p hp).1, by omega, fun a1 Ls f1 sub all => ?_⟩
  have sb : Sub H1 (upd H1 a1 (SetTO X.prog X.w a1 Ls)) := fun c o e => by
    by_cases ec : c = a1
    · subst ec
      rw [f1] at e
      cases e
    · rw [upd_ne ec]
      exact e
  refine ⟨a1, Ls, smN l + 1, 64, rfl, upd_same, fun p hp => hK ▸ sb.sqT (hk p (sub p hp)).1, by omega, fun p hp => (hk p (sub p hp)).2.elim fun h1 h2 => ⟨h1, h2.1⟩, fun L' p pm nd few pw f2 => ?_⟩
  have mem : ∀ p ∈ L', p ∈ ks := fun p hp => sub p (pm.mem_iff.mp hp)
  have es : sortD (dedD l) = L'.map fun p => D.tup (p.2.map D.int) := by
    obtain ⟨g1, g2⟩ := sset_ok hm
    have kc : ∀ ns : List Int, cd (.tup (ns.map D.int)) = TS.code 64 ns := fun ns => by
      show TS.code 64 ((ns.map D.int).map nI) = _
      rw [List.map_map, show (nI ∘ D.int) = id from rfl, List.map_id]
    refine lt_uniq (f := cd) g1 ?_ fun x => ?_
    · rw [List.pairwise_map]
      have nd' : L'.Pairwise fun p q => p.2 ≠ q.2 := by
        have := nd
        unfold List.Nodup at this
        rwa [List.pairwise_map] at this
      refine List.Pairwise.imp_of_mem (fun {p q} hp hq hpq => ?_) (pw.and nd')
      rw [kc, kc]
      obtain ⟨h1, h2⟩ := hpq
      obtain ⟨_, l1, b1, _⟩ := hk p (mem p hp)
      obtain ⟨_, l2, b2, _⟩ := hk q (mem q hq)
      rcases Int.lt_or_eq_of_le h1 with h | h
      · exact h
      · exact absurd (code_inj _ _ (l1.trans l2.symm) b1 b2 h) h2
    · rw [g2, el, List.mem_map, List.mem_map]
      constructor
      · rintro ⟨p, hp, rfl⟩
        obtain ⟨q, hq, e⟩ := List.mem_map.mp (all p hp)
        exact ⟨q, pm.mem_iff.mpr hq, by rw [e]⟩
      · rintro ⟨p, hp, rfl⟩
        exact ⟨p, mem p hp, rfl⟩
  refine k _ _ ρ (Post.after (Fr.laid f1) (Post.newLst (b.laid f1) f2 ?_))
  rw [es]
  have : ∀ {ps : List (Addr × List Int)}, (∀ p ∈ ps, p ∈ ks) → Reps L ρ (Hd Z ρ H1) (ps.map fun p => D.tup (p.2.map D.int)) (ps.map fun p => V.ref p.1) := by
    intro ps
    induction ps with
    | nil => exact fun _ => Reps.nil
    | cons p ps ih => exact fun h => Reps.cons (hk p (h p (List.mem_cons_self ..))).2.2.2 (ih fun q hq => h q (List.mem_cons_of_mem _ hq))
  exact (this mem).mono ((Fr.laid f1).hd Z)
end
end Sr
end

section
set_option autoImplicit false
set_option linter.all false
set_option Elab.async false
set_option maxRecDepth 100000
/-! Sr49: {k: v}; all the rules of DH. -/
namespace Sr
open PySem PySem.Spec PyProof.Rows L2 SeqAt
section
variable {L : Lk} {X : Cx} {Z : Addr → Prop} {ρ : List Addr} {H Hc : Hp} {T : List Nd} {pins : List (Addr × Obj)} {σ : L2.St} {s : Shared} {a : Addr} {kv vv : List V} {ks ds : List D} {x : D} {y : V} {u : Value} {E : Value → Shared → Prop}
theorem d_dset {Q : Unit → Shared → Prop} {e : D} {v : V} {u' : Value} (hK : X.K = L.K) (hw : X.w = L.w) (hu : X.A.units + 80 < cLine) (I : L2.Inv X pins σ H s) (sb : Sub Hc H) (q : DicAt L.w H a kv vv ks) (r1 : Reps L ρ Hc ks kv) (r2 : Reps L ρ Hc ds vv) (rk : Rep L ρ Hc x y) (ry : RelV y u) (re : Rep L ρ Hc e v) (rv : RelV v u')
    (k : keyOk ks x = true) (hz : ks.length < SZ) (hl : ks.length = ds.length)
    (h : ∀ o s' kv' vv', L2.Inv X pins σ (L2.upd H a (DicO a o)) s' → DicAt L.w (L2.upd H a (DicO a o)) a kv' vv' (putK ks ds x e).1 → Reps L ρ Hc (putK ks ds x e).1 kv' → Reps L ρ Hc (putK ks ds x e).2 vv' → Q () s') : wpAny (model X.prog X.w) X.A (dictSet a u u') Q E s := by
  have zz : (putK ks ds x e).1.length ≤ sizeLine := by
    have h1 := putK_len (ks := ks) (ds := ds) (x := x) (e := e)
    have h2 := SZ_eq
    omega
  have mu : Mut (H a) := by
    obtain ⟨o, es, ep, h1, _⟩ := q.ob
    rw [h1]
    exact True.intro
  rcases keyOk_or k with f | ⟨l, rfl⟩
  · have fl := keyOk_flat f k
    obtain ⟨kvs, dd, nb, e1, e2⟩ := dicF (X := X) hw I q r1 fl
    have nd : (kvs.map (·.1)).Nodup := by rw [e1]; exact nodup_fk fl q.nd
    have lk : kvs.length = ks.length := by
      have := congrArg List.length e1
      simpa using this
    refine wpAny_dictSet_pairs (hsz := by have h2 := SZ_eq; omega) (fk_is f rk ry) dd fun h' dd' hs => ?_
    obtain ⟨vv', g1, g2, g3⟩ := flat_put re rv e1 nd e2 r2 (fun k' hk => fk_inj k' x (List.all_eq_true.mp fl k' hk) f)
    obtain ⟨o, es, ep, q1, q2, q3, q4, q5, q6⟩ := dd'
    have af := putK_all (e := e) hl fl f
    refine h o _ _ vv' (d_write I mu hs ⟨o, q1⟩ (dicO_ok q1 nb)) ⟨⟨o, es, ep, L2.upd_same, q2, q3, by rw [← hw]; exact ents_flat (P := X.prog) q5 (fun d hd => q4 d (by simpa using hd)) g2 af g1⟩, nodup_nk af (g2 ▸ q6), .inr af, putK_ok hl q.ok (keyOk_ok k), zz⟩ (reps_kv af) g3
  · obtain ⟨tl, ik, dp⟩ := keyOk_tup k
    obtain ⟨o, es, ep, h1, h2, h3, h4⟩ := q.ob
    obtain ⟨⟨g, nb⟩, _⟩ := (show ObjOk X.prog X.w H s.heap a (DicO a o) from I.hok a _ h1)
    obtain ⟨xs, x1, x2, x3, x4⟩ := ents_of hK I sb h4 r1 q.ok tl
    rw [← hw] at x1 x2
    have ee : EntsOk X.w (xs.map (entryOfKey (nestedKind X.prog X.w))) kv vv ks := by
      have h5 := h4
      rw [← hw, x1] at h5
      exact h5
    have xo := XsOk.of ee r1 tl x3
    obtain ⟨b, rfl, is⟩ := is_keyH hK I sb ik dp rk ry
    have lk : xs.length = ks.length := by
      have := congrArg List.length x3
      simpa using this
    have yb : y = .ref b := by
      have rk' := rk
      simp only [Rep] at rk'
      obtain ⟨b', _, rfl, _⟩ := rk'
      have : Value.ref b = Value.ref b' := ry
      cases this
      rfl
    refine wpAny_dictSet_heap (knd := nestedKind X.prog X.w) (hsz := by have h2 := SZ_eq; omega) (show X.A.units + 8 < cLine by omega) is (xs := xs) ⟨o, es, ep, g, h2, h3, x1, x2, by rw [x3]; exact q.nd⟩ fun h' dd' hs => ?_
    obtain ⟨kv', vv', g1, g2, g3⟩ := XsOk.put yb rk re rv xo (by rw [x3]; exact q.nd) r1 r2 (fun k' hk => nk_inj k' _ (q.ok k' hk).1 ik)
    obtain ⟨o', es', ep', q1, q2, q3, q4, q5, q6⟩ := dd'
    refine h o' _ kv' vv' (d_write I mu hs ⟨o', q1⟩ (dicO_ok q1 nb)) ⟨⟨o', es', ep', L2.upd_same, q2, q3, ?_⟩, by rw [← g1.keys]; exact q6, .inl (putK_all hl tl rfl), putK_ok hl q.ok (keyOk_ok k), zz⟩ g2 g3
    rw [q4, hw]
    exact g1.ents
theorem dh_disp (hK : X.K = L.K) (hw : X.w = L.w) (hu : X.A.units + 80 < cLine) : DispD L X := by
  intro pins s σ H Hc ρ p o k d x y u v Q I sb hp hx hd rk rd ru rv kk h
  have q : DicAt L.w H p [] [] [] := ⟨⟨o, #[], 0, hp, hx, hd, trivial⟩, List.nodup_nil, .inl rfl, fun k hk => (nomatch hk), Nat.zero_le _⟩
  unfold storeAll
  simp only [List.forIn_cons, List.forIn_nil, bind_assoc, pure_bind]
  refine wpAny_bind (d_dset hK hw hu I sb q Reps.nil Reps.nil rk ru rd rv kk (by decide) rfl fun o' s' kv' vv' I' q' r1 r2 => ?_)
  exact wpAny_pure (h o' s' kv' vv' I' q' r1 r2)
/-- the rules -/
theorem dh_all (hK : X.K = L.K) (hw : X.w = L.w) (hc : X.calm = true) (hu : X.A.units + 80 < cLine) : DH L X where
  ix := dh_ix hK hw hu
  isIn := dh_in hK hw hu
  notIn := dh_notIn hK hw hu
  len := dh_len hK hw
  list := dh_list hK hc
  set := dh_set hK hw hu
  sorted := bi_sorted hK hu
  walk := dh_walk hK
  mt := fun m x h => match m, h with
    | .get, _ => md_get hK hw hu
    | .index, _ => md_index hK hu
  disp := dh_disp hK hw hu
  enum := dh_enum hK
  dict := bi_dict hK hw hc hu
  sortSet := dh_sset hK hc hu
end
end Sr
end

section
set_option autoImplicit false
set_option linter.all false
set_option Elab.async false
set_option maxRecDepth 100000
set_option maxHeartbeats 0
namespace K06
open PySem PySem.Spec PyProof.Rows L2 Sr
/-- is_number -/
def F_is_number : Fn := ⟨3, 3, [
  .ret (.and (.bi (.isinst [.int]) [.var 0]) (.and (.not (.bi (.isinst [.bool]) [.var 0])) (.chn .le .le (.var 1) (.var 0) (.var 2))))]⟩
/-- is_row -/
def F_is_row : Fn := ⟨5, 6, [
  .iff (.or (.not (.bi (.isinst [.tuple]) [.var 0])) (.not (.chn .le .le (.var 1) (.bi .len [.var 0]) (.var 2)))) [.ret (.cst (.bl false))] [],
  .ret (.bi .all [.comp (.call 0 [.var 5, .var 3, .var 4]) (.nm 5) 0 [.var 0] []])]⟩
/-- do_rise -/
def F_do_rise : Fn := ⟨1, 2, [
  .ret (.bi .all [.comp (.cmp .lt (.idx (.var 0) (.var 1)) (.idx (.var 0) (.op2 .add (.var 1) (.cst (.int 1))))) (.nm 1) 1 [.op2 .sub (.bi .len [.var 0]) (.cst (.int 1))] []])]⟩
/-- is_place_of -/
def F_is_place_of : Fn := ⟨2, 2, [
  .iff (.not (.call 1 [.var 1, .cst (.int 2), .cst (.int 2), .cst (.int 0), .op2 .sub (.gcst 2) (.cst (.int 1))])) [.ret (.cst (.bl false))] [],
  .ret (.and (.cmp .lt (.idx (.var 1) (.cst (.int 0))) (.bi .len [.var 0])) (.cmp .lt (.idx (.var 1) (.cst (.int 1))) (.bi .len [.idx (.var 0) (.cst (.int 0))])))]⟩
/-- are_rows -/
def F_are_rows : Fn := ⟨1, 3, [
  .iff (.or (.not (.bi (.isinst [.tuple]) [.var 0])) (.not (.chn .le .le (.cst (.int 1)) (.bi .len [.var 0]) (.gcst 2)))) [.ret (.cst (.bl false))] [],
  .iff (.not (.call 1 [.idx (.var 0) (.cst (.int 0)), .cst (.int 1), .gcst 2, .gcst 0, .gcst 1])) [.ret (.cst (.bl false))] [],
  .asg (.nm 1) (.bi .len [.idx (.var 0) (.cst (.int 0))]),
  .ret (.bi .all [.comp (.call 1 [.var 2, .var 1, .var 1, .gcst 0, .gcst 1]) (.nm 2) 0 [.var 0] []])]⟩
/-- is_border -/
def F_is_border : Fn := ⟨2, 2, [
  .ret (.or (.cmp .isIn (.idx (.var 1) (.cst (.int 0))) (.tup [.cst (.int 0), .op2 .sub (.bi .len [.var 0]) (.cst (.int 1))])) (.cmp .isIn (.idx (.var 1) (.cst (.int 1))) (.tup [.cst (.int 0), .op2 .sub (.bi .len [.idx (.var 0) (.cst (.int 0))]) (.cst (.int 1))])))]⟩
/-- is_ground -/
def F_is_ground : Fn := ⟨1, 4, [
  .iff (.or (.not (.bi (.isinst [.tuple]) [.var 0])) (.or (.cmp .ne (.bi .len [.var 0]) (.cst (.int 2))) (.not (.call 66 [.idx (.var 0) (.cst (.int 0))])))) [.ret (.cst (.bl false))] [],
  .asg (.tp [1, 2]) (.var 0),
  .iff (.or (.not (.bi (.isinst [.tuple]) [.var 2])) (.cmp .eq (.bi .len [.var 2]) (.cst (.int 0)))) [.ret (.cst (.bl false))] [],
  .iff (.or (.not (.bi .all [.comp (.call 67 [.var 1, .var 3]) (.nm 3) 0 [.var 2] []])) (.not (.call 68 [.var 2]))) [.ret (.cst (.bl false))] [],
  .ret (.bi .all [.comp (.and (.call 69 [.var 1, .var 3]) (.cmp .eq (.idx (.idx (.var 1) (.idx (.var 3) (.cst (.int 0)))) (.idx (.var 3) (.cst (.int 1)))) (.gcst 0))) (.nm 3) 0 [.var 2] []])]⟩
/-- need_ground -/
def F_need_ground : Fn := ⟨1, 1, [
  .iff (.not (.call 70 [.var 0])) [.rse 1 []] []]⟩
/-- places_with -/
def F_places_with : Fn := ⟨2, 7, [
  .asgO 2 (.lst []),
  .forr 2 (.tp [3, 4]) [.idx (.var 0) (.cst (.int 0))] [.ext (.var 2) (.comp (.tup [.var 3, .var 5]) (.tp [5, 6]) 2 [.var 4] [.cmp .eq (.var 6) (.var 1)])],
  .ret (.bi .tuple [.var 2])]⟩
/-- beside -/
def F_beside : Fn := ⟨2, 6, [
  .asg (.tp [2, 3]) (.var 1),
  .asg (.nm 4) (.lst [.tup [.op2 .sub (.var 2) (.cst (.int 1)), .var 3], .tup [.var 2, .op2 .sub (.var 3) (.cst (.int 1))], .tup [.var 2, .op2 .add (.var 3) (.cst (.int 1))], .tup [.op2 .add (.var 2) (.cst (.int 1)), .var 3]]),
  .ret (.comp (.var 5) (.nm 5) 0 [.var 4] [.and (.chn .le .lt (.cst (.int 0)) (.idx (.var 5) (.cst (.int 0))) (.bi .len [.idx (.var 0) (.cst (.int 0))])) (.chn .le .lt (.cst (.int 0)) (.idx (.var 5) (.cst (.int 1))) (.bi .len [.idx (.idx (.var 0) (.cst (.int 0))) (.cst (.int 0))]))])]⟩
/-- spread -/
def F_spread : Fn := ⟨3, 8, [
  .asgO 3 (.dic [] []),
  .asgO 4 (.comp (.var 5) (.nm 5) 0 [.var 1] [.cmp .isIn (.var 5) (.var 2)]),
  .forr 0 (.nm 5) [.var 4] [.setI (.var 3) (.var 5) (.cst (.bl true))],
  .asg (.nm 6) (.cst (.int 0)),
  .whl (.cmp .lt (.var 6) (.bi .len [.var 4])) [.forr 0 (.nm 7) [.call 71 [.var 0, .idx (.var 4) (.var 6)]] [.iff (.and (.cmp .isIn (.var 7) (.var 2)) (.cmp .notIn (.var 7) (.var 3))) [.setI (.var 3) (.var 7) (.cst (.bl true)), .app (.var 4) (.var 7)] []], .aug .add 6 (.cst (.int 1))],
  .retO 3]⟩
/-- as_set -/
def F_as_set : Fn := ⟨1, 2, [
  .ret (.bi .dict [.comp (.tup [.var 1, .cst (.bl true)]) (.nm 1) 0 [.var 0] []])]⟩
/-- reached_places -/
def F_reached_places : Fn := ⟨1, 1, [
  .ret (.call 72 [.var 0, .idx (.var 0) (.cst (.int 1)), .call 73 [.call 74 [.var 0, .gcst 0]]])]⟩
/-- narrow -/
def F_narrow : Fn := ⟨1, 6, [
  .expr (.call 75 [.var 0]),
  .asg (.nm 1) (.call 76 [.var 0]),
  .asgO 2 (.lst []),
  .forr 0 (.nm 3) [.bi .sorted [.bi .list [.var 1]]] [.asg (.nm 4) (.call 73 [.comp (.var 5) (.nm 5) 0 [.var 1] [.cmp .ne (.var 5) (.var 3)]]), .iff (.cmp .lt (.bi .len [.call 72 [.var 0, .idx (.var 0) (.cst (.int 1)), .var 4]]) (.op2 .sub (.bi .len [.var 1]) (.cst (.int 1)))) [.app (.var 2) (.var 3)] []],
  .ret (.bi .tuple [.var 2])]⟩
/-- _law_pot -/
def F__law_pot : Fn := ⟨1, 2, [
  .ret (.lst [.comp (.bi .abs [.var 1]) (.nm 1) 0 [.slc (.var 0) (.nil) (.cst (.int 63))] [], .cst (.int 0), .cst (.int 20011), .cst (.int 0)])]⟩
/-- _law_draw -/
def F__law_draw : Fn := ⟨2, 4, [
  .iff (.cmp .lt (.var 1) (.cst (.int 2))) [.ret (.cst (.int 0))] [],
  .iff (.cmp .gt (.idx (.var 0) (.cst (.int 3))) (.cst (.int 0))) [.asg (.nm 3) (.op2 .mod (.bi .int [.idx (.var 0) (.cst (.int 3))]) (.var 1)), .setI (.var 0) (.cst (.int 3)) (.op2 .fdiv (.idx (.var 0) (.cst (.int 3))) (.var 1)), .ret (.var 3)] [],
  .asg (.nm 2) (.cst (.int 0)),
  .iff (.cmp .lt (.idx (.var 0) (.cst (.int 1))) (.bi .len [.idx (.var 0) (.cst (.int 0))])) [.asg (.nm 2) (.idx (.idx (.var 0) (.cst (.int 0))) (.idx (.var 0) (.cst (.int 1)))), .setI (.var 0) (.cst (.int 1)) (.op2 .add (.idx (.var 0) (.cst (.int 1))) (.cst (.int 1))), .iff (.cmp .ge (.var 2) (.op2 .pow (.cst (.int 10)) (.cst (.int 18)))) [.setI (.var 0) (.cst (.int 3)) (.op2 .fdiv (.var 2) (.var 1)), .ret (.op2 .mod (.bi .int [.var 2]) (.var 1))] []] [],
  .setI (.var 0) (.cst (.int 2)) (.op2 .mod (.bi .int [.op2 .add (.op2 .add (.op2 .mul (.idx (.var 0) (.cst (.int 2))) (.cst (.int 48271))) (.var 2)) (.cst (.int 12345))]) (.cst (.int 2147483647))),
  .ret (.op2 .mod (.bi .int [.op2 .add (.op2 .fdiv (.op2 .mul (.idx (.var 0) (.cst (.int 2))) (.idx (.var 0) (.cst (.int 2)))) (.cst (.int 64))) (.op2 .fdiv (.idx (.var 0) (.cst (.int 2))) (.cst (.int 7)))]) (.var 1))]⟩
/-- _law_pick -/
def F__law_pick : Fn := ⟨2, 2, [
  .ret (.idx (.var 1) (.call 6 [.var 0, .bi .len [.var 1]]))]⟩
/-- _law_same -/
def F__law_same : Fn := ⟨2, 3, [
  .iff (.or (.bi (.isinst [.tuple]) [.var 1]) (.bi (.isinst [.list]) [.var 1])) [.iff (.or (.cmp .ne (.bi (.isinst [.tuple]) [.var 1]) (.bi (.isinst [.tuple]) [.var 0])) (.cmp .ne (.bi (.isinst [.list]) [.var 1]) (.bi (.isinst [.list]) [.var 0]))) [.ret (.cst (.bl false))] [], .iff (.cmp .ne (.bi .len [.var 0]) (.bi .len [.var 1])) [.ret (.cst (.bl false))] [], .ret (.cmp .eq (.comp (.var 2) (.nm 2) 1 [.bi .len [.var 1]] [.not (.call 7 [.idx (.var 0) (.var 2), .idx (.var 1) (.var 2)])]) (.lst []))] [],
  .iff (.cmp .is (.var 1) (.cst .non)) [.ret (.cmp .is (.var 0) (.cst .non))] [],
  .iff (.bi (.isinst [.str]) [.var 1]) [.ret (.and (.bi (.isinst [.str]) [.var 0]) (.cmp .eq (.var 0) (.var 1)))] [],
  .ret (.and (.bi (.isinst [.int]) [.var 0]) (.and (.cmp .eq (.bi (.isinst [.bool]) [.var 0]) (.bi (.isinst [.bool]) [.var 1])) (.cmp .eq (.var 0) (.var 1))))]⟩
/-- _law_ground -/
def F__law_ground : Fn := ⟨4, 12, [
  .asg (.tp [4, 5]) (.tup [.op2 .add (.cst (.int 1)) (.call 6 [.var 0, .var 1]), .op2 .add (.cst (.int 1)) (.call 6 [.var 0, .var 2])]),
  .asg (.nm 6) (.comp (.new (.comp (.call 8 [.var 0, .var 3]) (.nm 10) 1 [.var 5] [])) (.nm 9) 1 [.var 4] []),
  .asg (.nm 7) (.lst [.tup [.cst (.int 0), .call 6 [.var 0, .var 5]], .tup [.call 6 [.var 0, .var 4], .cst (.int 0)], .tup [.op2 .sub (.var 4) (.cst (.int 1)), .call 6 [.var 0, .var 5]]]),
  .asg (.nm 8) (.bi .sortSet [.slc (.var 7) (.nil) (.op2 .add (.cst (.int 1)) (.call 6 [.var 0, .cst (.int 3)]))]),
  .forr 0 (.tp [9, 10]) [.var 8] [.setI (.idx (.var 6) (.var 9)) (.var 10) (.cst (.int 0))],
  .ret (.tup [.bi .tuple [.comp (.bi .tuple [.var 11]) (.nm 11) 0 [.var 6] []], .bi .tuple [.var 8]])]⟩
/-- _law_spots -/
def F__law_spots : Fn := ⟨2, 7, [
  .asgO 2 (.lst []),
  .forr 2 (.tp [3, 4]) [.idx (.var 0) (.cst (.int 0))] [.ext (.var 2) (.comp (.tup [.var 3, .var 5]) (.tp [5, 6]) 2 [.var 4] [.cmp .eq (.var 6) (.var 1)])],
  .retO 2]⟩
/-- _law_beside -/
def F__law_beside : Fn := ⟨2, 2, [
  .ret (.cmp .eq (.op2 .add (.bi .abs [.op2 .sub (.idx (.var 0) (.cst (.int 0))) (.idx (.var 1) (.cst (.int 0)))]) (.bi .abs [.op2 .sub (.idx (.var 0) (.cst (.int 1))) (.idx (.var 1) (.cst (.int 1)))])) (.cst (.int 1)))]⟩
/-- _law_flood -/
def F__law_flood : Fn := ⟨2, 7, [
  .asg (.nm 2) (.comp (.var 5) (.nm 5) 0 [.var 0] [.cmp .isIn (.var 5) (.var 1)]),
  .forr 1 (.nm 3) [.bi .len [.var 1]] [.asg (.nm 4) (.comp (.var 5) (.nm 5) 0 [.var 1] [.cmp .notIn (.var 5) (.var 2)]), .asg (.nm 2) (.op2 .add (.var 2) (.comp (.var 5) (.nm 5) 0 [.var 4] [.cmp .ne (.comp (.cst (.int 1)) (.nm 6) 0 [.var 2] [.call 77 [.var 5, .var 6]]) (.lst [])]))],
  .ret (.bi .sortSet [.var 2])]⟩
/-- _law_reached -/
def F__law_reached : Fn := ⟨1, 1, [
  .ret (.call 78 [.bi .list [.idx (.var 0) (.cst (.int 1))], .call 79 [.var 0, .cst (.int 0)]])]⟩
/-- _law_with -/
def F__law_with : Fn := ⟨3, 6, [
  .asg (.nm 3) (.comp (.new (.bi .list [.var 4])) (.nm 4) 0 [.idx (.var 0) (.cst (.int 0))] []),
  .setI (.idx (.var 3) (.idx (.var 1) (.cst (.int 0)))) (.idx (.var 1) (.cst (.int 1))) (.var 2),
  .ret (.tup [.bi .tuple [.comp (.bi .tuple [.var 4]) (.nm 4) 0 [.var 3] []], .bi .tuple [.comp (.var 5) (.nm 5) 0 [.idx (.var 0) (.cst (.int 1))] [.or (.cmp .eq (.var 2) (.cst (.int 0))) (.cmp .ne (.var 5) (.var 1))]]])]⟩
/-- law -/
def F_law : Fn := ⟨1, 10, [
  .asg (.nm 1) (.new (.call 11 [.var 0])),
  .forr 1 (.nm 2) [.cst (.int 8)] [.asg (.nm 3) (.call 80 [.var 1, .cst (.int 4), .cst (.int 5), .lst [.cst (.int 0), .cst (.int 0), .cst (.int 0), .cst (.int 1), .cst (.int 2)]]), .par [(4, false), (5, false)] [.call 81 [.var 3], .new (.lst [])], .forr 0 (.nm 6) [.var 4] [.asg (.nm 7) (.call 82 [.var 3, .var 6, .cst (.int 1)]), .asg (.nm 8) (.call 78 [.bi .list [.idx (.var 7) (.cst (.int 1))], .call 79 [.var 7, .cst (.int 0)]]), .iff (.cmp .ne (.comp (.var 9) (.nm 9) 0 [.var 4] [.and (.cmp .ne (.var 9) (.var 6)) (.cmp .notIn (.var 9) (.var 8))]) (.lst [])) [.app (.var 5) (.var 6)] []], .iff (.not (.call 7 [.call 83 [.var 3], .bi .tuple [.var 5]])) [.ret (.cst (.bl false))] []],
  .ret (.lam 84 (.call 83 [.call 8 [.var 1, .lst [.cst .non, .tup [], .cst (.int 4)]]]) "NoGround")]⟩
def tbl : List (Nat × Fn) := [(0, F_is_number), (1, F_is_row), (68, F_do_rise), (67, F_is_place_of), (66, F_are_rows), (69, F_is_border), (70, F_is_ground), (75, F_need_ground), (74, F_places_with), (71, F_beside), (72, F_spread), (73, F_as_set), (76, F_reached_places), (83, F_narrow), (11, F__law_pot), (6, F__law_draw), (8, F__law_pick), (7, F__law_same), (80, F__law_ground), (79, F__law_spots), (77, F__law_beside), (78, F__law_flood), (81, F__law_reached), (82, F__law_with), (85, F_law)]
def lks : List (Nat × LK) := [(84, LK.raises [(1, ("NoGround" : Str))])]
def cons : List D := [.int 0, .int 2, .int 8]
def pg : Pg := ⟨fun f => tbl.lookup f, fun f => lks.lookup f, 2, fun c => cons.getD c .non⟩
def glb : GT := [(("is_number" : Str), GV.fn 0), (("is_row" : Str), GV.fn 1), (("do_rise" : Str), GV.fn 68), (("is_place_of" : Str), GV.fn 67), (("are_rows" : Str), GV.fn 66), (("is_border" : Str), GV.fn 69), (("is_ground" : Str), GV.fn 70), (("need_ground" : Str), GV.fn 75), (("places_with" : Str), GV.fn 74), (("beside" : Str), GV.fn 71), (("spread" : Str), GV.fn 72), (("as_set" : Str), GV.fn 73), (("reached_places" : Str), GV.fn 76), (("narrow" : Str), GV.fn 83), (("_law_pot" : Str), GV.fn 11), (("_law_draw" : Str), GV.fn 6), (("_law_pick" : Str), GV.fn 8), (("_law_same" : Str), GV.fn 7), (("_law_ground" : Str), GV.fn 80), (("_law_spots" : Str), GV.fn 79), (("_law_beside" : Str), GV.fn 77), (("_law_flood" : Str), GV.fn 78), (("_law_reached" : Str), GV.fn 81), (("_law_with" : Str), GV.fn 82), (("law" : Str), GV.fn 85), (("_law_raises" : Str), GV.lam 84), (("FairError" : Str), GV.cls 0), (("NoGround" : Str), GV.cls 1), (("FREE" : Str), GV.con 0), (("STALL" : Str), GV.con 1), (("MOST_SIDE" : Str), GV.con 2), (("abs" : Str), GV.non), (("all" : Str), GV.non), (("bool" : Str), GV.non), (("dict" : Str), GV.non), (("enumerate" : Str), GV.non), (("int" : Str), GV.non), (("isinstance" : Str), GV.non), (("len" : Str), GV.non), (("list" : Str), GV.non), (("range" : Str), GV.non), (("set" : Str), GV.non), (("sorted" : Str), GV.non), (("str" : Str), GV.non), (("tuple" : Str), GV.non)]
def ck (N : List Str) : Ck := ⟨glb, pg, N⟩
abbrev top (i : Nat) : Stmt := PySem.Challenge.pw_stallrows_k06_narrow_places.main.body.getD i (.Pass ⟨0, 0, 0, 0⟩)
def N_is_number : List Str := [("value" : Str), ("least" : Str), ("most" : Str)]
def N_is_row : List Str := [("value" : Str), ("least" : Str), ("most" : Str), ("low" : Str), ("high" : Str), ("one" : Str)]
def N_do_rise : List Str := [("value" : Str), ("at" : Str)]
def N_is_place_of : List Str := [("rows" : Str), ("value" : Str)]
def N_are_rows : List Str := [("value" : Str), ("wide" : Str), ("row" : Str)]
def N_is_border : List Str := [("rows" : Str), ("place" : Str)]
def N_is_ground : List Str := [("value" : Str), ("rows" : Str), ("gates" : Str), ("gate" : Str)]
def N_need_ground : List Str := [("ground" : Str)]
def N_places_with : List Str := [("ground" : Str), ("what" : Str), ("found" : Str), ("down" : Str), ("row" : Str), ("across" : Str), ("own" : Str)]
def N_beside : List Str := [("ground" : Str), ("place" : Str), ("down" : Str), ("across" : Str), ("some" : Str), ("own" : Str)]
def N_spread : List Str := [("ground" : Str), ("starts" : Str), ("passes" : Str), ("found" : Str), ("order" : Str), ("place" : Str), ("at" : Str), ("other" : Str)]
def N_as_set : List Str := [("places" : Str), ("place" : Str)]
def N_reached_places : List Str := [("ground" : Str)]
def N_narrow : List Str := [("ground" : Str), ("known" : Str), ("found" : Str), ("place" : Str), ("passes" : Str), ("other" : Str)]
def N__law_pot : List Str := [("script" : Str), ("cell" : Str)]
def N__law_draw : List Str := [("pot" : Str), ("many" : Str), ("cell" : Str), ("found" : Str)]
def N__law_pick : List Str := [("pot" : Str), ("row" : Str)]
def N__law_same : List Str := [("found" : Str), ("due" : Str), ("k" : Str)]
def N__law_ground : List Str := [("pot" : Str), ("high" : Str), ("wide" : Str), ("some" : Str), ("many" : Str), ("broad" : Str), ("rows" : Str), ("side" : Str), ("gates" : Str), ("down" : Str), ("across" : Str), ("row" : Str)]
def N__law_spots : List Str := [("ground" : Str), ("what" : Str), ("found" : Str), ("down" : Str), ("row" : Str), ("across" : Str), ("own" : Str)]
def N__law_beside : List Str := [("one" : Str), ("other" : Str)]
def N__law_flood : List Str := [("starts" : Str), ("passes" : Str), ("found" : Str), ("k" : Str), ("some" : Str), ("one" : Str), ("own" : Str)]
def N__law_reached : List Str := [("ground" : Str)]
def N__law_with : List Str := [("ground" : Str), ("place" : Str), ("what" : Str), ("rows" : Str), ("row" : Str), ("gate" : Str)]
def N_law : List Str := [("script" : Str), ("pot" : Str), ("turn" : Str), ("ground" : Str), ("known" : Str), ("found" : Str), ("place" : Str), ("own" : Str), ("left" : Str), ("other" : Str)]
theorem chk_is_number : chkSs (ck N_is_number) false (defScope (top 4)) F_is_number.body (defBody (top 4)) = true := by kernel_rfl
theorem chk_is_row : chkSs (ck N_is_row) false (defScope (top 5)) F_is_row.body (defBody (top 5)) = true := by kernel_rfl
theorem chk_do_rise : chkSs (ck N_do_rise) false (defScope (top 6)) F_do_rise.body (defBody (top 6)) = true := by kernel_rfl
theorem chk_is_place_of : chkSs (ck N_is_place_of) false (defScope (top 11)) F_is_place_of.body (defBody (top 11)) = true := by kernel_rfl
theorem chk_are_rows : chkSs (ck N_are_rows) false (defScope (top 12)) F_are_rows.body (defBody (top 12)) = true := by kernel_rfl
theorem chk_is_border : chkSs (ck N_is_border) false (defScope (top 13)) F_is_border.body (defBody (top 13)) = true := by kernel_rfl
theorem chk_is_ground : chkSs (ck N_is_ground) false (defScope (top 14)) F_is_ground.body (defBody (top 14)) = true := by kernel_rfl
theorem chk_need_ground : chkSs (ck N_need_ground) false (defScope (top 15)) F_need_ground.body (defBody (top 15)) = true := by kernel_rfl
theorem chk_places_with : chkSs (ck N_places_with) false (defScope (top 16)) F_places_with.body (defBody (top 16)) = true := by kernel_rfl
theorem chk_beside : chkSs (ck N_beside) false (defScope (top 17)) F_beside.body (defBody (top 17)) = true := by kernel_rfl
theorem chk_spread : chkSs (ck N_spread) false (defScope (top 18)) F_spread.body (defBody (top 18)) = true := by kernel_rfl
theorem chk_as_set : chkSs (ck N_as_set) false (defScope (top 19)) F_as_set.body (defBody (top 19)) = true := by kernel_rfl
theorem chk_reached_places : chkSs (ck N_reached_places) false (defScope (top 20)) F_reached_places.body (defBody (top 20)) = true := by kernel_rfl
theorem chk_narrow : chkSs (ck N_narrow) false (defScope (top 22)) F_narrow.body (defBody (top 22)) = true := by kernel_rfl
theorem chk__law_pot : chkSs (ck N__law_pot) false (defScope (top 24)) F__law_pot.body (defBody (top 24)) = true := by kernel_rfl
theorem chk__law_draw : chkSs (ck N__law_draw) false (defScope (top 25)) F__law_draw.body (defBody (top 25)) = true := by kernel_rfl
theorem chk__law_pick : chkSs (ck N__law_pick) false (defScope (top 26)) F__law_pick.body (defBody (top 26)) = true := by kernel_rfl
theorem chk__law_same : chkSs (ck N__law_same) false (defScope (top 27)) F__law_same.body (defBody (top 27)) = true := by kernel_rfl
theorem chk__law_ground : chkSs (ck N__law_ground) false (defScope (top 28)) F__law_ground.body (defBody (top 28)) = true := by kernel_rfl
theorem chk__law_spots : chkSs (ck N__law_spots) false (defScope (top 29)) F__law_spots.body (defBody (top 29)) = true := by kernel_rfl
theorem chk__law_beside : chkSs (ck N__law_beside) false (defScope (top 30)) F__law_beside.body (defBody (top 30)) = true := by kernel_rfl
theorem chk__law_flood : chkSs (ck N__law_flood) false (defScope (top 31)) F__law_flood.body (defBody (top 31)) = true := by kernel_rfl
theorem chk__law_reached : chkSs (ck N__law_reached) false (defScope (top 32)) F__law_reached.body (defBody (top 32)) = true := by kernel_rfl
theorem chk__law_with : chkSs (ck N__law_with) false (defScope (top 33)) F__law_with.body (defBody (top 33)) = true := by kernel_rfl
theorem chk_law : chkSs (ck N_law) true (defScope (top 35)) F_law.body (defBody (top 35)) = true := by kernel_rfl
end K06
end

section
set_option autoImplicit false
set_option linter.all false
set_option Elab.async false
set_option maxRecDepth 100000
set_option maxHeartbeats 0
namespace K06
open PySem PySem.Spec PyProof.Rows L2 Sr
def d_is_number : He.DefD := ⟨(("is_number" : Str), none), "is_number", "is_number", defArgs (top 4), defBody (top 4), defScope (top 4), [], []⟩
def d_is_row : He.DefD := ⟨(("is_row" : Str), none), "is_row", "is_row", defArgs (top 5), defBody (top 5), defScope (top 5), [], []⟩
def d_do_rise : He.DefD := ⟨(("do_rise" : Str), none), "do_rise", "do_rise", defArgs (top 6), defBody (top 6), defScope (top 6), [], []⟩
def d_is_place_of : He.DefD := ⟨(("is_place_of" : Str), none), "is_place_of", "is_place_of", defArgs (top 11), defBody (top 11), defScope (top 11), [], []⟩
def d_are_rows : He.DefD := ⟨(("are_rows" : Str), none), "are_rows", "are_rows", defArgs (top 12), defBody (top 12), defScope (top 12), [], []⟩
def d_is_border : He.DefD := ⟨(("is_border" : Str), none), "is_border", "is_border", defArgs (top 13), defBody (top 13), defScope (top 13), [], []⟩
def d_is_ground : He.DefD := ⟨(("is_ground" : Str), none), "is_ground", "is_ground", defArgs (top 14), defBody (top 14), defScope (top 14), [], []⟩
def d_need_ground : He.DefD := ⟨(("need_ground" : Str), none), "need_ground", "need_ground", defArgs (top 15), defBody (top 15), defScope (top 15), [], []⟩
def d_places_with : He.DefD := ⟨(("places_with" : Str), none), "places_with", "places_with", defArgs (top 16), defBody (top 16), defScope (top 16), [], []⟩
def d_beside : He.DefD := ⟨(("beside" : Str), none), "beside", "beside", defArgs (top 17), defBody (top 17), defScope (top 17), [], []⟩
def d_spread : He.DefD := ⟨(("spread" : Str), none), "spread", "spread", defArgs (top 18), defBody (top 18), defScope (top 18), [], []⟩
def d_as_set : He.DefD := ⟨(("as_set" : Str), none), "as_set", "as_set", defArgs (top 19), defBody (top 19), defScope (top 19), [], []⟩
def d_reached_places : He.DefD := ⟨(("reached_places" : Str), none), "reached_places", "reached_places", defArgs (top 20), defBody (top 20), defScope (top 20), [], []⟩
def d_narrow : He.DefD := ⟨(("narrow" : Str), none), "narrow", "narrow", defArgs (top 22), defBody (top 22), defScope (top 22), [], []⟩
def d__law_pot : He.DefD := ⟨(("_law_pot" : Str), none), "_law_pot", "_law_pot", defArgs (top 24), defBody (top 24), defScope (top 24), [], []⟩
def d__law_draw : He.DefD := ⟨(("_law_draw" : Str), none), "_law_draw", "_law_draw", defArgs (top 25), defBody (top 25), defScope (top 25), [], []⟩
def d__law_pick : He.DefD := ⟨(("_law_pick" : Str), none), "_law_pick", "_law_pick", defArgs (top 26), defBody (top 26), defScope (top 26), [], []⟩
def d__law_same : He.DefD := ⟨(("_law_same" : Str), none), "_law_same", "_law_same", defArgs (top 27), defBody (top 27), defScope (top 27), [], []⟩
def d__law_ground : He.DefD := ⟨(("_law_ground" : Str), none), "_law_ground", "_law_ground", defArgs (top 28), defBody (top 28), defScope (top 28), [], []⟩
def d__law_spots : He.DefD := ⟨(("_law_spots" : Str), none), "_law_spots", "_law_spots", defArgs (top 29), defBody (top 29), defScope (top 29), [], []⟩
def d__law_beside : He.DefD := ⟨(("_law_beside" : Str), none), "_law_beside", "_law_beside", defArgs (top 30), defBody (top 30), defScope (top 30), [], []⟩
def d__law_flood : He.DefD := ⟨(("_law_flood" : Str), none), "_law_flood", "_law_flood", defArgs (top 31), defBody (top 31), defScope (top 31), [], []⟩
def d__law_reached : He.DefD := ⟨(("_law_reached" : Str), none), "_law_reached", "_law_reached", defArgs (top 32), defBody (top 32), defScope (top 32), [], []⟩
def d__law_with : He.DefD := ⟨(("_law_with" : Str), none), "_law_with", "_law_with", defArgs (top 33), defBody (top 33), defScope (top 33), [], []⟩
def d_law : He.DefD := ⟨(("law" : Str), none), "law", "law", defArgs (top 35), defBody (top 35), defScope (top 35), [], []⟩
def d__law_raises : He.DefD := ⟨(("_law_raises" : Str), none), "_law_raises", "_law_raises", defArgs (top 34), defBody (top 34), defScope (top 34), [], []⟩
def dfn : List He.DefD := [d_is_number, d_is_row, d_do_rise, d_is_place_of, d_are_rows, d_is_border, d_is_ground, d_need_ground, d_places_with, d_beside, d_spread, d_as_set, d_reached_places, d_narrow, d__law_pot, d__law_draw, d__law_pick, d__law_same, d__law_ground, d__law_spots, d__law_beside, d__law_flood, d__law_reached, d__law_with, d_law, d__law_raises]
def dfa : List He.Fa := [He.Fa.glo "is_number", He.Fa.glo "is_row", He.Fa.glo "do_rise", He.Fa.glo "is_place_of", He.Fa.glo "are_rows", He.Fa.glo "is_border", He.Fa.glo "is_ground", He.Fa.glo "need_ground", He.Fa.glo "places_with", He.Fa.glo "beside", He.Fa.glo "spread", He.Fa.glo "as_set", He.Fa.glo "reached_places", He.Fa.glo "narrow", He.Fa.glo "_law_pot", He.Fa.glo "_law_draw", He.Fa.glo "_law_pick", He.Fa.glo "_law_same", He.Fa.glo "_law_ground", He.Fa.glo "_law_spots", He.Fa.glo "_law_beside", He.Fa.glo "_law_flood", He.Fa.glo "_law_reached", He.Fa.glo "_law_with", He.Fa.glo "law", He.Fa.glo "_law_raises", He.Fa.glo "FairError", He.Fa.glo "NoGround", He.Fa.free "abs", He.Fa.free "all", He.Fa.free "bool", He.Fa.free "dict", He.Fa.free "enumerate", He.Fa.free "int", He.Fa.free "isinstance", He.Fa.free "len", He.Fa.free "list", He.Fa.free "range", He.Fa.free "set", He.Fa.free "sorted", He.Fa.free "str", He.Fa.free "tuple", He.Fa.int "FREE" 0, He.Fa.int "STALL" 2, He.Fa.int "MOST_SIDE" 8, He.Fa.exc "FairError", He.Fa.exc "NoGround", He.Fa.exm "FairError" "FairError" true, He.Fa.exm "FairError" "NoGround" false, He.Fa.exm "NoGround" "FairError" true, He.Fa.exm "NoGround" "NoGround" true]
def dtf : List He.Defn := [(("law" : Str), none)]
abbrev R : PySem.W.OpenRow := PySem.W.OpenLaw.row PySem.Challenge.rw_stallrows_k06_narrow_places
abbrev hk : PySem.W.Hook := He.hookX 4 dfa dfn [] dtf fun _ => true
def ob (s : PySem.W.SharedT) : He.AlX := He.obsX 4 dfa dfn [] dtf (fun _ => true) (HandSHeadRun.getT s)
theorem ob_eq (s : PySem.W.SharedT) : ob s = hk.obs s.abs := He.obsX_eq (HandSHeadRun.getT_eq s)
def names0 : List PySem.Str := [("is_number" : PySem.Str), ("is_row" : PySem.Str), ("do_rise" : PySem.Str), ("is_place_of" : PySem.Str), ("are_rows" : PySem.Str), ("is_border" : PySem.Str), ("is_ground" : PySem.Str), ("need_ground" : PySem.Str), ("places_with" : PySem.Str), ("beside" : PySem.Str), ("spread" : PySem.Str), ("as_set" : PySem.Str), ("reached_places" : PySem.Str), ("narrow" : PySem.Str), ("_law_pot" : PySem.Str), ("_law_draw" : PySem.Str), ("_law_pick" : PySem.Str), ("_law_same" : PySem.Str), ("_law_ground" : PySem.Str), ("_law_spots" : PySem.Str), ("_law_beside" : PySem.Str), ("_law_flood" : PySem.Str), ("_law_reached" : PySem.Str), ("_law_with" : PySem.Str), ("_law_raises" : PySem.Str), ("FairError" : PySem.Str), ("NoGround" : PySem.Str), ("FREE" : PySem.Str), ("STALL" : PySem.Str), ("MOST_SIDE" : PySem.Str)]
def names : List PySem.Str := names0
theorem run (w : World) : HandSHeadRun.RunEq R (PySem.W.view R.prog [35]) hk ob 4000 names w := by
  intro os
  kernel_rfl
end K06
end

section
set_option autoImplicit false
set_option linter.all false
set_option Elab.async false
set_option maxRecDepth 100000
set_option maxHeartbeats 0
namespace K06
open PySem PySem.Spec PyProof.Rows L2 Sr
def fnames : List (Nat × Str) := [(0, ("is_number" : Str)), (1, ("is_row" : Str)), (68, ("do_rise" : Str)), (67, ("is_place_of" : Str)), (66, ("are_rows" : Str)), (69, ("is_border" : Str)), (70, ("is_ground" : Str)), (75, ("need_ground" : Str)), (74, ("places_with" : Str)), (71, ("beside" : Str)), (72, ("spread" : Str)), (73, ("as_set" : Str)), (76, ("reached_places" : Str)), (83, ("narrow" : Str)), (11, ("_law_pot" : Str)), (6, ("_law_draw" : Str)), (8, ("_law_pick" : Str)), (7, ("_law_same" : Str)), (80, ("_law_ground" : Str)), (79, ("_law_spots" : Str)), (77, ("_law_beside" : Str)), (78, ("_law_flood" : Str)), (81, ("_law_reached" : Str)), (82, ("_law_with" : Str)), (85, ("law" : Str)), (84, ("_law_raises" : Str))]
def cnames : List Str := [("FairError" : Str), ("NoGround" : Str)]
/-- what the numbers stand for -/
def lk (K : PySem.W.Frag) (w : World) : Lk := ⟨K, w, fun f => He.ga K ((fnames.lookup f).getD ""), fun c => He.ga K (cnames.getD c ""), fun _ => [], [((He.cT K (("law" : Str), none)).2, (("law" : Str) ++ ".<locals>.") ++ "<lambda>")]⟩
theorem lookup_mem2 {α : Type} {l : List (Str × α)} {x : Str} {v : α} (h : l.lookup x = some v) : (x, v) ∈ l := PySem.mem_of_lookup h
theorem lookup_memN {α : Type} : ∀ {l : List (Nat × α)} {x : Nat} {v : α}, l.lookup x = some v → (x, v) ∈ l
  | (k, y) :: l, x, v, h => by
    rw [List.lookup_cons] at h
    split at h
    · rename_i e
      cases h
      rw [eq_of_beq e]; exact List.mem_cons_self
    · exact List.mem_cons_of_mem _ (lookup_memN h)
section
variable {K : PySem.W.Frag} {w : World} {h : Heap} {mg : Str → Option Value}
theorem cls_ok (X : K.In h) (G : h.Ns mainGlobals mg) (c : He.SaysD dfa dfn K) : ∀ e k, glb.lookup e = some (.cls k) → mg e = some (.ref ((lk K w).ca k)) ∧ ClsOk K ((lk K w).ca k) := by
  intro e k hg
  have hm := lookup_mem2 hg
  simp only [glb, List.mem_cons, Prod.mk.injEq, GV.cls.injEq, reduceCtorEq, and_false, false_or, or_false, List.not_mem_nil] at hm
  rcases hm with ⟨rfl, rfl⟩ | ⟨rfl, rfl⟩
  · obtain ⟨e1, e2, e3, e4⟩ := He.exc_ok (c.fact 45 (f := .exc "FairError") rfl)
    exact ⟨He.glo_ok X G (c.fact 26 (f := .glo "FairError") rfl), ⟨e1, e2, e3, e4⟩⟩
  · obtain ⟨e1, e2, e3, e4⟩ := He.exc_ok (c.fact 46 (f := .exc "NoGround") rfl)
    exact ⟨He.glo_ok X G (c.fact 27 (f := .glo "NoGround") rfl), ⟨e1, e2, e3, e4⟩⟩
theorem lam__law_raises (X : K.In h) (G : h.Ns mainGlobals mg) (c : He.SaysD dfa dfn K) : LamDef (lk K w) pg K mg 84 "_law_raises" := by
  obtain ⟨fd, F⟩ := c.def_ 25 (d := d__law_raises) rfl
  exact lamdef_ok (C := ck []) (a := "work") (nm := "name") (fun e k q => (cls_ok X G c e k q).1) rfl (He.glo_ok X G (c.fact 25 (f := .glo "_law_raises") rfl)) F (F.bindsN fun _ _ _ _ _ _ us hl => match us, hl with | [_, _], _ => rfl) ⟨by kernel_rfl, by kernel_rfl, by kernel_rfl, by decide +kernel, by kernel_rfl, by decide +kernel, by decide +kernel⟩ (by kernel_rfl)
theorem gl_ok (X : K.In h) (G : h.Ns mainGlobals mg) (c : He.SaysD dfa dfn K) : GlobOk (lk K w) pg glb K mg := by
  intro x v hg
  have hm := lookup_mem2 hg
  simp only [glb, List.mem_cons, Prod.mk.injEq, List.not_mem_nil, or_false] at hm
  rcases hm with ⟨rfl, rfl⟩ | ⟨rfl, rfl⟩ | ⟨rfl, rfl⟩ | ⟨rfl, rfl⟩ | ⟨rfl, rfl⟩ | ⟨rfl, rfl⟩ | ⟨rfl, rfl⟩ | ⟨rfl, rfl⟩ | ⟨rfl, rfl⟩ | ⟨rfl, rfl⟩ | ⟨rfl, rfl⟩ | ⟨rfl, rfl⟩ | ⟨rfl, rfl⟩ | ⟨rfl, rfl⟩ | ⟨rfl, rfl⟩ | ⟨rfl, rfl⟩ | ⟨rfl, rfl⟩ | ⟨rfl, rfl⟩ | ⟨rfl, rfl⟩ | ⟨rfl, rfl⟩ | ⟨rfl, rfl⟩ | ⟨rfl, rfl⟩ | ⟨rfl, rfl⟩ | ⟨rfl, rfl⟩ | ⟨rfl, rfl⟩ | ⟨rfl, rfl⟩ | ⟨rfl, rfl⟩ | ⟨rfl, rfl⟩ | ⟨rfl, rfl⟩ | ⟨rfl, rfl⟩ | ⟨rfl, rfl⟩ | ⟨rfl, rfl⟩ | ⟨rfl, rfl⟩ | ⟨rfl, rfl⟩ | ⟨rfl, rfl⟩ | ⟨rfl, rfl⟩ | ⟨rfl, rfl⟩ | ⟨rfl, rfl⟩ | ⟨rfl, rfl⟩ | ⟨rfl, rfl⟩ | ⟨rfl, rfl⟩ | ⟨rfl, rfl⟩ | ⟨rfl, rfl⟩ | ⟨rfl, rfl⟩ | ⟨rfl, rfl⟩
  · exact He.glo_ok X G (c.fact 0 (f := .glo "is_number") rfl)
  · exact He.glo_ok X G (c.fact 1 (f := .glo "is_row") rfl)
  · exact He.glo_ok X G (c.fact 2 (f := .glo "do_rise") rfl)
  · exact He.glo_ok X G (c.fact 3 (f := .glo "is_place_of") rfl)
  · exact He.glo_ok X G (c.fact 4 (f := .glo "are_rows") rfl)
  · exact He.glo_ok X G (c.fact 5 (f := .glo "is_border") rfl)
  · exact He.glo_ok X G (c.fact 6 (f := .glo "is_ground") rfl)
  · exact He.glo_ok X G (c.fact 7 (f := .glo "need_ground") rfl)
  · exact He.glo_ok X G (c.fact 8 (f := .glo "places_with") rfl)
  · exact He.glo_ok X G (c.fact 9 (f := .glo "beside") rfl)
  · exact He.glo_ok X G (c.fact 10 (f := .glo "spread") rfl)
  · exact He.glo_ok X G (c.fact 11 (f := .glo "as_set") rfl)
  · exact He.glo_ok X G (c.fact 12 (f := .glo "reached_places") rfl)
  · exact He.glo_ok X G (c.fact 13 (f := .glo "narrow") rfl)
  · exact He.glo_ok X G (c.fact 14 (f := .glo "_law_pot") rfl)
  · exact He.glo_ok X G (c.fact 15 (f := .glo "_law_draw") rfl)
  · exact He.glo_ok X G (c.fact 16 (f := .glo "_law_pick") rfl)
  · exact He.glo_ok X G (c.fact 17 (f := .glo "_law_same") rfl)
  · exact He.glo_ok X G (c.fact 18 (f := .glo "_law_ground") rfl)
  · exact He.glo_ok X G (c.fact 19 (f := .glo "_law_spots") rfl)
  · exact He.glo_ok X G (c.fact 20 (f := .glo "_law_beside") rfl)
  · exact He.glo_ok X G (c.fact 21 (f := .glo "_law_flood") rfl)
  · exact He.glo_ok X G (c.fact 22 (f := .glo "_law_reached") rfl)
  · exact He.glo_ok X G (c.fact 23 (f := .glo "_law_with") rfl)
  · exact He.glo_ok X G (c.fact 24 (f := .glo "law") rfl)
  · exact lam__law_raises X G c
  · exact cls_ok X G c _ _ hg
  · exact cls_ok X G c _ _ hg
  · obtain ⟨t, e⟩ := He.int_ok X G (c.fact 42 (f := .int "FREE" 0) rfl)
    exact ⟨.int 0, _, fun ρ H => (by show Rep _ ρ H (.int 0) _; simp [Rep]), e, ⟨t, rfl⟩⟩
  · obtain ⟨t, e⟩ := He.int_ok X G (c.fact 43 (f := .int "STALL" 2) rfl)
    exact ⟨.int 2, _, fun ρ H => (by show Rep _ ρ H (.int 2) _; simp [Rep]), e, ⟨t, rfl⟩⟩
  · obtain ⟨t, e⟩ := He.int_ok X G (c.fact 44 (f := .int "MOST_SIDE" 8) rfl)
    exact ⟨.int 8, _, fun ρ H => (by show Rep _ ρ H (.int 8) _; simp [Rep]), e, ⟨t, rfl⟩⟩
  · exact He.free_ok X G (c.fact 28 (f := .free "abs") rfl)
  · exact He.free_ok X G (c.fact 29 (f := .free "all") rfl)
  · exact He.free_ok X G (c.fact 30 (f := .free "bool") rfl)
  · exact He.free_ok X G (c.fact 31 (f := .free "dict") rfl)
  · exact He.free_ok X G (c.fact 32 (f := .free "enumerate") rfl)
  · exact He.free_ok X G (c.fact 33 (f := .free "int") rfl)
  · exact He.free_ok X G (c.fact 34 (f := .free "isinstance") rfl)
  · exact He.free_ok X G (c.fact 35 (f := .free "len") rfl)
  · exact He.free_ok X G (c.fact 36 (f := .free "list") rfl)
  · exact He.free_ok X G (c.fact 37 (f := .free "range") rfl)
  · exact He.free_ok X G (c.fact 38 (f := .free "set") rfl)
  · exact He.free_ok X G (c.fact 39 (f := .free "sorted") rfl)
  · exact He.free_ok X G (c.fact 40 (f := .free "str") rfl)
  · exact He.free_ok X G (c.fact 41 (f := .free "tuple") rfl)
theorem ex_ok (c : He.SaysD dfa dfn K) : ExmOk K (lk K w).ca pg.nc
  | 0, 0, _, _ => He.exm_ok (c.fact 47 (f := .exm "FairError" "FairError" true) rfl)
  | 0, 1, _, _ => He.exm_ok (c.fact 48 (f := .exm "FairError" "NoGround" false) rfl)
  | 1, 0, _, _ => He.exm_ok (c.fact 49 (f := .exm "NoGround" "FairError" true) rfl)
  | 1, 1, _, _ => He.exm_ok (c.fact 50 (f := .exm "NoGround" "NoGround" true) rfl)
  | k + 2, _, h, _ => absurd h (by show ¬ k + 2 < 2; omega)
  | 0, k + 2, _, h => absurd h (by show ¬ k + 2 < 2; omega)
  | 1, k + 2, _, h => absurd h (by show ¬ k + 2 < 2; omega)
variable {base : Heap}
theorem def_is_number (c : He.SaysD dfa dfn K) (TB : ∀ p ∈ dtf, LamX.TabB base mg (He.cT K p).1 (He.cT K p).2) : ∃ fd, DefOk (ck []) (lk K w) K mg base 0 F_is_number "is_number" "is_number" (defArgs (top 4)) (defBody (top 4)) (defScope (top 4)) N_is_number [("value" : Str), ("least" : Str), ("most" : Str)] false fd := by
  obtain ⟨fd, F⟩ := c.def_ 0 (d := d_is_number) rfl
  exact ⟨fd, ⟨⟨_, F⟩, ⟨by kernel_rfl, by kernel_rfl, by kernel_rfl, by decide +kernel, by kernel_rfl, by decide +kernel, by decide +kernel⟩, rfl, rfl, F.bindsN fun _ _ _ _ _ _ us hl => match us, hl with | [_, _, _], _ => rfl, chk_is_number, fun q => nomatch q⟩⟩
theorem def_is_row (c : He.SaysD dfa dfn K) (TB : ∀ p ∈ dtf, LamX.TabB base mg (He.cT K p).1 (He.cT K p).2) : ∃ fd, DefOk (ck []) (lk K w) K mg base 1 F_is_row "is_row" "is_row" (defArgs (top 5)) (defBody (top 5)) (defScope (top 5)) N_is_row [("value" : Str), ("least" : Str), ("most" : Str), ("low" : Str), ("high" : Str)] false fd := by
  obtain ⟨fd, F⟩ := c.def_ 1 (d := d_is_row) rfl
  exact ⟨fd, ⟨⟨_, F⟩, ⟨by kernel_rfl, by kernel_rfl, by kernel_rfl, by decide +kernel, by kernel_rfl, by decide +kernel, by decide +kernel⟩, rfl, rfl, F.bindsN fun _ _ _ _ _ _ us hl => match us, hl with | [_, _, _, _, _], _ => rfl, chk_is_row, fun q => nomatch q⟩⟩
theorem def_do_rise (c : He.SaysD dfa dfn K) (TB : ∀ p ∈ dtf, LamX.TabB base mg (He.cT K p).1 (He.cT K p).2) : ∃ fd, DefOk (ck []) (lk K w) K mg base 68 F_do_rise "do_rise" "do_rise" (defArgs (top 6)) (defBody (top 6)) (defScope (top 6)) N_do_rise [("value" : Str)] false fd := by
  obtain ⟨fd, F⟩ := c.def_ 2 (d := d_do_rise) rfl
  exact ⟨fd, ⟨⟨_, F⟩, ⟨by kernel_rfl, by kernel_rfl, by kernel_rfl, by decide +kernel, by kernel_rfl, by decide +kernel, by decide +kernel⟩, rfl, rfl, F.bindsN fun _ _ _ _ _ _ us hl => match us, hl with | [_], _ => rfl, chk_do_rise, fun q => nomatch q⟩⟩
theorem def_is_place_of (c : He.SaysD dfa dfn K) (TB : ∀ p ∈ dtf, LamX.TabB base mg (He.cT K p).1 (He.cT K p).2) : ∃ fd, DefOk (ck []) (lk K w) K mg base 67 F_is_place_of "is_place_of" "is_place_of" (defArgs (top 11)) (defBody (top 11)) (defScope (top 11)) N_is_place_of [("rows" : Str), ("value" : Str)] false fd := by
  obtain ⟨fd, F⟩ := c.def_ 3 (d := d_is_place_of) rfl
  exact ⟨fd, ⟨⟨_, F⟩, ⟨by kernel_rfl, by kernel_rfl, by kernel_rfl, by decide +kernel, by kernel_rfl, by decide +kernel, by decide +kernel⟩, rfl, rfl, F.bindsN fun _ _ _ _ _ _ us hl => match us, hl with | [_, _], _ => rfl, chk_is_place_of, fun q => nomatch q⟩⟩
theorem def_are_rows (c : He.SaysD dfa dfn K) (TB : ∀ p ∈ dtf, LamX.TabB base mg (He.cT K p).1 (He.cT K p).2) : ∃ fd, DefOk (ck []) (lk K w) K mg base 66 F_are_rows "are_rows" "are_rows" (defArgs (top 12)) (defBody (top 12)) (defScope (top 12)) N_are_rows [("value" : Str)] false fd := by
  obtain ⟨fd, F⟩ := c.def_ 4 (d := d_are_rows) rfl
  exact ⟨fd, ⟨⟨_, F⟩, ⟨by kernel_rfl, by kernel_rfl, by kernel_rfl, by decide +kernel, by kernel_rfl, by decide +kernel, by decide +kernel⟩, rfl, rfl, F.bindsN fun _ _ _ _ _ _ us hl => match us, hl with | [_], _ => rfl, chk_are_rows, fun q => nomatch q⟩⟩
theorem def_is_border (c : He.SaysD dfa dfn K) (TB : ∀ p ∈ dtf, LamX.TabB base mg (He.cT K p).1 (He.cT K p).2) : ∃ fd, DefOk (ck []) (lk K w) K mg base 69 F_is_border "is_border" "is_border" (defArgs (top 13)) (defBody (top 13)) (defScope (top 13)) N_is_border [("rows" : Str), ("place" : Str)] false fd := by
  obtain ⟨fd, F⟩ := c.def_ 5 (d := d_is_border) rfl
  exact ⟨fd, ⟨⟨_, F⟩, ⟨by kernel_rfl, by kernel_rfl, by kernel_rfl, by decide +kernel, by kernel_rfl, by decide +kernel, by decide +kernel⟩, rfl, rfl, F.bindsN fun _ _ _ _ _ _ us hl => match us, hl with | [_, _], _ => rfl, chk_is_border, fun q => nomatch q⟩⟩
theorem def_is_ground (c : He.SaysD dfa dfn K) (TB : ∀ p ∈ dtf, LamX.TabB base mg (He.cT K p).1 (He.cT K p).2) : ∃ fd, DefOk (ck []) (lk K w) K mg base 70 F_is_ground "is_ground" "is_ground" (defArgs (top 14)) (defBody (top 14)) (defScope (top 14)) N_is_ground [("value" : Str)] false fd := by
  obtain ⟨fd, F⟩ := c.def_ 6 (d := d_is_ground) rfl
  exact ⟨fd, ⟨⟨_, F⟩, ⟨by kernel_rfl, by kernel_rfl, by kernel_rfl, by decide +kernel, by kernel_rfl, by decide +kernel, by decide +kernel⟩, rfl, rfl, F.bindsN fun _ _ _ _ _ _ us hl => match us, hl with | [_], _ => rfl, chk_is_ground, fun q => nomatch q⟩⟩
theorem def_need_ground (c : He.SaysD dfa dfn K) (TB : ∀ p ∈ dtf, LamX.TabB base mg (He.cT K p).1 (He.cT K p).2) : ∃ fd, DefOk (ck []) (lk K w) K mg base 75 F_need_ground "need_ground" "need_ground" (defArgs (top 15)) (defBody (top 15)) (defScope (top 15)) N_need_ground [("ground" : Str)] false fd := by
  obtain ⟨fd, F⟩ := c.def_ 7 (d := d_need_ground) rfl
  exact ⟨fd, ⟨⟨_, F⟩, ⟨by kernel_rfl, by kernel_rfl, by kernel_rfl, by decide +kernel, by kernel_rfl, by decide +kernel, by decide +kernel⟩, rfl, rfl, F.bindsN fun _ _ _ _ _ _ us hl => match us, hl with | [_], _ => rfl, chk_need_ground, fun q => nomatch q⟩⟩
theorem def_places_with (c : He.SaysD dfa dfn K) (TB : ∀ p ∈ dtf, LamX.TabB base mg (He.cT K p).1 (He.cT K p).2) : ∃ fd, DefOk (ck []) (lk K w) K mg base 74 F_places_with "places_with" "places_with" (defArgs (top 16)) (defBody (top 16)) (defScope (top 16)) N_places_with [("ground" : Str), ("what" : Str)] false fd := by
  obtain ⟨fd, F⟩ := c.def_ 8 (d := d_places_with) rfl
  exact ⟨fd, ⟨⟨_, F⟩, ⟨by kernel_rfl, by kernel_rfl, by kernel_rfl, by decide +kernel, by kernel_rfl, by decide +kernel, by decide +kernel⟩, rfl, rfl, F.bindsN fun _ _ _ _ _ _ us hl => match us, hl with | [_, _], _ => rfl, chk_places_with, fun q => nomatch q⟩⟩
theorem def_beside (c : He.SaysD dfa dfn K) (TB : ∀ p ∈ dtf, LamX.TabB base mg (He.cT K p).1 (He.cT K p).2) : ∃ fd, DefOk (ck []) (lk K w) K mg base 71 F_beside "beside" "beside" (defArgs (top 17)) (defBody (top 17)) (defScope (top 17)) N_beside [("ground" : Str), ("place" : Str)] false fd := by
  obtain ⟨fd, F⟩ := c.def_ 9 (d := d_beside) rfl
  exact ⟨fd, ⟨⟨_, F⟩, ⟨by kernel_rfl, by kernel_rfl, by kernel_rfl, by decide +kernel, by kernel_rfl, by decide +kernel, by decide +kernel⟩, rfl, rfl, F.bindsN fun _ _ _ _ _ _ us hl => match us, hl with | [_, _], _ => rfl, chk_beside, fun q => nomatch q⟩⟩
theorem def_spread (c : He.SaysD dfa dfn K) (TB : ∀ p ∈ dtf, LamX.TabB base mg (He.cT K p).1 (He.cT K p).2) : ∃ fd, DefOk (ck []) (lk K w) K mg base 72 F_spread "spread" "spread" (defArgs (top 18)) (defBody (top 18)) (defScope (top 18)) N_spread [("ground" : Str), ("starts" : Str), ("passes" : Str)] false fd := by
  obtain ⟨fd, F⟩ := c.def_ 10 (d := d_spread) rfl
  exact ⟨fd, ⟨⟨_, F⟩, ⟨by kernel_rfl, by kernel_rfl, by kernel_rfl, by decide +kernel, by kernel_rfl, by decide +kernel, by decide +kernel⟩, rfl, rfl, F.bindsN fun _ _ _ _ _ _ us hl => match us, hl with | [_, _, _], _ => rfl, chk_spread, fun q => nomatch q⟩⟩
theorem def_as_set (c : He.SaysD dfa dfn K) (TB : ∀ p ∈ dtf, LamX.TabB base mg (He.cT K p).1 (He.cT K p).2) : ∃ fd, DefOk (ck []) (lk K w) K mg base 73 F_as_set "as_set" "as_set" (defArgs (top 19)) (defBody (top 19)) (defScope (top 19)) N_as_set [("places" : Str)] false fd := by
  obtain ⟨fd, F⟩ := c.def_ 11 (d := d_as_set) rfl
  exact ⟨fd, ⟨⟨_, F⟩, ⟨by kernel_rfl, by kernel_rfl, by kernel_rfl, by decide +kernel, by kernel_rfl, by decide +kernel, by decide +kernel⟩, rfl, rfl, F.bindsN fun _ _ _ _ _ _ us hl => match us, hl with | [_], _ => rfl, chk_as_set, fun q => nomatch q⟩⟩
theorem def_reached_places (c : He.SaysD dfa dfn K) (TB : ∀ p ∈ dtf, LamX.TabB base mg (He.cT K p).1 (He.cT K p).2) : ∃ fd, DefOk (ck []) (lk K w) K mg base 76 F_reached_places "reached_places" "reached_places" (defArgs (top 20)) (defBody (top 20)) (defScope (top 20)) N_reached_places [("ground" : Str)] false fd := by
  obtain ⟨fd, F⟩ := c.def_ 12 (d := d_reached_places) rfl
  exact ⟨fd, ⟨⟨_, F⟩, ⟨by kernel_rfl, by kernel_rfl, by kernel_rfl, by decide +kernel, by kernel_rfl, by decide +kernel, by decide +kernel⟩, rfl, rfl, F.bindsN fun _ _ _ _ _ _ us hl => match us, hl with | [_], _ => rfl, chk_reached_places, fun q => nomatch q⟩⟩
theorem def_narrow (c : He.SaysD dfa dfn K) (TB : ∀ p ∈ dtf, LamX.TabB base mg (He.cT K p).1 (He.cT K p).2) : ∃ fd, DefOk (ck []) (lk K w) K mg base 83 F_narrow "narrow" "narrow" (defArgs (top 22)) (defBody (top 22)) (defScope (top 22)) N_narrow [("ground" : Str)] false fd := by
  obtain ⟨fd, F⟩ := c.def_ 13 (d := d_narrow) rfl
  exact ⟨fd, ⟨⟨_, F⟩, ⟨by kernel_rfl, by kernel_rfl, by kernel_rfl, by decide +kernel, by kernel_rfl, by decide +kernel, by decide +kernel⟩, rfl, rfl, F.bindsN fun _ _ _ _ _ _ us hl => match us, hl with | [_], _ => rfl, chk_narrow, fun q => nomatch q⟩⟩
theorem def__law_pot (c : He.SaysD dfa dfn K) (TB : ∀ p ∈ dtf, LamX.TabB base mg (He.cT K p).1 (He.cT K p).2) : ∃ fd, DefOk (ck []) (lk K w) K mg base 11 F__law_pot "_law_pot" "_law_pot" (defArgs (top 24)) (defBody (top 24)) (defScope (top 24)) N__law_pot [("script" : Str)] false fd := by
  obtain ⟨fd, F⟩ := c.def_ 14 (d := d__law_pot) rfl
  exact ⟨fd, ⟨⟨_, F⟩, ⟨by kernel_rfl, by kernel_rfl, by kernel_rfl, by decide +kernel, by kernel_rfl, by decide +kernel, by decide +kernel⟩, rfl, rfl, F.bindsN fun _ _ _ _ _ _ us hl => match us, hl with | [_], _ => rfl, chk__law_pot, fun q => nomatch q⟩⟩
theorem def__law_draw (c : He.SaysD dfa dfn K) (TB : ∀ p ∈ dtf, LamX.TabB base mg (He.cT K p).1 (He.cT K p).2) : ∃ fd, DefOk (ck []) (lk K w) K mg base 6 F__law_draw "_law_draw" "_law_draw" (defArgs (top 25)) (defBody (top 25)) (defScope (top 25)) N__law_draw [("pot" : Str), ("many" : Str)] false fd := by
  obtain ⟨fd, F⟩ := c.def_ 15 (d := d__law_draw) rfl
  exact ⟨fd, ⟨⟨_, F⟩, ⟨by kernel_rfl, by kernel_rfl, by kernel_rfl, by decide +kernel, by kernel_rfl, by decide +kernel, by decide +kernel⟩, rfl, rfl, F.bindsN fun _ _ _ _ _ _ us hl => match us, hl with | [_, _], _ => rfl, chk__law_draw, fun q => nomatch q⟩⟩
theorem def__law_pick (c : He.SaysD dfa dfn K) (TB : ∀ p ∈ dtf, LamX.TabB base mg (He.cT K p).1 (He.cT K p).2) : ∃ fd, DefOk (ck []) (lk K w) K mg base 8 F__law_pick "_law_pick" "_law_pick" (defArgs (top 26)) (defBody (top 26)) (defScope (top 26)) N__law_pick [("pot" : Str), ("row" : Str)] false fd := by
  obtain ⟨fd, F⟩ := c.def_ 16 (d := d__law_pick) rfl
  exact ⟨fd, ⟨⟨_, F⟩, ⟨by kernel_rfl, by kernel_rfl, by kernel_rfl, by decide +kernel, by kernel_rfl, by decide +kernel, by decide +kernel⟩, rfl, rfl, F.bindsN fun _ _ _ _ _ _ us hl => match us, hl with | [_, _], _ => rfl, chk__law_pick, fun q => nomatch q⟩⟩
theorem def__law_same (c : He.SaysD dfa dfn K) (TB : ∀ p ∈ dtf, LamX.TabB base mg (He.cT K p).1 (He.cT K p).2) : ∃ fd, DefOk (ck []) (lk K w) K mg base 7 F__law_same "_law_same" "_law_same" (defArgs (top 27)) (defBody (top 27)) (defScope (top 27)) N__law_same [("found" : Str), ("due" : Str)] false fd := by
  obtain ⟨fd, F⟩ := c.def_ 17 (d := d__law_same) rfl
  exact ⟨fd, ⟨⟨_, F⟩, ⟨by kernel_rfl, by kernel_rfl, by kernel_rfl, by decide +kernel, by kernel_rfl, by decide +kernel, by decide +kernel⟩, rfl, rfl, F.bindsN fun _ _ _ _ _ _ us hl => match us, hl with | [_, _], _ => rfl, chk__law_same, fun q => nomatch q⟩⟩
theorem def__law_ground (c : He.SaysD dfa dfn K) (TB : ∀ p ∈ dtf, LamX.TabB base mg (He.cT K p).1 (He.cT K p).2) : ∃ fd, DefOk (ck []) (lk K w) K mg base 80 F__law_ground "_law_ground" "_law_ground" (defArgs (top 28)) (defBody (top 28)) (defScope (top 28)) N__law_ground [("pot" : Str), ("high" : Str), ("wide" : Str), ("some" : Str)] false fd := by
  obtain ⟨fd, F⟩ := c.def_ 18 (d := d__law_ground) rfl
  exact ⟨fd, ⟨⟨_, F⟩, ⟨by kernel_rfl, by kernel_rfl, by kernel_rfl, by decide +kernel, by kernel_rfl, by decide +kernel, by decide +kernel⟩, rfl, rfl, F.bindsN fun _ _ _ _ _ _ us hl => match us, hl with | [_, _, _, _], _ => rfl, chk__law_ground, fun q => nomatch q⟩⟩
theorem def__law_spots (c : He.SaysD dfa dfn K) (TB : ∀ p ∈ dtf, LamX.TabB base mg (He.cT K p).1 (He.cT K p).2) : ∃ fd, DefOk (ck []) (lk K w) K mg base 79 F__law_spots "_law_spots" "_law_spots" (defArgs (top 29)) (defBody (top 29)) (defScope (top 29)) N__law_spots [("ground" : Str), ("what" : Str)] false fd := by
  obtain ⟨fd, F⟩ := c.def_ 19 (d := d__law_spots) rfl
  exact ⟨fd, ⟨⟨_, F⟩, ⟨by kernel_rfl, by kernel_rfl, by kernel_rfl, by decide +kernel, by kernel_rfl, by decide +kernel, by decide +kernel⟩, rfl, rfl, F.bindsN fun _ _ _ _ _ _ us hl => match us, hl with | [_, _], _ => rfl, chk__law_spots, fun q => nomatch q⟩⟩
theorem def__law_beside (c : He.SaysD dfa dfn K) (TB : ∀ p ∈ dtf, LamX.TabB base mg (He.cT K p).1 (He.cT K p).2) : ∃ fd, DefOk (ck []) (lk K w) K mg base 77 F__law_beside "_law_beside" "_law_beside" (defArgs (top 30)) (defBody (top 30)) (defScope (top 30)) N__law_beside [("one" : Str), ("other" : Str)] false fd := by
  obtain ⟨fd, F⟩ := c.def_ 20 (d := d__law_beside) rfl
  exact ⟨fd, ⟨⟨_, F⟩, ⟨by kernel_rfl, by kernel_rfl, by kernel_rfl, by decide +kernel, by kernel_rfl, by decide +kernel, by decide +kernel⟩, rfl, rfl, F.bindsN fun _ _ _ _ _ _ us hl => match us, hl with | [_, _], _ => rfl, chk__law_beside, fun q => nomatch q⟩⟩
theorem def__law_flood (c : He.SaysD dfa dfn K) (TB : ∀ p ∈ dtf, LamX.TabB base mg (He.cT K p).1 (He.cT K p).2) : ∃ fd, DefOk (ck []) (lk K w) K mg base 78 F__law_flood "_law_flood" "_law_flood" (defArgs (top 31)) (defBody (top 31)) (defScope (top 31)) N__law_flood [("starts" : Str), ("passes" : Str)] false fd := by
  obtain ⟨fd, F⟩ := c.def_ 21 (d := d__law_flood) rfl
  exact ⟨fd, ⟨⟨_, F⟩, ⟨by kernel_rfl, by kernel_rfl, by kernel_rfl, by decide +kernel, by kernel_rfl, by decide +kernel, by decide +kernel⟩, rfl, rfl, F.bindsN fun _ _ _ _ _ _ us hl => match us, hl with | [_, _], _ => rfl, chk__law_flood, fun q => nomatch q⟩⟩
theorem def__law_reached (c : He.SaysD dfa dfn K) (TB : ∀ p ∈ dtf, LamX.TabB base mg (He.cT K p).1 (He.cT K p).2) : ∃ fd, DefOk (ck []) (lk K w) K mg base 81 F__law_reached "_law_reached" "_law_reached" (defArgs (top 32)) (defBody (top 32)) (defScope (top 32)) N__law_reached [("ground" : Str)] false fd := by
  obtain ⟨fd, F⟩ := c.def_ 22 (d := d__law_reached) rfl
  exact ⟨fd, ⟨⟨_, F⟩, ⟨by kernel_rfl, by kernel_rfl, by kernel_rfl, by decide +kernel, by kernel_rfl, by decide +kernel, by decide +kernel⟩, rfl, rfl, F.bindsN fun _ _ _ _ _ _ us hl => match us, hl with | [_], _ => rfl, chk__law_reached, fun q => nomatch q⟩⟩
theorem def__law_with (c : He.SaysD dfa dfn K) (TB : ∀ p ∈ dtf, LamX.TabB base mg (He.cT K p).1 (He.cT K p).2) : ∃ fd, DefOk (ck []) (lk K w) K mg base 82 F__law_with "_law_with" "_law_with" (defArgs (top 33)) (defBody (top 33)) (defScope (top 33)) N__law_with [("ground" : Str), ("place" : Str), ("what" : Str)] false fd := by
  obtain ⟨fd, F⟩ := c.def_ 23 (d := d__law_with) rfl
  exact ⟨fd, ⟨⟨_, F⟩, ⟨by kernel_rfl, by kernel_rfl, by kernel_rfl, by decide +kernel, by kernel_rfl, by decide +kernel, by decide +kernel⟩, rfl, rfl, F.bindsN fun _ _ _ _ _ _ us hl => match us, hl with | [_, _, _], _ => rfl, chk__law_with, fun q => nomatch q⟩⟩
theorem def_law (c : He.SaysD dfa dfn K) (TB : ∀ p ∈ dtf, LamX.TabB base mg (He.cT K p).1 (He.cT K p).2) : ∃ fd, DefOk (ck []) (lk K w) K mg base 85 F_law "law" "law" (defArgs (top 35)) (defBody (top 35)) (defScope (top 35)) N_law [("script" : Str)] true fd := by
  obtain ⟨fd, F⟩ := c.def_ 24 (d := d_law) rfl
  exact ⟨fd, ⟨⟨_, F⟩, ⟨by kernel_rfl, by kernel_rfl, by kernel_rfl, by decide +kernel, by kernel_rfl, by decide +kernel, by decide +kernel⟩, rfl, rfl, F.bindsN fun _ _ _ _ _ _ us hl => match us, hl with | [_], _ => rfl, chk_law, fun _ => lm_ok (L := lk K w) (f := 85) (kws := []) (p := (("law" : Str), none)) rfl F (TB _ (by decide +kernel)) (by simp [lk]; try decide +kernel) (fun q hq _ => by simp [lk] at hq; subst hq; rfl)⟩⟩
theorem defs_ok (c : He.SaysD dfa dfn K) (TB : ∀ p ∈ dtf, LamX.TabB base mg (He.cT K p).1 (He.cT K p).2) : ∀ f F, pg.fns f = some F → ∃ x qual params body scope N ps lam fd, DefOk (ck []) (lk K w) K mg base f F x qual params body scope N ps lam fd := by
  intro f F hf
  have hm := lookup_memN (show tbl.lookup f = some F from hf)
  simp only [tbl, List.mem_cons, Prod.mk.injEq, List.not_mem_nil, or_false] at hm
  rcases hm with ⟨rfl, rfl⟩ | ⟨rfl, rfl⟩ | ⟨rfl, rfl⟩ | ⟨rfl, rfl⟩ | ⟨rfl, rfl⟩ | ⟨rfl, rfl⟩ | ⟨rfl, rfl⟩ | ⟨rfl, rfl⟩ | ⟨rfl, rfl⟩ | ⟨rfl, rfl⟩ | ⟨rfl, rfl⟩ | ⟨rfl, rfl⟩ | ⟨rfl, rfl⟩ | ⟨rfl, rfl⟩ | ⟨rfl, rfl⟩ | ⟨rfl, rfl⟩ | ⟨rfl, rfl⟩ | ⟨rfl, rfl⟩ | ⟨rfl, rfl⟩ | ⟨rfl, rfl⟩ | ⟨rfl, rfl⟩ | ⟨rfl, rfl⟩ | ⟨rfl, rfl⟩ | ⟨rfl, rfl⟩ | ⟨rfl, rfl⟩
  · obtain ⟨fd, d⟩ := def_is_number (w := w) c TB
    exact ⟨_, _, _, _, _, _, _, _, fd, d⟩
  · obtain ⟨fd, d⟩ := def_is_row (w := w) c TB
    exact ⟨_, _, _, _, _, _, _, _, fd, d⟩
  · obtain ⟨fd, d⟩ := def_do_rise (w := w) c TB
    exact ⟨_, _, _, _, _, _, _, _, fd, d⟩
  · obtain ⟨fd, d⟩ := def_is_place_of (w := w) c TB
    exact ⟨_, _, _, _, _, _, _, _, fd, d⟩
  · obtain ⟨fd, d⟩ := def_are_rows (w := w) c TB
    exact ⟨_, _, _, _, _, _, _, _, fd, d⟩
  · obtain ⟨fd, d⟩ := def_is_border (w := w) c TB
    exact ⟨_, _, _, _, _, _, _, _, fd, d⟩
  · obtain ⟨fd, d⟩ := def_is_ground (w := w) c TB
    exact ⟨_, _, _, _, _, _, _, _, fd, d⟩
  · obtain ⟨fd, d⟩ := def_need_ground (w := w) c TB
    exact ⟨_, _, _, _, _, _, _, _, fd, d⟩
  · obtain ⟨fd, d⟩ := def_places_with (w := w) c TB
    exact ⟨_, _, _, _, _, _, _, _, fd, d⟩
  · obtain ⟨fd, d⟩ := def_beside (w := w) c TB
    exact ⟨_, _, _, _, _, _, _, _, fd, d⟩
  · obtain ⟨fd, d⟩ := def_spread (w := w) c TB
    exact ⟨_, _, _, _, _, _, _, _, fd, d⟩
  · obtain ⟨fd, d⟩ := def_as_set (w := w) c TB
    exact ⟨_, _, _, _, _, _, _, _, fd, d⟩
  · obtain ⟨fd, d⟩ := def_reached_places (w := w) c TB
    exact ⟨_, _, _, _, _, _, _, _, fd, d⟩
  · obtain ⟨fd, d⟩ := def_narrow (w := w) c TB
    exact ⟨_, _, _, _, _, _, _, _, fd, d⟩
  · obtain ⟨fd, d⟩ := def__law_pot (w := w) c TB
    exact ⟨_, _, _, _, _, _, _, _, fd, d⟩
  · obtain ⟨fd, d⟩ := def__law_draw (w := w) c TB
    exact ⟨_, _, _, _, _, _, _, _, fd, d⟩
  · obtain ⟨fd, d⟩ := def__law_pick (w := w) c TB
    exact ⟨_, _, _, _, _, _, _, _, fd, d⟩
  · obtain ⟨fd, d⟩ := def__law_same (w := w) c TB
    exact ⟨_, _, _, _, _, _, _, _, fd, d⟩
  · obtain ⟨fd, d⟩ := def__law_ground (w := w) c TB
    exact ⟨_, _, _, _, _, _, _, _, fd, d⟩
  · obtain ⟨fd, d⟩ := def__law_spots (w := w) c TB
    exact ⟨_, _, _, _, _, _, _, _, fd, d⟩
  · obtain ⟨fd, d⟩ := def__law_beside (w := w) c TB
    exact ⟨_, _, _, _, _, _, _, _, fd, d⟩
  · obtain ⟨fd, d⟩ := def__law_flood (w := w) c TB
    exact ⟨_, _, _, _, _, _, _, _, fd, d⟩
  · obtain ⟨fd, d⟩ := def__law_reached (w := w) c TB
    exact ⟨_, _, _, _, _, _, _, _, fd, d⟩
  · obtain ⟨fd, d⟩ := def__law_with (w := w) c TB
    exact ⟨_, _, _, _, _, _, _, _, fd, d⟩
  · obtain ⟨fd, d⟩ := def_law (w := w) c TB
    exact ⟨_, _, _, _, _, _, _, _, fd, d⟩
end
theorem dhk (K : PySem.W.Frag) (w : World) : ∀ Y : Cx, Y.K = (lk K w).K → Y.w = (lk K w).w → Y.calm = true → Room 0 Y.A → DH (lk K w) Y := fun Y e1 e2 e3 e4 => dh_all e1 e2 e3 (by have := e4.un; omega)
theorem holds (law : ∀ ns : List Int, ns.length ≤ 63 → ∃ T, Sr.run pg 40 85 [(.sh, .scr ns)] [] = .ok (.bl true, false) T) : PySem.Challenge.rw_stallrows_k06_narrow_places.Holds := by
  w_on; o_law
  refine HandSHeadRun.head_any (r := PySem.W.OpenLaw.row PySem.Challenge.rw_stallrows_k06_narrow_places) (q := PySem.W.view (PySem.W.OpenLaw.row PySem.Challenge.rw_stallrows_k06_narrow_places).prog [35]) (H := hk) (ob := ob) (M := 4000) (loose := names) (d := HandSHeadRun.topDef (PySem.W.OpenLaw.row PySem.Challenge.rw_stallrows_k06_narrow_places).prog 35) (kwd := []) ob_eq (by kernel_rfl) (fun s => by kernel_rfl) run (by kernel_rfl) (by kernel_rfl) (by kernel_rfl) (by rfl) (by first | assumption | decide +kernel) (by decide +kernel) ⟨rfl, rfl, rfl, rfl, rfl, by decide +kernel⟩ ?hw ?hc
  case hw => w_witness2
  case hc =>
    refine LamX.walk_ofTsE (l := PySem.Challenge.rw_stallrows_k06_narrow_places) (n := 63) (k := 120) (x := "script") (CX := fun w => L2.CX (PySem.Challenge.rw_stallrows_k06_narrow_places).prog w) rfl (by decide) (by kernel_rfl) ⟨rfl, by decide, by decide⟩ ?F (fun w H s e s' z => ?_)
    · intro w mg fa h Y G hmg0
      obtain ⟨K, KX, c⟩ := Y
      have hmg : mg ("law" : PySem.Str) = some (.ref fa) := by
        have e : (HandSHeadRun.topDef (PySem.W.OpenLaw.row PySem.Challenge.rw_stallrows_k06_narrow_places).prog 35).name = ("law" : PySem.Str) := by kernel_rfl
        rw [← e]
        exact hmg0
      have cd : He.SaysD dfa dfn K := He.SaysT.d c.t
      have e := hmg.symm.trans (He.glo_ok KX G (cd.fact 24 (f := .glo "law") rfl))
      cases e
      obtain ⟨fd, FD⟩ := cd.def_ 24 (d := d_law) rfl
      refine ⟨K, KX, fd, dtf.map (He.cT K), spC (lk K w) (Sr.run pg 40) 1 85, fun p hp => ?_, fun p hp => ?_, fun p hp => ?_, fun s u => (FD.bindsA (ps := ["script"]) fun _ _ _ _ _ _ us hl => match us, hl with | [_], _ => rfl) s [u] rfl, fun H a ns hl _ hT hS => ?_, fun base KB GB TB => ?_⟩
      · obtain ⟨q, hq, rfl⟩ := List.mem_map.mp hp
        exact c.empty q hq
      · obtain ⟨q, hq, rfl⟩ := List.mem_map.mp hp
        exact c.out q hq
      · obtain ⟨q, hq, rfl⟩ := List.mem_map.mp hp
        exact PySem.W.codeHd_of_K KX (c.hd q hq)
      · obtain ⟨T, e⟩ := law ns hl
        refine law_sp (fun p hp => ?_) hS e
        have hp : p ∈ (lk K w).tl := hp
        simp only [lk, List.mem_cons, List.not_mem_nil, or_false] at hp
        subst hp
        · exact LamX.TabS.nil (hT _ (List.mem_map.mpr ⟨_, by simp [dtf], rfl⟩))
      · have TB2 : ∀ p ∈ dtf, LamX.TabB base mg (He.cT K p).1 (He.cT K p).2 := fun p hp => TB _ (List.mem_map.mpr ⟨p, hp, rfl⟩)
        obtain ⟨fd2, d⟩ := def_law (w := w) cd TB2
        obtain ⟨kws2, FD2⟩ := id d.fn
        have efd := funD_uniq FD FD2
        subst efd
        exact fn_step (C := ck []) (l := 39) (prog := (PySem.Challenge.rw_stallrows_k06_narrow_places).prog) (w := w) rfl rfl (gl_ok KX G cd) (ex_ok cd) (dhk K w) (fns_at (C := ck []) rfl rfl (gl_ok KX G cd) (ex_ok cd) (dhk K w) (defs_ok cd TB2) 39) rfl d
    · obtain ⟨_, _, _, _, _, _, _, _, _, _, _, _, q⟩ := z
      exact q
end K06
end

section
set_option autoImplicit false
set_option linter.all false
set_option Elab.async false
/-! P0: the evaluator, unrolled. -/
namespace Sr.Pl
theorem eqI {α : Sort _} {a b : α} (h : a = b) : a = b := h
@[simp] theorem trimT_le {n : Nat} {d : D} {T : List Nd} (h : T.length ≤ n) : trimT n d T = T := by
  unfold trimT
  split
  · exact List.take_of_length_le h
  · rfl
@[simp] theorem bindM {α β : Type} (x : Mo α) (f : α → Mo β) (T : List Nd) : (x >>= f) T = (x T).bind f := eqI rfl
@[simp] theorem bindM' {α β : Type} (x : Mo α) (f : α → Mo β) (T : List Nd) : (Mo.bind x f) T = (x T).bind f := eqI rfl
@[simp] theorem pureM {α : Type} (a : α) (T : List Nd) : (pure a : Mo α) T = .ok a T := eqI rfl
@[simp] theorem retM {α : Type} (a : α) (T : List Nd) : (Mo.ret a : Mo α) T = .ok a T := eqI rfl
@[simp] theorem bindOk {α β : Type} (a : α) (T : List Nd) (f : α → Mo β) : (R.ok a T).bind f = f a T := eqI rfl
@[simp] theorem bindEx {α β : Type} (c : Nat) (fs : List D) (T : List Nd) (f : α → Mo β) : (R.ex c fs T : R α).bind f = .ex c fs T := eqI rfl
@[simp] theorem fstM (x : Mo (D × Bool)) (T : List Nd) : x.fst T = fstR (x T) := eqI rfl
@[simp] theorem ofO_some {α : Type} (a : α) (T : List Nd) : ofO (some a) T = .ok a T := eqI rfl
@[simp] theorem bol_bl (b : Bool) (T : List Nd) : bol (.bl b) T = .ok b T := eqI rfl
@[simp] theorem thenR_ok {α : Type} (env : Env) (a : α) (T : List Nd) (f : α → List Nd → RS) : thenR env (.ok a T) f = f a T := eqI rfl
@[simp] theorem thenR_ex {α : Type} (env : Env) (c : Nat) (fs : List D) (T : List Nd) (f : α → List Nd → RS) : thenR env (.ex c fs T) f = .ex c fs env T := eqI rfl
@[simp] theorem fstR_ok (a : D × Bool) (T : List Nd) : fstR (.ok a T) = .ok a.1 T := eqI rfl
@[simp] theorem fstR_ex (c : Nat) (fs : List D) (T : List Nd) : fstR (.ex c fs T) = .ex c fs T := eqI rfl
@[simp] theorem ite_mo {α : Type} (c : Prop) [Decidable c] (f g : Mo α) (T : List Nd) : (if c then f else g) T = if c then f T else g T := by split <;> rfl
theorem ite_app {α β : Type} (c : Prop) [Decidable c] (f g : α → β) (x : α) : (if c then f else g) x = if c then f x else g x := by split <;> rfl
theorem ndec (i j : Int) : (!decide (i < j)) = decide (j ≤ i) := by
  by_cases h : i < j
  · rw [decide_eq_true h, decide_eq_false (by omega)]; rfl
  · rw [decide_eq_false h, decide_eq_true (by omega)]; rfl
theorem beq_dec (i j : Int) : (i == j) = decide (i = j) := by
  by_cases h : i = j
  · rw [decide_eq_true h]; simp [h]
  · rw [decide_eq_false h]; simp [h]
@[simp] theorem cmp_le (i j : Int) : cmpop .le (.int i) (.int j) = some (decide (i ≤ j)) := by
  show (if (true && true && true && decide (min 0 0 ≤ 64)) = true then some (!decide (j < i)) else none) = _
  rw [if_pos (by decide)]
  try rw [ndec]
@[simp] theorem cmp_ge (i j : Int) : cmpop .ge (.int i) (.int j) = some (decide (i ≥ j)) := by
  show (if (true && true && true && decide (min 0 0 ≤ 64)) = true then some (!decide (i < j)) else none) = _
  rw [if_pos (by decide)]
  try rw [ndec]
@[simp] theorem cmp_lt (i j : Int) : cmpop .lt (.int i) (.int j) = some (decide (i < j)) := by
  show (if (true && true && true && decide (min 0 0 ≤ 64)) = true then some (decide (i < j)) else none) = _
  rw [if_pos (by decide)]
  try rw [ndec]
@[simp] theorem cmp_gt (i j : Int) : cmpop .gt (.int i) (.int j) = some (decide (i > j)) := by
  show (if (true && true && true && decide (min 0 0 ≤ 64)) = true then some (decide (j < i)) else none) = _
  rw [if_pos (by decide)]
  try rw [ndec]
@[simp] theorem cmp_eqi (i j : Int) : cmpop .eq (.int i) (.int j) = some (decide (i = j)) := by
  show (if (true && true && decide (min 0 0 ≤ 64)) = true then some (i == j) else none) = _
  rw [if_pos (by decide), beq_dec]
  try rw [decide_not]
@[simp] theorem cmp_nei (i j : Int) : cmpop .ne (.int i) (.int j) = some (decide (i ≠ j)) := by
  show (if (true && true && decide (min 0 0 ≤ 64)) = true then some (!(i == j)) else none) = _
  rw [if_pos (by decide), beq_dec]
  try rw [decide_not]
@[simp] theorem op_add (i j : Int) : binop .add (.int i) (.int j) = some (.int (i + j), false) := eqI rfl
@[simp] theorem op_sub (i j : Int) : binop .sub (.int i) (.int j) = some (.int (i - j), false) := eqI rfl

/-- what follows a statement -/
def _root_.Sr.RS.go (r : RS) (f : Env → List Nd → RS) : RS :=
  match r with
  | .nx e T => f e T
  | r => r
@[simp] theorem go_nx (e : Env) (T : List Nd) (f : Env → List Nd → RS) : (RS.nx e T).go f = f e T := eqI rfl
@[simp] theorem go_bk (e : Env) (T : List Nd) (f : Env → List Nd → RS) : (RS.bk e T).go f = .bk e T := eqI rfl
@[simp] theorem go_rt (d : D) (b : Bool) (T : List Nd) (f : Env → List Nd → RS) : (RS.rt d b T).go f = .rt d b T := eqI rfl
@[simp] theorem go_ex (c : Nat) (fs : List D) (e : Env) (T : List Nd) (f : Env → List Nd → RS) : (RS.ex c fs e T).go f = .ex c fs e T := eqI rfl
/-! one step of each expression and statement (but comprehensions and loops) -/
section
variable (P : Pg) (call : Nat → List (Md × D) → Mo (D × Bool)) (env : Env) (T : List Nd)
@[simp] theorem ev_var (i : Nat) : ev P call (.var i) env T = (env.look i T).bind fun d => Mo.ret (d, false) := by rw [ev] <;> rfl
@[simp] theorem ev_cst (d : D) : ev P call (.cst d) env T = .ok (d, false) T := by rw [ev] <;> rfl
@[simp] theorem ev_gcst (c : Nat) : ev P call (.gcst c) env T = .ok (P.con c, false) T := by rw [ev] <;> rfl
@[simp] theorem ev_fnv (f : Nat) : ev P call (.fnv f) env T = .ok (.fn f, false) T := by rw [ev] <;> rfl
@[simp] theorem ev_tup (es : List M) : ev P call (.tup es) env T = (evs P call es env T).bind fun ds => Mo.ret (.tup ds, false) := by rw [ev] <;> rfl
@[simp] theorem ev_lst (es : List M) : ev P call (.lst es) env T = (evs P call es env T).bind fun ds => Mo.ret (.lst ds, true) := by rw [ev] <;> rfl
@[simp] theorem ev_op2 (o : O2) (a b : M) : ev P call (.op2 o a b) env T = (opd env a (ev P call a env) T).bind fun x => Mo.bind (opd env b (ev P call b env)) fun y => ofO (binop o x y) := by rw [ev] <;> rfl
@[simp] theorem ev_cmp (o : CO) (a b : M) : ev P call (.cmp o a b) env T = (opd env a (ev P call a env) T).bind fun x => Mo.bind (opd env b (ev P call b env)) fun y => Mo.bind (ofO (cmpop o x y)) fun k => Mo.ret (.bl k, false) := by rw [ev] <;> rfl
@[simp] theorem ev_and (a b : M) : ev P call (.and a b) env T = (opd env a (ev P call a env) T).bind fun x => Mo.bind (bol x) fun k => if k then ev P call b env else Mo.ret (.bl false, false) := by rw [ev] <;> rfl
@[simp] theorem ev_or (a b : M) : ev P call (.or a b) env T = (opd env a (ev P call a env) T).bind fun x => Mo.bind (bol x) fun k => if k then Mo.ret (.bl true, false) else ev P call b env := by rw [ev] <;> rfl
@[simp] theorem ev_not (a : M) : ev P call (.not a) env T = (opd env a (ev P call a env) T).bind fun x => Mo.bind (bol x) fun k => Mo.ret (.bl (!k), false) := by rw [ev] <;> rfl
@[simp] theorem ev_ite (c a b : M) : ev P call (.ite c a b) env T = (opd env c (ev P call c env) T).bind fun x => Mo.bind (bol x) fun k => if k then ev P call a env else ev P call b env := by rw [ev] <;> rfl
@[simp] theorem ev_idx (a i : M) : ev P call (.idx a i) env T = (opd env a (ev P call a env) T).bind fun x => Mo.bind (opd env i (ev P call i env)) fun y => Mo.bind (deref x) fun x => Mo.bind (ofO (idxop x y)) fun d => Mo.ret (d, false) := by rw [ev] <;> rfl
@[simp] theorem ev_slc (a lo hi : M) : ev P call (.slc a lo hi) env T = (opd env a (ev P call a env) T).bind fun x => Mo.bind (optI env lo (ev P call lo env)) fun l => Mo.bind (optI env hi (ev P call hi env)) fun h => ofO (slop x l h) := by rw [ev] <;> rfl
@[simp] theorem ev_rev (a : M) : ev P call (.rev a) env T = (opd env a (ev P call a env) T).bind fun x => ofO (revop x) := by rw [ev] <;> rfl
@[simp] theorem ev_call (f : Nat) (es : List M) : ev P call (.call f es) env T = (evo P call es env T).bind fun ds => call f ((es.map (M.mode env)).zip ds) := by rw [ev] <;> rfl
@[simp] theorem ev_bi (b : BI) (es : List M) : ev P call (.bi b es) env T = (evo P call es env T).bind fun ds => Mo.bind (derefs ds) fun ds => ofO (bip b ds) := by rw [ev] <;> rfl
@[simp] theorem ev_neg (i : Int) : ev P call (.neg (.cst (.int i))) env T = .ok (.int (-i), false) T := by rw [ev]; simp [opd]
@[simp] theorem evs_nil : evs P call [] env T = .ok [] T := by rw [evs] <;> rfl
@[simp] theorem evs_cons (m : M) (ms : List M) : evs P call (m :: ms) env T = (ev P call m env T).bind fun r => Mo.bind (evs P call ms env) fun ds => Mo.ret (r.1 :: ds) := by rw [evs] <;> rfl
@[simp] theorem evo_nil : evo P call [] env T = .ok [] T := by rw [evo] <;> rfl
@[simp] theorem evo_cons (m : M) (ms : List M) : evo P call (m :: ms) env T = (opd env m (ev P call m env) T).bind fun d => Mo.bind (evo P call ms env) fun ds => Mo.ret (d :: ds) := by rw [evo] <;> rfl
@[simp] theorem evc_nil : evc P call [] env T = .ok true T := by rw [evc] <;> rfl
@[simp] theorem evc_cons (m : M) (ms : List M) : evc P call (m :: ms) env T = (opd env m (ev P call m env) T).bind fun d => bol d := by rw [evc] <;> rfl
@[simp] theorem derefs_nil : derefs [] T = .ok [] T := eqI rfl
@[simp] theorem derefs_cons (d : D) (ds : List D) : derefs (d :: ds) T = (deref d T).bind fun d => Mo.bind (derefs ds) fun ds => Mo.ret (d :: ds) := eqI rfl
@[simp] theorem opd_var (i : Nat) (x : Mo (D × Bool)) : opd env (.var i) x T = env.lookAny i T := eqI rfl
@[simp] theorem opd_cst (d : D) (x : Mo (D × Bool)) : opd env (.cst d) x T = fstR (x T) := eqI rfl
@[simp] theorem opd_gcst (c : Nat) (x : Mo (D × Bool)) : opd env (.gcst c) x T = fstR (x T) := eqI rfl
@[simp] theorem opd_fnv (c : Nat) (x : Mo (D × Bool)) : opd env (.fnv c) x T = fstR (x T) := eqI rfl
@[simp] theorem opd_tup (es : List M) (x : Mo (D × Bool)) : opd env (.tup es) x T = fstR (x T) := eqI rfl
@[simp] theorem opd_lst (es : List M) (x : Mo (D × Bool)) : opd env (.lst es) x T = fstR (x T) := eqI rfl
@[simp] theorem opd_op2 (o : O2) (a b : M) (x : Mo (D × Bool)) : opd env (.op2 o a b) x T = fstR (x T) := eqI rfl
@[simp] theorem opd_neg (a : M) (x : Mo (D × Bool)) : opd env (.neg a) x T = fstR (x T) := eqI rfl
@[simp] theorem opd_cmp (o : CO) (a b : M) (x : Mo (D × Bool)) : opd env (.cmp o a b) x T = fstR (x T) := eqI rfl
@[simp] theorem opd_chn (o p : CO) (a b c : M) (x : Mo (D × Bool)) : opd env (.chn o p a b c) x T = fstR (x T) := eqI rfl
@[simp] theorem opd_and (a b : M) (x : Mo (D × Bool)) : opd env (.and a b) x T = fstR (x T) := eqI rfl
@[simp] theorem opd_or (a b : M) (x : Mo (D × Bool)) : opd env (.or a b) x T = fstR (x T) := eqI rfl
@[simp] theorem opd_not (a : M) (x : Mo (D × Bool)) : opd env (.not a) x T = fstR (x T) := eqI rfl
@[simp] theorem opd_ite (c a b : M) (x : Mo (D × Bool)) : opd env (.ite c a b) x T = fstR (x T) := eqI rfl
@[simp] theorem opd_idx (a b : M) (x : Mo (D × Bool)) : opd env (.idx a b) x T = fstR (x T) := eqI rfl
@[simp] theorem opd_slc (a b c : M) (x : Mo (D × Bool)) : opd env (.slc a b c) x T = fstR (x T) := eqI rfl
@[simp] theorem opd_rev (a : M) (x : Mo (D × Bool)) : opd env (.rev a) x T = fstR (x T) := eqI rfl
@[simp] theorem opd_call (f : Nat) (es : List M) (x : Mo (D × Bool)) : opd env (.call f es) x T = fstR (x T) := eqI rfl
@[simp] theorem opd_callv (f : Nat) (es : List M) (x : Mo (D × Bool)) : opd env (.callv f es) x T = fstR (x T) := eqI rfl
@[simp] theorem opd_bi (b : BI) (es : List M) (x : Mo (D × Bool)) : opd env (.bi b es) x T = fstR (x T) := eqI rfl
@[simp] theorem opd_mt (m : MT) (a : M) (es : List M) (x : Mo (D × Bool)) : opd env (.mt m a es) x T = fstR (x T) := eqI rfl
@[simp] theorem opd_comp (e : M) (tg : Tg) (k : Nat) (it c : List M) (x : Mo (D × Bool)) : opd env (.comp e tg k it c) x T = fstR (x T) := eqI rfl
@[simp] theorem opd_lam (f : Nat) (b : M) (z : PySem.Str) (x : Mo (D × Bool)) : opd env (.lam f b z) x T = fstR (x T) := eqI rfl
@[simp] theorem opd_new (a : M) (x : Mo (D × Bool)) : opd env (.new a) x T = fstR (x T) := eqI rfl
@[simp] theorem opt_nil (x : Mo (D × Bool)) : optI env .nil x T = .ok none T := eqI rfl
theorem opt_int {m : M} {x : Mo (D × Bool)} {i : Int} {T' : List Nd} (hm : m ≠ .nil) (h : opd env m x T = .ok (.int i) T') (hs : smallI i = true) : optI env m x T = .ok (some i) T' := by
  have e : optI env m x T = (opd env m x T).bind fun d => match d with
    | .int i => if smallI i then Mo.ret (some i) else stuck
    | _ => stuck := by cases m <;> first | rfl | exact absurd rfl hm
  rw [e, h]
  show (if smallI i then Mo.ret (some i) else stuck) T' = _
  rw [if_pos hs]
@[simp] theorem execs_nil : execs P call [] env T = .nx env T := by rw [execs] <;> rfl
@[simp] theorem execs_cons (s : S) (ss : List S) : execs P call (s :: ss) env T = (exec P call s env T).go (execs P call ss) := by rw [execs] <;> rfl
@[simp] theorem exec_asg (tg : Tg) (e : M) : exec P call (.asg tg e) env T = thenR env (ev P call e env T) fun r T1 => thenR env (env.target tg r.1 T1) fun e2 T2 => .nx e2 T2 := by rw [exec] <;> rfl
@[simp] theorem exec_asgO (i : Nat) (e : M) : exec P call (.asgO i e) env T = thenR env (ev P call e env T) fun r T1 => if r.2 then thenR env (env.put i (.ow, r.1) T1) fun e2 T2 => .nx e2 T2 else .no := by rw [exec] <;> rfl
@[simp] theorem exec_setI (o i e : M) : exec P call (.setI o i e) env T = thenR env (ev P call e env T) fun r T1 => thenR env (opd env o (ev P call o env) T1) fun x T2 => thenR env (opd env i (ev P call i env) T2) fun k T3 => updO env o x T3 fun d => setAt d k r.1 := by rw [exec] <;> rfl
@[simp] theorem exec_aug (p : O2) (i : Nat) (e : M) : exec P call (.aug p i e) env T = thenR env (env.look i T) fun x T1 => thenR env (opd env e (ev P call e env) T1) fun y T2 => thenR env (ofO (binop p x y) T2) fun z T3 =>
      match z.1 with
      | .int k => thenR env (env.put i (.sh, .int k) T3) fun e2 T4 => .nx e2 T4
      | _ => .no := by rw [exec] <;> rfl
@[simp] theorem exec_expr (e : M) : exec P call (.expr e) env T = thenR env (ev P call e env T) fun _ T1 => .nx env T1 := by rw [exec] <;> rfl
@[simp] theorem exec_app (o e : M) : exec P call (.app o e) env T = thenR env (opd env o (ev P call o env) T) fun x T1 => if (derefT T1 x).bind tyD != some .list then .no else thenR env (ev P call e env T1) fun r T2 => updO env o x T2 fun d => appD d r.1 := by rw [exec] <;> rfl
@[simp] theorem exec_ext (o e : M) : exec P call (.ext o e) env T = thenR env (opd env o (ev P call o env) T) fun x T1 => if (derefT T1 x).bind tyD != some .list then .no else thenR env (opd env e (ev P call e env) T1) fun r T2 => updO env o x T2 fun d => extD d r := by rw [exec] <;> rfl
@[simp] theorem exec_iff (c : M) (a b : List S) : exec P call (.iff c a b) env T = thenR env ((opd env c (ev P call c env) T).bind bol) fun k T1 => if k then execs P call a env T1 else execs P call b env T1 := by rw [exec] <;> rfl
@[simp] theorem exec_ret (e : M) : exec P call (.ret e) env T = thenR env (ev P call e env T) fun r T1 => .rt r.1 r.2 T1 := by rw [exec] <;> rfl
@[simp] theorem exec_retO (i : Nat) : exec P call (.retO i) env T = match env[i]? with
      | some (some (.ow, d)) => .rt d true T
      | _ => .no := by rw [exec] <;> rfl
@[simp] theorem exec_retN : exec P call .retN env T = .rt .non false T := by rw [exec] <;> rfl
@[simp] theorem exec_brk : exec P call .brk env T = .bk env T := by rw [exec] <;> rfl
@[simp] theorem exec_pass : exec P call .pass env T = .nx env T := by rw [exec] <;> rfl
@[simp] theorem exec_rse (c : Nat) (es : List M) : exec P call (.rse c es) env T = thenR env (evs P call es env T) fun ds T1 => .ex c ds env T1 := by rw [exec] <;> rfl
@[simp] theorem exec_frz (i : Nat) : exec P call (.frz i) env T = match env[i]? with
      | some (some (.ow, d)) => .nx (env.set i (some (.sh, d))) T
      | _ => .no := by rw [exec] <;> rfl
end
/-- a chain whose first test fails, or not -/
@[simp] theorem ev_chn (P : Pg) (call : Nat → List (Md × D) → Mo (D × Bool)) (env : Env) (T : List Nd) (o1 o2 : CO) (a b c : M) : ev P call (.chn o1 o2 a b c) env T = (opd env a (ev P call a env) T).bind fun x => Mo.bind (opd env b (ev P call b env)) fun y => Mo.bind (ofO (cmpop o1 x y)) fun k => if k then Mo.bind (opd env c (ev P call c env)) fun z => Mo.bind (ofO (cmpop o2 y z)) fun k => Mo.ret (.bl k, false) else Mo.ret (.bl false, false) := by rw [ev] <;> rfl
@[simp] theorem bindM2 {α β : Type} (x : Mo α) (f : α → Mo β) (T : List Nd) : Mo.bind x f T = (x T).bind f := eqI rfl
@[simp] theorem fin_rt (n : Nat) (d : D) (fr : Bool) (T : List Nd) : finish n (.rt d fr T) = .ok (d, fr) (trimT n d T) := eqI rfl
@[simp] theorem fin_nx (n : Nat) (env : Env) (T : List Nd) : finish n (.nx env T) = .ok (.non, false) (trimT n .non T) := eqI rfl
@[simp] theorem fin_ex (n : Nat) (c : Nat) (fs : List D) (env : Env) (T : List Nd) : finish n (.ex c fs env T) = .ex c fs (trimT n (.tup fs) T) := eqI rfl
end Sr.Pl
end

section
set_option autoImplicit false
set_option linter.all false
set_option Elab.async false
/-! Cm: the defs that most laws share, as core terms. -/
namespace Sr.Cm
open PySem
/-- is_number -/
def F_is_number : Fn := ⟨3, 3, [
  .ret (.and (.bi (.isinst [.int]) [.var 0]) (.and (.not (.bi (.isinst [.bool]) [.var 0])) (.chn .le .le (.var 1) (.var 0) (.var 2))))]⟩
/-- is_row -/
def F_is_row : Fn := ⟨5, 6, [
  .iff (.or (.not (.bi (.isinst [.tuple]) [.var 0])) (.not (.chn .le .le (.var 1) (.bi .len [.var 0]) (.var 2)))) [.ret (.cst (.bl false))] [],
  .ret (.bi .all [.comp (.call 0 [.var 5, .var 3, .var 4]) (.nm 5) 0 [.var 0] []])]⟩
/-- _law_pot -/
def F__law_pot : Fn := ⟨1, 2, [
  .ret (.lst [.comp (.bi .abs [.var 1]) (.nm 1) 0 [.slc (.var 0) (.nil) (.cst (.int 63))] [], .cst (.int 0), .cst (.int 20011), .cst (.int 0)])]⟩
/-- _law_draw -/
def F__law_draw : Fn := ⟨2, 4, [
  .iff (.cmp .lt (.var 1) (.cst (.int 2))) [.ret (.cst (.int 0))] [],
  .iff (.cmp .gt (.idx (.var 0) (.cst (.int 3))) (.cst (.int 0))) [.asg (.nm 3) (.op2 .mod (.bi .int [.idx (.var 0) (.cst (.int 3))]) (.var 1)), .setI (.var 0) (.cst (.int 3)) (.op2 .fdiv (.idx (.var 0) (.cst (.int 3))) (.var 1)), .ret (.var 3)] [],
  .asg (.nm 2) (.cst (.int 0)),
  .iff (.cmp .lt (.idx (.var 0) (.cst (.int 1))) (.bi .len [.idx (.var 0) (.cst (.int 0))])) [.asg (.nm 2) (.idx (.idx (.var 0) (.cst (.int 0))) (.idx (.var 0) (.cst (.int 1)))), .setI (.var 0) (.cst (.int 1)) (.op2 .add (.idx (.var 0) (.cst (.int 1))) (.cst (.int 1))), .iff (.cmp .ge (.var 2) (.op2 .pow (.cst (.int 10)) (.cst (.int 18)))) [.setI (.var 0) (.cst (.int 3)) (.op2 .fdiv (.var 2) (.var 1)), .ret (.op2 .mod (.bi .int [.var 2]) (.var 1))] []] [],
  .setI (.var 0) (.cst (.int 2)) (.op2 .mod (.bi .int [.op2 .add (.op2 .add (.op2 .mul (.idx (.var 0) (.cst (.int 2))) (.cst (.int 48271))) (.var 2)) (.cst (.int 12345))]) (.cst (.int 2147483647))),
  .ret (.op2 .mod (.bi .int [.op2 .add (.op2 .fdiv (.op2 .mul (.idx (.var 0) (.cst (.int 2))) (.idx (.var 0) (.cst (.int 2)))) (.cst (.int 64))) (.op2 .fdiv (.idx (.var 0) (.cst (.int 2))) (.cst (.int 7)))]) (.var 1))]⟩
/-- _law_pick -/
def F__law_pick : Fn := ⟨2, 2, [
  .ret (.idx (.var 1) (.call 6 [.var 0, .bi .len [.var 1]]))]⟩
/-- _law_same -/
def F__law_same : Fn := ⟨2, 3, [
  .iff (.or (.bi (.isinst [.tuple]) [.var 1]) (.bi (.isinst [.list]) [.var 1])) [.iff (.or (.cmp .ne (.bi (.isinst [.tuple]) [.var 1]) (.bi (.isinst [.tuple]) [.var 0])) (.cmp .ne (.bi (.isinst [.list]) [.var 1]) (.bi (.isinst [.list]) [.var 0]))) [.ret (.cst (.bl false))] [], .iff (.cmp .ne (.bi .len [.var 0]) (.bi .len [.var 1])) [.ret (.cst (.bl false))] [], .ret (.cmp .eq (.comp (.var 2) (.nm 2) 1 [.bi .len [.var 1]] [.not (.call 7 [.idx (.var 0) (.var 2), .idx (.var 1) (.var 2)])]) (.lst []))] [],
  .iff (.cmp .is (.var 1) (.cst .non)) [.ret (.cmp .is (.var 0) (.cst .non))] [],
  .iff (.bi (.isinst [.str]) [.var 1]) [.ret (.and (.bi (.isinst [.str]) [.var 0]) (.cmp .eq (.var 0) (.var 1)))] [],
  .ret (.and (.bi (.isinst [.int]) [.var 0]) (.and (.cmp .eq (.bi (.isinst [.bool]) [.var 0]) (.bi (.isinst [.bool]) [.var 1])) (.cmp .eq (.var 0) (.var 1))))]⟩
/-- _law_odd -/
def F__law_odd : Fn := ⟨2, 3, [
  .iff (.bi (.isinst [.int]) [.var 1]) [.ret (.call 8 [.var 0, .lst [.op2 .add (.var 1) (.cst (.int 1)), .op2 .sub (.var 1) (.cst (.int 1)), .cst (.int 10), .neg (.cst (.int 10)), .cst (.int 100), .cst (.bl true), .cst .non, .bi .str [.var 1], .tup [.var 1]]])] [],
  .iff (.bi (.isinst [.str]) [.var 1]) [.ret (.call 8 [.var 0, .lst [.op2 .add (.var 1) (.cst (.str "a")), .slc (.var 1) (.cst (.int 1)) (.nil), .cst (.str ""), .cst (.str "A"), .cst (.int 0), .cst .non, .tup [.var 1], .lst [.var 1], .cst (.str "abcdefghi")]])] [],
  .iff (.bi (.isinst [.tuple]) [.var 1]) [.asg (.nm 2) (.lst [.op2 .add (.var 1) (.slc (.var 1) (.neg (.cst (.int 1))) (.nil)), .slc (.var 1) (.cst (.int 1)) (.nil), .bi .list [.var 1], .tup [], .cst .non, .cst (.int 3), .cst (.str "x"), .tup [.var 1], .slc (.var 1) (.nil) (.neg (.cst (.int 1))), .op2 .add (.var 1) (.tup [.cst (.int 1)])]), .ret (.call 8 [.var 0, .var 2])] [],
  .ret (.call 8 [.var 0, .lst [.cst .non, .cst (.int 0), .cst (.str "ab"), .dic [] [], .cst (.bl true)]])]⟩
/-- _law_bent -/
def F__law_bent : Fn := ⟨3, 5, [
  .iff (.and (.bi (.isinst [.list, .tuple]) [.var 1]) (.and (.cmp .gt (.bi .len [.var 1]) (.cst (.int 0))) (.and (.cmp .gt (.var 2) (.cst (.int 0))) (.cmp .gt (.call 6 [.var 0, .cst (.int 5)]) (.cst (.int 0)))))) [.asg (.nm 3) (.call 6 [.var 0, .bi .len [.var 1]]), .asg (.nm 4) (.call 9 [.var 0, .idx (.var 1) (.var 3), .op2 .sub (.var 2) (.cst (.int 1))]), .iff (.bi (.isinst [.list]) [.var 1]) [.ret (.op2 .add (.op2 .add (.slc (.var 1) (.nil) (.var 3)) (.lst [.var 4])) (.slc (.var 1) (.op2 .add (.var 3) (.cst (.int 1))) (.nil)))] [], .ret (.op2 .add (.op2 .add (.slc (.var 1) (.nil) (.var 3)) (.tup [.var 4])) (.slc (.var 1) (.op2 .add (.var 3) (.cst (.int 1))) (.nil)))] [],
  .ret (.call 10 [.var 0, .var 1])]⟩
/-- _law_within -/
def F__law_within : Fn := ⟨3, 3, [
  .ret (.and (.bi (.isinst [.int]) [.var 0]) (.and (.not (.bi (.isinst [.bool]) [.var 0])) (.chn .le .le (.var 1) (.var 0) (.var 2))))]⟩
end Sr.Cm
end

section
set_option autoImplicit false
set_option linter.all false
set_option Elab.async false
/-! P2: comprehensions and loops. -/
namespace Sr.Pl
open PySem
abbrev Call := Nat → List (Md × D) → Mo (D × Bool)
theorem items_1 (ds : List D) : items 1 ds = rngop ds := by rw [items]
theorem items_0t (l : List D) : items 0 [.tup l] = some l := by rw [items]
theorem items_0l (l : List D) : items 0 [.lst l] = some l := by rw [items]
theorem rngop_n (n : Nat) (h : n < 1073741824) : rngop [.int (n : Int)] = some ((List.range n).map fun (k : Nat) => D.int (k : Int)) := by
  show (if smallI (n : Int) = true then some (rngL 0 n 1) else none) = _
  rw [if_pos (by unfold smallI; simp; omega)]
  unfold rngL rngLen
  have e : (((n : Int) - 0 + 1 - 1).fdiv 1).toNat = n := by rw [Int.fdiv_one]; omega
  rw [if_pos (by decide), e]
  congr 1
  apply List.map_congr_left
  intro k _
  show D.int _ = D.int _
  congr 1; omega
theorem rngop_ab (a n : Nat) (b : Int) (hb : b = a + n) (h : a + n < 1073741824) : rngop [.int (a : Int), .int b] = some ((List.range n).map fun (k : Nat) => D.int ((a + k : Nat) : Int)) := by
  show (if (smallI (a : Int) && smallI b) = true then some (rngL a b 1) else none) = _
  rw [if_pos (by unfold smallI; simp; omega)]
  unfold rngL rngLen
  have e : ((b - a + 1 - 1).fdiv 1).toNat = n := by rw [Int.fdiv_one]; omega
  rw [if_pos (by decide), e]
  congr 1
  apply List.map_congr_left
  intro k _
  show D.int _ = D.int _
  congr 1; omega
/-- nothing is walked when the end is not above the start -/
theorem rngop_nil (a b : Int) (ha : smallI a = true) (hb : smallI b = true) (h : b ≤ a) : rngop [.int a, .int b] = some [] := by
  show (if (smallI a && smallI b) = true then some (rngL a b 1) else none) = _
  rw [ha, hb, if_pos (by decide)]
  unfold rngL rngLen
  have e : ((b - a + 1 - 1).fdiv 1).toNat = 0 := by rw [Int.fdiv_one]; omega
  rw [if_pos (by decide), e]; rfl
theorem compGo_map {α : Type} {env : Env} {tg : Tg} {test : Env → Mo Bool} {elt : Env → Mo (D × Bool)} {T : List Nd} (f : α → D) (p : α → Bool) (g : α → D) (l : List α)
    (h : ∀ a ∈ l, ∃ e, env.target tg (f a) T = .ok e T ∧ test e T = .ok (p a) T ∧ (p a = true → ∃ fr, elt e T = .ok (g a, fr) T)) :
    compGo env tg test elt (l.map f) T = .ok ((l.filter p).map g) T := by
  induction l with
  | nil => rfl
  | cons a l ih =>
    obtain ⟨e, h1, h2, h3⟩ := h a (List.mem_cons_self ..)
    have ih := ih fun b hb => h b (List.mem_cons_of_mem _ hb)
    rw [List.map_cons, compGo, h1]
    show (match test e T with | _ => _) = _
    rw [h2]
    cases hp : p a with
    | false =>
      rw [List.filter_cons_of_neg (by rw [hp]; decide)]
      exact ih
    | true =>
      rw [List.filter_cons_of_pos hp]
      obtain ⟨fr, h3⟩ := h3 hp
      show (match elt e T with | _ => _) = _
      rw [h3]
      show (match compGo env tg test elt (l.map f) T with | _ => _) = _
      rw [ih]
      rfl
/-- a comprehension that changes nothing -/
theorem ev_comp {α : Type} {P : Pg} {call : Call} {elt : M} {tg : Tg} {k : Nat} {it cond : List M} {env : Env} {T : List Nd} {ds : List D} (f : α → D) (p : α → Bool) (g : α → D) (l : List α)
    (hit : evo P call it env T = .ok ds T) (hk : items k ds = some (l.map f)) (hsz : l.length ≤ SZ)
    (h : ∀ a ∈ l, ∃ e, (env.wipe tg.slots).target tg (f a) T = .ok e T ∧ evc P call cond e T = .ok (p a) T ∧ (p a = true → ∃ fr, ev P call elt e T = .ok (g a, fr) T)) :
    ev P call (.comp elt tg k it cond) env T = .ok (.lst ((l.filter p).map g), true) T := by
  rw [ev]
  show ((evo P call it env T).bind _) = _
  rw [hit]
  show ((ofO (items k ds) T).bind _) = _
  rw [hk]
  show ((compGo (env.wipe tg.slots) tg (fun e => evc P call cond e) (fun e => ev P call elt e) (l.map f) T).bind _) = _
  rw [compGo_map f p g l h]
  show (if ((l.filter p).map g).length ≤ SZ then _ else _ : Mo _) T = _
  rw [if_pos (by rw [List.length_map]; exact Nat.le_trans (List.length_filter_le ..) hsz)]
  rfl
theorem compGo_inv {α : Type} {env : Env} {tg : Tg} {test : Env → Mo Bool} {elt : Env → Mo (D × Bool)} (f : α → D) (Q : List Nd → Prop) (G : D → Prop) (l : List α)
    (h : ∀ a ∈ l, ∀ T, Q T → ∃ e y fr T', env.target tg (f a) T = .ok e T ∧ test e T = .ok true T ∧ elt e T = .ok (y, fr) T' ∧ G y ∧ Q T') :
    ∀ T, Q T → ∃ ys T', compGo env tg test elt (l.map f) T = .ok ys T' ∧ ys.length = l.length ∧ (∀ y ∈ ys, G y) ∧ Q T' := by
  induction l with
  | nil => exact fun T hT => ⟨[], T, rfl, rfl, by simp, hT⟩
  | cons a l ih =>
    intro T hT
    obtain ⟨e, y, fr, T', h1, h2, h3, h4, h5⟩ := h a (List.mem_cons_self ..) T hT
    obtain ⟨ys, T2, g1, g2, g3, g4⟩ := ih (fun b hb => h b (List.mem_cons_of_mem _ hb)) T' h5
    refine ⟨y :: ys, T2, ?_, by simp [g2], ?_, g4⟩
    · rw [List.map_cons, compGo, h1]
      show (match test e T with | _ => _) = _
      rw [h2]
      show (match elt e T with | _ => _) = _
      rw [h3]
      show (match compGo env tg test elt (l.map f) T' with | _ => _) = _
      rw [g1]
    · intro z hz
      rcases List.mem_cons.1 hz with rfl | hz
      · exact h4
      · exact g3 z hz
/-- a comprehension whose items are drawn -/
theorem ev_comp_inv {α : Type} {P : Pg} {call : Call} {elt : M} {tg : Tg} {k : Nat} {it : List M} {env : Env} {T T1 : List Nd} {ds : List D} (f : α → D) (Q : List Nd → Prop) (G : D → Prop) (l : List α)
    (hit : evo P call it env T = .ok ds T1) (hk : items k ds = some (l.map f)) (hsz : l.length ≤ SZ) (hQ : Q T1)
    (h : ∀ a ∈ l, ∀ T, Q T → ∃ e y fr T', (env.wipe tg.slots).target tg (f a) T = .ok e T ∧ ev P call elt e T = .ok (y, fr) T' ∧ G y ∧ Q T') :
    ∃ ys T', ev P call (.comp elt tg k it []) env T = .ok (.lst ys, true) T' ∧ ys.length = l.length ∧ (∀ y ∈ ys, G y) ∧ Q T' := by
  obtain ⟨ys, T', h1, h2, h3, h4⟩ := compGo_inv (env := env.wipe tg.slots) (tg := tg) (test := fun e => evc P call [] e) (elt := fun e => ev P call elt e) f Q G l
    (fun a ha T hT => by
      obtain ⟨e, y, fr, T', g1, g2, g3, g4⟩ := h a ha T hT
      exact ⟨e, y, fr, T', g1, by simp [evc], g2, g3, g4⟩) T1 hQ
  refine ⟨ys, T', ?_, h2, h3, h4⟩
  rw [ev]
  show ((evo P call it env T).bind _) = _
  rw [hit]
  show ((ofO (items k ds) T1).bind _) = _
  rw [hk]
  show ((compGo (env.wipe tg.slots) tg (fun e => evc P call [] e) (fun e => ev P call elt e) (l.map f) T1).bind _) = _
  rw [h1]
  show (if ys.length ≤ SZ then _ else _ : Mo _) T' = _
  rw [if_pos (by rw [h2]; exact hsz)]
  rfl
/-- a loop with an invariant -/
theorem forGo_inv {α : Type} {tg : Tg} {body : Env → List Nd → RS} (f : α → D) (I : List α → Env → List Nd → Prop)
    (step : ∀ a r env T, I (a :: r) env T → ∃ e env' T1 T', env.target tg (f a) T = .ok e T1 ∧ body e T1 = .nx env' T' ∧ I r env' T') (l : List α) :
    ∀ env T, I l env T → ∃ env' T', forGo tg body (l.map f) env T = .nx env' T' ∧ I [] env' T' := by
  induction l with
  | nil => exact fun env T h => ⟨env, T, rfl, h⟩
  | cons a l ih =>
    intro env T h
    obtain ⟨e, env', T1, T', h1, h2, h3⟩ := step a l env T h
    obtain ⟨e2, T2, g1, g2⟩ := ih env' T' h3
    refine ⟨e2, T2, ?_, g2⟩
    rw [List.map_cons, forGo, h1]
    show (match body e T1 with | _ => _) = _
    rw [h2]
    exact g1
/-- a loop that looks for the first item with p and then gives d back -/
theorem forGo_find {α : Type} {tg : Tg} {body : Env → List Nd → RS} {T : List Nd} (f : α → D) (I : Env → Prop) (p : α → Bool) (d : D) (fr : Bool) (l : List α)
    (step : ∀ a ∈ l, ∀ env, I env → ∃ e env', env.target tg (f a) T = .ok e T ∧ body e T = (if p a then .rt d fr T else .nx env' T) ∧ I env') :
    ∀ env, I env → ∃ env', forGo tg body (l.map f) env T = (if l.any p then .rt d fr T else .nx env' T) ∧ I env' := by
  induction l with
  | nil => exact fun env h => ⟨env, rfl, h⟩
  | cons a l ih =>
    intro env h
    obtain ⟨e, env', h1, h2, h3⟩ := step a (List.mem_cons_self ..) env h
    obtain ⟨e2, g1, g2⟩ := ih (fun b hb => step b (List.mem_cons_of_mem _ hb)) env' h3
    cases hp : p a with
    | true =>
      refine ⟨env', ?_, h3⟩
      rw [List.map_cons, forGo, h1]
      show (match body e T with | _ => _) = _
      rw [h2, hp, List.any_cons, hp]; rfl
    | false =>
      refine ⟨e2, ?_, g2⟩
      rw [List.map_cons, forGo, h1]
      show (match body e T with | _ => _) = _
      rw [h2, hp, List.any_cons, hp]
      exact g1
/-- a while that comes to an end after n turns -/
theorem whlGo_end {test : Env → List Nd → R Bool} {body : Env → List Nd → RS} (I : Nat → Env → List Nd → Prop) (J : Env → List Nd → Prop)
    (step : ∀ n env T, I (n + 1) env T → ∃ env' T1 T', test env T = .ok true T1 ∧ body env T1 = .nx env' T' ∧ I n env' T')
    (last : ∀ env T, I 0 env T → ∃ T', test env T = .ok false T' ∧ J env T') :
    ∀ n fuel env T, n < fuel → I n env T → ∃ env' T', whlGo test body fuel env T = .nx env' T' ∧ J env' T' := by
  intro n
  induction n with
  | zero =>
    intro fuel env T hf h
    obtain ⟨T', h1, h2⟩ := last env T h
    obtain ⟨m, rfl⟩ : ∃ m, fuel = m + 1 := ⟨fuel - 1, by omega⟩
    exact ⟨env, T', by rw [whlGo, h1], h2⟩
  | succ n ih =>
    intro fuel env T hf h
    obtain ⟨env', T1, T', h1, h2, h3⟩ := step n env T h
    obtain ⟨m, rfl⟩ : ∃ m, fuel = m + 1 := ⟨fuel - 1, by omega⟩
    obtain ⟨e2, T2, g1, g2⟩ := ih m env' T' (by omega) h3
    refine ⟨e2, T2, ?_, g2⟩
    rw [whlGo, h1]
    show (match body env T1 with | _ => _) = _
    rw [h2]
    exact g1
end Sr.Pl
end

section
set_option autoImplicit false
set_option linter.all false
set_option Elab.async false
set_option maxHeartbeats 4000000
/-! P3: what the laws share: the pot, drawing, picking. -/
namespace Sr.Pl
open PySem Cm
@[simp] theorem cmp_ne_bl (a b : Bool) : cmpop .ne (.bl a) (.bl b) = some (!(a == b)) := by
  show (if (true && true && decide (min 0 0 ≤ 64)) = true then some (!(a == b)) else none) = _
  rw [if_pos (by decide)]
@[simp] theorem cmp_eq_bl (a b : Bool) : cmpop .eq (.bl a) (.bl b) = some (a == b) := by
  show (if (true && true && decide (min 0 0 ≤ 64)) = true then some (a == b) else none) = _
  rw [if_pos (by decide)]
@[simp] theorem cmp_eq_nil : cmpop .eq (.lst []) (.lst []) = some true := by
  show (if (true && true && decide (min 1 1 ≤ 64)) = true then some true else none) = _
  rw [if_pos (by decide)]
@[simp] theorem is_non (d : D) : cmpop .is d .non = some (match d with | .non => true | _ => false) := eqI rfl
theorem fmod_lt (a b : Int) (h : 0 < b) : 0 ≤ a.fmod b ∧ a.fmod b < b := by
  rw [Int.fmod_eq_emod_of_nonneg _ (by omega)]
  exact ⟨Int.emod_nonneg _ (by omega), Int.emod_lt_of_pos _ h⟩
theorem fdiv_nn (a b : Int) (ha : 0 ≤ a) (h : 0 < b) : 0 ≤ a.fdiv b := by
  rw [Int.fdiv_eq_ediv_of_nonneg _ (by omega)]
  exact Int.ediv_nonneg ha (by omega)
theorem op_mod (i j : Int) (h : j ≠ 0) : binop .mod (.int i) (.int j) = some (.int (i.fmod j), false) := if_pos h
theorem op_fdiv (i j : Int) (h : j ≠ 0) (h2 : j.natAbs < 1073741824) : binop .fdiv (.int i) (.int j) = some (.int (i.fdiv j), false) := if_pos ⟨h, h2⟩
theorem bigOk_of {i : Int} (h1 : 0 ≤ i) (h2 : i < 18446744073709551616) : bigOk i = true := by
  unfold bigOk; simp; omega
theorem op_mul (i j : Int) (h : bigOk i = true ∨ bigOk j = true) : binop .mul (.int i) (.int j) = some (.int (i * j), false) := if_pos (by simpa using h)
theorem atI_map {α : Type} (f : α → D) (l : List α) (i : Nat) (h : i < l.length) : L2.atI (l.map f) (i : Int) = some (f l[i]) := by
  unfold L2.atI L2.ixN
  rw [List.length_map, if_pos (by omega), if_pos (by omega)]
  simp [h]
theorem atI_nat {α : Type} (l : List α) (i : Nat) (h : i < l.length) : L2.atI l (i : Int) = some l[i] := by
  unfold L2.atI L2.ixN
  rw [if_pos (by omega), if_pos (by omega)]
  simp [h]
theorem noOwnL_int {α : Type} (f : α → Int) (l : List α) : D.noOwnL (l.map fun a => D.int (f a)) = true := by
  induction l with
  | nil => rfl
  | cons a l ih => exact ih
theorem noOwnL_ints (l : List Int) : D.noOwnL (l.map D.int) = true := noOwnL_int (fun a => a) l
def potL (cs : List Int) (i x y : Int) : List D := [.lst (cs.map .int), .int i, .int x, .int y]
def isPot (n : Nd) : Prop := ∃ (cs : List Int) (i : Nat) (x y : Int), n = .lst (potL cs i x y) ∧ (∀ c ∈ cs, 0 ≤ c) ∧ 0 ≤ x ∧ x < 2147483647 ∧ 0 ≤ y
theorem potOwn (cs : List Int) (i x y : Int) : D.noOwnL (potL cs i x y) = true := by
  show (D.noOwnL (cs.map D.int) && true) = true
  rw [noOwnL_ints]; rfl
theorem deref_own {T : List Nd} {k : Nat} {l : List D} (h : T[k]? = some (.lst l)) : deref (.own k) T = .ok (.lst l) T := by
  show (match derefT T (.own k) with | some d => _ | none => _) = _
  have e : derefT T (.own k) = some (.lst l) := by simp [derefT, h]
  rw [e]
theorem updT_own {T : List Nd} {k : Nat} {l m : List D} (h : T[k]? = some (.lst l)) (f : D → Option D) (hf : f (.lst l) = some (.lst m)) (hn : D.noOwnL m = true) : updT (.own k) f T = .ok () (T.set k (.lst m)) := by
  show (match (derefT T (.own k)).bind f with | some d => _ | none => _) = _
  have e : derefT T (.own k) = some (.lst l) := by simp [derefT, h]
  rw [e, Option.bind_some, hf]
  show (match toNd (.lst m) with | some d => _ | none => _) = _
  have e : toNd (.lst m) = some (.lst m) := if_pos hn
  rw [e]
@[simp] theorem deref_tup (l : List D) (T : List Nd) : deref (.tup l) T = .ok (.tup l) T := eqI rfl
@[simp] theorem deref_lst (l : List D) (T : List Nd) : deref (.lst l) T = .ok (.lst l) T := eqI rfl
@[simp] theorem deref_int (l : Int) (T : List Nd) : deref (.int l) T = .ok (.int l) T := eqI rfl
@[simp] theorem deref_bl (l : Bool) (T : List Nd) : deref (.bl l) T = .ok (.bl l) T := eqI rfl
@[simp] theorem deref_str (l : Str) (T : List Nd) : deref (.str l) T = .ok (.str l) T := eqI rfl
@[simp] theorem deref_non (T : List Nd) : deref .non T = .ok .non T := eqI rfl
@[simp] theorem deref_dic (l m : List D) (T : List Nd) : deref (.dic l m) T = .ok (.dic l m) T := eqI rfl
@[simp] theorem deref_scr (l : List Int) (T : List Nd) : deref (.scr l) T = .ok (.scr l) T := eqI rfl
@[simp] theorem bip_int (i : Int) : bip .int [.int i] = some (.int i, false) := eqI rfl
@[simp] theorem bip_abs (i : Int) : bip .abs [.int i] = some (.int (if i < 0 then -i else i), false) := eqI rfl
@[simp] theorem bip_len_tup (l : List D) : bip .len [.tup l] = some (.int l.length, false) := eqI rfl
@[simp] theorem bip_len_lst (l : List D) : bip .len [.lst l] = some (.int l.length, false) := eqI rfl
@[simp] theorem bip_tuple_tup (l : List D) : bip .tuple [.tup l] = some (.tup l, false) := eqI rfl
@[simp] theorem bip_tuple_lst (l : List D) : bip .tuple [.lst l] = some (.tup l, false) := eqI rfl
@[simp] theorem bip_list_tup (l : List D) : bip .list [.tup l] = some (.lst l, true) := eqI rfl
@[simp] theorem bip_list_lst (l : List D) : bip .list [.lst l] = some (.lst l, true) := eqI rfl
@[simp] theorem bip_max2 (i j : Int) : bip .max [.int i, .int j] = some (.int (if j > i then j else i), false) := eqI rfl
@[simp] theorem bip_min2 (i j : Int) : bip .min [.int i, .int j] = some (.int (if j < i then j else i), false) := eqI rfl
theorem bip_isinst (cs : List Ty) (d : D) (t : Ty) (h : tyD d = some t) : bip (.isinst cs) [d] = some (.bl (isTs t cs), false) := by
  show (tyD d).map _ = _
  rw [h]; rfl
@[simp] theorem bip_isinst_tup (cs : List Ty) (l : List D) : bip (.isinst cs) [.tup l] = some (.bl (isTs .tuple cs), false) := eqI rfl
@[simp] theorem bip_isinst_lst (cs : List Ty) (l : List D) : bip (.isinst cs) [.lst l] = some (.bl (isTs .list cs), false) := eqI rfl
@[simp] theorem bip_isinst_int (cs : List Ty) (i : Int) : bip (.isinst cs) [.int i] = some (.bl (isTs .int cs), false) := eqI rfl
@[simp] theorem bip_isinst_bl (cs : List Ty) (i : Bool) : bip (.isinst cs) [.bl i] = some (.bl (isTs .bool cs), false) := eqI rfl
@[simp] theorem bip_isinst_str (cs : List Ty) (i : Str) : bip (.isinst cs) [.str i] = some (.bl (isTs .str cs), false) := eqI rfl
@[simp] theorem bip_isinst_non (cs : List Ty) : bip (.isinst cs) [.non] = some (.bl (isTs .non cs), false) := eqI rfl
theorem idx_lmap {α : Type} (f : α → D) (l : List α) (i : Nat) (h : i < l.length) : idxop (.lst (l.map f)) (.int (i : Int)) = some (f l[i]) := atI_map f l i h
theorem idx_tmap {α : Type} (f : α → D) (l : List α) (i : Nat) (h : i < l.length) : idxop (.tup (l.map f)) (.int (i : Int)) = some (f l[i]) := atI_map f l i h
theorem idx_tup (l : List D) (i : Nat) (h : i < l.length) : idxop (.tup l) (.int (i : Int)) = some l[i] := atI_nat l i h
theorem idx_lst (l : List D) (i : Nat) (h : i < l.length) : idxop (.lst l) (.int (i : Int)) = some l[i] := atI_nat l i h
theorem ten18 : binop .pow (.int 10) (.int 18) = some (.int 1000000000000000000, false) := rfl
section
variable {P : Pg}
theorem run_one {l f : Nat} {F : Fn} {args : List (Md × D)} {T : List Nd} (h : P.fns f = some F) (hl : args.length = F.np) : run P (l+1) f args T = finish T.length (execs P (run P l) F.body (initEnv F args) T) := by
  rw [run, h]
  exact if_pos hl
theorem set_same {T : List Nd} {k : Nat} {nd : Nd} (h : T[k]? = some nd) : T.set k nd = T := by
  have ⟨hk, e⟩ := List.getElem?_eq_some_iff.1 h
  rw [← e]; exact List.set_getElem_self hk
theorem potI0 {T : List Nd} {k : Nat} {cs : List Int} {i x y : Int} (h : T[k]? = some (.lst (potL cs i x y))) : deref (.own k) T = .ok (.lst (potL cs i x y)) T := deref_own h
theorem pot0 (cs : List Int) (i x y : Int) : idxop (.lst (potL cs i x y)) (.int 0) = some (.lst (cs.map .int)) := eqI rfl
theorem pot1 (cs : List Int) (i x y : Int) : idxop (.lst (potL cs i x y)) (.int 1) = some (.int i) := eqI rfl
theorem pot2 (cs : List Int) (i x y : Int) : idxop (.lst (potL cs i x y)) (.int 2) = some (.int x) := eqI rfl
theorem pot3 (cs : List Int) (i x y : Int) : idxop (.lst (potL cs i x y)) (.int 3) = some (.int y) := eqI rfl
theorem pots1 (cs : List Int) (i x y z : Int) : setAt (.lst (potL cs i x y)) (.int 1) (.int z) = some (.lst (potL cs z x y)) := eqI rfl
theorem pots2 (cs : List Int) (i x y z : Int) : setAt (.lst (potL cs i x y)) (.int 2) (.int z) = some (.lst (potL cs i z y)) := eqI rfl
theorem pots3 (cs : List Int) (i x y z : Int) : setAt (.lst (potL cs i x y)) (.int 3) (.int z) = some (.lst (potL cs i x z)) := eqI rfl
theorem updP1 {T : List Nd} {k : Nat} {cs : List Int} {i x y : Int} (z : Int) (h : T[k]? = some (.lst (potL cs i x y))) : updT (.own k) (fun d => setAt d (.int 1) (.int z)) T = .ok () (T.set k (.lst (potL cs z x y))) := updT_own h _ (pots1 ..) (potOwn ..)
theorem updP2 {T : List Nd} {k : Nat} {cs : List Int} {i x y : Int} (z : Int) (h : T[k]? = some (.lst (potL cs i x y))) : updT (.own k) (fun d => setAt d (.int 2) (.int z)) T = .ok () (T.set k (.lst (potL cs i z y))) := updT_own h _ (pots2 ..) (potOwn ..)
theorem updP3 {T : List Nd} {k : Nat} {cs : List Int} {i x y : Int} (z : Int) (h : T[k]? = some (.lst (potL cs i x y))) : updT (.own k) (fun d => setAt d (.int 3) (.int z)) T = .ok () (T.set k (.lst (potL cs i x z))) := updT_own h _ (pots3 ..) (potOwn ..)
theorem run_draw (hf : P.fns 6 = some F__law_draw) (l : Nat) {k : Nat} {T : List Nd} {nd : Nd} {many : Int} (hT : T[k]? = some nd) (hp : isPot nd) (hm : many < 1073741824) :
    ∃ (v : Int) (nd' : Nd), isPot nd' ∧ run P (l+1) 6 [(.sh, .own k), (.sh, .int many)] T = .ok (.int v, false) (T.set k nd') ∧ 0 ≤ v ∧ (1 ≤ many → v < many) := by
  obtain ⟨cs, i, x, y, rfl, hc, hx, hx2, hy⟩ := hp
  have ⟨hk, _⟩ := List.getElem?_eq_some_iff.1 hT
  by_cases h1 : many < 2
  · refine ⟨0, _, ⟨cs, i, x, y, rfl, hc, hx, hx2, hy⟩, ?_, by omega, by omega⟩
    rw [set_same hT]
    rw [run_one hf rfl]; simp [F__law_draw, initEnv, Env.look, Env.lookAny, h1]
  · have hm0 : many ≠ 0 := by omega
    have hmn : many.natAbs < 1073741824 := by omega
    by_cases h2 : y > 0
    · refine ⟨y.fmod many, .lst (potL cs i x (y.fdiv many)), ⟨cs, i, x, _, rfl, hc, hx, hx2, fdiv_nn _ _ hy (by omega)⟩, ?_, (fmod_lt _ _ (by omega)).1, fun _ => (fmod_lt _ _ (by omega)).2⟩
      have e0 := deref_own hT
      have e1 := updP3 (y.fdiv many) hT
      rw [run_one hf rfl]; simp [F__law_draw, initEnv, Env.look, Env.lookAny, h1, e0, e1, pot3, h2, derefs, op_mod _ _ hm0, op_fdiv _ _ hm0 hmn, Env.target, Env.put, Env.free, updO]
    · have e0 := deref_own hT
      have h2' : ¬ 0 < y := h2
      by_cases h3 : i < cs.length
      · have ec := idx_lmap D.int cs i h3
        have hcell : (0 : Int) ≤ cs[i] := hc _ (List.getElem_mem h3)
        have e1 := updP1 ((i : Int) + 1) hT
        have g1 : (T.set k (.lst (potL cs ((i : Int) + 1) x y)))[k]? = some (.lst (potL cs ((i : Int) + 1) x y)) := List.getElem?_set_self hk
        have d1 := deref_own g1
        by_cases h4 : cs[i] ≥ 1000000000000000000
        · have e2 := updP3 (cs[i].fdiv many) g1
          refine ⟨cs[i].fmod many, .lst (potL cs ((i : Int) + 1) x (cs[i].fdiv many)), ⟨cs, i + 1, x, cs[i].fdiv many, rfl, hc, hx, hx2, fdiv_nn _ _ hcell (by omega)⟩, ?_, (fmod_lt _ _ (by omega)).1, fun _ => (fmod_lt _ _ (by omega)).2⟩
          rw [run_one hf rfl]; simp [F__law_draw, initEnv, Env.look, Env.lookAny, h1, e0, e1, d1, e2, pot0, pot1, pot3, h2, h2', h3, h4, ec, ten18, derefs, op_mod _ _ hm0, op_fdiv _ _ hm0 hmn, Env.target, Env.put, Env.free, updO]
        · have e2 := updP2 ((x * 48271 + cs[i] + 12345).fmod 2147483647) g1
          have g2 : (T.set k (.lst (potL cs ((i : Int) + 1) ((x * 48271 + cs[i] + 12345).fmod 2147483647) y)))[k]? = some (.lst (potL cs ((i : Int) + 1) ((x * 48271 + cs[i] + 12345).fmod 2147483647) y)) := List.getElem?_set_self hk
          have d2 := deref_own g2
          have hw := fmod_lt (x * 48271 + cs[i] + 12345) 2147483647 (by decide)
          have h4' : ¬ 1000000000000000000 ≤ cs[i] := h4
          refine ⟨((((x * 48271 + cs[i] + 12345).fmod 2147483647) * ((x * 48271 + cs[i] + 12345).fmod 2147483647)).fdiv 64 + ((x * 48271 + cs[i] + 12345).fmod 2147483647).fdiv 7).fmod many, .lst (potL cs ((i : Int) + 1) ((x * 48271 + cs[i] + 12345).fmod 2147483647) y), ⟨cs, i + 1, _, y, rfl, hc, hw.1, hw.2, hy⟩, ?_, (fmod_lt _ _ (by omega)).1, fun _ => (fmod_lt _ _ (by omega)).2⟩
          have m1 := op_mul x 48271 (.inr (by decide))
          have m2 := op_mul ((x * 48271 + cs[i] + 12345).fmod 2147483647) ((x * 48271 + cs[i] + 12345).fmod 2147483647) (.inl (bigOk_of hw.1 (by omega)))
          have m3 := op_mod (x * 48271 + cs[i] + 12345) 2147483647 (by decide)
          have m4 := op_fdiv (((x * 48271 + cs[i] + 12345).fmod 2147483647) * ((x * 48271 + cs[i] + 12345).fmod 2147483647)) 64 (by decide) (by decide)
          have m5 := op_fdiv (((x * 48271 + cs[i] + 12345).fmod 2147483647)) 7 (by decide) (by decide)
          rw [run_one hf rfl]; simp [F__law_draw, initEnv, Env.look, Env.lookAny, h1, e0, e1, d1, e2, d2, pot0, pot1, pot2, pot3, h2, h2', h3, h4, h4', ec, ten18, derefs, m1, m2, m3, m4, m5, op_mod _ _ hm0, Env.target, Env.put, Env.free, updO]
      · have e2 := updP2 ((x * 48271 + 0 + 12345).fmod 2147483647) hT
        have g2 : (T.set k (.lst (potL cs i ((x * 48271 + 0 + 12345).fmod 2147483647) y)))[k]? = some (.lst (potL cs i ((x * 48271 + 0 + 12345).fmod 2147483647) y)) := List.getElem?_set_self hk
        have d2 := deref_own g2
        have hw := fmod_lt (x * 48271 + 0 + 12345) 2147483647 (by decide)
        refine ⟨((((x * 48271 + 0 + 12345).fmod 2147483647) * ((x * 48271 + 0 + 12345).fmod 2147483647)).fdiv 64 + ((x * 48271 + 0 + 12345).fmod 2147483647).fdiv 7).fmod many, .lst (potL cs i ((x * 48271 + 0 + 12345).fmod 2147483647) y), ⟨cs, i, _, y, rfl, hc, hw.1, hw.2, hy⟩, ?_, (fmod_lt _ _ (by omega)).1, fun _ => (fmod_lt _ _ (by omega)).2⟩
        have m1 := op_mul x 48271 (.inr (by decide))
        have m2 := op_mul ((x * 48271 + 0 + 12345).fmod 2147483647) ((x * 48271 + 0 + 12345).fmod 2147483647) (.inl (bigOk_of hw.1 (by omega)))
        have m3 := op_mod (x * 48271 + 0 + 12345) 2147483647 (by decide)
        have m4 := op_fdiv (((x * 48271 + 0 + 12345).fmod 2147483647) * ((x * 48271 + 0 + 12345).fmod 2147483647)) 64 (by decide) (by decide)
        have m5 := op_fdiv (((x * 48271 + 0 + 12345).fmod 2147483647)) 7 (by decide) (by decide)
        simp only [Int.add_zero] at e2 g2 d2 hw m2 m3 m4 m5
        rw [run_one hf rfl]; simp [F__law_draw, initEnv, Env.look, Env.lookAny, h1, e0, e2, d2, pot0, pot1, pot2, pot3, h2, h2', h3, ten18, derefs, m1, m2, m3, m4, m5, op_mod _ _ hm0, Env.target, Env.put, Env.free, updO]
theorem run_pickL (h6 : P.fns 6 = some F__law_draw) (h8 : P.fns 8 = some F__law_pick) (l : Nat) {k : Nat} {T : List Nd} {nd : Nd} (ds : List D) (hT : T[k]? = some nd) (hp : isPot nd) (h1 : 1 ≤ ds.length) (hm : ds.length < 1073741824) :
    ∃ (d : D) (nd' : Nd), d ∈ ds ∧ isPot nd' ∧ run P (l+2) 8 [(.sh, .own k), (.sh, .lst ds)] T = .ok (d, false) (T.set k nd') := by
  obtain ⟨v, nd', g1, g2, g3, g4⟩ := run_draw h6 l (many := ds.length) hT hp (by omega)
  obtain ⟨n, rfl⟩ : ∃ n : Nat, v = n := ⟨v.toNat, by omega⟩
  have hn : n < ds.length := by have := g4 (by omega); omega
  refine ⟨ds[n], nd', List.getElem_mem hn, g1, ?_⟩
  have e := idx_lst ds n hn
  rw [run_one h8 rfl]
  simp [F__law_pick, initEnv, Env.look, Env.lookAny, M.mode, Env.isOw, g2, e]
end
end Sr.Pl
end

section
set_option autoImplicit false
set_option linter.all false
set_option Elab.async false
set_option maxHeartbeats 4000000
/-! P4: what the laws share: numbers, rows, same. -/
namespace Sr.Pl
open PySem Cm
section
variable {P : Pg}
/-- plain data: ints of at most I, rows of at most B, n deep; with s: of ints, texts (of at most B signs) and tuples alone -/
def okD (s : Bool) (I B : Nat) : Nat → D → Bool
  | 0, _ => false
  | n + 1, d => match d with
    | .non => !s
    | .bl _ => !s
    | .int i => decide (i.natAbs ≤ I)
    | .str z => !s || decide (z.length ≤ B)
    | .tup l => decide (l.length ≤ B) && l.all (okD s I B n)
    | .lst l => !s && decide (l.length ≤ B) && l.all (okD s I B n)
    | _ => false
theorem okD_tup {s : Bool} {I B n : Nat} {l : List D} : okD s I B (n + 1) (.tup l) = true ↔ l.length ≤ B ∧ ∀ d ∈ l, okD s I B n d = true := by
  show (decide (l.length ≤ B) && l.all (okD s I B n)) = true ↔ _
  rw [Bool.and_eq_true, List.all_eq_true, decide_eq_true_iff]
theorem okD_lst {s : Bool} {I B n : Nat} {l : List D} : okD s I B (n + 1) (.lst l) = true ↔ s = false ∧ l.length ≤ B ∧ ∀ d ∈ l, okD s I B n d = true := by
  show (!s && decide (l.length ≤ B) && l.all (okD s I B n)) = true ↔ _
  rw [Bool.and_eq_true, Bool.and_eq_true, List.all_eq_true, decide_eq_true_iff, and_assoc, Bool.not_eq_true']
theorem okD_mono {s t : Bool} {I J B C : Nat} (hs : t = true → s = true) (hI : I ≤ J) (hB : B ≤ C) : ∀ {n m : Nat} {d : D}, n ≤ m → okD s I B n d = true → okD t J C m d = true := by
  intro n
  induction n with
  | zero => intro m d _ h; exact absurd h (by simp [okD])
  | succ n ih =>
    intro m d hm h
    obtain ⟨m, rfl⟩ : ∃ k, m = k + 1 := ⟨m - 1, by omega⟩
    cases d with
    | non => cases t <;> cases s <;> first | rfl | exact absurd (hs rfl) (by decide) | exact absurd h (by simp [okD])
    | bl b => cases t <;> cases s <;> first | rfl | exact absurd (hs rfl) (by decide) | exact absurd h (by simp [okD])
    | int i => exact decide_eq_true (Nat.le_trans (of_decide_eq_true h) hI)
    | str z =>
      cases t with
      | false => rfl
      | true =>
        have := hs rfl
        subst this
        have h : (!true || decide (z.length ≤ B)) = true := h
        show (!true || decide (z.length ≤ C)) = true
        simp at *
        omega
    | tup l => exact okD_tup.2 ⟨Nat.le_trans (okD_tup.1 h).1 hB, fun x hx => ih (by omega) ((okD_tup.1 h).2 x hx)⟩
    | lst l =>
      refine okD_lst.2 ⟨?_, Nat.le_trans (okD_lst.1 h).2.1 hB, fun x hx => ih (by omega) ((okD_lst.1 h).2.2 x hx)⟩
      cases t with
      | false => rfl
      | true => exact absurd (hs rfl) (by rw [(okD_lst.1 h).1]; decide)
    | _ => exact absurd h (by simp [okD])
theorem okD_ty {s : Bool} {I B n : Nat} {d : D} (h : okD s I B n d = true) : (tyD d).isSome = true := by
  cases n with
  | zero => exact absurd h (by simp [okD])
  | succ n => cases d <;> first | rfl | exact absurd h (by simp [okD])
theorem plnL_of {l : List D} (h : ∀ d ∈ l, d.pln = true) : D.plnL l = true := by
  induction l with
  | nil => rfl
  | cons d l ih =>
    show (d.pln && D.plnL l) = true
    rw [h d (List.mem_cons_self ..), ih fun x hx => h x (List.mem_cons_of_mem _ hx)]; rfl
theorem noOwnL_of {l : List D} (h : ∀ d ∈ l, d.noOwn = true) : D.noOwnL l = true := by
  induction l with
  | nil => rfl
  | cons d l ih =>
    show (d.noOwn && D.noOwnL l) = true
    rw [h d (List.mem_cons_self ..), ih fun x hx => h x (List.mem_cons_of_mem _ hx)]; rfl
theorem depL_of {l : List D} {n : Nat} (h : ∀ d ∈ l, d.dep ≤ n) : D.depL l ≤ n := by
  induction l with
  | nil => exact Nat.zero_le _
  | cons d l ih =>
    show max d.dep (D.depL l) ≤ n
    exact Nat.max_le.2 ⟨h d (List.mem_cons_self ..), ih fun x hx => h x (List.mem_cons_of_mem _ hx)⟩
theorem okD_pln {s : Bool} {I B : Nat} : ∀ {n : Nat} {d : D}, okD s I B n d = true → d.pln = true ∧ d.dep ≤ n ∧ d.noOwn = true := by
  intro n
  induction n with
  | zero => intro d h; exact absurd h (by simp [okD])
  | succ n ih =>
    intro d h
    cases d with
    | non => exact ⟨rfl, Nat.zero_le _, rfl⟩
    | bl b => exact ⟨rfl, Nat.zero_le _, rfl⟩
    | int b => exact ⟨rfl, Nat.zero_le _, rfl⟩
    | str b => exact ⟨rfl, Nat.zero_le _, rfl⟩
    | tup l =>
      have h := (okD_tup.1 h).2
      exact ⟨plnL_of fun d hd => (ih (h d hd)).1, Nat.succ_le_succ (depL_of fun d hd => (ih (h d hd)).2.1), noOwnL_of fun d hd => (ih (h d hd)).2.2⟩
    | lst l =>
      have h := (okD_lst.1 h).2.2
      exact ⟨plnL_of fun d hd => (ih (h d hd)).1, Nat.succ_le_succ (depL_of fun d hd => (ih (h d hd)).2.1), noOwnL_of fun d hd => (ih (h d hd)).2.2⟩
    | _ => exact absurd h (by simp [okD])
theorem filt_true {α : Type} (l : List α) : l.filter (fun _ => true) = l := List.filter_eq_self.2 (by simp)
theorem le_SZ {n : Nat} (h : n ≤ 16777216) : n ≤ SZ := h
theorem str_beq (z : Str) : (z == z) = true := by
  exact beq_self_eq_true _
theorem cmp_eq_str (z : Str) : cmpop .eq (.str z) (.str z) = some true := by
  show (if (true && true && decide (min 0 0 ≤ 64)) = true then some (z == z) else none) = _
  rw [if_pos (by decide), str_beq]
/-- the same data twice is the same -/
theorem run_same (hf : P.fns 7 = some F__law_same) {s : Bool} {I B : Nat} (hB : B < 1073741) : ∀ (n : Nat) (d : D) (l : Nat) (T : List Nd), okD s I B n d = true → n ≤ l → run P l 7 [(.sh, d), (.sh, d)] T = .ok (.bl true, false) T := by
  intro n
  induction n with
  | zero => intro d l T h; exact absurd h (by simp [okD])
  | succ n ih =>
    intro d l T h hl
    obtain ⟨l, rfl⟩ : ∃ k, l = k + 1 := ⟨l - 1, by omega⟩
    rw [run_one hf rfl]
    have tu : isTs .tuple [.tuple] = true := rfl
    have tl : isTs .tuple [.list] = false := rfl
    have lt : isTs .list [.tuple] = false := rfl
    have ll : isTs .list [.list] = true := rfl
    have bt : isTs .bool [.tuple] = false := rfl
    have bl : isTs .bool [.list] = false := rfl
    have bs : isTs .bool [.str] = false := rfl
    have bi : isTs .bool [.int] = true := rfl
    have bb : isTs .bool [.bool] = true := rfl
    have it : isTs .int [.tuple] = false := rfl
    have il : isTs .int [.list] = false := rfl
    have is : isTs .int [.str] = false := rfl
    have ii : isTs .int [.int] = true := rfl
    have ib : isTs .int [.bool] = false := rfl
    have st : isTs .str [.tuple] = false := rfl
    have sl : isTs .str [.list] = false := rfl
    have ss : isTs .str [.str] = true := rfl
    have nt : isTs .non [.tuple] = false := rfl
    have nl : isTs .non [.list] = false := rfl
    cases d with
    | non => simp [F__law_same, initEnv, Env.look, Env.lookAny, nt, nl]
    | bl b => simp [F__law_same, initEnv, Env.look, Env.lookAny, bt, bl, bs, bi, bb]
    | int i => simp [F__law_same, initEnv, Env.look, Env.lookAny, it, il, is, ii, ib]
    | str z => simp [F__law_same, initEnv, Env.look, Env.lookAny, st, sl, ss, cmp_eq_str]
    | tup ds =>
      have h := okD_tup.1 h
      have hc : ∀ env : Env, env = [some (.sh, .tup ds), some (.sh, .tup ds), none] → ev P (run P l) (.comp (.var 2) (.nm 2) 1 [.bi .len [.var 1]] [.not (.call 7 [.idx (.var 0) (.var 2), .idx (.var 1) (.var 2)])]) env T = .ok (.lst [], true) T := by
        rintro env rfl
        rw [ev_comp (fun (k : Nat) => D.int k) (fun _ => false) (fun (k : Nat) => D.int k) (List.range ds.length) (ds := [.int ds.length])]
        · simp
        · simp [Env.lookAny]
        · rw [items_1]; exact rngop_n _ (by omega)
        · rw [List.length_range]; exact le_SZ (by omega)
        · intro a ha
          have ha := List.mem_range.1 ha
          have e := idx_tup ds a ha
          have := ih ds[a] l T (h.2 _ (List.getElem_mem ha)) (by omega)
          refine ⟨[some (.sh, .tup ds), some (.sh, .tup ds), some (.sh, .int a)], rfl, ?_, by simp⟩
          simp [Env.lookAny, e, M.mode, Env.isOw, this]
      simp [F__law_same, initEnv, Env.look, Env.lookAny, tu, tl, hc]
    | lst ds =>
      have h := (okD_lst.1 h).2
      have hc : ∀ env : Env, env = [some (.sh, .lst ds), some (.sh, .lst ds), none] → ev P (run P l) (.comp (.var 2) (.nm 2) 1 [.bi .len [.var 1]] [.not (.call 7 [.idx (.var 0) (.var 2), .idx (.var 1) (.var 2)])]) env T = .ok (.lst [], true) T := by
        rintro env rfl
        rw [ev_comp (fun (k : Nat) => D.int k) (fun _ => false) (fun (k : Nat) => D.int k) (List.range ds.length) (ds := [.int ds.length])]
        · simp
        · simp [Env.lookAny]
        · rw [items_1]; exact rngop_n _ (by omega)
        · rw [List.length_range]; exact le_SZ (by omega)
        · intro a ha
          have ha := List.mem_range.1 ha
          have e := idx_lst ds a ha
          have := ih ds[a] l T (h.2 _ (List.getElem_mem ha)) (by omega)
          refine ⟨[some (.sh, .lst ds), some (.sh, .lst ds), some (.sh, .int a)], rfl, ?_, by simp⟩
          simp [Env.lookAny, e, M.mode, Env.isOw, this]
      simp [F__law_same, initEnv, Env.look, Env.lookAny, lt, ll, hc]
    | _ => exact absurd h (by simp [okD])
/-- a number within -/
def isNum (d : D) (lo hi : Int) : Bool := match d with
  | .int i => decide (lo ≤ i) && decide (i ≤ hi)
  | _ => false
theorem run_is_number (hf : P.fns 0 = some F_is_number) (l : Nat) (d : D) (lo hi : Int) (t : (tyD d).isSome = true) (T : List Nd) : run P (l+1) 0 [(.sh, d), (.sh, .int lo), (.sh, .int hi)] T = .ok (.bl (isNum d lo hi), false) T := by
  rw [run_one hf rfl]
  have e1 : ∀ t, tyD d = some t → bip (.isinst [.int]) [d] = some (.bl (isTs t [.int]), false) := fun t h => bip_isinst _ _ _ h
  have e2 : ∀ t, tyD d = some t → bip (.isinst [.bool]) [d] = some (.bl (isTs t [.bool]), false) := fun t h => bip_isinst _ _ _ h
  have e3 : deref d T = .ok d T := by cases d <;> first | rfl | exact absurd t (by simp [tyD])
  cases d <;> simp only [tyD, Option.isSome_none, Option.isSome_some] at t e1 e2 <;> first | exact absurd t (by decide) | skip
  case int i =>
    simp [F_is_number, initEnv, Env.look, Env.lookAny, isTs, subTy, isNum]
    by_cases h : lo ≤ i <;> simp [h, Env.lookAny]
  all_goals simp [F_is_number, initEnv, Env.look, Env.lookAny, e1 _ rfl, e2 _ rfl, e3, isTs, subTy, isNum]
theorem run_within (hf : P.fns 19 = some F__law_within) (l : Nat) (d : D) (lo hi : Int) (t : (tyD d).isSome = true) (T : List Nd) : run P (l+1) 19 [(.sh, d), (.sh, .int lo), (.sh, .int hi)] T = .ok (.bl (isNum d lo hi), false) T := by
  rw [run_one hf rfl]
  have e1 : ∀ t, tyD d = some t → bip (.isinst [.int]) [d] = some (.bl (isTs t [.int]), false) := fun t h => bip_isinst _ _ _ h
  have e2 : ∀ t, tyD d = some t → bip (.isinst [.bool]) [d] = some (.bl (isTs t [.bool]), false) := fun t h => bip_isinst _ _ _ h
  have e3 : deref d T = .ok d T := by cases d <;> first | rfl | exact absurd t (by simp [tyD])
  cases d <;> simp only [tyD, Option.isSome_none, Option.isSome_some] at t e1 e2 <;> first | exact absurd t (by decide) | skip
  case int i =>
    simp [F__law_within, initEnv, Env.look, Env.lookAny, isTs, subTy, isNum]
    by_cases h : lo ≤ i <;> simp [h, Env.lookAny]
  all_goals simp [F__law_within, initEnv, Env.look, Env.lookAny, e1 _ rfl, e2 _ rfl, e3, isTs, subTy, isNum]
/-- a row of numbers -/
def isRow (d : D) (a b lo hi : Int) : Bool := match d with
  | .tup l => decide (a ≤ l.length) && decide ((l.length : Int) ≤ b) && l.all fun x => isNum x lo hi
  | _ => false
theorem allB_map {α : Type} (f : α → Bool) (l : List α) : allB (l.map fun a => D.bl (f a)) = some (l.map f) := by
  induction l with
  | nil => rfl
  | cons a l ih =>
    show (allB (l.map fun a => D.bl (f a))).map (f a :: ·) = _
    rw [ih]; rfl
theorem bip_all {α : Type} (f : α → Bool) (l : List α) : bip .all [.lst (l.map fun a => D.bl (f a))] = some (.bl (l.all f), false) := by
  show (allB (l.map fun a => D.bl (f a))).map _ = _
  rw [allB_map]
  simp [Function.comp_def]
theorem run_is_row (h0 : P.fns 0 = some F_is_number) (hf : P.fns 1 = some F_is_row) (l : Nat) (d : D) (a b lo hi : Int) (hd : (tyD d).isSome = true) (hb : b < 1000000) (ht : ∀ ds, d = .tup ds → ∀ x ∈ ds, (tyD x).isSome = true) (T : List Nd) :
    run P (l+2) 1 [(.sh, d), (.sh, .int a), (.sh, .int b), (.sh, .int lo), (.sh, .int hi)] T = .ok (.bl (isRow d a b lo hi), false) T := by
  rw [run_one hf rfl]
  have e1 : ∀ t, tyD d = some t → bip (.isinst [.tuple]) [d] = some (.bl (isTs t [.tuple]), false) := fun t h => bip_isinst _ _ _ h
  have e3 : deref d T = .ok d T := by cases d <;> first | rfl | exact absurd hd (by simp [tyD])
  cases d <;> simp only [tyD, Option.isSome_none, Option.isSome_some] at hd e1 <;> first | exact absurd hd (by decide) | skip
  case tup ds =>
    have ht := ht ds rfl
    by_cases h1 : a ≤ ds.length
    · by_cases h2 : (ds.length : Int) ≤ b
      · have hc : ev P (run P (l+1)) (.comp (.call 0 [.var 5, .var 3, .var 4]) (.nm 5) 0 [.var 0] []) [some (.sh, .tup ds), some (.sh, .int a), some (.sh, .int b), some (.sh, .int lo), some (.sh, .int hi), none] T = .ok (.lst (ds.map fun x => .bl (isNum x lo hi)), true) T := by
          rw [ev_comp (fun x => x) (fun _ => true) (fun x => D.bl (isNum x lo hi)) ds (ds := [.tup ds])]
          · rw [filt_true]
          · simp [Env.lookAny]
          · rw [items_0t]; simp
          · exact le_SZ (by omega)
          · intro x hx
            refine ⟨_, rfl, by simp, fun _ => ⟨false, ?_⟩⟩
            simp [Env.lookAny, M.mode, Env.isOw, Env.wipe, Tg.slots, run_is_number h0 l x lo hi (ht x hx)]
        simp [F_is_row, initEnv, Env.look, Env.lookAny, isTs, subTy, isRow, h1, h2, hc, bip_all]
      · simp [F_is_row, initEnv, Env.look, Env.lookAny, isTs, subTy, isRow, h1, h2]
    · simp [F_is_row, initEnv, Env.look, Env.lookAny, isTs, subTy, isRow, h1]
  all_goals simp [F_is_row, initEnv, Env.look, Env.lookAny, e1 _ rfl, e3, isTs, subTy, isRow]
end
end Sr.Pl
end

section
set_option autoImplicit false
set_option linter.all false
set_option Elab.async false
set_option maxHeartbeats 4000000
/-! P5: what the laws share: what is odd, what is bent. -/
namespace Sr.Pl
open PySem Cm
def optK : D → Mo (Option Int)
  | .int i => if smallI i then Mo.ret (some i) else stuck
  | _ => stuck
theorem opt_K {env : Env} {m : M} {x : Mo (D × Bool)} {T : List Nd} (hm : m ≠ .nil) : optI env m x T = (opd env m x T).bind optK := by
  cases m <;> first | rfl | exact absurd rfl hm
@[simp] theorem opt_var (env : Env) (i : Nat) (x : Mo (D × Bool)) (T : List Nd) : optI env (.var i) x T = (env.lookAny i T).bind optK := opt_K (by simp)
@[simp] theorem opt_cst (env : Env) (d : D) (x : Mo (D × Bool)) (T : List Nd) : optI env (.cst d) x T = (fstR (x T)).bind optK := opt_K (by simp)
@[simp] theorem opt_neg (env : Env) (d : M) (x : Mo (D × Bool)) (T : List Nd) : optI env (.neg d) x T = (fstR (x T)).bind optK := opt_K (by simp)
@[simp] theorem opt_op2 (env : Env) (o : O2) (a b : M) (x : Mo (D × Bool)) (T : List Nd) : optI env (.op2 o a b) x T = (fstR (x T)).bind optK := opt_K (by simp)
@[simp] theorem optK_int (i : Int) (T : List Nd) : optK (.int i) T = if smallI i = true then .ok (some i) T else .no := by
  show (if smallI i then Mo.ret (some i) else stuck) T = _
  split <;> rfl
theorem smallI_of {i : Int} (h1 : -1073741824 < i) (h2 : i < 1073741824) : smallI i = true := by
  unfold smallI; simp; omega
theorem smallN (n : Nat) (h2 : n < 1073741824) : smallI (n : Int) = true := smallI_of (by omega) (by omega)
@[simp] theorem slop_tup (l : List D) (a b : Option Int) : slop (.tup l) a b = some (.tup (cut l a b), false) := eqI rfl
@[simp] theorem slop_lst (l : List D) (a b : Option Int) : slop (.lst l) a b = some (.lst (cut l a b), true) := eqI rfl
@[simp] theorem rev_tup (l : List D) : revop (.tup l) = some (.tup l.reverse, false) := eqI rfl
@[simp] theorem rev_lst (l : List D) : revop (.lst l) = some (.lst l.reverse, true) := eqI rfl
theorem op_addT (x y : List D) (h : x.length + y.length ≤ 16777216) : binop .add (.tup x) (.tup y) = some (.tup (x ++ y), false) := if_pos h
theorem op_addL (x y : List D) (h : x.length + y.length ≤ 16777216) : binop .add (.lst x) (.lst y) = some (.lst (x ++ y), true) := if_pos h
theorem op_addS (x y : Str) (h : x.length + y.length ≤ 16777216) : binop .add (.str x) (.str y) = some (.str (x ++ y), false) := if_pos h
theorem cut_len {α : Type} (l : List α) (a b : Option Int) : (cut l a b).length ≤ l.length := by
  unfold cut
  rw [List.length_take, List.length_drop]
  omega
theorem cut_mem {α : Type} {l : List α} {a b : Option Int} {x : α} (h : x ∈ cut l a b) : x ∈ l := List.mem_of_mem_drop (List.mem_of_mem_take h)
theorem cut_to {α : Type} (l : List α) (k : Nat) (h : k ≤ l.length) : cut l none (some (k : Int)) = l.take k := by
  unfold cut
  rw [HT.sIx_none, HT.sIx_nat, Nat.min_eq_left h]
  simp
theorem cut_from {α : Type} (l : List α) (k : Nat) (h : k ≤ l.length) : cut l (some (k : Int)) none = l.drop k := by
  unfold cut
  rw [HT.sIx_none, HT.sIx_nat, Nat.min_eq_left h]
  rw [List.take_of_length_le (by simp)]
section
variable {P : Pg}
theorem run_oddT (h6 : P.fns 6 = some F__law_draw) (h8 : P.fns 8 = some F__law_pick) (hf : P.fns 10 = some F__law_odd) {s : Bool} {I B n : Nat} (hI : 3 ≤ I) (hB : B < 1000000)
    (l : Nat) {k : Nat} {T : List Nd} {nd : Nd} (ds : List D) (hT : T[k]? = some nd) (hp : isPot nd) (hd : okD s I B (n + 1) (.tup ds) = true) :
    ∃ (v : D) (nd' : Nd), isPot nd' ∧ okD false I (2 * B + 1) (n + 2) v = true ∧ run P (l+3) 10 [(.sh, .own k), (.sh, .tup ds)] T = .ok (v, false) (T.set k nd') := by
  have hs : okD false I (2 * B + 1) (n + 1) (.tup ds) = true := okD_mono (by simp) (Nat.le_refl _) (by omega) (Nat.le_refl _) hd
  have hd := okD_tup.1 hs
  have hdl : ds.length ≤ B := (okD_tup.1 ‹okD s I B (n + 1) (.tup ds) = true›).1
  obtain ⟨v, nd', g1, g2, g3⟩ := run_pickL h6 h8 l [.tup (ds ++ cut ds (some (-1)) none), .tup (cut ds (some 1) none), .lst ds, .tup [], .non, .int 3, .str "x", .tup [.tup ds], .tup (cut ds none (some (-1))), .tup (ds ++ [.int 1])] hT hp (by simp) (by simp)
  have cl : ∀ a b, (cut ds a b).length ≤ B := fun a b => Nat.le_trans (cut_len ds a b) hdl
  refine ⟨v, nd', g2, ?_, ?_⟩
  · have up : ∀ d, okD false I (2 * B + 1) (n + 1) d = true → okD false I (2 * B + 1) (n + 2) d = true := fun d h => okD_mono (by simp) (Nat.le_refl _) (Nat.le_refl _) (by omega) h
    have cm : ∀ a b, ∀ d ∈ cut ds a b, okD false I (2 * B + 1) n d = true := fun a b d h => hd.2 d (cut_mem h)
    have i1 : okD false I (2 * B + 1) (n + 1) (.int 1) = true := decide_eq_true (by show 1 ≤ I; omega)
    have up0 : ∀ d, okD false I (2 * B + 1) n d = true → okD false I (2 * B + 1) (n + 1) d = true := fun d h => okD_mono (by simp) (Nat.le_refl _) (Nat.le_refl _) (by omega) h
    simp only [List.mem_cons, List.not_mem_nil, or_false] at g1
    rcases g1 with rfl | rfl | rfl | rfl | rfl | rfl | rfl | rfl | rfl | rfl
    · refine up _ (okD_tup.2 ⟨?_, fun d h => ?_⟩)
      · rw [List.length_append]; have := cl (some (-1)) none; omega
      · rcases List.mem_append.1 h with h | h
        · exact hd.2 d h
        · exact cm _ _ d h
    · exact up _ (okD_tup.2 ⟨Nat.le_trans (cl _ _) (by omega), cm _ _⟩)
    · exact up _ (okD_lst.2 ⟨rfl, hd.1, hd.2⟩)
    · exact okD_tup.2 ⟨Nat.zero_le _, by simp⟩
    · rfl
    · exact decide_eq_true hI
    · rfl
    · refine okD_tup.2 ⟨by simp, fun d h => ?_⟩
      rcases List.mem_singleton.1 h with rfl
      exact hs
    · exact up _ (okD_tup.2 ⟨Nat.le_trans (cl _ _) (by omega), cm _ _⟩)
    · refine okD_tup.2 ⟨?_, fun d h => ?_⟩
      · rw [List.length_append]; simp; omega
      · rcases List.mem_append.1 h with h | h
        · exact up0 _ (hd.2 d h)
        · rcases List.mem_singleton.1 h with rfl
          exact i1
  · have a1 := op_addT ds (cut ds (some (-1)) none) (by have := cl (some (-1)) none; omega)
    have a2 := op_addT ds [.int 1] (by simp; omega)
    have t1 : isTs .tuple [.int] = false := rfl
    have t2 : isTs .tuple [.str] = false := rfl
    have t3 : isTs .tuple [.tuple] = true := rfl
    have s1 : smallI (-1) = true := by decide
    have s2 : smallI 1 = true := by decide
    rw [run_one hf rfl]
    simp [F__law_odd, initEnv, Env.look, Env.lookAny, t1, t2, t3, a1, a2, s1, s2, Env.target, Env.put, Env.free, M.mode, Env.isOw, g3]
theorem run_oddI (h6 : P.fns 6 = some F__law_draw) (h8 : P.fns 8 = some F__law_pick) (hf : P.fns 10 = some F__law_odd) {I B n : Nat} (hI : 3 ≤ I) (hI2 : I < 18446744073709551616) (hB : 1 ≤ B)
    (l : Nat) {k : Nat} {T : List Nd} {nd : Nd} (i : Int) (hT : T[k]? = some nd) (hp : isPot nd) (hd : i.natAbs ≤ I) :
    ∃ (v : D) (nd' : Nd), isPot nd' ∧ okD false (I + 100) B (n + 2) v = true ∧ run P (l+3) 10 [(.sh, .own k), (.sh, .int i)] T = .ok (v, false) (T.set k nd') := by
  obtain ⟨v, nd', g1, g2, g3⟩ := run_pickL h6 h8 l [.int (i + 1), .int (i - 1), .int 10, .int (-10), .int 100, .bl true, .non, .str (Str.ofString (toString i)), .tup [.int i]] hT hp (by simp) (by simp)
  refine ⟨v, nd', g2, ?_, ?_⟩
  · simp only [List.mem_cons, List.not_mem_nil, or_false] at g1
    rcases g1 with rfl | rfl | rfl | rfl | rfl | rfl | rfl | rfl | rfl
    · exact decide_eq_true (by omega)
    · exact decide_eq_true (by omega)
    · exact decide_eq_true (by show 10 ≤ I + 100; omega)
    · exact decide_eq_true (by show 10 ≤ I + 100; omega)
    · exact decide_eq_true (by show 100 ≤ I + 100; omega)
    · rfl
    · rfl
    · rfl
    · refine okD_tup.2 ⟨hB, fun d h => ?_⟩
      rcases List.mem_singleton.1 h with rfl
      exact decide_eq_true (by omega)
  · have t1 : isTs .int [.int] = true := rfl
    have b1 : bip .str [.int i] = some (.str (Str.ofString (toString i)), false) := if_pos (by show i.natAbs < _; omega)
    rw [run_one hf rfl]
    simp only [toString] at b1 g3
    simp [F__law_odd, initEnv, Env.look, Env.lookAny, t1, b1, M.mode, Env.isOw, g3]
end
end Sr.Pl
end

section
set_option autoImplicit false
set_option linter.all false
set_option Elab.async false
set_option maxHeartbeats 4000000
/-! P6: what the laws share: what is bent. -/
namespace Sr.Pl
open PySem Cm
section
variable {P : Pg}
/-- ints, and tuples of such, n deep -/
def okT (I B : Nat) : Nat → D → Bool
  | 0, _ => false
  | n + 1, d => match d with
    | .int i => decide (i.natAbs ≤ I)
    | .tup l => decide (l.length ≤ B) && l.all (okT I B n)
    | _ => false
theorem okT_tup {I B n : Nat} {l : List D} : okT I B (n + 1) (.tup l) = true ↔ l.length ≤ B ∧ ∀ d ∈ l, okT I B n d = true := by
  show (decide (l.length ≤ B) && l.all (okT I B n)) = true ↔ _
  rw [Bool.and_eq_true, List.all_eq_true, decide_eq_true_iff]
theorem okT_okD {I B : Nat} : ∀ {n : Nat} {d : D}, okT I B n d = true → okD false I B n d = true := by
  intro n
  induction n with
  | zero => intro d h; exact absurd h (by simp [okT])
  | succ n ih =>
    intro d h
    cases d with
    | int i => exact h
    | tup l => exact okD_tup.2 ⟨(okT_tup.1 h).1, fun d hd => ih ((okT_tup.1 h).2 d hd)⟩
    | _ => exact absurd h (by simp [okT])
theorem run_oddA (h6 : P.fns 6 = some F__law_draw) (h8 : P.fns 8 = some F__law_pick) (hf : P.fns 10 = some F__law_odd) {I B n : Nat} (hI : 3 ≤ I) (hI2 : I < 18446744073709551616) (hB : B < 1000000)
    (l : Nat) {k : Nat} {T : List Nd} {nd : Nd} (d : D) (hT : T[k]? = some nd) (hp : isPot nd) (hd : okT I B n d = true) :
    ∃ (v : D) (nd' : Nd), isPot nd' ∧ okD false (I + 100) (2 * B + 1) (n + 1) v = true ∧ run P (l+3) 10 [(.sh, .own k), (.sh, d)] T = .ok (v, false) (T.set k nd') := by
  cases n with
  | zero => exact absurd hd (by simp [okT])
  | succ n =>
    cases d with
    | int i =>
      obtain ⟨v, nd', g1, g2, g3⟩ := run_oddI h6 h8 hf (B := 2 * B + 1) (n := n) hI hI2 (by omega) l i hT hp (of_decide_eq_true hd)
      exact ⟨v, nd', g1, g2, g3⟩
    | tup ds =>
      obtain ⟨v, nd', g1, g2, g3⟩ := run_oddT h6 h8 hf hI hB l ds hT hp (okT_okD hd)
      exact ⟨v, nd', g1, okD_mono (by simp) (by omega) (Nat.le_refl _) (Nat.le_refl _) g2, g3⟩
    | _ => exact absurd hd (by simp [okT])
theorem run_bent (h6 : P.fns 6 = some F__law_draw) (h8 : P.fns 8 = some F__law_pick) (h10 : P.fns 10 = some F__law_odd) (hf : P.fns 9 = some F__law_bent) {I B : Nat} (hI : 3 ≤ I) (hI2 : I < 18446744073709551616) (hB : B < 1000000)
    (l : Nat) {k : Nat} : ∀ (left n : Nat) (T : List Nd) (nd : Nd) (d : D), T[k]? = some nd → isPot nd → okT I B n d = true →
    ∃ (v : D) (nd' : Nd), isPot nd' ∧ okD false (I + 100) (2 * B + 1) (n + 1) v = true ∧ run P (l+4+left) 9 [(.sh, .own k), (.sh, d), (.sh, .int left)] T = .ok (v, false) (T.set k nd') := by
  intro left
  induction left with
  | zero =>
    intro n T nd d hT hp hd
    obtain ⟨v, nd', g1, g2, g3⟩ := run_oddA h6 h8 h10 hI hI2 hB l d hT hp hd
    refine ⟨v, nd', g1, g2, ?_⟩
    cases n with
    | zero => exact absurd hd (by simp [okT])
    | succ n =>
      rw [run_one (l := l + 3) hf rfl]
      cases d with
      | int i =>
        have t1 : isTs .int [.list, .tuple] = false := rfl
        simp [F__law_bent, initEnv, Env.look, Env.lookAny, t1, M.mode, Env.isOw, g3]
      | tup ds =>
        have t1 : isTs .tuple [.list, .tuple] = true := rfl
        by_cases h : 0 < ds.length
        · simp [F__law_bent, initEnv, Env.look, Env.lookAny, t1, h, M.mode, Env.isOw, g3]
        · simp [F__law_bent, initEnv, Env.look, Env.lookAny, t1, h, M.mode, Env.isOw, g3]
      | _ => exact absurd hd (by simp [okT])
  | succ left ih =>
    intro n T nd d hT hp hd
    have hk : k < T.length := (List.getElem?_eq_some_iff.1 hT).1
    cases n with
    | zero => exact absurd hd (by simp [okT])
    | succ n =>
      rw [show l + 4 + (left + 1) = (l + 4 + left) + 1 from rfl, run_one (l := l + 4 + left) hf rfl]
      cases d with
      | int i =>
        obtain ⟨v, nd', g1, g2, g3⟩ := run_oddA h6 h8 h10 hI hI2 hB (l + 1 + left) (.int i) hT hp hd
        refine ⟨v, nd', g1, g2, ?_⟩
        have t1 : isTs .int [.list, .tuple] = false := rfl
        rw [show l + 1 + left + 3 = l + 4 + left from by omega] at g3
        simp [F__law_bent, initEnv, Env.look, Env.lookAny, t1, M.mode, Env.isOw, g3]
      | tup ds =>
        have t1 : isTs .tuple [.list, .tuple] = true := rfl
        by_cases h : 0 < ds.length
        · obtain ⟨v5, nd5, p1, p2, p3, p4⟩ := run_draw h6 (l + 3 + left) (many := 5) hT hp (by decide)
          rw [show l + 3 + left + 1 = l + 4 + left from by omega] at p2
          have hT5 : (T.set k nd5)[k]? = some nd5 := List.getElem?_set_self hk
          by_cases hv : 0 < v5
          · have hd' := okT_tup.1 hd
            obtain ⟨va, nda, q1, q2, q3, q4⟩ := run_draw h6 (l + 3 + left) (many := ds.length) hT5 p1 (by omega)
            rw [show l + 3 + left + 1 = l + 4 + left from by omega] at q2
            obtain ⟨a, rfl⟩ : ∃ n : Nat, va = n := ⟨va.toNat, by omega⟩
            have ha : a < ds.length := by have := q4 (by omega); omega
            rw [List.set_set] at q2
            have hTa : (T.set k nda)[k]? = some nda := List.getElem?_set_self hk
            obtain ⟨w, ndw, r1, r2, r3⟩ := ih n (T.set k nda) nda ds[a] hTa q1 (hd'.2 _ (List.getElem_mem ha))
            rw [List.set_set] at r3
            have e1 := idx_tup ds a ha
            have c1 := cut_to ds a (by omega)
            have c2 := cut_from ds (a + 1) (by omega)
            have s1 := smallN a (by omega)
            have s2' : smallI ((a : Int) + 1) = true := smallI_of (by omega) (by omega)
            have c2' : cut ds (some ((a : Int) + 1)) none = ds.drop (a + 1) := by rw [show ((a : Int) + 1) = ((a + 1 : Nat) : Int) from by omega]; exact c2
            have a1 := op_addT (ds.take a) [w] (by rw [List.length_take]; simp; omega)
            have a2 := op_addT (ds.take a ++ [w]) (ds.drop (a + 1)) (by simp; omega)
            have tl : isTs .tuple [.list] = false := rfl
            have hl : ((left : Int) + 1) - 1 = left := by omega
            have hl2 : (0 : Int) < (left : Int) + 1 := by omega
            refine ⟨.tup (ds.take a ++ [w] ++ ds.drop (a + 1)), ndw, r1, ?_, ?_⟩
            · have up : ∀ d, okT I B n d = true → okD false (I + 100) (2 * B + 1) (n + 1) d = true := fun d h => okD_mono (by simp) (by omega) (by omega) (by omega) (okT_okD h)
              refine okD_tup.2 ⟨by simp; omega, fun x hx => ?_⟩
              rcases List.mem_append.1 hx with hx | hx
              · rcases List.mem_append.1 hx with hx | hx
                · exact up _ (hd'.2 _ (List.mem_of_mem_take hx))
                · rcases List.mem_singleton.1 hx with rfl
                  exact r2
              · exact up _ (hd'.2 _ (List.mem_of_mem_drop hx))
            · simp [F__law_bent, initEnv, Env.look, Env.lookAny, t1, h, M.mode, Env.isOw, p2, hv, q2, hl, hl2, e1, r3, tl, c1, c2', s1, s2', Env.target, Env.put, Env.free, a1, a2, -List.append_assoc]
          · obtain ⟨v, nd', g1, g2, g3⟩ := run_oddA h6 h8 h10 hI hI2 hB (l + 1 + left) (.tup ds) hT5 p1 hd
            refine ⟨v, nd', g1, g2, ?_⟩
            rw [show l + 1 + left + 3 = l + 4 + left from by omega, List.set_set] at g3
            have hl2 : (0 : Int) < (left : Int) + 1 := by omega
            simp [F__law_bent, initEnv, Env.look, Env.lookAny, t1, h, M.mode, Env.isOw, p2, hv, hl2, g3]
        · obtain ⟨v, nd', g1, g2, g3⟩ := run_oddA h6 h8 h10 hI hI2 hB (l + 1 + left) (.tup ds) hT hp hd
          refine ⟨v, nd', g1, g2, ?_⟩
          rw [show l + 1 + left + 3 = l + 4 + left from by omega] at g3
          simp [F__law_bent, initEnv, Env.look, Env.lookAny, t1, h, M.mode, Env.isOw, g3]
      | _ => exact absurd hd (by simp [okT])
end
end Sr.Pl
end

section
set_option autoImplicit false
set_option linter.all false
set_option Elab.async false
set_option maxHeartbeats 4000000
/-! P7: loops over rows, membership, nothing in it. -/
namespace Sr.Pl
open PySem Cm
theorem unlock_nil (r : RS) : r.unlock [] = r := by cases r <;> rfl
theorem exec_for {α : Type} {P : Pg} {call : Call} {k : Nat} {tg : Tg} {it : List M} {body : List S} {env : Env} {T T1 : List Nd} {ds : List D} (f : α → D) (l : List α)
    (hl : lockOf env it = []) (hit : evo P call it env T = .ok ds T1) (hk : items k ds = some (l.map f)) :
    exec P call (.forr k tg it body) env T = forGo tg (fun e t => execs P call body e t) (l.map f) env T1 := by
  rw [exec, hit]
  show (match items k ds with | some xs => _ | none => _) = _
  rw [hk]
  show RS.unlock (lockOf env it) (forGo tg _ _ (env.setMd .lk (lockOf env it)) T1) = _
  rw [hl, unlock_nil]
  rfl
theorem exec_whl {P : Pg} {call : Call} {c : M} {body : List S} {env : Env} {T : List Nd} : exec P call (.whl c body) env T = whlGo (fun e t => (opd e c (ev P call c e) t).bind bol) (fun e t => execs P call body e t) WF env T := by
  rw [exec]; rfl
theorem ev_lam_ex {P : Pg} {call : Call} {f c : Nat} {body : M} {z n : Str} {cs : List (Nat × Str)} {env : Env} {T T' : List Nd} {fs : List D} (hl : P.lks f = some (.raises cs)) (hn : lookX c cs = some n) (hc : c < P.nc) (h : ev P call body env T = .ex c fs T') :
    ev P call (.lam f body z) env T = .ok (.bl (z == n), false) T' := by
  rw [ev]
  show (match P.lks f with | some k => lamEnd P.nc k z (ev P call body env T) | none => .no) = _
  rw [hl, h]
  show (if c < P.nc then (match lookX c cs with | some n => R.ok (D.bl (z == n), false) T' | none => .no) else .no) = _
  rw [if_pos hc, hn]
theorem ev_callv {P : Pg} {call : Call} {i f : Nat} {F : Fn} {es : List M} {env : Env} {T : List Nd} (hl : env.look i T = .ok (.fn f) T) (hf : P.fns f = some F) (hn : es.length = F.np) :
    ev P call (.callv i es) env T = (evo P call es env T).bind fun ds => call f ((es.map (M.mode env)).zip ds) := by
  rw [ev]
  show ((env.look i T).bind _) = _
  rw [hl]
  show ((match P.fns f with | some F => _ | none => _ : Mo _) T) = _
  rw [hf]
  show ((if es.length = F.np then _ else _ : Mo _) T) = _
  rw [if_pos hn]
  rfl
theorem plnL_ints (l : List Int) : D.plnL (l.map D.int) = true := by
  induction l with
  | nil => rfl
  | cons a l ih => exact ih
theorem any_ints (l : List Int) (i : Int) : ((l.map D.int).any fun z => z.eqv (.int i)) = l.any (· == i) := by
  rw [List.any_map]; rfl
theorem cmp_in (l : List Int) (i : Int) : cmpop .isIn (.int i) (.lst (l.map .int)) = some (l.any (· == i)) := by
  show (if ((D.int i).pln && D.plnL (l.map .int) && decide (0 ≤ 64)) = true then some ((l.map D.int).any fun z => z.eqv (.int i)) else none) = _
  rw [plnL_ints, any_ints]; rfl
theorem cmp_notIn (l : List Int) (i : Int) : cmpop .notIn (.int i) (.lst (l.map .int)) = some (!(l.any (· == i))) := by
  show (cmpop .isIn (.int i) (.lst (l.map .int))).map _ = _
  rw [cmp_in]; rfl
theorem cmp_inT (l : List Int) (i : Int) : cmpop .isIn (.int i) (.tup (l.map .int)) = some (l.any (· == i)) := by
  show (if ((D.int i).pln && D.plnL (l.map .int) && decide (0 ≤ 64)) = true then some ((l.map D.int).any fun z => z.eqv (.int i)) else none) = _
  rw [plnL_ints, any_ints]; rfl
theorem cmp_notInT (l : List Int) (i : Int) : cmpop .notIn (.int i) (.tup (l.map .int)) = some (!(l.any (· == i))) := by
  show (cmpop .isIn (.int i) (.tup (l.map .int))).map _ = _
  rw [cmp_inT]; rfl
theorem cmp_eq_empty (l : List D) (h : D.plnL l = true) : cmpop .eq (.lst l) (.lst []) = some l.isEmpty := by
  show (if (D.plnL l && true && decide (min (D.depL l + 1) 1 ≤ 64)) = true then some (D.eqvL l []) else none) = _
  rw [h, if_pos (by simp)]
  cases l <;> rfl
theorem allI_ints (l : List Int) : allI (l.map .int) = some l := by
  induction l with
  | nil => rfl
  | cons a l ih =>
    show (allI (l.map .int)).map (a :: ·) = _
    rw [ih]; rfl
theorem bip_maxT (a : Int) (l : List Int) : bip .max [.tup (.int a :: l.map .int)] = some (.int (l.foldl max a), false) := by
  have h := allI_ints (a :: l)
  rw [List.map_cons] at h
  simp only [bip, seqOf, Option.bind_some, h]
  rfl
theorem map_nat_int (l : List Nat) : (l.map fun (k : Nat) => D.int (k : Int)) = (l.map fun (k : Nat) => (k : Int)).map D.int := by
  rw [List.map_map]; rfl
theorem idx_row (r : List Int) (k : Nat) (h : k < r.length) : idxop (.tup (r.map .int)) (.int (k : Int)) = some (.int (r.getD k 0)) := by
  rw [idx_tmap D.int r k h, List.getD_eq_getElem?_getD, List.getElem?_eq_getElem h]; rfl
/-- a slot that may be set -/
def Fre (x : Option (Md × D)) : Bool := match x with
  | some (.lk, _) => false
  | some (.br, _) => false
  | _ => true
@[simp] theorem Fre_none : Fre none = true := rfl
@[simp] theorem Fre_sh (d : D) : Fre (some (.sh, d)) = true := rfl
@[simp] theorem Fre_ow (d : D) : Fre (some (.ow, d)) = true := rfl
theorem free_at {env : Env} {i : Nat} {x : Option (Md × D)} (h : env[i]? = some x) : env.free i = Fre x := by
  unfold Env.free
  rw [h]
  rcases x with _ | ⟨m, d⟩
  · rfl
  · cases m <;> rfl
theorem put_at {env : Env} {i : Nat} {x : Option (Md × D)} {b : Md × D} {T : List Nd} (h : env[i]? = some x) (hx : Fre x = true) : env.put i b T = .ok (env.set i (some b)) T := by
  show (if env.free i = true then _ else _) = _
  rw [free_at h, if_pos hx]
theorem whl_nx {test : Env → List Nd → R Bool} {body : Env → List Nd → RS} {n : Nat} {env e2 : Env} {T T1 T2 : List Nd} (ht : test env T = .ok true T1) (hb : body env T1 = .nx e2 T2) : whlGo test body (n+1) env T = whlGo test body n e2 T2 := by
  rw [whlGo, ht]
  show (match body env T1 with | _ => _) = _
  rw [hb]
theorem whl_rt {test : Env → List Nd → R Bool} {body : Env → List Nd → RS} {n : Nat} {env : Env} {T T1 T2 : List Nd} {d : D} {fr : Bool} (ht : test env T = .ok true T1) (hb : body env T1 = .rt d fr T2) : whlGo test body (n+1) env T = .rt d fr T2 := by
  rw [whlGo, ht]
  show (match body env T1 with | _ => _) = _
  rw [hb]
theorem whl_stop {test : Env → List Nd → R Bool} {body : Env → List Nd → RS} {n : Nat} {env : Env} {T T1 : List Nd} (ht : test env T = .ok false T1) : whlGo test body (n+1) env T = .nx env T1 := by
  rw [whlGo, ht]
theorem plnL_intf {α : Type} (f : α → Int) (l : List α) : D.plnL (l.map fun a => D.int (f a)) = true := by
  induction l with
  | nil => rfl
  | cons a l ih => exact ih
theorem empty_any {α β : Type} (p : α → Bool) (g : α → β) (l : List α) : ((l.filter p).map g).isEmpty = !(l.any p) := by
  induction l with
  | nil => rfl
  | cons a l ih =>
    cases h : p a
    · rw [List.filter_cons_of_neg (by rw [h]; decide), ih, List.any_cons, h]; rfl
    · rw [List.filter_cons_of_pos h, List.any_cons, h]; rfl
end Sr.Pl
end

section
set_option autoImplicit false
set_option linter.all false
set_option Elab.async false
/-! Gc: the defs of grounds, as core terms (printed by gengc.py). -/
namespace Sr.Gc
open PySem
/-- do_rise -/
def F_do_rise : Fn := ⟨1, 2, [
  .ret (.bi .all [.comp (.cmp .lt (.idx (.var 0) (.var 1)) (.idx (.var 0) (.op2 .add (.var 1) (.cst (.int 1))))) (.nm 1) 1 [.op2 .sub (.bi .len [.var 0]) (.cst (.int 1))] []])]⟩
/-- is_place_of -/
def F_is_place_of (cM : Nat) : Fn := ⟨2, 2, [
  .iff (.not (.call 1 [.var 1, .cst (.int 2), .cst (.int 2), .cst (.int 0), .op2 .sub (.gcst cM) (.cst (.int 1))])) [.ret (.cst (.bl false))] [],
  .ret (.and (.cmp .lt (.idx (.var 1) (.cst (.int 0))) (.bi .len [.var 0])) (.cmp .lt (.idx (.var 1) (.cst (.int 1))) (.bi .len [.idx (.var 0) (.cst (.int 0))])))]⟩
/-- are_rows -/
def F_are_rows (cM cF cS : Nat) : Fn := ⟨1, 3, [
  .iff (.or (.not (.bi (.isinst [.tuple]) [.var 0])) (.not (.chn .le .le (.cst (.int 1)) (.bi .len [.var 0]) (.gcst cM)))) [.ret (.cst (.bl false))] [],
  .iff (.not (.call 1 [.idx (.var 0) (.cst (.int 0)), .cst (.int 1), .gcst cM, .gcst cF, .gcst cS])) [.ret (.cst (.bl false))] [],
  .asg (.nm 1) (.bi .len [.idx (.var 0) (.cst (.int 0))]),
  .ret (.bi .all [.comp (.call 1 [.var 2, .var 1, .var 1, .gcst cF, .gcst cS]) (.nm 2) 0 [.var 0] []])]⟩
/-- is_border -/
def F_is_border : Fn := ⟨2, 2, [
  .ret (.or (.cmp .isIn (.idx (.var 1) (.cst (.int 0))) (.tup [.cst (.int 0), .op2 .sub (.bi .len [.var 0]) (.cst (.int 1))])) (.cmp .isIn (.idx (.var 1) (.cst (.int 1))) (.tup [.cst (.int 0), .op2 .sub (.bi .len [.idx (.var 0) (.cst (.int 0))]) (.cst (.int 1))])))]⟩
/-- is_ground -/
def F_is_ground (cF : Nat) : Fn := ⟨1, 4, [
  .iff (.or (.not (.bi (.isinst [.tuple]) [.var 0])) (.or (.cmp .ne (.bi .len [.var 0]) (.cst (.int 2))) (.not (.call 66 [.idx (.var 0) (.cst (.int 0))])))) [.ret (.cst (.bl false))] [],
  .asg (.tp [1, 2]) (.var 0),
  .iff (.or (.not (.bi (.isinst [.tuple]) [.var 2])) (.cmp .eq (.bi .len [.var 2]) (.cst (.int 0)))) [.ret (.cst (.bl false))] [],
  .iff (.or (.not (.bi .all [.comp (.call 67 [.var 1, .var 3]) (.nm 3) 0 [.var 2] []])) (.not (.call 68 [.var 2]))) [.ret (.cst (.bl false))] [],
  .ret (.bi .all [.comp (.and (.call 69 [.var 1, .var 3]) (.cmp .eq (.idx (.idx (.var 1) (.idx (.var 3) (.cst (.int 0)))) (.idx (.var 3) (.cst (.int 1)))) (.gcst cF))) (.nm 3) 0 [.var 2] []])]⟩
/-- need_ground -/
def F_need_ground (cX : Nat) : Fn := ⟨1, 1, [
  .iff (.not (.call 70 [.var 0])) [.rse cX []] []]⟩
/-- places_with -/
def F_places_with : Fn := ⟨2, 7, [
  .asgO 2 (.lst []),
  .forr 2 (.tp [3, 4]) [.idx (.var 0) (.cst (.int 0))] [.ext (.var 2) (.comp (.tup [.var 3, .var 5]) (.tp [5, 6]) 2 [.var 4] [.cmp .eq (.var 6) (.var 1)])],
  .ret (.bi .tuple [.var 2])]⟩
/-- beside -/
def F_beside : Fn := ⟨2, 6, [
  .asg (.tp [2, 3]) (.var 1),
  .asg (.nm 4) (.lst [.tup [.op2 .sub (.var 2) (.cst (.int 1)), .var 3], .tup [.var 2, .op2 .sub (.var 3) (.cst (.int 1))], .tup [.var 2, .op2 .add (.var 3) (.cst (.int 1))], .tup [.op2 .add (.var 2) (.cst (.int 1)), .var 3]]),
  .ret (.comp (.var 5) (.nm 5) 0 [.var 4] [.and (.chn .le .lt (.cst (.int 0)) (.idx (.var 5) (.cst (.int 0))) (.bi .len [.idx (.var 0) (.cst (.int 0))])) (.chn .le .lt (.cst (.int 0)) (.idx (.var 5) (.cst (.int 1))) (.bi .len [.idx (.idx (.var 0) (.cst (.int 0))) (.cst (.int 0))]))])]⟩
/-- spread -/
def F_spread : Fn := ⟨3, 8, [
  .asgO 3 (.dic [] []),
  .asgO 4 (.comp (.var 5) (.nm 5) 0 [.var 1] [.cmp .isIn (.var 5) (.var 2)]),
  .forr 0 (.nm 5) [.var 4] [.setI (.var 3) (.var 5) (.cst (.bl true))],
  .asg (.nm 6) (.cst (.int 0)),
  .whl (.cmp .lt (.var 6) (.bi .len [.var 4])) [.forr 0 (.nm 7) [.call 71 [.var 0, .idx (.var 4) (.var 6)]] [.iff (.and (.cmp .isIn (.var 7) (.var 2)) (.cmp .notIn (.var 7) (.var 3))) [.setI (.var 3) (.var 7) (.cst (.bl true)), .app (.var 4) (.var 7)] []], .aug .add 6 (.cst (.int 1))],
  .retO 3]⟩
/-- as_set -/
def F_as_set : Fn := ⟨1, 2, [
  .ret (.bi .dict [.comp (.tup [.var 1, .cst (.bl true)]) (.nm 1) 0 [.var 0] []])]⟩
/-- reached_places -/
def F_reached_places (cF : Nat) : Fn := ⟨1, 1, [
  .ret (.call 72 [.var 0, .idx (.var 0) (.cst (.int 1)), .call 73 [.call 74 [.var 0, .gcst cF]]])]⟩
/-- narrow -/
def F_narrow : Fn := ⟨1, 6, [
  .expr (.call 75 [.var 0]),
  .asg (.nm 1) (.call 76 [.var 0]),
  .asgO 2 (.lst []),
  .forr 0 (.nm 3) [.bi .sorted [.bi .list [.var 1]]] [.asg (.nm 4) (.call 73 [.comp (.var 5) (.nm 5) 0 [.var 1] [.cmp .ne (.var 5) (.var 3)]]), .iff (.cmp .lt (.bi .len [.call 72 [.var 0, .idx (.var 0) (.cst (.int 1)), .var 4]]) (.op2 .sub (.bi .len [.var 1]) (.cst (.int 1)))) [.app (.var 2) (.var 3)] []],
  .ret (.bi .tuple [.var 2])]⟩
/-- _law_ground -/
def F__law_ground : Fn := ⟨4, 12, [
  .asg (.tp [4, 5]) (.tup [.op2 .add (.cst (.int 1)) (.call 6 [.var 0, .var 1]), .op2 .add (.cst (.int 1)) (.call 6 [.var 0, .var 2])]),
  .asg (.nm 6) (.comp (.new (.comp (.call 8 [.var 0, .var 3]) (.nm 10) 1 [.var 5] [])) (.nm 9) 1 [.var 4] []),
  .asg (.nm 7) (.lst [.tup [.cst (.int 0), .call 6 [.var 0, .var 5]], .tup [.call 6 [.var 0, .var 4], .cst (.int 0)], .tup [.op2 .sub (.var 4) (.cst (.int 1)), .call 6 [.var 0, .var 5]]]),
  .asg (.nm 8) (.bi .sortSet [.slc (.var 7) (.nil) (.op2 .add (.cst (.int 1)) (.call 6 [.var 0, .cst (.int 3)]))]),
  .forr 0 (.tp [9, 10]) [.var 8] [.setI (.idx (.var 6) (.var 9)) (.var 10) (.cst (.int 0))],
  .ret (.tup [.bi .tuple [.comp (.bi .tuple [.var 11]) (.nm 11) 0 [.var 6] []], .bi .tuple [.var 8]])]⟩
/-- _law_spots -/
def F__law_spots : Fn := ⟨2, 7, [
  .asgO 2 (.lst []),
  .forr 2 (.tp [3, 4]) [.idx (.var 0) (.cst (.int 0))] [.ext (.var 2) (.comp (.tup [.var 3, .var 5]) (.tp [5, 6]) 2 [.var 4] [.cmp .eq (.var 6) (.var 1)])],
  .retO 2]⟩
/-- _law_beside -/
def F__law_beside : Fn := ⟨2, 2, [
  .ret (.cmp .eq (.op2 .add (.bi .abs [.op2 .sub (.idx (.var 0) (.cst (.int 0))) (.idx (.var 1) (.cst (.int 0)))]) (.bi .abs [.op2 .sub (.idx (.var 0) (.cst (.int 1))) (.idx (.var 1) (.cst (.int 1)))])) (.cst (.int 1)))]⟩
/-- _law_flood -/
def F__law_flood : Fn := ⟨2, 7, [
  .asg (.nm 2) (.comp (.var 5) (.nm 5) 0 [.var 0] [.cmp .isIn (.var 5) (.var 1)]),
  .forr 1 (.nm 3) [.bi .len [.var 1]] [.asg (.nm 4) (.comp (.var 5) (.nm 5) 0 [.var 1] [.cmp .notIn (.var 5) (.var 2)]), .asg (.nm 2) (.op2 .add (.var 2) (.comp (.var 5) (.nm 5) 0 [.var 4] [.cmp .ne (.comp (.cst (.int 1)) (.nm 6) 0 [.var 2] [.call 77 [.var 5, .var 6]]) (.lst [])]))],
  .ret (.bi .sortSet [.var 2])]⟩
/-- _law_reached -/
def F__law_reached : Fn := ⟨1, 1, [
  .ret (.call 78 [.bi .list [.idx (.var 0) (.cst (.int 1))], .call 79 [.var 0, .cst (.int 0)]])]⟩
/-- _law_with -/
def F__law_with : Fn := ⟨3, 6, [
  .asg (.nm 3) (.comp (.new (.bi .list [.var 4])) (.nm 4) 0 [.idx (.var 0) (.cst (.int 0))] []),
  .setI (.idx (.var 3) (.idx (.var 1) (.cst (.int 0)))) (.idx (.var 1) (.cst (.int 1))) (.var 2),
  .ret (.tup [.bi .tuple [.comp (.bi .tuple [.var 4]) (.nm 4) 0 [.var 3] []], .bi .tuple [.comp (.var 5) (.nm 5) 0 [.idx (.var 0) (.cst (.int 1))] [.or (.cmp .eq (.var 2) (.cst (.int 0))) (.cmp .ne (.var 5) (.var 1))]]])]⟩
end Sr.Gc
end

section
set_option autoImplicit false
set_option linter.all false
/-! G0: what can be come to; two ways to find it. -/
namespace Sr.G
section
variable {α : Type} [DecidableEq α] [BEq α] [LawfulBEq α]
inductive Rch (st ok : List α) (adj : α → α → Bool) : α → Prop
  | base {x : α} : x ∈ st → x ∈ ok → Rch st ok adj x
  | step {x y : α} : Rch st ok adj x → adj x y = true → y ∈ ok → Rch st ok adj y
variable {st st' ok ok' f q : List α} {adj adj' : α → α → Bool} {x y : α}
theorem Rch.isok (h : Rch st ok adj x) : x ∈ ok := by cases h <;> assumption
theorem Rch.mono (h1 : ∀ x, x ∈ st → x ∈ st') (h2 : ∀ x, x ∈ ok → x ∈ ok') (h3 : ∀ x y, x ∈ ok → y ∈ ok → adj x y = true → adj' x y = true) (h : Rch st ok adj x) : Rch st' ok' adj' x := by
  induction h with
  | base a b => exact .base (h1 _ a) (h2 _ b)
  | step a b c ih => exact .step ih (h3 _ _ a.isok c b) (h2 _ c)
/-- what is closed and has the starts, and nothing else, is it -/
theorem rch_of (h1 : ∀ x, x ∈ st → x ∈ ok → x ∈ q) (h2 : ∀ x, x ∈ q → ∀ y, y ∈ ok → adj x y = true → y ∈ q) (h : Rch st ok adj x) : x ∈ q := by
  induction h with
  | base a b => exact h1 _ a b
  | step a b c ih => exact h2 _ ih _ c b
theorem nodup_len : ∀ {l m : List α}, l.Nodup → (∀ x ∈ l, x ∈ m) → l.length ≤ m.length
  | [], _, _, _ => Nat.zero_le _
  | a :: l, m, nd, h => by
    rw [List.nodup_cons] at nd
    have ha := h a (List.mem_cons_self ..)
    have : l.length ≤ (m.erase a).length := nodup_len nd.2 fun x hx => (List.mem_erase_of_ne (fun (e : x = a) => nd.1 (by rw [← e]; exact hx))).mpr (h x (List.mem_cons_of_mem _ hx))
    rw [List.length_erase_of_mem ha] at this
    have : 0 < m.length := List.length_pos_of_mem ha
    simp only [List.length_cons]
    omega
/-- as many: the same -/
theorem nodup_full {l m : List α} (nd : l.Nodup) (h : ∀ x ∈ l, x ∈ m) (hl : m.length ≤ l.length) : ∀ y ∈ m, y ∈ l := fun y hy => by
  by_cases c : y ∈ l
  · exact c
  · have : (y :: l).length ≤ m.length := nodup_len (List.nodup_cons.mpr ⟨c, nd⟩) fun x hx => by
      rcases List.mem_cons.mp hx with rfl | hx
      · exact hy
      · exact h x hx
    simp only [List.length_cons] at this
    omega
/-! by rounds -/
def rnd (adj : α → α → Bool) (ps f : List α) : List α := f ++ (ps.filter fun x => !f.contains x).filter fun x => f.any fun y => adj x y
def Closed (adj : α → α → Bool) (ps f : List α) : Prop := ∀ x ∈ f, ∀ y ∈ ps, adj x y = true → y ∈ f
theorem mem_rnd {ps : List α} : x ∈ rnd adj ps f ↔ x ∈ f ∨ (x ∈ ps ∧ x ∉ f ∧ ∃ y ∈ f, adj x y = true) := by
  unfold rnd
  simp only [List.mem_append, List.mem_filter, List.any_eq_true, Bool.not_eq_true', List.contains_eq_mem, decide_eq_false_iff_not]
  constructor
  · rintro (h | ⟨⟨h1, h2⟩, h3⟩)
    · exact .inl h
    · exact .inr ⟨h1, h2, h3⟩
  · rintro (h | ⟨h1, h2, h3⟩)
    · exact .inl h
    · exact .inr ⟨⟨h1, h2⟩, h3⟩
theorem rnd_nodup {ps : List α} (hp : ps.Nodup) (hf : f.Nodup) : (rnd adj ps f).Nodup := by
  unfold rnd
  rw [List.nodup_append]
  refine ⟨hf, (hp.filter _).filter _, fun a ha b hb e => ?_⟩
  subst e
  simp only [List.mem_filter, Bool.not_eq_true', List.contains_eq_mem, decide_eq_false_iff_not] at hb
  exact hb.1.2 ha
structure Fl (st ps : List α) (adj : α → α → Bool) (n : Nat) (f : List α) : Prop where
  nd : f.Nodup
  sub : ∀ x ∈ f, x ∈ ps
  inn : ∀ x ∈ st, x ∈ ps → x ∈ f
  snd : ∀ x ∈ f, Rch st ps adj x
  cl : Closed adj ps f ∨ n ≤ f.length
theorem Fl.zero {ps : List α} (hs : st.Nodup) : Fl st ps adj 0 (st.filter fun x => ps.contains x) where
  nd := hs.filter _
  sub := fun x hx => by simpa using (List.mem_filter.mp hx).2
  inn := fun x h1 h2 => List.mem_filter.mpr ⟨h1, by simpa using h2⟩
  snd := fun x hx => .base (List.mem_filter.mp hx).1 (by simpa using (List.mem_filter.mp hx).2)
  cl := .inr (Nat.zero_le _)
theorem Fl.next {ps : List α} {n : Nat} (sym : ∀ x y, adj x y = adj y x) (hp : ps.Nodup) (h : Fl st ps adj n f) : Fl st ps adj (n + 1) (rnd adj ps f) where
  nd := rnd_nodup hp h.nd
  sub := fun x hx => by
    rcases mem_rnd.mp hx with hx | hx
    · exact h.sub x hx
    · exact hx.1
  inn := fun x h1 h2 => mem_rnd.mpr (.inl (h.inn x h1 h2))
  snd := fun x hx => by
    rcases mem_rnd.mp hx with hx | ⟨h1, h2, y, h3, h4⟩
    · exact h.snd x hx
    · exact .step (h.snd y h3) (by rw [sym]; exact h4) h1
  cl := by
    by_cases e : ∃ x, x ∈ ps ∧ x ∉ f ∧ ∃ y ∈ f, adj x y = true
    · rcases h.cl with c | c
      · obtain ⟨x, h1, h2, y, h3, h4⟩ := e
        exact absurd (c y h3 x h1 (by rw [sym]; exact h4)) h2
      · refine .inr ?_
        obtain ⟨x, h1, h2, h3⟩ := e
        have : (x :: f).length ≤ (rnd adj ps f).length := nodup_len (List.nodup_cons.mpr ⟨h2, h.nd⟩) fun z hz => by
          rcases List.mem_cons.mp hz with rfl | hz
          · exact mem_rnd.mpr (.inr ⟨h1, h2, h3⟩)
          · exact mem_rnd.mpr (.inl hz)
        simp only [List.length_cons] at this
        omega
    · refine .inl fun x hx y hy a => ?_
      have same : ∀ z, z ∈ rnd adj ps f → z ∈ f := fun z hz => by
        rcases mem_rnd.mp hz with hz | hz
        · exact hz
        · exact absurd ⟨z, hz⟩ e
      refine mem_rnd.mpr ?_
      by_cases c : y ∈ f
      · exact .inl c
      · exact .inr ⟨hy, c, x, same x hx, by rw [sym]; exact a⟩
theorem Fl.end {ps : List α} (hp : ps.Nodup) (h : Fl st ps adj ps.length f) : ∀ x, x ∈ f ↔ Rch st ps adj x := fun x => by
  refine ⟨h.snd x, fun r => rch_of (q := f) h.inn ?_ r⟩
  rcases h.cl with c | c
  · exact c
  · exact fun x hx y hy _ => nodup_full h.nd h.sub c y hy
/-! by a queue -/
structure Bf (st ps : List α) (adj : α → α → Bool) (at' : Nat) (q : List α) : Prop where
  nd : q.Nodup
  sub : ∀ x ∈ q, x ∈ ps
  inn : ∀ x ∈ st, x ∈ ps → x ∈ q
  snd : ∀ x ∈ q, Rch st ps adj x
  cl : ∀ k, k < at' → ∀ x, q[k]? = some x → ∀ y ∈ ps, adj x y = true → y ∈ q
theorem Bf.zero {ps : List α} (hs : st.Nodup) : Bf st ps adj 0 (st.filter fun x => ps.contains x) where
  nd := hs.filter _
  sub := fun x hx => by simpa using (List.mem_filter.mp hx).2
  inn := fun x h1 h2 => List.mem_filter.mpr ⟨h1, by simpa using h2⟩
  snd := fun x hx => .base (List.mem_filter.mp hx).1 (by simpa using (List.mem_filter.mp hx).2)
  cl := fun k hk => by omega
/-- what is new beside -/
def adds (ps q : List α) (l : List α) : List α := l.foldl (fun q y => if ps.contains y && !q.contains y then q ++ [y] else q) q
theorem adds_mem {ps : List α} : ∀ {l q : List α}, x ∈ adds ps q l ↔ x ∈ q ∨ (x ∈ l ∧ x ∈ ps)
  | [], q => by simp [adds]
  | y :: l, q => by
    show x ∈ adds ps (if ps.contains y && !q.contains y then q ++ [y] else q) l ↔ _
    rw [adds_mem]
    by_cases c : (ps.contains y && !q.contains y) = true
    · rw [if_pos c]
      have c1 : y ∈ ps := by
        rw [Bool.and_eq_true] at c
        simpa using c.1
      simp only [List.mem_append, List.mem_singleton, List.mem_cons, List.not_mem_nil, or_false]
      constructor
      · rintro ((h | rfl) | ⟨h1, h2⟩)
        · exact .inl h
        · exact .inr ⟨.inl rfl, c1⟩
        · exact .inr ⟨.inr h1, h2⟩
      · rintro (h | ⟨rfl | h1, h2⟩)
        · exact .inl (.inl h)
        · exact .inl (.inr rfl)
        · exact .inr ⟨h1, h2⟩
    · rw [if_neg c]
      have c2 : y ∈ ps → y ∈ q := fun h => by
        by_cases e : y ∈ q
        · exact e
        · exact absurd (by simp [h, e]) c
      simp only [List.mem_cons]
      constructor
      · rintro (h | ⟨h1, h2⟩)
        · exact .inl h
        · exact .inr ⟨.inr h1, h2⟩
      · rintro (h | ⟨rfl | h1, h2⟩)
        · exact .inl h
        · exact .inl (c2 h2)
        · exact .inr ⟨h1, h2⟩
theorem adds_nodup {ps : List α} : ∀ {l q : List α}, q.Nodup → (adds ps q l).Nodup
  | [], q, h => h
  | y :: l, q, h => by
    show (adds ps (if ps.contains y && !q.contains y then q ++ [y] else q) l).Nodup
    refine adds_nodup ?_
    by_cases c : (ps.contains y && !q.contains y) = true
    · rw [if_pos c]
      have : y ∉ q := by
        rw [Bool.and_eq_true] at c
        simpa using c.2
      rw [List.nodup_append]
      exact ⟨h, by simp, fun a ha b hb e => by
        rw [List.mem_singleton] at hb
        exact this (hb ▸ e ▸ ha)⟩
    · rw [if_neg c]
      exact h
theorem adds_pre {ps : List α} : ∀ {l q : List α}, q <+: adds ps q l
  | [], q => List.prefix_refl _
  | y :: l, q => by
    show q <+: adds ps (if ps.contains y && !q.contains y then q ++ [y] else q) l
    refine List.IsPrefix.trans ?_ adds_pre
    split
    · exact List.prefix_append ..
    · exact List.prefix_refl _
theorem Bf.next {ps l : List α} {k : Nat} (h : Bf st ps adj k q) (hq : q[k]? = some x) (hl : ∀ y, y ∈ ps → (y ∈ l ↔ adj x y = true)) : Bf st ps adj (k + 1) (adds ps q l) where
  nd := adds_nodup h.nd
  sub := fun z hz => by
    rcases adds_mem.mp hz with hz | hz
    · exact h.sub z hz
    · exact hz.2
  inn := fun z h1 h2 => adds_mem.mpr (.inl (h.inn z h1 h2))
  snd := fun z hz => by
    rcases adds_mem.mp hz with hz | ⟨h1, h2⟩
    · exact h.snd z hz
    · exact .step (h.snd x (List.mem_of_getElem? hq)) ((hl z h2).mp h1) h2
  cl := fun j hj z hz y hy a => by
    have pre : ∀ i, i < q.length → (adds ps q l)[i]? = q[i]? := fun i hi => by
      obtain ⟨t, e⟩ := adds_pre (ps := ps) (l := l) (q := q)
      rw [← e, List.getElem?_append_left hi]
    have hk := (List.getElem?_eq_some_iff.mp hq).1
    rw [pre j (by omega)] at hz
    by_cases e : j = k
    · subst e
      rw [hq] at hz
      cases hz
      exact adds_mem.mpr (.inr ⟨(hl y hy).mpr a, hy⟩)
    · exact adds_mem.mpr (.inl (h.cl j (by omega) z hz y hy a))
theorem Bf.end {ps : List α} {k : Nat} (h : Bf st ps adj k q) (hk : q.length ≤ k) : ∀ x, x ∈ q ↔ Rch st ps adj x := fun x =>
  ⟨h.snd x, fun r => rch_of (q := q) h.inn (fun x hx y hy a => by
    obtain ⟨j, hj, e⟩ := List.getElem_of_mem hx
    exact h.cl j (by omega) x (by rw [List.getElem?_eq_getElem hj, e]) y hy a) r⟩
/-- the place p taken away: it matters by what is still come to -/
theorem less_same {p : α} (q : List α) (hq : ∀ x, x ∈ q ↔ Rch st ok adj x) {q' ok' st' : List α} (h1 : ∀ x, x ∈ q' ↔ x ∈ q ∧ x ≠ p) (h2 : ∀ x, x ∈ ok' ↔ x ∈ ok ∧ x ≠ p) (h3 : ∀ x, x ∈ st' ↔ x ∈ st ∧ x ≠ p) : Rch st q' adj x ↔ Rch st' ok' adj x := by
  constructor
  · intro h
    induction h with
    | @base x a b => exact .base ((h3 x).mpr ⟨a, ((h1 x).mp b).2⟩) ((h2 x).mpr ⟨((hq x).mp ((h1 x).mp b).1).isok, ((h1 x).mp b).2⟩)
    | @step x y a b c ih => exact .step ih b ((h2 y).mpr ⟨((hq y).mp ((h1 y).mp c).1).isok, ((h1 y).mp c).2⟩)
  · intro h
    induction h with
    | @base x a b => exact .base ((h3 x).mp a).1 ((h1 x).mpr ⟨(hq x).mpr (.base ((h3 x).mp a).1 ((h2 x).mp b).1), ((h2 x).mp b).2⟩)
    | @step x y a b c ih => exact .step ih b ((h1 y).mpr ⟨(hq y).mpr (.step ((hq x).mp ((h1 x).mp ih.isok).1) b ((h2 y).mp c).1), ((h2 y).mp c).2⟩)
/-- fewer are come to: one is lacking -/
theorem fewer {p : α} {q s k l : List α} (nq : q.Nodup) (ns : s.Nodup) (hp : p ∈ q) (hs : ∀ x ∈ s, x ∈ q ∧ x ≠ p) (hk : ∀ x, x ∈ k ↔ x ∈ q) (hl : ∀ x, x ∈ l ↔ x ∈ s) : (s.length < q.length - 1) ↔ (k.any fun o => decide (o ≠ p) && !l.contains o) = true := by
  have e : (q.filter fun x => decide (x ≠ p)).length = q.length - 1 := by
    have h1 : (q.erase p).length = q.length - 1 := List.length_erase_of_mem hp
    have h2 : q.erase p = q.filter fun x => x != p := nq.erase_eq_filter p
    rw [← h1, h2]
    congr 1
    apply List.filter_congr
    intro x _
    by_cases c : x = p <;> simp [c]
  have mq : ∀ x, x ∈ (q.filter fun x => decide (x ≠ p)) ↔ x ∈ q ∧ x ≠ p := fun x => by simp
  rw [← e, List.any_eq_true]
  constructor
  · intro h
    apply Classical.byContradiction
    intro hn
    have : (q.filter fun x => decide (x ≠ p)).length ≤ s.length := nodup_len (nq.filter _) fun x hx => by
      apply Classical.byContradiction
      intro hx'
      obtain ⟨h1, h2⟩ := (mq x).mp hx
      exact hn ⟨x, (hk x).mpr h1, by simp [h2, hl, hx']⟩
    omega
  · rintro ⟨o, h1, h2⟩
    have h1 := (hk o).mp h1
    simp only [Bool.and_eq_true, decide_eq_true_eq, Bool.not_eq_true', List.contains_eq_mem, decide_eq_false_iff_not, hl] at h2
    have : (o :: s).length ≤ (q.filter fun x => decide (x ≠ p)).length := nodup_len (List.nodup_cons.mpr ⟨h2.2, ns⟩) fun x hx => by
      rcases List.mem_cons.mp hx with rfl | hx
      · exact (mq _).mpr ⟨h1, h2.1⟩
      · exact (mq _).mpr (hs x hx)
    simp only [List.length_cons] at this
    omega
end
end Sr.G
end

section
set_option autoImplicit false
set_option linter.all false
set_option Elab.async false
set_option maxHeartbeats 4000000
/-! G1: grounds as data; what is walked on them. -/
namespace Sr.G
open PySem Sr.Pl Gc
abbrev Pt := Int × Int
def pl (p : Pt) : D := .tup [.int p.1, .int p.2]
def rwD (r : List Int) : D := .tup (r.map .int)
def grD (R : List (List Int)) (g : List Pt) : D := .tup [.tup (R.map rwD), .tup (g.map pl)]
theorem pl_eqv (a b : Pt) : (pl a).eqv (pl b) = decide (a = b) := by
  obtain ⟨a1, a2⟩ := a
  obtain ⟨b1, b2⟩ := b
  show (a1 == b1 && (a2 == b2 && true)) = _
  rw [beq_dec, beq_dec, Bool.and_true, ← Bool.decide_and]
  simp
theorem pl_inj {a b : Pt} (h : pl a = pl b) : a = b := by
  have := pl_eqv a b
  rw [h] at this
  simp only [pl_eqv, decide_true] at this
  exact of_decide_eq_true this.symm
theorem pl_pln (a : Pt) : (pl a).pln = true := rfl
theorem pl_key (a : Pt) : (pl a).isKey = true := rfl
theorem pl_tup (a : Pt) : (pl a).isTup = true := rfl
theorem pl_dep (a : Pt) : (pl a).dep = 1 := rfl
theorem pl_noOwn (a : Pt) : (pl a).noOwn = true := rfl
theorem plnL_pl (l : List Pt) : D.plnL (l.map pl) = true := plnL_of fun d hd => by
  obtain ⟨a, _, rfl⟩ := List.mem_map.mp hd
  rfl
theorem noOwnL_pl (l : List Pt) : D.noOwnL (l.map pl) = true := noOwnL_of fun d hd => by
  obtain ⟨a, _, rfl⟩ := List.mem_map.mp hd
  rfl
theorem tupL_pl (l : List Pt) : (l.map pl).all D.isTup = true := List.all_eq_true.mpr fun d hd => by
  obtain ⟨a, _, rfl⟩ := List.mem_map.mp hd
  rfl
theorem any_pl (l : List Pt) (a : Pt) : ((l.map pl).any fun z => z.eqv (pl a)) = l.contains a := by
  induction l with
  | nil => rfl
  | cons b l ih =>
    rw [List.map_cons, List.any_cons, ih, pl_eqv, List.contains_cons]
    congr 1
    by_cases h : b = a
    · subst h; simp
    · rw [decide_eq_false h]
      have : ¬ a = b := fun e => h e.symm
      simp [this]
@[simp] theorem in_lst (l : List Pt) (a : Pt) : cmpop .isIn (pl a) (.lst (l.map pl)) = some (l.contains a) := by
  show (if (true && D.plnL (l.map pl) && decide (1 ≤ 64)) = true then some ((l.map pl).any fun z => z.eqv (pl a)) else none) = _
  rw [plnL_pl, any_pl]; rfl
@[simp] theorem in_tup (l : List Pt) (a : Pt) : cmpop .isIn (pl a) (.tup (l.map pl)) = some (l.contains a) := by
  show (if (true && D.plnL (l.map pl) && decide (1 ≤ 64)) = true then some ((l.map pl).any fun z => z.eqv (pl a)) else none) = _
  rw [plnL_pl, any_pl]; rfl
@[simp] theorem in_dic (l : List Pt) (vs : List D) (a : Pt) : cmpop .isIn (pl a) (.dic (l.map pl) vs) = some (l.contains a) := by
  show (if (true && decide (1 ≤ 8)) = true then (if (true && (l.map pl).all D.isTup || (pl a).flatK && (l.map pl).all D.flatK) = true then some ((l.map pl).any fun z => z.eqv (pl a)) else none) else none) = _
  rw [tupL_pl, any_pl]; rfl
@[simp] theorem nin_lst (l : List Pt) (a : Pt) : cmpop .notIn (pl a) (.lst (l.map pl)) = some (!l.contains a) := by
  show (cmpop .isIn (pl a) (.lst (l.map pl))).map _ = _
  rw [in_lst]; rfl
@[simp] theorem nin_dic (l : List Pt) (vs : List D) (a : Pt) : cmpop .notIn (pl a) (.dic (l.map pl) vs) = some (!l.contains a) := by
  show (cmpop .isIn (pl a) (.dic (l.map pl) vs)).map _ = _
  rw [in_dic]; rfl
@[simp] theorem ne_pl (a b : Pt) : cmpop .ne (pl a) (pl b) = some (decide (a ≠ b)) := by
  show (if (true && true && decide (min 1 1 ≤ 64)) = true then some (!(pl a).eqv (pl b)) else none) = _
  rw [if_pos (by decide), pl_eqv, decide_not]
@[simp] theorem idx_gr0 (R : List (List Int)) (g : List Pt) : idxop (grD R g) (.int 0) = some (.tup (R.map rwD)) := eqI rfl
@[simp] theorem idx_gr1 (R : List (List Int)) (g : List Pt) : idxop (grD R g) (.int 1) = some (.tup (g.map pl)) := eqI rfl
@[simp] theorem idx_pl0 (a : Pt) : idxop (pl a) (.int 0) = some (.int a.1) := eqI rfl
@[simp] theorem idx_pl1 (a : Pt) : idxop (pl a) (.int 1) = some (.int a.2) := eqI rfl
@[simp] theorem deref_gr (R : List (List Int)) (g : List Pt) (T : List Nd) : deref (grD R g) T = .ok (grD R g) T := eqI rfl
@[simp] theorem deref_pl (a : Pt) (T : List Nd) : deref (pl a) T = .ok (pl a) T := eqI rfl
@[simp] theorem deref_rw (r : List Int) (T : List Nd) : deref (rwD r) T = .ok (rwD r) T := eqI rfl
@[simp] theorem deref_dic (ks vs : List D) (T : List Nd) : deref (.dic ks vs) T = .ok (.dic ks vs) T := eqI rfl
theorem mk_pl (i j : Int) : D.tup [.int i, .int j] = pl (i, j) := rfl
/-- two slots are set -/
theorem target2 {env : Env} {i j : Nat} {x y : Option (Md × D)} {a b : D} {T : List Nd} (h1 : env[i]? = some x) (hx : Fre x = true) (h2 : (env.set i (some (.sh, a)))[j]? = some y) (hy : Fre y = true) :
    env.target (.tp [i, j]) (.tup [a, b]) T = .ok ((env.set i (some (.sh, a))).set j (some (.sh, b))) T := by
  show ((env.put i (.sh, a) T).bind _) = _
  rw [put_at h1 hx]
  show ((Env.put (env.set i (some (.sh, a))) j (.sh, b) T).bind _) = _
  rw [put_at h2 hy]
  rfl
/-! the places at which something is -/
def rowAt (i : Nat) (r : List Int) (w : Int) : List Pt := (r.zipIdx.filter fun q => q.1 == w).map fun q => ((i : Int), (q.2 : Int))
def sp (R : List (List Int)) (w : Int) : List Pt := R.zipIdx.flatMap fun p => rowAt p.2 p.1 w
theorem zip_ids {α β : Type} (f : α → β) (l : List α) : (l.map f).zipIdx = l.zipIdx.map fun p => (f p.1, p.2) := by
  rw [List.zipIdx_map]; rfl
theorem zip_asc {α : Type} (l : List α) : l.zipIdx.Pairwise fun a b => a.2 < b.2 := by
  rw [List.pairwise_iff_getElem]
  intro i j hi hj h
  simp only [List.getElem_zipIdx, Nat.zero_add]
  exact h
theorem mem_rowAt {i : Nat} {r : List Int} {w : Int} {p : Pt} : p ∈ rowAt i r w ↔ ∃ j : Nat, r[j]? = some w ∧ p = ((i : Int), (j : Int)) := by
  unfold rowAt
  simp only [List.mem_map, List.mem_filter, Prod.exists, List.mem_zipIdx_iff_getElem?, beq_iff_eq]
  constructor
  · rintro ⟨a, j, ⟨h, rfl⟩, rfl⟩
    exact ⟨j, h, rfl⟩
  · rintro ⟨j, h, rfl⟩
    exact ⟨w, j, ⟨h, rfl⟩, rfl⟩
theorem mem_sp {R : List (List Int)} {w : Int} {p : Pt} : p ∈ sp R w ↔ ∃ (i j : Nat) (r : List Int), R[i]? = some r ∧ r[j]? = some w ∧ p = ((i : Int), (j : Int)) := by
  unfold sp
  simp only [List.mem_flatMap, Prod.exists, List.mem_zipIdx_iff_getElem?, mem_rowAt]
  constructor
  · rintro ⟨r, i, h, j, h2, rfl⟩
    exact ⟨i, j, r, h, h2, rfl⟩
  · rintro ⟨i, j, r, h, h2, rfl⟩
    exact ⟨r, i, h, j, h2, rfl⟩
def key (p : Pt) : Int := p.1 * 64 + p.2
def Asc (l : List Pt) : Prop := l.Pairwise fun a b => key a < key b
theorem Asc.nodup {l : List Pt} (h : Asc l) : l.Nodup := List.Pairwise.imp (fun {a b} h e => by subst e; exact Int.lt_irrefl _ h) h
theorem sp_asc {R : List (List Int)} {w : Int} (h : ∀ r ∈ R, r.length ≤ 64) : Asc (sp R w) := by
  unfold sp Asc
  rw [List.pairwise_flatMap]
  refine ⟨fun p hp => ?_, List.Pairwise.imp_of_mem (fun {p q} hp hq hpq x hx y hy => ?_) (zip_asc R)⟩
  · unfold rowAt
    rw [List.pairwise_map]
    refine List.Pairwise.imp (fun {a b} h => ?_) ((zip_asc p.1).filter _)
    show (p.2 : Int) * 64 + (a.2 : Int) < (p.2 : Int) * 64 + (b.2 : Int)
    omega
  · obtain ⟨i, h1, rfl⟩ := mem_rowAt.mp hx
    obtain ⟨j, h2, rfl⟩ := mem_rowAt.mp hy
    have hp' := List.mem_zipIdx_iff_getElem?.mp hp
    have := h p.1 (List.mem_of_getElem? hp')
    have := (List.getElem?_eq_some_iff.mp h1).1
    show (p.2 : Int) * 64 + (i : Int) < (q.2 : Int) * 64 + (j : Int)
    omega
theorem rowAt_len (i : Nat) (r : List Int) (w : Int) : (rowAt i r w).length ≤ r.length := by
  unfold rowAt
  rw [List.length_map]
  exact Nat.le_trans (List.length_filter_le ..) (by rw [List.length_zipIdx]; exact Nat.le_refl _)
theorem sp_len {w : Int} : ∀ (l : List (List Int × Nat)), (∀ p ∈ l, p.1.length ≤ 8) → (l.flatMap fun p => rowAt p.2 p.1 w).length ≤ l.length * 8
  | [], _ => by simp
  | p :: l, h => by
    rw [List.flatMap_cons, List.length_append, List.length_cons, Nat.succ_mul]
    have h1 := sp_len (w := w) l fun q hq => h q (List.mem_cons_of_mem _ hq)
    have h2 := rowAt_len p.2 p.1 w
    have h3 := h p (List.mem_cons_self ..)
    omega
/-- rows that are not long -/
def Few (R : List (List Int)) : Prop := R.length ≤ 8 ∧ ∀ r ∈ R, r.length ≤ 8
section
variable {P : Pg}
theorem run_spotsG {call : Call} {R : List (List Int)} (hR : Few R) (g : List Pt) (w : Int) (T : List Nd) :
    ∃ x3 x4, exec P call (.forr 2 (.tp [3, 4]) [.idx (.var 0) (.cst (.int 0))] [.ext (.var 2) (.comp (.tup [.var 3, .var 5]) (.tp [5, 6]) 2 [.var 4] [.cmp .eq (.var 6) (.var 1)])]) [some (.sh, grD R g), some (.sh, .int w), some (.ow, .lst []), none, none, none, none] T
      = .nx [some (.sh, grD R g), some (.sh, .int w), some (.ow, .lst ((sp R w).map pl)), x3, x4, none, none] T := by
  rw [exec_for (T1 := T) (fun (p : List Int × Nat) => D.tup [.int (p.2 : Nat), rwD p.1]) R.zipIdx (ds := [.tup (R.map rwD)])]
  · obtain ⟨env', T', h1, h2⟩ := forGo_inv (tg := .tp [3, 4]) (body := fun e t => execs P call [.ext (.var 2) (.comp (.tup [.var 3, .var 5]) (.tp [5, 6]) 2 [.var 4] [.cmp .eq (.var 6) (.var 1)])] e t) (fun (p : List Int × Nat) => D.tup [.int (p.2 : Nat), rwD p.1])
      (fun rest env T' => T' = T ∧ ∃ done x3 x4, done ++ rest = R.zipIdx ∧ Fre x3 = true ∧ Fre x4 = true ∧ env = [some (.sh, grD R g), some (.sh, .int w), some (.ow, .lst ((done.flatMap fun p => rowAt p.2 p.1 w).map pl)), x3, x4, none, none])
      (by
        rintro ⟨r, i⟩ rest env T' ⟨rfl, done, x3, x4, hd, f3, f4, rfl⟩
        have hmem : ∀ p ∈ R.zipIdx, p.1.length ≤ 8 := fun p hp => hR.2 _ (List.mem_of_getElem? (List.mem_zipIdx_iff_getElem?.mp hp))
        have hlen : done.length ≤ 8 := by
          have := congrArg List.length hd
          rw [List.length_append, List.length_zipIdx] at this
          have := hR.1
          omega
        have hdl := sp_len (w := w) done fun p hp => hmem p (by rw [← hd]; exact List.mem_append_left _ hp)
        have hr : r.length ≤ 8 := hmem (r, i) (by rw [← hd]; exact List.mem_append_right _ (List.mem_cons_self ..))
        have hc : ev P call (.comp (.tup [.var 3, .var 5]) (.tp [5, 6]) 2 [.var 4] [.cmp .eq (.var 6) (.var 1)]) [some (.sh, grD R g), some (.sh, .int w), some (.ow, .lst ((done.flatMap fun p => rowAt p.2 p.1 w).map pl)), some (.sh, .int (i : Int)), some (.sh, rwD r), none, none] T' = .ok (.lst ((rowAt i r w).map pl), true) T' := by
          rw [ev_comp (fun (q : Int × Nat) => D.tup [.int (q.2 : Nat), .int q.1]) (fun q => q.1 == w) (fun q => pl ((i : Int), (q.2 : Int))) r.zipIdx (ds := [rwD r])]
          · unfold rowAt
            rw [List.map_map]; rfl
          · simp [Env.lookAny]
          · show some ((r.map D.int).zipIdx.map _) = _
            rw [zip_ids, List.map_map]; rfl
          · rw [List.length_zipIdx]; exact le_SZ (by omega)
          · rintro ⟨v, j⟩ hj
            refine ⟨[some (.sh, grD R g), some (.sh, .int w), some (.ow, .lst ((done.flatMap fun p => rowAt p.2 p.1 w).map pl)), some (.sh, .int (i : Int)), some (.sh, rwD r), some (.sh, .int (j : Int)), some (.sh, .int v)], rfl, ?_, fun _ => ⟨false, ?_⟩⟩
            · simp [Env.lookAny, beq_dec]
            · simp [Env.look, pl]
        have hx : extD (.lst ((done.flatMap fun p => rowAt p.2 p.1 w).map pl)) (.lst ((rowAt i r w).map pl)) = some (.lst (((done ++ [(r, i)]).flatMap fun p => rowAt p.2 p.1 w).map pl)) := by
          show (if _ < SZ then _ else _) = _
          rw [if_pos]
          · simp
          · rw [List.length_map, List.length_map]
            have := rowAt_len i r w
            exact Nat.lt_of_le_of_lt (m := 200) (by omega) (by decide)
        refine ⟨[some (.sh, grD R g), some (.sh, .int w), some (.ow, .lst ((done.flatMap fun p => rowAt p.2 p.1 w).map pl)), some (.sh, .int (i : Int)), some (.sh, rwD r), none, none], _, T', _, target2 rfl f3 rfl f4, ?_, rfl, done ++ [(r, i)], some (.sh, .int (i : Int)), some (.sh, rwD r), by rw [List.append_assoc]; exact hd, rfl, rfl, rfl⟩
        simp [Env.lookAny, derefT, tyD, hc, updO, hx])
      R.zipIdx [some (.sh, grD R g), some (.sh, .int w), some (.ow, .lst []), none, none, none, none] T ⟨rfl, [], none, none, rfl, rfl, rfl, rfl⟩
    obtain ⟨rfl, done, x3, x4, hd, _, _, rfl⟩ := h2
    rw [List.append_nil] at hd
    subst hd
    exact ⟨x3, x4, h1⟩
  · simp [lockOf]
  · simp [Env.lookAny]
  · show some ((R.map rwD).zipIdx.map _) = _
    rw [zip_ids, List.map_map]; rfl
theorem run_spots (hf : P.fns 79 = some F__law_spots) (l : Nat) {R : List (List Int)} (hR : Few R) (g : List Pt) (w : Int) (T : List Nd) : run P (l+1) 79 [(.sh, grD R g), (.sh, .int w)] T = .ok (.lst ((sp R w).map pl), true) T := by
  obtain ⟨x3, x4, h⟩ := run_spotsG (P := P) (call := run P l) hR g w T
  rw [run_one hf rfl]
  simp [F__law_spots, initEnv, Env.put, Env.free, h]
theorem run_with (hf : P.fns 74 = some F_places_with) (l : Nat) {R : List (List Int)} (hR : Few R) (g : List Pt) (w : Int) (T : List Nd) : run P (l+1) 74 [(.sh, grD R g), (.sh, .int w)] T = .ok (.tup ((sp R w).map pl), false) T := by
  obtain ⟨x3, x4, h⟩ := run_spotsG (P := P) (call := run P l) hR g w T
  rw [run_one hf rfl]
  simp [F_places_with, initEnv, Env.put, Env.free, h, Env.lookAny, bip, seqOf]
end
end Sr.G
end

section
set_option autoImplicit false
set_option linter.all false
set_option Elab.async false
set_option maxHeartbeats 4000000
/-! G2: beside, flood. -/
namespace Sr.G
open PySem Sr.Pl Gc
structure Shp (R : List (List Int)) (h w : Nat) : Prop where
  len : R.length = h
  row : ∀ r ∈ R, r.length = w
  h1 : 1 ≤ h
  h8 : h ≤ 8
  w1 : 1 ≤ w
  w8 : w ≤ 8
theorem Shp.few {R : List (List Int)} {h w : Nat} (S : Shp R h w) : Few R := ⟨by rw [S.len]; exact S.h8, fun r hr => by rw [S.row r hr]; exact S.w8⟩
def inb (h w : Nat) (q : Pt) : Bool := decide (0 ≤ q.1) && decide (q.1 < (h : Int)) && (decide (0 ≤ q.2) && decide (q.2 < (w : Int)))
def ab (i : Int) : Int := if i < 0 then -i else i
def adjB (p q : Pt) : Bool := decide (ab (p.1 - q.1) + ab (p.2 - q.2) = 1)
theorem adj_sym (p q : Pt) : adjB p q = adjB q p := by
  unfold adjB ab
  refine decide_eq_decide.mpr ?_
  split <;> split <;> split <;> split <;> omega
def nbs (p : Pt) : List Pt := [(p.1 - 1, p.2), (p.1, p.2 - 1), (p.1, p.2 + 1), (p.1 + 1, p.2)]
def bes (h w : Nat) (p : Pt) : List Pt := (nbs p).filter (inb h w)
theorem mem_nbs (p q : Pt) : q ∈ nbs p ↔ adjB p q = true := by
  obtain ⟨a, b⟩ := p
  obtain ⟨c, d⟩ := q
  unfold nbs adjB ab
  simp only [List.mem_cons, Prod.mk.injEq, List.not_mem_nil, or_false, decide_eq_true_eq]
  split <;> split <;> omega
theorem mem_bes {h w : Nat} {p q : Pt} (hq : inb h w q = true) : q ∈ bes h w p ↔ adjB p q = true := by
  unfold bes
  rw [List.mem_filter, mem_nbs]
  simp [hq]
theorem sp_inb {R : List (List Int)} {h w : Nat} (S : Shp R h w) {v : Int} {p : Pt} (hp : p ∈ sp R v) : inb h w p = true := by
  obtain ⟨i, j, r, h1, h2, rfl⟩ := mem_sp.mp hp
  have a := (List.getElem?_eq_some_iff.mp h1).1
  have b := (List.getElem?_eq_some_iff.mp h2).1
  rw [S.len] at a
  rw [S.row r (List.mem_of_getElem? h1)] at b
  unfold inb
  simp; omega
theorem inb_bd {h w : Nat} {p : Pt} (h8 : h ≤ 8) (w8 : w ≤ 8) (hp : inb h w p = true) : (0 ≤ p.1 ∧ p.1 < 8) ∧ 0 ≤ p.2 ∧ p.2 < 8 := by
  unfold inb at hp
  simp at hp
  omega
theorem bip_abs (i : Int) : bip .abs [.int i] = some (.int (ab i), false) := eqI rfl
@[simp] theorem bip_lenT (l : List D) : bip .len [.tup l] = some (.int l.length, false) := eqI rfl
@[simp] theorem bip_lenL (l : List D) : bip .len [.lst l] = some (.int l.length, false) := eqI rfl
@[simp] theorem bip_lenRw (r : List Int) : bip .len [rwD r] = some (.int r.length, false) := by
  unfold rwD
  rw [bip_lenT, List.length_map]
@[simp] theorem bip_lenDic (ks vs : List D) : bip .len [.dic ks vs] = some (.int ks.length, false) := eqI rfl
section
variable {P : Pg}
theorem idx_rows0 {R : List (List Int)} {h w : Nat} (S : Shp R h w) : ∃ r0 ∈ R, idxop (.tup (R.map rwD)) (.int 0) = some (rwD r0) := by
  have h0 : 0 < R.length := by rw [S.len]; exact S.h1
  exact ⟨R[0], List.getElem_mem h0, idx_tmap rwD R 0 h0⟩
theorem run_beside (hf : P.fns 71 = some F_beside) (l : Nat) {R : List (List Int)} {h w : Nat} (S : Shp R h w) (g : List Pt) (p : Pt) (T : List Nd) : run P (l+1) 71 [(.sh, grD R g), (.sh, pl p)] T = .ok (.lst ((bes h w p).map pl), true) T := by
  obtain ⟨r0, hr0, e0⟩ := idx_rows0 S
  have hl := S.row r0 hr0
  have hL := S.len
  have t1 : Env.target [some (.sh, grD R g), some (.sh, pl p), none, none, none, none] (.tp [2, 3]) (pl p) T = .ok [some (.sh, grD R g), some (.sh, pl p), some (.sh, .int p.1), some (.sh, .int p.2), none, none] T := rfl
  have hc : ev P (run P l) (.comp (.var 5) (.nm 5) 0 [.var 4] [.and (.chn .le .lt (.cst (.int 0)) (.idx (.var 5) (.cst (.int 0))) (.bi .len [.idx (.var 0) (.cst (.int 0))])) (.chn .le .lt (.cst (.int 0)) (.idx (.var 5) (.cst (.int 1))) (.bi .len [.idx (.idx (.var 0) (.cst (.int 0))) (.cst (.int 0))]))])
      [some (.sh, grD R g), some (.sh, pl p), some (.sh, .int p.1), some (.sh, .int p.2), some (.sh, .lst ((nbs p).map pl)), none] T = .ok (.lst ((bes h w p).map pl), true) T := by
    rw [ev_comp pl (inb h w) pl (nbs p) (ds := [.lst ((nbs p).map pl)])]
    · rfl
    · simp [Env.lookAny]
    · rfl
    · exact le_SZ (by simp [nbs])
    · intro q hq
      refine ⟨[some (.sh, grD R g), some (.sh, pl p), some (.sh, .int p.1), some (.sh, .int p.2), some (.sh, .lst ((nbs p).map pl)), some (.sh, pl q)], rfl, ?_, fun _ => ⟨false, ?_⟩⟩
      · have e1 : inb h w q = (decide (0 ≤ q.1) && decide (q.1 < (h : Int)) && (decide (0 ≤ q.2) && decide (q.2 < (w : Int)))) := rfl
        rw [e1]
        by_cases c1 : 0 ≤ q.1
        · by_cases c2 : q.1 < (h : Int)
          · by_cases c3 : 0 ≤ q.2
            · simp [Env.lookAny, e0, hl, hL, c1, c2, c3]
            · simp [Env.lookAny, e0, hl, hL, c1, c2, c3]
          · simp [Env.lookAny, e0, hl, hL, c1, c2]
        · simp [Env.lookAny, e0, hl, hL, c1]
      · simp [Env.look]
  have e2 : D.lst [.tup [.int (p.1 - 1), .int p.2], .tup [.int p.1, .int (p.2 - 1)], .tup [.int p.1, .int (p.2 + 1)], .tup [.int (p.1 + 1), .int p.2]] = .lst ((nbs p).map pl) := rfl
  rw [run_one hf rfl]
  simp [F_beside, initEnv, Env.look, Env.lookAny, t1]
  simp [Env.target, Env.put, Env.free, e2, hc]
theorem run_adj (hf : P.fns 77 = some F__law_beside) (l : Nat) (p q : Pt) (T : List Nd) : run P (l+1) 77 [(.sh, pl p), (.sh, pl q)] T = .ok (.bl (adjB p q), false) T := by
  rw [run_one hf rfl]
  simp [F__law_beside, initEnv, Env.look, Env.lookAny, bip_abs, adjB, ab]
  exact decide_eq_decide.mpr Iff.rfl
/-! ascending, each once -/
def unpl : D → Pt
  | .tup [.int a, .int b] => (a, b)
  | _ => (0, 0)
theorem cd_pl (p : Pt) : cd (pl p) = key p := L2.code_pair p.1 p.2
theorem asc_uniq {l m : List Pt} (h1 : Asc l) (h2 : Asc m) (h : ∀ x, x ∈ l ↔ x ∈ m) : l = m := lt_uniq h1 h2 h
theorem asc_pl {l : List D} (h : ∀ d ∈ l, ∃ p, d = pl p) (hp : l.Pairwise fun a b => cd a < cd b) : ∃ k : List Pt, l = k.map pl ∧ Asc k := by
  have e : l = (l.map unpl).map pl := by
    rw [List.map_map]
    refine (List.map_id l).symm.trans (List.map_congr_left fun d hd => ?_)
    obtain ⟨p, rfl⟩ := h d hd
    rfl
  refine ⟨l.map unpl, e, ?_⟩
  rw [e, List.pairwise_map] at hp
  exact List.Pairwise.imp (fun {a b} h => by rw [cd_pl, cd_pl] at h; exact h) hp
theorem smT_pl {p : Pt} (h : (0 ≤ p.1 ∧ p.1 < 8) ∧ 0 ≤ p.2 ∧ p.2 < 8) : smT 2 (pl p) = true := by
  unfold smT pl
  simp [smI]; omega
theorem sset_pl {f : List Pt} (hb : ∀ p ∈ f, (0 ≤ p.1 ∧ p.1 < 8) ∧ 0 ≤ p.2 ∧ p.2 < 8) (hl : f.length < 64) : ∃ k : List Pt, bip .sortSet [.lst (f.map pl)] = some (.lst (k.map pl), true) ∧ Asc k ∧ ∀ x, x ∈ k ↔ x ∈ f := by
  have hs : ∀ y ∈ f.map pl, smT 2 y = true := fun y hy => by
    obtain ⟨p, hp, rfl⟩ := List.mem_map.mp hy
    exact smT_pl (hb p hp)
  obtain ⟨g1, g2⟩ := sset_ok hs
  obtain ⟨k, e, a⟩ := asc_pl (l := sortD (dedD (f.map pl))) (fun d hd => by
    obtain ⟨p, _, rfl⟩ := List.mem_map.mp ((g2 d).mp hd)
    exact ⟨p, rfl⟩) g1
  refine ⟨k, ?_, a, fun x => ?_⟩
  · show (if smTs (f.map pl) = true then some (D.lst (sortD (dedD (f.map pl))), true) else none) = _
    rw [if_pos, e]
    unfold smTs
    rw [Bool.and_eq_true, decide_eq_true_eq, List.length_map]
    refine ⟨hl, List.all_eq_true.mpr ?_⟩
    cases f with
    | nil => simp
    | cons p f => exact hs
  · have : pl x ∈ k.map pl ↔ pl x ∈ f.map pl := by rw [← e]; exact g2 _
    simp only [List.mem_map] at this
    constructor
    · intro h
      obtain ⟨y, hy, e⟩ := this.mp ⟨x, h, rfl⟩
      exact pl_inj e ▸ hy
    · intro h
      obtain ⟨y, hy, e⟩ := this.mpr ⟨x, h, rfl⟩
      exact pl_inj e ▸ hy
/-! flood -/
theorem run_flood (h77 : P.fns 77 = some F__law_beside) (hf : P.fns 78 = some F__law_flood) (l : Nat) {st ps : List Pt} (hs : st.Nodup) (hp : ps.Nodup) (hb : ∀ p ∈ ps, (0 ≤ p.1 ∧ p.1 < 8) ∧ 0 ≤ p.2 ∧ p.2 < 8) (hl : ps.length < 64) (hsl : st.length < 64) (T : List Nd) :
    ∃ k, run P (l+2) 78 [(.sh, .lst (st.map pl)), (.sh, .lst (ps.map pl))] T = .ok (.lst (k.map pl), true) T ∧ Asc k ∧ ∀ x, x ∈ k ↔ Rch st ps adjB x := by
  have c0 : ev P (run P (l+1)) (.comp (.var 5) (.nm 5) 0 [.var 0] [.cmp .isIn (.var 5) (.var 1)]) [some (.sh, .lst (st.map pl)), some (.sh, .lst (ps.map pl)), none, none, none, none, none] T = .ok (.lst ((st.filter fun x => ps.contains x).map pl), true) T := by
    rw [ev_comp pl (fun x => ps.contains x) pl st (ds := [.lst (st.map pl)])]
    · simp [Env.lookAny]
    · rfl
    · exact le_SZ (by omega)
    · intro q hq
      refine ⟨[some (.sh, .lst (st.map pl)), some (.sh, .lst (ps.map pl)), none, none, none, some (.sh, pl q), none], rfl, ?_, fun _ => ⟨false, ?_⟩⟩
      · simp [Env.lookAny]
      · simp [Env.look]
  have hfor : ∃ f x3 x4, Fl st ps adjB ps.length f ∧ exec P (run P (l+1)) (.forr 1 (.nm 3) [.bi .len [.var 1]] [.asg (.nm 4) (.comp (.var 5) (.nm 5) 0 [.var 1] [.cmp .notIn (.var 5) (.var 2)]), .asg (.nm 2) (.op2 .add (.var 2) (.comp (.var 5) (.nm 5) 0 [.var 4] [.cmp .ne (.comp (.cst (.int 1)) (.nm 6) 0 [.var 2] [.call 77 [.var 5, .var 6]]) (.lst [])]))])
      [some (.sh, .lst (st.map pl)), some (.sh, .lst (ps.map pl)), some (.sh, .lst ((st.filter fun x => ps.contains x).map pl)), none, none, none, none] T = .nx [some (.sh, .lst (st.map pl)), some (.sh, .lst (ps.map pl)), some (.sh, .lst (f.map pl)), x3, x4, none, none] T := by
    rw [exec_for (T1 := T) (fun (j : Nat) => D.int (j : Int)) (List.range ps.length) (ds := [.int ps.length])]
    · obtain ⟨env', T', h1, h2⟩ := forGo_inv (tg := .nm 3) (body := fun e t => execs P (run P (l+1)) [.asg (.nm 4) (.comp (.var 5) (.nm 5) 0 [.var 1] [.cmp .notIn (.var 5) (.var 2)]), .asg (.nm 2) (.op2 .add (.var 2) (.comp (.var 5) (.nm 5) 0 [.var 4] [.cmp .ne (.comp (.cst (.int 1)) (.nm 6) 0 [.var 2] [.call 77 [.var 5, .var 6]]) (.lst [])]))] e t) (fun (j : Nat) => D.int (j : Int))
        (fun rest env T' => T' = T ∧ ∃ done f x3 x4, done ++ rest = List.range ps.length ∧ Fl st ps adjB done.length f ∧ Fre x3 = true ∧ Fre x4 = true ∧ env = [some (.sh, .lst (st.map pl)), some (.sh, .lst (ps.map pl)), some (.sh, .lst (f.map pl)), x3, x4, none, none])
        (by
          rintro j rest env T' ⟨rfl, done, f, x3, x4, hd, F, f3, f4, rfl⟩
          have hfl : f.length ≤ ps.length := nodup_len F.nd F.sub
          have c1 : ev P (run P (l+1)) (.comp (.var 5) (.nm 5) 0 [.var 1] [.cmp .notIn (.var 5) (.var 2)]) [some (.sh, .lst (st.map pl)), some (.sh, .lst (ps.map pl)), some (.sh, .lst (f.map pl)), some (.sh, .int (j : Int)), x4, none, none] T' = .ok (.lst ((ps.filter fun x => !f.contains x).map pl), true) T' := by
            rw [ev_comp pl (fun x => !f.contains x) pl ps (ds := [.lst (ps.map pl)])]
            · simp [Env.lookAny]
            · rfl
            · exact le_SZ (by omega)
            · intro q hq
              refine ⟨[some (.sh, .lst (st.map pl)), some (.sh, .lst (ps.map pl)), some (.sh, .lst (f.map pl)), some (.sh, .int (j : Int)), x4, some (.sh, pl q), none], rfl, ?_, fun _ => ⟨false, ?_⟩⟩
              · simp [Env.lookAny]
              · simp [Env.look]
          have c2 : ∀ q : Pt, ev P (run P (l+1)) (.comp (.cst (.int 1)) (.nm 6) 0 [.var 2] [.call 77 [.var 5, .var 6]]) [some (.sh, .lst (st.map pl)), some (.sh, .lst (ps.map pl)), some (.sh, .lst (f.map pl)), some (.sh, .int (j : Int)), some (.sh, .lst ((ps.filter fun x => !f.contains x).map pl)), some (.sh, pl q), none] T' = .ok (.lst ((f.filter fun y => adjB q y).map fun _ => .int 1), true) T' := fun q => by
            rw [ev_comp pl (fun y => adjB q y) (fun _ => .int 1) f (ds := [.lst (f.map pl)])]
            · simp [Env.lookAny]
            · rfl
            · exact le_SZ (by omega)
            · intro y hy
              refine ⟨[some (.sh, .lst (st.map pl)), some (.sh, .lst (ps.map pl)), some (.sh, .lst (f.map pl)), some (.sh, .int (j : Int)), some (.sh, .lst ((ps.filter fun x => !f.contains x).map pl)), some (.sh, pl q), some (.sh, pl y)], rfl, ?_, fun _ => ⟨false, ?_⟩⟩
              · have := run_adj h77 l q y T'
                simp [Env.lookAny, M.mode, Env.isOw, this]
              · simp
          have c3 : ev P (run P (l+1)) (.comp (.var 5) (.nm 5) 0 [.var 4] [.cmp .ne (.comp (.cst (.int 1)) (.nm 6) 0 [.var 2] [.call 77 [.var 5, .var 6]]) (.lst [])]) [some (.sh, .lst (st.map pl)), some (.sh, .lst (ps.map pl)), some (.sh, .lst (f.map pl)), some (.sh, .int (j : Int)), some (.sh, .lst ((ps.filter fun x => !f.contains x).map pl)), none, none] T' = .ok (.lst (((ps.filter fun x => !f.contains x).filter fun x => f.any fun y => adjB x y).map pl), true) T' := by
            rw [ev_comp pl (fun x => f.any fun y => adjB x y) pl (ps.filter fun x => !f.contains x) (ds := [.lst ((ps.filter fun x => !f.contains x).map pl)])]
            · simp [Env.lookAny]
            · rfl
            · exact le_SZ (Nat.le_trans (List.length_filter_le ..) (by omega))
            · intro q hq
              refine ⟨[some (.sh, .lst (st.map pl)), some (.sh, .lst (ps.map pl)), some (.sh, .lst (f.map pl)), some (.sh, .int (j : Int)), some (.sh, .lst ((ps.filter fun x => !f.contains x).map pl)), some (.sh, pl q), none], rfl, ?_, fun _ => ⟨false, ?_⟩⟩
              · have e := cmp_eq_empty ((f.filter fun y => adjB q y).map fun _ => D.int 1) (plnL_intf (fun _ => 1) _)
                have e2 : cmpop .ne (.lst ((f.filter fun y => adjB q y).map fun _ => D.int 1)) (.lst []) = some (f.any fun y => adjB q y) := by
                  have : cmpop .ne (.lst ((f.filter fun y => adjB q y).map fun _ => D.int 1)) (.lst []) = (cmpop .eq (.lst ((f.filter fun y => adjB q y).map fun _ => D.int 1)) (.lst [])).map (!·) := by
                    simp only [cmpop]
                    split <;> rfl
                  rw [this, e, empty_any]
                  simp
                simp [-List.contains_eq_mem, c2, e2]
              · simp [Env.look]
          have ha : binop .add (.lst (f.map pl)) (.lst (((ps.filter fun x => !f.contains x).filter fun x => f.any fun y => adjB x y).map pl)) = some (.lst ((rnd adjB ps f).map pl), true) := by
            rw [op_addL]
            · rw [← List.map_append]; rfl
            · rw [List.length_map, List.length_map]
              have := List.length_filter_le (fun x => f.any fun y => adjB x y) (ps.filter fun x => !f.contains x)
              have := List.length_filter_le (fun x => !f.contains x) ps
              omega
          refine ⟨[some (.sh, .lst (st.map pl)), some (.sh, .lst (ps.map pl)), some (.sh, .lst (f.map pl)), some (.sh, .int (j : Int)), x4, none, none], [some (.sh, .lst (st.map pl)), some (.sh, .lst (ps.map pl)), some (.sh, .lst ((rnd adjB ps f).map pl)), some (.sh, .int (j : Int)), some (.sh, .lst ((ps.filter fun x => !f.contains x).map pl)), none, none], T', T', ?_, ?_, rfl, done ++ [j], rnd adjB ps f, _, _, by rw [List.append_assoc]; exact hd, ?_, rfl, rfl, rfl⟩
          · exact put_at (x := x3) rfl f3
          · have t4 : Env.target [some (.sh, .lst (st.map pl)), some (.sh, .lst (ps.map pl)), some (.sh, .lst (f.map pl)), some (.sh, .int (j : Int)), x4, none, none] (.nm 4) (.lst ((ps.filter fun x => !f.contains x).map pl)) T' = .ok [some (.sh, .lst (st.map pl)), some (.sh, .lst (ps.map pl)), some (.sh, .lst (f.map pl)), some (.sh, .int (j : Int)), some (.sh, .lst ((ps.filter fun x => !f.contains x).map pl)), none, none] T' := put_at (x := x4) rfl f4
            simp only [Pl.execs_cons, Pl.execs_nil, exec_asg, c1, thenR_ok, t4, go_nx, ev_op2, opd_var, opd_comp, c3, Env.lookAny, List.getElem?_cons_succ, List.getElem?_cons_zero, bindOk, bindM, bindM', fstR_ok, ha, ofO_some]
            simp [-List.contains_eq_mem, Env.target, Env.put, Env.free]
          · rw [List.length_append]
            exact F.next adj_sym hp)
        (List.range ps.length) [some (.sh, .lst (st.map pl)), some (.sh, .lst (ps.map pl)), some (.sh, .lst ((st.filter fun x => ps.contains x).map pl)), none, none, none, none] T ⟨rfl, [], _, none, none, rfl, Fl.zero hs, rfl, rfl, rfl⟩
      obtain ⟨rfl, done, f, x3, x4, hd, F, _, _, rfl⟩ := h2
      rw [List.append_nil] at hd
      subst hd
      rw [List.length_range] at F
      exact ⟨f, x3, x4, F, h1⟩
    · simp [lockOf]
    · simp [Env.lookAny]
    · rw [items_1]; exact rngop_n _ (by omega)
  obtain ⟨f, x3, x4, F, hfor⟩ := hfor
  have hfl : f.length ≤ ps.length := nodup_len F.nd F.sub
  obtain ⟨k, e, a, m⟩ := sset_pl (f := f) (fun p hp => hb p (F.sub p hp)) (by omega)
  refine ⟨k, ?_, a, fun x => (m x).trans (F.end hp x)⟩
  rw [run_one hf rfl]
  simp [-List.contains_eq_mem, F__law_flood, initEnv, c0, Env.target, Env.put, Env.free, hfor, Env.lookAny, e]
end
end Sr.G
end

section
set_option autoImplicit false
set_option linter.all false
set_option Elab.async false
set_option maxHeartbeats 4000000
/-! G3: spread, what is reached, narrow places. -/
namespace Sr.G
open PySem Sr.Pl Gc
/-! dicts of places -/
def trs (q : List Pt) : List D := q.map fun _ => D.bl true
def dcD (q : List Pt) : D := .dic (q.map pl) (trs q)
theorem putK_new {p : Pt} : ∀ {q : List Pt}, p ∉ q → putK (q.map pl) (trs q) (pl p) (.bl true) = ((q ++ [p]).map pl, trs (q ++ [p]))
  | [], _ => rfl
  | a :: q, h => by
    rw [List.mem_cons, not_or] at h
    show (if (pl a).eqv (pl p) = true then _ else _) = _
    rw [pl_eqv, if_neg (by simpa using fun e => h.1 e.symm)]
    show ((fun r : List D × List D => (pl a :: r.1, D.bl true :: r.2)) (putK (q.map pl) (trs q) (pl p) (.bl true))) = _
    rw [putK_new h.2]
    rfl
theorem keyOk_pl (q : List Pt) (p : Pt) : keyOk (q.map pl) (pl p) = true := by
  show (true && decide (1 ≤ 8) && (true && (q.map pl).all D.isTup || (pl p).flatK && (q.map pl).all D.flatK)) = true
  rw [tupL_pl]; rfl
theorem dictOf_pl : ∀ (ps q : List Pt), (q ++ ps).Nodup → dictOf (q.map pl) (trs q) (ps.map fun p => .tup [pl p, .bl true]) = some ((q ++ ps).map pl, trs (q ++ ps))
  | [], q, _ => by simp [dictOf]
  | p :: ps, q, h => by
    have hp : p ∉ q := fun m => by
      rw [List.nodup_append] at h
      exact h.2.2 p m p (List.mem_cons_self ..) rfl
    have e : q ++ p :: ps = (q ++ [p]) ++ ps := by simp
    show (if keyOk (q.map pl) (pl p) = true then dictOf (putK (q.map pl) (trs q) (pl p) (.bl true)).1 (putK (q.map pl) (trs q) (pl p) (.bl true)).2 (ps.map fun p => .tup [pl p, .bl true]) else none) = _
    rw [if_pos (keyOk_pl q p), putK_new hp, dictOf_pl ps (q ++ [p]) (e ▸ h), e]
theorem bip_dict {ps : List Pt} (h : ps.Nodup) : bip .dict [.lst (ps.map fun p => .tup [pl p, .bl true])] = some (dcD ps, true) := by
  show (if (ps.map fun p => D.tup [pl p, .bl true]).all pairT = true then (dictOf [] [] (ps.map fun p => .tup [pl p, .bl true])).map (fun r => (D.dic r.1 r.2, true)) else none) = _
  rw [if_pos (List.all_eq_true.mpr fun d hd => by
    obtain ⟨p, _, rfl⟩ := List.mem_map.mp hd
    rfl)]
  have := dictOf_pl ps [] (by simpa using h)
  rw [show dictOf [] [] (ps.map fun p => .tup [pl p, .bl true]) = _ from this]
  rfl
theorem setAt_new {q : List Pt} {p : Pt} (h : p ∉ q) (hl : q.length < 1000) : setAt (dcD q) (pl p) (.bl true) = some (dcD (q ++ [p])) := by
  show (if (keyOk (q.map pl) (pl p) && decide ((q.map pl).length < SZ)) = true then some (D.dic (putK (q.map pl) (trs q) (pl p) (.bl true)).1 (putK (q.map pl) (trs q) (pl p) (.bl true)).2) else none) = _
  rw [if_pos, putK_new h]
  · rfl
  · rw [keyOk_pl, List.length_map, Bool.true_and, decide_eq_true_eq]
    exact Nat.lt_of_lt_of_le hl (by decide)
theorem app_pl {q : List Pt} (p : Pt) (hl : q.length < 1000) : appD (.lst (q.map pl)) (pl p) = some (.lst ((q ++ [p]).map pl)) := by
  show (if (q.map pl).length < SZ then some (D.lst (q.map pl ++ [pl p])) else none) = _
  rw [if_pos, List.map_append]
  · rfl
  · rw [List.length_map]
    exact Nat.lt_of_lt_of_le hl (by decide)
theorem exec_forK {α : Type} {P : Pg} {call : Call} {k : Nat} {tg : Tg} {it : List M} {body : List S} {env : Env} {T T1 : List Nd} {ds : List D} (f : α → D) (l : List α)
    (hit : evo P call it env T = .ok ds T1) (hk : items k ds = some (l.map f)) :
    exec P call (.forr k tg it body) env T = RS.unlock (lockOf env it) (forGo tg (fun e t => execs P call body e t) (l.map f) (env.setMd .lk (lockOf env it)) T1) := by
  rw [exec, hit]
  show (match items k ds with | some xs => _ | none => _) = _
  rw [hk]
/-- a while with a measure -/
theorem whlGo_var {α : Type} {test : Env → List Nd → R Bool} {body : Env → List Nd → RS} (I : α → Env → List Nd → Prop) (J : Env → List Nd → Prop) (μ : α → Nat)
    (step : ∀ a env T, I a env T → (∃ a' env' T1 T', test env T = .ok true T1 ∧ body env T1 = .nx env' T' ∧ I a' env' T' ∧ μ a' < μ a) ∨ (∃ T', test env T = .ok false T' ∧ J env T')) :
    ∀ fuel a env T, μ a < fuel → I a env T → ∃ env' T', whlGo test body fuel env T = .nx env' T' ∧ J env' T' := by
  intro fuel
  induction fuel with
  | zero => intro a env T h; omega
  | succ m ih =>
    intro a env T hf h
    rcases step a env T h with ⟨a', env', T1, T', h1, h2, h3, h4⟩ | ⟨T', h1, h2⟩
    · obtain ⟨e2, T2, g1, g2⟩ := ih a' env' T' (by omega) h3
      refine ⟨e2, T2, ?_, g2⟩
      rw [whlGo, h1]
      show (match body env T1 with | _ => _) = _
      rw [h2]
      exact g1
    · exact ⟨env, T', by rw [whlGo, h1], h2⟩
theorem adds_snoc (ps q l : List Pt) (y : Pt) : adds ps q (l ++ [y]) = if ps.contains y && !(adds ps q l).contains y then adds ps q l ++ [y] else adds ps q l := by
  unfold adds
  rw [List.foldl_append]
  rfl
section
variable {P : Pg}
theorem run_as_set (hf : P.fns 73 = some F_as_set) (l : Nat) {ps : List Pt} (hp : ps.Nodup) (hl : ps.length < 1000) {S : D} (hS : items 0 [S] = some (ps.map pl)) (T : List Nd) : run P (l+1) 73 [(.sh, S)] T = .ok (dcD ps, true) T := by
  have hc : ev P (run P l) (.comp (.tup [.var 1, .cst (.bl true)]) (.nm 1) 0 [.var 0] []) [some (.sh, S), none] T = .ok (.lst (ps.map fun p => .tup [pl p, .bl true]), true) T := by
    rw [ev_comp pl (fun _ => true) (fun p => D.tup [pl p, .bl true]) ps (ds := [S])]
    · rw [filt_true]
    · simp [Env.lookAny]
    · exact hS
    · exact le_SZ (by omega)
    · intro q hq
      exact ⟨[some (.sh, S), some (.sh, pl q)], rfl, by simp, fun _ => ⟨false, by simp [Env.look]⟩⟩
  have e := bip_dict hp
  rw [run_one hf rfl]
  simp [F_as_set, initEnv, hc, e]
/-- one turn over the places beside -/
theorem spread_in {call : Call} {R : List (List Int)} {g ps : List Pt} {S : D} (hl : ps.length < 64) (k : Nat) (x5 : Option (Md × D)) (T : List Nd) (nb q : List Pt) (hq : q.Nodup) (hs : ∀ x ∈ q, x ∈ ps) (x7 : Option (Md × D)) (f7 : Fre x7 = true) :
    ∃ x7', Fre x7' = true ∧ forGo (.nm 7) (fun e t => execs P call [.iff (.and (.cmp .isIn (.var 7) (.var 2)) (.cmp .notIn (.var 7) (.var 3))) [.setI (.var 3) (.var 7) (.cst (.bl true)), .app (.var 4) (.var 7)] []] e t) (nb.map pl)
      [some (.sh, grD R g), some (.sh, S), some (.sh, dcD ps), some (.ow, dcD q), some (.ow, .lst (q.map pl)), x5, some (.sh, .int (k : Int)), x7] T
      = .nx [some (.sh, grD R g), some (.sh, S), some (.sh, dcD ps), some (.ow, dcD (adds ps q nb)), some (.ow, .lst ((adds ps q nb).map pl)), x5, some (.sh, .int (k : Int)), x7'] T := by
  obtain ⟨env', T', h1, h2⟩ := forGo_inv (tg := .nm 7) (body := fun e t => execs P call [.iff (.and (.cmp .isIn (.var 7) (.var 2)) (.cmp .notIn (.var 7) (.var 3))) [.setI (.var 3) (.var 7) (.cst (.bl true)), .app (.var 4) (.var 7)] []] e t) pl
    (fun rest env T' => T' = T ∧ ∃ done x7, done ++ rest = nb ∧ Fre x7 = true ∧ env = [some (.sh, grD R g), some (.sh, S), some (.sh, dcD ps), some (.ow, dcD (adds ps q done)), some (.ow, .lst ((adds ps q done).map pl)), x5, some (.sh, .int (k : Int)), x7])
    (by
      rintro y rest env T' ⟨rfl, done, x7, hd, f7, rfl⟩
      have nd := adds_nodup (ps := ps) (l := done) hq
      have sub : ∀ x ∈ adds ps q done, x ∈ ps := fun x hx => (adds_mem.mp hx).elim (hs x) fun h => h.2
      have hln : (adds ps q done).length < 1000 := by
        have := nodup_len nd sub
        omega
      refine ⟨[some (.sh, grD R g), some (.sh, S), some (.sh, dcD ps), some (.ow, dcD (adds ps q done)), some (.ow, .lst ((adds ps q done).map pl)), x5, some (.sh, .int (k : Int)), some (.sh, pl y)], _, T', T', put_at (x := x7) rfl f7, ?_, rfl, done ++ [y], some (.sh, pl y), by rw [List.append_assoc]; exact hd, rfl, rfl⟩
      rw [adds_snoc]
      have i1 : cmpop .isIn (pl y) (dcD ps) = some (ps.contains y) := in_dic _ _ _
      have i2 : cmpop .notIn (pl y) (dcD (adds ps q done)) = some (!(adds ps q done).contains y) := nin_dic _ _ _
      cases c1 : ps.contains y
      · simp [-List.contains_eq_mem, Env.lookAny, i1, c1]
      · cases c2 : (adds ps q done).contains y
        · have c2' : y ∉ adds ps q done := by simpa using c2
          have s1 := setAt_new c2' hln
          have s2 := app_pl y hln
          simp [-List.contains_eq_mem, Env.look, Env.lookAny, i1, i2, c1, c2, updO, s1, s2, derefT, tyD]
        · simp [-List.contains_eq_mem, Env.lookAny, i1, i2, c1, c2])
    nb [some (.sh, grD R g), some (.sh, S), some (.sh, dcD ps), some (.ow, dcD q), some (.ow, .lst (q.map pl)), x5, some (.sh, .int (k : Int)), x7] T ⟨rfl, [], x7, rfl, f7, rfl⟩
  obtain ⟨rfl, done, x7', hd, f7', rfl⟩ := h2
  rw [List.append_nil] at hd
  subst hd
  exact ⟨x7', f7', h1⟩
theorem run_spread (h71 : P.fns 71 = some F_beside) (hf : P.fns 72 = some F_spread) (l : Nat) {R : List (List Int)} {h w : Nat} (Sh : Shp R h w) (g : List Pt) {st ps : List Pt} (hst : st.Nodup) (hsl : st.length < 64) (hl : ps.length < 64) (hb : ∀ p ∈ ps, inb h w p = true) {S : D} (hS : items 0 [S] = some (st.map pl)) (T : List Nd) :
    ∃ q, run P (l+2) 72 [(.sh, grD R g), (.sh, S), (.sh, dcD ps)] T = .ok (dcD q, true) T ∧ q.Nodup ∧ ∀ x, x ∈ q ↔ Rch st ps adjB x := by
  have B0 : Bf st ps adjB 0 (st.filter fun x => ps.contains x) := Bf.zero hst
  have hq0 : (st.filter fun x => ps.contains x).length < 64 := Nat.lt_of_le_of_lt (nodup_len B0.nd B0.sub) hl
  have c0 : ev P (run P (l+1)) (.comp (.var 5) (.nm 5) 0 [.var 1] [.cmp .isIn (.var 5) (.var 2)]) [some (.sh, grD R g), some (.sh, S), some (.sh, dcD ps), some (.ow, .dic [] []), none, none, none, none] T = .ok (.lst ((st.filter fun x => ps.contains x).map pl), true) T := by
    rw [ev_comp pl (fun x => ps.contains x) pl st (ds := [S])]
    · simp [Env.lookAny]
    · exact hS
    · exact le_SZ (by omega)
    · intro q hq
      refine ⟨[some (.sh, grD R g), some (.sh, S), some (.sh, dcD ps), some (.ow, .dic [] []), none, some (.sh, pl q), none, none], rfl, ?_, fun _ => ⟨false, ?_⟩⟩
      · have i1 : cmpop .isIn (pl q) (dcD ps) = some (ps.contains q) := in_dic _ _ _
        simp [-List.contains_eq_mem, Env.lookAny, i1]
      · simp [Env.look]
  generalize hq : (st.filter fun x => ps.contains x) = q0 at *
  have f1 : ∃ x5, exec P (run P (l+1)) (.forr 0 (.nm 5) [.var 4] [.setI (.var 3) (.var 5) (.cst (.bl true))]) [some (.sh, grD R g), some (.sh, S), some (.sh, dcD ps), some (.ow, .dic [] []), some (.ow, .lst (q0.map pl)), none, none, none] T
      = .nx [some (.sh, grD R g), some (.sh, S), some (.sh, dcD ps), some (.ow, dcD q0), some (.ow, .lst (q0.map pl)), x5, none, none] T := by
    rw [exec_forK (T1 := T) pl q0 (ds := [.lst (q0.map pl)])]
    · obtain ⟨env', T', h1, h2⟩ := forGo_inv (tg := .nm 5) (body := fun e t => execs P (run P (l+1)) [.setI (.var 3) (.var 5) (.cst (.bl true))] e t) pl
        (fun rest env T' => T' = T ∧ ∃ done x5, done ++ rest = q0 ∧ Fre x5 = true ∧ env = [some (.sh, grD R g), some (.sh, S), some (.sh, dcD ps), some (.ow, dcD done), some (.lk, .lst (q0.map pl)), x5, none, none])
        (by
          rintro y rest env T' ⟨rfl, done, x5, hd, f5, rfl⟩
          have nd := B0.nd
          rw [← hd, List.nodup_append] at nd
          have hy : y ∉ done := fun m => nd.2.2 y m y (List.mem_cons_self ..) rfl
          have hdl : done.length < 1000 := by
            have := congrArg List.length hd
            rw [List.length_append] at this
            omega
          have s1 := setAt_new hy hdl
          refine ⟨[some (.sh, grD R g), some (.sh, S), some (.sh, dcD ps), some (.ow, dcD done), some (.lk, .lst (q0.map pl)), some (.sh, pl y), none, none], _, T', _, put_at (x := x5) rfl f5, ?_, rfl, done ++ [y], some (.sh, pl y), by rw [List.append_assoc]; exact hd, rfl, rfl⟩
          simp [Env.lookAny, updO, s1])
        q0 [some (.sh, grD R g), some (.sh, S), some (.sh, dcD ps), some (.ow, .dic [] []), some (.lk, .lst (q0.map pl)), none, none, none] T ⟨rfl, [], none, rfl, rfl, rfl⟩
      obtain ⟨rfl, done, x5, hd, _, rfl⟩ := h2
      rw [List.append_nil] at hd
      subst hd
      refine ⟨x5, ?_⟩
      show RS.unlock [4] (forGo _ _ (done.map pl) [some (.sh, grD R g), some (.sh, S), some (.sh, dcD ps), some (.ow, .dic [] []), some (.lk, .lst (done.map pl)), none, none, none] T') = _
      rw [h1]
      rfl
    · simp [Env.lookAny]
    · rfl
  obtain ⟨x5, f1⟩ := f1
  have f2 : ∃ q k x7, Bf st ps adjB k q ∧ q.length ≤ k ∧ exec P (run P (l+1)) (.whl (.cmp .lt (.var 6) (.bi .len [.var 4])) [.forr 0 (.nm 7) [.call 71 [.var 0, .idx (.var 4) (.var 6)]] [.iff (.and (.cmp .isIn (.var 7) (.var 2)) (.cmp .notIn (.var 7) (.var 3))) [.setI (.var 3) (.var 7) (.cst (.bl true)), .app (.var 4) (.var 7)] []], .aug .add 6 (.cst (.int 1))])
      [some (.sh, grD R g), some (.sh, S), some (.sh, dcD ps), some (.ow, dcD q0), some (.ow, .lst (q0.map pl)), x5, some (.sh, .int 0), none] T
      = .nx [some (.sh, grD R g), some (.sh, S), some (.sh, dcD ps), some (.ow, dcD q), some (.ow, .lst (q.map pl)), x5, some (.sh, .int (k : Int)), x7] T := by
    rw [exec_whl]
    obtain ⟨env', T', h1, h2⟩ := whlGo_var (test := fun e t => (opd e (.cmp .lt (.var 6) (.bi .len [.var 4])) (ev P (run P (l+1)) (.cmp .lt (.var 6) (.bi .len [.var 4])) e) t).bind bol) (body := fun e t => execs P (run P (l+1)) [.forr 0 (.nm 7) [.call 71 [.var 0, .idx (.var 4) (.var 6)]] [.iff (.and (.cmp .isIn (.var 7) (.var 2)) (.cmp .notIn (.var 7) (.var 3))) [.setI (.var 3) (.var 7) (.cst (.bl true)), .app (.var 4) (.var 7)] []], .aug .add 6 (.cst (.int 1))] e t)
      (fun (a : List Pt × Nat) env T' => T' = T ∧ ∃ x7, Fre x7 = true ∧ Bf st ps adjB a.2 a.1 ∧ env = [some (.sh, grD R g), some (.sh, S), some (.sh, dcD ps), some (.ow, dcD a.1), some (.ow, .lst (a.1.map pl)), x5, some (.sh, .int (a.2 : Int)), x7])
      (fun env T' => T' = T ∧ ∃ q k x7, Bf st ps adjB k q ∧ q.length ≤ k ∧ env = [some (.sh, grD R g), some (.sh, S), some (.sh, dcD ps), some (.ow, dcD q), some (.ow, .lst (q.map pl)), x5, some (.sh, .int (k : Int)), x7])
      (fun a => ps.length - a.2)
      (by
        rintro ⟨q, k⟩ env T' ⟨rfl, x7, f7, B, rfl⟩
        have hql : q.length ≤ ps.length := nodup_len B.nd B.sub
        by_cases c : k < q.length
        · refine .inl ?_
          have eb := run_beside h71 l Sh g q[k] T'
          obtain ⟨x7', f7', ei⟩ := spread_in (P := P) (call := run P (l+1)) (R := R) (g := g) (S := S) hl k x5 T' (bes h w q[k]) q B.nd B.sub x7 f7
          have ef : exec P (run P (l+1)) (.forr 0 (.nm 7) [.call 71 [.var 0, .idx (.var 4) (.var 6)]] [.iff (.and (.cmp .isIn (.var 7) (.var 2)) (.cmp .notIn (.var 7) (.var 3))) [.setI (.var 3) (.var 7) (.cst (.bl true)), .app (.var 4) (.var 7)] []]) [some (.sh, grD R g), some (.sh, S), some (.sh, dcD ps), some (.ow, dcD q), some (.ow, .lst (q.map pl)), x5, some (.sh, .int (k : Int)), x7] T'
              = .nx [some (.sh, grD R g), some (.sh, S), some (.sh, dcD ps), some (.ow, dcD (adds ps q (bes h w q[k]))), some (.ow, .lst ((adds ps q (bes h w q[k])).map pl)), x5, some (.sh, .int (k : Int)), x7'] T' := by
            rw [exec_for (T1 := T') pl (bes h w q[k]) (ds := [.lst ((bes h w q[k]).map pl)])]
            · exact ei
            · simp [lockOf]
            · have := idx_lmap pl q k c
              simp [Env.lookAny, this, M.mode, Env.isOw, eb]
            · rfl
          refine ⟨(adds ps q (bes h w q[k]), k + 1), _, T', T', ?_, ?_, ⟨rfl, x7', f7', ?_, rfl⟩, ?_⟩
          · simp [Env.lookAny, c]
          · simp only [Pl.execs_cons, ef, go_nx]
            simp [Env.look, Env.put, Env.free]
          · exact B.next (x := q[k]) (by simp [c]) fun y hy => mem_bes (hb y hy)
          · show ps.length - (k + 1) < ps.length - k
            omega
        · refine .inr ⟨T', ?_, rfl, q, k, x7, B, by omega, rfl⟩
          simp [Env.lookAny, c])
      WF (q0, 0) [some (.sh, grD R g), some (.sh, S), some (.sh, dcD ps), some (.ow, dcD q0), some (.ow, .lst (q0.map pl)), x5, some (.sh, .int 0), none] T (Nat.lt_of_le_of_lt (m := 64) (by show ps.length - 0 ≤ 64; omega) (by unfold WF; decide)) ⟨rfl, none, rfl, B0, rfl⟩
    obtain ⟨rfl, q, k, x7, B, hk, rfl⟩ := h2
    exact ⟨q, k, x7, B, hk, h1⟩
  obtain ⟨q, k, x7, B, hk, f2⟩ := f2
  have t5 : ∀ T : List Nd, Env.put [some (.sh, grD R g), some (.sh, S), some (.sh, dcD ps), some (.ow, dcD q0), some (.ow, .lst (q0.map pl)), x5, none, none] 6 (.sh, .int 0) T = .ok [some (.sh, grD R g), some (.sh, S), some (.sh, dcD ps), some (.ow, dcD q0), some (.ow, .lst (q0.map pl)), x5, some (.sh, .int 0), none] T := fun T => put_at (x := none) rfl rfl
  refine ⟨q, ?_, B.nd, B.end hk⟩
  have e0 : ev P (run P (l+1)) (.dic [] []) [some (.sh, grD R g), some (.sh, S), some (.sh, dcD ps), none, none, none, none, none] T = .ok (.dic [] [], true) T := by
    rw [ev]; simp [evs, dictOf]
  rw [run_one hf rfl]
  simp [F_spread, initEnv, e0, Env.put, Env.free, c0, f1]
  simp [Env.target, t5, f2]
end
end Sr.G
end

section
set_option autoImplicit false
set_option linter.all false
set_option Elab.async false
set_option maxHeartbeats 4000000
/-! G4: what is a ground. -/
namespace Sr.G
open PySem Sr.Pl Gc
theorem isRow_of {d : D} {a b lo hi : Int} (h : isRow d a b lo hi = true) : ∃ r : List Int, d = rwD r ∧ a ≤ r.length ∧ (r.length : Int) ≤ b ∧ ∀ v ∈ r, lo ≤ v ∧ v ≤ hi := by
  unfold isRow at h
  split at h
  · rename_i l
    simp only [Bool.and_eq_true, decide_eq_true_eq, List.all_eq_true] at h
    obtain ⟨⟨h1, h2⟩, h3⟩ := h
    have key : ∀ l : List D, (∀ x ∈ l, isNum x lo hi = true) → ∃ r : List Int, l = r.map .int ∧ ∀ v ∈ r, lo ≤ v ∧ v ≤ hi := by
      intro l
      induction l with
      | nil => exact fun _ => ⟨[], rfl, by simp⟩
      | cons x l ih =>
        intro h
        obtain ⟨r, e, hr⟩ := ih fun y hy => h y (List.mem_cons_of_mem _ hy)
        have hx := h x (List.mem_cons_self ..)
        cases x <;> simp only [isNum, Bool.false_eq_true] at hx
        rename_i i
        simp only [Bool.and_eq_true, decide_eq_true_eq] at hx
        refine ⟨i :: r, by rw [e]; rfl, fun v hv => ?_⟩
        rcases List.mem_cons.mp hv with rfl | hv
        · exact hx
        · exact hr v hv
    obtain ⟨r, rfl, hr⟩ := key l h3
    rw [List.length_map] at h1 h2
    exact ⟨r, rfl, h1, h2, hr⟩
  · cases h
theorem isRow_rw {r : List Int} {a b lo hi : Int} (h1 : a ≤ r.length) (h2 : (r.length : Int) ≤ b) (h3 : ∀ v ∈ r, lo ≤ v ∧ v ≤ hi) : isRow (rwD r) a b lo hi = true := by
  unfold isRow rwD
  simp only [List.length_map, Bool.and_eq_true, decide_eq_true_eq, List.all_eq_true, List.mem_map, forall_exists_index, and_imp, forall_apply_eq_imp_iff₂]
  exact ⟨⟨h1, h2⟩, fun v hv => by simp [isNum]; exact h3 v hv⟩
def isSpot (h w : Nat) (d : D) : Bool := match d with
  | .tup [.int a, .int b] => inb h w (a, b)
  | _ => false
theorem isSpot_pl (h w : Nat) (p : Pt) : isSpot h w (pl p) = inb h w p := rfl
theorem isSpot_of {h w : Nat} {d : D} (hd : isSpot h w d = true) : ∃ p, d = pl p ∧ inb h w p = true := by
  unfold isSpot at hd
  split at hd
  · exact ⟨(_, _), rfl, hd⟩
  · cases hd
def bord (h w : Nat) (p : Pt) : Bool := decide (p.1 = 0) || decide (p.1 = (h : Int) - 1) || (decide (p.2 = 0) || decide (p.2 = (w : Int) - 1))
def riseB (l : List Pt) : Bool := (List.range (l.length - 1)).all fun k => decide (key (l.getD k (0, 0)) < key (l.getD (k + 1) (0, 0)))
/-- as long as the first -/
def wD : List D → Int
  | .tup l :: _ => l.length
  | _ => 0
def isRows (d : D) : Bool := match d with
  | .tup rs => decide (1 ≤ rs.length) && decide (rs.length ≤ 8) && isRow (rs.headD .non) 1 8 0 2 && rs.all fun r => isRow r (wD rs) (wD rs) 0 2
  | _ => false
theorem isRows_of {d : D} (h : isRows d = true) : ∃ R h w, d = .tup (R.map rwD) ∧ Shp R h w ∧ ∀ r ∈ R, ∀ v ∈ r, 0 ≤ v ∧ v ≤ 2 := by
  unfold isRows at h
  split at h
  · rename_i rs
    simp only [Bool.and_eq_true, decide_eq_true_eq, List.all_eq_true] at h
    obtain ⟨⟨⟨h1, h2⟩, h3⟩, h4⟩ := h
    obtain ⟨r0, e0, a0, b0, v0⟩ := isRow_of h3
    obtain ⟨x, xs, rfl⟩ : ∃ x xs, rs = x :: xs := by
      cases rs with
      | nil => simp at h1
      | cons x xs => exact ⟨x, xs, rfl⟩
    have e0 : x = rwD r0 := e0
    subst e0
    have hw : wD (rwD r0 :: xs) = r0.length := by
      show ((r0.map D.int).length : Int) = _
      rw [List.length_map]
    rw [hw] at h4
    have key : ∀ l : List D, (∀ y ∈ l, isRow y r0.length r0.length 0 2 = true) → ∃ R : List (List Int), l = R.map rwD ∧ ∀ r ∈ R, r.length = r0.length ∧ ∀ v ∈ r, 0 ≤ v ∧ v ≤ 2 := by
      intro l
      induction l with
      | nil => exact fun _ => ⟨[], rfl, by simp⟩
      | cons y l ih =>
        intro h
        obtain ⟨R, e, hR⟩ := ih fun z hz => h z (List.mem_cons_of_mem _ hz)
        obtain ⟨r, rfl, a, b, v⟩ := isRow_of (h y (List.mem_cons_self ..))
        refine ⟨r :: R, by rw [e]; rfl, fun q hq => ?_⟩
        rcases List.mem_cons.mp hq with rfl | hq
        · exact ⟨by omega, v⟩
        · exact hR q hq
    obtain ⟨R, e, hR⟩ := key _ h4
    have hl : R.length = (rwD r0 :: xs).length := by rw [e, List.length_map]
    exact ⟨R, R.length, r0.length, by rw [e], ⟨rfl, fun r hr => (hR r hr).1, by omega, by omega, by omega, by omega⟩, fun r hr => (hR r hr).2⟩
  · cases h
theorem isRows_rw {R : List (List Int)} {h w : Nat} (S : Shp R h w) (hv : ∀ r ∈ R, ∀ v ∈ r, 0 ≤ v ∧ v ≤ 2) : isRows (.tup (R.map rwD)) = true := by
  have hL := S.len
  have h1 := S.h1
  have h8 := S.h8
  have w1 := S.w1
  have w8 := S.w8
  obtain ⟨r0, R', rfl⟩ : ∃ r0 R', R = r0 :: R' := by
    cases R with
    | nil => simp at hL; omega
    | cons r R => exact ⟨r, R, rfl⟩
  have hr0 := S.row r0 (List.mem_cons_self ..)
  have hw : wD ((r0 :: R').map rwD) = w := by
    show ((r0.map D.int).length : Int) = _
    rw [List.length_map, hr0]
  unfold isRows
  simp only [hw, Bool.and_eq_true, decide_eq_true_eq, List.all_eq_true, List.length_map, hL]
  refine ⟨⟨⟨h1, h8⟩, isRow_rw (by omega) (by omega) (hv r0 (List.mem_cons_self ..))⟩, fun d hd => ?_⟩
  obtain ⟨r, hr, rfl⟩ := List.mem_map.mp hd
  have := S.row r hr
  exact isRow_rw (by omega) (by omega) (hv r hr)
/-- what is a ground -/
def gatesOk (R : List (List Int)) (h w : Nat) (gl : List D) : Bool := !gl.isEmpty && gl.all (isSpot h w) && riseB (gl.map unpl) && (gl.map unpl).all fun p => bord h w p && (sp R 0).contains p
structure Grd (R : List (List Int)) (g : List Pt) (h w : Nat) : Prop where
  shp : Shp R h w
  vals : ∀ r ∈ R, ∀ v ∈ r, 0 ≤ v ∧ v ≤ 2
  ne : g ≠ []
  asc : Asc g
  inb : ∀ p ∈ g, inb h w p = true
  brd : ∀ p ∈ g, bord h w p = true
  free : ∀ p ∈ g, p ∈ sp R 0
theorem asc_rise {l : List Pt} (h : Asc l) : riseB l = true := by
  unfold riseB
  rw [List.all_eq_true]
  intro k hk
  have hk := List.mem_range.1 hk
  rw [decide_eq_true_eq, List.getD_eq_getElem?_getD, List.getD_eq_getElem?_getD, List.getElem?_eq_getElem (show k < l.length by omega), List.getElem?_eq_getElem (show k + 1 < l.length by omega)]
  exact List.pairwise_iff_getElem.mp h k (k + 1) _ _ (by omega)
theorem rise_asc : ∀ {l : List Pt}, riseB l = true → Asc l
  | [], _ => .nil
  | [a], _ => by simp [Asc]
  | a :: b :: l, h => by
    unfold riseB at h
    rw [List.all_eq_true] at h
    have hab : key a < key b := by
      have := h 0 (List.mem_range.2 (by simp))
      simpa using this
    have ht : Asc (b :: l) := rise_asc (by
      unfold riseB
      rw [List.all_eq_true]
      intro k hk
      have hk := List.mem_range.1 hk
      have := h (k + 1) (List.mem_range.2 (by simp only [List.length_cons] at hk ⊢; omega))
      simpa using this)
    refine List.pairwise_cons.mpr ⟨fun x hx => ?_, ht⟩
    rcases List.mem_cons.mp hx with rfl | hx
    · exact hab
    · exact Int.lt_trans hab ((List.pairwise_cons.mp ht).1 x hx)
theorem map_unpl (g : List Pt) : (g.map pl).map unpl = g := by
  rw [List.map_map]
  exact List.map_id g
theorem gatesOk_of {R : List (List Int)} {h w : Nat} {g : List Pt} (G : Grd R g h w) : gatesOk R h w (g.map pl) = true := by
  unfold gatesOk
  rw [map_unpl, asc_rise G.asc]
  simp only [Bool.and_eq_true, List.all_eq_true, Bool.and_true]
  refine ⟨⟨?_, fun d hd => ?_⟩, fun p hp => ⟨G.brd p hp, by simpa using G.free p hp⟩⟩
  · cases g with
    | nil => exact absurd rfl G.ne
    | cons => rfl
  · obtain ⟨p, hp, rfl⟩ := List.mem_map.mp hd
    exact G.inb p hp
theorem grd_of {R : List (List Int)} {h w : Nat} {gl : List D} (S : Shp R h w) (hv : ∀ r ∈ R, ∀ v ∈ r, 0 ≤ v ∧ v ≤ 2) (hg : gatesOk R h w gl = true) : ∃ g, gl = g.map pl ∧ Grd R g h w := by
  unfold gatesOk at hg
  simp only [Bool.and_eq_true, List.all_eq_true, Bool.not_eq_true'] at hg
  obtain ⟨⟨⟨h1, h2⟩, h3⟩, h4⟩ := hg
  have e : gl = (gl.map unpl).map pl := by
    rw [List.map_map]
    refine (List.map_id gl).symm.trans (List.map_congr_left fun d hd => ?_)
    obtain ⟨p, rfl, _⟩ := isSpot_of (h2 d hd)
    rfl
  refine ⟨gl.map unpl, e, S, hv, fun z => ?_, rise_asc h3, fun p hp => ?_, fun p hp => (h4 p hp).1, fun p hp => by simpa using (h4 p hp).2⟩
  · rw [z] at e
    rw [e] at h1
    cases h1
  · obtain ⟨d, hd, rfl⟩ := List.mem_map.mp hp
    obtain ⟨p, rfl, hp2⟩ := isSpot_of (h2 d hd)
    exact hp2
section
variable {P : Pg}
theorem run_row (h0 : P.fns 0 = some Cm.F_is_number) (h1 : P.fns 1 = some Cm.F_is_row) (l : Nat) {d : D} {I B n : Nat} (hd : okD false I B n d = true) (a b lo hi : Int) (hb : b < 1000000) (T : List Nd) :
    run P (l+2) 1 [(.sh, d), (.sh, .int a), (.sh, .int b), (.sh, .int lo), (.sh, .int hi)] T = .ok (.bl (isRow d a b lo hi), false) T :=
  run_is_row h0 h1 l d a b lo hi (okD_ty hd) hb (fun ds e x hx => by
    subst e
    cases n with
    | zero => exact absurd hd (by simp [okD])
    | succ n => exact okD_ty ((okD_tup.1 hd).2 x hx)) T
theorem ltB_pl {a b : Pt} (ha : (0 ≤ a.1 ∧ a.1 < 8) ∧ 0 ≤ a.2 ∧ a.2 < 8) (hb : (0 ≤ b.1 ∧ b.1 < 8) ∧ 0 ≤ b.2 ∧ b.2 < 8) : (pl a).ltB (pl b) = decide (key a < key b) := by
  rw [cd_lt (smT_pl ha) (smT_pl hb), cd_pl, cd_pl]
theorem lt_pl {a b : Pt} (ha : (0 ≤ a.1 ∧ a.1 < 8) ∧ 0 ≤ a.2 ∧ a.2 < 8) (hb : (0 ≤ b.1 ∧ b.1 < 8) ∧ 0 ≤ b.2 ∧ b.2 < 8) : cmpop .lt (pl a) (pl b) = some (decide (key a < key b)) := by
  show (if (true && true && true && decide (min 1 1 ≤ 64)) = true then some ((pl a).ltB (pl b)) else none) = _
  rw [if_pos (by decide), ltB_pl ha hb]
theorem run_rise (hf : P.fns 68 = some F_do_rise) (l : Nat) {g : List Pt} (hg : ∀ p ∈ g, (0 ≤ p.1 ∧ p.1 < 8) ∧ 0 ≤ p.2 ∧ p.2 < 8) (hl : g.length < 100000) (T : List Nd) : run P (l+1) 68 [(.sh, .tup (g.map pl))] T = .ok (.bl (riseB g), false) T := by
  have hc : ev P (run P l) (.comp (.cmp .lt (.idx (.var 0) (.var 1)) (.idx (.var 0) (.op2 .add (.var 1) (.cst (.int 1))))) (.nm 1) 1 [.op2 .sub (.bi .len [.var 0]) (.cst (.int 1))] []) [some (.sh, .tup (g.map pl)), none] T = .ok (.lst ((List.range (g.length - 1)).map fun k => .bl (decide (key (g.getD k (0, 0)) < key (g.getD (k + 1) (0, 0))))), true) T := by
    rw [ev_comp (fun (j : Nat) => D.int (j : Int)) (fun _ => true) (fun k => D.bl (decide (key (g.getD k (0, 0)) < key (g.getD (k + 1) (0, 0))))) (List.range (g.length - 1)) (ds := [.int ((g.length : Int) - 1)])]
    · rw [filt_true]
    · simp [Env.lookAny]
    · rw [items_1]
      cases g with
      | nil => rfl
      | cons a g =>
        have : (((a :: g).length : Int) - 1) = (((a :: g).length - 1 : Nat) : Int) := by simp
        rw [this]
        exact rngop_n _ (by omega)
    · rw [List.length_range]; exact le_SZ (by omega)
    · intro k hk
      have hk := List.mem_range.1 hk
      refine ⟨[some (.sh, .tup (g.map pl)), some (.sh, .int (k : Int))], rfl, by simp, fun _ => ⟨false, ?_⟩⟩
      have e1 := idx_tmap pl g k (by omega)
      have e2 := idx_tmap pl g (k + 1) (by omega)
      have e3 : (k : Int) + 1 = ((k + 1 : Nat) : Int) := by omega
      have e4 := lt_pl (hg _ (List.getElem_mem (show k < g.length by omega))) (hg _ (List.getElem_mem (show k + 1 < g.length by omega)))
      have g1 : g.getD k (0, 0) = g[k] := by rw [List.getD_eq_getElem?_getD, List.getElem?_eq_getElem (show k < g.length by omega)]; rfl
      have g2 : g.getD (k + 1) (0, 0) = g[k + 1] := by rw [List.getD_eq_getElem?_getD, List.getElem?_eq_getElem (show k + 1 < g.length by omega)]; rfl
      rw [g1, g2]
      simp only [ev_cmp, opd_idx, ev_idx, opd_var, opd_op2, ev_op2, opd_cst, ev_cst, Env.lookAny, List.getElem?_cons_succ, List.getElem?_cons_zero, bindOk, bindM, bindM', retM, fstR_ok, ofO_some, deref_tup, op_add, e3, e1, e2, e4]
  have ha := bip_all (fun k => decide (key (g.getD k (0, 0)) < key (g.getD (k + 1) (0, 0)))) (List.range (g.length - 1))
  rw [run_one hf rfl]
  simp [-List.getD_eq_getElem?_getD, F_do_rise, initEnv, hc, ha, riseB]
theorem run_spot (h0 : P.fns 0 = some Cm.F_is_number) (h1 : P.fns 1 = some Cm.F_is_row) {cM : Nat} (hf : P.fns 67 = some (F_is_place_of cM)) (hM : P.con cM = .int 8) (l : Nat) {R : List (List Int)} {h w : Nat} (S : Shp R h w) {d : D} {I B n : Nat} (hd : okD false I B n d = true) (T : List Nd) :
    run P (l+3) 67 [(.sh, .tup (R.map rwD)), (.sh, d)] T = .ok (.bl (isSpot h w d), false) T := by
  have er := run_row h0 h1 l hd 2 2 0 7 (by decide) T
  rw [run_one hf rfl]
  cases hr : isRow d 2 2 0 7 with
  | false =>
    rw [hr] at er
    have : isSpot h w d = false := by
      cases hs : isSpot h w d
      · rfl
      · obtain ⟨p, rfl, hp⟩ := isSpot_of hs
        have := inb_bd S.h8 S.w8 hp
        have : isRow (pl p) 2 2 0 7 = true := isRow_rw (r := [p.1, p.2]) (by simp) (by simp) (by simp; omega)
        rw [hr] at this
        cases this
    rw [this]
    simp [F_is_place_of, initEnv, Env.lookAny, M.mode, Env.isOw, hM, er]
  | true =>
    obtain ⟨r, rfl, a, b, v⟩ := isRow_of hr
    obtain ⟨i, j, rfl⟩ : ∃ i j, r = [i, j] := by
      match r, a, b with
      | [i, j], _, _ => exact ⟨i, j, rfl⟩
      | [], a, _ => simp at a
      | [_], a, _ => simp at a
      | _ :: _ :: _ :: _, _, b => simp at b; omega
    have e : rwD [i, j] = pl (i, j) := rfl
    rw [e] at er hr ⊢
    rw [hr] at er
    obtain ⟨r0, hr0, e0⟩ := idx_rows0 S
    have hl := S.row r0 hr0
    have hL := S.len
    have v1 := v i (by simp)
    have v2 := v j (by simp)
    rw [isSpot_pl]
    simp [F_is_place_of, initEnv, Env.lookAny, M.mode, Env.isOw, hM, er, e0, hl, hL, inb, v1, v2]
    by_cases c : i < (h : Int)
    · simp [c, Env.lookAny, e0, hl]
    · simp [c]
theorem run_rows (h0 : P.fns 0 = some Cm.F_is_number) (h1 : P.fns 1 = some Cm.F_is_row) {cM cF cS : Nat} (hf : P.fns 66 = some (F_are_rows cM cF cS)) (hM : P.con cM = .int 8) (hF : P.con cF = .int 0) (hS : P.con cS = .int 2) (l : Nat) {d : D} {I B n : Nat} (hd : okD false I B n d = true) (T : List Nd) :
    run P (l+3) 66 [(.sh, d)] T = .ok (.bl (isRows d), false) T := by
  rw [run_one hf rfl]
  cases n with
  | zero => exact absurd hd (by simp [okD])
  | succ n =>
    cases d with
    | tup rs =>
      have hrs := (okD_tup.1 hd).2
      by_cases c1 : 1 ≤ rs.length
      · by_cases c2 : rs.length ≤ 8
        · obtain ⟨x, xs, rfl⟩ : ∃ x xs, rs = x :: xs := by
            cases rs with
            | nil => simp at c1
            | cons x xs => exact ⟨x, xs, rfl⟩
          have e0 : idxop (.tup (x :: xs)) (.int 0) = some x := idx_tup (x :: xs) 0 (by simp)
          have er := run_row h0 h1 l (hrs x (List.mem_cons_self ..)) 1 8 0 2 (by decide) T
          have c1' : (1 : Int) ≤ (xs.length : Int) + 1 := by omega
          have c2' : (xs.length : Int) + 1 ≤ 8 := by simp only [List.length_cons] at c2; omega
          cases hr : isRow x 1 8 0 2 with
          | false =>
            rw [hr] at er
            simp [F_are_rows, initEnv, Env.lookAny, isTs, subTy, M.mode, Env.isOw, hM, hF, hS, e0, er, c1', c2', isRows, hr]
          | true =>
            rw [hr] at er
            obtain ⟨r0, rfl, a0, b0, v0⟩ := isRow_of hr
            have hw : wD (rwD r0 :: xs) = r0.length := by
              show ((r0.map D.int).length : Int) = _
              rw [List.length_map]
            have hc : ev P (run P (l+2)) (.comp (.call 1 [.var 2, .var 1, .var 1, .gcst cF, .gcst cS]) (.nm 2) 0 [.var 0] []) [some (.sh, .tup (rwD r0 :: xs)), some (.sh, .int r0.length), none] T = .ok (.lst ((rwD r0 :: xs).map fun r => .bl (isRow r r0.length r0.length 0 2)), true) T := by
              rw [ev_comp (fun x => x) (fun _ => true) (fun r => D.bl (isRow r r0.length r0.length 0 2)) (rwD r0 :: xs) (ds := [.tup (rwD r0 :: xs)])]
              · rw [filt_true]
              · simp [Env.lookAny]
              · rw [items_0t, List.map_id']
              · exact le_SZ (by omega)
              · intro r hr
                have := run_row h0 h1 l (hrs r hr) r0.length r0.length 0 2 (by omega) T
                exact ⟨[some (.sh, .tup (rwD r0 :: xs)), some (.sh, .int r0.length), some (.sh, r)], rfl, by simp, fun _ => ⟨false, by simp [Env.lookAny, M.mode, Env.isOw, hF, hS, this]⟩⟩
            have ha := bip_all (fun r => isRow r r0.length r0.length 0 2) (rwD r0 :: xs)
            rw [List.map_cons] at hc ha
            have hh : (rwD r0 :: xs).headD .non = rwD r0 := rfl
            have ei : isRows (.tup (rwD r0 :: xs)) = (rwD r0 :: xs).all fun r => isRow r r0.length r0.length 0 2 := by
              unfold isRows
              simp only [hw, hh, hr, decide_eq_true c1, decide_eq_true c2, Bool.true_and]
            rw [ei]
            simp [F_are_rows, initEnv, Env.lookAny, isTs, subTy, M.mode, Env.isOw, hM, hF, hS, e0, er, c1', c2', Env.target, Env.put, Env.free]
            rw [hc]
            simp [ha]
        · have : ¬ (rs.length : Int) ≤ 8 := by omega
          have c1' : (1 : Int) ≤ rs.length := by omega
          simp [F_are_rows, initEnv, Env.lookAny, isTs, subTy, hM, c1', this, isRows, c2]
      · have : ¬ (1 : Int) ≤ rs.length := by omega
        simp [F_are_rows, initEnv, Env.lookAny, isTs, subTy, hM, this, isRows, c1]
    | non => simp [F_are_rows, initEnv, Env.lookAny, isTs, subTy, isRows]
    | bl b => simp [F_are_rows, initEnv, Env.lookAny, isTs, subTy, isRows]
    | int i => simp [F_are_rows, initEnv, Env.lookAny, isTs, subTy, isRows]
    | str z => simp [F_are_rows, initEnv, Env.lookAny, isTs, subTy, isRows]
    | lst l => simp [F_are_rows, initEnv, Env.lookAny, isTs, subTy, isRows]
    | _ => exact absurd hd (by simp [okD])
end
end Sr.G
end

section
set_option autoImplicit false
set_option linter.all false
set_option Elab.async false
set_option maxHeartbeats 4000000
/-! G5: is_ground, what is reached, narrow. -/
namespace Sr.G
open PySem Sr.Pl Gc
/-- what is a ground -/
def isGr (d : D) : Bool := match d with
  | .tup [.tup rs, .tup gl] => isRows (.tup rs) && gatesOk ((rs.map fun r => match r with | .tup l => l.map nI | _ => [])) rs.length (wD rs).toNat gl
  | _ => false
theorem back_rows (R : List (List Int)) : ((R.map rwD).map fun r => match r with | .tup l => l.map nI | _ => []) = R := by
  rw [List.map_map]
  refine (List.map_congr_left fun r _ => ?_).trans (List.map_id R)
  show (r.map D.int).map nI = r
  rw [List.map_map]
  exact List.map_id r
theorem wD_rw {R : List (List Int)} {h w : Nat} (S : Shp R h w) : wD (R.map rwD) = w := by
  have h1 := S.h1
  have hL := S.len
  cases R with
  | nil => simp at hL; omega
  | cons r R =>
    show ((r.map D.int).length : Int) = _
    rw [List.length_map, S.row r (List.mem_cons_self ..)]
theorem isGr_rw {R : List (List Int)} {h w : Nat} (S : Shp R h w) (hv : ∀ r ∈ R, ∀ v ∈ r, 0 ≤ v ∧ v ≤ 2) (gl : List D) : isGr (.tup [.tup (R.map rwD), .tup gl]) = gatesOk R h w gl := by
  show (isRows (.tup (R.map rwD)) && gatesOk ((R.map rwD).map fun r => match r with | .tup l => l.map nI | _ => []) (R.map rwD).length (wD (R.map rwD)).toNat gl) = _
  rw [isRows_rw S hv, back_rows, wD_rw S, List.length_map, S.len]
  simp
theorem isGr_of {d : D} (hd : isGr d = true) : ∃ R g h w, d = grD R g ∧ Grd R g h w := by
  unfold isGr at hd
  split at hd
  · rename_i rs gl
    rw [Bool.and_eq_true] at hd
    obtain ⟨R, h, w, e, S, hv⟩ := isRows_of hd.1
    cases e
    have := isGr_rw S hv gl
    have h2 : gatesOk R h w gl = true := by
      rw [← this]
      show (isRows (.tup (R.map rwD)) && gatesOk ((R.map rwD).map fun r => match r with | .tup l => l.map nI | _ => []) (R.map rwD).length (wD (R.map rwD)).toNat gl) = true
      rw [Bool.and_eq_true]
      exact hd
    obtain ⟨g, rfl, G⟩ := grd_of S hv h2
    exact ⟨R, g, h, w, rfl, G⟩
  · cases hd
theorem isGr_gr {R : List (List Int)} {g : List Pt} {h w : Nat} (G : Grd R g h w) : isGr (grD R g) = true := (isGr_rw G.shp G.vals _).trans (gatesOk_of G)
theorem cell {R : List (List Int)} {h w : Nat} (S : Shp R h w) {p : Pt} (hp : inb h w p = true) : ∃ (i j : Nat) (r : List Int) (v : Int), p = ((i : Int), (j : Int)) ∧ R[i]? = some r ∧ r[j]? = some v ∧ idxop (.tup (R.map rwD)) (.int p.1) = some (rwD r) ∧ idxop (rwD r) (.int p.2) = some (.int v) := by
  unfold inb at hp
  simp only [Bool.and_eq_true, decide_eq_true_eq] at hp
  obtain ⟨⟨a, b⟩, c, d⟩ := hp
  have hi : p.1.toNat < R.length := by rw [S.len]; omega
  have hr := S.row _ (List.getElem_mem hi)
  have hj : p.2.toNat < (R[p.1.toNat]).length := by rw [hr]; omega
  have e1 : p.1 = (p.1.toNat : Int) := by omega
  have e2 : p.2 = (p.2.toNat : Int) := by omega
  refine ⟨p.1.toNat, p.2.toNat, R[p.1.toNat], (R[p.1.toNat])[p.2.toNat], ?_, List.getElem?_eq_getElem hi, List.getElem?_eq_getElem hj, ?_, ?_⟩
  · rw [← e1, ← e2]
  · have := idx_tmap rwD R _ hi
    rwa [← e1] at this
  · have := idx_tmap D.int _ _ hj
    rwa [← e2] at this
theorem contains_sp {R : List (List Int)} {i j : Nat} {r : List Int} {v w : Int} (h1 : R[i]? = some r) (h2 : r[j]? = some v) : (sp R w).contains ((i : Int), (j : Int)) = decide (v = w) := by
  rw [List.contains_eq_mem]
  refine decide_eq_decide.mpr ?_
  rw [mem_sp]
  constructor
  · rintro ⟨i', j', r', g1, g2, e⟩
    have e1 := congrArg Prod.fst e
    have e2 := congrArg Prod.snd e
    simp only [Int.natCast_inj] at e1 e2
    subst e1 e2
    rw [h1] at g1
    cases g1
    rw [h2] at g2
    cases g2
    rfl
  · rintro rfl
    exact ⟨i, j, r, h1, h2, rfl⟩
theorem in_two (i a b : Int) : cmpop .isIn (.int i) (.tup [.int a, .int b]) = some (decide (i = a) || decide (i = b)) := by
  have := cmp_inT [a, b] i
  rw [show ([a, b].map D.int) = [.int a, .int b] from rfl] at this
  rw [this]
  have e1 : (a == i) = decide (i = a) := by rw [beq_dec]; exact decide_eq_decide.mpr eq_comm
  have e2 : (b == i) = decide (i = b) := by rw [beq_dec]; exact decide_eq_decide.mpr eq_comm
  simp only [List.any_cons, List.any_nil, e1, e2, Bool.or_false]
section
variable {P : Pg}
theorem run_bord (hf : P.fns 69 = some F_is_border) (l : Nat) {R : List (List Int)} {h w : Nat} (S : Shp R h w) (p : Pt) (T : List Nd) : run P (l+1) 69 [(.sh, .tup (R.map rwD)), (.sh, pl p)] T = .ok (.bl (bord h w p), false) T := by
  obtain ⟨r0, hr0, e0⟩ := idx_rows0 S
  have hl := S.row r0 hr0
  have hL := S.len
  have i1 := in_two p.1 0 ((h : Int) - 1)
  have i2 := in_two p.2 0 ((w : Int) - 1)
  rw [run_one hf rfl]
  simp [F_is_border, initEnv, Env.lookAny, e0, hl, hL, i1, i2]
  unfold bord
  rw [← Bool.decide_or]
  by_cases c : p.1 = 0 ∨ p.1 = (h : Int) - 1 <;> simp [c, Env.lookAny, e0, hl, i2]
structure Fns (P : Pg) (cM cF cS cX : Nat) : Prop where
  f0 : P.fns 0 = some Cm.F_is_number
  f1 : P.fns 1 = some Cm.F_is_row
  f66 : P.fns 66 = some (F_are_rows cM cF cS)
  f67 : P.fns 67 = some (F_is_place_of cM)
  f68 : P.fns 68 = some F_do_rise
  f69 : P.fns 69 = some F_is_border
  f70 : P.fns 70 = some (F_is_ground cF)
  f75 : P.fns 75 = some (F_need_ground cX)
  cM : P.con cM = .int 8
  cF : P.con cF = .int 0
  cS : P.con cS = .int 2
theorem run_isgr {cM cF cS cX : Nat} (H : Fns P cM cF cS cX) (l : Nat) {d : D} {I B n : Nat} (hd : okD false I B n d = true) (hB : B < 100000) (T : List Nd) : run P (l+4) 70 [(.sh, d)] T = .ok (.bl (isGr d), false) T := by
  rw [run_one H.f70 rfl]
  cases n with
  | zero => exact absurd hd (by simp [okD])
  | succ n =>
    cases d with
    | non => simp [F_is_ground, initEnv, Env.lookAny, isTs, subTy, isGr]
    | bl b => simp [F_is_ground, initEnv, Env.lookAny, isTs, subTy, isGr]
    | int i => simp [F_is_ground, initEnv, Env.lookAny, isTs, subTy, isGr]
    | str z => simp [F_is_ground, initEnv, Env.lookAny, isTs, subTy, isGr]
    | lst l => simp [F_is_ground, initEnv, Env.lookAny, isTs, subTy, isGr]
    | tup ds =>
      have hds := (okD_tup.1 hd).2
      by_cases c : ds.length = 2
      · obtain ⟨x, y, rfl⟩ : ∃ x y, ds = [x, y] := by
          match ds, c with
          | [x, y], _ => exact ⟨x, y, rfl⟩
        have hx := hds x (by simp)
        have hy := hds y (by simp)
        have er := run_rows H.f0 H.f1 H.f66 H.cM H.cF H.cS l hx T
        have e0 : idxop (.tup [x, y]) (.int 0) = some x := rfl
        cases hr : isRows x with
        | false =>
          rw [hr] at er
          have : isGr (.tup [x, y]) = false := by
            cases hs : isGr (.tup [x, y])
            · rfl
            · obtain ⟨R, g, h, w, e, G⟩ := isGr_of hs
              cases e
              rw [isRows_rw G.shp G.vals] at hr
              cases hr
          simp [F_is_ground, initEnv, Env.lookAny, isTs, subTy, e0, er, M.mode, Env.isOw, this]
        | true =>
          rw [hr] at er
          obtain ⟨R, h, w, rfl, S, hv⟩ := isRows_of hr
          have ta : Env.target [some (.sh, .tup [.tup (R.map rwD), y]), none, none, none] (.tp [1, 2]) (.tup [.tup (R.map rwD), y]) T = .ok [some (.sh, .tup [.tup (R.map rwD), y]), some (.sh, .tup (R.map rwD)), some (.sh, y), none] T := rfl
          have ty : deref y T = .ok y T := by cases n with
            | zero => exact absurd hy (by simp [okD])
            | succ n => cases y <;> first | rfl | exact absurd hy (by simp [okD])
          by_cases cy : ∃ gl, y = .tup gl
          · obtain ⟨gl, rfl⟩ := cy
            rw [isGr_rw S hv gl]
            have hgl : ∀ x ∈ gl, ∃ m, okD false I B m x = true := fun z hz => by
              cases n with
              | zero => exact absurd hy (by simp [okD])
              | succ n => exact ⟨n, (okD_tup.1 hy).2 z hz⟩
            have hgB : gl.length ≤ B := by
              cases n with
              | zero => exact absurd hy (by simp [okD])
              | succ n => exact (okD_tup.1 hy).1
            by_cases c0 : gl = []
            · subst c0
              simp [F_is_ground, initEnv, Env.look, Env.lookAny, isTs, subTy, e0, er, M.mode, Env.isOw, ta, gatesOk]
            · have cl : ¬ (gl.length : Int) = 0 := by
                cases gl with
                | nil => exact absurd rfl c0
                | cons a b => simp; omega
              have ce : gl.isEmpty = false := by
                cases gl with
                | nil => exact absurd rfl c0
                | cons a b => rfl
              have k1 : ev P (run P (l+3)) (.comp (.call 67 [.var 1, .var 3]) (.nm 3) 0 [.var 2] []) [some (.sh, .tup [.tup (R.map rwD), .tup gl]), some (.sh, .tup (R.map rwD)), some (.sh, .tup gl), none] T = .ok (.lst (gl.map fun x => .bl (isSpot h w x)), true) T := by
                rw [ev_comp (fun x => x) (fun _ => true) (fun x => D.bl (isSpot h w x)) gl (ds := [.tup gl])]
                · rw [filt_true]
                · simp [Env.lookAny]
                · rw [items_0t, List.map_id']
                · exact le_SZ (by omega)
                · intro x hx
                  obtain ⟨m, hm⟩ := hgl x hx
                  have := run_spot H.f0 H.f1 H.f67 H.cM l S hm T
                  exact ⟨[some (.sh, .tup [.tup (R.map rwD), .tup gl]), some (.sh, .tup (R.map rwD)), some (.sh, .tup gl), some (.sh, x)], rfl, by simp, fun _ => ⟨false, by simp [Env.lookAny, M.mode, Env.isOw, this]⟩⟩
              have a1 := bip_all (isSpot h w) gl
              cases hs : gl.all (isSpot h w) with
              | false =>
                rw [hs] at a1
                have : gatesOk R h w gl = false := by unfold gatesOk; rw [hs]; simp
                rw [this]
                simp [F_is_ground, initEnv, Env.look, Env.lookAny, isTs, subTy, e0, er, M.mode, Env.isOw, ta, c0]
                simp [k1, a1]
              | true =>
                rw [hs] at a1
                obtain ⟨g, rfl, hg⟩ : ∃ g : List Pt, gl = g.map pl ∧ ∀ p ∈ g, inb h w p = true := by
                  rw [List.all_eq_true] at hs
                  have : ∀ gl : List D, (∀ x ∈ gl, isSpot h w x = true) → ∃ g : List Pt, gl = g.map pl ∧ ∀ p ∈ g, inb h w p = true := by
                    intro gl
                    induction gl with
                    | nil => exact fun _ => ⟨[], rfl, by simp⟩
                    | cons x gl ih =>
                      intro hh
                      obtain ⟨g, rfl, hg⟩ := ih fun y hy => hh y (List.mem_cons_of_mem _ hy)
                      obtain ⟨p, rfl, hp⟩ := isSpot_of (hh x (List.mem_cons_self ..))
                      refine ⟨p :: g, rfl, fun q hq => ?_⟩
                      rcases List.mem_cons.mp hq with rfl | hq
                      · exact hp
                      · exact hg q hq
                  exact this gl hs
                have hgl2 : g.length < 100000 := by rw [List.length_map] at hgB; omega
                have rr := run_rise (P := P) H.f68 (l+2) (g := g) (fun p hp => inb_bd S.h8 S.w8 (hg p hp)) hgl2 T
                have hGk : gatesOk R h w (g.map pl) = (riseB g && g.all fun p => bord h w p && (sp R 0).contains p) := by
                  unfold gatesOk
                  rw [hs, ce, map_unpl]
                  simp
                rw [hGk]
                have k2 : ev P (run P (l+3)) (.comp (.and (.call 69 [.var 1, .var 3]) (.cmp .eq (.idx (.idx (.var 1) (.idx (.var 3) (.cst (.int 0)))) (.idx (.var 3) (.cst (.int 1)))) (.gcst cF))) (.nm 3) 0 [.var 2] []) [some (.sh, .tup [.tup (R.map rwD), .tup (g.map pl)]), some (.sh, .tup (R.map rwD)), some (.sh, .tup (g.map pl)), none] T = .ok (.lst (g.map fun p => .bl (bord h w p && (sp R 0).contains p)), true) T := by
                  rw [ev_comp pl (fun _ => true) (fun p => D.bl (bord h w p && (sp R 0).contains p)) g (ds := [.tup (g.map pl)])]
                  · rw [filt_true]
                  · simp [Env.lookAny]
                  · rfl
                  · exact le_SZ (by omega)
                  · intro p hp
                    refine ⟨[some (.sh, .tup [.tup (R.map rwD), .tup (g.map pl)]), some (.sh, .tup (R.map rwD)), some (.sh, .tup (g.map pl)), some (.sh, pl p)], rfl, by simp, fun _ => ⟨false, ?_⟩⟩
                    have e := run_bord (P := P) H.f69 (l+2) S p T
                    obtain ⟨i, j, r, v, ep, q1, q2, q3, q4⟩ := cell S (hg p hp)
                    have q5 := contains_sp (w := 0) q1 q2
                    rw [← ep] at q5
                    rw [q5]
                    cases hb : bord h w p with
                    | false =>
                      rw [hb] at e
                      simp [Env.lookAny, M.mode, Env.isOw, e]
                    | true =>
                      rw [hb] at e
                      simp [Env.lookAny, M.mode, Env.isOw, e, q3, q4, H.cF]
                have a2 := bip_all (fun p => bord h w p && (sp R 0).contains p) g
                cases hrs : riseB g with
                | false =>
                  rw [hrs] at rr
                  have c0g : ¬ g = [] := by simpa using c0
                  simp [F_is_ground, initEnv, Env.look, Env.lookAny, isTs, subTy, e0, er, M.mode, Env.isOw, ta, c0g]
                  rw [k1]
                  simp [-List.map_map, a1, Env.lookAny, M.mode, Env.isOw, rr]
                | true =>
                  rw [hrs] at rr
                  have c0g : ¬ g = [] := by simpa using c0
                  simp [F_is_ground, initEnv, Env.look, Env.lookAny, isTs, subTy, e0, er, M.mode, Env.isOw, ta, c0g]
                  rw [k1]
                  simp [-List.map_map, a1, Env.lookAny, M.mode, Env.isOw, rr]
                  rw [k2]
                  simp [-List.contains_eq_mem, a2]
                  try simp
          · have : isGr (.tup [.tup (R.map rwD), y]) = false := by
              unfold isGr
              split
              · rename_i e
                cases e
                exact absurd ⟨_, rfl⟩ cy
              · rfl
            rw [this]
            cases n with
            | zero => exact absurd hy (by simp [okD])
            | succ n =>
              cases y <;> first
                | exact absurd ⟨_, rfl⟩ cy
                | (simp [F_is_ground, initEnv, Env.look, Env.lookAny, isTs, subTy, e0, er, M.mode, Env.isOw, ta]; done)
                | exact absurd hy (by simp [okD])
      · have c' : ¬ (ds.length : Int) = 2 := by omega
        have : isGr (.tup ds) = false := by
          unfold isGr
          split
          · rename_i e
            cases e
            exact absurd rfl c
          · rfl
        rw [this]
        simp [F_is_ground, initEnv, Env.lookAny, isTs, subTy, c']
    | _ => exact absurd hd (by simp [okD])
theorem run_need {cM cF cS cX : Nat} (H : Fns P cM cF cS cX) (l : Nat) {d : D} {I B n : Nat} (hd : okD false I B n d = true) (hB : B < 100000) (T : List Nd) : run P (l+5) 75 [(.sh, d)] T = if isGr d then .ok (.non, false) T else .ex cX [] T := by
  have e := run_isgr H l hd hB T
  rw [run_one H.f75 rfl]
  cases h : isGr d <;> (rw [h] at e; simp [F_need_ground, initEnv, Env.lookAny, M.mode, Env.isOw, e])
end
end Sr.G
end

section
set_option autoImplicit false
set_option linter.all false
set_option Elab.async false
set_option maxHeartbeats 4000000
/-! G6: what is reached; narrow places; a ground with something else. -/
namespace Sr.G
open PySem Sr.Pl Gc
theorem allAlk_pl (q : List Pt) : allAlk (q.map pl) = true := by
  unfold allAlk
  rw [List.all_eq_true]
  intro d hd
  obtain ⟨p, _, rfl⟩ := List.mem_map.mp hd
  rw [Bool.and_eq_true, List.all_eq_true]
  refine ⟨rfl, fun e he => ?_⟩
  obtain ⟨r, _, rfl⟩ := List.mem_map.mp he
  rfl
theorem sorted_pl {q : List Pt} (hb : ∀ p ∈ q, (0 ≤ p.1 ∧ p.1 < 8) ∧ 0 ≤ p.2 ∧ p.2 < 8) (nd : q.Nodup) : ∃ k : List Pt, bip .sorted [.lst (q.map pl)] = some (.lst (k.map pl), true) ∧ Asc k ∧ ∀ x, x ∈ k ↔ x ∈ q := by
  have hs : ∀ y ∈ q.map pl, smT 2 y = true := fun y hy => by
    obtain ⟨p, hp, rfl⟩ := List.mem_map.mp hy
    exact smT_pl (hb p hp)
  have nd' : (q.map pl).Nodup := by
    unfold List.Nodup
    rw [List.pairwise_map]
    exact List.Pairwise.imp (fun {a b} h e => h (pl_inj e)) nd
  obtain ⟨k, e, a⟩ := asc_pl (l := sortD (q.map pl)) (fun d hd => by
    obtain ⟨p, _, rfl⟩ := List.mem_map.mp (mem_sortD.mp hd)
    exact ⟨p, rfl⟩) (sortD_lt hs nd')
  refine ⟨k, ?_, a, fun x => ?_⟩
  · have h1 : sortable (q.map pl) = true := by
      unfold sortable
      rw [Bool.or_eq_true]
      refine .inl (List.all_eq_true.mpr fun d hd => ?_)
      obtain ⟨p, _, rfl⟩ := List.mem_map.mp hd
      rfl
    show (if (allAlk (q.map pl) && sortable (q.map pl)) = true then some (D.lst (sortD (q.map pl)), true) else none) = _
    rw [allAlk_pl, h1, e]
    rfl
  · have : pl x ∈ k.map pl ↔ pl x ∈ q.map pl := by rw [← e]; exact mem_sortD
    simp only [List.mem_map] at this
    constructor
    · intro h
      obtain ⟨y, hy, e⟩ := this.mp ⟨x, h, rfl⟩
      exact pl_inj e ▸ hy
    · intro h
      obtain ⟨y, hy, e⟩ := this.mpr ⟨x, h, rfl⟩
      exact pl_inj e ▸ hy
/-- the cells come to from the gates through free ones -/
def RchG (R : List (List Int)) (g : List Pt) : Pt → Prop := Rch g (sp R 0) adjB
theorem sp_length {R : List (List Int)} {h w : Nat} (S : Shp R h w) (v : Int) (hw : h * w < 64) : (sp R v).length < 64 := by
  have key : ∀ (l : List (List Int × Nat)), (∀ p ∈ l, p.1.length = w) → (l.flatMap fun p => rowAt p.2 p.1 v).length ≤ l.length * w := by
    intro l
    induction l with
    | nil => simp
    | cons p l ih =>
      intro hh
      rw [List.flatMap_cons, List.length_append, List.length_cons, Nat.succ_mul]
      have h1 := ih fun q hq => hh q (List.mem_cons_of_mem _ hq)
      have h2 := rowAt_len p.2 p.1 v
      have h3 := hh p (List.mem_cons_self ..)
      omega
  have := key R.zipIdx fun p hp => S.row _ (List.mem_of_getElem? (List.mem_zipIdx_iff_getElem?.mp hp))
  rw [List.length_zipIdx, S.len] at this
  exact Nat.lt_of_le_of_lt this hw
theorem sp_nodup {R : List (List Int)} {h w : Nat} (S : Shp R h w) (v : Int) : (sp R v).Nodup := (sp_asc fun r hr => by
  have := S.row r hr
  have := S.w8
  omega).nodup
theorem bd_sp {R : List (List Int)} {h w : Nat} (S : Shp R h w) {v : Int} : ∀ p ∈ sp R v, (0 ≤ p.1 ∧ p.1 < 8) ∧ 0 ≤ p.2 ∧ p.2 < 8 := fun p hp => inb_bd S.h8 S.w8 (sp_inb S hp)
@[simp] theorem bip_listT (l : List D) : bip .list [.tup l] = some (.lst l, true) := eqI rfl
@[simp] theorem bip_listDic (ks vs : List D) : bip .list [.dic ks vs] = some (.lst ks, true) := eqI rfl
section
variable {P : Pg}
structure Fns2 (P : Pg) (cF : Nat) : Prop where
  f71 : P.fns 71 = some F_beside
  f72 : P.fns 72 = some F_spread
  f73 : P.fns 73 = some F_as_set
  f74 : P.fns 74 = some F_places_with
  f76 : P.fns 76 = some (F_reached_places cF)
  cF : P.con cF = .int 0
theorem run_reached_places {cF : Nat} (H : Fns2 P cF) (l : Nat) {R : List (List Int)} {h w : Nat} (S : Shp R h w) (hw : h * w < 64) {g : List Pt} (hg : g.Nodup) (hgl : g.length < 64) (T : List Nd) :
    ∃ q, run P (l+3) 76 [(.sh, grD R g)] T = .ok (dcD q, true) T ∧ q.Nodup ∧ ∀ x, x ∈ q ↔ RchG R g x := by
  have e1 := run_with H.f74 (l+1) S.few g 0 T
  have hl := sp_length S 0 hw
  have e2 := run_as_set H.f73 (l+1) (sp_nodup S 0) (by omega) (S := .tup ((sp R 0).map pl)) rfl T
  obtain ⟨q, e3, nd, m⟩ := run_spread H.f71 H.f72 l S g hg hgl hl (fun p hp => sp_inb S hp) (S := .tup (g.map pl)) rfl T
  refine ⟨q, ?_, nd, m⟩
  rw [run_one H.f76 rfl]
  simp [F_reached_places, initEnv, Env.lookAny, M.mode, Env.isOw, H.cF, e1, e2, e3]
theorem run_law_reached (h77 : P.fns 77 = some F__law_beside) (h78 : P.fns 78 = some F__law_flood) (h79 : P.fns 79 = some F__law_spots) (hf : P.fns 81 = some F__law_reached) (l : Nat) {R : List (List Int)} {h w : Nat} (S : Shp R h w) (hw : h * w < 64) {g : List Pt} (hg : g.Nodup) (hgl : g.length < 64) (T : List Nd) :
    ∃ k, run P (l+3) 81 [(.sh, grD R g)] T = .ok (.lst (k.map pl), true) T ∧ Asc k ∧ ∀ x, x ∈ k ↔ RchG R g x := by
  have e1 := run_spots h79 (l+1) S.few g 0 T
  have hl := sp_length S 0 hw
  obtain ⟨k, e3, a, m⟩ := run_flood h77 h78 l hg (sp_nodup S 0) (bd_sp S) hl hgl T
  refine ⟨k, ?_, a, m⟩
  rw [run_one hf rfl]
  simp [F__law_reached, initEnv, Env.lookAny, M.mode, Env.isOw, e1, e3]
/-- without p another place is no longer come to -/
noncomputable def nar (R : List (List Int)) (g : List Pt) (p : Pt) : Bool := @decide (∃ o, RchG R g o ∧ o ≠ p ∧ ¬ Rch (g.filter (fun x => decide (x ≠ p))) ((sp R 0).filter (fun x => decide (x ≠ p))) adjB o) (Classical.propDecidable _)
theorem nar_iff {R : List (List Int)} {g : List Pt} {p : Pt} : nar R g p = true ↔ ∃ o, RchG R g o ∧ o ≠ p ∧ ¬ Rch (g.filter (fun x => decide (x ≠ p))) ((sp R 0).filter (fun x => decide (x ≠ p))) adjB o := by
  unfold nar
  exact @decide_eq_true_iff _ (Classical.propDecidable _)
theorem run_narrow {cM cF cS cX cF' : Nat} (H1 : Fns P cM cF cS cX) (H : Fns2 P cF') (hf : P.fns 83 = some F_narrow) (l : Nat) {R : List (List Int)} {g : List Pt} {h w : Nat} (G : Grd R g h w) (hw : h * w < 64) (hgl : g.length < 64) {I B n : Nat} (hd : okD false I B n (grD R g) = true) (hB : B < 100000) (T : List Nd) :
    ∃ k, Asc k ∧ (∀ x, x ∈ k ↔ RchG R g x) ∧ run P (l+6) 83 [(.sh, grD R g)] T = .ok (.tup ((k.filter (nar R g)).map pl), false) T := by
  have S := G.shp
  have hg := G.asc.nodup
  have e1 := run_need H1 l hd hB T
  rw [isGr_gr G, if_pos rfl] at e1
  obtain ⟨q, e2, nd, m⟩ := run_reached_places H (l+2) S hw hg hgl T
  have hq : ∀ p ∈ q, p ∈ sp R 0 := fun p hp => ((m p).mp hp).isok
  have hql : q.length < 64 := Nat.lt_of_le_of_lt (nodup_len nd hq) (sp_length S 0 hw)
  obtain ⟨k, e3, a, mk⟩ := sorted_pl (q := q) (fun p hp => bd_sp S p (hq p hp)) nd
  have hkl : k.length ≤ q.length := nodup_len a.nodup fun x hx => (mk x).mp hx
  have hfor : ∃ x3 x4, exec P (run P (l+5)) (.forr 0 (.nm 3) [.bi .sorted [.bi .list [.var 1]]] [.asg (.nm 4) (.call 73 [.comp (.var 5) (.nm 5) 0 [.var 1] [.cmp .ne (.var 5) (.var 3)]]), .iff (.cmp .lt (.bi .len [.call 72 [.var 0, .idx (.var 0) (.cst (.int 1)), .var 4]]) (.op2 .sub (.bi .len [.var 1]) (.cst (.int 1)))) [.app (.var 2) (.var 3)] []])
      [some (.sh, grD R g), some (.sh, dcD q), some (.ow, .lst []), none, none, none] T = .nx [some (.sh, grD R g), some (.sh, dcD q), some (.ow, .lst ((k.filter (nar R g)).map pl)), x3, x4, none] T := by
    rw [exec_for (T1 := T) pl k (ds := [.lst (k.map pl)])]
    · obtain ⟨env', T', h1, h2⟩ := forGo_inv (tg := .nm 3) (body := fun e t => execs P (run P (l+5)) [.asg (.nm 4) (.call 73 [.comp (.var 5) (.nm 5) 0 [.var 1] [.cmp .ne (.var 5) (.var 3)]]), .iff (.cmp .lt (.bi .len [.call 72 [.var 0, .idx (.var 0) (.cst (.int 1)), .var 4]]) (.op2 .sub (.bi .len [.var 1]) (.cst (.int 1)))) [.app (.var 2) (.var 3)] []] e t) pl
        (fun rest env T' => T' = T ∧ ∃ done x3 x4, done ++ rest = k ∧ Fre x3 = true ∧ Fre x4 = true ∧ env = [some (.sh, grD R g), some (.sh, dcD q), some (.ow, .lst ((done.filter (nar R g)).map pl)), x3, x4, none])
        (by
          rintro p rest env T' ⟨rfl, done, x3, x4, hd, f3, f4, rfl⟩
          have hpk : p ∈ k := by rw [← hd]; exact List.mem_append_right _ (List.mem_cons_self ..)
          have hpq := (mk p).mp hpk
          have hdl : (done.filter (nar R g)).length < 1000 := by
            have h1 := List.length_filter_le (nar R g) done
            have h2 := congrArg List.length hd
            rw [List.length_append] at h2
            omega
          obtain ⟨qq, hqq⟩ : ∃ qq, qq = q.filter fun x => decide (x ≠ p) := ⟨_, rfl⟩
          have hc : ev P (run P (l+5)) (.comp (.var 5) (.nm 5) 0 [.var 1] [.cmp .ne (.var 5) (.var 3)]) [some (.sh, grD R g), some (.sh, dcD q), some (.ow, .lst ((done.filter (nar R g)).map pl)), some (.sh, pl p), x4, none] T' = .ok (.lst (qq.map pl), true) T' := by
            rw [ev_comp pl (fun x => decide (x ≠ p)) pl q (ds := [dcD q])]
            · rw [hqq]
            · simp [Env.lookAny]
            · rfl
            · exact le_SZ (by omega)
            · intro x hx
              refine ⟨[some (.sh, grD R g), some (.sh, dcD q), some (.ow, .lst ((done.filter (nar R g)).map pl)), some (.sh, pl p), x4, some (.sh, pl x)], rfl, ?_, fun _ => ⟨false, ?_⟩⟩
              · simp [Env.lookAny]
              · simp [Env.look]
          have qf : ∀ x, x ∈ qq ↔ x ∈ q ∧ x ≠ p := fun x => by rw [hqq]; simp
          have hfl : qq.length < 64 := by rw [hqq]; exact Nat.lt_of_le_of_lt (List.length_filter_le ..) hql
          have ea := run_as_set H.f73 (l+4) (ps := qq) (by rw [hqq]; exact nd.filter _) (by omega) (S := .lst (qq.map pl)) rfl T'
          obtain ⟨s, es, ns, ms⟩ := run_spread H.f71 H.f72 (l+3) S g hg hgl hfl (fun x hx => sp_inb S (hq x ((qf x).mp hx).1)) (S := .tup (g.map pl)) rfl T'
          have hs : ∀ x ∈ s, x ∈ q ∧ x ≠ p := fun x hx => (qf x).mp ((ms x).mp hx).isok
          have few := fewer nd ns hpq hs (k := q) (l := s) (fun x => Iff.rfl) fun x => Iff.rfl
          have hn : nar R g p = decide (s.length < q.length - 1) := by
            rw [← Bool.coe_iff_coe, nar_iff, decide_eq_true_iff, few, List.any_eq_true]
            have same : ∀ x, x ∈ s ↔ Rch (g.filter (fun x => decide (x ≠ p))) ((sp R 0).filter (fun x => decide (x ≠ p))) adjB x := fun x => (ms x).trans (less_same (p := p) q m qf (fun x => by simp) fun x => by simp)
            constructor
            · rintro ⟨o, h1, h2, h3⟩
              exact ⟨o, (m o).mpr h1, by rw [decide_eq_true h2, Bool.true_and, Bool.not_eq_true', List.contains_eq_mem, decide_eq_false_iff_not, same]; exact h3⟩
            · rintro ⟨o, h1, h2⟩
              simp only [Bool.and_eq_true, decide_eq_true_eq, Bool.not_eq_true', List.contains_eq_mem, decide_eq_false_iff_not, same] at h2
              exact ⟨o, (m o).mp h1, h2.1, h2.2⟩
          have hq1 : 1 ≤ q.length := List.length_pos_of_mem hpq
          have hn2 : decide ((s.length : Int) < (q.length : Int) - 1) = nar R g p := by
            rw [hn]
            exact decide_eq_decide.mpr (by omega)
          have b1 : bip .len [dcD s] = some (.int s.length, false) := by
            show some (D.int ((s.map pl).length : Nat), false) = _
            rw [List.length_map]
          have b2 : bip .len [dcD q] = some (.int q.length, false) := by
            show some (D.int ((q.map pl).length : Nat), false) = _
            rw [List.length_map]
          have b3 : ∀ q T, deref (dcD q) T = .ok (dcD q) T := fun q T => rfl
          have t4 : Env.target [some (.sh, grD R g), some (.sh, dcD q), some (.ow, .lst ((done.filter (nar R g)).map pl)), some (.sh, pl p), x4, none] (.nm 4) (dcD qq) T' = .ok [some (.sh, grD R g), some (.sh, dcD q), some (.ow, .lst ((done.filter (nar R g)).map pl)), some (.sh, pl p), some (.sh, dcD qq), none] T' := put_at (x := x4) rfl f4
          refine ⟨[some (.sh, grD R g), some (.sh, dcD q), some (.ow, .lst ((done.filter (nar R g)).map pl)), some (.sh, pl p), x4, none], [some (.sh, grD R g), some (.sh, dcD q), some (.ow, .lst (((done ++ [p]).filter (nar R g)).map pl)), some (.sh, pl p), some (.sh, dcD qq), none], T', T', put_at (x := x3) rfl f3, ?_, rfl, done ++ [p], _, _, by rw [List.append_assoc]; exact hd, rfl, rfl, rfl⟩
          have ap := app_pl p hdl
          rw [Pl.execs_cons, exec_asg]
          have ec : ev P (run P (l+5)) (.call 73 [.comp (.var 5) (.nm 5) 0 [.var 1] [.cmp .ne (.var 5) (.var 3)]]) [some (.sh, grD R g), some (.sh, dcD q), some (.ow, .lst ((done.filter (nar R g)).map pl)), some (.sh, pl p), x4, none] T' = .ok (dcD qq, true) T' := by
            simp only [ev_call, evo_cons, evo_nil, opd_comp, hc, bindOk, bindM, bindM', retM, fstR_ok, List.map_cons, List.map_nil, M.mode, List.zip_cons_cons, List.zip_nil_right, ea]
          rw [ec]
          simp only [thenR_ok, t4, go_nx]
          cases hnp : nar R g p with
          | false =>
            rw [hnp] at hn2
            simp [Env.lookAny, M.mode, Env.isOw, es, b1, b2, b3, hn2, List.filter_append, hnp]
          | true =>
            rw [hnp] at hn2
            simp [Env.look, Env.lookAny, M.mode, Env.isOw, es, b1, b2, b3, hn2, updO, ap, derefT, tyD, List.filter_append, hnp])
        k [some (.sh, grD R g), some (.sh, dcD q), some (.ow, .lst []), none, none, none] T ⟨rfl, [], none, none, rfl, rfl, rfl, rfl⟩
      obtain ⟨rfl, done, x3, x4, hd, _, _, rfl⟩ := h2
      rw [List.append_nil] at hd
      subst hd
      exact ⟨x3, x4, h1⟩
    · simp [lockOf]
    · have b3 : deref (dcD q) T = .ok (dcD q) T := rfl
      have b4 : bip .list [dcD q] = some (.lst (q.map pl), true) := rfl
      simp [Env.lookAny, b3, b4, e3]
    · rfl
  obtain ⟨x3, x4, hfor⟩ := hfor
  refine ⟨k, a, fun x => (mk x).trans (m x), ?_⟩
  rw [run_one hf rfl]
  simp [F_narrow, initEnv, Env.lookAny, M.mode, Env.isOw, e1, e2, Env.target, Env.put, Env.free, hfor]
end
end Sr.G
end

section
set_option autoImplicit false
set_option linter.all false
set_option Elab.async false
set_option maxHeartbeats 4000000
/-! G7: rows that are changed. -/
namespace Sr.G
open PySem Sr.Pl Gc
def ndR (r : List Int) : Nd := .lst (r.map .int)
theorem compGo_cnt {α : Type} {env : Env} {tg : Tg} {test : Env → Mo Bool} {elt : Env → Mo (D × Bool)} (f : α → D) (y : Nat → D) (Q : Nat → List Nd → Prop) (l : List α) :
    ∀ (n : Nat), (∀ k a, l[k]? = some a → ∀ T, Q (n + k) T → ∃ e fr T', env.target tg (f a) T = .ok e T ∧ test e T = .ok true T ∧ elt e T = .ok (y (n + k), fr) T' ∧ Q (n + k + 1) T') →
    ∀ T, Q n T → ∃ T', compGo env tg test elt (l.map f) T = .ok ((List.range' n l.length).map y) T' ∧ Q (n + l.length) T' := by
  induction l with
  | nil => exact fun n _ T hT => ⟨T, rfl, hT⟩
  | cons a l ih =>
    intro n h T hT
    obtain ⟨e, fr, T', h1, h2, h3, h5⟩ := h 0 a rfl T hT
    obtain ⟨T2, g1, g4⟩ := ih (n + 1) (fun k b hb T hT => by
      have e1 : n + 1 + k = n + (k + 1) := by omega
      rw [e1] at hT ⊢
      exact h (k + 1) b hb T hT) T' h5
    refine ⟨T2, ?_, by rw [List.length_cons]; have : n + (l.length + 1) = n + 1 + l.length := by omega
                       rw [this]; exact g4⟩
    rw [List.map_cons, compGo, h1]
    show (match test e T with | _ => _) = _
    rw [h2]
    show (match elt e T with | _ => _) = _
    rw [h3]
    show (match compGo env tg test elt (l.map f) T' with | _ => _) = _
    rw [g1]
    rfl
/-- a comprehension of new objects -/
theorem ev_comp_cnt {α : Type} {P : Pg} {call : Call} {elt : M} {tg : Tg} {k : Nat} {it : List M} {env : Env} {T T1 : List Nd} {ds : List D} (f : α → D) (y : Nat → D) (Q : Nat → List Nd → Prop) (l : List α)
    (hit : evo P call it env T = .ok ds T1) (hk : items k ds = some (l.map f)) (hsz : l.length ≤ SZ) (hQ : Q 0 T1)
    (h : ∀ n a, l[n]? = some a → ∀ T, Q n T → ∃ e fr T', (env.wipe tg.slots).target tg (f a) T = .ok e T ∧ ev P call elt e T = .ok (y n, fr) T' ∧ Q (n + 1) T') :
    ∃ T', ev P call (.comp elt tg k it []) env T = .ok (.lst ((List.range l.length).map y), true) T' ∧ Q l.length T' := by
  obtain ⟨T', h1, h4⟩ := compGo_cnt (env := env.wipe tg.slots) (tg := tg) (test := fun e => evc P call [] e) (elt := fun e => ev P call elt e) f y Q l 0
    (fun n a ha T hT => by
      rw [Nat.zero_add] at hT ⊢
      obtain ⟨e, fr, T', g1, g2, g4⟩ := h n a ha T hT
      exact ⟨e, fr, T', g1, by simp [evc], g2, g4⟩) T1 hQ
  rw [Nat.zero_add] at h4
  refine ⟨T', ?_, h4⟩
  rw [ev]
  show ((evo P call it env T).bind _) = _
  rw [hit]
  show ((ofO (items k ds) T1).bind _) = _
  rw [hk]
  show ((compGo (env.wipe tg.slots) tg (fun e => evc P call [] e) (fun e => ev P call elt e) (l.map f) T1).bind _) = _
  rw [h1, ← List.range_eq_range']
  show (if ((List.range l.length).map y).length ≤ SZ then _ else _ : Mo _) T' = _
  rw [if_pos (by rw [List.length_map, List.length_range]; exact hsz)]
  rfl
theorem ev_new_ok {P : Pg} {call : Call} {a : M} {env : Env} {T T1 : List Nd} {r : List Int} (h : ev P call a env T = .ok (.lst (r.map .int), true) T1) : ev P call (.new a) env T = .ok (.own T1.length, false) (T1 ++ [ndR r]) := by
  rw [ev]
  show ((ev P call a env T).bind _) = _
  rw [h]
  show ((newT (.lst (r.map .int)) T1).bind _) = _
  have : newT (.lst (r.map .int)) T1 = .ok (.own T1.length) (T1 ++ [ndR r]) := by
    show (match toNd (.lst (r.map .int)) with | some n => _ | none => _) = _
    rw [show toNd (.lst (r.map .int)) = some (ndR r) from if_pos (noOwnL_ints r)]
  rw [this]
  rfl
theorem trimT_app {T L : List Nd} {d : D} (hd : d.noOwn = true) (hT : T.any Nd.isIns = false) : trimT T.length d (T ++ L) = T := by
  unfold trimT
  rw [List.take_left, hd, hT]
  rfl
/-! a place set -/
def setR (R : List (List Int)) (p : Pt) (v : Int) : List (List Int) := R.set p.1.toNat ((R.getD p.1.toNat []).set p.2.toNat v)
theorem setR_len (R : List (List Int)) (p : Pt) (v : Int) : (setR R p v).length = R.length := List.length_set ..
theorem mem_setR {R : List (List Int)} {p : Pt} {v : Int} {r : List Int} (h : r ∈ setR R p v) : r ∈ R ∨ r = (R.getD p.1.toNat []).set p.2.toNat v := by
  unfold setR at h
  exact List.mem_or_eq_of_mem_set h
theorem setR_shp {R : List (List Int)} {h w : Nat} (S : Shp R h w) {p : Pt} (hp : inb h w p = true) (v : Int) : Shp (setR R p v) h w where
  len := by rw [setR_len]; exact S.len
  row := fun r hr => by
    rcases mem_setR hr with hr | rfl
    · exact S.row r hr
    · rw [List.length_set]
      obtain ⟨i, j, r, v, rfl, h1, _⟩ := cell S hp
      have : (R.getD ((i : Int), (j : Int)).1.toNat []) = r := by
        show (R.getD (i : Int).toNat []) = r
        rw [Int.toNat_natCast, List.getD_eq_getElem?_getD, h1]; rfl
      rw [this]
      exact S.row r (List.mem_of_getElem? h1)
  h1 := S.h1
  h8 := S.h8
  w1 := S.w1
  w8 := S.w8
theorem setR_vals {R : List (List Int)} {h w : Nat} (S : Shp R h w) (hv : ∀ r ∈ R, ∀ v ∈ r, 0 ≤ v ∧ v ≤ 2) {p : Pt} (hp : inb h w p = true) {u : Int} (hu : 0 ≤ u ∧ u ≤ 2) : ∀ r ∈ setR R p u, ∀ v ∈ r, 0 ≤ v ∧ v ≤ 2 := fun r hr v hvr => by
  rcases mem_setR hr with hr | rfl
  · exact hv r hr v hvr
  · obtain ⟨i, j, r, z, rfl, h1, _⟩ := cell S hp
    have : (R.getD ((i : Int), (j : Int)).1.toNat []) = r := by
      show (R.getD (i : Int).toNat []) = r
      rw [Int.toNat_natCast, List.getD_eq_getElem?_getD, h1]; rfl
    rw [this] at hvr
    rcases List.mem_or_eq_of_mem_set hvr with hvr | rfl
    · exact hv r (List.mem_of_getElem? h1) v hvr
    · exact hu
theorem mem_sp_set {R : List (List Int)} {h w : Nat} (S : Shp R h w) {p : Pt} (hp : inb h w p = true) {v u : Int} {x : Pt} : x ∈ sp (setR R p v) u ↔ (x = p ∧ v = u) ∨ (x ≠ p ∧ x ∈ sp R u) := by
  obtain ⟨i, j, r, z, rfl, h1, h2, _⟩ := cell S hp
  have e : setR R ((i : Int), (j : Int)) v = R.set i (r.set j v) := by
    unfold setR
    show R.set (i : Int).toNat ((R.getD (i : Int).toNat []).set (j : Int).toNat v) = _
    rw [Int.toNat_natCast, Int.toNat_natCast, List.getD_eq_getElem?_getD, h1]; rfl
  have hi := (List.getElem?_eq_some_iff.mp h1).1
  have hj := (List.getElem?_eq_some_iff.mp h2).1
  rw [e, mem_sp, mem_sp]
  constructor
  · rintro ⟨a, b, q, g1, g2, rfl⟩
    by_cases c : a = i
    · subst c
      rw [List.getElem?_set_self hi] at g1
      cases g1
      by_cases d : b = j
      · subst d
        rw [List.getElem?_set_self hj] at g2
        cases g2
        exact .inl ⟨rfl, rfl⟩
      · rw [List.getElem?_set_ne (fun e => d e.symm)] at g2
        refine .inr ⟨fun e => d ?_, a, b, r, h1, g2, rfl⟩
        have := congrArg Prod.snd e
        simp at this; omega
    · rw [List.getElem?_set_ne (fun e => c e.symm)] at g1
      refine .inr ⟨fun e => c ?_, a, b, q, g1, g2, rfl⟩
      have := congrArg Prod.fst e
      simp at this; omega
  · rintro (⟨rfl, rfl⟩ | ⟨ne, a, b, q, g1, g2, rfl⟩)
    · exact ⟨i, j, r.set j v, List.getElem?_set_self hi, List.getElem?_set_self hj, rfl⟩
    · by_cases c : a = i
      · subst c
        rw [h1] at g1
        cases g1
        have d : b ≠ j := fun d => ne (by rw [d])
        exact ⟨a, b, r.set j v, List.getElem?_set_self hi, by rw [List.getElem?_set_ne (fun e => d e.symm)]; exact g2, rfl⟩
      · exact ⟨a, b, q, by rw [List.getElem?_set_ne (fun e => c e.symm)]; exact g1, g2, rfl⟩
/-- the rows, as objects of the store from n on -/
def ownsD (n h : Nat) : D := .lst ((List.range h).map fun i => D.own (n + i))
@[simp] theorem deref_owns (n h : Nat) (T : List Nd) : deref (ownsD n h) T = .ok (ownsD n h) T := eqI rfl
theorem idx_owns {n h i : Nat} (hi : i < h) : idxop (ownsD n h) (.int (i : Int)) = some (.own (n + i)) := by
  have := idx_lmap (fun i => D.own (n + i)) (List.range h) i (by rw [List.length_range]; exact hi)
  rw [List.getElem_range] at this
  exact this
theorem at_rows {T : List Nd} {R : List (List Int)} {i : Nat} {r : List Int} (h : R[i]? = some r) : (T ++ R.map ndR)[T.length + i]? = some (ndR r) := by
  rw [List.getElem?_append_right (Nat.le_add_right ..), Nat.add_sub_cancel_left, List.getElem?_map, h]; rfl
theorem set_rows {T : List Nd} {R : List (List Int)} {i : Nat} {r : List Int} : (T ++ R.map ndR).set (T.length + i) (ndR r) = T ++ (R.set i r).map ndR := by
  rw [List.set_append_right _ _ (Nat.le_add_right ..), Nat.add_sub_cancel_left, List.map_set]
theorem setAt_row {r : List Int} {j : Nat} {v : Int} (h : j < r.length) : setAt (.lst (r.map .int)) (.int (j : Int)) (.int v) = some (.lst ((r.set j v).map .int)) := by
  show (L2.ixN (r.map D.int).length (j : Int)).map _ = _
  have : L2.ixN (r.map D.int).length (j : Int) = some j := by
    unfold L2.ixN
    rw [List.length_map, if_pos (by omega), if_pos (by omega)]
    simp
  rw [this, List.map_set]; rfl
section
variable {P : Pg}
/-- the place p of the rows in the store is set -/
theorem upd_rows {T : List Nd} {R : List (List Int)} {h w : Nat} (S : Shp R h w) {p : Pt} (hp : inb h w p = true) (v : Int) : ∃ i : Nat, p.1 = (i : Int) ∧ i < h ∧ updT (.own (T.length + i)) (fun d => setAt d (.int p.2) (.int v)) (T ++ R.map ndR) = .ok () (T ++ (setR R p v).map ndR) := by
  obtain ⟨i, j, r, z, rfl, h1, h2, _⟩ := cell S hp
  have hi := (List.getElem?_eq_some_iff.mp h1).1
  have hj := (List.getElem?_eq_some_iff.mp h2).1
  refine ⟨i, rfl, by rw [← S.len]; exact hi, ?_⟩
  have e : setR R ((i : Int), (j : Int)) v = R.set i (r.set j v) := by
    unfold setR
    show R.set (i : Int).toNat ((R.getD (i : Int).toNat []).set (j : Int).toNat v) = _
    rw [Int.toNat_natCast, Int.toNat_natCast, List.getD_eq_getElem?_getD, h1]; rfl
  rw [updT_own (at_rows (T := T) h1) (fun d => setAt d (.int (j : Int)) (.int v)) (setAt_row hj) (noOwnL_ints _)]
  rw [e]
  congr 1
  exact set_rows
/-- tuple(row) for each row -/
theorem rows_back {call : Call} {T : List Nd} {R : List (List Int)} {env : Env} {x y : Nat} {h : Nat} (hh : R.length = h) (h8 : h ≤ 8) (hx : env.lookAny x (T ++ R.map ndR) = .ok (ownsD T.length h) (T ++ R.map ndR)) (hy : ∃ z, env[y]? = some z) :
    ev P call (.comp (.bi .tuple [.var y]) (.nm y) 0 [.var x] []) env (T ++ R.map ndR) = .ok (.lst (R.map rwD), true) (T ++ R.map ndR) := by
  obtain ⟨z, hy⟩ := hy
  rw [ev_comp (fun i => D.own (T.length + i)) (fun _ => true) (fun i => rwD (R.getD i [])) (List.range h) (ds := [ownsD T.length h])]
  · rw [filt_true]
    congr 3
    apply List.ext_getElem?
    intro i
    rw [List.getElem?_map, List.getElem?_map]
    by_cases c : i < R.length
    · rw [List.getElem?_range (by omega), List.getElem?_eq_getElem c]
      simp [c]
    · rw [List.getElem?_eq_none (by rw [List.length_range]; omega), List.getElem?_eq_none (by omega)]; rfl
  · simp [hx]
  · rfl
  · rw [List.length_range]; exact le_SZ (by omega)
  · intro i hi
    have hi := List.mem_range.1 hi
    have hl : y < env.length := (List.getElem?_eq_some_iff.mp hy).1
    have hr : R[i]? = some (R.getD i []) := by
      rw [List.getD_eq_getElem?_getD, List.getElem?_eq_getElem (show i < R.length by omega)]; rfl
    have hd := deref_own (T := T ++ R.map ndR) (k := T.length + i) (l := (R.getD i []).map .int) (at_rows hr)
    have hw : (env.wipe (Tg.slots (.nm y)))[y]? = some none := by
      show (env.set y none)[y]? = _
      rw [List.getElem?_set_self hl]
    refine ⟨_, put_at hw rfl, by simp, fun _ => ⟨false, ?_⟩⟩
    have hg : ((env.wipe (Tg.slots (.nm y))).set y (some (.sh, D.own (T.length + i))))[y]? = some (some (.sh, D.own (T.length + i))) := List.getElem?_set_self (by show y < (env.set y none).length; rw [List.length_set]; exact hl)
    simp only [ev_bi, evo_cons, evo_nil, opd_var, Env.lookAny, hg, bindOk, bindM, bindM', retM, derefs_cons, derefs_nil, hd, bip_tuple_lst, ofO_some]
    rfl
theorem eqi (v : Int) : cmpop .eq (.int v) (.int 0) = some (decide (v = 0)) := cmp_eqi v 0
theorem run_law_with (hf : P.fns 82 = some F__law_with) (l : Nat) {R : List (List Int)} {h w : Nat} (S : Shp R h w) {g : List Pt} (hg : g.length < 64) {p : Pt} (hp : inb h w p = true) (v : Int) (T : List Nd) (hT : T.any Nd.isIns = false) :
    run P (l+1) 82 [(.sh, grD R g), (.sh, pl p), (.sh, .int v)] T = .ok (grD (setR R p v) (g.filter fun x => decide (v = 0) || decide (x ≠ p)), false) T := by
  have h8 := S.h8
  obtain ⟨T1, c1, q1⟩ := ev_comp_cnt (P := P) (call := run P l) (elt := .new (.bi .list [.var 4])) (tg := .nm 4) (k := 0) (it := [.idx (.var 0) (.cst (.int 0))]) (env := [some (.sh, grD R g), some (.sh, pl p), some (.sh, .int v), none, none, none]) (T := T) (T1 := T) (ds := [.tup (R.map rwD)])
    rwD (fun n => .own (T.length + n)) (fun n T' => T' = T ++ (R.take n).map ndR) R (by simp [Env.lookAny]) rfl (by rw [S.len]; exact le_SZ (by omega)) (by simp)
    (by
      rintro n r hr T' rfl
      refine ⟨[some (.sh, grD R g), some (.sh, pl p), some (.sh, .int v), none, some (.sh, rwD r), none], false, T ++ (R.take n).map ndR ++ [ndR r], rfl, ?_, ?_⟩
      · have := ev_new_ok (P := P) (call := run P l) (a := .bi .list [.var 4]) (env := [some (.sh, grD R g), some (.sh, pl p), some (.sh, .int v), none, some (.sh, rwD r), none]) (T := T ++ (R.take n).map ndR) (T1 := T ++ (R.take n).map ndR) (r := r) (by simp [Env.lookAny, rwD])
        rw [this]
        have hn := (List.getElem?_eq_some_iff.mp hr).1
        congr 2
        rw [List.length_append, List.length_map, List.length_take]
        congr 2
        omega
      · rw [List.take_add_one, hr]
        simp)
  rw [List.take_length] at q1
  subst q1
  rw [S.len] at c1
  have c1 : ev P (run P l) (.comp (.new (.bi .list [.var 4])) (.nm 4) 0 [.idx (.var 0) (.cst (.int 0))] []) [some (.sh, grD R g), some (.sh, pl p), some (.sh, .int v), none, none, none] T = .ok (ownsD T.length h, true) (T ++ R.map ndR) := c1
  obtain ⟨i, e1, hi, u1⟩ := upd_rows (T := T) S hp v
  have e2 := idx_owns (n := T.length) hi
  have rb := rows_back (P := P) (call := run P l) (T := T) (R := setR R p v) (env := [some (.sh, grD R g), some (.sh, pl p), some (.sh, .int v), some (.sh, ownsD T.length h), none, none]) (x := 3) (y := 4) (setR_shp S hp v).len h8 (by simp [Env.lookAny]) ⟨_, rfl⟩
  have gb : ev P (run P l) (.comp (.var 5) (.nm 5) 0 [.idx (.var 0) (.cst (.int 1))] [.or (.cmp .eq (.var 2) (.cst (.int 0))) (.cmp .ne (.var 5) (.var 1))]) [some (.sh, grD R g), some (.sh, pl p), some (.sh, .int v), some (.sh, ownsD T.length h), none, none] (T ++ (setR R p v).map ndR) = .ok (.lst ((g.filter fun x => decide (v = 0) || decide (x ≠ p)).map pl), true) (T ++ (setR R p v).map ndR) := by
    rw [ev_comp pl (fun x => decide (v = 0) || decide (x ≠ p)) pl g (ds := [.tup (g.map pl)])]
    · simp [Env.lookAny]
    · rfl
    · exact le_SZ (by omega)
    · intro q hq
      refine ⟨[some (.sh, grD R g), some (.sh, pl p), some (.sh, .int v), some (.sh, ownsD T.length h), none, some (.sh, pl q)], rfl, ?_, fun _ => ⟨false, ?_⟩⟩
      · by_cases c : v = 0
        · simp [Env.lookAny, c]
        · simp [Env.lookAny, c]
      · simp [Env.look]
  have tr : trimT T.length (grD (setR R p v) (g.filter fun x => decide (v = 0) || decide (x ≠ p))) (T ++ (setR R p v).map ndR) = T := trimT_app (by
    show (D.noOwnL ((setR R p v).map rwD) && (D.noOwnL ((g.filter fun x => decide (v = 0) || decide (x ≠ p)).map pl) && true)) = true
    rw [noOwnL_pl, noOwnL_of]
    · rfl
    · intro d hd
      obtain ⟨r, _, rfl⟩ := List.mem_map.mp hd
      exact noOwnL_ints r) hT
  have hset : exec P (run P l) (.setI (.idx (.var 3) (.idx (.var 1) (.cst (.int 0)))) (.idx (.var 1) (.cst (.int 1))) (.var 2)) [some (.sh, grD R g), some (.sh, pl p), some (.sh, .int v), some (.sh, ownsD T.length h), none, none] (T ++ R.map ndR)
      = .nx [some (.sh, grD R g), some (.sh, pl p), some (.sh, .int v), some (.sh, ownsD T.length h), none, none] (T ++ (setR R p v).map ndR) := by
    simp [Env.look, Env.lookAny, e1, e2, updO, u1]
  have hret : exec P (run P l) (.ret (.tup [.bi .tuple [.comp (.bi .tuple [.var 4]) (.nm 4) 0 [.var 3] []], .bi .tuple [.comp (.var 5) (.nm 5) 0 [.idx (.var 0) (.cst (.int 1))] [.or (.cmp .eq (.var 2) (.cst (.int 0))) (.cmp .ne (.var 5) (.var 1))]]])) [some (.sh, grD R g), some (.sh, pl p), some (.sh, .int v), some (.sh, ownsD T.length h), none, none] (T ++ (setR R p v).map ndR)
      = .rt (grD (setR R p v) (g.filter fun x => decide (v = 0) || decide (x ≠ p))) false (T ++ (setR R p v).map ndR) := by
    simp only [exec_ret, ev_tup, evs_cons, evs_nil, ev_bi, evo_cons, evo_nil, opd_comp, rb, gb, bindOk, bindM, bindM', retM, fstR_ok, derefs_cons, derefs_nil, deref_lst, bip_tuple_lst, ofO_some, thenR_ok]
    rfl
  have t3 : Env.target [some (.sh, grD R g), some (.sh, pl p), some (.sh, .int v), none, none, none] (.nm 3) (ownsD T.length h) (T ++ R.map ndR) = .ok [some (.sh, grD R g), some (.sh, pl p), some (.sh, .int v), some (.sh, ownsD T.length h), none, none] (T ++ R.map ndR) := rfl
  rw [run_one hf rfl]
  show finish T.length (execs P (run P l) [_, _, _] [some (.sh, grD R g), some (.sh, pl p), some (.sh, .int v), none, none, none] T) = _
  rw [Pl.execs_cons, exec_asg, c1, thenR_ok, t3, thenR_ok, go_nx, Pl.execs_cons, hset, go_nx, Pl.execs_cons, hret, go_rt, fin_rt, tr]
end
end Sr.G
end

section
set_option autoImplicit false
set_option linter.all false
set_option Elab.async false
set_option maxHeartbeats 4000000
/-! G8: a ground that is drawn. -/
namespace Sr.G
open PySem Sr.Pl Gc
/-- the store: as at first, but for the pot at k, and L behind -/
def PS (k : Nat) (T0 L T : List Nd) : Prop := ∃ nd, isPot nd ∧ k < T0.length ∧ T = T0.set k nd ++ L
theorem PS.at {k : Nat} {T0 L T : List Nd} (h : PS k T0 L T) : ∃ nd, isPot nd ∧ T[k]? = some nd := by
  obtain ⟨nd, h1, h2, rfl⟩ := h
  exact ⟨nd, h1, by rw [List.getElem?_append_left (by rw [List.length_set]; exact h2), List.getElem?_set_self h2]⟩
theorem PS.set {k : Nat} {T0 L T : List Nd} (h : PS k T0 L T) {nd : Nd} (hn : isPot nd) : PS k T0 L (T.set k nd) := by
  obtain ⟨nd', h1, h2, rfl⟩ := h
  exact ⟨nd, hn, h2, by rw [List.set_append_left _ _ (by rw [List.length_set]; exact h2), List.set_set]⟩
theorem PS.len {k : Nat} {T0 L T : List Nd} (h : PS k T0 L T) : T.length = T0.length + L.length := by
  obtain ⟨nd', h1, h2, rfl⟩ := h
  rw [List.length_append, List.length_set]
section
variable {P : Pg}
theorem draw_ps (h6 : P.fns 6 = some Cm.F__law_draw) (l : Nat) {k : Nat} {T0 L T : List Nd} (h : PS k T0 L T) {many : Int} (hm : many < 1073741824) :
    ∃ v T', PS k T0 L T' ∧ run P (l+1) 6 [(.sh, .own k), (.sh, .int many)] T = .ok (.int v, false) T' ∧ 0 ≤ v ∧ (1 ≤ many → v < many) := by
  obtain ⟨nd, h1, h2⟩ := h.at
  obtain ⟨v, nd', g1, g2, g3, g4⟩ := run_draw h6 l h2 h1 hm
  exact ⟨v, _, h.set g1, g2, g3, g4⟩
theorem pick_ps (h6 : P.fns 6 = some Cm.F__law_draw) (h8 : P.fns 8 = some Cm.F__law_pick) (l : Nat) {k : Nat} {T0 L T : List Nd} (h : PS k T0 L T) (ds : List D) (h1 : 1 ≤ ds.length) (hm : ds.length < 1073741824) :
    ∃ d T', d ∈ ds ∧ PS k T0 L T' ∧ run P (l+2) 8 [(.sh, .own k), (.sh, .lst ds)] T = .ok (d, false) T' := by
  obtain ⟨nd, g1, g2⟩ := h.at
  obtain ⟨d, nd', q1, q2, q3⟩ := run_pickL h6 h8 l ds g2 g1 h1 hm
  exact ⟨d, _, q1, h.set q2, q3⟩
theorem ints_of : ∀ {ys : List D}, (∀ y ∈ ys, ∃ v : Int, y = .int v ∧ 0 ≤ v ∧ v ≤ 2) → ∃ r : List Int, ys = r.map .int ∧ ∀ v ∈ r, 0 ≤ v ∧ v ≤ 2
  | [], _ => ⟨[], rfl, by simp⟩
  | y :: ys, h => by
    obtain ⟨r, rfl, hr⟩ := ints_of fun z hz => h z (List.mem_cons_of_mem _ hz)
    obtain ⟨v, rfl, hv⟩ := h y (List.mem_cons_self ..)
    exact ⟨v :: r, rfl, fun u hu => (List.mem_cons.mp hu).elim (fun e => e ▸ hv) (hr u)⟩
theorem run_law_ground (h6 : P.fns 6 = some Cm.F__law_draw) (h8 : P.fns 8 = some Cm.F__law_pick) (hf : P.fns 80 = some F__law_ground) (l : Nat) {k : Nat} {T0 T : List Nd} (hp : PS k T0 [] T) (hT0 : T0.any Nd.isIns = false) (high wide : Nat) (hh : 1 ≤ high ∧ high ≤ 8) (hw : 1 ≤ wide ∧ wide ≤ 8) (sm : List Int) (hs1 : sm ≠ []) (hsl : sm.length < 1000) (hsv : ∀ v ∈ sm, 0 ≤ v ∧ v ≤ 2) :
    ∃ R g h w T', Grd R g h w ∧ h ≤ high ∧ w ≤ wide ∧ g.length ≤ 3 ∧ PS k T0 [] T' ∧ run P (l+3) 80 [(.sh, .own k), (.sh, .int (high : Int)), (.sh, .int (wide : Int)), (.sh, .lst (sm.map .int))] T = .ok (grD R g, false) T' := by
  obtain ⟨v1, T1, p1, d1, a1, b1⟩ := draw_ps h6 (l+1) hp (many := high) (by omega)
  obtain ⟨v2, T2, p2, d2, a2, b2⟩ := draw_ps h6 (l+1) p1 (many := wide) (by omega)
  have b1 := b1 (by omega)
  have b2 := b2 (by omega)
  obtain ⟨h, hh'⟩ : ∃ h : Nat, 1 + v1 = h := ⟨(1 + v1).toNat, by omega⟩
  obtain ⟨w, hw'⟩ : ∃ w : Nat, 1 + v2 = w := ⟨(1 + v2).toNat, by omega⟩
  -- the rows
  obtain ⟨T3, c3, L, hL, hLr, p3⟩ := ev_comp_cnt (P := P) (call := run P (l+2)) (elt := .new (.comp (.call 8 [.var 0, .var 3]) (.nm 10) 1 [.var 5] [])) (tg := .nm 9) (k := 1) (it := [.var 4]) (env := [some (.sh, .own k), some (.sh, .int (high : Int)), some (.sh, .int (wide : Int)), some (.sh, .lst (sm.map .int)), some (.sh, .int (h : Int)), some (.sh, .int (w : Int)), none, none, none, none, none, none]) (T := T2) (T1 := T2) (ds := [.int (h : Int)])
    (fun (j : Nat) => D.int (j : Int)) (fun n => .own (T0.length + n)) (fun n T' => ∃ L : List (List Int), L.length = n ∧ (∀ r ∈ L, r.length = w ∧ ∀ v ∈ r, 0 ≤ v ∧ v ≤ 2) ∧ PS k T0 (L.map ndR) T') (List.range h) (by simp [Env.lookAny]) (by rw [items_1]; exact rngop_n _ (by omega)) (by rw [List.length_range]; exact le_SZ (by omega)) ⟨[], rfl, by simp, p2⟩
    (by
      rintro n j hj T' ⟨L, hL, hr, ps⟩
      obtain ⟨ys, T4, e4, l4, v4, p4⟩ := ev_comp_inv (P := P) (call := run P (l+2)) (elt := .call 8 [.var 0, .var 3]) (tg := .nm 10) (k := 1) (it := [.var 5]) (env := [some (.sh, .own k), some (.sh, .int (high : Int)), some (.sh, .int (wide : Int)), some (.sh, .lst (sm.map .int)), some (.sh, .int (h : Int)), some (.sh, .int (w : Int)), none, none, none, some (.sh, .int (j : Int)), none, none]) (T := T') (T1 := T') (ds := [.int (w : Int)])
        (fun (j : Nat) => D.int (j : Int)) (PS k T0 (L.map ndR)) (fun y => ∃ v : Int, y = .int v ∧ 0 ≤ v ∧ v ≤ 2) (List.range w) (by simp [Env.lookAny]) (by rw [items_1]; exact rngop_n _ (by omega)) (by rw [List.length_range]; exact le_SZ (by omega)) ps
        (fun a ha T5 p5 => by
          obtain ⟨d, T6, q1, q2, q3⟩ := pick_ps h6 h8 l p5 (sm.map .int) (by
            rw [List.length_map]
            exact List.length_pos_iff.mpr hs1) (by rw [List.length_map]; omega)
          obtain ⟨v, hv, rfl⟩ := List.mem_map.mp q1
          exact ⟨[some (.sh, .own k), some (.sh, .int (high : Int)), some (.sh, .int (wide : Int)), some (.sh, .lst (sm.map .int)), some (.sh, .int (h : Int)), some (.sh, .int (w : Int)), none, none, none, some (.sh, .int (j : Int)), some (.sh, .int (a : Int)), none], .int v, false, T6, rfl, by simp [Env.lookAny, M.mode, Env.isOw, q3], ⟨v, rfl, hsv v hv⟩, q2⟩)
      obtain ⟨r, rfl, hrv⟩ := ints_of v4
      rw [List.length_range, List.length_map] at l4
      have en := ev_new_ok (P := P) (call := run P (l+2)) (r := r) e4
      refine ⟨[some (.sh, .own k), some (.sh, .int (high : Int)), some (.sh, .int (wide : Int)), some (.sh, .lst (sm.map .int)), some (.sh, .int (h : Int)), some (.sh, .int (w : Int)), none, none, none, some (.sh, .int (j : Int)), none, none], false, T4 ++ [ndR r], rfl, ?_, L ++ [r], by rw [List.length_append, hL]; rfl, ?_, ?_⟩
      · rw [en, p4.len, List.length_map, hL]
      · intro q hq
        rcases List.mem_append.mp hq with hq | hq
        · exact hr q hq
        · rw [List.mem_singleton] at hq
          exact hq ▸ ⟨l4, hrv⟩
      · obtain ⟨nd, i1, i2, rfl⟩ := p4
        exact ⟨nd, i1, i2, by rw [List.map_append, List.append_assoc]; rfl⟩)
  rw [List.length_range] at c3 hL
  have SL : Shp L h w := ⟨hL, fun r hr => (hLr r hr).1, by omega, by omega, by omega, by omega⟩
  have VL : ∀ r ∈ L, ∀ v ∈ r, 0 ≤ v ∧ v ≤ 2 := fun r hr => (hLr r hr).2
  -- the side
  obtain ⟨s1, T4, p4, d4, a4, b4⟩ := draw_ps h6 (l+1) p3 (many := w) (by omega)
  obtain ⟨s2, T5, p5, d5, a5, b5⟩ := draw_ps h6 (l+1) p4 (many := h) (by omega)
  obtain ⟨s3, T6, p6, d6, a6, b6⟩ := draw_ps h6 (l+1) p5 (many := w) (by omega)
  obtain ⟨s4, T7, p7, d7, a7, b7⟩ := draw_ps h6 (l+1) p6 (many := 3) (by omega)
  have b4 := b4 (by have := SL.w1; omega)
  have b5 := b5 (by have := SL.h1; omega)
  have b6 := b6 (by have := SL.w1; omega)
  have b7 := b7 (by omega)
  obtain ⟨m, hm⟩ : ∃ m : Nat, 1 + s4 = m := ⟨(1 + s4).toNat, by omega⟩
  have hside : ∀ q ∈ ([(0, s1), (s2, 0), ((h : Int) - 1, s3)] : List Pt), inb h w q = true ∧ bord h w q = true := by
    intro q hq
    have i1 := SL.h1
    have i2 := SL.w1
    simp only [List.mem_cons, List.not_mem_nil, or_false] at hq
    rcases hq with rfl | rfl | rfl <;> simp [inb, bord] <;> omega
  have hcut : ∀ q ∈ (([(0, s1), (s2, 0), ((h : Int) - 1, s3)] : List Pt).take m), inb h w q = true ∧ bord h w q = true := fun q hq => hside q (List.mem_of_mem_take hq)
  obtain ⟨g, eg, ag, mg⟩ := sset_pl (f := ([(0, s1), (s2, 0), ((h : Int) - 1, s3)] : List Pt).take m) (fun q hq => inb_bd SL.h8 SL.w8 (hcut q hq).1) (by rw [List.length_take]; simp; omega)
  have hgl : g.length ≤ 3 := by
    have := nodup_len ag.nodup fun x hx => List.mem_of_mem_take ((mg x).mp hx)
    exact this
  have hgi : ∀ q ∈ g, inb h w q = true := fun q hq => (hcut q ((mg q).mp hq)).1
  have hgb : ∀ q ∈ g, bord h w q = true := fun q hq => (hcut q ((mg q).mp hq)).2
  have hgn : g ≠ [] := by
    intro z
    have : ((0, s1) : Pt) ∈ g := (mg _).mpr (by
      obtain ⟨m', rfl⟩ : ∃ m', m = m' + 1 := ⟨m - 1, by omega⟩
      simp)
    rw [z] at this
    cases this
  -- the gates are freed
  have hfor : ∃ R x9 x10 T8, Shp R h w ∧ (∀ r ∈ R, ∀ v ∈ r, 0 ≤ v ∧ v ≤ 2) ∧ (∀ p ∈ g, p ∈ sp R 0) ∧ PS k T0 (R.map ndR) T8 ∧ exec P (run P (l+2)) (.forr 0 (.tp [9, 10]) [.var 8] [.setI (.idx (.var 6) (.var 9)) (.var 10) (.cst (.int 0))])
      [some (.sh, .own k), some (.sh, .int (high : Int)), some (.sh, .int (wide : Int)), some (.sh, .lst (sm.map .int)), some (.sh, .int (h : Int)), some (.sh, .int (w : Int)), some (.sh, ownsD T0.length h), some (.sh, .lst (([(0, s1), (s2, 0), ((h : Int) - 1, s3)] : List Pt).map pl)), some (.sh, .lst (g.map pl)), none, none, none] T7
      = .nx [some (.sh, .own k), some (.sh, .int (high : Int)), some (.sh, .int (wide : Int)), some (.sh, .lst (sm.map .int)), some (.sh, .int (h : Int)), some (.sh, .int (w : Int)), some (.sh, ownsD T0.length h), some (.sh, .lst (([(0, s1), (s2, 0), ((h : Int) - 1, s3)] : List Pt).map pl)), some (.sh, .lst (g.map pl)), x9, x10, none] T8 := by
    rw [exec_for (T1 := T7) pl g (ds := [.lst (g.map pl)])]
    · obtain ⟨env', T', i1, i2⟩ := forGo_inv (tg := .tp [9, 10]) (body := fun e t => execs P (run P (l+2)) [.setI (.idx (.var 6) (.var 9)) (.var 10) (.cst (.int 0))] e t) pl
        (fun rest env T' => ∃ done R x9 x10, done ++ rest = g ∧ Fre x9 = true ∧ Fre x10 = true ∧ Shp R h w ∧ (∀ r ∈ R, ∀ v ∈ r, 0 ≤ v ∧ v ≤ 2) ∧ (∀ p ∈ done, p ∈ sp R 0) ∧ PS k T0 (R.map ndR) T' ∧ env = [some (.sh, .own k), some (.sh, .int (high : Int)), some (.sh, .int (wide : Int)), some (.sh, .lst (sm.map .int)), some (.sh, .int (h : Int)), some (.sh, .int (w : Int)), some (.sh, ownsD T0.length h), some (.sh, .lst (([(0, s1), (s2, 0), ((h : Int) - 1, s3)] : List Pt).map pl)), some (.sh, .lst (g.map pl)), x9, x10, none])
        (by
          rintro p rest env T' ⟨done, R, x9, x10, hd, f9, f10, SR, VR, fr, ps, rfl⟩
          have hpi : inb h w p = true := hgi p (by rw [← hd]; exact List.mem_append_right _ (List.mem_cons_self ..))
          obtain ⟨nd, j1, j2, rfl⟩ := ps
          obtain ⟨i, e1, hi, u1⟩ := upd_rows (T := T0.set k nd) SR hpi 0
          rw [List.length_set] at u1
          have e2 := idx_owns (n := T0.length) hi
          refine ⟨[some (.sh, .own k), some (.sh, .int (high : Int)), some (.sh, .int (wide : Int)), some (.sh, .lst (sm.map .int)), some (.sh, .int (h : Int)), some (.sh, .int (w : Int)), some (.sh, ownsD T0.length h), some (.sh, .lst (([(0, s1), (s2, 0), ((h : Int) - 1, s3)] : List Pt).map pl)), some (.sh, .lst (g.map pl)), some (.sh, .int p.1), some (.sh, .int p.2), none], _, _, _, target2 rfl f9 rfl f10, ?_, done ++ [p], setR R p 0, some (.sh, .int p.1), some (.sh, .int p.2), by rw [List.append_assoc]; exact hd, rfl, rfl, setR_shp SR hpi 0, setR_vals SR VR hpi (by omega), fun x hx => ?_, ⟨nd, j1, j2, rfl⟩, rfl⟩
          · simp [Env.lookAny, e1, e2, updO, u1]
          · rw [mem_sp_set SR hpi]
            by_cases c : x = p
            · exact .inl ⟨c, rfl⟩
            · rcases List.mem_append.mp hx with hx | hx
              · exact .inr ⟨c, fr x hx⟩
              · exact absurd (List.mem_singleton.mp hx) c)
        g _ T7 ⟨[], L, none, none, rfl, rfl, rfl, SL, VL, by simp, p7, rfl⟩
      obtain ⟨done, R, x9, x10, hd, f9, f10, SR, VR, fr, ps, rfl⟩ := i2
      rw [List.append_nil] at hd
      subst hd
      exact ⟨R, x9, x10, T', SR, VR, fr, ps, i1⟩
    · simp [lockOf]
    · simp [Env.lookAny]
    · rfl
  obtain ⟨R, x9, x10, T8, SR, VR, fr, p8, hfor⟩ := hfor
  have G : Grd R g h w := ⟨SR, VR, hgn, ag, hgi, hgb, fr⟩
  obtain ⟨nd, j1, j2, rfl⟩ := p8
  refine ⟨R, g, h, w, T0.set k nd, G, by omega, by omega, hgl, ⟨nd, j1, j2, by simp⟩, ?_⟩
  have rb := rows_back (P := P) (call := run P (l+2)) (T := T0.set k nd) (R := R) (env := [some (.sh, .own k), some (.sh, .int (high : Int)), some (.sh, .int (wide : Int)), some (.sh, .lst (sm.map .int)), some (.sh, .int (h : Int)), some (.sh, .int (w : Int)), some (.sh, ownsD T0.length h), some (.sh, .lst (([(0, s1), (s2, 0), ((h : Int) - 1, s3)] : List Pt).map pl)), some (.sh, .lst (g.map pl)), x9, x10, none]) (x := 6) (y := 11) SR.len SR.h8 (by simp [Env.lookAny]) ⟨_, rfl⟩
  have isP : nd.isIns = false := by
    obtain ⟨cs, i, x, y, rfl, _⟩ := j1
    rfl
  have tr : trimT T.length (grD R g) (T0.set k nd ++ R.map ndR) = T0.set k nd := by
    have hl : T.length = (T0.set k nd).length := by
      rw [hp.len, List.length_set]; rfl
    rw [hl]
    refine trimT_app ?_ ?_
    · show (D.noOwnL (R.map rwD) && (D.noOwnL (g.map pl) && true)) = true
      rw [noOwnL_pl, noOwnL_of]
      · rfl
      · intro d hd
        obtain ⟨r, _, rfl⟩ := List.mem_map.mp hd
        exact noOwnL_ints r
    · rw [List.any_eq_false] at hT0 ⊢
      intro x hx
      rcases List.mem_or_eq_of_mem_set hx with hx | rfl
      · exact hT0 x hx
      · rw [isP]; decide
  have k1 : exec P (run P (l+2)) (.asg (.tp [4, 5]) (.tup [.op2 .add (.cst (.int 1)) (.call 6 [.var 0, .var 1]), .op2 .add (.cst (.int 1)) (.call 6 [.var 0, .var 2])])) [some (.sh, .own k), some (.sh, .int (high : Int)), some (.sh, .int (wide : Int)), some (.sh, .lst (sm.map .int)), none, none, none, none, none, none, none, none] T
      = .nx [some (.sh, .own k), some (.sh, .int (high : Int)), some (.sh, .int (wide : Int)), some (.sh, .lst (sm.map .int)), some (.sh, .int (h : Int)), some (.sh, .int (w : Int)), none, none, none, none, none, none] T2 := by
    have t : Env.target [some (.sh, .own k), some (.sh, .int (high : Int)), some (.sh, .int (wide : Int)), some (.sh, .lst (sm.map .int)), none, none, none, none, none, none, none, none] (.tp [4, 5]) (.tup [.int (h : Int), .int (w : Int)]) T2 = .ok [some (.sh, .own k), some (.sh, .int (high : Int)), some (.sh, .int (wide : Int)), some (.sh, .lst (sm.map .int)), some (.sh, .int (h : Int)), some (.sh, .int (w : Int)), none, none, none, none, none, none] T2 := rfl
    simp [Env.lookAny, M.mode, Env.isOw, d1, d2, hh', hw', t]
  have k2 : exec P (run P (l+2)) (.asg (.nm 6) (.comp (.new (.comp (.call 8 [.var 0, .var 3]) (.nm 10) 1 [.var 5] [])) (.nm 9) 1 [.var 4] [])) [some (.sh, .own k), some (.sh, .int (high : Int)), some (.sh, .int (wide : Int)), some (.sh, .lst (sm.map .int)), some (.sh, .int (h : Int)), some (.sh, .int (w : Int)), none, none, none, none, none, none] T2
      = .nx [some (.sh, .own k), some (.sh, .int (high : Int)), some (.sh, .int (wide : Int)), some (.sh, .lst (sm.map .int)), some (.sh, .int (h : Int)), some (.sh, .int (w : Int)), some (.sh, ownsD T0.length h), none, none, none, none, none] T3 := by
    rw [exec_asg, c3]; rfl
  have k3 : exec P (run P (l+2)) (.asg (.nm 7) (.lst [.tup [.cst (.int 0), .call 6 [.var 0, .var 5]], .tup [.call 6 [.var 0, .var 4], .cst (.int 0)], .tup [.op2 .sub (.var 4) (.cst (.int 1)), .call 6 [.var 0, .var 5]]])) [some (.sh, .own k), some (.sh, .int (high : Int)), some (.sh, .int (wide : Int)), some (.sh, .lst (sm.map .int)), some (.sh, .int (h : Int)), some (.sh, .int (w : Int)), some (.sh, ownsD T0.length h), none, none, none, none, none] T3
      = .nx [some (.sh, .own k), some (.sh, .int (high : Int)), some (.sh, .int (wide : Int)), some (.sh, .lst (sm.map .int)), some (.sh, .int (h : Int)), some (.sh, .int (w : Int)), some (.sh, ownsD T0.length h), some (.sh, .lst (([(0, s1), (s2, 0), ((h : Int) - 1, s3)] : List Pt).map pl)), none, none, none, none] T6 := by
    simp [Env.lookAny, M.mode, Env.isOw, d4, d5, d6]
    rfl
  have ec : cut ((([(0, s1), (s2, 0), ((h : Int) - 1, s3)] : List Pt).map pl)) none (some (m : Int)) = ((([(0, s1), (s2, 0), ((h : Int) - 1, s3)] : List Pt).take m).map pl) := by
    rw [cut_to _ m (by simp; omega), List.map_take]
  have k4 : exec P (run P (l+2)) (.asg (.nm 8) (.bi .sortSet [.slc (.var 7) (.nil) (.op2 .add (.cst (.int 1)) (.call 6 [.var 0, .cst (.int 3)]))])) [some (.sh, .own k), some (.sh, .int (high : Int)), some (.sh, .int (wide : Int)), some (.sh, .lst (sm.map .int)), some (.sh, .int (h : Int)), some (.sh, .int (w : Int)), some (.sh, ownsD T0.length h), some (.sh, .lst (([(0, s1), (s2, 0), ((h : Int) - 1, s3)] : List Pt).map pl)), none, none, none, none] T6
      = .nx [some (.sh, .own k), some (.sh, .int (high : Int)), some (.sh, .int (wide : Int)), some (.sh, .lst (sm.map .int)), some (.sh, .int (h : Int)), some (.sh, .int (w : Int)), some (.sh, ownsD T0.length h), some (.sh, .lst (([(0, s1), (s2, 0), ((h : Int) - 1, s3)] : List Pt).map pl)), some (.sh, .lst (g.map pl)), none, none, none] T7 := by
    have sm' := smallN m (by omega)
    have ev8 : ev P (run P (l+2)) (.bi .sortSet [.slc (.var 7) (.nil) (.op2 .add (.cst (.int 1)) (.call 6 [.var 0, .cst (.int 3)]))]) [some (.sh, .own k), some (.sh, .int (high : Int)), some (.sh, .int (wide : Int)), some (.sh, .lst (sm.map .int)), some (.sh, .int (h : Int)), some (.sh, .int (w : Int)), some (.sh, ownsD T0.length h), some (.sh, .lst (([(0, s1), (s2, 0), ((h : Int) - 1, s3)] : List Pt).map pl)), none, none, none, none] T6 = .ok (.lst (g.map pl), true) T7 := by
      simp only [ev_bi, evo_cons, evo_nil, opd_slc, ev_slc, opd_var, opt_nil, opt_op2, ev_op2, opd_cst, ev_cst, opd_call, ev_call, Env.lookAny, List.getElem?_cons_succ, List.getElem?_cons_zero, bindOk, bindM, bindM', retM, fstR_ok, List.map_cons, List.map_nil, M.mode, Env.isOw, List.zip_cons_cons, List.zip_nil_right, Bool.false_eq_true, if_false, d7, ofO_some, op_add, hm, optK_int, sm', if_true, slop_lst, derefs_cons, derefs_nil, deref_lst] 
      simp only [List.map_cons, List.map_nil] at ec
      rw [ec, eg]
      rfl
    rw [exec_asg, ev8]; rfl
  have k5 : exec P (run P (l+2)) (.ret (.tup [.bi .tuple [.comp (.bi .tuple [.var 11]) (.nm 11) 0 [.var 6] []], .bi .tuple [.var 8]])) [some (.sh, .own k), some (.sh, .int (high : Int)), some (.sh, .int (wide : Int)), some (.sh, .lst (sm.map .int)), some (.sh, .int (h : Int)), some (.sh, .int (w : Int)), some (.sh, ownsD T0.length h), some (.sh, .lst (([(0, s1), (s2, 0), ((h : Int) - 1, s3)] : List Pt).map pl)), some (.sh, .lst (g.map pl)), x9, x10, none] (T0.set k nd ++ R.map ndR)
      = .rt (grD R g) false (T0.set k nd ++ R.map ndR) := by
    simp only [exec_ret, ev_tup, evs_cons, evs_nil, ev_bi, evo_cons, evo_nil, opd_comp, opd_var, rb, Env.lookAny, List.getElem?_cons_succ, List.getElem?_cons_zero, bindOk, bindM, bindM', retM, fstR_ok, derefs_cons, derefs_nil, deref_lst, bip_tuple_lst, ofO_some, thenR_ok]
    rfl
  rw [run_one hf rfl]
  show finish T.length (execs P (run P (l+2)) [_, _, _, _, _, _] [some (.sh, .own k), some (.sh, .int (high : Int)), some (.sh, .int (wide : Int)), some (.sh, .lst (sm.map .int)), none, none, none, none, none, none, none, none] T) = _
  rw [Pl.execs_cons, k1, go_nx, Pl.execs_cons, k2, go_nx, Pl.execs_cons, k3, go_nx, Pl.execs_cons, k4, go_nx, Pl.execs_cons, hfor, go_nx, Pl.execs_cons, k5, go_rt, fin_rt, tr]
end
end Sr.G
end

section
set_option autoImplicit false
set_option linter.all false
set_option Elab.async false
set_option maxHeartbeats 4000000
/-! P8: the pot of a script; how each law begins. -/
namespace Sr.Pl
open PySem Cm
variable {P : Pg}
/-- the pot of a script -/
theorem run_pot (hf : P.fns 11 = some F__law_pot) (l : Nat) (ns : List Int) (h : ns.length ≤ 63) (T : List Nd) : ∃ cs : List Int, (∀ c ∈ cs, 0 ≤ c) ∧ run P (l+1) 11 [(.sh, .scr ns)] T = .ok (.lst (potL cs 0 20011 0), true) T := by
  refine ⟨ns.map fun i => if i < 0 then -i else i, fun c hc => ?_, ?_⟩
  · obtain ⟨i, _, rfl⟩ := List.mem_map.1 hc
    show 0 ≤ if i < 0 then -i else i
    split <;> omega
  · have hcut : cut ns none (some 63) = ns := by
      unfold cut
      rw [HT.sIx_none]
      have : HT.sIx ns.length ns.length (some 63) = ns.length := by
        rw [show (some 63 : Option Int) = some ((63 : Nat) : Int) from rfl, HT.sIx_nat]; omega
      rw [this]; simp
    have hs : slop (.scr ns) none (some 63) = some (.lst (ns.map .int), true) := by
      show some (D.lst ((cut ns none (some 63)).map .int), true) = _
      rw [hcut]
    have s63 : smallI 63 = true := by decide
    have hc : ev P (run P l) (.comp (.bi .abs [.var 1]) (.nm 1) 0 [.slc (.var 0) (.nil) (.cst (.int 63))] []) [some (.sh, .scr ns), none] T = .ok (.lst ((ns.map fun i => if i < 0 then -i else i).map .int), true) T := by
      rw [ev_comp D.int (fun _ => true) (fun i => D.int (if i < 0 then -i else i)) ns (ds := [.lst (ns.map .int)])]
      · rw [filt_true, List.map_map]; rfl
      · simp [Env.lookAny, s63, hs]
      · rw [items_0l]
      · exact le_SZ (by omega)
      · intro i _
        exact ⟨[some (.sh, .scr ns), some (.sh, .int i)], rfl, by simp, fun _ => ⟨false, by simp [Env.lookAny]⟩⟩
    rw [run_one hf rfl]
    simp only [Cm.F__law_pot, initEnv, List.map_cons, List.map_nil, List.cons_append, List.nil_append, List.replicate, Pl.execs_cons, exec_ret, ev_lst, evs_cons, evs_nil, hc, ev_cst, bindOk, bindM, bindM', retM, thenR_ok, go_rt, fin_rt, trimT_le (Nat.le_refl _)]
    rfl
/-- the first statement of a law -/
theorem law_start (hf : P.fns 11 = some F__law_pot) (l : Nat) (ns : List Int) (h : ns.length ≤ 63) (rest : Env) : ∃ nd, isPot nd ∧
    exec P (run P (l+1)) (.asg (.nm 1) (.new (.call 11 [.var 0]))) (some (.sh, .scr ns) :: none :: rest) [] = .nx (some (.sh, .scr ns) :: some (.sh, .own 0) :: rest) [nd] := by
  obtain ⟨cs, hcs, e0⟩ := run_pot hf l ns h []
  refine ⟨.lst (potL cs 0 20011 0), ⟨cs, 0, 20011, 0, rfl, hcs, by decide, by decide, by decide⟩, ?_⟩
  have en : newT (.lst (potL cs 0 20011 0)) [] = .ok (.own 0) [.lst (potL cs 0 20011 0)] := by
    have e : toNd (.lst (potL cs 0 20011 0)) = some (.lst (potL cs 0 20011 0)) := if_pos (potOwn ..)
    show (match toNd (.lst (potL cs 0 20011 0)) with | some n => _ | none => _) = _
    rw [e]; rfl
  have e1 : ev P (run P (l+1)) (.new (.call 11 [.var 0])) (some (.sh, .scr ns) :: none :: rest) [] = .ok (.own 0, false) [.lst (potL cs 0 20011 0)] := by
    rw [ev]
    show ((ev P (run P (l+1)) (.call 11 [.var 0]) _ []).bind _) = _
    simp only [ev_call, evo_cons, evo_nil, opd_var, Env.lookAny, List.getElem?_cons_succ, List.getElem?_cons_zero, bindOk, bindM, bindM', retM, List.map_cons, List.map_nil, M.mode, Env.isOw, List.zip_cons_cons, List.zip_nil_right, Bool.false_eq_true, if_false, e0, if_true, en]
    simp [en]
  rw [exec_asg, e1, thenR_ok]
  rfl
end Sr.Pl
end

section
set_option autoImplicit false
set_option linter.all false
set_option Elab.async false
set_option maxHeartbeats 4000000
/-! Q06: the law of k06. -/
namespace Sr.Q06
open PySem Sr.Pl Sr.G K06
theorem H1 : Fns pg 2 0 1 1 := ⟨rfl, rfl, rfl, rfl, rfl, rfl, rfl, rfl, rfl, rfl, rfl⟩
theorem H2 : Fns2 pg 0 := ⟨rfl, rfl, rfl, rfl, rfl, rfl⟩
theorem f6 : pg.fns 6 = some Cm.F__law_draw := rfl
theorem f7 : pg.fns 7 = some Cm.F__law_same := rfl
theorem f8 : pg.fns 8 = some Cm.F__law_pick := rfl
theorem f11 : pg.fns 11 = some Cm.F__law_pot := rfl
theorem f77 : pg.fns 77 = some Gc.F__law_beside := rfl
theorem f78 : pg.fns 78 = some Gc.F__law_flood := rfl
theorem f79 : pg.fns 79 = some Gc.F__law_spots := rfl
theorem f80 : pg.fns 80 = some Gc.F__law_ground := rfl
theorem f81 : pg.fns 81 = some Gc.F__law_reached := rfl
theorem f82 : pg.fns 82 = some Gc.F__law_with := rfl
theorem f83 : pg.fns 83 = some Gc.F_narrow := rfl
theorem f85 : pg.fns 85 = some F_law := rfl
theorem lk84 : pg.lks 84 = some (.raises [(1, ("NoGround" : Str))]) := rfl
theorem okD_pl {p : Pt} (h : (0 ≤ p.1 ∧ p.1 < 8) ∧ 0 ≤ p.2 ∧ p.2 < 8) : okD false 1000 1000 2 (pl p) = true := by
  refine okD_tup.2 ⟨by simp, fun d hd => ?_⟩
  simp only [List.mem_cons, List.not_mem_nil, or_false] at hd
  rcases hd with rfl | rfl
  · exact decide_eq_true (by omega)
  · exact decide_eq_true (by omega)
theorem okD_pls {l : List Pt} (hl : l.length ≤ 1000) (h : ∀ p ∈ l, (0 ≤ p.1 ∧ p.1 < 8) ∧ 0 ≤ p.2 ∧ p.2 < 8) : okD false 1000 1000 3 (.tup (l.map pl)) = true :=
  okD_tup.2 ⟨by rw [List.length_map]; exact hl, fun d hd => by
    obtain ⟨p, hp, rfl⟩ := List.mem_map.mp hd
    exact okD_pl (h p hp)⟩
theorem okD_gr {R : List (List Int)} {g : List Pt} {h w : Nat} (G : Grd R g h w) (hg : g.length ≤ 1000) : okD false 1000 1000 4 (grD R g) = true := by
  have h8 := G.shp.h8
  have w8 := G.shp.w8
  refine okD_tup.2 ⟨by simp, fun d hd => ?_⟩
  simp only [List.mem_cons, List.not_mem_nil, or_false] at hd
  rcases hd with rfl | rfl
  · refine okD_tup.2 ⟨by rw [List.length_map, G.shp.len]; omega, fun d hd => ?_⟩
    obtain ⟨r, hr, rfl⟩ := List.mem_map.mp hd
    have := G.shp.row r hr
    refine okD_tup.2 ⟨by rw [List.length_map]; omega, fun d hd => ?_⟩
    obtain ⟨v, hv, rfl⟩ := List.mem_map.mp hd
    have := G.vals r hr v hv
    exact decide_eq_true (by omega)
  · exact okD_pls hg fun p hp => inb_bd G.shp.h8 G.shp.w8 (G.inb p hp)
theorem cmp_ne_empty (l : List D) (h : D.plnL l = true) : cmpop .ne (.lst l) (.lst []) = some (!l.isEmpty) := by
  have : cmpop .ne (.lst l) (.lst []) = (cmpop .eq (.lst l) (.lst [])).map (!·) := by
    simp only [cmpop]
    split <;> rfl
  rw [this, cmp_eq_empty l h]; rfl
/-- the inner loop: which places are narrow, by the law -/
theorem inner {R : List (List Int)} {g : List Pt} {h w : Nat} (G : Grd R g h w) (hw : h * w < 64) (hgl : g.length ≤ 3) {k : List Pt} (ak : Asc k) (mk : ∀ x, x ∈ k ↔ RchG R g x) (T0 : List Nd) (hT0 : T0.any Nd.isIns = false) {x0 x2 x6 x7 x8 : Option (Md × D)} (h6 : Fre x6 = true) (h7 : Fre x7 = true) (h8 : Fre x8 = true) :
    ∃ y6 y7 y8, Fre y6 = true ∧ Fre y7 = true ∧ Fre y8 = true ∧ exec pg (run pg 39) (.forr 0 (.nm 6) [.var 4] [.asg (.nm 7) (.call 82 [.var 3, .var 6, .cst (.int 1)]), .asg (.nm 8) (.call 78 [.bi .list [.idx (.var 7) (.cst (.int 1))], .call 79 [.var 7, .cst (.int 0)]]), .iff (.cmp .ne (.comp (.var 9) (.nm 9) 0 [.var 4] [.and (.cmp .ne (.var 9) (.var 6)) (.cmp .notIn (.var 9) (.var 8))]) (.lst [])) [.app (.var 5) (.var 6)] []])
      [x0, some (.sh, .own 0), x2, some (.sh, grD R g), some (.sh, .lst (k.map pl)), some (.sh, .own T0.length), x6, x7, x8, none] (T0 ++ [.lst []])
      = .nx [x0, some (.sh, .own 0), x2, some (.sh, grD R g), some (.sh, .lst (k.map pl)), some (.sh, .own T0.length), y6, y7, y8, none] (T0 ++ [.lst ((k.filter (nar R g)).map pl)]) := by
  have S := G.shp
  have hkl : k.length < 64 := Nat.lt_of_le_of_lt (nodup_len ak.nodup fun x hx => ((mk x).mp hx).isok) (sp_length S 0 hw)
  rw [exec_for (T1 := T0 ++ [.lst []]) pl k (ds := [.lst (k.map pl)])]
  · obtain ⟨env', T', h1, h2⟩ := forGo_inv (tg := .nm 6) (body := fun e t => execs pg (run pg 39) [.asg (.nm 7) (.call 82 [.var 3, .var 6, .cst (.int 1)]), .asg (.nm 8) (.call 78 [.bi .list [.idx (.var 7) (.cst (.int 1))], .call 79 [.var 7, .cst (.int 0)]]), .iff (.cmp .ne (.comp (.var 9) (.nm 9) 0 [.var 4] [.and (.cmp .ne (.var 9) (.var 6)) (.cmp .notIn (.var 9) (.var 8))]) (.lst [])) [.app (.var 5) (.var 6)] []] e t) pl
      (fun rest env T' => ∃ done y6 y7 y8, done ++ rest = k ∧ Fre y6 = true ∧ Fre y7 = true ∧ Fre y8 = true ∧ T' = T0 ++ [.lst ((done.filter (nar R g)).map pl)] ∧ env = [x0, some (.sh, .own 0), x2, some (.sh, grD R g), some (.sh, .lst (k.map pl)), some (.sh, .own T0.length), y6, y7, y8, none])
      (by
        rintro p rest env T' ⟨done, y6, y7, y8, hd, f6', f7', f8', rfl, rfl⟩
        have hpk : p ∈ k := by rw [← hd]; exact List.mem_append_right _ (List.mem_cons_self ..)
        have hpi : inb h w p = true := sp_inb S ((mk p).mp hpk).isok
        have hTi : (T0 ++ [Nd.lst ((done.filter (nar R g)).map pl)]).any Nd.isIns = false := by
          rw [List.any_append, hT0]; rfl
        generalize hT : T0 ++ [Nd.lst ((done.filter (nar R g)).map pl)] = T at hTi
        have SR := setR_shp S hpi 1
        obtain ⟨g', hg'⟩ : ∃ g', g' = g.filter fun x => decide ((1 : Int) = 0) || decide (x ≠ p) := ⟨_, rfl⟩
        have mg' : ∀ x, x ∈ g' ↔ x ∈ g ∧ x ≠ p := fun x => by rw [hg']; simp
        have ng' : g'.Nodup := by rw [hg']; exact G.asc.nodup.filter _
        have lg' : g'.length < 64 := by
          rw [hg']
          exact Nat.lt_of_le_of_lt (List.length_filter_le ..) (by omega)
        have e1 := run_law_with (g := g) f82 38 S (by omega) hpi 1 T hTi
        rw [← hg'] at e1
        have e2 := run_spots f79 38 SR.few g' 0 T
        obtain ⟨m, e3, am, mm⟩ := run_flood f77 f78 37 ng' (sp_nodup SR 0) (bd_sp SR) (sp_length SR 0 hw) lg' T
        have same : ∀ x, x ∈ m ↔ Rch (g.filter (fun x => decide (x ≠ p))) ((sp R 0).filter (fun x => decide (x ≠ p))) adjB x := fun x => by
          have ms : ∀ x, x ∈ sp (setR R p 1) 0 ↔ x ∈ (sp R 0).filter (fun x => decide (x ≠ p)) := fun x => by
            rw [mem_sp_set S hpi, List.mem_filter]
            constructor
            · rintro (⟨_, h⟩ | ⟨h1, h2⟩)
              · cases h
              · exact ⟨h2, decide_eq_true h1⟩
            · rintro ⟨h1, h2⟩
              exact .inr ⟨of_decide_eq_true h2, h1⟩
          have mg2 : ∀ x, x ∈ g' ↔ x ∈ g.filter (fun x => decide (x ≠ p)) := fun x => by rw [mg']; simp
          rw [mm]
          exact ⟨fun r => r.mono (fun x => (mg2 x).mp) (fun x => (ms x).mp) fun _ _ _ _ z => z, fun r => r.mono (fun x => (mg2 x).mpr) (fun x => (ms x).mpr) fun _ _ _ _ z => z⟩
        have hc : ev pg (run pg 39) (.comp (.var 9) (.nm 9) 0 [.var 4] [.and (.cmp .ne (.var 9) (.var 6)) (.cmp .notIn (.var 9) (.var 8))]) [x0, some (.sh, .own 0), x2, some (.sh, grD R g), some (.sh, .lst (k.map pl)), some (.sh, .own T0.length), some (.sh, pl p), some (.sh, grD (setR R p 1) g'), some (.sh, .lst (m.map pl)), none] T = .ok (.lst ((k.filter fun o => decide (o ≠ p) && !m.contains o).map pl), true) T := by
          rw [ev_comp pl (fun o => decide (o ≠ p) && !m.contains o) pl k (ds := [.lst (k.map pl)])]
          · simp [Env.lookAny]
          · rfl
          · exact le_SZ (by omega)
          · intro o ho
            refine ⟨[x0, some (.sh, .own 0), x2, some (.sh, grD R g), some (.sh, .lst (k.map pl)), some (.sh, .own T0.length), some (.sh, pl p), some (.sh, grD (setR R p 1) g'), some (.sh, .lst (m.map pl)), some (.sh, pl o)], rfl, ?_, fun _ => ⟨false, ?_⟩⟩
            · by_cases c : o = p
              · simp [-List.contains_eq_mem, Env.lookAny, c]
              · simp [-List.contains_eq_mem, Env.lookAny, c]
            · simp [Env.look]
        have hn : nar R g p = !((k.filter fun o => decide (o ≠ p) && !m.contains o).map pl).isEmpty := by
          have : (!((k.filter fun o => decide (o ≠ p) && !m.contains o).map pl).isEmpty) = k.any fun o => decide (o ≠ p) && !m.contains o := by
            rw [empty_any]
            cases (k.any fun o => decide (o ≠ p) && !m.contains o) <;> rfl
          rw [this, ← Bool.coe_iff_coe, nar_iff, List.any_eq_true]
          constructor
          · rintro ⟨o, h1, h2, h3⟩
            exact ⟨o, (mk o).mpr h1, by rw [decide_eq_true h2, Bool.true_and, Bool.not_eq_true', List.contains_eq_mem, decide_eq_false_iff_not, same]; exact h3⟩
          · rintro ⟨o, h1, h2⟩
            rw [Bool.and_eq_true, decide_eq_true_eq, Bool.not_eq_true', List.contains_eq_mem, decide_eq_false_iff_not, same] at h2
            exact ⟨o, (mk o).mp h1, h2.1, h2.2⟩
        have en := cmp_ne_empty ((k.filter fun o => decide (o ≠ p) && !m.contains o).map pl) (plnL_pl _)
        rw [← hn] at en
        have t7 : Env.target [x0, some (.sh, .own 0), x2, some (.sh, grD R g), some (.sh, .lst (k.map pl)), some (.sh, .own T0.length), some (.sh, pl p), y7, y8, none] (.nm 7) (grD (setR R p 1) g') T = .ok [x0, some (.sh, .own 0), x2, some (.sh, grD R g), some (.sh, .lst (k.map pl)), some (.sh, .own T0.length), some (.sh, pl p), some (.sh, grD (setR R p 1) g'), y8, none] T := put_at (x := y7) rfl f7'
        have t8 : Env.target [x0, some (.sh, .own 0), x2, some (.sh, grD R g), some (.sh, .lst (k.map pl)), some (.sh, .own T0.length), some (.sh, pl p), some (.sh, grD (setR R p 1) g'), y8, none] (.nm 8) (.lst (m.map pl)) T = .ok [x0, some (.sh, .own 0), x2, some (.sh, grD R g), some (.sh, .lst (k.map pl)), some (.sh, .own T0.length), some (.sh, pl p), some (.sh, grD (setR R p 1) g'), some (.sh, .lst (m.map pl)), none] T := put_at (x := y8) rfl f8'
        have s7 : exec pg (run pg 39) (.asg (.nm 7) (.call 82 [.var 3, .var 6, .cst (.int 1)])) [x0, some (.sh, .own 0), x2, some (.sh, grD R g), some (.sh, .lst (k.map pl)), some (.sh, .own T0.length), some (.sh, pl p), y7, y8, none] T = .nx [x0, some (.sh, .own 0), x2, some (.sh, grD R g), some (.sh, .lst (k.map pl)), some (.sh, .own T0.length), some (.sh, pl p), some (.sh, grD (setR R p 1) g'), y8, none] T := by
          simp [Env.lookAny, M.mode, Env.isOw, e1, t7]
        have s8 : exec pg (run pg 39) (.asg (.nm 8) (.call 78 [.bi .list [.idx (.var 7) (.cst (.int 1))], .call 79 [.var 7, .cst (.int 0)]])) [x0, some (.sh, .own 0), x2, some (.sh, grD R g), some (.sh, .lst (k.map pl)), some (.sh, .own T0.length), some (.sh, pl p), some (.sh, grD (setR R p 1) g'), y8, none] T = .nx [x0, some (.sh, .own 0), x2, some (.sh, grD R g), some (.sh, .lst (k.map pl)), some (.sh, .own T0.length), some (.sh, pl p), some (.sh, grD (setR R p 1) g'), some (.sh, .lst (m.map pl)), none] T := by
          simp [Env.lookAny, M.mode, Env.isOw, e2, e3, t8]
        refine ⟨[x0, some (.sh, .own 0), x2, some (.sh, grD R g), some (.sh, .lst (k.map pl)), some (.sh, .own T0.length), some (.sh, pl p), y7, y8, none], _, T, _, put_at (x := y6) rfl f6', ?_, done ++ [p], some (.sh, pl p), some (.sh, grD (setR R p 1) g'), some (.sh, .lst (m.map pl)), by rw [List.append_assoc]; exact hd, rfl, rfl, rfl, rfl, rfl⟩
        rw [Pl.execs_cons, s7, go_nx, Pl.execs_cons, s8, go_nx, Pl.execs_cons, exec_iff, opd_cmp, ev_cmp, opd_comp, hc]
        simp only [fstR_ok, bindOk, opd_lst, ev_lst, evs_nil, bindM, bindM', retM, en, ofO_some, bol_bl, thenR_ok]
        cases hnp : nar R g p with
        | false => simp [List.filter_append, hnp, ← hT]
        | true =>
          have hdl : (done.filter (nar R g)).length < 1000 := by
            have h1 := List.length_filter_le (nar R g) done
            have h2 := congrArg List.length hd
            rw [List.length_append] at h2
            omega
          have ap := app_pl p hdl
          have ga : T[T0.length]? = some (.lst ((done.filter (nar R g)).map pl)) := by rw [← hT]; simp
          have u := updT_own ga (fun d => appD d (pl p)) ap (noOwnL_pl _)
          have hs : T.set T0.length (.lst ((done.filter (nar R g) ++ [p]).map pl)) = T0 ++ [.lst (((done ++ [p]).filter (nar R g)).map pl)] := by
            rw [← hT, List.set_append_right _ _ (Nat.le_refl _), Nat.sub_self, List.filter_append]
            simp [hnp]
          rw [hs] at u
          simp [Env.look, Env.lookAny, derefT, ga, tyD, updO, u])
      k _ _ ⟨[], x6, x7, x8, rfl, h6, h7, h8, rfl, rfl⟩
    obtain ⟨done, y6, y7, y8, hd, f6', f7', f8', rfl, rfl⟩ := h2
    rw [List.append_nil] at hd
    subst hd
    exact ⟨y6, y7, y8, f6', f7', f8', h1⟩
  · simp [lockOf]
  · simp [Env.lookAny]
  · rfl
end Sr.Q06
end

section
set_option autoImplicit false
set_option linter.all false
set_option Elab.async false
set_option maxHeartbeats 4000000
/-! Q06b: the law of k06, its turns. -/
namespace Sr.Q06
open PySem Sr.Pl Sr.G K06
theorem exec_par {P : Pg} {call : Call} {is : List (Nat × Bool)} {es : List M} {env : Env} {T : List Nd} : exec P call (.par is es) env T = thenR env (evp P call es env T) fun rs T1 => thenR env (asgs env is rs T1) fun e2 T2 => .nx e2 T2 := by rw [exec]
theorem ps_ins {k : Nat} {T T' : List Nd} (h : PS k T [] T') (hT : T.any Nd.isIns = false) : T'.any Nd.isIns = false := by
  obtain ⟨nd, h1, h2, rfl⟩ := h
  rw [List.append_nil]
  rw [List.any_eq_false] at hT ⊢
  intro x hx
  rcases List.mem_or_eq_of_mem_set hx with hx | rfl
  · exact hT x hx
  · obtain ⟨cs, i, x, y, rfl, _⟩ := h1
    simp [Nd.isIns]
theorem pot_ins {nd : Nd} (h : isPot nd) : [nd].any Nd.isIns = false := by
  obtain ⟨cs, i, x, y, rfl, _⟩ := h
  rfl
theorem ps_at {T : List Nd} {nd : Nd} (hp : isPot nd) (hT : T[0]? = some nd) : PS 0 T [] T := ⟨nd, hp, (List.getElem?_eq_some_iff.mp hT).1, by rw [List.append_nil, set_same hT]⟩
theorem turn {x0 x2 x3 x4 x5 x6 x7 x8 : Option (Md × D)} {T : List Nd} {nd : Nd} (hp : isPot nd) (hT : T[0]? = some nd) (hTi : T.any Nd.isIns = false) (h3 : Fre x3 = true) (h4 : Fre x4 = true) (h5 : Fre x5 = true) (h6 : Fre x6 = true) (h7 : Fre x7 = true) (h8 : Fre x8 = true) :
    ∃ y3 y4 y5 y6 y7 y8 T' nd', isPot nd' ∧ T'[0]? = some nd' ∧ T'.any Nd.isIns = false ∧ Fre y3 = true ∧ Fre y4 = true ∧ Fre y5 = true ∧ Fre y6 = true ∧ Fre y7 = true ∧ Fre y8 = true ∧
      execs pg (run pg 39) [.asg (.nm 3) (.call 80 [.var 1, .cst (.int 4), .cst (.int 5), .lst [.cst (.int 0), .cst (.int 0), .cst (.int 0), .cst (.int 1), .cst (.int 2)]]), .par [(4, false), (5, false)] [.call 81 [.var 3], .new (.lst [])], .forr 0 (.nm 6) [.var 4] [.asg (.nm 7) (.call 82 [.var 3, .var 6, .cst (.int 1)]), .asg (.nm 8) (.call 78 [.bi .list [.idx (.var 7) (.cst (.int 1))], .call 79 [.var 7, .cst (.int 0)]]), .iff (.cmp .ne (.comp (.var 9) (.nm 9) 0 [.var 4] [.and (.cmp .ne (.var 9) (.var 6)) (.cmp .notIn (.var 9) (.var 8))]) (.lst [])) [.app (.var 5) (.var 6)] []], .iff (.not (.call 7 [.call 83 [.var 3], .bi .tuple [.var 5]])) [.ret (.cst (.bl false))] []]
        [x0, some (.sh, .own 0), x2, x3, x4, x5, x6, x7, x8, none] T = .nx [x0, some (.sh, .own 0), x2, y3, y4, y5, y6, y7, y8, none] T' := by
  obtain ⟨R, g, h, w, T1, G, hh, hw, hgl, p1, e1⟩ := run_law_ground f6 f8 f80 36 (ps_at hp hT) hTi 4 5 (by omega) (by omega) [0, 0, 0, 1, 2] (by simp) (by simp) (by simp)
  have hT1 := ps_ins p1 hTi
  have hhw : h * w < 64 := Nat.lt_of_le_of_lt (Nat.mul_le_mul hh hw) (by omega)
  obtain ⟨k, e2, ak, mk⟩ := run_law_reached f77 f78 f79 f81 36 G.shp hhw G.asc.nodup (by omega) T1
  obtain ⟨y6, y7, y8, f6', f7', f8', e3⟩ := inner G hhw hgl ak mk T1 hT1 (x0 := x0) (x2 := x2) h6 h7 h8
  obtain ⟨k', ak', mk', e4⟩ := run_narrow H1 H2 f83 33 G hhw (by omega) (okD_gr G (by omega)) (by omega) (T1 ++ [.lst ((k.filter (nar R g)).map pl)])
  have ek : k' = k := asc_uniq ak' ak fun x => (mk' x).trans (mk x).symm
  subst ek
  have hkb : ∀ p ∈ k', (0 ≤ p.1 ∧ p.1 < 8) ∧ 0 ≤ p.2 ∧ p.2 < 8 := fun p hp => bd_sp G.shp p ((mk p).mp hp).isok
  have hkl : k'.length < 64 := Nat.lt_of_le_of_lt (nodup_len ak.nodup fun x hx => ((mk x).mp hx).isok) (sp_length G.shp 0 hhw)
  have e5 := run_same f7 (s := false) (I := 1000) (B := 1000) (by decide) 3 (.tup ((k'.filter (nar R g)).map pl)) 39 (T1 ++ [.lst ((k'.filter (nar R g)).map pl)]) (okD_pls (Nat.le_trans (List.length_filter_le ..) (by omega)) fun p hp => hkb p ((List.mem_filter.mp hp).1)) (by omega)
  obtain ⟨nd1, i1, i2⟩ := p1.at
  refine ⟨some (.sh, grD R g), some (.sh, .lst (k'.map pl)), some (.sh, .own T1.length), y6, y7, y8, T1 ++ [.lst ((k'.filter (nar R g)).map pl)], nd1, i1, ?_, ?_, rfl, rfl, rfl, f6', f7', f8', ?_⟩
  · rw [List.getElem?_append_left (List.getElem?_eq_some_iff.mp i2).1, i2]
  · rw [List.any_append, hT1]; rfl
  have s1 : exec pg (run pg 39) (.asg (.nm 3) (.call 80 [.var 1, .cst (.int 4), .cst (.int 5), .lst [.cst (.int 0), .cst (.int 0), .cst (.int 0), .cst (.int 1), .cst (.int 2)]])) [x0, some (.sh, .own 0), x2, x3, x4, x5, x6, x7, x8, none] T = .nx [x0, some (.sh, .own 0), x2, some (.sh, grD R g), x4, x5, x6, x7, x8, none] T1 := by
    have t : Env.target [x0, some (.sh, .own 0), x2, x3, x4, x5, x6, x7, x8, none] (.nm 3) (grD R g) T1 = .ok [x0, some (.sh, .own 0), x2, some (.sh, grD R g), x4, x5, x6, x7, x8, none] T1 := put_at (x := x3) rfl h3
    have e1 : run pg 39 80 [(.sh, .own 0), (.sh, .int 4), (.sh, .int 5), (.sh, .lst [.int 0, .int 0, .int 0, .int 1, .int 2])] T = .ok (grD R g, false) T1 := e1
    simp [Env.lookAny, M.mode, Env.isOw, e1, t]
  have s2 : exec pg (run pg 39) (.par [(4, false), (5, false)] [.call 81 [.var 3], .new (.lst [])]) [x0, some (.sh, .own 0), x2, some (.sh, grD R g), x4, x5, x6, x7, x8, none] T1 = .nx [x0, some (.sh, .own 0), x2, some (.sh, grD R g), some (.sh, .lst (k'.map pl)), some (.sh, .own T1.length), x6, x7, x8, none] (T1 ++ [.lst []]) := by
    have n := ev_new_ok (P := pg) (call := run pg 39) (a := .lst []) (env := [x0, some (.sh, .own 0), x2, some (.sh, grD R g), x4, x5, x6, x7, x8, none]) (T := T1) (T1 := T1) (r := []) (by simp)
    have n : ev pg (run pg 39) (.new (.lst [])) [x0, some (.sh, .own 0), x2, some (.sh, grD R g), x4, x5, x6, x7, x8, none] T1 = .ok (.own T1.length, false) (T1 ++ [.lst []]) := n
    have e81 : ev pg (run pg 39) (.call 81 [.var 3]) [x0, some (.sh, .own 0), x2, some (.sh, grD R g), x4, x5, x6, x7, x8, none] T1 = .ok (.lst (k'.map pl), true) T1 := by
      simp [Env.lookAny, M.mode, Env.isOw, e2]
    have ee : evp pg (run pg 39) [.call 81 [.var 3], .new (.lst [])] [x0, some (.sh, .own 0), x2, some (.sh, grD R g), x4, x5, x6, x7, x8, none] T1 = .ok [(.lst (k'.map pl), true), (.own T1.length, false)] (T1 ++ [.lst []]) := by
      simp only [evp, bindM, bindM', e81, bindOk, n, pureM]
    have p4 : ∀ T, Env.put [x0, some (.sh, .own 0), x2, some (.sh, grD R g), x4, x5, x6, x7, x8, none] 4 (.sh, .lst (k'.map pl)) T = .ok [x0, some (.sh, .own 0), x2, some (.sh, grD R g), some (.sh, .lst (k'.map pl)), x5, x6, x7, x8, none] T := fun T => put_at (x := x4) rfl h4
    have p5 : ∀ T, Env.put [x0, some (.sh, .own 0), x2, some (.sh, grD R g), some (.sh, .lst (k'.map pl)), x5, x6, x7, x8, none] 5 (.sh, .own T1.length) T = .ok [x0, some (.sh, .own 0), x2, some (.sh, grD R g), some (.sh, .lst (k'.map pl)), some (.sh, .own T1.length), x6, x7, x8, none] T := fun T => put_at (x := x5) rfl h5
    rw [exec_par, ee, thenR_ok]
    simp only [asgs, bindM, bindM', p4, bindOk, p5, retM, thenR_ok]
  rw [Pl.execs_cons, s1, go_nx, Pl.execs_cons, s2, go_nx, Pl.execs_cons, e3, go_nx]
  have ga : (T1 ++ [Nd.lst ((k'.filter (nar R g)).map pl)])[T1.length]? = some (.lst ((k'.filter (nar R g)).map pl)) := by simp
  have d5 := deref_own ga
  simp [Env.lookAny, M.mode, Env.isOw, e4, d5, e5]
theorem narrow_bad {d : D} (l : Nat) {I B n : Nat} (hd : okD false I B n d = true) (hB : B < 100000) (hg : isGr d = false) (T : List Nd) : run pg (l+6) 83 [(.sh, d)] T = .ex 1 [] T := by
  have e1 := run_need H1 l hd hB T
  rw [hg] at e1
  rw [run_one f83 rfl]
  simp [Gc.F_narrow, initEnv, Env.lookAny, M.mode, Env.isOw, e1]
theorem law (ns : List Int) (h : ns.length ≤ 63) : ∃ T, run pg 40 85 [(.sh, .scr ns)] [] = .ok (.bl true, false) T := by
  obtain ⟨nd, hp0, s0⟩ := law_start f11 38 ns h [none, none, none, none, none, none, none, none]
  have hf : ∃ x0 x2 x3 x4 x5 x6 x7 x8 T' nd', isPot nd' ∧ T'[0]? = some nd' ∧ exec pg (run pg 39) (.forr 1 (.nm 2) [.cst (.int 8)] [.asg (.nm 3) (.call 80 [.var 1, .cst (.int 4), .cst (.int 5), .lst [.cst (.int 0), .cst (.int 0), .cst (.int 0), .cst (.int 1), .cst (.int 2)]]), .par [(4, false), (5, false)] [.call 81 [.var 3], .new (.lst [])], .forr 0 (.nm 6) [.var 4] [.asg (.nm 7) (.call 82 [.var 3, .var 6, .cst (.int 1)]), .asg (.nm 8) (.call 78 [.bi .list [.idx (.var 7) (.cst (.int 1))], .call 79 [.var 7, .cst (.int 0)]]), .iff (.cmp .ne (.comp (.var 9) (.nm 9) 0 [.var 4] [.and (.cmp .ne (.var 9) (.var 6)) (.cmp .notIn (.var 9) (.var 8))]) (.lst [])) [.app (.var 5) (.var 6)] []], .iff (.not (.call 7 [.call 83 [.var 3], .bi .tuple [.var 5]])) [.ret (.cst (.bl false))] []])
      [some (.sh, .scr ns), some (.sh, .own 0), none, none, none, none, none, none, none, none] [nd] = .nx [x0, some (.sh, .own 0), x2, x3, x4, x5, x6, x7, x8, none] T' := by
    rw [exec_for (T1 := [nd]) (fun (j : Nat) => D.int (j : Int)) (List.range 8) (ds := [.int 8])]
    · obtain ⟨env', T', h1, h2⟩ := forGo_inv (tg := .nm 2) (body := fun e t => execs pg (run pg 39) [.asg (.nm 3) (.call 80 [.var 1, .cst (.int 4), .cst (.int 5), .lst [.cst (.int 0), .cst (.int 0), .cst (.int 0), .cst (.int 1), .cst (.int 2)]]), .par [(4, false), (5, false)] [.call 81 [.var 3], .new (.lst [])], .forr 0 (.nm 6) [.var 4] [.asg (.nm 7) (.call 82 [.var 3, .var 6, .cst (.int 1)]), .asg (.nm 8) (.call 78 [.bi .list [.idx (.var 7) (.cst (.int 1))], .call 79 [.var 7, .cst (.int 0)]]), .iff (.cmp .ne (.comp (.var 9) (.nm 9) 0 [.var 4] [.and (.cmp .ne (.var 9) (.var 6)) (.cmp .notIn (.var 9) (.var 8))]) (.lst [])) [.app (.var 5) (.var 6)] []], .iff (.not (.call 7 [.call 83 [.var 3], .bi .tuple [.var 5]])) [.ret (.cst (.bl false))] []] e t) (fun (j : Nat) => D.int (j : Int))
        (fun rest env T' => ∃ (x0 x2 x3 x4 x5 x6 x7 x8 : Option (Md × D)) (nd : Nd), isPot nd ∧ T'[0]? = some nd ∧ T'.any Nd.isIns = false ∧ Fre x2 = true ∧ Fre x3 = true ∧ Fre x4 = true ∧ Fre x5 = true ∧ Fre x6 = true ∧ Fre x7 = true ∧ Fre x8 = true ∧ env = [x0, some (.sh, .own 0), x2, x3, x4, x5, x6, x7, x8, none])
        (by
          rintro a rest env T' ⟨x0, x2, x3, x4, x5, x6, x7, x8, nd, hp, hT, hTi, h2, h3, h4, h5, h6, h7, h8, rfl⟩
          obtain ⟨y3, y4, y5, y6, y7, y8, T2, nd', hp', hT', hTi', g3, g4, g5, g6, g7, g8, ht⟩ := turn (x0 := x0) (x2 := some (.sh, .int (a : Nat))) hp hT hTi h3 h4 h5 h6 h7 h8
          exact ⟨_, _, _, _, put_at (x := x2) rfl h2, ht, _, _, _, _, _, _, _, _, nd', hp', hT', hTi', rfl, g3, g4, g5, g6, g7, g8, rfl⟩)
        (List.range 8) _ _ ⟨some (.sh, .scr ns), none, none, none, none, none, none, none, nd, hp0, rfl, pot_ins hp0, rfl, rfl, rfl, rfl, rfl, rfl, rfl, rfl⟩
      obtain ⟨x0, x2, x3, x4, x5, x6, x7, x8, nd', hp', hT', _, _, _, _, _, _, _, _, rfl⟩ := h2
      exact ⟨x0, x2, x3, x4, x5, x6, x7, x8, T', nd', hp', hT', h1⟩
    · simp [lockOf]
    · simp
    · rw [items_1]; exact rngop_n 8 (by decide)
  obtain ⟨x0, x2, x3, x4, x5, x6, x7, x8, T', nd', hp', hT', hf⟩ := hf
  obtain ⟨d, nd2, hd, hp2, ed⟩ := run_pickL f6 f8 37 [.non, .tup [], .int 4] hT' hp' (by simp) (by simp)
  have hdb : okD false 1000 1000 2 d = true ∧ isGr d = false := by
    simp only [List.mem_cons, List.not_mem_nil, or_false] at hd
    rcases hd with rfl | rfl | rfl
    · exact ⟨rfl, rfl⟩
    · exact ⟨rfl, rfl⟩
    · exact ⟨by decide, rfl⟩
  have eb := narrow_bad 33 hdb.1 (by omega) hdb.2 (T'.set 0 nd2)
  have el := ev_lam_ex (P := pg) (call := run pg 39) (f := 84) (c := 1) (n := ("NoGround" : Str)) (body := .call 83 [.call 8 [.var 1, .lst [.cst .non, .tup [], .cst (.int 4)]]]) (z := ("NoGround" : Str)) (env := [x0, some (.sh, .own 0), x2, x3, x4, x5, x6, x7, x8, none]) (T := T') (T' := T'.set 0 nd2) (fs := []) lk84 (by decide) (by decide) (by
    simp [Env.lookAny, M.mode, Env.isOw, ed, eb])
  refine ⟨(trimT 0 (.bl (("NoGround" : Str) == ("NoGround" : Str))) (T'.set 0 nd2)), ?_⟩
  rw [show (40 : Nat) = 39 + 1 from rfl, run_one f85 rfl]
  simp only [F_law, initEnv, List.map_cons, List.map_nil, List.cons_append, List.nil_append, List.replicate, Nat.sub, Pl.execs_cons, s0, hf, go_nx, exec_ret, el, thenR_ok, go_rt, fin_rt, List.length_nil]
  rw [str_beq]
end Sr.Q06
end

theorem PySem.Challenge.cw_stallrows_k06_narrow_places_holds : PySem.Challenge.rw_stallrows_k06_narrow_places.Holds :=
  K06.holds Sr.Q06.law
