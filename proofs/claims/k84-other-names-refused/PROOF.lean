import PyProof.Rows.All
import Wide.All
import OpenK.AllK
import Wide.FinOn
import HandS.ForMost
import HandS.TupAny
import HandS.TupMul
import HandS.WideBits
import HandS.Gcd
import HandS.Exc
import HandS.Lambda
import HandS.Text
import HandS.Deep
import HandS.Flow
import HandS.IsInst
import HandS.SetFor
import HandS.Strs
import HandS.RaiseMore
import KE.GoesEnum
import KE.GoesZip
import KE.KDictZip
import HandS.Ends
import KE.KSuper
import KE.KExcSuper
import HandS.ExcOwn
import HandS.ExcField
import HandS.ExcIs
import KE.KExcIs
import HandS.NoneIn
import HandS.Comp
import HandS.Style
import HandS.Nested
import HandS.Star
import HandS.EndTab
import HandS.HeadWalk
import HandS.Words
import HandS.HeadHook4
import HandS.NestedK
import HandS.Head2
import HandS.Head3
import KE.BitLaws
import PyProof.Rows.ReprOcc
import PyProof.ReprLen
import PyProof.Rows.ReprItems
import PySem.Challenge.RW_tosspicks_k84_other_names_refused
section
set_option linter.all false
set_option maxRecDepth 100000
/-! DV0: deep values, the compiled tree, the interpreter. -/
namespace DV
open PySem

inductive D where
  | non | bl (b : Bool) | int (i : Int) | str (x : List Nat)
  | tup (xs : List D) | lst (xs : List D) | fro (xs : List D) | dic (ks vs : List D)
  | ref (l : Nat) | fn (g : Nat) | clo (k : Nat) (caps : List D)
  deriving Inhabited

inductive Sl where
  | no | val (d : D) | own (xs : List D) | exc
  deriving Inhabited
abbrev Env := List Sl
abbrev St := List (List D)

/-- an expression's end -/
inductive R (α : Type) where
  | ok (a : α) (st : St) | exc (c : Nat) (d : List D) (st : St) | bad
namespace R
@[inline] def bind {α β : Type} (r : R α) (f : α → St → R β) : R β := match r with
  | ok a st => f a st
  | exc c d st => exc c d st
  | bad => bad
def lift {α : Type} (o : Option α) (st : St) : R α := match o with
  | some a => ok a st
  | none => bad
end R

inductive Bop where | add | sub | mul | fdv | mod | pow | shl | shr | and | or | xor
  deriving DecidableEq
inductive Cop where | eq | ne | lt | le | gt | ge | is | isn | in_ | nin
  deriving DecidableEq
inductive Ty where | int | bool | str | tuple | list
  deriving DecidableEq
inductive Blt where | len | int | abs | sum | max1 | max2 | min1 | min2 | any | all | tuple | list | sorted | repr | gcd | divmod | dictzip
  deriving DecidableEq
inductive Mth where | index | count | split
  deriving DecidableEq

/-- a target: a name's slot, o[i] (o: a slot), a tuple of targets -/
inductive CT where
  | nm (i : Nat) | sub (o : Nat) (i : Nat) | nil | cons (a r : CT)

/-- compiled expressions; nil, cons: argument lists (nil: nothing, too) -/
inductive CE where
  | var (i : Nat) | con (d : D) | glo (j : Nat)
  | nil | cons (a r : CE)
  | tup (es : CE) | lst (es : CE) | new (es : CE)
  | bin (o : Bop) (a b : CE) | neg (a : CE) | inv (a : CE)
  | cmp (o : Cop) (a b : CE) | cmp2 (o p : Cop) (a b c : CE)
  | and (a b : CE) | or (a b : CE) | not (a : CE)
  | ife (c a b : CE)
  | sub (a i : CE) | slc (a lo hi : CE)
  | isi (t : Ty) (a : CE)
  | call (g : Nat) (args kws : CE) | callv (i : Nat) (args kws : CE) (s : Option Nat) | callm (g : Nat) (args : CE) (lam : Nat) (caps : List Nat)
  | blt (b : Blt) (args : CE) | mth (m : Mth) (o args : CE)
  | comp (tg : CT) (it c e : CE) (own : List Nat)
  | comp2 (tg : CT) (it c : CE) (tg2 : CT) (it2 c2 e : CE) (own own2 : List Nat)
  | iseq (a : CE) | irng (a : CE) | irng2 (a b : CE) | ienum (a : CE) | izip (a b : CE) | ienz (a b : CE)
  | exat (i f : Nat) | exis (i c : Nat) | sfst (a b : CE)

inductive CS where
  | nil | cons (s r : CS)
  | pass | expr (e : CE) | asg (i : Nat) (e : CE) | par (is : List Nat) (fl : List Bool) (es : CE) | asgt (t : CT) (e : CE)
  | sets (o i e : CE) | app (i : Nat) (e : CE) | frz (i : Nat)
  | ite (c : CE) (a b : CS) | for_ (t : CT) (it : CE) (b : CS) | whl (c : CE) (b : CS)
  | ret (e : CE) | ret0 | brk | cnt | rse (c : Nat) (args : CE) | try_ (b : CS) (c : Nat) (i : Nat) (s : CS) | never

/-! ### values -/
def line : Nat := 16777216
mutual
def dep : D → Nat
  | .tup xs => deps xs + 1
  | .lst xs => deps xs + 1
  | _ => 0
def deps : List D → Nat
  | [] => 0
  | x :: r => max (dep x) (deps r)
end
mutual
/-- data as == and repr take it -/
def dat : D → Bool
  | .non => true | .bl _ => true | .int _ => true
  | .str x => PyData.strOk ⟨x.toArray⟩
  | .tup xs => dats xs
  | .lst xs => dats xs
  | _ => false
def dats : List D → Bool
  | [] => true
  | x :: r => dat x && dats r
end
def shp (d : D) : Bool := dat d && decide (dep d ≤ 64)
mutual
/-- no closure in it -/
def pla : D → Bool
  | .clo _ _ => false
  | .tup xs => plas xs | .lst xs => plas xs | .fro xs => plas xs | .dic ks vs => plas ks && plas vs
  | _ => true
def plas : List D → Bool
  | [] => true
  | x :: r => pla x && plas r
end
mutual
/-- == -/
def eqD : D → D → Bool
  | .non, .non => true
  | .bl a, .bl b => a == b
  | .bl a, .int j => (if a then 1 else 0) == j
  | .int i, .bl b => i == (if b then 1 else 0)
  | .int i, .int j => i == j
  | .str x, .str y => x == y
  | .lst xs, .lst ys => eqDs xs ys
  | .tup xs, .tup ys => eqDs xs ys
  | _, _ => false
def eqDs : List D → List D → Bool
  | [], [] => true
  | x :: xs, y :: ys => eqD x y && eqDs xs ys
  | _, _ => false
end
def flat : D → Bool
  | .non => true | .bl _ => true | .int _ => true | .str _ => true | _ => false
def tru : D → Option Bool
  | .non => some false
  | .bl b => some b
  | .int i => some (i != 0)
  | .str x => if x.length ≤ line then some ((x.length : Int) != 0) else none
  | .tup xs => some (!xs.isEmpty)
  | .lst xs => some (!xs.isEmpty)
  | _ => none
/-- the place of an index of any sign -/
def ixD (n : Nat) (i : Int) : Option Nat := if 0 ≤ i then (if i < n then some i.toNat else none) else if -(n : Int) ≤ i then some (i + n).toNat else none
def atD {α : Type} (xs : List α) (i : Int) : Option α := (ixD xs.length i).bind fun j => xs[j]?
def sIx (n d : Nat) : Option Int → Nat
  | none => d
  | some v => if v < 0 then (v + (n : Int)).toNat else min v.toNat n
def cutD {α : Type} (xs : List α) (lo hi : Option Int) : List α := (xs.drop (sIx xs.length 0 lo)).take (sIx xs.length xs.length hi - sIx xs.length 0 lo)
def bits (i : Int) : Nat := Builtin.Int.intBits i
def small (i : Int) : Bool := decide (-(2 ^ 62) ≤ i) && decide (i < 2 ^ 62)

def s64 (i : Int) : Bool := decide (-(2 ^ 64) < i) && decide (i < 2 ^ 64)
def mulOk (a b : Int) : Bool := s64 a || s64 b || decide (bits a + bits b ≤ 134217728)
def binD : Bop → D → D → Option D
  | .add, .int a, .int b => some (.int (a + b))
  | .add, .str x, .str y => if x.length + y.length ≤ line then some (.str (x ++ y)) else none
  | .add, .tup x, .tup y => if x.length + y.length ≤ line then some (.tup (x ++ y)) else none
  | .add, .lst x, .lst y => if x.length + y.length ≤ line then some (.lst (x ++ y)) else none
  | .sub, .int a, .int b => some (.int (a - b))
  | .mul, .int a, .int b => if mulOk a b then some (.int (a * b)) else none
  | .mul, .tup x, .int k => if x ≠ [] ∧ 2 ≤ k ∧ k ≤ 1000 ∧ x.length ≤ 1000 then some (.tup (List.replicate k.toNat x).flatten) else none
  | .mul, .lst x, .int k => if 0 ≤ k ∧ k ≤ 1000 ∧ x.length ≤ 1000 then some (.lst (List.replicate k.toNat x).flatten) else none
  | .fdv, .int a, .int b => if 0 < b ∧ (b < 1073741824 ∨ b.natAbs.log2 < 9000) then some (.int (a / b)) else none
  | .mod, .int a, .int b => if 0 < b then some (.int (a % b)) else none
  | .pow, .int a, .int b => if 0 ≤ b ∧ b ≤ 1000000 ∧ a.natAbs < 2 ^ 64 then some (.int (a ^ b.toNat)) else none
  | .shl, .int a, .int b => if 0 ≤ b ∧ b ≤ 1000000 ∧ a.natAbs < 2 ^ 64 then some (.int (a * 2 ^ b.toNat)) else none
  | .shr, .int a, .int b => if 0 ≤ b then some (.int (a / 2 ^ b.toNat)) else none
  | .and, .int a, .int b => some (.int (Builtin.bitAnd a b))
  | .or, .int a, .int b => some (.int (Builtin.bitOr a b))
  | .xor, .int a, .int b => some (.int (Builtin.bitXor a b))
  | _, _, _ => none

def eqv2 (a b : D) : Option Bool := match a, b with
  | .str x, .str y => some (x == y)
  | a, b => if shp a && shp b then some (eqD a b) else none
def ordD (f : Int → Int → Bool) (g : List Nat → List Nat → Option Bool) : D → D → Option Bool
  | .int a, .int b => some (f a b)
  | .str x, .str y => g x y
  | _, _ => none
def inD (a : D) : D → Option Bool
  | .tup xs => if flat a && xs.all flat then some (xs.any fun y => eqD y a) else none
  | .lst xs => if flat a && xs.all flat then some (xs.any fun y => eqD y a)
      else if shp a && shp (.lst xs) then some (xs.any fun y => eqD y a) else none
  | .str z => match a with
    | .str [c] => some (decide (c ∈ z))
    | _ => none
  | _ => none
def cmpD : Cop → D → D → Option Bool
  | .eq, a, b => eqv2 a b
  | .ne, a, b => (eqv2 a b).map (!·)
  | .lt, a, b => ordD (fun i j => decide (i < j)) (fun x y => some (decide (x < y))) a b
  | .le, a, b => ordD (fun i j => decide (i ≤ j)) (fun _ _ => none) a b
  | .gt, a, b => ordD (fun i j => decide (j < i)) (fun _ _ => none) a b
  | .ge, a, b => ordD (fun i j => decide (j ≤ i)) (fun _ _ => none) a b
  | .is, a, .non => some (match a with | .non => true | _ => false)
  | .isn, a, .non => some (match a with | .non => false | _ => true)
  | .in_, a, b => inD a b
  | .nin, a, b => (inD a b).map (!·)
  | _, _, _ => none

def lookD (k : D) : List D → List D → Option D
  | x :: ks, v :: vs => if eqD x k then some v else lookD k ks vs
  | _, _ => none
/-- a key of a dict: a text, an int; a tuple of such -/
def keyA : D → Bool
  | .int _ => true | .str _ => true | _ => false
def keyT : D → Bool
  | .tup xs => xs.all keyA | _ => false

def subD (st : St) : D → D → Option D
  | .tup xs, .int i => atD xs i
  | .lst xs, .int i => atD xs i
  | .fro xs, .int i => atD xs i
  | .str x, .int i => if x.length ≤ line then (atD x i).map fun c => .str [c] else none
  | .ref l, .int i => (st[l]?).bind fun xs => atD xs i
  | .dic ks vs, k => if keyA k || keyT k then lookD k ks vs else none
  | _, _ => none
def slcD : D → Option Int → Option Int → Option D
  | .tup xs, lo, hi => some (.tup (cutD xs lo hi))
  | .lst xs, lo, hi => some (.lst (cutD xs lo hi))
  | .fro xs, lo, hi => some (.lst (cutD xs lo hi))
  | .str x, lo, hi => if x.length ≤ line then some (.str (cutD x lo hi)) else none
  | _, _, _ => none
def isiD : Ty → D → Option Bool
  | t, .non => some false
  | t, .bl _ => some (t == .int || t == .bool)
  | t, .int _ => some (t == .int)
  | t, .str _ => some (t == .str)
  | t, .tup _ => some (t == .tuple)
  | t, .lst _ => some (t == .list)
  | _, _ => none
def allInt : List D → Option (List Int)
  | [] => some []
  | .int i :: r => (allInt r).map (i :: ·)
  | _ => none
def allBl : List D → Option (List Bool)
  | [] => some []
  | .bl i :: r => (allBl r).map (i :: ·)
  | _ => none
def allStr : List D → Option (List (List Nat))
  | [] => some []
  | .str i :: r => (allStr r).map (i :: ·)
  | _ => none
def seqD : D → Option (List D)
  | .tup xs => some xs
  | .lst xs => some xs
  | _ => none
/-- ascending, by insertion -/
def insS (x : List Nat) : List (List Nat) → List (List Nat)
  | [] => [x]
  | y :: r => if y < x then y :: insS x r else x :: y :: r
def sortS : List (List Nat) → List (List Nat)
  | [] => []
  | x :: r => insS x (sortS r)
def maxL : Int → List Int → Int
  | m, [] => m
  | m, x :: r => maxL (max m x) r
def minL : Int → List Int → Int
  | m, [] => m
  | m, x :: r => minL (min m x) r
mutual
def pyD : D → PyData
  | .bl b => .bool b | .int i => .int i | .str x => .str ⟨x.toArray⟩
  | .tup xs => .tuple (pyDs xs) | .lst xs => .list (pyDs xs)
  | _ => .none
def pyDs : List D → List PyData
  | [] => []
  | x :: r => pyD x :: pyDs r
end
/-- a dict's entry stored -/
def putD (k v : D) : List D → List D → List D × List D
  | x :: ks, w :: vs => if eqD x k then (x :: ks, v :: vs) else let p := putD k v ks vs; (x :: p.1, w :: p.2)
  | _, _ => ([k], [v])
def mkDic : List D → List D → List D × List D → List D × List D
  | k :: ks, v :: vs, p => mkDic ks vs (putD k v p.1 p.2)
  | _, _, p => p
def bLen : List D → Option D
  | [.tup xs] => some (.int xs.length)
  | [.lst xs] => some (.int xs.length)
  | [.fro xs] => some (.int xs.length)
  | [.str x] => if x.length ≤ line then some (.int x.length) else none
  | _ => none
def bInt : List D → Option D
  | [.int i] => some (.int i)
  | [.bl b] => some (.int (if b then 1 else 0))
  | _ => none
def bAbs : List D → Option D
  | [.int i] => some (.int (if i < 0 then -i else i))
  | _ => none
def bSum : List D → Option D
  | [.lst xs] => (allInt xs).map fun ns => .int ns.sum
  | _ => none
def bMax1 : List D → Option D
  | [.lst xs] => (allInt xs).bind fun ns => match ns with | [] => none | n :: r => some (.int (maxL n r))
  | _ => none
def bMin1 : List D → Option D
  | [.lst xs] => (allInt xs).bind fun ns => match ns with | [] => none | n :: r => some (.int (minL n r))
  | _ => none
def bMax2 : List D → Option D
  | [.int i, .int j] => some (.int (if j > i then j else i))
  | _ => none
def bMin2 : List D → Option D
  | [.int i, .int j] => some (.int (if j < i then j else i))
  | _ => none
def bAny : List D → Option D
  | [.lst xs] => (allBl xs).map fun bs => .bl (bs.any id)
  | _ => none
def bAll : List D → Option D
  | [.lst xs] => (allBl xs).map fun bs => .bl (bs.all id)
  | _ => none
def bTuple : List D → Option D
  | [.tup xs] => some (.tup xs)
  | [.lst xs] => some (.tup xs)
  | _ => none
def bList : List D → Option D
  | [.tup xs] => some (.lst xs)
  | [.lst xs] => some (.lst xs)
  | _ => none
def bSorted : List D → Option D
  | [d] => (seqD d).bind fun xs => (allStr xs).bind fun ss => if ss.length < 64 then some (.lst ((sortS ss).map .str)) else none
  | _ => none
def bRepr : List D → Option D
  | [d] => if shp d && (pyD d).showable && decide ((pyD d).shown.length ≤ line) then some (.str (pyD d).shown.cps.toList) else none
  | _ => none
def bGcd : List D → Option D
  | [.int a, .int b] => some (.int (Nat.gcd a.natAbs b.natAbs : Nat))
  | _ => none
def bDivmod : List D → Option D
  | [.int a, .int b] => if 0 < b ∧ b < 1073741824 then some (.tup [.int (a / b), .int (a % b)]) else none
  | _ => none
def bDictzip : List D → Option D
  | [a, b] => (seqD a).bind fun xs => (seqD b).bind fun ys =>
      if xs.length ≤ 1000 ∧ ys.length = xs.length ∧ (xs.all keyA || xs.all keyT) = true then let p := mkDic xs ys ([], []); some (.dic p.1 p.2) else none
  | _ => none
def bltD : Blt → List D → Option D
  | .len => bLen
  | .int => bInt
  | .abs => bAbs
  | .sum => bSum
  | .max1 => bMax1
  | .min1 => bMin1
  | .max2 => bMax2
  | .min2 => bMin2
  | .any => bAny
  | .all => bAll
  | .tuple => bTuple
  | .list => bList
  | .sorted => bSorted
  | .repr => bRepr
  | .gcd => bGcd
  | .divmod => bDivmod
  | .dictzip => bDictzip
def idxD (y : D) : List D → Nat → Option Nat
  | [], _ => none
  | x :: r, n => if eqD x y then some n else idxD y r (n + 1)
def mthD : Mth → D → List D → Option D
  | .index, .tup xs, [y] => if flat y && xs.all flat then (idxD y xs 0).map fun (n : Nat) => .int n else none
  | .index, .lst xs, [y] => if flat y && xs.all flat then (idxD y xs 0).map fun (n : Nat) => .int n else none
  | .count, .lst xs, [.bl b] => if (xs.all fun x => match x with | .bl _ => true | _ => false) then some (.int ((xs.filter fun x => eqD x (.bl b)).length : Nat)) else none
  | .split, .str x, [.str y] => if y ≠ [] ∧ x.length + 2 ≤ line then some (.lst ((Txt.split ⟨x.toArray⟩ ⟨y.toArray⟩).map fun z => .str z.cps.toList)) else none
  | _, _, _ => none

/-- the method is one of the receiver's type -/
def mtOk : Mth → D → Bool
  | .index, .tup _ => true | .index, .lst _ => true | .count, .lst _ => true | .split, .str _ => true
  | _, _ => false

/-! ### targets -/
def setSl (ρ : Env) (i : Nat) (d : D) : Env := ρ.set i (.val d)
def wipe (ρ : Env) : List Nat → Env
  | [] => ρ
  | v :: vs => (wipe ρ vs).set v .no
def sval (ρ : Env) (i : Nat) : Option D := match ρ[i]? with
  | some (.val d) => some d
  | _ => none
/-- st[l][i] := d -/
def putSt (st : St) (l : Nat) (i : Int) (d : D) : Option St := (st[l]?).bind fun xs => (ixD xs.length i).map fun j => st.set l (xs.set j d)
/-- a target takes a value -/
def asgT : CT → D → Env → St → Option (Env × St)
  | .nm i, d, ρ, st => some (setSl ρ i d, st)
  | .sub o i, d, ρ, st => match sval ρ o with
    | some (.ref l) => (putSt st l i d).map fun st' => (ρ, st')
    | _ => none
  | .nil, d, ρ, st => match seqD d with
    | some [] => some (ρ, st)
    | _ => none
  | .cons a r, d, ρ, st => match seqD d with
    | some (x :: xs) => (asgT a x ρ st).bind fun p => asgT r (.tup xs) p.1 p.2
    | _ => none

/-! ### the interpreter -/
/-- what an expression is told: the defs, the closures, the error that an except suite holds, which error class stands under which -/
structure Tell where
  F : Nat → List D → St → R D
  C : Nat → List D → List D → St → R D
  ex : Option (Nat × List D)
  sub : Nat → Nat → Bool
  fld : Nat → Option Nat
  sig : Nat → Nat
  gl : Nat → Option D
/-- nothing but plain things come back -/
def plR : R D → R D
  | .ok d st => if pla d && st.all plas then .ok d st else .bad
  | .exc c ds st => if plas ds && st.all plas then .exc c ds st else .bad
  | .bad => .bad
def noex {α : Type} : R α → R α
  | .exc _ _ _ => .bad
  | r => r
/-- a comprehension's turns -/
def lcLoop (tg : CT) (ρ : Env) (cond : Env → St → R Bool) (elt : Env → St → R D) : List D → St → R (List D)
  | [], st => .ok [] st
  | x :: xs, st => match asgT tg x ρ st with
    | none => .bad
    | some (ρ1, st1) => (cond ρ1 st1).bind fun b st2 => if b then (elt ρ1 st2).bind fun y st3 => (lcLoop tg ρ cond elt xs st3).bind fun ys st4 => .ok (y :: ys) st4
        else lcLoop tg ρ cond elt xs st2
/-- .. of the first of two clauses -/
def lcLoop2 (tg : CT) (ρ : Env) (cond : Env → St → R Bool) (inner : Env → St → R (List D)) : List D → St → R (List D)
  | [], st => .ok [] st
  | x :: xs, st => match asgT tg x ρ st with
    | none => .bad
    | some (ρ1, st1) => (cond ρ1 st1).bind fun b st2 => if b then (inner ρ1 st2).bind fun ys st3 => (lcLoop2 tg ρ cond inner xs st3).bind fun zs st4 => .ok (ys ++ zs) st4
        else lcLoop2 tg ρ cond inner xs st2
def enumD : Nat → List D → List D
  | _, [] => []
  | n, x :: r => .tup [.int n, x] :: enumD (n + 1) r
def zipD : List D → List D → List D
  | x :: xs, y :: ys => .tup [x, y] :: zipD xs ys
  | _, _ => []
def rngD (lo : Int) : Nat → List D
  | 0 => []
  | n + 1 => .int lo :: rngD (lo + 1) n
def itD : D → Option (List D)
  | .tup xs => some xs
  | .lst xs => some xs
  | .fro xs => some xs
  | .str x => if x.length ≤ line then some (x.map fun c => .str [c]) else none
  | _ => none
def optI (x : D) : Option Int := match x with
  | .int i => some i
  | _ => none
section
variable (G : Tell)
mutual
def evE : CE → Env → St → R D
  | .var i, ρ, st => R.lift (sval ρ i) st
  | .con d, _, st => .ok d st
  | .glo j, _, st => R.lift (G.gl j) st
  | .tup es, ρ, st => (evA es ρ st).bind fun xs st => if xs.length ≤ line then .ok (.tup xs) st else .bad
  | .lst es, ρ, st => (evA es ρ st).bind fun xs st => if xs.length ≤ line then .ok (.lst xs) st else .bad
  | .new es, ρ, st => (evA es ρ st).bind fun xs st => if xs.length ≤ line then .ok (.ref st.length) (st ++ [xs]) else .bad
  | .bin o a b, ρ, st => (evE a ρ st).bind fun x st => (evE b ρ st).bind fun y st => R.lift (binD o x y) st
  | .neg a, ρ, st => (evE a ρ st).bind fun x st => R.lift ((optI x).map fun i => .int (-i)) st
  | .inv a, ρ, st => (evE a ρ st).bind fun x st => R.lift ((optI x).map fun i => .int (Builtin.bitNot i)) st
  | .cmp o a b, ρ, st => (evE a ρ st).bind fun x st => (evE b ρ st).bind fun y st => R.lift ((cmpD o x y).map .bl) st
  | .cmp2 o p a b c, ρ, st => (evE a ρ st).bind fun x st => (evE b ρ st).bind fun y st => (R.lift (cmpD o x y) st).bind fun k st =>
      if k then (evE c ρ st).bind fun z st => R.lift ((cmpD p y z).map .bl) st else .ok (.bl false) st
  | .and a b, ρ, st => (evE a ρ st).bind fun x st => (R.lift (tru x) st).bind fun k st => if k then evE b ρ st else .ok x st
  | .or a b, ρ, st => (evE a ρ st).bind fun x st => (R.lift (tru x) st).bind fun k st => if k then .ok x st else evE b ρ st
  | .not a, ρ, st => (evE a ρ st).bind fun x st => R.lift ((tru x).map fun k => .bl (!k)) st
  | .ife c a b, ρ, st => (evT c ρ st).bind fun k st => if k then evE a ρ st else evE b ρ st
  | .sub a i, ρ, st => (evE a ρ st).bind fun x st => (evE i ρ st).bind fun y st => R.lift (subD st x y) st
  | .slc a lo hi, ρ, st => (evE a ρ st).bind fun x st => (evP lo ρ st).bind fun l st => (evP hi ρ st).bind fun h st => R.lift (slcD x l h) st
  | .isi t a, ρ, st => (evE a ρ st).bind fun x st => R.lift ((isiD t x).map .bl) st
  | .call g as ks, ρ, st => (evA as ρ st).bind fun xs st => (evA ks ρ st).bind fun ys st => G.F g (xs ++ ys) st
  | .callv i as ks s, ρ, st => match sval ρ i with
      | some (.fn g) => (evA as ρ st).bind fun xs st => (evA ks ρ st).bind fun ys st => if (match s with | none => ys.isEmpty | some t => G.sig g == t) then G.F g (xs ++ ys) st else .bad
      | some (.clo k caps) => match s with
        | none => (evA as ρ st).bind fun xs st => if plas xs && st.all plas then G.C k caps xs st else .bad
        | some _ => .bad
      | _ => .bad
  | .callm g as lam caps, ρ, st => (evA as ρ st).bind fun xs st => match caps.mapM (sval ρ) with
      | some cs => plR (G.F g (xs ++ [.clo lam cs]) st)
      | none => .bad
  | .blt b as, ρ, st => (evA as ρ st).bind fun xs st => R.lift (bltD b xs) st
  | .mth m o as, ρ, st => (evE o ρ st).bind fun x st => if mtOk m x then (evA as ρ st).bind fun xs st => R.lift (mthD m x xs) st else .bad
  | .comp tg it c e own, ρ, st => (evI it ρ st).bind fun xs st => (noex (lcLoop tg (wipe ρ own) (evC c) (evE e) xs st)).bind fun ys st => if ys.length ≤ line then .ok (.lst ys) st else .bad
  | .comp2 tg it c tg2 it2 c2 e own own2, ρ, st => (evI it ρ st).bind fun xs st =>
      (noex (lcLoop2 tg (wipe ρ own) (evC c) (fun ρ1 st1 => (evI it2 ρ1 st1).bind fun ys st2 => lcLoop tg2 (wipe ρ1 own2) (evC c2) (evE e) ys st2) xs st)).bind fun ys st =>
        if ys.length ≤ line then .ok (.lst ys) st else .bad
  | .exat i f, ρ, st => match ρ[i]?, G.ex with
      | some .exc, some (c, [d]) => if G.fld c = some f then .ok d st else .bad
      | _, _ => .bad
  | .exis i c, ρ, st => match ρ[i]?, G.ex with
      | some .exc, some (c', _) => .ok (.bl (G.sub c' c)) st
      | _, _ => .bad
  | .sfst a b, ρ, st => (evE a ρ st).bind fun x st => (R.lift (seqD x) st).bind fun xs st => (evE b ρ st).bind fun y st => if xs.length < line then .ok (xs.headD y) st else .bad
  | _, _, _ => .bad
/-- arguments -/
def evA : CE → Env → St → R (List D)
  | .nil, _, st => .ok [] st
  | .cons a r, ρ, st => (evE a ρ st).bind fun x st => (evA r ρ st).bind fun xs st => .ok (x :: xs) st
  | _, _, _ => .bad
/-- a slice's part -/
def evP : CE → Env → St → R (Option Int)
  | .nil, _, st => .ok none st
  | .cons a _, ρ, st => (evE a ρ st).bind fun x st => (R.lift (optI x) st).bind fun i st => .ok (some i) st
  | _, _, _ => .bad
/-- a clause's test -/
def evC : CE → Env → St → R Bool
  | .nil, _, st => .ok true st
  | .cons a _, ρ, st => evT a ρ st
  | _, _, _ => .bad
/-- a test -/
def evT : CE → Env → St → R Bool
  | .and a b, ρ, st => (evT a ρ st).bind fun k st => if k then evT b ρ st else .ok false st
  | .or a b, ρ, st => (evT a ρ st).bind fun k st => if k then .ok true st else evT b ρ st
  | .not a, ρ, st => (evT a ρ st).bind fun k st => .ok (!k) st
  | c, ρ, st => (evE c ρ st).bind fun x st => R.lift (tru x) st
/-- what is walked -/
def evI : CE → Env → St → R (List D)
  | .iseq a, ρ, st => (evE a ρ st).bind fun x st => R.lift (itD x) st
  | .irng a, ρ, st => (evE a ρ st).bind fun x st => (R.lift (optI x) st).bind fun j st => if -1000000 ≤ j ∧ j ≤ 1000000 then .ok (rngD 0 j.toNat) st else .bad
  | .irng2 a b, ρ, st => (evE a ρ st).bind fun x st => (R.lift (optI x) st).bind fun i st => (evE b ρ st).bind fun y st => (R.lift (optI y) st).bind fun j st =>
      if -1000000 ≤ i ∧ i ≤ 1000000 ∧ -1000000 ≤ j ∧ j ≤ 1000000 then .ok (rngD i (j - i).toNat) st else .bad
  | .ienum a, ρ, st => (evE a ρ st).bind fun x st => (R.lift (seqD x) st).bind fun xs st => .ok (enumD 0 xs) st
  | .izip a b, ρ, st => (evE a ρ st).bind fun x st => (evE b ρ st).bind fun y st => (R.lift (seqD x) st).bind fun xs st => (R.lift (seqD y) st).bind fun ys st => .ok (zipD xs ys) st
  | .ienz a b, ρ, st => (evE a ρ st).bind fun x st => (evE b ρ st).bind fun y st => (R.lift (seqD x) st).bind fun xs st => (R.lift (seqD y) st).bind fun ys st => .ok (enumD 0 (zipD xs ys)) st
  | _, _, _ => .bad
end
end
/-- several values at once; true: a list display that stays the block's own -/
def evO (G : Tell) : List Bool → CE → Env → St → R (List Sl)
  | [], .nil, _, st => .ok [] st
  | false :: fl, .cons a r, ρ, st => (evE G a ρ st).bind fun x st => (evO G fl r ρ st).bind fun xs st => .ok (.val x :: xs) st
  | true :: fl, .cons (.lst es) r, ρ, st => (evA G es ρ st).bind fun ys st => if ys.length ≤ line then (evO G fl r ρ st).bind fun xs st => .ok (.own ys :: xs) st else .bad
  | _, _, _, _ => .bad
def setSls (ρ : Env) : List Nat → List Sl → Env
  | i :: is, x :: xs => setSls (ρ.set i x) is xs
  | _, _ => ρ
/-- a statement's end -/
inductive RS where
  | nx (ρ : Env) (st : St) | ret (d : D) (st : St) | brk (ρ : Env) (st : St) | cnt (ρ : Env) (st : St) | exc (c : Nat) (d : List D) (ρ : Env) (st : St) | bad
namespace RS
def seq (r : RS) (f : Env → St → RS) : RS := match r with
  | nx ρ st => f ρ st
  | r => r
/-- behind an expression -/
def on {α : Type} (r : R α) (ρ : Env) (f : α → St → RS) : RS := match r with
  | .ok a st => f a st
  | .exc c d st => exc c d ρ st
  | .bad => bad
end RS
def forL (tg : CT) (body : Env → St → RS) : List D → Env → St → RS
  | [], ρ, st => .nx ρ st
  | x :: xs, ρ, st => match asgT tg x ρ st with
    | none => .bad
    | some (ρ1, st1) => match body ρ1 st1 with
      | .nx ρ2 st2 => forL tg body xs ρ2 st2
      | .cnt ρ2 st2 => forL tg body xs ρ2 st2
      | .brk ρ2 st2 => .nx ρ2 st2
      | r => r
def whlL (c : Env → St → R Bool) (body : Env → St → RS) : Nat → Env → St → RS
  | 0, _, _ => .bad
  | n + 1, ρ, st => RS.on (c ρ st) ρ fun k st => if k then match body ρ st with
      | .nx ρ2 st2 => whlL c body n ρ2 st2
      | .cnt ρ2 st2 => whlL c body n ρ2 st2
      | .brk ρ2 st2 => .nx ρ2 st2
      | r => r
    else .nx ρ st
def unx (ρ : Env) : Env := ρ.map fun | .exc => .no | s => s
def unsl (i : Nat) : RS → RS
  | .nx ρ st => .nx ((unx ρ).set i .no) st
  | .brk ρ st => .brk ((unx ρ).set i .no) st
  | .cnt ρ st => .cnt ((unx ρ).set i .no) st
  | .exc _ _ _ _ => .bad
  | r => r
def fuel : Nat := 100000
def evS (G : Tell) : CS → Env → St → RS
  | .nil, ρ, st => .nx ρ st
  | .cons s r, ρ, st => (evS G s ρ st).seq (evS G r)
  | .pass, ρ, st => .nx ρ st
  | .expr e, ρ, st => RS.on (evE G e ρ st) ρ fun _ st => .nx ρ st
  | .asg i e, ρ, st => RS.on (evE G e ρ st) ρ fun d st => .nx (setSl ρ i d) st
  | .par is fl es, ρ, st => RS.on (evO G fl es ρ st) ρ fun sl st => if sl.length = is.length then .nx (setSls ρ is sl) st else .bad
  | .asgt t e, ρ, st => RS.on (evE G e ρ st) ρ fun d st => match asgT t d ρ st with
      | some (ρ', st') => .nx ρ' st'
      | none => .bad
  | .sets o i e, ρ, st => RS.on (evE G e ρ st) ρ fun d st => RS.on (evE G o ρ st) ρ fun x st => RS.on (evE G i ρ st) ρ fun y st => match x, y with
      | .ref l, .int j => (match putSt st l j d with
        | some st' => .nx ρ st'
        | none => .bad)
      | _, _ => .bad
  | .app i e, ρ, st => match ρ[i]? with
      | some (.own xs) => if xs.length < line then RS.on (evE G e ρ st) ρ fun d st => .nx (ρ.set i (.own (xs ++ [d]))) st else .bad
      | _ => .bad
  | .frz i, ρ, st => match ρ[i]? with
      | some (.own xs) => .nx (ρ.set i (.val (.lst xs))) st
      | _ => .bad
  | .ite c a b, ρ, st => RS.on (evT G c ρ st) ρ fun k st => if k then evS G a ρ st else evS G b ρ st
  | .for_ t it b, ρ, st => RS.on (evI G it ρ st) ρ fun xs st => forL t (evS G b) xs ρ st
  | .whl c b, ρ, st => whlL (evT G c) (evS G b) fuel ρ st
  | .ret e, ρ, st => RS.on (evE G e ρ st) ρ fun d st => .ret d st
  | .ret0, _, st => .ret .non st
  | .brk, ρ, st => .brk ρ st
  | .cnt, ρ, st => .cnt ρ st
  | .rse c as, ρ, st => RS.on (evA G as ρ st) ρ fun xs st => match G.fld c, xs with
      | some _, [x] => .exc c [x] ρ st
      | none, [] => .exc c [] ρ st
      | _, _ => .bad
  | .try_ b c i s, ρ, st => match evS G b ρ st with
      | .exc c' d ρ' st' => if G.sub c' c then unsl i (evS { G with ex := some (c', d) } s (ρ'.set i .exc) st') else .exc c' d ρ' st'
      | r => r
  | .never, _, _ => .bad

structure CDef where
  np : Nat
  sig : Nat
  n : Nat
  body : CS
structure CLam where
  np : Nat
  nc : Nat
  n : Nat
  body : CE
/-- an error class: its name; the field that it keeps (0: given, 1: index); whether it is the text's own; the classes above it -/
structure EC where
  nm : PySem.Str
  fld : Option Nat
  own : Bool
  up : List Nat
structure CProg where
  glos : List D
  defs : List CDef
  lams : List CLam
  ecs : List EC
def CProg.sub (P : CProg) (a b : Nat) : Bool := match P.ecs[a]? with
  | some e => e.up.contains b
  | none => false
def CProg.fld (P : CProg) (c : Nat) : Option Nat := match P.ecs[c]? with
  | some e => e.fld
  | none => none
def start (n : Nat) (xs : List D) : Env := xs.map .val ++ List.replicate (n - xs.length) .no
def outS : RS → R D
  | .nx _ st => .ok .non st
  | .ret d st => .ok d st
  | .exc c d _ st => .exc c d st
  | _ => .bad
def sigOf (P : CProg) (g : Nat) : Nat := match P.defs[g]? with
  | some d => d.sig
  | none => 0
mutual
def callF (P : CProg) : Nat → Nat → List D → St → R D
  | 0, _, _, _ => .bad
  | n + 1, g, xs, st => match P.defs[g]? with
    | none => .bad
    | some d => if xs.length = d.np then outS (evS ⟨callF P n, callC P n, none, P.sub, P.fld, sigOf P, fun j => P.glos[j]?⟩ d.body (start d.n xs) st) else .bad
def callC (P : CProg) : Nat → Nat → List D → List D → St → R D
  | 0, _, _, _, _ => .bad
  | n + 1, k, caps, xs, st => match P.lams[k]? with
    | none => .bad
    | some d => if xs.length = d.np ∧ caps.length = d.nc then evE ⟨callF P n, callC P n, none, P.sub, P.fld, sigOf P, fun j => P.glos[j]?⟩ d.body (start d.n (xs ++ caps)) st else .bad
end
def tell (P : CProg) (n : Nat) : Tell := ⟨callF P n, callC P n, none, P.sub, P.fld, sigOf P, fun j => P.glos[j]?⟩
end DV
end

section
set_option linter.all false
set_option maxRecDepth 100000
set_option maxHeartbeats 1000000
/-! DV1: what stands for a deep value; the state's relation; ends. -/
namespace DV
open PySem PySem.Spec PyProof.Rows L2

abbrev S8 (x : List Nat) : Str := ⟨x.toArray⟩
/-- a closure of the text: how its object is told -/
structure LamI where
  qual : Str
  params : Arguments
  body : Expr
  scope : Scope
  fr : List Str
/-- the exception that an except suite holds: its address, class, dict; its class's number, what it keeps -/
structure ExI where
  a : Addr
  cls : Value
  d : Option Addr
  c : Nat
  ds : List D
/-- what of the program the relation speaks of -/
structure PC where
  prog : Program
  w : World
  P : CProg
  K : PySem.W.Frag
  fa : Nat → Addr
  ca : Nat → Value
  lamOk : Nat → LamI → Prop
  T : List (Addr × Str)
  sg : Nat → List Str
  exn : Option ExI
/-- the names of the fields -/
def fldN : Nat → Str
  | 0 => "given"
  | _ => "index"
/-- the same, an exception held -/
def PC.ex (C : PC) (e : Option ExI) : PC := { C with exn := e }
def LamO (f : Addr) (L : LamI) (cl : List (Str × Addr)) (c' : Addr) : HO := .ext fun h => ∃ (pm ctv : Value), h.get? f = some (PySem.W.kla_obj "<lambda>" L.qual L.params L.body L.scope cl pm c' ctv)
def CellO (c : Addr) (o : Obj) (v : V) : HO := .ext fun h => h.get? c = some o ∧ ∃ u, o.data = .cell (some u) ∧ RelV v u
/-- one of the captured cells -/
def inC (cl : List (Str × Addr)) (a : Addr) : Prop := ∃ y, cl.lookup y = some a
def keyD : Key → D
  | .inl i => .int i
  | .inr x => .str x.cps.toList
/-- a tuple whose object is known to have no dict of its own -/
def TupS (K : PySem.W.Frag) (F : Hp) (a : Addr) (xs : List V) : Prop :=
  (∃ o, F a = some (.frz o (.tup xs)) ∧ o.dict = none) ∨ ∃ (o : Obj) (its : Array Value) (n : Nat), K.lookup a = some o ∧ o.cls = .type "tuple" ∧ o.dict = none ∧ o.data = .seq its n ∧ its.size ≤ sizeLine ∧ Vals xs its.toList
theorem TupS.sqT {K : PySem.W.Frag} {F H : Hp} {a : Addr} {xs : List V} (h : TupS K F a xs) (sub : ∀ a o, F a = some o → H a = some o) : SqT K H a xs := by
  rcases h with ⟨o, e, _⟩ | ⟨o, its, n, h1, h2, _, h4, h5, h6⟩
  · exact .inl (.inr ⟨o, sub _ _ e⟩)
  · exact .inr ⟨o, its, n, h1, h2, h4, h5, h6⟩
theorem TupS.mono {K : PySem.W.Frag} {F H : Hp} {a : Addr} {xs : List V} (h : TupS K F a xs) (sub : ∀ a o, F a = some o → H a = some o) : TupS K H a xs := by
  rcases h with ⟨o, e, n⟩ | h
  · exact .inl ⟨o, sub _ _ e, n⟩
  · exact .inr h
/-- .. its object -/
theorem TupS.obj {X : Cx} {pins : List (Addr × Obj)} {σ : L2.St} {F H : Hp} {s : Shared} {a : Addr} {xs : List V} (I : L2.Inv X pins σ H s) (h : TupS X.K F a xs) (sub : ∀ a o, F a = some o → H a = some o) :
    ∃ o its n, s.heap.get? a = some o ∧ o.cls = .type "tuple" ∧ o.dict = none ∧ o.data = .seq its n ∧ its.size ≤ sizeLine ∧ Vals xs its.toList := by
  rcases h with ⟨o, e, hd⟩ | ⟨o, its, n, h1, h2, h3, h4, h5, h6⟩
  · obtain ⟨e1, e2⟩ := (show ObjOk X.prog X.w H s.heap a (.frz o (.tup xs)) from I.hok a _ (sub _ _ e))
    obtain ⟨z, its, r, o', h1, h2, n, h3⟩ := (show ObjOk X.prog X.w H s.heap a (.tup xs) from e2)
    rw [e1] at h1; cases h1
    exact ⟨o, its.toArray, n, e1, h2, hd, h3, by rw [List.size_toArray, ← r.length]; exact z, by simpa using r⟩
  · exact ⟨o, its, n, I.kIn a o h1, h2, h3, h4, h5, h6⟩
/-- the dict whose keys are tuples, as its object tells it -/
def DTObj (C : PC) (a : Addr) (o : Obj) (xs : List (List Key × Addr × Value)) : Prop := (a == sysModules) = false ∧ o.ExactDict ∧ (∃ es ep, o.data = .dict es ep ∧ es.toList = xs.map (entryOfKey (tupleKind (mixKind C.prog C.w)))) ∧ (xs.map (·.1)).Nodup
open Classical in
noncomputable def minus (F : Hp) (cl : List (Str × Addr)) : Hp := fun a => if inC cl a then none else F a
mutual
inductive Rep (C : PC) : Hp → List Addr → V → D → Prop
  | non {F μ} : Rep C F μ .non .non
  | bl {F μ} (b : Bool) : Rep C F μ (.bl b) (.bl b)
  | int {F μ} (i : Int) : Rep C F μ (.int i) (.int i)
  | str {F μ} (x : List Nat) : Rep C F μ (.str (S8 x)) (.str x)
  | tup {F μ a vs ds} : TupS C.K F a vs → Reps C F μ vs ds → Rep C F μ (.ref a) (.tup ds)
  | lst {F μ a vs ds} : F a = some (.lst vs) → Reps C F μ vs ds → Rep C F μ (.ref a) (.lst ds)
  | fro {F μ a vs ds} : SqL C.K F a vs → Reps C F μ vs ds → Rep C F μ (.ref a) (.fro ds)
  | dK {F μ a kvs ds} : F a = some (.dK kvs) → Reps C F μ (kvs.map (·.2)) ds → Rep C F μ (.ref a) (.dic (kvs.map fun p => keyD p.1) ds)
  | dT {F μ a o xs vs ds} : F a = some (.frz o (.own 0)) → DTObj C a o xs → (∀ x ∈ xs, TupS C.K F x.2.1 (x.1.map kV)) → Vals vs (xs.map (·.2.2)) → Reps C F μ vs ds → Rep C F μ (.ref a) (.dic (xs.map fun p => .tup (p.1.map keyD)) ds)
  | ref {F μ a l} : μ[l]? = some a → Rep C F μ (.ref a) (.ref l)
  | fn {F μ} (g : Nat) : (∃ d, C.P.defs[g]? = some d) → Rep C F μ (.ref (C.fa g)) (.fn g)
  | clo {F μ f c' k L cl caps ws} : C.lamOk k L → F f = some (LamO f L cl c') → F c' = some (LamX.CodeO c' L.qual) → ws.length = L.fr.length →
      (∀ (i : Nat) (x : Str) (w : V), L.fr[i]? = some x → ws[i]? = some w → ∃ c o, cl.lookup x = some c ∧ F c = some (CellO c o w)) →
      (∀ x c, cl.lookup x = some c → ∃ o w, F c = some (CellO c o w)) → (∀ x y c, cl.lookup x = some c → cl.lookup y = some c → x = y) → Reps C (minus F cl) μ ws caps → Rep C F μ (.ref f) (.clo k caps)
inductive Reps (C : PC) : Hp → List Addr → List V → List D → Prop
  | nil {F μ} : Reps C F μ [] []
  | cons {F μ v vs d ds} : Rep C F μ v d → Reps C F μ vs ds → Reps C F μ (v :: vs) (d :: ds)
end
theorem sqT_mono {K : PySem.W.Frag} {F F' : Hp} {a : Addr} {xs : List V} (h : ∀ a o, F a = some o → F' a = some o) (r : SqT K F a xs) : SqT K F' a xs := by
  rcases r with (e | ⟨o, e⟩) | r
  · exact .inl (.inl (h _ _ e))
  · exact .inl (.inr ⟨o, h _ _ e⟩)
  · exact .inr r
theorem sqL_mono {K : PySem.W.Frag} {F F' : Hp} {a : Addr} {xs : List V} (h : ∀ a o, F a = some o → F' a = some o) (r : SqL K F a xs) : SqL K F' a xs := by
  rcases r with (e | ⟨o, e⟩) | r
  · exact .inl (.inl (h _ _ e))
  · exact .inl (.inr ⟨o, h _ _ e⟩)
  · exact .inr r
theorem minus_mono {F F' : Hp} {cs : List (Str × Addr)} (h : ∀ a o, F a = some o → F' a = some o) : ∀ a o, minus F cs a = some o → minus F' cs a = some o := fun a o e => by
  unfold minus at e ⊢
  by_cases q : inC cs a
  · rw [if_pos q] at e; cases e
  · rw [if_neg q] at e ⊢; exact h _ _ e
mutual
theorem Rep.mono {C : PC} : ∀ {F μ v d}, Rep C F μ v d → ∀ {F' : Hp} {μ' : List Addr}, (∀ a o, F a = some o → F' a = some o) → (∃ more, μ' = μ ++ more) → Rep C F' μ' v d
  | _, _, _, _, .non, _, _, _, _ => .non
  | _, _, _, _, .bl b, _, _, _, _ => .bl b
  | _, _, _, _, .int b, _, _, _, _ => .int b
  | _, _, _, _, .str b, _, _, _, _ => .str b
  | _, _, _, _, .tup s r, _, _, h, hm => .tup (s.mono h) (r.mono h hm)
  | _, _, _, _, .lst s r, _, _, h, hm => .lst (h _ _ s) (r.mono h hm)
  | _, _, _, _, .fro s r, _, _, h, hm => .fro (sqL_mono h s) (r.mono h hm)
  | _, _, _, _, .dK s r, _, _, h, hm => .dK (h _ _ s) (r.mono h hm)
  | _, _, _, _, .dT s t k v r, _, _, h, hm => .dT (h _ _ s) t (fun x hx => (k x hx).mono h) v (r.mono h hm)
  | _, _, _, _, .ref e, _, _, h, ⟨more, hm⟩ => .ref (by
      have hlt : _ < _ := (List.getElem?_eq_some_iff.mp e).1
      rw [hm, List.getElem?_append_left hlt]; exact e)
  | _, _, _, _, .fn g e, _, _, _, _ => .fn g e
  | _, _, _, _, .clo ok a b n c c2 ij r, _, _, h, hm => .clo ok (h _ _ a) (h _ _ b) n (fun i x w e1 e2 => let ⟨c0, o, z1, z2⟩ := c i x w e1 e2; ⟨c0, o, z1, h _ _ z2⟩) (fun x c0 e => let ⟨o, w, z⟩ := c2 x c0 e; ⟨o, w, h _ _ z⟩) ij
      (r.mono (minus_mono h) hm)
theorem Reps.mono {C : PC} : ∀ {F μ vs ds}, Reps C F μ vs ds → ∀ {F' : Hp} {μ' : List Addr}, (∀ a o, F a = some o → F' a = some o) → (∃ more, μ' = μ ++ more) → Reps C F' μ' vs ds
  | _, _, _, _, .nil, _, _, _, _ => .nil
  | _, _, _, _, .cons a r, _, _, h, hm => .cons (a.mono h hm) (r.mono h hm)
end
section
variable {C : PC} {F : Hp} {μ : List Addr}
theorem Reps.length : ∀ {vs ds}, Reps C F μ vs ds → vs.length = ds.length
  | _, _, .nil => rfl
  | _, _, .cons _ r => by simp [r.length]
theorem Reps.append : ∀ {vs ds ws es}, Reps C F μ vs ds → Reps C F μ ws es → Reps C F μ (vs ++ ws) (ds ++ es)
  | _, _, _, _, .nil, s => s
  | _, _, _, _, .cons a r, s => .cons a (r.append s)
theorem Reps.get : ∀ {vs ds} {i : Nat} {d}, Reps C F μ vs ds → ds[i]? = some d → ∃ v, vs[i]? = some v ∧ Rep C F μ v d
  | _, _, _, _, .nil, e => by simp at e
  | _, _, 0, _, .cons a _, e => by simp at e; subst e; exact ⟨_, rfl, a⟩
  | _, _, i + 1, _, .cons _ r, e => by simpa using r.get (i := i) (by simpa using e)
theorem Reps.getV : ∀ {vs ds} {i : Nat} {v}, Reps C F μ vs ds → vs[i]? = some v → ∃ d, ds[i]? = some d ∧ Rep C F μ v d
  | _, _, _, _, .nil, e => by simp at e
  | _, _, 0, _, .cons a _, e => by simp at e; subst e; exact ⟨_, rfl, a⟩
  | _, _, i + 1, _, .cons _ r, e => by simpa using r.getV (i := i) (by simpa using e)
theorem Reps.take : ∀ {vs ds} (n : Nat), Reps C F μ vs ds → Reps C F μ (vs.take n) (ds.take n)
  | _, _, 0, _ => by simpa using .nil
  | _, _, _ + 1, .nil => .nil
  | _, _, n + 1, .cons a r => .cons a (r.take n)
theorem Reps.drop : ∀ {vs ds} (n : Nat), Reps C F μ vs ds → Reps C F μ (vs.drop n) (ds.drop n)
  | _, _, 0, r => r
  | _, _, _ + 1, .nil => .nil
  | _, _, n + 1, .cons _ r => r.drop n
theorem Reps.set : ∀ {vs ds} (j : Nat) {v d}, Rep C F μ v d → Reps C F μ vs ds → Reps C F μ (vs.set j v) (ds.set j d)
  | _, _, _, _, _, _, .nil => .nil
  | _, _, 0, _, _, q, .cons _ r => .cons q r
  | _, _, j + 1, _, _, q, .cons a r => .cons a (r.set j q)
theorem Reps.flat : ∀ {vs ds} (k : Nat), Reps C F μ vs ds → Reps C F μ (List.replicate k vs).flatten (List.replicate k ds).flatten
  | _, _, 0, _ => .nil
  | _, _, k + 1, r => by
    rw [List.replicate_succ, List.replicate_succ, List.flatten_cons, List.flatten_cons]
    exact r.append (r.flat k)
end
/-- the ghost: what stands still, the store's cells -/
structure GW where
  F : Hp
  μ : List Addr
abbrev RepW (C : PC) (W : GW) (v : V) (d : D) : Prop := Rep C W.F W.μ v d
abbrev RepsW (C : PC) (W : GW) (vs : List V) (ds : List D) : Prop := Reps C W.F W.μ vs ds
/-- the tables of code objects; those that they tell stand still -/
def TabsW (T : List (Addr × Str)) (W : GW) (H : Hp) : Prop := ∀ p ∈ T, ∃ ps : Array Value, H p.1 = some (.tbl ps) ∧ TriplesOk ps.toList ∧ ∀ (pos : Pos) (cv : Value), codeAmong pos ps.toList = some cv → ∃ c, cv = .ref c ∧ W.F c = some (LamX.CodeO c p.2)
theorem TabsW.mono {T : List (Addr × Str)} {W W' : GW} {H H' : Hp} (t : TabsW T W H) (k : ∀ a ps, H a = some (.tbl ps) → H' a = some (.tbl ps)) (f : ∀ a o, W.F a = some o → W'.F a = some o) : TabsW T W' H' := fun p hp => by
  obtain ⟨ps, h1, h2, h3⟩ := t p hp
  exact ⟨ps, k _ _ h1, h2, fun pos cv q => let ⟨c, e1, e2⟩ := h3 pos cv q; ⟨c, e1, f _ _ e2⟩⟩
structure MemOk (C : PC) (W : GW) (st : St) (H : Hp) : Prop where
  sub : ∀ a o, W.F a = some o → H a = some o
  len : W.μ.length = st.length
  cell : ∀ (l : Nat) a xs, W.μ[l]? = some a → st[l]? = some xs → ∃ vs, H a = some (.lst vs) ∧ RepsW C W vs xs
  nd : W.μ.Nodup
  nf : ∀ a ∈ W.μ, W.F a = none
  nt : ∀ a ps, W.F a ≠ some (.tbl ps)
  tab : TabsW C.T W H
structure Grow (W : GW) (H : Hp) (W' : GW) (H' : Hp) : Prop where
  fr : ∀ a o, W.F a = some o → W'.F a = some o
  fn : ∀ a o, W'.F a = some o → W.F a = some o ∨ H a = none
  mu : ∃ more, W'.μ = W.μ ++ more ∧ ∀ a ∈ more, H a = none
  kp : ∀ a o, H a = some o → a ∉ W.μ → (∀ ps, o ≠ .tbl ps) → H' a = some o
  al : ∀ a, H' a = none → H a = none
theorem Grow.refl (W : GW) (H : Hp) : Grow W H W H := ⟨fun _ _ e => e, fun _ _ e => .inl e, ⟨[], by simp⟩, fun _ _ e _ _ => e, fun _ e => e⟩
theorem Grow.trans {W W1 W2 : GW} {H H1 H2 : Hp} (a : Grow W H W1 H1) (b : Grow W1 H1 W2 H2) : Grow W H W2 H2 where
  fr := fun x o e => b.fr x o (a.fr x o e)
  fn := fun x o e => by
    rcases b.fn x o e with q | q
    · exact a.fn x o q
    · exact .inr (a.al x q)
  mu := by
    obtain ⟨m, e, n⟩ := a.mu
    obtain ⟨m', e', n'⟩ := b.mu
    refine ⟨m ++ m', by rw [e', e, List.append_assoc], fun x hx => ?_⟩
    rcases List.mem_append.mp hx with h | h
    · exact n x h
    · exact a.al x (n' x h)
  kp := fun x o e hx ht => by
    refine b.kp x o (a.kp x o e hx ht) (fun z => ?_) ht
    obtain ⟨m, em, n⟩ := a.mu
    rw [em] at z
    rcases List.mem_append.mp z with h | h
    · exact hx h
    · rw [n x h] at e; cases e
  al := fun x e => a.al x (b.al x e)
theorem Grow.rep {C : PC} {W W' : GW} {H H' : Hp} (g : Grow W H W' H') {v : V} {d : D} (r : RepW C W v d) : RepW C W' v d := r.mono g.fr (let ⟨m, e, _⟩ := g.mu; ⟨m, e⟩)
theorem Grow.reps {C : PC} {W W' : GW} {H H' : Hp} (g : Grow W H W' H') {v : List V} {d : List D} (r : RepsW C W v d) : RepsW C W' v d := r.mono g.fr (let ⟨m, e, _⟩ := g.mu; ⟨m, e⟩)
/-- an error in the air stands for class c with what it keeps -/
def ExRep (C : PC) (W : GW) (cls : Value) (dd : Option Addr) (c : Nat) (ds : List D) : Prop :=
  (cls = C.ca c ∧ ∃ ec, C.P.ecs[c]? = some ec ∧ ec.own = true) ∧ match ds with
    | [] => C.P.fld c = none ∧ dd = none
    | [d] => ∃ f a w, C.P.fld c = some f ∧ dd = some a ∧ W.F a = some (.xd [(fldN f, w)]) ∧ RepW C W w d
    | _ => False
theorem ExRep.grow {C : PC} {W W' : GW} {H H' : Hp} (g : Grow W H W' H') {cls : Value} {dd : Option Addr} {c : Nat} {ds : List D} (h : ExRep C W cls dd c ds) : ExRep C W' cls dd c ds := by
  obtain ⟨e, h⟩ := h
  refine ⟨e, ?_⟩
  match ds, h with
  | [], h => exact h
  | [d], ⟨f, a, w, e0, e1, e2, r⟩ => exact ⟨f, a, w, e0, e1, g.fr _ _ e2, g.rep r⟩
/-- a slot that holds the exception -/
def ExSl (C : PC) (W : GW) (v : Option V) : Prop := ∃ e, C.exn = some e ∧ v = some (V.ref e.a) ∧ ExRep C W e.cls e.d e.c e.ds
theorem ExRep.step {C : PC} {W W' : GW} (fr : ∀ a o, W.F a = some o → W'.F a = some o) (rp : ∀ v d, RepW C W v d → RepW C W' v d) {cls : Value} {dd : Option Addr} {c : Nat} {ds : List D} (h : ExRep C W cls dd c ds) : ExRep C W' cls dd c ds := by
  obtain ⟨e, h⟩ := h
  refine ⟨e, ?_⟩
  match ds, h with
  | [], h => exact h
  | [d], ⟨f, a, w, e0, e1, e2, r⟩ => exact ⟨f, a, w, e0, e1, fr _ _ e2, rp _ _ r⟩
theorem ExSl.step {C : PC} {W W' : GW} (fr : ∀ a o, W.F a = some o → W'.F a = some o) (rp : ∀ v d, RepW C W v d → RepW C W' v d) {v : Option V} (h : ExSl C W v) : ExSl C W' v := let ⟨e, a, b, c⟩ := h; ⟨e, a, b, c.step fr rp⟩
theorem ExSl.grow {C : PC} {W W' : GW} {H H' : Hp} (g : Grow W H W' H') {v : Option V} (h : ExSl C W v) : ExSl C W' v := let ⟨e, a, b, c⟩ := h; ⟨e, a, b, c.grow g⟩
/-- the slots: what each holds; fresh: what an own list's address must be -/
structure Sls (C : PC) (W : GW) (N0 : Addr → Prop) (σ : L2.St) (ρ : Env) (H : Hp) : Prop where
  len : σ.length = ρ.length
  val : ∀ (i : Nat) d, ρ[i]? = some (.val d) → ∃ v, σ[i]? = some (some v) ∧ RepW C W v d
  own : ∀ (i : Nat) xs, ρ[i]? = some (.own xs) → ∃ a vs, σ[i]? = some (some (.ref a)) ∧ H a = some (.lst vs) ∧ RepsW C W vs xs ∧ W.F a = none ∧ a ∉ W.μ ∧ N0 a
  dis : ∀ (i j : Nat) xs ys a, ρ[i]? = some (.own xs) → ρ[j]? = some (.own ys) → σ[i]? = some (some (.ref a)) → σ[j]? = some (some (.ref a)) → i = j
  exc : ∀ (i : Nat), ρ[i]? = some .exc → ∃ v, σ[i]? = some v ∧ ExSl C W v
theorem Sls.grow {C : PC} {W W' : GW} {H H' : Hp} {N0 : Addr → Prop} {σ : L2.St} {ρ : Env} (s : Sls C W N0 σ ρ H) (g : Grow W H W' H') : Sls C W' N0 σ ρ H' where
  len := s.len
  val := fun i d e => let ⟨v, a, b⟩ := s.val i d e; ⟨v, a, g.rep b⟩
  own := fun i xs e => by
    obtain ⟨a, vs, e1, e2, r, nf, nm, n0⟩ := s.own i xs e
    refine ⟨a, vs, e1, g.kp a _ e2 nm (fun _ z => nomatch z), g.reps r, ?_, ?_, n0⟩
    · cases q : W'.F a with
      | none => rfl
      | some o =>
        rcases g.fn a o q with z | z
        · rw [nf] at z; cases z
        · rw [e2] at z; cases z
    · obtain ⟨m, em, n⟩ := g.mu
      rw [em]
      intro z
      rcases List.mem_append.mp z with h | h
      · exact nm h
      · rw [n a h] at e2; cases e2
  dis := s.dis
  exc := fun i e => let ⟨v, a, b⟩ := s.exc i e; ⟨v, a, b.grow g⟩
/-- an expression's end: each way leads on -/
def Post {α β : Type} (C : PC) (rel : GW → β → α → Prop) (r : R α) (W : GW) (H : Hp) (Q : β → Hp → Prop) (E : Value → Option Addr → Hp → Prop) : Prop :=
  match r with
  | .ok a st' => ∀ b H' W', Grow W H W' H' → MemOk C W' st' H' → rel W' b a → Q b H'
  | .exc c ds st' => ∀ cls dd H' W', Grow W H W' H' → MemOk C W' st' H' → ExRep C W' cls dd c ds → E cls dd H'
  | .bad => False
section
variable {C : PC} {α β γ δ : Type} {rel : GW → β → α → Prop} {rel2 : GW → δ → γ → Prop} {W : GW} {H : Hp} {E : Value → Option Addr → Hp → Prop}
theorem Post.grow {r : R α} {W1 : GW} {H1 : Hp} {Q : β → Hp → Prop} (h : Post C rel r W H Q E) (g : Grow W H W1 H1) : Post C rel r W1 H1 Q E := by
  cases r with
  | ok a st => exact fun b H' W' g' m q => h b H' W' (g.trans g') m q
  | exc c ds st => exact fun cls dd H' W' g' m q => h cls dd H' W' (g.trans g') m q
  | bad => exact h
theorem Post.bind {r : R α} {f : α → St → R γ} {Q : δ → Hp → Prop} (h : Post C rel2 (r.bind f) W H Q E) :
    Post C rel r W H (fun b H1 => ∃ W1 a st1, Grow W H W1 H1 ∧ MemOk C W1 st1 H1 ∧ rel W1 b a ∧ Post C rel2 (f a st1) W1 H1 Q E) E := by
  cases r with
  | ok a st => exact fun b H' W' g m q => ⟨W', a, st, g, m, q, Post.grow (r := f a st) h g⟩
  | exc c ds st => exact h
  | bad => exact h
theorem Post.imp {r : R α} {Q Q' : β → Hp → Prop} (h : Post C rel r W H Q E) (k : ∀ b H, Q b H → Q' b H) : Post C rel r W H Q' E := by
  cases r with
  | ok a st => exact fun b H' W' g m q => k _ _ (h b H' W' g m q)
  | exc c ds st => exact h
  | bad => exact h
theorem Post.okI {a : α} {st : St} {Q : β → Hp → Prop} {b : β} (h : Post C rel (.ok a st) W H Q E) (m : MemOk C W st H) (r : rel W b a) : Q b H := h b H W (Grow.refl W H) m r
/-- an option: only some can be -/
theorem Post.lift {o : Option α} {st : St} {Q : β → Hp → Prop} (h : Post C rel (R.lift o st) W H Q E) : ∃ a, o = some a ∧ Post C rel (.ok a st) W H Q E := by
  cases o with
  | none => exact h.elim
  | some a => exact ⟨a, rfl, h⟩
theorem Post.bindLift {o : Option α} {st : St} {f : α → St → R γ} {Q : δ → Hp → Prop} (h : Post C rel2 ((R.lift o st).bind f) W H Q E) : ∃ a, o = some a ∧ Post C rel2 (f a st) W H Q E := by
  cases o with
  | none => exact h.elim
  | some a => exact ⟨a, rfl, h⟩
end
/-! ### readings -/
abbrev WX' := Value → Option Addr → L2.St → Hp → Prop
/-- the state stands for (ρ, st) -/
def Now (C : PC) (N0 : Addr → Prop) (W : GW) (ρ : Env) (st : St) (σ : L2.St) (H : Hp) : Prop := MemOk C W st H ∧ Sls C W N0 σ ρ H
def tE (C : PC) (Wx : WX') (f : Env → St → R D) : TE := fun σ H Q => ∃ N0 W ρ st, Now C N0 W ρ st σ H ∧ Post C (RepW C) (f ρ st) W H Q (fun cls dd H' => Wx cls dd σ H')
def tA (C : PC) (Wx : WX') (f : Env → St → R (List D)) : TA := fun σ H Q => ∃ N0 W ρ st, Now C N0 W ρ st σ H ∧ Post C (RepsW C) (f ρ st) W H Q (fun cls dd H' => Wx cls dd σ H')
def tT (C : PC) (Wx : WX') (f : Env → St → R Bool) : TT := fun σ H Q => ∃ N0 W ρ st, Now C N0 W ρ st σ H ∧ Post C (fun _ (b a : Bool) => b = a) (f ρ st) W H Q (fun cls dd H' => Wx cls dd σ H')
def tP (C : PC) (Wx : WX') (f : Env → St → R (Option Int)) : TO := fun σ H Q => ∃ N0 W ρ st, Now C N0 W ρ st σ H ∧ Post C (fun _ (b a : Option Int) => b = a) (f ρ st) W H Q (fun cls dd H' => Wx cls dd σ H')
theorem Now.grow {C : PC} {N0 : Addr → Prop} {W W' : GW} {ρ : Env} {st st' : St} {σ : L2.St} {H H' : Hp} (n : Now C N0 W ρ st σ H) (g : Grow W H W' H') (m : MemOk C W' st' H') : Now C N0 W' ρ st' σ H' := ⟨m, n.2.grow g⟩
theorem _root_.L2.PE.imp {X : Cx} {e : Expr} {t t' : TE} (h : PE X e t) (k : ∀ σ H Q, t' σ H Q → t σ H Q) : PE X e t' := ⟨fun pins s σ H Q I q => h.run pins s σ H Q I (k σ H Q q)⟩
theorem _root_.L2.PT.imp {X : Cx} {e : Expr} {t t' : TT} (h : PT X e t) (k : ∀ σ H Q, t' σ H Q → t σ H Q) : PT X e t' := ⟨fun pins s σ H Q I q => h.run pins s σ H Q I (k σ H Q q)⟩
theorem _root_.L2.PW.imp {X : Cx} {e : Expr} {t t' : TT} (h : PW X e t) (k : ∀ σ H Q, t' σ H Q → t σ H Q) : PW X e t' := ⟨fun w pins s σ H Q I q => h.run w pins s σ H Q I (k σ H Q q)⟩
theorem _root_.L2.PA.imp {X : Cx} {e : List Expr} {t t' : TA} (h : PA X e t) (k : ∀ σ H Q, t' σ H Q → t σ H Q) : PA X e t' := ⟨fun p pins s σ H Q I q => h.run p pins s σ H Q I (k σ H Q q)⟩
theorem _root_.L2.PS.imp {X : Cx} {e : Stmt} {t t' : TS} (h : PS X e t) (k : ∀ D σ H, t' D σ H → t D σ H) : PS X e t' := ⟨fun pins s σ H D I q => h.run pins s σ H D I (k D σ H q)⟩
theorem _root_.L2.PSs.imp {X : Cx} {e : List Stmt} {t t' : TS} (h : PSs X e t) (k : ∀ D σ H, t' D σ H → t D σ H) : PSs X e t' := ⟨fun pins s σ H D I q => h.run pins s σ H D I (k D σ H q)⟩
theorem _root_.L2.PO.imp {X : Cx} {e : Option Expr} {t t' : TO} (h : PO X e t) (k : ∀ σ H Q, t' σ H Q → t σ H Q) : PO X e t' := ⟨fun pins s σ H Q I q => h.run pins s σ H Q I (k σ H Q q)⟩
theorem _root_.L2.PI.imp {X : Cx} {tg e : Expr} {t t' : TI} (h : PI X tg e t) (k : ∀ σ H Q, t' σ H Q → t σ H Q) : PI X tg e t' := ⟨fun pins s σ H Q I q => h.run pins s σ H Q I (k σ H Q q)⟩
/-! ### laying a new object -/
theorem MemOk.lay {C : PC} {W : GW} {st : St} {H : Hp} {p : Addr} {o : HO} (m : MemOk C W st H) (hp : H p = none) (ht : ∀ ps, o ≠ .tbl ps) : ∃ W', Grow W H W' (upd H p o) ∧ MemOk C W' st (upd H p o) ∧ W'.F p = some o := by
  have nF : W.F p = none := by
    cases q : W.F p with
    | none => rfl
    | some z => rw [m.sub _ _ q] at hp; cases hp
  have hne : ∀ {a : Addr} {z : HO}, H a = some z → a ≠ p := fun e z => by rw [z, hp] at e; cases e
  have g : Grow W H ⟨upd W.F p o, W.μ⟩ (upd H p o) := {
    fr := fun a z e => by
      show upd W.F p o a = some z
      rw [upd_ne (fun q => by rw [q, nF] at e; cases e)]; exact e
    fn := fun a z e => by
      by_cases q : a = p
      · exact .inr (q ▸ hp)
      · exact .inl (by rw [← e]; exact (upd_ne q).symm)
    mu := ⟨[], by simp⟩
    kp := fun a z e _ _ => by rw [upd_ne (hne e)]; exact e
    al := fun a e => by
      by_cases q : a = p
      · exact q ▸ hp
      · rw [← e]; exact (upd_ne q).symm }
  refine ⟨⟨upd W.F p o, W.μ⟩, g, ⟨fun a z e => ?_, m.len, fun l a xs e1 e2 => ?_, m.nd, fun a ha => ?_, fun a ps => ?_, m.tab.mono (fun b z e => ?_) g.fr⟩, upd_same⟩
  · by_cases q : a = p
    · subst q; simp only [upd_same] at e ⊢; exact e
    · have e' : W.F a = some z := by rw [← e]; exact (upd_ne q).symm
      rw [upd_ne q]; exact m.sub _ _ e'
  · obtain ⟨vs, z, r⟩ := m.cell l a xs e1 e2
    exact ⟨vs, by rw [upd_ne (hne z)]; exact z, g.reps r⟩
  · obtain ⟨l, hl, e⟩ := List.getElem_of_mem ha
    have e1 : W.μ[l]? = some a := by rw [List.getElem?_eq_getElem hl, e]
    have hl2 : l < st.length := m.len ▸ hl
    obtain ⟨vs, z, _⟩ := m.cell l a st[l] e1 (List.getElem?_eq_getElem hl2)
    show upd W.F p o a = none
    rw [upd_ne (hne z)]; exact m.nf a ha
  · by_cases q : a = p
    · subst q; simp only [upd_same]; intro z; exact ht ps (Option.some.inj z)
    · show upd W.F p o a ≠ _
      rw [upd_ne q]; exact m.nt a ps
  · rw [upd_ne (hne e)]; exact e
end DV
end

section
set_option linter.all false
set_option maxRecDepth 100000
set_option maxHeartbeats 1000000
/-! DVT: new tuples, their objects known. -/
namespace DV
open PySem PySem.Spec PyProof.Rows L2
/-- the tuple that was just laid -/
abbrev fz (o : Obj) (xs : List V) : HO := .frz o (.tup xs)
/-- what follows a new tuple -/
def NewT (xs : List V) (H : Hp) (Q : VK) : Prop := ∀ p o, H p = none → o.dict = none → Q (.ref p) (upd H p (fz o xs))
section
variable {X : Cx} {pins : List (Addr × Obj)} {σ : L2.St} {H : Hp} {s : Shared} {h' : Heap}
theorem laidT {xs : List V} {its : List Value} {Q : VK} {t' : Nat} (I : L2.Inv X pins σ H s) (kp : ∀ b u, s.heap.get? b = some u → h'.get? b = some u) (r : Vals xs its) (hz : xs.length ≤ sizeLine) (q : NewT xs H Q) (hs : s.heap.objs.size ≤ h'.objs.size) :
    EP X pins σ Q (.ref h'.objs.size) { s with heap := h'.push { cls := .type "tuple", data := .seq its.toArray }, toks := t' } := by
  have hn : H h'.objs.size = none := I.hok.fresh hs
  refine ⟨.ref h'.objs.size, upd H h'.objs.size (fz { cls := .type "tuple", data := .seq its.toArray } xs), I.laid (t' := t') (fun b o e => Heap.get?_push_of_some _ (kp b o e)) hs ?_, rfl, q _ _ hn rfl⟩
  exact ⟨Heap.get?_push_size _ rfl, (show ObjOk X.prog X.w _ _ _ (.tup xs) from ⟨hz, its, r, IsTup.new _ _⟩)⟩
theorem laidT0 {xs : List V} {its : List Value} {Q : VK} {t' : Nat} (I : L2.Inv X pins σ H s) (r : Vals xs its) (hz : xs.length ≤ sizeLine) (q : NewT xs H Q) :
    EP X pins σ Q (.ref s.heap.objs.size) { s with heap := s.heap.push { cls := .type "tuple", data := .seq its.toArray }, toks := t' } := laidT I (fun _ _ e => e) r hz q (Nat.le_refl _)
end
section
variable {X : Cx} {es : List Expr} {t : TA} {pos : Pos}
def tTupF (t : TA) : TE := fun σ H Q => t σ H fun xs H1 => xs.length ≤ sizeLine ∧ NewT xs H1 Q
theorem pe_tupF {x1} (h : PA X es t) : PE X (.Tuple es x1 pos) (tTupF t) := by
  refine ⟨fun pins s σ H Q I hq => ?_⟩
  refine wpAny_Tuple_spliced (thn (h.run pos pins s σ H _ I hq) fun us s1 ⟨xs, H1, I1, r, z, q⟩ => ⟨by rw [← r.length]; exact z, ?_⟩)
  exact laidT0 (t' := s1.toks) I1 r z q
def rCatF (K : PySem.W.Frag) : R2 := fun x y H Q => ∃ a b xs ys, x = .ref a ∧ y = .ref b ∧ SqT K H a xs ∧ SqT K H b ys ∧ xs.length + ys.length ≤ sizeLine ∧
  (xs = [] → Q (.ref b) H) ∧ (xs ≠ [] → ys = [] → Q (.ref a) H) ∧ (xs ≠ [] → ys ≠ [] → NewT (xs ++ ys) H Q)
theorem op_catF : OpR X (binaryOp .Add) (rCatF X.K) := by
  intro pins s σ H x y v u Q I rx ry h
  obtain ⟨a, b, xs, ys, rfl, rfl, ha, hb, hz, q0, q1, q2⟩ := h
  cases rx
  cases ry
  obtain ⟨its, r1, p1, _⟩ := I.tuple ha
  obtain ⟨its2, r2, p2, _⟩ := I.tuple hb
  by_cases hx : xs = []
  · subst hx
    cases r1
    exact L2.cat_tup0 p1 p2 ⟨.ref b, H, I, rfl, q0 rfl⟩
  · have hl1 := r1.length
    have hl2 := r2.length
    refine HT.cat_tup p1 p2 (fun e => hx ((Vals.nil_iff r1).mp e)) (fun e => ⟨.ref a, H, I, rfl, q1 hx ((Vals.nil_iff r2).mp e)⟩) (fun e => ?_) (by omega)
    exact laidT0 (t' := s.toks) I (r1.append r2) (by rw [List.length_append]; exact hz) (q2 hx fun z => e ((Vals.nil_iff r2).mpr z))
def rSlF (K : PySem.W.Frag) : V → Option Int → Option Int → Hp → VK → Prop := fun x lo hi H Q => ∃ a xs, x = .ref a ∧ SqT K H a xs ∧
  (HT.sIx xs.length 0 lo = 0 ∧ HT.sIx xs.length xs.length hi = xs.length → Q (.ref a) H) ∧ (¬ (HT.sIx xs.length 0 lo = 0 ∧ HT.sIx xs.length xs.length hi = xs.length) → NewT (cutV xs lo hi) H Q)
theorem sl_tupF : SlR X (rSlF X.K) := by
  intro pins s σ H x v vl vu lo hi sl Q I rx hs pl pu h
  obtain ⟨a, xs, rfl, hx, q1, q2⟩ := h
  cases rx
  obtain ⟨its, r, ht, hz⟩ := I.tuple hx
  have hlen : its.toArray.size = xs.length := by rw [List.size_toArray]; exact r.length.symm
  by_cases hw : HT.sIx xs.length 0 lo = 0 ∧ HT.sIx xs.length xs.length hi = xs.length
  · refine ⟨"tuple", _, PyProof.Rows.slot_tuple_getitem.lookup, ht.typeIs, ?_⟩
    exact L2.getItem_tuple_whole ht hs pl pu (by rw [hlen]; exact hw) ⟨.ref a, H, I, rfl, q1 hw⟩
  · refine ⟨"tuple", _, PyProof.Rows.slot_tuple_getitem.lookup, ht.typeIs, ?_⟩
    refine HT.getItem_tuple_cut ht hs pl pu (by rw [hlen]; exact hw) ?_ (by rw [hlen]; exact hz)
    have := laidT0 (t' := s.toks) (its := (its.drop (HT.sIx xs.length 0 lo)).take (HT.sIx xs.length xs.length hi - HT.sIx xs.length 0 lo)) I ((r.drop _).take _) (Nat.le_trans (cutV_length xs lo hi) hz) (q2 hw)
    rw [hlen]
    simpa using this
def rRepF (K : PySem.W.Frag) : R2 := fun x y H Q => ∃ l k xs, x = .ref l ∧ y = .int k ∧ SqT K H l xs ∧ xs ≠ [] ∧ 2 ≤ k ∧ k ≤ 1000 ∧ xs.length ≤ 1000 ∧ NewT (List.replicate k.toNat xs).flatten H Q
theorem call_tuple_F : CallR X (.type "tuple") (fun xs H Q => ∃ p ys, xs = [.ref p] ∧ ((SqL X.K H p ys ∧ NewT ys H Q) ∨ (SqT X.K H p ys ∧ Q (.ref p) H))) := by
  intro pins s σ H xs us Q I r h
  obtain ⟨p, ys, rfl, h⟩ := h
  obtain ⟨u, rfl, rx⟩ := vals1 r
  cases rx
  rcases h with ⟨hq, q⟩ | ⟨hq, q⟩
  · obtain ⟨its, r', pl, hz⟩ := I.list hq
    have hlen := r'.length
    refine call_tuple_list pl.isList (fun h' kp => ?_) (by simp only [List.size_toArray] <;> omega)
    have I1 : L2.Inv X pins σ H { s with heap := h' } := I.kept (t' := s.toks) kp
    exact laidT0 (t' := s.toks) I1 r' hz q
  · obtain ⟨its, r', pl, hz⟩ := I.tuple hq
    exact call_tuple_same pl ⟨.ref p, H, I, rfl, q⟩
theorem call_divmodF : CallR X (.builtin "divmod") (fun xs H Q => ∃ i j, xs = [.int i, .int j] ∧ CDiv i j ∧ NewT [.int (i / j), .int (i % j)] H Q) := by
  intro pins s σ H xs us Q I r h
  obtain ⟨i, j, rfl, ⟨h1, h2⟩, q⟩ := h
  obtain ⟨u, w', rfl, ⟨t, rfl⟩, ⟨t', rfl⟩⟩ := vals2 r
  refine divmod_int (by omega) ?_ (.inl (PyProof.noPylong_small (by omega)))
  rw [Int.fdiv_eq_ediv_of_nonneg i (by omega), Int.fmod_eq_emod_of_nonneg i (by omega)]
  exact laidT0 (xs := [.int (i / j), .int (i % j)]) (its := [.int (i / j) s.toks, .int (i % j) (s.toks + 1)]) I (.cons ⟨_, rfl⟩ (.cons ⟨_, rfl⟩ .nil)) (by simp only [List.length_cons, List.length_nil]; rw [sizeLine_eq]; decide) q
theorem op_repF : OpR X (binaryOp .Mult) (rRepF X.K) := by
  intro pins s σ H x y v u Q I rx ry h
  obtain ⟨l, k, xs, rfl, rfl, hT, hne, h1, h2, hz, q⟩ := h
  cases rx
  obtain ⟨t, rfl⟩ := ry
  obtain ⟨its, r, ⟨⟨cls, dd, data, sl⟩, ho, hc, n, hd⟩, hs⟩ := I.tuple hT
  simp only at hc hd
  subst hc hd
  have hle : its.length = xs.length := r.length.symm
  have hn : its ≠ [] := fun e => hne (by
    rw [e] at hle
    exact List.eq_nil_of_length_eq_zero hle.symm)
  have hi : its.toArray.isEmpty = false := by
    cases its with
    | nil => exact absurd rfl hn
    | cons a b => rfl
  have hsz0 : its.toArray.size = xs.length := by rw [List.size_toArray, hle]
  have hm : ((its.toArray.size : Nat) : Int) * k ≤ 1000000 := by
    rw [hsz0]
    have a1 : ((xs.length : Nat) : Int) * k ≤ 1000 * k := Int.mul_le_mul_of_nonneg_right (by omega) (by omega)
    omega
  have flen : (List.replicate k.toNat its).flatten.length ≤ sizeLine := by
    rw [PyProof.Rows.lm_len_rep_flat, hle, sizeLine_eq]
    have a1 : k.toNat * xs.length ≤ 1000 * 1000 := Nat.mul_le_mul (by omega) hz
    omega
  have c0 : (decide (k < -(2 ^ 63)) || decide (k ≥ 2 ^ 63)) = false := by
    rw [decide_eq_false (by omega), decide_eq_false (by omega)] <;> rfl
  have c1 : (its.toArray.isEmpty || k == 1) = false := by
    rw [hi, Bool.false_or]
    exact beq_eq_false_iff_ne.mpr (by omega)
  have c2 : (decide (k ≤ 0) || its.toArray.isEmpty) = false := by
    rw [hi, Bool.or_false]
    exact decide_eq_false (by omega)
  have c4 : Builtin.Tuple.tupleTooMany (((its.toArray.size : Nat) : Int) * k) = false := by
    unfold Builtin.Tuple.tupleTooMany
    rw [sizeLine_eq]
    exact decide_eq_false (by omega)
  refine wpAny_binaryOp_repeat_ref (T := "tuple") (U := "int") (by decide) ⟨_, ho, rfl⟩ (fun s' => typeIs_int s' k t) noFill_tuple_mul F.fills_int_mul F.slot_int_rmul repeat_tuple F.slot_int_index.lookup
    (call_meets F.slot_int_rmul (typeIs_int s k t) F.entry_int_rmul (F.args_int_rmul_2 _ _) (int_rmul_tuple k t l its.toArray n dd sl)
      ⟨ho, rfl, ⟨_, ho, rfl⟩, call_meets F.slot_tuple_mul ⟨_, ho, rfl⟩ F.entry_tuple_mul (F.args_tuple_mul_2 _ _) (tuple_mulW l its.toArray n dd sl k t c0 c1 c2 (by omega) c4 (by rw [size_rep, List.size_toArray]; exact flen)) ⟨ho, ?_⟩⟩)
  rw [size_rep]
  exact laidT0 (t' := s.toks) I (r.rep k.toNat) (by rw [PyProof.Rows.lm_len_rep_flat, sizeLine_eq]; have a1 : k.toNat * xs.length ≤ 1000 * 1000 := Nat.mul_le_mul (by omega) hz; omega) q
end
end DV
end

section
set_option linter.all false
set_option maxRecDepth 100000
set_option maxHeartbeats 1000000
/-! DV2: operators, comparisons, subscripts by values. -/
namespace DV
open PySem PySem.Spec PyProof.Rows L2
section
variable {C : PC} {X : Cx}
def opOf : Bop → Operator
  | .add => .Add | .sub => .Sub | .mul => .Mult | .fdv => .FloorDiv | .mod => .Mod | .pow => .Pow | .shl => .LShift | .shr => .RShift | .and => .BitAnd | .or => .BitOr | .xor => .BitXor
def copOf : Cop → CmpOp
  | .eq => .Eq | .ne => .NotEq | .lt => .Lt | .le => .LtE | .gt => .Gt | .ge => .GtE | .is => .Is | .isn => .IsNot | .in_ => .In | .nin => .NotIn
/-- what two values and what is told of them lead to -/
def r2 (C : PC) (f : D → D → Option D) : R2 := fun x y H Q => ∃ W st a b d, MemOk C W st H ∧ RepW C W x a ∧ RepW C W y b ∧ f a b = some d ∧ ∀ v H' W', Grow W H W' H' → MemOk C W' st H' → RepW C W' v d → Q v H'
def r1 (C : PC) (f : D → Option D) : V → Hp → VK → Prop := fun x H Q => ∃ W st a d, MemOk C W st H ∧ RepW C W x a ∧ f a = some d ∧ ∀ v H' W', Grow W H W' H' → MemOk C W' st H' → RepW C W' v d → Q v H'
theorem line_eq : line = sizeLine := by rw [sizeLine_eq]; rfl
theorem s8_app (x y : List Nat) : S8 x ++ S8 y = S8 (x ++ y) := by
  show (⟨x.toArray ++ y.toArray⟩ : Str) = ⟨(x ++ y).toArray⟩
  congr 1
  simp
theorem s8_len (x : List Nat) : (S8 x).length = x.length := by show x.toArray.size = _; simp
theorem s8_list (x : List Nat) : (S8 x).cps.toList = x := by simp
theorem s8_of (z : Str) : S8 z.cps.toList = z := by cases z; simp [S8]
theorem s8_inj {x y : List Nat} (h : S8 x = S8 y) : x = y := by
  have := congrArg (fun z => z.cps.toList) h
  simpa using this
theorem s8_beq (x y : List Nat) : decide (V.str (S8 x) = V.str (S8 y)) = (x == y) := by
  by_cases e : x = y
  · subst e; simp
  · rw [decide_eq_false (fun q => e (s8_inj (V.str.inj q)))]
    exact (beq_eq_false_iff_ne.mpr e).symm
theorem rep_tupS {K : PySem.W.Frag} {F : Hp} {W : GW} {st : St} {H : Hp} {a : Addr} {xs : List V} (m : MemOk C W st H) (h : SqT C.K W.F a xs) : SqT C.K H a xs := sqT_mono m.sub h
theorem binT_ok (hK : X.K = C.K) (o : Bop) : OpR X (binaryOp (opOf o)) (r2 C (binD o)) := by
  intro pins s σ H x y v u Q I rx ry h
  obtain ⟨W, st, a, b, d, m, ra, rb, e, k⟩ := h
  have kk : ∀ {v d'}, d = d' → RepW C W v d' → Q v H := fun e r => k _ H W (Grow.refl W H) m (e ▸ r)
  have lay : ∀ {o' : HO} {p : Addr}, H p = none → (∀ ps, o' ≠ .tbl ps) → (∀ W', W'.F p = some o' → Grow W H W' (upd H p o') → RepW C W' (.ref p) d) → Q (.ref p) (upd H p o') := fun hp ht hr => by
    obtain ⟨W', g, m', e'⟩ := m.lay hp ht
    exact k _ _ W' g m' (hr W' e' g)
  cases o <;> cases a <;> cases b <;> simp only [binD] at e <;> try (cases e; done)
  -- add
  · cases ra; cases rb; cases e
    exact op_add pins s σ H _ _ v u Q I rx ry ⟨_, _, rfl, rfl, kk rfl (.int _)⟩
  · cases ra; cases rb
    split at e <;> cases e
    rename_i hl
    refine op_add_str pins s σ H _ _ v u Q I rx ry ⟨_, _, rfl, rfl, by rw [s8_len, s8_len, ← line_eq]; exact hl, ?_⟩
    rw [s8_app]
    exact kk rfl (.str _)
  · cases ra with
    | tup sa qa => cases rb with
      | tup sb qb =>
        split at e <;> cases e
        rename_i hl
        have l1 := qa.length
        have l2 := qb.length
        refine op_catF pins s σ H _ _ v u Q I rx ry ⟨_, _, _, _, rfl, rfl, by rw [hK]; exact sa.sqT m.sub, by rw [hK]; exact sb.sqT m.sub, by rw [← line_eq]; omega, fun e1 => ?_, fun e1 e2 => ?_, fun e1 e2 p o hp hd => ?_⟩
        · subst e1
          have : _ = [] := List.length_eq_zero_iff.mp (l1.symm)
          subst this
          exact kk rfl (.tup sb qb)
        · subst e2
          have : _ = [] := List.length_eq_zero_iff.mp (l2.symm)
          subst this
          rw [List.append_nil] at k kk
          exact kk rfl (.tup sa qa)
        · exact lay hp (fun _ z => nomatch z) fun W' e' g => .tup (.inl ⟨o, e', hd⟩) (g.reps (qa.append qb))
  · cases ra with
    | lst sa qa => cases rb with
      | lst sb qb =>
        split at e <;> cases e
        rename_i hl
        have l1 := qa.length
        have l2 := qb.length
        refine op_cat pins s σ H _ _ v u Q I rx ry ⟨_, _, _, _, rfl, rfl, m.sub _ _ sa, m.sub _ _ sb, by rw [← line_eq]; omega, fun p hp => ?_⟩
        exact lay hp (fun _ z => nomatch z) fun W' e' g => .lst e' (g.reps (qa.append qb))
  -- sub
  · cases ra; cases rb; cases e
    exact op_sub pins s σ H _ _ v u Q I rx ry ⟨_, _, rfl, rfl, kk rfl (.int _)⟩
  -- mul
  · cases ra; cases rb
    split at e <;> cases e
    rename_i hl
    unfold mulOk s64 at hl
    simp only [Bool.or_eq_true, Bool.and_eq_true, decide_eq_true_eq] at hl
    rcases hl with hl | hl
    · exact op_mul pins s σ H _ _ v u Q I rx ry ⟨_, _, rfl, rfl, hl, kk rfl (.int _)⟩
    · exact op_mulX pins s σ H _ _ v u Q I rx ry ⟨_, _, rfl, rfl, by unfold CMulX; unfold bits at hl; omega, kk rfl (.int _)⟩
  · cases ra with
    | tup sa qa => cases rb
                   split at e <;> cases e
                   rename_i hl
                   obtain ⟨h1, h2, h3, h4⟩ := hl
                   have l1 := qa.length
                   refine op_repF pins s σ H _ _ v u Q I rx ry ⟨_, _, _, rfl, rfl, by rw [hK]; exact sa.sqT m.sub, ?_, h2, h3, by omega, fun p o hp hd => ?_⟩
                   · intro z; subst z; exact h1 (List.length_eq_zero_iff.mp l1.symm)
                   · exact lay hp (fun _ z => nomatch z) fun W' e' g => .tup (.inl ⟨o, e', hd⟩) (g.reps (qa.flat _))
  · cases ra with
    | lst sa qa => cases rb
                   split at e <;> cases e
                   rename_i hl
                   obtain ⟨h2, h3, h4⟩ := hl
                   have l1 := qa.length
                   refine op_rep pins s σ H _ _ v u Q I rx ry ⟨_, _, _, rfl, rfl, m.sub _ _ sa, by omega, by omega, ?_, fun p hp => ?_⟩
                   · rw [← line_eq, l1]
                     exact Nat.le_trans (Nat.mul_le_mul h4 (show _ ≤ 1000 by omega)) (by decide)
                   · exact lay hp (fun _ z => nomatch z) fun W' e' g => .lst e' (g.reps (qa.flat _))
  -- fdv
  · cases ra; cases rb
    split at e <;> cases e
    rename_i hl
    obtain ⟨h1, h2 | h2⟩ := hl
    · exact op_fdiv pins s σ H _ _ v u Q I rx ry ⟨_, _, rfl, rfl, ⟨h1, h2⟩, kk rfl (.int _)⟩
    · exact op_fdivW pins s σ H _ _ v u Q I rx ry ⟨_, _, rfl, rfl, ⟨h1, h2⟩, kk rfl (.int _)⟩
  · cases ra; cases rb
    split at e <;> cases e
    rename_i hl
    exact op_mod pins s σ H _ _ v u Q I rx ry ⟨_, _, rfl, rfl, hl, kk rfl (.int _)⟩
  · cases ra; cases rb
    split at e <;> cases e
    rename_i hl
    exact op_pow pins s σ H _ _ v u Q I rx ry ⟨_, _, rfl, rfl, hl, kk rfl (.int _)⟩
  · cases ra; cases rb
    split at e <;> cases e
    rename_i hl
    exact op_shl pins s σ H _ _ v u Q I rx ry ⟨_, _, rfl, rfl, hl, kk rfl (.int _)⟩
  · cases ra; cases rb
    split at e <;> cases e
    rename_i hl
    exact op_shr pins s σ H _ _ v u Q I rx ry ⟨_, _, rfl, rfl, hl, kk rfl (.int _)⟩
  · cases ra; cases rb; cases e
    exact op_and pins s σ H _ _ v u Q I rx ry ⟨_, _, rfl, rfl, kk rfl (.int _)⟩
  · cases ra; cases rb; cases e
    exact op_or pins s σ H _ _ v u Q I rx ry ⟨_, _, rfl, rfl, kk rfl (.int _)⟩
  · cases ra; cases rb; cases e
    exact op_xor pins s σ H _ _ v u Q I rx ry ⟨_, _, rfl, rfl, kk rfl (.int _)⟩

/-! ### data -/
mutual
theorem rep_dp {F : Hp} {μ : List Addr} {H : Hp} (sub : ∀ a o, F a = some o → H a = some o) : ∀ (d : D) (v : V), dat d = true → Rep C F μ v d → Dp C.K H v (pyD d)
  | .non, _, _, .non => .non
  | .bl b, _, _, .bl _ => .bl b
  | .int i, _, _, .int _ => .int i
  | .str x, _, _, .str _ => .str _
  | .tup xs, _, h, .tup s r => .tup (s.sqT sub) (reps_dp sub xs _ (by simpa [dat] using h) r)
  | .lst xs, _, h, .lst s r => .lst (.inl (.inl (sub _ _ s))) (reps_dp sub xs _ (by simpa [dat] using h) r)
  | .fro _, _, h, _ => by simp [dat] at h
  | .dic _ _, _, h, _ => by simp [dat] at h
  | .ref _, _, h, _ => by simp [dat] at h
  | .fn _, _, h, _ => by simp [dat] at h
  | .clo _ _, _, h, _ => by simp [dat] at h
theorem reps_dp {F : Hp} {μ : List Addr} {H : Hp} (sub : ∀ a o, F a = some o → H a = some o) : ∀ (ds : List D) (vs : List V), dats ds = true → Reps C F μ vs ds → DpAll C.K H vs (pyDs ds)
  | [], _, _, .nil => .nil
  | d :: ds, _, h, .cons a r => by
    simp only [dats, Bool.and_eq_true] at h
    exact .cons (rep_dp sub d _ h.1 a) (reps_dp sub ds _ h.2 r)
end
mutual
theorem py_lay : ∀ d : D, dat d = true → (pyD d).canLay0 = true
  | .non, _ => by simp [pyD, PyData.canLay0]
  | .bl b, _ => by simp [pyD, PyData.canLay0]
  | .int i, _ => by simp [pyD, PyData.canLay0]
  | .str x, h => by simpa [pyD, PyData.canLay0, dat] using h
  | .tup xs, h => by
    simp only [pyD, PyData.canLay0]
    exact pys_lay xs (by simpa [dat] using h)
  | .lst xs, h => by
    simp only [pyD, PyData.canLay0]
    exact pys_lay xs (by simpa [dat] using h)
  | .fro _, h => by simp [dat] at h
  | .dic _ _, h => by simp [dat] at h
  | .ref _, h => by simp [dat] at h
  | .fn _, h => by simp [dat] at h
  | .clo _ _, h => by simp [dat] at h
theorem pys_lay : ∀ d : List D, dats d = true → PyData.canLayAll0 (pyDs d) = true
  | [], _ => by simp [pyDs, PyData.canLayAll0]
  | d :: ds, h => by
    simp only [dats, Bool.and_eq_true] at h
    simp only [pyDs, PyData.canLayAll0, Bool.and_eq_true]
    exact ⟨py_lay d h.1, pys_lay ds h.2⟩
end
mutual
theorem py_dep : ∀ d : D, (pyD d).depth ≤ dep d
  | .tup xs => by simp only [pyD, PyData.depth, dep]; have := pys_dep xs; omega
  | .lst xs => by simp only [pyD, PyData.depth, dep]; have := pys_dep xs; omega
  | .non => by simp [pyD, PyData.depth]
  | .bl b => by simp [pyD, PyData.depth]
  | .int i => by simp [pyD, PyData.depth]
  | .str x => by simp [pyD, PyData.depth]
  | .fro _ => by simp [pyD, PyData.depth]
  | .dic _ _ => by simp [pyD, PyData.depth]
  | .ref _ => by simp [pyD, PyData.depth]
  | .fn _ => by simp [pyD, PyData.depth]
  | .clo _ _ => by simp [pyD, PyData.depth]
theorem pys_dep : ∀ d : List D, PyData.depthAll (pyDs d) ≤ deps d
  | [] => by simp [pyDs, PyData.depthAll]
  | d :: ds => by
    have a := py_dep d
    have b := pys_dep ds
    simp only [pyDs, PyData.depthAll, deps]
    omega
end
theorem py_shaped {d : D} (h : shp d = true) : SeqAt.shaped (pyD d) = true := by
  simp only [shp, Bool.and_eq_true, decide_eq_true_eq] at h
  simp only [SeqAt.shaped, Bool.and_eq_true, decide_eq_true_eq]
  exact ⟨py_lay d h.1, Nat.le_trans (py_dep d) h.2⟩
theorem str_beq (x y : List Nat) : (x == y) = ((S8 x) == (S8 y)) := by
  by_cases e : x = y
  · subst e; simp
  · rw [beq_eq_false_iff_ne.mpr e]
    exact (beq_eq_false_iff_ne.mpr (fun q => e (s8_inj q))).symm
mutual
theorem eqv_py : ∀ a b : D, dat a = true → dat b = true → PyData.eqv (pyD a) (pyD b) = eqD a b
  | .tup xs, .tup ys, h, g => by
    simp only [pyD, PyData.eqv, eqD]
    exact eqvs_py xs ys (by simpa [dat] using h) (by simpa [dat] using g)
  | .lst xs, .lst ys, h, g => by
    simp only [pyD, PyData.eqv, eqD]
    exact eqvs_py xs ys (by simpa [dat] using h) (by simpa [dat] using g)
  | .str x, .str y, h, g => by
    simp only [pyD, PyData.eqv, eqD]
    exact (str_beq x y).symm
  | .non, b, h, g => by cases b <;> simp_all [pyD, PyData.eqv, eqD, dat]
  | .bl a, b, h, g => by cases b <;> simp_all [pyD, PyData.eqv, eqD, dat]
  | .int a, b, h, g => by cases b <;> simp_all [pyD, PyData.eqv, eqD, dat]
  | .str a, .non, h, g => by simp [pyD, PyData.eqv, eqD]
  | .str a, .bl _, h, g => by simp [pyD, PyData.eqv, eqD]
  | .str a, .int _, h, g => by simp [pyD, PyData.eqv, eqD]
  | .str a, .tup _, h, g => by simp [pyD, PyData.eqv, eqD]
  | .str a, .lst _, h, g => by simp [pyD, PyData.eqv, eqD]
  | .tup a, .non, h, g => by simp [pyD, PyData.eqv, eqD]
  | .tup a, .bl _, h, g => by simp [pyD, PyData.eqv, eqD]
  | .tup a, .int _, h, g => by simp [pyD, PyData.eqv, eqD]
  | .tup a, .str _, h, g => by simp [pyD, PyData.eqv, eqD]
  | .tup a, .lst _, h, g => by simp [pyD, PyData.eqv, eqD]
  | .lst a, .non, h, g => by simp [pyD, PyData.eqv, eqD]
  | .lst a, .bl _, h, g => by simp [pyD, PyData.eqv, eqD]
  | .lst a, .int _, h, g => by simp [pyD, PyData.eqv, eqD]
  | .lst a, .str _, h, g => by simp [pyD, PyData.eqv, eqD]
  | .lst a, .tup _, h, g => by simp [pyD, PyData.eqv, eqD]
  | .str _, .fro _, _, g => by simp [dat] at g
  | .str _, .dic _ _, _, g => by simp [dat] at g
  | .str _, .ref _, _, g => by simp [dat] at g
  | .str _, .fn _, _, g => by simp [dat] at g
  | .str _, .clo _ _, _, g => by simp [dat] at g
  | .tup _, .fro _, _, g => by simp [dat] at g
  | .tup _, .dic _ _, _, g => by simp [dat] at g
  | .tup _, .ref _, _, g => by simp [dat] at g
  | .tup _, .fn _, _, g => by simp [dat] at g
  | .tup _, .clo _ _, _, g => by simp [dat] at g
  | .lst _, .fro _, _, g => by simp [dat] at g
  | .lst _, .dic _ _, _, g => by simp [dat] at g
  | .lst _, .ref _, _, g => by simp [dat] at g
  | .lst _, .fn _, _, g => by simp [dat] at g
  | .lst _, .clo _ _, _, g => by simp [dat] at g
  | .fro _, _, h, _ => by simp [dat] at h
  | .dic _ _, _, h, _ => by simp [dat] at h
  | .ref _, _, h, _ => by simp [dat] at h
  | .fn _, _, h, _ => by simp [dat] at h
  | .clo _ _, _, h, _ => by simp [dat] at h
theorem eqvs_py : ∀ a b : List D, dats a = true → dats b = true → PyData.eqvAll (pyDs a) (pyDs b) = eqDs a b
  | [], [], _, _ => by simp [pyDs, PyData.eqvAll, eqDs]
  | [], _ :: _, _, _ => by simp [pyDs, PyData.eqvAll, eqDs]
  | _ :: _, [], _, _ => by simp [pyDs, PyData.eqvAll, eqDs]
  | a :: as, b :: bs, h, g => by
    simp only [dats, Bool.and_eq_true] at h g
    simp only [pyDs, PyData.eqvAll, eqDs]
    rw [eqv_py a b h.1 g.1, eqvs_py as bs h.2 g.2]
end
theorem flat_rep {F : Hp} {μ : List Addr} {v : V} {d : D} (r : Rep C F μ v d) (f : flat d = true) : flatV v = true := by
  cases r <;> simp_all [flat, flatV]
theorem flat_reps {F : Hp} {μ : List Addr} : ∀ {vs : List V} {ds : List D}, Reps C F μ vs ds → ds.all flat = true → vs.all flatV = true
  | _, _, .nil, _ => rfl
  | _, _, .cons a r, f => by
    simp only [List.all_cons, Bool.and_eq_true] at f ⊢
    exact ⟨flat_rep a f.1, flat_reps r f.2⟩
theorem eqV_rep {F F' : Hp} {μ μ' : List Addr} {v w : V} {d e : D} (r : Rep C F μ v d) (q : Rep C F' μ' w e) (f : flat d = true) (g : flat e = true) : eqV v w = eqD d e := by
  cases r <;> cases q <;> simp_all [flat, eqV, eqD]
  rename_i x y
  exact (str_beq x y).symm
theorem any_rep {F F' : Hp} {μ μ' : List Addr} {w : V} {e : D} (q : Rep C F' μ' w e) (g : flat e = true) : ∀ {vs : List V} {ds : List D}, Reps C F μ vs ds → ds.all flat = true → inV w vs = ds.any fun y => eqD y e
  | _, _, .nil, _ => rfl
  | _, _, .cons a r, f => by
    simp only [List.all_cons, Bool.and_eq_true] at f
    have ih := any_rep q g r f.2
    unfold inV at ih ⊢
    rw [List.any_cons, List.any_cons, ih, eqV_rep a q f.1 g]
theorem any_py {e : D} (he : dat e = true) : ∀ ds : List D, dats ds = true → ((pyDs ds).any fun z => PyData.eqv z (pyD e)) = ds.any fun y => eqD y e
  | [], _ => rfl
  | d :: ds, h => by
    simp only [dats, Bool.and_eq_true] at h
    rw [pyDs, List.any_cons, List.any_cons, any_py he ds h.2, eqv_py d e h.1 he]
/-! ### comparisons -/
def isNon : D → Bool
  | .non => true
  | _ => false
theorem non_iff {F : Hp} {μ : List Addr} {v : V} {d : D} (r : Rep C F μ v d) : decide (v = .non) = isNon d := by
  cases r <;> simp [isNon]
theorem cmp_ok (hK : X.K = C.K) (hu : X.A.units + 65 < cLine) (o : Cop) : OpR X (compareOp (copOf o)) (r2 C fun a b => (cmpD o a b).map .bl) := by
  intro pins s σ H x y v u Q I rx ry h
  obtain ⟨W, st, a, b, d, m, ra, rb, e, k⟩ := h
  have kk : ∀ {b' : Bool}, d = .bl b' → Q (.bl b') H := fun e => k _ H W (Grow.refl W H) m (e ▸ .bl _)
  have hu64 : X.A.units + 64 < cLine := by omega
  have dp : ∀ {v d}, shp d = true → RepW C W v d → Dp X.K H v (pyD d) := fun h r => by
    simp only [shp, Bool.and_eq_true] at h
    rw [hK]; exact rep_dp m.sub _ _ h.1 r
  have da : ∀ {d}, shp d = true → dat d = true := fun h => by simp only [shp, Bool.and_eq_true] at h; exact h.1
  obtain ⟨k0, ek, rfl⟩ := Option.map_eq_some_iff.mp e
  have eqCase : ∀ {k1}, eqv2 a b = some k1 → (∃ p q, a = .str p ∧ b = .str q ∧ k1 = (p == q)) ∨ (shp a = true ∧ shp b = true ∧ k1 = eqD a b) := fun {k1} hk => by
    unfold eqv2 at hk
    split at hk
    · cases hk; exact .inl ⟨_, _, rfl, rfl, rfl⟩
    · split at hk
      · rename_i hh
        cases hk
        simp only [Bool.and_eq_true] at hh
        exact .inr ⟨hh.1, hh.2, rfl⟩
      · cases hk
  have inCase : ∀ (neg : Bool) {k1}, inD a b = some k1 → Q (.bl (if neg then !k1 else k1)) H → wpAny (model X.prog X.w) X.A (compareOp (if neg then .NotIn else .In) v u) (EP X pins σ Q) X.xe s := fun neg {k1} hk hq => by
    unfold inD at hk
    split at hk
    · split at hk <;> cases hk
      rename_i hh
      simp only [Bool.and_eq_true] at hh
      cases rb with
      | tup sb qb =>
        have ea := any_rep ra hh.1 qb hh.2
        have fl := flat_rep ra hh.1
        have fs := flat_reps qb hh.2
        cases neg
        · exact op_in_seq pins s σ H _ _ v u Q I rx ry ⟨_, _, rfl, .inr (by rw [hK]; exact sb.sqT m.sub), fl, fs, by simpa [ea] using hq⟩
        · exact op_notIn_seq pins s σ H _ _ v u Q I rx ry ⟨_, _, rfl, .inr (by rw [hK]; exact sb.sqT m.sub), fl, fs, by simpa [ea] using hq⟩
    · split at hk
      · cases hk
        rename_i hh
        simp only [Bool.and_eq_true] at hh
        cases rb with
        | lst sb qb =>
          have ea := any_rep ra hh.1 qb hh.2
          have fl := flat_rep ra hh.1
          have fs := flat_reps qb hh.2
          have hs : SqL X.K H _ _ := .inl (.inl (m.sub _ _ sb))
          cases neg
          · exact op_in_seq pins s σ H _ _ v u Q I rx ry ⟨_, _, rfl, .inl hs, fl, fs, by simpa [ea] using hq⟩
          · exact op_notIn_seq pins s σ H _ _ v u Q I rx ry ⟨_, _, rfl, .inl hs, fl, fs, by simpa [ea] using hq⟩
      · split at hk <;> cases hk
        rename_i hh
        simp only [Bool.and_eq_true] at hh
        have d1 := dp hh.1 ra
        have d2 := dp hh.2 rb
        have s1 := py_shaped hh.1
        have s2 := py_shaped hh.2
        simp only [pyD] at d2 s2
        have ea := any_py (da hh.1) _ (by simpa [dat] using da hh.2)
        cases neg
        · exact op_inD (by omega) pins s σ H _ _ v u Q I rx ry ⟨_, _, d1, d2, s1, s2, by simpa [ea] using hq⟩
        · exact op_notInD (by omega) pins s σ H _ _ v u Q I rx ry ⟨_, _, d1, d2, s1, s2, by simpa [ea] using hq⟩
    · split at hk <;> cases hk
      cases ra; cases rb
      cases neg
      · exact op_in_sign pins s σ H _ _ v u Q I rx ry ⟨_, _, rfl, rfl, by simpa using hq⟩
      · exact op_notIn_sign pins s σ H _ _ v u Q I rx ry ⟨_, _, rfl, rfl, by simpa using hq⟩
    · cases hk
  cases o
  · simp only [cmpD] at ek
    rcases eqCase ek with ⟨p, q, rfl, rfl, rfl⟩ | ⟨h1, h2, rfl⟩
    · cases ra; cases rb
      exact op_eq pins s σ H _ _ v u Q I rx ry ⟨rfl, by rw [s8_beq]; exact kk rfl⟩
    · exact op_eqD hu64 pins s σ H _ _ v u Q I rx ry ⟨_, _, dp h1 ra, dp h2 rb, py_shaped h1, py_shaped h2, by rw [eqv_py _ _ (da h1) (da h2)]; exact kk rfl⟩
  · simp only [cmpD] at ek
    obtain ⟨k1, e1, rfl⟩ := Option.map_eq_some_iff.mp ek
    rcases eqCase e1 with ⟨p, q, rfl, rfl, rfl⟩ | ⟨h1, h2, rfl⟩
    · cases ra; cases rb
      exact op_ne pins s σ H _ _ v u Q I rx ry ⟨rfl, by rw [s8_beq]; exact kk rfl⟩
    · exact op_neD hu64 pins s σ H _ _ v u Q I rx ry ⟨_, _, dp h1 ra, dp h2 rb, py_shaped h1, py_shaped h2, by rw [eqv_py _ _ (da h1) (da h2)]; exact kk rfl⟩
  · simp only [cmpD] at ek
    unfold ordD at ek
    split at ek
    · cases ra; cases rb; cases ek
      exact op_lt pins s σ H _ _ v u Q I rx ry ⟨_, _, rfl, rfl, kk rfl⟩
    · cases ra; cases rb; cases ek
      exact op_lt_str pins s σ H _ _ v u Q I rx ry ⟨_, _, rfl, rfl, by rw [s8_list, s8_list]; exact kk rfl⟩
    · cases ek
  · simp only [cmpD] at ek
    unfold ordD at ek
    split at ek
    · cases ra; cases rb; cases ek
      exact op_le pins s σ H _ _ v u Q I rx ry ⟨_, _, rfl, rfl, kk rfl⟩
    · cases ek
    · cases ek
  · simp only [cmpD] at ek
    unfold ordD at ek
    split at ek
    · cases ra; cases rb; cases ek
      exact op_gt pins s σ H _ _ v u Q I rx ry ⟨_, _, rfl, rfl, kk rfl⟩
    · cases ek
    · cases ek
  · simp only [cmpD] at ek
    unfold ordD at ek
    split at ek
    · cases ra; cases rb; cases ek
      exact op_ge pins s σ H _ _ v u Q I rx ry ⟨_, _, rfl, rfl, kk rfl⟩
    · cases ek
    · cases ek
  · cases b <;> simp only [cmpD] at ek <;> try (cases ek; done)
    cases ek
    cases rb
    have := non_iff ra
    refine op_isN pins s σ H _ _ v u Q I rx ry ⟨rfl, ?_⟩
    rw [this]
    refine kk ?_
    cases a <;> rfl
  · cases b <;> simp only [cmpD] at ek <;> try (cases ek; done)
    cases ek
    cases rb
    have := non_iff ra
    refine op_notN pins s σ H _ _ v u Q I rx ry ⟨rfl, ?_⟩
    rw [this]
    refine kk ?_
    cases a <;> rfl
  · simp only [cmpD] at ek
    exact inCase false ek (kk rfl)
  · simp only [cmpD] at ek
    obtain ⟨k1, e1, rfl⟩ := Option.map_eq_some_iff.mp ek
    exact inCase true e1 (kk rfl)
end
end DV
end

section
set_option linter.all false
set_option maxRecDepth 100000
set_option maxHeartbeats 1000000
/-! DV3: expressions, node by node. -/
namespace DV
open PySem PySem.Spec PyProof.Rows L2
section
variable {C : PC} {G : Tell} {X : Cx}
/-- the compiled expression tells what the expression does -/
def DE (C : PC) (G : Tell) (X : Cx) (c : CE) (e : Expr) : Prop := ∀ Wx, Takes X Wx → PE X e (tE C Wx (evE G c))
def DA (C : PC) (G : Tell) (X : Cx) (c : CE) (es : List Expr) : Prop := ∀ Wx, Takes X Wx → PA X es (tA C Wx (evA G c))
def DT (C : PC) (G : Tell) (X : Cx) (c : CE) (e : Expr) : Prop := ∀ Wx, Takes X Wx → PT X e (tT C Wx (evT G c))
def DO (C : PC) (G : Tell) (X : Cx) (c : CE) (e : Option Expr) : Prop := ∀ Wx, Takes X Wx → PO X e (tP C Wx (evP G c))
theorem de_var {i : Nat} {x : Str} {pos : Pos} (hN : X.N[i]? = some x) (hv : Vis X.env.scope x) (hd : (x == ("__debug__" : Str)) = false) (hcd : (x == ("__classdict__" : Str)) = false) : DE C G X (.var i) (.Name x pos) := fun Wx _ =>
  (pe_var hN hv hd hcd).imp fun σ H Q ⟨N0, W, ρ, st, n, p⟩ => by
    simp only [evE] at p
    obtain ⟨d, e, p⟩ := p.lift
    unfold sval at e
    split at e <;> cases e
    rename_i e
    obtain ⟨v, e1, r⟩ := n.2.val i d e
    exact ⟨v, e1, p.okI n.1 r⟩
theorem de_con {d : D} {v : V} {e : Expr} (h : PE X e (tC v)) (r : ∀ W, RepW C W v d) : DE C G X (.con d) e := fun Wx _ =>
  h.imp fun σ H Q ⟨N0, W, ρ, st, n, p⟩ => by
    simp only [evE] at p
    exact p.okI n.1 (r W)
theorem de_glo {x : Str} {j : Nat} {d : D} {v : V} {u : Value} {pos : Pos} (hj : G.gl j = some d) (hg : Gl X x) (hm : X.mg x = some u) (ru : RelV v u) (hd : (x == ("__debug__" : Str)) = false) (r : ∀ W, RepW C W v d) : DE C G X (.glo j) (.Name x pos) := fun Wx _ =>
  (pe_glob hg hm ru hd).imp fun σ H Q ⟨N0, W, ρ, st, n, p⟩ => by
    simp only [evE] at p
    rw [hj] at p
    exact Post.okI (a := d) p n.1 (r W)
/-- two in a row -/
theorem two {c1 c2 : CE} {Wx : WX'} {α β : Type} {rel : GW → β → α → Prop} {f : D → D → St → R α} {σ : L2.St} {H : Hp} {Q : β → Hp → Prop} {N0 W ρ st} (n : Now C N0 W ρ st σ H)
    (p : Post C rel ((evE G c1 ρ st).bind fun x st => (evE G c2 ρ st).bind fun y st => f x y st) W H Q (fun cls dd H' => Wx cls dd σ H')) :
    tE C Wx (evE G c1) σ H fun x H1 => tE C Wx (evE G c2) σ H1 fun y H2 => ∃ W st a b, Now C N0 W ρ st σ H2 ∧ RepW C W x a ∧ RepW C W y b ∧ Post C rel (f a b st) W H2 Q (fun cls dd H' => Wx cls dd σ H') :=
  ⟨N0, W, ρ, st, n, (p.bind (rel := RepW C)).imp fun x H1 ⟨W1, a, st1, g1, m1, ra, p1⟩ => ⟨N0, W1, ρ, st1, n.grow g1 m1, (p1.bind (rel := RepW C)).imp fun y H2 ⟨W2, b, st2, g2, m2, rb, p2⟩ =>
    ⟨W2, st2, a, b, (n.grow g1 m1).grow g2 m2, g2.rep ra, rb, p2⟩⟩⟩
theorem one {c1 : CE} {Wx : WX'} {α β : Type} {rel : GW → β → α → Prop} {f : D → St → R α} {σ : L2.St} {H : Hp} {Q : β → Hp → Prop} {N0 W ρ st} (n : Now C N0 W ρ st σ H)
    (p : Post C rel ((evE G c1 ρ st).bind fun x st => f x st) W H Q (fun cls dd H' => Wx cls dd σ H')) :
    tE C Wx (evE G c1) σ H fun x H1 => ∃ W1 st a, Now C N0 W1 ρ st σ H1 ∧ RepW C W1 x a ∧ Post C rel (f a st) W1 H1 Q (fun cls dd H' => Wx cls dd σ H') ∧ Grow W H W1 H1 :=
  ⟨N0, W, ρ, st, n, (p.bind (rel := RepW C)).imp fun x H1 ⟨W1, a, st1, g1, m1, ra, p1⟩ => ⟨W1, st1, a, n.grow g1 m1, ra, p1, g1⟩⟩
/-- an operator by values -/
theorem de_r2 {f : D → D → Option D} {c c1 c2 : CE} {e e1 e2 : Expr} (h : ∀ {t1 t2 : TE}, PE X e1 t1 → PE X e2 t2 → PE X e (tOp (r2 C f) t1 t2)) (hc : ∀ ρ st, evE G c ρ st = (evE G c1 ρ st).bind fun x st => (evE G c2 ρ st).bind fun y st => R.lift (f x y) st)
    (h1 : DE C G X c1 e1) (h2 : DE C G X c2 e2) : DE C G X c e := fun Wx tk =>
  (h (h1 Wx tk) (h2 Wx tk)).imp fun σ H Q ⟨N0, W, ρ, st, n, p⟩ => by
    rw [hc] at p
    have q := two (f := fun x y st => R.lift (f x y) st) n p
    obtain ⟨N0', W', ρ', st', n', q⟩ := q
    refine ⟨N0', W', ρ', st', n', q.imp fun x H1 q => ?_⟩
    obtain ⟨N1, W1, ρ1, st1, n1, q⟩ := q
    refine ⟨N1, W1, ρ1, st1, n1, q.imp fun y H2 ⟨W2, st2, a, b, n2, ra, rb, p2⟩ => ?_⟩
    obtain ⟨d, ed, p2⟩ := p2.lift
    exact ⟨W2, st2, a, b, d, n2.1, ra, rb, ed, fun v H' W' g m r => p2 v H' W' g m r⟩
theorem de_bin (hK : X.K = C.K) {o : Bop} {c1 c2 : CE} {e1 e2 : Expr} {pos : Pos} (h1 : DE C G X c1 e1) (h2 : DE C G X c2 e2) : DE C G X (.bin o c1 c2) (.BinOp e1 (opOf o) e2 pos) :=
  de_r2 (fun a b => pe_op (binT_ok hK o) a b) (fun ρ st => by simp only [evE]) h1 h2
theorem cop_mark {o : Cop} {e : Expr} (h : (o = .in_ ∨ o = .nin) → behindInMarks (copOf o) e = false) : behindInMarks (copOf o) e = false := by
  cases o <;> first | exact nomark e | exact h (by simp)
theorem de_cmp (hK : X.K = C.K) (hu : X.A.units + 65 < cLine) {o : Cop} {c1 c2 : CE} {e1 e2 : Expr} {pos : Pos} (hm : behindInMarks (copOf o) e2 = false) (h1 : DE C G X c1 e1) (h2 : DE C G X c2 e2) : DE C G X (.cmp o c1 c2) (.Compare e1 [copOf o] [e2] pos) :=
  de_r2 (fun a b => pe_cmpR (cmp_ok hK hu o) a b hm) (fun ρ st => by simp only [evE]) h1 h2
/-- .. as a test -/
theorem dt_cmp (hK : X.K = C.K) (hu : X.A.units + 65 < cLine) {o : Cop} {c1 c2 : CE} {e1 e2 : Expr} {pos : Pos} (hm : behindInMarks (copOf o) e2 = false) (h1 : DE C G X c1 e1) (h2 : DE C G X c2 e2) : DT C G X (.cmp o c1 c2) (.Compare e1 [copOf o] [e2] pos) := fun Wx tk =>
  (pt_cmpR (cmp_ok hK hu o) (h1 Wx tk) (h2 Wx tk) hm).imp fun σ H Q ⟨N0, W, ρ, st, n, p⟩ => by
    simp only [evT, evE] at p
    have p' : Post C (fun _ (b a : Bool) => b = a) ((evE G c1 ρ st).bind fun x st => (evE G c2 ρ st).bind fun y st => (R.lift ((cmpD o x y).map .bl) st).bind fun x st => R.lift (tru x) st) W H Q (fun cls dd H' => Wx cls dd σ H') := by
      have e : ∀ {α β γ : Type} (r : R α) (f : α → St → R β) (g : β → St → R γ), (r.bind f).bind g = r.bind fun a st => (f a st).bind g := fun r f g => by cases r <;> rfl
      rw [e] at p
      simp only [e] at p
      exact p
    have q := two (f := fun x y st => (R.lift ((cmpD o x y).map .bl) st).bind fun x st => R.lift (tru x) st) n p'
    obtain ⟨N0', W', ρ', st', n', q⟩ := q
    refine ⟨N0', W', ρ', st', n', q.imp fun x H1 q => ?_⟩
    obtain ⟨N1, W1, ρ1, st1, n1, q⟩ := q
    refine ⟨N1, W1, ρ1, st1, n1, q.imp fun y H2 ⟨W2, st2, a, b, n2, ra, rb, p2⟩ => ?_⟩
    obtain ⟨d, ed, p2⟩ := p2.bindLift
    refine ⟨W2, st2, a, b, d, n2.1, ra, rb, ed, fun v H' W' g m r => ?_⟩
    obtain ⟨k, ek, rfl⟩ := Option.map_eq_some_iff.mp ed
    cases r
    exact ⟨k, rfl, p2 k H' W' g m rfl⟩
/-! ### truth -/
theorem tru_rep {W : GW} {st : St} {H : Hp} (m : MemOk C W st H) {v : V} {d : D} {k : Bool} (r : RepW C W v d) (e : tru d = some k) : TruV C.K v H k := by
  cases r <;> simp only [tru] at e
  · cases e; rfl
  · cases e; rfl
  · cases e; rfl
  · split at e <;> cases e
    rename_i h
    refine ⟨by rw [s8_len, ← line_eq]; exact h, by rw [s8_len]⟩
  · rename_i a vs ds s r
    cases e
    refine .inr (.inl ⟨_, s.sqT m.sub, ?_⟩)
    have := r.length
    cases vs <;> cases ds <;> simp_all
  · rename_i a vs ds s r
    cases e
    refine .inl ⟨_, .inl (.inl (m.sub _ _ s)), ?_⟩
    have := r.length
    cases vs <;> cases ds <;> simp_all
  all_goals cases e
theorem dt_truth (hK : X.K = C.K) {c : CE} {e : Expr} (hc : ∀ ρ st, evT G c ρ st = (evE G c ρ st).bind fun x st => R.lift (tru x) st) (he : ∀ whole, isTrue e X.env whole = (do let v ← whole; standAt e.pos; holding [v] (truthy v))) (h : DE C G X c e) : DT C G X c e := fun Wx tk =>
  (pt_truth (h Wx tk) he).imp fun σ H Q ⟨N0, W, ρ, st, n, p⟩ => by
    rw [hc] at p
    obtain ⟨N1, W1, ρ1, st1, n1, q⟩ := one (f := fun x st => R.lift (tru x) st) n p
    refine ⟨N1, W1, ρ1, st1, n1, q.imp fun x H1 ⟨W2, st2, a, n2, ra, p2, g2⟩ => ?_⟩
    obtain ⟨k, ek, p2⟩ := p2.lift
    exact ⟨k, by rw [hK]; exact tru_rep n2.1 ra ek, p2.okI n2.1 rfl⟩
/-! ### and, or, not, if-else -/
theorem de_and (hK : X.K = C.K) {c1 c2 : CE} {a b : Expr} {rest : List Expr} {pos : Pos} (h1 : DE C G X c1 a) (h2 : DE C G X c2 (.BoolOp .And (b :: rest) pos)) : DE C G X (.and c1 c2) (.BoolOp .And (a :: b :: rest) pos) := fun Wx tk =>
  (pe_andT (h1 Wx tk) (h2 Wx tk)).imp fun σ H Q ⟨N0, W, ρ, st, n, p⟩ => by
    simp only [evE] at p
    obtain ⟨N1, W1, ρ1, st1, n1, q⟩ := one n p
    refine ⟨N1, W1, ρ1, st1, n1, q.imp fun x H1 ⟨W2, st2, a, n2, ra, p2, g2⟩ => ?_⟩
    obtain ⟨k, ek, p2⟩ := p2.bindLift
    refine ⟨k, by rw [hK]; exact tru_rep n2.1 ra ek, ?_⟩
    cases k
    · exact p2.okI n2.1 ra
    · exact ⟨_, _, _, _, n2, p2⟩
theorem de_or (hK : X.K = C.K) {c1 c2 : CE} {a b : Expr} {rest : List Expr} {pos : Pos} (h1 : DE C G X c1 a) (h2 : DE C G X c2 (.BoolOp .Or (b :: rest) pos)) : DE C G X (.or c1 c2) (.BoolOp .Or (a :: b :: rest) pos) := fun Wx tk =>
  (pe_orT (h1 Wx tk) (h2 Wx tk)).imp fun σ H Q ⟨N0, W, ρ, st, n, p⟩ => by
    simp only [evE] at p
    obtain ⟨N1, W1, ρ1, st1, n1, q⟩ := one n p
    refine ⟨N1, W1, ρ1, st1, n1, q.imp fun x H1 ⟨W2, st2, a, n2, ra, p2, g2⟩ => ?_⟩
    obtain ⟨k, ek, p2⟩ := p2.bindLift
    refine ⟨k, by rw [hK]; exact tru_rep n2.1 ra ek, ?_⟩
    cases k
    · exact ⟨_, _, _, _, n2, p2⟩
    · exact p2.okI n2.1 ra
theorem de_one {c : CE} {a : Expr} {op : BoolOp} {pos : Pos} (h : DE C G X c a) : DE C G X c (.BoolOp op [a] pos) := fun Wx tk => pe_one (h Wx tk)
theorem de_not (hK : X.K = C.K) {c : CE} {a : Expr} {pos : Pos} (h : DE C G X c a) : DE C G X (.not c) (.UnaryOp .Not a pos) := fun Wx tk =>
  (pe_notT (h Wx tk)).imp fun σ H Q ⟨N0, W, ρ, st, n, p⟩ => by
    simp only [evE] at p
    obtain ⟨N1, W1, ρ1, st1, n1, q⟩ := one n p
    refine ⟨N1, W1, ρ1, st1, n1, q.imp fun x H1 ⟨W2, st2, a, n2, ra, p2, g2⟩ => ?_⟩
    obtain ⟨d, ed, p2⟩ := p2.lift
    obtain ⟨k, ek, rfl⟩ := Option.map_eq_some_iff.mp ed
    exact ⟨k, by rw [hK]; exact tru_rep n2.1 ra ek, p2.okI n2.1 (.bl _)⟩
/-- tests: whatever their whole is -/
def DW (C : PC) (G : Tell) (X : Cx) (c : CE) (e : Expr) : Prop := ∀ Wx, Takes X Wx → PW X e (tT C Wx (evT G c))
theorem oneT {c1 : CE} {Wx : WX'} {α β : Type} {rel : GW → β → α → Prop} {f : Bool → St → R α} {σ : L2.St} {H : Hp} {Q : β → Hp → Prop} {N0 W ρ st} (n : Now C N0 W ρ st σ H)
    (p : Post C rel ((evT G c1 ρ st).bind fun x st => f x st) W H Q (fun cls dd H' => Wx cls dd σ H')) :
    tT C Wx (evT G c1) σ H fun k H1 => ∃ W st, Now C N0 W ρ st σ H1 ∧ Post C rel (f k st) W H1 Q (fun cls dd H' => Wx cls dd σ H') :=
  ⟨N0, W, ρ, st, n, (p.bind (rel := fun _ (b a : Bool) => b = a)).imp fun x H1 ⟨W1, a, st1, g1, m1, ra, p1⟩ => ⟨W1, st1, n.grow g1 m1, ra ▸ p1⟩⟩
theorem dw_and {c1 c2 : CE} {a b : Expr} {rest : List Expr} {pos : Pos} (h1 : DT C G X c1 a) (h2 : DW C G X c2 (.BoolOp .And (b :: rest) pos)) : DW C G X (.and c1 c2) (.BoolOp .And (a :: b :: rest) pos) := fun Wx tk =>
  (pw_and (h1 Wx tk) (h2 Wx tk)).imp fun σ H Q ⟨N0, W, ρ, st, n, p⟩ => by
    simp only [evT] at p
    obtain ⟨N1, W1, ρ1, st1, n1, q⟩ := oneT n p
    refine ⟨N1, W1, ρ1, st1, n1, q.imp fun k H1 ⟨W2, st2, n2, p2⟩ => ?_⟩
    cases k
    · exact p2.okI n2.1 rfl
    · exact ⟨_, _, _, _, n2, p2⟩
theorem dw_or {c1 c2 : CE} {a b : Expr} {rest : List Expr} {pos : Pos} (h1 : DT C G X c1 a) (h2 : DW C G X c2 (.BoolOp .Or (b :: rest) pos)) : DW C G X (.or c1 c2) (.BoolOp .Or (a :: b :: rest) pos) := fun Wx tk =>
  (pw_or (h1 Wx tk) (h2 Wx tk)).imp fun σ H Q ⟨N0, W, ρ, st, n, p⟩ => by
    simp only [evT] at p
    obtain ⟨N1, W1, ρ1, st1, n1, q⟩ := oneT n p
    refine ⟨N1, W1, ρ1, st1, n1, q.imp fun k H1 ⟨W2, st2, n2, p2⟩ => ?_⟩
    cases k
    · exact ⟨_, _, _, _, n2, p2⟩
    · exact p2.okI n2.1 rfl
theorem dw_one1 {c : CE} {a : Expr} {pos : Pos} (h : DT C G X c a) : DW C G X c (.BoolOp .And [a] pos) := fun Wx tk => pw_and1 (h Wx tk)
theorem dw_one2 {c : CE} {a : Expr} {pos : Pos} (h : DT C G X c a) : DW C G X c (.BoolOp .Or [a] pos) := fun Wx tk => pw_or1 (h Wx tk)
theorem DW.dt {c : CE} {e : Expr} (h : DW C G X c e) : DT C G X c e := fun Wx tk => (h Wx tk).pt
theorem dt_not {c : CE} {a : Expr} {pos : Pos} (h : DT C G X c a) : DT C G X (.not c) (.UnaryOp .Not a pos) := fun Wx tk =>
  (pt_not (h Wx tk)).imp fun σ H Q ⟨N0, W, ρ, st, n, p⟩ => by
    simp only [evT] at p
    obtain ⟨N1, W1, ρ1, st1, n1, q⟩ := oneT n p
    exact ⟨N1, W1, ρ1, st1, n1, q.imp fun k H1 ⟨W2, st2, n2, p2⟩ => p2.okI n2.1 rfl⟩
theorem de_ife {c c1 c2 : CE} {e a b : Expr} {pos : Pos} (h : DT C G X c e) (h1 : DE C G X c1 a) (h2 : DE C G X c2 b) : DE C G X (.ife c c1 c2) (.IfExp e a b pos) := fun Wx tk =>
  (pe_ifExp (h Wx tk) (h1 Wx tk) (h2 Wx tk)).imp fun σ H Q ⟨N0, W, ρ, st, n, p⟩ => by
    simp only [evE] at p
    obtain ⟨N1, W1, ρ1, st1, n1, q⟩ := oneT n p
    refine ⟨N1, W1, ρ1, st1, n1, q.imp fun k H1 ⟨W2, st2, n2, p2⟩ => ?_⟩
    cases k
    · exact ⟨_, _, _, _, n2, p2⟩
    · exact ⟨_, _, _, _, n2, p2⟩
theorem de_neg {c : CE} {a : Expr} {pos : Pos} (h : DE C G X c a) : DE C G X (.neg c) (.UnaryOp .USub a pos) := fun Wx tk =>
  (pe_un un_neg (h Wx tk)).imp fun σ H Q ⟨N0, W, ρ, st, n, p⟩ => by
    simp only [evE] at p
    obtain ⟨N1, W1, ρ1, st1, n1, q⟩ := one n p
    refine ⟨N1, W1, ρ1, st1, n1, q.imp fun x H1 ⟨W2, st2, a, n2, ra, p2, g2⟩ => ?_⟩
    obtain ⟨d, ed, p2⟩ := p2.lift
    obtain ⟨k, ek, rfl⟩ := Option.map_eq_some_iff.mp ed
    unfold optI at ek
    split at ek <;> cases ek
    cases ra
    exact ⟨_, rfl, p2.okI n2.1 (.int _)⟩
theorem de_inv {c : CE} {a : Expr} {pos : Pos} (h : DE C G X c a) : DE C G X (.inv c) (.UnaryOp .Invert a pos) := fun Wx tk =>
  (pe_un un_inv (h Wx tk)).imp fun σ H Q ⟨N0, W, ρ, st, n, p⟩ => by
    simp only [evE] at p
    obtain ⟨N1, W1, ρ1, st1, n1, q⟩ := one n p
    refine ⟨N1, W1, ρ1, st1, n1, q.imp fun x H1 ⟨W2, st2, a, n2, ra, p2, g2⟩ => ?_⟩
    obtain ⟨d, ed, p2⟩ := p2.lift
    obtain ⟨k, ek, rfl⟩ := Option.map_eq_some_iff.mp ed
    unfold optI at ek
    split at ek <;> cases ek
    cases ra
    exact ⟨_, rfl, p2.okI n2.1 (.int _)⟩
/-! ### chains -/
theorem de_cmp2 (hK : X.K = C.K) (hu : X.A.units + 65 < cLine) {o o' : Cop} {c1 c2 c3 : CE} {e1 e2 e3 : Expr} {pos : Pos} (hm : lastMarks [copOf o, copOf o'] [e2, e3] = false) (h1 : DE C G X c1 e1) (h2 : DE C G X c2 e2) (h3 : DE C G X c3 e3) :
    DE C G X (.cmp2 o o' c1 c2 c3) (.Compare e1 [copOf o, copOf o'] [e2, e3] pos) := fun Wx tk =>
  (pe_chain (cmp_ok hK hu o) (cmp_ok hK hu o') (h1 Wx tk) (h2 Wx tk) (h3 Wx tk) hm).imp fun σ H Q ⟨N0, W, ρ, st, n, p⟩ => by
    simp only [evE] at p
    obtain ⟨N1, W1, ρ1, st1, n1, q⟩ := two n p
    refine ⟨N1, W1, ρ1, st1, n1, q.imp fun x H1 ⟨N2, W2, ρ2, st2, n2, q⟩ => ⟨N2, W2, ρ2, st2, n2, q.imp fun y H2 ⟨W3, st3, a, b, n3, ra, rb, p3⟩ => ?_⟩⟩
    obtain ⟨k, ek, p3⟩ := p3.bindLift
    refine ⟨W3, st3, a, b, .bl k, n3.1, ra, rb, by show (cmpD o a b).map D.bl = _; rw [ek]; rfl, fun v H' W' g m r => ?_⟩
    cases r
    refine ⟨k, rfl, ?_⟩
    cases k
    · exact (Post.grow p3 g).okI m (.bl _)
    · rw [if_pos rfl] at p3
      obtain ⟨N4, W4, ρ4, st4, n4, q⟩ := one (f := fun z st => R.lift ((cmpD o' b z).map D.bl) st) (n3.grow g m) (Post.grow p3 g)
      refine ⟨N4, W4, ρ4, st4, n4, q.imp fun z H4 ⟨W5, st5, c, n5, rc, p5, g5⟩ => ?_⟩
      obtain ⟨d, ed, p5⟩ := p5.lift
      exact ⟨W5, st5, b, c, d, n5.1, g5.rep (g.rep rb), rc, ed, fun v H' W' g m r => p5 v H' W' g m r⟩
end
end DV
end

section
set_option linter.all false
set_option maxRecDepth 100000
set_option maxHeartbeats 1000000
/-! DV4: arguments, displays, subscripts, slices, isinstance, built-ins. -/
namespace DV
open PySem PySem.Spec PyProof.Rows L2
section
variable {C : PC} {G : Tell} {X : Cx}
def notStar : Expr → Bool
  | .Starred _ _ => false
  | _ => true
theorem starEach_of {e : Expr} (h : notStar e = true) (es : List Expr) (env : PySem.Env) : starEach (e :: es) env = (false, eval e env) :: starEach es env := by
  cases e <;> first | rfl | cases h
theorem star_any {pos : Pos} {env : PySem.Env} : ∀ es : List Expr, es.all notStar = true → (backTo pos (starEach es env)).any (·.1) = false
  | [], _ => rfl
  | e :: es, h => by
    simp only [List.all_cons, Bool.and_eq_true] at h
    rw [starEach_of h.1]
    show (false || (backTo pos (starEach es env)).any (·.1)) = false
    rw [star_any es h.2]
    rfl
/-! ### arguments -/
theorem da_nil : DA C G X .nil [] := fun Wx _ => pa_nil.imp fun σ H Q ⟨N0, W, ρ, st, n, p⟩ => by
  simp only [evA] at p
  exact p.okI n.1 .nil
theorem da_cons {c r : CE} {e : Expr} {es : List Expr} (hs : notStar e = true) (h1 : DE C G X c e) (h2 : DA C G X r es) : DA C G X (.cons c r) (e :: es) := fun Wx tk =>
  (pa_cons (h1 Wx tk) (h2 Wx tk) (starEach_of hs es X.env)).imp fun σ H Q ⟨N0, W, ρ, st, n, p⟩ => by
    simp only [evA] at p
    obtain ⟨N1, W1, ρ1, st1, n1, q⟩ := one n p
    refine ⟨N1, W1, ρ1, st1, n1, q.imp fun x H1 ⟨W2, st2, a, n2, ra, p2, g2⟩ => ⟨_, _, _, _, n2, (p2.bind (rel := RepsW C)).imp fun xs H3 ⟨W3, as, st3, g3, m3, ra3, p3⟩ => p3.okI m3 (.cons (g3.rep ra) ra3)⟩⟩
theorem args {c : CE} {Wx : WX'} {α β : Type} {rel : GW → β → α → Prop} {f : List D → St → R α} {σ : L2.St} {H : Hp} {Q : β → Hp → Prop} {N0 W ρ st} (n : Now C N0 W ρ st σ H)
    (p : Post C rel ((evA G c ρ st).bind fun x st => f x st) W H Q (fun cls dd H' => Wx cls dd σ H')) :
    tA C Wx (evA G c) σ H fun xs H1 => ∃ W1 st as, Now C N0 W1 ρ st σ H1 ∧ RepsW C W1 xs as ∧ Post C rel (f as st) W1 H1 Q (fun cls dd H' => Wx cls dd σ H') ∧ Grow W H W1 H1 :=
  ⟨N0, W, ρ, st, n, (p.bind (rel := RepsW C)).imp fun x H1 ⟨W1, a, st1, g1, m1, ra, p1⟩ => ⟨W1, st1, a, n.grow g1 m1, ra, p1, g1⟩⟩
/-! ### displays -/
theorem de_tup {c : CE} {es : List Expr} {k : Nat} {pos : Pos} (h : DA C G X c es) : DE C G X (.tup c) (.Tuple es k pos) := fun Wx tk =>
  (pe_tupF (h Wx tk)).imp fun σ H Q ⟨N0, W, ρ, st, n, p⟩ => by
    simp only [evE] at p
    obtain ⟨N1, W1, ρ1, st1, n1, q⟩ := args n p
    refine ⟨N1, W1, ρ1, st1, n1, q.imp fun xs H1 ⟨W2, st2, as, n2, ra, p2, g2⟩ => ?_⟩
    split at p2
    · rename_i hl
      refine ⟨by rw [← line_eq, ra.length]; exact hl, fun a o hp hd => ?_⟩
      obtain ⟨W3, g3, m3, e3⟩ := n2.1.lay (o := fz o xs) hp (fun _ z => nomatch z)
      exact (p2.grow g3).okI m3 (.tup (.inl ⟨o, e3, hd⟩) (g3.reps ra))
    · exact p2.elim
theorem de_lst {c : CE} {es : List Expr} {pos : Pos} (h : DA C G X c es) : DE C G X (.lst c) (.List es pos) := fun Wx tk =>
  (pe_lst (h Wx tk)).imp fun σ H Q ⟨N0, W, ρ, st, n, p⟩ => by
    simp only [evE] at p
    obtain ⟨N1, W1, ρ1, st1, n1, q⟩ := args n p
    refine ⟨N1, W1, ρ1, st1, n1, q.imp fun xs H1 ⟨W2, st2, as, n2, ra, p2, g2⟩ => ?_⟩
    split at p2
    · rename_i hl
      refine ⟨by rw [← line_eq, ra.length]; exact hl, fun a hp => ?_⟩
      obtain ⟨W3, g3, m3, e3⟩ := n2.1.lay (o := .lst xs) hp (fun _ z => nomatch z)
      exact (p2.grow g3).okI m3 (.lst e3 (g3.reps ra))
    · exact p2.elim
/-- a new cell of the store -/
theorem MemOk.cellNew {W : GW} {st : St} {H : Hp} {p : Addr} {xs : List V} {as : List D} (m : MemOk C W st H) (hp : H p = none) (r : RepsW C W xs as) : ∃ W', Grow W H W' (upd H p (.lst xs)) ∧ MemOk C W' (st ++ [as]) (upd H p (.lst xs)) ∧ W'.μ[st.length]? = some p := by
  have nF : W.F p = none := by
    cases q : W.F p with
    | none => rfl
    | some z => rw [m.sub _ _ q] at hp; cases hp
  have hne : ∀ {a : Addr} {z : HO}, H a = some z → a ≠ p := fun e z => by rw [z, hp] at e; cases e
  have inμ : ∀ a ∈ W.μ, ∃ z, H a = some z := fun a ha => by
    obtain ⟨l, hl, e⟩ := List.getElem_of_mem ha
    have e1 : W.μ[l]? = some a := by rw [List.getElem?_eq_getElem hl, e]
    obtain ⟨vs, z, _⟩ := m.cell l a (st[l]'(m.len ▸ hl)) e1 (List.getElem?_eq_getElem (m.len ▸ hl))
    exact ⟨_, z⟩
  have g : Grow W H ⟨W.F, W.μ ++ [p]⟩ (upd H p (.lst xs)) := {
    fr := fun a z e => e
    fn := fun a z e => .inl e
    mu := ⟨[p], rfl, fun a ha => by simp at ha; exact ha ▸ hp⟩
    kp := fun a z e _ _ => by rw [upd_ne (hne e)]; exact e
    al := fun a e => by
      by_cases q : a = p
      · exact q ▸ hp
      · rw [← e]; exact (upd_ne q).symm }
  refine ⟨_, g, ⟨fun a z e => by rw [upd_ne (hne (m.sub _ _ e))]; exact m.sub _ _ e, by simp [m.len], fun l a xs' e1 e2 => ?_, ?_, fun a ha => ?_, m.nt, m.tab.mono (fun b z e => by rw [upd_ne (hne e)]; exact e) g.fr⟩, ?_⟩
  · simp only [List.getElem?_append] at e1 e2
    by_cases hl : l < W.μ.length
    · rw [if_pos hl] at e1
      rw [if_pos (m.len ▸ hl)] at e2
      obtain ⟨vs, z, q⟩ := m.cell l a xs' e1 e2
      exact ⟨vs, by rw [upd_ne (hne z)]; exact z, g.reps q⟩
    · rw [if_neg hl] at e1
      rw [if_neg (m.len ▸ hl), ← m.len] at e2
      cases hk : l - W.μ.length with
      | zero =>
        rw [hk] at e1 e2
        simp at e1 e2
        subst e1; subst e2
        exact ⟨xs, upd_same, g.reps r⟩
      | succ k => rw [hk] at e1; simp at e1
  · refine List.nodup_append.mpr ⟨m.nd, by simp, fun a ha b hb => ?_⟩
    simp at hb
    subst hb
    obtain ⟨z, e⟩ := inμ a ha
    exact hne e
  · rcases List.mem_append.mp ha with h | h
    · exact m.nf a h
    · simp at h; exact h ▸ nF
  · simp [m.len]
theorem de_new {c : CE} {es : List Expr} {pos : Pos} (h : DA C G X c es) : DE C G X (.new c) (.List es pos) := fun Wx tk =>
  (pe_lst (h Wx tk)).imp fun σ H Q ⟨N0, W, ρ, st, n, p⟩ => by
    simp only [evE] at p
    obtain ⟨N1, W1, ρ1, st1, n1, q⟩ := args n p
    refine ⟨N1, W1, ρ1, st1, n1, q.imp fun xs H1 ⟨W2, st2, as, n2, ra, p2, g2⟩ => ?_⟩
    split at p2
    · rename_i hl
      refine ⟨by rw [← line_eq, ra.length]; exact hl, fun a hp => ?_⟩
      obtain ⟨W3, g3, m3, e3⟩ := n2.1.cellNew hp ra
      exact (p2.grow g3).okI m3 (.ref e3)
    · exact p2.elim
/-! ### subscripts -/
theorem ixD_N (n : Nat) (i : Int) : ixD n i = ixN n i := rfl
theorem atD_rep {F : Hp} {μ : List Addr} {vs : List V} {ds : List D} {i : Int} {d : D} (r : Reps C F μ vs ds) (e : atD ds i = some d) : ∃ v, atI vs i = some v ∧ Rep C F μ v d := by
  unfold atD at e
  obtain ⟨j, e1, e2⟩ := Option.bind_eq_some_iff.mp e
  obtain ⟨v, e3, q⟩ := r.get e2
  exact ⟨v, by unfold atI; rw [r.length]; exact Option.bind_eq_some_iff.mpr ⟨j, e1, e3⟩, q⟩
theorem atD_nat {α : Type} (x : List α) (i : Int) : atD x i = atI x i := rfl
theorem keyD_eq {k k' : Key} : eqD (keyD k) (keyD k') = decide (k = k') := by
  cases k <;> cases k' <;> simp only [keyD, eqD]
  · rename_i x y
    by_cases h : x = y
    · subst h; simp
    · simp [h]
  · simp
  · simp
  · rename_i x y
    rw [str_beq, s8_of, s8_of]
    by_cases h : x = y
    · subst h; simp
    · simp [h]
theorem keyD_eqs : ∀ ks ks' : List Key, eqDs (ks.map keyD) (ks'.map keyD) = decide (ks = ks')
  | [], [] => rfl
  | [], _ :: _ => rfl
  | _ :: _, [] => rfl
  | k :: ks, k' :: ks' => by
    rw [List.map_cons, List.map_cons, eqDs, keyD_eq, keyD_eqs ks ks']
    simp
theorem keyD_of {F : Hp} {μ : List Addr} {v : V} {k : Key} (r : Rep C F μ v (keyD k)) : v = kV k := by
  cases k with
  | inl i => cases r; rfl
  | inr x => simp only [keyD] at r; cases r; rw [s8_of]; rfl
theorem lookD_K {F : Hp} {μ : List Addr} {k : Key} {d : D} : ∀ {kvs : List (Key × V)} {ds : List D}, Reps C F μ (kvs.map (·.2)) ds → lookD (keyD k) (kvs.map fun p => keyD p.1) ds = some d → ∃ v, valV kvs k = some v ∧ Rep C F μ v d
  | [], _, .nil, e => by simp [lookD] at e
  | p :: kvs, _, .cons a r, e => by
    simp only [List.map_cons, lookD, keyD_eq] at e
    by_cases h : p.1 = k
    · rw [if_pos (decide_eq_true h)] at e
      cases e
      exact ⟨_, valV_pos h, a⟩
    · rw [if_neg (by simpa using h)] at e
      obtain ⟨v, e1, q⟩ := lookD_K r e
      exact ⟨v, by rw [valV_neg h]; exact e1, q⟩
theorem keyA_of {b : D} (hf : keyA b = true) : ∃ k, b = keyD k := by
  cases b <;> simp [keyA] at hf
  · exact ⟨.inl _, rfl⟩
  · rename_i x; exact ⟨.inr (S8 x), by simp [keyD]⟩
theorem keyT_of : ∀ {xs : List D}, xs.all keyA = true → ∃ k : List Key, xs = k.map keyD
  | [], _ => ⟨[], rfl⟩
  | x :: xs, h => by
    simp only [List.all_cons, Bool.and_eq_true] at h
    obtain ⟨k, rfl⟩ := keyA_of h.1
    obtain ⟨ks, rfl⟩ := keyT_of h.2
    exact ⟨k :: ks, rfl⟩
theorem lookD_T {F : Hp} {μ : List Addr} {k : List Key} {d : D} : ∀ {xs : List (List Key × Addr × Value)} {vs : List V} {ds : List D}, Vals vs (xs.map (·.2.2)) → Reps C F μ vs ds → lookD (.tup (k.map keyD)) (xs.map fun p => .tup (p.1.map keyD)) ds = some d → ∃ p v, atKey xs k = some p ∧ RelV v p.2 ∧ Rep C F μ v d
  | [], _, _, .nil, .nil, e => by simp [lookD] at e
  | p :: xs, _, _, .cons q vv, .cons a r, e => by
    simp only [List.map_cons, lookD, eqD, keyD_eqs] at e
    by_cases h : p.1 = k
    · rw [if_pos (decide_eq_true h)] at e
      cases e
      exact ⟨_, _, by simp [atKey, h], q, a⟩
    · rw [if_neg (by simpa using h)] at e
      obtain ⟨p', v, e1, q', r'⟩ := lookD_T vv r e
      exact ⟨p', v, by simpa [atKey, h] using e1, q', r'⟩
theorem lookD_KT {F : Hp} {μ : List Addr} {xs : List D} {d : D} : ∀ {kvs : List (Key × V)} {ds : List D}, lookD (.tup xs) (kvs.map fun p => keyD p.1) ds ≠ some d
  | [], _ => by simp [lookD]
  | p :: kvs, [] => by simp [lookD]
  | p :: kvs, _ :: ds => by
    have : eqD (keyD p.1) (.tup xs) = false := by cases p.1 <;> rfl
    simp only [List.map_cons, lookD, this]
    exact lookD_KT (μ := μ) (F := F)
theorem lookD_TK {F : Hp} {μ : List Addr} {k : Key} {d : D} : ∀ {kvs : List (List Key × Addr × Value)} {ds : List D}, lookD (keyD k) (kvs.map fun p => .tup (p.1.map keyD)) ds ≠ some d
  | [], _ => by simp [lookD]
  | p :: kvs, [] => by simp [lookD]
  | p :: kvs, _ :: ds => by
    have : eqD (.tup (p.1.map keyD)) (keyD k) = false := by cases k <;> rfl
    simp only [List.map_cons, lookD, this]
    exact lookD_TK (μ := μ) (F := F)

/-- a key by its value -/
theorem dic_get {pins : List (Addr × Obj)} {σ : L2.St} {H : Hp} {s : Shared} {F : Hp} {μ : List Addr} {A : Around} {E : Value → Shared → Prop} (hK : X.K = C.K) (hP : X.prog = C.prog) (hW : X.w = C.w) (hu : A.units + 1 < cLine) (I : Inv X pins σ H s) (sub : ∀ a o, F a = some o → H a = some o) {x y : V} {v0 u : Value} {ks vs : List D} {b d : D} (r0 : RelV x v0)
    (rx : Rep C F μ x (.dic ks vs)) (ry : Rep C F μ y b) (ru : RelV y u) (hk : (keyA b || keyT b) = true) (e : lookD b ks vs = some d) {Q : Value → Shared → Prop} (h : ∀ v w' s', Rep C F μ v d → Inv X pins σ H s' → RelV v w' → Q w' s') :
    s.TypeIs v0 "dict" ∧ wpAny (model X.prog X.w) A (getItem v0 u) Q E s := by
  cases rx with
  | @dK _ _ a kvs _ s1 r =>
    cases (show v0 = Value.ref a from r0)
    have eH := sub _ _ s1
    rcases (by simpa using hk : keyA b = true ∨ keyT b = true) with hk | hk
    · obtain ⟨k, rfl⟩ := keyA_of hk
      obtain ⟨v, ev, rv⟩ := lookD_K r e
      have ey := keyD_of ry
      subst ey
      exact ⟨dict_typeIs I (DGet.k (k := k) eH), d_getItem hu I (by rw [← ev]; exact DGet.k eH) ru fun w' s' I' rw' => h v w' s' rv I' rw'⟩
    · cases b <;> simp only [keyT] at hk <;> try (cases hk; done)
      exact absurd e (lookD_KT (F := F) (μ := μ))
  | @dT _ _ a o xs vs _ s1 t kk vv r =>
    cases (show v0 = Value.ref a from r0)
    have eH := sub _ _ s1
    rcases (by simpa using hk : keyA b = true ∨ keyT b = true) with hk | hk
    · obtain ⟨k, rfl⟩ := keyA_of hk
      exact absurd e (lookD_TK (F := F) (μ := μ))
    · cases b <;> simp only [keyT] at hk <;> try (cases hk; done)
      obtain ⟨k, rfl⟩ := keyT_of hk
      obtain ⟨p, v, hp, rpv, rv⟩ := lookD_T vv r e
      cases ry with
      | @tup _ _ b2 vs2 _ sT rT =>
        have evs : ∀ {k : List Key} {vs2 : List V}, Reps C F μ vs2 (k.map keyD) → vs2 = k.map kV := by
          intro k
          induction k with
          | nil => intro vs2 r; cases r; rfl
          | cons k0 k ih => intro vs2 r; cases r with | cons a r => rw [keyD_of a, ih r]; rfl
        have := evs rT
        subst this
        cases (show u = Value.ref b2 from ru)
        have keys : ∀ {k : List Key} {b2 : Addr}, TupS C.K F b2 (k.map kV) → (tupleKind (mixKind X.prog X.w)).is s.heap k b2 := fun {k b2} sT => by
          obtain ⟨its, rv2, ⟨o, ho, hc, n, hdat⟩, _⟩ := I.tuple (by rw [hK]; exact sT.sqT sub)
          exact ⟨o, its.toArray, n, ho, hc, hdat, by simpa using items_are rv2⟩
        obtain ⟨hd, t1, ⟨es, ep, t2, t3⟩, t4⟩ := t
        have dd : s.heap.DictOfH (tupleKind (mixKind X.prog X.w)) a xs := ⟨o, es, ep, (show _ ∧ _ from I.hok a _ eH).1, t1, t2, by rw [hP, hW]; exact t3, fun x hx => keys (kk x hx), t4⟩
        refine ⟨dd.typeIs, wpAny_getItem_heap (tupleKind_room_in1 hu) (keys sT) dd hp ?_⟩
        exact h v p.2 _ rv (I.tok _) rpv

def rSub (C : PC) : R2 := fun x y H Q => ∃ W st a b d, MemOk C W st H ∧ RepW C W x a ∧ RepW C W y b ∧ subD st a b = some d ∧ ∀ v H' W', Grow W H W' H' → MemOk C W' st H' → RepW C W' v d → Q v H'
theorem cell_at {W : GW} {st : St} {H : Hp} (m : MemOk C W st H) {l : Nat} {a : Addr} {xs : List D} (h1 : W.μ[l]? = some a) (h2 : st[l]? = some xs) : ∃ vs, H a = some (.lst vs) ∧ RepsW C W vs xs := m.cell l a xs h1 h2
theorem ix_sub (hK : X.K = C.K) (hP : X.prog = C.prog) (hW : X.w = C.w) (hu : X.A.units + 1 < cLine) : IxR X (rSub C) := by
  intro value slice pins s σ H x y v u Q I rx ry h hs
  obtain ⟨W, st, a, b, d, m, ra, rb, e, k⟩ := h
  have kk : ∀ {v}, RepW C W v d → Q v H := fun r => k _ H W (Grow.refl W H) m r
  have ra0 := ra
  cases ra <;> try (simp only [subD] at e; cases e; done)
  · -- str
    cases b <;> simp only [subD] at e <;> try (cases e; done)
    cases rb
    split at e
    · rename_i hl
      obtain ⟨c, ec, rfl⟩ := Option.map_eq_some_iff.mp e
      exact ix_str value slice pins s σ H _ _ v u Q I rx ry ⟨_, _, c, rfl, rfl, by rw [s8_len, ← line_eq]; exact hl, by rw [s8_list]; exact ec, kk (.str [c])⟩ hs
    · cases e
  · -- tup
    rename_i p vs ds st1 q
    cases b <;> simp only [subD] at e <;> try (cases e; done)
    cases rb
    obtain ⟨w, e1, rw'⟩ := atD_rep q e
    exact ix_tup value slice pins s σ H _ _ v u Q I rx ry ⟨_, _, _, _, rfl, rfl, by rw [hK]; exact st1.sqT m.sub, e1, kk rw'⟩ hs
  · rename_i p vs ds st1 q
    cases b <;> simp only [subD] at e <;> try (cases e; done)
    cases rb
    obtain ⟨w, e1, rw'⟩ := atD_rep q e
    exact ix_list value slice pins s σ H _ _ v u Q I rx ry ⟨_, _, _, _, rfl, rfl, .inl (.inl (m.sub _ _ st1)), e1, kk rw'⟩ hs
  · rename_i p vs ds st1 q
    cases b <;> simp only [subD] at e <;> try (cases e; done)
    cases rb
    obtain ⟨w, e1, rw'⟩ := atD_rep q e
    exact ix_list value slice pins s σ H _ _ v u Q I rx ry ⟨_, _, _, _, rfl, rfl, by rw [hK]; exact sqL_mono m.sub st1, e1, kk rw'⟩ hs
  · -- dK
    simp only [subD] at e
    split at e
    · rename_i hk
      obtain ⟨hT, hw'⟩ := dic_get (E := X.xe) (Q := fun r s' => EP X pins σ Q r s') (v0 := v) hK hP hW hu I m.sub rx ra0 rb ry hk e fun v2 w' s' r2 I' rw' => ⟨v2, H, I', rw', kk r2⟩
      unfold subscriptTail
      refine wpAny_bind ?_
      rw [getitemInPython_of_ne hT.not_modules]
      refine wpAny_bind (wpAny_specialOf hT PySem.F.slot_dict_getitem.lookup ?_)
      have fin : wpAny (model X.prog X.w) X.A (subscripted slice false v u) (fun r s₃ => wpAny (model X.prog X.w) X.A (letTemporaryGo value v r >>= fun _ => pure r) (EP X pins σ Q) X.xe s₃) X.xe s := by
        rw [hs]
        exact wpAny_operating (wpAny_mono hw' (fun r s₃ h₃ => wpAny_bind (wpAny_letTemporaryGo (wpAny_pure h₃))) fun _ _ x => x)
      first
        | exact wpAny_pure (wpAny_bind fin)
        | exact wpAny_bind (wpAny_pure (wpAny_bind fin))
        | exact wpAny_bind fin
    · cases e
  · simp only [subD] at e
    split at e
    · rename_i hk
      obtain ⟨hT, hw'⟩ := dic_get (E := X.xe) (Q := fun r s' => EP X pins σ Q r s') (v0 := v) hK hP hW hu I m.sub rx ra0 rb ry hk e fun v2 w' s' r2 I' rw' => ⟨v2, H, I', rw', kk r2⟩
      unfold subscriptTail
      refine wpAny_bind ?_
      rw [getitemInPython_of_ne hT.not_modules]
      refine wpAny_bind (wpAny_specialOf hT PySem.F.slot_dict_getitem.lookup ?_)
      have fin : wpAny (model X.prog X.w) X.A (subscripted slice false v u) (fun r s₃ => wpAny (model X.prog X.w) X.A (letTemporaryGo value v r >>= fun _ => pure r) (EP X pins σ Q) X.xe s₃) X.xe s := by
        rw [hs]
        exact wpAny_operating (wpAny_mono hw' (fun r s₃ h₃ => wpAny_bind (wpAny_letTemporaryGo (wpAny_pure h₃))) fun _ _ x => x)
      first
        | exact wpAny_pure (wpAny_bind fin)
        | exact wpAny_bind (wpAny_pure (wpAny_bind fin))
        | exact wpAny_bind fin
    · cases e
  · -- ref
    rename_i p l e0
    cases b <;> simp only [subD] at e <;> try (cases e; done)
    cases rb
    obtain ⟨xs, e1, e2⟩ := Option.bind_eq_some_iff.mp e
    obtain ⟨vs, eH, r⟩ := m.cell l p xs e0 e1
    obtain ⟨w, e3, rw'⟩ := atD_rep r e2
    exact ix_list value slice pins s σ H _ _ v u Q I rx ry ⟨_, _, _, _, rfl, rfl, .inl (.inl eH), e3, kk rw'⟩ hs
def notSlice : Expr → Bool
  | .Slice _ _ _ _ => false
  | _ => true
theorem plainIx_of {e : Expr} (h : notSlice e = true) : PlainIx e := fun o i => by
  cases e <;> first | rfl | cases h
theorem de_sub (hK : X.K = C.K) (hP : X.prog = C.prog) (hW : X.w = C.w) (hu : X.A.units + 1 < cLine) {c1 c2 : CE} {e1 e2 : Expr} {pos : Pos} (hs : notSlice e2 = true) (h1 : DE C G X c1 e1) (h2 : DE C G X c2 e2) : DE C G X (.sub c1 c2) (.Subscript e1 e2 pos) := fun Wx tk =>
  (pe_ix (ix_sub hK hP hW hu) (h1 Wx tk) (h2 Wx tk) (plainIx_of hs)).imp fun σ H Q ⟨N0, W, ρ, st, n, p⟩ => by
    simp only [evE] at p
    have q := two n p
    obtain ⟨N0', W', ρ', st', n', q⟩ := q
    refine ⟨N0', W', ρ', st', n', q.imp fun x H1 q => ?_⟩
    obtain ⟨N1, W1, ρ1, st1, n1, q⟩ := q
    refine ⟨N1, W1, ρ1, st1, n1, q.imp fun y H2 ⟨W2, st2, a, b, n2, ra, rb, p2⟩ => ?_⟩
    obtain ⟨d, ed, p2⟩ := p2.lift
    exact ⟨W2, st2, a, b, d, n2.1, ra, rb, ed, fun v H' W' g m r => p2 v H' W' g m r⟩
/-! ### slices -/
theorem do_none : DO C G X .nil none := fun Wx _ => po_none.imp fun σ H Q ⟨N0, W, ρ, st, n, p⟩ => by
  simp only [evP] at p
  exact p.okI n.1 rfl
theorem do_some {c r : CE} {e : Expr} (h : DE C G X c e) : DO C G X (.cons c r) (some e) := fun Wx tk => (po_some (h Wx tk)).imp fun σ H Q ⟨N0, W, ρ, st, n, p⟩ => by
  simp only [evP] at p
  obtain ⟨N1, W1, ρ1, st1, n1, q⟩ := one n p
  refine ⟨N1, W1, ρ1, st1, n1, q.imp fun x H1 ⟨W2, st2, a, n2, ra, p2, g2⟩ => ?_⟩
  obtain ⟨i, ei, p2⟩ := p2.bindLift
  unfold optI at ei
  split at ei <;> cases ei
  cases ra
  exact ⟨_, rfl, p2.okI n2.1 rfl⟩
theorem cutD_V {F : Hp} {μ : List Addr} {vs : List V} {ds : List D} (r : Reps C F μ vs ds) (lo hi : Option Int) : Reps C F μ (cutV vs lo hi) (cutD ds lo hi) := by
  unfold cutV cutD
  rw [r.length]
  exact (r.drop _).take _
theorem cutS_list (x : List Nat) (lo hi : Option Int) : cutS (S8 x) lo hi = S8 (cutD x lo hi) := by
  have h : (S8 x).length = x.length := s8_len x
  unfold cutS cutD
  rw [h, s8_list]
  rfl
def rSl (C : PC) : V → Option Int → Option Int → Hp → VK → Prop := fun x lo hi H Q => ∃ W st a d, MemOk C W st H ∧ RepW C W x a ∧ slcD a lo hi = some d ∧ ∀ v H' W', Grow W H W' H' → MemOk C W' st H' → RepW C W' v d → Q v H'
theorem sl_ok (hK : X.K = C.K) : SlR X (rSl C) := by
  intro pins s σ H x v vl vu lo hi sl Q I rx hs pl pu h
  obtain ⟨W, st, a, d, m, ra, e, k⟩ := h
  have kk : ∀ {v}, RepW C W v d → Q v H := fun r => k _ H W (Grow.refl W H) m r
  cases ra <;> simp only [slcD] at e <;> try (cases e; done)
  · split at e <;> cases e
    rename_i hl
    exact sl_str pins s σ H _ v vl vu lo hi sl Q I rx hs pl pu ⟨_, rfl, by rw [s8_len, ← line_eq]; exact hl, by rw [cutS_list]; exact kk (.str _)⟩
  · rename_i p vs ds s1 q
    cases e
    refine sl_tupF pins s σ H _ v vl vu lo hi sl Q I rx hs pl pu ⟨_, _, rfl, by rw [hK]; exact s1.sqT m.sub, fun hw => ?_, fun _ p o hp hd => ?_⟩
    · refine kk ?_
      have : cutD ds lo hi = ds := by
        unfold cutD
        have l := q.length
        rw [l] at hw
        show (ds.drop (HT.sIx ds.length 0 lo)).take (HT.sIx ds.length ds.length hi - HT.sIx ds.length 0 lo) = ds
        rw [hw.1, hw.2]
        simp
      rw [this]
      exact .tup s1 q
    · obtain ⟨W', g, m', e'⟩ := m.lay (o := fz o (cutV vs lo hi)) hp (fun _ z => nomatch z)
      exact k _ _ W' g m' (.tup (.inl ⟨o, e', hd⟩) (g.reps (cutD_V q lo hi)))
  · rename_i p vs ds s1 q
    cases e
    refine sl_list pins s σ H _ v vl vu lo hi sl Q I rx hs pl pu ⟨_, _, rfl, .inl (.inl (m.sub _ _ s1)), fun p hp => ?_⟩
    obtain ⟨W', g, m', e'⟩ := m.lay (o := .lst (cutV vs lo hi)) hp (fun _ z => nomatch z)
    exact k _ _ W' g m' (.lst e' (g.reps (cutD_V q lo hi)))
  · rename_i p vs ds s1 q
    cases e
    refine sl_list pins s σ H _ v vl vu lo hi sl Q I rx hs pl pu ⟨_, _, rfl, by rw [hK]; exact sqL_mono m.sub s1, fun p hp => ?_⟩
    obtain ⟨W', g, m', e'⟩ := m.lay (o := .lst (cutV vs lo hi)) hp (fun _ z => nomatch z)
    exact k _ _ W' g m' (.lst e' (g.reps (cutD_V q lo hi)))
theorem oneP {c1 : CE} {Wx : WX'} {α β : Type} {rel : GW → β → α → Prop} {f : Option Int → St → R α} {σ : L2.St} {H : Hp} {Q : β → Hp → Prop} {N0 W ρ st} (n : Now C N0 W ρ st σ H)
    (p : Post C rel ((evP G c1 ρ st).bind fun x st => f x st) W H Q (fun cls dd H' => Wx cls dd σ H')) :
    tP C Wx (evP G c1) σ H fun k H1 => ∃ W1 st, Now C N0 W1 ρ st σ H1 ∧ Post C rel (f k st) W1 H1 Q (fun cls dd H' => Wx cls dd σ H') ∧ Grow W H W1 H1 :=
  ⟨N0, W, ρ, st, n, (p.bind (rel := fun _ (b a : Option Int) => b = a)).imp fun x H1 ⟨W1, a, st1, g1, m1, ra, p1⟩ => ⟨W1, st1, n.grow g1 m1, ra ▸ p1, g1⟩⟩
theorem de_slc (hK : X.K = C.K) {c1 c2 c3 : CE} {e1 : Expr} {lo hi : Option Expr} {p2 pos : Pos} (h1 : DE C G X c1 e1) (h2 : DO C G X c2 lo) (h3 : DO C G X c3 hi) : DE C G X (.slc c1 c2 c3) (.Subscript e1 (.Slice lo hi none p2) pos) := fun Wx tk =>
  (pe_slice (sl_ok hK) (h1 Wx tk) (h2 Wx tk) (h3 Wx tk)).imp fun σ H Q ⟨N0, W, ρ, st, n, p⟩ => by
    simp only [evE] at p
    obtain ⟨N1, W1, ρ1, st1, n1, q⟩ := one n p
    refine ⟨N1, W1, ρ1, st1, n1, q.imp fun x H1 ⟨W2, st2, a, n2, ra, p2, g2⟩ => ?_⟩
    obtain ⟨N3, W3, ρ3, st3, n3, q⟩ := oneP n2 p2
    refine ⟨N3, W3, ρ3, st3, n3, q.imp fun l H2 ⟨W4, st4, n4, p4, g4⟩ => ?_⟩
    obtain ⟨N5, W5, ρ5, st5, n5, q⟩ := oneP n4 p4
    refine ⟨N5, W5, ρ5, st5, n5, q.imp fun h H3 ⟨W6, st6, n6, p6, g6⟩ => ?_⟩
    obtain ⟨d, ed, p6⟩ := p6.lift
    exact ⟨W6, st6, a, d, n6.1, g6.rep (g4.rep ra), ed, fun v H' W' g m r => p6 v H' W' g m r⟩
end
end DV
end

section
set_option linter.all false
set_option maxRecDepth 100000
set_option maxHeartbeats 1000000
/-! DV5: isinstance, built-ins, methods by values. -/
namespace DV
open PySem PySem.Spec PyProof.Rows L2
section
variable {C : PC} {G : Tell} {X : Cx}
/-! ### isinstance -/
def tyOf : Ty → String
  | .int => "int" | .bool => "bool" | .str => "str" | .tuple => "tuple" | .list => "list"
theorem isi_ty {K : PySem.W.Frag} {t : Ty} {s : String} {b : Bool} (h : kitB s (tyOf t) = some b) : PySem.W.kitOne K (.type s) (.type (tyOf t)) = some b := kit_ty h
theorem sqT_ty {K : PySem.W.Frag} {H : Hp} {a : Addr} {xs : List V} (h : SqT K H a xs) : TyX K H (.ref a) (.type "tuple") := by
  rcases h with (e | ⟨o, e⟩) | ⟨o, its, n, e, c, _⟩
  · exact .base (.tup e)
  · exact .fTuple e
  · exact .kTuple e c
def rIsD (C : PC) (t : Ty) : List V → Hp → VK → Prop := fun xs H Q => ∃ x W st a b, xs = [x, .ty (tyOf t)] ∧ MemOk C W st H ∧ RepW C W x a ∧ isiD t a = some b ∧ Q (.bl b) H
theorem call_isD (hK : X.K = C.K) (t : Ty) : CallR X (.builtin "isinstance") (rIsD C t) := by
  intro pins s σ H xs us Q I r h
  obtain ⟨x, W, st, a, b, rfl, m, ra, e, q⟩ := h
  have go : ∀ {T : String}, TyX X.K H x (.type T) → kitB T (tyOf t) = some b → wpAny (model X.prog X.w) X.A (call (.builtin "isinstance") us) (EP X pins σ Q) X.xe s := fun ty hk =>
    call_isi pins s σ H _ us Q I r ⟨x, .ty (tyOf t), _, _, b, rfl, .ty _, ty, isi_ty hk, q⟩
  cases ra <;> simp only [isiD] at e <;> try (cases e; done)
  · cases e
    exact go (.base .non) (by cases t <;> decide +kernel)
  · cases e
    exact go (.base (.bl _)) (by cases t <;> decide +kernel)
  · cases e
    exact go (.base (.int _)) (by cases t <;> decide +kernel)
  · cases e
    exact go (.base (.str _)) (by cases t <;> decide +kernel)
  · rename_i s1 q1
    cases e
    exact go (sqT_ty (by rw [hK]; exact s1.sqT m.sub)) (by cases t <;> decide +kernel)
  · rename_i s1 q1
    cases e
    exact go (.base (.lst (m.sub _ _ s1))) (by cases t <;> decide +kernel)
/-! ### built-ins -/
def rBl (C : PC) (b : Blt) : List V → Hp → VK → Prop := fun xs H Q => ∃ W st ds d, MemOk C W st H ∧ RepsW C W xs ds ∧ bltD b ds = some d ∧ ∀ v H' W', Grow W H W' H' → MemOk C W' st H' → RepW C W' v d → Q v H'
theorem allInt_rep {F : Hp} {μ : List Addr} : ∀ {vs : List V} {ds : List D} {ns : List Int}, Reps C F μ vs ds → allInt ds = some ns → vs = ns.map V.int
  | _, _, _, .nil, e => by simp [allInt] at e; subst e; rfl
  | _, _, _, .cons a r, e => by
    cases a <;> simp only [allInt] at e <;> try (cases e; done)
    obtain ⟨ns, e1, rfl⟩ := Option.map_eq_some_iff.mp e
    rw [allInt_rep r e1]; rfl
theorem allBl_rep {F : Hp} {μ : List Addr} : ∀ {vs : List V} {ds : List D} {ns : List Bool}, Reps C F μ vs ds → allBl ds = some ns → vs = ns.map V.bl
  | _, _, _, .nil, e => by simp [allBl] at e; subst e; rfl
  | _, _, _, .cons a r, e => by
    cases a <;> simp only [allBl] at e <;> try (cases e; done)
    obtain ⟨ns, e1, rfl⟩ := Option.map_eq_some_iff.mp e
    rw [allBl_rep r e1]; rfl
theorem allStr_rep {F : Hp} {μ : List Addr} : ∀ {vs : List V} {ds : List D} {ns : List (List Nat)}, Reps C F μ vs ds → allStr ds = some ns → vs = (ns.map S8).map V.str
  | _, _, _, .nil, e => by simp [allStr] at e; subst e; rfl
  | _, _, _, .cons a r, e => by
    cases a <;> simp only [allStr] at e <;> try (cases e; done)
    obtain ⟨ns, e1, rfl⟩ := Option.map_eq_some_iff.mp e
    rw [allStr_rep r e1]; rfl
theorem maxL_mem : ∀ (m : Int) (r : List Int), maxL m r ∈ m :: r
  | m, [] => by simp [maxL]
  | m, x :: r => by
    have := maxL_mem (max m x) r
    unfold maxL
    rcases List.mem_cons.mp this with h | h
    · rcases Int.le_total m x with q | q
      · rw [Int.max_eq_right q] at h ⊢
        rw [h]; simp
      · rw [Int.max_eq_left q] at h ⊢
        rw [h]; simp
    · exact List.mem_cons_of_mem _ (List.mem_cons_of_mem _ h)
theorem maxL_ge : ∀ (m : Int) (r : List Int), ∀ y ∈ m :: r, y ≤ maxL m r
  | m, [], y, h => by simp [maxL] at h ⊢; omega
  | m, x :: r, y, h => by
    unfold maxL
    have ih := maxL_ge (max m x) r
    rcases List.mem_cons.mp h with h | h
    · subst h; exact Int.le_trans (Int.le_max_left _ _) (ih _ List.mem_cons_self)
    · rcases List.mem_cons.mp h with h | h
      · subst h; exact Int.le_trans (Int.le_max_right _ _) (ih _ List.mem_cons_self)
      · exact ih _ (List.mem_cons_of_mem _ h)
theorem minL_mem : ∀ (m : Int) (r : List Int), minL m r ∈ m :: r
  | m, [] => by simp [minL]
  | m, x :: r => by
    have := minL_mem (min m x) r
    unfold minL
    rcases List.mem_cons.mp this with h | h
    · rcases Int.le_total m x with q | q
      · rw [Int.min_eq_left q] at h ⊢
        rw [h]; simp
      · rw [Int.min_eq_right q] at h ⊢
        rw [h]; simp
    · exact List.mem_cons_of_mem _ (List.mem_cons_of_mem _ h)
theorem minL_le : ∀ (m : Int) (r : List Int), ∀ y ∈ m :: r, minL m r ≤ y
  | m, [], y, h => by simp [minL] at h ⊢; omega
  | m, x :: r, y, h => by
    unfold minL
    have ih := minL_le (min m x) r
    rcases List.mem_cons.mp h with h | h
    · subst h; exact Int.le_trans (ih _ List.mem_cons_self) (Int.min_le_left _ _)
    · rcases List.mem_cons.mp h with h | h
      · subst h; exact Int.le_trans (ih _ List.mem_cons_self) (Int.min_le_right _ _)
      · exact ih _ (List.mem_cons_of_mem _ h)
/-- the one sorted list -/
theorem ins_perm (x : List Nat) : ∀ r, (insS x r).Perm (x :: r)
  | [] => .refl _
  | y :: r => by
    unfold insS
    split
    · exact ((ins_perm x r).cons y).trans (List.Perm.swap x y r)
    · exact .refl _
theorem sort_perm : ∀ r, (sortS r).Perm r
  | [] => .refl _
  | x :: r => (ins_perm x _).trans ((sort_perm r).cons x)
def upS : List (List Nat) → Prop := List.Pairwise fun a b => ¬ b < a
theorem ltL_trans {a b c : List Nat} (h : a < b) (g : b < c) : a < c := List.lt_trans h g
theorem ltL_total (a b : List Nat) : a < b ∨ a = b ∨ b < a := by
  rcases List.le_total a b with h | h
  · rcases (List.le_iff_lt_or_eq).mp h with q | q
    · exact .inl q
    · exact .inr (.inl q)
  · rcases (List.le_iff_lt_or_eq).mp h with q | q
    · exact .inr (.inr q)
    · exact .inr (.inl q.symm)
theorem nlt_trans {a b c : List Nat} (h : ¬ b < a) (g : ¬ c < b) : ¬ c < a := List.le_trans h g
theorem nlt_antisymm {a b : List Nat} (h : ¬ b < a) (g : ¬ a < b) : a = b := List.le_antisymm h g
theorem ins_up (x : List Nat) : ∀ r, upS r → upS (insS x r)
  | [], _ => List.pairwise_singleton _ _
  | y :: r, h => by
    have h' := List.pairwise_cons.mp h
    unfold insS
    split
    · rename_i hl
      refine List.pairwise_cons.mpr ⟨fun z hz => ?_, ins_up x r h'.2⟩
      rcases List.mem_cons.mp ((ins_perm x r).mem_iff.mp hz) with q | q
      · subst q; exact List.le_of_lt hl
      · exact h'.1 z q
    · rename_i hl
      refine List.pairwise_cons.mpr ⟨fun z hz => ?_, h⟩
      rcases List.mem_cons.mp hz with q | q
      · subst q; exact hl
      · exact nlt_trans hl (h'.1 z q)
theorem sort_up : ∀ r, upS (sortS r)
  | [] => .nil
  | x :: r => ins_up x _ (sort_up r)
theorem up_unique : ∀ {a b : List (List Nat)}, a.Perm b → upS a → upS b → a = b
  | [], b, p, _, _ => (List.Perm.nil_eq p)
  | x :: a, b, p, ha, hb => by
    cases b with
    | nil => exact absurd p.length_eq (by simp)
    | cons y b =>
      have ha' := List.pairwise_cons.mp ha
      have hb' := List.pairwise_cons.mp hb
      have e : x = y := by
        rcases List.mem_cons.mp (p.mem_iff.mp List.mem_cons_self) with q | q
        · exact q
        · rcases List.mem_cons.mp (p.symm.mem_iff.mp List.mem_cons_self) with q' | q'
          · exact q'.symm
          · exact nlt_antisymm (ha'.1 y q') (hb'.1 x q)
      subst e
      rw [up_unique ((List.perm_cons x).mp p) ha'.2 hb'.2]
theorem sort_eq {a b : List (List Nat)} (p : a.Perm b) (h : upS a) : a = sortS b := up_unique (p.trans (sort_perm b).symm) h (sort_up b)

theorem ltCps_lt : ∀ x y : List Nat, ltCps x y = decide (x < y)
  | [], [] => by simp [ltCps]
  | [], _ :: _ => by simp [ltCps]
  | _ :: _, [] => by simp [ltCps]
  | a :: r, b :: t => by
    rw [ltCps, ltCps_lt r t]
    by_cases h : a < b
    · simp [h, List.cons_lt_cons_iff]
    · by_cases e : a = b
      · subst e; simp [List.cons_lt_cons_iff]
      · simp [h, e, List.cons_lt_cons_iff]
theorem rising_up : ∀ (p : Str) (ys : List Str), risingS p ys = true → upS (p.cps.toList :: ys.map fun z => z.cps.toList)
  | p, [], _ => List.pairwise_singleton _ _
  | p, x :: r, h => by
    simp only [risingS, Bool.and_eq_true, Bool.not_eq_true', ltCps_lt, decide_eq_false_iff_not] at h
    have ih := rising_up x r h.2
    refine List.pairwise_cons.mpr ⟨fun z hz => ?_, ih⟩
    rcases List.mem_cons.mp hz with q | q
    · subst q; exact h.1
    · exact nlt_trans h.1 ((List.pairwise_cons.mp ih).1 z q)
theorem sortedS_up : ∀ (ys : List Str), sortedS ys = true → upS (ys.map fun z => z.cps.toList)
  | [], _ => .nil
  | x :: r, h => rising_up x r h
theorem strs_back (ss : List (List Nat)) : (ss.map S8).map (fun z => z.cps.toList) = ss := by
  rw [List.map_map]
  have : ((fun z : Str => z.cps.toList) ∘ S8) = id := by funext x; simp
  rw [this, List.map_id]
theorem s8_map (ys : List Str) : (ys.map fun z => z.cps.toList).map S8 = ys := by
  rw [List.map_map]
  have : (S8 ∘ fun z : Str => z.cps.toList) = id := by funext x; exact s8_of x
  rw [this, List.map_id]
theorem reps_strs {F : Hp} {μ : List Addr} : ∀ ys : List (List Nat), Reps C F μ ((ys.map S8).map V.str) (ys.map D.str)
  | [] => .nil
  | y :: ys => .cons (.str y) (reps_strs ys)
theorem reps1 {F : Hp} {μ : List Addr} {xs : List V} {d : D} (r : Reps C F μ xs [d]) : ∃ x, xs = [x] ∧ Rep C F μ x d := by
  cases r with | cons a r => cases r; exact ⟨_, rfl, a⟩
theorem reps2 {F : Hp} {μ : List Addr} {xs : List V} {d e : D} (r : Reps C F μ xs [d, e]) : ∃ x y, xs = [x, y] ∧ Rep C F μ x d ∧ Rep C F μ y e := by
  cases r with | cons a r => obtain ⟨y, rfl, b⟩ := reps1 r; exact ⟨_, _, rfl, a, b⟩
mutual
theorem py_noDict : ∀ d : D, dat d = true → (pyD d).hasDict = false
  | .non, _ => by simp [pyD, PyData.hasDict]
  | .bl b, _ => by simp [pyD, PyData.hasDict]
  | .int i, _ => by simp [pyD, PyData.hasDict]
  | .str x, h => by simp [pyD, PyData.hasDict]
  | .tup xs, h => by
    simp only [pyD, PyData.hasDict]
    exact pys_noDict xs (by simpa [dat] using h)
  | .lst xs, h => by
    simp only [pyD, PyData.hasDict]
    exact pys_noDict xs (by simpa [dat] using h)
  | .fro _, h => by simp [dat] at h
  | .dic _ _, h => by simp [dat] at h
  | .ref _, h => by simp [dat] at h
  | .fn _, h => by simp [dat] at h
  | .clo _ _, h => by simp [dat] at h
theorem pys_noDict : ∀ d : List D, dats d = true → PyData.hasDictAll (pyDs d) = false
  | [], _ => by simp [pyDs, PyData.hasDictAll]
  | d :: ds, h => by
    simp only [dats, Bool.and_eq_true] at h
    simp only [pyDs, PyData.hasDictAll, Bool.or_eq_false_iff]
    exact ⟨py_noDict d h.1, pys_noDict ds h.2⟩
end
/-- the value under a built-in's name -/
def bltV : Blt → Value
  | .len => .builtin "len" | .int => .type "int" | .abs => .builtin "abs" | .sum => .builtin "sum" | .max1 => .builtin "max" | .max2 => .builtin "max" | .min1 => .builtin "min" | .min2 => .builtin "min"
  | .any => .builtin "any" | .all => .builtin "all" | .tuple => .type "tuple" | .list => .type "list" | .sorted => .builtin "sorted" | .repr => .builtin "repr" | .gcd => .builtin "math.gcd" | .divmod => .builtin "divmod" | .dictzip => .none
/-- those that a suite may call -/
def bltHot : Blt → Bool
  | .len => true | .int => true | .abs => true | .tuple => true | .list => true | .repr => true | _ => false
/-- those that are served here -/
def bltOk : Blt → Bool
  | .dictzip => false | .sorted => false | _ => true
theorem blt_ok (hK : X.K = C.K) (hg : X.A.guards = some []) (hu : X.A.units + 200 < cLine) (b : Blt) (hb : bltOk b = true) (hc : bltHot b = true ∨ X.calm = true) : CallR X (bltV b) (rBl C b) := by
  intro pins s σ H xs us Q I r h
  obtain ⟨W, st, ds, d, m, ra, e, k⟩ := h
  have kk : ∀ {v d'}, d = d' → RepW C W v d' → Q v H := fun e r => k _ H W (Grow.refl W H) m (e ▸ r)
  have lay : ∀ {o' : HO} {p : Addr}, H p = none → (∀ ps, o' ≠ .tbl ps) → (∀ W', W'.F p = some o' → Grow W H W' (upd H p o') → RepW C W' (.ref p) d) → Q (.ref p) (upd H p o') := fun hp ht hr => by
    obtain ⟨W', g, m', e'⟩ := m.lay hp ht
    exact k _ _ W' g m' (hr W' e' g)
  cases b <;> simp only [bltV] <;> simp [bltOk] at hb <;> simp [bltHot] at hc
  · -- len
    simp only [bltD, bLen, bInt, bAbs, bSum, bMax1, bMin1, bMax2, bMin2, bAny, bAll, bTuple, bList, bRepr, bGcd, bDivmod] at e
    split at e <;> try (cases e; done)
    · obtain ⟨x, rfl, rx⟩ := reps1 ra
      cases rx with | tup s1 q => cases e; exact call_len_seq pins s σ H _ us Q I r ⟨_, _, rfl, .inr (by rw [hK]; exact s1.sqT m.sub), by rw [q.length]; exact kk rfl (.int _)⟩
    · obtain ⟨x, rfl, rx⟩ := reps1 ra
      cases rx with | lst s1 q => cases e; exact call_len_seq pins s σ H _ us Q I r ⟨_, _, rfl, .inl (.inl (.inl (m.sub _ _ s1))), by rw [q.length]; exact kk rfl (.int _)⟩
    · obtain ⟨x, rfl, rx⟩ := reps1 ra
      cases rx with | fro s1 q => cases e; exact call_len_seq pins s σ H _ us Q I r ⟨_, _, rfl, .inl (by rw [hK]; exact sqL_mono m.sub s1), by rw [q.length]; exact kk rfl (.int _)⟩
    · obtain ⟨x, rfl, rx⟩ := reps1 ra
      cases rx
      split at e <;> cases e
      rename_i hl
      exact call_len_str pins s σ H _ us Q I r ⟨_, rfl, by rw [s8_len, ← line_eq]; exact hl, by rw [s8_len]; exact kk rfl (.int _)⟩
  · simp only [bltD, bLen, bInt, bAbs, bSum, bMax1, bMin1, bMax2, bMin2, bAny, bAll, bTuple, bList, bRepr, bGcd, bDivmod] at e
    split at e <;> try (cases e; done)
    · obtain ⟨x, rfl, rx⟩ := reps1 ra
      cases rx; cases e
      exact call_int1 pins s σ H _ us Q I r (.inl ⟨_, rfl, kk rfl (.int _)⟩)
    · obtain ⟨x, rfl, rx⟩ := reps1 ra
      cases rx; cases e
      exact call_int1 pins s σ H _ us Q I r (.inr ⟨_, rfl, kk rfl (.int _)⟩)
  · simp only [bltD, bLen, bInt, bAbs, bSum, bMax1, bMin1, bMax2, bMin2, bAny, bAll, bTuple, bList, bRepr, bGcd, bDivmod] at e
    split at e <;> try (cases e; done)
    obtain ⟨x, rfl, rx⟩ := reps1 ra
    cases rx; cases e
    exact call_abs pins s σ H _ us Q I r ⟨_, rfl, kk rfl (.int _)⟩
  · simp only [bltD, bLen, bInt, bAbs, bSum, bMax1, bMin1, bMax2, bMin2, bAny, bAll, bTuple, bList, bRepr, bGcd, bDivmod] at e
    split at e <;> try (cases e; done)
    obtain ⟨x, rfl, rx⟩ := reps1 ra
    cases rx with
    | lst s1 q =>
      obtain ⟨ns, en, rfl⟩ := Option.map_eq_some_iff.mp e
      have := allInt_rep q en
      subst this
      exact cr_sum hc pins s σ H _ us Q I r ⟨_, ns, rfl, .inl (.inl (m.sub _ _ s1)), kk rfl (.int _)⟩
  · simp only [bltD, bLen, bInt, bAbs, bSum, bMax1, bMin1, bMax2, bMin2, bAny, bAll, bTuple, bList, bRepr, bGcd, bDivmod] at e
    split at e <;> try (cases e; done)
    obtain ⟨x, rfl, rx⟩ := reps1 ra
    cases rx with
    | lst s1 q =>
      obtain ⟨ns, en, e⟩ := Option.bind_eq_some_iff.mp e
      have := allInt_rep q en
      subst this
      cases ns with
      | nil => cases e
      | cons n rr =>
        cases e
        refine cr_max hc pins s σ H _ us Q I r ⟨_, n :: rr, rfl, .inl (.inl (m.sub _ _ s1)), by simp, fun mm h1 h2 => ?_⟩
        have : mm = maxL n rr := Int.le_antisymm (maxL_ge n rr mm h1) (h2 _ (maxL_mem n rr))
        exact kk rfl (this ▸ .int _)
  · simp only [bltD, bLen, bInt, bAbs, bSum, bMax1, bMin1, bMax2, bMin2, bAny, bAll, bTuple, bList, bRepr, bGcd, bDivmod] at e
    split at e <;> try (cases e; done)
    obtain ⟨x, y, rfl, rx, ry⟩ := reps2 ra
    cases rx; cases ry; cases e
    exact call_max2 hc pins s σ H _ us Q I r ⟨_, _, rfl, kk rfl (.int _)⟩
  · simp only [bltD, bLen, bInt, bAbs, bSum, bMax1, bMin1, bMax2, bMin2, bAny, bAll, bTuple, bList, bRepr, bGcd, bDivmod] at e
    split at e <;> try (cases e; done)
    obtain ⟨x, rfl, rx⟩ := reps1 ra
    cases rx with
    | lst s1 q =>
      obtain ⟨ns, en, e⟩ := Option.bind_eq_some_iff.mp e
      have := allInt_rep q en
      subst this
      cases ns with
      | nil => cases e
      | cons n rr =>
        cases e
        refine cr_min hc pins s σ H _ us Q I r ⟨_, n :: rr, rfl, .inl (.inl (m.sub _ _ s1)), by simp, fun mm h1 h2 => ?_⟩
        have : mm = minL n rr := Int.le_antisymm (h2 _ (minL_mem n rr)) (minL_le n rr mm h1)
        exact kk rfl (this ▸ .int _)
  · simp only [bltD, bLen, bInt, bAbs, bSum, bMax1, bMin1, bMax2, bMin2, bAny, bAll, bTuple, bList, bRepr, bGcd, bDivmod] at e
    split at e <;> try (cases e; done)
    obtain ⟨x, y, rfl, rx, ry⟩ := reps2 ra
    cases rx; cases ry; cases e
    exact call_min2 hc pins s σ H _ us Q I r ⟨_, _, rfl, kk rfl (.int _)⟩
  · simp only [bltD, bLen, bInt, bAbs, bSum, bMax1, bMin1, bMax2, bMin2, bAny, bAll, bTuple, bList, bRepr, bGcd, bDivmod] at e
    split at e <;> try (cases e; done)
    obtain ⟨x, rfl, rx⟩ := reps1 ra
    cases rx with
    | lst s1 q =>
      obtain ⟨ns, en, rfl⟩ := Option.map_eq_some_iff.mp e
      have := allBl_rep q en
      subst this
      exact cr_any hc pins s σ H _ us Q I r ⟨_, ns, rfl, .inl (.inl (m.sub _ _ s1)), kk rfl (.bl _)⟩
  · simp only [bltD, bLen, bInt, bAbs, bSum, bMax1, bMin1, bMax2, bMin2, bAny, bAll, bTuple, bList, bRepr, bGcd, bDivmod] at e
    split at e <;> try (cases e; done)
    obtain ⟨x, rfl, rx⟩ := reps1 ra
    cases rx with
    | lst s1 q =>
      obtain ⟨ns, en, rfl⟩ := Option.map_eq_some_iff.mp e
      have := allBl_rep q en
      subst this
      exact cr_all hc pins s σ H _ us Q I r ⟨_, ns, rfl, .inl (.inl (m.sub _ _ s1)), kk rfl (.bl _)⟩
  · -- tuple
    simp only [bltD, bLen, bInt, bAbs, bSum, bMax1, bMin1, bMax2, bMin2, bAny, bAll, bTuple, bList, bRepr, bGcd, bDivmod] at e
    split at e <;> try (cases e; done)
    · obtain ⟨x, rfl, rx⟩ := reps1 ra
      cases rx with | tup s1 q => cases e; exact call_tuple_F pins s σ H _ us Q I r ⟨_, _, rfl, .inr ⟨by rw [hK]; exact s1.sqT m.sub, kk rfl (.tup s1 q)⟩⟩
    · obtain ⟨x, rfl, rx⟩ := reps1 ra
      cases rx with | lst s1 q => cases e; exact call_tuple_F pins s σ H _ us Q I r ⟨_, _, rfl, .inl ⟨.inl (.inl (m.sub _ _ s1)), fun l o hl hd => lay hl (fun _ z => nomatch z) fun W' e' g => .tup (.inl ⟨o, e', hd⟩) (g.reps q)⟩⟩
  · simp only [bltD, bLen, bInt, bAbs, bSum, bMax1, bMin1, bMax2, bMin2, bAny, bAll, bTuple, bList, bRepr, bGcd, bDivmod] at e
    split at e <;> try (cases e; done)
    · obtain ⟨x, rfl, rx⟩ := reps1 ra
      cases rx with | tup s1 q => cases e; exact call_list_of pins s σ H _ us Q I r ⟨_, _, rfl, .inr (by rw [hK]; exact s1.sqT m.sub), fun l hl => lay hl (fun _ z => nomatch z) fun W' e' g => .lst e' (g.reps q)⟩
    · obtain ⟨x, rfl, rx⟩ := reps1 ra
      cases rx with | lst s1 q => cases e; exact call_list_of pins s σ H _ us Q I r ⟨_, _, rfl, .inl (.inl (.inl (m.sub _ _ s1))), fun l hl => lay hl (fun _ z => nomatch z) fun W' e' g => .lst e' (g.reps q)⟩
  · -- repr
    cases ds with
    | nil => cases e
    | cons d0 ds => cases ds with
      | cons d1 ds => cases e
      | nil =>
        simp only [bltD, bRepr] at e
        obtain ⟨x, rfl, rx⟩ := reps1 ra
        split at e
        · rename_i hh
          cases e
          simp only [Bool.and_eq_true, decide_eq_true_eq] at hh
          obtain ⟨⟨h1, h2⟩, h3⟩ := hh
          have h1d : dat d0 = true := by simp only [shp, Bool.and_eq_true] at h1; exact h1.1
          have hdep : dep d0 ≤ 64 := by simp only [shp, Bool.and_eq_true, decide_eq_true_eq] at h1; exact h1.2
          have hline : (pyD d0).shown.length ≤ sizeLine := by rw [← line_eq]; exact h3
          obtain ⟨u, rfl, ru⟩ := vals1 r
          have fin : ∀ (h' : Heap) (t : Tok) (tk : Nat), (∀ b o, s.heap.get? b = some o → h'.get? b = some o) → EP X pins σ Q (.str (pyD d0).shown t) { s with heap := h', toks := tk } := fun h' t tk hk =>
            ⟨.str _, H, I.kept (t' := tk) hk, ⟨t, rfl⟩, by have := kk rfl (Rep.str (C := C) (F := W.F) (μ := W.μ) (pyD d0).shown.cps.toList); rw [s8_of] at this; exact this⟩
          have refCase : ∀ a, u = .ref a → wpAny (model X.prog X.w) X.A (call (.builtin "repr") [u]) (EP X pins σ Q) X.xe s := fun a ea => by
            subst ea
            obtain ⟨as, rd⟩ := Dp.reads I (pyD d0) x (.ref a) (by rw [hK]; exact rep_dp m.sub _ _ h1d rx) ru
            have hnd : (pyD d0).hasDict = false := py_noDict d0 h1d
            exact repr_of_reads' rd h2 (PyData.noDict_hsm hnd) hg (by have := py_dep d0; omega) (fun _ _ e => e) (fun h' u tk hk => fin h' u tk hk) hline
          cases rx with
          | non => cases ru; exact P.repr_of_none (fin _ _ _ fun _ _ e => e)
          | bl b => cases ru; exact P.repr_of_bool (fin _ _ _ fun _ _ e => e)
          | int i =>
            obtain ⟨t, rfl⟩ := ru
            exact P.repr_of_int (by simpa [pyD, PyData.showable] using h2) (fin _ _ _ fun _ _ e => e)
          | str z =>
            obtain ⟨t, rfl⟩ := ru
            exact P.repr_of_str (hsz := hline) (fin _ _ _ fun _ _ e => e)
          | tup _ _ => exact refCase _ ru
          | lst _ _ => exact refCase _ ru
          | fro _ _ => exact refCase _ ru
          | dK _ _ => exact refCase _ ru
          | dT _ _ _ _ _ => exact refCase _ ru
          | ref _ => exact refCase _ ru
          | fn _ => exact refCase _ ru
          | clo _ _ _ _ _ _ _ => exact refCase _ ru
        · cases e
  · simp only [bltD, bLen, bInt, bAbs, bSum, bMax1, bMin1, bMax2, bMin2, bAny, bAll, bTuple, bList, bRepr, bGcd, bDivmod] at e
    split at e <;> try (cases e; done)
    obtain ⟨x, y, rfl, rx, ry⟩ := reps2 ra
    cases rx; cases ry; cases e
    exact cr_gcd pins s σ H _ us Q I r ⟨_, _, rfl, kk rfl (.int _)⟩
  · simp only [bltD, bLen, bInt, bAbs, bSum, bMax1, bMin1, bMax2, bMin2, bAny, bAll, bTuple, bList, bRepr, bGcd, bDivmod] at e
    split at e <;> try (cases e; done)
    obtain ⟨x, y, rfl, rx, ry⟩ := reps2 ra
    cases rx; cases ry
    split at e <;> cases e
    rename_i hh
    exact call_divmodF pins s σ H _ us Q I r ⟨_, _, rfl, ⟨hh.1, hh.2⟩, fun p o hp hd => lay hp (fun _ z => nomatch z) fun W' e' g => .tup (.inl ⟨o, e', hd⟩) (.cons (.int _) (.cons (.int _) .nil))⟩

/-- sorted of a list or a tuple of texts -/
theorem call_sortedSeq {ss : List Str} {a : Addr} (pins : List (Addr × Obj)) (s : Shared) (σ : L2.St) (H : Hp) (us : List Value) (Q : VK) (I : Inv X pins σ H s) (r : Vals [.ref a] us) (hs : SqL X.K H a (ss.map V.str) ∨ SqT X.K H a (ss.map V.str)) (h64 : ss.length < 64)
    (q : ∀ ys p, ys.Perm ss → sortedS ys = true → H p = none → Q (.ref p) (upd H p (.lst (ys.map V.str)))) : wpAny (model X.prog X.w) X.A (call (.builtin "sorted") us) (EP X pins σ Q) X.xe s := by
  obtain ⟨u, eu, rx⟩ := vals1 r
  subst eu
  cases rx
  obtain ⟨T, o, its, n, hT, ho, hc, hd, rv⟩ : ∃ (T : String) (o : Obj) (its : List Value) (n : Nat), (T = "list" ∨ T = "tuple") ∧ s.heap.get? a = some o ∧ o.cls = .type T ∧ o.data = .seq its.toArray n ∧ Vals (ss.map V.str) its := by
    rcases hs with h | h
    · obtain ⟨its, rv, ⟨o, n, ho, hc, _, hd⟩, _⟩ := I.list h
      exact ⟨"list", o, its, n, .inl rfl, ho, hc, hd, rv⟩
    · obtain ⟨its, rv, ⟨o, ho, hc, n, hd⟩, _⟩ := I.tuple h
      exact ⟨"tuple", o, its, n, .inr rfl, ho, hc, hd, rv⟩
  have hS : StrsAre its ss := rv.strs
  have hl : its.length = ss.length := by have := rv.length; rw [List.length_map] at this; exact this.symm
  refine Calls.call_function_entry PyProof.Rows.kind_sorted PyProof.Rows.plain_sorted PyProof.Rows.entry_sorted (PyProof.Rows.args_sorted1 _) ?_
  unfold Builtin.«sorted»
  refine wpAny_bind (m := checkCount "sorted" 1 1 _) (wpAny_pure ?_)
  refine wpAny_bind (wpAny_collect_seq (A := X.A.in1) (E := X.xe) a hT ho hc hd (fun h' hk => ?_) (by simp only [List.size_toArray, hl, sizeLine_eq]; omega))
  show wpAny _ _ (newList its.toArray.toList >>= _) _ _ _
  have e0 : its.toArray.toList = its := by simp
  rw [e0]
  have I1 : Inv X pins σ H { s with heap := h', toks := s.toks } := I.kept hk
  refine wpAny_bind (wpAny_newList ?_ (by rw [hl, sizeLine_eq]; omega))
  have hoL : (h'.push (seqObj "list" its.toArray 0)).get? h'.objs.size = some (seqObj "list" its.toArray 0) := Heap.get?_push_size _ rfl
  show wpAny _ _ _ _ _ { s with heap := h'.push (seqObj "list" its.toArray 0) }
  refine wpAny_bind (wpAny_holding (wpAny_call_entry PyProof.Rows.slot_list_sort ⟨_, hoL, rfl⟩ PyProof.Rows.entry_list_sort
    (list_sort_treeK strKind_oneLt (s := { s with heap := h'.push (seqObj "list" its.toArray 0) }) hoL hS.keysOf (fun v₁ v₂ rest e => keyKind_strs (by rw [← e]; exact hS)) (by rw [hl]; exact h64) fun st' hp hs => ⟨_, rfl, ?_⟩)
    (PyProof.Rows.args_list_sort _)))
  obtain ⟨ys, g1, g2, g3⟩ := sorted_out_str hS hp hs
  obtain ⟨e', he'⟩ := PyProof.Rows.sortedHeap_at (vs := its) (out := (arrOf st').map (·.2)) hoL
  have hlen : (ys.map V.str).length ≤ sizeLine := by
    rw [List.length_map, g2.length_eq]
    exact Nat.le_trans (Nat.le_of_lt h64) (by decide)
  refine wpAny_pure ⟨_, rfl, .ref h'.objs.size, upd H h'.objs.size (.lst (ys.map V.str)), I1.laid (t' := s.toks) (fun b u e => ?_) (Nat.le_refl _)
    (show ObjOk X.prog X.w _ _ _ (.lst (ys.map V.str)) from ⟨hlen, ((arrOf st').map (·.2)).toList, e', vals_of_strs g1, by rw [Array.toArray_toList]; exact he'⟩), rfl, q ys _ g2 g3 (I1.hok.fresh (Nat.le_refl _))⟩
  have hb : b < h'.objs.size := Heap.lt_size e
  rw [PyProof.Rows.sortedHeap_old (Nat.ne_of_lt hb) (by rw [size_push']; exact Nat.lt_succ_of_lt hb)]
  exact Heap.get?_push_of_some _ e
theorem sorted_ok (hK : X.K = C.K) : CallR X (bltV .sorted) (rBl C .sorted) := by
  intro pins s σ H xs us Q I r h
  obtain ⟨W, st, ds, d, m, ra, e, k⟩ := h
  have go : ∀ {a : Addr} {vs : List V} {es : List D}, xs = [.ref a] → (SqL X.K H a vs ∨ SqT X.K H a vs) → Reps C W.F W.μ vs es → (allStr es).bind (fun ss => if ss.length < 64 then some (D.lst ((sortS ss).map .str)) else none) = some d → wpAny (model X.prog X.w) X.A (call (bltV .sorted) us) (EP X pins σ Q) X.xe s := fun {a vs es} ex hs q e0 => by
    clear e
    subst ex
    obtain ⟨ss, e1, e2⟩ := Option.bind_eq_some_iff.mp e0
    have h64 : ss.length < 64 := by
      by_cases h : ss.length < 64
      · exact h
      · rw [if_neg h] at e2; cases e2
    rw [if_pos h64] at e2
    cases e2
    have := allStr_rep q e1
    subst this
    refine call_sortedSeq pins s σ H us Q I r hs (by simpa using h64) fun ys p hp hsd hn => ?_
    have e2 : ys.map (fun z => z.cps.toList) = sortS ss := sort_eq (by have := hp.map fun z : Str => z.cps.toList; rw [strs_back] at this; exact this) (sortedS_up _ hsd)
    obtain ⟨W', g, m', e'⟩ := m.lay (o := .lst (ys.map V.str)) hn (fun _ z => nomatch z)
    refine k _ _ W' g m' (.lst e' ?_)
    rw [← e2]
    have := reps_strs (C := C) (F := W'.F) (μ := W'.μ) (ys.map fun z => z.cps.toList)
    rw [s8_map] at this
    exact this
  cases ds with
  | nil => cases e
  | cons d0 ds => cases ds with
    | cons d1 ds => cases e
    | nil =>
      simp only [bltD, bSorted] at e
      obtain ⟨x, rfl, rx⟩ := reps1 ra
      cases rx with
      | tup s1 q => simp only [seqD, Option.bind_some] at e; exact go rfl (.inr (by rw [hK]; exact s1.sqT m.sub)) q e
      | lst s1 q => simp only [seqD, Option.bind_some] at e; exact go rfl (.inl (.inl (.inl (m.sub _ _ s1)))) q e
      | _ => cases e
/-! ### methods by values -/
def rMt (C : PC) (mt : Mth) : V → List V → Hp → VK → Prop := fun x xs H Q => ∃ W st a ds d, MemOk C W st H ∧ RepW C W x a ∧ RepsW C W xs ds ∧ mthD mt a ds = some d ∧ ∀ v H' W', Grow W H W' H' → MemOk C W' st H' → RepW C W' v d → Q v H'
def mtN : Mth → Str
  | .index => "index" | .count => "count" | .split => "split"
/-- the type and the method's own name, by the receiver -/
def mtT : D → Option String
  | .tup _ => some "tuple" | .lst _ => some "list" | .str _ => some "str" | _ => none
def mtId (T : String) (m : Mth) : Option String := match m with
  | .index => if T = "tuple" then some "tuple.index" else if T = "list" then some "list.index" else none
  | .count => if T = "list" then some "list.count" else none
  | .split => if T = "str" then some "str.split" else none
theorem recv_is (hK : X.K = C.K) {pins : List (Addr × Obj)} {σ : L2.St} {H : Hp} {s : Shared} {W : GW} {st : St} (I : L2.Inv X pins σ H s) (m : MemOk C W st H) {x : V} {v : Value} {a : D} {T : String} (rx : RelV x v) (ra : RepW C W x a) (e : mtT a = some T) :
    s.TypeIs v T ∧ ∀ p, v = .ref p → ∃ ob, s.heap.get? p = some ob ∧ ob.dict = none := by
  cases ra <;> simp only [mtT] at e <;> cases e
  · obtain ⟨t, rfl⟩ := rx
    exact ⟨typeIs_str s _ t, fun _ e => nomatch e⟩
  · rename_i p vs ds s1 q
    cases rx
    obtain ⟨o, its, n, h1, h2, h3, _⟩ := TupS.obj I (hK ▸ s1) m.sub
    exact ⟨⟨o, h1, h2⟩, fun p e => by cases e; exact ⟨o, h1, h3⟩⟩
  · rename_i p vs ds s1 q
    cases rx
    obtain ⟨its, _, pl, _⟩ := I.list (.inl (.inl (m.sub _ _ s1)))
    refine ⟨pl.isList.typeIs, fun a e => ?_⟩
    cases e
    obtain ⟨o, n, e, c, hd, _⟩ := pl
    exact ⟨o, e, hd⟩
theorem idxD_at {y : D} : ∀ {xs : List D} {n k : Nat}, idxD y xs n = some k → ∃ j z, k = n + j ∧ xs[j]? = some z ∧ eqD z y = true ∧ ∀ m z', m < j → xs[m]? = some z' → eqD z' y = false
  | [], _, _, e => by simp [idxD] at e
  | x :: r, n, k, e => by
    unfold idxD at e
    by_cases h : eqD x y = true
    · rw [if_pos h] at e
      cases e
      exact ⟨0, x, rfl, rfl, h, fun m z' hm => absurd hm (Nat.not_lt_zero _)⟩
    · rw [if_neg h] at e
      obtain ⟨j, z, e1, e2, e3, e4⟩ := idxD_at e
      refine ⟨j + 1, z, by omega, by simpa using e2, e3, fun m z' hm hz => ?_⟩
      cases m with
      | zero => simp at hz; subst hz; simpa using h
      | succ m => exact e4 m z' (by omega) (by simpa using hz)
theorem eqV_flat {F : Hp} {μ : List Addr} {vs : List V} {ds : List D} {y : V} {d : D} (q : Reps C F μ vs ds) (ry : Rep C F μ y d) (h1 : flat d = true) (h2 : ds.all flat = true) {j : Nat} {z : D} (e : ds[j]? = some z) : ∃ w, vs[j]? = some w ∧ eqV w y = eqD z d := by
  obtain ⟨w, e1, r⟩ := q.get e
  exact ⟨w, e1, eqV_rep r ry (List.all_eq_true.mp h2 z (List.mem_of_getElem? e)) h1⟩
theorem count_rep {F : Hp} {μ : List Addr} {y : V} {d : D} (ry : Rep C F μ y d) (h1 : flat d = true) : ∀ {vs : List V} {ds : List D} {us : List Value}, Reps C F μ vs ds → Vals vs us → ds.all flat = true → us.countP (eqU y) = (ds.filter fun x => eqD x d).length
  | _, _, _, .nil, .nil, _ => rfl
  | _, _, _, .cons a r, .cons b s, h => by
    simp only [List.all_cons, Bool.and_eq_true] at h
    rw [List.countP_cons, List.filter_cons, count_rep ry h1 r s h.2, eqU_of b (flat_rep a h.1), eqV_rep a ry h.1 h1]
    split <;> simp
theorem mth_ok (hK : X.K = C.K) (mt : Mth) {pins : List (Addr × Obj)} {s : Shared} {σ : L2.St} {H : Hp} {x : V} {xs : List V} {v : Value} {us : List Value} {Q : VK} {W : GW} {st : St} {a : D} {ds : List D} {d : D} {T id : String} (I : L2.Inv X pins σ H s) (rx : RelV x v) (rxs : Vals xs us)
    (m : MemOk C W st H) (ra : RepW C W x a) (rds : RepsW C W xs ds) (e : mthD mt a ds = some d) (eT : mtT a = some T) (eI : mtId T mt = some id) (k : ∀ v H' W', Grow W H W' H' → MemOk C W' st H' → RepW C W' v d → Q v H') :
    wpAny (model X.prog X.w) X.A (call (.builtin id) (v :: us)) (EP X pins σ Q) X.xe s := by
  have kk : ∀ {v d'}, d = d' → RepW C W v d' → Q v H := fun e r => k _ H W (Grow.refl W H) m (e ▸ r)
  unfold mthD at e
  split at e
  · -- tuple.index
    rename_i zs y
    obtain ⟨yv, rfl, ry⟩ := reps1 rds
    obtain ⟨u, rfl, ru⟩ := rxs.one
    simp only [mtT] at eT; cases eT
    simp [mtId] at eI; subst eI
    split at e <;> try (cases e; done)
    rename_i hh
    simp only [Bool.and_eq_true] at hh
    obtain ⟨n0, en, rfl⟩ := Option.map_eq_some_iff.mp e
    obtain ⟨j, z, hj, ez, e1, e2⟩ := idxD_at en
    cases ra with
    | @tup _ _ p vs _ s1 q =>
      cases rx
      obtain ⟨⟨cls, dd, data, sl⟩, its, n, ho, hc, hdn, hd, hsz, rv⟩ := TupS.obj I (hK ▸ s1) m.sub
      simp only at hc hd hdn
      subst hc hd
      obtain ⟨w, ew, eqw⟩ := eqV_flat q ry hh.1 hh.2 ez
      obtain ⟨uw, eu, rw'⟩ := rv.get ew
      have fl := flat_rep ry hh.1
      have fls := flat_reps q hh.2
      have hlj : j < its.size := by
        have := (List.getElem?_eq_some_iff.mp eu).1
        simpa using this
      refine call_meets PySem.F.slot_tuple_index ⟨_, ho, rfl⟩ PySem.F.entry_tuple_index (PySem.F.args_tuple_index_2 _ _) (TI.tuple_indexAt p its n dd sl u (eqU yv) j hlj ?_ ?_) ⟨ho, fun u' hu' => mem_eqAt ru fl rv fls u' (by simpa using hu'), ?_⟩
      · have e3 : its[j] = uw := by have := (List.getElem?_eq_some_iff.mp eu).2; simpa using this
        rw [e3, eqU_of rw' (flat_at fls ew), eqw, e1]
      · intro i hi hij
        have hi' : i < zs.length := by
          have h1 := rv.length
          have h2 := q.length
          simp only [Array.length_toList] at h1
          omega
        obtain ⟨w2, ew2, eqw2⟩ := eqV_flat q ry hh.1 hh.2 (List.getElem?_eq_getElem hi')
        obtain ⟨uw2, eu2, rw2⟩ := rv.get ew2
        have e3 : its[i] = uw2 := by have := (List.getElem?_eq_some_iff.mp eu2).2; simpa using this
        rw [e3, eqU_of rw2 (flat_at fls ew2), eqw2]
        exact e2 i _ hij (List.getElem?_eq_getElem hi')
      · have : n0 = j := by omega
        subst this
        exact ⟨.int (n0 : Nat), H, I.tok _, ⟨_, rfl⟩, kk rfl (.int _)⟩
  · rename_i zs y
    obtain ⟨yv, rfl, ry⟩ := reps1 rds
    simp only [mtT] at eT; cases eT
    simp [mtId] at eI; subst eI
    split at e <;> try (cases e; done)
    rename_i hh
    simp only [Bool.and_eq_true] at hh
    obtain ⟨n0, en, rfl⟩ := Option.map_eq_some_iff.mp e
    obtain ⟨j, z, hj, ez, e1, e2⟩ := idxD_at en
    cases ra with
    | lst s1 q =>
      obtain ⟨w, ew, eqw⟩ := eqV_flat q ry hh.1 hh.2 ez
      refine mt_index pins s σ H _ _ _ _ Q I rx rxs ⟨_, _, yv, j, w, rfl, rfl, .inl (.inl (m.sub _ _ s1)), flat_rep ry hh.1, flat_reps q hh.2, ew, by rw [eqw, e1], fun i z' hi hz' => ?_, ?_⟩
      · obtain ⟨z2, ez2, _⟩ := q.getV hz'
        obtain ⟨w3, ew3, eqw3⟩ := eqV_flat q ry hh.1 hh.2 ez2
        rw [hz'] at ew3; cases ew3
        rw [eqw3]; exact e2 i z2 hi ez2
      · have : n0 = j := by omega
        subst this
        exact kk rfl (.int _)
  · -- list.count
    rename_i zs b
    obtain ⟨yv, rfl, ry⟩ := reps1 rds
    obtain ⟨u, rfl, ru⟩ := rxs.one
    simp only [mtT] at eT; cases eT
    simp [mtId] at eI; subst eI
    split at e <;> try (cases e; done)
    rename_i hh
    cases e
    have hfl : zs.all flat = true := List.all_eq_true.mpr fun z hz => by
      have := List.all_eq_true.mp hh z hz
      cases z <;> simp_all [flat]
    cases ra with
    | @lst _ _ p vs _ s1 q =>
      cases rx
      obtain ⟨its, rv, ⟨⟨cls, dd, data, sl⟩, n, ho, hc, hdn, hd⟩, hlen⟩ := I.list (.inl (.inl (m.sub _ _ s1)))
      simp only at hc hd
      subst hc hd
      have fl := flat_rep ry (show flat (.bl b) = true from rfl)
      have fls := flat_reps q hfl
      refine call_meets PySem.F.slot_list_count ⟨_, ho, rfl⟩ PySem.F.entry_list_count (PySem.F.args_list_count_2 _ _)
        (SeqAt.list_countAt p its.toArray n dd sl u (eqU yv)) ⟨ho, fun u' hu' => mem_eqAt ru fl rv fls u' (by simpa using hu'), ?_⟩
      have ec : its.toArray.toList.countP (eqU yv) = (zs.filter fun x => eqD x (.bl b)).length := by
        rw [show its.toArray.toList = its by simp]
        exact count_rep ry rfl q rv hfl
      rw [ec]
      exact ⟨.int _, H, I.tok _, ⟨_, rfl⟩, kk rfl (.int _)⟩
  · -- str.split
    rename_i z y
    obtain ⟨yv, rfl, ry⟩ := reps1 rds
    simp only [mtT] at eT; cases eT
    simp [mtId] at eI; subst eI
    split at e <;> try (cases e; done)
    rename_i hh
    cases e
    cases ra; cases ry
    refine mt_split pins s σ H _ _ _ _ Q I rx rxs ⟨S8 z, S8 y, rfl, rfl, ?_, by rw [s8_len, ← line_eq]; exact hh.2, fun p hp => ?_⟩
    · rw [s8_len]
      have : y.length ≠ 0 := fun q => hh.1 (List.length_eq_zero_iff.mp q)
      simpa using this
    · obtain ⟨W', g, m', e'⟩ := m.lay (o := .lst ((Txt.split (S8 z) (S8 y)).map V.str)) hp (fun _ z => nomatch z)
      refine k _ _ W' g m' (.lst e' ?_)
      have := reps_strs (C := C) (F := W'.F) (μ := W'.μ) ((Txt.split (S8 z) (S8 y)).map fun z => z.cps.toList)
      rw [s8_map] at this
      simpa [List.map_map, Function.comp_def] using this
  · cases e
end
end DV
end

section
set_option linter.all false
set_option maxRecDepth 100000
set_option maxHeartbeats 1000000
/-! DV6: calls of built-ins and methods as expressions. -/
namespace DV
open PySem PySem.Spec PyProof.Rows L2
section
variable {C : PC} {G : Tell} {X : Cx}
def bltN : Blt → Str
  | .len => "len" | .int => "int" | .abs => "abs" | .sum => "sum" | .max1 => "max" | .max2 => "max" | .min1 => "min" | .min2 => "min"
  | .any => "any" | .all => "all" | .tuple => "tuple" | .list => "list" | .sorted => "sorted" | .repr => "repr" | .gcd => "gcd" | .divmod => "divmod" | .dictzip => "dict"
theorem bltN_boot (b : Blt) (h : b ≠ .gcd) (h2 : b ≠ .dictzip) : bootBuiltins (bltN b) = some (bltV b) := by
  cases b <;> first | exact absurd rfl h | exact absurd rfl h2 | decide +kernel
theorem bltN_dbg (b : Blt) : (bltN b == ("__debug__" : Str)) = false := by cases b <;> decide +kernel
theorem bltN_nm (b : Blt) : bltN b ≠ "__name__" := by cases b <;> decide +kernel
/-- what the module says of the built-ins' names that are used -/
def BltM (X : Cx) (b : Blt) : Prop := if b = .gcd then X.mg "gcd" = some (.builtin "math.gcd") else X.mg (bltN b) = none
theorem pe_blt {b : Blt} {r : List V → Hp → VK → Prop} {p pos : Pos} {e : Expr} {es : List Expr} {t : TA} (h2 : b ≠ .dictzip) (hc : CallR X (bltV b) r) (hg : Gl X (bltN b)) (hm : BltM X b) (ha : PA X (e :: es) t) (hs : (e :: es).all notStar = true) :
    PE X (.Call (.Name (bltN b) p) (e :: es) [] pos) (tCB r t) := by
  simp only [List.all_cons, Bool.and_eq_true] at hs
  have he := starEach_of hs.1 es X.env
  have hpl := star_any (pos := pos) (env := X.env) es hs.2
  by_cases hb : b = .gcd
  · subst hb
    exact pe_callBfun hc hg (by unfold BltM at hm; rw [if_pos rfl] at hm; exact hm) ha (bltN_dbg _) he hpl
  · unfold BltM at hm
    rw [if_neg hb] at hm
    have hv := bltN_boot b hb h2
    cases b <;> first
      | exact absurd rfl hb
      | exact absurd rfl h2
      | exact pe_callB hc hg hm hv ha (bltN_nm _) (bltN_dbg _) he hpl
      | exact pe_callTy hc hg hm hv ha (bltN_nm _) (bltN_dbg _) he hpl
theorem de_blt {b : Blt} {c : CE} {e : Expr} {es : List Expr} {p pos : Pos} (h2 : b ≠ .dictzip) (hc : CallR X (bltV b) (rBl C b)) (hg : Gl X (bltN b)) (hm : BltM X b) (h : DA C G X c (e :: es)) (hs : (e :: es).all notStar = true) :
    DE C G X (.blt b c) (.Call (.Name (bltN b) p) (e :: es) [] pos) := fun Wx tk =>
  (pe_blt h2 hc hg hm (h Wx tk) hs).imp fun σ H Q ⟨N0, W, ρ, st, n, p⟩ => by
    simp only [evE] at p
    obtain ⟨N1, W1, ρ1, st1, n1, q⟩ := args n p
    refine ⟨N1, W1, ρ1, st1, n1, q.imp fun xs H1 ⟨W2, st2, as, n2, ra, p2, g2⟩ => ?_⟩
    obtain ⟨d, ed, p2⟩ := p2.lift
    exact ⟨W2, st2, as, d, n2.1, ra, ed, fun v H' W' g m r => p2 v H' W' g m r⟩
/-! ### isinstance -/
def tyN : Ty → Str
  | .int => "int" | .bool => "bool" | .str => "str" | .tuple => "tuple" | .list => "list"
theorem tyN_boot (t : Ty) : bootBuiltins (tyN t) = some (.type (tyOf t)) := by cases t <;> decide +kernel
theorem tyN_dbg (t : Ty) : (tyN t == ("__debug__" : Str)) = false := by cases t <;> decide +kernel
theorem tyN_nm (t : Ty) : tyN t ≠ "__name__" := by cases t <;> decide +kernel
theorem isi_boot : bootBuiltins "isinstance" = some (.builtin "isinstance") := by decide +kernel
theorem de_isi (hK : X.K = C.K) {t : Ty} {c : CE} {e : Expr} {p p2 pos : Pos} (hg : Gl X "isinstance") (hm : X.mg "isinstance" = none) (hgt : Gl X (tyN t)) (hmt : X.mg (tyN t) = none) (hs : notStar e = true) (h : DE C G X c e) :
    DE C G X (.isi t c) (.Call (.Name "isinstance" p) [e, .Name (tyN t) p2] [] pos) := fun Wx tk =>
  (pe_callB (call_isD hK t) hg hm isi_boot (pa_cons (h Wx tk) (pa_cons (pe_bltn (v := .ty (tyOf t)) hgt hmt (tyN_boot t) rfl (tyN_nm t) (tyN_dbg t)) pa_nil rfl) (starEach_of hs _ _)) (by decide) (by decide) (starEach_of hs _ _) rfl).imp fun σ H Q ⟨N0, W, ρ, st, n, p⟩ => by
    simp only [evE] at p
    obtain ⟨N1, W1, ρ1, st1, n1, q⟩ := one n p
    refine ⟨N1, W1, ρ1, st1, n1, q.imp fun x H1 ⟨W2, st2, a, n2, ra, p2, g2⟩ => ?_⟩
    obtain ⟨d, ed, p2⟩ := p2.lift
    obtain ⟨k, ek, rfl⟩ := Option.map_eq_some_iff.mp ed
    exact ⟨x, W2, st2, a, k, rfl, n2.1, ra, ek, p2.okI n2.1 (.bl _)⟩
/-! ### methods -/
theorem slotM {T id : String} {m : Mth} (h : mtId T m = some id) : Slot T (mtN m) id ∧ typeOf (.builtin id) = pure (.type "method_descriptor") ∧ PlainAttrs T := by
  cases m <;> simp only [mtId] at h
  · split at h
    · rename_i hT; cases h; subst hT; exact ⟨PySem.F.slot_tuple_index, PySem.F.type_tuple_index, PySem.F.plainAttrs_tuple⟩
    · split at h <;> cases h
      rename_i hT; subst hT; exact ⟨PySem.F.slot_list_index, PySem.F.type_list_index, PySem.F.plainAttrs_list⟩
  · split at h <;> cases h
    rename_i hT; subst hT; exact ⟨PySem.F.slot_list_count, PySem.F.type_list_count, PySem.F.plainAttrs_list⟩
  · split at h <;> cases h
    rename_i hT; subst hT; exact ⟨PySem.F.slot_str_split, PySem.F.type_str_split, PySem.F.plainAttrs_str⟩
theorem mtOk_ty {mt : Mth} {a : D} (e : mtOk mt a = true) : ∃ T id, mtT a = some T ∧ mtId T mt = some id := by
  cases mt <;> cases a <;> simp [mtOk] at e <;> exact ⟨_, _, rfl, by simp [mtId]; rfl⟩
/-- o.m(e) where o is no call of super -/
def notCall : Expr → Bool
  | .Call _ _ _ _ => false
  | _ => true
theorem base_of {o : Expr} (h : notCall o = true) (name : Str) (env : PySem.Env) (w : Sem Value) : attributeBase o name env w = w := by
  cases o <;> first | rfl | cases h
theorem de_mth (hK : X.K = C.K) {mt : Mth} {c1 c2 : CE} {o e : Expr} {apos cpos : Pos} (hb : notCall o = true) (hline : (apos.endLine == cpos.line) = true) (hs : notStar e = true) (h1 : DE C G X c1 o) (h2 : DA C G X c2 [e]) :
    DE C G X (.mth mt c1 c2) (.Call (.Attribute o (mtN mt) apos) [e] [] cpos) := fun Wx tk => by
  refine ⟨fun pins s σ H Q I h => ?_⟩
  obtain ⟨N0, W, ρ, st, n, p⟩ := h
  simp only [evE] at p
  have q := one (f := fun x st => if mtOk mt x then (evA G c2 ρ st).bind fun xs st => R.lift (mthD mt x xs) st else .bad) n p
  have hse : starEach [e] X.env = [(false, eval e X.env)] := starEach_of hs [] X.env
  refine wpAny_Call_method_late (base_of hb _ _ _) (by rw [hse]; rfl) hline rfl (thn ((h1 Wx tk).run pins s σ H _ I q) fun v s1 ⟨x, H1, I1, r1, W1, st1, a, n1, ra, p1, g1⟩ => ?_)
  have hmt : mtOk mt a = true := by
    by_cases z : mtOk mt a = true
    · exact z
    · rw [if_neg z] at p1; exact p1.elim
  rw [if_pos hmt] at p1
  obtain ⟨T, id, eT, eI⟩ := mtOk_ty hmt
  obtain ⟨sl, hty, pa⟩ := slotM eI
  obtain ⟨t1, t2⟩ := recv_is hK I1 n1.1 r1 ra eT
  refine ⟨T, id, pa, sl, hty, t1, t2, ?_⟩
  have hA := (h2 Wx tk).run cpos pins s1 σ H1 _ I1 (args n1 p1)
  rw [hse] at hA ⊢
  refine Calls.callWith_builtin (by rfl) (Calls.evalArgs_plain ?_)
  refine thn hA fun us s2 ⟨vs, H2, I2, r2, W2, st2, as, n2, ra2, p2, g2⟩ => ?_
  obtain ⟨d, ed, p2⟩ := p2.lift
  exact mth_ok hK mt I2 r1 r2 n2.1 (g2.rep ra) ra2 ed eT eI fun v H' W' g m r => p2 v H' W' g m r
end
end DV
end

section
set_option linter.all false
set_option maxRecDepth 100000
set_option maxHeartbeats 1000000
/-! DV7: what is walked. -/
namespace DV
open PySem PySem.Spec PyProof.Rows L2
def SqS (kd : Bool) (K : PySem.W.Frag) (H : Hp) (a : Addr) (xs : List V) : Prop := match kd with
  | true => SqL K H a xs
  | false => SqT K H a xs
def SrcAt (kd : Bool) (a : Addr) (its : Array Value) (h : Heap) : Prop := match kd with
  | true => h.IsList a its
  | false => h.IsTuple a its
def SrcIt (kd : Bool) (it a : Addr) (i : Nat) (h : Heap) : Prop := match kd with
  | true => h.IsListIter it a i
  | false => h.IsTupleIter it a i
def SrcO (kd : Bool) (a : Addr) : Obj := match kd with
  | true => { cls := .type "list_iterator", data := .fields #[.ref a, .int 0 0] }
  | false => { cls := .type "tuple_iterator", data := .fields #[.ref a, .int 0 0] }
theorem src_draws {prog : Program} {w : World} {A : Around} (kd : Bool) (hh : A.handled = none) (it a : Addr) (hne : a ≠ it) (its : Array Value) :
    Draws prog w A it [it, a] its.size (fun i v => its[i]? = some v) (fun i h => SrcIt kd it a i h ∧ SrcAt kd a its h) := by
  cases kd
  · exact Draws.tuple hh it a hne its
  · exact Draws.list hh it a hne its
theorem src_begins (kd : Bool) (a : Addr) (its : Array Value) : Begins (.ref a) (SrcO kd a) (SrcAt kd a its) := by
  cases kd
  · exact begins_tuple a its
  · exact begins_list a its
theorem SrcIt.start {kd : Bool} {it a : Addr} {h : Heap} (e : h.get? it = some (SrcO kd a)) : SrcIt kd it a 0 h := by
  cases kd
  · exact ⟨_, e, rfl, rfl⟩
  · exact ⟨_, e, rfl, rfl⟩
theorem SrcIt.keep {kd : Bool} {it a : Addr} {i : Nat} {h h' : Heap} (st : SrcIt kd it a i h) (k : ∀ o, h.get? it = some o → h'.get? it = some o) : SrcIt kd it a i h' := by
  cases kd
  · obtain ⟨o, e, r⟩ := st; exact ⟨o, k o e, r⟩
  · obtain ⟨o, e, r⟩ := st; exact ⟨o, k o e, r⟩
theorem SrcIt.obj {kd : Bool} {it a : Addr} {i : Nat} {h : Heap} (st : SrcIt kd it a i h) : ∃ o, h.get? it = some o ∧ ∀ v, o.data ≠ .cell v := by
  cases kd
  · obtain ⟨o, e, _, d⟩ := st; exact ⟨o, e, fun v z => by rw [d] at z; cases z⟩
  · obtain ⟨o, e, _, d⟩ := st; exact ⟨o, e, fun v z => by rw [d] at z; cases z⟩
theorem SrcAt.lt {kd : Bool} {a : Addr} {its : Array Value} {h : Heap} (s : SrcAt kd a its h) : a < h.objs.size := by
  cases kd
  · obtain ⟨o, e, _⟩ := s; exact Heap.lt_size e
  · obtain ⟨o, e, _⟩ := s; exact Heap.lt_size e
section
variable {X : Cx} {pins : List (Addr × Obj)} {σ : L2.St} {H : Hp} {s : Shared}
theorem inv_src {kd : Bool} {a : Addr} {xs : List V} (I : L2.Inv X pins σ H s) (h : SqS kd X.K H a xs) : ∃ its : List Value, Vals xs its ∧ SrcAt kd a its.toArray s.heap := by
  cases kd
  · obtain ⟨its, rv, p, _⟩ := I.tuple h; exact ⟨its, rv, p⟩
  · obtain ⟨its, rv, p, _⟩ := I.list h; exact ⟨its, rv, p.isList⟩
theorem inv_src_inj {kd : Bool} {a : Addr} {xs ys : List V} (I : L2.Inv X pins σ H s) (h : SqS kd X.K H a xs) (h2 : SqS kd X.K H a ys) : xs = ys := by
  cases kd
  · exact I.tuple_inj h h2
  · exact I.list_inj h h2
end
/-! ### enumerate -/
def Iten (K : PySem.W.Frag) (kd : Bool) (a : Addr) : It :=
  ⟨fun i H => ∃ xs x, SqS kd K H a xs ∧ xs[i]? = some x,
   fun i H v H' => ∃ T x o, v = .ref T ∧ H T = none ∧ o.dict = none ∧ H' = upd H T (.frz o (.tup [.int (i : Nat), x])) ∧ ∀ xs, SqS kd K H a xs → xs[i]? = some x,
   fun i H => ∃ xs, SqS kd K H a xs ∧ xs.length = i⟩
theorem turn_en {P : Program} {w : World} {K : PySem.W.Frag} {elts : List Expr} {kk : Nat} {tpos : Pos} (kd : Bool) (a e it : Addr) (hae : a ≠ e) (hai : a ≠ it) :
    Turn P w K (.Tuple elts kk tpos) (Iten K kd a) [e, it] e (fun i h => (∃ old, IsEnum h e it ((i : Nat) : Int) old) ∧ SrcIt kd it a i h ∧ e ≠ it) where
  mem := by simp
  obj := fun i h st b hb => by
    obtain ⟨⟨old, he⟩, hi, _⟩ := st
    have e' : b = e ∨ b = it := by simpa using hb
    rcases e' with z | z
    · rw [z]; exact ⟨_, he, fun v q => nomatch q⟩
    · rw [z]; exact hi.obj
  keep := fun i h h' st k => let ⟨⟨old, he⟩, hi, hne⟩ := st; ⟨⟨old, k e (by simp) _ he⟩, hi.keep fun o q => k it (by simp) o q, hne⟩
  item := by
    intro X hP hw hK hc i pins s σ H E I hf st hg
    subst hP hw hK
    obtain ⟨⟨old, he⟩, hit, hne⟩ := st
    obtain ⟨xs, x, hq, hx⟩ := hg
    obtain ⟨its, rv, p⟩ := inv_src I hq
    obtain ⟨u, hu, ru⟩ := rv.get hx
    have hel : e < s.heap.objs.size := Heap.lt_size he
    have hil : it < s.heap.objs.size := by obtain ⟨_, q, _⟩ := hit.obj; exact Heap.lt_size q
    have hlt : i < its.toArray.size := by simpa using (List.getElem?_eq_some_iff.mp hu).1
    refine wpAny_pyNext_enum_itemD (src_draws (A := X.A.in1) kd (I.ok.hd hc) it a hai its.toArray) he ⟨hit, p⟩ hlt hne (by simp [hne, Ne.symm hae]) fun x' h' tk hp ho st' hT hsz hk => ?_
    obtain ⟨hit', p'⟩ := st'
    have exu : x' = u := by
      have q : its.toArray[i]? = some u := by simpa using hu
      rw [hp] at q; exact Option.some.inj q
    subst exu
    refine ⟨_, rfl, wpAny_letOwnedTupleGo_enum (s := { s with heap := h', toks := tk + 1 }) ho fun h'' he' sb => ?_⟩
    have hT2 : h''.get? s.heap.objs.size = some { cls := .type "tuple", data := .seq #[.int i tk, x'] } := (sb.2 _ (Nat.ne_of_gt hel)).trans hT
    have new : ObjOk X.prog X.w (upd H s.heap.objs.size (.frz { cls := .type "tuple", data := .seq #[.int i tk, x'] } (.tup [.int (i : Nat), x]))) h'' s.heap.objs.size (.frz { cls := .type "tuple", data := .seq #[.int i tk, x'] } (.tup [.int (i : Nat), x])) :=
      ⟨hT2, by show 2 ≤ sizeLine; decide, [.int i tk, x'], .cons ⟨_, rfl⟩ (.cons ru .nil), ⟨_, hT2, rfl, _, rfl⟩⟩
    have I1 : L2.Inv X pins σ (upd H s.heap.objs.size (.frz { cls := .type "tuple", data := .seq #[.int i tk, x'] } (.tup [.int (i : Nat), x]))) { s with heap := h'', toks := tk + 1 } :=
      I.turnedNew (ch := [e, it]) (fun b ob hb q => (sb.2 b (fun z => hb (by simp [z]))).trans (hk b ob (fun z => hb (by simp [z])) (fun z => hb (by simp [z])) q)) hf (Nat.le_refl _) new
    refine ⟨.ref s.heap.objs.size, _, I1, rfl, ⟨_, x, _, rfl, I.hok.fresh (Nat.le_refl _), rfl, rfl, fun ys hy => by rw [inv_src_inj I hy hq]; exact hx⟩, ⟨⟨x', ?_⟩, hit'.keep fun o q => (sb.2 it (Ne.symm hne)).trans q, hne⟩, fun b hb => ?_⟩
    · have e1 : ((i + 1 : Nat) : Int) = (i : Int) + 1 := by omega
      rw [e1]; exact he'
    · have hb' : b < s.heap.objs.size := by
        have e' : b = e ∨ b = it := by simpa using hb
        rcases e' with z | z
        · rw [z]; exact hel
        · rw [z]; exact hil
      rw [upd_ne (Nat.ne_of_lt hb')]
      exact (hf b hb).1
  done := by
    intro X hP hw hK hc i pins s σ H E I hf st hg
    subst hP hw hK
    obtain ⟨⟨old, he⟩, hit, hne⟩ := st
    obtain ⟨xs, hq, hx⟩ := hg
    obtain ⟨its, rv, p⟩ := inv_src I hq
    obtain ⟨f0, f1, f2, f3, f4, f5⟩ := hf it (by simp)
    have hl := rv.length
    have hn : its.toArray.size = i := by simp; omega
    exact wpAny_pyNext_enum_endD (src_draws (A := X.A.in1) kd (I.ok.hd hc) it a hai its.toArray) he (by rw [hn]; exact ⟨hit, p⟩) fun h' eb => ⟨rfl, I.turned (t' := s.toks) (fun b o hb q => eb b o hb q) f0 f1 f3 f4 f5⟩
  self := fun A i s Q E st h => let ⟨⟨_, he⟩, _⟩ := st; wpAny_pyIter_enum he h
theorem meets_enumerate_newB1 {v : Value} {o : Obj} {H : Heap → Prop} (B : Begins v o H) :
    Meets (Builtin.«enumerate.__new__» ⟨[.type "enumerate", v], []⟩) (fun _ R s => H s.heap ∧
      R (.ok (.ret (.ref (s.heap.push o).objs.size))) { s with heap := (s.heap.push o).push { cls := .type "enumerate", data := .fields #[.none, .bool false, .ref s.heap.objs.size, rawInt 0, .none, .none] } }) :=
  .of_wp fun prog w A R s h => by
    obtain ⟨hp, g, d, tk, os⟩ := s; obtain ⟨h1, h⟩ := h
    have hsub := sub_enumerate
    have q1 : ∀ {A' : Around} {E : Value → Shared → Prop} {Q : Value → Shared → Prop}, Q (.ref hp.objs.size) ⟨hp.push o, g, d, tk, os⟩ → wpAny (model prog w) A' (pyIter v) Q E ⟨hp, g, d, tk, os⟩ :=
      fun q => B.iter prog w _ _ ⟨hp, g, d, tk, os⟩ _ h1 q
    wp_walk using q1
    refine wpAny_stack_any fun st => wpAny_pure ?_
    split
    · rename_i c _ _ _ _ _
      cases (c == Value.type "enumerate")
      · wp_walk using q1
        exact ⟨_, rfl, h⟩
      · wp_walk using q1
        exact ⟨_, rfl, h⟩
    · wp_walk using q1
      exact ⟨_, rfl, h⟩
theorem enum_begins1 {prog : Program} {w : World} {A : Around} {E : Value → Shared → Prop} {s : Shared} {v : Value} {o : Obj} {H : Heap → Prop} {Q : Value → Shared → Prop} (B : Begins v o H) (h1 : H s.heap)
    (h : ∀ h', IsEnum h' (s.heap.objs.size + 1) s.heap.objs.size 0 .none → h'.get? s.heap.objs.size = some o → h'.objs.size = s.heap.objs.size + 2 →
      (∀ b o, s.heap.get? b = some o → h'.get? b = some o) → Q (.ref (s.heap.objs.size + 1)) { s with heap := h' }) :
    wpAny (model prog w) A (call (.type "enumerate") [v]) Q E s := by
  refine callType_new F.called_enumerate (by decide) (F.typeCall_enumerate_1 _) (F.newCall_enumerate_1 _) (fun obj => F.args_object_init_2 obj _) F.entry_enumerate_new
    (meets_enumerate_newB1 B) ⟨h1, ?_⟩
  have hz : (s.heap.push o).objs.size = s.heap.objs.size + 1 := Heap.size_push ..
  show _ ∧ _
  rw [hz]
  have he : IsEnum ((s.heap.push o).push { cls := .type "enumerate", data := .fields #[.none, .bool false, .ref s.heap.objs.size, rawInt 0, .none, .none] }) (s.heap.objs.size + 1) s.heap.objs.size 0 .none := by
    have := Heap.get?_push_size (s.heap.push o) (o := { cls := .type "enumerate", data := .fields #[.none, .bool false, .ref s.heap.objs.size, rawInt 0, .none, .none] }) rfl
    rw [hz] at this; exact this
  refine ⟨⟨_, he, rfl⟩, h _ he (Heap.get?_push_of_some _ (Heap.get?_push_size _ B.free)) (by rw [Heap.size_push, hz]) fun b o x => Heap.get?_push_of_some _ (Heap.get?_push_of_some _ x)⟩
def iEn (K : PySem.W.Frag) (ta : TA) : TI := fun σ H R => ta σ H fun vs H1 => ∃ kd a xs, vs = [.ref a] ∧ SqS kd K H1 a xs ∧ R (Iten K kd a) H1
theorem pi_en {X : Cx} {e : Expr} {ta : TA} {p pos tpos : Pos} {elts : List Expr} {kk : Nat} (hg : Gl X "enumerate") (hm : X.mg "enumerate" = none) (ha : PA X [e] ta) (hs : starEach [e] X.env = [(false, eval e X.env)]) :
    PI X (.Tuple elts kk tpos) (.Call (.Name "enumerate" p) [e] [] pos) (iEn X.K ta) := by
  refine ⟨fun pins s σ H R I h => ?_⟩
  refine Call_ (ld_blt I hg hm boot_enumerate (PyProof.Rows.callWith_type1 (thn (ha.run pos pins s σ H _ I h) fun us s1 ⟨vs, H1, I1, r1, q1⟩ => ?_) hs rfl))
  obtain ⟨kd, a, xs, ex, hq, q⟩ := q1
  subst ex
  cases r1 with
  | cons r rr =>
    cases rr
    cases r
    obtain ⟨its, rv, p'⟩ := inv_src I1 hq
    have la : a < s1.heap.objs.size := p'.lt
    refine enum_begins1 (src_begins kd a its.toArray) p' fun h' he hit hsz hk => wpAny_pyIter_enum he ?_
    have I2 : L2.Inv X pins σ H1 { s1 with heap := h' } := I1.kept (t' := s1.toks) hk
    refine ⟨s1.heap.objs.size + 1, [s1.heap.objs.size + 1, s1.heap.objs.size], _, _, H1, rfl, I2, turn_en kd a (s1.heap.objs.size + 1) s1.heap.objs.size (Nat.ne_of_lt (Nat.lt_succ_of_lt la)) (Nat.ne_of_lt la), ⟨⟨.none, he⟩, SrcIt.start hit, Nat.succ_ne_self _⟩, fun b hb => ?_, q⟩
    have e' : b = s1.heap.objs.size + 1 ∨ b = s1.heap.objs.size := by simpa using hb
    have hle : s1.heap.objs.size ≤ b := by
      rcases e' with z | z
      · rw [z]; exact Nat.le_add_right _ _
      · rw [z]; exact Nat.le_refl _
    exact I1.fpOk hle (I1.hok.fresh hle)
/-! ### zip -/
def Itzp (K : PySem.W.Frag) (k1 k2 : Bool) (a b : Addr) : It :=
  ⟨fun i H => ∃ xs ys x y, SqS k1 K H a xs ∧ SqS k2 K H b ys ∧ xs[i]? = some x ∧ ys[i]? = some y,
   fun i H v H' => ∃ T x y o, v = .ref T ∧ H T = none ∧ o.dict = none ∧ H' = upd H T (.frz o (.tup [x, y])) ∧ (∀ xs, SqS k1 K H a xs → xs[i]? = some x) ∧ ∀ ys, SqS k2 K H b ys → ys[i]? = some y,
   fun i H => ∃ xs ys, SqS k1 K H a xs ∧ SqS k2 K H b ys ∧ i ≤ xs.length ∧ i ≤ ys.length ∧ (i = xs.length ∨ i = ys.length)⟩
theorem turn_zp {P : Program} {w : World} {K : PySem.W.Frag} {elts : List Expr} {kk : Nat} {tpos : Pos} {a b z TI TO i1 i2 : Addr} (k1 k2 : Bool) (D : ZipSep2 z TI TO i1 i2 [i1, a] [i2, b]) (ha : a ≠ i1) (hb : b ≠ i2) :
    Turn P w K (.Tuple elts kk tpos) (Itzp K k1 k2 a b) [z, TI, TO, i1, i2] z (fun i h => IsZip h z TI TO .none ∧ IsTupOf2 h TI (.ref i1) (.ref i2) ∧ (∃ x y, IsTupOf2 h TO x y) ∧ SrcIt k1 i1 a i h ∧ SrcIt k2 i2 b i h) where
  mem := by simp
  obj := fun i h st c hc => by
    obtain ⟨hz, hTI, ⟨x, y, hTO⟩, h1, h2⟩ := st
    have e' : c = z ∨ c = TI ∨ c = TO ∨ c = i1 ∨ c = i2 := by simpa using hc
    rcases e' with q | q | q | q | q
    · rw [q]; exact ⟨_, hz, fun v q => nomatch q⟩
    · rw [q]; exact ⟨_, hTI, fun v q => nomatch q⟩
    · rw [q]; exact ⟨_, hTO, fun v q => nomatch q⟩
    · rw [q]; exact h1.obj
    · rw [q]; exact h2.obj
  keep := fun i h h' st k => by
    obtain ⟨hz, hTI, ⟨x, y, hTO⟩, h1, h2⟩ := st
    exact ⟨k z (by simp) _ hz, k TI (by simp) _ hTI, ⟨x, y, k TO (by simp) _ hTO⟩, h1.keep fun o q => k i1 (by simp) o q, h2.keep fun o q => k i2 (by simp) o q⟩
  item := by
    intro X hP hw hK hc i pins s σ H E I hf st hg
    subst hP hw hK
    obtain ⟨hz, hTI, ⟨x0, y0, hTO⟩, h1, h2⟩ := st
    obtain ⟨xs, ys, x, y, hqx, hqy, hx, hy⟩ := hg
    obtain ⟨its, rv, p⟩ := inv_src I hqx
    obtain ⟨its2, rv2, p2⟩ := inv_src I hqy
    obtain ⟨u, hu, ru⟩ := rv.get hx
    obtain ⟨u2, hu2, ru2⟩ := rv2.get hy
    have hzl : z < s.heap.objs.size := Heap.lt_size hz
    have l1 : i < its.toArray.size := by simpa using (List.getElem?_eq_some_iff.mp hu).1
    have l2 : i < its2.toArray.size := by simpa using (List.getElem?_eq_some_iff.mp hu2).1
    refine wpAny_pyNext_zipD2_item D (src_draws (A := X.A.in1) k1 (I.ok.hd hc) i1 a ha its.toArray) (src_draws (A := X.A.in1) k2 (I.ok.hd hc) i2 b hb its2.toArray) hz hTI hTO ⟨h1, p⟩ ⟨h2, p2⟩ l1 l2 fun v1 v2 h' tk e1 e2 z' TO' st1 st2 hT hsz hk => ?_
    obtain ⟨h1', _⟩ := st1
    obtain ⟨h2', _⟩ := st2
    have e3 : v1 = u := by
      have q : its.toArray[i]? = some u := by simpa using hu
      rw [e1] at q; exact Option.some.inj q
    have e4 : v2 = u2 := by
      have q : its2.toArray[i]? = some u2 := by simpa using hu2
      rw [e2] at q; exact Option.some.inj q
    subst e3 e4
    refine ⟨_, rfl, wpAny_letOwnedTupleGo_zip (s := { s with heap := h', toks := tk }) z' fun h'' z'' sb => ?_⟩
    have hT2 : h''.get? s.heap.objs.size = some { cls := .type "tuple", data := .seq #[v1, v2] } := (sb.2 _ (Nat.ne_of_gt hzl)).trans hT
    have new : ObjOk X.prog X.w (upd H s.heap.objs.size (.frz { cls := .type "tuple", data := .seq #[v1, v2] } (.tup [x, y]))) h'' s.heap.objs.size (.frz { cls := .type "tuple", data := .seq #[v1, v2] } (.tup [x, y])) :=
      ⟨hT2, by show 2 ≤ sizeLine; decide, [v1, v2], .cons ru (.cons ru2 .nil), ⟨_, hT2, rfl, _, rfl⟩⟩
    have I1 : L2.Inv X pins σ (upd H s.heap.objs.size (.frz { cls := .type "tuple", data := .seq #[v1, v2] } (.tup [x, y]))) { s with heap := h'', toks := tk } :=
      I.turnedNew (ch := [z, TI, TO, i1, i2]) (fun c o hb q => (sb.2 c (fun q' => hb (by simp [q']))).trans (hk c o (fun q' => hb (by simp [q'])) (fun q' => hb (by simp [q'])) (fun q' => hb (by simp [q'])) (fun q' => hb (by simp [q'])) q)) hf (Nat.le_refl _) new
    refine ⟨.ref s.heap.objs.size, _, I1, rfl, ⟨_, x, y, _, rfl, I.hok.fresh (Nat.le_refl _), rfl, rfl, fun l hl => by rw [inv_src_inj I hl hqx]; exact hx, fun l hl => by rw [inv_src_inj I hl hqy]; exact hy⟩, ⟨z'', ?_, ⟨v1, v2, ?_⟩, ?_, ?_⟩, fun c hcm => ?_⟩
    · exact (sb.2 _ D.TIz).trans (hk _ _ D.TIz D.TITO D.TIi1 D.TIi2 hTI)
    · exact (sb.2 _ D.TOz).trans TO'
    · exact h1'.keep fun o q => (sb.2 _ (Ne.symm D.zi1)).trans q
    · exact h2'.keep fun o q => (sb.2 _ (Ne.symm D.zi2)).trans q
    · have hlt : c < s.heap.objs.size := by
        have e' : c = z ∨ c = TI ∨ c = TO ∨ c = i1 ∨ c = i2 := by simpa using hcm
        rcases e' with q | q | q | q | q
        · rw [q]; exact hzl
        · rw [q]; exact Heap.lt_size hTI
        · rw [q]; exact Heap.lt_size hTO
        · rw [q]; obtain ⟨_, e1, _⟩ := h1.obj; exact Heap.lt_size e1
        · rw [q]; obtain ⟨_, e1, _⟩ := h2.obj; exact Heap.lt_size e1
      rw [upd_ne (Nat.ne_of_lt hlt)]
      exact (hf c hcm).1
  done := by
    intro X hP hw hK hc i pins s σ H E I hf st hg
    subst hP hw hK
    obtain ⟨hz, hTI, ⟨x0, y0, hTO⟩, h1, h2⟩ := st
    obtain ⟨xs, ys, hqx, hqy, hl1, hl2, hend⟩ := hg
    obtain ⟨its, rv, p⟩ := inv_src I hqx
    obtain ⟨its2, rv2, p2⟩ := inv_src I hqy
    have l1 := rv.length
    have l2 := rv2.length
    exact wpAny_pyNext_zipD2_end D (src_draws (A := X.A.in1) k1 (I.ok.hd hc) i1 a ha its.toArray) (src_draws (A := X.A.in1) k2 (I.ok.hd hc) i2 b hb its2.toArray) hz hTI hTO ⟨h1, p⟩ ⟨h2, p2⟩ (by simp; omega) (by simp; omega) (by simp; omega) fun h' tk hk => ⟨rfl, I.turnedL (t' := tk) (ch := [z, TI, TO, i1, i2]) (fun c o hb q =>
      hk c o (fun q' => hb (by simp [q'])) (fun q' => hb (by simp [q'])) (fun q' => hb (by simp [q'])) (fun q' => hb (by simp [q'])) q) hf⟩
  self := fun A i s Q E st h => wpAny_pyIter_zip st.1 h
def iZp (K : PySem.W.Frag) (ta : TA) : TI := fun σ H R => ta σ H fun vs H1 => ∃ k1 k2 a b xs ys, vs = [.ref a, .ref b] ∧ SqS k1 K H1 a xs ∧ SqS k2 K H1 b ys ∧ R (Itzp K k1 k2 a b) H1
theorem pi_zp {X : Cx} {e e2 : Expr} {ta : TA} {p pos tpos : Pos} {elts : List Expr} {kk : Nat} (hg : Gl X "zip") (hm : X.mg "zip" = none) (ha : PA X [e, e2] ta)
    (hs : starEach [e, e2] X.env = (false, eval e X.env) :: starEach [e2] X.env) (hpl : (backTo pos (starEach [e2] X.env)).any (·.1) = false) :
    PI X (.Tuple elts kk tpos) (.Call (.Name "zip" p) [e, e2] [] pos) (iZp X.K ta) := by
  refine ⟨fun pins s σ H R I h => ?_⟩
  refine Call_ (ld_blt I hg hm PyProof.Rows.boot_zip (PyProof.Rows.callWith_type1 (thn (ha.run pos pins s σ H _ I h) fun us s1 ⟨vs, H1, I1, r1, q1⟩ => ?_) hs hpl))
  obtain ⟨k1, k2, a, b, xs, ys, ex, hqx, hqy, q⟩ := q1
  subst ex
  cases r1 with
  | cons r rr =>
    cases rr with
    | cons r' rr =>
      cases rr
      cases r
      cases r'
      obtain ⟨its, rv, p1⟩ := inv_src I1 hqx
      obtain ⟨its2, rv2, p2⟩ := inv_src I1 hqy
      have la : a < s1.heap.objs.size := p1.lt
      have lb : b < s1.heap.objs.size := p2.lt
      refine zip_begins2 (src_begins k1 a its.toArray) (src_begins k2 b its2.toArray) p1 p2 fun h' hz hTI hTO h1 h2 hsz hk => wpAny_pyIter_zip hz ?_
      have I2 : L2.Inv X pins σ H1 { s1 with heap := h' } := I1.kept (t' := s1.toks) hk
      refine ⟨s1.heap.objs.size + 4, [s1.heap.objs.size + 4, s1.heap.objs.size + 2, s1.heap.objs.size + 3, s1.heap.objs.size, s1.heap.objs.size + 1], _, _, H1, rfl, I2,
        turn_zp k1 k2 (zip_sep2 (N := s1.heap.objs.size) (fp1 := [a]) (fp2 := [b]) (by simpa using la) (by simpa using lb)) (Nat.ne_of_lt la) (Nat.ne_of_lt (Nat.lt_succ_of_lt lb)), ⟨hz, hTI, ⟨_, _, hTO⟩, SrcIt.start h1, SrcIt.start h2⟩, fun c hcm => ?_, q⟩
      have e' : c = s1.heap.objs.size + 4 ∨ c = s1.heap.objs.size + 2 ∨ c = s1.heap.objs.size + 3 ∨ c = s1.heap.objs.size ∨ c = s1.heap.objs.size + 1 := by simpa using hcm
      have hle : s1.heap.objs.size ≤ c := by
        rcases e' with z | z | z | z | z
        · rw [z]; exact Nat.le_add_right _ _
        · rw [z]; exact Nat.le_add_right _ _
        · rw [z]; exact Nat.le_add_right _ _
        · rw [z]; exact Nat.le_refl _
        · rw [z]; exact Nat.le_add_right _ _
      exact I1.fpOk hle (I1.hok.fresh hle)
end DV
end

section
set_option linter.all false
set_option maxRecDepth 100000
set_option maxHeartbeats 1000000
/-! DZ0: dict(zip(a, b)) over iterators of any kind: the pairs as an argument of dict(). -/
namespace DZ
open PySem
section
variable {prog : Program} {w : World} {A : Around} {E : Value → Shared → Prop} {s : Shared} {z TI TO T i1 i2 : Addr} {f : Bool} {oT : Obj} {fp1 fp2 : List Addr} {n1 n2 i : Nat} {P1 P2 : Nat → Value → Prop} {St1 St2 : Nat → Heap → Prop}
theorem held_item {Q : Value → Shared → Prop} (S : ZipSep2 z TI TO i1 i2 fp1 fp2) (D1 : Draws prog w A i1 fp1 n1 P1 St1) (D2 : Draws prog w A i2 fp2 n2 P2 St2)
    (hz : IsZipHeld s.heap z TI TO T f) (hT : s.heap.get? T = some oT) (hTI : IsTupOf2 s.heap TI (.ref i1) (.ref i2)) (st1 : St1 i s.heap) (st2 : St2 i s.heap) (hlt1 : i < n1) (hlt2 : i < n2)
    (hQ : ∀ x1 x2 h' tk, P1 i x1 → P2 i x2 → IsZipHeld h' z TI TO T true → St1 (i + 1) h' → St2 (i + 1) h' → IsTupOf2 h' s.heap.objs.size x1 x2 → h'.objs.size = s.heap.objs.size + 1 →
      (∀ c o, c ≠ z → c ≠ i1 → c ≠ i2 → s.heap.get? c = some o → h'.get? c = some o) → Q (.ref s.heap.objs.size) { s with heap := h', toks := tk }) :
    wpAny (model prog w) A (Builtin.«zip.__next__» ⟨[.ref z], []⟩) (fun fin s' => ∃ v, fin = .done (.ret v) ∧ Q v s') E s := by
  obtain ⟨hp, g, d, tk0, os⟩ := s
  show wpAny _ _ (field (.ref z) 2 >>= _) _ _ _
  refine wpAny_bind (wpAny_field hz rfl (x := .bool false) rfl ?_)
  show wpAny _ _ (field (.ref z) 3 >>= _) _ _ _
  refine wpAny_bind (wpAny_field hz rfl (x := .ref TI) rfl ?_)
  refine wpAny_bind (wpAny_seqItems hTI rfl ?_)
  show wpAny _ _ (Builtin.SmallTypes.ownedTupleIsFree (.ref z) >>= _) _ _ _
  refine wpAny_bind (wpAny_tupleHeld_zip hz hT fun g0 hz0 hs0 => ?_)
  replace hz0 : IsZipHeld g0 z TI TO T true := hz0
  replace hs0 : Heap.SameBut z hp g0 := hs0
  simp only [Bool.false_eq_true, if_false]
  refine wpAny_bind ?_
  rw [← Array.forIn_toList]
  simp only [List.forIn_cons, List.forIn_nil]
  refine wpAny_bind (wpAny_bind (wpAny_holding ?_))
  show wpAny _ _ (Builtin.SmallTypes.nextOf (.ref i1) >>= _) _ _ ⟨g0, g, d, tk0, os⟩
  refine wpAny_bind (D1.item i _ _ _ hlt1 (D1.over st1 hs0 S.zf1) fun x1 p1 tk1 hx1 sn1 hp1 => wpAny_pure ?_)
  replace hp1 : Heap.SameBut i1 g0 p1 := hp1
  refine wpAny_pure ?_
  refine wpAny_bind (wpAny_bind (wpAny_holding ?_))
  show wpAny _ _ (Builtin.SmallTypes.nextOf (.ref i2) >>= _) _ _ ⟨p1, g, d, tk1, os⟩
  refine wpAny_bind (D2.item i _ _ _ hlt2 (D2.over (D2.over st2 hs0 S.zf2) hp1 S.sep1_2) fun x2 p2 tk2 hx2 sn2 hp2 => wpAny_pure ?_)
  replace hp2 : Heap.SameBut i2 p1 p2 := hp2
  refine wpAny_pure (wpAny_pure ?_)
  show wpAny _ _ (newTuple [x1, x2] >>= _) _ _ _
  refine wpAny_bind (wpAny_newTuple ?_)
  have hsz : p2.objs.size = hp.objs.size := by rw [hp2.1, hp1.1, hs0.1]
  have hz₃ : IsZipHeld p2 z TI TO T true := hp2.extBut _ _ S.zi2 (hp1.extBut _ _ S.zi1 hz0)
  have hk : ∀ c o, c ≠ z → c ≠ i1 → c ≠ i2 → hp.get? c = some o → p2.get? c = some o := fun c o c1 c2 c3 e => hp2.extBut _ _ c3 (hp1.extBut _ _ c2 (hs0.extBut _ _ c1 e))
  have sn1' : St1 (i + 1) p2 := D1.over sn1 hp2 S.sep2_1
  refine wpAny_pure ⟨_, rfl, ?_⟩
  show Q (.ref p2.objs.size) ⟨p2.push { cls := .type "tuple", data := .seq #[x1, x2] }, g, d, tk2, os⟩
  have hpp : IsTupOf2 (p2.push { cls := .type "tuple", data := .seq #[x1, x2] }) p2.objs.size x1 x2 := Heap.get?_push_size _ rfl
  have hz4 : (p2.push { cls := .type "tuple", data := .seq #[x1, x2] }).objs.size = p2.objs.size + 1 := Heap.size_push ..
  rw [hsz] at hpp hz4 ⊢
  exact hQ x1 x2 _ tk2 hx1 hx2 (Heap.get?_push_of_some _ hz₃) (D1.frame _ _ _ sn1' fun b _ o e => Heap.get?_push_of_some _ e) (D2.frame _ _ _ sn2 fun b _ o e => Heap.get?_push_of_some _ e) hpp hz4
    fun c o c1 c2 c3 e => Heap.get?_push_of_some _ (hk c o c1 c2 c3 e)
theorem held_end {Q : Fin → Shared → Prop} (S : ZipSep2 z TI TO i1 i2 fp1 fp2) (D1 : Draws prog w A i1 fp1 n1 P1 St1) (D2 : Draws prog w A i2 fp2 n2 P2 St2)
    (hz : IsZipHeld s.heap z TI TO T f) (hT : s.heap.get? T = some oT) (hTI : IsTupOf2 s.heap TI (.ref i1) (.ref i2)) (st1 : St1 i s.heap) (st2 : St2 i s.heap) (hle1 : i ≤ n1) (hle2 : i ≤ n2) (hend : i = n1 ∨ i = n2)
    (hE : ∀ h' tk e, (∀ c o, c ≠ z → c ≠ i1 → c ≠ i2 → s.heap.get? c = some o → h'.get? c = some o) → (∃ o, h'.get? e = some o ∧ o.cls = .type "StopIteration") → E (.ref e) { s with heap := h', toks := tk }) :
    wpAny (model prog w) A (Builtin.«zip.__next__» ⟨[.ref z], []⟩) Q E s := by
  obtain ⟨hp, g, d, tk0, os⟩ := s
  show wpAny _ _ (field (.ref z) 2 >>= _) _ _ _
  refine wpAny_bind (wpAny_field hz rfl (x := .bool false) rfl ?_)
  show wpAny _ _ (field (.ref z) 3 >>= _) _ _ _
  refine wpAny_bind (wpAny_field hz rfl (x := .ref TI) rfl ?_)
  refine wpAny_bind (wpAny_seqItems hTI rfl ?_)
  show wpAny _ _ (Builtin.SmallTypes.ownedTupleIsFree (.ref z) >>= _) _ _ _
  refine wpAny_bind (wpAny_tupleHeld_zip hz hT fun g0 hz0 hs0 => ?_)
  replace hs0 : Heap.SameBut z hp g0 := hs0
  simp only [Bool.false_eq_true, if_false]
  refine wpAny_bind ?_
  rw [← Array.forIn_toList]
  simp only [List.forIn_cons, List.forIn_nil]
  refine wpAny_bind (wpAny_bind (wpAny_holding ?_))
  show wpAny _ _ (Builtin.SmallTypes.nextOf (.ref i1) >>= _) _ _ ⟨g0, g, d, tk0, os⟩
  by_cases hlt1 : i < n1
  · refine wpAny_bind (D1.item i _ _ _ hlt1 (D1.over st1 hs0 S.zf1) fun x1 p1 tk1 hx1 sn1 hp1 => wpAny_pure ?_)
    replace hp1 : Heap.SameBut i1 g0 p1 := hp1
    refine wpAny_pure ?_
    have hi2 : i = n2 := by omega
    refine wpAny_bind (wpAny_bind (wpAny_holding ?_))
    show wpAny _ _ (Builtin.SmallTypes.nextOf (.ref i2) >>= _) _ _ ⟨p1, g, d, tk1, os⟩
    refine wpAny_bind (D2.done ⟨p1, g, d, tk1, os⟩ _ _ (by rw [← hi2]; exact D2.over (D2.over st2 hs0 S.zf2) hp1 S.sep1_2) fun q e hq he => ?_)
    replace hq : Heap.ExtBut i2 p1 q := hq
    exact hE q tk1 e (fun c o c1 c2 c3 x => hq _ _ c3 (hp1.extBut _ _ c2 (hs0.extBut _ _ c1 x))) he
  · have hi1 : i = n1 := by omega
    refine wpAny_bind (D1.done ⟨g0, g, d, tk0, os⟩ _ _ (by rw [← hi1]; exact D1.over st1 hs0 S.zf1) fun q e hq he => ?_)
    replace hq : Heap.ExtBut i1 g0 q := hq
    exact hE q tk0 e (fun c o c1 c2 c3 x => hq _ _ c2 (hs0.extBut _ _ c1 x)) he
theorem pyNext_held_item {Q : Option Value → Shared → Prop} (S : ZipSep2 z TI TO i1 i2 fp1 fp2) (D1 : Draws prog w A.in1 i1 fp1 n1 P1 St1) (D2 : Draws prog w A.in1 i2 fp2 n2 P2 St2)
    (hz : IsZipHeld s.heap z TI TO T f) (hT : s.heap.get? T = some oT) (hTI : IsTupOf2 s.heap TI (.ref i1) (.ref i2)) (st1 : St1 i s.heap) (st2 : St2 i s.heap) (hlt1 : i < n1) (hlt2 : i < n2)
    (hQ : ∀ x1 x2 h' tk, P1 i x1 → P2 i x2 → IsZipHeld h' z TI TO T true → St1 (i + 1) h' → St2 (i + 1) h' → IsTupOf2 h' s.heap.objs.size x1 x2 → h'.objs.size = s.heap.objs.size + 1 →
      (∀ c o, c ≠ z → c ≠ i1 → c ≠ i2 → s.heap.get? c = some o → h'.get? c = some o) → Q (some (.ref s.heap.objs.size)) { s with heap := h', toks := tk }) :
    wpAny (model prog w) A (pyNext (.ref z)) Q E s := by
  have hTy : s.TypeIs (.ref z) "zip" := ⟨_, hz, rfl⟩
  unfold pyNext
  exact wpAny_bind (wpAny_attempt (wpAny_callSpecial?_slot (name := Str.ofString "__next__") hTy F.slot_zip_next
    (wpAny_call_entry F.slot_zip_next hTy F.entry_zip_next
      (held_item S D1 D2 hz hT hTI st1 st2 hlt1 hlt2 fun x1 x2 h' tk y1 y2 b1 d1 d2 b5 b6 b7 => wpAny_pure (hQ x1 x2 h' tk y1 y2 b1 d1 d2 b5 b6 b7)) (F.args_zip_next_1 _))))
theorem pyNext_held_end {Q : Option Value → Shared → Prop} (S : ZipSep2 z TI TO i1 i2 fp1 fp2) (D1 : Draws prog w A.in1 i1 fp1 n1 P1 St1) (D2 : Draws prog w A.in1 i2 fp2 n2 P2 St2)
    (hz : IsZipHeld s.heap z TI TO T f) (hT : s.heap.get? T = some oT) (hTI : IsTupOf2 s.heap TI (.ref i1) (.ref i2)) (st1 : St1 i s.heap) (st2 : St2 i s.heap) (hle1 : i ≤ n1) (hle2 : i ≤ n2) (hend : i = n1 ∨ i = n2)
    (hQ : ∀ h' tk, (∀ c o, c ≠ z → c ≠ i1 → c ≠ i2 → s.heap.get? c = some o → h'.get? c = some o) → Q none { s with heap := h', toks := tk }) : wpAny (model prog w) A (pyNext (.ref z)) Q E s := by
  have hTy : s.TypeIs (.ref z) "zip" := ⟨_, hz, rfl⟩
  unfold pyNext
  refine wpAny_bind (wpAny_attempt (wpAny_callSpecial?_slot (name := Str.ofString "__next__") hTy F.slot_zip_next
    (wpAny_call_entry F.slot_zip_next hTy F.entry_zip_next (held_end S D1 D2 hz hT hTI st1 st2 hle1 hle2 hend fun h' tk e hk he => ?_) (F.args_zip_next_1 _))))
  obtain ⟨o, ho, hc⟩ := he
  refine wpAny_bind (wpAny_isInstance (T := "StopIteration") (b := true) ⟨o, ho, hc⟩ isSubtype_stop ?_)
  exact wpAny_pure (hQ _ _ hk)
/-- dict(zip(..)): zip over two iterators of any kind as the argument of dict() -/
theorem PairArg.zipD (S : ZipSep2 z TI TO i1 i2 fp1 fp2) (D1 : ∀ A : Around, A.handled = none → Draws prog w A i1 fp1 n1 P1 St1) (D2 : ∀ A : Around, A.handled = none → Draws prog w A i2 fp2 n2 P2 St2)
    (lv1 : ∀ h, St1 0 h → ∀ b ∈ fp1, ∃ o, h.get? b = some o) (lv2 : ∀ h, St2 0 h → ∀ b ∈ fp2, ∃ o, h.get? b = some o) :
    PairArg prog w "zip" z (z :: TI :: TO :: (fp1 ++ fp2)) [z, TO, i1, i2] (min n1 n2) (fun i k v => P1 i k ∧ P2 i v)
      (fun h => IsZip h z TI TO .none ∧ IsPair h TI (.ref i1) (.ref i2) ∧ (∃ a b, IsPair h TO a b) ∧ St1 0 h ∧ St2 0 h) where
  type := fun s ok => ⟨_, ok.1, rfl⟩
  notDict := by decide
  keep := fun h h' ok hk => by
    obtain ⟨hz, hTI, ⟨a, b, hTO⟩, h1, h2⟩ := ok
    exact ⟨hk _ _ hz, hk _ _ hTI, ⟨a, b, hk _ _ hTO⟩, (D1 {} rfl).frame _ _ _ h1 fun b _ o e => hk b o e, (D2 {} rfl).frame _ _ _ h2 fun b _ o e => hk b o e⟩
  there := fun h ok b hb => by
    obtain ⟨hz, hTI, ⟨a, c, hTO⟩, h1, h2⟩ := ok
    simp only [List.mem_cons, List.mem_append] at hb
    rcases hb with rfl | rfl | rfl | hb | hb
    · exact ⟨_, hz⟩
    · exact ⟨_, hTI⟩
    · exact ⟨_, hTO⟩
    · exact lv1 h h1 b hb
    · exact lv2 h h2 b hb
  sub := fun c hc => by
    have hc' : c = z ∨ c = TO ∨ c = i1 ∨ c = i2 := by simpa using hc
    rcases hc' with rfl | rfl | rfl | rfl
    · exact List.mem_cons_self ..
    · exact List.mem_cons_of_mem _ (List.mem_cons_of_mem _ (List.mem_cons_self ..))
    · exact List.mem_cons_of_mem _ (List.mem_cons_of_mem _ (List.mem_cons_of_mem _ (List.mem_append_left _ S.mem1)))
    · exact List.mem_cons_of_mem _ (List.mem_cons_of_mem _ (List.mem_cons_of_mem _ (List.mem_append_right _ S.mem2)))
  noKeys := fun A s Q E hA ok h => getAttrOr_miss_zip ok.1 rfl rfl rfl zip_no_keys (by decide +kernel) hA h
  iter := fun A s d Q E hA ok hd hdf h => by
    obtain ⟨hz, hTI, ⟨a, b, hTO⟩, h1, h2⟩ := ok
    simp only [List.mem_cons, List.mem_append, not_or] at hdf
    obtain ⟨dz, dTI, dTO, df1, df2⟩ := hdf
    have di1 : d ≠ i1 := fun e => df1 (e ▸ S.mem1)
    have di2 : d ≠ i2 := fun e => df2 (e ▸ S.mem2)
    have E1 := D1 A.in1 hA
    have E2 := D2 A.in1 hA
    refine wpAny_pyIter_zip hz (h z [z, TO, i1, i2] (fun i h => IsPair h TI (.ref i1) (.ref i2) ∧ St1 i h ∧ St2 i h ∧
      ((IsZip h z TI TO .none ∧ ∃ a b, IsPair h TO a b) ∨ ∃ T f oT, IsZipHeld h z TI TO T f ∧ h.get? T = some oT ∧ T ≠ z ∧ T ≠ i1 ∧ T ≠ i2 ∧ T ≠ d)) s.heap s.toks ?_
      ⟨hTI, h1, h2, .inl ⟨hz, a, b, hTO⟩⟩ (fun _ _ e => e) fun b hb => .inl hb)
    exact {
      off := fun hm => by
        simp only [List.mem_cons, List.not_mem_nil, or_false] at hm
        rcases hm with e | e | e | e
        · exact dz e
        · exact dTO e
        · exact di1 e
        · exact di2 e
      frame := fun i h₁ h₂ st hk => by
        obtain ⟨hTI, h1, h2, hz⟩ := st
        refine ⟨hk _ _ (Ne.symm dTI) hTI, E1.frame _ _ _ h1 fun b hb o e => hk b o (fun q => df1 (q ▸ hb)) e, E2.frame _ _ _ h2 fun b hb o e => hk b o (fun q => df2 (q ▸ hb)) e, ?_⟩
        rcases hz with ⟨hz, a, b, hTO⟩ | ⟨T, f, oT, hz, hT, r1, r2, r3, r4⟩
        · exact .inl ⟨hk _ _ (Ne.symm dz) hz, a, b, hk _ _ (Ne.symm dTO) hTO⟩
        · exact .inr ⟨T, f, oT, hk _ _ (Ne.symm dz) hz, hk _ _ r4 hT, r1, r2, r3, r4⟩
      item := fun i s₁ Q₁ E₁ hi st hds hQ => by
        obtain ⟨hTI, h1, h2, hz⟩ := st
        have hix : i < n1 := Nat.lt_of_lt_of_le hi (Nat.min_le_left ..)
        have hiy : i < n2 := Nat.lt_of_lt_of_le hi (Nat.min_le_right ..)
        have lt : ∀ {c o}, s₁.heap.get? c = some o → s₁.heap.objs.size ≠ c := fun e => Nat.ne_of_gt (Heap.lt_size e)
        have l1 : s₁.heap.objs.size ≠ i1 := let ⟨_, e⟩ := E1.live _ _ h1; lt e
        have l2 : s₁.heap.objs.size ≠ i2 := let ⟨_, e⟩ := E2.live _ _ h2; lt e
        rcases hz with ⟨hz, a, b, hTO⟩ | ⟨T, f, oT, hz, hT, r1, r2, r3, r4⟩
        · refine wpAny_pyNext_zipD2_item S E1 E2 hz hTI hTO h1 h2 hix hiy fun x1 x2 h' tk y1 y2 b1 b2 e1 e2 b5 b6 hk => ?_
          exact hQ s₁.heap.objs.size _ _ h' tk ⟨y1, y2⟩ (.inl ⟨_, b5, rfl, _, rfl⟩)
            ⟨hk _ _ S.TIz S.TITO S.TIi1 S.TIi2 hTI, e1, e2, .inr ⟨s₁.heap.objs.size, false, _, b1, b5, lt hz, l1, l2, Nat.ne_of_gt hds⟩⟩
            fun c o hc e => hk c o (fun x => hc (by simp [x])) (fun x => hc (by simp [x])) (fun x => hc (by simp [x])) (fun x => hc (by simp [x])) e
        · refine pyNext_held_item S E1 E2 hz hT hTI h1 h2 hix hiy fun x1 x2 h' tk y1 y2 b1 e1 e2 b5 b6 hk => ?_
          exact hQ s₁.heap.objs.size _ _ h' tk ⟨y1, y2⟩ (.inl ⟨_, b5, rfl, _, rfl⟩)
            ⟨hk _ _ S.TIz S.TIi1 S.TIi2 hTI, e1, e2, .inr ⟨T, true, oT, b1, hk _ _ r1 r2 r3 hT, r1, r2, r3, r4⟩⟩
            fun c o hc e => hk c o (fun x => hc (by simp [x])) (fun x => hc (by simp [x])) (fun x => hc (by simp [x])) e
      done := fun s₁ Q₁ E₁ st hQ => by
        obtain ⟨hTI, h1, h2, hz⟩ := st
        rcases hz with ⟨hz, a, b, hTO⟩ | ⟨T, f, oT, hz, hT, r1, r2, r3, r4⟩
        · exact wpAny_pyNext_zipD2_end S E1 E2 hz hTI hTO h1 h2 (by omega) (by omega) (by omega) fun h' tk hk => hQ h' tk fun c o hc e => hk c o (fun x => hc (by simp [x])) (fun x => hc (by simp [x])) (fun x => hc (by simp [x])) (fun x => hc (by simp [x])) e
        · exact pyNext_held_end S E1 E2 hz hT hTI h1 h2 (by omega) (by omega) (by omega) fun h' tk hk => hQ h' tk fun c o hc e => hk c o (fun x => hc (by simp [x])) (fun x => hc (by simp [x])) (fun x => hc (by simp [x])) e }
end
end DZ
end

section
set_option linter.all false
set_option maxRecDepth 100000
set_option maxHeartbeats 1000000
/-! DZ2: dict(zip(a, b)). -/
namespace DV
open PySem PySem.Spec PyProof.Rows L2
section
variable {κ : Type} [DecidableEq κ]
theorem atKey_cons (p : κ × Addr × Value) (xs : List (κ × Addr × Value)) (k : κ) : atKey (p :: xs) k = if p.1 = k then some p.2 else atKey xs k := by
  unfold atKey
  rw [List.find?_cons]
  by_cases h : p.1 = k
  · simp [h]
  · simp [h]
theorem atKey_not {xs : List (κ × Addr × Value)} {k : κ} (h : k ∉ xs.map (·.1)) : atKey xs k = none := by
  unfold atKey
  rw [Option.map_eq_none_iff, List.find?_eq_none]
  intro x hx
  simp only [decide_eq_true_eq]
  exact fun e => h (List.mem_map.mpr ⟨x, hx, e⟩)
theorem putAt_not {xs : List (κ × Addr × Value)} {k : κ} {v : Value} (h : k ∉ xs.map (·.1)) : xs.map (putAt k v) = xs := by
  induction xs with
  | nil => rfl
  | cons x xs ih =>
    simp only [List.map_cons, List.mem_cons, not_or] at h
    rw [List.map_cons, ih h.2]
    unfold putAt
    rw [if_neg (fun e => h.1 e.symm)]
theorem storedH_cons (p : κ × Addr × Value) (xs : List (κ × Addr × Value)) (k : κ) (b : Addr) (v : Value) (nd : ((p :: xs).map (·.1)).Nodup) :
    storedH (p :: xs) k b v = if p.1 = k then (p.1, p.2.1, v) :: xs else p :: storedH xs k b v := by
  have nd' := List.nodup_cons.mp nd
  unfold storedH
  rw [atKey_cons]
  by_cases h : p.1 = k
  · rw [if_pos h, if_pos h, if_pos (show (some p.2).isSome = true from rfl), List.map_cons, putAt_not (h ▸ nd'.1)]
    unfold putAt
    rw [if_pos h]
  · rw [if_neg h, if_neg h]
    by_cases q : (atKey xs k).isSome = true
    · rw [if_pos q, if_pos q, List.map_cons]
      unfold putAt
      rw [if_neg h]
    · rw [if_neg q, if_neg q, List.cons_append]
theorem stored_cons (p : κ × Value) (xs : List (κ × Value)) (k : κ) (v : Value) (nd : ((p :: xs).map (·.1)).Nodup) :
    stored (p :: xs) k v = if p.1 = k then (p.1, v) :: xs else p :: stored xs k v := by
  have nd' := List.nodup_cons.mp nd
  have same : ∀ {xs : List (κ × Value)}, k ∉ xs.map (·.1) → xs.map (fun kv => if kv.1 = k then (kv.1, v) else kv) = xs := by
    intro xs h
    induction xs with
    | nil => rfl
    | cons x xs ih =>
      simp only [List.map_cons, List.mem_cons, not_or] at h
      rw [List.map_cons, ih h.2, if_neg (fun e => h.1 e.symm)]
  unfold stored
  rw [List.any_cons]
  by_cases h : p.1 = k
  · rw [if_pos h, if_pos (by simp [h]), List.map_cons, same (h ▸ nd'.1), if_pos h]
  · rw [if_neg h]
    have e : (decide (p.1 = k) || xs.any fun kv => decide (kv.1 = k)) = xs.any fun kv => decide (kv.1 = k) := by simp [h]
    rw [e]
    by_cases q : (xs.any fun kv => decide (kv.1 = k)) = true
    · rw [if_pos q, if_pos q, List.map_cons, if_neg h]
    · rw [if_neg q, if_neg q, List.cons_append]
theorem storedH_keys (xs : List (κ × Addr × Value)) (k : κ) (b : Addr) (v : Value) (nd : (xs.map (·.1)).Nodup) : ((storedH xs k b v).map (·.1)).Nodup ∧ ∀ y ∈ (storedH xs k b v).map (·.1), y = k ∨ y ∈ xs.map (·.1) := by
  induction xs with
  | nil => exact ⟨by simp [storedH, atKey], fun y hy => by simp [storedH, atKey] at hy; exact .inl hy⟩
  | cons p xs ih =>
    have nd' := List.nodup_cons.mp nd
    rw [storedH_cons p xs k b v nd]
    by_cases h : p.1 = k
    · rw [if_pos h]
      exact ⟨nd, fun y hy => .inr hy⟩
    · rw [if_neg h]
      obtain ⟨i1, i2⟩ := ih nd'.2
      refine ⟨?_, fun y hy => ?_⟩
      · rw [List.map_cons, List.nodup_cons]
        refine ⟨fun hm => ?_, i1⟩
        rcases i2 _ hm with e | e
        · exact h e
        · exact nd'.1 e
      · rcases List.mem_cons.mp hy with e | e
        · exact .inr (e ▸ List.mem_cons_self ..)
        · rcases i2 _ e with e | e
          · exact .inl e
          · exact .inr (List.mem_cons_of_mem _ e)
theorem stored_keys (xs : List (κ × Value)) (k : κ) (v : Value) (nd : (xs.map (·.1)).Nodup) : ((stored xs k v).map (·.1)).Nodup ∧ ∀ y ∈ (stored xs k v).map (·.1), y = k ∨ y ∈ xs.map (·.1) := by
  induction xs with
  | nil => exact ⟨by simp [stored], fun y hy => by simp [stored] at hy; exact .inl hy⟩
  | cons p xs ih =>
    have nd' := List.nodup_cons.mp nd
    rw [stored_cons p xs k v nd]
    by_cases h : p.1 = k
    · rw [if_pos h]
      exact ⟨nd, fun y hy => .inr hy⟩
    · rw [if_neg h]
      obtain ⟨i1, i2⟩ := ih nd'.2
      refine ⟨?_, fun y hy => ?_⟩
      · rw [List.map_cons, List.nodup_cons]
        refine ⟨fun hm => ?_, i1⟩
        rcases i2 _ hm with e | e
        · exact h e
        · exact nd'.1 e
      · rcases List.mem_cons.mp hy with e | e
        · exact .inr (e ▸ List.mem_cons_self ..)
        · rcases i2 _ e with e | e
          · exact .inl e
          · exact .inr (List.mem_cons_of_mem _ e)
end
section
variable {C : PC} {F : Hp} {μ : List Addr}
abbrev kTD (p : List Key × Addr × Value) : D := .tup (p.1.map keyD)
abbrev kAD {α : Type} (p : Key × α) : D := keyD p.1
/-- one pair more: the dict of tuples and the deep one -/
theorem put_T (k : List Key) (b : Addr) (v : Value) (w : V) (d : D) (rv : RelV w v) (rd : Rep C F μ w d) : ∀ (acc : List (List Key × Addr × Value)) (vs : List V) (ds : List D), (acc.map (·.1)).Nodup → Vals vs (acc.map (·.2.2)) → Reps C F μ vs ds →
    ∃ vs', Vals vs' ((storedH acc k b v).map (·.2.2)) ∧ Reps C F μ vs' (putD (.tup (k.map keyD)) d (acc.map kTD) ds).2 ∧ (putD (.tup (k.map keyD)) d (acc.map kTD) ds).1 = (storedH acc k b v).map kTD
  | [], _, _, _, .nil, .nil => ⟨[w], by simpa [storedH, atKey] using (Paired.cons rv .nil : Vals [w] [v]), by simpa [putD] using .cons rd .nil, by simp [putD, storedH, atKey]⟩
  | p :: acc, _, _, nd, .cons q qs, .cons a r => by
    rw [storedH_cons p acc k b v nd]
    have e1 : eqD (kTD p) (.tup (k.map keyD)) = decide (p.1 = k) := by
      show eqDs (p.1.map keyD) (k.map keyD) = _
      exact keyD_eqs p.1 k
    simp only [List.map_cons, putD, e1]
    by_cases h : p.1 = k
    · simp only [h, decide_true, if_true]
      exact ⟨w :: _, .cons rv qs, .cons rd r, by simp [kTD, h]⟩
    · simp only [h, decide_false, Bool.false_eq_true, if_false]
      obtain ⟨vs', h1, h2, h3⟩ := put_T k b v w d rv rd acc _ _ (List.nodup_cons.mp nd).2 qs r
      exact ⟨_ :: vs', .cons q h1, .cons a h2, by simp [h3]⟩
theorem put_K (k : Key) (v : Value) (w : V) (d : D) (rv : RelV w v) (rd : Rep C F μ w d) : ∀ (acc : List (Key × Value)) (vs : List V) (ds : List D), (acc.map (·.1)).Nodup → Vals vs (acc.map (·.2)) → Reps C F μ vs ds →
    ∃ vs', Vals vs' ((stored acc k v).map (·.2)) ∧ Reps C F μ vs' (putD (keyD k) d (acc.map kAD) ds).2 ∧ (putD (keyD k) d (acc.map kAD) ds).1 = (stored acc k v).map kAD
  | [], _, _, _, .nil, .nil => ⟨[w], by simpa [stored] using (Paired.cons rv .nil : Vals [w] [v]), by simpa [putD] using .cons rd .nil, by simp [putD, stored]⟩
  | p :: acc, _, _, nd, .cons q qs, .cons a r => by
    rw [stored_cons p acc k v nd]
    have e1 : eqD (kAD p) (keyD k) = decide (p.1 = k) := keyD_eq
    simp only [List.map_cons, putD, e1]
    by_cases h : p.1 = k
    · simp only [h, decide_true, if_true]
      exact ⟨w :: _, .cons rv qs, .cons rd r, by simp [kAD, h]⟩
    · simp only [h, decide_false, Bool.false_eq_true, if_false]
      obtain ⟨vs', h1, h2, h3⟩ := put_K k v w d rv rd acc _ _ (List.nodup_cons.mp nd).2 qs r
      exact ⟨_ :: vs', .cons q h1, .cons a h2, by simp [h3]⟩
/-- all pairs -/
theorem mk_T : ∀ (ps : List (List Key × Addr × Value)) (ws : List V) (ys : List D) (acc : List (List Key × Addr × Value)) (vs : List V) (ds : List D), Vals ws (ps.map (·.2.2)) → Reps C F μ ws ys → (acc.map (·.1)).Nodup → Vals vs (acc.map (·.2.2)) → Reps C F μ vs ds →
    ∃ vs', Vals vs' ((storedAllH acc ps).map (·.2.2)) ∧ Reps C F μ vs' (mkDic (ps.map kTD) ys (acc.map kTD, ds)).2 ∧ (mkDic (ps.map kTD) ys (acc.map kTD, ds)).1 = (storedAllH acc ps).map kTD
  | [], _, _, acc, vs, ds, .nil, .nil, nd, hv, hr => ⟨vs, hv, by simpa [mkDic] using hr, by simp [mkDic, storedAllH]⟩
  | p :: ps, w :: ws, y :: ys, acc, vs, ds, .cons q qs, .cons a r, nd, hv, hr => by
    obtain ⟨vs1, h1, h2, h3⟩ := put_T p.1 p.2.1 p.2.2 w y q a acc vs ds nd hv hr
    obtain ⟨vs', g1, g2, g3⟩ := mk_T ps ws ys (storedH acc p.1 p.2.1 p.2.2) vs1 _ qs r (storedH_keys acc p.1 p.2.1 p.2.2 nd).1 h1 h2
    refine ⟨vs', g1, ?_, ?_⟩
    · simp only [List.map_cons, mkDic]
      rw [show putD (kTD p) y (acc.map kTD) ds = ((storedH acc p.1 p.2.1 p.2.2).map kTD, (putD (kTD p) y (acc.map kTD) ds).2) from Prod.ext h3 rfl]
      exact g2
    · simp only [List.map_cons, mkDic]
      rw [show putD (kTD p) y (acc.map kTD) ds = ((storedH acc p.1 p.2.1 p.2.2).map kTD, (putD (kTD p) y (acc.map kTD) ds).2) from Prod.ext h3 rfl]
      exact g3
theorem mk_K : ∀ (ps : List (Key × Value)) (ws : List V) (ys : List D) (acc : List (Key × Value)) (vs : List V) (ds : List D), Vals ws (ps.map (·.2)) → Reps C F μ ws ys → (acc.map (·.1)).Nodup → Vals vs (acc.map (·.2)) → Reps C F μ vs ds →
    ∃ vs', Vals vs' ((merged acc ps).map (·.2)) ∧ Reps C F μ vs' (mkDic (ps.map kAD) ys (acc.map kAD, ds)).2 ∧ (mkDic (ps.map kAD) ys (acc.map kAD, ds)).1 = (merged acc ps).map kAD
  | [], _, _, acc, vs, ds, .nil, .nil, nd, hv, hr => ⟨vs, hv, by simpa [mkDic] using hr, by simp [mkDic, merged]⟩
  | p :: ps, w :: ws, y :: ys, acc, vs, ds, .cons q qs, .cons a r, nd, hv, hr => by
    obtain ⟨vs1, h1, h2, h3⟩ := put_K p.1 p.2 w y q a acc vs ds nd hv hr
    obtain ⟨vs', g1, g2, g3⟩ := mk_K ps ws ys (stored acc p.1 p.2) vs1 _ qs r (stored_keys acc p.1 p.2 nd).1 h1 h2
    refine ⟨vs', g1, ?_, ?_⟩
    · simp only [List.map_cons, mkDic]
      rw [show putD (kAD p) y (acc.map kAD) ds = ((stored acc p.1 p.2).map kAD, (putD (kAD p) y (acc.map kAD) ds).2) from Prod.ext h3 rfl]
      exact g2
    · simp only [List.map_cons, mkDic]
      rw [show putD (kAD p) y (acc.map kAD) ds = ((stored acc p.1 p.2).map kAD, (putD (kAD p) y (acc.map kAD) ds).2) from Prod.ext h3 rfl]
      exact g3
/-- the keys of a list of tuples -/
theorem keys_T : ∀ {us : List V} {xs : List D} {its : List Value}, Reps C F μ us xs → Vals us its → xs.all keyT = true → ∃ ks : List (List Key × Addr), its = ks.map (fun p => Value.ref p.2) ∧ xs = ks.map (fun p => D.tup (p.1.map keyD)) ∧ ∀ p ∈ ks, TupS C.K F p.2 (p.1.map kV)
  | _, _, _, .nil, .nil, _ => ⟨[], rfl, rfl, fun p hp => by cases hp⟩
  | _, _, _, .cons a r, .cons q qs, h => by
    simp only [List.all_cons, Bool.and_eq_true] at h
    obtain ⟨ks, e1, e2, e3⟩ := keys_T r qs h.2
    cases a <;> simp only [keyT] at h <;> try (cases h.1; done)
    rename_i a0 vs0 ds0 sT rT
    obtain ⟨k, rfl⟩ := keyT_of h.1
    have evs : ∀ {k : List Key} {vs2 : List V}, Reps C F μ vs2 (k.map keyD) → vs2 = k.map kV := by
      intro k
      induction k with
      | nil => intro vs2 r; cases r; rfl
      | cons k0 k ih => intro vs2 r; cases r with | cons a r => rw [keyD_of a, ih r]; rfl
    have := evs rT
    subst this
    cases (show _ = Value.ref a0 from q)
    refine ⟨(k, a0) :: ks, by simp [e1], by simp [e2], fun p hp => ?_⟩
    rcases List.mem_cons.mp hp with rfl | hp
    · exact sT
    · exact e3 p hp
theorem keys_A : ∀ {us : List V} {xs : List D} {its : List Value}, Reps C F μ us xs → Vals us its → xs.all keyA = true → ∃ ks : List Key, xs = ks.map keyD ∧ Paired (fun (k : Key) (u : Value) => RelV (kV k) u) ks its
  | _, _, _, .nil, .nil, _ => ⟨[], rfl, .nil⟩
  | _, _, _, .cons a r, .cons q qs, h => by
    simp only [List.all_cons, Bool.and_eq_true] at h
    obtain ⟨ks, e1, e2⟩ := keys_A r qs h.2
    obtain ⟨k, rfl⟩ := keyA_of h.1
    have := keyD_of a
    subst this
    exact ⟨k :: ks, by simp [e1], .cons q e2⟩
end
end DV
end

section
set_option linter.all false
set_option maxRecDepth 100000
set_option maxHeartbeats 1000000
/-! DZ3: dict(zip(a, b)), the rule. -/
namespace DV
open PySem PySem.Spec PyProof.Rows L2
section
variable {C : PC} {G : Tell} {X : Cx}
theorem seqD_src {F H : Hp} {K : PySem.W.Frag} {μ : List Addr} (sub : ∀ a o, F a = some o → H a = some o) (hK : K = C.K) {v : V} {d : D} {xs : List D} (r : Rep C F μ v d) (e : seqD d = some xs) : ∃ kd a us, v = .ref a ∧ SqS kd K H a us ∧ Reps C F μ us xs := by
  cases r <;> simp only [seqD] at e <;> cases e
  · rename_i a vs s r; exact ⟨false, a, vs, rfl, by rw [hK]; exact s.sqT sub, r⟩
  · rename_i a vs s r; exact ⟨true, a, vs, rfl, .inl (.inl (sub _ _ s)), r⟩
theorem bDictzip_of {as : List D} {d : D} (e : bDictzip as = some d) : ∃ a b xs ys, as = [a, b] ∧ seqD a = some xs ∧ seqD b = some ys ∧ xs.length ≤ 1000 ∧ ys.length = xs.length ∧ (xs.all keyA = true ∨ xs.all keyT = true) ∧ d = .dic (mkDic xs ys ([], [])).1 (mkDic xs ys ([], [])).2 := by
  unfold bDictzip at e
  split at e
  · rename_i a b
    obtain ⟨xs, e1, e⟩ := Option.bind_eq_some_iff.mp e
    obtain ⟨ys, e2, e⟩ := Option.bind_eq_some_iff.mp e
    split at e
    · rename_i h
      cases e
      exact ⟨a, b, xs, ys, rfl, e1, e2, h.1, h.2.1, by simpa using h.2.2, rfl⟩
    · cases e
  · cases e
theorem paired_get {α β : Type} {R : α → β → Prop} : ∀ {l : List α} {m : List β}, Paired R l m → ∀ {i : Nat} {b : β}, m[i]? = some b → ∃ a, l[i]? = some a ∧ R a b
  | _, _, .nil, i, b, e => by simp at e
  | _, _, .cons a r, 0, b, e => by simp at e; subst e; exact ⟨_, rfl, a⟩
  | _, _, .cons a r, i + 1, b, e => by simpa using paired_get r (i := i) (by simpa using e)
theorem keyIs_of {k : Key} {u : Value} (h : RelV (kV k) u) : keyIs k u = true := by
  cases k with
  | inl i => obtain ⟨t, rfl⟩ : ∃ t, u = .int i t := h; exact keyIs_int i t
  | inr x => obtain ⟨t, rfl⟩ : ∃ t, u = .str x t := h; exact keyIs_str x t
theorem kvs_of : ∀ {m : List (Key × Value)} {vs : List V}, Vals vs (m.map (·.2)) → ∃ kvs : List (Key × V), kvs.map (·.1) = m.map (·.1) ∧ kvs.map (·.2) = vs ∧ KV kvs m
  | [], _, .nil => ⟨[], rfl, rfl, .nil⟩
  | q :: m, _, .cons r rr => by
    obtain ⟨kvs, i1, i2, i3⟩ := kvs_of rr
    exact ⟨(q.1, _) :: kvs, by simp [i1], by simp [i2], .cons ⟨rfl, r⟩ i3⟩
theorem de_dictzip (hK : X.K = C.K) (hP : X.prog = C.prog) (hW : X.w = C.w) (hcalm : X.calm = true) (hu : X.A.units + 200 < cLine) {c : CE} {e1 e2 : Expr} {p1 p2 q1 q2 : Pos} (hg1 : Gl X "dict") (hm1 : X.mg "dict" = none) (hg2 : Gl X "zip") (hm2 : X.mg "zip" = none) (hs1 : notStar e1 = true) (hs2 : notStar e2 = true)
    (h : DA C G X c [e1, e2]) : DE C G X (.blt .dictzip c) (.Call (.Name "dict" p1) [.Call (.Name "zip" p2) [e1, e2] [] q2] [] q1) := fun Wx tk => by
  refine ⟨fun pins s σ H Q I hh => ?_⟩
  obtain ⟨N0, W, ρ, st, n, p⟩ := hh
  simp only [evE] at p
  refine Call_ (ld_blt I hg1 hm1 PyProof.Rows.boot_dict (PyProof.Rows.callWith_type1 (spliced_more ?_ rfl) rfl rfl))
  refine Call_ (ld_blt I hg2 hm2 PyProof.Rows.boot_zip (PyProof.Rows.callWith_type1 (thn ((h Wx tk).run q2 pins s σ H _ I (args n p)) fun us s1 ⟨vs, H1, I1, r1, W1, st1, as, n1, ra, pp, g1⟩ => ?_) (starEach_of hs1 _ _) (star_any _ (by simp [hs2]))))
  obtain ⟨d, ed, pp⟩ := pp.lift
  obtain ⟨da, db, xs, ys, rfl, ea, eb, hlx, hly, hkey, rfl⟩ := bDictzip_of ed
  cases ra with
  | cons ra1 ra =>
  cases ra with
  | cons ra2 ra =>
  cases ra
  obtain ⟨k1, a, us1, rfl, sq1, rx⟩ := seqD_src (H := H1) (K := X.K) n1.1.sub hK ra1 ea
  obtain ⟨k2, b, us2, rfl, sq2, ry⟩ := seqD_src (H := H1) (K := X.K) n1.1.sub hK ra2 eb
  cases r1 with
  | cons r rr =>
  cases rr with
  | cons r' rr =>
  cases rr
  cases r
  cases r'
  obtain ⟨its, rv, a1⟩ := inv_src I1 sq1
  obtain ⟨its2, rv2, a2⟩ := inv_src I1 sq2
  have la : a < s1.heap.objs.size := a1.lt
  have lb : b < s1.heap.objs.size := a2.lt
  have l1 : its.length = xs.length := by rw [← rv.length, rx.length]
  have l2 : its2.length = xs.length := by rw [← rv2.length, ry.length, hly]
  refine zip_begins2 (src_begins k1 a its.toArray) (src_begins k2 b its2.toArray) a1 a2 fun h' hz hTI hTO h1 h2 hsz hk => ?_
  refine spliced_none ?_
  have I2 : L2.Inv X pins σ H1 { s1 with heap := h' } := I1.kept (t' := s1.toks) hk
  have hh0 : X.A.handled = none := I1.ok.hd hcalm
  have S := zip_sep2 (N := s1.heap.objs.size) (fp1 := [a]) (fp2 := [b]) (by simpa using la) (by simpa using lb)
  have key : ∀ {kd : Bool} {h : Heap} {a : Addr} {its : Array Value}, SrcAt kd a its s1.heap → SrcAt kd a its h' := fun {kd h a its} z => by
    cases kd
    · exact z.at fun o e => hk _ _ e
    · exact z.at fun o e => hk _ _ e
  have P := DZ.PairArg.zipD (prog := X.prog) (w := X.w) S (fun A hA => src_draws k1 hA s1.heap.objs.size a (Nat.ne_of_lt la) its.toArray) (fun A hA => src_draws k2 hA (s1.heap.objs.size + 1) b (Nat.ne_of_lt (Nat.lt_succ_of_lt lb)) its2.toArray)
    (fun h hst c hc => by
      rcases List.mem_cons.mp hc with rfl | hc
      · obtain ⟨o, e, _⟩ := hst.1.obj; exact ⟨o, e⟩
      · rw [List.mem_singleton.mp hc]
        cases k1
        · obtain ⟨o, e, _⟩ := hst.2; exact ⟨o, e⟩
        · obtain ⟨o, e, _⟩ := hst.2; exact ⟨o, e⟩)
    (fun h hst c hc => by
      rcases List.mem_cons.mp hc with rfl | hc
      · obtain ⟨o, e, _⟩ := hst.1.obj; exact ⟨o, e⟩
      · rw [List.mem_singleton.mp hc]
        cases k2
        · obtain ⟨o, e, _⟩ := hst.2; exact ⟨o, e⟩
        · obtain ⟨o, e, _⟩ := hst.2; exact ⟨o, e⟩)
  have ok : IsZip h' (s1.heap.objs.size + 4) (s1.heap.objs.size + 2) (s1.heap.objs.size + 3) .none ∧ IsPair h' (s1.heap.objs.size + 2) (.ref s1.heap.objs.size) (.ref (s1.heap.objs.size + 1)) ∧ (∃ a b, IsPair h' (s1.heap.objs.size + 3) a b) ∧
      (SrcIt k1 s1.heap.objs.size a 0 h' ∧ SrcAt k1 a its.toArray h') ∧ (SrcIt k2 (s1.heap.objs.size + 1) b 0 h' ∧ SrcAt k2 b its2.toArray h') :=
    ⟨hz, hTI, ⟨_, _, hTO⟩, ⟨SrcIt.start h1, key (h := h') a1⟩, ⟨SrcIt.start h2, key (h := h') a2⟩⟩
  have hmin : min its.toArray.size its2.toArray.size = xs.length := by
    rw [List.size_toArray, List.size_toArray, l1, l2]; exact Nat.min_self _
  rw [hmin] at P
  have hszl : xs.length ≤ sizeLine := by rw [sizeLine_eq]; omega
  -- what is written is new
  have wrNew : ∀ c o, s1.heap.get? c = some o → c ∉ [s1.heap.objs.size + 4, s1.heap.objs.size + 3, s1.heap.objs.size, s1.heap.objs.size + 1] := fun c o e hm => by
    have := Heap.lt_size e
    simp only [List.mem_cons, List.not_mem_nil, or_false] at hm
    rcases hm with rfl | rfl | rfl | rfl <;> exact absurd this (by first | exact Nat.not_lt.mpr (Nat.le_add_right _ _) | exact Nat.lt_irrefl _)
  have hbig : s1.heap.objs.size ≤ h'.objs.size := by rw [hsz]; exact Nat.le_add_right _ _
  have dnew : ∀ c o, s1.heap.get? c = some o → c ≠ h'.objs.size := fun c o e => Nat.ne_of_lt (Nat.lt_of_lt_of_le (Heap.lt_size e) hbig)
  have hfr : H1 h'.objs.size = none := I1.hok.fresh hbig
  have hms : (h'.objs.size == sysModules) = false := beq_eq_false_iff_ne.mpr (Nat.ne_of_gt (Nat.lt_of_lt_of_le I1.big hbig))
  rcases hkey with hkey | hkey
  · -- keys by value
    obtain ⟨ks, rfl, pk⟩ := keys_A rx rv hkey
    have hz2 : (ks.zip its2).length = (ks.map keyD).length := by rw [List.length_zip, l2, List.length_map]; exact Nat.min_self _
    have hc : PairsHave (mixKind X.prog X.w) (ks.map keyD).length (fun i k v => its.toArray[i]? = some k ∧ its2.toArray[i]? = some v) (ks.zip its2) := ⟨hz2, fun i k v ⟨e1, e2⟩ => by
      rw [List.getElem?_toArray] at e1 e2
      obtain ⟨kk, q1, q2⟩ := paired_get pk e1
      exact ⟨kk, by rw [List.getElem?_zip_eq_some]; exact ⟨q1, e2⟩, keyIs_of q2⟩⟩
    refine call_dict_pairs P hh0 ok hc hszl fun h2' tk hd2 hk2 => ?_
    have keep : ∀ c o, s1.heap.get? c = some o → h2'.get? c = some o := fun c o e => hk2 c o (wrNew c o e) (hk c o e)
    obtain ⟨vs', g1', g2', g3'⟩ := mk_K (C := C) (F := W1.F) (μ := W1.μ) (ks.zip its2) us2 ys [] [] [] (by
        have : (ks.zip its2).map (·.2) = its2 := by rw [List.map_snd_zip]; rw [l2, List.length_map]; exact Nat.le_refl _
        rw [this]; exact rv2) ry List.nodup_nil .nil .nil
    have hks : (ks.zip its2).map kAD = ks.map keyD := by
      have e := List.map_fst_zip (l₁ := ks) (l₂ := its2) (by rw [l2, List.length_map]; exact Nat.le_refl _)
      conv => rhs; rw [← e, List.map_map]
      rfl
    rw [hks] at g2' g3'
    obtain ⟨kvs, hkv⟩ := kvs_of g1'
    obtain ⟨hkv1, hkv2, hkv3⟩ := hkv
    have hlen : kvs.length ≤ sizeLine := by
      have e1 : kvs.length = (merged [] (ks.zip its2)).length := by rw [← List.length_map (as := kvs) (·.1), hkv1, List.length_map]
      have e2 := merged_length [] (ks.zip its2)
      rw [e1]
      refine Nat.le_trans e2 ?_
      rw [List.length_nil, Nat.zero_add, hz2]; exact hszl
    have obj : ObjOk X.prog X.w (upd H1 h'.objs.size (.dK kvs)) h2' h'.objs.size (.dK kvs) := ⟨hlen, hms, _, hkv3, hd2⟩
    have I3 : L2.Inv X pins σ (upd H1 h'.objs.size (.dK kvs)) { s1 with heap := h2', toks := tk } := I1.laid (t' := tk) keep hbig obj
    obtain ⟨W2, gr, m2, eF⟩ := n1.1.lay hfr (o := .dK kvs) (fun ps z => by cases z)
    refine ⟨.ref h'.objs.size, _, I3, rfl, pp (.ref h'.objs.size) _ W2 gr m2 ?_⟩
    have hD : (mkDic (ks.map keyD) ys ([], [])).1 = kvs.map fun p => keyD p.1 := by
      rw [show (mkDic (ks.map keyD) ys ([], [])).1 = _ from g3']
      have : ∀ l : List (Key × Value), l.map kAD = (l.map (·.1)).map keyD := fun l => by rw [List.map_map]; rfl
      rw [this, ← hkv1, List.map_map]; rfl
    rw [hD]
    exact .dK eF (by rw [hkv2]; exact gr.reps g2')
  · -- keys that are tuples
    obtain ⟨ks, ei, rfl, kT⟩ := keys_T rx rv hkey
    subst ei
    have hz2 : (ks.zip its2).length = (ks.map (fun p => D.tup (p.1.map keyD))).length := by rw [List.length_zip, l2, List.length_map]; exact Nat.min_self _
    have hps : ∀ p ∈ (ks.zip its2).map (fun p => (p.1.1, p.1.2, p.2)), ∃ q ∈ ks, p.1 = q.1 ∧ p.2.1 = q.2 := fun p hp => by
      obtain ⟨z, hz, rfl⟩ := List.mem_map.mp hp
      exact ⟨z.1, (List.of_mem_zip hz).1, rfl, rfl⟩
    have isK : ∀ q ∈ ks, ∀ h2 : Heap, (∀ c o, s1.heap.get? c = some o → h2.get? c = some o) → (tupleKind (mixKind X.prog X.w)).is h2 q.1 q.2 := fun q hq h2 hk2 => by
      obtain ⟨its', rv2', ⟨o, ho, hc, n', hdat⟩, _⟩ := I1.tuple (by rw [hK]; exact (kT q hq).sqT n1.1.sub)
      exact ⟨o, its'.toArray, n', hk2 _ _ ho, hc, hdat, by simpa using items_are rv2'⟩
    have hc : PairsHaveH (tupleKind (mixKind X.prog X.w)) (ks.map (fun p => D.tup (p.1.map keyD))).length (fun i k v => (ks.map (fun p => Value.ref p.2)).toArray[i]? = some k ∧ its2.toArray[i]? = some v) ((ks.zip its2).map (fun p => (p.1.1, p.1.2, p.2))) := ⟨by rw [List.length_map]; exact hz2, fun i k v ⟨e1, e2⟩ => by
      rw [List.getElem?_toArray] at e1 e2
      rw [List.getElem?_map] at e1
      obtain ⟨q, q1, q2⟩ := Option.map_eq_some_iff.mp e1
      refine ⟨q.1, q.2, ?_, q2.symm⟩
      rw [List.getElem?_map, show (ks.zip its2)[i]? = some (q, v) from by rw [List.getElem?_zip_eq_some]; exact ⟨q1, e2⟩]
      rfl⟩
    have hst : KeysStay (tupleKind (mixKind X.prog X.w)) h' h'.objs.size [s1.heap.objs.size + 4, s1.heap.objs.size + 3, s1.heap.objs.size, s1.heap.objs.size + 1] ((ks.zip its2).map (fun p => (p.1.1, p.1.2, p.2))) := fun h2 hk2 x hx => by
      obtain ⟨q, hq, e1, e2⟩ := hps x hx
      rw [e1, e2]
      exact isK q hq h2 fun c o e => hk2 c o (dnew c o e) (wrNew c o e) (hk c o e)
    refine call_dict_pairsH P hh0 (tupleKind_room_in1 (A := X.A.in1) (by show X.A.units + 1 + 1 < cLine; omega)) ok hc hst hszl fun h2' tk hd2 hk2 => ?_
    have keep : ∀ c o, s1.heap.get? c = some o → h2'.get? c = some o := fun c o e => hk2 c o (wrNew c o e) (hk c o e)
    obtain ⟨vs', g1', g2', g3'⟩ := mk_T (C := C) (F := W1.F) (μ := W1.μ) ((ks.zip its2).map (fun p => (p.1.1, p.1.2, p.2))) us2 ys [] [] [] (by
        have : ((ks.zip its2).map (fun p => (p.1.1, p.1.2, p.2))).map (·.2.2) = its2 := by
          rw [List.map_map]
          exact List.map_snd_zip (by rw [l2, List.length_map]; exact Nat.le_refl _)
        rw [this]; exact rv2) ry List.nodup_nil .nil .nil
    have hks : ((ks.zip its2).map (fun p => (p.1.1, p.1.2, p.2))).map kTD = ks.map (fun p => D.tup (p.1.map keyD)) := by
      have e := List.map_fst_zip (l₁ := ks) (l₂ := its2) (by rw [l2, List.length_map]; exact Nat.le_refl _)
      conv => rhs; rw [← e, List.map_map]
      rw [List.map_map]
      rfl
    rw [hks] at g2' g3'
    obtain ⟨o, es, ep, ho, t1, t2, t3, t4, t5⟩ := hd2
    have obj : ObjOk X.prog X.w (upd H1 h'.objs.size (.frz o (.own 0))) h2' h'.objs.size (.frz o (.own 0)) := ⟨ho, _, ho⟩
    have I3 : L2.Inv X pins σ (upd H1 h'.objs.size (.frz o (.own 0))) { s1 with heap := h2', toks := tk } := I1.laid (t' := tk) keep hbig obj
    obtain ⟨W2, gr, m2, eF⟩ := n1.1.lay hfr (o := .frz o (.own 0)) (fun ps z => by cases z)
    refine ⟨.ref h'.objs.size, _, I3, rfl, pp (.ref h'.objs.size) _ W2 gr m2 ?_⟩
    rw [show (mkDic (ks.map (fun p => D.tup (p.1.map keyD))) ys ([], [])).1 = _ from g3']
    refine .dT eF ⟨hms, t1, ⟨es, ep, t2, by rw [← hP, ← hW]; exact t3⟩, t5⟩ (fun x hx => ?_) g1' (gr.reps g2')
    have := storedAllH_keys (xs := []) (ps := (ks.zip its2).map (fun p => (p.1.1, p.1.2, p.2))) (P := fun k b => TupS C.K W2.F b (k.map kV)) (fun x hx => by cases hx) (fun x hx => by
      obtain ⟨q, hq, e1, e2⟩ := hps x hx
      rw [e1, e2]
      exact (kT q hq).mono gr.fr)
    exact this x hx
end
end DV
end

section
set_option Elab.async false
set_option linter.all false
set_option maxRecDepth 100000
set_option maxHeartbeats 2000000
/-! XS0: an own exception whose __init__ says super().__init__(f) and self.f = f, over own bases and ValueError. -/
namespace PySem
namespace XS
open PySem.W PySem.Calls PyProof.Rows PySem.HandSPX
def iA (f : Str) (p1 p2 : Pos) : Arguments := { posonlyargs := [], args := [{ arg := "self", annotation := none, pos := p1 }, { arg := f, annotation := none, pos := p2 }], vararg := none, kwonlyargs := [], kw_defaults := [], kwarg := none, defaults := [] }
def iB (f : Str) (p0 p1 p2 p3 p4 p5 q1 q2 q3 q4 : Pos) : List Stmt := [.Expr (.Call (.Attribute (.Call (.Name "super" p0) [] [] p1) "__init__" p2) [.Name f p3] [] p4) p5, .Assign [.Attribute (.Name "self" q1) f q2] (.Name f q3) q4]
def iS (f : Str) : Scope := { kind := .function, names := [(PySem.Str.ofString "self", .local), (f, .local), (PySem.Str.ofString "__class__", .free), (PySem.Str.ofString "super", .globalImplicit)], isGenerator := false, isCoroutine := false, more := [] }
def okF (f : Str) : Prop := f = "given" ∨ f = "index"
structure XTxt (prog : Program) (K : Frag) (C : Addr) (f : Str) : Prop where
  cls : ∃ nm q N bs bm sn sub ab col dd k0 k1 k2 k3 k5, K.lookup C = some (excClassObj nm q C N bs bm true sn sub ab col dd k0 k1 k2 k3 k5 "ValueError.__new__") ∧ refsVE bm = true
  sa : findIn K (.ref C) "__setattr__" = some (some (.builtin "object.__setattr__"))
  ga : findIn K (.ref C) "__getattribute__" = some (some (.builtin "BaseException.__getattribute__"))
  gg : findIn K (.ref C) "__getattr__" = some none
  noN : findIn K (.ref C) f = some none
  kC : keepIn K (.ref C) = true
  exC : subIn K (.ref C) (.type "BaseException") = some true
  veC : subIn K (.ref C) (.type "ValueError") = some true
  tyC : typeIn K (.ref C) = some (.type "type")
  hdC : hasDictIn K C = true
  sup : ks_superIn K C C "__init__" = some (some (.builtin "ValueError.__init__"))
  tp : nsIn K cStatics "thirdparty.any" = some none
  nosup : nsIn K mainGlobals "super" = some none
  mro : mroIn K C (.ref C) = some true
  htop : (prog.main.scope.names.lookup ("super" : Str)).isSome = false
  init : ∃ (fI cc cda : Addr), findIn K (.ref C) "__init__" = some (some (.ref fI)) ∧ typeIn K (.ref fI) = some (.type "function") ∧
    (∃ (oc : Value) (od : Option Addr) (qual : Str) (doc pm : Value) (an : Option Addr) (ct : Value) (osl : Array (Option Value)) (a1 a2 p0 p1 p2 p3 p4 p5 q1 q2 q3 q4 : Pos),
      K.lookup fI = some ⟨oc, od, .func (fnX "__init__" qual (iA f a1 a2) (iB f p0 p1 p2 p3 p4 p5 q1 q2 q3 q4) (iS f) [("__class__", cc)] .none .none doc pm an (.ref cda) ct), osl⟩ ∧ codeIn K (.ref cda) qual = true ∧ (p2.endLine == p4.line) = true) ∧
    (∃ cl cld csl, K.lookup cc = some ⟨cl, cld, .cell (some (.ref C)), csl⟩) ∧
    ∃ (ccl : Value) (cdd : Option Addr) (vs : Array Value) (ccs : Array (Option Value)) (file : Str) (tf : Tok), K.lookup cda = some ⟨ccl, cdd, .fields vs, ccs⟩ ∧ vs[2]? = some (.str file tf) ∧ ((prog.main.file : Str) == file) = true
theorem one_size (v : Value) : [v].length ≤ sizeLine := by
  rw [sizeLine_eq]
  exact (by decide : 1 ≤ 16777216)
/-- a made exception -/
structure OwnMade (f : Str) (h h' : Heap) (e C d : Addr) (v : Value) : Prop where
  keep : ∀ b o, h.get? b = some o → h'.get? b = some o
  new : h.objs.size ≤ e
  obj : ∃ oe vs, h'.get? e = some oe ∧ oe.cls = .ref C ∧ oe.dict = some d ∧ oe.data = .fields vs ∧ vs[1]? = some .none
  dbig : h.objs.size ≤ d
  dne : d ≠ e
  ns : h'.Ns1 d (fun y => if y = f then some v else none)
section
variable {prog : Program} {w : World} {A : Around} {E : Value → Shared → Prop} {R : Result → Shared → Prop} {s : Shared} {K : Frag} {mg mb : Str → Option Value} {C : Addr} {f : Str}
/-- super().__init__ bound, called -/
theorem call_mw {u x t0 : Addr} {v : Value} {Q : Value → Shared → Prop} {h : Heap} {g : Array GenState} {d : Drawn} {t : Nat} {os : OsState}
    (T : XTxt prog K C f) (X : K.In h) (hu : h.get? u = some (kxs_mw "ValueError.__init__" x)) (he : h.get? x = some (excO C t0))
    (hq : ∀ h' t1, (∀ b o, b ≠ x → h.get? b = some o → h'.get? b = some o) → h'.get? x = some (excO C t1) → Q .none ⟨h', g, d, t, os⟩) :
    wpAny (model prog w) A (call (.ref u) [v]) Q E ⟨h, g, d, t, os⟩ := by
  obtain ⟨nm, q, N, bs, bm, sn, sub, ab, col, dd, k0, k1, k2, k3, k5, hC, hbm⟩ := T.cls
  refine wpAny_call (codeAny_of_tree ?_)
  show wpAny _ A.in1 (callAny (.ref u) ⟨[v], []⟩) _ _ _
  simp only [callAny]
  refine wpAny_bind (wpAny_load hu ?_)
  simp only [kxs_mw, show (Value.type "method-wrapper" == Value.type "method" || Value.type "method-wrapper" == Value.type "builtin_function_or_method" || Value.type "method-wrapper" == Value.type "method-wrapper") = true by decide, if_true]
  refine KFB.if_so (by decide) ?_
  refine wpAny_bind (check_bound_init PySem.F.excBase_ValueError.toExcCallFacts (X _ _ hC) he rfl ?_)
  refine wpAny_bind (wpAny_pure (wpAny_pure ?_))
  refine ⟨plainId_quiet PySem.F.excBase_ValueError.init.plain _, codeAny_builtin PySem.F.excBase_ValueError.initEntry ?_⟩
  exact exc_init_tree (cls := .ref C) (t0 := t0) (dv := none) (c2 := .none) (c3 := .none) (b4 := .bool false) he (one_size v) fun h' k e' _ => hq h' _ k e'
end
end XS
end PySem
end

section
set_option Elab.async false
set_option linter.all false
set_option maxRecDepth 100000
set_option maxHeartbeats 2000000
namespace PySem
namespace XS
open PySem.W PySem.Calls PyProof.Rows PySem.HandSPX
section
variable {prog : Program} {w : World} {A : Around} {E : Value → Shared → Prop} {R : Result → Shared → Prop} {s : Shared} {K : Frag} {mg mb : Str → Option Value} {C : Addr} {f : Str}
/-- what __init__ leaves of a fresh exception at x -/
structure InitEnd (f : Str) (h h' : Heap) (x C dx t1 : Addr) (v : Value) : Prop where
  keep : ∀ b o, b ≠ x → h.get? b = some o → h'.get? b = some o
  obj : h'.get? x = some { cls := .ref C, dict := some dx, data := .fields #[.ref t1, .none, .none, .none, .bool false, .none] }
  dbig : h.objs.size ≤ dx
  dne : dx ≠ x
  ns : h'.Ns1 dx (fun y => if y = f then some v else none)
theorem env_eq {qual : Str} {scope : Scope} {L a cc : Addr} {cd : Value} {nm : Str} {ps : Arguments} {body : List Stmt} {dV kV doc pm ct : Value} {an : Option Addr} :
    callEnv (fnX nm qual ps body scope [("__class__", cc)] dV kV doc pm an cd ct) L a = ksEnv qual scope L a cd cc := rfl
theorem xs_init (hf : okF f) (T : XTxt prog K C f) {fI : Addr} {x t0 : Addr} {v : Value} (hi : findIn K (.ref C) "__init__" = some (some (.ref fI))) (X : K.In s.heap) (hmg : s.heap.Ns mainGlobals mg) (hmb : s.heap.Ns builtinsNs mb) (hbb : ∀ x : Str, x ≠ "__name__" → mb x = bootBuiltins x)
    (hlim : s.heap.NoLimit) (hx : s.heap.get? x = some (excO C t0)) (hnx : K.lookup x = none) (hroom : A.depth < recursionLimit)
    (hq : ∀ h' tk dx t1, InitEnd f s.heap h' x C dx t1 v → R (.ok (.ret .none)) { s with heap := h', toks := tk }) :
    codeAny (model prog w) A (.call (.ref fI) ⟨[.ref x, v], []⟩) R s := by
  obtain ⟨fI', cc, cda, hi', hti, ⟨oc, od, qual, doc, pm, an, ct, osl, a1, a2, p0, p1, p2, p3, p4, p5, q1, q2, q3, q4, ho, hcd, hline⟩, ⟨cl, cld, csl, hcell⟩, ccl, cdd, vs, ccs, file, tf, hcode, hvs, hfile⟩ := T.init
  rw [hi] at hi'
  cases hi'
  obtain ⟨nm, q, N, bs, bm, sn, sub, ab, col, dd, k0, k1, k2, k3, k5, hC, hbm⟩ := T.cls
  have hcl : clsIn K C = some { name := nm, bases := bs, mro := .ref C :: bm, ns := N, qualname := q, hasDict := true, slotNames := sn, subclasses := sub, abstract := ab, collection := col, hasDel := false } := by unfold clsIn; rw [hC] <;> rfl
  obtain ⟨h, g, d, tk, os⟩ := s
  have kself : (iS f).names.lookup ("self" : Str) = some .local := by rcases hf with rfl | rfl <;> rfl
  have kfld : (iS f).names.lookup f = some .local := by rcases hf with rfl | rfl <;> rfl
  have kcls : (iS f).names.lookup ("__class__" : Str) = some .free := by rcases hf with rfl | rfl <;> rfl
  have ksup : (iS f).names.lookup ("super" : Str) = some .globalImplicit := by rcases hf with rfl | rfl <;> rfl
  have fne : ("self" : Str) ≠ f := by rcases hf with rfl | rfl <;> decide
  have hb : BindsTo ⟨h, g, d, tk, os⟩ (fnX "__init__" qual (iA f a1 a2) (iB f p0 p1 p2 p3 p4 p5 q1 q2 q3 q4) (iS f) [("__class__", cc)] .none .none doc pm an (.ref cda) ct) ⟨[.ref x, v], []⟩ [("self", .ref x), (f, v)] := by
    rcases hf with rfl | rfl <;> exact BindsTo.of_eq (by first | rfl | with_unfolding_all rfl)
  have hnc : ∀ y ∈ (iS f).names, y.2 ≠ .cell := by
    rcases hf with rfl | rfl <;> decide
  have hlo : ∀ y ∈ ([("self", Value.ref x), (f, v)] : List (Str × Value)), (iS f).names.lookup y.1 = some .local := fun y hy => by
    rcases List.mem_cons.mp hy with rfl | hy
    · exact kself
    · rw [List.mem_singleton.mp hy]; exact kfld
  refine ks_codeAny_call_defAt (binds := [("self", .ref x), (f, v)]) hroom (X _ _ ho) rfl hlim (codeRec_of X hcd) rfl hb hnc hlo (fun h₀ hns hk => ?_) rfl rfl rfl
  rw [env_eq]
  have hk' : ∀ b o, h.get? b = some o → h₀.get? b = some o := hk
  have X₀ : K.In h₀ := X.keeps hk'
  have hx₀ := hk' _ _ hx
  obtain ⟨oL, esL, epL, hoL, hdL, hrL⟩ := id hns
  have hxL : h.objs.size ≠ x := Nat.ne_of_gt (Heap.lt_size hx)
  have hlt : h.objs.size < h₀.objs.size := Heap.lt_size hoL
  have vself : (fun y => List.lookup y ([("self", Value.ref x), (f, v)] : List (Str × Value)).reverse) "self" = some (.ref x) := by rcases hf with rfl | rfl <;> rfl
  have vfld : (fun y => List.lookup y ([("self", Value.ref x), (f, v)] : List (Str × Value)).reverse) f = some v := by rcases hf with rfl | rfl <;> rfl
  obtain ⟨oD, hD1, hD2⟩ : ∃ oD, h₀.get? C = some oD ∧ oD.data = .cls { name := nm, bases := bs, mro := .ref C :: bm, ns := N, qualname := q, hasDict := true, slotNames := sn, subclasses := sub, abstract := ab, collection := col, hasDel := false } := ⟨_, X₀ _ _ hC, rfl⟩
  have I₀ : InstAt h₀ x (excO C t0) C none := ⟨hx₀, rfl, rfl, trivial⟩
  show _root_.PySem.wpAt _ _ _ (execs (iB f p0 p1 p2 p3 p4 p5 q1 q2 q3 q4) _) _ _ _
  unfold iB
  have hev : ∀ env : Env, ∃ pl, eval (.Call (.Attribute (.Call (.Name "super" p0) [] [] p1) "__init__" p2) [.Name f p3] [] p4) env = (do
        let ov ← attributeBase (.Call (.Name "super" p0) [] [] p1) "__init__" env (eval (.Call (.Name "super" p0) [] [] p1) env)
        standAt p2.atName
        let (fn', first) ← holding [ov] (getMethod ov "__init__" pl)
        callWith p4 fn' first (backTo p4 (starEach [.Name f p3] env)) []) := fun env => by
    
    have hp : methodCallPos true (.Call (.Name "super" p0) [] [] p1) env p2 p4 = pure p4 := by
      unfold methodCallPos
      rw [hline]; rfl
    have e0 : eval (.Call (.Attribute (.Call (.Name "super" p0) [] [] p1) "__init__" p2) [.Name f p3] [] p4) env = (do
        let ov ← attributeBase (.Call (.Name "super" p0) [] [] p1) "__init__" env (eval (.Call (.Name "super" p0) [] [] p1) env)
        standAt p2.atName
        let (fn', first) ← holding [ov] (getMethod ov "__init__" (do return (← importBound (.Call (.Name "super" p0) [] [] p1) env).getD true))
        let cp ← methodCallPos true (.Call (.Name "super" p0) [] [] p1) env p2 p4
        callWith cp fn' first (backTo p4 (starEach [.Name f p3] env)) []) := by
      rcases hf with rfl | rfl <;> rfl
    rw [e0, hp]
    exact ⟨_, rfl⟩
  obtain ⟨pl, hev⟩ := hev (ksEnv qual (iS f) h.objs.size fI (.ref cda) cc)
  refine ks_wpAt_execs_cons (ks_wpAt_Expr_any (ks_wpAt_MethodCall (pl := pl) ?_ hev))
  -- super()
  refine ks_wpAt_super_base (env := ksEnv qual (iS f) h.objs.size fI (.ref cda) cc) ksup kcls (by decide) rfl (X₀ _ _ ho) rfl rfl rfl (X₀ _ _ hcode) rfl hvs hfile T.htop ?_
  refine ks_loadName_global rfl ksup (loadGlobal_builtin (env := ksEnv qual (iS f) h.objs.size fI (.ref cda) cc) (hmg.keeps hk') (mg_none_of X hmg T.nosup) (hmb.keeps hk') ((hbb _ (by decide +kernel)).trans PyProof.Rows.Boot.«super») ⟨rfl, ?_⟩)
  refine wpAny_loadName_free rfl kcls rfl ⟨_, X₀ _ _ hcell, rfl⟩ ?_
  refine wpAny_loadName_local (env := ksEnv qual (iS f) h.objs.size fI (.ref cda) cc) rfl kself hns vself ?_
  refine ks_wpAny_isType_cls hD1 hD2 ⟨rfl, ?_⟩
  refine ks_wpAny_call_super hD1 hD2 I₀.at_ I₀.cls (fun c e => ?_) (looks_mroIn X₀ T.mro) (fun h1 e1 k1 => ?_)
  · cases e
  have X₁ : K.In h1 := X₀.keeps k1
  have x1 := k1 _ _ hx₀
  have hC1 : Looks (model prog w) h1 (mroOf (.ref C)) (.ref C :: bm) := fun A Q E s k q => wpAny_bind ((looks_clsIn X₁ hcl) A _ E s k (wpAny_pure q))
  have hmr : alongIn K "__init__" (((.ref C :: bm : List Value).dropWhile (· != .ref C)).drop 1) = some (some (.builtin "ValueError.__init__")) := by
    have z := T.sup
    unfold ks_superIn at z
    rw [hcl] at z
    exact z
  have hI1 : Looks (model prog w) h1 (isInstance (.ref x) (.type "ValueError")) true := (InstAt.type (show InstAt h1 x (excO C t0) C none from ⟨x1, rfl, rfl, trivial⟩)).andThen (looks_subIn X₁ T.veC)
  have hxC : x ≠ C := fun z => by
    rw [z, hD1] at hx₀
    cases hx₀
    cases hD2
  refine kxs_getMethod (K := K) kxs_ValueError e1 (looks_opaque X₁ T.tp) hC1 rfl X₁ hmr hI1 hxC (by decide) ?_
  have hse : starEach [.Name f p3] (ksEnv qual (iS f) h.objs.size fI (.ref cda) cc) = [(false, eval (.Name f p3) (ksEnv qual (iS f) h.objs.size fI (.ref cda) cc))] := by rcases hf with rfl | rfl <;> rfl
  rw [hse]
  have X2 : K.In (h1.push (kxs_mw "ValueError.__init__" x)) := X₁.keeps fun b o e => Heap.get?_push_of_some _ e
  have keep2 : ∀ b o, h₀.get? b = some o → (h1.push (kxs_mw "ValueError.__init__" x)).get? b = some o := fun b o e => Heap.get?_push_of_some _ (k1 b o e)
  have hu2 : (h1.push (kxs_mw "ValueError.__init__" x)).get? h1.objs.size = some (kxs_mw "ValueError.__init__" x) := Heap.get?_push_size _ rfl
  have ns2 : (h1.push (kxs_mw "ValueError.__init__" x)).Ns h.objs.size (fun y => List.lookup y ([("self", Value.ref x), (f, v)] : List (Str × Value)).reverse) := ⟨oL, esL, epL, keep2 _ _ hoL, hdL, hrL⟩
  have fdbg : (f == ("__debug__" : Str)) = false := by rcases hf with rfl | rfl <;> decide
  refine kxs_callWith (i := "ValueError.__init__") (x := x) (by rfl) (evalArgs_plain ?_)
  refine spliced_cons (wpAny_Name (wpAny_loadName_local (env := ksEnv qual (iS f) h.objs.size fI (.ref cda) cc) rfl kfld ns2 vfld (spliced_nil ⟨hu2, ?_⟩)) fdbg)
  refine call_mw T X2 hu2 (keep2 _ _ hx₀) fun h3 t1 k3 e3 => ?_
  -- self.f = f
  have keep3 : ∀ b o, b ≠ x → h₀.get? b = some o → h3.get? b = some o := fun b o hb e => k3 b o hb (keep2 b o e)
  have ns3 : h3.Ns h.objs.size (fun y => List.lookup y ([("self", Value.ref x), (f, v)] : List (Str × Value)).reverse) := ⟨oL, esL, epL, keep3 _ _ hxL hoL, hdL, hrL⟩
  have X3 : K.In h3 := fun a o z => keep3 a o (fun q => by rw [q, hnx] at z; cases z) (X₀ _ _ z)
  refine ks_wpAt_execs_cons (wpAt_of_wpAny (plainObj_wpAny_Assign_Attribute ?_ (by rcases hf with rfl | rfl <;> rfl)))
  refine wpAny_Name (wpAny_loadName_local (env := ksEnv qual (iS f) h.objs.size fI (.ref cda) cc) rfl kfld ns3 vfld ?_) fdbg
  refine wpAny_Name (wpAny_loadName_local (env := ksEnv qual (iS f) h.objs.size fI (.ref cda) cc) rfl kself ns3 vself ?_) (by decide)
  refine set_plain X3 (ox := excO C t1) (od := none) ⟨e3, rfl, rfl, trivial⟩ T.sa ?_
  refine exc_osa X3 e3 hcl (show refsVE (.ref C :: bm) = true from hbm) rfl T.noN (fun h4 tk4 dx k4 dn dne hx4 hn4 => ?_)
  refine wpAt_of_wpAny (wpAny_execs_nil (hq h4 tk4 dx t1 ⟨fun b o hb e => k4 b o hb (keep3 b o hb (hk' b o e)), hx4, ?_, dne, hn4⟩))
  have z1 : h3.objs.size ≥ h.objs.size := by
    have := Heap.lt_size (keep3 _ _ hxL hoL)
    exact Nat.le_of_lt this
  exact Nat.le_trans z1 dn
theorem xs_made (hf : okF f) (T : XTxt prog K C f) {v : Value} (X : K.In s.heap) (hmg : s.heap.Ns mainGlobals mg) (hmb : s.heap.Ns builtinsNs mb) (hbb : ∀ x : Str, x ≠ "__name__" → mb x = bootBuiltins x) (hlim : s.heap.NoLimit) (hroom : A.depth + 1 < recursionLimit)
    (hq : ∀ h' tk e d, OwnMade f s.heap h' e C d v → R (.ok (.ret (.ref e))) { s with heap := h', toks := tk }) :
    codeAny (model prog w) A (.call (.ref C) ⟨[v], []⟩) R s := by
  obtain ⟨nm, q, N, bs, bm, sn, sub, ab, col, dd, k0, k1, k2, k3, k5, hC, hbm⟩ := T.cls
  obtain ⟨fI, _, _, hi, hti, _⟩ := T.init
  obtain ⟨hp, g, dr, tk, os⟩ := s
  have k : ∀ b o, hp.get? b = some o → ((hp.push (kdv_tup [v])).push (excO C hp.objs.size)).get? b = some o := fun b o e => Heap.get?_push_of_some _ (Heap.get?_push_of_some _ e)
  have hget : ((hp.push (kdv_tup [v])).push (excO C hp.objs.size)).get? (hp.objs.size + 1) = some (excO C hp.objs.size) := by heap_get
  have hnx : K.lookup (hp.objs.size + 1) = none := by
    cases e : K.lookup (hp.objs.size + 1) with
    | none => rfl
    | some o =>
      have z : hp.get? (hp.objs.size + 1) = some o := X _ _ e
      exact absurd (Nat.lt_of_succ_lt (Heap.lt_size z)) (Nat.lt_irrefl _)
  refine call_own PySem.F.excBase_ValueError (fun X => refsVE_contains X bm hbm) (X _ _ hC) (looks_findIn X hi) (fun self => bind_fn X self hti) (one_size v) ?_
  refine xs_init (s := ⟨(hp.push (kdv_tup [v])).push (excO C hp.objs.size), g, dr, tk, os⟩) hf T hi (X.keeps k) (hmg.keeps k) (hmb.keeps k) hbb (hlim.keeps k) hget hnx ?_ fun h' tk' dx t1 ⟨k', hx, dn, dne, hns⟩ => ?_
  · show A.depth + 1 < recursionLimit
    exact hroom
  · have old : ∀ b o, hp.get? b = some o → h'.get? b = some o := fun b o e => k' b o (Nat.ne_of_lt (Nat.lt_succ_of_lt (Heap.lt_size e))) (k b o e)
    have z : hp.objs.size + 1 + 1 ≤ dx := by
      first
        | (simpa only [Heap.size_push] using dn)
        | exact dn
        | (have q := dn; rw [Heap.size_push, Heap.size_push] at q; exact q)
    exact ⟨rfl, hq h' tk' (hp.objs.size + 1) dx ⟨old, Nat.le_succ _, ⟨_, _, hx, rfl, rfl, rfl, rfl⟩, Nat.le_trans (Nat.le_trans (Nat.le_succ _) (Nat.le_succ _)) z, dne, hns⟩⟩
end
end XS
end PySem
end

section
set_option Elab.async false
set_option linter.all false
set_option maxRecDepth 100000
set_option maxHeartbeats 2000000
/-! XS2: over the layer: C(e), C(), e.f, isinstance(e, D). -/
namespace L2
open PySem PySem.Spec PyProof.Rows
theorem relO_one {v : V} {v' : Value} {n : Str} (r : RelV v v') (f : Str) : RelO (List.lookup f [(n, v)]) (if f = n then some v' else none) := by
  by_cases hw : f = n
  · subst hw
    rw [if_pos rfl]
    have q : List.lookup f [(f, v)] = some v := by simp [List.lookup]
    rw [q]
    exact r
  · rw [if_neg hw]
    have qw : (f == n) = false := by simpa using hw
    have q2 : List.lookup f [(n, v)] = none := by simp [List.lookup, qw]
    rw [q2]
    trivial
section
variable {X : Cx} {C : Addr} {n : Str}
/-- C(e) -/
def tMkX (C : Addr) (n : Str) (ta : TA) : L2.St → Hp → XK → Prop := fun σ H Q => ta σ H fun vs H1 => ∃ v, vs = [v] ∧ ∀ d, H1 d = none → Q (.ref C) (some d) (upd H1 d (.xd [(n, v)]))
theorem pmk_xs {x : Str} {a : Expr} {ta : TA} {p pos : Pos} {k : Nat} (hn : PySem.XS.okF n) (T : PySem.XS.XTxt X.prog X.K C n) (gC : X.mg x = some (.ref C)) (hr : Room k X.A) (ha : PA X [a] ta) (hg : Gl X x) (hdb : (x == ("__debug__" : Str)) = false)
    (he : starEach (a :: []) X.env = (false, eval a X.env) :: starEach [] X.env) (hpl : (backTo pos (starEach [] X.env)).any (·.1) = false := by rfl) :
    PMk X (.Call (.Name x p) [a] [] pos) (tMkX C n ta) := by
  intro pins s σ H Q I h
  refine wpAny_Call_Name_kw (ld_glob I hg gC ?_ hdb)
  refine PySem.W.callWith_K (h₀ := X.base) I.ok.mod.kin T.kC (thn (ha.run pos pins s σ H _ I h) fun us s1 hh => ?_) he hpl
  obtain ⟨vs, H1, I1, r1, v, ev, q1⟩ := hh
  subst ev
  refine ⟨I1.kIn, ?_⟩
  cases r1 with
  | cons rv rn =>
    rename_i v' us'
    cases rn
    show wpAny _ _ (call (.ref C) [v']) _ _ _
    have hlim := I1.nolimit
    obtain ⟨mb, hmb, hbb⟩ := I1.ok.mod.blt
    have hmg := I1.ok.mod.glob.keeps I1.bk
    have hmb' := hmb.keeps I1.bk
    obtain ⟨hp, g, dr, tk, os⟩ := s1
    refine wpAny_call (PySem.XS.xs_made hn T I1.kIn hmg hmb' hbb hlim (by have := hr.dp; omega) fun h' tk' e d M => ?_)
    show MkP X pins σ Q (.ref e) ⟨h', g, dr, tk', os⟩
    obtain ⟨oe, fv, hoe, hc, hd, hdat, h1⟩ := M.obj
    have hns := M.ns
    obtain ⟨G', g1, g2⟩ := restrict h' fun b => decide (b ≠ e)
    have gk : ∀ b, b ≠ e → G'.get? b = h'.get? b := fun b hb => g1 b (decide_eq_true hb)
    have ge : G'.get? e = none := g2 e (by simp)
    have old : ∀ b o, hp.get? b = some o → G'.get? b = some o := fun b o q => (gk b (Nat.ne_of_lt (Nat.lt_of_lt_of_le (Heap.lt_size q) M.new))).trans (M.keep b o q)
    have ob : ObjOk X.prog X.w (upd H1 d (.xd [(n, v)])) G' d (.xd [(n, v)]) :=
      ⟨_, hns.at (fun o q => (gk d M.dne).trans q), fun f => relO_one rv f⟩
    have J : L2.Inv X pins σ (upd H1 d (.xd [(n, v)])) ⟨G', g, dr, tk', os⟩ := I1.laid (t' := tk') old M.dbig ob
    refine ⟨e, oe, fv, ⟨G', g, dr, tk', os⟩, _, .ref C, some d, rfl, J, fun b o q => ?_, ge, hoe, ⟨hc, hd⟩, hdat, h1, ?_, rfl, I1.bare, raises_own T.exC T.tyC, q1 d (I1.hok.fresh M.dbig)⟩
    · by_cases hb : b = e
      · have q' : G'.get? b = some o := q
        rw [hb, ge] at q'; cases q'
      · exact (gk b hb).symm.trans q
    · rw [upd_ne (Ne.symm M.dne)]
      exact I1.hok.fresh M.new
/-- C(), no own __init__ -/
theorem pmk_own0 {x : Str} {p pos : Pos} {bmB : List Value} {B newId initId : String} (F : ExcBaseFacts B newId initId bmB) (q : PySem.W.excIn X.K C bmB newId = true) (gC : X.mg x = some (.ref C)) (kC : PySem.W.keepIn X.K (.ref C) = true) (r : Raises X (.ref C)) (hg : Gl X x)
    (hdb : (x == ("__debug__" : Str)) = false) : PMk X (.Call (.Name x p) [] [] pos) (fun _ H Q => Q (.ref C) none H) := by
  intro pins s σ H Q I h
  refine wpAny_Call_Name_kw (ld_glob I hg gC ?_ hdb)
  refine PySem.W.callWith_K0 I.kIn kC ?_
  show wpAny _ _ (call (.ref C) []) _ _ _
  obtain ⟨bm, N, nm, qn, bs, hdct, sn, sub, ab, col, dd, k0, k1, k2, k3, k5, mN, hC, hN, hni, T⟩ := exc_obj I.kIn q
  refine wpAny_call_exc_subT F T hC hN hni (fun h' e hm => ?_) (by rw [sizeLine_eq]; exact Nat.zero_le _)
  exact mk_of I hm r h (I.hok.gone hm.new)
end
end L2
namespace L2
open PySem PySem.Spec PyProof.Rows
/-- isinstance(e, c), e the exception that the suite holds, with a dict or without -/
theorem call_isA {X : Cx} {a D : Addr} {dd : Option Addr} {oe : Obj} {pn : List (Addr × Obj)} (C : ExcC X.K D) (hz : Zc (.ref D) dd oe) (hf : ∃ vs, oe.data = .fields vs) :
    CallR (X.suite a ((a, oe) :: pn)) (.builtin "isinstance") (fun xs H Q => (∀ d, dd = some d → ∃ fs, H d = some (.xd fs)) ∧ rIsE X.K D a xs H Q) := by
  intro pins s σ H xs us Q I r h
  obtain ⟨hdd, c, cv, b, rfl, hcv, e, q⟩ := h
  cases r with
  | cons rx rr =>
    cases rr with
    | cons rt rr =>
      cases rr
      cases rx
      have ec := hcv _ rt
      subst ec
      obtain ⟨hget, _⟩ := I.pin (a, oe) (List.mem_append.mpr (.inl List.mem_cons_self))
      obtain ⟨vs, hv⟩ := hf
      have ⟨od, J⟩ : ∃ od, PySem.W.InstAt s.heap a oe D od := by
        obtain ⟨oc, od, oda, osl⟩ := oe
        obtain ⟨h1, h2⟩ := hz
        dsimp only at h1 h2 hv
        subst h1 h2 hv
        cases od with
        | none => exact ⟨none, hget, rfl, rfl, trivial⟩
        | some d =>
          obtain ⟨fs, hx⟩ := hdd d rfl
          obtain ⟨mA, ⟨o, es, ep, ho, _⟩, _⟩ := (show ObjOk X.prog X.w H s.heap d (.xd fs) from I.hok d _ hx)
          exact ⟨some o, hget, rfl, rfl, ho⟩
      have hcl : (PySem.W.clsIn X.K D).isSome = true := by
        obtain ⟨cd, hc, _⟩ := PySem.W.any_some C.hd
        rw [hc]; rfl
      exact PySem.W.kia_one (PySem.W.kitx_exc hcl C.hg C.hk C.hs C.ha C.hn C.ht C.hm) I.kIn J e (fun z => nomatch z) fun tk => ⟨.bl b, H, I.kept (t' := tk) fun _ _ z => z, rfl, q⟩
end L2
end

section
set_option linter.all false
set_option maxRecDepth 100000
set_option maxHeartbeats 1000000
/-! DV8: what is walked, by the interpreter. -/
namespace DV
open PySem PySem.Spec PyProof.Rows L2
/-- what stands goes on standing -/
def Ext (W W' : GW) : Prop := (∀ a o, W.F a = some o → W'.F a = some o) ∧ ∃ more, W'.μ = W.μ ++ more
theorem Ext.refl (W : GW) : Ext W W := ⟨fun _ _ e => e, [], by simp⟩
theorem Ext.trans {W W1 W2 : GW} (a : Ext W W1) (b : Ext W1 W2) : Ext W W2 := by
  obtain ⟨f, m, e⟩ := a
  obtain ⟨f', m', e'⟩ := b
  exact ⟨fun a o q => f' a o (f a o q), m ++ m', by rw [e', e, List.append_assoc]⟩
theorem Grow.ext {W W' : GW} {H H' : Hp} (g : Grow W H W' H') : Ext W W' := ⟨g.fr, let ⟨m, e, _⟩ := g.mu; ⟨m, e⟩⟩
theorem Ext.rep {C : PC} {W W' : GW} (g : Ext W W') {v : V} {d : D} (r : RepW C W v d) : RepW C W' v d := r.mono g.1 g.2
theorem Ext.reps {C : PC} {W W' : GW} (g : Ext W W') {v : List V} {d : List D} (r : RepsW C W v d) : RepsW C W' v d := r.mono g.1 g.2
def ItOk (C : PC) (W0 : GW) (J : It) (ds : List D) : Prop := ∀ W H st i, Ext W0 W → MemOk C W st H →
  (i = ds.length → J.stop i H) ∧ (∀ d, ds[i]? = some d → J.go i H ∧ ∀ x H', J.yld i H x H' → ∃ W', Grow W H W' H' ∧ MemOk C W' st H' ∧ RepW C W' x d)
def tI (C : PC) (Wx : WX') (f : Env → St → R (List D)) : TI := fun σ H R => ∃ N0 W ρ st, Now C N0 W ρ st σ H ∧ Post C (ItOk C) (f ρ st) W H R (fun cls dd H' => Wx cls dd σ H')
section
variable {C : PC} {G : Tell} {X : Cx}
def DI (C : PC) (G : Tell) (X : Cx) (c : CE) (tg e : Expr) : Prop := ∀ Wx, Takes X Wx → PI X tg e (tI C Wx (evI G c))
theorem itok_tup {W0 : GW} {a : Addr} {vs : List V} {ds : List D} (s : TupS C.K W0.F a vs) (r : RepsW C W0 vs ds) : ItOk C W0 (Itt C.K a) ds := fun W H st i x m => by
  have sq : SqT C.K H a vs := s.sqT fun a o e => m.sub _ _ (x.1 _ _ e)
  refine ⟨fun e => ⟨vs, sq, by rw [e, r.length]; exact Nat.le_refl _⟩, fun d e => ?_⟩
  obtain ⟨v, ev, rv⟩ := r.get e
  exact ⟨⟨vs, v, sq, ev⟩, fun y H' ⟨e1, e2⟩ => by
    rw [e2 vs sq] at ev; cases ev; subst e1
    exact ⟨W, Grow.refl W H', m, x.rep rv⟩⟩
theorem itok_lst {W0 : GW} {a : Addr} {vs : List V} {ds : List D} (s : SqL C.K W0.F a vs) (r : RepsW C W0 vs ds) : ItOk C W0 (Itl C.K a) ds := fun W H st i x m => by
  have sq : SqL C.K H a vs := sqL_mono (fun a o e => m.sub _ _ (x.1 _ _ e)) s
  refine ⟨fun e => ⟨vs, sq, by rw [e, r.length]; exact Nat.le_refl _⟩, fun d e => ?_⟩
  obtain ⟨v, ev, rv⟩ := r.get e
  exact ⟨⟨vs, v, sq, ev⟩, fun y H' ⟨e1, e2⟩ => by
    rw [e2 vs sq] at ev; cases ev; subst e1
    exact ⟨W, Grow.refl W H', m, x.rep rv⟩⟩
theorem itok_str {W0 : GW} {x : List Nat} : ItOk C W0 (Its (S8 x)) (x.map fun c => .str [c]) := fun W H st i _ m => by
  refine ⟨fun e => ?_, fun d e => ?_⟩
  · show (S8 x).cps.size ≤ i
    simp at e ⊢; omega
  · rw [List.getElem?_map] at e
    obtain ⟨c, ec, rfl⟩ := Option.map_eq_some_iff.mp e
    have hlt : i < x.length := (List.getElem?_eq_some_iff.mp ec).1
    refine ⟨by show i < (S8 x).cps.size; simpa using hlt, fun y H' ⟨e1, c', e2, e3⟩ => ?_⟩
    subst e1 e3
    have e4 : x[i]? = some c' := by simpa using e2
    rw [ec] at e4; cases e4
    exact ⟨W, Grow.refl W H', m, .str [c]⟩
theorem rngD_len : ∀ (n : Nat) (lo : Int), (rngD lo n).length = n
  | 0, _ => rfl
  | n + 1, lo => by simp [rngD, rngD_len n]
theorem rngD_get : ∀ (n : Nat) (lo : Int) (i : Nat), i < n → (rngD lo n)[i]? = some (.int (lo + i))
  | 0, _, _, h => absurd h (Nat.not_lt_zero _)
  | n + 1, lo, 0, _ => by simp [rngD]
  | n + 1, lo, i + 1, h => by
    have := rngD_get n (lo + 1) i (Nat.lt_of_succ_lt_succ h)
    simp only [rngD, List.getElem?_cons_succ, this]
    congr 2; omega
theorem itok_rng {W0 : GW} {lo : Int} {n : Nat} : ItOk C W0 (Itr lo n) (rngD lo n) := fun W H st i _ m => by
  refine ⟨fun e => by show n ≤ i; rw [e, rngD_len]; exact Nat.le_refl _, fun d e => ?_⟩
  have hlt : i < n := by have := (List.getElem?_eq_some_iff.mp e).1; rwa [rngD_len] at this
  rw [rngD_get n lo i hlt] at e
  cases e
  refine ⟨hlt, fun y H' ⟨e1, e2⟩ => ?_⟩
  subst e1 e2
  exact ⟨W, Grow.refl W H', m, .int _⟩
theorem seq_src {W : GW} {H : Hp} (sub : ∀ a o, W.F a = some o → H a = some o) {v : V} {d : D} {ds : List D} (r : RepW C W v d) (e : seqD d = some ds) : ∃ kd a vs, v = .ref a ∧ SqS kd C.K H a vs ∧ (∀ W' H', Ext W W' → (∀ a o, W'.F a = some o → H' a = some o) → SqS kd C.K H' a vs) ∧ RepsW C W vs ds := by
  cases r <;> simp only [seqD] at e <;> cases e
  · rename_i a vs s r
    exact ⟨false, a, vs, rfl, s.sqT sub, fun W' H' x k => s.sqT fun a o e => k _ _ (x.1 _ _ e), r⟩
  · rename_i a vs s r
    exact ⟨true, a, vs, rfl, .inl (.inl (sub _ _ s)), fun W' H' x k => .inl (.inl (k _ _ (x.1 _ _ s))), r⟩
theorem enumD_len : ∀ (xs : List D) (n : Nat), (enumD n xs).length = xs.length
  | [], _ => rfl
  | x :: r, n => by simp [enumD, enumD_len r]
theorem enumD_get : ∀ (xs : List D) (n i : Nat) (d : D), (enumD n xs)[i]? = some d → ∃ x, xs[i]? = some x ∧ d = .tup [.int ((n + i : Nat) : Int), x]
  | [], _, _, _, h => by simp [enumD] at h
  | x :: r, n, 0, d, h => by simp [enumD] at h; exact ⟨x, rfl, by rw [← h]; simp⟩
  | x :: r, n, i + 1, d, h => by
    simp only [enumD, List.getElem?_cons_succ] at h
    obtain ⟨y, e, q⟩ := enumD_get r (n + 1) i d h
    refine ⟨y, by simpa using e, ?_⟩
    rw [q]; congr 3; congr 1; omega
theorem itok_enum {W0 : GW} {kd : Bool} {a : Addr} {vs : List V} {ds : List D} (s : ∀ W' H', Ext W0 W' → (∀ a o, W'.F a = some o → H' a = some o) → SqS kd C.K H' a vs) (r : RepsW C W0 vs ds) : ItOk C W0 (Iten C.K kd a) (enumD 0 ds) := fun W H st i x m => by
  have sq := s W H x m.sub
  refine ⟨fun e => ⟨vs, sq, by rw [e, enumD_len, r.length]⟩, fun d e => ?_⟩
  obtain ⟨y, ey, rfl⟩ := enumD_get _ _ _ _ e
  obtain ⟨v, ev, rv⟩ := r.get ey
  refine ⟨⟨vs, v, sq, ev⟩, fun z H' ⟨T, v', o, e1, hT, ho, e2, e3⟩ => ?_⟩
  rw [e3 vs sq] at ev; cases ev
  subst e1 e2
  obtain ⟨W', g, m', hF⟩ := m.lay (o := .frz o (.tup [.int (i : Nat), v])) hT (fun ps q => nomatch q)
  refine ⟨W', g, m', .tup (.inl ⟨o, hF, ho⟩) (.cons ?_ (.cons (g.rep (x.rep rv)) .nil))⟩
  rw [Nat.zero_add]; exact .int _
theorem zipD_len : ∀ (xs ys : List D), (zipD xs ys).length = min xs.length ys.length
  | [], _ => by simp [zipD]
  | _ :: _, [] => by simp [zipD]
  | x :: r, y :: q => by simp [zipD, zipD_len r q, Nat.succ_min_succ]
theorem zipD_get : ∀ (xs ys : List D) (i : Nat) (d : D), (zipD xs ys)[i]? = some d → ∃ x y, xs[i]? = some x ∧ ys[i]? = some y ∧ d = .tup [x, y]
  | [], _, _, _, h => by simp [zipD] at h
  | _ :: _, [], _, _, h => by simp [zipD] at h
  | x :: r, y :: q, 0, d, h => by simp [zipD] at h; exact ⟨x, y, rfl, rfl, h.symm⟩
  | x :: r, y :: q, i + 1, d, h => by
    simp only [zipD, List.getElem?_cons_succ] at h ⊢
    exact zipD_get r q i d h
theorem itok_zip {W0 : GW} {k1 k2 : Bool} {a b : Addr} {vs us : List V} {ds es : List D} (s : ∀ W' H', Ext W0 W' → (∀ a o, W'.F a = some o → H' a = some o) → SqS k1 C.K H' a vs) (s2 : ∀ W' H', Ext W0 W' → (∀ a o, W'.F a = some o → H' a = some o) → SqS k2 C.K H' b us)
    (r : RepsW C W0 vs ds) (r2 : RepsW C W0 us es) : ItOk C W0 (Itzp C.K k1 k2 a b) (zipD ds es) := fun W H st i x m => by
  have sq := s W H x m.sub
  have sq2 := s2 W H x m.sub
  refine ⟨fun e => ⟨vs, us, sq, sq2, ?_⟩, fun d e => ?_⟩
  · rw [zipD_len] at e
    rw [r.length, r2.length]; omega
  obtain ⟨y, y2, ey, ey2, rfl⟩ := zipD_get _ _ _ _ e
  obtain ⟨v, ev, rv⟩ := r.get ey
  obtain ⟨v2, ev2, rv2⟩ := r2.get ey2
  refine ⟨⟨vs, us, v, v2, sq, sq2, ev, ev2⟩, fun z H' ⟨T, v', v2', o, e1, hT, ho, e2, e3, e4⟩ => ?_⟩
  rw [e3 vs sq] at ev; cases ev
  rw [e4 us sq2] at ev2; cases ev2
  subst e1 e2
  obtain ⟨W', g, m', hF⟩ := m.lay (o := .frz o (.tup [v, v2])) hT (fun ps q => nomatch q)
  exact ⟨W', g, m', .tup (.inl ⟨o, hF, ho⟩) (.cons (g.rep (x.rep rv)) (.cons (g.rep (x.rep rv2)) .nil))⟩
/-! ### by the interpreter -/
theorem di_iseq (hK : X.K = C.K) {c : CE} {tg e : Expr} (h : DE C G X c e) : DI C G X (.iseq c) tg e := fun Wx tk => by
  refine ⟨fun pins s σ H R' I ⟨N0, W, ρ, st, n, p⟩ => ?_⟩
  simp only [evI] at p
  refine thn ((h Wx tk).run pins s σ H _ I (one (f := fun x st => R.lift (itD x) st) n p)) fun v s1 ⟨x, H1, I1, r1, W1, st1, a, n1, ra, p1, g1⟩ => ?_
  obtain ⟨ds, ed, p1⟩ := p1.lift
  cases ra <;> simp only [itD] at ed
  · cases ed
  · cases ed
  · cases ed
  · rename_i y
    split at ed <;> cases ed
    obtain ⟨t, rfl⟩ := r1
    have q := p1.okI n1.1 (itok_str (C := C) (W0 := W1))
    cases ha : (S8 y).cps.all (· < 128)
    · exact wpAny_pyIter_wide ha (pi_one (tk := s1.toks) I1 _ (turn_str _ _ t "str_iterator" (.inr rfl)) ⟨_, Heap.get?_push_size _ rfl, rfl, rfl⟩ q)
    · exact wpAny_pyIter_ascii ha (pi_one (tk := s1.toks) I1 _ (turn_str _ _ t "str_ascii_iterator" (.inl rfl)) ⟨_, Heap.get?_push_size _ rfl, rfl, rfl⟩ q)
  · cases ed
    rename_i a vs s r
    have q := p1.okI n1.1 (itok_tup s r)
    rw [← hK] at q
    cases r1
    obtain ⟨its, rv, p', hz⟩ := I1.tuple (by rw [hK]; exact s.sqT n1.1.sub)
    exact wpAny_pyIter_tuple (show s1.heap.IsTuple a its.toArray from p') (pi_one (tk := s1.toks) I1 _ (turn_tuple a _) ⟨_, Heap.get?_push_size _ rfl, rfl, rfl⟩ q)
  · cases ed
    rename_i a vs s r
    have q := p1.okI n1.1 (itok_lst (.inl (.inl s)) r)
    rw [← hK] at q
    cases r1
    obtain ⟨its, rv, p', hz⟩ := I1.list (a := a) (xs := vs) (.inl (.inl (n1.1.sub _ _ s)))
    exact wpAny_pyIter_list p'.isList (pi_one (tk := s1.toks) I1 _ (turn_list a _) ⟨_, Heap.get?_push_size _ rfl, rfl, rfl⟩ q)
  · cases ed
    rename_i a vs s r
    have q := p1.okI n1.1 (itok_lst s r)
    rw [← hK] at q
    cases r1
    obtain ⟨its, rv, p', hz⟩ := I1.list (by rw [hK]; exact sqL_mono n1.1.sub s)
    exact wpAny_pyIter_list p'.isList (pi_one (tk := s1.toks) I1 _ (turn_list a _) ⟨_, Heap.get?_push_size _ rfl, rfl, rfl⟩ q)
  all_goals cases ed
theorem optI_rep {W : GW} {v : V} {d : D} {j : Int} (r : RepW C W v d) (e : optI d = some j) : v = .int j := by
  cases r <;> simp only [optI] at e <;> cases e
  rfl
theorem di_irng {c : CE} {tg e : Expr} {p pos : Pos} (hg : Gl X "range") (hm : X.mg "range" = none) (hs : notStar e = true) (h : DE C G X c e) : DI C G X (.irng c) tg (.Call (.Name "range" p) [e] [] pos) := fun Wx tk =>
  (pi_range1 hg hm (pa_cons (h Wx tk) pa_nil (starEach_of hs _ _)) (starEach_of hs _ _)).imp fun σ H Q ⟨N0, W, ρ, st, n, p⟩ => by
    simp only [evI] at p
    obtain ⟨N1, W1, ρ1, st1, n1, q⟩ := one (f := fun x st => (R.lift (optI x) st).bind fun j st => if -1000000 ≤ j ∧ j ≤ 1000000 then R.ok (rngD 0 j.toNat) st else .bad) n p
    refine ⟨N1, W1, ρ1, st1, n1, q.imp fun x H1 ⟨W2, st2, a, n2, ra, p2, g2⟩ => ?_⟩
    obtain ⟨j, ej, p2⟩ := p2.bindLift
    have hx := optI_rep ra ej
    split at p2
    · rename_i hj
      exact ⟨j, by rw [hx], by omega, by omega, p2.okI n2.1 itok_rng⟩
    · exact p2.elim
theorem di_irng2 {c c2 : CE} {tg e e2 : Expr} {p pos : Pos} (hg : Gl X "range") (hm : X.mg "range" = none) (hs : notStar e = true) (hs2 : notStar e2 = true) (h : DE C G X c e) (h2 : DE C G X c2 e2) : DI C G X (.irng2 c c2) tg (.Call (.Name "range" p) [e, e2] [] pos) := fun Wx tk =>
  (pi_range2 hg hm (pa_cons (h Wx tk) (pa_cons (h2 Wx tk) pa_nil (starEach_of hs2 _ _)) (starEach_of hs _ _)) (by rw [starEach_of hs, starEach_of hs2]; rfl) (starEach_of hs2 _ _)).imp fun σ H Q ⟨N0, W, ρ, st, n, p⟩ => by
    simp only [evI] at p
    obtain ⟨N1, W1, ρ1, st1, n1, q⟩ := one (f := fun x st => (R.lift (optI x) st).bind fun i st => (evE G c2 ρ st).bind fun y st => (R.lift (optI y) st).bind fun j st =>
      if -1000000 ≤ i ∧ i ≤ 1000000 ∧ -1000000 ≤ j ∧ j ≤ 1000000 then R.ok (rngD i (j - i).toNat) st else .bad) n p
    refine ⟨N1, W1, ρ1, st1, n1, q.imp fun x H1 ⟨W2, st2, a, n2, ra, p2, g2⟩ => ?_⟩
    obtain ⟨i, ei, p2⟩ := p2.bindLift
    have hx := optI_rep ra ei
    obtain ⟨N3, W3, ρ3, st3, n3, q⟩ := one (f := fun y st => (R.lift (optI y) st).bind fun j st => if -1000000 ≤ i ∧ i ≤ 1000000 ∧ -1000000 ≤ j ∧ j ≤ 1000000 then R.ok (rngD i (j - i).toNat) st else .bad) n2 p2
    refine ⟨N3, W3, ρ3, st3, n3, q.imp fun y H2 ⟨W4, st4, b, n4, rb, p4, g4⟩ => ?_⟩
    obtain ⟨j, ej, p4⟩ := p4.bindLift
    have hy := optI_rep rb ej
    split at p4
    · rename_i hj
      exact ⟨i, j, by rw [hx, hy], by omega, p4.okI n4.1 itok_rng⟩
    · exact p4.elim
/-- a tuple target -/
def tupTg : Expr → Bool
  | .Tuple _ _ _ => true
  | _ => false
theorem di_ienum (hK : X.K = C.K) {c : CE} {tg e : Expr} {p pos : Pos} (ht : tupTg tg = true) (hg : Gl X "enumerate") (hm : X.mg "enumerate" = none) (hs : notStar e = true) (h : DE C G X c e) : DI C G X (.ienum c) tg (.Call (.Name "enumerate" p) [e] [] pos) := fun Wx tk => by
  cases tg <;> first | cases ht | skip
  refine (pi_en hg hm (pa_cons (h Wx tk) pa_nil (starEach_of hs _ _)) (starEach_of hs _ _)).imp fun σ H Q ⟨N0, W, ρ, st, n, p⟩ => ?_
  simp only [evI] at p
  obtain ⟨N1, W1, ρ1, st1, n1, q⟩ := one (f := fun x st => (R.lift (seqD x) st).bind fun xs st => R.ok (enumD 0 xs) st) n p
  refine ⟨N1, W1, ρ1, st1, n1, q.imp fun x H1 ⟨W2, st2, a, n2, ra, p2, g2⟩ => ?_⟩
  obtain ⟨ds, ed, p2⟩ := p2.bindLift
  obtain ⟨kd, a, vs, rfl, sq, sqA, r⟩ := seq_src n2.1.sub ra ed
  rw [hK]
  exact ⟨kd, a, vs, rfl, sq, p2.okI n2.1 (itok_enum sqA r)⟩
theorem di_izip (hK : X.K = C.K) {c c2 : CE} {tg e e2 : Expr} {p pos : Pos} (ht : tupTg tg = true) (hg : Gl X "zip") (hm : X.mg "zip" = none) (hs : notStar e = true) (hs2 : notStar e2 = true) (h : DE C G X c e) (h2 : DE C G X c2 e2) : DI C G X (.izip c c2) tg (.Call (.Name "zip" p) [e, e2] [] pos) := fun Wx tk => by
  cases tg <;> first | cases ht | skip
  refine (pi_zp hg hm (pa_cons (h Wx tk) (pa_cons (h2 Wx tk) pa_nil (starEach_of hs2 _ _)) (starEach_of hs _ _)) (starEach_of hs _ _) (by rw [starEach_of hs2]; rfl)).imp fun σ H Q ⟨N0, W, ρ, st, n, p⟩ => ?_
  simp only [evI] at p
  have q := two (f := fun x y st => (R.lift (seqD x) st).bind fun xs st => (R.lift (seqD y) st).bind fun ys st => R.ok (zipD xs ys) st) n p
  obtain ⟨N0', W', ρ', st', n', q⟩ := q
  refine ⟨N0', W', ρ', st', n', q.imp fun x H1 q => ?_⟩
  obtain ⟨N1, W1, ρ1, st1, n1, q⟩ := q
  refine ⟨N1, W1, ρ1, st1, n1, q.imp fun y H2 ⟨W2, st2, a, b, n2, ra, rb, p2⟩ => ?_⟩
  obtain ⟨ds, ed, p2⟩ := p2.bindLift
  obtain ⟨es, ee, p2⟩ := p2.bindLift
  obtain ⟨kd, a, vs, rfl, sq, sqA, r⟩ := seq_src n2.1.sub ra ed
  obtain ⟨k2, b, us, rfl, sq2, sqA2, r2⟩ := seq_src n2.1.sub rb ee
  rw [hK]
  exact ⟨kd, k2, a, b, vs, us, rfl, sq, sq2, p2.okI n2.1 (itok_zip sqA sqA2 r r2)⟩
end
end DV
end

section
set_option linter.all false
set_option maxRecDepth 100000
set_option maxHeartbeats 1000000
/-! DV9: targets. -/
namespace DV
open PySem PySem.Spec PyProof.Rows L2
def At (C : PC) (N0 : Addr → Prop) (W0 : GW) (H0 : Hp) (W : GW) (ρ : Env) (st : St) (σ : L2.St) (H : Hp) : Prop := Grow W0 H0 W H ∧ Now C N0 W ρ st σ H
/-- the target's names are among these -/
def ctIn (vs : List Nat) : CT → Bool
  | .nm i => decide (i ∈ vs)
  | .sub _ _ => true
  | .nil => true
  | .cons a r => ctIn vs a && ctIn vs r
theorem asgT_own : ∀ (ct : CT) {d : D} {ρ ρ' : Env} {st st' : St}, asgT ct d ρ st = some (ρ', st') → ∀ (i : Nat) xs, ρ'[i]? = some (.own xs) → ρ[i]? = some (.own xs)
  | .nm j, d, ρ, ρ', st, st', h, i, xs, e => by
    simp only [asgT] at h
    cases h
    unfold setSl at e
    by_cases q : j = i
    · subst q
      rw [List.getElem?_set_self'] at e
      obtain ⟨y, ey, e⟩ := Option.map_eq_some_iff.mp e
      cases e
    · rwa [List.getElem?_set_ne q] at e
  | .sub o j, d, ρ, ρ', st, st', h, i, xs, e => by
    simp only [asgT] at h
    split at h
    · obtain ⟨y, ey, h⟩ := Option.map_eq_some_iff.mp h
      cases h; exact e
    · cases h
  | .nil, d, ρ, ρ', st, st', h, i, xs, e => by
    simp only [asgT] at h
    split at h <;> cases h
    exact e
  | .cons a r, d, ρ, ρ', st, st', h, i, xs, e => by
    simp only [asgT] at h
    split at h
    · obtain ⟨p, e1, e2⟩ := Option.bind_eq_some_iff.mp h
      exact asgT_own a (ρ' := p.1) (st' := p.2) e1 i xs (asgT_own r e2 i xs e)
    · cases h
def tG (C : PC) (ct : CT) : TG := fun x σ H Q => ∃ N0 W0 H0 W ρ st d ρ' st', At C N0 W0 H0 W ρ st σ H ∧ RepW C W x d ∧ asgT ct d ρ st = some (ρ', st') ∧
  ∀ σ' H' W', At C N0 W0 H0 W' ρ' st' σ' H' → (∀ vs, ctIn vs ct = true → L2.wipe σ' vs = L2.wipe σ vs) → (∀ (i : Nat) xs, ρ'[i]? = some (.own xs) → σ'[i]? = σ[i]?) → Ext W W' → Q σ' H'
def tGs (C : PC) (ct : CT) : TGs := fun xs σ H Q => ∃ N0 W0 H0 W ρ st ds ρ' st', At C N0 W0 H0 W ρ st σ H ∧ RepsW C W xs ds ∧ asgT ct (.tup ds) ρ st = some (ρ', st') ∧
  ∀ σ' H' W', At C N0 W0 H0 W' ρ' st' σ' H' → (∀ vs, ctIn vs ct = true → L2.wipe σ' vs = L2.wipe σ vs) → (∀ (i : Nat) xs, ρ'[i]? = some (.own xs) → σ'[i]? = σ[i]?) → Ext W W' → Q σ' H'
def DG (C : PC) (X : Cx) (ct : CT) (tg : Expr) : Prop := PG X tg (tG C ct)
def DGs (C : PC) (X : Cx) (ct : CT) (es : List Expr) : Prop := PGs X es (tGs C ct)
theorem _root_.L2.PG.imp {X : Cx} {e : Expr} {t t' : TG} (h : PG X e t) (k : ∀ v σ H Q, t' v σ H Q → t v σ H Q) : PG X e t' := ⟨fun pins s σ H v u Q I r q => h.run pins s σ H v u Q I r (k v σ H Q q)⟩
theorem _root_.L2.PGs.imp {X : Cx} {e : List Expr} {t t' : TGs} (h : PGs X e t) (k : ∀ v σ H Q, t' v σ H Q → t v σ H Q) : PGs X e t' := ⟨fun pins s σ H v u Q I r q => h.run pins s σ H v u Q I r (k v σ H Q q)⟩
theorem wipe_set (σ : L2.St) (i : Nat) (x : Option V) : ∀ vs : List Nat, L2.wipe (σ.set i x) vs = if i ∈ vs then L2.wipe σ vs else (L2.wipe σ vs).set i x
  | [] => by simp [L2.wipe]
  | v :: vs => by
    have ih := wipe_set σ i x vs
    show (L2.wipe (σ.set i x) vs).set v none = _
    rw [ih]
    by_cases h : i ∈ vs
    · rw [if_pos h, if_pos (List.mem_cons_of_mem _ h)]; rfl
    · rw [if_neg h]
      by_cases e : i = v
      · subst e
        rw [if_pos (List.mem_cons_self ..), List.set_set]; rfl
      · rw [if_neg (by simp [e, h]), List.set_comm _ _ e]; rfl
theorem wipe_wipe (σ : L2.St) : ∀ vs ws : List Nat, (∀ i ∈ vs, i ∈ ws) → L2.wipe (L2.wipe σ vs) ws = L2.wipe σ ws
  | [], _, _ => rfl
  | v :: vs, ws, h => by
    show L2.wipe ((L2.wipe σ vs).set v none) ws = _
    rw [wipe_set, if_pos (h v (List.mem_cons_self ..))]
    exact wipe_wipe σ vs ws fun i hi => h i (List.mem_cons_of_mem _ hi)
section
variable {C : PC} {X : Cx}
theorem Sls.setVal {W : GW} {N0 : Addr → Prop} {σ : L2.St} {ρ : Env} {H : Hp} (s : Sls C W N0 σ ρ H) (i : Nat) {x : V} {d : D} (r : RepW C W x d) : Sls C W N0 (σ.set i (some x)) (ρ.set i (.val d)) H where
  len := by simp [s.len]
  val := fun j d' e => by
    by_cases q : i = j
    · subst q
      rw [List.getElem?_set_self'] at e ⊢
      obtain ⟨y, ey, e⟩ := Option.map_eq_some_iff.mp e
      cases e
      have hl : i < σ.length := by rw [s.len]; exact (List.getElem?_eq_some_iff.mp ey).1
      exact ⟨x, by rw [List.getElem?_eq_getElem hl]; rfl, r⟩
    · rw [List.getElem?_set_ne q] at e ⊢
      exact s.val j d' e
  own := fun j xs e => by
    by_cases q : i = j
    · subst q
      rw [List.getElem?_set_self'] at e
      obtain ⟨y, ey, e⟩ := Option.map_eq_some_iff.mp e
      cases e
    · rw [List.getElem?_set_ne q] at e ⊢
      exact s.own j xs e
  dis := fun j k xs ys a e1 e2 e3 e4 => by
    have n1 : i ≠ j := fun q => by
      subst q
      rw [List.getElem?_set_self'] at e1
      obtain ⟨y, ey, e⟩ := Option.map_eq_some_iff.mp e1
      cases e
    have n2 : i ≠ k := fun q => by
      subst q
      rw [List.getElem?_set_self'] at e2
      obtain ⟨y, ey, e⟩ := Option.map_eq_some_iff.mp e2
      cases e
    rw [List.getElem?_set_ne n1] at e1 e3
    rw [List.getElem?_set_ne n2] at e2 e4
    exact s.dis j k xs ys a e1 e2 e3 e4
  exc := fun j e => by
    by_cases q : i = j
    · subst q
      rw [List.getElem?_set_self'] at e
      obtain ⟨y, ey, e⟩ := Option.map_eq_some_iff.mp e
      cases e
    · rw [List.getElem?_set_ne q] at e ⊢
      exact s.exc j e
theorem Sls.setNo {W : GW} {N0 : Addr → Prop} {σ : L2.St} {ρ : Env} {H : Hp} (s : Sls C W N0 σ ρ H) (i : Nat) (x : Option V) : Sls C W N0 (σ.set i x) (ρ.set i .no) H where
  len := by simp [s.len]
  val := fun j d' e => by
    by_cases q : i = j
    · subst q
      rw [List.getElem?_set_self'] at e
      obtain ⟨y, ey, e⟩ := Option.map_eq_some_iff.mp e
      cases e
    · rw [List.getElem?_set_ne q] at e ⊢
      exact s.val j d' e
  own := fun j xs e => by
    by_cases q : i = j
    · subst q
      rw [List.getElem?_set_self'] at e
      obtain ⟨y, ey, e⟩ := Option.map_eq_some_iff.mp e
      cases e
    · rw [List.getElem?_set_ne q] at e ⊢
      exact s.own j xs e
  dis := fun j k xs ys a e1 e2 e3 e4 => by
    have n1 : i ≠ j := fun q => by
      subst q
      rw [List.getElem?_set_self'] at e1
      obtain ⟨y, ey, e⟩ := Option.map_eq_some_iff.mp e1
      cases e
    have n2 : i ≠ k := fun q => by
      subst q
      rw [List.getElem?_set_self'] at e2
      obtain ⟨y, ey, e⟩ := Option.map_eq_some_iff.mp e2
      cases e
    rw [List.getElem?_set_ne n1] at e1 e3
    rw [List.getElem?_set_ne n2] at e2 e4
    exact s.dis j k xs ys a e1 e2 e3 e4
  exc := fun j e => by
    by_cases q : i = j
    · subst q
      rw [List.getElem?_set_self'] at e
      obtain ⟨y, ey, e⟩ := Option.map_eq_some_iff.mp e
      cases e
    · rw [List.getElem?_set_ne q] at e ⊢
      exact s.exc j e
theorem Sls.wipe {W : GW} {N0 : Addr → Prop} {σ : L2.St} {ρ : Env} {H : Hp} (s : Sls C W N0 σ ρ H) : ∀ vs : List Nat, Sls C W N0 (L2.wipe σ vs) (DV.wipe ρ vs) H
  | [] => s
  | v :: vs => (s.wipe vs).setNo v none
theorem Reps.invD {F : Hp} {μ : List Addr} {vs : List V} {d : D} {ds : List D} (r : Reps C F μ vs (d :: ds)) : ∃ v ws, vs = v :: ws ∧ Rep C F μ v d ∧ Reps C F μ ws ds := by
  cases r with
  | cons a b => exact ⟨_, _, rfl, a, b⟩
/-! ### a store cell written -/
theorem putSt_some {st st' : St} {l : Nat} {i : Int} {d : D} (e : putSt st l i d = some st') : ∃ xs j, st[l]? = some xs ∧ ixN xs.length i = some j ∧ st' = st.set l (xs.set j d) := by
  unfold putSt at e
  obtain ⟨xs, e1, e⟩ := Option.bind_eq_some_iff.mp e
  obtain ⟨j, e2, e⟩ := Option.map_eq_some_iff.mp e
  exact ⟨xs, j, e1, by rw [← ixD_N]; exact e2, e.symm⟩
theorem MemOk.put {W : GW} {st : St} {H : Hp} (m : MemOk C W st H) {l : Nat} {a : Addr} {vs : List V} {xs : List D} (ea : W.μ[l]? = some a) (hr : RepsW C W vs xs) : MemOk C W (st.set l xs) (upd H a (.lst vs)) where
  sub := fun b o e => by
    have hne : b ≠ a := fun q => by
      have := m.nf a (List.mem_of_getElem? ea)
      rw [q, this] at e; cases e
    rw [upd_ne hne]; exact m.sub b o e
  len := by simp [m.len]
  cell := fun k b ys e1 e2 => by
    by_cases q : l = k
    · subst q
      rw [ea] at e1; cases e1
      rw [List.getElem?_set_self'] at e2
      obtain ⟨y, ey, e⟩ := Option.map_eq_some_iff.mp e2
      cases e
      exact ⟨vs, upd_same, hr⟩
    · rw [List.getElem?_set_ne q] at e2
      obtain ⟨us, e3, r⟩ := m.cell k b ys e1 e2
      refine ⟨us, ?_, r⟩
      have hne : b ≠ a := fun z => q (by
        subst z
        exact (List.getElem?_inj (List.getElem?_eq_some_iff.mp ea).1 m.nd).mp (ea.trans e1.symm))
      rw [upd_ne hne]; exact e3
  nd := m.nd
  nf := m.nf
  nt := m.nt
  tab := by
    have hl2 : l < st.length := m.len ▸ (List.getElem?_eq_some_iff.mp ea).1
    obtain ⟨us, e3, _⟩ := m.cell l a st[l] ea (List.getElem?_eq_getElem hl2)
    exact m.tab.mono (fun P ps h1 => by rw [upd_ne (fun z => by rw [z, e3] at h1; cases h1)]; exact h1) fun _ _ e => e
theorem Grow.put {W0 W : GW} {H0 H : Hp} (g : Grow W0 H0 W H) {a : Addr} (ha : a ∈ W.μ) (o : HO) : Grow W0 H0 W (upd H a o) where
  fr := g.fr
  fn := g.fn
  mu := g.mu
  kp := fun b o' e nb nt => by
    have hne : b ≠ a := fun z => by
      subst z
      obtain ⟨m, em, n⟩ := g.mu
      rw [em] at ha
      rcases List.mem_append.mp ha with q | q
      · exact nb q
      · rw [n b q] at e; cases e
    rw [upd_ne hne]; exact g.kp b o' e nb nt
  al := fun b e => by
    by_cases q : b = a
    · subst q; rw [upd_same] at e; cases e
    · rw [upd_ne q] at e; exact g.al b e
theorem Sls.put {W : GW} {N0 : Addr → Prop} {σ : L2.St} {ρ : Env} {H : Hp} (s : Sls C W N0 σ ρ H) {a : Addr} (ha : a ∈ W.μ) (o : HO) : Sls C W N0 σ ρ (upd H a o) where
  len := s.len
  val := s.val
  own := fun i xs e => by
    obtain ⟨b, vs, e1, e2, r, nf, nm, n0⟩ := s.own i xs e
    have hne : b ≠ a := fun z => nm (z ▸ ha)
    exact ⟨b, vs, e1, by rw [upd_ne hne]; exact e2, r, nf, nm, n0⟩
  dis := s.dis
  exc := s.exc
theorem Now.setVal {N0 : Addr → Prop} {W : GW} {ρ : Env} {st : St} {σ : L2.St} {H : Hp} (n : Now C N0 W ρ st σ H) (i : Nat) {x : V} {d : D} (r : RepW C W x d) : Now C N0 W (setSl ρ i d) st (σ.set i (some x)) H := ⟨n.1, n.2.setVal i r⟩
/-! ### targets -/
theorem dg_nm {i : Nat} {x : Str} {pos : Pos} (hN : X.N.Nodup) (hi : X.N[i]? = some x) (hx : Loc X.env.scope x) (hf : X.fn x = true ∨ X.env.scope.names.lookup x = some .local) : DG C X (.nm i) (.Name x pos) :=
  (pg_name hN hi hx hf).imp fun v σ H Q ⟨N0, W0, H0, W, ρ, st, d, ρ', st', ⟨g, n⟩, r, e, k⟩ => by
    simp only [asgT] at e
    cases e
    refine k _ _ W ⟨g, n.setVal i r⟩ (fun vs h => ?_) (fun j xs e => ?_) (Ext.refl W)
    · simp only [ctIn, decide_eq_true_eq] at h
      rw [wipe_set, if_pos h]
    · by_cases q : i = j
      · subst q
        unfold setSl at e
        rw [List.getElem?_set_self'] at e
        obtain ⟨y, ey, e⟩ := Option.map_eq_some_iff.mp e
        cases e
      · rw [List.getElem?_set_ne q]
theorem dg_sub {o i : Nat} {x : Str} {p1 p2 pos : Pos} {k2} (hN : X.N[o]? = some x) (hv : Vis X.env.scope x) (hd : (x == ("__debug__" : Str)) = false) (hcd : (x == ("__classdict__" : Str)) = false) : DG C X (.sub o i) (.Subscript (.Name x p1) (.Constant (.int (i : Int)) k2 p2) pos) :=
  (pg_sub (pe_var hN hv hd hcd) pe_int set_list).imp fun v σ H Q ⟨N0, W0, H0, W, ρ, st, d, ρ', st', ⟨g, n⟩, r, e, k⟩ => by
    simp only [asgT] at e
    split at e
    · rename_i l hs
      obtain ⟨st2, e1, e⟩ := Option.map_eq_some_iff.mp e
      cases e
      unfold sval at hs
      split at hs <;> cases hs
      rename_i eo
      obtain ⟨u, e2, ru⟩ := n.2.val o _ eo
      obtain ⟨xs, j, e3, e4, rfl⟩ := putSt_some e1
      cases ru
      rename_i a ea
      obtain ⟨vs, e5, rv⟩ := n.1.cell l a xs ea e3
      refine ⟨_, e2, a, vs, i, j, rfl, rfl, e5, by rw [rv.length]; exact e4, ?_⟩
      have ha := List.mem_of_getElem? ea
      exact k σ _ W ⟨g.put ha _, n.1.put ea (rv.set j r), n.2.put ha _⟩ (fun _ _ => rfl) (fun _ _ _ => rfl) (Ext.refl W)
    · cases e
theorem dgs_nil : DGs C X .nil [] :=
  pgs_nil.imp fun v σ H Q ⟨N0, W0, H0, W, ρ, st, d, ρ', st', a, r, e, k⟩ => by
    cases r with
    | nil =>
      simp only [asgT, seqD] at e
      cases e
      exact ⟨rfl, k σ H W a (fun _ _ => rfl) (fun _ _ _ => rfl) (Ext.refl W)⟩
    | cons _ _ => simp [asgT, seqD] at e
theorem assignEach_of {t : Expr} (h : notStar t = true) (rest : List Expr) (env : PySem.Env) : assignEach (t :: rest) env = (false, assign t env) :: assignEach rest env := by
  cases t <;> first | rfl | cases h
theorem dgs_cons {a r : CT} {e : Expr} {es : List Expr} (hs : notStar e = true) (h1 : DG C X a e) (h2 : DGs C X r es) : DGs C X (.cons a r) (e :: es) :=
  (pgs_cons h1 h2 (by rw [assignEach_of hs]; rfl)).imp fun v σ H Q ⟨N0, W0, H0, W, ρ, st, ds, ρ', st', at0, rr, e, k⟩ => by
    cases ds with
    | nil => simp [asgT, seqD] at e
    | cons d ds =>
      obtain ⟨x, xs, rfl, ra, rr⟩ := rr.invD
      simp only [asgT, seqD] at e
      obtain ⟨⟨ρ1, st1⟩, e1, e2⟩ := Option.bind_eq_some_iff.mp e
      refine ⟨x, xs, rfl, N0, W0, H0, W, ρ, st, d, ρ1, st1, at0, ra, e1, fun σ1 H1 W1 at1 w1 o1 x1 => ?_⟩
      exact ⟨N0, W0, H0, W1, ρ1, st1, ds, ρ', st', at1, x1.reps rr, e2, fun σ2 H2 W2 at2 w2 o2 x2 => k σ2 H2 W2 at2 (fun vs h => by
        simp only [ctIn, Bool.and_eq_true] at h
        rw [w2 vs h.2, w1 vs h.1]) (fun i xs e => (o2 i xs e).trans (o1 i xs (asgT_own r e2 i xs e))) (x1.trans x2)⟩
theorem assignEach_len : ∀ (es : List Expr) (env : PySem.Env), (assignEach es env).length = es.length
  | [], _ => rfl
  | e :: es, env => by
    cases e <;> simp [assignEach, assignEach_len es env]
theorem assignEach_star : ∀ (es : List Expr) (env : PySem.Env), es.all notStar = true → (assignEach es env).findIdx? (·.1) = none
  | [], _, _ => rfl
  | e :: es, env, h => by
    simp only [List.all_cons, Bool.and_eq_true] at h
    rw [assignEach_of h.1, List.findIdx?_cons]
    simp [assignEach_star es env h.2]
/-- the number of targets in a row -/
def ctLen : CT → Nat
  | .cons _ r => ctLen r + 1
  | _ => 0
def ctList : CT → Bool
  | .nil => true
  | .cons _ r => ctList r
  | _ => false
theorem asgT_len : ∀ (ct : CT) {ds : List D} {ρ ρ' : Env} {st st' : St}, ctList ct = true → asgT ct (.tup ds) ρ st = some (ρ', st') → ds.length = ctLen ct
  | .nil, ds, ρ, ρ', st, st', _, h => by
    cases ds with
    | nil => rfl
    | cons _ _ => simp [asgT, seqD] at h
  | .cons a r, ds, ρ, ρ', st, st', hl, h => by
    cases ds with
    | nil => simp [asgT, seqD] at h
    | cons x xs =>
      simp only [asgT, seqD] at h
      obtain ⟨p, _, e⟩ := Option.bind_eq_some_iff.mp h
      have := asgT_len r (ρ := p.1) (st := p.2) (ρ' := ρ') (st' := st') hl e
      simp [ctLen, this]
theorem seqRep {W : GW} {v : V} {d : D} {ds : List D} (r : RepW C W v d) (e : seqD d = some ds) : (∃ a vs, v = .ref a ∧ TupS C.K W.F a vs ∧ RepsW C W vs ds) ∨ ∃ a vs, v = .ref a ∧ W.F a = some (.lst vs) ∧ RepsW C W vs ds := by
  cases r <;> simp only [seqD] at e <;> cases e
  · rename_i a vs s r
    exact .inl ⟨a, vs, rfl, s, r⟩
  · rename_i a vs s r
    exact .inr ⟨a, vs, rfl, s, r⟩
theorem dg_tup (hK : X.K = C.K) (hc : X.calm = true) {ct : CT} {es : List Expr} {kk : Nat} {pos : Pos} (hl : ctList ct = true) (hlen : ctLen ct = es.length) (hst : es.all notStar = true) (h : DGs C X ct es) : DG C X ct (.Tuple es kk pos) := by
  have hn : (assignEach es X.env).length = es.length := assignEach_len es X.env
  have h1 := pg_tup (pos := pos) (k := kk) hc h hn (assignEach_star es X.env hst)
  have h2 := pg_unl (pos := pos) (k := kk) hc h hn (assignEach_star es X.env hst)
  refine ⟨fun pins s σ H v u Q I r ⟨N0, W0, H0, W, ρ, st, d, ρ', st', at0, rd, e, k⟩ => ?_⟩
  have hs : ∃ ds, seqD d = some ds ∧ asgT ct (.tup ds) ρ st = some (ρ', st') := by
    cases ct with
    | nm _ => cases hl
    | sub _ _ => cases hl
    | nil =>
      simp only [asgT] at e ⊢
      cases q : seqD d with
      | none => rw [q] at e; cases e
      | some ds => rw [q] at e; exact ⟨ds, rfl, by simpa [seqD] using e⟩
    | cons a r =>
      simp only [asgT] at e ⊢
      cases q : seqD d with
      | none => rw [q] at e; cases e
      | some ds => rw [q] at e; exact ⟨ds, rfl, by simpa [seqD] using e⟩
  obtain ⟨ds, ed, e⟩ := hs
  have hdl := asgT_len ct hl e
  rcases seqRep rd ed with ⟨a, vs, rfl, sT, rr⟩ | ⟨a, vs, rfl, sL, rr⟩
  · exact h1.run pins s σ H _ u Q I r ⟨a, vs, rfl, by rw [hK]; exact sT.sqT at0.2.1.sub, by rw [rr.length, hdl, hlen], N0, W0, H0, W, ρ, st, ds, ρ', st', at0, rr, e, k⟩
  · exact h2.run pins s σ H _ u Q I r ⟨a, vs, rfl, .inl (.inl (at0.2.1.sub _ _ sL)), by rw [rr.length, hdl, hlen], N0, W0, H0, W, ρ, st, ds, ρ', st', at0, rr, e, k⟩
end
end DV
end

section
set_option linter.all false
set_option maxRecDepth 100000
set_option maxHeartbeats 1000000
/-! DV10: comprehensions. -/
namespace DV
open PySem PySem.Spec PyProof.Rows L2
/-- all but the list being made -/
def mask (D : Addr) (H : Hp) : Hp := fun a => if a = D then none else H a
theorem mask_ne {D a : Addr} {H : Hp} (h : a ≠ D) : mask D H a = H a := if_neg h
theorem mask_same {D : Addr} {H : Hp} : mask D H D = none := if_pos rfl
theorem mask_some {D a : Addr} {H : Hp} {o : HO} (h : mask D H a = some o) : a ≠ D ∧ H a = some o := by
  by_cases e : a = D
  · subst e; rw [mask_same] at h; cases h
  · rw [mask_ne e] at h; exact ⟨e, h⟩
theorem mask_upd {D : Addr} {H : Hp} {o : HO} : mask D (upd H D o) = mask D H := by
  funext a
  by_cases e : a = D
  · subst e; rw [mask_same, mask_same]
  · rw [mask_ne e, mask_ne e, upd_ne e]
theorem mask_free {D : Addr} {H : Hp} (h : H D = none) : mask D H = H := by
  funext a
  by_cases e : a = D
  · subst e; rw [mask_same, h]
  · rw [mask_ne e]
structure LcSt (C : PC) (N0 : Addr → Prop) (D : Addr) (W1 : GW) (H1 : Hp) (W : GW) (st : St) (ρ : Env) (σ : L2.St) (H : Hp) (av : List V) (acc : List DV.D) : Prop where
  now : Now C N0 W ρ st σ (mask D H)
  gr : Grow W1 H1 W (mask D H)
  at_ : H D = some (.lst av)
  reps : RepsW C W av acc
  nF : W.F D = none
  nm : D ∉ W.μ
section
variable {C : PC} {X : Cx} {G : Tell} {N0 : Addr → Prop} {D : Addr} {W1 W W' : GW} {H1 H H' : Hp} {st st' : St} {ρ ρ' : Env} {σ σ' : L2.St} {av : List V} {acc : List DV.D}
theorem MemOk.unmask (m : MemOk C W st (mask D H)) : MemOk C W st H where
  sub := fun a o e => (mask_some (m.sub a o e)).2
  len := m.len
  cell := fun l a xs e1 e2 => let ⟨vs, e3, r⟩ := m.cell l a xs e1 e2; ⟨vs, (mask_some e3).2, r⟩
  nd := m.nd
  nf := m.nf
  nt := m.nt
  tab := m.tab.mono (fun b o e => (mask_some e).2) fun _ _ e => e
theorem Sls.unmask (s : Sls C W N0 σ ρ (mask D H)) : Sls C W N0 σ ρ H where
  len := s.len
  val := s.val
  own := fun i xs e => let ⟨a, vs, e1, e2, r⟩ := s.own i xs e; ⟨a, vs, e1, (mask_some e2).2, r⟩
  dis := s.dis
  exc := s.exc
theorem Now.unmask (n : Now C N0 W ρ st σ (mask D H)) : Now C N0 W ρ st σ H := ⟨n.1.unmask, n.2.unmask⟩
theorem Grow.mask (g : Grow W H W' H') : Grow W (DV.mask D H) W' (DV.mask D H') where
  fr := g.fr
  fn := fun a o e => (g.fn a o e).imp id fun z => by
    by_cases q : a = D
    · subst q; exact mask_same
    · rw [mask_ne q]; exact z
  mu := let ⟨m, e, n⟩ := g.mu; ⟨m, e, fun a ha => by
    by_cases q : a = D
    · subst q; exact mask_same
    · rw [mask_ne q]; exact n a ha⟩
  kp := fun a o e nm nt => by
    obtain ⟨h1, h2⟩ := mask_some e
    rw [mask_ne h1]; exact g.kp a o h2 nm nt
  al := fun a e => by
    by_cases q : a = D
    · subst q; exact mask_same
    · rw [mask_ne q] at e ⊢; exact g.al a e
theorem MemOk.mask (m : MemOk C W st H) (nF : W.F D = none) (nm : D ∉ W.μ) {av : List V} (hD : H D = some (.lst av)) : MemOk C W st (DV.mask D H) where
  sub := fun a o e => by rw [mask_ne (fun q => by rw [q, nF] at e; cases e)]; exact m.sub a o e
  len := m.len
  cell := fun l a xs e1 e2 => let ⟨vs, e3, r⟩ := m.cell l a xs e1 e2; ⟨vs, by rw [mask_ne (fun q => nm (by rw [← q]; exact List.mem_of_getElem? e1))]; exact e3, r⟩
  nd := m.nd
  nf := m.nf
  nt := m.nt
  tab := m.tab.mono (fun P ps h1 => by rw [mask_ne (fun z => by rw [z, hD] at h1; cases h1)]; exact h1) fun _ _ e => e
theorem LcSt.grow (s : LcSt C N0 D W1 H1 W st ρ σ H av acc) (g : Grow W H W' H') (m : MemOk C W' st' H') : LcSt C N0 D W1 H1 W' st' ρ σ H' av acc := by
  have nF : W'.F D = none := by
    cases q : W'.F D with
    | none => rfl
    | some o =>
      rcases g.fn D o q with z | z
      · rw [s.nF] at z; cases z
      · rw [s.at_] at z; cases z
  have nm : D ∉ W'.μ := by
    obtain ⟨m, e, n⟩ := g.mu
    rw [e]
    intro z
    rcases List.mem_append.mp z with z | z
    · exact s.nm z
    · have := n D z; rw [s.at_] at this; cases this
  have hD := g.kp D _ s.at_ s.nm (fun _ z => nomatch z)
  exact ⟨s.now.grow g.mask (m.mask nF nm hD), s.gr.trans g.mask, hD, g.reps s.reps, nF, nm⟩
theorem LcSt.app (s : LcSt C N0 D W1 H1 W st ρ σ H av acc) {y : V} {d : DV.D} (r : RepW C W y d) : LcSt C N0 D W1 H1 W st ρ σ (upd H D (.lst (av ++ [y]))) (av ++ [y]) (acc ++ [d]) :=
  ⟨by rw [mask_upd]; exact s.now, by rw [mask_upd]; exact s.gr, upd_same, s.reps.append (.cons r .nil), s.nF, s.nm⟩
theorem LcSt.env (s : LcSt C N0 D W1 H1 W st ρ σ H av acc) (n : Sls C W N0 σ' ρ' H) (hown : ∀ (i : Nat) xs, ρ'[i]? = some (.own xs) → ρ[i]? = some (.own xs) ∧ σ'[i]? = σ[i]?) : LcSt C N0 D W1 H1 W st ρ' σ' H av acc :=
  ⟨⟨s.now.1, ⟨n.len, n.val, fun i xs e => by
    obtain ⟨e1, e2⟩ := hown i xs e
    obtain ⟨a, vs, h1, h2, h3⟩ := s.now.2.own i xs e1
    exact ⟨a, vs, e2.trans h1, h2, h3⟩, n.dis, n.exc⟩⟩, s.gr, s.at_, s.reps, s.nF, s.nm⟩
theorem LcSt.start (n : Now C N0 W ρ st σ H) (hD : H D = none) : LcSt C N0 D W H W st ρ σ (upd H D (.lst [])) [] [] := by
  have nF : W.F D = none := by
    cases q : W.F D with
    | none => rfl
    | some z => rw [n.1.sub _ _ q] at hD; cases hD
  have nm : D ∉ W.μ := fun h => by
    obtain ⟨l, hl, e⟩ := List.getElem_of_mem h
    have e1 : W.μ[l]? = some D := by rw [List.getElem?_eq_getElem hl, e]
    have hl2 : l < st.length := n.1.len ▸ hl
    obtain ⟨vs, z, _⟩ := n.1.cell l D st[l] e1 (List.getElem?_eq_getElem hl2)
    rw [hD] at z; cases z
  refine ⟨by rw [mask_upd, mask_free hD]; exact n, by rw [mask_upd, mask_free hD]; exact Grow.refl W H, upd_same, .nil, nF, nm⟩
/-- the list is done -/
theorem LcSt.fin (s : LcSt C N0 D W1 H1 W st ρ σ H av acc) (hD : H1 D = none) : ∃ W2, Grow W1 H1 W2 H ∧ MemOk C W2 st H ∧ RepW C W2 (.ref D) (.lst acc) := by
  have fr : ∀ a o, W.F a = some o → upd W.F D (.lst av) a = some o := fun a o e => by
    rw [upd_ne (fun q => by rw [q, s.nF] at e; cases e)]; exact e
  have m := s.now.1.unmask
  refine ⟨⟨upd W.F D (.lst av), W.μ⟩, ⟨fun a o e => fr a o (s.gr.fr a o e), fun a o e => ?_, s.gr.mu, fun a o e nm nt => ?_, fun a e => ?_⟩, ⟨fun a o e => ?_, m.len, fun l a xs e1 e2 => ?_, m.nd, fun a ha => ?_, fun a ps e => ?_, m.tab.mono (fun _ _ e => e) fr⟩, ?_⟩
  · by_cases q : a = D
    · subst q; exact .inr hD
    · have e' : upd W.F D (.lst av) a = some o := e
      rw [upd_ne q] at e'; exact s.gr.fn a o e'
  · have := s.gr.kp a o e nm nt
    exact (mask_some this).2
  · exact s.gr.al a (by unfold DV.mask; split <;> simp [e])
  · by_cases q : a = D
    · subst q
      have e' : upd W.F a (.lst av) a = some o := e
      rw [upd_same] at e'
      cases e'; exact s.at_
    · have e' : upd W.F D (.lst av) a = some o := e
      rw [upd_ne q] at e'; exact m.sub a o e'
  · obtain ⟨vs, z, r⟩ := m.cell l a xs e1 e2
    exact ⟨vs, z, r.mono fr ⟨[], by simp⟩⟩
  · show upd W.F D (.lst av) a = none
    rw [upd_ne (fun q => s.nm (by rw [← q]; exact ha))]; exact m.nf a ha
  · by_cases q : a = D
    · subst q
      have e' : upd W.F a (.lst av) a = some (.tbl ps) := e
      rw [upd_same] at e'
      cases e'
    · have e' : upd W.F D (.lst av) a = some (.tbl ps) := e
      rw [upd_ne q] at e'; exact m.nt a ps e'
  · exact .lst upd_same (s.reps.mono fr ⟨[], by simp⟩)
/-! ### a step of what is left -/
theorem Post.stepN {α β γ δ ε : Type} {rel : GW → β → α → Prop} {rel2 : GW → δ → γ → Prop} {r : R α} {f : α → St → R ε} {K : ε → St → R γ} {Wa : GW} {Ha : Hp} {Q : δ → Hp → Prop} {E E' : Value → Option Addr → Hp → Prop}
    (h : Post C rel2 ((noex (r.bind f)).bind K) W1 H1 Q E) : Post C rel r Wa Ha (fun b H' => ∃ W' a st', Grow Wa Ha W' H' ∧ MemOk C W' st' H' ∧ rel W' b a ∧ Post C rel2 ((noex (f a st')).bind K) W1 H1 Q E) E' := by
  cases r with
  | ok a st => exact fun b H' W' g m q => ⟨W', a, st, g, m, q, h⟩
  | exc c ds st => exact h.elim
  | bad => exact h.elim
theorem bind_assoc' {α β γ : Type} (r : R α) (f : α → St → R β) (g : β → St → R γ) : (r.bind f).bind g = r.bind fun a st => (f a st).bind g := by cases r <;> rfl
theorem noex_bind {α β γ : Type} (r : R α) (k : α → St → R β) (g : β → St → R γ) : (noex (r.bind k)).bind g = (noex r).bind fun a st => (noex (k a st)).bind g := by cases r <;> rfl
/-- the target leaves the store's cells -/
def ctPl : CT → Bool
  | .nm _ => true
  | .sub _ _ => false
  | .nil => true
  | .cons a r => ctPl a && ctPl r
/-- nothing is let out of a comprehension -/
abbrev noW : WX' := fun _ _ _ _ => False
theorem takes_noW (X : Cx) : Takes X noW := fun u s' ⟨_, _, _, _, _, _, _, _, _, _, _, _, _, _, _, _, w⟩ => w.elim
theorem lenK_lt {acc : List DV.D} {n : Nat} (h : acc.length + 1 ≤ n) : acc.length < n := h
/-- one clause's loop, K behind it -/
theorem lc_loop {Wi Wb : GW} {Hb : Hp} {J : It} {ds : List DV.D} {tg : CT} {c e : CE} {K : List DV.D → St → R DV.D} {Q : V → Hp → Prop} {E : Value → Option Addr → Hp → Prop} {Qd : Hp → Prop} {WP : L2.St → Prop}
    (hJ : ItOk C Wi J ds) (hx : Ext Wi W) (s0 : LcSt C N0 D Wb Hb W st ρ σ H av acc) (hW : ∀ σ2 : L2.St, (∀ vs, ctIn vs tg = true → L2.wipe σ2 vs = L2.wipe σ vs) → WP σ2)
    (hK : ∀ acc st, K acc st ≠ .bad → acc.length ≤ line)
    (p : Post C (RepW C) ((noex (lcLoop tg ρ (evC G c) (evE G e) ds st)).bind fun ys st' => K (acc ++ ys) st') W1 H1 Q E)
    (fin : ∀ W st H av acc, LcSt C N0 D Wb Hb W st ρ σ H av acc → Ext Wi W → Post C (RepW C) (K acc st) W1 H1 Q E → Qd H) :
    ∃ Wv : Nat → Nat → Hp → Prop, (∃ m, Wv 0 m H) ∧ ∀ i m H, Wv i m H → (J.stop i H ∧ Qd H) ∨ (J.go i H ∧ ∃ Nx : Hp → Prop, (∀ H', Nx H' → ∃ m', m' < m ∧ Wv (i + 1) m' H') ∧ ∀ x H', J.yld i H x H' → tG C tg x σ H' fun σ2 H2 => WP σ2 ∧
      tT C noW (evC G c) σ2 H2 fun b H3 => if b = true then tE C noW (evE G e) σ2 H3 fun y H4 => ∃ acc, H4 D = some (.lst acc) ∧ acc.length < sizeLine ∧ Nx (upd H4 D (.lst (acc ++ [y]))) else Nx H3) := by
  refine ⟨fun i m H => m = ds.length - i ∧ i ≤ ds.length ∧ ∃ W st av acc, LcSt C N0 D Wb Hb W st ρ σ H av acc ∧ Ext Wi W ∧
    Post C (RepW C) ((noex (lcLoop tg ρ (evC G c) (evE G e) (ds.drop i) st)).bind fun ys st' => K (acc ++ ys) st') W1 H1 Q E, ⟨ds.length, rfl, Nat.zero_le _, W, st, av, acc, s0, hx, p⟩, ?_⟩
  rintro i m H ⟨rfl, hi, W, st, av, acc, s, x, p⟩
  have J1 := hJ W H st i x s.now.1.unmask
  by_cases hlt : i < ds.length
  · refine .inr ⟨(J1.2 ds[i] (List.getElem?_eq_getElem hlt)).1, fun H' => i + 1 ≤ ds.length ∧ ∃ W st av acc, LcSt C N0 D Wb Hb W st ρ σ H' av acc ∧ Ext Wi W ∧
      Post C (RepW C) ((noex (lcLoop tg ρ (evC G c) (evE G e) (ds.drop (i + 1)) st)).bind fun ys st' => K (acc ++ ys) st') W1 H1 Q E, fun H' q => ⟨ds.length - (i + 1), by omega, rfl, q⟩, fun y H' hy => ?_⟩
    obtain ⟨W2, g2, m2, r2⟩ := (J1.2 ds[i] (List.getElem?_eq_getElem hlt)).2 y H' hy
    have s2 := s.grow g2 m2
    rw [List.drop_eq_getElem_cons hlt] at p
    simp only [lcLoop] at p
    cases ha : asgT tg ds[i] ρ st with
    | none => rw [ha] at p; exact p.elim
    | some q =>
      obtain ⟨ρ1, st1⟩ := q
      rw [ha] at p
      simp only at p
      refine ⟨N0, W2, H', W2, ρ, st, ds[i], ρ1, st1, ⟨Grow.refl _ _, s2.now.unmask⟩, r2, ha, fun σ2 H2 W3 ⟨g3, n3⟩ hw _ x3 => ⟨hW σ2 hw, ?_⟩⟩
      have s3 : LcSt C N0 D Wb Hb W3 st1 ρ σ H2 av acc := s2.grow g3 n3.1
      refine ⟨N0, W3, ρ1, st1, n3, (Post.stepN p).imp fun b H3 ⟨W4, k, st4, g4, m4, eb, p4⟩ => ?_⟩
      subst eb
      have s4 := s3.grow g4 m4
      cases b
      · rw [if_neg Bool.false_ne_true] at p4 ⊢
        exact ⟨hlt, W4, st4, av, acc, s4, ((x.trans g2.ext).trans x3).trans g4.ext, p4⟩
      · rw [if_pos rfl] at p4 ⊢
        refine ⟨N0, W4, ρ1, st4, n3.grow g4 m4, (Post.stepN p4).imp fun z H4 ⟨W5, d, st5, g5, m5, rz, p5⟩ => ?_⟩
        have s5 := s4.grow g5 m5
        rw [noex_bind] at p5
        have p6 : Post C (RepW C) ((noex (lcLoop tg ρ (evC G c) (evE G e) (ds.drop (i + 1)) st5)).bind fun ys st' => K ((acc ++ [d]) ++ ys) st') W1 H1 Q E := by
          have e1 : (fun (a : List DV.D) st => (noex (R.ok (d :: a) st)).bind fun ys st' => K (acc ++ ys) st') = fun ys st' => K ((acc ++ [d]) ++ ys) st' := by
            funext a st
            simp [noex, R.bind]
          rw [← e1]; exact p5
        have hlen : acc.length + 1 ≤ line := by
          cases q : lcLoop tg ρ (evC G c) (evE G e) (ds.drop (i + 1)) st5 with
          | bad => rw [q] at p6; exact p6.elim
          | exc _ _ _ => rw [q] at p6; exact p6.elim
          | ok ys st' =>
            rw [q] at p6
            have := hK _ _ (fun z => by
              have p7 : Post C (RepW C) (K ((acc ++ [d]) ++ ys) st') W1 H1 Q E := p6
              rw [z] at p7; exact p7.elim)
            simp at this; omega
        refine ⟨av, s5.at_, by rw [s5.reps.length]; rw [line_eq] at hlen; exact hlen, hlt, W5, st5, _, _, s5.app rz, (((x.trans g2.ext).trans x3).trans g4.ext).trans g5.ext, p6⟩
  · have e1 : i = ds.length := by omega
    refine .inl ⟨J1.1 e1, ?_⟩
    subst e1
    rw [List.drop_length] at p
    exact fin W st H av acc s x (by simpa [lcLoop, noex, R.bind] using p)
theorem Now.wipe (n : Now C N0 W ρ st σ H) (vs : List Nat) : Now C N0 W (DV.wipe ρ vs) st (L2.wipe σ vs) H := ⟨n.1, n.2.wipe vs⟩
theorem comp_imp {Wx : WX'} {tg : CT} {ci cc ce : CE} {own : List Nat} {σ : L2.St} {H : Hp} {Q : V → Hp → Prop} (hin : ctIn own tg = true) (h : tE C Wx (evE G (.comp tg ci cc ce own)) σ H Q) : tLc (tI C Wx (evI G ci)) (tG C tg) (tT C noW (evC G cc)) (tE C noW (evE G ce)) own σ H Q := by
    obtain ⟨N0, W, ρ, st, n, p⟩ := h
    simp only [evE] at p
    refine ⟨N0, W, ρ, st, n, (p.bind (rel := ItOk C)).imp fun J H1 ⟨W1, ds, st1, g1, m1, hJ, p1⟩ => ?_⟩
    intro D hD
    have n1 := (n.grow g1 m1).wipe own
    refine lc_loop (Wi := W1) (K := fun ys st => if ys.length ≤ line then .ok (.lst ys) st else .bad) (WP := fun σ2 => L2.wipe σ2 own = L2.wipe σ own) hJ (Ext.refl W1) (LcSt.start n1 hD) (fun σ2 h => ?_) (fun acc st h => ?_) p1 fun W st H av acc s x p2 => ?_
    · rw [h _ hin]
      exact wipe_wipe σ _ _ fun _ h => h
    · by_cases q : acc.length ≤ line
      · exact q
      · rw [if_neg q] at h; exact absurd rfl h
    · obtain ⟨W2, g2, m2, r2⟩ := s.fin hD
      split at p2
      · exact p2 _ _ _ g2 m2 r2
      · exact p2.elim
theorem de_comp {tg : CT} {ci cc ce : CE} {ifs : List Expr} {elt te ie : Expr} {scope : Scope} {own : List (Str × Nat)} {pos : Pos} (hc : X.calm = true) (hN : X.N.Nodup) (hi : DI C G X ci te ie) (ok : BlkOk X.N X.env.scope scope own)
    (hg : ∀ (s : Shared) (H : Hp) (B : Addr) (cl : List (Str × Addr)) (fp : List Addr), DG C (X.blk s H scope (compEnvC scope cl B X.env) fp) tg te)
    (ht : ∀ (s : Shared) (H : Hp) (B : Addr) (cl : List (Str × Addr)) (fp : List Addr), PTs (X.blk s H scope (compEnvC scope cl B X.env) fp) ifs (tT C noW (evC G cc)))
    (he : ∀ (s : Shared) (H : Hp) (B : Addr) (cl : List (Str × Addr)) (fp : List Addr), DE C G (X.blk s H scope (compEnvC scope cl B X.env) fp) ce elt) (hs : ∀ x, foldedSetIterable ie X.env x = pure x) (hin : ctIn (own.map (·.2)) tg = true) :
    DE C G X (.comp tg ci cc ce (own.map (·.2))) (.ListComp elt [⟨te, ie, ifs, 0⟩] scope pos) := fun Wx tk =>
  (pe_lc hc hN (hi Wx tk) ok hg ht (fun s H B cl fp => he s H B cl fp noW (takes_noW _)) hs).imp fun σ H Q h => comp_imp hin h
theorem wipe_own : ∀ (vs : List Nat) {ρ : Env} {σ σ0 : L2.St} {i : Nat} {xs : List DV.D}, (DV.wipe ρ vs)[i]? = some (.own xs) → ρ[i]? = some (.own xs) ∧ (L2.wipe σ vs)[i]? = σ[i]?
  | [], _, _, _, _, _, e => ⟨e, rfl⟩
  | v :: vs, ρ, σ, σ0, i, xs, e => by
    have e' : ((DV.wipe ρ vs).set v .no)[i]? = some (.own xs) := e
    by_cases q : v = i
    · subst q
      rw [List.getElem?_set_self'] at e'
      obtain ⟨y, ey, z⟩ := Option.map_eq_some_iff.mp e'
      cases z
    · rw [List.getElem?_set_ne q] at e'
      obtain ⟨h1, h2⟩ := wipe_own vs (σ := σ) (σ0 := σ0) e'
      exact ⟨h1, (List.getElem?_set_ne q).trans h2⟩
/-- the first clause's loop; the second one's within -/
theorem lc_loop2 {Wi : GW} {J : It} {ds : List DV.D} {tg tg1 : CT} {c c1 e : CE} {i1 : CE} {vs vs1 : List Nat} {σ0 : L2.St} {Q : V → Hp → Prop} {E : Value → Option Addr → Hp → Prop} {Qd : Hp → Prop} 
    (hJ : ItOk C Wi J ds) (hx : Ext Wi W) (s0 : LcSt C N0 D W1 H1 W st ρ σ H av acc) (hW : σ = L2.wipe σ0 vs) (hin : ctIn vs tg = true) (hin1 : ctIn vs1 tg1 = true)
    (p : Post C (RepW C) ((noex (lcLoop2 tg ρ (evC G c) (fun ρ1 st1 => (evI G i1 ρ1 st1).bind fun ys st2 => lcLoop tg1 (DV.wipe ρ1 vs1) (evC G c1) (evE G e) ys st2) ds st)).bind fun ys st' => if (acc ++ ys).length ≤ line then .ok (.lst (acc ++ ys)) st' else .bad) W1 H1 Q E)
    (fin : ∀ W st H av acc, LcSt C N0 D W1 H1 W st ρ σ H av acc → Post C (RepW C) (if acc.length ≤ line then .ok (.lst acc) st else .bad) W1 H1 Q E → Qd H) :
    ∃ Wv : Nat → Nat → Hp → Prop, (∃ m, Wv 0 m H) ∧ ∀ i m H, Wv i m H → (J.stop i H ∧ Qd H) ∨ (J.go i H ∧ ∃ Nx : Hp → Prop, (∀ H', Nx H' → ∃ m', m' < m ∧ Wv (i + 1) m' H') ∧ ∀ x H', J.yld i H x H' → tG C tg x (L2.wipe σ0 vs) H' fun σ2 H2 => L2.wipe σ2 vs = L2.wipe σ0 vs ∧
      tT C noW (evC G c) σ2 H2 fun b H3 => if b = true then tI C noW (evI G i1) σ2 H3 fun J1 H4 => ∃ W1 : Nat → Nat → Hp → Prop, (∃ m, W1 0 m H4) ∧ ∀ j k H, W1 j k H →
        (J1.stop j H ∧ Nx H) ∨ (J1.go j H ∧ ∃ Nx1 : Hp → Prop, (∀ H', Nx1 H' → ∃ k', k' < k ∧ W1 (j + 1) k' H') ∧ ∀ x H', J1.yld j H x H' → tG C tg1 x (L2.wipe σ2 vs1) H' fun σ3 H5 => L2.wipe σ3 vs1 = L2.wipe σ2 vs1 ∧ tT C noW (evC G c1) σ3 H5 fun b H6 =>
          if b = true then tE C noW (evE G e) σ3 H6 fun y H7 => ∃ acc, H7 D = some (.lst acc) ∧ acc.length < sizeLine ∧ Nx1 (upd H7 D (.lst (acc ++ [y]))) else Nx1 H6) else Nx H3) := by
  refine ⟨fun i m H => m = ds.length - i ∧ i ≤ ds.length ∧ ∃ W st av acc, LcSt C N0 D W1 H1 W st ρ σ H av acc ∧ Ext Wi W ∧
    Post C (RepW C) ((noex (lcLoop2 tg ρ (evC G c) (fun ρ1 st1 => (evI G i1 ρ1 st1).bind fun ys st2 => lcLoop tg1 (DV.wipe ρ1 vs1) (evC G c1) (evE G e) ys st2) (ds.drop i) st)).bind fun ys st' => if (acc ++ ys).length ≤ line then .ok (.lst (acc ++ ys)) st' else .bad) W1 H1 Q E, ⟨ds.length, rfl, Nat.zero_le _, W, st, av, acc, s0, hx, p⟩, ?_⟩
  rintro i m H ⟨rfl, hi, W, st, av, acc, s, x, p⟩
  have J1 := hJ W H st i x s.now.1.unmask
  by_cases hlt : i < ds.length
  · refine .inr ⟨(J1.2 ds[i] (List.getElem?_eq_getElem hlt)).1, fun H' => i + 1 ≤ ds.length ∧ ∃ W st av acc, LcSt C N0 D W1 H1 W st ρ σ H' av acc ∧ Ext Wi W ∧
      Post C (RepW C) ((noex (lcLoop2 tg ρ (evC G c) (fun ρ1 st1 => (evI G i1 ρ1 st1).bind fun ys st2 => lcLoop tg1 (DV.wipe ρ1 vs1) (evC G c1) (evE G e) ys st2) (ds.drop (i + 1)) st)).bind fun ys st' => if (acc ++ ys).length ≤ line then .ok (.lst (acc ++ ys)) st' else .bad) W1 H1 Q E, fun H' q => ⟨ds.length - (i + 1), by omega, rfl, q⟩, fun y H' hy => ?_⟩
    obtain ⟨W2, g2, m2, r2⟩ := (J1.2 ds[i] (List.getElem?_eq_getElem hlt)).2 y H' hy
    have s2 := s.grow g2 m2
    rw [List.drop_eq_getElem_cons hlt] at p
    simp only [lcLoop2] at p
    cases ha : asgT tg ds[i] ρ st with
    | none => rw [ha] at p; exact p.elim
    | some q =>
      obtain ⟨ρ1, st1⟩ := q
      rw [ha] at p
      simp only at p
      subst hW
      refine ⟨N0, W2, H', W2, ρ, st, ds[i], ρ1, st1, ⟨Grow.refl _ _, s2.now.unmask⟩, r2, ha, fun σ2 H2 W3 ⟨g3, n3⟩ hw ho x3 => ⟨(hw _ hin).trans (wipe_wipe σ0 _ _ fun _ h => h), ?_⟩⟩
      have s3 : LcSt C N0 D W1 H1 W3 st1 ρ (L2.wipe σ0 vs) H2 av acc := s2.grow g3 n3.1
      refine ⟨N0, W3, ρ1, st1, n3, (Post.stepN p).imp fun b H3 ⟨W4, k, st4, g4, m4, eb, p4⟩ => ?_⟩
      subst eb
      have s4 := s3.grow g4 m4
      cases b
      · rw [if_neg Bool.false_ne_true] at p4 ⊢
        exact ⟨hlt, W4, st4, av, acc, s4, ((x.trans g2.ext).trans x3).trans g4.ext, p4⟩
      · rw [if_pos rfl] at p4 ⊢
        rw [bind_assoc'] at p4
        have n4 := n3.grow g4 m4
        refine ⟨N0, W4, ρ1, st4, n4, (Post.stepN (rel := ItOk C) p4).imp fun J2 H4 ⟨W5, es, st5, g5, m5, hJ2, p5⟩ => ?_⟩
        have n5 := n4.grow g5 m5
        have s5o := s4.grow g5 m5
        have s5e := s5o.env (n5.wipe vs1).2 fun j xs e1 => by
          obtain ⟨h1, h2⟩ := wipe_own vs1 (σ := σ2) (σ0 := σ2) e1
          exact ⟨asgT_own tg ha j xs h1, h2.trans (ho j xs h1)⟩
        have s5 : LcSt C N0 D W5 (DV.mask D H4) W5 st5 (DV.wipe ρ1 vs1) (L2.wipe σ2 vs1) H4 av acc := ⟨s5e.now, Grow.refl _ _, s5e.at_, s5e.reps, s5e.nF, s5e.nm⟩
        rw [noex_bind] at p5
        refine lc_loop (W1 := W1) (H1 := H1) (tg := tg1) (c := c1) (e := e) (K := fun us st => (noex (lcLoop2 tg ρ (evC G c) (fun ρ1 st1 => (evI G i1 ρ1 st1).bind fun ys st2 => lcLoop tg1 (DV.wipe ρ1 vs1) (evC G c1) (evE G e) ys st2) (ds.drop (i + 1)) st)).bind fun zs st' => if (us ++ zs).length ≤ line then .ok (.lst (us ++ zs)) st' else .bad)
          (Q := Q) (E := E) (WP := fun σ3 => L2.wipe σ3 vs1 = L2.wipe σ2 vs1) hJ2 (Ext.refl W5) s5 (fun σ3 h => ?_) (fun us st h => ?_) ?_ fun W st H av acc2 s6 x6 p6 => ?_
        · rw [h _ hin1]
          exact wipe_wipe σ2 _ _ fun _ h => h
        · cases q : lcLoop2 tg ρ (evC G c) (fun ρ1 st1 => (evI G i1 ρ1 st1).bind fun ys st2 => lcLoop tg1 (DV.wipe ρ1 vs1) (evC G c1) (evE G e) ys st2) (ds.drop (i + 1)) st with
          | bad => rw [q] at h; exact absurd rfl h
          | exc _ _ _ => rw [q] at h; exact absurd rfl h
          | ok zs st' =>
            rw [q] at h
            by_cases z : (us ++ zs).length ≤ line
            · simp at z; omega
            · have h' : (if (us ++ zs).length ≤ line then R.ok (DV.D.lst (us ++ zs)) st' else .bad) ≠ .bad := h
              rw [if_neg z] at h'; exact absurd rfl h'
        · have e1 : (fun (us : List DV.D) st3 => (noex ((lcLoop2 tg ρ (evC G c) (fun ρ1 st1 => (evI G i1 ρ1 st1).bind fun ys st2 => lcLoop tg1 (DV.wipe ρ1 vs1) (evC G c1) (evE G e) ys st2) (ds.drop (i + 1)) st3).bind fun zs st4 => R.ok (us ++ zs) st4)).bind fun ys st' => if (acc ++ ys).length ≤ line then R.ok (DV.D.lst (acc ++ ys)) st' else .bad) =
              fun us st3 => (noex (lcLoop2 tg ρ (evC G c) (fun ρ1 st1 => (evI G i1 ρ1 st1).bind fun ys st2 => lcLoop tg1 (DV.wipe ρ1 vs1) (evC G c1) (evE G e) ys st2) (ds.drop (i + 1)) st3)).bind fun zs st' => if ((acc ++ us) ++ zs).length ≤ line then R.ok (DV.D.lst ((acc ++ us) ++ zs)) st' else .bad := by
            funext us st3
            rw [noex_bind]
            congr 1
            funext zs st4
            simp [noex, R.bind]
          rw [e1] at p5
          exact p5
        · exact ⟨hlt, W, st, av, acc2, ⟨s5o.now.grow s6.gr s6.now.1, s5o.gr.trans s6.gr, s6.at_, s6.reps, s6.nF, s6.nm⟩, ((((x.trans g2.ext).trans x3).trans g4.ext).trans g5.ext).trans x6, p6⟩
  · have e1 : i = ds.length := by omega
    refine .inl ⟨J1.1 e1, ?_⟩
    subst e1
    rw [List.drop_length] at p
    exact fin W st H av acc s (by simpa [lcLoop2, noex, R.bind] using p)
theorem comp2_imp {Wx : WX'} {tg tg1 : CT} {ci cc ci1 cc1 ce : CE} {own vs1 : List Nat} {σ : L2.St} {H : Hp} {Q : V → Hp → Prop} (hin : ctIn own tg = true) (hin1 : ctIn vs1 tg1 = true) (h : tE C Wx (evE G (.comp2 tg ci cc tg1 ci1 cc1 ce own vs1)) σ H Q) :
    tLc2 (tI C Wx (evI G ci)) (tG C tg) (tT C noW (evC G cc)) (tI C noW (evI G ci1)) (tG C tg1) (tT C noW (evC G cc1)) (tE C noW (evE G ce)) own vs1 σ H Q := by
    obtain ⟨N0, W, ρ, st, n, p⟩ := h
    simp only [evE] at p
    refine ⟨N0, W, ρ, st, n, (p.bind (rel := ItOk C)).imp fun J H1 ⟨W1, ds, st1, g1, m1, hJ, p1⟩ => ?_⟩
    intro D hD
    have n1 := (n.grow g1 m1).wipe own
    refine lc_loop2 (σ0 := σ) (Wi := W1) (W1 := W1) (H1 := H1) hJ (Ext.refl W1) (LcSt.start n1 hD) rfl hin hin1 p1 fun W st H av acc s p2 => ?_
    obtain ⟨W2, g2, m2, r2⟩ := s.fin hD
    split at p2
    · exact p2 _ _ _ g2 m2 r2
    · exact p2.elim
theorem de_comp2 {tg tg1 : CT} {ci cc ci1 cc1 ce : CE} {ifs ifs1 : List Expr} {elt te ie te1 ie1 : Expr} {scope : Scope} {own : List (Str × Nat)} {vs1 : List Nat} {pos : Pos} (hc : X.calm = true) (hN : X.N.Nodup) (hi : DI C G X ci te ie) (ok : BlkOk X.N X.env.scope scope own) (hv : ∀ i ∈ vs1, i ∈ own.map (·.2))
    (hg : ∀ (s : Shared) (H : Hp) (B : Addr) (cl : List (Str × Addr)) (fp : List Addr), DG C (X.blk s H scope (compEnvC scope cl B X.env) fp) tg te)
    (ht : ∀ (s : Shared) (H : Hp) (B : Addr) (cl : List (Str × Addr)) (fp : List Addr), PTs (X.blk s H scope (compEnvC scope cl B X.env) fp) ifs (tT C noW (evC G cc)))
    (hi1 : ∀ (s : Shared) (H : Hp) (B : Addr) (cl : List (Str × Addr)) (fp : List Addr), DI C G (X.blk s H scope (compEnvC scope cl B X.env) fp) ci1 te1 ie1)
    (hg1 : ∀ (s : Shared) (H : Hp) (B : Addr) (cl : List (Str × Addr)) (fp : List Addr), DG C (X.blk s H scope (compEnvC scope cl B X.env) fp) tg1 te1)
    (ht1 : ∀ (s : Shared) (H : Hp) (B : Addr) (cl : List (Str × Addr)) (fp : List Addr), PTs (X.blk s H scope (compEnvC scope cl B X.env) fp) ifs1 (tT C noW (evC G cc1)))
    (he : ∀ (s : Shared) (H : Hp) (B : Addr) (cl : List (Str × Addr)) (fp : List Addr), DE C G (X.blk s H scope (compEnvC scope cl B X.env) fp) ce elt) (hs : ∀ x, foldedSetIterable ie X.env x = pure x) (hs1 : ∀ env x, foldedSetIterable ie1 env x = pure x)
    (hin : ctIn (own.map (·.2)) tg = true) (hin1 : ctIn vs1 tg1 = true) :
    DE C G X (.comp2 tg ci cc tg1 ci1 cc1 ce (own.map (·.2)) vs1) (.ListComp elt [⟨te, ie, ifs, 0⟩, ⟨te1, ie1, ifs1, 0⟩] scope pos) := fun Wx tk =>
  (pe_lc2 hc hN (hi Wx tk) ok hv hg ht (fun s H B cl fp => hi1 s H B cl fp noW (takes_noW _)) hg1 ht1 (fun s H B cl fp => he s H B cl fp noW (takes_noW _)) hs hs1).imp fun σ H Q h => comp2_imp hin hin1 h
theorem dts_nil : PTs X [] (tT C noW (evC G .nil)) := ⟨fun pins s σ H Q I ⟨N0, W, ρ, st, n, p⟩ => by
  simp only [evC] at p
  exact pts_nil.run pins s σ H Q I (p.okI n.1 rfl)⟩
theorem dts_one {c : CE} {e : Expr} (h : DT C G X c e) : PTs X [e] (tT C noW (evC G (.cons c .nil))) := by
  have h' := h noW (takes_noW X)
  refine pts_one ⟨fun pins s σ H Q I q => h'.run pins s σ H Q I ?_⟩
  simpa only [tT, evC] using q
/-- no set display -/
def noSet : Expr → Bool
  | .Set _ _ _ => false
  | _ => true
theorem folded_of {e : Expr} (h : noSet e = true) (env : PySem.Env) (x : Value) : foldedSetIterable e env x = pure x := by
  cases e <;> first | rfl | cases h
end
end DV
end

section
set_option linter.all false
set_option maxRecDepth 100000
set_option maxHeartbeats 1000000
/-! DV11: statements. -/
namespace DV
open PySem PySem.Spec PyProof.Rows L2
abbrev N0of (H0 : Hp) : Addr → Prop := fun a => H0 a = none
abbrev AtS (C : PC) (W0 : GW) (H0 : Hp) (W : GW) (ρ : Env) (st : St) (σ : L2.St) (H : Hp) : Prop := At C (N0of H0) W0 H0 W ρ st σ H
def PostS (C : PC) (W0 : GW) (H0 : Hp) (Wx : WX') (Wc : GW) (r : RS) (E : Ends) : Prop := match r with
  | .nx ρ st => ∀ σ' H' W', AtS C W0 H0 W' ρ st σ' H' → Ext Wc W' → E.nx σ' H'
  | .ret d st => ∀ v H' W', Grow W0 H0 W' H' → MemOk C W' st H' → RepW C W' v d → E.rt v H'
  | .brk ρ st => ∀ σ' H' W', AtS C W0 H0 W' ρ st σ' H' → Ext Wc W' → E.bk σ' H'
  | .cnt ρ st => ∀ σ' H' W', AtS C W0 H0 W' ρ st σ' H' → Ext Wc W' → E.ct σ' H'
  | .exc c ds ρ st => ∀ cls dd σ' H' W', AtS C W0 H0 W' ρ st σ' H' → Ext Wc W' → ExRep C W' cls dd c ds → Wx cls dd σ' H'
  | .bad => False
def tS (C : PC) (Wx : WX') (f : Env → St → RS) : TS := fun E σ H => ∃ W0 H0 W ρ st, AtS C W0 H0 W ρ st σ H ∧ PostS C W0 H0 Wx W (f ρ st) E
section
variable {C : PC} {X : Cx} {G : Tell} {W0 W W' : GW} {H0 H H' : Hp} {st st' : St} {ρ ρ' : Env} {σ σ' : L2.St} {Wx : WX'} {E : Ends}
def DS (C : PC) (G : Tell) (X : Cx) (c : CS) (ss : List Stmt) : Prop := ∀ Wx, Takes X Wx → PSs X ss (tS C Wx (evS G c))
def DS1 (C : PC) (G : Tell) (X : Cx) (c : CS) (s : Stmt) : Prop := ∀ Wx, Takes X Wx → PS X s (tS C Wx (evS G c))
theorem PostS.ext {Wc Wd : GW} {r : RS} (p : PostS C W0 H0 Wx Wc r E) (x : Ext Wc Wd) : PostS C W0 H0 Wx Wd r E := by
  cases r with
  | nx ρ st => exact fun σ' H' W' a e => p σ' H' W' a (x.trans e)
  | ret d st => exact p
  | brk ρ st => exact fun σ' H' W' a e => p σ' H' W' a (x.trans e)
  | cnt ρ st => exact fun σ' H' W' a e => p σ' H' W' a (x.trans e)
  | exc c ds ρ st => exact fun cls dd σ' H' W' a e => p cls dd σ' H' W' a (x.trans e)
  | bad => exact p
theorem At.grow {N0 : Addr → Prop} (a : At C N0 W0 H0 W ρ st σ H) (g : Grow W H W' H') (m : MemOk C W' st' H') : At C N0 W0 H0 W' ρ st' σ H' := ⟨a.1.trans g, a.2.grow g m⟩
/-- behind an expression -/
theorem onP {α β : Type} {rel : GW → β → α → Prop} {r : R α} {f : α → St → RS} (a : AtS C W0 H0 W ρ st σ H) (p : PostS C W0 H0 Wx W (RS.on r ρ f) E) :
    Post C rel r W H (fun b H' => ∃ W' x st', AtS C W0 H0 W' ρ st' σ H' ∧ Ext W W' ∧ Grow W H W' H' ∧ rel W' b x ∧ PostS C W0 H0 Wx W' (f x st') E) (fun cls dd H' => Wx cls dd σ H') := by
  cases r with
  | ok x st1 => exact fun b H' W' g m q => ⟨W', x, st1, a.grow g m, g.ext, g, q, PostS.ext (r := f x st1) p g.ext⟩
  | exc c ds st1 => exact fun cls dd H' W' g m q => p cls dd σ H' W' (a.grow g m) g.ext q
  | bad => exact p
theorem PostS.nxI {ρ : Env} (p : PostS C W0 H0 Wx W (.nx ρ st) E) (a : AtS C W0 H0 W ρ st σ H) : E.nx σ H := p σ H W a (Ext.refl W)
/-! ### rows of statements -/
theorem ds_nil : DS C G X .nil [] := fun Wx tk => pss_nil.imp fun E σ H ⟨W0, H0, W, ρ, st, a, p⟩ => by
  simp only [evS] at p
  exact p.nxI a
theorem ds_cons {c r : CS} {s : Stmt} {ss : List Stmt} (h1 : DS1 C G X c s) (h2 : DS C G X r ss) : DS C G X (.cons c r) (s :: ss) := fun Wx tk =>
  (pss_cons (h1 Wx tk) (h2 Wx tk)).imp fun E σ H ⟨W0, H0, W, ρ, st, a, p⟩ => by
    simp only [evS] at p
    refine ⟨W0, H0, W, ρ, st, a, ?_⟩
    cases h : evS G c ρ st with
    | nx ρ1 st1 =>
      rw [h] at p
      exact fun σ' H' W' a' x => ⟨W0, H0, W', ρ1, st1, a', PostS.ext (r := evS G r ρ1 st1) p x⟩
    | ret d st1 => rw [h] at p; exact p
    | brk _ _ => rw [h] at p; exact p
    | cnt _ _ => rw [h] at p; exact p
    | exc _ _ _ _ => rw [h] at p; exact p
    | bad => rw [h] at p; exact p
theorem Sls.map {N0 : Addr → Prop} (s : Sls C W N0 σ ρ H) (f : Nat → Nat) (inj : ∀ i j, i < ρ'.length → j < ρ'.length → f i = f j → i = j) (hl : σ'.length = ρ'.length) (h : ∀ k, k < ρ'.length → ρ'[k]? = ρ[f k]? ∧ σ'[k]? = σ[f k]?) : Sls C W N0 σ' ρ' H where
  len := hl
  val := fun i d e => by
    obtain ⟨h1, h2⟩ := h i (List.getElem?_eq_some_iff.mp e).1
    obtain ⟨v, e1, r⟩ := s.val (f i) d (h1 ▸ e)
    exact ⟨v, h2.trans e1, r⟩
  own := fun i xs e => by
    obtain ⟨h1, h2⟩ := h i (List.getElem?_eq_some_iff.mp e).1
    obtain ⟨a, vs, e1, r⟩ := s.own (f i) xs (h1 ▸ e)
    exact ⟨a, vs, h2.trans e1, r⟩
  dis := fun i j xs ys a e1 e2 e3 e4 => by
    have hi := (List.getElem?_eq_some_iff.mp e1).1
    have hj := (List.getElem?_eq_some_iff.mp e2).1
    obtain ⟨h1, h2⟩ := h i hi
    obtain ⟨h3, h4⟩ := h j hj
    exact inj i j hi hj (s.dis (f i) (f j) xs ys a (h1 ▸ e1) (h3 ▸ e2) (h2 ▸ e3) (h4 ▸ e4))
  exc := fun i e => by
    obtain ⟨h1, h2⟩ := h i (List.getElem?_eq_some_iff.mp e).1
    obtain ⟨v, e1, r⟩ := s.exc (f i) (h1 ▸ e)
    exact ⟨v, h2.trans e1, r⟩
theorem Sls.snocVal {N0 : Addr → Prop} (s : Sls C W N0 σ ρ H) {v : V} {d : D} (r : RepW C W v d) : Sls C W N0 (σ ++ [some v]) (ρ ++ [.val d]) H where
  len := by simp [s.len]
  val := fun i d' e => by
    by_cases q : i < ρ.length
    · rw [List.getElem?_append_left q] at e
      obtain ⟨u, e1, r⟩ := s.val i d' e
      exact ⟨u, by rw [List.getElem?_append_left (by rw [s.len]; exact q)]; exact e1, r⟩
    · rw [List.getElem?_append_right (by omega)] at e
      rw [List.getElem?_append_right (by rw [s.len]; omega), s.len]
      have z : i - ρ.length = 0 := by
        have := (List.getElem?_eq_some_iff.mp e).1
        simp at this; omega
      rw [z] at e ⊢
      simp at e; subst e
      exact ⟨v, rfl, r⟩
  own := fun i xs e => by
    by_cases q : i < ρ.length
    · rw [List.getElem?_append_left q] at e
      obtain ⟨u, vs, e1, r⟩ := s.own i xs e
      exact ⟨u, vs, by rw [List.getElem?_append_left (by rw [s.len]; exact q)]; exact e1, r⟩
    · rw [List.getElem?_append_right (by omega)] at e
      have z : i - ρ.length = 0 := by
        have := (List.getElem?_eq_some_iff.mp e).1
        simp at this; omega
      rw [z] at e; simp at e
  dis := fun i j xs ys a e1 e2 e3 e4 => by
    have lt : ∀ {i : Nat} {xs : List D}, (ρ ++ [Sl.val d])[i]? = some (.own xs) → i < ρ.length := fun {i xs} e => by
      by_cases q : i < ρ.length
      · exact q
      · rw [List.getElem?_append_right (by omega)] at e
        have z : i - ρ.length = 0 := by
          have := (List.getElem?_eq_some_iff.mp e).1
          simp at this; omega
        rw [z] at e; simp at e
    have hi := lt e1
    have hj := lt e2
    rw [List.getElem?_append_left hi] at e1
    rw [List.getElem?_append_left hj] at e2
    rw [List.getElem?_append_left (by rw [s.len]; exact hi)] at e3
    rw [List.getElem?_append_left (by rw [s.len]; exact hj)] at e4
    exact s.dis i j xs ys a e1 e2 e3 e4
  exc := fun i e => by
    by_cases q : i < ρ.length
    · rw [List.getElem?_append_left q] at e
      obtain ⟨u, e1, r⟩ := s.exc i e
      exact ⟨u, by rw [List.getElem?_append_left (by rw [s.len]; exact q)]; exact e1, r⟩
    · rw [List.getElem?_append_right (by omega)] at e
      have z : i - ρ.length = 0 := by
        have := (List.getElem?_eq_some_iff.mp e).1
        simp at this; omega
      rw [z] at e; simp at e
/-- a list just made, not told to what stands still -/
theorem MemOk.push {p : Addr} {o : HO} (m : MemOk C W st H) (hp : H p = none) : MemOk C W st (upd H p o) where
  sub := fun a z e => by rw [upd_ne (fun q => by rw [q] at e; have := m.sub _ _ e; rw [hp] at this; cases this)]; exact m.sub a z e
  len := m.len
  cell := fun l a xs e1 e2 => let ⟨vs, z, r⟩ := m.cell l a xs e1 e2; ⟨vs, by rw [upd_ne (fun q => by rw [q, hp] at z; cases z)]; exact z, r⟩
  nd := m.nd
  nf := m.nf
  nt := m.nt
  tab := m.tab.mono (fun b z e => by rw [upd_ne (fun q => by rw [q, hp] at e; cases e)]; exact e) fun _ _ e => e
theorem Grow.push {p : Addr} {o : HO} (W : GW) (hp : H p = none) : Grow W H W (upd H p o) where
  fr := fun _ _ e => e
  fn := fun _ _ e => .inl e
  mu := ⟨[], by simp⟩
  kp := fun a z e _ _ => by rw [upd_ne (fun q => by rw [q, hp] at e; cases e)]; exact e
  al := fun a e => by
    by_cases q : a = p
    · exact q ▸ hp
    · rw [upd_ne q] at e; exact e
theorem MemOk.fresh (m : MemOk C W st H) {p : Addr} (hp : H p = none) : W.F p = none ∧ p ∉ W.μ := by
  refine ⟨?_, fun h => ?_⟩
  · cases q : W.F p with
    | none => rfl
    | some z => rw [m.sub _ _ q] at hp; cases hp
  · obtain ⟨l, hl, e⟩ := List.getElem_of_mem h
    have e1 : W.μ[l]? = some p := by rw [List.getElem?_eq_getElem hl, e]
    have hl2 : l < st.length := m.len ▸ hl
    obtain ⟨vs, z, _⟩ := m.cell l p st[l] e1 (List.getElem?_eq_getElem hl2)
    rw [hp] at z; cases z
theorem Sls.snocOwn {N0 : Addr → Prop} (s : Sls C W N0 σ ρ H) {p : Addr} {vs : List V} {xs : List D} (r : RepsW C W vs xs) (hp : H p = none) (nF : W.F p = none) (nm : p ∉ W.μ) (n0 : N0 p) : Sls C W N0 (σ ++ [some (.ref p)]) (ρ ++ [.own xs]) (upd H p (.lst vs)) where
  len := by simp [s.len]
  val := fun i d' e => by
    by_cases q : i < ρ.length
    · rw [List.getElem?_append_left q] at e
      obtain ⟨u, e1, r⟩ := s.val i d' e
      exact ⟨u, by rw [List.getElem?_append_left (by rw [s.len]; exact q)]; exact e1, r⟩
    · rw [List.getElem?_append_right (by omega)] at e
      have z : i - ρ.length = 0 := by
        have := (List.getElem?_eq_some_iff.mp e).1
        simp at this; omega
      rw [z] at e; simp at e
  own := fun i ys e => by
    by_cases q : i < ρ.length
    · rw [List.getElem?_append_left q] at e
      obtain ⟨u, us, e1, e2, rest⟩ := s.own i ys e
      exact ⟨u, us, by rw [List.getElem?_append_left (by rw [s.len]; exact q)]; exact e1, by rw [upd_ne (fun z => by rw [z, hp] at e2; cases e2)]; exact e2, rest⟩
    · rw [List.getElem?_append_right (by omega)] at e
      rw [List.getElem?_append_right (by rw [s.len]; omega), s.len]
      have z : i - ρ.length = 0 := by
        have := (List.getElem?_eq_some_iff.mp e).1
        simp at this; omega
      rw [z] at e ⊢
      simp at e; subst e
      exact ⟨p, vs, rfl, upd_same, r, nF, nm, n0⟩
  dis := fun i j ys zs a e1 e2 e3 e4 => by
    have one : ∀ {i : Nat} {ys : List D} {a : Addr}, (ρ ++ [Sl.own xs])[i]? = some (.own ys) → (σ ++ [some (V.ref p)])[i]? = some (some (.ref a)) → (i < ρ.length ∧ ρ[i]? = some (.own ys) ∧ σ[i]? = some (some (.ref a)) ∧ a ≠ p) ∨ (i = ρ.length ∧ a = p) := fun {i ys a} e e' => by
      by_cases q : i < ρ.length
      · rw [List.getElem?_append_left q] at e
        rw [List.getElem?_append_left (by rw [s.len]; exact q)] at e'
        obtain ⟨u, us, e1, e2, rest⟩ := s.own i ys e
        rw [e'] at e1; cases e1
        exact .inl ⟨q, e, e', fun z => by rw [z, hp] at e2; cases e2⟩
      · rw [List.getElem?_append_right (by omega)] at e
        rw [List.getElem?_append_right (by rw [s.len]; omega), s.len] at e'
        have z : i - ρ.length = 0 := by
          have := (List.getElem?_eq_some_iff.mp e).1
          simp at this; omega
        rw [z] at e'
        simp at e'
        exact .inr ⟨by omega, e'.symm⟩
    rcases one e1 e3 with ⟨h1, h2, h3, h4⟩ | ⟨h1, h2⟩
    · rcases one e2 e4 with ⟨k1, k2, k3, k4⟩ | ⟨k1, k2⟩
      · exact s.dis i j ys zs a h2 k2 h3 k3
      · exact absurd k2 h4
    · rcases one e2 e4 with ⟨k1, k2, k3, k4⟩ | ⟨k1, k2⟩
      · exact absurd h2 k4
      · omega
  exc := fun i e => by
    by_cases q : i < ρ.length
    · rw [List.getElem?_append_left q] at e
      obtain ⟨u, e1, r⟩ := s.exc i e
      exact ⟨u, by rw [List.getElem?_append_left (by rw [s.len]; exact q)]; exact e1, r⟩
    · rw [List.getElem?_append_right (by omega)] at e
      have z : i - ρ.length = 0 := by
        have := (List.getElem?_eq_some_iff.mp e).1
        simp at this; omega
      rw [z] at e; simp at e
/-! ### several values at once -/
def PostO (C : PC) (N0 : Addr → Prop) (r : R (List Sl)) (W : GW) (H : Hp) (σ : L2.St) (ρ : Env) (vs0 : List V) (sl0 : List Sl) (Q : List V → Hp → Prop) (E : Value → Option Addr → Hp → Prop) : Prop := match r with
  | .ok sl st' => ∀ vs H' W', Grow W H W' H' → MemOk C W' st' H' → vs.length = sl.length → Sls C W' N0 (σ ++ (vs0 ++ vs).map some) (ρ ++ (sl0 ++ sl)) H' → Q vs H'
  | .exc c ds st' => ∀ cls dd H' W', Grow W H W' H' → MemOk C W' st' H' → ExRep C W' cls dd c ds → E cls dd H'
  | .bad => False
def tO (C : PC) (Wx : WX') (f : Env → St → R (List Sl)) : TA := fun σ H Q => ∃ N0 W ρ st vs0 sl0, MemOk C W st H ∧ Sls C W N0 (σ ++ vs0.map some) (ρ ++ sl0) H ∧ σ.length = ρ.length ∧ vs0.length = sl0.length ∧ (∀ a, H a = none → N0 a) ∧
  PostO C N0 (f ρ st) W H σ ρ vs0 sl0 Q (fun cls dd H' => Wx cls dd σ H')
def DO2 (C : PC) (G : Tell) (X : Cx) (fl : List Bool) (c : CE) (es : List Expr) : Prop := ∀ Wx, Takes X Wx → PA X es (tO C Wx (evO G fl c))
theorem Sls.pre {N0 : Addr → Prop} {σ2 : L2.St} {ρ2 : Env} (s : Sls C W N0 (σ ++ σ2) (ρ ++ ρ2) H) (hl : σ.length = ρ.length) : Sls C W N0 σ ρ H :=
  s.map id (fun _ _ _ _ h => h) hl fun k hk => ⟨(List.getElem?_append_left hk).symm, (List.getElem?_append_left (by omega)).symm⟩
theorem do2_nil : DO2 C G X [] .nil [] := fun Wx tk => pa_nil.imp fun σ H Q ⟨N0, W, ρ, st, vs0, sl0, m, s, hl, hl2, n0, p⟩ => by
  simp only [evO] at p
  exact p [] H W (Grow.refl W H) m rfl (by simpa using s)
theorem do2_val {fl : List Bool} {a r : CE} {e : Expr} {es : List Expr} (hs : notStar e = true) (h1 : DE C G X a e) (h2 : DO2 C G X fl r es) : DO2 C G X (false :: fl) (.cons a r) (e :: es) := fun Wx tk =>
  (pa_cons (h1 Wx tk) (h2 Wx tk) (starEach_of hs _ _)).imp fun σ H Q ⟨N0, W, ρ, st, vs0, sl0, m, s, hl, hl2, n0, p⟩ => by
    simp only [evO] at p
    refine ⟨N0, W, ρ, st, ⟨m, s.pre hl⟩, ?_⟩
    cases h : evE G a ρ st with
    | bad => rw [h] at p; exact p.elim
    | exc c ds st1 => rw [h] at p; exact p
    | ok d st1 =>
      rw [h] at p
      intro v H1 W1 g1 m1 r1
      have s1 := (s.grow g1).snocVal r1
      refine ⟨N0, W1, ρ, st1, vs0 ++ [v], sl0 ++ [.val d], m1, by simpa [List.append_assoc] using s1, hl, by simp [hl2], fun a e => n0 a (g1.al a e), ?_⟩
      have p1 : PostO C N0 ((evO G fl r ρ st1).bind fun xs st => R.ok (Sl.val d :: xs) st) W H σ ρ vs0 sl0 Q (fun cls dd H' => Wx cls dd σ H') := p
      cases h2 : evO G fl r ρ st1 with
      | bad => rw [h2] at p1; exact p1.elim
      | exc c ds st2 => rw [h2] at p1; exact fun cls dd H' W' g m q => p1 cls dd H' W' (g1.trans g) m q
      | ok sl st2 =>
        rw [h2] at p1
        exact fun vs H' W' g m q s' => p1 (v :: vs) H' W' (g1.trans g) m (by simp [q]) (by simpa [List.append_assoc] using s')
theorem do2_own {fl : List Bool} {c r : CE} {xs : List Expr} {pos : Pos} {es : List Expr} (h1 : DA C G X c xs) (h2 : DO2 C G X fl r es) : DO2 C G X (true :: fl) (.cons (.lst c) r) (.List xs pos :: es) := fun Wx tk =>
  (pa_cons (pe_lst (h1 Wx tk)) (h2 Wx tk) rfl).imp fun σ H Q ⟨N0, W, ρ, st, vs0, sl0, m, s, hl, hl2, n0, p⟩ => by
    simp only [evO] at p
    refine ⟨N0, W, ρ, st, ⟨m, s.pre hl⟩, ?_⟩
    cases h : evA G c ρ st with
    | bad => rw [h] at p; exact p.elim
    | exc c ds st1 => rw [h] at p; exact p
    | ok ds st1 =>
      rw [h] at p
      intro vs H1 W1 g1 m1 r1
      have p1 : PostO C N0 (if ds.length ≤ line then (evO G fl r ρ st1).bind fun xs st => R.ok (Sl.own ds :: xs) st else .bad) W H σ ρ vs0 sl0 Q (fun cls dd H' => Wx cls dd σ H') := p
      split at p1
      · rename_i hz
        refine ⟨by rw [r1.length, ← line_eq]; exact hz, fun q hq => ?_⟩
        obtain ⟨nF, nm⟩ := m1.fresh hq
        have s1 := (s.grow g1).snocOwn r1 hq nF nm (n0 q (g1.al q hq))
        have g2 : Grow W H W1 (upd H1 q (.lst vs)) := g1.trans (Grow.push W1 hq)
        refine ⟨N0, W1, ρ, st1, vs0 ++ [.ref q], sl0 ++ [.own ds], m1.push hq, by simpa [List.append_assoc] using s1, hl, by simp [hl2], fun a e => n0 a (g2.al a e), ?_⟩
        cases h2 : evO G fl r ρ st1 with
        | bad => rw [h2] at p1; exact p1.elim
        | exc c ds st2 => rw [h2] at p1; exact fun cls dd H' W' g m q => p1 cls dd H' W' (g2.trans g) m q
        | ok sl st2 =>
          rw [h2] at p1
          exact fun us H' W' g m q' s' => p1 (.ref q :: us) H' W' (g2.trans g) m (by simp [q']) (by simpa [List.append_assoc] using s')
      · exact p1.elim
/-- the values go to their slots -/
def setVs (σ : L2.St) : List Nat → List V → L2.St
  | i :: is, v :: vs => setVs (σ.set i (some v)) is vs
  | _, _ => σ
theorem unp {α : Type} (l r : List α) (x : α) (i k : Nat) (hi : i < l.length) : (l.set i x ++ r)[k]? = (l ++ x :: r)[if k = i then l.length else if k < l.length then k else k + 1]? := by
  have hs : (l.set i x).length = l.length := List.length_set ..
  by_cases q : k = i
  · subst q
    rw [if_pos rfl, List.getElem?_append_left (by rw [hs]; exact hi), List.getElem?_append_right (Nat.le_refl _), Nat.sub_self, List.getElem?_set_self hi]; rfl
  · rw [if_neg q]
    by_cases q2 : k < l.length
    · rw [if_pos q2, List.getElem?_append_left (by rw [hs]; exact q2), List.getElem?_append_left q2, List.getElem?_set_ne (Ne.symm q)]
    · rw [if_neg q2, List.getElem?_append_right (by rw [hs]; omega), List.getElem?_append_right (by omega), hs]
      have e1 : k + 1 - l.length = (k - l.length) + 1 := by omega
      rw [e1, List.getElem?_cons_succ]
theorem Sls.unpend {N0 : Addr → Prop} {i : Nat} {v : Option V} {x : Sl} {vs : L2.St} {sl : Env} (s : Sls C W N0 (σ ++ v :: vs) (ρ ++ x :: sl) H) (hl : σ.length = ρ.length) (hi : i < ρ.length) : Sls C W N0 (σ.set i v ++ vs) (ρ.set i x ++ sl) H := by
  have hv : vs.length = sl.length := by have := s.len; simp at this; omega
  refine s.map (fun k => if k = i then ρ.length else if k < ρ.length then k else k + 1) (fun a b ha hb h => ?_) (by simp [hl, hv]) fun k hk => ⟨unp ρ sl x i k hi, ?_⟩
  · have h' : (if a = i then ρ.length else if a < ρ.length then a else a + 1) = if b = i then ρ.length else if b < ρ.length then b else b + 1 := h
    by_cases q1 : a = i <;> by_cases q2 : b = i <;> by_cases q3 : a < ρ.length <;> by_cases q4 : b < ρ.length <;> simp only [q1, q2, q3, q4, if_true, if_false] at h' <;> omega
  · show _ = (σ ++ v :: vs)[if k = i then ρ.length else if k < ρ.length then k else k + 1]?
    have := unp σ vs v i k (by rw [hl]; exact hi)
    rw [hl] at this; exact this
theorem Sls.fill {N0 : Addr → Prop} : ∀ (is : List Nat) {σ : L2.St} {ρ : Env} {vs : List V} {sl : List Sl}, Sls C W N0 (σ ++ vs.map some) (ρ ++ sl) H → σ.length = ρ.length → vs.length = is.length → sl.length = is.length → (∀ i ∈ is, i < ρ.length) → Sls C W N0 (setVs σ is vs) (setSls ρ is sl) H
  | [], σ, ρ, vs, sl, s, hl, h1, h2, _ => by
    cases vs <;> cases sl <;> simp at h1 h2
    simpa [setVs, setSls] using s
  | i :: is, σ, ρ, [], sl, s, hl, h1, h2, _ => by simp at h1
  | i :: is, σ, ρ, v :: vs, [], s, hl, h1, h2, _ => by simp at h2
  | i :: is, σ, ρ, v :: vs, x :: sl, s, hl, h1, h2, hi => by
    have s' := Sls.unpend (vs := vs.map some) (by simpa using s) hl (hi i (List.mem_cons_self ..))
    exact Sls.fill is s' (by simp [hl]) (by simpa using h1) (by simpa using h2) (fun j hj => by simpa using hi j (List.mem_cons_of_mem _ hj))
end
end DV
end

section
set_option linter.all false
set_option maxRecDepth 100000
set_option maxHeartbeats 1000000
/-! DV12: statements, one by one. -/
namespace DV
open PySem PySem.Spec PyProof.Rows L2
section
variable {C : PC} {X : Cx} {G : Tell} {W0 W W' : GW} {H0 H H' : Hp} {st st' : St} {ρ ρ' : Env} {σ σ' : L2.St} {Wx : WX'} {E : Ends}
/-- no comprehension -/
def notComp : Expr → Bool
  | .ListComp _ _ _ _ => false | .SetComp _ _ _ _ => false | .DictComp _ _ _ _ _ => false
  | _ => true
theorem sw_false {e : Expr} (h : notComp e = true) (t : Option Expr) (l : Nat) (env : PySem.Env) : swapsWith e t l env = pure false := by
  cases e <;> first | rfl | cases h
theorem ds_pass {pos : Pos} : DS1 C G X .pass (.Pass pos) := fun Wx tk => ps_pass.imp fun E σ H ⟨W0, H0, W, ρ, st, a, p⟩ => by
  simp only [evS] at p
  exact p.nxI a
theorem ds_brk {pos : Pos} : DS1 C G X .brk (.Break pos) := fun Wx tk => ps_break.imp fun E σ H ⟨W0, H0, W, ρ, st, a, p⟩ => by
  simp only [evS] at p
  exact p σ H W a (Ext.refl W)
theorem ds_cnt {pos : Pos} : DS1 C G X .cnt (.Continue pos) := fun Wx tk => ps_continue.imp fun E σ H ⟨W0, H0, W, ρ, st, a, p⟩ => by
  simp only [evS] at p
  exact p σ H W a (Ext.refl W)
theorem ds_never {s : Stmt} : DS1 C G X .never s := fun Wx tk => ps_never.imp fun E σ H ⟨W0, H0, W, ρ, st, a, p⟩ => by
  simp only [evS] at p
  exact p
theorem ds_frz {i : Nat} {r : CS} {ss : List Stmt} (h : DS C G X r ss) : DS C G X (.cons (.frz i) r) ss := fun Wx tk => (h Wx tk).imp fun E σ H ⟨W0, H0, W, ρ, st, a, p⟩ => by
  simp only [evS] at p
  cases hi : ρ[i]? with
  | none => rw [hi] at p; exact p.elim
  | some x =>
    rw [hi] at p
    cases x with
    | no => exact p.elim
    | val d => exact p.elim
    | exc => exact p.elim
    | own xs =>
      have p1 : PostS C W0 H0 Wx W (evS G r (ρ.set i (.val (.lst xs))) st) E := p
      obtain ⟨b, vs, e1, e2, rr, nF, nm, n0⟩ := a.2.2.own i xs hi
      have fr : ∀ c o, W.F c = some o → upd W.F b (.lst vs) c = some o := fun c o e => by
        rw [upd_ne (fun q => by rw [q, nF] at e; cases e)]; exact e
      have x1 : Ext W ⟨upd W.F b (.lst vs), W.μ⟩ := ⟨fr, [], by simp⟩
      have hil : i < σ.length := (List.getElem?_eq_some_iff.mp e1).1
      have hs : σ.set i (some (.ref b)) = σ := by
        apply List.ext_getElem?
        intro k
        by_cases q : i = k
        · subst q; rw [List.getElem?_set_self hil, e1]
        · rw [List.getElem?_set_ne q]
      have m := a.2.1
      refine ⟨W0, H0, ⟨upd W.F b (.lst vs), W.μ⟩, ρ.set i (.val (.lst xs)), st, ⟨⟨fun c o e => fr c o (a.1.fr c o e), fun c o e => ?_, a.1.mu, a.1.kp, a.1.al⟩, ⟨fun c o e => ?_, m.len, fun l c ys e3 e4 => ?_, m.nd, fun c hc => ?_, fun c ps e => ?_, m.tab.mono (fun _ _ e => e) fr⟩, ?_⟩, PostS.ext (r := evS G r (ρ.set i (.val (.lst xs))) st) p1 x1⟩
      · have e' : upd W.F b (.lst vs) c = some o := e
        by_cases q : c = b
        · subst q; exact .inr n0
        · rw [upd_ne q] at e'; exact a.1.fn c o e'
      · have e' : upd W.F b (.lst vs) c = some o := e
        by_cases q : c = b
        · subst q; rw [upd_same] at e'; cases e'; exact e2
        · rw [upd_ne q] at e'; exact m.sub c o e'
      · obtain ⟨us, z, r⟩ := m.cell l c ys e3 e4
        exact ⟨us, z, x1.reps r⟩
      · show upd W.F b (.lst vs) c = none
        rw [upd_ne (fun q => nm (by rw [← q]; exact hc))]; exact m.nf c hc
      · have e' : upd W.F b (.lst vs) c = some (.tbl ps) := e
        by_cases q : c = b
        · subst q; rw [upd_same] at e'; cases e'
        · rw [upd_ne q] at e'; exact m.nt c ps e'
      · -- the slots: all others' own lists stand elsewhere
        have s := a.2.2
        refine ⟨by simp [s.len], fun j d e => ?_, fun j ys e => ?_, fun j k ys zs c f1 f2 f3 f4 => ?_, fun j e => ?_⟩
        · by_cases q : i = j
          · subst q
            rw [List.getElem?_set_self (by rw [← s.len]; exact hil)] at e
            cases e
            exact ⟨.ref b, e1, .lst upd_same (x1.reps rr)⟩
          · rw [List.getElem?_set_ne q] at e
            obtain ⟨v, g1, g2⟩ := s.val j d e
            exact ⟨v, g1, x1.rep g2⟩
        · have q : i ≠ j := fun q => by
            subst q
            rw [List.getElem?_set_self (by rw [← s.len]; exact hil)] at e
            cases e
          rw [List.getElem?_set_ne q] at e
          obtain ⟨c, us, g1, g2, g3, g4, g5, g6⟩ := s.own j ys e
          refine ⟨c, us, g1, g2, x1.reps g3, ?_, g5, g6⟩
          show upd W.F b (.lst vs) c = none
          rw [upd_ne (fun z => q (s.dis i j xs ys b hi e e1 (by rw [← z]; exact g1)))]; exact g4
        · have q1 : i ≠ j := fun q => by
            subst q
            rw [List.getElem?_set_self (by rw [← s.len]; exact hil)] at f1
            cases f1
          have q2 : i ≠ k := fun q => by
            subst q
            rw [List.getElem?_set_self (by rw [← s.len]; exact hil)] at f2
            cases f2
          rw [List.getElem?_set_ne q1] at f1
          rw [List.getElem?_set_ne q2] at f2
          exact s.dis j k ys zs c f1 f2 f3 f4
        · have q : i ≠ j := fun q => by
            subst q
            rw [List.getElem?_set_self (by rw [← s.len]; exact hil)] at e
            cases e
          rw [List.getElem?_set_ne q] at e
          obtain ⟨v, g1, g2⟩ := s.exc j e
          exact ⟨v, g1, g2.step fr fun v d r => x1.rep r⟩
theorem ds_expr {c : CE} {e : Expr} {pos : Pos} (hn : notComp e = true) (h : DE C G X c e) : DS1 C G X (.expr c) (.Expr e pos) := fun Wx tk =>
  (ps_expr (h Wx tk) (sw_false hn _ _ _)).imp fun E σ H ⟨W0, H0, W, ρ, st, a, p⟩ => by
    simp only [evS] at p
    refine ⟨_, W, ρ, st, a.2, (onP a p).imp fun v H1 ⟨W1, x, st1, a1, x1, g1, r1, p1⟩ => p1.nxI a1⟩
theorem ds_ret {c : CE} {e : Expr} {pos : Pos} (h : DE C G X c e) : DS1 C G X (.ret c) (.Return (some e) pos) := fun Wx tk =>
  (ps_ret (h Wx tk)).imp fun E σ H ⟨W0, H0, W, ρ, st, a, p⟩ => by
    simp only [evS] at p
    exact ⟨_, W, ρ, st, a.2, (onP a p).imp fun v H1 ⟨W1, x, st1, a1, x1, g1, r1, p1⟩ => p1 v H1 W1 a1.1 a1.2.1 r1⟩
theorem ds_ret0 {pos : Pos} : DS1 C G X .ret0 (.Return none pos) := fun Wx tk =>
  ps_retN.imp fun E σ H ⟨W0, H0, W, ρ, st, a, p⟩ => by
    simp only [evS] at p
    exact p _ H W a.1 a.2.1 .non
/-- a value goes to a name -/
theorem asg_go {i : Nat} {c : CE} {te : TE} (ht : ∀ σ H Q, tE C Wx (evE G c) σ H Q → te σ H Q) : ∀ E σ H, tS C Wx (evS G (.asg i c)) E σ H → tAsg te (gName i) E σ H := fun E σ H ⟨W0, H0, W, ρ, st, a, p⟩ => by
  simp only [evS] at p
  refine ht σ H _ ⟨_, W, ρ, st, a.2, (onP a p).imp fun v H1 ⟨W1, x, st1, a1, x1, g1, r1, p1⟩ => ?_⟩
  exact p1 _ H1 W1 ⟨a1.1, a1.2.setVal i r1⟩ (Ext.refl W1)
theorem ds_asg {i : Nat} {x : Str} {c : CE} {e : Expr} {px pos : Pos} (hN : X.N.Nodup) (hi : X.N[i]? = some x) (hx : Loc X.env.scope x) (hf : X.fn x = true ∨ X.env.scope.names.lookup x = some .local) (hs : swapsWith e (some (.Name x px)) pos.line X.env = pure false) (h : DE C G X c e) :
    DS1 C G X (.asg i c) (.Assign [.Name x px] e pos) := fun Wx tk => (ps_set hN hi hx (h Wx tk) hs hf).imp (asg_go fun _ _ _ h => h)
theorem ds_asgLc {i : Nat} {y : Str} {py : Pos} {tg : CT} {ci cc ce : CE} {ifs : List Expr} {elt te ie : Expr} {scope : Scope} {own : List (Str × Nat)} {pos spos : Pos} (hc : X.calm = true) (hN : X.N.Nodup) (hy : X.N[i]? = some y) (hyl : X.env.scope.names.lookup y = some .local)
    (hsw : swapsWith (.ListComp elt [⟨te, ie, ifs, 0⟩] scope pos) (some (.Name y py)) spos.line X.env = pure true) (hi : DI C G X ci te ie) (ok : BlkOk X.N X.env.scope scope own)
    (hg : ∀ (s : Shared) (H : Hp) (B : Addr) (cl : List (Str × Addr)) (fp : List Addr), DG C (X.blk s H scope (compEnvC scope cl B X.env) fp) tg te)
    (ht : ∀ (s : Shared) (H : Hp) (B : Addr) (cl : List (Str × Addr)) (fp : List Addr), PTs (X.blk s H scope (compEnvC scope cl B X.env) fp) ifs (tT C noW (evC G cc)))
    (he : ∀ (s : Shared) (H : Hp) (B : Addr) (cl : List (Str × Addr)) (fp : List Addr), DE C G (X.blk s H scope (compEnvC scope cl B X.env) fp) ce elt) (hs : ∀ x, foldedSetIterable ie X.env x = pure x) (hin : ctIn (own.map (·.2)) tg = true) :
    DS1 C G X (.asg i (.comp tg ci cc ce (own.map (·.2)))) (.Assign [.Name y py] (.ListComp elt [⟨te, ie, ifs, 0⟩] scope pos) spos) := fun Wx tk =>
  (ps_setLc hc hN hy hyl hsw (hi Wx tk) ok hg ht (fun s H B cl fp => he s H B cl fp noW (takes_noW _)) hs).imp (asg_go fun _ _ _ h => comp_imp hin h)
theorem ds_asgLc2 {i : Nat} {y : Str} {py : Pos} {tg tg1 : CT} {ci cc ci1 cc1 ce : CE} {ifs ifs1 : List Expr} {elt te ie te1 ie1 : Expr} {scope : Scope} {own : List (Str × Nat)} {vs1 : List Nat} {pos spos : Pos} (hc : X.calm = true) (hN : X.N.Nodup) (hy : X.N[i]? = some y) (hyl : X.env.scope.names.lookup y = some .local)
    (hsw : swapsWith (.ListComp elt [⟨te, ie, ifs, 0⟩, ⟨te1, ie1, ifs1, 0⟩] scope pos) (some (.Name y py)) spos.line X.env = pure true) (hi : DI C G X ci te ie) (ok : BlkOk X.N X.env.scope scope own) (hv : ∀ i ∈ vs1, i ∈ own.map (·.2))
    (hg : ∀ (s : Shared) (H : Hp) (B : Addr) (cl : List (Str × Addr)) (fp : List Addr), DG C (X.blk s H scope (compEnvC scope cl B X.env) fp) tg te)
    (ht : ∀ (s : Shared) (H : Hp) (B : Addr) (cl : List (Str × Addr)) (fp : List Addr), PTs (X.blk s H scope (compEnvC scope cl B X.env) fp) ifs (tT C noW (evC G cc)))
    (hi1 : ∀ (s : Shared) (H : Hp) (B : Addr) (cl : List (Str × Addr)) (fp : List Addr), DI C G (X.blk s H scope (compEnvC scope cl B X.env) fp) ci1 te1 ie1)
    (hg1 : ∀ (s : Shared) (H : Hp) (B : Addr) (cl : List (Str × Addr)) (fp : List Addr), DG C (X.blk s H scope (compEnvC scope cl B X.env) fp) tg1 te1)
    (ht1 : ∀ (s : Shared) (H : Hp) (B : Addr) (cl : List (Str × Addr)) (fp : List Addr), PTs (X.blk s H scope (compEnvC scope cl B X.env) fp) ifs1 (tT C noW (evC G cc1)))
    (he : ∀ (s : Shared) (H : Hp) (B : Addr) (cl : List (Str × Addr)) (fp : List Addr), DE C G (X.blk s H scope (compEnvC scope cl B X.env) fp) ce elt) (hs : ∀ x, foldedSetIterable ie X.env x = pure x) (hs1 : ∀ env x, foldedSetIterable ie1 env x = pure x)
    (hin : ctIn (own.map (·.2)) tg = true) (hin1 : ctIn vs1 tg1 = true) :
    DS1 C G X (.asg i (.comp2 tg ci cc tg1 ci1 cc1 ce (own.map (·.2)) vs1)) (.Assign [.Name y py] (.ListComp elt [⟨te, ie, ifs, 0⟩, ⟨te1, ie1, ifs1, 0⟩] scope pos) spos) := fun Wx tk =>
  (ps_setLc2 hc hN hy hyl hsw (hi Wx tk) ok hv hg ht (fun s H B cl fp => hi1 s H B cl fp noW (takes_noW _)) hg1 ht1 (fun s H B cl fp => he s H B cl fp noW (takes_noW _)) hs hs1).imp (asg_go fun _ _ _ h => comp2_imp hin hin1 h)
/-! ### several at once -/
theorem onO {fl : List Bool} {ce : CE} {f : List Sl → St → RS} (a : AtS C W0 H0 W ρ st σ H) (p : PostS C W0 H0 Wx W (RS.on (evO G fl ce ρ st) ρ f) E) :
    PostO C (N0of H0) (evO G fl ce ρ st) W H σ ρ [] [] (fun vs H' => ∃ W' sl st', Grow W0 H0 W' H' ∧ MemOk C W' st' H' ∧ vs.length = sl.length ∧ Sls C W' (N0of H0) (σ ++ vs.map some) (ρ ++ sl) H' ∧ PostS C W0 H0 Wx W' (f sl st') E) (fun cls dd H' => Wx cls dd σ H') := by
  cases h : evO G fl ce ρ st with
  | ok sl st1 =>
    rw [h] at p
    exact fun vs H' W' g m hl s => ⟨W', sl, st1, a.1.trans g, m, hl, by simpa using s, PostS.ext (r := f sl st1) p g.ext⟩
  | exc c ds st1 =>
    rw [h] at p
    exact fun cls dd H' W' g m q => p cls dd σ H' W' (a.grow g m) g.ext q
  | bad => rw [h] at p; exact p
theorem tO_of {fl : List Bool} {ce : CE} {Q : List V → Hp → Prop} (a : AtS C W0 H0 W ρ st σ H) (p : PostO C (N0of H0) (evO G fl ce ρ st) W H σ ρ [] [] Q (fun cls dd H' => Wx cls dd σ H')) : tO C Wx (evO G fl ce) σ H Q :=
  ⟨N0of H0, W, ρ, st, [], [], a.2.1, by simpa using a.2.2, a.2.2.len, rfl, fun b e => a.1.al b e, p⟩
theorem ds_par2 {i j : Nat} {x y : Str} {a b : Expr} {fl : List Bool} {c : CE} {px py pt pos : Pos} {kt k2 pt2} (hc : X.calm = true) (hN : X.N.Nodup) (hi : X.N[i]? = some x) (hj : X.N[j]? = some y) (hij : i ≠ j)
    (hx : X.env.scope.names.lookup x = some .local) (hy : X.env.scope.names.lookup y = some .local) (hw : swappedStores [.Tuple [.Name x px, .Name y py] kt pt] (.Tuple [a, b] k2 pt2) X.env = pure (some [x, y])) (h : DO2 C G X fl c [a, b]) :
    DS1 C G X (.par [i, j] fl c) (.Assign [.Tuple [.Name x px, .Name y py] kt pt] (.Tuple [a, b] k2 pt2) pos) := fun Wx tk => by
  refine ⟨fun pins s σ H E I ⟨W0, H0, W, ρ, st, at0, p⟩ => ?_⟩
  refine (ps_par (pos := pos) hc hN hi hj hij hx hy (h Wx tk) hw rfl).run pins s σ H E I ?_
  simp only [evS] at p
  have hl1 : i < ρ.length := by rw [← at0.2.2.len, I.len]; exact (List.getElem?_eq_some_iff.mp hi).1
  have hl2 : j < ρ.length := by rw [← at0.2.2.len, I.len]; exact (List.getElem?_eq_some_iff.mp hj).1
  have q := onO at0 p
  refine tO_of at0 ?_
  cases e : evO G fl c ρ st with
  | exc _ _ _ => rw [e] at q; exact q
  | bad => rw [e] at q; exact q
  | ok sl st1 =>
    rw [e] at q
    intro vs H' W' g m hvl s'
    obtain ⟨W2, sl2, st2, g2, m2, hl, s2, p2⟩ := q vs H' W' g m hvl s'
    split at p2
    · rename_i hn
      have hv2 : vs.length = 2 := by rw [hl, hn]; rfl
      match vs, hv2 with
      | [v, w], _ =>
        refine ⟨v, w, rfl, ?_⟩
        exact p2 _ H' W2 ⟨g2, m2, s2.fill [i, j] at0.2.2.len rfl hn (by simp [hl1, hl2])⟩ (Ext.refl W2)
    · exact p2.elim
theorem ds_par3 {i j l : Nat} {x y z : Str} {a b d : Expr} {fl : List Bool} {c : CE} {px py pz pt pos : Pos} {kt k2 pt2} (hc : X.calm = true) (hN : X.N.Nodup) (hi : X.N[i]? = some x) (hj : X.N[j]? = some y) (hk : X.N[l]? = some z) (hij : i ≠ j) (hil : i ≠ l) (hjl : j ≠ l)
    (hx : X.env.scope.names.lookup x = some .local) (hy : X.env.scope.names.lookup y = some .local) (hz : X.env.scope.names.lookup z = some .local) (hw : swappedStores [.Tuple [.Name x px, .Name y py, .Name z pz] kt pt] (.Tuple [a, b, d] k2 pt2) X.env = pure (some [x, y, z])) (h : DO2 C G X fl c [a, b, d]) :
    DS1 C G X (.par [i, j, l] fl c) (.Assign [.Tuple [.Name x px, .Name y py, .Name z pz] kt pt] (.Tuple [a, b, d] k2 pt2) pos) := fun Wx tk => by
  refine ⟨fun pins s σ H E I ⟨W0, H0, W, ρ, st, at0, p⟩ => ?_⟩
  refine (ps_par3 (pos := pos) hc hN hi hj hk hij hil hjl hx hy hz (h Wx tk) hw rfl).run pins s σ H E I ?_
  simp only [evS] at p
  have hl1 : i < ρ.length := by rw [← at0.2.2.len, I.len]; exact (List.getElem?_eq_some_iff.mp hi).1
  have hl2 : j < ρ.length := by rw [← at0.2.2.len, I.len]; exact (List.getElem?_eq_some_iff.mp hj).1
  have hl3 : l < ρ.length := by rw [← at0.2.2.len, I.len]; exact (List.getElem?_eq_some_iff.mp hk).1
  have q := onO at0 p
  refine tO_of at0 ?_
  cases e : evO G fl c ρ st with
  | exc _ _ _ => rw [e] at q; exact q
  | bad => rw [e] at q; exact q
  | ok sl st1 =>
    rw [e] at q
    intro vs H' W' g m hvl s'
    obtain ⟨W2, sl2, st2, g2, m2, hl, s2, p2⟩ := q vs H' W' g m hvl s'
    split at p2
    · rename_i hn
      have hv2 : vs.length = 3 := by rw [hl, hn]; rfl
      match vs, hv2 with
      | [u, v, w], _ =>
        refine ⟨u, v, w, rfl, ?_⟩
        exact p2 _ H' W2 ⟨g2, m2, s2.fill [i, j, l] at0.2.2.len rfl hn (by simp [hl1, hl2, hl3])⟩ (Ext.refl W2)
    · exact p2.elim
/-- name = [..], a list of the block's own -/
theorem ds_own {i : Nat} {x : Str} {c : CE} {es : List Expr} {px pe pos : Pos} (hN : X.N.Nodup) (hi : X.N[i]? = some x) (hx : Loc X.env.scope x) (hf : X.fn x = true ∨ X.env.scope.names.lookup x = some .local) (h : DA C G X c es) :
    DS1 C G X (.par [i] [true] (.cons (.lst c) .nil)) (.Assign [.Name x px] (.List es pe) pos) := fun Wx tk => by
  refine ⟨fun pins s σ H E I ⟨W0, H0, W, ρ, st, at0, p⟩ => ?_⟩
  refine (ps_set (pos := pos) hN hi hx (pe_lst (h Wx tk)) (sw_false rfl _ _ _) hf).run pins s σ H E I ?_
  simp only [evS] at p
  have hl1 : i < ρ.length := by rw [← at0.2.2.len, I.len]; exact (List.getElem?_eq_some_iff.mp hi).1
  have q := onO at0 p
  simp only [evO] at q
  refine ⟨_, W, ρ, st, at0.2, ?_⟩
  cases e : evA G c ρ st with
  | exc _ _ _ => rw [e] at q; exact q
  | bad => rw [e] at q; exact q
  | ok ds st1 =>
    rw [e] at q
    intro vs H1 W1 g1 m1 r1
    have q1 : PostO C (N0of H0) (if ds.length ≤ line then R.ok [Sl.own ds] st1 else .bad) W H σ ρ [] [] _ _ := q
    split at q1
    · rename_i hz
      refine ⟨by rw [r1.length, ← line_eq]; exact hz, fun b hb => ?_⟩
      obtain ⟨nF, nm⟩ := m1.fresh hb
      have s1 := (at0.2.2.grow g1).snocOwn r1 hb nF nm (at0.1.al _ (g1.al _ hb))
      obtain ⟨W2, sl2, st2, g2, m2, hl, s2, p2⟩ := q1 [.ref b] _ W1 (g1.trans (Grow.push W1 hb)) (m1.push hb) rfl (by simpa using s1)
      split at p2
      · rename_i hn
        exact p2 _ _ W2 ⟨g2, m2, s2.fill [i] at0.2.2.len rfl hn (by simp [hl1])⟩ (Ext.refl W2)
      · exact p2.elim
    · exact q1.elim
end
end DV
end

section
set_option linter.all false
set_option maxRecDepth 100000
set_option maxHeartbeats 1000000
/-! DV13: more statements: targets, stores, append, branches, loops. -/
namespace DV
open PySem PySem.Spec PyProof.Rows L2
section
variable {C : PC} {X : Cx} {G : Tell} {W0 W W' : GW} {H0 H H' : Hp} {st st' : St} {ρ ρ' : Env} {σ σ' : L2.St} {Wx : WX'} {E : Ends}
def notName : Expr → Bool
  | .Name _ _ => false
  | _ => true
def notTup : Expr → Bool
  | .Tuple _ _ _ => false
  | _ => true
theorem sws_false {t e : Expr} (h : notName t = true) (l : Nat) (env : PySem.Env) : swapsWithSole [t] e l env = pure false := by
  cases t <;> first | (cases h; done) | (cases e <;> rfl)
theorem swp_none {t e : Expr} (h : notTup e = true ∨ (notTup t = true ∧ ∀ es p, t ≠ .List es p)) (env : PySem.Env) : swappedStores [t] e env = pure none := by
  rcases h with h | ⟨h, h2⟩
  · cases e <;> first | (cases h; done) | (cases t <;> rfl)
  · cases t <;> first | (cases h; done) | (exact absurd rfl (h2 _ _)) | (cases e <;> rfl)
theorem ds_asgt {t : CT} {tg : Expr} {c : CE} {e : Expr} {pos : Pos} (hn : notName tg = true) (hst : notStar tg = true) (hw : swappedStores [tg] e X.env = pure none) (hg : DG C X t tg) (h : DE C G X c e) : DS1 C G X (.asgt t c) (.Assign [tg] e pos) := fun Wx tk =>
  (ps_asg (h Wx tk) hg (sws_false hn _ _) hw (by rw [assignEach_of hst]; rfl)).imp fun E σ H ⟨W0, H0, W, ρ, st, a, p⟩ => by
    simp only [evS] at p
    refine ⟨_, W, ρ, st, a.2, (onP a p).imp fun v H1 ⟨W1, x, st1, a1, x1, g1, r1, p1⟩ => ?_⟩
    cases ht : asgT t x ρ st1 with
    | none => rw [ht] at p1; exact p1.elim
    | some q =>
      obtain ⟨ρ2, st2⟩ := q
      rw [ht] at p1
      exact ⟨_, W0, H0, W1, ρ, st1, x, ρ2, st2, a1, r1, ht, fun σ2 H2 W2 a2 _ _ x2 => p1 σ2 H2 W2 a2 x2⟩
theorem assign_ix {o i : Expr} (h : notSlice i = true) (pos : Pos) (env : PySem.Env) (v : Value) : assign (.Subscript o i pos) env v = (do
      let ov ← holding [v] (eval o env)
      let iv ← holding [v, ov] (eval i env)
      standAt pos
      holding [v, ov, iv] (setItem ov iv v)
      release [v, ov, iv] []) := by
  cases i <;> first | rfl | cases h
theorem intRep {W : GW} {v : V} {j : Int} (r : RepW C W v (.int j)) : v = .int j := by cases r; rfl
theorem refRep {W : GW} {v : V} {l : Nat} (r : RepW C W v (.ref l)) : ∃ a, v = .ref a ∧ W.μ[l]? = some a := by
  cases r
  exact ⟨_, rfl, by assumption⟩
theorem sets_inv {Wc : GW} {x y z : D} (p : PostS C W0 H0 Wx Wc (match y, z with
      | .ref l, .int j => (match putSt st l j x with
        | some st' => RS.nx ρ st'
        | none => .bad)
      | _, _ => .bad) E) : ∃ l j st', y = .ref l ∧ z = .int j ∧ putSt st l j x = some st' ∧ PostS C W0 H0 Wx Wc (.nx ρ st') E := by
  cases y <;> try exact p.elim
  rename_i l
  cases z <;> try exact p.elim
  rename_i j
  have p4 : PostS C W0 H0 Wx Wc (match putSt st l j x with | some st' => .nx ρ st' | none => .bad) E := p
  cases hp : putSt st l j x with
  | none => rw [hp] at p4; exact p4.elim
  | some st4 =>
    rw [hp] at p4
    exact ⟨l, j, st4, rfl, rfl, hp, p4⟩
theorem ds_sets {co ci c : CE} {o i e : Expr} {tpos pos : Pos} (hns : notSlice i = true) (ho : DE C G X co o) (hi : DE C G X ci i) (h : DE C G X c e) : DS1 C G X (.sets co ci c) (.Assign [.Subscript o i tpos] e pos) := fun Wx tk =>
  (ps_asg (h Wx tk) (pg_sub (ho Wx tk) (hi Wx tk) set_list (assign_ix hns _ _)) (sws_false rfl _ _) (swp_none (.inr ⟨rfl, fun _ _ z => by cases z⟩) _) rfl).imp fun E σ H ⟨W0, H0, W, ρ, st, a, p⟩ => by
    simp only [evS] at p
    refine ⟨_, W, ρ, st, a.2, (onP a p).imp fun v H1 ⟨W1, x, st1, a1, x1, g1, r1, p1⟩ => ?_⟩
    refine ⟨_, W1, ρ, st1, a1.2, (onP a1 p1).imp fun u H2 ⟨W2, y, st2, a2, x2, g2, r2, p2⟩ => ?_⟩
    refine ⟨_, W2, ρ, st2, a2.2, (onP a2 p2).imp fun w H3 ⟨W3, z, st3, a3, x3, g3, r3, p3⟩ => ?_⟩
    obtain ⟨l, j, st4, rfl, rfl, hp, p4⟩ := sets_inv p3
    obtain ⟨xs, k, e3, e4, rfl⟩ := putSt_some hp
    obtain rfl := intRep r3
    obtain ⟨b, rfl, eb⟩ := refRep (x3.rep r2)
    obtain ⟨vs, e5, rv⟩ := a3.2.1.cell l b xs eb e3
    refine ⟨b, vs, j, k, rfl, rfl, e5, by rw [rv.length]; exact e4, ?_⟩
    have ha := List.mem_of_getElem? eb
    exact p4 σ _ W3 ⟨a3.1.put ha _, a3.2.1.put eb (rv.set k (x3.rep (x2.rep r1))), a3.2.2.put ha _⟩ (Ext.refl W3)
theorem MemOk.upd {a : Addr} {vs ws : List V} (m : MemOk C W st H) (ha : H a = some (.lst vs)) (nF : W.F a = none) (nm : a ∉ W.μ) : MemOk C W st (upd H a (.lst ws)) where
  sub := fun b z e => by rw [upd_ne (fun q => by rw [q, nF] at e; cases e)]; exact m.sub b z e
  len := m.len
  cell := fun l b xs e1 e2 => let ⟨us, z, r⟩ := m.cell l b xs e1 e2; ⟨us, by rw [upd_ne (fun q => nm (by rw [← q]; exact List.mem_of_getElem? e1))]; exact z, r⟩
  nd := m.nd
  nf := m.nf
  nt := m.nt
  tab := m.tab.mono (fun P ps h1 => by rw [upd_ne (fun z => by rw [z, ha] at h1; cases h1)]; exact h1) fun _ _ e => e
theorem Grow.upd {a : Addr} {o : HO} (g : Grow W0 H0 W H) (n0 : H0 a = none) : Grow W0 H0 W (upd H a o) where
  fr := g.fr
  fn := g.fn
  mu := g.mu
  kp := fun b z e nm nt => by rw [upd_ne (fun q => by rw [q, n0] at e; cases e)]; exact g.kp b z e nm nt
  al := fun b e => by
    by_cases q : b = a
    · exact q ▸ n0
    · rw [upd_ne q] at e; exact g.al b e
theorem Sls.app {N0 : Addr → Prop} (s : Sls C W N0 σ ρ H) {i : Nat} {a : Addr} {vs : List V} {xs : List D} {v : V} {d : D} (ho : ρ[i]? = some (.own xs)) (hs : σ[i]? = some (some (.ref a))) (hv : H a = some (.lst vs)) (rv : RepsW C W vs xs) (r : RepW C W v d) (nF : W.F a = none) (nm : a ∉ W.μ) (n0 : N0 a) :
    Sls C W N0 σ (ρ.set i (.own (xs ++ [d]))) (upd H a (.lst (vs ++ [v]))) := by
  have hil : i < ρ.length := (List.getElem?_eq_some_iff.mp ho).1
  refine ⟨by simp [s.len], fun j e he => ?_, fun j ys he => ?_, fun j k ys zs b f1 f2 f3 f4 => ?_, fun j he => ?_⟩
  · by_cases q : i = j
    · subst q; rw [List.getElem?_set_self hil] at he; cases he
    · rw [List.getElem?_set_ne q] at he; exact s.val j e he
  · by_cases q : i = j
    · subst q
      rw [List.getElem?_set_self hil] at he
      cases he
      exact ⟨a, _, hs, upd_same, rv.append (.cons r .nil), nF, nm, n0⟩
    · rw [List.getElem?_set_ne q] at he
      obtain ⟨b, us, g1, g2, g3, g4, g5, g6⟩ := s.own j ys he
      exact ⟨b, us, g1, by rw [upd_ne (fun z => q (s.dis i j xs ys a ho he hs (by rw [← z]; exact g1)))]; exact g2, g3, g4, g5, g6⟩
  · have own : ∀ {j : Nat} {ys : List D}, (ρ.set i (.own (xs ++ [d])))[j]? = some (.own ys) → ∃ ys', ρ[j]? = some (.own ys') := fun {j ys} he => by
      by_cases q : i = j
      · subst q; exact ⟨xs, ho⟩
      · rw [List.getElem?_set_ne q] at he; exact ⟨ys, he⟩
    obtain ⟨ys', h1⟩ := own f1
    obtain ⟨zs', h2⟩ := own f2
    exact s.dis j k ys' zs' b h1 h2 f3 f4
  · by_cases q : i = j
    · subst q; rw [List.getElem?_set_self hil] at he; cases he
    · rw [List.getElem?_set_ne q] at he; exact s.exc j he
theorem ds_app {i : Nat} {x : Str} {c : CE} {e : Expr} {px apos cpos pos : Pos} (hN : X.N[i]? = some x) (hv : Vis X.env.scope x) (hd : (x == ("__debug__" : Str)) = false) (hcd : (x == ("__classdict__" : Str)) = false) (hline : (apos.endLine == cpos.line) = true) (hs : notStar e = true) (h : DE C G X c e) :
    DS1 C G X (.app i c) (.Expr (.Call (.Attribute (.Name x px) "append" apos) [e] [] cpos) pos) := fun Wx tk => by
  have hse : starEach [e] X.env = (false, eval e X.env) :: starEach [] X.env := starEach_of hs _ _
  refine (ps_expr (pe_bm PySem.F.plainAttrs_list PySem.F.slot_list_append PySem.F.type_list_append mt_append (pe_var hN hv hd hcd) (pa_cons (h Wx tk) pa_nil (starEach_of hs _ _)) rfl (by rw [hse]; rfl) hline hse rfl) rfl).imp fun E σ H ⟨W0, H0, W, ρ, st, a, p⟩ => ?_
  simp only [evS] at p
  cases ho : ρ[i]? with
  | none => rw [ho] at p; exact p.elim
  | some sl =>
    rw [ho] at p
    cases sl with
    | no => exact p.elim
    | val _ => exact p.elim
    | exc => exact p.elim
    | own xs =>
      have p1 : PostS C W0 H0 Wx W (if xs.length < line then RS.on (evE G c ρ st) ρ fun d st => .nx (ρ.set i (.own (xs ++ [d]))) st else .bad) E := p
      split at p1
      · rename_i hlt
        obtain ⟨b, vs, e1, e2, rr, nF, nm, n0⟩ := a.2.2.own i xs ho
        refine ⟨.ref b, e1, .inl ⟨rfl, vs, .inl (.inl e2)⟩, _, W, ρ, st, a.2, (onP a p1).imp fun v H1 ⟨W1, y, st1, a1, x1, g1, r1, p2⟩ => ?_⟩
        have e3 := g1.kp b _ e2 nm (fun _ z => nomatch z)
        obtain ⟨b', vs', f1, f2, f3, nF', nm', n0'⟩ := a1.2.2.own i xs ho
        rw [e1] at f1; cases f1
        refine ⟨b, vs', v, rfl, rfl, f2, by rw [f3.length, ← line_eq]; exact hlt, ?_⟩
        exact p2 σ _ W1 ⟨a1.1.upd n0', a1.2.1.upd f2 nF' nm', a1.2.2.app ho e1 f2 f3 r1 nF' nm' n0'⟩ (Ext.refl W1)
      · exact p1.elim
theorem ds_ite {c : CE} {a b : CS} {e : Expr} {p q : List Stmt} {pos : Pos} (hc : DT C G X c e) (ha : DS C G X a p) (hb : DS C G X b q) : DS1 C G X (.ite c a b) (.If e p q pos) := fun Wx tk =>
  (ps_if (hc Wx tk) (ha Wx tk) (hb Wx tk)).imp fun E σ H ⟨W0, H0, W, ρ, st, at0, p⟩ => by
    simp only [evS] at p
    refine ⟨_, W, ρ, st, at0.2, (onP at0 p).imp fun k H1 ⟨W1, x, st1, a1, x1, g1, r1, p1⟩ => ?_⟩
    subst r1
    cases k
    · exact ⟨W0, H0, W1, ρ, st1, a1, p1⟩
    · exact ⟨W0, H0, W1, ρ, st1, a1, p1⟩
theorem for_go {J : It} {ds : List D} {Wi : GW} {tg : CT} {b : CS} (hJ : ItOk C Wi J ds) (a0 : AtS C W0 H0 W ρ st σ H) (x0 : Ext Wi W) (p : PostS C W0 H0 Wx W (forL tg (evS G b) ds ρ st) E) :
    ∃ Wv : Nat → Nat → L2.St → Hp → Prop, (∃ m, Wv 0 m σ H) ∧ ∀ i m σ H, Wv i m σ H → (J.stop i H ∧ E.nx σ H) ∨ (J.go i H ∧ ∃ N : L2.St → Hp → Prop, (∀ σ' H', N σ' H' → ∃ m', m' < m ∧ Wv (i + 1) m' σ' H') ∧
      ∀ x H', J.yld i H x H' → tG C tg x σ H' fun σ2 H2 => tS C Wx (evS G b) { E with nx := N, ct := N, bk := E.nx } σ2 H2) := by
  refine ⟨fun i m σ H => m = ds.length - i ∧ i ≤ ds.length ∧ ∃ W ρ st, AtS C W0 H0 W ρ st σ H ∧ Ext Wi W ∧ PostS C W0 H0 Wx W (forL tg (evS G b) (ds.drop i) ρ st) E, ⟨ds.length, rfl, Nat.zero_le _, W, ρ, st, a0, x0, p⟩, ?_⟩
  rintro i m σ H ⟨rfl, hi, W, ρ, st, a, x, p⟩
  have J1 := hJ W H st i x a.2.1
  by_cases hlt : i < ds.length
  · refine .inr ⟨(J1.2 ds[i] (List.getElem?_eq_getElem hlt)).1, fun σ' H' => i + 1 ≤ ds.length ∧ ∃ W ρ st, AtS C W0 H0 W ρ st σ' H' ∧ Ext Wi W ∧ PostS C W0 H0 Wx W (forL tg (evS G b) (ds.drop (i + 1)) ρ st) E,
      fun σ' H' q => ⟨ds.length - (i + 1), by omega, rfl, q⟩, fun y H' hy => ?_⟩
    obtain ⟨W2, g2, m2, r2⟩ := (J1.2 ds[i] (List.getElem?_eq_getElem hlt)).2 y H' hy
    rw [List.drop_eq_getElem_cons hlt] at p
    simp only [forL] at p
    cases ha : asgT tg ds[i] ρ st with
    | none => rw [ha] at p; exact p.elim
    | some q =>
      obtain ⟨ρ1, st1⟩ := q
      rw [ha] at p
      simp only at p
      have a2 := a.grow g2 m2
      refine ⟨_, W0, H0, W2, ρ, st, ds[i], ρ1, st1, a2, r2, ha, fun σ3 H3 W3 a3 _ _ x3 => ⟨W0, H0, W3, ρ1, st1, a3, ?_⟩⟩
      have xx : Ext W W3 := g2.ext.trans x3
      cases hb : evS G b ρ1 st1 with
      | bad => rw [hb] at p; exact p.elim
      | nx ρ2 st2 =>
        rw [hb] at p
        exact fun σ4 H4 W4 a4 x4 => ⟨hlt, W4, ρ2, st2, a4, (x.trans xx).trans x4, PostS.ext (r := forL tg (evS G b) (ds.drop (i + 1)) ρ2 st2) p (xx.trans x4)⟩
      | cnt ρ2 st2 =>
        rw [hb] at p
        exact fun σ4 H4 W4 a4 x4 => ⟨hlt, W4, ρ2, st2, a4, (x.trans xx).trans x4, PostS.ext (r := forL tg (evS G b) (ds.drop (i + 1)) ρ2 st2) p (xx.trans x4)⟩
      | brk ρ2 st2 =>
        rw [hb] at p
        exact fun σ4 H4 W4 a4 x4 => p σ4 H4 W4 a4 (xx.trans x4)
      | ret d st2 => rw [hb] at p; exact p
      | exc c ds2 ρ2 st2 =>
        rw [hb] at p
        exact fun cls dd σ4 H4 W4 a4 x4 => p cls dd σ4 H4 W4 a4 (xx.trans x4)
  · have e1 : i = ds.length := by omega
    refine .inl ⟨J1.1 e1, ?_⟩
    subst e1
    rw [List.drop_length] at p
    simp only [forL] at p
    exact p.nxI a
theorem ds_for {ci : CE} {tg : CT} {b : CS} {te ie : Expr} {body : List Stmt} {pos : Pos} (hp : PassesOwn (model X.prog X.w) X.A X.env X.xe) (hc : X.calm = true) (hi : DI C G X ci te ie) (hg : DG C X tg te) (hs : noSet ie = true) (hb : DS C G X b body) : DS1 C G X (.for_ tg ci b) (.For te ie body [] pos) := fun Wx tk =>
  (ps_for hp hc (hi Wx tk) hg (hb Wx tk) (folded_of hs _)).imp fun E σ H ⟨W0, H0, W, ρ, st, a, p⟩ => by
    simp only [evS] at p
    refine ⟨_, W, ρ, st, a.2, (onP a p).imp fun J H1 ⟨W1, ds, st1, a1, x1, g1, hJ, p1⟩ => ?_⟩
    exact for_go hJ a1 (Ext.refl W1) p1
theorem ds_whl {c : CE} {b : CS} {e : Expr} {body : List Stmt} {pos : Pos} (hp : PassesOwn (model X.prog X.w) X.A X.env X.xe) (hc : DT C G X c e) (hb : DS C G X b body) : DS1 C G X (.whl c b) (.While e body [] pos) := fun Wx tk =>
  (ps_while hp (hc Wx tk) (hb Wx tk)).imp fun E σ H ⟨W0, H0, W, ρ, st, a, p⟩ => by
    simp only [evS] at p
    refine ⟨fun m σ H => ∃ W ρ st, AtS C W0 H0 W ρ st σ H ∧ PostS C W0 H0 Wx W (whlL (evT G c) (evS G b) m ρ st) E, ⟨fuel, W, ρ, st, a, p⟩, ?_⟩
    rintro m σ H ⟨W, ρ, st, a, p⟩
    cases m with
    | zero => exact p.elim
    | succ m =>
      simp only [whlL] at p
      refine ⟨_, W, ρ, st, a.2, (onP a p).imp fun k H1 ⟨W1, x, st1, a1, x1, g1, r1, p1⟩ => ?_⟩
      subst r1
      cases k
      · exact p1.nxI a1
      · rw [if_pos rfl] at p1 ⊢
        refine ⟨fun σ H => ∃ W ρ st, AtS C W0 H0 W ρ st σ H ∧ PostS C W0 H0 Wx W (whlL (evT G c) (evS G b) m ρ st) E, fun σ' H' q => ⟨m, Nat.lt_succ_self m, q⟩, W0, H0, W1, ρ, st1, a1, ?_⟩
        cases hb : evS G b ρ st1 with
        | bad => rw [hb] at p1; exact p1.elim
        | nx ρ2 st2 =>
          rw [hb] at p1
          exact fun σ4 H4 W4 a4 x4 => ⟨W4, ρ2, st2, a4, PostS.ext (r := whlL (evT G c) (evS G b) m ρ2 st2) p1 x4⟩
        | cnt ρ2 st2 =>
          rw [hb] at p1
          exact fun σ4 H4 W4 a4 x4 => ⟨W4, ρ2, st2, a4, PostS.ext (r := whlL (evT G c) (evS G b) m ρ2 st2) p1 x4⟩
        | brk ρ2 st2 =>
          rw [hb] at p1
          exact fun σ4 H4 W4 a4 x4 => p1 σ4 H4 W4 a4 x4
        | ret d st2 => rw [hb] at p1; exact p1
        | exc c ds2 ρ2 st2 =>
          rw [hb] at p1
          exact fun cls dd σ4 H4 W4 a4 x4 => p1 cls dd σ4 H4 W4 a4 x4
end
end DV
end

section
set_option linter.all false
set_option maxRecDepth 100000
set_option maxHeartbeats 1000000
/-! DV14: defs and their calls. -/
namespace DV
open PySem PySem.Spec PyProof.Rows L2
section

/-- plain parameters of these names, no defaults -/
structure PlainPs (fd : FuncData) (ps : List Str) : Prop where
  pos : fd.params.posonlyargs = []
  args : fd.params.args.map (·.arg) = ps
  va : fd.params.vararg = none
  ko : fd.params.kwonlyargs = []
  kw : fd.params.kwarg = none
  df : fd.defaults = .none
theorem forIn_kw {β : Type} {ps : List Str} (F : Str × Value → List (Str × Value) × β → Sem (ForInStep (List (Str × Value) × β))) (hF : ∀ x s, (ps.contains x.1) = true → (s.1.lookup x.1).isSome = false → F x s = pure (.yield (s.1 ++ [(x.1, x.2)], s.2))) :
    ∀ (kz sl : List (Str × Value)) (e : β), (∀ p ∈ kz, ps.contains p.1 = true) → ((sl ++ kz).map (·.1)).Nodup → forIn kz (sl, e) F = pure (sl ++ kz, e)
  | [], sl, e, _, _ => by simp
  | x :: kz, sl, e, hc, nd => by
    have h0 : (sl.lookup x.1).isSome = false := by
      cases q : sl.lookup x.1 with
      | none => rfl
      | some v =>
        have := PySem.mem_of_lookup q
        rw [List.map_append, List.nodup_append] at nd
        exact absurd rfl (nd.2.2 x.1 (List.mem_map.mpr ⟨_, this, rfl⟩) x.1 (by simp))
    rw [List.forIn_cons, hF x (sl, e) (hc x (List.mem_cons_self ..)) h0]
    show forIn kz (sl ++ [(x.1, x.2)], e) F = _
    rw [forIn_kw F hF kz (sl ++ [(x.1, x.2)]) e (fun p hp => hc p (List.mem_cons_of_mem _ hp)) (by simpa [List.append_assoc] using nd)]
    simp [List.append_assoc]
theorem lookup_zip {ps : List Str} : ∀ {us : List Value}, us.length = ps.length → ps.Nodup → ps.filterMap (fun n => ((ps.zip us).lookup n).map (n, ·)) = ps.zip us := by
  induction ps with
  | nil => intro us _ _; rfl
  | cons p ps ih =>
    intro us hl nd
    cases us with
    | nil => simp at hl
    | cons u us =>
      have hl' : us.length = ps.length := by simpa using hl
      have nd' := List.nodup_cons.mp nd
      have e : List.filterMap (fun n => ((((p :: ps).zip (u :: us)).lookup n).map (n, ·))) (p :: ps) = (p, u) :: List.filterMap (fun n => (((ps.zip us).lookup n).map (n, ·))) ps := by
        rw [List.filterMap_cons]
        simp only [List.zip_cons_cons, List.lookup_cons_self, Option.map_some]
        congr 1
        have key : ∀ l : List Str, (∀ n ∈ l, n ≠ p) → List.filterMap (fun n => ((((p, u) :: ps.zip us).lookup n).map (n, ·))) l = List.filterMap (fun n => (((ps.zip us).lookup n).map (n, ·))) l := fun l => by
          induction l with
          | nil => intro _; rfl
          | cons n l il =>
            intro hn
            have hne : (n == p) = false := beq_eq_false_iff_ne.mpr (hn n (List.mem_cons_self ..))
            rw [List.filterMap_cons, List.filterMap_cons, List.lookup_cons, hne, il fun m hm => hn m (List.mem_cons_of_mem _ hm)]
        exact key ps fun n hn q => nd'.1 (q ▸ hn)
      rw [e, ih hl' nd'.2]; rfl
theorem lookup_some {ps : List Str} : ∀ {us : List Value}, us.length = ps.length → ∀ n ∈ ps, ((ps.zip us).lookup n).isNone = false := by
  induction ps with
  | nil => intro us _ n hn; cases hn
  | cons p ps ih =>
    intro us hl n hn
    cases us with
    | nil => simp at hl
    | cons u us =>
      rw [List.zip_cons_cons, List.lookup_cons]
      by_cases e : n = p
      · subst e; simp
      · rw [beq_eq_false_iff_ne.mpr e]
        exact ih (by simpa using hl) n ((List.mem_cons.mp hn).resolve_left e)
theorem bindK {fd : FuncData} {ps : List Str} (h : PlainPs fd ps) (us ws : List Value) (hl : (us ++ ws).length = ps.length) (nd : ps.Nodup) : bindArgs fd ⟨us, (ps.drop us.length).zip ws⟩ = pure (ps.zip (us ++ ws)) := by
  have hz : ps.zip us ++ (ps.drop us.length).zip ws = ps.zip (us ++ ws) := by
    have h1 : ps = ps.take us.length ++ ps.drop us.length := (List.take_append_drop ..).symm
    have h2 : (ps.take us.length).length = us.length := by rw [List.length_take]; simp at hl; omega
    conv => rhs; rw [h1]
    rw [List.zip_append h2]
    congr 1
    conv => lhs; rw [h1]
    rw [← List.append_nil us, List.zip_append (by simpa using h2)]
    simp
  have hlz : ((ps.zip (us ++ ws)).map (·.1)) = ps := by rw [List.map_fst_zip]; omega
  unfold bindArgs
  simp only [h.pos, h.args, h.va, h.ko, h.kw, h.df, List.map_nil, List.nil_append, seqItems?]
  rw [forIn_kw (ps := ps) _ ?hF _ _ _ ?hc ?nd]
  case hF =>
    intro x s h1 h2
    simp only [h1, h2, Bool.true_or, if_true, Bool.false_eq_true, if_false]
  case hc =>
    intro p hp
    rw [List.contains_iff_mem]
    exact List.mem_of_mem_drop (List.of_mem_zip hp).1
  case nd => rw [hz, hlz]; exact nd
  rw [hz]
  have hgt : ¬ us.length > ps.length := by simp at hl; omega
  have hm : List.filter (fun n => (List.lookup n (ps.zip (us ++ ws))).isNone) ps = [] := by
    rw [List.filter_eq_nil_iff]
    intro n hn
    rw [lookup_some hl n hn]; simp
  have e1 : (do notAStandIn Value.none; pure none : Sem (Option (Array Value))) = pure none := rfl
  rw [e1]
  simp only [pure_bind, Option.getD_none, List.length_nil, List.drop_nil, List.length_nil, Nat.sub_zero, List.take_length, List.drop_length, hm, hgt, decide_false, Bool.false_and, Bool.false_eq_true, if_false, List.isEmpty_nil, Bool.not_true, List.zip_nil_left, List.forIn_nil, List.append_nil, lookup_zip hl nd]

end
/-! ### a def keeps its promise -/
structure FnG (P : Program) (w : World) (K : PySem.W.Frag) (mg : Str → Option Value) (base : Heap) (k : Nat) (f : Addr) (fd : FuncData) (ps : List Str) (sp : Sp) : Prop where
  len : ∀ vs H Q E, sp vs H Q E → vs.length = ps.length
  run : ∀ (A : Around) (outer : List PySem.Env) (s : Shared) (H : Hp) (args : Args) (us : List Value) (vs : List V) (Q : VK) (E : XK), A.guards = some [] → Room k A → Env0 P w K mg base A outer s H → BindsTo s fd args (ps.zip us) → Vals vs us → sp vs H Q E →
    codeAny (model P w) A (.call (.ref f) args) (CR (L2.CX P w) outer P w H s Q E) s
theorem fnG_of {P : Program} {w : World} {K : PySem.W.Frag} {mg : Str → Option Value} {base : Heap} {k : Nat} {f : Addr} {name qual : Str} {params : Arguments} {body : List Stmt} {scope : Scope} {dV kV doc pm cdv ct oc : Value} {an od : Option Addr}
    {osl : Array (Option Value)} {N ps : List Str} {sp : Sp} (lk : K.lookup f = some ⟨oc, od, .func (PySem.W.fnOf name qual params body scope dV kV doc pm an cdv ct), osl⟩) (hcd : PySem.W.codeIn K cdv qual = true) (S : FnScope N ps scope)
    (len : ∀ vs H Q E, sp vs H Q E → vs.length = ps.length)
    (hbody : ∀ (A : Around) (outer : List PySem.Env) (s : Shared) (H : Hp) (vs : List V) (Q : VK) (E : XK), A.guards = some [] → Room k (A.deeper (envOfC qual scope s.heap.objs.size f cdv)) → sp vs H Q E →
      ∃ t, PSs (cxOf (L2.CX P w) P w K mg base N qual scope f cdv A outer s H E) body t ∧ t { nx := fun _ H' => Q .non H', rt := Q } (L2.start N vs) H) :
    FnG P w K mg base (k + 1) f (PySem.W.fnOf name qual params body scope dV kV doc pm an cdv ct) ps sp := by
  refine ⟨len, fun A outer s H args us vs Q E hgd hr e0 hb r hsp => ?_⟩
  have KX : K.In s.heap := e0.mod.kin.keeps fun b o e => (e0.bs b o e).1
  have lim : s.heap.NoLimit := e0.mod.nolimit.keeps fun b o e => (e0.bs b o e).1
  have hkind : ∀ y ∈ ps.zip us, scope.names.lookup y.1 = some .local ∨ (scope.names.lookup y.1 = some .cell ∧ ((cellsFrom (s.heap.objs.size + 1) scope.names []).lookup y.1).isSome = true) := fun ⟨n, v⟩ hy =>
    (S.par n (List.of_mem_zip hy).1).imp id fun q => ⟨q, PySem.W.cellsFrom_some _ _ _ (.inl q)⟩
  refine codeAny_call_function hr.depth (KX _ _ lk) rfl S.co S.gen rfl (PySem.W.codeRec_of KX hcd) (hb _ _ _ _ (wpAny_newFunctionEnv_cells S.kind hkind fun env he s1 x => ?_))
  subst he
  refine ⟨lim.keeps x.toInCall.keep, codeAny_func ?_⟩
  obtain ⟨t, ht, hq⟩ := hbody A outer s H vs Q E hgd (hr.deeper _) hsp
  refine wpAny_mono (ht.run [] s1 _ H _ (inv_start S hr.hd e0 (len _ _ _ _ hsp) r x) hq) (fun fl s' hs => ?_) fun e s' hs => hs
  cases fl with
  | ret u => obtain ⟨v, σ', H', J, rv, q⟩ := hs; exact ⟨v, H', J.os, J.bare, J.base, J.hok, rv, q⟩
  | next => obtain ⟨σ', H', J, q⟩ := hs; exact ⟨V.non, H', J.os, J.bare, J.base, J.hok, (rfl : RelV V.non Value.none), q⟩
  | brk => obtain ⟨_, _, _, q⟩ := hs; exact False.elim q
  | cont => obtain ⟨_, _, _, q⟩ := hs; exact False.elim q
/-! ### what a def is to do -/
def spF (C : PC) (n g : Nat) : Sp := fun vs H Q E => ∃ W ds st, MemOk C W st H ∧ RepsW C W vs ds ∧ (∃ d, C.P.defs[g]? = some d ∧ ds.length = d.np) ∧ Post C (RepW C) (callF C.P n g ds st) W H Q E
theorem callF_np {P : CProg} {n g : Nat} {ds : List D} {st : St} (h : callF P n g ds st ≠ .bad) : ∃ d, P.defs[g]? = some d ∧ ds.length = d.np := by
  cases n with
  | zero => exact absurd (by simp [callF]) h
  | succ n =>
    cases hd : P.defs[g]? with
    | none => rw [callF, hd] at h; exact absurd rfl h
    | some d =>
      rw [callF, hd] at h
      refine ⟨d, rfl, ?_⟩
      by_cases q : ds.length = d.np
      · exact q
      · simp only [if_neg q] at h; exact absurd rfl h
theorem Post.ne_bad {C : PC} {α β : Type} {rel : GW → β → α → Prop} {r : R α} {W : GW} {H : Hp} {Q : β → Hp → Prop} {E : Value → Option Addr → Hp → Prop} (p : Post C rel r W H Q E) : r ≠ .bad := fun e => by rw [e] at p; exact p
theorem sp_of {C : PC} {n g : Nat} {W : GW} {H : Hp} {ds : List D} {vs : List V} {st : St} {Q : VK} {E : XK} (m : MemOk C W st H) (r : RepsW C W vs ds) (p : Post C (RepW C) (callF C.P n g ds st) W H Q E) : spF C n g vs H Q E :=
  ⟨W, ds, st, m, r, callF_np p.ne_bad, p⟩
/-- the def of number g, told -/
structure DF (C : PC) (P : Program) (w : World) (K : PySem.W.Frag) (mg : Str → Option Value) (base : Heap) (n g : Nat) (ps : List Str) : Prop where
  ex : ∃ fd, FnG P w K mg base n (C.fa g) fd ps (spF C n g) ∧ PlainPs fd ps ∧ ∃ oc od osl, K.lookup (C.fa g) = some ⟨oc, od, .func fd, osl⟩
  nd : ps.Nodup
  keep : PySem.W.keepIn K (.ref (C.fa g)) = true
  sg : C.sg (sigOf C.P g) = ps
section
variable {C : PC} {X : Cx}
theorem run_G {n g : Nat} {ps : List Str} {Wx : WX'} {pins : List (Addr × Obj)} {σ : L2.St} {H : Hp} {s : Shared} {Q : VK} {us ws : List Value} {vs zs : List V} (F : DF C X.prog X.w X.K X.mg X.base n g ps) (hgd : X.A.guards = some []) (hr : Room n X.A) (tk : Takes X Wx)
    (I : Inv X pins σ H s) (r : Vals vs us) (rz : Vals zs ws) (h : spF C n g (vs ++ zs) H Q (fun cls dd H' => Wx cls dd σ H')) : wpAny (model X.prog X.w) X.A (call (.ref (C.fa g)) us ((ps.drop us.length).zip ws)) (EP X pins σ Q) X.xe s := by
  obtain ⟨fd, G, pl, _⟩ := F.ex
  have r2 := r.append rz
  have hl : (us ++ ws).length = ps.length := by rw [← r2.length]; exact G.len _ _ _ _ h
  have b : BindsTo s fd ⟨us, (ps.drop us.length).zip ws⟩ (ps.zip (us ++ ws)) := .of_eq (bindK pl us ws hl F.nd)
  refine wpAny_call (codeAny_mono (G.run X.A X.stack s H _ (us ++ ws) (vs ++ zs) Q _ hgd hr I.env0 b r2 h) fun r s' hq => ?_)
  cases r with
  | error e => exact passAt tk σ pins H s e s' I hq
  | ok fl =>
    cases fl with
    | ret u => exact I.after hq
    | next => exact False.elim hq
    | brk => exact False.elim hq
    | cont => exact False.elim hq
theorem kw_names {pos : Pos} {env : PySem.Env} : ∀ {kws : List Keyword}, (backToKw pos (keywordEach kws env)).filterMap (·.1) = kws.filterMap (·.arg)
  | [] => rfl
  | ⟨nm, e, p⟩ :: r => by
    show List.filterMap (·.1) ((nm, _) :: backToKw pos (keywordEach r env)) = _
    rw [List.filterMap_cons, List.filterMap_cons, kw_names (kws := r)]
theorem kw_all {pos : Pos} {env : PySem.Env} : ∀ {kws : List Keyword}, kws.all (·.arg.isSome) = true → (backToKw pos (keywordEach kws env)).all (·.1.isSome) = true ∧ (backToKw pos (keywordEach kws env)).any (·.1.isNone) = false
  | [], _ => ⟨rfl, rfl⟩
  | ⟨nm, e, p⟩ :: r, h => by
    simp only [List.all_cons, Bool.and_eq_true] at h
    obtain ⟨h1, h2⟩ := kw_all (kws := r) h.2 (pos := pos) (env := env)
    constructor
    · show ((nm.isSome) && (backToKw pos (keywordEach r env)).all (·.1.isSome)) = true
      rw [h1, h.1]; rfl
    · show ((nm.isNone) || (backToKw pos (keywordEach r env)).any (·.1.isNone)) = false
      rw [h2]
      cases nm with
      | none => cases h.1
      | some _ => rfl
/-- arguments and keywords, then the call -/
theorem call_args {es : List Expr} {kws : List Keyword} {t tk : TA} {pos : Pos} {f : Value} {pins : List (Addr × Obj)} {σ : L2.St} {H : Hp} {s : Shared} {Q : VK} {Rr : List V → List V → Hp → Prop} (ha : PA X es t) (hkw : PK X kws tk) (hs : es.all notStar = true) (hk : kws.all (·.arg.isSome) = true) (hkeep : PySem.W.keepIn X.K f = true) (hnil : es = [] → ∀ Q, t σ H Q → Q [] H)
    (I : Inv X pins σ H s) (h : t σ H fun vs H1 => tk σ H1 fun zs H2 => Rr vs zs H2)
    (fin : ∀ us ws s2 vs zs H2, Inv X pins σ H2 s2 → Vals vs us → Vals zs ws → Rr vs zs H2 → wpAny (model X.prog X.w) X.A (call f us ((kws.filterMap (·.arg)).zip ws)) (EP X pins σ Q) X.xe s2) :
    wpAny (model X.prog X.w) X.A (callWith pos f [] (backTo pos (starEach es X.env)) (backToKw pos (keywordEach kws X.env))) (EP X pins σ Q) X.xe s := by
  obtain ⟨k1, k2⟩ := kw_all hk (pos := pos) (env := X.env)
  have hp : ((backTo pos (starEach es X.env)).any (·.1) || (backToKw pos (keywordEach kws X.env)).any (·.1.isNone)) = false := by rw [k2, star_any es hs]; rfl
  have aft : ∀ {us s1 vs H1}, Inv X pins σ H1 s1 → Vals vs us → (tk σ H1 fun zs H2 => Rr vs zs H2) → wpAny (model X.prog X.w) X.A (evalAll ((backToKw pos (keywordEach kws X.env)).map (·.2)))
      (fun ks s₂ => X.K.In s₂.heap ∧ wpAny (model X.prog X.w) X.A (call f ([] ++ us) (((backToKw pos (keywordEach kws X.env)).filterMap (·.1)).zip ks)) (EP X pins σ Q) X.xe s₂) X.xe s1 := fun {us s1 vs H1} I1 r q =>
    thn (hkw.run pos pins s1 σ H1 _ I1 q) fun ws s2 ⟨zs, H2, I2, rz, q2⟩ => ⟨I2.kIn, by rw [kw_names]; exact fin us ws s2 vs zs H2 I2 r rz q2⟩
  cases es with
  | nil =>
    refine PySem.W.callWith_KW0 (h₀ := X.base) I.ok.mod.kin hkeep k1 ?_ hp
    exact aft (us := []) (vs := []) (H1 := H) I .nil (hnil rfl _ h)
  | cons e es =>
    have he := starEach_of (by simp only [List.all_cons, Bool.and_eq_true] at hs; exact hs.1) es X.env
    exact PySem.W.callWith_KW (h₀ := X.base) I.ok.mod.kin hkeep k1 (thn (ha.run pos pins s σ H _ I h) fun us s1 ⟨vs, H1, I1, r, q⟩ => aft I1 r q) hp he
/-! ### calls by the interpreter -/
def DK (C : PC) (G : Tell) (X : Cx) (c : DV.CE) (kws : List Keyword) : Prop := ∀ Wx, Takes X Wx → PK X kws (tA C Wx (evA G c))
theorem _root_.L2.PK.imp {X : Cx} {e : List Keyword} {t t' : TA} (h : PK X e t) (k : ∀ σ H Q, t' σ H Q → t σ H Q) : PK X e t' := ⟨fun p pins s σ H Q I q => h.run p pins s σ H Q I (k σ H Q q)⟩
theorem dk_nil {G : Tell} : DK C G X .nil [] := fun Wx tk => pk_nil.imp fun σ H Q ⟨N0, W, ρ, st, n, p⟩ => by
  simp only [evA] at p
  exact p.okI n.1 .nil
theorem dk_cons {G : Tell} {c r : DV.CE} {nm : Option Str} {e : Expr} {kp : Pos} {kws : List Keyword} (h1 : DE C G X c e) (h2 : DK C G X r kws) : DK C G X (.cons c r) (⟨nm, e, kp⟩ :: kws) := fun Wx tk =>
  (pk_cons (h1 Wx tk) (h2 Wx tk)).imp fun σ H Q ⟨N0, W, ρ, st, n, p⟩ => by
    simp only [evA] at p
    obtain ⟨N1, W1, ρ1, st1, n1, q⟩ := one (f := fun x st => (evA G r ρ st).bind fun xs st => R.ok (x :: xs) st) n p
    refine ⟨N1, W1, ρ1, st1, n1, q.imp fun x H1 ⟨W2, st2, a, n2, ra, p2, g2⟩ => ?_⟩
    refine ⟨_, W2, ρ, st2, n2, (p2.bind (rel := RepsW C)).imp fun xs H2 ⟨W3, as, st3, g3, m3, rs, p3⟩ => p3.okI m3 (.cons (g3.rep ra) rs)⟩
theorem tA_nil {G : Tell} {c : DV.CE} {Wx : WX'} {σ : L2.St} {H : Hp} {Q : List V → Hp → Prop} (hc : c = .nil) (h : tA C Wx (evA G c) σ H Q) : Q [] H := by
  subst hc
  obtain ⟨N0, W, ρ, st, n, p⟩ := h
  simp only [evA] at p
  exact p.okI n.1 .nil
def ceLen : DV.CE → Nat
  | .cons _ r => ceLen r + 1
  | _ => 0
theorem evA_len {G : Tell} : ∀ (c : DV.CE) {ρ : Env} {st st' : St} {xs : List D}, evA G c ρ st = .ok xs st' → xs.length = ceLen c
  | .nil, ρ, st, st', xs, h => by simp only [evA] at h; cases h; rfl
  | .cons a r, ρ, st, st', xs, h => by
    simp only [evA] at h
    cases h1 : evE G a ρ st with
    | bad => rw [h1] at h; cases h
    | exc _ _ _ => rw [h1] at h; cases h
    | ok x st1 =>
      rw [h1] at h
      have h' : ((evA G r ρ st1).bind fun xs st => R.ok (x :: xs) st) = .ok xs st' := h
      cases h2 : evA G r ρ st1 with
      | bad => rw [h2] at h'; cases h'
      | exc _ _ _ => rw [h2] at h'; cases h'
      | ok ys st2 =>
        rw [h2] at h'
        cases h'
        simp [ceLen, evA_len r h2]
  | .var _, _, _, _, _, h => by simp only [evA] at h; cases h
  | .con _, _, _, _, _, h => by simp only [evA] at h; cases h
  | .glo _, _, _, _, _, h => by simp only [evA] at h; cases h
  | .tup _, _, _, _, _, h => by simp only [evA] at h; cases h
  | .lst _, _, _, _, _, h => by simp only [evA] at h; cases h
  | .new _, _, _, _, _, h => by simp only [evA] at h; cases h
  | .bin _ _ _, _, _, _, _, h => by simp only [evA] at h; cases h
  | .neg _, _, _, _, _, h => by simp only [evA] at h; cases h
  | .inv _, _, _, _, _, h => by simp only [evA] at h; cases h
  | .cmp _ _ _, _, _, _, _, h => by simp only [evA] at h; cases h
  | .cmp2 _ _ _ _ _, _, _, _, _, h => by simp only [evA] at h; cases h
  | .and _ _, _, _, _, _, h => by simp only [evA] at h; cases h
  | .or _ _, _, _, _, _, h => by simp only [evA] at h; cases h
  | .not _, _, _, _, _, h => by simp only [evA] at h; cases h
  | .ife _ _ _, _, _, _, _, h => by simp only [evA] at h; cases h
  | .sub _ _, _, _, _, _, h => by simp only [evA] at h; cases h
  | .slc _ _ _, _, _, _, _, h => by simp only [evA] at h; cases h
  | .isi _ _, _, _, _, _, h => by simp only [evA] at h; cases h
  | .call _ _ _, _, _, _, _, h => by simp only [evA] at h; cases h
  | .callv _ _ _ _, _, _, _, _, h => by simp only [evA] at h; cases h
  | .callm _ _ _ _, _, _, _, _, h => by simp only [evA] at h; cases h
  | .blt _ _, _, _, _, _, h => by simp only [evA] at h; cases h
  | .mth _ _ _, _, _, _, _, h => by simp only [evA] at h; cases h
  | .comp _ _ _ _ _, _, _, _, _, h => by simp only [evA] at h; cases h
  | .comp2 _ _ _ _ _ _ _ _ _, _, _, _, _, h => by simp only [evA] at h; cases h
  | .iseq _, _, _, _, _, h => by simp only [evA] at h; cases h
  | .irng _, _, _, _, _, h => by simp only [evA] at h; cases h
  | .irng2 _ _, _, _, _, _, h => by simp only [evA] at h; cases h
  | .ienum _, _, _, _, _, h => by simp only [evA] at h; cases h
  | .izip _ _, _, _, _, _, h => by simp only [evA] at h; cases h
  | .ienz _ _, _, _, _, _, h => by simp only [evA] at h; cases h
  | .exat _ _, _, _, _, _, h => by simp only [evA] at h; cases h
  | .exis _ _, _, _, _, _, h => by simp only [evA] at h; cases h
  | .sfst _ _, _, _, _, _, h => by simp only [evA] at h; cases h
theorem Post.bindE {α β γ δ : Type} {rel : GW → β → α → Prop} {rel2 : GW → δ → γ → Prop} {W : GW} {H : Hp} {E : Value → Option Addr → Hp → Prop} {r : R α} {f : α → St → R γ} {Q : δ → Hp → Prop} (h : Post C rel2 (r.bind f) W H Q E) :
    Post C rel r W H (fun b H1 => ∃ W1 a st1, r = .ok a st1 ∧ Grow W H W1 H1 ∧ MemOk C W1 st1 H1 ∧ rel W1 b a ∧ Post C rel2 (f a st1) W1 H1 Q E) E := by
  cases r with
  | ok a st => exact fun b H' W' g m q => ⟨W', a, st, rfl, g, m, q, Post.grow (r := f a st) h g⟩
  | exc c ds st => exact h
  | bad => exact h
/-- both argument lists -/
theorem two_args {G : Tell} {ca ck : DV.CE} {Wx : WX'} {α β : Type} {rel : GW → β → α → Prop} {f : List D → List D → St → R α} {σ : L2.St} {H : Hp} {Q : β → Hp → Prop} {N0 W ρ st} (n : Now C N0 W ρ st σ H)
    (p : Post C rel ((evA G ca ρ st).bind fun x st => (evA G ck ρ st).bind fun y st => f x y st) W H Q (fun cls dd H' => Wx cls dd σ H')) :
    tA C Wx (evA G ca) σ H fun x H1 => tA C Wx (evA G ck) σ H1 fun y H2 => ∃ W st a b, Now C N0 W ρ st σ H2 ∧ RepsW C W x a ∧ RepsW C W y b ∧ a.length = ceLen ca ∧ b.length = ceLen ck ∧ Post C rel (f a b st) W H2 Q (fun cls dd H' => Wx cls dd σ H') :=
  ⟨N0, W, ρ, st, n, (p.bindE (rel := RepsW C)).imp fun x H1 ⟨W1, a, st1, e1, g1, m1, ra, p1⟩ => ⟨N0, W1, ρ, st1, n.grow g1 m1, (p1.bindE (rel := RepsW C)).imp fun y H2 ⟨W2, b, st2, e2, g2, m2, rb, p2⟩ =>
    ⟨W2, st2, a, b, (n.grow g1 m1).grow g2 m2, g2.reps ra, rb, evA_len _ e1, evA_len _ e2, p2⟩⟩⟩
theorem Post.relax {α β : Type} {rel : GW → β → α → Prop} {r : R α} {W : GW} {H : Hp} {Q : β → Hp → Prop} {E E' : Value → Option Addr → Hp → Prop} (h : Post C rel r W H Q E) (k : ∀ cls dd H, E cls dd H → E' cls dd H) : Post C rel r W H Q E' := by
  cases r with
  | ok a st => exact h
  | exc c ds st => exact fun cls dd H' W' g m q => k _ _ _ (h cls dd H' W' g m q)
  | bad => exact h
theorem de_call {G : Tell} {n g : Nat} {ps : List Str} (hG : G.F = callF C.P n) {ca ck : DV.CE} {x : Str} {es : List Expr} {kws : List Keyword} {p pos : Pos} (F : DF C X.prog X.w X.K X.mg X.base n g ps) (hgd : X.A.guards = some []) (hr : Room n X.A) (hg : Gl X x) (hm : X.mg x = some (.ref (C.fa g))) (hdb : (x == ("__debug__" : Str)) = false)
    (hs : es.all notStar = true) (hk : kws.all (·.arg.isSome) = true) (hnm : kws.filterMap (·.arg) = ps.drop es.length) (hnl : es = [] → ca = .nil) (hl1 : ceLen ca = es.length) (hl2 : ceLen ck = (ps.drop es.length).length)
    (ha : DA C G X ca es) (hkw : DK C G X ck kws) : DE C G X (.call g ca ck) (.Call (.Name x p) es kws pos) := fun Wx tk => by
  refine ⟨fun pins s σ H Q I ⟨N0, W, ρ, st, n0, pp⟩ => ?_⟩
  simp only [evE] at pp
  refine wpAny_Call_Name_kw (ld_glob I hg hm ?_ hdb)
  refine call_args (ha Wx tk) (hkw Wx tk) hs hk F.keep (fun e Q h => tA_nil (hnl e) h) I (two_args n0 pp) fun us ws s2 vs zs H2 I2 r rz ⟨W2, st2, as, bs, n2, ra, rb, e1, e2, p2⟩ => ?_
  have hus : us.length = es.length := by rw [← r.length, ra.length, e1, hl1]
  rw [hnm, ← hus]
  rw [hG] at p2
  exact run_G F hgd hr tk I2 r rz (sp_of n2.1 (ra.append rb) p2)
/-- of a name that holds a def -/
theorem fnRep {W : GW} {v : V} {g : Nat} (r : RepW C W v (.fn g)) : v = .ref (C.fa g) ∧ ∃ d, C.P.defs[g]? = some d := by
  cases r with
  | fn _ h => exact ⟨rfl, h⟩
end
end DV
end

section
set_option linter.all false
set_option maxRecDepth 100000
set_option maxHeartbeats 1000000
/-! DV15: captured cells told or not; a closure's call. -/
namespace DV
open PySem PySem.Spec PyProof.Rows L2 LamX
open Classical in
noncomputable def plus (H : Hp) (cl : List (Str × Addr)) (H' : Hp) : Hp := fun a => if inC cl a then H a else H' a
section
variable {F H H' : Hp} {cl : List (Str × Addr)} {a : Addr}
theorem minus_in (h : inC cl a) : minus F cl a = none := if_pos h
theorem minus_out (h : ¬ inC cl a) : minus F cl a = F a := if_neg h
theorem plus_in (h : inC cl a) : plus H cl H' a = H a := if_pos h
theorem plus_out (h : ¬ inC cl a) : plus H cl H' a = H' a := if_neg h
def CellsIn (cl : List (Str × Addr)) (H : Hp) : Prop := ∀ x c, cl.lookup x = some c → ∃ o w, H c = some (CellO c o w)
theorem CellsIn.mono (h : CellsIn cl F) (k : ∀ a o, F a = some o → H a = some o) : CellsIn cl H := fun x c e => let ⟨o, w, z⟩ := h x c e; ⟨o, w, k _ _ z⟩
theorem CellsIn.out (h : CellsIn cl H) {o : HO} (e : H a = some o) (ho : ∀ φ, o ≠ .ext φ) : ¬ inC cl a := fun ⟨y, q⟩ => by
  obtain ⟨ob, w, z⟩ := h y a q
  rw [e] at z
  exact ho _ (Option.some.inj z)
theorem CellsIn.keep (h : CellsIn cl H) {o : HO} (e : H a = some o) (ho : ∀ φ, o ≠ .ext φ) : minus H cl a = some o := (minus_out (h.out e ho)).trans e
theorem CellsIn.outN (h : CellsIn cl H) (e : H a = none) : ¬ inC cl a := fun ⟨y, q⟩ => by
  obtain ⟨ob, w, z⟩ := h y a q
  rw [e] at z; cases z
theorem minus_some {o : HO} (e : minus F cl a = some o) : ¬ inC cl a ∧ F a = some o := by
  by_cases h : inC cl a
  · rw [minus_in h] at e; cases e
  · rw [minus_out h] at e; exact ⟨h, e⟩
end
section
variable {C : PC} {cl : List (Str × Addr)}
theorem sqL_minus {F : Hp} {a : Addr} {xs : List V} (hc : CellsIn cl F) (s : SqL C.K F a xs) : SqL C.K (minus F cl) a xs := by
  rcases s with (e | ⟨o, e⟩) | r
  · exact .inl (.inl (hc.keep e fun _ z => nomatch z))
  · exact .inl (.inr ⟨o, hc.keep e fun _ z => nomatch z⟩)
  · exact .inr r
mutual
theorem Rep.minus : ∀ {F μ v d}, Rep C F μ v d → CellsIn cl F → pla d = true → Rep C (DV.minus F cl) μ v d
  | _, _, _, _, .non, _, _ => .non
  | _, _, _, _, .bl b, _, _ => .bl b
  | _, _, _, _, .int b, _, _ => .int b
  | _, _, _, _, .str b, _, _ => .str b
  | _, _, _, _, .tup s r, hc, hp => .tup (by
      rcases s with ⟨o, e, n⟩ | s
      · exact .inl ⟨o, hc.keep e (fun _ z => nomatch z), n⟩
      · exact .inr s) (r.minus hc (by simpa [pla] using hp))
  | _, _, _, _, .lst s r, hc, hp => .lst (hc.keep s fun _ z => nomatch z) (r.minus hc (by simpa [pla] using hp))
  | _, _, _, _, .fro s r, hc, hp => .fro (sqL_minus hc s) (r.minus hc (by simpa [pla] using hp))
  | _, _, _, _, .dK s r, hc, hp => .dK (hc.keep s fun _ z => nomatch z) (r.minus hc (by simp [pla] at hp; exact hp.2))
  | _, _, _, _, .dT s t k v r, hc, hp => .dT (hc.keep s fun _ z => nomatch z) t (fun x hx => by
      rcases k x hx with ⟨o, e, n⟩ | s
      · exact .inl ⟨o, hc.keep e (fun _ z => nomatch z), n⟩
      · exact .inr s) v (r.minus hc (by simp [pla] at hp; exact hp.2))
  | _, _, _, _, .ref e, _, _ => .ref e
  | _, _, _, _, .fn g e, _, _ => .fn g e
  | _, _, _, _, .clo _ _ _ _ _ _ _ _, _, hp => by simp [pla] at hp
theorem Reps.minus : ∀ {F μ vs ds}, Reps C F μ vs ds → CellsIn cl F → plas ds = true → Reps C (DV.minus F cl) μ vs ds
  | _, _, _, _, .nil, _, _ => .nil
  | _, _, _, _, .cons a r, hc, hp => by
    simp only [plas, Bool.and_eq_true] at hp
    exact .cons (a.minus hc hp.1) (r.minus hc hp.2)
end
section
variable {P : Program} {w : World} {W : GW} {H : Hp} {st : St} {h : Heap}
theorem capc_at {c : Addr} {o : Obj} {v : V} (hok : HOk P w H h) (e : H c = some (CellO c o v)) : h.get? c = some o ∧ ∃ u, o.data = .cell (some u) ∧ RelV v u := (hok c _ e).1
theorem code_out {c : Addr} {q : Str} (hok : HOk P w H h) (hc : CellsIn cl H) (e : H c = some (CodeO c q)) : ¬ inC cl c := fun ⟨y, z⟩ => by
  obtain ⟨o, v, e2⟩ := hc y c z
  obtain ⟨h1, u, h2, _⟩ := capc_at hok e2
  obtain ⟨⟨oc, vs, t, h3, h4, _⟩, _⟩ := hok c _ e
  rw [h1] at h3; cases h3
  rw [h2] at h4; cases h4
theorem lam_out {f c' : Addr} {L : LamI} {cl2 : List (Str × Addr)} (hok : HOk P w H h) (hc : CellsIn cl H) (e : H f = some (LamO f L cl2 c')) : ¬ inC cl f := fun ⟨y, z⟩ => by
  obtain ⟨o, v, e2⟩ := hc y f z
  obtain ⟨h1, u, h2, _⟩ := capc_at hok e2
  obtain ⟨⟨pm, ct, h3⟩, _⟩ := hok f _ e
  rw [h1] at h3; cases h3
  cases h2
theorem MemOk.minus (m : MemOk C W st H) (hc : CellsIn cl W.F) (hok : HOk P w H h) (hp : st.all plas = true) : MemOk C ⟨DV.minus W.F cl, W.μ⟩ st (DV.minus H cl) := by
  have hcH := hc.mono m.sub
  refine ⟨fun a o e => ?_, m.len, fun l a xs e1 e2 => ?_, m.nd, fun a ha => ?_, fun a ps e => ?_, fun p hp => ?_⟩
  · obtain ⟨h1, h2⟩ := minus_some e
    rw [minus_out h1]; exact m.sub _ _ h2
  · obtain ⟨vs, z, r⟩ := m.cell l a xs e1 e2
    exact ⟨vs, hcH.keep z (fun _ z => nomatch z), r.minus hc (List.all_eq_true.mp hp _ (List.mem_of_getElem? e2))⟩
  · by_cases q : inC cl a
    · exact minus_in q
    · exact (minus_out q).trans (m.nf a ha)
  · exact m.nt a ps (minus_some e).2
  · obtain ⟨ps, h1, h2, h3⟩ := m.tab p hp
    refine ⟨ps, hcH.keep h1 (fun _ z => nomatch z), h2, fun pos cv q => ?_⟩
    obtain ⟨c, e1, e2⟩ := h3 pos cv q
    exact ⟨c, e1, (minus_out (code_out hok hcH (m.sub _ _ e2))).trans e2⟩
theorem HOk.minus (hok : HOk P w H h) (hc : CellsIn cl H) : HOk P w (DV.minus H cl) h := fun a o e => by
  obtain ⟨h1, h2⟩ := minus_some e
  exact (hok a o h2).stay (fun _ _ _ q => q) (fun b q => hc.keep q fun _ z => nomatch z) fun b xs q => hc.keep q fun _ z => nomatch z
/-- the cells told again -/
theorem back {W' : GW} {H' : Hp} {st' : St} (m : MemOk C W st H) (hc : CellsIn cl W.F) (g : Grow ⟨DV.minus W.F cl, W.μ⟩ (DV.minus H cl) W' H') (m' : MemOk C W' st' H') (hn : ∀ c, inC cl c → H' c = none) :
    Grow W H ⟨plus W.F cl W'.F, W'.μ⟩ (plus H cl H') ∧ MemOk C ⟨plus W.F cl W'.F, W'.μ⟩ st' (plus H cl H') ∧ (∀ a o, W'.F a = some o → plus W.F cl W'.F a = some o) := by
  have hcH := hc.mono m.sub
  have ou : ∀ {a : Addr} {o : HO}, H' a = some o → ¬ inC cl a := fun e q => by rw [hn _ q] at e; cases e
  have fr : ∀ a o, W'.F a = some o → plus W.F cl W'.F a = some o := fun a o e => (plus_out (ou (m'.sub _ _ e))).trans e
  have muS : ∀ a ∈ W'.μ, ∃ o, H' a = some o := fun a h => by
    obtain ⟨l, hl, e⟩ := List.getElem_of_mem h
    have e1 : W'.μ[l]? = some a := by rw [List.getElem?_eq_getElem hl, e]
    have hl2 : l < st'.length := m'.len ▸ hl
    obtain ⟨vs, z, _⟩ := m'.cell l a st'[l] e1 (List.getElem?_eq_getElem hl2)
    exact ⟨_, z⟩
  refine ⟨⟨fun a o e => ?_, fun a o e => ?_, ?_, fun a o e nm nt => ?_, fun a e => ?_⟩, ⟨fun a o e => ?_, m'.len, fun l a xs e1 e2 => ?_, m'.nd, fun a ha => ?_, fun a ps e => ?_, m'.tab.mono (fun b o e => (plus_out (ou e)).trans e) fr⟩, fr⟩
  · by_cases q : inC cl a
    · exact (plus_in q).trans e
    · exact (plus_out q).trans (g.fr a o ((minus_out q).trans e))
  · have e' : plus W.F cl W'.F a = some o := e
    by_cases q : inC cl a
    · rw [plus_in q] at e'; exact .inl e'
    · rw [plus_out q] at e'
      rcases g.fn a o e' with z | z
      · exact .inl (minus_some z).2
      · rw [minus_out q] at z; exact .inr z
  · obtain ⟨more, e, n⟩ := g.mu
    refine ⟨more, e, fun a ha => ?_⟩
    obtain ⟨o, z⟩ := muS a (by rw [e]; exact List.mem_append_right _ ha)
    have := n a ha
    rwa [minus_out (ou z)] at this
  · by_cases q : inC cl a
    · exact (plus_in q).trans e
    · exact (plus_out q).trans (g.kp a o ((minus_out q).trans e) nm nt)
  · by_cases q : inC cl a
    · rw [plus_in q] at e; exact e
    · rw [plus_out q] at e
      have := g.al a e
      rwa [minus_out q] at this
  · have e' : plus W.F cl W'.F a = some o := e
    by_cases q : inC cl a
    · rw [plus_in q] at e'
      exact (plus_in q).trans (m.sub _ _ e')
    · rw [plus_out q] at e'
      exact (plus_out q).trans (m'.sub _ _ e')
  · obtain ⟨vs, z, r⟩ := m'.cell l a xs e1 e2
    exact ⟨vs, (plus_out (ou z)).trans z, r.mono fr ⟨[], by simp⟩⟩
  · obtain ⟨o, z⟩ := muS a ha
    exact (plus_out (ou z)).trans (m'.nf a ha)
  · have e' : plus W.F cl W'.F a = some (.tbl ps) := e
    by_cases q : inC cl a
    · rw [plus_in q] at e'; exact m.nt a ps e'
    · rw [plus_out q] at e'; exact m'.nt a ps e'
theorem Post.minus {r : R D} {Q : VK} {E : XK} (m : MemOk C W st H) (hc : CellsIn cl W.F) (p : Post C (RepW C) r W H Q E) :
    Post C (RepW C) r ⟨DV.minus W.F cl, W.μ⟩ (DV.minus H cl) (fun v H' => (∀ c, inC cl c → H' c = none) → Q v (plus H cl H')) (fun cls dd H' => (∀ c, inC cl c → H' c = none) → E cls dd (plus H cl H')) := by
  cases r with
  | bad => exact p
  | ok d st' =>
    intro v H' W' g m' rv hn
    obtain ⟨g2, m2, fr⟩ := back m hc g m' hn
    exact p v _ _ g2 m2 (rv.mono fr ⟨[], by simp⟩)
  | exc c ds st' =>
    intro cls dd H' W' g m' ev hn
    obtain ⟨g2, m2, fr⟩ := back m hc g m' hn
    refine p cls dd _ _ g2 m2 ?_
    obtain ⟨e, z⟩ := ev
    refine ⟨e, ?_⟩
    match ds, z with
    | [], z => exact z
    | [d], ⟨f, a, w, e0, e1, e2, r⟩ => exact ⟨f, a, w, e0, e1, fr _ _ e2, r.mono fr ⟨[], by simp⟩⟩
theorem cells_kept {o : Obj} {v : V} {c : Addr} (e : h.get? c = some o) (hd : ∃ u, o.data = .cell (some u) ∧ RelV v u) (H : Hp) : ObjOk P w H h c (CellO c o v) :=
  ⟨⟨e, hd⟩, ⟨o, e⟩, fun h1 h2 ⟨a, b⟩ st => ⟨st _ a, b⟩⟩
theorem ce_plus {outer : List PySem.Env} {s s' : Shared} {Q : VK} {u : Value} (hok : HOk P w H s.heap) (hc : CellsIn cl H) (frf : ∀ b ∈ frs outer, H b = none)
    (ce : L2.CE outer P w (DV.minus H cl) s (fun v H' => (∀ c, inC cl c → H' c = none) → Q v (plus H cl H')) u s') : L2.CE outer P w H s Q u s' := by
  obtain ⟨v, H', os, bare, un, hok', rv, q⟩ := ce
  have hn : ∀ c, inC cl c → H' c = none := fun c ⟨y, z⟩ => by
    obtain ⟨o, v, e⟩ := hc y c z
    exact un.free c o (capc_at hok e).1 (minus_in ⟨y, z⟩) (by simp)
  have ou : ∀ {a : Addr} {o : HO}, H' a = some o → ¬ inC cl a := fun e q => by rw [hn _ q] at e; cases e
  have mn : ∀ {b : Addr}, H b = none → DV.minus H cl b = none := fun n => (minus_out (hc.outN n)).trans n
  refine ⟨v, plus H cl H', os, bare, ⟨fun b o e n f x => un.keep b o e (mn n) f x, fun b o e n f x => un.slot b o e (mn n) f x, fun b o e n x => (plus_out (hc.outN n)).trans (un.free b o e (mn n) x), un.there, fun b xs e => ?_, fun b o x e => ?_, fun b ps e => ?_⟩, fun a o e => ?_, rv, q hn⟩
  · exact (plus_out (hc.out e fun _ z => nomatch z)).trans (un.tups b xs (hc.keep e fun _ z => nomatch z))
  · exact (plus_out (hc.out e fun _ z => nomatch z)).trans (un.frzs b o x (hc.keep e fun _ z => nomatch z))
  · obtain ⟨more, z⟩ := un.tbls b ps (hc.keep e fun _ z => nomatch z)
    exact ⟨more, (plus_out (hc.out e fun _ z => nomatch z)).trans z⟩
  · by_cases z : inC cl a
    · rw [plus_in z] at e
      have z' := z
      obtain ⟨y, z'⟩ := z'
      obtain ⟨ob, v', e2⟩ := hc y a z'
      rw [e2] at e; cases e
      obtain ⟨h1, h2⟩ := capc_at hok e2
      exact cells_kept (un.keep a ob h1 (minus_in z) (fun f => by rw [frf a f] at e2; cases e2) (by simp)) h2 _
    · rw [plus_out z] at e
      exact (hok' a o e).stay (fun _ _ _ q => q) (fun b q => (plus_out (ou q)).trans q) fun b xs q => (plus_out (ou q)).trans q
theorem cx_plus {outer : List PySem.Env} {s s' : Shared} {E : XK} {u : Value} (hok : HOk P w H s.heap) (hc : CellsIn cl H) (frf : ∀ b ∈ frs outer, H b = none)
    (cx : L2.CX P w outer (DV.minus H cl) s (fun cls dd H' => (∀ c, inC cl c → H' c = none) → E cls dd (plus H cl H')) u s') : L2.CX P w outer H s E u s' := by
  obtain ⟨a, B, H', cls, d, eu, fl, hok', ub, na, os, ag, q⟩ := cx
  have hn : ∀ c, inC cl c → H' c = none := fun c ⟨y, z⟩ => by
    obtain ⟨o, v, e⟩ := hc y c z
    exact ub.free c o (capc_at hok e).1 (minus_in ⟨y, z⟩)
  have ou : ∀ {a : Addr} {o : HO}, H' a = some o → ¬ inC cl a := fun e q => by rw [hn _ q] at e; cases e
  have mn : ∀ {b : Addr}, H b = none → DV.minus H cl b = none := fun n => (minus_out (hc.outN n)).trans n
  have cB : ∀ c, inC cl c → ∃ o v, H c = some (CellO c o v) ∧ B.get? c = some o := fun c z => by
    have z0 := z
    obtain ⟨y, z'⟩ := z
    obtain ⟨ob, v', e2⟩ := hc y c z'
    exact ⟨ob, v', e2, ub.keep c ob (capc_at hok e2).1 (minus_in z0) (fun f => by rw [frf c f] at e2; cases e2)⟩
  refine ⟨a, B, plus H cl H', cls, d, eu, fl, fun b o e => ?_, ⟨fun b o e n f => ub.keep b o e (mn n) f, ub.slot, fun b o e n => (plus_out (hc.outN n)).trans (ub.free b o e (mn n)), ub.there, fun b xs e => ?_, fun b o x e => ?_, fun b ps e => ?_⟩, ?_, os, ag, q hn⟩
  · by_cases z : inC cl b
    · rw [plus_in z] at e
      obtain ⟨ob, v', e2, e3⟩ := cB b z
      rw [e2] at e; cases e
      exact cells_kept e3 (capc_at hok e2).2 _
    · rw [plus_out z] at e
      exact (hok' b o e).stay (fun _ _ _ q => q) (fun b q => (plus_out (ou q)).trans q) fun b xs q => (plus_out (ou q)).trans q
  · exact (plus_out (hc.out e fun _ z => nomatch z)).trans (ub.tups b xs (hc.keep e fun _ z => nomatch z))
  · exact (plus_out (hc.out e fun _ z => nomatch z)).trans (ub.frzs b o x (hc.keep e fun _ z => nomatch z))
  · obtain ⟨more, z⟩ := ub.tbls b ps (hc.keep e fun _ z => nomatch z)
    exact ⟨more, (plus_out (hc.out e fun _ z => nomatch z)).trans z⟩
  · by_cases z : inC cl a
    · obtain ⟨ob, v', e2, e3⟩ := cB a z
      have := fl.2.1
      rw [e3] at this; cases this
    · exact (plus_out z).trans na
end
end
end DV
end

section
set_option linter.all false
set_option maxRecDepth 100000
set_option maxHeartbeats 1000000
/-! DV16: a closure is called. -/
namespace DV
open PySem PySem.Spec PyProof.Rows L2 LamX NdefX
abbrev nfOf (L : LamI) (cl : List (Str × Addr)) (c' : Addr) : NF := ⟨"<lambda>", L.qual, L.params, [], L.scope, cl, c'⟩
/-- the closure of number k, told -/
structure CLo (C : PC) (P : Program) (w : World) (K : PySem.W.Frag) (mg : Str → Option Value) (base : Heap) (n k : Nat) (L : LamI) (N ps : List Str) (d : CLam) : Prop where
  at_ : C.P.lams[k]? = some d
  np : d.np = ps.length
  nc : d.nc = L.fr.length
  nn : d.n = N.length
  ns : NScope N ps L.fr L.scope
  pl : ∀ cl pm cdv ctv, PlainPs (PySem.W.kla_fn "<lambda>" L.qual L.params L.body L.scope cl pm cdv ctv) ps
  body : ∀ (A : Around) (outer : List PySem.Env) (s : Shared) (H : Hp) (E : XK) (f c' : Addr) (cl : List (Str × Addr)), A.guards = some [] → Room n (A.deeper (envF (nfOf L cl c') f s.heap.objs.size)) →
    DE C (tell C.P n) (ncx (L2.CX P w) P w K mg base N (nfOf L cl c') f A outer s H E) d.body L.body
theorem start_sls {C : PC} {W : GW} {N0 : Addr → Prop} {H : Hp} {vs : List V} {ds : List D} {n : Nat} (r : RepsW C W vs ds) : Sls C W N0 (vs.map some ++ List.replicate (n - vs.length) none) (DV.start n ds) H := by
  have hl := r.length
  refine ⟨by simp [DV.start, hl], fun i d e => ?_, fun i xs e => ?_, fun i j xs ys a e => ?_, fun i e => ?_⟩
  · unfold DV.start at e
    by_cases h : i < ds.length
    · rw [List.getElem?_append_left (by simpa using h), List.getElem?_map] at e
      obtain ⟨x, ex, e⟩ := Option.map_eq_some_iff.mp e
      cases e
      obtain ⟨v, ev, rv⟩ := r.get ex
      exact ⟨v, by rw [List.getElem?_append_left (by simpa [hl] using h), List.getElem?_map, ev]; rfl, rv⟩
    · rw [List.getElem?_append_right (by simpa using h), List.getElem?_replicate] at e
      split at e <;> cases e
  · unfold DV.start at e
    by_cases h : i < ds.length
    · rw [List.getElem?_append_left (by simpa using h), List.getElem?_map] at e
      obtain ⟨x, ex, e⟩ := Option.map_eq_some_iff.mp e
      cases e
    · rw [List.getElem?_append_right (by simpa using h), List.getElem?_replicate] at e
      split at e <;> cases e
  · unfold DV.start at e
    by_cases h : i < ds.length
    · rw [List.getElem?_append_left (by simpa using h), List.getElem?_map] at e
      obtain ⟨x, ex, e⟩ := Option.map_eq_some_iff.mp e
      cases e
    · rw [List.getElem?_append_right (by simpa using h), List.getElem?_replicate] at e
      split at e <;> cases e
  · unfold DV.start at e
    by_cases h : i < ds.length
    · rw [List.getElem?_append_left (by simpa using h), List.getElem?_map] at e
      obtain ⟨x, ex, e⟩ := Option.map_eq_some_iff.mp e
      cases e
    · rw [List.getElem?_append_right (by simpa using h), List.getElem?_replicate] at e
      split at e <;> cases e
theorem reps_len {C : PC} {F : Hp} {μ : List Addr} {vs : List V} {ds : List D} (r : Reps C F μ vs ds) : vs.length = ds.length := r.length
section
variable {C : PC} {P : Program} {w : World} {K : PySem.W.Frag} {mg : Str → Option Value} {base : Heap}
theorem run_clo {n k : Nat} {N ps : List Str} {d : CLam} (HL : ∀ L, C.lamOk k L → CLo C P w K mg base n k L N ps d) {A : Around} {outer : List PySem.Env} {s : Shared} {W : GW} {H : Hp} {st : St} {f : Addr} {caps ds : List D} {us : List Value} {vs : List V} {Q : VK} {E : XK} (hgd : A.guards = some []) (hr : Room (n + 1) A)
    (e0 : Env0 P w K mg base A outer s H) (m : MemOk C W st H) (rv : RepW C W (.ref f) (.clo k caps)) (r : Vals vs us) (rd : RepsW C W vs ds) (hp : plas ds = true) (hps : st.all plas = true) (p : Post C (RepW C) (callC C.P (n + 1) k caps ds st) W H Q E) :
    codeAny (model P w) A (.call (.ref f) ⟨us, []⟩) (CR (L2.CX P w) outer P w H s Q E) s := by
  generalize hv : V.ref f = v at rv
  cases rv with
  | clo hLk hF hC hlen hhas hall hinj hcaps =>
    rename_i f' c' LL cl wsV
    cases hv
    have L := HL LL hLk
    have hcF : CellsIn cl W.F := hall
    have hcH : CellsIn cl H := hcF.mono m.sub
    have hok := e0.hok
    have hFH := m.sub _ _ hF
    have hCH := m.sub _ _ hC
    -- the interpreter's step
    rw [callC, L.at_] at p
    by_cases hq : ds.length = d.np ∧ caps.length = d.nc
    case neg => simp only [if_neg hq] at p; exact p.elim
    simp only [if_pos hq] at p
    have hvl : vs.length = ps.length := by rw [rd.length, hq.1, L.np]
    have hul : us.length = ps.length := by rw [← r.length, hvl]
    have lim : s.heap.NoLimit := e0.mod.nolimit.keeps fun b o e => (e0.bs b o e).1
    obtain ⟨⟨pm, ctv, ho⟩, _⟩ := hok f _ hFH
    have mm := m.minus hcF hok hps
    have hokm := HOk.minus hok hcH
    have e0m : Env0 P w K mg base A outer s (DV.minus H cl) := ⟨e0.frames, e0.mod, fun b o e => ⟨(e0.bs b o e).1, by
        have := (e0.bs b o e).2
        exact (minus_out (hcH.outN this)).trans this⟩, e0.bsz, e0.funs, fun b hb => by
        have := e0.frf b hb
        exact (minus_out (hcH.outN this)).trans this, hokm, e0.bare⟩
    have hCA : CellsAt cl LL.fr (wsV.map some) s.heap (DV.minus H cl) := by
      refine ⟨by rw [List.length_map]; exact hlen, fun y c e => ?_, hinj, fun i y e => ?_⟩
      · obtain ⟨o, w', z⟩ := hcH y c e
        obtain ⟨h1, u, h2, h3⟩ := capc_at hok z
        exact ⟨minus_in ⟨y, e⟩, some u, o, h1, h2⟩
      · have hi : i < wsV.length := by rw [hlen]; exact (List.getElem?_eq_some_iff.mp e).1
        obtain ⟨c, o, h1, h2⟩ := hhas i y wsV[i] e (List.getElem?_eq_getElem hi)
        refine ⟨c, h1, fun v hv => ?_⟩
        rw [List.getElem?_map, List.getElem?_eq_getElem hi] at hv
        cases hv
        obtain ⟨h3, u, h4, h5⟩ := capc_at hok (m.sub _ _ h2)
        exact ⟨u, h5, o, h3, h4⟩
    have fin : codeAny (model P w) A (.call (.ref f) ⟨us, []⟩) (CR (L2.CX P w) outer P w (DV.minus H cl) s (fun v H' => (∀ c, inC cl c → H' c = none) → Q v (plus H cl H')) (fun cls dd H' => (∀ c, inC cl c → H' c = none) → E cls dd (plus H cl H'))) s := by
      refine PySem.W.kla_callFunE hr.depth ho rfl L.ns.co L.ns.gen rfl (codeO_at hok hCH) ?_
      have hb := bindK (L.pl cl pm (.ref c') ctv) us [] (by simpa using hul) (by
        have q := L.ns.nd.sublist (List.take_sublist (ps.length + LL.fr.length) N)
        rw [L.ns.pre] at q
        exact (List.nodup_append.mp q).1)
      rw [List.zip_nil_right, List.append_nil] at hb
      rw [hb]
      refine wpAny_pure (wpAny_newFunctionEnv L.ns.nocell (fun ⟨nm, _⟩ hy => L.ns.par nm (List.of_mem_zip hy).1) (fun h₁ hns hsb => ⟨lim.fresh _ hsb, ?_⟩) L.ns.kind)
      have kp : ∀ b o, s.heap.get? b = some o → h₁.get? b = some o := fun b o e => hsb.extBut b o (Nat.ne_of_lt (Heap.lt_size e)) (Heap.get?_push_of_some _ e)
      have J := inv_startN (CX := L2.CX P w) (F := nfOf LL cl c') (f := f) (E := fun cls dd H' => (∀ c, inC cl c → H' c = none) → E cls dd (plus H cl H')) (tk := s.toks + (ps.zip us).length) L.ns hr.hd e0m hvl r hCA hns kp
      have hB := L.body A outer s (DV.minus H cl) (fun cls dd H' => (∀ c, inC cl c → H' c = none) → E cls dd (plus H cl H')) f c' cl hgd (hr.deeper _)
      have tkB := takes_of (X := ncx (L2.CX P w) P w K mg base N (nfOf LL cl c') f A outer s (DV.minus H cl) (fun cls dd H' => (∀ c, inC cl c → H' c = none) → E cls dd (plus H cl H'))) (E := fun cls dd H' => (∀ c, inC cl c → H' c = none) → E cls dd (plus H cl H')) rfl rfl rfl rfl
      refine PySem.W.kla_codeExpr (wpAny_mono ((hB _ tkB).run [] _ _ _ _ J ⟨fun _ => True, ⟨DV.minus W.F cl, W.μ⟩, DV.start d.n (ds ++ caps), st, ⟨mm, ?_⟩, p.minus m hcF⟩) (fun v s' hq => ?_) fun e s' hq => hq)
      · have hs := start_sls (C := C) (W := ⟨DV.minus W.F cl, W.μ⟩) (N0 := fun _ => True) (H := DV.minus H cl) (n := d.n) (Reps.append (rd.minus hcF hp) hcaps)
        unfold startF
        rw [L.nn] at hs ⊢
        have e1 : (vs ++ wsV).map some ++ List.replicate (N.length - (vs ++ wsV).length) none = vs.map some ++ (wsV.map some ++ List.replicate (N.length - vs.length - (wsV.map some).length) none) := by
          rw [List.map_append, List.append_assoc, List.length_append, List.length_map, Nat.sub_sub]
        rw [e1] at hs
        exact hs
      · obtain ⟨w', H', J', rv, q⟩ := hq
        exact ⟨w', H', J'.os, J'.bare, J'.base, J'.hok, rv, q⟩
    refine codeAny_mono fin fun r s' hq => ?_
    cases r with
    | error e => exact cx_plus hok hcH e0.frf hq
    | ok fl =>
      cases fl with
      | ret u => exact ce_plus hok hcH e0.frf hq
      | next => exact False.elim hq
      | brk => exact False.elim hq
      | cont => exact False.elim hq
end
end DV
end

section
set_option linter.all false
set_option maxRecDepth 100000
set_option maxHeartbeats 1000000
/-! DV17: calls of what a name holds; a lambda handed to a def. -/
namespace DV
open PySem PySem.Spec PyProof.Rows L2 LamX NdefX
section
variable {C : PC} {X : Cx} {G : Tell}
/-- what a call of what a name holds may come to -/
structure AllF (C : PC) (P : Program) (w : World) (K : PySem.W.Frag) (mg : Str → Option Value) (base : Heap) (n : Nat) : Prop where
  defs : ∀ (g : Nat) (d : CDef), C.P.defs[g]? = some d → ∃ ps, DF C P w K mg base n g ps
  lams : ∀ (m k : Nat) (d : CLam), n = m + 1 → C.P.lams[k]? = some d → ∃ N ps, ∀ L, C.lamOk k L → CLo C P w K mg base m k L N ps d
theorem cloRep {W : GW} {v : V} {k : Nat} {caps : List D} (r : RepW C W v (.clo k caps)) : ∃ f c' cl L, v = .ref f ∧ W.F f = some (LamO f L cl c') := by
  cases r
  exact ⟨_, _, _, _, rfl, by assumption⟩
theorem callC_at {P : CProg} {n k : Nat} {caps ds : List D} {st : St} (h : callC P n k caps ds st ≠ .bad) : ∃ m d, n = m + 1 ∧ P.lams[k]? = some d := by
  cases n with
  | zero => exact absurd (by simp [callC]) h
  | succ m =>
    cases hd : P.lams[k]? with
    | none => rw [callC, hd] at h; exact absurd rfl h
    | some d => exact ⟨m, d, rfl, rfl⟩
theorem one_args {ca : DV.CE} {Wx : WX'} {α β : Type} {rel : GW → β → α → Prop} {f : List D → St → R α} {σ : L2.St} {H : Hp} {Q : β → Hp → Prop} {N0 W ρ st} (n : Now C N0 W ρ st σ H)
    (p : Post C rel ((evA G ca ρ st).bind fun x st => f x st) W H Q (fun cls dd H' => Wx cls dd σ H')) :
    tA C Wx (evA G ca) σ H fun x H1 => ∃ W1 st a, Now C N0 W1 ρ st σ H1 ∧ Grow W H W1 H1 ∧ RepsW C W1 x a ∧ a.length = ceLen ca ∧ Post C rel (f a st) W1 H1 Q (fun cls dd H' => Wx cls dd σ H') :=
  ⟨N0, W, ρ, st, n, (p.bindE (rel := RepsW C)).imp fun x H1 ⟨W1, a, st1, e1, g1, m1, ra, p1⟩ => ⟨W1, st1, a, n.grow g1 m1, g1, ra, evA_len _ e1, p1⟩⟩
theorem de_callv {n i : Nat} (hF : G.F = callF C.P n) (hC : G.C = callC C.P n) (hS : G.sig = sigOf C.P) {ca ck : DV.CE} {sg : Option Nat} {x : Str} {es : List Expr} {kws : List Keyword} {p pos : Pos} (A : AllF C X.prog X.w X.K X.mg X.base n) (hgd : X.A.guards = some []) (hr : Room n X.A)
    (hN : X.N[i]? = some x) (hv : Vis X.env.scope x) (hd : (x == ("__debug__" : Str)) = false) (hcd : (x == ("__classdict__" : Str)) = false) (hs : es.all notStar = true) (hk : kws.all (·.arg.isSome) = true) (hnm : ∀ t, sg = some t → kws.filterMap (·.arg) = (C.sg t).drop es.length) (hno : sg = none → kws = [])
    (hnl : es = [] → ca = .nil) (hl1 : ceLen ca = es.length) (ha : DA C G X ca es) (hkw : DK C G X ck kws) : DE C G X (.callv i ca ck sg) (.Call (.Name x p) es kws pos) := fun Wx tk => by
  refine ⟨fun pins s σ H Q I ⟨N0, W, ρ, st, n0, pp⟩ => ?_⟩
  simp only [evE] at pp
  cases hsv : sval ρ i with
  | none => rw [hsv] at pp; exact pp.elim
  | some d =>
    rw [hsv] at pp
    have hρ : ρ[i]? = some (.val d) := by
      unfold sval at hsv
      split at hsv <;> cases hsv
      assumption
    obtain ⟨v, ev, rv⟩ := n0.2.val i d hρ
    refine wpAny_Call_Name_kw (thn ((pe_var (pos := p) hN hv hd hcd).run pins s σ H (fun v' H1 => v' = v ∧ H1 = H) I ⟨v, ev, rfl, rfl⟩) fun u s1 ⟨v', H1, I1, r1, q1⟩ => ?_)
    obtain ⟨e1', e2'⟩ := q1
    subst e1'
    rw [e2'] at I1
    cases d <;> try exact pp.elim
    · -- a def
      rename_i g
      obtain ⟨rfl, d, hd'⟩ := fnRep rv
      cases r1
      obtain ⟨ps, F⟩ := A.defs g d hd'
      cases hsg : sg with
      | none =>
        subst hsg
        have pp' : Post C (RepW C) ((evA G ca ρ st).bind fun xs st => (evA G ck ρ st).bind fun ys st => if ys.isEmpty then G.F g (xs ++ ys) st else .bad) W _ Q (fun cls dd H' => Wx cls dd σ H') := pp
        refine call_args (ha Wx tk) (hkw Wx tk) hs hk F.keep (fun e Q h => tA_nil (hnl e) h) I1 (two_args n0 pp') fun us ws s2 vs zs H2 I2 r rz ⟨W2, st2, as, bs, n2, ra, rb, e1, e2, p2⟩ => ?_
        split at p2
        · rename_i hcond
          rw [hF] at p2
          rw [hno rfl]
          have z := run_G F hgd hr tk I2 r rz (sp_of n2.1 (ra.append rb) p2)
          have hb0 : bs = [] := by simpa using hcond
          have hw0 : ws = [] := by
            have : ws.length = 0 := by rw [← rz.length, rb.length, hb0]; rfl
            exact List.length_eq_zero_iff.mp this
          rw [hw0, List.zip_nil_right] at z
          simpa [hw0] using z
        · exact p2.elim
      | some t =>
        subst hsg
        have pp' : Post C (RepW C) ((evA G ca ρ st).bind fun xs st => (evA G ck ρ st).bind fun ys st => if (G.sig g == t) then G.F g (xs ++ ys) st else .bad) W _ Q (fun cls dd H' => Wx cls dd σ H') := pp
        refine call_args (ha Wx tk) (hkw Wx tk) hs hk F.keep (fun e Q h => tA_nil (hnl e) h) I1 (two_args n0 pp') fun us ws s2 vs zs H2 I2 r rz ⟨W2, st2, as, bs, n2, ra, rb, e1, e2, p2⟩ => ?_
        have hus : us.length = es.length := by rw [← r.length, ra.length, e1, hl1]
        split at p2
        · rename_i hcond
          rw [hF] at p2
          have ht : sigOf C.P g = t := by rw [hS] at hcond; simpa using hcond
          rw [hnm t rfl, ← ht, F.sg, ← hus]
          exact run_G F hgd hr tk I2 r rz (sp_of n2.1 (ra.append rb) p2)
        · exact p2.elim
    · -- a closure
      rename_i k caps
      obtain ⟨f, c', cl, LL, rfl, hFf⟩ := cloRep rv
      obtain rfl : u = Value.ref f := r1
      cases sg with
      | some t => exact pp.elim
      | none =>
        have hk0 := hno rfl
        subst hk0
        have pp' : Post C (RepW C) ((evA G ca ρ st).bind fun xs st => if plas xs && st.all plas then G.C k caps xs st else .bad) W _ Q (fun cls dd H' => Wx cls dd σ H') := pp
        have fnAt : ∀ {W2 : GW} {H2 : Hp} {s2 : Shared} {st2 : St}, L2.Inv X pins σ H2 s2 → MemOk C W2 st2 H2 → W2.F f = some (LamO f LL cl c') → PySem.W.FnAt f s2.heap := fun I2 m2 e => by
          obtain ⟨⟨pm, ctv, ho⟩, _⟩ := I2.hok f _ (m2.sub _ _ e)
          exact ⟨_, _, _, _, ho⟩
        have fin : ∀ us s2 vs H2, L2.Inv X pins σ H2 s2 → Vals vs us → (∃ W1 st a, Now C N0 W1 ρ st σ H2 ∧ Grow W H W1 H2 ∧ RepsW C W1 vs a ∧ a.length = ceLen ca ∧ Post C (RepW C) (if plas a && st.all plas then G.C k caps a st else .bad) W1 H2 Q (fun cls dd H' => Wx cls dd σ H')) →
            PySem.W.FnAt f s2.heap ∧ wpAny (model X.prog X.w) X.A (call (.ref f) us) (EP X pins σ Q) X.xe s2 := fun us s2 vs H2 I2 r ⟨W1, st1, as, n1, g1, ra, _, p1⟩ => by
          refine ⟨fnAt I2 n1.1 (g1.fr _ _ hFf), ?_⟩
          split at p1
          · rename_i hpl
            simp only [Bool.and_eq_true] at hpl
            rw [hC] at p1
            obtain ⟨m, d, rfl, hl⟩ := callC_at p1.ne_bad
            obtain ⟨N, ps, L⟩ := A.lams m k d rfl hl
            refine wpAny_call (codeAny_mono (run_clo L hgd hr I2.env0 n1.1 (g1.rep rv) r ra hpl.1 hpl.2 p1) fun r s' hq => ?_)
            cases r with
            | error e => exact passAt tk σ pins H2 s2 e s' I2 hq
            | ok fl =>
              cases fl with
              | ret u => exact I2.after hq
              | next => exact False.elim hq
              | brk => exact False.elim hq
              | cont => exact False.elim hq
          · exact p1.elim
        cases es with
        | nil =>
          have q := tA_nil (hnl rfl) (one_args n0 pp')
          exact PySem.W.callWith_F0 (first := []) (fnAt I1 n0.1 hFf) (fin [] s1 [] _ I1 .nil q).2
        | cons e es =>
          have hs' := hs
          simp only [List.all_cons, Bool.and_eq_true] at hs'
          exact PySem.W.callWith_F (first := []) (fnAt I1 n0.1 hFf) (thn ((ha Wx tk).run pos pins s1 σ _ _ I1 (one_args n0 pp')) fun us s2 ⟨vs, H2, I2, r, q⟩ => fin us s2 vs H2 I2 r q) (starEach_of hs'.1 es X.env) (star_any es hs'.2)
end
end DV
end

section
set_option linter.all false
set_option maxRecDepth 100000
set_option maxHeartbeats 2000000
/-! DV18: a lambda is made and handed to a def. -/
namespace DV
open PySem PySem.Spec PyProof.Rows L2 LamX NdefX
section
variable {X : Cx} {pins : List (Addr × Obj)} {σ : L2.St} {H : Hp} {s : Shared}
theorem lamO_new {P : Program} {w : World} {H : Hp} {h : Heap} {f c' : Addr} {L : LamI} {cl : List (Str × Addr)} {pm ctv : Value} (e : h.get? f = some (PySem.W.kla_obj "<lambda>" L.qual L.params L.body L.scope cl pm c' ctv)) : ObjOk P w H h f (LamO f L cl c') :=
  ⟨⟨pm, ctv, e⟩, ⟨_, e⟩, fun h1 h2 ⟨p, c, a⟩ st => ⟨p, c, st _ a⟩⟩
/-- the lambda is made and told; nothing that was told is gone -/
theorem lam_make3 {T : List (Addr × Str)} {W : GW} {c P : Addr} {L : LamI} {pos : Pos} {E : Value → Shared → Prop} {Q : Value → Shared → Prop} (I : L2.Inv X pins σ H s) (TB : TabB X.base X.mg c P) (hcode : X.env.code = .ref c) (hq : L.qual = X.env.qual ++ "<lambda>")
    (hm : (P, L.qual) ∈ T) (hu : ∀ p ∈ T, p.1 = P → p.2 = L.qual) (sub : ∀ a o, W.F a = some o → H a = some o) (nt : ∀ a ps, W.F a ≠ some (.tbl ps)) (hT : TabsW T W H) (hdef : defaultsOf L.params X.env = ([], [])) (hfree : ∀ y ∈ L.scope.names, y.2 = .free → ∃ c, X.env.cells.lookup y.1 = some c)
    (h : ∀ (f c' : Addr) (W1 : GW) (H1 : Hp) (s' : Shared), L2.Inv X pins σ H1 s' → W1.μ = W.μ → (∀ a o, W.F a = some o → W1.F a = some o) → (∀ a o, W1.F a = some o → W.F a = some o ∨ H a = none) → ExtN H H1 → (∀ b, H1 b = none → H b = none) → TabsW T W1 H1 →
      (∀ a o, W1.F a = some o → H1 a = some o) → (∀ a ps, W1.F a ≠ some (.tbl ps)) → W1.F f = some (LamO f L (cloFrom X.env.cells L.scope.names []) c') → W1.F c' = some (CodeO c' L.qual) → Q (.ref f) s') :
    wpAny (model X.prog X.w) X.A (eval (.Lambda L.params L.body L.scope pos) X.env) Q E s := by
  obtain ⟨ps, hP, ht, ha⟩ := hT _ hm
  refine PySem.W.kla_eval hdef ?_
  rw [← hq]
  have bP : s.heap.BuiltinsAt X.mg P := TB.bm.keeps I.bk
  have hP' : s.heap.get? P = some { cls := .none, data := .fields ps } := I.hok P _ hP
  have nF : ∀ {a : Addr}, H a = none → W.F a = none := fun {a} e => by
    cases q : W.F a with
    | none => rfl
    | some o => rw [sub _ _ q] at e; cases e
  have PF : W.F P = none := by
    cases q : W.F P with
    | none => rfl
    | some o =>
      have := sub _ _ q
      rw [hP] at this; cases this
      exact absurd q (nt P ps)
  cases hc : codeAmong pos ps.toList with
  | none =>
    refine PySem.W.kla_makeFunction (mg := X.mg) (c := c) (P := P) (ps := ps) (closure_ok hfree) I.ok.glob (I.mod.glob.keeps I.bk) hcode (TB.code.keeps I.bk) hP' ht hc TB.gP bP fun c' ctv h' tk hx hge hlt hrec htb => ?_
    obtain ⟨c2, oc, vs, t, e2, hoc, hd, hv⟩ := hrec
    cases e2
    have hsz : s.heap.objs.size ≤ h'.objs.size := Nat.le_trans hge (Nat.le_of_lt hlt)
    have nC : H c' = none := I.hok.fresh hge
    have nf : H h'.objs.size = none := I.hok.fresh hsz
    have ncf : h'.objs.size ≠ c' := Nat.ne_of_gt hlt
    have nPc : P ≠ c' := ne_of_none hP nC
    have nPf : P ≠ h'.objs.size := ne_of_none hP nf
    have I0 := inv_table (t' := tk) (q := L.qual) (more := #[rawInt pos.line, rawInt pos.col, .ref c']) (h' := h') I hP hx htb hge ⟨oc, vs, t, hoc, hd, hv⟩
    have I1 := I0.laid (a := h'.objs.size) (o := LamO h'.objs.size L (cloFrom X.env.cells L.scope.names []) c') (t' := tk) (h' := h'.push (PySem.W.kla_obj "<lambda>" L.qual L.params L.body L.scope (cloFrom X.env.cells L.scope.names []) ((X.mg "__name__").getD .none) c' ctv))
      (fun b u e => Heap.get?_push_of_some _ e) (Nat.le_refl _) (lamO_new (Heap.get?_push_size _ rfl))
    have eL : (ps ++ #[rawInt pos.line, rawInt pos.col, .ref c']).toList = ps.toList ++ [rawInt pos.line, rawInt pos.col, .ref c'] := by simp
    have fr : ∀ a o, W.F a = some o → upd (upd W.F c' (CodeO c' L.qual)) h'.objs.size (LamO h'.objs.size L (cloFrom X.env.cells L.scope.names []) c') a = some o := fun a o e => by
      rw [upd_ne (fun z => by rw [z, nF nf] at e; cases e), upd_ne (fun z => by rw [z, nF nC] at e; cases e)]; exact e
    have eN : ExtN H (upd (upd (upd H P (.tbl (ps ++ #[rawInt pos.line, rawInt pos.col, .ref c']))) c' (CodeO c' L.qual)) h'.objs.size (LamO h'.objs.size L (cloFrom X.env.cells L.scope.names []) c')) := fun b o e n => by
      rw [upd_ne (ne_of_none e nf), upd_ne (ne_of_none e nC), upd_ne (fun z => n ps (Option.some.inj (e.symm.trans (by rw [z]; exact hP))))]
      exact e
    refine h h'.objs.size c' ⟨upd (upd W.F c' (CodeO c' L.qual)) h'.objs.size (LamO h'.objs.size L (cloFrom X.env.cells L.scope.names []) c'), W.μ⟩ _ _ I1 rfl fr (fun a o e => ?_) eN (fun b e => ?_) (fun p hp => ?_) (fun a o e => ?_) (fun a qs e => ?_) upd_same ?_
    · have e' : upd (upd W.F c' (CodeO c' L.qual)) h'.objs.size (LamO h'.objs.size L (cloFrom X.env.cells L.scope.names []) c') a = some o := e
      by_cases z : a = h'.objs.size
      · exact .inr (z ▸ nf)
      · rw [upd_ne z] at e'
        by_cases z2 : a = c'
        · exact .inr (z2 ▸ nC)
        · rw [upd_ne z2] at e'; exact .inl e'
    · by_cases z : b = h'.objs.size
      · exact z ▸ nf
      · rw [upd_ne z] at e
        by_cases z2 : b = c'
        · exact z2 ▸ nC
        · rw [upd_ne z2] at e
          by_cases z3 : b = P
          · rw [z3, upd_same] at e; cases e
          · rw [upd_ne z3] at e; exact e
    · by_cases hb : p.1 = P
      · rw [hu p hp hb, hb]
        refine ⟨_, by rw [upd_ne nPf, upd_ne nPc, upd_same], by rw [eL]; exact PySem.TriplesOk_snoc _ _ _ _ ht, fun p' cv hcv => ?_⟩
        rw [eL] at hcv
        rcases among_app _ ht hcv with z | z
        · obtain ⟨c0, e1, e2⟩ := ha p' cv z
          exact ⟨c0, e1, fr _ _ e2⟩
        · exact ⟨c', z, by show upd _ _ _ c' = _; rw [upd_ne (Ne.symm ncf), upd_same]⟩
      · obtain ⟨ps', a1, a2, a3⟩ := hT p hp
        refine ⟨ps', by rw [upd_ne (ne_of_none a1 nf), upd_ne (ne_of_none a1 nC), upd_ne hb]; exact a1, a2, fun p' cv hcv => ?_⟩
        obtain ⟨c0, e1, e2⟩ := a3 p' cv hcv
        exact ⟨c0, e1, fr _ _ e2⟩
    · have e' : upd (upd W.F c' (CodeO c' L.qual)) h'.objs.size (LamO h'.objs.size L (cloFrom X.env.cells L.scope.names []) c') a = some o := e
      by_cases z : a = h'.objs.size
      · subst z; rw [upd_same] at e'; cases e'; exact upd_same
      · rw [upd_ne z] at e' ⊢
        by_cases z2 : a = c'
        · subst z2; rw [upd_same] at e'; cases e'; exact upd_same
        · rw [upd_ne z2] at e' ⊢
          rw [upd_ne (fun z3 => by rw [z3, PF] at e'; cases e')]
          exact sub _ _ e'
    · have e' : upd (upd W.F c' (CodeO c' L.qual)) h'.objs.size (LamO h'.objs.size L (cloFrom X.env.cells L.scope.names []) c') a = some (.tbl qs) := e
      by_cases z : a = h'.objs.size
      · subst z; rw [upd_same] at e'; cases e'
      · rw [upd_ne z] at e'
        by_cases z2 : a = c'
        · subst z2; rw [upd_same] at e'; cases e'
        · rw [upd_ne z2] at e'; exact nt a qs e'
    · show upd _ _ _ c' = _
      rw [upd_ne (Ne.symm ncf), upd_same]
  | some cv =>
    obtain ⟨c', e, hco⟩ := ha pos cv hc
    subst e
    refine PySem.W.kla_makeFunctionHit (mg := X.mg) (c := c) (P := P) (ps := ps) (closure_ok hfree) I.ok.glob (I.mod.glob.keeps I.bk) hcode (TB.code.keeps I.bk) hP' ht hc bP fun ctv h' tk hx hsz => ?_
    have nf : H h'.objs.size = none := I.hok.fresh hsz
    have I0 : L2.Inv X pins σ H { s with heap := h', toks := tk } := I.kept hx
    have I1 := I0.laid (a := h'.objs.size) (o := LamO h'.objs.size L (cloFrom X.env.cells L.scope.names []) c') (t' := tk) (h' := h'.push (PySem.W.kla_obj "<lambda>" L.qual L.params L.body L.scope (cloFrom X.env.cells L.scope.names []) ((X.mg "__name__").getD .none) c' ctv))
      (fun b u e => Heap.get?_push_of_some _ e) (Nat.le_refl _) (lamO_new (Heap.get?_push_size _ rfl))
    have fr : ∀ a o, W.F a = some o → upd W.F h'.objs.size (LamO h'.objs.size L (cloFrom X.env.cells L.scope.names []) c') a = some o := fun a o e => by
      rw [upd_ne (fun z => by rw [z, nF nf] at e; cases e)]; exact e
    have kp : ∀ a o, H a = some o → upd H h'.objs.size (LamO h'.objs.size L (cloFrom X.env.cells L.scope.names []) c') a = some o := fun a o e => by
      rw [upd_ne (ne_of_none e nf)]; exact e
    refine h h'.objs.size c' ⟨upd W.F h'.objs.size (LamO h'.objs.size L (cloFrom X.env.cells L.scope.names []) c'), W.μ⟩ _ _ I1 rfl fr (fun a o e => ?_) (fun b o e _ => kp b o e) (fun b e => ?_) (hT.mono (fun a ps e => kp a _ e) fr) (fun a o e => ?_) (fun a qs e => ?_) upd_same (fr _ _ hco)
    · have e' : upd W.F h'.objs.size (LamO h'.objs.size L (cloFrom X.env.cells L.scope.names []) c') a = some o := e
      by_cases z : a = h'.objs.size
      · exact .inr (z ▸ nf)
      · rw [upd_ne z] at e'; exact .inl e'
    · by_cases z : b = h'.objs.size
      · exact z ▸ nf
      · rw [upd_ne z] at e; exact e
    · have e' : upd W.F h'.objs.size (LamO h'.objs.size L (cloFrom X.env.cells L.scope.names []) c') a = some o := e
      by_cases z : a = h'.objs.size
      · subst z; rw [upd_same] at e'; cases e'; exact upd_same
      · rw [upd_ne z] at e'; exact kp _ _ (sub _ _ e')
    · have e' : upd W.F h'.objs.size (LamO h'.objs.size L (cloFrom X.env.cells L.scope.names []) c') a = some (.tbl qs) := e
      by_cases z : a = h'.objs.size
      · subst z; rw [upd_same] at e'; cases e'
      · rw [upd_ne z] at e'; exact nt a qs e'
end
/-! ### the lambda as an argument -/
/-- what the maker must be: its code, its table -/
structure LamC (C : PC) (X : Cx) (L : LamI) : Prop where
  ex : ∃ c P, TabB X.base X.mg c P ∧ X.env.code = .ref c ∧ (P, L.qual) ∈ C.T ∧ ∀ p ∈ C.T, p.1 = P → p.2 = L.qual
  qual : L.qual = X.env.qual ++ "<lambda>"
  dflt : defaultsOf L.params X.env = ([], [])
  free : ∀ y ∈ L.scope.names, y.2 = .free → X.env.scope.names.lookup y.1 = some .cell ∨ X.env.scope.names.lookup y.1 = some .free
abbrev clOf (X : Cx) (L : LamI) : List (Str × Addr) := cloFrom X.env.cells L.scope.names []
def tLamE (C : PC) (L : LamI) (caps : List Nat) (cl : List (Str × Addr)) : TE := fun σ H Q => ∃ N0 W ρ st cs, Now C N0 W ρ st σ H ∧ caps.mapM (sval ρ) = some cs ∧
  ∀ f c' W' H', Grow W H W' H' → MemOk C W' st H' → W'.F f = some (LamO f L cl c') → W'.F c' = some (CodeO c' L.qual) → Q (.ref f) H'
theorem pe_lamE {C : PC} {X : Cx} {L : LamI} {caps : List Nat} {pos : Pos} (hL : LamC C X L) : PE X (.Lambda L.params L.body L.scope pos) (tLamE C L caps (clOf X L)) := by
  refine ⟨fun pins s σ H Q I ⟨N0, W, ρ, st, cs, n, _, q⟩ => ?_⟩
  obtain ⟨c, P, TB, hcode, hm, hu⟩ := hL.ex
  have m := n.1
  refine lam_make3 (T := C.T) (W := W) I TB hcode hL.qual hm hu m.sub m.nt m.tab hL.dflt (fun y hy e => (hL.free y hy e).elim (fun z => I.ok.has _ (.inl z)) fun z => I.ok.has _ (.inr z)) fun f c' W1 H1 s' I1 eμ fr fn eN al tb sub nt hf hc' => ?_
  have kp : ∀ a o, H a = some o → a ∉ W.μ → (∀ ps, o ≠ .tbl ps) → H1 a = some o := fun a o e _ nt => eN a o e nt
  have g : Grow W H W1 H1 := ⟨fr, fn, ⟨[], by simp [eμ]⟩, kp, al⟩
  refine ⟨.ref f, H1, I1, rfl, q f c' W1 H1 g ⟨sub, by rw [eμ]; exact m.len, fun l a xs e1 e2 => ?_, by rw [eμ]; exact m.nd, fun a ha => ?_, nt, tb⟩ hf hc'⟩
  · rw [eμ] at e1
    obtain ⟨vs, z, r⟩ := m.cell l a xs e1 e2
    exact ⟨vs, eN a _ z (fun _ z => nomatch z), g.reps r⟩
  · rw [eμ] at ha
    cases q : W1.F a with
    | none => rfl
    | some o =>
      rcases fn a o q with z | z
      · rw [m.nf a ha] at z; cases z
      · obtain ⟨l, hl, e⟩ := List.getElem_of_mem ha
        have e1 : W.μ[l]? = some a := by rw [List.getElem?_eq_getElem hl, e]
        have hl2 : l < st.length := m.len ▸ hl
        obtain ⟨vs, z', _⟩ := m.cell l a st[l] e1 (List.getElem?_eq_getElem hl2)
        rw [z] at z'; cases z'
end DV
end

section
set_option linter.all false
set_option maxRecDepth 100000
set_option maxHeartbeats 2000000
/-! DV19: the captured cells told while a callee holds the closure. -/
namespace DV
open PySem PySem.Spec PyProof.Rows L2 LamX NdefX
open Classical in
noncomputable def trk (H : Hp) (cl : List (Str × Addr)) (ob : Addr → Obj) (vl : Addr → V) : Hp := fun a => if inC cl a then some (CellO a (ob a) (vl a)) else H a
section
variable {C : PC} {P : Program} {w : World} {W : GW} {H : Hp} {st : St} {h : Heap} {cl : List (Str × Addr)} {ob : Addr → Obj} {vl : Addr → V} {a : Addr}
theorem trk_in (q : inC cl a) : trk H cl ob vl a = some (CellO a (ob a) (vl a)) := if_pos q
theorem trk_out (q : ¬ inC cl a) : trk H cl ob vl a = H a := if_neg q
def TrkOk (h : Heap) (cl : List (Str × Addr)) (ob : Addr → Obj) (vl : Addr → V) : Prop := ∀ c, inC cl c → h.get? c = some (ob c) ∧ ∃ u, (ob c).data = .cell (some u) ∧ RelV (vl c) u
def NoneIn (cl : List (Str × Addr)) (H : Hp) : Prop := ∀ c, inC cl c → H c = none
theorem NoneIn.out (hn : NoneIn cl H) {o : HO} (e : H a = some o) : ¬ inC cl a := fun q => by rw [hn a q] at e; cases e
theorem NoneIn.keep (hn : NoneIn cl H) {o : HO} (e : H a = some o) : trk H cl ob vl a = some o := (trk_out (hn.out e)).trans e
theorem trk_none (e : trk H cl ob vl a = none) : ¬ inC cl a ∧ H a = none := by
  by_cases q : inC cl a
  · rw [trk_in q] at e; cases e
  · rw [trk_out q] at e; exact ⟨q, e⟩
theorem HOk.trk (hok : HOk P w H h) (hn : NoneIn cl H) (hT : TrkOk h cl ob vl) : HOk P w (DV.trk H cl ob vl) h := fun b o e => by
  by_cases q : inC cl b
  · rw [trk_in q] at e; cases e
    exact cells_kept (hT b q).1 (hT b q).2 _
  · rw [trk_out q] at e
    exact (hok b o e).stay (fun _ _ _ z => z) (fun c z => hn.keep z) fun c xs z => hn.keep z
theorem MemOk.noneF (m : MemOk C W st H) (hn : NoneIn cl H) : NoneIn cl W.F := fun c q => by
  cases e : W.F c with
  | none => rfl
  | some o => have := m.sub _ _ e; rw [hn c q] at this; cases this
theorem MemOk.muS (m : MemOk C W st H) : ∀ a ∈ W.μ, ∃ o, H a = some o := fun a h => by
  obtain ⟨l, hl, e⟩ := List.getElem_of_mem h
  have e1 : W.μ[l]? = some a := by rw [List.getElem?_eq_getElem hl, e]
  have hl2 : l < st.length := m.len ▸ hl
  obtain ⟨vs, z, _⟩ := m.cell l a st[l] e1 (List.getElem?_eq_getElem hl2)
  exact ⟨_, z⟩
theorem MemOk.trk (m : MemOk C W st H) (hn : NoneIn cl H) : MemOk C ⟨DV.trk W.F cl ob vl, W.μ⟩ st (DV.trk H cl ob vl) := by
  have hF := m.noneF hn
  have fr : ∀ a o, W.F a = some o → DV.trk W.F cl ob vl a = some o := fun a o e => hF.keep e
  refine ⟨fun a o e => ?_, m.len, fun l a xs e1 e2 => ?_, m.nd, fun a ha => ?_, fun a ps e => ?_, m.tab.mono (fun a ps e => hn.keep e) fr⟩
  · have e' : DV.trk W.F cl ob vl a = some o := e
    by_cases q : inC cl a
    · rw [trk_in q] at e' ⊢; exact e'
    · rw [trk_out q] at e' ⊢; exact m.sub _ _ e'
  · obtain ⟨vs, z, r⟩ := m.cell l a xs e1 e2
    exact ⟨vs, hn.keep z, r.mono fr ⟨[], by simp⟩⟩
  · obtain ⟨o, z⟩ := m.muS a ha
    exact (trk_out (hn.out z)).trans (m.nf a ha)
  · have e' : DV.trk W.F cl ob vl a = some (.tbl ps) := e
    by_cases q : inC cl a
    · rw [trk_in q] at e'; cases e'
    · rw [trk_out q] at e'; exact m.nt a ps e'
theorem minus_trk (hn : NoneIn cl H) : DV.minus (DV.trk H cl ob vl) cl = H := by
  funext a
  by_cases q : inC cl a
  · rw [minus_in q, hn a q]
  · rw [minus_out q, trk_out q]
/-- the cells forgotten again -/
theorem forget {W' : GW} {H' : Hp} {st' : St} (m : MemOk C W st H) (hn : NoneIn cl H) (g : Grow ⟨DV.trk W.F cl ob vl, W.μ⟩ (DV.trk H cl ob vl) W' H') (m' : MemOk C W' st' H') (hok : HOk P w H' h) (hp : st'.all plas = true) :
    Grow W H ⟨DV.minus W'.F cl, W'.μ⟩ (DV.minus H' cl) ∧ MemOk C ⟨DV.minus W'.F cl, W'.μ⟩ st' (DV.minus H' cl) ∧ CellsIn cl W'.F := by
  have hF := m.noneF hn
  have hc : CellsIn cl W'.F := fun x c e => ⟨ob c, vl c, g.fr _ _ (trk_in ⟨x, e⟩)⟩
  refine ⟨⟨fun a o e => ?_, fun a o e => ?_, ?_, fun a o e nm nt => ?_, fun a e => ?_⟩, m'.minus hc hok hp, hc⟩
  · exact (minus_out (hF.out e)).trans (g.fr _ _ (hF.keep e))
  · obtain ⟨h1, h2⟩ := minus_some e
    rcases g.fn a o h2 with z | z
    · have z' : DV.trk W.F cl ob vl a = some o := z
      rw [trk_out h1] at z'; exact .inl z'
    · exact .inr (trk_none z).2
  · obtain ⟨more, e, n⟩ := g.mu
    exact ⟨more, e, fun a ha => (trk_none (n a ha)).2⟩
  · exact (minus_out (hn.out e)).trans (g.kp a o (hn.keep e) nm nt)
  · by_cases q : inC cl a
    · exact hn a q
    · rw [minus_out q] at e; exact (trk_none (g.al a e)).2
theorem Post.trk {r : R D} {Q : VK} {E : XK} (m : MemOk C W st H) (hn : NoneIn cl H) (p : Post C (RepW C) (plR r) W H Q E) :
    Post C (RepW C) r ⟨DV.trk W.F cl ob vl, W.μ⟩ (DV.trk H cl ob vl) (fun v H' => (∀ c, inC cl c → H' c = some (CellO c (ob c) (vl c))) ∧ ∀ h, HOk P w H' h → Q v (DV.minus H' cl))
      (fun cls dd H' => (∀ c, inC cl c → H' c = some (CellO c (ob c) (vl c))) ∧ ∀ h, HOk P w H' h → E cls dd (DV.minus H' cl)) := by
  cases r with
  | bad => exact p
  | ok d st' =>
    intro v H' W' g m' rv
    have p' : Post C (RepW C) (if pla d && st'.all plas then R.ok d st' else .bad) W H Q E := p
    split at p'
    · rename_i hp
      simp only [Bool.and_eq_true] at hp
      refine ⟨fun c q => m'.sub _ _ (g.fr _ _ (trk_in q)), fun h hok => ?_⟩
      obtain ⟨g2, m2, hc⟩ := forget m hn g m' hok hp.2
      exact p' v _ _ g2 m2 (rv.minus hc hp.1)
    · exact p'.elim
  | exc c ds st' =>
    intro cls dd H' W' g m' ev
    have p' : Post C (RepW C) (if plas ds && st'.all plas then R.exc c ds st' else .bad) W H Q E := p
    split at p'
    · rename_i hp
      simp only [Bool.and_eq_true] at hp
      refine ⟨fun c q => m'.sub _ _ (g.fr _ _ (trk_in q)), fun h hok => ?_⟩
      obtain ⟨g2, m2, hc⟩ := forget m hn g m' hok hp.2
      refine p' cls dd _ _ g2 m2 ?_
      obtain ⟨e, z⟩ := ev
      refine ⟨e, ?_⟩
      match ds, z, hp with
      | [], z, _ => exact z
      | [d], ⟨f, a, w, e0, e1, e2, r⟩, hp => exact ⟨f, a, w, e0, e1, hc.keep e2 (fun _ z => nomatch z), r.minus hc (by simpa [plas] using hp.1)⟩
    · exact p'.elim
theorem ce_minus {outer : List PySem.Env} {s s' : Shared} {Q : VK} {u : Value} (hn : NoneIn cl H) (hT : TrkOk s.heap cl ob vl) (hfr : ∀ c, inC cl c → c ∉ frs outer)
    (ce : L2.CE outer P w (DV.trk H cl ob vl) s (fun v H' => (∀ c, inC cl c → H' c = some (CellO c (ob c) (vl c))) ∧ ∀ h, HOk P w H' h → Q v (DV.minus H' cl)) u s') : L2.CE outer P w H s Q u s' := by
  obtain ⟨v, H', os, bare, un, hok', rv, hc, q⟩ := ce
  have hcI : CellsIn cl H' := fun x c e => ⟨_, _, hc c ⟨x, e⟩⟩
  have mn : ∀ {b : Addr}, ¬ inC cl b → H b = none → DV.trk H cl ob vl b = none := fun z n => (trk_out z).trans n
  refine ⟨v, DV.minus H' cl, os, bare, ⟨fun b o e n f x => ?_, fun b o e n f x => un.slot b o e (mn (fun z => hfr b z f) n) f x, fun b o e n x => ?_, un.there, fun b xs e => ?_, fun b o x e => ?_, fun b ps e => ?_⟩, HOk.minus hok' hcI, rv, q _ hok'⟩
  · by_cases z : inC cl b
    · have := (hT b z).1
      rw [this] at e; cases e
      exact (capc_at hok' (hc b z)).1
    · exact un.keep b o e (mn z n) f x
  · by_cases z : inC cl b
    · exact minus_in z
    · exact (minus_out z).trans (un.free b o e (mn z n) x)
  · exact (minus_out (hn.out e)).trans (un.tups b xs (hn.keep e))
  · exact (minus_out (hn.out e)).trans (un.frzs b o x (hn.keep e))
  · obtain ⟨more, z⟩ := un.tbls b ps (hn.keep e)
    exact ⟨more, (minus_out (hn.out e)).trans z⟩
theorem cx_minus {outer : List PySem.Env} {s s' : Shared} {E : XK} {u : Value} (hn : NoneIn cl H) (hT : TrkOk s.heap cl ob vl) (hfr : ∀ c, inC cl c → c ∉ frs outer)
    (cx : L2.CX P w outer (DV.trk H cl ob vl) s (fun cls dd H' => (∀ c, inC cl c → H' c = some (CellO c (ob c) (vl c))) ∧ ∀ h, HOk P w H' h → E cls dd (DV.minus H' cl)) u s') : L2.CX P w outer H s E u s' := by
  obtain ⟨a, B, H', cls, d, eu, fl, hok', ub, na, os, ag, hc, q⟩ := cx
  have hcI : CellsIn cl H' := fun x c e => ⟨_, _, hc c ⟨x, e⟩⟩
  have mn : ∀ {b : Addr}, ¬ inC cl b → H b = none → DV.trk H cl ob vl b = none := fun z n => (trk_out z).trans n
  refine ⟨a, B, DV.minus H' cl, cls, d, eu, fl, HOk.minus hok' hcI, ⟨fun b o e n f => ?_, ub.slot, fun b o e n => ?_, ub.there, fun b xs e => ?_, fun b o x e => ?_, fun b ps e => ?_⟩, ?_, os, ag, q _ hok'⟩
  · by_cases z : inC cl b
    · have := (hT b z).1
      rw [this] at e; cases e
      exact (capc_at hok' (hc b z)).1
    · exact ub.keep b o e (mn z n) f
  · by_cases z : inC cl b
    · exact minus_in z
    · exact (minus_out z).trans (ub.free b o e (mn z n))
  · exact (minus_out (hn.out e)).trans (ub.tups b xs (hn.keep e))
  · exact (minus_out (hn.out e)).trans (ub.frzs b o x (hn.keep e))
  · obtain ⟨more, z⟩ := ub.tbls b ps (hn.keep e)
    exact ⟨more, (minus_out (hn.out e)).trans z⟩
  · by_cases z : inC cl a
    · exact minus_in z
    · exact (minus_out z).trans na
end
/-! ### the arguments, the last a lambda -/
section
variable {C : PC} {X : Cx} {G : Tell}
def DAM (C : PC) (G : Tell) (X : Cx) (c : DV.CE) (es : List Expr) (lam : Expr) (t : TE) : Prop := ∀ Wx, Takes X Wx → PA X (es ++ [lam]) (fun σ H Q => tA C Wx (evA G c) σ H fun vs H1 => t σ H1 fun v H2 => Q (vs ++ [v]) H2)
theorem dam_nil {lam : Expr} {t : TE} (h : PE X lam t) (hs : notStar lam = true) : DAM C G X .nil [] lam t := fun Wx tk => (pa_cons h pa_nil (starEach_of hs _ _)).imp fun σ H Q q => tA_nil rfl q
theorem dam_cons {a r : DV.CE} {e lam : Expr} {es : List Expr} {t : TE} (hs : notStar e = true) (h1 : DE C G X a e) (h2 : DAM C G X r es lam t) : DAM C G X (.cons a r) (e :: es) lam t := fun Wx tk =>
  (pa_cons (h1 Wx tk) (h2 Wx tk) (starEach_of hs _ _)).imp fun σ H Q ⟨N0, W, ρ, st, n, p⟩ => by
    simp only [evA] at p
    refine ⟨N0, W, ρ, st, n, (p.bind (rel := RepW C)).imp fun x H1 ⟨W1, a, st1, g1, m1, ra, p1⟩ => ?_⟩
    refine ⟨N0, W1, ρ, st1, n.grow g1 m1, (p1.bind (rel := RepsW C)).imp fun xs H2 ⟨W2, as, st2, g2, m2, rs, p2⟩ => ?_⟩
    exact p2.okI m2 (.cons (g2.rep ra) rs)
theorem caps_vals {N0 : Addr → Prop} {W : GW} {ρ : Env} {st : St} {σ : L2.St} {H : Hp} (n : Now C N0 W ρ st σ H) : ∀ (caps : List Nat) {cs : List D}, caps.mapM (sval ρ) = some cs → ∃ wsV, RepsW C W wsV cs ∧ wsV.length = caps.length ∧ ∀ (i j : Nat), caps[i]? = some j → ∃ v, wsV[i]? = some v ∧ σ[j]? = some (some v)
  | [], cs, h => by
    simp at h; subst h
    exact ⟨[], .nil, rfl, fun i j e => by simp at e⟩
  | j :: caps, cs, h => by
    simp only [List.mapM_cons] at h
    obtain ⟨d, e1, h⟩ := Option.bind_eq_some_iff.mp h
    obtain ⟨ds, e2, h⟩ := Option.bind_eq_some_iff.mp h
    cases h
    obtain ⟨wsV, r, hl, hh⟩ := caps_vals n caps e2
    have hρ : ρ[j]? = some (.val d) := by
      unfold sval at e1
      split at e1 <;> cases e1
      assumption
    obtain ⟨v, ev, rv⟩ := n.2.val j d hρ
    refine ⟨v :: wsV, .cons rv r, by simp [hl], fun i j' e => ?_⟩
    cases i with
    | zero => simp at e; subst e; exact ⟨v, rfl, ev⟩
    | succ i => exact hh i j' (by simpa using e)
/-- captured names: where they stand in the maker -/
structure CapC (C : PC) (X : Cx) (LL : LamI) (caps : List Nat) : Prop where
  at_ : caps.map (fun j => X.N[j]?) = LL.fr.map some
  cov : ∀ y ∈ LL.scope.names, y.2 = .free → y.1 ∈ LL.fr
  fre : ∀ y ∈ LL.fr, (y, NameKind.free) ∈ LL.scope.names
  own : ∀ y ∈ LL.fr, X.fn y = true
  nd : X.N.Nodup
theorem cap_key {pins : List (Addr × Obj)} {σ : L2.St} {H : Hp} {s : Shared} {LL : LamI} {caps : List Nat} {wsV : List V} (I : L2.Inv X pins σ H s) (L : LamC C X LL) (Cp : CapC C X LL caps) (hl : wsV.length = caps.length) (hw : ∀ (i j : Nat), caps[i]? = some j → ∃ v, wsV[i]? = some v ∧ σ[j]? = some (some v)) :
    (∀ x y c, (clOf X LL).lookup x = some c → (clOf X LL).lookup y = some c → x = y) ∧ NoneIn (clOf X LL) H ∧ (∀ c, inC (clOf X LL) c → X.s_0.heap.objs.size ≤ c) ∧ (∀ (i : Nat) y, LL.fr[i]? = some y → ∃ c, (clOf X LL).lookup y = some c) ∧
    ∃ ob vl, TrkOk s.heap (clOf X LL) ob vl ∧ ∀ (i : Nat) y c, LL.fr[i]? = some y → (clOf X LL).lookup y = some c → wsV[i]? = some (vl c) := by
  have hfr : ∀ y ∈ LL.scope.names, y.2 = .free → ∃ c, X.env.cells.lookup y.1 = some c := fun y hy e => (L.free y hy e).elim (fun z => I.ok.has _ (.inl z)) fun z => I.ok.has _ (.inr z)
  have CP := Caps.made (X := X) (scope := LL.scope) (fr := LL.fr) (js := caps) I.ok L.free (fun y hy => Cp.fre y hy) Cp.at_
  have inj : ∀ x y c, (clOf X LL).lookup x = some c → (clOf X LL).lookup y = some c → x = y := fun x y c e1 e2 => I.ok.inj x y c (CP.sub x c e1) (CP.sub y c e2)
  have inFr : ∀ {y c}, (clOf X LL).lookup y = some c → y ∈ LL.fr := fun {y c} e => by
    rcases cloFrom_mem (PySem.mem_of_lookup e) with hm | ⟨h1, h2⟩
    · cases hm
    · exact Cp.cov _ h1 rfl
  have js : ∀ {i : Nat} {y : Str}, LL.fr[i]? = some y → ∃ j : Nat, caps[i]? = some j ∧ X.N[j]? = some y := fun {i y} e => by
    have e2 : (caps.map fun j => X.N[j]?)[i]? = some (some y) := by rw [Cp.at_, List.getElem?_map, e] <;> rfl
    rw [List.getElem?_map] at e2
    cases ej : caps[i]? with
    | none => rw [ej] at e2; cases e2
    | some j => rw [ej] at e2; exact ⟨j, rfl, Option.some.inj e2⟩
  refine ⟨inj, fun c ⟨y, e⟩ => I.freeC y c (CP.sub y c e), fun c ⟨y, e⟩ => I.ok.cab y c (Cp.own y (inFr e)) (CP.sub y c e), fun i y e => ?_, ?_⟩
  · exact mem_lookup (cloFrom_has (cells := X.env.cells) (acc := []) (Cp.fre y (List.mem_of_getElem? e)))
  · have key : ∀ c, inC (clOf X LL) c → ∃ (o : Obj) (v : V), s.heap.get? c = some o ∧ (∃ u, o.data = .cell (some u) ∧ RelV v u) ∧ ∀ (i : Nat) y, LL.fr[i]? = some y → (clOf X LL).lookup y = some c → wsV[i]? = some v := fun c ⟨y, e⟩ => by
      obtain ⟨i, hi⟩ := List.mem_iff_getElem?.mp (inFr e)
      obtain ⟨j, hj, hN⟩ := js hi
      obtain ⟨v, hv, hσ⟩ := hw i j hj
      obtain ⟨m, hn, hl⟩ := I.loc
      have kin := CP.kin y (inFr e)
      obtain ⟨u, r, l⟩ := hl j y v hN hσ (kin.elim (fun z => .inr (.inl z)) fun z => .inr (.inr z))
      rcases l with ⟨z, _⟩ | ⟨_, a', ha', o, ho, hd⟩
      · have z' : X.env.scope.names.lookup y = some .local := z
        rcases kin with q | q <;> rw [q] at z' <;> cases z'
      · have ca := CP.sub y c e
        rw [ca] at ha'; cases ha'
        refine ⟨o, v, ho, ⟨u, hd, r⟩, fun i' y' hi' hy' => ?_⟩
        have ey := inj y y' c e hy'
        subst ey
        obtain ⟨j', hj', hN'⟩ := js hi'
        have ejj : j = j' := (List.getElem?_inj (List.getElem?_eq_some_iff.mp hN).1 Cp.nd).mp (hN.trans hN'.symm)
        subst ejj
        obtain ⟨v', hv', hσ'⟩ := hw i' j hj'
        rw [hσ] at hσ'
        rw [hv']
        exact (Option.some.inj hσ').symm ▸ rfl
    classical
    refine ⟨fun c => if h : inC (clOf X LL) c then (key c h).choose else { cls := .none, data := .fields #[] }, fun c => if h : inC (clOf X LL) c then (key c h).choose_spec.choose else .non, fun c h => ?_, fun i y c hi hy => ?_⟩
    · obtain ⟨h1, h2, h3⟩ := (key c h).choose_spec.choose_spec
      simp only [dif_pos h]
      exact ⟨h1, h2⟩
    · have h : inC (clOf X LL) c := ⟨y, hy⟩
      obtain ⟨h1, h2, h3⟩ := (key c h).choose_spec.choose_spec
      simp only [dif_pos h]
      exact h3 i y hi hy
theorem de_callm {n g k : Nat} {LL : LamI} (hLk : C.lamOk k LL) {ps : List Str} {caps : List Nat} (hG : G.F = callF C.P n) {ca : DV.CE} {x : Str} {es : List Expr} {p lpos pos : Pos} (F : DF C X.prog X.w X.K X.mg X.base n g ps) (hgd : X.A.guards = some []) (hr : Room n X.A) (hg : Gl X x) (hm : X.mg x = some (.ref (C.fa g))) (hdb : (x == ("__debug__" : Str)) = false)
    (L : LamC C X LL) (Cp : CapC C X LL caps) (hs : es.all notStar = true) (ha : DAM C G X ca es (.Lambda LL.params LL.body LL.scope lpos) (tLamE C LL caps (clOf X LL))) :
    DE C G X (.callm g ca k caps) (.Call (.Name x p) (es ++ [.Lambda LL.params LL.body LL.scope lpos]) [] pos) := fun Wx tk => by
  refine ⟨fun pins s σ H Q I ⟨N0, W, ρ, st, n0, pp⟩ => ?_⟩
  simp only [evE] at pp
  refine wpAny_Call_Name_kw (ld_glob I hg hm ?_ hdb)
  cases hcs : caps.mapM (sval ρ) with
  | none =>
    have pp' : Post C (RepW C) ((evA G ca ρ st).bind fun xs st => .bad) W H Q (fun cls dd H' => Wx cls dd σ H') := by
      have e : (fun (xs : List D) (st : St) => (match (none : Option (List D)) with | some cs => plR (G.F g (xs ++ [.clo k cs]) st) | none => R.bad)) = fun _ _ => (R.bad : R D) := rfl
      rw [hcs] at pp; exact pp
    refine call_args (Rr := fun _ _ _ => False) (ha Wx tk) pk_nil (by simp [hs, notStar]) rfl F.keep (fun e => by simp at e) I (tk := tNil) ?_ (fun _ _ _ _ _ _ _ _ _ z => z.elim)
    exact ⟨N0, W, ρ, st, n0, (pp'.bind (rel := RepsW C)).imp fun vs H1 ⟨W1, as, st1, g1, m1, ra, p1⟩ => p1.elim⟩
  | some cs =>
    have pp' : Post C (RepW C) ((evA G ca ρ st).bind fun xs st => plR (G.F g (xs ++ [.clo k cs]) st)) W H Q (fun cls dd H' => Wx cls dd σ H') := by
      rw [hcs] at pp; exact pp
    refine call_args (Rr := fun us zs H2 => zs = [] ∧ ∃ N0 W2 st2 vs as f c', Now C N0 W2 ρ st2 σ H2 ∧ us = vs ++ [V.ref f] ∧ RepsW C W2 vs as ∧ W2.F f = some (LamO f LL (clOf X LL) c') ∧ W2.F c' = some (CodeO c' LL.qual) ∧
      Post C (RepW C) (plR (G.F g (as ++ [.clo k cs]) st2)) W2 H2 Q (fun cls dd H' => Wx cls dd σ H')) (ha Wx tk) pk_nil (by simp [hs, notStar]) rfl F.keep (fun e => by simp at e) I (tk := tNil) ?_ ?_
    · refine ⟨N0, W, ρ, st, n0, (pp'.bind (rel := RepsW C)).imp fun vs H1 ⟨W1, as, st1, g1, m1, ra, p1⟩ => ?_⟩
      refine ⟨N0, W1, ρ, st1, cs, n0.grow g1 m1, hcs, fun f c' W2 H2 g2 m2 hf hc' => ?_⟩
      exact ⟨rfl, N0, W2, st1, vs, as, f, c', (n0.grow g1 m1).grow g2 m2, rfl, g2.reps ra, hf, hc', Post.grow (r := plR (G.F g (as ++ [.clo k cs]) st1)) p1 g2⟩
    · rintro us ws s2 us' zs H2 I2 r rz ⟨rfl, N1, W2, st2, vs, as, f, c', n2, rfl, ra, hf, hc', p2⟩
      cases rz
      obtain ⟨wsV, rw', hwl, hww⟩ := caps_vals n2 caps hcs
      obtain ⟨inj, hn, hge, hlk, ob, vl, hT, hvl⟩ := cap_key I2 L Cp hwl hww
      have hF := n2.1.noneF hn
      have hframe : ∀ c, inC (clOf X LL) c → c ∉ frs X.stack := fun c q hb => by
        have h1 := hge c q
        obtain ⟨y, e⟩ := q
        have CP := Caps.made (X := X) (scope := LL.scope) (fr := LL.fr) (js := caps) I2.ok L.free (fun y hy => Cp.fre y hy) Cp.at_
        rcases List.mem_cons.mp (I2.stkSub c hb) with z | z
        · exact I2.cne y c (CP.sub y c e) z
        · obtain ⟨_, o, ho, _⟩ := I2.ok.funs.mem z
          exact absurd (Nat.lt_of_lt_of_le (Heap.lt_size ho) h1) (Nat.lt_irrefl _)
      have e0 := I2.env0
      have hbase : ∀ b o, X.base.get? b = some o → ¬ inC (clOf X LL) b := fun b o e q => by
        have h1 := hge b q
        exact absurd (Nat.lt_of_lt_of_le (Heap.lt_size e) (Nat.le_trans I2.ok.bsz h1)) (Nat.lt_irrefl _)
      have e1 : Env0 X.prog X.w X.K X.mg X.base X.A X.stack s2 (DV.trk H2 (clOf X LL) ob vl) := ⟨e0.frames, e0.mod, fun b o e => ⟨(e0.bs b o e).1, (trk_out (hbase b o e)).trans (e0.bs b o e).2⟩, e0.bsz, e0.funs, fun b hb => (trk_out (fun q => hframe b q hb)).trans (e0.frf b hb), HOk.trk e0.hok hn hT, e0.bare⟩
      have fr : ∀ a o, W2.F a = some o → DV.trk W2.F (clOf X LL) ob vl a = some o := fun a o e => hF.keep e
      have rc : Rep C (DV.trk W2.F (clOf X LL) ob vl) W2.μ (.ref f) (.clo k cs) := by
        refine .clo hLk (fr _ _ hf) (fr _ _ hc') (by rw [hwl]; have := congrArg List.length Cp.at_; simpa using this) (fun i y w e1 e2 => ?_) (fun y c e => ⟨ob c, vl c, trk_in ⟨y, e⟩⟩) inj ?_
        · obtain ⟨c, hc⟩ := hlk i y e1
          refine ⟨c, ob c, hc, ?_⟩
          have := hvl i y c e1 hc
          rw [e2] at this; cases this
          exact trk_in ⟨y, hc⟩
        · rw [minus_trk hF]; exact rw'
      rw [hG] at p2
      have p3 := Post.trk (P := X.prog) (w := X.w) (ob := ob) (vl := vl) n2.1 hn p2
      obtain ⟨fd, FG, pl, _⟩ := F.ex
      have hsp := sp_of (W := ⟨DV.trk W2.F (clOf X LL) ob vl, W2.μ⟩) (n2.1.trk hn) (Reps.append (Reps.mono ra fr ⟨[], by simp⟩) (.cons rc .nil)) p3
      have hl : us.length = ps.length := by rw [← r.length]; exact FG.len _ _ _ _ hsp
      have hb := bindK pl us [] (by simpa using hl) F.nd
      rw [List.zip_nil_right, List.append_nil] at hb
      show wpAny _ _ (call (.ref (C.fa g)) us []) _ _ _
      refine wpAny_call (codeAny_mono (FG.run X.A X.stack s2 _ ⟨us, []⟩ us (vs ++ [.ref f]) _ _ hgd hr e1 (.of_eq hb) r hsp) fun r s' hq => ?_)
      cases r with
      | error e => exact passAt tk σ pins H2 s2 e s' I2 (cx_minus hn hT hframe hq)
      | ok fl =>
        cases fl with
        | ret u => exact I2.after (ce_minus hn hT hframe hq)
        | next => exact False.elim hq
        | brk => exact False.elim hq
        | cont => exact False.elim hq
end
end DV
end

section
set_option linter.all false
set_option maxRecDepth 100000
set_option maxHeartbeats 1000000
/-! DVE: errors: raised, held, looked at; [*xs, d][0]; enumerate(zip(a, b)). -/
namespace DV
open PySem PySem.Spec PyProof.Rows L2
/-! ### the relation with an exception held, and without -/
section
variable {C : PC} {e : Option ExI}
mutual
theorem Rep.ex : ∀ {F μ v d}, Rep C F μ v d → Rep (C.ex e) F μ v d
  | _, _, _, _, .non => .non
  | _, _, _, _, .bl b => .bl b
  | _, _, _, _, .int b => .int b
  | _, _, _, _, .str b => .str b
  | _, _, _, _, .tup s r => .tup s r.ex
  | _, _, _, _, .lst s r => .lst s r.ex
  | _, _, _, _, .fro s r => .fro s r.ex
  | _, _, _, _, .dK s r => .dK s r.ex
  | _, _, _, _, .dT s t k v r => .dT s t k v r.ex
  | _, _, _, _, .ref e => .ref e
  | _, _, _, _, .fn g e => .fn (C := C.ex _) g e
  | _, _, _, _, .clo ok a b n c c2 ij r => .clo ok a b n c c2 ij r.ex
theorem Reps.ex : ∀ {F μ vs ds}, Reps C F μ vs ds → Reps (C.ex e) F μ vs ds
  | _, _, _, _, .nil => .nil
  | _, _, _, _, .cons a r => .cons a.ex r.ex
end
theorem PC.ex_ex (C : PC) (a b : Option ExI) : (C.ex a).ex b = C.ex b := rfl
theorem PC.ex_self {C : PC} : C.ex C.exn = C := rfl
theorem MemOk.ex {W : GW} {st : St} {H : Hp} (m : MemOk C W st H) : MemOk (C.ex e) W st H :=
  ⟨m.sub, m.len, fun l a xs e1 e2 => let ⟨vs, a, b⟩ := m.cell l a xs e1 e2; ⟨vs, a, b.ex⟩, m.nd, m.nf, m.nt, m.tab⟩
theorem ExRep.ex {W : GW} {cls : Value} {dd : Option Addr} {c : Nat} {ds : List D} (h : ExRep C W cls dd c ds) : ExRep (C.ex e) W cls dd c ds := by
  obtain ⟨a, h⟩ := h
  refine ⟨a, ?_⟩
  match ds, h with
  | [], h => exact h
  | [d], ⟨f, a, w, e0, e1, e2, r⟩ => exact ⟨f, a, w, e0, e1, e2, r.ex⟩
/-- into the suite: slot i holds the exception -/
theorem Sls.enter {W : GW} {N0 : Addr → Prop} {σ : L2.St} {ρ : Env} {H : Hp} (s : Sls C W N0 σ ρ H) (hn : C.exn = none) (i : Nat) (x : ExI) (r : ExRep C W x.cls x.d x.c x.ds) : Sls (C.ex (some x)) W N0 (σ.set i (some (.ref x.a))) (ρ.set i .exc) H := by
  have s' := s.setNo i (some (V.ref x.a))
  refine ⟨by simp [s.len], fun j d e => ?_, fun j xs e => ?_, fun j k xs ys a e1 e2 e3 e4 => ?_, fun j e => ?_⟩
  · by_cases q : i = j
    · subst q
      rw [List.getElem?_set_self'] at e
      obtain ⟨y, ey, e⟩ := Option.map_eq_some_iff.mp e
      cases e
    · rw [List.getElem?_set_ne q] at e ⊢
      obtain ⟨v, a, b⟩ := s.val j d e
      exact ⟨v, a, b.ex⟩
  · by_cases q : i = j
    · subst q
      rw [List.getElem?_set_self'] at e
      obtain ⟨y, ey, e⟩ := Option.map_eq_some_iff.mp e
      cases e
    · rw [List.getElem?_set_ne q] at e ⊢
      obtain ⟨a, vs, h1, h2, h3, h4⟩ := s.own j xs e
      exact ⟨a, vs, h1, h2, h3.ex, h4⟩
  · have n1 : i ≠ j := fun q => by
      subst q
      rw [List.getElem?_set_self'] at e1
      obtain ⟨y, ey, e⟩ := Option.map_eq_some_iff.mp e1
      cases e
    have n2 : i ≠ k := fun q => by
      subst q
      rw [List.getElem?_set_self'] at e2
      obtain ⟨y, ey, e⟩ := Option.map_eq_some_iff.mp e2
      cases e
    rw [List.getElem?_set_ne n1] at e1 e3
    rw [List.getElem?_set_ne n2] at e2 e4
    exact s.dis j k xs ys a e1 e2 e3 e4
  · by_cases q : i = j
    · subst q
      have hl : i < ρ.length := by
        have := (List.getElem?_eq_some_iff.mp e).1
        simpa using this
      exact ⟨some (.ref x.a), List.getElem?_set_self (by rw [s.len]; exact hl), x, rfl, rfl, r.ex⟩
    · rw [List.getElem?_set_ne q] at e
      obtain ⟨v, _, x', hx, _⟩ := s.exc j e
      rw [hn] at hx; cases hx
theorem unx_get {ρ : Env} {j : Nat} {s : Sl} (e : (unx ρ)[j]? = some s) : s ≠ .exc ∧ (s ≠ .no → ρ[j]? = some s) := by
  unfold unx at e
  rw [List.getElem?_map] at e
  obtain ⟨y, ey, e⟩ := Option.map_eq_some_iff.mp e
  cases y <;> cases e <;> exact ⟨by simp, fun h => by first | exact ey | exact absurd rfl h⟩
/-- out of it -/
theorem Sls.leave {W : GW} {N0 : Addr → Prop} {σ : L2.St} {ρ : Env} {H : Hp} {x : ExI} (s : Sls (C.ex (some x)) W N0 σ ρ H) (i : Nat) : Sls C W N0 (σ.set i none) ((unx ρ).set i .no) H := by
  refine ⟨by simp [s.len, unx], fun j d e => ?_, fun j xs e => ?_, fun j k xs ys a e1 e2 e3 e4 => ?_, fun j e => ?_⟩
  · by_cases q : i = j
    · subst q
      rw [List.getElem?_set_self'] at e
      obtain ⟨y, ey, e⟩ := Option.map_eq_some_iff.mp e
      cases e
    · rw [List.getElem?_set_ne q] at e ⊢
      obtain ⟨v, a, b⟩ := s.val j d ((unx_get e).2 (by simp))
      exact ⟨v, a, b.ex (e := C.exn)⟩
  · by_cases q : i = j
    · subst q
      rw [List.getElem?_set_self'] at e
      obtain ⟨y, ey, e⟩ := Option.map_eq_some_iff.mp e
      cases e
    · rw [List.getElem?_set_ne q] at e ⊢
      obtain ⟨a, vs, h1, h2, h3, h4⟩ := s.own j xs ((unx_get e).2 (by simp))
      exact ⟨a, vs, h1, h2, h3.ex (e := C.exn), h4⟩
  · have n1 : i ≠ j := fun q => by
      subst q
      rw [List.getElem?_set_self'] at e1
      obtain ⟨y, ey, e⟩ := Option.map_eq_some_iff.mp e1
      cases e
    have n2 : i ≠ k := fun q => by
      subst q
      rw [List.getElem?_set_self'] at e2
      obtain ⟨y, ey, e⟩ := Option.map_eq_some_iff.mp e2
      cases e
    rw [List.getElem?_set_ne n1] at e1 e3
    rw [List.getElem?_set_ne n2] at e2 e4
    exact s.dis j k xs ys a ((unx_get e1).2 (by simp)) ((unx_get e2).2 (by simp)) e3 e4
  · by_cases q : i = j
    · subst q
      rw [List.getElem?_set_self'] at e
      obtain ⟨y, ey, e⟩ := Option.map_eq_some_iff.mp e
      cases e
    · rw [List.getElem?_set_ne q] at e
      exact absurd rfl (unx_get e).1
end
/-! ### facts of the error classes -/
structure EcOk (C : PC) (prog : Program) (K : PySem.W.Frag) (mg : Str → Option Value) (c : Nat) (ec : EC) : Prop where
  own : ec.own = true → ∃ a, C.ca c = .ref a ∧ mg ec.nm = some (.ref a) ∧ PySem.W.keepIn K (.ref a) = true ∧ PySem.W.typeIn K (.ref a) = some (.type "type") ∧ ExcC K a ∧ (∀ f, ec.fld = some f → PySem.XS.XTxt prog K a (fldN f)) ∧
    (ec.fld = none → PySem.W.excIn K a [.type "ValueError", .type "Exception", .type "BaseException", .type "object"] "ValueError.__new__" = true)
  blt : ec.own = false → ec.fld = none ∧ C.ca c = .type "ValueError" ∧ ec.nm = "ValueError" ∧ mg ec.nm = none
  rel : ∀ c' ec', C.P.ecs[c']? = some ec' → ec.own = true → PySem.W.kitOne K (C.ca c) (C.ca c') = some (C.P.sub c c') ∧ PySem.W.exmOne K (C.ca c) (C.ca c') = some (C.P.sub c c')
def EcsOk (C : PC) (prog : Program) (K : PySem.W.Frag) (mg : Str → Option Value) : Prop := ∀ (c : Nat) ec, C.P.ecs[c]? = some ec → EcOk C prog K mg c ec
theorem okF_fldN (f : Nat) : PySem.XS.okF (fldN f) := by
  cases f with
  | zero => exact .inl rfl
  | succ f => exact .inr rfl
section
variable {C : PC} {G : Tell} {X : Cx}
theorem fld_ec {P : CProg} {c f : Nat} (h : P.fld c = some f) : ∃ ec, P.ecs[c]? = some ec ∧ ec.fld = some f := by
  unfold CProg.fld at h
  split at h
  · rename_i e he; exact ⟨e, he, h⟩
  · cases h
/-- raise X(e) -/
theorem ds_rse1 (hE : EcsOk C X.prog X.K X.mg) (hF : G.fld = C.P.fld) (hc : X.calm = true) {k : Nat} (hr : Room k X.A) {c : Nat} {ec : EC} (h1 : C.P.ecs[c]? = some ec) {f : Nat} (hf : ec.fld = some f) (hown : ec.own = true) (hg : Gl X ec.nm) (hdb : (ec.nm == ("__debug__" : Str)) = false) {ca : CE} {e : Expr} {p pos pos2 : Pos} (hs : notStar e = true) (ha : DA C G X ca [e]) :
    DS1 C G X (.rse c ca) (.Raise (some (.Call (.Name ec.nm p) [e] [] pos)) none pos2) := fun Wx tk => by
  obtain ⟨a, e1, e2, e3, e4, e5, e6, e7⟩ := (hE c ec h1).own hown
  have cf : C.P.fld c = some f := by unfold CProg.fld; rw [h1]; exact hf
  refine (ps_raise hc tk (pmk_xs (okF_fldN f) (e6 f hf) e2 hr (ha Wx tk) hg hdb (starEach_of hs _ _))).imp fun E σ H ⟨W0, H0, W, ρ, st, at0, pp⟩ => ?_
  simp only [evS] at pp
  refine ⟨_, W, ρ, st, at0.2, (onP at0 pp).imp fun vs H1 ⟨W1, ds, st1, a1, x1, g1, r1, p1⟩ => ?_⟩
  rw [hF, cf] at p1
  cases r1 with
  | nil => exact p1.elim
  | cons rv rr =>
    cases rr with
    | cons _ _ => exact p1.elim
    | nil =>
      refine ⟨_, rfl, fun dd hdd => ?_⟩
      obtain ⟨W2, gr, m2, eF⟩ := a1.2.1.lay hdd (o := .xd [(fldN f, _)]) (fun ps z => by cases z)
      exact p1 _ _ σ _ W2 (a1.grow gr m2) gr.ext ⟨⟨e1.symm, ec, h1, hown⟩, f, dd, _, cf, rfl, eF, gr.rep rv⟩
/-- raise X() -/
theorem ds_rse0 (hE : EcsOk C X.prog X.K X.mg) (hF : G.fld = C.P.fld) (hc : X.calm = true) {c : Nat} {ec : EC} (h1 : C.P.ecs[c]? = some ec) (hf : ec.fld = none) (hown : ec.own = true) (hg : Gl X ec.nm) (hdb : (ec.nm == ("__debug__" : Str)) = false) {p pos pos2 : Pos} :
    DS1 C G X (.rse c .nil) (.Raise (some (.Call (.Name ec.nm p) [] [] pos)) none pos2) := fun Wx tk => by
  obtain ⟨a, e1, e2, e3, e4, e5, e6, e7⟩ := (hE c ec h1).own hown
  have cf : C.P.fld c = none := by unfold CProg.fld; rw [h1]; exact hf
  refine (ps_raise hc tk (pmk_own0 PySem.F.excBase_ValueError (e7 hf) e2 e3 (raises_own e5.hs e4) hg hdb)).imp fun E σ H ⟨W0, H0, W, ρ, st, at0, pp⟩ => ?_
  simp only [evS, evA, RS.on] at pp
  rw [hF, cf] at pp
  exact pp _ _ σ H W at0 (Ext.refl W) ⟨⟨e1.symm, ec, h1, hown⟩, cf, rfl⟩
/-! ### within a suite -/
def Hot (C : PC) (X : Cx) : Prop := ∃ (e : ExI) (X0 : Cx) (oe : Obj) (pn : List (Addr × Obj)), C.exn = some e ∧ X = X0.suite e.a ((e.a, oe) :: pn) ∧ Zc e.cls e.d oe ∧ ∃ vs, oe.data = .fields vs
theorem de_exat (hE : EcsOk C X.prog X.K X.mg) (hF : G.fld = C.P.fld) (hx : Hot C X) (hG : ∀ e, C.exn = some e → G.ex = some (e.c, e.ds)) {i f : Nat} {x : Str} {p pos : Pos} (hN : X.N[i]? = some x) (hv : Vis X.env.scope x) (hd : (x == ("__debug__" : Str)) = false) (hcd : (x == ("__classdict__" : Str)) = false) :
    DE C G X (.exat i f) (.Attribute (.Name x p) (fldN f) pos) := fun Wx tk => by
  obtain ⟨e, X0, oe, pn, hex, rfl, hz, hfs⟩ := hx
  refine ⟨fun pins s σ H Q I ⟨N0, W, ρ, st, n, pp⟩ => ?_⟩
  simp only [evE] at pp
  rw [hG e hex] at pp
  split at pp
  · rename_i c d hi hee
    simp only [Option.some.injEq, Prod.mk.injEq] at hee
    obtain ⟨rfl, hds⟩ := hee
    obtain ⟨v, e1, x', hx', e2, er⟩ := n.2.exc i hi
    rw [hex] at hx'; cases hx'
    split at pp
    · rename_i hcf
      rw [hF] at hcf
      obtain ⟨⟨ecl, ec, h1, hown⟩, ez⟩ := er
      have h2 : ec.fld = some f := by
        unfold CProg.fld at hcf
        rw [h1] at hcf; exact hcf
      obtain ⟨a, g1, g2, g3, g4, g5, g6, g7⟩ := (hE _ ec h1).own hown
      rw [hds] at ez
      obtain ⟨f', dd, w, k0, k1, k2, k3⟩ := ez
      rw [hcf] at k0; cases k0
      rw [ecl, g1] at hz
      refine (pe_xf (C := a) ⟨g5.hg, g5.hk, g5.hs, g5.hd⟩ (g6 f h2).noN hz hfs (pe_var (X := X0.suite e.a ((e.a, oe) :: pn)) hN hv hd hcd) (by rfl)).run pins s σ H Q I ?_
      rw [e2] at e1
      exact ⟨.ref e.a, e1, rfl, rfl, dd, _, w, k1, n.1.sub _ _ k2, by simp [List.lookup], pp.okI n.1 k3⟩
    · exact pp.elim
  · exact pp.elim
theorem de_exis (hE : EcsOk C X.prog X.K X.mg) (hF : G.sub = C.P.sub) (hx : Hot C X) (hG : ∀ e, C.exn = some e → G.ex = some (e.c, e.ds)) (hg : Gl X "isinstance") (hm : X.mg "isinstance" = none) {i c2 : Nat} {ec2 : EC} (h2 : C.P.ecs[c2]? = some ec2) (hg2 : Gl X ec2.nm) (hdb2 : (ec2.nm == ("__debug__" : Str)) = false)
    {x : Str} {p p1 p2 pos : Pos} (hN : X.N[i]? = some x) (hv : Vis X.env.scope x) (hd : (x == ("__debug__" : Str)) = false) (hcd : (x == ("__classdict__" : Str)) = false) :
    DE C G X (.exis i c2) (.Call (.Name "isinstance" p) [.Name x p1, .Name ec2.nm p2] [] pos) := fun Wx tk => by
  obtain ⟨e, X0, oe, pn, hex, rfl, hz, hfs⟩ := hx
  refine ⟨fun pins s σ H Q I ⟨N0, W, ρ, st, n, pp⟩ => ?_⟩
  simp only [evE] at pp
  rw [hG e hex] at pp
  split at pp
  · rename_i c d hi hee
    simp only [Option.some.injEq, Prod.mk.injEq] at hee
    obtain ⟨rfl, hds⟩ := hee
    obtain ⟨v, e1, x', hx', e2, er⟩ := n.2.exc i hi
    rw [hex] at hx'; cases hx'
    obtain ⟨⟨ecl, ec, h1, hown⟩, ez⟩ := er
    obtain ⟨a, g1, g2, g3, g4, g5, g6, g7⟩ := (hE _ ec h1).own hown
    obtain ⟨k1, _⟩ := (hE _ ec h1).rel c2 ec2 h2 hown
    rw [ecl, g1] at hz
    rw [g1] at k1
    have hdd : ∀ d, e.d = some d → ∃ fs, H d = some (.xd fs) := fun d ed => by
      generalize e.ds = ds at ez
      match ds, ez with
      | [], ⟨_, z⟩ => rw [z] at ed; cases ed
      | [d0], ⟨f, dd, w, q0, q1, q2, q3⟩ =>
        rw [q1] at ed; cases ed
        exact ⟨_, n.1.sub _ _ q2⟩
    rw [e2] at e1
    rw [hF] at pp
    have fin : Q (.bl (C.P.sub e.c c2)) H := pp.okI n.1 (.bl _)
    -- the class
    by_cases ho : ec2.own = true
    · obtain ⟨b, b1, b2, _⟩ := (hE _ ec2 h2).own ho
      rw [b1] at k1
      refine (pe_callB (call_isA (X := X0) (pn := pn) g5 hz hfs) hg hm isi_boot (pa_cons (pe_var (X := X0.suite e.a ((e.a, oe) :: pn)) hN hv hd hcd) (pa_cons (pe_glob (v := .ref b) hg2 b2 rfl hdb2) pa_nil rfl) rfl) (by decide) (by decide) rfl rfl).run pins s σ H Q I ?_
      exact ⟨.ref e.a, e1, hdd, .ref b, .ref b, _, rfl, fun u r => r, k1, fin⟩
    · obtain ⟨_, b1, b2, b3⟩ := (hE _ ec2 h2).blt (by simpa using ho)
      rw [b1] at k1
      rw [b2] at b3 hg2 ⊢
      refine (pe_callB (call_isA (X := X0) (pn := pn) g5 hz hfs) hg hm isi_boot (pa_cons (pe_var (X := X0.suite e.a ((e.a, oe) :: pn)) hN hv hd hcd) (pa_cons (pe_bltn (v := .ty "ValueError") hg2 b3 PyProof.Rows.Boot.«ValueError» rfl (by decide) (by decide)) pa_nil rfl) rfl) (by decide) (by decide) rfl rfl).run pins s σ H Q I ?_
      exact ⟨.ref e.a, e1, hdd, .ty "ValueError", .type "ValueError", _, rfl, fun u r => r, k1, fin⟩
  · exact pp.elim
/-! ### try: body, except X as n: suite -/
theorem pss_any {ι : Type} {ss : List Stmt} {t : ι → TS} (h : ∀ z, PSs X ss (t z)) : PSs X ss (fun D σ H => ∃ z, t z D σ H) := ⟨fun pins s σ H D I ⟨z, q⟩ => (h z).run pins s σ H D I q⟩
theorem ds_try (hE : EcsOk C X.prog X.K X.mg) (hF : G.sub = C.P.sub) (hn : C.exn = none) (hs : X.stack = X.env :: X.outer) (hf : X.env.frame = some X.env.locals) (hN : X.N.Nodup) {i c : Nat} {ec : EC} {n : Str} (hi : X.N[i]? = some n) (hln : X.env.kindOf n = some .local) (h1 : C.P.ecs[c]? = some ec) (hg : Gl X ec.nm) (hdb : (ec.nm == ("__debug__" : Str)) = false)
    {cb cs : CS} {body suite : List Stmt} {b₀ : Stmt} {np pos pos' : Pos}
    (hb : ∀ (pn : List (Addr × Obj)) (xe : Value → Shared → Prop), PassesOwn (model X.prog X.w) X.A X.env xe → DS C G (X.tr pn xe) cb body)
    (hsu : ∀ (e : ExI) (oe : Obj) (pn : List (Addr × Obj)), Zc e.cls e.d oe → (∃ vs, oe.data = .fields vs) → DS (C.ex (some e)) { G with ex := some (e.c, e.ds) } (X.suite e.a ((e.a, oe) :: pn)) cs (b₀ :: suite)) :
    DS1 C G X (.try_ cb c i cs) (.Try body [.ExceptHandler (some (.Name ec.nm np)) (some n) (b₀ :: suite) pos'] [] [] pos) := fun Wx tk => by
  have hnm : Names X ec.nm (C.ca c) := by
    refine ⟨hg, hdb, ?_⟩
    by_cases ho : ec.own = true
    · obtain ⟨a, e1, e2, _⟩ := (hE _ ec h1).own ho
      exact .inl (e1 ▸ e2)
    · obtain ⟨_, b1, b2, b3⟩ := (hE _ ec h1).blt (by simpa using ho)
      refine .inr ⟨b3, ?_, ?_⟩
      · rw [b1, b2]; exact PyProof.Rows.Boot.«ValueError»
      · rw [b2]; decide
  refine (ps_try_as (tb := fun W => tS C W (evS G cb)) (ts := fun a cls d D σ H => ∃ z : Nat × List DV.D, tS (C.ex (some ⟨a, cls, d, z.1, z.2⟩)) noW (evS { G with ex := some (z.1, z.2) } cs) D σ H) hs hf hN hi hln hnm tk
    (fun W pn xe tk' hp => hb pn xe hp W tk') (fun a oe cls d pn hz hfs => pss_any fun z => hsu ⟨a, cls, d, z.1, z.2⟩ oe pn hz hfs noW (takes_noW _))).imp fun E σ H ⟨W0, H0, W, ρ, st, at0, pp⟩ => ?_
  refine ⟨W0, H0, W, ρ, st, at0, ?_⟩
  simp only [evS] at pp
  cases hcb : evS G cb ρ st with
  | nx ρ1 st1 => rw [hcb] at pp; exact pp
  | ret d st1 => rw [hcb] at pp; exact pp
  | brk ρ1 st1 => rw [hcb] at pp; exact pp
  | cnt ρ1 st1 => rw [hcb] at pp; exact pp
  | bad => rw [hcb] at pp; exact pp.elim
  | exc c' ds ρ1 st1 =>
    rw [hcb] at pp
    intro cls dd σ' H' W' at1 x1 er
    obtain ⟨ecl, ec', h1', hown⟩ := er.1
    obtain ⟨_, k2⟩ := (hE _ ec' h1').rel c ec h1 hown
    refine ⟨C.P.sub c' c, by rw [ecl]; exact k2, fun hb1 a ha => ?_, fun hb1 => ?_⟩
    · have pp' : PostS C W0 H0 Wx W (unsl i (evS { G with ex := some (c', ds) } cs (ρ1.set i .exc) st1)) E := by
        have pp2 : PostS C W0 H0 Wx W (if G.sub c' c then unsl i (evS { G with ex := some (c', ds) } cs (ρ1.set i .exc) st1) else .exc c' ds ρ1 st1) E := pp
        rw [if_pos (by rw [hF]; exact hb1)] at pp2
        exact pp2
      refine ⟨(c', ds), W0, H0, W', ρ1.set i .exc, st1, ⟨at1.1, at1.2.1.ex, at1.2.2.enter hn i ⟨a, cls, dd, c', ds⟩ er⟩, ?_⟩
      cases hcs : evS { G with ex := some (c', ds) } cs (ρ1.set i .exc) st1 with
      | bad => rw [hcs] at pp'; exact pp'.elim
      | exc _ _ _ _ => rw [hcs] at pp'; exact pp'.elim
      | ret d st2 =>
        rw [hcs] at pp'
        exact fun v H2 W2 g2 m2 r2 => pp' v H2 W2 g2 (m2.ex (e := C.exn)) (Rep.ex (C := C.ex (some ⟨a, cls, dd, c', ds⟩)) (e := C.exn) r2)
      | nx ρ2 st2 =>
        rw [hcs] at pp'
        exact fun σ2 H2 W2 a2 x2 => pp' _ H2 W2 ⟨a2.1, a2.2.1.ex (e := C.exn), a2.2.2.leave i⟩ (x1.trans x2)
      | brk ρ2 st2 =>
        rw [hcs] at pp'
        exact fun σ2 H2 W2 a2 x2 => pp' _ H2 W2 ⟨a2.1, a2.2.1.ex (e := C.exn), a2.2.2.leave i⟩ (x1.trans x2)
      | cnt ρ2 st2 =>
        rw [hcs] at pp'
        exact fun σ2 H2 W2 a2 x2 => pp' _ H2 W2 ⟨a2.1, a2.2.1.ex (e := C.exn), a2.2.2.leave i⟩ (x1.trans x2)
    · have pp2 : PostS C W0 H0 Wx W (if G.sub c' c then unsl i (evS { G with ex := some (c', ds) } cs (ρ1.set i .exc) st1) else .exc c' ds ρ1 st1) E := pp
      rw [if_neg (by rw [hF, hb1]; exact Bool.false_ne_true)] at pp2
      exact pp2 cls dd σ' H' W' at1 x1 er
/-! ### [*xs, d][0] -/
theorem head_rep {F : Hp} {μ : List Addr} {vs : List V} {ds : List DV.D} {v : V} {d : DV.D} (r : Reps C F μ vs ds) (q : Rep C F μ v d) : ∃ w, atI (vs ++ [v]) 0 = some w ∧ Rep C F μ w (ds.headD d) := by
  cases r with
  | nil => exact ⟨v, rfl, q⟩
  | @cons _ _ w0 ws _ _ a b =>
    refine ⟨w0, ?_, a⟩
    have : (0 : Int) < ((w0 :: ws ++ [v]).length : Int) := by simp only [List.cons_append, List.length_cons]; omega
    show atD (w0 :: ws ++ [v]) 0 = _
    unfold atD ixD
    rw [if_pos (Int.le_refl 0), if_pos this]
    rfl
theorem de_sfst (hK : X.K = C.K) {c1 c2 : CE} {e1 e2 : Expr} {p pos pos2 p3 : Pos} {kk : Nat} (hs : notStar e2 = true) (h1 : DE C G X c1 e1) (h2 : DE C G X c2 e2) : DE C G X (.sfst c1 c2) (.Subscript (.List [.Starred e1 p, e2] pos) (.Constant (.int 0) kk p3) pos2) := fun Wx tk =>
  (pe_ix ix_list (pe_lst (StX.pa_star (h1 Wx tk) (pa_cons (h2 Wx tk) pa_nil (starEach_of hs _ _)) rfl)) pe_int (fun _ _ => rfl)).imp fun σ H Q ⟨N0, W, ρ, st, n, pp⟩ => by
    simp only [evE] at pp
    obtain ⟨N1, W1, ρ1, st1, n1, q⟩ := one n pp
    refine ⟨N1, W1, ρ1, st1, n1, q.imp fun x H1 ⟨W2, st2, a, n2, ra, p2, g2⟩ => ?_⟩
    obtain ⟨ds, ed, p2⟩ := p2.bindLift
    obtain ⟨kd, a, vs, rfl, sq, sqA, r⟩ := seq_src n2.1.sub ra ed
    refine ⟨a, vs, rfl, ?_, ?_⟩
    · rw [hK]
      cases kd
      · exact .inl sq
      · exact .inr sq
    obtain ⟨N3, W3, ρ3, st3, n3, q3⟩ := one (f := fun y st => if ds.length < line then R.ok (ds.headD y) st else .bad) n2 p2
    refine ⟨N3, W3, ρ3, st3, n3, q3.imp fun y H2 ⟨W4, st4, b, n4, rb, p4, g4⟩ => ?_⟩
    split at p4
    · rename_i hlt
      refine ⟨?_, fun l hl => ?_⟩
      · have := r.length
        rw [← line_eq, List.length_append, List.length_singleton, this]
        exact hlt
      obtain ⟨W5, gr, m5, eF⟩ := n4.1.lay hl (o := .lst (vs ++ [y])) (fun ps z => by cases z)
      obtain ⟨w, ew, rw'⟩ := head_rep (g4.reps r) rb
      exact ⟨l, _, 0, w, rfl, rfl, .inl (.inl upd_same), ew, p4 w _ W5 gr m5 (gr.rep rw')⟩
    · exact p4.elim
end
end DV
end

section
set_option linter.all false
set_option maxRecDepth 100000
set_option maxHeartbeats 2000000
/-! DV20: the look: does a compiled tree tell a text? -/
namespace DV
open PySem PySem.Spec PyProof.Rows L2 LamX NdefX
/-- what the look knows of the whole text -/
structure SX where
  P : CProg
  fnm : List Str
  sgs : List (List Str)
  gnm : List Str
  bn : List Str
  gcd : Bool
  lN : List (List Str)
  lps : List (List Str)
  lfr : List (List Str)
/-- where it stands -/
structure KX where
  N : List Str
  sc : Scope
  fnA : Bool
  fnN : List (Str × NameKind)
  mkl : Bool
  calm : Bool
def sgOf (S : SX) (t : Nat) : List Str := (S.sgs[t]?).getD []
inductive Job where
  | E (c : CE) (e : Expr) | A (c : CE) (es : List Expr) | BA (o : BoolOp) (c : CE) (es : List Expr) | T (c : CE) (e : Expr) | TA (o : BoolOp) (c : CE) (es : List Expr)
  | I (c : CE) (t e : Expr) | C (c : CE) (ifs : List Expr) | P (c : CE) (e : Option Expr) | K (c : CE) (kws : List Keyword) | M (c : CE) (es : List Expr) (k : Nat) (caps : List Nat)
  | G (ct : CT) (t : Expr) | GS (ct : CT) (ts : List Expr) | O (fl : List Bool) (c : CE) (es : List Expr) | S (c : CS) (ss : List Stmt) | S1 (c : CS) (s : Stmt)
def noD (x : Str) : Bool := !(x == ("__debug__" : Str)) && !(x == ("__classdict__" : Str))
def visB (sc : Scope) (x : Str) : Bool := match sc.names.lookup x with
  | some .local => true | some .cell => true | some .free => true | _ => false
def fnB (κ : KX) (x : Str) : Bool := κ.fnA || decide (κ.fnN.lookup x = some .cell)
def locB (κ : KX) (x : Str) : Bool := match κ.sc.names.lookup x with
  | some .local => true | some .cell => fnB κ x | _ => false
def isLoc (κ : KX) (x : Str) : Bool := decide (κ.sc.names.lookup x = some .local)
def globB (sc : Scope) (x : Str) : Bool := decide (sc.names.lookup x = some .globalImplicit)
def bnB (S : SX) (x : Str) : Bool := decide (x ∈ S.bn)
def conB : D → Const → Bool
  | .non, .none => true
  | .bl b, .bool c => b == c
  | .int i, .int j => decide (i = j)
  | .str x, .str y => decide (S8 x = y)
  | _, _ => false
def ownP (N : List Str) (vs : List Nat) : List (Str × Nat) := vs.map fun v => ((N[v]?).getD "", v)
def blkK (κ : KX) (scope : Scope) : KX := ⟨κ.N, relS scope κ.sc, false, scope.names, κ.mkl, κ.calm⟩
def hotK (κ : KX) : KX := { κ with mkl := false, calm := false }
def plainB (a : Arguments) (ps : List Str) : Bool := a.posonlyargs.isEmpty && a.vararg.isNone && a.kwonlyargs.isEmpty && a.kwarg.isNone && a.defaults.isEmpty && a.kw_defaults.isEmpty && decide (a.args.map (·.arg) = ps)
/-- y = [..] on one line -/
def swB (κ : KX) (v : Expr) (x : Str) (px : Pos) : Option Bool := match v with
  | .ListComp _ _ scope pos => some (isLoc κ x && (px.line == pos.line) && !(scope.names.any fun (n, k) => n == x && (k == .local || k == .cell)))
  | .SetComp _ _ _ _ => none
  | .DictComp _ _ _ _ _ => none
  | _ => some false
def tstB : Expr → Bool
  | .BoolOp _ _ _ => false | .UnaryOp .Not _ _ => false | .Compare _ _ _ _ => false | .IfExp _ _ _ _ => false | .NamedExpr _ _ _ => false
  | _ => true
def parB (vs : List Expr) : Bool := vs.all notStar && !(vs.all (foldedForSure 8)) && !(vs.all (constantsAlone 8))
/-- no plain local name -/
def nlB (sc : Scope) : Expr → Bool
  | .Name x _ => !decide (sc.names.lookup x = some .local)
  | _ => true
/-- the stores come one by one -/
def asgtB (κ : KX) (tg e : Expr) : Bool := notTup e || (match tg, e with
  | .Tuple ts _ _, .Tuple vs _ _ => ts.any (nlB κ.sc) || vs.all (foldedForSure 8)
  | _, _ => false)
def lamK (S : SX) (k : Nat) (sc : Scope) : KX := ⟨(S.lN[k]?).getD [], sc, false, [], false, true⟩
/-- all of a lambda but its body -/
def lamB (S : SX) (k : Nat) (L : LamI) : Bool := match S.P.lams[k]?, S.lN[k]?, S.lps[k]?, S.lfr[k]? with
  | some d, some N, some ps, some fr => decide (d.np = ps.length) && decide (d.nc = fr.length) && decide (d.n = N.length) && decide (L.fr = fr) && nscB N ps fr L.scope && plainB L.params ps
  | _, _, _, _ => false
def lamBody (S : SX) (k : Nat) : CE := match S.P.lams[k]? with
  | some d => d.body
  | none => .nil
/-- what is served within an except suite -/
def hotE : CE → Bool
  | .var _ => true | .con _ => true | .glo _ => true | .tup _ => true | .lst _ => true | .bin _ _ _ => true | .neg _ => true | .cmp _ _ _ => true | .cmp2 _ _ _ _ _ => true | .and _ _ => true | .or _ _ => true | .not _ => true | .ife _ _ _ => true | .sub _ _ => true
  | .blt b _ => bltHot b | .mth _ _ _ => true | .isi _ _ => true | .exat _ _ => true | .exis _ _ => true
  | _ => false
def hotJ : Job → Bool
  | .E c _ => hotE c
  | .G (.nm _) _ => true
  | .G _ _ => false
  | .I _ _ _ => false
  | .M _ _ _ _ => false
  | .S1 c _ => match c with
    | .pass => true | .expr _ => true | .asg _ _ => true | .ite _ _ _ => true | .ret _ => true | .ret0 => true | .never => true | _ => false
  | _ => true
def ckB (S : SX) (R : KX → Job → Bool) (κ : KX) (j : Job) : Bool := match j with
    | .E c e => (match c with
      | .var i => (match e with
        | .Name x _ => decide (κ.N[i]? = some x) && visB κ.sc x && noD x
        | _ => false)
      | .con d => (match e with
        | .Constant k _ _ => conB d k
        | _ => false)
      | .glo j => (match e with
        | .Name x _ => decide (S.gnm[j]? = some x) && globB κ.sc x && noD x
        | _ => false)
      | .tup a => (match e with
        | .Tuple es _ _ => R κ (.A a es)
        | _ => false)
      | .lst a => (match e with
        | .List es _ => R κ (.A a es)
        | _ => false)
      | .new a => (match e with
        | .List es _ => R κ (.A a es)
        | _ => false)
      | .bin o a b => (match e with
        | .BinOp x op y _ => decide (op = opOf o) && R κ (.E a x) && R κ (.E b y)
        | _ => false)
      | .neg a => (match e with
        | .UnaryOp op x _ => decide (op = .USub) && R κ (.E a x)
        | _ => false)
      | .inv a => (match e with
        | .UnaryOp op x _ => decide (op = .Invert) && R κ (.E a x)
        | _ => false)
      | .cmp o a b => (match e with
        | .Compare x [op] [y] _ => decide (op = copOf o) && !(behindInMarks (copOf o) y) && R κ (.E a x) && R κ (.E b y)
        | _ => false)
      | .cmp2 o p a b c => (match e with
        | .Compare x [o1, o2] [y, z] _ => decide (o1 = copOf o) && decide (o2 = copOf p) && !(lastMarks [copOf o, copOf p] [y, z]) && R κ (.E a x) && R κ (.E b y) && R κ (.E c z)
        | _ => false)
      | .and a b => (match e with
        | .BoolOp op (x :: y :: r) _ => decide (op = .And) && R κ (.E a x) && R κ (.BA .And b (y :: r))
        | _ => false)
      | .or a b => (match e with
        | .BoolOp op (x :: y :: r) _ => decide (op = .Or) && R κ (.E a x) && R κ (.BA .Or b (y :: r))
        | _ => false)
      | .not a => (match e with
        | .UnaryOp op x _ => decide (op = .Not) && R κ (.E a x)
        | _ => false)
      | .ife c a b => (match e with
        | .IfExp t x y _ => R κ (.T c t) && R κ (.E a x) && R κ (.E b y)
        | _ => false)
      | .sub a i => (match e with
        | .Subscript x y _ => notSlice y && R κ (.E a x) && R κ (.E i y)
        | _ => false)
      | .slc a lo hi => (match e with
        | .Subscript x (.Slice l h none _) _ => R κ (.E a x) && R κ (.P lo l) && R κ (.P hi h)
        | _ => false)
      | .isi t a => (match e with
        | .Call (.Name f _) [x, .Name ty _] [] _ => decide (f = "isinstance") && globB κ.sc f && bnB S f && decide (ty = tyN t) && globB κ.sc ty && bnB S ty && notStar x && R κ (.E a x)
        | _ => false)
      | .call g as ks => (match e with
        | .Call (.Name x _) es kws _ => decide (S.fnm[g]? = some x) && globB κ.sc x && noD x && es.all notStar && kws.all (·.arg.isSome) && decide (kws.filterMap (·.arg) = (sgOf S (sigOf S.P g)).drop es.length) && decide (ceLen as = es.length) && decide (ceLen ks = kws.length) && R κ (.A as es) && R κ (.K ks kws)
        | _ => false)
      | .callv i as ks s => (match e with
        | .Call (.Name x _) es kws _ => decide (κ.N[i]? = some x) && visB κ.sc x && noD x && es.all notStar && kws.all (·.arg.isSome) && (match s with
            | none => kws.isEmpty
            | some t => decide (kws.filterMap (·.arg) = (sgOf S t).drop es.length)) && decide (ceLen as = es.length) && R κ (.A as es) && R κ (.K ks kws)
        | _ => false)
      | .callm g as k caps => (match e with
        | .Call (.Name x _) es [] _ => decide (S.fnm[g]? = some x) && globB κ.sc x && noD x && κ.mkl && R κ (.M as es k caps)
        | _ => false)
      | .blt b as => if b = .dictzip then (match e with
        | .Call (.Name f _) [.Call (.Name f2 _) [x, y] [] _] [] _ => decide (f = "dict") && globB κ.sc f && bnB S f && decide (f2 = "zip") && globB κ.sc f2 && bnB S f2 && notStar x && notStar y && R κ (.A as [x, y])
        | _ => false) else (match e with
        | .Call (.Name x _) (y :: es) [] _ => decide (x = bltN b) && globB κ.sc x && (if b = .gcd then S.gcd else bnB S x) && (y :: es).all notStar && R κ (.A as (y :: es))
        | _ => false)
      | .mth m o as => (match e with
        | .Call (.Attribute o' nm ap) [x] [] cp => decide (nm = mtN m) && notCall o' && (ap.endLine == cp.line) && notStar x && R κ (.E o o') && R κ (.A as [x])
        | _ => false)
      | .comp tg it c e' own => (match e with
        | .ListComp elt [⟨te, ie, ifs, a⟩] scope _ => decide (a = 0) && noSet ie && blkC κ.N κ.sc scope (ownP κ.N own) && ctIn own tg && R κ (.I it te ie) && R (blkK κ scope) (.G tg te) && R (blkK κ scope) (.C c ifs) && R (blkK κ scope) (.E e' elt)
        | _ => false)
      | .comp2 tg it c tg2 it2 c2 e' own own2 => (match e with
        | .ListComp elt [⟨te, ie, ifs, a⟩, ⟨te2, ie2, ifs2, a2⟩] scope _ => decide (a = 0) && decide (a2 = 0) && noSet ie && noSet ie2 && blkC κ.N κ.sc scope (ownP κ.N own) && ctIn own tg && ctIn own2 tg2 && own2.all (fun v => decide (v ∈ own)) && R κ (.I it te ie) && R (blkK κ scope) (.G tg te) && R (blkK κ scope) (.C c ifs) &&
            R (blkK κ scope) (.I it2 te2 ie2) && R (blkK κ scope) (.G tg2 te2) && R (blkK κ scope) (.C c2 ifs2) && R (blkK κ scope) (.E e' elt)
        | _ => false)
      | .exat i f => (match e with
        | .Attribute (.Name x _) nm _ => !κ.calm && decide (κ.N[i]? = some x) && visB κ.sc x && noD x && decide (nm = fldN f)
        | _ => false)
      | .exis i c2 => (match e with
        | .Call (.Name f _) [.Name x _, .Name y _] [] _ => !κ.calm && decide (f = "isinstance") && globB κ.sc f && bnB S f && decide (κ.N[i]? = some x) && visB κ.sc x && noD x && (match S.P.ecs[c2]? with
          | some ec => decide (ec.nm = y)
          | none => false) && globB κ.sc y && noD y
        | _ => false)
      | .sfst a b => (match e with
        | .Subscript (.List [.Starred x _, y] _) (.Constant (.int 0) _ _) _ => notStar y && R κ (.E a x) && R κ (.E b y)
        | _ => false)
      | _ => false)
    | .A c es => (match c, es with
      | .nil, [] => true
      | .cons a r, x :: xs => notStar x && R κ (.E a x) && R κ (.A r xs)
      | _, _ => false)
    | .BA o c es => (match es with
      | [y] => R κ (.E c y)
      | x :: y :: r => (match c with
        | .and a b => decide (o = .And) && R κ (.E a x) && R κ (.BA o b (y :: r))
        | .or a b => decide (o = .Or) && R κ (.E a x) && R κ (.BA o b (y :: r))
        | _ => false)
      | [] => false)
    | .T c e => (match c with
      | .and a b => (match e with
        | .BoolOp op (x :: y :: r) _ => decide (op = .And) && R κ (.T a x) && R κ (.TA .And b (y :: r))
        | _ => false)
      | .or a b => (match e with
        | .BoolOp op (x :: y :: r) _ => decide (op = .Or) && R κ (.T a x) && R κ (.TA .Or b (y :: r))
        | _ => false)
      | .not a => (match e with
        | .UnaryOp op x _ => decide (op = .Not) && R κ (.T a x)
        | _ => false)
      | .cmp o a b => (match e with
        | .Compare x [op] [y] _ => decide (op = copOf o) && !(behindInMarks (copOf o) y) && R κ (.E a x) && R κ (.E b y)
        | _ => false)
      | .cmp2 _ _ _ _ _ => false
      | .ife _ _ _ => false
      | c => tstB e && R κ (.E c e))
    | .TA o c es => (match es with
      | [y] => R κ (.T c y)
      | x :: y :: r => (match c with
        | .and a b => decide (o = .And) && R κ (.T a x) && R κ (.TA o b (y :: r))
        | .or a b => decide (o = .Or) && R κ (.T a x) && R κ (.TA o b (y :: r))
        | _ => false)
      | [] => false)
    | .I c t e => (match c with
      | .iseq a => R κ (.E a e)
      | .irng a => (match e with
        | .Call (.Name f _) [x] [] _ => decide (f = "range") && globB κ.sc f && bnB S f && notStar x && R κ (.E a x)
        | _ => false)
      | .irng2 a b => (match e with
        | .Call (.Name f _) [x, y] [] _ => decide (f = "range") && globB κ.sc f && bnB S f && notStar x && notStar y && R κ (.E a x) && R κ (.E b y)
        | _ => false)
      | .ienum a => (match e with
        | .Call (.Name f _) [x] [] _ => decide (f = "enumerate") && globB κ.sc f && bnB S f && tupTg t && notStar x && R κ (.E a x)
        | _ => false)
      | .izip a b => (match e with
        | .Call (.Name f _) [x, y] [] _ => decide (f = "zip") && globB κ.sc f && bnB S f && tupTg t && notStar x && notStar y && R κ (.E a x) && R κ (.E b y)
        | _ => false)
      | _ => false)
    | .C c ifs => (match c, ifs with
      | .nil, [] => true
      | .cons a .nil, [x] => R κ (.T a x)
      | _, _ => false)
    | .P c e => (match c, e with
      | .nil, none => true
      | .cons a _, some x => R κ (.E a x)
      | _, _ => false)
    | .K c kws => (match c, kws with
      | .nil, [] => true
      | .cons a r, ⟨_, x, _⟩ :: xs => R κ (.E a x) && R κ (.K r xs)
      | _, _ => false)
    | .M c es k caps => (match es with
      | [.Lambda ps body sc _] => (match c with
        | .nil => lamB S k ⟨"", ps, body, sc, (S.lfr[k]?).getD []⟩ && R (lamK S k sc) (.E (lamBody S k) body) && decide (caps.map (fun j => κ.N[j]?) = ((S.lfr[k]?).getD []).map some) && ndefB κ.sc sc ((S.lfr[k]?).getD []) &&
            (sc.names.all fun y => !decide (y.2 = .free) || decide (y.1 ∈ (S.lfr[k]?).getD [])) && ((S.lfr[k]?).getD []).all (fnB κ)
        | _ => false)
      | x :: xs => (match c with
        | .cons a r => notStar x && R κ (.E a x) && R κ (.M r xs k caps)
        | _ => false)
      | [] => false)
    | .G ct t => (match ct with
      | .nm i => (match t with
        | .Name x _ => decide (κ.N[i]? = some x) && locB κ x
        | _ => false)
      | .sub o i => (match t with
        | .Subscript (.Name x _) (.Constant (.int j) _ _) _ => decide (κ.N[o]? = some x) && visB κ.sc x && noD x && decide (j = (i : Int))
        | _ => false)
      | ct => (match t with
        | .Tuple es _ _ => ctList ct && decide (ctLen ct = es.length) && es.all notStar && R κ (.GS ct es)
        | _ => false))
    | .GS ct ts => (match ct, ts with
      | .nil, [] => true
      | .cons a r, x :: xs => notStar x && R κ (.G a x) && R κ (.GS r xs)
      | _, _ => false)
    | .O fl c es => (match fl, c, es with
      | [], .nil, [] => true
      | false :: fl, .cons a r, x :: xs => notStar x && R κ (.E a x) && R κ (.O fl r xs)
      | true :: fl, .cons (.lst a) r, .List ys _ :: xs => R κ (.A a ys) && R κ (.O fl r xs)
      | _, _, _ => false)
    | .S c ss => (match c, ss with
      | .nil, [] => true
      | .cons (.frz _) r, ss => R κ (.S r ss)
      | .cons c r, s :: ss => R κ (.S1 c s) && R κ (.S r ss)
      | _, _ => false)
    | .S1 c s => (match c with
      | .pass => (match s with
        | .Pass _ => true
        | _ => false)
      | .brk => (match s with
        | .Break _ => true
        | _ => false)
      | .cnt => (match s with
        | .Continue _ => true
        | _ => false)
      | .never => true
      | .expr c => (match s with
        | .Expr e _ => notComp e && R κ (.E c e)
        | _ => false)
      | .asg i c => (match s with
        | .Assign [.Name x px] e _ => decide (κ.N[i]? = some x) && locB κ x && (swB κ e x px).isSome && R κ (.E c e)
        | _ => false)
      | .par is fl c => (match s with
        | .Assign [.Name x _] (.List es _) _ => (match is, fl, c with
          | [i], [true], .cons (.lst a) .nil => decide (κ.N[i]? = some x) && locB κ x && R κ (.A a es)
          | _, _, _ => false)
        | .Assign [.Tuple [.Name x px, .Name y py] _ _] (.Tuple [a, b] _ _) _ => (match is with
          | [i, j] => decide (κ.N[i]? = some x) && decide (κ.N[j]? = some y) && isLoc κ x && isLoc κ y && decide (i ≠ j) && (py.line == px.line) && parB [a, b] && R κ (.O fl c [a, b])
          | _ => false)
        | .Assign [.Tuple [.Name x px, .Name y py, .Name z pz] _ _] (.Tuple [a, b, d] _ _) _ => (match is with
          | [i, j, l] => decide (κ.N[i]? = some x) && decide (κ.N[j]? = some y) && decide (κ.N[l]? = some z) && isLoc κ x && isLoc κ y && isLoc κ z && decide (i ≠ j) && decide (i ≠ l) && decide (j ≠ l) && (py.line == px.line) && (pz.line == px.line) && parB [a, b, d] && R κ (.O fl c [a, b, d])
          | _ => false)
        | _ => false)
      | .asgt t c => (match s with
        | .Assign [tg] e _ => tupTg tg && asgtB κ tg e && R κ (.G t tg) && R κ (.E c e)
        | _ => false)
      | .sets o i c => (match s with
        | .Assign [.Subscript x y _] e _ => notSlice y && R κ (.E o x) && R κ (.E i y) && R κ (.E c e)
        | _ => false)
      | .app i c => (match s with
        | .Expr (.Call (.Attribute (.Name x _) nm ap) [e] [] cp) _ => decide (nm = "append") && decide (κ.N[i]? = some x) && visB κ.sc x && noD x && (ap.endLine == cp.line) && notStar e && R κ (.E c e)
        | _ => false)
      | .ite c a b => (match s with
        | .If e p q _ => R κ (.T c e) && R κ (.S a p) && R κ (.S b q)
        | _ => false)
      | .for_ t it b => (match s with
        | .For te ie body [] _ => noSet ie && R κ (.I it te ie) && R κ (.G t te) && R κ (.S b body)
        | _ => false)
      | .whl c b => (match s with
        | .While e body [] _ => R κ (.T c e) && R κ (.S b body)
        | _ => false)
      | .rse c as => (match s with
        | .Raise (some (.Call (.Name x _) es [] _)) none _ => (match S.P.ecs[c]? with
          | some ec => decide (ec.nm = x) && ec.own && globB κ.sc x && noD x && (match ec.fld, es, as with
            | some _, [y], as => notStar y && R κ (.A as [y])
            | none, [], .nil => true
            | _, _, _ => false)
          | none => false)
        | _ => false)
      | .try_ b c i s' => (match s with
        | .Try body [.ExceptHandler (some (.Name x _)) (some y) (s0 :: suite) _] [] [] _ => κ.fnA && (match S.P.ecs[c]? with
          | some ec => decide (ec.nm = x)
          | none => false) && globB κ.sc x && noD x && decide (κ.N[i]? = some y) && isLoc κ y && R κ (.S b body) && R (hotK κ) (.S s' (s0 :: suite))
        | _ => false)
      | .ret c => (match s with
        | .Return (some e) _ => R κ (.E c e)
        | _ => false)
      | .ret0 => (match s with
        | .Return none _ => true
        | _ => false)
      | _ => false)
def ck (S : SX) : Nat → KX → Job → Bool
  | 0, _, _ => false
  | n + 1, κ, j => (κ.calm || hotJ j) && ckB S (ck S n) κ j
theorem ck_succ {S : SX} {n : Nat} {κ : KX} {j : Job} (h : ck S (n + 1) κ j = true) : (κ.calm = true ∨ hotJ j = true) ∧ ckB S (ck S n) κ j = true := by
  unfold ck at h
  simpa using h
end DV
end

section
set_option linter.all false
set_option maxRecDepth 100000
set_option maxHeartbeats 4000000
/-! DV21: the look tells true. -/
namespace DV
open PySem PySem.Spec PyProof.Rows L2 LamX NdefX
def lamGood (S : SX) (k : Nat) (L : LamI) : Prop := ∃ m, lamB S k L = true ∧ ck S m (lamK S k L.scope) (.E (lamBody S k) L.body) = true
structure Cok (C : PC) (S : SX) (n : Nat) (κ : KX) (X : Cx) : Prop where
  K : X.K = C.K
  pg : X.prog = C.prog
  ww : X.w = C.w
  N : X.N = κ.N
  nd : X.N.Nodup
  sc : X.env.scope = κ.sc
  kd : X.env.scope.kind = .function
  fn : ∀ x, fnB κ x = true → X.fn x = true
  calm : κ.calm = true → X.calm = true
  cx : κ.calm = true → C.exn = none
  hot : κ.calm = false → Hot C X
  stk : κ.fnA = true → κ.calm = true → X.stack = X.env :: X.outer ∧ X.env.frame = some X.env.locals
  ec : EcsOk C X.prog X.K X.mg
  un : X.A.units + 200 < cLine
  gd : X.A.guards = some []
  room : κ.calm = true → Room n X.A
  A : κ.calm = true → AllF C X.prog X.w X.K X.mg X.base n
  SP : S.P = C.P
  sg : ∀ t, C.sg t = sgOf S t
  fnm : ∀ (g : Nat) x, S.fnm[g]? = some x → X.mg x = some (.ref (C.fa g)) ∧ ∃ d, C.P.defs[g]? = some d
  gl : ∀ (j : Nat) x, S.gnm[j]? = some x → ∃ d v u, C.P.glos[j]? = some d ∧ X.mg x = some u ∧ RelV v u ∧ ∀ W, RepW C W v d
  bn : ∀ x ∈ S.bn, X.mg x = none
  gcd : S.gcd = true → X.mg "gcd" = some (.builtin "math.gcd")
  lk : C.lamOk = lamGood S
  mkl : κ.mkl = true → ∃ c P, TabB X.base X.mg c P ∧ X.env.code = .ref c ∧ (P, X.env.qual ++ "<lambda>") ∈ C.T ∧ ∀ p ∈ C.T, p.1 = P → p.2 = X.env.qual ++ "<lambda>"
structure Gok (C : PC) (n : Nat) (G : Tell) : Prop where
  F : G.F = callF C.P n
  clo : G.C = callC C.P n
  sig : G.sig = sigOf C.P
  gl : G.gl = fun j => C.P.glos[j]?
  sub : G.sub = C.P.sub
  fld : G.fld = C.P.fld
  ex : ∀ e, C.exn = some e → G.ex = some (e.c, e.ds)
def Holds (C : PC) (G : Tell) (κ : KX) (X : Cx) : Job → Prop
  | .E c e => DE C G X c e
  | .A c es => DA C G X c es ∧ (es = [] → c = .nil) ∧ es.all notStar = true
  | .BA o c es => ∀ pos, DE C G X c (.BoolOp o es pos)
  | .T c e => DT C G X c e
  | .TA o c es => ∀ pos, DW C G X c (.BoolOp o es pos)
  | .I c t e => DI C G X c t e
  | .C c ifs => PTs X ifs (tT C noW (evC G c))
  | .P c e => DO C G X c e
  | .K c kws => DK C G X c kws
  | .M c es k caps => κ.mkl = true → ∃ pre LL pos, es = pre ++ [.Lambda LL.params LL.body LL.scope pos] ∧ pre.all notStar = true ∧ C.lamOk k LL ∧ LamC C X LL ∧ CapC C X LL caps ∧ DAM C G X c pre (.Lambda LL.params LL.body LL.scope pos) (tLamE C LL caps (clOf X LL))
  | .G ct t => DG C X ct t
  | .GS ct ts => DGs C X ct ts
  | .O fl c es => DO2 C G X fl c es
  | .S c ss => PassesOwn (model X.prog X.w) X.A X.env X.xe → DS C G X c ss
  | .S1 c s => PassesOwn (model X.prog X.w) X.A X.env X.xe → DS1 C G X c s
section
variable {C : PC} {S : SX} {n : Nat} {κ : KX} {X : Cx} {G : Tell}
theorem Cok.vis (o : Cok C S n κ X) {x : Str} (h : visB κ.sc x = true) : Vis X.env.scope x := by
  unfold visB at h
  unfold Vis
  rw [o.sc]
  split at h <;> simp_all
theorem Cok.loc (o : Cok C S n κ X) {x : Str} (h : locB κ x = true) : L2.Loc X.env.scope x ∧ (X.fn x = true ∨ X.env.scope.names.lookup x = some .local) := by
  unfold locB at h
  unfold L2.Loc
  rw [o.sc]
  split at h
  · rename_i e; exact ⟨.inl e, .inr e⟩
  · rename_i e; exact ⟨.inr e, .inl (o.fn x h)⟩
  · cases h
theorem Cok.gl_ (o : Cok C S n κ X) {x : Str} (h : globB κ.sc x = true) : Gl X x := by
  unfold globB at h
  show X.env.scope.names.lookup x = _
  rw [o.sc]
  simpa using h
theorem Cok.no (o : Cok C S n κ X) {x : Str} (h : bnB S x = true) : X.mg x = none := o.bn x (by simpa [bnB] using h)
theorem noD1 {x : Str} (h : noD x = true) : (x == ("__debug__" : Str)) = false ∧ (x == ("__classdict__" : Str)) = false := by
  simpa [noD] using h
theorem Cok.units (o : Cok C S n κ X) : X.A.units + 200 < cLine := o.un
theorem Cok.blk (o : Cok C S n κ X) (hcalm : κ.calm = true) {scope : Scope} (hk : scope.kind = .function) (s : Shared) (H : Hp) (B : Addr) (cl : List (Str × Addr)) (fp : List Addr) : Cok C S n (blkK κ scope) (X.blk s H scope (compEnvC scope cl B X.env) fp) where
  K := o.K
  pg := o.pg
  ww := o.ww
  N := o.N
  nd := o.nd
  sc := by
    show relS scope X.env.scope = relS scope κ.sc
    rw [o.sc]
  kd := hk
  fn := fun x h => by
    have h' : decide (scope.names.lookup x = some .cell) = true := h
    show (scope.names.lookup x == some .cell) = true
    simpa using h'
  calm := o.calm
  cx := o.cx
  hot := fun h => by
    have h' : κ.calm = false := h
    rw [hcalm] at h'; cases h'
  stk := fun h => by cases h
  ec := o.ec
  un := o.un
  gd := o.gd
  room := o.room
  A := o.A
  SP := o.SP
  sg := o.sg
  fnm := o.fnm
  gl := o.gl
  bn := o.bn
  gcd := o.gcd
  lk := o.lk
  mkl := o.mkl
theorem Cok.tr (o : Cok C S n κ X) (pn : List (Addr × Obj)) (xe : Value → Shared → Prop) (hcm : κ.calm = true) : Cok C S n κ (X.tr pn xe) where
  K := o.K
  pg := o.pg
  ww := o.ww
  N := o.N
  nd := o.nd
  sc := o.sc
  kd := o.kd
  fn := o.fn
  calm := o.calm
  cx := o.cx
  hot := fun h => by rw [hcm] at h; cases h
  stk := o.stk
  ec := o.ec
  un := o.un
  gd := o.gd
  room := o.room
  A := o.A
  SP := o.SP
  sg := o.sg
  fnm := o.fnm
  gl := o.gl
  bn := o.bn
  gcd := o.gcd
  lk := o.lk
  mkl := o.mkl
theorem Gok.suite (gk : Gok C n G) (e : ExI) : Gok (C.ex (some e)) n { G with ex := some (e.c, e.ds) } := ⟨gk.F, gk.clo, gk.sig, gk.gl, gk.sub, gk.fld, fun x hx => by cases hx; rfl⟩
theorem Cok.suite (o : Cok C S n κ X) (hcm : κ.calm = true) (e : ExI) (oe : Obj) (pn : List (Addr × Obj)) (hz : Zc e.cls e.d oe) (hf : ∃ vs, oe.data = .fields vs) : Cok (C.ex (some e)) S n (hotK κ) (X.suite e.a ((e.a, oe) :: pn)) where
  K := o.K
  pg := o.pg
  ww := o.ww
  N := o.N
  nd := o.nd
  sc := o.sc
  kd := o.kd
  fn := o.fn
  calm := fun h => by cases h
  cx := fun h => by cases h
  hot := fun _ => ⟨e, X, oe, pn, rfl, rfl, hz, hf⟩
  stk := fun _ h => by cases h
  ec := fun c ec h => let z := o.ec c ec h; ⟨z.own, z.blt, z.rel⟩
  un := o.un
  gd := o.gd
  room := fun h => by cases h
  A := fun h => by cases h
  SP := o.SP
  sg := o.sg
  fnm := o.fnm
  gl := fun j x h => let ⟨d, v, u, h1, h2, h3, h4⟩ := o.gl j x h; ⟨d, v, u, h1, h2, h3, fun W => (h4 W).ex⟩
  bn := o.bn
  gcd := o.gcd
  lk := o.lk
  mkl := fun h => by cases h
theorem blk_kind {N : List Str} {sc scope : Scope} {own : List (Str × Nat)} (h : blkC N sc scope own = true) : scope.kind = .function := (blkOk_by h).kind
theorem ownP_map {N : List Str} : ∀ vs : List Nat, (ownP N vs).map (·.2) = vs
  | [] => rfl
  | v :: vs => by
    show v :: (ownP N vs).map (·.2) = _
    rw [ownP_map vs]
theorem con_ok {d : D} {k : Const} {j : Nat} {pos : Pos} (h : conB d k = true) : DE C G X (.con d) (.Constant k j pos) := by
  unfold conB at h
  split at h
  · exact de_con pe_non fun _ => .non
  · simp at h; subst h; exact de_con pe_bl fun _ => .bl _
  · simp at h; subst h; exact de_con pe_int fun _ => .int _
  · simp at h; subst h; exact de_con pe_str fun _ => .str _
  · cases h
theorem plain_ps {L : LamI} {ps : List Str} (h : plainB L.params ps = true) (cl : List (Str × Addr)) (pm cdv ctv : Value) : PlainPs (PySem.W.kla_fn "<lambda>" L.qual L.params L.body L.scope cl pm cdv ctv) ps ∧ ∀ env, defaultsOf L.params env = ([], []) := by
  obtain ⟨q, ⟨po, ar, va, ko, kd, kw, df⟩, b, sc, fr⟩ := L
  simp only [plainB, Bool.and_eq_true, decide_eq_true_eq, List.isEmpty_iff, Option.isNone_iff_eq_none] at h
  obtain ⟨⟨⟨⟨⟨⟨h1, h2⟩, h3⟩, h4⟩, h5⟩, h6⟩, h7⟩ := h
  subst h1 h2 h3 h4 h5 h6
  exact ⟨⟨rfl, h7, rfl, rfl, rfl, rfl⟩, fun env => rfl⟩
theorem tst_truth {c : CE} {e : Expr} (h : tstB e = true) (env : PySem.Env) : ∀ whole, isTrue e env whole = (do let v ← whole; standAt e.pos; holding [v] (truthy v)) := fun whole => by
  cases e <;> first | rfl | (cases h; done) | skip
  rename_i op x pos
  cases op <;> first | rfl | (cases h; done)
end
end DV
end

section
set_option linter.all false
set_option maxRecDepth 100000
set_option maxHeartbeats 8000000
/-! DV22: the look tells true: expressions. -/
namespace DV
open PySem PySem.Spec PyProof.Rows L2 LamX NdefX
section
variable {C : PC} {S : SX} {m : Nat} {G : Tell}
/-- what the look at smaller jobs tells -/
def IH (C : PC) (S : SX) (m : Nat) (G : Tell) (n : Nat) : Prop := ∀ κ X j, Cok C S m κ X → ck S n κ j = true → Holds C G κ X j
theorem bltOk_of {b : Blt} (h : b ≠ .dictzip) (h2 : b ≠ .sorted) : bltOk b = true := by cases b <;> first | rfl | exact absurd rfl h | exact absurd rfl h2
theorem blt_all {X : Cx} {κ : KX} (o : Cok C S m κ X) {b : Blt} (h : b ≠ .dictzip) (hc : bltHot b = true ∨ X.calm = true) : CallR X (bltV b) (rBl C b) := by
  by_cases h2 : b = .sorted
  · subst h2; exact sorted_ok o.K
  · exact blt_ok o.K o.gd o.units b (bltOk_of h h2) hc
theorem ce_inj {c : Cop} {o : CmpOp} (h : o = copOf c) : o = copOf c := h
theorem DA.nil_of {c : CE} {n : Nat} {κ : KX} (h : ck S n κ (.A c []) = true) : c = .nil := by
  cases n with
  | zero => cases h
  | succ n => cases c <;> first | rfl | (simp [ck, ckB] at h)
theorem kws_len : ∀ {kws : List Keyword}, kws.all (·.arg.isSome) = true → (kws.filterMap (·.arg)).length = kws.length
  | [], _ => rfl
  | ⟨nm, e, p⟩ :: r, h => by
    simp only [List.all_cons, Bool.and_eq_true] at h
    rw [List.filterMap_cons]
    cases nm with
    | none => cases h.1
    | some x => simp [kws_len h.2]
theorem comp_parts {n : Nat} (ih : IH C S m G n) {κ : KX} {X : Cx} (o : Cok C S m κ X) {tg : CT} {it c e' : CE} {own : List Nat} {elt te ie : Expr} {ifs : List Expr} {scope : Scope} (hcm : κ.calm = true)
    (hb : blkC κ.N κ.sc scope (ownP κ.N own) = true) (h1 : ck S n κ (.I it te ie) = true) (h2 : ck S n (blkK κ scope) (.G tg te) = true) (h3 : ck S n (blkK κ scope) (.C c ifs) = true) (h4 : ck S n (blkK κ scope) (.E e' elt) = true) :
    DI C G X it te ie ∧ BlkOk X.N X.env.scope scope (ownP κ.N own) ∧ (∀ (s : Shared) (H : Hp) (B : Addr) (cl : List (Str × Addr)) (fp : List Addr), DG C (X.blk s H scope (compEnvC scope cl B X.env) fp) tg te) ∧
    (∀ (s : Shared) (H : Hp) (B : Addr) (cl : List (Str × Addr)) (fp : List Addr), PTs (X.blk s H scope (compEnvC scope cl B X.env) fp) ifs (tT C noW (evC G c))) ∧ ∀ (s : Shared) (H : Hp) (B : Addr) (cl : List (Str × Addr)) (fp : List Addr), DE C G (X.blk s H scope (compEnvC scope cl B X.env) fp) e' elt := by
  have hk := blk_kind hb
  exact ⟨ih κ X _ o h1, by rw [o.N, o.sc]; exact blkOk_by hb, fun s H B cl fp => ih _ _ _ (o.blk hcm hk s H B cl fp) h2, fun s H B cl fp => ih _ _ _ (o.blk hcm hk s H B cl fp) h3, fun s H B cl fp => ih _ _ _ (o.blk hcm hk s H B cl fp) h4⟩
theorem ck_E {n : Nat} (gk : Gok C m G) (ih : IH C S m G n) {κ : KX} {X : Cx} (o : Cok C S m κ X) {c : CE} {e : Expr} (hc : κ.calm = true ∨ hotJ (.E c e) = true) (h : ckB S (ck S n) κ (.E c e) = true) : DE C G X c e := by
  cases c
  case var i =>
    simp only [ckB] at h
    split at h
    · simp only [Bool.and_eq_true, decide_eq_true_eq, Bool.not_eq_true'] at h
      obtain ⟨⟨h1, h2⟩, h3⟩ := h
      exact de_var (by rw [o.N]; exact h1) (o.vis h2) (noD1 h3).1 (noD1 h3).2
    · cases h
  case con d =>
    simp only [ckB] at h
    split at h
    · exact con_ok h
    · cases h
  case glo j =>
    simp only [ckB] at h
    split at h
    · simp only [Bool.and_eq_true, decide_eq_true_eq, Bool.not_eq_true'] at h
      obtain ⟨⟨h1, h2⟩, h3⟩ := h
      obtain ⟨d, v, u, g1, g2, g3, g4⟩ := o.gl j _ h1
      exact de_glo (by rw [gk.gl]; exact g1) (o.gl_ h2) g2 g3 (noD1 h3).1 g4
    · cases h
  case nil => simp [ckB] at h
  case cons a r => simp [ckB] at h
  case tup a =>
    simp only [ckB] at h
    split at h
    · exact de_tup (ih κ X _ o h).1
    · cases h
  case lst a =>
    simp only [ckB] at h
    split at h
    · exact de_lst (ih κ X _ o h).1
    · cases h
  case new a =>
    simp only [ckB] at h
    split at h
    · exact de_new (ih κ X _ o h).1
    · cases h
  case bin op a b =>
    simp only [ckB] at h
    split at h
    · simp only [Bool.and_eq_true, decide_eq_true_eq, Bool.not_eq_true'] at h
      obtain ⟨⟨h1, h2⟩, h3⟩ := h
      subst h1
      exact de_bin o.K (ih κ X _ o h2) (ih κ X _ o h3)
    · cases h
  case neg a =>
    simp only [ckB] at h
    split at h
    · simp only [Bool.and_eq_true, decide_eq_true_eq, Bool.not_eq_true'] at h
      obtain ⟨h1, h2⟩ := h
      subst h1
      exact de_neg (ih κ X _ o h2)
    · cases h
  case inv a =>
    simp only [ckB] at h
    split at h
    · simp only [Bool.and_eq_true, decide_eq_true_eq, Bool.not_eq_true'] at h
      obtain ⟨h1, h2⟩ := h
      subst h1
      exact de_inv (ih κ X _ o h2)
    · cases h
  case cmp op a b =>
    simp only [ckB] at h
    split at h
    · simp only [Bool.and_eq_true, decide_eq_true_eq, Bool.not_eq_true'] at h
      obtain ⟨⟨⟨h1, h2⟩, h3⟩, h4⟩ := h
      subst h1
      exact de_cmp o.K (by have := o.units; omega) h2 (ih κ X _ o h3) (ih κ X _ o h4)
    · cases h
  case cmp2 op p a b c =>
    simp only [ckB] at h
    split at h
    · simp only [Bool.and_eq_true, decide_eq_true_eq, Bool.not_eq_true'] at h
      obtain ⟨⟨⟨⟨⟨h1, h2⟩, h3⟩, h4⟩, h5⟩, h6⟩ := h
      subst h1 h2
      exact de_cmp2 o.K (by have := o.units; omega) h3 (ih κ X _ o h4) (ih κ X _ o h5) (ih κ X _ o h6)
    · cases h
  case and a b =>
    simp only [ckB] at h
    split at h
    · simp only [Bool.and_eq_true, decide_eq_true_eq, Bool.not_eq_true'] at h
      obtain ⟨⟨h1, h2⟩, h3⟩ := h
      subst h1
      exact de_and o.K (ih κ X _ o h2) (ih κ X _ o h3 _)
    · cases h
  case or a b =>
    simp only [ckB] at h
    split at h
    · simp only [Bool.and_eq_true, decide_eq_true_eq, Bool.not_eq_true'] at h
      obtain ⟨⟨h1, h2⟩, h3⟩ := h
      subst h1
      exact de_or o.K (ih κ X _ o h2) (ih κ X _ o h3 _)
    · cases h
  case not a =>
    simp only [ckB] at h
    split at h
    · simp only [Bool.and_eq_true, decide_eq_true_eq, Bool.not_eq_true'] at h
      obtain ⟨h1, h2⟩ := h
      subst h1
      exact de_not o.K (ih κ X _ o h2)
    · cases h
  case ife c a b =>
    simp only [ckB] at h
    split at h
    · simp only [Bool.and_eq_true, decide_eq_true_eq, Bool.not_eq_true'] at h
      obtain ⟨⟨h1, h2⟩, h3⟩ := h
      exact de_ife (ih κ X _ o h1) (ih κ X _ o h2) (ih κ X _ o h3)
    · cases h
  case sub a i =>
    simp only [ckB] at h
    split at h
    · simp only [Bool.and_eq_true, decide_eq_true_eq, Bool.not_eq_true'] at h
      obtain ⟨⟨h1, h2⟩, h3⟩ := h
      exact de_sub o.K o.pg o.ww (by have := o.units; omega) h1 (ih κ X _ o h2) (ih κ X _ o h3)
    · cases h
  case slc a lo hi =>
    simp only [ckB] at h
    split at h
    · simp only [Bool.and_eq_true, decide_eq_true_eq, Bool.not_eq_true'] at h
      obtain ⟨⟨h1, h2⟩, h3⟩ := h
      exact de_slc o.K (ih κ X _ o h1) (ih κ X _ o h2) (ih κ X _ o h3)
    · cases h
  case isi t a =>
    simp only [ckB] at h
    split at h
    · simp only [Bool.and_eq_true, decide_eq_true_eq, Bool.not_eq_true'] at h
      obtain ⟨⟨⟨⟨⟨⟨⟨h1, h2⟩, h3⟩, h4⟩, h5⟩, h6⟩, h7⟩, h8⟩ := h
      subst h1 h4
      exact de_isi o.K (o.gl_ h2) (o.no h3) (o.gl_ h5) (o.no h6) h7 (ih κ X _ o h8)
    · cases h
  case call g as ks =>
    have hcm : κ.calm = true := by simpa [hotJ, hotE] using hc
    simp only [ckB] at h
    split at h
    · simp only [Bool.and_eq_true, decide_eq_true_eq, Bool.not_eq_true'] at h
      obtain ⟨⟨⟨⟨⟨⟨⟨⟨⟨h1, h2⟩, h3⟩, h4⟩, h5⟩, h6⟩, h7⟩, h8⟩, h9⟩, h10⟩ := h
      obtain ⟨hm, d, hd⟩ := o.fnm g _ h1
      obtain ⟨ps, F⟩ := (o.A hcm).defs g d hd
      have hps : sgOf S (sigOf S.P g) = ps := by rw [← o.sg, o.SP]; exact F.sg
      rw [hps] at h6
      have hA := ih κ X _ o h9
      refine de_call gk.F F o.gd (o.room hcm) (o.gl_ h2) hm (noD1 h3).1 h4 h5 h6 hA.2.1 h7 ?_ hA.1 (ih κ X _ o h10)
      rw [h8, ← h6]
      exact (kws_len h5).symm
    · cases h
  case callv i as ks s =>
    have hcm : κ.calm = true := by simpa [hotJ, hotE] using hc
    simp only [ckB] at h
    split at h
    · simp only [Bool.and_eq_true, decide_eq_true_eq, Bool.not_eq_true'] at h
      obtain ⟨⟨⟨⟨⟨⟨⟨⟨h1, h2⟩, h3⟩, h4⟩, h5⟩, h6⟩, h7⟩, h8⟩, h9⟩ := h
      have hA := ih κ X _ o h8
      refine de_callv gk.F gk.clo gk.sig (o.A hcm) o.gd (o.room hcm) (by rw [o.N]; exact h1) (o.vis h2) (noD1 h3).1 (noD1 h3).2 h4 h5 (fun t e => ?_) (fun e => ?_) hA.2.1 h7 hA.1 (ih κ X _ o h9)
      · subst e
        simp only [decide_eq_true_eq] at h6
        rw [h6, o.sg]
      · subst e
        simpa using h6
    · cases h
  case callm g as k caps =>
    have hcm : κ.calm = true := by simpa [hotJ, hotE] using hc
    simp only [ckB] at h
    split at h
    · simp only [Bool.and_eq_true, decide_eq_true_eq, Bool.not_eq_true'] at h
      obtain ⟨⟨⟨⟨h1, h2⟩, h3⟩, h4⟩, h5⟩ := h
      obtain ⟨hm, d, hd⟩ := o.fnm g _ h1
      obtain ⟨ps, F⟩ := (o.A hcm).defs g d hd
      obtain ⟨pre, LL, pos, rfl, hpre, hok, L, Cp, dam⟩ := ih κ X _ o h5 h4
      exact de_callm hok gk.F F o.gd (o.room hcm) (o.gl_ h2) hm (noD1 h3).1 L Cp hpre dam
    · cases h
  case blt b as =>
    simp only [ckB] at h
    split at h
    · rename_i hb
      subst hb
      have hcm : κ.calm = true := by simpa [hotJ, hotE, bltHot] using hc
      split at h
      · simp only [Bool.and_eq_true, decide_eq_true_eq, Bool.not_eq_true'] at h
        obtain ⟨⟨⟨⟨⟨⟨⟨⟨h1, h2⟩, h3⟩, h4⟩, h5⟩, h6⟩, h7⟩, h8⟩, h9⟩ := h
        subst h1 h4
        exact de_dictzip o.K o.pg o.ww (o.calm hcm) o.units (o.gl_ h2) (o.no h3) (o.gl_ h5) (o.no h6) h7 h8 (ih κ X _ o h9).1
      · cases h
    · rename_i hb
      split at h
      · simp only [Bool.and_eq_true, decide_eq_true_eq, Bool.not_eq_true'] at h
        obtain ⟨⟨⟨⟨h1, h2⟩, h3⟩, h5⟩, h6⟩ := h
        subst h1
        have hhot : bltHot b = true ∨ X.calm = true := by
          rcases hc with z | z
          · exact .inr (o.calm z)
          · exact .inl z
        refine de_blt hb (blt_all o hb hhot) (o.gl_ h2) ?_ (ih κ X _ o h6).1 h5
        unfold BltM
        split at h3
        · rename_i hb; rw [if_pos hb]; exact o.gcd h3
        · rename_i hb; rw [if_neg hb]; exact o.no h3
      · cases h
  case mth mt o' as =>
    simp only [ckB] at h
    split at h
    · simp only [Bool.and_eq_true, decide_eq_true_eq, Bool.not_eq_true'] at h
      obtain ⟨⟨⟨⟨⟨h1, h2⟩, h3⟩, h4⟩, h5⟩, h6⟩ := h
      subst h1
      exact de_mth o.K h2 h3 h4 (ih κ X _ o h5) (ih κ X _ o h6).1
    · cases h
  case comp tg it c e' own =>
    have hcm : κ.calm = true := by simpa [hotJ, hotE] using hc
    simp only [ckB] at h
    split at h
    · simp only [Bool.and_eq_true, decide_eq_true_eq, Bool.not_eq_true'] at h
      obtain ⟨⟨⟨⟨⟨⟨⟨h1, h2⟩, h3⟩, h4⟩, h5⟩, h6⟩, h7⟩, h8⟩ := h
      subst h1
      obtain ⟨p1, p2, p3, p4, p5⟩ := comp_parts ih o hcm h3 h5 h6 h7 h8
      have := de_comp (pos := by assumption) (o.calm hcm) o.nd p1 p2 p3 p4 p5 (fun x => folded_of h2 _ x) (by rw [ownP_map]; exact h4)
      rw [ownP_map] at this
      exact this
    · cases h
  case comp2 tg it c tg2 it2 c2 e' own own2 =>
    have hcm : κ.calm = true := by simpa [hotJ, hotE] using hc
    simp only [ckB] at h
    split at h
    · simp only [Bool.and_eq_true, decide_eq_true_eq, Bool.not_eq_true'] at h
      obtain ⟨⟨⟨⟨⟨⟨⟨⟨⟨⟨⟨⟨⟨⟨h1, h2⟩, h3⟩, h4⟩, h5⟩, h6⟩, h7⟩, h8⟩, h9⟩, h10⟩, h11⟩, h12⟩, h13⟩, h14⟩, h15⟩ := h
      subst h1 h2
      obtain ⟨p1, p2, p3, p4, p5⟩ := comp_parts ih o hcm h5 h9 h10 h11 h15
      have hk := blk_kind h5
      have := de_comp2 (vs1 := own2) (pos := by assumption) (o.calm hcm) o.nd p1 p2 (fun i hi => by rw [ownP_map]; simpa using List.all_eq_true.mp h8 i hi) p3 p4 (fun s H B cl fp => ih _ _ _ (o.blk hcm hk s H B cl fp) h12) (fun s H B cl fp => ih _ _ _ (o.blk hcm hk s H B cl fp) h13)
        (fun s H B cl fp => ih _ _ _ (o.blk hcm hk s H B cl fp) h14) p5 (fun x => folded_of h3 _ x) (fun env x => folded_of h4 env x) (by rw [ownP_map]; exact h6) h7
      rw [ownP_map] at this
      exact this
    · cases h
  case exat i f =>
    simp only [ckB] at h
    split at h
    · simp only [Bool.and_eq_true, decide_eq_true_eq, Bool.not_eq_true'] at h
      obtain ⟨⟨⟨⟨h1, h2⟩, h3⟩, h4⟩, h5⟩ := h
      subst h5
      exact de_exat o.ec gk.fld (o.hot h1) gk.ex (by rw [o.N]; exact h2) (o.vis h3) (noD1 h4).1 (noD1 h4).2
    · cases h
  case exis i c2 =>
    simp only [ckB] at h
    split at h
    · simp only [Bool.and_eq_true, decide_eq_true_eq, Bool.not_eq_true'] at h
      obtain ⟨⟨⟨⟨⟨⟨⟨⟨⟨h1, h2⟩, h3⟩, h4⟩, h5⟩, h6⟩, h7⟩, h8⟩, h9⟩, h10⟩ := h
      subst h2
      split at h8
      · rename_i ec hec
        simp only [Bool.and_eq_true, decide_eq_true_eq, Bool.not_eq_true'] at h8
        subst h8
        have hec' : C.P.ecs[c2]? = some ec := by rw [← o.SP]; exact hec
        exact de_exis o.ec gk.sub (o.hot h1) gk.ex (o.gl_ h3) (o.no h4) hec' (o.gl_ h9) (noD1 h10).1 (by rw [o.N]; exact h5) (o.vis h6) (noD1 h7).1 (noD1 h7).2
      · cases h8
    · cases h
  case sfst a b =>
    have hcm : κ.calm = true := by simpa [hotJ, hotE] using hc
    simp only [ckB] at h
    split at h
    · simp only [Bool.and_eq_true, decide_eq_true_eq, Bool.not_eq_true'] at h
      obtain ⟨⟨h1, h2⟩, h3⟩ := h
      exact de_sfst o.K h1 (ih κ X _ o h2) (ih κ X _ o h3)
    · cases h
  all_goals simp [ckB] at h
end
end DV
end

section
set_option linter.all false
set_option maxRecDepth 100000
set_option maxHeartbeats 8000000
/-! DV23: the look tells true: all jobs. -/
namespace DV
open PySem PySem.Spec PyProof.Rows L2 LamX NdefX
section
variable {C : PC} {S : SX} {m : Nat} {G : Tell} {n : Nat} {κ : KX} {X : Cx}
theorem ck_A (ih : IH C S m G n) (o : Cok C S m κ X) {c : CE} {es : List Expr} (hc : κ.calm = true ∨ hotJ (.A c es) = true) (h : ckB S (ck S n) κ (.A c es) = true) : DA C G X c es ∧ (es = [] → c = .nil) ∧ es.all notStar = true := by
  simp only [ckB] at h
  split at h
  · exact ⟨da_nil, fun _ => rfl, rfl⟩
  · simp only [Bool.and_eq_true, decide_eq_true_eq, Bool.not_eq_true'] at h
    obtain ⟨⟨h1, h2⟩, h3⟩ := h
    obtain ⟨a1, a2, a3⟩ := ih κ X _ o h3
    exact ⟨da_cons h1 (ih κ X _ o h2) a1, fun e => by simp at e, by simp [h1, a3]⟩
  · cases h
theorem ck_BA (ih : IH C S m G n) (o : Cok C S m κ X) {op : BoolOp} {c : CE} {es : List Expr} (hc : κ.calm = true ∨ hotJ (.BA op c es) = true) (h : ckB S (ck S n) κ (.BA op c es) = true) (pos : Pos) : DE C G X c (.BoolOp op es pos) := by
  simp only [ckB] at h
  split at h
  · exact de_one (ih κ X _ o h)
  · split at h
    · simp only [Bool.and_eq_true, decide_eq_true_eq, Bool.not_eq_true'] at h
      obtain ⟨⟨h1, h2⟩, h3⟩ := h
      subst h1
      exact de_and o.K (ih κ X _ o h2) (ih κ X _ o h3 _)
    · simp only [Bool.and_eq_true, decide_eq_true_eq, Bool.not_eq_true'] at h
      obtain ⟨⟨h1, h2⟩, h3⟩ := h
      subst h1
      exact de_or o.K (ih κ X _ o h2) (ih κ X _ o h3 _)
    · cases h
  · cases h
theorem ck_T (ih : IH C S m G n) (o : Cok C S m κ X) {c : CE} {e : Expr} (hc : κ.calm = true ∨ hotJ (.T c e) = true) (h : ckB S (ck S n) κ (.T c e) = true) : DT C G X c e := by
  cases c
  case and a b =>
    simp only [ckB] at h
    split at h
    · simp only [Bool.and_eq_true, decide_eq_true_eq, Bool.not_eq_true'] at h
      obtain ⟨⟨h1, h2⟩, h3⟩ := h
      subst h1
      exact (dw_and (ih κ X _ o h2) (ih κ X _ o h3 _)).dt
    · cases h
  case or a b =>
    simp only [ckB] at h
    split at h
    · simp only [Bool.and_eq_true, decide_eq_true_eq, Bool.not_eq_true'] at h
      obtain ⟨⟨h1, h2⟩, h3⟩ := h
      subst h1
      exact (dw_or (ih κ X _ o h2) (ih κ X _ o h3 _)).dt
    · cases h
  case not a =>
    simp only [ckB] at h
    split at h
    · simp only [Bool.and_eq_true, decide_eq_true_eq, Bool.not_eq_true'] at h
      obtain ⟨h1, h2⟩ := h
      subst h1
      exact dt_not (ih κ X _ o h2)
    · cases h
  case cmp op a b =>
    simp only [ckB] at h
    split at h
    · simp only [Bool.and_eq_true, decide_eq_true_eq, Bool.not_eq_true'] at h
      obtain ⟨⟨⟨h1, h2⟩, h3⟩, h4⟩ := h
      subst h1
      exact dt_cmp o.K (by have := o.units; omega) h2 (ih κ X _ o h3) (ih κ X _ o h4)
    · cases h
  case cmp2 => simp [ckB] at h
  case ife => simp [ckB] at h
  all_goals
    simp only [ckB] at h
    simp only [Bool.and_eq_true, decide_eq_true_eq, Bool.not_eq_true'] at h
    exact dt_truth o.K (fun ρ st => by simp only [evT]) (tst_truth (c := .nil) h.1 _) (ih κ X _ o h.2)
theorem ck_TA (ih : IH C S m G n) (o : Cok C S m κ X) {op : BoolOp} {c : CE} {es : List Expr} (hc : κ.calm = true ∨ hotJ (.TA op c es) = true) (h : ckB S (ck S n) κ (.TA op c es) = true) (pos : Pos) : DW C G X c (.BoolOp op es pos) := by
  simp only [ckB] at h
  split at h
  · cases op
    · exact dw_one1 (ih κ X _ o h)
    · exact dw_one2 (ih κ X _ o h)
  · split at h
    · simp only [Bool.and_eq_true, decide_eq_true_eq, Bool.not_eq_true'] at h
      obtain ⟨⟨h1, h2⟩, h3⟩ := h
      subst h1
      exact dw_and (ih κ X _ o h2) (ih κ X _ o h3 _)
    · simp only [Bool.and_eq_true, decide_eq_true_eq, Bool.not_eq_true'] at h
      obtain ⟨⟨h1, h2⟩, h3⟩ := h
      subst h1
      exact dw_or (ih κ X _ o h2) (ih κ X _ o h3 _)
    · cases h
  · cases h
theorem ck_I (ih : IH C S m G n) (o : Cok C S m κ X) {c : CE} {t e : Expr} (hc : κ.calm = true ∨ hotJ (.I c t e) = true) (h : ckB S (ck S n) κ (.I c t e) = true) : DI C G X c t e := by
  cases c
  case iseq a =>
    simp only [ckB] at h
    exact di_iseq o.K (ih κ X _ o h)
  case irng a =>
    simp only [ckB] at h
    split at h
    · simp only [Bool.and_eq_true, decide_eq_true_eq, Bool.not_eq_true'] at h
      obtain ⟨⟨⟨⟨h1, h2⟩, h3⟩, h4⟩, h5⟩ := h
      subst h1
      exact di_irng (o.gl_ h2) (o.no h3) h4 (ih κ X _ o h5)
    · cases h
  case irng2 a b =>
    simp only [ckB] at h
    split at h
    · simp only [Bool.and_eq_true, decide_eq_true_eq, Bool.not_eq_true'] at h
      obtain ⟨⟨⟨⟨⟨⟨h1, h2⟩, h3⟩, h4⟩, h5⟩, h6⟩, h7⟩ := h
      subst h1
      exact di_irng2 (o.gl_ h2) (o.no h3) h4 h5 (ih κ X _ o h6) (ih κ X _ o h7)
    · cases h
  case ienum a =>
    simp only [ckB] at h
    split at h
    · simp only [Bool.and_eq_true, decide_eq_true_eq, Bool.not_eq_true'] at h
      obtain ⟨⟨⟨⟨⟨h1, h2⟩, h3⟩, h4⟩, h5⟩, h6⟩ := h
      subst h1
      exact di_ienum o.K h4 (o.gl_ h2) (o.no h3) h5 (ih κ X _ o h6)
    · cases h
  case izip a b =>
    simp only [ckB] at h
    split at h
    · simp only [Bool.and_eq_true, decide_eq_true_eq, Bool.not_eq_true'] at h
      obtain ⟨⟨⟨⟨⟨⟨⟨h1, h2⟩, h3⟩, h4⟩, h5⟩, h6⟩, h7⟩, h8⟩ := h
      subst h1
      exact di_izip o.K h4 (o.gl_ h2) (o.no h3) h5 h6 (ih κ X _ o h7) (ih κ X _ o h8)
    · cases h
  all_goals simp [ckB] at h
theorem ck_C (ih : IH C S m G n) (o : Cok C S m κ X) {c : CE} {ifs : List Expr} (hc : κ.calm = true ∨ hotJ (.C c ifs) = true) (h : ckB S (ck S n) κ (.C c ifs) = true) : PTs X ifs (tT C noW (evC G c)) := by
  simp only [ckB] at h
  split at h
  · exact dts_nil
  · exact dts_one (ih κ X _ o h)
  · cases h
theorem ck_P (ih : IH C S m G n) (o : Cok C S m κ X) {c : CE} {e : Option Expr} (hc : κ.calm = true ∨ hotJ (.P c e) = true) (h : ckB S (ck S n) κ (.P c e) = true) : DO C G X c e := by
  simp only [ckB] at h
  split at h
  · exact do_none
  · exact do_some (ih κ X _ o h)
  · cases h
theorem ck_K (ih : IH C S m G n) (o : Cok C S m κ X) {c : CE} {kws : List Keyword} (hc : κ.calm = true ∨ hotJ (.K c kws) = true) (h : ckB S (ck S n) κ (.K c kws) = true) : DK C G X c kws := by
  simp only [ckB] at h
  split at h
  · exact dk_nil
  · simp only [Bool.and_eq_true, decide_eq_true_eq, Bool.not_eq_true'] at h
    exact dk_cons (ih κ X _ o h.1) (ih κ X _ o h.2)
  · cases h
theorem ck_M (ih : IH C S m G n) (o : Cok C S m κ X) {c : CE} {es : List Expr} {k : Nat} {caps : List Nat} (hc : κ.calm = true ∨ hotJ (.M c es k caps) = true) (h : ckB S (ck S n) κ (.M c es k caps) = true) (hm : κ.mkl = true) :
    ∃ pre LL pos, es = pre ++ [.Lambda LL.params LL.body LL.scope pos] ∧ pre.all notStar = true ∧ C.lamOk k LL ∧ LamC C X LL ∧ CapC C X LL caps ∧ DAM C G X c pre (.Lambda LL.params LL.body LL.scope pos) (tLamE C LL caps (clOf X LL)) := by
  simp only [ckB] at h
  split at h
  · rename_i ps body sc pos
    split at h
    · simp only [Bool.and_eq_true, decide_eq_true_eq, Bool.not_eq_true'] at h
      obtain ⟨⟨⟨⟨⟨h1, h2⟩, h3⟩, h4⟩, h5⟩, h6⟩ := h
      have hL : LamC C X ⟨X.env.qual ++ "<lambda>", ps, body, sc, (S.lfr[k]?).getD []⟩ := by
        refine ⟨o.mkl hm, rfl, ?_, fun y hy e => ?_⟩
        · unfold lamB at h1
          split at h1
          · simp only [Bool.and_eq_true, decide_eq_true_eq, Bool.not_eq_true'] at h1
            exact (plain_ps (L := ⟨"", ps, body, sc, (S.lfr[k]?).getD []⟩) h1.2 [] .none .none .none).2 _
          · cases h1
        · rw [o.sc]; exact ndef_free h4 y hy e
      refine ⟨[], ⟨X.env.qual ++ "<lambda>", ps, body, sc, (S.lfr[k]?).getD []⟩, pos, rfl, rfl, ?_, hL, ⟨by rw [o.N]; exact h3, fun y hy e => ?_, ndef_fr h4, fun y hy => o.fn y (List.all_eq_true.mp h6 y hy), o.nd⟩, dam_nil (pe_lamE hL) rfl⟩
      · rw [o.lk]
        exact ⟨n, h1, h2⟩
      · have := List.all_eq_true.mp h5 y hy
        simp only [Bool.or_eq_true, Bool.not_eq_true', decide_eq_false_iff_not, decide_eq_true_eq] at this
        exact this.resolve_left (fun z => z e)
    · cases h
  · split at h
    · simp only [Bool.and_eq_true, decide_eq_true_eq, Bool.not_eq_true'] at h
      obtain ⟨⟨h1, h2⟩, h3⟩ := h
      obtain ⟨pre, LL, pos, e, hp, ok, L, Cp, dam⟩ := ih κ X _ o h3 hm
      exact ⟨_ :: pre, LL, pos, by rw [e]; rfl, by simp [h1, hp], ok, L, Cp, dam_cons h1 (ih κ X _ o h2) dam⟩
    · cases h
  · cases h
theorem tupG (ih : IH C S m G n) (o : Cok C S m κ X) (hcm : κ.calm = true) {ct : CT} {t : Expr} (h : (match t with
        | .Tuple es _ _ => ctList ct && decide (ctLen ct = es.length) && es.all notStar && ck S n κ (.GS ct es)
        | _ => false) = true) : DG C X ct t := by
  split at h
  · simp only [Bool.and_eq_true, decide_eq_true_eq, Bool.not_eq_true'] at h
    obtain ⟨⟨⟨h1, h2⟩, h3⟩, h4⟩ := h
    exact dg_tup o.K (o.calm hcm) h1 h2 h3 (ih κ X _ o h4)
  · cases h
theorem ck_G (ih : IH C S m G n) (o : Cok C S m κ X) {ct : CT} {t : Expr} (hc : κ.calm = true ∨ hotJ (.G ct t) = true) (h : ckB S (ck S n) κ (.G ct t) = true) : DG C X ct t := by
  cases ct
  case nm i =>
    simp only [ckB] at h
    split at h
    · simp only [Bool.and_eq_true, decide_eq_true_eq, Bool.not_eq_true'] at h
      exact dg_nm o.nd (by rw [o.N]; exact h.1) (o.loc h.2).1 (o.loc h.2).2
    · cases h
  case sub i j =>
    simp only [ckB] at h
    split at h
    · simp only [Bool.and_eq_true, decide_eq_true_eq, Bool.not_eq_true'] at h
      obtain ⟨⟨⟨h1, h2⟩, h3⟩, h4⟩ := h
      subst h4
      exact dg_sub (by rw [o.N]; exact h1) (o.vis h2) (noD1 h3).1 (noD1 h3).2
    · cases h
  case nil => simp only [ckB] at h; exact tupG ih o (by simpa [hotJ] using hc) h
  case cons a r => simp only [ckB] at h; exact tupG ih o (by simpa [hotJ] using hc) h
theorem ck_GS (ih : IH C S m G n) (o : Cok C S m κ X) {ct : CT} {ts : List Expr} (hc : κ.calm = true ∨ hotJ (.GS ct ts) = true) (h : ckB S (ck S n) κ (.GS ct ts) = true) : DGs C X ct ts := by
  simp only [ckB] at h
  split at h
  · exact dgs_nil
  · simp only [Bool.and_eq_true, decide_eq_true_eq, Bool.not_eq_true'] at h
    obtain ⟨⟨h1, h2⟩, h3⟩ := h
    exact dgs_cons h1 (ih κ X _ o h2) (ih κ X _ o h3)
  · cases h
theorem ck_O (ih : IH C S m G n) (o : Cok C S m κ X) {fl : List Bool} {c : CE} {es : List Expr} (hc : κ.calm = true ∨ hotJ (.O fl c es) = true) (h : ckB S (ck S n) κ (.O fl c es) = true) : DO2 C G X fl c es := by
  simp only [ckB] at h
  split at h
  · exact do2_nil
  · simp only [Bool.and_eq_true, decide_eq_true_eq, Bool.not_eq_true'] at h
    obtain ⟨⟨h1, h2⟩, h3⟩ := h
    exact do2_val h1 (ih κ X _ o h2) (ih κ X _ o h3)
  · simp only [Bool.and_eq_true, decide_eq_true_eq, Bool.not_eq_true'] at h
    exact do2_own (ih κ X _ o h.1).1 (ih κ X _ o h.2)
  · cases h
end
end DV
end

section
set_option linter.all false
set_option maxRecDepth 100000
set_option maxHeartbeats 8000000
/-! DV24: the look tells true: statements; all. -/
namespace DV
open PySem PySem.Spec PyProof.Rows L2 LamX NdefX
theorem blockKind_fn {env : PySem.Env} (hk : env.scope.kind = .function) : env.blockKind = .function := by
  unfold Env.blockKind
  rw [hk]; rfl
theorem sw_lc {elt : Expr} {gs : List Comprehension} {scope : Scope} {pos px : Pos} {x : Str} {l : Nat} {env : PySem.Env} (hk : env.scope.kind = .function) :
    swapsWith (.ListComp elt gs scope pos) (some (.Name x px)) l env = pure (decide (env.scope.names.lookup x = some .local) && (px.line == pos.line) && !(scope.names.any fun (n, k) => n == x && (k == .local || k == .cell))) := by
  have e : swapsWith (.ListComp elt gs scope pos) (some (.Name x px)) l env = pure (env.blockKind == .function && env.kindOf x == some .local && px.line == pos.line && !(scope.names.any fun (n, k) => n == x && (k == .local || k == .cell))) := rfl
  rw [e, blockKind_fn hk]
  have e2 : (env.kindOf x == some NameKind.local) = decide (env.scope.names.lookup x = some .local) := by
    show (env.scope.names.lookup x == some NameKind.local) = _
    rw [Bool.eq_iff_iff]; simp
  rw [e2]; rfl
theorem filterMap_lt {α β : Type} (f : α → Option β) : ∀ l : List α, (l.filterMap f).length ≤ l.length ∧ ((∃ x ∈ l, f x = none) → (l.filterMap f).length < l.length)
  | [] => ⟨Nat.le_refl _, fun ⟨_, h, _⟩ => by cases h⟩
  | a :: l => by
    obtain ⟨h1, h2⟩ := filterMap_lt f l
    rw [List.filterMap_cons]
    cases q : f a with
    | none => exact ⟨by simp only [List.length_cons]; omega, fun _ => by simp only [List.length_cons]; omega⟩
    | some b =>
      refine ⟨by simp only [List.length_cons]; omega, fun ⟨x, hx, e⟩ => ?_⟩
      rcases List.mem_cons.mp hx with z | z
      · rw [z, q] at e; cases e
      · have := h2 ⟨x, z, e⟩
        simp only [List.length_cons]; omega
theorem swp_tup {ts vs : List Expr} {k k2 : Nat} {p p2 : Pos} {env : PySem.Env} (h : ts.any (nlB env.scope) = true ∨ vs.all (foldedForSure 8) = true) : swappedStores [.Tuple ts k p] (.Tuple vs k2 p2) env = pure none := by
  unfold swappedStores
  simp only []
  split
  · rfl
  split
  · rfl
  split
  · rfl
  rename_i hn
  split
  · rfl
  rename_i hf
  exfalso
  rcases h with h | h
  · obtain ⟨t, ht, hb⟩ := List.any_eq_true.mp h
    apply hn
    have key := (filterMap_lt (fun (e : Expr) => match e with
      | .Name id pos => if env.kindOf id == some .local && pos.line == ((ts.head?.map (·.pos.line)).getD 0) then some id else none
      | _ => none) ts).2 ⟨t, ht, by
        cases t <;> first | rfl | skip
        rename_i x px
        have hb' : ¬ env.scope.names.lookup x = some .local := by simpa [nlB] using hb
        have : (env.kindOf x == some NameKind.local) = false := by
          show (env.scope.names.lookup x == some NameKind.local) = false
          simpa using hb'
        simp [this]⟩
    have ne := Nat.ne_of_lt key
    simp only [Bool.or_eq_true, bne_iff_ne]
    exact .inl ne
  · exact hf h
theorem swp_two {x y : Str} {a b : Expr} {px py pt pt2 : Pos} {kt k2 : Nat} {env : PySem.Env} (hk : env.scope.kind = .function) (hx : env.scope.names.lookup x = some .local) (hy : env.scope.names.lookup y = some .local) (hxy : x ≠ y) (hl : (py.line == px.line) = true) (hp : parB [a, b] = true) :
    swappedStores [.Tuple [.Name x px, .Name y py] kt pt] (.Tuple [a, b] k2 pt2) env = pure (some [x, y]) := by
  unfold parB at hp
  simp only [Bool.and_eq_true, Bool.not_eq_true'] at hp
  obtain ⟨⟨h1, h2⟩, h3⟩ := hp
  have hx' : env.kindOf x = some .local := hx
  have hy' : env.kindOf y = some .local := hy
  have hl' : py.line = px.line := by simpa using hl
  simp only [List.all_cons, List.all_nil, Bool.and_true, Bool.and_eq_true] at h1
  unfold swappedStores
  simp only [blockKind_fn hk, List.any_cons, List.any_nil, h2, h3, List.head?_cons, Option.map_some, Option.getD_some, List.filterMap_cons, List.filterMap_nil, hx', hy', hl']
  rw [if_neg (by simp)]
  rw [if_neg (by
    intro h
    simp only [Bool.or_eq_true, Bool.or_false] at h
    rcases h with h | h
    · cases a <;> first | (cases h; done) | (cases h1.1; done)
    · cases b <;> first | (cases h; done) | (cases h1.2; done))]
  have pe : (Expr.Name x px).pos = px := rfl
  simp [pe, List.eraseDups_cons, hxy, hxy.symm, Ne.symm hxy]
theorem swp_three {x y z : Str} {a b d : Expr} {px py pz pt pt2 : Pos} {kt k2 : Nat} {env : PySem.Env} (hk : env.scope.kind = .function) (hx : env.scope.names.lookup x = some .local) (hy : env.scope.names.lookup y = some .local) (hz : env.scope.names.lookup z = some .local) (hxy : x ≠ y) (hxz : x ≠ z) (hyz : y ≠ z)
    (hl : (py.line == px.line) = true) (hl2 : (pz.line == px.line) = true) (hp : parB [a, b, d] = true) :
    swappedStores [.Tuple [.Name x px, .Name y py, .Name z pz] kt pt] (.Tuple [a, b, d] k2 pt2) env = pure (some [x, y, z]) := by
  unfold parB at hp
  simp only [Bool.and_eq_true, Bool.not_eq_true'] at hp
  obtain ⟨⟨h1, h2⟩, h3⟩ := hp
  have hx' : env.kindOf x = some .local := hx
  have hy' : env.kindOf y = some .local := hy
  have hz' : env.kindOf z = some .local := hz
  have hl' : py.line = px.line := by simpa using hl
  have hl2' : pz.line = px.line := by simpa using hl2
  simp only [List.all_cons, List.all_nil, Bool.and_true, Bool.and_eq_true] at h1
  unfold swappedStores
  simp only [blockKind_fn hk, List.any_cons, List.any_nil, h2, h3, List.head?_cons, Option.map_some, Option.getD_some, List.filterMap_cons, List.filterMap_nil, hx', hy', hz', hl', hl2']
  rw [if_neg (by simp)]
  rw [if_neg (by
    intro h
    simp only [Bool.or_eq_true, Bool.or_false] at h
    rcases h with h | h | h
    · cases a <;> first | (cases h; done) | (cases h1.1; done)
    · cases b <;> first | (cases h; done) | (cases h1.2.1; done)
    · cases d <;> first | (cases h; done) | (cases h1.2.2; done))]
  have pe : (Expr.Name x px).pos = px := rfl
  simp [pe, List.eraseDups_cons, hxy, hxz, hyz, hxy.symm, hxz.symm, hyz.symm, Ne.symm hxy, Ne.symm hxz, Ne.symm hyz]
section
variable {C : PC} {S : SX} {m : Nat} {G : Tell} {n : Nat} {κ : KX} {X : Cx}
theorem nodup_ne {N : List Str} (nd : N.Nodup) {i j : Nat} {x y : Str} (hi : N[i]? = some x) (hj : N[j]? = some y) (h : i ≠ j) : x ≠ y := fun e => by
  subst e
  exact h ((List.getElem?_inj (List.getElem?_eq_some_iff.mp hi).1 nd).mp (hi.trans hj.symm))
theorem Cok.isl (o : Cok C S m κ X) {x : Str} (h : isLoc κ x = true) : X.env.scope.names.lookup x = some .local := by
  rw [o.sc]; simpa [isLoc] using h
theorem ck_S (ih : IH C S m G n) (o : Cok C S m κ X) (hp : PassesOwn (model X.prog X.w) X.A X.env X.xe) {c : CS} {ss : List Stmt} (hc : κ.calm = true ∨ hotJ (.S c ss) = true) (h : ckB S (ck S n) κ (.S c ss) = true) : DS C G X c ss := by
  simp only [ckB] at h
  split at h
  · exact ds_nil
  · exact ds_frz (ih κ X _ o h hp)
  · simp only [Bool.and_eq_true, decide_eq_true_eq, Bool.not_eq_true'] at h
    exact ds_cons (ih κ X _ o h.1 hp) (ih κ X _ o h.2 hp)
  · cases h
theorem asg_ok {n : Nat} (gk : Gok C m G) (ih : IH C S m G n) (ih1 : ∀ n', n = n' + 1 → IH C S m G n') (o : Cok C S m κ X) {i : Nat} {x : Str} {px pos : Pos} {c : CE} {e : Expr} (h1 : κ.N[i]? = some x) (h2 : locB κ x = true) (h3 : (swB κ e x px).isSome = true) (h4 : ck S n κ (.E c e) = true) : DS1 C G X (.asg i c) (.Assign [.Name x px] e pos) := by
  have hN : X.N[i]? = some x := by rw [o.N]; exact h1
  have plain : swapsWith e (some (.Name x px)) pos.line X.env = pure false → DS1 C G X (.asg i c) (.Assign [.Name x px] e pos) := fun hs => ds_asg o.nd hN (o.loc h2).1 (o.loc h2).2 hs (ih κ X _ o h4)
  cases hsw : swB κ e x px with
  | none => rw [hsw] at h3; cases h3
  | some b =>
    by_cases hc : ∃ elt gs scope lp, e = .ListComp elt gs scope lp
    · obtain ⟨elt, gs, scope, lp, rfl⟩ := hc
      have hsw' : swapsWith (.ListComp elt gs scope lp) (some (.Name x px)) pos.line X.env = pure b := by
        rw [sw_lc o.kd, o.sc]
        congr 1
        exact Option.some.inj hsw
      cases b
      · exact plain hsw'
      · have hloc : X.env.scope.names.lookup x = some .local := by
          have e1 : (isLoc κ x && (px.line == lp.line) && !(scope.names.any fun (n, k) => n == x && (k == .local || k == .cell))) = true := Option.some.inj hsw
          simp only [Bool.and_eq_true] at e1
          exact o.isl e1.1.1
        cases n with
        | zero => cases h4
        | succ n =>
          have ih' := ih1 n rfl
          cases c
          case comp tg it c e' own =>
            obtain ⟨hc4, h4⟩ := ck_succ h4
            have hcm : κ.calm = true := by simpa [hotJ, hotE] using hc4
            simp only [ckB] at h4
            split at h4
            · rename_i heq
              cases heq
              simp only [Bool.and_eq_true, decide_eq_true_eq, Bool.not_eq_true'] at h4
              obtain ⟨⟨⟨⟨⟨⟨⟨g1, g2⟩, g3⟩, g4⟩, g5⟩, g6⟩, g7⟩, g8⟩ := h4
              subst g1
              obtain ⟨p1, p2, p3, p4, p5⟩ := comp_parts ih' o hcm g3 g5 g6 g7 g8
              have := ds_asgLc (py := px) (pos := lp) (spos := pos) (o.calm hcm) o.nd hN hloc hsw' p1 p2 p3 p4 p5 (fun x => folded_of g2 _ x) (by rw [ownP_map]; exact g4)
              rw [ownP_map] at this
              exact this
            · cases h4
          case comp2 tg it c tg2 it2 c2 e' own own2 =>
            obtain ⟨hc4, h4⟩ := ck_succ h4
            have hcm : κ.calm = true := by simpa [hotJ, hotE] using hc4
            simp only [ckB] at h4
            split at h4
            · rename_i heq
              cases heq
              simp only [Bool.and_eq_true, decide_eq_true_eq, Bool.not_eq_true'] at h4
              obtain ⟨⟨⟨⟨⟨⟨⟨⟨⟨⟨⟨⟨⟨⟨g1, g2⟩, g3⟩, g4⟩, g5⟩, g6⟩, g7⟩, g8⟩, g9⟩, g10⟩, g11⟩, g12⟩, g13⟩, g14⟩, g15⟩ := h4
              subst g1 g2
              obtain ⟨p1, p2, p3, p4, p5⟩ := comp_parts ih' o hcm g5 g9 g10 g11 g15
              have hk := blk_kind g5
              have := ds_asgLc2 (vs1 := own2) (py := px) (pos := lp) (spos := pos) (o.calm hcm) o.nd hN hloc hsw' p1 p2 (fun i hi => by rw [ownP_map]; simpa using List.all_eq_true.mp g8 i hi) p3 p4 (fun s H B cl fp => ih' _ _ _ (o.blk hcm hk s H B cl fp) g12) (fun s H B cl fp => ih' _ _ _ (o.blk hcm hk s H B cl fp) g13)
                (fun s H B cl fp => ih' _ _ _ (o.blk hcm hk s H B cl fp) g14) p5 (fun x => folded_of g3 _ x) (fun env x => folded_of g4 env x) (by rw [ownP_map]; exact g6) g7
              rw [ownP_map] at this
              exact this
            · cases h4
          all_goals simp [ck, ckB, conB] at h4
    · refine plain ?_
      cases e <;> first | rfl | (exact absurd ⟨_, _, _, _, rfl⟩ hc) | (simp [swB] at hsw)
theorem ck_S1 (gk : Gok C m G) (ihA : ∀ C' G', Gok C' m G' → IH C' S m G' n) (ih : IH C S m G n) (ih1 : ∀ n', n = n' + 1 → IH C S m G n') (o : Cok C S m κ X) (hp : PassesOwn (model X.prog X.w) X.A X.env X.xe) {c : CS} {s : Stmt} (hc : κ.calm = true ∨ hotJ (.S1 c s) = true) (h : ckB S (ck S n) κ (.S1 c s) = true) : DS1 C G X c s := by
  cases c
  case pass =>
    simp only [ckB] at h
    split at h
    · exact ds_pass
    · cases h
  case brk =>
    simp only [ckB] at h
    split at h
    · exact ds_brk
    · cases h
  case cnt =>
    simp only [ckB] at h
    split at h
    · exact ds_cnt
    · cases h
  case never => exact ds_never
  case expr c =>
    simp only [ckB] at h
    split at h
    · simp only [Bool.and_eq_true, decide_eq_true_eq, Bool.not_eq_true'] at h
      exact ds_expr h.1 (ih κ X _ o h.2)
    · cases h
  case asg i c =>
    simp only [ckB] at h
    split at h
    · simp only [Bool.and_eq_true, decide_eq_true_eq, Bool.not_eq_true'] at h
      obtain ⟨⟨⟨h1, h2⟩, h3⟩, h4⟩ := h
      exact asg_ok gk ih ih1 o h1 h2 h3 h4
    · cases h
  case par is fl c =>
    have hcm : κ.calm = true := by simpa [hotJ] using hc
    simp only [ckB] at h
    split at h
    · split at h
      · simp only [Bool.and_eq_true, decide_eq_true_eq, Bool.not_eq_true'] at h
        obtain ⟨⟨h1, h2⟩, h3⟩ := h
        exact ds_own o.nd (by rw [o.N]; exact h1) (o.loc h2).1 (o.loc h2).2 (ih κ X _ o h3).1
      · cases h
    · split at h
      · simp only [Bool.and_eq_true, decide_eq_true_eq, Bool.not_eq_true'] at h
        obtain ⟨⟨⟨⟨⟨⟨⟨h1, h2⟩, h3⟩, h4⟩, h5⟩, h6⟩, h7⟩, h8⟩ := h
        rw [← o.N] at h1 h2
        exact ds_par2 (o.calm hcm) o.nd h1 h2 h5 (o.isl h3) (o.isl h4) (swp_two o.kd (o.isl h3) (o.isl h4) (nodup_ne o.nd h1 h2 h5) h6 h7) (ih κ X _ o h8)
      · cases h
    · split at h
      · simp only [Bool.and_eq_true, decide_eq_true_eq, Bool.not_eq_true'] at h
        obtain ⟨⟨⟨⟨⟨⟨⟨⟨⟨⟨⟨⟨h1, h2⟩, h2'⟩, h3⟩, h4⟩, h4'⟩, h5⟩, h5'⟩, h5''⟩, h6⟩, h6'⟩, h7⟩, h8⟩ := h
        rw [← o.N] at h1 h2 h2'
        exact ds_par3 (o.calm hcm) o.nd h1 h2 h2' h5 h5' h5'' (o.isl h3) (o.isl h4) (o.isl h4') (swp_three o.kd (o.isl h3) (o.isl h4) (o.isl h4') (nodup_ne o.nd h1 h2 h5) (nodup_ne o.nd h1 h2' h5') (nodup_ne o.nd h2 h2' h5'') h6 h6' h7) (ih κ X _ o h8)
      · cases h
    · cases h
  case asgt t c =>
    simp only [ckB] at h
    split at h
    · simp only [Bool.and_eq_true, decide_eq_true_eq, Bool.not_eq_true'] at h
      obtain ⟨⟨⟨h1, h2⟩, h3⟩, h4⟩ := h
      refine ds_asgt ?_ ?_ ?_ (ih κ X _ o h3) (ih κ X _ o h4)
      · rename_i tg _ _; cases tg <;> first | rfl | (cases h1)
      · rename_i tg _ _; cases tg <;> first | rfl | (cases h1)
      · unfold asgtB at h2
        simp only [Bool.or_eq_true] at h2
        rcases h2 with h2 | h2
        · exact swp_none (.inl h2) _
        · split at h2
          · simp only [Bool.or_eq_true] at h2
            exact swp_tup (by rw [o.sc]; exact h2)
          · cases h2
    · cases h
  case sets co ci c =>
    simp only [ckB] at h
    split at h
    · simp only [Bool.and_eq_true, decide_eq_true_eq, Bool.not_eq_true'] at h
      obtain ⟨⟨⟨h1, h2⟩, h3⟩, h4⟩ := h
      exact ds_sets h1 (ih κ X _ o h2) (ih κ X _ o h3) (ih κ X _ o h4)
    · cases h
  case app i c =>
    simp only [ckB] at h
    split at h
    · simp only [Bool.and_eq_true, decide_eq_true_eq, Bool.not_eq_true'] at h
      obtain ⟨⟨⟨⟨⟨⟨h1, h2⟩, h3⟩, h4⟩, h5⟩, h6⟩, h7⟩ := h
      subst h1
      exact ds_app (by rw [o.N]; exact h2) (o.vis h3) (noD1 h4).1 (noD1 h4).2 h5 h6 (ih κ X _ o h7)
    · cases h
  case ite c a b =>
    simp only [ckB] at h
    split at h
    · simp only [Bool.and_eq_true, decide_eq_true_eq, Bool.not_eq_true'] at h
      obtain ⟨⟨h1, h2⟩, h3⟩ := h
      exact ds_ite (ih κ X _ o h1) (ih κ X _ o h2 hp) (ih κ X _ o h3 hp)
    · cases h
  case for_ t it b =>
    have hcm : κ.calm = true := by simpa [hotJ] using hc
    simp only [ckB] at h
    split at h
    · simp only [Bool.and_eq_true, decide_eq_true_eq, Bool.not_eq_true'] at h
      obtain ⟨⟨⟨h1, h2⟩, h3⟩, h4⟩ := h
      exact ds_for hp (o.calm hcm) (ih κ X _ o h2) (ih κ X _ o h3) h1 (ih κ X _ o h4 hp)
    · cases h
  case whl c b =>
    simp only [ckB] at h
    split at h
    · simp only [Bool.and_eq_true, decide_eq_true_eq, Bool.not_eq_true'] at h
      exact ds_whl hp (ih κ X _ o h.1) (ih κ X _ o h.2 hp)
    · cases h
  case ret c =>
    simp only [ckB] at h
    split at h
    · exact ds_ret (ih κ X _ o h)
    · cases h
  case ret0 =>
    simp only [ckB] at h
    split at h
    · exact ds_ret0
    · cases h
  case rse c as =>
    have hcm : κ.calm = true := by simpa [hotJ] using hc
    simp only [ckB] at h
    split at h
    · split at h
      · rename_i ec hec
        simp only [Bool.and_eq_true, decide_eq_true_eq, Bool.not_eq_true'] at h
        obtain ⟨⟨⟨⟨h1, h2⟩, h3⟩, h4⟩, h5⟩ := h
        subst h1
        have hec' : C.P.ecs[c]? = some ec := by rw [← o.SP]; exact hec
        split at h5
        · rename_i f y as' hf
          simp only [Bool.and_eq_true, decide_eq_true_eq, Bool.not_eq_true'] at h5
          exact ds_rse1 o.ec gk.fld (o.calm hcm) (o.room hcm) hec' hf h2 (o.gl_ h3) (noD1 h4).1 h5.1 (ih κ X _ o h5.2).1
        · rename_i hf
          exact ds_rse0 o.ec gk.fld (o.calm hcm) hec' hf h2 (o.gl_ h3) (noD1 h4).1
        · cases h5
      · cases h
    · cases h
  case try_ b c i s' =>
    have hcm : κ.calm = true := by simpa [hotJ] using hc
    simp only [ckB] at h
    split at h
    · simp only [Bool.and_eq_true, decide_eq_true_eq, Bool.not_eq_true'] at h
      obtain ⟨⟨⟨⟨⟨⟨⟨h1, h2⟩, h3⟩, h4⟩, h5⟩, h6⟩, h7⟩, h8⟩ := h
      split at h2
      · rename_i ec hec
        simp only [Bool.and_eq_true, decide_eq_true_eq, Bool.not_eq_true'] at h2
        subst h2
        have hec' : C.P.ecs[c]? = some ec := by rw [← o.SP]; exact hec
        obtain ⟨s1, s2⟩ := o.stk h1 hcm
        refine ds_try o.ec gk.sub (o.cx hcm) s1 s2 o.nd (by rw [o.N]; exact h5) (o.isl h6) hec' (o.gl_ h3) (noD1 h4).1 (fun pn xe hp' => ih κ (X.tr pn xe) (.S b _) (o.tr pn xe hcm) h7 hp') (fun e oe pn hz hfs => ?_)
        exact ihA (C.ex (some e)) { G with ex := some (e.c, e.ds) } (gk.suite e) (hotK κ) (X.suite e.a ((e.a, oe) :: pn)) (.S s' _) (o.suite hcm e oe pn hz hfs) h8 PassesOwn.never
      · cases h2
    · cases h
  all_goals simp [ckB] at h
/-- THE LOOK TELLS TRUE -/
theorem ck_all : ∀ n, ∀ (C : PC) (G : Tell), Gok C m G → IH C S m G n ∧ ∀ n', n = n' + 1 → IH C S m G n'
  | 0 => fun C G gk => ⟨fun κ X j o h => (by cases h), fun _ e => (by cases e)⟩
  | n + 1 => fun C G gk => by
    obtain ⟨ih, ih1⟩ := ck_all n C G gk
    refine ⟨fun κ X j o h => ?_, fun n' e => by cases e; exact ih⟩
    obtain ⟨hc, h⟩ := ck_succ h
    cases j with
    | E c e => exact ck_E gk ih o hc h
    | A c es => exact ck_A ih o hc h
    | BA op c es => exact fun pos => ck_BA ih o hc h pos
    | T c e => exact ck_T ih o hc h
    | TA op c es => exact fun pos => ck_TA ih o hc h pos
    | I c t e => exact ck_I ih o hc h
    | C c ifs => exact ck_C ih o hc h
    | P c e => exact ck_P ih o hc h
    | K c kws => exact ck_K ih o hc h
    | M c es k caps => exact fun hm => ck_M ih o hc h hm
    | G ct t => exact ck_G ih o hc h
    | GS ct ts => exact ck_GS ih o hc h
    | O fl c es => exact ck_O ih o hc h
    | S c ss => exact fun hp => ck_S ih o hp hc h
    | S1 c s => exact fun hp => ck_S1 gk (fun C' G' g' => (ck_all n C' G' g').1) ih ih1 o hp hc h
theorem ck_ok (gk : Gok C m G) {n : Nat} {κ : KX} {X : Cx} {j : Job} (o : Cok C S m κ X) (h : ck S n κ j = true) : Holds C G κ X j := (ck_all n C G gk).1 κ X j o h
end
end DV
end

section
set_option linter.all false
set_option maxRecDepth 100000
set_option maxHeartbeats 4000000
/-! DV25: all defs keep their promises. -/
namespace DV
open PySem PySem.Spec PyProof.Rows L2 LamX NdefX
/-- one def of the text, as it lies -/
structure DefAt (C : PC) (S : SX) (K : PySem.W.Frag) (mg : Str → Option Value) (base : Heap) (g : Nat) (d : CDef) : Prop where
  ex : ∃ (name qual : Str) (params : Arguments) (body : List Stmt) (scope : Scope) (kV doc pm cdv ct oc : Value) (an od : Option Addr) (osl : Array (Option Value)) (N : List Str) (mk : Bool) (fl : Nat),
    K.lookup (C.fa g) = some ⟨oc, od, .func (PySem.W.fnOf name qual params body scope .none kV doc pm an cdv ct), osl⟩ ∧ PySem.W.codeIn K cdv qual = true ∧ FnScope N (C.sg (sigOf C.P g)) scope ∧ plainB params (C.sg (sigOf C.P g)) = true ∧
    d.np = (C.sg (sigOf C.P g)).length ∧ d.n = N.length ∧ ck S fl ⟨N, scope, true, [], mk, true⟩ (.S d.body body) = true ∧
    (mk = true → ∃ c P, cdv = .ref c ∧ TabB base mg c P ∧ (P, (envOfC qual scope 0 0 cdv).qual ++ "<lambda>") ∈ C.T ∧ ∀ p ∈ C.T, p.1 = P → p.2 = (envOfC qual scope 0 0 cdv).qual ++ "<lambda>")
  keep : PySem.W.keepIn K (.ref (C.fa g)) = true
structure Facts (C : PC) (S : SX) (P : Program) (w : World) (K : PySem.W.Frag) (mg : Str → Option Value) (base : Heap) : Prop where
  KC : K = C.K
  PC : P = C.prog
  WC : w = C.w
  SP : S.P = C.P
  sg : ∀ t, C.sg t = sgOf S t
  fnm : ∀ (g : Nat) x, S.fnm[g]? = some x → mg x = some (.ref (C.fa g)) ∧ ∃ d, C.P.defs[g]? = some d
  gl : ∀ (j : Nat) x, S.gnm[j]? = some x → ∃ d v u, C.P.glos[j]? = some d ∧ mg x = some u ∧ RelV v u ∧ ∀ W, RepW C W v d
  bn : ∀ x ∈ S.bn, mg x = none
  gcd : S.gcd = true → mg "gcd" = some (.builtin "math.gcd")
  lk : C.lamOk = lamGood S
  ec : EcsOk C P K mg
  cx : C.exn = none
  defs : ∀ (g : Nat) d, C.P.defs[g]? = some d → DefAt C S K mg base g d
section
variable {C : PC} {S : SX} {P : Program} {w : World} {K : PySem.W.Frag} {mg : Str → Option Value} {base : Heap}
theorem gok_tell (hx : C.exn = none) (n : Nat) : Gok C n (tell C.P n) := ⟨rfl, rfl, rfl, rfl, rfl, rfl, fun e h => by rw [hx] at h; cases h⟩
theorem postS_out {W0 : GW} {H0 : Hp} {r : RS} {Q : VK} {E : XK} (p : Post C (RepW C) (outS r) W0 H0 Q E) : PostS C W0 H0 (fun cls dd _ H => E cls dd H) W0 r { nx := fun _ H' => Q .non H', rt := Q } := by
  cases r with
  | nx ρ st => exact fun σ' H' W' a _ => p _ H' W' a.1 a.2.1 .non
  | ret d st => exact fun v H' W' g m r => p v H' W' g m r
  | brk ρ st => exact p.elim
  | cnt ρ st => exact p.elim
  | exc c ds ρ st => exact fun cls dd σ' H' W' a _ e => p cls dd H' W' a.1 a.2.1 e
  | bad => exact p.elim
theorem plain_fn {name qual : Str} {params : Arguments} {body : List Stmt} {scope : Scope} {kV doc pm cdv ct : Value} {an : Option Addr} {ps : List Str} (h : plainB params ps = true) : PlainPs (PySem.W.fnOf name qual params body scope .none kV doc pm an cdv ct) ps := by
  obtain ⟨po, ar, va, ko, kd, kw, df⟩ := params
  simp only [plainB, Bool.and_eq_true, decide_eq_true_eq, List.isEmpty_iff, Option.isNone_iff_eq_none] at h
  obtain ⟨⟨⟨⟨⟨⟨h1, h2⟩, h3⟩, h4⟩, h5⟩, h6⟩, h7⟩ := h
  subst h1 h2 h3 h4 h5 h6
  exact ⟨rfl, h7, rfl, rfl, rfl, rfl⟩
theorem fnScope_nd {N ps : List Str} {sc : Scope} (S : FnScope N ps sc) : ps.Nodup := by
  rw [← S.pre]; exact S.nd.sublist (List.take_sublist _ _)
/-- a def's promise at level n, by those at the level below -/
theorem def_ok (f : Facts C S P w K mg base) {g : Nat} {d : CDef} (hd : C.P.defs[g]? = some d) {n : Nat} (lower : ∀ m, n = m + 1 → AllF C P w K mg base m) : DF C P w K mg base n g (C.sg (sigOf C.P g)) := by
  obtain ⟨⟨name, qual, params, body, scope, kV, doc, pm, cdv, ct, oc, an, od, osl, N, mk, fl, lk, hcd, FS, hpl, hnp, hn, hck, hmk⟩, keep⟩ := f.defs g d hd
  have len : ∀ vs H Q E, spF C n g vs H Q E → vs.length = (C.sg (sigOf C.P g)).length := fun vs H Q E ⟨W, ds, st, m, r, ⟨d', e1, e2⟩, p⟩ => by
    rw [hd] at e1; cases e1
    rw [r.length, e2, hnp]
  refine ⟨⟨PySem.W.fnOf name qual params body scope .none kV doc pm an cdv ct, ?_, plain_fn hpl, _, _, _, lk⟩, fnScope_nd FS, keep, rfl⟩
  cases n with
  | zero =>
    refine ⟨len, fun A outer s H args us vs Q E _ _ _ _ _ ⟨W, ds, st, m, r, _, p⟩ => ?_⟩
    simp only [callF] at p
    exact p.elim
  | succ n =>
    have AF := lower n rfl
    refine fnG_of lk hcd FS len fun A outer s H vs Q E hgd hr ⟨W, ds, st, m, r, ⟨d', e1, e2⟩, p⟩ => ?_
    rw [callF, hd] at p
    rw [hd] at e1; cases e1
    simp only [if_pos e2] at p
    have o : Cok C S n ⟨N, scope, true, [], mk, true⟩ (cxOf (L2.CX P w) P w K mg base N qual scope (C.fa g) cdv A outer s H E) := {
      K := f.KC, pg := f.PC, ww := f.WC, N := rfl, nd := FS.nd, sc := rfl, kd := FS.kind, fn := fun _ _ => rfl, calm := fun _ => rfl, cx := fun _ => f.cx, hot := fun h => (by cases h), stk := fun h _ => ⟨rfl, rfl⟩, ec := f.ec, un := Nat.lt_of_le_of_lt (Nat.add_le_add_right (Nat.le_add_right _ _) 200) hr.un, gd := hgd, room := fun _ => hr, A := fun _ => AF, SP := f.SP, sg := f.sg, fnm := f.fnm, gl := f.gl, bn := f.bn, gcd := f.gcd, lk := f.lk
      mkl := fun h => hmk h |>.elim fun c h => h.elim fun Pt ⟨h1, h2, h3, h4⟩ => ⟨c, Pt, h2, h1, h3, h4⟩ }
    have hS := ck_ok (gok_tell f.cx n) o hck (passes_of rfl)
    refine ⟨_, hS _ (takes_of rfl rfl rfl rfl), W, H, W, DV.start d.n ds, st, ⟨Grow.refl W H, m, ?_⟩, ?_⟩
    · rw [hn]; exact start_sls r
    · exact postS_out p
theorem lam_ok (f : Facts C S P w K mg base) {k m : Nat} {d : CLam} (hd : C.P.lams[k]? = some d) (AF : AllF C P w K mg base m) : ∃ N ps, ∀ L, C.lamOk k L → CLo C P w K mg base m k L N ps d := by
  refine ⟨(S.lN[k]?).getD [], (S.lps[k]?).getD [], fun L hL => ?_⟩
  rw [f.lk] at hL
  obtain ⟨fl, h1, h2⟩ := hL
  unfold lamB at h1
  split at h1
  · rename_i d' N ps fr e1 e2 e3 e4
    rw [f.SP, hd] at e1; cases e1
    simp only [Bool.and_eq_true, decide_eq_true_eq, Bool.not_eq_true'] at h1
    obtain ⟨⟨⟨⟨⟨g1, g2⟩, g3⟩, g4⟩, g5⟩, g6⟩ := h1
    rw [e2, e3]
    have hb : lamBody S k = d.body := by unfold lamBody; rw [f.SP, hd]
    rw [hb] at h2
    refine ⟨hd, g1, by rw [g4]; exact g2, g3, by rw [g4]; exact nscope_by g5, fun cl pm cdv ctv => (plain_ps g6 cl pm cdv ctv).1, fun A outer s H E fa c' cl hgd hr => ?_⟩
    have e5 : lamK S k L.scope = ⟨N, L.scope, false, [], false, true⟩ := by unfold lamK; rw [e2]; rfl
    rw [e5] at h2
    have o : Cok C S m ⟨N, L.scope, false, [], false, true⟩ (ncx (L2.CX P w) P w K mg base N (nfOf L cl c') fa A outer s H E) := {
      K := f.KC, pg := f.PC, ww := f.WC, N := rfl, nd := (nscope_by g5).nd, sc := rfl, kd := (nscope_by g5).kind, fn := fun x h => by simp [fnB] at h, calm := fun _ => rfl, cx := fun _ => f.cx, hot := fun h => (by cases h), stk := fun h _ => (by cases h), ec := f.ec, un := Nat.lt_of_le_of_lt (Nat.add_le_add_right (Nat.le_add_right _ _) 200) hr.un, gd := hgd, room := fun _ => hr, A := fun _ => AF, SP := f.SP, sg := f.sg, fnm := f.fnm, gl := f.gl, bn := f.bn, gcd := f.gcd, lk := f.lk
      mkl := fun h => by cases h }
    exact ck_ok (gok_tell f.cx m) o h2
  · cases h1
/-- ALL KEEP THEIR PROMISES -/
theorem all_ok (f : Facts C S P w K mg base) : ∀ n, AllF C P w K mg base n ∧ ∀ m, n = m + 1 → AllF C P w K mg base m
  | 0 => ⟨⟨fun g d hd => ⟨_, def_ok f hd fun _ e => nomatch e⟩, fun _ _ _ e => nomatch e⟩, fun _ e => nomatch e⟩
  | n + 1 => by
    obtain ⟨a, b⟩ := all_ok f n
    have lower : ∀ m, n + 1 = m + 1 → AllF C P w K mg base m := fun m e => by cases e; exact a
    exact ⟨⟨fun g d hd => ⟨_, def_ok f hd lower⟩, fun m k d e hd => lam_ok f hd (lower m e)⟩, lower⟩
end
end DV
end

section
set_option linter.all false
set_option maxRecDepth 100000
set_option maxHeartbeats 2000000
/-! DV26: the law's end (as HandS.EndTab and HandS.HeadWalk tell it of FnOk, here of FnG). -/
namespace DV
open PySem PySem.Spec PyProof.Rows L2 LamX
theorem law_callG {P : Program} {w : World} {K : PySem.W.Frag} {mg mb : Str → Option Value} {k : Nat} {fa a : Addr} {cs : List (Addr × Addr)} {fd : FuncData} {x : Str} {sp : Sp} {s₁ : Shared} {vs : List Value} {ns : List Int}
    (KX : K.In s₁.heap) (hns : s₁.heap.Ns mainGlobals mg) (hb : s₁.heap.Ns builtinsNs mb) (hbb : ∀ x : Str, x ≠ "__name__" → mb x = bootBuiltins x) (hlim : s₁.heap.NoLimit) (hg : s₁.gens = #[])
    (hT : ∀ p ∈ cs, s₁.heap.get? p.2 = some { cls := .none, data := .fields #[] }) (nT : ∀ p ∈ cs, K.lookup p.2 = none) (C : ∀ p ∈ cs, PySem.W.CodeHd s₁.heap p.1 p.2)
    (hbm : ∃ (bm : Addr) (ob : Obj), mg "__builtins__" = some (.ref bm) ∧ bm ≠ builtinsNs ∧ s₁.heap.get? bm = some ob ∧ ob.cls = .type "module" ∧ ob.dict = some builtinsNs ∧ ob.data = .plain)
    (ha : s₁.heap.get? a = some { cls := .type "list", data := .seq vs.toArray }) (hi : IntsAre vs ns) (hl : ns.length ≤ sizeLine) (hr : Room k callerA)
    (F : ∀ base : Heap, K.In base → base.Ns mainGlobals mg → (∀ p ∈ cs, TabB base mg p.1 p.2) → FnG P w K mg base k fa fd [x] sp) (hbind : ∀ (s : Shared) (u : Value), BindsTo s fd ⟨[u], []⟩ [(x, u)])
    (hsp : ∀ H : Hp, (∀ p ∈ cs, H p.2 = some (.tbl #[])) → SqL K H a (ns.map V.int) → sp [.ref a] H (fun v _ => v = .bl true) fun _ _ _ => False)
    (hCX : ∀ H e s', L2.CX P w [] H s₁ (fun _ _ _ => False) e s' → False) :
    codeAny (model P w) callerA (.call (.ref fa) ⟨[.ref a], []⟩) (fun r s' => r = .ok (.ret (.bool true)) ∧ OldK s₁.heap s'.heap ∧ s'.os = s₁.os ∧ AllBare s'.gens) s₁ := by
  have rv := vals_ints hi
  have lenV := hi.length
  have isT : ∀ b : Addr, b ∈ cs.map (·.2) → s₁.heap.get? b = some { cls := .none, data := .fields #[] } := fun b hb => by
    obtain ⟨p, hp, e⟩ := List.mem_map.mp hb
    rw [← e]
    exact hT p hp
  have aT : a ∉ cs.map (·.2) := fun z => by
    have q := isT a z
    rw [ha] at q
    have z' : Data.seq vs.toArray _ = Data.fields #[] := congrArg Obj.data (Option.some.inj q)
    cases z'
  have memT : ∀ p ∈ cs, p.2 ∈ cs.map (·.2) := fun p hp => List.mem_map.mpr ⟨p, hp, rfl⟩
  -- from an abstract heap in which nothing but the script and the tables may be tracked
  have core : ∀ H : Hp, (∀ p ∈ cs, H p.2 = some (.tbl #[])) → (∀ b, H b = none ∨ b ∈ cs.map (·.2) ∨ ∃ o xs, H b = some (.frz o (.lst xs))) → SqL K H a (ns.map V.int) → HOk P w H s₁.heap → (∀ b, H b ≠ none → b = a ∨ b ∈ cs.map (·.2)) → (H a ≠ none → K.lookup a = none) →
      codeAny (model P w) callerA (.call (.ref fa) ⟨[.ref a], []⟩) (fun r s' => r = .ok (.ret (.bool true)) ∧ OldK s₁.heap s'.heap ∧ s'.os = s₁.os ∧ AllBare s'.gens) s₁ := by
    intro H hH hO hS hok hA hK
    have base_of : ∀ {b : Addr} {o : Obj}, s₁.heap.get? b = some o → H b = none → (hidT s₁.heap H).get? b = some o := fun e n => hidT_get e n
    have noD : ∀ {b : Addr} {o : Obj}, s₁.heap.get? b = some o → (∀ vs n, o.data ≠ .seq vs n) → o.data ≠ .fields #[] → H b = none := fun {b o} e h1 h2 => by
      cases q : H b with
      | none => rfl
      | some u =>
        rcases hA b (by rw [q]; simp) with e' | e'
        · rw [e', ha] at e
          cases e
          exact (h1 _ _ rfl).elim
        · rw [isT b e'] at e
          cases e
          exact (h2 rfl).elim
    have noA : ∀ {b : Addr} {o : Obj} {es : Array DictEntry} {ep : Nat}, s₁.heap.get? b = some o → o.data = .dict es ep → H b = none := fun {b o es ep} e d => by
      refine noD e (fun vs n z => ?_) fun z => ?_
      · rw [d] at z
        cases z
      · rw [d] at z
        cases z
    have nsK : ∀ {b : Addr} {m : Str → Option Value}, s₁.heap.Ns b m → (hidT s₁.heap H).Ns b m := fun {b m} ⟨o, es, ep, e, d, r⟩ => ⟨o, es, ep, base_of e (noA e d), d, r⟩
    have hKb : K.In (hidT s₁.heap H) := fun b o e => base_of (KX b o e) (by
      cases q : H b with
      | none => rfl
      | some u =>
        rcases hA b (by rw [q]; simp) with e' | e'
        · rw [e'] at e q
          rw [hK (by rw [q]; simp)] at e
          cases e
        · obtain ⟨p, hp, ep⟩ := List.mem_map.mp e'
          rw [← ep, nT p hp] at e
          cases e)
    have hM : L2.Mod K mg (hidT s₁.heap H) := ⟨hKb, nsK hns, ⟨mb, nsK hb, hbb⟩, let ⟨mc, h1, h2⟩ := hlim; ⟨mc, nsK h1, h2⟩⟩
    have TB : ∀ p ∈ cs, TabB (hidT s₁.heap H) mg p.1 p.2 := fun p hp => by
      have hTp := hT p hp
      refine ⟨?_, ?_, fun z => ?_⟩
      · obtain ⟨o, us, file, tf, flags, tg, inF, text, tt, e1, r1, r2, r3, r4, r5, r6, r7, r8, hne⟩ := C p hp
        refine ⟨o, us, file, tf, flags, tg, inF, text, tt, base_of e1 (noD e1 (fun vs n z => ?_) fun z => ?_), r1, r2, r3, r4, r5, r6, r7, r8, hne⟩
        · rw [r2] at z
          cases z
        · rw [r2] at z
          cases z
          simp at r3
      · obtain ⟨bm, ob, b1, b2, b3, b4, b5, b6⟩ := hbm
        have nG : bm ≠ mainGlobals := fun q => by
          obtain ⟨o, es, ep, e, hd, _⟩ := hns
          rw [q, e] at b3
          cases b3
          rw [hd] at b6
          cases b6
        have nP : bm ≠ p.2 := fun q => by
          rw [q, hTp] at b3
          cases b3
          cases b6
        refine ⟨bm, ob, b1, b2, nG, nP, base_of b3 (noD b3 (fun vs n z => ?_) fun z => ?_), b4, b5, b6⟩
        · rw [b6] at z
          cases z
        · rw [b6] at z
          cases z
      · obtain ⟨o, es, ep, e, hd, _⟩ := hns
        rw [z, hTp] at e
        cases e
        cases hd
    have e0 : Env0 P w K mg (hidT s₁.heap H) callerA [] s₁ H := ⟨rfl, hM, fun b o e => of_hidT e, Nat.le_of_eq (hidT_size _ _), trivial, fun b hb => absurd (show b ∈ ([] : List Addr) from hb) (by simp), hok, .of_eq hg⟩
    refine codeAny_mono ((F _ hKb (nsK hns) TB).run callerA [] s₁ H ⟨[.ref a], []⟩ [.ref a] [.ref a] _ _ rfl hr e0 (hbind s₁ (.ref a)) (.cons rfl .nil) (hsp H hH hS)) fun r s' h => ?_
    cases r with
    | error e => exact (hCX H e s' h).elim
    | ok fl =>
      cases fl with
      | next => exact False.elim h
      | brk => exact False.elim h
      | cont => exact False.elim h
      | ret u =>
        obtain ⟨v, H', os, bare, un, hok', r', q⟩ := h
        have q' : v = .bl true := q
        subst q'
        obtain rfl : u = Value.bool true := r'
        have key : ∀ b o, b ∉ cs.map (·.2) → s₁.heap.get? b = some o → s'.heap.get? b = some o := fun b o nb e => by
          cases q : H b with
          | none => exact un.keep b o e q (by intro z; exact absurd (show b ∈ ([] : List Addr) from z) (by simp)) (by simp)
          | some u =>
            rcases hO b with z | z | ⟨ob, xs, z⟩
            · rw [q] at z; cases z
            · exact absurd z nb
            · have z2 := un.frzs b ob _ z
              obtain ⟨e1, _⟩ := hok b _ z
              obtain ⟨e2, _⟩ := hok' b _ z2
              rw [e] at e1; cases e1
              exact e2
        have grown : ∀ p ∈ cs, ∃ more : Array Value, s'.heap.get? p.2 = some { cls := .none, data := .fields more } := fun p hp => by
          obtain ⟨more, z⟩ := un.tbls p.2 #[] (hH p hp)
          exact ⟨_, hok' p.2 _ z⟩
        refine ⟨rfl, ⟨fun b o e => ?_, fun b o e => ?_⟩, os, bare⟩
        · by_cases hb : b ∈ cs.map (·.2)
          · obtain ⟨p, hp, ep⟩ := List.mem_map.mp hb
            obtain ⟨more, hm⟩ := grown p hp
            rw [← ep] at e ⊢
            rw [hT p hp] at e
            cases e
            exact .inr (.inl ⟨((C p hp).tab (hT p hp)).isCodeTable, rfl, #[], more, rfl, by rw [Array.empty_append]; exact hm⟩)
          · exact .inl (key b o hb e)
        · by_cases hb : b ∈ cs.map (·.2)
          · obtain ⟨p, hp, ep⟩ := List.mem_map.mp hb
            obtain ⟨more, hm⟩ := grown p hp
            rw [← ep]
            exact ⟨_, hm⟩
          · exact ⟨o, key b o hb e⟩
  cases hk : K.lookup a with
  | some o =>
    have e := KX a o hk
    rw [ha] at e
    cases e
    refine core (fun b => if b ∈ cs.map (·.2) then some (.tbl #[]) else none) (fun p hp => if_pos (memT p hp)) (fun b => ?_) (.inr ⟨_, vs.toArray, _, hk, rfl, rfl, rfl, by rw [List.size_toArray, lenV]; exact hl, by simpa using rv⟩) (fun b u z => ?_) (fun b z => ?_) fun z => absurd (show (if a ∈ cs.map (·.2) then some (HO.tbl #[]) else none) = none from if_neg aT) z
    · by_cases hb : b ∈ cs.map (·.2)
      · exact .inr (.inl hb)
      · exact .inl (if_neg hb)
    · by_cases hb : b ∈ cs.map (·.2)
      · have z' := (if_pos hb).symm.trans z
        cases z'
        exact isT b hb
      · have z' := (if_neg hb).symm.trans z
        cases z'
    · by_cases hb : b ∈ cs.map (·.2)
      · exact .inr hb
      · exact absurd (if_neg hb) z
  | none =>
    refine core (fun b => if b = a then some (.frz { cls := .type "list", data := .seq vs.toArray } (.lst (ns.map V.int))) else if b ∈ cs.map (·.2) then some (.tbl #[]) else none) (fun p hp => (if_neg (show ¬ p.2 = a from fun z => aT (by rw [← z]; exact memT p hp))).trans (if_pos (memT p hp))) (fun b => ?_)
      (.inl (.inr ⟨{ cls := .type "list", data := .seq vs.toArray }, if_pos rfl⟩)) (fun b u z => ?_) (fun b z => ?_) fun _ => hk
    · by_cases hb : b = a
      · exact .inr (.inr ⟨_, _, if_pos hb⟩)
      · by_cases hb2 : b ∈ cs.map (·.2)
        · exact .inr (.inl hb2)
        · exact .inl ((if_neg hb).trans (if_neg hb2))
    · by_cases hb : b = a
      · have z' := (if_pos hb).symm.trans z
        cases z'
        rw [hb]
        exact ⟨ha, by rw [List.length_map]; exact hl, vs, _, rv, ha⟩
      · have z1 := (if_neg hb).symm.trans z
        by_cases hb2 : b ∈ cs.map (·.2)
        · have z' := (if_pos hb2).symm.trans z1
          cases z'
          exact isT b hb2
        · have z' := (if_neg hb2).symm.trans z1
          cases z'
    · by_cases hb : b = a
      · exact .inl hb
      · by_cases hb2 : b ∈ cs.map (·.2)
        · exact .inr hb2
        · exact absurd ((if_neg hb).trans (if_neg hb2)) z

/-- what is known of the law's promise at the head's heap h -/
def LawG (l : PySem.W.OpenLaw) (w : World) (K : PySem.W.Frag) (k n : Nat) (x : Str) (mg : Str → Option Value) (fa : Addr) (h : Heap) : Prop :=
  ∃ (fd : FuncData) (cs : List (Addr × Addr)) (sp : Sp), (∀ p ∈ cs, h.get? p.2 = some { cls := .none, data := .fields #[] }) ∧ (∀ p ∈ cs, K.lookup p.2 = none) ∧ (∀ p ∈ cs, PySem.W.CodeHd h p.1 p.2) ∧ (∀ (s : Shared) (u : Value), BindsTo s fd ⟨[u], []⟩ [(x, u)]) ∧
    (∀ (H : Hp) (a : Addr) (ns : List Int), ns.length ≤ n → (∀ z ∈ ns, Builtin.Int.intBits z ≤ 1048576) → (∀ p ∈ cs, H p.2 = some (.tbl #[])) → SqL K H a (ns.map V.int) → sp [.ref a] H (fun v _ => v = .bl true) fun _ _ _ => False) ∧
    ∀ base : Heap, K.In base → base.Ns mainGlobals mg → (∀ p ∈ cs, TabB base mg p.1 p.2) → FnG l.prog w K mg base k fa fd [x] sp
theorem cx_none {P : Program} {w : World} {H : Hp} {s : Shared} {e : Value} {s' : Shared} (h : L2.CX P w [] H s (fun _ _ _ => False) e s') : False := by
  obtain ⟨_, _, _, _, _, _, _, _, _, _, _, _, z⟩ := h
  exact z
theorem walk_G {l : PySem.W.OpenLaw} {n k : Nat} {q : Program} {loose : List Str} {XP : (Str → Option Value) → Heap → Prop} {YP : World → Heap → Prop} {d : DefRec} {x : Str}
    (hn : l.most = some n) (hn2 : n ≤ sizeLine) (hdf : d.params.defaults = []) (hr : Room k callerA)
    (F : ∀ (w : World) (mg : Str → Option Value) (fa : Addr) (h : Heap), YP w h → h.Ns mainGlobals mg → mg d.name = some (.ref fa) → ∃ K : PySem.W.Frag, K.In h ∧ LawG l w K k n x mg fa h) :
    PySem.W.WalkO q loose XP YP l.row.toRowW d [] (fun f vs => PySem.call f vs) := by
  refine Att.attach_callB hn hdf fun w s₀ s₁ mg mb fa o pm cd doc a vs ns G Y ho hd hcd hmg hobj hints hlen hbits hg => ?_
  obtain ⟨K, KX, fd, cs, sp, hT, nT, C, hb, hsp, hF⟩ := F w mg fa _ Y G.T.g hmg
  exact law_callG KX G.T.g G.T.b G.T.builtins G.T.nolimit hg hT nT C G.T.bmain hobj hints (Nat.le_trans hlen hn2) hr hF hb (fun H hH hS => hsp H a ns hlen hbits hH hS) fun H e s' h => cx_none h
end DV
end

section
set_option linter.all false
set_option maxRecDepth 100000
set_option maxHeartbeats 2000000
/-! DVH: the error classes, looked at in the head; the hook. -/
namespace DV
open PySem PySem.Spec PyProof.Rows L2 LamX NdefX
open PySem.W (Frag findIn typeIn subIn keepIn hasDictIn nsIn mroIn exmOne kitOne codeIn)
def ecV (K : Frag) (nm : Str) : Value := match nsIn K mainGlobals nm with
  | some (some v) => v
  | _ => .none
def ecA (K : Frag) (nm : Str) : Addr := match ecV K nm with
  | .ref a => a
  | _ => 0
def ecCa (P : CProg) (K : Frag) (c : Nat) : Value := match P.ecs[c]? with
  | some ec => if ec.own then .ref (ecA K ec.nm) else .type "ValueError"
  | none => .none
def veB : List Value := [.type "ValueError", .type "Exception", .type "BaseException", .type "object"]
def clsB (K : Frag) (C : Addr) : Bool := match K.lookup C with
  | some ⟨.type t, _, .cls cd, sl⟩ => decide (t = "type") && (match cd.mro, sl.toList with
    | .ref C' :: bm, [_, _, _, _, some (.builtin n), _] => decide (C' = C) && decide (n = "ValueError.__new__") && cd.hasDict && !cd.hasDel && HandSPX.refsVE bm
    | _, _ => false)
  | _ => false
theorem clsB_ok {K : Frag} {C : Addr} (h : clsB K C = true) : ∃ nm q N bs bm sn sub ab col dd k0 k1 k2 k3 k5, K.lookup C = some (excClassObj nm q C N bs bm true sn sub ab col dd k0 k1 k2 k3 k5 "ValueError.__new__") ∧ HandSPX.refsVE bm = true := by
  unfold clsB at h
  split at h
  · rename_i t dd cd sl lk
    simp only [Bool.and_eq_true, decide_eq_true_eq] at h
    obtain ⟨rfl, h⟩ := h
    split at h
    · rename_i C' bm k0 k1 k2 k3 n k5 hm hs
      simp only [Bool.and_eq_true, decide_eq_true_eq, Bool.not_eq_true'] at h
      obtain ⟨⟨⟨⟨rfl, rfl⟩, hd⟩, hdel⟩, hv⟩ := h
      obtain ⟨nm, bs, mro, ns, qn, hdd, sn, sub, ab, col, del⟩ := cd
      dsimp only at hm hd hdel
      subst hm hd hdel
      have hsl : sl = #[k0, k1, k2, k3, some (.builtin "ValueError.__new__"), k5] := by
        cases sl; simp only at hs; rw [hs]
      subst hsl
      exact ⟨nm, qn, ns, bs, bm, sn, sub, ab, col, dd, k0, k1, k2, k3, k5, lk, hv⟩
    · cases h
  · cases h
def initB (prog : Program) (K : Frag) (C : Addr) (f : Str) : Bool := match findIn K (.ref C) "__init__" with
  | some (some (.ref fI)) => decide (typeIn K (.ref fI) = some (.type "function")) && (match K.lookup fI with
    | some ⟨_, _, .func ⟨nm, qual, ⟨[], [⟨s1, none, _⟩, ⟨f1, none, _⟩], none, [], [], none, []⟩, .stmts [.Expr (.Call (.Attribute (.Call (.Name s2 _) [] [] _) s3 p2) [.Name f2 _] [] p4) _, .Assign [.Attribute (.Name s4 _) f3 _] (.Name f4 _) _], sc, gl, [(c1, cc)], .none, .none, _, _, _, .ref cda, _, bl⟩, _⟩ =>
      decide (nm = "__init__") && decide (s1 = "self") && decide (f1 = f) && decide (s2 = "super") && decide (s3 = "__init__") && decide (f2 = f) && decide (s4 = "self") && decide (f3 = f) && decide (f4 = f) && decide (sc = XS.iS f) && decide (gl = mainGlobals) && decide (c1 = "__class__") && decide (bl = builtinsNs) &&
        codeIn K (.ref cda) qual && (p2.endLine == p4.line) && (match K.lookup cc with
          | some ⟨_, _, .cell (some (.ref D)), _⟩ => decide (D = C)
          | _ => false) && (match K.lookup cda with
          | some ⟨_, _, .fields vs, _⟩ => (match (vs[2]? : Option Value) with
            | some (.str file _) => prog.main.file == file
            | _ => false)
          | _ => false)
    | _ => false)
  | _ => false
def xtB (prog : Program) (K : Frag) (C : Addr) (f : Str) : Bool := clsB K C && initB prog K C f && decide (findIn K (.ref C) "__setattr__" = some (some (.builtin "object.__setattr__"))) && decide (findIn K (.ref C) "__getattribute__" = some (some (.builtin "BaseException.__getattribute__"))) && decide (findIn K (.ref C) "__getattr__" = some none) &&
  decide (findIn K (.ref C) f = some none) && keepIn K (.ref C) && decide (subIn K (.ref C) (.type "BaseException") = some true) && decide (subIn K (.ref C) (.type "ValueError") = some true) && decide (typeIn K (.ref C) = some (.type "type")) && hasDictIn K C && decide (PySem.W.ks_superIn K C C "__init__" = some (some (.builtin "ValueError.__init__"))) &&
  decide (nsIn K cStatics "thirdparty.any" = some none) && decide (nsIn K mainGlobals "super" = some none) && decide (mroIn K C (.ref C) = some true) && !(prog.main.scope.names.lookup ("super" : Str)).isSome
theorem xtB_ok {prog : Program} {K : Frag} {C : Addr} {f : Str} (h : xtB prog K C f = true) : XS.XTxt prog K C f := by
  unfold xtB at h
  simp only [Bool.and_eq_true, decide_eq_true_eq, Bool.not_eq_true'] at h
  obtain ⟨⟨⟨⟨⟨⟨⟨⟨⟨⟨⟨⟨⟨⟨⟨h1, h2⟩, h3⟩, h4⟩, h5⟩, h6⟩, h7⟩, h8⟩, h9⟩, h10⟩, h11⟩, h12⟩, h13⟩, h14⟩, h15⟩, h16⟩ := h
  refine ⟨clsB_ok h1, h3, h4, h5, h6, h7, h8, h9, h10, h11, h12, h13, h14, h15, h16, ?_⟩
  unfold initB at h2
  split at h2
  · rename_i fI hi
    simp only [Bool.and_eq_true, decide_eq_true_eq] at h2
    obtain ⟨ht, h2⟩ := h2
    split at h2
    · rename_i oc od nm qual s1 a1 f1 a2 s2 p0 p1 s3 p2 f2 p3 p4 p5 s4 q1 f3 q2 f4 q3 q4 sc gl c1 cc doc pm an cda ct bl osl lk
      simp only [Bool.and_eq_true, decide_eq_true_eq] at h2
      obtain ⟨⟨⟨⟨⟨⟨⟨⟨⟨⟨⟨⟨⟨⟨⟨⟨e1, e2⟩, e3⟩, e4⟩, e5⟩, e6⟩, e7⟩, e8⟩, e9⟩, e10⟩, e11⟩, e12⟩, e13⟩, e14⟩, e15⟩, e16⟩, e17⟩ := h2
      subst e1 e2 e4 e5 e7 e10 e11 e12 e13
      subst e3
      cases e6; cases e8; cases e9
      split at e16
      · rename_i cl cld D csl lc
        simp only [decide_eq_true_eq] at e16
        subst e16
        split at e17
        · rename_i ccl cdd vs ccs ld
          split at e17
          · rename_i file tf hv
            exact ⟨fI, cc, cda, hi, ht, ⟨oc, od, qual, doc, pm, an, ct, osl, a1, a2, p0, p1, p2, p3, p4, p5, q1, q2, q3, q4, lk, e14, e15⟩, ⟨cl, cld, csl, lc⟩, ccl, cdd, vs, ccs, file, tf, ld, hv, e17⟩
          · cases e17
        · cases e17
      · cases e16
    · cases h2
  · cases h2
def excCB (K : Frag) (D : Addr) : Bool := decide (findIn K (.ref D) "__getattribute__" = some (some (.builtin "BaseException.__getattribute__"))) && decide (findIn K (.ref D) "__getattr__" = some none) && decide (subIn K (.ref D) (.type "BaseException") = some true) && hasDictIn K D &&
  decide (findIn K (.ref D) "__class__" = some (some (.builtin "object.__class__"))) && decide (PySem.W.specialIn K (.builtin "object.__class__") "__get__" = some (some (.builtin "getset_descriptor.__get__"))) && decide (PySem.W.takesIn K (.builtin "object.__class__") = some true) && decide (mroIn K D (.type "object") = some true)
theorem excCB_ok {K : Frag} {D : Addr} (h : excCB K D = true) : ExcC K D := by
  unfold excCB at h
  simp only [Bool.and_eq_true, decide_eq_true_eq] at h
  obtain ⟨⟨⟨⟨⟨⟨⟨h1, h2⟩, h3⟩, h4⟩, h5⟩, h6⟩, h7⟩, h8⟩ := h
  exact ⟨h1, h2, h3, h4, h5, h6, h7, h8⟩
def ecB (prog : Program) (K : Frag) (P : CProg) (c : Nat) (ec : EC) : Bool :=
  (if ec.own then decide (nsIn K mainGlobals ec.nm = some (some (.ref (ecA K ec.nm)))) && keepIn K (.ref (ecA K ec.nm)) && decide (typeIn K (.ref (ecA K ec.nm)) = some (.type "type")) && excCB K (ecA K ec.nm) && (match ec.fld with
      | some f => xtB prog K (ecA K ec.nm) (fldN f)
      | none => PySem.W.excIn K (ecA K ec.nm) veB "ValueError.__new__") &&
      ((List.range P.ecs.length).all fun c' => decide (kitOne K (ecCa P K c) (ecCa P K c') = some (P.sub c c')) && decide (exmOne K (ecCa P K c) (ecCa P K c') = some (P.sub c c')))
   else decide (ec.fld = none) && decide (ec.nm = "ValueError") && decide (nsIn K mainGlobals ec.nm = some none))
def ecsB (prog : Program) (K : Frag) (P : CProg) : Bool := (List.range P.ecs.length).all fun c => match P.ecs[c]? with
  | some ec => ecB prog K P c ec
  | none => true
theorem ecs_of {C : PC} {prog : Program} {K : Frag} {mg : Str → Option Value} {h : Heap} (X : K.In h) (G : h.Ns mainGlobals mg) (hca : ∀ c, C.ca c = ecCa C.P K c) (hb : ecsB prog K C.P = true) : EcsOk C prog K mg := fun c ec hc => by
  have hlt : c < C.P.ecs.length := (List.getElem?_eq_some_iff.mp hc).1
  have q := List.all_eq_true.mp hb c (List.mem_range.mpr hlt)
  rw [hc] at q
  have q' : ecB prog K C.P c ec = true := q
  unfold ecB at q'
  by_cases ho : ec.own = true
  · rw [if_pos ho] at q'
    simp only [Bool.and_eq_true, decide_eq_true_eq] at q'
    obtain ⟨⟨⟨⟨⟨h1, h2⟩, h3⟩, h4⟩, h5⟩, h6⟩ := q'
    have eca : C.ca c = .ref (ecA K ec.nm) := by rw [hca]; unfold ecCa; rw [hc]; simp [ho]
    refine ⟨fun _ => ⟨ecA K ec.nm, eca, PySem.W.mg_of X G h1, h2, h3, excCB_ok h4, fun f hf => ?_, fun hf => ?_⟩, fun z => (by rw [ho] at z; cases z), fun c' ec' hc' _ => ?_⟩
    · rw [hf] at h5; exact xtB_ok h5
    · rw [hf] at h5; exact h5
    · have hlt' : c' < C.P.ecs.length := (List.getElem?_eq_some_iff.mp hc').1
      have z := List.all_eq_true.mp h6 c' (List.mem_range.mpr hlt')
      simp only [Bool.and_eq_true, decide_eq_true_eq] at z
      rw [hca, hca]; exact z
  · rw [if_neg ho] at q'
    simp only [Bool.and_eq_true, decide_eq_true_eq] at q'
    obtain ⟨⟨h1, h2⟩, h3⟩ := q'
    have ho' : ec.own = false := by simpa using ho
    refine ⟨fun z => absurd z ho, fun _ => ⟨h1, ?_, h2, PySem.W.mg_none_of X G h3⟩, fun _ _ _ z => absurd z ho⟩
    rw [hca]; unfold ecCa; rw [hc]; simp [ho']
/-! ### the hook: the statics beside what the names reach -/
open He in
def asY (g : Addr → Option Obj) (n : Nat) : List Addr := cStatics :: asD g n
open He in
def obsY (n : Nat) (fa : List Fa) (fn : List DefD) (ts : List Tab) (tf : List Defn) (ex : Frag → Bool) (g : Addr → Option Obj) : AlX := (obsT fa fn ts (frT g (asY g n)), ex (frT g (asY g n)) && tabsB g tf (frT g (asY g n)))
open He in
theorem saysY_of {n : Nat} {fa : List Fa} {fn : List DefD} {ts : List Tab} {tf : List Defn} {ex : Frag → Bool} {w : World} {h : Heap} (e : obsY n fa fn ts tf ex h.get? = valX fn ts w) : SaysX fa fn ts tf ex w h (frT h.get? (asY h.get? n)) := by
  generalize hK : frT h.get? (asY h.get? n) = K
  have e1 : obsT fa fn ts K = valT fn ts w := by rw [← hK]; exact (Prod.mk.inj e).1
  have e2 : (ex K && tabsB h.get? tf K) = true := by rw [← hK]; exact (Prod.mk.inj e).2
  have e3 := Bool.and_eq_true_iff.mp e2
  have key : ∀ p ∈ tf, PySem.W.codeHdIn K (cT K p).1 (cT K p).2 = true ∧ ∃ o, h.get? (cT K p).2 = some o ∧ emptyTab o = true := fun p hp => by
    have z := Bool.and_eq_true_iff.mp (List.all_eq_true.mp e3.2 p hp)
    refine ⟨z.1, ?_⟩
    have z2 := z.2
    split at z2
    · rename_i o ho; exact ⟨o, ho, z2⟩
    · cases z2
  refine ⟨e1, e3.1, fun p hp => (key p hp).1, fun p hp => ?_, fun p hp => ?_⟩
  · obtain ⟨_, o, q, z⟩ := key p hp
    rw [← hK]
    rw [← hK] at q
    exact frT_none q z
  · obtain ⟨_, o, q, z⟩ := key p hp
    rw [q, emptyTab_eq z]
open He in
def hookY (n : Nat) (fa : List Fa) (fn : List DefD) (ts : List Tab) (tf : List Defn) (ex : Frag → Bool) : PySem.W.Hook where
  α := AlX
  obs := fun s => obsY n fa fn ts tf ex s.heap.get?
  val := fun w => valX fn ts w
  says := fun w h => ∃ K : Frag, K.In h ∧ SaysX fa fn ts tf ex w h K
  of := fun _ _ e => ⟨_, frT_in, saysY_of e⟩
  keeps := fun _ _ _ ⟨K, hK, c⟩ k => ⟨K, PySem.W.Frag.In.keeps hK k, ⟨c.t, c.more, c.hd, c.out, fun p hp => k _ _ (c.empty p hp)⟩⟩
theorem obsY_eq {n : Nat} {fa : List He.Fa} {fn : List He.DefD} {ts : List He.Tab} {tf : List He.Defn} {ex : Frag → Bool} {g : Addr → Option Obj} {s : Shared} (h : ∀ a, g a = s.heap.get? a) : obsY n fa fn ts tf ex g = (hookY n fa fn ts tf ex).obs s := by
  obtain rfl : g = s.heap.get? := funext h
  rfl
end DV
end

section
set_option linter.all false
set_option maxRecDepth 100000
set_option maxHeartbeats 2000000
/-! DV27: from the head's facts to the defs' facts; the law by its plain law. -/
namespace DV
open PySem PySem.Spec PyProof.Rows L2 LamX NdefX
structure SD where
  nm : Str
  st : Stmt
  N : List Str
  mkl : Bool
def fsB (N ps : List Str) (sc : Scope) : Bool := decide (sc.kind = .function) && !sc.isCoroutine && !sc.isGenerator && decide N.Nodup && decide (N.take ps.length = ps) && ps.all (fun x => decide (sc.names.lookup x = some .local) || decide (sc.names.lookup x = some .cell)) && sc.names.all (fun y => !decide (y.2 = .free))
theorem fsB_ok {N ps : List Str} {sc : Scope} (h : fsB N ps sc = true) : FnScope N ps sc := by
  unfold fsB at h
  simp only [Bool.and_eq_true, Bool.or_eq_true, Bool.not_eq_true', decide_eq_true_eq, List.all_eq_true, decide_eq_false_iff_not] at h
  obtain ⟨⟨⟨⟨⟨⟨h1, h2⟩, h3⟩, h4⟩, h5⟩, h6⟩, h7⟩ := h
  exact ⟨h1, h2, h3, h4, h5, h6, h7⟩
def defB (S : SX) (fl g : Nat) (sd : SD) : Bool := match S.P.defs[g]? with
  | some d => decide (S.fnm[g]? = some sd.nm) && fsB sd.N (sgOf S (sigOf S.P g)) (defScope sd.st) && plainB (defArgs sd.st) (sgOf S (sigOf S.P g)) && decide (d.np = (sgOf S (sigOf S.P g)).length) && decide (d.n = sd.N.length) &&
      ck S fl ⟨sd.N, defScope sd.st, true, [], sd.mkl, true⟩ (.S d.body (defBody sd.st))
  | none => false
def toD (sd : SD) : He.DefD := ⟨(sd.nm, none), sd.nm, sd.nm, defArgs sd.st, defBody sd.st, defScope sd.st, [], []⟩
def faOf (S : SX) (K : PySem.W.Frag) (g : Nat) : Addr := He.fAd K ((S.fnm[g]?).getD "", none)
def cstB (S : SX) (K : PySem.W.Frag) : Nat → Value → D → Bool
  | 0, _, _ => false
  | n + 1, u, d => match u, d with
    | .none, .non => true
    | .bool b, .bl c => b == c
    | .int i _, .int j => decide (i = j)
    | .str x _, .str y => decide (x = S8 y)
    | .ref a, .fn g => decide (a = faOf S K g) && decide (g < S.P.defs.length)
    | .ref a, .tup ds => (match K.lookup a with
      | some ⟨.type c, none, .seq its _, _⟩ => decide (c = "tuple") && decide (its.size ≤ line) && decide (its.size = ds.length) && (its.toList.zip ds).all fun p => cstB S K n p.1 p.2
      | _ => false)
    | _, _ => false
/-- the deep relation's context -/
def pcOf (P : Program) (w : World) (S : SX) (K : PySem.W.Frag) (tf : List Str) : PC := ⟨P, w, S.P, K, faOf S K, ecCa S.P K, lamGood S, tf.map fun x => ((He.cT K (x, none)).2, x ++ ".<locals>." ++ "<lambda>"), sgOf S, none⟩
theorem cst_ok {P : Program} {w : World} {S : SX} {K : PySem.W.Frag} {tf : List Str} : ∀ {n : Nat} {u : Value} {d : D}, cstB S K n u d = true → ∃ v, RelV v u ∧ ∀ W, RepW (pcOf P w S K tf) W v d
  | 0, _, _, h => by cases h
  | n + 1, u, d, h => by
    unfold cstB at h
    split at h
    · exact ⟨.non, rfl, fun _ => .non⟩
    · simp at h; subst h; exact ⟨.bl _, rfl, fun _ => .bl _⟩
    · simp at h; subst h; exact ⟨.int _, ⟨_, rfl⟩, fun _ => .int _⟩
    · simp at h; subst h; exact ⟨.str _, ⟨_, rfl⟩, fun _ => .str _⟩
    · simp only [Bool.and_eq_true, decide_eq_true_eq, Bool.not_eq_true'] at h
      obtain ⟨h1, h2⟩ := h
      subst h1
      exact ⟨.ref _, rfl, fun _ => .fn _ ⟨_, List.getElem?_eq_getElem h2⟩⟩
    · rename_i a ds
      split at h
      · rename_i c its m sl lk
        simp only [Bool.and_eq_true, decide_eq_true_eq, Bool.not_eq_true'] at h
        obtain ⟨⟨⟨h1, h2⟩, h3⟩, h4⟩ := h
        subst h1
        have key : ∀ (us : List Value) (ds : List D), us.length = ds.length → (us.zip ds).all (fun p => cstB S K n p.1 p.2) = true → ∃ vs, Vals vs us ∧ ∀ W, RepsW (pcOf P w S K tf) W vs ds := fun us => by
          induction us with
          | nil =>
            intro ds hl _
            cases ds with
            | nil => exact ⟨[], .nil, fun _ => .nil⟩
            | cons _ _ => simp at hl
          | cons u us ih =>
            intro ds hl ha
            cases ds with
            | nil => simp at hl
            | cons d ds =>
              simp only [List.zip_cons_cons, List.all_cons, Bool.and_eq_true] at ha
              obtain ⟨v, r, k⟩ := cst_ok (tf := tf) ha.1
              obtain ⟨vs, rs, ks⟩ := ih ds (by simpa using hl) ha.2
              exact ⟨v :: vs, .cons r rs, fun W => .cons (k W) (ks W)⟩
        obtain ⟨vs, rs, ks⟩ := key its.toList ds (by simpa using h3) h4
        exact ⟨.ref a, rfl, fun W => .tup (.inr ⟨_, its, m, lk, rfl, rfl, rfl, by rw [← line_eq]; exact h2, rs⟩) (ks W)⟩
      · cases h
    · cases h
/-- what is looked at in the head beside He's facts -/
def exB (prog : Program) (S : SX) (tf : List Str) (K : PySem.W.Frag) : Bool := ecsB prog K S.P && (!S.gcd || He.eqO (PySem.W.nsIn K mainGlobals "gcd") (some (some (.builtin "math.gcd")))) && decide ((tf.map fun x => (He.cT K (x, none)).2).Nodup) && decide (S.gnm.length = S.P.glos.length) &&
  ((S.gnm.zip S.P.glos).all fun p => match PySem.W.nsIn K mainGlobals p.1 with
    | some (some u) => cstB S K 8 u p.2
    | _ => false)
def faL (S : SX) : List He.Fa := S.fnm.map .glo ++ S.bn.map .free
theorem facts_of {S : SX} {sds : List SD} {tf : List Str} {fl : Nat} {ts : List He.Tab} {P : Program} {w : World} {h : Heap} {K : PySem.W.Frag} {mg : Str → Option Value} {base : Heap} (hB : ∀ (g : Nat) sd, sds[g]? = some sd → defB S fl g sd = true) (hlen : sds.length = S.P.defs.length) (hfl : S.fnm.length = S.P.defs.length) (hmk : ∀ sd ∈ sds, sd.mkl = true → sd.nm ∈ tf)
    (c : He.SaysX (faL S) (sds.map toD) ts (tf.map fun x => (x, none)) (exB P S tf) w h K) (X : K.In h) (G : h.Ns mainGlobals mg) (TB : ∀ x ∈ tf, TabB base mg (He.cT K (x, none)).1 (He.cT K (x, none)).2) : Facts (pcOf P w S K tf) S P w K mg base := by
  have cd := c.t.d
  have hex := c.more
  simp only [exB, Bool.and_eq_true, Bool.or_eq_true, Bool.not_eq_true', decide_eq_true_eq] at hex
  obtain ⟨⟨⟨⟨hec, hg⟩, hnd⟩, hgl⟩, hga⟩ := hex
  refine ⟨rfl, rfl, rfl, rfl, fun t => rfl, fun g x e => ?_, fun j x e => ?_, fun x hx => ?_, fun e => ?_, rfl, ecs_of X G (fun _ => rfl) hec, rfl, fun g d hd => ?_⟩
  · have hm : He.Fa.glo x ∈ faL S := List.mem_append_left _ (List.mem_map.mpr ⟨x, List.mem_of_getElem? e, rfl⟩)
    have q := He.glo_ok X G (cd.facts hm)
    refine ⟨?_, ?_⟩
    · rw [q]
      show _ = some (Value.ref (faOf S K g))
      unfold faOf
      rw [e]; rfl
    · have hl : g < S.P.defs.length := hfl ▸ (List.getElem?_eq_some_iff.mp e).1
      exact ⟨_, List.getElem?_eq_getElem hl⟩
  · have hl : j < S.gnm.length := (List.getElem?_eq_some_iff.mp e).1
    have hl2 : j < S.P.glos.length := hgl ▸ hl
    have hz : (S.gnm.zip S.P.glos)[j]? = some (x, S.P.glos[j]) := by
      rw [List.getElem?_zip_eq_some]
      exact ⟨e, List.getElem?_eq_getElem hl2⟩
    have q := List.all_eq_true.mp hga _ (List.mem_of_getElem? hz)
    split at q
    · rename_i u hu
      obtain ⟨v, r, k⟩ := cst_ok (tf := tf) q
      exact ⟨_, v, u, List.getElem?_eq_getElem hl2, PySem.W.mg_of X G hu, r, k⟩
    · cases q
  · have hm : He.Fa.free x ∈ faL S := List.mem_append_right _ (List.mem_map.mpr ⟨x, hx, rfl⟩)
    exact He.free_ok X G (cd.facts hm)
  · rcases hg with z | z
    · rw [e] at z; cases z
    · exact PySem.W.mg_of X G (He.eqO_ok z)
  · have hl : g < sds.length := by rw [hlen]; exact (List.getElem?_eq_some_iff.mp hd).1
    have hsd : sds[g]? = some sds[g] := List.getElem?_eq_getElem hl
    generalize sds[g] = sd at hsd
    have hb := hB g sd hsd
    unfold defB at hb
    rw [show S.P.defs[g]? = some d from hd] at hb
    simp only [Bool.and_eq_true, decide_eq_true_eq, Bool.not_eq_true'] at hb
    obtain ⟨⟨⟨⟨⟨h1, h2⟩, h3⟩, h4⟩, h5⟩, h6⟩ := hb
    obtain ⟨fd, FD⟩ := cd.defs (d := toD sd) (List.mem_map.mpr ⟨sd, List.mem_of_getElem? hsd, rfl⟩)
    obtain ⟨⟨oc, od, dV, kV, doc, pm, an, cdv, ct, osl, efd, lk, hcd, hdv, hkw⟩, kp⟩ := FD
    subst efd
    have edv : dV = .none := by
      rcases hdv with ⟨_, z⟩ | ⟨z, _⟩
      · exact z
      · exact absurd rfl z
    subst edv
    have efa : (pcOf P w S K tf).fa g = He.fAd K (sd.nm, none) := by
      show faOf S K g = _
      unfold faOf
      rw [h1]; rfl
    have lk' : K.lookup ((pcOf P w S K tf).fa g) = some ⟨oc, od, .func (PySem.W.fnOf sd.nm sd.nm (defArgs sd.st) (defBody sd.st) (defScope sd.st) .none kV doc pm an cdv ct), osl⟩ := by
      rw [efa]; exact lk
    refine ⟨⟨sd.nm, sd.nm, defArgs sd.st, defBody sd.st, defScope sd.st, kV, doc, pm, cdv, ct, oc, an, od, osl, sd.N, sd.mkl, fl, lk', hcd, fsB_ok h2, h3, h4, h5, h6, fun hmk' => ?_⟩, by rw [efa]; exact kp⟩
    have hin := hmk sd (List.mem_of_getElem? hsd) hmk'
    obtain ⟨cc, rfl⟩ := He.codeIn_ref hcd
    have ecode : He.codeOf K (sd.nm, none) = cc := He.codeOf_eq lk rfl
    have tb := TB sd.nm hin
    have e1 : (He.cT K (sd.nm, none)).1 = cc := ecode
    rw [e1] at tb
    refine ⟨cc, _, rfl, tb, List.mem_map.mpr ⟨sd.nm, hin, rfl⟩, fun p hp ep => ?_⟩
    obtain ⟨x, hx, rfl⟩ := List.mem_map.mp hp
    -- two defs of one table are one
    obtain ⟨i, hi⟩ := List.mem_iff_getElem?.mp hx
    obtain ⟨j, hj⟩ := List.mem_iff_getElem?.mp hin
    have n1 : (tf.map fun x => (He.cT K (x, none)).2)[i]? = some (He.cT K (x, none)).2 := by rw [List.getElem?_map, hi]; rfl
    have n2 : (tf.map fun x => (He.cT K (x, none)).2)[j]? = some (He.cT K (sd.nm, none)).2 := by rw [List.getElem?_map, hj]; rfl
    have eij : i = j := (List.getElem?_inj (List.getElem?_eq_some_iff.mp n1).1 hnd).mp (by rw [n1, n2]; exact congrArg some ep)
    subst eij
    rw [hi] at hj
    cases hj
    rfl
/-! ### the law -/
/-- the plain law -/
def Plain (S : SX) (k gL n : Nat) : Prop := ∀ ns : List Int, ns.length ≤ n → (∀ z ∈ ns, Builtin.Int.intBits z ≤ 1048576) → ∃ st', callF S.P k gL [.fro (ns.map D.int)] [] = .ok (.bl true) st'
theorem reps_ints {C : PC} {F : Hp} {μ : List Addr} : ∀ ns : List Int, Reps C F μ (ns.map V.int) (ns.map D.int)
  | [] => .nil
  | n :: ns => .cons (.int n) (reps_ints ns)
theorem law_sp {S : SX} {K : PySem.W.Frag} {tf : List Str} {k gL n : Nat} (pl : Plain S k gL n) {H : Hp} {a : Addr} {ns : List Int} (hl : ns.length ≤ n) (hb : ∀ z ∈ ns, Builtin.Int.intBits z ≤ 1048576) (hT : ∀ x ∈ tf, H (He.cT K (x, none)).2 = some (.tbl #[])) (hS : SqL K H a (ns.map V.int)) :
    spF (pcOf P w S K tf) k gL [.ref a] H (fun v _ => v = .bl true) fun _ _ _ => False := by
  obtain ⟨st', e⟩ := pl ns hl hb
  -- what stands still: the script alone
  have main : ∀ F : Hp, (∀ b o, F b = some o → H b = some o) → (∀ b ps, F b ≠ some (.tbl ps)) → SqL K F a (ns.map V.int) → spF (pcOf P w S K tf) k gL [.ref a] H (fun v _ => v = .bl true) fun _ _ _ => False := fun F sub nt hs => by
    refine sp_of (W := ⟨F, []⟩) (ds := [.fro (ns.map D.int)]) (st := []) ⟨sub, rfl, fun l b xs e => by simp at e, List.nodup_nil, fun b hb => absurd hb (by simp), nt, fun p hp => ?_⟩ (.cons (.fro hs (reps_ints ns)) .nil) ?_
    · obtain ⟨x, hx, rfl⟩ := List.mem_map.mp hp
      refine ⟨#[], hT x hx, True.intro, fun pos cv q => ?_⟩
      have z : codeAmong pos [] = some cv := q
      simp [codeAmong] at z
    · show Post _ _ (callF S.P k gL [.fro (ns.map D.int)] []) _ _ _ _
      rw [e]
      intro v H' W' g m r
      cases r; rfl
  rcases hS with (h | ⟨o, h⟩) | h
  · refine main (fun b => if b = a then H a else none) (fun b o e => ?_) (fun b ps e => ?_) (.inl (.inl ?_))
    · by_cases q : b = a
      · subst q; simpa using e
      · simp [q] at e
    · by_cases q : b = a
      · subst q; simp [h] at e
      · simp [q] at e
    · simpa using h
  · refine main (fun b => if b = a then H a else none) (fun b o e => ?_) (fun b ps e => ?_) (.inl (.inr ⟨o, ?_⟩))
    · by_cases q : b = a
      · subst q; simpa using e
      · simp [q] at e
    · by_cases q : b = a
      · subst q; simp [h] at e
      · simp [q] at e
    · simpa using h
  · exact main (fun _ => none) (fun _ _ e => nomatch e) (fun _ _ e => nomatch e) (.inr h)
end DV
end

section
set_option linter.all false
set_option maxRecDepth 100000
set_option maxHeartbeats 2000000
/-! DV28: the law at the head. -/
namespace DV
open PySem PySem.Spec PyProof.Rows L2 LamX NdefX
theorem law_G {l : PySem.W.OpenLaw} {S : SX} {sds : List SD} {tf : List Str} {fl k gL n : Nat} {nmL x : Str} (hB : ∀ (g : Nat) sd, sds[g]? = some sd → defB S fl g sd = true) (hlen : sds.length = S.P.defs.length) (hfl : S.fnm.length = S.P.defs.length) (hmk : ∀ sd ∈ sds, sd.mkl = true → sd.nm ∈ tf)
    (pl : Plain S k gL n) (hnm : S.fnm[gL]? = some nmL) (hsg : sgOf S (sigOf S.P gL) = [x]) {w : World} {mg : Str → Option Value} {fa : Addr} {h : Heap} {K : PySem.W.Frag} (KX : K.In h) (c : He.SaysX (faL S) (sds.map toD) [] (tf.map fun x => (x, none)) (exB l.prog S tf) w h K) (G : h.Ns mainGlobals mg)
    (hmg : mg nmL = some (.ref fa)) : LawG l w K k n x mg fa h := by
  have cd := c.t.d
  have hgd : gL < S.P.defs.length := hfl ▸ (List.getElem?_eq_some_iff.mp hnm).1
  obtain ⟨d, hd⟩ : ∃ d, S.P.defs[gL]? = some d := ⟨_, List.getElem?_eq_getElem hgd⟩
  obtain ⟨sd, hsd⟩ : ∃ sd, sds[gL]? = some sd := ⟨_, List.getElem?_eq_getElem (by rw [hlen]; exact hgd)⟩
  have hb := hB gL sd hsd
  unfold defB at hb
  rw [hd] at hb
  simp only [Bool.and_eq_true, decide_eq_true_eq, Bool.not_eq_true'] at hb
  obtain ⟨⟨⟨⟨⟨h1, h2⟩, h3⟩, h4⟩, h5⟩, h6⟩ := hb
  rw [hsg] at h3
  obtain ⟨fd, FD⟩ := cd.defs (d := toD sd) (List.mem_map.mpr ⟨sd, List.mem_of_getElem? hsd, rfl⟩)
  obtain ⟨⟨oc, od, dV, kV, doc, pm, an, cdv, ct, osl, efd, lk, hcd, hdv, hkw⟩, kp⟩ := FD
  have edv : dV = .none := by
    rcases hdv with ⟨_, z⟩ | ⟨z, _⟩
    · exact z
    · exact absurd rfl z
  subst edv
  have efa : faOf S K gL = He.fAd K (sd.nm, none) := by
    unfold faOf
    rw [h1]; rfl
  have enm : sd.nm = nmL := by rw [hnm] at h1; exact (Option.some.inj h1).symm
  have eaddr : fa = faOf S K gL := by
    have hm : He.Fa.glo nmL ∈ faL S := List.mem_append_left _ (List.mem_map.mpr ⟨nmL, List.mem_of_getElem? hnm, rfl⟩)
    have q := He.glo_ok KX G (cd.facts hm)
    rw [hmg] at q
    have q' := Value.ref.inj (Option.some.inj q)
    rw [q', efa, enm]; rfl
  have hpl : PlainPs fd [x] := by
    rw [efd]
    exact plain_fn h3
  refine ⟨fd, tf.map fun x => He.cT K (x, none), spF (pcOf l.prog w S K tf) k gL, fun p hp => ?_, fun p hp => ?_, fun p hp => ?_, fun s u => ?_, fun H a ns hl hbits hT hS => ?_, fun base KB GB TB => ?_⟩
  · obtain ⟨y, hy, rfl⟩ := List.mem_map.mp hp
    exact c.empty (y, none) (List.mem_map.mpr ⟨y, hy, rfl⟩)
  · obtain ⟨y, hy, rfl⟩ := List.mem_map.mp hp
    exact c.out (y, none) (List.mem_map.mpr ⟨y, hy, rfl⟩)
  · obtain ⟨y, hy, rfl⟩ := List.mem_map.mp hp
    exact PySem.W.codeHd_of_K KX (c.hd (y, none) (List.mem_map.mpr ⟨y, hy, rfl⟩))
  · have := bindK hpl [u] [] rfl (by simp)
    exact BindsTo.of_eq this
  · exact law_sp pl hl hbits (fun y hy => hT _ (List.mem_map.mpr ⟨y, hy, rfl⟩)) hS
  · have F := facts_of hB hlen hfl hmk c KX G (base := base) (fun y hy => TB _ (List.mem_map.mpr ⟨y, hy, rfl⟩))
    obtain ⟨ps, D⟩ := (all_ok F k).1.defs gL d hd
    obtain ⟨fd', G', _, oc', od', osl', lk'⟩ := D.ex
    have eps : ps = [x] := by
      rw [← D.sg]; exact hsg
    have lk2 : K.lookup (faOf S K gL) = some ⟨oc', od', .func fd', osl'⟩ := lk'
    rw [efa] at lk2
    have lk3 := lk.symm.trans lk2
    have efd' : fd = fd' := by
      simp only [Option.some.injEq, Obj.mk.injEq, Data.func.injEq] at lk3
      exact lk3.2.2.1
    rw [eaddr, efd', ← eps]
    exact G'
end DV
end

section
set_option linter.all false
set_option maxRecDepth 100000
/-! PL0: the interpreter told by rows that simp takes. -/
namespace DV
open PySem
theorem bindok {α β : Type} (a : α) (st : St) (f : α → St → R β) : (R.ok a st).bind f = f a st := rfl
theorem bindexc {α β : Type} (c : Nat) (d : List D) (st : St) (f : α → St → R β) : (R.exc c d st : R α).bind f = .exc c d st := rfl
theorem liftok {α : Type} (a : α) (st : St) : R.lift (some a) st = .ok a st := rfl
theorem onok {α : Type} (a : α) (st : St) (ρ : Env) (f : α → St → RS) : RS.on (R.ok a st) ρ f = f a st := rfl
theorem onexc {α : Type} (c : Nat) (d : List D) (st : St) (ρ : Env) (f : α → St → RS) : RS.on (R.exc c d st : R α) ρ f = .exc c d ρ st := rfl
theorem seqnx (ρ : Env) (st : St) (f : Env → St → RS) : (RS.nx ρ st).seq f = f ρ st := rfl
theorem seqret (d : D) (st : St) (f : Env → St → RS) : (RS.ret d st).seq f = .ret d st := rfl
theorem seqexc (c : Nat) (d : List D) (ρ : Env) (st : St) (f : Env → St → RS) : (RS.exc c d ρ st).seq f = .exc c d ρ st := rfl
theorem seqbrk (ρ : Env) (st : St) (f : Env → St → RS) : (RS.brk ρ st).seq f = .brk ρ st := rfl
theorem seqcnt (ρ : Env) (st : St) (f : Env → St → RS) : (RS.cnt ρ st).seq f = .cnt ρ st := rfl
theorem outret (d : D) (st : St) : outS (.ret d st) = .ok d st := rfl
theorem outnx (ρ : Env) (st : St) : outS (.nx ρ st) = .ok .non st := rfl
theorem outexc (c : Nat) (d : List D) (ρ : Env) (st : St) : outS (.exc c d ρ st) = .exc c d st := rfl
theorem tellF (P : CProg) (n : Nat) : (tell P n).F = callF P n := rfl
theorem tellC (P : CProg) (n : Nat) : (tell P n).C = callC P n := rfl
theorem tellgl (P : CProg) (n : Nat) : (tell P n).gl = fun j => P.glos[j]? := rfl
theorem tellsig (P : CProg) (n : Nat) : (tell P n).sig = sigOf P := rfl
theorem tellsub (P : CProg) (n : Nat) : (tell P n).sub = P.sub := rfl
theorem tellfld (P : CProg) (n : Nat) : (tell P n).fld = P.fld := rfl
theorem tellex (P : CProg) (n : Nat) : (tell P n).ex = none := rfl
theorem ln1 : (1 ≤ line) = True := by decide
theorem ln2 : (2 ≤ line) = True := by decide
theorem ln3 : (3 ≤ line) = True := by decide
theorem ln4 : (4 ≤ line) = True := by decide
theorem ln5 : (5 ≤ line) = True := by decide
theorem ln6 : (6 ≤ line) = True := by decide
theorem ln7 : (7 ≤ line) = True := by decide
theorem ln8 : (8 ≤ line) = True := by decide
theorem forL_nx {tg : CT} {body : Env → St → RS} {x : D} {xs : List D} {ρ ρ1 ρ2 : Env} {st st1 st2 : St} (h1 : asgT tg x ρ st = some (ρ1, st1)) (h2 : body ρ1 st1 = .nx ρ2 st2) : forL tg body (x :: xs) ρ st = forL tg body xs ρ2 st2 := by simp only [forL, h1, h2]
theorem forL_cnt {tg : CT} {body : Env → St → RS} {x : D} {xs : List D} {ρ ρ1 ρ2 : Env} {st st1 st2 : St} (h1 : asgT tg x ρ st = some (ρ1, st1)) (h2 : body ρ1 st1 = .cnt ρ2 st2) : forL tg body (x :: xs) ρ st = forL tg body xs ρ2 st2 := by simp only [forL, h1, h2]
theorem forL_ret {tg : CT} {body : Env → St → RS} {x d : D} {xs : List D} {ρ ρ1 : Env} {st st1 st2 : St} (h1 : asgT tg x ρ st = some (ρ1, st1)) (h2 : body ρ1 st1 = .ret d st2) : forL tg body (x :: xs) ρ st = .ret d st2 := by simp only [forL, h1, h2]
theorem forL_exc {tg : CT} {body : Env → St → RS} {x : D} {c : Nat} {d : List D} {xs : List D} {ρ ρ1 ρ2 : Env} {st st1 st2 : St} (h1 : asgT tg x ρ st = some (ρ1, st1)) (h2 : body ρ1 st1 = .exc c d ρ2 st2) : forL tg body (x :: xs) ρ st = .exc c d ρ2 st2 := by simp only [forL, h1, h2]
theorem forL_nil {tg : CT} {body : Env → St → RS} {ρ : Env} {st : St} : forL tg body [] ρ st = .nx ρ st := rfl
theorem ite_pl {α : Type} {xs : List D} {st : St} {a b : α} (h1 : plas xs = true) (h2 : st.all plas = true) : (if (plas xs && st.all plas) = true then a else b) = a := by rw [if_pos (by rw [h1, h2]; rfl)]
/-! what is done next stays as it is till it is met: simp does not look into f -/
abbrev Res {α β : Type} (_ : α → St → R β) : Type := R β
def bx {α β : Type} (f : α → St → R β) (r : R α) : Res f := r.bind f
abbrev ResO {α : Type} (_ : Env) (_ : α → St → RS) : Type := RS
def ox {α : Type} (ρ : Env) (f : α → St → RS) (r : R α) : ResO ρ f := RS.on r ρ f
abbrev ResS (_ : Env → St → RS) : Type := RS
def sx (f : Env → St → RS) (r : RS) : ResS f := r.seq f
theorem bind_bx {α β : Type} (r : R α) (f : α → St → R β) : r.bind f = bx f r := rfl
theorem on_ox {α : Type} (r : R α) (ρ : Env) (f : α → St → RS) : RS.on r ρ f = ox ρ f r := rfl
theorem seq_sx (r : RS) (f : Env → St → RS) : r.seq f = sx f r := rfl
theorem bxok {α β : Type} (a : α) (st : St) (f : α → St → R β) : (bx f (.ok a st) : R β) = f a st := rfl
theorem bxexc {α β : Type} (c : Nat) (d : List D) (st : St) (f : α → St → R β) : (bx f (.exc c d st : R α) : R β) = .exc c d st := rfl
theorem oxok {α : Type} (a : α) (st : St) (ρ : Env) (f : α → St → RS) : (ox ρ f (.ok a st) : RS) = f a st := rfl
theorem oxexc {α : Type} (c : Nat) (d : List D) (st : St) (ρ : Env) (f : α → St → RS) : (ox ρ f (.exc c d st : R α) : RS) = .exc c d ρ st := rfl
theorem sxnx (ρ : Env) (st : St) (f : Env → St → RS) : (sx f (.nx ρ st) : RS) = f ρ st := rfl
theorem sxret (d : D) (st : St) (f : Env → St → RS) : (sx f (.ret d st) : RS) = .ret d st := rfl
theorem sxexc (c : Nat) (d : List D) (ρ : Env) (st : St) (f : Env → St → RS) : (sx f (.exc c d ρ st) : RS) = .exc c d ρ st := rfl
theorem sxbrk (ρ : Env) (st : St) (f : Env → St → RS) : (sx f (.brk ρ st) : RS) = .brk ρ st := rfl
theorem sxcnt (ρ : Env) (st : St) (f : Env → St → RS) : (sx f (.cnt ρ st) : RS) = .cnt ρ st := rfl
theorem bxite {α β : Type} (c : Prop) [Decidable c] (a b : R α) (f : α → St → R β) : (bx f (if c then a else b) : R β) = if c then bx f a else bx f b := by split <;> rfl
theorem oxite {α : Type} (c : Prop) [Decidable c] (a b : R α) (ρ : Env) (f : α → St → RS) : (ox ρ f (if c then a else b) : RS) = if c then ox ρ f a else ox ρ f b := by split <;> rfl
theorem sxite (c : Prop) [Decidable c] (a b : RS) (f : Env → St → RS) : (sx f (if c then a else b) : RS) = if c then sx f a else sx f b := by split <;> rfl
theorem outite (c : Prop) [Decidable c] (a b : RS) : outS (if c then a else b) = if c then outS a else outS b := by split <;> rfl
theorem liftite {α : Type} (c : Prop) [Decidable c] (a b : Option α) (st : St) : R.lift (if c then a else b) st = if c then R.lift a st else R.lift b st := by split <;> rfl
theorem liftmap {α β : Type} (f : α → β) (a : α) (st : St) : R.lift (Option.map f (some a)) st = .ok (f a) st := rfl
end DV
end

section
set_option linter.all false
set_option maxRecDepth 100000
set_option maxHeartbeats 2000000
set_option backward.isDefEq.respectTransparency false
/-! PL1: loops, values, names. -/
namespace DV
open PySem
/-! ### loops -/
theorem filter_true {α : Type} (l : List α) : l.filter (fun _ => true) = l := List.filter_eq_self.mpr fun _ _ => rfl
theorem noexok {α : Type} (a : α) (st : St) : noex (R.ok a st) = .ok a st := rfl
theorem lcMap {α : Type} (i f : α → D) (p : α → Bool) {tg : CT} {ρ : Env} {cond : Env → St → R Bool} {elt : Env → St → R D} {st : St} : ∀ (l : List α),
    (∀ a ∈ l, ∃ ρ1, asgT tg (i a) ρ st = some (ρ1, st) ∧ cond ρ1 st = .ok (p a) st ∧ (p a = true → elt ρ1 st = .ok (f a) st)) → lcLoop tg ρ cond elt (l.map i) st = .ok ((l.filter p).map f) st
  | [], _ => rfl
  | a :: l, h => by
    obtain ⟨ρ1, h1, h2, h3⟩ := h a (List.mem_cons_self ..)
    have ih := lcMap i f p l fun b hb => h b (List.mem_cons_of_mem _ hb)
    simp only [List.map_cons, lcLoop, h1, h2, bindok]
    by_cases q : p a = true
    · simp only [q, if_true, h3 q, bindok, ih, List.filter_cons_of_pos, List.map_cons]
    · simp only [q, if_false, ih]
      rw [List.filter_cons_of_neg q]
      rfl
theorem lcAll {α : Type} (i f : α → D) (l : List α) {tg : CT} {ρ : Env} {cond : Env → St → R Bool} {elt : Env → St → R D} {st : St} 
    (h : ∀ a ∈ l, ∃ ρ1, asgT tg (i a) ρ st = some (ρ1, st) ∧ cond ρ1 st = .ok true st ∧ elt ρ1 st = .ok (f a) st) : lcLoop tg ρ cond elt (l.map i) st = .ok (l.map f) st := by
  rw [lcMap i f (fun _ => true) l fun a ha => let ⟨ρ1, h1, h2, h3⟩ := h a ha; ⟨ρ1, h1, h2, fun _ => h3⟩, filter_true]
/-- a comprehension that draws -/
theorem lcInv {I : St → Prop} {O : D → Prop} {tg : CT} {ρ : Env} {cond : Env → St → R Bool} {elt : Env → St → R D} : ∀ (l : List D) (st : St), I st →
    (∀ a ∈ l, ∀ st, I st → ∃ ρ1, asgT tg a ρ st = some (ρ1, st) ∧ cond ρ1 st = .ok true st ∧ ∃ y st', elt ρ1 st = .ok y st' ∧ I st' ∧ O y) → ∃ ys st', lcLoop tg ρ cond elt l st = .ok ys st' ∧ I st' ∧ ys.length = l.length ∧ ∀ y ∈ ys, O y
  | [], st, hi, _ => ⟨[], st, rfl, hi, rfl, fun y hy => by cases hy⟩
  | a :: l, st, hi, h => by
    obtain ⟨ρ1, h1, h2, y, st1, h3, h4, h5⟩ := h a (List.mem_cons_self ..) st hi
    obtain ⟨ys, st2, e, i2, l2, o2⟩ := lcInv l st1 h4 fun b hb => h b (List.mem_cons_of_mem _ hb)
    refine ⟨y :: ys, st2, ?_, i2, by simp [l2], fun z hz => ?_⟩
    · simp only [lcLoop, h1, h2, bindok, if_true, h3, e]
    · rcases List.mem_cons.mp hz with rfl | hz
      · exact h5
      · exact o2 z hz
/-! ### values -/
def val1 : D → Bool
  | .non => true | .bl _ => true | .int _ => true | .str _ => true | .tup _ => true | .lst _ => true | _ => false
def isInt : D → Bool
  | .int _ => true | _ => false
def numB (lo hi : Int) : D → Bool
  | .int i => decide (lo ≤ i) && decide (i ≤ hi) | _ => false
def tupB (k : Nat) : D → Bool
  | .tup xs => decide (xs.length = k) | _ => false
def lettersC : List Nat := [97, 98, 99, 100, 101, 102, 103, 104, 105, 106, 107, 108, 109, 110, 111, 112, 113, 114, 115, 116, 117, 118, 119, 120, 121, 122]
def wordsC : List (List Nat) := [[97, 108, 108], [97, 110, 121], [97, 116], [98, 101, 115, 116], [98, 121], [99, 104, 97, 110, 99, 101], [102, 105, 114, 115, 116], [102, 111, 114], [103, 97, 109, 101], [104, 97, 110, 100], [105, 110], [108, 101, 102, 116], [108, 101, 115, 115], [108, 111, 116], [109, 111, 114, 101], [110, 111, 110, 101], [111, 102], [111, 112, 101, 110], [111, 114], [111, 118, 101, 114], [112, 105, 99, 107], [112, 105, 99, 107, 101, 100], [114, 111, 119], [115, 101, 99, 111, 110, 100], [115, 104, 97, 114, 101], [115, 116, 97, 110, 100], [115, 116, 97, 114, 116], [115, 119, 97, 121], [116, 97, 98, 108, 101], [116, 104, 105, 110, 103], [116, 104, 105, 110, 103, 115], [116, 111], [116, 111, 115, 115], [116, 114, 101, 101], [116, 117, 114, 110], [117, 110, 100, 111], [119, 105, 116, 104], [119, 111, 114, 116, 104]]
def wordB : D → Bool
  | .str x => !x.isEmpty && x.all fun c => decide (c ∈ lettersC)
  | _ => false
def nameB : D → Bool
  | .str x => !x.isEmpty && (x.all fun c => decide (c ∈ lettersC)) && decide (x.length ≤ 8) && !decide (x ∈ wordsC)
  | _ => false
/-- texts that are not too long -/
def txt1 : D → Bool
  | .str x => decide (x.length ≤ 4000) && x.all fun c => decide (c < 128)
  | _ => true
mutual
/-- data with short texts of plain signs, no number beyond 60 figures -/
def nice : D → Bool
  | .non => true | .bl _ => true
  | .int i => decide (-(10 ^ 60) < i) && decide (i < 10 ^ 60)
  | .str x => decide (x.length ≤ 4000) && x.all fun c => decide (32 ≤ c) && decide (c < 127)
  | .tup xs => nices xs
  | .lst xs => nices xs
  | _ => false
def nices : List D → Bool
  | [] => true
  | x :: r => nice x && nices r
end
/-- one too many -/
def overB : Option Nat → Nat → Bool
  | some m, i => decide (m ≤ i)
  | none, _ => false
/-- the first item that is wrong by itself or beside those ahead of it, or one too many -/
def firstBad (most : Option Nat) (p : D → List D → Bool) (all : List D) : Nat → List D → Option Nat
  | _, [] => none
  | i, x :: r => if overB most i || !p x (all.take i) then some i else firstBad most p all (i + 1) r
def badD : Option Nat → D
  | some i => .lst [.int i]
  | none => .lst []
def optD : Option Nat → D
  | some i => .int i
  | none => .non
theorem cut_take {α : Type} (xs : List α) (i : Nat) : cutD xs none (some (i : Int)) = xs.take i := by
  unfold cutD sIx
  simp only [List.drop_zero, Nat.sub_zero]
  rw [if_neg (by omega)]
  rw [show min ((i : Int)).toNat xs.length = min i xs.length from by simp]
  by_cases h : i ≤ xs.length
  · rw [Nat.min_eq_left h]
  · rw [Nat.min_eq_right (by omega), List.take_length, List.take_of_length_le (by omega)]
theorem nices_iff {xs : List D} : nices xs = true ↔ ∀ x ∈ xs, nice x = true := by
  induction xs with
  | nil => simp [nices]
  | cons x r ih => simp [nices, ih]
theorem nice_val1 {d : D} (h : nice d = true) : val1 d = true := by cases d <;> first | rfl | (cases h; done)
theorem eqD_str (x y : List Nat) : eqD (.str x) (.str y) = (x == y) := by simp [eqD]
theorem any_str (x : List Nat) (l : List (List Nat)) : ((l.map D.str).any fun y => eqD y (.str x)) = decide (x ∈ l) := by
  induction l with
  | nil => rfl
  | cons a l ih =>
    rw [List.map_cons, List.any_cons, ih, eqD_str]
    by_cases h : a = x
    · simp [h]
    · have h' : ¬ x = a := fun e => h e.symm
      simp [h, h']
theorem flat_strs (l : List (List Nat)) : (l.map D.str).all flat = true := by
  rw [List.all_eq_true]
  intro x hx
  obtain ⟨a, _, rfl⟩ := List.mem_map.mp hx
  rfl
theorem inD_strs (x : List Nat) (l : List (List Nat)) : inD (.str x) (.tup (l.map D.str)) = some (decide (x ∈ l)) := by
  have e : (flat (.str x) && (l.map D.str).all flat) = true := by rw [flat_strs]; rfl
  show (if (flat (.str x) && (l.map D.str).all flat) = true then _ else _) = _
  rw [if_pos e, any_str]
theorem allBl_map {α : Type} (f : α → Bool) : ∀ l : List α, allBl (l.map fun a => D.bl (f a)) = some (l.map f)
  | [] => rfl
  | a :: l => by simp [allBl, allBl_map f l]
theorem allInt_map {α : Type} (f : α → Int) : ∀ l : List α, allInt (l.map fun a => D.int (f a)) = some (l.map f)
  | [] => rfl
  | a :: l => by simp [allInt, allInt_map f l]
end DV
end

section
set_option linter.all false
set_option maxRecDepth 100000
set_option maxHeartbeats 2000000
set_option backward.isDefEq.respectTransparency false
/-! PL2: loops, sorting, bits, permutations. -/
namespace DV
open PySem
theorem getD_at {α : Type} {l : List α} {i : Nat} (d : α) (_l : Nat) (h : i < l.length) : l.getD i d = l[i] := by
  rw [List.getD_eq_getElem?_getD, List.getElem?_eq_getElem h]; rfl
theorem nodup_inj {α : Type} {l : List α} (h : l.Nodup) {i j : Nat} (hi : i < l.length) (hj : j < l.length) (e : l[i] = l[j]) : i = j := by
  have h : l.Pairwise (· ≠ ·) := h
  rw [List.pairwise_iff_getElem] at h
  rcases Nat.lt_trichotomy i j with q | q | q
  · exact absurd e (h i j hi hj q)
  · exact q
  · exact absurd e.symm (h j i hj hi q)
theorem rngD_from (lo : Int) : ∀ n, rngD lo n = (List.range n).map fun (i : Nat) => D.int (lo + (i : Int))
  | 0 => rfl
  | n + 1 => by
    rw [rngD, rngD_from (lo + 1) n, List.range_succ_eq_map, List.map_cons, List.map_map]
    simp only [Int.natCast_zero, Int.add_zero, List.cons.injEq, true_and]
    apply List.map_congr_left
    intro a _
    simp only [Function.comp, D.int.injEq]
    omega
theorem rngD_eq (n : Nat) : rngD 0 n = (List.range n).map fun (i : Nat) => D.int (i : Int) := by
  rw [rngD_from]
  apply List.map_congr_left
  intro a _
  simp
/-- a for: an invariant over what has been walked -/
theorem forL_fold {α : Type} (i : α → D) {tg : CT} {body : Env → St → RS} (I : List α → Env → St → Prop) : ∀ (l pre : List α) (ρ : Env) (st : St), I pre ρ st →
    (∀ pre' a r ρ st, pre ++ l = pre' ++ a :: r → I pre' ρ st → ∃ ρ1 st1 ρ2 st2, asgT tg (i a) ρ st = some (ρ1, st1) ∧ body ρ1 st1 = .nx ρ2 st2 ∧ I (pre' ++ [a]) ρ2 st2) →
    ∃ ρ' st', forL tg body (l.map i) ρ st = .nx ρ' st' ∧ I (pre ++ l) ρ' st'
  | [], pre, ρ, st, h0, _ => ⟨ρ, st, rfl, by simpa using h0⟩
  | a :: r, pre, ρ, st, h0, hs => by
    obtain ⟨ρ1, st1, ρ2, st2, h1, h2, h3⟩ := hs pre a r ρ st rfl h0
    obtain ⟨ρ', st', e, h4⟩ := forL_fold i I r (pre ++ [a]) ρ2 st2 h3 fun pre' b r' ρ st e => hs pre' b r' ρ st (by rw [← e]; simp)
    refine ⟨ρ', st', ?_, by simpa using h4⟩
    rw [List.map_cons, forL_nx h1 h2, e]
theorem forL_fold0 {α : Type} (i : α → D) {tg : CT} {body : Env → St → RS} (I : List α → Env → St → Prop) (l : List α) {ρ : Env} {st : St} (h0 : I [] ρ st)
    (hs : ∀ pre a r ρ st, l = pre ++ a :: r → I pre ρ st → ∃ ρ1 st1 ρ2 st2, asgT tg (i a) ρ st = some (ρ1, st1) ∧ body ρ1 st1 = .nx ρ2 st2 ∧ I (pre ++ [a]) ρ2 st2) :
    ∃ ρ' st', forL tg body (l.map i) ρ st = .nx ρ' st' ∧ I l ρ' st' := forL_fold i I l [] ρ st h0 fun pre' a r ρ st e => hs pre' a r ρ st (by simpa using e)
theorem lcMap2 {α : Type} (i : α → D) (g : α → List D) {tg : CT} {ρ : Env} {cond : Env → St → R Bool} {inner : Env → St → R (List D)} {st : St} : ∀ (l : List α),
    (∀ a ∈ l, ∃ ρ1, asgT tg (i a) ρ st = some (ρ1, st) ∧ cond ρ1 st = .ok true st ∧ inner ρ1 st = .ok (g a) st) → lcLoop2 tg ρ cond inner (l.map i) st = .ok (l.flatMap g) st
  | [], _ => rfl
  | a :: l, h => by
    obtain ⟨ρ1, h1, h2, h3⟩ := h a (List.mem_cons_self ..)
    have ih := lcMap2 i g l fun b hb => h b (List.mem_cons_of_mem _ hb)
    simp only [List.map_cons, lcLoop2, h1, h2, bindok, if_true, h3, ih, List.flatMap_cons]
/-! ### sorting -/
theorem insS_perm (x : List Nat) : ∀ l, (insS x l).Perm (x :: l)
  | [] => List.Perm.refl _
  | y :: r => by
    simp only [insS]
    split
    · exact ((insS_perm x r).cons y).trans (List.Perm.swap ..)
    · exact List.Perm.refl _
theorem sortS_perm : ∀ l, (sortS l).Perm l
  | [] => List.Perm.refl _
  | x :: r => (insS_perm x _).trans ((sortS_perm r).cons x)
theorem insS_sorted (x : List Nat) : ∀ l, l.Pairwise (· ≤ ·) → (insS x l).Pairwise (· ≤ ·)
  | [], _ => by simp [insS]
  | y :: r, h => by
    simp only [insS]
    rw [List.pairwise_cons] at h
    split
    · rename_i q
      rw [List.pairwise_cons]
      refine ⟨fun z hz => ?_, insS_sorted x r h.2⟩
      rcases List.mem_cons.mp ((insS_perm x r).mem_iff.mp hz) with rfl | hz
      · exact List.le_of_lt q
      · exact h.1 z hz
    · rename_i q
      have q := List.not_lt.mp q
      rw [List.pairwise_cons]
      refine ⟨fun z hz => ?_, List.pairwise_cons.mpr h⟩
      rcases List.mem_cons.mp hz with rfl | hz
      · exact q
      · exact List.le_trans q (h.1 z hz)
theorem sortS_sorted : ∀ l, (sortS l).Pairwise (· ≤ ·)
  | [] => List.Pairwise.nil
  | x :: r => insS_sorted x _ (sortS_sorted r)
theorem sortS_length (l : List (List Nat)) : (sortS l).length = l.length := (sortS_perm l).length_eq
theorem sortS_nodup {l : List (List Nat)} (h : l.Nodup) : (sortS l).Nodup := (sortS_perm l).nodup_iff.mpr h
theorem sortS_unique {l s : List (List Nat)} (hs : s.Pairwise (· ≤ ·)) (hp : l.Perm s) : sortS l = s :=
  List.Perm.eq_of_pairwise (fun _ _ _ _ => List.le_antisymm) (sortS_sorted l) hs ((sortS_perm l).trans hp)
theorem pw_lt_of {l : List (List Nat)} (h1 : l.Pairwise (· ≤ ·)) (h2 : l.Nodup) : l.Pairwise (· < ·) := by
  have h3 : l.Pairwise (· ≠ ·) := h2
  refine (h1.and h3).imp ?_
  intro a b h
  rcases Classical.em (a < b) with q | q
  · exact q
  · exact absurd (List.le_antisymm h.1 (List.not_lt.mp q)) h.2
theorem nodup_of_lt {l : List (List Nat)} (h : l.Pairwise (· < ·)) : l.Nodup := by
  refine List.Pairwise.imp ?_ h
  intro a b q e
  subst e
  exact List.lt_irrefl _ q
theorem allStr_map : ∀ l : List (List Nat), allStr (l.map .str) = some l
  | [] => rfl
  | a :: l => by simp [allStr, allStr_map l]
theorem bSorted_strs (l : List (List Nat)) (h : l.length < 64) : bSorted [.tup (l.map .str)] = some (.lst ((sortS l).map .str)) := by simp [bSorted, seqD, allStr_map, h]
theorem bSorted_strs' (l : List (List Nat)) (h : l.length < 64) : bSorted [.lst (l.map .str)] = some (.lst ((sortS l).map .str)) := by simp [bSorted, seqD, allStr_map, h]
theorem idxD_str (x : List Nat) : ∀ (l : List (List Nat)) (k : Nat), x ∈ l → idxD (.str x) (l.map .str) k = some (l.idxOf x + k)
  | [], _, h => by cases h
  | y :: r, k, h => by
    simp only [List.map_cons, idxD, eqD_str, List.idxOf_cons]
    by_cases q : y = x
    · subst q; simp
    · have : (y == x) = false := by simpa using q
      have h' : x ∈ r := by
        rcases List.mem_cons.mp h with e | e
        · exact absurd e.symm q
        · exact e
      rw [this, idxD_str x r (k + 1) h']
      simp; omega
theorem index_strs (x : List Nat) (l : List (List Nat)) (h : x ∈ l) : mthD .index (.tup (l.map .str)) [.str x] = some (.int (l.idxOf x : Nat)) := by
  have e : (flat (.str x) && (l.map D.str).all flat) = true := by rw [flat_strs]; rfl
  show (if (flat (.str x) && (l.map D.str).all flat) = true then _ else _) = _
  rw [if_pos e, idxD_str x l 0 h]
  rfl
/-! ### bits -/
theorem hasAt_nat (p i : Nat) : (Builtin.bitAnd ((p : Int) / 2 ^ i) 1 == 1) = p.testBit i := by
  rw [PyProof.Rows.bitAnd_m1, Nat.testBit_eq_decide_div_mod_eq]
  have : ((p : Int) / 2 ^ i % 2) = ((p / 2 ^ i % 2 : Nat) : Int) := by simp
  rw [this]
  by_cases h : p / 2 ^ i % 2 = 1
  · simp [h]
  · have : ¬ ((p / 2 ^ i % 2 : Nat) : Int) = 1 := by omega
    simp only [h, decide_false]
    rw [beq_eq_false_iff_ne]
    exact this
theorem testBit_add_pow {s a : Nat} (h : s.testBit a = false) (j : Nat) : (2 ^ a + s).testBit j = (decide (j = a) || s.testBit j) := by
  rcases Nat.lt_trichotomy j a with q | q | q
  · rw [Nat.testBit_two_pow_add_gt q]
    have : ¬ j = a := by omega
    simp [this]
  · subst q
    rw [Nat.testBit_two_pow_add_eq, h]; simp
  · have e1 : ∀ x : Nat, x.testBit j = (x / 2 ^ (a + 1)).testBit (j - (a + 1)) := fun x => by
      rw [Nat.testBit_div_two_pow]; congr 1; omega
    have e2 : (2 ^ a + s) / 2 ^ (a + 1) = s / 2 ^ (a + 1) := by
      rw [Nat.testBit_eq_decide_div_mod_eq] at h
      have h : ¬ s / 2 ^ a % 2 = 1 := by simpa using h
      rw [Nat.pow_succ, ← Nat.div_div_eq_div_mul, ← Nat.div_div_eq_div_mul, Nat.add_comm, Nat.add_div_right _ (Nat.two_pow_pos a)]
      omega
    rw [e1, e2, ← e1]
    have : ¬ j = a := by omega
    simp [this]
theorem testBit_sum : ∀ (l : List Nat), l.Nodup → ∀ j, ((l.map (2 ^ ·)).sum).testBit j = decide (j ∈ l)
  | [], _, j => by simp
  | a :: l, h, j => by
    rw [List.nodup_cons] at h
    rw [List.map_cons, List.sum_cons, testBit_add_pow (by rw [testBit_sum l h.2]; simpa using h.1), testBit_sum l h.2]
    simp [List.mem_cons]
def at0 (l : List Nat) (i : Nat) : Nat := l.getD i 0
def atN (l : List D) (i : Nat) : D := l.getD i .non
theorem at0_eq {l : List Nat} {i : Nat} (h : i < l.length) : at0 l i = l[i] := getD_at _ 0 h
theorem atN_eq {l : List D} {i : Nat} (h : i < l.length) : atN l i = l[i] := getD_at _ 0 h
theorem at_0 {α : Type} (x : α) (xs : List α) : atD (x :: xs) 0 = some x := by simp [atD, ixD]
theorem at_nat {α : Type} (l : List α) (i : Nat) (h : i < l.length) : atD l (i : Int) = some l[i] := by
  have h1 : (i : Int) < l.length := by omega
  simp [atD, ixD, h1, h]
theorem at_1 {α : Type} (x y : α) (xs : List α) : atD (x :: y :: xs) 1 = some y := at_nat (x :: y :: xs) 1 (by simp)
theorem at_2 {α : Type} (x y z : α) (xs : List α) : atD (x :: y :: z :: xs) 2 = some z := at_nat (x :: y :: z :: xs) 2 (by simp)
theorem natSum (l : List Nat) : ((l.map fun i => ((i : Nat) : Int)).sum) = ((l.sum : Nat) : Int) := by
  induction l with
  | nil => rfl
  | cons a l ih => simp [ih]
/-- a place told by its own bits, moved -/
def plc (old : List Nat) (p : Nat) : Nat := (((List.range old.length).filter fun i => p.testBit i).map fun i => 2 ^ at0 old i).sum
theorem plc_bit {old : List Nat} (h : old.Nodup) (p j : Nat) : (plc old p).testBit j = true ↔ ∃ i, i < old.length ∧ p.testBit i = true ∧ at0 old i = j := by
  have e : plc old p = ((((List.range old.length).filter fun i => p.testBit i).map fun i => at0 old i).map (2 ^ ·)).sum := by
    rw [List.map_map]; rfl
  rw [e, testBit_sum]
  · simp only [decide_eq_true_eq, List.mem_map, List.mem_filter, List.mem_range]
    constructor
    · rintro ⟨i, ⟨h1, h2⟩, h3⟩; exact ⟨i, h1, h2, h3⟩
    · rintro ⟨i, h1, h2, h3⟩; exact ⟨i, ⟨h1, h2⟩, h3⟩
  · have hn : ((List.range old.length).filter fun i => p.testBit i).Nodup := List.Pairwise.filter _ List.nodup_range
    rw [List.nodup_iff_pairwise_ne, List.pairwise_map]
    refine List.Pairwise.imp_of_mem ?_ hn
    intro a b ha hb hab e
    simp only [List.mem_filter, List.mem_range] at ha hb
    rw [at0_eq ha.1, at0_eq hb.1] at e
    exact hab (nodup_inj h ha.1 hb.1 e)
theorem plc_lt {old : List Nat} {n p : Nat} (h : old.Nodup) (hb : ∀ x ∈ old, x < n) : plc old p < 2 ^ n := by
  apply Nat.lt_pow_two_of_testBit
  intro j hj
  rcases Bool.eq_false_or_eq_true ((plc old p).testBit j) with q | q
  · obtain ⟨i, h1, _, h3⟩ := (plc_bit h p j).mp q
    rw [at0_eq h1] at h3
    have := hb _ (List.getElem_mem h1)
    omega
  · exact q
/-- there and back -/
theorem plc_back {old back : List Nat} {n p : Nat} (h : old.Nodup) (h2 : back.Nodup) (hl : old.length = n) (hl2 : back.length = n) (hp : p < 2 ^ n) (hb : ∀ k, k < n → at0 back k < n ∧ at0 old (at0 back k) = k) :
    plc old (plc back p) = p := by
  apply Nat.eq_of_testBit_eq
  intro j
  rw [Bool.eq_iff_iff, plc_bit h]
  constructor
  · rintro ⟨i, h1, h3, h4⟩
    obtain ⟨k, k1, k2, k3⟩ := (plc_bit h2 p i).mp h3
    have := hb k (by omega)
    rw [k3, h4] at this
    rw [this.2]; exact k2
  · intro q
    have hj : j < n := by
      rcases Nat.lt_or_ge j n with q' | q'
      · exact q'
      · rw [Nat.testBit_lt_two_pow (Nat.lt_of_lt_of_le hp (Nat.pow_le_pow_right (by omega) q'))] at q
        cases q
    refine ⟨at0 back j, by rw [hl]; exact (hb j hj).1, (plc_bit h2 p _).mpr ⟨j, by omega, q, rfl⟩, (hb j hj).2⟩
end DV
end

section
set_option linter.all false
set_option maxRecDepth 100000
set_option maxHeartbeats 2000000
set_option backward.isDefEq.respectTransparency false
/-! PL3: repr of nice data. -/
namespace DV
open PySem PyProof.Rows
theorem reprChar_lt {q c x : Nat} (hq : q = 34 ∨ q = 39) (hc : c < 127) (hx : x ∈ PySem.Builtin.Str.reprChar q c) : x < 127 := by
  have key : ∀ c : Fin 127, ((PySem.Builtin.Str.reprChar 34 c.val).all fun x => decide (x < 127)) = true ∧ ((PySem.Builtin.Str.reprChar 39 c.val).all fun x => decide (x < 127)) = true := by decide +kernel
  have := key ⟨c, hc⟩
  rcases hq with rfl | rfl
  · exact of_decide_eq_true (List.all_eq_true.mp this.1 x hx)
  · exact of_decide_eq_true (List.all_eq_true.mp this.2 x hx)
theorem reprQuote_cases (x : Str) : PySem.reprQuote x = 34 ∨ PySem.reprQuote x = 39 := by
  unfold PySem.reprQuote
  split
  · exact .inl rfl
  · exact .inr rfl
theorem foldl_mem {q c : Nat} : ∀ (l : List Nat) (acc : Array Nat), c ∈ l.foldl (fun out d => out ++ (PySem.Builtin.Str.reprChar q d).toArray) acc → c ∈ acc ∨ ∃ d ∈ l, c ∈ PySem.Builtin.Str.reprChar q d
  | [], acc, h => .inl h
  | d :: l, acc, h => by
    rw [List.foldl_cons] at h
    rcases foldl_mem l _ h with h | ⟨e, he, h⟩
    · rcases Array.mem_append.mp h with h | h
      · exact .inl h
      · exact .inr ⟨d, List.mem_cons_self .., by simpa using h⟩
    · exact .inr ⟨e, List.mem_cons_of_mem _ he, h⟩
theorem reprText_lt {x : List Nat} (h : ∀ c ∈ x, c < 127) : ∀ c ∈ (reprText ⟨x.toArray⟩).cps.toList, c < 127 := by
  intro c hc
  have hq := reprQuote_cases ⟨x.toArray⟩
  have hq2 : PySem.reprQuote ⟨x.toArray⟩ < 127 := by rcases hq with h | h <;> rw [h] <;> omega
  simp only [reprText, Array.mem_toList_iff, Array.mem_push] at hc
  rcases hc with hc | hc
  · rw [← Array.foldl_toList] at hc
    rcases foldl_mem _ _ hc with hc | ⟨d, hd, hc⟩
    · have : c = PySem.reprQuote ⟨x.toArray⟩ := by simpa using hc
      omega
    · exact reprChar_lt hq (h d (by simpa using hd)) hc
  · omega
theorem intText_lt (i : Int) : ∀ c ∈ (PyData.int i).shown.cps.toList, c < 127 := by
  intro c hc
  rcases Nat.lt_or_ge c 127 with q | q
  · exact q
  · exact absurd hc (PyProof.Rows.shown_int_free' ⟨by omega, by omega⟩ i)
theorem join_lt {ts : List Str} (h : ∀ t ∈ ts, ∀ c ∈ t.cps.toList, c < 127) : ∀ c ∈ (Str.join ", " ts).cps.toList, c < 127 := by
  intro c hc
  rw [mem_join] at hc
  rcases hc with ⟨t, ht, hc⟩ | ⟨_, hc⟩
  · exact h t ht c hc
  · rw [signs_sep] at hc
    simp only [List.mem_cons, List.not_mem_nil, or_false] at hc
    omega
mutual
theorem shown_lt : ∀ d : D, nice d = true → ∀ c ∈ (pyD d).shown.cps.toList, c < 127
  | .non, _ => by simp only [pyD, PyData.shown]; decide
  | .bl true, _ => by simp only [pyD, PyData.shown]; decide
  | .bl false, _ => by simp only [pyD, PyData.shown]; decide
  | .int i, _ => by simp only [pyD]; exact intText_lt i
  | .str x, h => by
    simp only [pyD, PyData.shown]
    simp only [nice, Bool.and_eq_true, List.all_eq_true, decide_eq_true_eq] at h
    exact reprText_lt fun c hc => (h.2 c hc).2
  | .tup xs, h => by
    simp only [pyD, PyData.shown, tupleText]
    have ih := showns_lt xs (by simpa [nice] using h)
    intro c hc
    rw [mem_cps_append, mem_cps_append, signs_lparen] at hc
    rcases hc with (hc | hc) | hc
    · have : c = 40 := by simpa using hc
      omega
    · exact join_lt ih c hc
    · revert hc
      split
      · revert c; decide
      · revert c; decide
  | .lst xs, h => by
    simp only [pyD, PyData.shown]
    have ih := showns_lt xs (by simpa [nice] using h)
    intro c hc
    rw [listText_eq_join, mem_cps_append, mem_cps_append, signs_lbrack, signs_rbrack] at hc
    rcases hc with (hc | hc) | hc
    · have : c = 91 := by simpa using hc
      omega
    · exact join_lt ih c hc
    · have : c = 93 := by simpa using hc
      omega
  | .fro _, h => by simp [nice] at h
  | .dic _ _, h => by simp [nice] at h
  | .ref _, h => by simp [nice] at h
  | .fn _, h => by simp [nice] at h
  | .clo _ _, h => by simp [nice] at h
theorem showns_lt : ∀ xs : List D, nices xs = true → ∀ t ∈ PyData.shownAll (pyDs xs), ∀ c ∈ t.cps.toList, c < 127
  | [], _ => by intro t ht; simp [pyDs, PyData.shownAll] at ht
  | x :: r, h => by
    simp only [nices, Bool.and_eq_true] at h
    intro t ht
    simp only [pyDs, PyData.shownAll, List.mem_cons] at ht
    rcases ht with rfl | ht
    · exact shown_lt x h.1
    · exact showns_lt r h.2 t ht
end
mutual
/-- how much there is -/
def wtD : D → Nat
  | .str x => x.length + 1
  | .tup xs => wtDs xs + 1
  | .lst xs => wtDs xs + 1
  | _ => 205
def wtDs : List D → Nat
  | [] => 0
  | x :: r => wtD x + 1 + wtDs r
end
theorem log2_lt60 {i : Int} (h1 : -(10 ^ 60) < i) (h2 : i < 10 ^ 60) : i.natAbs.log2 < 200 := by
  by_cases h : i.natAbs = 0
  · rw [h]; decide
  · rw [Nat.log2_lt h]
    have : (10 ^ 60 : Int) < 2 ^ 200 := by decide
    omega
theorem int_len {i : Int} (h1 : -(10 ^ 60) < i) (h2 : i < 10 ^ 60) : (PyData.shown (.int i)).length ≤ 201 := by
  have h := int_text_length_le (k := 200) (by omega) (log2_lt60 h1 h2)
  rw [PyData.shown_int]
  show (Str.ofString (toString i)).cps.size ≤ _
  rw [← Array.length_toList, signs_ofString, List.length_map, String.length_toList]
  omega
mutual
theorem nice_weight : ∀ d : D, nice d = true → (pyD d).weight ≤ wtD d
  | .non, _ => by simp [pyD, PyData.weight]
  | .bl _, _ => by simp [pyD, PyData.weight]
  | .int i, h => by
    simp only [nice, Bool.and_eq_true, decide_eq_true_eq] at h
    have := log2_lt60 h.1 h.2
    simp only [pyD, PyData.weight, wtD]
    split <;> omega
  | .str x, _ => by simp [pyD, PyData.weight, wtD]
  | .tup xs, h => by
    have := nices_weight xs (by simpa [nice] using h)
    simp only [pyD, PyData.weight, wtD]; omega
  | .lst xs, h => by
    have := nices_weight xs (by simpa [nice] using h)
    simp only [pyD, PyData.weight, wtD]; omega
  | .fro _, h => by simp [nice] at h
  | .dic _ _, h => by simp [nice] at h
  | .ref _, h => by simp [nice] at h
  | .fn _, h => by simp [nice] at h
  | .clo _ _, h => by simp [nice] at h
theorem nices_weight : ∀ xs : List D, nices xs = true → PyData.weightAll (pyDs xs) ≤ wtDs xs
  | [], _ => by simp [pyDs, PyData.weightAll, wtDs]
  | x :: r, h => by
    simp only [nices, Bool.and_eq_true] at h
    have := nice_weight x h.1
    have := nices_weight r h.2
    simp only [pyDs, PyData.weightAll, wtDs]; omega
end
mutual
theorem nice_leaves : ∀ d : D, nice d = true → (pyD d).leavesShort 201 = true ∧ (pyD d).showable = true ∧ dat d = true
  | .non, _ => ⟨rfl, rfl, rfl⟩
  | .bl _, _ => ⟨rfl, rfl, rfl⟩
  | .int i, h => by
    simp only [nice, Bool.and_eq_true, decide_eq_true_eq] at h
    have := log2_lt60 h.1 h.2
    refine ⟨decide_eq_true (int_len h.1 h.2), ?_, rfl⟩
    simp only [pyD, PyData.showable, decide_eq_true_eq]; omega
  | .str x, h => by
    simp only [nice, Bool.and_eq_true, decide_eq_true_eq, List.all_eq_true] at h
    refine ⟨?_, rfl, ?_⟩
    · simp only [pyD, PyData.leavesShort, List.all_eq_true, decide_eq_true_eq]
      intro c hc
      have := (h.2 c (by simpa using hc)).2
      omega
    · simp only [dat, PyData.strOk]
      rw [← Array.all_toList, List.all_eq_true]
      intro c hc
      have := (h.2 c (by simpa using hc)).2
      simp; omega
  | .tup xs, h => by
    have := nices_leaves xs (by simpa [nice] using h)
    simp only [pyD, PyData.leavesShort, PyData.showable, dat]; exact this
  | .lst xs, h => by
    have := nices_leaves xs (by simpa [nice] using h)
    simp only [pyD, PyData.leavesShort, PyData.showable, dat]; exact this
  | .fro _, h => by simp [nice] at h
  | .dic _ _, h => by simp [nice] at h
  | .ref _, h => by simp [nice] at h
  | .fn _, h => by simp [nice] at h
  | .clo _ _, h => by simp [nice] at h
theorem nices_leaves : ∀ xs : List D, nices xs = true → PyData.leavesShortAll 201 (pyDs xs) = true ∧ PyData.showableAll (pyDs xs) = true ∧ dats xs = true
  | [], _ => ⟨rfl, rfl, rfl⟩
  | x :: r, h => by
    simp only [nices, Bool.and_eq_true] at h
    have h1 := nice_leaves x h.1
    have h2 := nices_leaves r h.2
    simp only [pyDs, PyData.leavesShortAll, PyData.showableAll, dats, Bool.and_eq_true]
    exact ⟨⟨h1.1, h2.1⟩, ⟨h1.2.1, h2.2.1⟩, h1.2.2, h2.2.2⟩
end
/-- repr's text -/
def rep (d : D) : List Nat := (pyD d).shown.cps.toList
theorem nice_shp {d : D} (h : nice d = true) (hd : dep d ≤ 64) : shp d = true := by
  simp [shp, (nice_leaves d h).2.2, hd]
theorem repr_nice {d : D} (h : nice d = true) (hd : dep d ≤ 64) (hw : wtD d ≤ 80000) : bRepr [d] = some (.str (rep d)) := by
  have h1 := nice_leaves d h
  have h2 := PyData.shown_le 201 (by omega) (pyD d) h1.1
  have h3 := nice_weight d h
  have h4 : (pyD d).shown.length ≤ line := by
    have : line = 16777216 := rfl
    have : (201 + 2) * (pyD d).weight ≤ 203 * 80000 := Nat.mul_le_mul (by omega) (by omega)
    omega
  have h5 := nice_shp h hd
  simp [bRepr, h5, h1.2.1, h4, rep]
theorem rep_dat {d : D} (h : nice d = true) : dat (.str (rep d)) = true := by
  simp only [dat, PyData.strOk]
  rw [← Array.all_toList, List.all_eq_true]
  intro c hc
  have := shown_lt d h c (by simpa [rep] using hc)
  simp; omega
end DV
end

section
set_option linter.all false
set_option maxRecDepth 100000
namespace K84
open DV
def g_is_whole : Nat := 0
def g_is_number : Nat := 1
def g_is_tuple_of : Nat := 2
def g_wrong_at : Nat := 3
def g_wrong_for_all : Nat := 4
def g_is_above_last : Nat := 5
def g_is_word : Nat := 6
def g_is_name : Nat := 7
def g_wrong_things : Nat := 8
def g_is_let_number : Nat := 9
def g_is_game_form : Nat := 10
def g_lot_number : Nat := 11
def g_has_at : Nat := 12
def g_renamed_in : Nat := 13
def g_orders_of : Nat := 14
def g_names_to : Nat := 15
def g_check_game : Nat := 16
def g_check_games : Nat := 17
def g_renamed : Nat := 18
def g_are_alike : Nat := 19
def g_alike_names : Nat := 20
def g_selves : Nat := 21
def g__law_well : Nat := 22
def g__law_draw : Nat := 23
def g__law_of : Nat := 24
def g__law_same : Nat := 25
def g__law_names : Nat := 26
def g__law_sets : Nat := 27
def g__law_game : Nat := 28
def g__law_odd_game : Nat := 29
def g__law_refusal : Nat := 30
def g__law_right : Nat := 31
def g_law : Nat := 32
def m_wrong_things_0 : Nat := 0
def m_renamed_0 : Nat := 1
def m__law_right_0 : Nat := 2
def m__law_right_1 : Nat := 3
def m__law_right_2 : Nat := 4
def m__law_right_3 : Nat := 5
def m__law_right_4 : Nat := 6
def m__law_right_5 : Nat := 7
def k_LETTERS : Nat := 0
def k_WORDS : Nat := 1
def k_MOST_IN_NAME : Nat := 2
def k_MOST_THINGS : Nat := 3
def k_MOST_NUMBER : Nat := 4
def k_alike_names : Nat := 5
def k_are_alike : Nat := 6
def e_PickError : Nat := 0
def e_InvalidGame : Nat := 1
def e_InvalidNames : Nat := 2
def e_ValueError : Nat := 3
def w_wrong_at_0 : CS := (.cons (.ite (.or (.and (.cmp .isn (.var 1) (.con .non)) (.cmp .ge (.var 3) (.var 1))) (.not (.callv 2 (.cons (.var 4) (.cons (.slc (.var 0) .nil (.cons (.var 3) .nil)) .nil)) .nil none))) (.cons (.ret (.lst (.cons (.var 3) .nil))) .nil) .nil) .nil)
def w_renamed_in_0 : CS := (.cons (.app 5 (.sub (.sub (.var 0) (.con (.int (1)))) (.blt .sum (.cons (.comp (.nm 7) (.irng (.blt .len (.cons (.var 4) .nil))) (.cons (.call g_has_at (.cons (.var 3) (.cons (.var 7) .nil)) .nil) .nil) (.bin .shl (.con (.int (1))) (.sub (.var 2) (.var 7))) [7]) .nil)))) .nil)
def w_orders_of_0 : CS := (.cons (.asg 1 (.comp2 (.nm 3) (.iseq (.var 1)) .nil (.nm 4) (.iseq (.var 0)) (.cons (.cmp .nin (.var 4) (.var 3)) .nil) (.bin .add (.var 3) (.tup (.cons (.var 4) .nil))) [3, 4] [4])) .nil)
def w_renamed_0 : CS := (.cons (.rse e_InvalidNames (.cons (.var 2) .nil)) .nil)
def w_alike_names_0 : CS := (.cons (.ret (.var 2)) .nil)
def w__law_well_0 : CS := (.cons (.asg 2 (.bin .mod (.blt .int (.cons (.bin .add (.bin .add (.bin .mul (.var 2) (.con (.int (45281)))) (.bin .mod (.blt .int (.cons (.var 3) .nil)) (.con (.int (2147483549))))) (.con (.int (19)))) .nil)) (.con (.int (2147483563))))) .nil)
def w__law_names_1 : CS := (.cons (.asg 6 (.bin .add (.var 6) (.call g__law_of (.cons (.var 0) (.cons (.var 5) .nil)) .nil))) .nil)
def w__law_names_0 : CS := (.cons (.asg 6 (.con (.str []))) (.cons (.for_ (.nm 7) (.irng (.call g__law_of (.cons (.var 0) (.cons (.tup (.cons (.con (.int (0))) (.cons (.con (.int (1))) (.cons (.con (.int (2))) (.cons (.con (.int (3))) (.cons (.con (.int (7))) .nil)))))) .nil)) .nil)) w__law_names_1) (.cons (.asg 6 (.bin .add (.var 6) (.sub (.var 5) (.var 3)))) (.cons (.app 4 (.ife (.cmp .in_ (.var 6) (.var 2)) (.bin .add (.con (.str [113])) (.sub (.var 5) (.var 3))) (.var 6))) .nil))))
def w__law_sets_0 : CS := (.cons (.asg 1 (.bin .add (.var 1) (.comp (.nm 3) (.iseq (.var 1)) .nil (.bin .add (.var 3) (.tup (.cons (.var 2) .nil))) [3]))) .nil)
def w__law_right_0 : CS := (.cons (.par [4] [true] (.cons (.lst (.cons (.callm g__law_refusal .nil m__law_right_2 [5, 8]) .nil)) .nil)) (.cons (.app 4 (.callm g__law_refusal .nil m__law_right_3 [5, 1, 8])) (.cons (.app 4 (.callm g__law_refusal .nil m__law_right_4 [5, 1])) (.cons (.frz 4) (.cons (.ite (.cmp .ne (.var 4) (.lst (.cons (.lst (.cons (.con (.str [103, 97, 109, 101])) (.cons (.blt .repr (.cons (.var 8) .nil)) .nil))) (.cons (.lst (.cons (.con (.str [103, 97, 109, 101])) (.cons (.blt .repr (.cons (.var 8) .nil)) .nil))) (.cons (.lst (.cons (.con (.str [108, 101, 116])) .nil)) .nil))))) (.cons (.ret (.con (.bl false))) .nil) .nil) .nil)))))
def b_is_whole : CS := (.cons (.ret (.and (.isi .int (.var 0)) (.not (.isi .bool (.var 0))))) .nil)
def b_is_number : CS := (.cons (.ite (.or (.not (.call g_is_whole (.cons (.var 0) .nil) .nil)) (.and (.cmp .isn (.var 1) (.con .non)) (.cmp .lt (.var 0) (.var 1)))) (.cons (.ret (.con (.bl false))) .nil) .nil) (.cons (.ret (.or (.cmp .is (.var 2) (.con .non)) (.cmp .le (.var 0) (.var 2)))) .nil))
def b_is_tuple_of : CS := (.cons (.ret (.and (.isi .tuple (.var 0)) (.cmp .eq (.blt .len (.cons (.var 0) .nil)) (.var 1)))) .nil)
def b_wrong_at : CS := (.cons (.ite (.not (.isi .tuple (.var 0))) (.cons (.ret (.lst (.cons (.con .non) .nil))) .nil) .nil) (.cons (.for_ (.cons (.nm 3) (.cons (.nm 4) .nil)) (.ienum (.var 0)) w_wrong_at_0) (.cons (.ret (.lst .nil)) .nil)))
def b_wrong_for_all : CS := (.cons (.ret (.ife (.call g_is_tuple_of (.cons (.var 0) (.cons (.var 1) .nil)) .nil) (.call g_wrong_at (.cons (.var 0) (.cons (.var 1) (.cons (.var 2) .nil))) .nil) (.lst (.cons (.con .non) .nil)))) .nil)
def b_is_above_last : CS := (.cons (.ret (.or (.cmp .eq (.var 1) (.tup .nil)) (.cmp .lt (.sub (.var 1) (.neg (.con (.int (1))))) (.var 0)))) .nil)
def b_is_word : CS := (.cons (.ret (.and (.isi .str (.var 0)) (.and (.cmp .ne (.var 0) (.con (.str []))) (.blt .all (.cons (.comp (.nm 1) (.iseq (.var 0)) .nil (.cmp .in_ (.var 1) (.glo k_LETTERS)) [1]) .nil))))) .nil)
def b_is_name : CS := (.cons (.ret (.and (.call g_is_word (.cons (.var 0) .nil) .nil) (.and (.cmp .le (.blt .len (.cons (.var 0) .nil)) (.glo k_MOST_IN_NAME)) (.cmp .nin (.var 0) (.glo k_WORDS))))) .nil)
def b_wrong_things : CS := (.cons (.ret (.callm g_wrong_at (.cons (.var 0) (.cons (.glo k_MOST_THINGS) .nil)) m_wrong_things_0 [])) .nil)
def b_is_let_number : CS := (.cons (.ret (.call g_is_number (.cons (.var 0) (.cons (.bin .sub (.con (.int (0))) (.glo k_MOST_NUMBER)) (.cons (.glo k_MOST_NUMBER) .nil))) .nil)) .nil)
def b_is_game_form : CS := (.cons (.ite (.or (.not (.call g_is_tuple_of (.cons (.var 0) (.cons (.con (.int (2))) .nil)) .nil)) (.cmp .ne (.call g_wrong_things (.cons (.sub (.var 0) (.con (.int (0)))) .nil) .nil) (.lst .nil))) (.cons (.ret (.con (.bl false))) .nil) .nil) (.cons (.ite (.not (.call g_is_tuple_of (.cons (.sub (.var 0) (.con (.int (1)))) (.cons (.call g_lot_number (.cons (.sub (.var 0) (.con (.int (0)))) .nil) .nil) .nil)) .nil)) (.cons (.ret (.con (.bl false))) .nil) .nil) (.cons (.ret (.blt .all (.cons (.comp (.nm 1) (.iseq (.sub (.var 0) (.con (.int (1))))) .nil (.call g_is_let_number (.cons (.var 1) .nil) .nil) [1]) .nil))) .nil)))
def b_lot_number : CS := (.cons (.ret (.bin .shl (.con (.int (1))) (.blt .len (.cons (.var 0) .nil)))) .nil)
def b_has_at : CS := (.cons (.ret (.cmp .eq (.bin .and (.bin .shr (.var 0) (.var 1)) (.con (.int (1)))) (.con (.int (1))))) .nil)
def b_renamed_in : CS := (.cons (.par [4, 5] [false, true] (.cons (.blt .tuple (.cons (.blt .sorted (.cons (.var 1) .nil)) .nil)) (.cons (.lst .nil) .nil))) (.cons (.asg 2 (.comp (.nm 6) (.iseq (.var 4)) .nil (.mth .index (.var 1) (.cons (.var 6) .nil)) [6])) (.cons (.for_ (.nm 3) (.irng (.call g_lot_number (.cons (.var 4) .nil) .nil)) w_renamed_in_0) (.cons (.frz 5) (.cons (.ret (.tup (.cons (.var 4) (.cons (.blt .tuple (.cons (.var 5) .nil)) .nil)))) .nil)))))
def b_orders_of : CS := (.cons (.asg 1 (.lst (.cons (.tup .nil) .nil))) (.cons (.for_ (.nm 2) (.iseq (.var 0)) w_orders_of_0) (.cons (.ret (.var 1)) .nil)))
def b_names_to : CS := (.cons (.ite (.cmp .ne (.blt .len (.cons (.sub (.var 0) (.con (.int (0)))) .nil)) (.blt .len (.cons (.sub (.var 1) (.con (.int (0)))) .nil))) (.cons (.ret (.lst .nil)) .nil) .nil) (.cons (.ret (.comp (.nm 2) (.iseq (.call g_orders_of (.cons (.sub (.var 1) (.con (.int (0)))) .nil) .nil)) (.cons (.cmp .eq (.call g_renamed_in (.cons (.var 0) (.cons (.var 2) .nil)) .nil) (.var 1)) .nil) (.var 2) [2])) .nil))
def b_check_game : CS := (.cons (.ite (.not (.call g_is_game_form (.cons (.var 0) .nil) .nil)) (.cons (.rse e_InvalidGame (.cons (.var 0) .nil)) .nil) .nil) .nil)
def b_check_games : CS := (.cons (.expr (.call g_check_game (.cons (.var 0) .nil) .nil)) (.cons (.expr (.call g_check_game (.cons (.var 1) .nil) .nil)) .nil))
def b_renamed : CS := (.cons (.expr (.call g_check_game (.cons (.var 0) .nil) .nil)) (.cons (.for_ (.nm 2) (.iseq (.callm g_wrong_for_all (.cons (.var 1) (.cons (.blt .len (.cons (.sub (.var 0) (.con (.int (0)))) .nil)) .nil)) m_renamed_0 [])) w_renamed_0) (.cons (.ret (.call g_renamed_in (.cons (.var 0) (.cons (.var 1) .nil)) .nil)) .nil)))
def b_are_alike : CS := (.cons (.expr (.call g_check_games (.cons (.var 0) (.cons (.var 1) .nil)) .nil)) (.cons (.ret (.cmp .ne (.call g_names_to (.cons (.var 0) (.cons (.var 1) .nil)) .nil) (.lst .nil))) .nil))
def b_alike_names : CS := (.cons (.expr (.call g_check_games (.cons (.var 0) (.cons (.var 1) .nil)) .nil)) (.cons (.for_ (.nm 2) (.iseq (.call g_names_to (.cons (.var 0) (.cons (.var 1) .nil)) .nil)) w_alike_names_0) (.cons (.ret (.con .non)) .nil)))
def b_selves : CS := (.cons (.expr (.call g_check_game (.cons (.var 0) .nil) .nil)) (.cons (.ret (.blt .len (.cons (.call g_names_to (.cons (.var 0) (.cons (.var 0) .nil)) .nil) .nil))) .nil))
def b__law_well : CS := (.cons (.asg 2 (.bin .add (.con (.int (130577))) (.bin .mul (.con (.int (7013))) (.var 1)))) (.cons (.for_ (.nm 3) (.iseq (.slc (.var 0) .nil (.cons (.con (.int (12))) .nil))) w__law_well_0) (.cons (.asg 4 (.ife (.cmp .lt (.var 1) (.blt .len (.cons (.var 0) .nil))) (.blt .int (.cons (.sub (.var 0) (.var 1)) .nil)) (.con (.int (0))))) (.cons (.asg 2 (.bin .mod (.blt .int (.cons (.bin .add (.bin .add (.bin .mul (.var 2) (.con (.int (41)))) (.bin .mul (.bin .mod (.blt .int (.cons (.var 4) .nil)) (.con (.int (2147483549)))) (.con (.int (15031))))) (.con (.int (5)))) .nil)) (.con (.int (2147483563))))) (.cons (.ret (.new (.cons (.ife (.or (.cmp .lt (.var 4) (.con (.int (0)))) (.cmp .ge (.var 4) (.bin .pow (.con (.int (10))) (.con (.int (15)))))) (.blt .abs (.cons (.var 4) .nil)) (.con (.int (0)))) (.cons (.var 2) (.cons (.con (.int (0))) .nil))))) .nil)))))
def b__law_draw : CS := (.cons (.ite (.cmp .gt (.sub (.var 0) (.con (.int (0)))) (.con (.int (0)))) (.cons (.asgt (.cons (.sub 0 0) (.cons (.nm 3) .nil)) (.blt .divmod (.cons (.sub (.var 0) (.con (.int (0)))) (.cons (.var 1) .nil)))) (.cons (.ret (.var 3)) .nil)) .nil) (.cons (.sets (.var 0) (.con (.int (2))) (.bin .add (.sub (.var 0) (.con (.int (2)))) (.con (.int (1))))) (.cons (.asg 2 (.bin .mod (.blt .int (.cons (.bin .add (.bin .add (.bin .mul (.sub (.var 0) (.con (.int (1)))) (.con (.int (40037)))) (.bin .mul (.con (.int (13001))) (.sub (.var 0) (.con (.int (2)))))) (.con (.int (7)))) .nil)) (.con (.int (2147483563))))) (.cons (.sets (.var 0) (.con (.int (1))) (.bin .mod (.blt .int (.cons (.bin .add (.bin .mul (.var 2) (.bin .add (.bin .mod (.blt .int (.cons (.var 2) .nil)) (.con (.int (5009)))) (.con (.int (20023))))) (.sub (.var 0) (.con (.int (2))))) .nil)) (.con (.int (2147483563))))) (.cons (.ret (.bin .mod (.blt .int (.cons (.bin .fdv (.sub (.var 0) (.con (.int (1)))) (.con (.int (1013)))) .nil)) (.var 1))) .nil)))))
def b__law_of : CS := (.cons (.ret (.sub (.var 1) (.call g__law_draw (.cons (.var 0) (.cons (.blt .len (.cons (.var 1) .nil)) .nil)) .nil))) .nil)
def b__law_same : CS := (.cons (.ite (.and (.isi .tuple (.var 0)) (.isi .tuple (.var 1))) (.cons (.ret (.and (.cmp .eq (.blt .len (.cons (.var 0) .nil)) (.blt .len (.cons (.var 1) .nil))) (.blt .all (.cons (.comp (.nm 2) (.irng (.blt .len (.cons (.var 0) .nil))) .nil (.call g__law_same (.cons (.sub (.var 0) (.var 2)) (.cons (.sub (.var 1) (.var 2)) .nil)) .nil) [2]) .nil)))) .nil) .nil) (.cons (.ite (.or (.cmp .ne (.isi .bool (.var 0)) (.isi .bool (.var 1))) (.cmp .ne (.isi .int (.var 0)) (.isi .int (.var 1)))) (.cons (.ret (.con (.bl false))) .nil) .nil) (.cons (.ret (.and (.cmp .eq (.isi .tuple (.var 0)) (.isi .tuple (.var 1))) (.cmp .eq (.var 0) (.var 1)))) .nil)))
def b__law_names : CS := (.cons (.par [4, 5] [true, false] (.cons (.lst .nil) (.cons (.con (.str [97, 98, 99, 100, 101, 102, 103, 104, 105, 106, 107, 108, 109, 110, 111, 112, 113, 114, 115, 116, 117, 118, 119, 120, 121, 122])) .nil))) (.cons (.asg 2 (.con (.str [97, 108, 108, 32, 97, 110, 121, 32, 97, 116, 32, 98, 101, 115, 116, 32, 98, 121, 32, 99, 104, 97, 110, 99, 101, 32, 102, 105, 114, 115, 116, 32, 102, 111, 114, 32, 103, 97, 109, 101, 32, 104, 97, 110, 100, 32, 105, 110, 32, 108, 101, 102, 116, 32, 108, 101, 115, 115, 32, 108, 111, 116, 32, 109, 111, 114, 101, 32, 110, 111, 110, 101, 32, 111, 102, 32, 111, 112, 101, 110, 32, 111, 114, 32, 111, 118, 101, 114, 32, 112, 105, 99, 107, 32, 112, 105, 99, 107, 101, 100]))) (.cons (.asg 2 (.bin .add (.mth .split (.var 2) (.cons (.con (.str [32])) .nil)) (.mth .split (.con (.str [114, 111, 119, 32, 115, 101, 99, 111, 110, 100, 32, 115, 104, 97, 114, 101, 32, 115, 116, 97, 110, 100, 32, 115, 116, 97, 114, 116, 32, 115, 119, 97, 121, 32, 116, 97, 98, 108, 101, 32, 116, 104, 105, 110, 103, 32, 116, 104, 105, 110, 103, 115, 32, 116, 111, 32, 116, 111, 115, 115, 32, 116, 114, 101, 101, 32, 116, 117, 114, 110, 32, 117, 110, 100, 111])) (.cons (.con (.str [32])) .nil)))) (.cons (.asg 2 (.bin .add (.var 2) (.lst (.cons (.con (.str [119, 105, 116, 104])) (.cons (.con (.str [119, 111, 114, 116, 104])) .nil))))) (.cons (.for_ (.nm 3) (.irng (.var 1)) w__law_names_0) (.cons (.frz 4) (.cons (.ret (.blt .tuple (.cons (.blt .sorted (.cons (.var 4) .nil)) .nil))) .nil)))))))
def b__law_sets : CS := (.cons (.asg 1 (.lst (.cons (.tup .nil) .nil))) (.cons (.for_ (.nm 2) (.iseq (.var 0)) w__law_sets_0) (.cons (.ret (.var 1)) .nil)))
def b__law_game : CS := (.cons (.asg 2 (.call g__law_names (.cons (.var 0) (.cons (.call g__law_draw (.cons (.var 0) (.cons (.bin .add (.var 1) (.con (.int (1)))) .nil)) .nil) .nil)) .nil)) (.cons (.asg 3 (.call g__law_of (.cons (.var 0) (.cons (.tup (.cons (.tup (.cons (.con (.int (0))) (.cons (.con (.int (1))) .nil))) (.cons (.tup (.cons (.con (.int (0))) (.cons (.con (.int (1))) (.cons (.con (.int (2))) .nil)))) (.cons (.tup (.cons (.con (.int (0))) (.cons (.con (.int (0))) (.cons (.con (.int (1))) (.cons (.con (.int (5))) .nil))))) (.cons (.tup (.cons (.bin .sub (.con (.int (0))) (.con (.int (3)))) (.cons (.con (.int (0))) (.cons (.con (.int (2))) (.cons (.con (.int (4))) .nil))))) (.cons (.tup (.cons (.bin .sub (.con (.int (0))) (.con (.int (99)))) (.cons (.con (.int (99))) (.cons (.con (.int (7))) .nil)))) (.cons (.tup (.cons (.con (.int (3))) .nil)) .nil))))))) .nil)) .nil)) (.cons (.ret (.tup (.cons (.var 2) (.cons (.blt .tuple (.cons (.comp (.nm 4) (.iseq (.call g__law_sets (.cons (.var 2) .nil) .nil)) .nil (.call g__law_of (.cons (.var 0) (.cons (.var 3) .nil)) .nil) [4]) .nil)) .nil)))) .nil)))
def b__law_odd_game : CS := (.cons (.asgt (.cons (.nm 4) (.cons (.nm 5) .nil)) (.var 1)) (.cons (.asg 2 (.slc (.var 5) (.cons (.con (.int (1))) .nil) .nil)) (.cons (.asg 3 (.lst (.cons (.con .non) (.cons (.tup .nil) (.cons (.var 4) (.cons (.lst (.cons (.var 4) (.cons (.var 5) .nil))) (.cons (.tup (.cons (.blt .list (.cons (.var 4) .nil)) (.cons (.var 5) .nil))) (.cons (.tup (.cons (.var 4) (.cons (.blt .list (.cons (.var 5) .nil)) .nil))) (.cons (.tup (.cons (.var 4) (.cons (.bin .add (.var 5) (.tup (.cons (.con (.int (0))) .nil))) .nil))) (.cons (.con (.int (5))) .nil)))))))))) (.cons (.asg 3 (.bin .add (.var 3) (.lst (.cons (.tup (.cons (.var 4) (.cons (.bin .add (.tup (.cons (.con (.int (100))) .nil)) (.var 2)) .nil))) (.cons (.tup (.cons (.var 4) (.cons (.bin .add (.tup (.cons (.bin .sub (.con (.int (0))) (.con (.int (100)))) .nil)) (.var 2)) .nil))) (.cons (.tup (.cons (.var 4) (.cons (.bin .add (.tup (.cons (.con (.bl true)) .nil)) (.var 2)) .nil))) (.cons (.tup (.cons (.var 4) (.cons (.var 2) .nil))) .nil))))))) (.cons (.asg 3 (.bin .add (.var 3) (.lst (.cons (.tup (.cons (.var 4) (.cons (.bin .add (.tup (.cons (.con .non) .nil)) (.var 2)) .nil))) (.cons (.tup (.cons (.bin .add (.var 4) (.tup (.cons (.con (.str [97, 116])) .nil))) (.cons (.bin .mul (.var 5) (.con (.int (2)))) .nil))) (.cons (.tup (.cons (.tup (.cons (.con (.str [98])) (.cons (.con (.str [97])) .nil))) (.cons (.bin .mul (.tup (.cons (.con (.int (0))) .nil)) (.con (.int (4)))) .nil))) .nil)))))) (.cons (.ret (.call g__law_of (.cons (.var 0) (.cons (.bin .add (.var 3) (.lst (.cons (.tup (.cons (.tup (.cons (.con (.str [90, 122])) .nil)) (.cons (.tup (.cons (.con (.int (0))) (.cons (.con (.int (0))) .nil))) .nil))) .nil))) .nil)) .nil)) .nil))))))
def b__law_refusal : CS := (.cons (.try_ (.cons (.expr (.callv 0 .nil .nil none)) .nil) e_PickError 1 (.cons (.asg 2 (.lst (.cons (.exis 1 e_InvalidGame) (.cons (.exis 1 e_InvalidNames) .nil)))) (.cons (.ite (.or (.cmp .ne (.mth .count (.var 2) (.cons (.con (.bl true)) .nil)) (.con (.int (1)))) (.not (.exis 1 e_ValueError))) (.cons (.ret (.lst (.cons (.con (.str [111, 100, 100])) .nil))) .nil) .nil) (.cons (.ret (.ife (.sub (.var 2) (.con (.int (0)))) (.lst (.cons (.con (.str [103, 97, 109, 101])) (.cons (.blt .repr (.cons (.exat 1 0) .nil)) .nil))) (.lst (.cons (.con (.str [110, 97, 109, 101, 115])) (.cons (.blt .repr (.cons (.exat 1 1) .nil)) .nil))))) .nil)))) (.cons (.ret (.lst (.cons (.con (.str [108, 101, 116])) .nil))) .nil))
def b__law_right : CS := (.cons (.asg 1 (.call g__law_game (.cons (.var 0) (.cons (.con (.int (4))) .nil)) .nil)) (.cons (.asgt (.cons (.nm 8) (.cons (.nm 9) .nil)) (.tup (.cons (.call g__law_odd_game (.cons (.var 0) (.cons (.var 1) .nil)) .nil) (.cons (.blt .len (.cons (.sub (.var 1) (.con (.int (0)))) .nil)) .nil)))) (.cons (.asg 2 (.blt .tuple (.cons (.comp (.nm 12) (.iseq (.sub (.var 1) (.con (.int (0))))) .nil (.bin .add (.con (.str [120])) (.sub (.var 12) (.neg (.con (.int (1)))))) [12]) .nil))) (.cons (.asg 3 (.lst (.cons (.tup (.cons (.con .non) (.cons (.con .non) .nil))) (.cons (.tup (.cons (.bin .add (.var 2) (.tup (.cons (.con (.str [121])) .nil))) (.cons (.con .non) .nil))) (.cons (.tup (.cons (.blt .list (.cons (.var 2) .nil)) (.cons (.con .non) .nil))) (.cons (.tup (.cons (.con (.int (5))) (.cons (.con .non) .nil))) .nil)))))) (.cons (.ite (.cmp .gt (.var 9) (.con (.int (0)))) (.cons (.asg 3 (.bin .add (.var 3) (.lst (.cons (.tup (.cons (.slc (.var 2) (.cons (.con (.int (1))) .nil) .nil) (.cons (.con .non) .nil))) (.cons (.tup (.cons (.bin .add (.tup (.cons (.con (.str [97, 116])) .nil)) (.slc (.var 2) (.cons (.con (.int (1))) .nil) .nil)) (.cons (.con (.int (0))) .nil))) (.cons (.tup (.cons (.bin .add (.tup (.cons (.con (.str [90, 122])) .nil)) (.slc (.var 2) (.cons (.con (.int (1))) .nil) .nil)) (.cons (.con (.int (0))) .nil))) (.cons (.tup (.cons (.bin .add (.tup (.cons (.con .non) .nil)) (.slc (.var 2) (.cons (.con (.int (1))) .nil) .nil)) (.cons (.con (.int (0))) .nil))) .nil))))))) .nil) .nil) (.cons (.ite (.cmp .gt (.var 9) (.con (.int (1)))) (.cons (.asg 3 (.bin .add (.var 3) (.lst (.cons (.tup (.cons (.bin .add (.slc (.var 2) .nil (.cons (.neg (.con (.int (1)))) .nil)) (.slc (.var 2) .nil (.cons (.con (.int (1))) .nil))) (.cons (.bin .sub (.var 9) (.con (.int (1)))) .nil))) .nil)))) .nil) .nil) (.cons (.asgt (.cons (.nm 10) (.cons (.nm 11) .nil)) (.call g__law_of (.cons (.var 0) (.cons (.var 3) .nil)) .nil)) (.cons (.par [4] [true] (.cons (.lst (.cons (.callm g__law_refusal .nil m__law_right_0 [8, 10]) .nil)) .nil)) (.cons (.app 4 (.callm g__law_refusal .nil m__law_right_1 [1, 10])) (.cons (.frz 4) (.cons (.ite (.cmp .ne (.var 4) (.lst (.cons (.lst (.cons (.con (.str [103, 97, 109, 101])) (.cons (.blt .repr (.cons (.var 8) .nil)) .nil))) (.cons (.lst (.cons (.con (.str [110, 97, 109, 101, 115])) (.cons (.blt .repr (.cons (.var 11) .nil)) .nil))) .nil)))) (.cons (.ret (.con (.bl false))) .nil) .nil) (.cons (.for_ (.nm 5) (.iseq (.tup (.cons (.glo k_are_alike) (.cons (.glo k_alike_names) .nil)))) w__law_right_0) (.cons (.ite (.cmp .ne (.callm g__law_refusal .nil m__law_right_5 [8]) (.lst (.cons (.con (.str [103, 97, 109, 101])) (.cons (.blt .repr (.cons (.var 8) .nil)) .nil)))) (.cons (.ret (.con (.bl false))) .nil) .nil) (.cons (.asg 6 (.blt .dictzip (.cons (.var 2) (.cons (.sub (.var 1) (.con (.int (0)))) .nil)))) (.cons (.asg 7 (.blt .tuple (.cons (.comp (.nm 13) (.iseq (.blt .sorted (.cons (.var 2) .nil))) .nil (.sub (.var 6) (.var 13)) [13]) .nil))) (.cons (.ret (.call g__law_same (.cons (.call g_renamed (.cons (.call g_renamed (.cons (.var 1) (.cons (.var 2) .nil)) .nil) (.cons (.var 7) .nil)) .nil) (.cons (.var 1) .nil)) .nil)) .nil))))))))))))))))
def b_law : CS := (.cons (.asg 1 (.comp (.nm 2) (.irng (.con (.int (2)))) .nil (.call g__law_well (.cons (.var 0) (.cons (.var 2) .nil)) .nil) [2])) (.cons (.ret (.blt .all (.cons (.comp (.nm 3) (.irng (.con (.int (16)))) .nil (.call g__law_right (.cons (.sub (.var 1) (.bin .mod (.blt .int (.cons (.var 3) .nil)) (.con (.int (2))))) .nil) .nil) [3]) .nil))) .nil))
def l_wrong_things_0 : CE := (.and (.call g_is_name (.cons (.var 0) .nil) .nil) (.call g_is_above_last (.cons (.var 0) (.cons (.var 1) .nil)) .nil))
def l_renamed_0 : CE := (.and (.call g_is_name (.cons (.var 0) .nil) .nil) (.cmp .nin (.var 0) (.var 1)))
def l__law_right_0 : CE := (.call g_renamed (.cons (.var 0) (.cons (.var 1) .nil)) .nil)
def l__law_right_1 : CE := (.call g_renamed (.cons (.var 0) .nil) (.cons (.var 1) .nil))
def l__law_right_2 : CE := (.callv 0 (.cons (.var 1) (.cons (.var 1) .nil)) .nil none)
def l__law_right_3 : CE := (.callv 0 (.cons (.var 1) .nil) (.cons (.var 2) .nil) (some 10))
def l__law_right_4 : CE := (.callv 0 (.cons (.var 1) (.cons (.tup (.cons (.tup (.cons (.con (.str [121])) .nil)) (.cons (.tup (.cons (.con (.int (0))) (.cons (.con (.int (1))) .nil))) .nil))) .nil)) .nil none)
def l__law_right_5 : CE := (.call g_selves .nil (.cons (.var 0) .nil))
def PR : CProg := {
  glos := [(.str [97, 98, 99, 100, 101, 102, 103, 104, 105, 106, 107, 108, 109, 110, 111, 112, 113, 114, 115, 116, 117, 118, 119, 120, 121, 122]), (.tup [(.str [97, 108, 108]), (.str [97, 110, 121]), (.str [97, 116]), (.str [98, 101, 115, 116]), (.str [98, 121]), (.str [99, 104, 97, 110, 99, 101]), (.str [102, 105, 114, 115, 116]), (.str [102, 111, 114]), (.str [103, 97, 109, 101]), (.str [104, 97, 110, 100]), (.str [105, 110]), (.str [108, 101, 102, 116]), (.str [108, 101, 115, 115]), (.str [108, 111, 116]), (.str [109, 111, 114, 101]), (.str [110, 111, 110, 101]), (.str [111, 102]), (.str [111, 112, 101, 110]), (.str [111, 114]), (.str [111, 118, 101, 114]), (.str [112, 105, 99, 107]), (.str [112, 105, 99, 107, 101, 100]), (.str [114, 111, 119]), (.str [115, 101, 99, 111, 110, 100]), (.str [115, 104, 97, 114, 101]), (.str [115, 116, 97, 110, 100]), (.str [115, 116, 97, 114, 116]), (.str [115, 119, 97, 121]), (.str [116, 97, 98, 108, 101]), (.str [116, 104, 105, 110, 103]), (.str [116, 104, 105, 110, 103, 115]), (.str [116, 111]), (.str [116, 111, 115, 115]), (.str [116, 114, 101, 101]), (.str [116, 117, 114, 110]), (.str [117, 110, 100, 111]), (.str [119, 105, 116, 104]), (.str [119, 111, 114, 116, 104])]), (.int (8)), (.int (6)), (.int (99)), .fn g_alike_names, .fn g_are_alike]
  defs := [⟨1, 0, 1, b_is_whole⟩, ⟨3, 1, 3, b_is_number⟩, ⟨2, 2, 2, b_is_tuple_of⟩, ⟨3, 3, 5, b_wrong_at⟩, ⟨3, 4, 3, b_wrong_for_all⟩, ⟨2, 5, 2, b_is_above_last⟩, ⟨1, 0, 2, b_is_word⟩, ⟨1, 0, 1, b_is_name⟩, ⟨1, 0, 1, b_wrong_things⟩, ⟨1, 0, 1, b_is_let_number⟩, ⟨1, 0, 2, b_is_game_form⟩, ⟨1, 6, 1, b_lot_number⟩, ⟨2, 7, 2, b_has_at⟩, ⟨2, 8, 8, b_renamed_in⟩, ⟨1, 9, 5, b_orders_of⟩, ⟨2, 10, 3, b_names_to⟩, ⟨1, 0, 1, b_check_game⟩, ⟨2, 10, 2, b_check_games⟩, ⟨2, 8, 3, b_renamed⟩, ⟨2, 10, 2, b_are_alike⟩, ⟨2, 10, 3, b_alike_names⟩, ⟨1, 11, 1, b_selves⟩, ⟨2, 12, 5, b__law_well⟩, ⟨2, 13, 4, b__law_draw⟩, ⟨2, 14, 2, b__law_of⟩, ⟨2, 15, 3, b__law_same⟩, ⟨2, 16, 8, b__law_names⟩, ⟨1, 6, 4, b__law_sets⟩, ⟨2, 17, 5, b__law_game⟩, ⟨2, 18, 6, b__law_odd_game⟩, ⟨1, 19, 3, b__law_refusal⟩, ⟨1, 20, 14, b__law_right⟩, ⟨1, 21, 4, b_law⟩]
  lams := [⟨2, 0, 2, l_wrong_things_0⟩, ⟨2, 0, 2, l_renamed_0⟩, ⟨0, 2, 2, l__law_right_0⟩, ⟨0, 2, 2, l__law_right_1⟩, ⟨0, 2, 2, l__law_right_2⟩, ⟨0, 3, 3, l__law_right_3⟩, ⟨0, 2, 2, l__law_right_4⟩, ⟨0, 1, 1, l__law_right_5⟩]
  ecs := [⟨(PySem.Str.ofString "PickError"), none, true, [0, 3]⟩, ⟨(PySem.Str.ofString "InvalidGame"), some 0, true, [1, 0, 3]⟩, ⟨(PySem.Str.ofString "InvalidNames"), some 1, true, [2, 0, 3]⟩, ⟨(PySem.Str.ofString "ValueError"), none, false, [3]⟩] }
theorem c_is_whole (n : Nat) (x0 : D) (st : St) : callF PR (n + 1) g_is_whole [x0] st = outS (evS (tell PR n) b_is_whole [.val x0] st) := rfl
theorem c_is_number (n : Nat) (x0 x1 x2 : D) (st : St) : callF PR (n + 1) g_is_number [x0, x1, x2] st = outS (evS (tell PR n) b_is_number [.val x0, .val x1, .val x2] st) := rfl
theorem c_is_tuple_of (n : Nat) (x0 x1 : D) (st : St) : callF PR (n + 1) g_is_tuple_of [x0, x1] st = outS (evS (tell PR n) b_is_tuple_of [.val x0, .val x1] st) := rfl
theorem c_wrong_at (n : Nat) (x0 x1 x2 : D) (st : St) : callF PR (n + 1) g_wrong_at [x0, x1, x2] st = outS (evS (tell PR n) b_wrong_at [.val x0, .val x1, .val x2, .no, .no] st) := rfl
theorem c_wrong_for_all (n : Nat) (x0 x1 x2 : D) (st : St) : callF PR (n + 1) g_wrong_for_all [x0, x1, x2] st = outS (evS (tell PR n) b_wrong_for_all [.val x0, .val x1, .val x2] st) := rfl
theorem c_is_above_last (n : Nat) (x0 x1 : D) (st : St) : callF PR (n + 1) g_is_above_last [x0, x1] st = outS (evS (tell PR n) b_is_above_last [.val x0, .val x1] st) := rfl
theorem c_is_word (n : Nat) (x0 : D) (st : St) : callF PR (n + 1) g_is_word [x0] st = outS (evS (tell PR n) b_is_word [.val x0, .no] st) := rfl
theorem c_is_name (n : Nat) (x0 : D) (st : St) : callF PR (n + 1) g_is_name [x0] st = outS (evS (tell PR n) b_is_name [.val x0] st) := rfl
theorem c_wrong_things (n : Nat) (x0 : D) (st : St) : callF PR (n + 1) g_wrong_things [x0] st = outS (evS (tell PR n) b_wrong_things [.val x0] st) := rfl
theorem c_is_let_number (n : Nat) (x0 : D) (st : St) : callF PR (n + 1) g_is_let_number [x0] st = outS (evS (tell PR n) b_is_let_number [.val x0] st) := rfl
theorem c_is_game_form (n : Nat) (x0 : D) (st : St) : callF PR (n + 1) g_is_game_form [x0] st = outS (evS (tell PR n) b_is_game_form [.val x0, .no] st) := rfl
theorem c_lot_number (n : Nat) (x0 : D) (st : St) : callF PR (n + 1) g_lot_number [x0] st = outS (evS (tell PR n) b_lot_number [.val x0] st) := rfl
theorem c_has_at (n : Nat) (x0 x1 : D) (st : St) : callF PR (n + 1) g_has_at [x0, x1] st = outS (evS (tell PR n) b_has_at [.val x0, .val x1] st) := rfl
theorem c_renamed_in (n : Nat) (x0 x1 : D) (st : St) : callF PR (n + 1) g_renamed_in [x0, x1] st = outS (evS (tell PR n) b_renamed_in [.val x0, .val x1, .no, .no, .no, .no, .no, .no] st) := rfl
theorem c_orders_of (n : Nat) (x0 : D) (st : St) : callF PR (n + 1) g_orders_of [x0] st = outS (evS (tell PR n) b_orders_of [.val x0, .no, .no, .no, .no] st) := rfl
theorem c_names_to (n : Nat) (x0 x1 : D) (st : St) : callF PR (n + 1) g_names_to [x0, x1] st = outS (evS (tell PR n) b_names_to [.val x0, .val x1, .no] st) := rfl
theorem c_check_game (n : Nat) (x0 : D) (st : St) : callF PR (n + 1) g_check_game [x0] st = outS (evS (tell PR n) b_check_game [.val x0] st) := rfl
theorem c_check_games (n : Nat) (x0 x1 : D) (st : St) : callF PR (n + 1) g_check_games [x0, x1] st = outS (evS (tell PR n) b_check_games [.val x0, .val x1] st) := rfl
theorem c_renamed (n : Nat) (x0 x1 : D) (st : St) : callF PR (n + 1) g_renamed [x0, x1] st = outS (evS (tell PR n) b_renamed [.val x0, .val x1, .no] st) := rfl
theorem c_are_alike (n : Nat) (x0 x1 : D) (st : St) : callF PR (n + 1) g_are_alike [x0, x1] st = outS (evS (tell PR n) b_are_alike [.val x0, .val x1] st) := rfl
theorem c_alike_names (n : Nat) (x0 x1 : D) (st : St) : callF PR (n + 1) g_alike_names [x0, x1] st = outS (evS (tell PR n) b_alike_names [.val x0, .val x1, .no] st) := rfl
theorem c_selves (n : Nat) (x0 : D) (st : St) : callF PR (n + 1) g_selves [x0] st = outS (evS (tell PR n) b_selves [.val x0] st) := rfl
theorem c__law_well (n : Nat) (x0 x1 : D) (st : St) : callF PR (n + 1) g__law_well [x0, x1] st = outS (evS (tell PR n) b__law_well [.val x0, .val x1, .no, .no, .no] st) := rfl
theorem c__law_draw (n : Nat) (x0 x1 : D) (st : St) : callF PR (n + 1) g__law_draw [x0, x1] st = outS (evS (tell PR n) b__law_draw [.val x0, .val x1, .no, .no] st) := rfl
theorem c__law_of (n : Nat) (x0 x1 : D) (st : St) : callF PR (n + 1) g__law_of [x0, x1] st = outS (evS (tell PR n) b__law_of [.val x0, .val x1] st) := rfl
theorem c__law_same (n : Nat) (x0 x1 : D) (st : St) : callF PR (n + 1) g__law_same [x0, x1] st = outS (evS (tell PR n) b__law_same [.val x0, .val x1, .no] st) := rfl
theorem c__law_names (n : Nat) (x0 x1 : D) (st : St) : callF PR (n + 1) g__law_names [x0, x1] st = outS (evS (tell PR n) b__law_names [.val x0, .val x1, .no, .no, .no, .no, .no, .no] st) := rfl
theorem c__law_sets (n : Nat) (x0 : D) (st : St) : callF PR (n + 1) g__law_sets [x0] st = outS (evS (tell PR n) b__law_sets [.val x0, .no, .no, .no] st) := rfl
theorem c__law_game (n : Nat) (x0 x1 : D) (st : St) : callF PR (n + 1) g__law_game [x0, x1] st = outS (evS (tell PR n) b__law_game [.val x0, .val x1, .no, .no, .no] st) := rfl
theorem c__law_odd_game (n : Nat) (x0 x1 : D) (st : St) : callF PR (n + 1) g__law_odd_game [x0, x1] st = outS (evS (tell PR n) b__law_odd_game [.val x0, .val x1, .no, .no, .no, .no] st) := rfl
theorem c__law_refusal (n : Nat) (x0 : D) (st : St) : callF PR (n + 1) g__law_refusal [x0] st = outS (evS (tell PR n) b__law_refusal [.val x0, .no, .no] st) := rfl
theorem c__law_right (n : Nat) (x0 : D) (st : St) : callF PR (n + 1) g__law_right [x0] st = outS (evS (tell PR n) b__law_right [.val x0, .no, .no, .no, .no, .no, .no, .no, .no, .no, .no, .no, .no, .no] st) := rfl
theorem c_law (n : Nat) (x0 : D) (st : St) : callF PR (n + 1) g_law [x0] st = outS (evS (tell PR n) b_law [.val x0, .no, .no, .no] st) := rfl
theorem c_lam_wrong_things_0 (n : Nat) (x0 x1 : D) (st : St) : callC PR (n + 1) m_wrong_things_0 [] [x0, x1] st = evE (tell PR n) l_wrong_things_0 [.val x0, .val x1] st := rfl
theorem c_lam_renamed_0 (n : Nat) (x0 x1 : D) (st : St) : callC PR (n + 1) m_renamed_0 [] [x0, x1] st = evE (tell PR n) l_renamed_0 [.val x0, .val x1] st := rfl
theorem c_lam__law_right_0 (n : Nat) (y0 y1 : D) (st : St) : callC PR (n + 1) m__law_right_0 [y0, y1] [] st = evE (tell PR n) l__law_right_0 [.val y0, .val y1] st := rfl
theorem c_lam__law_right_1 (n : Nat) (y0 y1 : D) (st : St) : callC PR (n + 1) m__law_right_1 [y0, y1] [] st = evE (tell PR n) l__law_right_1 [.val y0, .val y1] st := rfl
theorem c_lam__law_right_2 (n : Nat) (y0 y1 : D) (st : St) : callC PR (n + 1) m__law_right_2 [y0, y1] [] st = evE (tell PR n) l__law_right_2 [.val y0, .val y1] st := rfl
theorem c_lam__law_right_3 (n : Nat) (y0 y1 y2 : D) (st : St) : callC PR (n + 1) m__law_right_3 [y0, y1, y2] [] st = evE (tell PR n) l__law_right_3 [.val y0, .val y1, .val y2] st := rfl
theorem c_lam__law_right_4 (n : Nat) (y0 y1 : D) (st : St) : callC PR (n + 1) m__law_right_4 [y0, y1] [] st = evE (tell PR n) l__law_right_4 [.val y0, .val y1] st := rfl
theorem c_lam__law_right_5 (n : Nat) (y0 : D) (st : St) : callC PR (n + 1) m__law_right_5 [y0] [] st = evE (tell PR n) l__law_right_5 [.val y0] st := rfl
theorem v_LETTERS : PR.glos[k_LETTERS]? = some ((.str [97, 98, 99, 100, 101, 102, 103, 104, 105, 106, 107, 108, 109, 110, 111, 112, 113, 114, 115, 116, 117, 118, 119, 120, 121, 122])) := rfl
theorem v_WORDS : PR.glos[k_WORDS]? = some ((.tup [(.str [97, 108, 108]), (.str [97, 110, 121]), (.str [97, 116]), (.str [98, 101, 115, 116]), (.str [98, 121]), (.str [99, 104, 97, 110, 99, 101]), (.str [102, 105, 114, 115, 116]), (.str [102, 111, 114]), (.str [103, 97, 109, 101]), (.str [104, 97, 110, 100]), (.str [105, 110]), (.str [108, 101, 102, 116]), (.str [108, 101, 115, 115]), (.str [108, 111, 116]), (.str [109, 111, 114, 101]), (.str [110, 111, 110, 101]), (.str [111, 102]), (.str [111, 112, 101, 110]), (.str [111, 114]), (.str [111, 118, 101, 114]), (.str [112, 105, 99, 107]), (.str [112, 105, 99, 107, 101, 100]), (.str [114, 111, 119]), (.str [115, 101, 99, 111, 110, 100]), (.str [115, 104, 97, 114, 101]), (.str [115, 116, 97, 110, 100]), (.str [115, 116, 97, 114, 116]), (.str [115, 119, 97, 121]), (.str [116, 97, 98, 108, 101]), (.str [116, 104, 105, 110, 103]), (.str [116, 104, 105, 110, 103, 115]), (.str [116, 111]), (.str [116, 111, 115, 115]), (.str [116, 114, 101, 101]), (.str [116, 117, 114, 110]), (.str [117, 110, 100, 111]), (.str [119, 105, 116, 104]), (.str [119, 111, 114, 116, 104])])) := rfl
theorem v_MOST_IN_NAME : PR.glos[k_MOST_IN_NAME]? = some ((.int (8))) := rfl
theorem v_MOST_THINGS : PR.glos[k_MOST_THINGS]? = some ((.int (6))) := rfl
theorem v_MOST_NUMBER : PR.glos[k_MOST_NUMBER]? = some ((.int (99))) := rfl
theorem v_alike_names : PR.glos[k_alike_names]? = some (.fn g_alike_names) := rfl
theorem v_are_alike : PR.glos[k_are_alike]? = some (.fn g_are_alike) := rfl
theorem s_is_whole : sigOf PR g_is_whole = 0 := rfl
theorem s_is_number : sigOf PR g_is_number = 1 := rfl
theorem s_is_tuple_of : sigOf PR g_is_tuple_of = 2 := rfl
theorem s_wrong_at : sigOf PR g_wrong_at = 3 := rfl
theorem s_wrong_for_all : sigOf PR g_wrong_for_all = 4 := rfl
theorem s_is_above_last : sigOf PR g_is_above_last = 5 := rfl
theorem s_is_word : sigOf PR g_is_word = 0 := rfl
theorem s_is_name : sigOf PR g_is_name = 0 := rfl
theorem s_wrong_things : sigOf PR g_wrong_things = 0 := rfl
theorem s_is_let_number : sigOf PR g_is_let_number = 0 := rfl
theorem s_is_game_form : sigOf PR g_is_game_form = 0 := rfl
theorem s_lot_number : sigOf PR g_lot_number = 6 := rfl
theorem s_has_at : sigOf PR g_has_at = 7 := rfl
theorem s_renamed_in : sigOf PR g_renamed_in = 8 := rfl
theorem s_orders_of : sigOf PR g_orders_of = 9 := rfl
theorem s_names_to : sigOf PR g_names_to = 10 := rfl
theorem s_check_game : sigOf PR g_check_game = 0 := rfl
theorem s_check_games : sigOf PR g_check_games = 10 := rfl
theorem s_renamed : sigOf PR g_renamed = 8 := rfl
theorem s_are_alike : sigOf PR g_are_alike = 10 := rfl
theorem s_alike_names : sigOf PR g_alike_names = 10 := rfl
theorem s_selves : sigOf PR g_selves = 11 := rfl
theorem s__law_well : sigOf PR g__law_well = 12 := rfl
theorem s__law_draw : sigOf PR g__law_draw = 13 := rfl
theorem s__law_of : sigOf PR g__law_of = 14 := rfl
theorem s__law_same : sigOf PR g__law_same = 15 := rfl
theorem s__law_names : sigOf PR g__law_names = 16 := rfl
theorem s__law_sets : sigOf PR g__law_sets = 6 := rfl
theorem s__law_game : sigOf PR g__law_game = 17 := rfl
theorem s__law_odd_game : sigOf PR g__law_odd_game = 18 := rfl
theorem s__law_refusal : sigOf PR g__law_refusal = 19 := rfl
theorem s__law_right : sigOf PR g__law_right = 20 := rfl
theorem s_law : sigOf PR g_law = 21 := rfl
theorem f_PickError : PR.fld e_PickError = none := rfl
theorem f_InvalidGame : PR.fld e_InvalidGame = some 0 := rfl
theorem f_InvalidNames : PR.fld e_InvalidNames = some 1 := rfl
theorem f_ValueError : PR.fld e_ValueError = none := rfl
theorem u_PickError_PickError : PR.sub e_PickError e_PickError = true := rfl
theorem u_PickError_InvalidGame : PR.sub e_PickError e_InvalidGame = false := rfl
theorem u_PickError_InvalidNames : PR.sub e_PickError e_InvalidNames = false := rfl
theorem u_PickError_ValueError : PR.sub e_PickError e_ValueError = true := rfl
theorem u_InvalidGame_PickError : PR.sub e_InvalidGame e_PickError = true := rfl
theorem u_InvalidGame_InvalidGame : PR.sub e_InvalidGame e_InvalidGame = true := rfl
theorem u_InvalidGame_InvalidNames : PR.sub e_InvalidGame e_InvalidNames = false := rfl
theorem u_InvalidGame_ValueError : PR.sub e_InvalidGame e_ValueError = true := rfl
theorem u_InvalidNames_PickError : PR.sub e_InvalidNames e_PickError = true := rfl
theorem u_InvalidNames_InvalidGame : PR.sub e_InvalidNames e_InvalidGame = false := rfl
theorem u_InvalidNames_InvalidNames : PR.sub e_InvalidNames e_InvalidNames = true := rfl
theorem u_InvalidNames_ValueError : PR.sub e_InvalidNames e_ValueError = true := rfl
end K84
end

section
set_option linter.all false
set_option maxRecDepth 100000
set_option maxHeartbeats 4000000
set_option backward.isDefEq.respectTransparency false
namespace K84
open DV
theorem is_whole_ev (n : Nat) (d : D) (st : St) (h : val1 d = true) : callF PR (n + 1) g_is_whole [d] st = .ok (.bl (isInt d)) st := by
  rw [c_is_whole]
  cases d <;> first | (simp -dsimp [evS, evE, evA, evT, evC, evP, evI, evO, ↓bind_bx, ↓on_ox, ↓seq_sx, bxok, bxexc, liftok, liftmap, oxok, oxexc, sxnx, sxret, sxexc, sxbrk, sxcnt, outret, outnx, outexc, bxite, oxite, sxite, outite, liftite, tellF, tellC, tellgl, tellsig, tellsub, tellfld, tellex, sval, setSl, tru, ln1, ln2, ln3, ln4, ln5, ln6, ln7, ln8, -List.all_eq_true, -List.any_eq_true, -List.all_eq_false, -List.any_eq_false, b_is_whole, isiD, isInt]; done) | (cases h; done)
theorem is_number_ev (n : Nat) (d : D) (lo hi : Int) (st : St) (h : val1 d = true) : callF PR (n + 2) g_is_number [d, .int lo, .int hi] st = .ok (.bl (numB lo hi d)) st := by
  rw [c_is_number]
  cases d <;> first | (cases h; done) | skip
  case int i =>
    simp -dsimp [evS, evE, evA, evT, evC, evP, evI, evO, ↓bind_bx, ↓on_ox, ↓seq_sx, bxok, bxexc, liftok, liftmap, oxok, oxexc, sxnx, sxret, sxexc, sxbrk, sxcnt, outret, outnx, outexc, bxite, oxite, sxite, outite, liftite, tellF, tellC, tellgl, tellsig, tellsub, tellfld, tellex, sval, setSl, tru, ln1, ln2, ln3, ln4, ln5, ln6, ln7, ln8, -List.all_eq_true, -List.any_eq_true, -List.all_eq_false, -List.any_eq_false, b_is_number, is_whole_ev, val1, isInt, cmpD, ordD, numB]
    by_cases h1 : i < lo
    · simp [h1]; omega
    · simp [h1]; omega
  all_goals simp -dsimp [evS, evE, evA, evT, evC, evP, evI, evO, ↓bind_bx, ↓on_ox, ↓seq_sx, bxok, bxexc, liftok, liftmap, oxok, oxexc, sxnx, sxret, sxexc, sxbrk, sxcnt, outret, outnx, outexc, bxite, oxite, sxite, outite, liftite, tellF, tellC, tellgl, tellsig, tellsub, tellfld, tellex, sval, setSl, tru, ln1, ln2, ln3, ln4, ln5, ln6, ln7, ln8, -List.all_eq_true, -List.any_eq_true, -List.all_eq_false, -List.any_eq_false, b_is_number, is_whole_ev, val1, isInt, cmpD, ordD, numB]
theorem is_tuple_of_ev (n : Nat) (d : D) (k : Nat) (st : St) (h : val1 d = true) : callF PR (n + 1) g_is_tuple_of [d, .int k] st = .ok (.bl (tupB k d)) st := by
  rw [c_is_tuple_of]
  cases d <;> first | (cases h; done) | skip
  case tup xs =>
    simp -dsimp [evS, evE, evA, evT, evC, evP, evI, evO, ↓bind_bx, ↓on_ox, ↓seq_sx, bxok, bxexc, liftok, liftmap, oxok, oxexc, sxnx, sxret, sxexc, sxbrk, sxcnt, outret, outnx, outexc, bxite, oxite, sxite, outite, liftite, tellF, tellC, tellgl, tellsig, tellsub, tellfld, tellex, sval, setSl, tru, ln1, ln2, ln3, ln4, ln5, ln6, ln7, ln8, -List.all_eq_true, -List.any_eq_true, -List.all_eq_false, -List.any_eq_false, b_is_tuple_of, isiD, bltD, bLen, cmpD, eqv2, shp, dat, dep, eqD, tupB]
    by_cases q : xs.length = k
    · simp [q]
    · have : ¬ (xs.length : Int) = k := by omega
      simp [q, this]
  all_goals simp -dsimp [evS, evE, evA, evT, evC, evP, evI, evO, ↓bind_bx, ↓on_ox, ↓seq_sx, bxok, bxexc, liftok, liftmap, oxok, oxexc, sxnx, sxret, sxexc, sxbrk, sxcnt, outret, outnx, outexc, bxite, oxite, sxite, outite, liftite, tellF, tellC, tellgl, tellsig, tellsub, tellfld, tellex, sval, setSl, tru, ln1, ln2, ln3, ln4, ln5, ln6, ln7, ln8, -List.all_eq_true, -List.any_eq_true, -List.all_eq_false, -List.any_eq_false, b_is_tuple_of, isiD, bltD, bLen, cmpD, eqv2, shp, dat, dep, eqD, tupB]
theorem v_LETTERS' : PR.glos[k_LETTERS]? = some (.str lettersC) := rfl
theorem v_WORDS' : PR.glos[k_WORDS]? = some (.tup (wordsC.map .str)) := rfl
theorem is_word_ev (n : Nat) (d : D) (st : St) (h : val1 d = true) (h2 : txt1 d = true) : callF PR (n + 1) g_is_word [d] st = .ok (.bl (wordB d)) st := by
  rw [c_is_word]
  cases d <;> first | (cases h; done) | skip
  case str x =>
    simp only [txt1, Bool.and_eq_true, decide_eq_true_eq] at h2
    have hl : x.length ≤ line := Nat.le_trans h2.1 (by decide)
    simp -dsimp [evS, evE, evA, evT, evC, evP, evI, evO, ↓bind_bx, ↓on_ox, ↓seq_sx, bxok, bxexc, liftok, liftmap, oxok, oxexc, sxnx, sxret, sxexc, sxbrk, sxcnt, outret, outnx, outexc, bxite, oxite, sxite, outite, liftite, tellF, tellC, tellgl, tellsig, tellsub, tellfld, tellex, sval, setSl, tru, ln1, ln2, ln3, ln4, ln5, ln6, ln7, ln8, -List.all_eq_true, -List.any_eq_true, -List.all_eq_false, -List.any_eq_false, b_is_word, isiD, cmpD, eqv2, wipe, itD, hl, bltD, bAll, wordB]
    by_cases q : x = []
    · simp [q]
    · simp only [if_neg q]
      rw [lcAll (fun c => D.str [c]) (fun c => D.bl (decide (c ∈ lettersC))) x fun c _ => ⟨_, rfl, by simp -dsimp [evS, evE, evA, evT, evC, evP, evI, evO, ↓bind_bx, ↓on_ox, ↓seq_sx, bxok, bxexc, liftok, liftmap, oxok, oxexc, sxnx, sxret, sxexc, sxbrk, sxcnt, outret, outnx, outexc, bxite, oxite, sxite, outite, liftite, tellF, tellC, tellgl, tellsig, tellsub, tellfld, tellex, sval, setSl, tru, ln1, ln2, ln3, ln4, ln5, ln6, ln7, ln8, -List.all_eq_true, -List.any_eq_true, -List.all_eq_false, -List.any_eq_false], by simp -dsimp [evS, evE, evA, evT, evC, evP, evI, evO, ↓bind_bx, ↓on_ox, ↓seq_sx, bxok, bxexc, liftok, liftmap, oxok, oxexc, sxnx, sxret, sxexc, sxbrk, sxcnt, outret, outnx, outexc, bxite, oxite, sxite, outite, liftite, tellF, tellC, tellgl, tellsig, tellsub, tellfld, tellex, sval, setSl, tru, ln1, ln2, ln3, ln4, ln5, ln6, ln7, ln8, -List.all_eq_true, -List.any_eq_true, -List.all_eq_false, -List.any_eq_false, v_LETTERS', cmpD, inD]⟩]
      simp -dsimp [evS, evE, evA, evT, evC, evP, evI, evO, ↓bind_bx, ↓on_ox, ↓seq_sx, bxok, bxexc, liftok, liftmap, oxok, oxexc, sxnx, sxret, sxexc, sxbrk, sxcnt, outret, outnx, outexc, bxite, oxite, sxite, outite, liftite, tellF, tellC, tellgl, tellsig, tellsub, tellfld, tellex, sval, setSl, tru, ln1, ln2, ln3, ln4, ln5, ln6, ln7, ln8, -List.all_eq_true, -List.any_eq_true, -List.all_eq_false, -List.any_eq_false, noexok, hl, allBl_map, q, bltD, bAll, wordB]
  all_goals simp -dsimp [evS, evE, evA, evT, evC, evP, evI, evO, ↓bind_bx, ↓on_ox, ↓seq_sx, bxok, bxexc, liftok, liftmap, oxok, oxexc, sxnx, sxret, sxexc, sxbrk, sxcnt, outret, outnx, outexc, bxite, oxite, sxite, outite, liftite, tellF, tellC, tellgl, tellsig, tellsub, tellfld, tellex, sval, setSl, tru, ln1, ln2, ln3, ln4, ln5, ln6, ln7, ln8, -List.all_eq_true, -List.any_eq_true, -List.all_eq_false, -List.any_eq_false, b_is_word, isiD, wordB]
theorem is_name_ev (n : Nat) (d : D) (st : St) (h : val1 d = true) (h2 : txt1 d = true) : callF PR (n + 2) g_is_name [d] st = .ok (.bl (nameB d)) st := by
  rw [c_is_name]
  simp -dsimp [evS, evE, evA, evT, evC, evP, evI, evO, ↓bind_bx, ↓on_ox, ↓seq_sx, bxok, bxexc, liftok, liftmap, oxok, oxexc, sxnx, sxret, sxexc, sxbrk, sxcnt, outret, outnx, outexc, bxite, oxite, sxite, outite, liftite, tellF, tellC, tellgl, tellsig, tellsub, tellfld, tellex, sval, setSl, tru, ln1, ln2, ln3, ln4, ln5, ln6, ln7, ln8, -List.all_eq_true, -List.any_eq_true, -List.all_eq_false, -List.any_eq_false, b_is_name, is_word_ev, h, h2]
  cases d <;> first | (cases h; done) | skip
  case str x =>
    simp only [txt1, Bool.and_eq_true, decide_eq_true_eq] at h2
    have hl : x.length ≤ line := Nat.le_trans h2.1 (by decide)
    by_cases q : wordB (.str x) = true
    · simp only [wordB, nameB] at q ⊢
      simp -dsimp [evS, evE, evA, evT, evC, evP, evI, evO, ↓bind_bx, ↓on_ox, ↓seq_sx, bxok, bxexc, liftok, liftmap, oxok, oxexc, sxnx, sxret, sxexc, sxbrk, sxcnt, outret, outnx, outexc, bxite, oxite, sxite, outite, liftite, tellF, tellC, tellgl, tellsig, tellsub, tellfld, tellex, sval, setSl, tru, ln1, ln2, ln3, ln4, ln5, ln6, ln7, ln8, -List.all_eq_true, -List.any_eq_true, -List.all_eq_false, -List.any_eq_false, q, bltD, bLen, hl, cmpD, ordD, v_WORDS', inD_strs, v_MOST_IN_NAME]
      by_cases q2 : x.length ≤ 8
      · have : (x.length : Int) ≤ 8 := by omega
        simp [q2, this]
      · have : ¬ (x.length : Int) ≤ 8 := by omega
        simp [q2, this]
    · simp only [wordB, nameB] at q ⊢
      simp [q]
  all_goals simp [wordB, nameB]
theorem wrong_at_loop (n : Nat) (xs : List D) (most : Option Nat) (k : Nat) (caps : List D) (p : D → List D → Bool) (st : St) (hp : st.all plas = true)
    (hc : ∀ i x, xs[i]? = some x → (∀ j y, j < i → xs[j]? = some y → p y (xs.take j) = true) → (∀ m, most = some m → i < m) → callC PR n k caps [x, .tup (xs.take i)] st = .ok (.bl (p x (xs.take i))) st ∧ pla x = true ∧ plas (xs.take i) = true) :
    ∀ (rest : List D) (i : Nat) (s3 s4 : Sl), xs.drop i = rest → (∀ j y, j < i → xs[j]? = some y → p y (xs.take j) = true) →
    match firstBad most p xs i rest with
    | some j => forL (.cons (.nm 3) (.cons (.nm 4) .nil)) (evS (tell PR n) w_wrong_at_0) (enumD i rest) [.val (.tup xs), .val (optD most), .val (.clo k caps), s3, s4] st = .ret (.lst [.int j]) st
    | none => ∃ ρ', forL (.cons (.nm 3) (.cons (.nm 4) .nil)) (evS (tell PR n) w_wrong_at_0) (enumD i rest) [.val (.tup xs), .val (optD most), .val (.clo k caps), s3, s4] st = .nx ρ' st
  | [], i, s3, s4, _, _ => ⟨_, rfl⟩
  | x :: r, i, s3, s4, hd, ha => by
    have hx : xs[i]? = some x := by
      have : (xs.drop i)[0]? = some x := by rw [hd]; rfl
      simpa using this
    have hr : xs.drop (i + 1) = r := by
      rw [← List.tail_drop, hd]; rfl
    by_cases q : overB most i = true
    · have e : firstBad most p xs i (x :: r) = some i := by simp only [firstBad]; rw [q]; rfl
      rw [e]
      refine forL_ret (ρ1 := [.val (.tup xs), .val (optD most), .val (.clo k caps), .val (.int i), .val x]) rfl ?_
      cases most with
      | none => cases q
      | some m =>
        have q' : (m : Int) ≤ (i : Int) := by have := of_decide_eq_true q; omega
        simp -dsimp [evS, evE, evA, evT, evC, evP, evI, evO, ↓bind_bx, ↓on_ox, ↓seq_sx, bxok, bxexc, liftok, liftmap, oxok, oxexc, sxnx, sxret, sxexc, sxbrk, sxcnt, outret, outnx, outexc, bxite, oxite, sxite, outite, liftite, tellF, tellC, tellgl, tellsig, tellsub, tellfld, tellex, sval, setSl, tru, ln1, ln2, ln3, ln4, ln5, ln6, ln7, ln8, -List.all_eq_true, -List.any_eq_true, -List.all_eq_false, -List.any_eq_false, w_wrong_at_0, cmpD, optD, ordD, q', optI]
    · have hm : ∀ m, most = some m → i < m := fun m e => by subst e; simpa [overB] using q
      obtain ⟨h1, h2, h3⟩ := hc i x hx ha hm
      have hmost : ∀ ρ st', ρ = [.val (.tup xs), .val (optD most), .val (.clo k caps), .val (.int i), .val x] → evT (tell PR n) (.and (.cmp .isn (.var 1) (.con .non)) (.cmp .ge (.var 3) (.var 1))) ρ st' = .ok false st' := fun ρ st' e => by
        subst e
        cases most with
        | none => simp -dsimp [evS, evE, evA, evT, evC, evP, evI, evO, ↓bind_bx, ↓on_ox, ↓seq_sx, bxok, bxexc, liftok, liftmap, oxok, oxexc, sxnx, sxret, sxexc, sxbrk, sxcnt, outret, outnx, outexc, bxite, oxite, sxite, outite, liftite, tellF, tellC, tellgl, tellsig, tellsub, tellfld, tellex, sval, setSl, tru, ln1, ln2, ln3, ln4, ln5, ln6, ln7, ln8, -List.all_eq_true, -List.any_eq_true, -List.all_eq_false, -List.any_eq_false, cmpD, optD, ordD]
        | some m =>
          have := hm m rfl
          have q3 : ¬ (m : Int) ≤ (i : Int) := by omega
          simp -dsimp [evS, evE, evA, evT, evC, evP, evI, evO, ↓bind_bx, ↓on_ox, ↓seq_sx, bxok, bxexc, liftok, liftmap, oxok, oxexc, sxnx, sxret, sxexc, sxbrk, sxcnt, outret, outnx, outexc, bxite, oxite, sxite, outite, liftite, tellF, tellC, tellgl, tellsig, tellsub, tellfld, tellex, sval, setSl, tru, ln1, ln2, ln3, ln4, ln5, ln6, ln7, ln8, -List.all_eq_true, -List.any_eq_true, -List.all_eq_false, -List.any_eq_false, cmpD, optD, ordD, q3]
      have q' : overB most i = false := by simpa using q
      have test : evT (tell PR n) (.or (.and (.cmp .isn (.var 1) (.con .non)) (.cmp .ge (.var 3) (.var 1))) (.not (.callv 2 (.cons (.var 4) (.cons (.slc (.var 0) .nil (.cons (.var 3) .nil)) .nil)) .nil none))) [.val (.tup xs), .val (optD most), .val (.clo k caps), .val (.int i), .val x] st = .ok (!p x (xs.take i)) st := by
        rw [evT, hmost _ _ rfl]
        have hp' : plas [x, .tup (xs.take i)] = true := by simp [plas, pla, h2, h3]
        simp -dsimp [evS, evE, evA, evT, evC, evP, evI, evO, ↓bind_bx, ↓on_ox, ↓seq_sx, bxok, bxexc, liftok, liftmap, oxok, oxexc, sxnx, sxret, sxexc, sxbrk, sxcnt, outret, outnx, outexc, bxite, oxite, sxite, outite, liftite, tellF, tellC, tellgl, tellsig, tellsub, tellfld, tellex, sval, setSl, tru, ln1, ln2, ln3, ln4, ln5, ln6, ln7, ln8, -List.all_eq_true, -List.any_eq_true, -List.all_eq_false, -List.any_eq_false, optI, slcD, cut_take, hp', hp, h1]
      by_cases hpx : p x (xs.take i) = true
      · have e : firstBad most p xs i (x :: r) = firstBad most p xs (i + 1) r := by simp only [firstBad]; rw [q', hpx]; rfl
        rw [e]
        have ih := wrong_at_loop n xs most k caps p st hp hc r (i + 1) (.val (.int i)) (.val x) hr (fun j y hj hy => by
          by_cases e : j = i
          · subst e; rw [hx] at hy; cases hy; exact hpx
          · exact ha j y (by omega) hy)
        have step : evS (tell PR n) w_wrong_at_0 [.val (.tup xs), .val (optD most), .val (.clo k caps), .val (.int i), .val x] st = .nx [.val (.tup xs), .val (optD most), .val (.clo k caps), .val (.int i), .val x] st := by
          unfold w_wrong_at_0
          rw [evS, evS, test, hpx]
          simp -dsimp [evS, evE, evA, evT, evC, evP, evI, evO, ↓bind_bx, ↓on_ox, ↓seq_sx, bxok, bxexc, liftok, liftmap, oxok, oxexc, sxnx, sxret, sxexc, sxbrk, sxcnt, outret, outnx, outexc, bxite, oxite, sxite, outite, liftite, tellF, tellC, tellgl, tellsig, tellsub, tellfld, tellex, sval, setSl, tru, ln1, ln2, ln3, ln4, ln5, ln6, ln7, ln8, -List.all_eq_true, -List.any_eq_true, -List.all_eq_false, -List.any_eq_false]
        rw [enumD, forL_nx rfl step]
        exact ih
      · have hpx' : p x (xs.take i) = false := by simpa using hpx
        have e : firstBad most p xs i (x :: r) = some i := by simp only [firstBad]; rw [q', hpx']; rfl
        rw [e]
        refine forL_ret (ρ1 := [.val (.tup xs), .val (optD most), .val (.clo k caps), .val (.int i), .val x]) rfl ?_
        unfold w_wrong_at_0
        rw [evS, evS, test, hpx']
        simp -dsimp [evS, evE, evA, evT, evC, evP, evI, evO, ↓bind_bx, ↓on_ox, ↓seq_sx, bxok, bxexc, liftok, liftmap, oxok, oxexc, sxnx, sxret, sxexc, sxbrk, sxcnt, outret, outnx, outexc, bxite, oxite, sxite, outite, liftite, tellF, tellC, tellgl, tellsig, tellsub, tellfld, tellex, sval, setSl, tru, ln1, ln2, ln3, ln4, ln5, ln6, ln7, ln8, -List.all_eq_true, -List.any_eq_true, -List.all_eq_false, -List.any_eq_false]
theorem wrong_at_ev (n : Nat) (xs : List D) (most : Option Nat) (k : Nat) (caps : List D) (p : D → List D → Bool) (st : St) (hp : st.all plas = true)
    (hc : ∀ i x, xs[i]? = some x → (∀ j y, j < i → xs[j]? = some y → p y (xs.take j) = true) → (∀ m, most = some m → i < m) → callC PR n k caps [x, .tup (xs.take i)] st = .ok (.bl (p x (xs.take i))) st ∧ pla x = true ∧ plas (xs.take i) = true) :
    callF PR (n + 1) g_wrong_at [.tup xs, optD most, .clo k caps] st = .ok (badD (firstBad most p xs 0 xs)) st := by
  have h := wrong_at_loop n xs most k caps p st hp hc xs 0 .no .no rfl (fun j y hj => by omega)
  rw [c_wrong_at]
  simp -dsimp [evS, evE, evA, evT, evC, evP, evI, evO, ↓bind_bx, ↓on_ox, ↓seq_sx, bxok, bxexc, liftok, liftmap, oxok, oxexc, sxnx, sxret, sxexc, sxbrk, sxcnt, outret, outnx, outexc, bxite, oxite, sxite, outite, liftite, tellF, tellC, tellgl, tellsig, tellsub, tellfld, tellex, sval, setSl, tru, ln1, ln2, ln3, ln4, ln5, ln6, ln7, ln8, -List.all_eq_true, -List.any_eq_true, -List.all_eq_false, -List.any_eq_false, b_wrong_at, isiD, seqD]
  cases e : firstBad most p xs 0 xs with
  | some j => rw [e] at h; simp only at h; rw [h]; simp -dsimp [evS, evE, evA, evT, evC, evP, evI, evO, ↓bind_bx, ↓on_ox, ↓seq_sx, bxok, bxexc, liftok, liftmap, oxok, oxexc, sxnx, sxret, sxexc, sxbrk, sxcnt, outret, outnx, outexc, bxite, oxite, sxite, outite, liftite, tellF, tellC, tellgl, tellsig, tellsub, tellfld, tellex, sval, setSl, tru, ln1, ln2, ln3, ln4, ln5, ln6, ln7, ln8, -List.all_eq_true, -List.any_eq_true, -List.all_eq_false, -List.any_eq_false, badD]
  | none =>
    rw [e] at h
    obtain ⟨ρ', h⟩ := h
    rw [h]; simp -dsimp [evS, evE, evA, evT, evC, evP, evI, evO, ↓bind_bx, ↓on_ox, ↓seq_sx, bxok, bxexc, liftok, liftmap, oxok, oxexc, sxnx, sxret, sxexc, sxbrk, sxcnt, outret, outnx, outexc, bxite, oxite, sxite, outite, liftite, tellF, tellC, tellgl, tellsig, tellsub, tellfld, tellex, sval, setSl, tru, ln1, ln2, ln3, ln4, ln5, ln6, ln7, ln8, -List.all_eq_true, -List.any_eq_true, -List.all_eq_false, -List.any_eq_false, badD]
theorem wrong_at_non (n : Nat) (d m : D) (k : Nat) (caps : List D) (st : St) (h : val1 d = true) (h2 : ∀ xs, d ≠ .tup xs) : callF PR (n + 1) g_wrong_at [d, m, .clo k caps] st = .ok (.lst [.non]) st := by
  rw [c_wrong_at]
  cases d <;> first | (cases h; done) | (exact absurd rfl (h2 _)) | (simp -dsimp [evS, evE, evA, evT, evC, evP, evI, evO, ↓bind_bx, ↓on_ox, ↓seq_sx, bxok, bxexc, liftok, liftmap, oxok, oxexc, sxnx, sxret, sxexc, sxbrk, sxcnt, outret, outnx, outexc, bxite, oxite, sxite, outite, liftite, tellF, tellC, tellgl, tellsig, tellsub, tellfld, tellex, sval, setSl, tru, ln1, ln2, ln3, ln4, ln5, ln6, ln7, ln8, -List.all_eq_true, -List.any_eq_true, -List.all_eq_false, -List.any_eq_false, b_wrong_at, isiD]; done)
end K84
end

section
set_option linter.all false
set_option maxRecDepth 100000
set_option maxHeartbeats 4000000
set_option backward.isDefEq.respectTransparency false
namespace K84
open DV
def lastLt (x : D) (before : List D) : Bool := match before.getLast?, x with
  | none, _ => true | some (.str z), .str w => decide (z < w) | _, _ => false
def pThing (x : D) (before : List D) : Bool := nameB x && lastLt x before
def isStr : D → Bool
  | .str _ => true | _ => false
theorem nameB_str {d : D} (h : nameB d = true) : ∃ x, d = .str x ∧ x ≠ [] ∧ (∀ c ∈ x, c ∈ lettersC) ∧ x.length ≤ 8 ∧ x ∉ wordsC := by
  cases d with
  | str x =>
    simp only [nameB, Bool.and_eq_true, decide_eq_true_eq, Bool.not_eq_true', List.isEmpty_eq_false_iff, List.all_eq_true, decide_eq_false_iff_not] at h
    exact ⟨x, rfl, h.1.1.1, h.1.1.2, h.1.2, h.2⟩
  | _ => cases h
theorem letters_lt {c : Nat} (h : c ∈ lettersC) : c < 128 := by
  have : lettersC.all (fun c => decide (c < 128)) = true := by decide
  exact of_decide_eq_true (List.all_eq_true.mp this c h)
theorem nameB_dat {d : D} (h : nameB d = true) : dat d = true := by
  obtain ⟨x, rfl, _, h2, _, _⟩ := nameB_str h
  simp only [dat, PySem.PyData.strOk]
  rw [← Array.all_toList, List.all_eq_true]
  intro c hc
  have := letters_lt (h2 c hc)
  simp
  omega
theorem nameB_dep {d : D} (h : nameB d = true) : dep d = 0 := by
  obtain ⟨x, rfl, _, h2, _, _⟩ := nameB_str h
  rfl
theorem dats_of {xs : List D} (h : ∀ x ∈ xs, dat x = true) : dats xs = true := by
  induction xs with
  | nil => rfl
  | cons x r ih => simp [dats, h x (List.mem_cons_self ..), ih fun y hy => h y (List.mem_cons_of_mem _ hy)]
theorem deps_of {xs : List D} {k : Nat} (h : ∀ x ∈ xs, dep x ≤ k) : deps xs ≤ k := by
  induction xs with
  | nil => simp [deps]
  | cons x r ih =>
    have := h x (List.mem_cons_self ..)
    have := ih fun y hy => h y (List.mem_cons_of_mem _ hy)
    simp only [deps]; omega
theorem shp_tup {xs : List D} (h1 : ∀ x ∈ xs, dat x = true) (h2 : ∀ x ∈ xs, dep x ≤ 63) : shp (.tup xs) = true := by
  have := deps_of h2
  simp [shp, dat, dep, dats_of h1]; omega
theorem shp_lst {xs : List D} (h1 : ∀ x ∈ xs, dat x = true) (h2 : ∀ x ∈ xs, dep x ≤ 63) : shp (.lst xs) = true := by
  have := deps_of h2
  simp [shp, dat, dep, dats_of h1]; omega
theorem eqDs_nil (xs : List D) : eqDs xs [] = xs.isEmpty := by cases xs <;> simp [eqDs]
theorem atD_last {α : Type} (xs : List α) (x : α) : atD (xs ++ [x]) (-1) = some x := by
  simp [atD, ixD]
  rw [if_pos (by omega)]
  simp
  rw [show (-1 + ((xs.length : Int) + 1)).toNat = xs.length from by omega]
  simp
theorem is_above_last_ev (n : Nat) (x : D) (before : List D) (st : St) (hx : isStr x = true) (h : ∀ y ∈ before, nameB y = true) : callF PR (n + 1) g_is_above_last [x, .tup before] st = .ok (.bl (lastLt x before)) st := by
  rw [c_is_above_last]
  have hs : shp (.tup before) = true := shp_tup (fun y hy => nameB_dat (h y hy)) fun y hy => by rw [nameB_dep (h y hy)]; omega
  have he : shp (.tup []) = true := rfl
  cases x <;> first | (cases hx; done) | skip
  case str w =>
  cases e : before.reverse with
  | nil =>
    have : before = [] := by simpa using e
    subst this
    simp -dsimp [evS, evE, evA, evT, evC, evP, evI, evO, ↓bind_bx, ↓on_ox, ↓seq_sx, bxok, bxexc, liftok, liftmap, oxok, oxexc, sxnx, sxret, sxexc, sxbrk, sxcnt, outret, outnx, outexc, bxite, oxite, sxite, outite, liftite, tellF, tellC, tellgl, tellsig, tellsub, tellfld, tellex, sval, setSl, tru, ln1, ln2, ln3, ln4, ln5, ln6, ln7, ln8, -List.all_eq_true, -List.any_eq_true, -List.all_eq_false, -List.any_eq_false, b_is_above_last, cmpD, eqv2, he, eqD, eqDs, lastLt]
  | cons a r =>
    have : before = r.reverse ++ [a] := by
      have := congrArg List.reverse e
      simpa using this
    subst this
    obtain ⟨z, rfl, -⟩ := nameB_str (h a (by simp))
    have hz : eqDs (r.reverse ++ [D.str z]) [] = false := by rw [eqDs_nil]; simp
    simp -dsimp [evS, evE, evA, evT, evC, evP, evI, evO, ↓bind_bx, ↓on_ox, ↓seq_sx, bxok, bxexc, liftok, liftmap, oxok, oxexc, sxnx, sxret, sxexc, sxbrk, sxcnt, outret, outnx, outexc, bxite, oxite, sxite, outite, liftite, tellF, tellC, tellgl, tellsig, tellsub, tellfld, tellex, sval, setSl, tru, ln1, ln2, ln3, ln4, ln5, ln6, ln7, ln8, -List.all_eq_true, -List.any_eq_true, -List.all_eq_false, -List.any_eq_false, b_is_above_last, cmpD, eqv2, hs, he, eqD, hz, optI, subD, atD_last, ordD, lastLt]
/-- what stays nice -/
theorem nice_txt1 {d : D} (h : nice d = true) : txt1 d = true := by
  cases d <;> first | rfl | skip
  case str x =>
    simp only [nice, txt1, Bool.and_eq_true, decide_eq_true_eq, List.all_eq_true] at h ⊢
    exact ⟨h.1, fun c hc => by have := h.2 c hc; omega⟩
mutual
theorem nice_pla : ∀ d : D, nice d = true → pla d = true
  | .non, _ => rfl
  | .bl _, _ => rfl
  | .int _, _ => rfl
  | .str _, _ => rfl
  | .tup xs, h => by simp only [pla]; exact nices_plas xs (by simpa [nice] using h)
  | .lst xs, h => by simp only [pla]; exact nices_plas xs (by simpa [nice] using h)
  | .fro _, h => by simp [nice] at h
  | .dic _ _, h => by simp [nice] at h
  | .ref _, h => by simp [nice] at h
  | .fn _, h => by simp [nice] at h
  | .clo _ _, h => by simp [nice] at h
theorem nices_plas : ∀ xs : List D, nices xs = true → plas xs = true
  | [], _ => rfl
  | x :: r, h => by
    simp only [nices, Bool.and_eq_true] at h
    simp only [plas, Bool.and_eq_true]
    exact ⟨nice_pla x h.1, nices_plas r h.2⟩
end
theorem plas_iff {xs : List D} : plas xs = true ↔ ∀ x ∈ xs, pla x = true := by
  induction xs with
  | nil => simp [plas]
  | cons x r ih => simp [plas, ih]
theorem pla_badD (o : Option Nat) : pla (badD o) = true := by cases o <;> rfl
theorem v_MOST_THINGS' : PR.glos[k_MOST_THINGS]? = some (.int 6) := rfl
def thingsB : D → Bool
  | .tup xs => (firstBad (some 6) pThing xs 0 xs).isNone
  | _ => false
def thingsD : D → D
  | .tup xs => badD (firstBad (some 6) pThing xs 0 xs)
  | _ => .lst [.non]
theorem take_names {p : D → List D → Bool} (hp : ∀ x l, p x l = true → nameB x = true) {xs : List D} {i : Nat} (h : ∀ j y, j < i → xs[j]? = some y → p y (xs.take j) = true) : ∀ y ∈ xs.take i, nameB y = true := by
  intro y hy
  obtain ⟨j, hj, e⟩ := List.mem_iff_getElem.mp hy
  rw [List.length_take] at hj
  refine hp _ _ (h j y (by omega) ?_)
  rw [List.getElem_take] at e
  rw [List.getElem?_eq_getElem (by omega), e]
theorem things_clo (n : Nat) (x : D) (before : List D) (st : St) (hx : nice x = true) (hb : ∀ y ∈ before, nameB y = true) : callC PR (n + 3) m_wrong_things_0 [] [x, .tup before] st = .ok (.bl (pThing x before)) st := by
  rw [c_lam_wrong_things_0]
  by_cases h : nameB x = true
  · obtain ⟨z, e, -⟩ := nameB_str h
    simp -dsimp [evS, evE, evA, evT, evC, evP, evI, evO, ↓bind_bx, ↓on_ox, ↓seq_sx, bxok, bxexc, liftok, liftmap, oxok, oxexc, sxnx, sxret, sxexc, sxbrk, sxcnt, outret, outnx, outexc, bxite, oxite, sxite, outite, liftite, tellF, tellC, tellgl, tellsig, tellsub, tellfld, tellex, sval, setSl, tru, ln1, ln2, ln3, ln4, ln5, ln6, ln7, ln8, -List.all_eq_true, -List.any_eq_true, -List.all_eq_false, -List.any_eq_false, l_wrong_things_0, is_name_ev, nice_val1 hx, nice_txt1 hx, h, is_above_last_ev (n + 1) x before _ (by rw [e]; rfl) hb, pThing]
  · have h : nameB x = false := by simpa using h
    simp -dsimp [evS, evE, evA, evT, evC, evP, evI, evO, ↓bind_bx, ↓on_ox, ↓seq_sx, bxok, bxexc, liftok, liftmap, oxok, oxexc, sxnx, sxret, sxexc, sxbrk, sxcnt, outret, outnx, outexc, bxite, oxite, sxite, outite, liftite, tellF, tellC, tellgl, tellsig, tellsub, tellfld, tellex, sval, setSl, tru, ln1, ln2, ln3, ln4, ln5, ln6, ln7, ln8, -List.all_eq_true, -List.any_eq_true, -List.all_eq_false, -List.any_eq_false, l_wrong_things_0, is_name_ev, nice_val1 hx, nice_txt1 hx, h, pThing]
theorem wrong_things_ev (n : Nat) (d : D) (st : St) (h : nice d = true) (hp : st.all plas = true) : callF PR (n + 5) g_wrong_things [d] st = .ok (thingsD d) st := by
  rw [c_wrong_things]
  cases d with
  | tup xs =>
    have hn : ∀ x ∈ xs, nice x = true := nices_iff.mp (by simpa [nice] using h)
    have : callF PR (n + 4) g_wrong_at [.tup xs, .int 6, .clo m_wrong_things_0 []] st = .ok (badD (firstBad (some 6) pThing xs 0 xs)) st := wrong_at_ev (n + 3) xs (some 6) m_wrong_things_0 [] pThing st hp fun i x hx ha _ => by
      have hb := take_names (p := pThing) (fun x l q => by simp only [pThing, Bool.and_eq_true] at q; exact q.1) ha
      exact ⟨things_clo n x _ st (hn x (List.mem_of_getElem? hx)) hb, nice_pla x (hn x (List.mem_of_getElem? hx)), plas_iff.mpr fun y hy => nice_pla y (hn y (List.mem_of_mem_take hy))⟩
    simp -dsimp [evS, evE, evA, evT, evC, evP, evI, evO, ↓bind_bx, ↓on_ox, ↓seq_sx, bxok, bxexc, liftok, liftmap, oxok, oxexc, sxnx, sxret, sxexc, sxbrk, sxcnt, outret, outnx, outexc, bxite, oxite, sxite, outite, liftite, tellF, tellC, tellgl, tellsig, tellsub, tellfld, tellex, sval, setSl, tru, ln1, ln2, ln3, ln4, ln5, ln6, ln7, ln8, -List.all_eq_true, -List.any_eq_true, -List.all_eq_false, -List.any_eq_false, b_wrong_things, v_MOST_THINGS', this, plR, pla_badD, hp, thingsD]
  | _ =>
    all_goals (have := wrong_at_non (n + 3) _ (.int 6) m_wrong_things_0 [] st (nice_val1 h) (fun xs e => by cases e); simp -dsimp [evS, evE, evA, evT, evC, evP, evI, evO, ↓bind_bx, ↓on_ox, ↓seq_sx, bxok, bxexc, liftok, liftmap, oxok, oxexc, sxnx, sxret, sxexc, sxbrk, sxcnt, outret, outnx, outexc, bxite, oxite, sxite, outite, liftite, tellF, tellC, tellgl, tellsig, tellsub, tellfld, tellex, sval, setSl, tru, ln1, ln2, ln3, ln4, ln5, ln6, ln7, ln8, -List.all_eq_true, -List.any_eq_true, -List.all_eq_false, -List.any_eq_false, b_wrong_things, v_MOST_THINGS', this, plR, pla, plas, hp, thingsD])
end K84
end

section
set_option linter.all false
set_option maxRecDepth 100000
set_option maxHeartbeats 4000000
set_option backward.isDefEq.respectTransparency false
namespace K84
open DV
theorem firstBad_none {most : Option Nat} {p : D → List D → Bool} {all : List D} : ∀ {rest : List D} {i : Nat}, firstBad most p all i rest = none ↔ ∀ j x, rest[j]? = some x → overB most (i + j) = false ∧ p x (all.take (i + j)) = true
  | [], i => by simp [firstBad]
  | a :: r, i => by
    simp only [firstBad]
    have ih := @firstBad_none most p all r (i + 1)
    by_cases h : (overB most i || !p a (all.take i)) = true
    · rw [if_pos h]
      refine ⟨fun q => (by cases q), fun q => ?_⟩
      have := q 0 a rfl
      simp only [Nat.add_zero] at this
      rw [this.1, this.2] at h
      cases h
    · rw [if_neg h, ih]
      simp only [Bool.or_eq_true, not_or, Bool.not_eq_true, Bool.not_eq_false'] at h
      constructor
      · intro q j x hj
        cases j with
        | zero => cases hj; simpa using h
        | succ j => have := q j x (by simpa using hj); rwa [show i + (j + 1) = i + 1 + j from by omega]
      · intro q j x hj
        have := q (j + 1) x (by simpa using hj)
        rwa [show i + (j + 1) = i + 1 + j from by omega] at this
theorem thingsB_le {xs : List D} (h : thingsB (.tup xs) = true) : xs.length ≤ 6 ∧ ∀ x ∈ xs, nameB x = true := by
  have h : firstBad (some 6) pThing xs 0 xs = none := by simpa [thingsB] using h
  have h := firstBad_none.mp h
  constructor
  · rcases Nat.lt_or_ge 6 xs.length with q | q
    · have := (h 6 xs[6] (by simp)).1
      simp [overB] at this
    · exact q
  · intro x hx
    obtain ⟨j, hj, e⟩ := List.mem_iff_getElem.mp hx
    have := (h j x (by rw [List.getElem?_eq_getElem hj, e])).2
    simp only [pThing, Bool.and_eq_true] at this
    exact this.1
theorem lot_number_ev (n : Nat) (xs : List D) (st : St) (h : xs.length ≤ 1000) : callF PR (n + 1) g_lot_number [.tup xs] st = .ok (.int (2 ^ xs.length)) st := by
  rw [c_lot_number]
  have h1 : (0 : Int) ≤ xs.length ∧ (xs.length : Int) ≤ 1000000 := by omega
  simp -dsimp [evS, evE, evA, evT, evC, evP, evI, evO, ↓bind_bx, ↓on_ox, ↓seq_sx, bxok, bxexc, liftok, liftmap, oxok, oxexc, sxnx, sxret, sxexc, sxbrk, sxcnt, outret, outnx, outexc, bxite, oxite, sxite, outite, liftite, tellF, tellC, tellgl, tellsig, tellsub, tellfld, tellex, sval, setSl, tru, ln1, ln2, ln3, ln4, ln5, ln6, ln7, ln8, -List.all_eq_true, -List.any_eq_true, -List.all_eq_false, -List.any_eq_false, b_lot_number, bltD, bLen, binD, h1]
theorem is_let_number_ev (n : Nat) (d : D) (st : St) (h : val1 d = true) : callF PR (n + 3) g_is_let_number [d] st = .ok (.bl (numB (-99) 99 d)) st := by
  rw [c_is_let_number]
  simp -dsimp [evS, evE, evA, evT, evC, evP, evI, evO, ↓bind_bx, ↓on_ox, ↓seq_sx, bxok, bxexc, liftok, liftmap, oxok, oxexc, sxnx, sxret, sxexc, sxbrk, sxcnt, outret, outnx, outexc, bxite, oxite, sxite, outite, liftite, tellF, tellC, tellgl, tellsig, tellsub, tellfld, tellex, sval, setSl, tru, ln1, ln2, ln3, ln4, ln5, ln6, ln7, ln8, -List.all_eq_true, -List.any_eq_true, -List.all_eq_false, -List.any_eq_false, b_is_let_number, v_MOST_NUMBER, binD, is_number_ev, h]
def gameB : D → Bool
  | .tup [a, .tup ys] => match a with
    | .tup xs => thingsB (.tup xs) && decide (ys.length = 2 ^ xs.length) && ys.all (numB (-99) 99)
    | _ => false
  | _ => false
theorem thingsD_eq (d : D) : cmpD .ne (thingsD d) (.lst []) = some (!thingsB d) := by
  cases d <;> first | rfl | skip
  case tup xs => cases e : firstBad (some 6) pThing xs 0 xs <;> simp [thingsD, thingsB, cmpD, eqv2, badD, shp, dat, dats, dep, deps, eqD, eqDs, e]
theorem is_game_form_ev (n : Nat) (d : D) (st : St) (h : nice d = true) (hp : st.all plas = true) : callF PR (n + 6) g_is_game_form [d] st = .ok (.bl (gameB d)) st := by
  rw [c_is_game_form]
  have e1 : callF PR (n + 5) g_is_tuple_of [d, .int 2] st = .ok (.bl (tupB 2 d)) st := is_tuple_of_ev (n + 4) d 2 st (nice_val1 h)
  by_cases hd : ∃ a b, d = .tup [a, b]
  · obtain ⟨a, b, rfl⟩ := hd
    have hab : nice a = true ∧ nice b = true := by simpa [nice, nices] using h
    have ha := wrong_things_ev n a st hab.1 hp
    have ht : tupB 2 (.tup [a, b]) = true := rfl
    by_cases hw : thingsB a = true
    · cases a <;> first | (cases hw; done) | skip
      case tup xs =>
      have h2 : callF PR (n + 5) g_is_tuple_of [b, .int (2 ^ xs.length)] st = .ok (.bl (tupB (2 ^ xs.length) b)) st := by have := is_tuple_of_ev (n + 4) b (2 ^ xs.length) st (nice_val1 hab.2); simpa using this
      have hl := lot_number_ev (n + 4) xs st (Nat.le_trans (thingsB_le hw).1 (by omega))
      by_cases hb : tupB (2 ^ xs.length) b = true
      · cases b <;> first | (cases hb; done) | skip
        case tup ys =>
        have hys : ys.length = 2 ^ xs.length := by simpa [tupB] using hb
        have hy : ys.length ≤ line := by
          rw [hys]
          exact Nat.le_trans (Nat.pow_le_pow_right (by omega) (thingsB_le hw).1) (by decide)
        simp -dsimp [evS, evE, evA, evT, evC, evP, evI, evO, ↓bind_bx, ↓on_ox, ↓seq_sx, bxok, bxexc, liftok, liftmap, oxok, oxexc, sxnx, sxret, sxexc, sxbrk, sxcnt, outret, outnx, outexc, bxite, oxite, sxite, outite, liftite, tellF, tellC, tellgl, tellsig, tellsub, tellfld, tellex, sval, setSl, tru, ln1, ln2, ln3, ln4, ln5, ln6, ln7, ln8, -List.all_eq_true, -List.any_eq_true, -List.all_eq_false, -List.any_eq_false, b_is_game_form, e1, ht, subD, atD, ixD, ha, thingsD_eq, hw, hl, h2, hb, itD, wipe]
        have hl := lcAll (fun d : D => d) (fun d => D.bl (numB (-99) 99 d)) ys (tg := .nm 1) (ρ := [.val (.tup [.tup xs, .tup ys]), .no]) (cond := evC (tell PR (n + 5)) .nil) (elt := evE (tell PR (n + 5)) (.call g_is_let_number (.cons (.var 1) .nil) .nil)) (st := st)
          fun c hc => ⟨_, rfl, by simp -dsimp [evS, evE, evA, evT, evC, evP, evI, evO, ↓bind_bx, ↓on_ox, ↓seq_sx, bxok, bxexc, liftok, liftmap, oxok, oxexc, sxnx, sxret, sxexc, sxbrk, sxcnt, outret, outnx, outexc, bxite, oxite, sxite, outite, liftite, tellF, tellC, tellgl, tellsig, tellsub, tellfld, tellex, sval, setSl, tru, ln1, ln2, ln3, ln4, ln5, ln6, ln7, ln8, -List.all_eq_true, -List.any_eq_true, -List.all_eq_false, -List.any_eq_false], by simp -dsimp [evS, evE, evA, evT, evC, evP, evI, evO, ↓bind_bx, ↓on_ox, ↓seq_sx, bxok, bxexc, liftok, liftmap, oxok, oxexc, sxnx, sxret, sxexc, sxbrk, sxcnt, outret, outnx, outexc, bxite, oxite, sxite, outite, liftite, tellF, tellC, tellgl, tellsig, tellsub, tellfld, tellex, sval, setSl, tru, ln1, ln2, ln3, ln4, ln5, ln6, ln7, ln8, -List.all_eq_true, -List.any_eq_true, -List.all_eq_false, -List.any_eq_false, is_let_number_ev, nice_val1 (nices_iff.mp (by simpa [nice] using hab.2) c hc)]⟩
        rw [List.map_id'] at hl
        rw [hl]
        simp -dsimp [evS, evE, evA, evT, evC, evP, evI, evO, ↓bind_bx, ↓on_ox, ↓seq_sx, bxok, bxexc, liftok, liftmap, oxok, oxexc, sxnx, sxret, sxexc, sxbrk, sxcnt, outret, outnx, outexc, bxite, oxite, sxite, outite, liftite, tellF, tellC, tellgl, tellsig, tellsub, tellfld, tellex, sval, setSl, tru, ln1, ln2, ln3, ln4, ln5, ln6, ln7, ln8, -List.all_eq_true, -List.any_eq_true, -List.all_eq_false, -List.any_eq_false, noexok, hy, bltD, bAll, allBl_map, gameB, hw]
        simp [hys]
      · have hb : tupB (2 ^ xs.length) b = false := by simpa using hb
        simp -dsimp [evS, evE, evA, evT, evC, evP, evI, evO, ↓bind_bx, ↓on_ox, ↓seq_sx, bxok, bxexc, liftok, liftmap, oxok, oxexc, sxnx, sxret, sxexc, sxbrk, sxcnt, outret, outnx, outexc, bxite, oxite, sxite, outite, liftite, tellF, tellC, tellgl, tellsig, tellsub, tellfld, tellex, sval, setSl, tru, ln1, ln2, ln3, ln4, ln5, ln6, ln7, ln8, -List.all_eq_true, -List.any_eq_true, -List.all_eq_false, -List.any_eq_false, b_is_game_form, e1, ht, subD, atD, ixD, ha, thingsD_eq, hw, hl, h2, hb]
        cases b <;> simp [gameB]
        case tup ys => intro _ q; simp [tupB, q] at hb
    · have hw : thingsB a = false := by simpa using hw
      simp -dsimp [evS, evE, evA, evT, evC, evP, evI, evO, ↓bind_bx, ↓on_ox, ↓seq_sx, bxok, bxexc, liftok, liftmap, oxok, oxexc, sxnx, sxret, sxexc, sxbrk, sxcnt, outret, outnx, outexc, bxite, oxite, sxite, outite, liftite, tellF, tellC, tellgl, tellsig, tellsub, tellfld, tellex, sval, setSl, tru, ln1, ln2, ln3, ln4, ln5, ln6, ln7, ln8, -List.all_eq_true, -List.any_eq_true, -List.all_eq_false, -List.any_eq_false, b_is_game_form, e1, ht, subD, atD, ixD, ha, thingsD_eq, hw]
      cases b <;> simp [gameB]
      cases a <;> simp
      case tup xs => simp [hw]
  · have : tupB 2 d = false := by
      cases d <;> first | rfl | skip
      case tup xs =>
        match xs, hd with
        | [], _ => rfl
        | [_], _ => rfl
        | [a, b], hd => exact absurd ⟨a, b, rfl⟩ hd
        | _ :: _ :: _ :: _, _ => simp [tupB]
    simp -dsimp [evS, evE, evA, evT, evC, evP, evI, evO, ↓bind_bx, ↓on_ox, ↓seq_sx, bxok, bxexc, liftok, liftmap, oxok, oxexc, sxnx, sxret, sxexc, sxbrk, sxcnt, outret, outnx, outexc, bxite, oxite, sxite, outite, liftite, tellF, tellC, tellgl, tellsig, tellsub, tellfld, tellex, sval, setSl, tru, ln1, ln2, ln3, ln4, ln5, ln6, ln7, ln8, -List.all_eq_true, -List.any_eq_true, -List.all_eq_false, -List.any_eq_false, b_is_game_form, e1, this]
    cases d <;> first | rfl | skip
    case tup xs =>
        match xs, hd with
        | [], _ => rfl
        | [_], _ => rfl
        | [a, b], hd => exact absurd ⟨a, b, rfl⟩ hd
        | _ :: _ :: _ :: _, _ => simp [gameB]
theorem check_game_ev (n : Nat) (d : D) (st : St) (h : nice d = true) (hp : st.all plas = true) : callF PR (n + 7) g_check_game [d] st = if gameB d then .ok .non st else .exc e_InvalidGame [d] st := by
  rw [c_check_game]
  have := is_game_form_ev n d st h hp
  cases e : gameB d <;> simp -dsimp [evS, evE, evA, evT, evC, evP, evI, evO, ↓bind_bx, ↓on_ox, ↓seq_sx, bxok, bxexc, liftok, liftmap, oxok, oxexc, sxnx, sxret, sxexc, sxbrk, sxcnt, outret, outnx, outexc, bxite, oxite, sxite, outite, liftite, tellF, tellC, tellgl, tellsig, tellsub, tellfld, tellex, sval, setSl, tru, ln1, ln2, ln3, ln4, ln5, ln6, ln7, ln8, -List.all_eq_true, -List.any_eq_true, -List.all_eq_false, -List.any_eq_false, b_check_game, this, e, f_InvalidGame]
theorem check_games_ev (n : Nat) (d d2 : D) (st : St) (h : nice d = true) (h2 : nice d2 = true) (hp : st.all plas = true) : callF PR (n + 8) g_check_games [d, d2] st = if gameB d then (if gameB d2 then .ok .non st else .exc e_InvalidGame [d2] st) else .exc e_InvalidGame [d] st := by
  rw [c_check_games]
  have e1 := check_game_ev n d st h hp
  have e2 := check_game_ev n d2 st h2 hp
  cases e : gameB d <;> cases e' : gameB d2 <;> simp -dsimp [evS, evE, evA, evT, evC, evP, evI, evO, ↓bind_bx, ↓on_ox, ↓seq_sx, bxok, bxexc, liftok, liftmap, oxok, oxexc, sxnx, sxret, sxexc, sxbrk, sxcnt, outret, outnx, outexc, bxite, oxite, sxite, outite, liftite, tellF, tellC, tellgl, tellsig, tellsub, tellfld, tellex, sval, setSl, tru, ln1, ln2, ln3, ln4, ln5, ln6, ln7, ln8, -List.all_eq_true, -List.any_eq_true, -List.all_eq_false, -List.any_eq_false, b_check_games, e1, e2, e, e']
end K84
end

section
set_option linter.all false
set_option maxRecDepth 100000
set_option maxHeartbeats 4000000
set_option backward.isDefEq.respectTransparency false
namespace K84
open DV
theorem has_at_ev (n : Nat) (p i : Nat) (st : St) : callF PR (n + 1) g_has_at [.int p, .int i] st = .ok (.bl (p.testBit i)) st := by
  rw [c_has_at]
  have h1 : (0 : Int) ≤ i := by omega
  have h2 := hasAt_nat p i
  simp -dsimp [evS, evE, evA, evT, evC, evP, evI, evO, ↓bind_bx, ↓on_ox, ↓seq_sx, bxok, bxexc, liftok, liftmap, oxok, oxexc, sxnx, sxret, sxexc, sxbrk, sxcnt, outret, outnx, outexc, bxite, oxite, sxite, outite, liftite, tellF, tellC, tellgl, tellsig, tellsub, tellfld, tellex, sval, setSl, tru, ln1, ln2, ln3, ln4, ln5, ln6, ln7, ln8, -List.all_eq_true, -List.any_eq_true, -List.all_eq_false, -List.any_eq_false, b_has_at, binD, h1, cmpD, eqv2, shp, dat, dep, eqD, h2]
def ordN (names : List (List Nat)) : List Nat := (sortS names).map fun t => names.idxOf t
def renT (names : List (List Nat)) (table : List D) : List D := (List.range (2 ^ names.length)).map fun p => atN table (plc (ordN names) p)
theorem ordN_length (names : List (List Nat)) : (ordN names).length = names.length := by simp [ordN, sortS_length]
theorem ordN_lt {names : List (List Nat)} : ∀ x ∈ ordN names, x < names.length := by
  intro x hx
  obtain ⟨t, ht, rfl⟩ := List.mem_map.mp hx
  exact List.idxOf_lt_length_of_mem ((sortS_perm names).mem_iff.mp ht)
theorem ordN_nodup {names : List (List Nat)} (h : names.Nodup) : (ordN names).Nodup := by
  rw [List.nodup_iff_pairwise_ne, ordN, List.pairwise_map]
  refine List.Pairwise.imp_of_mem ?_ (sortS_nodup h)
  intro a b ha hb hab e
  have ha := (sortS_perm names).mem_iff.mp ha
  have hb := (sortS_perm names).mem_iff.mp hb
  have h1 := List.getElem_idxOf (List.idxOf_lt_length_of_mem ha)
  have h2 := List.getElem_idxOf (List.idxOf_lt_length_of_mem hb)
  apply hab
  rw [← h1, ← h2]
  congr 1
theorem plc_ord_lt {names : List (List Nat)} (h : names.Nodup) (p : Nat) : plc (ordN names) p < 2 ^ names.length := plc_lt (ordN_nodup h) ordN_lt
theorem allInt_ints (l : List Int) : allInt (l.map .int) = some l := by
  have := allInt_map (fun i : Int => i) l
  simpa using this
theorem getD_map {α β : Type} (f : α → β) (l : List α) (i : Nat) (d : α) (e : β) (h : i < l.length) : (l.map f).getD i e = f (l.getD i d) := by
  rw [getD_at _ 0 (by simpa using h), getD_at _ 0 h, List.getElem_map]
abbrev envRn (a : D) (names : List (List Nat)) (table : List D) (pre : List Nat) (s3 : Sl) : Env := [.val (.tup [a, .tup table]), .val (.tup (names.map .str)), .val (.lst ((sortS names).map fun t => D.int (names.idxOf t : Nat))), s3, .val (.tup ((sortS names).map .str)),
      .own (pre.map fun p => atN table (plc (ordN names) p)), .no, .no]
theorem renamed_in_ev (n : Nat) (a : D) (names : List (List Nat)) (table : List D) (st : St) (hn : names.Nodup) (h6 : names.length ≤ 6) (ht : table.length = 2 ^ names.length) :
    callF PR (n + 2) g_renamed_in [.tup [a, .tup table], .tup (names.map .str)] st = .ok (.tup [.tup ((sortS names).map .str), .tup (renT names table)]) st := by
  rw [c_renamed_in]
  have h64 : names.length < 64 := by omega
  have hl : (sortS names).length ≤ line := by rw [sortS_length]; exact Nat.le_trans h6 (by decide)
  have hp : 2 ^ names.length ≤ 64 := Nat.le_trans (Nat.pow_le_pow_right (by omega) h6) (by decide)
  have hlot := lot_number_ev n ((sortS names).map .str) st (by simp [sortS_length]; omega)
  have hpz : (-1000000 : Int) ≤ 2 ^ names.length ∧ (2 : Int) ^ names.length ≤ 1000000 := by
    have : ((2 ^ names.length : Nat) : Int) = 2 ^ names.length := by simp
    omega
  have hpn : ((2 : Int) ^ names.length).toNat = 2 ^ names.length := by
    have : ((2 ^ names.length : Nat) : Int) = 2 ^ names.length := by simp
    omega
  simp -dsimp [evS, evE, evA, evT, evC, evP, evI, evO, ↓bind_bx, ↓on_ox, ↓seq_sx, bxok, bxexc, liftok, liftmap, oxok, oxexc, sxnx, sxret, sxexc, sxbrk, sxcnt, outret, outnx, outexc, bxite, oxite, sxite, outite, liftite, tellF, tellC, tellgl, tellsig, tellsub, tellfld, tellex, sval, setSl, tru, ln1, ln2, ln3, ln4, ln5, ln6, ln7, ln8, -List.all_eq_true, -List.any_eq_true, -List.all_eq_false, -List.any_eq_false, b_renamed_in, bltD, bSorted_strs, h64, bTuple, setSls, itD, hl, wipe]
  rw [lcAll (fun t => D.str t) (fun t => D.int (names.idxOf t : Nat)) (sortS names) fun t ht => ⟨_, rfl, by simp -dsimp [evS, evE, evA, evT, evC, evP, evI, evO, ↓bind_bx, ↓on_ox, ↓seq_sx, bxok, bxexc, liftok, liftmap, oxok, oxexc, sxnx, sxret, sxexc, sxbrk, sxcnt, outret, outnx, outexc, bxite, oxite, sxite, outite, liftite, tellF, tellC, tellgl, tellsig, tellsub, tellfld, tellex, sval, setSl, tru, ln1, ln2, ln3, ln4, ln5, ln6, ln7, ln8, -List.all_eq_true, -List.any_eq_true, -List.all_eq_false, -List.any_eq_false], by
    simp -dsimp [evS, evE, evA, evT, evC, evP, evI, evO, ↓bind_bx, ↓on_ox, ↓seq_sx, bxok, bxexc, liftok, liftmap, oxok, oxexc, sxnx, sxret, sxexc, sxbrk, sxcnt, outret, outnx, outexc, bxite, oxite, sxite, outite, liftite, tellF, tellC, tellgl, tellsig, tellsub, tellfld, tellex, sval, setSl, tru, ln1, ln2, ln3, ln4, ln5, ln6, ln7, ln8, -List.all_eq_true, -List.any_eq_true, -List.all_eq_false, -List.any_eq_false, mtOk, index_strs t names ((sortS_perm names).mem_iff.mp ht)]⟩]
  simp -dsimp [evS, evE, evA, evT, evC, evP, evI, evO, ↓bind_bx, ↓on_ox, ↓seq_sx, bxok, bxexc, liftok, liftmap, oxok, oxexc, sxnx, sxret, sxexc, sxbrk, sxcnt, outret, outnx, outexc, bxite, oxite, sxite, outite, liftite, tellF, tellC, tellgl, tellsig, tellsub, tellfld, tellex, sval, setSl, tru, ln1, ln2, ln3, ln4, ln5, ln6, ln7, ln8, -List.all_eq_true, -List.any_eq_true, -List.all_eq_false, -List.any_eq_false, noexok, hl, hlot, optI, rngD_eq, sortS_length, hpz, hpn]
  obtain ⟨ρ', st', e, r1, s3, r2⟩ := forL_fold0 (fun (i : Nat) => D.int (i : Int)) (tg := .nm 3) (body := evS (tell PR (n + 1)) w_renamed_in_0)
    (fun pre ρ st' => st' = st ∧ ∃ s3, ρ = envRn a names table pre s3) (List.range (2 ^ names.length)) (ρ := envRn a names table [] .no) (st := st) ⟨rfl, .no, rfl⟩ (by
      rintro pre p r ρ st' hr ⟨rfl, s3, rfl⟩
      have hpl : pre.length < line := by
        have := congrArg List.length hr
        simp at this
        have h2 : 64 < line := by decide
        omega
      refine ⟨envRn a names table pre (.val (.int p)), st', envRn a names table (pre ++ [p]) (.val (.int p)), st', rfl, ?_, rfl, _, rfl⟩
      · simp -dsimp [evS, evE, evA, evT, evC, evP, evI, evO, ↓bind_bx, ↓on_ox, ↓seq_sx, bxok, bxexc, liftok, liftmap, oxok, oxexc, sxnx, sxret, sxexc, sxbrk, sxcnt, outret, outnx, outexc, bxite, oxite, sxite, outite, liftite, tellF, tellC, tellgl, tellsig, tellsub, tellfld, tellex, sval, setSl, tru, ln1, ln2, ln3, ln4, ln5, ln6, ln7, ln8, -List.all_eq_true, -List.any_eq_true, -List.all_eq_false, -List.any_eq_false, w_renamed_in_0, hpl, subD, at_1, bLen, bltD, optI, rngD_eq, sortS_length, wipe]
        have hz : (-1000000 : Int) ≤ names.length ∧ (names.length : Int) ≤ 1000000 := by omega
        simp -dsimp [evS, evE, evA, evT, evC, evP, evI, evO, ↓bind_bx, ↓on_ox, ↓seq_sx, bxok, bxexc, liftok, liftmap, oxok, oxexc, sxnx, sxret, sxexc, sxbrk, sxcnt, outret, outnx, outexc, bxite, oxite, sxite, outite, liftite, tellF, tellC, tellgl, tellsig, tellsub, tellfld, tellex, sval, setSl, tru, ln1, ln2, ln3, ln4, ln5, ln6, ln7, ln8, -List.all_eq_true, -List.any_eq_true, -List.all_eq_false, -List.any_eq_false, hz, subD, at_1]
        rw [lcMap (fun (i : Nat) => D.int (i : Int)) (fun i => D.int ((2 ^ at0 (ordN names) i : Nat) : Int)) (fun i => p.testBit i) (List.range names.length) fun i hi => ⟨_, rfl, by simp -dsimp [evS, evE, evA, evT, evC, evP, evI, evO, ↓bind_bx, ↓on_ox, ↓seq_sx, bxok, bxexc, liftok, liftmap, oxok, oxexc, sxnx, sxret, sxexc, sxbrk, sxcnt, outret, outnx, outexc, bxite, oxite, sxite, outite, liftite, tellF, tellC, tellgl, tellsig, tellsub, tellfld, tellex, sval, setSl, tru, ln1, ln2, ln3, ln4, ln5, ln6, ln7, ln8, -List.all_eq_true, -List.any_eq_true, -List.all_eq_false, -List.any_eq_false, has_at_ev], fun _ => by
          have hi := List.mem_range.mp hi
          have e1 : atD ((sortS names).map fun t => D.int (names.idxOf t : Nat)) (i : Int) = some (.int (at0 (ordN names) i)) := by
            rw [at_nat _ i (by simp [sortS_length, hi])]
            rw [at0_eq (by simp [ordN_length, hi])]
            simp [ordN]
          have hb : (0 : Int) ≤ (at0 (ordN names) i) ∧ ((at0 (ordN names) i) : Int) ≤ 1000000 := by
            have : at0 (ordN names) i < names.length := by
              rw [at0_eq (by simp [ordN_length, hi])]
              exact ordN_lt _ (List.getElem_mem _)
            omega
          simp -dsimp [evS, evE, evA, evT, evC, evP, evI, evO, ↓bind_bx, ↓on_ox, ↓seq_sx, bxok, bxexc, liftok, liftmap, oxok, oxexc, sxnx, sxret, sxexc, sxbrk, sxcnt, outret, outnx, outexc, bxite, oxite, sxite, outite, liftite, tellF, tellC, tellgl, tellsig, tellsub, tellfld, tellex, sval, setSl, tru, ln1, ln2, ln3, ln4, ln5, ln6, ln7, ln8, -List.all_eq_true, -List.any_eq_true, -List.all_eq_false, -List.any_eq_false, subD, e1, binD, hb]⟩]
        have hf : ((List.range names.length).filter fun i => p.testBit i).length ≤ line := Nat.le_trans (List.length_filter_le ..) (by simp; exact Nat.le_trans h6 (by decide))
        have hs : bSum [.lst (((List.range names.length).filter fun i => p.testBit i).map fun i => D.int (2 ^ at0 (ordN names) i))] = some (.int (plc (ordN names) p : Nat)) := by
          simp only [bSum, allInt_map, Option.map_some, Option.some.injEq, D.int.injEq]
          rw [plc, ← natSum, List.map_map, ordN_length]
          congr 1
        have hpt : plc (ordN names) p < table.length := by rw [ht]; exact plc_ord_lt hn p
        simp -dsimp [evS, evE, evA, evT, evC, evP, evI, evO, ↓bind_bx, ↓on_ox, ↓seq_sx, bxok, bxexc, liftok, liftmap, oxok, oxexc, sxnx, sxret, sxexc, sxbrk, sxcnt, outret, outnx, outexc, bxite, oxite, sxite, outite, liftite, tellF, tellC, tellgl, tellsig, tellsub, tellfld, tellex, sval, setSl, tru, ln1, ln2, ln3, ln4, ln5, ln6, ln7, ln8, -List.all_eq_true, -List.any_eq_true, -List.all_eq_false, -List.any_eq_false, noexok, hf, bltD, hs, subD, at_nat _ _ hpt]
        exact (atN_eq hpt).symm)
  subst r1 r2
  simp only [envRn, List.map_nil] at e
  have hl' : names.length ≤ line := Nat.le_trans h6 (by decide)
  simp only [hl', if_true, e]
  simp -dsimp [evS, evE, evA, evT, evC, evP, evI, evO, ↓bind_bx, ↓on_ox, ↓seq_sx, bxok, bxexc, liftok, liftmap, oxok, oxexc, sxnx, sxret, sxexc, sxbrk, sxcnt, outret, outnx, outexc, bxite, oxite, sxite, outite, liftite, tellF, tellC, tellgl, tellsig, tellsub, tellfld, tellex, sval, setSl, tru, ln1, ln2, ln3, ln4, ln5, ln6, ln7, ln8, -List.all_eq_true, -List.any_eq_true, -List.all_eq_false, -List.any_eq_false, renT, bTuple, bltD]
end K84
end

section
set_option linter.all false
set_option maxRecDepth 100000
set_option maxHeartbeats 4000000
set_option backward.isDefEq.respectTransparency false
namespace K84
open DV
abbrev Nm := List Nat
def stepO (names : List Nm) (found : List (List Nm)) : List (List Nm) := found.flatMap fun o => (names.filter fun x => !decide (x ∈ o)).map fun x => o ++ [x]
def ordersK (names : List Nm) : Nat → List (List Nm)
  | 0 => [[]]
  | k + 1 => stepO names (ordersK names k)
def nmD (o : List Nm) : D := .tup (o.map .str)
theorem ordersK_mem {names : List Nm} : ∀ {k : Nat} {o : List Nm}, o ∈ ordersK names k → o.Nodup ∧ o.length = k ∧ ∀ x ∈ o, x ∈ names
  | 0, o, h => by
    have : o = [] := by simpa [ordersK] using h
    subst this; simp
  | k + 1, o, h => by
    simp only [ordersK, stepO, List.mem_flatMap, List.mem_map, List.mem_filter] at h
    obtain ⟨o', ho', x, ⟨hx, hx2⟩, rfl⟩ := h
    obtain ⟨h1, h2, h3⟩ := ordersK_mem ho'
    refine ⟨?_, by simp [h2], fun y hy => ?_⟩
    · rw [List.nodup_append]
      refine ⟨h1, by simp, ?_⟩
      intro a ha b hb e
      have hb : b = x := by simpa using hb
      subst hb; subst e
      simp [ha] at hx2
    · rcases List.mem_append.mp hy with hy | hy
      · exact h3 y hy
      · have : y = x := by simpa using hy
        subst this; exact hx
theorem ordersK_length (names : List Nm) : ∀ k, (ordersK names k).length ≤ names.length ^ k
  | 0 => by simp [ordersK]
  | k + 1 => by
    have ih := ordersK_length names k
    simp only [ordersK, stepO, List.length_flatMap, List.length_map]
    have : ∀ l : List (List Nm), (l.map fun o => (names.filter fun x => !decide (x ∈ o)).length).sum ≤ l.length * names.length := fun l => by
      induction l with
      | nil => simp
      | cons o l ih =>
        simp only [List.map_cons, List.sum_cons, List.length_cons]
        have := List.length_filter_le (fun x => !decide (x ∈ o)) names
        rw [Nat.add_mul]; omega
    exact Nat.le_trans (this _) (by rw [Nat.pow_succ]; exact Nat.mul_le_mul_right _ ih)
theorem ordersK_line {names : List Nm} (h : names.length ≤ 6) {k : Nat} (hk : k ≤ 6) : (ordersK names k).length ≤ line := by
  refine Nat.le_trans (ordersK_length names k) (Nat.le_trans (Nat.pow_le_pow_left h k) (Nat.le_trans (Nat.pow_le_pow_right (by omega) hk) (by decide)))
theorem orders_of_ev (n : Nat) (names : List Nm) (st : St) (h6 : names.length ≤ 6) : callF PR (n + 1) g_orders_of [.tup (names.map .str)] st = .ok (.lst ((ordersK names names.length).map nmD)) st := by
  rw [c_orders_of]
  simp -dsimp [evS, evE, evA, evT, evC, evP, evI, evO, ↓bind_bx, ↓on_ox, ↓seq_sx, bxok, bxexc, liftok, liftmap, oxok, oxexc, sxnx, sxret, sxexc, sxbrk, sxcnt, outret, outnx, outexc, bxite, oxite, sxite, outite, liftite, tellF, tellC, tellgl, tellsig, tellsub, tellfld, tellex, sval, setSl, tru, ln1, ln2, ln3, ln4, ln5, ln6, ln7, ln8, -List.all_eq_true, -List.any_eq_true, -List.all_eq_false, -List.any_eq_false, b_orders_of, itD]
  obtain ⟨ρ', st', e, r1, s3, r2⟩ := forL_fold0 (fun (x : Nm) => D.str x) (tg := .nm 2) (body := evS (tell PR n) w_orders_of_0)
    (fun pre ρ st' => st' = st ∧ ∃ s3, ρ = [.val (.tup (names.map .str)), .val (.lst ((ordersK names pre.length).map nmD)), s3, .no, .no]) names (ρ := [.val (.tup (names.map .str)), .val (.lst [.tup []]), .no, .no, .no]) (st := st) ⟨rfl, .no, rfl⟩ (by
      rintro pre p r ρ st' hr ⟨rfl, s3, rfl⟩
      refine ⟨_, st', [.val (.tup (names.map .str)), .val (.lst ((ordersK names (pre ++ [p]).length).map nmD)), .val (.str p), .no, .no], st', rfl, ?_, rfl, _, rfl⟩
      have hk : pre.length < names.length := by
        have := congrArg List.length hr
        simp at this; omega
      simp -dsimp [evS, evE, evA, evT, evC, evP, evI, evO, ↓bind_bx, ↓on_ox, ↓seq_sx, bxok, bxexc, liftok, liftmap, oxok, oxexc, sxnx, sxret, sxexc, sxbrk, sxcnt, outret, outnx, outexc, bxite, oxite, sxite, outite, liftite, tellF, tellC, tellgl, tellsig, tellsub, tellfld, tellex, sval, setSl, tru, ln1, ln2, ln3, ln4, ln5, ln6, ln7, ln8, -List.all_eq_true, -List.any_eq_true, -List.all_eq_false, -List.any_eq_false, w_orders_of_0, itD, wipe]
      rw [lcMap2 nmD (fun o => ((names.filter fun x => !decide (x ∈ o)).map fun x => nmD (o ++ [x]))) (ordersK names pre.length) fun o ho => by
        obtain ⟨h1, h2, h3⟩ := ordersK_mem ho
        refine ⟨_, rfl, by simp -dsimp [evS, evE, evA, evT, evC, evP, evI, evO, ↓bind_bx, ↓on_ox, ↓seq_sx, bxok, bxexc, liftok, liftmap, oxok, oxexc, sxnx, sxret, sxexc, sxbrk, sxcnt, outret, outnx, outexc, bxite, oxite, sxite, outite, liftite, tellF, tellC, tellgl, tellsig, tellsub, tellfld, tellex, sval, setSl, tru, ln1, ln2, ln3, ln4, ln5, ln6, ln7, ln8, -List.all_eq_true, -List.any_eq_true, -List.all_eq_false, -List.any_eq_false], ?_⟩
        simp -dsimp [evS, evE, evA, evT, evC, evP, evI, evO, ↓bind_bx, ↓on_ox, ↓seq_sx, bxok, bxexc, liftok, liftmap, oxok, oxexc, sxnx, sxret, sxexc, sxbrk, sxcnt, outret, outnx, outexc, bxite, oxite, sxite, outite, liftite, tellF, tellC, tellgl, tellsig, tellsub, tellfld, tellex, sval, setSl, tru, ln1, ln2, ln3, ln4, ln5, ln6, ln7, ln8, -List.all_eq_true, -List.any_eq_true, -List.all_eq_false, -List.any_eq_false, itD, wipe]
        rw [lcMap (fun x => D.str x) (fun x => nmD (o ++ [x])) (fun x => !decide (x ∈ o)) names fun x hx => ⟨_, rfl, by simp -dsimp [evS, evE, evA, evT, evC, evP, evI, evO, ↓bind_bx, ↓on_ox, ↓seq_sx, bxok, bxexc, liftok, liftmap, oxok, oxexc, sxnx, sxret, sxexc, sxbrk, sxcnt, outret, outnx, outexc, bxite, oxite, sxite, outite, liftite, tellF, tellC, tellgl, tellsig, tellsub, tellfld, tellex, sval, setSl, tru, ln1, ln2, ln3, ln4, ln5, ln6, ln7, ln8, -List.all_eq_true, -List.any_eq_true, -List.all_eq_false, -List.any_eq_false, cmpD, nmD, inD_strs], fun _ => by
          have : o.length + 1 ≤ line := Nat.le_trans (by omega : o.length + 1 ≤ 6) (by decide)
          simp -dsimp [evS, evE, evA, evT, evC, evP, evI, evO, ↓bind_bx, ↓on_ox, ↓seq_sx, bxok, bxexc, liftok, liftmap, oxok, oxexc, sxnx, sxret, sxexc, sxbrk, sxcnt, outret, outnx, outexc, bxite, oxite, sxite, outite, liftite, tellF, tellC, tellgl, tellsig, tellsub, tellfld, tellex, sval, setSl, tru, ln1, ln2, ln3, ln4, ln5, ln6, ln7, ln8, -List.all_eq_true, -List.any_eq_true, -List.all_eq_false, -List.any_eq_false, binD, nmD, this]⟩]]
      have e1 : (ordersK names pre.length).flatMap (fun o => ((names.filter fun x => !decide (x ∈ o)).map fun x => nmD (o ++ [x]))) = (ordersK names (pre.length + 1)).map nmD := by
        simp only [ordersK, stepO, List.map_flatMap, List.map_map]
        rfl
      have hl : (ordersK names (pre.length + 1)).length ≤ line := ordersK_line h6 (by omega)
      rw [e1]
      simp -dsimp [evS, evE, evA, evT, evC, evP, evI, evO, ↓bind_bx, ↓on_ox, ↓seq_sx, bxok, bxexc, liftok, liftmap, oxok, oxexc, sxnx, sxret, sxexc, sxbrk, sxcnt, outret, outnx, outexc, bxite, oxite, sxite, outite, liftite, tellF, tellC, tellgl, tellsig, tellsub, tellfld, tellex, sval, setSl, tru, ln1, ln2, ln3, ln4, ln5, ln6, ln7, ln8, -List.all_eq_true, -List.any_eq_true, -List.all_eq_false, -List.any_eq_false, noexok, hl])
  subst r1 r2
  rw [e]
  simp -dsimp [evS, evE, evA, evT, evC, evP, evI, evO, ↓bind_bx, ↓on_ox, ↓seq_sx, bxok, bxexc, liftok, liftmap, oxok, oxexc, sxnx, sxret, sxexc, sxbrk, sxcnt, outret, outnx, outexc, bxite, oxite, sxite, outite, liftite, tellF, tellC, tellgl, tellsig, tellsub, tellfld, tellex, sval, setSl, tru, ln1, ln2, ln3, ln4, ln5, ln6, ln7, ln8, -List.all_eq_true, -List.any_eq_true, -List.all_eq_false, -List.any_eq_false]
end K84
end

section
set_option linter.all false
set_option maxRecDepth 100000
set_option maxHeartbeats 4000000
set_option backward.isDefEq.respectTransparency false
namespace K84
open DV
def gm (things : List Nm) (table : List D) : D := .tup [nmD things, .tup table]
theorem isInt_dat {d : D} (h : isInt d = true) : dat d = true ∧ dep d = 0 := by cases d <;> first | exact ⟨rfl, rfl⟩ | (cases h; done)
theorem dat_nmD {things : List Nm} (h : ∀ x ∈ things, nameB (.str x) = true) : dat (nmD things) = true ∧ dep (nmD things) ≤ 1 := by
  constructor
  · simp only [nmD, dat]
    exact dats_of fun y hy => by
      obtain ⟨x, hx, rfl⟩ := List.mem_map.mp hy
      exact nameB_dat (h x hx)
  · simp only [nmD, dep]
    have : deps (things.map D.str) ≤ 0 := deps_of fun y hy => by
      obtain ⟨x, hx, rfl⟩ := List.mem_map.mp hy
      exact Nat.le_refl _
    omega
theorem shp_gm {things : List Nm} {table : List D} (h : ∀ x ∈ things, nameB (.str x) = true) (ht : ∀ x ∈ table, isInt x = true) : shp (gm things table) = true := by
  obtain ⟨h1, h2⟩ := dat_nmD h
  have h3 : dats table = true := dats_of fun y hy => (isInt_dat (ht y hy)).1
  have h4 : deps table ≤ 0 := deps_of fun y hy => by rw [(isInt_dat (ht y hy)).2]; exact Nat.le_refl _
  simp [gm, shp, dat, dats, dep, deps, h1, h3]
  omega
theorem mem_renT {names : List Nm} {table : List D} {x : D} (hn : names.Nodup) (ht : table.length = 2 ^ names.length) (h : x ∈ renT names table) : x ∈ table := by
  obtain ⟨p, _, rfl⟩ := List.mem_map.mp h
  have : plc (ordN names) p < table.length := by rw [ht]; exact plc_ord_lt hn p
  rw [atN_eq this]
  exact List.getElem_mem _
def namesTo (table : List D) (t2 : List Nm) (g2 : D) : List (List Nm) := (ordersK t2 t2.length).filter fun o => eqD (gm (sortS o) (renT o table)) g2
theorem names_to_ev (n : Nat) (things t2 : List Nm) (table table2 : List D) (st : St) (hn : ∀ x ∈ t2, nameB (.str x) = true) (h6 : t2.length ≤ 6) (ht : ∀ x ∈ table, isInt x = true) (ht2 : ∀ x ∈ table2, isInt x = true)
    (hl : table.length = 2 ^ things.length) : callF PR (n + 3) g_names_to [gm things table, gm t2 table2] st = .ok (.lst ((if things.length = t2.length then namesTo table t2 (gm t2 table2) else []).map nmD)) st := by
  rw [c_names_to]
  by_cases q : things.length = t2.length
  · simp -dsimp [evS, evE, evA, evT, evC, evP, evI, evO, ↓bind_bx, ↓on_ox, ↓seq_sx, bxok, bxexc, liftok, liftmap, oxok, oxexc, sxnx, sxret, sxexc, sxbrk, sxcnt, outret, outnx, outexc, bxite, oxite, sxite, outite, liftite, tellF, tellC, tellgl, tellsig, tellsub, tellfld, tellex, sval, setSl, tru, ln1, ln2, ln3, ln4, ln5, ln6, ln7, ln8, -List.all_eq_true, -List.any_eq_true, -List.all_eq_false, -List.any_eq_false, b_names_to, subD, gm, at_0, nmD, bltD, bLen, cmpD, eqv2, shp, dat, dep, eqD, q, orders_of_ev, h6, itD, wipe]
    rw [lcMap nmD nmD (fun o => eqD (gm (sortS o) (renT o table)) (gm t2 table2)) (ordersK t2 t2.length) fun o ho => by
      obtain ⟨h1, h2, h3⟩ := ordersK_mem ho
      have e := renamed_in_ev n (nmD things) o table st h1 (by omega) (by rw [hl, h2, q])
      have hs : shp (.tup [.tup ((sortS o).map .str), .tup (renT o table)]) = true := shp_gm (fun x hx => hn x (h3 x ((sortS_perm o).mem_iff.mp hx))) fun x hx => ht x (mem_renT h1 (by rw [hl, h2, q]) hx)
      have hs2 : shp (.tup [.tup (t2.map .str), .tup table2]) = true := shp_gm hn ht2
      simp only [nmD] at e
      refine ⟨_, rfl, ?_, fun _ => by simp -dsimp [evS, evE, evA, evT, evC, evP, evI, evO, ↓bind_bx, ↓on_ox, ↓seq_sx, bxok, bxexc, liftok, liftmap, oxok, oxexc, sxnx, sxret, sxexc, sxbrk, sxcnt, outret, outnx, outexc, bxite, oxite, sxite, outite, liftite, tellF, tellC, tellgl, tellsig, tellsub, tellfld, tellex, sval, setSl, tru, ln1, ln2, ln3, ln4, ln5, ln6, ln7, ln8, -List.all_eq_true, -List.any_eq_true, -List.all_eq_false, -List.any_eq_false]⟩
      simp -dsimp [evS, evE, evA, evT, evC, evP, evI, evO, ↓bind_bx, ↓on_ox, ↓seq_sx, bxok, bxexc, liftok, liftmap, oxok, oxexc, sxnx, sxret, sxexc, sxbrk, sxcnt, outret, outnx, outexc, bxite, oxite, sxite, outite, liftite, tellF, tellC, tellgl, tellsig, tellsub, tellfld, tellex, sval, setSl, tru, ln1, ln2, ln3, ln4, ln5, ln6, ln7, ln8, -List.all_eq_true, -List.any_eq_true, -List.all_eq_false, -List.any_eq_false, nmD, e, cmpD, eqv2, hs, hs2, gm]]
    have hl2 : ((ordersK t2 t2.length).filter fun o => eqD (gm (sortS o) (renT o table)) (gm t2 table2)).length ≤ line := Nat.le_trans (List.length_filter_le ..) (ordersK_line h6 h6)
    simp -dsimp [evS, evE, evA, evT, evC, evP, evI, evO, ↓bind_bx, ↓on_ox, ↓seq_sx, bxok, bxexc, liftok, liftmap, oxok, oxexc, sxnx, sxret, sxexc, sxbrk, sxcnt, outret, outnx, outexc, bxite, oxite, sxite, outite, liftite, tellF, tellC, tellgl, tellsig, tellsub, tellfld, tellex, sval, setSl, tru, ln1, ln2, ln3, ln4, ln5, ln6, ln7, ln8, -List.all_eq_true, -List.any_eq_true, -List.all_eq_false, -List.any_eq_false, noexok, hl2]
    rfl
  · have : ¬ (things.length : Int) = t2.length := by omega
    simp -dsimp [evS, evE, evA, evT, evC, evP, evI, evO, ↓bind_bx, ↓on_ox, ↓seq_sx, bxok, bxexc, liftok, liftmap, oxok, oxexc, sxnx, sxret, sxexc, sxbrk, sxcnt, outret, outnx, outexc, bxite, oxite, sxite, outite, liftite, tellF, tellC, tellgl, tellsig, tellsub, tellfld, tellex, sval, setSl, tru, ln1, ln2, ln3, ln4, ln5, ln6, ln7, ln8, -List.all_eq_true, -List.any_eq_true, -List.all_eq_false, -List.any_eq_false, b_names_to, subD, gm, at_0, nmD, bltD, bLen, cmpD, eqv2, shp, dat, dep, eqD, this, q]
theorem namesTo_mem {table : List D} {t2 : List Nm} {g2 : D} {o : List Nm} (h : o ∈ namesTo table t2 g2) : o.Nodup ∧ o.length = t2.length ∧ ∀ x ∈ o, x ∈ t2 := ordersK_mem (List.mem_filter.mp h).1
theorem shp_orders {l : List (List Nm)} (h : ∀ o ∈ l, ∀ x ∈ o, nameB (.str x) = true) : shp (.lst (l.map nmD)) = true := by
  refine shp_lst (fun y hy => ?_) fun y hy => ?_
  · obtain ⟨o, ho, rfl⟩ := List.mem_map.mp hy
    exact (dat_nmD (h o ho)).1
  · obtain ⟨o, ho, rfl⟩ := List.mem_map.mp hy
    exact Nat.le_trans (dat_nmD (h o ho)).2 (by omega)
def nmTo (things : List Nm) (table : List D) (t2 : List Nm) (g2 : D) : List (List Nm) := if things.length = t2.length then namesTo table t2 g2 else []
theorem nmTo_mem {things : List Nm} {table : List D} {t2 : List Nm} {g2 : D} {o : List Nm} (h : o ∈ nmTo things table t2 g2) : o.Nodup ∧ o.length = t2.length ∧ ∀ x ∈ o, x ∈ t2 := by
  unfold nmTo at h
  split at h
  · exact namesTo_mem h
  · cases h
theorem nice_gm {things : List Nm} {table : List D} (h : ∀ x ∈ things, nameB (.str x) = true) (ht : ∀ x ∈ table, numB (-99) 99 x = true) : nice (gm things table) = true := by
  simp only [gm, nmD, nice, nices, Bool.and_true, Bool.and_eq_true]
  constructor
  · rw [nices_iff]
    intro y hy
    obtain ⟨x, hx, rfl⟩ := List.mem_map.mp hy
    obtain ⟨z, e, h1, h2, h3, h4⟩ := nameB_str (h x hx)
    cases e
    have hr : lettersC.all (fun c => decide (32 ≤ c) && decide (c < 127)) = true := by decide
    simp only [nice, Bool.and_eq_true, decide_eq_true_eq, List.all_eq_true] at hr ⊢
    exact ⟨by omega, fun c hc => hr c (h2 c hc)⟩
  · rw [nices_iff]
    intro y hy
    have := ht y hy
    cases y <;> first | (cases this; done) | skip
    case int i =>
      simp only [numB, Bool.and_eq_true, decide_eq_true_eq] at this
      simp only [nice, Bool.and_eq_true, decide_eq_true_eq]
      constructor <;> omega
theorem numB_int {lo hi : Int} {d : D} (h : numB lo hi d = true) : isInt d = true := by cases d <;> first | rfl | (cases h; done)
/-- a game -/
structure GameOk (things : List Nm) (table : List D) : Prop where
  nm : ∀ x ∈ things, nameB (.str x) = true
  srt : things.Pairwise (· < ·)
  le : things.length ≤ 6
  len : table.length = 2 ^ things.length
  num : ∀ x ∈ table, numB (-99) 99 x = true
theorem lastLt_take {things : List Nm} (h : things.Pairwise (· < ·)) {j : Nat} {x : Nm} (hj : things[j]? = some x) : lastLt (.str x) ((things.map D.str).take j) = true := by
  cases j with
  | zero => simp [lastLt]
  | succ j =>
    obtain ⟨hj', rfl⟩ := List.getElem?_eq_some_iff.mp hj
    have hl : ((things.map D.str).take (j + 1)).getLast? = some (.str things[j]) := by
      rw [List.getLast?_eq_getElem?]
      simp
      rw [Nat.min_eq_left (by omega)]
      simp
    unfold lastLt
    rw [hl]
    rw [List.pairwise_iff_getElem] at h
    exact decide_eq_true (h j (j + 1) (by omega) hj' (by omega))
theorem GameOk.thingsB {things : List Nm} {table : List D} (h : GameOk things table) : thingsB (nmD things) = true := by
  have : firstBad (some 6) pThing (things.map D.str) 0 (things.map D.str) = none := by
    rw [firstBad_none]
    intro j x hj
    rw [List.getElem?_map] at hj
    obtain ⟨z, hz, rfl⟩ := Option.map_eq_some_iff.mp hj
    obtain ⟨hj', e⟩ := List.getElem?_eq_some_iff.mp hz
    have := h.le
    constructor
    · simp [overB]; omega
    · simp only [pThing, Bool.and_eq_true, Nat.zero_add]
      exact ⟨h.nm z (e ▸ List.getElem_mem _), lastLt_take h.srt hz⟩
  simp only [K84.thingsB, nmD, this]
  rfl
theorem GameOk.gameB {things : List Nm} {table : List D} (h : GameOk things table) : gameB (gm things table) = true := by
  have h1 := h.thingsB
  simp only [nmD] at h1
  simp only [K84.gameB, gm, nmD, h1, List.length_map, h.len, decide_true, Bool.true_and, List.all_eq_true]
  exact h.num
theorem GameOk.nice {things : List Nm} {table : List D} (h : GameOk things table) : nice (gm things table) = true := nice_gm h.nm h.num
theorem check_games_ok (n : Nat) (things t2 : List Nm) (table table2 : List D) (st : St) (h : GameOk things table) (h2 : GameOk t2 table2) (hp : st.all plas = true) : callF PR (n + 8) g_check_games [gm things table, gm t2 table2] st = .ok .non st := by
  rw [check_games_ev n _ _ st h.nice h2.nice hp, h.gameB, h2.gameB]; rfl
theorem are_alike_ok (n : Nat) (things t2 : List Nm) (table table2 : List D) (st : St) (h : GameOk things table) (h2 : GameOk t2 table2) (hp : st.all plas = true) :
    callF PR (n + 9) g_are_alike [gm things table, gm t2 table2] st = .ok (.bl (!(nmTo things table t2 (gm t2 table2)).isEmpty)) st := by
  rw [c_are_alike]
  have e1 := names_to_ev (n + 5) things t2 table table2 st h2.nm h2.le (fun x hx => numB_int (h.num x hx)) (fun x hx => numB_int (h2.num x hx)) h.len
  have hs : shp (.lst ((nmTo things table t2 (gm t2 table2)).map nmD)) = true := shp_orders fun o ho x hx => h2.nm x ((nmTo_mem ho).2.2 x hx)
  have hs2 : shp (.lst []) = true := rfl
  have e1 : callF PR (n + 8) g_names_to [gm things table, gm t2 table2] st = .ok (.lst ((nmTo things table t2 (gm t2 table2)).map nmD)) st := e1
  simp -dsimp [evS, evE, evA, evT, evC, evP, evI, evO, ↓bind_bx, ↓on_ox, ↓seq_sx, bxok, bxexc, liftok, liftmap, oxok, oxexc, sxnx, sxret, sxexc, sxbrk, sxcnt, outret, outnx, outexc, bxite, oxite, sxite, outite, liftite, tellF, tellC, tellgl, tellsig, tellsub, tellfld, tellex, sval, setSl, tru, ln1, ln2, ln3, ln4, ln5, ln6, ln7, ln8, -List.all_eq_true, -List.any_eq_true, -List.all_eq_false, -List.any_eq_false, b_are_alike, check_games_ok, h, h2, hp, e1, cmpD, eqv2, hs, hs2, eqD, eqDs_nil]
theorem alike_names_ok (n : Nat) (things t2 : List Nm) (table table2 : List D) (st : St) (h : GameOk things table) (h2 : GameOk t2 table2) (hp : st.all plas = true) :
    callF PR (n + 9) g_alike_names [gm things table, gm t2 table2] st = .ok (match nmTo things table t2 (gm t2 table2) with | [] => .non | o :: _ => nmD o) st := by
  rw [c_alike_names]
  have e1 : callF PR (n + 8) g_names_to [gm things table, gm t2 table2] st = .ok (.lst ((nmTo things table t2 (gm t2 table2)).map nmD)) st := names_to_ev (n + 5) things t2 table table2 st h2.nm h2.le (fun x hx => numB_int (h.num x hx)) (fun x hx => numB_int (h2.num x hx)) h.len
  simp -dsimp [evS, evE, evA, evT, evC, evP, evI, evO, ↓bind_bx, ↓on_ox, ↓seq_sx, bxok, bxexc, liftok, liftmap, oxok, oxexc, sxnx, sxret, sxexc, sxbrk, sxcnt, outret, outnx, outexc, bxite, oxite, sxite, outite, liftite, tellF, tellC, tellgl, tellsig, tellsub, tellfld, tellex, sval, setSl, tru, ln1, ln2, ln3, ln4, ln5, ln6, ln7, ln8, -List.all_eq_true, -List.any_eq_true, -List.all_eq_false, -List.any_eq_false, b_alike_names, check_games_ok, h, h2, hp, e1, itD]
  cases e : nmTo things table t2 (gm t2 table2) with
  | nil => simp -dsimp [evS, evE, evA, evT, evC, evP, evI, evO, ↓bind_bx, ↓on_ox, ↓seq_sx, bxok, bxexc, liftok, liftmap, oxok, oxexc, sxnx, sxret, sxexc, sxbrk, sxcnt, outret, outnx, outexc, bxite, oxite, sxite, outite, liftite, tellF, tellC, tellgl, tellsig, tellsub, tellfld, tellex, sval, setSl, tru, ln1, ln2, ln3, ln4, ln5, ln6, ln7, ln8, -List.all_eq_true, -List.any_eq_true, -List.all_eq_false, -List.any_eq_false, forL]
  | cons o r =>
    rw [List.map_cons, forL_ret (ρ1 := [.val (gm things table), .val (gm t2 table2), .val (nmD o)]) (st1 := st) (st2 := st) (d := nmD o) rfl (by simp -dsimp [evS, evE, evA, evT, evC, evP, evI, evO, ↓bind_bx, ↓on_ox, ↓seq_sx, bxok, bxexc, liftok, liftmap, oxok, oxexc, sxnx, sxret, sxexc, sxbrk, sxcnt, outret, outnx, outexc, bxite, oxite, sxite, outite, liftite, tellF, tellC, tellgl, tellsig, tellsub, tellfld, tellex, sval, setSl, tru, ln1, ln2, ln3, ln4, ln5, ln6, ln7, ln8, -List.all_eq_true, -List.any_eq_true, -List.all_eq_false, -List.any_eq_false, w_alike_names_0])]
    simp -dsimp [evS, evE, evA, evT, evC, evP, evI, evO, ↓bind_bx, ↓on_ox, ↓seq_sx, bxok, bxexc, liftok, liftmap, oxok, oxexc, sxnx, sxret, sxexc, sxbrk, sxcnt, outret, outnx, outexc, bxite, oxite, sxite, outite, liftite, tellF, tellC, tellgl, tellsig, tellsub, tellfld, tellex, sval, setSl, tru, ln1, ln2, ln3, ln4, ln5, ln6, ln7, ln8, -List.all_eq_true, -List.any_eq_true, -List.all_eq_false, -List.any_eq_false]
theorem selves_ok (n : Nat) (things : List Nm) (table : List D) (st : St) (h : GameOk things table) (hp : st.all plas = true) :
    callF PR (n + 9) g_selves [gm things table] st = .ok (.int ((nmTo things table things (gm things table)).length : Nat)) st := by
  rw [c_selves]
  have e1 : callF PR (n + 8) g_names_to [gm things table, gm things table] st = .ok (.lst ((nmTo things table things (gm things table)).map nmD)) st := names_to_ev (n + 5) things things table table st h.nm h.le (fun x hx => numB_int (h.num x hx)) (fun x hx => numB_int (h.num x hx)) h.len
  have e2 := check_game_ev (n + 1) (gm things table) st h.nice hp
  rw [h.gameB] at e2
  simp -dsimp [evS, evE, evA, evT, evC, evP, evI, evO, ↓bind_bx, ↓on_ox, ↓seq_sx, bxok, bxexc, liftok, liftmap, oxok, oxexc, sxnx, sxret, sxexc, sxbrk, sxcnt, outret, outnx, outexc, bxite, oxite, sxite, outite, liftite, tellF, tellC, tellgl, tellsig, tellsub, tellfld, tellex, sval, setSl, tru, ln1, ln2, ln3, ln4, ln5, ln6, ln7, ln8, -List.all_eq_true, -List.any_eq_true, -List.all_eq_false, -List.any_eq_false, b_selves, e2, e1, bltD, bLen]
end K84
end

section
set_option linter.all false
set_option maxRecDepth 100000
set_option maxHeartbeats 4000000
set_option backward.isDefEq.respectTransparency false
namespace K84
open DV
def pNm (x : D) (before : List D) : Bool := nameB x && !(before.any fun y => eqD y x)
def badNames (many : Nat) : D → Option D
  | .tup xs => if xs.length = many then (firstBad (some many) pNm xs 0 xs).map fun j => .int j else some .non
  | _ => some .non
def badNamesD (many : Nat) (d : D) : D := match badNames many d with
  | some x => .lst [x]
  | none => .lst []
theorem nameB_flat {d : D} (h : nameB d = true) : flat d = true := by cases d <;> first | rfl | (cases h; done)
theorem names_clo (n : Nat) (x : D) (before : List D) (st : St) (hx : nice x = true) (hb : ∀ y ∈ before, nameB y = true) : callC PR (n + 3) m_renamed_0 [] [x, .tup before] st = .ok (.bl (pNm x before)) st := by
  rw [c_lam_renamed_0]
  by_cases h : nameB x = true
  · have hf : flat x = true := nameB_flat h
    have hf2 : before.all flat = true := List.all_eq_true.mpr fun y hy => nameB_flat (hb y hy)
    simp -dsimp [evS, evE, evA, evT, evC, evP, evI, evO, ↓bind_bx, ↓on_ox, ↓seq_sx, bxok, bxexc, liftok, liftmap, oxok, oxexc, sxnx, sxret, sxexc, sxbrk, sxcnt, outret, outnx, outexc, bxite, oxite, sxite, outite, liftite, tellF, tellC, tellgl, tellsig, tellsub, tellfld, tellex, sval, setSl, tru, ln1, ln2, ln3, ln4, ln5, ln6, ln7, ln8, -List.all_eq_true, -List.any_eq_true, -List.all_eq_false, -List.any_eq_false, l_renamed_0, is_name_ev, nice_val1 hx, nice_txt1 hx, h, cmpD, inD, hf, hf2, pNm]
  · have h : nameB x = false := by simpa using h
    simp -dsimp [evS, evE, evA, evT, evC, evP, evI, evO, ↓bind_bx, ↓on_ox, ↓seq_sx, bxok, bxexc, liftok, liftmap, oxok, oxexc, sxnx, sxret, sxexc, sxbrk, sxcnt, outret, outnx, outexc, bxite, oxite, sxite, outite, liftite, tellF, tellC, tellgl, tellsig, tellsub, tellfld, tellex, sval, setSl, tru, ln1, ln2, ln3, ln4, ln5, ln6, ln7, ln8, -List.all_eq_true, -List.any_eq_true, -List.all_eq_false, -List.any_eq_false, l_renamed_0, is_name_ev, nice_val1 hx, nice_txt1 hx, h, pNm]
theorem wrong_names_ev (n : Nat) (d : D) (many : Nat) (st : St) (h : nice d = true) (hp : st.all plas = true) : callF PR (n + 5) g_wrong_for_all [d, .int many, .clo m_renamed_0 []] st = .ok (badNamesD many d) st := by
  rw [c_wrong_for_all]
  have e1 : callF PR (n + 4) g_is_tuple_of [d, .int many] st = .ok (.bl (tupB many d)) st := is_tuple_of_ev (n + 3) d many st (nice_val1 h)
  by_cases ht : tupB many d = true
  · cases d <;> first | (cases ht; done) | skip
    case tup xs =>
    have hn : ∀ x ∈ xs, nice x = true := nices_iff.mp (by simpa [nice] using h)
    have e2 : callF PR (n + 4) g_wrong_at [.tup xs, .int many, .clo m_renamed_0 []] st = .ok (badD (firstBad (some many) pNm xs 0 xs)) st := wrong_at_ev (n + 3) xs (some many) m_renamed_0 [] pNm st hp fun i x hx ha _ => by
      have hb := take_names (p := pNm) (fun x l q => by simp only [pNm, Bool.and_eq_true] at q; exact q.1) ha
      exact ⟨names_clo n x _ st (hn x (List.mem_of_getElem? hx)) hb, nice_pla x (hn x (List.mem_of_getElem? hx)), plas_iff.mpr fun y hy => nice_pla y (hn y (List.mem_of_mem_take hy))⟩
    have hl : xs.length = many := by simpa [tupB] using ht
    simp -dsimp [evS, evE, evA, evT, evC, evP, evI, evO, ↓bind_bx, ↓on_ox, ↓seq_sx, bxok, bxexc, liftok, liftmap, oxok, oxexc, sxnx, sxret, sxexc, sxbrk, sxcnt, outret, outnx, outexc, bxite, oxite, sxite, outite, liftite, tellF, tellC, tellgl, tellsig, tellsub, tellfld, tellex, sval, setSl, tru, ln1, ln2, ln3, ln4, ln5, ln6, ln7, ln8, -List.all_eq_true, -List.any_eq_true, -List.all_eq_false, -List.any_eq_false, b_wrong_for_all, e1, ht, e2, badNamesD, badNames, hl]
    cases firstBad (some many) pNm xs 0 xs <;> rfl
  · replace ht : tupB many d = false := by simpa using ht
    simp -dsimp [evS, evE, evA, evT, evC, evP, evI, evO, ↓bind_bx, ↓on_ox, ↓seq_sx, bxok, bxexc, liftok, liftmap, oxok, oxexc, sxnx, sxret, sxexc, sxbrk, sxcnt, outret, outnx, outexc, bxite, oxite, sxite, outite, liftite, tellF, tellC, tellgl, tellsig, tellsub, tellfld, tellex, sval, setSl, tru, ln1, ln2, ln3, ln4, ln5, ln6, ln7, ln8, -List.all_eq_true, -List.any_eq_true, -List.all_eq_false, -List.any_eq_false, b_wrong_for_all, e1, ht]
    cases d <;> first | rfl | skip
    case tup xs =>
      have hl : ¬ xs.length = many := by simpa [tupB] using ht
      simp [badNamesD, badNames, hl]
theorem pla_badNamesD (many : Nat) (d : D) : pla (badNamesD many d) = true := by
  cases d <;> first | rfl | skip
  case tup xs =>
    simp only [badNamesD, badNames]
    by_cases h : xs.length = many
    · rw [if_pos h]; cases firstBad (some many) pNm xs 0 xs <;> rfl
    · rw [if_neg h]; rfl
theorem renamed_odd (n : Nat) (g d : D) (st : St) (h : nice g = true) (hg : gameB g = false) (hp : st.all plas = true) : callF PR (n + 8) g_renamed [g, d] st = .exc e_InvalidGame [g] st := by
  rw [c_renamed]
  have e := check_game_ev n g st h hp
  rw [hg] at e
  simp -dsimp [evS, evE, evA, evT, evC, evP, evI, evO, ↓bind_bx, ↓on_ox, ↓seq_sx, bxok, bxexc, liftok, liftmap, oxok, oxexc, sxnx, sxret, sxexc, sxbrk, sxcnt, outret, outnx, outexc, bxite, oxite, sxite, outite, liftite, tellF, tellC, tellgl, tellsig, tellsub, tellfld, tellex, sval, setSl, tru, ln1, ln2, ln3, ln4, ln5, ln6, ln7, ln8, -List.all_eq_true, -List.any_eq_true, -List.all_eq_false, -List.any_eq_false, b_renamed, e]
theorem renamed_bad (n : Nat) (things : List Nm) (table : List D) (d x : D) (st : St) (h : GameOk things table) (hd : nice d = true) (hb : badNames things.length d = some x) (hp : st.all plas = true) :
    callF PR (n + 8) g_renamed [gm things table, d] st = .exc e_InvalidNames [x] st := by
  rw [c_renamed]
  have e := check_game_ev n _ st h.nice hp
  rw [h.gameB] at e
  have e2 := wrong_names_ev (n + 2) d things.length st hd hp
  have e3 : badNamesD things.length d = .lst [x] := by rw [badNamesD, hb]
  rw [e3] at e2
  have hx : pla x = true := by
    have := pla_badNamesD things.length d
    rw [e3] at this
    simpa [pla, plas] using this
  simp -dsimp [evS, evE, evA, evT, evC, evP, evI, evO, ↓bind_bx, ↓on_ox, ↓seq_sx, bxok, bxexc, liftok, liftmap, oxok, oxexc, sxnx, sxret, sxexc, sxbrk, sxcnt, outret, outnx, outexc, bxite, oxite, sxite, outite, liftite, tellF, tellC, tellgl, tellsig, tellsub, tellfld, tellex, sval, setSl, tru, ln1, ln2, ln3, ln4, ln5, ln6, ln7, ln8, -List.all_eq_true, -List.any_eq_true, -List.all_eq_false, -List.any_eq_false, b_renamed, e, gm, nmD, subD, at_0, bltD, bLen]
  simp only [gm, nmD] at e
  simp -dsimp [evS, evE, evA, evT, evC, evP, evI, evO, ↓bind_bx, ↓on_ox, ↓seq_sx, bxok, bxexc, liftok, liftmap, oxok, oxexc, sxnx, sxret, sxexc, sxbrk, sxcnt, outret, outnx, outexc, bxite, oxite, sxite, outite, liftite, tellF, tellC, tellgl, tellsig, tellsub, tellfld, tellex, sval, setSl, tru, ln1, ln2, ln3, ln4, ln5, ln6, ln7, ln8, -List.all_eq_true, -List.any_eq_true, -List.all_eq_false, -List.any_eq_false, e, gm, nmD, subD, at_0, bltD, bLen, e2, plR, pla, plas, hp, hx, itD]
  rw [forL_exc (ρ1 := [.val (.tup [.tup (things.map .str), .tup table]), .val d, .val x]) (st1 := st) (st2 := st) (c := e_InvalidNames) (d := [x]) (ρ2 := [.val (.tup [.tup (things.map .str), .tup table]), .val d, .val x]) rfl (by simp -dsimp [evS, evE, evA, evT, evC, evP, evI, evO, ↓bind_bx, ↓on_ox, ↓seq_sx, bxok, bxexc, liftok, liftmap, oxok, oxexc, sxnx, sxret, sxexc, sxbrk, sxcnt, outret, outnx, outexc, bxite, oxite, sxite, outite, liftite, tellF, tellC, tellgl, tellsig, tellsub, tellfld, tellex, sval, setSl, tru, ln1, ln2, ln3, ln4, ln5, ln6, ln7, ln8, -List.all_eq_true, -List.any_eq_true, -List.all_eq_false, -List.any_eq_false, w_renamed_0, f_InvalidNames])]
  simp -dsimp [evS, evE, evA, evT, evC, evP, evI, evO, ↓bind_bx, ↓on_ox, ↓seq_sx, bxok, bxexc, liftok, liftmap, oxok, oxexc, sxnx, sxret, sxexc, sxbrk, sxcnt, outret, outnx, outexc, bxite, oxite, sxite, outite, liftite, tellF, tellC, tellgl, tellsig, tellsub, tellfld, tellex, sval, setSl, tru, ln1, ln2, ln3, ln4, ln5, ln6, ln7, ln8, -List.all_eq_true, -List.any_eq_true, -List.all_eq_false, -List.any_eq_false]
theorem renamed_ok (n : Nat) (things names : List Nm) (table : List D) (st : St) (h : GameOk things table) (hn : ∀ x ∈ names, nameB (.str x) = true) (hnd : names.Nodup) (hl : names.length = things.length) (hp : st.all plas = true) :
    callF PR (n + 8) g_renamed [gm things table, nmD names] st = .ok (gm (sortS names) (renT names table)) st := by
  rw [c_renamed]
  have e := check_game_ev n _ st h.nice hp
  rw [h.gameB] at e
  have hd : nice (nmD names) = true := by
    have := nice_gm (things := names) (table := []) hn (fun x hx => by cases hx)
    simp only [gm, nice, nices, Bool.and_true] at this
    exact this
  have hb : badNames things.length (nmD names) = none := by
    have : firstBad (some things.length) pNm (names.map D.str) 0 (names.map D.str) = none := by
      rw [firstBad_none]
      intro j x hj
      rw [List.getElem?_map] at hj
      obtain ⟨z, hz, rfl⟩ := Option.map_eq_some_iff.mp hj
      obtain ⟨hj', e⟩ := List.getElem?_eq_some_iff.mp hz
      constructor
      · simp [overB]; omega
      · simp only [pNm, Bool.and_eq_true, Nat.zero_add]
        refine ⟨hn z (e ▸ List.getElem_mem _), ?_⟩
        rw [← List.map_take, any_str]
        simp only [Bool.not_eq_true', decide_eq_false_iff_not]
        intro hm
        obtain ⟨i, hi, e2⟩ := List.mem_iff_getElem.mp hm
        rw [List.length_take] at hi
        rw [List.getElem_take] at e2
        have := nodup_inj hnd (by omega) hj' (e2.trans e.symm)
        omega
    simp [badNames, nmD, hl, this]
  have e2 := wrong_names_ev (n + 2) (nmD names) things.length st hd hp
  have e3 : badNamesD things.length (nmD names) = .lst [] := by rw [badNamesD, hb]
  rw [e3] at e2
  have e4 := renamed_in_ev (n + 5) (nmD things) names table st hnd (by have := h.le; omega) (by rw [h.len, hl])
  simp only [gm, nmD] at e e2 e4 ⊢
  simp -dsimp [evS, evE, evA, evT, evC, evP, evI, evO, ↓bind_bx, ↓on_ox, ↓seq_sx, bxok, bxexc, liftok, liftmap, oxok, oxexc, sxnx, sxret, sxexc, sxbrk, sxcnt, outret, outnx, outexc, bxite, oxite, sxite, outite, liftite, tellF, tellC, tellgl, tellsig, tellsub, tellfld, tellex, sval, setSl, tru, ln1, ln2, ln3, ln4, ln5, ln6, ln7, ln8, -List.all_eq_true, -List.any_eq_true, -List.all_eq_false, -List.any_eq_false, b_renamed, e, gm, nmD, subD, at_0, bltD, bLen, e2, plR, pla, plas, hp, itD, forL, e4]
end K84
end

section
set_option linter.all false
set_option maxRecDepth 100000
set_option maxHeartbeats 4000000
set_option backward.isDefEq.respectTransparency false
namespace K84
open DV
/-- the wells -/
def Wl (N : Nat) (st : St) : Prop := st.length = N ∧ ∀ w ∈ st, ∃ a b c : Int, w = [.int a, .int b, .int c]
theorem Wl.plas {N : Nat} {st : St} (h : Wl N st) : st.all plas = true := by
  rw [List.all_eq_true]
  intro w hw
  obtain ⟨a, b, c, rfl⟩ := h.2 w hw
  rfl
theorem Wl.get {N l : Nat} {st : St} (h : Wl N st) (hl : l < N) : ∃ a b c : Int, st[l]? = some [.int a, .int b, .int c] := by
  have hl' : l < st.length := by rw [h.1]; exact hl
  obtain ⟨a, b, c, e⟩ := h.2 st[l] (List.getElem_mem _)
  exact ⟨a, b, c, by rw [List.getElem?_eq_getElem hl', e]⟩
theorem Wl.set {N l : Nat} {st : St} (h : Wl N st) (a b c : Int) : Wl N (st.set l [.int a, .int b, .int c]) := by
  refine ⟨by simp [h.1], fun w hw => ?_⟩
  rcases List.mem_or_eq_of_mem_set hw with hw | rfl
  · exact h.2 w hw
  · exact ⟨a, b, c, rfl⟩
theorem put0 {st : St} {l : Nat} {x y z d : D} (h : st[l]? = some [x, y, z]) : putSt st l 0 d = some (st.set l [d, y, z]) := by simp [putSt, h, ixD]
theorem put1 {st : St} {l : Nat} {x y z d : D} (h : st[l]? = some [x, y, z]) : putSt st l 1 d = some (st.set l [x, d, z]) := by simp [putSt, h, ixD]
theorem put2 {st : St} {l : Nat} {x y z d : D} (h : st[l]? = some [x, y, z]) : putSt st l 2 d = some (st.set l [x, y, d]) := by simp [putSt, h, ixD]
theorem setget {st : St} {l : Nat} {v w : List D} (h : st[l]? = some v) : (st.set l w)[l]? = some w := by
  have : l < st.length := by
    rcases Nat.lt_or_ge l st.length with q | q
    · exact q
    · rw [List.getElem?_eq_none q] at h; cases h
  simp [this]
theorem draw_ev {N : Nat} (n l : Nat) (lim : Int) (st : St) (h : Wl N st) (hl : l < N) (h1 : 0 < lim) (h2 : lim < 1073741824) :
    ∃ (k : Int) (st' : St), callF PR (n + 1) g__law_draw [.ref l, .int lim] st = .ok (.int k) st' ∧ Wl N st' ∧ 0 ≤ k ∧ k < lim := by
  rw [c__law_draw]
  obtain ⟨a, b, c, e⟩ := h.get hl
  by_cases q : 0 < a
  · refine ⟨a % lim, st.set l [.int (a / lim), .int b, .int c], ?_, h.set .., Int.emod_nonneg _ (by omega), Int.emod_lt_of_pos _ h1⟩
    simp -dsimp [evS, evE, evA, evT, evC, evP, evI, evO, ↓bind_bx, ↓on_ox, ↓seq_sx, bxok, bxexc, liftok, liftmap, oxok, oxexc, sxnx, sxret, sxexc, sxbrk, sxcnt, outret, outnx, outexc, bxite, oxite, sxite, outite, liftite, tellF, tellC, tellgl, tellsig, tellsub, tellfld, tellex, sval, setSl, tru, ln1, ln2, ln3, ln4, ln5, ln6, ln7, ln8, -List.all_eq_true, -List.any_eq_true, -List.all_eq_false, -List.any_eq_false, b__law_draw, subD, e, at_0, cmpD, ordD, q, bltD, bDivmod, h1, h2, asgT, seqD, put0 e]
  · have hs : ∀ w, (st.set l w)[l]? = some w := fun w => setget e
    have hss : ∀ w v, ((st.set l w).set l v)[l]? = some v := fun w v => setget (hs w)
    have p2 : putSt st l 2 (.int (c + 1)) = some (st.set l [.int a, .int b, .int (c + 1)]) := put2 e
    have p1 : ∀ d, putSt (st.set l [.int a, .int b, .int (c + 1)]) l 1 d = some (st.set l [.int a, d, .int (c + 1)]) := fun d => by
      rw [put1 (hs _), List.set_set]
    have m1 : mulOk b 40037 = true := by simp [mulOk, s64]
    have m2 : ∀ x : Int, mulOk 13001 x = true := fun x => by simp [mulOk, s64]
    have m3 : ∀ x y : Int, mulOk x (y % 5009 + 20023) = true := fun x y => by
      have := Int.emod_nonneg y (show (5009 : Int) ≠ 0 by decide)
      have := Int.emod_lt_of_pos y (show (0 : Int) < 5009 by decide)
      have : s64 (y % 5009 + 20023) = true := by
        simp only [s64, Bool.and_eq_true, decide_eq_true_eq]
        constructor <;> omega
      simp [mulOk, this]
    have : ∃ x B, outS (evS (tell PR n) b__law_draw [.val (.ref l), .val (.int lim), .no, .no] st) = .ok (.int (x % lim)) (st.set l [.int a, .int B, .int (c + 1)]) := by
      simp -dsimp [evS, evE, evA, evT, evC, evP, evI, evO, ↓bind_bx, ↓on_ox, ↓seq_sx, bxok, bxexc, liftok, liftmap, oxok, oxexc, sxnx, sxret, sxexc, sxbrk, sxcnt, outret, outnx, outexc, bxite, oxite, sxite, outite, liftite, tellF, tellC, tellgl, tellsig, tellsub, tellfld, tellex, sval, setSl, tru, ln1, ln2, ln3, ln4, ln5, ln6, ln7, ln8, -List.all_eq_true, -List.any_eq_true, -List.all_eq_false, -List.any_eq_false, b__law_draw, subD, e, at_0, at_1, at_2, cmpD, DV.ordD, q, bltD, bInt, h1, h2, asgT, seqD, p2, p1, hs, binD, m1, m2, m3]
      exact ⟨⟨_, rfl⟩, ⟨_, rfl⟩⟩
    obtain ⟨x, B, e⟩ := this
    exact ⟨_, _, e, h.set .., Int.emod_nonneg _ (by omega), Int.emod_lt_of_pos _ h1⟩
theorem mem_of_get {α : Type} {xs : List α} {i : Nat} {x : α} (h : xs[i]? = some x) : x ∈ xs := List.mem_of_getElem? h
theorem of_seq {N : Nat} (n l : Nat) (d : D) (xs : List D) (st : St) (hd : d = .tup xs ∨ d = .lst xs) (h : Wl N st) (hl : l < N) (h1 : xs ≠ []) (h2 : xs.length < 1073741824) :
    ∃ (x : D) (st' : St), callF PR (n + 2) g__law_of [.ref l, d] st = .ok x st' ∧ Wl N st' ∧ x ∈ xs := by
  rw [c__law_of]
  have hp : 0 < xs.length := List.length_pos_iff.mpr h1
  obtain ⟨k, st', e, hw, k1, k2⟩ := draw_ev n l xs.length st h hl (by omega) (by omega)
  have hk : k.toNat < xs.length := by omega
  have ha : atD xs k = some xs[k.toNat] := by
    have := at_nat xs k.toNat hk
    rwa [Int.toNat_of_nonneg k1] at this
  refine ⟨xs[k.toNat], st', ?_, hw, List.getElem_mem _⟩
  rcases hd with rfl | rfl <;> simp -dsimp [evS, evE, evA, evT, evC, evP, evI, evO, ↓bind_bx, ↓on_ox, ↓seq_sx, bxok, bxexc, liftok, liftmap, oxok, oxexc, sxnx, sxret, sxexc, sxbrk, sxcnt, outret, outnx, outexc, bxite, oxite, sxite, outite, liftite, tellF, tellC, tellgl, tellsig, tellsub, tellfld, tellex, sval, setSl, tru, ln1, ln2, ln3, ln4, ln5, ln6, ln7, ln8, -List.all_eq_true, -List.any_eq_true, -List.all_eq_false, -List.any_eq_false, b__law_of, bltD, bLen, e, subD, ha]
theorem of_str {N : Nat} (n l : Nat) (xs : List Nat) (st : St) (h : Wl N st) (hl : l < N) (h1 : xs ≠ []) (h2 : xs.length ≤ line) :
    ∃ (x : Nat) (st' : St), callF PR (n + 2) g__law_of [.ref l, .str xs] st = .ok (.str [x]) st' ∧ Wl N st' ∧ x ∈ xs := by
  rw [c__law_of]
  have hp : 0 < xs.length := List.length_pos_iff.mpr h1
  have h3 : line < 1073741824 := by decide
  obtain ⟨k, st', e, hw, k1, k2⟩ := draw_ev n l xs.length st h hl (by omega) (by omega)
  have hk : k.toNat < xs.length := by omega
  have ha : atD xs k = some xs[k.toNat] := by
    have := at_nat xs k.toNat hk
    rwa [Int.toNat_of_nonneg k1] at this
  refine ⟨xs[k.toNat], st', ?_, hw, List.getElem_mem _⟩
  simp -dsimp [evS, evE, evA, evT, evC, evP, evI, evO, ↓bind_bx, ↓on_ox, ↓seq_sx, bxok, bxexc, liftok, liftmap, oxok, oxexc, sxnx, sxret, sxexc, sxbrk, sxcnt, outret, outnx, outexc, bxite, oxite, sxite, outite, liftite, tellF, tellC, tellgl, tellsig, tellsub, tellfld, tellex, sval, setSl, tru, ln1, ln2, ln3, ln4, ln5, ln6, ln7, ln8, -List.all_eq_true, -List.any_eq_true, -List.all_eq_false, -List.any_eq_false, b__law_of, bltD, bLen, e, subD, ha, h2]
end K84
end

section
set_option linter.all false
set_option maxRecDepth 100000
set_option maxHeartbeats 4000000
set_option backward.isDefEq.respectTransparency false
namespace DV
theorem lcFold {α : Type} (i f : α → D) {tg : CT} {ρ : Env} {cond : Env → St → R Bool} {elt : Env → St → R D} (I : List α → St → Prop) : ∀ (l pre : List α) (st : St), I pre st →
    (∀ pre' a r st, pre ++ l = pre' ++ a :: r → I pre' st → ∃ ρ1, asgT tg (i a) ρ st = some (ρ1, st) ∧ cond ρ1 st = .ok true st ∧ ∃ st', elt ρ1 st = .ok (f a) st' ∧ I (pre' ++ [a]) st') →
    ∃ st', lcLoop tg ρ cond elt (l.map i) st = .ok (l.map f) st' ∧ I (pre ++ l) st'
  | [], pre, st, h0, _ => ⟨st, rfl, by simpa using h0⟩
  | a :: r, pre, st, h0, hs => by
    obtain ⟨ρ1, h1, h2, st1, h3, h4⟩ := hs pre a r st rfl h0
    obtain ⟨st', e, h5⟩ := lcFold i f I r (pre ++ [a]) st1 h4 fun pre' b r' st e => hs pre' b r' st (by rw [← e]; simp)
    refine ⟨st', ?_, by simpa using h5⟩
    simp only [List.map_cons, lcLoop, h1, h2, bindok, if_true, h3, e]
theorem rngD_nat (n : Nat) : rngD 0 n = (List.range n).map fun (i : Nat) => D.int (i : Int) := rngD_eq n
theorem allBl_true {ys : List D} (h : ∀ y ∈ ys, y = .bl true) : allBl ys = some (ys.map fun _ => true) := by
  induction ys with
  | nil => rfl
  | cons y r ih =>
    rw [h y (List.mem_cons_self ..)]
    simp [allBl, ih fun z hz => h z (List.mem_cons_of_mem _ hz)]
theorem bAll_true {ys : List D} (h : ∀ y ∈ ys, y = .bl true) : bAll [.lst ys] = some (.bl true) := by
  simp [bAll, allBl_true h]
end DV
namespace K84
open DV
theorem well_ev {N : Nat} (n lap : Nat) (ns : List Int) (st : St) (h : Wl N st) : ∃ st', callF PR (n + 1) g__law_well [.fro (ns.map .int), .int lap] st = .ok (.ref N) st' ∧ Wl (N + 1) st' := by
  rw [c__law_well]
  have hw : ∀ a b c : Int, Wl (N + 1) (st ++ [[.int a, .int b, .int c]]) := fun a b c => ⟨by simp [h.1], fun w hw => by
    rcases List.mem_append.mp hw with hw | hw
    · exact h.2 w hw
    · exact ⟨a, b, c, by simpa using hw⟩⟩
  suffices hs : ∃ a b : Int, outS (evS (tell PR n) b__law_well [.val (.fro (ns.map .int)), .val (.int lap), .no, .no, .no] st) = .ok (.ref N) (st ++ [[.int a, .int b, .int 0]]) by
    obtain ⟨a, b, e⟩ := hs
    exact ⟨_, e, hw ..⟩
  have hm1 : mulOk 7013 lap = true := by simp [mulOk, s64]
  have hm2 : ∀ x : Int, mulOk x 45281 = true := fun x => by simp [mulOk, s64]
  have hm3 : ∀ x : Int, mulOk x 41 = true := fun x => by simp [mulOk, s64]
  have hm4 : ∀ x : Int, mulOk x 15031 = true := fun x => by simp [mulOk, s64]
  simp -dsimp [evS, evE, evA, evT, evC, evP, evI, evO, ↓bind_bx, ↓on_ox, ↓seq_sx, bxok, bxexc, liftok, liftmap, oxok, oxexc, sxnx, sxret, sxexc, sxbrk, sxcnt, outret, outnx, outexc, bxite, oxite, sxite, outite, liftite, tellF, tellC, tellgl, tellsig, tellsub, tellfld, tellex, sval, setSl, tru, ln1, ln2, ln3, ln4, ln5, ln6, ln7, ln8, -List.all_eq_true, -List.any_eq_true, -List.all_eq_false, -List.any_eq_false, b__law_well, hm1, binD, slcD, optI, itD]
  rw [show cutD (ns.map D.int) none (some 12) = (ns.take 12).map D.int from (cut_take (ns.map D.int) 12).trans (by rw [List.map_take])]
  obtain ⟨ρ', st', e, r1, x, s3, r2⟩ := forL_fold0 (fun (z : Int) => D.int z) (tg := .nm 3) (body := evS (tell PR n) w__law_well_0)
    (fun pre ρ st' => st' = st ∧ ∃ (x : Int) (s3 : Sl), ρ = [.val (.fro (ns.map .int)), .val (.int lap), .val (.int x), s3, .no]) (ns.take 12) (ρ := [.val (.fro (ns.map .int)), .val (.int lap), .val (.int (130577 + 7013 * lap)), .no, .no]) (st := st) ⟨rfl, _, .no, rfl⟩ (by
      rintro pre p r ρ st' hr ⟨rfl, x, s3, rfl⟩
      have : ∃ y, evS (tell PR n) w__law_well_0 [.val (.fro (ns.map .int)), .val (.int lap), .val (.int x), .val (.int p), .no] st' = .nx [.val (.fro (ns.map .int)), .val (.int lap), .val (.int y), .val (.int p), .no] st' := by
        simp -dsimp [evS, evE, evA, evT, evC, evP, evI, evO, ↓bind_bx, ↓on_ox, ↓seq_sx, bxok, bxexc, liftok, liftmap, oxok, oxexc, sxnx, sxret, sxexc, sxbrk, sxcnt, outret, outnx, outexc, bxite, oxite, sxite, outite, liftite, tellF, tellC, tellgl, tellsig, tellsub, tellfld, tellex, sval, setSl, tru, ln1, ln2, ln3, ln4, ln5, ln6, ln7, ln8, -List.all_eq_true, -List.any_eq_true, -List.all_eq_false, -List.any_eq_false, w__law_well_0, binD, hm2, bltD, bInt]
      obtain ⟨y, e⟩ := this
      exact ⟨_, st', _, st', rfl, e, rfl, _, _, rfl⟩)
  subst r1 r2
  rw [e]
  have hN : st'.length = N := h.1
  by_cases q : lap < ns.length
  · have q' : (lap : Int) < ns.length := by omega
    have at1 : atD (ns.map D.int) (lap : Int) = some (.int ns[lap]) := by rw [at_nat _ lap (by simpa using q)]; simp
    by_cases q1 : ns[lap] < 0
    · simp -dsimp [evS, evE, evA, evT, evC, evP, evI, evO, ↓bind_bx, ↓on_ox, ↓seq_sx, bxok, bxexc, liftok, liftmap, oxok, oxexc, sxnx, sxret, sxexc, sxbrk, sxcnt, outret, outnx, outexc, bxite, oxite, sxite, outite, liftite, tellF, tellC, tellgl, tellsig, tellsub, tellfld, tellex, sval, setSl, tru, ln1, ln2, ln3, ln4, ln5, ln6, ln7, ln8, -List.all_eq_true, -List.any_eq_true, -List.all_eq_false, -List.any_eq_false, bltD, bLen, cmpD, DV.ordD, q, q', subD, at1, bInt, hm3, hm4, q1, bAbs, binD, hN]
    · by_cases q2 : (1000000000000000 : Int) ≤ ns[lap]
      · simp -dsimp [evS, evE, evA, evT, evC, evP, evI, evO, ↓bind_bx, ↓on_ox, ↓seq_sx, bxok, bxexc, liftok, liftmap, oxok, oxexc, sxnx, sxret, sxexc, sxbrk, sxcnt, outret, outnx, outexc, bxite, oxite, sxite, outite, liftite, tellF, tellC, tellgl, tellsig, tellsub, tellfld, tellex, sval, setSl, tru, ln1, ln2, ln3, ln4, ln5, ln6, ln7, ln8, -List.all_eq_true, -List.any_eq_true, -List.all_eq_false, -List.any_eq_false, bltD, bLen, cmpD, DV.ordD, q, q', subD, at1, bInt, hm3, hm4, q1, bAbs, binD, q2, hN]
      · simp -dsimp [evS, evE, evA, evT, evC, evP, evI, evO, ↓bind_bx, ↓on_ox, ↓seq_sx, bxok, bxexc, liftok, liftmap, oxok, oxexc, sxnx, sxret, sxexc, sxbrk, sxcnt, outret, outnx, outexc, bxite, oxite, sxite, outite, liftite, tellF, tellC, tellgl, tellsig, tellsub, tellfld, tellex, sval, setSl, tru, ln1, ln2, ln3, ln4, ln5, ln6, ln7, ln8, -List.all_eq_true, -List.any_eq_true, -List.all_eq_false, -List.any_eq_false, bltD, bLen, cmpD, DV.ordD, q, q', subD, at1, bInt, hm3, hm4, q1, bAbs, binD, q2, hN]
  · have q' : ¬ (lap : Int) < ns.length := by omega
    simp -dsimp [evS, evE, evA, evT, evC, evP, evI, evO, ↓bind_bx, ↓on_ox, ↓seq_sx, bxok, bxexc, liftok, liftmap, oxok, oxexc, sxnx, sxret, sxexc, sxbrk, sxcnt, outret, outnx, outexc, bxite, oxite, sxite, outite, liftite, tellF, tellC, tellgl, tellsig, tellsub, tellfld, tellex, sval, setSl, tru, ln1, ln2, ln3, ln4, ln5, ln6, ln7, ln8, -List.all_eq_true, -List.any_eq_true, -List.all_eq_false, -List.any_eq_false, bltD, bLen, cmpD, DV.ordD, q, q', bInt, hm3, hm4, bAbs, binD, hN]
end K84
end

section
set_option linter.all false
set_option maxRecDepth 100000
set_option maxHeartbeats 4000000
set_option backward.isDefEq.respectTransparency false
namespace K84
open DV
def someWords : List Nat := [97, 108, 108, 32, 97, 110, 121, 32, 97, 116, 32, 98, 101, 115, 116, 32, 98, 121, 32, 99, 104, 97, 110, 99, 101, 32, 102, 105, 114, 115, 116, 32, 102, 111, 114, 32, 103, 97, 109, 101, 32, 104, 97, 110, 100, 32, 105, 110, 32, 108, 101, 102, 116, 32, 108, 101, 115, 115, 32, 108, 111, 116, 32, 109, 111, 114, 101, 32, 110, 111, 110, 101, 32, 111, 102, 32, 111, 112, 101, 110, 32, 111, 114, 32, 111, 118, 101, 114, 32, 112, 105, 99, 107, 32, 112, 105, 99, 107, 101, 100]
def moreWords : List Nat := [114, 111, 119, 32, 115, 101, 99, 111, 110, 100, 32, 115, 104, 97, 114, 101, 32, 115, 116, 97, 110, 100, 32, 115, 116, 97, 114, 116, 32, 115, 119, 97, 121, 32, 116, 97, 98, 108, 101, 32, 116, 104, 105, 110, 103, 32, 116, 104, 105, 110, 103, 115, 32, 116, 111, 32, 116, 111, 115, 115, 32, 116, 114, 101, 101, 32, 116, 117, 114, 110, 32, 117, 110, 100, 111]
def wA : List D := (wordsC.take 22).map .str
def wB : List D := ((wordsC.drop 22).take 14).map .str
def wAB : List D := wA ++ wB
theorem split1 : mthD .split (.str someWords) [.str [32]] = some (.lst wA) := by
  have : (PySem.Txt.split ⟨someWords.toArray⟩ ⟨#[32]⟩).map (fun z => z.cps.toList) = wordsC.take 22 := by decide +kernel
  have h : ∀ l : List PySem.Str, l.map (fun z => D.str z.cps.toList) = (l.map fun z => z.cps.toList).map .str := fun l => by rw [List.map_map]; rfl
  simp [mthD, someWords, line]
  rw [h]
  simp only [someWords] at this
  rw [this]
  simp [wA, wB]
theorem split2 : mthD .split (.str moreWords) [.str [32]] = some (.lst wB) := by
  have : (PySem.Txt.split ⟨moreWords.toArray⟩ ⟨#[32]⟩).map (fun z => z.cps.toList) = (wordsC.drop 22).take 14 := by decide +kernel
  have h : ∀ l : List PySem.Str, l.map (fun z => D.str z.cps.toList) = (l.map fun z => z.cps.toList).map .str := fun l => by rw [List.map_map]; rfl
  simp [mthD, moreWords, line]
  rw [h]
  simp only [moreWords] at this
  rw [this]
  simp [wA, wB]
theorem inL_strs (x : List Nat) (l : List (List Nat)) : inD (.str x) (.lst (l.map D.str)) = some (decide (x ∈ l)) := by
  have e : (flat (.str x) && (l.map D.str).all flat) = true := by rw [flat_strs]; rfl
  show (if (flat (.str x) && (l.map D.str).all flat) = true then _ else _) = _
  rw [if_pos e, any_str]
theorem lettersC_at (k : Nat) (h : k < 26) : atD lettersC (k : Int) = some lettersC[k] := at_nat lettersC k h
/-- a name drawn -/
def NmOk (k : Nat) (x : Nm) : Prop := nameB (.str x) = true ∧ ∃ h : k < 26, x.getLast? = some lettersC[k]
theorem NmOk_q (k : Nat) (h : k < 26) : NmOk k [113, lettersC[k]] := by
  have : ∀ k : Fin 26, nameB (.str [113, lettersC[k]]) = true := by decide +kernel
  exact ⟨this ⟨k, h⟩, h, rfl⟩
theorem NmOk_w (k : Nat) (h : k < 26) (x : Nm) (hx : ∀ c ∈ x, c ∈ lettersC) (hl : x.length ≤ 7) (hw : x ++ [lettersC[k]] ∉ wordsC) : NmOk k (x ++ [lettersC[k]]) := by
  refine ⟨?_, h, by simp⟩
  simp only [nameB, Bool.and_eq_true, decide_eq_true_eq, Bool.not_eq_true', List.isEmpty_eq_false_iff, List.all_eq_true, decide_eq_false_iff_not]
  refine ⟨⟨⟨by simp, fun c hc => ?_⟩, by simp; omega⟩, hw⟩
  rcases List.mem_append.mp hc with hc | hc
  · exact hx c hc
  · have : c = lettersC[k] := by simpa using hc
    rw [this]; exact List.getElem_mem _
abbrev envNm (l : Nat) (many : Nat) (s3 : Sl) (found : List Nm) (s6 s7 : Sl) : Env := [.val (.ref l), .val (.int many), .val (.lst (wordsC.map .str)), s3, .own (found.map .str), .val (.str lettersC), s6, s7]
theorem names_inner {N : Nat} (n l many : Nat) (k : Nat) (found : List Nm) (s7 : Sl) (hl : l < N) (m : Nat) (hm : m ≤ 7) (st : St) (h : Wl N st) : ∃ (x : Nm) (s7' : Sl) (st' : St), forL (.nm 7) (evS (tell PR (n + 2)) w__law_names_1) (rngD 0 m) (envNm l many (.val (.int k)) found (.val (.str [])) s7) st = .nx (envNm l many (.val (.int k)) found (.val (.str x)) s7') st' ∧ Wl N st' ∧ (∀ c ∈ x, c ∈ lettersC) ∧ x.length = m := by
  rw [rngD_eq]
  obtain ⟨ρ', st', e, x, s7', rfl, r1, r2, r3⟩ := forL_fold0 (fun (i : Nat) => D.int (i : Int)) (tg := .nm 7) (body := evS (tell PR (n + 2)) w__law_names_1)
    (fun pre ρ st' => ∃ (x : Nm) (s7 : Sl), ρ = envNm l many (.val (.int k)) found (.val (.str x)) s7 ∧ Wl N st' ∧ (∀ c ∈ x, c ∈ lettersC) ∧ x.length = pre.length) (List.range m) (ρ := envNm l many (.val (.int k)) found (.val (.str [])) s7) (st := st) ⟨[], s7, rfl, h, by simp, rfl⟩ (by
      rintro pre p r ρ st' hr ⟨x, s7, rfl, hw, hx, hxl⟩
      have hpl : pre.length < m := by
        have := congrArg List.length hr
        simp at this; omega
      obtain ⟨c, st'', e, hw', hc⟩ := of_str n l lettersC st' hw hl (by decide) (by decide)
      have h1 : x.length + 1 ≤ line := Nat.le_trans (by omega : x.length + 1 ≤ 8) (by decide)
      refine ⟨_, st', envNm l many (.val (.int k)) found (.val (.str (x ++ [c]))) (.val (.int p)), st'', rfl, ?_, _, _, rfl, hw', ?_, by simp [hxl]⟩
      · simp -dsimp [evS, evE, evA, evT, evC, evP, evI, evO, ↓bind_bx, ↓on_ox, ↓seq_sx, bxok, bxexc, liftok, liftmap, oxok, oxexc, sxnx, sxret, sxexc, sxbrk, sxcnt, outret, outnx, outexc, bxite, oxite, sxite, outite, liftite, tellF, tellC, tellgl, tellsig, tellsub, tellfld, tellex, sval, setSl, tru, ln1, ln2, ln3, ln4, ln5, ln6, ln7, ln8, -List.all_eq_true, -List.any_eq_true, -List.all_eq_false, -List.any_eq_false, w__law_names_1, e, binD, h1]
      · intro d hd
        rcases List.mem_append.mp hd with hd | hd
        · exact hx d hd
        · have : d = c := by simpa using hd
          rw [this]; exact hc)
  exact ⟨x, s7', st', e, r1, r2, by simpa using r3⟩
theorem names_ev {N : Nat} (n l many : Nat) (hm : many ≤ 6) (hl : l < N) (st : St) (h : Wl N st) : ∃ (things : List Nm) (st' : St), callF PR (n + 3) g__law_names [.ref l, .int many] st = .ok (nmD things) st' ∧ Wl N st' ∧ things.length = many ∧ (∀ x ∈ things, nameB (.str x) = true) ∧ things.Pairwise (· < ·) ∧ (things.map List.getLast?).Nodup := by
  rw [c__law_names]
  have hz : (-1000000 : Int) ≤ many ∧ (many : Int) ≤ 1000000 := by omega
  have s1 := split1
  have s2 := split2
  simp only [someWords, moreWords] at s1 s2
  have hb1 : binD .add (.lst wA) (.lst wB) = some (.lst wAB) := rfl
  have hb2 : binD .add (.lst wAB) (.lst [.str [119, 105, 116, 104], .str [119, 111, 114, 116, 104]]) = some (.lst (wordsC.map .str)) := rfl
  obtain ⟨ρ', st', e, found, s3, s6, s7, rfl, r1, r2, r3⟩ := forL_fold0 (fun (i : Nat) => D.int (i : Int)) (tg := .nm 3) (body := evS (tell PR (n + 2)) w__law_names_0)
    (fun pre ρ st' => ∃ (found : List Nm) (s3 s6 s7 : Sl), ρ = envNm l many s3 found s6 s7 ∧ Wl N st' ∧ found.length = pre.length ∧ ∀ j x, found[j]? = some x → NmOk j x) (List.range many) (ρ := envNm l many .no [] .no .no) (st := st) ⟨[], .no, .no, .no, rfl, h, rfl, by simp⟩ (by
      rintro pre p r ρ st' hr ⟨found, s3, s6, s7, rfl, hw, hf, hok⟩
      have hp : p = pre.length := by
        have h1 : (List.range many)[pre.length]? = some p := by rw [hr]; simp
        have h2 := List.getElem?_eq_some_iff.mp h1
        obtain ⟨h3, h4⟩ := h2
        rw [List.getElem_range] at h4
        exact h4.symm
      have hpl : p < many := by
        have := congrArg List.length hr
        simp at this; omega
      have hp26 : p < 26 := by omega
      obtain ⟨m, st1, e1, hw1, hm1⟩ := of_seq n l (.tup [.int 0, .int 1, .int 2, .int 3, .int 7]) [.int 0, .int 1, .int 2, .int 3, .int 7] st' (.inl rfl) hw hl (by simp) (by decide)
      obtain ⟨m', rfl, hm'⟩ : ∃ m' : Nat, m = .int m' ∧ m' ≤ 7 := by
        simp only [List.mem_cons, List.not_mem_nil, or_false] at hm1
        rcases hm1 with rfl | rfl | rfl | rfl | rfl
        · exact ⟨0, rfl, by omega⟩
        · exact ⟨1, rfl, by omega⟩
        · exact ⟨2, rfl, by omega⟩
        · exact ⟨3, rfl, by omega⟩
        · exact ⟨7, rfl, by omega⟩
      have hmz : (-1000000 : Int) ≤ m' ∧ (m' : Int) ≤ 1000000 := by omega
      obtain ⟨x, s7', st2, e2, hw2, hx, hxl⟩ := names_inner n l many p found s7 hl m' hm' st1 hw1
      simp only [envNm] at e2
      have hat := lettersC_at p hp26
      have h1 : x.length + 1 ≤ line := Nat.le_trans (by omega : x.length + 1 ≤ 8) (by decide)
      have hfl : found.length < line := Nat.lt_of_lt_of_le (by omega : found.length < 6) (by decide)
      have h26 : lettersC.length ≤ line := by decide
      have key : ∀ y : Nm, NmOk p y → ∀ j x, (found ++ [y])[j]? = some x → NmOk j x := fun y hy j x hj => by
        rcases Nat.lt_trichotomy j found.length with q | q | q
        · rw [List.getElem?_append_left q] at hj; exact hok j x hj
        · subst q
          rw [List.getElem?_append_right (Nat.le_refl _)] at hj
          have : y = x := by simpa using hj
          subst this
          rwa [hp, ← hf] at hy
        · rw [List.getElem?_eq_none (by simp; omega)] at hj; cases hj
      by_cases hin : x ++ [lettersC[p]] ∈ wordsC
      · refine ⟨_, st', envNm l many (.val (.int p)) (found ++ [[113, lettersC[p]]]) (.val (.str (x ++ [lettersC[p]]))) s7', st2, rfl, ?_, _, _, _, _, rfl, hw2, by simp [hf], key _ (NmOk_q p hp26)⟩
        simp -dsimp [evS, evE, evA, evT, evC, evP, evI, evO, ↓bind_bx, ↓on_ox, ↓seq_sx, bxok, bxexc, liftok, liftmap, oxok, oxexc, sxnx, sxret, sxexc, sxbrk, sxcnt, outret, outnx, outexc, bxite, oxite, sxite, outite, liftite, tellF, tellC, tellgl, tellsig, tellsub, tellfld, tellex, sval, setSl, tru, ln1, ln2, ln3, ln4, ln5, ln6, ln7, ln8, -List.all_eq_true, -List.any_eq_true, -List.all_eq_false, -List.any_eq_false, w__law_names_0, e1, optI, hmz, e2, subD, h26, hat, binD, h1, hfl, cmpD, inL_strs, hin]
      · refine ⟨_, st', envNm l many (.val (.int p)) (found ++ [x ++ [lettersC[p]]]) (.val (.str (x ++ [lettersC[p]]))) s7', st2, rfl, ?_, _, _, _, _, rfl, hw2, by simp [hf], key _ (NmOk_w p hp26 x hx (by omega) hin)⟩
        simp -dsimp [evS, evE, evA, evT, evC, evP, evI, evO, ↓bind_bx, ↓on_ox, ↓seq_sx, bxok, bxexc, liftok, liftmap, oxok, oxexc, sxnx, sxret, sxexc, sxbrk, sxcnt, outret, outnx, outexc, bxite, oxite, sxite, outite, liftite, tellF, tellC, tellgl, tellsig, tellsub, tellfld, tellex, sval, setSl, tru, ln1, ln2, ln3, ln4, ln5, ln6, ln7, ln8, -List.all_eq_true, -List.any_eq_true, -List.all_eq_false, -List.any_eq_false, w__law_names_0, e1, optI, hmz, e2, subD, h26, hat, binD, h1, hfl, cmpD, inL_strs, hin])
  have r2 : found.length = many := by simpa using r2
  have hlast : (found.map List.getLast?).Nodup := by
    rw [List.nodup_iff_pairwise_ne, List.pairwise_iff_getElem]
    intro i j hi hj hij
    simp only [List.length_map] at hi hj
    obtain ⟨_, h1, h2⟩ := r3 i found[i] (List.getElem?_eq_getElem hi)
    obtain ⟨_, h3, h4⟩ := r3 j found[j] (List.getElem?_eq_getElem hj)
    rw [List.getElem_map, List.getElem_map, h2, h4]
    intro e
    have e : lettersC[i] = lettersC[j] := by simpa using e
    have hnd : lettersC.Nodup := by decide
    have := nodup_inj hnd h1 h3 e
    omega
  have hnd : found.Nodup := by
    rw [List.nodup_iff_pairwise_ne, List.pairwise_map] at hlast
    exact hlast.imp fun h e => h (by rw [e])
  refine ⟨sortS found, st', ?_, r1, by rw [sortS_length, r2], fun x hx => ?_, pw_lt_of (sortS_sorted found) (sortS_nodup hnd), ((sortS_perm found).map _).nodup_iff.mpr hlast⟩
  · simp only [envNm, lettersC, List.map_nil] at e
    have h64 : found.length < 64 := by omega
    simp -dsimp [evS, evE, evA, evT, evC, evP, evI, evO, ↓bind_bx, ↓on_ox, ↓seq_sx, bxok, bxexc, liftok, liftmap, oxok, oxexc, sxnx, sxret, sxexc, sxbrk, sxcnt, outret, outnx, outexc, bxite, oxite, sxite, outite, liftite, tellF, tellC, tellgl, tellsig, tellsub, tellfld, tellex, sval, setSl, tru, ln1, ln2, ln3, ln4, ln5, ln6, ln7, ln8, -List.all_eq_true, -List.any_eq_true, -List.all_eq_false, -List.any_eq_false, b__law_names, setSls, s1, s2, mtOk, hb1, hb2, optI, hz, rngD_eq, e, bltD, bSorted_strs', h64, bTuple, nmD]
  · obtain ⟨j, hj, e⟩ := List.mem_iff_getElem.mp ((sortS_perm found).mem_iff.mp hx)
    exact (r3 j x (by rw [List.getElem?_eq_getElem hj, e])).1
end K84
end

section
set_option linter.all false
set_option maxRecDepth 100000
set_option maxHeartbeats 4000000
set_option backward.isDefEq.respectTransparency false
namespace K84
open DV
def setsL : List D → List (List D)
  | [] => [[]]
  | x :: r => setsL r ++ (setsL r).map (· ++ [x])
theorem setsL_length : ∀ l : List D, (setsL l).length = 2 ^ l.length
  | [] => rfl
  | x :: r => by simp [setsL, setsL_length r, Nat.pow_succ]; omega
theorem setsL_le : ∀ (l : List D) (s : List D), s ∈ setsL l → s.length ≤ l.length
  | [], s, h => by
    have : s = [] := by simpa [setsL] using h
    subst this; simp
  | x :: r, s, h => by
    simp only [setsL, List.mem_append, List.mem_map] at h
    rcases h with h | ⟨s', h, rfl⟩
    · have := setsL_le r s h; simp; omega
    · have := setsL_le r s' h; simp; omega
theorem sets_ev (n : Nat) (xs : List D) (st : St) (h : xs.length ≤ 10) : callF PR (n + 1) g__law_sets [.tup xs] st = .ok (.lst ((setsL xs.reverse).map .tup)) st := by
  rw [c__law_sets]
  simp -dsimp [evS, evE, evA, evT, evC, evP, evI, evO, ↓bind_bx, ↓on_ox, ↓seq_sx, bxok, bxexc, liftok, liftmap, oxok, oxexc, sxnx, sxret, sxexc, sxbrk, sxcnt, outret, outnx, outexc, bxite, oxite, sxite, outite, liftite, tellF, tellC, tellgl, tellsig, tellsub, tellfld, tellex, sval, setSl, tru, ln1, ln2, ln3, ln4, ln5, ln6, ln7, ln8, -List.all_eq_true, -List.any_eq_true, -List.all_eq_false, -List.any_eq_false, b__law_sets, itD]
  obtain ⟨ρ', st', e, r1, s2, r2⟩ := forL_fold0 (fun (x : D) => x) (tg := .nm 2) (body := evS (tell PR n) w__law_sets_0)
    (fun pre ρ st' => st' = st ∧ ∃ s2, ρ = [.val (.tup xs), .val (.lst ((setsL pre.reverse).map .tup)), s2, .no]) xs (ρ := [.val (.tup xs), .val (.lst [.tup []]), .no, .no]) (st := st) ⟨rfl, .no, rfl⟩ (by
      rintro pre p r ρ st' hr ⟨rfl, s2, rfl⟩
      have hpl : pre.length < 10 := by
        have := congrArg List.length hr
        simp at this; omega
      have hle : (setsL pre.reverse).length ≤ 512 := by
        rw [setsL_length, List.length_reverse]
        exact Nat.le_trans (Nat.pow_le_pow_right (by omega) (by omega : pre.length ≤ 9)) (by decide)
      have hl1 : (setsL pre.reverse).length ≤ line := Nat.le_trans hle (by decide)
      have hl2 : (setsL pre.reverse).length + (setsL pre.reverse).length ≤ line := Nat.le_trans (by omega : _ ≤ 1024) (by decide)
      refine ⟨_, st', [.val (.tup xs), .val (.lst ((setsL (pre ++ [p]).reverse).map .tup)), .val p, .no], st', rfl, ?_, rfl, _, rfl⟩
      simp -dsimp [evS, evE, evA, evT, evC, evP, evI, evO, ↓bind_bx, ↓on_ox, ↓seq_sx, bxok, bxexc, liftok, liftmap, oxok, oxexc, sxnx, sxret, sxexc, sxbrk, sxcnt, outret, outnx, outexc, bxite, oxite, sxite, outite, liftite, tellF, tellC, tellgl, tellsig, tellsub, tellfld, tellex, sval, setSl, tru, ln1, ln2, ln3, ln4, ln5, ln6, ln7, ln8, -List.all_eq_true, -List.any_eq_true, -List.all_eq_false, -List.any_eq_false, w__law_sets_0, itD, wipe]
      rw [lcAll (fun s => D.tup s) (fun s => D.tup (s ++ [p])) (setsL pre.reverse) fun s hs => ⟨_, rfl, by simp -dsimp [evS, evE, evA, evT, evC, evP, evI, evO, ↓bind_bx, ↓on_ox, ↓seq_sx, bxok, bxexc, liftok, liftmap, oxok, oxexc, sxnx, sxret, sxexc, sxbrk, sxcnt, outret, outnx, outexc, bxite, oxite, sxite, outite, liftite, tellF, tellC, tellgl, tellsig, tellsub, tellfld, tellex, sval, setSl, tru, ln1, ln2, ln3, ln4, ln5, ln6, ln7, ln8, -List.all_eq_true, -List.any_eq_true, -List.all_eq_false, -List.any_eq_false], by
        have h1 : s.length + 1 ≤ line := Nat.le_trans (by have := setsL_le _ s hs; simp at this; omega : s.length + 1 ≤ 11) (by decide)
        simp -dsimp [evS, evE, evA, evT, evC, evP, evI, evO, ↓bind_bx, ↓on_ox, ↓seq_sx, bxok, bxexc, liftok, liftmap, oxok, oxexc, sxnx, sxret, sxexc, sxbrk, sxcnt, outret, outnx, outexc, bxite, oxite, sxite, outite, liftite, tellF, tellC, tellgl, tellsig, tellsub, tellfld, tellex, sval, setSl, tru, ln1, ln2, ln3, ln4, ln5, ln6, ln7, ln8, -List.all_eq_true, -List.any_eq_true, -List.all_eq_false, -List.any_eq_false, binD, h1]⟩]
      simp -dsimp [evS, evE, evA, evT, evC, evP, evI, evO, ↓bind_bx, ↓on_ox, ↓seq_sx, bxok, bxexc, liftok, liftmap, oxok, oxexc, sxnx, sxret, sxexc, sxbrk, sxcnt, outret, outnx, outexc, bxite, oxite, sxite, outite, liftite, tellF, tellC, tellgl, tellsig, tellsub, tellfld, tellex, sval, setSl, tru, ln1, ln2, ln3, ln4, ln5, ln6, ln7, ln8, -List.all_eq_true, -List.any_eq_true, -List.all_eq_false, -List.any_eq_false, noexok, hl1, binD, hl2, setsL])
  subst r1 r2
  rw [List.map_id'] at e
  rw [e]
  simp -dsimp [evS, evE, evA, evT, evC, evP, evI, evO, ↓bind_bx, ↓on_ox, ↓seq_sx, bxok, bxexc, liftok, liftmap, oxok, oxexc, sxnx, sxret, sxexc, sxbrk, sxcnt, outret, outnx, outexc, bxite, oxite, sxite, outite, liftite, tellF, tellC, tellgl, tellsig, tellsub, tellfld, tellex, sval, setSl, tru, ln1, ln2, ln3, ln4, ln5, ln6, ln7, ln8, -List.all_eq_true, -List.any_eq_true, -List.all_eq_false, -List.any_eq_false]
theorem game_ev {N : Nat} (n l most : Nat) (hm : most ≤ 5) (hl : l < N) (st : St) (h : Wl N st) : ∃ (things : List Nm) (table : List D) (st' : St), callF PR (n + 4) g__law_game [.ref l, .int most] st = .ok (gm things table) st' ∧ Wl N st' ∧ GameOk things table ∧ things.length ≤ most ∧ (things.map List.getLast?).Nodup := by
  rw [c__law_game]
  obtain ⟨k, st1, e1, hw1, k1, k2⟩ := draw_ev (n + 2) l (most + 1) st h hl (by omega) (by omega)
  obtain ⟨m, rfl⟩ : ∃ m : Nat, k = m := ⟨k.toNat, by omega⟩
  have hm1 : m ≤ most := by omega
  obtain ⟨things, st2, e2, hw2, t1, t2, t3, t4⟩ := names_ev n l m (by omega) hl st1 hw1
  obtain ⟨menu, st3, e3, hw3, hmenu⟩ := of_seq (n + 1) l (.tup [.tup [.int 0, .int 1], .tup [.int 0, .int 1, .int 2], .tup [.int 0, .int 0, .int 1, .int 5], .tup [.int (-3), .int 0, .int 2, .int 4], .tup [.int (-99), .int 99, .int 7], .tup [.int 3]]) _ st2 (.inl rfl) hw2 hl (by simp) (by decide)
  obtain ⟨ms, rfl, hms0, hms1, hms⟩ : ∃ ms : List D, menu = .tup ms ∧ ms ≠ [] ∧ ms.length ≤ 4 ∧ ∀ x ∈ ms, numB (-99) 99 x = true := by
    simp only [List.mem_cons, List.not_mem_nil, or_false] at hmenu
    have key : ∀ ms : List D, ms.all (numB (-99) 99) = true → ∀ x ∈ ms, numB (-99) 99 x = true := fun ms h => List.all_eq_true.mp h
    rcases hmenu with rfl | rfl | rfl | rfl | rfl | rfl <;> exact ⟨_, rfl, by simp, by simp, key _ (by decide)⟩
  have es := sets_ev (n + 2) (things.map .str) st3 (by simp; omega)
  have hs2 : (setsL (things.map D.str).reverse).length = 2 ^ things.length := by simp [setsL_length]
  have hl5 : (setsL (things.map D.str).reverse).length ≤ line := by
    rw [hs2]; exact Nat.le_trans (Nat.pow_le_pow_right (by omega) (by omega : things.length ≤ 5)) (by decide)
  obtain ⟨ys, st4, e4, hw4, y1, y2⟩ := lcInv (I := Wl N) (O := fun y => numB (-99) 99 y = true) (tg := .nm 4) (ρ := [.val (.ref l), .val (.int most), .val (nmD things), .val (.tup ms), .no]) (cond := evC (tell PR (n + 3)) .nil) (elt := evE (tell PR (n + 3)) (.call g__law_of (.cons (.var 0) (.cons (.var 3) .nil)) .nil)) ((setsL (things.map D.str).reverse).map .tup) st3 hw3 (by
    intro a ha st hw
    obtain ⟨x, st', e, hw', hx⟩ := of_seq (n + 1) l (.tup ms) ms st (.inl rfl) hw hl hms0 (by omega)
    exact ⟨_, rfl, by simp -dsimp [evS, evE, evA, evT, evC, evP, evI, evO, ↓bind_bx, ↓on_ox, ↓seq_sx, bxok, bxexc, liftok, liftmap, oxok, oxexc, sxnx, sxret, sxexc, sxbrk, sxcnt, outret, outnx, outexc, bxite, oxite, sxite, outite, liftite, tellF, tellC, tellgl, tellsig, tellsub, tellfld, tellex, sval, setSl, tru, ln1, ln2, ln3, ln4, ln5, ln6, ln7, ln8, -List.all_eq_true, -List.any_eq_true, -List.all_eq_false, -List.any_eq_false], x, st', by simp -dsimp [evS, evE, evA, evT, evC, evP, evI, evO, ↓bind_bx, ↓on_ox, ↓seq_sx, bxok, bxexc, liftok, liftmap, oxok, oxexc, sxnx, sxret, sxexc, sxbrk, sxcnt, outret, outnx, outexc, bxite, oxite, sxite, outite, liftite, tellF, tellC, tellgl, tellsig, tellsub, tellfld, tellex, sval, setSl, tru, ln1, ln2, ln3, ln4, ln5, ln6, ln7, ln8, -List.all_eq_true, -List.any_eq_true, -List.all_eq_false, -List.any_eq_false, e], hw', hms x hx⟩)
  have hy : ys.length = 2 ^ things.length := by rw [y1]; simp [hs2]
  refine ⟨things, ys, st4, ?_, hw4, ⟨t2, t3, by omega, hy, y2⟩, by omega, t4⟩
  have hy2 : ys.length ≤ line := by rw [hy, ← hs2]; exact hl5
  simp only [nmD] at e2 es e4
  simp -dsimp [evS, evE, evA, evT, evC, evP, evI, evO, ↓bind_bx, ↓on_ox, ↓seq_sx, bxok, bxexc, liftok, liftmap, oxok, oxexc, sxnx, sxret, sxexc, sxbrk, sxcnt, outret, outnx, outexc, bxite, oxite, sxite, outite, liftite, tellF, tellC, tellgl, tellsig, tellsub, tellfld, tellex, sval, setSl, tru, ln1, ln2, ln3, ln4, ln5, ln6, ln7, ln8, -List.all_eq_true, -List.any_eq_true, -List.all_eq_false, -List.any_eq_false, b__law_game, binD, e1, e2, e3, itD, es, hl5, wipe, e4, noexok, hy2, bltD, bTuple, gm, nmD]
end K84
end

section
set_option linter.all false
set_option maxRecDepth 100000
set_option maxHeartbeats 4000000
set_option backward.isDefEq.respectTransparency false
namespace DV
theorem ln9 : (9 ≤ line) = True := by decide
theorem ln10 : (10 ≤ line) = True := by decide
theorem ln11 : (11 ≤ line) = True := by decide
theorem ln12 : (12 ≤ line) = True := by decide
theorem ln13 : (13 ≤ line) = True := by decide
theorem ln14 : (14 ≤ line) = True := by decide
theorem ln15 : (15 ≤ line) = True := by decide
theorem ln16 : (16 ≤ line) = True := by decide
theorem ln17 : (17 ≤ line) = True := by decide
theorem ln18 : (18 ≤ line) = True := by decide
theorem ln19 : (19 ≤ line) = True := by decide
theorem ln20 : (20 ≤ line) = True := by decide
theorem ln21 : (21 ≤ line) = True := by decide
theorem ln22 : (22 ≤ line) = True := by decide
theorem ln23 : (23 ≤ line) = True := by decide
theorem ln24 : (24 ≤ line) = True := by decide
theorem ln25 : (25 ≤ line) = True := by decide
theorem ln26 : (26 ≤ line) = True := by decide
theorem ln27 : (27 ≤ line) = True := by decide
theorem ln28 : (28 ≤ line) = True := by decide
theorem ln29 : (29 ≤ line) = True := by decide
theorem ln30 : (30 ≤ line) = True := by decide
theorem ln31 : (31 ≤ line) = True := by decide
theorem ln32 : (32 ≤ line) = True := by decide
theorem sIx_nat (n i : Nat) : sIx n 0 (some (i : Int)) = min i n := by
  show (if (i : Int) < 0 then ((i : Int) + (n : Int)).toNat else min ((i : Int)).toNat n) = _
  rw [if_neg (by omega)]
  simp
theorem cut_drop {α : Type} (xs : List α) (i : Nat) : cutD xs (some (i : Int)) none = xs.drop i := by
  show (xs.drop (sIx xs.length 0 (some (i : Int)))).take (xs.length - sIx xs.length 0 (some (i : Int))) = _
  rw [sIx_nat]
  by_cases h : i ≤ xs.length
  · rw [Nat.min_eq_left h, List.take_of_length_le (by simp)]
  · rw [Nat.min_eq_right (by omega), List.drop_length, List.drop_eq_nil_of_le (by omega)]; simp
theorem wtDs_le {xs : List D} {k : Nat} (h : ∀ x ∈ xs, wtD x ≤ k) : wtDs xs ≤ (k + 1) * xs.length := by
  induction xs with
  | nil => simp [wtDs]
  | cons x r ih =>
    have h1 := h x (List.mem_cons_self ..)
    have h2 := ih fun y hy => h y (List.mem_cons_of_mem _ hy)
    simp only [wtDs, List.length_cons, Nat.mul_add, Nat.mul_one]
    omega
theorem deps_of' {xs : List D} {k : Nat} (h : ∀ x ∈ xs, dep x ≤ k) : deps xs ≤ k := by
  induction xs with
  | nil => simp [deps]
  | cons x r ih =>
    have := h x (List.mem_cons_self ..)
    have := ih fun y hy => h y (List.mem_cons_of_mem _ hy)
    simp only [deps]; omega
/-- flat nice items -/
def Fl (xs : List D) : Prop := ∀ x ∈ xs, nice x = true ∧ dep x = 0 ∧ wtD x ≤ 205
/-- plain data of moderate size -/
def Pd (k : Nat) (d : D) : Prop := nice d = true ∧ dep d ≤ 8 ∧ wtD d ≤ k
theorem Fl.tup {xs : List D} (h : Fl xs) : nice (.tup xs) = true ∧ dep (.tup xs) = 1 ∧ wtD (.tup xs) ≤ 206 * xs.length + 1 := by
  have h1 : deps xs ≤ 0 := deps_of' fun x hx => by rw [(h x hx).2.1]; omega
  have h2 := wtDs_le fun x hx => (h x hx).2.2
  refine ⟨?_, by simp only [dep]; omega, by simp only [wtD]; omega⟩
  simp only [nice]; exact nices_iff.mpr fun x hx => (h x hx).1
theorem Fl.lst {xs : List D} (h : Fl xs) : nice (.lst xs) = true ∧ dep (.lst xs) = 1 ∧ wtD (.lst xs) ≤ 206 * xs.length + 1 := by
  have := h.tup
  simpa [nice, dep, wtD] using this
theorem Fl.app {xs ys : List D} (h : Fl xs) (h2 : Fl ys) : Fl (xs ++ ys) := fun x hx => by
  rcases List.mem_append.mp hx with hx | hx
  · exact h x hx
  · exact h2 x hx
theorem Fl.cons {x : D} {ys : List D} (h : nice x = true ∧ dep x = 0 ∧ wtD x ≤ 205) (h2 : Fl ys) : Fl (x :: ys) := fun y hy => by
  rcases List.mem_cons.mp hy with rfl | hy
  · exact h
  · exact h2 y hy
theorem Fl.nil : Fl [] := fun y hy => by cases hy
theorem Fl.drop {xs : List D} (h : Fl xs) (i : Nat) : Fl (xs.drop i) := fun x hx => h x (List.mem_of_mem_drop hx)
theorem Fl.take {xs : List D} (h : Fl xs) (i : Nat) : Fl (xs.take i) := fun x hx => h x (List.mem_of_mem_take hx)
theorem Pd.pair {a b : D} {k m : Nat} (ha : nice a = true ∧ dep a = 1 ∧ wtD a ≤ k) (hb : nice b = true ∧ dep b = 1 ∧ wtD b ≤ m) : Pd (k + m + 3) (.tup [a, b]) := by
  refine ⟨by simp [nice, nices, ha.1, hb.1], ?_, ?_⟩
  · simp only [dep, deps]; omega
  · simp only [wtD, wtDs]; omega
theorem Pd.pairl {a b : D} {k m : Nat} (ha : nice a = true ∧ dep a = 1 ∧ wtD a ≤ k) (hb : nice b = true ∧ dep b = 1 ∧ wtD b ≤ m) : Pd (k + m + 3) (.lst [a, b]) := by
  refine ⟨by simp [nice, nices, ha.1, hb.1], ?_, ?_⟩
  · simp only [dep, deps]; omega
  · simp only [wtD, wtDs]; omega
theorem Pd.mono {d : D} {k m : Nat} (h : Pd k d) (hk : k ≤ m) : Pd m d := ⟨h.1, h.2.1, by have := h.2.2; omega⟩
theorem Pd.tup {xs : List D} (h : Fl xs) : Pd (206 * xs.length + 1) (.tup xs) := ⟨h.tup.1, by rw [h.tup.2.1]; omega, h.tup.2.2⟩
theorem Pd.lst {xs : List D} (h : Fl xs) : Pd (206 * xs.length + 1) (.lst xs) := ⟨h.lst.1, by rw [h.lst.2.1]; omega, h.lst.2.2⟩
end DV
namespace K84
open DV
theorem Fl_names {things : List Nm} (h : ∀ x ∈ things, nameB (.str x) = true) : Fl (things.map .str) := fun y hy => by
  obtain ⟨x, hx, rfl⟩ := List.mem_map.mp hy
  have hn := nice_gm (things := things) (table := []) h (fun x hx => by cases hx)
  simp only [gm, nmD, nice, nices, Bool.and_true] at hn
  obtain ⟨z, e, h1, h2, h3, h4⟩ := nameB_str (h x hx)
  cases e
  exact ⟨nices_iff.mp hn _ hy, rfl, by simp only [wtD]; omega⟩
theorem Fl_table {table : List D} (ht : ∀ x ∈ table, numB (-99) 99 x = true) : Fl table := fun y hy => by
  have hn := nice_gm (things := []) (table := table) (fun x hx => by cases hx) ht
  simp only [gm, nmD, nice, nices, Bool.and_true, Bool.and_eq_true] at hn
  have := ht y hy
  cases y <;> first | (cases this; done) | skip
  exact ⟨nices_iff.mp hn.2 _ hy, rfl, by simp [wtD]⟩
/-- an odd game -/
def OddOk (d : D) : Prop := Pd 40000 d ∧ gameB d = false
theorem gameB_bad {xs ys : List D} (h : (∃ x ∈ xs, nameB x = false) ∨ ys.length ≠ 2 ^ xs.length ∨ ∃ y ∈ ys, numB (-99) 99 y = false) : gameB (.tup [.tup xs, .tup ys]) = false := by
  simp only [gameB]
  rcases h with ⟨x, hx, h⟩ | h | ⟨y, hy, h⟩
  · have : thingsB (.tup xs) = false := by
      rcases Bool.eq_false_or_eq_true (thingsB (.tup xs)) with q | q
      · rw [(thingsB_le q).2 x hx] at h; cases h
      · exact q
    rw [this]; simp
  · simp [h]
  · have : ys.all (numB (-99) 99) = false := List.all_eq_false.mpr ⟨y, hy, by rw [h]; simp⟩
    rw [this]; simp
theorem odd_ev {N : Nat} (n l : Nat) (things : List Nm) (table : List D) (hl : l < N) (st : St) (h : Wl N st) (hg : GameOk things table) (h4 : things.length ≤ 5) : ∃ (d : D) (st' : St), callF PR (n + 3) g__law_odd_game [.ref l, gm things table] st = .ok d st' ∧ Wl N st' ∧ OddOk d := by
  rw [c__law_odd_game]
  have hT : Fl (things.map D.str) := Fl_names hg.nm
  have hB : Fl table := Fl_table hg.num
  have hTl : (things.map D.str).length ≤ 5 := by simpa using h4
  have hp : 2 ^ things.length ≤ 32 := Nat.le_trans (Nat.pow_le_pow_right (by omega) h4) (by decide)
  have hp1 : 0 < 2 ^ things.length := Nat.two_pow_pos _
  have hBl : table.length ≤ 32 := by rw [hg.len]; exact hp
  have hB0 : table ≠ [] := by
    intro e
    have := hg.len
    rw [e] at this
    simp at this
    omega
  obtain ⟨rest, hrest⟩ : ∃ r, r = table.drop 1 := ⟨_, rfl⟩
  have hR : Fl rest := hrest ▸ hB.drop 1
  have hdl : rest.length + 1 = table.length := by
    have := List.length_pos_iff.mpr hB0
    rw [hrest]
    simp; omega
  have cut1 : cutD table (some 1) none = rest := hrest ▸ cut_drop table 1
  have q1 : table.length + 1 ≤ line := Nat.le_trans (by omega : _ ≤ 33) (by decide)
  have q2 : 1 + rest.length ≤ line := Nat.le_trans (by omega : _ ≤ 33) (by decide)
  have q3 : things.length + 1 ≤ line := Nat.le_trans (by omega : _ ≤ 33) (by decide)
  have q5 : table.length ≤ 1000 := by omega
  let items : List D := [.non, .tup [], .tup (things.map .str), .lst [.tup (things.map .str), .tup table], .tup [.lst (things.map .str), .tup table], .tup [.tup (things.map .str), .lst table], .tup [.tup (things.map .str), .tup (table ++ [.int 0])], .int 5,
    .tup [.tup (things.map .str), .tup (.int 100 :: rest)], .tup [.tup (things.map .str), .tup (.int (-100) :: rest)], .tup [.tup (things.map .str), .tup (.bl true :: rest)], .tup [.tup (things.map .str), .tup rest],
    .tup [.tup (things.map .str), .tup (.non :: rest)], .tup [.tup (things.map .str ++ [.str [97, 116]]), .tup (table ++ table)], .tup [.tup [.str [98], .str [97]], .tup [.int 0, .int 0, .int 0, .int 0]], .tup [.tup [.str [90, 122]], .tup [.int 0, .int 0]]]
  obtain ⟨x, st', e, hw, hx⟩ := of_seq n l (.lst items) items st (.inr rfl) h hl (by simp [items]) (by simp [items])
  refine ⟨x, st', ?_, hw, ?_⟩
  · simp only [items] at e
    simp -dsimp [evS, evE, evA, evT, evC, evP, evI, evO, ↓bind_bx, ↓on_ox, ↓seq_sx, bxok, bxexc, liftok, liftmap, oxok, oxexc, sxnx, sxret, sxexc, sxbrk, sxcnt, outret, outnx, outexc, bxite, oxite, sxite, outite, liftite, tellF, tellC, tellgl, tellsig, tellsub, tellfld, tellex, sval, setSl, tru, ln1, ln2, ln3, ln4, ln5, ln6, ln7, ln8, -List.all_eq_true, -List.any_eq_true, -List.all_eq_false, -List.any_eq_false, b__law_odd_game, gm, nmD, asgT, seqD, slcD, optI, cut1, bltD, bList, binD, q1, q2, q3, hB0, q5, e, ln12, ln15, ln16]
  · have mk : ∀ {k : Nat} {d : D}, Pd k d → k ≤ 40000 → gameB d = false → OddOk d := fun h1 h2 h3 => ⟨h1.mono h2, h3⟩
    have i0 : ∀ {i : Int}, -1000 < i → i < 1000 → nice (.int i) = true ∧ dep (.int i) = 0 ∧ wtD (.int i) ≤ 205 := fun h1 h2 => by
      refine ⟨?_, rfl, by simp [wtD]⟩
      simp only [nice, Bool.and_eq_true, decide_eq_true_eq]
      constructor <;> omega
    have hb : nice (.bl true) = true ∧ dep (.bl true) = 0 ∧ wtD (.bl true) ≤ 205 := ⟨rfl, rfl, by simp [wtD]⟩
    have hn : nice .non = true ∧ dep .non = 0 ∧ wtD .non ≤ 205 := ⟨rfl, rfl, by simp [wtD]⟩
    have hnn : Fl [D.str [97, 116]] := Fl.cons ⟨by decide, rfl, by simp [wtD]⟩ .nil
    have lT : 206 * (things.map D.str).length ≤ 1030 := by omega
    have lB : 206 * table.length ≤ 6592 := by omega
    simp only [items, List.mem_cons, List.not_mem_nil, or_false] at hx
    rcases hx with rfl | rfl | rfl | rfl | rfl | rfl | rfl | rfl | rfl | rfl | rfl | rfl | rfl | rfl | rfl | rfl
    · exact mk (k := 205) ⟨rfl, by simp [dep], by simp [wtD]⟩ (by omega) rfl
    · exact mk (Pd.tup .nil) (by simp) rfl
    · refine mk (Pd.tup hT) (by omega) ?_
      match things with
      | [] => rfl
      | [_] => rfl
      | [_, _] => rfl
      | _ :: _ :: _ :: _ => rfl
    · exact mk (Pd.pairl hT.tup hB.tup) (by omega) rfl
    · exact mk (Pd.pair hT.lst hB.tup) (by omega) rfl
    · exact mk (Pd.pair hT.tup hB.lst) (by omega) rfl
    · exact mk (Pd.pair hT.tup (hB.app (Fl.cons (i0 (by omega) (by omega)) .nil)).tup) (by simp; omega) (gameB_bad (.inr (.inl (by simp [hg.len]))))
    · exact mk (k := 205) ⟨by decide, by simp [dep], by simp [wtD]⟩ (by omega) rfl
    · exact mk (Pd.pair hT.tup (Fl.cons (i0 (by omega) (by omega)) hR).tup) (by simp; omega) (gameB_bad (.inr (.inr ⟨_, List.mem_cons_self .., by decide⟩)))
    · exact mk (Pd.pair hT.tup (Fl.cons (i0 (by omega) (by omega)) hR).tup) (by simp; omega) (gameB_bad (.inr (.inr ⟨_, List.mem_cons_self .., by decide⟩)))
    · exact mk (Pd.pair hT.tup (Fl.cons hb hR).tup) (by simp; omega) (gameB_bad (.inr (.inr ⟨_, List.mem_cons_self .., by decide⟩)))
    · exact mk (Pd.pair hT.tup hR.tup) (by simp; omega) (gameB_bad (.inr (.inl (by simp [← hg.len]; omega))))
    · exact mk (Pd.pair hT.tup (Fl.cons hn hR).tup) (by simp; omega) (gameB_bad (.inr (.inr ⟨_, List.mem_cons_self .., by decide⟩)))
    · exact mk (Pd.pair (hT.app hnn).tup (hB.app hB).tup) (by simp; omega) (gameB_bad (.inl ⟨.str [97, 116], by simp, by decide⟩))
    · exact mk (k := 4000) ⟨by decide, by decide, by decide⟩ (by omega) (by decide)
    · exact mk (k := 4000) ⟨by decide, by decide, by decide⟩ (by omega) (by decide)
end K84
end

section
set_option linter.all false
set_option maxRecDepth 100000
set_option maxHeartbeats 4000000
set_option backward.isDefEq.respectTransparency false
namespace DV
def takeC : Nat → CS → CS
  | 0, _ => .nil
  | n + 1, .cons s r => .cons s (takeC n r)
  | _, _ => .nil
def dropC : Nat → CS → CS
  | 0, s => s
  | n + 1, .cons _ r => dropC n r
  | _, s => s
theorem seq_assoc (r : RS) (f g : Env → St → RS) : (r.seq f).seq g = r.seq fun ρ st => (f ρ st).seq g := by cases r <;> rfl
theorem evS_cut (G : Tell) : ∀ (k : Nat) (b : CS) (ρ : Env) (st : St), evS G b ρ st = (evS G (takeC k b) ρ st).seq (evS G (dropC k b))
  | 0, b, ρ, st => by simp [takeC, dropC, evS, seqnx]
  | k + 1, .cons s r, ρ, st => by
    simp only [takeC, dropC, evS]
    rw [seq_assoc]
    congr 1
    funext ρ st
    exact evS_cut G k r ρ st
  | k + 1, .nil, ρ, st | k + 1, .pass, ρ, st | k + 1, .expr _, ρ, st | k + 1, .asg _ _, ρ, st | k + 1, .par _ _ _, ρ, st | k + 1, .asgt _ _, ρ, st | k + 1, .sets _ _ _, ρ, st | k + 1, .app _ _, ρ, st | k + 1, .frz _, ρ, st
  | k + 1, .ite _ _ _, ρ, st | k + 1, .for_ _ _ _, ρ, st | k + 1, .whl _ _, ρ, st | k + 1, .ret _, ρ, st | k + 1, .ret0, ρ, st | k + 1, .brk, ρ, st | k + 1, .cnt, ρ, st | k + 1, .rse _ _, ρ, st | k + 1, .try_ _ _ _ _, ρ, st | k + 1, .never, ρ, st => rfl
end DV
namespace K84
open DV
def gameT : Nm := [103, 97, 109, 101]
def namesT : Nm := [110, 97, 109, 101, 115]
def letT : Nm := [108, 101, 116]
theorem refusal_game (n k : Nat) (caps : List D) (d : D) (st st' : St) (h : callC PR n k caps [] st = .exc e_InvalidGame [d] st') (hp : st.all plas = true) (hd : Pd 40000 d) : callF PR (n + 1) g__law_refusal [.clo k caps] st = .ok (.lst [.str gameT, .str (rep d)]) st' := by
  rw [c__law_refusal]
  have hr := repr_nice hd.1 (by have := hd.2.1; omega) (by have := hd.2.2; omega)
  simp -dsimp [evS, evE, evA, evT, evC, evP, evI, evO, ↓bind_bx, ↓on_ox, ↓seq_sx, bxok, bxexc, liftok, liftmap, oxok, oxexc, sxnx, sxret, sxexc, sxbrk, sxcnt, outret, outnx, outexc, bxite, oxite, sxite, outite, liftite, tellF, tellC, tellgl, tellsig, tellsub, tellfld, tellex, sval, setSl, tru, ln1, ln2, ln3, ln4, ln5, ln6, ln7, ln8, -List.all_eq_true, -List.any_eq_true, -List.all_eq_false, -List.any_eq_false, b__law_refusal, plas, hp, h, u_InvalidGame_PickError, u_InvalidGame_InvalidGame, u_InvalidGame_InvalidNames, u_InvalidGame_ValueError, mtOk, mthD, eqD, cmpD, eqv2, shp, dat, dep, subD, at_0, f_InvalidGame, bltD, hr, gameT, unsl]
theorem refusal_names (n k : Nat) (caps : List D) (d : D) (st st' : St) (h : callC PR n k caps [] st = .exc e_InvalidNames [d] st') (hp : st.all plas = true) (hd : Pd 40000 d) : callF PR (n + 1) g__law_refusal [.clo k caps] st = .ok (.lst [.str namesT, .str (rep d)]) st' := by
  rw [c__law_refusal]
  have hr := repr_nice hd.1 (by have := hd.2.1; omega) (by have := hd.2.2; omega)
  simp -dsimp [evS, evE, evA, evT, evC, evP, evI, evO, ↓bind_bx, ↓on_ox, ↓seq_sx, bxok, bxexc, liftok, liftmap, oxok, oxexc, sxnx, sxret, sxexc, sxbrk, sxcnt, outret, outnx, outexc, bxite, oxite, sxite, outite, liftite, tellF, tellC, tellgl, tellsig, tellsub, tellfld, tellex, sval, setSl, tru, ln1, ln2, ln3, ln4, ln5, ln6, ln7, ln8, -List.all_eq_true, -List.any_eq_true, -List.all_eq_false, -List.any_eq_false, b__law_refusal, plas, hp, h, u_InvalidNames_PickError, u_InvalidNames_InvalidGame, u_InvalidNames_InvalidNames, u_InvalidNames_ValueError, mtOk, mthD, eqD, cmpD, eqv2, shp, dat, dep, subD, at_0, f_InvalidNames, bltD, hr, namesT, unsl]
theorem refusal_let (n k : Nat) (caps : List D) (d : D) (st st' : St) (h : callC PR n k caps [] st = .ok d st') (hp : st.all plas = true) : callF PR (n + 1) g__law_refusal [.clo k caps] st = .ok (.lst [.str letT]) st' := by
  rw [c__law_refusal]
  simp -dsimp [evS, evE, evA, evT, evC, evP, evI, evO, ↓bind_bx, ↓on_ox, ↓seq_sx, bxok, bxexc, liftok, liftmap, oxok, oxexc, sxnx, sxret, sxexc, sxbrk, sxcnt, outret, outnx, outexc, bxite, oxite, sxite, outite, liftite, tellF, tellC, tellgl, tellsig, tellsub, tellfld, tellex, sval, setSl, tru, ln1, ln2, ln3, ln4, ln5, ln6, ln7, ln8, -List.all_eq_true, -List.any_eq_true, -List.all_eq_false, -List.any_eq_false, b__law_refusal, plas, hp, h, letT]
end K84
end

section
set_option linter.all false
set_option maxRecDepth 100000
set_option maxHeartbeats 4000000
set_option backward.isDefEq.respectTransparency false
namespace K84
open DV
theorem firstBad_some {most : Option Nat} {p : D → List D → Bool} {all : List D} : ∀ {rest : List D} {i k : Nat} {x : D}, (∀ j y, j < k → rest[j]? = some y → overB most (i + j) = false ∧ p y (all.take (i + j)) = true) → rest[k]? = some x → (overB most (i + k) = true ∨ p x (all.take (i + k)) = false) → firstBad most p all i rest = some (i + k)
  | [], i, k, x, _, h2, _ => by simp at h2
  | a :: r, i, 0, x, _, h2, h3 => by
    have : a = x := by simpa using h2
    subst this
    simp only [firstBad, Nat.add_zero] at h3 ⊢
    rw [if_pos]
    rcases h3 with h3 | h3 <;> simp [h3]
  | a :: r, i, k + 1, x, h1, h2, h3 => by
    have h0 := h1 0 a (by omega) rfl
    simp only [Nat.add_zero] at h0
    simp only [firstBad]
    rw [if_neg (by simp [h0.1, h0.2])]
    rw [firstBad_some (rest := r) (i := i + 1) (k := k) (x := x) (fun j y hj hy => by
      have := h1 (j + 1) y (by omega) (by simpa using hy)
      rwa [show i + (j + 1) = i + 1 + j from by omega] at this) (by simpa using h2) (by rwa [show i + 1 + k = i + (k + 1) from by omega])]
    congr 1; omega
theorem cut_init {α : Type} (xs : List α) : cutD xs none (some (-1)) = xs.dropLast := by
  show (xs.drop 0).take ((if (-1 : Int) < 0 then ((-1 : Int) + (xs.length : Int)).toNat else min ((-1 : Int)).toNat xs.length) - 0) = _
  rw [if_pos (by omega), List.dropLast_eq_take]
  simp only [List.drop_zero, Nat.sub_zero]
  congr 1; omega
theorem atD_getLast {x : Nm} {c : Nat} (h : x.getLast? = some c) : atD x (-1) = some c := by
  obtain ⟨ys, rfl⟩ := List.getLast?_eq_some_iff.mp h
  exact atD_last ys c
def xn (x : Nm) : Nm := [120, x.getLast?.getD 0]
theorem xn_last {x : Nm} (h : nameB (.str x) = true) : ∃ c, x.getLast? = some c ∧ c ∈ lettersC := by
  obtain ⟨z, e, h1, h2, h3, h4⟩ := nameB_str h
  cases e
  cases q : x.getLast? with
  | none => exact absurd (List.getLast?_eq_none_iff.mp q) h1
  | some c => exact ⟨c, rfl, h2 c (List.mem_of_getLast? q)⟩
theorem xn_name {x : Nm} (h : nameB (.str x) = true) : nameB (.str (xn x)) = true := by
  obtain ⟨c, e, hc⟩ := xn_last h
  have key : lettersC.all (fun c => nameB (.str [120, c])) = true := by decide +kernel
  simp only [xn, e, Option.getD_some]
  exact List.all_eq_true.mp key c hc
theorem xn_nodup {things : List Nm} (h : ∀ x ∈ things, nameB (.str x) = true) (hd : (things.map List.getLast?).Nodup) : (things.map xn).Nodup := by
  rw [List.nodup_iff_pairwise_ne, List.pairwise_map] at hd ⊢
  refine hd.imp_of_mem ?_
  intro a b ha hb hab e
  obtain ⟨c, h1, _⟩ := xn_last (h a ha)
  obtain ⟨c', h2, _⟩ := xn_last (h b hb)
  simp only [xn, h1, h2, Option.getD_some, List.cons.injEq, and_true, true_and] at e
  rw [h1, h2, e] at hab
  exact hab rfl
/-- odd names, and what is told of them -/
def BadOk (many : Nat) (x : D) : Prop := ∃ bad at_, x = .tup [bad, at_] ∧ Pd 40000 bad ∧ badNames many bad = some at_ ∧ Pd 40000 at_
theorem Pd_non (k : Nat) (h : 205 ≤ k) : Pd k .non := ⟨rfl, by simp [dep], by simp only [wtD]; omega⟩
theorem Pd_int (k : Nat) (i : Int) (h : 205 ≤ k) (h1 : -1000 < i) (h2 : i < 1000) : Pd k (.int i) := by
  refine ⟨?_, by simp [dep], by simp only [wtD]; omega⟩
  simp only [nice, Bool.and_eq_true, decide_eq_true_eq]
  constructor <;> omega
abbrev ER (l : Nat) (game odd : D) (many : Nat) (names : List Nm) (s3 s4 s5 s6 s7 s10 s11 s12 s13 : Sl) : Env := [.val (.ref l), .val game, .val (nmD names), s3, s4, s5, s6, s7, .val odd, .val (.int many), s10, s11, s12, s13]
theorem bads_ev (n l : Nat) (game odd : D) (names : List Nm) (s4 s5 s6 s7 s10 s11 s12 s13 : Sl) (st : St) (hn : ∀ x ∈ names, nameB (.str x) = true) (hnd : names.Nodup) (hl : names.length ≤ 6) :
    ∃ items : List D, evS (tell PR n) (takeC 3 (dropC 3 b__law_right)) (ER l game odd names.length names .no s4 s5 s6 s7 s10 s11 s12 s13) st = .nx (ER l game odd names.length names (.val (.lst items)) s4 s5 s6 s7 s10 s11 s12 s13) st ∧ items ≠ [] ∧ items.length ≤ 9 ∧ ∀ x ∈ items, BadOk names.length x := by
  have hF : Fl (names.map .str) := Fl_names hn
  have hLl : (names.map D.str).length = names.length := by simp
  have hl1 : names.length + 1 ≤ line := Nat.le_trans (by omega : _ ≤ 7) (by decide)
  have hy : Fl [D.str [121]] := Fl.cons ⟨by decide, rfl, by simp [wtD]⟩ .nil
  have bad0 : ∀ {m : Nat} {d : D}, Pd m d → m ≤ 40000 → badNames names.length d = some .non → BadOk names.length (.tup [d, .non]) := fun h1 h2 h3 => ⟨_, _, rfl, h1.mono h2, h3, Pd_non _ (by omega)⟩
  have b1 : BadOk names.length (.tup [.non, .non]) := bad0 (Pd_non 205 (by omega)) (by omega) rfl
  have b2 : BadOk names.length (.tup [.tup (names.map .str ++ [.str [121]]), .non]) := bad0 (Pd.tup (hF.app hy)) (by simp; omega) (by simp [badNames])
  have b3 : BadOk names.length (.tup [.lst (names.map .str), .non]) := bad0 (Pd.lst hF) (by simp; omega) rfl
  have b4 : BadOk names.length (.tup [.int 5, .non]) := bad0 (Pd_int 205 5 (by omega) (by omega) (by omega)) (by omega) rfl
  by_cases q0 : names.length = 0
  · have : names = [] := List.length_eq_zero_iff.mp q0
    subst this
    refine ⟨[.tup [.non, .non], .tup [.tup [.str [121]], .non], .tup [.lst [], .non], .tup [.int 5, .non]], ?_, by simp, by simp, ?_⟩
    · simp -dsimp [evS, evE, evA, evT, evC, evP, evI, evO, ↓bind_bx, ↓on_ox, ↓seq_sx, bxok, bxexc, liftok, liftmap, oxok, oxexc, sxnx, sxret, sxexc, sxbrk, sxcnt, outret, outnx, outexc, bxite, oxite, sxite, outite, liftite, tellF, tellC, tellgl, tellsig, tellsub, tellfld, tellex, sval, setSl, tru, ln1, ln2, ln3, ln4, ln5, ln6, ln7, ln8, -List.all_eq_true, -List.any_eq_true, -List.all_eq_false, -List.any_eq_false, takeC, dropC, b__law_right, nmD, binD, bltD, bList, cmpD, DV.ordD]
    · intro x hx
      simp only [List.mem_cons, List.not_mem_nil, or_false] at hx
      rcases hx with rfl | rfl | rfl | rfl
      · exact b1
      · exact b2
      · exact b3
      · exact b4
  · have q1 : 0 < names.length := by omega
    have q1' : (0 : Int) < names.length := by omega
    obtain ⟨rest, hrest⟩ : ∃ r, r = (names.map D.str).drop 1 := ⟨_, rfl⟩
    have hR : Fl rest := hrest ▸ hF.drop 1
    have hdl : rest.length + 1 = names.length := by rw [hrest]; simp; omega
    have cut1 : cutD (names.map D.str) (some 1) none = rest := hrest ▸ cut_drop _ 1
    have b5 : BadOk names.length (.tup [.tup rest, .non]) := bad0 (Pd.tup hR) (by omega) (by simp only [badNames]; rw [if_neg (by omega)])
    have first : ∀ a : D, nameB a = false → nice a = true ∧ dep a = 0 ∧ wtD a ≤ 205 → BadOk names.length (.tup [.tup (a :: rest), .int 0]) := fun a h1 h2 => by
      refine ⟨_, _, rfl, (Pd.tup (Fl.cons h2 hR)).mono (by simp; omega), ?_, Pd_int _ 0 (by omega) (by omega) (by omega)⟩
      simp only [badNames, List.length_cons]
      rw [if_pos (by omega)]
      rw [firstBad_some (k := 0) (x := a) (fun j y hj => by omega) rfl (.inr (by simp [pNm, h1]))]
      rfl
    have b6 := first (.str [97, 116]) (by decide) ⟨by decide, rfl, by simp [wtD]⟩
    have b7 := first (.str [90, 122]) (by decide) ⟨by decide, rfl, by simp [wtD]⟩
    have b8 := first .non rfl ⟨rfl, rfl, by simp [wtD]⟩
    have hl2 : 1 + rest.length ≤ line := Nat.le_trans (by omega : _ ≤ 7) (by decide)
    by_cases q2 : 1 < names.length
    · have q2' : (1 : Int) < names.length := by omega
      obtain ⟨y0, r0, rfl⟩ := List.exists_cons_of_length_pos q1
      have cut2 : cutD ((y0 :: r0).map D.str) none (some 1) = [.str y0] := cut_take _ 1
      have cut3 : cutD ((y0 :: r0).map D.str) none (some (-1)) = ((y0 :: r0).dropLast).map D.str := by rw [cut_init, List.map_dropLast]
      have b9 : BadOk (y0 :: r0).length (.tup [.tup (((y0 :: r0).dropLast).map D.str ++ [D.str y0]), .int ((y0 :: r0).length - 1)]) := by
        refine ⟨_, _, rfl, (Pd.tup (xs := ((y0 :: r0).dropLast).map D.str ++ [.str y0]) ?_).mono (by simp at hl ⊢; omega), ?_, Pd_int _ _ (by omega) (by omega) (by omega)⟩
        · refine Fl.app (Fl_names fun x hx => hn x ((List.dropLast_sublist _).subset hx)) (Fl.cons (hF _ (by simp)) .nil)
        · simp only [badNames]
          have hlen : (((y0 :: r0).dropLast).map D.str ++ [D.str y0]).length = (y0 :: r0).length := by simp
          rw [if_pos hlen]
          have hdl : (y0 :: r0).dropLast.length = r0.length := by simp
          rw [firstBad_some (k := r0.length) (x := .str y0)]
          · simp
          · intro j y hj hy
            rw [List.getElem?_append_left (by simp; omega), List.getElem?_map] at hy
            obtain ⟨z, hz, rfl⟩ := Option.map_eq_some_iff.mp hy
            obtain ⟨hj', e⟩ := List.getElem?_eq_some_iff.mp hz
            rw [List.getElem_dropLast] at e
            refine ⟨by simp [overB]; omega, ?_⟩
            simp only [pNm, Bool.and_eq_true, Nat.zero_add]
            refine ⟨hn z (e ▸ List.getElem_mem _), ?_⟩
            rw [List.take_append_of_le_length (by simp; omega), ← List.map_take, any_str]
            simp only [Bool.not_eq_true', decide_eq_false_iff_not]
            intro hm
            obtain ⟨i, hi, e2⟩ := List.mem_iff_getElem.mp hm
            rw [List.length_take] at hi
            rw [List.getElem_take, List.getElem_dropLast] at e2
            have := nodup_inj hnd (by simp; omega) (by simp; omega) (e2.trans e.symm)
            omega
          · rw [List.getElem?_append_right (by simp)]
            simp
          · right
            simp only [pNm, Nat.zero_add]
            have : (((y0 :: r0).dropLast).map D.str ++ [D.str y0]).take r0.length = ((y0 :: r0).dropLast).map D.str := List.take_left' (by simp)
            rw [this, any_str]
            have hm : y0 ∈ (y0 :: r0).dropLast := by
              cases r0 with
              | nil => simp at q2
              | cons a r => simp
            simp [hm]
      have hl3 : (y0 :: r0).dropLast.length + 1 ≤ line := by simp only [List.length_dropLast]; exact Nat.le_trans (by omega : _ ≤ 7) (by decide)
      generalize hg : y0 :: r0 = names at *
      generalize hg2 : names.dropLast = drop at *
      refine ⟨[.tup [.non, .non], .tup [.tup (names.map .str ++ [.str [121]]), .non], .tup [.lst (names.map .str), .non], .tup [.int 5, .non], .tup [.tup rest, .non], .tup [.tup (.str [97, 116] :: rest), .int 0], .tup [.tup (.str [90, 122] :: rest), .int 0], .tup [.tup (.non :: rest), .int 0], .tup [.tup (drop.map D.str ++ [.str y0]), .int (names.length - 1)]], ?_, by simp, by simp, ?_⟩
      · simp -dsimp [evS, evE, evA, evT, evC, evP, evI, evO, ↓bind_bx, ↓on_ox, ↓seq_sx, bxok, bxexc, liftok, liftmap, oxok, oxexc, sxnx, sxret, sxexc, sxbrk, sxcnt, outret, outnx, outexc, bxite, oxite, sxite, outite, liftite, tellF, tellC, tellgl, tellsig, tellsub, tellfld, tellex, sval, setSl, tru, ln1, ln2, ln3, ln4, ln5, ln6, ln7, ln8, -List.all_eq_true, -List.any_eq_true, -List.all_eq_false, -List.any_eq_false, takeC, dropC, b__law_right, nmD, binD, bltD, bList, cmpD, DV.ordD, hl1, q1', q2', slcD, optI, cut1, cut2, cut3, hl2, hl3, q1, q2, ln9]
      · intro x hx
        simp only [List.mem_cons, List.not_mem_nil, or_false] at hx
        rcases hx with rfl | rfl | rfl | rfl | rfl | rfl | rfl | rfl | rfl
        · exact b1
        · exact b2
        · exact b3
        · exact b4
        · exact b5
        · exact b6
        · exact b7
        · exact b8
        · exact b9
    · have q2' : ¬ (1 : Int) < names.length := by omega
      refine ⟨[.tup [.non, .non], .tup [.tup (names.map .str ++ [.str [121]]), .non], .tup [.lst (names.map .str), .non], .tup [.int 5, .non], .tup [.tup rest, .non], .tup [.tup (.str [97, 116] :: rest), .int 0], .tup [.tup (.str [90, 122] :: rest), .int 0], .tup [.tup (.non :: rest), .int 0]], ?_, by simp, by simp, ?_⟩
      · simp -dsimp [evS, evE, evA, evT, evC, evP, evI, evO, ↓bind_bx, ↓on_ox, ↓seq_sx, bxok, bxexc, liftok, liftmap, oxok, oxexc, sxnx, sxret, sxexc, sxbrk, sxcnt, outret, outnx, outexc, bxite, oxite, sxite, outite, liftite, tellF, tellC, tellgl, tellsig, tellsub, tellfld, tellex, sval, setSl, tru, ln1, ln2, ln3, ln4, ln5, ln6, ln7, ln8, -List.all_eq_true, -List.any_eq_true, -List.all_eq_false, -List.any_eq_false, takeC, dropC, b__law_right, nmD, binD, bltD, bList, cmpD, DV.ordD, hl1, q1', q2', slcD, optI, cut1, hl2, q1, q2]
      · intro x hx
        simp only [List.mem_cons, List.not_mem_nil, or_false] at hx
        rcases hx with rfl | rfl | rfl | rfl | rfl | rfl | rfl | rfl
        · exact b1
        · exact b2
        · exact b3
        · exact b4
        · exact b5
        · exact b6
        · exact b7
        · exact b8
end K84
end

section
set_option linter.all false
set_option maxRecDepth 100000
set_option maxHeartbeats 4000000
set_option backward.isDefEq.respectTransparency false
namespace DV
theorem idxOf_at {l : List (List Nat)} (h : l.Nodup) {i : Nat} (hi : i < l.length) : l.idxOf l[i] = i := by
  have hm : l[i] ∈ l := List.getElem_mem hi
  have h1 := List.idxOf_lt_length_of_mem hm
  exact nodup_inj h h1 hi (List.getElem_idxOf h1)
theorem map_idx {l : List (List Nat)} (h : l.Nodup) : l.map (fun t => l.idxOf t) = List.range l.length := by
  apply List.ext_getElem (by simp)
  intro i h1 h2
  simp only [List.getElem_map, List.getElem_range]
  exact idxOf_at h (by simpa using h1)
theorem map_getD_range {α : Type} (l : List α) (d : α) : (List.range l.length).map (fun j => l.getD j d) = l := by
  apply List.ext_getElem (by simp)
  intro i h1 h2
  simp only [List.getElem_map, List.getElem_range]
  exact getD_at d 0 h2
theorem lookD_str (x : List Nat) : ∀ (l : List (List Nat)) (vs : List D), x ∈ l → vs.length = l.length → lookD (.str x) (l.map .str) vs = some (vs.getD (l.idxOf x) .non)
  | [], _, h, _ => by cases h
  | y :: r, [], _, h2 => by simp at h2
  | y :: r, v :: vs, h, h2 => by
    simp only [List.map_cons, lookD, eqD_str, List.idxOf_cons]
    by_cases q : y = x
    · subst q; simp
    · have q' : (y == x) = false := by simpa using q
      have h' : x ∈ r := by
        rcases List.mem_cons.mp h with e | e
        · exact absurd e.symm q
        · exact e
      rw [q', lookD_str x r vs h' (by simpa using h2)]
      simp
theorem putD_new {k v : D} : ∀ {ks vs : List D}, (∀ x ∈ ks, eqD x k = false) → ks.length = vs.length → putD k v ks vs = (ks ++ [k], vs ++ [v])
  | [], [], _, _ => rfl
  | [], _ :: _, _, h => by simp at h
  | _ :: _, [], _, h => by simp at h
  | x :: ks, w :: vs, h, h2 => by
    simp only [putD, h x (List.mem_cons_self ..)]
    rw [putD_new (fun y hy => h y (List.mem_cons_of_mem _ hy)) (by simpa using h2)]
    simp
theorem mkDic_strs : ∀ (l : List (List Nat)) (vs : List D) (pre : List (List Nat)) (pv : List D), (pre ++ l).Nodup → vs.length = l.length → pv.length = pre.length → mkDic (l.map .str) vs (pre.map .str, pv) = ((pre ++ l).map .str, pv ++ vs)
  | [], [], pre, pv, _, _, _ => by simp [mkDic]
  | [], _ :: _, _, _, _, h, _ => by simp at h
  | _ :: _, [], _, _, _, h, _ => by simp at h
  | x :: l, v :: vs, pre, pv, h, h2, h3 => by
    simp only [List.map_cons, mkDic]
    rw [putD_new]
    · have := mkDic_strs l vs (pre ++ [x]) (pv ++ [v]) (by simpa using h) (by simpa using h2) (by simp [h3])
      simpa using this
    · intro y hy
      obtain ⟨z, hz, rfl⟩ := List.mem_map.mp hy
      rw [eqD_str, beq_eq_false_iff_ne]
      rintro rfl
      rw [List.nodup_append] at h
      exact h.2.2 z hz z (List.mem_cons_self ..) rfl
    · simp [h3]
theorem bDictzip_strs {l : List (List Nat)} {vs : List D} (h : l.Nodup) (h2 : vs.length = l.length) (h3 : l.length ≤ 1000) : bDictzip [.tup (l.map .str), .tup vs] = some (.dic (l.map .str) vs) := by
  have hk : ((l.map D.str).all keyA) = true := by
    rw [List.all_eq_true]
    intro x hx
    obtain ⟨z, _, rfl⟩ := List.mem_map.mp hx
    rfl
  have hm := mkDic_strs l vs [] [] (by simpa using h) h2 rfl
  simp only [List.map_nil, List.nil_append] at hm
  simp only [bDictzip, seqD, Option.bind_some, List.length_map, h2, h3, hk, hm, true_and, Bool.true_or, if_true]
end DV
namespace K84
open DV
/-- the names that lead back -/
def oldsN (things names : List Nm) : List Nm := (ordN names).map fun j => things.getD j []
theorem ordN_perm {names : List Nm} (h : names.Nodup) : (ordN names).Perm (List.range names.length) := by
  rw [← map_idx h]
  exact (sortS_perm names).map _
theorem olds_perm {things names : List Nm} (h : names.Nodup) (hl : names.length = things.length) : (oldsN things names).Perm things := by
  have := (ordN_perm h).map fun j => things.getD j []
  rwa [hl, map_getD_range] at this
theorem sort_olds {things names : List Nm} (h : names.Nodup) (hl : names.length = things.length) (hs : things.Pairwise (· < ·)) : sortS (oldsN things names) = things :=
  sortS_unique (hs.imp fun q => List.le_of_lt q) (olds_perm h hl)
theorem renT_length (names : List Nm) (table : List D) : (renT names table).length = 2 ^ names.length := by simp [renT]
theorem atN_renT {names : List Nm} {table : List D} {q : Nat} (h : q < 2 ^ names.length) : atN (renT names table) q = atN table (plc (ordN names) q) := by
  rw [atN_eq (by rw [renT_length]; exact h)]
  simp [renT]
theorem back_there {things names : List Nm} {table : List D} (h : names.Nodup) (hl : names.length = things.length) (hs : things.Pairwise (· < ·)) (ht : table.length = 2 ^ things.length) :
    renT (oldsN things names) (renT names table) = table := by
  have hol : (oldsN things names).length = things.length := (olds_perm h hl).length_eq
  have hto : things.Nodup := nodup_of_lt hs
  have hon : (oldsN things names).Nodup := (olds_perm h hl).nodup_iff.mpr hto
  apply List.ext_getElem (by rw [renT_length, hol, ht])
  intro p h1 h2
  have hp : p < 2 ^ things.length := by rw [← ht]; exact h2
  have h3 : plc (ordN (oldsN things names)) p < 2 ^ names.length := by
    have := plc_ord_lt hon p
    rwa [hol, ← hl] at this
  have e1 : (renT (oldsN things names) (renT names table))[p] = atN (renT names table) (plc (ordN (oldsN things names)) p) := by simp [renT]
  rw [e1, atN_renT h3]
  rw [plc_back (n := things.length) (ordN_nodup h) (ordN_nodup hon) (by rw [ordN_length, hl]) (by rw [ordN_length, hol]) hp]
  · exact atN_eq h2
  · intro k hk
    have hk1 : k < (ordN (oldsN things names)).length := by rw [ordN_length, hol]; exact hk
    have e2 : at0 (ordN (oldsN things names)) k = (oldsN things names).idxOf things[k] := by
      rw [at0_eq hk1]
      simp [ordN, sort_olds h hl hs]
    have hm : things[k] ∈ oldsN things names := (olds_perm h hl).mem_iff.mpr (List.getElem_mem _)
    have h4 := List.idxOf_lt_length_of_mem hm
    have h5 := List.getElem_idxOf h4
    rw [e2]
    refine ⟨by rw [← hol]; exact h4, ?_⟩
    have h6 : (oldsN things names).idxOf things[k] < (ordN names).length := by rw [ordN_length, hl, ← hol]; exact h4
    rw [at0_eq h6]
    have h7 : (ordN names)[(oldsN things names).idxOf things[k]] < things.length := by rw [← hl]; exact ordN_lt _ (List.getElem_mem _)
    have h8 : (oldsN things names)[(oldsN things names).idxOf things[k]] = things[(ordN names)[(oldsN things names).idxOf things[k]]] := by
      simp only [oldsN, List.getElem_map]
      exact getD_at _ 0 h7
    rw [h8] at h5
    exact nodup_inj hto h7 hk h5
theorem same_flat (n : Nat) (x : D) (st : St) (h : isInt x = true ∨ (isStr x = true)) : callF PR (n + 1) g__law_same [x, x] st = .ok (.bl true) st := by
  rw [c__law_same]
  cases x <;> first | (rcases h with h | h <;> cases h; done) | skip
  · simp -dsimp [evS, evE, evA, evT, evC, evP, evI, evO, ↓bind_bx, ↓on_ox, ↓seq_sx, bxok, bxexc, liftok, liftmap, oxok, oxexc, sxnx, sxret, sxexc, sxbrk, sxcnt, outret, outnx, outexc, bxite, oxite, sxite, outite, liftite, tellF, tellC, tellgl, tellsig, tellsub, tellfld, tellex, sval, setSl, tru, ln1, ln2, ln3, ln4, ln5, ln6, ln7, ln8, -List.all_eq_true, -List.any_eq_true, -List.all_eq_false, -List.any_eq_false, b__law_same, isiD, cmpD, eqv2, shp, dat, dep, eqD]
  · simp -dsimp [evS, evE, evA, evT, evC, evP, evI, evO, ↓bind_bx, ↓on_ox, ↓seq_sx, bxok, bxexc, liftok, liftmap, oxok, oxexc, sxnx, sxret, sxexc, sxbrk, sxcnt, outret, outnx, outexc, bxite, oxite, sxite, outite, liftite, tellF, tellC, tellgl, tellsig, tellsub, tellfld, tellex, sval, setSl, tru, ln1, ln2, ln3, ln4, ln5, ln6, ln7, ln8, -List.all_eq_true, -List.any_eq_true, -List.all_eq_false, -List.any_eq_false, b__law_same, isiD, cmpD, eqv2, shp, dat, dep, eqD]
theorem same_tup (n : Nat) (xs : List D) (st : St) (hl : xs.length ≤ 1000) (h : ∀ x ∈ xs, callF PR n g__law_same [x, x] st = .ok (.bl true) st) : callF PR (n + 1) g__law_same [.tup xs, .tup xs] st = .ok (.bl true) st := by
  rw [c__law_same]
  have hz : (-1000000 : Int) ≤ xs.length ∧ (xs.length : Int) ≤ 1000000 := by omega
  have hll : xs.length ≤ line := Nat.le_trans hl (by decide)
  have e := lcAll (fun (i : Nat) => D.int (i : Int)) (fun (i : Nat) => D.bl true) (tg := .nm 2) (ρ := [.val (.tup xs), .val (.tup xs), .no]) (cond := evC (tell PR n) .nil) (elt := evE (tell PR n) (.call g__law_same (.cons (.sub (.var 0) (.var 2)) (.cons (.sub (.var 1) (.var 2)) .nil)) .nil)) (st := st) (List.range xs.length) fun i hi => by
    have hi := List.mem_range.mp hi
    exact ⟨_, rfl, by simp -dsimp [evS, evE, evA, evT, evC, evP, evI, evO, ↓bind_bx, ↓on_ox, ↓seq_sx, bxok, bxexc, liftok, liftmap, oxok, oxexc, sxnx, sxret, sxexc, sxbrk, sxcnt, outret, outnx, outexc, bxite, oxite, sxite, outite, liftite, tellF, tellC, tellgl, tellsig, tellsub, tellfld, tellex, sval, setSl, tru, ln1, ln2, ln3, ln4, ln5, ln6, ln7, ln8, -List.all_eq_true, -List.any_eq_true, -List.all_eq_false, -List.any_eq_false], by simp -dsimp [evS, evE, evA, evT, evC, evP, evI, evO, ↓bind_bx, ↓on_ox, ↓seq_sx, bxok, bxexc, liftok, liftmap, oxok, oxexc, sxnx, sxret, sxexc, sxbrk, sxcnt, outret, outnx, outexc, bxite, oxite, sxite, outite, liftite, tellF, tellC, tellgl, tellsig, tellsub, tellfld, tellex, sval, setSl, tru, ln1, ln2, ln3, ln4, ln5, ln6, ln7, ln8, -List.all_eq_true, -List.any_eq_true, -List.all_eq_false, -List.any_eq_false, subD, at_nat xs i hi, h xs[i] (List.getElem_mem _)]⟩
  have hb : bAll [.lst ((List.range xs.length).map fun (_ : Nat) => D.bl true)] = some (.bl true) := bAll_true fun y hy => by
    obtain ⟨_, _, rfl⟩ := List.mem_map.mp hy; rfl
  simp -dsimp [evS, evE, evA, evT, evC, evP, evI, evO, ↓bind_bx, ↓on_ox, ↓seq_sx, bxok, bxexc, liftok, liftmap, oxok, oxexc, sxnx, sxret, sxexc, sxbrk, sxcnt, outret, outnx, outexc, bxite, oxite, sxite, outite, liftite, tellF, tellC, tellgl, tellsig, tellsub, tellfld, tellex, sval, setSl, tru, ln1, ln2, ln3, ln4, ln5, ln6, ln7, ln8, -List.all_eq_true, -List.any_eq_true, -List.all_eq_false, -List.any_eq_false, b__law_same, isiD, bltD, bLen, cmpD, eqv2, shp, dat, dep, eqD, optI, hz, rngD_eq, wipe, e, noexok, hll, hb]
theorem same_game (n : Nat) (things : List Nm) (table : List D) (st : St) (h : GameOk things table) : callF PR (n + 3) g__law_same [gm things table, gm things table] st = .ok (.bl true) st := by
  have h6 := h.le
  have hp : 2 ^ things.length ≤ 64 := Nat.le_trans (Nat.pow_le_pow_right (by omega) h6) (by decide)
  refine same_tup (n + 2) _ st (by simp) fun x hx => ?_
  simp only [List.mem_cons, List.not_mem_nil, or_false] at hx
  rcases hx with rfl | rfl
  · refine same_tup (n + 1) _ st (by simp; omega) fun y hy => ?_
    obtain ⟨z, _, rfl⟩ := List.mem_map.mp hy
    exact same_flat n _ st (.inr rfl)
  · refine same_tup (n + 1) _ st (by rw [h.len]; omega) fun y hy => ?_
    exact same_flat n _ st (.inl (numB_int (h.num y hy)))
end K84
end

section
set_option linter.all false
set_option maxRecDepth 100000
set_option maxHeartbeats 4000000
set_option backward.isDefEq.respectTransparency false
namespace K84
open DV
/-- what refusals tell -/
theorem told_game (n k : Nat) (caps : List D) (d : D) (st : St) (h : callC PR n k caps [] st = .exc e_InvalidGame [d] st) (hp : st.all plas = true) (hd : Pd 40000 d) : plR (callF PR (n + 1) g__law_refusal [.clo k caps] st) = .ok (.lst [.str gameT, .str (rep d)]) st := by
  rw [refusal_game n k caps d st st h hp hd]; simp [plR, pla, plas, hp]
theorem told_names (n k : Nat) (caps : List D) (d : D) (st : St) (h : callC PR n k caps [] st = .exc e_InvalidNames [d] st) (hp : st.all plas = true) (hd : Pd 40000 d) : plR (callF PR (n + 1) g__law_refusal [.clo k caps] st) = .ok (.lst [.str namesT, .str (rep d)]) st := by
  rw [refusal_names n k caps d st st h hp hd]; simp [plR, pla, plas, hp]
theorem told_let (n k : Nat) (caps : List D) (d : D) (st : St) (h : callC PR n k caps [] st = .ok d st) (hp : st.all plas = true) : plR (callF PR (n + 1) g__law_refusal [.clo k caps] st) = .ok (.lst [.str letT]) st := by
  rw [refusal_let n k caps d st st h hp]; simp [plR, pla, plas, hp]
theorem odd_alike (n : Nat) (odd d : D) (st : St) (ho : OddOk odd) (hp : st.all plas = true) (hd : nice d = true) (g : Nat) (hg : g = g_are_alike ∨ g = g_alike_names) : callF PR (n + 9) g [odd, d] st = .exc e_InvalidGame [odd] st := by
  have e := check_games_ev n odd d st ho.1.1 hd hp
  rw [ho.2] at e
  rcases hg with rfl | rfl
  · rw [c_are_alike]; simp -dsimp [evS, evE, evA, evT, evC, evP, evI, evO, ↓bind_bx, ↓on_ox, ↓seq_sx, bxok, bxexc, liftok, liftmap, oxok, oxexc, sxnx, sxret, sxexc, sxbrk, sxcnt, outret, outnx, outexc, bxite, oxite, sxite, outite, liftite, tellF, tellC, tellgl, tellsig, tellsub, tellfld, tellex, sval, setSl, tru, ln1, ln2, ln3, ln4, ln5, ln6, ln7, ln8, -List.all_eq_true, -List.any_eq_true, -List.all_eq_false, -List.any_eq_false, b_are_alike, e]
  · rw [c_alike_names]; simp -dsimp [evS, evE, evA, evT, evC, evP, evI, evO, ↓bind_bx, ↓on_ox, ↓seq_sx, bxok, bxexc, liftok, liftmap, oxok, oxexc, sxnx, sxret, sxexc, sxbrk, sxcnt, outret, outnx, outexc, bxite, oxite, sxite, outite, liftite, tellF, tellC, tellgl, tellsig, tellsub, tellfld, tellex, sval, setSl, tru, ln1, ln2, ln3, ln4, ln5, ln6, ln7, ln8, -List.all_eq_true, -List.any_eq_true, -List.all_eq_false, -List.any_eq_false, b_alike_names, e]
theorem odd_alike2 (n : Nat) (odd : D) (things : List Nm) (table : List D) (st : St) (hg0 : GameOk things table) (ho : OddOk odd) (hp : st.all plas = true) (g : Nat) (hg : g = g_are_alike ∨ g = g_alike_names) : callF PR (n + 9) g [gm things table, odd] st = .exc e_InvalidGame [odd] st := by
  have e := check_games_ev n (gm things table) odd st hg0.nice ho.1.1 hp
  rw [ho.2, hg0.gameB] at e
  rcases hg with rfl | rfl
  · rw [c_are_alike]; simp -dsimp [evS, evE, evA, evT, evC, evP, evI, evO, ↓bind_bx, ↓on_ox, ↓seq_sx, bxok, bxexc, liftok, liftmap, oxok, oxexc, sxnx, sxret, sxexc, sxbrk, sxcnt, outret, outnx, outexc, bxite, oxite, sxite, outite, liftite, tellF, tellC, tellgl, tellsig, tellsub, tellfld, tellex, sval, setSl, tru, ln1, ln2, ln3, ln4, ln5, ln6, ln7, ln8, -List.all_eq_true, -List.any_eq_true, -List.all_eq_false, -List.any_eq_false, b_are_alike, e]
  · rw [c_alike_names]; simp -dsimp [evS, evE, evA, evT, evC, evP, evI, evO, ↓bind_bx, ↓on_ox, ↓seq_sx, bxok, bxexc, liftok, liftmap, oxok, oxexc, sxnx, sxret, sxexc, sxbrk, sxcnt, outret, outnx, outexc, bxite, oxite, sxite, outite, liftite, tellF, tellC, tellgl, tellsig, tellsub, tellfld, tellex, sval, setSl, tru, ln1, ln2, ln3, ln4, ln5, ln6, ln7, ln8, -List.all_eq_true, -List.any_eq_true, -List.all_eq_false, -List.any_eq_false, b_alike_names, e]
theorem odd_selves (n : Nat) (odd : D) (st : St) (ho : OddOk odd) (hp : st.all plas = true) : callF PR (n + 9) g_selves [odd] st = .exc e_InvalidGame [odd] st := by
  have e := check_game_ev (n + 1) odd st ho.1.1 hp
  rw [ho.2] at e
  rw [c_selves]; simp -dsimp [evS, evE, evA, evT, evC, evP, evI, evO, ↓bind_bx, ↓on_ox, ↓seq_sx, bxok, bxexc, liftok, liftmap, oxok, oxexc, sxnx, sxret, sxexc, sxbrk, sxcnt, outret, outnx, outexc, bxite, oxite, sxite, outite, liftite, tellF, tellC, tellgl, tellsig, tellsub, tellfld, tellex, sval, setSl, tru, ln1, ln2, ln3, ln4, ln5, ln6, ln7, ln8, -List.all_eq_true, -List.any_eq_true, -List.all_eq_false, -List.any_eq_false, b_selves, e]
/-- the small game -/
theorem small_ok : GameOk [[121]] [.int 0, .int 1] := ⟨by decide, by simp, by simp, rfl, by decide⟩
theorem rep_shp {d : D} (h : nice d = true) : shp (.str (rep d)) = true := by simp [shp, rep_dat h, dep]
theorem shp_str2 {a b : Nm} (ha : shp (.str a) = true) (hb : shp (.str b) = true) : shp (.lst [.str a, .str b]) = true := by
  simp only [shp, Bool.and_eq_true, decide_eq_true_eq] at ha hb
  simp [shp, dat, dats, dep, deps]
  have h1 := ha.1
  have h2 := hb.1
  simp only [dat] at h1 h2
  exact ⟨h1, h2⟩
theorem eqv2_self {xs : List D} (h : ∀ x ∈ xs, shp x = true ∧ dep x ≤ 60) (he : eqDs xs xs = true) : eqv2 (.lst xs) (.lst xs) = some true := by
  have hs : shp (.lst xs) = true := shp_lst (fun x hx => by have := (h x hx).1; simp only [shp, Bool.and_eq_true] at this; exact this.1) fun x hx => by have := (h x hx).2; omega
  have he' : eqD (.lst xs) (.lst xs) = true := by simp only [eqD]; exact he
  simp only [eqv2, hs, he', Bool.and_self, if_true]
theorem eqDs_strs (l : List Nm) : eqDs (l.map .str) (l.map .str) = true := by
  induction l with
  | nil => rfl
  | cons a l ih => simp [eqDs, eqD, ih]
theorem shp_gameT : shp (.str gameT) = true := by decide +kernel
theorem shp_namesT : shp (.str namesT) = true := by decide +kernel
theorem shp_letT : shp (.str letT) = true := by decide +kernel
theorem told1 {a b : Nm} (ha : shp (.str a) = true) (hb : shp (.str b) = true) : eqv2 (.lst [.str a, .str b]) (.lst [.str a, .str b]) = some true :=
  eqv2_self (fun x hx => by
    simp only [List.mem_cons, List.not_mem_nil, or_false] at hx
    rcases hx with rfl | rfl
    · exact ⟨ha, by simp [dep]⟩
    · exact ⟨hb, by simp [dep]⟩) (eqDs_strs [a, b])
theorem told2 {a b c d : Nm} (ha : shp (.str a) = true) (hb : shp (.str b) = true) (hc : shp (.str c) = true) (hd : shp (.str d) = true) : eqv2 (.lst [.lst [.str a, .str b], .lst [.str c, .str d]]) (.lst [.lst [.str a, .str b], .lst [.str c, .str d]]) = some true :=
  eqv2_self (fun x hx => by
    simp only [List.mem_cons, List.not_mem_nil, or_false] at hx
    rcases hx with rfl | rfl
    · exact ⟨shp_str2 ha hb, by simp [dep, deps]⟩
    · exact ⟨shp_str2 hc hd, by simp [dep, deps]⟩) (by simp [eqDs, eqD])
theorem told3 {a b c d e : Nm} (ha : shp (.str a) = true) (hb : shp (.str b) = true) (hc : shp (.str c) = true) (hd : shp (.str d) = true) (he : shp (.str e) = true) : eqv2 (.lst [.lst [.str a, .str b], .lst [.str c, .str d], .lst [.str e]]) (.lst [.lst [.str a, .str b], .lst [.str c, .str d], .lst [.str e]]) = some true :=
  eqv2_self (fun x hx => by
    simp only [List.mem_cons, List.not_mem_nil, or_false] at hx
    rcases hx with rfl | rfl | rfl
    · exact ⟨shp_str2 ha hb, by simp [dep, deps]⟩
    · exact ⟨shp_str2 hc hd, by simp [dep, deps]⟩
    · exact ⟨shp_lst (fun y hy => by
        have : y = .str e := by simpa using hy
        subst this
        simp only [shp, Bool.and_eq_true] at he; exact he.1) (fun y hy => by
        have : y = .str e := by simpa using hy
        subst this; simp [dep]), by simp [dep, deps]⟩) (by simp [eqDs, eqD])
theorem acts_ev (n l : Nat) (things : List Nm) (table : List D) (odd : D) (many : Nat) (names : List Nm) (s3 s6 s7 s10 s11 s12 s13 s4 s5 : Sl) (st : St) (hg : GameOk things table) (ho : OddOk odd) (hp : st.all plas = true) (g : Nat) (hgg : g = g_are_alike ∨ g = g_alike_names) :
    ∃ s4', evS (tell PR (n + 11)) w__law_right_0 (ER l (gm things table) odd many names s3 s4 (.val (.fn g)) s6 s7 s10 s11 s12 s13) st = .nx (ER l (gm things table) odd many names s3 s4' (.val (.fn g)) s6 s7 s10 s11 s12 s13) st := by
  have hs : sigOf PR g = 10 := by rcases hgg with rfl | rfl <;> rfl
  have hr := repr_nice ho.1.1 (by have := ho.1.2.1; omega) (by have := ho.1.2.2; omega)
  have c1 : callC PR (n + 10) m__law_right_2 [.fn g, odd] [] st = .exc e_InvalidGame [odd] st := by
    rw [c_lam__law_right_2]
    have := odd_alike n odd odd st ho hp ho.1.1 g hgg
    simp -dsimp [evS, evE, evA, evT, evC, evP, evI, evO, ↓bind_bx, ↓on_ox, ↓seq_sx, bxok, bxexc, liftok, liftmap, oxok, oxexc, sxnx, sxret, sxexc, sxbrk, sxcnt, outret, outnx, outexc, bxite, oxite, sxite, outite, liftite, tellF, tellC, tellgl, tellsig, tellsub, tellfld, tellex, sval, setSl, tru, ln1, ln2, ln3, ln4, ln5, ln6, ln7, ln8, -List.all_eq_true, -List.any_eq_true, -List.all_eq_false, -List.any_eq_false, l__law_right_2, this]
  have c2 : callC PR (n + 10) m__law_right_3 [.fn g, gm things table, odd] [] st = .exc e_InvalidGame [odd] st := by
    rw [c_lam__law_right_3]
    have := odd_alike2 n odd things table st hg ho hp g hgg
    simp -dsimp [evS, evE, evA, evT, evC, evP, evI, evO, ↓bind_bx, ↓on_ox, ↓seq_sx, bxok, bxexc, liftok, liftmap, oxok, oxexc, sxnx, sxret, sxexc, sxbrk, sxcnt, outret, outnx, outexc, bxite, oxite, sxite, outite, liftite, tellF, tellC, tellgl, tellsig, tellsub, tellfld, tellex, sval, setSl, tru, ln1, ln2, ln3, ln4, ln5, ln6, ln7, ln8, -List.all_eq_true, -List.any_eq_true, -List.all_eq_false, -List.any_eq_false, l__law_right_3, this, hs]
  have c3 : ∃ d, callC PR (n + 10) m__law_right_4 [.fn g, gm things table] [] st = .ok d st := by
    rw [c_lam__law_right_4]
    have : ∃ d, callF PR (n + 9) g [gm things table, gm [[121]] [.int 0, .int 1]] st = .ok d st := by
      rcases hgg with rfl | rfl
      · exact ⟨_, are_alike_ok n things [[121]] table [.int 0, .int 1] st hg small_ok hp⟩
      · exact ⟨_, alike_names_ok n things [[121]] table [.int 0, .int 1] st hg small_ok hp⟩
    obtain ⟨d, e⟩ := this
    simp only [gm, nmD, List.map_cons, List.map_nil] at e
    exact ⟨d, by simp -dsimp [evS, evE, evA, evT, evC, evP, evI, evO, ↓bind_bx, ↓on_ox, ↓seq_sx, bxok, bxexc, liftok, liftmap, oxok, oxexc, sxnx, sxret, sxexc, sxbrk, sxcnt, outret, outnx, outexc, bxite, oxite, sxite, outite, liftite, tellF, tellC, tellgl, tellsig, tellsub, tellfld, tellex, sval, setSl, tru, ln1, ln2, ln3, ln4, ln5, ln6, ln7, ln8, -List.all_eq_true, -List.any_eq_true, -List.all_eq_false, -List.any_eq_false, l__law_right_4, e, gm, nmD]⟩
  obtain ⟨d, c3⟩ := c3
  have t1 := told_game (n + 10) _ _ odd st c1 hp ho.1
  have t2 := told_game (n + 10) _ _ odd st c2 hp ho.1
  have t3 := told_let (n + 10) _ _ d st c3 hp
  have hq := told3 shp_gameT (rep_shp ho.1.1) shp_gameT (rep_shp ho.1.1) shp_letT
  simp only [gameT, letT] at t1 t2 t3 hq
  have l1 : 1 < line := by decide
  have l2 : 2 < line := by decide
  simp -dsimp [evS, evE, evA, evT, evC, evP, evI, evO, ↓bind_bx, ↓on_ox, ↓seq_sx, bxok, bxexc, liftok, liftmap, oxok, oxexc, sxnx, sxret, sxexc, sxbrk, sxcnt, outret, outnx, outexc, bxite, oxite, sxite, outite, liftite, tellF, tellC, tellgl, tellsig, tellsub, tellfld, tellex, sval, setSl, tru, ln1, ln2, ln3, ln4, ln5, ln6, ln7, ln8, -List.all_eq_true, -List.any_eq_true, -List.all_eq_false, -List.any_eq_false, w__law_right_0, t1, t2, t3, setSls, List.mapM_cons, cmpD, bltD, hr, hq, l1, l2]
end K84
end

section
set_option linter.all false
set_option maxRecDepth 100000
set_option maxHeartbeats 4000000
set_option backward.isDefEq.respectTransparency false
namespace K84
open DV
theorem right_a {N : Nat} (n l : Nat) (hl : l < N) (st : St) (h : Wl N st) : ∃ (things : List Nm) (table : List D) (odd : D) (st' : St),
    evS (tell PR (n + 11)) (takeC 3 b__law_right) [.val (.ref l), .no, .no, .no, .no, .no, .no, .no, .no, .no, .no, .no, .no, .no] st = .nx (ER l (gm things table) odd things.length (things.map xn) .no .no .no .no .no .no .no .no .no) st' ∧ Wl N st' ∧ GameOk things table ∧ OddOk odd ∧ things.length ≤ 4 ∧ (things.map List.getLast?).Nodup := by
  obtain ⟨things, table, st1, e1, hw1, hg, h4, hd⟩ := game_ev (n + 7) l 4 (by omega) hl st h
  obtain ⟨odd, st2, e2, hw2, ho⟩ := odd_ev (n + 8) l things table hl st1 hw1 hg (by omega)
  refine ⟨things, table, odd, st2, ?_, hw2, hg, ho, h4, hd⟩
  have hll : things.length ≤ line := Nat.le_trans h4 (by decide)
  have e := lcAll (fun (x : Nm) => D.str x) (fun (x : Nm) => D.str (xn x)) (tg := .nm 12) (ρ := [.val (.ref l), .val (gm things table), .no, .no, .no, .no, .no, .no, .val odd, .val (.int things.length), .no, .no, .no, .no]) (cond := evC (tell PR (n + 11)) .nil) (elt := evE (tell PR (n + 11)) (.bin .add (.con (.str [120])) (.sub (.var 12) (.neg (.con (.int (1))))))) (st := st2) things fun x hx => by
    obtain ⟨c, h1, h2⟩ := xn_last (hg.nm x hx)
    have h3 := atD_getLast h1
    obtain ⟨z, e, z1, z2, z3, z4⟩ := nameB_str (hg.nm x hx)
    cases e
    have h4 : x.length ≤ line := Nat.le_trans z3 (by decide)
    exact ⟨_, rfl, by simp -dsimp [evS, evE, evA, evT, evC, evP, evI, evO, ↓bind_bx, ↓on_ox, ↓seq_sx, bxok, bxexc, liftok, liftmap, oxok, oxexc, sxnx, sxret, sxexc, sxbrk, sxcnt, outret, outnx, outexc, bxite, oxite, sxite, outite, liftite, tellF, tellC, tellgl, tellsig, tellsub, tellfld, tellex, sval, setSl, tru, ln1, ln2, ln3, ln4, ln5, ln6, ln7, ln8, -List.all_eq_true, -List.any_eq_true, -List.all_eq_false, -List.any_eq_false], by simp -dsimp [evS, evE, evA, evT, evC, evP, evI, evO, ↓bind_bx, ↓on_ox, ↓seq_sx, bxok, bxexc, liftok, liftmap, oxok, oxexc, sxnx, sxret, sxexc, sxbrk, sxcnt, outret, outnx, outexc, bxite, oxite, sxite, outite, liftite, tellF, tellC, tellgl, tellsig, tellsub, tellfld, tellex, sval, setSl, tru, ln1, ln2, ln3, ln4, ln5, ln6, ln7, ln8, -List.all_eq_true, -List.any_eq_true, -List.all_eq_false, -List.any_eq_false, optI, subD, h3, h4, binD, xn, h1]⟩
  replace e1 : callF PR (n + 11) g__law_game [.ref l, .int 4] st = .ok (gm things table) st1 := e1
  simp only [gm, nmD] at e e1 e2
  simp -dsimp [evS, evE, evA, evT, evC, evP, evI, evO, ↓bind_bx, ↓on_ox, ↓seq_sx, bxok, bxexc, liftok, liftmap, oxok, oxexc, sxnx, sxret, sxexc, sxbrk, sxcnt, outret, outnx, outexc, bxite, oxite, sxite, outite, liftite, tellF, tellC, tellgl, tellsig, tellsub, tellfld, tellex, sval, setSl, tru, ln1, ln2, ln3, ln4, ln5, ln6, ln7, ln8, -List.all_eq_true, -List.any_eq_true, -List.all_eq_false, -List.any_eq_false, takeC, b__law_right, e1, e2, gm, nmD, subD, at_0, bltD, bLen, asgT, seqD, itD, wipe, e, noexok, hll, bTuple]
theorem right_ev {N : Nat} (n l : Nat) (hl : l < N) (st : St) (h : Wl N st) : ∃ st' : St, callF PR (n + 12) g__law_right [.ref l] st = .ok (.bl true) st' ∧ Wl N st' := by
  obtain ⟨things, table, odd, st1, eA, hw1, hg, ho, h4, hd⟩ := right_a n l hl st h
  have hnames : ∀ x ∈ things.map xn, nameB (.str x) = true := fun x hx => by
    obtain ⟨z, hz, rfl⟩ := List.mem_map.mp hx
    exact xn_name (hg.nm z hz)
  have hnd : (things.map xn).Nodup := xn_nodup hg.nm hd
  have hlen : (things.map xn).length = things.length := by simp
  obtain ⟨items, eB, i0, i9, hi⟩ := bads_ev (n + 11) l (gm things table) odd (things.map xn) .no .no .no .no .no .no .no .no st1 hnames hnd (by omega)
  rw [hlen] at eB hi
  generalize hN : things.map xn = names at *
  obtain ⟨item, st2, e7, hw2, hitem⟩ := of_seq (n + 9) l (.lst items) items st1 (.inr rfl) hw1 hl i0 (by omega)
  obtain ⟨bad, at_, rfl, hb1, hb2, hb3⟩ := hi item hitem
  have hp := hw2.plas
  refine ⟨st2, ?_, hw2⟩
  rw [c__law_right, evS_cut _ 3, eA, seqnx, evS_cut _ 3, eB, seqnx]
  -- 7
  have eC : evS (tell PR (n + 11)) (takeC 1 (dropC 3 (dropC 3 b__law_right))) (ER l (gm things table) odd things.length names (.val (.lst items)) .no .no .no .no .no .no .no .no) st1 = .nx (ER l (gm things table) odd things.length names (.val (.lst items)) .no .no .no .no (.val bad) (.val at_) .no .no) st2 := by
    simp -dsimp [evS, evE, evA, evT, evC, evP, evI, evO, ↓bind_bx, ↓on_ox, ↓seq_sx, bxok, bxexc, liftok, liftmap, oxok, oxexc, sxnx, sxret, sxexc, sxbrk, sxcnt, outret, outnx, outexc, bxite, oxite, sxite, outite, liftite, tellF, tellC, tellgl, tellsig, tellsub, tellfld, tellex, sval, setSl, tru, ln1, ln2, ln3, ln4, ln5, ln6, ln7, ln8, -List.all_eq_true, -List.any_eq_true, -List.all_eq_false, -List.any_eq_false, takeC, dropC, b__law_right, e7, asgT, seqD]
  rw [evS_cut _ 1, eC, seqnx]
  -- 8 to 11
  have hr := repr_nice ho.1.1 (by have := ho.1.2.1; omega) (by have := ho.1.2.2; omega)
  have hr2 := repr_nice hb3.1 (by have := hb3.2.1; omega) (by have := hb3.2.2; omega)
  have c1 : callC PR (n + 10) m__law_right_0 [odd, bad] [] st2 = .exc e_InvalidGame [odd] st2 := by
    rw [c_lam__law_right_0]
    have := renamed_odd (n + 1) odd bad st2 ho.1.1 ho.2 hp
    simp -dsimp [evS, evE, evA, evT, evC, evP, evI, evO, ↓bind_bx, ↓on_ox, ↓seq_sx, bxok, bxexc, liftok, liftmap, oxok, oxexc, sxnx, sxret, sxexc, sxbrk, sxcnt, outret, outnx, outexc, bxite, oxite, sxite, outite, liftite, tellF, tellC, tellgl, tellsig, tellsub, tellfld, tellex, sval, setSl, tru, ln1, ln2, ln3, ln4, ln5, ln6, ln7, ln8, -List.all_eq_true, -List.any_eq_true, -List.all_eq_false, -List.any_eq_false, l__law_right_0, this]
  have c2 : callC PR (n + 10) m__law_right_1 [gm things table, bad] [] st2 = .exc e_InvalidNames [at_] st2 := by
    rw [c_lam__law_right_1]
    have := renamed_bad (n + 1) things table bad at_ st2 hg hb1.1 hb2 hp
    simp -dsimp [evS, evE, evA, evT, evC, evP, evI, evO, ↓bind_bx, ↓on_ox, ↓seq_sx, bxok, bxexc, liftok, liftmap, oxok, oxexc, sxnx, sxret, sxexc, sxbrk, sxcnt, outret, outnx, outexc, bxite, oxite, sxite, outite, liftite, tellF, tellC, tellgl, tellsig, tellsub, tellfld, tellex, sval, setSl, tru, ln1, ln2, ln3, ln4, ln5, ln6, ln7, ln8, -List.all_eq_true, -List.any_eq_true, -List.all_eq_false, -List.any_eq_false, l__law_right_1, this]
  have c3 : callC PR (n + 10) m__law_right_5 [odd] [] st2 = .exc e_InvalidGame [odd] st2 := by
    rw [c_lam__law_right_5]
    have := odd_selves n odd st2 ho hp
    simp -dsimp [evS, evE, evA, evT, evC, evP, evI, evO, ↓bind_bx, ↓on_ox, ↓seq_sx, bxok, bxexc, liftok, liftmap, oxok, oxexc, sxnx, sxret, sxexc, sxbrk, sxcnt, outret, outnx, outexc, bxite, oxite, sxite, outite, liftite, tellF, tellC, tellgl, tellsig, tellsub, tellfld, tellex, sval, setSl, tru, ln1, ln2, ln3, ln4, ln5, ln6, ln7, ln8, -List.all_eq_true, -List.any_eq_true, -List.all_eq_false, -List.any_eq_false, l__law_right_5, this]
  have t1 := told_game (n + 10) _ _ odd st2 c1 hp ho.1
  have t2 := told_names (n + 10) _ _ at_ st2 c2 hp hb3
  have t3 := told_game (n + 10) _ _ odd st2 c3 hp ho.1
  have hq := told2 shp_gameT (rep_shp ho.1.1) shp_namesT (rep_shp hb3.1)
  have hq1 := told1 shp_gameT (rep_shp ho.1.1)
  simp only [gameT, namesT] at t1 t2 t3 hq hq1
  have l1 : 1 < line := by decide
  have eD : ∃ s4, evS (tell PR (n + 11)) (takeC 4 (dropC 1 (dropC 3 (dropC 3 b__law_right)))) (ER l (gm things table) odd things.length names (.val (.lst items)) .no .no .no .no (.val bad) (.val at_) .no .no) st2 = .nx (ER l (gm things table) odd things.length names (.val (.lst items)) s4 .no .no .no (.val bad) (.val at_) .no .no) st2 := by
    simp -dsimp [evS, evE, evA, evT, evC, evP, evI, evO, ↓bind_bx, ↓on_ox, ↓seq_sx, bxok, bxexc, liftok, liftmap, oxok, oxexc, sxnx, sxret, sxexc, sxbrk, sxcnt, outret, outnx, outexc, bxite, oxite, sxite, outite, liftite, tellF, tellC, tellgl, tellsig, tellsub, tellfld, tellex, sval, setSl, tru, ln1, ln2, ln3, ln4, ln5, ln6, ln7, ln8, -List.all_eq_true, -List.any_eq_true, -List.all_eq_false, -List.any_eq_false, takeC, dropC, b__law_right, t1, t2, setSls, List.mapM_cons, cmpD, bltD, hr, hr2, hq, l1]
  obtain ⟨s4, eD⟩ := eD
  rw [evS_cut _ 4, eD, seqnx]
  -- 12
  have eE : ∃ s4z s5z, evS (tell PR (n + 11)) (takeC 1 (dropC 4 (dropC 1 (dropC 3 (dropC 3 b__law_right))))) (ER l (gm things table) odd things.length names (.val (.lst items)) s4 .no .no .no (.val bad) (.val at_) .no .no) st2 = .nx (ER l (gm things table) odd things.length names (.val (.lst items)) s4z s5z .no .no (.val bad) (.val at_) .no .no) st2 := by
    obtain ⟨s4a, ea⟩ := acts_ev n l things table odd things.length names (.val (.lst items)) .no .no (.val bad) (.val at_) .no .no s4 .no st2 hg ho hp g_are_alike (.inl rfl)
    obtain ⟨s4b, eb⟩ := acts_ev n l things table odd things.length names (.val (.lst items)) .no .no (.val bad) (.val at_) .no .no s4a (.val (.fn g_are_alike)) st2 hg ho hp g_alike_names (.inr rfl)
    refine ⟨s4b, .val (.fn g_alike_names), ?_⟩
    have e := (forL_nx (xs := [.fn g_alike_names]) (x := .fn g_are_alike) (tg := .nm 5) (ρ := ER l (gm things table) odd things.length names (.val (.lst items)) s4 .no .no .no (.val bad) (.val at_) .no .no) (st := st2) rfl ea).trans ((forL_nx (xs := []) (x := .fn g_alike_names) (tg := .nm 5) (ρ := ER l (gm things table) odd things.length names (.val (.lst items)) s4a (.val (.fn g_are_alike)) .no .no (.val bad) (.val at_) .no .no) (st := st2) rfl eb).trans forL_nil)
    simp only [ER] at e
    simp -dsimp [evS, evE, evA, evT, evC, evP, evI, evO, ↓bind_bx, ↓on_ox, ↓seq_sx, bxok, bxexc, liftok, liftmap, oxok, oxexc, sxnx, sxret, sxexc, sxbrk, sxcnt, outret, outnx, outexc, bxite, oxite, sxite, outite, liftite, tellF, tellC, tellgl, tellsig, tellsub, tellfld, tellex, sval, setSl, tru, ln1, ln2, ln3, ln4, ln5, ln6, ln7, ln8, -List.all_eq_true, -List.any_eq_true, -List.all_eq_false, -List.any_eq_false, takeC, dropC, b__law_right, v_are_alike, v_alike_names, itD, e]
  obtain ⟨s4', s5', eE⟩ := eE
  rw [evS_cut _ 1, eE, seqnx]
  -- 13
  have eF : evS (tell PR (n + 11)) (takeC 1 (dropC 1 (dropC 4 (dropC 1 (dropC 3 (dropC 3 b__law_right)))))) (ER l (gm things table) odd things.length names (.val (.lst items)) s4' s5' .no .no (.val bad) (.val at_) .no .no) st2 = .nx (ER l (gm things table) odd things.length names (.val (.lst items)) s4' s5' .no .no (.val bad) (.val at_) .no .no) st2 := by
    simp -dsimp [evS, evE, evA, evT, evC, evP, evI, evO, ↓bind_bx, ↓on_ox, ↓seq_sx, bxok, bxexc, liftok, liftmap, oxok, oxexc, sxnx, sxret, sxexc, sxbrk, sxcnt, outret, outnx, outexc, bxite, oxite, sxite, outite, liftite, tellF, tellC, tellgl, tellsig, tellsub, tellfld, tellex, sval, setSl, tru, ln1, ln2, ln3, ln4, ln5, ln6, ln7, ln8, -List.all_eq_true, -List.any_eq_true, -List.all_eq_false, -List.any_eq_false, takeC, dropC, b__law_right, t3, List.mapM_cons, cmpD, bltD, hr, hq1]
  rw [evS_cut _ 1, eF, seqnx]
  -- the way back
  have hl2 : names.length = things.length := hlen
  have hdz : bDictzip [.tup (names.map .str), .tup (things.map .str)] = some (.dic (names.map .str) (things.map .str)) := bDictzip_strs hnd (by simp [hl2]) (by omega)
  have hll : (sortS names).length ≤ line := by rw [sortS_length]; exact Nat.le_trans (by omega : _ ≤ 4) (by decide)
  have h64 : names.length < 64 := by omega
  have e := lcAll (fun (x : Nm) => D.str x) (fun (x : Nm) => (things.map D.str).getD (names.idxOf x) .non) (tg := .nm 13) (ρ := ER l (gm things table) odd things.length names (.val (.lst items)) s4' s5' (.val (.dic (names.map .str) (things.map .str))) .no (.val bad) (.val at_) .no .no) (cond := evC (tell PR (n + 11)) .nil) (elt := evE (tell PR (n + 11)) (.sub (.var 6) (.var 13))) (st := st2) (sortS names) fun x hx => by
    have hx' := (sortS_perm names).mem_iff.mp hx
    have hk := lookD_str x names (things.map .str) hx' (by simp [hl2])
    refine ⟨_, rfl, by simp -dsimp [evS, evE, evA, evT, evC, evP, evI, evO, ↓bind_bx, ↓on_ox, ↓seq_sx, bxok, bxexc, liftok, liftmap, oxok, oxexc, sxnx, sxret, sxexc, sxbrk, sxcnt, outret, outnx, outexc, bxite, oxite, sxite, outite, liftite, tellF, tellC, tellgl, tellsig, tellsub, tellfld, tellex, sval, setSl, tru, ln1, ln2, ln3, ln4, ln5, ln6, ln7, ln8, -List.all_eq_true, -List.any_eq_true, -List.all_eq_false, -List.any_eq_false], ?_⟩
    simp -dsimp [evS, evE, evA, evT, evC, evP, evI, evO, ↓bind_bx, ↓on_ox, ↓seq_sx, bxok, bxexc, liftok, liftmap, oxok, oxexc, sxnx, sxret, sxexc, sxbrk, sxcnt, outret, outnx, outexc, bxite, oxite, sxite, outite, liftite, tellF, tellC, tellgl, tellsig, tellsub, tellfld, tellex, sval, setSl, tru, ln1, ln2, ln3, ln4, ln5, ln6, ln7, ln8, -List.all_eq_true, -List.any_eq_true, -List.all_eq_false, -List.any_eq_false, subD, keyA, hk]
  have eo : (sortS names).map (fun (x : Nm) => (things.map D.str).getD (names.idxOf x) .non) = (oldsN things names).map D.str := by
    simp only [oldsN, ordN, List.map_map]
    apply List.map_congr_left
    intro x hx
    have hx' := (sortS_perm names).mem_iff.mp hx
    have hi := List.idxOf_lt_length_of_mem hx'
    simp only [Function.comp]
    rw [getD_at _ 0 (by simp; omega), getD_at _ 0 (by omega)]
    simp
  rw [eo] at e
  have r1 := renamed_ok (n + 3) things names table st2 hg hnames hnd hl2 hp
  have hg1 : GameOk (sortS names) (renT names table) := ⟨fun x hx => hnames x ((sortS_perm names).mem_iff.mp hx), pw_lt_of (sortS_sorted names) (sortS_nodup hnd), by rw [sortS_length]; omega, by rw [renT_length, sortS_length], fun x hx => hg.num x (mem_renT hnd (by rw [hg.len, hl2]) hx)⟩
  have hop := olds_perm hnd hl2
  have r2 := renamed_ok (n + 3) (sortS names) (oldsN things names) (renT names table) st2 hg1 (fun x hx => hg.nm x (hop.mem_iff.mp hx)) (hop.nodup_iff.mpr (nodup_of_lt hg.srt)) (by rw [hop.length_eq, sortS_length, hl2]) hp
  rw [sort_olds hnd hl2 hg.srt, back_there hnd hl2 hg.srt hg.len] at r2
  have r3 := same_game (n + 8) things table st2 hg
  have hol : (oldsN things names).length ≤ line := by rw [hop.length_eq]; exact Nat.le_trans h4 (by decide)
  simp only [ER, gm, nmD] at e r1 r2 r3
  simp -dsimp [evS, evE, evA, evT, evC, evP, evI, evO, ↓bind_bx, ↓on_ox, ↓seq_sx, bxok, bxexc, liftok, liftmap, oxok, oxexc, sxnx, sxret, sxexc, sxbrk, sxcnt, outret, outnx, outexc, bxite, oxite, sxite, outite, liftite, tellF, tellC, tellgl, tellsig, tellsub, tellfld, tellex, sval, setSl, tru, ln1, ln2, ln3, ln4, ln5, ln6, ln7, ln8, -List.all_eq_true, -List.any_eq_true, -List.all_eq_false, -List.any_eq_false, dropC, b__law_right, gm, nmD, subD, at_0, bltD, hdz, bSorted_strs, h64, itD, hll, wipe, e, noexok, hol, bTuple, r1, r2, r3]
theorem law_ev (n : Nat) (ns : List Int) : ∃ st', callF PR (n + 13) g_law [.fro (ns.map .int)] [] = .ok (.bl true) st' := by
  rw [c_law]
  have hW0 : Wl 0 [] := ⟨rfl, fun w hw => by cases hw⟩
  obtain ⟨st1, e1, hw1⟩ := lcFold (fun (i : Nat) => D.int (i : Int)) (fun (i : Nat) => D.ref i) (tg := .nm 2) (ρ := [.val (.fro (ns.map .int)), .no, .no, .no]) (cond := evC (tell PR (n + 12)) .nil) (elt := evE (tell PR (n + 12)) (.call g__law_well (.cons (.var 0) (.cons (.var 2) .nil)) .nil))
    (fun pre st => Wl pre.length st) (List.range 2) [] [] hW0 (by
      intro pre a r st hr hw
      have ha : a = pre.length := by
        have h1 : (List.range 2)[pre.length]? = some a := by
          have hr : List.range 2 = pre ++ a :: r := hr
          rw [hr]; simp
        obtain ⟨h3, h4⟩ := List.getElem?_eq_some_iff.mp h1
        rw [List.getElem_range] at h4
        exact h4.symm
      subst ha
      obtain ⟨st', e, hw'⟩ := well_ev (n + 11) pre.length ns st hw
      refine ⟨_, rfl, by simp -dsimp [evS, evE, evA, evT, evC, evP, evI, evO, ↓bind_bx, ↓on_ox, ↓seq_sx, bxok, bxexc, liftok, liftmap, oxok, oxexc, sxnx, sxret, sxexc, sxbrk, sxcnt, outret, outnx, outexc, bxite, oxite, sxite, outite, liftite, tellF, tellC, tellgl, tellsig, tellsub, tellfld, tellex, sval, setSl, tru, ln1, ln2, ln3, ln4, ln5, ln6, ln7, ln8, -List.all_eq_true, -List.any_eq_true, -List.all_eq_false, -List.any_eq_false], st', ?_, by simpa using hw'⟩
      simp -dsimp [evS, evE, evA, evT, evC, evP, evI, evO, ↓bind_bx, ↓on_ox, ↓seq_sx, bxok, bxexc, liftok, liftmap, oxok, oxexc, sxnx, sxret, sxexc, sxbrk, sxcnt, outret, outnx, outexc, bxite, oxite, sxite, outite, liftite, tellF, tellC, tellgl, tellsig, tellsub, tellfld, tellex, sval, setSl, tru, ln1, ln2, ln3, ln4, ln5, ln6, ln7, ln8, -List.all_eq_true, -List.any_eq_true, -List.all_eq_false, -List.any_eq_false, e])
  have hw1 : Wl 2 st1 := hw1
  obtain ⟨ys, st2, e2, hw2, y1, y2⟩ := lcInv (I := Wl 2) (O := fun y => y = .bl true) (tg := .nm 3) (ρ := [.val (.fro (ns.map .int)), .val (.lst [.ref 0, .ref 1]), .no, .no]) (cond := evC (tell PR (n + 12)) .nil) (elt := evE (tell PR (n + 12)) (.call g__law_right (.cons (.sub (.var 1) (.bin .mod (.blt .int (.cons (.var 3) .nil)) (.con (.int (2))))) .nil) .nil)) ((List.range 16).map fun (i : Nat) => D.int (i : Int)) st1 hw1 (by
      intro a ha st hw
      obtain ⟨i, hi, rfl⟩ := List.mem_map.mp ha
      obtain ⟨j, hj, hj2⟩ : ∃ j : Nat, (i : Int) % 2 = j ∧ j < 2 := ⟨i % 2, by simp, Nat.mod_lt _ (by omega)⟩
      obtain ⟨st', e, hw'⟩ := right_ev n j hj2 st hw
      have hat : atD [D.ref 0, D.ref 1] (j : Int) = some (.ref j) := by
        rw [at_nat _ j (by simpa using hj2)]
        match j, hj2 with
        | 0, _ => rfl
        | 1, _ => rfl
      refine ⟨_, rfl, by simp -dsimp [evS, evE, evA, evT, evC, evP, evI, evO, ↓bind_bx, ↓on_ox, ↓seq_sx, bxok, bxexc, liftok, liftmap, oxok, oxexc, sxnx, sxret, sxexc, sxbrk, sxcnt, outret, outnx, outexc, bxite, oxite, sxite, outite, liftite, tellF, tellC, tellgl, tellsig, tellsub, tellfld, tellex, sval, setSl, tru, ln1, ln2, ln3, ln4, ln5, ln6, ln7, ln8, -List.all_eq_true, -List.any_eq_true, -List.all_eq_false, -List.any_eq_false], .bl true, st', ?_, hw', rfl⟩
      simp -dsimp [evS, evE, evA, evT, evC, evP, evI, evO, ↓bind_bx, ↓on_ox, ↓seq_sx, bxok, bxexc, liftok, liftmap, oxok, oxexc, sxnx, sxret, sxexc, sxbrk, sxcnt, outret, outnx, outexc, bxite, oxite, sxite, outite, liftite, tellF, tellC, tellgl, tellsig, tellsub, tellfld, tellex, sval, setSl, tru, ln1, ln2, ln3, ln4, ln5, ln6, ln7, ln8, -List.all_eq_true, -List.any_eq_true, -List.all_eq_false, -List.any_eq_false, bltD, bInt, binD, hj, subD, hat, e])
  have e1' : lcLoop (.nm 2) [.val (.fro (ns.map .int)), .no, .no, .no] (evC (tell PR (n + 12)) .nil) (evE (tell PR (n + 12)) (.call g__law_well (.cons (.var 0) (.cons (.var 2) .nil)) .nil)) (rngD 0 2) [] = .ok [.ref 0, .ref 1] st1 := e1
  have e2' : lcLoop (.nm 3) [.val (.fro (ns.map .int)), .val (.lst [.ref 0, .ref 1]), .no, .no] (evC (tell PR (n + 12)) .nil) (evE (tell PR (n + 12)) (.call g__law_right (.cons (.sub (.var 1) (.bin .mod (.blt .int (.cons (.var 3) .nil)) (.con (.int (2))))) .nil) .nil)) (rngD 0 16) st1 = .ok ys st2 := e2
  have hyl : ys.length ≤ line := by rw [y1]; decide
  have hba := bAll_true y2
  exact ⟨st2, by simp -dsimp [evS, evE, evA, evT, evC, evP, evI, evO, ↓bind_bx, ↓on_ox, ↓seq_sx, bxok, bxexc, liftok, liftmap, oxok, oxexc, sxnx, sxret, sxexc, sxbrk, sxcnt, outret, outnx, outexc, bxite, oxite, sxite, outite, liftite, tellF, tellC, tellgl, tellsig, tellsub, tellfld, tellex, sval, setSl, tru, ln1, ln2, ln3, ln4, ln5, ln6, ln7, ln8, -List.all_eq_true, -List.any_eq_true, -List.all_eq_false, -List.any_eq_false, b_law, optI, wipe, e1', noexok, e2', hyl, bltD, hba]⟩
end K84
end

section
set_option Elab.async false
set_option linter.all false
set_option maxRecDepth 100000
set_option maxHeartbeats 0
namespace K84
open DV
def SS : SX := {
  P := PR
  fnm := [(PySem.Str.ofString "is_whole"), (PySem.Str.ofString "is_number"), (PySem.Str.ofString "is_tuple_of"), (PySem.Str.ofString "wrong_at"), (PySem.Str.ofString "wrong_for_all"), (PySem.Str.ofString "is_above_last"), (PySem.Str.ofString "is_word"), (PySem.Str.ofString "is_name"), (PySem.Str.ofString "wrong_things"), (PySem.Str.ofString "is_let_number"), (PySem.Str.ofString "is_game_form"), (PySem.Str.ofString "lot_number"), (PySem.Str.ofString "has_at"), (PySem.Str.ofString "renamed_in"), (PySem.Str.ofString "orders_of"), (PySem.Str.ofString "names_to"), (PySem.Str.ofString "check_game"), (PySem.Str.ofString "check_games"), (PySem.Str.ofString "renamed"), (PySem.Str.ofString "are_alike"), (PySem.Str.ofString "alike_names"), (PySem.Str.ofString "selves"), (PySem.Str.ofString "_law_well"), (PySem.Str.ofString "_law_draw"), (PySem.Str.ofString "_law_of"), (PySem.Str.ofString "_law_same"), (PySem.Str.ofString "_law_names"), (PySem.Str.ofString "_law_sets"), (PySem.Str.ofString "_law_game"), (PySem.Str.ofString "_law_odd_game"), (PySem.Str.ofString "_law_refusal"), (PySem.Str.ofString "_law_right"), (PySem.Str.ofString "law")]
  sgs := [[(PySem.Str.ofString "value")], [(PySem.Str.ofString "value"), (PySem.Str.ofString "low"), (PySem.Str.ofString "high")], [(PySem.Str.ofString "value"), (PySem.Str.ofString "many")], [(PySem.Str.ofString "value"), (PySem.Str.ofString "most"), (PySem.Str.ofString "is_right")], [(PySem.Str.ofString "value"), (PySem.Str.ofString "many"), (PySem.Str.ofString "is_right")], [(PySem.Str.ofString "value"), (PySem.Str.ofString "before")], [(PySem.Str.ofString "things")], [(PySem.Str.ofString "place"), (PySem.Str.ofString "index")], [(PySem.Str.ofString "game"), (PySem.Str.ofString "names")], [(PySem.Str.ofString "names")], [(PySem.Str.ofString "game"), (PySem.Str.ofString "game2")], [(PySem.Str.ofString "game")], [(PySem.Str.ofString "script"), (PySem.Str.ofString "lap")], [(PySem.Str.ofString "well"), (PySem.Str.ofString "limit")], [(PySem.Str.ofString "well"), (PySem.Str.ofString "some")], [(PySem.Str.ofString "one"), (PySem.Str.ofString "two")], [(PySem.Str.ofString "well"), (PySem.Str.ofString "many")], [(PySem.Str.ofString "well"), (PySem.Str.ofString "most")], [(PySem.Str.ofString "well"), (PySem.Str.ofString "game")], [(PySem.Str.ofString "act")], [(PySem.Str.ofString "well")], [(PySem.Str.ofString "script")]]
  gnm := [(PySem.Str.ofString "LETTERS"), (PySem.Str.ofString "WORDS"), (PySem.Str.ofString "MOST_IN_NAME"), (PySem.Str.ofString "MOST_THINGS"), (PySem.Str.ofString "MOST_NUMBER"), (PySem.Str.ofString "alike_names"), (PySem.Str.ofString "are_alike")]
  bn := [(PySem.Str.ofString "len"), (PySem.Str.ofString "int"), (PySem.Str.ofString "abs"), (PySem.Str.ofString "sum"), (PySem.Str.ofString "all"), (PySem.Str.ofString "tuple"), (PySem.Str.ofString "list"), (PySem.Str.ofString "sorted"), (PySem.Str.ofString "repr"), (PySem.Str.ofString "divmod"), (PySem.Str.ofString "isinstance"), (PySem.Str.ofString "bool"), (PySem.Str.ofString "str"), (PySem.Str.ofString "range"), (PySem.Str.ofString "enumerate"), (PySem.Str.ofString "zip"), (PySem.Str.ofString "dict"), (PySem.Str.ofString "super")]
  gcd := false
  lN := [[(PySem.Str.ofString "each"), (PySem.Str.ofString "before")], [(PySem.Str.ofString "each"), (PySem.Str.ofString "before")], [(PySem.Str.ofString "odd"), (PySem.Str.ofString "bad")], [(PySem.Str.ofString "game"), (PySem.Str.ofString "bad")], [(PySem.Str.ofString "act"), (PySem.Str.ofString "odd")], [(PySem.Str.ofString "act"), (PySem.Str.ofString "game"), (PySem.Str.ofString "odd")], [(PySem.Str.ofString "act"), (PySem.Str.ofString "game")], [(PySem.Str.ofString "odd")]]
  lps := [[(PySem.Str.ofString "each"), (PySem.Str.ofString "before")], [(PySem.Str.ofString "each"), (PySem.Str.ofString "before")], [], [], [], [], [], []]
  lfr := [[], [], [(PySem.Str.ofString "odd"), (PySem.Str.ofString "bad")], [(PySem.Str.ofString "game"), (PySem.Str.ofString "bad")], [(PySem.Str.ofString "act"), (PySem.Str.ofString "odd")], [(PySem.Str.ofString "act"), (PySem.Str.ofString "game"), (PySem.Str.ofString "odd")], [(PySem.Str.ofString "act"), (PySem.Str.ofString "game")], [(PySem.Str.ofString "odd")]] }
def st (i : Nat) : PySem.Stmt := PySem.Challenge.pw_tosspicks_k84_other_names_refused.main.body.getD i (.Pass ⟨0, 0, 0, 0⟩)
def SDS : List SD := [⟨(PySem.Str.ofString "is_whole"), st 4, [(PySem.Str.ofString "value")], false⟩,
  ⟨(PySem.Str.ofString "is_number"), st 5, [(PySem.Str.ofString "value"), (PySem.Str.ofString "low"), (PySem.Str.ofString "high")], false⟩,
  ⟨(PySem.Str.ofString "is_tuple_of"), st 6, [(PySem.Str.ofString "value"), (PySem.Str.ofString "many")], false⟩,
  ⟨(PySem.Str.ofString "wrong_at"), st 7, [(PySem.Str.ofString "value"), (PySem.Str.ofString "most"), (PySem.Str.ofString "is_right"), (PySem.Str.ofString "at"), (PySem.Str.ofString "each")], false⟩,
  ⟨(PySem.Str.ofString "wrong_for_all"), st 8, [(PySem.Str.ofString "value"), (PySem.Str.ofString "many"), (PySem.Str.ofString "is_right")], false⟩,
  ⟨(PySem.Str.ofString "is_above_last"), st 9, [(PySem.Str.ofString "value"), (PySem.Str.ofString "before")], false⟩,
  ⟨(PySem.Str.ofString "is_word"), st 10, [(PySem.Str.ofString "value"), (PySem.Str.ofString "letter")], false⟩,
  ⟨(PySem.Str.ofString "is_name"), st 11, [(PySem.Str.ofString "value")], false⟩,
  ⟨(PySem.Str.ofString "wrong_things"), st 15, [(PySem.Str.ofString "value")], true⟩,
  ⟨(PySem.Str.ofString "is_let_number"), st 16, [(PySem.Str.ofString "value")], false⟩,
  ⟨(PySem.Str.ofString "is_game_form"), st 17, [(PySem.Str.ofString "value"), (PySem.Str.ofString "number")], false⟩,
  ⟨(PySem.Str.ofString "lot_number"), st 18, [(PySem.Str.ofString "things")], false⟩,
  ⟨(PySem.Str.ofString "has_at"), st 19, [(PySem.Str.ofString "place"), (PySem.Str.ofString "index")], false⟩,
  ⟨(PySem.Str.ofString "renamed_in"), st 21, [(PySem.Str.ofString "game"), (PySem.Str.ofString "names"), (PySem.Str.ofString "old"), (PySem.Str.ofString "place"), (PySem.Str.ofString "things"), (PySem.Str.ofString "table"), (PySem.Str.ofString "thing"), (PySem.Str.ofString "index")], false⟩,
  ⟨(PySem.Str.ofString "orders_of"), st 22, [(PySem.Str.ofString "names"), (PySem.Str.ofString "found"), (PySem.Str.ofString "_"), (PySem.Str.ofString "order"), (PySem.Str.ofString "name")], false⟩,
  ⟨(PySem.Str.ofString "names_to"), st 23, [(PySem.Str.ofString "game"), (PySem.Str.ofString "game2"), (PySem.Str.ofString "names")], false⟩,
  ⟨(PySem.Str.ofString "check_game"), st 29, [(PySem.Str.ofString "value")], false⟩,
  ⟨(PySem.Str.ofString "check_games"), st 31, [(PySem.Str.ofString "game"), (PySem.Str.ofString "game2")], false⟩,
  ⟨(PySem.Str.ofString "renamed"), st 32, [(PySem.Str.ofString "game"), (PySem.Str.ofString "names"), (PySem.Str.ofString "at")], true⟩,
  ⟨(PySem.Str.ofString "are_alike"), st 33, [(PySem.Str.ofString "game"), (PySem.Str.ofString "game2")], false⟩,
  ⟨(PySem.Str.ofString "alike_names"), st 34, [(PySem.Str.ofString "game"), (PySem.Str.ofString "game2"), (PySem.Str.ofString "names")], false⟩,
  ⟨(PySem.Str.ofString "selves"), st 35, [(PySem.Str.ofString "game")], false⟩,
  ⟨(PySem.Str.ofString "_law_well"), st 37, [(PySem.Str.ofString "script"), (PySem.Str.ofString "lap"), (PySem.Str.ofString "stirred"), (PySem.Str.ofString "cell"), (PySem.Str.ofString "own")], false⟩,
  ⟨(PySem.Str.ofString "_law_draw"), st 38, [(PySem.Str.ofString "well"), (PySem.Str.ofString "limit"), (PySem.Str.ofString "stir"), (PySem.Str.ofString "digit")], false⟩,
  ⟨(PySem.Str.ofString "_law_of"), st 39, [(PySem.Str.ofString "well"), (PySem.Str.ofString "some")], false⟩,
  ⟨(PySem.Str.ofString "_law_same"), st 40, [(PySem.Str.ofString "one"), (PySem.Str.ofString "two"), (PySem.Str.ofString "k")], false⟩,
  ⟨(PySem.Str.ofString "_law_names"), st 41, [(PySem.Str.ofString "well"), (PySem.Str.ofString "many"), (PySem.Str.ofString "words"), (PySem.Str.ofString "k"), (PySem.Str.ofString "found"), (PySem.Str.ofString "letters"), (PySem.Str.ofString "name"), (PySem.Str.ofString "lap")], false⟩,
  ⟨(PySem.Str.ofString "_law_sets"), st 42, [(PySem.Str.ofString "things"), (PySem.Str.ofString "found"), (PySem.Str.ofString "each"), (PySem.Str.ofString "some")], false⟩,
  ⟨(PySem.Str.ofString "_law_game"), st 43, [(PySem.Str.ofString "well"), (PySem.Str.ofString "most"), (PySem.Str.ofString "things"), (PySem.Str.ofString "menu"), (PySem.Str.ofString "lot")], false⟩,
  ⟨(PySem.Str.ofString "_law_odd_game"), st 44, [(PySem.Str.ofString "well"), (PySem.Str.ofString "game"), (PySem.Str.ofString "rest"), (PySem.Str.ofString "some"), (PySem.Str.ofString "things"), (PySem.Str.ofString "table")], false⟩,
  ⟨(PySem.Str.ofString "_law_refusal"), st 45, [(PySem.Str.ofString "act"), (PySem.Str.ofString "e"), (PySem.Str.ofString "sorts")], false⟩,
  ⟨(PySem.Str.ofString "_law_right"), st 46, [(PySem.Str.ofString "well"), (PySem.Str.ofString "game"), (PySem.Str.ofString "names"), (PySem.Str.ofString "bads"), (PySem.Str.ofString "told"), (PySem.Str.ofString "act"), (PySem.Str.ofString "back"), (PySem.Str.ofString "olds"), (PySem.Str.ofString "odd"), (PySem.Str.ofString "many"), (PySem.Str.ofString "bad"), (PySem.Str.ofString "at"), (PySem.Str.ofString "thing"), (PySem.Str.ofString "name")], true⟩,
  ⟨(PySem.Str.ofString "law"), st 47, [(PySem.Str.ofString "script"), (PySem.Str.ofString "wells"), (PySem.Str.ofString "lap"), (PySem.Str.ofString "k")], false⟩]
def TF : List PySem.Str := [(PySem.Str.ofString "wrong_things"), (PySem.Str.ofString "renamed"), (PySem.Str.ofString "_law_right")]
theorem plain : Plain SS 20 32 63 := fun ns _ _ => law_ev 7 ns
theorem hAll : ((List.range SDS.length).all fun g => match SDS[g]? with | some sd => defB SS 200 g sd | none => false) = true := by decide +kernel
theorem hB (g : Nat) (sd : SD) (h : SDS[g]? = some sd) : defB SS 200 g sd = true := by
  have q := List.all_eq_true.mp hAll g (List.mem_range.mpr (List.getElem?_eq_some_iff.mp h).1)
  rw [h] at q
  exact q
theorem hMk : ∀ sd ∈ SDS, sd.mkl = true → sd.nm ∈ TF := by
  have q : (SDS.all fun sd => !sd.mkl || decide (sd.nm ∈ TF)) = true := by decide +kernel
  intro sd hs hm
  have z := List.all_eq_true.mp q sd hs
  simpa [hm] using z
abbrev RR : PySem.W.OpenRow := PySem.W.OpenLaw.row PySem.Challenge.rw_tosspicks_k84_other_names_refused
def nm0 : List PySem.Str := [PySem.Str.ofString "LETTERS", PySem.Str.ofString "MOST_IN_NAME", PySem.Str.ofString "WORDS", PySem.Str.ofString "is_whole", PySem.Str.ofString "is_number", PySem.Str.ofString "is_tuple_of", PySem.Str.ofString "wrong_at", PySem.Str.ofString "wrong_for_all", PySem.Str.ofString "is_above_last", PySem.Str.ofString "is_word", PySem.Str.ofString "is_name", PySem.Str.ofString "MOST_THINGS", PySem.Str.ofString "MOST_NUMBER", PySem.Str.ofString "wrong_things", PySem.Str.ofString "is_let_number", PySem.Str.ofString "is_game_form", PySem.Str.ofString "lot_number", PySem.Str.ofString "has_at", PySem.Str.ofString "renamed_in", PySem.Str.ofString "orders_of", PySem.Str.ofString "names_to", PySem.Str.ofString "PickError", PySem.Str.ofString "InvalidGame", PySem.Str.ofString "InvalidNames", PySem.Str.ofString "check_game", PySem.Str.ofString "check_games", PySem.Str.ofString "renamed", PySem.Str.ofString "are_alike", PySem.Str.ofString "alike_names", PySem.Str.ofString "selves", PySem.Str.ofString "_law_well", PySem.Str.ofString "_law_draw", PySem.Str.ofString "_law_of", PySem.Str.ofString "_law_same", PySem.Str.ofString "_law_names", PySem.Str.ofString "_law_sets", PySem.Str.ofString "_law_game", PySem.Str.ofString "_law_odd_game", PySem.Str.ofString "_law_refusal", PySem.Str.ofString "_law_right"]
def nms : List PySem.Str := nm0
abbrev hk : PySem.W.Hook := hookY 7 (faL SS) (SDS.map toD) [] (TF.map fun x => (x, none)) (exB PySem.Challenge.pw_tosspicks_k84_other_names_refused SS TF)
def ob (s : PySem.W.SharedT) : He.AlX := obsY 7 (faL SS) (SDS.map toD) [] (TF.map fun x => (x, none)) (exB PySem.Challenge.pw_tosspicks_k84_other_names_refused SS TF) (HandSHeadRun.getT s)
theorem ob_eq (s : PySem.W.SharedT) : ob s = hk.obs s.abs := obsY_eq (HandSHeadRun.getT_eq s)
theorem run (w : PySem.World) : HandSHeadRun.RunEq RR (PySem.W.view RR.prog [47]) hk ob 20000 nms w := by
  intro os
  kernel_rfl
end K84
open PySem PySem.W PySem.Calls PyProof.Rows
theorem PySem.Challenge.cw_tosspicks_k84_other_names_refused_holds : PySem.Challenge.rw_tosspicks_k84_other_names_refused.Holds := by
  w_on; o_law
  refine HandSHeadRun.head_any (r := K84.RR) (q := view K84.RR.prog [47]) (H := K84.hk) (ob := K84.ob) (M := 20000) (loose := K84.nms) (d := HandSHeadRun.topDef K84.RR.prog 47) (kwd := []) K84.ob_eq (by kernel_rfl) (fun s => by kernel_rfl) K84.run (by kernel_rfl) (by kernel_rfl) (by kernel_rfl) (by rfl) (by first | assumption | decide +kernel) (by decide +kernel) ⟨rfl, rfl, rfl, rfl, rfl, by decide +kernel⟩ ?hw ?hc
  case hw => w_witness2
  case hc =>
    refine DV.walk_G (l := PySem.Challenge.rw_tosspicks_k84_other_names_refused) (n := 63) (k := 20) (x := "script") rfl (by decide) (by kernel_rfl) ⟨rfl, by decide, by decide⟩ ?F
    intro w mg fa h Y G hmg0
    obtain ⟨K, KX, c⟩ := Y
    have hmg : mg ("law" : PySem.Str) = some (.ref fa) := by
      have e : (HandSHeadRun.topDef K84.RR.prog 47).name = ("law" : PySem.Str) := by kernel_rfl
      rw [← e]
      exact hmg0
    exact ⟨K, KX, DV.law_G (l := PySem.Challenge.rw_tosspicks_k84_other_names_refused) (gL := 32) K84.hB (by decide +kernel) (by decide +kernel) K84.hMk K84.plain (by decide +kernel) (by decide +kernel) KX c G hmg⟩
end
