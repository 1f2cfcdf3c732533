import PyProof.Rows.All
import Wide.All
import OpenK.AllK
import Wide.FinOn
import HandS.ForMost
import HandS.ForExc
import KE.KDictKeyed
import HandS.TupAny
import HandS.Deep
import HandS.Strs
import HandS.Flow
import HandS.Star
import HandS.Records
import HandS.IsInst
import HandS.TupLen
import HandS.StrMore
import HandS.ExcOwn
import HandS.Iter
import HandS.Comp
import HandS.TryOnly
import HandS.Style
import HandS.Exc
import HandS.Defaults
import HandS.OwnEq
import HandS.ExcInit
import HandS.ExcField
import HandS.New0
import KE.KDictDisplayH
import HandS.Head0
import HandS.Head1
import HandS.Head2
import HandS.HeadEnd
import HandS.HeadHook1
import HandS.HeadHook2
import KE.KStateDown
import HandS.Words
import HandS.WordsExc
import PySem.Challenge.RW_plugbooks_k45_handles_of_users
set_option linter.all false
/-! A pure evaluator of a small core of Python: values are plain data; who may change a list, a dict, an instance is told by a flag of its slot. -/
namespace Ev
open PySem (Str)

inductive PV where
  | non | bl (b : Bool) | int (i : Int) | str (x : List Nat)
  | tup (l : List PV) | lst (l : List PV) | dct (l : List (PV × PV))
  | ins (c : Nat) (fs : List (Nat × PV))
  | lam (k : Nat)
  deriving Inhabited, Repr

/-- a slot: empty, or a value and whether the frame alone may change it -/
abbrev Sl := List (Option (PV × Bool))
structure Xn where
  c : Nat
  fs : List (Nat × PV)
  deriving Inhabited, Repr
inductive O (α : Type) where
  | ok (a : α) (r : Sl) | ex (x : Xn) (r : Sl) | no
  deriving Inhabited, Repr
def O.bd {α β : Type} : O α → (α → Sl → O β) → O β
  | .ok a r, f => f a r
  | .ex x r, _ => .ex x r
  | .no, _ => .no
/-- what a call gives: the value, whether it is the caller's alone, the changed arguments -/
inductive FO where
  | rt (v : PV) (o : Bool) (outs : List PV) | ex (x : Xn) | no
  deriving Inhabited, Repr
/-- an argument: a value, or a slot that is looked at only when all are there -/
inductive Ar where
  | v (p : PV) (o : Bool) | sl (i : Nat)
  deriving Inhabited, Repr

inductive Pr where
  | add | sub | mul | fdiv | mod | pow | neg | eq | ne | lt | le | gt | ge | isN | notN | mem | nmem | ix
  | sll (lo hi : Bool)
  | len | int1 | bool1 | str1 | tuple1 | list1 | dict1 | sorted1 | sum1 | any1 | all1 | max1 | min1 | max2 | min2
  | isi (ks : List Nat) (ts : List Nat)
  | dget | dget2 | index
  deriving Inhabited, Repr, DecidableEq
inductive Bm where
  | append | pop | popAt | upd | dpop
  deriving Inhabited, Repr, DecidableEq
inductive T where
  | nm (i : Nat) | tup (l : List T)
  deriving Inhabited, Repr
mutual
inductive E where
  | var (i : Nat) | cst (v : PV) | pr (p : Pr) (as : List E)
  | tup (as : List E) | lst (as : List E) | star (e : E) | dct (kvs : List E)
  | fld (a : E) (f : Nat)
  | and_ (a b : E) | or_ (a b : E) | not_ (a : E) | ite (t a b : E)
  | chn (o1 o2 : Pr) (a b c : E) | sl2 (a b c : E)
  | lc (own : List Nat) (t : T) (it : It) (ifs : List E) (el : E)
  | lc2 (own : List Nat) (t : T) (it : It) (ifs : List E) (own2 : List Nat) (t2 : T) (it2 : It) (ifs2 : List E) (el : E)
  | dc (own : List Nat) (t : T) (it : It) (ifs : List E) (k v : E)
  | call (f : Nat) (as : List E) | mk (c : Nat) (as : List E) | meth (m : Nat) (o : E) (as : List E)
  | bm (i : Nat) (m : Bm) (as : List E)
  | cl (i : Nat) | lam (k : Nat)
inductive It where
  | of (e : E) | rng (as : List E) | enum (e : E) | zip (a b : E) | items (e : E) | vals (e : E)
end
inductive X where
  | cst (v : PV) | var (i : Nat) | fld (f : Nat) | tup (l : List X) | eq (a b : X) | ne (a b : X)
  deriving Inhabited, Repr
inductive XS where
  | ret (x : X) | ifr (c x : X) | pas
  deriving Inhabited, Repr
inductive S where
  | ex (e : E) | asg (t : T) (e : E) | par (ts : List T) (es : List E)
  | aug (i : Nat) (o : Pr) (e : E) | augS (i : Nat) (ix : E) (o : Pr) (e : E) | setS (i : Nat) (ix : E) (e : E)
  | setF (i f : Nat) (e : E) | augF (i f : Nat) (o : Pr) (e : E)
  | ret (e : Option E) | ite (t : E) (a b : List S) | whl (t : E) (b : List S) | for_ (t : T) (it : It) (b : List S)
  | rse (c : Nat) (as : List E)
  | tri (b : List S) (hs : List (List Nat × Option Nat × XS))
  | brk | cnt | pas


/-! ### plain data -/
mutual
def pl : PV → Nat → Bool
  | .non, _ => true
  | .bl _, _ => true
  | .int _, _ => true
  | .str x, _ => x.all (· < 1114112)
  | .tup l, n => match n with | 0 => false | n + 1 => pls l n
  | .lst l, n => match n with | 0 => false | n + 1 => pls l n
  | .dct _, _ => false
  | .ins _ _, _ => false
  | .lam _, _ => false
def pls : List PV → Nat → Bool
  | [], _ => true
  | a :: r, n => pl a n && pls r n
end
/-- data of no great depth -/
def plain (p : PV) : Bool := pl p 64
def plains (l : List PV) : Bool := pls l 63
def b2i (b : Bool) : Int := if b then 1 else 0
mutual
def eqv : PV → PV → Bool
  | .non, .non => true
  | .bl a, .bl b => a == b
  | .bl a, .int b => decide (b2i a = b)
  | .int a, .bl b => decide (a = b2i b)
  | .int a, .int b => decide (a = b)
  | .str a, .str b => decide (a = b)
  | .tup a, .tup b => eqvs a b
  | .lst a, .lst b => eqvs a b
  | _, _ => false
def eqvs : List PV → List PV → Bool
  | [], [] => true
  | a :: r, b :: q => eqv a b && eqvs r q
  | _, _ => false
end
def truth0 : PV → Option Bool
  | .non => some false
  | .bl b => some b
  | .int i => some (i != 0)
  | .str x => if x.length ≤ 16777216 then some (!x.isEmpty) else none
  | .tup l => some (!l.isEmpty)
  | .lst l => some (!l.isEmpty)
  | _ => none
def dlook (k : PV) : List (PV × PV) → Option PV
  | [] => none
  | (a, b) :: r => if eqv a k then some b else dlook k r
def dput (k v : PV) : List (PV × PV) → List (PV × PV)
  | [] => [(k, v)]
  | (a, b) :: r => if eqv a k then (a, v) :: r else (a, b) :: dput k v r
def dputF (k : Nat) (v : PV) : List (Nat × PV) → List (Nat × PV)
  | [] => [(k, v)]
  | (a, b) :: r => if a = k then (a, v) :: r else (a, b) :: dputF k v r
def cutA {α : Type} (xs : List α) (lo hi : Option Int) : List α := (xs.drop (HT.sIx xs.length 0 lo)).take (HT.sIx xs.length xs.length hi - HT.sIx xs.length 0 lo)
mutual
/-- what may be a part of a dict's key -/
def hkD : PV → Nat → Bool
  | .non, _ => true | .bl _, _ => true | .int _, _ => true | .str _, _ => true
  | .tup l, n => match n with | 0 => false | n + 1 => hkDs l n
  | _, _ => false
def hkDs : List PV → Nat → Bool
  | [], _ => true
  | a :: r, n => hkD a n && hkDs r n
end
/-- a dict's key: a tuple of scalars and such tuples, to depth 8 -/
def hashy : PV → Bool
  | .tup l => hkD (.tup l) 8
  | _ => false
def ints? : List PV → Option (List Int)
  | [] => some []
  | .int i :: r => (ints? r).map (i :: ·)
  | _ => none
def bls? : List PV → Option (List Bool)
  | [] => some []
  | .bl i :: r => (bls? r).map (i :: ·)
  | _ => none
def strs? : List PV → Option (List (List Nat))
  | [] => some []
  | .str i :: r => (strs? r).map (i :: ·)
  | _ => none
def lexLe : List Nat → List Nat → Bool
  | [], _ => true
  | _ :: _, [] => false
  | a :: r, b :: q => if a = b then lexLe r q else decide (a < b)
def insS (x : List Nat) : List (List Nat) → List (List Nat)
  | [] => [x]
  | y :: r => if lexLe x y then x :: y :: r else y :: insS x r
def isortS : List (List Nat) → List (List Nat)
  | [] => []
  | x :: r => insS x (isortS r)
def insI (x : Int) : List Int → List Int
  | [] => [x]
  | y :: r => if x ≤ y then x :: y :: r else y :: insI x r
def isortI : List Int → List Int
  | [] => []
  | x :: r => insI x (isortI r)
def idxOf (x : PV) : List PV → Nat → Option Nat
  | [], _ => none
  | a :: r, n => if eqv a x then some n else idxOf x r (n + 1)
/-- built-in types: 0 int, 1 bool, 2 str, 3 list, 4 tuple, 5 dict -/
def isTy (v : PV) (t : Nat) : Bool :=
  match v with
  | .bl _ => t == 0 || t == 1
  | .int _ => t == 0
  | .str _ => t == 2
  | .lst _ => t == 3
  | .tup _ => t == 4
  | .dct _ => t == 5
  | _ => false
def maxL : List Int → Option Int
  | [] => none
  | a :: r => match maxL r with | none => some a | some m => some (if m > a then m else a)
def minL : List Int → Option Int
  | [] => none
  | a :: r => match minL r with | none => some a | some m => some (if m < a then m else a)

def flatP : PV → Bool
  | .non => true | .bl _ => true | .int _ => true | .str _ => true
  | _ => false
def addV : PV → PV → Option (PV × Bool)
  | .int a, .int b => some (.int (a + b), false)
  | .str a, .str b => if a.length + b.length ≤ 16777216 then some (.str (a ++ b), false) else none
  | .lst a, .lst b => if a.length + b.length ≤ 16777216 then some (.lst (a ++ b), true) else none
  | .tup a, .tup b => if a.length + b.length ≤ 16777216 then some (.tup (a ++ b), false) else none
  | _, _ => none
def mulV : PV → PV → Option (PV × Bool)
  | .int a, .int b => if (-(2 ^ 64 : Int) < a ∧ a < 2 ^ 64) ∨ (-(2 ^ 64 : Int) < b ∧ b < 2 ^ 64) then some (.int (a * b), false) else none
  | .lst l, .int k => if -(2 ^ 63 : Int) ≤ k ∧ k < 2 ^ 63 ∧ l.length * k.toNat ≤ 16777216 then some (.lst (List.replicate k.toNat l).flatten, true) else none
  | _, _ => none
def eqV2 (neg : Bool) (a b : PV) : Option (PV × Bool) := if plain a && plain b then some (.bl (if neg then !eqv a b else eqv a b), false) else none
def cmpV (f : Int → Int → Bool) : PV → PV → Option (PV × Bool)
  | .int a, .int b => some (.bl (f a b), false)
  | _, _ => none
def memV (neg : Bool) (x : PV) : PV → Option (PV × Bool)
  | .lst l => if plain x && plains l then some (.bl (if neg then !(l.any fun z => eqv z x) else l.any fun z => eqv z x), false) else none
  | .tup l => if flatP x && l.all flatP then some (.bl (if neg then !(l.any fun z => eqv z x) else l.any fun z => eqv z x), false) else none
  | .dct d => if hashy x then some (.bl (if neg then !(dlook x d).isSome else (dlook x d).isSome), false) else none
  | _ => none
def ixV : PV → PV → Option (PV × Bool)
  | .lst l, .int i => (L2.atI l i).map (·, false)
  | .tup l, .int i => (L2.atI l i).map (·, false)
  | .dct d, k => if hashy k then (dlook k d).map (·, false) else none
  | _, _ => none
def sllV (lo hi : Option Int) : PV → Option (PV × Bool)
  | .lst l => some (.lst (cutA l lo hi), true)
  | .tup l => some (.tup (cutA l lo hi), false)
  | _ => none
def asI : PV → Option Int
  | .int i => some i
  | _ => none
def lenV : PV → Option (PV × Bool)
  | .lst l => some (.int l.length, false)
  | .tup l => some (.int l.length, false)
  | .dct l => some (.int l.length, false)
  | .str x => if x.length ≤ 16777216 then some (.int x.length, false) else none
  | _ => none
def sortV : PV → Option (PV × Bool)
  | .lst l => if l.length < 64 then (match strs? l with
    | some xs => some (.lst ((isortS xs).map .str), true)
    | none => (ints? l).map fun ns => (.lst ((isortI ns).map .int), true)) else none
  | _ => none
def onInts (f : List Int → Option PV) : PV → Option (PV × Bool)
  | .lst l => ((ints? l).bind f).map (·, false)
  | _ => none
def onBls (f : List Bool → PV) : PV → Option (PV × Bool)
  | .lst l => (bls? l).map fun bs => (f bs, false)
  | _ => none
def idxV (x : PV) : PV → Option (PV × Bool)
  | .lst l => if plain x && plains l then (idxOf x l 0).map fun n => (.int n, false) else none
  | .tup l => match x, strs? l with
    | .str _, some _ => (idxOf x l 0).map fun n => (.int n, false)
    | _, _ => none
  | _ => none
def int2 (f : Int → Int → Option PV) : PV → PV → Option (PV × Bool)
  | .int a, .int b => (f a b).map (·, false)
  | _, _ => none
def isNon : PV → Bool
  | .non => true
  | _ => false
def prim : Pr → List PV → Option (PV × Bool)
  | .add, [a, b] => addV a b
  | .sub, [a, b] => int2 (fun a b => some (.int (a - b))) a b
  | .mul, [a, b] => mulV a b
  | .fdiv, [a, b] => int2 (fun a b => if 0 < b ∧ b < 1073741824 then some (.int (a / b)) else none) a b
  | .mod, [a, b] => int2 (fun a b => if 0 < b then some (.int (a % b)) else none) a b
  | .pow, [a, b] => int2 (fun a b => if 0 ≤ b ∧ b ≤ 1000000 ∧ a.natAbs < 2 ^ 64 then some (.int (a ^ b.toNat)) else none) a b
  | .neg, [.int a] => some (.int (-a), false)
  | .eq, [a, b] => eqV2 false a b
  | .ne, [a, b] => eqV2 true a b
  | .lt, [a, b] => cmpV (fun a b => decide (a < b)) a b
  | .le, [a, b] => cmpV (fun a b => decide (a ≤ b)) a b
  | .gt, [a, b] => cmpV (fun a b => decide (b < a)) a b
  | .ge, [a, b] => cmpV (fun a b => decide (b ≤ a)) a b
  | .isN, [a] => some (.bl (isNon a), false)
  | .notN, [a] => some (.bl (!isNon a), false)
  | .mem, [x, l] => memV false x l
  | .nmem, [x, l] => memV true x l
  | .ix, [a, b] => ixV a b
  | .sll false false, [l] => sllV none none l
  | .sll true false, [l, a] => (asI a).bind fun a => sllV (some a) none l
  | .sll false true, [l, b] => (asI b).bind fun b => sllV none (some b) l
  | .sll true true, [l, a, b] => (asI a).bind fun a => (asI b).bind fun b => sllV (some a) (some b) l
  | .len, [a] => lenV a
  | .int1, [.int a] => some (.int a, false)
  | .int1, [.bl b] => some (.int (b2i b), false)
  | .bool1, [.int a] => some (.bl (a != 0), false)
  | .bool1, [.bl b] => some (.bl b, false)
  | .tuple1, [.lst l] => some (.tup l, false)
  | .tuple1, [.tup l] => some (.tup l, false)
  | .list1, [.lst l] => some (.lst l, true)
  | .list1, [.tup l] => some (.lst l, true)
  | .sorted1, [l] => sortV l
  | .sum1, [l] => onInts (fun ns => some (.int ns.sum)) l
  | .any1, [l] => onBls (fun bs => .bl (bs.any id)) l
  | .all1, [l] => onBls (fun bs => .bl (bs.all id)) l
  | .max1, [l] => onInts (fun ns => (maxL ns).map .int) l
  | .min1, [l] => onInts (fun ns => (minL ns).map .int) l
  | .max2, [a, b] => int2 (fun a b => some (.int (if b > a then b else a))) a b
  | .min2, [a, b] => int2 (fun a b => some (.int (if b < a then b else a))) a b
  | .dget, [.dct d, k] => if hashy k then some ((dlook k d).getD .non, false) else none
  | .dget2, [.dct d, k, z] => if hashy k then some ((dlook k d).getD z, false) else none
  | .index, [l, x] => idxV x l
  | _, _ => none

/-- what is known of the program beside its defs -/
structure G where
  io : Nat → List Bool
  meth : Nat → Nat → Option Nat
  init : Nat → Option Nat
  boolF : Nat → Option Nat
  eqF : Nat → Option Nat
  isa : Nat → Nat → Bool
  fok : Nat → Nat → Bool
  /-- a class without an own __init__ -/
  bare : Nat → Bool
  /-- the fields of an exception, in the order of their parameters -/
  xin : Nat → Option (List Nat)
abbrev FC := Nat → List PV → FO

/-! ### slots -/
def sget (ρ : Sl) (i : Nat) : Option (PV × Bool) := (ρ[i]?).join
def sput (ρ : Sl) (i : Nat) (x : Option (PV × Bool)) : Sl := ρ.set i x
def val (a : Ar) (ρ : Sl) : Option PV :=
  match a with
  | .v p _ => some p
  | .sl i => (sget ρ i).map (·.1)
def vals (as : List Ar) (ρ : Sl) : Option (List PV) :=
  match as with
  | [] => some []
  | a :: r => match val a ρ, vals r ρ with
    | some p, some q => some (p :: q)
    | _, _ => none
/-- the value goes elsewhere: nobody may change it from now on -/
def use (a : Ar) (ρ : Sl) : O (PV × Bool) :=
  match a with
  | .v p o => .ok (p, o) ρ
  | .sl i => match sget ρ i with
    | some (p, _) => .ok (p, false) (sput ρ i (some (p, false)))
    | none => .no
def wipeS (ρ : Sl) : List Nat → Sl
  | [] => ρ
  | i :: is => sput (wipeS ρ is) i none
/-- the slots of a block go back to what they were -/
def backS (ρ0 ρ : Sl) : List Nat → Sl
  | [] => ρ
  | i :: is => sput (backS ρ0 ρ is) i (sget ρ0 i)
mutual
def bindT : T → PV → Sl → Option Sl
  | .nm i, v, ρ => if i < ρ.length then some (sput ρ i (some (v, false))) else none
  | .tup ts, .tup l, ρ => bindTs ts l ρ
  | .tup ts, .lst l, ρ => bindTs ts l ρ
  | _, _, _ => none
def bindTs : List T → List PV → Sl → Option Sl
  | [], [], ρ => some ρ
  | t :: ts, v :: vs, ρ => match bindT t v ρ with
    | some ρ' => bindTs ts vs ρ'
    | none => none
  | _, _, _ => none
end
/-! ### loops -/
def lcL (body : PV → Sl → O (Option PV)) : List PV → Sl → O (List PV)
  | [], ρ => .ok [] ρ
  | x :: r, ρ => (body x ρ).bd fun o ρ1 => (lcL body r ρ1).bd fun l ρ2 => .ok (match o with | some y => y :: l | none => l) ρ2
def lcLL (body : PV → Sl → O (List PV)) : List PV → Sl → O (List PV)
  | [], ρ => .ok [] ρ
  | x :: r, ρ => (body x ρ).bd fun o ρ1 => (lcLL body r ρ1).bd fun l ρ2 => .ok (o ++ l) ρ2
/-- over a list that a slot holds, as it stands at each turn -/
def lcV (body : PV → Sl → O (Option PV)) (i : Nat) : Nat → Nat → Sl → O (List PV)
  | 0, _, _ => .no
  | n + 1, k, ρ => match sget ρ i with
    | some (.lst l, true) => (match l[k]? with
      | none => .ok [] ρ
      | some x => (body x ρ).bd fun o ρ1 => (lcV body i n (k + 1) ρ1).bd fun l ρ2 => .ok (match o with | some y => y :: l | none => l) ρ2)
    | _ => .no
def liveO (own : List Nat) (it : It) (ρ : Sl) : Option Nat := match it with
  | .of (.var i) => (match sget ρ i with
    | some (.lst _, true) => if own.contains i then none else some i
    | _ => none)
  | _ => none
def noEx {α : Type} : O α → O α
  | .ok a r => .ok a r
  | _ => .no
def enumL : List PV → Int → List PV
  | [], _ => []
  | x :: r, n => .tup [.int n, x] :: enumL r (n + 1)
def zipL : List PV → List PV → List PV
  | a :: r, b :: q => .tup [a, b] :: zipL r q
  | _, _ => []
def rngL (lo : Int) (n : Nat) : List PV := (List.range n).map fun i => .int (lo + (i : Nat))
def rngV : List PV → Option (List PV)
  | [.int j] => if -(4611686018427387904 : Int) ≤ j ∧ j < 4611686018427387904 then some (rngL 0 j.toNat) else none
  | [.int i, .int j] => if (-(4611686018427387904 : Int) ≤ i ∧ i < 4611686018427387904) ∧ -(4611686018427387904 : Int) ≤ j ∧ j < 4611686018427387904 then some (rngL i (j - i).toNat) else none
  | _ => none

section
variable (g : G) (cl : FC)
def truthO (p : PV) (ρ : Sl) : O Bool :=
  match p with
  | .ins c fs => match g.boolF c with
    | some f => (match cl f [.ins c fs] with
      | .rt (.bl b) _ _ => .ok b ρ
      | _ => .no)
    | none => .no
  | p => match truth0 p with
    | some b => .ok b ρ
    | none => .no
def okC (b : PV) : Bool := match b with
  | .ins c _ => g.fok c 0
  | .lam _ => false
  | _ => true
def primO (p : Pr) (vs : List PV) (ρ : Sl) : O Ar :=
  match p, vs with
  | .eq, [.ins c fs, b] => (match g.eqF c with
    | some f => if okC g b then (match cl f [.ins c fs, b] with
      | .rt (.bl r) _ _ => .ok (.v (.bl r) false) ρ
      | _ => .no) else .no
    | none => .no)
  | .ne, [.ins c fs, b] => (match g.eqF c with
    | some f => if okC g b then (match cl f [.ins c fs, b] with
      | .rt (.bl r) _ _ => .ok (.v (.bl (!r)) false) ρ
      | _ => .no) else .no
    | none => .no)
  | .bool1, [.ins c fs] => (truthO g cl (.ins c fs) ρ).bd fun b ρ => .ok (.v (.bl b) false) ρ
  | .isi ks ts, [v] => (match v with
    | .ins c _ => if g.fok c 0 then .ok (.v (.bl (ks.any (g.isa c))) false) ρ else .no
    | .lam _ => .no
    | v => .ok (.v (.bl (ts.any (isTy v))) false) ρ)
  | p, vs => match prim p vs with
    | some (v, o) => .ok (.v v o) ρ
    | none => .no
/-- in a test: its truth -/
def fin (m : Bool) (r : O Ar) : O Ar :=
  if m then r.bd fun a ρ => (match val a ρ with
    | some p => (truthO g cl p ρ).bd fun b ρ => .ok (.v (.bl b) false) ρ
    | none => .no)
  else r
/-- the slots that the callee may change; none where such an argument is no slot -/
def ioS : List Bool → List Ar → Option (List Nat)
  | true :: io, .sl i :: as => (ioS io as).map (i :: ·)
  | true :: _, _ => none
  | false :: io, _ :: as => ioS io as
  | false :: _, [] => none
  | [], _ => some []
/-- the slots that are handed over for good are nobody's to change any more -/
def frzA : List Bool → List Ar → Sl → Sl
  | io, .sl i :: as, ρ => if io.headD false then frzA io.tail as ρ else (match sget ρ i with
    | some (p, _) => frzA io.tail as (sput ρ i (some (p, false)))
    | none => frzA io.tail as ρ)
  | io, .v _ _ :: as, ρ => frzA io.tail as ρ
  | _, [], ρ => ρ
def putS : List Nat → List PV → Sl → Option Sl
  | [], [], ρ => some ρ
  | i :: is, p :: ps, ρ => putS is ps (sput ρ i (some (p, true)))
  | _, _, _ => none
def ownS (ρ : Sl) (i : Nat) : Bool := match sget ρ i with
  | some (_, true) => true
  | _ => false
def callO (f : Nat) (as : List Ar) (ρ : Sl) : O Ar :=
  match ioS (g.io f) as with
  | some is => (match vals as (frzA (g.io f) as ρ) with
    | some vs => if is.Nodup && is.all (ownS (frzA (g.io f) as ρ)) then (match cl f vs with
      | .rt v o outs => (match putS is outs (frzA (g.io f) as ρ) with
        | some ρ2 => .ok (.v v o) ρ2
        | none => .no)
      | .ex x => if (g.io f).any id then .no else .ex x (frzA (g.io f) as ρ)
      | .no => .no) else .no
    | none => .no)
  | none => .no
def bmO (i : Nat) (m : Bm) (vs : List PV) (ρ : Sl) : O Ar :=
  match sget ρ i with
  | some (.lst l, true) => (match m, vs with
    | .append, [x] => if l.length < 16777216 then .ok (.v .non false) (sput ρ i (some (.lst (l ++ [x]), true))) else .no
    | .pop, [] => (match l[l.length - 1]? with
      | some y => .ok (.v y false) (sput ρ i (some (.lst l.dropLast, true)))
      | none => .no)
    | .popAt, [.int 0] => (match l with
      | y :: r => .ok (.v y false) (sput ρ i (some (.lst r, true)))
      | [] => .no)
    | _, _ => .no)
  | _ => .no
def starL : Bool → Ar → Sl → O (List PV)
  | false, a, ρ => (use a ρ).bd fun p ρ => .ok [p.1] ρ
  | true, a, ρ => match val a ρ with
    | some (.lst l) => .ok l ρ
    | some (.tup l) => .ok l ρ
    | _ => .no
def pairUp : List PV → Option (List (PV × PV))
  | [] => some []
  | [_] => none
  | k :: v :: r => (pairUp r).map ((k, v) :: ·)
def isStar : E → Bool
  | .star _ => true
  | _ => false

mutual
/-- m: whether it is a test -/
def ev (m : Bool) : E → Sl → O Ar
  | .var i, ρ => fin g cl m (match sget ρ i with | some _ => .ok (.sl i) ρ | none => .no)
  | .cst v, ρ => fin g cl m (.ok (.v v false) ρ)
  | .pr p as, ρ => fin g cl m ((evs as ρ).bd fun as ρ => match vals as ρ with
    | some vs => primO g cl p vs ρ
    | none => .no)
  | .tup as, ρ => fin g cl m ((disp as ρ).bd fun l ρ => if l.length ≤ 16777216 then .ok (.v (.tup l) false) ρ else .no)
  | .lst as, ρ => fin g cl m ((disp as ρ).bd fun l ρ => if l.length ≤ 16777216 then .ok (.v (.lst l) true) ρ else .no)
  | .star _, _ => .no
  | .dct kvs, ρ => fin g cl m ((disp kvs ρ).bd fun l ρ => if l.length ≤ 30 then (match pairUp l with
    | some d => if d.all (fun kv => hashy kv.1) then .ok (.v (.dct (d.foldl (fun a kv => dput kv.1 kv.2 a) [])) true) ρ else .no
    | none => .no) else .no)
  | .fld a f, ρ => fin g cl m ((ev false a ρ).bd fun a ρ => match val a ρ with
    | some (.ins c fs) => if g.fok c f then (match fs.lookup f with | some p => .ok (.v p false) ρ | none => .no) else .no
    | _ => .no)
  | .and_ a b, ρ => if m then (ev true a ρ).bd fun x ρ => (match x with
      | .v (.bl true) _ => ev true b ρ
      | .v (.bl false) _ => .ok (.v (.bl false) false) ρ
      | _ => .no)
    else (ev false a ρ).bd fun x ρ => (match val x ρ with
      | some (.bl true) => ev false b ρ
      | some (.bl false) => .ok (.v (.bl false) false) ρ
      | _ => .no)
  | .or_ a b, ρ => if m then (ev true a ρ).bd fun x ρ => (match x with
      | .v (.bl true) _ => .ok (.v (.bl true) false) ρ
      | .v (.bl false) _ => ev true b ρ
      | _ => .no)
    else (ev false a ρ).bd fun x ρ => (match val x ρ with
      | some (.bl true) => .ok (.v (.bl true) false) ρ
      | some (.bl false) => ev false b ρ
      | _ => .no)
  | .not_ a, ρ => (if m then ev true a ρ else fin g cl true (ev false a ρ)).bd fun x ρ => (match x with
      | .v (.bl b) _ => .ok (.v (.bl (!b)) false) ρ
      | _ => .no)
  | .ite t a b, ρ => (ev true t ρ).bd fun x ρ => (match x with
      | .v (.bl true) _ => ev m a ρ
      | .v (.bl false) _ => ev m b ρ
      | _ => .no)
  | .chn o1 o2 a b c, ρ => fin g cl m ((ev false a ρ).bd fun x ρ => (ev false b ρ).bd fun y ρ => match val x ρ, val y ρ with
    | some p, some q => (match prim o1 [p, q] with
      | some (.bl true, _) => (ev false c ρ).bd fun z ρ => (match val y ρ, val z ρ with
        | some q, some w => (match prim o2 [q, w] with
          | some (.bl b, _) => .ok (.v (.bl b) false) ρ
          | _ => .no)
        | _, _ => .no)
      | some (.bl false, _) => .ok (.v (.bl false) false) ρ
      | _ => .no)
    | _, _ => .no)
  | .sl2 a b c, ρ => fin g cl m ((ev false a ρ).bd fun x ρ => (ev false b ρ).bd fun y ρ => match val y ρ with
    | some (.int i) => (ev false c ρ).bd fun z ρ => (match val x ρ, val z ρ with
      | some p, some (.int k) => (match sllV (some i) (some k) p with
        | some (v, o) => .ok (.v v o) ρ
        | none => .no)
      | _, _ => .no)
    | _ => .no)
  | .lc own t it ifs el, ρ => fin g cl m (match liveO own it ρ with
    | some i => (noEx (lcV (fun x ρ => match bindT t x (wipeS ρ own) with
        | some ρ => (tests ifs ρ).bd fun b ρ => if b then (ev false el ρ).bd fun y ρ => (use y ρ).bd fun y ρ => .ok (some y.1) ρ else .ok none ρ
        | none => .no) i 16777217 0 (wipeS ρ own))).bd fun l ρ' => if l.length ≤ 16777216 then .ok (.v (.lst l) true) (backS ρ ρ' own) else .no
    | none => (evI it ρ).bd fun xs ρ =>
      (noEx (lcL (fun x ρ => match bindT t x (wipeS ρ own) with
        | some ρ => (tests ifs ρ).bd fun b ρ => if b then (ev false el ρ).bd fun y ρ => (use y ρ).bd fun y ρ => .ok (some y.1) ρ else .ok none ρ
        | none => .no) xs (wipeS ρ own))).bd fun l ρ' => if l.length ≤ 16777216 then .ok (.v (.lst l) true) (backS ρ ρ' own) else .no)
  | .lc2 own t it ifs own2 t2 it2 ifs2 el, ρ => fin g cl m ((evI it ρ).bd fun xs ρ =>
      (noEx (lcLL (fun x ρ => match bindT t x (wipeS ρ own) with
        | some ρ => (tests ifs ρ).bd fun b ρ => if b then (evI it2 ρ).bd fun ys ρ =>
            lcL (fun x ρ => match bindT t2 x (wipeS ρ own2) with
              | some ρ => (tests ifs2 ρ).bd fun b ρ => if b then (ev false el ρ).bd fun y ρ => (use y ρ).bd fun y ρ => .ok (some y.1) ρ else .ok none ρ
              | none => .no) ys ρ
          else .ok [] ρ
        | none => .no) xs (wipeS ρ own))).bd fun l ρ' => if l.length ≤ 16777216 then .ok (.v (.lst l) true) (backS ρ ρ' own) else .no)
  | .dc own t it ifs k v, ρ => fin g cl m ((evI it ρ).bd fun xs ρ =>
      (noEx (lcL (fun x ρ => match bindT t x (wipeS ρ own) with
        | some ρ => (tests ifs ρ).bd fun b ρ => if b then (ev false k ρ).bd fun y ρ => (use y ρ).bd fun y ρ => (ev false v ρ).bd fun z ρ => (use z ρ).bd fun z ρ => .ok (some (.tup [y.1, z.1])) ρ else .ok none ρ
        | none => .no) xs (wipeS ρ own))).bd fun l ρ' => if l.length ≤ 16777216 then .ok (.v (.dct (l.foldl (fun a kv => match kv with | .tup [k, v] => dput k v a | _ => a) [])) true) (backS ρ ρ' own) else .no)
  | .call f as, ρ => fin g cl m ((evs as ρ).bd fun as ρ => callO g cl f as ρ)
  | .mk c as, ρ => fin g cl m ((evs as ρ).bd fun as ρ => match g.init c with
    | some f => if g.io f != [true] then .no else (match vals as (frzA [] as ρ) with
        | some vs => (match cl f (.ins c [] :: vs) with
          | .rt .non _ [p] => .ok (.v p true) (frzA [] as ρ)
          | .ex x => .ex x (frzA [] as ρ)
          | _ => .no)
        | none => .no)
    | none => (match as with
      | [] => if g.bare c then .ok (.v (.ins c []) true) ρ else .no
      | _ => .no))
  | .meth n o as, ρ => fin g cl m ((ev false o ρ).bd fun a ρ => (match val a ρ with
    | some (.ins c fs) => if (fs.lookup n).isSome then .no else (match g.meth n c with
      | some f => (evs as ρ).bd fun as ρ => callO g cl f (a :: as) ρ
      | none => .no)
    | _ => .no))
  | .bm i k as, ρ => fin g cl m (match sget ρ i with
    | some (.lst _, true) => (evs as ρ).bd fun as ρ => match vals as (frzA [] as ρ) with
      | some vs => bmO i k vs (frzA [] as ρ)
      | none => .no
    | _ => .no)
  | .cl i, ρ => fin g cl m (match sget ρ i with
    | some (.lam k, _) => (match cl k [] with
      | .rt v o [] => .ok (.v v o) ρ
      | .ex x => .ex x ρ
      | _ => .no)
    | _ => .no)
  | .lam k, ρ => fin g cl m (.ok (.v (.lam k) false) ρ)
def evs : List E → Sl → O (List Ar)
  | [], ρ => .ok [] ρ
  | a :: r, ρ => (ev false a ρ).bd fun x ρ => (evs r ρ).bd fun l ρ => .ok (x :: l) ρ
/-- a display's items -/
def disp : List E → Sl → O (List PV)
  | [], ρ => .ok [] ρ
  | .star e :: r, ρ => (ev false e ρ).bd fun x ρ => (starL true x ρ).bd fun l ρ => (disp r ρ).bd fun q ρ => .ok (l ++ q) ρ
  | e :: r, ρ => (ev false e ρ).bd fun x ρ => (starL false x ρ).bd fun l ρ => (disp r ρ).bd fun q ρ => .ok (l ++ q) ρ
def tests : List E → Sl → O Bool
  | [], ρ => .ok true ρ
  | t :: r, ρ => (ev true t ρ).bd fun x ρ => (match x with
      | .v (.bl true) _ => tests r ρ
      | .v (.bl false) _ => .ok false ρ
      | _ => .no)
def evI : It → Sl → O (List PV)
  | .of e, ρ => (ev false e ρ).bd fun a ρ => (use a ρ).bd fun p ρ => (match p.1 with
    | .lst l => .ok l ρ
    | .tup l => .ok l ρ
    | .dct d => .ok (d.map (·.1)) ρ
    | _ => .no)
  | .rng as, ρ => (evs as ρ).bd fun as ρ => (match (vals as ρ).bind rngV with
    | some l => .ok l ρ
    | none => .no)
  | .enum e, ρ => (ev false e ρ).bd fun a ρ => (use a ρ).bd fun p ρ => (match p.1 with
    | .lst l => .ok (enumL l 0) ρ
    | .tup l => .ok (enumL l 0) ρ
    | _ => .no)
  | .zip a b, ρ => (ev false a ρ).bd fun a ρ => (use a ρ).bd fun p ρ => (ev false b ρ).bd fun b ρ => (use b ρ).bd fun q ρ => (match p.1, q.1 with
    | .lst l, .lst k => .ok (zipL l k) ρ
    | .tup l, .lst k => .ok (zipL l k) ρ
    | .lst l, .tup k => .ok (zipL l k) ρ
    | .tup l, .tup k => .ok (zipL l k) ρ
    | _, _ => .no)
  | .items e, ρ => (ev false e ρ).bd fun a ρ => (use a ρ).bd fun p ρ => (match p.1 with
    | .dct d => .ok (d.map fun kv => .tup [kv.1, kv.2]) ρ
    | _ => .no)
  | .vals e, ρ => (ev false e ρ).bd fun a ρ => (use a ρ).bd fun p ρ => (match p.1 with
    | .dct d => .ok (d.map (·.2)) ρ
    | _ => .no)
end
end


/-! ### statements -/
inductive SO where
  | nx (r : Sl) | rt (v : PV) (o : Bool) (r : Sl) | bk (r : Sl) | ct (r : Sl) | ex (x : Xn) (r : Sl) | no
  deriving Inhabited, Repr
def O.so {α : Type} : O α → (α → Sl → SO) → SO
  | .ok a r, f => f a r
  | .ex x r, _ => .ex x r
  | .no, _ => .no
def SO.sq : SO → (Sl → SO) → SO
  | .nx r, f => f r
  | r, _ => r
def whlL (c : Sl → O Ar) (b : Sl → SO) : Nat → Sl → SO
  | 0, _ => .no
  | n + 1, ρ => (c ρ).so fun x ρ => match x with
    | .v (.bl true) _ => (match b ρ with
      | .nx ρ => whlL c b n ρ
      | .ct ρ => whlL c b n ρ
      | .bk ρ => .nx ρ
      | r => r)
    | .v (.bl false) _ => .nx ρ
    | _ => .no
def forL (b : PV → Sl → SO) : List PV → Sl → SO
  | [], ρ => .nx ρ
  | x :: r, ρ => match b x ρ with
      | .nx ρ => forL b r ρ
      | .ct ρ => forL b r ρ
      | .bk ρ => .nx ρ
      | q => q
mutual
def xev (g : G) (x : Xn) (ρ : Sl) : X → Option PV
  | .cst v => some v
  | .var i => (match sget ρ i with | some (p, false) => some p | _ => none)
  | .fld f => if ((g.xin x.c).getD []).contains f then x.fs.lookup f else none
  | .tup l => (xevs g x ρ l).map .tup
  | .eq a b => match xev g x ρ a, xev g x ρ b with
    | some p, some q => if plain p && plain q then some (.bl (eqv p q)) else none
    | _, _ => none
  | .ne a b => match xev g x ρ a, xev g x ρ b with
    | some p, some q => if plain p && plain q then some (.bl (!eqv p q)) else none
    | _, _ => none
def xevs (g : G) (x : Xn) (ρ : Sl) : List X → Option (List PV)
  | [] => some []
  | a :: r => match xev g x ρ a, xevs g x ρ r with
    | some p, some q => some (p :: q)
    | _, _ => none
end
def xsu (g : G) (x : Xn) (ρ : Sl) : XS → SO
  | .ret e => match xev g x ρ e with | some v => .rt v false ρ | none => .no
  | .ifr c e => match xev g x ρ c with
    | some (.bl true) => (match xev g x ρ e with | some v => .rt v false ρ | none => .no)
    | some (.bl false) => .nx ρ
    | _ => .no
  | .pas => .nx ρ
/-- targets of a display, item by item, each with its right to change -/
def bindO : T → PV × Bool → Sl → Option Sl
  | .nm i, p, ρ => if i < ρ.length then some (sput ρ i (some p)) else none
  | t, p, ρ => bindT t p.1 ρ
def bindOs : List T → List (PV × Bool) → Sl → Option Sl
  | [], [], ρ => some ρ
  | t :: ts, p :: ps, ρ => match bindO t p ρ with
    | some ρ => bindOs ts ps ρ
    | none => none
  | _, _, _ => none
def getV (pv kp : PV) : Option PV :=
  match pv with
  | .lst l => (match kp with
    | .int z => L2.atI l z
    | _ => none)
  | .dct d => if hashy kp then dlook kp d else none
  | _ => none
def setV (pv kp p : PV) : Option PV :=
  match pv with
  | .lst l => (match kp with
    | .int z => (L2.ixN l.length z).map fun j => PV.lst (l.set j p)
    | _ => none)
  | .dct d => if hashy kp && decide (d.length < 16777216) then some (.dct (dput kp p d)) else none
  | _ => none
section
variable (g : G) (cl : FC) (W : Nat)
def uses : List E → Sl → O (List (PV × Bool))
  | [], ρ => .ok [] ρ
  | e :: r, ρ => (ev g cl false e ρ).bd fun x ρ => (use x ρ).bd fun p ρ => (uses r ρ).bd fun q ρ => .ok (p :: q) ρ
def dropN (ρ : Sl) : Option Nat → Sl
  | none => ρ
  | some i => sput ρ i none
def hand (x : Xn) (ρ : Sl) : List (List Nat × Option Nat × XS) → SO
  | [] => .ex x ρ
  | (cs, i, su) :: r => if (g.xin x.c).isSome && cs.all (fun c => (g.xin c).isSome) then (if cs.any (g.isa x.c) then xsu g x (dropN ρ i) su else hand x ρ r) else .no
def catch_ (hs : List (List Nat × Option Nat × XS)) : SO → SO
  | .ex x ρ => hand g x ρ hs
  | r => r
mutual
def exS : S → Sl → SO
  | .ex e, ρ => (ev g cl false e ρ).so fun _ ρ => .nx ρ
  | .asg t e, ρ => (ev g cl false e ρ).so fun a ρ => (use a ρ).so fun p ρ => (match t with
    | .nm i => if i < ρ.length then .nx (sput ρ i (some p)) else .no
    | t => (match bindT t p.1 ρ with | some ρ => .nx ρ | none => .no))
  | .par ts es, ρ => (uses g cl es ρ).so fun ps ρ => (match bindOs ts ps ρ with | some ρ => .nx ρ | none => .no)
  | .aug i o e, ρ => (match sget ρ i with
    | some (.int v, _) => (ev g cl false e ρ).so fun a ρ => (match val a ρ with
      | some q => (match prim o [.int v, q] with
        | some (.int r, _) => if i < ρ.length then .nx (sput ρ i (some (.int r, false))) else .no
        | _ => .no)
      | none => .no)
    | _ => .no)
  | .augS i ix o e, ρ => (match sget ρ i with
    | some (_, true) => (ev g cl false ix ρ).so fun k ρ => (use k ρ).so fun k ρ => (match sget ρ i with
      | some (pv, true) => (match getV pv k.1 with
        | some x => (ev g cl false e ρ).so fun a ρ => (match val a ρ, sget ρ i with
          | some q, some (pv, true) => (match prim o [x, q] with
            | some (.int r, _) => (match setV pv k.1 (.int r) with
              | some q => .nx (sput ρ i (some (q, true)))
              | none => .no)
            | _ => .no)
          | _, _ => .no)
        | none => .no)
      | _ => .no)
    | _ => .no)
  | .setS i ix e, ρ => (match sget ρ i with
    | some (_, true) => (ev g cl false e ρ).so fun a ρ => (use a ρ).so fun p ρ => (ev g cl false ix ρ).so fun k ρ => (use k ρ).so fun k ρ => (match sget ρ i with
      | some (pv, true) => (match setV pv k.1 p.1 with
        | some q => .nx (sput ρ i (some (q, true)))
        | none => .no)
      | _ => .no)
    | _ => .no)
  | .setF i f e, ρ => (ev g cl false e ρ).so fun a ρ => (use a ρ).so fun p ρ => (match sget ρ i with
    | some (.ins c fs, true) => if g.fok c f && decide (fs.length < 900) then .nx (sput ρ i (some (.ins c (dputF f p.1 fs), true))) else .no
    | _ => .no)
  | .augF i f o e, ρ => (match sget ρ i with
    | some (.ins c0 fs, true) => if !g.fok c0 f then .no else (match fs.lookup f with
      | some x => (ev g cl false e ρ).so fun a ρ => (match val a ρ, sget ρ i with
        | some q, some (.ins c fs, true) => (match prim o [x, q] with
          | some (.int r, _) => if fs.length < 900 then .nx (sput ρ i (some (.ins c (dputF f (.int r) fs), true))) else .no
          | _ => .no)
        | _, _ => .no)
      | none => .no)
    | _ => .no)
  | .ret none, ρ => .rt .non false ρ
  | .ret (some (.var i)), ρ => (match sget ρ i with
    | some (p, o) => .rt p o (sput ρ i none)
    | none => .no)
  | .ret (some e), ρ => (ev g cl false e ρ).so fun a ρ => (use a ρ).so fun p ρ => .rt p.1 p.2 ρ
  | .ite t a b, ρ => (ev g cl true t ρ).so fun x ρ => (match x with
    | .v (.bl true) _ => exSs a ρ
    | .v (.bl false) _ => exSs b ρ
    | _ => .no)
  | .whl t b, ρ => whlL (fun ρ => ev g cl true t ρ) (fun ρ => exSs b ρ) W ρ
  | .for_ t it b, ρ => (evI g cl it ρ).so fun xs ρ => forL (fun x ρ => match bindT t x ρ with
    | some ρ => exSs b ρ
    | none => .no) xs ρ
  | .rse c as, ρ => (evs g cl as ρ).so fun as ρ => (match vals as (frzA [] as ρ), g.xin c with
      | some vs, some fs => if fs.length = vs.length then .ex ⟨c, (fs.zip vs).reverse⟩ (frzA [] as ρ) else .no
      | _, _ => .no)
  | .tri b hs, ρ => catch_ g hs (exSs b ρ)
  | .brk, ρ => .bk ρ
  | .cnt, ρ => .ct ρ
  | .pas, ρ => .nx ρ
def exSs : List S → Sl → SO
  | [], ρ => .nx ρ
  | s :: r, ρ => (exS s ρ).sq fun ρ => exSs r ρ
end
end
structure Fn where
  np : Nat
  ns : Nat
  io : List Bool
  body : List S
  deriving Inhabited
def begS (io : List Bool) : List PV → Sl
  | [] => []
  | v :: r => some (v, io.headD false) :: begS io.tail r
def outV (ρ : Sl) : Nat → List Bool → Option (List PV)
  | _, [] => some []
  | i, true :: io => match sget ρ i, outV ρ (i + 1) io with
    | some (p, true), some l => some (p :: l)
    | _, _ => none
  | i, false :: io => outV ρ (i + 1) io
def endF (io : List Bool) : SO → FO
  | .nx ρ => (match outV ρ 0 io with | some l => .rt .non false l | none => .no)
  | .rt v o ρ => (match outV ρ 0 io with | some l => .rt v o l | none => .no)
  | .ex x _ => .ex x
  | _ => .no
structure Pg where
  g : G
  fn : Nat → Option Fn
  W : Nat
def runF (P : Pg) (cl : FC) (f : Nat) (vs : List PV) : FO :=
  match P.fn f with
  | some F => if vs.length = F.np then endF F.io (exSs P.g cl P.W F.body (begS F.io vs ++ List.replicate (F.ns - F.np) none)) else .no
  | none => .no
def callD (P : Pg) : Nat → FC
  | 0 => fun _ _ => .no
  | d + 1 => fun f vs => runF P (callD P d) f vs
end Ev

set_option Elab.async false
set_option linter.all false
set_option maxRecDepth 100000
/-! The evaluator's values and the abstract heap of the layer. -/
namespace Ev
open PySem PySem.Spec PyProof.Rows L2

/-- how the program's numbers stand for its names: classes, attributes -/
structure En where
  P : Program
  w : World
  K : PySem.W.Frag
  cA : Nat → Addr
  fA : Nat → Addr
  fN : Nat → Str

def KTup (K : PySem.W.Frag) (a : Addr) (xs : List V) : Prop :=
  ∃ (o : Obj) (its : Array Value) (n : Nat), K.lookup a = some o ∧ o.cls = .type "tuple" ∧ o.data = .seq its n ∧ its.size ≤ sizeLine ∧ Vals xs its.toList
abbrev SG := L2.St
/-- a thing that stays as it is unless somebody writes it -/
def NT (o : HO) : Prop := ∀ ps, o ≠ HO.tbl ps
theorem NT.lst {l : List V} : NT (.lst l) := fun _ h => HO.noConfusion h
theorem NT.tup {l : List V} : NT (.tup l) := fun _ h => HO.noConfusion h
theorem NT.ins {C dx : Addr} {l : List (Str × V)} : NT (.ins C dx l) := fun _ h => HO.noConfusion h
def strV (x : List Nat) : Str := ⟨x.toArray⟩
/-- a dict by its keys, where they stand, its values -/
def DOb (n : En) (o : Obj) (a : Addr) (xs : List (NestedKey × Addr × Value)) (h : Heap) : Prop :=
  (a == sysModules) = false ∧ xs.length ≤ sizeLine ∧ h.get? a = some o ∧ ∃ es ep, o.ExactDict ∧ o.data = .dict es ep ∧ es.toList = xs.map (entryOfKey (nestedKind n.P n.w)) ∧ (xs.map (·.1)).Nodup
def DO (n : En) (o : Obj) (a : Addr) (xs : List (NestedKey × Addr × Value)) : HO := .ext (DOb n o a xs)
theorem NT.dct {n : En} {o : Obj} {a : Addr} {xs : List (NestedKey × Addr × Value)} : NT (DO n o a xs) := fun _ h => HO.noConfusion h
mutual
def toK : PV → NestedKey
  | .non => .none
  | .bl b => .num (if b = true then 1 else 0)
  | .int i => .num i
  | .str x => .text (strV x)
  | .tup l => .tup (toKs l)
  | _ => .none
def toKs : List PV → List NestedKey
  | [] => []
  | a :: r => toK a :: toKs r
end

mutual
/-- a value that nobody changes any more -/
inductive RV (n : En) (H : Hp) (Z : Addr → Prop) : PV → V → Prop
  | non : RV n H Z .non .non
  | bl (b : Bool) : RV n H Z (.bl b) (.bl b)
  | int (i : Int) : RV n H Z (.int i) (.int i)
  | str (x : List Nat) : RV n H Z (.str x) (.str (strV x))
  | tup {a : Addr} {vs : List V} {l : List PV} : Z a → Rd H a (.tup vs) → RVs n H Z l vs → RV n H Z (.tup l) (.ref a)
  | tupK {a : Addr} {vs : List V} {l : List PV} : KTup n.K a vs → RVs n H Z l vs → RV n H Z (.tup l) (.ref a)
  | lst {a : Addr} {vs : List V} {l : List PV} : Z a → Rd H a (.lst vs) → RVs n H Z l vs → RV n H Z (.lst l) (.ref a)
  | ins {a : Addr} {c : Nat} {dx : Addr} {fs : List (Str × V)} {l : List (Nat × PV)} : Z a → H a = some (.ins (n.cA c) dx fs) → RFs n H Z l fs → RV n H Z (.ins c l) (.ref a)
  | dct {a : Addr} {o : Obj} {xs : List (NestedKey × Addr × Value)} {l : List (PV × PV)} : Z a → H a = some (DO n o a xs) → RKs n H Z l xs → RV n H Z (.dct l) (.ref a)
inductive RVs (n : En) (H : Hp) (Z : Addr → Prop) : List PV → List V → Prop
  | nil : RVs n H Z [] []
  | cons {p : PV} {l : List PV} {v : V} {vs : List V} : RV n H Z p v → RVs n H Z l vs → RVs n H Z (p :: l) (v :: vs)
inductive RKs (n : En) (H : Hp) (Z : Addr → Prop) : List (PV × PV) → List (NestedKey × Addr × Value) → Prop
  | nil : RKs n H Z [] []
  | cons {k v : PV} {b : Addr} {x : V} {u : Value} {l : List (PV × PV)} {xs : List (NestedKey × Addr × Value)} : hashy k = true → RV n H Z k (.ref b) → RV n H Z v x → RelV x u → RKs n H Z l xs → RKs n H Z ((k, v) :: l) ((toK k, b, u) :: xs)
inductive RFs (n : En) (H : Hp) (Z : Addr → Prop) : List (Nat × PV) → List (Str × V) → Prop
  | nil : RFs n H Z [] []
  | cons {f : Nat} {p : PV} {l : List (Nat × PV)} {v : V} {vs : List (Str × V)} : RV n H Z p v → RFs n H Z l vs → RFs n H Z ((f, p) :: l) ((n.fN f, v) :: vs)
end
mutual
theorem RV.mono {n : En} {H H' : Hp} {Z Z' : Addr → Prop} (hz : ∀ a, Z a → Z' a) (hs : ∀ a, Z a → H' a = H a) : ∀ {p : PV} {v : V}, RV n H Z p v → RV n H' Z' p v
  | _, _, .non => .non
  | _, _, .bl b => .bl b
  | _, _, .int b => .int b
  | _, _, .str b => .str b
  | _, _, .tup z r l => .tup (hz _ z) (by unfold Rd at r ⊢; rw [hs _ z]; exact r) (RVs.mono hz hs l)
  | _, _, .tupK k l => .tupK k (RVs.mono hz hs l)
  | _, _, .lst z r l => .lst (hz _ z) (by unfold Rd at r ⊢; rw [hs _ z]; exact r) (RVs.mono hz hs l)
  | _, _, .ins z r l => .ins (hz _ z) (by rw [hs _ z]; exact r) (RFs.mono hz hs l)
  | _, _, .dct z r l => .dct (hz _ z) (by rw [hs _ z]; exact r) (RKs.mono hz hs l)
theorem RKs.mono {n : En} {H H' : Hp} {Z Z' : Addr → Prop} (hz : ∀ a, Z a → Z' a) (hs : ∀ a, Z a → H' a = H a) : ∀ {p : List (PV × PV)} {v : List (NestedKey × Addr × Value)}, RKs n H Z p v → RKs n H' Z' p v
  | _, _, .nil => .nil
  | _, _, .cons h k v r t => .cons h (RV.mono hz hs k) (RV.mono hz hs v) r (RKs.mono hz hs t)
theorem RVs.mono {n : En} {H H' : Hp} {Z Z' : Addr → Prop} (hz : ∀ a, Z a → Z' a) (hs : ∀ a, Z a → H' a = H a) : ∀ {p : List PV} {v : List V}, RVs n H Z p v → RVs n H' Z' p v
  | _, _, .nil => .nil
  | _, _, .cons h t => .cons (RV.mono hz hs h) (RVs.mono hz hs t)
theorem RFs.mono {n : En} {H H' : Hp} {Z Z' : Addr → Prop} (hz : ∀ a, Z a → Z' a) (hs : ∀ a, Z a → H' a = H a) : ∀ {p : List (Nat × PV)} {v : List (Str × V)}, RFs n H Z p v → RFs n H' Z' p v
  | _, _, .nil => .nil
  | _, _, .cons h t => .cons (RV.mono hz hs h) (RFs.mono hz hs t)
end
/-- a value that one may still change: its contents are settled -/
inductive OV (n : En) (H : Hp) (Z : Addr → Prop) : PV → Addr → Prop
  | lst {a : Addr} {vs : List V} {l : List PV} : H a = some (.lst vs) → RVs n H Z l vs → OV n H Z (.lst l) a
  | ins {a : Addr} {c : Nat} {dx : Addr} {fs : List (Str × V)} {l : List (Nat × PV)} : H a = some (.ins (n.cA c) dx fs) → RFs n H Z l fs → OV n H Z (.ins c l) a
  | dct {a : Addr} {o : Obj} {xs : List (NestedKey × Addr × Value)} {l : List (PV × PV)} : H a = some (DO n o a xs) → RKs n H Z l xs → OV n H Z (.dct l) a
theorem OV.mono {n : En} {H H' : Hp} {Z Z' : Addr → Prop} (hz : ∀ a, Z a → Z' a) (hs : ∀ a, Z a → H' a = H a) {p : PV} {a : Addr} (ha : H' a = H a) (h : OV n H Z p a) : OV n H' Z' p a := by
  cases h with
  | lst e l => exact .lst (ha.trans e) (l.mono hz hs)
  | ins e l => exact .ins (ha.trans e) (l.mono hz hs)
  | dct e l => exact .dct (ha.trans e) (l.mono hz hs)
theorem OV.there {n : En} {H : Hp} {Z : Addr → Prop} {p : PV} {a : Addr} (h : OV n H Z p a) : ∃ o, H a = some o ∧ NT o := by
  cases h with
  | lst e l => exact ⟨_, e, NT.lst⟩
  | ins e l => exact ⟨_, e, NT.ins⟩
  | dct e l => exact ⟨_, e, NT.dct⟩
/-- it is settled from now on -/
theorem OV.frozen {n : En} {H : Hp} {Z Z' : Addr → Prop} (hz : ∀ a, Z a → Z' a) {p : PV} {a : Addr} (ha : Z' a) (h : OV n H Z p a) : RV n H Z' p (.ref a) := by
  cases h with
  | lst e l => exact .lst ha (.of e) (l.mono hz fun _ _ => rfl)
  | ins e l => exact .ins ha e (l.mono hz fun _ _ => rfl)
  | dct e l => exact .dct ha e (l.mono hz fun _ _ => rfl)
/-- what may be read -/
def RD (n : En) (H : Hp) (Z : Addr → Prop) (p : PV) (v : V) : Prop := RV n H Z p v ∨ ∃ a, v = .ref a ∧ OV n H Z p a

theorem sget_put {ρ : Sl} {i j : Nat} {x : Option (PV × Bool)} : sget (sput ρ i x) j = if i = j ∧ i < ρ.length then x else sget ρ j := by
  unfold sget sput
  rw [List.getElem?_set]
  by_cases h : i = j
  · subst h
    by_cases hl : i < ρ.length
    · simp [hl]
    · simp [hl]
  · simp [h]
theorem sget_put' {ρ : Sl} {i j : Nat} {x : Option (PV × Bool)} (h : i < ρ.length) : sget (sput ρ i x) j = if i = j then x else sget ρ j := by
  rw [sget_put]
  by_cases e : i = j
  · rw [if_pos ⟨e, h⟩, if_pos e]
  · rw [if_neg (fun c => e c.1), if_neg e]
theorem sget_lt {ρ : Sl} {i : Nat} {x : PV × Bool} (h : sget ρ i = some x) : i < ρ.length := by
  unfold sget at h
  cases e : ρ[i]? with
  | none => rw [e] at h; cases h
  | some y => exact (List.getElem?_eq_some_iff.mp e).1
theorem sput_len {ρ : Sl} {i : Nat} {x : Option (PV × Bool)} : (sput ρ i x).length = ρ.length := by
  unfold sput; simp
/-- the frame may change the object at a through one of its slots -/
def OwnA (ρ : Sl) (σ : SG) (a : Addr) : Prop := ∃ i p, sget ρ i = some (p, true) ∧ σ[i]? = some (some (.ref a))
structure Wd (n : En) (ρ : Sl) (σ : SG) (H : Hp) (Z : Addr → Prop) : Prop where
  len : σ.length = ρ.length
  vis : ∀ i p, sget ρ i = some (p, false) → ∃ v, σ[i]? = some (some v) ∧ RV n H Z p v
  own : ∀ i p, sget ρ i = some (p, true) → ∃ a, σ[i]? = some (some (.ref a)) ∧ ¬ Z a ∧ OV n H Z p a
  inj : ∀ i j p q a, sget ρ i = some (p, true) → sget ρ j = some (q, true) → σ[i]? = some (some (.ref a)) → σ[j]? = some (some (.ref a)) → i = j
  gz : ∀ a, Z a → ∃ o, H a = some o ∧ NT o
structure Stp (ρ : Sl) (σ : SG) (H : Hp) (Z : Addr → Prop) (ρ' : Sl) (σ' : SG) (H' : Hp) (Z' : Addr → Prop) : Prop where
  mono : ∀ a, Z a → Z' a
  stay : ∀ a o, H a = some o → NT o → ¬ OwnA ρ σ a → H' a = some o
  same : ∀ a o, H a = some o → ∃ o', H' a = some o'
  zin : ∀ a, Z' a → Z a ∨ H a = none ∨ OwnA ρ σ a
  oin : ∀ a, OwnA ρ' σ' a → OwnA ρ σ a ∨ H a = none
section
variable {n : En} {ρ0 ρ ρ1 ρ2 : Sl} {σ0 σ σ1 σ2 : SG} {H0 H H1 H2 : Hp} {Z0 Z Z1 Z2 : Addr → Prop}
theorem Stp.refl : Stp ρ σ H Z ρ σ H Z := ⟨fun _ h => h, fun _ _ h _ _ => h, fun _ o h => ⟨o, h⟩, fun _ h => .inl h, fun _ h => .inl h⟩
theorem Stp.back (a : Stp ρ σ H Z ρ1 σ1 H1 Z1) {x : Addr} (h : H1 x = none) : H x = none := by
  cases e : H x with
  | none => rfl
  | some o =>
    obtain ⟨o', h'⟩ := a.same x o e
    rw [h'] at h; cases h
theorem Stp.trans (a : Stp ρ σ H Z ρ1 σ1 H1 Z1) (b : Stp ρ1 σ1 H1 Z1 ρ2 σ2 H2 Z2) : Stp ρ σ H Z ρ2 σ2 H2 Z2 := by
  have no : ∀ x o, H x = some o → ¬ OwnA ρ σ x → ¬ OwnA ρ1 σ1 x := fun x o h q z => by
    rcases a.oin x z with z | z
    · exact q z
    · rw [z] at h; cases h
  refine ⟨fun x h => b.mono x (a.mono x h), fun x o h t q => b.stay x o (a.stay x o h t q) t (no x o h q), fun x o h => ?_, fun x h => ?_, fun x h => ?_⟩
  · obtain ⟨o', h'⟩ := a.same x o h
    exact b.same x o' h'
  · rcases b.zin x h with z | z | z
    · exact a.zin x z
    · exact .inr (.inl (a.back z))
    · rcases a.oin x z with z | z
      · exact .inr (.inr z)
      · exact .inr (.inl z)
  · rcases b.oin x h with z | z
    · exact a.oin x z
    · exact .inr (a.back z)
theorem Wd.notOwn (w : Wd n ρ σ H Z) {a : Addr} (z : Z a) : ¬ OwnA ρ σ a := fun ⟨i, p, e, s⟩ => by
  obtain ⟨b, s', nz, _⟩ := w.own i p e
  rw [s] at s'; cases s'
  exact nz z
theorem Wd.zstay (w : Wd n ρ σ H Z) (s : Stp ρ σ H Z ρ1 σ1 H1 Z1) : ∀ a, Z a → H1 a = H a := fun a z => by
  obtain ⟨o, e, t⟩ := w.gz a z
  rw [e]
  exact s.stay a o e t (w.notOwn z)
theorem RV.step {p : PV} {v : V} (r : RV n H Z p v) (w : Wd n ρ σ H Z) (s : Stp ρ σ H Z ρ1 σ1 H1 Z1) : RV n H1 Z1 p v := r.mono s.mono (w.zstay s)
theorem RVs.step {p : List PV} {v : List V} (r : RVs n H Z p v) (w : Wd n ρ σ H Z) (s : Stp ρ σ H Z ρ1 σ1 H1 Z1) : RVs n H1 Z1 p v := r.mono s.mono (w.zstay s)
/-- a value that an expression gave: settled, or the taker's alone -/
def VR (n : En) (H0 : Hp) (ρ : Sl) (σ : SG) (H : Hp) (Z : Addr → Prop) (p : PV) (o : Bool) (v : V) : Prop :=
  match o with
  | false => RV n H Z p v
  | true => ∃ a, v = .ref a ∧ H0 a = none ∧ ¬ Z a ∧ ¬ OwnA ρ σ a ∧ OV n H Z p a
theorem VR.step {p : PV} {o : Bool} {v : V} (r : VR n H0 ρ σ H Z p o v) (w : Wd n ρ σ H Z) (s : Stp ρ σ H Z ρ1 σ1 H1 Z1) : VR n H0 ρ1 σ1 H1 Z1 p o v := by
  cases o with
  | false => exact RV.step r w s
  | true =>
    obtain ⟨a, e, h0, nz, no, ov⟩ := r
    obtain ⟨ob, h, nt⟩ := ov.there
    refine ⟨a, e, h0, fun z => ?_, fun z => ?_, ov.mono s.mono (w.zstay s) (by rw [h]; exact s.stay a ob h nt no)⟩
    · rcases s.zin a z with z | z | z
      · exact nz z
      · rw [h] at z; cases z
      · exact no z
    · rcases s.oin a z with z | z
      · exact no z
      · rw [h] at z; cases z
def AR (n : En) (H0 : Hp) (ρ : Sl) (σ : SG) (H : Hp) (Z : Addr → Prop) (a : Ar) (v : V) : Prop :=
  match a with
  | .v p o => VR n H0 ρ σ H Z p o v
  | .sl i => σ[i]? = some (some v)
theorem AR.step {a : Ar} {v : V} (r : AR n H0 ρ σ H Z a v) (w : Wd n ρ σ H Z) (s : Stp ρ σ H Z ρ1 σ H1 Z1) : AR n H0 ρ1 σ H1 Z1 a v := by
  cases a with
  | v p o => exact VR.step r w s
  | sl i => exact r
theorem VR.rd {p : PV} {o : Bool} {v : V} (r : VR n H0 ρ σ H Z p o v) : RD n H Z p v := by
  cases o with
  | false => exact .inl r
  | true =>
    obtain ⟨a, e, _, _, _, ov⟩ := r
    exact .inr ⟨a, e, ov⟩
theorem Wd.slot (w : Wd n ρ σ H Z) {i : Nat} {p : PV} {o : Bool} (h : sget ρ i = some (p, o)) : ∃ v, σ[i]? = some (some v) ∧ RD n H Z p v := by
  cases o with
  | false =>
    obtain ⟨v, s, r⟩ := w.vis i p h
    exact ⟨v, s, .inl r⟩
  | true =>
    obtain ⟨a, s, _, r⟩ := w.own i p h
    exact ⟨_, s, .inr ⟨a, rfl, r⟩⟩
theorem AR.val (w : Wd n ρ σ H Z) {a : Ar} {v : V} {p : PV} (r : AR n H0 ρ σ H Z a v) (h : Ev.val a ρ = some p) : RD n H Z p v := by
  cases a with
  | v q o =>
    cases h
    exact VR.rd r
  | sl i =>
    have h : (sget ρ i).map (·.1) = some p := h
    cases e : sget ρ i with
    | none => rw [e] at h; cases h
    | some x =>
      rw [e] at h
      cases h
      obtain ⟨v', s, q⟩ := w.slot (p := x.1) (o := x.2) e
      have r' : σ[i]? = some (some v) := r
      rw [s] at r'; cases r'
      exact q
/-- all that is there may be settled: the objects that the frame or nobody holds -/
theorem Wd.more (w : Wd n ρ σ H Z) {a : Addr} {o : HO} (h : H a = some o) (nt : NT o) (no : ¬ OwnA ρ σ a) : Wd n ρ σ H (fun b => Z b ∨ b = a) := by
  have hz : ∀ b, Z b → Z b ∨ b = a := fun b z => .inl z
  refine ⟨w.len, fun i p e => ?_, fun i p e => ?_, w.inj, fun b z => ?_⟩
  · obtain ⟨v, s, r⟩ := w.vis i p e
    exact ⟨v, s, r.mono hz fun _ _ => rfl⟩
  · obtain ⟨b, s, nz, r⟩ := w.own i p e
    refine ⟨b, s, fun z => ?_, r.mono hz (fun _ _ => rfl) rfl⟩
    rcases z with z | z
    · exact nz z
    · subst z; exact no ⟨i, p, e, s⟩
  · rcases z with z | z
    · exact w.gz b z
    · subst z; exact ⟨_, h, nt⟩
theorem Stp.more (s : Stp ρ0 σ0 H0 Z0 ρ σ H Z) {a : Addr} (h : H0 a = none) : Stp ρ0 σ0 H0 Z0 ρ σ H (fun b => Z b ∨ b = a) :=
  ⟨fun x z => .inl (s.mono x z), s.stay, s.same, fun x z => z.elim (s.zin x) fun e => .inr (.inl (by rw [e]; exact h)), s.oin⟩
/-- a value that nobody else holds is settled -/
theorem VR.settle {p : PV} {o : Bool} {v : V} (r : VR n H0 ρ σ H Z p o v) (w : Wd n ρ σ H Z) (s : Stp ρ0 σ0 H0 Z0 ρ σ H Z) :
    ∃ Z', Wd n ρ σ H Z' ∧ Stp ρ0 σ0 H0 Z0 ρ σ H Z' ∧ (∀ a, Z a → Z' a) ∧ RV n H Z' p v := by
  cases o with
  | false => exact ⟨Z, w, s, fun _ h => h, r⟩
  | true =>
    obtain ⟨a, e, h0, nz, no, ov⟩ := r
    obtain ⟨ob, h, nt⟩ := ov.there
    subst e
    exact ⟨_, w.more h nt no, s.more h0, fun _ h => .inl h, ov.frozen (fun _ z => .inl z) (.inr rfl)⟩

theorem OwnA.lt (w : Wd n ρ σ H Z) {i : Nat} {p : PV × Bool} (h : sget ρ i = some p) : i < ρ.length := sget_lt h
/-- a slot's value goes elsewhere -/
theorem Wd.freeze (w : Wd n ρ σ H Z) (s : Stp ρ0 σ0 H0 Z0 ρ σ H Z) {i : Nat} {p : PV} {o : Bool} (h : sget ρ i = some (p, o)) :
    ∃ Z' v, Wd n (sput ρ i (some (p, false))) σ H Z' ∧ Stp ρ0 σ0 H0 Z0 (sput ρ i (some (p, false))) σ H Z' ∧ Stp ρ σ H Z (sput ρ i (some (p, false))) σ H Z' ∧ (∀ a, Z a → Z' a) ∧ σ[i]? = some (some v) ∧ RV n H Z' p v := by
  have hl := sget_lt h
  have sg : ∀ j, sget (sput ρ i (some (p, false))) j = if i = j then some (p, false) else sget ρ j := fun j => sget_put' hl
  have ow : ∀ a, OwnA (sput ρ i (some (p, false))) σ a → OwnA ρ σ a := fun a ⟨j, q, e, z⟩ => by
    rw [sg] at e
    by_cases c : i = j
    · rw [if_pos c] at e; cases e
    · rw [if_neg c] at e; exact ⟨j, q, e, z⟩
  cases o with
  | false =>
    obtain ⟨v, hv, r⟩ := w.vis i p h
    have ee : ∀ j, sget (sput ρ i (some (p, false))) j = sget ρ j := fun j => by
      rw [sg]
      by_cases c : i = j
      · rw [if_pos c, ← c, h]
      · rw [if_neg c]
    have ow2 : ∀ a, OwnA ρ σ a → OwnA (sput ρ i (some (p, false))) σ a := fun a ⟨j, q, e, z⟩ => ⟨j, q, by rw [ee]; exact e, z⟩
    refine ⟨Z, v, ⟨w.len.trans sput_len.symm, fun j q e => w.vis j q (by rw [← ee]; exact e), fun j q e => w.own j q (by rw [← ee]; exact e), fun j k q r a e1 e2 => w.inj j k q r a (by rw [← ee]; exact e1) (by rw [← ee]; exact e2), w.gz⟩,
      ⟨s.mono, s.stay, s.same, s.zin, fun a z => s.oin a (ow a z)⟩, ⟨fun _ z => z, fun _ _ e _ _ => e, fun _ o e => ⟨o, e⟩, fun _ z => .inl z, fun a z => .inl (ow a z)⟩, fun _ z => z, hv, r⟩
  | true =>
    obtain ⟨a, hv, nz, r⟩ := w.own i p h
    obtain ⟨ob, hb, nt⟩ := r.there
    have hz : ∀ b, Z b → Z b ∨ b = a := fun b z => .inl z
    have rr : RV n H (fun b => Z b ∨ b = a) p (.ref a) := r.frozen hz (.inr rfl)
    refine ⟨fun b => Z b ∨ b = a, .ref a, ⟨w.len.trans sput_len.symm, fun j q e => ?_, fun j q e => ?_, fun j k q r x e1 e2 => ?_, fun b z => ?_⟩, ⟨fun x z => .inl (s.mono x z), s.stay, s.same, fun x z => ?_, fun x z => s.oin x (ow x z)⟩,
      ⟨fun _ z => .inl z, fun _ _ e _ _ => e, fun _ o e => ⟨o, e⟩, fun x z => ?_, fun x z => .inl (ow x z)⟩, hz, hv, rr⟩
    · rw [sg] at e
      by_cases c : i = j
      · rw [if_pos c] at e; cases e
        subst c
        exact ⟨_, hv, rr⟩
      · rw [if_neg c] at e
        obtain ⟨v, h1, h2⟩ := w.vis j q e
        exact ⟨v, h1, h2.mono hz fun _ _ => rfl⟩
    · rw [sg] at e
      by_cases c : i = j
      · rw [if_pos c] at e; cases e
      · rw [if_neg c] at e
        obtain ⟨b, h1, h2, h3⟩ := w.own j q e
        refine ⟨b, h1, fun z => ?_, h3.mono hz (fun _ _ => rfl) rfl⟩
        rcases z with z | z
        · exact h2 z
        · subst z
          exact c (w.inj i j p q b h e hv h1)
    · rw [sg] at e1 e2
      by_cases c : i = j
      · rw [if_pos c] at e1; cases e1
      · by_cases c2 : i = k
        · rw [if_pos c2] at e2; cases e2
        · rw [if_neg c] at e1
          rw [if_neg c2] at e2
          exact w.inj j k q r x e1 e2
    · rcases z with z | z
      · exact w.gz b z
      · subst z; exact ⟨_, hb, nt⟩
    · rcases z with z | z
      · exact s.zin x z
      · subst z
        rcases s.oin x ⟨i, p, h, hv⟩ with q | q
        · exact .inr (.inr q)
        · exact .inr (.inl q)
    · rcases z with z | z
      · exact .inl z
      · subst z
        exact .inr (.inr ⟨i, p, h, hv⟩)
/-- a value that is used up -/
theorem use_ok (w : Wd n ρ σ H Z) (s : Stp ρ0 σ0 H0 Z0 ρ σ H Z) {a : Ar} {v : V} (r : AR n H0 ρ σ H Z a v) {p : PV} {o : Bool} (h : use a ρ = .ok (p, o) ρ1) :
    ∃ Z', Wd n ρ1 σ H Z' ∧ Stp ρ0 σ0 H0 Z0 ρ1 σ H Z' ∧ Stp ρ σ H Z ρ1 σ H Z' ∧ VR n H0 ρ1 σ H Z' p o v := by
  cases a with
  | v q o' =>
    cases h
    exact ⟨Z, w, s, .refl, r⟩
  | sl i =>
    have h : (match sget ρ i with
      | some (p, _) => O.ok (p, false) (sput ρ i (some (p, false)))
      | none => .no) = O.ok (p, o) ρ1 := h
    cases e : sget ρ i with
    | none => rw [e] at h; cases h
    | some x =>
      obtain ⟨q, o'⟩ := x
      rw [e] at h
      cases h
      obtain ⟨Z', v', w', s', s2, _, hv, rr⟩ := w.freeze s e
      have r : σ[i]? = some (some v) := r
      rw [hv] at r; cases r
      exact ⟨Z', w', s', s2, rr⟩
/-- .. for good -/
theorem use_settled (w : Wd n ρ σ H Z) (s : Stp ρ0 σ0 H0 Z0 ρ σ H Z) {a : Ar} {v : V} (r : AR n H0 ρ σ H Z a v) {p : PV} {o : Bool} (h : use a ρ = .ok (p, o) ρ1) :
    ∃ Z', Wd n ρ1 σ H Z' ∧ Stp ρ0 σ0 H0 Z0 ρ1 σ H Z' ∧ RV n H Z' p v := by
  obtain ⟨Z1, w1, s1, _, r1⟩ := use_ok w s r h
  obtain ⟨Z2, w2, s2, _, r2⟩ := r1.settle w1 s1
  exact ⟨Z2, w2, s2, r2⟩
/-- a name is bound -/
theorem Wd.store (w : Wd n ρ σ H Z) (s : Stp ρ0 σ0 H0 Z0 ρ σ H Z) {i : Nat} (hi : i < ρ.length) {p : PV} {o : Bool} {v : V} (r : VR n H0 ρ σ H Z p o v) :
    Wd n (sput ρ i (some (p, o))) (σ.set i (some v)) H Z ∧ Stp ρ0 σ0 H0 Z0 (sput ρ i (some (p, o))) (σ.set i (some v)) H Z := by
  have sg : ∀ j, sget (sput ρ i (some (p, o))) j = if i = j then some (p, o) else sget ρ j := fun j => sget_put' hi
  have hs : i < σ.length := by rw [w.len]; exact hi
  have so : ∀ j, (σ.set i (some v))[j]? = if i = j then some (some v) else σ[j]? := fun j => by
    by_cases e : i = j
    · subst e; rw [List.getElem?_set_self hs, if_pos rfl]
    · rw [List.getElem?_set_ne e, if_neg e]
  have ow : ∀ a, OwnA (sput ρ i (some (p, o))) (σ.set i (some v)) a → OwnA ρ σ a ∨ (o = true ∧ v = .ref a) := fun a ⟨j, q, e, z⟩ => by
    rw [sg] at e
    rw [so] at z
    by_cases c : i = j
    · rw [if_pos c] at e z
      cases e
      cases z
      exact .inr ⟨rfl, rfl⟩
    · rw [if_neg c] at e z
      exact .inl ⟨j, q, e, z⟩
  have fr : ∀ a, o = true → v = .ref a → H0 a = none ∧ ¬ Z a ∧ ¬ OwnA ρ σ a ∧ OV n H Z p a := fun a e1 e2 => by
    subst e1
    obtain ⟨b, e3, q⟩ := r
    rw [e2] at e3; cases e3
    exact q
  refine ⟨⟨by rw [List.length_set, sput_len]; exact w.len, fun j q e => ?_, fun j q e => ?_, fun j k q r' a e1 e2 z1 z2 => ?_, w.gz⟩, ⟨s.mono, s.stay, s.same, s.zin, fun a z => ?_⟩⟩
  · rw [sg] at e
    rw [so]
    by_cases c : i = j
    · rw [if_pos c] at e ⊢
      cases e
      exact ⟨v, rfl, r⟩
    · rw [if_neg c] at e ⊢
      exact w.vis j q e
  · rw [sg] at e
    rw [so]
    by_cases c : i = j
    · rw [if_pos c] at e ⊢
      cases e
      obtain ⟨b, e3, _, q1, _, q2⟩ := r
      exact ⟨b, by rw [e3], q1, q2⟩
    · rw [if_neg c] at e ⊢
      exact w.own j q e
  · rw [sg] at e1 e2
    rw [so] at z1 z2
    by_cases c : i = j
    · by_cases c2 : i = k
      · exact c.symm.trans c2
      · rw [if_pos c] at e1 z1
        rw [if_neg c2] at e2 z2
        cases e1; cases z1
        exact absurd ⟨k, r', e2, z2⟩ (fr a rfl rfl).2.2.1
    · rw [if_neg c] at e1 z1
      by_cases c2 : i = k
      · rw [if_pos c2] at e2 z2
        cases e2; cases z2
        exact absurd ⟨j, q, e1, z1⟩ (fr a rfl rfl).2.2.1
      · rw [if_neg c2] at e2 z2
        exact w.inj j k q r' a e1 e2 z1 z2
  · rcases ow a z with z | ⟨z1, z2⟩
    · exact s.oin a z
    · exact .inr (fr a z1 z2).1
/-- a slot is emptied -/
theorem Wd.drop (w : Wd n ρ σ H Z) (s : Stp ρ0 σ0 H0 Z0 ρ σ H Z) (i : Nat) (x : Option V) (hx : x = none ∨ x = (σ[i]?).join) : Wd n (sput ρ i none) (σ.set i x) H Z ∧ Stp ρ0 σ0 H0 Z0 (sput ρ i none) (σ.set i x) H Z := by
  have key : ∀ j q, sget (sput ρ i none) j = some q → i ≠ j ∧ sget ρ j = some q := fun j q e => by
    rw [sget_put] at e
    by_cases c : i = j ∧ i < ρ.length
    · rw [if_pos c] at e; cases e
    · rw [if_neg c] at e
      refine ⟨fun c2 => c ⟨c2, ?_⟩, e⟩
      subst c2
      exact sget_lt e
  have so : ∀ j, i ≠ j → (σ.set i x)[j]? = σ[j]? := fun j e => List.getElem?_set_ne e
  refine ⟨⟨by rw [List.length_set, sput_len]; exact w.len, fun j q e => ?_, fun j q e => ?_, fun j k q r a e1 e2 z1 z2 => ?_, w.gz⟩, ⟨s.mono, s.stay, s.same, s.zin, fun a ⟨j, q, e, z⟩ => ?_⟩⟩
  · obtain ⟨c, e⟩ := key j _ e
    rw [so j c]; exact w.vis j q e
  · obtain ⟨c, e⟩ := key j _ e
    rw [so j c]; exact w.own j q e
  · obtain ⟨c, e1⟩ := key j _ e1
    obtain ⟨c2, e2⟩ := key k _ e2
    rw [so j c] at z1
    rw [so k c2] at z2
    exact w.inj j k q r a e1 e2 z1 z2
  · obtain ⟨c, e⟩ := key j _ e
    rw [so j c] at z
    exact s.oin a ⟨j, q, e, z⟩
/-- a new object -/
theorem Wd.lay (w : Wd n ρ σ H Z) (s : Stp ρ0 σ0 H0 Z0 ρ σ H Z) {a : Addr} (o : HO) (h : H a = none) : Wd n ρ σ (upd H a o) Z ∧ Stp ρ0 σ0 H0 Z0 ρ σ (upd H a o) Z ∧ ¬ Z a ∧ ¬ OwnA ρ σ a ∧ H0 a = none := by
  have st : ∀ b o', H b = some o' → upd H a o b = some o' := fun b o' e => by rw [upd_ne (ne_of_none e h)]; exact e
  have hz : ∀ b, Z b → upd H a o b = H b := fun b z => by
    obtain ⟨o', e, _⟩ := w.gz b z
    rw [e]; exact st b o' e
  have nz : ¬ Z a := fun z => by
    obtain ⟨o', e, _⟩ := w.gz a z
    rw [h] at e; cases e
  have no : ¬ OwnA ρ σ a := fun ⟨i, p, e, z⟩ => by
    obtain ⟨b, e2, _, ov⟩ := w.own i p e
    rw [z] at e2; cases e2
    obtain ⟨o', e3, _⟩ := ov.there
    rw [h] at e3; cases e3
  refine ⟨⟨w.len, fun i p e => ?_, fun i p e => ?_, w.inj, fun b z => ?_⟩, ⟨s.mono, fun b o' e t q => st b o' (s.stay b o' e t q), fun b o' e => ?_, s.zin, s.oin⟩, nz, no, s.back h⟩
  · obtain ⟨v, e1, r⟩ := w.vis i p e
    exact ⟨v, e1, r.mono (fun _ z => z) hz⟩
  · obtain ⟨b, e1, q, r⟩ := w.own i p e
    obtain ⟨o', e2, _⟩ := r.there
    exact ⟨b, e1, q, r.mono (fun _ z => z) hz (by rw [e2]; exact st b o' e2)⟩
  · obtain ⟨o', e, t⟩ := w.gz b z
    exact ⟨o', st b o' e, t⟩
  · obtain ⟨o2, e2⟩ := s.same b o' e
    exact ⟨o2, st b o2 e2⟩
/-- what a slot holds alone is changed -/
theorem Wd.change (w : Wd n ρ σ H Z) (s : Stp ρ0 σ0 H0 Z0 ρ σ H Z) {i : Nat} {p q : PV} {a : Addr} {o : HO} (h : sget ρ i = some (p, true)) (hs : σ[i]? = some (some (.ref a))) (hq : OV n (upd H a o) Z q a) :
    Wd n (sput ρ i (some (q, true))) σ (upd H a o) Z ∧ Stp ρ0 σ0 H0 Z0 (sput ρ i (some (q, true))) σ (upd H a o) Z ∧ Stp ρ σ H Z (sput ρ i (some (q, true))) σ (upd H a o) Z := by
  have hl := sget_lt h
  have sg : ∀ j, sget (sput ρ i (some (q, true))) j = if i = j then some (q, true) else sget ρ j := fun j => sget_put' hl
  obtain ⟨b, hv, nz, r⟩ := w.own i p h
  rw [hs] at hv; cases hv
  have oa : OwnA ρ σ a := ⟨i, p, h, hs⟩
  have st : ∀ b, b ≠ a → upd H a o b = H b := fun b e => upd_ne e
  have hz : ∀ b, Z b → upd H a o b = H b := fun b z => st b fun e => nz (e ▸ z)
  have ow : ∀ x, OwnA (sput ρ i (some (q, true))) σ x → OwnA ρ σ x := fun x ⟨j, p', e, z⟩ => by
    rw [sg] at e
    by_cases c : i = j
    · subst c
      rw [hs] at z; cases z
      exact oa
    · rw [if_neg c] at e
      exact ⟨j, p', e, z⟩
  have same : ∀ x u, H x = some u → ∃ o', upd H a o x = some o' := fun x u e => by
    by_cases c : x = a
    · subst c; exact ⟨o, upd_same⟩
    · exact ⟨u, by rw [st x c]; exact e⟩
  refine ⟨⟨w.len.trans sput_len.symm, fun j p' e => ?_, fun j p' e => ?_, fun j k p1 p2 x e1 e2 z1 z2 => ?_, fun x z => ?_⟩, ⟨s.mono, fun x o' e t ne => ?_, fun x o' e => ?_, s.zin, fun x z => s.oin x (ow x z)⟩, ⟨fun _ z => z, fun x o' e t ne => ?_, same, fun _ z => .inl z, fun x z => .inl (ow x z)⟩⟩
  · rw [sg] at e
    by_cases c : i = j
    · rw [if_pos c] at e; cases e
    · rw [if_neg c] at e
      obtain ⟨v, e1, r'⟩ := w.vis j p' e
      exact ⟨v, e1, r'.mono (fun _ z => z) hz⟩
  · rw [sg] at e
    by_cases c : i = j
    · rw [if_pos c] at e; cases e
      subst c
      exact ⟨a, hs, nz, hq⟩
    · rw [if_neg c] at e
      obtain ⟨b, e1, nb, r'⟩ := w.own j p' e
      have ne : b ≠ a := fun z => by
        subst z
        exact c (w.inj i j p p' b h e hs e1)
      exact ⟨b, e1, nb, r'.mono (fun _ z => z) hz (st b ne)⟩
  · have up : ∀ j p', sget (sput ρ i (some (q, true))) j = some (p', true) → ∃ p'', sget ρ j = some (p'', true) := fun j p' e => by
      rw [sg] at e
      by_cases c : i = j
      · subst c; exact ⟨p, h⟩
      · rw [if_neg c] at e; exact ⟨p', e⟩
    obtain ⟨p1', e1⟩ := up j p1 e1
    obtain ⟨p2', e2⟩ := up k p2 e2
    exact w.inj j k p1' p2' x e1 e2 z1 z2
  · rw [hz x z]
    exact w.gz x z
  · by_cases c : x = a
    · subst c
      rcases s.oin x oa with z | z
      · exact absurd z ne
      · rw [z] at e; cases e
    · rw [st x c]
      exact s.stay x o' e t ne
  · obtain ⟨u, e'⟩ := s.same x o' e
    exact same x u e'
  · by_cases c : x = a
    · subst c
      exact absurd oa ne
    · rw [st x c]; exact e
end
end Ev

set_option Elab.async false
set_option linter.all false
set_option maxRecDepth 100000
/-! The evaluator's operations over the layer's rules. -/
namespace Ev
open PySem PySem.Spec PyProof.Rows L2

theorem SZ : sizeLine = 16777216 := sizeLine_eq

/-! ### plain data are the library's -/
mutual
def toD : PV → PyData
  | .non => .none | .bl b => .bool b | .int i => .int i | .str x => .str (strV x)
  | .tup l => .tuple (toDs l) | .lst l => .list (toDs l)
  | .dct _ => .none | .ins _ _ => .none | .lam _ => .none
def toDs : List PV → List PyData
  | [] => []
  | a :: r => toD a :: toDs r
end
section
variable {n : En} {H : Hp} {Z : Addr → Prop}
theorem KTup.sq {K : PySem.W.Frag} {a : Addr} {vs : List V} (k : KTup K a vs) : SqT K H a vs := .inr k
mutual
theorem RV.dp : ∀ {p : PV} {v : V} {k : Nat}, RV n H Z p v → pl p k = true → Dp n.K H v (toD p)
  | _, _, _, .non, _ => .non
  | _, _, _, .bl b, _ => .bl b
  | _, _, _, .int i, _ => .int i
  | _, _, _, .str x, _ => .str _
  | _, _, 0, .tup z r l, h => by cases (show false = true from h)
  | _, _, k + 1, .tup z r l, h => .tup (.inl r) (RVs.dp l (show pls _ k = true from h))
  | _, _, 0, .tupK r l, h => by cases (show false = true from h)
  | _, _, k + 1, .tupK r l, h => .tup (.inr r) (RVs.dp l (show pls _ k = true from h))
  | _, _, 0, .lst z r l, h => by cases (show false = true from h)
  | _, _, k + 1, .lst z r l, h => .lst (.inl r) (RVs.dp l (show pls _ k = true from h))
  | _, _, _, .ins z r l, h => by cases (show false = true from h)
  | _, _, _, .dct z r l, h => by cases (show false = true from h)
theorem RVs.dp : ∀ {p : List PV} {v : List V} {k : Nat}, RVs n H Z p v → pls p k = true → DpAll n.K H v (toDs p)
  | _, _, _, .nil, _ => .nil
  | _, _, k, .cons h t, e => by
    rename_i p l v vs
    have e : (pl p k && pls l k) = true := e
    rw [Bool.and_eq_true] at e
    exact .cons (RV.dp h e.1) (RVs.dp t e.2)
end
theorem RD.dp {p : PV} {v : V} (r : RD n H Z p v) (h : plain p = true) : Dp n.K H v (toD p) := by
  rcases r with r | ⟨a, e, r⟩
  · exact r.dp h
  · subst e
    cases r with
    | lst e l => exact .lst (.inl (.of e)) (RVs.dp l (show pls _ 63 = true from h))
    | ins e l => cases (show false = true from h)
    | dct e l => cases (show false = true from h)
end
mutual
theorem eqv_toD : ∀ (p q : PV) (k j : Nat), pl p k = true → pl q j = true → PyData.eqv (toD p) (toD q) = eqv p q
  | .non, q, k, j, h, h' => by cases q <;> first | rfl | cases (show false = true from h')
  | .bl b, q, k, j, h, h' => by
    cases q with
    | bl c => rfl
    | int i =>
      show ((if b then 1 else 0) == i) = decide (b2i b = i)
      unfold b2i
      cases b <;> (rw [Bool.eq_iff_iff]; simp)
    | _ => first | rfl | cases (show false = true from h')
  | .int i, q, k, j, h, h' => by
    cases q with
    | bl b =>
      show (i == (if b then 1 else 0)) = decide (i = b2i b)
      unfold b2i
      cases b <;> (rw [Bool.eq_iff_iff]; simp)
    | int c =>
      show (i == c) = decide (i = c)
      rw [Bool.eq_iff_iff]; simp
    | _ => first | rfl | cases (show false = true from h')
  | .str x, q, k, j, h, h' => by
    cases q with
    | str y =>
      show (strV x == strV y) = decide (x = y)
      rw [Bool.eq_iff_iff, beq_iff_eq, decide_eq_true_eq]
      unfold strV
      simp
    | _ => first | rfl | cases (show false = true from h')
  | .tup l, q, 0, j, h, h' => by cases (show false = true from h)
  | .tup l, q, k + 1, j, h, h' => by
    cases q with
    | tup m =>
      cases j with
      | zero => cases (show false = true from h')
      | succ j => exact eqvs_toD l m k j h h'
    | _ => first | rfl | cases (show false = true from h')
  | .lst l, q, 0, j, h, h' => by cases (show false = true from h)
  | .lst l, q, k + 1, j, h, h' => by
    cases q with
    | lst m =>
      cases j with
      | zero => cases (show false = true from h')
      | succ j => exact eqvs_toD l m k j h h'
    | _ => first | rfl | cases (show false = true from h')
  | .dct _, _, _, _, h, _ => by cases (show false = true from h)
  | .ins _ _, _, _, _, h, _ => by cases (show false = true from h)
  | .lam _, _, _, _, h, _ => by cases (show false = true from h)
theorem eqvs_toD : ∀ (p q : List PV) (k j : Nat), pls p k = true → pls q j = true → PyData.eqvAll (toDs p) (toDs q) = eqvs p q
  | [], [], _, _, _, _ => rfl
  | [], _ :: _, _, _, _, _ => rfl
  | _ :: _, [], _, _, _, _ => rfl
  | a :: r, b :: t, k, j, h, h' => by
    have h : (pl a k && pls r k) = true := h
    have h' : (pl b j && pls t j) = true := h'
    rw [Bool.and_eq_true] at h h'
    show (PyData.eqv (toD a) (toD b) && PyData.eqvAll (toDs r) (toDs t)) = (eqv a b && eqvs r t)
    rw [eqv_toD a b k j h.1 h'.1, eqvs_toD r t k j h.2 h'.2]
end
mutual
theorem lay_toD : ∀ (p : PV) (k : Nat), pl p k = true → (toD p).canLay0 = true ∧ (toD p).depth ≤ k
  | .non, _, _ => ⟨rfl, Nat.zero_le _⟩
  | .bl _, _, _ => ⟨rfl, Nat.zero_le _⟩
  | .int _, _, _ => ⟨rfl, Nat.zero_le _⟩
  | .str x, _, h => ⟨by
      have h : x.all (· < 1114112) = true := h
      show PyData.strOk (strV x) = true
      unfold PyData.strOk strV
      rw [List.all_toArray]
      exact h, Nat.zero_le _⟩
  | .tup l, 0, h => by cases (show false = true from h)
  | .tup l, k + 1, h => by
    obtain ⟨a, b⟩ := lays_toD l k h
    exact ⟨a, Nat.succ_le_succ b⟩
  | .lst l, 0, h => by cases (show false = true from h)
  | .lst l, k + 1, h => by
    obtain ⟨a, b⟩ := lays_toD l k h
    exact ⟨a, Nat.succ_le_succ b⟩
  | .dct _, _, h => by cases (show false = true from h)
  | .ins _ _, _, h => by cases (show false = true from h)
  | .lam _, _, h => by cases (show false = true from h)
theorem lays_toD : ∀ (p : List PV) (k : Nat), pls p k = true → PyData.canLayAll0 (toDs p) = true ∧ PyData.depthAll (toDs p) ≤ k
  | [], _, _ => ⟨rfl, Nat.zero_le _⟩
  | a :: r, k, h => by
    have h : (pl a k && pls r k) = true := h
    rw [Bool.and_eq_true] at h
    obtain ⟨h1, h2⟩ := lay_toD a k h.1
    obtain ⟨h3, h4⟩ := lays_toD r k h.2
    refine ⟨?_, Nat.max_le.mpr ⟨h2, h4⟩⟩
    show ((toD a).canLay0 && PyData.canLayAll0 (toDs r)) = true
    rw [h1, h3]; rfl
end
theorem shaped_toD {p : PV} (h : plain p = true) : SeqAt.shaped (toD p) = true := by
  obtain ⟨a, b⟩ := lay_toD p 64 h
  unfold SeqAt.shaped
  rw [a, decide_eq_true b]; rfl

/-! ### what is read -/
section
variable {n : En} {H : Hp} {Z : Addr → Prop} {v : V}
theorem RD.int {i : Int} (r : RD n H Z (.int i) v) : v = .int i := by
  rcases r with r | ⟨a, e, r⟩
  · cases r; rfl
  · cases r
theorem RD.bl {i : Bool} (r : RD n H Z (.bl i) v) : v = .bl i := by
  rcases r with r | ⟨a, e, r⟩
  · cases r; rfl
  · cases r
theorem RD.non (r : RD n H Z .non v) : v = .non := by
  rcases r with r | ⟨a, e, r⟩
  · cases r; rfl
  · cases r
theorem RD.str {i : List Nat} (r : RD n H Z (.str i) v) : v = .str (strV i) := by
  rcases r with r | ⟨a, e, r⟩
  · cases r; rfl
  · cases r
theorem RD.lst {l : List PV} (r : RD n H Z (.lst l) v) : ∃ a vs, v = .ref a ∧ Rd H a (.lst vs) ∧ RVs n H Z l vs := by
  rcases r with r | ⟨a, e, r⟩
  · cases r with
    | lst z r l => exact ⟨_, _, rfl, r, l⟩
  · subst e
    cases r with
    | lst r l => exact ⟨_, _, rfl, .of r, l⟩
theorem RD.tup {l : List PV} (r : RD n H Z (.tup l) v) : ∃ a vs, v = .ref a ∧ SqT n.K H a vs ∧ RVs n H Z l vs := by
  rcases r with r | ⟨a, e, r⟩
  · cases r with
    | tup z r l => exact ⟨_, _, rfl, .inl r, l⟩
    | tupK r l => exact ⟨_, _, rfl, .inr r, l⟩
  · cases r
theorem RD.ins {c : Nat} {l : List (Nat × PV)} (r : RD n H Z (.ins c l) v) : ∃ a dx fs, v = .ref a ∧ H a = some (.ins (n.cA c) dx fs) ∧ RFs n H Z l fs := by
  rcases r with r | ⟨a, e, r⟩
  · cases r with
    | ins z r l => exact ⟨_, _, _, rfl, r, l⟩
  · subst e
    cases r with
    | ins r l => exact ⟨_, _, _, rfl, r, l⟩
theorem RD.tupV {l : List PV} (r : RD n H Z (.tup l) v) : RV n H Z (.tup l) v := by
  rcases r with r | ⟨a, e, r⟩
  · exact r
  · cases r
theorem RVs.len {l : List PV} {vs : List V} (r : RVs n H Z l vs) : vs.length = l.length := by
  induction l generalizing vs with
  | nil => cases r; rfl
  | cons a l ih =>
    cases r with
    | cons h t => rw [List.length_cons, List.length_cons, ih t]
theorem RVs.get {l : List PV} {vs : List V} (r : RVs n H Z l vs) : ∀ {i : Nat} {p : PV}, l[i]? = some p → ∃ v, vs[i]? = some v ∧ RV n H Z p v := by
  induction l generalizing vs with
  | nil => intro i p h; simp at h
  | cons a l ih =>
    intro i p h
    cases r with
    | cons h1 t =>
      cases i with
      | zero => simp at h; subst h; exact ⟨_, rfl, h1⟩
      | succ i =>
        obtain ⟨v, e, q⟩ := ih t (i := i) (p := p) (by simpa using h)
        exact ⟨v, by simpa using e, q⟩
theorem RVs.getV {l : List PV} {vs : List V} (r : RVs n H Z l vs) : ∀ {i : Nat} {v : V}, vs[i]? = some v → ∃ p, l[i]? = some p ∧ RV n H Z p v := fun {i v} h => by
  have hl : i < l.length := by rw [← r.len]; exact (List.getElem?_eq_some_iff.mp h).1
  obtain ⟨v', e, q⟩ := r.get (List.getElem?_eq_getElem hl)
  rw [h] at e; cases e
  exact ⟨_, List.getElem?_eq_getElem hl, q⟩
theorem RVs.append {l k : List PV} {vs ws : List V} (r : RVs n H Z l vs) (q : RVs n H Z k ws) : RVs n H Z (l ++ k) (vs ++ ws) := by
  induction l generalizing vs with
  | nil => cases r; exact q
  | cons a l ih =>
    cases r with
    | cons h t => exact .cons h (ih t)
theorem RVs.take {l : List PV} {vs : List V} (r : RVs n H Z l vs) : ∀ k, RVs n H Z (l.take k) (vs.take k) := by
  induction l generalizing vs with
  | nil => cases r; intro k; simp; exact .nil
  | cons a l ih =>
    cases r with
    | cons h t =>
      intro k
      cases k with
      | zero => exact .nil
      | succ k => exact .cons h (ih t k)
theorem RVs.drop {l : List PV} {vs : List V} (r : RVs n H Z l vs) : ∀ k, RVs n H Z (l.drop k) (vs.drop k) := by
  induction l generalizing vs with
  | nil => cases r; intro k; simp; exact .nil
  | cons a l ih =>
    cases r with
    | cons h t =>
      intro k
      cases k with
      | zero => exact .cons h t
      | succ k => exact ih t k
theorem RVs.set {l : List PV} {vs : List V} (r : RVs n H Z l vs) {p : PV} {v : V} (q : RV n H Z p v) : ∀ k, RVs n H Z (l.set k p) (vs.set k v) := by
  induction l generalizing vs with
  | nil => cases r; intro k; exact .nil
  | cons a l ih =>
    cases r with
    | cons h t =>
      intro k
      cases k with
      | zero => exact .cons q t
      | succ k => exact .cons h (ih t k)
theorem RVs.cut {l : List PV} {vs : List V} (r : RVs n H Z l vs) (lo hi : Option Int) : RVs n H Z (cutA l lo hi) (cutV vs lo hi) := by
  unfold cutA cutV
  rw [r.len]
  exact (r.drop _).take _
theorem RVs.rep {l : List PV} {vs : List V} (r : RVs n H Z l vs) : ∀ k : Nat, RVs n H Z (List.replicate k l).flatten (List.replicate k vs).flatten
  | 0 => .nil
  | k + 1 => by
    rw [List.replicate_succ, List.replicate_succ, List.flatten_cons, List.flatten_cons]
    exact r.append (RVs.rep r k)
theorem RVs.ints {l : List PV} {vs : List V} (r : RVs n H Z l vs) : ∀ {ns : List Int}, ints? l = some ns → vs = ns.map V.int := by
  induction l generalizing vs with
  | nil => intro ns h; cases r; cases h; rfl
  | cons a l ih =>
    intro ns h
    cases r with
    | cons h1 t =>
      cases a with
      | int i =>
        have h : (ints? l).map (i :: ·) = some ns := h
        cases e : ints? l with
        | none => rw [e] at h; cases h
        | some m =>
          rw [e] at h; cases h
          cases h1
          rw [ih t e]; rfl
      | _ => cases h
theorem RVs.bls {l : List PV} {vs : List V} (r : RVs n H Z l vs) : ∀ {ns : List Bool}, bls? l = some ns → vs = ns.map V.bl := by
  induction l generalizing vs with
  | nil => intro ns h; cases r; cases h; rfl
  | cons a l ih =>
    intro ns h
    cases r with
    | cons h1 t =>
      cases a with
      | bl i =>
        have h : (bls? l).map (i :: ·) = some ns := h
        cases e : bls? l with
        | none => rw [e] at h; cases h
        | some m =>
          rw [e] at h; cases h
          cases h1
          rw [ih t e]; rfl
      | _ => cases h
theorem RVs.strs {l : List PV} {vs : List V} (r : RVs n H Z l vs) : ∀ {ns : List (List Nat)}, strs? l = some ns → vs = (ns.map strV).map V.str := by
  induction l generalizing vs with
  | nil => intro ns h; cases r; cases h; rfl
  | cons a l ih =>
    intro ns h
    cases r with
    | cons h1 t =>
      cases a with
      | str i =>
        have h : (strs? l).map (i :: ·) = some ns := h
        cases e : strs? l with
        | none => rw [e] at h; cases h
        | some m =>
          rw [e] at h; cases h
          cases h1
          rw [ih t e]; rfl
      | _ => cases h
theorem RVs.ofInts : ∀ ns : List Int, RVs n H Z (ns.map .int) (ns.map V.int)
  | [] => .nil
  | i :: r => .cons (.int i) (RVs.ofInts r)
theorem RVs.ofStrs : ∀ ns : List (List Nat), RVs n H Z (ns.map .str) ((ns.map strV).map V.str)
  | [] => .nil
  | i :: r => .cons (.str i) (RVs.ofStrs r)
end
end Ev

set_option Elab.async false
set_option linter.all false
set_option maxRecDepth 100000
/-! The evaluator's operations over the layer's rules. -/
namespace Ev
open PySem PySem.Spec PyProof.Rows L2

/-- what is wanted of a value that an operation gives -/
def QV (n : En) (ρ : Sl) (σ : SG) (H : Hp) (Z : Addr → Prop) (p : PV) (o : Bool) : VK := fun v H' => ∃ Z', Wd n ρ σ H' Z' ∧ Stp ρ σ H Z ρ σ H' Z' ∧ VR n H ρ σ H' Z' p o v
section
variable {X : Cx} {n : En} {pins : List (Addr × Obj)} {s : Shared} {τ : SG} {ρ : Sl} {σ : SG} {H : Hp} {Z : Addr → Prop}
theorem qv_val (w : Wd n ρ σ H Z) {p : PV} {v : V} (r : RV n H Z p v) : QV n ρ σ H Z p false v H := ⟨Z, w, .refl, r⟩
theorem qv_lst (w : Wd n ρ σ H Z) {l : List PV} {vs : List V} (r : RVs n H Z l vs) : ∀ p, H p = none → QV n ρ σ H Z (.lst l) true (.ref p) (upd H p (.lst vs)) := fun p hp => by
  obtain ⟨w1, s1, nz, no, _⟩ := w.lay (Stp.refl) (.lst vs) hp
  exact ⟨Z, w1, s1, p, rfl, hp, nz, no, .lst upd_same (r.step w s1)⟩
theorem qv_tup (w : Wd n ρ σ H Z) {l : List PV} {vs : List V} (r : RVs n H Z l vs) : ∀ p, H p = none → QV n ρ σ H Z (.tup l) false (.ref p) (upd H p (.tup vs)) := fun p hp => by
  obtain ⟨w1, s1, nz, no, _⟩ := w.lay (Stp.refl) (.tup vs) hp
  have w2 := w1.more (o := .tup vs) upd_same NT.tup no
  exact ⟨_, w2, s1.more hp, .tup (.inr rfl) (.of upd_same) ((r.step w s1).mono (fun _ z => .inl z) fun _ _ => rfl)⟩

/-- an operation on two values -/
def Op2 (X : Cx) (n : En) (f : Value → Value → Sem Value) (k : PV → PV → Option (PV × Bool)) : Prop :=
  ∀ (pins : List (Addr × Obj)) (s : Shared) (τ : SG) (ρ : Sl) (σ : SG) (H : Hp) (Z : Addr → Prop) (p q : PV) (x y : V) (u v : Value) (r : PV) (o : Bool), Inv X pins τ H s → Wd n ρ σ H Z → RD n H Z p x → RD n H Z q y → RelV x u → RelV y v → k p q = some (r, o) →
    wpAny (model X.prog X.w) X.A (f u v) (EP X pins τ (QV n ρ σ H Z r o)) X.xe s
variable {f : Value → Value → Sem Value}
theorem op2_int {C : Int → Int → Prop} {h : Int → Int → Int} {k : Int → Int → Option PV} (ho : OpR X f (rI C fun i j => .int (h i j))) (hk : ∀ i j r, k i j = some r → C i j ∧ r = .int (h i j)) : Op2 X n f (int2 k) := by
  intro pins s τ ρ σ H Z p q x y u v r o I w rp rq ru rv e
  unfold int2 at e
  split at e
  · rename_i i j
    cases ek : k i j with
    | none => rw [ek] at e; cases e
    | some z =>
      rw [ek] at e; cases e
      obtain ⟨hc, rfl⟩ := hk i j _ ek
      exact ho pins s τ H x y u v _ I ru rv ⟨i, j, rp.int, rq.int, hc, qv_val w (.int _)⟩
  · cases e
theorem op2_int0 {h : Int → Int → Int} {k : Int → Int → Option PV} (ho : OpR X f (rI0 fun i j => .int (h i j))) (hk : ∀ i j r, k i j = some r → r = .int (h i j)) : Op2 X n f (int2 k) := by
  intro pins s τ ρ σ H Z p q x y u v r o I w rp rq ru rv e
  unfold int2 at e
  split at e
  · rename_i i j
    cases ek : k i j with
    | none => rw [ek] at e; cases e
    | some z =>
      rw [ek] at e; cases e
      obtain rfl := hk i j _ ek
      exact ho pins s τ H x y u v _ I ru rv ⟨i, j, rp.int, rq.int, qv_val w (.int _)⟩
  · cases e
theorem op2_cmp {h : Int → Int → Bool} (ho : OpR X f (rI0 fun i j => .bl (h i j))) : Op2 X n f (cmpV h) := by
  intro pins s τ ρ σ H Z p q x y u v r o I w rp rq ru rv e
  unfold cmpV at e
  split at e
  · cases e
    exact ho pins s τ H x y u v _ I ru rv ⟨_, _, rp.int, rq.int, qv_val w (.bl _)⟩
  · cases e
theorem o_sub : Op2 X n (binaryOp .Sub) (int2 fun a b => some (.int (a - b))) := op2_int0 op_sub fun _ _ _ h => (Option.some.inj h).symm
theorem o_fdiv : Op2 X n (binaryOp .FloorDiv) (int2 fun a b => if 0 < b ∧ b < 1073741824 then some (.int (a / b)) else none) := op2_int op_fdiv fun i j r h => by
  split at h
  · rename_i c; exact ⟨c, (Option.some.inj h).symm⟩
  · cases h
theorem o_mod : Op2 X n (binaryOp .Mod) (int2 fun a b => if 0 < b then some (.int (a % b)) else none) := op2_int op_mod fun i j r h => by
  split at h
  · rename_i c; exact ⟨c, (Option.some.inj h).symm⟩
  · cases h
theorem o_pow : Op2 X n (binaryOp .Pow) (int2 fun a b => if 0 ≤ b ∧ b ≤ 1000000 ∧ a.natAbs < 2 ^ 64 then some (.int (a ^ b.toNat)) else none) := op2_int op_pow fun i j r h => by
  split at h
  · rename_i c; exact ⟨c, (Option.some.inj h).symm⟩
  · cases h
theorem op_catR : OpR X (binaryOp .Add) (fun x y H Q => ∃ l b xs zs, x = .ref l ∧ y = .ref b ∧ Rd H l (.lst xs) ∧ Rd H b (.lst zs) ∧ xs.length + zs.length ≤ sizeLine ∧ ∀ p, H p = none → Q (.ref p) (upd H p (.lst (xs ++ zs)))) := by
  intro pins s σ H x y v u Q I rx ry h
  obtain ⟨l, b, xs, zs, rfl, rfl, hH, hB, hz, q⟩ := h
  cases rx
  cases ry
  obtain ⟨z, its, n1, r, e⟩ := hH.ok I.hok
  obtain ⟨z2, its2, n2, r2, e2⟩ := hB.ok I.hok
  have hl := r.length
  have hl2 := r2.length
  refine PySem.P.add_list e e2 ?_ (by rw [List.size_toArray, List.size_toArray]; omega)
  have ea : its.toArray ++ its2.toArray = (its ++ its2).toArray := by simp
  rw [ea]
  exact ⟨.ref _, _, I.lnew (t' := s.toks) (r.append r2) (by rw [List.length_append]; omega), rfl, q _ I.fresh⟩
theorem op_repR : OpR X (binaryOp .Mult) (fun x y H Q => ∃ l k xs, x = .ref l ∧ y = .int k ∧ Rd H l (.lst xs) ∧ -(2 ^ 63) ≤ k ∧ k < 2 ^ 63 ∧ xs.length * k.toNat ≤ sizeLine ∧
  ∀ p, H p = none → Q (.ref p) (upd H p (.lst (List.replicate k.toNat xs).flatten))) := by
  intro pins s σ H x y v u Q I rx ry h
  obtain ⟨l, k, xs, rfl, rfl, hH, h1, h2, hz, q⟩ := h
  cases rx
  obtain ⟨t, rfl⟩ := ry
  obtain ⟨z, its, n1, r, e⟩ := hH.ok I.hok
  have hl := r.length
  have hlen : its.toArray.size * k.toNat ≤ sizeLine := by rw [List.size_toArray, ← hl]; exact hz
  have hcap : ¬ its.toArray.size * k.toNat > (2 ^ 63 - 1) / 8 := by
    have : (sizeLine : Nat) ≤ (2 ^ 63 - 1) / 8 := by decide
    omega
  have hfit : ¬ (!Builtin.List.listFitsIndex k) = true := by
    rw [fitsIndex_both h1 h2]
    exact Bool.false_ne_true
  have hlong : ¬ Builtin.List.listTooLong (its.toArray.size * k.toNat) = true := by
    rw [notLongL hlen]
    exact Bool.false_ne_true
  have hnew : List.foldl (fun x1 x2 => x1 ++ x2) #[] (List.replicate (if its.toArray.isEmpty = true then 0 else k.toNat) its.toArray) = (List.replicate k.toNat its).flatten.toArray := by
    have f0 : ∀ m : Nat, List.foldl (fun x1 x2 => x1 ++ x2) #[] (List.replicate m its.toArray) = (List.replicate m its).flatten.toArray := fun m => by
      have := foldl_rep its m []
      rw [List.nil_append] at this
      exact this
    rw [f0]
    cases its with
    | nil => simp
    | cons a r' => rw [if_neg (by simp)]
  refine wpAny_binaryOp_repeat_ref (T := "list") (U := "int") (by decide) ⟨_, e, rfl⟩ (fun s' => typeIs_int s' k t) noFill_list_mul F.fills_int_mul F.slot_int_rmul repeat_list F.slot_int_index.lookup
    (call_meets F.slot_int_rmul (typeIs_int s k t) F.entry_int_rmul (F.args_int_rmul_2 _ _) (int___rmul___int_list k t l its.toArray n1)
      ⟨e, rfl, ⟨_, e, rfl⟩, call_meets F.slot_list_mul ⟨_, e, rfl⟩ F.entry_list_mul (F.args_list_mul_2 _ _) (AutoListH.list___mul___list_int_3 l its.toArray n1 k t hfit hcap hlong) ⟨e, ?_⟩⟩)
  rw [hnew]
  exact ⟨.ref _, _, I.lnew (t' := s.toks) (r.rep k.toNat) (by rw [PyProof.Rows.lm_len_rep_flat, Nat.mul_comm]; exact hz), rfl, q _ I.fresh⟩
theorem strV_append (a b : List Nat) : strV a ++ strV b = strV (a ++ b) := by
  unfold strV
  first
    | rfl
    | (show (⟨a.toArray ++ b.toArray⟩ : Str) = ⟨(a ++ b).toArray⟩; simp)
theorem strV_length (a : List Nat) : (strV a).length = a.length := by
  first
    | rfl
    | (show a.toArray.size = a.length; simp)
theorem o_add (hn : n.K = X.K) : Op2 X n (binaryOp .Add) addV := by
  intro pins s τ ρ σ H Z p q x y u v r o I w rp rq ru rv e
  unfold addV at e
  split at e
  · cases e
    exact op_add pins s τ H x y u v _ I ru rv ⟨_, _, rp.int, rq.int, qv_val w (.int _)⟩
  · rename_i a b
    split at e
    · rename_i hz
      cases e
      refine op_add_str pins s τ H x y u v _ I ru rv ⟨_, _, rp.str, rq.str, by rw [strV_length, strV_length, SZ]; exact hz, ?_⟩
      rw [strV_append]
      exact qv_val w (.str _)
    · cases e
  · split at e
    · rename_i a b hz
      cases e
      obtain ⟨c, vs, e1, r1, l1⟩ := rp.lst
      obtain ⟨d, ws, e2, r2, l2⟩ := rq.lst
      exact op_catR pins s τ H x y u v _ I ru rv ⟨c, d, vs, ws, e1, e2, r1, r2, by rw [l1.len, l2.len, SZ]; exact hz, qv_lst w (l1.append l2)⟩
    · cases e
  · split at e
    · rename_i a b hz
      cases e
      obtain ⟨c, vs, e1, r1, l1⟩ := rp.tup
      obtain ⟨d, ws, e2, r2, l2⟩ := rq.tup
      refine op_catA pins s τ H x y u v _ I ru rv ⟨c, d, vs, ws, e1, e2, hn ▸ r1, hn ▸ r2, by rw [l1.len, l2.len, SZ]; exact hz, fun z => ?_, fun _ z => ?_, fun _ _ => qv_tup w (l1.append l2)⟩
      · subst z; cases l1
        rw [← e2]
        exact qv_val w rq.tupV
      · subst z; cases l2
        rw [List.append_nil, ← e1]
        exact qv_val w rp.tupV
    · cases e
  · cases e
theorem o_mul : Op2 X n (binaryOp .Mult) mulV := by
  intro pins s τ ρ σ H Z p q x y u v r o I w rp rq ru rv e
  unfold mulV at e
  split at e
  · split at e
    · rename_i hz
      cases e
      exact op_mul pins s τ H x y u v _ I ru rv ⟨_, _, rp.int, rq.int, hz, qv_val w (.int _)⟩
    · cases e
  · split at e
    · rename_i l k hz
      cases e
      obtain ⟨c, vs, e1, r1, l1⟩ := rp.lst
      exact op_repR pins s τ H x y u v _ I ru rv ⟨c, k, vs, e1, rq.int, r1, hz.1, hz.2.1, by rw [l1.len, SZ]; exact hz.2.2, qv_lst w (l1.rep _)⟩
    · cases e
  · cases e
theorem o_eq (hn : n.K = X.K) (hu : X.A.units + 64 < cLine) : Op2 X n (compareOp .Eq) (eqV2 false) := by
  intro pins s τ ρ σ H Z p q x y u v r o I w rp rq ru rv e
  unfold eqV2 at e
  split at e
  · rename_i hz
    rw [Bool.and_eq_true] at hz
    cases e
    refine op_eqD hu pins s τ H x y u v _ I ru rv ⟨toD p, toD q, hn ▸ rp.dp hz.1, hn ▸ rq.dp hz.2, shaped_toD hz.1, shaped_toD hz.2, ?_⟩
    rw [eqv_toD p q 64 64 hz.1 hz.2]
    exact qv_val w (.bl _)
  · cases e
theorem o_ne (hn : n.K = X.K) (hu : X.A.units + 64 < cLine) : Op2 X n (compareOp .NotEq) (eqV2 true) := by
  intro pins s τ ρ σ H Z p q x y u v r o I w rp rq ru rv e
  unfold eqV2 at e
  split at e
  · rename_i hz
    rw [Bool.and_eq_true] at hz
    cases e
    refine op_neD hu pins s τ H x y u v _ I ru rv ⟨toD p, toD q, hn ▸ rp.dp hz.1, hn ▸ rq.dp hz.2, shaped_toD hz.1, shaped_toD hz.2, ?_⟩
    rw [eqv_toD p q 64 64 hz.1 hz.2]
    exact qv_val w (.bl _)
  · cases e
theorem o_memL (hn : n.K = X.K) (hu : X.A.units + 65 < cLine) (neg : Bool) : Op2 X n (compareOp (if neg then .NotIn else .In)) (fun x l => match l with | .lst l => memV neg x (.lst l) | .tup l => memV neg x (.tup l) | _ => none) := by
  intro pins s τ ρ σ H Z p q x y u v r o I w rp rq ru rv e
  dsimp only at e
  split at e
  · rename_i l
    have e : (if plain p && plains l then some (PV.bl (if neg then !(l.any fun z => eqv z p) else l.any fun z => eqv z p), false) else none) = some (r, o) := e
    split at e
    · rename_i hz
      rw [Bool.and_eq_true] at hz
      have hl : plain (.lst l) = true := hz.2
      have ee : ((toDs l).any fun z => PyData.eqv z (toD p)) = l.any fun z => eqv z p := by
        have hz2 : pls l 63 = true := hz.2
        generalize 63 = k at hz2
        clear hl e rq
        induction l with
        | nil => rfl
        | cons a l ih =>
          have hz2 : (pl a k && pls l k) = true := hz2
          rw [Bool.and_eq_true] at hz2
          show (PyData.eqv (toD a) (toD p) || (toDs l).any fun z => PyData.eqv z (toD p)) = (eqv a p || l.any fun z => eqv z p)
          rw [eqv_toD a p k 64 hz2.1 hz.1]
          congr 1
          have key : ∀ l : List PV, pls l k = true → ((toDs l).any fun z => PyData.eqv z (toD p)) = l.any fun z => eqv z p := by
            intro l
            induction l with
            | nil => intro _; rfl
            | cons a l ih =>
              intro h
              have h : (pl a k && pls l k) = true := h
              rw [Bool.and_eq_true] at h
              show (PyData.eqv (toD a) (toD p) || (toDs l).any fun z => PyData.eqv z (toD p)) = (eqv a p || l.any fun z => eqv z p)
              rw [eqv_toD a p k 64 h.1 hz.1, ih h.2]
          exact key l hz2.2
      have hd := rq.dp hl
      cases neg with
      | false =>
        cases e
        refine op_inD hu pins s τ H x y u v _ I ru rv ⟨toD p, toDs l, hn ▸ rp.dp hz.1, hn ▸ hd, shaped_toD hz.1, shaped_toD hl, ?_⟩
        rw [ee]
        exact qv_val w (.bl _)
      | true =>
        cases e
        refine op_notInD hu pins s τ H x y u v _ I ru rv ⟨toD p, toDs l, hn ▸ rp.dp hz.1, hn ▸ hd, shaped_toD hz.1, shaped_toD hl, ?_⟩
        rw [ee]
        exact qv_val w (.bl _)
    · cases e
  · rename_i l
    have e : (if flatP p && l.all flatP then some (PV.bl (if neg then !(l.any fun z => eqv z p) else l.any fun z => eqv z p), false) else none) = some (r, o) := e
    split at e
    · rename_i hz
      rw [Bool.and_eq_true] at hz
      obtain ⟨a, vs, e1, r1, l1⟩ := rq.tup
      have fl : ∀ {p : PV} {v : V}, RV n H Z p v → flatP p = true → flatV v = true ∧ ∀ {q : PV} {z : V}, RV n H Z q z → flatP q = true → eqV v z = eqv p q := by
        intro p v rv fp
        cases rv with
        | non => exact ⟨rfl, fun rq fq => by cases rq <;> first | rfl | cases (show false = true from fq)⟩
        | bl b => exact ⟨rfl, fun rq fq => by
            cases rq with
            | int i =>
              show ((if b then 1 else 0) == i) = decide (b2i b = i)
              unfold b2i
              cases b <;> (rw [Bool.eq_iff_iff]; simp)
            | _ => first | rfl | cases (show false = true from fq)⟩
        | int i => exact ⟨rfl, fun rq fq => by
            cases rq with
            | bl b =>
              show (i == (if b then 1 else 0)) = decide (i = b2i b)
              unfold b2i
              cases b <;> (rw [Bool.eq_iff_iff]; simp)
            | int j =>
              show (i == j) = decide (i = j)
              rw [Bool.eq_iff_iff]; simp
            | _ => first | rfl | cases (show false = true from fq)⟩
        | str x => exact ⟨rfl, fun rq fq => by
            cases rq with
            | str y =>
              show (strV x == strV y) = decide (x = y)
              rw [Bool.eq_iff_iff, beq_iff_eq, decide_eq_true_eq]
              unfold strV
              simp
            | _ => first | rfl | cases (show false = true from fq)⟩
        | _ => cases (show false = true from fp)
      have rpv : RV n H Z p x := by
        rcases rp with rp | ⟨a, e, rp⟩
        · exact rp
        · cases rp <;> cases (show false = true from hz.1)
      have hx := fl rpv hz.1
      have key : ∀ {l : List PV} {vs : List V}, RVs n H Z l vs → l.all flatP = true → vs.all flatV = true ∧ (vs.any fun z => eqV z x) = l.any fun z => eqv z p := by
        intro l
        induction l with
        | nil => intro vs r _; cases r; exact ⟨rfl, rfl⟩
        | cons a l ih =>
          intro vs r h
          cases r with
          | cons h1 t =>
            rw [List.all_cons, Bool.and_eq_true] at h
            obtain ⟨i1, i2⟩ := ih t h.2
            obtain ⟨j1, j2⟩ := fl h1 h.1
            refine ⟨by rw [List.all_cons, j1, i1]; rfl, ?_⟩
            rw [List.any_cons, List.any_cons, i2, j2 rpv hz.1]
      obtain ⟨k1, k2⟩ := key l1 hz.2
      cases neg with
      | false =>
        cases e
        refine op_in_seq pins s τ H x y u v _ I ru rv ⟨a, vs, e1, .inr (hn ▸ r1), hx.1, k1, ?_⟩
        have k2 : inV x vs = l.any fun z => eqv z p := k2
        simp only [Bool.false_eq_true, if_false]
        rw [k2]
        exact qv_val w (.bl _)
      | true =>
        cases e
        refine op_notIn_seq pins s τ H x y u v _ I ru rv ⟨a, vs, e1, .inr (hn ▸ r1), hx.1, k1, ?_⟩
        have k2 : inV x vs = l.any fun z => eqv z p := k2
        simp only [if_true]
        rw [k2]
        exact qv_val w (.bl _)
    · cases e
  · cases e
/-- a subscript -/
theorem atI_RVs {l : List PV} {vs : List V} (r : RVs n H Z l vs) {i : Int} {p : PV} (h : atI l i = some p) : ∃ v, atI vs i = some v ∧ RV n H Z p v := by
  unfold atI at h ⊢
  rw [r.len]
  cases e : ixN l.length i with
  | none => rw [e] at h; cases h
  | some j =>
    rw [e] at h
    exact r.get h
theorem o_ixS (hn : n.K = X.K) {value slice : Expr} {p q : PV} {x y : V} {u v : Value} {r : PV} {o : Bool} (I : Inv X pins τ H s) (w : Wd n ρ σ H Z) (rp : RD n H Z p x) (rq : RD n H Z q y) (ru : RelV x u) (rv : RelV y v)
    (hp : ∀ d, p ≠ .dct d) (e : ixV p q = some (r, o)) (hs : subscripted slice false u v = operate [u, v] (getItem u v)) : wpAny (model X.prog X.w) X.A (subscriptTail value slice u v) (EP X pins τ (QV n ρ σ H Z r o)) X.xe s := by
  unfold ixV at e
  split at e
  · rename_i l i
    cases e1 : atI l i with
    | none => rw [e1] at e; cases e
    | some z =>
      rw [e1] at e; cases e
      obtain ⟨a, vs, e2, r1, l1⟩ := rp.lst
      obtain ⟨zv, e3, rz⟩ := atI_RVs l1 e1
      exact ix_list value slice pins s τ H x y u v _ I ru rv ⟨a, vs, i, zv, e2, rq.int, .inl r1, e3, qv_val w rz⟩ hs
  · rename_i l i
    cases e1 : atI l i with
    | none => rw [e1] at e; cases e
    | some z =>
      rw [e1] at e; cases e
      obtain ⟨a, vs, e2, r1, l1⟩ := rp.tup
      obtain ⟨zv, e3, rz⟩ := atI_RVs l1 e1
      exact ix_tup value slice pins s τ H x y u v _ I ru rv ⟨a, vs, i, zv, e2, rq.int, hn ▸ r1, e3, qv_val w rz⟩ hs
  · exact absurd rfl (hp _)
  · cases e
/-- a slice -/
theorem o_sl (hn : n.K = X.K) (lo hi : Option Int) {p : PV} {x : V} {u vl vu : Value} {sl : Addr} {r : PV} {o : Bool} (I : Inv X pins τ H s) (w : Wd n ρ σ H Z) (rp : RD n H Z p x) (ru : RelV x u) (hs : s.heap.IsSliceOf sl vl vu .none) (pl : IsPart vl lo) (pu : IsPart vu hi)
    (e : sllV lo hi p = some (r, o)) : ∃ T id, typeLookup (.type T) "__getitem__" = pure (some (.builtin id)) ∧ s.TypeIs u T ∧ wpAny (model X.prog X.w) X.A (getItem u (.ref sl)) (EP X pins τ (QV n ρ σ H Z r o)) X.xe s := by
  unfold sllV at e
  split at e
  · cases e
    obtain ⟨a, vs, e2, r1, l1⟩ := rp.lst
    exact sl_list pins s τ H x u vl vu lo hi sl _ I ru hs pl pu ⟨a, vs, e2, .inl r1, qv_lst w (l1.cut lo hi)⟩
  · cases e
    rename_i l
    obtain ⟨a, vs, e2, r1, l1⟩ := rp.tup
    refine sl_tupA pins s τ H x u vl vu lo hi sl _ I ru hs pl pu ⟨a, vs, e2, hn ▸ r1, fun z => ?_, fun _ => qv_tup w (l1.cut lo hi)⟩
    have e3 : cutA l lo hi = l := by
      unfold cutA
      rw [l1.len] at z
      rw [z.1, z.2]
      simp
    rw [e3, ← e2]
    exact qv_val w rp.tupV
  · cases e

/-- a call of what is known with one value, with two -/
def Op1C (X : Cx) (n : En) (f : Value) (k : PV → Option (PV × Bool)) : Prop :=
  ∀ (pins : List (Addr × Obj)) (s : Shared) (τ : SG) (ρ : Sl) (σ : SG) (H : Hp) (Z : Addr → Prop) (p : PV) (x : V) (u : Value) (r : PV) (o : Bool), Inv X pins τ H s → Wd n ρ σ H Z → RD n H Z p x → RelV x u → k p = some (r, o) →
    wpAny (model X.prog X.w) X.A (call f [u]) (EP X pins τ (QV n ρ σ H Z r o)) X.xe s
theorem v1 {x : V} {u : Value} (r : RelV x u) : Vals [x] [u] := .cons r .nil
theorem o_len (hn : n.K = X.K) : Op1C X n (.builtin "len") (fun p => match p with | .dct _ => none | p => lenV p) := by
  intro pins s τ ρ σ H Z p x u r o I w rp ru e
  dsimp only at e
  split at e
  · cases e
  · unfold lenV at e
    split at e
    · cases e
      obtain ⟨a, vs, e2, r1, l1⟩ := rp.lst
      exact call_len pins s τ H [x] [u] _ I (v1 ru) ⟨x, vs.length, rfl, by rw [e2]; exact .inl ⟨vs, .inl r1, rfl⟩, by rw [l1.len]; exact qv_val w (.int _)⟩
    · cases e
      obtain ⟨a, vs, e2, r1, l1⟩ := rp.tup
      exact call_len pins s τ H [x] [u] _ I (v1 ru) ⟨x, vs.length, rfl, by rw [e2]; exact .inr ⟨vs, hn ▸ r1, rfl⟩, by rw [l1.len]; exact qv_val w (.int _)⟩
    · rename_i q _ l h1
      exact absurd rfl (h1 _)
    · split at e
      · rename_i hz
        cases e
        exact call_len pins s τ H [x] [u] _ I (v1 ru) ⟨x, _, rfl, by rw [rp.str]; exact ⟨by rw [strV_length, SZ]; exact hz, rfl⟩, by rw [strV_length]; exact qv_val w (.int _)⟩
      · cases e
    · cases e
theorem o_int1 : Op1C X n (.type "int") (fun p => prim .int1 [p]) := by
  intro pins s τ ρ σ H Z p x u r o I w rp ru e
  cases p with
  | int i => cases e; exact call_int1 pins s τ H [x] [u] _ I (v1 ru) (.inl ⟨i, by rw [rp.int], qv_val w (.int _)⟩)
  | bl i => cases e; exact call_int1 pins s τ H [x] [u] _ I (v1 ru) (.inr ⟨i, by rw [rp.bl], qv_val w (.int _)⟩)
  | _ => cases e
theorem o_bool1 : Op1C X n (.type "bool") (fun p => prim .bool1 [p]) := by
  intro pins s τ ρ σ H Z p x u r o I w rp ru e
  cases p with
  | int i => cases e; exact call_bool1 pins s τ H [x] [u] _ I (v1 ru) (.inl ⟨i, by rw [rp.int], qv_val w (.bl _)⟩)
  | bl i => cases e; exact call_bool1 pins s τ H [x] [u] _ I (v1 ru) (.inr ⟨i, by rw [rp.bl], qv_val w (.bl _)⟩)
  | _ => cases e
theorem o_tuple1 (hn : n.K = X.K) : Op1C X n (.type "tuple") (fun p => prim .tuple1 [p]) := by
  intro pins s τ ρ σ H Z p x u r o I w rp ru e
  cases p with
  | lst l =>
    cases e
    obtain ⟨a, vs, e2, r1, l1⟩ := rp.lst
    exact call_tuple_of pins s τ H [x] [u] _ I (v1 ru) ⟨a, vs, by rw [e2], .inl ⟨.inl r1, qv_tup w l1⟩⟩
  | tup l =>
    cases e
    obtain ⟨a, vs, e2, r1, l1⟩ := rp.tup
    exact call_tuple_of pins s τ H [x] [u] _ I (v1 ru) ⟨a, vs, by rw [e2], .inr ⟨hn ▸ r1, e2 ▸ qv_val w rp.tupV⟩⟩
  | _ => cases e
theorem o_list1 (hn : n.K = X.K) : Op1C X n (.type "list") (fun p => prim .list1 [p]) := by
  intro pins s τ ρ σ H Z p x u r o I w rp ru e
  cases p with
  | lst l =>
    cases e
    obtain ⟨a, vs, e2, r1, l1⟩ := rp.lst
    exact call_list_of pins s τ H [x] [u] _ I (v1 ru) ⟨a, vs, by rw [e2], .inl (.inl r1), qv_lst w l1⟩
  | tup l =>
    cases e
    obtain ⟨a, vs, e2, r1, l1⟩ := rp.tup
    exact call_list_of pins s τ H [x] [u] _ I (v1 ru) ⟨a, vs, by rw [e2], .inr (hn ▸ r1), qv_lst w l1⟩
  | _ => cases e
theorem o_any1 (hc : X.calm = true) : Op1C X n (.builtin "any") (onBls fun bs => .bl (bs.any id)) := by
  intro pins s τ ρ σ H Z p x u r o I w rp ru e
  unfold onBls at e
  split at e
  · rename_i l
    cases eb : bls? l with
    | none => rw [eb] at e; cases e
    | some bs =>
      rw [eb] at e; cases e
      obtain ⟨a, vs, e2, r1, l1⟩ := rp.lst
      have := l1.bls eb
      subst this
      exact cr_any hc pins s τ H [x] [u] _ I (v1 ru) ⟨a, bs, by rw [e2], .inl r1, qv_val w (.bl _)⟩
  · cases e
theorem o_all1 (hc : X.calm = true) : Op1C X n (.builtin "all") (onBls fun bs => .bl (bs.all id)) := by
  intro pins s τ ρ σ H Z p x u r o I w rp ru e
  unfold onBls at e
  split at e
  · rename_i l
    cases eb : bls? l with
    | none => rw [eb] at e; cases e
    | some bs =>
      rw [eb] at e; cases e
      obtain ⟨a, vs, e2, r1, l1⟩ := rp.lst
      have := l1.bls eb
      subst this
      exact cr_all hc pins s τ H [x] [u] _ I (v1 ru) ⟨a, bs, by rw [e2], .inl r1, qv_val w (.bl _)⟩
  · cases e
theorem o_sum1 (hc : X.calm = true) : Op1C X n (.builtin "sum") (onInts fun ns => some (.int ns.sum)) := by
  intro pins s τ ρ σ H Z p x u r o I w rp ru e
  unfold onInts at e
  split at e
  · rename_i l
    cases eb : ints? l with
    | none => rw [eb] at e; cases e
    | some bs =>
      rw [eb] at e; cases e
      obtain ⟨a, vs, e2, r1, l1⟩ := rp.lst
      have := l1.ints eb
      subst this
      exact cr_sum hc pins s τ H [x] [u] _ I (v1 ru) ⟨a, bs, by rw [e2], .inl r1, qv_val w (.int _)⟩
  · cases e
end
end Ev

set_option Elab.async false
set_option linter.all false
set_option maxRecDepth 100000
/-! The evaluator is sound: expressions. -/
namespace Ev
open PySem PySem.Spec PyProof.Rows L2

/-- an exception as it flies -/
def XnAt (n : En) (H : Hp) (Z : Addr → Prop) (x : Xn) (cls : Value) (d : Option Addr) : Prop :=
  cls = .ref (n.cA x.c) ∧ ∃ dx fs, d = some dx ∧ H dx = some (.xd fs) ∧ RFs n H Z x.fs fs
/-- what is wanted of the exceptions of a run that began at the state ahead -/
def HX (n : En) (W : WX) (ρ0 : Sl) (σ : SG) (H0 : Hp) (Z0 : Addr → Prop) {α : Type} (r : O α) : Prop :=
  ∀ x ρ' H' Z' cls d, r = .ex x ρ' → XnAt n H' Z' x cls d → Wd n ρ' σ H' Z' → Stp ρ0 σ H0 Z0 ρ' σ H' Z' → W cls d σ H'
theorem HX.bd {n : En} {W : WX} {ρ0 : Sl} {σ : SG} {H0 : Hp} {Z0 : Addr → Prop} {α β : Type} {r : O α} {f : α → Sl → O β} (h : HX n W ρ0 σ H0 Z0 (r.bd f)) : HX n W ρ0 σ H0 Z0 r := by
  intro x ρ' H' Z' cls d e
  exact h x ρ' H' Z' cls d (by rw [e]; rfl)
theorem bd_no {α β : Type} {r : O α} {f : α → Sl → O β} (h : r.bd f ≠ .no) : r ≠ .no := by
  intro e; rw [e] at h; exact h rfl
theorem bd_ok {α β : Type} {r : O α} {f : α → Sl → O β} {a : α} {ρ : Sl} (h : r = .ok a ρ) : r.bd f = f a ρ := by rw [h]; rfl
theorem HX.later {n : En} {W : WX} {ρ0 ρ : Sl} {σ : SG} {H0 H : Hp} {Z0 Z : Addr → Prop} {α : Type} {r : O α} (h : HX n W ρ0 σ H0 Z0 r) (s : Stp ρ0 σ H0 Z0 ρ σ H Z) : HX n W ρ σ H Z r := by
  intro x ρ' H' Z' cls d e xa w st
  exact h x ρ' H' Z' cls d e xa w (s.trans st)
def ARs (n : En) (H0 : Hp) (ρ : Sl) (σ : SG) (H : Hp) (Z : Addr → Prop) : List Ar → List V → Prop
  | [], [] => True
  | a :: as, v :: vs => AR n H0 ρ σ H Z a v ∧ ARs n H0 ρ σ H Z as vs
  | _, _ => False
def RDs (n : En) (H : Hp) (Z : Addr → Prop) : List PV → List V → Prop
  | [], [] => True
  | a :: as, v :: vs => RD n H Z a v ∧ RDs n H Z as vs
  | _, _ => False

/-- an expression's reading by the evaluator -/
def tE (n : En) (W : WX) (f : Sl → O Ar) : TE := fun σ H Q => ∃ ρ Z, Wd n ρ σ H Z ∧ f ρ ≠ .no ∧ HX n W ρ σ H Z (f ρ) ∧
  ∀ a ρ' v H' Z', f ρ = .ok a ρ' → Wd n ρ' σ H' Z' → Stp ρ σ H Z ρ' σ H' Z' → AR n H ρ' σ H' Z' a v → Q v H'
/-- a test's -/
def tT (n : En) (W : WX) (f : Sl → O Ar) : TT := fun σ H Q => ∃ ρ Z, Wd n ρ σ H Z ∧ f ρ ≠ .no ∧ HX n W ρ σ H Z (f ρ) ∧
  ∀ a ρ' H' Z', f ρ = .ok a ρ' → Wd n ρ' σ H' Z' → Stp ρ σ H Z ρ' σ H' Z' → ∃ b o, a = .v (.bl b) o ∧ Q b H'
/-- an argument list's -/
def tA (n : En) (W : WX) (f : Sl → O (List Ar)) : TA := fun σ H Q => ∃ ρ Z, Wd n ρ σ H Z ∧ f ρ ≠ .no ∧ HX n W ρ σ H Z (f ρ) ∧
  ∀ as ρ' vs H' Z', f ρ = .ok as ρ' → Wd n ρ' σ H' Z' → Stp ρ σ H Z ρ' σ H' Z' → ARs n H ρ' σ H' Z' as vs → Q vs H'
/-- a display's items -/
def tD (n : En) (W : WX) (f : Sl → O (List PV)) : TA := fun σ H Q => ∃ ρ Z, Wd n ρ σ H Z ∧ f ρ ≠ .no ∧ HX n W ρ σ H Z (f ρ) ∧
  ∀ ps ρ' vs H' Z', f ρ = .ok ps ρ' → Wd n ρ' σ H' Z' → Stp ρ σ H Z ρ' σ H' Z' → RVs n H' Z' ps vs → Q vs H'
theorem PE.imp {X : Cx} {e : Expr} {t t' : TE} (h : PE X e t) (k : ∀ σ H Q, t' σ H Q → t σ H Q) : PE X e t' := ⟨fun pins s σ H Q I q => h.run pins s σ H Q I (k σ H Q q)⟩
theorem PT.imp {X : Cx} {e : Expr} {t t' : TT} (h : PT X e t) (k : ∀ σ H Q, t' σ H Q → t σ H Q) : PT X e t' := ⟨fun pins s σ H Q I q => h.run pins s σ H Q I (k σ H Q q)⟩
theorem PW.imp {X : Cx} {e : Expr} {t t' : TT} (h : PW X e t) (k : ∀ σ H Q, t' σ H Q → t σ H Q) : PW X e t' := ⟨fun wh pins s σ H Q I q => h.run wh pins s σ H Q I (k σ H Q q)⟩
theorem PA.imp {X : Cx} {e : List Expr} {t t' : TA} (h : PA X e t) (k : ∀ σ H Q, t' σ H Q → t σ H Q) : PA X e t' := ⟨fun pos pins s σ H Q I q => h.run pos pins s σ H Q I (k σ H Q q)⟩

section
variable {X : Cx} {n : En} {W : WX} {pins : List (Addr × Obj)} {s : Shared} {ρ0 ρ ρ1 : Sl} {σ : SG} {H0 H H1 : Hp} {Z0 Z Z1 : Addr → Prop}
theorem VR.base {p : PV} {o : Bool} {v : V} (r : VR n H ρ σ H1 Z p o v) (b : ∀ a, H a = none → H0 a = none) : VR n H0 ρ σ H1 Z p o v := by
  cases o with
  | false => exact r
  | true =>
    obtain ⟨a, e, h0, q⟩ := r
    exact ⟨a, e, b a h0, q⟩
theorem AR.base {a : Ar} {v : V} (r : AR n H ρ σ H1 Z a v) (b : ∀ a, H a = none → H0 a = none) : AR n H0 ρ σ H1 Z a v := by
  cases a with
  | v p o => exact VR.base r b
  | sl i => exact r
theorem ARs.step : ∀ {as : List Ar} {vs : List V}, ARs n H0 ρ σ H Z as vs → Wd n ρ σ H Z → Stp ρ σ H Z ρ1 σ H1 Z1 → ARs n H0 ρ1 σ H1 Z1 as vs
  | [], [], _, _, _ => trivial
  | _ :: _, _ :: _, h, w, s => ⟨h.1.step w s, ARs.step h.2 w s⟩
  | [], _ :: _, h, _, _ => h.elim
  | _ :: _, [], h, _, _ => h.elim
theorem ARs.base : ∀ {as : List Ar} {vs : List V}, ARs n H ρ σ H1 Z as vs → (∀ a, H a = none → H0 a = none) → ARs n H0 ρ σ H1 Z as vs
  | [], [], _, _ => trivial
  | _ :: _, _ :: _, h, b => ⟨h.1.base b, ARs.base h.2 b⟩
  | [], _ :: _, h, _ => h.elim
  | _ :: _, [], h, _ => h.elim
theorem ARs.vals (w : Wd n ρ σ H Z) : ∀ {as : List Ar} {vs : List V} {ps : List PV}, ARs n H0 ρ σ H Z as vs → Ev.vals as ρ = some ps → RDs n H Z ps vs
  | [], [], _, _, e => by cases e; trivial
  | a :: as, v :: vs, ps, h, e => by
    unfold Ev.vals at e
    split at e
    · rename_i p q e1 e2
      cases e
      exact ⟨h.1.val w e1, ARs.vals w h.2 e2⟩
    · cases e
  | [], _ :: _, _, h, _ => h.elim
  | _ :: _, [], _, h, _ => h.elim
theorem RDs.one {vs : List PV} {x : V} (h : RDs n H Z vs [x]) : ∃ p, vs = [p] ∧ RD n H Z p x := by
  cases vs with
  | nil => exact False.elim h
  | cons p vs => cases vs with
    | nil => exact ⟨p, rfl, And.left h⟩
    | cons q vs => exact False.elim (And.right h)
theorem RDs.two {vs : List PV} {x y : V} (h : RDs n H Z vs [x, y]) : ∃ p q, vs = [p, q] ∧ RD n H Z p x ∧ RD n H Z q y := by
  cases vs with
  | nil => exact False.elim h
  | cons p vs =>
    obtain ⟨q, e, r⟩ := RDs.one (And.right h)
    exact ⟨p, q, by rw [e], And.left h, r⟩
/-- go on behind an expression, seen from a base state -/
theorem tE.go {f : Sl → O Ar} (w : Wd n ρ σ H Z) (b : Stp ρ0 σ H0 Z0 ρ σ H Z) (hno : f ρ ≠ .no) (hx : HX n W ρ0 σ H0 Z0 (f ρ)) {Q : VK}
    (k : ∀ a ρ1 v H1 Z1, f ρ = .ok a ρ1 → Wd n ρ1 σ H1 Z1 → Stp ρ0 σ H0 Z0 ρ1 σ H1 Z1 → Stp ρ σ H Z ρ1 σ H1 Z1 → AR n H0 ρ1 σ H1 Z1 a v → Q v H1) : tE n W f σ H Q :=
  ⟨ρ, Z, w, hno, hx.later b, fun a ρ1 v H1 Z1 e w1 st ar => k a ρ1 v H1 Z1 e w1 (b.trans st) st (ar.base fun _ h => b.back h)⟩
theorem tT.go {f : Sl → O Ar} (w : Wd n ρ σ H Z) (b : Stp ρ0 σ H0 Z0 ρ σ H Z) (hno : f ρ ≠ .no) (hx : HX n W ρ0 σ H0 Z0 (f ρ)) {Q : Bool → Hp → Prop}
    (k : ∀ a ρ1 H1 Z1, f ρ = .ok a ρ1 → Wd n ρ1 σ H1 Z1 → Stp ρ0 σ H0 Z0 ρ1 σ H1 Z1 → Stp ρ σ H Z ρ1 σ H1 Z1 → ∃ b o, a = .v (.bl b) o ∧ Q b H1) : tT n W f σ H Q :=
  ⟨ρ, Z, w, hno, hx.later b, fun a ρ1 H1 Z1 e w1 st => k a ρ1 H1 Z1 e w1 (b.trans st) st⟩
theorem tA.go {f : Sl → O (List Ar)} (w : Wd n ρ σ H Z) (b : Stp ρ0 σ H0 Z0 ρ σ H Z) (hno : f ρ ≠ .no) (hx : HX n W ρ0 σ H0 Z0 (f ρ)) {Q : List V → Hp → Prop}
    (k : ∀ a ρ1 v H1 Z1, f ρ = .ok a ρ1 → Wd n ρ1 σ H1 Z1 → Stp ρ0 σ H0 Z0 ρ1 σ H1 Z1 → Stp ρ σ H Z ρ1 σ H1 Z1 → ARs n H0 ρ1 σ H1 Z1 a v → Q v H1) : tA n W f σ H Q :=
  ⟨ρ, Z, w, hno, hx.later b, fun a ρ1 v H1 Z1 e w1 st ar => k a ρ1 v H1 Z1 e w1 (b.trans st) st (ar.base fun _ h => b.back h)⟩
theorem tD.go {f : Sl → O (List PV)} (w : Wd n ρ σ H Z) (b : Stp ρ0 σ H0 Z0 ρ σ H Z) (hno : f ρ ≠ .no) (hx : HX n W ρ0 σ H0 Z0 (f ρ)) {Q : List V → Hp → Prop}
    (k : ∀ a ρ1 v H1 Z1, f ρ = .ok a ρ1 → Wd n ρ1 σ H1 Z1 → Stp ρ0 σ H0 Z0 ρ1 σ H1 Z1 → Stp ρ σ H Z ρ1 σ H1 Z1 → RVs n H1 Z1 a v → Q v H1) : tD n W f σ H Q :=
  ⟨ρ, Z, w, hno, hx.later b, fun a ρ1 v H1 Z1 e w1 st ar => k a ρ1 v H1 Z1 e w1 (b.trans st) st ar⟩
/-- the end of an expression: a value by an operation -/
theorem qv_end {Q : VK} {r : O Ar} {p : PV} {o : Bool} (b : Stp ρ0 σ H0 Z0 ρ σ H Z) (hr : r = .ok (.v p o) ρ) (k : ∀ a ρ' v H' Z', r = .ok a ρ' → Wd n ρ' σ H' Z' → Stp ρ0 σ H0 Z0 ρ' σ H' Z' → AR n H0 ρ' σ H' Z' a v → Q v H') : ∀ v H', QV n ρ σ H Z p o v H' → Q v H' := by
  intro v H' ⟨Z', w, st, vr⟩
  exact k _ _ v H' Z' hr w (b.trans st) (VR.base vr fun _ h => b.back h)

/-! ### names, constants -/
theorem pe_evar {g : G} {cl : FC} {i : Nat} {x : Str} {pos : Pos} (hN : X.N[i]? = some x) (hv : Vis X.env.scope x) (hd : (x == ("__debug__" : Str)) = false) (hcd : (x == ("__classdict__" : Str)) = false) : PE X (.Name x pos) (tE n W (ev g cl false (.var i))) := by
  refine PE.imp (pe_var (pos := pos) hN hv hd hcd) fun σ H Q h => ?_
  obtain ⟨ρ, Z, w, hno, hx, k⟩ := h
  have e : ev g cl false (.var i) ρ = (match sget ρ i with | some _ => .ok (.sl i) ρ | none => .no) := rfl
  cases hg : sget ρ i with
  | none => rw [e, hg] at hno; exact absurd rfl hno
  | some y =>
    rw [hg] at e
    obtain ⟨v, hs, _⟩ := w.slot (p := y.1) (o := y.2) hg
    exact ⟨v, hs, k _ _ v H Z e w .refl hs⟩
theorem pe_ecst {g : G} {cl : FC} {e : Expr} {p : PV} {v : V} (h : PE X e (tC v)) (r : ∀ H Z, RV n H Z p v) : PE X e (tE n W (ev g cl false (.cst p))) := by
  refine PE.imp h fun σ H Q h => ?_
  obtain ⟨ρ, Z, w, hno, hx, k⟩ := h
  exact k _ _ v H Z rfl w .refl (r H Z)

/-! ### argument lists -/
def notStar : Expr → Bool
  | .Starred _ _ => false
  | _ => true
theorem starEach_cons {e : Expr} {es : List Expr} {env : Env} (h : notStar e = true) : starEach (e :: es) env = (false, eval e env) :: starEach es env := by
  cases e <;> first | rfl | cases h
theorem pa_enil {g : G} {cl : FC} : PA X [] (tA n W (evs g cl [])) := by
  refine PA.imp pa_nil fun σ H Q h => ?_
  obtain ⟨ρ, Z, w, hno, hx, k⟩ := h
  exact k [] ρ [] H Z rfl w .refl trivial
theorem pa_econs {g : G} {cl : FC} {e : Expr} {es : List Expr} {c : E} {cs : List E} (he : PE X e (tE n W (ev g cl false c))) (hes : PA X es (tA n W (evs g cl cs))) (ns : notStar e = true) : PA X (e :: es) (tA n W (evs g cl (c :: cs))) := by
  refine PA.imp (pa_cons he hes (starEach_cons ns)) fun σ H Q h => ?_
  obtain ⟨ρ, Z, w, hno, hx, k⟩ := h
  have e0 : evs g cl (c :: cs) ρ = (ev g cl false c ρ).bd fun x ρ => (evs g cl cs ρ).bd fun l ρ => .ok (x :: l) ρ := rfl
  rw [e0] at hno hx k
  refine tE.go w .refl (bd_no hno) hx.bd fun a ρ1 v H1 Z1 e1 w1 b1 _ ar => ?_
  rw [bd_ok e1] at hno hx k
  refine tA.go w1 b1 (bd_no hno) hx.bd fun as ρ2 vs H2 Z2 e2 w2 b2 st ars => ?_
  rw [bd_ok e2] at k
  exact k (a :: as) ρ2 (v :: vs) H2 Z2 rfl w2 b2 ⟨ar.step w1 st, ars⟩
/-- the items of a display -/
theorem pa_dnil {g : G} {cl : FC} : PA X [] (tD n W (disp g cl [])) := by
  refine PA.imp pa_nil fun σ H Q h => ?_
  obtain ⟨ρ, Z, w, hno, hx, k⟩ := h
  exact k [] ρ [] H Z rfl w .refl .nil
theorem pa_dcons {g : G} {cl : FC} {e : Expr} {es : List Expr} {c : E} {cs : List E} (he : PE X e (tE n W (ev g cl false c))) (hes : PA X es (tD n W (disp g cl cs))) (ns : notStar e = true) (nc : isStar c = false) : PA X (e :: es) (tD n W (disp g cl (c :: cs))) := by
  refine PA.imp (pa_cons he hes (starEach_cons ns)) fun σ H Q h => ?_
  obtain ⟨ρ, Z, w, hno, hx, k⟩ := h
  have e0 : disp g cl (c :: cs) ρ = (ev g cl false c ρ).bd fun x ρ => ((use x ρ).bd fun p ρ => .ok [p.1] ρ).bd fun l ρ => (disp g cl cs ρ).bd fun q ρ => .ok (l ++ q) ρ := by
    cases c <;> first | rfl | cases nc
  rw [e0] at hno hx k
  refine tE.go w .refl (bd_no hno) hx.bd fun a ρ1 v H1 Z1 e1 w1 b1 _ ar => ?_
  rw [bd_ok e1] at hno hx k
  cases eu : use a ρ1 with
  | no => rw [eu] at hno; exact absurd rfl hno
  | ex x r => exact absurd eu (by unfold use; split <;> (try split) <;> intro h <;> cases h)
  | ok p ρ2 =>
    obtain ⟨Z2, w2, b2, rv⟩ := use_settled w1 b1 ar eu
    have e2 : ((use a ρ1).bd fun p ρ => (O.ok [p.1] ρ : O (List PV))) = .ok [p.1] ρ2 := bd_ok eu
    rw [bd_ok e2] at hno hx k
    refine tD.go w2 b2 (bd_no hno) hx.bd fun ps ρ3 vs H3 Z3 e3 w3 b3 st ars => ?_
    have e3' : (disp g cl cs ρ2).bd (fun q ρ => (O.ok ([p.1] ++ q) ρ : O (List PV))) = .ok ([p.1] ++ ps) ρ3 := bd_ok e3
    exact k (p.1 :: ps) ρ3 (v :: vs) H3 Z3 e3' w3 b3 (.cons (rv.step w2 st) ars)
theorem pa_dstar {g : G} {cl : FC} {e : Expr} {es : List Expr} {c : E} {cs : List E} {p : Pos} (hn : n.K = X.K) (he : PE X e (tE n W (ev g cl false c))) (hes : PA X es (tD n W (disp g cl cs))) : PA X (.Starred e p :: es) (tD n W (disp g cl (.star c :: cs))) := by
  refine PA.imp (StX.pa_star he hes rfl) fun σ H Q h => ?_
  obtain ⟨ρ, Z, w, hno, hx, k⟩ := h
  have e0 : disp g cl (.star c :: cs) ρ = (ev g cl false c ρ).bd fun x ρ => (starL true x ρ).bd fun l ρ => (disp g cl cs ρ).bd fun q ρ => .ok (l ++ q) ρ := rfl
  rw [e0] at hno hx k
  refine tE.go w .refl (bd_no hno) hx.bd fun a ρ1 v H1 Z1 e1 w1 b1 _ ar => ?_
  rw [bd_ok e1] at hno hx k
  have key : ∀ l, starL true a ρ1 = .ok l ρ1 → (∃ q xs, v = V.ref q ∧ (SqT X.K H1 q xs ∨ SqL X.K H1 q xs) ∧ RVs n H1 Z1 l xs) → ∃ q xs, v = V.ref q ∧ (SqT X.K H1 q xs ∨ SqL X.K H1 q xs) ∧ tD n W (disp g cl cs) σ H1 fun ys H2 => Q (xs ++ ys) H2 := by
    intro l el ⟨q, xs, e2, sq, rs⟩
    rw [bd_ok el] at hno hx k
    refine ⟨q, xs, e2, sq, tD.go w1 b1 (bd_no hno) hx.bd fun ps ρ3 vs H3 Z3 e3 w3 b3 st ars => ?_⟩
    have e3' : (disp g cl cs ρ1).bd (fun q ρ => (O.ok (l ++ q) ρ : O (List PV))) = .ok (l ++ ps) ρ3 := bd_ok e3
    exact k (l ++ ps) ρ3 (xs ++ vs) H3 Z3 e3' w3 b3 ((rs.step w1 st).append ars)
  have es : starL true a ρ1 = (match val a ρ1 with | some (.lst l) => .ok l ρ1 | some (.tup l) => .ok l ρ1 | _ => .no) := rfl
  rw [es] at hno key
  cases ev' : val a ρ1 with
  | none => rw [ev'] at hno; exact absurd rfl hno
  | some pv =>
    have rd := ar.val w1 ev'
    rw [ev'] at hno key
    cases pv with
    | lst l =>
      obtain ⟨q, xs, e2, r1, l1⟩ := rd.lst
      exact key l rfl ⟨q, xs, e2, .inr (.inl r1), l1⟩
    | tup l =>
      obtain ⟨q, xs, e2, r1, l1⟩ := rd.tup
      exact key l rfl ⟨q, xs, e2, .inl (hn ▸ r1), l1⟩
    | _ => exact absurd rfl hno
theorem pe_etup {g : G} {cl : FC} {es : List Expr} {cs : List E} {x1} {pos : Pos} (h : PA X es (tD n W (disp g cl cs))) : PE X (.Tuple es x1 pos) (tE n W (ev g cl false (.tup cs))) := by
  refine PE.imp (L2.pe_tup h) fun σ H Q h => ?_
  obtain ⟨ρ, Z, w, hno, hx, k⟩ := h
  have e0 : ev g cl false (.tup cs) ρ = (disp g cl cs ρ).bd fun l ρ => if l.length ≤ 16777216 then .ok (.v (.tup l) false) ρ else .no := rfl
  rw [e0] at hno hx k
  refine tD.go w .refl (bd_no hno) hx.bd fun ps ρ1 vs H1 Z1 e1 w1 b1 _ ar => ?_
  rw [bd_ok e1] at hno hx k
  by_cases hz : ps.length ≤ 16777216
  · rw [if_pos hz] at k
    exact ⟨by rw [ar.len, SZ]; exact hz, fun p hp => qv_end b1 rfl k _ _ (qv_tup w1 ar p hp)⟩
  · rw [if_neg hz] at hno; exact absurd rfl hno
theorem pe_elst {g : G} {cl : FC} {es : List Expr} {cs : List E} {pos : Pos} (h : PA X es (tD n W (disp g cl cs))) : PE X (.List es pos) (tE n W (ev g cl false (.lst cs))) := by
  refine PE.imp (L2.pe_lst h) fun σ H Q h => ?_
  obtain ⟨ρ, Z, w, hno, hx, k⟩ := h
  have e0 : ev g cl false (.lst cs) ρ = (disp g cl cs ρ).bd fun l ρ => if l.length ≤ 16777216 then .ok (.v (.lst l) true) ρ else .no := rfl
  rw [e0] at hno hx k
  refine tD.go w .refl (bd_no hno) hx.bd fun ps ρ1 vs H1 Z1 e1 w1 b1 _ ar => ?_
  rw [bd_ok e1] at hno hx k
  by_cases hz : ps.length ≤ 16777216
  · rw [if_pos hz] at k
    exact ⟨by rw [ar.len, SZ]; exact hz, fun p hp => qv_end b1 rfl k _ _ (qv_lst w1 ar p hp)⟩
  · rw [if_neg hz] at hno; exact absurd rfl hno
end
end Ev

set_option Elab.async false
set_option linter.all false
set_option maxRecDepth 100000
/-! The evaluator is sound: operators, tests. -/
namespace Ev
open PySem PySem.Spec PyProof.Rows L2

/-- an operator on two values -/
def rP (n : En) (g : G) (cl : FC) (pr : Pr) : R2 := fun x y H Q => ∃ ρ σ Z p q a, Wd n ρ σ H Z ∧ RD n H Z p x ∧ RD n H Z q y ∧ primO g cl pr [p, q] ρ = .ok a ρ ∧ ∀ v H' Z', Wd n ρ σ H' Z' → Stp ρ σ H Z ρ σ H' Z' → AR n H ρ σ H' Z' a v → Q v H'
/-- a value's truth -/
def rTr (n : En) (g : G) (cl : FC) : V → Hp → (Bool → Hp → Prop) → Prop := fun x H Q => ∃ ρ σ Z p b, Wd n ρ σ H Z ∧ RD n H Z p x ∧ truthO g cl p ρ = .ok b ρ ∧ ∀ H' Z', Wd n ρ σ H' Z' → Stp ρ σ H Z ρ σ H' Z' → Q b H'
theorem bd_assoc {α β γ : Type} (r : O α) (f : α → Sl → O β) (h : β → Sl → O γ) : (r.bd f).bd h = r.bd fun a ρ => (f a ρ).bd h := by cases r <;> rfl
theorem ok_bd {α β : Type} (a : α) (ρ : Sl) (f : α → Sl → O β) : (O.ok a ρ).bd f = f a ρ := rfl
theorem bdC {α β : Type} {b : β} {r : O α} {f : α → Sl → O β} {ρ ρ' : Sl} (h : r.bd f = .ok b ρ) (hr : ∀ a ρ1, r = .ok a ρ1 → ρ1 = ρ') : ∃ a, r = .ok a ρ' ∧ f a ρ' = .ok b ρ := by
  cases r with
  | ok a ρ1 => obtain rfl := hr a ρ1 rfl; exact ⟨a, rfl, h⟩
  | ex x r => cases h
  | no => cases h
/-- truth, an operator leave the slots as they are -/
theorem truthO_ok {g : G} {cl : FC} {p : PV} {ρ : Sl} (h : truthO g cl p ρ ≠ .no) : ∃ b, truthO g cl p ρ = .ok b ρ := by
  unfold truthO at h ⊢
  split at h
  · split at h
    · split at h
      · exact ⟨_, rfl⟩
      · exact absurd rfl h
    · exact absurd rfl h
  · split at h
    · exact ⟨_, rfl⟩
    · exact absurd rfl h
theorem primO_ok {g : G} {cl : FC} {pr : Pr} {vs : List PV} {ρ : Sl} (h : primO g cl pr vs ρ ≠ .no) : ∃ v o, primO g cl pr vs ρ = .ok (.v v o) ρ := by
  unfold primO at h ⊢
  split at h
  · split at h
    · split at h
      · rename_i c
        rw [if_pos c]
        split at h
        · exact ⟨_, _, rfl⟩
        · exact absurd rfl h
      · exact absurd rfl h
    · exact absurd rfl h
  · split at h
    · split at h
      · rename_i c
        rw [if_pos c]
        split at h
        · exact ⟨_, _, rfl⟩
        · exact absurd rfl h
      · exact absurd rfl h
    · exact absurd rfl h
  · rename_i c fs
    cases e : truthO g cl (.ins c fs) ρ with
    | no => rw [e] at h; exact absurd rfl h
    | ok b r =>
      obtain ⟨b', e'⟩ := truthO_ok (g := g) (cl := cl) (p := .ins c fs) (ρ := ρ) (by rw [e]; exact fun z => by cases z)
      rw [e] at e'; cases e'
      exact ⟨_, _, rfl⟩
    | ex x r =>
      obtain ⟨b', e'⟩ := truthO_ok (g := g) (cl := cl) (p := .ins c fs) (ρ := ρ) (by rw [e]; exact fun z => by cases z)
      rw [e] at e'; cases e'
  · split at h
    · split at h
      · rename_i c
        rw [if_pos c]
        exact ⟨_, _, rfl⟩
      · exact absurd rfl h
    · exact absurd rfl h
    · exact ⟨_, _, rfl⟩
  · split at h
    · exact ⟨_, _, rfl⟩
    · exact absurd rfl h
def binPr : Operator → Option Pr
  | .Add => some .add | .Sub => some .sub | .Mult => some .mul | .FloorDiv => some .fdiv | .Mod => some .mod | .Pow => some .pow
  | _ => none
def cmpPr : CmpOp → Option Pr
  | .Eq => some .eq | .NotEq => some .ne | .Lt => some .lt | .LtE => some .le | .Gt => some .gt | .GtE => some .ge | .In => some .mem | .NotIn => some .nmem
  | _ => none
theorem Op2.rP {X : Cx} {n : En} {g : G} {cl : FC} {pr : Pr} {f : Value → Value → Sem Value} {k : PV → PV → Option (PV × Bool)} (h : Op2 X n f k) (hk : ∀ p q ρ a, primO g cl pr [p, q] ρ = .ok a ρ → ∃ r o, a = .v r o ∧ k p q = some (r, o)) : OpR X f (Ev.rP n g cl pr) := by
  intro pins s τ H x y v u Q I rx ry ⟨ρ, σ, Z, p, q, a, w, rp, rq, e, k⟩
  obtain ⟨r, o, rfl, e1⟩ := hk p q ρ a e
  refine thn (h pins s τ ρ σ H Z p q x y v u r o I w rp rq rx ry e1) fun z s1 ⟨v1, H1, I1, r1, Z1, w1, st, vr⟩ => ?_
  exact ⟨v1, H1, I1, r1, k v1 H1 Z1 w1 st vr⟩
/-- an operator on two expressions -/
theorem tE_bin {n : En} {W : WX} {g : G} {cl : FC} {pr : Pr} {a b : E} {σ : SG} {H : Hp} {Q : VK} (h : tE n W (ev g cl false (.pr pr [a, b])) σ H Q) : tOp (rP n g cl pr) (tE n W (ev g cl false a)) (tE n W (ev g cl false b)) σ H Q := by
  obtain ⟨ρ, Z, w, hno, hx, k⟩ := h
  have e0 : ev g cl false (.pr pr [a, b]) ρ = (ev g cl false a ρ).bd (fun x ρ => (ev g cl false b ρ).bd fun y ρ => (match vals [x, y] ρ with
    | some vs => primO g cl pr vs ρ
    | none => .no)) := by
    show ((ev g cl false a ρ).bd fun x ρ => ((ev g cl false b ρ).bd fun y ρ => (O.ok [] ρ).bd fun l ρ => .ok (y :: l) ρ).bd fun l ρ => .ok (x :: l) ρ).bd (fun as ρ => (match vals as ρ with | some vs => primO g cl pr vs ρ | none => .no)) = _
    simp only [bd_assoc, ok_bd]
  rw [e0] at hno hx k
  refine tE.go w .refl (bd_no hno) hx.bd fun x ρ1 v1 H1 Z1 e1 w1 b1 _ ar1 => ?_
  rw [bd_ok e1] at hno hx k
  refine tE.go w1 b1 (bd_no hno) hx.bd fun y ρ2 v2 H2 Z2 e2 w2 b2 st ar2 => ?_
  rw [bd_ok e2] at hno hx k
  cases ev' : vals [x, y] ρ2 with
  | none => rw [ev'] at hno; exact absurd rfl hno
  | some vs =>
    have rds := ARs.vals (n := n) (H0 := H) w2 (as := [x, y]) (vs := [v1, v2]) ⟨ar1.step w1 st, ar2, trivial⟩ ev'
    rw [ev'] at hno k
    obtain ⟨p, q, rfl, rd1, rd2⟩ := RDs.two rds
    ·
      obtain ⟨z, o, e3⟩ := primO_ok hno
      exact ⟨ρ2, σ, Z2, p, q, _, w2, rd1, rd2, e3, fun v H' Z' w3 s3 ar => k _ _ v H' Z' e3 w3 (b2.trans s3) (AR.base ar fun _ h => b2.back h)⟩
theorem pe_ebin {X : Cx} {n : En} {W : WX} {g : G} {cl : FC} {op : Operator} {pr : Pr} {a b : Expr} {ca cb : E} {pos : Pos} (ho : OpR X (binaryOp op) (rP n g cl pr)) (ha : PE X a (tE n W (ev g cl false ca))) (hb : PE X b (tE n W (ev g cl false cb))) :
    PE X (.BinOp a op b pos) (tE n W (ev g cl false (.pr pr [ca, cb]))) := PE.imp (L2.pe_op ho ha hb) fun _ _ _ h => tE_bin h
theorem pe_ecmp {X : Cx} {n : En} {W : WX} {g : G} {cl : FC} {op : CmpOp} {pr : Pr} {a b : Expr} {ca cb : E} {pos : Pos} (ho : OpR X (compareOp op) (rP n g cl pr)) (ha : PE X a (tE n W (ev g cl false ca))) (hb : PE X b (tE n W (ev g cl false cb)))
    (hm : behindInMarks op b = false) : PE X (.Compare a [op] [b] pos) (tE n W (ev g cl false (.pr pr [ca, cb]))) := PE.imp (L2.pe_cmpR ho ha hb hm) fun _ _ _ h => tE_bin h
def isBl : PV → Bool
  | .bl _ => true
  | _ => false
def cmpish : Pr → Bool
  | .eq | .ne | .lt | .le | .gt | .ge | .mem | .nmem | .isN | .notN => true
  | _ => false
theorem prim_bl {pr : Pr} (hp : cmpish pr = true) {vs : List PV} {v : PV} {o : Bool} (e : prim pr vs = some (v, o)) : ∃ b, v = .bl b ∧ o = false := by
  unfold prim at e
  split at e <;> first
    | cases (show false = true from hp)
    | (unfold eqV2 at e; split at e <;> cases e; exact ⟨_, rfl, rfl⟩)
    | (unfold cmpV at e; split at e <;> cases e; exact ⟨_, rfl, rfl⟩)
    | (cases e; exact ⟨_, rfl, rfl⟩)
    | (unfold memV at e
       split at e
       · split at e <;> cases e
         exact ⟨_, rfl, rfl⟩
       · split at e <;> cases e
         exact ⟨_, rfl, rfl⟩
       · split at e <;> cases e
         exact ⟨_, rfl, rfl⟩
       · cases e)
    | cases e
theorem primO_bl {g : G} {cl : FC} {pr : Pr} (hp : cmpish pr = true) {vs : List PV} {ρ ρ' : Sl} {a : Ar} (e : primO g cl pr vs ρ = .ok a ρ') : ∃ b, a = .v (.bl b) false := by
  unfold primO at e
  split at e
  · split at e
    · split at e
      · split at e <;> cases e
        exact ⟨_, rfl⟩
      · cases e
    · cases e
  · split at e
    · split at e
      · split at e <;> cases e
        exact ⟨_, rfl⟩
      · cases e
    · cases e
  · cases hp
  · cases hp
  · split at e
    · rename_i v o e1
      obtain ⟨b, rfl, rfl⟩ := prim_bl hp e1
      cases e
      exact ⟨_, rfl⟩
    · cases e
/-- from a test's reading to its value's -/
theorem fin_val {n : En} {W : WX} {g : G} {cl : FC} {f : Sl → O Ar} {σ : SG} {H : Hp} {Q : Bool → Hp → Prop} (h : tT n W (fun ρ => fin g cl true (f ρ)) σ H Q) : tE n W f σ H fun x H' => rTr n g cl x H' Q := by
  obtain ⟨ρ, Z, w, hno, hx, k⟩ := h
  have e0 : ∀ r : O Ar, fin g cl true r = r.bd fun a ρ => (match val a ρ with
    | some p => (truthO g cl p ρ).bd fun b ρ => .ok (.v (.bl b) false) ρ
    | none => .no) := fun _ => rfl
  simp only [e0] at hno hx k
  refine tE.go w .refl (bd_no hno) hx.bd fun a ρ1 v1 H1 Z1 e1 w1 b1 _ ar1 => ?_
  rw [bd_ok e1] at hno hx k
  cases ev' : val a ρ1 with
  | none => rw [ev'] at hno; exact absurd rfl hno
  | some p =>
    rw [ev'] at hno k
    obtain ⟨b, eb⟩ := truthO_ok (bd_no hno)
    refine ⟨ρ1, σ, Z1, p, b, w1, ar1.val w1 ev', eb, fun H' Z' w2 s2 => ?_⟩
    obtain ⟨b', o, e2, q⟩ := k (.v (.bl b) false) ρ1 H' Z' (bd_ok eb) w2 (b1.trans s2)
    cases e2
    exact q
/-- any expression whose test is its value's truth -/
theorem pt_etru {X : Cx} {n : En} {W : WX} {g : G} {cl : FC} {e : Expr} {c : E} (ht : TruR X (rTr n g cl)) (he : PE X e (tE n W (ev g cl false c))) (hc : ∀ ρ, ev g cl true c ρ = fin g cl true (ev g cl false c ρ))
    (hp : ∀ whole, isTrue e X.env whole = (do let v ← whole; standAt e.pos; holding [v] (truthy v))) : PT X e (tT n W (ev g cl true c)) := by
  refine PT.imp (L2.pt_truthR he ht hp) fun σ H Q h => ?_
  have : ev g cl true c = fun ρ => fin g cl true (ev g cl false c ρ) := funext hc
  rw [this] at h
  exact fin_val h
/-- a comparison as a test -/
theorem fin_bl {n : En} {W : WX} {g : G} {cl : FC} {f : Sl → O Ar} (hf : ∀ ρ a ρ', f ρ = .ok a ρ' → ∃ b, a = .v (.bl b) false) {σ : SG} {H : Hp} {Q : Bool → Hp → Prop} (h : tT n W (fun ρ => fin g cl true (f ρ)) σ H Q) :
    tE n W f σ H fun x H' => ∃ k, x = .bl k ∧ Q k H' := by
  obtain ⟨ρ, Z, w, hno, hx, k⟩ := h
  have e0 : ∀ r : O Ar, fin g cl true r = r.bd fun a ρ => (match val a ρ with
    | some p => (truthO g cl p ρ).bd fun b ρ => .ok (.v (.bl b) false) ρ
    | none => .no) := fun _ => rfl
  simp only [e0] at hno hx k
  refine tE.go w .refl (bd_no hno) hx.bd fun a ρ1 v1 H1 Z1 e1 w1 b1 _ ar1 => ?_
  rw [bd_ok e1] at hno hx k
  obtain ⟨b, rfl⟩ := hf ρ a ρ1 e1
  have rv : RV n H1 Z1 (.bl b) v1 := ar1
  cases rv
  obtain ⟨b', o, e2, q⟩ := k (.v (.bl b) false) ρ1 H1 Z1 rfl w1 b1
  cases e2
  exact ⟨_, rfl, q⟩
theorem prE_bl {g : G} {cl : FC} {pr : Pr} (hp : cmpish pr = true) {as : List E} (ρ : Sl) (a : Ar) (ρ' : Sl) (e : ev g cl false (.pr pr as) ρ = .ok a ρ') : ∃ b, a = .v (.bl b) false := by
  have e0 : ev g cl false (.pr pr as) ρ = (evs g cl as ρ).bd fun as ρ => match vals as ρ with
    | some vs => primO g cl pr vs ρ
    | none => .no := rfl
  rw [e0] at e
  cases e1 : evs g cl as ρ with
  | no => rw [e1] at e; cases e
  | ex x r => rw [e1] at e; cases e
  | ok l r =>
    rw [e1] at e
    have e : (match vals l r with | some vs => primO g cl pr vs r | none => .no) = O.ok a ρ' := e
    split at e
    · exact primO_bl hp e
    · cases e
theorem pt_ecmp {X : Cx} {n : En} {W : WX} {g : G} {cl : FC} {op : CmpOp} {pr : Pr} {a b : Expr} {ca cb : E} {pos : Pos} (ho : OpR X (compareOp op) (rP n g cl pr)) (ha : PE X a (tE n W (ev g cl false ca))) (hb : PE X b (tE n W (ev g cl false cb)))
    (hm : behindInMarks op b = false) (hp : cmpish pr = true) : PT X (.Compare a [op] [b] pos) (tT n W (ev g cl true (.pr pr [ca, cb]))) := by
  refine PT.imp (L2.pt_cmpR ho ha hb hm) fun σ H Q h => ?_
  exact tE_bin (fin_bl (f := ev g cl false (.pr pr [ca, cb])) (prE_bl hp) h)
/-! is None -/
theorem tE_un {n : En} {W : WX} {g : G} {cl : FC} {pr : Pr} {a : E} {σ : SG} {H : Hp} {Q : VK} (h : tE n W (ev g cl false (.pr pr [a])) σ H Q) : tE n W (ev g cl false a) σ H fun x H1 => ∃ ρ Z p r, Wd n ρ σ H1 Z ∧ RD n H1 Z p x ∧ primO g cl pr [p] ρ = .ok r ρ ∧
    ∀ v H' Z', Wd n ρ σ H' Z' → Stp ρ σ H1 Z ρ σ H' Z' → AR n H1 ρ σ H' Z' r v → Q v H' := by
  obtain ⟨ρ, Z, w, hno, hx, k⟩ := h
  have e0 : ev g cl false (.pr pr [a]) ρ = (ev g cl false a ρ).bd (fun x ρ => (match vals [x] ρ with
    | some vs => primO g cl pr vs ρ
    | none => .no)) := by
    show ((ev g cl false a ρ).bd fun x ρ => (O.ok [] ρ).bd fun l ρ => .ok (x :: l) ρ).bd (fun as ρ => (match vals as ρ with | some vs => primO g cl pr vs ρ | none => .no)) = _
    cases ev g cl false a ρ <;> rfl
  rw [e0] at hno hx k
  refine tE.go w .refl (bd_no hno) hx.bd fun x ρ1 v1 H1 Z1 e1 w1 b1 _ ar1 => ?_
  rw [bd_ok e1] at hno hx k
  cases ev' : vals [x] ρ1 with
  | none => rw [ev'] at hno; exact absurd rfl hno
  | some vs =>
    have rds := ARs.vals (n := n) (H0 := H) w1 (as := [x]) (vs := [v1]) ⟨ar1, trivial⟩ ev'
    rw [ev'] at hno k
    obtain ⟨p, rfl, rd1⟩ := RDs.one rds
    ·
      obtain ⟨z, o, e3⟩ := primO_ok hno
      exact ⟨ρ1, Z1, p, _, w1, rd1, e3, fun v H' Z' w3 s3 ar => k _ _ v H' Z' e3 w3 (b1.trans s3) (AR.base ar fun _ h => b1.back h)⟩
theorem RD.isN {n : En} {H : Hp} {Z : Addr → Prop} {p : PV} {x : V} (r : RD n H Z p x) : decide (x = .non) = isNon p := by
  rcases r with r | ⟨a, e, r⟩
  · cases r <;> simp [isNon]
  · subst e
    cases r <;> simp [isNon]
section
variable {X : Cx} {n : En} {W : WX} {g : G} {cl : FC} {a b c t : Expr} {ca cb cc ct : E} {pos pos' : Pos} {rest : List Expr} {j : Nat}
theorem tE_isN {σ : SG} {H : Hp} {Q : VK} (h : tE n W (ev g cl false (.pr .isN [ca])) σ H Q) : tIsN (tE n W (ev g cl false ca)) σ H Q := by
  obtain ⟨ρ, Z, w, hno, hx, k⟩ := tE_un h
  refine ⟨ρ, Z, w, hno, hx, fun a ρ' v H' Z' e w' st ar => ?_⟩
  obtain ⟨ρ1, Z1, p, r, w1, rd, e1, k1⟩ := k a ρ' v H' Z' e w' st ar
  have e1 : O.ok (Ar.v (.bl (isNon p)) false) ρ1 = O.ok r ρ1 := e1
  cases e1
  rw [rd.isN]
  exact k1 _ _ Z1 w1 .refl (.bl _)
theorem tE_notN {σ : SG} {H : Hp} {Q : VK} (h : tE n W (ev g cl false (.pr .notN [ca])) σ H Q) : tNotN (tE n W (ev g cl false ca)) σ H Q := by
  obtain ⟨ρ, Z, w, hno, hx, k⟩ := tE_un h
  refine ⟨ρ, Z, w, hno, hx, fun a ρ' v H' Z' e w' st ar => ?_⟩
  obtain ⟨ρ1, Z1, p, r, w1, rd, e1, k1⟩ := k a ρ' v H' Z' e w' st ar
  have e1 : O.ok (Ar.v (.bl (!isNon p)) false) ρ1 = O.ok r ρ1 := e1
  cases e1
  rw [rd.isN]
  exact k1 _ _ Z1 w1 .refl (.bl _)
theorem pe_eisN (ha : PE X a (tE n W (ev g cl false ca))) : PE X (.Compare a [.Is] [.Constant .none j pos'] pos) (tE n W (ev g cl false (.pr .isN [ca]))) := PE.imp (pe_cmp (pc_isN ha)) fun _ _ _ h => tE_isN h
theorem pe_enotN (ha : PE X a (tE n W (ev g cl false ca))) : PE X (.Compare a [.IsNot] [.Constant .none j pos'] pos) (tE n W (ev g cl false (.pr .notN [ca]))) := PE.imp (pe_cmp (pc_notN ha)) fun _ _ _ h => tE_notN h
theorem pt_eisN (ha : PE X a (tE n W (ev g cl false ca))) : PT X (.Compare a [.Is] [.Constant .none j pos'] pos) (tT n W (ev g cl true (.pr .isN [ca]))) := PT.imp (pt_cmp (pc_isN ha)) fun _ _ _ h => tE_isN (fin_bl (f := ev g cl false (.pr .isN [ca])) (prE_bl rfl) h)
theorem pt_enotN (ha : PE X a (tE n W (ev g cl false ca))) : PT X (.Compare a [.IsNot] [.Constant .none j pos'] pos) (tT n W (ev g cl true (.pr .notN [ca]))) := PT.imp (pt_cmp (pc_notN ha)) fun _ _ _ h => tE_notN (fin_bl (f := ev g cl false (.pr .notN [ca])) (prE_bl rfl) h)
/-! and, or, not, if-else: as tests -/
theorem ptno {f : O Ar} {F : Ar → Sl → O Ar} (h : f.bd F ≠ .no) : f ≠ .no := bd_no h
theorem pw_eand (ha : PT X a (tT n W (ev g cl true ca))) (hb : PW X (.BoolOp .And (b :: rest) pos) (tT n W (ev g cl true cb))) : PW X (.BoolOp .And (a :: b :: rest) pos) (tT n W (ev g cl true (.and_ ca cb))) := by
  refine PW.imp (pw_and ha hb) fun σ H Q h => ?_
  obtain ⟨ρ, Z, w, hno, hx, k⟩ := h
  have e0 : ev g cl true (.and_ ca cb) ρ = (ev g cl true ca ρ).bd fun x ρ => (match x with
      | .v (.bl true) _ => ev g cl true cb ρ
      | .v (.bl false) _ => .ok (.v (.bl false) false) ρ
      | _ => .no) := rfl
  rw [e0] at hno hx k
  refine tT.go w .refl (bd_no hno) hx.bd fun x ρ1 H1 Z1 e1 w1 b1 _ => ?_
  rw [bd_ok e1] at hno hx k
  split at hno
  · refine ⟨true, _, rfl, ?_⟩
    rw [if_pos rfl]
    exact tT.go w1 b1 hno hx fun y ρ2 H2 Z2 e2 w2 b2 _ => k y ρ2 H2 Z2 e2 w2 b2
  · refine ⟨false, _, rfl, ?_⟩
    rw [if_neg (by decide)]
    obtain ⟨b', o, e2, q⟩ := k _ ρ1 H1 Z1 rfl w1 b1
    cases e2
    exact q
  · exact absurd rfl hno
theorem pw_eor (ha : PT X a (tT n W (ev g cl true ca))) (hb : PW X (.BoolOp .Or (b :: rest) pos) (tT n W (ev g cl true cb))) : PW X (.BoolOp .Or (a :: b :: rest) pos) (tT n W (ev g cl true (.or_ ca cb))) := by
  refine PW.imp (pw_or ha hb) fun σ H Q h => ?_
  obtain ⟨ρ, Z, w, hno, hx, k⟩ := h
  have e0 : ev g cl true (.or_ ca cb) ρ = (ev g cl true ca ρ).bd fun x ρ => (match x with
      | .v (.bl true) _ => .ok (.v (.bl true) false) ρ
      | .v (.bl false) _ => ev g cl true cb ρ
      | _ => .no) := rfl
  rw [e0] at hno hx k
  refine tT.go w .refl (bd_no hno) hx.bd fun x ρ1 H1 Z1 e1 w1 b1 _ => ?_
  rw [bd_ok e1] at hno hx k
  split at hno
  · refine ⟨true, _, rfl, ?_⟩
    rw [if_pos rfl]
    obtain ⟨b', o, e2, q⟩ := k _ ρ1 H1 Z1 rfl w1 b1
    cases e2
    exact q
  · refine ⟨false, _, rfl, ?_⟩
    rw [if_neg (by decide)]
    exact tT.go w1 b1 hno hx fun y ρ2 H2 Z2 e2 w2 b2 _ => k y ρ2 H2 Z2 e2 w2 b2
  · exact absurd rfl hno
theorem pt_enot (ha : PT X a (tT n W (ev g cl true ca))) : PT X (.UnaryOp .Not a pos) (tT n W (ev g cl true (.not_ ca))) := by
  refine PT.imp (pt_not ha) fun σ H Q h => ?_
  obtain ⟨ρ, Z, w, hno, hx, k⟩ := h
  have e0 : ev g cl true (.not_ ca) ρ = (ev g cl true ca ρ).bd fun x ρ => (match x with
      | .v (.bl b) _ => .ok (.v (.bl (!b)) false) ρ
      | _ => .no) := rfl
  rw [e0] at hno hx k
  refine tT.go w .refl (bd_no hno) hx.bd fun x ρ1 H1 Z1 e1 w1 b1 _ => ?_
  rw [bd_ok e1] at hno hx k
  split at hno
  · obtain ⟨b', o, e2, q⟩ := k _ ρ1 H1 Z1 rfl w1 b1
    cases e2
    exact ⟨_, _, rfl, q⟩
  · exact absurd rfl hno
theorem pt_eifExp {t : Expr} (ht : PT X t (tT n W (ev g cl true ct))) (ha : PT X a (tT n W (ev g cl true ca))) (hb : PT X b (tT n W (ev g cl true cb))) : PT X (.IfExp t a b pos) (tT n W (ev g cl true (.ite ct ca cb))) := by
  refine ⟨fun pins s σ H Q I h => ?_⟩
  obtain ⟨ρ, Z, w, hno, hx, k⟩ := h
  have e0 : ev g cl true (.ite ct ca cb) ρ = (ev g cl true ct ρ).bd fun x ρ => (match x with
      | .v (.bl true) _ => ev g cl true ca ρ
      | .v (.bl false) _ => ev g cl true cb ρ
      | _ => .no) := rfl
  rw [e0] at hno hx k
  refine isTrue_IfExp (thn (ht.run pins s σ H (fun c H1 => if c = true then tT n W (ev g cl true ca) σ H1 Q else tT n W (ev g cl true cb) σ H1 Q) I (tT.go w .refl (bd_no hno) hx.bd fun x ρ1 H1 Z1 e1 w1 b1 _ => ?_)) fun c s1 ⟨H1, I1, q⟩ => ?_)
  · rw [bd_ok e1] at hno hx k
    split at hno
    · refine ⟨true, _, rfl, ?_⟩
      rw [if_pos rfl]
      exact tT.go w1 b1 hno hx fun y ρ2 H2 Z2 e2 w2 b2 _ => k y ρ2 H2 Z2 e2 w2 b2
    · refine ⟨false, _, rfl, ?_⟩
      rw [if_neg (by decide)]
      exact tT.go w1 b1 hno hx fun y ρ2 H2 Z2 e2 w2 b2 _ => k y ρ2 H2 Z2 e2 w2 b2
    · exact absurd rfl hno
  · cases c with
    | true => rw [if_pos rfl] at q ⊢; exact ha.run pins s1 σ H1 Q I1 q
    | false => rw [if_neg (by decide)] at q ⊢; exact hb.run pins s1 σ H1 Q I1 q
/-! as values -/
theorem RD.bl' {H : Hp} {Z : Addr → Prop} {b : Bool} {x : V} (r : RD n H Z (.bl b) x) : x = .bl b := RD.bl r
theorem pe_notR {r : V → Hp → (Bool → Hp → Prop) → Prop} {ta : TE} (hr : TruR X r) (ha : PE X a ta) : PE X (.UnaryOp .Not a pos) (fun σ H Q => ta σ H fun x H' => r x H' fun c H2 => Q (.bl (!c)) H2) := by
  refine ⟨fun pins s σ H Q I h => ?_⟩
  refine UnaryOp_ (thn (ha.run pins s σ H _ I h) fun v s1 ⟨x, H1, I1, r1, q1⟩ => ?_)
  exact not_of (thn (hr pins s1 σ H1 x v (fun c H2 => Q (.bl (!c)) H2) I1 r1 q1) fun c s2 ⟨H2, I2, q2⟩ => ⟨.bl (!c), H2, I2, rfl, q2⟩)
theorem pe_enot (ht : TruR X (rTr n g cl)) (ha : PE X a (tE n W (ev g cl false ca))) : PE X (.UnaryOp .Not a pos) (tE n W (ev g cl false (.not_ ca))) := by
  refine PE.imp (pe_notR ht ha) fun σ H Q h => ?_
  refine fin_val (n := n) (W := W) ?_
  obtain ⟨ρ, Z, w, hno, hx, k⟩ := h
  have e0 : ev g cl false (.not_ ca) ρ = (fin g cl true (ev g cl false ca ρ)).bd fun x ρ => (match x with
      | .v (.bl b) _ => .ok (.v (.bl (!b)) false) ρ
      | _ => .no) := rfl
  rw [e0] at hno hx k
  refine tT.go (f := fun ρ => fin g cl true (ev g cl false ca ρ)) w .refl (bd_no hno) hx.bd fun x ρ1 H1 Z1 e1 w1 b1 _ => ?_
  rw [bd_ok e1] at hno hx k
  split at hno
  · exact ⟨_, _, rfl, k _ ρ1 _ H1 Z1 rfl w1 b1 (.bl _)⟩
  · exact absurd rfl hno
theorem pe_eand (ha : PE X a (tE n W (ev g cl false ca))) (hb : PE X (.BoolOp .And (b :: rest) pos) (tE n W (ev g cl false cb))) : PE X (.BoolOp .And (a :: b :: rest) pos) (tE n W (ev g cl false (.and_ ca cb))) := by
  refine PE.imp (pe_and ha hb) fun σ H Q h => ?_
  obtain ⟨ρ, Z, w, hno, hx, k⟩ := h
  have e0 : ev g cl false (.and_ ca cb) ρ = (ev g cl false ca ρ).bd fun x ρ => (match val x ρ with
      | some (.bl true) => ev g cl false cb ρ
      | some (.bl false) => .ok (.v (.bl false) false) ρ
      | _ => .no) := rfl
  rw [e0] at hno hx k
  refine tE.go w .refl (bd_no hno) hx.bd fun x ρ1 v1 H1 Z1 e1 w1 b1 _ ar => ?_
  rw [bd_ok e1] at hno hx k
  split at hno
  · rename_i ev'
    refine ⟨true, (ar.val w1 ev').bl, ?_⟩
    rw [if_pos rfl]
    rw [ev'] at hx k
    exact tE.go w1 b1 hno hx fun y ρ2 v2 H2 Z2 e2 w2 b2 _ ar2 => k y ρ2 v2 H2 Z2 e2 w2 b2 ar2
  · rename_i ev'
    refine ⟨false, (ar.val w1 ev').bl, ?_⟩
    rw [if_neg (by decide)]
    rw [ev'] at k
    exact k _ ρ1 _ H1 Z1 rfl w1 b1 (.bl false)
  · exact absurd rfl hno
theorem pe_eor (ha : PE X a (tE n W (ev g cl false ca))) (hb : PE X (.BoolOp .Or (b :: rest) pos) (tE n W (ev g cl false cb))) : PE X (.BoolOp .Or (a :: b :: rest) pos) (tE n W (ev g cl false (.or_ ca cb))) := by
  refine PE.imp (pe_or ha hb) fun σ H Q h => ?_
  obtain ⟨ρ, Z, w, hno, hx, k⟩ := h
  have e0 : ev g cl false (.or_ ca cb) ρ = (ev g cl false ca ρ).bd fun x ρ => (match val x ρ with
      | some (.bl true) => .ok (.v (.bl true) false) ρ
      | some (.bl false) => ev g cl false cb ρ
      | _ => .no) := rfl
  rw [e0] at hno hx k
  refine tE.go w .refl (bd_no hno) hx.bd fun x ρ1 v1 H1 Z1 e1 w1 b1 _ ar => ?_
  rw [bd_ok e1] at hno hx k
  split at hno
  · rename_i ev'
    refine ⟨true, (ar.val w1 ev').bl, ?_⟩
    rw [if_pos rfl]
    rw [ev'] at k
    exact k _ ρ1 _ H1 Z1 rfl w1 b1 (.bl true)
  · rename_i ev'
    refine ⟨false, (ar.val w1 ev').bl, ?_⟩
    rw [if_neg (by decide)]
    rw [ev'] at hx k
    exact tE.go w1 b1 hno hx fun y ρ2 v2 H2 Z2 e2 w2 b2 _ ar2 => k y ρ2 v2 H2 Z2 e2 w2 b2 ar2
  · exact absurd rfl hno
theorem pe_eifExp {t : Expr} (ht : PT X t (tT n W (ev g cl true ct))) (ha : PE X a (tE n W (ev g cl false ca))) (hb : PE X b (tE n W (ev g cl false cb))) : PE X (.IfExp t a b pos) (tE n W (ev g cl false (.ite ct ca cb))) := by
  refine PE.imp (pe_ifExp ht ha hb) fun σ H Q h => ?_
  obtain ⟨ρ, Z, w, hno, hx, k⟩ := h
  have e0 : ev g cl false (.ite ct ca cb) ρ = (ev g cl true ct ρ).bd fun x ρ => (match x with
      | .v (.bl true) _ => ev g cl false ca ρ
      | .v (.bl false) _ => ev g cl false cb ρ
      | _ => .no) := rfl
  rw [e0] at hno hx k
  refine tT.go w .refl (bd_no hno) hx.bd fun x ρ1 H1 Z1 e1 w1 b1 _ => ?_
  rw [bd_ok e1] at hno hx k
  split at hno
  · refine ⟨true, _, rfl, ?_⟩
    rw [if_pos rfl]
    exact tE.go w1 b1 hno hx fun y ρ2 v2 H2 Z2 e2 w2 b2 _ ar2 => k y ρ2 v2 H2 Z2 e2 w2 b2 ar2
  · refine ⟨false, _, rfl, ?_⟩
    rw [if_neg (by decide)]
    exact tE.go w1 b1 hno hx fun y ρ2 v2 H2 Z2 e2 w2 b2 _ ar2 => k y ρ2 v2 H2 Z2 e2 w2 b2 ar2
  · exact absurd rfl hno
end
end Ev

set_option Elab.async false
set_option linter.all false
set_option maxRecDepth 100000
/-! Dicts by tuples. -/
namespace Ev
open PySem PySem.Spec PyProof.Rows L2

theorem DO.ok {P : Program} {w : World} {n : En} {H : Hp} {h : Heap} {o : Obj} {a : Addr} {xs : List (NestedKey × Addr × Value)} (d : DOb n o a xs h) : ObjOk P w H h a (DO n o a xs) := by
  refine ⟨d, ⟨o, d.2.2.1⟩, fun h1 h2 ⟨z, y, ho, r⟩ k => ⟨z, y, k o ho, r⟩⟩
theorem DO.get {P : Program} {w : World} {n : En} {H : Hp} {h : Heap} {o : Obj} {a : Addr} {xs : List (NestedKey × Addr × Value)} (ok : HOk P w H h) (e : H a = some (DO n o a xs)) : DOb n o a xs h := (ok a _ e).1

/-! ### keys -/
section
variable {n : En} {P : Program} {w : World} {H : Hp} {Z : Addr → Prop} {h : Heap}
mutual
theorem RV.nested (ok : HOk P w H h) (ki : n.K.In h) : ∀ {p : PV} {v : V} {u : Value} {k : Nat}, RV n H Z p v → RelV v u → hkD p k = true → NestedIs h (toK p) u ∧ (toK p).depth ≤ k
  | _, _, _, _, .non, r, _ => by cases r; exact ⟨.none, Nat.zero_le _⟩
  | _, _, _, _, .bl b, r, _ => by cases r; exact ⟨.bool rfl, Nat.zero_le _⟩
  | _, _, _, _, .int i, r, _ => by obtain ⟨t, rfl⟩ := r; exact ⟨.int i t, Nat.zero_le _⟩
  | _, _, _, _, .str x, r, _ => by obtain ⟨t, rfl⟩ := r; exact ⟨.text _ t, Nat.zero_le _⟩
  | _, _, _, 0, .tup z e l, r, hk => by cases (show false = true from hk)
  | _, _, u, k + 1, .tup (a := a) z e l, r, hk => by
    obtain rfl : u = Value.ref a := r
    obtain ⟨_, its, rv, o, ho, hc, m, hd⟩ := Rd.ok e ok
    obtain ⟨h1, h2⟩ := RVs.nested ok ki l rv (show hkDs _ k = true from hk)
    exact ⟨.tup ho hc hd (by simpa using h1), Nat.succ_le_succ h2⟩
  | _, _, _, 0, .tupK e l, r, hk => by cases (show false = true from hk)
  | _, _, u, k + 1, .tupK (a := a) ⟨o, its, m, hl, hc, hd, _, rv⟩ l, r, hk => by
    obtain rfl : u = Value.ref a := r
    obtain ⟨h1, h2⟩ := RVs.nested ok ki l rv (show hkDs _ k = true from hk)
    exact ⟨.tup (ki a o hl) hc hd h1, Nat.succ_le_succ h2⟩
  | _, _, _, _, .lst z e l, r, hk => by cases (show false = true from hk)
  | _, _, _, _, .ins z e l, r, hk => by cases (show false = true from hk)
  | _, _, _, _, .dct z e l, r, hk => by cases (show false = true from hk)
theorem RVs.nested (ok : HOk P w H h) (ki : n.K.In h) : ∀ {p : List PV} {v : List V} {u : List Value} {k : Nat}, RVs n H Z p v → Vals v u → hkDs p k = true → NestedAll h (toKs p) u ∧ NestedKey.depthAll (toKs p) ≤ k
  | _, _, _, _, .nil, r, _ => by cases r; exact ⟨.nil, Nat.zero_le _⟩
  | _, _, _, k, .cons (p := p) (l := l) a b, r, hk => by
    have hk : (hkD p k && hkDs l k) = true := hk
    rw [Bool.and_eq_true] at hk
    cases r with
    | cons r1 r2 =>
      obtain ⟨h1, h2⟩ := RV.nested ok ki a r1 hk.1
      obtain ⟨h3, h4⟩ := RVs.nested ok ki b r2 hk.2
      exact ⟨.cons h1 h3, Nat.max_le.mpr ⟨h2, h4⟩⟩
end
theorem hashy_key {p : PV} (e : hashy p = true) : hkD p 8 = true := by
  cases p <;> first | exact e | cases (show false = true from e)
theorem RV.keyAt (ok : HOk P w H h) (ki : n.K.In h) {p : PV} {b : Addr} (r : RV n H Z p (.ref b)) (e : hashy p = true) : (nestedKind P w).is h (toK p) b := RV.nested ok ki (u := .ref b) r rfl (hashy_key e)
theorem hashy_ref {p : PV} {v : V} (r : RV n H Z p v) (e : hashy p = true) : ∃ b, v = .ref b := by
  cases r with
  | tup z r l => exact ⟨_, rfl⟩
  | tupK r l => exact ⟨_, rfl⟩
  | _ => cases (show false = true from e)
mutual
theorem eqv_toK : ∀ (p q : PV) (k j : Nat), hkD p k = true → hkD q j = true → eqv p q = decide (toK p = toK q)
  | .non, q, k, j, h, h' => by
    cases q with
    | non => rfl
    | bl b => exact (decide_eq_false (fun e => NestedKey.noConfusion e)).symm
    | int i => exact (decide_eq_false (fun e => NestedKey.noConfusion e)).symm
    | str x => exact (decide_eq_false (fun e => NestedKey.noConfusion e)).symm
    | tup l => exact (decide_eq_false (fun e => NestedKey.noConfusion e)).symm
    | _ => cases (show false = true from h')
  | .bl b, q, k, j, h, h' => by
    cases q with
    | non => exact (decide_eq_false (fun e => NestedKey.noConfusion e)).symm
    | bl c => cases b <;> cases c <;> simp [eqv, toK]
    | int i => cases b <;> simp [eqv, toK, b2i]
    | str x => exact (decide_eq_false (fun e => NestedKey.noConfusion e)).symm
    | tup l => exact (decide_eq_false (fun e => NestedKey.noConfusion e)).symm
    | _ => cases (show false = true from h')
  | .int b, q, k, j, h, h' => by
    cases q with
    | non => exact (decide_eq_false (fun e => NestedKey.noConfusion e)).symm
    | bl c => cases c <;> simp [eqv, toK, b2i]
    | int i => simp [eqv, toK]
    | str x => exact (decide_eq_false (fun e => NestedKey.noConfusion e)).symm
    | tup l => exact (decide_eq_false (fun e => NestedKey.noConfusion e)).symm
    | _ => cases (show false = true from h')
  | .str b, q, k, j, h, h' => by
    cases q with
    | non => exact (decide_eq_false (fun e => NestedKey.noConfusion e)).symm
    | bl c => exact (decide_eq_false (fun e => NestedKey.noConfusion e)).symm
    | int i => exact (decide_eq_false (fun e => NestedKey.noConfusion e)).symm
    | str x => simp [eqv, toK, strV]
    | tup l => exact (decide_eq_false (fun e => NestedKey.noConfusion e)).symm
    | _ => cases (show false = true from h')
  | .tup l, q, 0, j, h, h' => by cases (show false = true from h)
  | .tup l, q, k + 1, j, h, h' => by
    cases q with
    | non => exact (decide_eq_false (fun e => NestedKey.noConfusion e)).symm
    | bl c => exact (decide_eq_false (fun e => NestedKey.noConfusion e)).symm
    | int i => exact (decide_eq_false (fun e => NestedKey.noConfusion e)).symm
    | str x => exact (decide_eq_false (fun e => NestedKey.noConfusion e)).symm
    | tup m =>
      cases j with
      | zero => cases (show false = true from h')
      | succ j =>
        have z := eqvs_toK l m k j h h'
        show eqvs l m = decide (NestedKey.tup (toKs l) = NestedKey.tup (toKs m))
        rw [z]
        congr 1
        simp
    | _ => cases (show false = true from h')
  | .lst l, q, k, j, h, h' => by cases (show false = true from h)
  | .dct l, q, k, j, h, h' => by cases (show false = true from h)
  | .ins c l, q, k, j, h, h' => by cases (show false = true from h)
  | .lam l, q, k, j, h, h' => by cases (show false = true from h)
theorem eqvs_toK : ∀ (p q : List PV) (k j : Nat), hkDs p k = true → hkDs q j = true → eqvs p q = decide (toKs p = toKs q)
  | [], [], _, _, _, _ => rfl
  | [], _ :: _, _, _, _, _ => by simp [eqvs, toKs]
  | _ :: _, [], _, _, _, _ => by simp [eqvs, toKs]
  | a :: r, b :: t, k, j, h, h' => by
    have h : (hkD a k && hkDs r k) = true := h
    have h' : (hkD b j && hkDs t j) = true := h'
    rw [Bool.and_eq_true] at h h'
    show (eqv a b && eqvs r t) = decide (toK a :: toKs r = toK b :: toKs t)
    rw [eqv_toK a b k j h.1 h'.1, eqvs_toK r t k j h.2 h'.2, Bool.eq_iff_iff]
    simp
end
theorem eqv_key {p q : PV} (h : hashy p = true) (h' : hashy q = true) : eqv p q = decide (toK p = toK q) := eqv_toK p q 8 8 (hashy_key h) (hashy_key h')
/-! ### a dict's entries -/
theorem RKs.len {l : List (PV × PV)} {xs : List (NestedKey × Addr × Value)} (r : RKs n H Z l xs) : xs.length = l.length := by
  induction l generalizing xs with
  | nil => cases r; rfl
  | cons a l ih =>
    cases r with
    | cons _ _ _ _ t => rw [List.length_cons, List.length_cons, ih t]
theorem RKs.keysOk (ok : HOk P w H h) (ki : n.K.In h) {l : List (PV × PV)} {xs : List (NestedKey × Addr × Value)} (r : RKs n H Z l xs) : ∀ x ∈ xs, (nestedKind P w).is h x.1 x.2.1 := by
  induction l generalizing xs with
  | nil => cases r; intro x hx; cases hx
  | cons a l ih =>
    cases r with
    | cons hk k _ _ t =>
      intro x hx
      rcases List.mem_cons.mp hx with e | hx
      · subst e; exact k.keyAt ok ki hk
      · exact ih t x hx
theorem RKs.look {l : List (PV × PV)} {xs : List (NestedKey × Addr × Value)} (r : RKs n H Z l xs) {k : PV} (hk : hashy k = true) : (dlook k l = none ∧ atKey xs (toK k) = none) ∨ ∃ v b u x, dlook k l = some v ∧ atKey xs (toK k) = some (b, u) ∧ RelV x u ∧ RV n H Z v x := by
  induction l generalizing xs with
  | nil => cases r; exact .inl ⟨rfl, rfl⟩
  | cons a l ih =>
    cases r with
    | @cons k' v b x u l xs hk' rk rv ru t =>
      have e := eqv_key hk' hk
      unfold dlook atKey
      by_cases c : toK k' = toK k
      · rw [if_pos (by rw [e]; simpa using c), List.find?_cons_of_pos (by simpa using c)]
        exact .inr ⟨_, _, _, _, rfl, rfl, ru, rv⟩
      · rw [if_neg (by rw [e]; simpa using c), List.find?_cons_of_neg (by simpa using c)]
        exact ih t
theorem RKs.put {l : List (PV × PV)} {xs : List (NestedKey × Addr × Value)} (r : RKs n H Z l xs) (nd : (xs.map (·.1)).Nodup) {k v : PV} {b : Addr} {x : V} {u : Value} (hk : hashy k = true) (rk : RV n H Z k (.ref b)) (rv : RV n H Z v x) (ru : RelV x u) :
    RKs n H Z (dput k v l) (storedH xs (toK k) b u) := by
  induction l generalizing xs with
  | nil =>
    cases r
    exact .cons hk rk rv ru .nil
  | cons a l ih =>
    cases r with
    | @cons k' v' b' x' u' l xs hk' rk' rv' ru' t =>
      have e := eqv_key hk' hk
      rw [List.map_cons, List.nodup_cons] at nd
      unfold dput
      by_cases c : toK k' = toK k
      · rw [if_pos (by rw [e]; simpa using c)]
        have e1 : storedH ((toK k', b', u') :: xs) (toK k) b u = (toK k', b', u) :: xs := by
          rw [storedH_old (p := (b', u')) (by unfold atKey; rw [List.find?_cons_of_pos (by simpa using c)]; rfl), List.map_cons, map_putAt_of_not_mem _ _ _ (by rw [← c]; exact nd.1)]
          unfold putAt
          rw [if_pos c]
        rw [e1]
        exact .cons hk' rk' rv ru t
      · rw [if_neg (by rw [e]; simpa using c)]
        have e1 : storedH ((toK k', b', u') :: xs) (toK k) b u = (toK k', b', u') :: storedH xs (toK k) b u := by
          have e2 : atKey ((toK k', b', u') :: xs) (toK k) = atKey xs (toK k) := by
            unfold atKey
            rw [List.find?_cons_of_neg (by simpa using c)]
          unfold storedH
          rw [e2]
          split
          · rw [List.map_cons]
            unfold putAt
            rw [if_neg c]
          · rfl
        rw [e1]
        exact .cons hk' rk' rv' ru' (ih t nd.2)
theorem dput_len (k v : PV) : ∀ l : List (PV × PV), (dput k v l).length ≤ l.length + 1
  | [] => Nat.le_refl _
  | (a, b) :: r => by
    unfold dput
    split
    · exact Nat.le_succ _
    · rw [List.length_cons, List.length_cons]
      exact Nat.succ_le_succ (dput_len k v r)
theorem DOb.of {o : Obj} (d : DOb n o a xs h) (hP : n.P = P) (hw : n.w = w) (ko : ∀ x ∈ xs, (nestedKind P w).is h x.1 x.2.1) : h.DictOfH (nestedKind P w) a xs := by
  subst hP hw
  obtain ⟨_, _, ho, es, ep, hc, hd, he, nd⟩ := d
  exact ⟨o, es, ep, ho, hc, hd, he, ko, nd⟩
theorem DOb.nodup {o : Obj} (d : DOb n o a xs h) : (xs.map (·.1)).Nodup := d.2.2.2.choose_spec.choose_spec.2.2.2
theorem RD.dct {l : List (PV × PV)} {v : V} (r : RD n H Z (.dct l) v) : ∃ a o xs, v = .ref a ∧ H a = some (DO n o a xs) ∧ RKs n H Z l xs := by
  rcases r with r | ⟨a, e, r⟩
  · cases r with
    | dct z r l => exact ⟨_, _, _, rfl, r, l⟩
  · subst e
    cases r with
    | dct r l => exact ⟨_, _, _, rfl, r, l⟩
theorem RD.keyV {p : PV} {v : V} (r : RD n H Z p v) (e : hashy p = true) : ∃ b, v = .ref b ∧ RV n H Z p (.ref b) := by
  rcases r with r | ⟨a, _, r⟩
  · obtain ⟨b, rfl⟩ := hashy_ref r e
    exact ⟨b, rfl, r⟩
  · cases r <;> cases (show false = true from e)
end
section
variable {X : Cx} {n : En} {pins : List (Addr × Obj)} {s : Shared} {τ : SG} {ρ : Sl} {σ : SG} {H : Hp} {Z : Addr → Prop}
structure Fit (X : Cx) (n : En) : Prop where
  K : n.K = X.K
  P : n.P = X.prog
  w : n.w = X.w
  hu : X.A.units + 65 < cLine
theorem Fit.room (f : Fit X n) : (nestedKind X.prog X.w).room X.A.in1 := by
  have := f.hu
  show X.A.units + 1 + 8 < cLine
  omega
theorem dct_at (f : Fit X n) (I : Inv X pins τ H s) {a : Addr} {o : Obj} {xs : List (NestedKey × Addr × Value)} {l : List (PV × PV)} (e : H a = some (DO n o a xs)) (r : RKs n H Z l xs) : s.heap.DictOfH (nestedKind X.prog X.w) a xs ∧ (a == sysModules) = false ∧ (xs.map (·.1)).Nodup := by
  have d := DO.get I.hok e
  exact ⟨d.of f.P f.w (r.keysOk I.hok (by rw [f.K]; exact I.kIn)), d.1, d.nodup⟩
theorem key_at (f : Fit X n) (I : Inv X pins τ H s) {k : PV} {b : Addr} (rk : RV n H Z k (.ref b)) (hk : hashy k = true) : (nestedKind X.prog X.w).is s.heap (toK k) b := rk.keyAt I.hok (by rw [f.K]; exact I.kIn) hk
theorem o_mem (f : Fit X n) (neg : Bool) : Op2 X n (compareOp (if neg then .NotIn else .In)) (memV neg) := by
  intro pins s τ ρ σ H Z p q x y u v r o I w rp rq ru rv e
  cases q with
  | dct d =>
    have e : (if hashy p then some (PV.bl (if neg then !(dlook p d).isSome else (dlook p d).isSome), false) else none) = some (r, o) := e
    by_cases hk : hashy p = true
    · rw [if_pos hk] at e
      cases e
      obtain ⟨b, rfl, rk⟩ := rp.keyV hk
      obtain ⟨a, ob, xs, rfl, ea, rl⟩ := rq.dct
      obtain rfl : u = Value.ref b := ru
      obtain rfl : v = Value.ref a := rv
      obtain ⟨dd, hd, _⟩ := dct_at f I ea rl
      have es : (atKey xs (toK p)).isSome = (dlook p d).isSome := by
        rcases rl.look hk with ⟨e1, e2⟩ | ⟨_, _, _, _, e1, e2, _⟩ <;> rw [e1, e2] <;> rfl
      cases neg with
      | false =>
        refine wpAny_in_heap f.room (key_at f I rk hk) hd dd ?_
        rw [es]
        exact ⟨.bl _, H, I.tok _, rfl, qv_val w (.bl _)⟩
      | true =>
        show wpAny _ _ (do return Value.bool (!(← contains (.ref a) (.ref b)))) _ _ s
        refine wpAny_bind (wpAny_contains_heap f.room (key_at f I rk hk) hd dd (wpAny_pure ?_))
        rw [es]
        exact ⟨.bl _, H, I.tok _, rfl, qv_val w (.bl _)⟩
    · rw [if_neg hk] at e; cases e
  | lst l => exact o_memL f.K f.hu neg pins s τ ρ σ H Z p (.lst l) x y u v r o I w rp rq ru rv e
  | tup l => exact o_memL f.K f.hu neg pins s τ ρ σ H Z p (.tup l) x y u v r o I w rp rq ru rv e
  | _ => cases e
theorem o_ix (f : Fit X n) {value slice : Expr} {p q : PV} {x y : V} {u v : Value} {r : PV} {o : Bool} (I : Inv X pins τ H s) (w : Wd n ρ σ H Z) (rp : RD n H Z p x) (rq : RD n H Z q y) (ru : RelV x u) (rv : RelV y v)
    (e : ixV p q = some (r, o)) (hs : subscripted slice false u v = operate [u, v] (getItem u v)) : wpAny (model X.prog X.w) X.A (subscriptTail value slice u v) (EP X pins τ (QV n ρ σ H Z r o)) X.xe s := by
  by_cases hp : ∀ d, p ≠ .dct d
  · exact o_ixS f.K I w rp rq ru rv hp e hs
  · obtain ⟨d, rfl⟩ : ∃ d, p = .dct d := by
      cases p with
      | dct d => exact ⟨d, rfl⟩
      | _ => exact absurd (fun d h => by cases h) hp
    have e : (if hashy q then (dlook q d).map (·, false) else none) = some (r, o) := e
    by_cases hk : hashy q = true
    · rw [if_pos hk] at e
      obtain ⟨b, rfl, rk⟩ := rq.keyV hk
      obtain ⟨a, ob, xs, rfl, ea, rl⟩ := rp.dct
      obtain rfl : v = Value.ref b := rv
      obtain rfl : u = Value.ref a := ru
      obtain ⟨dd, hd, _⟩ := dct_at f I ea rl
      rcases rl.look hk with ⟨e1, e2⟩ | ⟨z, c, z', x', e1, e2, rz, rz'⟩
      · rw [e1] at e; cases e
      · rw [e1] at e; cases e
        refine tail_any (ops := [.ref a, .ref b]) dd.typeIs PySem.F.slot_dict_getitem.lookup ?_ hs
        exact wpAny_getItem_heap f.room (key_at f I rk hk) dd e2 ⟨x', H, I.tok _, rz, qv_val w rz'⟩
    · rw [if_neg hk] at e; cases e
/-- the object behind a store -/
theorem d_set (f : Fit X n) {Q : Unit → Shared → Prop} (I : Inv X pins τ H s) {a b : Addr} {o : Obj} {xs : List (NestedKey × Addr × Value)} {l : List (PV × PV)} {k v : PV} {x : V} {u : Value} (ea : H a = some (DO n o a xs)) (rl : RKs n H Z l xs) (hk : hashy k = true)
    (rk : RV n H Z k (.ref b)) (rv : RV n H Z v x) (ru : RelV x u) (hz : l.length < sizeLine) (h : ∀ o' s', Inv X pins τ (upd H a (DO n o' a (storedH xs (toK k) b u))) s' → Q () s') :
    wpAny (model X.prog X.w) X.A (setItem (.ref a) (.ref b) u) Q X.xe s := by
  obtain ⟨dd, hd, nd⟩ := dct_at f I ea rl
  have hP := f.P
  have hw := f.w
  have hl := (rl.put nd hk rk rv ru).len
  have hl2 := dput_len k v l
  refine wpAny_setItem_heap (hsz := by rw [rl.len]; omega) f.room (key_at f I rk hk) dd fun h' dd' hs => ?_
  obtain ⟨ob, es, ep, ho, hc, hd', he, _, nd'⟩ := dd'
  refine h ob _ ?_
  refine I.write (mu := by rw [ea]; exact trivial) (.inl rfl) (fun b u hb e => (hs.2 b hb).trans e) ⟨_, ho⟩ (DO.ok ⟨hd, by omega, ho, es, ep, hc, hd', by rw [hP, hw]; exact he, nd'⟩)
end
end Ev

set_option Elab.async false
set_option linter.all false
set_option maxRecDepth 100000
/-! The evaluator is sound: subscripts, attributes, chains. -/
namespace Ev
open PySem PySem.Spec PyProof.Rows L2

section
variable {X : Cx} {n : En} {W : WX} {g : G} {cl : FC} {a b c e t : Expr} {ca cb cc ct : E} {pos pos' p2 : Pos} {rest : List Expr} {j : Nat}
theorem prim_O {pr : Pr} {p q v : PV} {o : Bool} (h : prim pr [p, q] = some (v, o)) (ρ : Sl) : primO g cl pr [p, q] ρ = .ok (.v v o) ρ := by
  unfold primO
  split
  · rename_i e; cases e
    have h : eqV2 false (.ins _ _) q = some (v, o) := h
    unfold eqV2 at h
    rw [show plain (.ins _ _) = false from rfl] at h
    cases h
  · rename_i e; cases e
    have h : eqV2 true (.ins _ _) q = some (v, o) := h
    unfold eqV2 at h
    rw [show plain (.ins _ _) = false from rfl] at h
    cases h
  · rename_i e; cases e
  · rename_i e; cases e
  · rw [h]
theorem tE_chain {o1 o2 : Pr} (h1 : cmpish o1 = true) (h2 : cmpish o2 = true) {σ : SG} {H : Hp} {Q : VK} (h : tE n W (ev g cl false (.chn o1 o2 ca cb cc)) σ H Q) :
    tChain (rP n g cl o1) (rP n g cl o2) (tE n W (ev g cl false ca)) (tE n W (ev g cl false cb)) (tE n W (ev g cl false cc)) σ H Q := by
  obtain ⟨ρ, Z, w, hno, hx, k⟩ := h
  have e0 : ev g cl false (.chn o1 o2 ca cb cc) ρ = (ev g cl false ca ρ).bd fun x ρ => (ev g cl false cb ρ).bd fun y ρ => match val x ρ, val y ρ with
    | some p, some q => (match prim o1 [p, q] with
      | some (.bl true, _) => (ev g cl false cc ρ).bd fun z ρ => (match val y ρ, val z ρ with
        | some q, some w => (match prim o2 [q, w] with
          | some (.bl b, _) => .ok (.v (.bl b) false) ρ
          | _ => .no)
        | _, _ => .no)
      | some (.bl false, _) => .ok (.v (.bl false) false) ρ
      | _ => .no)
    | _, _ => .no := rfl
  rw [e0] at hno hx k
  refine tE.go w .refl (bd_no hno) hx.bd fun x ρ1 v1 H1 Z1 e1 w1 b1 _ ar1 => ?_
  rw [bd_ok e1] at hno hx k
  refine tE.go w1 b1 (bd_no hno) hx.bd fun y ρ2 v2 H2 Z2 e2 w2 b2 st ar2 => ?_
  rw [bd_ok e2] at hno hx k
  have ar1' := ar1.step w1 st
  split at hno
  · rename_i p q ep eq
    rw [ep, eq] at hx k
    dsimp only at hno hx k
    split at hno
    · rename_i o' e3
      rw [e3] at hx k
      dsimp only at hx k
      refine ⟨ρ2, σ, Z2, p, q, _, w2, ar1'.val w2 ep, ar2.val w2 eq, prim_O e3 ρ2, fun v H' Z' w3 s3 ar => ?_⟩
      obtain ⟨_, _, rfl⟩ := prim_bl h1 e3
      cases (show RV n H' Z' (.bl true) v from ar)
      refine ⟨true, rfl, ?_⟩
      rw [if_pos rfl]
      refine tE.go w3 (b2.trans s3) (bd_no hno) hx.bd fun z ρ4 v4 H4 Z4 e4 w4 b4 st4 ar4 => ?_
      rw [bd_ok e4] at hno hx k
      have ar2' := (ar2.step w2 s3).step w3 st4
      split at hno
      · rename_i q' z' eq' ez'
        rw [eq', ez'] at k
        dsimp only at hno k
        split at hno
        · rename_i b' o'' e5
          rw [e5] at k
          obtain ⟨_, _, rfl⟩ := prim_bl h2 e5
          exact ⟨ρ4, σ, Z4, q', z', _, w4, ar2'.val w4 eq', ar4.val w4 ez', prim_O e5 ρ4, fun v H' Z' w5 s5 ar => k _ ρ4 v H' Z' rfl w5 (b4.trans s5) ar⟩
        · exact absurd rfl hno
      · exact absurd rfl hno
    · rename_i o' e3
      rw [e3] at k
      refine ⟨ρ2, σ, Z2, p, q, _, w2, ar1'.val w2 ep, ar2.val w2 eq, prim_O e3 ρ2, fun v H' Z' w3 s3 ar => ?_⟩
      obtain ⟨_, _, rfl⟩ := prim_bl h1 e3
      cases (show RV n H' Z' (.bl false) v from ar)
      refine ⟨false, rfl, ?_⟩
      rw [if_neg (by decide)]
      exact k _ ρ2 _ H' Z' rfl w3 (b2.trans s3) (.bl false)
    · exact absurd rfl hno
  · exact absurd rfl hno
theorem chn_bl {o1 o2 : Pr} (ρ : Sl) (a : Ar) (ρ' : Sl) (e : ev g cl false (.chn o1 o2 ca cb cc) ρ = .ok a ρ') : ∃ b, a = .v (.bl b) false := by
  have e0 : ev g cl false (.chn o1 o2 ca cb cc) ρ = (ev g cl false ca ρ).bd fun x ρ => (ev g cl false cb ρ).bd fun y ρ => match val x ρ, val y ρ with
    | some p, some q => (match prim o1 [p, q] with
      | some (.bl true, _) => (ev g cl false cc ρ).bd fun z ρ => (match val y ρ, val z ρ with
        | some q, some w => (match prim o2 [q, w] with
          | some (.bl b, _) => .ok (.v (.bl b) false) ρ
          | _ => .no)
        | _, _ => .no)
      | some (.bl false, _) => .ok (.v (.bl false) false) ρ
      | _ => .no)
    | _, _ => .no := rfl
  rw [e0] at e
  cases e1 : ev g cl false ca ρ with
  | no => rw [e1] at e; cases e
  | ex x r => rw [e1] at e; cases e
  | ok x r =>
    rw [bd_ok e1] at e
    cases e2 : ev g cl false cb r with
    | no => rw [e2] at e; cases e
    | ex x r => rw [e2] at e; cases e
    | ok y r2 =>
      rw [bd_ok e2] at e
      split at e
      · split at e
        · cases e4 : ev g cl false cc r2 with
          | no => rw [e4] at e; cases e
          | ex x r => rw [e4] at e; cases e
          | ok z r4 =>
            rw [bd_ok e4] at e
            split at e
            · split at e
              · cases e; exact ⟨_, rfl⟩
              · cases e
            · cases e
        · cases e; exact ⟨_, rfl⟩
        · cases e
      · cases e
variable {op1 op2 : CmpOp} {o1 o2 : Pr}
theorem pe_echn (ho1 : OpR X (compareOp op1) (rP n g cl o1)) (ho2 : OpR X (compareOp op2) (rP n g cl o2)) (ha : PE X a (tE n W (ev g cl false ca))) (hb : PE X b (tE n W (ev g cl false cb))) (hc : PE X c (tE n W (ev g cl false cc)))
    (h1 : cmpish o1 = true) (h2 : cmpish o2 = true) (hm : lastMarks [op1, op2] [b, c] = false) : PE X (.Compare a [op1, op2] [b, c] pos) (tE n W (ev g cl false (.chn o1 o2 ca cb cc))) :=
  PE.imp (pe_chain ho1 ho2 ha hb hc hm) fun _ _ _ h => tE_chain h1 h2 h
theorem pt_echn (ho1 : OpR X (compareOp op1) (rP n g cl o1)) (ho2 : OpR X (compareOp op2) (rP n g cl o2)) (ha : PE X a (tE n W (ev g cl false ca))) (hb : PE X b (tE n W (ev g cl false cb))) (hc : PE X c (tE n W (ev g cl false cc)))
    (h1 : cmpish o1 = true) (h2 : cmpish o2 = true) (hm : lastMarks [op1, op2] [b, c] = false) : PT X (.Compare a [op1, op2] [b, c] pos) (tT n W (ev g cl true (.chn o1 o2 ca cb cc))) :=
  PT.imp (pt_chain ho1 ho2 ha hb hc hm) fun _ _ _ h => tE_chain h1 h2 (fin_bl (f := ev g cl false (.chn o1 o2 ca cb cc)) chn_bl h)
/-! subscripts -/
theorem ixR (f : Fit X n) : IxR X (rP n g cl .ix) := by
  intro value slice pins s τ H x y v u Q I rx ry ⟨ρ, σ, Z, p, q, a, w, rp, rq, e, k⟩ hs
  have e0 : primO g cl .ix [p, q] ρ = (match ixV p q with
    | some (v, o) => .ok (.v v o) ρ
    | none => .no) := rfl
  rw [e0] at e
  split at e
  · rename_i r o e1
    cases e
    refine thn (o_ix f I w rp rq rx ry e1 hs) fun z s1 ⟨v1, H1, I1, r1, Z1, w1, st, vr⟩ => ?_
    exact ⟨v1, H1, I1, r1, k v1 H1 Z1 w1 st vr⟩
  · cases e
def notSlice : Expr → Bool
  | .Slice _ _ _ _ => false
  | _ => true
theorem plainIx {b : Expr} (h : notSlice b = true) : PlainIx b := by
  intro o i
  cases b <;> first | rfl | cases h
theorem pe_eix (f : Fit X n) (ha : PE X a (tE n W (ev g cl false ca))) (hb : PE X b (tE n W (ev g cl false cb))) (hs : notSlice b = true) : PE X (.Subscript a b pos) (tE n W (ev g cl false (.pr .ix [ca, cb]))) :=
  PE.imp (pe_ix (ixR f) ha hb (plainIx hs)) fun _ _ _ h => tE_bin h
/-- slices -/
def rSl (n : En) : V → Option Int → Option Int → Hp → VK → Prop := fun x lo hi H Q => ∃ ρ σ Z p r o, Wd n ρ σ H Z ∧ RD n H Z p x ∧ sllV lo hi p = some (r, o) ∧ ∀ v H', QV n ρ σ H Z r o v H' → Q v H'
theorem slR (f : Fit X n) : SlR X (rSl n) := by
  intro pins s τ H x v vl vu lo hi sl Q I rx hs pl pu ⟨ρ, σ, Z, p, r, o, w, rp, e, k⟩
  obtain ⟨T, id, h1, h2, h3⟩ := o_sl f.K lo hi I w rp rx hs pl pu e
  exact ⟨T, id, h1, h2, thn h3 fun z s1 ⟨v1, H1, I1, r1, q⟩ => ⟨v1, H1, I1, r1, k v1 H1 q⟩⟩
theorem evs_pr {pr : Pr} {as : List E} {ρ : Sl} : ev g cl false (.pr pr as) ρ = (evs g cl as ρ).bd fun as ρ => match vals as ρ with
    | some vs => primO g cl pr vs ρ
    | none => .no := rfl
theorem vals_some {as : List Ar} {ρ : Sl} {F : List PV → O Ar} (h : (match vals as ρ with | some vs => F vs | none => O.no) ≠ .no) : ∃ vs, vals as ρ = some vs := by
  cases e : vals as ρ with
  | none => rw [e] at h; exact absurd rfl h
  | some vs => exact ⟨vs, rfl⟩
theorem evs1 (a : E) (ρ : Sl) {β : Type} (F : List Ar → Sl → O β) : (evs g cl [a] ρ).bd F = (ev g cl false a ρ).bd fun x ρ => F [x] ρ := by
  show ((ev g cl false a ρ).bd fun x ρ => (O.ok [] ρ).bd fun l ρ => .ok (x :: l) ρ).bd F = _
  simp only [bd_assoc, ok_bd]
theorem evs2 (a b : E) (ρ : Sl) {β : Type} (F : List Ar → Sl → O β) : (evs g cl [a, b] ρ).bd F = (ev g cl false a ρ).bd fun x ρ => (ev g cl false b ρ).bd fun y ρ => F [x, y] ρ := by
  show ((ev g cl false a ρ).bd fun x ρ => ((ev g cl false b ρ).bd fun y ρ => (O.ok [] ρ).bd fun l ρ => .ok (y :: l) ρ).bd fun l ρ => .ok (x :: l) ρ).bd F = _
  simp only [bd_assoc, ok_bd]
theorem evs3 (a b c : E) (ρ : Sl) {β : Type} (F : List Ar → Sl → O β) : (evs g cl [a, b, c] ρ).bd F = (ev g cl false a ρ).bd fun x ρ => (ev g cl false b ρ).bd fun y ρ => (ev g cl false c ρ).bd fun z ρ => F [x, y, z] ρ := by
  show ((ev g cl false a ρ).bd fun x ρ => ((ev g cl false b ρ).bd fun y ρ => ((ev g cl false c ρ).bd fun z ρ => (O.ok [] ρ).bd fun l ρ => .ok (z :: l) ρ).bd fun l ρ => .ok (y :: l) ρ).bd fun l ρ => .ok (x :: l) ρ).bd F = _
  simp only [bd_assoc, ok_bd]
theorem sl_end {lo hi : Option Int} {p : PV} {ρ : Sl} {σ : SG} {H H0 : Hp} {Z Z0 : Addr → Prop} {ρ0 : Sl} {x : V} {Q : VK} {r : O Ar} (w : Wd n ρ σ H Z) (b : Stp ρ0 σ H0 Z0 ρ σ H Z) (rp : RD n H Z p x)
    (hr : r = (match sllV lo hi p with | some (v, o) => .ok (.v v o) ρ | none => .no)) (hno : r ≠ .no)
    (k : ∀ a ρ' v H' Z', r = .ok a ρ' → Wd n ρ' σ H' Z' → Stp ρ0 σ H0 Z0 ρ' σ H' Z' → AR n H0 ρ' σ H' Z' a v → Q v H') : rSl n x lo hi H Q := by
  cases e : sllV lo hi p with
  | none => rw [e] at hr; exact absurd hr hno
  | some vo =>
    rw [e] at hr
    exact ⟨ρ, σ, Z, p, vo.1, vo.2, w, rp, e, qv_end b hr k⟩
theorem pe_esl00 (f : Fit X n) (ha : PE X a (tE n W (ev g cl false ca))) : PE X (.Subscript a (.Slice none none none p2) pos) (tE n W (ev g cl false (.pr (.sll false false) [ca]))) := by
  refine PE.imp (pe_slice (slR f) ha po_none po_none) fun σ H Q h => ?_
  obtain ⟨ρ, Z, w, hno, hx, k⟩ := h
  rw [evs_pr, evs1] at hno hx k
  refine tE.go w .refl (bd_no hno) hx.bd fun x ρ1 v1 H1 Z1 e1 w1 b1 _ ar1 => ?_
  rw [bd_ok e1] at hno hx k
  obtain ⟨vs, ev'⟩ := vals_some hno
  have rds := ARs.vals (n := n) (H0 := H) w1 (as := [x]) (vs := [v1]) ⟨ar1, trivial⟩ ev'
  rw [ev'] at hno k
  obtain ⟨p, rfl, rd1⟩ := RDs.one rds
  · exact sl_end w1 b1 rd1 rfl hno k
theorem pe_esl10 (f : Fit X n) (ha : PE X a (tE n W (ev g cl false ca))) (hb : PE X b (tE n W (ev g cl false cb))) : PE X (.Subscript a (.Slice (some b) none none p2) pos) (tE n W (ev g cl false (.pr (.sll true false) [ca, cb]))) := by
  refine PE.imp (pe_slice (slR f) ha (po_some hb) po_none) fun σ H Q h => ?_
  obtain ⟨ρ, Z, w, hno, hx, k⟩ := h
  rw [evs_pr, evs2] at hno hx k
  refine tE.go w .refl (bd_no hno) hx.bd fun x ρ1 v1 H1 Z1 e1 w1 b1 _ ar1 => ?_
  rw [bd_ok e1] at hno hx k
  refine tE.go w1 b1 (bd_no hno) hx.bd fun y ρ2 v2 H2 Z2 e2 w2 b2 st ar2 => ?_
  rw [bd_ok e2] at hno hx k
  obtain ⟨vs, ev'⟩ := vals_some hno
  have rds := ARs.vals (n := n) (H0 := H) w2 (as := [x, y]) (vs := [v1, v2]) ⟨ar1.step w1 st, ar2, trivial⟩ ev'
  rw [ev'] at hno k
  obtain ⟨p, q, rfl, rd1, rd2⟩ := RDs.two rds
  ·
    cases q with
    | int i => exact ⟨i, rd2.int, sl_end w2 b2 rd1 rfl hno k⟩
    | _ => exact absurd rfl hno
theorem pe_esl01 (f : Fit X n) (ha : PE X a (tE n W (ev g cl false ca))) (hb : PE X b (tE n W (ev g cl false cb))) : PE X (.Subscript a (.Slice none (some b) none p2) pos) (tE n W (ev g cl false (.pr (.sll false true) [ca, cb]))) := by
  refine PE.imp (pe_slice (slR f) ha po_none (po_some hb)) fun σ H Q h => ?_
  obtain ⟨ρ, Z, w, hno, hx, k⟩ := h
  rw [evs_pr, evs2] at hno hx k
  refine tE.go w .refl (bd_no hno) hx.bd fun x ρ1 v1 H1 Z1 e1 w1 b1 _ ar1 => ?_
  rw [bd_ok e1] at hno hx k
  refine tE.go w1 b1 (bd_no hno) hx.bd fun y ρ2 v2 H2 Z2 e2 w2 b2 st ar2 => ?_
  rw [bd_ok e2] at hno hx k
  obtain ⟨vs, ev'⟩ := vals_some hno
  have rds := ARs.vals (n := n) (H0 := H) w2 (as := [x, y]) (vs := [v1, v2]) ⟨ar1.step w1 st, ar2, trivial⟩ ev'
  rw [ev'] at hno k
  obtain ⟨p, q, rfl, rd1, rd2⟩ := RDs.two rds
  ·
    cases q with
    | int i => exact ⟨i, rd2.int, sl_end w2 b2 rd1 rfl hno k⟩
    | _ => exact absurd rfl hno
theorem pe_esl11 (f : Fit X n) (ha : PE X a (tE n W (ev g cl false ca))) (hb : PE X b (tE n W (ev g cl false cb))) (hc : PE X c (tE n W (ev g cl false cc))) : PE X (.Subscript a (.Slice (some b) (some c) none p2) pos) (tE n W (ev g cl false (.sl2 ca cb cc))) := by
  refine PE.imp (pe_slice (slR f) ha (po_some hb) (po_some hc)) fun σ H Q h => ?_
  obtain ⟨ρ, Z, w, hno, hx, k⟩ := h
  have e0 : ev g cl false (.sl2 ca cb cc) ρ = (ev g cl false ca ρ).bd fun x ρ => (ev g cl false cb ρ).bd fun y ρ => match val y ρ with
    | some (.int i) => (ev g cl false cc ρ).bd fun z ρ => (match val x ρ, val z ρ with
      | some p, some (.int k) => (match sllV (some i) (some k) p with
        | some (v, o) => .ok (.v v o) ρ
        | none => .no)
      | _, _ => .no)
    | _ => .no := rfl
  rw [e0] at hno hx k
  refine tE.go w .refl (bd_no hno) hx.bd fun x ρ1 v1 H1 Z1 e1 w1 b1 _ ar1 => ?_
  rw [bd_ok e1] at hno hx k
  refine tE.go w1 b1 (bd_no hno) hx.bd fun y ρ2 v2 H2 Z2 e2 w2 b2 st ar2 => ?_
  rw [bd_ok e2] at hno hx k
  split at hno
  · rename_i i ey
    rw [ey] at hx k
    dsimp only at hx k
    refine ⟨i, (ar2.val w2 ey).int, ?_⟩
    refine tE.go w2 b2 (bd_no hno) hx.bd fun z ρ3 v3 H3 Z3 e3 w3 b3 st3 ar3 => ?_
    rw [bd_ok e3] at hno k
    split at hno
    · rename_i p l ep ez
      rw [ep, ez] at k
      dsimp only at k
      exact ⟨l, (ar3.val w3 ez).int, sl_end w3 b3 (((ar1.step w1 st).step w2 st3).val w3 ep) rfl hno k⟩
    · exact absurd rfl hno
  · exact absurd rfl hno
/-- attributes -/
theorem pe_efld {nm : Nat} {f : Str} (hf : n.fN nm = f) (hi : ∀ i j, n.fN i = n.fN j → i = j) (hK : n.K = X.K) (hc : ∀ c, g.fok c nm = true → Cls n.K (n.cA c) ∧ NoAttr n.K (n.cA c) f) (ha : PE X a (tE n W (ev g cl false ca))) (hb : attributeBase a f X.env (eval a X.env) = eval a X.env) :
    PE X (.Attribute a f pos) (tE n W (ev g cl false (.fld ca nm))) := by
  refine PE.imp (pe_fld ha hb) fun σ H Q h => ?_
  obtain ⟨ρ, Z, w, hno, hx, k⟩ := h
  have e0 : ev g cl false (.fld ca nm) ρ = (ev g cl false ca ρ).bd fun a ρ => match val a ρ with
    | some (.ins c fs) => if g.fok c nm then (match fs.lookup nm with | some p => .ok (.v p false) ρ | none => .no) else .no
    | _ => .no := rfl
  rw [e0] at hno hx k
  refine tE.go w .refl (bd_no hno) hx.bd fun x ρ1 v1 H1 Z1 e1 w1 b1 _ ar1 => ?_
  rw [bd_ok e1] at hno hx k
  split at hno
  · rename_i c fs ev'
    rw [ev'] at k
    dsimp only at k
    by_cases hk : g.fok c nm = true
    · rw [if_pos hk] at hno k
      obtain ⟨ad, dx, fv, rfl, ea, rf⟩ := (ar1.val w1 ev').ins
      obtain ⟨c1, c2⟩ := hc c hk
      cases el : fs.lookup nm with
      | none => rw [el] at hno; exact absurd rfl hno
      | some p =>
        rw [el] at k
        have key : ∀ {fs : List (Nat × PV)} {fv : List (Str × V)}, RFs n H1 Z1 fs fv → fs.lookup nm = some p → ∃ v, fv.lookup f = some v ∧ RV n H1 Z1 p v := by
          intro fs
          induction fs with
          | nil => intro fv _ h; cases h
          | cons q fs ih =>
            intro fv r h
            cases r with
            | @cons i p' _ v vs r1 r2 =>
              by_cases e : nm = i
              · subst e
                rw [List.lookup_cons_self] at h
                cases h
                exact ⟨v, by rw [← hf, List.lookup_cons_self], r1⟩
              · have e2 : (nm == i) = false := by simpa using e
                rw [List.lookup_cons, e2] at h
                obtain ⟨v', h1, h2⟩ := ih r2 h
                refine ⟨v', ?_, h2⟩
                rw [List.lookup_cons]
                have e3 : (f == n.fN i) = false := by
                  rw [← hf]
                  simpa using fun z => e (hi _ _ z)
                rw [e3]
                exact h1
        obtain ⟨v, h1, h2⟩ := key rf el
        exact ⟨ad, _, dx, fv, v, rfl, ea, hK ▸ c1, hK ▸ c2, h1, k _ ρ1 v H1 Z1 rfl w1 b1 h2⟩
    · rw [if_neg hk] at hno; exact absurd rfl hno
  · exact absurd rfl hno
end
end Ev

set_option Elab.async false
set_option linter.all false
set_option maxRecDepth 100000
/-! The evaluator is sound: what is built in. -/
namespace Ev
open PySem PySem.Spec PyProof.Rows L2

/-! ### sorted -/
theorem ltCps_lex : ∀ a b : List Nat, ltCps a b = !lexLe b a
  | [], [] => rfl
  | [], _ :: _ => rfl
  | _ :: _, [] => rfl
  | a :: r, b :: t => by
    unfold ltCps lexLe
    by_cases e : b = a
    · subst e
      simp [ltCps_lex r t]
    · rw [if_neg e]
      have e2 : (a == b) = false := by simpa using fun z => e z.symm
      rw [e2]
      rcases Nat.lt_or_ge a b with h | h
      · rw [decide_eq_true h, decide_eq_false (by omega)]; rfl
      · rw [decide_eq_false (by omega), decide_eq_true (show b < a by omega)]; rfl
theorem lexLe_refl : ∀ a : List Nat, lexLe a a = true
  | [] => rfl
  | a :: r => by unfold lexLe; rw [if_pos rfl]; exact lexLe_refl r
theorem lexLe_anti : ∀ a b : List Nat, lexLe a b = true → lexLe b a = true → a = b
  | [], [], _, _ => rfl
  | [], _ :: _, _, h => by cases h
  | _ :: _, [], h, _ => by cases h
  | a :: r, b :: t, h, h' => by
    unfold lexLe at h h'
    by_cases e : a = b
    · subst e
      rw [if_pos rfl] at h h'
      rw [lexLe_anti r t h h']
    · rw [if_neg e] at h
      rw [if_neg fun z => e z.symm] at h'
      have h := of_decide_eq_true h
      have h' := of_decide_eq_true h'
      omega
theorem lexLe_trans : ∀ a b c : List Nat, lexLe a b = true → lexLe b c = true → lexLe a c = true
  | [], _, _, _, _ => rfl
  | _ :: _, [], _, h, _ => by cases h
  | _ :: _, _ :: _, [], _, h => by cases h
  | a :: r, b :: t, c :: u, h, h' => by
    unfold lexLe at h h' ⊢
    by_cases e : a = b
    · subst e
      rw [if_pos rfl] at h
      by_cases e2 : a = c
      · subst e2
        rw [if_pos rfl] at h' ⊢
        exact lexLe_trans r t u h h'
      · rw [if_neg e2] at h' ⊢
        exact h'
    · rw [if_neg e] at h
      have h := of_decide_eq_true h
      by_cases e2 : b = c
      · subst e2
        rw [if_neg e]
        exact decide_eq_true h
      · rw [if_neg e2] at h'
        have h' := of_decide_eq_true h'
        rw [if_neg (by omega)]
        exact decide_eq_true (by omega)
theorem lexLe_total : ∀ a b : List Nat, lexLe a b = false → lexLe b a = true
  | [], _, h => by cases h
  | _ :: _, [], _ => rfl
  | a :: r, b :: t, h => by
    unfold lexLe at h ⊢
    by_cases e : a = b
    · subst e
      rw [if_pos rfl] at h ⊢
      exact lexLe_total r t h
    · rw [if_neg e] at h
      rw [if_neg fun z => e z.symm]
      have h := of_decide_eq_false h
      exact decide_eq_true (by omega)
theorem insS_perm (x : List Nat) : ∀ l, (insS x l).Perm (x :: l)
  | [] => .refl _
  | y :: r => by
    unfold insS
    split
    · exact .refl _
    · exact ((insS_perm x r).cons y).trans (.swap x y r)
theorem isortS_perm : ∀ l, (isortS l).Perm l
  | [] => .refl _
  | x :: r => (insS_perm x _).trans ((isortS_perm r).cons x)
theorem insS_sorted (x : List Nat) : ∀ l : List (List Nat), l.Pairwise (fun a b => lexLe a b = true) → (insS x l).Pairwise (fun a b => lexLe a b = true)
  | [], _ => by unfold insS; simp
  | y :: r, h => by
    unfold insS
    rw [List.pairwise_cons] at h
    split
    · rename_i c
      rw [List.pairwise_cons, List.pairwise_cons]
      refine ⟨fun z hz => ?_, h⟩
      rcases List.mem_cons.mp hz with e | hz
      · subst e; exact c
      · exact lexLe_trans x y z c (h.1 z hz)
    · rename_i c
      rw [List.pairwise_cons]
      refine ⟨fun z hz => ?_, insS_sorted x r h.2⟩
      rcases List.mem_cons.mp ((insS_perm x r).mem_iff.mp hz) with e | hz
      · subst e; exact lexLe_total z y (by simpa using c)
      · exact h.1 z hz
theorem isortS_sorted : ∀ l : List (List Nat), (isortS l).Pairwise (fun a b => lexLe a b = true)
  | [] => .nil
  | x :: r => insS_sorted x _ (isortS_sorted r)
theorem insI_perm (x : Int) : ∀ l, (insI x l).Perm (x :: l)
  | [] => .refl _
  | y :: r => by
    unfold insI
    split
    · exact .refl _
    · exact ((insI_perm x r).cons y).trans (.swap x y r)
theorem isortI_perm : ∀ l, (isortI l).Perm l
  | [] => .refl _
  | x :: r => (insI_perm x _).trans ((isortI_perm r).cons x)
theorem insI_sorted (x : Int) : ∀ l : List Int, l.Pairwise (· ≤ ·) → (insI x l).Pairwise (· ≤ ·)
  | [], _ => by unfold insI; simp
  | y :: r, h => by
    unfold insI
    rw [List.pairwise_cons] at h
    split
    · rename_i c
      rw [List.pairwise_cons, List.pairwise_cons]
      refine ⟨fun z hz => ?_, h⟩
      rcases List.mem_cons.mp hz with e | hz
      · subst e; exact c
      · exact Int.le_trans c (h.1 z hz)
    · rename_i c
      rw [List.pairwise_cons]
      refine ⟨fun z hz => ?_, insI_sorted x r h.2⟩
      rcases List.mem_cons.mp ((insI_perm x r).mem_iff.mp hz) with e | hz
      · subst e; omega
      · exact h.1 z hz
theorem isortI_sorted : ∀ l : List Int, (isortI l).Pairwise (· ≤ ·)
  | [] => .nil
  | x :: r => insI_sorted x _ (isortI_sorted r)
theorem isortI_eq {xs ys : List Int} (p : ys.Perm xs) (h : ys.Pairwise (· ≤ ·)) : ys = isortI xs :=
  List.Perm.eq_of_pairwise (le := (· ≤ ·)) (fun a b _ _ h h' => Int.le_antisymm h h') h (isortI_sorted xs) (p.trans (isortI_perm xs).symm)
def cps (x : Str) : List Nat := x.cps.toList
theorem strV_cps (x : Str) : strV (cps x) = x := by
  unfold strV cps
  simp
theorem cps_strV (x : List Nat) : cps (strV x) = x := by
  unfold strV cps
  simp
theorem risingS_pw : ∀ (p : Str) (ys : List Str), PyProof.Rows.risingS p ys = true → (∀ y ∈ ys, lexLe (cps p) (cps y) = true) ∧ (ys.map cps).Pairwise (fun a b => lexLe a b = true)
  | _, [], _ => ⟨fun _ h => (by cases h), List.Pairwise.nil⟩
  | p, x :: r, h => by
    unfold PyProof.Rows.risingS at h
    rw [Bool.and_eq_true, ltCps_lex] at h
    obtain ⟨h1, h2⟩ := risingS_pw x r h.2
    have h0 : lexLe (cps p) (cps x) = true := by simpa [cps] using h.1
    refine ⟨fun y hy => ?_, ?_⟩
    · rcases List.mem_cons.mp hy with e | hy
      · subst e; exact h0
      · exact lexLe_trans _ _ _ h0 (h1 y hy)
    · rw [List.map_cons, List.pairwise_cons]
      refine ⟨fun z hz => ?_, h2⟩
      obtain ⟨y, hy, rfl⟩ := List.mem_map.mp hz
      exact h1 y hy
theorem isortS_eq {xs : List (List Nat)} {ys : List Str} (p : ys.Perm (xs.map strV)) (h : PyProof.Rows.sortedS ys = true) : ys = (isortS xs).map strV := by
  have hp : (ys.map cps).Pairwise (fun a b => lexLe a b = true) := by
    cases ys with
    | nil => exact .nil
    | cons x r =>
      obtain ⟨h1, h2⟩ := risingS_pw x r h
      rw [List.map_cons, List.pairwise_cons]
      refine ⟨fun z hz => ?_, h2⟩
      obtain ⟨y, hy, rfl⟩ := List.mem_map.mp hz
      exact h1 y hy
  have e : ys.map cps = isortS xs := by
    refine List.Perm.eq_of_pairwise (le := fun a b => lexLe a b = true) (fun a b _ _ h h' => lexLe_anti a b h h') hp (isortS_sorted xs) ?_
    refine ((p.map cps).trans ?_).trans (isortS_perm xs).symm
    rw [List.map_map]
    have : (cps ∘ strV) = id := by funext x; exact cps_strV x
    rw [this, List.map_id]
  rw [← e, List.map_map]
  have : (strV ∘ cps) = id := by funext x; exact strV_cps x
  rw [this, List.map_id]
section
variable {X : Cx} {n : En} {pins : List (Addr × Obj)} {s : Shared} {τ : SG} {ρ : Sl} {σ : SG} {H : Hp} {Z : Addr → Prop}
theorem o_sorted1 : Op1C X n (.builtin "sorted") sortV := by
  intro pins s τ ρ σ H Z p x u r o I w rp ru e
  unfold sortV at e
  split at e
  · split at e
    · rename_i l hz
      obtain ⟨a, vs, e2, r1, l1⟩ := rp.lst
      split at e
      · rename_i xs ex
        cases e
        have := l1.strs ex
        subst this
        refine cr_sortedS pins s τ H [x] [u] _ I (v1 ru) ⟨a, xs.map strV, by rw [e2], .inl r1, ?_, fun ys p hp hs hf => ?_⟩
        · have := l1.len
          rw [List.length_map] at this
          rw [this]
          exact hz
        · rw [isortS_eq hp hs]
          exact qv_lst w (RVs.ofStrs _) p hf
      · cases en : ints? l with
        | none => rw [en] at e; cases e
        | some ns =>
          rw [en] at e; cases e
          have := l1.ints en
          subst this
          refine cr_sorted pins s τ H [x] [u] _ I (v1 ru) ⟨a, ns, by rw [e2], .inl r1, ?_, fun ys p hp hs hf => ?_⟩
          · have := l1.len
            rw [List.length_map] at this
            rw [this]
            exact hz
          · rw [isortI_eq hp hs]
            exact qv_lst w (RVs.ofInts _) p hf
    · cases e
  · cases e
theorem maxL_ok : ∀ (l : List Int) (m : Int), maxL l = some m → m ∈ l ∧ ∀ y ∈ l, y ≤ m
  | [], _, h => by cases h
  | a :: r, m, h => by
    unfold maxL at h
    cases e : maxL r with
    | none =>
      rw [e] at h; cases h
      cases r with
      | nil => simp
      | cons b r =>
        unfold maxL at e
        split at e <;> cases e
    | some k =>
      rw [e] at h
      obtain ⟨h1, h2⟩ := maxL_ok r k e
      have h : some (if k > a then k else a) = some m := h
      by_cases c : k > a
      · rw [if_pos c] at h; cases h
        exact ⟨List.mem_cons_of_mem _ h1, fun y hy => (List.mem_cons.mp hy).elim (fun z => by omega) (h2 y)⟩
      · rw [if_neg c] at h; cases h
        exact ⟨List.mem_cons_self, fun y hy => (List.mem_cons.mp hy).elim (fun z => by omega) fun z => by have := h2 y z; omega⟩
theorem minL_ok : ∀ (l : List Int) (m : Int), minL l = some m → m ∈ l ∧ ∀ y ∈ l, m ≤ y
  | [], _, h => by cases h
  | a :: r, m, h => by
    unfold minL at h
    cases e : minL r with
    | none =>
      rw [e] at h; cases h
      cases r with
      | nil => simp
      | cons b r =>
        unfold minL at e
        split at e <;> cases e
    | some k =>
      rw [e] at h
      obtain ⟨h1, h2⟩ := minL_ok r k e
      have h : some (if k < a then k else a) = some m := h
      by_cases c : k < a
      · rw [if_pos c] at h; cases h
        exact ⟨List.mem_cons_of_mem _ h1, fun y hy => (List.mem_cons.mp hy).elim (fun z => by omega) (h2 y)⟩
      · rw [if_neg c] at h; cases h
        exact ⟨List.mem_cons_self, fun y hy => (List.mem_cons.mp hy).elim (fun z => by omega) fun z => by have := h2 y z; omega⟩
theorem o_max1 (hc : X.calm = true) : Op1C X n (.builtin "max") (onInts fun ns => (maxL ns).map .int) := by
  intro pins s τ ρ σ H Z p x u r o I w rp ru e
  unfold onInts at e
  split at e
  · rename_i l
    cases eb : ints? l with
    | none => rw [eb] at e; cases e
    | some ns =>
      rw [eb] at e
      cases em : maxL ns with
      | none => have e : ((maxL ns).map PV.int).map (·, false) = some (r, o) := e; rw [em] at e; cases e
      | some k =>
        have e : ((maxL ns).map PV.int).map (·, false) = some (r, o) := e
        rw [em] at e; cases e
        obtain ⟨a, vs, e2, r1, l1⟩ := rp.lst
        have := l1.ints eb
        subst this
        obtain ⟨h1, h2⟩ := maxL_ok ns k em
        refine cr_max hc pins s τ H [x] [u] _ I (v1 ru) ⟨a, ns, by rw [e2], .inl r1, List.length_pos_of_mem h1, fun m hm hy => ?_⟩
        have : m = k := Int.le_antisymm (h2 m hm) (hy k h1)
        subst this
        exact qv_val w (.int _)
  · cases e
theorem o_min1 (hc : X.calm = true) : Op1C X n (.builtin "min") (onInts fun ns => (minL ns).map .int) := by
  intro pins s τ ρ σ H Z p x u r o I w rp ru e
  unfold onInts at e
  split at e
  · rename_i l
    cases eb : ints? l with
    | none => rw [eb] at e; cases e
    | some ns =>
      rw [eb] at e
      cases em : minL ns with
      | none => have e : ((minL ns).map PV.int).map (·, false) = some (r, o) := e; rw [em] at e; cases e
      | some k =>
        have e : ((minL ns).map PV.int).map (·, false) = some (r, o) := e
        rw [em] at e; cases e
        obtain ⟨a, vs, e2, r1, l1⟩ := rp.lst
        have := l1.ints eb
        subst this
        obtain ⟨h1, h2⟩ := minL_ok ns k em
        refine cr_min hc pins s τ H [x] [u] _ I (v1 ru) ⟨a, ns, by rw [e2], .inl r1, List.length_pos_of_mem h1, fun m hm hy => ?_⟩
        have : m = k := Int.le_antisymm (hy k h1) (h2 m hm)
        subst this
        exact qv_val w (.int _)
  · cases e
theorem o_lenD (f : Fit X n) : Op1C X n (.builtin "len") lenV := by
  intro pins s τ ρ σ H Z p x u r o I w rp ru e
  cases p with
  | dct d =>
    cases e
    obtain ⟨a, ob, xs, rfl, ea, rl⟩ := rp.dct
    obtain rfl : u = Value.ref a := ru
    obtain ⟨dd, hd, _⟩ := dct_at f I ea rl
    have hz := (DO.get I.hok ea).2.1
    have hl := rl.len
    refine call_len_dictH hd dd (by rw [SZ] at hz; omega) ?_
    rw [hl]
    exact ⟨.int _, H, I.tok _, ⟨_, rfl⟩, qv_val w (.int _)⟩
  | _ => exact o_len f.K pins s τ ρ σ H Z _ x u r o I w rp ru e

/-! ### calls of what is built in -/
def rC (n : En) (g : G) (cl : FC) (pr : Pr) : List V → Hp → VK → Prop := fun xs H Q => ∃ ρ σ Z ps a, Wd n ρ σ H Z ∧ RDs n H Z ps xs ∧ primO g cl pr ps ρ = .ok a ρ ∧ ∀ v H' Z', Wd n ρ σ H' Z' → Stp ρ σ H Z ρ σ H' Z' → AR n H ρ σ H' Z' a v → Q v H'
theorem Op1C.rC {g : G} {cl : FC} {pr : Pr} {f : Value} {k : PV → Option (PV × Bool)} (h : Op1C X n f k) (hk : ∀ ps ρ a, primO g cl pr ps ρ = .ok a ρ → ∃ p r o, ps = [p] ∧ a = .v r o ∧ k p = some (r, o)) : CallR X f (Ev.rC n g cl pr) := by
  intro pins s τ H xs us Q I rx ⟨ρ, σ, Z, ps, a, w, rp, e, k⟩
  obtain ⟨p, r, o, rfl, rfl, e1⟩ := hk ps ρ a e
  match xs, us, rx with
  | [], _, _ => exact False.elim rp
  | _ :: _ :: _, _, _ => exact False.elim (And.right rp)
  | [x], _, .cons (b := u) r1 .nil =>
    refine thn (h pins s τ ρ σ H Z p x u r o I w (And.left rp) r1 e1) fun z s1 ⟨v1, H1, I1, r1, Z1, w1, st, vr⟩ => ?_
    exact ⟨v1, H1, I1, r1, k v1 H1 Z1 w1 st vr⟩
theorem primO_arith {g : G} {cl : FC} {pr : Pr} {ps : List PV} {ρ : Sl} {a : Ar} (h : match pr with | .eq | .ne | .bool1 | .isi _ _ => False | _ => True) (e : primO g cl pr ps ρ = .ok a ρ) : ∃ r o, a = .v r o ∧ prim pr ps = some (r, o) := by
  unfold primO at e
  split at e
  · exact h.elim
  · exact h.elim
  · exact h.elim
  · exact h.elim
  · split at e
    · rename_i v o e1
      cases e
      exact ⟨v, o, rfl, e1⟩
    · cases e
theorem prim_one {pr : Pr} {k : PV → Option (PV × Bool)} (h : ∀ p, prim pr [p] = k p) (h2 : ∀ ps, ps.length ≠ 1 → prim pr ps = none) {ps : List PV} {r : PV} {o : Bool} (e : prim pr ps = some (r, o)) : ∃ p, ps = [p] ∧ k p = some (r, o) := by
  match ps with
  | [p] => exact ⟨p, rfl, by rw [← h]; exact e⟩
  | [] => rw [h2 _ (by decide)] at e; cases e
  | _ :: _ :: _ => rw [h2 _ (by simp)] at e; cases e
theorem tE_call {W : WX} {g : G} {cl : FC} {pr : Pr} {as : List E} {σ : SG} {H : Hp} {Q : VK} (h : tE n W (ev g cl false (.pr pr as)) σ H Q) : tCB (rC n g cl pr) (tA n W (evs g cl as)) σ H Q := by
  obtain ⟨ρ, Z, w, hno, hx, k⟩ := h
  rw [evs_pr] at hno hx k
  refine tA.go w .refl (bd_no hno) hx.bd fun as ρ1 vs H1 Z1 e1 w1 b1 _ ars => ?_
  rw [bd_ok e1] at hno hx k
  obtain ⟨ps, ev'⟩ := vals_some hno
  have rds := ARs.vals w1 ars ev'
  rw [ev'] at hno k
  obtain ⟨z, o, e3⟩ := primO_ok hno
  exact ⟨ρ1, σ, Z1, ps, _, w1, rds, e3, fun v H' Z' w3 s3 ar => k _ _ v H' Z' e3 w3 (b1.trans s3) (AR.base ar fun _ h => b1.back h)⟩
end
end Ev
namespace Ev
open PySem PySem.Spec PyProof.Rows L2
theorem backTo_any {pos : Pos} : ∀ {es : List Expr} {env : Env}, es.all notStar = true → (backTo pos (starEach es env)).any (·.1) = false
  | [], _, _ => rfl
  | e :: es, env, h => by
    rw [List.all_cons, Bool.and_eq_true] at h
    rw [starEach_cons h.1]
    show (false || (backTo pos (starEach es env)).any (·.1)) = false
    rw [backTo_any h.2]
    rfl
section
variable {X : Cx} {n : En} {W : WX} {g : G} {cl : FC} {pr : Pr} {x : Str} {id T : String} {e : Expr} {es : List Expr} {cs : List E} {pos p : Pos} {r : List V → Hp → VK → Prop}
theorem pe_ebi (hc : CallR X (.builtin id) (rC n g cl pr)) (hg : Gl X x) (hm : X.mg x = none) (hv : bootBuiltins x = some (.builtin id)) (hn : x ≠ "__name__") (hdb : (x == ("__debug__" : Str)) = false) (ha : PA X (e :: es) (tA n W (evs g cl cs))) (hs : (e :: es).all notStar = true) :
    PE X (.Call (.Name x p) (e :: es) [] pos) (tE n W (ev g cl false (.pr pr cs))) := by
  rw [List.all_cons, Bool.and_eq_true] at hs
  exact PE.imp (L2.pe_callB hc hg hm hv ha hn hdb (starEach_cons hs.1) (backTo_any hs.2)) fun _ _ _ h => tE_call h
theorem pe_ety (hc : CallR X (.type T) (rC n g cl pr)) (hg : Gl X x) (hm : X.mg x = none) (hv : bootBuiltins x = some (.type T)) (hn : x ≠ "__name__") (hdb : (x == ("__debug__" : Str)) = false) (ha : PA X (e :: es) (tA n W (evs g cl cs))) (hs : (e :: es).all notStar = true) :
    PE X (.Call (.Name x p) (e :: es) [] pos) (tE n W (ev g cl false (.pr pr cs))) := by
  rw [List.all_cons, Bool.and_eq_true] at hs
  exact PE.imp (L2.pe_callTy hc hg hm hv ha hn hdb (starEach_cons hs.1) (backTo_any hs.2)) fun _ _ _ h => tE_call h
end
end Ev

set_option Elab.async false
set_option linter.all false
set_option maxRecDepth 100000
/-! The evaluator is sound: calls. -/
namespace Ev
open PySem PySem.Spec PyProof.Rows L2

/-! ### what a def promises -/
/-- the arguments as the caller hands them over -/
def ArgIn (n : En) (H : Hp) (Z : Addr → Prop) : List Bool → List PV → List V → Prop
  | io, p :: ps, v :: vs => (if io.headD false = true then ∃ a, v = .ref a ∧ ¬ Z a ∧ OV n H Z p a else RV n H Z p v) ∧ ArgIn n H Z io.tail ps vs
  | _, [], [] => True
  | _, _, _ => False
/-- the objects that the callee may change -/
def IoA (io : List Bool) (vs : List V) (a : Addr) : Prop := ∃ i : Nat, io[i]? = some true ∧ vs[i]? = some (.ref a)
def IoInj (io : List Bool) (vs : List V) : Prop := ∀ (i j : Nat) (a : Addr), io[i]? = some true → io[j]? = some true → vs[i]? = some (.ref a) → vs[j]? = some (.ref a) → i = j
def ArgOut (n : En) (H : Hp) (Z : Addr → Prop) : List Bool → List V → List PV → Prop
  | true :: io, v :: vs, p :: ps => (∃ a, v = .ref a ∧ ¬ Z a ∧ OV n H Z p a) ∧ ArgOut n H Z io vs ps
  | false :: io, _ :: vs, ps => ArgOut n H Z io vs ps
  | [], _, ps => ps = []
  | _, _, _ => False
/-- from a call to its end -/
structure CStp (S : Addr → Prop) (H : Hp) (Z : Addr → Prop) (H' : Hp) (Z' : Addr → Prop) : Prop where
  mono : ∀ a, Z a → Z' a
  stay : ∀ a o, H a = some o → NT o → ¬ S a → H' a = some o
  same : ∀ a o, H a = some o → ∃ o', H' a = some o'
  zin : ∀ a, Z' a → Z a ∨ H a = none ∨ S a
def GZ (H : Hp) (Z : Addr → Prop) : Prop := ∀ a, Z a → ∃ o, H a = some o ∧ NT o
/-- what comes back -/
def Res (n : En) (H : Hp) (H' : Hp) (Z' : Addr → Prop) (p : PV) (o : Bool) (v : V) : Prop :=
  if o = true then ∃ a, v = .ref a ∧ H a = none ∧ ¬ Z' a ∧ OV n H' Z' p a else RV n H' Z' p v
def spEv (n : En) (g : G) (cl : FC) (f : Nat) : Sp := fun vs H Q E => ∃ Z ps, ArgIn n H Z (g.io f) ps vs ∧ (g.io f).length ≤ vs.length ∧ IoInj (g.io f) vs ∧ GZ H Z ∧ cl f ps ≠ .no ∧
  (∀ x, cl f ps = .ex x → ∀ H' Z' cls d, XnAt n H' Z' x cls d → CStp (IoA (g.io f) vs) H Z H' Z' → GZ H' Z' → E cls d H') ∧
  ∀ v o outs, cl f ps = .rt v o outs → ∀ w H' Z', CStp (IoA (g.io f) vs) H Z H' Z' → (∀ a, Z' a → ¬ IoA (g.io f) vs a) → GZ H' Z' → Res n H H' Z' v o w → ArgOut n H' Z' (g.io f) vs outs → Q w H'

/-! ### the caller's side -/
section
variable {n : En} {ρ ρ2 : Sl} {σ : SG} {H H' : Hp} {Z Z' : Addr → Prop} {S : Addr → Prop}
/-- what the callee may change is the caller's own -/
theorem Wd.called (w : Wd n ρ σ H Z) (c : CStp S H Z H' Z') (gz : GZ H' Z') (nz : ∀ a, Z' a → ¬ S a) (hs : ∀ a, S a → OwnA ρ σ a) (hl : ρ2.length = ρ.length)
    (h1 : ∀ j, (sget ρ2 j = sget ρ j ∧ ∀ p a, sget ρ j = some (p, true) → σ[j]? = some (some (.ref a)) → ¬ S a) ∨ ∃ p q a, sget ρ j = some (p, true) ∧ sget ρ2 j = some (q, true) ∧ σ[j]? = some (some (.ref a)) ∧ OV n H' Z' q a ∧ ¬ Z' a) :
    Wd n ρ2 σ H' Z' ∧ Stp ρ σ H Z ρ2 σ H' Z' := by
  have zs : ∀ a, Z a → H' a = H a := fun a z => by
    obtain ⟨o, e, t⟩ := w.gz a z
    rw [e]
    exact c.stay a o e t fun s => w.notOwn z (hs a s)
  have ow : ∀ a, OwnA ρ2 σ a → OwnA ρ σ a := fun a ⟨j, p, e, s⟩ => by
    rcases h1 j with ⟨h, _⟩ | ⟨p', q, a', h, h', h3, _⟩
    · exact ⟨j, p, by rw [← h]; exact e, s⟩
    · exact ⟨j, p', h, s⟩
  refine ⟨⟨w.len.trans hl.symm, fun j p e => ?_, fun j p e => ?_, fun i j p q a e1 e2 s1 s2 => ?_, gz⟩, ⟨c.mono, fun a o e t ne => c.stay a o e t fun s => ne (hs a s), c.same, fun a z => (c.zin a z).elim .inl fun z => z.elim (fun z => .inr (.inl z)) fun z => .inr (.inr (hs a z)), fun a z => .inl (ow a z)⟩⟩
  · rcases h1 j with ⟨h, _⟩ | ⟨p', q, a', h, h', h3, _⟩
    · obtain ⟨v, s, r⟩ := w.vis j p (by rw [← h]; exact e)
      exact ⟨v, s, r.mono c.mono zs⟩
    · rw [h'] at e; cases e
  · rcases h1 j with ⟨h, hn⟩ | ⟨p', q, a', h, h', h3, h4, h5⟩
    · have e' : sget ρ j = some (p, true) := by rw [← h]; exact e
      obtain ⟨a, s, za, r⟩ := w.own j p e'
      obtain ⟨o, ho, t⟩ := r.there
      refine ⟨a, s, fun z => ?_, r.mono c.mono zs (by rw [ho]; exact c.stay a o ho t (hn p a e' s))⟩
      rcases c.zin a z with z' | z' | z'
      · exact za z'
      · rw [ho] at z'; cases z'
      · exact nz a z z'
    · rw [h'] at e; cases e
      exact ⟨a', h3, h5, h4⟩
  · have up : ∀ j p, sget ρ2 j = some (p, true) → ∃ p', sget ρ j = some (p', true) := fun j p e => by
      rcases h1 j with ⟨h, _⟩ | ⟨p', q, a', h, _⟩
      · exact ⟨p, by rw [← h]; exact e⟩
      · exact ⟨p', h⟩
    obtain ⟨p', e1'⟩ := up i p e1
    obtain ⟨q', e2'⟩ := up j q e2
    exact w.inj i j p' q' a e1' e2' s1 s2
end
/-- an argument that is about to be handed over -/
def AW (n : En) (H0 : Hp) (ρ : Sl) (σ : SG) (H : Hp) (Z : Addr → Prop) (a : Ar) (v : V) : Prop :=
  match a with
  | .v p false => RV n H Z p v
  | .v p true => ∃ a, v = .ref a ∧ H0 a = none ∧ ¬ OwnA ρ σ a ∧ OV n H Z p a
  | .sl i => σ[i]? = some (some v)
def AWs (n : En) (H0 : Hp) (ρ : Sl) (σ : SG) (H : Hp) (Z : Addr → Prop) : List Ar → List V → Prop
  | [], [] => True
  | a :: as, v :: vs => AW n H0 ρ σ H Z a v ∧ AWs n H0 ρ σ H Z as vs
  | _, _ => False
section
variable {n : En} {ρ0 ρ ρ1 : Sl} {σ : SG} {H0 H : Hp} {Z0 Z Z1 : Addr → Prop}
theorem AR.aw {a : Ar} {v : V} (r : AR n H0 ρ σ H Z a v) : AW n H0 ρ σ H Z a v := by
  match a, r with
  | .v p false, r => exact r
  | .v p true, ⟨a, e, h0, _, no, ov⟩ => exact ⟨a, e, h0, no, ov⟩
  | .sl i, r => exact r
theorem ARs.aw : ∀ {as : List Ar} {vs : List V}, ARs n H0 ρ σ H Z as vs → AWs n H0 ρ σ H Z as vs
  | [], [], _ => trivial
  | _ :: _, _ :: _, h => ⟨h.1.aw, ARs.aw h.2⟩
  | [], _ :: _, h => h.elim
  | _ :: _, [], h => h.elim
theorem AWs.mono (hz : ∀ a, Z a → Z1 a) : ∀ {as : List Ar} {vs : List V}, AWs n H0 ρ σ H Z as vs → AWs n H0 ρ σ H Z1 as vs
  | [], [], _ => trivial
  | .v p false :: _, _ :: _, h => ⟨RV.mono hz (fun _ _ => rfl) h.1, AWs.mono hz h.2⟩
  | .v p true :: _, _ :: _, ⟨⟨a, e, h0, no, ov⟩, t⟩ => ⟨⟨a, e, h0, no, ov.mono hz (fun _ _ => rfl) rfl⟩, AWs.mono hz t⟩
  | .sl i :: _, _ :: _, h => ⟨h.1, AWs.mono hz h.2⟩
  | [], _ :: _, h => h.elim
  | _ :: _, [], h => h.elim
theorem frzA_ok : ∀ {io : List Bool} {as : List Ar} {ρ : Sl} {Z : Addr → Prop}, Wd n ρ σ H Z → Stp ρ0 σ H0 Z0 ρ σ H Z →
    ∃ Z1, Wd n (frzA io as ρ) σ H Z1 ∧ Stp ρ0 σ H0 Z0 (frzA io as ρ) σ H Z1 ∧ Stp ρ σ H Z (frzA io as ρ) σ H Z1 ∧ (frzA io as ρ).length = ρ.length := by
  intro io as
  induction as generalizing io with
  | nil =>
    intro ρ Z w s
    exact ⟨Z, w, s, .refl, rfl⟩
  | cons a as ih =>
    intro ρ Z w s
    cases a with
    | v p o => exact ih w s
    | sl i =>
      have e0 : frzA io (.sl i :: as) ρ = if io.headD false then frzA io.tail as ρ else (match sget ρ i with
        | some (p, _) => frzA io.tail as (sput ρ i (some (p, false)))
        | none => frzA io.tail as ρ) := rfl
      rw [e0]
      cases hd : io.headD false with
      | true => exact ih w s
      | false =>
        rw [if_neg (by decide)]
        cases e : sget ρ i with
        | none => exact ih w s
        | some y =>
          obtain ⟨p, o⟩ := y
          obtain ⟨Z1, v1, w1, s1, s2, m1, _, _⟩ := w.freeze s e
          obtain ⟨Z2, w2, s3, s4, l2⟩ := ih (io := io.tail) w1 s1
          exact ⟨Z2, w2, s3, s2.trans s4, l2.trans sput_len⟩
/-- a slot that is handed over is settled -/
theorem frzA_mono : ∀ {io : List Bool} {as : List Ar} {ρ : Sl} {i : Nat} {p : PV}, sget ρ i = some (p, false) → sget (frzA io as ρ) i = some (p, false) := by
  intro io as
  induction as generalizing io with
  | nil => intro ρ i p h; exact h
  | cons a as ih =>
    intro ρ i p h
    cases a with
    | v q o => exact ih h
    | sl j =>
      have e0 : frzA io (.sl j :: as) ρ = if io.headD false then frzA io.tail as ρ else (match sget ρ j with
        | some (p, _) => frzA io.tail as (sput ρ j (some (p, false)))
        | none => frzA io.tail as ρ) := rfl
      rw [e0]
      split
      · exact ih h
      · split
        · rename_i q o e
          refine ih ?_
          rw [sget_put' (sget_lt e)]
          by_cases c : j = i
          · subst c
            rw [if_pos rfl]
            rw [h] at e; cases e
            rfl
          · rw [if_neg c]; exact h
        · exact ih h
theorem frzA_slot : ∀ {io : List Bool} {as : List Ar} {ρ : Sl} (k : Nat) {i : Nat}, as[k]? = some (.sl i) → io[k]? ≠ some true → ∀ {p o}, sget ρ i = some (p, o) → sget (frzA io as ρ) i = some (p, false) := by
  intro io as
  induction as generalizing io with
  | nil => intro ρ k i h; simp at h
  | cons a as ih =>
    intro ρ k i h hio p o e
    cases k with
    | zero =>
      simp at h
      subst h
      have e0 : frzA io (.sl i :: as) ρ = if io.headD false then frzA io.tail as ρ else (match sget ρ i with
        | some (p, _) => frzA io.tail as (sput ρ i (some (p, false)))
        | none => frzA io.tail as ρ) := rfl
      have hd : io.headD false = false := by
        cases io with
        | nil => rfl
        | cons b io => cases b with
          | true => simp at hio
          | false => rfl
      rw [e0, hd, if_neg (by decide), e]
      refine frzA_mono ?_
      rw [sget_put' (sget_lt e), if_pos rfl]
    | succ k =>
      have hio' : io.tail[k]? ≠ some true := by
        cases io with
        | nil => simp
        | cons b io => simpa using hio
      have h' : as[k]? = some (.sl i) := by simpa using h
      cases a with
      | v q o' => exact ih (io := io.tail) k h' hio' e
      | sl j =>
        have e0 : frzA io (.sl j :: as) ρ = if io.headD false then frzA io.tail as ρ else (match sget ρ j with
          | some (p, _) => frzA io.tail as (sput ρ j (some (p, false)))
          | none => frzA io.tail as ρ) := rfl
        rw [e0]
        split
        · exact ih (io := io.tail) k h' hio' e
        · split
          · rename_i q o' e2
            by_cases c : j = i
            · subst c
              rw [e] at e2; cases e2
              exact ih (io := io.tail) k h' hio' (o := false) (by rw [sget_put' (sget_lt e), if_pos rfl])
            · exact ih (io := io.tail) k h' hio' (by rw [sget_put' (sget_lt e2), if_neg c]; exact e)
          · exact ih (io := io.tail) k h' hio' e
/-- the values that nobody else holds are settled -/
theorem settleAs (w : Wd n ρ σ H Z) (s : Stp ρ0 σ H0 Z0 ρ σ H Z) : ∀ {as : List Ar} {vs : List V}, AWs n H0 ρ σ H Z as vs → ∃ Z', Wd n ρ σ H Z' ∧ Stp ρ0 σ H0 Z0 ρ σ H Z' ∧ (∀ a, Z a → Z' a) ∧ ∀ (k : Nat) p o v, as[k]? = some (.v p o) → vs[k]? = some v → RV n H Z' p v := by
  intro as
  induction as generalizing Z with
  | nil => intro vs _; exact ⟨Z, w, s, fun _ z => z, fun k p o v h => by simp at h⟩
  | cons a as ih =>
    intro vs h
    match vs, h with
    | v :: vs, h =>
      have go : ∀ {Z1 : Addr → Prop}, Wd n ρ σ H Z1 → Stp ρ0 σ H0 Z0 ρ σ H Z1 → (∀ a, Z a → Z1 a) → (∀ p o, a = .v p o → RV n H Z1 p v) → ∃ Z', Wd n ρ σ H Z' ∧ Stp ρ0 σ H0 Z0 ρ σ H Z' ∧ (∀ a, Z a → Z' a) ∧ ∀ (k : Nat) p o v', (a :: as)[k]? = some (.v p o) → (v :: vs)[k]? = some v' → RV n H Z' p v' := by
        intro Z1 w1 s1 m1 r1
        obtain ⟨Z2, w2, s2, m2, r2⟩ := ih w1 s1 (AWs.mono m1 h.2)
        refine ⟨Z2, w2, s2, fun a z => m2 a (m1 a z), fun k p o v' h1 h2 => ?_⟩
        cases k with
        | zero =>
          simp at h1 h2
          subst h2
          exact (r1 p o h1).mono m2 fun _ _ => rfl
        | succ k => exact r2 k p o v' (by simpa using h1) (by simpa using h2)
      match a, h with
      | .sl i, h => exact go w s (fun _ z => z) fun p o e => by cases e
      | .v p false, h => exact go w s (fun _ z => z) fun p' o e => by cases e; exact h.1
      | .v p true, ⟨⟨ad, e, h0, no, ov⟩, t⟩ =>
        obtain ⟨ob, hb, nt⟩ := ov.there
        subst e
        exact go (w.more hb nt no) (s.more h0) (fun _ z => .inl z) fun p' o e => by cases e; exact ov.frozen (fun _ z => .inl z) (.inr rfl)
end
end Ev

set_option Elab.async false
set_option linter.all false
set_option maxRecDepth 100000
/-! The evaluator is sound: calls, the caller's side. -/
namespace Ev
open PySem PySem.Spec PyProof.Rows L2

theorem ioS_len : ∀ {io : List Bool} {as : List Ar} {is : List Nat}, ioS io as = some is → io.length ≤ as.length
  | [], as, _, _ => Nat.zero_le _
  | true :: io, .sl i :: as, is, h => by
    have h : (ioS io as).map (i :: ·) = some is := h
    cases e : ioS io as with
    | none => rw [e] at h; cases h
    | some l => exact Nat.succ_le_succ (ioS_len e)
  | true :: io, .v _ _ :: as, is, h => by cases h
  | true :: io, [], is, h => by cases h
  | false :: io, _ :: as, is, h => Nat.succ_le_succ (ioS_len (show ioS io as = some is from h))
  | false :: io, [], is, h => by cases h
theorem ioS_at : ∀ {io : List Bool} {as : List Ar} {is : List Nat}, ioS io as = some is → ∀ {k : Nat}, io[k]? = some true → ∃ i, as[k]? = some (.sl i) ∧ i ∈ is
  | [], as, _, _, k, hk => by simp at hk
  | true :: io, .sl i :: as, is, h, k, hk => by
    have h : (ioS io as).map (i :: ·) = some is := h
    cases e : ioS io as with
    | none => rw [e] at h; cases h
    | some l =>
      rw [e] at h; cases h
      cases k with
      | zero => exact ⟨i, rfl, List.mem_cons_self⟩
      | succ k =>
        obtain ⟨j, h1, h2⟩ := ioS_at e (k := k) (by simpa using hk)
        exact ⟨j, by simpa using h1, List.mem_cons_of_mem _ h2⟩
  | true :: io, .v _ _ :: as, is, h, _, _ => by cases h
  | true :: io, [], is, h, _, _ => by cases h
  | false :: io, a :: as, is, h, k, hk => by
    cases k with
    | zero => simp at hk
    | succ k =>
      obtain ⟨j, h1, h2⟩ := ioS_at (show ioS io as = some is from h) (k := k) (by simpa using hk)
      exact ⟨j, by simpa using h1, h2⟩
  | false :: io, [], is, h, _, _ => by cases h
theorem ioS_inj : ∀ {io : List Bool} {as : List Ar} {is : List Nat}, ioS io as = some is → is.Nodup → ∀ {k k' i : Nat}, io[k]? = some true → io[k']? = some true → as[k]? = some (.sl i) → as[k']? = some (.sl i) → k = k'
  | [], as, _, _, _, k, _, _, hk, _, _, _ => by simp at hk
  | true :: io, .sl i :: as, is, h, nd, k, k', j, hk, hk', ha, ha' => by
    have h : (ioS io as).map (i :: ·) = some is := h
    cases e : ioS io as with
    | none => rw [e] at h; cases h
    | some l =>
      rw [e] at h; cases h
      rw [List.nodup_cons] at nd
      cases k with
      | zero =>
        cases k' with
        | zero => rfl
        | succ k' =>
          have e1 : i = j := by simpa using ha
          subst e1
          obtain ⟨j', h1, h2⟩ := ioS_at e (k := k') (by simpa using hk')
          have h3 : as[k']? = some (.sl i) := by simpa using ha'
          rw [h1] at h3; cases h3
          exact absurd h2 nd.1
      | succ k =>
        cases k' with
        | zero =>
          have e1 : i = j := by simpa using ha'
          subst e1
          obtain ⟨j', h1, h2⟩ := ioS_at e (k := k) (by simpa using hk)
          have h3 : as[k]? = some (.sl i) := by simpa using ha
          rw [h1] at h3; cases h3
          exact absurd h2 nd.1
        | succ k' => rw [ioS_inj e nd.2 (k := k) (k' := k') (i := j) (by simpa using hk) (by simpa using hk') (by simpa using ha) (by simpa using ha')]
  | true :: io, .v _ _ :: as, is, h, _, _, _, _, _, _, _, _ => by cases h
  | true :: io, [], is, h, _, _, _, _, _, _, _, _ => by cases h
  | false :: io, a :: as, is, h, nd, k, k', j, hk, hk', ha, ha' => by
    cases k with
    | zero => simp at hk
    | succ k =>
      cases k' with
      | zero => simp at hk'
      | succ k' => rw [ioS_inj (show ioS io as = some is from h) nd (k := k) (k' := k') (i := j) (by simpa using hk) (by simpa using hk') (by simpa using ha) (by simpa using ha')]
  | false :: io, [], is, h, _, _, _, _, _, _, _, _ => by cases h
section
variable {n : En} {ρ0 ρ ρ1 ρ2 : Sl} {σ : SG} {H0 H H' : Hp} {Z0 Z Z1 Z' : Addr → Prop}
theorem AWs.len : ∀ {as : List Ar} {vs : List V}, AWs n H0 ρ σ H Z as vs → as.length = vs.length
  | [], [], _ => rfl
  | _ :: _, _ :: _, h => by rw [List.length_cons, List.length_cons, AWs.len h.2]
  | [], _ :: _, h => h.elim
  | _ :: _, [], h => h.elim
theorem AWs.slot : ∀ {as : List Ar} {vs : List V}, AWs n H0 ρ σ H Z as vs → ∀ {k i : Nat}, as[k]? = some (.sl i) → ∃ v, vs[k]? = some v ∧ σ[i]? = some (some v)
  | [], [], _, _, _, h => by simp at h
  | a :: as, v :: vs, h, k, i, e => by
    cases k with
    | zero =>
      have e1 : a = .sl i := by simpa using e
      subst e1
      exact ⟨v, rfl, h.1⟩
    | succ k =>
      obtain ⟨v', h1, h2⟩ := AWs.slot h.2 (k := k) (i := i) (by simpa using e)
      exact ⟨v', by simpa using h1, h2⟩
  | [], _ :: _, h, _, _, _ => h.elim
  | _ :: _, [], h, _, _, _ => h.elim
theorem vals_get : ∀ {as : List Ar} {ps : List PV}, vals as ρ = some ps → ps.length = as.length ∧ ∀ {k : Nat} {a : Ar}, as[k]? = some a → ∃ p, ps[k]? = some p ∧ val a ρ = some p
  | [], ps, h => by cases h; exact ⟨rfl, fun h => by simp at h⟩
  | a :: as, ps, h => by
    unfold vals at h
    split at h
    · rename_i p q e1 e2
      cases h
      obtain ⟨l, g⟩ := vals_get e2
      refine ⟨by rw [List.length_cons, List.length_cons, l], fun {k a'} e => ?_⟩
      cases k with
      | zero =>
        have e3 : a = a' := by simpa using e
        subst e3
        exact ⟨p, rfl, e1⟩
      | succ k =>
        obtain ⟨p', h1, h2⟩ := g (k := k) (a := a') (by simpa using e)
        exact ⟨p', by simpa using h1, h2⟩
    · cases h
theorem ArgIn.of : ∀ {io : List Bool} {ps : List PV} {vs : List V}, ps.length = vs.length →
    (∀ (k : Nat) p v, ps[k]? = some p → vs[k]? = some v → if io[k]? = some true then ∃ a, v = .ref a ∧ ¬ Z a ∧ OV n H Z p a else RV n H Z p v) → ArgIn n H Z io ps vs
  | io, [], [], _, _ => by cases io <;> trivial
  | io, p :: ps, v :: vs, hl, h => by
    refine ⟨?_, ArgIn.of (io := io.tail) (by simpa using hl) fun k p' v' h1 h2 => ?_⟩
    · have := h 0 p v rfl rfl
      cases io with
      | nil => simpa using this
      | cons b io => cases b <;> simpa using this
    · have := h (k + 1) p' v' (by simpa using h1) (by simpa using h2)
      cases io with
      | nil => simpa using this
      | cons b io =>
        by_cases c : io[k]? = some true
        · rw [if_pos (show (b :: io)[k + 1]? = some true by simpa using c)] at this
          rw [if_pos (show (b :: io).tail[k]? = some true from c)]
          exact this
        · rw [if_neg (show ¬ (b :: io)[k + 1]? = some true by simpa using c)] at this
          rw [if_neg (show ¬ (b :: io).tail[k]? = some true from c)]
          exact this
  | _, [], _ :: _, hl, _ => by simp at hl
  | _, _ :: _, [], hl, _ => by simp at hl
theorem ownS_at {i : Nat} (h : ownS ρ i = true) : ∃ p, sget ρ i = some (p, true) := by
  unfold ownS at h
  split at h
  · rename_i p e
    exact ⟨p, e⟩
  · cases h
/-- ahead of a call -/
theorem callIn (w : Wd n ρ σ H Z) (s : Stp ρ0 σ H0 Z0 ρ σ H Z) {as : List Ar} {vs : List V} (r : ARs n H0 ρ σ H Z as vs) {io : List Bool} {is : List Nat} {ps : List PV} (hi : ioS io as = some is) (hv : vals as (frzA io as ρ) = some ps) (nd : is.Nodup) (ow : is.all (ownS (frzA io as ρ)) = true) :
    ∃ Z', Wd n (frzA io as ρ) σ H Z' ∧ Stp ρ0 σ H0 Z0 (frzA io as ρ) σ H Z' ∧ ArgIn n H Z' io ps vs ∧ io.length ≤ vs.length ∧ IoInj io vs ∧ (∀ a, IoA io vs a → ∃ i, i ∈ is ∧ ∃ p, sget (frzA io as ρ) i = some (p, true) ∧ σ[i]? = some (some (.ref a))) ∧ as.length = vs.length ∧
      ∀ {k i : Nat}, as[k]? = some (.sl i) → ∃ v, vs[k]? = some v ∧ σ[i]? = some (some v) := by
  obtain ⟨Z1, w1, s1, s2, l1⟩ := frzA_ok (io := io) (as := as) w s
  have r1 := (ARs.step r w s2).aw
  obtain ⟨Z2, w2, s3, m2, rv⟩ := settleAs w1 s1 r1
  have hlen := r1.len
  obtain ⟨vl, vg⟩ := vals_get hv
  have own : ∀ i ∈ is, ∃ p, sget (frzA io as ρ) i = some (p, true) := fun i hi => ownS_at (List.all_eq_true.mp ow i hi)
  have ioa : ∀ a, IoA io vs a → ∃ i, i ∈ is ∧ ∃ p, sget (frzA io as ρ) i = some (p, true) ∧ σ[i]? = some (some (.ref a)) := fun a ⟨k, h1, h2⟩ => by
    obtain ⟨i, h3, h4⟩ := ioS_at hi h1
    obtain ⟨p, h5⟩ := own i h4
    obtain ⟨v, h6, h7⟩ := r1.slot h3
    rw [h2] at h6; cases h6
    exact ⟨i, h4, p, h5, h7⟩
  refine ⟨Z2, w2, s3, ArgIn.of (vl.trans hlen) fun k p v h1 h2 => ?_, ?_, fun k k' a h1 h2 h3 h4 => ?_, ioa, hlen, fun {k i} h => r1.slot h⟩
  · have hk : k < as.length := by rw [← vl]; exact (List.getElem?_eq_some_iff.mp h1).1
    obtain ⟨a, ha⟩ : ∃ a, as[k]? = some a := ⟨_, List.getElem?_eq_getElem hk⟩
    obtain ⟨p', h3, h4⟩ := vg ha
    rw [h1] at h3; cases h3
    by_cases c : io[k]? = some true
    · rw [if_pos c]
      obtain ⟨i, h5, h6⟩ := ioS_at hi c
      rw [ha] at h5; cases h5
      obtain ⟨q, h7⟩ := own i h6
      obtain ⟨v', h8, h9⟩ := r1.slot ha
      rw [h2] at h8; cases h8
      have h4 : (sget (frzA io as ρ) i).map (·.1) = some p := h4
      rw [h7] at h4; cases h4
      obtain ⟨ad, g1, g2, g3⟩ := w2.own i _ h7
      rw [h9] at g1; cases g1
      exact ⟨ad, rfl, g2, g3⟩
    · rw [if_neg c]
      cases a with
      | v q o =>
        cases h4
        exact rv k _ o v ha h2
      | sl i =>
        obtain ⟨v', h8, h9⟩ := r1.slot ha
        rw [h2] at h8; cases h8
        have h4 : (sget (frzA io as ρ) i).map (·.1) = some p := h4
        cases e : sget ρ i with
        | none =>
          exfalso
          have : ∀ {io : List Bool} {as : List Ar} {ρ : Sl}, sget ρ i = none → sget (frzA io as ρ) i = none := by
            intro io as
            induction as generalizing io with
            | nil => intro ρ h; exact h
            | cons a as ih =>
              intro ρ h
              cases a with
              | v q o => exact ih h
              | sl j =>
                have e0 : frzA io (.sl j :: as) ρ = if io.headD false then frzA io.tail as ρ else (match sget ρ j with
                  | some (p, _) => frzA io.tail as (sput ρ j (some (p, false)))
                  | none => frzA io.tail as ρ) := rfl
                rw [e0]
                split
                · exact ih h
                · split
                  · rename_i q o e2
                    refine ih ?_
                    rw [sget_put' (sget_lt e2)]
                    by_cases c : j = i
                    · subst c; rw [h] at e2; cases e2
                    · rw [if_neg c]; exact h
                  · exact ih h
          rw [this e] at h4
          cases h4
        | some y =>
          obtain ⟨q, o⟩ := y
          have h10 := frzA_slot (io := io) (as := as) k ha c e
          rw [h10] at h4; cases h4
          obtain ⟨v', g1, g2⟩ := w2.vis i _ h10
          rw [h9] at g1; cases g1
          exact g2
  · rw [← hlen]; exact ioS_len hi
  · obtain ⟨i, g1, g2⟩ := ioS_at hi h1
    obtain ⟨j, g3, g4⟩ := ioS_at hi h2
    obtain ⟨p, g5⟩ := own i g2
    obtain ⟨q, g6⟩ := own j g4
    obtain ⟨v, g7, g8⟩ := r1.slot g1
    obtain ⟨v', g9, g10⟩ := r1.slot g3
    rw [h3] at g7; cases g7
    rw [h4] at g9; cases g9
    have : i = j := w2.inj i j p q a g5 g6 g8 g10
    subst this
    exact ioS_inj hi nd h1 h2 g1 g3
theorem putS_ok : ∀ {io : List Bool} {as : List Ar} {is : List Nat} {vs : List V} {outs : List PV} {ρ : Sl}, ioS io as = some is → is.Nodup → (∀ i ∈ is, ∃ p, sget ρ i = some (p, true)) → (∀ {k i : Nat}, as[k]? = some (.sl i) → ∃ v, vs[k]? = some v ∧ σ[i]? = some (some v)) →
    ArgOut n H' Z' io vs outs → putS is outs ρ = some ρ2 → ρ2.length = ρ.length ∧ ∀ j, (j ∉ is ∧ sget ρ2 j = sget ρ j) ∨ ∃ p q a, sget ρ j = some (p, true) ∧ sget ρ2 j = some (q, true) ∧ σ[j]? = some (some (.ref a)) ∧ OV n H' Z' q a ∧ ¬ Z' a
  | [], as, is, vs, outs, ρ, hi, nd, ow, sl, ao, hp => by
    have hi : some [] = some is := by cases as <;> exact hi
    cases hi
    have ao : outs = [] := by cases vs <;> exact ao
    subst ao
    cases hp
    exact ⟨rfl, fun j => .inl ⟨by simp, rfl⟩⟩
  | true :: io, .sl i :: as, is, vs, outs, ρ, hi, nd, ow, sl, ao, hp => by
    have hi : (ioS io as).map (i :: ·) = some is := hi
    cases e : ioS io as with
    | none => rw [e] at hi; cases hi
    | some l =>
      rw [e] at hi; cases hi
      rw [List.nodup_cons] at nd
      match vs, outs, ao with
      | v :: vs, q :: outs, ⟨⟨a, ev', hz, ov⟩, ao⟩ =>
        subst ev'
        obtain ⟨p, hp0⟩ := ow i List.mem_cons_self
        have hl := sget_lt hp0
        have sg : ∀ j, sget (sput ρ i (some (q, true))) j = if i = j then some (q, true) else sget ρ j := fun j => sget_put' hl
        obtain ⟨l1, h1⟩ := putS_ok (ρ := sput ρ i (some (q, true))) e nd.2 (fun j hj => by
          obtain ⟨p', h⟩ := ow j (List.mem_cons_of_mem _ hj)
          refine ⟨p', ?_⟩
          rw [sg, if_neg (fun c : i = j => nd.1 (c ▸ hj))]
          exact h) (fun {k j} h => by
          obtain ⟨v', g1, g2⟩ := sl (k := k + 1) (i := j) (by simpa using h)
          exact ⟨v', by simpa using g1, g2⟩) ao (show putS l outs (sput ρ i (some (q, true))) = some ρ2 from hp)
        refine ⟨l1.trans sput_len, fun j => ?_⟩
        obtain ⟨v0, g1, g2⟩ := sl (k := 0) (i := i) rfl
        have g1 : some (V.ref a) = some v0 := g1
        cases g1
        rcases h1 j with ⟨g3, g4⟩ | ⟨p', q', a', g3, g4, g5, g6, g7⟩
        · rw [sg] at g4
          by_cases c : i = j
          · subst c
            rw [if_pos rfl] at g4
            exact .inr ⟨p, q, a, hp0, g4, g2, ov, hz⟩
          · rw [if_neg c] at g4
            exact .inl ⟨fun hm => (List.mem_cons.mp hm).elim (fun z => c z.symm) g3, g4⟩
        · rw [sg] at g3
          by_cases c : i = j
          · subst c
            exact .inr ⟨p, q', a', hp0, g4, g5, g6, g7⟩
          · rw [if_neg c] at g3
            exact .inr ⟨p', q', a', g3, g4, g5, g6, g7⟩
  | true :: io, .v _ _ :: as, is, vs, outs, ρ, hi, _, _, _, _, _ => by cases hi
  | true :: io, [], is, vs, outs, ρ, hi, _, _, _, _, _ => by cases hi
  | false :: io, a :: as, is, vs, outs, ρ, hi, nd, ow, sl, ao, hp => by
    match vs, ao with
    | v :: vs, ao => exact putS_ok (io := io) (as := as) (vs := vs) (show ioS io as = some is from hi) nd ow (fun {k j} h => by
          obtain ⟨v', g1, g2⟩ := sl (k := k + 1) (i := j) (by simpa using h)
          exact ⟨v', by simpa using g1, g2⟩) ao hp
  | false :: io, [], is, vs, outs, ρ, hi, _, _, _, _, _ => by cases hi
end
/-- a call by the evaluator is a call by the promise -/
theorem callO_sp {n : En} {W : WX} {g : G} {cl : FC} {f : Nat} {as : List Ar} {vs : List V} {ρ0 ρ : Sl} {σ : SG} {H0 H : Hp} {Z0 Z : Addr → Prop} {Q : VK} (w : Wd n ρ σ H Z) (s : Stp ρ0 σ H0 Z0 ρ σ H Z) (r : ARs n H0 ρ σ H Z as vs)
    (hno : callO g cl f as ρ ≠ .no) (hx : HX n W ρ0 σ H0 Z0 (callO g cl f as ρ))
    (k : ∀ a ρ' v H' Z', callO g cl f as ρ = .ok a ρ' → Wd n ρ' σ H' Z' → Stp ρ0 σ H0 Z0 ρ' σ H' Z' → AR n H0 ρ' σ H' Z' a v → Q v H') : spEv n g cl f vs H Q (WE W σ) := by
  unfold callO at hno hx k
  cases e1 : ioS (g.io f) as with
  | none => rw [e1] at hno; exact absurd rfl hno
  | some is =>
    rw [e1] at hno hx k
    dsimp only at hno hx k
    cases e2 : vals as (frzA (g.io f) as ρ) with
    | none => rw [e2] at hno; exact absurd rfl hno
    | some ps =>
      rw [e2] at hno hx k
      dsimp only at hno hx k
      cases e3 : (decide is.Nodup && is.all (ownS (frzA (g.io f) as ρ))) with
      | false => rw [e3] at hno; exact absurd rfl hno
      | true =>
        rw [e3] at hno hx k
        rw [if_pos rfl] at hno hx k
        rw [Bool.and_eq_true, decide_eq_true_eq] at e3
        obtain ⟨Z1, w1, s1, ai, il, ij, ioa, hl, slt⟩ := callIn w s r e1 e2 e3.1 e3.2
        refine ⟨Z1, ps, ai, il, ij, w1.gz, fun e => by rw [e] at hno; exact absurd rfl hno, fun x ex H' Z' cls d xa c gz => ?_, fun v o outs ex w' H' Z' c nz gz res ao => ?_⟩
        · rw [ex] at hno hx
          dsimp only at hno hx
          cases ea : (g.io f).any id with
          | true => rw [ea] at hno; exact absurd rfl hno
          | false =>
            rw [ea] at hx
            have noS : ∀ a, ¬ IoA (g.io f) vs a := fun a ⟨k, h, _⟩ => by
              have : (g.io f).any id = true := List.any_eq_true.mpr ⟨true, List.mem_of_getElem? h, rfl⟩
              rw [ea] at this; cases this
            obtain ⟨w2, s2⟩ := w1.called (ρ2 := frzA (g.io f) as ρ) c gz (fun a _ => noS a) (fun a z => (noS a z).elim) rfl fun j => .inl ⟨rfl, fun p a _ _ => noS a⟩
            exact hx x _ H' Z' cls d rfl xa w2 (s1.trans s2)
        · rw [ex] at hno k
          dsimp only at hno k
          cases ep : putS is outs (frzA (g.io f) as ρ) with
          | none => rw [ep] at hno; exact absurd rfl hno
          | some ρ2 =>
            rw [ep] at k
            have own : ∀ i ∈ is, ∃ p, sget (frzA (g.io f) as ρ) i = some (p, true) := fun i hi => ownS_at (List.all_eq_true.mp e3.2 i hi)
            obtain ⟨l2, h2⟩ := putS_ok e1 e3.1 own slt ao ep
            obtain ⟨w2, s2⟩ := w1.called (ρ2 := ρ2) c gz nz (fun a z => by
              obtain ⟨i, _, p, g1, g2⟩ := ioa a z
              exact ⟨i, p, g1, g2⟩) l2 fun j => (h2 j).elim (fun h => .inl ⟨h.2, fun p a g1 g2 z => by
                obtain ⟨i, hi, q, g3, g4⟩ := ioa a z
                exact h.1 (w1.inj j i p q a g1 g3 g2 g4 ▸ hi)⟩) .inr
            refine k _ ρ2 w' H' Z' rfl w2 (s1.trans s2) ?_
            unfold Res at res
            cases o with
            | false => exact res
            | true =>
              rw [if_pos rfl] at res
              obtain ⟨a, rfl, ha, hz, ov⟩ := res
              refine ⟨a, rfl, s1.back ha, hz, fun oa => ?_, ov⟩
              rcases s2.oin a oa with z | z
              · obtain ⟨i, p, g1, g2⟩ := z
                obtain ⟨b, g3, _, g4⟩ := w1.own i p g1
                rw [g2] at g3; cases g3
                obtain ⟨ob, g5, _⟩ := g4.there
                rw [ha] at g5; cases g5
              · obtain ⟨i, p, g1, g2⟩ := oa
                obtain ⟨b, g3, _, g4⟩ := w2.own i p g1
                rw [g2] at g3; cases g3
                rcases h2 i with ⟨_, h⟩ | ⟨p', q', a', h3, h4, h5, h6, h7⟩
                · rw [h] at g1
                  obtain ⟨b, g3, _, g5⟩ := w1.own i p g1
                  rw [g2] at g3; cases g3
                  obtain ⟨ob, g6, _⟩ := g5.there
                  rw [ha] at g6; cases g6
                · obtain ⟨b, g3, _, g5⟩ := w1.own i p' h3
                  rw [g2] at g3; cases g3
                  obtain ⟨ob, g6, _⟩ := g5.there
                  rw [ha] at g6; cases g6
end Ev

set_option Elab.async false
set_option linter.all false
set_option maxRecDepth 100000
/-! The evaluator is sound: calls as expressions. -/
namespace Ev
open PySem PySem.Spec PyProof.Rows L2

/-- the def f stands at an address and keeps its promise -/
structure FnAt (X : Cx) (n : En) (g : G) (cl : FC) (k : Nat) (f : Nat) : Prop where
  ok : ∃ fd ps, FnOk X.prog X.w X.K X.mg X.base (L2.CX X.prog X.w) k (n.fA f) fd ps (spEv n g cl f) ∧ Binds X.K fd ps []
section
variable {X : Cx} {n : En} {W : WX} {g : G} {cl : FC} {k : Nat} {f : Nat} {x : Str} {e o : Expr} {es : List Expr} {c : Ev.E} {cs : List Ev.E} {pos p apos : Pos} {CX : CXT} {E : SG → XK} {sp : Sp} {t : TA}
theorem pe_callS0 {fa : Addr} {fd : FuncData} {ps : List Str} (F : FnOk X.prog X.w X.K X.mg X.base CX k fa fd ps sp) (hr : Room k X.A) (hg : Gl X x) (hm : X.mg x = some (.ref fa)) (hk : PySem.W.keepIn X.K (.ref fa) = true) (hb : Binds X.K fd ps []) (hx : ∀ σ, PassesAt CX X σ (E σ))
    (hdb : (x == ("__debug__" : Str)) = false) : PE X (.Call (.Name x p) [] [] pos) (tCallS sp E tNil) := by
  refine ⟨fun pins s σ H Q I h => ?_⟩
  refine wpAny_Call_Name_kw (ld_glob I hg hm ?_ hdb)
  exact PySem.W.callWith_K0 I.kIn hk (run_fnS (us := []) F hr hb (hx σ) I .nil h)
theorem tE_fn {σ : SG} {H : Hp} {Q : VK} (h : tE n W (ev g cl false (.call f cs)) σ H Q) : tCallS (spEv n g cl f) (WE W) (tA n W (evs g cl cs)) σ H Q := by
  obtain ⟨ρ, Z, w, hno, hx, k⟩ := h
  have e0 : ev g cl false (.call f cs) ρ = (evs g cl cs ρ).bd fun as ρ => callO g cl f as ρ := rfl
  rw [e0] at hno hx k
  refine tA.go w .refl (bd_no hno) hx.bd fun as ρ1 vs H1 Z1 e1 w1 b1 _ ars => ?_
  rw [bd_ok e1] at hno hx k
  exact callO_sp w1 b1 ars hno hx k
theorem tA_nil {σ : SG} {H : Hp} {Q : List V → Hp → Prop} (h : tA n W (evs g cl []) σ H Q) : tNil σ H Q := by
  obtain ⟨ρ, Z, w, hno, hx, k⟩ := h
  exact k [] ρ [] H Z rfl w .refl trivial
theorem pe_ecall (F : FnAt X n g cl k f) (tk : Takes X W) (hr : Room k X.A) (hg : Gl X x) (hm : X.mg x = some (.ref (n.fA f))) (hk : PySem.W.keepIn X.K (.ref (n.fA f)) = true) (hdb : (x == ("__debug__" : Str)) = false) (ha : PA X es (tA n W (evs g cl cs))) (hs : es.all notStar = true) (hl : es.length = cs.length) :
    PE X (.Call (.Name x p) es [] pos) (tE n W (ev g cl false (.call f cs))) := by
  obtain ⟨fd, ps, F, hb⟩ := F.ok
  cases es with
  | nil =>
    cases cs with
    | cons c cs => cases hl
    | nil => exact PE.imp (pe_callS0 (E := WE W) F hr hg hm hk hb (passAt tk) hdb) fun σ H Q h => tA_nil (tE_fn h)
  | cons e es =>
    rw [List.all_cons, Bool.and_eq_true] at hs
    exact PE.imp (pe_callS (E := WE W) F hr hg hm hk hb (passAt tk) ha hdb (starEach_cons hs.1) (backTo_any hs.2)) fun σ H Q h => tE_fn h
/-! an instance is made -/
theorem run_makeS {C fa : Addr} {fd : FuncData} {ps : List Str} {pins : List (Addr × Obj)} {σ : SG} {H : Hp} {s : Shared} {Q : VK} {us : List Value} {vs : List V} {E : XK} (M : Mk X.K C fa) (F : FnOk X.prog X.w X.K X.mg X.base CX k fa fd ps sp) (hr : Room (k + 1) X.A) (hb : Binds X.K fd ps [])
    (hx : PassesAt CX X σ E) (I : Inv X pins σ H s) (r : Vals vs us)
    (h : ∀ x dx, H x = none → H dx = none → dx ≠ x → sp (.ref x :: vs) (upd (upd H dx (.own x)) x (.ins C dx [])) (fun v H2 => v = .non ∧ Q (.ref x) H2) E) :
    wpAny (model X.prog X.w) X.A (call (.ref C) us) (EP X pins σ Q) X.xe s := by
  have hq := h (s.heap.objs.size + 1) s.heap.objs.size (I.hok.fresh (Nat.le_succ _)) (I.hok.fresh (Nat.le_refl _)) (Nat.ne_of_lt (Nat.lt_succ_self _))
  have I2 := Inv.made (C := C) I
  have r2 : Vals (V.ref (s.heap.objs.size + 1) :: vs) (Value.ref (s.heap.objs.size + 1) :: us) := .cons rfl r
  have hl : (Value.ref (s.heap.objs.size + 1) :: us).length = ps.length := by
    have e := r2.length
    rw [F.len _ _ _ _ hq] at e
    exact e.symm
  have b := hb _ (Value.ref (s.heap.objs.size + 1) :: us) I2.kIn (by rw [List.append_nil]; exact hl)
  rw [List.append_nil] at b
  refine wpAny_call (make_map (f := fa) I.kIn M.makes M.init (beq_iff_eq.mp M.fn) (codeAny_mono (F.run _ X.stack _ _ ⟨Value.ref (s.heap.objs.size + 1) :: us, []⟩ (Value.ref (s.heap.objs.size + 1) :: us) _ _ E (hr.make C us [])
    (I2.env0.make C us []) b r2 hq) fun r s' hq' => ?_))
  cases r with
  | error e => exact hx pins _ _ e s' I2 hq'
  | ok fl =>
    cases fl with
    | ret u =>
      obtain ⟨v, H', I3, rv, ev, q3⟩ := I2.after hq'
      subst ev
      exact ⟨rv, ⟨V.ref (s.heap.objs.size + 1), H', I3, rfl, q3⟩⟩
    | next => exact False.elim hq'
    | brk => exact False.elim hq'
    | cont => exact False.elim hq'
def tMakeS (C : Addr) (sp : Sp) (E : SG → XK) (t : TA) : TE := fun σ H Q => t σ H fun vs H1 => ∀ x dx, H1 x = none → H1 dx = none → dx ≠ x →
  sp (.ref x :: vs) (upd (upd H1 dx (.own x)) x (.ins C dx [])) (fun v H2 => v = .non ∧ Q (.ref x) H2) (E σ)
theorem pe_makeS {C fa : Addr} {fd : FuncData} {ps : List Str} (M : Mk X.K C fa) (F : FnOk X.prog X.w X.K X.mg X.base CX k fa fd ps sp) (hr : Room (k + 1) X.A) (hg : Gl X x) (hm : X.mg x = some (.ref C)) (hb : Binds X.K fd ps []) (hx : ∀ σ, PassesAt CX X σ (E σ))
    (ha : PA X (e :: es) t) (hdb : (x == ("__debug__" : Str)) = false) (he : starEach (e :: es) X.env = (false, eval e X.env) :: starEach es X.env) (hpl : (backTo pos (starEach es X.env)).any (·.1) = false) :
    PE X (.Call (.Name x p) (e :: es) [] pos) (tMakeS C sp E t) := by
  refine ⟨fun pins s σ H Q I h => ?_⟩
  refine wpAny_Call_Name_kw (ld_glob I hg hm ?_ hdb)
  refine PySem.W.callWith_K (h₀ := X.base) I.ok.mod.kin M.kp (thn (ha.run pos pins s σ H _ I h) fun us s1 ⟨vs, H1, I1, r, q⟩ => ⟨I1.kIn, ?_⟩) he hpl
  exact run_makeS M F hr hb (hx σ) I1 r q
theorem pe_makeS0 {C fa : Addr} {fd : FuncData} {ps : List Str} (M : Mk X.K C fa) (F : FnOk X.prog X.w X.K X.mg X.base CX k fa fd ps sp) (hr : Room (k + 1) X.A) (hg : Gl X x) (hm : X.mg x = some (.ref C)) (hb : Binds X.K fd ps []) (hx : ∀ σ, PassesAt CX X σ (E σ))
    (hdb : (x == ("__debug__" : Str)) = false) : PE X (.Call (.Name x p) [] [] pos) (tMakeS C sp E tNil) := by
  refine ⟨fun pins s σ H Q I h => ?_⟩
  refine wpAny_Call_Name_kw (ld_glob I hg hm ?_ hdb)
  exact PySem.W.callWith_K0 I.kIn M.kp (run_makeS (us := []) M F hr hb (hx σ) I .nil h)
/-- the two objects of an instance are laid -/
theorem Wd.made {ρ : Sl} {σ : SG} {H : Hp} {Z : Addr → Prop} (w : Wd n ρ σ H Z) {x dx C : Addr} (hx : H x = none) (hd : H dx = none) (ne : dx ≠ x) : (∀ a, Z a → upd (upd H dx (.own x)) x (.ins C dx []) a = H a) ∧ (∀ a o, H a = some o → upd (upd H dx (.own x)) x (.ins C dx []) a = some o) := by
  have key : ∀ a o, H a = some o → upd (upd H dx (.own x)) x (.ins C dx []) a = some o := fun a o e => by
    rw [upd_ne (ne_of_none e hx), upd_ne (ne_of_none e hd)]
    exact e
  refine ⟨fun a z => ?_, key⟩
  obtain ⟨o, e, _⟩ := w.gz a z
  rw [e]
  exact key a o e
theorem tE_mk {c : Nat} (hi : g.init c = some f) {σ : SG} {H : Hp} {Q : VK} (h : tE n W (ev g cl false (.mk c cs)) σ H Q) : tMakeS (n.cA c) (spEv n g cl f) (WE W) (tA n W (evs g cl cs)) σ H Q := by
  obtain ⟨ρ, Z, w, hno, hx, k⟩ := h
  have e0 : ev g cl false (.mk c cs) ρ = (evs g cl cs ρ).bd fun as ρ => match g.init c with
    | some f => if g.io f != [true] then .no else (match vals as (frzA [] as ρ) with
        | some vs => (match cl f (.ins c [] :: vs) with
          | .rt .non _ [p] => .ok (.v p true) (frzA [] as ρ)
          | .ex x => .ex x (frzA [] as ρ)
          | _ => .no)
        | none => .no)
    | none => (match as with
      | [] => if g.bare c then .ok (.v (.ins c []) true) ρ else .no
      | _ => .no) := rfl
  rw [e0, hi] at hno hx k
  refine tA.go w .refl (bd_no hno) hx.bd fun as ρ1 vs H1 Z1 e1 w1 b1 _ ars => ?_
  rw [bd_ok e1] at hno hx k
  dsimp only at hno hx k
  intro x dx nx nd ne
  cases hio : (g.io f != [true]) with
  | true => rw [hio] at hno; exact absurd rfl hno
  | false =>
    rw [hio] at hno hx k
    rw [if_neg (by decide)] at hno hx k
    have hio : g.io f = [true] := by simpa using hio
    cases e2 : vals as (frzA [] as ρ1) with
    | none => rw [e2] at hno; exact absurd rfl hno
    | some ps =>
      rw [e2] at hno hx k
      dsimp only at hno hx k
      obtain ⟨Z2, w2, s2, ai, il, ij, ioa, hl, slt⟩ := callIn (io := []) (is := []) w1 b1 ars (by cases as <;> rfl) e2 List.nodup_nil rfl
      obtain ⟨mz, mh⟩ := w2.made (C := n.cA c) nx nd ne
      have nz : ¬ Z2 x := fun z => by
        obtain ⟨o, e, _⟩ := w2.gz x z
        rw [nx] at e; cases e
      have nos : ∀ a, IoA [true] (V.ref x :: vs) a → a = x := fun a ⟨i, h1, h2⟩ => by
        cases i with
        | zero => cases h2; rfl
        | succ i => simp at h1
      have cs0 : ∀ {H' : Hp} {Z' : Addr → Prop}, CStp (IoA [true] (V.ref x :: vs)) (upd (upd H1 dx (.own x)) x (.ins (n.cA c) dx [])) Z2 H' Z' → CStp (fun _ => False) H1 Z2 H' Z' := fun {H' Z'} q =>
        ⟨q.mono, fun a o e t _ => q.stay a o (mh a o e) t fun s => (ne_of_none e nx) (nos a s), fun a o e => q.same a o (mh a o e), fun a z => (q.zin a z).elim .inl fun z => z.elim (fun z => .inr (.inl (by
          cases e : H1 a with
          | none => rfl
          | some o => rw [mh a o e] at z; cases z)) ) fun z => .inr (.inl (by rw [nos a z]; exact nx))⟩
      have argsIn : ∀ {ps : List PV} {vs : List V}, ArgIn n H1 Z2 [] ps vs → ArgIn n (upd (upd H1 dx (.own x)) x (.ins (n.cA c) dx [])) Z2 [] ps vs := by
        intro ps
        induction ps with
        | nil =>
          intro vs h
          match vs, h with
          | [], _ => trivial
          | _ :: _, h => exact h.elim
        | cons p ps ih =>
          intro vs h
          match vs, h with
          | v :: vs, h =>
            refine ⟨?_, ih h.2⟩
            have h1 : RV n H1 Z2 p v := h.1
            exact h1.mono (fun _ z => z) mz
      refine ⟨Z2, .ins c [] :: ps, ?_, by rw [hio]; simp, fun i j a h1 h2 h3 h4 => ?_, fun a z => ?_, fun e => by rw [e] at hno; exact absurd rfl hno, fun xx ex H' Z' cls d xa q gz => ?_, fun v o outs ex w' H' Z' q qn gz res ao => ?_⟩
      · rw [hio]
        exact ⟨⟨x, rfl, nz, .ins upd_same .nil⟩, argsIn ai⟩
      · rw [hio] at h1 h2
        cases i with
        | zero =>
          cases j with
          | zero => rfl
          | succ j => simp at h2
        | succ i => simp at h1
      · obtain ⟨o, e, t⟩ := w2.gz a z
        exact ⟨o, mh a o e, t⟩
      · rw [hio] at q
        rw [ex] at hx
        dsimp only at hx
        obtain ⟨w3, s3⟩ := w2.called (ρ2 := frzA [] as ρ1) (cs0 q) gz (fun _ _ z => z) (fun _ z => z.elim) rfl fun j => .inl ⟨rfl, fun _ _ _ _ z => z⟩
        exact hx xx _ H' Z' cls d rfl xa w3 (s2.trans s3)
      · rw [hio] at q qn ao
        rw [ex] at hno k
        match v, outs, ao with
        | .non, [pp], ao =>
          have res : Res n _ H' Z' .non o w' := res
          have ao1 : ∃ a, V.ref x = .ref a ∧ ¬ Z' a ∧ OV n H' Z' pp a := ao.1
          obtain ⟨a, ea, hz, ov⟩ := ao1
          cases ea
          obtain ⟨w3, s3⟩ := w2.called (ρ2 := frzA [] as ρ1) (cs0 q) gz (fun _ _ z => z) (fun _ z => z.elim) rfl fun j => .inl ⟨rfl, fun _ _ _ _ z => z⟩
          refine ⟨?_, k _ _ (.ref x) H' Z' rfl w3 (s2.trans s3) ⟨x, rfl, s2.back nx, hz, fun oa => ?_, ov⟩⟩
          · unfold Res at res
            cases o with
            | false =>
              have res : RV n H' Z' .non w' := res
              cases res; rfl
            | true =>
              rw [if_pos rfl] at res
              obtain ⟨_, _, _, _, ov'⟩ := res
              cases ov'
          · rcases s3.oin x oa with z | z
            · obtain ⟨i, p, g1, g2⟩ := z
              obtain ⟨b, g3, _, g4⟩ := w2.own i p g1
              rw [g2] at g3; cases g3
              obtain ⟨ob, g5, _⟩ := g4.there
              rw [nx] at g5; cases g5
            · obtain ⟨i, p, g1, g2⟩ := oa
              obtain ⟨b, g3, _, g4⟩ := w2.own i p g1
              rw [g2] at g3; cases g3
              obtain ⟨ob, g5, _⟩ := g4.there
              rw [nx] at g5; cases g5
        | .non, [], ao => exact absurd rfl hno
        | .non, _ :: _ :: _, ao => exact absurd rfl hno
        | .bl _, _, _ => exact absurd rfl hno
        | .int _, _, _ => exact absurd rfl hno
        | .str _, _, _ => exact absurd rfl hno
        | .tup _, _, _ => exact absurd rfl hno
        | .lst _, _, _ => exact absurd rfl hno
        | .dct _, _, _ => exact absurd rfl hno
        | .ins _ _, _, _ => exact absurd rfl hno
        | .lam _, _, _ => exact absurd rfl hno
theorem pe_emk {c : Nat} (hi : g.init c = some f) (M : Mk X.K (n.cA c) (n.fA f)) (F : FnAt X n g cl k f) (tk : Takes X W) (hr : Room (k + 1) X.A) (hg : Gl X x) (hm : X.mg x = some (.ref (n.cA c))) (hdb : (x == ("__debug__" : Str)) = false) (ha : PA X es (tA n W (evs g cl cs))) (hs : es.all notStar = true) (hl : es.length = cs.length) :
    PE X (.Call (.Name x p) es [] pos) (tE n W (ev g cl false (.mk c cs))) := by
  obtain ⟨fd, ps, F, hb⟩ := F.ok
  cases es with
  | nil =>
    cases cs with
    | cons c cs => cases hl
    | nil => exact PE.imp (pe_makeS0 (E := WE W) M F hr hg hm hb (passAt tk) hdb) fun σ H Q h => tA_nil (tE_mk hi h)
  | cons e es =>
    rw [List.all_cons, Bool.and_eq_true] at hs
    exact PE.imp (pe_makeS (E := WE W) M F hr hg hm hb (passAt tk) ha hdb (starEach_cons hs.1) (backTo_any hs.2)) fun σ H Q h => tE_mk hi h
/-! methods -/
theorem methodCall_own {M : Model} {A : Around} {EX : Value → Shared → Prop} {env : Env} {m : Str} {args : List Expr} {Q : Value → Shared → Prop} {s : Shared} (hb : attributeBase o m env (eval o env) = eval o env) (ha : args.all notStar = true) (hl : args.length < 30) (hline : (apos.endLine == pos.line) = true)
    (h : wpAny M A (eval o env) (fun ov s₁ => ∀ pl, wpAny M A (getMethod ov m pl) (fun fx s₂ => wpAny M A (callWith pos fx.1 fx.2 (backTo pos (starEach args env)) (backToKw pos (keywordEach [] env))) Q EX s₂) EX s₁) EX s) :
    wpAny M A (eval (.Call (.Attribute o m apos) args [] pos) env) Q EX s := by
  refine PySem.W.methodCall_KW (pl := do return (← importBound o env).getD true) (thn h fun ov s1 q => q _) ?_
  have hform : methodCallForm (args.length + ([] : List Keyword).length) (backTo pos (starEach args env)) (backToKw pos (keywordEach [] env)) = true := by
    unfold methodCallForm
    have h1 : (backTo pos (starEach args env)).all (fun x => !x.1) = true := by
      have := backTo_any (pos := pos) (env := env) ha
      rw [List.any_eq_false] at this
      rw [List.all_eq_true]
      intro x hx
      simpa using this x hx
    rw [h1]
    simp [backToKw, keywordEach]
    omega
  rw [arm_eval_Call, hb]
  unfold methodCall
  rw [hform]
  unfold calleeOf methodCallPos
  rw [hline]
  rfl
theorem tE_lookup {m : Nat} {H : Hp} {Z : Addr → Prop} (hi : ∀ i j, n.fN i = n.fN j → i = j) : ∀ {fs : List (Nat × PV)} {fv : List (Str × V)}, RFs n H Z fs fv → (fs.lookup m).isSome = false → fv.lookup (n.fN m) = none
  | [], _, .nil, _ => rfl
  | (i, p) :: fs, _, .cons (v := v) (vs := vs) r1 r2, h => by
    by_cases e : m = i
    · subst e
      rw [List.lookup_cons_self] at h
      cases h
    · have e2 : (m == i) = false := by simpa using e
      rw [List.lookup_cons, e2] at h
      rw [List.lookup_cons]
      have e3 : (n.fN m == n.fN i) = false := by simpa using fun z => e (hi _ _ z)
      rw [e3]
      exact tE_lookup hi r2 h
theorem pe_emeth {m : Nat} {nm : Str} {oc : Ev.E} (hn : n.fN m = nm) (hi : ∀ i j, n.fN i = n.fN j → i = j) (hc : ∀ c f, g.meth m c = some f → Cls X.K (n.cA c) ∧ Meth X.K (n.cA c) nm (n.fA f) ∧ FnAt X n g cl k f) (tk : Takes X W) (hr : Room k X.A)
    (ho : PE X o (tE n W (ev g cl false oc))) (ha : PA X es (tA n W (evs g cl cs))) (hs : es.all notStar = true) (hl : es.length = cs.length) (hb : attributeBase o nm X.env (eval o X.env) = eval o X.env) (h30 : es.length < 30) (hline : (apos.endLine == pos.line) = true) :
    PE X (.Call (.Attribute o nm apos) es [] pos) (tE n W (ev g cl false (.meth m oc cs))) := by
  refine ⟨fun pins s σ H Q I h => ?_⟩
  obtain ⟨ρ, Z, w, hno, hx, k⟩ := h
  have e0 : ev g cl false (.meth m oc cs) ρ = (ev g cl false oc ρ).bd fun a ρ => (match val a ρ with
    | some (.ins c fs) => if (fs.lookup m).isSome then .no else (match g.meth m c with
      | some f => (evs g cl cs ρ).bd fun as ρ => callO g cl f (a :: as) ρ
      | none => .no)
    | _ => .no) := rfl
  rw [e0] at hno hx k
  refine methodCall_own hb hs h30 hline (thn (ho.run pins s σ H (fun v H1 => ∃ a ρ1 Z1, ev g cl false oc ρ = .ok a ρ1 ∧ Wd n ρ1 σ H1 Z1 ∧ Stp ρ σ H Z ρ1 σ H1 Z1 ∧ AR n H ρ1 σ H1 Z1 a v) I (tE.go w .refl (bd_no hno) hx.bd fun a ρ1 v H1 Z1 e1 w1 b1 _ ar => ⟨a, ρ1, Z1, e1, w1, b1, ar⟩))
    fun u s1 ⟨v, H1, I1, rv, a, ρ1, Z1, e1, w1, b1, ar⟩ pl => ?_)
  rw [bd_ok e1] at hno hx k
  cases ev' : val a ρ1 with
  | none => rw [ev'] at hno; exact absurd rfl hno
  | some pv =>
    have rd := ar.val w1 ev'
    rw [ev'] at hno hx k
    cases pv with
    | ins c fs =>
      dsimp only at hno hx k
      cases el : (fs.lookup m).isSome with
      | true => rw [el] at hno; exact absurd rfl hno
      | false =>
        rw [el] at hno hx k
        rw [if_neg (by decide)] at hno hx k
        cases em : g.meth m c with
        | none => rw [em] at hno; exact absurd rfl hno
        | some f =>
          rw [em] at hno hx k
          dsimp only at hno hx k
          obtain ⟨ad, dx, fv, rfl, ea, rf⟩ := rd.ins
          obtain rfl : u = Value.ref ad := rv
          obtain ⟨c1, c2, c3⟩ := hc c f em
          obtain ⟨fd, ps, F, hbd⟩ := c3.ok
          refine getmeth_ok I1 ea c1 c2 (by rw [← hn]; exact tE_lookup hi rf el) ?_
          have fin : ∀ (us : List Value) (s2 : Shared) (vs : List V) (H2 : Hp), Inv X pins σ H2 s2 → Vals vs us → (∃ as ρ2 Z2, evs g cl cs ρ1 = .ok as ρ2 ∧ Wd n ρ2 σ H2 Z2 ∧ Stp ρ σ H Z ρ2 σ H2 Z2 ∧ Stp ρ1 σ H1 Z1 ρ2 σ H2 Z2 ∧ ARs n H ρ2 σ H2 Z2 as vs) →
              wpAny (model X.prog X.w) X.A (call (.ref (n.fA f)) (.ref ad :: us)) (EP X pins σ Q) X.xe s2 := by
            intro us s2 vs H2 I2 r2 ⟨as, ρ2, Z2, e2, w2, b2, st, ars⟩
            rw [bd_ok e2] at hno hx k
            exact run_fnS (E := WE W) (us := .ref ad :: us) (vs := .ref ad :: vs) F hr hbd (passAt tk σ) I2 (.cons rfl r2) (callO_sp w2 b2 (as := a :: as) (vs := .ref ad :: vs) ⟨ar.step w1 st, ars⟩ hno hx k)
          have args := tA.go (W := W) w1 b1 (f := evs g cl cs) (bd_no hno) hx.bd (Q := fun vs H2 => ∃ as ρ2 Z2, evs g cl cs ρ1 = .ok as ρ2 ∧ Wd n ρ2 σ H2 Z2 ∧ Stp ρ σ H Z ρ2 σ H2 Z2 ∧ Stp ρ1 σ H1 Z1 ρ2 σ H2 Z2 ∧ ARs n H ρ2 σ H2 Z2 as vs) fun as ρ2 vs H2 Z2 e2 w2 b2 st ars => ⟨as, ρ2, Z2, e2, w2, b2, st, ars⟩
          cases es with
          | nil =>
            cases cs with
            | cons c cs => cases hl
            | nil => exact PySem.W.callWith_K0 (first := [.ref ad]) I1.kIn c2.kp (fin [] s1 [] H1 I1 .nil (tA_nil args))
          | cons e es =>
            rw [List.all_cons, Bool.and_eq_true] at hs
            exact PySem.W.callWith_K (first := [.ref ad]) (h₀ := X.base) I1.ok.mod.kin c2.kp (thn (ha.run pos pins s1 σ H1 _ I1 args) fun us s2 ⟨vs, H2, I2, r2, q2⟩ => ⟨I2.kIn, fin us s2 vs H2 I2 r2 q2⟩) (starEach_cons hs.1) (backTo_any hs.2)
    | _ => exact absurd rfl hno
end
end Ev

set_option Elab.async false
set_option linter.all false
set_option maxRecDepth 100000
/-! The evaluator is sound: targets, what is gone through. -/
namespace Ev
open PySem PySem.Spec PyProof.Rows L2

/-! ### targets -/
mutual
def tslots : T → List Nat
  | .nm i => [i]
  | .tup l => tslotss l
def tslotss : List T → List Nat
  | [] => []
  | t :: r => tslots t ++ tslotss r
end
def Same (S : List Nat) (σ σ' : SG) : Prop := σ'.length = σ.length ∧ ∀ j, j ∉ S → σ'[j]? = σ[j]?
theorem Same.trans {S S' : List Nat} {σ σ' σ'' : SG} (a : Same S σ σ') (b : Same S' σ' σ'') : Same (S ++ S') σ σ'' :=
  ⟨b.1.trans a.1, fun j h => by
    rw [List.mem_append, not_or] at h
    exact (b.2 j h.2).trans (a.2 j h.1)⟩
def tG (n : En) (t : T) : TG := fun x σ H Q => ∃ ρ Z p ρ', Wd n ρ σ H Z ∧ RV n H Z p x ∧ bindT t p ρ = some ρ' ∧ ∀ σ', Wd n ρ' σ' H Z → Stp ρ σ H Z ρ' σ' H Z → Same (tslots t) σ σ' → Q σ' H
def tGs (n : En) (ts : List T) : TGs := fun xs σ H Q => ∃ ρ Z ps ρ', Wd n ρ σ H Z ∧ RVs n H Z ps xs ∧ bindTs ts ps ρ = some ρ' ∧ ∀ σ', Wd n ρ' σ' H Z → Stp ρ σ H Z ρ' σ' H Z → Same (tslotss ts) σ σ' → Q σ' H
theorem PG.imp {X : Cx} {e : Expr} {t t' : TG} (h : PG X e t) (k : ∀ x σ H Q, t' x σ H Q → t x σ H Q) : PG X e t' := ⟨fun pins s σ H v u Q I r q => h.run pins s σ H v u Q I r (k v σ H Q q)⟩
theorem PGs.imp {X : Cx} {e : List Expr} {t t' : TGs} (h : PGs X e t) (k : ∀ x σ H Q, t' x σ H Q → t x σ H Q) : PGs X e t' := ⟨fun pins s σ H v u Q I r q => h.run pins s σ H v u Q I r (k v σ H Q q)⟩
section
variable {X : Cx} {n : En} {x : Str} {i : Nat} {e : Expr} {es : List Expr} {t : T} {ts : List T} {pos : Pos} {kk : Nat}
theorem pg_ename (hN : X.N.Nodup) (hi : X.N[i]? = some x) (hx : Loc X.env.scope x) (hf : X.fn x = true ∨ X.env.scope.names.lookup x = some .local) : PG X (.Name x pos) (tG n (.nm i)) := by
  refine PG.imp (pg_name hN hi hx hf) fun v σ H Q ⟨ρ, Z, p, ρ', w, rv, e, k⟩ => ?_
  have e : (if i < ρ.length then some (sput ρ i (some (p, false))) else none) = some ρ' := e
  by_cases hl : i < ρ.length
  · rw [if_pos hl] at e; cases e
    obtain ⟨w1, s1⟩ := w.store .refl hl (o := false) (H0 := H) rv
    refine k _ w1 s1 ⟨List.length_set, fun j hj => ?_⟩
    have : i ≠ j := fun z => hj (by rw [z]; exact List.mem_singleton.mpr rfl)
    exact List.getElem?_set_ne this
  · rw [if_neg hl] at e; cases e
theorem pgs_enil : PGs X [] (tGs n []) := by
  refine PGs.imp pgs_nil fun v σ H Q ⟨ρ, Z, ps, ρ', w, rv, e, k⟩ => ?_
  cases ps with
  | nil =>
    cases rv
    cases e
    exact ⟨rfl, k σ w .refl ⟨rfl, fun _ _ => rfl⟩⟩
  | cons p ps => cases e
theorem pgs_econs (h1 : PG X e (tG n t)) (h2 : PGs X es (tGs n ts)) (hs : notStar e = true) : PGs X (e :: es) (tGs n (t :: ts)) := by
  refine PGs.imp (pgs_cons h1 h2 (by cases e <;> first | rfl | cases hs)) fun v σ H Q ⟨ρ, Z, ps, ρ', w, rv, e, k⟩ => ?_
  cases ps with
  | nil => cases e
  | cons p ps =>
    cases rv with
    | @cons _ _ v vs r1 r2 =>
      have e : (match bindT t p ρ with | some ρ' => bindTs ts ps ρ' | none => none) = some ρ' := e
      cases eb : bindT t p ρ with
      | none => rw [eb] at e; cases e
      | some ρ1 =>
        rw [eb] at e
        refine ⟨v, vs, rfl, ρ, Z, p, ρ1, w, r1, eb, fun σ1 w1 s1 m1 => ?_⟩
        exact ⟨ρ1, Z, ps, ρ', w1, r2, e, fun σ2 w2 s2 m2 => k σ2 w2 (s1.trans s2) (m1.trans m2)⟩
theorem bindTs_len : ∀ {ts : List T} {ps : List PV} {ρ ρ' : Sl}, bindTs ts ps ρ = some ρ' → ps.length = ts.length
  | [], [], _, _, _ => rfl
  | [], _ :: _, _, _, h => by cases h
  | _ :: _, [], _, _, h => by cases h
  | t :: ts, p :: ps, ρ, ρ', h => by
    have h : (match bindT t p ρ with | some ρ' => bindTs ts ps ρ' | none => none) = some ρ' := h
    split at h
    · rw [List.length_cons, List.length_cons, bindTs_len h]
    · cases h
theorem assignEach_len {env : Env} : ∀ es : List Expr, es.all notStar = true → (assignEach es env).length = es.length ∧ (assignEach es env).findIdx? (·.1) = none
  | [], _ => ⟨rfl, rfl⟩
  | e :: es, h => by
    rw [List.all_cons, Bool.and_eq_true] at h
    obtain ⟨h1, h2⟩ := assignEach_len es h.2
    have e0 : assignEach (e :: es) env = (false, assign e env) :: assignEach es env := by
      cases e <;> first | rfl | cases h.1
    rw [e0]
    refine ⟨by rw [List.length_cons, List.length_cons, h1], ?_⟩
    rw [List.findIdx?_cons, h2]
    rfl
theorem pg_etup (hK : n.K = X.K) (hc : X.calm = true) (h : PGs X es (tGs n ts)) (hs : es.all notStar = true) (hl : es.length = ts.length) : PG X (.Tuple es kk pos) (tG n (.tup ts)) := by
  refine ⟨fun pins s σ H v u Q I r ⟨ρ, Z, p, ρ', w, rv, e, k⟩ => ?_⟩
  obtain ⟨h1, h2⟩ := assignEach_len (env := X.env) es hs
  have key : ∀ l vs, RVs n H Z l vs → bindTs ts l ρ = some ρ' → vs.length = es.length ∧ tGs n ts vs σ H Q := fun l vs rl eb => by
    refine ⟨?_, ρ, Z, l, ρ', w, rl, eb, k⟩
    rw [rl.len, bindTs_len eb, hl]
  cases p with
  | tup l =>
    obtain ⟨a, vs, e2, r1, l1⟩ := (RD.tup (.inl rv))
    obtain ⟨k1, k2⟩ := key l vs l1 e
    exact (pg_tup hc h h1 h2).run pins s σ H v u Q I r ⟨a, vs, e2, hK ▸ r1, k1, k2⟩
  | lst l =>
    obtain ⟨a, vs, e2, r1, l1⟩ := (RD.lst (.inl rv))
    obtain ⟨k1, k2⟩ := key l vs l1 e
    exact (pg_lst hc h h1 h2).run pins s σ H v u Q I r ⟨a, vs, e2, .inl r1, k1, k2⟩
  | _ => cases e
end
/-! ### what is gone through -/
/-- an iterator gives the items of a list -/
def ItOk (n : En) (J : L2.It) (l : List PV) (H1 : Hp) (Z1 : Addr → Prop) : Prop := ∀ ρ σ H Z, Wd n ρ σ H Z → (∀ a, Z1 a → Z a) → (∀ a, Z1 a → H a = H1 a) →
  (∀ i, l.length ≤ i → J.stop i H) ∧ ∀ i p, l[i]? = some p → J.go i H ∧ ∀ x H', J.yld i H x H' → ∃ Z', Wd n ρ σ H' Z' ∧ Stp ρ σ H Z ρ σ H' Z' ∧ RV n H' Z' p x
def tI (n : En) (W : WX) (f : Sl → O (List PV)) : TI := fun σ H R => ∃ ρ Z, Wd n ρ σ H Z ∧ f ρ ≠ .no ∧ HX n W ρ σ H Z (f ρ) ∧
  ∀ l ρ' H' Z' J, f ρ = .ok l ρ' → Wd n ρ' σ H' Z' → Stp ρ σ H Z ρ' σ H' Z' → ItOk n J l H' Z' → R J H'
section
variable {X : Cx} {n : En} {W : WX} {g : G} {cl : FC} {e a b tg : Expr} {c ca cb : E} {pos p : Pos}
theorem use_ok' {ar : Ar} {ρ : Sl} (h : use ar ρ ≠ .no) : ∃ p ρ', use ar ρ = .ok p ρ' := by
  unfold use at h ⊢
  split at h
  · exact ⟨_, _, rfl⟩
  · split at h
    · rename_i e
      exact ⟨_, _, rfl⟩
    · exact absurd rfl h
theorem it_lst {K : PySem.W.Frag} (hK : n.K = K) {H1 : Hp} {Z1 : Addr → Prop} {l : List PV} {v : V} (r : RV n H1 Z1 (.lst l) v) : ∃ ad, v = .ref ad ∧ (∃ xs, SqL K H1 ad xs) ∧ ItOk n (Itl K ad) l H1 Z1 := by
  cases r with
  | @lst ad vs _ z rd rl =>
    refine ⟨ad, rfl, ⟨vs, .inl rd⟩, fun ρ σ H Z w hz hh => ?_⟩
    have rd' : Rd H ad (.lst vs) := by unfold Rd at rd ⊢; rw [hh ad z]; exact rd
    have rl' := rl.mono hz hh
    refine ⟨fun i hi => ⟨vs, .inl rd', by rw [rl.len]; exact hi⟩, fun i p hp => ?_⟩
    obtain ⟨x, hx, rx⟩ := rl'.get hp
    refine ⟨⟨vs, x, .inl rd', hx⟩, fun x' H' ⟨e, q⟩ => ?_⟩
    subst e
    have := q vs (.inl rd')
    rw [hx] at this; cases this
    exact ⟨Z, w, .refl, rx⟩
theorem it_tup {K : PySem.W.Frag} (hK : n.K = K) {H1 : Hp} {Z1 : Addr → Prop} {l : List PV} {v : V} (r : RV n H1 Z1 (.tup l) v) : ∃ ad, v = .ref ad ∧ (∃ xs, SqT K H1 ad xs) ∧ ItOk n (Itt K ad) l H1 Z1 := by
  have key : ∀ {ad : Addr} {vs : List V}, (∀ H, (∀ a, Z1 a → H a = H1 a) → SqT K H ad vs) → RVs n H1 Z1 l vs → ItOk n (Itt K ad) l H1 Z1 := by
    intro ad vs sq rl ρ σ H Z w hz hh
    have rl' := rl.mono hz hh
    have sq' := sq H hh
    refine ⟨fun i hi => ⟨vs, sq', by rw [rl.len]; exact hi⟩, fun i p hp => ?_⟩
    obtain ⟨x, hx, rx⟩ := rl'.get hp
    refine ⟨⟨vs, x, sq', hx⟩, fun x' H' ⟨e, q⟩ => ?_⟩
    subst e
    have := q vs sq'
    rw [hx] at this; cases this
    exact ⟨Z, w, .refl, rx⟩
  cases r with
  | @tup ad vs _ z rd rl => exact ⟨ad, rfl, ⟨vs, .inl rd⟩, key (fun H hh => .inl (by unfold Rd at rd ⊢; rw [hh ad z]; exact rd)) rl⟩
  | @tupK ad vs _ k rl => exact ⟨ad, rfl, ⟨vs, .inr (hK ▸ k)⟩, key (fun H hh => .inr (hK ▸ k)) rl⟩
def Itq (n : En) (d : Addr) (o : Obj) (xs : List (NestedKey × Addr × Value)) : L2.It :=
  ⟨fun i H => H d = some (DO n o d xs) ∧ i < xs.length, fun i H x H' => H' = H ∧ ∃ k b u, xs[i]? = some (k, b, u) ∧ x = .ref b, fun i H => H d = some (DO n o d xs) ∧ xs.length ≤ i⟩
theorem turn_q {P : Program} {w : World} {K : PySem.W.Frag} {o : Obj} {es : Array DictEntry} {ep : Nat} {d : Addr} {xs : List (NestedKey × Addr × Value)} (it : Addr) (hod : o.data = .dict es ep) : Turn P w K tg (Itq n d o xs) [it] it (fun i h => h.IsKeyIter it d i xs.length ep) where
  mem := by simp
  obj := fun i h st b hb => by
    have e : b = it := by simpa using hb
    subst e
    obtain ⟨oi, e, c, dd⟩ := st
    exact ⟨oi, e, fun v z => by rw [dd] at z; cases z⟩
  keep := fun i h h' st k => st.at fun oi e => k it (by simp) oi e
  item := by
    intro X hP hw hK hc i pins s σ H E I hf st hg
    subst hP hw hK
    obtain ⟨hd, hi⟩ := hg
    obtain ⟨f0, f1, f2, f3, f4, f5⟩ := hf it (by simp)
    obtain ⟨hs, hz, hgd, es', ep', hx, hdt, he, nd⟩ := DO.get I.hok hd
    obtain ⟨rfl, rfl⟩ := dict_ep hod hdt
    have hsz := size_of_entries he
    obtain ⟨⟨k, b, u⟩, hkv⟩ : ∃ p, xs[i]? = some p := ⟨xs[i], List.getElem?_eq_getElem hi⟩
    have hen := entry_at he i
    rw [hkv] at hen
    refine next_key_item st hgd hdt hsz hen fun h' st' sb => ?_
    have I1 : Inv X pins σ H { s with heap := h' } := I.turned (t' := s.toks) (fun b ob hb e => (sb.2 b hb).trans e) f0 f1 f3 f4 f5
    obtain ⟨oi, e, c, dd⟩ := id st'
    exact ⟨.ref b, rfl, go_of (s := { s with heap := h' }) e c dd (by decide) ⟨.ref b, H, I1, rfl, ⟨rfl, k, b, u, hkv, rfl⟩, st', fun b hb => (hf b hb).1⟩⟩
  done := by
    intro X hP hw hK hc i pins s σ H E I hf st hg
    subst hP hw hK
    obtain ⟨hd, hi⟩ := hg
    obtain ⟨f0, f1, f2, f3, f4, f5⟩ := hf it (by simp)
    obtain ⟨hs, hz, hgd, es', ep', hx, hdt, he, nd⟩ := DO.get I.hok hd
    obtain ⟨rfl, rfl⟩ := dict_ep hod hdt
    exact next_key_end (I.ok.hd hc) st hgd hdt (size_of_entries he) hi fun h' eb => ⟨rfl, I.turned (t' := s.toks) (fun b ob hb e => eb b ob hb e) f0 f1 f3 f4 f5⟩
  self := fun A i s Q E st h => by
    refine wpAny_pyIter_slot st.typeIs F.slot_dict_keyiterator_iter (wpAny_call_entry F.slot_dict_keyiterator_iter st.typeIs F.entry_dict_keyiterator_iter ?_ (F.args_dict_keyiterator_iter_1 _))
    show wpAny _ _ (ret (.ref it)) _ _ s
    exact wpAny_pure ⟨_, rfl, "dict_keyiterator", _, st.typeIs, F.slot_dict_keyiterator_next.lookup, h⟩
theorem RKs.keyAtI {H : Hp} {Z : Addr → Prop} : ∀ {l : List (PV × PV)} {xs : List (NestedKey × Addr × Value)}, RKs n H Z l xs → ∀ {i : Nat} {k : PV}, (l.map (·.1))[i]? = some k → ∃ nk b u, xs[i]? = some (nk, b, u) ∧ RV n H Z k (.ref b)
  | [], _, .nil, i, k, h => by simp at h
  | (k0, v0) :: l, _, .cons (b := b) (u := u) _ rk _ _ t, i, k, h => by
    cases i with
    | zero =>
      simp at h
      subst h
      exact ⟨_, b, u, rfl, rk⟩
    | succ i =>
      obtain ⟨nk, b', u', h1, h2⟩ := RKs.keyAtI t (i := i) (k := k) (by simpa using h)
      exact ⟨nk, b', u', by simpa using h1, h2⟩
theorem it_dct {H1 : Hp} {Z1 : Addr → Prop} {l : List (PV × PV)} {v : V} (r : RV n H1 Z1 (.dct l) v) : ∃ ad o xs, v = .ref ad ∧ H1 ad = some (DO n o ad xs) ∧ ItOk n (Itq n ad o xs) (l.map (·.1)) H1 Z1 := by
  cases r with
  | @dct ad o xs _ z rd rl =>
    refine ⟨ad, o, xs, rfl, rd, fun ρ σ H Z w hz hh => ?_⟩
    have rd' : H ad = some (DO n o ad xs) := by rw [hh ad z]; exact rd
    have rl' := rl.mono hz hh
    refine ⟨fun i hi => ⟨rd', by rw [rl.len]; simpa using hi⟩, fun i k hp => ?_⟩
    obtain ⟨nk, b, u, h1, h2⟩ := rl'.keyAtI hp
    refine ⟨⟨rd', (List.getElem?_eq_some_iff.mp h1).1⟩, fun x' H' ⟨e, nk', b', u', q1, q2⟩ => ?_⟩
    subst e q2
    rw [h1] at q1; cases q1
    exact ⟨Z, w, .refl, h2⟩
theorem pi_eof (f : Fit X n) (he : PE X e (tE n W (ev g cl false c))) : PI X tg e (tI n W (evI g cl (.of c))) := by
  refine ⟨fun pins s σ H R I h => ?_⟩
  obtain ⟨ρ, Z, w, hno, hx, k⟩ := h
  have e0 : evI g cl (.of c) ρ = (ev g cl false c ρ).bd fun a ρ => (use a ρ).bd fun p ρ => (match p.1 with
    | .lst l => .ok l ρ
    | .tup l => .ok l ρ
    | .dct d => .ok (d.map (·.1)) ρ
    | _ => .no) := rfl
  rw [e0] at hno hx k
  cases e1 : ev g cl false c ρ with
  | no => rw [e1] at hno; exact absurd rfl hno
  | ex x r =>
    -- it does not come back
    refine (pi_list he).run pins s σ H R I (tE.go w .refl (bd_no hno) hx.bd fun a ρ1 v H1 Z1 e2 _ _ _ _ => ?_)
    rw [e1] at e2; cases e2
  | ok ar ρ1 =>
    have hx' : HX n W ρ σ H Z (ev g cl false c ρ) := hx.bd
    have hno' : ev g cl false c ρ ≠ .no := bd_no hno
    rw [bd_ok e1] at hno k
    obtain ⟨p, ρ2, eu⟩ := use_ok' (bd_no hno)
    rw [bd_ok eu] at hno k
    obtain ⟨pv, o⟩ := p
    cases pv with
    | lst l =>
      refine (pi_list he).run pins s σ H R I (tE.go w .refl hno' hx' fun a ρ1' v H1 Z1 e2 w1 b1 _ ar1 => ?_)
      rw [e1] at e2; cases e2
      obtain ⟨Z2, w2, b2, rv⟩ := use_settled w1 b1 ar1 eu
      obtain ⟨ad, ev', sq, it⟩ := it_lst f.K rv
      exact ⟨ad, ev', sq, k l ρ2 H1 Z2 _ rfl w2 b2 it⟩
    | tup l =>
      refine (pi_tup he).run pins s σ H R I (tE.go w .refl hno' hx' fun a ρ1' v H1 Z1 e2 w1 b1 _ ar1 => ?_)
      rw [e1] at e2; cases e2
      obtain ⟨Z2, w2, b2, rv⟩ := use_settled w1 b1 ar1 eu
      obtain ⟨ad, ev', sq, it⟩ := it_tup f.K rv
      exact ⟨ad, ev', sq, k l ρ2 H1 Z2 _ rfl w2 b2 it⟩
    | dct d =>
      refine thn (he.run pins s σ H (fun v H1 => ∃ ad o xs, v = .ref ad ∧ H1 ad = some (DO n o ad xs) ∧ R (Itq n ad o xs) H1) I (tE.go w .refl hno' hx' fun a ρ1' v H1 Z1 e2 w1 b1 _ ar1 => ?_)) fun u s1 ⟨x, H1, I1, rx, ad, o, xs, ex, hd, q⟩ => ?_
      · rw [e1] at e2; cases e2
        obtain ⟨Z2, w2, b2, rv⟩ := use_settled w1 b1 ar1 eu
        obtain ⟨ad, o, xs, ev', hd, it⟩ := it_dct rv
        exact ⟨ad, o, xs, ev', hd, k _ ρ2 H1 Z2 _ rfl w2 b2 it⟩
      · subst ex
        obtain rfl : u = Value.ref ad := rx
        obtain ⟨hs, hz, hgd, es, ep, hx, hdt, he', nd⟩ := DO.get I1.hok hd
        refine iter_keys hs hgd hx hdt (pi_one (tk := s1.toks) I1 _ (turn_q _ hdt) ⟨_, Heap.get?_push_size _ rfl, rfl, ?_⟩ q)
        rw [size_of_entries he'] <;> rfl
    | _ => exact absurd rfl hno
theorem it_rng {lo : Int} {k : Nat} {H1 : Hp} {Z1 : Addr → Prop} : ItOk n (Itr lo k) (rngL lo k) H1 Z1 := by
  intro ρ σ H Z w hz hh
  unfold rngL
  refine ⟨fun i hi => show k ≤ i by simpa using hi, fun i p hp => ?_⟩
  rw [List.getElem?_map] at hp
  by_cases c : i < k
  · rw [List.getElem?_range c] at hp
    cases hp
    refine ⟨c, fun x H' ⟨e, q⟩ => ?_⟩
    subst e q
    exact ⟨Z, w, .refl, .int _⟩
  · rw [List.getElem?_eq_none (by simpa using c)] at hp; cases hp
theorem pi_erng1 (hg : Gl X "range") (hm : X.mg "range" = none) (ha : PA X [a] (tA n W (evs g cl [ca]))) (hs : notStar a = true) : PI X tg (.Call (.Name "range" p) [a] [] pos) (tI n W (evI g cl (.rng [ca]))) := by
  refine ⟨fun pins s σ H R I h => (pi_range1 hg hm ha (by rw [starEach_cons hs]; rfl)).run pins s σ H R I ?_⟩
  obtain ⟨ρ, Z, w, hno, hx, k⟩ := h
  have e0 : evI g cl (.rng [ca]) ρ = (evs g cl [ca] ρ).bd fun as ρ => (match (vals as ρ).bind rngV with
    | some l => .ok l ρ
    | none => .no) := rfl
  rw [e0] at hno hx k
  refine tA.go w .refl (bd_no hno) hx.bd fun as ρ1 vs H1 Z1 e1 w1 b1 _ ars => ?_
  rw [bd_ok e1] at hno hx k
  cases ev' : vals as ρ1 with
  | none => rw [ev'] at hno; exact absurd rfl hno
  | some ps =>
    have rds := ARs.vals w1 ars ev'
    rw [ev'] at hno k
    have hno : (match rngV ps with | some l => O.ok l ρ1 | none => O.no) ≠ .no := hno
    have k : ∀ l ρ' H' Z' J, (match rngV ps with | some l => O.ok l ρ1 | none => O.no) = .ok l ρ' → Wd n ρ' σ H' Z' → Stp ρ σ H Z ρ' σ H' Z' → ItOk n J l H' Z' → R J H' := k
    have e2 : vs.length = 1 := by
      have : ∀ {as : List Ar} {vs : List V}, ARs n H ρ1 σ H1 Z1 as vs → vs.length = as.length := by
        intro as
        induction as with
        | nil =>
          intro vs h
          cases vs with
          | nil => rfl
          | cons v vs => exact False.elim h
        | cons a as ih =>
          intro vs h
          cases vs with
          | nil => exact False.elim h
          | cons v vs => rw [List.length_cons, List.length_cons, ih (And.right h)]
      rw [this ars]
      have e3 : evs g cl [ca] ρ = (ev g cl false ca ρ).bd fun x ρ => .ok [x] ρ := by
        show ((ev g cl false ca ρ).bd fun x ρ => (O.ok [] ρ).bd fun l ρ => .ok (x :: l) ρ) = _
        simp only [ok_bd]
      rw [e3] at e1
      cases e4 : ev g cl false ca ρ with
      | no => rw [e4] at e1; cases e1
      | ex x r => rw [e4] at e1; cases e1
      | ok x r => rw [e4] at e1; cases e1; rfl
    match vs, e2 with
    | [v], _ =>
      obtain ⟨q, rfl, rd⟩ := RDs.one rds
      cases q with
      | int j =>
        have hno : (match (if -(4611686018427387904 : Int) ≤ j ∧ j < 4611686018427387904 then some (rngL 0 j.toNat) else none) with | some l => O.ok l ρ1 | none => O.no) ≠ .no := hno
        have k : ∀ l ρ' H' Z' J, (match (if -(4611686018427387904 : Int) ≤ j ∧ j < 4611686018427387904 then some (rngL 0 j.toNat) else none) with | some l => O.ok l ρ1 | none => O.no) = .ok l ρ' → Wd n ρ' σ H' Z' → Stp ρ σ H Z ρ' σ H' Z' → ItOk n J l H' Z' → R J H' := k
        by_cases c : -(4611686018427387904 : Int) ≤ j ∧ j < 4611686018427387904
        · rw [if_pos c] at k
          exact ⟨j, by rw [rd.int], c.1, c.2, k _ ρ1 H1 Z1 _ rfl w1 b1 it_rng⟩
        · rw [if_neg c] at hno; exact absurd rfl hno
      | _ => exact absurd rfl hno
theorem pi_erng2 (hg : Gl X "range") (hm : X.mg "range" = none) (ha : PA X [a, b] (tA n W (evs g cl [ca, cb]))) (hs : notStar a = true) (hs2 : notStar b = true) : PI X tg (.Call (.Name "range" p) [a, b] [] pos) (tI n W (evI g cl (.rng [ca, cb]))) := by
  refine ⟨fun pins s σ H R I h => (pi_range2 hg hm ha (by rw [starEach_cons hs, starEach_cons hs2]; rfl) (by rw [starEach_cons hs2]; rfl)).run pins s σ H R I ?_⟩
  obtain ⟨ρ, Z, w, hno, hx, k⟩ := h
  have e0 : evI g cl (.rng [ca, cb]) ρ = (evs g cl [ca, cb] ρ).bd fun as ρ => (match (vals as ρ).bind rngV with
    | some l => .ok l ρ
    | none => .no) := rfl
  rw [e0] at hno hx k
  refine tA.go w .refl (bd_no hno) hx.bd fun as ρ1 vs H1 Z1 e1 w1 b1 _ ars => ?_
  rw [bd_ok e1] at hno hx k
  cases ev' : vals as ρ1 with
  | none => rw [ev'] at hno; exact absurd rfl hno
  | some ps =>
    have rds := ARs.vals w1 ars ev'
    rw [ev'] at hno k
    have hno : (match rngV ps with | some l => O.ok l ρ1 | none => O.no) ≠ .no := hno
    have k : ∀ l ρ' H' Z' J, (match rngV ps with | some l => O.ok l ρ1 | none => O.no) = .ok l ρ' → Wd n ρ' σ H' Z' → Stp ρ σ H Z ρ' σ H' Z' → ItOk n J l H' Z' → R J H' := k
    have e2 : vs.length = 2 := by
      have : ∀ {as : List Ar} {vs : List V}, ARs n H ρ1 σ H1 Z1 as vs → vs.length = as.length := by
        intro as
        induction as with
        | nil =>
          intro vs h
          cases vs with
          | nil => rfl
          | cons v vs => exact False.elim h
        | cons a as ih =>
          intro vs h
          cases vs with
          | nil => exact False.elim h
          | cons v vs => rw [List.length_cons, List.length_cons, ih (And.right h)]
      rw [this ars]
      have e3 : evs g cl [ca, cb] ρ = (ev g cl false ca ρ).bd fun x ρ => (ev g cl false cb ρ).bd fun y ρ => .ok [x, y] ρ := by
        show ((ev g cl false ca ρ).bd fun x ρ => ((ev g cl false cb ρ).bd fun y ρ => (O.ok [] ρ).bd fun l ρ => .ok (y :: l) ρ).bd fun l ρ => .ok (x :: l) ρ) = _
        simp only [bd_assoc, ok_bd]
      rw [e3] at e1
      cases e4 : ev g cl false ca ρ with
      | no => rw [e4] at e1; cases e1
      | ex x r => rw [e4] at e1; cases e1
      | ok x r =>
        rw [bd_ok e4] at e1
        cases e5 : ev g cl false cb r with
        | no => rw [e5] at e1; cases e1
        | ex x r => rw [e5] at e1; cases e1
        | ok y r2 => rw [e5] at e1; cases e1; rfl
    match vs, e2 with
    | [v, v'], _ =>
      obtain ⟨q, q', rfl, rd, rd'⟩ := RDs.two rds
      cases q with
      | int j =>
        cases q' with
        | int j' =>
          have hno : (match (if (-(4611686018427387904 : Int) ≤ j ∧ j < 4611686018427387904) ∧ -(4611686018427387904 : Int) ≤ j' ∧ j' < 4611686018427387904 then some (rngL j (j' - j).toNat) else none) with | some l => O.ok l ρ1 | none => O.no) ≠ .no := hno
          have k : ∀ l ρ' H' Z' J, (match (if (-(4611686018427387904 : Int) ≤ j ∧ j < 4611686018427387904) ∧ -(4611686018427387904 : Int) ≤ j' ∧ j' < 4611686018427387904 then some (rngL j (j' - j).toNat) else none) with | some l => O.ok l ρ1 | none => O.no) = .ok l ρ' → Wd n ρ' σ H' Z' → Stp ρ σ H Z ρ' σ H' Z' → ItOk n J l H' Z' → R J H' := k
          by_cases c : (-(4611686018427387904 : Int) ≤ j ∧ j < 4611686018427387904) ∧ -(4611686018427387904 : Int) ≤ j' ∧ j' < 4611686018427387904
          · rw [if_pos c] at k
            exact ⟨j, j', by rw [rd.int, rd'.int], ⟨c.1.1, c.1.2, c.2.1, c.2.2⟩, k _ ρ1 H1 Z1 _ rfl w1 b1 it_rng⟩
          · rw [if_neg c] at hno; exact absurd rfl hno
        | _ => exact absurd rfl hno
      | _ => exact absurd rfl hno
end
end Ev

set_option Elab.async false
set_option linter.all false
set_option maxRecDepth 100000
/-! The evaluator is sound: list comprehensions. -/
namespace Ev
open PySem PySem.Spec PyProof.Rows L2

def WF : WX := fun _ _ _ _ => False
theorem sget_len {ρ : Sl} {i : Nat} (h : ¬ i < ρ.length) : sget ρ i = none := by
  unfold sget
  rw [List.getElem?_eq_none (by omega)]
  rfl
theorem wipeS_len {ρ : Sl} : ∀ {own : List Nat}, (wipeS ρ own).length = ρ.length
  | [] => rfl
  | i :: is => sput_len.trans wipeS_len
theorem wipeS_get {ρ : Sl} {j : Nat} : ∀ {own : List Nat}, sget (wipeS ρ own) j = if j ∈ own then none else sget ρ j
  | [] => by simp [wipeS]
  | i :: is => by
    show sget (sput (wipeS ρ is) i none) j = _
    rw [sget_put]
    by_cases c : i = j
    · subst c
      rw [if_pos List.mem_cons_self]
      by_cases h : i < (wipeS ρ is).length
      · rw [if_pos ⟨rfl, h⟩]
      · rw [if_neg (fun z => h z.2), sget_len h]
    · rw [if_neg (fun z => c z.1), wipeS_get]
      by_cases h : j ∈ is
      · rw [if_pos h, if_pos (List.mem_cons_of_mem _ h)]
      · rw [if_neg h, if_neg (fun z => (List.mem_cons.mp z).elim (fun z => c z.symm) h)]
theorem backS_len {ρ0 ρ : Sl} : ∀ {own : List Nat}, (backS ρ0 ρ own).length = ρ.length
  | [] => rfl
  | i :: is => sput_len.trans backS_len
theorem backS_get {ρ0 ρ : Sl} (hl : ρ.length = ρ0.length) {j : Nat} : ∀ {own : List Nat}, sget (backS ρ0 ρ own) j = if j ∈ own then sget ρ0 j else sget ρ j
  | [] => by simp [backS]
  | i :: is => by
    show sget (sput (backS ρ0 ρ is) i (sget ρ0 i)) j = _
    rw [sget_put]
    by_cases c : i = j
    · subst c
      rw [if_pos List.mem_cons_self]
      by_cases h : i < (backS ρ0 ρ is).length
      · rw [if_pos ⟨rfl, h⟩]
      · rw [if_neg (fun z => h z.2), sget_len h]
        rw [backS_len, hl] at h
        rw [sget_len h]
    · rw [if_neg (fun z => c z.1), backS_get hl]
      by_cases h : j ∈ is
      · rw [if_pos h, if_pos (List.mem_cons_of_mem _ h)]
      · rw [if_neg h, if_neg (fun z => (List.mem_cons.mp z).elim (fun z => c z.symm) h)]
theorem wipe_get {σ : SG} {j : Nat} : ∀ {own : List Nat}, (wipe σ own)[j]? = if j ∈ own then (if j < σ.length then some none else none) else σ[j]?
  | [] => by simp [wipe]
  | i :: is => by
    show ((wipe σ is).set i none)[j]? = _
    rw [List.getElem?_set]
    by_cases c : i = j
    · subst c
      rw [if_pos rfl, if_pos List.mem_cons_self, wipe_length]
    · rw [if_neg c, wipe_get]
      by_cases h : j ∈ is
      · rw [if_pos h, if_pos (List.mem_cons_of_mem _ h)]
      · rw [if_neg h, if_neg (fun z => (List.mem_cons.mp z).elim (fun z => c z.symm) h)]
theorem wipe_eq {σ σ' : SG} {own : List Nat} (hl : σ'.length = σ.length) (h : ∀ j, j ∉ own → σ'[j]? = σ[j]?) : wipe σ' own = wipe σ own := by
  apply List.ext_getElem?
  intro j
  rw [wipe_get, wipe_get, hl]
  by_cases c : j ∈ own
  · rw [if_pos c, if_pos c]
  · rw [if_neg c, if_neg c, h j c]
theorem wipe_idem {σ : SG} {own : List Nat} : wipe (wipe σ own) own = wipe σ own := wipe_eq (wipe_length _ _) fun j h => by rw [wipe_get, if_neg h]
section
variable {n : En} {ρ0 ρ ρ1 ρf : Sl} {σ0 σ σf : SG} {H0 H H1 H' : Hp} {Z0 Z Z1 Zf : Addr → Prop}
theorem Wd.drops (w : Wd n ρ σ H Z) (s : Stp ρ0 σ0 H0 Z0 ρ σ H Z) : ∀ own : List Nat, Wd n (wipeS ρ own) (wipe σ own) H Z ∧ Stp ρ0 σ0 H0 Z0 (wipeS ρ own) (wipe σ own) H Z
  | [] => ⟨w, s⟩
  | i :: is => by
    obtain ⟨w1, s1⟩ := Wd.drops w s is
    exact w1.drop s1 i none (.inl rfl)
/-- an object that nobody sees is written -/
theorem Wd.side (w : Wd n ρ σ H Z) {D : Addr} {o : HO} (nz : ¬ Z D) (no : ¬ OwnA ρ σ D) : Wd n ρ σ (upd H D o) Z := by
  have hz : ∀ a, Z a → upd H D o a = H a := fun a z => upd_ne fun e => nz (e ▸ z)
  refine ⟨w.len, fun i p e => ?_, fun i p e => ?_, w.inj, fun a z => ?_⟩
  · obtain ⟨v, h, r⟩ := w.vis i p e
    exact ⟨v, h, r.mono (fun _ z => z) hz⟩
  · obtain ⟨a, h, za, r⟩ := w.own i p e
    exact ⟨a, h, za, r.mono (fun _ z => z) hz (upd_ne fun q => no (q ▸ ⟨i, p, e, h⟩))⟩
  · rw [hz a z]; exact w.gz a z
theorem Stp.side (s : Stp ρ0 σ0 H0 Z0 ρ σ H Z) {D : Addr} {o : HO} (h0 : H0 D = none) : Stp ρ0 σ0 H0 Z0 ρ σ (upd H D o) Z :=
  ⟨s.mono, fun a u e t ne => by rw [upd_ne (ne_of_none e h0)]; exact s.stay a u e t ne, fun a u e => by rw [upd_ne (ne_of_none e h0)]; exact s.same a u e, s.zin, s.oin⟩
/-- a block's own slots go back -/
theorem Wd.back (w : Wd n ρ1 σ H1 Z1) {own : List Nat} (wf : Wd n ρf σf H' Zf) (s : Stp (wipeS ρ1 own) (wipe σ own) H1 Z1 ρf σf H' Zf) (hs : wipe σf own = wipe σ own) :
    Wd n (backS ρ1 ρf own) σ H' Zf ∧ Stp ρ1 σ H1 Z1 (backS ρ1 ρf own) σ H' Zf ∧ ∀ a, OwnA (backS ρ1 ρf own) σ a → OwnA ρ1 σ a ∨ OwnA ρf σf a := by
  have hl : σf.length = σ.length := by rw [← wipe_length σf own, hs, wipe_length]
  have hr : ρf.length = ρ1.length := by rw [← wf.len, hl, w.len]
  have sg : ∀ j, sget (backS ρ1 ρf own) j = if j ∈ own then sget ρ1 j else sget ρf j := fun j => backS_get hr
  have so : ∀ j, j ∉ own → σf[j]? = σ[j]? := fun j h => by
    have := congrArg (fun l : SG => l[j]?) hs
    simp only [wipe_get, if_neg h] at this
    exact this
  have ow1 : ∀ a, OwnA (wipeS ρ1 own) (wipe σ own) a → OwnA ρ1 σ a := fun a ⟨j, p, e, h⟩ => by
    rw [wipeS_get] at e
    by_cases c : j ∈ own
    · rw [if_pos c] at e; cases e
    · rw [if_neg c] at e
      rw [wipe_get, if_neg c] at h
      exact ⟨j, p, e, h⟩
  -- what a hidden slot owns
  have hid : ∀ i p a, i ∈ own → sget ρ1 i = some (p, true) → σ[i]? = some (some (.ref a)) → ¬ OwnA (wipeS ρ1 own) (wipe σ own) a := fun i p a hi e h ⟨j, q, e2, h2⟩ => by
    rw [wipeS_get] at e2
    by_cases c : j ∈ own
    · rw [if_pos c] at e2; cases e2
    · rw [if_neg c] at e2
      rw [wipe_get, if_neg c] at h2
      exact c (w.inj i j p q a e e2 h h2 ▸ hi)
  have zs : ∀ a, Z1 a → H' a = H1 a := fun a z => by
    obtain ⟨o, e, t⟩ := w.gz a z
    rw [e]
    exact s.stay a o e t fun q => w.notOwn z (ow1 a q)
  have ow2 : ∀ a, OwnA (backS ρ1 ρf own) σ a → OwnA ρ1 σ a ∨ OwnA ρf σf a := fun a ⟨j, p, e, h⟩ => by
    rw [sg] at e
    by_cases c : j ∈ own
    · rw [if_pos c] at e; exact .inl ⟨j, p, e, h⟩
    · rw [if_neg c] at e
      exact .inr ⟨j, p, e, by rw [so j c]; exact h⟩
  refine ⟨⟨w.len.trans (backS_len.trans hr).symm, fun i p e => ?_, fun i p e => ?_, fun i j p q a e1 e2 h1 h2 => ?_, wf.gz⟩, ⟨s.mono, fun a o e t ne => s.stay a o e t fun q => ne (ow1 a q), s.same, fun a z => (s.zin a z).elim .inl fun z => z.elim (fun z => .inr (.inl z)) fun z => .inr (.inr (ow1 a z)), fun a z => (ow2 a z).elim .inl fun z => (s.oin a z).elim (fun z => .inl (ow1 a z)) .inr⟩, ow2⟩
  · rw [sg] at e
    by_cases c : i ∈ own
    · rw [if_pos c] at e
      obtain ⟨v, h, r⟩ := w.vis i p e
      exact ⟨v, h, r.mono s.mono zs⟩
    · rw [if_neg c] at e
      obtain ⟨v, h, r⟩ := wf.vis i p e
      exact ⟨v, by rw [← so i c]; exact h, r⟩
  · rw [sg] at e
    by_cases c : i ∈ own
    · rw [if_pos c] at e
      obtain ⟨a, h, za, r⟩ := w.own i p e
      have nh := hid i p a c e h
      obtain ⟨o, ho, t⟩ := r.there
      refine ⟨a, h, fun z => ?_, r.mono s.mono zs (by rw [ho]; exact s.stay a o ho t nh)⟩
      rcases s.zin a z with z | z | z
      · exact za z
      · rw [ho] at z; cases z
      · exact nh z
    · rw [if_neg c] at e
      obtain ⟨a, h, za, r⟩ := wf.own i p e
      exact ⟨a, by rw [← so i c]; exact h, za, r⟩
  · have mix : ∀ i j p q, i ∈ own → j ∉ own → sget ρ1 i = some (p, true) → sget ρf j = some (q, true) → σ[i]? = some (some (.ref a)) → σ[j]? = some (some (.ref a)) → False := fun i j p q ci cj e1 e2 h1 h2 => by
      obtain ⟨b, h3, _, r⟩ := w.own i p e1
      rw [h1] at h3; cases h3
      obtain ⟨o, ho, _⟩ := r.there
      rcases s.oin a ⟨j, q, e2, by rw [so j cj]; exact h2⟩ with z | z
      · exact hid i p a ci e1 h1 z
      · rw [ho] at z; cases z
    rw [sg] at e1 e2
    by_cases ci : i ∈ own
    · rw [if_pos ci] at e1
      by_cases cj : j ∈ own
      · rw [if_pos cj] at e2
        exact w.inj i j p q a e1 e2 h1 h2
      · rw [if_neg cj] at e2
        exact (mix i j p q ci cj e1 e2 h1 h2).elim
    · rw [if_neg ci] at e1
      by_cases cj : j ∈ own
      · rw [if_pos cj] at e2
        exact (mix j i q p cj ci e2 e1 h2 h1).elim
      · rw [if_neg cj] at e2
        exact wf.inj i j p q a e1 e2 (by rw [so i ci]; exact h1) (by rw [so j cj]; exact h2)
end
/-- a clause's tests -/
def tTs (n : En) (W : WX) (f : Sl → O Bool) : TT := fun σ H Q => ∃ ρ Z, Wd n ρ σ H Z ∧ f ρ ≠ .no ∧ HX n W ρ σ H Z (f ρ) ∧
  ∀ b ρ' H' Z', f ρ = .ok b ρ' → Wd n ρ' σ H' Z' → Stp ρ σ H Z ρ' σ H' Z' → Q b H'
theorem PTs.imp {X : Cx} {e : List Expr} {t t' : TT} (h : PTs X e t) (k : ∀ σ H Q, t' σ H Q → t σ H Q) : PTs X e t' := ⟨fun pins s σ H Q I q => h.run pins s σ H Q I (k σ H Q q)⟩
section
variable {X : Cx} {n : En} {W : WX} {g : G} {cl : FC} {e : Expr} {c : E}
theorem pts_enil : PTs X [] (tTs n W (tests g cl [])) := by
  refine PTs.imp pts_nil fun σ H Q ⟨ρ, Z, w, hno, hx, k⟩ => ?_
  exact k true ρ H Z rfl w .refl
theorem pts_eone (h : PT X e (tT n W (ev g cl true c))) : PTs X [e] (tTs n W (tests g cl [c])) := by
  refine PTs.imp (pts_one h) fun σ H Q ⟨ρ, Z, w, hno, hx, k⟩ => ?_
  have e0 : tests g cl [c] ρ = (ev g cl true c ρ).bd fun x ρ => (match x with
      | .v (.bl true) _ => .ok true ρ
      | .v (.bl false) _ => .ok false ρ
      | _ => .no) := rfl
  rw [e0] at hno hx k
  refine tT.go w .refl (bd_no hno) hx.bd fun x ρ1 H1 Z1 e1 w1 b1 _ => ?_
  rw [bd_ok e1] at hno hx k
  split at hno
  · exact ⟨true, _, rfl, k true ρ1 H1 Z1 rfl w1 b1⟩
  · exact ⟨false, _, rfl, k false ρ1 H1 Z1 rfl w1 b1⟩
  · exact absurd rfl hno
end
theorem noEx_ok {α : Type} {r : O α} (h : noEx r ≠ .no) : ∃ a ρ, r = .ok a ρ := by
  cases r with
  | ok a ρ => exact ⟨a, ρ, rfl⟩
  | ex x ρ => exact absurd rfl h
  | no => exact absurd rfl h
theorem ok_bdE {α β : Type} {r : O α} {f : α → Sl → O β} {b : β} {ρ : Sl} (h : r.bd f = .ok b ρ) : ∃ a ρ1, r = .ok a ρ1 ∧ f a ρ1 = .ok b ρ := by
  cases r with
  | ok a ρ1 => exact ⟨a, ρ1, rfl, h⟩
  | ex x ρ => cases h
  | no => cases h
theorem ne_no {α : Type} {r : O α} {a : α} {ρ : Sl} (h : r = .ok a ρ) : r ≠ .no := by rw [h]; exact fun z => by cases z
theorem hx_ok {n : En} {W : WX} {ρ0 : Sl} {σ : SG} {H0 : Hp} {Z0 : Addr → Prop} {α : Type} {r : O α} {a : α} {ρ : Sl} (h : r = .ok a ρ) : HX n W ρ0 σ H0 Z0 r := fun x ρ' H' Z' cls d e => by rw [h] at e; cases e
def lcB (g : G) (cl : FC) (own : List Nat) (t : T) (ifs : List E) (el : E) (x : PV) (ρ : Sl) : O (Option PV) :=
  match bindT t x (wipeS ρ own) with
  | some ρ => (tests g cl ifs ρ).bd fun b ρ => if b then (ev g cl false el ρ).bd fun y ρ => (use y ρ).bd fun y ρ => .ok (some y.1) ρ else .ok none ρ
  | none => .no
/-- over items that stand fast -/
def lcO (g : G) (cl : FC) (own : List Nat) (t : T) (it : Ev.It) (ifs : List E) (el : E) (ρ : Sl) : O Ar := (evI g cl it ρ).bd fun xs ρ => (noEx (lcL (lcB g cl own t ifs el) xs (wipeS ρ own))).bd fun l ρ' => if l.length ≤ 16777216 then .ok (.v (.lst l) true) (backS ρ ρ' own) else .no
/-- over a list that a slot holds -/
def lcW (g : G) (cl : FC) (own : List Nat) (t : T) (i : Nat) (ifs : List E) (el : E) (ρ : Sl) : O Ar := (noEx (lcV (lcB g cl own t ifs el) i 16777217 0 (wipeS ρ own))).bd fun l ρ' => if l.length ≤ 16777216 then .ok (.v (.lst l) true) (backS ρ ρ' own) else .no
theorem ev_lc {g : G} {cl : FC} {own : List Nat} {t : T} {it : Ev.It} {ifs : List E} {el : E} {ρ : Sl} : ev g cl false (.lc own t it ifs el) ρ = match liveO own it ρ with | some i => lcW g cl own t i ifs el ρ | none => lcO g cl own t it ifs el ρ := rfl
theorem tE_lcO {n : En} {W : WX} {g : G} {cl : FC} {own : List Nat} {t : T} {it : Ev.It} {ifs : List E} {el : E} (ht : ∀ j ∈ tslots t, j ∈ own) {σ : SG} {H : Hp} {Q : VK} (h : tE n W (lcO g cl own t it ifs el) σ H Q) :
    tLc (tI n W (evI g cl it)) (tG n t) (tTs n WF (tests g cl ifs)) (tE n WF (ev g cl false el)) own σ H Q := by
  obtain ⟨ρ, Z, w, hno, hx, k⟩ := h
  have e0 : lcO g cl own t it ifs el ρ = (evI g cl it ρ).bd fun xs ρ => (noEx (lcL (lcB g cl own t ifs el) xs (wipeS ρ own))).bd fun l ρ' => if l.length ≤ 16777216 then .ok (.v (.lst l) true) (backS ρ ρ' own) else .no := rfl
  rw [e0] at hno hx k
  refine ⟨ρ, Z, w, bd_no hno, hx.bd, fun l ρ1 H1 Z1 J e1 w1 b1 itok D hD => ?_⟩
  rw [bd_ok e1] at hno k
  obtain ⟨lres, ρf, e2⟩ := noEx_ok (bd_no hno)
  have e3 : noEx (lcL (lcB g cl own t ifs el) l (wipeS ρ1 own)) = .ok lres ρf := by rw [e2]; rfl
  rw [bd_ok e3] at hno k
  have hsz : lres.length ≤ 16777216 := by
    by_cases c : lres.length ≤ 16777216
    · exact c
    · rw [if_neg c] at hno; exact absurd rfl hno
  rw [if_pos hsz] at k
  let P : Nat → Hp → Prop := fun i H' => ∃ ρi σi Zi acc accP r, Wd n ρi σi H' Zi ∧ wipe σi own = wipe σ own ∧ Stp (wipeS ρ1 own) (wipe σ own) H1 Z1 ρi σi H' Zi ∧ H' D = some (.lst acc) ∧ RVs n H' Zi accP acc ∧ ¬ Zi D ∧ ¬ OwnA ρi σi D ∧
    lcL (lcB g cl own t ifs el) (l.drop i) ρi = .ok r ρf ∧ lres = accP ++ r
  refine ⟨fun i m H' => m = l.length - i ∧ i ≤ l.length ∧ P i H', ⟨l.length, by simp, Nat.zero_le _, ?_⟩, ?_⟩
  · obtain ⟨w2, s2⟩ := w1.drops .refl own
    have s3 : Stp (wipeS ρ1 own) (wipe σ own) H1 Z1 (wipeS ρ1 own) (wipe σ own) H1 Z1 := .refl
    obtain ⟨w4, s4, nz, no, _⟩ := w2.lay s3 (.lst []) hD
    exact ⟨wipeS ρ1 own, wipe σ own, Z1, [], [], lres, w4, wipe_idem, s4, upd_same, .nil, nz, no, by rw [List.drop_zero]; exact e2, rfl⟩
  · rintro i m H2 ⟨rfl, hi, ρi, σi, Zi, acc, accP, r, wi, ws, si, hDi, ra, nz, no, el2, er⟩
    obtain ⟨wz, sz⟩ := wi.drops si own
    rw [ws] at wz sz
    have mz := sz.mono
    have oz : ¬ OwnA (wipeS ρi own) (wipe σ own) D := fun ⟨j, p, e, h⟩ => by
      rw [wipeS_get] at e
      by_cases c : j ∈ own
      · rw [if_pos c] at e; cases e
      · rw [if_neg c] at e
        refine no ⟨j, p, e, ?_⟩
        have := congrArg (fun l : SG => l[j]?) ws
        simp only [wipe_get, if_neg c] at this
        rw [this]
        rw [wipe_get, if_neg c] at h
        exact h
    have hz1 : ∀ a, Z1 a → H2 a = H1 a := fun a z => by
      obtain ⟨o, e, tt⟩ := w1.gz a z
      rw [e]
      exact sz.stay a o e tt fun q => w1.notOwn z (by
        obtain ⟨j, p, e, h⟩ := q
        rw [wipeS_get] at e
        by_cases c : j ∈ own
        · rw [if_pos c] at e; cases e
        · rw [if_neg c] at e
          rw [wipe_get, if_neg c] at h
          exact ⟨j, p, e, h⟩)
    obtain ⟨stop, item⟩ := itok (wipeS ρi own) (wipe σ own) H2 Zi wz mz hz1
    by_cases hlt : i < l.length
    · refine .inr ?_
      obtain ⟨p, hp⟩ : ∃ p, l[i]? = some p := ⟨l[i], List.getElem?_eq_getElem hlt⟩
      obtain ⟨go, yld⟩ := item i p hp
      have ed : l.drop i = p :: l.drop (i + 1) := by
        rw [List.drop_eq_getElem_cons hlt]
        rw [List.getElem?_eq_getElem hlt] at hp
        cases hp; rfl
      rw [ed] at el2
      have el2 : (lcB g cl own t ifs el p ρi).bd (fun o ρ1 => (lcL (lcB g cl own t ifs el) (l.drop (i + 1)) ρ1).bd fun l ρ2 => .ok (match o with | some y => y :: l | none => l) ρ2) = .ok r ρf := el2
      obtain ⟨o, ρa, eb, el3⟩ := ok_bdE el2
      obtain ⟨r2, ρb, el4, el5⟩ := ok_bdE el3
      cases el5
      refine ⟨go, fun H' => P (i + 1) H', fun H' hP => ⟨l.length - (i + 1), by omega, rfl, hlt, hP⟩, fun x H3 hy => ?_⟩
      obtain ⟨Z3, w3, s3, rv3⟩ := yld x H3 hy
      have D3 : H3 D = some (.lst acc) := s3.stay D _ hDi NT.lst oz
      have ra3 := ra.mono s3.mono (wz.zstay s3)
      have nz3 : ¬ Z3 D := fun z => by
        rcases s3.zin D z with z | z | z
        · exact nz z
        · rw [hDi] at z; cases z
        · exact oz z
      unfold lcB at eb
      cases ebd : bindT t p (wipeS ρi own) with
      | none => rw [ebd] at eb; cases eb
      | some ρc =>
        rw [ebd] at eb
        refine ⟨wipeS ρi own, Z3, p, ρc, w3, rv3, ebd, fun σ2 w4 s4 sm => ⟨?_, ?_⟩⟩
        · rw [← wipe_idem (σ := σ)]
          exact wipe_eq sm.1 fun j hj => sm.2 j fun z => hj (ht j z)
        · obtain ⟨b, ρd, et, eb2⟩ := ok_bdE eb
          have b4 := sz.trans (s3.trans s4)
          have o4 : ¬ OwnA ρc σ2 D := fun z => (s4.oin D z).elim oz fun z => by rw [D3] at z; cases z
          refine ⟨ρc, Z3, w4, ne_no et, hx_ok et, fun b' ρd' H5 Z5 et' w5 s5 => ?_⟩
          rw [et] at et'; cases et'
          have D5 : H5 D = some (.lst acc) := s5.stay D _ D3 NT.lst o4
          have ra5 := ra3.mono s5.mono (w4.zstay s5)
          have nz5 : ¬ Z5 D := fun z => by
            rcases s5.zin D z with z | z | z
            · exact nz3 z
            · rw [D3] at z; cases z
            · exact o4 z
          have o5 : ¬ OwnA ρd σ2 D := fun z => (s5.oin D z).elim o4 fun z => by rw [D3] at z; cases z
          have ws2 : wipe σ2 own = wipe σ own := by
            rw [← wipe_idem (σ := σ)]
            exact wipe_eq sm.1 fun j hj => sm.2 j fun z => hj (ht j z)
          cases b with
          | false =>
            rw [if_neg (by decide)] at eb2 ⊢
            cases eb2
            exact ⟨_, σ2, Z5, acc, accP, r2, w5, ws2, b4.trans s5, D5, ra5, nz5, o5, el4, er⟩
          | true =>
            rw [if_pos rfl] at eb2 ⊢
            obtain ⟨y, ρe, ee, eb3⟩ := ok_bdE eb2
            obtain ⟨yp, ρg, eu, eb4⟩ := ok_bdE eb3
            cases eb4
            refine ⟨ρd, Z5, w5, ne_no ee, hx_ok ee, fun y' ρe' v H6 Z6 ee' w6 s6 ar => ?_⟩
            rw [ee] at ee'; cases ee'
            have D6 : H6 D = some (.lst acc) := s6.stay D _ D5 NT.lst o5
            have ra6 := ra5.mono s6.mono (w5.zstay s6)
            have nz6 : ¬ Z6 D := fun z => by
              rcases s6.zin D z with z | z | z
              · exact nz5 z
              · rw [D5] at z; cases z
              · exact o5 z
            have o6 : ¬ OwnA ρe σ2 D := fun z => (s6.oin D z).elim o5 fun z => by rw [D5] at z; cases z
            -- the item is settled
            obtain ⟨Z7, w7, s7, rv7⟩ := use_settled w6 s6 ar eu
            have nz7 : ¬ Z7 D := fun z => by
              rcases s7.zin D z with z | z | z
              · exact nz5 z
              · rw [D5] at z; cases z
              · exact o5 z
            have o7 : ¬ OwnA ρa σ2 D := fun z => (s7.oin D z).elim o5 fun z => by rw [D5] at z; cases z
            have ra7 := ra5.mono s7.mono (w5.zstay s7)
            have b7 := (b4.trans s5).trans s7
            have w8 := w7.side (o := .lst (acc ++ [v])) nz7 o7
            have b8 := b7.side (o := .lst (acc ++ [v])) hD
            have hz8 : ∀ a, Z7 a → upd H6 D (.lst (acc ++ [v])) a = H6 a := fun a z => upd_ne fun e => nz7 (e ▸ z)
            refine ⟨acc, D6, ?_, ρa, σ2, Z7, acc ++ [v], accP ++ [yp.1], r2, w8, ws2, b8, upd_same, ((ra7.append (.cons rv7 .nil)).mono (fun _ z => z) hz8), nz7, o7, el4, ?_⟩
            · have h1 := ra6.len
              have h2 : lres.length = accP.length + (1 + r2.length) := by rw [er]; simp; omega
              rw [SZ, h1]
              omega
            · rw [er]; simp
    · refine .inl ⟨stop i (by omega), ?_⟩
      have ed : l.drop i = [] := List.drop_eq_nil_of_le (by omega)
      rw [ed] at el2
      have el2 : O.ok [] ρi = O.ok r ρf := el2
      cases el2
      obtain ⟨w5, s5, o5⟩ := w1.back wi si ws
      have nown : ¬ OwnA (backS ρ1 ρf own) σ D := fun z => (o5 D z).elim (fun ⟨j, p, e, h⟩ => by
        obtain ⟨a, h2, _, r⟩ := w1.own j p e
        rw [h] at h2; cases h2
        obtain ⟨o, ho, _⟩ := r.there
        rw [hD] at ho; cases ho) no
      have : lres = accP := by rw [er]; simp
      subst this
      exact k _ _ (.ref D) H2 Zi rfl w5 (b1.trans s5) ⟨D, rfl, b1.back hD, nz, nown, .lst hDi ra⟩
/-- a list's reading as what is gone through -/
def tLv (K : PySem.W.Frag) (t : TE) : TI := fun σ H R => t σ H fun v H1 => ∃ ad, v = .ref ad ∧ (∃ xs, SqL K H1 ad xs) ∧ R (Itl K ad) H1
theorem tE_lcW {n : En} {K : PySem.W.Frag} {W : WX} {g : G} {cl : FC} {own : List Nat} {t : T} {iv : Nat} {ifs : List E} {el : E} (ht : ∀ j ∈ tslots t, j ∈ own) {σ : SG} {H : Hp} {Q : VK} {ρ : Sl} {Z : Addr → Prop} {l0 : List PV} (w : Wd n ρ σ H Z) (hiv : iv ∉ own) (hl0 : sget ρ iv = some (.lst l0, true))
    (hno : lcW g cl own t iv ifs el ρ ≠ .no) (k : ∀ a ρ' v H' Z', lcW g cl own t iv ifs el ρ = .ok a ρ' → Wd n ρ' σ H' Z' → Stp ρ σ H Z ρ' σ H' Z' → AR n H ρ' σ H' Z' a v → Q v H') :
    tLc (tLv K (tE n W (ev g cl false (.var iv)))) (tG n t) (tTs n WF (tests g cl ifs)) (tE n WF (ev g cl false el)) own σ H Q := by
  obtain ⟨ad, sad, _, ov0⟩ := w.own iv _ hl0
  obtain ⟨xs0, ea0⟩ : ∃ xs0, H ad = some (.lst xs0) := by cases ov0 with | lst e _ => exact ⟨_, e⟩
  have ea : ev g cl false (.var iv) ρ = .ok (.sl iv) ρ := by
    show (match sget ρ iv with | some _ => O.ok (Ar.sl iv) ρ | none => .no) = _
    rw [hl0]
  have e0 : lcW g cl own t iv ifs el ρ = (noEx (lcV (lcB g cl own t ifs el) iv 16777217 0 (wipeS ρ own))).bd fun l ρ' => if l.length ≤ 16777216 then .ok (.v (.lst l) true) (backS ρ ρ' own) else .no := rfl
  rw [e0] at hno k
  refine ⟨ρ, Z, w, (by rw [ea]; exact fun z => by cases z), (fun x ρ' H' Z' cls d e => by rw [ea] at e; cases e), fun a ρ1 v H1 Z1 e1 w1 b1 ar => ?_⟩
  rw [ea] at e1
  cases e1
  have ar : σ[iv]? = some (some v) := ar
  rw [sad] at ar
  cases ar
  obtain ⟨ad', sad', nzad, ov1⟩ := w1.own iv _ hl0
  rw [sad] at sad'
  cases sad'
  obtain ⟨xs1, ea1⟩ : ∃ xs1, H1 ad = some (.lst xs1) := by cases ov1 with | lst e _ => exact ⟨_, e⟩
  refine ⟨ad, rfl, ⟨xs1, .inl (.of ea1)⟩, fun D hD => ?_⟩
  obtain ⟨lres, ρf, e2⟩ := noEx_ok (bd_no hno)
  have e3 : noEx (lcV (lcB g cl own t ifs el) iv 16777217 0 (wipeS ρ own)) = .ok lres ρf := by rw [e2]; rfl
  rw [bd_ok e3] at hno k
  have hsz : lres.length ≤ 16777216 := by
    by_cases c : lres.length ≤ 16777216
    · exact c
    · rw [if_neg c] at hno; exact absurd rfl hno
  rw [if_pos hsz] at k
  let P : Nat → Nat → Hp → Prop := fun m i H' => ∃ ρi σi Zi acc accP r, Wd n ρi σi H' Zi ∧ wipe σi own = wipe σ own ∧ Stp (wipeS ρ own) (wipe σ own) H1 Z1 ρi σi H' Zi ∧ H' D = some (.lst acc) ∧ RVs n H' Zi accP acc ∧ ¬ Zi D ∧ ¬ OwnA ρi σi D ∧
    lcV (lcB g cl own t ifs el) iv m i ρi = .ok r ρf ∧ lres = accP ++ r
  refine ⟨fun i m H' => P m i H', ⟨16777217, ?_⟩, ?_⟩
  · obtain ⟨w2, s2⟩ := w1.drops .refl own
    have s3 : Stp (wipeS ρ own) (wipe σ own) H1 Z1 (wipeS ρ own) (wipe σ own) H1 Z1 := .refl
    obtain ⟨w4, s4, nz, no, _⟩ := w2.lay s3 (.lst []) hD
    exact ⟨wipeS ρ own, wipe σ own, Z1, [], [], lres, w4, wipe_idem, s4, upd_same, .nil, nz, no, e2, rfl⟩
  · rintro i m H2 ⟨ρi, σi, Zi, acc, accP, r, wi, ws, si, hDi, ra, nz, no, el2, er⟩
    obtain ⟨wz, sz⟩ := wi.drops si own
    rw [ws] at wz sz
    have mz := sz.mono
    have oz : ¬ OwnA (wipeS ρi own) (wipe σ own) D := fun ⟨j, p, e, h⟩ => by
      rw [wipeS_get] at e
      by_cases c : j ∈ own
      · rw [if_pos c] at e; cases e
      · rw [if_neg c] at e
        refine no ⟨j, p, e, ?_⟩
        have := congrArg (fun l : SG => l[j]?) ws
        simp only [wipe_get, if_neg c] at this
        rw [this]
        rw [wipe_get, if_neg c] at h
        exact h
    have swi : (wipe σ own)[iv]? = some (some (.ref ad)) := by rw [wipe_get, if_neg hiv]; exact sad
    cases m with
    | zero => cases el2
    | succ m =>
    have el2 : (match sget ρi iv with
      | some (.lst l, true) => (match l[i]? with
        | none => O.ok [] ρi
        | some x => (lcB g cl own t ifs el x ρi).bd fun o ρ1 => (lcV (lcB g cl own t ifs el) iv m (i + 1) ρ1).bd fun l ρ2 => .ok (match o with | some y => y :: l | none => l) ρ2)
      | _ => .no) = .ok r ρf := el2
    split at el2
    case h_2 => cases el2
    rename_i l0' hsl
    have hslw : sget (wipeS ρi own) iv = some (.lst l0', true) := by rw [wipeS_get, if_neg hiv]; exact hsl
    obtain ⟨ad2, sad2, nz2, ov2⟩ := wz.own iv _ hslw
    rw [swi] at sad2
    cases sad2
    obtain ⟨xs2, ea2, rs2⟩ : ∃ xs2, H2 ad = some (.lst xs2) ∧ RVs n H2 Zi l0' xs2 := by cases ov2 with | lst e r => exact ⟨_, e, r⟩
    by_cases hlt : i < l0'.length
    · refine .inr ?_
      obtain ⟨p, hp⟩ : ∃ p, l0'[i]? = some p := ⟨l0'[i], List.getElem?_eq_getElem hlt⟩
      rw [hp] at el2
      obtain ⟨o, ρa, eb, el3⟩ := ok_bdE el2
      obtain ⟨r2, ρb, el4, el5⟩ := ok_bdE el3
      cases el5
      obtain ⟨xv, hxv, rvx⟩ := rs2.get hp
      refine ⟨⟨xs2, xv, .inl (.of ea2), hxv⟩, fun H' => P m (i + 1) H', fun H' hP => ⟨m, Nat.lt_succ_self m, hP⟩, fun x H3 hy => ?_⟩
      obtain ⟨rfl, hyx⟩ := hy
      have ex := hyx xs2 (.inl (.of ea2))
      rw [hxv] at ex
      cases ex
      obtain ⟨Z3, w3, s3, rv3⟩ : ∃ Z3, Wd n (wipeS ρi own) (wipe σ own) H3 Z3 ∧ Stp (wipeS ρi own) (wipe σ own) H3 Zi (wipeS ρi own) (wipe σ own) H3 Z3 ∧ RV n H3 Z3 p xv := ⟨Zi, wz, .refl, rvx⟩
      have D3 : H3 D = some (.lst acc) := s3.stay D _ hDi NT.lst oz
      have ra3 := ra.mono s3.mono (wz.zstay s3)
      have nz3 : ¬ Z3 D := fun z => by
        rcases s3.zin D z with z | z | z
        · exact nz z
        · rw [hDi] at z; cases z
        · exact oz z
      unfold lcB at eb
      cases ebd : bindT t p (wipeS ρi own) with
      | none => rw [ebd] at eb; cases eb
      | some ρc =>
        rw [ebd] at eb
        refine ⟨wipeS ρi own, Z3, p, ρc, w3, rv3, ebd, fun σ2 w4 s4 sm => ⟨?_, ?_⟩⟩
        · rw [← wipe_idem (σ := σ)]
          exact wipe_eq sm.1 fun j hj => sm.2 j fun z => hj (ht j z)
        · obtain ⟨b, ρd, et, eb2⟩ := ok_bdE eb
          have b4 := sz.trans (s3.trans s4)
          have o4 : ¬ OwnA ρc σ2 D := fun z => (s4.oin D z).elim oz fun z => by rw [D3] at z; cases z
          refine ⟨ρc, Z3, w4, ne_no et, hx_ok et, fun b' ρd' H5 Z5 et' w5 s5 => ?_⟩
          rw [et] at et'; cases et'
          have D5 : H5 D = some (.lst acc) := s5.stay D _ D3 NT.lst o4
          have ra5 := ra3.mono s5.mono (w4.zstay s5)
          have nz5 : ¬ Z5 D := fun z => by
            rcases s5.zin D z with z | z | z
            · exact nz3 z
            · rw [D3] at z; cases z
            · exact o4 z
          have o5 : ¬ OwnA ρd σ2 D := fun z => (s5.oin D z).elim o4 fun z => by rw [D3] at z; cases z
          have ws2 : wipe σ2 own = wipe σ own := by
            rw [← wipe_idem (σ := σ)]
            exact wipe_eq sm.1 fun j hj => sm.2 j fun z => hj (ht j z)
          cases b with
          | false =>
            rw [if_neg (by decide)] at eb2 ⊢
            cases eb2
            exact ⟨_, σ2, Z5, acc, accP, r2, w5, ws2, b4.trans s5, D5, ra5, nz5, o5, el4, er⟩
          | true =>
            rw [if_pos rfl] at eb2 ⊢
            obtain ⟨y, ρe, ee, eb3⟩ := ok_bdE eb2
            obtain ⟨yp, ρg, eu, eb4⟩ := ok_bdE eb3
            cases eb4
            refine ⟨ρd, Z5, w5, ne_no ee, hx_ok ee, fun y' ρe' v H6 Z6 ee' w6 s6 ar => ?_⟩
            rw [ee] at ee'; cases ee'
            have D6 : H6 D = some (.lst acc) := s6.stay D _ D5 NT.lst o5
            have ra6 := ra5.mono s6.mono (w5.zstay s6)
            have nz6 : ¬ Z6 D := fun z => by
              rcases s6.zin D z with z | z | z
              · exact nz5 z
              · rw [D5] at z; cases z
              · exact o5 z
            have o6 : ¬ OwnA ρe σ2 D := fun z => (s6.oin D z).elim o5 fun z => by rw [D5] at z; cases z
            -- the item is settled
            obtain ⟨Z7, w7, s7, rv7⟩ := use_settled w6 s6 ar eu
            have nz7 : ¬ Z7 D := fun z => by
              rcases s7.zin D z with z | z | z
              · exact nz5 z
              · rw [D5] at z; cases z
              · exact o5 z
            have o7 : ¬ OwnA ρa σ2 D := fun z => (s7.oin D z).elim o5 fun z => by rw [D5] at z; cases z
            have ra7 := ra5.mono s7.mono (w5.zstay s7)
            have b7 := (b4.trans s5).trans s7
            have w8 := w7.side (o := .lst (acc ++ [v])) nz7 o7
            have b8 := b7.side (o := .lst (acc ++ [v])) hD
            have hz8 : ∀ a, Z7 a → upd H6 D (.lst (acc ++ [v])) a = H6 a := fun a z => upd_ne fun e => nz7 (e ▸ z)
            refine ⟨acc, D6, ?_, ρa, σ2, Z7, acc ++ [v], accP ++ [yp.1], r2, w8, ws2, b8, upd_same, ((ra7.append (.cons rv7 .nil)).mono (fun _ z => z) hz8), nz7, o7, el4, ?_⟩
            · have h1 := ra6.len
              have h2 : lres.length = accP.length + (1 + r2.length) := by rw [er]; simp; omega
              rw [SZ, h1]
              omega
            · rw [er]; simp
    · refine .inl ⟨⟨xs2, .inl (.of ea2), by rw [rs2.len]; omega⟩, ?_⟩
      rw [List.getElem?_eq_none (by omega)] at el2
      have el2 : O.ok [] ρi = O.ok r ρf := el2
      cases el2
      obtain ⟨w5, s5, o5⟩ := w1.back wi si ws
      have nown : ¬ OwnA (backS ρ ρf own) σ D := fun z => (o5 D z).elim (fun ⟨j, p, e, h⟩ => by
        obtain ⟨a, h2, _, r⟩ := w1.own j p e
        rw [h] at h2; cases h2
        obtain ⟨o, ho, _⟩ := r.there
        rw [hD] at ho; cases ho) no
      have : lres = accP := by rw [er]; simp
      subst this
      exact k _ _ (.ref D) H2 Zi rfl w5 (b1.trans s5) ⟨D, rfl, b1.back hD, nz, nown, .lst hDi ra⟩
theorem tE_lc {n : En} (K : PySem.W.Frag) {W : WX} {g : G} {cl : FC} {own : List Nat} {t : T} {it : Ev.It} {ifs : List E} {el : E} (ht : ∀ j ∈ tslots t, j ∈ own) {σ : SG} {H : Hp} {Q : VK} (h : tE n W (ev g cl false (.lc own t it ifs el)) σ H Q) :
    tLc (tI n W (evI g cl it)) (tG n t) (tTs n WF (tests g cl ifs)) (tE n WF (ev g cl false el)) own σ H Q ∨
    ∃ iv, it = .of (.var iv) ∧ tLc (tLv K (tE n W (ev g cl false (.var iv)))) (tG n t) (tTs n WF (tests g cl ifs)) (tE n WF (ev g cl false el)) own σ H Q := by
  obtain ⟨ρ, Z, w, hno, hx, k⟩ := h
  rw [ev_lc] at hno hx k
  cases hl : liveO own it ρ with
  | none =>
    rw [hl] at hno hx k
    exact .inl (tE_lcO ht ⟨ρ, Z, w, hno, hx, k⟩)
  | some i =>
    rw [hl] at hno hx k
    unfold liveO at hl
    split at hl
    · rename_i j
      split at hl
      · rename_i l0 hs
        split at hl
        · cases hl
        · rename_i hc
          cases hl
          exact .inr ⟨i, rfl, tE_lcW ht w (by simpa using hc) hs hno k⟩
      · cases hl
    · cases hl
end Ev

set_option Elab.async false
set_option linter.all false
set_option maxRecDepth 100000
/-! The evaluator is sound: list comprehensions with two clauses. -/
namespace Ev
open PySem PySem.Spec PyProof.Rows L2

theorem lc_loop {n : En} {g : G} {cl : FC} {own : List Nat} {t : T} {ifs : List E} {el : E} (ht : ∀ j ∈ tslots t, j ∈ own) {ρb ρs ρe : Sl} {σb σs : SG} {Hb Hs : Hp} {Zb Zs : Addr → Prop} {D : Addr} {l r accP : List PV} {acc0 : List V} {J : L2.It}
    (itok : ItOk n J l Hs Zs) (wS : Wd n ρs σs Hs Zs) (sS : Stp ρb σb Hb Zb ρs σs Hs Zs) (hb : Hb D = none) (hD : Hs D = some (.lst acc0)) (ra0 : RVs n Hs Zs accP acc0) (nz0 : ¬ Zs D) (no0 : ¬ OwnA ρs σs D)
    (hl : lcL (lcB g cl own t ifs el) l ρs = .ok r ρe) (hsz : accP.length + r.length ≤ 16777216) {Done : Hp → Prop}
    (hd : ∀ σe H Z acc, Wd n ρe σe H Z → wipe σe own = wipe σs own → Stp ρb σb Hb Zb ρe σe H Z → H D = some (.lst acc) → RVs n H Z (accP ++ r) acc → ¬ Z D → ¬ OwnA ρe σe D → Done H) :
    ∃ W : Nat → Nat → Hp → Prop, (∃ m, W 0 m Hs) ∧ ∀ i m H, W i m H → (J.stop i H ∧ Done H) ∨ (J.go i H ∧ ∃ Nx : Hp → Prop, (∀ H', Nx H' → ∃ m', m' < m ∧ W (i + 1) m' H') ∧ ∀ x H', J.yld i H x H' →
      tG n t x (wipe σs own) H' fun σ2 H2 => wipe σ2 own = wipe σs own ∧ tTs n WF (tests g cl ifs) σ2 H2 fun b H3 => if b = true then tE n WF (ev g cl false el) σ2 H3 fun y H4 => ∃ acc, H4 D = some (.lst acc) ∧ acc.length < sizeLine ∧ Nx (upd H4 D (.lst (acc ++ [y]))) else Nx H3) := by
  let P : Nat → Hp → Prop := fun i H' => ∃ ρi σi Zi acc pre r', Wd n ρi σi H' Zi ∧ wipe σi own = wipe σs own ∧ Stp ρb σb Hb Zb ρi σi H' Zi ∧ (∀ a, Zs a → Zi a) ∧ (∀ a, Zs a → H' a = Hs a) ∧ H' D = some (.lst acc) ∧ RVs n H' Zi pre acc ∧ ¬ Zi D ∧ ¬ OwnA ρi σi D ∧
    lcL (lcB g cl own t ifs el) (l.drop i) ρi = .ok r' ρe ∧ accP ++ r = pre ++ r'
  refine ⟨fun i m H' => m = l.length - i ∧ i ≤ l.length ∧ P i H', ⟨l.length, by simp, Nat.zero_le _, ρs, σs, Zs, acc0, accP, r, wS, rfl, sS, fun _ z => z, fun _ _ => rfl, hD, ra0, nz0, no0, by rw [List.drop_zero]; exact hl, rfl⟩, ?_⟩
  rintro i m H2 ⟨rfl, hi, ρi, σi, Zi, acc, pre, r', wi, ws, si, mj, hz1, hDi, ra, nz, no, el2, er⟩
  obtain ⟨wz, sz⟩ := wi.drops si own
  rw [ws] at wz sz
  have oz : ¬ OwnA (wipeS ρi own) (wipe σs own) D := fun ⟨j, p, e, h⟩ => by
    rw [wipeS_get] at e
    by_cases c : j ∈ own
    · rw [if_pos c] at e; cases e
    · rw [if_neg c] at e
      refine no ⟨j, p, e, ?_⟩
      have := congrArg (fun l : SG => l[j]?) ws
      simp only [wipe_get, if_neg c] at this
      rw [this]
      rw [wipe_get, if_neg c] at h
      exact h
  obtain ⟨stop, item⟩ := itok (wipeS ρi own) (wipe σs own) H2 Zi wz mj hz1
  by_cases hlt : i < l.length
  · refine .inr ?_
    obtain ⟨p, hp⟩ : ∃ p, l[i]? = some p := ⟨l[i], List.getElem?_eq_getElem hlt⟩
    obtain ⟨go, yld⟩ := item i p hp
    have ed : l.drop i = p :: l.drop (i + 1) := by
      rw [List.drop_eq_getElem_cons hlt]
      rw [List.getElem?_eq_getElem hlt] at hp
      cases hp; rfl
    rw [ed] at el2
    have el2 : (lcB g cl own t ifs el p ρi).bd (fun o ρ1 => (lcL (lcB g cl own t ifs el) (l.drop (i + 1)) ρ1).bd fun l ρ2 => .ok (match o with | some y => y :: l | none => l) ρ2) = .ok r' ρe := el2
    obtain ⟨o, ρa, eb, el3⟩ := ok_bdE el2
    obtain ⟨r2, ρb', el4, el5⟩ := ok_bdE el3
    cases el5
    refine ⟨go, fun H' => P (i + 1) H', fun H' hP => ⟨l.length - (i + 1), by omega, rfl, hlt, hP⟩, fun x H3 hy => ?_⟩
    obtain ⟨Z3, w3, s3, rv3⟩ := yld x H3 hy
    have D3 : H3 D = some (.lst acc) := s3.stay D _ hDi NT.lst oz
    have ra3 := ra.mono s3.mono (wz.zstay s3)
    have nz3 : ¬ Z3 D := fun z => by
      rcases s3.zin D z with z | z | z
      · exact nz z
      · rw [hDi] at z; cases z
      · exact oz z
    unfold lcB at eb
    cases ebd : bindT t p (wipeS ρi own) with
    | none => rw [ebd] at eb; cases eb
    | some ρc =>
      rw [ebd] at eb
      refine ⟨wipeS ρi own, Z3, p, ρc, w3, rv3, ebd, fun σ2 w4 s4 sm => ?_⟩
      have ws2 : wipe σ2 own = wipe σs own := by
        rw [← wipe_idem (σ := σs)]
        exact wipe_eq sm.1 fun j hj => sm.2 j fun z => hj (ht j z)
      refine ⟨ws2, ?_⟩
      obtain ⟨b, ρd, et, eb2⟩ := ok_bdE eb
      have b4 := sz.trans (s3.trans s4)
      have m4 : ∀ a, Zs a → Z3 a := fun a z => s3.mono a (mj a z)
      have h4 : ∀ a, Zs a → H3 a = Hs a := fun a z => (wz.zstay s3 a (mj a z)).trans (hz1 a z)
      have o4 : ¬ OwnA ρc σ2 D := fun z => (s4.oin D z).elim oz fun z => by rw [D3] at z; cases z
      refine ⟨ρc, Z3, w4, ne_no et, hx_ok et, fun b' ρd' H5 Z5 et' w5 s5 => ?_⟩
      rw [et] at et'; cases et'
      have D5 : H5 D = some (.lst acc) := s5.stay D _ D3 NT.lst o4
      have ra5 := ra3.mono s5.mono (w4.zstay s5)
      have nz5 : ¬ Z5 D := fun z => by
        rcases s5.zin D z with z | z | z
        · exact nz3 z
        · rw [D3] at z; cases z
        · exact o4 z
      have o5 : ¬ OwnA ρd σ2 D := fun z => (s5.oin D z).elim o4 fun z => by rw [D3] at z; cases z
      cases b with
      | false =>
        rw [if_neg (by decide)] at eb2 ⊢
        cases eb2
        exact ⟨_, σ2, Z5, acc, pre, r2, w5, ws2, b4.trans s5, fun a z => s5.mono a (m4 a z), fun a z => (w4.zstay s5 a (m4 a z)).trans (h4 a z), D5, ra5, nz5, o5, el4, er⟩
      | true =>
        rw [if_pos rfl] at eb2 ⊢
        obtain ⟨y, ρe', ee, eb3⟩ := ok_bdE eb2
        obtain ⟨yp, ρg, eu, eb4⟩ := ok_bdE eb3
        cases eb4
        refine ⟨ρd, Z5, w5, ne_no ee, hx_ok ee, fun y' ρe'' v H6 Z6 ee' w6 s6 ar => ?_⟩
        rw [ee] at ee'; cases ee'
        have D6 : H6 D = some (.lst acc) := s6.stay D _ D5 NT.lst o5
        have ra6 := ra5.mono s6.mono (w5.zstay s6)
        obtain ⟨Z7, w7, s7, rv7⟩ := use_settled w6 s6 ar eu
        have nz7 : ¬ Z7 D := fun z => by
          rcases s7.zin D z with z | z | z
          · exact nz5 z
          · rw [D5] at z; cases z
          · exact o5 z
        have o7 : ¬ OwnA ρa σ2 D := fun z => (s7.oin D z).elim o5 fun z => by rw [D5] at z; cases z
        have ra7 := ra5.mono s7.mono (w5.zstay s7)
        have b7 := (b4.trans s5).trans s7
        have w8 := w7.side (o := .lst (acc ++ [v])) nz7 o7
        have b8 := b7.side (o := .lst (acc ++ [v])) hb
        have hz8 : ∀ a, Z7 a → upd H6 D (.lst (acc ++ [v])) a = H6 a := fun a z => upd_ne fun e => nz7 (e ▸ z)
        refine ⟨acc, D6, ?_, ρa, σ2, Z7, acc ++ [v], pre ++ [yp.1], r2, w8, ws2, b8, fun a z => s7.mono a (s5.mono a (m4 a z)), fun a z => ((hz8 a (s7.mono a (s5.mono a (m4 a z)))).trans (w5.zstay s7 a (s5.mono a (m4 a z)))).trans ((w4.zstay s5 a (m4 a z)).trans (h4 a z)), upd_same, ((ra7.append (.cons rv7 .nil)).mono (fun _ z => z) hz8), nz7, o7, el4, ?_⟩
        · have h1 := ra6.len
          have h2 : accP.length + r.length = pre.length + (1 + r2.length) := by rw [← List.length_append, er]; simp; omega
          rw [SZ, h1]
          omega
        · rw [er]; simp
  · refine .inl ⟨stop i (by omega), ?_⟩
    have ed : l.drop i = [] := List.drop_eq_nil_of_le (by omega)
    rw [ed] at el2
    have el2 : O.ok [] ρi = O.ok r' ρe := el2
    cases el2
    have : accP ++ r = pre := by rw [er]; simp
    exact hd σi H2 Zi acc wi ws si hDi (by rw [this]; exact ra) nz no
def lcB2 (g : G) (cl : FC) (own : List Nat) (t : T) (ifs : List E) (it2 : Ev.It) (own2 : List Nat) (t2 : T) (ifs2 : List E) (el : E) (x : PV) (ρ : Sl) : O (List PV) :=
  match bindT t x (wipeS ρ own) with
  | some ρ => (tests g cl ifs ρ).bd fun b ρ => if b then (evI g cl it2 ρ).bd fun ys ρ => lcL (lcB g cl own2 t2 ifs2 el) ys ρ else .ok [] ρ
  | none => .no
theorem tE_lc2 {n : En} {W : WX} {g : G} {cl : FC} {own own2 : List Nat} {t t2 : T} {it it2 : Ev.It} {ifs ifs2 : List E} {el : E} (ht : ∀ j ∈ tslots t, j ∈ own) (ht2 : ∀ j ∈ tslots t2, j ∈ own2) (ho : ∀ j ∈ own2, j ∈ own) {σ : SG} {H : Hp} {Q : VK} (h : tE n W (ev g cl false (.lc2 own t it ifs own2 t2 it2 ifs2 el)) σ H Q) :
    tLc2 (tI n W (evI g cl it)) (tG n t) (tTs n WF (tests g cl ifs)) (tI n WF (evI g cl it2)) (tG n t2) (tTs n WF (tests g cl ifs2)) (tE n WF (ev g cl false el)) own own2 σ H Q := by
  obtain ⟨ρ, Z, w, hno, hx, k⟩ := h
  have e0 : ev g cl false (.lc2 own t it ifs own2 t2 it2 ifs2 el) ρ = (evI g cl it ρ).bd fun xs ρ => (noEx (lcLL (lcB2 g cl own t ifs it2 own2 t2 ifs2 el) xs (wipeS ρ own))).bd fun l ρ' => if l.length ≤ 16777216 then .ok (.v (.lst l) true) (backS ρ ρ' own) else .no := rfl
  rw [e0] at hno hx k
  refine ⟨ρ, Z, w, bd_no hno, hx.bd, fun l ρ1 H1 Z1 J e1 w1 b1 itok D hD => ?_⟩
  rw [bd_ok e1] at hno k
  obtain ⟨lres, ρf, e2⟩ := noEx_ok (bd_no hno)
  have e3 : noEx (lcLL (lcB2 g cl own t ifs it2 own2 t2 ifs2 el) l (wipeS ρ1 own)) = .ok lres ρf := by rw [e2]; rfl
  rw [bd_ok e3] at hno k
  have hsz : lres.length ≤ 16777216 := by
    by_cases c : lres.length ≤ 16777216
    · exact c
    · rw [if_neg c] at hno; exact absurd rfl hno
  rw [if_pos hsz] at k
  let P : Nat → Hp → Prop := fun i H' => ∃ ρi σi Zi acc accP r, Wd n ρi σi H' Zi ∧ wipe σi own = wipe σ own ∧ Stp (wipeS ρ1 own) (wipe σ own) H1 Z1 ρi σi H' Zi ∧ H' D = some (.lst acc) ∧ RVs n H' Zi accP acc ∧ ¬ Zi D ∧ ¬ OwnA ρi σi D ∧
    lcLL (lcB2 g cl own t ifs it2 own2 t2 ifs2 el) (l.drop i) ρi = .ok r ρf ∧ lres = accP ++ r
  refine ⟨fun i m H' => m = l.length - i ∧ i ≤ l.length ∧ P i H', ⟨l.length, by simp, Nat.zero_le _, ?_⟩, ?_⟩
  · obtain ⟨w2, s2⟩ := w1.drops .refl own
    have s3 : Stp (wipeS ρ1 own) (wipe σ own) H1 Z1 (wipeS ρ1 own) (wipe σ own) H1 Z1 := .refl
    obtain ⟨w4, s4, nz, no, _⟩ := w2.lay s3 (.lst []) hD
    exact ⟨wipeS ρ1 own, wipe σ own, Z1, [], [], lres, w4, wipe_idem, s4, upd_same, .nil, nz, no, by rw [List.drop_zero]; exact e2, rfl⟩
  · rintro i m H2 ⟨rfl, hi, ρi, σi, Zi, acc, accP, r, wi, ws, si, hDi, ra, nz, no, el2, er⟩
    obtain ⟨wz, sz⟩ := wi.drops si own
    rw [ws] at wz sz
    have mz := sz.mono
    have oz : ¬ OwnA (wipeS ρi own) (wipe σ own) D := fun ⟨j, p, e, h⟩ => by
      rw [wipeS_get] at e
      by_cases c : j ∈ own
      · rw [if_pos c] at e; cases e
      · rw [if_neg c] at e
        refine no ⟨j, p, e, ?_⟩
        have := congrArg (fun l : SG => l[j]?) ws
        simp only [wipe_get, if_neg c] at this
        rw [this]
        rw [wipe_get, if_neg c] at h
        exact h
    have hz1 : ∀ a, Z1 a → H2 a = H1 a := fun a z => by
      obtain ⟨o, e, tt⟩ := w1.gz a z
      rw [e]
      exact sz.stay a o e tt fun q => w1.notOwn z (by
        obtain ⟨j, p, e, h⟩ := q
        rw [wipeS_get] at e
        by_cases c : j ∈ own
        · rw [if_pos c] at e; cases e
        · rw [if_neg c] at e
          rw [wipe_get, if_neg c] at h
          exact ⟨j, p, e, h⟩)
    obtain ⟨stop, item⟩ := itok (wipeS ρi own) (wipe σ own) H2 Zi wz mz hz1
    by_cases hlt : i < l.length
    · refine .inr ?_
      obtain ⟨p, hp⟩ : ∃ p, l[i]? = some p := ⟨l[i], List.getElem?_eq_getElem hlt⟩
      obtain ⟨go, yld⟩ := item i p hp
      have ed : l.drop i = p :: l.drop (i + 1) := by
        rw [List.drop_eq_getElem_cons hlt]
        rw [List.getElem?_eq_getElem hlt] at hp
        cases hp; rfl
      rw [ed] at el2
      have el2 : (lcB2 g cl own t ifs it2 own2 t2 ifs2 el p ρi).bd (fun o ρ1 => (lcLL (lcB2 g cl own t ifs it2 own2 t2 ifs2 el) (l.drop (i + 1)) ρ1).bd fun l ρ2 => .ok (o ++ l) ρ2) = .ok r ρf := el2
      obtain ⟨o, ρa, eb, el3⟩ := ok_bdE el2
      obtain ⟨r2, ρb, el4, el5⟩ := ok_bdE el3
      cases el5
      refine ⟨go, fun H' => P (i + 1) H', fun H' hP => ⟨l.length - (i + 1), by omega, rfl, hlt, hP⟩, fun x H3 hy => ?_⟩
      obtain ⟨Z3, w3, s3, rv3⟩ := yld x H3 hy
      have D3 : H3 D = some (.lst acc) := s3.stay D _ hDi NT.lst oz
      have ra3 := ra.mono s3.mono (wz.zstay s3)
      have nz3 : ¬ Z3 D := fun z => by
        rcases s3.zin D z with z | z | z
        · exact nz z
        · rw [hDi] at z; cases z
        · exact oz z
      unfold lcB2 at eb
      cases ebd : bindT t p (wipeS ρi own) with
      | none => rw [ebd] at eb; cases eb
      | some ρc =>
        rw [ebd] at eb
        refine ⟨wipeS ρi own, Z3, p, ρc, w3, rv3, ebd, fun σ2 w4 s4 sm => ?_⟩
        have ws2 : wipe σ2 own = wipe σ own := by
          rw [← wipe_idem (σ := σ)]
          exact wipe_eq sm.1 fun j hj => sm.2 j fun z => hj (ht j z)
        refine ⟨ws2, ?_⟩
        obtain ⟨b, ρd, et, eb2⟩ := ok_bdE eb
        have b4 := sz.trans (s3.trans s4)
        have o4 : ¬ OwnA ρc σ2 D := fun z => (s4.oin D z).elim oz fun z => by rw [D3] at z; cases z
        refine ⟨ρc, Z3, w4, ne_no et, hx_ok et, fun b' ρd' H5 Z5 et' w5 s5 => ?_⟩
        rw [et] at et'; cases et'
        have D5 : H5 D = some (.lst acc) := s5.stay D _ D3 NT.lst o4
        have ra5 := ra3.mono s5.mono (w4.zstay s5)
        have nz5 : ¬ Z5 D := fun z => by
          rcases s5.zin D z with z | z | z
          · exact nz3 z
          · rw [D3] at z; cases z
          · exact o4 z
        have o5 : ¬ OwnA ρd σ2 D := fun z => (s5.oin D z).elim o4 fun z => by rw [D3] at z; cases z
        cases b with
        | false =>
          rw [if_neg (by decide)] at eb2 ⊢
          cases eb2
          exact ⟨_, σ2, Z5, acc, accP, r2, w5, ws2, b4.trans s5, D5, ra5, nz5, o5, el4, by rw [er]; rfl⟩
        | true =>
          rw [if_pos rfl] at eb2 ⊢
          obtain ⟨ys, ρe, ei, eb3⟩ := ok_bdE eb2
          refine ⟨ρd, Z5, w5, ne_no ei, hx_ok ei, fun ys' ρe' H6 Z6 J1 ei' w6 s6 it6 => ?_⟩
          rw [ei] at ei'; cases ei'
          have D6 : H6 D = some (.lst acc) := s6.stay D _ D5 NT.lst o5
          have ra6 := ra5.mono s6.mono (w5.zstay s6)
          have nz6 : ¬ Z6 D := fun z => by
            rcases s6.zin D z with z | z | z
            · exact nz5 z
            · rw [D5] at z; cases z
            · exact o5 z
          have o6 : ¬ OwnA ρe σ2 D := fun z => (s6.oin D z).elim o5 fun z => by rw [D5] at z; cases z
          have hlen : accP.length + o.length ≤ 16777216 := by
            have : lres.length = accP.length + (o.length + r2.length) := by rw [er]; simp
            omega
          refine lc_loop ht2 it6 w6 ((b4.trans s5).trans s6) hD D6 ra6 nz6 o6 eb3 hlen fun σe H7 Z7 acc' w7 ws7 s7 D7 ra7 nz7 o7 => ?_
          refine ⟨ρa, σe, Z7, acc', accP ++ o, r2, w7, ?_, s7, D7, ra7, nz7, o7, el4, by rw [er, List.append_assoc]⟩
          rw [← ws2]
          refine wipe_eq (by rw [← wipe_length σe own2, ws7, wipe_length]) fun j hj => ?_
          have := congrArg (fun l : SG => l[j]?) ws7
          simp only [wipe_get, if_neg (fun z => hj (ho j z))] at this
          exact this
    · refine .inl ⟨stop i (by omega), ?_⟩
      have ed : l.drop i = [] := List.drop_eq_nil_of_le (by omega)
      rw [ed] at el2
      have el2 : O.ok [] ρi = O.ok r ρf := el2
      cases el2
      obtain ⟨w5, s5, o5⟩ := w1.back wi si ws
      have nown : ¬ OwnA (backS ρ1 ρf own) σ D := fun z => (o5 D z).elim (fun ⟨j, p, e, h⟩ => by
        obtain ⟨a, h2, _, r⟩ := w1.own j p e
        rw [h] at h2; cases h2
        obtain ⟨o, ho, _⟩ := r.there
        rw [hD] at ho; cases ho) no
      have : lres = accP := by rw [er]; simp
      subst this
      exact k _ _ (.ref D) H2 Zi rfl w5 (b1.trans s5) ⟨D, rfl, b1.back hD, nz, nown, .lst hDi ra⟩
/-! ### as expressions -/
def notSet : Expr → Bool
  | .Set _ _ _ => false
  | _ => true
theorem foldOk {e : Expr} (h : notSet e = true) (env : Env) (x : Value) : foldedSetIterable e env x = pure x := by
  cases e <;> first | rfl | cases h
section
variable {X : Cx} {n : En} {W : WX} {g : G} {cl : FC} {elt tg iter tg1 iter1 : Expr} {ifs ifs1 : List Expr} {scope : Scope} {own : List (Str × Nat)} {pos : Pos} {t t1 : T} {it it1 : Ev.It} {cs cs1 : List E} {c : E} {own2 : List Nat}
theorem pe_elc (hc : X.calm = true) (hN : X.N.Nodup) (hi : PI X tg iter (tI n W (evI g cl it))) (hv : ∀ c, it = .of c → PE X iter (tE n W (ev g cl false c))) (ok : BlkOk X.N X.env.scope scope own) (ht : ∀ j ∈ tslots t, j ∈ own.map (·.2))
    (hg : ∀ (s : Shared) (H : Hp) (C : Addr) (cl : List (Str × Addr)) (fp : List Addr), PG (X.blk s H scope (compEnvC scope cl C X.env) fp) tg (tG n t)) (hts : ∀ (s : Shared) (H : Hp) (C : Addr) (cl' : List (Str × Addr)) (fp : List Addr), PTs (X.blk s H scope (compEnvC scope cl' C X.env) fp) ifs (tTs n WF (tests g cl cs)))
    (he : ∀ (s : Shared) (H : Hp) (C : Addr) (cl' : List (Str × Addr)) (fp : List Addr), PE (X.blk s H scope (compEnvC scope cl' C X.env) fp) elt (tE n WF (ev g cl false c))) (hs : notSet iter = true) :
    PE X (.ListComp elt [⟨tg, iter, ifs, 0⟩] scope pos) (tE n W (ev g cl false (.lc (own.map (·.2)) t it cs c))) :=
  ⟨fun pins s σ H Q I h => by
    rcases tE_lc X.K ht h with q | ⟨iv, e, q⟩
    · exact (pe_lc hc hN hi ok hg hts he (foldOk hs _)).run pins s σ H Q I q
    · exact (pe_lc hc hN (pi_list (hv _ e)) ok hg hts he (foldOk hs _)).run pins s σ H Q I q⟩
theorem pe_elc2 (hc : X.calm = true) (hN : X.N.Nodup) (hi : PI X tg iter (tI n W (evI g cl it))) (ok : BlkOk X.N X.env.scope scope own) (ht : ∀ j ∈ tslots t, j ∈ own.map (·.2)) (ht1 : ∀ j ∈ tslots t1, j ∈ own2) (ho : ∀ j ∈ own2, j ∈ own.map (·.2))
    (hg : ∀ (s : Shared) (H : Hp) (C : Addr) (cl : List (Str × Addr)) (fp : List Addr), PG (X.blk s H scope (compEnvC scope cl C X.env) fp) tg (tG n t)) (hts : ∀ (s : Shared) (H : Hp) (C : Addr) (cl' : List (Str × Addr)) (fp : List Addr), PTs (X.blk s H scope (compEnvC scope cl' C X.env) fp) ifs (tTs n WF (tests g cl cs)))
    (hi1 : ∀ (s : Shared) (H : Hp) (C : Addr) (cl' : List (Str × Addr)) (fp : List Addr), PI (X.blk s H scope (compEnvC scope cl' C X.env) fp) tg1 iter1 (tI n WF (evI g cl it1)))
    (hg1 : ∀ (s : Shared) (H : Hp) (C : Addr) (cl : List (Str × Addr)) (fp : List Addr), PG (X.blk s H scope (compEnvC scope cl C X.env) fp) tg1 (tG n t1)) (hts1 : ∀ (s : Shared) (H : Hp) (C : Addr) (cl' : List (Str × Addr)) (fp : List Addr), PTs (X.blk s H scope (compEnvC scope cl' C X.env) fp) ifs1 (tTs n WF (tests g cl cs1)))
    (he : ∀ (s : Shared) (H : Hp) (C : Addr) (cl' : List (Str × Addr)) (fp : List Addr), PE (X.blk s H scope (compEnvC scope cl' C X.env) fp) elt (tE n WF (ev g cl false c))) (hs : notSet iter = true) (hs1 : notSet iter1 = true) :
    PE X (.ListComp elt [⟨tg, iter, ifs, 0⟩, ⟨tg1, iter1, ifs1, 0⟩] scope pos) (tE n W (ev g cl false (.lc2 (own.map (·.2)) t it cs own2 t1 it1 cs1 c))) :=
  PE.imp (pe_lc2 hc hN hi ok ho hg hts hi1 hg1 hts1 he (foldOk hs _) (foldOk hs1)) fun _ _ _ h => tE_lc2 ht ht1 ho h
end
end Ev

set_option Elab.async false
set_option linter.all false
set_option maxRecDepth 100000
/-! The evaluator is sound: statements. -/
namespace Ev
open PySem PySem.Spec PyProof.Rows L2

def Lk (L : List Nat) (σ σ' : SG) : Prop := ∀ i ∈ L, σ'[i]? = σ[i]?
theorem Lk.trans {L : List Nat} {a b c : SG} (h : Lk L a b) (k : Lk L b c) : Lk L a c := fun i hi => (k i hi).trans (h i hi)
/-- what a def gives back -/
def RVR (n : En) (ρ0 : Sl) (σ0 : SG) (H0 : Hp) (ρ : Sl) (σ : SG) (H : Hp) (Z : Addr → Prop) (p : PV) (o : Bool) (v : V) : Prop :=
  if o = true then ∃ a, v = .ref a ∧ (OwnA ρ0 σ0 a ∨ H0 a = none) ∧ ¬ Z a ∧ ¬ OwnA ρ σ a ∧ OV n H Z p a else RV n H Z p v
theorem RVR.base {n : En} {ρ0 ρ1 ρ : Sl} {σ0 σ1 σ : SG} {H0 H1 H : Hp} {Z0 Z1 Z : Addr → Prop} {p : PV} {o : Bool} {v : V} (s : Stp ρ0 σ0 H0 Z0 ρ1 σ1 H1 Z1) (r : RVR n ρ1 σ1 H1 ρ σ H Z p o v) : RVR n ρ0 σ0 H0 ρ σ H Z p o v := by
  unfold RVR at r ⊢
  cases o with
  | false => exact r
  | true =>
    rw [if_pos rfl] at r ⊢
    obtain ⟨a, e, h, q⟩ := r
    exact ⟨a, e, h.elim (s.oin a) fun h => .inr (s.back h), q⟩
/-- a statement's reading -/
structure TSok (n : En) (W : WX) (L : List Nat) (r : SO) (D : Ends) (ρ : Sl) (σ : SG) (H : Hp) (Z : Addr → Prop) : Prop where
  no : r ≠ .no
  nx : ∀ ρ' σ' H' Z', r = .nx ρ' → Wd n ρ' σ' H' Z' → Stp ρ σ H Z ρ' σ' H' Z' → Lk L σ σ' → D.nx σ' H'
  bk : ∀ ρ' σ' H' Z', r = .bk ρ' → Wd n ρ' σ' H' Z' → Stp ρ σ H Z ρ' σ' H' Z' → Lk L σ σ' → D.bk σ' H'
  ct : ∀ ρ' σ' H' Z', r = .ct ρ' → Wd n ρ' σ' H' Z' → Stp ρ σ H Z ρ' σ' H' Z' → Lk L σ σ' → D.ct σ' H'
  rt : ∀ p o ρ' σ' H' Z' v, r = .rt p o ρ' → Wd n ρ' σ' H' Z' → Stp ρ σ H Z ρ' σ' H' Z' → Lk L σ σ' → RVR n ρ σ H ρ' σ' H' Z' p o v → D.rt v H'
  ex : ∀ x ρ' σ' H' Z' cls d, r = .ex x ρ' → XnAt n H' Z' x cls d → Wd n ρ' σ' H' Z' → Stp ρ σ H Z ρ' σ' H' Z' → Lk L σ σ' → W cls d σ' H'
def tS (n : En) (W : WX) (L : List Nat) (f : Sl → SO) : TS := fun D σ H => ∃ ρ Z, Wd n ρ σ H Z ∧ TSok n W L (f ρ) D ρ σ H Z
theorem PS.imp {X : Cx} {e : Stmt} {t t' : TS} (h : PS X e t) (k : ∀ D σ H, t' D σ H → t D σ H) : PS X e t' := ⟨fun pins s σ H D I q => h.run pins s σ H D I (k D σ H q)⟩
theorem PSs.imp {X : Cx} {e : List Stmt} {t t' : TS} (h : PSs X e t) (k : ∀ D σ H, t' D σ H → t D σ H) : PSs X e t' := ⟨fun pins s σ H D I q => h.run pins s σ H D I (k D σ H q)⟩
theorem so_no {α : Type} {r : O α} {f : α → Sl → SO} (h : r.so f ≠ .no) : r ≠ .no := by
  intro e; rw [e] at h; exact h rfl
theorem so_ok {α : Type} {r : O α} {f : α → Sl → SO} {a : α} {ρ : Sl} (h : r = .ok a ρ) : r.so f = f a ρ := by rw [h]; rfl
section
variable {n : En} {W : WX} {L : List Nat} {D : Ends} {ρ0 ρ : Sl} {σ0 σ : SG} {H0 H : Hp} {Z0 Z : Addr → Prop} {r : SO}
/-- later on -/
theorem TSok.later (h : TSok n W L r D ρ0 σ0 H0 Z0) (s : Stp ρ0 σ0 H0 Z0 ρ σ H Z) (l : Lk L σ0 σ) : TSok n W L r D ρ σ H Z :=
  ⟨h.no, fun ρ' σ' H' Z' e w st k => h.nx ρ' σ' H' Z' e w (s.trans st) (l.trans k), fun ρ' σ' H' Z' e w st k => h.bk ρ' σ' H' Z' e w (s.trans st) (l.trans k), fun ρ' σ' H' Z' e w st k => h.ct ρ' σ' H' Z' e w (s.trans st) (l.trans k),
    fun p o ρ' σ' H' Z' v e w st k q => h.rt p o ρ' σ' H' Z' v e w (s.trans st) (l.trans k) (q.base s), fun x ρ' σ' H' Z' cls d e xa w st k => h.ex x ρ' σ' H' Z' cls d e xa w (s.trans st) (l.trans k)⟩
theorem TSok.hx {α : Type} {q : O α} {f : α → Sl → SO} (h : TSok n W L (q.so f) D ρ σ H Z) : HX n W ρ σ H Z q := fun x ρ' H' Z' cls d e xa w st => h.ex x ρ' σ H' Z' cls d (by rw [e]; rfl) xa w st fun _ _ => rfl
/-- an expression, then on -/
theorem TSok.hx' {α : Type} {q : O α} {f : α → Sl → SO} (h : TSok n W L (q.so f) D ρ0 σ H0 Z0) : HX n W ρ0 σ H0 Z0 q := fun x ρ' H' Z' cls d e xa w st => h.ex x ρ' σ H' Z' cls d (by rw [e]; rfl) xa w st fun _ _ => rfl
theorem tE.goS {f : Sl → O Ar} {F : Ar → Sl → SO} (w : Wd n ρ σ H Z) (b : Stp ρ0 σ H0 Z0 ρ σ H Z) (h : TSok n W L ((f ρ).so F) D ρ0 σ H0 Z0) {Q : VK}
    (k : ∀ a ρ1 v H1 Z1, f ρ = .ok a ρ1 → Wd n ρ1 σ H1 Z1 → Stp ρ0 σ H0 Z0 ρ1 σ H1 Z1 → Stp ρ σ H Z ρ1 σ H1 Z1 → AR n H0 ρ1 σ H1 Z1 a v → TSok n W L (F a ρ1) D ρ0 σ H0 Z0 → Q v H1) : tE n W f σ H Q :=
  tE.go w b (so_no h.no) h.hx' fun a ρ1 v H1 Z1 e w1 b1 st ar => k a ρ1 v H1 Z1 e w1 b1 st ar (by rw [so_ok e] at h; exact h)
theorem tT.goS {f : Sl → O Ar} {F : Ar → Sl → SO} (w : Wd n ρ σ H Z) (b : Stp ρ0 σ H0 Z0 ρ σ H Z) (h : TSok n W L ((f ρ).so F) D ρ0 σ H0 Z0) {Q : Bool → Hp → Prop}
    (k : ∀ a ρ1 H1 Z1, f ρ = .ok a ρ1 → Wd n ρ1 σ H1 Z1 → Stp ρ0 σ H0 Z0 ρ1 σ H1 Z1 → Stp ρ σ H Z ρ1 σ H1 Z1 → TSok n W L (F a ρ1) D ρ0 σ H0 Z0 → ∃ b o, a = .v (.bl b) o ∧ Q b H1) : tT n W f σ H Q :=
  tT.go w b (so_no h.no) h.hx' fun a ρ1 H1 Z1 e w1 b1 st => k a ρ1 H1 Z1 e w1 b1 st (by rw [so_ok e] at h; exact h)
theorem tA.goS {f : Sl → O (List Ar)} {F : List Ar → Sl → SO} (w : Wd n ρ σ H Z) (b : Stp ρ0 σ H0 Z0 ρ σ H Z) (h : TSok n W L ((f ρ).so F) D ρ0 σ H0 Z0) {Q : List V → Hp → Prop}
    (k : ∀ a ρ1 v H1 Z1, f ρ = .ok a ρ1 → Wd n ρ1 σ H1 Z1 → Stp ρ0 σ H0 Z0 ρ1 σ H1 Z1 → Stp ρ σ H Z ρ1 σ H1 Z1 → ARs n H0 ρ1 σ H1 Z1 a v → TSok n W L (F a ρ1) D ρ0 σ H0 Z0 → Q v H1) : tA n W f σ H Q :=
  tA.go w b (so_no h.no) h.hx' fun a ρ1 v H1 Z1 e w1 b1 st ar => k a ρ1 v H1 Z1 e w1 b1 st ar (by rw [so_ok e] at h; exact h)
theorem use_so {ar : Ar} {F : PV × Bool → Sl → SO} (h : (use ar ρ).so F ≠ .no) : ∃ p ρ', use ar ρ = .ok p ρ' := use_ok' (so_no h)
end
section
variable {X : Cx} {n : En} {W : WX} {L : List Nat} {g : G} {cl : FC} {F : Nat} {st : Stmt} {rest : List Stmt} {s : S} {ss : List S} {e : Expr} {c : E} {pos pos' : Pos} {i : Nat} {x : Str} {t : T} {tg : Expr}
theorem pss_enil : PSs X [] (tS n W L (exSs g cl F [])) := by
  refine PSs.imp pss_nil fun D σ H ⟨ρ, Z, w, h⟩ => ?_
  exact h.nx ρ σ H Z rfl w .refl fun _ _ => rfl
theorem pss_econs (h1 : PS X st (tS n W L (exS g cl F s))) (h2 : PSs X rest (tS n W L (exSs g cl F ss))) : PSs X (st :: rest) (tS n W L (exSs g cl F (s :: ss))) := by
  refine PSs.imp (pss_cons h1 h2) fun D σ H ⟨ρ, Z, w, h⟩ => ?_
  have e0 : exSs g cl F (s :: ss) ρ = (exS g cl F s ρ).sq fun ρ => exSs g cl F ss ρ := rfl
  rw [e0] at h
  refine ⟨ρ, Z, w, ⟨fun z => by rw [z] at h; exact h.no rfl, fun ρ' σ' H' Z' e w' s' l => ?_, fun ρ' σ' H' Z' e => h.bk ρ' σ' H' Z' (by rw [e]; rfl), fun ρ' σ' H' Z' e => h.ct ρ' σ' H' Z' (by rw [e]; rfl), fun p o ρ' σ' H' Z' v e => h.rt p o ρ' σ' H' Z' v (by rw [e]; rfl), fun x ρ' σ' H' Z' cls d e => h.ex x ρ' σ' H' Z' cls d (by rw [e]; rfl)⟩⟩
  rw [e] at h
  exact ⟨ρ', Z', w', h.later s' l⟩
theorem pss_eone (h1 : PS X st (tS n W L (exS g cl F s))) : PSs X [st] (tS n W L (exSs g cl F [s])) := pss_econs h1 pss_enil
theorem ps_epass : PS X (.Pass pos) (tS n W L (exS g cl F .pas)) := PS.imp ps_pass fun D σ H ⟨ρ, Z, w, h⟩ => h.nx ρ σ H Z rfl w .refl fun _ _ => rfl
theorem ps_ebreak : PS X (.Break pos) (tS n W L (exS g cl F .brk)) := PS.imp ps_break fun D σ H ⟨ρ, Z, w, h⟩ => h.bk ρ σ H Z rfl w .refl fun _ _ => rfl
theorem ps_econt : PS X (.Continue pos) (tS n W L (exS g cl F .cnt)) := PS.imp ps_continue fun D σ H ⟨ρ, Z, w, h⟩ => h.ct ρ σ H Z rfl w .refl fun _ _ => rfl
theorem ps_edoc {j : Nat} : PS X (.Expr (.Constant (.str x) j pos) pos') (tS n W L (exS g cl F .pas)) := PS.imp ps_doc fun D σ H ⟨ρ, Z, w, h⟩ => h.nx ρ σ H Z rfl w .refl fun _ _ => rfl
/-- comprehensions that are stored at once are told apart -/
def notComp : Expr → Bool
  | .ListComp _ _ _ _ => false
  | .SetComp _ _ _ _ => false
  | .DictComp _ _ _ _ _ => false
  | _ => true
theorem swaps_no {e : Expr} {o : Option Expr} {l : Nat} {env : Env} (h : notComp e = true) : swapsWith e o l env = pure false := by
  cases e <;> first | rfl | cases h
theorem ps_eexpr (he : PE X e (tE n W (ev g cl false c))) (hs : notComp e = true) : PS X (.Expr e pos) (tS n W L (exS g cl F (.ex c))) := by
  refine PS.imp (ps_expr he (swaps_no hs)) fun D σ H ⟨ρ, Z, w, h⟩ => ?_
  have e0 : exS g cl F (.ex c) ρ = (ev g cl false c ρ).so fun _ ρ => .nx ρ := rfl
  rw [e0] at h
  exact tE.goS w .refl h fun a ρ1 v H1 Z1 e1 w1 b1 _ ar h1 => h1.nx ρ1 σ H1 Z1 rfl w1 b1 fun _ _ => rfl
/-- from a value that is used -/
theorem use_fin {ρ0 ρ1 ρ2 : Sl} {σ : SG} {H0 H1 : Hp} {Z0 Z1 : Addr → Prop} {a : Ar} {v : V} {p : PV} {o : Bool} (w1 : Wd n ρ1 σ H1 Z1) (b1 : Stp ρ0 σ H0 Z0 ρ1 σ H1 Z1) (ar : AR n H0 ρ1 σ H1 Z1 a v) (eu : use a ρ1 = .ok (p, o) ρ2) :
    ∃ Z2, Wd n ρ2 σ H1 Z2 ∧ Stp ρ0 σ H0 Z0 ρ2 σ H1 Z2 ∧ Stp ρ1 σ H1 Z1 ρ2 σ H1 Z2 ∧ VR n H0 ρ2 σ H1 Z2 p o v := use_ok w1 b1 ar eu
/-- name = e -/
theorem set_core {σ : SG} {H : Hp} {D : Ends} (hL : i ∉ L) (h : tS n W L (exS g cl F (.asg (.nm i) c)) D σ H) : tAsg (tE n W (ev g cl false c)) (gName i) D σ H := by
  obtain ⟨ρ, Z, w, h⟩ := h
  have e0 : exS g cl F (.asg (.nm i) c) ρ = (ev g cl false c ρ).so fun a ρ => (use a ρ).so fun p ρ => if i < ρ.length then .nx (sput ρ i (some p)) else .no := rfl
  rw [e0] at h
  refine tE.goS w .refl h fun a ρ1 v H1 Z1 e1 w1 b1 _ ar h1 => ?_
  obtain ⟨⟨p, o⟩, ρ2, eu⟩ := use_so h1.no
  rw [so_ok eu] at h1
  obtain ⟨Z2, w2, b2, s2, vr⟩ := use_fin w1 b1 ar eu
  by_cases hl : i < ρ2.length
  · rw [if_pos hl] at h1
    obtain ⟨w3, s3⟩ := w2.store b2 hl vr
    refine h1.nx _ _ H1 Z2 rfl w3 s3 fun j hj => ?_
    exact List.getElem?_set_ne (fun z : i = j => hL (z ▸ hj))
  · rw [if_neg hl] at h1; exact absurd rfl h1.no
theorem ps_eset (hN : X.N.Nodup) (hi : X.N[i]? = some x) (hx : Loc X.env.scope x) (hf : X.fn x = true ∨ X.env.scope.names.lookup x = some .local) (hL : i ∉ L) (he : PE X e (tE n W (ev g cl false c))) (hs : notComp e = true) :
    PS X (.Assign [.Name x pos'] e pos) (tS n W L (exS g cl F (.asg (.nm i) c))) :=
  PS.imp (ps_set hN hi hx he (swaps_no hs) hf) fun D σ H h => set_core hL h
/-- targets = e -/
theorem asgT_core {σ : SG} {H : Hp} {D : Ends} {ts : List T} (hL : ∀ i ∈ tslotss ts, i ∉ L) (h : tS n W L (exS g cl F (.asg (.tup ts) c)) D σ H) : tAsg (tE n W (ev g cl false c)) (tG n (.tup ts)) D σ H := by
  obtain ⟨ρ, Z, w, h⟩ := h
  have e0 : exS g cl F (.asg (.tup ts) c) ρ = (ev g cl false c ρ).so fun a ρ => (use a ρ).so fun p ρ => (match bindT (.tup ts) p.1 ρ with | some ρ => .nx ρ | none => .no) := rfl
  rw [e0] at h
  refine tE.goS w .refl h fun a ρ1 v H1 Z1 e1 w1 b1 _ ar h1 => ?_
  obtain ⟨⟨p, o⟩, ρ2, eu⟩ := use_so h1.no
  rw [so_ok eu] at h1
  obtain ⟨Z2, w2, b2, rv⟩ := use_settled w1 b1 ar eu
  cases eb : bindT (.tup ts) p ρ2 with
  | none => rw [eb] at h1; exact absurd rfl h1.no
  | some ρ3 =>
    rw [eb] at h1
    exact ⟨ρ2, Z2, p, ρ3, w2, rv, eb, fun σ' w' s' sm => h1.nx ρ3 σ' H1 Z2 rfl w' (b2.trans s') fun j hj => sm.2 j fun z => hL j z hj⟩
/-- no pair is stored from the right -/
def plainV : Expr → Bool
  | .Tuple _ _ _ => false
  | e => notComp e
theorem swap_none {ts : List Expr} {k : Nat} {p : Pos} {e : Expr} {env : Env} (h : plainV e = true) : swappedStores [.Tuple ts k p] e env = pure none := by
  cases e <;> first | rfl | cases h
theorem swapsT {ts : List Expr} {k l : Nat} {p : Pos} {e : Expr} {env : Env} : swapsWithSole [.Tuple ts k p] e l env = pure false := by
  cases e <;> rfl
theorem ps_easgT {ts : List T} {es : List Expr} {k : Nat} {p : Pos} (hL : ∀ i ∈ tslotss ts, i ∉ L) (he : PE X e (tE n W (ev g cl false c))) (hg : PG X (.Tuple es k p) (tG n (.tup ts))) (hw : swappedStores [.Tuple es k p] e X.env = pure none) :
    PS X (.Assign [.Tuple es k p] e pos) (tS n W L (exS g cl F (.asg (.tup ts) c))) :=
  PS.imp (ps_asg he hg swapsT hw rfl) fun D σ H h => asgT_core hL h
/-- several values at once; the objects of fresh ones stand apart -/
def VRs (n : En) (H0 : Hp) (ρ : Sl) (σ : SG) (H : Hp) (Z : Addr → Prop) : List (PV × Bool) → List V → Prop
  | [], [] => True
  | p :: ps, v :: vs => VR n H0 ρ σ H Z p.1 p.2 v ∧ (p.2 = true → ∀ (k : Nat) q, ps[k]? = some (q, true) → vs[k]? ≠ some v) ∧ VRs n H0 ρ σ H Z ps vs
  | _, _ => False
theorem VRs.base {ρ : Sl} {σ : SG} {H0 H H1 : Hp} {Z : Addr → Prop} (b : ∀ a, H a = none → H0 a = none) : ∀ {ps : List (PV × Bool)} {vs : List V}, VRs n H ρ σ H1 Z ps vs → VRs n H0 ρ σ H1 Z ps vs
  | [], [], _ => trivial
  | _ :: _, _ :: _, h => ⟨VR.base h.1 b, h.2.1, VRs.base b h.2.2⟩
  | [], _ :: _, h => h.elim
  | _ :: _, [], h => h.elim
theorem VRs.fresh {ρ : Sl} {σ : SG} {H0 H1 : Hp} {Z : Addr → Prop} : ∀ {ps : List (PV × Bool)} {vs : List V}, VRs n H0 ρ σ H1 Z ps vs → ∀ (k : Nat) q, ps[k]? = some (q, true) → ∃ a, vs[k]? = some (.ref a) ∧ H0 a = none
  | [], [], _, k, q, h => by simp at h
  | p :: ps, v :: vs, h, k, q, e => by
    cases k with
    | zero =>
      have e : p = (q, true) := by simpa using e
      subst e
      obtain ⟨a, rfl, h0, _⟩ := h.1
      exact ⟨a, rfl, h0⟩
    | succ k =>
      obtain ⟨a, h1, h2⟩ := VRs.fresh h.2.2 k q (by simpa using e)
      exact ⟨a, by simpa using h1, h2⟩
  | [], _ :: _, h, _, _, _ => h.elim
  | _ :: _, [], h, _, _, _ => h.elim
def tU (n : En) (W : WX) (f : Sl → O (List (PV × Bool))) : TA := fun σ H Q => ∃ ρ Z, Wd n ρ σ H Z ∧ f ρ ≠ .no ∧ HX n W ρ σ H Z (f ρ) ∧
  ∀ ps ρ' vs H' Z', f ρ = .ok ps ρ' → Wd n ρ' σ H' Z' → Stp ρ σ H Z ρ' σ H' Z' → VRs n H ρ' σ H' Z' ps vs → Q vs H'
theorem pa_unil : PA X [] (tU n W (uses g cl [])) := by
  refine PA.imp pa_nil fun σ H Q ⟨ρ, Z, w, hno, hx, k⟩ => ?_
  exact k [] ρ [] H Z rfl w .refl trivial
theorem pa_ucons {es : List Expr} {cs : List E} (he : PE X e (tE n W (ev g cl false c))) (hes : PA X es (tU n W (uses g cl cs))) (ns : notStar e = true) : PA X (e :: es) (tU n W (uses g cl (c :: cs))) := by
  refine PA.imp (pa_cons he hes (starEach_cons ns)) fun σ H Q ⟨ρ, Z, w, hno, hx, k⟩ => ?_
  have e0 : uses g cl (c :: cs) ρ = (ev g cl false c ρ).bd fun x ρ => (use x ρ).bd fun p ρ => (uses g cl cs ρ).bd fun q ρ => .ok (p :: q) ρ := rfl
  rw [e0] at hno hx k
  refine tE.go w .refl (bd_no hno) hx.bd fun a ρ1 v H1 Z1 e1 w1 b1 _ ar => ?_
  rw [bd_ok e1] at hno hx k
  obtain ⟨⟨p, o⟩, ρ2, eu⟩ := use_ok' (bd_no hno)
  rw [bd_ok eu] at hno hx k
  obtain ⟨Z2, w2, b2, s2, vr⟩ := use_fin w1 b1 ar eu
  refine ⟨ρ2, Z2, w2, bd_no hno, (hx.later b2).bd, fun ps ρ3 vs H3 Z3 e3 w3 s3 vrs => ?_⟩
  rw [bd_ok e3] at k
  refine k ((p, o) :: ps) ρ3 (v :: vs) H3 Z3 rfl w3 (b2.trans s3) ⟨vr.step w2 s3, fun ho kk q hq => ?_, vrs.base fun a h => b2.back h⟩
  have ho : o = true := ho
  subst ho
  obtain ⟨a, rfl, _, _, _, ov⟩ := vr
  obtain ⟨ob, hb, _⟩ := ov.there
  obtain ⟨a', g1, g2⟩ := vrs.fresh kk q hq
  intro z
  rw [g1] at z
  cases z
  rw [hb] at g2; cases g2
theorem VRs.one {ρ : Sl} {σ : SG} {H0 H1 : Hp} {Z : Addr → Prop} {ps : List (PV × Bool)} {vs : List V} (h : VRs n H0 ρ σ H1 Z ps vs) (hl : ps.length = 1) : ∃ p v, ps = [p] ∧ vs = [v] ∧ VR n H0 ρ σ H1 Z p.1 p.2 v := by
  match ps, vs, h with
  | [p], [v], h => exact ⟨p, v, rfl, rfl, h.1⟩
  | _ :: _ :: _, _, _ => simp at hl
  | [], _, _ => simp at hl
  | [_], [], h => exact h.elim
  | [_], _ :: _ :: _, h => exact h.2.2.elim
theorem VRs.cons' {ρ : Sl} {σ : SG} {H0 H1 : Hp} {Z : Addr → Prop} {ps : List (PV × Bool)} {vs : List V} {k : Nat} (h : VRs n H0 ρ σ H1 Z ps vs) (hl : ps.length = k + 1) : ∃ p ps' v vs', ps = p :: ps' ∧ vs = v :: vs' ∧ ps'.length = k ∧ VR n H0 ρ σ H1 Z p.1 p.2 v ∧ (p.2 = true → ∀ (k : Nat) q, ps'[k]? = some (q, true) → vs'[k]? ≠ some v) ∧ VRs n H0 ρ σ H1 Z ps' vs' := by
  match ps, vs, h with
  | p :: ps, v :: vs, h => exact ⟨p, ps, v, vs, rfl, rfl, by simpa using hl, h.1, h.2.1, h.2.2⟩
  | [], _, _ => simp at hl
  | _ :: _, [], h => exact h.elim
/-- one is stored, the others stay -/
theorem VRs.stored {ρ : Sl} {σ : SG} {H0 H1 : Hp} {Z : Addr → Prop} {p : PV} {o : Bool} {v : V} (w : Wd n ρ σ H1 Z) (hl : i < ρ.length) (vr : VR n H0 ρ σ H1 Z p o v) : ∀ {ps : List (PV × Bool)} {vs : List V}, (o = true → ∀ (k : Nat) q, ps[k]? = some (q, true) → vs[k]? ≠ some v) → VRs n H0 ρ σ H1 Z ps vs →
    VRs n H0 (sput ρ i (some (p, o))) (σ.set i (some v)) H1 Z ps vs
  | [], [], _, _ => trivial
  | (q, true) :: ps, u :: us, hd, h => by
    refine ⟨?_, h.2.1, VRs.stored w hl vr (fun ho k q hq => by have := hd ho (k + 1) q (by simpa using hq); simpa using this) h.2.2⟩
    obtain ⟨a, rfl, h0, nz, no, ov⟩ := h.1
    refine ⟨a, rfl, h0, nz, fun ⟨j, q', e, hs⟩ => ?_, ov⟩
    rw [sget_put' hl] at e
    by_cases c : i = j
    · subst c
      rw [if_pos rfl] at e
      cases e
      have hs' : (σ.set i (some v))[i]? = some (some v) := List.getElem?_set_self (by rw [w.len]; exact hl)
      rw [hs'] at hs
      cases hs
      exact hd rfl 0 q rfl rfl
    · rw [if_neg c] at e
      rw [List.getElem?_set_ne c] at hs
      exact no ⟨j, q', e, hs⟩
  | (q, false) :: ps, u :: us, hd, h => ⟨h.1, h.2.1, VRs.stored w hl vr (fun ho k q hq => by have := hd ho (k + 1) q (by simpa using hq); simpa using this) h.2.2⟩
  | [], _ :: _, _, h => h.elim
  | _ :: _, [], _, h => h.elim
theorem bindO_nm {i : Nat} {ts : List T} {p : PV × Bool} {ps : List (PV × Bool)} {ρ : Sl} : bindOs (.nm i :: ts) (p :: ps) ρ = if i < ρ.length then bindOs ts ps (sput ρ i (some p)) else none := by
  show (match (if i < ρ.length then some (sput ρ i (some p)) else none) with | some ρ => bindOs ts ps ρ | none => none) = _
  by_cases c : i < ρ.length
  · rw [if_pos c, if_pos c]
  · rw [if_neg c, if_neg c]
theorem bindOs_len : ∀ {ts : List T} {ps : List (PV × Bool)} {ρ ρ' : Sl}, bindOs ts ps ρ = some ρ' → ps.length = ts.length
  | [], [], _, _, _ => rfl
  | [], _ :: _, _, _, h => by cases h
  | _ :: _, [], _, _, h => by cases h
  | t :: ts, p :: ps, ρ, ρ', h => by
    have h : (match bindO t p ρ with | some ρ => bindOs ts ps ρ | none => none) = some ρ' := h
    split at h
    · rw [List.length_cons, List.length_cons, bindOs_len h]
    · cases h
theorem tU.goS {f : Sl → O (List (PV × Bool))} {FF : List (PV × Bool) → Sl → SO} {D : Ends} {ρ : Sl} {σ : SG} {H : Hp} {Z : Addr → Prop} (w : Wd n ρ σ H Z) (h : TSok n W L ((f ρ).so FF) D ρ σ H Z) {Q : List V → Hp → Prop}
    (k : ∀ a ρ1 v H1 Z1, f ρ = .ok a ρ1 → Wd n ρ1 σ H1 Z1 → Stp ρ σ H Z ρ1 σ H1 Z1 → VRs n H ρ1 σ H1 Z1 a v → TSok n W L (FF a ρ1) D ρ σ H Z → Q v H1) : tU n W f σ H Q :=
  ⟨ρ, Z, w, so_no h.no, h.hx', fun a ρ1 v H1 Z1 e w1 st ar => k a ρ1 v H1 Z1 e w1 st ar (by rw [so_ok e] at h; exact h)⟩
theorem par2_core {i j : Nat} {cs : List E} {σ : SG} {H : Hp} {D : Ends} (hi : i ∉ L) (hj : j ∉ L) (h : tS n W L (exS g cl F (.par [.nm i, .nm j] cs)) D σ H) : tPar i j (tU n W (uses g cl cs)) D σ H := by
  obtain ⟨ρ, Z, w, h⟩ := h
  have e0 : exS g cl F (.par [.nm i, .nm j] cs) ρ = (uses g cl cs ρ).so fun ps ρ => (match bindOs [.nm i, .nm j] ps ρ with | some ρ => .nx ρ | none => .no) := rfl
  rw [e0] at h
  refine tU.goS w h fun ps ρ1 vs H1 Z1 e1 w1 b1 vrs h1 => ?_
  cases eb : bindOs [.nm i, .nm j] ps ρ1 with
  | none => rw [eb] at h1; exact absurd rfl h1.no
  | some ρ' =>
    rw [eb] at h1
    obtain ⟨p, ps', v, vs', rfl, rfl, l1, vr, hd, vrs⟩ := vrs.cons' (k := 1) (bindOs_len eb)
    obtain ⟨q, u, rfl, rfl, vr2⟩ := vrs.one l1
    rw [bindO_nm] at eb
    by_cases c : i < ρ1.length
    · rw [if_pos c, bindO_nm, sput_len] at eb
      by_cases c2 : j < ρ1.length
      · rw [if_pos c2] at eb
        cases eb
        obtain ⟨w2, s2⟩ := w1.store b1 c vr
        have vr3 := VRs.stored (i := i) w1 c vr hd (ps := [q]) (vs := [u]) ⟨vr2, fun _ k q hq => by simp at hq, trivial⟩
        obtain ⟨w3, s3⟩ := w2.store s2 (i := j) (by rw [sput_len]; exact c2) vr3.1
        refine ⟨v, u, rfl, h1.nx _ _ H1 Z1 rfl w3 s3 fun m hm => ?_⟩
        rw [List.getElem?_set_ne (fun z : j = m => hj (z ▸ hm)), List.getElem?_set_ne (fun z : i = m => hi (z ▸ hm))]
      · rw [if_neg c2] at eb; cases eb
    · rw [if_neg c] at eb; cases eb
theorem par3_core {i j m : Nat} {cs : List E} {σ : SG} {H : Hp} {D : Ends} (hi : i ∉ L) (hj : j ∉ L) (hm : m ∉ L) (h : tS n W L (exS g cl F (.par [.nm i, .nm j, .nm m] cs)) D σ H) : tPar3 i j m (tU n W (uses g cl cs)) D σ H := by
  obtain ⟨ρ, Z, w, h⟩ := h
  have e0 : exS g cl F (.par [.nm i, .nm j, .nm m] cs) ρ = (uses g cl cs ρ).so fun ps ρ => (match bindOs [.nm i, .nm j, .nm m] ps ρ with | some ρ => .nx ρ | none => .no) := rfl
  rw [e0] at h
  refine tU.goS w h fun ps ρ1 vs H1 Z1 e1 w1 b1 vrs h1 => ?_
  cases eb : bindOs [.nm i, .nm j, .nm m] ps ρ1 with
  | none => rw [eb] at h1; exact absurd rfl h1.no
  | some ρ' =>
    rw [eb] at h1
    obtain ⟨p, ps', v, vs', rfl, rfl, l1, vr, hd, vrs⟩ := vrs.cons' (k := 2) (bindOs_len eb)
    rw [bindO_nm] at eb
    by_cases c : i < ρ1.length
    · rw [if_pos c] at eb
      obtain ⟨w2, s2⟩ := w1.store b1 c vr
      have vrs2 := VRs.stored (i := i) w1 c vr hd vrs
      obtain ⟨p2, ps2, v2, vs2, rfl, rfl, l2, vr2, hd2, vrs3⟩ := vrs2.cons' l1
      rw [bindO_nm, sput_len] at eb
      by_cases c2 : j < ρ1.length
      · rw [if_pos c2] at eb
        obtain ⟨w3, s3⟩ := w2.store s2 (i := j) (by rw [sput_len]; exact c2) vr2
        have vrs4 := VRs.stored (i := j) w2 (by rw [sput_len]; exact c2) vr2 hd2 vrs3
        obtain ⟨p3, v3, rfl, rfl, vr3⟩ := vrs4.one l2
        rw [bindO_nm, sput_len, sput_len] at eb
        by_cases c3 : m < ρ1.length
        · rw [if_pos c3] at eb
          cases eb
          obtain ⟨w4, s4⟩ := w3.store s3 (i := m) (by rw [sput_len, sput_len]; exact c3) vr3
          refine ⟨v, v2, v3, rfl, h1.nx _ _ H1 Z1 rfl w4 s4 fun q hq => ?_⟩
          rw [List.getElem?_set_ne (fun z : m = q => hm (z ▸ hq)), List.getElem?_set_ne (fun z : j = q => hj (z ▸ hq)), List.getElem?_set_ne (fun z : i = q => hi (z ▸ hq))]
        · rw [if_neg c3] at eb; cases eb
      · rw [if_neg c2] at eb; cases eb
    · rw [if_neg c] at eb; cases eb
/-! return, if -/
theorem ps_eretN : PS X (.Return none pos) (tS n W L (exS g cl F (.ret none))) := PS.imp ps_retN fun D σ H ⟨ρ, Z, w, h⟩ => h.rt .non false ρ σ H Z .non rfl w .refl (fun _ _ => rfl) .non
theorem VR.rvr {ρ0 ρ : Sl} {σ0 σ : SG} {H0 H : Hp} {Z : Addr → Prop} {p : PV} {o : Bool} {v : V} (r : VR n H0 ρ σ H Z p o v) : RVR n ρ0 σ0 H0 ρ σ H Z p o v := by
  cases o with
  | false => exact r
  | true =>
    obtain ⟨a, e, h0, nz, no, ov⟩ := r
    exact ⟨a, e, .inr h0, nz, no, ov⟩
theorem ps_eret (he : PE X e (tE n W (ev g cl false c))) : PS X (.Return (some e) pos) (tS n W L (exS g cl F (.ret (some c)))) := by
  refine PS.imp (ps_ret he) fun D σ H ⟨ρ, Z, w, h⟩ => ?_
  have gen : exS g cl F (.ret (some c)) ρ = ((ev g cl false c ρ).so fun a ρ => (use a ρ).so fun p ρ => .rt p.1 p.2 ρ) → tRet (tE n W (ev g cl false c)) D σ H := by
    intro e0
    rw [e0] at h
    refine tE.goS w .refl h fun a ρ1 v H1 Z1 e1 w1 b1 _ ar h1 => ?_
    obtain ⟨⟨p, o⟩, ρ2, eu⟩ := use_so h1.no
    rw [so_ok eu] at h1
    obtain ⟨Z2, w2, b2, s2, vr⟩ := use_fin w1 b1 ar eu
    exact h1.rt p o ρ2 σ H1 Z2 v rfl w2 b2 (fun _ _ => rfl) vr.rvr
  cases c with
  | var i =>
    have e0 : exS g cl F (.ret (some (.var i))) ρ = (match sget ρ i with
      | some (p, o) => .rt p o (sput ρ i none)
      | none => .no) := rfl
    rw [e0] at h
    cases e1 : sget ρ i with
    | none => rw [e1] at h; exact absurd rfl h.no
    | some y =>
      obtain ⟨p, o⟩ := y
      rw [e1] at h
      refine ⟨ρ, Z, w, ?_, ?_, fun a ρ1 v H1 Z1 e2 w1 s1 ar => ?_⟩
      · have : ev g cl false (.var i) ρ = (match sget ρ i with | some _ => .ok (.sl i) ρ | none => .no) := rfl
        rw [this, e1]
        exact fun z => by cases z
      · intro x ρ' H' Z' cls d e
        have : ev g cl false (.var i) ρ = (match sget ρ i with | some _ => .ok (.sl i) ρ | none => .no) := rfl
        rw [this, e1] at e
        cases e
      · have : ev g cl false (.var i) ρ = (match sget ρ i with | some _ => .ok (.sl i) ρ | none => .no) := rfl
        rw [this, e1] at e2
        cases e2
        obtain ⟨w2, s2⟩ := w1.drop s1 i (σ[i]?).join (.inr rfl)
        have hσ : σ.set i (σ[i]?).join = σ := by
          apply List.ext_getElem?
          intro j
          by_cases c : i = j
          · subst c
            have hl : i < σ.length := by rw [w1.len]; exact sget_lt e1
            rw [List.getElem?_set_self hl, List.getElem?_eq_getElem hl]
            rfl
          · rw [List.getElem?_set_ne c]
        rw [hσ] at w2 s2
        have ar : σ[i]? = some (some v) := ar
        refine h.rt p o _ σ H1 Z1 v rfl w2 s2 (fun _ _ => rfl) ?_
        cases o with
        | false =>
          obtain ⟨v', g1, g2⟩ := w1.vis i p e1
          rw [ar] at g1; cases g1
          exact g2
        | true =>
          obtain ⟨a, g1, g2, g3⟩ := w1.own i p e1
          rw [ar] at g1; cases g1
          refine ⟨a, rfl, s1.oin a ⟨i, p, e1, ar⟩, g2, fun ⟨j, q, h1, h2⟩ => ?_, g3⟩
          rw [sget_put' (sget_lt e1)] at h1
          by_cases c : i = j
          · rw [if_pos c] at h1; cases h1
          · rw [if_neg c] at h1
            exact c (w1.inj i j p q a e1 h1 ar h2)
  | _ => exact gen rfl
theorem ps_eif {t : Expr} {ct : E} {a b : List Stmt} {ca cb : List S} (ht : PT X t (tT n W (ev g cl true ct))) (ha : PSs X a (tS n W L (exSs g cl F ca))) (hb : PSs X b (tS n W L (exSs g cl F cb))) : PS X (.If t a b pos) (tS n W L (exS g cl F (.ite ct ca cb))) := by
  refine PS.imp (ps_if ht ha hb) fun D σ H ⟨ρ, Z, w, h⟩ => ?_
  have e0 : exS g cl F (.ite ct ca cb) ρ = (ev g cl true ct ρ).so fun x ρ => (match x with
    | .v (.bl true) _ => exSs g cl F ca ρ
    | .v (.bl false) _ => exSs g cl F cb ρ
    | _ => .no) := rfl
  rw [e0] at h
  refine tT.goS w .refl h fun x ρ1 H1 Z1 e1 w1 b1 _ h1 => ?_
  have hno := h1.no
  split at hno
  · refine ⟨true, _, rfl, ?_⟩
    rw [if_pos rfl]
    exact ⟨ρ1, Z1, w1, h1.later b1 fun _ _ => rfl⟩
  · refine ⟨false, _, rfl, ?_⟩
    rw [if_neg (by decide)]
    exact ⟨ρ1, Z1, w1, h1.later b1 fun _ _ => rfl⟩
  · exact absurd rfl hno
end
end Ev

set_option Elab.async false
set_option linter.all false
set_option maxRecDepth 100000
/-! The evaluator is sound: loops, stores. -/
namespace Ev
open PySem PySem.Spec PyProof.Rows L2

section
variable {X : Cx} {n : En} {W : WX} {L : List Nat} {g : G} {cl : FC} {F : Nat} {e o ix : Expr} {c ci : E} {pos pos' p2 : Pos} {i : Nat} {x : Str} {t : T} {tg iter : Expr} {body : List Stmt} {cb : List S}
theorem whlL_succ {cc : Sl → O Ar} {b : Sl → SO} {k : Nat} {ρ : Sl} : whlL cc b (k + 1) ρ = (cc ρ).so fun x ρ => match x with
    | .v (.bl true) _ => (match b ρ with
      | .nx ρ => whlL cc b k ρ
      | .ct ρ => whlL cc b k ρ
      | .bk ρ => .nx ρ
      | r => r)
    | .v (.bl false) _ => .nx ρ
    | _ => .no := rfl
theorem ps_ewhl {te : Expr} {ct : E} (hp : PassesOwn (model X.prog X.w) X.A X.env X.xe) (ht : PT X te (tT n W (ev g cl true ct))) (hb : PSs X body (tS n W L (exSs g cl F cb))) : PS X (.While te body [] pos) (tS n W L (exS g cl F (.whl ct cb))) := by
  refine PS.imp (ps_while hp ht hb) fun D σ H ⟨ρ, Z, w, h⟩ => ?_
  have e0 : exS g cl F (.whl ct cb) ρ = whlL (fun ρ => ev g cl true ct ρ) (fun ρ => exSs g cl F cb ρ) F ρ := rfl
  rw [e0] at h
  refine ⟨fun m σ' H' => ∃ ρ' Z', Wd n ρ' σ' H' Z' ∧ TSok n W L (whlL (fun ρ => ev g cl true ct ρ) (fun ρ => exSs g cl F cb ρ) m ρ') D ρ' σ' H' Z', ⟨F, ρ, Z, w, h⟩, ?_⟩
  rintro m σ1 H1 ⟨ρ1, Z1, w1, h1⟩
  cases m with
  | zero => exact absurd rfl h1.no
  | succ k =>
    rw [whlL_succ] at h1
    refine tT.goS w1 .refl h1 fun a ρ2 H2 Z2 e2 w2 b2 _ h2 => ?_
    have hno := h2.no
    split at hno
    · refine ⟨true, _, rfl, ?_⟩
      rw [if_pos rfl]
      have h3 := h2.later b2 fun _ _ => rfl
      refine ⟨fun σ' H' => ∃ ρ' Z', Wd n ρ' σ' H' Z' ∧ TSok n W L (whlL (fun ρ => ev g cl true ct ρ) (fun ρ => exSs g cl F cb ρ) k ρ') D ρ' σ' H' Z', fun σ' H' q => ⟨k, Nat.lt_succ_self k, q⟩, ρ2, Z2, w2, ?_⟩
      refine ⟨fun z => by rw [z] at hno; exact hno rfl, fun ρ' σ' H' Z' eb w' s' l => ?_, fun ρ' σ' H' Z' eb w' s' l => ?_, fun ρ' σ' H' Z' eb w' s' l => ?_, fun p o ρ' σ' H' Z' v eb w' s' l r => ?_, fun x ρ' σ' H' Z' cls d eb xa w' s' l => ?_⟩
      · rw [eb] at h3
        exact ⟨ρ', Z', w', h3.later s' l⟩
      · rw [eb] at h3
        exact h3.nx ρ' σ' H' Z' rfl w' s' l
      · rw [eb] at h3
        exact ⟨ρ', Z', w', h3.later s' l⟩
      · rw [eb] at h3
        exact h3.rt p o ρ' σ' H' Z' v rfl w' s' l r
      · rw [eb] at h3
        exact h3.ex x ρ' σ' H' Z' cls d rfl xa w' s' l
    · refine ⟨false, _, rfl, ?_⟩
      rw [if_neg (by decide)]
      exact h2.nx ρ2 σ1 H2 Z2 rfl w2 b2 fun _ _ => rfl
    · exact absurd rfl hno
theorem forL_cons {b : PV → Sl → SO} {p : PV} {r : List PV} {ρ : Sl} : forL b (p :: r) ρ = match b p ρ with
      | .nx ρ => forL b r ρ
      | .ct ρ => forL b r ρ
      | .bk ρ => .nx ρ
      | q => q := rfl
def forB (g : G) (cl : FC) (F : Nat) (t : T) (cb : List S) (x : PV) (ρ : Sl) : SO := match bindT t x ρ with
    | some ρ => exSs g cl F cb ρ
    | none => .no
theorem ps_efor {it : Ev.It} (hp : PassesOwn (model X.prog X.w) X.A X.env X.xe) (hc : X.calm = true) (hi : PI X tg iter (tI n W (evI g cl it))) (hg : PG X tg (tG n t)) (hL : ∀ j ∈ tslots t, j ∉ L) (hb : PSs X body (tS n W L (exSs g cl F cb))) (hs : notSet iter = true) :
    PS X (.For tg iter body [] pos) (tS n W L (exS g cl F (.for_ t it cb))) := by
  refine PS.imp (ps_for hp hc hi hg hb (foldOk hs _)) fun D σ H ⟨ρ, Z, w, h⟩ => ?_
  have e0 : exS g cl F (.for_ t it cb) ρ = (evI g cl it ρ).so fun xs ρ => forL (forB g cl F t cb) xs ρ := rfl
  rw [e0] at h
  refine ⟨ρ, Z, w, so_no h.no, h.hx', fun l ρ1 H1 Z1 J e1 w1 b1 itok => ?_⟩
  rw [so_ok e1] at h
  have h := h.later b1 fun _ _ => rfl
  refine ⟨fun i m σ' H' => m = l.length - i ∧ i ≤ l.length ∧ ∃ ρ' Z', Wd n ρ' σ' H' Z' ∧ (∀ a, Z1 a → Z' a) ∧ (∀ a, Z1 a → H' a = H1 a) ∧ TSok n W L (forL (forB g cl F t cb) (l.drop i) ρ') D ρ' σ' H' Z', ⟨l.length, by simp, Nat.zero_le _, ρ1, Z1, w1, fun _ z => z, fun _ _ => rfl, by rw [List.drop_zero]; exact h⟩, ?_⟩
  rintro i m σ2 H2 ⟨rfl, hi, ρ2, Z2, w2, m2, hh2, h2⟩
  obtain ⟨stop, item⟩ := itok ρ2 σ2 H2 Z2 w2 m2 hh2
  by_cases hlt : i < l.length
  · refine .inr ?_
    obtain ⟨p, hp⟩ : ∃ p, l[i]? = some p := ⟨l[i], List.getElem?_eq_getElem hlt⟩
    obtain ⟨go, yld⟩ := item i p hp
    have ed : l.drop i = p :: l.drop (i + 1) := by
      rw [List.drop_eq_getElem_cons hlt]
      rw [List.getElem?_eq_getElem hlt] at hp
      cases hp; rfl
    rw [ed, forL_cons] at h2
    refine ⟨go, fun σ' H' => i + 1 ≤ l.length ∧ ∃ ρ' Z', Wd n ρ' σ' H' Z' ∧ (∀ a, Z1 a → Z' a) ∧ (∀ a, Z1 a → H' a = H1 a) ∧ TSok n W L (forL (forB g cl F t cb) (l.drop (i + 1)) ρ') D ρ' σ' H' Z', fun σ' H' q => ⟨l.length - (i + 1), by omega, rfl, q⟩, fun x H3 hy => ?_⟩
    obtain ⟨Z3, w3, s3, rv3⟩ := yld x H3 hy
    unfold forB at h2
    cases eb : bindT t p ρ2 with
    | none => rw [eb] at h2; exact absurd rfl h2.no
    | some ρ4 =>
      rw [eb] at h2
      refine ⟨ρ2, Z3, p, ρ4, w3, rv3, eb, fun σ4 w4 s4 sm => ⟨ρ4, Z3, w4, ?_⟩⟩
      have lk4 : Lk L σ2 σ4 := fun j hj => sm.2 j fun z => hL j z hj
      have h4 := h2.later (s3.trans s4) lk4
      have m4 : ∀ a, Z1 a → Z3 a := fun a z => s3.mono a (m2 a z)
      have hh4 : ∀ a, Z1 a → H3 a = H1 a := fun a z => (w2.zstay s3 a (m2 a z)).trans (hh2 a z)
      refine ⟨fun z => by dsimp only at h4; rw [z] at h4; exact h4.no rfl, fun ρ' σ' H' Z' eb w' s' l => ?_, fun ρ' σ' H' Z' eb w' s' l => ?_, fun ρ' σ' H' Z' eb w' s' l => ?_, fun p o ρ' σ' H' Z' v eb w' s' l r => ?_, fun x ρ' σ' H' Z' cls d eb xa w' s' l => ?_⟩
      · dsimp only at h4
        rw [eb] at h4
        exact ⟨hlt, ρ', Z', w', fun a z => s'.mono a (m4 a z), fun a z => (w4.zstay s' a (m4 a z)).trans (hh4 a z), h4.later s' l⟩
      · dsimp only at h4
        rw [eb] at h4
        exact h4.nx ρ' σ' H' Z' rfl w' s' l
      · dsimp only at h4
        rw [eb] at h4
        exact ⟨hlt, ρ', Z', w', fun a z => s'.mono a (m4 a z), fun a z => (w4.zstay s' a (m4 a z)).trans (hh4 a z), h4.later s' l⟩
      · dsimp only at h4
        rw [eb] at h4
        exact h4.rt p o ρ' σ' H' Z' v rfl w' s' l r
      · dsimp only at h4
        rw [eb] at h4
        exact h4.ex x ρ' σ' H' Z' cls d rfl xa w' s' l
  · refine .inl ⟨stop i (by omega), ?_⟩
    have ed : l.drop i = [] := List.drop_eq_nil_of_le (by omega)
    rw [ed] at h2
    exact h2.nx ρ2 σ2 H2 Z2 rfl w2 .refl fun _ _ => rfl
/-! ### what the frame owns is changed -/
theorem own_at {ρ : Sl} {σ : SG} {H : Hp} {Z : Addr → Prop} {p : PV} (w : Wd n ρ σ H Z) (h : sget ρ i = some (p, true)) : ∃ a, σ[i]? = some (some (.ref a)) ∧ ¬ Z a ∧ OV n H Z p a := w.own i p h
theorem RFs_put {H : Hp} {Z : Addr → Prop} (hi : ∀ i j, n.fN i = n.fN j → i = j) {f : Nat} {p : PV} {v : V} (rv : RV n H Z p v) : ∀ {fs : List (Nat × PV)} {fv : List (Str × V)}, RFs n H Z fs fv → RFs n H Z (dputF f p fs) (putF (n.fN f) v fv)
  | [], _, .nil => .cons rv .nil
  | (j, q) :: fs, _, .cons (v := u) (vs := us) r1 r2 => by
    show RFs n H Z (if j = f then (j, p) :: fs else (j, q) :: dputF f p fs) (if n.fN j = n.fN f then (n.fN j, v) :: us else (n.fN j, u) :: putF (n.fN f) v us)
    by_cases c : j = f
    · subst c
      rw [if_pos rfl, if_pos rfl]
      exact .cons rv r2
    · rw [if_neg c, if_neg fun z => c (hi _ _ z)]
      exact .cons r1 (RFs_put hi rv r2)
theorem RFs_len {H : Hp} {Z : Addr → Prop} : ∀ {fs : List (Nat × PV)} {fv : List (Str × V)}, RFs n H Z fs fv → fv.length = fs.length
  | [], _, .nil => rfl
  | _ :: _, _, .cons _ r => by rw [List.length_cons, List.length_cons, RFs_len r]
/-- self.f = e -/
theorem ps_esetF {f : Nat} {fs0 xs0 : Str} (hf : n.fN f = fs0) (hi : ∀ i j, n.fN i = n.fN j → i = j) (hK : n.K = X.K) (hc : ∀ c, g.fok c f = true → Cls n.K (n.cA c) ∧ NoAttr n.K (n.cA c) fs0) (hN : X.N[i]? = some xs0) (hv : Vis X.env.scope xs0) (hd : (xs0 == ("__debug__" : Str)) = false) (hcd : (xs0 == ("__classdict__" : Str)) = false)
    (he : PE X e (tE n W (ev g cl false c))) (hs : notComp e = true) : PS X (.Assign [.Attribute (.Name xs0 pos') fs0 p2] e pos) (tS n W L (exS g cl F (.setF i f c))) := by
  refine PS.imp (ps_fld (pe_var (pos := pos') hN hv hd hcd) he (swaps_no hs)) fun D σ H ⟨ρ, Z, w, h⟩ => ?_
  have e0 : exS g cl F (.setF i f c) ρ = (ev g cl false c ρ).so fun a ρ => (use a ρ).so fun p ρ => (match sget ρ i with
    | some (.ins c fs, true) => if g.fok c f && decide (fs.length < 900) then .nx (sput ρ i (some (.ins c (dputF f p.1 fs), true))) else .no
    | _ => .no) := rfl
  rw [e0] at h
  refine tE.goS w .refl h fun a ρ1 v H1 Z1 e1 w1 b1 _ ar h1 => ?_
  obtain ⟨⟨p, o⟩, ρ2, eu⟩ := use_so h1.no
  rw [so_ok eu] at h1
  obtain ⟨Z2, w2, b2, rv⟩ := use_settled w1 b1 ar eu
  have hno := h1.no
  split at hno
  · rename_i cc fs eg
    rw [eg] at h1
    dsimp only at h1
    cases ec : (g.fok cc f && decide (fs.length < 900)) with
    | false => rw [ec] at hno; exact absurd rfl hno
    | true =>
      rw [ec] at h1
      rw [Bool.and_eq_true, decide_eq_true_eq] at ec
      obtain ⟨ad, sa, nz, ov⟩ := own_at w2 eg
      cases ov with
      | @ins _ _ dx fv _ ea rf =>
        obtain ⟨c1, c2⟩ := hc cc ec.1
        have nzx : ∀ a, Z2 a → upd H1 ad (.ins (n.cA cc) dx (putF fs0 v fv)) a = H1 a := fun a z => upd_ne fun q => nz (q ▸ z)
        have rf2 : RFs n (upd H1 ad (.ins (n.cA cc) dx (putF fs0 v fv))) Z2 (dputF f p fs) (putF fs0 v fv) := by
          have := (RFs_put hi (f := f) rv rf).mono (H' := upd H1 ad (.ins (n.cA cc) dx (putF fs0 v fv))) (fun _ z => z) nzx
          rw [hf] at this
          exact this
        obtain ⟨w3, s3, _⟩ := w2.change b2 eg sa (o := .ins (n.cA cc) dx (putF fs0 v fv)) (q := .ins cc (dputF f p fs)) (.ins upd_same rf2)
        exact ⟨.ref ad, sa, ad, _, dx, fv, rfl, ea, hK ▸ c1, hK ▸ c2, by rw [RFs_len rf]; omega, h1.nx _ σ _ Z2 rfl w3 s3 fun _ _ => rfl⟩
  · exact absurd rfl hno
/-- xs.append(e) -/
theorem pe_eappend {xs0 : Str} {apos : Pos} {ce : E} (hK : n.K = X.K) (hN : X.N[i]? = some xs0) (hv : Vis X.env.scope xs0) (hd : (xs0 == ("__debug__" : Str)) = false) (hcd : (xs0 == ("__classdict__" : Str)) = false) (he : PE X e (tE n W (ev g cl false ce))) (hs : notStar e = true) (hline : (apos.endLine == pos.line) = true) :
    PE X (.Call (.Attribute (.Name xs0 pos') "append" apos) [e] [] pos) (tE n W (ev g cl false (.bm i .append [ce]))) := by
  have ha : PA X [e] (tCons (tE n W (ev g cl false ce)) tNil) := pa_cons he pa_nil (starEach_cons hs)
  refine PE.imp (pe_bm (T := "list") PySem.F.plainAttrs_list PySem.F.slot_list_append PySem.F.type_list_append (r := rAppend) mt_append (pe_var (pos := pos') hN hv hd hcd) ha rfl (by rw [starEach_cons hs]; rfl) hline (starEach_cons hs) rfl) fun σ H Q ⟨ρ, Z, w, hno, hx, k⟩ => ?_
  have e0 : ev g cl false (.bm i .append [ce]) ρ = (match sget ρ i with
    | some (.lst _, true) => (evs g cl [ce] ρ).bd fun as ρ => match vals as (frzA [] as ρ) with
      | some vs => bmO i .append vs (frzA [] as ρ)
      | none => .no
    | _ => .no) := rfl
  rw [e0] at hno hx k
  split at hno
  · rename_i l0 eg0
    rw [eg0] at hx k
    dsimp only at hx k
    obtain ⟨ad, sa, _, ov0⟩ := own_at w eg0
    rw [evs1] at hno hx k
    refine ⟨.ref ad, sa, .inl ⟨rfl, ?_⟩, ?_⟩
    · cases ov0 with
      | lst ea _ => exact ⟨_, .inl (.of ea)⟩
    · show tE n W (ev g cl false ce) σ H fun x H1 => rAppend (.ref ad) [x] H1 Q
      refine tE.go w .refl (bd_no hno) hx.bd fun x ρ1 v H1 Z1 e1 w1 b1 _ ar => ?_
      rw [bd_ok e1] at hno hx k
      obtain ⟨ps, evs'⟩ := vals_some hno
      obtain ⟨Z2, w2, s2, ai, _, _, _, _, _⟩ := callIn (io := []) (is := []) w1 b1 (as := [x]) (vs := [v]) ⟨ar, trivial⟩ rfl evs' List.nodup_nil rfl
      rw [evs'] at hno k
      obtain ⟨vl, _⟩ := vals_get evs'
      match ps, vl, ai with
      | [p], _, ai =>
        have rv : RV n H1 Z2 p v := ai.1
        have hno : bmO i .append [p] (frzA [] [x] ρ1) ≠ .no := hno
        have k : ∀ a ρ' v H' Z', bmO i .append [p] (frzA [] [x] ρ1) = .ok a ρ' → Wd n ρ' σ H' Z' → Stp ρ σ H Z ρ' σ H' Z' → AR n H ρ' σ H' Z' a v → Q v H' := k
        unfold bmO at hno k
        split at hno
        · rename_i l eg
          rw [eg] at k
          dsimp only at hno k
          by_cases c : l.length < 16777216
          · rw [if_pos c] at k
            obtain ⟨a2, sa2, nz, ov⟩ := own_at w2 eg
            rw [sa] at sa2; cases sa2
            cases ov with
            | @lst _ xs _ ea ra =>
              have nzx : ∀ a, Z2 a → upd H1 ad (.lst (xs ++ [v])) a = H1 a := fun a z => upd_ne fun q => nz (q ▸ z)
              obtain ⟨w3, s3, _⟩ := w2.change s2 eg sa (o := .lst (xs ++ [v])) (q := .lst (l ++ [p])) (.lst upd_same ((ra.append (.cons rv .nil)).mono (fun _ z => z) nzx))
              exact ⟨ad, xs, v, rfl, rfl, ea, by rw [ra.len, SZ]; exact c, k _ _ .non _ Z2 rfl w3 s3 .non⟩
          · rw [if_neg c] at hno; exact absurd rfl hno
        · exact absurd rfl hno
  · exact absurd rfl hno
/-! d[k] = e, xs[i] = e -/
def rSt (n : En) (i : Nat) : V → V → V → Hp → (Hp → Prop) → Prop := fun o k v H Q => ∃ ρ σ Z a pv kp p, o = .ref a ∧ Wd n ρ σ H Z ∧ sget ρ i = some (pv, true) ∧ σ[i]? = some (some (.ref a)) ∧ RV n H Z kp k ∧ RV n H Z p v ∧
  ∃ q, setV pv kp p = some q ∧ ∀ H', Wd n (sput ρ i (some (q, true))) σ H' Z → Stp ρ σ H Z (sput ρ i (some (q, true))) σ H' Z → (∀ b, b ≠ a → H' b = H b) → Q H'
theorem stR (f : Fit X n) : PSet X (rSt n i) := by
  intro pins s τ H o k v ov iv u Q I ro ri rv ⟨ρ, σ, Z, a, pv, kp, p, e, w, eg, sa, rk, rp, q, eq, kk⟩
  subst e
  obtain ⟨a2, sa2, nz, ob⟩ := w.own i pv eg
  rw [sa] at sa2; cases sa2
  have step : ∀ {o' : HO}, OV n (upd H a o') Z q a → Wd n (sput ρ i (some (q, true))) σ (upd H a o') Z ∧ Stp ρ σ H Z (sput ρ i (some (q, true))) σ (upd H a o') Z := fun {o'} h => by
    obtain ⟨w3, s3, _⟩ := w.change .refl eg sa (o := o') h
    exact ⟨w3, s3⟩
  cases pv with
  | lst l =>
    cases kp with
    | int z =>
      have eq : (ixN l.length z).map (fun j => PV.lst (l.set j p)) = some q := eq
      cases ej : ixN l.length z with
      | none => rw [ej] at eq; cases eq
      | some j =>
        rw [ej] at eq
        cases eq
        cases ob with
        | @lst _ xs _ ea ra =>
          cases rk
          have nzx : ∀ b, Z b → upd H a (.lst (xs.set j v)) b = H b := fun b z => upd_ne fun q => nz (q ▸ z)
          obtain ⟨w3, s3⟩ := step (o' := .lst (xs.set j v)) (.lst upd_same ((ra.set rp j).mono (fun _ z => z) nzx))
          exact set_list pins s τ H (.ref a) (.int z) v ov iv u Q I ro ri rv ⟨a, xs, z, j, rfl, rfl, ea, by rw [ra.len]; exact ej, kk _ w3 s3 fun b hb => upd_ne hb⟩
    | _ => cases eq
  | dct d =>
    have eq : (if hashy kp && decide (d.length < 16777216) then some (PV.dct (dput kp p d)) else none) = some q := eq
    cases ec : (hashy kp && decide (d.length < 16777216)) with
    | false => rw [ec] at eq; cases eq
    | true =>
      rw [ec] at eq
      rw [Bool.and_eq_true, decide_eq_true_eq] at ec
      cases eq
      obtain ⟨b, rfl⟩ := hashy_ref rk ec.1
      cases ob with
      | @dct _ o' xs _ ea ra =>
        obtain rfl : ov = Value.ref a := ro
        obtain rfl : iv = Value.ref b := ri
        refine d_set f I ea ra ec.1 rk rp rv (by rw [SZ]; exact ec.2) fun o2 s' I' => ?_
        have nd := (dct_at f I ea ra).2.2
        have nzx : ∀ c, Z c → upd H a (DO n o2 a (storedH xs (toK kp) b u)) c = H c := fun c z => upd_ne fun q => nz (q ▸ z)
        obtain ⟨w3, s3⟩ := step (o' := DO n o2 a (storedH xs (toK kp) b u)) (.dct upd_same ((ra.put nd ec.1 rk rp rv).mono (fun _ z => z) nzx))
        exact ⟨_, I', kk _ w3 s3 fun b hb => upd_ne hb⟩
  | _ => cases eq
theorem swapsS {a b e : Expr} {p : Pos} {l : Nat} {env : Env} : swapsWithSole [.Subscript a b p] e l env = pure false := by
  cases e <;> rfl
theorem swapN {a b e : Expr} {p : Pos} {env : Env} : swappedStores [.Subscript a b p] e env = pure none := by
  cases e <;> rfl
theorem ps_esetS {xs0 : Str} (f : Fit X n) (hN : X.N[i]? = some xs0) (hv : Vis X.env.scope xs0) (hd : (xs0 == ("__debug__" : Str)) = false) (hcd : (xs0 == ("__classdict__" : Str)) = false) (he : PE X e (tE n W (ev g cl false c))) (hi : PE X ix (tE n W (ev g cl false ci))) (hs : notSlice ix = true) :
    PS X (.Assign [.Subscript (.Name xs0 pos') ix p2] e pos) (tS n W L (exS g cl F (.setS i ci c))) := by
  refine PS.imp (ps_asg he (pg_sub (pe_var (pos := pos') hN hv hd hcd) hi (stR (i := i) f) (by intro v; cases ix <;> first | rfl | cases hs)) swapsS swapN rfl) fun D σ H ⟨ρ, Z, w, h⟩ => ?_
  have e0 : exS g cl F (.setS i ci c) ρ = (match sget ρ i with
    | some (_, true) => (ev g cl false c ρ).so fun a ρ => (use a ρ).so fun p ρ => (ev g cl false ci ρ).so fun k ρ => (use k ρ).so fun k ρ => (match sget ρ i with
      | some (pv, true) => (match setV pv k.1 p.1 with
        | some q => .nx (sput ρ i (some (q, true)))
        | none => .no)
      | _ => .no)
    | _ => .no) := rfl
  rw [e0] at h
  cases eg0 : sget ρ i with
  | none => rw [eg0] at h; exact absurd rfl h.no
  | some y0 =>
    obtain ⟨pv0, o0⟩ := y0
    cases o0 with
    | false => rw [eg0] at h; exact absurd rfl h.no
    | true =>
      rw [eg0] at h
      dsimp only at h
      obtain ⟨ad, sa, _, _⟩ := own_at w eg0
      refine tE.goS w .refl h fun a ρ1 v H1 Z1 e1 w1 b1 _ ar h1 => ?_
      obtain ⟨⟨p, o⟩, ρ2, eu⟩ := use_so h1.no
      rw [so_ok eu] at h1
      obtain ⟨Z2, w2, b2, rv⟩ := use_settled w1 b1 ar eu
      refine ⟨.ref ad, sa, ?_⟩
      refine tE.goS w2 b2 h1 fun k ρ3 kv H3 Z3 e3 w3 b3 s3 kr h3 => ?_
      obtain ⟨⟨kp, ko⟩, ρ4, eu2⟩ := use_so h3.no
      rw [so_ok eu2] at h3
      obtain ⟨Z4, w4, b4, s4, vr4⟩ := use_fin w3 b3 kr eu2
      obtain ⟨Z5, w5, b5, m5, rk⟩ := vr4.settle w4 b4
      have rv5 : RV n H3 Z5 p v := ((rv.step w2 s3).step w3 s4).mono m5 fun _ _ => rfl
      cases eg : sget ρ4 i with
      | none => rw [eg] at h3; exact absurd rfl h3.no
      | some y =>
        obtain ⟨pv, oo⟩ := y
        cases oo with
        | false => rw [eg] at h3; exact absurd rfl h3.no
        | true =>
          rw [eg] at h3
          dsimp only at h3
          cases eq : setV pv kp p with
          | none => rw [eq] at h3; exact absurd rfl h3.no
          | some q =>
            rw [eq] at h3
            exact ⟨ρ4, σ, Z5, ad, pv, kp, p, rfl, w5, eg, sa, rk, rv5, q, eq, fun H' w6 s6 _ => h3.nx _ σ H' Z5 rfl w6 (b5.trans s6) fun _ _ => rfl⟩
end
end Ev

set_option Elab.async false
set_option linter.all false
set_option maxRecDepth 100000
/-! The evaluator is sound: augmented stores. -/
namespace Ev
open PySem PySem.Spec PyProof.Rows L2

theorem get_list {X : Cx} {pins : List (Addr × Obj)} {s : Shared} {σ : SG} {H : Hp} {p : Addr} {xs : List V} {i : Int} {z : V} {t : Tok} {Q : VK} (I : Inv X pins σ H s) (hq : H p = some (.lst xs)) (he : atI xs i = some z) (q : Q z H) :
    wpAny (model X.prog X.w) X.A (getItem (.ref p) (.int i t)) (EP X pins σ Q) X.xe s := by
  obtain ⟨its, r, pl, hz⟩ := I.list (.inl (.of hq))
  obtain ⟨j, h1, h2, h3, h4, h5⟩ := atI_get he
  obtain ⟨w, ew, rw'⟩ := r.get h2
  have hl := r.length
  have hn := line63
  have fin : EP X pins σ Q w s := ⟨z, H, I, rw', q⟩
  by_cases h0 : 0 ≤ i
  · have hj : i.toNat = j := by
      rw [seqIndex_of h0 h5] at h1
      exact Option.some.inj h1
    exact wpAny_getItem_list pl.isList h0 (by omega) (by rw [hj]; simpa using ew) fin
  · have hj : (i + (its.toArray.size : Int)).toNat = j := by
      rw [seqIndex_neg (by omega) h4] at h1
      rw [List.size_toArray, ← hl]
      exact Option.some.inj h1
    exact wpAny_getItem_list_neg pl.isList (by omega) (by rw [List.size_toArray] <;> omega) (by omega) (by rw [hj]; simpa using ew) fin
section
variable {X : Cx} {n : En} {W : WX} {L : List Nat} {g : G} {cl : FC} {F : Nat} {e o ix : Expr} {c ci : E} {pos pos' p2 : Pos} {i : Nat} {x : Str}
def rGt (n : En) (i : Nat) : V → V → Hp → VK → Prop := fun o k H Q => ∃ ρ σ Z a pv kp x, o = .ref a ∧ Wd n ρ σ H Z ∧ sget ρ i = some (pv, true) ∧ σ[i]? = some (some (.ref a)) ∧ RV n H Z kp k ∧ getV pv kp = some x ∧ ∀ v, RV n H Z x v → Q v H
theorem gtR (f : Fit X n) : PGet X (rGt n i) := by
  intro pins s τ H o k ov iv Q I ro ri ⟨ρ, σ, Z, a, pv, kp, x, e, w, eg, sa, rk, ex, kk⟩
  subst e
  obtain ⟨a2, sa2, nz, ob⟩ := w.own i pv eg
  rw [sa] at sa2; cases sa2
  obtain rfl : ov = Value.ref a := ro
  cases pv with
  | lst l =>
    cases kp with
    | int z =>
      have ex : atI l z = some x := ex
      cases ob with
      | @lst _ xs _ ea ra =>
        cases rk
        obtain ⟨t, rfl⟩ := ri
        obtain ⟨v, e3, rv⟩ := atI_RVs ra ex
        exact get_list I ea e3 (kk v rv)
    | _ => cases ex
  | dct d =>
    have ex : (if hashy kp then dlook kp d else none) = some x := ex
    by_cases hk : hashy kp = true
    · rw [if_pos hk] at ex
      obtain ⟨b, rfl⟩ := hashy_ref rk hk
      cases ob with
      | @dct _ o' xs _ ea ra =>
        obtain rfl : iv = Value.ref b := ri
        obtain ⟨dd, hd, _⟩ := dct_at f I ea ra
        rcases ra.look hk with ⟨e1, e2⟩ | ⟨z, c, z', x', e1, e2, rz, rz'⟩
        · rw [e1] at ex; cases ex
        · rw [e1] at ex; cases ex
          exact wpAny_getItem_heap f.room (key_at f I rk hk) dd e2 ⟨x', H, I.tok _, rz, kk x' rz'⟩
    · rw [if_neg hk] at ex; cases ex
  | _ => cases ex
def onZ (f : Int → Int → Int) (pr : Pr) : Prop := ∀ a b r o, prim pr [a, b] = some (.int r, o) → (∃ i, a = .int i) → ∃ i j, a = .int i ∧ b = .int j ∧ r = f i j
theorem onZ_add : onZ (fun i j => i + j) .add := by
  intro a b r o h ⟨i, e⟩
  subst e
  cases b with
  | int j => cases h; exact ⟨i, j, rfl, rfl, rfl⟩
  | _ => cases h
theorem onZ_sub : onZ (fun i j => i - j) .sub := by
  intro a b r o h ⟨i, e⟩
  subst e
  cases b with
  | int j => cases h; exact ⟨i, j, rfl, rfl, rfl⟩
  | _ => cases h
theorem ps_eaug {op : Operator} {pr : Pr} {f : Int → Int → Int} (hp : PIp X op (ipI f)) (hf : onZ f pr) (hN : X.N.Nodup) (hi : X.N[i]? = some x) (hx : Loc X.env.scope x) (hfn : X.fn x = true ∨ X.env.scope.names.lookup x = some .local) (hL : i ∉ L) (he : PE X e (tE n W (ev g cl false c))) :
    PS X (.AugAssign (.Name x pos') op e pos) (tS n W L (exS g cl F (.aug i pr c))) := by
  refine PS.imp (ps_aug hN hi hx he hp hfn) fun D σ H ⟨ρ, Z, w, h⟩ => ?_
  have e0 : exS g cl F (.aug i pr c) ρ = (match sget ρ i with
    | some (.int v, _) => (ev g cl false c ρ).so fun a ρ => (match val a ρ with
      | some q => (match prim pr [.int v, q] with
        | some (.int r, _) => if i < ρ.length then .nx (sput ρ i (some (.int r, false))) else .no
        | _ => .no)
      | none => .no)
    | _ => .no) := rfl
  rw [e0] at h
  cases eg : sget ρ i with
  | none => rw [eg] at h; exact absurd rfl h.no
  | some y =>
    obtain ⟨pv, o⟩ := y
    obtain ⟨v0, s0, r0⟩ := w.slot eg
    rw [eg] at h
    cases pv with
    | int v =>
      dsimp only at h
      refine ⟨v0, s0, tE.goS w .refl h fun a ρ1 y H1 Z1 e1 w1 b1 _ ar h1 => ?_⟩
      cases ev' : val a ρ1 with
      | none => rw [ev'] at h1; exact absurd rfl h1.no
      | some q =>
        have rd := ar.val w1 ev'
        rw [ev'] at h1
        dsimp only at h1
        cases ep : prim pr [.int v, q] with
        | none => rw [ep] at h1; exact absurd rfl h1.no
        | some ro =>
          obtain ⟨rr, oo⟩ := ro
          rw [ep] at h1
          cases rr with
          | int r =>
            obtain ⟨i1, j1, e3, e4, e5⟩ := hf _ _ _ _ ep ⟨v, rfl⟩
            cases e3
            subst e4 e5
            dsimp only at h1
            by_cases hl : i < ρ1.length
            · rw [if_pos hl] at h1
              obtain ⟨w2, s2⟩ := w1.store b1 hl (p := .int (f v j1)) (o := false) (v := .int (f v j1)) (.int _)
              exact ⟨v, j1, r0.int, rd.int, h1.nx _ _ H1 Z1 rfl w2 s2 fun m hm => List.getElem?_set_ne fun z : i = m => hL (z ▸ hm)⟩
            · rw [if_neg hl] at h1; exact absurd rfl h1.no
          | _ => exact absurd rfl h1.no
    | _ => exact absurd rfl h.no
theorem ps_eaugS {op : Operator} {pr : Pr} {f : Int → Int → Int} (ft : Fit X n) (hp : PIp X op (ipI f)) (hf : onZ f pr) (hp0 : ∀ a b r o, prim pr [a, b] = some (.int r, o) → ∃ i, a = .int i) (hN : X.N[i]? = some x) (hv : Vis X.env.scope x) (hd : (x == ("__debug__" : Str)) = false) (hcd : (x == ("__classdict__" : Str)) = false)
    (hi : PE X ix (tE n W (ev g cl false ci))) (he : PE X e (tE n W (ev g cl false c))) (hs : notSlice ix = true) :
    PS X (.AugAssign (.Subscript (.Name x pos') ix p2) op e pos) (tS n W L (exS g cl F (.augS i ci pr c))) := by
  refine PS.imp (ps_augS (pe_var (pos := pos') hN hv hd hcd) hi (gtR (i := i) ft) he hp (stR (i := i) ft) (by intro a b c; cases ix <;> first | rfl | cases hs)) fun D σ H ⟨ρ, Z, w, h⟩ => ?_
  have e0 : exS g cl F (.augS i ci pr c) ρ = (match sget ρ i with
    | some (_, true) => (ev g cl false ci ρ).so fun k ρ => (use k ρ).so fun k ρ => (match sget ρ i with
      | some (pv, true) => (match getV pv k.1 with
        | some x => (ev g cl false c ρ).so fun a ρ => (match val a ρ, sget ρ i with
          | some q, some (pv, true) => (match prim pr [x, q] with
            | some (.int r, _) => (match setV pv k.1 (.int r) with
              | some q => .nx (sput ρ i (some (q, true)))
              | none => .no)
            | _ => .no)
          | _, _ => .no)
        | none => .no)
      | _ => .no)
    | _ => .no) := rfl
  rw [e0] at h
  cases eg0 : sget ρ i with
  | none => rw [eg0] at h; exact absurd rfl h.no
  | some y0 =>
    obtain ⟨pv0, o0⟩ := y0
    cases o0 with
    | false => rw [eg0] at h; exact absurd rfl h.no
    | true =>
      rw [eg0] at h
      dsimp only at h
      obtain ⟨ad, sa, _, _⟩ := own_at w eg0
      refine ⟨.ref ad, sa, ?_⟩
      refine tE.goS w .refl h fun k ρ3 kv H3 Z3 e3 w3 b3 s3 kr h3 => ?_
      obtain ⟨⟨kp, ko⟩, ρ4, eu2⟩ := use_so h3.no
      rw [so_ok eu2] at h3
      obtain ⟨Z4, w4, b4, rk⟩ := use_settled w3 b3 kr eu2
      cases eg : sget ρ4 i with
      | none => rw [eg] at h3; exact absurd rfl h3.no
      | some y =>
        obtain ⟨pv, oo⟩ := y
        cases oo with
        | false => rw [eg] at h3; exact absurd rfl h3.no
        | true =>
          rw [eg] at h3
          dsimp only at h3
          cases eq : getV pv kp with
          | none => rw [eq] at h3; exact absurd rfl h3.no
          | some xx =>
            rw [eq] at h3
            dsimp only at h3
            refine ⟨ρ4, σ, Z4, ad, pv, kp, xx, rfl, w4, eg, sa, rk, eq, fun xv rx => ?_⟩
            refine tE.goS w4 b4 h3 fun a ρ5 y H5 Z5 e5 w5 b5 s5 ar h5 => ?_
            have rk5 := rk.step w4 s5
            have rx5 := rx.step w4 s5
            cases ev' : val a ρ5 with
            | none => rw [ev'] at h5; exact absurd rfl h5.no
            | some q =>
              have rd := ar.val w5 ev'
              cases eg5 : sget ρ5 i with
              | none => rw [ev', eg5] at h5; exact absurd rfl h5.no
              | some y5 =>
                obtain ⟨pv5, o5⟩ := y5
                cases o5 with
                | false => rw [ev', eg5] at h5; exact absurd rfl h5.no
                | true =>
                  rw [ev', eg5] at h5
                  dsimp only at h5
                  cases ep : prim pr [xx, q] with
                  | none => rw [ep] at h5; exact absurd rfl h5.no
                  | some ro =>
                    obtain ⟨rr, oo⟩ := ro
                    rw [ep] at h5
                    cases rr with
                    | int r =>
                      dsimp only at h5
                      obtain ⟨i1, j1, g3, g4, g5⟩ := hf _ _ _ _ ep (hp0 _ _ _ _ ep)
                      subst g3 g4 g5
                      cases es : setV pv5 kp (.int (f i1 j1)) with
                      | none => rw [es] at h5; exact absurd rfl h5.no
                      | some qq =>
                        rw [es] at h5
                        refine ⟨i1, j1, (RD.int (.inl rx5)), rd.int, ?_⟩
                        exact ⟨ρ5, σ, Z5, ad, pv5, kp, .int (f i1 j1), rfl, w5, eg5, sa, rk5, .int _, qq, es, fun H' w6 s6 _ => h5.nx _ σ H' Z5 rfl w6 (b5.trans s6) fun _ _ => rfl⟩
                    | _ => exact absurd rfl h5.no
theorem int_add : ∀ a b r o, prim .add [a, b] = some (.int r, o) → ∃ i, a = .int i := by
  intro a b r o h
  have h : addV a b = some (.int r, o) := h
  unfold addV at h
  split at h
  · exact ⟨_, rfl⟩
  · split at h <;> cases h
  · split at h <;> cases h
  · split at h <;> cases h
  · cases h
end
end Ev

set_option Elab.async false
set_option linter.all false
set_option maxRecDepth 100000
/-! The evaluator is sound: a def keeps its promise. -/
namespace Ev
open PySem PySem.Spec PyProof.Rows L2

theorem begS_get : ∀ {io : List Bool} {ps : List PV} {k i : Nat}, sget (begS io ps ++ List.replicate k none) i = (ps[i]?).map fun p => (p, (io[i]?).getD false)
  | io, [], k, i => by
    show (([] ++ List.replicate k none : Sl)[i]?).join = _
    rw [List.nil_append, List.getElem?_replicate]
    by_cases c : i < k
    · rw [if_pos c]; rfl
    · rw [if_neg c]; rfl
  | io, p :: ps, k, 0 => by
    show some (p, io.headD false) = _
    cases io <;> rfl
  | io, p :: ps, k, i + 1 => by
    have h := begS_get (io := io.tail) (ps := ps) (k := k) (i := i)
    have e : sget (begS io (p :: ps) ++ List.replicate k none) (i + 1) = sget (begS io.tail ps ++ List.replicate k none) i := rfl
    rw [e, h]
    cases io with
    | nil => simp
    | cons b io => simp
theorem begS_len : ∀ {io : List Bool} {ps : List PV}, (begS io ps).length = ps.length
  | _, [] => rfl
  | io, p :: ps => by
    show (begS io.tail ps).length + 1 = _
    rw [begS_len]; rfl
theorem start_get {N : List Str} {vs : List V} {i : Nat} {v : V} (h : vs[i]? = some v) : (L2.start N vs)[i]? = some (some v) := by
  unfold L2.start
  have hl : i < vs.length := (List.getElem?_eq_some_iff.mp h).1
  rw [List.getElem?_append_left (by simpa using hl), List.getElem?_map, h]
  rfl
section
variable {n : En} {H : Hp} {Z : Addr → Prop} {N : List Str}
theorem ArgIn.at : ∀ {io : List Bool} {ps : List PV} {vs : List V}, ArgIn n H Z io ps vs → ps.length = vs.length ∧ ∀ {i : Nat} {p : PV}, ps[i]? = some p → ∃ v, vs[i]? = some v ∧ if io[i]? = some true then ∃ a, v = .ref a ∧ ¬ Z a ∧ OV n H Z p a else RV n H Z p v
  | io, [], [], _ => ⟨rfl, fun h => by simp at h⟩
  | io, p :: ps, v :: vs, h => by
    obtain ⟨l, k⟩ := ArgIn.at h.2
    refine ⟨by rw [List.length_cons, List.length_cons, l], fun {i p'} e => ?_⟩
    cases i with
    | zero =>
      have e : p = p' := by simpa using e
      subst e
      refine ⟨v, rfl, ?_⟩
      have := h.1
      cases io with
      | nil => simpa using this
      | cons b io => cases b <;> simpa using this
    | succ i =>
      obtain ⟨v', h1, h2⟩ := k (i := i) (p := p') (by simpa using e)
      refine ⟨v', by simpa using h1, ?_⟩
      cases io with
      | nil => simpa using h2
      | cons b io =>
        by_cases c : io[i]? = some true
        · rw [if_pos (show (b :: io).tail[i]? = some true from c)] at h2
          rw [if_pos (show (b :: io)[i + 1]? = some true by simpa using c)]
          exact h2
        · rw [if_neg (show ¬ (b :: io).tail[i]? = some true from c)] at h2
          rw [if_neg (show ¬ (b :: io)[i + 1]? = some true by simpa using c)]
          exact h2
  | io, [], _ :: _, h => by cases io <;> exact h.elim
  | io, _ :: _, [], h => by cases io <;> exact h.elim
theorem Wd.begin {io : List Bool} {ps : List PV} {vs : List V} {k : Nat} (ai : ArgIn n H Z io ps vs) (ij : IoInj io vs) (gz : GZ H Z) (hl : vs.length + k = N.length) : Wd n (begS io ps ++ List.replicate k none) (L2.start N vs) H Z := by
  obtain ⟨hp, ha⟩ := ai.at
  refine ⟨?_, fun i p e => ?_, fun i p e => ?_, fun i j p q a e1 e2 h1 h2 => ?_, gz⟩
  · unfold L2.start
    rw [List.length_append, List.length_append, begS_len, List.length_map, List.length_replicate, List.length_replicate]
    omega
  · rw [begS_get] at e
    cases e1 : ps[i]? with
    | none => rw [e1] at e; cases e
    | some p' =>
      rw [e1] at e
      obtain ⟨v, h1, h2⟩ := ha e1
      have e : some (p', (io[i]?).getD false) = some (p, false) := e
      cases e2 : io[i]? with
      | none =>
        rw [e2] at e; cases e
        rw [e2, if_neg (by simp)] at h2
        exact ⟨v, start_get h1, h2⟩
      | some b =>
        rw [e2] at e
        cases b with
        | true => cases e
        | false =>
          cases e
          rw [e2, if_neg (by simp)] at h2
          exact ⟨v, start_get h1, h2⟩
  · rw [begS_get] at e
    cases e1 : ps[i]? with
    | none => rw [e1] at e; cases e
    | some p' =>
      rw [e1] at e
      obtain ⟨v, h1, h2⟩ := ha e1
      have e : some (p', (io[i]?).getD false) = some (p, true) := e
      cases e2 : io[i]? with
      | none => rw [e2] at e; cases e
      | some b =>
        rw [e2] at e
        cases b with
        | false => cases e
        | true =>
          cases e
          rw [e2, if_pos rfl] at h2
          obtain ⟨a, rfl, z, ov⟩ := h2
          exact ⟨a, start_get h1, z, ov⟩
  · have get : ∀ i p, sget (begS io ps ++ List.replicate k none) i = some (p, true) → (L2.start N vs)[i]? = some (some (.ref a)) → io[i]? = some true ∧ vs[i]? = some (.ref a) := fun i p e h => by
      rw [begS_get] at e
      cases e1 : ps[i]? with
      | none => rw [e1] at e; cases e
      | some p' =>
        rw [e1] at e
        obtain ⟨v, g1, _⟩ := ha e1
        rw [start_get g1] at h
        cases h
        have e : some (p', (io[i]?).getD false) = some (p, true) := e
        cases e2 : io[i]? with
        | none => rw [e2] at e; cases e
        | some b =>
          rw [e2] at e
          cases b with
          | false => cases e
          | true => exact ⟨rfl, g1⟩
    obtain ⟨g1, g2⟩ := get i p e1 h1
    obtain ⟨g3, g4⟩ := get j q e2 h2
    exact ij i j a g1 g3 g2 g4
def ioL (io : List Bool) : List Nat := (List.range io.length).filter fun i => io[i]? == some true
theorem mem_ioL {io : List Bool} {i : Nat} : i ∈ ioL io ↔ io[i]? = some true := by
  unfold ioL
  rw [List.mem_filter, List.mem_range]
  constructor
  · intro ⟨_, h⟩
    simpa using h
  · intro h
    exact ⟨(List.getElem?_eq_some_iff.mp h).1, by simpa using h⟩
theorem outV_ok {ρ : Sl} {σ : SG} {H' : Hp} {Z' : Addr → Prop} (w : Wd n ρ σ H' Z') : ∀ {io : List Bool} {vs : List V} {outs : List PV} {m : Nat}, outV ρ m io = some outs → io.length ≤ vs.length → (∀ i : Nat, io[i]? = some true → ∃ v, vs[i]? = some v ∧ σ[m + i]? = some (some v)) →
    ArgOut n H' Z' io vs outs ∧ ∀ i : Nat, io[i]? = some true → ∃ p, sget ρ (m + i) = some (p, true)
  | [], vs, outs, m, h, _, _ => by
    cases h
    refine ⟨?_, fun i h => by simp at h⟩
    cases vs <;> rfl
  | true :: io, v :: vs, outs, m, h, hl, hs => by
    have h : (match sget ρ m, outV ρ (m + 1) io with | some (p, true), some l => some (p :: l) | _, _ => none) = some outs := h
    split at h
    · rename_i p l e1 e2
      cases h
      obtain ⟨h1, h2⟩ := outV_ok w (vs := vs) e2 (by simpa using hl) fun i hi => by
        obtain ⟨v', g1, g2⟩ := hs (i + 1) (by simpa using hi)
        exact ⟨v', by simpa using g1, by rw [Nat.add_assoc, Nat.add_comm 1 i]; exact g2⟩
      obtain ⟨a, g1, g2, g3⟩ := w.own m p e1
      obtain ⟨v', g4, g5⟩ := hs 0 rfl
      have g4 : some v = some v' := g4
      cases g4
      rw [Nat.add_zero, g1] at g5
      cases g5
      refine ⟨⟨⟨a, rfl, g2, g3⟩, h1⟩, fun i hi => ?_⟩
      cases i with
      | zero => exact ⟨p, e1⟩
      | succ i =>
        obtain ⟨q, g⟩ := h2 i (by simpa using hi)
        exact ⟨q, by rw [← Nat.add_assoc, Nat.add_right_comm]; exact g⟩
    · cases h
  | false :: io, v :: vs, outs, m, h, hl, hs => by
    have h : outV ρ (m + 1) io = some outs := h
    obtain ⟨h1, h2⟩ := outV_ok w (vs := vs) h (by simpa using hl) fun i hi => by
      obtain ⟨v', g1, g2⟩ := hs (i + 1) (by simpa using hi)
      exact ⟨v', by simpa using g1, by rw [Nat.add_assoc, Nat.add_comm 1 i]; exact g2⟩
    refine ⟨h1, fun i hi => ?_⟩
    cases i with
    | zero => simp at hi
    | succ i =>
      obtain ⟨q, g⟩ := h2 i (by simpa using hi)
      exact ⟨q, by rw [← Nat.add_assoc, Nat.add_right_comm]; exact g⟩
  | _ :: _, [], _, _, _, hl, _ => by simp at hl
end
/-- the promise, from the body's reading -/
theorem spEv_run {n : En} {g : G} {cl cl' : FC} {f : Nat} {Fn : Fn} {N : List Str} {body : List S} {F : Nat} {vs : List V} {H : Hp} {Q : VK} {E : XK} (hf : ∀ ps, cl' f ps = if ps.length = Fn.np then endF (g.io f) (exSs g cl F body (begS (g.io f) ps ++ List.replicate (Fn.ns - Fn.np) none)) else .no)
    (hN : N.length = Fn.ns) (hle : Fn.np ≤ Fn.ns) (h : spEv n g cl' f vs H Q E) :
    vs.length = Fn.np ∧ tS n (fun cls d _ H => E cls d H) (ioL (g.io f)) (exSs g cl F body) { nx := fun _ H' => Q .non H', rt := Q } (L2.start N vs) H := by
  obtain ⟨Z, ps, ai, il, ij, gz, hno, hex, hrt⟩ := h
  obtain ⟨hp, ha⟩ := ai.at
  rw [hf ps] at hno hex hrt
  by_cases hl : ps.length = Fn.np
  · rw [if_pos hl] at hno hex hrt
    have hlv : vs.length = Fn.np := by rw [← hp, hl]
    refine ⟨hlv, ?_⟩
    have w := Wd.begin (N := N) (k := Fn.ns - Fn.np) ai ij gz (by omega)
    refine ⟨_, Z, w, ?_⟩
    have own1 : ∀ a, OwnA (begS (g.io f) ps ++ List.replicate (Fn.ns - Fn.np) none) (L2.start N vs) a → IoA (g.io f) vs a := fun a ⟨i, p, e, h⟩ => by
      rw [begS_get] at e
      cases e1 : ps[i]? with
      | none => rw [e1] at e; cases e
      | some p' =>
        rw [e1] at e
        obtain ⟨v, g1, _⟩ := ha e1
        rw [start_get g1] at h
        cases h
        have e : some (p', ((g.io f)[i]?).getD false) = some (p, true) := e
        cases e2 : (g.io f)[i]? with
        | none => rw [e2] at e; cases e
        | some b =>
          rw [e2] at e
          cases b with
          | false => cases e
          | true => exact ⟨i, e2, g1⟩
    generalize begS (g.io f) ps ++ List.replicate (Fn.ns - Fn.np) none = ρ0 at w hno hex hrt own1
    have cst : ∀ {ρ' : Sl} {σ' : SG} {H' : Hp} {Z' : Addr → Prop}, Stp ρ0 (L2.start N vs) H Z ρ' σ' H' Z' → CStp (IoA (g.io f) vs) H Z H' Z' := fun {ρ' σ' H' Z'} s =>
      ⟨s.mono, fun a o e t ne => s.stay a o e t fun q => ne (own1 a q), s.same, fun a z => (s.zin a z).elim .inl fun z => z.elim (fun z => .inr (.inl z)) fun z => .inr (.inr (own1 a z))⟩
    have slots : ∀ {σ' : SG}, Lk (ioL (g.io f)) (L2.start N vs) σ' → ∀ i : Nat, (g.io f)[i]? = some true → ∃ v, vs[i]? = some v ∧ σ'[0 + i]? = some (some v) := fun {σ'} lk i hi => by
      have hlt : i < vs.length := Nat.lt_of_lt_of_le (List.getElem?_eq_some_iff.mp hi).1 il
      have hv : vs[i]? = some vs[i] := List.getElem?_eq_getElem hlt
      exact ⟨_, hv, by rw [Nat.zero_add, lk i (mem_ioL.mpr hi)]; exact start_get hv⟩
    have fin : ∀ {ρ' : Sl} {σ' : SG} {H' : Hp} {Z' : Addr → Prop} {outs : List PV}, Wd n ρ' σ' H' Z' → Lk (ioL (g.io f)) (L2.start N vs) σ' → outV ρ' 0 (g.io f) = some outs → ArgOut n H' Z' (g.io f) vs outs ∧ ∀ a, IoA (g.io f) vs a → OwnA ρ' σ' a := fun {ρ' σ' H' Z' outs} w' lk eo => by
      obtain ⟨h1, h2⟩ := outV_ok w' (vs := vs) eo il (slots lk)
      refine ⟨h1, fun a ⟨i, g1, g2⟩ => ?_⟩
      obtain ⟨p, g3⟩ := h2 i g1
      obtain ⟨v, g4, g5⟩ := slots lk i g1
      rw [g2] at g4; cases g4
      exact ⟨0 + i, p, g3, g5⟩
    refine ⟨fun z => by rw [z] at hno; exact hno rfl, fun ρ' σ' H' Z' e w' s' lk => ?_, fun ρ' σ' H' Z' e => ?_, fun ρ' σ' H' Z' e => ?_, fun p o ρ' σ' H' Z' v e w' s' lk r => ?_, fun x ρ' σ' H' Z' cls d e xa w' s' lk => ?_⟩
    · rw [e] at hno hrt
      cases eo : outV ρ' 0 (g.io f) with
      | none =>
        have : endF (g.io f) (.nx ρ') = .no := by show (match outV ρ' 0 (g.io f) with | some l => _ | none => _) = _; rw [eo]
        exact absurd this hno
      | some outs =>
        have e2 : endF (g.io f) (.nx ρ') = .rt .non false outs := by show (match outV ρ' 0 (g.io f) with | some l => _ | none => _) = _; rw [eo]
        obtain ⟨ao, ow⟩ := fin w' lk eo
        exact hrt _ _ _ e2 .non H' Z' (cst s') (fun a z q => w'.notOwn z (ow a q)) w'.gz .non ao
    · rw [e] at hno; exact absurd rfl hno
    · rw [e] at hno; exact absurd rfl hno
    · rw [e] at hno hrt
      cases eo : outV ρ' 0 (g.io f) with
      | none =>
        have : endF (g.io f) (.rt p o ρ') = .no := by show (match outV ρ' 0 (g.io f) with | some l => _ | none => _) = _; rw [eo]
        exact absurd this hno
      | some outs =>
        have e2 : endF (g.io f) (.rt p o ρ') = .rt p o outs := by show (match outV ρ' 0 (g.io f) with | some l => _ | none => _) = _; rw [eo]
        obtain ⟨ao, ow⟩ := fin w' lk eo
        refine hrt _ _ _ e2 v H' Z' (cst s') (fun a z q => w'.notOwn z (ow a q)) w'.gz ?_ ao
        unfold Res
        unfold RVR at r
        cases o with
        | false => exact r
        | true =>
          rw [if_pos rfl] at r ⊢
          obtain ⟨a, e3, h0, nz, no, ov⟩ := r
          exact ⟨a, e3, h0.elim (fun q => absurd (ow a (own1 a q)) no) fun q => q, nz, ov⟩
    · rw [e] at hex
      exact hex x rfl H' Z' cls d xa (cst s') w'.gz
  · rw [if_neg hl] at hno; exact absurd rfl hno
/-- a def of the module keeps its promise when its body is read -/
theorem fnOk_ev {P : Program} {w : World} {K : PySem.W.Frag} {mg : Str → Option Value} {base : Heap} {N ps : List Str} {k : Nat} {x qual : Str} {params : Arguments} {body : List Stmt} {scope : Scope} {dvs : List V} {kws : List (Str × V)} {fa : Addr} {fd : FuncData} {n : En} {g : G} {cl cl' : FC} {f : Nat} {Fn : Fn} {cb : List S} {F : Nat}
    (FD : FunD K x qual params body scope dvs kws fa fd) (SC : FnScope N ps scope) (hf : ∀ ps, cl' f ps = if ps.length = Fn.np then endF (g.io f) (exSs g cl F cb (begS (g.io f) ps ++ List.replicate (Fn.ns - Fn.np) none)) else .no) (hN : N.length = Fn.ns) (hp : ps.length = Fn.np)
    (hbody : ∀ (X : Cx) (W : WX), X.prog = P → X.w = w → X.K = K → X.mg = mg → X.base = base → X.N = N → X.env.scope = scope → X.calm = true → X.fn = (fun _ => true) → X.stack = X.env :: X.outer → X.env.frame = some X.env.locals → Room k X.A → Takes X W → PassesOwn (model X.prog X.w) X.A X.env X.xe → PSs X body (tS n W (ioL (g.io f)) (exSs g cl F cb))) :
    FnOk P w K mg base (L2.CX P w) (k + 1) fa fd ps (spEv n g cl' f) := by
  have hle : Fn.np ≤ Fn.ns := by
    have := congrArg List.length SC.pre
    rw [List.length_take] at this
    omega
  refine FD.ok SC (fun vs H Q E h => ?_) fun cdv A outer s H vs Q E hr h => ⟨_, hbody (cxOf (L2.CX P w) P w K mg base N qual scope fa cdv A outer s H E) (fun cls d _ H => E cls d H) rfl rfl rfl rfl rfl rfl rfl rfl rfl rfl rfl hr ?_ ?_, (spEv_run hf hN hle h).2⟩
  · exact (spEv_run (N := N) hf hN hle h).1.trans hp.symm
  · exact takes_of rfl rfl rfl rfl
  · exact passes_of (K := fun e s'' => L2.CX P w outer H s E e s'') (E₁ := fun e' s'' => L2.CX P w outer H s E e' s'') rfl
end Ev

set_option Elab.async false
set_option linter.all false
set_option maxRecDepth 100000
namespace PySem.W
open PySem
open PyProof.Rows
open Builtin
section
variable {prog : Program} {w : World} {A A₀ : Around} {E : Value → Shared → Prop} {s : Shared} {K : Frag} {x C L f : Addr} {h₀ : Heap} {m : Str → Option Value} {ox : Obj} {od : Option Obj} {name : Str} {b tb : Value}
theorem ifBoundB {M : Model} {id : String} {args : List Value} {Q : Option Value → Shared → Prop} (X : K.In s.heap) (I : InstAt s.heap x ox C od) (hs : findIn K (.ref C) name = some (some (.builtin id))) (hb : bindSpecial (.builtin id) (.ref x) = pure (.builtin id, [.ref x]))
    (h : wpAny M A (call (.builtin id) (.ref x :: args)) (fun v => Q (some v)) E s) : wpAny M A (callSpecialIfBound? (.ref x) name args) Q E s := by
  simp only [callSpecialIfBound?, bindSpecialIfBound?]
  refine wpAny_holding (wpAny_bind (wpAny_bind (wpAny_bind (I.type.here ((looks_findIn X hs).here ?_)))))
  simp only [hb]
  refine wpAny_bind (wpAny_askSetting (wpAny_ite ?_))
  have fin : wpAny M A (call (.builtin id) ([.ref x] ++ args) >>= fun v => pure (some v)) Q E s := wpAny_bind (wpAny_mono h (fun v s' h' => wpAny_pure h') fun _ _ h' => h')
  split
  · exact wpAny_bind (wpAny_pure (wpAny_pure fin))
  · exact wpAny_tryCatch (wpAny_bind (wpAny_pure (wpAny_pure fin)))
theorem ne_entry (hu : A.units < cLine) (X : K.In s.heap) (I : InstAt s.heap x ox C od) (he : findIn K (.ref C) "__eq__" = some (some (.ref f))) (hf : isFn K (.ref f) = true) {Q : Fin → Shared → Prop}
    (hcall : wpAny (model prog w) A (call (.ref f) [.ref x, b]) (fun v s' => ∃ r, v = .bool r ∧ Q (.done (.ret (.bool (!r)))) s') E s) :
    wpAny (model prog w) A (Builtin.«object.__ne__» ⟨[.ref x, b], []⟩) Q E s := by
  unfold Builtin.«object.__ne__»
  repeat (first
    | with_reducible refine wpAny_cRoomFor hu ?_
    | (refine wpAny_bind (m := callSpecialIfBound? (.ref x) (Str.ofString "__eq__") [b])
        (ifBound_K X I he hf (wpAny_mono hcall (fun r s' hr => by
          obtain ⟨b, rfl, hq⟩ := hr
          repeat (first | exact hq | exact wpAny_pure hq | exact wpAny_truthy_bool hq | (refine wpAny_bind (m := truthy (.bool _)) (wpAny_truthy_bool ?_)) | wp_step)) fun _ _ e => e)))
    | wp_step)
theorem check_ne {M : Model} {Q : Unit → Shared → Prop} (X : K.In s.heap) (I : InstAt s.heap x ox C od) (ho : subIn K (.ref C) (.type "object") = some true) (hq : Q () s) : wpAny M A (checkBuiltinCall "object.__ne__" ⟨[.ref x, b], []⟩) Q E s := by
  simp only [checkBuiltinCall, F.cmpKind_ne, F.cmpSplit_ne]
  refine wpAny_bind ?_
  unfold isInstance
  refine wpAny_bind (I.type.here ((looks_subIn X ho).here ?_))
  cases hsig : Manifest.signature? "object.__ne__" with
  | none => exact wpAny_pure hq
  | some sig =>
    have ha : argsOk "object.__ne__" ⟨[.ref x, b], []⟩ := F.cmpArgs_ne _ _
    simp only [argsOk, hsig] at ha
    have h2 : Bind.checkArgs "object.__ne__" sig ⟨[.ref x, b], []⟩ = pure () := ha
    show wpAny M A (Bind.checkArgs "object.__ne__" sig ⟨[.ref x, b], []⟩) Q E _
    rw [h2]; exact wpAny_pure hq
theorem neK {Q : Value → Shared → Prop} (hu : A.units + 1 < cLine) (F : Fr h₀ L s.heap m) (X₀ : K.In h₀) (I : InstAt s.heap x ox C od) (hb : Looks (model prog w) s.heap (typeOf b) tb) (hn : notFirst K C tb = true)
    (hs : findIn K (.ref C) "__ne__" = some (some (.builtin "object.__ne__"))) (he : findIn K (.ref C) "__eq__" = some (some (.ref f))) (hf : isFn K (.ref f) = true) (ho : subIn K (.ref C) (.type "object") = some true)
    (h : wpAny (model prog w) A.in1 (call (.ref f) [.ref x, b]) (fun v s' => ∃ r, v = .bool r ∧ Q (.bool (!r)) s') E s) : wpAny (model prog w) A (richCompare .NotEq (.ref x) b) Q E s := by
  have X := X₀.keeps F.keep
  have one : wpAny (model prog w) A (tryCompare (.ref x) "__ne__" b) (fun r s' => ∃ v, r = some v ∧ Q v s') E s := by
    unfold tryCompare
    refine wpAny_bind (ifBoundB X I hs (PySem.F.cmp_object.ne.bind _) (wpAny_call (codeAny_call_builtin PySem.F.cmp_object.ne.plain PySem.F.cmpEntry_ne (check_ne X I ho (ne_entry (A := A.in1) (by show A.units + 1 < cLine; exact hu) X I he hf (wpAny_mono h (fun v s' hv => ?_) fun _ _ e => e))))))
    obtain ⟨r, rfl, hq⟩ := hv
    first | exact ⟨r, rfl, wpAny_pure ⟨_, rfl, hq⟩⟩ | exact wpAny_pure ⟨_, rfl, hq⟩ | exact ⟨_, rfl, wpAny_pure (wpAny_pure ⟨_, rfl, hq⟩)⟩
  unfold richCompare
  simp only [oneThing_ref]
  refine wpAny_holding (wpAny_bind (wpAny_cRoomFor (Nat.lt_of_succ_lt hu) ?_))
  rw [cmpInfo_NotEq]
  dsimp only
  refine wpAny_bind (I.type.here (wpAny_bind (hb.here ?_)))
  split
  · rename_i q
    have e : subIn K tb (.ref C) = some false := by
      rcases Bool.or_eq_true_iff.mp hn with e | e
      · rw [beq_iff_eq.mp e] at q; simp at q
      · exact beq_iff_eq.mp e
    refine wpAny_bind ((looks_subIn X e).here ?_)
    simp only [Bool.false_eq_true, if_false]
    refine wpAny_bind (wpAny_mono one (fun r s' z => ?_) fun _ _ e => e)
    obtain ⟨v, rfl, hq⟩ := z
    exact wpAny_pure hq
  · refine wpAny_bind (wpAny_pure ?_)
    simp only [Bool.false_eq_true, if_false]
    refine wpAny_bind (wpAny_mono one (fun r s' z => ?_) fun _ _ e => e)
    obtain ⟨v, rfl, hq⟩ := z
    exact wpAny_pure hq
end
end PySem.W

set_option Elab.async false
set_option linter.all false
set_option maxRecDepth 100000
/-! The evaluator is sound: what classes say. -/
namespace Ev
open PySem PySem.Spec PyProof.Rows L2

def tyN : PV → String
  | .non => "NoneType" | .bl _ => "bool" | .int _ => "int" | .str _ => "str" | .tup _ => "tuple" | .lst _ => "list" | .dct _ => "dict" | _ => ""
def tyV' (n : En) : PV → Value
  | .ins c _ => .ref (n.cA c)
  | p => .type (tyN p)
def tyNames : List String := ["NoneType", "bool", "int", "str", "tuple", "list", "dict"]
def tyOfNo : Nat → String
  | 0 => "int" | 1 => "bool" | 2 => "str" | 3 => "list" | 4 => "tuple" | 5 => "dict" | _ => "bytes"
def mT (s : String) : Nat → Bool
  | 0 => s == "int" || s == "bool" | 1 => s == "bool" | 2 => s == "str" | 3 => s == "list" | 4 => s == "tuple" | 5 => s == "dict" | _ => false
structure CFacts (n : En) (g : G) : Prop where
  fi : ∀ i j, n.fN i = n.fN j → i = j
  cls : ∀ c f, g.fok c f = true → Cls n.K (n.cA c) ∧ NoAttr n.K (n.cA c) (n.fN f)
  ty : ∀ c, g.fok c 0 = true → PySem.W.findIn n.K (.ref (n.cA c)) "__class__" = some (some (.builtin "object.__class__")) ∧ PySem.W.specialIn n.K (.builtin "object.__class__") "__get__" = some (some (.builtin "getset_descriptor.__get__")) ∧
    PySem.W.takesIn n.K (.builtin "object.__class__") = some true ∧ PySem.W.mroIn n.K (n.cA c) (.type "object") = some true
  isK : ∀ c k, g.fok c 0 = true → g.fok k 0 = true → PySem.W.kitOne n.K (.ref (n.cA c)) (.ref (n.cA k)) = some (g.isa c k)
  isT : ∀ c T, g.fok c 0 = true → PySem.W.kitOne n.K (.ref (n.cA c)) (.type (tyOfNo T)) = some false
  isN : ∀ k T, g.fok k 0 = true → T ∈ tyNames → PySem.W.kitOne n.K (.type T) (.ref (n.cA k)) = some false
  nf : ∀ c k, g.fok c 0 = true → g.fok k 0 = true → PySem.W.notFirst n.K (n.cA c) (.ref (n.cA k)) = true
  nfT : ∀ c T, g.fok c 0 = true → T ∈ tyNames → PySem.W.notFirst n.K (n.cA c) (.type T) = true
  eqF : ∀ c f, g.eqF c = some f → g.fok c 0 = true ∧ PySem.W.findIn n.K (.ref (n.cA c)) "__eq__" = some (some (.ref (n.fA f))) ∧ PySem.W.isFn n.K (.ref (n.fA f)) = true ∧ PySem.W.findIn n.K (.ref (n.cA c)) "__ne__" = some (some (.builtin "object.__ne__")) ∧
    PySem.W.subIn n.K (.ref (n.cA c)) (.type "object") = some true ∧ g.io f = []
  boolF : ∀ c f, g.boolF c = some f → PySem.W.findIn n.K (.ref (n.cA c)) "__bool__" = some (some (.ref (n.fA f))) ∧ PySem.W.isFn n.K (.ref (n.fA f)) = true ∧ g.io f = []
theorem kit_tt (a : String) (T : Nat) (h : a ∈ tyNames) : ∃ b, kitB a (tyOfNo T) = some b ∧ b = mT a T := by
  have key : ∀ a ∈ tyNames, ∀ T, T < 7 → kitB a (tyOfNo T) = some (mT a T) := by decide +kernel
  by_cases c : T < 7
  · exact ⟨_, key a h T c, rfl⟩
  · have e : tyOfNo T = tyOfNo 6 := by
      match T, c with
      | 0, c => exact absurd (by decide) c
      | 1, c => exact absurd (by decide) c
      | 2, c => exact absurd (by decide) c
      | 3, c => exact absurd (by decide) c
      | 4, c => exact absurd (by decide) c
      | 5, c => exact absurd (by decide) c
      | 6, _ => rfl
      | _ + 7, _ => rfl
    rw [e]
    refine ⟨_, key a h 6 (by decide), ?_⟩
    match T, c with
    | 0, c => exact absurd (by decide) c
    | 1, c => exact absurd (by decide) c
    | 2, c => exact absurd (by decide) c
    | 3, c => exact absurd (by decide) c
    | 4, c => exact absurd (by decide) c
    | 5, c => exact absurd (by decide) c
    | 6, _ => rfl
    | _ + 7, _ => rfl
section
variable {X : Cx} {n : En} {g : G} {cl : FC} {pins : List (Addr × Obj)} {τ : SG} {H : Hp} {s : Shared} {Z : Addr → Prop}
theorem kitEv (f : Fit X n) (cf : CFacts n g) (I : Inv X pins τ H s) {p : PV} {x : V} {u : Value} (rp : RD n H Z p x) (ru : RelV x u) (hc : ∀ c fs, p = .ins c fs → g.fok c 0 = true) :
    ∃ P : Heap → Prop, PySem.W.KitX X.K u (tyV' n p) P ∧ P s.heap ∧ u ≠ .builtin "__main__.__loader__#opaque" := by
  have hd : ∀ {a : Addr} {o : Obj} {xs : List (NestedKey × Addr × Value)}, H a = some (DO n o a xs) → PySem.W.KitAt a "dict" s.heap := fun {a o xs} e => by
    obtain ⟨_, _, ho, _, _, hx, _⟩ := DO.get I.hok e
    exact ⟨o, ho, hx.1⟩
  have hins : ∀ {a : Addr} {c : Nat} {dx : Addr} {fv : List (Str × V)}, g.fok c 0 = true → H a = some (.ins (n.cA c) dx fv) → ∃ P : Heap → Prop, PySem.W.KitX X.K (.ref a) (.ref (n.cA c)) P ∧ P s.heap ∧ (Value.ref a) ≠ .builtin "__main__.__loader__#opaque" := fun {a c dx fv} hk ea => by
    obtain ⟨mA, O, _⟩ := ins_get I.hok ea
    obtain ⟨od, J, _⟩ := O.look
    obtain ⟨ha, hn, htk, hm⟩ := cf.ty c hk
    have c1 := (cf.cls c 0 hk).1
    rw [f.K] at ha hn htk hm c1
    exact ⟨_, PySem.W.kitx_own (c1.get _) c1.hd ha hn htk hm, J, fun z => nomatch z⟩
  cases p with
  | non =>
    obtain rfl := rp.non
    cases (show u = Value.none from ru); exact ⟨_, PySem.W.kitx_none, True.intro, fun z => nomatch z⟩
  | bl b =>
    obtain rfl := rp.bl
    cases (show u = Value.bool b from ru); exact ⟨_, PySem.W.kitx_bool, True.intro, fun z => nomatch z⟩
  | int i =>
    obtain rfl := rp.int
    obtain ⟨t, q⟩ := (show ∃ t, u = Value.int i t from ru); cases q; exact ⟨_, PySem.W.kitx_int, True.intro, fun z => nomatch z⟩
  | str y =>
    obtain rfl := rp.str
    obtain ⟨t, q⟩ := (show ∃ t, u = Value.str (strV y) t from ru); cases q; exact ⟨_, PySem.W.kitx_str, True.intro, fun z => nomatch z⟩
  | tup l =>
    obtain ⟨a, vs, rfl, r1, l1⟩ := rp.tup
    cases (show u = Value.ref a from ru)
    rw [f.K] at r1
    obtain ⟨its, rv, ⟨o, ho, hc', _⟩, hz⟩ := I.tuple r1
    exact ⟨_, PySem.W.kitx_tuple, ⟨o, ho, hc'⟩, fun z => nomatch z⟩
  | lst l =>
    obtain ⟨a, vs, rfl, r1, l1⟩ := rp.lst
    cases (show u = Value.ref a from ru)
    obtain ⟨its, rv, pl, hz⟩ := I.list (.inl r1)
    obtain ⟨o, ho, hc', _⟩ := pl.isList
    exact ⟨_, PySem.W.kitx_list, ⟨o, ho, hc'⟩, fun z => nomatch z⟩
  | dct d =>
    obtain ⟨a, ob, xs, rfl, ea, rl⟩ := rp.dct
    cases (show u = Value.ref a from ru)
    exact ⟨_, PySem.W.kitx_dict, hd ea, fun z => nomatch z⟩
  | ins c fs =>
    obtain ⟨a, dx, fv, rfl, ea, rf⟩ := rp.ins
    cases (show u = Value.ref a from ru)
    exact hins (hc c fs rfl) ea
  | lam k =>
    rcases rp with r | ⟨a, _, r⟩ <;> cases r
theorem tyN_mem : ∀ {p : PV}, (∀ c fs, p ≠ .ins c fs) → (∀ k, p ≠ .lam k) → tyN p ∈ tyNames ∧ tyV' n p = .type (tyN p)
  | .non, _, _ => ⟨by decide, rfl⟩
  | .bl _, _, _ => ⟨(by decide : "bool" ∈ tyNames), rfl⟩
  | .int _, _, _ => ⟨(by decide : "int" ∈ tyNames), rfl⟩
  | .str _, _, _ => ⟨(by decide : "str" ∈ tyNames), rfl⟩
  | .tup _, _, _ => ⟨(by decide : "tuple" ∈ tyNames), rfl⟩
  | .lst _, _, _ => ⟨(by decide : "list" ∈ tyNames), rfl⟩
  | .dct _, _, _ => ⟨(by decide : "dict" ∈ tyNames), rfl⟩
  | .ins c fs, h, _ => absurd rfl (h c fs)
  | .lam k, _, h => absurd rfl (h k)
theorem isTy_ty : ∀ {p : PV}, (∀ c fs, p ≠ .ins c fs) → (∀ k, p ≠ .lam k) → ∀ t : Nat, isTy p t = mT (tyN p) t := by
  intro p hi hl t
  have key : ∀ (s : String) (f : Nat → Bool), (∀ t, t < 6 → f t = mT s t) → (∀ t, 6 ≤ t → f t = false) → f t = mT s t := by
    intro s f h1 h2
    by_cases c : t < 6
    · exact h1 t c
    · rw [h2 t (by omega)]
      match t, c with
      | 0, c => exact absurd (by decide) c
      | 1, c => exact absurd (by decide) c
      | 2, c => exact absurd (by decide) c
      | 3, c => exact absurd (by decide) c
      | 4, c => exact absurd (by decide) c
      | 5, c => exact absurd (by decide) c
      | _ + 6, _ => rfl
  have big : ∀ (q : PV) t, 6 ≤ t → isTy q t = false := by
    intro q t ht
    cases q <;> simp [isTy] <;> omega
  cases p with
  | non => exact key "NoneType" (isTy .non) (by decide +kernel) (big _)
  | bl b => cases b; exact key "bool" (isTy (.bl false)) (by decide +kernel) (big _); exact key "bool" (isTy (.bl true)) (by decide +kernel) (big _)
  | int i => exact key "int" (isTy (.int i)) (fun t ht => (show ∀ t, t < 6 → isTy (.int 0) t = mT "int" t by decide +kernel) t ht) (big _)
  | str x => exact key "str" (isTy (.str x)) (fun t ht => (show ∀ t, t < 6 → isTy (.str []) t = mT "str" t by decide +kernel) t ht) (big _)
  | tup x => exact key "tuple" (isTy (.tup x)) (fun t ht => (show ∀ t, t < 6 → isTy (.tup []) t = mT "tuple" t by decide +kernel) t ht) (big _)
  | lst x => exact key "list" (isTy (.lst x)) (fun t ht => (show ∀ t, t < 6 → isTy (.lst []) t = mT "list" t by decide +kernel) t ht) (big _)
  | dct x => exact key "dict" (isTy (.dct x)) (fun t ht => (show ∀ t, t < 6 → isTy (.dct []) t = mT "dict" t by decide +kernel) t ht) (big _)
  | ins c fs => exact absurd rfl (hi c fs)
  | lam k => exact absurd rfl (hl k)
theorem RD.noLam {k : Nat} {x : V} (r : RD n H Z (.lam k) x) : False := by
  rcases r with r | ⟨a, _, r⟩ <;> cases r
/-- isinstance(x, c): the class as a value -/
def rIs (n : En) (g : G) (cl : FC) (ks ts : List Nat) : List V → Hp → VK → Prop := fun xs H Q => ∃ ρ σ Z p x cv a, xs = [x, cv] ∧ Wd n ρ σ H Z ∧ RD n H Z p x ∧ ((∃ k, ks = [k] ∧ ts = [] ∧ cv = .ref (n.cA k) ∧ g.fok k 0 = true) ∨ ∃ t, ks = [] ∧ ts = [t] ∧ cv = .ty (tyOfNo t)) ∧ primO g cl (.isi ks ts) [p] ρ = .ok a ρ ∧
  ∀ v H' Z', Wd n ρ σ H' Z' → Stp ρ σ H Z ρ σ H' Z' → AR n H ρ σ H' Z' a v → Q v H'
theorem isR (f : Fit X n) (cf : CFacts n g) (ks ts : List Nat) : CallR X (.builtin "isinstance") (rIs n g cl ks ts) := by
  intro pins s τ H xs us Q I r h
  obtain ⟨ρ, σ, Z, p, x, cv, a, rfl, w, rp, hcv, e, k⟩ := h
  obtain ⟨u1, u2, rfl, r1, r2⟩ := vals2 r
  have hp : ∀ c fs, p = .ins c fs → g.fok c 0 = true := fun c fs ep => by
    subst ep
    have e : (if g.fok c 0 then O.ok (Ar.v (.bl (ks.any (g.isa c))) false) ρ else .no) = .ok a ρ := e
    by_cases c1 : g.fok c 0 = true
    · exact c1
    · rw [if_neg c1] at e; cases e
  obtain ⟨P, KX, hP, hne⟩ := kitEv f cf I rp r1 hp
  have fin : ∀ b, PySem.W.kitOne X.K (tyV' n p) u2 = some b → a = .v (.bl b) false → wpAny (model X.prog X.w) X.A (call (.builtin "isinstance") [u1, u2]) (EP X pins τ Q) X.xe s := fun b hb ea => by
    subst ea
    exact PySem.W.kia_one KX I.kIn hP hb hne fun tk => ⟨.bl b, H, I.tok tk, rfl, k _ H Z w .refl (.bl b)⟩
  by_cases hi : ∃ c fs, p = .ins c fs
  · obtain ⟨c, fs, rfl⟩ := hi
    have hk := hp c fs rfl
    have e : (if g.fok c 0 then O.ok (Ar.v (.bl (ks.any (g.isa c))) false) ρ else .no) = .ok a ρ := e
    rw [if_pos hk] at e
    cases e
    rcases hcv with ⟨kk, rfl, rfl, rfl, hkk⟩ | ⟨t, rfl, rfl, rfl⟩
    · obtain rfl : u2 = Value.ref (n.cA kk) := r2
      refine fin (g.isa c kk) ?_ (by simp)
      rw [← f.K]
      exact cf.isK c kk hk hkk
    · obtain rfl : u2 = Value.type (tyOfNo t) := r2
      refine fin false ?_ (by simp)
      rw [← f.K]
      exact cf.isT c t hk
  · have hi' : ∀ c fs, p ≠ .ins c fs := fun c fs z => hi ⟨c, fs, z⟩
    have hl : ∀ k, p ≠ .lam k := fun k z => by subst z; exact rp.noLam
    obtain ⟨hm, et⟩ := tyN_mem (n := n) hi' hl
    have e : O.ok (Ar.v (.bl (ts.any (isTy p))) false) ρ = .ok a ρ := by
      rw [← e]
      unfold primO
      cases p <;> first | rfl | exact absurd rfl (hi' _ _) | exact absurd rfl (hl _)
    cases e
    rcases hcv with ⟨kk, rfl, rfl, rfl, hkk⟩ | ⟨t, rfl, rfl, rfl⟩
    · obtain rfl : u2 = Value.ref (n.cA kk) := r2
      refine fin false ?_ (by simp)
      rw [et, ← f.K]
      exact cf.isN kk _ hkk hm
    · obtain rfl : u2 = Value.type (tyOfNo t) := r2
      obtain ⟨b, h1, h2⟩ := kit_tt (tyN p) t hm
      refine fin b ?_ ?_
      · rw [et]
        exact kit_ty h1
      · rw [h2]
        have : (([t] : List Nat).any (isTy p)) = isTy p t := by simp
        rw [this]
        rw [isTy_ty hi' hl t]
end
end Ev

set_option Elab.async false
set_option linter.all false
set_option maxRecDepth 100000
/-! The evaluator is sound: own == and truth; all operators. -/
namespace Ev
open PySem PySem.Spec PyProof.Rows L2

section
variable {X : Cx} {n : En} {g : G} {cl : FC} {k f : Nat} {pins : List (Addr × Obj)} {τ : SG} {H : Hp} {s : Shared} {Z : Addr → Prop} {ρ : Sl} {σ : SG}
theorem run_fnA {A : Around} {E : Value → Shared → Prop} {fa : Addr} {fd : FuncData} {ps : List Str} {sp : Sp} {us : List Value} {vs : List V} {Q : VK} (F : FnOk X.prog X.w X.K X.mg X.base (L2.CX X.prog X.w) k fa fd ps sp) (hr : Room k A) (hfr : A.frames = X.A.frames) (hb : Binds X.K fd ps [])
    (I : Inv X pins τ H s) (r : Vals vs us) (h : sp vs H Q (fun _ _ _ => False)) : wpAny (model X.prog X.w) A (call (.ref fa) us) (EP X pins τ Q) E s := by
  have hl : us.length = ps.length := by rw [← r.length]; exact F.len _ _ _ _ h
  have b := hb s us I.kIn (by rw [List.append_nil]; exact hl)
  rw [List.append_nil] at b
  have e0 : Env0 X.prog X.w X.K X.mg X.base A X.stack s H := by
    have e := I.env0
    exact ⟨by rw [hfr]; exact e.frames, e.mod, e.bs, e.bsz, e.funs, e.frf, e.hok, e.bare⟩
  refine wpAny_call (codeAny_mono (F.run A X.stack s H ⟨us, []⟩ us vs Q _ hr e0 b r h) fun r s' hq => ?_)
  cases r with
  | error e =>
    obtain ⟨_, _, _, _, _, _, _, _, _, _, _, _, z⟩ := hq
    exact z.elim
  | ok fl =>
    cases fl with
    | ret u => exact I.after hq
    | next => exact False.elim hq
    | brk => exact False.elim hq
    | cont => exact False.elim hq
theorem RDs.len {ps : List PV} {vs : List V} (h : RDs n H Z ps vs) : ps.length = vs.length := by
  induction ps generalizing vs with
  | nil => cases vs with
    | nil => rfl
    | cons v vs => exact False.elim h
  | cons p ps ih => cases vs with
    | nil => exact False.elim h
    | cons v vs => rw [List.length_cons, List.length_cons, ih (And.right h)]
theorem RDs.get {ps : List PV} {vs : List V} (h : RDs n H Z ps vs) {i : Nat} {p : PV} {v : V} (hp : ps[i]? = some p) (hv : vs[i]? = some v) : RD n H Z p v := by
  induction ps generalizing vs i with
  | nil => simp at hp
  | cons q ps ih => cases vs with
    | nil => exact False.elim h
    | cons u vs =>
      cases i with
      | zero =>
        have e1 : q = p := by simpa using hp
        have e2 : u = v := by simpa using hv
        subst e1 e2
        exact And.left h
      | succ i => exact ih (And.right h) (i := i) (by simpa using hp) (by simpa using hv)
/-- a call that changes nothing of the caller's -/
theorem callPure (w : Wd n ρ σ H Z) {ps : List PV} {vs : List V} (rd : RDs n H Z ps vs) (hio : g.io f = []) {p : PV} {o : Bool} {outs : List PV} (hc : cl f ps = .rt p o outs) (hp : ∃ b, p = .bl b) :
    spEv n g cl f vs H (fun v H' => (∃ b, p = .bl b ∧ v = .bl b) ∧ Wd n ρ σ H' Z ∧ Stp ρ σ H Z ρ σ H' Z) (fun _ _ _ => False) := by
  let Z2 : Addr → Prop := fun b => Z b ∨ ∃ o, H b = some o ∧ NT o ∧ V.ref b ∈ vs
  have gz2 : GZ H Z2 := fun a z => z.elim (w.gz a) fun ⟨o, h1, h2, _⟩ => ⟨o, h1, h2⟩
  refine ⟨Z2, ps, ?_, by rw [hio]; exact Nat.zero_le _, fun i j a h => by rw [hio] at h; simp at h, gz2, (by rw [hc]; exact fun z => (by cases z)), fun x (e : cl f ps = .ex x) => absurd (hc.symm.trans e) (fun z => (by cases z)), fun v' o' outs' e w' H' Z' c _ gz res ao => ?_⟩
  · rw [hio]
    refine ArgIn.of rd.len fun i p v h1 h2 => ?_
    rw [if_neg (by simp)]
    rcases rd.get h1 h2 with r | ⟨a, ea, ov⟩
    · exact r.mono (fun _ z => .inl z) fun _ _ => rfl
    · subst ea
      obtain ⟨ob, h3, h4⟩ := ov.there
      exact ov.frozen (fun _ z => .inl z) (.inr ⟨ob, h3, h4, List.mem_of_getElem? h2⟩)
  · rw [hc] at e
    cases e
    have noS : ∀ a, ¬ IoA (g.io f) vs a := fun a ⟨i, h, _⟩ => by rw [hio] at h; simp at h
    have stay : ∀ a u, H a = some u → NT u → H' a = some u := fun a u e t => c.stay a u e t (noS a)
    refine ⟨?_, ?_, ⟨fun _ z => z, fun a u e t _ => stay a u e t, c.same, fun _ z => .inl z, fun _ z => .inl z⟩⟩
    · obtain ⟨b, rfl⟩ := hp
      refine ⟨b, rfl, ?_⟩
      unfold Res at res
      cases o with
      | false =>
        have res : RV n H' Z' (.bl b) w' := res
        cases res; rfl
      | true =>
        rw [if_pos rfl] at res
        obtain ⟨_, _, _, _, ov⟩ := res
        cases ov
    · have hz : ∀ a, Z a → H' a = H a := fun a z => by
        obtain ⟨u, e, t⟩ := w.gz a z
        rw [e]; exact stay a u e t
      refine ⟨w.len, fun i p e => ?_, fun i p e => ?_, w.inj, fun a z => ?_⟩
      · obtain ⟨v, h, r⟩ := w.vis i p e
        exact ⟨v, h, r.mono (fun _ z => z) hz⟩
      · obtain ⟨a, h, za, r⟩ := w.own i p e
        obtain ⟨u, e1, t⟩ := r.there
        exact ⟨a, h, za, r.mono (fun _ z => z) hz (by rw [e1]; exact stay a u e1 t)⟩
      · rw [hz a z]; exact w.gz a z
variable (F : ∀ f, (∃ c, g.eqF c = some f) ∨ (∃ c, g.boolF c = some f) → FnAt X n g cl k f) (hr : Room (k + 1) X.A)
include F hr
theorem truR (ft : Fit X n) (cf : CFacts n g) : TruR X (rTr n g cl) := by
  intro pins s τ H x v Q I rx h
  obtain ⟨ρ, σ, Z, p, b, w, rp, e, kk⟩ := h
  by_cases hi : ∃ c fs, p = .ins c fs
  · obtain ⟨c, fs, rfl⟩ := hi
    obtain ⟨ad, dx, fv, rfl, ea, rf⟩ := rp.ins
    obtain rfl : v = Value.ref ad := rx
    have e : (match g.boolF c with
      | some f => (match cl f [.ins c fs] with
        | .rt (.bl b) _ _ => O.ok b ρ
        | _ => .no)
      | none => .no) = .ok b ρ := e
    cases eb : g.boolF c with
    | none => rw [eb] at e; cases e
    | some f =>
      rw [eb] at e
      dsimp only at e
      obtain ⟨h1, h2, h3⟩ := cf.boolF c f eb
      rw [ft.K] at h1 h2
      cases ec : cl f [.ins c fs] with
      | no => rw [ec] at e; cases e
      | ex x => rw [ec] at e; cases e
      | rt pv o outs =>
        rw [ec] at e
        cases pv with
        | bl b' =>
          cases e
          obtain ⟨fd, ps, FN, hb⟩ := (F f (.inr ⟨c, eb⟩)).ok
          obtain ⟨mA, J, _⟩ := ins_get I.hok ea
          obtain ⟨od, J, _⟩ := J.look
          obtain ⟨m, hF⟩ := I.fr
          refine PySem.W.truthy_K hF I.ok.mod.kin J h1 h2 ?_
          refine thn (run_fnA FN (hr.mono (Nat.le_succ k)) rfl hb I (us := [.ref ad]) (vs := [.ref ad]) (.cons rfl .nil) (callPure (ps := [.ins c fs]) (vs := [.ref ad]) w (show RDs n H Z [.ins c fs] [.ref ad] from ⟨rp, trivial⟩) h3 ec ⟨b, rfl⟩)) fun r s' ⟨v, H', I', rv, ⟨b2, eb2, ev2⟩, w2, s2⟩ => ?_
          cases eb2
          subst ev2
          cases rv
          exact ⟨H', I', kk H' Z w2 s2⟩
        | _ => cases e
  · have hi' : ∀ c fs, p ≠ .ins c fs := fun c fs z => hi ⟨c, fs, z⟩
    have e : (match truth0 p with | some b => O.ok b ρ | none => .no) = .ok b ρ := by
      rw [← e]
      unfold truthO
      cases p <;> first | rfl | exact absurd rfl (hi' _ _)
    have fin : ∀ kb, TruV X.K x H kb → truth0 p = some kb → wpAny (model X.prog X.w) X.A (truthy v) (TP X pins τ Q) X.xe s := fun kb ht ep => by
      rw [ep] at e
      cases e
      exact tru_ok pins s τ H x v Q I rx ⟨_, ht, kk H Z w .refl⟩
    cases p with
    | non => exact fin false (by rw [rp.non]; rfl) rfl
    | bl b' => exact fin b' (by rw [rp.bl]; rfl) rfl
    | int i => exact fin (i != 0) (by rw [rp.int]; rfl) rfl
    | str y =>
      have e : (match (if y.length ≤ 16777216 then some (!y.isEmpty) else none) with | some b => O.ok b ρ | none => .no) = .ok b ρ := e
      by_cases c : y.length ≤ 16777216
      · refine fin (!y.isEmpty) ?_ (if_pos c)
        rw [rp.str]
        refine ⟨by rw [strV_length, SZ]; exact c, ?_⟩
        rw [strV_length]
        cases y <;> simp
        omega
      · rw [if_neg c] at e; cases e
    | tup l =>
      obtain ⟨a, vs, e2, r1, l1⟩ := rp.tup
      refine fin (!l.isEmpty) ?_ rfl
      rw [e2]
      refine .inr (.inl ⟨vs, ft.K ▸ r1, ?_⟩)
      cases l1 <;> rfl
    | lst l =>
      obtain ⟨a, vs, e2, r1, l1⟩ := rp.lst
      refine fin (!l.isEmpty) ?_ rfl
      rw [e2]
      refine .inl ⟨vs, .inl r1, ?_⟩
      cases l1 <;> rfl
    | dct d => cases e
    | ins c fs => exact absurd rfl (hi' _ _)
    | lam k => exact rp.noLam.elim
theorem eqR (ft : Fit X n) (cf : CFacts n g) : OpR X (compareOp .Eq) (rP n g cl .eq) := by
  intro pins s τ H x y v u Q I rx ry h
  obtain ⟨ρ, σ, Z, p, q, a, w, rp, rq, e, kk⟩ := h
  by_cases hi : ∃ c fs, p = .ins c fs
  · obtain ⟨c, fs, rfl⟩ := hi
    obtain ⟨ad, dx, fv, rfl, ea, rf⟩ := rp.ins
    obtain rfl : v = Value.ref ad := rx
    have e : (match g.eqF c with
      | some f => if okC g q then (match cl f [.ins c fs, q] with
        | .rt (.bl r) _ _ => O.ok (Ar.v (.bl r) false) ρ
        | _ => .no) else .no
      | none => .no) = .ok a ρ := e
    cases eb : g.eqF c with
    | none => rw [eb] at e; cases e
    | some f =>
      rw [eb] at e
      dsimp only at e
      obtain ⟨h0, h1, h2, _, _, h3⟩ := cf.eqF c f eb
      rw [ft.K] at h1 h2
      by_cases hok : okC g q = true
      case neg => rw [if_neg hok] at e; cases e
      rw [if_pos hok] at e
      cases ec : cl f [.ins c fs, q] with
      | no => rw [ec] at e; cases e
      | ex x => rw [ec] at e; cases e
      | rt pv o outs =>
        rw [ec] at e
        cases pv with
        | bl b =>
          cases e
          obtain ⟨fd, ps, FN, hb⟩ := (F f (.inl ⟨c, eb⟩)).ok
          obtain ⟨mA, J, _⟩ := ins_get I.hok ea
          obtain ⟨od, J, _⟩ := J.look
          obtain ⟨m, hF⟩ := I.fr
          have go : ∀ tb, (∃ P : Heap → Prop, PySem.W.KitX X.K u tb P ∧ P s.heap) → PySem.W.notFirst X.K (n.cA c) tb = true → wpAny (model X.prog X.w) X.A (compareOp .Eq (.ref ad) u) (EP X pins τ Q) X.xe s := by
            intro tb ⟨P, KX, hP⟩ hn
            show wpAny (model X.prog X.w) X.A (richCompare .Eq (.ref ad) u) (EP X pins τ Q) X.xe s
            refine PySem.W.cmp_K (op := .Eq) (tb := tb) hr.units0 hF I.ok.mod.kin J (KX.ty _ _ I.kIn hP) hn h1 h2 ?_
            refine thn (run_fnA FN (hr.mono (Nat.le_succ k)) rfl hb I (us := [.ref ad, u]) (vs := [.ref ad, y]) (.cons rfl (.cons ry .nil)) (callPure (ps := [.ins c fs, q]) (vs := [.ref ad, y]) w (show RDs n H Z [.ins c fs, q] [.ref ad, y] from ⟨rp, rq, trivial⟩) h3 ec ⟨b, rfl⟩)) fun r s' ⟨v, H', I', rv, ⟨b2, eb2, ev2⟩, w2, s2⟩ => ?_
            cases eb2
            subst ev2
            cases rv
            exact ⟨.bl b, H', I', rfl, kk _ H' Z w2 s2 (.bl b)⟩
          by_cases hj : ∃ c' fs', q = .ins c' fs'
          · obtain ⟨c', fs', rfl⟩ := hj
            obtain ⟨ad', dx', fv', rfl, ea', rf'⟩ := rq.ins
            obtain rfl : u = Value.ref ad' := ry
            have hok : g.fok c' 0 = true := hok
            obtain ⟨P, KX, hP, _⟩ := kitEv ft cf I rq (u := .ref ad') rfl fun c2 fs2 z => by cases z; exact hok
            exact go _ ⟨P, KX, hP⟩ (ft.K ▸ cf.nf c c' h0 hok)
          · have hj' : ∀ c fs, q ≠ .ins c fs := fun c fs z => hj ⟨c, fs, z⟩
            have hl : ∀ k, q ≠ .lam k := fun k z => by subst z; exact rq.noLam
            obtain ⟨hm, et⟩ := tyN_mem (n := n) hj' hl
            obtain ⟨P, KX, hP, _⟩ := kitEv ft cf I rq ry fun c fs z => absurd z (hj' c fs)
            rw [et] at KX
            exact go _ ⟨P, KX, hP⟩ (ft.K ▸ cf.nfT c _ h0 hm)
        | _ => cases e
  · have hi' : ∀ c fs, p ≠ .ins c fs := fun c fs z => hi ⟨c, fs, z⟩
    have e : (match prim .eq [p, q] with | some (v, o) => O.ok (Ar.v v o) ρ | none => .no) = .ok a ρ := by
      rw [← e]
      unfold primO
      cases p <;> first | rfl | exact absurd rfl (hi' _ _)
    cases ep : prim .eq [p, q] with
    | none => rw [ep] at e; cases e
    | some ro =>
      obtain ⟨r, o⟩ := ro
      rw [ep] at e
      cases e
      refine thn (o_eq ft.K (by have := ft.hu; omega) pins s τ ρ σ H Z p q x y v u r o I w rp rq rx ry ep) fun z s1 ⟨v1, H1, I1, r1, Z1, w1, st, vr⟩ => ?_
      exact ⟨v1, H1, I1, r1, kk v1 H1 Z1 w1 st vr⟩
theorem neR (ft : Fit X n) (cf : CFacts n g) : OpR X (compareOp .NotEq) (rP n g cl .ne) := by
  intro pins s τ H x y v u Q I rx ry h
  obtain ⟨ρ, σ, Z, p, q, a, w, rp, rq, e, kk⟩ := h
  by_cases hi : ∃ c fs, p = .ins c fs
  · obtain ⟨c, fs, rfl⟩ := hi
    obtain ⟨ad, dx, fv, rfl, ea, rf⟩ := rp.ins
    obtain rfl : v = Value.ref ad := rx
    have e : (match g.eqF c with
      | some f => if okC g q then (match cl f [.ins c fs, q] with
        | .rt (.bl r) _ _ => O.ok (Ar.v (.bl (!r)) false) ρ
        | _ => .no) else .no
      | none => .no) = .ok a ρ := e
    cases eb : g.eqF c with
    | none => rw [eb] at e; cases e
    | some f =>
      rw [eb] at e
      dsimp only at e
      obtain ⟨h0, h1, h2, h4, h5, h3⟩ := cf.eqF c f eb
      rw [ft.K] at h1 h2 h4 h5
      by_cases hok : okC g q = true
      case neg => rw [if_neg hok] at e; cases e
      rw [if_pos hok] at e
      cases ec : cl f [.ins c fs, q] with
      | no => rw [ec] at e; cases e
      | ex x => rw [ec] at e; cases e
      | rt pv o outs =>
        rw [ec] at e
        cases pv with
        | bl b =>
          cases e
          obtain ⟨fd, ps, FN, hb⟩ := (F f (.inl ⟨c, eb⟩)).ok
          obtain ⟨mA, J, _⟩ := ins_get I.hok ea
          obtain ⟨od, J, _⟩ := J.look
          obtain ⟨m, hF⟩ := I.fr
          have go : ∀ tb, (∃ P : Heap → Prop, PySem.W.KitX X.K u tb P ∧ P s.heap) → PySem.W.notFirst X.K (n.cA c) tb = true → wpAny (model X.prog X.w) X.A (compareOp .NotEq (.ref ad) u) (EP X pins τ Q) X.xe s := by
            intro tb ⟨P, KX, hP⟩ hn
            show wpAny (model X.prog X.w) X.A (richCompare .NotEq (.ref ad) u) (EP X pins τ Q) X.xe s
            refine PySem.W.neK (tb := tb) (by have := hr.un; omega) hF I.ok.mod.kin J (KX.ty _ _ I.kIn hP) hn h4 h1 h2 h5 ?_
            refine thn (run_fnA FN hr.in1 rfl hb I (us := [.ref ad, u]) (vs := [.ref ad, y]) (.cons rfl (.cons ry .nil)) (callPure (ps := [.ins c fs, q]) (vs := [.ref ad, y]) w (show RDs n H Z [.ins c fs, q] [.ref ad, y] from ⟨rp, rq, trivial⟩) h3 ec ⟨b, rfl⟩)) fun r s' ⟨v, H', I', rv, ⟨b2, eb2, ev2⟩, w2, s2⟩ => ?_
            cases eb2
            subst ev2
            cases rv
            exact ⟨b, rfl, .bl (!b), H', I', rfl, kk _ H' Z w2 s2 (.bl (!b))⟩
          by_cases hj : ∃ c' fs', q = .ins c' fs'
          · obtain ⟨c', fs', rfl⟩ := hj
            obtain ⟨ad', dx', fv', rfl, ea', rf'⟩ := rq.ins
            obtain rfl : u = Value.ref ad' := ry
            have hok : g.fok c' 0 = true := hok
            obtain ⟨P, KX, hP, _⟩ := kitEv ft cf I rq (u := .ref ad') rfl fun c2 fs2 z => by cases z; exact hok
            exact go _ ⟨P, KX, hP⟩ (ft.K ▸ cf.nf c c' h0 hok)
          · have hj' : ∀ c fs, q ≠ .ins c fs := fun c fs z => hj ⟨c, fs, z⟩
            have hl : ∀ k, q ≠ .lam k := fun k z => by subst z; exact rq.noLam
            obtain ⟨hm, et⟩ := tyN_mem (n := n) hj' hl
            obtain ⟨P, KX, hP, _⟩ := kitEv ft cf I rq ry fun c fs z => absurd z (hj' c fs)
            rw [et] at KX
            exact go _ ⟨P, KX, hP⟩ (ft.K ▸ cf.nfT c _ h0 hm)
        | _ => cases e
  · have hi' : ∀ c fs, p ≠ .ins c fs := fun c fs z => hi ⟨c, fs, z⟩
    have e : (match prim .ne [p, q] with | some (v, o) => O.ok (Ar.v v o) ρ | none => .no) = .ok a ρ := by
      rw [← e]
      unfold primO
      cases p <;> first | rfl | exact absurd rfl (hi' _ _)
    cases ep : prim .ne [p, q] with
    | none => rw [ep] at e; cases e
    | some ro =>
      obtain ⟨r, o⟩ := ro
      rw [ep] at e
      cases e
      refine thn (o_ne ft.K (by have := ft.hu; omega) pins s τ ρ σ H Z p q x y v u r o I w rp rq rx ry ep) fun z s1 ⟨v1, H1, I1, r1, Z1, w1, st, vr⟩ => ?_
      exact ⟨v1, H1, I1, r1, kk v1 H1 Z1 w1 st vr⟩
end
end Ev

set_option Elab.async false
set_option linter.all false
set_option maxRecDepth 100000
/-! From the text to the core: expressions. -/
namespace Ev
open PySem PySem.Spec PyProof.Rows L2

inductive Gv where
  | fn (f : Nat) | cl (c : Nat) | xc (c : Nat) | val (p : PV) | abs | unk
/-- a class whose __init__ is object's -/
structure Mk0 (K : PySem.W.Frag) (C : Addr) : Prop where
  makes : PySem.W.makesIn K C = true
  init : PySem.W.findIn K (.ref C) "__init__" = some (some (.builtin "object.__init__"))
  top : PySem.W.mroIn K C (.type "object") = some true
  kp : PySem.W.keepIn K (.ref C) = true
/-- the promise of an exception's __init__ that stores its arguments -/
def spX (n : En) (C : Addr) (fs : List Nat) : Sp := fun vs H Q _ => ∃ e ys, vs = .ref e :: ys ∧ ys.length = fs.length ∧ H e = some (exo e C none) ∧
  ∀ H2 d, H2 e = some (exo e C (some d)) → H2 d = some (exd d ((fs.map n.fN).zip ys).reverse) → H d = none → (∀ b, b ≠ e → b ≠ d → H2 b = H b) → Q .non H2
/-- an exception class of the program's own -/
structure XcOk (X : Cx) (n : En) (k : Nat) (c : Nat) (fs : List Nat) : Prop where
  oex : OexC X.K (n.cA c)
  few : fs.length ≤ 8
  xf : XfC X.K (n.cA c)
  nof : ∀ f ∈ fs, PySem.W.findIn X.K (.ref (n.cA c)) (n.fN f) = some none
  init : ∃ fI fd ps, PySem.W.findIn X.K (.ref (n.cA c)) "__init__" = some (some (.ref fI)) ∧ PySem.W.typeIn X.K (.ref fI) = some (.type "function") ∧ FnOk X.prog X.w X.K X.mg X.base (L2.CX X.prog X.w) k fI fd ps (spX n (n.cA c) fs) ∧ Binds X.K fd ps []
/-- what is known where a text stands -/
structure Gm where
  N : List Str
  sc : Scope
  fnB : Str → Bool
  gl : Str → Gv
  ids : Str → Option Nat
  L : List Nat
def idx (x : Str) : List Str → Option Nat
  | [] => none
  | y :: r => if y = x then some 0 else (idx x r).map (· + 1)
theorem idx_at {x : Str} : ∀ {l : List Str} {i : Nat}, idx x l = some i → l[i]? = some x
  | y :: r, i, h => by
    unfold idx at h
    by_cases c : y = x
    · rw [if_pos c] at h; cases h
      rw [← c]; rfl
    · rw [if_neg c] at h
      cases e : idx x r with
      | none => rw [e] at h; cases h
      | some j =>
        rw [e] at h; cases h
        simpa using idx_at e
def isVis (sc : Scope) (x : Str) : Bool := match sc.names.lookup x with
  | some .local => true | some .cell => true | some .free => true | _ => false
theorem isVis_ok {sc : Scope} {x : Str} (h : isVis sc x = true) : Vis sc x := by
  unfold isVis at h
  split at h
  · rename_i e; exact .inl e
  · rename_i e; exact .inr (.inl e)
  · rename_i e; exact .inr (.inr e)
  · cases h
def isGl (sc : Scope) (x : Str) : Bool := match sc.names.lookup x with
  | some .globalImplicit => true | _ => false
theorem isGl_ok {sc : Scope} {x : Str} (h : isGl sc x = true) : sc.names.lookup x = some .globalImplicit := by
  unfold isGl at h
  split at h
  · rename_i e; exact e
  · cases h
/-- a name that may be stored to -/
def isLoc (Γ : Gm) (x : Str) : Bool := match Γ.sc.names.lookup x with
  | some .local => true | some .cell => Γ.fnB x | _ => false
def nd (x : Str) : Bool := !(x == ("__debug__" : Str)) && !(x == ("__classdict__" : Str)) && !(x == ("__name__" : Str))
theorem nd_ok {x : Str} (h : nd x = true) : (x == ("__debug__" : Str)) = false ∧ (x == ("__classdict__" : Str)) = false ∧ x ≠ "__name__" := by
  unfold nd at h
  simp only [Bool.and_eq_true, Bool.not_eq_true'] at h
  exact ⟨h.1.1, h.1.2, by simpa using h.2⟩
/-- the context that a text is read in -/
structure Ctx (n : En) (g : G) (cl : FC) (k : Nat) (known : Nat → Prop) (X : Cx) (Γ : Gm) (W : WX) : Prop where
  fit : Fit X n
  cf : CFacts n g
  calm : X.calm = true
  N : X.N = Γ.N
  nd : Γ.N.Nodup
  sc : X.env.scope = Γ.sc
  fn : ∀ x, Γ.fnB x = true → X.fn x = true
  tk : Takes X W
  room : Room (k + 1) X.A
  fns : ∀ f, known f → FnAt X n g cl k f
  ids : ∀ x i, Γ.ids x = some i → n.fN i = x
  gfn : ∀ x f, Γ.gl x = .fn f → known f ∧ X.mg x = some (.ref (n.fA f)) ∧ PySem.W.keepIn X.K (.ref (n.fA f)) = true
  gcl : ∀ x c, Γ.gl x = .cl c → X.mg x = some (.ref (n.cA c)) ∧ g.fok c 0 = true ∧ (∀ f, g.init c = some f → known f ∧ Mk X.K (n.cA c) (n.fA f)) ∧ (g.bare c = true → Mk0 X.K (n.cA c))
  gxc : ∀ x c, Γ.gl x = .xc c → X.mg x = some (.ref (n.cA c))
  xok : ∀ c fs, g.xin c = some fs → XcOk X n k c fs
  xm : ∀ c d, (g.xin c).isSome = true → (g.xin d).isSome = true → PySem.W.exmOne X.K (.ref (n.cA c)) (.ref (n.cA d)) = some (g.isa c d)
  gtup : ∀ x l, Γ.gl x = .val (.tup l) → ∃ q ob, X.mg x = some (.ref q) ∧ X.K.lookup q = some ob ∧ ob.cls = .type "tuple" ∧ ob.dict = none ∧ ∀ H Z, RV n H Z (.tup l) (.ref q)
  gval : ∀ x p, Γ.gl x = .val p → ∃ v u, X.mg x = some u ∧ RelV v u ∧ ∀ H Z, RV n H Z p v
  gabs : ∀ x, Γ.gl x = .abs → X.mg x = none
  mth : ∀ m c f, g.meth m c = some f → known f ∧ Cls X.K (n.cA c) ∧ Meth X.K (n.cA c) (n.fN m) (n.fA f)
  own : ∀ f, (∃ c, g.eqF c = some f) ∨ (∃ c, g.boolF c = some f) → known f
section
variable {n : En} {g : G} {cl : FC} {k : Nat} {known : Nat → Prop} {X : Cx} {Γ : Gm} {W : WX}
theorem Ctx.tru (C : Ctx n g cl k known X Γ W) : TruR X (rTr n g cl) := truR (fun f h => C.fns f (C.own f h)) C.room C.fit C.cf
theorem Ctx.vis (C : Ctx n g cl k known X Γ W) {x : Str} (h : isVis Γ.sc x = true) : Vis X.env.scope x := by rw [C.sc]; exact isVis_ok h
theorem Ctx.gl (C : Ctx n g cl k known X Γ W) {x : Str} (h : isGl Γ.sc x = true) : Gl X x := by
  show X.env.scope.names.lookup x = some .globalImplicit
  rw [C.sc]; exact isGl_ok h
theorem Ctx.loc (C : Ctx n g cl k known X Γ W) {x : Str} (h : isLoc Γ x = true) : Loc X.env.scope x ∧ (X.fn x = true ∨ X.env.scope.names.lookup x = some .local) := by
  unfold isLoc at h
  rw [C.sc]
  split at h
  · rename_i e; exact ⟨.inl e, .inr e⟩
  · rename_i e; exact ⟨.inr e, .inl (C.fn x h)⟩
  · cases h
theorem Ctx.slot (C : Ctx n g cl k known X Γ W) {x : Str} {i : Nat} (h : idx x Γ.N = some i) : X.N[i]? = some x := by rw [C.N]; exact idx_at h
/-! ### operators -/
theorem Ctx.bin (C : Ctx n g cl k known X Γ W) {op : Operator} {pr : Pr} (h : binPr op = some pr) : OpR X (binaryOp op) (rP n g cl pr) := by
  have ar : ∀ {pr : Pr} {kk : PV → PV → Option (PV × Bool)}, (match pr with | .eq | .ne | .bool1 | .isi _ _ => False | _ => True) → (∀ p q, prim pr [p, q] = kk p q) → ∀ p q ρ a, primO g cl pr [p, q] ρ = .ok a ρ → ∃ r o, a = .v r o ∧ kk p q = some (r, o) := fun {pr kk} h1 h2 p q ρ a e => by
    obtain ⟨r, o, h3, h4⟩ := primO_arith h1 e
    exact ⟨r, o, h3, by rw [← h2]; exact h4⟩
  cases op <;> first
    | cases h
    | skip
  · exact Op2.rP (o_add C.fit.K) (ar trivial fun _ _ => rfl)
  · exact Op2.rP o_sub (ar trivial fun _ _ => rfl)
  · exact Op2.rP o_mul (ar trivial fun _ _ => rfl)
  · exact Op2.rP o_mod (ar trivial fun _ _ => rfl)
  · exact Op2.rP o_pow (ar trivial fun _ _ => rfl)
  · exact Op2.rP o_fdiv (ar trivial fun _ _ => rfl)
theorem Ctx.cmp (C : Ctx n g cl k known X Γ W) {op : CmpOp} {pr : Pr} (h : cmpPr op = some pr) : OpR X (compareOp op) (rP n g cl pr) := by
  have ar : ∀ {pr : Pr} {kk : PV → PV → Option (PV × Bool)}, (match pr with | .eq | .ne | .bool1 | .isi _ _ => False | _ => True) → (∀ p q, prim pr [p, q] = kk p q) → ∀ p q ρ a, primO g cl pr [p, q] ρ = .ok a ρ → ∃ r o, a = .v r o ∧ kk p q = some (r, o) := fun {pr kk} h1 h2 p q ρ a e => by
    obtain ⟨r, o, h3, h4⟩ := primO_arith h1 e
    exact ⟨r, o, h3, by rw [← h2]; exact h4⟩
  cases op <;> first
    | cases h
    | skip
  · exact eqR (fun f h => C.fns f (C.own f h)) C.room C.fit C.cf
  · exact neR (fun f h => C.fns f (C.own f h)) C.room C.fit C.cf
  · exact Op2.rP (op2_cmp op_lt) (ar trivial fun _ _ => rfl)
  · exact Op2.rP (op2_cmp op_le) (ar trivial fun _ _ => rfl)
  · exact Op2.rP (op2_cmp op_gt) (ar trivial fun _ _ => rfl)
  · exact Op2.rP (op2_cmp op_ge) (ar trivial fun _ _ => rfl)
  · exact Op2.rP (o_mem C.fit false) (ar trivial fun _ _ => rfl)
  · exact Op2.rP (o_mem C.fit true) (ar trivial fun _ _ => rfl)
theorem cmpPr_ish {op : CmpOp} {pr : Pr} (h : cmpPr op = some pr) : cmpish pr = true := by
  cases op <;> cases h <;> rfl
/-! ### built-in calls -/
inductive Bi where
  | fn (id : String) (pr : Pr) | ty (T : String) (pr : Pr)
def biOf (x : Str) (nargs : Nat) : Option Bi :=
  if x = "len" then (if nargs = 1 then some (.fn "len" .len) else none)
  else if x = "int" then (if nargs = 1 then some (.ty "int" .int1) else none)
  else if x = "tuple" then (if nargs = 1 then some (.ty "tuple" .tuple1) else none)
  else if x = "list" then (if nargs = 1 then some (.ty "list" .list1) else none)
  else if x = "sorted" then (if nargs = 1 then some (.fn "sorted" .sorted1) else none)
  else if x = "sum" then (if nargs = 1 then some (.fn "sum" .sum1) else none)
  else if x = "any" then (if nargs = 1 then some (.fn "any" .any1) else none)
  else if x = "all" then (if nargs = 1 then some (.fn "all" .all1) else none)
  else if x = "max" then (if nargs = 1 then some (.fn "max" .max1) else if nargs = 2 then some (.fn "max" .max2) else none)
  else if x = "min" then (if nargs = 1 then some (.fn "min" .min1) else if nargs = 2 then some (.fn "min" .min2) else none)
  else if x = "bool" then (if nargs = 1 then some (.ty "bool" .bool1) else none)
  else none
theorem prim1 {pr : Pr} {kk : PV → Option (PV × Bool)} (h1 : match pr with | .eq | .ne | .bool1 | .isi _ _ => False | _ => True) (h2 : ∀ p, prim pr [p] = kk p) (h3 : ∀ ps, ps.length ≠ 1 → prim pr ps = none) :
    ∀ ps ρ a, primO g cl pr ps ρ = .ok a ρ → ∃ p r o, ps = [p] ∧ a = .v r o ∧ kk p = some (r, o) := fun ps ρ a e => by
  obtain ⟨r, o, h, h4⟩ := primO_arith h1 e
  obtain ⟨p, h5, h6⟩ := prim_one h2 h3 h4
  exact ⟨p, r, o, h5, h, h6⟩
theorem prim2 {pr : Pr} {ps : List PV} {r : PV} {o : Bool} (h3 : ∀ ps, ps.length ≠ 2 → prim pr ps = none) (e : prim pr ps = some (r, o)) : ∃ p q, ps = [p, q] := by
  match ps with
  | [p, q] => exact ⟨p, q, rfl⟩
  | [] => rw [h3 _ (by decide)] at e; cases e
  | [_] => rw [h3 _ (by simp)] at e; cases e
  | _ :: _ :: _ :: _ => rw [h3 _ (by simp)] at e; cases e
theorem RDs.inv2 {H : Hp} {Z : Addr → Prop} {p q : PV} {xs : List V} (h : RDs n H Z [p, q] xs) : ∃ x y, xs = [x, y] ∧ RD n H Z p x ∧ RD n H Z q y := by
  cases xs with
  | nil => exact False.elim h
  | cons x xs =>
    cases xs with
    | nil => exact False.elim (And.right h)
    | cons y xs =>
      cases xs with
      | nil => exact ⟨x, y, rfl, And.left h, And.left (And.right h)⟩
      | cons z xs => exact False.elim (And.right (And.right h))
theorem RDs.inv1 {H : Hp} {Z : Addr → Prop} {p : PV} {xs : List V} (h : RDs n H Z [p] xs) : ∃ x, xs = [x] ∧ RD n H Z p x := by
  cases xs with
  | nil => exact False.elim h
  | cons x xs =>
    cases xs with
    | nil => exact ⟨x, rfl, And.left h⟩
    | cons y xs => exact False.elim (And.right h)
theorem max2R (hc : X.calm = true) : CallR X (.builtin "max") (rC n g cl .max2) := by
  intro pins s τ H xs us Q I rx h
  obtain ⟨ρ, σ, Z, ps, a, w, rd, e, kk⟩ := h
  obtain ⟨r, o, rfl, e1⟩ := primO_arith (pr := .max2) trivial e
  obtain ⟨p, q, rfl⟩ := prim2 (fun ps h => match ps, h with | [], _ => rfl | [_], _ => rfl | [_, _], h => absurd rfl h | _ :: _ :: _ :: _, _ => rfl) e1
  obtain ⟨x, y, rfl, r1, r2⟩ := rd.inv2
  have e1 : int2 (fun a b => some (.int (if b > a then b else a))) p q = some (r, o) := e1
  unfold int2 at e1
  split at e1
  · cases e1
    exact call_max2 hc pins s τ H [x, y] us Q I rx ⟨_, _, by rw [r1.int, r2.int], kk _ H Z w .refl (.int _)⟩
  · cases e1
theorem min2R (hc : X.calm = true) : CallR X (.builtin "min") (rC n g cl .min2) := by
  intro pins s τ H xs us Q I rx h
  obtain ⟨ρ, σ, Z, ps, a, w, rd, e, kk⟩ := h
  obtain ⟨r, o, rfl, e1⟩ := primO_arith (pr := .min2) trivial e
  obtain ⟨p, q, rfl⟩ := prim2 (fun ps h => match ps, h with | [], _ => rfl | [_], _ => rfl | [_, _], h => absurd rfl h | _ :: _ :: _ :: _, _ => rfl) e1
  obtain ⟨x, y, rfl, r1, r2⟩ := rd.inv2
  have e1 : int2 (fun a b => some (.int (if b < a then b else a))) p q = some (r, o) := e1
  unfold int2 at e1
  split at e1
  · cases e1
    exact call_min2 hc pins s τ H [x, y] us Q I rx ⟨_, _, by rw [r1.int, r2.int], kk _ H Z w .refl (.int _)⟩
  · cases e1
theorem bool_any {prog : Program} {w : World} {x : Value} : MeetsIn prog w (Builtin.«bool.__new__» ⟨[.type "bool", x], []⟩) (fun A R s => wpAny (model prog w) A.in1 (truthy x) (fun b s' => R (.ok (.ret (.bool b))) s') (fun e s' => R (.error e) s') s) :=
  .of_wp fun A R s hs => by
    obtain ⟨hp, g, d, tk, os⟩ := s
    have f1 := F.conv_sub_bool
    have h2 : wpAny (model prog w) A.in1 (truthy x) (fun b s' => R (.ok (.ret (.bool b))) s') (fun e s' => R (.error e) s') ⟨hp, g, d, tk, os⟩ := hs
    unfold Builtin.«bool.__new__»
    repeat (first | (with_reducible refine wpAny_bind (m := truthy x) (wpAny_mono h2 (fun b s' hb => ?_) fun _ _ e => e)) | wp_step)
    exact ⟨_, rfl, hb⟩
theorem boolR (C : Ctx n g cl k known X Γ W) : CallR X (.type "bool") (rC n g cl .bool1) := by
  intro pins s τ H xs us Q I rx h
  obtain ⟨ρ, σ, Z, ps, a, w, rd, e, kk⟩ := h
  have sh : ∃ p, ps = [p] ∧ ((∃ c fs, p = .ins c fs) ∨ (∃ i, p = .int i) ∨ ∃ b, p = .bl b) := by
    unfold primO at e
    match ps, e with
    | [.ins c fs], _ => exact ⟨_, rfl, .inl ⟨_, _, rfl⟩⟩
    | [.int i], _ => exact ⟨_, rfl, .inr (.inl ⟨_, rfl⟩)⟩
    | [.bl b], _ => exact ⟨_, rfl, .inr (.inr ⟨_, rfl⟩)⟩
    | [.non], e => cases e
    | [.str _], e => cases e
    | [.tup _], e => cases e
    | [.lst _], e => cases e
    | [.dct _], e => cases e
    | [.lam _], e => cases e
    | [], e => cases e
    | a0 :: _ :: _, e => cases a0 <;> cases e
  obtain ⟨p, rfl, hp⟩ := sh
  obtain ⟨x, rfl, rp⟩ := rd.inv1
  rcases hp with ⟨c, fs, rfl⟩ | ⟨i, rfl⟩ | ⟨b, rfl⟩
  · obtain ⟨ad, dx, fv, rfl, ea, rf⟩ := rp.ins
    obtain ⟨u, rfl, ru⟩ := Vals.one rx
    obtain rfl : u = Value.ref ad := ru
    have e : ((match g.boolF c with
      | some f => (match cl f [.ins c fs] with
        | .rt (.bl b) _ _ => O.ok b ρ
        | _ => .no)
      | none => .no).bd fun b ρ => O.ok (Ar.v (.bl b) false) ρ) = .ok a ρ := e
    cases eb : g.boolF c with
    | none => rw [eb] at e; cases e
    | some f =>
      rw [eb] at e
      dsimp only at e
      obtain ⟨h1, h2, h3⟩ := C.cf.boolF c f eb
      rw [C.fit.K] at h1 h2
      cases ec : cl f [.ins c fs] with
      | no => rw [ec] at e; cases e
      | ex x => rw [ec] at e; cases e
      | rt pv o outs =>
        rw [ec] at e
        cases pv with
        | bl b =>
          cases e
          obtain ⟨fd, ps, FN, hb⟩ := (C.fns f (C.own f (.inr ⟨c, eb⟩))).ok
          obtain ⟨mA, J, _⟩ := ins_get I.hok ea
          obtain ⟨od, J, _⟩ := J.look
          obtain ⟨m, hF⟩ := I.fr
          have hr : Room k X.A.in1.in1 := ⟨C.room.hd, by have := C.room.dp; show X.A.depth + 3 * k + 5 < _; omega, by have := C.room.un; show X.A.units + 1 + 1 + 16 * k + 200 < _; omega⟩
          refine callType_newIn F.called_bool F.newNe_bool (F.typeCall_bool_1 _) (F.newCall_bool_1 _) (fun obj => F.args_object_init_2 obj _) F.entry_bool_new bool_any ?_
          refine PySem.W.truthy_K hF I.ok.mod.kin J h1 h2 ?_
          refine thn (run_fnA FN hr rfl hb I (us := [.ref ad]) (vs := [.ref ad]) (.cons rfl .nil) (callPure (ps := [.ins c fs]) (vs := [.ref ad]) w (show RDs n H Z [.ins c fs] [.ref ad] from ⟨rp, trivial⟩) h3 ec ⟨b, rfl⟩)) fun r s' ⟨v, H', I', rv, ⟨b2, eb2, ev2⟩, w2, s2⟩ => ?_
          cases eb2
          subst ev2
          cases rv
          exact ⟨PySem.typeIs_bool _ _, .bl b, H', I', rfl, kk _ H' Z w2 s2 (.bl b)⟩
        | _ => cases e
  · cases e
    exact call_bool1 pins s τ H [x] us Q I rx (.inl ⟨i, by rw [rp.int], kk _ H Z w .refl (.bl _)⟩)
  · cases e
    exact call_bool1 pins s τ H [x] us Q I rx (.inr ⟨b, by rw [rp.bl], kk _ H Z w .refl (.bl _)⟩)
theorem one_len {pr : Pr} (h : ∀ a b r, prim pr (a :: b :: r) = none) (h0 : prim pr [] = none) : ∀ ps, ps.length ≠ 1 → prim pr ps = none := fun ps hl =>
  match ps, hl with
  | [], _ => h0
  | [_], hl => absurd rfl hl
  | a :: b :: r, _ => h a b r
def BiOk (X : Cx) (n : En) (g : G) (cl : FC) (x : Str) : Bi → Prop
  | .fn id pr => bootBuiltins x = some (.builtin id) ∧ CallR X (.builtin id) (rC n g cl pr)
  | .ty T pr => bootBuiltins x = some (.type T) ∧ CallR X (.type T) (rC n g cl pr)
/-- every built-in of the table -/
theorem Ctx.bi (C : Ctx n g cl k known X Γ W) {x : Str} {m : Nat} {b : Bi} (h : biOf x m = some b) : BiOk X n g cl x b := by
  have c1 : ∀ {pr : Pr} {f : Value} {kk : PV → Option (PV × Bool)}, Op1C X n f kk → (match pr with | .eq | .ne | .bool1 | .isi _ _ => False | _ => True) → (∀ p, prim pr [p] = kk p) → (∀ a b r, prim pr (a :: b :: r) = none) → prim pr [] = none → CallR X f (rC n g cl pr) :=
    fun {pr f kk} ho h1 h2 h3 h4 => Op1C.rC ho (prim1 h1 h2 (one_len h3 h4))
  unfold biOf at h
  by_cases e1 : x = "len"
  · subst e1
    rw [if_pos rfl] at h
    split at h
    · cases h; exact ⟨by decide +kernel, c1 (o_lenD C.fit) trivial (fun _ => rfl) (fun _ _ _ => rfl) rfl⟩
    · cases h
  rw [if_neg e1] at h
  by_cases e2 : x = "int"
  · subst e2
    rw [if_pos rfl] at h
    split at h
    · cases h; exact ⟨by decide +kernel, c1 o_int1 trivial (fun _ => rfl) (fun a _ _ => by cases a <;> rfl) rfl⟩
    · cases h
  rw [if_neg e2] at h
  by_cases e3 : x = "tuple"
  · subst e3
    rw [if_pos rfl] at h
    split at h
    · cases h; exact ⟨by decide +kernel, c1 (o_tuple1 C.fit.K) trivial (fun _ => rfl) (fun a _ _ => by cases a <;> rfl) rfl⟩
    · cases h
  rw [if_neg e3] at h
  by_cases e4 : x = "list"
  · subst e4
    rw [if_pos rfl] at h
    split at h
    · cases h; exact ⟨by decide +kernel, c1 (o_list1 C.fit.K) trivial (fun _ => rfl) (fun a _ _ => by cases a <;> rfl) rfl⟩
    · cases h
  rw [if_neg e4] at h
  by_cases e5 : x = "sorted"
  · subst e5
    rw [if_pos rfl] at h
    split at h
    · cases h; exact ⟨by decide +kernel, c1 o_sorted1 trivial (fun _ => rfl) (fun _ _ _ => rfl) rfl⟩
    · cases h
  rw [if_neg e5] at h
  by_cases e6 : x = "sum"
  · subst e6
    rw [if_pos rfl] at h
    split at h
    · cases h; exact ⟨by decide +kernel, c1 (o_sum1 C.calm) trivial (fun _ => rfl) (fun _ _ _ => rfl) rfl⟩
    · cases h
  rw [if_neg e6] at h
  by_cases e7 : x = "any"
  · subst e7
    rw [if_pos rfl] at h
    split at h
    · cases h; exact ⟨by decide +kernel, c1 (o_any1 C.calm) trivial (fun _ => rfl) (fun _ _ _ => rfl) rfl⟩
    · cases h
  rw [if_neg e7] at h
  by_cases e8 : x = "all"
  · subst e8
    rw [if_pos rfl] at h
    split at h
    · cases h; exact ⟨by decide +kernel, c1 (o_all1 C.calm) trivial (fun _ => rfl) (fun _ _ _ => rfl) rfl⟩
    · cases h
  rw [if_neg e8] at h
  by_cases e9 : x = "max"
  · subst e9
    rw [if_pos rfl] at h
    split at h
    · cases h; exact ⟨by decide +kernel, c1 (o_max1 C.calm) trivial (fun _ => rfl) (fun _ _ _ => rfl) rfl⟩
    · split at h
      · cases h; exact ⟨by decide +kernel, max2R C.calm⟩
      · cases h
  rw [if_neg e9] at h
  by_cases e10 : x = "min"
  · subst e10
    rw [if_pos rfl] at h
    split at h
    · cases h; exact ⟨by decide +kernel, c1 (o_min1 C.calm) trivial (fun _ => rfl) (fun _ _ _ => rfl) rfl⟩
    · split at h
      · cases h; exact ⟨by decide +kernel, min2R C.calm⟩
      · cases h
  rw [if_neg e10] at h
  by_cases e11 : x = "bool"
  · subst e11
    rw [if_pos rfl] at h
    split at h
    · cases h; exact ⟨by decide +kernel, boolR C⟩
    · cases h
  rw [if_neg e11] at h
  cases h
end
end Ev

set_option Elab.async false
set_option linter.all false
set_option maxRecDepth 100000
/-! Further expressions: -x, t.index(x), C() without __init__, {}, {k: v}, f().m. -/
namespace Ev
open PySem PySem.Spec PyProof.Rows L2

section
variable {X : Cx} {n : En} {W : WX} {g : G} {cl : FC} {k : Nat} {a b o : Expr} {ca cb oc : E} {pos pos' apos p : Pos} {x : Str}
theorem pe_eneg (ha : PE X a (tE n W (ev g cl false ca))) : PE X (.UnaryOp .USub a pos) (tE n W (ev g cl false (.pr .neg [ca]))) := by
  refine PE.imp (pe_un un_neg ha) fun σ H Q h => ?_
  obtain ⟨ρ, Z, w, hno, hx, k⟩ := tE_un h
  refine ⟨ρ, Z, w, hno, hx, fun a ρ' v H' Z' e w' st ar => ?_⟩
  obtain ⟨ρ1, Z1, p, r, w1, rd, e1, k1⟩ := k a ρ' v H' Z' e w' st ar
  cases p with
  | int i =>
    have e1 : O.ok (Ar.v (.int (-i)) false) ρ1 = O.ok r ρ1 := e1
    cases e1
    exact ⟨i, rd.int, k1 _ _ Z1 w1 .refl (.int _)⟩
  | _ => cases e1
/-! ### the base of an attribute -/
def plainO : Expr → Bool
  | .Call (.Name id _) [] [] _ => id != "super"
  | _ => true
theorem plainO_ok {o : Expr} (h : plainO o = true) (nm : Str) (env : Env) : attributeBase o nm env (eval o env) = eval o env := by
  unfold attributeBase
  split
  · rename_i id p1 p2
    have h : (id != "super") = true := h
    simp [h]
  · rfl
/-! ### t.index(x) -/
theorem idxOf_ok : ∀ {l : List (List Nat)} {x : List Nat} {m j : Nat}, idxOf (.str x) (l.map .str) m = some j → ∃ i, j = m + i ∧ l[i]? = some x ∧ ∀ q, q < i → l[q]? ≠ some x
  | [], x, m, j, h => by cases h
  | y :: l, x, m, j, h => by
    have h : (if eqv (.str y) (.str x) then some m else idxOf (.str x) (l.map .str) (m + 1)) = some j := h
    by_cases c : eqv (.str y) (.str x) = true
    · rw [if_pos c] at h
      cases h
      have c : decide (y = x) = true := c
      rw [decide_eq_true_eq] at c
      exact ⟨0, rfl, by rw [c]; rfl, fun q hq => absurd hq (Nat.not_lt_zero _)⟩
    · rw [if_neg c] at h
      obtain ⟨i, h1, h2, h3⟩ := idxOf_ok h
      refine ⟨i + 1, by omega, by simpa using h2, fun q hq => ?_⟩
      cases q with
      | zero =>
        have c : ¬ decide (y = x) = true := c
        rw [decide_eq_true_eq] at c
        simpa using c
      | succ q => simpa using h3 q (by omega)
theorem strs_map : ∀ {l : List PV} {xs : List (List Nat)}, strs? l = some xs → l = xs.map .str
  | [], xs, h => by cases h; rfl
  | p :: l, xs, h => by
    cases p with
    | str y =>
      have h : (strs? l).map (y :: ·) = some xs := h
      cases e : strs? l with
      | none => rw [e] at h; cases h
      | some q => rw [e] at h; cases h; rw [strs_map e]; rfl
    | _ => cases h
theorem strV_inj {a b : List Nat} (h : strV a = strV b) : a = b := by
  have : (strV a).cps.toList = (strV b).cps.toList := by rw [h]
  simpa [strV] using this
theorem pe_eindex {l : List PV} {q : Addr} (hn : n.K = X.K) (hv : ∀ H Z, RV n H Z (.tup l) (.ref q)) (hk : ∃ ob, X.K.lookup q = some ob ∧ ob.cls = .type "tuple" ∧ ob.dict = none) (ho : PE X o (tC (.ref q))) (ha : PE X a (tE n W (ev g cl false ca))) (hs : notStar a = true) (hb : plainO o = true) (hline : (apos.endLine == pos.line) = true) :
    PE X (.Call (.Attribute o "index" apos) [a] [] pos) (tE n W (ev g cl false (.pr .index [.cst (.tup l), ca]))) := by
  have haa : PA X [a] (tCons (tE n W (ev g cl false ca)) tNil) := pa_cons ha pa_nil (starEach_cons hs)
  refine PE.imp (pe_bm (T := "tuple") PySem.F.plainAttrs_tuple PySem.F.slot_tuple_index PySem.F.type_tuple_index mt_tup_index ho haa (plainO_ok hb _ _) (by rw [starEach_cons hs]; rfl) hline (starEach_cons hs) rfl) fun σ H Q ⟨ρ, Z, w, hno, hx, k⟩ => ?_
  have e0 : ev g cl false (.pr .index [.cst (.tup l), ca]) ρ = (ev g cl false ca ρ).bd fun y ρ => match vals [.v (.tup l) false, y] ρ with
    | some vs => primO g cl .index vs ρ
    | none => .no := by
    rw [evs_pr, evs2]
    rfl
  rw [e0] at hno hx k
  refine ⟨.inr (.inl ⟨rfl, hk⟩), ?_⟩
  have w1 := w
  have b1 : Stp ρ σ H Z ρ σ H Z := .refl
  have ar : AR n H ρ σ H Z (.v (.tup l) false) (.ref q) := hv H Z
  refine tE.go w1 b1 (bd_no hno) hx.bd fun y ρ2 v2 H2 Z2 e2 w2 b2 st ar2 => ?_
  rw [bd_ok e2] at hno hx k
  have arr := ar.step w1 st
  cases e3 : vals [.v (.tup l) false, y] ρ2 with
  | none => rw [e3] at hno; exact absurd rfl hno
  | some ps =>
    have rds := ARs.vals (n := n) (H0 := H) w2 (as := [.v (.tup l) false, y]) (vs := [.ref q, v2]) ⟨arr, ar2, trivial⟩ e3
    rw [e3] at hno k
    unfold vals at e3
    split at e3
    · rename_i p1 ps1 h1 h2
      cases e3
      cases h1
      obtain ⟨p2, rfl, rd2⟩ := RDs.one (And.right rds)
      obtain ⟨z, oo, e4⟩ := primO_ok hno
      have e5 : (match idxV p2 (.tup l) with | some (v, o) => O.ok (Ar.v v o) ρ2 | none => .no) = .ok (.v z oo) ρ2 := e4
      unfold idxV at e5
      dsimp only at e5
      cases p2 with
      | str xx =>
        cases es : strs? l with
        | none => rw [es] at e5; cases e5
        | some xs =>
          rw [es] at e5
          dsimp only at e5
          cases strs_map es
          cases ei : idxOf (.str xx) (xs.map .str) 0 with
          | none => rw [ei] at e5; cases e5
          | some j =>
            rw [ei] at e5
            cases e5
            obtain ⟨i, h3, h4, h5⟩ := idxOf_ok ei
            have rt : RD n H2 Z2 (.tup (xs.map .str)) (.ref q) := arr.val w2 rfl
            obtain ⟨q', vs2, eq, sq2, rs2⟩ := rt.tup
            cases eq
            rw [rs2.strs es] at sq2
            refine ⟨q, xs.map strV, strV xx, j, rfl, by rw [rd2.str], hn ▸ sq2, ?_, fun m hm => ?_, k _ _ _ H2 Z2 e4 w2 b2 (.int _)⟩
            · rw [List.getElem?_map, show j = i by omega, h4]; rfl
            · rw [List.getElem?_map]
              have h6 := h5 m (by omega)
              cases e7 : xs[m]? with
              | none => simp
              | some yy =>
                rw [e7] at h6
                intro z
                have z : some (strV yy) = some (strV xx) := z
                exact h6 (by rw [strV_inj (Option.some.inj z)])
      | _ => cases e5
    · cases e3
/-! ### C(), the __init__ object's -/
theorem run_make0S {C : Addr} {pins : List (Addr × Obj)} {σ : SG} {H : Hp} {s : Shared} {Q : VK} (M : Mk0 X.K C) (I : Inv X pins σ H s)
    (h : ∀ x dx, H x = none → H dx = none → dx ≠ x → Q (.ref x) (upd (upd H dx (.own x)) x (.ins C dx []))) :
    wpAny (model X.prog X.w) X.A (call (.ref C) []) (EP X pins σ Q) X.xe s := by
  have hq := h (s.heap.objs.size + 1) s.heap.objs.size (I.hok.fresh (Nat.le_succ _)) (I.hok.fresh (Nat.le_refl _)) (Nat.ne_of_lt (Nat.lt_succ_self _))
  have I2 := Inv.made (C := C) I
  obtain ⟨mA, O, _⟩ := ins_get (C := C) I2.hok (by rw [upd_same])
  obtain ⟨od, J, _⟩ := O.look
  have t1 : PySem.W.Looks (model X.prog X.w) _ (typeOf (.ref (s.heap.objs.size + 1))) (.ref C) := J.type
  have t2 : PySem.W.Looks (model X.prog X.w) _ (isInstance (.ref (s.heap.objs.size + 1)) (.type "object")) true := t1.andThen (PySem.W.looks_mroIn I2.kIn M.top)
  refine wpAny_call (make_map0 I.kIn M.makes M.init (fun self => PySem.W.Looks.of_pure (PySem.W.oi_bind _)) ?_)
  refine codeAny_call_builtin PySem.W.oi_plain PySem.W.entry_oi (@PySem.W.check_slot (model X.prog X.w) _ _ _ "object.__init__" "object" "__init__" (.ref (s.heap.objs.size + 1)) [] [] _ PySem.W.oi_kind PySem.W.oi_split t2 (PySem.W.oi_args (.ref (s.heap.objs.size + 1))) ?_)
  rw [PySem.W.oi_run]
  exact wpAny_pure (And.intro rfl ⟨V.ref (s.heap.objs.size + 1), _, I2, rfl, hq⟩)
theorem pe_emk0 {c : Nat} (hi : g.init c = none) (M : Mk0 X.K (n.cA c)) (hg : Gl X x) (hm : X.mg x = some (.ref (n.cA c))) (hdb : (x == ("__debug__" : Str)) = false) :
    PE X (.Call (.Name x p) [] [] pos) (tE n W (ev g cl false (.mk c []))) := by
  refine ⟨fun pins s σ H Q I h => ?_⟩
  refine wpAny_Call_Name_kw (ld_glob I hg hm ?_ hdb)
  refine PySem.W.callWith_K0 I.kIn M.kp (run_make0S M I fun x dx nx nd ne => ?_)
  obtain ⟨ρ, Z, w, hno, hx, k⟩ := h
  have e0 : ev g cl false (.mk c []) ρ = (match g.init c with
    | some f => _
    | none => if g.bare c then .ok (.v (.ins c []) true) ρ else .no) := rfl
  rw [hi] at e0
  dsimp only at e0
  by_cases hb : g.bare c = true
  · rw [if_pos hb] at e0
    obtain ⟨mz, mh⟩ := w.made (C := n.cA c) nx nd ne
    obtain ⟨w1, s1, nz1, no1, b1⟩ := w.lay .refl (.own x) nd
    have nx1 : upd H dx (.own x) x = none := by rw [upd_ne (Ne.symm ne)]; exact nx
    obtain ⟨w2, s2, nz2, no2, b2⟩ := w1.lay s1 (.ins (n.cA c) dx []) nx1
    exact k _ _ (.ref x) _ Z e0 w2 s2 ⟨x, rfl, nx, nz2, no2, .ins upd_same .nil⟩
  · rw [if_neg hb] at e0
    exact absurd e0 hno
/-! ### {}, {k: v} -/
theorem DO.empty {H : Hp} (h : Heap) (hb : sysModules < h.objs.size) : ObjOk X.prog X.w H (h.push { cls := .type "dict", data := .dict #[] }) h.objs.size (DO n { cls := .type "dict", data := .dict #[] } h.objs.size []) :=
  DO.ok ⟨beq_eq_false_iff_ne.mpr (Ne.symm (Nat.ne_of_lt hb)), Nat.zero_le _, Heap.get?_push_size _ rfl, #[], 0, ⟨rfl, rfl, rfl⟩, rfl, rfl, List.nodup_nil⟩
theorem pe_edct0 : PE X (.Dict [] [] pos) (tE n W (ev g cl false (.dct []))) := by
  refine ⟨fun pins s σ H Q I ⟨ρ, Z, w, hno, hx, k⟩ => ?_⟩
  have hn := I.hok.fresh (Nat.le_refl s.heap.objs.size)
  obtain ⟨w1, s1, nz, no, _⟩ := w.lay .refl (DO n { cls := .type "dict", data := .dict #[] } s.heap.objs.size []) hn
  exact wpAny_Dict_empty ⟨.ref s.heap.objs.size, _, I.laid (a := s.heap.objs.size) (o := DO n _ _ []) (t' := s.toks) (fun _ _ q => Heap.get?_push_of_some _ q) (Nat.le_refl _) (DO.empty s.heap I.big), rfl,
    k (.v (.dct []) true) ρ _ _ Z rfl w1 s1 ⟨_, rfl, hn, nz, no, .dct upd_same .nil⟩⟩
theorem pe_edct1 (f : Fit X n) {ke ve : Expr} {ck cv : E} (hk : PE X ke (tE n W (ev g cl false ck))) (hv : PE X ve (tE n W (ev g cl false cv))) (nk : isStar ck = false) (nv : isStar cv = false) :
    PE X (.Dict [some ke] [ve] pos) (tE n W (ev g cl false (.dct [ck, cv]))) := by
  refine ⟨fun pins s σ H Q I ⟨ρ, Z, w, hno, hx, k⟩ => ?_⟩
  have e0 : ev g cl false (.dct [ck, cv]) ρ = (disp g cl [ck, cv] ρ).bd fun l ρ => if l.length ≤ 30 then (match pairUp l with
    | some d => if d.all (fun kv => hashy kv.1) then .ok (.v (.dct (d.foldl (fun a kv => dput kv.1 kv.2 a) [])) true) ρ else .no
    | none => .no) else .no := rfl
  have e1 : disp g cl [ck, cv] ρ = (ev g cl false ck ρ).bd fun x ρ => ((use x ρ).bd fun p ρ => .ok [p.1] ρ).bd fun l ρ => (disp g cl [cv] ρ).bd fun q ρ => .ok (l ++ q) ρ := by
    cases ck <;> first | rfl | cases nk
  have e2 : ∀ ρ, disp g cl [cv] ρ = (ev g cl false cv ρ).bd fun x ρ => ((use x ρ).bd fun p ρ => .ok [p.1] ρ).bd fun l ρ => (disp g cl [] ρ).bd fun q ρ => .ok (l ++ q) ρ := by
    intro ρ
    cases cv <;> first | rfl | cases nv
  have hn := I.hok.fresh (Nat.le_refl s.heap.objs.size)
  have I0 := I.laid (a := s.heap.objs.size) (o := DO n _ _ []) (t' := s.toks) (fun _ _ q => Heap.get?_push_of_some _ q) (Nat.le_refl _) (DO.empty (n := n) s.heap I.big)
  obtain ⟨w0, s0, nz0, no0, _⟩ := w.lay .refl (DO n { cls := .type "dict", data := .dict #[] } s.heap.objs.size []) hn
  have hP := f.P
  have hw := f.w
  rw [arm_eval_Dict, zip_pairTrees [some ke] [ve] X.env pos rfl rfl, dictDisplay_pairs _ (by unfold pairTrees; simp) (by unfold pairTrees; simp [pairTrees])]
  refine wpAny_bind (wpAny_standAt (wpAny_bind (wpAny_subDictH (knd := nestedKind X.prog X.w) (Q := fun d s' => wpAny (model X.prog X.w) X.A (pure (Value.ref d)) (EP X pins σ Q) X.xe s') (by have := f.hu; show X.A.units + 8 < cLine; omega) (by unfold pairTrees; simp [pairTrees]) ?_)))
  refine pairTrees_cons_walk ?_
  rw [e0, e1] at hno hx k
  have hx0 := hx.later s0
  have np : ∀ {ρ' : Sl} {H' : Hp} {Z' : Addr → Prop}, Stp ρ σ (upd H s.heap.objs.size (DO n { cls := .type "dict", data := .dict #[] } s.heap.objs.size [])) Z ρ' σ H' Z' →
      H' s.heap.objs.size = some (DO n { cls := .type "dict", data := .dict #[] } s.heap.objs.size []) ∧ ¬ Z' s.heap.objs.size ∧ ¬ OwnA ρ' σ s.heap.objs.size := fun {ρ' H' Z'} st =>
    ⟨st.stay _ _ upd_same NT.dct no0, fun z => (st.zin _ z).elim nz0 fun z => z.elim (fun z => by rw [upd_same] at z; cases z) no0, fun z => (st.oin _ z).elim no0 fun z => by rw [upd_same] at z; cases z⟩
  generalize hHd : upd H s.heap.objs.size (DO n { cls := .type "dict", data := .dict #[] } s.heap.objs.size []) = Hd at I0 w0 s0 hx0 np
  have goal : tE n W (ev g cl false ck) σ Hd fun x H1 => tE n W (ev g cl false cv) σ H1 fun y H2 => ∃ b kp vp ρ4 Z4, x = .ref b ∧ hashy kp = true ∧ Wd n ρ4 σ H2 Z4 ∧ Stp ρ σ Hd Z ρ4 σ H2 Z4 ∧ RV n H2 Z4 kp (.ref b) ∧ RV n H2 Z4 vp y ∧
      ∀ v H' Z', Wd n ρ4 σ H' Z' → Stp ρ σ H Z ρ4 σ H' Z' → VR n H ρ4 σ H' Z' (.dct (dput kp vp [])) true v → Q v H' := by
    refine tE.go w0 .refl (bd_no (bd_no hno)) hx0.bd.bd fun x ρ1 v H1 Z1 e3 w1 b1 _ ar => ?_
    rw [bd_ok e3] at hno hx0 k
    cases eu : use x ρ1 with
    | no => rw [eu] at hno; exact absurd rfl hno
    | ex xx r => exact absurd eu (by unfold use; split <;> (try split) <;> intro h <;> cases h)
    | ok kp ρ2 =>
      obtain ⟨Z2, w2, b2, rk⟩ := use_settled w1 b1 ar eu
      have e4 : ((use x ρ1).bd fun p ρ => (O.ok [p.1] ρ : O (List PV))) = .ok [kp.1] ρ2 := bd_ok eu
      rw [bd_ok e4, e2] at hno hx0 k
      refine tE.go w2 b2 (bd_no (bd_no (bd_no hno))) hx0.bd.bd.bd fun y ρ3 v3 H3 Z3 e5 w3 b3 st3 ar3 => ?_
      rw [bd_ok e5] at hno hx0 k
      cases eu3 : use y ρ3 with
      | no => rw [eu3] at hno; exact absurd rfl hno
      | ex xx r => exact absurd eu3 (by unfold use; split <;> (try split) <;> intro h <;> cases h)
      | ok vp ρ4 =>
        obtain ⟨Z4, w4, b4, rv⟩ := use_settled w3 b3 ar3 eu3
        obtain ⟨Z5, w5, b5, s5, vr5⟩ := use_ok w3 b3 ar3 eu3
        obtain ⟨Z6, w6, b6, m6, rv6⟩ := vr5.settle w5 b5
        have e6 : ((use y ρ3).bd fun p ρ => (O.ok [p.1] ρ : O (List PV))) = .ok [vp.1] ρ4 := bd_ok eu3
        rw [bd_ok e6] at hno k
        have hno : (if (pairUp [kp.1, vp.1]).isSome ∧ hashy kp.1 = true then (0 : Nat) else 1) ≠ 1 := by
          intro z
          apply hno
          by_cases c : hashy kp.1 = true
          · rw [if_pos ⟨rfl, c⟩] at z; cases z
          · show (if ([(kp.1, vp.1)] : List (PV × PV)).all (fun kv => hashy kv.1) then _ else O.no) = O.no
            rw [if_neg]
            simpa using c
        have hk : hashy kp.1 = true := by
          by_cases c : hashy kp.1 = true
          · exact c
          · rw [if_neg (fun z => c z.2)] at hno; exact absurd rfl hno
        obtain ⟨b, rfl⟩ := hashy_ref rk hk
        refine ⟨b, kp.1, vp.1, ρ4, Z6, rfl, hk, w6, b6, ((rk.step w2 st3).step w3 s5).mono m6 fun _ _ => rfl, rv6, fun v H' Z' w' s' vr => ?_⟩
        refine k (.v (.dct (dput kp.1 vp.1 [])) true) ρ4 v H' Z' ?_ w' s' vr
        show (if ([(kp.1, vp.1)] : List (PV × PV)).all (fun kv => hashy kv.1) then O.ok (Ar.v (.dct (dput kp.1 vp.1 [])) true) ρ4 else O.no) = _
        rw [if_pos (by simpa using hk)]
  refine thn (hk.run pins _ σ _ _ I0 goal) fun u1 s1 ⟨x, H1, I1, rx, q1⟩ => thn (hv.run pins s1 σ H1 _ I1 q1) fun u2 s2 ⟨y, H2, I2, ry, b, kp, vp, ρ4, Z4, ex, hkp, w4, b4, rk, rv, kk⟩ => pairTrees_nil_walk ?_
  subst ex
  obtain rfl : u1 = Value.ref b := rx
  obtain ⟨hp, nz, no⟩ := np b4
  obtain ⟨dd, hd, nd⟩ := dct_at (Z := Z4) f I2 hp .nil
  refine ⟨[(toK kp, b, u2)], ⟨rfl, rfl, key_at f I2 rk hkp, trivial⟩, dd, fun h' tk dd' hs => wpAny_pure ?_⟩
  obtain ⟨ob, es, ep, ho, hc, hd', he, _, nd'⟩ := dd'
  have I3 : Inv X pins σ (upd H2 s.heap.objs.size (DO n ob s.heap.objs.size (storedH [] (toK kp) b u2))) { s2 with heap := h', toks := tk } :=
    I2.write (t' := tk) (mu := by rw [hp]; exact trivial) (.inl rfl) (fun b u hb e => (hs.2 b hb).trans e) ⟨_, ho⟩ (DO.ok ⟨hd, by rw [SZ]; exact (by decide : 1 ≤ 16777216), ho, es, ep, hc, hd', by rw [hP, hw]; exact he, nd'⟩)
  have nzx : ∀ c, Z4 c → upd H2 s.heap.objs.size (DO n ob s.heap.objs.size (storedH [] (toK kp) b u2)) c = H2 c := fun c z => upd_ne fun q => nz (q ▸ z)
  have rks : RKs n H2 Z4 (dput kp vp []) (storedH [] (toK kp) b u2) := (RKs.nil).put List.nodup_nil hkp rk rv ry
  exact ⟨.ref s.heap.objs.size, _, I3, rfl, kk _ _ Z4 (w4.side nz no) ((s0.trans b4).side hn) ⟨_, rfl, hn, nz, no, .dct upd_same (rks.mono (fun _ z => z) nzx)⟩⟩
end
end Ev

set_option Elab.async false
set_option linter.all false
set_option maxRecDepth 100000
/-! From the text to the core: expressions, the compiler. -/
namespace Ev
open PySem PySem.Spec PyProof.Rows L2

def isAbs : Gv → Bool
  | .abs => true
  | _ => false
theorem isAbs_ok : ∀ {v : Gv}, isAbs v = true → v = .abs
  | .abs, _ => rfl
  | .fn _, h => nomatch h
  | .cl _, h => nomatch h
  | .xc _, h => nomatch h
  | .val _, h => nomatch h
  | .unk, h => nomatch h
def litV : Const → Option PV
  | .none => some .non
  | .bool b => some (.bl b)
  | .int i => some (.int i)
  | .str s => some (.str (cps s))
  | _ => none
def ownOf (N : List Str) (scope : Scope) : List (Str × Nat) := scope.names.filterMap fun y => match y.2 with
  | .local => (idx y.1 N).map (y.1, ·)
  | .cell => (idx y.1 N).map (y.1, ·)
  | _ => none
def relS (scope sc : Scope) : Scope := { scope with names := scope.names.map fun (n, k) => if (k == .free && sc.kind == .function && sc.names.lookup n == some .cell) then (n, .cell) else (n, k) }
def blkG (Γ : Gm) (scope : Scope) : Gm := { Γ with sc := relS scope Γ.sc, fnB := fun x => scope.names.lookup x == some .cell }
mutual
def cT (Γ : Gm) : Expr → Option T
  | .Name x _ => if isLoc Γ x then (idx x Γ.N).map .nm else none
  | .Tuple es _ _ => (cTl Γ es).map .tup
  | _ => none
def cTl (Γ : Gm) : List Expr → Option (List T)
  | [] => some []
  | e :: es => if notStar e then (match cT Γ e, cTl Γ es with
    | some t, some ts => some (t :: ts)
    | _, _ => none) else none
end
def cA (r : Expr → Option E) : List Expr → Option (List E)
  | [] => some []
  | e :: es => if notStar e then (match r e, cA r es with
    | some c, some cs => some (c :: cs)
    | _, _ => none) else none
def cD (r : Expr → Option E) : List Expr → Option (List E)
  | [] => some []
  | .Starred e _ :: es => (match r e, cD r es with
    | some c, some cs => some (.star c :: cs)
    | _, _ => none)
  | e :: es => (match r e, cD r es with
    | some c, some cs => if isStar c then none else some (c :: cs)
    | _, _ => none)
def cTest (r : Expr → Option E) : List Expr → Option (List E)
  | [] => some []
  | [e] => (r e).map ([·])
  | _ => none
def cI (r : Expr → Option E) (Γ : Gm) (e : Expr) : Option Ev.It :=
  match e with
  | .Call (.Name x _) as [] _ =>
    if x = "range" ∧ isGl Γ.sc x = true ∧ nd x = true ∧ isAbs (Γ.gl x) = true then
      (match as with
      | [a] => (cA r [a]).map .rng
      | [a, b] => (cA r [a, b]).map .rng
      | _ => none)
    else (r e).map .of
  | e => (r e).map .of
def tyNo (x : Str) : Option Nat := if x = "int" then some 0 else if x = "bool" then some 1 else if x = "str" then some 2 else if x = "list" then some 3 else if x = "tuple" then some 4 else if x = "dict" then some 5 else none
def cIsi (g : G) (Γ : Gm) (r : Expr → Option E) : List Expr → Option E
  | [a, .Name c _] => if notStar a && isGl Γ.sc c && nd c then (match Γ.gl c with
      | .cl k => (r a).map fun x => .pr (.isi [k] []) [x]
      | .abs => (match tyNo c with
        | some t => (r a).map fun x => .pr (.isi [] [t]) [x]
        | none => none)
      | _ => none) else none
  | _ => none
def biPr : Bi → Pr
  | .fn _ p => p
  | .ty _ p => p
def cFn (g : G) (r : Expr → Option E) (Γ : Gm) (x : Str) (as : List Expr) : Option E :=
  if isGl Γ.sc x && nd x then (match Γ.gl x with
    | .fn f => (cA r as).map (.call f)
    | .cl c => (match g.init c with
      | some _ => (cA r as).map (.mk c)
      | none => if g.bare c && as.isEmpty then some (.mk c []) else none)
    | .abs => if x = "isinstance" then cIsi g Γ r as else (match biOf x as.length with
      | some b => if as.isEmpty then none else (cA r as).map (.pr (biPr b))
      | none => none)
    | _ => none) else none
def cApp (r : Expr → Option E) (Γ : Gm) (o : Expr) (as : List Expr) : Option E :=
  match o, as with
  | .Name x _, [a] => if isVis Γ.sc x && nd x && notStar a then (match idx x Γ.N, r a with
    | some i, some c => some (.bm i .append [c])
    | _, _ => none) else none
  | _, _ => none
def cIdx (r : Expr → Option E) (Γ : Gm) (o : Expr) (as : List Expr) : Option E :=
  match o, as with
  | .Name x _, [a] => if isGl Γ.sc x && nd x && notStar a then (match Γ.gl x with
    | .val (.tup l) => (r a).map fun c => .pr .index [.cst (.tup l), c]
    | _ => none) else none
  | _, _ => none
def cMeth (r : Expr → Option E) (Γ : Gm) (o : Expr) (nm : Str) (as : List Expr) : Option E :=
  match Γ.ids nm, r o, cA r as with
  | some m, some c, some cs => if as.length < 30 then some (.meth m c cs) else none
  | _, _, _ => none
def cLc (r : Gm → Expr → Option E) (Γ : Gm) (elt : Expr) (gens : List Comprehension) (scope : Scope) : Option E :=
  let own := ownOf Γ.N scope
  let js := own.map (·.2)
  if blkC Γ.N Γ.sc scope own then
    (match gens with
    | [⟨tg, it, ifs, 0⟩] => if notSet it then (match cI (r Γ) Γ it, cT (blkG Γ scope) tg, cTest (r (blkG Γ scope)) ifs, r (blkG Γ scope) elt with
      | some i, some t, some q, some c => if (tslots t).all (· ∈ js) then some (.lc js t i q c) else none
      | _, _, _, _ => none) else none
    | [⟨tg, it, ifs, 0⟩, ⟨tg1, it1, ifs1, 0⟩] => if notSet it && notSet it1 then (match cI (r Γ) Γ it, cT (blkG Γ scope) tg, cTest (r (blkG Γ scope)) ifs, cI (r (blkG Γ scope)) (blkG Γ scope) it1, cT (blkG Γ scope) tg1, cTest (r (blkG Γ scope)) ifs1, r (blkG Γ scope) elt with
      | some i, some t, some q, some i1, some t1, some q1, some c => if (tslots t).all (· ∈ js) && (tslots t1).all (· ∈ js) then some (.lc2 js t i q (tslots t1) t1 i1 q1 c) else none
      | _, _, _, _, _, _, _ => none) else none
    | _ => none)
  else none
def cCmp (r : Expr → Option E) (a : Expr) (ops : List CmpOp) (bs : List Expr) : Option E :=
  match ops, bs with
  | [.Is], [.Constant .none _ _] => (r a).map fun x => .pr .isN [x]
  | [.IsNot], [.Constant .none _ _] => (r a).map fun x => .pr .notN [x]
  | [op], [b] => if behindInMarks op b then none else (match cmpPr op, r a, r b with
    | some p, some x, some y => some (.pr p [x, y])
    | _, _, _ => none)
  | [o1, o2], [b, c] => if lastMarks [o1, o2] [b, c] then none else (match cmpPr o1, cmpPr o2, r a, r b, r c with
    | some p, some q, some x, some y, some z => some (.chn p q x y z)
    | _, _, _, _, _ => none)
  | _, _ => none
def cSub (r : Expr → Option E) (a s : Expr) : Option E :=
  match s with
  | .Slice none none none _ => (r a).map fun x => .pr (.sll false false) [x]
  | .Slice (some b) none none _ => (match r a, r b with | some x, some y => some (.pr (.sll true false) [x, y]) | _, _ => none)
  | .Slice none (some b) none _ => (match r a, r b with | some x, some y => some (.pr (.sll false true) [x, y]) | _, _ => none)
  | .Slice (some b) (some c) none _ => (match r a, r b, r c with | some x, some y, some z => some (.sl2 x y z) | _, _, _ => none)
  | .Slice _ _ _ _ => none
  | b => (match r a, r b with | some x, some y => if notSlice b then some (.pr .ix [x, y]) else none | _, _ => none)
def cName (Γ : Gm) (x : Str) : Option E :=
  if nd x then (if isVis Γ.sc x then (idx x Γ.N).map .var else if isGl Γ.sc x then (match Γ.gl x with
    | .val p => some (.cst p)
    | _ => none) else none) else none
def cBool (r : Expr → Option E) (op : BoolOp) (vs : List Expr) (pos : Pos) : Option E :=
  match vs with
  | [] => none
  | [a] => r a
  | a :: b :: q => (match r a, r (.BoolOp op (b :: q) pos) with
    | some x, some y => some (match op with | .And => .and_ x y | .Or => .or_ x y)
    | _, _ => none)
def cDct (r : Expr → Option E) : List (Option Expr) → List Expr → Option E
  | [], [] => some (.dct [])
  | [some k], [v] => (match r k, r v with
    | some x, some y => if isStar x || isStar y then none else some (.dct [x, y])
    | _, _ => none)
  | _, _ => none
def stepE (g : G) (r : Gm → Expr → Option E) (Γ : Gm) : Expr → Option E
  | .Name x _ => cName Γ x
  | .Constant v _ _ => (litV v).map .cst
  | .BoolOp op vs pos => cBool (r Γ) op vs pos
  | .BinOp a op b _ => (match binPr op, r Γ a, r Γ b with
    | some p, some x, some y => some (.pr p [x, y])
    | _, _, _ => none)
  | .UnaryOp .Not a _ => (r Γ a).map .not_
  | .UnaryOp .USub a _ => (r Γ a).map fun x => .pr .neg [x]
  | .IfExp t a b _ => (match r Γ t, r Γ a, r Γ b with
    | some x, some y, some z => some (.ite x y z)
    | _, _, _ => none)
  | .Dict ks vs _ => cDct (r Γ) ks vs
  | .ListComp elt gens scope _ => cLc r Γ elt gens scope
  | .Compare a ops bs _ => cCmp (r Γ) a ops bs
  | .Call (.Name x _) as [] _ => cFn g (r Γ) Γ x as
  | .Call (.Attribute o nm apos) as [] pos => if plainO o && (apos.endLine == pos.line) then
      (if nm = "append" then cApp (r Γ) Γ o as else if nm = "index" then cIdx (r Γ) Γ o as else cMeth (r Γ) Γ o nm as) else none
  | .Attribute o f _ => if plainO o then (match Γ.ids f, r Γ o with
    | some i, some c => some (.fld c i)
    | _, _ => none) else none
  | .Subscript a s _ => cSub (r Γ) a s
  | .List es _ => (cD (r Γ) es).map .lst
  | .Tuple es _ _ => (cD (r Γ) es).map .tup
  | _ => none
def cE (g : G) : Nat → Gm → Expr → Option E
  | 0 => fun _ _ => none
  | f + 1 => stepE g (cE g f)

/-! ### soundness -/
section
variable {n : En} {g : G} {cl : FC} {k : Nat} {known : Nat → Prop}
structure OkE (n : En) (g : G) (cl : FC) (X : Cx) (W : WX) (e : Expr) (c : E) : Prop where
  pe : PE X e (tE n W (ev g cl false c))
  pt : PT X e (tT n W (ev g cl true c))
  pw : ∀ op vs pos, e = .BoolOp op vs pos → PW X e (tT n W (ev g cl true c))
def Snd (n : En) (g : G) (cl : FC) (k : Nat) (known : Nat → Prop) (r : Gm → Expr → Option E) : Prop := ∀ X Γ W e c, Ctx n g cl k known X Γ W → r Γ e = some c → OkE n g cl X W e c
theorem Ctx.blk {X : Cx} {Γ : Gm} {W : WX} (C : Ctx n g cl k known X Γ W) (scope : Scope) (s : Shared) (H : Hp) (D : Addr) (cl' : List (Str × Addr)) (fp : List Addr) : Ctx n g cl k known (X.blk s H scope (compEnvC scope cl' D X.env) fp) (blkG Γ scope) WF :=
  { fit := ⟨C.fit.K, C.fit.P, C.fit.w, C.fit.hu⟩, cf := C.cf, calm := C.calm, N := C.N, nd := C.nd
    sc := by
      show relabel scope X.env = relS scope Γ.sc
      rw [← C.sc]; rfl
    fn := fun x h => h
    tk := fun u s' ⟨a, B, sI, pins, σ, H, cls, d, e, I, nb, up, sky, na, os, ag, w⟩ => w.elim
    room := C.room
    fns := fun f h => ⟨(C.fns f h).ok⟩
    ids := C.ids, gfn := C.gfn, gcl := C.gcl, gxc := C.gxc
    xok := fun c fs h => ⟨(C.xok c fs h).oex, (C.xok c fs h).few, (C.xok c fs h).xf, (C.xok c fs h).nof, (C.xok c fs h).init⟩
    xm := C.xm, gtup := C.gtup, gval := C.gval, gabs := C.gabs, mth := C.mth, own := C.own }
section
variable {X : Cx} {Γ : Gm} {W : WX}
theorem cA_ok {r : Expr → Option E} (hr : ∀ e c, r e = some c → OkE n g cl X W e c) : ∀ {es : List Expr} {cs : List E}, cA r es = some cs → PA X es (tA n W (evs g cl cs)) ∧ es.all notStar = true ∧ es.length = cs.length
  | [], cs, h => by cases h; exact ⟨pa_enil, rfl, rfl⟩
  | e :: es, cs, h => by
    unfold cA at h
    split at h
    · rename_i hs
      split at h
      · rename_i c cs' h1 h2
        cases h
        obtain ⟨p, q, l⟩ := cA_ok hr h2
        exact ⟨pa_econs (hr _ _ h1).pe p hs, by rw [List.all_cons, hs, q]; rfl, by rw [List.length_cons, List.length_cons, l]⟩
      · cases h
    · cases h
theorem cD_ok (C : Ctx n g cl k known X Γ W) {r : Expr → Option E} (hr : ∀ e c, r e = some c → OkE n g cl X W e c) : ∀ {es : List Expr} {cs : List E}, cD r es = some cs → PA X es (tD n W (disp g cl cs))
  | [], cs, h => by cases h; exact pa_dnil
  | e :: es, cs, h => by
    unfold cD at h
    split at h
    · rename_i heq; cases heq
    · rename_i e' p' es' heq
      cases heq
      split at h
      · rename_i c cs' h1 h2
        cases h
        exact pa_dstar C.fit.K (hr _ _ h1).pe (cD_ok C hr h2)
      · cases h
    · rename_i e' es' hne heq
      cases heq
      split at h
      · rename_i c cs' h1 h2
        split at h
        · cases h
        · rename_i hns
          cases h
          have ns : notStar e = true := by
            cases e <;> first | rfl | exact absurd rfl (hne _ _)
          exact pa_dcons (hr _ _ h1).pe (cD_ok C hr h2) ns (by simpa using hns)
      · cases h
theorem cTest_ok {r : Expr → Option E} (hr : ∀ e c, r e = some c → OkE n g cl X W e c) {es : List Expr} {cs : List E} (h : cTest r es = some cs) : PTs X es (tTs n W (tests g cl cs)) := by
  unfold cTest at h
  split at h
  · cases h; exact pts_enil
  · rename_i e
    cases e1 : r e with
    | none => rw [e1] at h; cases h
    | some c => rw [e1] at h; cases h; exact pts_eone (hr _ _ e1).pt
  · cases h
mutual
theorem cT_ok (C : Ctx n g cl k known X Γ W) : ∀ {e : Expr} {t : T}, cT Γ e = some t → PG X e (tG n t)
  | .Name x p, t, h => by
    unfold cT at h
    split at h
    · rename_i hl
      cases e1 : idx x Γ.N with
      | none => rw [e1] at h; cases h
      | some i =>
        rw [e1] at h; cases h
        obtain ⟨h1, h2⟩ := C.loc hl
        exact pg_ename (C.N ▸ C.nd) (C.slot e1) h1 h2
    · cases h
  | .Tuple es kk p, t, h => by
    unfold cT at h
    cases e1 : cTl Γ es with
    | none => rw [e1] at h; cases h
    | some ts =>
      rw [e1] at h; cases h
      obtain ⟨h1, h2, h3⟩ := cTl_ok C e1
      exact pg_etup C.fit.K C.calm h1 h2 h3
  | .BoolOp .., t, h => by cases h
  | .NamedExpr .., t, h => by cases h
  | .BinOp .., t, h => by cases h
  | .UnaryOp .., t, h => by cases h
  | .Lambda .., t, h => by cases h
  | .IfExp .., t, h => by cases h
  | .Dict .., t, h => by cases h
  | .Set .., t, h => by cases h
  | .ListComp .., t, h => by cases h
  | .SetComp .., t, h => by cases h
  | .DictComp .., t, h => by cases h
  | .GeneratorExp .., t, h => by cases h
  | .Await .., t, h => by cases h
  | .Yield .., t, h => by cases h
  | .YieldFrom .., t, h => by cases h
  | .Compare .., t, h => by cases h
  | .Call .., t, h => by cases h
  | .FormattedValue .., t, h => by cases h
  | .JoinedStr .., t, h => by cases h
  | .Constant .., t, h => by cases h
  | .Attribute .., t, h => by cases h
  | .Subscript .., t, h => by cases h
  | .Starred .., t, h => by cases h
  | .List .., t, h => by cases h
  | .Slice .., t, h => by cases h
theorem cTl_ok (C : Ctx n g cl k known X Γ W) : ∀ {es : List Expr} {ts : List T}, cTl Γ es = some ts → PGs X es (tGs n ts) ∧ es.all notStar = true ∧ es.length = ts.length
  | [], ts, h => by cases h; exact ⟨pgs_enil, rfl, rfl⟩
  | e :: es, ts, h => by
    unfold cTl at h
    split at h
    · rename_i hs
      split at h
      · rename_i t ts' h1 h2
        cases h
        obtain ⟨q1, q2, q3⟩ := cTl_ok C h2
        exact ⟨pgs_econs (cT_ok C h1) q1 hs, by rw [List.all_cons, hs, q2]; rfl, by rw [List.length_cons, List.length_cons, q3]⟩
      · cases h
    · cases h
end
theorem range_nd : ("range" : Str) ≠ "__name__" := by decide
theorem cI_ok (C : Ctx n g cl k known X Γ W) {r : Expr → Option E} (hr : ∀ e c, r e = some c → OkE n g cl X W e c) {e tg : Expr} {i : Ev.It} (h : cI r Γ e = some i) : PI X tg e (tI n W (evI g cl i)) := by
  have gen : (r e).map .of = some i → PI X tg e (tI n W (evI g cl i)) := fun h => by
    cases e1 : r e with
    | none => rw [e1] at h; cases h
    | some c => rw [e1] at h; cases h; exact pi_eof C.fit (hr _ _ e1).pe
  unfold cI at h
  split at h
  · rename_i x p as pos
    split at h
    · rename_i hx
      obtain ⟨rfl, hg, _, ha⟩ := hx
      have hm : X.mg "range" = none := C.gabs _ (isAbs_ok ha)
      split at h
      · rename_i a
        cases e1 : cA r [a] with
        | none => rw [e1] at h; cases h
        | some cs =>
          rw [e1] at h; cases h
          obtain ⟨q1, q2, q3⟩ := cA_ok hr e1
          match cs, q3 with
          | [c], _ => exact pi_erng1 (C.gl hg) hm q1 (by simpa using q2)
      · rename_i a b
        cases e1 : cA r [a, b] with
        | none => rw [e1] at h; cases h
        | some cs =>
          rw [e1] at h; cases h
          obtain ⟨q1, q2, q3⟩ := cA_ok hr e1
          match cs, q3 with
          | [c, d], _ =>
            have q2 : notStar a = true ∧ notStar b = true := by simpa using q2
            exact pi_erng2 (C.gl hg) hm q1 q2.1 q2.2
      · cases h
    · exact gen h
  · exact gen h
theorem cI_of (C : Ctx n g cl k known X Γ W) {r : Expr → Option E} (hr : ∀ e c, r e = some c → OkE n g cl X W e c) {e : Expr} {c : E} (h : cI r Γ e = some (.of c)) : PE X e (tE n W (ev g cl false c)) := by
  have gen : (r e).map Ev.It.of = some (Ev.It.of c) → PE X e (tE n W (ev g cl false c)) := fun h => by
    cases e1 : r e with
    | none => rw [e1] at h; cases h
    | some c' => rw [e1] at h; cases h; exact (hr _ _ e1).pe
  unfold cI at h
  split at h
  · rename_i x p as pos
    split at h
    · split at h
      · rename_i a
        cases e1 : cA r [a] with
        | none => rw [e1] at h; cases h
        | some cs => rw [e1] at h; cases h
      · rename_i a b
        cases e1 : cA r [a, b] with
        | none => rw [e1] at h; cases h
        | some cs => rw [e1] at h; cases h
      · cases h
    · exact gen h
  · exact gen h
/-- a test that is an expression like any other -/
def plainT : Expr → Bool
  | .UnaryOp .Not _ _ => false
  | .BoolOp _ _ _ => false
  | .IfExp _ _ _ _ => false
  | .Compare _ _ _ _ => false
  | _ => true
theorem plainT_ok {e : Expr} (h : plainT e = true) (env : Env) (whole : Sem Value) : isTrue e env whole = (do let v ← whole; standAt e.pos; holding [v] (truthy v)) := by
  cases e with
  | UnaryOp op a p => cases op <;> first | rfl | cases h
  | BoolOp => cases h
  | IfExp => cases h
  | Compare => cases h
  | _ => rfl
theorem OkE.plain (C : Ctx n g cl k known X Γ W) {e : Expr} {c : E} (h : PE X e (tE n W (ev g cl false c))) (hp : plainT e = true) (hc : ∀ ρ, ev g cl true c ρ = fin g cl true (ev g cl false c ρ)) : OkE n g cl X W e c :=
  ⟨h, pt_etru C.tru h hc (plainT_ok hp X.env), fun op vs pos z => by subst z; cases hp⟩
end
end
end Ev

set_option Elab.async false
set_option linter.all false
set_option maxRecDepth 100000
/-! The compiler of expressions is sound. -/
namespace Ev
open PySem PySem.Spec PyProof.Rows L2

section
variable {n : En} {g : G} {cl : FC} {k : Nat} {known : Nat → Prop} {X : Cx} {Γ : Gm} {W : WX}
theorem cName_ok (C : Ctx n g cl k known X Γ W) {x : Str} {p : Pos} {c : E} (h : cName Γ x = some c) : OkE n g cl X W (.Name x p) c := by
  unfold cName at h
  split at h
  · rename_i hd
    obtain ⟨d1, d2, d3⟩ := nd_ok hd
    split at h
    · rename_i hv
      cases e1 : idx x Γ.N with
      | none => rw [e1] at h; cases h
      | some i => rw [e1] at h; cases h; exact .plain C (pe_evar (C.slot e1) (C.vis hv) d1 d2) rfl fun _ => rfl
    · split at h
      · rename_i hg
        split at h
        · rename_i pv e1
          cases h
          obtain ⟨v, u, h1, h2, h3⟩ := C.gval _ _ e1
          exact .plain C (pe_ecst (pe_glob (C.gl hg) h1 h2 d1) h3) rfl fun _ => rfl
        · cases h
      · cases h
  · cases h
theorem cConst_ok (C : Ctx n g cl k known X Γ W) {v : Const} {j : Nat} {p : Pos} {c : E} (h : (litV v).map .cst = some c) : OkE n g cl X W (.Constant v j p) c := by
  cases v with
  | none => cases h; exact .plain C (pe_ecst pe_non fun _ _ => .non) rfl fun _ => rfl
  | bool b => cases h; exact .plain C (pe_ecst pe_bl fun _ _ => .bl b) rfl fun _ => rfl
  | int i => cases h; exact .plain C (pe_ecst pe_int fun _ _ => .int i) rfl fun _ => rfl
  | str s => cases h; exact .plain C (pe_ecst pe_str fun H Z => by have q := RV.str (n := n) (H := H) (Z := Z) (cps s); rw [strV_cps] at q; exact q) rfl fun _ => rfl
  | _ => cases h
theorem cBool_ok (C : Ctx n g cl k known X Γ W) {r : Expr → Option E} (hr : ∀ e c, r e = some c → OkE n g cl X W e c) {op : BoolOp} {vs : List Expr} {pos : Pos} {c : E} (h : cBool r op vs pos = some c) : OkE n g cl X W (.BoolOp op vs pos) c := by
  unfold cBool at h
  split at h
  · cases h
  · rename_i a
    have o := hr _ _ h
    have pw : PW X (.BoolOp op [a] pos) (tT n W (ev g cl true c)) := by
      cases op with
      | And => exact pw_and1 o.pt
      | Or => exact pw_or1 o.pt
    exact ⟨pe_one o.pe, pw.pt, fun _ _ _ z => by cases z; exact pw⟩
  · rename_i a b q
    split at h
    · rename_i x y h1 h2
      cases h
      have o1 := hr _ _ h1
      have o2 := hr _ _ h2
      have w2 := o2.pw _ _ _ rfl
      cases op with
      | And => exact ⟨pe_eand o1.pe o2.pe, (pw_eand o1.pt w2).pt, fun _ _ _ z => by cases z; exact pw_eand o1.pt w2⟩
      | Or => exact ⟨pe_eor o1.pe o2.pe, (pw_eor o1.pt w2).pt, fun _ _ _ z => by cases z; exact pw_eor o1.pt w2⟩
    · cases h
theorem cCmp_ok (C : Ctx n g cl k known X Γ W) {r : Expr → Option E} (hr : ∀ e c, r e = some c → OkE n g cl X W e c) {a : Expr} {ops : List CmpOp} {bs : List Expr} {pos : Pos} {c : E} (h : cCmp r a ops bs = some c) : OkE n g cl X W (.Compare a ops bs pos) c := by
  unfold cCmp at h
  split at h
  · cases e1 : r a with
    | none => rw [e1] at h; cases h
    | some x => rw [e1] at h; cases h; exact ⟨pe_eisN (hr _ _ e1).pe, pt_eisN (hr _ _ e1).pe, fun _ _ _ z => by cases z⟩
  · cases e1 : r a with
    | none => rw [e1] at h; cases h
    | some x => rw [e1] at h; cases h; exact ⟨pe_enotN (hr _ _ e1).pe, pt_enotN (hr _ _ e1).pe, fun _ _ _ z => by cases z⟩
  · split at h
    · cases h
    · rename_i hm
      split at h
      · rename_i p x y h1 h2 h3
        cases h
        have hm := Bool.eq_false_iff.mpr hm
        exact ⟨pe_ecmp (C.cmp h1) (hr _ _ h2).pe (hr _ _ h3).pe hm, pt_ecmp (C.cmp h1) (hr _ _ h2).pe (hr _ _ h3).pe hm (cmpPr_ish h1), fun _ _ _ z => by cases z⟩
      · cases h
  · split at h
    · cases h
    · rename_i hm
      split at h
      · rename_i p q x y z h1 h2 h3 h4 h5
        cases h
        have hm := Bool.eq_false_iff.mpr hm
        exact ⟨pe_echn (C.cmp h1) (C.cmp h2) (hr _ _ h3).pe (hr _ _ h4).pe (hr _ _ h5).pe (cmpPr_ish h1) (cmpPr_ish h2) hm, pt_echn (C.cmp h1) (C.cmp h2) (hr _ _ h3).pe (hr _ _ h4).pe (hr _ _ h5).pe (cmpPr_ish h1) (cmpPr_ish h2) hm, fun _ _ _ z => by cases z⟩
      · cases h
  · cases h
theorem cSub_ok (C : Ctx n g cl k known X Γ W) {r : Expr → Option E} (hr : ∀ e c, r e = some c → OkE n g cl X W e c) {a s : Expr} {pos : Pos} {c : E} (h : cSub r a s = some c) : OkE n g cl X W (.Subscript a s pos) c := by
  unfold cSub at h
  split at h
  · cases e1 : r a with
    | none => rw [e1] at h; cases h
    | some x => rw [e1] at h; cases h; exact .plain C (pe_esl00 C.fit (hr _ _ e1).pe) rfl fun _ => rfl
  · split at h
    · rename_i x y h1 h2
      cases h; exact .plain C (pe_esl10 C.fit (hr _ _ h1).pe (hr _ _ h2).pe) rfl fun _ => rfl
    · cases h
  · split at h
    · rename_i x y h1 h2
      cases h; exact .plain C (pe_esl01 C.fit (hr _ _ h1).pe (hr _ _ h2).pe) rfl fun _ => rfl
    · cases h
  · split at h
    · rename_i x y z h1 h2 h3
      cases h; exact .plain C (pe_esl11 C.fit (hr _ _ h1).pe (hr _ _ h2).pe (hr _ _ h3).pe) rfl fun _ => rfl
    · cases h
  · cases h
  · split at h
    · rename_i x y h1 h2
      split at h
      · rename_i hs
        cases h; exact .plain C (pe_eix C.fit (hr _ _ h1).pe (hr _ _ h2).pe hs) rfl fun _ => rfl
      · cases h
    · cases h
theorem tE_isi {ks ts : List Nat} {ca : E} {v : V} (hcv : (∃ k, ks = [k] ∧ ts = [] ∧ v = .ref (n.cA k) ∧ g.fok k 0 = true) ∨ ∃ t, ks = [] ∧ ts = [t] ∧ v = .ty (tyOfNo t)) {σ : SG} {H : Hp} {Q : VK} (h : tE n W (ev g cl false (.pr (.isi ks ts) [ca])) σ H Q) :
    tCB (rIs n g cl ks ts) (tCons (tE n W (ev g cl false ca)) (tCons (tC v) tNil)) σ H Q := by
  obtain ⟨ρ, Z, w, hno, hx, k⟩ := tE_un h
  refine ⟨ρ, Z, w, hno, hx, fun a ρ' x H' Z' e w' st ar => ?_⟩
  obtain ⟨ρ1, Z1, p, r, w1, rd, e1, k1⟩ := k a ρ' x H' Z' e w' st ar
  exact ⟨ρ1, σ, Z1, p, x, v, r, rfl, w1, rd, hcv, e1, k1⟩
theorem tyNo_ok {x : Str} {t : Nat} (h : tyNo x = some t) : bootBuiltins x = some (.type (tyOfNo t)) := by
  unfold tyNo at h
  repeat (first | (split at h; rename_i e; subst e; cases h; decide +kernel) | cases h)
theorem cIsi_ok (C : Ctx n g cl k known X Γ W) {r : Expr → Option E} (hr : ∀ e c, r e = some c → OkE n g cl X W e c) {as : List Expr} {p pos : Pos} {c : E} (hg : isGl Γ.sc "isinstance" = true) (ha : Γ.gl "isinstance" = .abs) (h : cIsi g Γ r as = some c) :
    OkE n g cl X W (.Call (.Name "isinstance" p) as [] pos) c := by
  unfold cIsi at h
  split at h
  · rename_i a x px
    split at h
    · rename_i hc
      simp only [Bool.and_eq_true] at hc
      obtain ⟨⟨c1, c2⟩, c3⟩ := hc
      obtain ⟨d1, d2, d3⟩ := nd_ok c3
      have fin : ∀ {ks ts : List Nat} {v : V} {ca : E}, PE X (.Name x px) (tC v) → OkE n g cl X W a ca → ((∃ k, ks = [k] ∧ ts = [] ∧ v = .ref (n.cA k) ∧ g.fok k 0 = true) ∨ ∃ t, ks = [] ∧ ts = [t] ∧ v = .ty (tyOfNo t)) → OkE n g cl X W (.Call (.Name "isinstance" p) [a, .Name x px] [] pos) (.pr (.isi ks ts) [ca]) := fun {ks ts v ca} pn o hcv => by
        refine .plain C (PE.imp (L2.pe_callB (isR C.fit C.cf ks ts) (C.gl hg) (C.gabs _ ha) (by decide +kernel) (pa_cons o.pe (pa_cons pn pa_nil rfl) (starEach_cons c1)) (by decide) (by decide) (starEach_cons c1) (backTo_any (by rfl))) fun σ H Q h => tE_isi hcv h) rfl fun _ => rfl
      split at h
      · rename_i kk e1
        cases e2 : r a with
        | none => rw [e2] at h; cases h
        | some ca =>
          rw [e2] at h; cases h
          obtain ⟨m1, m2, _⟩ := C.gcl _ _ e1
          exact fin (pe_glob (v := .ref (n.cA kk)) (C.gl c2) m1 rfl d1) (hr _ _ e2) (.inl ⟨kk, rfl, rfl, rfl, m2⟩)
      · rename_i e1
        split at h
        · rename_i t e3
          cases e2 : r a with
          | none => rw [e2] at h; cases h
          | some ca =>
            rw [e2] at h; cases h
            exact fin (pe_bltn (v := .ty (tyOfNo t)) (C.gl c2) (C.gabs _ e1) (tyNo_ok e3) rfl d3 d1) (hr _ _ e2) (.inr ⟨t, rfl, rfl, rfl⟩)
        · cases h
      · cases h
    · cases h
  · cases h
theorem cFn_ok (C : Ctx n g cl k known X Γ W) {r : Expr → Option E} (hr : ∀ e c, r e = some c → OkE n g cl X W e c) {x : Str} {as : List Expr} {p pos : Pos} {c : E} (h : cFn g r Γ x as = some c) : OkE n g cl X W (.Call (.Name x p) as [] pos) c := by
  unfold cFn at h
  split at h
  · rename_i hc
    simp only [Bool.and_eq_true] at hc
    obtain ⟨hg, hd⟩ := hc
    obtain ⟨d1, d2, d3⟩ := nd_ok hd
    split at h
    · rename_i f e1
      cases e2 : cA r as with
      | none => rw [e2] at h; cases h
      | some cs =>
        rw [e2] at h; cases h
        obtain ⟨q1, q2, q3⟩ := cA_ok hr e2
        obtain ⟨m1, m2, m3⟩ := C.gfn _ _ e1
        exact .plain C (pe_ecall (C.fns f m1) C.tk (C.room.mono (Nat.le_succ k)) (C.gl hg) m2 m3 d1 q1 q2 q3) rfl fun _ => rfl
    · rename_i cc e1
      obtain ⟨m1, m2, m3, m4⟩ := C.gcl _ _ e1
      split at h
      · rename_i f e3
        cases e2 : cA r as with
        | none => rw [e2] at h; cases h
        | some cs =>
          rw [e2] at h; cases h
          obtain ⟨q1, q2, q3⟩ := cA_ok hr e2
          obtain ⟨m5, m6⟩ := m3 f e3
          exact .plain C (pe_emk e3 m6 (C.fns f m5) C.tk C.room (C.gl hg) m1 d1 q1 q2 q3) rfl fun _ => rfl
      · rename_i e3
        split at h
        · rename_i hb
          cases h
          simp only [Bool.and_eq_true, List.isEmpty_iff] at hb
          obtain ⟨b1, rfl⟩ := hb
          exact .plain C (pe_emk0 e3 (m4 b1) (C.gl hg) m1 d1) rfl fun _ => rfl
        · cases h
    · rename_i e1
      split at h
      · rename_i hx
        subst hx
        exact cIsi_ok C hr hg e1 h
      · split at h
        · rename_i b e3
          split at h
          · cases h
          · rename_i hne
            cases e2 : cA r as with
            | none => rw [e2] at h; cases h
            | some cs =>
              rw [e2] at h; cases h
              obtain ⟨q1, q2, q3⟩ := cA_ok hr e2
              have bo := C.bi e3
              match as, hne with
              | a :: as, _ =>
                cases b with
                | fn id pr => exact .plain C (pe_ebi bo.2 (C.gl hg) (C.gabs _ e1) bo.1 d3 d1 q1 q2) rfl fun _ => rfl
                | ty T pr => exact .plain C (pe_ety bo.2 (C.gl hg) (C.gabs _ e1) bo.1 d3 d1 q1 q2) rfl fun _ => rfl
              | [], hne => exact absurd rfl hne
        · cases h
    · cases h
  · cases h
theorem cApp_ok (C : Ctx n g cl k known X Γ W) {r : Expr → Option E} (hr : ∀ e c, r e = some c → OkE n g cl X W e c) {o : Expr} {as : List Expr} {apos pos : Pos} {c : E} (hl : (apos.endLine == pos.line) = true) (h : cApp r Γ o as = some c) : OkE n g cl X W (.Call (.Attribute o "append" apos) as [] pos) c := by
  unfold cApp at h
  split at h
  · rename_i x p a
    split at h
    · rename_i hc
      simp only [Bool.and_eq_true] at hc
      obtain ⟨⟨hv, hd⟩, hs⟩ := hc
      obtain ⟨d1, d2, d3⟩ := nd_ok hd
      split at h
      · rename_i i c' e1 e2
        cases h
        exact .plain C (pe_eappend C.fit.K (C.slot e1) (C.vis hv) d1 d2 (hr _ _ e2).pe hs hl) rfl fun _ => rfl
      · cases h
    · cases h
  · cases h
theorem cIdx_ok (C : Ctx n g cl k known X Γ W) {r : Expr → Option E} (hr : ∀ e c, r e = some c → OkE n g cl X W e c) {o : Expr} {as : List Expr} {apos pos : Pos} {c : E} (hl : (apos.endLine == pos.line) = true) (h : cIdx r Γ o as = some c) : OkE n g cl X W (.Call (.Attribute o "index" apos) as [] pos) c := by
  unfold cIdx at h
  split at h
  · rename_i x p a
    split at h
    · rename_i hc
      simp only [Bool.and_eq_true] at hc
      obtain ⟨⟨hg, hd⟩, hs⟩ := hc
      obtain ⟨d1, d2, d3⟩ := nd_ok hd
      split at h
      · rename_i l e1
        cases e2 : r a with
        | none => rw [e2] at h; cases h
        | some ca =>
          rw [e2] at h; cases h
          obtain ⟨q, ob, m1, m2, m3, m4, m5⟩ := C.gtup _ _ e1
          exact .plain C (pe_eindex C.fit.K m5 ⟨ob, m2, m3, m4⟩ (pe_glob (C.gl hg) m1 rfl d1) (hr _ _ e2).pe hs rfl hl) rfl fun _ => rfl
      · cases h
    · cases h
  · cases h
theorem cMeth_ok (C : Ctx n g cl k known X Γ W) {r : Expr → Option E} (hr : ∀ e c, r e = some c → OkE n g cl X W e c) {o : Expr} {nm : Str} {as : List Expr} {apos pos : Pos} {c : E} (hb : plainO o = true) (hl : (apos.endLine == pos.line) = true) (h : cMeth r Γ o nm as = some c) :
    OkE n g cl X W (.Call (.Attribute o nm apos) as [] pos) c := by
  unfold cMeth at h
  split at h
  · rename_i m co cs e1 e2 e3
    split at h
    · rename_i h30
      cases h
      obtain ⟨q1, q2, q3⟩ := cA_ok hr e3
      have hn := C.ids _ _ e1
      exact .plain C (pe_emeth hn C.cf.fi (fun cc f hm => by
        obtain ⟨m1, m2, m3⟩ := C.mth m cc f hm
        exact ⟨m2, hn ▸ m3, C.fns f m1⟩) C.tk (C.room.mono (Nat.le_succ k)) (hr _ _ e2).pe q1 q2 q3 (plainO_ok hb _ _) h30 hl) rfl fun _ => rfl
    · cases h
  · cases h
theorem cLc_ok (C : Ctx n g cl k known X Γ W) {r : Gm → Expr → Option E} (hr : Snd n g cl k known r) {elt : Expr} {gens : List Comprehension} {scope : Scope} {pos : Pos} {c : E} (h : cLc r Γ elt gens scope = some c) : OkE n g cl X W (.ListComp elt gens scope pos) c := by
  unfold cLc at h
  dsimp only at h
  split at h
  · rename_i hb
    have ok : BlkOk X.N X.env.scope scope (ownOf Γ.N scope) := by rw [C.N, C.sc]; exact blkOk_by hb
    have hN : X.N.Nodup := C.N ▸ C.nd
    split at h
    · rename_i tg it ifs
      split at h
      · rename_i hs
        split at h
        · rename_i i t q cc e1 e2 e3 e4
          split at h
          · rename_i ht
            cases h
            have ht : ∀ j ∈ tslots t, j ∈ (ownOf Γ.N scope).map (·.2) := fun j hj => by
              have := List.all_eq_true.mp ht j hj
              simpa using this
            refine .plain C (pe_elc C.calm hN (cI_ok C (fun e c => hr X Γ W e c C) e1) (fun c hc => cI_of C (fun e c => hr X Γ W e c C) (hc ▸ e1)) ok ht (fun s H D cl' fp => cT_ok (C.blk scope s H D cl' fp) e2) (fun s H D cl' fp => ?_) (fun s H D cl' fp => ?_) hs) rfl fun _ => rfl
            · exact cTest_ok (fun e c => hr _ _ _ e c (C.blk scope s H D cl' fp)) e3
            · exact (hr _ _ _ _ _ (C.blk scope s H D cl' fp) e4).pe
          · cases h
        · cases h
      · cases h
    · rename_i tg it ifs tg1 it1 ifs1
      split at h
      · rename_i hs
        rw [Bool.and_eq_true] at hs
        split at h
        · rename_i i t q i1 t1 q1 cc e1 e2 e3 e4 e5 e6 e7
          split at h
          · rename_i ht
            cases h
            rw [Bool.and_eq_true] at ht
            have ht0 : ∀ j ∈ tslots t, j ∈ (ownOf Γ.N scope).map (·.2) := fun j hj => by
              have := List.all_eq_true.mp ht.1 j hj
              simpa using this
            have ht1 : ∀ j ∈ tslots t1, j ∈ (ownOf Γ.N scope).map (·.2) := fun j hj => by
              have := List.all_eq_true.mp ht.2 j hj
              simpa using this
            refine .plain C (pe_elc2 C.calm hN (cI_ok C (fun e c => hr X Γ W e c C) e1) ok ht0 (fun j hj => hj) ht1 (fun s H D cl' fp => cT_ok (C.blk scope s H D cl' fp) e2) (fun s H D cl' fp => ?_) (fun s H D cl' fp => ?_) (fun s H D cl' fp => cT_ok (C.blk scope s H D cl' fp) e5) (fun s H D cl' fp => ?_) (fun s H D cl' fp => ?_) hs.1 hs.2) rfl fun _ => rfl
            · exact cTest_ok (fun e c => hr _ _ _ e c (C.blk scope s H D cl' fp)) e3
            · exact cI_ok (C.blk scope s H D cl' fp) (fun e c => hr _ _ _ e c (C.blk scope s H D cl' fp)) e4
            · exact cTest_ok (fun e c => hr _ _ _ e c (C.blk scope s H D cl' fp)) e6
            · exact (hr _ _ _ _ _ (C.blk scope s H D cl' fp) e7).pe
          · cases h
        · cases h
      · cases h
    · cases h
  · cases h
theorem stepE_ok {r : Gm → Expr → Option E} (hr : Snd n g cl k known r) : Snd n g cl k known (stepE g r) := by
  intro X Γ W e c C h
  have hrX : ∀ e c, r Γ e = some c → OkE n g cl X W e c := fun e c => hr X Γ W e c C
  unfold stepE at h
  split at h
  · exact cName_ok C h
  · exact cConst_ok C h
  · exact cBool_ok C hrX h
  · split at h
    · rename_i p x y h1 h2 h3
      cases h; exact .plain C (pe_ebin (C.bin h1) (hrX _ _ h2).pe (hrX _ _ h3).pe) rfl fun _ => rfl
    · cases h
  · rename_i a p
    cases e1 : r Γ a with
    | none => rw [e1] at h; cases h
    | some x => rw [e1] at h; cases h; exact ⟨pe_enot C.tru (hrX _ _ e1).pe, pt_enot (hrX _ _ e1).pt, fun _ _ _ z => by cases z⟩
  · rename_i a p
    cases e1 : r Γ a with
    | none => rw [e1] at h; cases h
    | some x => rw [e1] at h; cases h; exact .plain C (pe_eneg (hrX _ _ e1).pe) rfl fun _ => rfl
  · split at h
    · rename_i x y z h1 h2 h3
      cases h; exact ⟨pe_eifExp (hrX _ _ h1).pt (hrX _ _ h2).pe (hrX _ _ h3).pe, pt_eifExp (hrX _ _ h1).pt (hrX _ _ h2).pt (hrX _ _ h3).pt, fun _ _ _ z => by cases z⟩
    · cases h
  · rename_i ks vs p
    unfold cDct at h
    split at h
    · cases h; exact .plain C pe_edct0 rfl fun _ => rfl
    · split at h
      · rename_i x y h1 h2
        split at h
        · cases h
        · rename_i hs
          cases h
          have hs : isStar x = false ∧ isStar y = false := by simpa using hs
          exact .plain C (pe_edct1 C.fit (hrX _ _ h1).pe (hrX _ _ h2).pe hs.1 hs.2) rfl fun _ => rfl
      · cases h
    · cases h
  · exact cLc_ok C hr h
  · exact cCmp_ok C hrX h
  · exact cFn_ok C hrX h
  · rename_i o nm apos as pos
    split at h
    · rename_i hc
      rw [Bool.and_eq_true] at hc
      split at h
      · rename_i e; subst e; exact cApp_ok C hrX hc.2 h
      · split at h
        · rename_i e; subst e; exact cIdx_ok C hrX hc.2 h
        · exact cMeth_ok C hrX hc.1 hc.2 h
    · cases h
  · rename_i o f p
    split at h
    · rename_i hb
      split at h
      · rename_i i c' e1 e2
        cases h
        have hn := C.ids _ _ e1
        exact .plain C (pe_efld hn C.cf.fi C.fit.K (fun cc hk => by
          obtain ⟨q1, q2⟩ := C.cf.cls cc i hk
          exact ⟨q1, hn ▸ q2⟩) (hrX _ _ e2).pe (plainO_ok hb _ _)) rfl fun _ => rfl
      · cases h
    · cases h
  · exact cSub_ok C hrX h
  · rename_i es p
    cases e1 : cD (r Γ) es with
    | none => rw [e1] at h; cases h
    | some cs => rw [e1] at h; cases h; exact .plain C (pe_elst (cD_ok C hrX e1)) rfl fun _ => rfl
  · rename_i es p1 p2
    cases e1 : cD (r Γ) es with
    | none => rw [e1] at h; cases h
    | some cs => rw [e1] at h; cases h; exact .plain C (pe_etup (cD_ok C hrX e1)) rfl fun _ => rfl
  · cases h
theorem cE_ok : ∀ f, Snd n g cl k known (cE g f)
  | 0 => fun X Γ W e c C h => by cases h
  | f + 1 => stepE_ok (cE_ok f)
end
end Ev

set_option Elab.async false
set_option linter.all false
set_option maxRecDepth 100000
/-! Raise, try, stores of pairs. -/
namespace Ev
open PySem PySem.Spec PyProof.Rows L2
def locAt (sc : Scope) (l : Nat) : Expr → Option Str
  | .Name y q => if sc.names.lookup y == some .local && q.line == l then some y else none
  | _ => none
def line0 (ts : List Expr) : Nat := (ts.head?.map (·.pos.line)).getD 0
def parN (sc : Scope) (ts : List Expr) : List Str := ts.filterMap (locAt sc (line0 ts))
/-- they are stored one by one -/
def parNo (sc : Scope) (ts vs : List Expr) : Bool := (parN sc ts).length != ts.length || vs.all (foldedForSure 8) || !(ts.length == 2 || ts.length == 3) || vs.length != ts.length
def parYes (sc : Scope) (ts vs : List Expr) : Bool := (ts.length == 2 || ts.length == 3) && (vs.length == ts.length) && sc.kind == .function && vs.all notStar && (parN sc ts).length == ts.length && (parN sc ts).eraseDups.length == (parN sc ts).length && !vs.all (foldedForSure 8) && !vs.all (constantsAlone 8)
theorem parN_eq (env : Env) (ts : List Expr) (f : Expr → Option Str) (h : ∀ e, f e = locAt env.scope (line0 ts) e) : ts.filterMap f = parN env.scope ts := by
  unfold parN
  rw [funext h]
theorem parNo_ok {env : Env} {ts vs : List Expr} {k k2 : Nat} {p p2 : Pos} (h : parNo env.scope ts vs = true) : swappedStores [.Tuple ts k p] (.Tuple vs k2 p2) env = pure none := by
  unfold parNo at h
  unfold swappedStores
  dsimp only
  rw [parN_eq env ts _ (fun e => by cases e <;> rfl)]
  split
  · rfl
  · rename_i h1
    split
    · rfl
    · split
      · rfl
      · rename_i h2
        split
        · rfl
        · rename_i h3
          exfalso
          simp only [Bool.or_eq_true] at h h1 h2
          rcases h with ((h | h) | h) | h
          · exact h2 (.inl h)
          · exact h3 h
          · exact h1 (.inl (.inl h))
          · exact h1 (.inl (.inr h))
theorem parYes_ok {env : Env} {ts vs : List Expr} {k k2 : Nat} {p p2 : Pos} (h : parYes env.scope ts vs = true) : swappedStores [.Tuple ts k p] (.Tuple vs k2 p2) env = pure (some (parN env.scope ts)) := by
  unfold parYes at h
  simp only [Bool.and_eq_true, Bool.not_eq_true'] at h
  obtain ⟨⟨⟨⟨⟨⟨⟨h1, h2⟩, h3⟩, h4⟩, h5⟩, h6⟩, h7⟩, h8⟩ := h
  unfold swappedStores
  dsimp only
  rw [parN_eq env ts _ (fun e => by cases e <;> rfl)]
  have hk : env.blockKind = .function := by
    unfold Env.blockKind
    rw [beq_iff_eq.mp h3]
    rfl
  have hs : ∀ f : Expr → Bool, (∀ e, notStar e = true → f e = false) → vs.any f = false := fun f hf => by
    rw [List.any_eq_false]
    intro e he
    rw [hf e (List.all_eq_true.mp h4 e he)]
    exact Bool.false_ne_true
  rw [if_neg (by rw [h1, hk, beq_iff_eq.mp h2]; simp), if_neg (by rw [hs _ (fun e he => by cases e <;> first | rfl | cases he)]; exact Bool.false_ne_true), if_neg (by rw [← beq_iff_eq.mp h5, beq_iff_eq.mp h6]; simp), if_neg (by rw [h7]; exact Bool.false_ne_true), if_neg (by rw [h8]; exact Bool.false_ne_true)]

/-! ### raise -/
section
variable {n : En} {H : Hp} {Z : Addr → Prop}
theorem ArgIn.rvs : ∀ {ps : List PV} {vs : List V}, ArgIn n H Z [] ps vs → RVs n H Z ps vs
  | [], [], _ => .nil
  | p :: ps, v :: vs, h => .cons h.1 (ArgIn.rvs h.2)
  | [], _ :: _, h => h.elim
  | _ :: _, [], h => h.elim
theorem RFs.append {fs gs : List (Nat × PV)} {xs ys : List (Str × V)} (h : RFs n H Z fs xs) (h2 : RFs n H Z gs ys) : RFs n H Z (fs ++ gs) (xs ++ ys) := by
  induction fs generalizing xs with
  | nil => cases h; exact h2
  | cons a fs ih =>
    cases h with
    | cons r1 r2 => exact .cons r1 (ih r2)
theorem RFs.rev {fs : List (Nat × PV)} {xs : List (Str × V)} (h : RFs n H Z fs xs) : RFs n H Z fs.reverse xs.reverse := by
  induction fs generalizing xs with
  | nil => cases h; exact .nil
  | cons a fs ih =>
    cases h with
    | cons r1 r2 =>
      rw [List.reverse_cons, List.reverse_cons]
      exact (ih r2).append (.cons r1 .nil)
theorem RVs.zipF : ∀ {fs : List Nat} {ps : List PV} {vs : List V}, RVs n H Z ps vs → RFs n H Z (fs.zip ps) ((fs.map n.fN).zip vs)
  | [], _, _, _ => .nil
  | f :: fs, _, _, .nil => .nil
  | f :: fs, _, _, .cons r1 r2 => .cons r1 (RVs.zipF r2)
end
section
variable {X : Cx} {n : En} {W : WX} {L : List Nat} {g : G} {cl : FC} {k F : Nat} {e : Expr} {es : List Expr} {cs : List E} {pos pos' p : Pos} {x : Str}
theorem ps_erse {c : Nat} {fs : List Nat} (hx : g.xin c = some fs) (O : XcOk X n k c fs) (hc : X.calm = true) (tk : Takes X W) (hr : Room (k + 1) X.A) (hg : Gl X x) (hm : X.mg x = some (.ref (n.cA c))) (hdb : (x == ("__debug__" : Str)) = false) (ha : PA X (e :: es) (tA n W (evs g cl cs))) (hs : (e :: es).all notStar = true) :
    PS X (.Raise (some (.Call (.Name x p) (e :: es) [] pos)) none pos') (tS n W L (exS g cl F (.rse c cs))) := by
  obtain ⟨fI, fd, ps, h1, h2, h3, h4⟩ := O.init
  rw [List.all_cons, Bool.and_eq_true] at hs
  refine PS.imp (ps_raise hc tk (pmk_oex O.oex h1 h2 h3 hr h4 .nil (fun pins σ H s e s' I q => by obtain ⟨_, _, _, _, _, _, _, _, _, _, _, _, z⟩ := q; exact z.elim) hg hm ha hdb (starEach_cons hs.1) (backTo_any hs.2))) fun D σ H h => ?_
  obtain ⟨ρ, Z, w, h⟩ := h
  have e0 : exS g cl F (.rse c cs) ρ = (evs g cl cs ρ).so fun as ρ => (match vals as (frzA [] as ρ), g.xin c with
      | some vs, some fs => if fs.length = vs.length then .ex ⟨c, (fs.zip vs).reverse⟩ (frzA [] as ρ) else .no
      | _, _ => .no) := rfl
  rw [e0] at h
  refine tA.goS w .refl h fun as ρ1 vs H1 Z1 e1 w1 b1 _ ars h1 => ?_
  cases e2 : vals as (frzA [] as ρ1) with
  | none => rw [e2] at h1; exact absurd rfl h1.no
  | some pvs =>
    rw [e2, hx] at h1
    dsimp only at h1
    by_cases hl : fs.length = pvs.length
    · rw [if_pos hl] at h1
      obtain ⟨Z2, w2, s2, ai, _, _, _, _, _⟩ := callIn (io := []) (is := []) w1 b1 ars (by cases as <;> rfl) e2 List.nodup_nil rfl
      have rvs := ai.rvs
      have hv : vs.length = fs.length := by rw [rvs.len, hl]
      refine ⟨by have := O.few; omega, fun a na => ⟨a, vs ++ [], rfl, by rw [List.append_nil]; exact hv, upd_same, fun H2 d e3 e4 e5 e6 => ?_⟩⟩
      have hd : d ≠ a := fun z => by rw [z, upd_same] at e5; cases e5
      have hd1 : H1 d = none := by rw [upd_ne hd] at e5; exact e5
      refine ⟨rfl, d, _, e3, e4, hd1, ?_⟩
      rw [List.append_nil]
      have eh : upd (del H2 a) d (.xd ((fs.map n.fN).zip vs).reverse) = upd H1 d (.xd ((fs.map n.fN).zip vs).reverse) := by
        funext b
        by_cases c1 : b = d
        · subst c1; rw [upd_same, upd_same]
        · rw [upd_ne c1, upd_ne c1]
          by_cases c2 : b = a
          · subst c2; rw [del_same, na]
          · rw [del_ne c2, e6 b c2 c1, upd_ne c2]
      rw [eh]
      obtain ⟨w3, s3, _, _, _⟩ := w2.lay s2 (.xd ((fs.map n.fN).zip vs).reverse) hd1
      have hz : ∀ b, Z2 b → upd H1 d (.xd ((fs.map n.fN).zip vs).reverse) b = H1 b := fun b z => by
        obtain ⟨o, e, _⟩ := w2.gz b z
        exact upd_ne (ne_of_none e hd1)
      exact h1.ex _ _ σ _ Z2 _ _ rfl ⟨rfl, d, _, rfl, upd_same, (rvs.zipF.rev).mono (fun _ z => z) hz⟩ w3 s3 fun _ _ => rfl
    · rw [if_neg hl] at h1; exact absurd rfl h1.no
end
/-! ### a suite's expressions -/
def rEq (n : En) (neg : Bool) : R2 := fun x y H Q => ∃ ρ σ Z p q, Wd n ρ σ H Z ∧ RD n H Z p x ∧ RD n H Z q y ∧ (plain p && plain q) = true ∧ ∀ H' Z', Wd n ρ σ H' Z' → Stp ρ σ H Z ρ σ H' Z' → Q (.bl (if neg then !eqv p q else eqv p q)) H'
theorem eqX {X : Cx} {n : En} (hn : n.K = X.K) (hu : X.A.units + 64 < cLine) (neg : Bool) : OpR X (compareOp (if neg then .NotEq else .Eq)) (rEq n neg) := by
  intro pins s τ H x y v u Q I rx ry ⟨ρ, σ, Z, p, q, w, rp, rq, hp, kk⟩
  have e1 : eqV2 neg p q = some (.bl (if neg then !eqv p q else eqv p q), false) := by
    unfold eqV2; rw [if_pos hp]
  have fin : ∀ f, Op2 X n f (eqV2 neg) → wpAny (model X.prog X.w) X.A (f v u) (EP X pins τ Q) X.xe s := fun f h => by
    refine thn (h pins s τ ρ σ H Z p q x y v u _ _ I w rp rq rx ry e1) fun z s1 ⟨v1, H1, I1, r1, Z1, w1, st, vr⟩ => ?_
    have vr : RV n H1 Z1 (.bl (if neg then !eqv p q else eqv p q)) v1 := vr
    cases vr
    exact ⟨_, H1, I1, r1, kk H1 Z1 w1 st⟩
  cases neg with
  | true => exact fin _ (o_ne hn hu)
  | false => exact fin _ (o_eq hn hu)
/-- the caught exception's slot -/
def XSlot (i : Option Nat) (a : Addr) (ρ : Sl) (σ : SG) : Prop := ∀ j, i = some j → (j < σ.length → σ[j]? = some (some (.ref a))) ∧ sget ρ j = none
def tX (n : En) (g : G) (i : Option Nat) (a : Addr) (cls : Value) (d : Option Addr) (xe : X) : TE := fun σ H Q => ∃ ρ Z x, Wd n ρ σ H Z ∧ XnAt n H Z x cls d ∧ XSlot i a ρ σ ∧ ∃ p, xev g x ρ xe = some p ∧
  ∀ v H' Z', Wd n ρ σ H' Z' → Stp ρ σ H Z ρ σ H' Z' → RV n H' Z' p v → Q v H'
theorem XnAt.step {n : En} {ρ ρ1 : Sl} {σ σ1 : SG} {H H1 : Hp} {Z Z1 : Addr → Prop} {x : Xn} {cls : Value} {d : Option Addr} (h : XnAt n H Z x cls d) (w : Wd n ρ σ H Z) (s : Stp ρ σ H Z ρ1 σ1 H1 Z1) : XnAt n H1 Z1 x cls d := by
  obtain ⟨h1, dx, fs, h2, h3, h4⟩ := h
  have no : ¬ OwnA ρ σ dx := fun ⟨i, p, e, hs⟩ => by
    obtain ⟨b, h5, _, ov⟩ := w.own i p e
    rw [hs] at h5; cases h5
    cases ov with
    | lst e _ => rw [h3] at e; cases e
    | ins e _ => rw [h3] at e; cases e
    | dct e _ => rw [h3] at e; cases e
  exact ⟨h1, dx, fs, h2, s.stay dx _ h3 (fun _ z => by cases z) no, h4.mono s.mono (w.zstay s)⟩
section
variable {X : Cx} {n : En} {g : G} {cl : FC} {k : Nat} {known : Nat → Prop} {Γ : Gm} {W : WX} {i : Option Nat} {a : Addr} {cls : Value} {d : Option Addr} {oe : Obj} {pn : List (Addr × Obj)} {e e1 e2 : Expr} {xe x1 x2 : Ev.X} {pos : Pos}
theorem px_cst {p : PV} {v : V} (h : PE (X.suite a ((a, oe) :: pn)) e (tC v)) (r : ∀ H Z, RV n H Z p v) : PE (X.suite a ((a, oe) :: pn)) e (tX n g i a cls d (.cst p)) :=
  PE.imp h fun σ H Q ⟨ρ, Z, x, w, _, _, q, e, kk⟩ => by
    cases e
    exact kk v H Z w .refl (r H Z)
theorem px_var {j : Nat} {x : Str} (hN : X.N[j]? = some x) (hv : Vis X.env.scope x) (hd : (x == ("__debug__" : Str)) = false) (hcd : (x == ("__classdict__" : Str)) = false) : PE (X.suite a ((a, oe) :: pn)) (.Name x pos) (tX n g i a cls d (.var j)) :=
  PE.imp (pe_var (X := X.suite a ((a, oe) :: pn)) (pos := pos) hN hv hd hcd) fun σ H Q ⟨ρ, Z, x, w, _, _, q, e, kk⟩ => by
    have e : (match sget ρ j with | some (p, false) => some p | _ => none) = some q := e
    split at e
    · rename_i p eg
      cases e
      obtain ⟨v, h1, h2⟩ := w.vis j _ eg
      exact ⟨v, h1, kk v H Z w .refl h2⟩
    · cases e
theorem px_fld {j f : Nat} {x fs : Str} (C : Ctx n g cl k known X Γ W) (hi : i = some j) (hf : n.fN f = fs) (hN : X.N[j]? = some x) (hv : Vis X.env.scope x) (hd : (x == ("__debug__" : Str)) = false) (hcd : (x == ("__classdict__" : Str)) = false) (hz : Zc cls d oe) (ho : ∃ vs, oe.data = .fields vs) {p1 : Pos} :
    PE (X.suite a ((a, oe) :: pn)) (.Attribute (.Name x p1) fs pos) (tX n g i a cls d (.fld f)) := by
  refine ⟨fun pins s σ H Q I ⟨ρ, Z, x, w, xa, xs, q, e, kk⟩ => ?_⟩
  obtain ⟨h1, dx, fv, h2, h3, h4⟩ := xa
  have e : (if ((g.xin x.c).getD []).contains f then x.fs.lookup f else none) = some q := e
  by_cases hc : ((g.xin x.c).getD []).contains f = true
  · rw [if_pos hc] at e
    cases ex : g.xin x.c with
    | none => rw [ex] at hc; cases hc
    | some l =>
      rw [ex] at hc
      have O := C.xok _ _ ex
      have hno := O.nof f (by simpa using hc)
      rw [hf] at hno
      have key : ∀ {fs0 : List (Nat × PV)} {fv : List (Str × V)}, RFs n H Z fs0 fv → fs0.lookup f = some q → ∃ v, fv.lookup fs = some v ∧ RV n H Z q v := by
        intro fs0
        induction fs0 with
        | nil => intro fv _ h; cases h
        | cons qq fs0 ih =>
          intro fv r h
          cases r with
          | @cons ii p' _ v vs r1 r2 =>
            by_cases ef : f = ii
            · subst ef
              rw [List.lookup_cons_self] at h
              cases h
              exact ⟨v, by rw [← hf, List.lookup_cons_self], r1⟩
            · have e2 : (f == ii) = false := by simpa using ef
              rw [List.lookup_cons, e2] at h
              obtain ⟨v', h1, h2⟩ := ih r2 h
              refine ⟨v', ?_, h2⟩
              rw [List.lookup_cons]
              have e3 : (fs == n.fN ii) = false := by
                rw [← hf]
                simpa using fun z => ef (C.cf.fi _ _ z)
              rw [e3]
              exact h1
      obtain ⟨v, h5, h6⟩ := key h4 e
      obtain ⟨g1, g2⟩ := xs j hi
      exact (pe_xf (X := X) (C := n.cA x.c) O.xf hno hz ho (pe_var (X := X.suite a ((a, oe) :: pn)) (pos := p1) hN hv hd hcd) rfl).run pins s σ H Q I ⟨.ref a, g1 (by rw [I.len]; exact (List.getElem?_eq_some_iff.mp hN).1), rfl, h1, dx, fv, v, h2, h3, h5, kk v H Z w .refl h6⟩
  · rw [if_neg hc] at e; cases e
theorem tX_cmp {neg : Bool} {σ : SG} {H : Hp} {Q : VK} (h : tX n g i a cls d (if neg then .ne x1 x2 else .eq x1 x2) σ H Q) : tOp (rEq n neg) (tX n g i a cls d x1) (tX n g i a cls d x2) σ H Q := by
  obtain ⟨ρ, Z, x, w, xa, xs, q, e, kk⟩ := h
  have e0 : (match xev g x ρ x1, xev g x ρ x2 with
    | some p, some q => if plain p && plain q then some (PV.bl (if neg then !eqv p q else eqv p q)) else none
    | _, _ => none) = some q := by
    rw [← e]
    cases neg <;> rfl
  split at e0
  · rename_i p1 p2 h1 h2
    by_cases hp : (plain p1 && plain p2) = true
    · rw [if_pos hp] at e0
      cases e0
      refine ⟨ρ, Z, x, w, xa, xs, p1, h1, fun v1 H1 Z1 w1 s1 r1 => ⟨ρ, Z1, x, w1, xa.step w s1, xs, p2, h2, fun v2 H2 Z2 w2 s2 r2 => ⟨ρ, σ, Z2, p1, p2, w2, .inl (r1.step w1 s2), .inl r2, hp, fun H' Z' w3 s3 => kk _ H' Z' w3 ((s1.trans s2).trans s3) (.bl _)⟩⟩⟩
    · rw [if_neg hp] at e0; cases e0
  · cases e0
theorem px_cmp (C : Ctx n g cl k known X Γ W) (neg : Bool) (h1 : PE (X.suite a ((a, oe) :: pn)) e1 (tX n g i a cls d x1)) (h2 : PE (X.suite a ((a, oe) :: pn)) e2 (tX n g i a cls d x2)) :
    PE (X.suite a ((a, oe) :: pn)) (.Compare e1 [if neg then .NotEq else .Eq] [e2] pos) (tX n g i a cls d (if neg then .ne x1 x2 else .eq x1 x2)) ∧
    PT (X.suite a ((a, oe) :: pn)) (.Compare e1 [if neg then .NotEq else .Eq] [e2] pos) (fun σ H Q => tX n g i a cls d (if neg then .ne x1 x2 else .eq x1 x2) σ H fun v H' => ∃ b, v = .bl b ∧ Q b H') := by
  have ho := eqX (X := X.suite a ((a, oe) :: pn)) C.fit.K (by have := C.fit.hu; show X.A.units + 64 < cLine; omega) neg
  have hm : behindInMarks (if neg then .NotEq else .Eq) e2 = false := by cases neg <;> exact nobehind _ (by decide) (by decide)
  exact ⟨PE.imp (L2.pe_cmpR ho h1 h2 hm) fun σ H Q h => tX_cmp h, PT.imp (L2.pt_cmpR ho h1 h2 hm) fun σ H Q h => tX_cmp h⟩
/-- a suite's reading -/
def tSu (n : En) (g : G) (i : Option Nat) (a : Addr) (cls : Value) (d : Option Addr) (su : XS) : TS := fun D σ H => ∃ ρ Z x, Wd n ρ σ H Z ∧ XnAt n H Z x cls d ∧ XSlot i a ρ σ ∧ xsu g x ρ su ≠ .no ∧
  (∀ H' Z', xsu g x ρ su = .nx ρ → Wd n ρ σ H' Z' → Stp ρ σ H Z ρ σ H' Z' → D.nx σ H') ∧ (∀ p v H' Z', xsu g x ρ su = .rt p false ρ → Wd n ρ σ H' Z' → Stp ρ σ H Z ρ σ H' Z' → RV n H' Z' p v → D.rt v H')
theorem su_pas : PSs (X.suite a ((a, oe) :: pn)) [.Pass pos] (tSu n g i a cls d .pas) :=
  PSs.imp (pss_one ps_pass) fun D σ H ⟨ρ, Z, x, w, _, _, _, kn, _⟩ => kn H Z rfl w .refl
theorem su_ret (h : PE (X.suite a ((a, oe) :: pn)) e (tX n g i a cls d xe)) : PSs (X.suite a ((a, oe) :: pn)) [.Return (some e) pos] (tSu n g i a cls d (.ret xe)) := by
  refine PSs.imp (pss_one (ps_ret h)) fun D σ H ⟨ρ, Z, x, w, xa, xs, hno, _, kr⟩ => ?_
  have e0 : xsu g x ρ (.ret xe) = (match xev g x ρ xe with | some v => .rt v false ρ | none => .no) := rfl
  rw [e0] at hno kr
  cases ex : xev g x ρ xe with
  | none => rw [ex] at hno; exact absurd rfl hno
  | some p =>
    rw [ex] at kr
    exact ⟨ρ, Z, x, w, xa, xs, p, ex, fun v H' Z' w' s' r => kr p v H' Z' rfl w' s' r⟩
theorem su_ifr {pos' : Pos} (h1 : PT (X.suite a ((a, oe) :: pn)) e1 (fun σ H Q => tX n g i a cls d x1 σ H fun v H' => ∃ b, v = .bl b ∧ Q b H')) (h2 : PE (X.suite a ((a, oe) :: pn)) e2 (tX n g i a cls d x2)) :
    PSs (X.suite a ((a, oe) :: pn)) [.If e1 [.Return (some e2) pos] [] pos'] (tSu n g i a cls d (.ifr x1 x2)) := by
  refine PSs.imp (pss_one (ps_if h1 (pss_one (ps_ret h2)) pss_nil)) fun D σ H ⟨ρ, Z, x, w, xa, xs, hno, kn, kr⟩ => ?_
  have e0 : xsu g x ρ (.ifr x1 x2) = (match xev g x ρ x1 with
    | some (.bl true) => (match xev g x ρ x2 with | some v => .rt v false ρ | none => .no)
    | some (.bl false) => .nx ρ
    | _ => .no) := rfl
  rw [e0] at hno kn kr
  split at hno
  · rename_i eb
    rw [eb] at kr
    dsimp only at kr
    cases ex : xev g x ρ x2 with
    | none => rw [ex] at hno; exact absurd rfl hno
    | some p =>
      rw [ex] at kr
      refine ⟨ρ, Z, x, w, xa, xs, _, eb, fun v H1 Z1 w1 s1 r1 => ?_⟩
      cases r1
      refine ⟨true, rfl, ?_⟩
      show tRet (tX n g i a cls d x2) D σ H1
      exact ⟨ρ, Z1, x, w1, xa.step w s1, xs, p, ex, fun v H2 Z2 w2 s2 r2 => kr p v H2 Z2 rfl w2 (s1.trans s2) r2⟩
  · rename_i eb
    rw [eb] at kn
    refine ⟨ρ, Z, x, w, xa, xs, _, eb, fun v H1 Z1 w1 s1 r1 => ?_⟩
    cases r1
    refine ⟨false, rfl, ?_⟩
    show tNext D σ H1
    exact kn H1 Z1 rfl w1 s1
  · exact absurd rfl hno
end
end Ev

set_option Elab.async false
set_option linter.all false
set_option maxRecDepth 100000
/-! From the text to the core: statements. -/
namespace Ev
open PySem PySem.Spec PyProof.Rows L2

def cX0 (Γ : Gm) (nm : Option Str) : Expr → Option X
  | .Constant v _ _ => (litV v).map .cst
  | .Name x _ => if isVis Γ.sc x && nd x then (idx x Γ.N).map .var else none
  | .Attribute (.Name y _) f _ => if nm = some y ∧ isVis Γ.sc y = true ∧ nd y = true then (Γ.ids f).map .fld else none
  | _ => none
def cX (Γ : Gm) (nm : Option Str) : Expr → Option X
  | .Compare a [.Eq] [b] _ => (match cX0 Γ nm a, cX0 Γ nm b with | some x, some y => some (.eq x y) | _, _ => none)
  | .Compare a [.NotEq] [b] _ => (match cX0 Γ nm a, cX0 Γ nm b with | some x, some y => some (.ne x y) | _, _ => none)
  | e => cX0 Γ nm e
def isCmpX : X → Bool
  | .eq _ _ => true | .ne _ _ => true | _ => false
theorem cX0_no {Γ : Gm} {nm : Option Str} : ∀ {e : Expr} {x : X}, cX0 Γ nm e = some x → isCmpX x = false := by
  intro e x h
  unfold cX0 at h
  split at h
  · rename_i v j p
    cases e1 : litV v with
    | none => rw [e1] at h; cases h
    | some q => rw [e1] at h; cases h; rfl
  · rename_i y p
    split at h
    · cases e1 : idx y Γ.N with
      | none => rw [e1] at h; cases h
      | some j => rw [e1] at h; cases h; rfl
    · cases h
  · rename_i y p1 f p
    split at h
    · cases e1 : Γ.ids f with
      | none => rw [e1] at h; cases h
      | some m => rw [e1] at h; cases h; rfl
    · cases h
  · cases h
def cSu (Γ : Gm) (nm : Option Str) : List Stmt → Option XS
  | [.Pass _] => some .pas
  | [.Return (some e) _] => (cX Γ nm e).map .ret
  | [.If (.Compare a [op] [b] p) [.Return (some e) _] [] _] => (match cX Γ nm (.Compare a [op] [b] p), cX Γ nm e with
    | some x, some y => if isCmpX x then some (.ifr x y) else none
    | _, _ => none)
  | _ => none
def ixs (N : List Str) : List Str → Option (List Nat)
  | [] => some []
  | x :: xs => match idx x N, ixs N xs with
    | some i, some is => some (i :: is)
    | _, _ => none
def cAsg (rg : Gm → Expr → Option E) (Γ : Gm) (tg : Expr) (e : Expr) : Option S :=
  let r := rg Γ
  match tg, e with
  | .Name x _, .ListComp elt gens scope _ => (match idx x Γ.N, cLc rg Γ elt gens scope with
    | some i, some c => if isLoc Γ x && !Γ.L.contains i then some (.asg (.nm i) c) else none
    | _, _ => none)
  | .Name x _, e => (match idx x Γ.N, r e with
    | some i, some c => if isLoc Γ x && !Γ.L.contains i && notComp e then some (.asg (.nm i) c) else none
    | _, _ => none)
  | .Tuple ts _ _, .Tuple vs k2 p2 =>
    if parYes Γ.sc ts vs then (match ixs Γ.N (parN Γ.sc ts), cA r vs with
      | some is, some cs => if is.all (fun i => !Γ.L.contains i) then some (.par (is.map .nm) cs) else none
      | _, _ => none)
    else if parNo Γ.sc ts vs then (match cTl Γ ts, r (.Tuple vs k2 p2) with
      | some tt, some c => if (tslotss tt).all (fun i => !Γ.L.contains i) then some (.asg (.tup tt) c) else none
      | _, _ => none) else none
  | .Tuple ts _ _, e => if plainV e then (match cTl Γ ts, r e with
      | some tt, some c => if (tslotss tt).all (fun i => !Γ.L.contains i) then some (.asg (.tup tt) c) else none
      | _, _ => none) else none
  | .Attribute (.Name x _) f _, e => if isVis Γ.sc x && nd x && notComp e then (match idx x Γ.N, Γ.ids f, r e with
      | some i, some m, some c => some (.setF i m c)
      | _, _, _ => none) else none
  | .Subscript (.Name x _) ix _, e => if isVis Γ.sc x && nd x && notSlice ix then (match idx x Γ.N, r ix, r e with
      | some i, some ci, some c => some (.setS i ci c)
      | _, _, _ => none) else none
  | _, _ => none
def augPr : Operator → Option Pr
  | .Add => some .add | .Sub => some .sub | _ => none
def isAddO : Operator → Bool
  | .Add => true | _ => false
def cAug (r : Expr → Option E) (Γ : Gm) (tg : Expr) (op : Operator) (e : Expr) : Option S :=
  match tg with
  | .Name x _ => (match idx x Γ.N, augPr op, r e with
    | some i, some p, some c => if isLoc Γ x && !Γ.L.contains i then some (.aug i p c) else none
    | _, _, _ => none)
  | .Subscript (.Name x _) ix _ => if isVis Γ.sc x && nd x && notSlice ix && isAddO op then (match idx x Γ.N, r ix, r e with
      | some i, some ci, some c => some (.augS i ci .add c)
      | _, _, _ => none) else none
  | _ => none
def cRse (g : G) (r : Expr → Option E) (Γ : Gm) : Expr → Option S
  | .Call (.Name x _) (e :: es) [] _ => if isGl Γ.sc x && nd x then (match Γ.gl x with
    | .xc c => (match g.xin c, cA r (e :: es) with
      | some _, some cs => some (.rse c cs)
      | _, _ => none)
    | _ => none) else none
  | _ => none
def stepS (g : G) (r : Gm → Expr → Option E) (rs : Gm → List Stmt → Option (List S)) (Γ : Gm) : Stmt → Option S
  | .Pass _ => some .pas
  | .Break _ => some .brk
  | .Continue _ => some .cnt
  | .Expr e _ => (match e with
    | .Constant (.str _) _ _ => some .pas
    | e => if notComp e then (r Γ e).map .ex else none)
  | .Assign [tg] e _ => cAsg r Γ tg e
  | .AugAssign tg op e _ => cAug (r Γ) Γ tg op e
  | .Return none _ => some (.ret none)
  | .Return (some e) _ => (r Γ e).map fun c => .ret (some c)
  | .If t a b _ => (match r Γ t, rs Γ a, rs Γ b with
    | some x, some y, some z => some (.ite x y z)
    | _, _, _ => none)
  | .While t b [] _ => (match r Γ t, rs Γ b with
    | some x, some y => some (.whl x y)
    | _, _ => none)
  | .For tg it b [] _ => (match cT Γ tg, cI (r Γ) Γ it, rs Γ b with
    | some t, some i, some y => if notSet it && (tslots t).all (fun i => !Γ.L.contains i) then some (.for_ t i y) else none
    | _, _, _ => none)
  | .Raise (some e) none _ => cRse g (r Γ) Γ e
  | .Try b [.ExceptHandler (some (.Name x _)) nm (b0 :: su) _] [] [] _ => (match Γ.gl x with
    | .xc c => if isGl Γ.sc x && nd x && (g.xin c).isSome then (match rs Γ b, cSu Γ nm (b0 :: su) with
      | some cb, some xs => (match nm with
        | none => some (.tri cb [([c], none, xs)])
        | some y => (match idx y Γ.N with
          | some i => if Γ.sc.names.lookup y == some .local && !Γ.L.contains i then some (.tri cb [([c], some i, xs)]) else none
          | none => none))
      | _, _ => none) else none
    | _ => none)
  | _ => none
def cSl (f : Stmt → Option S) : List Stmt → Option (List S)
  | [] => some []
  | s :: r => match f s, cSl f r with
    | some c, some cs => some (c :: cs)
    | _, _ => none
def cSs (g : G) (fe : Nat) : Nat → Gm → List Stmt → Option (List S)
  | 0 => fun _ _ => none
  | f + 1 => fun Γ b => cSl (stepS g (cE g fe) (cSs g fe f) Γ) b

section
variable {n : En} {g : G} {cl : FC} {k F : Nat} {known : Nat → Prop}
structure SCx (n : En) (g : G) (cl : FC) (k : Nat) (known : Nat → Prop) (X : Cx) (Γ : Gm) (W : WX) : Prop where
  c : Ctx n g cl k known X Γ W
  hp : PassesOwn (model X.prog X.w) X.A X.env X.xe
  stk : X.stack = X.env :: X.outer
  fr : X.env.frame = some X.env.locals
theorem SCx.tr {X : Cx} {Γ : Gm} {W W' : WX} (C : SCx n g cl k known X Γ W) {pn : List (Addr × Obj)} {xe : Value → Shared → Prop} (tk : Takes (X.tr pn xe) W') (hp : PassesOwn (model X.prog X.w) X.A X.env xe) : SCx n g cl k known (X.tr pn xe) Γ W' :=
  ⟨{ fit := ⟨C.c.fit.K, C.c.fit.P, C.c.fit.w, C.c.fit.hu⟩, cf := C.c.cf, calm := C.c.calm, N := C.c.N, nd := C.c.nd, sc := C.c.sc, fn := C.c.fn, tk := tk, room := C.c.room
     fns := fun f h => ⟨(C.c.fns f h).ok⟩
     ids := C.c.ids, gfn := C.c.gfn, gcl := C.c.gcl, gxc := C.c.gxc
     xok := fun c fs h => ⟨(C.c.xok c fs h).oex, (C.c.xok c fs h).few, (C.c.xok c fs h).xf, (C.c.xok c fs h).nof, (C.c.xok c fs h).init⟩
     xm := C.c.xm, gtup := C.c.gtup, gval := C.c.gval, gabs := C.c.gabs, mth := C.c.mth, own := C.c.own }, hp, C.stk, C.fr⟩
section
variable {X : Cx} {Γ : Gm} {W : WX}
theorem notIn {L : List Nat} {i : Nat} (h : (!L.contains i) = true) : i ∉ L := by simpa using h
theorem ixs_get {N : List Str} : ∀ {xs : List Str} {is : List Nat}, ixs N xs = some is → is.length = xs.length ∧ ∀ (m : Nat) (x : Str) (i : Nat), xs[m]? = some x → is[m]? = some i → N[i]? = some x
  | [], is, h => by cases h; exact ⟨rfl, fun m x i h => by simp at h⟩
  | x :: xs, is, h => by
    unfold ixs at h
    split at h
    · rename_i i is' h1 h2
      cases h
      obtain ⟨q1, q2⟩ := ixs_get h2
      refine ⟨by rw [List.length_cons, List.length_cons, q1], fun m y j g1 g2 => ?_⟩
      cases m with
      | zero =>
        have g1 : x = y := by simpa using g1
        have g2 : i = j := by simpa using g2
        subst g1 g2
        exact idx_at h1
      | succ m => exact q2 m y j (by simpa using g1) (by simpa using g2)
    · cases h
theorem locAt_name {sc : Scope} {l : Nat} {e : Expr} {x : Str} (h : locAt sc l e = some x) : ∃ p, e = .Name x p ∧ sc.names.lookup x = some .local := by
  cases e <;> try (cases h; done)
  rename_i y q
  have h : (if sc.names.lookup y == some .local && q.line == l then some y else none) = some x := h
  split at h
  · rename_i hc
    cases h
    rw [Bool.and_eq_true] at hc
    exact ⟨q, rfl, by simpa using hc.1⟩
  · cases h
theorem parN_all {sc : Scope} {l : Nat} : ∀ {ts : List Expr}, (ts.filterMap (locAt sc l)).length = ts.length → ∃ ps : List Pos, ps.length = ts.length ∧ ts = ((ts.filterMap (locAt sc l)).zip ps).map (fun xp => Expr.Name xp.1 xp.2) ∧ ∀ x ∈ ts.filterMap (locAt sc l), sc.names.lookup x = some .local
  | [], _ => ⟨[], rfl, rfl, fun x h => by simp at h⟩
  | e :: ts, h => by
    have hle : (ts.filterMap (locAt sc l)).length ≤ ts.length := List.length_filterMap_le _ _
    cases e1 : locAt sc l e with
    | none =>
      rw [List.filterMap_cons_none e1, List.length_cons] at h
      omega
    | some x =>
      rw [List.filterMap_cons_some e1] at h ⊢
      obtain ⟨p, rfl, hx⟩ := locAt_name e1
      obtain ⟨ps, h1, h2, h3⟩ := parN_all (ts := ts) (by simpa using h)
      refine ⟨p :: ps, by simp [h1], ?_, fun y hy => ?_⟩
      · rw [List.zip_cons_cons, List.map_cons, ← h2]
      · rcases List.mem_cons.mp hy with e | hy
        · rw [e]; exact hx
        · exact h3 y hy
theorem pa_uses {r : Expr → Option E} (hr : ∀ e c, r e = some c → OkE n g cl X W e c) : ∀ {es : List Expr} {cs : List E}, cA r es = some cs → PA X es (tU n W (uses g cl cs))
  | [], cs, h => by cases h; exact pa_unil
  | e :: es, cs, h => by
    unfold cA at h
    split at h
    · rename_i hs
      split at h
      · rename_i c cs' h1 h2
        cases h
        exact pa_ucons (hr _ _ h1).pe (pa_uses hr h2) hs
      · cases h
    · cases h
theorem swapsC {elt : Expr} {gs : List Comprehension} {scope : Scope} {pos py : Pos} {y : Str} {l : Nat} {env : Env} : ∃ b, swapsWith (.ListComp elt gs scope pos) (some (.Name y py)) l env = pure b ∧ (b = true → env.scope.names.lookup y = some .local) := by
  refine ⟨env.blockKind == .function && env.kindOf y == some .local && py.line == pos.line && !(scope.names.any fun (n, k) => n == y && (k == .local || k == .cell)), rfl, fun h => ?_⟩
  simp only [Bool.and_eq_true] at h
  have := h.1.1.2
  simpa [Env.kindOf] using this

theorem lcS_ok (C : Ctx n g cl k known X Γ W) {r : Gm → Expr → Option E} (hr : Snd n g cl k known r) {elt : Expr} {gens : List Comprehension} {scope : Scope} {pos spos py : Pos} {c : E} {y : Str} {i : Nat} {L : List Nat} (h : cLc r Γ elt gens scope = some c)
    (hi : idx y Γ.N = some i) (hl : isLoc Γ y = true) (hL : i ∉ L) : PS X (.Assign [.Name y py] (.ListComp elt gens scope pos) spos) (tS n W L (exS g cl F (.asg (.nm i) c))) := by
  have hN : X.N.Nodup := C.N ▸ C.nd
  obtain ⟨b, hsw, hb⟩ := swapsC (elt := elt) (gs := gens) (scope := scope) (pos := pos) (py := py) (y := y) (l := spos.line) (env := X.env)
  obtain ⟨l1, l2⟩ := C.loc hl
  cases b with
  | false => exact PS.imp (ps_set hN (C.slot hi) l1 (cLc_ok C hr h).pe hsw l2) fun D σ H q => set_core hL q
  | true =>
    have hyl := hb rfl
    unfold cLc at h
    dsimp only at h
    split at h
    · rename_i hb
      have ok : BlkOk X.N X.env.scope scope (ownOf Γ.N scope) := by rw [C.N, C.sc]; exact blkOk_by hb
      split at h
      · rename_i tg it ifs
        split at h
        · rename_i hs
          split at h
          · rename_i i' t q cc e1 e2 e3 e4
            split at h
            · rename_i ht
              cases h
              have ht : ∀ j ∈ tslots t, j ∈ (ownOf Γ.N scope).map (·.2) := fun j hj => by
                have := List.all_eq_true.mp ht j hj
                simpa using this
              refine ⟨fun pins s σ H D I q => ?_⟩
              rcases tE_lc X.K ht (set_core hL q) with q | ⟨iv, ev', q⟩
              · exact (ps_setLc C.calm hN (C.slot hi) hyl hsw (cI_ok C (fun e c => hr X Γ W e c C) e1) ok (fun s H D cl' fp => cT_ok (C.blk scope s H D cl' fp) e2) (fun s H D cl' fp => cTest_ok (fun e c => hr _ _ _ e c (C.blk scope s H D cl' fp)) e3) (fun s H D cl' fp => (hr _ _ _ _ _ (C.blk scope s H D cl' fp) e4).pe) (foldOk hs _)).run pins s σ H D I q
              · exact (ps_setLc C.calm hN (C.slot hi) hyl hsw (pi_list (cI_of C (fun e c => hr X Γ W e c C) (ev' ▸ e1))) ok (fun s H D cl' fp => cT_ok (C.blk scope s H D cl' fp) e2) (fun s H D cl' fp => cTest_ok (fun e c => hr _ _ _ e c (C.blk scope s H D cl' fp)) e3) (fun s H D cl' fp => (hr _ _ _ _ _ (C.blk scope s H D cl' fp) e4).pe) (foldOk hs _)).run pins s σ H D I q
            · cases h
          · cases h
        · cases h
      · rename_i tg it ifs tg1 it1 ifs1
        split at h
        · rename_i hs
          rw [Bool.and_eq_true] at hs
          split at h
          · rename_i i' t q i1 t1 q1 cc e1 e2 e3 e4 e5 e6 e7
            split at h
            · rename_i ht
              cases h
              rw [Bool.and_eq_true] at ht
              have ht0 : ∀ j ∈ tslots t, j ∈ (ownOf Γ.N scope).map (·.2) := fun j hj => by
                have := List.all_eq_true.mp ht.1 j hj
                simpa using this
              have ht1 : ∀ j ∈ tslots t1, j ∈ (ownOf Γ.N scope).map (·.2) := fun j hj => by
                have := List.all_eq_true.mp ht.2 j hj
                simpa using this
              refine PS.imp (ps_setLc2 (vs1 := tslots t1) C.calm hN (C.slot hi) hyl hsw (cI_ok C (fun e c => hr X Γ W e c C) e1) ok ht1 (fun s H D cl' fp => cT_ok (C.blk scope s H D cl' fp) e2) (fun s H D cl' fp => cTest_ok (fun e c => hr _ _ _ e c (C.blk scope s H D cl' fp)) e3) (fun s H D cl' fp => cI_ok (C.blk scope s H D cl' fp) (fun e c => hr _ _ _ e c (C.blk scope s H D cl' fp)) e4) (fun s H D cl' fp => cT_ok (C.blk scope s H D cl' fp) e5)
                (fun s H D cl' fp => cTest_ok (fun e c => hr _ _ _ e c (C.blk scope s H D cl' fp)) e6) (fun s H D cl' fp => (hr _ _ _ _ _ (C.blk scope s H D cl' fp) e7).pe) (foldOk hs.1 _) (foldOk hs.2)) fun D σ H q => ?_
              exact tE_lc2 ht0 (fun j hj => hj) ht1 (set_core hL q)
            · cases h
          · cases h
        · cases h
      · cases h
    · cases h
theorem cAsg_ok (C : SCx n g cl k known X Γ W) {r : Gm → Expr → Option E} (hr : Snd n g cl k known r) {tg e : Expr} {pos : Pos} {s : S} (h : cAsg r Γ tg e = some s) : PS X (.Assign [tg] e pos) (tS n W Γ.L (exS g cl F s)) := by
  have hN : X.N.Nodup := C.c.N ▸ C.c.nd
  have hrX : ∀ e c, r Γ e = some c → OkE n g cl X W e c := fun e c => hr X Γ W e c C.c
  unfold cAsg at h
  dsimp only at h
  split at h
  · split at h
    · rename_i i c e1 e2
      split at h
      · rename_i hc
        cases h
        rw [Bool.and_eq_true] at hc
        exact lcS_ok C.c hr e2 e1 hc.1 (notIn hc.2)
      · cases h
    · cases h
  · split at h
    · rename_i i c e1 e2
      split at h
      · rename_i hc
        cases h
        simp only [Bool.and_eq_true] at hc
        obtain ⟨⟨c1, c2⟩, c3⟩ := hc
        obtain ⟨l1, l2⟩ := C.c.loc c1
        exact ps_eset hN (C.c.slot e1) l1 l2 (notIn c2) (hrX _ _ e2).pe c3
      · cases h
    · cases h
  · rename_i ts kt pt vs k2 p2
    split at h
    · rename_i hy
      split at h
      · rename_i is cs e1 e2
        split at h
        · rename_i hL
          cases h
          have hL : ∀ i ∈ is, i ∉ Γ.L := fun i hi => notIn (List.all_eq_true.mp hL i hi)
          have hw := parYes_ok (env := X.env) (ts := ts) (vs := vs) (k := kt) (k2 := k2) (p := pt) (p2 := p2) (by rw [C.c.sc]; exact hy)
          rw [C.c.sc] at hw
          unfold parYes at hy
          simp only [Bool.and_eq_true, Bool.not_eq_true'] at hy
          obtain ⟨⟨⟨⟨⟨⟨⟨h1, h2⟩, h3⟩, h4⟩, h5⟩, h6⟩, h7⟩, h8⟩ := hy
          obtain ⟨ps, g1, g2, g3⟩ : ∃ ps : List Pos, ps.length = ts.length ∧ ts = ((parN Γ.sc ts).zip ps).map (fun xp => Expr.Name xp.1 xp.2) ∧ ∀ x ∈ parN Γ.sc ts, Γ.sc.names.lookup x = some .local := parN_all (ts := ts) (sc := Γ.sc) (l := line0 ts) (beq_iff_eq.mp h5)
          have hl : (parN Γ.sc ts).length = ts.length := beq_iff_eq.mp h5
          obtain ⟨il, ig⟩ := ixs_get e1
          obtain ⟨_, _, cl1⟩ := cA_ok hrX e2
          have pu := pa_uses (W := W) hrX e2
          have ed : (parN Γ.sc ts).eraseDups.length = (parN Γ.sc ts).length := beq_iff_eq.mp h6
          generalize parN Γ.sc ts = xs at *
          have hvl : vs.length = ts.length := beq_iff_eq.mp h2
          rcases (by simpa using h1 : ts.length = 2 ∨ ts.length = 3) with q | q
          · match xs, ps, is, vs, hl, g1, il, hvl with
            | [x, y], [px, py], [i, j], [a, b], _, _, _, _ =>
              have g5 : ts = [.Name x px, .Name y py] := g2
              clear g2
              subst g5
              have hx := ig 0 x i rfl rfl
              have hyy := ig 1 y j rfl rfl
              have nij : i ≠ j := fun z => by
                subst z
                rw [hx] at hyy
                cases hyy
                simp [List.eraseDups, List.eraseDupsBy, List.eraseDupsBy.loop] at ed
              exact PS.imp (ps_par C.c.calm hN (by rw [C.c.N]; exact hx) (by rw [C.c.N]; exact hyy) nij (by rw [C.c.sc]; exact g3 x (by simp)) (by rw [C.c.sc]; exact g3 y (by simp)) pu hw rfl) fun D σ H q => par2_core (hL i (by simp)) (hL j (by simp)) q
            | [], _, _, _, hl, _, _, _ => rw [q] at hl; cases hl
            | [_], _, _, _, hl, _, _, _ => rw [q] at hl; cases hl
            | _ :: _ :: _ :: _, _, _, _, hl, _, _, _ => rw [q] at hl; simp at hl
            | [_, _], [], _, _, _, g1, _, _ => rw [q] at g1; cases g1
            | [_, _], [_], _, _, _, g1, _, _ => rw [q] at g1; cases g1
            | [_, _], _ :: _ :: _ :: _, _, _, _, g1, _, _ => rw [q] at g1; simp at g1
            | [_, _], [_, _], [], _, _, _, il, _ => cases il
            | [_, _], [_, _], [_], _, _, _, il, _ => cases il
            | [_, _], [_, _], _ :: _ :: _ :: _, _, _, _, il, _ => simp at il
            | [_, _], [_, _], [_, _], [], _, _, _, hvl => rw [q] at hvl; cases hvl
            | [_, _], [_, _], [_, _], [_], _, _, _, hvl => rw [q] at hvl; cases hvl
            | [_, _], [_, _], [_, _], _ :: _ :: _ :: _, _, _, _, hvl => rw [q] at hvl; simp at hvl
          · match xs, ps, is, vs, hl, g1, il, hvl with
            | [x, y, z], [px, py, pz], [i, j, m], [a, b, c], _, _, _, _ =>
              have g5 : ts = [.Name x px, .Name y py, .Name z pz] := g2
              clear g2
              subst g5
              have hx := ig 0 x i rfl rfl
              have hyy := ig 1 y j rfl rfl
              have hz := ig 2 z m rfl rfl
              have key : x ≠ y ∧ x ≠ z ∧ y ≠ z := by
                refine ⟨fun e => ?_, fun e => ?_, fun e => ?_⟩ <;> subst e <;> revert ed <;> simp [List.eraseDups, List.eraseDupsBy, List.eraseDupsBy.loop] <;> (try split) <;> (try simp) <;> (try split) <;> simp
              have ne : ∀ {a b : Nat} {u v : Str}, Γ.N[a]? = some u → Γ.N[b]? = some v → u ≠ v → a ≠ b := fun h1 h2 h3 z => by
                subst z; rw [h1] at h2; cases h2; exact h3 rfl
              exact PS.imp (ps_par3 C.c.calm hN (by rw [C.c.N]; exact hx) (by rw [C.c.N]; exact hyy) (by rw [C.c.N]; exact hz) (ne hx hyy key.1) (ne hx hz key.2.1) (ne hyy hz key.2.2) (by rw [C.c.sc]; exact g3 x (by simp)) (by rw [C.c.sc]; exact g3 y (by simp)) (by rw [C.c.sc]; exact g3 z (by simp)) pu hw rfl) fun D σ H q => par3_core (hL i (by simp)) (hL j (by simp)) (hL m (by simp)) q
            | [], _, _, _, hl, _, _, _ => rw [q] at hl; cases hl
            | [_], _, _, _, hl, _, _, _ => rw [q] at hl; cases hl
            | [_, _], _, _, _, hl, _, _, _ => rw [q] at hl; cases hl
            | _ :: _ :: _ :: _ :: _, _, _, _, hl, _, _, _ => rw [q] at hl; simp at hl
            | [_, _, _], [], _, _, _, g1, _, _ => rw [q] at g1; cases g1
            | [_, _, _], [_], _, _, _, g1, _, _ => rw [q] at g1; cases g1
            | [_, _, _], [_, _], _, _, _, g1, _, _ => rw [q] at g1; cases g1
            | [_, _, _], _ :: _ :: _ :: _ :: _, _, _, _, g1, _, _ => rw [q] at g1; simp at g1
            | [_, _, _], [_, _, _], [], _, _, _, il, _ => cases il
            | [_, _, _], [_, _, _], [_], _, _, _, il, _ => cases il
            | [_, _, _], [_, _, _], [_, _], _, _, _, il, _ => cases il
            | [_, _, _], [_, _, _], _ :: _ :: _ :: _ :: _, _, _, _, il, _ => simp at il
            | [_, _, _], [_, _, _], [_, _, _], [], _, _, _, hvl => rw [q] at hvl; cases hvl
            | [_, _, _], [_, _, _], [_, _, _], [_], _, _, _, hvl => rw [q] at hvl; cases hvl
            | [_, _, _], [_, _, _], [_, _, _], [_, _], _, _, _, hvl => rw [q] at hvl; cases hvl
            | [_, _, _], [_, _, _], [_, _, _], _ :: _ :: _ :: _ :: _, _, _, _, hvl => rw [q] at hvl; simp at hvl
        · cases h
      · cases h
    · split at h
      · rename_i hn
        split at h
        · rename_i tt c e1 e2
          split at h
          · rename_i hL
            cases h
            obtain ⟨q1, q2, q3⟩ := cTl_ok C.c e1
            exact ps_easgT (fun i hi => notIn (List.all_eq_true.mp hL i hi)) (hrX _ _ e2).pe (pg_etup C.c.fit.K C.c.calm q1 q2 q3) (parNo_ok (by rw [C.c.sc]; exact hn))
          · cases h
        · cases h
      · cases h
  · split at h
    · rename_i hv
      split at h
      · rename_i tt c e1 e2
        split at h
        · rename_i hL
          cases h
          obtain ⟨q1, q2, q3⟩ := cTl_ok C.c e1
          exact ps_easgT (fun i hi => notIn (List.all_eq_true.mp hL i hi)) (hrX _ _ e2).pe (pg_etup C.c.fit.K C.c.calm q1 q2 q3) (swap_none hv)
        · cases h
      · cases h
    · cases h
  · split at h
    · rename_i hc
      simp only [Bool.and_eq_true] at hc
      obtain ⟨⟨c1, c2⟩, c3⟩ := hc
      obtain ⟨d1, d2, _⟩ := nd_ok c2
      split at h
      · rename_i i m c e1 e2 e3
        cases h
        have hn := C.c.ids _ _ e2
        exact ps_esetF hn C.c.cf.fi C.c.fit.K (fun cc hk => by
          obtain ⟨q1, q2⟩ := C.c.cf.cls cc m hk
          exact ⟨q1, hn ▸ q2⟩) (C.c.slot e1) (C.c.vis c1) d1 d2 (hrX _ _ e3).pe c3
      · cases h
    · cases h
  · split at h
    · rename_i hc
      simp only [Bool.and_eq_true] at hc
      obtain ⟨⟨c1, c2⟩, c3⟩ := hc
      obtain ⟨d1, d2, _⟩ := nd_ok c2
      split at h
      · rename_i i ci c e1 e2 e3
        cases h
        exact ps_esetS C.c.fit (C.c.slot e1) (C.c.vis c1) d1 d2 (hrX _ _ e3).pe (hrX _ _ e2).pe c3
      · cases h
    · cases h
  · cases h
end
end
end Ev

set_option Elab.async false
set_option linter.all false
set_option maxRecDepth 100000
/-! The compiler of statements is sound. -/
namespace Ev
open PySem PySem.Spec PyProof.Rows L2

section
variable {n : En} {g : G} {cl : FC} {k F : Nat} {known : Nat → Prop} {X : Cx} {Γ : Gm} {W : WX}
theorem cAug_ok (C : SCx n g cl k known X Γ W) {r : Expr → Option E} (hrX : ∀ e c, r e = some c → OkE n g cl X W e c) {tg e : Expr} {op : Operator} {pos : Pos} {s : S} (h : cAug r Γ tg op e = some s) : PS X (.AugAssign tg op e pos) (tS n W Γ.L (exS g cl F s)) := by
  have hN : X.N.Nodup := C.c.N ▸ C.c.nd
  unfold cAug at h
  split at h
  · split at h
    · rename_i i p c e1 e2 e3
      split at h
      · rename_i hc
        cases h
        rw [Bool.and_eq_true] at hc
        obtain ⟨l1, l2⟩ := C.c.loc hc.1
        cases op <;> (try (cases e2; done))
        · cases e2; exact ps_eaug ip_add onZ_add hN (C.c.slot e1) l1 l2 (notIn hc.2) (hrX _ _ e3).pe
        · cases e2; exact ps_eaug ip_sub onZ_sub hN (C.c.slot e1) l1 l2 (notIn hc.2) (hrX _ _ e3).pe
      · cases h
    · cases h
  · split at h
    · rename_i hc
      simp only [Bool.and_eq_true] at hc
      obtain ⟨⟨⟨c1, c2⟩, c3⟩, c4⟩ := hc
      obtain ⟨d1, d2, _⟩ := nd_ok c2
      split at h
      · rename_i i ci c e1 e2 e3
        cases h
        cases op <;> (try (cases c4; done))
        exact ps_eaugS C.c.fit ip_add onZ_add int_add (C.c.slot e1) (C.c.vis c1) d1 d2 (hrX _ _ e2).pe (hrX _ _ e3).pe c3
      · cases h
    · cases h
  · cases h
theorem cRse_ok (C : SCx n g cl k known X Γ W) {r : Expr → Option E} (hrX : ∀ e c, r e = some c → OkE n g cl X W e c) {e : Expr} {pos : Pos} {s : S} (h : cRse g r Γ e = some s) : PS X (.Raise (some e) none pos) (tS n W Γ.L (exS g cl F s)) := by
  unfold cRse at h
  split at h
  · split at h
    · rename_i hc
      rw [Bool.and_eq_true] at hc
      obtain ⟨d1, d2, _⟩ := nd_ok hc.2
      split at h
      · rename_i c e1
        split at h
        · rename_i fs cs e2 e3
          cases h
          obtain ⟨q1, q2, q3⟩ := cA_ok hrX e3
          exact ps_erse e2 (C.c.xok _ _ e2) C.c.calm C.c.tk C.c.room (C.c.gl hc.1) (C.c.gxc _ _ e1) d1 q1 q2
        · cases h
      · cases h
    · cases h
  · cases h
/-! ### try -/
section
variable {a : Addr} {oe : Obj} {cls : Value} {d : Option Addr} {pn : List (Addr × Obj)}
theorem cX0_ok (C : SCx n g cl k known X Γ W) {nm : Option Str} {i : Option Nat} (hi : ∀ y, nm = some y → ∃ j, i = some j ∧ idx y Γ.N = some j) (hz : Zc cls d oe) (ho : ∃ vs, oe.data = .fields vs) {e : Expr} {x : Ev.X} (h : cX0 Γ nm e = some x) : PE (X.suite a ((a, oe) :: pn)) e (tX n g i a cls d x) := by
  unfold cX0 at h
  split at h
  · rename_i v j p
    cases v with
    | none => cases h; exact px_cst pe_non fun _ _ => .non
    | bool b => cases h; exact px_cst pe_bl fun _ _ => .bl b
    | int i => cases h; exact px_cst pe_int fun _ _ => .int i
    | str s => cases h; exact px_cst pe_str fun H Z => by have q := RV.str (n := n) (H := H) (Z := Z) (cps s); rw [strV_cps] at q; exact q
    | _ => cases h
  · rename_i y p
    split at h
    · rename_i hc
      rw [Bool.and_eq_true] at hc
      obtain ⟨d1, d2, _⟩ := nd_ok hc.2
      cases e1 : idx y Γ.N with
      | none => rw [e1] at h; cases h
      | some j => rw [e1] at h; cases h; exact px_var (C.c.slot e1) (C.c.vis hc.1) d1 d2
    · cases h
  · rename_i y p1 f p
    split at h
    · rename_i hc
      obtain ⟨c1, c2, c3⟩ := hc
      obtain ⟨d1, d2, _⟩ := nd_ok c3
      obtain ⟨j, h1, h2⟩ := hi y c1
      cases e1 : Γ.ids f with
      | none => rw [e1] at h; cases h
      | some m => rw [e1] at h; cases h; exact px_fld C.c h1 (C.c.ids _ _ e1) (C.c.slot h2) (C.c.vis c2) d1 d2 hz ho
    · cases h
  · cases h
theorem cX_ok (C : SCx n g cl k known X Γ W) {nm : Option Str} {i : Option Nat} (hi : ∀ y, nm = some y → ∃ j, i = some j ∧ idx y Γ.N = some j) (hz : Zc cls d oe) (ho : ∃ vs, oe.data = .fields vs) {e : Expr} {x : Ev.X} (h : cX Γ nm e = some x) : PE (X.suite a ((a, oe) :: pn)) e (tX n g i a cls d x) ∧
    (isCmpX x = true → PT (X.suite a ((a, oe) :: pn)) e (fun σ H Q => tX n g i a cls d x σ H fun v H' => ∃ b, v = .bl b ∧ Q b H')) := by
  unfold cX at h
  split at h
  · split at h
    · rename_i x1 x2 e1 e2
      cases h
      obtain ⟨q1, q2⟩ := px_cmp (pos := by assumption) C.c false (cX0_ok C hi hz ho e1) (cX0_ok C hi hz ho e2)
      exact ⟨q1, fun _ => q2⟩
    · cases h
  · split at h
    · rename_i x1 x2 e1 e2
      cases h
      obtain ⟨q1, q2⟩ := px_cmp (pos := by assumption) C.c true (cX0_ok C hi hz ho e1) (cX0_ok C hi hz ho e2)
      exact ⟨q1, fun _ => q2⟩
    · cases h
  · exact ⟨cX0_ok C hi hz ho h, fun hc => by rw [cX0_no h] at hc; cases hc⟩
theorem cSu_ok (C : SCx n g cl k known X Γ W) {nm : Option Str} {i : Option Nat} (hi : ∀ y, nm = some y → ∃ j, i = some j ∧ idx y Γ.N = some j) (hz : Zc cls d oe) (ho : ∃ vs, oe.data = .fields vs) {b : List Stmt} {xs : XS} (h : cSu Γ nm b = some xs) : PSs (X.suite a ((a, oe) :: pn)) b (tSu n g i a cls d xs) := by
  unfold cSu at h
  split at h
  · cases h; exact su_pas
  · rename_i e p
    cases e1 : cX Γ nm e with
    | none => rw [e1] at h; cases h
    | some x => rw [e1] at h; cases h; exact su_ret (cX_ok C hi hz ho e1).1
  · split at h
    · rename_i x y e1 e2
      split at h
      · rename_i hc
        cases h
        exact su_ifr ((cX_ok C hi hz ho e1).2 hc) (cX_ok C hi hz ho e2).1
      · cases h
    · cases h
  · cases h
end
theorem Wd.dropAny {ρ0 ρ : Sl} {σ0 σ : SG} {H0 H : Hp} {Z0 Z : Addr → Prop} (w : Wd n ρ σ H Z) (s : Stp ρ0 σ0 H0 Z0 ρ σ H Z) (i : Nat) (x : Option V) : Wd n (sput ρ i none) (σ.set i x) H Z ∧ Stp ρ0 σ0 H0 Z0 (sput ρ i none) (σ.set i x) H Z := by
  have key : ∀ j q, sget (sput ρ i none) j = some q → i ≠ j ∧ sget ρ j = some q := fun j q e => by
    rw [sget_put] at e
    by_cases c : i = j ∧ i < ρ.length
    · rw [if_pos c] at e; cases e
    · rw [if_neg c] at e
      refine ⟨fun c2 => c ⟨c2, ?_⟩, e⟩
      subst c2
      exact sget_lt e
  have so : ∀ j, i ≠ j → (σ.set i x)[j]? = σ[j]? := fun j e => List.getElem?_set_ne e
  refine ⟨⟨by rw [List.length_set, sput_len]; exact w.len, fun j q e => ?_, fun j q e => ?_, fun j k q r a e1 e2 z1 z2 => ?_, w.gz⟩, ⟨s.mono, s.stay, s.same, s.zin, fun a ⟨j, q, e, z⟩ => ?_⟩⟩
  · obtain ⟨c, e⟩ := key j _ e
    rw [so j c]; exact w.vis j q e
  · obtain ⟨c, e⟩ := key j _ e
    rw [so j c]; exact w.own j q e
  · obtain ⟨c, e1⟩ := key j _ e1
    obtain ⟨c2, e2⟩ := key k _ e2
    rw [so j c] at z1
    rw [so k c2] at z2
    exact w.inj j k q r a e1 e2 z1 z2
  · obtain ⟨c, e⟩ := key j _ e
    rw [so j c] at z
    exact s.oin a ⟨j, q, e, z⟩
/-- the body's reading from the try's -/
theorem tri_body {Wb : WX} {L : List Nat} {c : Nat} {io : Option Nat} {xs : XS} {cb : List S} {D : Ends} {σ : SG} {H : Hp} (hL : ∀ j, io = some j → j ∉ L)
    (hwb : ∀ ρ' σ' H' Z' x cls d ρ0 Z0, Wd n ρ0 σ H Z0 → XnAt n H' Z' x cls d → Wd n ρ' σ' H' Z' → Stp ρ0 σ H Z0 ρ' σ' H' Z' → Lk L σ σ' → TSok n W L (hand g x ρ' [([c], io, xs)]) D ρ0 σ H Z0 → Wb cls d σ' H')
    (h : tS n W L (exS g cl F (.tri cb [([c], io, xs)])) D σ H) : tS n Wb L (exSs g cl F cb) D σ H := by
  obtain ⟨ρ, Z, w, h⟩ := h
  have e0 : exS g cl F (.tri cb [([c], io, xs)]) ρ = catch_ g [([c], io, xs)] (exSs g cl F cb ρ) := rfl
  rw [e0] at h
  refine ⟨ρ, Z, w, ?_⟩
  generalize exSs g cl F cb ρ = r at h
  cases r with
  | nx ρ' => exact ⟨(fun z => by cases z), fun ρ1 σ' H' Z' e => (by cases e; exact h.nx ρ' σ' H' Z' rfl), (fun _ _ _ _ e => by cases e), (fun _ _ _ _ e => by cases e), (fun _ _ _ _ _ _ _ e => by cases e), fun _ _ _ _ _ _ _ e => by cases e⟩
  | bk ρ' => exact ⟨(fun z => by cases z), (fun _ _ _ _ e => by cases e), fun ρ1 σ' H' Z' e => (by cases e; exact h.bk ρ' σ' H' Z' rfl), (fun _ _ _ _ e => by cases e), (fun _ _ _ _ _ _ _ e => by cases e), fun _ _ _ _ _ _ _ e => by cases e⟩
  | ct ρ' => exact ⟨(fun z => by cases z), (fun _ _ _ _ e => by cases e), (fun _ _ _ _ e => by cases e), fun ρ1 σ' H' Z' e => (by cases e; exact h.ct ρ' σ' H' Z' rfl), (fun _ _ _ _ _ _ _ e => by cases e), fun _ _ _ _ _ _ _ e => by cases e⟩
  | rt v o ρ' => exact ⟨(fun z => by cases z), (fun _ _ _ _ e => by cases e), (fun _ _ _ _ e => by cases e), (fun _ _ _ _ e => by cases e), fun p o' ρ1 σ' H' Z' v' e => (by cases e; exact h.rt v o ρ' σ' H' Z' v' rfl), fun _ _ _ _ _ _ _ e => by cases e⟩
  | ex x ρ' => exact ⟨(fun z => by cases z), (fun _ _ _ _ e => by cases e), (fun _ _ _ _ e => by cases e), (fun _ _ _ _ e => by cases e), (fun _ _ _ _ _ _ _ e => by cases e), fun x1 ρ1 σ' H' Z' cls d e xa w' s' lk => by
      cases e
      exact hwb ρ' σ' H' Z' x cls d ρ Z w xa w' s' lk h⟩
  | no => exact absurd rfl h.no
theorem xsu_no {x : Xn} {ρ ρ' : Sl} {xs : XS} {p : PV} {o : Bool} (h : xsu g x ρ xs = .rt p o ρ') : o = false ∧ ρ' = ρ := by
  cases xs with
  | ret e =>
    have h : (match xev g x ρ e with | some v => SO.rt v false ρ | none => .no) = .rt p o ρ' := h
    split at h
    · cases h; exact ⟨rfl, rfl⟩
    · cases h
  | ifr c e =>
    have h : (match xev g x ρ c with
    | some (.bl true) => (match xev g x ρ e with | some v => SO.rt v false ρ | none => .no)
    | some (.bl false) => .nx ρ
    | _ => .no) = .rt p o ρ' := h
    split at h
    · split at h
      · cases h; exact ⟨rfl, rfl⟩
      · cases h
    · cases h
    · cases h
  | pas => cases h
theorem cTry_ok (C : SCx n g cl k known X Γ W) {c : Nat} {io : Option Nat} {xs : XS} {cb : List S} {body su : List Stmt} {b0 : Stmt} {x : Str} {nm : Option Str} {np pos pos' : Pos} (hgx : Γ.gl x = .xc c) (hg : isGl Γ.sc x = true) (hd : nd x = true) (hx : (g.xin c).isSome = true)
    (hb : ∀ X' W', SCx n g cl k known X' Γ W' → PSs X' body (tS n W' Γ.L (exSs g cl F cb))) (hsu : cSu Γ nm (b0 :: su) = some xs) (hio : match nm with | none => io = none | some y => ∃ i, io = some i ∧ idx y Γ.N = some i ∧ Γ.sc.names.lookup y = some .local ∧ i ∉ Γ.L) :
    PS X (.Try body [.ExceptHandler (some (.Name x np)) nm (b0 :: su) pos'] [] [] pos) (tS n W Γ.L (exS g cl F (.tri cb [([c], io, xs)]))) := by
  have hN : X.N.Nodup := C.c.N ▸ C.c.nd
  obtain ⟨d1, d2, _⟩ := nd_ok hd
  have names : Names X x (.ref (n.cA c)) := ⟨C.c.gl hg, d1, .inl (C.c.gxc _ _ hgx)⟩
  have hi : ∀ y, nm = some y → ∃ j, io = some j ∧ idx y Γ.N = some j := fun y e => by
    subst e
    obtain ⟨i, h1, h2, _⟩ := hio
    exact ⟨i, h1, h2⟩
  have body' : ∀ (W' : WX) (pn : List (Addr × Obj)) (xe : Value → Shared → Prop), Takes (X.tr pn xe) W' → PassesOwn (model X.prog X.w) X.A X.env xe → PSs (X.tr pn xe) body (tS n W' Γ.L (exSs g cl F cb)) := fun W' pn xe tk hp => hb _ _ (C.tr tk hp)
  have suite' : ∀ (a : Addr) (oe : Obj) (cls : Value) (d : Option Addr) (pn : List (Addr × Obj)), Zc cls d oe → (∃ vs, oe.data = .fields vs) → PSs (X.suite a ((a, oe) :: pn)) (b0 :: su) (tSu n g io a cls d xs) := fun a oe cls d pn hz ho => cSu_ok C hi hz ho hsu
  have hL : ∀ j, io = some j → j ∉ Γ.L := fun j e => by
    cases nm with
    | none => rw [hio] at e; cases e
    | some y =>
      obtain ⟨i, h1, _, _, h4⟩ := hio
      rw [h1] at e; cases e; exact h4
  -- what the clause does
  have core : ∀ {D : Ends} {σ : SG} {H : Hp} {ρ' : Sl} {σ' : SG} {H' : Hp} {Z' : Addr → Prop} {xx : Xn} {cls : Value} {d : Option Addr} {ρ0 : Sl} {Z0 : Addr → Prop}, Wd n ρ0 σ H Z0 → XnAt n H' Z' xx cls d → Wd n ρ' σ' H' Z' → Stp ρ0 σ H Z0 ρ' σ' H' Z' → Lk Γ.L σ σ' →
      TSok n W Γ.L (hand g xx ρ' [([c], io, xs)]) D ρ0 σ H Z0 → ∃ b, PySem.W.exmOne X.K cls (.ref (n.cA c)) = some b ∧ (b = false → W cls d σ' H') ∧ (b = true → ∀ a D' σ2, H' a = none → Wd n (dropN ρ' io) σ2 H' Z' → Stp ρ0 σ H Z0 (dropN ρ' io) σ2 H' Z' → XSlot io a (dropN ρ' io) σ2 →
        (∀ σ3 H3 Z3, Wd n (dropN ρ' io) σ2 H3 Z3 → Stp ρ0 σ H Z0 (dropN ρ' io) σ2 H3 Z3 → σ3 = σ2 → (∀ {σ4}, Wd n (dropN ρ' io) σ4 H3 Z3 → Stp ρ0 σ H Z0 (dropN ρ' io) σ4 H3 Z3 → Lk Γ.L σ σ4 → D.nx σ4 H3) → D'.nx σ3 H3) → (∀ v H3, D.rt v H3 → D'.rt v H3) → Lk Γ.L σ σ2 → tSu n g io a cls d xs D' σ2 H') := by
    intro D σ H ρ' σ' H' Z' xx cls d ρ0 Z0 w0 xa w' s' lk ts
    have e0 : hand g xx ρ' [([c], io, xs)] = if (g.xin xx.c).isSome && [c].all (fun c => (g.xin c).isSome) then (if [c].any (g.isa xx.c) then xsu g xx (dropN ρ' io) xs else .ex xx ρ') else .no := rfl
    rw [e0] at ts
    by_cases hc : ((g.xin xx.c).isSome && [c].all (fun c => (g.xin c).isSome)) = true
    · rw [if_pos hc] at ts
      rw [Bool.and_eq_true] at hc
      have hm := C.c.xm xx.c c hc.1 hx
      have hany : [c].any (g.isa xx.c) = g.isa xx.c c := by simp
      rw [hany] at ts
      refine ⟨g.isa xx.c c, by rw [xa.1]; exact hm, fun hb => ?_, fun hb a D' σ2 na w2 s2 sl kn kr lk2 => ?_⟩
      · rw [hb, if_neg (by decide)] at ts
        exact ts.ex xx ρ' σ' H' Z' cls d rfl xa w' s' lk
      · rw [hb, if_pos rfl] at ts
        refine ⟨dropN ρ' io, Z', xx, w2, xa, sl, ts.no, fun H3 Z3 e w3 s3 => ?_, fun p v H3 Z3 e w3 s3 rv => ?_⟩
        · exact kn σ2 H3 Z3 w3 (s2.trans s3) rfl fun {σ4} w4 s4 lk4 => ts.nx _ σ4 H3 Z3 e w4 s4 lk4
        · exact kr v H3 (ts.rt p false _ σ2 H3 Z3 v e w3 (s2.trans s3) lk2 rv)
    · rw [if_neg hc] at ts; exact absurd rfl ts.no
  cases nm with
  | none =>
    obtain rfl : io = none := hio
    refine PS.imp (ps_try_only C.stk C.fr names C.c.tk body' suite') fun D σ H h => ?_
    refine tri_body hL (fun ρ' σ' H' Z' xx cls d ρ0 Z0 w0 xa w' s' lk ts => ?_) h
    obtain ⟨b, h1, h2, h3⟩ := core w0 xa w' s' lk ts
    refine ⟨b, h1, fun hb a na => ?_, h2⟩
    exact h3 hb a D σ' na w' s' (fun j e => by cases e) (fun σ3 H3 Z3 w3 s3 e kk => by subst e; exact kk w3 s3 lk) (fun v H3 q => q) lk
  | some y =>
    obtain ⟨i, rfl, hyi, hyl, hil⟩ := hio
    refine PS.imp (ps_try_as (i := i) C.stk C.fr hN (C.c.slot hyi) (by show X.env.scope.names.lookup y = _; rw [C.c.sc]; exact hyl) names C.c.tk body' suite') fun D σ H h => ?_
    refine tri_body hL (fun ρ' σ' H' Z' xx cls d ρ0 Z0 w0 xa w' s' lk ts => ?_) h
    obtain ⟨b, h1, h2, h3⟩ := core w0 xa w' s' lk ts
    refine ⟨b, h1, fun hb a na => ?_, h2⟩
    obtain ⟨w2, s2⟩ := w'.dropAny s' i (some (.ref a))
    refine h3 hb a _ (σ'.set i (some (.ref a))) na w2 s2 (fun j e => ?_) (fun σ3 H3 Z3 w3 s3 e kk => ?_) (fun v H3 q => q) (fun j hj => ?_)
    · cases e
      refine ⟨fun hlt => List.getElem?_set_self (by simpa using hlt), ?_⟩
      show sget (sput ρ' i none) i = none
      rw [sget_put]
      by_cases q : i = i ∧ i < ρ'.length
      · rw [if_pos q]
      · rw [if_neg q]
        exact sget_len fun z => q ⟨rfl, z⟩
    · subst e
      obtain ⟨w4, s4⟩ := w3.dropAny s3 i none
      have e5 : sput (dropN ρ' (some i)) i none = dropN ρ' (some i) := by
        show (ρ'.set i none).set i none = ρ'.set i none
        rw [List.set_set]
      rw [e5] at w4 s4
      refine kk w4 s4 fun j hj => ?_
      have hji : i ≠ j := fun z => hil (z ▸ hj)
      rw [List.getElem?_set_ne hji, List.getElem?_set_ne hji]
      exact lk j hj
    · rw [List.getElem?_set_ne (fun z : i = j => hil (z ▸ hj))]
      exact lk j hj
end
end Ev

set_option Elab.async false
set_option linter.all false
set_option maxRecDepth 100000
/-! The compiler of statements is sound: all of it. -/
namespace Ev
open PySem PySem.Spec PyProof.Rows L2

section
variable {n : En} {g : G} {cl : FC} {k F : Nat} {known : Nat → Prop}
def SndS (n : En) (g : G) (cl : FC) (k F : Nat) (known : Nat → Prop) (rs : Gm → List Stmt → Option (List S)) : Prop := ∀ X Γ W b cb, SCx n g cl k known X Γ W → rs Γ b = some cb → PSs X b (tS n W Γ.L (exSs g cl F cb))
theorem stepS_ok {r : Gm → Expr → Option E} {rs : Gm → List Stmt → Option (List S)} (hr : Snd n g cl k known r) (hs : SndS n g cl k F known rs) {X : Cx} {Γ : Gm} {W : WX} (C : SCx n g cl k known X Γ W) {st : Stmt} {s : S} (h : stepS g r rs Γ st = some s) :
    PS X st (tS n W Γ.L (exS g cl F s)) := by
  have hrX : ∀ e c, r Γ e = some c → OkE n g cl X W e c := fun e c => hr X Γ W e c C.c
  unfold stepS at h
  split at h
  · cases h; exact ps_epass
  · cases h; exact ps_ebreak
  · cases h; exact ps_econt
  · split at h
    · cases h; exact ps_edoc
    · split at h
      · rename_i e p e' _ hc
        cases e1 : r Γ e with
        | none => rw [e1] at h; cases h
        | some c => rw [e1] at h; cases h; exact ps_eexpr (hrX _ _ e1).pe hc
      · cases h
  · exact cAsg_ok C hr h
  · exact cAug_ok C hrX h
  · cases h; exact ps_eretN
  · rename_i e p
    cases e1 : r Γ e with
    | none => rw [e1] at h; cases h
    | some c => rw [e1] at h; cases h; exact ps_eret (hrX _ _ e1).pe
  · split at h
    · rename_i x y z e1 e2 e3
      cases h
      exact ps_eif (hrX _ _ e1).pt (hs _ _ _ _ _ C e2) (hs _ _ _ _ _ C e3)
    · cases h
  · split at h
    · rename_i x y e1 e2
      cases h
      exact ps_ewhl C.hp (hrX _ _ e1).pt (hs _ _ _ _ _ C e2)
    · cases h
  · split at h
    · rename_i t i y e1 e2 e3
      split at h
      · rename_i hc
        cases h
        rw [Bool.and_eq_true] at hc
        exact ps_efor C.hp C.c.calm (cI_ok C.c hrX e2) (cT_ok C.c e1) (fun j hj => notIn (List.all_eq_true.mp hc.2 j hj)) (hs _ _ _ _ _ C e3) hc.1
      · cases h
    · cases h
  · exact cRse_ok C hrX h
  · split at h
    · rename_i c hgx
      split at h
      · rename_i hc
        simp only [Bool.and_eq_true] at hc
        obtain ⟨⟨c1, c2⟩, c3⟩ := hc
        split at h
        · rename_i cb xs e1 e2
          have hb : ∀ X' W', SCx n g cl k known X' Γ W' → PSs X' _ (tS n W' Γ.L (exSs g cl F cb)) := fun X' W' C' => hs _ _ _ _ _ C' e1
          split at h
          · cases h
            exact cTry_ok C hgx c1 c2 c3 hb e2 rfl
          · rename_i y
            split at h
            · rename_i i e3
              split at h
              · rename_i hl
                cases h
                rw [Bool.and_eq_true] at hl
                exact cTry_ok C hgx c1 c2 c3 hb e2 ⟨i, rfl, e3, by simpa using hl.1, notIn hl.2⟩
              · cases h
            · cases h
        · cases h
      · cases h
    · cases h
  · cases h
theorem cSl_ok {f : Stmt → Option S} {X : Cx} {Γ : Gm} {W : WX} (hf : ∀ st s, f st = some s → PS X st (tS n W Γ.L (exS g cl F s))) : ∀ {b : List Stmt} {cb : List S}, cSl f b = some cb → PSs X b (tS n W Γ.L (exSs g cl F cb))
  | [], cb, h => by cases h; exact pss_enil
  | s :: b, cb, h => by
    unfold cSl at h
    split at h
    · rename_i c cs e1 e2
      cases h
      exact pss_econs (hf _ _ e1) (cSl_ok hf e2)
    · cases h
theorem cSs_ok (fe : Nat) : ∀ f, SndS n g cl k F known (cSs g fe f)
  | 0 => fun X Γ W b cb C h => by cases h
  | f + 1 => fun X Γ W b cb C h => cSl_ok (fun st s e => stepS_ok (cE_ok fe) (cSs_ok fe f) C e) h
end

/-! ### the program -/
/-- a def as the text has it -/
structure DefT where
  ps : List Str
  N : List Str
  scope : Scope
  body : List Stmt
def gmOf (gl : Str → Gv) (ids : Str → Option Nat) (io : List Bool) (d : DefT) : Gm := { N := d.N, sc := d.scope, fnB := fun _ => true, gl := gl, ids := ids, L := ioL io }
/-- what is known of the whole program, at any place -/
structure Prog (P : Program) (w : World) (K : PySem.W.Frag) (mg : Str → Option Value) (base : Heap) (n : En) (Pg : Pg) (gl : Str → Gv) (ids : Str → Option Nat) (fe fs : Nat) (dt : Nat → Option DefT) : Prop where
  nP : n.P = P
  nw : n.w = w
  nK : n.K = K
  cf : CFacts n Pg.g
  defs : ∀ f d, dt f = some d → FnScope d.N d.ps d.scope ∧ (∃ F, Pg.fn f = some F ∧ F.io = Pg.g.io f ∧ d.N.length = F.ns ∧ d.ps.length = F.np ∧ cSs Pg.g fe fs (gmOf gl ids (Pg.g.io f) d) d.body = some F.body) ∧
    ∃ x qual params dvs kws fd, FunD K x qual params d.body d.scope dvs kws (n.fA f) fd ∧ Binds K fd d.ps []
  ids : ∀ x i, ids x = some i → n.fN i = x
  gfn : ∀ x f, gl x = .fn f → (dt f).isSome = true ∧ mg x = some (.ref (n.fA f)) ∧ PySem.W.keepIn K (.ref (n.fA f)) = true
  gcl : ∀ x c, gl x = .cl c → mg x = some (.ref (n.cA c)) ∧ Pg.g.fok c 0 = true ∧ (∀ f, Pg.g.init c = some f → (dt f).isSome = true ∧ Mk K (n.cA c) (n.fA f)) ∧ (Pg.g.bare c = true → Mk0 K (n.cA c))
  gxc : ∀ x c, gl x = .xc c → mg x = some (.ref (n.cA c))
  xok : ∀ c fs, Pg.g.xin c = some fs → fs.length ≤ 8 ∧ OexC K (n.cA c) ∧ XfC K (n.cA c) ∧ (∀ f ∈ fs, PySem.W.findIn K (.ref (n.cA c)) (n.fN f) = some none) ∧
    ∃ fI fd ps, PySem.W.findIn K (.ref (n.cA c)) "__init__" = some (some (.ref fI)) ∧ PySem.W.typeIn K (.ref fI) = some (.type "function") ∧ Binds K fd ps [] ∧ FnOk P w K mg base (L2.CX P w) 1 fI fd ps (spX n (n.cA c) fs)
  xm : ∀ c d, (Pg.g.xin c).isSome = true → (Pg.g.xin d).isSome = true → PySem.W.exmOne K (.ref (n.cA c)) (.ref (n.cA d)) = some (Pg.g.isa c d)
  gtup : ∀ x l, gl x = .val (.tup l) → ∃ q ob, mg x = some (.ref q) ∧ K.lookup q = some ob ∧ ob.cls = .type "tuple" ∧ ob.dict = none ∧ ∀ H Z, RV n H Z (.tup l) (.ref q)
  gval : ∀ x p, gl x = .val p → ∃ v u, mg x = some u ∧ RelV v u ∧ ∀ H Z, RV n H Z p v
  gabs : ∀ x, gl x = .abs → mg x = none
  mth : ∀ m c f, Pg.g.meth m c = some f → (dt f).isSome = true ∧ Cls K (n.cA c) ∧ Meth K (n.cA c) (n.fN m) (n.fA f)
  own : ∀ f, (∃ c, Pg.g.eqF c = some f) ∨ (∃ c, Pg.g.boolF c = some f) → (dt f).isSome = true
section
variable {P : Program} {w : World} {K : PySem.W.Frag} {mg : Str → Option Value} {base : Heap} {n : En} {Pg : Pg} {gl : Str → Gv} {ids : Str → Option Nat} {fe fs : Nat} {dt : Nat → Option DefT}
theorem FnScope.names {N ps : List Str} {sc : Scope} (S : FnScope N ps sc) : sc.kind = .function := S.kind
/-- every def keeps its promise, at any depth -/
theorem Prog.all (G : Prog P w K mg base n Pg gl ids fe fs dt) (d : Nat) : ∀ f D, dt f = some D → ∃ fd, FnOk P w K mg base (L2.CX P w) (2 * d + 1) (n.fA f) fd D.ps (spEv n Pg.g (callD Pg d) f) ∧ Binds K fd D.ps [] ∧ ∃ oc od osl, K.lookup (n.fA f) = some ⟨oc, od, .func fd, osl⟩ := by
  have lk : ∀ {x qual : Str} {params : Arguments} {body : List Stmt} {scope : Scope} {dvs : List V} {kws : List (Str × V)} {f : Addr} {fd : FuncData}, FunD K x qual params body scope dvs kws f fd → ∃ oc od osl, K.lookup f = some ⟨oc, od, .func fd, osl⟩ := fun F => by
    obtain ⟨oc, od, dV, kV, doc, pm, an, cdv, ct, osl, _, h, _⟩ := F.ex
    exact ⟨oc, od, osl, h⟩
  induction d with
  | zero =>
    intro f D h
    obtain ⟨S, ⟨F, _⟩, x, qual, params, dvs, kws, fd, FD, hb⟩ := G.defs f D h
    have no : ∀ vs H Q E, ¬ spEv n Pg.g (callD Pg 0) f vs H Q E := fun vs H Q E ⟨Z, ps, _, _, _, _, z, _⟩ => z rfl
    exact ⟨fd, ⟨fun vs H Q E q => (no _ _ _ _ q).elim, fun A outer s H args us vs Q E hr he hb hv q => (no _ _ _ _ q).elim⟩, hb, lk FD⟩
  | succ d ih =>
    intro f D h
    obtain ⟨S, ⟨F, hF, hio, hN, hp, hc⟩, x, qual, params, dvs, kws, fd, FD, hb⟩ := G.defs f D h
    refine ⟨fd, fnOk_ev (g := Pg.g) (cl := callD Pg d) (cl' := callD Pg (d + 1)) (Fn := F) (cb := F.body) (F := Pg.W) (k := 2 * d + 2) FD S (fun ps => ?_) hN hp (fun X W e1 e2 e3 e4 e5 e6 e7 e8 e9 e10 e11 hr tk hpo => ?_), hb, lk FD⟩
    · show runF Pg (callD Pg d) f ps = _
      unfold runF
      rw [hF]
      dsimp only
      rw [hio]
    · have C : Ctx n Pg.g (callD Pg d) (2 * d + 1) (fun f => (dt f).isSome = true) X (gmOf gl ids (Pg.g.io f) D) W := by
        have getD : ∀ f, (dt f).isSome = true → ∃ D, dt f = some D := fun f h => by
          cases e : dt f with
          | none => rw [e] at h; cases h
          | some D => exact ⟨D, rfl⟩
        subst e1 e2 e3 e4 e5
        exact
        { fit := ⟨G.nK, G.nP, G.nw, by have := hr.un; omega⟩
          cf := G.cf, calm := e8, N := e6, nd := S.nd, sc := e7, fn := fun x _ => by rw [e9], tk := tk
          room := hr
          fns := fun f' hf' => by
            obtain ⟨D', hD'⟩ := getD f' hf'
            obtain ⟨fd', q1, q2, _⟩ := ih f' D' hD'
            exact ⟨fd', D'.ps, q1, q2⟩
          ids := G.ids, gfn := G.gfn, gcl := G.gcl, gxc := G.gxc
          xok := fun c fs h => by
            obtain ⟨q1, q2, q3, q4, fI, fd', ps, q5, q6, q7, q8⟩ := G.xok c fs h
            exact ⟨q2, q1, q3, q4, fI, fd', ps, q5, q6, q8.mono (by omega), q7⟩
          xm := G.xm, gtup := G.gtup, gval := G.gval, gabs := G.gabs, mth := G.mth, own := G.own }
      exact cSs_ok fe fs X _ W D.body F.body ⟨C, hpo, e10, e11⟩ hc
end
end Ev

set_option Elab.async false
set_option linter.all false
set_option maxRecDepth 100000
/-! A program by tables: what must be seen of its text, as tests. -/
namespace Ev
open PySem PySem.Spec PyProof.Rows L2

structure FnE where
  d : He.DefD
  ps : List Str
  N : List Str
  io : List Bool := []
structure ClsD where
  name : Str
  flds : List Nat := []
  init : Option Nat := none
  eqF : Option Nat := none
  boolF : Option Nat := none
  meths : List (Nat × Nat) := []
structure ExcD where
  name : Str
  flds : List Nat
  d : He.DefD
structure PD where
  names : List Str
  cls : List ClsD
  exc : List ExcD
  fns : List FnE
  gls : List (Str × Gv)
  fe : Nat := 60
  W : Nat
namespace PD
variable (D : PD)
/-- names beyond the list -/
def pad (i : Nat) : Str := ⟨(List.replicate (i + 1000) 0).toArray⟩
def fN (i : Nat) : Str := (D.names[i]?).getD (pad i)
def g : G where
  io := fun f => ((D.fns[f]?).map (·.io)).getD []
  meth := fun m c => (D.cls[c]?).bind fun d => d.meths.lookup m
  init := fun c => (D.cls[c]?).bind (·.init)
  boolF := fun c => (D.cls[c]?).bind (·.boolF)
  eqF := fun c => (D.cls[c]?).bind (·.eqF)
  isa := fun c k => c == k
  fok := fun c f => match D.cls[c]? with | some d => f == 0 || d.flds.contains f | none => false
  bare := fun c => match D.cls[c]? with | some d => d.init.isNone | none => false
  xin := fun c => if 1000 ≤ c then (D.exc[c - 1000]?).map (·.flds) else none
def gl (x : Str) : Gv := (D.gls.lookup x).getD .unk
def ids (x : Str) : Option Nat := idx x D.names
def gm (e : FnE) : Gm := { N := e.N, sc := e.d.scope, fnB := fun _ => true, gl := D.gl, ids := D.ids, L := ioL e.io }
def comp (e : FnE) : Option (List S) := cSs D.g D.fe D.fe (D.gm e) e.d.body
def pg : Pg where
  g := D.g
  fn := fun f => (D.fns[f]?).bind fun e => (D.comp e).map fun b => ⟨e.ps.length, e.N.length, e.io, b⟩
  W := D.W
def cA (K : PySem.W.Frag) (c : Nat) : Addr := if 1000 ≤ c then He.ga K (((D.exc[c - 1000]?).map (·.name)).getD "") else He.ga K (((D.cls[c]?).map (·.name)).getD "")
def fA (K : PySem.W.Frag) (f : Nat) : Addr := match D.fns[f]? with
  | some e => He.fAd K e.d.at_
  | none => 0
def en (P : Program) (w : World) (K : PySem.W.Frag) : En := ⟨P, w, K, D.cA K, D.fA K, D.fN⟩
/-! ### tests -/
def scB (N P : List Str) (sc : Scope) : Bool := (sc.kind == .function) && !sc.isCoroutine && !sc.isGenerator && decide N.Nodup && decide (N.take P.length = P) && P.all (fun x => sc.names.lookup x == some .local || sc.names.lookup x == some .cell) && sc.names.all fun y => y.2 != .free
theorem scB_ok {N P : List Str} {sc : Scope} (h : scB N P sc = true) : FnScope N P sc := by
  unfold scB at h
  simp only [Bool.and_eq_true, Bool.not_eq_true', List.all_eq_true, Bool.or_eq_true, decide_eq_true_eq, beq_iff_eq, bne_iff_ne] at h
  obtain ⟨⟨⟨⟨⟨⟨h1, h2⟩, h3⟩, h4⟩, h5⟩, h6⟩, h7⟩ := h
  exact ⟨h1, h2, h3, h4, h5, h6, h7⟩
/-- of the text alone -/
def txtB : Bool := decide D.names.Nodup && D.names.all (fun s => decide (s.cps.size < 1000)) && D.fns.all (fun e => scB e.N e.ps e.d.scope && (D.comp e).isSome && e.d.dfl.isEmpty) && decide (D.cls.length ≤ 1000)
mutual
def pvB (K : PySem.W.Frag) : Nat → PV → Value → Bool
  | 0, _, _ => false
  | _ + 1, .non, .none => true
  | _ + 1, .bl b, .bool c => b == c
  | _ + 1, .int i, .int j _ => decide (i = j)
  | _ + 1, .str x, .str y _ => decide (strV x = y)
  | k + 1, .tup l, .ref a => (match K.lookup a with
    | some ⟨.type c, none, .seq its _, _⟩ => decide (c = "tuple") && decide (its.size ≤ sizeLine) && pvsB K k l its.toList
    | _ => false)
  | _ + 1, _, _ => false
def pvsB (K : PySem.W.Frag) : Nat → List PV → List Value → Bool
  | _, [], [] => true
  | 0, _, _ => false
  | k + 1, p :: l, v :: vs => pvB K k p v && pvsB K k l vs
  | _, _, _ => false
end
mutual
theorem pvB_ok {n : En} {K : PySem.W.Frag} (hK : n.K = K) : ∀ {k : Nat} {p : PV} {u : Value}, pvB K k p u = true → ∃ v, RelV v u ∧ ∀ H Z, RV n H Z p v
  | 0, p, u, h => by unfold pvB at h; cases h
  | k + 1, p, u, h => by
    have no : pvB K (k + 1) p u = false → ∃ v, RelV v u ∧ ∀ H Z, RV n H Z p v := fun z => by rw [z] at h; cases h
    cases p with
    | non => cases u <;> first | exact ⟨.non, rfl, fun _ _ => .non⟩ | exact no rfl
    | bl b =>
      cases u with
      | bool c =>
        have e : b = c := by simpa [pvB] using h
        exact ⟨.bl b, by rw [e]; rfl, fun _ _ => .bl b⟩
      | _ => exact no rfl
    | int i =>
      cases u with
      | int j t =>
        have e : i = j := by simpa [pvB] using h
        exact ⟨.int i, ⟨t, by rw [e]⟩, fun _ _ => .int i⟩
      | _ => exact no rfl
    | str x =>
      cases u with
      | str y t =>
        have e : strV x = y := by simpa [pvB] using h
        exact ⟨.str (strV x), ⟨t, by rw [e]⟩, fun _ _ => .str x⟩
      | _ => exact no rfl
    | tup l =>
      cases u with
      | ref a =>
        unfold pvB at h
        split at h
        · rename_i c its m sl hl
          simp only [Bool.and_eq_true, decide_eq_true_eq] at h
          obtain ⟨⟨h1, h2⟩, h3⟩ := h
          obtain ⟨vs, r1, r2⟩ := pvsB_ok hK h3
          exact ⟨.ref a, rfl, fun H Z => .tupK ⟨_, its, m, by rw [hK]; exact hl, congrArg Value.type h1, rfl, h2, r1⟩ (r2 H Z)⟩
        · cases h
      | _ => exact no rfl
    | lst l => cases u <;> exact no rfl
    | dct l => cases u <;> exact no rfl
    | ins c l => cases u <;> exact no rfl
    | lam c => cases u <;> exact no rfl
theorem pvsB_ok {n : En} {K : PySem.W.Frag} (hK : n.K = K) : ∀ {k : Nat} {l : List PV} {us : List Value}, pvsB K k l us = true → ∃ vs, Vals vs us ∧ ∀ H Z, RVs n H Z l vs
  | _, [], [], _ => ⟨[], .nil, fun _ _ => .nil⟩
  | 0, _ :: _, _, h => by unfold pvsB at h; cases h
  | k + 1, p :: l, v :: vs, h => by
    unfold pvsB at h
    rw [Bool.and_eq_true] at h
    obtain ⟨x, r1, r2⟩ := pvB_ok hK h.1
    obtain ⟨xs, r3, r4⟩ := pvsB_ok hK h.2
    exact ⟨x :: xs, .cons r1 r3, fun H Z => .cons (r2 H Z) (r4 H Z)⟩
  | k, [], _ :: _, h => by cases k <;> (unfold pvsB at h; cases h)
  | k + 1, _ :: _, [], h => by unfold pvsB at h; cases h
end
/-! ### exceptions -/
def oexB (K : PySem.W.Frag) (C : Addr) : Bool := (match K.lookup C with
  | some ⟨.type c, _, .cls cd, sl⟩ => (match cd.mro, sl.toList with
    | .ref C' :: bm, [_, _, _, _, some (.builtin n), _] => decide (c = "type") && (C' == C) && (n == "ValueError.__new__") && !cd.hasDel && cd.hasDict && PySem.HandSPX.refsVE bm
    | _, _ => false)
  | _ => false) && (He.eqO (PySem.W.findIn K (.ref C) "__setattr__") (some (some (.builtin "object.__setattr__"))) && (decide (PySem.W.subIn K (.ref C) (.type "BaseException") = some true) && (decide (PySem.W.typeIn K (.ref C) = some (.type "type")) && PySem.W.keepIn K (.ref C))))
theorem oexB_ok {K : PySem.W.Frag} {C : Addr} (h : oexB K C = true) : OexC K C := by
  unfold oexB at h
  obtain ⟨h1, h⟩ := He.ba h
  obtain ⟨h2, h⟩ := He.ba h
  obtain ⟨h3, h⟩ := He.ba h
  obtain ⟨h4, h5⟩ := He.ba h
  refine ⟨?_, He.eqO_ok h2, of_decide_eq_true h3, of_decide_eq_true h4, h5⟩
  split at h1
  · rename_i c dd cd sl ho
    split at h1
    · rename_i C' bm k0 k1 k2 k3 n k5 hm hs
      simp only [Bool.and_eq_true, beq_iff_eq, Bool.not_eq_true', decide_eq_true_eq] at h1
      obtain ⟨⟨⟨⟨⟨rfl, rfl⟩, rfl⟩, hdel⟩, hdi⟩, ht⟩ := h1
      obtain ⟨nm, bs, mro, ns, qn, hd, sn, sub, ab, col, del⟩ := cd
      dsimp only at hm hdel hdi
      subst hm hdel hdi
      have hsl : sl = #[k0, k1, k2, k3, some (.builtin "ValueError.__new__"), k5] := by
        obtain ⟨l⟩ := sl
        simp only at hs
        rw [hs]
      subst hsl
      exact ⟨nm, qn, ns, bs, bm, sn, sub, ab, col, dd, k0, k1, k2, k3, k5, ho, ht⟩
    · cases h1
  · cases h1
/-- def __init__(self, y): self.f = y -/
def xi1 (b : List Stmt) : Option (Str × Str × Str) := match b with
  | [.Assign [.Attribute (.Name s _) f _] (.Name y _) _] => some (s, f, y)
  | _ => none
def xi2 (b : List Stmt) : Option (Str × Str × Str × Str × Str × Str) := match b with
  | [.Assign [.Attribute (.Name s _) f _] (.Name y _) _, .Assign [.Attribute (.Name s' _) f' _] (.Name y' _) _] => some (s, f, y, s', f', y')
  | _ => none
def ndd (x : Str) : Bool := !(x == ("__debug__" : Str)) && !(x == ("__classdict__" : Str))
def xinB (fN : Nat → Str) (e : ExcD) : Bool := match e.flds with
  | [f] => (match xi1 e.d.body with
    | some (s, g, y) => decide (g = fN f) && ndd s && ndd y && scB [s, y] [s, y] e.d.scope && e.d.scope.names.lookup s == some .local && e.d.scope.names.lookup y == some .local && e.d.dfl.isEmpty
    | none => false)
  | [f, f'] => (match xi2 e.d.body with
    | some (s, g, y, s', g', y') => decide (g = fN f) && decide (g' = fN f') && decide (s' = s) && ndd s && ndd y && ndd y' && scB [s, y, y'] [s, y, y'] e.d.scope && e.d.scope.names.lookup s == some .local && e.d.scope.names.lookup y == some .local && e.d.scope.names.lookup y' == some .local && e.d.dfl.isEmpty
    | none => false)
  | _ => false
def xps (e : ExcD) : List Str := match xi1 e.d.body with
  | some (s, _, y) => [s, y]
  | none => (match xi2 e.d.body with
    | some (s, _, y, _, _, y') => [s, y, y']
    | none => [])
section
variable {P : Program} {w : World} {K : PySem.W.Frag} {mg : Str → Option Value} {base : Heap} {n : En}
theorem xinit1 {x qual : Str} {params : Arguments} {scope : Scope} {dvs : List V} {kws : List (Str × V)} {fI : Addr} {fd : FuncData} {s y : Str} {f : Nat} {C : Addr} {q1 q2 q3 q4 : Pos} (FD : FunD K x qual params [.Assign [.Attribute (.Name s q1) (n.fN f) q2] (.Name y q3) q4] scope dvs kws fI fd)
    (S : FnScope [s, y] [s, y] scope) (hs : scope.names.lookup s = some .local) (hy : scope.names.lookup y = some .local) (ds : ndd s = true) (dy : ndd y = true) (O : OexC K C) (nof : PySem.W.findIn K (.ref C) (n.fN f) = some none) : FnOk P w K mg base (L2.CX P w) 1 fI fd [s, y] (spX n C [f]) := by
  unfold ndd at ds dy
  simp only [Bool.and_eq_true, Bool.not_eq_true'] at ds dy
  refine FD.ok S (fun vs H Q E ⟨e, ys, h1, h2, _⟩ => by rw [h1, List.length_cons, h2]; rfl) fun cdv A outer s0 H vs Q E hr h => ?_
  obtain ⟨e, ys, rfl, hl, he, kk⟩ := h
  match ys, hl with
  | [v], _ =>
    refine ⟨_, pss_one (ps_ost (pe_var (i := 0) rfl (.inl hs) ds.1 ds.2) (pe_var (i := 1) rfl (.inl hy) dy.1 dy.2) rfl), ?_⟩
    refine ⟨v, rfl, .ref e, rfl, e, C, rfl, O, nof, .inl ⟨he, fun dx hd ne => ?_⟩⟩
    exact kk _ dx upd_same (by rw [upd_ne ne, upd_same]; rfl) hd fun b b1 b2 => by rw [upd_ne b1, upd_ne b2]
theorem xinit2 {x qual : Str} {params : Arguments} {scope : Scope} {dvs : List V} {kws : List (Str × V)} {fI : Addr} {fd : FuncData} {s y y' : Str} {f f' : Nat} {C : Addr} {q1 q2 q3 q4 p1 p2 p3 p4 : Pos} (FD : FunD K x qual params [.Assign [.Attribute (.Name s q1) (n.fN f) q2] (.Name y q3) q4, .Assign [.Attribute (.Name s p1) (n.fN f') p2] (.Name y' p3) p4] scope dvs kws fI fd)
    (S : FnScope [s, y, y'] [s, y, y'] scope) (hs : scope.names.lookup s = some .local) (hy : scope.names.lookup y = some .local) (hy' : scope.names.lookup y' = some .local) (ds : ndd s = true) (dy : ndd y = true) (dy' : ndd y' = true) (O : OexC K C) (nof : PySem.W.findIn K (.ref C) (n.fN f) = some none) (nof' : PySem.W.findIn K (.ref C) (n.fN f') = some none) :
    FnOk P w K mg base (L2.CX P w) 1 fI fd [s, y, y'] (spX n C [f, f']) := by
  unfold ndd at ds dy dy'
  simp only [Bool.and_eq_true, Bool.not_eq_true'] at ds dy dy'
  refine FD.ok S (fun vs H Q E ⟨e, ys, h1, h2, _⟩ => by rw [h1, List.length_cons, h2]; rfl) fun cdv A outer s0 H vs Q E hr h => ?_
  obtain ⟨e, ys, rfl, hl, he, kk⟩ := h
  match ys, hl with
  | [v, v'], _ =>
    refine ⟨_, pss_cons (ps_ost (pe_var (i := 0) rfl (.inl hs) ds.1 ds.2) (pe_var (i := 1) rfl (.inl hy) dy.1 dy.2) rfl) (pss_one (ps_ost (pe_var (i := 0) rfl (.inl hs) ds.1 ds.2) (pe_var (i := 2) rfl (.inl hy') dy'.1 dy'.2) rfl)), ?_⟩
    refine ⟨v, rfl, .ref e, rfl, e, C, rfl, O, nof, .inl ⟨he, fun dx hd ne => ?_⟩⟩
    refine ⟨v', rfl, .ref e, rfl, e, C, rfl, O, nof', .inr ⟨dx, [(n.fN f, v)], upd_same, by rw [upd_ne ne, upd_same], (by show 1 ≤ 900; decide), ?_⟩⟩
    exact kk _ dx (by rw [upd_ne (Ne.symm ne), upd_same]) (by rw [upd_same]; rfl) hd fun b b1 b2 => by rw [upd_ne b2, upd_ne b1, upd_ne b2]
end
end PD
end Ev

set_option Elab.async false
set_option linter.all false
set_option maxRecDepth 100000
/-! A program by tables: the tests say all that is wanted. -/
namespace Ev
open PySem PySem.Spec PyProof.Rows L2
namespace PD
variable (D : PD)
def isR (K : PySem.W.Frag) (C : Addr) (m : Str) (f : Addr) : Bool := He.eqO (PySem.W.findIn K (.ref C) m) (some (some (.ref f))) && PySem.W.isFn K (.ref f)
def ownB (K : PySem.W.Frag) (c : Nat) (d : ClsD) : Bool :=
  let C := D.cA K c
  (He.Fa.cls d.name).ok K && (0 :: d.flds).all (fun f => He.eqO (PySem.W.findIn K (.ref C) (D.fN f)) (some none)) &&
  (He.eqO (PySem.W.findIn K (.ref C) "__class__") (some (some (.builtin "object.__class__"))) && He.eqO (PySem.W.specialIn K (.builtin "object.__class__") "__get__") (some (some (.builtin "getset_descriptor.__get__"))) &&
    decide (PySem.W.takesIn K (.builtin "object.__class__") = some true) && decide (PySem.W.mroIn K C (.type "object") = some true)) &&
  (List.range D.cls.length).all (fun k => decide (PySem.W.kitOne K (.ref C) (.ref (D.cA K k)) = some (c == k)) && PySem.W.notFirst K C (.ref (D.cA K k))) &&
  (List.range 7).all (fun T => decide (PySem.W.kitOne K (.ref C) (.type (tyOfNo T)) = some false)) &&
  tyNames.all (fun T => decide (PySem.W.kitOne K (.type T) (.ref C) = some false) && PySem.W.notFirst K C (.type T)) &&
  (match d.eqF with
  | none => true
  | some f => decide (f < D.fns.length) && (isR K C "__eq__" (D.fA K f) && (He.eqO (PySem.W.findIn K (.ref C) "__ne__") (some (some (.builtin "object.__ne__"))) && (decide (PySem.W.subIn K (.ref C) (.type "object") = some true) && (D.g.io f).isEmpty)))) &&
  (match d.boolF with
  | none => true
  | some f => decide (f < D.fns.length) && (isR K C "__bool__" (D.fA K f) && (D.g.io f).isEmpty)) &&
  (match d.init with
  | some f => decide (f < D.fns.length) && (isR K C "__init__" (D.fA K f) && (PySem.W.makesIn K C && PySem.W.keepIn K (.ref C)))
  | none => PySem.W.makesIn K C && (He.eqO (PySem.W.findIn K (.ref C) "__init__") (some (some (.builtin "object.__init__"))) && (decide (PySem.W.mroIn K C (.type "object") = some true) && PySem.W.keepIn K (.ref C)))) &&
  d.meths.all (fun m => decide (m.2 < D.fns.length) && (isR K C (D.fN m.1) (D.fA K m.2) && PySem.W.keepIn K (.ref (D.fA K m.2))))
def excB (K : PySem.W.Frag) (c : Nat) (e : ExcD) : Bool :=
  let C := D.cA K c
  oexB K C && xfB K C && e.flds.all (fun f => He.eqO (PySem.W.findIn K (.ref C) (D.fN f)) (some none)) && (He.eqO (PySem.W.findIn K (.ref C) "__init__") (some (some (.ref (He.fAd K e.d.at_)))) && decide (PySem.W.typeIn K (.ref (He.fAd K e.d.at_)) = some (.type "function"))) && xinB D.fN e &&
  (List.range D.exc.length).all fun k => decide (PySem.W.exmOne K (.ref C) (.ref (D.cA K (k + 1000))) = some (c == k + 1000))
def glB (K : PySem.W.Frag) (q : Str × Gv) : Bool := match q.2 with
  | .fn f => (match D.fns[f]? with
    | some e => decide (e.d.at_ = (q.1, none)) && ((He.Fa.glo q.1).ok K && PySem.W.keepIn K (.ref (He.ga K q.1)))
    | none => false)
  | .cl c => (match D.cls[c]? with
    | some d => decide (d.name = q.1) && (He.Fa.glo q.1).ok K
    | none => false)
  | .xc c => decide (1000 ≤ c) && (match D.exc[c - 1000]? with
    | some d => decide (d.name = q.1) && (He.Fa.glo q.1).ok K
    | none => false)
  | .val p => (match PySem.W.nsIn K mainGlobals q.1 with
    | some (some u) => pvB K 12 p u
    | _ => false)
  | .abs => (He.Fa.free q.1).ok K
  | .unk => true
def chk (K : PySem.W.Frag) : Bool := (List.range D.cls.length).all (fun c => match D.cls[c]? with | some d => D.ownB K c d | none => true) &&
  ((List.range D.exc.length).all (fun c => match D.exc[c]? with | some e => D.excB K (c + 1000) e | none => true) && D.gls.all (D.glB K))
def dt (f : Nat) : Option DefT := (D.fns[f]?).map fun e => ⟨e.ps, e.N, e.d.scope, e.d.body⟩
/-- the parameters of a def are bound in order -/
def Bd (d : He.DefD) (ps : List Str) : Prop := ∀ (kV doc pm : Value) (an : Option Addr) (cdv ct : Value) (us : List Value), us.length = ps.length → bindArgs (PySem.W.fnOf d.name d.qual d.params d.body d.scope .none kV doc pm an cdv ct) ⟨us, []⟩ = pure (ps.zip us)
theorem pad_size (i : Nat) : (pad i).cps.size = i + 1000 := by
  unfold pad; simp
theorem fN_inj (h1 : D.names.Nodup) (h2 : ∀ s ∈ D.names, s.cps.size < 1000) : ∀ i j, D.fN i = D.fN j → i = j := by
  intro i j h
  unfold fN at h
  have big : ∀ k, (pad k).cps.size ≥ 1000 := fun k => by rw [pad_size]; omega
  cases ei : D.names[i]? with
  | none =>
    rw [ei] at h
    cases ej : D.names[j]? with
    | none =>
      rw [ej] at h
      have h : pad i = pad j := h
      have := congrArg (fun s : Str => s.cps.size) h
      simp only [pad_size] at this
      omega
    | some s =>
      rw [ej] at h
      have h : pad i = s := h
      have h3 := h2 s (List.mem_of_getElem? ej)
      rw [← h] at h3
      have := big i
      omega
  | some s =>
    rw [ei] at h
    cases ej : D.names[j]? with
    | none =>
      rw [ej] at h
      have h : s = pad j := h
      have h3 := h2 s (List.mem_of_getElem? ei)
      rw [h] at h3
      have := big j
      omega
    | some t =>
      rw [ej] at h
      have h : s = t := h
      subst h
      exact (List.getElem?_inj (List.getElem?_eq_some_iff.mp ei).1 h1).mp (ei.trans ej.symm)
theorem rng {p : Nat → Bool} {n : Nat} (h : (List.range n).all p = true) {i : Nat} (hi : i < n) : p i = true := List.all_eq_true.mp h i (List.mem_range.mpr hi)
theorem lk {α : Type} {l : List α} {i : Nat} {a : α} (h : l[i]? = some a) : i < l.length := (List.getElem?_eq_some_iff.mp h).1
section
variable {D} {P : Program} {w : World} {K : PySem.W.Frag} {mg : Str → Option Value} {base h : Heap}
theorem fok_cls {c f : Nat} (hk : D.g.fok c f = true) : ∃ d, D.cls[c]? = some d ∧ (f = 0 ∨ f ∈ d.flds) := by
  have hk : (match D.cls[c]? with | some d => f == 0 || d.flds.contains f | none => false) = true := hk
  split at hk
  · rename_i d e
    refine ⟨d, e, ?_⟩
    simp only [Bool.or_eq_true, beq_iff_eq] at hk
    exact hk.imp id fun q => by simpa using q
  · cases hk
theorem cA_own {c : Nat} {d : ClsD} (hs : D.cls.length ≤ 1000) (h : D.cls[c]? = some d) : D.cA K c = He.ga K d.name := by
  unfold cA
  have := lk h
  rw [if_neg (by omega), h]; rfl
theorem own_at (hc : D.chk K = true) {c : Nat} {d : ClsD} (h : D.cls[c]? = some d) : D.ownB K c d = true := by
  have h1 := rng (He.ba hc).1 (lk h)
  rw [h] at h1
  exact h1
theorem exc_at (hc : D.chk K = true) {c : Nat} {e : ExcD} (h : D.exc[c]? = some e) : D.excB K (c + 1000) e = true := by
  have h1 := rng (He.ba (He.ba hc).2).1 (lk h)
  rw [h] at h1
  exact h1
theorem gl_at (hc : D.chk K = true) {x : Str} {v : Gv} (h : D.gl x = v) (hv : v ≠ .unk) : D.glB K (x, v) = true := by
  unfold gl at h
  cases e : D.gls.lookup x with
  | none => rw [e] at h; exact absurd h.symm hv
  | some u =>
    rw [e] at h
    have h : u = v := h
    subst h
    have hm : (x, u) ∈ D.gls := by
      clear hc
      generalize D.gls = l at e
      induction l with
      | nil => cases e
      | cons q l ih =>
        obtain ⟨y, z⟩ := q
        by_cases hy : x = y
        · subst hy
          rw [List.lookup_cons_self] at e
          cases e
          exact List.mem_cons_self ..
        · rw [List.lookup_cons, (by simpa using hy : (x == y) = false)] at e
          exact List.mem_cons_of_mem _ (ih e)
    exact List.all_eq_true.mp (He.ba (He.ba hc).2).2 _ hm
theorem ownParts {c : Nat} {d : ClsD} (h : D.ownB K c d = true) : (He.Fa.cls d.name).ok K = true ∧ (∀ f, f = 0 ∨ f ∈ d.flds → PySem.W.findIn K (.ref (D.cA K c)) (D.fN f) = some none) ∧
    (PySem.W.findIn K (.ref (D.cA K c)) "__class__" = some (some (.builtin "object.__class__")) ∧ PySem.W.specialIn K (.builtin "object.__class__") "__get__" = some (some (.builtin "getset_descriptor.__get__")) ∧ PySem.W.takesIn K (.builtin "object.__class__") = some true ∧ PySem.W.mroIn K (D.cA K c) (.type "object") = some true) ∧
    (∀ k, k < D.cls.length → PySem.W.kitOne K (.ref (D.cA K c)) (.ref (D.cA K k)) = some (c == k) ∧ PySem.W.notFirst K (D.cA K c) (.ref (D.cA K k)) = true) ∧ (∀ T, T < 7 → PySem.W.kitOne K (.ref (D.cA K c)) (.type (tyOfNo T)) = some false) ∧
    (∀ T ∈ tyNames, PySem.W.kitOne K (.type T) (.ref (D.cA K c)) = some false ∧ PySem.W.notFirst K (D.cA K c) (.type T) = true) ∧
    (∀ f, d.eqF = some f → f < D.fns.length ∧ PySem.W.findIn K (.ref (D.cA K c)) "__eq__" = some (some (.ref (D.fA K f))) ∧ PySem.W.isFn K (.ref (D.fA K f)) = true ∧ PySem.W.findIn K (.ref (D.cA K c)) "__ne__" = some (some (.builtin "object.__ne__")) ∧ PySem.W.subIn K (.ref (D.cA K c)) (.type "object") = some true ∧ D.g.io f = []) ∧
    (∀ f, d.boolF = some f → f < D.fns.length ∧ PySem.W.findIn K (.ref (D.cA K c)) "__bool__" = some (some (.ref (D.fA K f))) ∧ PySem.W.isFn K (.ref (D.fA K f)) = true ∧ D.g.io f = []) ∧
    (∀ f, d.init = some f → f < D.fns.length ∧ Mk K (D.cA K c) (D.fA K f)) ∧ (d.init = none → Mk0 K (D.cA K c)) ∧
    (∀ m ∈ d.meths, m.2 < D.fns.length ∧ Meth K (D.cA K c) (D.fN m.1) (D.fA K m.2)) := by
  unfold ownB at h
  dsimp only at h
  obtain ⟨h, h10⟩ := He.ba h
  obtain ⟨h, h9⟩ := He.ba h
  obtain ⟨h, h8⟩ := He.ba h
  obtain ⟨h, h7⟩ := He.ba h
  obtain ⟨h, h6⟩ := He.ba h
  obtain ⟨h, h5⟩ := He.ba h
  obtain ⟨h, h4⟩ := He.ba h
  obtain ⟨h, h3⟩ := He.ba h
  obtain ⟨h1, h2⟩ := He.ba h
  have rp : ∀ {m : Str} {f : Addr}, isR K (D.cA K c) m f = true → PySem.W.findIn K (.ref (D.cA K c)) m = some (some (.ref f)) ∧ PySem.W.isFn K (.ref f) = true := fun {m f} q => ⟨He.eqO_ok (He.ba q).1, (He.ba q).2⟩
  refine ⟨h1, fun f hf => He.eqO_ok (List.all_eq_true.mp h2 f (List.mem_cons.mpr hf)), ?_, fun k hk => ?_, fun T hT => of_decide_eq_true (rng h5 hT), fun T hT => ?_, fun f hf => ?_, fun f hf => ?_, fun f hf => ?_, fun hf => ?_, fun m hm => ?_⟩
  · obtain ⟨q, q4⟩ := He.ba h3
    obtain ⟨q, q3⟩ := He.ba q
    obtain ⟨q1, q2⟩ := He.ba q
    exact ⟨He.eqO_ok q1, He.eqO_ok q2, of_decide_eq_true q3, of_decide_eq_true q4⟩
  · obtain ⟨q1, q2⟩ := He.ba (rng h4 hk)
    exact ⟨of_decide_eq_true q1, q2⟩
  · obtain ⟨q1, q2⟩ := He.ba (List.all_eq_true.mp h6 T hT)
    exact ⟨of_decide_eq_true q1, q2⟩
  · rw [hf] at h7
    obtain ⟨q1, q⟩ := He.ba h7
    obtain ⟨q2, q⟩ := He.ba q
    obtain ⟨q3, q⟩ := He.ba q
    obtain ⟨q4, q5⟩ := He.ba q
    exact ⟨of_decide_eq_true q1, (rp q2).1, (rp q2).2, He.eqO_ok q3, of_decide_eq_true q4, by simpa using q5⟩
  · rw [hf] at h8
    obtain ⟨q1, q⟩ := He.ba h8
    obtain ⟨q2, q3⟩ := He.ba q
    exact ⟨of_decide_eq_true q1, (rp q2).1, (rp q2).2, by simpa using q3⟩
  · rw [hf] at h9
    obtain ⟨q1, q⟩ := He.ba h9
    obtain ⟨q2, q⟩ := He.ba q
    obtain ⟨q3, q4⟩ := He.ba q
    exact ⟨of_decide_eq_true q1, q3, (rp q2).1, (rp q2).2, q4⟩
  · rw [hf] at h9
    obtain ⟨q1, q⟩ := He.ba h9
    obtain ⟨q2, q⟩ := He.ba q
    obtain ⟨q3, q4⟩ := He.ba q
    exact ⟨q1, He.eqO_ok q2, of_decide_eq_true q3, q4⟩
  · obtain ⟨q1, q⟩ := He.ba (List.all_eq_true.mp h10 m hm)
    obtain ⟨q2, q3⟩ := He.ba q
    exact ⟨of_decide_eq_true q1, (rp q2).1, (rp q2).2, q3⟩
theorem lookup_mem {l : List (Nat × Nat)} {m f : Nat} (h : l.lookup m = some f) : (m, f) ∈ l := by
  induction l with
  | nil => cases h
  | cons q l ih =>
    obtain ⟨a, b⟩ := q
    by_cases e : m = a
    · subst e
      rw [List.lookup_cons_self] at h; cases h
      exact List.mem_cons_self ..
    · rw [List.lookup_cons, (by simpa using e : (m == a) = false)] at h
      exact List.mem_cons_of_mem _ (ih h)
theorem cfacts (ht : D.txtB = true) (hc : D.chk K = true) : CFacts (D.en P w K) D.g := by
  unfold txtB at ht
  obtain ⟨ht, t4⟩ := He.ba ht
  obtain ⟨ht, t3⟩ := He.ba ht
  obtain ⟨t1, t2⟩ := He.ba ht
  have hs : D.cls.length ≤ 1000 := of_decide_eq_true t4
  have op : ∀ {c f : Nat}, D.g.fok c f = true → ∃ d, D.cls[c]? = some d ∧ (f = 0 ∨ f ∈ d.flds) ∧ _ := fun {c f} hk => by
    obtain ⟨d, e, hf⟩ := fok_cls hk
    exact ⟨d, e, hf, ownParts (own_at hc e)⟩
  refine
  { fi := fN_inj D (of_decide_eq_true t1) fun s hs => of_decide_eq_true (List.all_eq_true.mp t2 s hs)
    cls := fun c f hk => ?_
    ty := fun c hk => ?_
    isK := fun c k hk hk2 => ?_
    isT := fun c T hk => ?_
    isN := fun k T hk hT => ?_
    nf := fun c k hk hk2 => ?_
    nfT := fun c T hk hT => ?_
    eqF := fun c f hf => ?_
    boolF := fun c f hf => ?_ }
  · obtain ⟨d, e, hf, q1, q2, _⟩ := op hk
    have ec : D.cA K c = He.ga K d.name := cA_own hs e
    refine ⟨?_, q2 f hf⟩
    show Cls K (D.cA K c)
    rw [ec]
    exact He.cls_ok q1
  · obtain ⟨d, e, hf, q1, q2, q3, _⟩ := op hk
    exact q3
  · obtain ⟨d, e, hf, q1, q2, q3, q4, _⟩ := op hk
    obtain ⟨d', e', _⟩ := fok_cls hk2
    exact (q4 k (lk e')).1
  · obtain ⟨d, e, hf, q1, q2, q3, q4, q5, _⟩ := op hk
    by_cases c7 : T < 7
    · exact q5 T c7
    · have e6 : tyOfNo T = tyOfNo 6 := by
        match T, c7 with
        | 0, c => exact absurd (by decide) c
        | 1, c => exact absurd (by decide) c
        | 2, c => exact absurd (by decide) c
        | 3, c => exact absurd (by decide) c
        | 4, c => exact absurd (by decide) c
        | 5, c => exact absurd (by decide) c
        | 6, _ => rfl
        | _ + 7, _ => rfl
      rw [e6]
      exact q5 6 (by decide)
  · obtain ⟨d, e, hf, q1, q2, q3, q4, q5, q6, _⟩ := op hk
    exact (q6 T hT).1
  · obtain ⟨d, e, hf, q1, q2, q3, q4, _⟩ := op hk
    obtain ⟨d', e', _⟩ := fok_cls hk2
    exact (q4 k (lk e')).2
  · obtain ⟨d, e, hf, q1, q2, q3, q4, q5, q6, _⟩ := op hk
    exact (q6 T hT).2
  · have hf : (D.cls[c]?).bind (·.eqF) = some f := hf
    cases e : D.cls[c]? with
    | none => rw [e] at hf; cases hf
    | some d =>
      rw [e] at hf
      obtain ⟨_, _, _, _, _, _, q7, _⟩ := ownParts (own_at hc e)
      obtain ⟨_, r1, r2, r3, r4, r5⟩ := q7 f hf
      exact ⟨by show (match D.cls[c]? with | some d => (0 == 0) || d.flds.contains 0 | none => false) = true; rw [e]; rfl, r1, r2, r3, r4, r5⟩
  · have hf : (D.cls[c]?).bind (·.boolF) = some f := hf
    cases e : D.cls[c]? with
    | none => rw [e] at hf; cases hf
    | some d =>
      rw [e] at hf
      obtain ⟨_, _, _, _, _, _, _, q8, _⟩ := ownParts (own_at hc e)
      obtain ⟨_, r1, r2, r3⟩ := q8 f hf
      exact ⟨r1, r2, r3⟩
end
end PD
end Ev

set_option Elab.async false
set_option linter.all false
set_option maxRecDepth 100000
/-! A program by tables: its defs keep their promises. -/
namespace Ev
open PySem PySem.Spec PyProof.Rows L2
namespace PD
section
variable {D : PD} {P : Program} {w : World} {K : PySem.W.Frag} {mg : Str → Option Value} {base h : Heap}
/-- what the walk has seen -/
structure Seen (D : PD) (K : PySem.W.Frag) : Prop where
  chk : D.chk K = true
  fns : ∀ e ∈ D.fns, ∃ fd, FunD K e.d.name e.d.qual e.d.params e.d.body e.d.scope (e.d.dvs K) (e.d.kws K) (He.fAd K e.d.at_) fd
  excs : ∀ e ∈ D.exc, ∃ fd, FunD K e.d.name e.d.qual e.d.params e.d.body e.d.scope (e.d.dvs K) (e.d.kws K) (He.fAd K e.d.at_) fd
theorem cA_exc {c : Nat} {e : ExcD} (h : D.exc[c]? = some e) : D.cA K (c + 1000) = He.ga K e.name := by
  unfold cA
  rw [if_pos (by omega), Nat.add_sub_cancel, h]; rfl
theorem xi1_eq {b : List Stmt} {s f y : Str} (h : xi1 b = some (s, f, y)) : ∃ q1 q2 q3 q4, b = [.Assign [.Attribute (.Name s q1) f q2] (.Name y q3) q4] := by
  unfold xi1 at h
  split at h
  · cases h; exact ⟨_, _, _, _, rfl⟩
  · cases h
theorem xi2_eq {b : List Stmt} {s f y s' f' y' : Str} (h : xi2 b = some (s, f, y, s', f', y')) : ∃ q1 q2 q3 q4 p1 p2 p3 p4, b = [.Assign [.Attribute (.Name s q1) f q2] (.Name y q3) q4, .Assign [.Attribute (.Name s' p1) f' p2] (.Name y' p3) p4] := by
  unfold xi2 at h
  split at h
  · cases h; exact ⟨_, _, _, _, _, _, _, _, rfl⟩
  · cases h
theorem xok (S : Seen D K) (hb : ∀ e ∈ D.exc, Bd e.d (xps e)) {c : Nat} {e : ExcD} (he : D.exc[c]? = some e) : e.flds.length ≤ 8 ∧ OexC K (D.cA K (c + 1000)) ∧ XfC K (D.cA K (c + 1000)) ∧ (∀ f ∈ e.flds, PySem.W.findIn K (.ref (D.cA K (c + 1000))) (D.fN f) = some none) ∧
    ∃ fI fd ps, PySem.W.findIn K (.ref (D.cA K (c + 1000))) "__init__" = some (some (.ref fI)) ∧ PySem.W.typeIn K (.ref fI) = some (.type "function") ∧ Binds K fd ps [] ∧ FnOk P w K mg base (L2.CX P w) 1 fI fd ps (spX (D.en P w K) (D.cA K (c + 1000)) e.flds) := by
  have hx := exc_at S.chk he
  unfold excB at hx
  dsimp only at hx
  obtain ⟨hx, x6⟩ := He.ba hx
  obtain ⟨hx, x5⟩ := He.ba hx
  obtain ⟨hx, x4⟩ := He.ba hx
  obtain ⟨hx, x3⟩ := He.ba hx
  obtain ⟨x1, x2⟩ := He.ba hx
  obtain ⟨x7, x8⟩ := He.ba x4
  have O := oexB_ok x1
  have nof : ∀ f ∈ e.flds, PySem.W.findIn K (.ref (D.cA K (c + 1000))) (D.fN f) = some none := fun f hf => He.eqO_ok (List.all_eq_true.mp x3 f hf)
  obtain ⟨fd, FD⟩ := S.excs e (List.mem_of_getElem? he)
  have bd := hb e (List.mem_of_getElem? he)
  have key : ∀ ps, xps e = ps → e.d.dfl.isEmpty = true → Binds K fd ps [] := fun ps hps hdf => by
    have hd : e.d.dvs K = [] := by
      have : e.d.dfl = [] := by simpa using hdf
      show e.d.dfl.map _ = []
      rw [this]; rfl
    rw [hd] at FD
    exact FD.bindsN fun kV doc pm an cdv ct us hl => by rw [← hps]; exact bd kV doc pm an cdv ct us (by rw [hl, hps])
  unfold xinB at x5
  split at x5
  · rename_i f hfl
    split at x5
    · rename_i s g y hb1
      simp only [Bool.and_eq_true, decide_eq_true_eq, beq_iff_eq] at x5
      obtain ⟨⟨⟨⟨⟨⟨y1, y2⟩, y3⟩, y4⟩, y5⟩, y6⟩, y7⟩ := x5
      subst y1
      have hp : xps e = [s, y] := by unfold xps; rw [hb1]
      have bb := key _ hp y7
      obtain ⟨q1, q2, q3, q4, eb⟩ := xi1_eq hb1
      rw [eb] at FD
      rw [hfl]
      rw [hfl] at nof
      exact ⟨by simp, O, xfB_ok x2, nof, _, fd, _, He.eqO_ok x7, of_decide_eq_true x8, bb, xinit1 (n := D.en P w K) FD (scB_ok y4) y5 y6 y2 y3 O (nof f (by simp))⟩
    · cases x5
  · rename_i f f' hfl
    split at x5
    · rename_i s g y s' g' y' hb1
      simp only [Bool.and_eq_true, decide_eq_true_eq, beq_iff_eq] at x5
      obtain ⟨⟨⟨⟨⟨⟨⟨⟨⟨⟨y1, y2⟩, y3⟩, y4⟩, y5⟩, y6⟩, y7⟩, y8⟩, y9⟩, y10⟩, y11⟩ := x5
      subst y1 y2 y3
      have h1 : xi1 e.d.body = none := by
        obtain ⟨q1, q2, q3, q4, p1, p2, p3, p4, eb⟩ := xi2_eq hb1
        rw [eb]; rfl
      have hp : xps e = [s', y, y'] := by unfold xps; rw [h1, hb1]
      have bb := key _ hp y11
      obtain ⟨q1, q2, q3, q4, p1, p2, p3, p4, eb⟩ := xi2_eq hb1
      rw [eb] at FD
      rw [hfl]
      rw [hfl] at nof
      exact ⟨by simp, O, xfB_ok x2, nof, _, fd, _, He.eqO_ok x7, of_decide_eq_true x8, bb, xinit2 (n := D.en P w K) FD (scB_ok y7) y8 y9 y10 y4 y5 y6 O (nof f (by simp)) (nof f' (by simp))⟩
    · cases x5
  · cases x5
/-- all that is wanted of a program -/
theorem prog (ht : D.txtB = true) (S : Seen D K) (hb : ∀ e ∈ D.fns, Bd e.d e.ps) (hbx : ∀ e ∈ D.exc, Bd e.d (xps e)) (X : K.In h) (G : h.Ns mainGlobals mg) : Prog P w K mg base (D.en P w K) D.pg D.gl D.ids D.fe D.fe D.dt := by
  have cf := cfacts (P := P) (w := w) ht S.chk
  have ht' := ht
  unfold txtB at ht
  obtain ⟨ht, t4⟩ := He.ba ht
  obtain ⟨ht, t3⟩ := He.ba ht
  obtain ⟨t1, t2⟩ := He.ba ht
  have hs : D.cls.length ≤ 1000 := of_decide_eq_true t4
  have isd : ∀ {f : Nat}, f < D.fns.length → (D.dt f).isSome = true := fun {f} hf => by
    unfold dt
    rw [List.getElem?_eq_getElem hf]; rfl
  have neg : ∀ {x : Str} {v : Gv}, D.gl x = v → v ≠ .unk → D.glB K (x, v) = true := fun e n => gl_at S.chk e n
  refine
  { nP := rfl, nw := rfl, nK := rfl, cf := cf
    defs := fun f d hd => ?_
    ids := fun x i hi => ?_
    gfn := fun x f hx => ?_
    gcl := fun x c hx => ?_
    gxc := fun x c hx => ?_
    xok := fun c fs hx => ?_
    xm := fun c d h1 h2 => ?_
    gtup := fun x l hx => ?_
    gval := fun x p hx => ?_
    gabs := fun x hx => ?_
    mth := fun m c f hm => ?_
    own := fun f hf => ?_ }
  · have hd : (D.fns[f]?).map (fun e => (⟨e.ps, e.N, e.d.scope, e.d.body⟩ : DefT)) = some d := hd
    cases e : D.fns[f]? with
    | none => rw [e] at hd; cases hd
    | some en =>
      rw [e] at hd
      cases hd
      have he := List.mem_of_getElem? e
      obtain ⟨q, q3⟩ := He.ba (List.all_eq_true.mp t3 en he)
      obtain ⟨q1, q2⟩ := He.ba q
      cases ec : D.comp en with
      | none => rw [ec] at q2; cases q2
      | some b =>
        refine ⟨scB_ok q1, ⟨⟨en.ps.length, en.N.length, en.io, b⟩, ?_, ?_, rfl, rfl, ?_⟩, ?_⟩
        · show (D.fns[f]?).bind _ = _
          rw [e]
          show (D.comp en).map _ = _
          rw [ec]; rfl
        · show en.io = ((D.fns[f]?).map (·.io)).getD []
          rw [e]; rfl
        · have : D.pg.g.io f = en.io := by
            show ((D.fns[f]?).map (·.io)).getD [] = en.io
            rw [e]; rfl
          rw [this]
          exact ec
        · obtain ⟨fd, FD⟩ := S.fns en he
          have hdv : en.d.dvs K = [] := by
            have : en.d.dfl = [] := by simpa using q3
            show en.d.dfl.map _ = []
            rw [this]; rfl
          have FD2 := FD
          rw [hdv] at FD2
          have ea : (D.en P w K).fA f = He.fAd K en.d.at_ := by
            show (match D.fns[f]? with | some e => He.fAd K e.d.at_ | none => 0) = _
            rw [e]
          rw [ea]
          exact ⟨_, _, _, _, _, fd, FD, FD2.bindsN (hb en he)⟩
  · show (D.names[i]?).getD _ = x
    rw [idx_at hi]; rfl
  · have q := neg hx (by simp)
    unfold glB at q
    dsimp only at q
    split at q
    · rename_i e he
      obtain ⟨q1, q2⟩ := He.ba q
      obtain ⟨q2, q3⟩ := He.ba q2
      have ea : (D.en P w K).fA f = He.ga K x := by
        show (match D.fns[f]? with | some e => He.fAd K e.d.at_ | none => 0) = _
        rw [he]
        show He.fAd K e.d.at_ = _
        rw [of_decide_eq_true q1]; rfl
      rw [ea]
      exact ⟨isd (lk he), He.glo_ok X G q2, q3⟩
    · cases q
  · have q := neg hx (by simp)
    unfold glB at q
    dsimp only at q
    split at q
    · rename_i d he
      obtain ⟨q1, q2⟩ := He.ba q
      have ea : (D.en P w K).cA c = He.ga K x := by
        show D.cA K c = _
        rw [cA_own hs he, of_decide_eq_true q1]
      obtain ⟨_, _, _, _, _, _, _, _, p1, p2, _⟩ := ownParts (own_at S.chk he)
      refine ⟨by rw [ea]; exact He.glo_ok X G q2, ?_, fun f hf => ?_, fun hbr => ?_⟩
      · show (match D.cls[c]? with | some d => (0 == 0) || d.flds.contains 0 | none => false) = true
        rw [he]; rfl
      · have hf : (D.cls[c]?).bind (·.init) = some f := hf
        rw [he] at hf
        obtain ⟨r1, r2⟩ := p1 f hf
        exact ⟨isd r1, r2⟩
      · have hbr : (match D.cls[c]? with | some d => d.init.isNone | none => false) = true := hbr
        rw [he] at hbr
        exact p2 (by simpa using hbr)
    · cases q
  · have q := neg hx (by simp)
    unfold glB at q
    dsimp only at q
    obtain ⟨q0, q⟩ := He.ba q
    split at q
    · rename_i d he
      obtain ⟨q1, q2⟩ := He.ba q
      have ea : (D.en P w K).cA c = He.ga K x := by
        have h1000 : 1000 ≤ c := of_decide_eq_true q0
        show D.cA K c = _
        have := cA_exc (K := K) he
        rw [Nat.sub_add_cancel h1000] at this
        rw [this, of_decide_eq_true q1]
      rw [ea]
      exact He.glo_ok X G q2
    · cases q
  · have hx : (if 1000 ≤ c then (D.exc[c - 1000]?).map (·.flds) else none) = some fs := hx
    by_cases h1000 : 1000 ≤ c
    · rw [if_pos h1000] at hx
      cases e : D.exc[c - 1000]? with
      | none => rw [e] at hx; cases hx
      | some ex =>
        rw [e] at hx
        cases hx
        have z := xok (P := P) (w := w) (mg := mg) (base := base) S hbx e
        rw [Nat.sub_add_cancel h1000] at z
        exact z
    · rw [if_neg h1000] at hx; cases hx
  · have ix : ∀ {c : Nat}, (D.pg.g.xin c).isSome = true → 1000 ≤ c ∧ ∃ e, D.exc[c - 1000]? = some e := fun {c} hx => by
      have hx : (if 1000 ≤ c then (D.exc[c - 1000]?).map (·.flds) else none).isSome = true := hx
      by_cases h1000 : 1000 ≤ c
      · rw [if_pos h1000] at hx
        cases e : D.exc[c - 1000]? with
        | none => rw [e] at hx; cases hx
        | some ex => exact ⟨h1000, ex, rfl⟩
      · rw [if_neg h1000] at hx; cases hx
    obtain ⟨c1, e1, he1⟩ := ix h1
    obtain ⟨c2, e2, he2⟩ := ix h2
    have q := exc_at S.chk he1
    unfold excB at q
    dsimp only at q
    have q := rng (He.ba q).2 (lk he2)
    rw [Nat.sub_add_cancel c1, Nat.sub_add_cancel c2] at q
    exact of_decide_eq_true q
  · have q := neg hx (by simp)
    unfold glB at q
    dsimp only at q
    split at q
    · rename_i u hu
      have q' := q
      obtain ⟨v, r1, r2⟩ := pvB_ok (n := D.en P w K) rfl q
      cases u with
      | ref a =>
        unfold pvB at q'
        split at q'
        · rename_i c its m sl hl
          simp only [Bool.and_eq_true, decide_eq_true_eq] at q'
          refine ⟨a, _, PySem.W.mg_of X G hu, hl, congrArg Value.type q'.1.1, rfl, fun H Z => ?_⟩
          have r3 := r2 H Z
          cases v with
          | ref b =>
            obtain rfl : a = b := by
              have : Value.ref a = Value.ref b := r1
              cases this; rfl
            exact r3
          | _ => cases r3
        · cases q'
      | _ => cases q'
    · cases q
  · have q := neg hx (by simp)
    unfold glB at q
    dsimp only at q
    split at q
    · rename_i u hu
      obtain ⟨v, r1, r2⟩ := pvB_ok (n := D.en P w K) rfl q
      exact ⟨v, u, PySem.W.mg_of X G hu, r1, r2⟩
    · cases q
  · exact He.free_ok X G (neg hx (by simp))
  · have hm : (D.cls[c]?).bind (fun d => d.meths.lookup m) = some f := hm
    cases e : D.cls[c]? with
    | none => rw [e] at hm; cases hm
    | some d =>
      rw [e] at hm
      obtain ⟨o1, _, _, _, _, _, _, _, _, _, p3⟩ := ownParts (own_at S.chk e)
      obtain ⟨r1, r2⟩ := p3 (m, f) (lookup_mem hm)
      refine ⟨isd r1, ?_, r2⟩
      show Cls K (D.cA K c)
      rw [cA_own hs e]
      exact He.cls_ok o1
  · rcases hf with ⟨c, hf⟩ | ⟨c, hf⟩
    · have hf : (D.cls[c]?).bind (·.eqF) = some f := hf
      cases e : D.cls[c]? with
      | none => rw [e] at hf; cases hf
      | some d =>
        rw [e] at hf
        obtain ⟨_, _, _, _, _, _, q7, _⟩ := ownParts (own_at S.chk e)
        exact isd (q7 f hf).1
    · have hf : (D.cls[c]?).bind (·.boolF) = some f := hf
      cases e : D.cls[c]? with
      | none => rw [e] at hf; cases hf
      | some d =>
        rw [e] at hf
        obtain ⟨_, _, _, _, _, _, _, q8, _⟩ := ownParts (own_at S.chk e)
        exact isd (q8 f hf).1
end
/-! ### the hook -/
def noL (K : PySem.W.Frag) : PySem.W.Frag := K.filter fun p => !(p.2.cls == .type "list")
def obsG (n : Nat) (D : PD) (q : Addr → Option Obj) : He.AlD :=
  let K := noL (He.frG q (He.asD q n))
  (D.chk K && (K.all (fun p => !(p.2.cls == .type "list")) && (D.fns.all (fun e => e.d.ok K) && D.exc.all fun e => e.d.ok K)), (D.fns.map (·.d) ++ D.exc.map (·.d)).map fun d => He.fnW K d.at_)
def valD (D : PD) : He.AlD := (true, (D.fns.map (·.d) ++ D.exc.map (·.d)).map He.DefD.val)
def Says (D : PD) (h : Heap) : Prop := ∃ K : PySem.W.Frag, K.In h ∧ Seen D K ∧ ∀ a o, K.lookup a = some o → o.cls ≠ .type "list"
theorem frag_mem {K : PySem.W.Frag} {a : Addr} {o : Obj} (h : K.lookup a = some o) : (a, o) ∈ K := by
  induction K with
  | nil => cases h
  | cons q l ih =>
    obtain ⟨y, z⟩ := q
    by_cases hy : a = y
    · subst hy
      rw [List.lookup_cons_self] at h
      cases h
      exact List.mem_cons_self ..
    · rw [List.lookup_cons, (by simpa using hy : (a == y) = false)] at h
      exact List.mem_cons_of_mem _ (ih h)
theorem frG_mem {q : Addr → Option Obj} {a : Addr} {o : Obj} {as : List Addr} (h : (a, o) ∈ He.frG q as) : q a = some o := by
  unfold He.frG at h
  obtain ⟨b, _, hb⟩ := List.mem_filterMap.mp h
  cases e : q b with
  | none => rw [e] at hb; cases hb
  | some u => rw [e] at hb; cases hb; exact e
def hook (n : Nat) (D : PD) : PySem.W.Hook where
  α := He.AlD
  obs := fun s => obsG n D s.heap.get?
  val := fun _ => valD D
  says := fun _ h => Says D h
  of := fun _ s e => by
    have e1 : (obsG n D s.heap.get?).1 = true := congrArg (fun z : He.AlD => z.1) e
    have e2 : (obsG n D s.heap.get?).2 = (valD D).2 := congrArg (fun z : He.AlD => z.2) e
    unfold obsG at e1 e2
    dsimp only at e1 e2
    obtain ⟨c1, c⟩ := He.ba e1
    obtain ⟨c2, c⟩ := He.ba c
    obtain ⟨c3, c4⟩ := He.ba c
    have at_ : ∀ d ∈ D.fns.map (·.d) ++ D.exc.map (·.d), He.fnW (noL (He.frG s.heap.get? (He.asD s.heap.get? n))) d.at_ = d.val := fun d hd => by
      have e2 : List.map (fun d => He.fnW (noL (He.frG s.heap.get? (He.asD s.heap.get? n))) d.at_) (D.fns.map (·.d) ++ D.exc.map (·.d)) = List.map He.DefD.val (D.fns.map (·.d) ++ D.exc.map (·.d)) := e2
      exact List.map_inj_left.mp e2 d hd
    refine ⟨_, fun a o hl => ?_, ⟨c1, fun en he => ?_, fun en he => ?_⟩, fun a o hl z => ?_⟩
    · exact frG_mem (List.mem_filter.mp (frag_mem hl)).1
    · exact He.DefD.funD (at_ en.d (List.mem_append_left _ (List.mem_map_of_mem he))) (List.all_eq_true.mp c3 en he)
    · exact He.DefD.funD (at_ en.d (List.mem_append_right _ (List.mem_map_of_mem he))) (List.all_eq_true.mp c4 en he)
    · have := (List.mem_filter.mp (frag_mem hl)).2
      dsimp only at this
      rw [z] at this
      simp at this
  keeps := fun _ _ _ ⟨K, hK, c⟩ k => ⟨K, PySem.W.Frag.In.keeps hK k, c⟩
theorem obsG_eq {n : Nat} {D : PD} {q : Addr → Option Obj} {s : Shared} (h : ∀ a, q a = s.heap.get? a) : obsG n D q = (hook n D).obs s := by
  have e : q = s.heap.get? := funext h
  rw [e] <;> rfl
/-- the law -/
theorem lawOk {D : PD} {P : Program} {w : World} {K : PySem.W.Frag} {mg : Str → Option Value} {h : Heap} (ht : D.txtB = true) (S : Seen D K) (nl : ∀ a o, K.lookup a = some o → o.cls ≠ .type "list") (hb : ∀ e ∈ D.fns, Bd e.d e.ps) (hbx : ∀ e ∈ D.exc, Bd e.d (xps e)) (X : K.In h) (G : h.Ns mainGlobals mg)
    {f : Nat} {e : FnE} {x : Str} {y : Str} (he : D.fns[f]? = some e) (hps : e.ps = [x]) (hio : e.io = []) (hat : e.d.at_ = (y, none)) {fa : Addr} (hfa : mg y = some (.ref fa)) (hgl : D.gl y = .fn f) {m : Nat} {d : Nat}
    (pure_law : ∀ ns : List Int, ns.length ≤ m → ∃ o, callD D.pg d f [.lst (ns.map .int)] = .rt (.bl true) o []) :
    ∃ (fd : FuncData) (sp : Sp), (∀ (s : Shared) (u : Value), BindsTo s fd ⟨[u], []⟩ [(x, u)]) ∧
        (∀ (H : Hp) (a : Addr) (ns : List Int), ns.length ≤ m → Only H → SqL K H a (ns.map V.int) → sp [.ref a] H (fun v _ => v = .bl true) fun _ _ _ => False) ∧
        ∀ base : Heap, K.In base → base.Ns mainGlobals mg → FnOk P w K mg base (L2.CX P w) (2 * d + 1) fa fd [x] sp := by
  obtain ⟨fd, FD⟩ := S.fns e (List.mem_of_getElem? he)
  have t3 := ht
  unfold txtB at t3
  obtain ⟨t3, _⟩ := He.ba t3
  obtain ⟨_, t3⟩ := He.ba t3
  obtain ⟨_, q3⟩ := He.ba (List.all_eq_true.mp t3 e (List.mem_of_getElem? he))
  have hdv : e.d.dvs K = [] := by
    have : e.d.dfl = [] := by simpa using q3
    show e.d.dfl.map _ = []
    rw [this]; rfl
  have FD2 := FD
  rw [hdv] at FD2
  have G0 := fun base => prog (P := P) (w := w) (base := base) ht S hb hbx X G
  have eA : (D.en P w K).fA f = fa := by
    have := ((G0 h).gfn y f hgl).2.1
    rw [hfa] at this
    cases this; rfl
  have eF : (D.en P w K).fA f = He.fAd K e.d.at_ := by
    show (match D.fns[f]? with | some e => He.fAd K e.d.at_ | none => 0) = _
    rw [he]
  refine ⟨fd, spEv (D.en P w K) D.g (callD D.pg d) f, fun s u => ?_, fun H a ns hl hO hS => ?_, fun base hK hN => ?_⟩
  · have := FD2.bindsA (ps := [x]) (fun kV doc pm an cdv ct us hl => by
      have q := hb e (List.mem_of_getElem? he) kV doc pm an cdv ct us
      rw [hps] at q
      exact q hl) s [u] rfl
    exact this
  · obtain ⟨o, hc⟩ := pure_law ns hl
    have gio : D.g.io f = [] := by
      show ((D.fns[f]?).map (·.io)).getD [] = []
      rw [he]; exact hio
    have rd : Rd H a (.lst (ns.map V.int)) := by
      rcases hS with r | ⟨ob, its, n, hl, hc, _⟩
      · exact r
      · exact absurd hc (nl a ob hl)
    have rvs : ∀ l : List Int, RVs (D.en P w K) H (fun b => b = a) (l.map .int) (l.map V.int) := fun l => by
      induction l with
      | nil => exact .nil
      | cons i l ih => exact .cons (.int i) ih
    have gz : GZ H (fun b => b = a) := fun b hb => by
      subst hb
      rcases rd with r | ⟨ob, r⟩
      · exact ⟨_, r, NT.lst⟩
      · exact ⟨_, r, fun ps z => by cases z⟩
    refine ⟨fun b => b = a, [.lst (ns.map .int)], ?_, by rw [gio]; exact Nat.zero_le _, fun i j b q => by rw [gio] at q; simp at q, gz, (by rw [hc]; exact fun z => by cases z), fun xx (q : callD D.pg d f [.lst (ns.map .int)] = .ex xx) => absurd (hc.symm.trans q) (fun z => by cases z), fun p oo outs (q : callD D.pg d f [.lst (ns.map .int)] = .rt p oo outs) v H' Z' _ _ _ res _ => ?_⟩
    · rw [gio]
      exact ⟨.lst rfl rd (rvs ns), trivial⟩
    · rw [hc] at q
      cases q
      unfold Res at res
      cases o with
      | false =>
        have res : RV (D.en P w K) H' Z' (.bl true) v := res
        cases res; rfl
      | true =>
        rw [if_pos rfl] at res
        obtain ⟨_, _, _, _, ov⟩ := res
        cases ov
  · obtain ⟨fd', q1, q2, oc, od, osl, q3⟩ := (prog (P := P) (w := w) (base := base) ht S hb hbx hK hN).all d f ⟨e.ps, e.N, e.d.scope, e.d.body⟩ (by show (D.fns[f]?).map _ = _; rw [he]; rfl)
    obtain ⟨oc2, od2, dV, kV, doc, pm, an, cdv, ct, osl2, _, q4, _⟩ := FD.ex
    rw [eF, q4] at q3
    cases q3
    rw [eA] at q1
    have q1 : FnOk P w K mg base (L2.CX P w) (2 * d + 1) fa fd e.ps (spEv (D.en P w K) D.g (callD D.pg d) f) := q1
    rw [hps] at q1
    exact q1
end PD
end Ev

set_option Elab.async false
set_option linter.all false
set_option maxRecDepth 100000
/-! What the evaluator says stays so when more is known of the callees. -/
namespace Ev

def LO {α : Type} (r r' : O α) : Prop := r = .no ∨ r = r'
def LS (r r' : SO) : Prop := r = .no ∨ r = r'
def LF (r r' : FO) : Prop := r = .no ∨ r = r'
def LC (cl cl' : FC) : Prop := ∀ f vs, LF (cl f vs) (cl' f vs)
theorem LO.refl {α : Type} {r : O α} : LO r r := .inr rfl
theorem LS.refl {r : SO} : LS r r := .inr rfl
theorem LO.no {α : Type} {r : O α} : LO .no r := .inl rfl
theorem bd_le {α β : Type} {r r' : O α} {f f' : α → Sl → O β} (h : LO r r') (k : ∀ a ρ, LO (f a ρ) (f' a ρ)) : LO (r.bd f) (r'.bd f') := by
  rcases h with h | h
  · subst h; exact .inl rfl
  · subst h
    cases r with
    | ok a ρ => exact k a ρ
    | ex x ρ => exact .inr rfl
    | no => exact .inl rfl
theorem so_le {α : Type} {r r' : O α} {f f' : α → Sl → SO} (h : LO r r') (k : ∀ a ρ, LS (f a ρ) (f' a ρ)) : LS (r.so f) (r'.so f') := by
  rcases h with h | h
  · subst h; exact .inl rfl
  · subst h
    cases r with
    | ok a ρ => exact k a ρ
    | ex x ρ => exact .inr rfl
    | no => exact .inl rfl
theorem sq_le {r r' : SO} {f f' : Sl → SO} (h : LS r r') (k : ∀ ρ, LS (f ρ) (f' ρ)) : LS (r.sq f) (r'.sq f') := by
  rcases h with h | h
  · subst h; exact .inl rfl
  · subst h
    cases r with
    | nx ρ => exact k ρ
    | _ => exact .inr rfl
theorem noEx_le {α : Type} {r r' : O α} (h : LO r r') : LO (noEx r) (noEx r') := by
  rcases h with h | h
  · subst h; exact .inl rfl
  · subst h; exact .inr rfl
theorem lcL_le {b b' : PV → Sl → O (Option PV)} (h : ∀ x ρ, LO (b x ρ) (b' x ρ)) : ∀ (l : List PV) (ρ : Sl), LO (lcL b l ρ) (lcL b' l ρ)
  | [], ρ => .refl
  | x :: r, ρ => bd_le (h x ρ) fun o ρ1 => bd_le (lcL_le h r ρ1) fun l ρ2 => .refl
theorem lcLL_le {b b' : PV → Sl → O (List PV)} (h : ∀ x ρ, LO (b x ρ) (b' x ρ)) : ∀ (l : List PV) (ρ : Sl), LO (lcLL b l ρ) (lcLL b' l ρ)
  | [], ρ => .refl
  | x :: r, ρ => bd_le (h x ρ) fun o ρ1 => bd_le (lcLL_le h r ρ1) fun l ρ2 => .refl
theorem lcV_le {b b' : PV → Sl → O (Option PV)} (h : ∀ x ρ, LO (b x ρ) (b' x ρ)) (i : Nat) : ∀ (n k : Nat) (ρ : Sl), LO (lcV b i n k ρ) (lcV b' i n k ρ)
  | 0, k, ρ => .no
  | n + 1, k, ρ => by
    unfold lcV
    split
    · split
      · exact .refl
      · exact bd_le (h _ ρ) fun o ρ1 => bd_le (lcV_le h i n (k + 1) ρ1) fun l ρ2 => .refl
    · exact .refl
section
variable {g : G} {cl cl' : FC} (hc : LC cl cl')
include hc
theorem truthO_le (p : PV) (ρ : Sl) : LO (truthO g cl p ρ) (truthO g cl' p ρ) := by
  unfold truthO
  split
  · split
    · rename_i f _
      rcases hc f [.ins _ _] with h | h
      · rw [h]; exact .no
      · rw [h]; exact .refl
    · exact .refl
  · exact .refl
theorem primO_le (p : Pr) (vs : List PV) (ρ : Sl) : LO (primO g cl p vs ρ) (primO g cl' p vs ρ) := by
  unfold primO
  split
  · split
    · rename_i f _
      split
      · rcases hc f [.ins _ _, _] with h | h
        · rw [h]; exact .no
        · rw [h]; exact .refl
      · exact .refl
    · exact .refl
  · split
    · rename_i f _
      split
      · rcases hc f [.ins _ _, _] with h | h
        · rw [h]; exact .no
        · rw [h]; exact .refl
      · exact .refl
    · exact .refl
  · exact bd_le (truthO_le hc _ _) fun _ _ => .refl
  · exact .refl
  · exact .refl
theorem fin_le {m : Bool} {r r' : O Ar} (h : LO r r') : LO (fin g cl m r) (fin g cl' m r') := by
  unfold fin
  cases m with
  | false => exact h
  | true =>
    rw [if_pos rfl, if_pos rfl]
    refine bd_le h fun a ρ => ?_
    split
    · exact bd_le (truthO_le hc _ _) fun _ _ => .refl
    · exact .refl
theorem callO_le (f : Nat) (as : List Ar) (ρ : Sl) : LO (callO g cl f as ρ) (callO g cl' f as ρ) := by
  unfold callO
  split
  · split
    · split
      · rename_i vs _ _
        rcases hc f vs with h | h
        · rw [h]; exact .no
        · rw [h]; exact .refl
      · exact .refl
    · exact .refl
  · exact .refl
mutual
theorem ev_le : ∀ (e : E) (m : Bool) (ρ : Sl), LO (ev g cl m e ρ) (ev g cl' m e ρ)
  | .var i, m, ρ => by simp only [ev]; exact fin_le hc .refl
  | .cst v, m, ρ => by simp only [ev]; exact fin_le hc .refl
  | .pr p as, m, ρ => by
    simp only [ev]
    refine fin_le hc (bd_le (evs_le as ρ) fun as ρ => ?_)
    split
    · exact primO_le hc _ _ _
    · exact .refl
  | .tup as, m, ρ => by simp only [ev]; exact fin_le hc (bd_le (disp_le as ρ) fun as ρ => .refl)
  | .lst as, m, ρ => by simp only [ev]; exact fin_le hc (bd_le (disp_le as ρ) fun as ρ => .refl)
  | .star e, m, ρ => by simp only [ev]; exact .refl
  | .dct as, m, ρ => by simp only [ev]; exact fin_le hc (bd_le (disp_le as ρ) fun as ρ => .refl)
  | .fld a f, m, ρ => by simp only [ev]; exact fin_le hc (bd_le (ev_le a false ρ) fun as ρ => .refl)
  | .and_ a b, m, ρ => by
    simp only [ev]
    cases m with
    | true =>
      rw [if_pos rfl, if_pos rfl]
      refine bd_le (ev_le a true ρ) fun x ρ => ?_
      split
      · exact ev_le b true ρ
      · exact .refl
      · exact .refl
    | false =>
      rw [if_neg (by decide), if_neg (by decide)]
      refine bd_le (ev_le a false ρ) fun x ρ => ?_
      split
      · exact ev_le b false ρ
      · exact .refl
      · exact .refl
  | .or_ a b, m, ρ => by
    simp only [ev]
    cases m with
    | true =>
      rw [if_pos rfl, if_pos rfl]
      refine bd_le (ev_le a true ρ) fun x ρ => ?_
      split
      · exact .refl
      · exact ev_le b true ρ
      · exact .refl
    | false =>
      rw [if_neg (by decide), if_neg (by decide)]
      refine bd_le (ev_le a false ρ) fun x ρ => ?_
      split
      · exact .refl
      · exact ev_le b false ρ
      · exact .refl
  | .not_ a, m, ρ => by
    simp only [ev]
    cases m with
    | true => rw [if_pos rfl, if_pos rfl]; exact bd_le (ev_le a true ρ) fun x ρ => .refl
    | false => rw [if_neg (by decide), if_neg (by decide)]; exact bd_le (fin_le hc (ev_le a false ρ)) fun x ρ => .refl
  | .ite t a b, m, ρ => by
    simp only [ev]
    refine bd_le (ev_le t true ρ) fun x ρ => ?_
    split
    · exact ev_le a m ρ
    · exact ev_le b m ρ
    · exact .refl
  | .chn o1 o2 a b c, m, ρ => by
    simp only [ev]
    refine fin_le hc (bd_le (ev_le a false ρ) fun x ρ => bd_le (ev_le b false ρ) fun y ρ => ?_)
    split
    · split
      · exact bd_le (ev_le c false ρ) fun z ρ => .refl
      · exact .refl
      · exact .refl
    · exact .refl
  | .sl2 a b c, m, ρ => by
    simp only [ev]
    refine fin_le hc (bd_le (ev_le a false ρ) fun x ρ => bd_le (ev_le b false ρ) fun y ρ => ?_)
    split
    · exact bd_le (ev_le c false ρ) fun z ρ => .refl
    · exact .refl
  | .lc own t it ifs el, m, ρ => by
    simp only [ev]
    have hb : ∀ x ρ, LO (match bindT t x (wipeS ρ own) with
        | some ρ => (tests g cl ifs ρ).bd fun b ρ => if b then (ev g cl false el ρ).bd fun y ρ => (use y ρ).bd fun y ρ => .ok (some y.1) ρ else .ok none ρ
        | none => .no) (match bindT t x (wipeS ρ own) with
        | some ρ => (tests g cl' ifs ρ).bd fun b ρ => if b then (ev g cl' false el ρ).bd fun y ρ => (use y ρ).bd fun y ρ => .ok (some y.1) ρ else .ok none ρ
        | none => .no) := fun x ρ => by
      split
      · refine bd_le (tests_le ifs _) fun b ρ => ?_
        split
        · exact bd_le (ev_le el false ρ) fun y ρ => .refl
        · exact .refl
      · exact .refl
    refine fin_le hc ?_
    split
    · exact bd_le (noEx_le (lcV_le hb _ _ _ _)) fun l ρ => .refl
    · exact bd_le (evI_le it ρ) fun xs ρ => bd_le (noEx_le (lcL_le hb _ _)) fun l ρ => .refl
  | .lc2 own t it ifs own2 t2 it2 ifs2 el, m, ρ => by
    simp only [ev]
    refine fin_le hc (bd_le (evI_le it ρ) fun xs ρ => bd_le (noEx_le (lcLL_le (fun x ρ => ?_) _ _)) fun l ρ => .refl)
    split
    · refine bd_le (tests_le ifs _) fun b ρ => ?_
      split
      · refine bd_le (evI_le it2 ρ) fun ys ρ => lcL_le (fun x ρ => ?_) _ _
        split
        · refine bd_le (tests_le ifs2 _) fun b ρ => ?_
          split
          · exact bd_le (ev_le el false ρ) fun y ρ => .refl
          · exact .refl
        · exact .refl
      · exact .refl
    · exact .refl
  | .dc own t it ifs k v, m, ρ => by
    simp only [ev]
    refine fin_le hc (bd_le (evI_le it ρ) fun xs ρ => bd_le (noEx_le (lcL_le (fun x ρ => ?_) _ _)) fun l ρ => .refl)
    split
    · refine bd_le (tests_le ifs _) fun b ρ => ?_
      split
      · exact bd_le (ev_le k false ρ) fun y ρ => bd_le .refl fun y ρ => bd_le (ev_le v false ρ) fun z ρ => .refl
      · exact .refl
    · exact .refl
  | .call f as, m, ρ => by simp only [ev]; exact fin_le hc (bd_le (evs_le as ρ) fun as ρ => callO_le hc _ _ _)
  | .mk c as, m, ρ => by
    simp only [ev]
    refine fin_le hc (bd_le (evs_le as ρ) fun as ρ => ?_)
    split
    · rename_i f _
      split
      · exact .refl
      · split
        · rename_i vs _
          rcases hc f (.ins c [] :: vs) with h | h
          · rw [h]; exact .no
          · rw [h]; exact .refl
        · exact .refl
    · exact .refl
  | .meth n o as, m, ρ => by
    simp only [ev]
    refine fin_le hc (bd_le (ev_le o false ρ) fun a ρ => ?_)
    split
    · split
      · exact .refl
      · split
        · exact bd_le (evs_le as ρ) fun as ρ => callO_le hc _ _ _
        · exact .refl
    · exact .refl
  | .bm i k as, m, ρ => by
    simp only [ev]
    refine fin_le hc ?_
    split
    · exact bd_le (evs_le as ρ) fun as ρ => .refl
    · exact .refl
  | .cl i, m, ρ => by
    simp only [ev]
    refine fin_le hc ?_
    split
    · rename_i k _ _
      rcases hc k [] with h | h
      · rw [h]; exact .no
      · rw [h]; exact .refl
    · exact .refl
  | .lam k, m, ρ => by simp only [ev]; exact fin_le hc .refl
theorem evs_le : ∀ (es : List E) (ρ : Sl), LO (evs g cl es ρ) (evs g cl' es ρ)
  | [], ρ => by simp only [evs]; exact .refl
  | e :: es, ρ => by simp only [evs]; exact bd_le (ev_le e false ρ) fun x ρ => bd_le (evs_le es ρ) fun l ρ => .refl
theorem disp_le : ∀ (es : List E) (ρ : Sl), LO (disp g cl es ρ) (disp g cl' es ρ)
  | [], ρ => by simp only [disp]; exact .refl
  | e :: es, ρ => by
    by_cases hs : ∃ e', e = .star e'
    · obtain ⟨e', rfl⟩ := hs
      simp only [disp]
      exact bd_le (ev_le e' false ρ) fun x ρ => bd_le .refl fun l ρ => bd_le (disp_le es ρ) fun q ρ => .refl
    · have key : ∀ cl, disp g cl (e :: es) ρ = (ev g cl false e ρ).bd fun x ρ => (starL false x ρ).bd fun l ρ => (disp g cl es ρ).bd fun q ρ => .ok (l ++ q) ρ := fun cl => by
        cases e <;> first | rfl | exact absurd ⟨_, rfl⟩ hs
      rw [key, key]
      exact bd_le (ev_le e false ρ) fun x ρ => bd_le .refl fun l ρ => bd_le (disp_le es ρ) fun q ρ => .refl
theorem tests_le : ∀ (es : List E) (ρ : Sl), LO (tests g cl es ρ) (tests g cl' es ρ)
  | [], ρ => by simp only [tests]; exact .refl
  | e :: es, ρ => by
    simp only [tests]
    refine bd_le (ev_le e true ρ) fun x ρ => ?_
    split
    · exact tests_le es ρ
    · exact .refl
    · exact .refl
theorem evI_le : ∀ (i : It) (ρ : Sl), LO (evI g cl i ρ) (evI g cl' i ρ)
  | .of e, ρ => by simp only [evI]; exact bd_le (ev_le e false ρ) fun x ρ => .refl
  | .rng as, ρ => by simp only [evI]; exact bd_le (evs_le as ρ) fun x ρ => .refl
  | .enum e, ρ => by simp only [evI]; exact bd_le (ev_le e false ρ) fun x ρ => .refl
  | .zip a b, ρ => by simp only [evI]; exact bd_le (ev_le a false ρ) fun x ρ => bd_le .refl fun p ρ => bd_le (ev_le b false ρ) fun x ρ => .refl
  | .items e, ρ => by simp only [evI]; exact bd_le (ev_le e false ρ) fun x ρ => .refl
  | .vals e, ρ => by simp only [evI]; exact bd_le (ev_le e false ρ) fun x ρ => .refl
end
theorem uses_le : ∀ (es : List E) (ρ : Sl), LO (uses g cl es ρ) (uses g cl' es ρ)
  | [], ρ => .refl
  | e :: es, ρ => bd_le (ev_le hc e false ρ) fun x ρ => bd_le .refl fun p ρ => bd_le (uses_le es ρ) fun q ρ => .refl
end
theorem whlL_le {c c' : Sl → O Ar} {b b' : Sl → SO} (hc : ∀ ρ, LO (c ρ) (c' ρ)) (hb : ∀ ρ, LS (b ρ) (b' ρ)) : ∀ (n : Nat) (ρ : Sl), LS (whlL c b n ρ) (whlL c' b' n ρ)
  | 0, ρ => .inl rfl
  | n + 1, ρ => by
    unfold whlL
    refine so_le (hc ρ) fun x ρ => ?_
    split
    · rcases hb ρ with h | h
      · rw [h]; exact .inl rfl
      · rw [h]
        split
        · exact whlL_le hc hb n _
        · exact whlL_le hc hb n _
        · exact .refl
        · exact .refl
    · exact .refl
    · exact .refl
theorem forL_le {b b' : PV → Sl → SO} (hb : ∀ x ρ, LS (b x ρ) (b' x ρ)) : ∀ (l : List PV) (ρ : Sl), LS (forL b l ρ) (forL b' l ρ)
  | [], ρ => .refl
  | x :: r, ρ => by
    unfold forL
    rcases hb x ρ with h | h
    · rw [h]; exact .inl rfl
    · rw [h]
      split
      · exact forL_le hb r _
      · exact forL_le hb r _
      · exact .refl
      · exact .refl
section
variable {g : G} {cl cl' : FC} {W : Nat} (hc : LC cl cl')
include hc
mutual
theorem exS_le : ∀ (s : S) (ρ : Sl), LS (exS g cl W s ρ) (exS g cl' W s ρ)
  | .ex e, ρ => by simp only [exS]; exact so_le (ev_le hc e false ρ) fun _ _ => .refl
  | .asg t e, ρ => by simp only [exS]; exact so_le (ev_le hc e false ρ) fun _ _ => .refl
  | .par ts es, ρ => by simp only [exS]; exact so_le (uses_le hc es ρ) fun _ _ => .refl
  | .aug i o e, ρ => by
    simp only [exS]
    split
    · exact so_le (ev_le hc e false ρ) fun _ _ => .refl
    · exact .refl
  | .augS i ix o e, ρ => by
    simp only [exS]
    split
    · refine so_le (ev_le hc ix false ρ) fun k ρ => so_le .refl fun k ρ => ?_
      split
      · split
        · exact so_le (ev_le hc e false ρ) fun _ _ => .refl
        · exact .refl
      · exact .refl
    · exact .refl
  | .setS i ix e, ρ => by
    simp only [exS]
    split
    · exact so_le (ev_le hc e false ρ) fun a ρ => so_le .refl fun p ρ => so_le (ev_le hc ix false ρ) fun _ _ => .refl
    · exact .refl
  | .setF i f e, ρ => by simp only [exS]; exact so_le (ev_le hc e false ρ) fun _ _ => .refl
  | .augF i f o e, ρ => by
    simp only [exS]
    split
    · split
      · exact .refl
      · split
        · exact so_le (ev_le hc e false ρ) fun _ _ => .refl
        · exact .refl
    · exact .refl
  | .ret none, ρ => by simp only [exS]; exact .refl
  | .ret (some e), ρ => by
    by_cases hv : ∃ i, e = .var i
    · obtain ⟨i, rfl⟩ := hv
      simp only [exS]; exact .refl
    · have key : ∀ cl, exS g cl W (.ret (some e)) ρ = (ev g cl false e ρ).so fun a ρ => (use a ρ).so fun p ρ => .rt p.1 p.2 ρ := fun cl => by
        cases e <;> first | rfl | exact absurd ⟨_, rfl⟩ hv
      rw [key, key]
      exact so_le (ev_le hc e false ρ) fun _ _ => .refl
  | .ite t a b, ρ => by
    simp only [exS]
    refine so_le (ev_le hc t true ρ) fun x ρ => ?_
    split
    · exact exSs_le a ρ
    · exact exSs_le b ρ
    · exact .refl
  | .whl t b, ρ => by simp only [exS]; exact whlL_le (fun ρ => ev_le hc t true ρ) (fun ρ => exSs_le b ρ) W ρ
  | .for_ t it b, ρ => by
    simp only [exS]
    refine so_le (evI_le hc it ρ) fun xs ρ => forL_le (fun x ρ => ?_) xs ρ
    split
    · exact exSs_le b _
    · exact .refl
  | .rse c as, ρ => by simp only [exS]; exact so_le (evs_le hc as ρ) fun _ _ => .refl
  | .tri b hs, ρ => by
    simp only [exS]
    rcases exSs_le b ρ with h | h
    · rw [h]; exact .inl rfl
    · rw [h]; exact .refl
  | .brk, ρ => by simp only [exS]; exact .refl
  | .cnt, ρ => by simp only [exS]; exact .refl
  | .pas, ρ => by simp only [exS]; exact .refl
theorem exSs_le : ∀ (b : List S) (ρ : Sl), LS (exSs g cl W b ρ) (exSs g cl' W b ρ)
  | [], ρ => by simp only [exSs]; exact .refl
  | s :: b, ρ => by simp only [exSs]; exact sq_le (exS_le s ρ) fun ρ => exSs_le b ρ
end
end
theorem endF_le {io : List Bool} {r r' : SO} (h : LS r r') : LF (endF io r) (endF io r') := by
  rcases h with h | h
  · subst h; exact .inl rfl
  · subst h; exact .inr rfl
theorem runF_le {P : Pg} {cl cl' : FC} (hc : LC cl cl') (f : Nat) (vs : List PV) : LF (runF P cl f vs) (runF P cl' f vs) := by
  unfold runF
  split
  · split
    · exact endF_le (exSs_le hc _ _)
    · exact .inl rfl
  · exact .inl rfl
theorem callD_le {P : Pg} : ∀ (d k : Nat), LC (callD P d) (callD P (d + k))
  | 0, k => fun f vs => .inl rfl
  | d + 1, k => fun f vs => by
    rw [Nat.add_right_comm]
    exact runF_le (callD_le d k) f vs
theorem LF.eq {r r' v : FO} (h : LF r r') (e : r = v) (n : v ≠ .no) : r' = v := by
  rcases h with h | h
  · rw [h] at e; exact absurd e.symm n
  · rw [← h]; exact e
theorem callD_up {P : Pg} {d d' f : Nat} {vs : List PV} {v : FO} (h : callD P d f vs = v) (n : v ≠ .no) (hd : d ≤ d') : callD P d' f vs = v := by
  obtain ⟨k, rfl⟩ := Nat.le.dest hd
  exact (callD_le d k f vs).eq h n
end Ev

set_option Elab.async false
set_option linter.all false
set_option maxRecDepth 100000
/-! The evaluator step by step: rules for proofs about a def. -/
namespace Ev
section
variable {g : G} {cl : FC} {W : Nat} {α β : Type}
theorem exSs_nil {ρ : Sl} : exSs g cl W [] ρ = .nx ρ := rfl
theorem exSs_cons {s : S} {ss : List S} {ρ : Sl} : exSs g cl W (s :: ss) ρ = (exS g cl W s ρ).sq fun ρ => exSs g cl W ss ρ := rfl
theorem exSs_nx {s : S} {ss : List S} {ρ ρ' : Sl} (h : exS g cl W s ρ = .nx ρ') : exSs g cl W (s :: ss) ρ = exSs g cl W ss ρ' := by rw [exSs_cons, h]; rfl
theorem exSs_rt {s : S} {ss : List S} {ρ ρ' : Sl} {v : PV} {o : Bool} (h : exS g cl W s ρ = .rt v o ρ') : exSs g cl W (s :: ss) ρ = .rt v o ρ' := by rw [exSs_cons, h]; rfl
theorem forL_nil {b : PV → Sl → SO} {ρ : Sl} : forL b [] ρ = .nx ρ := rfl
theorem forL_nx {b : PV → Sl → SO} {x : PV} {r : List PV} {ρ ρ' : Sl} (h : b x ρ = .nx ρ') : forL b (x :: r) ρ = forL b r ρ' := by
  show (match b x ρ with | .nx ρ => forL b r ρ | .ct ρ => forL b r ρ | .bk ρ => .nx ρ | q => q) = _
  rw [h]
theorem forL_rt {b : PV → Sl → SO} {x : PV} {r : List PV} {ρ ρ' : Sl} {v : PV} {o : Bool} (h : b x ρ = .rt v o ρ') : forL b (x :: r) ρ = .rt v o ρ' := by
  show (match b x ρ with | .nx ρ => forL b r ρ | .ct ρ => forL b r ρ | .bk ρ => .nx ρ | q => q) = _
  rw [h]
/-! slots -/
theorem sget0 {x : Option (PV × Bool)} {r : Sl} : sget (x :: r) 0 = x := by cases x <;> rfl
theorem sgetS {x : Option (PV × Bool)} {r : Sl} {n : Nat} : sget (x :: r) (n + 1) = sget r n := rfl
theorem sput0 {x y : Option (PV × Bool)} {r : Sl} : sput (x :: r) 0 y = y :: r := rfl
theorem sputS {x y : Option (PV × Bool)} {r : Sl} {n : Nat} : sput (x :: r) (n + 1) y = x :: sput r n y := rfl
end
/-! equality that the kernel can run -/
mutual
def same : PV → PV → Bool
  | .non, .non => true
  | .bl a, .bl b => a == b
  | .int a, .int b => decide (a = b)
  | .str a, .str b => decide (a = b)
  | .tup a, .tup b => sames a b
  | .lst a, .lst b => sames a b
  | .dct a, .dct b => samed a b
  | .ins c a, .ins d b => decide (c = d) && samef a b
  | .lam a, .lam b => decide (a = b)
  | _, _ => false
def sames : List PV → List PV → Bool
  | [], [] => true
  | a :: r, b :: q => same a b && sames r q
  | _, _ => false
def samed : List (PV × PV) → List (PV × PV) → Bool
  | [], [] => true
  | (a, x) :: r, (b, y) :: q => same a b && same x y && samed r q
  | _, _ => false
def samef : List (Nat × PV) → List (Nat × PV) → Bool
  | [], [] => true
  | (a, x) :: r, (b, y) :: q => decide (a = b) && same x y && samef r q
  | _, _ => false
end
mutual
theorem same_ok : ∀ (a b : PV), same a b = true → a = b
  | .non, b, h => by cases b <;> first | rfl | (simp [same] at h; done)
  | .bl a, b, h => by cases b <;> simp [same] at h; rw [h]
  | .int a, b, h => by cases b <;> simp [same] at h; rw [h]
  | .str a, b, h => by cases b <;> simp [same] at h; rw [h]
  | .tup a, b, h => by
    cases b <;> simp [same] at h
    rw [sames_ok a _ h]
  | .lst a, b, h => by
    cases b <;> simp [same] at h
    rw [sames_ok a _ h]
  | .dct a, b, h => by
    cases b <;> simp [same] at h
    rw [samed_ok a _ h]
  | .ins c a, b, h => by
    cases b <;> simp [same] at h
    rw [h.1, samef_ok a _ h.2]
  | .lam a, b, h => by cases b <;> simp [same] at h; rw [h]
theorem sames_ok : ∀ (a b : List PV), sames a b = true → a = b
  | [], b, h => by cases b <;> first | rfl | (simp [sames] at h; done)
  | x :: r, b, h => by
    cases b with
    | nil => simp [sames] at h
    | cons y q =>
      simp [sames] at h
      rw [same_ok x y h.1, sames_ok r q h.2]
theorem samed_ok : ∀ (a b : List (PV × PV)), samed a b = true → a = b
  | [], b, h => by cases b <;> first | rfl | (simp [samed] at h; done)
  | (x, u) :: r, b, h => by
    cases b with
    | nil => simp [samed] at h
    | cons y q =>
      obtain ⟨y, v⟩ := y
      simp [samed] at h
      rw [same_ok x y h.1.1, same_ok u v h.1.2, samed_ok r q h.2]
theorem samef_ok : ∀ (a b : List (Nat × PV)), samef a b = true → a = b
  | [], b, h => by cases b <;> first | rfl | (simp [samef] at h; done)
  | (x, u) :: r, b, h => by
    cases b with
    | nil => simp [samef] at h
    | cons y q =>
      obtain ⟨y, v⟩ := y
      simp [samef] at h
      rw [h.1.1, same_ok u v h.1.2, samef_ok r q h.2]
end
/-- a string is like itself alone -/
theorem eqv_str {a : List Nat} {x : PV} (h : eqv (.str a) x = true) : x = .str a := by
  cases x <;> simp [eqv] at h
  rw [h]
theorem eqv_str_self {a : List Nat} : eqv (.str a) (.str a) = true := by simp [eqv]
end Ev

set_option Elab.async false
set_option linter.all false
set_option maxRecDepth 100000
/-! The evaluator step by step, continued: tests and statements from their parts. -/
namespace Ev
section
variable {g : G} {cl : FC} {W : Nat}
theorem ev_ite_t {m : Bool} {t a b : E} {ρ ρ' : Sl} {o : Bool} (h : ev g cl true t ρ = .ok (.v (.bl true) o) ρ') : ev g cl m (.ite t a b) ρ = ev g cl m a ρ' := by rw [ev, h]; rfl
theorem ev_ite_f {m : Bool} {t a b : E} {ρ ρ' : Sl} {o : Bool} (h : ev g cl true t ρ = .ok (.v (.bl false) o) ρ') : ev g cl m (.ite t a b) ρ = ev g cl m b ρ' := by rw [ev, h]; rfl
theorem ev_or_f {a b : E} {ρ ρ' : Sl} {o : Bool} (h : ev g cl true a ρ = .ok (.v (.bl false) o) ρ') : ev g cl true (.or_ a b) ρ = ev g cl true b ρ' := by rw [ev, if_pos rfl, h]; rfl
theorem ev_or_t {a b : E} {ρ ρ' : Sl} {o : Bool} (h : ev g cl true a ρ = .ok (.v (.bl true) o) ρ') : ev g cl true (.or_ a b) ρ = .ok (.v (.bl true) false) ρ' := by rw [ev, if_pos rfl, h]; rfl
theorem ev_and_t {a b : E} {ρ ρ' : Sl} {o : Bool} (h : ev g cl true a ρ = .ok (.v (.bl true) o) ρ') : ev g cl true (.and_ a b) ρ = ev g cl true b ρ' := by rw [ev, if_pos rfl, h]; rfl
theorem ev_and_f {a b : E} {ρ ρ' : Sl} {o : Bool} (h : ev g cl true a ρ = .ok (.v (.bl false) o) ρ') : ev g cl true (.and_ a b) ρ = .ok (.v (.bl false) false) ρ' := by rw [ev, if_pos rfl, h]; rfl
theorem ev_not {a : E} {ρ ρ' : Sl} {b o : Bool} (h : ev g cl true a ρ = .ok (.v (.bl b) o) ρ') : ev g cl true (.not_ a) ρ = .ok (.v (.bl (!b)) false) ρ' := by rw [ev, if_pos rfl, h]; rfl
/-- as a value -/
theorem ev_and_t' {a b : E} {ρ ρ' : Sl} {o : Bool} (h : ev g cl false a ρ = .ok (.v (.bl true) o) ρ') : ev g cl false (.and_ a b) ρ = ev g cl false b ρ' := by rw [ev, if_neg (by decide), h]; rfl
theorem ev_and_f' {a b : E} {ρ ρ' : Sl} {o : Bool} (h : ev g cl false a ρ = .ok (.v (.bl false) o) ρ') : ev g cl false (.and_ a b) ρ = .ok (.v (.bl false) false) ρ' := by rw [ev, if_neg (by decide), h]; rfl
theorem ev_not' {a : E} {ρ ρ' : Sl} {b o : Bool} (h : ev g cl false a ρ = .ok (.v (.bl b) o) ρ') : ev g cl false (.not_ a) ρ = .ok (.v (.bl (!b)) false) ρ' := by rw [ev, if_neg (by decide), h]; rfl
theorem exS_ite_t {t : E} {a b : List S} {ρ ρ' : Sl} {o : Bool} (h : ev g cl true t ρ = .ok (.v (.bl true) o) ρ') : exS g cl W (.ite t a b) ρ = exSs g cl W a ρ' := by rw [exS, h]; rfl
theorem exS_ite_f {t : E} {a b : List S} {ρ ρ' : Sl} {o : Bool} (h : ev g cl true t ρ = .ok (.v (.bl false) o) ρ') : exS g cl W (.ite t a b) ρ = exSs g cl W b ρ' := by rw [exS, h]; rfl
/-- a test without else that fails -/
theorem exS_no {t : E} {a : List S} {ρ ρ' : Sl} {o : Bool} (h : ev g cl true t ρ = .ok (.v (.bl false) o) ρ') : exS g cl W (.ite t a []) ρ = .nx ρ' := by rw [exS, h]; rfl
theorem exS_asg {i : Nat} {e : E} {ρ ρ' : Sl} {p : PV} {o : Bool} (h : ev g cl false e ρ = .ok (.v p o) ρ') (hi : i < ρ'.length) : exS g cl W (.asg (.nm i) e) ρ = .nx (sput ρ' i (some (p, o))) := by
  rw [exS, h]
  show (if i < ρ'.length then SO.nx (sput ρ' i (some (p, o))) else SO.no) = _
  rw [if_pos hi]
theorem exS_asgT {ts : List T} {e : E} {ρ ρ' ρ'' : Sl} {p : PV} {o : Bool} (h : ev g cl false e ρ = .ok (.v p o) ρ') (hb : bindT (.tup ts) p ρ' = some ρ'') : exS g cl W (.asg (.tup ts) e) ρ = .nx ρ'' := by
  rw [exS, h]
  show (match bindT (.tup ts) p ρ' with | some ρ => SO.nx ρ | none => SO.no) = _
  rw [hb]
theorem exS_ret {e : E} {ρ ρ' : Sl} {p : PV} {o : Bool} (h : ev g cl false e ρ = .ok (.v p o) ρ') (hn : ∀ i, e ≠ .var i) : exS g cl W (.ret (some e)) ρ = .rt p o ρ' := by
  cases e <;> first | (exact absurd rfl (hn _)) | (rw [exS, h]; rfl; done) | (unfold exS; simp only [h]; rfl)
/-- one turn of a for -/
def turn (g : G) (cl : FC) (W : Nat) (t : T) (b : List S) : PV → Sl → SO := fun x ρ => match bindT t x ρ with
    | some ρ => exSs g cl W b ρ
    | none => .no
theorem exS_for {t : T} {it : It} {b : List S} {ρ ρ' : Sl} {xs : List PV} (h : evI g cl it ρ = .ok xs ρ') : exS g cl W (.for_ t it b) ρ = forL (turn g cl W t b) xs ρ' := by rw [exS, h]; rfl
/-- a comprehension over a list that stays, whose items are all false -/
theorem lcV_ff {body : PV → Sl → O (Option PV)} {i : Nat} {l : List PV} {I : Sl → Prop} (hI : ∀ ρ, I ρ → sget ρ i = some (.lst l, true)) (hb : ∀ ρ x, I ρ → x ∈ l → ∃ ρ', body x ρ = .ok (some (.bl false)) ρ' ∧ I ρ') :
    ∀ (n k : Nat) (ρ : Sl), I ρ → l.length - k < n → ∃ ρ', lcV body i n k ρ = .ok (List.replicate (l.length - k) (.bl false)) ρ' ∧ I ρ'
  | 0, k, ρ, _, h => absurd h (by omega)
  | n + 1, k, ρ, hρ, h => by
    unfold lcV
    rw [hI ρ hρ]
    show ∃ ρ', (match l[k]? with
      | none => O.ok [] ρ
      | some x => (body x ρ).bd fun o ρ1 => (lcV body i n (k + 1) ρ1).bd fun l ρ2 => .ok (match o with | some y => y :: l | none => l) ρ2) = _ ∧ I ρ'
    cases hk : l[k]? with
    | none =>
      have : l.length ≤ k := List.getElem?_eq_none_iff.1 hk
      refine ⟨ρ, ?_, hρ⟩
      rw [show l.length - k = 0 by omega]
      rfl
    | some x =>
      obtain ⟨hlt, hx⟩ := List.getElem?_eq_some_iff.1 hk
      obtain ⟨ρ1, h1, hρ1⟩ := hb ρ x hρ (hx ▸ List.getElem_mem hlt)
      obtain ⟨ρ2, h2, hρ2⟩ := lcV_ff hI hb n (k + 1) ρ1 hρ1 (by omega)
      refine ⟨ρ2, ?_, hρ2⟩
      rw [show l.length - k = (l.length - (k + 1)) + 1 by omega, List.replicate_succ]
      simp only [h1, O.bd, h2]
theorem bls_ff : ∀ n, bls? (List.replicate n (.bl false)) = some (List.replicate n false)
  | 0 => rfl
  | n + 1 => by rw [List.replicate_succ, List.replicate_succ, bls?, bls_ff n]; rfl
theorem any_ff : ∀ n, (List.replicate n false).any id = false
  | 0 => rfl
  | n + 1 => by rw [List.replicate_succ, List.any_cons, any_ff n]; rfl
end
end Ev

set_option Elab.async false
set_option linter.all false
/-! The head's end: of an exception of the law no more is asked than what the promise says. -/
namespace Ev
open PySem PySem.Spec PyProof.Rows L2
def CXe : CXT := fun _ _ _ E _ _ => ∃ cls d H', E cls d H'
theorem fnOk_cx {P : Program} {w : World} {K : PySem.W.Frag} {mg : Str → Option Value} {base : Heap} {k : Nat} {f : Addr} {fd : FuncData} {ps : List Str} {sp : Sp} (F : FnOk P w K mg base (L2.CX P w) k f fd ps sp) : FnOk P w K mg base CXe k f fd ps sp :=
  ⟨F.len, fun A outer s H args us vs Q E hr e0 hb hv hs => codeAny_mono (F.run A outer s H args us vs Q E hr e0 hb hv hs) fun r s' q => by
    cases r with
    | error e =>
      have q : L2.CX P w outer H s E e s' := q
      obtain ⟨_, _, H', cls, d, _, _, _, _, _, _, _, hE⟩ := q
      exact ⟨cls, d, H', hE⟩
    | ok fl => cases fl <;> exact q⟩
end Ev

set_option Elab.async false
set_option linter.all false
set_option maxRecDepth 100000
set_option maxHeartbeats 0
namespace K45
open PySem PySem.Spec PyProof.Rows L2 Ev
abbrev prog : Program := PySem.Challenge.pw_plugbooks_k45_handles_of_users
def top (i : Nat) : Stmt := prog.main.body.getD i (.Pass ⟨0, 0, 0, 0⟩)
def cbody : Stmt → List Stmt
  | .ClassDef _ _ _ b _ _ _ _ _ _ _ => b
  | _ => []
def mth (i j : Nat) : Stmt := (cbody (top i)).getD j (.Pass ⟨0, 0, 0, 0⟩)
def e0 : FnE := ⟨⟨("is_integer", none), "is_integer", "is_integer", defArgs (top 3), defBody (top 3), defScope (top 3), [], []⟩, ["thing"], ["thing"], []⟩
def e1 : FnE := ⟨⟨("is_number", none), "is_number", "is_number", defArgs (top 4), defBody (top 4), defScope (top 4), [], []⟩, ["thing", "least", "most"], ["thing", "least", "most"], []⟩
def e2 : FnE := ⟨⟨("check_handles", none), "check_handles", "check_handles", defArgs (top 9), defBody (top 9), defScope (top 9), [], []⟩, ["handles"], ["handles"], []⟩
def e3 : FnE := ⟨⟨("judge_handles", none), "judge_handles", "judge_handles", defArgs (top 12), defBody (top 12), defScope (top 12), [], []⟩, ["handles"], ["handles", "came", "rest", "at", "stand", "move", "late"], []⟩
def e4 : FnE := ⟨⟨("is_kept", none), "is_kept", "is_kept", defArgs (top 15), defBody (top 15), defScope (top 15), [], []⟩, ["handles", "stand"], ["handles", "stand"], []⟩
def e5 : FnE := ⟨⟨("judge_freed", none), "judge_freed", "judge_freed", defArgs (top 16), defBody (top 16), defScope (top 16), [], []⟩, ["handles"], ["handles", "came", "rest", "at", "stand", "ring", "move", "late"], []⟩
def e6 : FnE := ⟨⟨("ring_of", none), "ring_of", "ring_of", defArgs (top 17), defBody (top 17), defScope (top 17), [], []⟩, ["handles", "first"], ["handles", "first", "came", "rest", "at", "stand", "way", "move", "late"], []⟩
def e7 : FnE := ⟨⟨("least_rules", none), "least_rules", "least_rules", defArgs (top 18), defBody (top 18), defScope (top 18), [], []⟩, ["users"], ["users", "good", "size", "some", "told", "name", "less"], []⟩
def e8 : FnE := ⟨⟨("subsets", none), "subsets", "subsets", defArgs (top 19), defBody (top 19), defScope (top 19), [], []⟩, ["size"], ["size", "rows", "turn", "row", "at"], []⟩
def e9 : FnE := ⟨⟨("first_of", none), "first_of", "first_of", defArgs (top 20), defBody (top 20), defScope (top 20), [], []⟩, ["row"], ["row"], []⟩
def e10 : FnE := ⟨⟨("_law_number", none), "_law_number", "_law_number", defArgs (top 22), defBody (top 22), defScope (top 22), [], []⟩, ["script", "index"], ["script", "index", "cell", "turn", "rest", "step", "blend"], []⟩
def e11 : FnE := ⟨⟨("_law_take", none), "_law_take", "_law_take", defArgs (top 23), defBody (top 23), defScope (top 23), [], []⟩, ["draw", "many"], ["draw", "many"], [true]⟩
def e12 : FnE := ⟨⟨("_law_pick", none), "_law_pick", "_law_pick", defArgs (top 24), defBody (top 24), defScope (top 24), [], []⟩, ["draw", "items"], ["draw", "items"], [true]⟩
def e13 : FnE := ⟨⟨("_law_may_end", none), "_law_may_end", "_law_may_end", defArgs (top 25), defBody (top 25), defScope (top 25), [], []⟩, ["rules", "stand"], ["rules", "stand", "users", "held", "marked", "waits", "holds", "works", "there", "kept"], []⟩
def e14 : FnE := ⟨⟨("_law_moves", none), "_law_moves", "_law_moves", defArgs (top 26), defBody (top 26), defScope (top 26), [], []⟩, ["rules", "stand"], ["rules", "stand", "users", "held", "marked", "waits", "holds", "works", "there", "kept", "may", "found"], []⟩
def e15 : FnE := ⟨⟨("_law_behind", none), "_law_behind", "_law_behind", defArgs (top 27), defBody (top 27), defScope (top 27), [], []⟩, ["stand", "move"], ["stand", "move", "holds", "works", "there", "kept"], []⟩
def e16 : FnE := ⟨⟨("_law_walk", none), "_law_walk", "_law_walk", defArgs (top 28), defBody (top 28), defScope (top 28), [], []⟩, ["rules"], ["rules", "first", "found", "line", "wrong", "turn", "stand", "move", "late"], []⟩
def e17 : FnE := ⟨⟨("_law_rings", none), "_law_rings", "_law_rings", defArgs (top 29), defBody (top 29), defScope (top 29), [], []⟩, ["rules", "found"], ["rules", "found", "some", "stand", "turn", "move"], []⟩
def e18 : FnE := ⟨⟨("_law_lingers", none), "_law_lingers", "_law_lingers", defArgs (top 30), defBody (top 30), defScope (top 30), [], []⟩, ["rules", "moves", "ring"], ["rules", "moves", "ring", "stand", "move", "first"], []⟩
def e19 : FnE := ⟨⟨("_law_rules_right", none), "_law_rules_right", "_law_rules_right", defArgs (top 31), defBody (top 31), defScope (top 31), [], []⟩, ["draw", "rules", "handles"], ["draw", "rules", "handles", "stand", "found", "wrong", "moves", "turn", "near", "move", "told", "freed", "ring"], [true]⟩
def e20 : FnE := ⟨⟨("law", none), "law", "law", defArgs (top 32), defBody (top 32), defScope (top 32), [], []⟩, ["script"], ["script", "draw", "good", "users", "held", "marked", "waits", "rules", "handles", "walk", "names", "name", "is_on", "order", "right", "one", "late", "bad", "part", "fault"], []⟩
def e21 : FnE := ⟨⟨("Handles", some "__init__"), "__init__", "Handles.__init__", defArgs (mth 8 0), defBody (mth 8 0), defScope (mth 8 0), [], []⟩, ["self", "users", "held", "marked", "waits"], ["self", "users", "held", "marked", "waits", "name", "flag"], [true]⟩
def e22 : FnE := ⟨⟨("Handles", some "__eq__"), "__eq__", "Handles.__eq__", defArgs (mth 8 1), defBody (mth 8 1), defScope (mth 8 1), [], []⟩, ["self", "other"], ["self", "other"], []⟩
def e23 : FnE := ⟨⟨("Handles", some "start"), "start", "Handles.start", defArgs (mth 8 2), defBody (mth 8 2), defScope (mth 8 2), [], []⟩, ["self"], ["self"], []⟩
def e24 : FnE := ⟨⟨("Handles", some "moves"), "moves", "Handles.moves", defArgs (mth 8 3), defBody (mth 8 3), defScope (mth 8 3), [], []⟩, ["self", "stand"], ["self", "stand", "holding", "working", "there", "kept", "is_open", "found"], []⟩
def e25 : FnE := ⟨⟨("Handles", some "may_end"), "may_end", "Handles.may_end", defArgs (mth 8 4), defBody (mth 8 4), defScope (mth 8 4), [], []⟩, ["self", "stand"], ["self", "stand"], []⟩
def e26 : FnE := ⟨⟨("Handles", some "behind"), "behind", "Handles.behind", defArgs (mth 8 5), defBody (mth 8 5), defScope (mth 8 5), [], []⟩, ["self", "stand", "move"], ["self", "stand", "move", "holding", "working", "there", "kept"], []⟩
def e27 : FnE := ⟨⟨("Handles", some "is_wrong"), "is_wrong", "Handles.is_wrong", defArgs (mth 8 6), defBody (mth 8 6), defScope (mth 8 6), [], []⟩, ["self", "stand"], ["self", "stand"], []⟩
def e28 : FnE := ⟨⟨("Safe", some "__init__"), "__init__", "Safe.__init__", defArgs (mth 10 0), defBody (mth 10 0), defScope (mth 10 0), [], []⟩, ["self", "stands"], ["self", "stands"], [true]⟩
def e29 : FnE := ⟨⟨("Safe", some "__bool__"), "__bool__", "Safe.__bool__", defArgs (mth 10 1), defBody (mth 10 1), defScope (mth 10 1), [], []⟩, ["self"], ["self"], []⟩
def e30 : FnE := ⟨⟨("Safe", some "__eq__"), "__eq__", "Safe.__eq__", defArgs (mth 10 2), defBody (mth 10 2), defScope (mth 10 2), [], []⟩, ["self", "other"], ["self", "other"], []⟩
def e31 : FnE := ⟨⟨("Safe", some "shows"), "shows", "Safe.shows", defArgs (mth 10 3), defBody (mth 10 3), defScope (mth 10 3), [], []⟩, ["self", "handles"], ["self", "handles"], []⟩
def e32 : FnE := ⟨⟨("Spent", some "__init__"), "__init__", "Spent.__init__", defArgs (mth 11 0), defBody (mth 11 0), defScope (mth 11 0), [], []⟩, ["self", "moves"], ["self", "moves"], [true]⟩
def e33 : FnE := ⟨⟨("Spent", some "__bool__"), "__bool__", "Spent.__bool__", defArgs (mth 11 1), defBody (mth 11 1), defScope (mth 11 1), [], []⟩, ["self"], ["self"], []⟩
def e34 : FnE := ⟨⟨("Spent", some "__eq__"), "__eq__", "Spent.__eq__", defArgs (mth 11 2), defBody (mth 11 2), defScope (mth 11 2), [], []⟩, ["self", "other"], ["self", "other"], []⟩
def e35 : FnE := ⟨⟨("Spent", some "shows"), "shows", "Spent.shows", defArgs (mth 11 3), defBody (mth 11 3), defScope (mth 11 3), [], []⟩, ["self", "handles"], ["self", "handles", "stand", "move"], []⟩
def e36 : FnE := ⟨⟨("Freed", some "__bool__"), "__bool__", "Freed.__bool__", defArgs (mth 13 0), defBody (mth 13 0), defScope (mth 13 0), [], []⟩, ["self"], ["self"], []⟩
def e37 : FnE := ⟨⟨("Freed", some "__eq__"), "__eq__", "Freed.__eq__", defArgs (mth 13 1), defBody (mth 13 1), defScope (mth 13 1), [], []⟩, ["self", "other"], ["self", "other"], []⟩
def e38 : FnE := ⟨⟨("Freed", some "shows"), "shows", "Freed.shows", defArgs (mth 13 2), defBody (mth 13 2), defScope (mth 13 2), [], []⟩, ["self", "handles"], ["self", "handles"], []⟩
def e39 : FnE := ⟨⟨("Lingers", some "__init__"), "__init__", "Lingers.__init__", defArgs (mth 14 0), defBody (mth 14 0), defScope (mth 14 0), [], []⟩, ["self", "moves", "ring"], ["self", "moves", "ring"], [true]⟩
def e40 : FnE := ⟨⟨("Lingers", some "__bool__"), "__bool__", "Lingers.__bool__", defArgs (mth 14 1), defBody (mth 14 1), defScope (mth 14 1), [], []⟩, ["self"], ["self"], []⟩
def e41 : FnE := ⟨⟨("Lingers", some "__eq__"), "__eq__", "Lingers.__eq__", defArgs (mth 14 2), defBody (mth 14 2), defScope (mth 14 2), [], []⟩, ["self", "other"], ["self", "other"], []⟩
def e42 : FnE := ⟨⟨("Lingers", some "shows"), "shows", "Lingers.shows", defArgs (mth 14 3), defBody (mth 14 3), defScope (mth 14 3), [], []⟩, ["self", "handles"], ["self", "handles", "stand", "move", "first"], []⟩
def x0 : ExcD := ⟨"BadHandles", [1], ⟨("BadHandles", some "__init__"), "__init__", "BadHandles.__init__", defArgs (mth 7 0), defBody (mth 7 0), defScope (mth 7 0), [], []⟩⟩
def cls : List ClsD := [
  ⟨"Handles", [2, 3, 4, 5], some 21, some 22, none, [(12, 26), (10, 27), (11, 25), (7, 24), (9, 23)]⟩,
  ⟨"Safe", [6], some 28, some 30, some 29, [(13, 31)]⟩,
  ⟨"Spent", [7], some 32, some 34, some 33, [(13, 35)]⟩,
  ⟨"Freed", [], none, some 37, some 36, [(13, 38)]⟩,
  ⟨"Lingers", [7, 8], some 39, some 41, some 40, [(13, 42)]⟩]
def gls : List (Str × Gv) := [(("is_integer" : Str), Gv.fn 0),
  (("is_number" : Str), Gv.fn 1),
  (("check_handles" : Str), Gv.fn 2),
  (("judge_handles" : Str), Gv.fn 3),
  (("is_kept" : Str), Gv.fn 4),
  (("judge_freed" : Str), Gv.fn 5),
  (("ring_of" : Str), Gv.fn 6),
  (("least_rules" : Str), Gv.fn 7),
  (("subsets" : Str), Gv.fn 8),
  (("first_of" : Str), Gv.fn 9),
  (("_law_number" : Str), Gv.fn 10),
  (("_law_take" : Str), Gv.fn 11),
  (("_law_pick" : Str), Gv.fn 12),
  (("_law_may_end" : Str), Gv.fn 13),
  (("_law_moves" : Str), Gv.fn 14),
  (("_law_behind" : Str), Gv.fn 15),
  (("_law_walk" : Str), Gv.fn 16),
  (("_law_rings" : Str), Gv.fn 17),
  (("_law_lingers" : Str), Gv.fn 18),
  (("_law_rules_right" : Str), Gv.fn 19),
  (("law" : Str), Gv.fn 20),
  (("Handles" : Str), Gv.cl 0),
  (("Safe" : Str), Gv.cl 1),
  (("Spent" : Str), Gv.cl 2),
  (("Freed" : Str), Gv.cl 3),
  (("Lingers" : Str), Gv.cl 4),
  (("BadHandles" : Str), Gv.xc 1000),
  (("RULES" : Str), Gv.val (.tup [(.str [104, 101, 108, 100]), (.str [109, 97, 114, 107, 101, 100]), (.str [119, 97, 105, 116, 115])])),
  (("isinstance" : Str), Gv.abs),
  (("int" : Str), Gv.abs),
  (("bool" : Str), Gv.abs),
  (("tuple" : Str), Gv.abs),
  (("len" : Str), Gv.abs),
  (("range" : Str), Gv.abs),
  (("sorted" : Str), Gv.abs),
  (("any" : Str), Gv.abs),
  (("all" : Str), Gv.abs)]
def names : List Str := ["0none", "part", "users", "held", "marked", "waits", "stands", "moves", "ring", "start", "is_wrong", "may_end", "behind", "shows"]
def D : PD := { names := names, cls := cls, exc := [x0], fns := [e0, e1, e2, e3, e4, e5, e6, e7, e8, e9, e10, e11, e12, e13, e14, e15, e16, e17, e18, e19, e20, e21, e22, e23, e24, e25, e26, e27, e28, e29, e30, e31, e32, e33, e34, e35, e36, e37, e38, e39, e40, e41, e42], gls := gls, fe := 40, W := 4000 }
end K45

set_option Elab.async false
set_option linter.all false
set_option maxRecDepth 100000
set_option maxHeartbeats 0
namespace K45
open Ev
def fn0 : Fn :=
  ⟨1, 1, [], [S.ret (some (E.and_ (E.pr (Pr.isi [] [0]) [E.var 0]) (E.not_ (E.pr (Pr.isi [] [1]) [E.var 0]))))]⟩
def fn1 : Fn :=
  ⟨3, 3, [], [S.ret (some (E.and_ (E.call 0 [E.var 0]) (E.chn (Pr.le) (Pr.le) (E.var 1) (E.var 0) (E.var 2))))]⟩
def fn2 : Fn :=
  ⟨1, 1, [], [S.ite (E.not_ (E.pr (Pr.isi [0] []) [E.var 0])) [S.rse 1000 [E.cst (PV.str [104, 97, 110, 100, 108, 101, 115])]] []]⟩
def fn3 : Fn :=
  ⟨1, 7, [], [S.ex (E.call 2 [E.var 0]),
           S.par [T.nm 1, T.nm 2, T.nm 3] [E.dct [E.meth 9 (E.var 0) [], E.tup []], E.lst [E.meth 9 (E.var 0) []], E.cst (PV.int 0)],
           S.whl
             (E.pr (Pr.lt) [E.var 3, E.pr (Pr.len) [E.var 2]])
             [S.asg (T.nm 4) (E.pr (Pr.ix) [E.var 2, E.var 3]),
              S.aug 3 (Pr.add) (E.cst (PV.int 1)),
              S.ite (E.meth 10 (E.var 0) [E.var 4]) [S.ret (some (E.mk 2 [E.pr (Pr.ix) [E.var 1, E.var 4]]))] [],
              S.for_
                (T.nm 5)
                (It.of (E.meth 7 (E.var 0) [E.var 4]))
                [S.asg (T.nm 6) (E.meth 12 (E.var 0) [E.var 4, E.var 5]),
                 S.ite
                   (E.pr (Pr.nmem) [E.var 6, E.var 1])
                   [S.setS 1 (E.var 6) (E.tup [E.star (E.pr (Pr.ix) [E.var 1, E.var 4]), E.var 5]), S.ex (E.bm 2 (Bm.append) [E.var 6])]
                   []]],
           S.ret (some (E.mk 1 [E.pr (Pr.len) [E.var 2]]))]⟩
def fn4 : Fn :=
  ⟨2, 2, [], [S.ret
             (some (E.and_
                (E.not_ (E.pr (Pr.ix) [E.var 1, E.cst (PV.int 2)]))
                (E.and_ (E.pr (Pr.ix) [E.var 1, E.cst (PV.int 3)]) (E.not_ (E.meth 11 (E.var 0) [E.var 1])))))]⟩
def fn5 : Fn :=
  ⟨1, 8, [], [S.ex (E.call 2 [E.var 0]),
           S.par [T.nm 1, T.nm 2, T.nm 3] [E.dct [E.meth 9 (E.var 0) [], E.tup []], E.lst [E.meth 9 (E.var 0) []], E.cst (PV.int 0)],
           S.whl
             (E.pr (Pr.lt) [E.var 3, E.pr (Pr.len) [E.var 2]])
             [S.asg (T.nm 4) (E.pr (Pr.ix) [E.var 2, E.var 3]),
              S.aug 3 (Pr.add) (E.cst (PV.int 1)),
              S.asg (T.nm 5) (E.call 6 [E.var 0, E.var 4]),
              S.ite (E.pr (Pr.notN) [E.var 5]) [S.ret (some (E.mk 4 [E.pr (Pr.ix) [E.var 1, E.var 4], E.var 5]))] [],
              S.for_
                (T.nm 6)
                (It.of (E.meth 7 (E.var 0) [E.var 4]))
                [S.asg (T.nm 7) (E.meth 12 (E.var 0) [E.var 4, E.var 6]),
                 S.ite
                   (E.pr (Pr.nmem) [E.var 7, E.var 1])
                   [S.setS 1 (E.var 7) (E.tup [E.star (E.pr (Pr.ix) [E.var 1, E.var 4]), E.var 6]), S.ex (E.bm 2 (Bm.append) [E.var 7])]
                   []]],
           S.ret (some (E.mk 3 []))]⟩
def fn6 : Fn :=
  ⟨2, 9, [], [S.ite (E.not_ (E.call 4 [E.var 0, E.var 1])) [S.ret (some (E.cst (PV.non)))] [],
           S.par [T.nm 2, T.nm 3, T.nm 4] [E.dct [], E.lst [E.tup [E.var 1, E.tup []]], E.cst (PV.int 0)],
           S.whl
             (E.pr (Pr.lt) [E.var 4, E.pr (Pr.len) [E.var 3]])
             [S.asg (T.tup [T.nm 5, T.nm 6]) (E.pr (Pr.ix) [E.var 3, E.var 4]),
              S.aug 4 (Pr.add) (E.cst (PV.int 1)),
              S.for_
                (T.nm 7)
                (It.of (E.meth 7 (E.var 0) [E.var 5]))
                [S.asg (T.nm 8) (E.meth 12 (E.var 0) [E.var 5, E.var 7]),
                 S.ite (E.pr (Pr.eq) [E.var 8, E.var 1]) [S.ret (some (E.lst [E.star (E.var 6), E.var 7]))] [],
                 S.ite
                   (E.and_ (E.call 4 [E.var 0, E.var 8]) (E.pr (Pr.nmem) [E.var 8, E.var 2]))
                   [S.setS 2 (E.var 8) (E.cst (PV.bl true)), S.ex (E.bm 3 (Bm.append) [E.tup [E.var 8, E.tup [E.star (E.var 6), E.var 7]]])]
                   []]],
           S.ret (some (E.cst (PV.non)))]⟩
def fn7 : Fn :=
  ⟨1, 7, [], [S.asg (T.nm 1) (E.lst []),
           S.for_
             (T.nm 2)
             (It.rng [E.cst (PV.int 4)])
             [S.for_
                (T.nm 3)
                (It.of (E.call 8 [E.var 2]))
                [S.asg
                   (T.nm 4)
                   (E.mk
                     0
                     [E.var 0,
                      E.pr (Pr.mem) [E.cst (PV.str [104, 101, 108, 100]), E.var 3],
                      E.pr (Pr.mem) [E.cst (PV.str [109, 97, 114, 107, 101, 100]), E.var 3],
                      E.pr (Pr.mem) [E.cst (PV.str [119, 97, 105, 116, 115]), E.var 3]]),
                 S.ite
                   (E.pr
                     (Pr.any1)
                     [E.lc [6] (T.nm 6) (It.of (E.var 1)) [] (E.pr (Pr.all1) [E.lc [5] (T.nm 5) (It.of (E.var 6)) [] (E.pr (Pr.mem) [E.var 5, E.var 3])])])
                   [S.cnt]
                   [],
                 S.ite (E.and_ (E.call 3 [E.var 4]) (E.call 5 [E.var 4])) [S.ex (E.bm 1 (Bm.append) [E.var 3])] []]],
           S.ret (some (E.var 1))]⟩
def fn8 : Fn :=
  ⟨1, 5, [], [S.asg (T.nm 1) (E.lst [E.tup []]),
           S.for_
             (T.nm 2)
             (It.rng [E.var 0])
             [S.asg
                (T.nm 1)
                (E.lc2
                  [3, 4]
                  (T.nm 3)
                  (It.of (E.var 1))
                  []
                  [4]
                  (T.nm 4)
                  (It.rng
                    [E.call 9 [E.var 3],
                     E.pr (Pr.len) [E.cst (PV.tup [PV.str [104, 101, 108, 100], PV.str [109, 97, 114, 107, 101, 100], PV.str [119, 97, 105, 116, 115]])]])
                  []
                  (E.tup
                    [E.star (E.var 3),
                     E.pr (Pr.ix) [E.cst (PV.tup [PV.str [104, 101, 108, 100], PV.str [109, 97, 114, 107, 101, 100], PV.str [119, 97, 105, 116, 115]]), E.var 4]]))],
           S.ret (some (E.var 1))]⟩
def fn9 : Fn :=
  ⟨1, 1, [], [S.ret
             (some (E.ite
                (E.pr (Pr.ne) [E.var 0, E.tup []])
                (E.pr
                  (Pr.add)
                  [E.pr
                     (Pr.index)
                     [E.cst (PV.tup [PV.str [104, 101, 108, 100], PV.str [109, 97, 114, 107, 101, 100], PV.str [119, 97, 105, 116, 115]]),
                      E.pr (Pr.ix) [E.var 0, E.pr (Pr.neg) [E.cst (PV.int 1)]]],
                   E.cst (PV.int 1)])
                (E.cst (PV.int 0))))]⟩
def fn10 : Fn :=
  ⟨2, 7, [], [S.asg
             (T.tup [T.nm 2, T.nm 3])
             (E.ite
               (E.pr (Pr.ne) [E.var 0, E.lst []])
               (E.tup [E.pr (Pr.ix) [E.var 0, E.pr (Pr.mod) [E.var 1, E.pr (Pr.len) [E.var 0]]], E.pr (Pr.fdiv) [E.var 1, E.pr (Pr.len) [E.var 0]]])
               (E.tup [E.cst (PV.int 12345), E.cst (PV.int 0)])),
           S.asg
             (T.nm 4)
             (E.ite
               (E.pr (Pr.lt) [E.var 3, E.cst (PV.int 60)])
               (E.pr (Pr.sub) [E.var 2, E.pr (Pr.pow) [E.cst (PV.int 10), E.cst (PV.int 18)]])
               (E.cst (PV.int 0))),
           S.for_
             (T.nm 5)
             (It.rng [E.pr (Pr.mod) [E.pr (Pr.int1) [E.var 3], E.cst (PV.int 60)]])
             [S.asg (T.nm 4) (E.pr (Pr.fdiv) [E.var 4, E.cst (PV.int 1009)])],
           S.ite (E.pr (Pr.gt) [E.var 4, E.cst (PV.int 0)]) [S.ret (some (E.pr (Pr.mod) [E.pr (Pr.int1) [E.var 4], E.cst (PV.int 1009)]))] [],
           S.asg
             (T.nm 6)
             (E.pr
               (Pr.mod)
               [E.pr
                  (Pr.add)
                  [E.pr (Pr.mul) [E.pr (Pr.int1) [E.pr (Pr.add) [E.var 2, E.pr (Pr.mul) [E.cst (PV.int 977), E.var 1]]], E.cst (PV.int 48271)],
                   E.pr (Pr.mul) [E.cst (PV.int 31), E.pr (Pr.len) [E.var 0]]],
                E.cst (PV.int 2147483647)]),
           S.asg
             (T.nm 6)
             (E.pr (Pr.mod) [E.pr (Pr.add) [E.pr (Pr.mul) [E.var 6, E.var 6], E.pr (Pr.mul) [E.cst (PV.int 40503), E.var 1]], E.cst (PV.int 2147483629)]),
           S.ret
             (some (E.pr
                (Pr.int1)
                [E.pr
                   (Pr.mod)
                   [E.pr (Pr.add) [E.pr (Pr.mul) [E.var 6, E.cst (PV.int 69621)], E.pr (Pr.fdiv) [E.var 6, E.cst (PV.int 977)]],
                    E.cst (PV.int 2147483587)]]))]⟩
def fn11 : Fn :=
  ⟨2, 2, [true], [S.augS 0 (E.cst (PV.int 1)) (Pr.add) (E.cst (PV.int 1)),
           S.ret
             (some (E.pr
                (Pr.mod)
                [E.pr (Pr.int1) [E.call 10 [E.pr (Pr.ix) [E.var 0, E.cst (PV.int 0)], E.pr (Pr.int1) [E.pr (Pr.ix) [E.var 0, E.cst (PV.int 1)]]]],
                 E.var 1]))]⟩
def fn12 : Fn :=
  ⟨2, 2, [true], [S.ret (some (E.pr (Pr.ix) [E.var 1, E.call 11 [E.var 0, E.pr (Pr.len) [E.var 1]]]))]⟩
def fn13 : Fn :=
  ⟨2, 10, [], [S.asg (T.tup [T.nm 2, T.nm 3, T.nm 4, T.nm 5]) (E.var 0),
           S.asg (T.tup [T.nm 6, T.nm 7, T.nm 8, T.nm 9]) (E.var 1),
           S.ret
             (some (E.ite
                (E.var 3)
                (E.pr (Pr.eq) [E.pr (Pr.add) [E.var 6, E.var 7], E.cst (PV.int 0)])
                (E.ite (E.var 5) (E.pr (Pr.eq) [E.var 7, E.cst (PV.int 0)]) (E.cst (PV.bl true)))))]⟩
def fn14 : Fn :=
  ⟨2, 12, [], [S.asg (T.tup [T.nm 2, T.nm 3, T.nm 4, T.nm 5]) (E.var 0),
           S.asg (T.tup [T.nm 6, T.nm 7, T.nm 8, T.nm 9]) (E.var 1),
           S.asg (T.nm 10) (E.or_ (E.var 8) (E.not_ (E.var 4))),
           S.asg
             (T.nm 11)
             (E.pr
               (Pr.add)
               [E.ite
                  (E.and_ (E.var 9) (E.and_ (E.pr (Pr.lt) [E.pr (Pr.add) [E.var 6, E.var 7], E.var 2]) (E.var 10)))
                  (E.lst [E.cst (PV.str [116, 97, 107, 101])])
                  (E.lst []),
                E.ite (E.and_ (E.pr (Pr.gt) [E.var 6, E.cst (PV.int 0)]) (E.var 10)) (E.lst [E.cst (PV.str [119, 111, 114, 107])]) (E.lst [])]),
           S.asg
             (T.nm 11)
             (E.pr
               (Pr.add)
               [E.pr
                  (Pr.add)
                  [E.pr (Pr.add) [E.var 11, E.ite (E.pr (Pr.gt) [E.var 7, E.cst (PV.int 0)]) (E.lst [E.cst (PV.str [114, 101, 115, 116])]) (E.lst [])],
                   E.ite (E.pr (Pr.gt) [E.var 6, E.cst (PV.int 0)]) (E.lst [E.cst (PV.str [103, 105, 118, 101])]) (E.lst [])],
                E.ite (E.var 8) (E.lst [E.cst (PV.str [108, 101, 97, 118, 101])]) (E.lst [])]),
           S.ret
             (some (E.pr
                (Pr.add)
                [E.var 11,
                 E.ite (E.and_ (E.not_ (E.var 8)) (E.and_ (E.var 9) (E.call 13 [E.var 0, E.var 1]))) (E.lst [E.cst (PV.str [101, 110, 100])]) (E.lst [])]))]⟩
def fn15 : Fn :=
  ⟨2, 6, [], [S.asg (T.tup [T.nm 2, T.nm 3, T.nm 4, T.nm 5]) (E.var 0),
           S.ite
             (E.pr (Pr.eq) [E.var 1, E.cst (PV.str [116, 97, 107, 101])])
             [S.ret (some (E.tup [E.pr (Pr.add) [E.var 2, E.cst (PV.int 1)], E.var 3, E.var 4, E.var 5]))]
             [],
           S.ite
             (E.pr (Pr.eq) [E.var 1, E.cst (PV.str [119, 111, 114, 107])])
             [S.ret (some (E.tup [E.pr (Pr.sub) [E.var 2, E.cst (PV.int 1)], E.pr (Pr.add) [E.var 3, E.cst (PV.int 1)], E.var 4, E.var 5]))]
             [],
           S.ite
             (E.pr (Pr.eq) [E.var 1, E.cst (PV.str [114, 101, 115, 116])])
             [S.ret (some (E.tup [E.pr (Pr.add) [E.var 2, E.cst (PV.int 1)], E.pr (Pr.sub) [E.var 3, E.cst (PV.int 1)], E.var 4, E.var 5]))]
             [],
           S.ite
             (E.pr (Pr.eq) [E.var 1, E.cst (PV.str [103, 105, 118, 101])])
             [S.ret (some (E.tup [E.pr (Pr.sub) [E.var 2, E.cst (PV.int 1)], E.var 3, E.var 4, E.var 5]))]
             [],
           S.ret
             (some (E.ite
                (E.pr (Pr.eq) [E.var 1, E.cst (PV.str [108, 101, 97, 118, 101])])
                (E.tup [E.var 2, E.var 3, E.cst (PV.bl false), E.var 5])
                (E.tup [E.var 2, E.var 3, E.var 4, E.cst (PV.bl false)])))]⟩
def fn16 : Fn :=
  ⟨1, 9, [], [S.asg (T.nm 1) (E.tup [E.cst (PV.int 0), E.cst (PV.int 0), E.cst (PV.bl true), E.cst (PV.bl true)]),
           S.par [T.nm 2, T.nm 3, T.nm 4] [E.dct [E.var 1, E.cst (PV.int 0)], E.lst [E.var 1], E.cst (PV.non)],
           S.for_
             (T.nm 5)
             (It.rng [E.cst (PV.int 200)])
             [S.ite
                (E.pr (Pr.lt) [E.var 5, E.pr (Pr.len) [E.var 3]])
                [S.asg (T.nm 6) (E.pr (Pr.ix) [E.var 3, E.var 5]),
                 S.ite
                   (E.and_
                     (E.pr (Pr.gt) [E.pr (Pr.ix) [E.var 6, E.cst (PV.int 1)], E.cst (PV.int 0)])
                     (E.not_ (E.pr (Pr.ix) [E.var 6, E.cst (PV.int 3)])))
                   [S.asg (T.nm 4) (E.ite (E.pr (Pr.isN) [E.var 4]) (E.pr (Pr.ix) [E.var 2, E.var 6]) (E.var 4))]
                   [],
                 S.for_
                   (T.nm 7)
                   (It.of (E.call 14 [E.var 0, E.var 6]))
                   [S.asg (T.nm 8) (E.call 15 [E.var 6, E.var 7]),
                    S.ite
                      (E.pr (Pr.nmem) [E.var 8, E.var 2])
                      [S.setS 2 (E.var 8) (E.pr (Pr.add) [E.pr (Pr.ix) [E.var 2, E.var 6], E.cst (PV.int 1)]), S.ex (E.bm 3 (Bm.append) [E.var 8])]
                      []]]
                []],
           S.ret (some (E.tup [E.var 2, E.var 4]))]⟩
def fn17 : Fn :=
  ⟨2, 6, [], [S.asg
             (T.nm 2)
             (E.lc
               [3]
               (T.nm 3)
               (It.of (E.var 1))
               [E.and_
                  (E.not_ (E.pr (Pr.ix) [E.var 3, E.cst (PV.int 2)]))
                  (E.and_ (E.pr (Pr.ix) [E.var 3, E.cst (PV.int 3)]) (E.not_ (E.call 13 [E.var 0, E.var 3])))]
               (E.var 3)),
           S.for_
             (T.nm 4)
             (It.rng [E.pr (Pr.add) [E.pr (Pr.len) [E.var 2], E.cst (PV.int 1)]])
             [S.asg
                (T.nm 2)
                (E.lc
                  [3]
                  (T.nm 3)
                  (It.of (E.var 2))
                  [E.pr (Pr.any1) [E.lc [5] (T.nm 5) (It.of (E.call 14 [E.var 0, E.var 3])) [] (E.pr (Pr.mem) [E.call 15 [E.var 3, E.var 5], E.var 2])]]
                  (E.var 3))],
           S.ret (some (E.pr (Pr.ne) [E.var 2, E.lst []]))]⟩
def fn18 : Fn :=
  ⟨3, 6, [], [S.asg (T.nm 3) (E.tup [E.cst (PV.int 0), E.cst (PV.int 0), E.cst (PV.bl true), E.cst (PV.bl true)]),
           S.for_
             (T.nm 4)
             (It.of (E.var 1))
             [S.ite (E.pr (Pr.nmem) [E.var 4, E.call 14 [E.var 0, E.var 3]]) [S.ret (some (E.cst (PV.bl false)))] [],
              S.asg (T.nm 3) (E.call 15 [E.var 3, E.var 4])],
           S.asg (T.nm 5) (E.var 3),
           S.for_
             (T.nm 4)
             (It.of (E.var 2))
             [S.ite
                (E.or_
                  (E.pr (Pr.ix) [E.var 3, E.cst (PV.int 2)])
                  (E.or_
                    (E.not_ (E.pr (Pr.ix) [E.var 3, E.cst (PV.int 3)]))
                    (E.or_ (E.call 13 [E.var 0, E.var 3]) (E.pr (Pr.nmem) [E.var 4, E.call 14 [E.var 0, E.var 3]]))))
                [S.ret (some (E.cst (PV.bl false)))]
                [],
              S.asg (T.nm 3) (E.call 15 [E.var 3, E.var 4])],
           S.ret (some (E.and_ (E.pr (Pr.gt) [E.pr (Pr.len) [E.var 2], E.cst (PV.int 0)]) (E.pr (Pr.eq) [E.var 3, E.var 5])))]⟩
def fn19 : Fn :=
  ⟨3, 13, [true], [S.asg
             (T.tup [T.nm 3, T.tup [T.nm 4, T.nm 5]])
             (E.tup [E.tup [E.cst (PV.int 0), E.cst (PV.int 0), E.cst (PV.bl true), E.cst (PV.bl true)], E.call 16 [E.var 1]]),
           S.ite (E.pr (Pr.ne) [E.meth 9 (E.var 2) [], E.var 3]) [S.ret (some (E.cst (PV.bl false)))] [],
           S.asg (T.nm 6) (E.lst []),
           S.for_
             (T.nm 7)
             (It.rng [E.cst (PV.int 10)])
             [S.asg (T.nm 8) (E.call 14 [E.var 1, E.var 3]),
              S.ite
                (E.or_
                  (E.pr (Pr.ne) [E.pr (Pr.sorted1) [E.meth 7 (E.var 2) [E.var 3]], E.pr (Pr.sorted1) [E.var 8]])
                  (E.or_
                    (E.pr
                      (Pr.any1)
                      [E.lc [9] (T.nm 9) (It.of (E.var 8)) [] (E.pr (Pr.ne) [E.meth 12 (E.var 2) [E.var 3, E.var 9], E.call 15 [E.var 3, E.var 9]])])
                    (E.or_
                      (E.pr
                        (Pr.ne)
                        [E.meth 10 (E.var 2) [E.var 3],
                         E.and_
                           (E.pr (Pr.gt) [E.pr (Pr.ix) [E.var 3, E.cst (PV.int 1)], E.cst (PV.int 0)])
                           (E.not_ (E.pr (Pr.ix) [E.var 3, E.cst (PV.int 3)]))])
                      (E.pr (Pr.ne) [E.meth 11 (E.var 2) [E.var 3], E.call 13 [E.var 1, E.var 3]]))))
                [S.ret (some (E.cst (PV.bl false)))]
                [],
              S.ite
                (E.pr (Pr.ne) [E.var 8, E.lst []])
                [S.ex (E.bm 6 (Bm.append) [E.call 12 [E.var 0, E.var 8]]),
                 S.asg (T.nm 3) (E.call 15 [E.var 3, E.pr (Pr.ix) [E.var 6, E.pr (Pr.neg) [E.cst (PV.int 1)]]])]
                []],
           S.par [T.nm 10, T.nm 11] [E.call 3 [E.var 2], E.call 5 [E.var 2]],
           S.ite
             (E.or_
               (E.pr (Pr.ne) [E.pr (Pr.bool1) [E.var 10], E.pr (Pr.isN) [E.var 5]])
               (E.or_
                 (E.not_ (E.meth 13 (E.var 10) [E.var 2]))
                 (E.or_ (E.pr (Pr.eq) [E.pr (Pr.bool1) [E.var 11], E.call 17 [E.var 1, E.var 4]]) (E.not_ (E.meth 13 (E.var 11) [E.var 2])))))
             [S.ret (some (E.cst (PV.bl false)))]
             [],
           S.ite
             (E.and_
               (E.pr (Pr.isN) [E.var 5])
               (E.or_
                 (E.pr (Pr.ne) [E.var 10, E.mk 1 [E.pr (Pr.len) [E.var 4]]])
                 (E.or_
                   (E.meth 13 (E.mk 1 [E.pr (Pr.add) [E.pr (Pr.len) [E.var 4], E.cst (PV.int 1)]]) [E.var 2])
                   (E.meth 13 (E.mk 2 [E.var 6]) [E.var 2]))))
             [S.ret (some (E.cst (PV.bl false)))]
             [],
           S.ite
             (E.and_
               (E.pr (Pr.notN) [E.var 5])
               (E.or_
                 (E.pr (Pr.ne) [E.pr (Pr.len) [E.fld (E.var 10) 7], E.var 5])
                 (E.or_
                   (E.meth 13 (E.mk 2 [E.pr (Pr.sll false true) [E.fld (E.var 10) 7, E.pr (Pr.neg) [E.cst (PV.int 1)]]]) [E.var 2])
                   (E.or_ (E.meth 13 (E.mk 1 [E.pr (Pr.len) [E.var 4]]) [E.var 2]) (E.meth 13 (E.mk 2 [E.tup [E.cst (PV.non)]]) [E.var 2])))))
             [S.ret (some (E.cst (PV.bl false)))]
             [],
           S.ite
             (E.and_
               (E.var 11)
               (E.or_
                 (E.pr (Pr.ne) [E.var 11, E.mk 3 []])
                 (E.meth 13 (E.mk 4 [E.var 6, E.tup [E.cst (PV.str [116, 97, 107, 101]), E.cst (PV.str [103, 105, 118, 101])]]) [E.var 2])))
             [S.ret (some (E.cst (PV.bl false)))]
             [],
           S.ite
             (E.and_ (E.not_ (E.var 11)) (E.or_ (E.not_ (E.call 18 [E.var 1, E.fld (E.var 11) 7, E.fld (E.var 11) 8])) (E.meth 13 (E.mk 3 []) [E.var 2])))
             [S.ret (some (E.cst (PV.bl false)))]
             [],
           S.asg
             (T.nm 12)
             (E.call
               12
               [E.var 0,
                E.lst
                  [E.tup [E.cst (PV.str [116, 97, 107, 101]), E.cst (PV.str [103, 105, 118, 101])],
                   E.tup [E.cst (PV.str [119, 111, 114, 107]), E.cst (PV.str [114, 101, 115, 116])],
                   E.tup [E.cst (PV.str [114, 101, 115, 116]), E.cst (PV.str [119, 111, 114, 107])],
                   E.tup [],
                   E.tup [E.cst (PV.str [103, 105, 118, 101]), E.cst (PV.str [116, 97, 107, 101])]]]),
           S.ret
             (some (E.and_
                (E.pr (Pr.eq) [E.meth 13 (E.mk 4 [E.var 6, E.var 12]) [E.var 2], E.call 18 [E.var 1, E.var 6, E.var 12]])
                (E.not_ (E.meth 13 (E.mk 4 [E.var 6, E.tup [E.cst (PV.non)]]) [E.var 2]))))]⟩
def fn20 : Fn :=
  ⟨1, 20, [], [S.asg (T.nm 1) (E.lst [E.var 0, E.cst (PV.int 0)]),
           S.asg (T.nm 2) (E.dct []),
           S.for_
             (T.nm 3)
             (It.rng [E.cst (PV.int 1), E.cst (PV.int 5)])
             [S.for_
                (T.nm 4)
                (It.of (E.tup [E.cst (PV.bl false), E.cst (PV.bl true)]))
                [S.for_
                   (T.nm 5)
                   (It.of (E.tup [E.cst (PV.bl false), E.cst (PV.bl true)]))
                   [S.for_
                      (T.nm 6)
                      (It.of (E.tup [E.cst (PV.bl false), E.cst (PV.bl true)]))
                      [S.par [T.nm 7, T.nm 8] [E.tup [E.var 3, E.var 4, E.var 5, E.var 6], E.mk 0 [E.var 3, E.var 4, E.var 5, E.var 6]],
                       S.ite (E.not_ (E.call 19 [E.var 1, E.var 7, E.var 8])) [S.ret (some (E.cst (PV.bl false)))] [],
                       S.asg (T.nm 9) (E.call 16 [E.var 7]),
                       S.asg
                         (T.nm 10)
                         (E.pr
                           (Pr.tuple1)
                           [E.lc
                              [11, 12]
                              (T.tup [T.nm 11, T.nm 12])
                              (It.of
                                (E.tup
                                  [E.tup [E.cst (PV.str [104, 101, 108, 100]), E.var 4],
                                   E.tup [E.cst (PV.str [109, 97, 114, 107, 101, 100]), E.var 5],
                                   E.tup [E.cst (PV.str [119, 97, 105, 116, 115]), E.var 6]]))
                              [E.var 12]
                              (E.var 11)]),
                       S.setS
                         2
                         (E.tup [E.var 3, E.var 10])
                         (E.and_
                           (E.pr (Pr.isN) [E.pr (Pr.ix) [E.var 9, E.cst (PV.int 1)]])
                           (E.not_ (E.call 17 [E.var 7, E.pr (Pr.ix) [E.var 9, E.cst (PV.int 0)]])))]]],
              S.asg
                (T.nm 13)
                (E.lst
                  [E.tup [],
                   E.tup [E.cst (PV.str [104, 101, 108, 100])],
                   E.tup [E.cst (PV.str [109, 97, 114, 107, 101, 100])],
                   E.tup [E.cst (PV.str [119, 97, 105, 116, 115])],
                   E.tup [E.cst (PV.str [104, 101, 108, 100]), E.cst (PV.str [109, 97, 114, 107, 101, 100])],
                   E.tup [E.cst (PV.str [104, 101, 108, 100]), E.cst (PV.str [119, 97, 105, 116, 115])],
                   E.tup [E.cst (PV.str [109, 97, 114, 107, 101, 100]), E.cst (PV.str [119, 97, 105, 116, 115])],
                   E.tup [E.cst (PV.str [104, 101, 108, 100]), E.cst (PV.str [109, 97, 114, 107, 101, 100]), E.cst (PV.str [119, 97, 105, 116, 115])]]),
              S.asg (T.nm 14) (E.lc [10] (T.nm 10) (It.of (E.var 13)) [E.pr (Pr.ix) [E.var 2, E.tup [E.var 3, E.var 10]]] (E.var 10)),
              S.ite
                (E.pr
                  (Pr.ne)
                  [E.lc [10] (T.nm 10) (It.of (E.call 7 [E.var 3])) [] (E.pr (Pr.tuple1) [E.var 10]),
                   E.lc
                     [10]
                     (T.nm 10)
                     (It.of (E.var 14))
                     [E.not_
                        (E.pr
                          (Pr.any1)
                          [E.lc
                             [16]
                             (T.nm 16)
                             (It.of (E.var 14))
                             []
                             (E.and_
                               (E.pr (Pr.ne) [E.var 16, E.var 10])
                               (E.pr (Pr.all1) [E.lc [15] (T.nm 15) (It.of (E.var 16)) [] (E.pr (Pr.mem) [E.var 15, E.var 10])]))])]
                     (E.var 10)])
                [S.ret (some (E.cst (PV.bl false)))]
                []],
           S.for_
             (T.tup [T.nm 17, T.nm 18])
             (It.of
               (E.tup
                 [E.tup [E.tup [E.cst (PV.int 0), E.cst (PV.bl true), E.cst (PV.bl true), E.cst (PV.bl true)], E.cst (PV.str [117, 115, 101, 114, 115])],
                  E.tup [E.tup [E.cst (PV.int 5), E.cst (PV.bl true), E.cst (PV.bl true), E.cst (PV.bl true)], E.cst (PV.str [117, 115, 101, 114, 115])],
                  E.tup [E.tup [E.cst (PV.bl true), E.cst (PV.bl true), E.cst (PV.bl true), E.cst (PV.bl true)], E.cst (PV.str [117, 115, 101, 114, 115])],
                  E.tup [E.tup [E.cst (PV.int 1), E.cst (PV.int 1), E.cst (PV.bl true), E.cst (PV.bl true)], E.cst (PV.str [104, 101, 108, 100])],
                  E.tup [E.tup [E.cst (PV.int 1), E.cst (PV.bl true), E.cst (PV.non), E.cst (PV.bl true)], E.cst (PV.str [109, 97, 114, 107, 101, 100])],
                  E.tup [E.tup [E.cst (PV.int 1), E.cst (PV.bl true), E.cst (PV.bl true), E.cst (PV.int 0)], E.cst (PV.str [119, 97, 105, 116, 115])]]))
             [S.tri
                [S.ex
                   (E.mk
                     0
                     [E.pr (Pr.ix) [E.var 17, E.cst (PV.int 0)],
                      E.pr (Pr.ix) [E.var 17, E.cst (PV.int 1)],
                      E.pr (Pr.ix) [E.var 17, E.cst (PV.int 2)],
                      E.pr (Pr.ix) [E.var 17, E.cst (PV.int 3)]]),
                 S.ret (some (E.cst (PV.bl false)))]
                [([1000], some 19, XS.ifr (X.ne (X.fld 1) (X.var 18)) (X.cst (PV.bl false)))]],
           S.tri
             [S.ex (E.call 3 [E.cst (PV.int 3)]), S.ret (some (E.cst (PV.bl false)))]
             [([1000], some 19, XS.ret (X.eq (X.fld 1) (X.cst (PV.str [104, 97, 110, 100, 108, 101, 115]))))]]⟩
def fn21 : Fn :=
  ⟨5, 7, [true], [S.ite (E.not_ (E.call 1 [E.var 1, E.cst (PV.int 1), E.cst (PV.int 4)])) [S.rse 1000 [E.cst (PV.str [117, 115, 101, 114, 115])]] [],
           S.for_
             (T.tup [T.nm 5, T.nm 6])
             (It.of
               (E.tup
                 [E.tup [E.cst (PV.str [104, 101, 108, 100]), E.var 2],
                  E.tup [E.cst (PV.str [109, 97, 114, 107, 101, 100]), E.var 3],
                  E.tup [E.cst (PV.str [119, 97, 105, 116, 115]), E.var 4]]))
             [S.ite (E.not_ (E.pr (Pr.isi [] [1]) [E.var 6])) [S.rse 1000 [E.var 5]] []],
           S.setF 0 2 (E.var 1),
           S.setF 0 3 (E.var 2),
           S.setF 0 4 (E.var 3),
           S.setF 0 5 (E.var 4)]⟩
def fn22 : Fn :=
  ⟨2, 2, [], [S.ite (E.not_ (E.pr (Pr.isi [0] []) [E.var 1])) [S.ret (some (E.cst (PV.bl false)))] [],
           S.ite (E.pr (Pr.ne) [E.fld (E.var 0) 2, E.fld (E.var 1) 2]) [S.ret (some (E.cst (PV.bl false)))] [],
           S.ret
             (some (E.pr
                (Pr.eq)
                [E.tup [E.fld (E.var 0) 3, E.fld (E.var 0) 4, E.fld (E.var 0) 5], E.tup [E.fld (E.var 1) 3, E.fld (E.var 1) 4, E.fld (E.var 1) 5]]))]⟩
def fn23 : Fn :=
  ⟨1, 1, [], [S.ret (some (E.tup [E.cst (PV.int 0), E.cst (PV.int 0), E.cst (PV.bl true), E.cst (PV.bl true)]))]⟩
def fn24 : Fn :=
  ⟨2, 8, [], [S.asg (T.tup [T.nm 2, T.nm 3, T.nm 4, T.nm 5]) (E.var 1),
           S.par [T.nm 6, T.nm 7] [E.or_ (E.var 4) (E.not_ (E.fld (E.var 0) 4)), E.lst []],
           S.ite
             (E.and_ (E.pr (Pr.lt) [E.pr (Pr.add) [E.var 2, E.var 3], E.fld (E.var 0) 2]) (E.and_ (E.var 5) (E.var 6)))
             [S.ex (E.bm 7 (Bm.append) [E.cst (PV.str [116, 97, 107, 101])])]
             [],
           S.ite (E.and_ (E.pr (Pr.gt) [E.var 2, E.cst (PV.int 0)]) (E.var 6)) [S.ex (E.bm 7 (Bm.append) [E.cst (PV.str [119, 111, 114, 107])])] [],
           S.ite (E.pr (Pr.gt) [E.var 3, E.cst (PV.int 0)]) [S.ex (E.bm 7 (Bm.append) [E.cst (PV.str [114, 101, 115, 116])])] [],
           S.ite (E.pr (Pr.gt) [E.var 2, E.cst (PV.int 0)]) [S.ex (E.bm 7 (Bm.append) [E.cst (PV.str [103, 105, 118, 101])])] [],
           S.ite (E.var 4) [S.ex (E.bm 7 (Bm.append) [E.cst (PV.str [108, 101, 97, 118, 101])])] [],
           S.ite
             (E.and_ (E.not_ (E.var 4)) (E.and_ (E.var 5) (E.meth 11 (E.var 0) [E.var 1])))
             [S.ex (E.bm 7 (Bm.append) [E.cst (PV.str [101, 110, 100])])]
             [],
           S.ret (some (E.var 7))]⟩
def fn25 : Fn :=
  ⟨2, 2, [], [S.ite
             (E.fld (E.var 0) 3)
             [S.ret
                (some (E.pr
                   (Pr.eq)
                   [E.pr (Pr.add) [E.pr (Pr.ix) [E.var 1, E.cst (PV.int 0)], E.pr (Pr.ix) [E.var 1, E.cst (PV.int 1)]], E.cst (PV.int 0)]))]
             [],
           S.ret (some (E.ite (E.fld (E.var 0) 5) (E.pr (Pr.eq) [E.pr (Pr.ix) [E.var 1, E.cst (PV.int 1)], E.cst (PV.int 0)]) (E.cst (PV.bl true))))]⟩
def fn26 : Fn :=
  ⟨3, 7, [], [S.asg (T.tup [T.nm 3, T.nm 4, T.nm 5, T.nm 6]) (E.var 1),
           S.ite
             (E.pr (Pr.eq) [E.var 2, E.cst (PV.str [116, 97, 107, 101])])
             [S.ret (some (E.tup [E.pr (Pr.add) [E.var 3, E.cst (PV.int 1)], E.var 4, E.var 5, E.var 6]))]
             [],
           S.ite
             (E.pr (Pr.eq) [E.var 2, E.cst (PV.str [119, 111, 114, 107])])
             [S.ret (some (E.tup [E.pr (Pr.sub) [E.var 3, E.cst (PV.int 1)], E.pr (Pr.add) [E.var 4, E.cst (PV.int 1)], E.var 5, E.var 6]))]
             [],
           S.ite
             (E.pr (Pr.eq) [E.var 2, E.cst (PV.str [114, 101, 115, 116])])
             [S.ret (some (E.tup [E.pr (Pr.add) [E.var 3, E.cst (PV.int 1)], E.pr (Pr.sub) [E.var 4, E.cst (PV.int 1)], E.var 5, E.var 6]))]
             [],
           S.ite
             (E.pr (Pr.eq) [E.var 2, E.cst (PV.str [103, 105, 118, 101])])
             [S.ret (some (E.tup [E.pr (Pr.sub) [E.var 3, E.cst (PV.int 1)], E.var 4, E.var 5, E.var 6]))]
             [],
           S.ret
             (some (E.ite
                (E.pr (Pr.eq) [E.var 2, E.cst (PV.str [108, 101, 97, 118, 101])])
                (E.tup [E.var 3, E.var 4, E.cst (PV.bl false), E.var 6])
                (E.tup [E.var 3, E.var 4, E.var 5, E.cst (PV.bl false)])))]⟩
def fn27 : Fn :=
  ⟨2, 2, [], [S.ret
             (some (E.and_
                (E.pr (Pr.gt) [E.pr (Pr.ix) [E.var 1, E.cst (PV.int 1)], E.cst (PV.int 0)])
                (E.not_ (E.pr (Pr.ix) [E.var 1, E.cst (PV.int 3)]))))]⟩
def fn28 : Fn :=
  ⟨2, 2, [true], [S.setF 0 6 (E.var 1)]⟩
def fn29 : Fn :=
  ⟨1, 1, [], [S.ret (some (E.cst (PV.bl true)))]⟩
def fn30 : Fn :=
  ⟨2, 2, [], [S.ret (some (E.and_ (E.pr (Pr.isi [1] []) [E.var 1]) (E.pr (Pr.eq) [E.fld (E.var 0) 6, E.fld (E.var 1) 6])))]⟩
def fn31 : Fn :=
  ⟨2, 2, [], [S.ret (some (E.pr (Pr.eq) [E.call 3 [E.var 1], E.var 0]))]⟩
def fn32 : Fn :=
  ⟨2, 2, [true], [S.setF 0 7 (E.pr (Pr.tuple1) [E.var 1])]⟩
def fn33 : Fn :=
  ⟨1, 1, [], [S.ret (some (E.cst (PV.bl false)))]⟩
def fn34 : Fn :=
  ⟨2, 2, [], [S.ret (some (E.and_ (E.pr (Pr.isi [2] []) [E.var 1]) (E.pr (Pr.eq) [E.fld (E.var 0) 7, E.fld (E.var 1) 7])))]⟩
def fn35 : Fn :=
  ⟨2, 4, [], [S.ex (E.call 2 [E.var 1]),
           S.asg (T.nm 2) (E.meth 9 (E.var 1) []),
           S.for_
             (T.nm 3)
             (It.of (E.fld (E.var 0) 7))
             [S.ite (E.or_ (E.pr (Pr.nmem) [E.var 3, E.meth 7 (E.var 1) [E.var 2]]) (E.meth 10 (E.var 1) [E.var 2])) [S.ret (some (E.cst (PV.bl false)))] [],
              S.asg (T.nm 2) (E.meth 12 (E.var 1) [E.var 2, E.var 3])],
           S.ret
             (some (E.and_
                (E.meth 10 (E.var 1) [E.var 2])
                (E.pr (Pr.eq) [E.pr (Pr.len) [E.fld (E.var 0) 7], E.pr (Pr.len) [E.fld (E.call 3 [E.var 1]) 7]])))]⟩
def fn36 : Fn :=
  ⟨1, 1, [], [S.ret (some (E.cst (PV.bl true)))]⟩
def fn37 : Fn :=
  ⟨2, 2, [], [S.ret (some (E.pr (Pr.isi [3] []) [E.var 1]))]⟩
def fn38 : Fn :=
  ⟨2, 2, [], [S.ret (some (E.pr (Pr.bool1) [E.call 5 [E.var 1]]))]⟩
def fn39 : Fn :=
  ⟨3, 3, [true], [S.setF 0 7 (E.pr (Pr.tuple1) [E.var 1]), S.setF 0 8 (E.pr (Pr.tuple1) [E.var 2])]⟩
def fn40 : Fn :=
  ⟨1, 1, [], [S.ret (some (E.cst (PV.bl false)))]⟩
def fn41 : Fn :=
  ⟨2, 2, [], [S.ret
             (some (E.and_
                (E.pr (Pr.isi [4] []) [E.var 1])
                (E.pr (Pr.eq) [E.tup [E.fld (E.var 0) 7, E.fld (E.var 0) 8], E.tup [E.fld (E.var 1) 7, E.fld (E.var 1) 8]])))]⟩
def fn42 : Fn :=
  ⟨2, 5, [], [S.ex (E.call 2 [E.var 1]),
           S.asg (T.nm 2) (E.meth 9 (E.var 1) []),
           S.for_
             (T.nm 3)
             (It.of (E.fld (E.var 0) 7))
             [S.ite (E.pr (Pr.nmem) [E.var 3, E.meth 7 (E.var 1) [E.var 2]]) [S.ret (some (E.cst (PV.bl false)))] [],
              S.asg (T.nm 2) (E.meth 12 (E.var 1) [E.var 2, E.var 3])],
           S.asg (T.nm 4) (E.var 2),
           S.ite (E.pr (Pr.eq) [E.fld (E.var 0) 8, E.tup []]) [S.ret (some (E.cst (PV.bl false)))] [],
           S.for_
             (T.nm 3)
             (It.of (E.fld (E.var 0) 8))
             [S.ite
                (E.or_ (E.pr (Pr.nmem) [E.var 3, E.meth 7 (E.var 1) [E.var 2]]) (E.not_ (E.call 4 [E.var 1, E.var 2])))
                [S.ret (some (E.cst (PV.bl false)))]
                [],
              S.asg (T.nm 2) (E.meth 12 (E.var 1) [E.var 2, E.var 3])],
           S.ret (some (E.pr (Pr.eq) [E.var 2, E.var 4]))]⟩
def tbl : List Fn := [fn0, fn1, fn2, fn3, fn4, fn5, fn6, fn7, fn8, fn9, fn10, fn11, fn12, fn13, fn14, fn15, fn16, fn17, fn18, fn19, fn20, fn21, fn22, fn23, fn24, fn25, fn26, fn27, fn28, fn29, fn30, fn31, fn32, fn33, fn34, fn35, fn36, fn37, fn38, fn39, fn40, fn41, fn42]
def pgL : Pg := { g := D.g, fn := fun f => tbl[f]?, W := D.W }
theorem tbl_eq : D.fns.map (fun e => (D.comp e).map fun b => (⟨e.ps.length, e.N.length, e.io, b⟩ : Fn)) = tbl.map some := by kernel_rfl
theorem pg_eq : D.pg = pgL := by
  have h : ∀ f, D.pg.fn f = tbl[f]? := fun f => by
    have e : D.pg.fn f = (D.fns[f]?).bind fun e => (D.comp e).map fun b => (⟨e.ps.length, e.N.length, e.io, b⟩ : Fn) := rfl
    have e2 : (D.fns.map (fun e => (D.comp e).map fun b => (⟨e.ps.length, e.N.length, e.io, b⟩ : Fn)))[f]? = (tbl.map some)[f]? := by rw [tbl_eq]
    rw [List.getElem?_map, List.getElem?_map] at e2
    rw [e]
    cases h1 : D.fns[f]? with
    | none =>
      rw [h1] at e2
      cases h2 : tbl[f]? with
      | none => rfl
      | some x => rw [h2] at e2; cases e2
    | some x =>
      rw [h1] at e2
      cases h2 : tbl[f]? with
      | none => rw [h2] at e2; cases e2
      | some y =>
        rw [h2] at e2
        exact Option.some.inj e2
  show Pg.mk D.g D.pg.fn D.W = Pg.mk D.g (fun f => tbl[f]?) D.W
  rw [funext h]
end K45

set_option Elab.async false
set_option linter.all false
set_option maxRecDepth 100000
set_option maxHeartbeats 1000000
open Ev
namespace K45
theorem gmt : D.g.meth 7 0 = some 24 ∧ D.g.meth 9 0 = some 23 ∧ D.g.meth 10 0 = some 27 ∧ D.g.meth 11 0 = some 25 ∧ D.g.meth 12 0 = some 26 ∧ D.g.meth 13 1 = some 31 ∧ D.g.meth 13 2 = some 35 ∧ D.g.meth 13 3 = some 38 ∧ D.g.meth 13 4 = some 42 := by
  refine ⟨?_, ?_, ?_, ?_, ?_, ?_, ?_, ?_, ?_⟩ <;> kernel_rfl
theorem gio : D.g.io 2 = [] ∧ D.g.io 3 = [] ∧ D.g.io 4 = [] ∧ D.g.io 5 = [] ∧ D.g.io 13 = [] ∧ D.g.io 14 = [] ∧ D.g.io 15 = [] ∧ D.g.io 16 = [] ∧ D.g.io 17 = [] ∧ D.g.io 18 = [] ∧ D.g.io 23 = [] ∧ D.g.io 24 = [] ∧ D.g.io 25 = [] ∧ D.g.io 26 = [] ∧ D.g.io 27 = [] ∧ D.g.io 31 = [] ∧ D.g.io 35 = [] ∧ D.g.io 38 = [] ∧ D.g.io 42 = [] := by
  refine ⟨?_, ?_, ?_, ?_, ?_, ?_, ?_, ?_, ?_, ?_, ?_, ?_, ?_, ?_, ?_, ?_, ?_, ?_, ?_⟩ <;> kernel_rfl
theorem fok : D.g.fok 0 0 = true ∧ D.g.fok 0 2 = true ∧ D.g.fok 0 3 = true ∧ D.g.fok 0 4 = true ∧ D.g.fok 0 5 = true ∧ D.g.fok 1 0 = true ∧ D.g.fok 1 6 = true ∧ D.g.fok 2 0 = true ∧ D.g.fok 2 7 = true ∧ D.g.fok 3 0 = true ∧ D.g.fok 4 0 = true ∧ D.g.fok 4 7 = true ∧ D.g.fok 4 8 = true := by
  refine ⟨?_, ?_, ?_, ?_, ?_, ?_, ?_, ?_, ?_, ?_, ?_, ?_, ?_⟩ <;> kernel_rfl
abbrev hnd (u : Int) (h m w : Bool) : PV := .ins 0 [(2, .int u), (3, .bl h), (4, .bl m), (5, .bl w)]
abbrev rul (u : Int) (h m w : Bool) : PV := .tup [.int u, .bl h, .bl m, .bl w]
abbrev st (a b : Int) (t k : Bool) : PV := .tup [.int a, .int b, .bl t, .bl k]
abbrev s0 : PV := st 0 0 true true
abbrev sl (p : PV) : Option (PV × Bool) := some (p, false)
abbrev so (p : PV) : Option (PV × Bool) := some (p, true)
abbrev take_ : PV := .str [116, 97, 107, 101]
abbrev work_ : PV := .str [119, 111, 114, 107]
abbrev rest_ : PV := .str [114, 101, 115, 116]
abbrev give_ : PV := .str [103, 105, 118, 101]
abbrev leave_ : PV := .str [108, 101, 97, 118, 101]
abbrev end_ : PV := .str [101, 110, 100]
def on (c : Bool) (p : PV) : List PV := if c then [p] else []
def mvB (c1 c2 c3 c4 c5 c6 : Bool) : List PV := ((((on c1 take_ ++ on c2 work_) ++ on c3 rest_) ++ on c4 give_) ++ on c5 leave_) ++ on c6 end_
def meF (h w : Bool) (a b : Int) : Bool := if h then decide (a + b = 0) else if w then decide (b = 0) else true
def mvF (u : Int) (h m w : Bool) (a b : Int) (t k : Bool) : List PV := mvB (decide (a + b < u) && (k && (t || !m))) (decide (0 < a) && (t || !m)) (decide (0 < b)) (decide (0 < a)) t (!t && (k && meF h w a b))
theorem on_len (c : Bool) (p : PV) : (on c p).length ≤ 1 := by cases c <;> simp [on]
section
variable {cl : FC} {W : Nat} {u a b : Int} {h m w t k : Bool}
theorem f23 : runF pgL cl 23 [hnd u h m w] = .rt s0 false [] := by kernel_rfl
theorem f2 : runF pgL cl 2 [hnd u h m w] = .rt .non false [] := by kernel_rfl
theorem f13 : runF pgL cl 13 [rul u h m w, st a b t k] = .rt (.bl (meF h w a b)) false [] := by
  show endF [] (exSs D.g cl D.W fn13.body [sl (rul u h m w), sl (st a b t k), none, none, none, none, none, none, none, none]) = _
  cases h <;> cases w <;> simp [fn13, meF, exSs, exS, ev, evs, fin, sget0, sgetS, val, vals, O.bd, O.so, SO.sq, callO, ioS, frzA, sput0, sputS, putS, primO, prim, List.lookup, truthO, truth0, use, asI, disp, starL, isStar, int2, cmpV, gio, gmt, eqV2, plain, pl, pls, bindT, bindTs, eqv, eqvs, addV, ixV, L2.atI, L2.ixN, bmO, bindO, bindOs, uses, endF, outV, fok]
theorem f25 : runF pgL cl 25 [hnd u h m w, st a b t k] = .rt (.bl (meF h w a b)) false [] := by
  show endF [] (exSs D.g cl D.W fn25.body [sl (hnd u h m w), sl (st a b t k)]) = _
  cases h <;> cases w <;> simp [fn25, meF, exSs, exS, ev, evs, fin, sget0, sgetS, val, vals, O.bd, O.so, SO.sq, callO, ioS, frzA, sput0, sputS, putS, primO, prim, List.lookup, truthO, truth0, use, asI, disp, starL, isStar, int2, cmpV, gio, gmt, eqV2, plain, pl, pls, bindT, bindTs, eqv, eqvs, addV, ixV, L2.atI, L2.ixN, bmO, bindO, bindOs, uses, endF, outV, fok]
theorem f27 : runF pgL cl 27 [hnd u h m w, st a b t k] = .rt (.bl (decide (0 < b) && !k)) false [] := by
  show endF [] (exSs D.g cl D.W fn27.body [sl (hnd u h m w), sl (st a b t k)]) = _
  by_cases hb : 0 < b <;> cases k <;> simp [fn27, hb, exSs, exS, ev, evs, fin, sget0, sgetS, val, vals, O.bd, O.so, SO.sq, callO, ioS, frzA, sput0, sputS, putS, primO, prim, List.lookup, truthO, truth0, use, asI, disp, starL, isStar, int2, cmpV, gio, gmt, eqV2, plain, pl, pls, bindT, bindTs, eqv, eqvs, addV, ixV, L2.atI, L2.ixN, bmO, bindO, bindOs, uses, endF, outV, fok]
theorem f4 (h25 : cl 25 [hnd u h m w, st a b t k] = .rt (.bl (meF h w a b)) false []) : runF pgL cl 4 [hnd u h m w, st a b t k] = .rt (.bl (!t && (k && !meF h w a b))) false [] := by
  show endF [] (exSs D.g cl D.W fn4.body [sl (hnd u h m w), sl (st a b t k)]) = _
  generalize meF h w a b = me at *
  cases t <;> cases k <;> cases me <;> simp [fn4, h25, exSs, exS, ev, evs, fin, sget0, sgetS, val, vals, O.bd, O.so, SO.sq, callO, ioS, frzA, sput0, sputS, putS, primO, prim, List.lookup, truthO, truth0, use, asI, disp, starL, isStar, int2, cmpV, gio, gmt, eqV2, plain, pl, pls, bindT, bindTs, eqv, eqvs, addV, ixV, L2.atI, L2.ixN, bmO, bindO, bindOs, uses, endF, outV, fok]
def bhF (a b : Int) (t k : Bool) (x : List Nat) : PV :=
  if x = [116, 97, 107, 101] then st (a + 1) b t k
  else if x = [119, 111, 114, 107] then st (a - 1) (b + 1) t k
  else if x = [114, 101, 115, 116] then st (a + 1) (b - 1) t k
  else if x = [103, 105, 118, 101] then st (a - 1) b t k
  else if x = [108, 101, 97, 118, 101] then st a b false k
  else st a b t false
theorem b15_take : runF pgL cl 15 [st a b t k, .str [116, 97, 107, 101]] = .rt (st (a + 1) b t k) false [] := by kernel_rfl
theorem b26_take : runF pgL cl 26 [hnd u h m w, st a b t k, .str [116, 97, 107, 101]] = .rt (st (a + 1) b t k) false [] := by kernel_rfl
theorem b15_work : runF pgL cl 15 [st a b t k, .str [119, 111, 114, 107]] = .rt (st (a - 1) (b + 1) t k) false [] := by kernel_rfl
theorem b26_work : runF pgL cl 26 [hnd u h m w, st a b t k, .str [119, 111, 114, 107]] = .rt (st (a - 1) (b + 1) t k) false [] := by kernel_rfl
theorem b15_rest : runF pgL cl 15 [st a b t k, .str [114, 101, 115, 116]] = .rt (st (a + 1) (b - 1) t k) false [] := by kernel_rfl
theorem b26_rest : runF pgL cl 26 [hnd u h m w, st a b t k, .str [114, 101, 115, 116]] = .rt (st (a + 1) (b - 1) t k) false [] := by kernel_rfl
theorem b15_give : runF pgL cl 15 [st a b t k, .str [103, 105, 118, 101]] = .rt (st (a - 1) b t k) false [] := by kernel_rfl
theorem b26_give : runF pgL cl 26 [hnd u h m w, st a b t k, .str [103, 105, 118, 101]] = .rt (st (a - 1) b t k) false [] := by kernel_rfl
theorem b15_leave : runF pgL cl 15 [st a b t k, .str [108, 101, 97, 118, 101]] = .rt (st a b false k) false [] := by kernel_rfl
theorem b26_leave : runF pgL cl 26 [hnd u h m w, st a b t k, .str [108, 101, 97, 118, 101]] = .rt (st a b false k) false [] := by kernel_rfl
theorem b15_end : runF pgL cl 15 [st a b t k, .str [101, 110, 100]] = .rt (st a b t false) false [] := by kernel_rfl
theorem b26_end : runF pgL cl 26 [hnd u h m w, st a b t k, .str [101, 110, 100]] = .rt (st a b t false) false [] := by kernel_rfl

/-! ### the moves -/
abbrev σ14 (u a b : Int) (h m w t k : Bool) (x y : Option (PV × Bool)) : Sl := [sl (rul u h m w), sl (st a b t k), sl (.int u), sl (.bl h), sl (.bl m), sl (.bl w), sl (.int a), sl (.int b), sl (.bl t), sl (.bl k), x, y]
theorem mv1 {o : Bool} {y : Option (PV × Bool)} : ev D.g cl false (E.ite
                  (E.and_ (E.var 9) (E.and_ (E.pr (Pr.lt) [E.pr (Pr.add) [E.var 6, E.var 7], E.var 2]) (E.var 10)))
                  (E.lst [E.cst (PV.str [116, 97, 107, 101])])
                  (E.lst [])) (σ14 u a b h m w t k (sl (.bl o)) y) = .ok (.v (.lst (on (decide (a + b < u) && (k && o)) take_)) true) (σ14 u a b h m w t k (sl (.bl o)) y) := by
  by_cases hc : a + b < u <;> cases k <;> cases o <;> simp [hc, on, exSs, exS, ev, evs, fin, sget0, sgetS, val, vals, O.bd, O.so, SO.sq, callO, ioS, frzA, sput0, sputS, putS, primO, prim, List.lookup, truthO, truth0, use, asI, disp, starL, isStar, int2, cmpV, gio, gmt, eqV2, plain, pl, pls, bindT, bindTs, eqv, eqvs, addV, ixV, L2.atI, L2.ixN, bmO, bindO, bindOs, uses, endF, outV, fok]
theorem mv2 {o : Bool} {y : Option (PV × Bool)} : ev D.g cl false (E.ite (E.and_ (E.pr (Pr.gt) [E.var 6, E.cst (PV.int 0)]) (E.var 10)) (E.lst [E.cst (PV.str [119, 111, 114, 107])]) (E.lst [])) (σ14 u a b h m w t k (sl (.bl o)) y) = .ok (.v (.lst (on (decide (0 < a) && o) work_)) true) (σ14 u a b h m w t k (sl (.bl o)) y) := by
  by_cases hc : 0 < a <;> cases o <;> simp [hc, on, exSs, exS, ev, evs, fin, sget0, sgetS, val, vals, O.bd, O.so, SO.sq, callO, ioS, frzA, sput0, sputS, putS, primO, prim, List.lookup, truthO, truth0, use, asI, disp, starL, isStar, int2, cmpV, gio, gmt, eqV2, plain, pl, pls, bindT, bindTs, eqv, eqvs, addV, ixV, L2.atI, L2.ixN, bmO, bindO, bindOs, uses, endF, outV, fok]
theorem mv3 {x y : Option (PV × Bool)} : ev D.g cl false (E.ite (E.pr (Pr.gt) [E.var 7, E.cst (PV.int 0)]) (E.lst [E.cst (PV.str [114, 101, 115, 116])]) (E.lst [])) (σ14 u a b h m w t k x y) = .ok (.v (.lst (on (decide (0 < b)) rest_)) true) (σ14 u a b h m w t k x y) := by
  by_cases hc : 0 < b <;> simp [hc, on, exSs, exS, ev, evs, fin, sget0, sgetS, val, vals, O.bd, O.so, SO.sq, callO, ioS, frzA, sput0, sputS, putS, primO, prim, List.lookup, truthO, truth0, use, asI, disp, starL, isStar, int2, cmpV, gio, gmt, eqV2, plain, pl, pls, bindT, bindTs, eqv, eqvs, addV, ixV, L2.atI, L2.ixN, bmO, bindO, bindOs, uses, endF, outV, fok]
theorem mv4 {x y : Option (PV × Bool)} : ev D.g cl false (E.ite (E.pr (Pr.gt) [E.var 6, E.cst (PV.int 0)]) (E.lst [E.cst (PV.str [103, 105, 118, 101])]) (E.lst [])) (σ14 u a b h m w t k x y) = .ok (.v (.lst (on (decide (0 < a)) give_)) true) (σ14 u a b h m w t k x y) := by
  by_cases hc : 0 < a <;> simp [hc, on, exSs, exS, ev, evs, fin, sget0, sgetS, val, vals, O.bd, O.so, SO.sq, callO, ioS, frzA, sput0, sputS, putS, primO, prim, List.lookup, truthO, truth0, use, asI, disp, starL, isStar, int2, cmpV, gio, gmt, eqV2, plain, pl, pls, bindT, bindTs, eqv, eqvs, addV, ixV, L2.atI, L2.ixN, bmO, bindO, bindOs, uses, endF, outV, fok]
theorem mv5 {x y : Option (PV × Bool)} : ev D.g cl false (E.ite (E.var 8) (E.lst [E.cst (PV.str [108, 101, 97, 118, 101])]) (E.lst [])) (σ14 u a b h m w t k x y) = .ok (.v (.lst (on t leave_)) true) (σ14 u a b h m w t k x y) := by
  cases t <;> simp [on, exSs, exS, ev, evs, fin, sget0, sgetS, val, vals, O.bd, O.so, SO.sq, callO, ioS, frzA, sput0, sputS, putS, primO, prim, List.lookup, truthO, truth0, use, asI, disp, starL, isStar, int2, cmpV, gio, gmt, eqV2, plain, pl, pls, bindT, bindTs, eqv, eqvs, addV, ixV, L2.atI, L2.ixN, bmO, bindO, bindOs, uses, endF, outV, fok]
theorem mv6 {me : Bool} {x y : Option (PV × Bool)} (h13 : cl 13 [rul u h m w, st a b t k] = .rt (.bl me) false []) : ev D.g cl false (E.ite (E.and_ (E.not_ (E.var 8)) (E.and_ (E.var 9) (E.call 13 [E.var 0, E.var 1]))) (E.lst [E.cst (PV.str [101, 110, 100])]) (E.lst [])) (σ14 u a b h m w t k x y) = .ok (.v (.lst (on (!t && (k && me)) end_)) true) (σ14 u a b h m w t k x y) := by
  cases t <;> cases k <;> cases me <;> simp [h13, on, exSs, exS, ev, evs, fin, sget0, sgetS, val, vals, O.bd, O.so, SO.sq, callO, ioS, frzA, sput0, sputS, putS, primO, prim, List.lookup, truthO, truth0, use, asI, disp, starL, isStar, int2, cmpV, gio, gmt, eqV2, plain, pl, pls, bindT, bindTs, eqv, eqvs, addV, ixV, L2.atI, L2.ixN, bmO, bindO, bindOs, uses, endF, outV, fok]
theorem ev_add {g : G} {m : Bool} {x y : E} {ρ : Sl} {p q : List PV} (hx : ev g cl false x ρ = .ok (.v (.lst p) true) ρ) (hy : ev g cl false y ρ = .ok (.v (.lst q) true) ρ) (hl : p.length + q.length ≤ 16777216) : ev g cl false (.pr .add [x, y]) ρ = .ok (.v (.lst (p ++ q)) true) ρ := by
  simp [ev, evs, fin, O.bd, hx, hy, vals, val, primO, prim, addV, hl]
theorem ev_add' {g : G} {i : Nat} {o : Bool} {y : E} {ρ : Sl} {p q : List PV} (hx : sget ρ i = some (.lst p, o)) (hy : ev g cl false y ρ = .ok (.v (.lst q) true) ρ) (hl : p.length + q.length ≤ 16777216) : ev g cl false (.pr .add [.var i, y]) ρ = .ok (.v (.lst (p ++ q)) true) ρ := by
  simp [ev, evs, fin, O.bd, hx, hy, vals, val, primO, prim, addV, hl]
theorem f14 (h13 : cl 13 [rul u h m w, st a b t k] = .rt (.bl (meF h w a b)) false []) : runF pgL cl 14 [rul u h m w, st a b t k] = .rt (.lst (mvF u h m w a b t k)) true [] := by
  show endF [] (exSs D.g cl D.W (fn14.body) [sl (rul u h m w), sl (st a b t k), none, none, none, none, none, none, none, none, none, none]) = _
  unfold fn14
  have l1 := on_len (decide (a + b < u) && (k && (t || !m))) take_
  have l2 := on_len (decide (0 < a) && (t || !m)) work_
  have l3 := on_len (decide (0 < b)) rest_
  have l4 := on_len (decide (0 < a)) give_
  have l5 := on_len t leave_
  have l6 := on_len (!t && (k && meF h w a b)) end_
  rw [exSs_nx (ρ' := [sl (rul u h m w), sl (st a b t k), sl (.int u), sl (.bl h), sl (.bl m), sl (.bl w), none, none, none, none, none, none]) (by kernel_rfl)]
  rw [exSs_nx (ρ' := σ14 u a b h m w t k none none) (by kernel_rfl)]
  rw [exSs_nx (ρ' := σ14 u a b h m w t k (sl (.bl (t || !m))) none) (by cases t <;> simp [exSs, exS, ev, evs, fin, sget0, sgetS, val, vals, O.bd, O.so, SO.sq, callO, ioS, frzA, sput0, sputS, putS, primO, prim, List.lookup, truthO, truth0, use, asI, disp, starL, isStar, int2, cmpV, gio, gmt, eqV2, plain, pl, pls, bindT, bindTs, eqv, eqvs, addV, ixV, L2.atI, L2.ixN, bmO, bindO, bindOs, uses, endF, outV, fok])]
  rw [exSs_nx (exS_asg (ev_add (m := false) mv1 mv2 (by omega)) (by simp))]
  show endF [] (exSs D.g cl D.W _ (σ14 u a b h m w t k (sl (.bl (t || !m))) (so (.lst (on (decide (a + b < u) && (k && (t || !m))) take_ ++ on (decide (0 < a) && (t || !m)) work_))))) = _
  rw [exSs_nx (exS_asg (ev_add (m := false) (ev_add (m := false) (ev_add' rfl mv3 (by simp only [List.length_append]; omega)) mv4 (by simp only [List.length_append]; omega)) mv5 (by simp only [List.length_append]; omega)) (by simp))]
  show endF [] (exSs D.g cl D.W _ (σ14 u a b h m w t k (sl (.bl (t || !m))) (so (.lst (on (decide (a + b < u) && (k && (t || !m))) take_ ++ on (decide (0 < a) && (t || !m)) work_ ++ on (decide (0 < b)) rest_ ++ on (decide (0 < a)) give_ ++ on t leave_))))) = _
  rw [exSs_rt (exS_ret (ev_add' rfl (mv6 h13) (by simp only [List.length_append]; omega)) (fun i hi => by cases hi))]
  rfl
/-! the program's own -/
abbrev σ24 (u a b : Int) (h m w t k : Bool) (x y : Option (PV × Bool)) : Sl := [sl (hnd u h m w), sl (st a b t k), sl (.int a), sl (.int b), sl (.bl t), sl (.bl k), x, y]
theorem g1 {o : Bool} {l : List PV} (hl : l.length < 16777216) : exS D.g cl W (S.ite
             (E.and_ (E.pr (Pr.lt) [E.pr (Pr.add) [E.var 2, E.var 3], E.fld (E.var 0) 2]) (E.and_ (E.var 5) (E.var 6)))
             [S.ex (E.bm 7 (Bm.append) [E.cst (PV.str [116, 97, 107, 101])])]
             []) (σ24 u a b h m w t k (sl (.bl o)) (so (.lst l))) = .nx (σ24 u a b h m w t k (sl (.bl o)) (so (.lst (l ++ on (decide (a + b < u) && (k && o)) take_)))) := by
  by_cases hc : a + b < u <;> cases k <;> cases o <;> simp [hc, hl, on, exSs, exS, ev, evs, fin, sget0, sgetS, val, vals, O.bd, O.so, SO.sq, callO, ioS, frzA, sput0, sputS, putS, primO, prim, List.lookup, truthO, truth0, use, asI, disp, starL, isStar, int2, cmpV, gio, gmt, eqV2, plain, pl, pls, bindT, bindTs, eqv, eqvs, addV, ixV, L2.atI, L2.ixN, bmO, bindO, bindOs, uses, endF, outV, fok]
theorem g2 {o : Bool} {l : List PV} (hl : l.length < 16777216) : exS D.g cl W (S.ite (E.and_ (E.pr (Pr.gt) [E.var 2, E.cst (PV.int 0)]) (E.var 6)) [S.ex (E.bm 7 (Bm.append) [E.cst (PV.str [119, 111, 114, 107])])] []) (σ24 u a b h m w t k (sl (.bl o)) (so (.lst l))) = .nx (σ24 u a b h m w t k (sl (.bl o)) (so (.lst (l ++ on (decide (0 < a) && o) work_)))) := by
  by_cases hc : 0 < a <;> cases o <;> simp [hc, hl, on, exSs, exS, ev, evs, fin, sget0, sgetS, val, vals, O.bd, O.so, SO.sq, callO, ioS, frzA, sput0, sputS, putS, primO, prim, List.lookup, truthO, truth0, use, asI, disp, starL, isStar, int2, cmpV, gio, gmt, eqV2, plain, pl, pls, bindT, bindTs, eqv, eqvs, addV, ixV, L2.atI, L2.ixN, bmO, bindO, bindOs, uses, endF, outV, fok]
theorem g3 {x : Option (PV × Bool)} {l : List PV} (hl : l.length < 16777216) : exS D.g cl W (S.ite (E.pr (Pr.gt) [E.var 3, E.cst (PV.int 0)]) [S.ex (E.bm 7 (Bm.append) [E.cst (PV.str [114, 101, 115, 116])])] []) (σ24 u a b h m w t k x (so (.lst l))) = .nx (σ24 u a b h m w t k x (so (.lst (l ++ on (decide (0 < b)) rest_)))) := by
  by_cases hc : 0 < b <;> simp [hc, hl, on, exSs, exS, ev, evs, fin, sget0, sgetS, val, vals, O.bd, O.so, SO.sq, callO, ioS, frzA, sput0, sputS, putS, primO, prim, List.lookup, truthO, truth0, use, asI, disp, starL, isStar, int2, cmpV, gio, gmt, eqV2, plain, pl, pls, bindT, bindTs, eqv, eqvs, addV, ixV, L2.atI, L2.ixN, bmO, bindO, bindOs, uses, endF, outV, fok]
theorem g4 {x : Option (PV × Bool)} {l : List PV} (hl : l.length < 16777216) : exS D.g cl W (S.ite (E.pr (Pr.gt) [E.var 2, E.cst (PV.int 0)]) [S.ex (E.bm 7 (Bm.append) [E.cst (PV.str [103, 105, 118, 101])])] []) (σ24 u a b h m w t k x (so (.lst l))) = .nx (σ24 u a b h m w t k x (so (.lst (l ++ on (decide (0 < a)) give_)))) := by
  by_cases hc : 0 < a <;> simp [hc, hl, on, exSs, exS, ev, evs, fin, sget0, sgetS, val, vals, O.bd, O.so, SO.sq, callO, ioS, frzA, sput0, sputS, putS, primO, prim, List.lookup, truthO, truth0, use, asI, disp, starL, isStar, int2, cmpV, gio, gmt, eqV2, plain, pl, pls, bindT, bindTs, eqv, eqvs, addV, ixV, L2.atI, L2.ixN, bmO, bindO, bindOs, uses, endF, outV, fok]
theorem g5 {x : Option (PV × Bool)} {l : List PV} (hl : l.length < 16777216) : exS D.g cl W (S.ite (E.var 4) [S.ex (E.bm 7 (Bm.append) [E.cst (PV.str [108, 101, 97, 118, 101])])] []) (σ24 u a b h m w t k x (so (.lst l))) = .nx (σ24 u a b h m w t k x (so (.lst (l ++ on t leave_)))) := by
  cases t <;> simp [hl, on, exSs, exS, ev, evs, fin, sget0, sgetS, val, vals, O.bd, O.so, SO.sq, callO, ioS, frzA, sput0, sputS, putS, primO, prim, List.lookup, truthO, truth0, use, asI, disp, starL, isStar, int2, cmpV, gio, gmt, eqV2, plain, pl, pls, bindT, bindTs, eqv, eqvs, addV, ixV, L2.atI, L2.ixN, bmO, bindO, bindOs, uses, endF, outV, fok]
theorem g6 {x : Option (PV × Bool)} {me : Bool} {l : List PV} (h25 : cl 25 [hnd u h m w, st a b t k] = .rt (.bl me) false []) (hl : l.length < 16777216) : exS D.g cl W (S.ite
             (E.and_ (E.not_ (E.var 4)) (E.and_ (E.var 5) (E.meth 11 (E.var 0) [E.var 1])))
             [S.ex (E.bm 7 (Bm.append) [E.cst (PV.str [101, 110, 100])])]
             []) (σ24 u a b h m w t k x (so (.lst l))) = .nx (σ24 u a b h m w t k x (so (.lst (l ++ on (!t && (k && me)) end_)))) := by
  cases t <;> cases k <;> cases me <;> simp [h25, hl, on, exSs, exS, ev, evs, fin, sget0, sgetS, val, vals, O.bd, O.so, SO.sq, callO, ioS, frzA, sput0, sputS, putS, primO, prim, List.lookup, truthO, truth0, use, asI, disp, starL, isStar, int2, cmpV, gio, gmt, eqV2, plain, pl, pls, bindT, bindTs, eqv, eqvs, addV, ixV, L2.atI, L2.ixN, bmO, bindO, bindOs, uses, endF, outV, fok]
theorem f24 (h25 : cl 25 [hnd u h m w, st a b t k] = .rt (.bl (meF h w a b)) false []) : runF pgL cl 24 [hnd u h m w, st a b t k] = .rt (.lst (mvF u h m w a b t k)) true [] := by
  show endF [] (exSs D.g cl D.W (fn24.body) [sl (hnd u h m w), sl (st a b t k), none, none, none, none, none, none]) = _
  unfold fn24
  have l1 := on_len (decide (a + b < u) && (k && (t || !m))) take_
  have l2 := on_len (decide (0 < a) && (t || !m)) work_
  have l3 := on_len (decide (0 < b)) rest_
  have l4 := on_len (decide (0 < a)) give_
  have l5 := on_len t leave_
  rw [exSs_nx (ρ' := σ24 u a b h m w t k none none) (by kernel_rfl)]
  rw [exSs_nx (ρ' := σ24 u a b h m w t k (sl (.bl (t || !m))) (so (.lst []))) (by cases t <;> simp [exSs, exS, ev, evs, fin, sget0, sgetS, val, vals, O.bd, O.so, SO.sq, callO, ioS, frzA, sput0, sputS, putS, primO, prim, List.lookup, truthO, truth0, use, asI, disp, starL, isStar, int2, cmpV, gio, gmt, eqV2, plain, pl, pls, bindT, bindTs, eqv, eqvs, addV, ixV, L2.atI, L2.ixN, bmO, bindO, bindOs, uses, endF, outV, fok])]
  rw [exSs_nx (g1 (by simp)), exSs_nx (g2 (by simp only [List.length_append, List.length_nil]; omega)), exSs_nx (g3 (by simp only [List.length_append, List.length_nil]; omega)), exSs_nx (g4 (by simp only [List.length_append, List.length_nil]; omega)), exSs_nx (g5 (by simp only [List.length_append, List.length_nil]; omega)), exSs_nx (g6 h25 (by simp only [List.length_append, List.length_nil]; omega))]
  rfl
end
end K45

set_option Elab.async false
set_option linter.all false
set_option maxRecDepth 100000
set_option maxHeartbeats 2000000
open Ev
namespace K45
/-- what is known of the stands of a rule -/
structure RF (cl : FC) (u : Int) (h m w : Bool) (R : PV → Prop) (Mv N : PV → List PV) (B : PV → PV → PV) (Kp Wr Me : PV → Bool) : Prop where
  r0 : R s0
  h23 : cl 23 [hnd u h m w] = .rt s0 false []
  h2 : cl 2 [hnd u h m w] = .rt .non false []
  h24 : ∀ s, R s → cl 24 [hnd u h m w, s] = .rt (.lst (Mv s)) true []
  h14 : ∀ s, R s → cl 14 [rul u h m w, s] = .rt (.lst (N s)) true []
  plM : ∀ s, R s → plains (Mv s) = true
  plN : ∀ s, R s → plains (N s) = true
  plS : ∀ s, R s → plain s = true
  eqm : ∀ s, R s → ∀ x, (N s).any (fun z => eqv z x) = (Mv s).any (fun z => eqv z x)
  h26 : ∀ s x, R s → (Mv s).any (fun z => eqv z x) = true → cl 26 [hnd u h m w, s, x] = .rt (B s x) false [] ∧ cl 15 [s, x] = .rt (B s x) false [] ∧ R (B s x)
  h4 : ∀ s, R s → cl 4 [hnd u h m w, s] = .rt (.bl (Kp s)) false []
  h27 : ∀ s, R s → cl 27 [hnd u h m w, s] = .rt (.bl (Wr s)) false []
  h25 : ∀ s, R s → cl 25 [hnd u h m w, s] = .rt (.bl (Me s)) false []
  h13 : ∀ s, R s → cl 13 [rul u h m w, s] = .rt (.bl (Me s)) false []
  shp : ∀ s, R s → ∃ a b t k, s = .tup [.int a, .int b, .bl t, .bl k] ∧ Kp s = (!t && k && !Me s) ∧ Wr s = (decide (b > 0) && !k)
def wk (Mv : PV → List PV) (B : PV → PV → PV) (ok : PV → Bool) : List PV → PV → Option PV
  | [], s => some s
  | x :: r, s => if ((Mv s).any (fun z => eqv z x) && ok s) = true then wk Mv B ok r (B s x) else none
section
variable {cl : FC} {W : Nat} {u : Int} {h m w : Bool} {R : PV → Prop} {Mv N : PV → List PV} {B : PV → PV → PV} {Kp Wr Me : PV → Bool}
def bA : List S := [S.ite (E.pr (Pr.nmem) [E.var 3, E.meth 7 (E.var 1) [E.var 2]]) [S.ret (some (E.cst (PV.bl false)))] [],
              S.asg (T.nm 2) (E.meth 12 (E.var 1) [E.var 2, E.var 3])]
def bB : List S := [S.ite (E.or_ (E.pr (Pr.nmem) [E.var 3, E.meth 7 (E.var 1) [E.var 2]]) (E.not_ (E.call 4 [E.var 1, E.var 2]))) [S.ret (some (E.cst (PV.bl false)))] [],
              S.asg (T.nm 2) (E.meth 12 (E.var 1) [E.var 2, E.var 3])]
def bC : List S := [S.ite (E.pr (Pr.nmem) [E.var 4, E.call 14 [E.var 0, E.var 3]]) [S.ret (some (E.cst (PV.bl false)))] [],
              S.asg (T.nm 3) (E.call 15 [E.var 3, E.var 4])]
def bD : List S := [S.ite (E.or_ (E.pr (Pr.ix) [E.var 3, E.cst (PV.int 2)]) (E.or_ (E.not_ (E.pr (Pr.ix) [E.var 3, E.cst (PV.int 3)])) (E.or_ (E.call 13 [E.var 0, E.var 3]) (E.pr (Pr.nmem) [E.var 4, E.call 14 [E.var 0, E.var 3]])))) [S.ret (some (E.cst (PV.bl false)))] [],
              S.asg (T.nm 3) (E.call 15 [E.var 3, E.var 4])]
def bE : List S := [S.ite (E.or_ (E.pr (Pr.nmem) [E.var 3, E.meth 7 (E.var 1) [E.var 2]]) (E.meth 10 (E.var 1) [E.var 2])) [S.ret (some (E.cst (PV.bl false)))] [],
              S.asg (T.nm 2) (E.meth 12 (E.var 1) [E.var 2, E.var 3])]

theorem bA_no {a z : Option (PV × Bool)} {s x : PV} {M : List PV} (h24 : cl 24 [hnd u h m w, s] = .rt (.lst M) true []) (px : plain x = true) (pM : plains M = true) (hm : M.any (fun z => eqv z x) = false) :
    exSs D.g cl W bA [a, sl (hnd u h m w), sl s, sl x, z] = .rt (.bl false) false [a, sl (hnd u h m w), sl s, sl x, z] := by
  try unfold hnd at h24
  simp [bA, hnd, h24, px, pM, hm, exSs, exS, ev, evs, fin, sget0, sgetS, val, vals, O.bd, O.so, SO.sq, callO, ioS, frzA, sput0, sputS, putS, primO, prim, memV, List.lookup, truthO, truth0, use, ixV, asI, disp, starL, isStar, int2, cmpV, gio, gmt, fok]
theorem bA_yes {a z : Option (PV × Bool)} {s x s' : PV} {M : List PV} (h24 : cl 24 [hnd u h m w, s] = .rt (.lst M) true []) (h26 : cl 26 [hnd u h m w, s, x] = .rt s' false []) (px : plain x = true) (pM : plains M = true) (hm : M.any (fun z => eqv z x) = true) :
    exSs D.g cl W bA [a, sl (hnd u h m w), sl s, sl x, z] = .nx [a, sl (hnd u h m w), sl s', sl x, z] := by
  try unfold hnd at h24 h26
  simp [bA, hnd, h24, h26, px, pM, hm, exSs, exS, ev, evs, fin, sget0, sgetS, val, vals, O.bd, O.so, SO.sq, callO, ioS, frzA, sput0, sputS, putS, primO, prim, memV, List.lookup, truthO, truth0, use, ixV, asI, disp, starL, isStar, int2, cmpV, gio, gmt, fok]
theorem bB_no {a z : Option (PV × Bool)} {s x : PV} {M : List PV} {kp : Bool} (h24 : cl 24 [hnd u h m w, s] = .rt (.lst M) true []) (h4 : cl 4 [hnd u h m w, s] = .rt (.bl kp) false []) (px : plain x = true) (pM : plains M = true) (hm : (M.any (fun z => eqv z x) && kp) = false) :
    exSs D.g cl W bB [a, sl (hnd u h m w), sl s, sl x, z] = .rt (.bl false) false [a, sl (hnd u h m w), sl s, sl x, z] := by
  try unfold hnd at h24 h4
  cases hq : M.any (fun z => eqv z x) with
  | false => simp [bB, hnd, h24, h4, px, pM, hq, exSs, exS, ev, evs, fin, sget0, sgetS, val, vals, O.bd, O.so, SO.sq, callO, ioS, frzA, sput0, sputS, putS, primO, prim, memV, List.lookup, truthO, truth0, use, ixV, asI, disp, starL, isStar, int2, cmpV, gio, gmt, fok]
  | true =>
    rw [hq] at hm
    simp only [Bool.true_and] at hm
    subst hm
    simp [bB, hnd, h24, h4, px, pM, hq, exSs, exS, ev, evs, fin, sget0, sgetS, val, vals, O.bd, O.so, SO.sq, callO, ioS, frzA, sput0, sputS, putS, primO, prim, memV, List.lookup, truthO, truth0, use, ixV, asI, disp, starL, isStar, int2, cmpV, gio, gmt, fok]
theorem bB_yes {a z : Option (PV × Bool)} {s x s' : PV} {M : List PV} (h24 : cl 24 [hnd u h m w, s] = .rt (.lst M) true []) (h4 : cl 4 [hnd u h m w, s] = .rt (.bl true) false []) (h26 : cl 26 [hnd u h m w, s, x] = .rt s' false []) (px : plain x = true) (pM : plains M = true) (hm : M.any (fun z => eqv z x) = true) :
    exSs D.g cl W bB [a, sl (hnd u h m w), sl s, sl x, z] = .nx [a, sl (hnd u h m w), sl s', sl x, z] := by
  try unfold hnd at h24 h26 h4
  simp [bB, hnd, h24, h4, h26, px, pM, hm, exSs, exS, ev, evs, fin, sget0, sgetS, val, vals, O.bd, O.so, SO.sq, callO, ioS, frzA, sput0, sputS, putS, primO, prim, memV, List.lookup, truthO, truth0, use, ixV, asI, disp, starL, isStar, int2, cmpV, gio, gmt, fok]
theorem bC_no {a b z : Option (PV × Bool)} {s x : PV} {M : List PV} (h14 : cl 14 [rul u h m w, s] = .rt (.lst M) true []) (px : plain x = true) (pM : plains M = true) (hm : M.any (fun z => eqv z x) = false) :
    exSs D.g cl W bC [sl (rul u h m w), a, b, sl s, sl x, z] = .rt (.bl false) false [sl (rul u h m w), a, b, sl s, sl x, z] := by
  simp [bC, h14, px, pM, hm, exSs, exS, ev, evs, fin, sget0, sgetS, val, vals, O.bd, O.so, SO.sq, callO, ioS, frzA, sput0, sputS, putS, primO, prim, memV, List.lookup, truthO, truth0, use, ixV, asI, disp, starL, isStar, int2, cmpV, gio, gmt, fok]
theorem bC_yes {a b z : Option (PV × Bool)} {s x s' : PV} {M : List PV} (h14 : cl 14 [rul u h m w, s] = .rt (.lst M) true []) (h15 : cl 15 [s, x] = .rt s' false []) (px : plain x = true) (pM : plains M = true) (hm : M.any (fun z => eqv z x) = true) :
    exSs D.g cl W bC [sl (rul u h m w), a, b, sl s, sl x, z] = .nx [sl (rul u h m w), a, b, sl s', sl x, z] := by
  simp [bC, h14, h15, px, pM, hm, exSs, exS, ev, evs, fin, sget0, sgetS, val, vals, O.bd, O.so, SO.sq, callO, ioS, frzA, sput0, sputS, putS, primO, prim, memV, List.lookup, truthO, truth0, use, ixV, asI, disp, starL, isStar, int2, cmpV, gio, gmt, fok]
theorem bD_no {a b z : Option (PV × Bool)} {i j : Int} {t k me : Bool} {x : PV} {M : List PV} (h14 : cl 14 [rul u h m w, .tup [.int i, .int j, .bl t, .bl k]] = .rt (.lst M) true []) (h13 : cl 13 [rul u h m w, .tup [.int i, .int j, .bl t, .bl k]] = .rt (.bl me) false []) (px : plain x = true) (pM : plains M = true) (hm : (M.any (fun z => eqv z x) && (!t && k && !me)) = false) :
    exSs D.g cl W bD [sl (rul u h m w), a, b, sl (.tup [.int i, .int j, .bl t, .bl k]), sl x, z] = .rt (.bl false) false [sl (rul u h m w), a, b, sl (.tup [.int i, .int j, .bl t, .bl k]), sl x, z] := by
  cases t with
  | true => simp [bD, px, pM, exSs, exS, ev, evs, fin, sget0, sgetS, val, vals, O.bd, O.so, SO.sq, callO, ioS, frzA, sput0, sputS, putS, primO, prim, memV, List.lookup, truthO, truth0, use, ixV, asI, disp, starL, isStar, int2, cmpV, gio, gmt, fok, L2.atI, L2.ixN]
  | false =>
    cases k with
    | false => simp [bD, px, pM, exSs, exS, ev, evs, fin, sget0, sgetS, val, vals, O.bd, O.so, SO.sq, callO, ioS, frzA, sput0, sputS, putS, primO, prim, memV, List.lookup, truthO, truth0, use, ixV, asI, disp, starL, isStar, int2, cmpV, gio, gmt, fok, L2.atI, L2.ixN]
    | true =>
      cases me with
      | true => simp [bD, h13, px, pM, exSs, exS, ev, evs, fin, sget0, sgetS, val, vals, O.bd, O.so, SO.sq, callO, ioS, frzA, sput0, sputS, putS, primO, prim, memV, List.lookup, truthO, truth0, use, ixV, asI, disp, starL, isStar, int2, cmpV, gio, gmt, fok, L2.atI, L2.ixN]
      | false =>
        have hq : M.any (fun z => eqv z x) = false := by simpa using hm
        simp [bD, h13, h14, px, pM, hq, exSs, exS, ev, evs, fin, sget0, sgetS, val, vals, O.bd, O.so, SO.sq, callO, ioS, frzA, sput0, sputS, putS, primO, prim, memV, List.lookup, truthO, truth0, use, ixV, asI, disp, starL, isStar, int2, cmpV, gio, gmt, fok, L2.atI, L2.ixN]
theorem bD_yes {a b z : Option (PV × Bool)} {i j : Int} {x s' : PV} {M : List PV} (h14 : cl 14 [rul u h m w, .tup [.int i, .int j, .bl false, .bl true]] = .rt (.lst M) true []) (h13 : cl 13 [rul u h m w, .tup [.int i, .int j, .bl false, .bl true]] = .rt (.bl false) false []) (h15 : cl 15 [.tup [.int i, .int j, .bl false, .bl true], x] = .rt s' false []) (px : plain x = true) (pM : plains M = true) (hq : M.any (fun z => eqv z x) = true) :
    exSs D.g cl W bD [sl (rul u h m w), a, b, sl (.tup [.int i, .int j, .bl false, .bl true]), sl x, z] = .nx [sl (rul u h m w), a, b, sl s', sl x, z] := by
  simp [bD, h13, h14, h15, px, pM, hq, exSs, exS, ev, evs, fin, sget0, sgetS, val, vals, O.bd, O.so, SO.sq, callO, ioS, frzA, sput0, sputS, putS, primO, prim, memV, List.lookup, truthO, truth0, use, ixV, asI, disp, starL, isStar, int2, cmpV, gio, gmt, fok, L2.atI, L2.ixN]
theorem bE_no {a : Option (PV × Bool)} {s x : PV} {M : List PV} {wr : Bool} (h24 : cl 24 [hnd u h m w, s] = .rt (.lst M) true []) (h27 : cl 27 [hnd u h m w, s] = .rt (.bl wr) false []) (px : plain x = true) (pM : plains M = true) (hm : (M.any (fun z => eqv z x) && !wr) = false) :
    exSs D.g cl W bE [a, sl (hnd u h m w), sl s, sl x] = .rt (.bl false) false [a, sl (hnd u h m w), sl s, sl x] := by
  try unfold hnd at h24 h27
  cases hq : M.any (fun z => eqv z x) with
  | false => simp [bE, hnd, h24, h27, px, pM, hq, exSs, exS, ev, evs, fin, sget0, sgetS, val, vals, O.bd, O.so, SO.sq, callO, ioS, frzA, sput0, sputS, putS, primO, prim, memV, List.lookup, truthO, truth0, use, ixV, asI, disp, starL, isStar, int2, cmpV, gio, gmt, fok]
  | true =>
    rw [hq] at hm
    have hm : wr = true := by simpa using hm
    subst hm
    simp [bE, hnd, h24, h27, px, pM, hq, exSs, exS, ev, evs, fin, sget0, sgetS, val, vals, O.bd, O.so, SO.sq, callO, ioS, frzA, sput0, sputS, putS, primO, prim, memV, List.lookup, truthO, truth0, use, ixV, asI, disp, starL, isStar, int2, cmpV, gio, gmt, fok]
theorem bE_yes {a : Option (PV × Bool)} {s x s' : PV} {M : List PV} (h24 : cl 24 [hnd u h m w, s] = .rt (.lst M) true []) (h27 : cl 27 [hnd u h m w, s] = .rt (.bl false) false []) (h26 : cl 26 [hnd u h m w, s, x] = .rt s' false []) (px : plain x = true) (pM : plains M = true) (hm : M.any (fun z => eqv z x) = true) :
    exSs D.g cl W bE [a, sl (hnd u h m w), sl s, sl x] = .nx [a, sl (hnd u h m w), sl s', sl x] := by
  try unfold hnd at h24 h26 h27
  simp [bE, hnd, h24, h27, h26, px, pM, hm, exSs, exS, ev, evs, fin, sget0, sgetS, val, vals, O.bd, O.so, SO.sq, callO, ioS, frzA, sput0, sputS, putS, primO, prim, memV, List.lookup, truthO, truth0, use, ixV, asI, disp, starL, isStar, int2, cmpV, gio, gmt, fok]
/-! ### the loops -/
abbrev lp (cl : FC) (W : Nat) (b : List S) (i : Nat) : PV → Sl → SO := turn D.g cl W (.nm i) b
theorem lpA (F : RF cl u h m w R Mv N B Kp Wr Me) {a z : Option (PV × Bool)} : ∀ (l : List PV) (s : PV) (y : Option (PV × Bool)), R s → (∀ x ∈ l, plain x = true) →
    (wk Mv B (fun _ => true) l s = none ∧ ∃ ρ', forL (lp cl W bA 3) l [a, sl (hnd u h m w), sl s, y, z] = .rt (.bl false) false ρ') ∨
    ∃ s' y', wk Mv B (fun _ => true) l s = some s' ∧ R s' ∧ forL (lp cl W bA 3) l [a, sl (hnd u h m w), sl s, y, z] = .nx [a, sl (hnd u h m w), sl s', y', z]
  | [], s, y, hs, _ => .inr ⟨s, y, rfl, hs, rfl⟩
  | x :: l, s, y, hs, hp => by
    have hp : plain x = true ∧ ∀ x ∈ l, plain x = true := ⟨hp x (List.mem_cons_self ..), fun y hy => hp y (List.mem_cons_of_mem _ hy)⟩
    have e : ∀ q, forL (lp cl W bA 3) (x :: l) [a, sl (hnd u h m w), sl s, y, z] = q ↔ (match exSs D.g cl W bA [a, sl (hnd u h m w), sl s, sl x, z] with | .nx ρ => forL (lp cl W bA 3) l ρ | .ct ρ => forL (lp cl W bA 3) l ρ | .bk ρ => .nx ρ | q => q) = q := fun q => Iff.rfl
    cases hq : (Mv s).any (fun z => eqv z x) with
    | false => exact .inl ⟨by unfold wk; rw [hq]; rfl, _, by rw [e, bA_no (F.h24 s hs) hp.1 (F.plM s hs) hq]⟩
    | true =>
      obtain ⟨h1, _, h2⟩ := F.h26 s x hs hq
      have e2 : wk Mv B (fun _ => true) (x :: l) s = wk Mv B (fun _ => true) l (B s x) := by rw [wk, hq]; rfl
      simp only [e, bA_yes (F.h24 s hs) h1 hp.1 (F.plM s hs) hq, e2]
      exact lpA F l (B s x) (sl x) h2 hp.2
theorem lpB (F : RF cl u h m w R Mv N B Kp Wr Me) {a z : Option (PV × Bool)} : ∀ (l : List PV) (s : PV) (y : Option (PV × Bool)), R s → (∀ x ∈ l, plain x = true) →
    (wk Mv B Kp l s = none ∧ ∃ ρ', forL (lp cl W bB 3) l [a, sl (hnd u h m w), sl s, y, z] = .rt (.bl false) false ρ') ∨
    ∃ s' y', wk Mv B Kp l s = some s' ∧ R s' ∧ forL (lp cl W bB 3) l [a, sl (hnd u h m w), sl s, y, z] = .nx [a, sl (hnd u h m w), sl s', y', z]
  | [], s, y, hs, _ => .inr ⟨s, y, rfl, hs, rfl⟩
  | x :: l, s, y, hs, hp => by
    have hp : plain x = true ∧ ∀ x ∈ l, plain x = true := ⟨hp x (List.mem_cons_self ..), fun y hy => hp y (List.mem_cons_of_mem _ hy)⟩
    have e : ∀ q, forL (lp cl W bB 3) (x :: l) [a, sl (hnd u h m w), sl s, y, z] = q ↔ (match exSs D.g cl W bB [a, sl (hnd u h m w), sl s, sl x, z] with | .nx ρ => forL (lp cl W bB 3) l ρ | .ct ρ => forL (lp cl W bB 3) l ρ | .bk ρ => .nx ρ | q => q) = q := fun q => Iff.rfl
    cases hq : ((Mv s).any (fun z => eqv z x) && Kp s) with
    | false => exact .inl ⟨by unfold wk; rw [hq]; rfl, _, by rw [e, bB_no (F.h24 s hs) (F.h4 s hs) hp.1 (F.plM s hs) hq]⟩
    | true =>
      have e2 : wk Mv B Kp (x :: l) s = wk Mv B Kp l (B s x) := by rw [wk, hq]; rfl
      rw [Bool.and_eq_true] at hq
      obtain ⟨h1, _, h2⟩ := F.h26 s x hs hq.1
      have h4 := F.h4 s hs
      rw [hq.2] at h4
      simp only [e, bB_yes (F.h24 s hs) h4 h1 hp.1 (F.plM s hs) hq.1, e2]
      exact lpB F l (B s x) (sl x) h2 hp.2
theorem lpC (F : RF cl u h m w R Mv N B Kp Wr Me) {a b z : Option (PV × Bool)} : ∀ (l : List PV) (s : PV) (y : Option (PV × Bool)), R s → (∀ x ∈ l, plain x = true) →
    (wk Mv B (fun _ => true) l s = none ∧ ∃ ρ', forL (lp cl W bC 4) l [sl (rul u h m w), a, b, sl s, y, z] = .rt (.bl false) false ρ') ∨
    ∃ s' y', wk Mv B (fun _ => true) l s = some s' ∧ R s' ∧ forL (lp cl W bC 4) l [sl (rul u h m w), a, b, sl s, y, z] = .nx [sl (rul u h m w), a, b, sl s', y', z]
  | [], s, y, hs, _ => .inr ⟨s, y, rfl, hs, rfl⟩
  | x :: l, s, y, hs, hp => by
    have hp : plain x = true ∧ ∀ x ∈ l, plain x = true := ⟨hp x (List.mem_cons_self ..), fun y hy => hp y (List.mem_cons_of_mem _ hy)⟩
    have e : ∀ q, forL (lp cl W bC 4) (x :: l) [sl (rul u h m w), a, b, sl s, y, z] = q ↔ (match exSs D.g cl W bC [sl (rul u h m w), a, b, sl s, sl x, z] with | .nx ρ => forL (lp cl W bC 4) l ρ | .ct ρ => forL (lp cl W bC 4) l ρ | .bk ρ => .nx ρ | q => q) = q := fun q => Iff.rfl
    have em := F.eqm s hs x
    cases hq : (Mv s).any (fun z => eqv z x) with
    | false => exact .inl ⟨by unfold wk; rw [hq]; rfl, _, by rw [e, bC_no (F.h14 s hs) hp.1 (F.plN s hs) (em.trans hq)]⟩
    | true =>
      obtain ⟨_, h1, h2⟩ := F.h26 s x hs hq
      have e2 : wk Mv B (fun _ => true) (x :: l) s = wk Mv B (fun _ => true) l (B s x) := by rw [wk, hq]; rfl
      simp only [e, bC_yes (F.h14 s hs) h1 hp.1 (F.plN s hs) (em.trans hq), e2]
      exact lpC F l (B s x) (sl x) h2 hp.2
theorem lpD (F : RF cl u h m w R Mv N B Kp Wr Me) {a b z : Option (PV × Bool)} : ∀ (l : List PV) (s : PV) (y : Option (PV × Bool)), R s → (∀ x ∈ l, plain x = true) →
    (wk Mv B Kp l s = none ∧ ∃ ρ', forL (lp cl W bD 4) l [sl (rul u h m w), a, b, sl s, y, z] = .rt (.bl false) false ρ') ∨
    ∃ s' y', wk Mv B Kp l s = some s' ∧ R s' ∧ forL (lp cl W bD 4) l [sl (rul u h m w), a, b, sl s, y, z] = .nx [sl (rul u h m w), a, b, sl s', y', z]
  | [], s, y, hs, _ => .inr ⟨s, y, rfl, hs, rfl⟩
  | x :: l, s, y, hs, hp => by
    have hp : plain x = true ∧ ∀ x ∈ l, plain x = true := ⟨hp x (List.mem_cons_self ..), fun y hy => hp y (List.mem_cons_of_mem _ hy)⟩
    have e : ∀ q, forL (lp cl W bD 4) (x :: l) [sl (rul u h m w), a, b, sl s, y, z] = q ↔ (match exSs D.g cl W bD [sl (rul u h m w), a, b, sl s, sl x, z] with | .nx ρ => forL (lp cl W bD 4) l ρ | .ct ρ => forL (lp cl W bD 4) l ρ | .bk ρ => .nx ρ | q => q) = q := fun q => Iff.rfl
    have em := F.eqm s hs x
    obtain ⟨i, j, t, k, es, hk, _⟩ := F.shp s hs
    cases hq : ((Mv s).any (fun z => eqv z x) && Kp s) with
    | false =>
      refine .inl ⟨by unfold wk; rw [hq]; rfl, [sl (rul u h m w), a, b, sl s, sl x, z], ?_⟩
      rw [← em, hk] at hq
      rw [e]
      have h14 := F.h14 s hs
      have h13 := F.h13 s hs
      have pN := F.plN s hs
      generalize N s = NN at *
      generalize Me s = mm at *
      subst es
      rw [bD_no h14 h13 hp.1 pN hq]
    | true =>
      have e2 : wk Mv B Kp (x :: l) s = wk Mv B Kp l (B s x) := by rw [wk, hq]; rfl
      rw [Bool.and_eq_true] at hq
      obtain ⟨_, h1, h2⟩ := F.h26 s x hs hq.1
      have hkk := hq.2
      rw [hk] at hkk
      simp only [Bool.and_eq_true, Bool.not_eq_true'] at hkk
      obtain ⟨⟨rfl, rfl⟩, hme⟩ := hkk
      have h13 := F.h13 s hs
      rw [hme] at h13
      have h14 := F.h14 s hs
      have key := bD_yes (W := W) (a := a) (b := b) (z := z) (i := i) (j := j) (x := x) (s' := B s x) (by rw [← es]; exact h14) (by rw [← es]; exact h13) (by rw [← es]; exact h1) hp.1 (F.plN s hs) (em.trans hq.1)
      rw [← es] at key
      simp only [e, key, e2]
      exact lpD F l (B s x) (sl x) h2 hp.2
theorem lpE (F : RF cl u h m w R Mv N B Kp Wr Me) {a : Option (PV × Bool)} : ∀ (l : List PV) (s : PV) (y : Option (PV × Bool)), R s → (∀ x ∈ l, plain x = true) →
    (wk Mv B (fun s => !Wr s) l s = none ∧ ∃ ρ', forL (lp cl W bE 3) l [a, sl (hnd u h m w), sl s, y] = .rt (.bl false) false ρ') ∨
    ∃ s' y', wk Mv B (fun s => !Wr s) l s = some s' ∧ R s' ∧ forL (lp cl W bE 3) l [a, sl (hnd u h m w), sl s, y] = .nx [a, sl (hnd u h m w), sl s', y']
  | [], s, y, hs, _ => .inr ⟨s, y, rfl, hs, rfl⟩
  | x :: l, s, y, hs, hp => by
    have hp : plain x = true ∧ ∀ x ∈ l, plain x = true := ⟨hp x (List.mem_cons_self ..), fun y hy => hp y (List.mem_cons_of_mem _ hy)⟩
    have e : ∀ q, forL (lp cl W bE 3) (x :: l) [a, sl (hnd u h m w), sl s, y] = q ↔ (match exSs D.g cl W bE [a, sl (hnd u h m w), sl s, sl x] with | .nx ρ => forL (lp cl W bE 3) l ρ | .ct ρ => forL (lp cl W bE 3) l ρ | .bk ρ => .nx ρ | q => q) = q := fun q => Iff.rfl
    cases hq : ((Mv s).any (fun z => eqv z x) && !Wr s) with
    | false => exact .inl ⟨by unfold wk; rw [hq]; rfl, _, by rw [e, bE_no (F.h24 s hs) (F.h27 s hs) hp.1 (F.plM s hs) hq]⟩
    | true =>
      have e2 : wk Mv B (fun s => !Wr s) (x :: l) s = wk Mv B (fun s => !Wr s) l (B s x) := by rw [wk, hq]; rfl
      rw [Bool.and_eq_true] at hq
      obtain ⟨h1, _, h2⟩ := F.h26 s x hs hq.1
      have h27 := F.h27 s hs
      rw [show Wr s = false by simpa using hq.2] at h27
      simp only [e, bE_yes (F.h24 s hs) h27 h1 hp.1 (F.plM s hs) hq.1, e2]
      exact lpE F l (B s x) (sl x) h2 hp.2
theorem eq_st {g : G} {i j : Nat} {o o' : Bool} {ρ : Sl} {x y : PV} (hx : sget ρ i = some (x, o)) (hy : sget ρ j = some (y, o')) (sh : ∃ l, x = .tup l) (px : plain x = true) (py : plain y = true) : ev g cl false (E.pr .eq [E.var i, E.var j]) ρ = .ok (.v (.bl (eqv x y)) false) ρ := by
  obtain ⟨l, rfl⟩ := sh
  simp [ev, evs, fin, O.bd, hx, hy, vals, val, primO, prim, eqV2, px, py]
/-! ### the defs -/
def lingF (Mv : PV → List PV) (B : PV → PV → PV) (Kp : PV → Bool) (l r : List PV) : Bool := match wk Mv B (fun _ => true) l s0 with
  | none => false
  | some s => (match wk Mv B Kp r s with
    | none => false
    | some s' => !r.isEmpty && eqv s' s)
theorem f35 (F : RF cl u h m w R Mv N B Kp Wr Me) (hw : ∀ s, R s → Wr s = false) {l : List PV} (hp : ∀ x ∈ l, plain x = true) : runF pgL cl 35 [.ins 2 [(7, .tup l)], hnd u h m w] = .rt (.bl false) false [] := by
  show endF [] (exSs D.g cl D.W fn35.body [sl (.ins 2 [(7, .tup l)]), sl (hnd u h m w), none, none]) = _
  unfold fn35
  rw [exSs_nx (ρ' := [sl (.ins 2 [(7, .tup l)]), sl (hnd u h m w), none, none]) (by simp [F.h2, exSs, exS, ev, evs, fin, sget0, sgetS, val, vals, O.bd, O.so, SO.sq, callO, ioS, frzA, sput0, sputS, putS, primO, prim, memV, List.lookup, truthO, truth0, use, ixV, asI, disp, starL, isStar, int2, cmpV, gio, gmt, fok])]
  rw [exSs_nx (ρ' := [sl (.ins 2 [(7, .tup l)]), sl (hnd u h m w), sl s0, none]) (by simp [F.h23, exSs, exS, ev, evs, fin, sget0, sgetS, val, vals, O.bd, O.so, SO.sq, callO, ioS, frzA, sput0, sputS, putS, primO, prim, memV, List.lookup, truthO, truth0, use, ixV, asI, disp, starL, isStar, int2, cmpV, gio, gmt, fok])]
  have hf : exS D.g cl D.W (S.for_ (T.nm 3) (It.of (E.fld (E.var 0) 7)) bE) [sl (.ins 2 [(7, .tup l)]), sl (hnd u h m w), sl s0, none] = forL (lp cl D.W bE 3) l [sl (.ins 2 [(7, .tup l)]), sl (hnd u h m w), sl s0, none] := exS_for (by simp [evI, exSs, exS, ev, evs, fin, sget0, sgetS, val, vals, O.bd, O.so, SO.sq, callO, ioS, frzA, sput0, sputS, putS, primO, prim, memV, List.lookup, truthO, truth0, use, ixV, asI, disp, starL, isStar, int2, cmpV, gio, gmt, fok])
  rcases lpE F (W := D.W) (a := sl (.ins 2 [(7, .tup l)])) l s0 none F.r0 hp with ⟨_, ρ', e⟩ | ⟨s', y', _, hR, e⟩
  · refine Eq.trans (congrArg (endF []) (exSs_rt (hf.trans e))) ?_
    rfl
  · refine Eq.trans (congrArg (endF []) (exSs_nx (hf.trans e))) ?_
    have h27 := F.h27 s' hR
    rw [hw s' hR] at h27
    rw [exSs_rt (exS_ret (ev_and_f' (ρ' := [sl (.ins 2 [(7, .tup l)]), sl (hnd u h m w), sl s', y']) (o := false) (by simp [h27, exSs, exS, ev, evs, fin, sget0, sgetS, val, vals, O.bd, O.so, SO.sq, callO, ioS, frzA, sput0, sputS, putS, primO, prim, memV, List.lookup, truthO, truth0, use, ixV, asI, disp, starL, isStar, int2, cmpV, gio, gmt, fok])) (fun i hi => by cases hi))]
    rfl
theorem f42 (F : RF cl u h m w R Mv N B Kp Wr Me) {l r : List PV} (hp : ∀ x ∈ l, plain x = true) (hr : ∀ x ∈ r, plain x = true) (hr' : plain (.tup r) = true) : runF pgL cl 42 [.ins 4 [(7, .tup l), (8, .tup r)], hnd u h m w] = .rt (.bl (lingF Mv B Kp l r)) false [] := by
  show endF [] (exSs D.g cl D.W fn42.body [sl (.ins 4 [(7, .tup l), (8, .tup r)]), sl (hnd u h m w), none, none, none]) = _
  unfold fn42
  generalize hI : sl (.ins 4 [(7, .tup l), (8, .tup r)]) = I
  rw [exSs_nx (ρ' := [I, sl (hnd u h m w), none, none, none]) (by simp [F.h2, exSs, exS, ev, evs, fin, sget0, sgetS, val, vals, O.bd, O.so, SO.sq, callO, ioS, frzA, sput0, sputS, putS, primO, prim, memV, List.lookup, truthO, truth0, use, ixV, asI, disp, starL, isStar, int2, cmpV, gio, gmt, fok])]
  rw [exSs_nx (ρ' := [I, sl (hnd u h m w), sl s0, none, none]) (by simp [F.h23, exSs, exS, ev, evs, fin, sget0, sgetS, val, vals, O.bd, O.so, SO.sq, callO, ioS, frzA, sput0, sputS, putS, primO, prim, memV, List.lookup, truthO, truth0, use, ixV, asI, disp, starL, isStar, int2, cmpV, gio, gmt, fok])]
  have hf : exS D.g cl D.W (S.for_ (T.nm 3) (It.of (E.fld (E.var 0) 7)) bA) [I, sl (hnd u h m w), sl s0, none, none] = forL (lp cl D.W bA 3) l [I, sl (hnd u h m w), sl s0, none, none] := by
    subst hI
    exact exS_for (by simp [evI, exSs, exS, ev, evs, fin, sget0, sgetS, val, vals, O.bd, O.so, SO.sq, callO, ioS, frzA, sput0, sputS, putS, primO, prim, memV, List.lookup, truthO, truth0, use, ixV, asI, disp, starL, isStar, int2, cmpV, gio, gmt, fok])
  unfold lingF
  rcases lpA F (W := D.W) (a := I) (z := none) l s0 none F.r0 hp with ⟨e1, ρ', e⟩ | ⟨s', y', e1, hR, e⟩
  · rw [e1]; refine Eq.trans (congrArg (endF []) (exSs_rt (hf.trans e))) ?_
    rfl
  · rw [e1]; refine Eq.trans (congrArg (endF []) (exSs_nx (hf.trans e))) ?_
    rw [exSs_nx (ρ' := [I, sl (hnd u h m w), sl s', y', sl s']) (by simp [exSs, exS, ev, evs, fin, sget0, sgetS, val, vals, O.bd, O.so, SO.sq, callO, ioS, frzA, sput0, sputS, putS, primO, prim, memV, List.lookup, truthO, truth0, use, ixV, asI, disp, starL, isStar, int2, cmpV, gio, gmt, fok])]
    cases r with
    | nil =>
      rw [exSs_rt (ρ' := [I, sl (hnd u h m w), sl s', y', sl s']) (v := .bl false) (o := false) (by subst hI; simp [eqV2, plain, pl, pls, eqv, eqvs, exSs, exS, ev, evs, fin, sget0, sgetS, val, vals, O.bd, O.so, SO.sq, callO, ioS, frzA, sput0, sputS, putS, primO, prim, memV, List.lookup, truthO, truth0, use, ixV, asI, disp, starL, isStar, int2, cmpV, gio, gmt, fok])]
      simp only [wk]
      rfl
    | cons x r =>
      rw [exSs_nx (ρ' := [I, sl (hnd u h m w), sl s', y', sl s']) (by subst hI; refine exS_no (o := false) ?_; have hp0 : plain (.tup []) = true := rfl; simp [eqV2, hr', hp0, eqv, eqvs, exSs, exS, ev, evs, fin, sget0, sgetS, val, vals, O.bd, O.so, SO.sq, callO, ioS, frzA, sput0, sputS, putS, primO, prim, memV, List.lookup, truthO, truth0, use, ixV, asI, disp, starL, isStar, int2, cmpV, gio, gmt, fok])]
      have hf2 : exS D.g cl D.W (S.for_ (T.nm 3) (It.of (E.fld (E.var 0) 8)) bB) [I, sl (hnd u h m w), sl s', y', sl s'] = forL (lp cl D.W bB 3) (x :: r) [I, sl (hnd u h m w), sl s', y', sl s'] := by
        subst hI
        exact exS_for (by simp [evI, exSs, exS, ev, evs, fin, sget0, sgetS, val, vals, O.bd, O.so, SO.sq, callO, ioS, frzA, sput0, sputS, putS, primO, prim, memV, List.lookup, truthO, truth0, use, ixV, asI, disp, starL, isStar, int2, cmpV, gio, gmt, fok])
      rcases lpB F (W := D.W) (a := I) (z := sl s') (x :: r) s' y' hR hr with ⟨e2, ρ', e⟩ | ⟨s2, y2, e2, hR2, e⟩
      · refine Eq.trans (congrArg (endF []) (exSs_rt (hf2.trans e))) ?_
        simp only [e2]
        rfl
      · refine Eq.trans (congrArg (endF []) (exSs_nx (hf2.trans e))) ?_
        simp only [e2]
        obtain ⟨i, j, t, k, es, _⟩ := F.shp s2 hR2
        rw [exSs_rt (exS_ret (eq_st rfl rfl ⟨_, es⟩ (F.plS s2 hR2) (F.plS s' hR)) (fun i hi => by cases hi))]
        rfl
theorem f18 (F : RF cl u h m w R Mv N B Kp Wr Me) {L : PV} {l r : List PV} (hL : L = .lst l ∨ L = .tup l) (hp : ∀ x ∈ l, plain x = true) (hr : ∀ x ∈ r, plain x = true) : runF pgL cl 18 [rul u h m w, L, .tup r] = .rt (.bl (lingF Mv B Kp l r)) false [] := by
  show endF [] (exSs D.g cl D.W fn18.body [sl (rul u h m w), sl L, sl (.tup r), none, none, none]) = _
  unfold fn18
  rw [exSs_nx (ρ' := [sl (rul u h m w), sl L, sl (.tup r), sl s0, none, none]) (by simp [exSs, exS, ev, evs, fin, sget0, sgetS, val, vals, O.bd, O.so, SO.sq, callO, ioS, frzA, sput0, sputS, putS, primO, prim, memV, List.lookup, truthO, truth0, use, ixV, asI, disp, starL, isStar, int2, cmpV, gio, gmt, fok])]
  have hf : exS D.g cl D.W (S.for_ (T.nm 4) (It.of (E.var 1)) bC) [sl (rul u h m w), sl L, sl (.tup r), sl s0, none, none] = forL (lp cl D.W bC 4) l [sl (rul u h m w), sl L, sl (.tup r), sl s0, none, none] := by
    refine exS_for ?_
    rcases hL with rfl | rfl <;> simp [evI, exSs, exS, ev, evs, fin, sget0, sgetS, val, vals, O.bd, O.so, SO.sq, callO, ioS, frzA, sput0, sputS, putS, primO, prim, memV, List.lookup, truthO, truth0, use, ixV, asI, disp, starL, isStar, int2, cmpV, gio, gmt, fok]
  unfold lingF
  rcases lpC F (W := D.W) (a := sl L) (b := sl (.tup r)) (z := none) l s0 none F.r0 hp with ⟨e1, ρ', e⟩ | ⟨s', y', e1, hR, e⟩
  · rw [e1]; refine Eq.trans (congrArg (endF []) (exSs_rt (hf.trans e))) ?_
    rfl
  · rw [e1]; refine Eq.trans (congrArg (endF []) (exSs_nx (hf.trans e))) ?_
    rw [exSs_nx (ρ' := [sl (rul u h m w), sl L, sl (.tup r), sl s', y', sl s']) (by simp [exSs, exS, ev, evs, fin, sget0, sgetS, val, vals, O.bd, O.so, SO.sq, callO, ioS, frzA, sput0, sputS, putS, primO, prim, memV, List.lookup, truthO, truth0, use, ixV, asI, disp, starL, isStar, int2, cmpV, gio, gmt, fok])]
    have hf2 : exS D.g cl D.W (S.for_ (T.nm 4) (It.of (E.var 2)) bD) [sl (rul u h m w), sl L, sl (.tup r), sl s', y', sl s'] = forL (lp cl D.W bD 4) r [sl (rul u h m w), sl L, sl (.tup r), sl s', y', sl s'] := exS_for (by simp [evI, exSs, exS, ev, evs, fin, sget0, sgetS, val, vals, O.bd, O.so, SO.sq, callO, ioS, frzA, sput0, sputS, putS, primO, prim, memV, List.lookup, truthO, truth0, use, ixV, asI, disp, starL, isStar, int2, cmpV, gio, gmt, fok])
    rcases lpD F (W := D.W) (a := sl L) (b := sl (.tup r)) (z := sl s') r s' y' hR hr with ⟨e2, ρ', e⟩ | ⟨s2, y2, e2, hR2, e⟩
    · refine Eq.trans (congrArg (endF []) (exSs_rt (hf2.trans e))) ?_
      simp only [e2]
      rfl
    · refine Eq.trans (congrArg (endF []) (exSs_nx (hf2.trans e))) ?_
      simp only [e2]
      cases r with
      | nil =>
        rw [exSs_rt (ρ' := [sl (rul u h m w), sl L, sl (.tup []), sl s2, y2, sl s']) (v := .bl false) (o := false) (by simp [lenV, exSs, exS, ev, evs, fin, sget0, sgetS, val, vals, O.bd, O.so, SO.sq, callO, ioS, frzA, sput0, sputS, putS, primO, prim, memV, List.lookup, truthO, truth0, use, ixV, asI, disp, starL, isStar, int2, cmpV, gio, gmt, fok])]
        rfl
      | cons x r =>
        obtain ⟨i, j, t, k, es, _⟩ := F.shp s2 hR2
        have hh : (0 : Int) < ((r.length : Nat) : Int) + 1 := by omega
        rw [exSs_rt (exS_ret ((ev_and_t' (ρ' := [sl (rul u h m w), sl L, sl (.tup (x :: r)), sl s2, y2, sl s']) (o := false) (by simp [lenV, hh, exSs, exS, ev, evs, fin, sget0, sgetS, val, vals, O.bd, O.so, SO.sq, callO, ioS, frzA, sput0, sputS, putS, primO, prim, memV, List.lookup, truthO, truth0, use, ixV, asI, disp, starL, isStar, int2, cmpV, gio, gmt, fok])).trans (eq_st rfl rfl ⟨_, es⟩ (F.plS s2 hR2) (F.plS s' hR))) (fun i hi => by cases hi))]
        rfl
end
end K45

set_option Elab.async false
set_option linter.all false
set_option maxRecDepth 100000
set_option maxHeartbeats 1000000
open Ev
namespace K45
theorem gio2 : D.g.io 10 = [] ∧ D.g.io 11 = [true] ∧ D.g.io 12 = [true] ∧ D.g.io 19 = [true] := by
  refine ⟨?_, ?_, ?_, ?_⟩ <;> kernel_rfl
theorem atI_nn {l : List PV} {i : Int} (h0 : 0 ≤ i) (h1 : i < l.length) : ∃ y, L2.atI l i = some y ∧ y ∈ l := by
  obtain ⟨n, rfl⟩ := Int.eq_ofNat_of_zero_le h0
  have hn : n < l.length := by omega
  refine ⟨l[n], ?_, List.getElem_mem hn⟩
  have hi : ((n : Int) < (l.length : Int)) := by omega
  simp [L2.atI, L2.ixN, hi, hn]
theorem fdivs {cl : FC} {W : Nat} {a b c d f g : Option (PV × Bool)} : ∀ (l : List PV) (r : Int) (y : Option (PV × Bool)), ∃ r' y', forL (turn D.g cl W (.nm 5) [S.asg (T.nm 4) (E.pr (Pr.fdiv) [E.var 4, E.cst (PV.int 1009)])]) l [a, b, c, d, some (.int r, false), y, g] = .nx [a, b, c, d, some (.int r', false), y', g]
  | [], r, y => ⟨r, y, rfl⟩
  | x :: l, r, y => by
    obtain ⟨r', y', h⟩ := fdivs (cl := cl) (W := W) (a := a) (b := b) (c := c) (d := d) (f := f) (g := g) l (r / 1009) (some (x, false))
    refine ⟨r', y', ?_⟩
    rw [← h]
    refine forL_nx ?_
    simp [turn, exSs, exS, ev, evs, fin, sget0, sgetS, val, vals, O.bd, O.so, SO.sq, callO, ioS, frzA, sput0, sputS, putS, primO, prim, List.lookup, truthO, truth0, use, asI, disp, starL, isStar, int2, cmpV, gio2, eqV2, plain, pl, pls, bindT, bindTs, eqv, eqvs, addV, mulV, lenV, ixV]
section
variable {cl : FC} {W : Nat}
def q5 : S := S.ite (E.pr (Pr.gt) [E.var 4, E.cst (PV.int 0)]) [S.ret (some (E.pr (Pr.mod) [E.pr (Pr.int1) [E.var 4], E.cst (PV.int 1009)]))] []
def q6 : S := S.asg
             (T.nm 6)
             (E.pr
               (Pr.mod)
               [E.pr
                  (Pr.add)
                  [E.pr (Pr.mul) [E.pr (Pr.int1) [E.pr (Pr.add) [E.var 2, E.pr (Pr.mul) [E.cst (PV.int 977), E.var 1]]], E.cst (PV.int 48271)],
                   E.pr (Pr.mul) [E.cst (PV.int 31), E.pr (Pr.len) [E.var 0]]],
                E.cst (PV.int 2147483647)])
def q7 : S := S.asg
             (T.nm 6)
             (E.pr (Pr.mod) [E.pr (Pr.add) [E.pr (Pr.mul) [E.var 6, E.var 6], E.pr (Pr.mul) [E.cst (PV.int 40503), E.var 1]], E.cst (PV.int 2147483629)])
def q8 : S := S.ret
             (some (E.pr
                (Pr.int1)
                [E.pr
                   (Pr.mod)
                   [E.pr (Pr.add) [E.pr (Pr.mul) [E.var 6, E.cst (PV.int 69621)], E.pr (Pr.fdiv) [E.var 6, E.cst (PV.int 977)]],
                    E.cst (PV.int 2147483587)]]))
theorem st6 {sc : List PV} {k cell : Int} {d e f g : Option (PV × Bool)} : ∃ v : Int, (0 ≤ v ∧ v < 2147483647) ∧ exS D.g cl W q6 [some (.lst sc, false), some (.int k, false), some (.int cell, false), d, e, f, g] = .nx [some (.lst sc, false), some (.int k, false), some (.int cell, false), d, e, f, some (.int v, false)] := by
  refine ⟨((cell + 977 * k) * 48271 + 31 * (sc.length : Int)) % 2147483647, ⟨Int.emod_nonneg _ (by decide), Int.emod_lt_of_pos _ (by decide)⟩, ?_⟩
  simp [q6, exSs, exS, ev, evs, fin, sget0, sgetS, val, vals, O.bd, O.so, SO.sq, callO, ioS, frzA, sput0, sputS, putS, primO, prim, List.lookup, truthO, truth0, use, asI, disp, starL, isStar, int2, cmpV, gio2, eqV2, plain, pl, pls, bindT, bindTs, eqv, eqvs, addV, mulV, lenV, ixV]
theorem st7 {k v : Int} {a c d e f : Option (PV × Bool)} (h0 : 0 ≤ v) (h1 : v < 2147483647) : ∃ v' : Int, exS D.g cl W q7 [a, some (.int k, false), c, d, e, f, some (.int v, false)] = .nx [a, some (.int k, false), c, d, e, f, some (.int v', false)] := by
  refine ⟨(v * v + 40503 * k) % 2147483629, ?_⟩
  have hc : (-(18446744073709551616 : Int) < v ∧ v < 18446744073709551616) := by omega
  simp [q7, hc, exSs, exS, ev, evs, fin, sget0, sgetS, val, vals, O.bd, O.so, SO.sq, callO, ioS, frzA, sput0, sputS, putS, primO, prim, List.lookup, truthO, truth0, use, asI, disp, starL, isStar, int2, cmpV, gio2, eqV2, plain, pl, pls, bindT, bindTs, eqv, eqvs, addV, mulV, lenV, ixV]
theorem st8 {v : Int} {a b c d e f : Option (PV × Bool)} : ∃ v' : Int, exS D.g cl W q8 [a, b, c, d, e, f, some (.int v, false)] = .rt (.int v') false [a, b, c, d, e, f, some (.int v, false)] := by
  refine ⟨(v * 69621 + v / 977) % 2147483587, ?_⟩
  simp [q8, exSs, exS, ev, evs, fin, sget0, sgetS, val, vals, O.bd, O.so, SO.sq, callO, ioS, frzA, sput0, sputS, putS, primO, prim, List.lookup, truthO, truth0, use, asI, disp, starL, isStar, int2, cmpV, gio2, eqV2, plain, pl, pls, bindT, bindTs, eqv, eqvs, addV, mulV, lenV, ixV]
theorem num_tail {sc : List PV} (k cell r : Int) (d f : Option (PV × Bool)) :
    ∃ (m : Int) (ρ : Sl), exSs D.g cl W [q5, q6, q7, q8] [some (.lst sc, false), some (.int k, false), some (.int cell, false), d, some (.int r, false), f, none] = .rt (.int m) false ρ := by
  by_cases hr : 0 < r
  · refine ⟨r % 1009, _, exSs_rt (ρ' := [some (.lst sc, false), some (.int k, false), some (.int cell, false), d, some (.int r, false), f, none]) ?_⟩
    simp [q5, hr, exSs, exS, ev, evs, fin, sget0, sgetS, val, vals, O.bd, O.so, SO.sq, callO, ioS, frzA, sput0, sputS, putS, primO, prim, List.lookup, truthO, truth0, use, asI, disp, starL, isStar, int2, cmpV, gio2, eqV2, plain, pl, pls, bindT, bindTs, eqv, eqvs, addV, mulV, lenV, ixV]
  · have h5 : exS D.g cl W q5 [some (.lst sc, false), some (.int k, false), some (.int cell, false), d, some (.int r, false), f, none] = .nx [some (.lst sc, false), some (.int k, false), some (.int cell, false), d, some (.int r, false), f, none] := by
      simp [q5, hr, exSs, exS, ev, evs, fin, sget0, sgetS, val, vals, O.bd, O.so, SO.sq, callO, ioS, frzA, sput0, sputS, putS, primO, prim, List.lookup, truthO, truth0, use, asI, disp, starL, isStar, int2, cmpV, gio2, eqV2, plain, pl, pls, bindT, bindTs, eqv, eqvs, addV, mulV, lenV, ixV]
    obtain ⟨v, ⟨h0, h1⟩, e6⟩ := st6 (cl := cl) (W := W) (sc := sc) (k := k) (cell := cell) (d := d) (e := some (.int r, false)) (f := f) (g := none)
    obtain ⟨v2, e7⟩ := st7 (cl := cl) (W := W) (k := k) (v := v) (a := some (.lst sc, false)) (c := some (.int cell, false)) (d := d) (e := some (.int r, false)) (f := f) h0 h1
    obtain ⟨v3, e8⟩ := st8 (cl := cl) (W := W) (v := v2) (a := some (.lst sc, false)) (b := some (.int k, false)) (c := some (.int cell, false)) (d := d) (e := some (.int r, false)) (f := f)
    exact ⟨v3, _, by rw [exSs_nx h5, exSs_nx e6, exSs_nx e7, exSs_rt e8]⟩
def q1 : S := S.asg
             (T.tup [T.nm 2, T.nm 3])
             (E.ite
               (E.pr (Pr.ne) [E.var 0, E.lst []])
               (E.tup [E.pr (Pr.ix) [E.var 0, E.pr (Pr.mod) [E.var 1, E.pr (Pr.len) [E.var 0]]], E.pr (Pr.fdiv) [E.var 1, E.pr (Pr.len) [E.var 0]]])
               (E.tup [E.cst (PV.int 12345), E.cst (PV.int 0)]))
def q2 : S := S.asg
             (T.nm 4)
             (E.ite
               (E.pr (Pr.lt) [E.var 3, E.cst (PV.int 60)])
               (E.pr (Pr.sub) [E.var 2, E.pr (Pr.pow) [E.cst (PV.int 10), E.cst (PV.int 18)]])
               (E.cst (PV.int 0)))
def q3 : S := S.for_
             (T.nm 5)
             (It.rng [E.pr (Pr.mod) [E.pr (Pr.int1) [E.var 3], E.cst (PV.int 60)]])
             [S.asg (T.nm 4) (E.pr (Pr.fdiv) [E.var 4, E.cst (PV.int 1009)])]
theorem pls_ints : ∀ (ns : List Int) (n : Nat), pls (ns.map .int) n = true
  | [], _ => rfl
  | a :: r, n => by simp [pls, pl, pls_ints r n]
theorem s1 {ns : List Int} (hl : ns.length ≤ 63) {k : Int} : ∃ cell turn : Int, exS D.g cl W q1 [some (.lst (ns.map .int), false), some (.int k, false), none, none, none, none, none] = .nx [some (.lst (ns.map .int), false), some (.int k, false), some (.int cell, false), some (.int turn, false), none, none, none] := by
  cases ns with
  | nil =>
    refine ⟨12345, 0, ?_⟩
    refine exS_asgT (ρ' := [some (.lst [], false), some (.int k, false), none, none, none, none, none]) (p := .tup [.int 12345, .int 0]) (o := false) ((ev_ite_f (o := false) (?_ : _ = O.ok _ [some (.lst [], false), some (.int k, false), none, none, none, none, none])).trans ?_) rfl <;> simp [exSs, exS, ev, evs, fin, sget0, sgetS, val, vals, O.bd, O.so, SO.sq, callO, ioS, frzA, sput0, sputS, putS, primO, prim, List.lookup, truthO, truth0, use, asI, disp, starL, isStar, int2, cmpV, gio2, eqV2, plain, pl, pls, bindT, bindTs, eqv, eqvs, addV, mulV, lenV, ixV]
  | cons n r =>
    have hn : (0 : Int) < ((n :: r).length : Int) := by rw [List.length_cons]; omega
    have h0 : (0 : Int) ≤ k % ((n :: r).length : Int) := Int.emod_nonneg _ (by omega)
    have h1 : k % ((n :: r).length : Int) < ((n :: r).length : Int) := Int.emod_lt_of_pos _ hn
    obtain ⟨y, hy, hm⟩ := atI_nn (l := (n :: r).map PV.int) (i := k % ((n :: r).length : Int)) h0 (by rw [List.length_map]; exact h1)
    obtain ⟨cell, _, rfl⟩ := List.mem_map.1 hm
    have hp := pls_ints (n :: r) 63
    have hL2 : ((n :: r).length : Int) < 1073741824 := by omega
    have hll : (((n :: r).map PV.int).length : Int) = ((n :: r).length : Int) := by rw [List.length_map]
    generalize hg : (n :: r).map PV.int = L at *
    have hne : eqv (.lst L) (.lst []) = false := by rw [← hg]; rfl
    generalize ((n :: r).length : Int) = N at *
    refine ⟨cell, k / N, ?_⟩
    refine exS_asgT (ρ' := [some (.lst L, false), some (.int k, false), none, none, none, none, none]) (p := .tup [.int cell, .int (k / N)]) (o := false) ((ev_ite_t (o := false) (?_ : _ = O.ok _ [some (.lst L, false), some (.int k, false), none, none, none, none, none])).trans ?_) rfl
    · simp [hp, hne, exSs, exS, ev, evs, fin, sget0, sgetS, val, vals, O.bd, O.so, SO.sq, callO, ioS, frzA, sput0, sputS, putS, primO, prim, List.lookup, truthO, truth0, use, asI, disp, starL, isStar, int2, cmpV, gio2, eqV2, plain, pl, pls, bindT, bindTs, addV, mulV, lenV, ixV]
    · simp [hll, hy, hn, hL2, exSs, exS, ev, evs, fin, sget0, sgetS, val, vals, O.bd, O.so, SO.sq, callO, ioS, frzA, sput0, sputS, putS, primO, prim, List.lookup, truthO, truth0, use, asI, disp, starL, isStar, int2, cmpV, gio2, eqV2, plain, pl, pls, bindT, bindTs, addV, mulV, lenV, ixV]
theorem s2 {a b f g : Option (PV × Bool)} {cell turn : Int} : ∃ v : Int, exS D.g cl W q2 [a, b, some (.int cell, false), some (.int turn, false), none, f, g] = .nx [a, b, some (.int cell, false), some (.int turn, false), some (.int v, false), f, g] := by
  by_cases h : turn < 60
  · exact ⟨cell - 1000000000000000000, by simp [q2, h, exSs, exS, ev, evs, fin, sget0, sgetS, val, vals, O.bd, O.so, SO.sq, callO, ioS, frzA, sput0, sputS, putS, primO, prim, List.lookup, truthO, truth0, use, asI, disp, starL, isStar, int2, cmpV, gio2, eqV2, plain, pl, pls, bindT, bindTs, eqv, eqvs, addV, mulV, lenV, ixV]⟩
  · exact ⟨0, by simp [q2, h, exSs, exS, ev, evs, fin, sget0, sgetS, val, vals, O.bd, O.so, SO.sq, callO, ioS, frzA, sput0, sputS, putS, primO, prim, List.lookup, truthO, truth0, use, asI, disp, starL, isStar, int2, cmpV, gio2, eqV2, plain, pl, pls, bindT, bindTs, eqv, eqvs, addV, mulV, lenV, ixV]⟩
theorem s3 {a b c g : Option (PV × Bool)} {v turn : Int} : ∃ (v' : Int) (y : Option (PV × Bool)), exS D.g cl W q3 [a, b, c, some (.int turn, false), some (.int v, false), none, g] = .nx [a, b, c, some (.int turn, false), some (.int v', false), y, g] := by
  obtain ⟨v', y', h⟩ := fdivs (cl := cl) (W := W) (a := a) (b := b) (c := c) (d := some (.int turn, false)) (f := none) (g := g) (rngL 0 (turn % 60).toNat) v none
  refine ⟨v', y', ?_⟩
  have h0 : 0 ≤ turn % 60 := Int.emod_nonneg _ (by decide)
  have h1 : turn % 60 < 60 := Int.emod_lt_of_pos _ (by decide)
  have hb : -(4611686018427387904 : Int) ≤ turn % 60 ∧ turn % 60 < 4611686018427387904 := by omega
  refine Eq.trans (exS_for ?_) h
  simp [evI, rngV, hb, exSs, exS, ev, evs, fin, sget0, sgetS, val, vals, O.bd, O.so, SO.sq, callO, ioS, frzA, sput0, sputS, putS, primO, prim, List.lookup, truthO, truth0, use, asI, disp, starL, isStar, int2, cmpV, gio2, eqV2, plain, pl, pls, bindT, bindTs, eqv, eqvs, addV, mulV, lenV, ixV]
theorem num {ns : List Int} (hl : ns.length ≤ 63) (k : Int) : ∃ m : Int, runF pgL cl 10 [.lst (ns.map .int), .int k] = .rt (.int m) false [] := by
  obtain ⟨cell, turn, e1⟩ := s1 (cl := cl) (W := D.W) hl (k := k)
  obtain ⟨v, e2⟩ := s2 (cl := cl) (W := D.W) (a := some (.lst (ns.map .int), false)) (b := some (.int k, false)) (f := none) (g := none) (cell := cell) (turn := turn)
  obtain ⟨v', y, e3⟩ := s3 (cl := cl) (W := D.W) (a := some (.lst (ns.map .int), false)) (b := some (.int k, false)) (c := some (.int cell, false)) (g := none) (v := v) (turn := turn)
  obtain ⟨m, ρ, e4⟩ := num_tail (cl := cl) (W := D.W) (sc := ns.map .int) k cell v' (some (.int turn, false)) y
  refine ⟨m, ?_⟩
  show endF [] (exSs D.g cl D.W (q1 :: q2 :: q3 :: [q5, q6, q7, q8]) [some (.lst (ns.map .int), false), some (.int k, false), none, none, none, none, none]) = _
  rw [exSs_nx e1, exSs_nx e2, exSs_nx e3, e4]
  rfl
def dr (ns : List Int) (k : Int) : PV := .lst [.lst (ns.map .int), .int k]
theorem take {ns : List Int} {k n : Int} (hn : 0 < n) {m : Int} (h : cl 10 [.lst (ns.map .int), .int (k + 1)] = .rt (.int m) false []) : runF pgL cl 11 [dr ns k, .int n] = .rt (.int (m % n)) false [dr ns (k + 1)] := by
  show endF [true] (exSs D.g cl D.W fn11.body [some (dr ns k, true), some (.int n, false)]) = _
  simp [fn11, dr, h, hn, getV, setV, L2.atI, L2.ixN, endF, outV, exSs, exS, ev, evs, fin, sget0, sgetS, val, vals, O.bd, O.so, SO.sq, callO, ioS, frzA, sput0, sputS, putS, primO, prim, List.lookup, truthO, truth0, use, asI, disp, starL, isStar, int2, cmpV, gio2, eqV2, plain, pl, pls, bindT, bindTs, eqv, eqvs, addV, mulV, lenV, ixV]
theorem pick {ns : List Int} {k m : Int} {l : List PV} {y : PV} (h : cl 11 [dr ns k, .int (l.length : Int)] = .rt (.int m) false [dr ns (k + 1)]) (hy : L2.atI l m = some y) : runF pgL cl 12 [dr ns k, .lst l] = .rt y false [dr ns (k + 1)] := by
  show endF [true] (exSs D.g cl D.W fn12.body [some (dr ns k, true), some (.lst l, false)]) = _
  simp [fn12, h, hy, ownS, endF, outV, exSs, exS, ev, evs, fin, sget0, sgetS, val, vals, O.bd, O.so, SO.sq, callO, ioS, frzA, sput0, sputS, putS, primO, prim, List.lookup, truthO, truth0, use, asI, disp, starL, isStar, int2, cmpV, gio2, eqV2, plain, pl, pls, bindT, bindTs, eqv, eqvs, addV, mulV, lenV, ixV]
end
theorem pickD {ns : List Int} (hl : ns.length ≤ 63) (k : Int) {l : List PV} (h0 : l ≠ []) (d : Nat) : ∃ y, y ∈ l ∧ callD pgL (d + 3) 12 [dr ns k, .lst l] = .rt y false [dr ns (k + 1)] := by
  have hn : (0 : Int) < l.length := by
    cases l with
    | nil => exact absurd rfl h0
    | cons a r => rw [List.length_cons]; omega
  obtain ⟨m, hm⟩ := num (cl := callD pgL d) hl (k + 1)
  have ht := take (cl := callD pgL (d + 1)) (ns := ns) hn hm
  obtain ⟨y, hy, hmem⟩ := atI_nn (l := l) (i := m % l.length) (Int.emod_nonneg _ (by omega)) (Int.emod_lt_of_pos _ hn)
  exact ⟨y, hmem, pick (cl := callD pgL (d + 2)) (ns := ns) ht hy⟩
end K45

set_option Elab.async false
set_option linter.all false
set_option maxRecDepth 100000
set_option maxHeartbeats 1000000
open Ev
namespace K45
/-! ### the facts of a rule -/
def Mvf (u : Int) (h m w : Bool) : PV → List PV
  | .tup [.int a, .int b, .bl t, .bl k] => mvF u h m w a b t k
  | _ => []
def Bf : PV → PV → PV
  | .tup [.int a, .int b, .bl t, .bl k], .str x => bhF a b t k x
  | _, _ => .non
def Kf (h w : Bool) : PV → Bool
  | .tup [.int a, .int b, .bl t, .bl k] => !t && (k && !meF h w a b)
  | _ => false
def Wf : PV → Bool
  | .tup [.int a, .int b, .bl t, .bl k] => decide (0 < b) && !k
  | _ => false
def Ef (h w : Bool) : PV → Bool
  | .tup [.int a, .int b, .bl t, .bl k] => meF h w a b
  | _ => false
/-- what holds of a stand that comes -/
def Rf (h m w : Bool) (s : PV) : Prop := ∃ a b t k, s = st a b t k ∧ 0 ≤ a ∧ 0 ≤ b ∧ ((h || (w && m)) = true → k = false → t = false ∧ b = 0 ∧ (h = true → a = 0))
theorem any_on (c : Bool) (p : List Nat) (x : PV) : (on c (.str p)).any (fun z => eqv z x) = true → c = true ∧ x = .str p := by
  cases c with
  | false => intro h; simp [on] at h
  | true => intro h; exact ⟨rfl, eqv_str (by simpa [on] using h)⟩
theorem mv_cases {c1 c2 c3 c4 c5 c6 : Bool} {x : PV} (h : (mvB c1 c2 c3 c4 c5 c6).any (fun z => eqv z x) = true) :
    (c1 = true ∧ x = take_) ∨ (c2 = true ∧ x = work_) ∨ (c3 = true ∧ x = rest_) ∨ (c4 = true ∧ x = give_) ∨ (c5 = true ∧ x = leave_) ∨ (c6 = true ∧ x = end_) := by
  unfold mvB at h
  simp only [List.any_append, Bool.or_eq_true] at h
  rcases h with ((((h | h) | h) | h) | h) | h
  · exact .inl (any_on _ _ _ h)
  · exact .inr (.inl (any_on _ _ _ h))
  · exact .inr (.inr (.inl (any_on _ _ _ h)))
  · exact .inr (.inr (.inr (.inl (any_on _ _ _ h))))
  · exact .inr (.inr (.inr (.inr (.inl (any_on _ _ _ h)))))
  · exact .inr (.inr (.inr (.inr (.inr (any_on _ _ _ h)))))
theorem mv_pl : ∀ c1 c2 c3 c4 c5 c6 : Bool, (plains (mvB c1 c2 c3 c4 c5 c6) && plain (.lst (mvB c1 c2 c3 c4 c5 c6)) && (mvB c1 c2 c3 c4 c5 c6).all plain && decide ((mvB c1 c2 c3 c4 c5 c6).length ≤ 6) && (match sortV (.lst (mvB c1 c2 c3 c4 c5 c6)) with | some (.lst q, true) => plain (.lst q) && eqv (.lst q) (.lst q) | _ => false) && (mvB c1 c2 c3 c4 c5 c6).all (fun x => (mvB c1 c2 c3 c4 c5 c6).any fun z => eqv z x)) = true := by decide +kernel
theorem bh_cases {u a b : Int} {h m w t k : Bool} {x : PV} (hx : (mvF u h m w a b t k).any (fun z => eqv z x) = true) :
    (x = take_ ∧ Bf (st a b t k) x = st (a + 1) b t k ∧ a + b < u ∧ k = true ∧ (t || !m) = true) ∨
    (x = work_ ∧ Bf (st a b t k) x = st (a - 1) (b + 1) t k ∧ 0 < a ∧ (t || !m) = true) ∨
    (x = rest_ ∧ Bf (st a b t k) x = st (a + 1) (b - 1) t k ∧ 0 < b) ∨
    (x = give_ ∧ Bf (st a b t k) x = st (a - 1) b t k ∧ 0 < a) ∨
    (x = leave_ ∧ Bf (st a b t k) x = st a b false k ∧ t = true) ∨
    (x = end_ ∧ Bf (st a b t k) x = st a b t false ∧ t = false ∧ k = true ∧ meF h w a b = true) := by
  rcases mv_cases hx with ⟨h, rfl⟩ | ⟨h, rfl⟩ | ⟨h, rfl⟩ | ⟨h, rfl⟩ | ⟨h, rfl⟩ | ⟨h, rfl⟩ <;> try simp only [Bool.and_eq_true, decide_eq_true_eq, Bool.not_eq_true'] at h
  · exact .inl ⟨rfl, rfl, h.1, h.2.1, h.2.2⟩
  · exact .inr (.inl ⟨rfl, rfl, h.1, h.2⟩)
  · exact .inr (.inr (.inl ⟨rfl, rfl, h⟩))
  · exact .inr (.inr (.inr (.inl ⟨rfl, rfl, h⟩)))
  · exact .inr (.inr (.inr (.inr (.inl ⟨rfl, rfl, h⟩))))
  · exact .inr (.inr (.inr (.inr (.inr ⟨rfl, rfl, h.1, h.2.1, h.2.2⟩))))
theorem rf_step {u a b : Int} {h m w t k : Bool} {x : PV} (hR : Rf h m w (st a b t k)) (hx : (mvF u h m w a b t k).any (fun z => eqv z x) = true) : Rf h m w (Bf (st a b t k) x) := by
  obtain ⟨a', b', t', k', e, ha, hb, hq⟩ := hR
  obtain ⟨rfl, rfl, rfl, rfl⟩ : a = a' ∧ b = b' ∧ t = t' ∧ k = k' := by
    injection e with e
    injection e with e1 e
    injection e with e2 e
    injection e with e3 e
    injection e with e4 e
    injection e1 with e1
    injection e2 with e2
    injection e3 with e3
    injection e4 with e4
    exact ⟨e1, e2, e3, e4⟩
  rcases bh_cases hx with ⟨_, e, h1, h2, h3⟩ | ⟨_, e, h1, h2⟩ | ⟨_, e, h1⟩ | ⟨_, e, h1⟩ | ⟨_, e, h1⟩ | ⟨_, e, h1, h2, h3⟩ <;> rw [e]
  · exact ⟨_, _, _, _, rfl, by omega, hb, fun _ hk => absurd (h2.symm.trans hk) (by decide)⟩
  · refine ⟨_, _, _, _, rfl, by omega, by omega, fun hs hk => ?_⟩
    obtain ⟨q1, q2, q3⟩ := hq hs hk
    cases h with
    | true => exact absurd (q3 rfl) (by omega)
    | false =>
      subst q1
      simp only [Bool.false_or, Bool.and_eq_true] at hs
      rw [hs.2] at h2
      cases h2
  · refine ⟨_, _, _, _, rfl, by omega, by omega, fun hs hk => ?_⟩
    obtain ⟨q1, q2, q3⟩ := hq hs hk
    omega
  · refine ⟨_, _, _, _, rfl, by omega, hb, fun hs hk => ?_⟩
    obtain ⟨q1, q2, q3⟩ := hq hs hk
    exact ⟨q1, q2, fun hh => absurd (q3 hh) (by omega)⟩
  · refine ⟨_, _, _, _, rfl, ha, hb, fun hs hk => ?_⟩
    obtain ⟨q1, q2, q3⟩ := hq hs hk
    exact ⟨rfl, q2, q3⟩
  · refine ⟨_, _, _, _, rfl, ha, hb, fun hs _ => ⟨h1, ?_⟩⟩
    unfold meF at h3
    cases h with
    | true =>
      simp at h3
      exact ⟨by omega, fun _ => by omega⟩
    | false =>
      simp only [Bool.false_or, Bool.and_eq_true] at hs
      rw [hs.1] at h3
      simp at h3
      exact ⟨h3, fun hh => by cases hh⟩
section
variable {u : Int} {h m w : Bool}
theorem c13 (d : Nat) (a b : Int) (t k : Bool) : callD pgL (d + 1) 13 [rul u h m w, st a b t k] = .rt (.bl (meF h w a b)) false [] := f13
theorem c25 (d : Nat) (a b : Int) (t k : Bool) : callD pgL (d + 1) 25 [hnd u h m w, st a b t k] = .rt (.bl (meF h w a b)) false [] := f25
theorem c14 (d : Nat) (a b : Int) (t k : Bool) : callD pgL (d + 2) 14 [rul u h m w, st a b t k] = .rt (.lst (mvF u h m w a b t k)) true [] := f14 (c13 d a b t k)
theorem c24 (d : Nat) (a b : Int) (t k : Bool) : callD pgL (d + 2) 24 [hnd u h m w, st a b t k] = .rt (.lst (mvF u h m w a b t k)) true [] := f24 (c25 d a b t k)
theorem rf (d : Nat) : RF (callD pgL (d + 2)) u h m w (Rf h m w) (Mvf u h m w) (Mvf u h m w) Bf (Kf h w) Wf (Ef h w) where
  r0 := ⟨0, 0, true, true, rfl, by decide, by decide, fun _ hk => by cases hk⟩
  h23 := f23 (cl := callD pgL (d + 1)) (u := u) (h := h) (m := m) (w := w)
  h2 := f2 (cl := callD pgL (d + 1)) (u := u) (h := h) (m := m) (w := w)
  h24 := fun s ⟨a, b, t, k, e, _⟩ => e ▸ c24 d a b t k
  h14 := fun s ⟨a, b, t, k, e, _⟩ => e ▸ c14 d a b t k
  plM := fun s ⟨a, b, t, k, e, _⟩ => by
    subst e
    have := mv_pl (decide (a + b < u) && (k && (t || !m))) (decide (0 < a) && (t || !m)) (decide (0 < b)) (decide (0 < a)) t (!t && (k && meF h w a b))
    simp only [Bool.and_eq_true] at this
    exact this.1.1.1.1.1
  plN := fun s ⟨a, b, t, k, e, _⟩ => by
    subst e
    have := mv_pl (decide (a + b < u) && (k && (t || !m))) (decide (0 < a) && (t || !m)) (decide (0 < b)) (decide (0 < a)) t (!t && (k && meF h w a b))
    simp only [Bool.and_eq_true] at this
    exact this.1.1.1.1.1
  plS := fun s ⟨a, b, t, k, e, _⟩ => by subst e; rfl
  eqm := fun s _ x => rfl
  h26 := fun s x ⟨a, b, t, k, e, hR⟩ hx => by
    subst e
    have hx : (mvF u h m w a b t k).any (fun z => eqv z x) = true := hx
    refine ⟨?_, ?_, rf_step ⟨a, b, t, k, rfl, hR⟩ hx⟩
    · rcases bh_cases hx with ⟨rfl, e, _⟩ | ⟨rfl, e, _⟩ | ⟨rfl, e, _⟩ | ⟨rfl, e, _⟩ | ⟨rfl, e, _⟩ | ⟨rfl, e, _⟩ <;> rw [e]
      · exact b26_take (cl := callD pgL (d + 1)) (t := t) (k := k) (u := u) (h := h) (m := m) (w := w)
      · exact b26_work (cl := callD pgL (d + 1)) (t := t) (k := k) (u := u) (h := h) (m := m) (w := w)
      · exact b26_rest (cl := callD pgL (d + 1)) (t := t) (k := k) (u := u) (h := h) (m := m) (w := w)
      · exact b26_give (cl := callD pgL (d + 1)) (t := t) (k := k) (u := u) (h := h) (m := m) (w := w)
      · exact b26_leave (cl := callD pgL (d + 1)) (t := t) (k := k) (u := u) (h := h) (m := m) (w := w)
      · exact b26_end (cl := callD pgL (d + 1)) (t := t) (k := k) (u := u) (h := h) (m := m) (w := w)
    · rcases bh_cases hx with ⟨rfl, e, _⟩ | ⟨rfl, e, _⟩ | ⟨rfl, e, _⟩ | ⟨rfl, e, _⟩ | ⟨rfl, e, _⟩ | ⟨rfl, e, _⟩ <;> rw [e]
      · exact b15_take (cl := callD pgL (d + 1)) (t := t) (k := k)
      · exact b15_work (cl := callD pgL (d + 1)) (t := t) (k := k)
      · exact b15_rest (cl := callD pgL (d + 1)) (t := t) (k := k)
      · exact b15_give (cl := callD pgL (d + 1)) (t := t) (k := k)
      · exact b15_leave (cl := callD pgL (d + 1)) (t := t) (k := k)
      · exact b15_end (cl := callD pgL (d + 1)) (t := t) (k := k)
  h4 := fun s ⟨a, b, t, k, e, _⟩ => e ▸ f4 (cl := callD pgL (d + 1)) (u := u) (h := h) (m := m) (w := w) (c25 d a b t k)
  h27 := fun s ⟨a, b, t, k, e, _⟩ => e ▸ f27 (cl := callD pgL (d + 1)) (u := u) (h := h) (m := m) (w := w) (t := t)
  h25 := fun s ⟨a, b, t, k, e, _⟩ => e ▸ c25 (d + 1) a b t k
  h13 := fun s ⟨a, b, t, k, e, _⟩ => e ▸ c13 (d + 1) a b t k
  shp := fun s ⟨a, b, t, k, e, _⟩ => ⟨a, b, t, k, e, by subst e; simp [Kf, Ef, Bool.and_assoc], by subst e; rfl⟩
end
end K45

set_option Elab.async false
set_option linter.all false
set_option maxRecDepth 100000
set_option maxHeartbeats 1000000
open Ev
namespace K45
theorem mv_sort (c1 c2 c3 c4 c5 c6 : Bool) : ∃ q, sortV (.lst (mvB c1 c2 c3 c4 c5 c6)) = some (.lst q, true) ∧ plain (.lst q) = true ∧ eqv (.lst q) (.lst q) = true := by
  have := mv_pl c1 c2 c3 c4 c5 c6
  simp only [Bool.and_eq_true] at this
  have h := this.1.2
  split at h
  · rename_i q e
    simp only [Bool.and_eq_true] at h
    exact ⟨q, e, h.1, h.2⟩
  · cases h
theorem eqv_st (a b : Int) (t k : Bool) : eqv (st a b t k) (st a b t k) = true := by simp [eqv, eqvs]
theorem pl_st (a b : Int) (t k : Bool) : plain (st a b t k) = true := rfl
theorem mv_mem {c1 c2 c3 c4 c5 c6 : Bool} {x : PV} (hx : x ∈ mvB c1 c2 c3 c4 c5 c6) : plain x = true ∧ (mvB c1 c2 c3 c4 c5 c6).any (fun z => eqv z x) = true := by
  have := mv_pl c1 c2 c3 c4 c5 c6
  simp only [Bool.and_eq_true, List.all_eq_true] at this
  exact ⟨this.1.1.1.2 x hx, this.2 x hx⟩
theorem mv_len (c1 c2 c3 c4 c5 c6 : Bool) : (mvB c1 c2 c3 c4 c5 c6).length ≤ 6 ∧ plains (mvB c1 c2 c3 c4 c5 c6) = true ∧ plain (.lst (mvB c1 c2 c3 c4 c5 c6)) = true := by
  have := mv_pl c1 c2 c3 c4 c5 c6
  simp only [Bool.and_eq_true, decide_eq_true_eq] at this
  exact ⟨this.1.1.2, this.1.1.1.1.1, this.1.1.1.1.2⟩
theorem sorted_mvF (u a b : Int) (h m w t k : Bool) : ∃ q, sortV (.lst (mvF u h m w a b t k)) = some (.lst q, true) ∧ plain (.lst q) = true ∧ eqv (.lst q) (.lst q) = true := mv_sort ..
theorem mvF_mem {u a b : Int} {h m w t k : Bool} {x : PV} (hx : x ∈ mvF u h m w a b t k) : plain x = true ∧ (mvF u h m w a b t k).any (fun z => eqv z x) = true := mv_mem hx
theorem mvF_len (u a b : Int) (h m w t k : Bool) : (mvF u h m w a b t k).length ≤ 6 ∧ plain (.lst (mvF u h m w a b t k)) = true := ⟨(mv_len ..).1, (mv_len ..).2.2⟩
section
variable {cl : FC} {W : Nat} {u : Int} {h m w : Bool} {FD WR : PV}
abbrev σ19 (u : Int) (h m w : Bool) (FD WR : PV) (dr s : PV) (mv : List PV) (x y z : Option (PV × Bool)) : Sl := [so dr, sl (rul u h m w), sl (hnd u h m w), sl s, sl FD, sl WR, so (.lst mv), x, y, z, none, none, none]
def EL : E := E.pr (Pr.ne) [E.meth 12 (E.var 2) [E.var 3, E.var 9], E.call 15 [E.var 3, E.var 9]]
theorem el_ok (F : RF cl u h m w (Rf h m w) (Mvf u h m w) (Mvf u h m w) Bf (Kf h w) Wf (Ef h w)) {dr : PV} {a b : Int} {t k : Bool} {mv : List PV} {x y : Option (PV × Bool)} {p : PV} (hR : Rf h m w (st a b t k)) (hp : (mvF u h m w a b t k).any (fun z => eqv z p) = true) :
    ev D.g cl false EL (σ19 u h m w FD WR dr (st a b t k) mv x y (sl p)) = .ok (.v (.bl false) false) (σ19 u h m w FD WR dr (st a b t k) mv x y (sl p)) := by
  obtain ⟨h1, h2, h3⟩ := F.h26 _ p hR hp
  obtain ⟨a', b', t', k', e, _⟩ := h3
  rw [e] at h1 h2
  have e1 := eqv_st a' b' t' k'
  have e2 := pl_st a' b' t' k'
  simp [EL, h1, h2, e1, e2, eqV2, exSs, exS, ev, evs, fin, sget0, sgetS, val, vals, O.bd, O.so, SO.sq, callO, ioS, frzA, sput0, sputS, putS, primO, prim, List.lookup, truthO, truth0, use, asI, disp, starL, isStar, int2, cmpV, gio, gmt, bindT, bindTs, addV, bmO, endF, outV, fok]
theorem any_ok (F : RF cl u h m w (Rf h m w) (Mvf u h m w) (Mvf u h m w) Bf (Kf h w) Wf (Ef h w)) {dr : PV} {a b : Int} {t k : Bool} {mv : List PV} {x z : Option (PV × Bool)} (hR : Rf h m w (st a b t k)) :
    ev D.g cl false (E.lc [9] (T.nm 9) (It.of (E.var 8)) [] EL) (σ19 u h m w FD WR dr (st a b t k) mv x (so (.lst (mvF u h m w a b t k))) z) = .ok (.v (.lst (List.replicate (mvF u h m w a b t k).length (.bl false))) true) (σ19 u h m w FD WR dr (st a b t k) mv x (so (.lst (mvF u h m w a b t k))) z) := by
  have hl := (mvF_len u a b h m w t k).1
  obtain ⟨ρ', e, q, rfl⟩ := lcV_ff (body := fun x ρ => match bindT (.nm 9) x (wipeS ρ [9]) with
        | some ρ => (tests D.g cl [] ρ).bd fun b ρ => if b then (ev D.g cl false EL ρ).bd fun y ρ => (use y ρ).bd fun y ρ => .ok (some y.1) ρ else .ok none ρ
        | none => .no) (i := 8) (l := mvF u h m w a b t k) (I := fun ρ => ∃ q, ρ = σ19 u h m w FD WR dr (st a b t k) mv x (so (.lst (mvF u h m w a b t k))) q)
    (fun ρ ⟨q, e⟩ => by subst e; rfl)
    (fun ρ p ⟨q, e⟩ hp => by
      subst e
      refine ⟨σ19 u h m w FD WR dr (st a b t k) mv x (so (.lst (mvF u h m w a b t k))) (sl p), ?_, _, rfl⟩
      show ((ev D.g cl false EL (σ19 u h m w FD WR dr (st a b t k) mv x (so (.lst (mvF u h m w a b t k))) (sl p))).bd fun y ρ => (use y ρ).bd fun y ρ => .ok (some y.1) ρ) = _
      rw [el_ok F hR (mvF_mem hp).2]
      rfl)
    16777217 0 (σ19 u h m w FD WR dr (st a b t k) mv x (so (.lst (mvF u h m w a b t k))) none) ⟨none, rfl⟩ (by omega)
  rw [ev]
  show ((noEx (lcV (fun x ρ => match bindT (.nm 9) x (wipeS ρ [9]) with
        | some ρ => (tests D.g cl [] ρ).bd fun b ρ => if b then (ev D.g cl false EL ρ).bd fun y ρ => (use y ρ).bd fun y ρ => .ok (some y.1) ρ else .ok none ρ
        | none => .no) 8 16777217 0 (σ19 u h m w FD WR dr (st a b t k) mv x (so (.lst (mvF u h m w a b t k))) none))).bd fun l ρ' => if l.length ≤ 16777216 then O.ok (Ar.v (.lst l) true) (backS (σ19 u h m w FD WR dr (st a b t k) mv x (so (.lst (mvF u h m w a b t k))) z) ρ' [9]) else .no) = _
  rw [e]
  show (if (List.replicate ((mvF u h m w a b t k).length - 0) (PV.bl false)).length ≤ 16777216 then O.ok (Ar.v (.lst (List.replicate ((mvF u h m w a b t k).length - 0) (.bl false))) true) (backS (σ19 u h m w FD WR dr (st a b t k) mv x (so (.lst (mvF u h m w a b t k))) z) (σ19 u h m w FD WR dr (st a b t k) mv x (so (.lst (mvF u h m w a b t k))) q) [9]) else O.no) = _
  rw [if_pos (by rw [List.length_replicate]; omega), Nat.sub_zero]
  rfl
def C1 : E := E.pr (Pr.ne) [E.pr (Pr.sorted1) [E.meth 7 (E.var 2) [E.var 3]], E.pr (Pr.sorted1) [E.var 8]]
def C2 : E := E.pr (Pr.any1) [E.lc [9] (T.nm 9) (It.of (E.var 8)) [] EL]
def C3 : E := E.pr
                        (Pr.ne)
                        [E.meth 10 (E.var 2) [E.var 3],
                         E.and_
                           (E.pr (Pr.gt) [E.pr (Pr.ix) [E.var 3, E.cst (PV.int 1)], E.cst (PV.int 0)])
                           (E.not_ (E.pr (Pr.ix) [E.var 3, E.cst (PV.int 3)]))]
def C4 : E := E.pr (Pr.ne) [E.meth 11 (E.var 2) [E.var 3], E.call 13 [E.var 1, E.var 3]]
theorem c1_ok (F : RF cl u h m w (Rf h m w) (Mvf u h m w) (Mvf u h m w) Bf (Kf h w) Wf (Ef h w)) {dr : PV} {a b : Int} {t k : Bool} {mv : List PV} {x z : Option (PV × Bool)} (hR : Rf h m w (st a b t k)) :
    ev D.g cl true C1 (σ19 u h m w FD WR dr (st a b t k) mv x (so (.lst (mvF u h m w a b t k))) z) = .ok (.v (.bl false) false) (σ19 u h m w FD WR dr (st a b t k) mv x (so (.lst (mvF u h m w a b t k))) z) := by
  have h24 := F.h24 _ hR
  obtain ⟨q, e1, e2, e3⟩ := sorted_mvF u a b h m w t k
  unfold Mvf at h24
  simp [C1, h24, e1, e2, e3, eqV2, exSs, exS, ev, evs, fin, sget0, sgetS, val, vals, O.bd, O.so, SO.sq, callO, ioS, frzA, sput0, sputS, putS, primO, prim, List.lookup, truthO, truth0, use, asI, disp, starL, isStar, int2, cmpV, gio, gmt, bindT, bindTs, addV, bmO, endF, outV, fok]
theorem c2_ok (F : RF cl u h m w (Rf h m w) (Mvf u h m w) (Mvf u h m w) Bf (Kf h w) Wf (Ef h w)) {dr : PV} {a b : Int} {t k : Bool} {mv : List PV} {x z : Option (PV × Bool)} (hR : Rf h m w (st a b t k)) :
    ev D.g cl true C2 (σ19 u h m w FD WR dr (st a b t k) mv x (so (.lst (mvF u h m w a b t k))) z) = .ok (.v (.bl false) false) (σ19 u h m w FD WR dr (st a b t k) mv x (so (.lst (mvF u h m w a b t k))) z) := by
  have ha := any_ok (FD := FD) (WR := WR) F (dr := dr) (mv := mv) (x := x) (z := z) hR
  have hb : onBls (fun bs => .bl (bs.any id)) (.lst (List.replicate (mvF u h m w a b t k).length (.bl false))) = some (.bl false, false) := by rw [onBls, bls_ff, Option.map_some, any_ff]
  unfold C2
  generalize E.lc [9] (T.nm 9) (It.of (E.var 8)) [] EL = X at *
  generalize PV.lst (List.replicate (mvF u h m w a b t k).length (.bl false)) = Y at *
  simp [ev, evs, fin, O.bd, ha, vals, val, primO, prim, hb, truthO, truth0]
theorem c3_ok (F : RF cl u h m w (Rf h m w) (Mvf u h m w) (Mvf u h m w) Bf (Kf h w) Wf (Ef h w)) {dr : PV} {a b : Int} {t k : Bool} {mv : List PV} {x y z : Option (PV × Bool)} (hR : Rf h m w (st a b t k)) :
    ev D.g cl true C3 (σ19 u h m w FD WR dr (st a b t k) mv x y z) = .ok (.v (.bl false) false) (σ19 u h m w FD WR dr (st a b t k) mv x y z) := by
  have h27 := F.h27 _ hR
  unfold Wf at h27
  by_cases hb : 0 < b <;> cases k <;> simp [C3, h27, hb, eqV2, eqv, plain, pl, ixV, L2.atI, L2.ixN, exSs, exS, ev, evs, fin, sget0, sgetS, val, vals, O.bd, O.so, SO.sq, callO, ioS, frzA, sput0, sputS, putS, primO, prim, List.lookup, truthO, truth0, use, asI, disp, starL, isStar, int2, cmpV, gio, gmt, bindT, bindTs, addV, bmO, endF, outV, fok]
theorem c4_ok (F : RF cl u h m w (Rf h m w) (Mvf u h m w) (Mvf u h m w) Bf (Kf h w) Wf (Ef h w)) {dr : PV} {a b : Int} {t k : Bool} {mv : List PV} {x y z : Option (PV × Bool)} (hR : Rf h m w (st a b t k)) :
    ev D.g cl true C4 (σ19 u h m w FD WR dr (st a b t k) mv x y z) = .ok (.v (.bl false) false) (σ19 u h m w FD WR dr (st a b t k) mv x y z) := by
  have h25 := F.h25 _ hR
  have h13 := F.h13 _ hR
  generalize Ef h w (st a b t k) = me at *
  simp [C4, h25, h13, eqV2, eqv, plain, pl, exSs, exS, ev, evs, fin, sget0, sgetS, val, vals, O.bd, O.so, SO.sq, callO, ioS, frzA, sput0, sputS, putS, primO, prim, List.lookup, truthO, truth0, use, asI, disp, starL, isStar, int2, cmpV, gio, gmt, bindT, bindTs, addV, bmO, endF, outV, fok]
def P1 : S := S.ex (E.bm 6 (Bm.append) [E.call 12 [E.var 0, E.var 8]])
def P2 : S := S.asg (T.nm 3) (E.call 15 [E.var 3, E.pr (Pr.ix) [E.var 6, E.pr (Pr.neg) [E.cst (PV.int 1)]]])
def BT : List S := [S.asg (T.nm 8) (E.call 14 [E.var 1, E.var 3]),
              S.ite (E.or_ C1 (E.or_ C2 (E.or_ C3 C4))) [S.ret (some (E.cst (PV.bl false)))] [],
              S.ite (E.pr (Pr.ne) [E.var 8, E.lst []]) [P1, P2] []]
theorem p1_ok {dr dr' s y : PV} {M mv : List PV} {x z : Option (PV × Bool)} (h12 : cl 12 [dr, .lst M] = .rt y false [dr']) (hl : mv.length < 16777216) :
    exS D.g cl W P1 (σ19 u h m w FD WR dr s mv x (so (.lst M)) z) = .nx (σ19 u h m w FD WR dr' s (mv ++ [y]) x (sl (.lst M)) z) := by
  simp [P1, h12, hl, ownS, gio2, exSs, exS, ev, evs, fin, sget0, sgetS, val, vals, O.bd, O.so, SO.sq, callO, ioS, frzA, sput0, sputS, putS, primO, prim, List.lookup, truthO, truth0, use, asI, disp, starL, isStar, int2, cmpV, gio, gmt, bindT, bindTs, addV, bmO, endF, outV, fok]
theorem last_ix {mv : List PV} {y : PV} : L2.atI (mv ++ [y]) (-1) = some y := by
  have h1 : (((mv.length : Nat) : Int) + 1 + -1).toNat = mv.length := by omega
  have h2 : -((mv.length : Nat) : Int) - 1 ≤ -1 := by omega
  have h3 : ¬ (0 : Int) ≤ -1 := by decide
  simp only [L2.atI, L2.ixN, List.length_append, List.length_cons, List.length_nil, h3, if_false]
  rw [if_pos (by omega)]
  show (mv ++ [y])[(-1 + ((mv.length + (0 + 1) : Nat) : Int)).toNat]? = some y
  rw [show (-1 + ((mv.length + (0 + 1) : Nat) : Int)).toNat = mv.length by omega]
  simp
theorem p2_ok {dr s s' y : PV} {mv : List PV} {x z q : Option (PV × Bool)} (h15 : cl 15 [s, y] = .rt s' false []) :
    exS D.g cl W P2 (σ19 u h m w FD WR dr s (mv ++ [y]) x q z) = .nx (σ19 u h m w FD WR dr s' (mv ++ [y]) x q z) := by
  have e := last_ix (mv := mv) (y := y)
  simp [P2, h15, e, ixV, exSs, exS, ev, evs, fin, sget0, sgetS, val, vals, O.bd, O.so, SO.sq, callO, ioS, frzA, sput0, sputS, putS, primO, prim, List.lookup, truthO, truth0, use, asI, disp, starL, isStar, int2, cmpV, gio, gmt, bindT, bindTs, addV, bmO, endF, outV, fok]
end
section
variable {u : Int} {h m w : Bool} {FD WR : PV} {ns : List Int}
theorem turn_ok (hn : ns.length ≤ 63) (d : Nat) {k : Int} {s p : PV} {mv : List PV} {x y z : Option (PV × Bool)} (hR : Rf h m w s) (hp : ∀ x ∈ mv, plain x = true) (hl : mv.length < 16777216) :
    ∃ k' s' mv' y', turn D.g (callD pgL (d + 3)) D.W (.nm 7) BT p (σ19 u h m w FD WR (dr ns k) s mv x y z) = .nx (σ19 u h m w FD WR (dr ns k') s' mv' (sl p) y' z) ∧ Rf h m w s' ∧ (∀ x ∈ mv', plain x = true) ∧ mv'.length ≤ mv.length + 1 := by
  have F := rf (u := u) (h := h) (m := m) (w := w) (d + 1)
  obtain ⟨a, b, t, kk, rfl, hq⟩ := hR
  have hR : Rf h m w (st a b t kk) := ⟨a, b, t, kk, rfl, hq⟩
  have h14 := F.h14 _ hR
  have hM : Mvf u h m w (st a b t kk) = mvF u h m w a b t kk := rfl
  rw [hM] at h14
  have e0 : turn D.g (callD pgL (d + 3)) D.W (.nm 7) BT p (σ19 u h m w FD WR (dr ns k) (st a b t kk) mv x y z) = exSs D.g (callD pgL (d + 3)) D.W BT (σ19 u h m w FD WR (dr ns k) (st a b t kk) mv (sl p) y z) := rfl
  rw [e0]
  unfold BT
  rw [exSs_nx (ρ' := σ19 u h m w FD WR (dr ns k) (st a b t kk) mv (sl p) (so (.lst (mvF u h m w a b t kk))) z) (by simp [h14, exSs, exS, ev, evs, fin, sget0, sgetS, val, vals, O.bd, O.so, SO.sq, callO, ioS, frzA, sput0, sputS, putS, primO, prim, List.lookup, truthO, truth0, use, asI, disp, starL, isStar, int2, cmpV, gio, gmt, bindT, bindTs, addV, bmO, endF, outV, fok])]
  rw [exSs_nx (exS_no ((ev_or_f (c1_ok F hR)).trans ((ev_or_f (c2_ok F hR)).trans ((ev_or_f (c3_ok F hR)).trans (c4_ok F hR)))))]
  obtain ⟨hlm, hpm⟩ := mvF_len u a b h m w t kk
  cases hc : mvF u h m w a b t kk with
  | nil =>
    refine ⟨k, st a b t kk, mv, so (.lst []), ?_, hR, hp, Nat.le_succ _⟩
    rw [exSs_nx (exS_no (ρ' := σ19 u h m w FD WR (dr ns k) (st a b t kk) mv (sl p) (so (.lst [])) z) (o := false) (by simp [eqV2, eqv, eqvs, plain, pl, pls, exSs, exS, ev, evs, fin, sget0, sgetS, val, vals, O.bd, O.so, SO.sq, callO, ioS, frzA, sput0, sputS, putS, primO, prim, List.lookup, truthO, truth0, use, asI, disp, starL, isStar, int2, cmpV, gio, gmt, bindT, bindTs, addV, bmO, endF, outV, fok]))]
    rfl
  | cons c r =>
    obtain ⟨yy, hy, h12⟩ := pickD (ns := ns) hn k (l := mvF u h m w a b t kk) (by rw [hc]; intro hh; cases hh) d
    obtain ⟨py, hy2⟩ := mvF_mem hy
    obtain ⟨_, h15, hR'⟩ := F.h26 _ yy hR hy2
    rw [hc] at h12 hpm
    refine ⟨k + 1, Bf (st a b t kk) yy, mv ++ [yy], sl (.lst (c :: r)), ?_, hR', ?_, by simp⟩
    · have hp0 : plain (.lst []) = true := rfl
      have hne : eqv (.lst (c :: r)) (.lst []) = false := rfl
      rw [exSs_nx ((exS_ite_t (ρ' := σ19 u h m w FD WR (dr ns k) (st a b t kk) mv (sl p) (so (.lst (c :: r))) z) (o := false) (by simp [eqV2, hpm, hp0, hne, exSs, exS, ev, evs, fin, sget0, sgetS, val, vals, O.bd, O.so, SO.sq, callO, ioS, frzA, sput0, sputS, putS, primO, prim, List.lookup, truthO, truth0, use, asI, disp, starL, isStar, int2, cmpV, gio, gmt, bindT, bindTs, addV, bmO, endF, outV, fok])).trans ((exSs_nx (p1_ok h12 hl)).trans ((exSs_nx (p2_ok h15)).trans exSs_nil)))]
      rfl
    · intro x hx
      rcases List.mem_append.1 hx with hx | hx
      · exact hp x hx
      · rw [List.mem_singleton.1 hx]
        exact py
theorem turns_ok (hn : ns.length ≤ 63) (d : Nat) {z : Option (PV × Bool)} : ∀ (xs : List PV) (k : Int) (s : PV) (mv : List PV) (x y : Option (PV × Bool)), Rf h m w s → (∀ x ∈ mv, plain x = true) → mv.length + xs.length < 16777216 →
    ∃ k' s' mv' x' y', forL (turn D.g (callD pgL (d + 3)) D.W (.nm 7) BT) xs (σ19 u h m w FD WR (dr ns k) s mv x y z) = .nx (σ19 u h m w FD WR (dr ns k') s' mv' x' y' z) ∧ Rf h m w s' ∧ (∀ x ∈ mv', plain x = true) ∧ mv'.length ≤ mv.length + xs.length
  | [], k, s, mv, x, y, hR, hp, _ => ⟨k, s, mv, x, y, rfl, hR, hp, Nat.le_refl _⟩
  | p :: xs, k, s, mv, x, y, hR, hp, hl => by
    rw [List.length_cons] at hl
    obtain ⟨k1, s1, mv1, y1, e1, hR1, hp1, hl1⟩ := turn_ok (FD := FD) (WR := WR) (u := u) hn d (k := k) (p := p) (x := x) (y := y) (z := z) hR hp (by omega)
    obtain ⟨k2, s2, mv2, x2, y2, e2, hR2, hp2, hl2⟩ := turns_ok hn d (z := z) xs k1 s1 mv1 (sl p) y1 hR1 hp1 (by omega)
    exact ⟨k2, s2, mv2, x2, y2, (forL_nx e1).trans e2, hR2, hp2, by rw [List.length_cons]; omega⟩
end
end K45

set_option Elab.async false
set_option linter.all false
set_option maxRecDepth 100000
set_option maxHeartbeats 1000000
open Ev
namespace K45
theorem gin : D.g.init 1 = some 28 ∧ D.g.init 2 = some 32 ∧ D.g.init 3 = none ∧ D.g.init 4 = some 39 ∧ D.g.bare 3 = true ∧ D.g.io 28 = [true] ∧ D.g.io 32 = [true] ∧ D.g.io 39 = [true] := by
  refine ⟨?_, ?_, ?_, ?_, ?_, ?_, ?_, ?_⟩ <;> kernel_rfl
theorem gbo : D.g.boolF 1 = some 29 ∧ D.g.boolF 2 = some 33 ∧ D.g.boolF 3 = some 36 ∧ D.g.boolF 4 = some 40 := by
  refine ⟨?_, ?_, ?_, ?_⟩ <;> kernel_rfl
theorem geq : D.g.eqF 1 = some 30 ∧ D.g.eqF 2 = some 34 ∧ D.g.eqF 3 = some 37 ∧ D.g.eqF 4 = some 41 := by
  refine ⟨?_, ?_, ?_, ?_⟩ <;> kernel_rfl
theorem gmk : D.g.isa 1 1 = true ∧ D.g.isa 1 2 = false ∧ D.g.isa 3 3 = true := by
  refine ⟨?_, ?_, ?_⟩ <;> kernel_rfl
abbrev safe (n : Int) : PV := .ins 1 [(6, .int n)]
abbrev spent (l : List PV) : PV := .ins 2 [(7, .tup l)]
abbrev freed : PV := .ins 3 []
abbrev ling (l r : List PV) : PV := .ins 4 [(7, .tup l), (8, .tup r)]
section
variable {cl : FC} {u : Int} {h m w : Bool}
theorem k28 {v : PV} : runF pgL cl 28 [.ins 1 [], v] = .rt .non false [.ins 1 [(6, v)]] := by kernel_rfl
theorem k32 {l : List PV} : runF pgL cl 32 [.ins 2 [], .lst l] = .rt .non false [spent l] := by kernel_rfl
theorem k32t {l : List PV} : runF pgL cl 32 [.ins 2 [], .tup l] = .rt .non false [spent l] := by kernel_rfl
theorem k39 {l r : List PV} : runF pgL cl 39 [.ins 4 [], .lst l, .tup r] = .rt .non false [ling l r] := by kernel_rfl
theorem k29 {x : PV} : runF pgL cl 29 [x] = .rt (.bl true) false [] := by kernel_rfl
theorem k33 {x : PV} : runF pgL cl 33 [x] = .rt (.bl false) false [] := by kernel_rfl
theorem k36 {x : PV} : runF pgL cl 36 [x] = .rt (.bl true) false [] := by kernel_rfl
theorem k40 {x : PV} : runF pgL cl 40 [x] = .rt (.bl false) false [] := by kernel_rfl
theorem k37 : runF pgL cl 37 [freed, freed] = .rt (.bl true) false [] := by kernel_rfl
theorem k34 {l : List PV} {n : Int} : runF pgL cl 34 [spent l, safe n] = .rt (.bl false) false [] := by kernel_rfl
theorem k30 {a b : Int} : runF pgL cl 30 [safe a, safe b] = .rt (.bl (decide (a = b))) false [] := by
  show endF [] (exSs D.g cl D.W fn30.body [sl (safe a), sl (safe b)]) = _
  simp [fn30, exSs, exS, ev, evs, fin, sget0, sgetS, val, vals, O.bd, O.so, SO.sq, callO, ioS, frzA, sput0, sputS, putS, primO, prim, List.lookup, truthO, truth0, use, asI, disp, starL, isStar, int2, cmpV, gio, gmt, gin, gbo, geq, gmk, bindT, bindTs, addV, endF, outV, fok, isNon, eqV2, eqv, plain, pl, okC, lenV]
theorem k31 {J x : PV} {r : Bool} (h3 : cl 3 [hnd u h m w] = .rt J true []) (he : ∃ c fs e c' fs', J = .ins c fs ∧ D.g.eqF c = some e ∧ x = .ins c' fs' ∧ D.g.fok c' 0 = true ∧ cl e [J, x] = .rt (.bl r) false []) : runF pgL cl 31 [x, hnd u h m w] = .rt (.bl r) false [] := by
  show endF [] (exSs D.g cl D.W fn31.body [sl x, sl (hnd u h m w)]) = _
  obtain ⟨c, fs, e, c', fs', rfl, he, rfl, hf, hc⟩ := he
  simp [fn31, h3, he, hf, hc, exSs, exS, ev, evs, fin, sget0, sgetS, val, vals, O.bd, O.so, SO.sq, callO, ioS, frzA, sput0, sputS, putS, primO, prim, List.lookup, truthO, truth0, use, asI, disp, starL, isStar, int2, cmpV, gio, gmt, gin, gbo, geq, gmk, bindT, bindTs, addV, endF, outV, fok, isNon, eqV2, eqv, plain, pl, okC, lenV]
theorem k38 {x F : PV} {r : Bool} (h5 : cl 5 [hnd u h m w] = .rt F true []) (hb : ∃ c fs b, F = .ins c fs ∧ D.g.boolF c = some b ∧ cl b [F] = .rt (.bl r) false []) : runF pgL cl 38 [x, hnd u h m w] = .rt (.bl r) false [] := by
  show endF [] (exSs D.g cl D.W fn38.body [sl x, sl (hnd u h m w)]) = _
  obtain ⟨c, fs, b, rfl, hb, hc⟩ := hb
  simp [fn38, h5, hb, hc, exSs, exS, ev, evs, fin, sget0, sgetS, val, vals, O.bd, O.so, SO.sq, callO, ioS, frzA, sput0, sputS, putS, primO, prim, List.lookup, truthO, truth0, use, asI, disp, starL, isStar, int2, cmpV, gio, gmt, gin, gbo, geq, gmk, bindT, bindTs, addV, endF, outV, fok, isNon, eqV2, eqv, plain, pl, okC, lenV]
theorem f35B {R : PV → Prop} {Mv N : PV → List PV} {B : PV → PV → PV} {Kp Wr Me : PV → Bool} (F : RF cl u h m w R Mv N B Kp Wr Me) {l ms : List PV} (h3 : cl 3 [hnd u h m w] = .rt (spent ms) true []) (hp : ∀ x ∈ l, plain x = true) : runF pgL cl 35 [spent l, hnd u h m w] = .rt (.bl (match wk Mv B (fun s => !Wr s) l s0 with | none => false | some s => Wr s && decide (l.length = ms.length))) false [] := by
  show endF [] (exSs D.g cl D.W fn35.body [sl (.ins 2 [(7, .tup l)]), sl (hnd u h m w), none, none]) = _
  unfold fn35
  rw [exSs_nx (ρ' := [sl (.ins 2 [(7, .tup l)]), sl (hnd u h m w), none, none]) (by simp [F.h2, exSs, exS, ev, evs, fin, sget0, sgetS, val, vals, O.bd, O.so, SO.sq, callO, ioS, frzA, sput0, sputS, putS, primO, prim, List.lookup, truthO, truth0, use, asI, disp, starL, isStar, int2, cmpV, gio, gmt, gin, gbo, geq, gmk, bindT, bindTs, addV, endF, outV, fok, isNon, eqV2, eqv, plain, pl, okC, lenV])]
  rw [exSs_nx (ρ' := [sl (.ins 2 [(7, .tup l)]), sl (hnd u h m w), sl s0, none]) (by simp [F.h23, exSs, exS, ev, evs, fin, sget0, sgetS, val, vals, O.bd, O.so, SO.sq, callO, ioS, frzA, sput0, sputS, putS, primO, prim, List.lookup, truthO, truth0, use, asI, disp, starL, isStar, int2, cmpV, gio, gmt, gin, gbo, geq, gmk, bindT, bindTs, addV, endF, outV, fok, isNon, eqV2, eqv, plain, pl, okC, lenV])]
  have hf : exS D.g cl D.W (S.for_ (T.nm 3) (It.of (E.fld (E.var 0) 7)) bE) [sl (.ins 2 [(7, .tup l)]), sl (hnd u h m w), sl s0, none] = forL (lp cl D.W bE 3) l [sl (.ins 2 [(7, .tup l)]), sl (hnd u h m w), sl s0, none] := exS_for (by simp [evI, exSs, exS, ev, evs, fin, sget0, sgetS, val, vals, O.bd, O.so, SO.sq, callO, ioS, frzA, sput0, sputS, putS, primO, prim, List.lookup, truthO, truth0, use, asI, disp, starL, isStar, int2, cmpV, gio, gmt, gin, gbo, geq, gmk, bindT, bindTs, addV, endF, outV, fok, isNon, eqV2, eqv, plain, pl, okC, lenV])
  rcases lpE F (W := D.W) (a := sl (.ins 2 [(7, .tup l)])) l s0 none F.r0 hp with ⟨e0, ρ', e⟩ | ⟨s', y', e0, hR, e⟩
  · refine Eq.trans (congrArg (endF []) (exSs_rt (hf.trans e))) ?_
    rw [e0]
    rfl
  · refine Eq.trans (congrArg (endF []) (exSs_nx (hf.trans e))) ?_
    rw [e0]
    have h27 := F.h27 s' hR
    show endF [] _ = FO.rt (.bl (Wr s' && decide (l.length = ms.length))) false []
    generalize Wr s' = c at *
    cases c with
    | false =>
      rw [exSs_rt (exS_ret (ev_and_f' (ρ' := [sl (.ins 2 [(7, .tup l)]), sl (hnd u h m w), sl s', y']) (o := false) (by simp [h27, exSs, exS, ev, evs, fin, sget0, sgetS, val, vals, O.bd, O.so, SO.sq, callO, ioS, frzA, sput0, sputS, putS, primO, prim, List.lookup, truthO, truth0, use, asI, disp, starL, isStar, int2, cmpV, gio, gmt, gin, gbo, geq, gmk, bindT, bindTs, addV, endF, outV, fok, isNon, eqV2, eqv, plain, pl, okC, lenV])) (fun i hi => by cases hi))]
      rfl
    | true =>
      have hi : decide (((l.length : Nat) : Int) = ((ms.length : Nat) : Int)) = decide (l.length = ms.length) := by
        by_cases hq : l.length = ms.length
        · simp [hq]
        · simp [hq]; omega
      have hx : ev D.g cl false (E.pr (Pr.eq) [E.pr (Pr.len) [E.fld (E.var 0) 7], E.pr (Pr.len) [E.fld (E.call 3 [E.var 1]) 7]]) [sl (.ins 2 [(7, .tup l)]), sl (hnd u h m w), sl s', y'] = .ok (.v (.bl (decide (l.length = ms.length))) false) [sl (.ins 2 [(7, .tup l)]), sl (hnd u h m w), sl s', y'] := by
        simp [h3, hi, exSs, exS, ev, evs, fin, sget0, sgetS, val, vals, O.bd, O.so, SO.sq, callO, ioS, frzA, sput0, sputS, putS, primO, prim, List.lookup, truthO, truth0, use, asI, disp, starL, isStar, int2, cmpV, gio, gmt, gin, gbo, geq, gmk, bindT, bindTs, addV, endF, outV, fok, isNon, eqV2, eqv, plain, pl, okC, lenV]
      rw [exSs_rt (exS_ret ((ev_and_t' (ρ' := [sl (.ins 2 [(7, .tup l)]), sl (hnd u h m w), sl s', y']) (o := false) (by simp [h27, exSs, exS, ev, evs, fin, sget0, sgetS, val, vals, O.bd, O.so, SO.sq, callO, ioS, frzA, sput0, sputS, putS, primO, prim, List.lookup, truthO, truth0, use, asI, disp, starL, isStar, int2, cmpV, gio, gmt, gin, gbo, geq, gmk, bindT, bindTs, addV, endF, outV, fok, isNon, eqV2, eqv, plain, pl, okC, lenV])).trans hx) (fun i hi => by cases hi))]
      rfl
end
/-! ### what is known of a rule -/
theorem wk_R {u : Int} {h m w : Bool} {ok : PV → Bool} : ∀ (l : List PV) (s s' : PV), Rf h m w s → wk (Mvf u h m w) Bf ok l s = some s' → Rf h m w s'
  | [], s, s', hR, e => by
    injection e with e
    exact e ▸ hR
  | x :: l, s, s', hR, e => by
    rw [wk] at e
    split at e
    · rename_i hc
      rw [Bool.and_eq_true] at hc
      obtain ⟨a, b, t, k, rfl, hq⟩ := hR
      exact wk_R l _ s' (rf_step ⟨a, b, t, k, rfl, hq⟩ hc.1) e
    · cases e
/-- the freed rules' ring -/
theorem no_ring {u : Int} {h m w : Bool} (hc : (m || (!h && !w) || decide (u ≤ 1)) = true) (l : List PV) : lingF (Mvf u h m w) Bf (Kf h w) l [take_, give_] = false := by
  unfold lingF
  cases e : wk (Mvf u h m w) Bf (fun _ => true) l s0 with
  | none => rfl
  | some s =>
    obtain ⟨a, b, t, k, rfl, ha, hb, _⟩ := wk_R l _ s ⟨0, 0, true, true, rfl, by decide, by decide, fun _ hk => by cases hk⟩ e
    have hn : wk (Mvf u h m w) Bf (Kf h w) [take_, give_] (st a b t k) = none := by
      rw [wk]
      split
      · rename_i hq
        exfalso
        rw [Bool.and_eq_true] at hq
        obtain ⟨h1, h2⟩ := hq
        have h2 : (!t && (k && !meF h w a b)) = true := h2
        simp only [Bool.and_eq_true, Bool.not_eq_true'] at h2
        obtain ⟨h2, _, h3⟩ := h2
        rcases bh_cases h1 with ⟨_, _, h4, _, h5⟩ | ⟨e, _⟩ | ⟨e, _⟩ | ⟨e, _⟩ | ⟨e, _⟩ | ⟨e, _⟩
        · subst h2
          have hm : m = false := by simpa using h5
          subst hm
          unfold meF at h3
          cases h with
          | true =>
            simp at h3 hc
            omega
          | false =>
            cases w with
            | false => simp at h3
            | true =>
              simp at h3 hc
              omega
        · simp at e
        · simp at e
        · simp at e
        · simp at e
        · simp at e
      · rfl
    show (match wk (Mvf u h m w) Bf (Kf h w) [take_, give_] (st a b t k) with
    | none => false
    | some s' => !([take_, give_] : List PV).isEmpty && eqv s' (st a b t k)) = false
    rw [hn]
theorem no_none {u : Int} {h m w : Bool} (l : List PV) : lingF (Mvf u h m w) Bf (Kf h w) l [.non] = false := by
  unfold lingF
  cases e : wk (Mvf u h m w) Bf (fun _ => true) l s0 with
  | none => rfl
  | some s =>
    obtain ⟨a, b, t, k, rfl, ha, hb, _⟩ := wk_R l _ s ⟨0, 0, true, true, rfl, by decide, by decide, fun _ hk => by cases hk⟩ e
    have hn : wk (Mvf u h m w) Bf (Kf h w) [.non] (st a b t k) = none := by
      rw [wk]
      split
      · rename_i hq
        exfalso
        rw [Bool.and_eq_true] at hq
        rcases bh_cases hq.1 with ⟨e, _⟩ | ⟨e, _⟩ | ⟨e, _⟩ | ⟨e, _⟩ | ⟨e, _⟩ | ⟨e, _⟩ <;> cases e
      · rfl
    show (match wk (Mvf u h m w) Bf (Kf h w) [.non] (st a b t k) with
    | none => false
    | some s' => !([.non] : List PV).isEmpty && eqv s' (st a b t k)) = false
    rw [hn]
/-- the answers of the two judges -/
structure RD (cl : FC) (u : Int) (h m w : Bool) (fd : List (PV × PV)) (WR J F : PV) (rg : Bool) : Prop where
  h16 : cl 16 [rul u h m w] = .rt (.tup [.dct fd, WR]) false []
  h17 : cl 17 [rul u h m w, .dct fd] = .rt (.bl rg) false []
  h3 : cl 3 [hnd u h m w] = .rt J true []
  h5 : cl 5 [hnd u h m w] = .rt F true []
abbrev τ (u : Int) (h m w : Bool) (fd : List (PV × PV)) (WR J F : PV) (dr s : PV) (mv : List PV) (om oj of : Bool) (x y z q : Option (PV × Bool)) : Sl := [so dr, sl (rul u h m w), sl (hnd u h m w), sl s, sl (.dct fd), sl WR, some (.lst mv, om), x, y, z, some (J, oj), some (F, of), q]
section
variable {cl : FC} {W : Nat} {u : Int} {h m w : Bool} {fd : List (PV × PV)} {WR J F dr s : PV} {mv : List PV} {om oj of : Bool} {x y z q : Option (PV × Bool)}
def D1 : E := E.pr (Pr.ne) [E.pr (Pr.bool1) [E.var 10], E.pr (Pr.isN) [E.var 5]]
def D2 : E := E.not_ (E.meth 13 (E.var 10) [E.var 2])
def D3 : E := E.pr (Pr.eq) [E.pr (Pr.bool1) [E.var 11], E.call 17 [E.var 1, E.var 4]]
def D4 : E := E.not_ (E.meth 13 (E.var 11) [E.var 2])
theorem d1A {n : Int} (h29 : cl 29 [safe n] = .rt (.bl true) false []) : ev D.g cl true D1 (τ u h m w fd .non (safe n) F dr s mv om oj of x y z q) = .ok (.v (.bl false) false) (τ u h m w fd .non (safe n) F dr s mv om oj of x y z q) := by
  simp [D1, h29, exSs, exS, ev, evs, fin, sget0, sgetS, val, vals, O.bd, O.so, SO.sq, callO, ioS, frzA, sput0, sputS, putS, primO, prim, List.lookup, truthO, truth0, use, asI, disp, starL, isStar, int2, cmpV, gio, gmt, gin, gbo, geq, gmk, bindT, bindTs, addV, endF, outV, fok, isNon, eqV2, eqv, plain, pl, okC, lenV]
theorem d1B {l : List PV} {n : Int} (h33 : cl 33 [spent l] = .rt (.bl false) false []) : ev D.g cl true D1 (τ u h m w fd (.int n) (spent l) F dr s mv om oj of x y z q) = .ok (.v (.bl false) false) (τ u h m w fd (.int n) (spent l) F dr s mv om oj of x y z q) := by
  simp [D1, h33, exSs, exS, ev, evs, fin, sget0, sgetS, val, vals, O.bd, O.so, SO.sq, callO, ioS, frzA, sput0, sputS, putS, primO, prim, List.lookup, truthO, truth0, use, asI, disp, starL, isStar, int2, cmpV, gio, gmt, gin, gbo, geq, gmk, bindT, bindTs, addV, endF, outV, fok, isNon, eqV2, eqv, plain, pl, okC, lenV]
theorem d2A {n : Int} (h31 : cl 31 [safe n, hnd u h m w] = .rt (.bl true) false []) : ev D.g cl true D2 (τ u h m w fd WR (safe n) F dr s mv om oj of x y z q) = .ok (.v (.bl false) false) (τ u h m w fd WR (safe n) F dr s mv om false of x y z q) := by
  simp [D2, h31, exSs, exS, ev, evs, fin, sget0, sgetS, val, vals, O.bd, O.so, SO.sq, callO, ioS, frzA, sput0, sputS, putS, primO, prim, List.lookup, truthO, truth0, use, asI, disp, starL, isStar, int2, cmpV, gio, gmt, gin, gbo, geq, gmk, bindT, bindTs, addV, endF, outV, fok, isNon, eqV2, eqv, plain, pl, okC, lenV]
theorem d2B {l : List PV} (h35 : cl 35 [spent l, hnd u h m w] = .rt (.bl true) false []) : ev D.g cl true D2 (τ u h m w fd WR (spent l) F dr s mv om oj of x y z q) = .ok (.v (.bl false) false) (τ u h m w fd WR (spent l) F dr s mv om false of x y z q) := by
  simp [D2, h35, exSs, exS, ev, evs, fin, sget0, sgetS, val, vals, O.bd, O.so, SO.sq, callO, ioS, frzA, sput0, sputS, putS, primO, prim, List.lookup, truthO, truth0, use, asI, disp, starL, isStar, int2, cmpV, gio, gmt, gin, gbo, geq, gmk, bindT, bindTs, addV, endF, outV, fok, isNon, eqV2, eqv, plain, pl, okC, lenV]
theorem d3F (h17 : cl 17 [rul u h m w, .dct fd] = .rt (.bl false) false []) (h36 : cl 36 [freed] = .rt (.bl true) false []) : ev D.g cl true D3 (τ u h m w fd WR J freed dr s mv om oj of x y z q) = .ok (.v (.bl false) false) (τ u h m w fd WR J freed dr s mv om oj of x y z q) := by
  simp [D3, h17, h36, exSs, exS, ev, evs, fin, sget0, sgetS, val, vals, O.bd, O.so, SO.sq, callO, ioS, frzA, sput0, sputS, putS, primO, prim, List.lookup, truthO, truth0, use, asI, disp, starL, isStar, int2, cmpV, gio, gmt, gin, gbo, geq, gmk, bindT, bindTs, addV, endF, outV, fok, isNon, eqV2, eqv, plain, pl, okC, lenV]
theorem d3L {l r : List PV} (h17 : cl 17 [rul u h m w, .dct fd] = .rt (.bl true) false []) (h40 : cl 40 [ling l r] = .rt (.bl false) false []) : ev D.g cl true D3 (τ u h m w fd WR J (ling l r) dr s mv om oj of x y z q) = .ok (.v (.bl false) false) (τ u h m w fd WR J (ling l r) dr s mv om oj of x y z q) := by
  simp [D3, h17, h40, exSs, exS, ev, evs, fin, sget0, sgetS, val, vals, O.bd, O.so, SO.sq, callO, ioS, frzA, sput0, sputS, putS, primO, prim, List.lookup, truthO, truth0, use, asI, disp, starL, isStar, int2, cmpV, gio, gmt, gin, gbo, geq, gmk, bindT, bindTs, addV, endF, outV, fok, isNon, eqV2, eqv, plain, pl, okC, lenV]
theorem d4F (h38 : cl 38 [freed, hnd u h m w] = .rt (.bl true) false []) : ev D.g cl true D4 (τ u h m w fd WR J freed dr s mv om oj of x y z q) = .ok (.v (.bl false) false) (τ u h m w fd WR J freed dr s mv om oj false x y z q) := by
  simp [D4, h38, exSs, exS, ev, evs, fin, sget0, sgetS, val, vals, O.bd, O.so, SO.sq, callO, ioS, frzA, sput0, sputS, putS, primO, prim, List.lookup, truthO, truth0, use, asI, disp, starL, isStar, int2, cmpV, gio, gmt, gin, gbo, geq, gmk, bindT, bindTs, addV, endF, outV, fok, isNon, eqV2, eqv, plain, pl, okC, lenV]
theorem d4L {l r : List PV} (h42 : cl 42 [ling l r, hnd u h m w] = .rt (.bl true) false []) : ev D.g cl true D4 (τ u h m w fd WR J (ling l r) dr s mv om oj of x y z q) = .ok (.v (.bl false) false) (τ u h m w fd WR J (ling l r) dr s mv om oj false x y z q) := by
  simp [D4, h42, exSs, exS, ev, evs, fin, sget0, sgetS, val, vals, O.bd, O.so, SO.sq, callO, ioS, frzA, sput0, sputS, putS, primO, prim, List.lookup, truthO, truth0, use, asI, disp, starL, isStar, int2, cmpV, gio, gmt, gin, gbo, geq, gmk, bindT, bindTs, addV, endF, outV, fok, isNon, eqV2, eqv, plain, pl, okC, lenV]
/-! the test of a safe rule -/
def S7c : E := E.and_
               (E.pr (Pr.isN) [E.var 5])
               (E.or_
                 (E.pr (Pr.ne) [E.var 10, E.mk 1 [E.pr (Pr.len) [E.var 4]]])
                 (E.or_
                   (E.meth 13 (E.mk 1 [E.pr (Pr.add) [E.pr (Pr.len) [E.var 4], E.cst (PV.int 1)]]) [E.var 2])
                   (E.meth 13 (E.mk 2 [E.var 6]) [E.var 2])))
theorem s7A (hl : ∀ v, cl 28 [.ins 1 [], v] = .rt .non false [.ins 1 [(6, v)]]) (h30 : cl 30 [safe fd.length, safe fd.length] = .rt (.bl true) false []) (h31 : cl 31 [safe ((fd.length : Int) + 1), hnd u h m w] = .rt (.bl false) false []) (h32 : cl 32 [.ins 2 [], .lst mv] = .rt .non false [spent mv]) (h35 : cl 35 [spent mv, hnd u h m w] = .rt (.bl false) false []) :
    ev D.g cl true S7c (τ u h m w fd .non (safe fd.length) F dr s mv om oj of x y z q) = .ok (.v (.bl false) false) (τ u h m w fd .non (safe fd.length) F dr s mv false oj of x y z q) := by
  unfold S7c
  refine (ev_and_t (ρ' := τ u h m w fd .non (safe fd.length) F dr s mv om oj of x y z q) (o := false) (by simp [exSs, exS, ev, evs, fin, sget0, sgetS, val, vals, O.bd, O.so, SO.sq, callO, ioS, frzA, sput0, sputS, putS, primO, prim, List.lookup, truthO, truth0, use, asI, disp, starL, isStar, int2, cmpV, gio, gmt, gin, gbo, geq, gmk, bindT, bindTs, addV, endF, outV, fok, isNon, eqV2, eqv, plain, pl, okC, lenV])).trans ?_
  refine (ev_or_f (ρ' := τ u h m w fd .non (safe fd.length) F dr s mv om oj of x y z q) (o := false) (by simp [hl, h30, exSs, exS, ev, evs, fin, sget0, sgetS, val, vals, O.bd, O.so, SO.sq, callO, ioS, frzA, sput0, sputS, putS, primO, prim, List.lookup, truthO, truth0, use, asI, disp, starL, isStar, int2, cmpV, gio, gmt, gin, gbo, geq, gmk, bindT, bindTs, addV, endF, outV, fok, isNon, eqV2, eqv, plain, pl, okC, lenV])).trans ?_
  refine (ev_or_f (ρ' := τ u h m w fd .non (safe fd.length) F dr s mv om oj of x y z q) (o := false) (by simp [hl, h31, exSs, exS, ev, evs, fin, sget0, sgetS, val, vals, O.bd, O.so, SO.sq, callO, ioS, frzA, sput0, sputS, putS, primO, prim, List.lookup, truthO, truth0, use, asI, disp, starL, isStar, int2, cmpV, gio, gmt, gin, gbo, geq, gmk, bindT, bindTs, addV, endF, outV, fok, isNon, eqV2, eqv, plain, pl, okC, lenV])).trans ?_
  simp [h32, h35, exSs, exS, ev, evs, fin, sget0, sgetS, val, vals, O.bd, O.so, SO.sq, callO, ioS, frzA, sput0, sputS, putS, primO, prim, List.lookup, truthO, truth0, use, asI, disp, starL, isStar, int2, cmpV, gio, gmt, gin, gbo, geq, gmk, bindT, bindTs, addV, endF, outV, fok, isNon, eqV2, eqv, plain, pl, okC, lenV]
theorem s7B {n : Int} : ev D.g cl true S7c (τ u h m w fd (.int n) J F dr s mv om oj of x y z q) = .ok (.v (.bl false) false) (τ u h m w fd (.int n) J F dr s mv om oj of x y z q) := by
  unfold S7c
  exact (ev_and_f (o := false) (by simp [exSs, exS, ev, evs, fin, sget0, sgetS, val, vals, O.bd, O.so, SO.sq, callO, ioS, frzA, sput0, sputS, putS, primO, prim, List.lookup, truthO, truth0, use, asI, disp, starL, isStar, int2, cmpV, gio, gmt, gin, gbo, geq, gmk, bindT, bindTs, addV, endF, outV, fok, isNon, eqV2, eqv, plain, pl, okC, lenV]))
def S8c : E := E.and_
               (E.pr (Pr.notN) [E.var 5])
               (E.or_
                 (E.pr (Pr.ne) [E.pr (Pr.len) [E.fld (E.var 10) 7], E.var 5])
                 (E.or_
                   (E.meth 13 (E.mk 2 [E.pr (Pr.sll false true) [E.fld (E.var 10) 7, E.pr (Pr.neg) [E.cst (PV.int 1)]]]) [E.var 2])
                   (E.or_ (E.meth 13 (E.mk 1 [E.pr (Pr.len) [E.var 4]]) [E.var 2]) (E.meth 13 (E.mk 2 [E.tup [E.cst (PV.non)]]) [E.var 2]))))
theorem s8A : ev D.g cl true S8c (τ u h m w fd .non J F dr s mv om oj of x y z q) = .ok (.v (.bl false) false) (τ u h m w fd .non J F dr s mv om oj of x y z q) := by
  unfold S8c
  exact (ev_and_f (o := false) (by simp [exSs, exS, ev, evs, fin, sget0, sgetS, val, vals, O.bd, O.so, SO.sq, callO, ioS, frzA, sput0, sputS, putS, primO, prim, List.lookup, truthO, truth0, use, asI, disp, starL, isStar, int2, cmpV, gio, gmt, gin, gbo, geq, gmk, bindT, bindTs, addV, endF, outV, fok, isNon, eqV2, eqv, plain, pl, okC, lenV]))
theorem s8B {l l' : List PV} {n : Int} (hn : (l.length : Int) = n) (hl : ∀ v, cl 28 [.ins 1 [], v] = .rt .non false [.ins 1 [(6, v)]]) (h32 : ∀ l, cl 32 [.ins 2 [], .tup l] = .rt .non false [spent l]) (hc : cutA l none (some (-1)) = l') (h35 : cl 35 [spent l', hnd u h m w] = .rt (.bl false) false []) (h31 : cl 31 [safe fd.length, hnd u h m w] = .rt (.bl false) false []) (h35n : cl 35 [spent [.non], hnd u h m w] = .rt (.bl false) false []) :
    ev D.g cl true S8c (τ u h m w fd (.int n) (spent l) F dr s mv om oj of x y z q) = .ok (.v (.bl false) false) (τ u h m w fd (.int n) (spent l) F dr s mv om oj of x y z q) := by
  unfold S8c
  refine (ev_and_t (ρ' := τ u h m w fd (.int n) (spent l) F dr s mv om oj of x y z q) (o := false) (by simp [exSs, exS, ev, evs, fin, sget0, sgetS, val, vals, O.bd, O.so, SO.sq, callO, ioS, frzA, sput0, sputS, putS, primO, prim, List.lookup, truthO, truth0, use, asI, disp, starL, isStar, int2, cmpV, gio, gmt, gin, gbo, geq, gmk, bindT, bindTs, addV, endF, outV, fok, isNon, eqV2, eqv, plain, pl, okC, lenV])).trans ?_
  refine (ev_or_f (ρ' := τ u h m w fd (.int n) (spent l) F dr s mv om oj of x y z q) (o := false) (by simp [hn, exSs, exS, ev, evs, fin, sget0, sgetS, val, vals, O.bd, O.so, SO.sq, callO, ioS, frzA, sput0, sputS, putS, primO, prim, List.lookup, truthO, truth0, use, asI, disp, starL, isStar, int2, cmpV, gio, gmt, gin, gbo, geq, gmk, bindT, bindTs, addV, endF, outV, fok, isNon, eqV2, eqv, plain, pl, okC, lenV])).trans ?_
  refine (ev_or_f (ρ' := τ u h m w fd (.int n) (spent l) F dr s mv om oj of x y z q) (o := false) (by simp [h32, h35, hc, sllV, exSs, exS, ev, evs, fin, sget0, sgetS, val, vals, O.bd, O.so, SO.sq, callO, ioS, frzA, sput0, sputS, putS, primO, prim, List.lookup, truthO, truth0, use, asI, disp, starL, isStar, int2, cmpV, gio, gmt, gin, gbo, geq, gmk, bindT, bindTs, addV, endF, outV, fok, isNon, eqV2, eqv, plain, pl, okC, lenV])).trans ?_
  refine (ev_or_f (ρ' := τ u h m w fd (.int n) (spent l) F dr s mv om oj of x y z q) (o := false) (by simp [hl, h31, exSs, exS, ev, evs, fin, sget0, sgetS, val, vals, O.bd, O.so, SO.sq, callO, ioS, frzA, sput0, sputS, putS, primO, prim, List.lookup, truthO, truth0, use, asI, disp, starL, isStar, int2, cmpV, gio, gmt, gin, gbo, geq, gmk, bindT, bindTs, addV, endF, outV, fok, isNon, eqV2, eqv, plain, pl, okC, lenV])).trans ?_
  simp [h32, h35n, exSs, exS, ev, evs, fin, sget0, sgetS, val, vals, O.bd, O.so, SO.sq, callO, ioS, frzA, sput0, sputS, putS, primO, prim, List.lookup, truthO, truth0, use, asI, disp, starL, isStar, int2, cmpV, gio, gmt, gin, gbo, geq, gmk, bindT, bindTs, addV, endF, outV, fok, isNon, eqV2, eqv, plain, pl, okC, lenV]
def S9c : E := E.and_
               (E.var 11)
               (E.or_
                 (E.pr (Pr.ne) [E.var 11, E.mk 3 []])
                 (E.meth 13 (E.mk 4 [E.var 6, E.tup [E.cst (PV.str [116, 97, 107, 101]), E.cst (PV.str [103, 105, 118, 101])]]) [E.var 2]))
theorem s9F (h36 : cl 36 [freed] = .rt (.bl true) false []) (h37 : cl 37 [freed, freed] = .rt (.bl true) false []) (h39 : cl 39 [.ins 4 [], .lst mv, .tup [take_, give_]] = .rt .non false [ling mv [take_, give_]]) (h42 : cl 42 [ling mv [take_, give_], hnd u h m w] = .rt (.bl false) false []) :
    ev D.g cl true S9c (τ u h m w fd WR J freed dr s mv om oj of x y z q) = .ok (.v (.bl false) false) (τ u h m w fd WR J freed dr s mv false oj of x y z q) := by
  unfold S9c
  refine (ev_and_t (ρ' := τ u h m w fd WR J freed dr s mv om oj of x y z q) (o := false) (by simp [h36, exSs, exS, ev, evs, fin, sget0, sgetS, val, vals, O.bd, O.so, SO.sq, callO, ioS, frzA, sput0, sputS, putS, primO, prim, List.lookup, truthO, truth0, use, asI, disp, starL, isStar, int2, cmpV, gio, gmt, gin, gbo, geq, gmk, bindT, bindTs, addV, endF, outV, fok, isNon, eqV2, eqv, plain, pl, okC, lenV])).trans ?_
  refine (ev_or_f (ρ' := τ u h m w fd WR J freed dr s mv om oj of x y z q) (o := false) (by simp [h37, exSs, exS, ev, evs, fin, sget0, sgetS, val, vals, O.bd, O.so, SO.sq, callO, ioS, frzA, sput0, sputS, putS, primO, prim, List.lookup, truthO, truth0, use, asI, disp, starL, isStar, int2, cmpV, gio, gmt, gin, gbo, geq, gmk, bindT, bindTs, addV, endF, outV, fok, isNon, eqV2, eqv, plain, pl, okC, lenV])).trans ?_
  simp [h39, h42, exSs, exS, ev, evs, fin, sget0, sgetS, val, vals, O.bd, O.so, SO.sq, callO, ioS, frzA, sput0, sputS, putS, primO, prim, List.lookup, truthO, truth0, use, asI, disp, starL, isStar, int2, cmpV, gio, gmt, gin, gbo, geq, gmk, bindT, bindTs, addV, endF, outV, fok, isNon, eqV2, eqv, plain, pl, okC, lenV]
theorem s9L {l r : List PV} (h40 : cl 40 [ling l r] = .rt (.bl false) false []) : ev D.g cl true S9c (τ u h m w fd WR J (ling l r) dr s mv om oj of x y z q) = .ok (.v (.bl false) false) (τ u h m w fd WR J (ling l r) dr s mv om oj of x y z q) := by
  unfold S9c
  exact (ev_and_f (o := false) (by simp [h40, exSs, exS, ev, evs, fin, sget0, sgetS, val, vals, O.bd, O.so, SO.sq, callO, ioS, frzA, sput0, sputS, putS, primO, prim, List.lookup, truthO, truth0, use, asI, disp, starL, isStar, int2, cmpV, gio, gmt, gin, gbo, geq, gmk, bindT, bindTs, addV, endF, outV, fok, isNon, eqV2, eqv, plain, pl, okC, lenV]))
def S10c : E := E.and_ (E.not_ (E.var 11)) (E.or_ (E.not_ (E.call 18 [E.var 1, E.fld (E.var 11) 7, E.fld (E.var 11) 8])) (E.meth 13 (E.mk 3 []) [E.var 2]))
theorem s10F (h36 : cl 36 [freed] = .rt (.bl true) false []) : ev D.g cl true S10c (τ u h m w fd WR J freed dr s mv om oj of x y z q) = .ok (.v (.bl false) false) (τ u h m w fd WR J freed dr s mv om oj of x y z q) := by
  unfold S10c
  exact (ev_and_f (o := false) (by simp [h36, exSs, exS, ev, evs, fin, sget0, sgetS, val, vals, O.bd, O.so, SO.sq, callO, ioS, frzA, sput0, sputS, putS, primO, prim, List.lookup, truthO, truth0, use, asI, disp, starL, isStar, int2, cmpV, gio, gmt, gin, gbo, geq, gmk, bindT, bindTs, addV, endF, outV, fok, isNon, eqV2, eqv, plain, pl, okC, lenV]))
theorem s10L {l r : List PV} (h40 : cl 40 [ling l r] = .rt (.bl false) false []) (h18 : cl 18 [rul u h m w, .tup l, .tup r] = .rt (.bl true) false []) (h38 : cl 38 [freed, hnd u h m w] = .rt (.bl false) false []) :
    ev D.g cl true S10c (τ u h m w fd WR J (ling l r) dr s mv om oj of x y z q) = .ok (.v (.bl false) false) (τ u h m w fd WR J (ling l r) dr s mv om oj of x y z q) := by
  unfold S10c
  refine (ev_and_t (ρ' := τ u h m w fd WR J (ling l r) dr s mv om oj of x y z q) (o := false) (by simp [h40, exSs, exS, ev, evs, fin, sget0, sgetS, val, vals, O.bd, O.so, SO.sq, callO, ioS, frzA, sput0, sputS, putS, primO, prim, List.lookup, truthO, truth0, use, asI, disp, starL, isStar, int2, cmpV, gio, gmt, gin, gbo, geq, gmk, bindT, bindTs, addV, endF, outV, fok, isNon, eqV2, eqv, plain, pl, okC, lenV])).trans ?_
  refine (ev_or_f (ρ' := τ u h m w fd WR J (ling l r) dr s mv om oj of x y z q) (o := false) (by simp [h18, exSs, exS, ev, evs, fin, sget0, sgetS, val, vals, O.bd, O.so, SO.sq, callO, ioS, frzA, sput0, sputS, putS, primO, prim, List.lookup, truthO, truth0, use, asI, disp, starL, isStar, int2, cmpV, gio, gmt, gin, gbo, geq, gmk, bindT, bindTs, addV, endF, outV, fok, isNon, eqV2, eqv, plain, pl, okC, lenV])).trans ?_
  simp [h38, exSs, exS, ev, evs, fin, sget0, sgetS, val, vals, O.bd, O.so, SO.sq, callO, ioS, frzA, sput0, sputS, putS, primO, prim, List.lookup, truthO, truth0, use, asI, disp, starL, isStar, int2, cmpV, gio, gmt, gin, gbo, geq, gmk, bindT, bindTs, addV, endF, outV, fok, isNon, eqV2, eqv, plain, pl, okC, lenV]
end
end K45

set_option Elab.async false
set_option linter.all false
set_option maxRecDepth 100000
set_option maxHeartbeats 0
open Ev
namespace K45

def wnF (h m w : Bool) : Bool := h || (w && m)
def rgF (u : Int) (h m w : Bool) : Bool := !(m || (!h && !w) || (decide (u ≤ 1) && !h))
def Jl (w : Bool) : List PV := if w then [take_, leave_, end_, work_] else [take_, work_, leave_, end_]
def Fl (h : Bool) : List PV := if h then [take_, leave_] else [take_, work_, leave_]
def Fr (u : Int) (h : Bool) : List PV := if h && decide (u ≤ 1) then [work_, rest_] else [take_, give_]
def Jf (h m w : Bool) (n : Int) : PV := if wnF h m w then safe n else spent (Jl w)
def Wrf (h m w : Bool) : PV := if wnF h m w then .non else .int 4
def Ffr (u : Int) (h m w : Bool) : PV := if rgF u h m w then ling (Fl h) (Fr u h) else freed
def isRt (o : Bool) (v : PV) : FO → Bool
  | .rt q o' [] => o == o' && same q v
  | _ => false
theorem isRt_ok {o : Bool} {v : PV} {r : FO} (h : isRt o v r = true) : r = .rt v o [] := by
  unfold isRt at h
  split at h
  · rename_i q o'
    rw [Bool.and_eq_true] at h
    rw [same_ok _ _ h.2, eq_of_beq h.1]
  · cases h
def wkd (u : Int) (h m w : Bool) : FO → Bool
  | .rt (.tup [.dct fd, wr]) false [] => same wr (Wrf h m w) && isRt false (.bl (rgF u h m w)) (callD pgL 10 17 [rul u h m w, .dct fd]) && isRt true (Jf h m w fd.length) (callD pgL 10 3 [hnd u h m w])
  | _ => false
theorem wkd_ok {u : Int} {h m w : Bool} (hc : wkd u h m w (callD pgL 10 16 [rul u h m w]) = true) (h5 : isRt true (Ffr u h m w) (callD pgL 10 5 [hnd u h m w]) = true) : ∃ fd, RD (callD pgL 10) u h m w fd (Wrf h m w) (Jf h m w fd.length) (Ffr u h m w) (rgF u h m w) := by
  unfold wkd at hc
  split at hc
  · rename_i fd wr e
    simp only [Bool.and_eq_true] at hc
    refine ⟨fd, ?_, isRt_ok hc.1.2, isRt_ok hc.2, isRt_ok h5⟩
    rw [e, same_ok _ _ hc.1.1]
  · cases hc
end K45

set_option Elab.async false
set_option linter.all false
set_option maxRecDepth 100000
set_option maxHeartbeats 0
open Ev
namespace K45
theorem r1fff : wkd 1 false false false (callD pgL 10 16 [rul 1 false false false]) = true := by decide +kernel
theorem q1fff : isRt true (Ffr 1 false false false) (callD pgL 10 5 [hnd 1 false false false]) = true := by decide +kernel
theorem r1fft : wkd 1 false false true (callD pgL 10 16 [rul 1 false false true]) = true := by decide +kernel
theorem q1fft : isRt true (Ffr 1 false false true) (callD pgL 10 5 [hnd 1 false false true]) = true := by decide +kernel
theorem r1ftf : wkd 1 false true false (callD pgL 10 16 [rul 1 false true false]) = true := by decide +kernel
theorem q1ftf : isRt true (Ffr 1 false true false) (callD pgL 10 5 [hnd 1 false true false]) = true := by decide +kernel
theorem r1ftt : wkd 1 false true true (callD pgL 10 16 [rul 1 false true true]) = true := by decide +kernel
theorem q1ftt : isRt true (Ffr 1 false true true) (callD pgL 10 5 [hnd 1 false true true]) = true := by decide +kernel
theorem r1tff : wkd 1 true false false (callD pgL 10 16 [rul 1 true false false]) = true := by decide +kernel
theorem q1tff : isRt true (Ffr 1 true false false) (callD pgL 10 5 [hnd 1 true false false]) = true := by decide +kernel
theorem r1tft : wkd 1 true false true (callD pgL 10 16 [rul 1 true false true]) = true := by decide +kernel
theorem q1tft : isRt true (Ffr 1 true false true) (callD pgL 10 5 [hnd 1 true false true]) = true := by decide +kernel
theorem r1ttf : wkd 1 true true false (callD pgL 10 16 [rul 1 true true false]) = true := by decide +kernel
theorem q1ttf : isRt true (Ffr 1 true true false) (callD pgL 10 5 [hnd 1 true true false]) = true := by decide +kernel
theorem r1ttt : wkd 1 true true true (callD pgL 10 16 [rul 1 true true true]) = true := by decide +kernel
theorem q1ttt : isRt true (Ffr 1 true true true) (callD pgL 10 5 [hnd 1 true true true]) = true := by decide +kernel
end K45

set_option Elab.async false
set_option linter.all false
set_option maxRecDepth 100000
set_option maxHeartbeats 0
open Ev
namespace K45
theorem r2fff : wkd 2 false false false (callD pgL 10 16 [rul 2 false false false]) = true := by decide +kernel
theorem q2fff : isRt true (Ffr 2 false false false) (callD pgL 10 5 [hnd 2 false false false]) = true := by decide +kernel
theorem r2fft : wkd 2 false false true (callD pgL 10 16 [rul 2 false false true]) = true := by decide +kernel
theorem q2fft : isRt true (Ffr 2 false false true) (callD pgL 10 5 [hnd 2 false false true]) = true := by decide +kernel
theorem r2ftf : wkd 2 false true false (callD pgL 10 16 [rul 2 false true false]) = true := by decide +kernel
theorem q2ftf : isRt true (Ffr 2 false true false) (callD pgL 10 5 [hnd 2 false true false]) = true := by decide +kernel
theorem r2ftt : wkd 2 false true true (callD pgL 10 16 [rul 2 false true true]) = true := by decide +kernel
theorem q2ftt : isRt true (Ffr 2 false true true) (callD pgL 10 5 [hnd 2 false true true]) = true := by decide +kernel
theorem r2tff : wkd 2 true false false (callD pgL 10 16 [rul 2 true false false]) = true := by decide +kernel
theorem q2tff : isRt true (Ffr 2 true false false) (callD pgL 10 5 [hnd 2 true false false]) = true := by decide +kernel
theorem r2tft : wkd 2 true false true (callD pgL 10 16 [rul 2 true false true]) = true := by decide +kernel
theorem q2tft : isRt true (Ffr 2 true false true) (callD pgL 10 5 [hnd 2 true false true]) = true := by decide +kernel
theorem r2ttf : wkd 2 true true false (callD pgL 10 16 [rul 2 true true false]) = true := by decide +kernel
theorem q2ttf : isRt true (Ffr 2 true true false) (callD pgL 10 5 [hnd 2 true true false]) = true := by decide +kernel
theorem r2ttt : wkd 2 true true true (callD pgL 10 16 [rul 2 true true true]) = true := by decide +kernel
theorem q2ttt : isRt true (Ffr 2 true true true) (callD pgL 10 5 [hnd 2 true true true]) = true := by decide +kernel
end K45

set_option Elab.async false
set_option linter.all false
set_option maxRecDepth 100000
set_option maxHeartbeats 0
open Ev
namespace K45
theorem r3fff : wkd 3 false false false (callD pgL 10 16 [rul 3 false false false]) = true := by decide +kernel
theorem q3fff : isRt true (Ffr 3 false false false) (callD pgL 10 5 [hnd 3 false false false]) = true := by decide +kernel
theorem r3fft : wkd 3 false false true (callD pgL 10 16 [rul 3 false false true]) = true := by decide +kernel
theorem q3fft : isRt true (Ffr 3 false false true) (callD pgL 10 5 [hnd 3 false false true]) = true := by decide +kernel
theorem r3ftf : wkd 3 false true false (callD pgL 10 16 [rul 3 false true false]) = true := by decide +kernel
theorem q3ftf : isRt true (Ffr 3 false true false) (callD pgL 10 5 [hnd 3 false true false]) = true := by decide +kernel
theorem r3ftt : wkd 3 false true true (callD pgL 10 16 [rul 3 false true true]) = true := by decide +kernel
theorem q3ftt : isRt true (Ffr 3 false true true) (callD pgL 10 5 [hnd 3 false true true]) = true := by decide +kernel
theorem r3tff : wkd 3 true false false (callD pgL 10 16 [rul 3 true false false]) = true := by decide +kernel
theorem q3tff : isRt true (Ffr 3 true false false) (callD pgL 10 5 [hnd 3 true false false]) = true := by decide +kernel
theorem r3tft : wkd 3 true false true (callD pgL 10 16 [rul 3 true false true]) = true := by decide +kernel
theorem q3tft : isRt true (Ffr 3 true false true) (callD pgL 10 5 [hnd 3 true false true]) = true := by decide +kernel
theorem r3ttf : wkd 3 true true false (callD pgL 10 16 [rul 3 true true false]) = true := by decide +kernel
theorem q3ttf : isRt true (Ffr 3 true true false) (callD pgL 10 5 [hnd 3 true true false]) = true := by decide +kernel
theorem r3ttt : wkd 3 true true true (callD pgL 10 16 [rul 3 true true true]) = true := by decide +kernel
theorem q3ttt : isRt true (Ffr 3 true true true) (callD pgL 10 5 [hnd 3 true true true]) = true := by decide +kernel
end K45

set_option Elab.async false
set_option linter.all false
set_option maxRecDepth 100000
set_option maxHeartbeats 0
open Ev
namespace K45
theorem r4fff : wkd 4 false false false (callD pgL 10 16 [rul 4 false false false]) = true := by decide +kernel
theorem q4fff : isRt true (Ffr 4 false false false) (callD pgL 10 5 [hnd 4 false false false]) = true := by decide +kernel
theorem r4fft : wkd 4 false false true (callD pgL 10 16 [rul 4 false false true]) = true := by decide +kernel
theorem q4fft : isRt true (Ffr 4 false false true) (callD pgL 10 5 [hnd 4 false false true]) = true := by decide +kernel
theorem r4ftf : wkd 4 false true false (callD pgL 10 16 [rul 4 false true false]) = true := by decide +kernel
theorem q4ftf : isRt true (Ffr 4 false true false) (callD pgL 10 5 [hnd 4 false true false]) = true := by decide +kernel
theorem r4ftt : wkd 4 false true true (callD pgL 10 16 [rul 4 false true true]) = true := by decide +kernel
theorem q4ftt : isRt true (Ffr 4 false true true) (callD pgL 10 5 [hnd 4 false true true]) = true := by decide +kernel
theorem r4tff : wkd 4 true false false (callD pgL 10 16 [rul 4 true false false]) = true := by decide +kernel
theorem q4tff : isRt true (Ffr 4 true false false) (callD pgL 10 5 [hnd 4 true false false]) = true := by decide +kernel
theorem r4tft : wkd 4 true false true (callD pgL 10 16 [rul 4 true false true]) = true := by decide +kernel
theorem q4tft : isRt true (Ffr 4 true false true) (callD pgL 10 5 [hnd 4 true false true]) = true := by decide +kernel
theorem r4ttf : wkd 4 true true false (callD pgL 10 16 [rul 4 true true false]) = true := by decide +kernel
theorem q4ttf : isRt true (Ffr 4 true true false) (callD pgL 10 5 [hnd 4 true true false]) = true := by decide +kernel
theorem r4ttt : wkd 4 true true true (callD pgL 10 16 [rul 4 true true true]) = true := by decide +kernel
theorem q4ttt : isRt true (Ffr 4 true true true) (callD pgL 10 5 [hnd 4 true true true]) = true := by decide +kernel
end K45

set_option Elab.async false
set_option linter.all false
set_option maxRecDepth 100000
set_option maxHeartbeats 1000000
open Ev
namespace K45
theorem st13 (f : Nat) (vs : List PV) : callD pgL 13 f vs = runF pgL (callD pgL 12) f vs := rfl
theorem st14 (f : Nat) (vs : List PV) : callD pgL 14 f vs = runF pgL (callD pgL 13) f vs := rfl
theorem RD.up {u : Int} {h m w : Bool} {fd : List (PV × PV)} {WR J F : PV} {rg : Bool} (R : RD (callD pgL 10) u h m w fd WR J F rg) {d : Nat} (hd : 10 ≤ d) : RD (callD pgL d) u h m w fd WR J F rg :=
  ⟨callD_up R.h16 (fun h => by cases h) hd, callD_up R.h17 (fun h => by cases h) hd, callD_up R.h3 (fun h => by cases h) hd, callD_up R.h5 (fun h => by cases h) hd⟩
theorem no_wrong {h m w : Bool} (hw : wnF h m w = true) (s : PV) (hR : Rf h m w s) : Wf s = false := by
  obtain ⟨a, b, t, k, rfl, ha, hb, hq⟩ := hR
  show (decide (0 < b) && !k) = false
  cases k with
  | true => simp
  | false =>
    obtain ⟨_, rfl, _⟩ := hq hw rfl
    rfl
/-- what the moves that are told do, and what less do -/
def sp (u : Int) (h m w : Bool) (n : Nat) (l : List PV) : Bool := match wk (Mvf u h m w) Bf (fun s => !Wf s) l s0 with | none => false | some s => Wf s && decide (l.length = n)
def spOk (u : Int) (h m w : Bool) : Bool := wnF h m w || (sp u h m w 4 (Jl w) && !sp u h m w 4 ((Jl w).take 3) && !sp u h m w 4 [.non] && (Jl w).all plain)
def liOk (u : Int) (h m w : Bool) : Bool := !rgF u h m w || (lingF (Mvf u h m w) Bf (Kf h w) (Fl h) (Fr u h) && (Fl h).all plain && (Fr u h).all plain && plain (.tup (Fr u h)))
section
variable {u : Int} {h m w : Bool} {fd : List (PV × PV)}
theorem wfacts (R : RD (callD pgL 10) u h m w fd (Wrf h m w) (Jf h m w fd.length) (Ffr u h m w) (rgF u h m w)) (hs : spOk u h m w = true) :
    (∀ F dr s mv om oj of x y z q, ev D.g (callD pgL 13) true D1 (τ u h m w fd (Wrf h m w) (Jf h m w fd.length) F dr s mv om oj of x y z q) = .ok (.v (.bl false) false) (τ u h m w fd (Wrf h m w) (Jf h m w fd.length) F dr s mv om oj of x y z q)) ∧
    (∀ F dr s mv om oj of x y z q, ev D.g (callD pgL 13) true D2 (τ u h m w fd (Wrf h m w) (Jf h m w fd.length) F dr s mv om oj of x y z q) = .ok (.v (.bl false) false) (τ u h m w fd (Wrf h m w) (Jf h m w fd.length) F dr s mv om false of x y z q)) ∧
    (∀ F dr s mv om oj of x y z q, (∀ x ∈ mv, plain x = true) → ∃ om', ev D.g (callD pgL 13) true S7c (τ u h m w fd (Wrf h m w) (Jf h m w fd.length) F dr s mv om oj of x y z q) = .ok (.v (.bl false) false) (τ u h m w fd (Wrf h m w) (Jf h m w fd.length) F dr s mv om' oj of x y z q)) ∧
    (∀ F dr s mv om oj of x y z q, ev D.g (callD pgL 13) true S8c (τ u h m w fd (Wrf h m w) (Jf h m w fd.length) F dr s mv om oj of x y z q) = .ok (.v (.bl false) false) (τ u h m w fd (Wrf h m w) (Jf h m w fd.length) F dr s mv om oj of x y z q)) := by
  have h3 := (R.up (d := 12) (by decide)).h3
  have F12 := rf (u := u) (h := h) (m := m) (w := w) 10
  cases hw : wnF h m w with
  | true =>
    have e1 : Wrf h m w = .non := by unfold Wrf; rw [hw]; rfl
    have e2 : Jf h m w fd.length = safe fd.length := by unfold Jf; rw [hw]; rfl
    rw [e2] at h3
    rw [e1, e2]
    have h31 : ∀ n : Int, callD pgL 13 31 [safe n, hnd u h m w] = .rt (.bl (decide ((fd.length : Int) = n))) false [] := fun n => (st13 _ _).trans (k31 h3 ⟨_, _, _, _, _, rfl, geq.1, rfl, fok.2.2.2.2.2.1, k30 (cl := callD pgL 11) (a := fd.length) (b := n)⟩)
    refine ⟨fun F dr s mv om oj of x y z q => d1A ((st13 _ _).trans k29), fun F dr s mv om oj of x y z q => d2A ((h31 _).trans (by simp)), fun F dr s mv om oj of x y z q hp => ⟨false, s7A (fun _ => (st13 _ _).trans k28) ((st13 _ _).trans (k30.trans (by simp))) ((h31 _).trans (by simp; omega)) ((st13 _ _).trans k32) ((st13 _ _).trans (f35 F12 (no_wrong hw) hp))⟩, fun F dr s mv om oj of x y z q => s8A⟩
  | false =>
    have e1 : Wrf h m w = .int 4 := by unfold Wrf; rw [hw]; rfl
    have e2 : Jf h m w fd.length = spent (Jl w) := by unfold Jf; rw [hw]; rfl
    have hl : (Jl w).length = 4 := by cases w <;> rfl
    rw [e2] at h3
    rw [e1, e2]
    unfold spOk at hs
    rw [hw, Bool.false_or] at hs
    simp only [Bool.and_eq_true, Bool.not_eq_true', List.all_eq_true] at hs
    obtain ⟨⟨⟨q1, q2⟩, q3⟩, q4⟩ := hs
    have h35 : ∀ l : List PV, (∀ x ∈ l, plain x = true) → callD pgL 13 35 [spent l, hnd u h m w] = .rt (.bl (sp u h m w 4 l)) false [] := fun l hp => by
      have := f35B F12 h3 hp
      rw [hl] at this
      unfold sp
      exact (st13 _ _).trans this
    have h31 : ∀ n : Int, callD pgL 13 31 [safe n, hnd u h m w] = .rt (.bl false) false [] := fun n => (st13 _ _).trans (k31 h3 ⟨_, _, _, _, _, rfl, geq.2.1, rfl, fok.2.2.2.2.2.1, k34 (cl := callD pgL 11) (l := Jl w) (n := n)⟩)
    refine ⟨fun F dr s mv om oj of x y z q => d1B ((st13 _ _).trans k33), fun F dr s mv om oj of x y z q => d2B ((h35 _ q4).trans (by rw [q1])), fun F dr s mv om oj of x y z q hp => ⟨om, s7B⟩, fun F dr s mv om oj of x y z q => s8B (l' := (Jl w).take 3) (by rw [hl]; rfl) (fun _ => (st13 _ _).trans k28) (fun _ => (st13 _ _).trans k32t) (by cases w <;> rfl) ((h35 _ (fun x hx => q4 x (List.mem_of_mem_take hx))).trans (by rw [q2])) (h31 _) ((h35 _ (fun x hx => by rw [List.mem_singleton.1 hx]; rfl)).trans (by rw [q3]))⟩
theorem ffacts (R : RD (callD pgL 10) u h m w fd (Wrf h m w) (Jf h m w fd.length) (Ffr u h m w) (rgF u h m w)) (hs : liOk u h m w = true) :
    (∀ J WR dr s mv om oj of x y z q, ev D.g (callD pgL 13) true D3 (τ u h m w fd WR J (Ffr u h m w) dr s mv om oj of x y z q) = .ok (.v (.bl false) false) (τ u h m w fd WR J (Ffr u h m w) dr s mv om oj of x y z q)) ∧
    (∀ J WR dr s mv om oj of x y z q, ev D.g (callD pgL 13) true D4 (τ u h m w fd WR J (Ffr u h m w) dr s mv om oj of x y z q) = .ok (.v (.bl false) false) (τ u h m w fd WR J (Ffr u h m w) dr s mv om oj false x y z q)) ∧
    (∀ J WR dr s mv om oj of x y z q, (∀ x ∈ mv, plain x = true) → ∃ om', ev D.g (callD pgL 13) true S9c (τ u h m w fd WR J (Ffr u h m w) dr s mv om oj of x y z q) = .ok (.v (.bl false) false) (τ u h m w fd WR J (Ffr u h m w) dr s mv om' oj of x y z q)) ∧
    (∀ J WR dr s mv om oj of x y z q, ev D.g (callD pgL 13) true S10c (τ u h m w fd WR J (Ffr u h m w) dr s mv om oj of x y z q) = .ok (.v (.bl false) false) (τ u h m w fd WR J (Ffr u h m w) dr s mv om oj of x y z q)) := by
  have h5 := (R.up (d := 12) (by decide)).h5
  have h17 := (R.up (d := 13) (by decide)).h17
  have F12 := rf (u := u) (h := h) (m := m) (w := w) 10
  cases hg : rgF u h m w with
  | false =>
    have e2 : Ffr u h m w = freed := by unfold Ffr; rw [hg]; rfl
    rw [e2] at h5
    rw [hg] at h17
    rw [e2]
    have hr : (m || (!h && !w) || decide (u ≤ 1)) = true := by
      unfold rgF at hg
      cases m <;> cases h <;> cases w <;> simp at hg ⊢
      all_goals exact hg
    have h38 : callD pgL 13 38 [freed, hnd u h m w] = .rt (.bl true) false [] := (st13 _ _).trans (k38 h5 ⟨_, _, _, rfl, gbo.2.2.1, k36 (cl := callD pgL 11) (x := freed)⟩)
    refine ⟨fun J WR dr s mv om oj of x y z q => d3F h17 ((st13 _ _).trans k36), fun J WR dr s mv om oj of x y z q => d4F h38, fun J WR dr s mv om oj of x y z q hp => ⟨false, s9F ((st13 _ _).trans k36) ((st13 _ _).trans k37) ((st13 _ _).trans k39) ?_⟩, fun J WR dr s mv om oj of x y z q => s10F ((st13 _ _).trans k36)⟩
    exact (st13 _ _).trans ((f42 F12 hp (fun x hx => by
      rcases List.mem_cons.1 hx with rfl | hx
      · rfl
      · rw [List.mem_singleton.1 hx]
        rfl) rfl).trans (by rw [no_ring hr]))
  | true =>
    have e2 : Ffr u h m w = ling (Fl h) (Fr u h) := by unfold Ffr; rw [hg]; rfl
    rw [e2] at h5
    rw [hg] at h17
    rw [e2]
    unfold liOk at hs
    rw [hg, Bool.not_true, Bool.false_or] at hs
    simp only [Bool.and_eq_true, List.all_eq_true] at hs
    obtain ⟨⟨⟨q1, q2⟩, q3⟩, q4⟩ := hs
    have h38 : callD pgL 13 38 [freed, hnd u h m w] = .rt (.bl false) false [] := (st13 _ _).trans (k38 h5 ⟨_, _, _, rfl, gbo.2.2.2, k40 (cl := callD pgL 11) (x := ling (Fl h) (Fr u h))⟩)
    refine ⟨fun J WR dr s mv om oj of x y z q => d3L h17 ((st13 _ _).trans k40), fun J WR dr s mv om oj of x y z q => d4L ((st13 _ _).trans ((f42 F12 q2 q3 q4).trans (by rw [q1]))), fun J WR dr s mv om oj of x y z q hp => ⟨om, s9L ((st13 _ _).trans k40)⟩, fun J WR dr s mv om oj of x y z q => s10L ((st13 _ _).trans k40) ((st13 _ _).trans ((f18 F12 (.inr rfl) q2 q3).trans (by rw [q1]))) h38⟩
def rings : List PV := [.tup [take_, give_], .tup [work_, rest_], .tup [rest_, work_], .tup [], .tup [give_, take_]]
theorem ring_ok : ∀ y ∈ rings, ∃ r, y = .tup r ∧ (∀ x ∈ r, plain x = true) ∧ plain (.tup r) = true := by
  intro y hy
  have h2 : ∀ a b : PV, plain a = true → plain b = true → ∀ x ∈ [a, b], plain x = true := fun a b ha hb x hx => by
    rcases List.mem_cons.1 hx with rfl | hx
    · exact ha
    · rw [List.mem_singleton.1 hx]; exact hb
  simp only [rings, List.mem_cons, List.not_mem_nil, or_false] at hy
  rcases hy with rfl | rfl | rfl | rfl | rfl
  · exact ⟨_, rfl, h2 _ _ rfl rfl, rfl⟩
  · exact ⟨_, rfl, h2 _ _ rfl rfl, rfl⟩
  · exact ⟨_, rfl, h2 _ _ rfl rfl, rfl⟩
  · exact ⟨_, rfl, fun x hx => (List.not_mem_nil hx).elim, rfl⟩
  · exact ⟨_, rfl, h2 _ _ rfl rfl, rfl⟩
def EQ1 : E := E.pr (Pr.eq) [E.meth 13 (E.mk 4 [E.var 6, E.var 12]) [E.var 2], E.call 18 [E.var 1, E.var 6, E.var 12]]
def EQ2 : E := E.not_ (E.meth 13 (E.mk 4 [E.var 6, E.tup [E.cst (PV.non)]]) [E.var 2])
theorem last_ok {cl : FC} {WR J F dr s : PV} {mv r : List PV} {om oj of b : Bool} {x y z : Option (PV × Bool)} (h39 : ∀ r, cl 39 [.ins 4 [], .lst mv, .tup r] = .rt .non false [ling mv r]) (h42 : cl 42 [ling mv r, hnd u h m w] = .rt (.bl b) false []) (h18 : cl 18 [rul u h m w, .lst mv, .tup r] = .rt (.bl b) false []) (h42n : cl 42 [ling mv [.non], hnd u h m w] = .rt (.bl false) false []) :
    ev D.g cl false (E.and_ EQ1 EQ2) (τ u h m w fd WR J F dr s mv om oj of x y z (sl (.tup r))) = .ok (.v (.bl true) false) (τ u h m w fd WR J F dr s mv false oj of x y z (sl (.tup r))) := by
  refine (ev_and_t' (ρ' := τ u h m w fd WR J F dr s mv false oj of x y z (sl (.tup r))) (o := false) ?_).trans ?_
  · simp [EQ1, h39, h42, h18, exSs, exS, ev, evs, fin, sget0, sgetS, val, vals, O.bd, O.so, SO.sq, callO, ioS, frzA, sput0, sputS, putS, primO, prim, List.lookup, truthO, truth0, use, asI, disp, starL, isStar, int2, cmpV, gio, gio2, gmt, gin, gbo, geq, gmk, bindT, bindTs, addV, endF, outV, fok, isNon, eqV2, eqv, plain, pl, okC, lenV, ownS]
  · simp [EQ2, h39, h42n, exSs, exS, ev, evs, fin, sget0, sgetS, val, vals, O.bd, O.so, SO.sq, callO, ioS, frzA, sput0, sputS, putS, primO, prim, List.lookup, truthO, truth0, use, asI, disp, starL, isStar, int2, cmpV, gio, gio2, gmt, gin, gbo, geq, gmk, bindT, bindTs, addV, endF, outV, fok, isNon, eqV2, eqv, plain, pl, okC, lenV, ownS]
end
end K45

set_option Elab.async false
set_option linter.all false
set_option maxRecDepth 100000
set_option maxHeartbeats 400000
open Ev
namespace K45
abbrev ρa (u : Int) (h m w : Bool) (d : PV) : Sl := [so d, sl (rul u h m w), sl (hnd u h m w), none, none, none, none, none, none, none, none, none, none]
abbrev ρb (u : Int) (h m w : Bool) (d FD WR : PV) : Sl := [so d, sl (rul u h m w), sl (hnd u h m w), sl s0, sl FD, sl WR, none, none, none, none, none, none, none]
section
variable {cl : FC} {W : Nat} {u : Int} {h m w : Bool} {fd : List (PV × PV)} {WR J F d d' s : PV} {mv : List PV}
def T1 : S := S.asg (T.tup [T.nm 3, T.tup [T.nm 4, T.nm 5]]) (E.tup [E.tup [E.cst (PV.int 0), E.cst (PV.int 0), E.cst (PV.bl true), E.cst (PV.bl true)], E.call 16 [E.var 1]])
def T2 : S := S.ite (E.pr (Pr.ne) [E.meth 9 (E.var 2) [], E.var 3]) [S.ret (some (E.cst (PV.bl false)))] []
def T3 : S := S.asg (T.nm 6) (E.lst [])
def T4 : S := S.for_ (T.nm 7) (It.rng [E.cst (PV.int 10)]) BT
def T5 : S := S.par [T.nm 10, T.nm 11] [E.call 3 [E.var 2], E.call 5 [E.var 2]]
def T6 : S := S.ite (E.or_ D1 (E.or_ D2 (E.or_ D3 D4))) [S.ret (some (E.cst (PV.bl false)))] []
def T7 : S := S.ite S7c [S.ret (some (E.cst (PV.bl false)))] []
def T8 : S := S.ite S8c [S.ret (some (E.cst (PV.bl false)))] []
def T9 : S := S.ite S9c [S.ret (some (E.cst (PV.bl false)))] []
def T10 : S := S.ite S10c [S.ret (some (E.cst (PV.bl false)))] []
def T11 : S := S.asg
             (T.nm 12)
             (E.call
               12
               [E.var 0,
                E.lst
                  [E.tup [E.cst (PV.str [116, 97, 107, 101]), E.cst (PV.str [103, 105, 118, 101])],
                   E.tup [E.cst (PV.str [119, 111, 114, 107]), E.cst (PV.str [114, 101, 115, 116])],
                   E.tup [E.cst (PV.str [114, 101, 115, 116]), E.cst (PV.str [119, 111, 114, 107])],
                   E.tup [],
                   E.tup [E.cst (PV.str [103, 105, 118, 101]), E.cst (PV.str [116, 97, 107, 101])]]])
def T12 : S := S.ret (some (E.and_ EQ1 EQ2))
theorem body19 : fn19.body = [T1, T2, T3, T4, T5, T6, T7, T8, T9, T10, T11, T12] := by kernel_rfl
theorem t1 (h16 : cl 16 [rul u h m w] = .rt (.tup [.dct fd, WR]) false []) : exS D.g cl W T1 (ρa u h m w d) = .nx (ρb u h m w d (.dct fd) WR) := by
  have e1 : ev D.g cl false (E.tup [E.tup [E.cst (PV.int 0), E.cst (PV.int 0), E.cst (PV.bl true), E.cst (PV.bl true)], E.call 16 [E.var 1]]) (ρa u h m w d) = .ok (.v (.tup [s0, .tup [.dct fd, WR]]) false) (ρa u h m w d) := by
    simp [h16, exSs, exS, ev, evs, fin, sget0, sgetS, val, vals, O.bd, O.so, SO.sq, callO, ioS, frzA, sput0, sputS, putS, primO, prim, List.lookup, truthO, truth0, use, asI, disp, starL, isStar, int2, cmpV, gio, gio2, gmt, gin, gbo, geq, gmk, bindT, bindTs, addV, endF, outV, fok, isNon, eqV2, eqv, plain, pl, okC, lenV, ownS]
  exact exS_asgT e1 rfl
theorem t2 (h23 : cl 23 [hnd u h m w] = .rt s0 false []) : exS D.g cl W T2 (ρb u h m w d (.dct fd) WR) = .nx (ρb u h m w d (.dct fd) WR) := by
  refine exS_no (o := false) ?_
  simp [h23, pls, eqvs, exSs, exS, ev, evs, fin, sget0, sgetS, val, vals, O.bd, O.so, SO.sq, callO, ioS, frzA, sput0, sputS, putS, primO, prim, List.lookup, truthO, truth0, use, asI, disp, starL, isStar, int2, cmpV, gio, gio2, gmt, gin, gbo, geq, gmk, bindT, bindTs, addV, endF, outV, fok, isNon, eqV2, eqv, plain, pl, okC, lenV, ownS]
theorem t3 : exS D.g cl W T3 (ρb u h m w d (.dct fd) WR) = .nx (σ19 u h m w (.dct fd) WR d s0 [] none none none) := by
  simp [T3, exSs, exS, ev, evs, fin, sget0, sgetS, val, vals, O.bd, O.so, SO.sq, callO, ioS, frzA, sput0, sputS, putS, primO, prim, List.lookup, truthO, truth0, use, asI, disp, starL, isStar, int2, cmpV, gio, gio2, gmt, gin, gbo, geq, gmk, bindT, bindTs, addV, endF, outV, fok, isNon, eqV2, eqv, plain, pl, okC, lenV, ownS]
theorem t4i {ρ : Sl} : evI D.g cl (It.rng [E.cst (PV.int 10)]) ρ = .ok (rngL 0 10) ρ := by
  simp [evI, rngV, exSs, exS, ev, evs, fin, sget0, sgetS, val, vals, O.bd, O.so, SO.sq, callO, ioS, frzA, sput0, sputS, putS, primO, prim, List.lookup, truthO, truth0, use, asI, disp, starL, isStar, int2, cmpV, gio, gio2, gmt, gin, gbo, geq, gmk, bindT, bindTs, addV, endF, outV, fok, isNon, eqV2, eqv, plain, pl, okC, lenV, ownS]
theorem t5 {x y z q : Option (PV × Bool)} (h3 : cl 3 [hnd u h m w] = .rt J true []) (h5 : cl 5 [hnd u h m w] = .rt F true []) : exS D.g cl W T5 ([so d, sl (rul u h m w), sl (hnd u h m w), sl s, sl (.dct fd), sl WR, so (.lst mv), x, y, z, none, none, q]) = .nx (τ u h m w fd WR J F d s mv true true true x y z q) := by
  simp [T5, uses, bindOs, bindO, h3, h5, exSs, exS, ev, evs, fin, sget0, sgetS, val, vals, O.bd, O.so, SO.sq, callO, ioS, frzA, sput0, sputS, putS, primO, prim, List.lookup, truthO, truth0, use, asI, disp, starL, isStar, int2, cmpV, gio, gio2, gmt, gin, gbo, geq, gmk, bindT, bindTs, addV, endF, outV, fok, isNon, eqV2, eqv, plain, pl, okC, lenV, ownS]
theorem t11 {om oj of : Bool} {x y z q : Option (PV × Bool)} {r : List PV} (h12 : cl 12 [d, .lst rings] = .rt (.tup r) false [d']) : exS D.g cl W T11 (τ u h m w fd WR J F d s mv om oj of x y z q) = .nx (τ u h m w fd WR J F d' s mv om oj of x y z (sl (.tup r))) := by
  unfold rings at h12
  simp [T11, h12, exSs, exS, ev, evs, fin, sget0, sgetS, val, vals, O.bd, O.so, SO.sq, callO, ioS, frzA, sput0, sputS, putS, primO, prim, List.lookup, truthO, truth0, use, asI, disp, starL, isStar, int2, cmpV, gio, gio2, gmt, gin, gbo, geq, gmk, bindT, bindTs, addV, endF, outV, fok, isNon, eqV2, eqv, plain, pl, okC, lenV, ownS]
end
theorem run19 {cl : FC} {a b c : PV} : runF pgL cl 19 [a, b, c] = endF [true] (exSs D.g cl D.W fn19.body [so a, sl b, sl c, none, none, none, none, none, none, none, none, none, none]) := rfl
theorem f19 {u : Int} {h m w : Bool} {fd : List (PV × PV)} {ns : List Int} (hn : ns.length ≤ 63) (k : Int) (R : RD (callD pgL 10) u h m w fd (Wrf h m w) (Jf h m w fd.length) (Ffr u h m w) (rgF u h m w)) (hs : spOk u h m w = true) (hl : liOk u h m w = true) :
    ∃ k', callD pgL 14 19 [dr ns k, rul u h m w, hnd u h m w] = .rt (.bl true) false [dr ns k'] := by
  obtain ⟨a1, a2, a3, a4⟩ := wfacts R hs
  obtain ⟨b1, b2, b3, b4⟩ := ffacts R hl
  have R13 := R.up (d := 13) (by decide)
  have F12 := rf (u := u) (h := h) (m := m) (w := w) 10
  have F13 := rf (u := u) (h := h) (m := m) (w := w) 11
  have h16 := R13.h16
  have h3 := R13.h3
  have h5 := R13.h5
  generalize Wrf h m w = WR at *
  generalize Jf h m w fd.length = J at *
  generalize Ffr u h m w = F at *
  obtain ⟨k1, s1, mv, x1, y1, e4, hR1, hp1, hl1⟩ := turns_ok (u := u) (h := h) (m := m) (w := w) (FD := .dct fd) (WR := WR) hn 10 (z := none) (rngL 0 10) k s0 [] none none F13.r0 (fun x hx => (List.not_mem_nil hx).elim) (by rw [show (rngL 0 10).length = 10 from rfl, List.length_nil]; omega)
  obtain ⟨y, hy, e11⟩ := pickD hn k1 (l := rings) (by intro hh; cases hh) 10
  obtain ⟨r, rfl, hr1, hr2⟩ := ring_ok y hy
  refine ⟨k1 + 1, ?_⟩
  obtain ⟨om1, e7⟩ := a3 F (dr ns k1) s1 mv true false false x1 y1 none none hp1
  obtain ⟨om2, e9⟩ := b3 J WR (dr ns k1) s1 mv om1 false false x1 y1 none none hp1
  have h42 := f42 F12 (l := mv) hp1 hr1 hr2
  have h18 := f18 F12 (L := .lst mv) (l := mv) (.inl rfl) hp1 hr1
  have h42n := (f42 F12 (l := mv) (r := [.non]) hp1 (fun x hx => by rw [List.mem_singleton.1 hx]; rfl) rfl).trans (by rw [no_none])
  have w4 : exS D.g (callD pgL 13) D.W T4 (σ19 u h m w (.dct fd) WR (dr ns k) s0 [] none none none) = .nx (σ19 u h m w (.dct fd) WR (dr ns k1) s1 mv x1 y1 none) := (exS_for t4i).trans e4
  have w6 : exS D.g (callD pgL 13) D.W T6 (τ u h m w fd WR J F (dr ns k1) s1 mv true true true x1 y1 none none) = .nx (τ u h m w fd WR J F (dr ns k1) s1 mv true false false x1 y1 none none) := exS_no ((ev_or_f (a1 F (dr ns k1) s1 mv true true true x1 y1 none none)).trans ((ev_or_f (a2 F (dr ns k1) s1 mv true true true x1 y1 none none)).trans ((ev_or_f (b1 J WR (dr ns k1) s1 mv true false true x1 y1 none none)).trans (b2 J WR (dr ns k1) s1 mv true false true x1 y1 none none))))
  have w7 : exS D.g (callD pgL 13) D.W T7 (τ u h m w fd WR J F (dr ns k1) s1 mv true false false x1 y1 none none) = .nx (τ u h m w fd WR J F (dr ns k1) s1 mv om1 false false x1 y1 none none) := exS_no e7
  have w8 : exS D.g (callD pgL 13) D.W T8 (τ u h m w fd WR J F (dr ns k1) s1 mv om1 false false x1 y1 none none) = .nx (τ u h m w fd WR J F (dr ns k1) s1 mv om1 false false x1 y1 none none) := exS_no (a4 F (dr ns k1) s1 mv om1 false false x1 y1 none none)
  have w9 : exS D.g (callD pgL 13) D.W T9 (τ u h m w fd WR J F (dr ns k1) s1 mv om1 false false x1 y1 none none) = .nx (τ u h m w fd WR J F (dr ns k1) s1 mv om2 false false x1 y1 none none) := exS_no e9
  have w10 : exS D.g (callD pgL 13) D.W T10 (τ u h m w fd WR J F (dr ns k1) s1 mv om2 false false x1 y1 none none) = .nx (τ u h m w fd WR J F (dr ns k1) s1 mv om2 false false x1 y1 none none) := exS_no (b4 J WR (dr ns k1) s1 mv om2 false false x1 y1 none none)
  have w12 : exS D.g (callD pgL 13) D.W T12 (τ u h m w fd WR J F (dr ns (k1 + 1)) s1 mv om2 false false x1 y1 none (sl (.tup r))) = .rt (.bl true) false (τ u h m w fd WR J F (dr ns (k1 + 1)) s1 mv false false false x1 y1 none (sl (.tup r))) := exS_ret (last_ok (cl := callD pgL 13) (fun r => (st13 _ _).trans k39) ((st13 _ _).trans h42) ((st13 _ _).trans h18) ((st13 _ _).trans h42n)) (fun i hi => by cases hi)
  have ww : exSs D.g (callD pgL 13) D.W fn19.body (ρa u h m w (dr ns k)) = .rt (.bl true) false (τ u h m w fd WR J F (dr ns (k1 + 1)) s1 mv false false false x1 y1 none (sl (.tup r))) := by
    rw [body19]
    rw [exSs_nx (t1 h16), exSs_nx (t2 F13.h23), exSs_nx t3, exSs_nx w4, exSs_nx (t5 h3 h5), exSs_nx w6, exSs_nx w7, exSs_nx w8, exSs_nx w9, exSs_nx w10, exSs_nx (t11 e11), exSs_rt w12]
  exact (st14 _ _).trans (run19.trans ((congrArg (endF [true]) ww).trans rfl))
end K45

set_option Elab.async false
set_option linter.all false
set_option maxRecDepth 100000
set_option maxHeartbeats 1000000
open Ev
namespace K45
theorem gin0 : D.g.init 0 = some 21 ∧ D.g.io 21 = [true] := by
  refine ⟨?_, ?_⟩ <;> kernel_rfl
def B1 : S := S.par [T.nm 7, T.nm 8] [E.tup [E.var 3, E.var 4, E.var 5, E.var 6], E.mk 0 [E.var 3, E.var 4, E.var 5, E.var 6]]
def B2 : S := S.ite (E.not_ (E.call 19 [E.var 1, E.var 7, E.var 8])) [S.ret (some (E.cst (PV.bl false)))] []
def B3 : S := S.asg (T.nm 9) (E.call 16 [E.var 7])
def B4 : S := S.asg
                         (T.nm 10)
                         (E.pr
                           (Pr.tuple1)
                           [E.lc
                              [11, 12]
                              (T.tup [T.nm 11, T.nm 12])
                              (It.of
                                (E.tup
                                  [E.tup [E.cst (PV.str [104, 101, 108, 100]), E.var 4],
                                   E.tup [E.cst (PV.str [109, 97, 114, 107, 101, 100]), E.var 5],
                                   E.tup [E.cst (PV.str [119, 97, 105, 116, 115]), E.var 6]]))
                              [E.var 12]
                              (E.var 11)])
def B5 : S := S.setS
                         2
                         (E.tup [E.var 3, E.var 10])
                         (E.and_
                           (E.pr (Pr.isN) [E.pr (Pr.ix) [E.var 9, E.cst (PV.int 1)]])
                           (E.not_ (E.call 17 [E.var 7, E.pr (Pr.ix) [E.var 9, E.cst (PV.int 0)]])))
def BB : List S := [B1, B2, B3, B4, B5]
def L6 : S := S.for_ (T.nm 6) (It.of (E.tup [E.cst (PV.bl false), E.cst (PV.bl true)])) BB
def L5 : S := S.for_ (T.nm 5) (It.of (E.tup [E.cst (PV.bl false), E.cst (PV.bl true)])) [L6]
def L4 : S := S.for_ (T.nm 4) (It.of (E.tup [E.cst (PV.bl false), E.cst (PV.bl true)])) [L5]
def U2 : S := S.asg
                (T.nm 13)
                (E.lst
                  [E.tup [],
                   E.tup [E.cst (PV.str [104, 101, 108, 100])],
                   E.tup [E.cst (PV.str [109, 97, 114, 107, 101, 100])],
                   E.tup [E.cst (PV.str [119, 97, 105, 116, 115])],
                   E.tup [E.cst (PV.str [104, 101, 108, 100]), E.cst (PV.str [109, 97, 114, 107, 101, 100])],
                   E.tup [E.cst (PV.str [104, 101, 108, 100]), E.cst (PV.str [119, 97, 105, 116, 115])],
                   E.tup [E.cst (PV.str [109, 97, 114, 107, 101, 100]), E.cst (PV.str [119, 97, 105, 116, 115])],
                   E.tup [E.cst (PV.str [104, 101, 108, 100]), E.cst (PV.str [109, 97, 114, 107, 101, 100]), E.cst (PV.str [119, 97, 105, 116, 115])]])
def U3 : S := S.asg (T.nm 14) (E.lc [10] (T.nm 10) (It.of (E.var 13)) [E.pr (Pr.ix) [E.var 2, E.tup [E.var 3, E.var 10]]] (E.var 10))
def U4 : S := S.ite
                (E.pr
                  (Pr.ne)
                  [E.lc [10] (T.nm 10) (It.of (E.call 7 [E.var 3])) [] (E.pr (Pr.tuple1) [E.var 10]),
                   E.lc
                     [10]
                     (T.nm 10)
                     (It.of (E.var 14))
                     [E.not_
                        (E.pr
                          (Pr.any1)
                          [E.lc
                             [16]
                             (T.nm 16)
                             (It.of (E.var 14))
                             []
                             (E.and_
                               (E.pr (Pr.ne) [E.var 16, E.var 10])
                               (E.pr (Pr.all1) [E.lc [15] (T.nm 15) (It.of (E.var 16)) [] (E.pr (Pr.mem) [E.var 15, E.var 10])]))])]
                     (E.var 10)])
                [S.ret (some (E.cst (PV.bl false)))]
                []
def UB : List S := [L4, U2, U3, U4]
def F3 : S := S.for_ (T.nm 3) (It.rng [E.cst (PV.int 1), E.cst (PV.int 5)]) UB
def A1 : S := S.asg (T.nm 1) (E.lst [E.var 0, E.cst (PV.int 0)])
def A2 : S := S.asg (T.nm 2) (E.dct [])
def FB : S := S.for_
             (T.tup [T.nm 17, T.nm 18])
             (It.of
               (E.tup
                 [E.tup [E.tup [E.cst (PV.int 0), E.cst (PV.bl true), E.cst (PV.bl true), E.cst (PV.bl true)], E.cst (PV.str [117, 115, 101, 114, 115])],
                  E.tup [E.tup [E.cst (PV.int 5), E.cst (PV.bl true), E.cst (PV.bl true), E.cst (PV.bl true)], E.cst (PV.str [117, 115, 101, 114, 115])],
                  E.tup [E.tup [E.cst (PV.bl true), E.cst (PV.bl true), E.cst (PV.bl true), E.cst (PV.bl true)], E.cst (PV.str [117, 115, 101, 114, 115])],
                  E.tup [E.tup [E.cst (PV.int 1), E.cst (PV.int 1), E.cst (PV.bl true), E.cst (PV.bl true)], E.cst (PV.str [104, 101, 108, 100])],
                  E.tup [E.tup [E.cst (PV.int 1), E.cst (PV.bl true), E.cst (PV.non), E.cst (PV.bl true)], E.cst (PV.str [109, 97, 114, 107, 101, 100])],
                  E.tup [E.tup [E.cst (PV.int 1), E.cst (PV.bl true), E.cst (PV.bl true), E.cst (PV.int 0)], E.cst (PV.str [119, 97, 105, 116, 115])]]))
             [S.tri
                [S.ex
                   (E.mk
                     0
                     [E.pr (Pr.ix) [E.var 17, E.cst (PV.int 0)],
                      E.pr (Pr.ix) [E.var 17, E.cst (PV.int 1)],
                      E.pr (Pr.ix) [E.var 17, E.cst (PV.int 2)],
                      E.pr (Pr.ix) [E.var 17, E.cst (PV.int 3)]]),
                 S.ret (some (E.cst (PV.bl false)))]
                [([1000], some 19, XS.ifr (X.ne (X.fld 1) (X.var 18)) (X.cst (PV.bl false)))]]
def TR : S := S.tri
             [S.ex (E.call 3 [E.cst (PV.int 3)]), S.ret (some (E.cst (PV.bl false)))]
             [([1000], some 19, XS.ret (X.eq (X.fld 1) (X.cst (PV.str [104, 97, 110, 100, 108, 101, 115]))))]
theorem body20 : fn20.body = [A1, A2, F3, FB, TR] := by kernel_rfl
abbrev held_ : PV := .str [104, 101, 108, 100]
abbrev marked_ : PV := .str [109, 97, 114, 107, 101, 100]
abbrev waits_ : PV := .str [119, 97, 105, 116, 115]
def nmF (h m w : Bool) : List PV := (on h held_ ++ on m marked_) ++ on w waits_
def keyF (u : Int) (h m w : Bool) : PV := .tup [.int u, .tup (nmF h m w)]
def gd (u : Int) (h m w : Bool) : Bool := wnF h m w && !rgF u h m w
theorem key_hashy (u : Int) (h m w : Bool) : hashy (keyF u h m w) = true := by cases h <;> cases m <;> cases w <;> rfl
abbrev ρ20 (sc d : PV) (G : List (PV × PV)) (u h m w x7 x8 x9 x10 x11 x12 x13 x14 x15 x16 x17 x18 x19 : Option (PV × Bool)) : Sl := [sl sc, so d, so (.dct G), u, h, m, w, x7, x8, x9, x10, x11, x12, x13, x14, x15, x16, x17, x18, x19]
def St (sc : PV) (ns : List Int) (G : List (PV × PV)) (u h m w : Option (PV × Bool)) (ρ : Sl) : Prop := ∃ k x7 x8 x9 x10 x11 x12 x13 x14 x15 x16 x17 x18 x19, ρ = ρ20 sc (dr ns k) G u h m w x7 x8 x9 x10 x11 x12 x13 x14 x15 x16 x17 x18 x19
section
variable {cl : FC} {W : Nat} {sc d d' : PV} {G : List (PV × PV)} {u : Int} {h m w rg : Bool} {fd : List (PV × PV)} {WR : PV} {x4 x5 x6 x7 x8 x9 x10 x11 x12 x13 x14 x15 x16 x17 x18 x19 : Option (PV × Bool)}
theorem b1_ok (h21 : cl 21 [.ins 0 [], .int u, .bl h, .bl m, .bl w] = .rt .non false [hnd u h m w]) : exS D.g cl W B1 (ρ20 sc d G (sl (.int u)) (sl (.bl h)) (sl (.bl m)) (sl (.bl w)) x7 x8 x9 x10 x11 x12 x13 x14 x15 x16 x17 x18 x19) = .nx (ρ20 sc d G (sl (.int u)) (sl (.bl h)) (sl (.bl m)) (sl (.bl w)) (sl (rul u h m w)) (so (hnd u h m w)) x9 x10 x11 x12 x13 x14 x15 x16 x17 x18 x19) := by
  simp [B1, uses, bindOs, bindO, h21, exSs, exS, ev, evs, fin, sget0, sgetS, val, vals, O.bd, O.so, SO.sq, callO, ioS, frzA, sput0, sputS, putS, primO, prim, List.lookup, truthO, truth0, use, asI, disp, starL, isStar, int2, cmpV, gio, gio2, gmt, gin0, gbo, geq, gmk, bindT, bindTs, addV, endF, outV, fok, isNon, lenV, ownS]
theorem b2_ok (h19 : cl 19 [d, rul u h m w, hnd u h m w] = .rt (.bl true) false [d']) : exS D.g cl W B2 (ρ20 sc d G (sl (.int u)) (sl (.bl h)) (sl (.bl m)) (sl (.bl w)) (sl (rul u h m w)) (so (hnd u h m w)) x9 x10 x11 x12 x13 x14 x15 x16 x17 x18 x19) = .nx (ρ20 sc d' G (sl (.int u)) (sl (.bl h)) (sl (.bl m)) (sl (.bl w)) (sl (rul u h m w)) (sl (hnd u h m w)) x9 x10 x11 x12 x13 x14 x15 x16 x17 x18 x19) := by
  refine exS_no (o := false) ?_
  simp [h19, exSs, exS, ev, evs, fin, sget0, sgetS, val, vals, O.bd, O.so, SO.sq, callO, ioS, frzA, sput0, sputS, putS, primO, prim, List.lookup, truthO, truth0, use, asI, disp, starL, isStar, int2, cmpV, gio, gio2, gmt, gin0, gbo, geq, gmk, bindT, bindTs, addV, endF, outV, fok, isNon, lenV, ownS]
theorem b3_ok (h16 : cl 16 [rul u h m w] = .rt (.tup [.dct fd, WR]) false []) : exS D.g cl W B3 (ρ20 sc d G (sl (.int u)) (sl (.bl h)) (sl (.bl m)) (sl (.bl w)) (sl (rul u h m w)) (sl (hnd u h m w)) x9 x10 x11 x12 x13 x14 x15 x16 x17 x18 x19) = .nx (ρ20 sc d G (sl (.int u)) (sl (.bl h)) (sl (.bl m)) (sl (.bl w)) (sl (rul u h m w)) (sl (hnd u h m w)) (sl (.tup [.dct fd, WR])) x10 x11 x12 x13 x14 x15 x16 x17 x18 x19) := by
  simp [B3, h16, exSs, exS, ev, evs, fin, sget0, sgetS, val, vals, O.bd, O.so, SO.sq, callO, ioS, frzA, sput0, sputS, putS, primO, prim, List.lookup, truthO, truth0, use, asI, disp, starL, isStar, int2, cmpV, gio, gio2, gmt, gin0, gbo, geq, gmk, bindT, bindTs, addV, endF, outV, fok, isNon, lenV, ownS]
theorem b4_ok : exS D.g cl W B4 (ρ20 sc d G (sl (.int u)) (sl (.bl h)) (sl (.bl m)) (sl (.bl w)) x7 x8 x9 x10 x11 x12 x13 x14 x15 x16 x17 x18 x19) = .nx (ρ20 sc d G (sl (.int u)) (sl (.bl h)) (sl (.bl m)) (sl (.bl w)) x7 x8 x9 (sl (.tup (nmF h m w))) x11 x12 x13 x14 x15 x16 x17 x18 x19) := by
  cases h <;> cases m <;> cases w <;> kernel_rfl
theorem b5_ok (h17 : cl 17 [rul u h m w, .dct fd] = .rt (.bl rg) false []) (hG : G.length < 16777216) : exS D.g cl W B5 (ρ20 sc d G (sl (.int u)) (sl (.bl h)) (sl (.bl m)) (sl (.bl w)) (sl (rul u h m w)) (sl (hnd u h m w)) (sl (.tup [.dct fd, WR])) (sl (.tup (nmF h m w))) x11 x12 x13 x14 x15 x16 x17 x18 x19) = .nx (ρ20 sc d (dput (keyF u h m w) (.bl (isNon WR && !rg)) G) (sl (.int u)) (sl (.bl h)) (sl (.bl m)) (sl (.bl w)) (sl (rul u h m w)) (sl (hnd u h m w)) (sl (.tup [.dct fd, WR])) (sl (.tup (nmF h m w))) x11 x12 x13 x14 x15 x16 x17 x18 x19) := by
  have hk := key_hashy u h m w
  unfold keyF at hk ⊢
  cases hi : isNon WR with
  | false => simp [B5, h17, hi, hk, hG, setV, ixV, L2.atI, L2.ixN, exSs, exS, ev, evs, fin, sget0, sgetS, val, vals, O.bd, O.so, SO.sq, callO, ioS, frzA, sput0, sputS, putS, primO, prim, List.lookup, truthO, truth0, use, asI, disp, starL, isStar, int2, cmpV, gio, gio2, gmt, gin0, gbo, geq, gmk, bindT, bindTs, addV, endF, outV, fok, lenV, ownS]
  | true => simp [B5, h17, hi, hk, hG, setV, ixV, L2.atI, L2.ixN, exSs, exS, ev, evs, fin, sget0, sgetS, val, vals, O.bd, O.so, SO.sq, callO, ioS, frzA, sput0, sputS, putS, primO, prim, List.lookup, truthO, truth0, use, asI, disp, starL, isStar, int2, cmpV, gio, gio2, gmt, gin0, gbo, geq, gmk, bindT, bindTs, addV, endF, outV, fok, lenV, ownS]
end
theorem dput_len (k v : PV) : ∀ G : List (PV × PV), (dput k v G).length ≤ G.length + 1
  | [] => by simp [dput]
  | (a, b) :: r => by
    have := dput_len k v r
    unfold dput
    split <;> simp <;> omega
/-- what is known of a rule -/
structure OK (u : Int) (h m w : Bool) : Prop where
  rd : ∃ fd, RD (callD pgL 10) u h m w fd (Wrf h m w) (Jf h m w fd.length) (Ffr u h m w) (rgF u h m w)
  sp : spOk u h m w = true
  li : liOk u h m w = true
  i : callD pgL 14 21 [.ins 0 [], .int u, .bl h, .bl m, .bl w] = .rt .non false [hnd u h m w]
theorem wr_non (h m w : Bool) : isNon (Wrf h m w) = wnF h m w := by cases h <;> cases m <;> cases w <;> rfl
section
variable {ns : List Int} (hn : ns.length ≤ 63) {u : Int} {sc : PV}
include hn
theorem bb_ok {G : List (PV × PV)} {h m w : Bool} (K : OK u h m w) (hG : G.length < 16777216) {y : Option (PV × Bool)} {ρ : Sl} (hρ : St sc ns G (sl (.int u)) (sl (.bl h)) (sl (.bl m)) y ρ) :
    ∃ ρ', turn D.g (callD pgL 14) D.W (.nm 6) BB (.bl w) ρ = .nx ρ' ∧ St sc ns (dput (keyF u h m w) (.bl (gd u h m w)) G) (sl (.int u)) (sl (.bl h)) (sl (.bl m)) (sl (.bl w)) ρ' := by
  obtain ⟨k, x7, x8, x9, x10, x11, x12, x13, x14, x15, x16, x17, x18, x19, rfl⟩ := hρ
  obtain ⟨⟨fd, R⟩, hs, hl, h21⟩ := K
  obtain ⟨k', h19⟩ := f19 hn k R hs hl
  have R14 := R.up (d := 14) (by decide)
  have e0 : turn D.g (callD pgL 14) D.W (.nm 6) BB (.bl w) (ρ20 sc (dr ns k) G (sl (.int u)) (sl (.bl h)) (sl (.bl m)) y x7 x8 x9 x10 x11 x12 x13 x14 x15 x16 x17 x18 x19) = exSs D.g (callD pgL 14) D.W BB (ρ20 sc (dr ns k) G (sl (.int u)) (sl (.bl h)) (sl (.bl m)) (sl (.bl w)) x7 x8 x9 x10 x11 x12 x13 x14 x15 x16 x17 x18 x19) := rfl
  refine ⟨ρ20 sc (dr ns k') (dput (keyF u h m w) (.bl (gd u h m w)) G) (sl (.int u)) (sl (.bl h)) (sl (.bl m)) (sl (.bl w)) (sl (rul u h m w)) (sl (hnd u h m w)) (sl (.tup [.dct fd, Wrf h m w])) (sl (.tup (nmF h m w))) x11 x12 x13 x14 x15 x16 x17 x18 x19, e0.trans ?_, k', _, _, _, _, _, _, _, _, _, _, _, _, _, rfl⟩
  unfold BB
  rw [exSs_nx (b1_ok h21), exSs_nx (b2_ok h19), exSs_nx (b3_ok R14.h16), exSs_nx b4_ok, exSs_nx (b5_ok R14.h17 hG), exSs_nil, wr_non]
  rfl
def gg1 (u : Int) (h m : Bool) (G : List (PV × PV)) : List (PV × PV) := dput (keyF u h m true) (.bl (gd u h m true)) (dput (keyF u h m false) (.bl (gd u h m false)) G)
def gg2 (u : Int) (h : Bool) (G : List (PV × PV)) : List (PV × PV) := gg1 u h true (gg1 u h false G)
def gg3 (u : Int) (G : List (PV × PV)) : List (PV × PV) := gg2 u true (gg2 u false G)
omit hn in
theorem gg1_len (u : Int) (h m : Bool) (G : List (PV × PV)) : (gg1 u h m G).length ≤ G.length + 2 := by
  unfold gg1
  have a := dput_len (keyF u h m true) (.bl (gd u h m true)) (dput (keyF u h m false) (.bl (gd u h m false)) G)
  have b := dput_len (keyF u h m false) (.bl (gd u h m false)) G
  omega
omit hn in
theorem gg2_len (u : Int) (h : Bool) (G : List (PV × PV)) : (gg2 u h G).length ≤ G.length + 4 := by
  unfold gg2
  have a := gg1_len u h true (gg1 u h false G)
  have b := gg1_len u h false G
  omega
omit hn in
theorem gg3_len (u : Int) (G : List (PV × PV)) : (gg3 u G).length ≤ G.length + 8 := by
  unfold gg3
  have a := gg2_len u true (gg2 u false G)
  have b := gg2_len u false G
  omega
omit hn in
theorem tf_ok {cl : FC} {ρ : Sl} : evI D.g cl (It.of (E.tup [E.cst (PV.bl false), E.cst (PV.bl true)])) ρ = .ok [.bl false, .bl true] ρ := by
  simp [evI, exSs, exS, ev, evs, fin, sget0, sgetS, val, vals, O.bd, O.so, SO.sq, callO, ioS, frzA, sput0, sputS, putS, primO, prim, List.lookup, truthO, truth0, use, asI, disp, starL, isStar, int2, cmpV, gio, gio2, gmt, gin0, gbo, geq, gmk, bindT, bindTs, addV, endF, outV, fok, isNon, lenV, ownS]
theorem l6_ok {G : List (PV × PV)} {h m : Bool} (K : ∀ w, OK u h m w) (hG : G.length < 16777200) {y : Option (PV × Bool)} {ρ : Sl} (hρ : St sc ns G (sl (.int u)) (sl (.bl h)) (sl (.bl m)) y ρ) :
    ∃ ρ', exS D.g (callD pgL 14) D.W L6 ρ = .nx ρ' ∧ St sc ns (gg1 u h m G) (sl (.int u)) (sl (.bl h)) (sl (.bl m)) (sl (.bl true)) ρ' := by
  obtain ⟨ρ1, e1, h1⟩ := bb_ok hn (K false) (by omega) hρ
  have hL := dput_len (keyF u h m false) (.bl (gd u h m false)) G
  obtain ⟨ρ2, e2, h2⟩ := bb_ok hn (K true) (by omega) h1
  exact ⟨ρ2, (exS_for tf_ok).trans ((forL_nx e1).trans ((forL_nx e2).trans forL_nil)), h2⟩
omit hn in
theorem turnT {cl : FC} {i : Nat} {s : S} {p : PV} {ρ ρ1 ρ' : Sl} (hb : bindT (.nm i) p ρ = some ρ1) (e : exS D.g cl D.W s ρ1 = .nx ρ') : turn D.g cl D.W (.nm i) [s] p ρ = .nx ρ' := by
  unfold turn
  rw [hb]
  exact (exSs_nx e).trans exSs_nil
theorem l5_ok {G : List (PV × PV)} {h : Bool} (K : ∀ m w, OK u h m w) (hG : G.length < 16777100) {y z : Option (PV × Bool)} {ρ : Sl} (hρ : St sc ns G (sl (.int u)) (sl (.bl h)) y z ρ) :
    ∃ ρ', exS D.g (callD pgL 14) D.W L5 ρ = .nx ρ' ∧ St sc ns (gg2 u h G) (sl (.int u)) (sl (.bl h)) (sl (.bl true)) (sl (.bl true)) ρ' := by
  obtain ⟨k, x7, x8, x9, x10, x11, x12, x13, x14, x15, x16, x17, x18, x19, rfl⟩ := hρ
  obtain ⟨ρ1, e1, h1⟩ := l6_ok hn (K false) (by omega) (ρ := ρ20 sc (dr ns k) G (sl (.int u)) (sl (.bl h)) (sl (.bl false)) z x7 x8 x9 x10 x11 x12 x13 x14 x15 x16 x17 x18 x19) ⟨k, _, _, _, _, _, _, _, _, _, _, _, _, _, rfl⟩
  obtain ⟨k2, y7, y8, y9, y10, y11, y12, y13, y14, y15, y16, y17, y18, y19, rfl⟩ := h1
  have hL := gg1_len u h false G
  obtain ⟨ρ2, e2, h2⟩ := l6_ok hn (K true) (by omega) (ρ := ρ20 sc (dr ns k2) (gg1 u h false G) (sl (.int u)) (sl (.bl h)) (sl (.bl true)) (sl (.bl true)) y7 y8 y9 y10 y11 y12 y13 y14 y15 y16 y17 y18 y19) ⟨k2, _, _, _, _, _, _, _, _, _, _, _, _, _, rfl⟩
  exact ⟨ρ2, (exS_for tf_ok).trans ((forL_nx (turnT rfl e1)).trans ((forL_nx (turnT rfl e2)).trans forL_nil)), h2⟩
theorem l4_ok {G : List (PV × PV)} (K : ∀ h m w, OK u h m w) (hG : G.length < 16777000) {x y z : Option (PV × Bool)} {ρ : Sl} (hρ : St sc ns G (sl (.int u)) x y z ρ) :
    ∃ ρ', exS D.g (callD pgL 14) D.W L4 ρ = .nx ρ' ∧ St sc ns (gg3 u G) (sl (.int u)) (sl (.bl true)) (sl (.bl true)) (sl (.bl true)) ρ' := by
  obtain ⟨k, x7, x8, x9, x10, x11, x12, x13, x14, x15, x16, x17, x18, x19, rfl⟩ := hρ
  obtain ⟨ρ1, e1, h1⟩ := l5_ok hn (K false) (by omega) (ρ := ρ20 sc (dr ns k) G (sl (.int u)) (sl (.bl false)) y z x7 x8 x9 x10 x11 x12 x13 x14 x15 x16 x17 x18 x19) ⟨k, _, _, _, _, _, _, _, _, _, _, _, _, _, rfl⟩
  obtain ⟨k2, y7, y8, y9, y10, y11, y12, y13, y14, y15, y16, y17, y18, y19, rfl⟩ := h1
  have hL := gg2_len u false G
  obtain ⟨ρ2, e2, h2⟩ := l5_ok hn (K true) (by omega) (ρ := ρ20 sc (dr ns k2) (gg2 u false G) (sl (.int u)) (sl (.bl true)) (sl (.bl true)) (sl (.bl true)) y7 y8 y9 y10 y11 y12 y13 y14 y15 y16 y17 y18 y19) ⟨k2, _, _, _, _, _, _, _, _, _, _, _, _, _, rfl⟩
  exact ⟨ρ2, (exS_for tf_ok).trans ((forL_nx (turnT rfl e1)).trans ((forL_nx (turnT rfl e2)).trans forL_nil)), h2⟩
end
/-! ### the least rules -/
def LR : List PV := [.tup [held_, marked_], .tup [marked_, waits_]]
def rightL : List PV := [.tup [held_, marked_], .tup [marked_, waits_], .tup [held_, marked_, waits_]]
def orderL : List PV := [.tup [], .tup [held_], .tup [marked_], .tup [waits_], .tup [held_, marked_], .tup [held_, waits_], .tup [marked_, waits_], .tup [held_, marked_, waits_]]
/-- as if the judges had answered -/
def clo (N : Int → Bool → Bool → Bool → Int) : FC := fun f vs =>
  if f = 3 then (match vs with
    | [.ins 0 [(2, .int u), (3, .bl h), (4, .bl m), (5, .bl w)]] => if 1 ≤ u ∧ u ≤ 4 then .rt (Jf h m w (N u h m w)) true [] else .no
    | _ => .no)
  else if f = 5 then (match vs with
    | [.ins 0 [(2, .int u), (3, .bl h), (4, .bl m), (5, .bl w)]] => if 1 ≤ u ∧ u ≤ 4 then .rt (Ffr u h m w) true [] else .no
    | _ => .no)
  else callD pgL 6 f vs
theorem clo_le {N : Int → Bool → Bool → Bool → Int} (hN : ∀ u h m w, 1 ≤ u → u ≤ 4 → callD pgL 13 3 [hnd u h m w] = .rt (Jf h m w (N u h m w)) true [] ∧ callD pgL 13 5 [hnd u h m w] = .rt (Ffr u h m w) true []) : LC (clo N) (callD pgL 13) := by
  intro f vs
  unfold clo
  split
  · rename_i hf
    subst hf
    split
    · rename_i u h m w
      split
      · rename_i hu
        exact .inr (hN u h m w hu.1 hu.2).1.symm
      · exact .inl rfl
    · exact .inl rfl
  · split
    · rename_i hf
      subst hf
      split
      · rename_i u h m w
        split
        · rename_i hu
          exact .inr (hN u h m w hu.1 hu.2).2.symm
        · exact .inl rfl
      · exact .inl rfl
    · exact callD_le 6 7 f vs
theorem lr1 (N : Int → Bool → Bool → Bool → Int) : runF pgL (clo N) 7 [.int 1] = .rt (.lst LR) true [] := by kernel_rfl
theorem lr2 (N : Int → Bool → Bool → Bool → Int) : runF pgL (clo N) 7 [.int 2] = .rt (.lst LR) true [] := by kernel_rfl
theorem lr3 (N : Int → Bool → Bool → Bool → Int) : runF pgL (clo N) 7 [.int 3] = .rt (.lst LR) true [] := by kernel_rfl
theorem lr4 (N : Int → Bool → Bool → Bool → Int) : runF pgL (clo N) 7 [.int 4] = .rt (.lst LR) true [] := by kernel_rfl

/-- as if least_rules had answered -/
def clq : FC := fun f vs =>
  if f = 7 then (match vs with
    | [.int u] => if 1 ≤ u ∧ u ≤ 4 then .rt (.lst LR) true [] else .no
    | _ => .no)
  else .no
def Gd1 : List (PV × PV) := (gg3 1 [])
theorem tl1 {sc d : PV} {x4 x5 x6 x7 x8 x9 x10 x11 x12 x13 x14 x15 x16 x17 x18 x19 : Option (PV × Bool)} : exSs D.g clq D.W [U2, U3, U4] (ρ20 sc d Gd1 (sl (.int 1)) x4 x5 x6 x7 x8 x9 x10 x11 x12 x13 x14 x15 x16 x17 x18 x19) = .nx (ρ20 sc d Gd1 (sl (.int 1)) x4 x5 x6 x7 x8 x9 x10 x11 x12 (so (.lst orderL)) (so (.lst rightL)) x15 x16 x17 x18 x19) := by kernel_rfl
def Gd2 : List (PV × PV) := gg3 2 Gd1
theorem tl2 {sc d : PV} {x4 x5 x6 x7 x8 x9 x10 x11 x12 x13 x14 x15 x16 x17 x18 x19 : Option (PV × Bool)} : exSs D.g clq D.W [U2, U3, U4] (ρ20 sc d Gd2 (sl (.int 2)) x4 x5 x6 x7 x8 x9 x10 x11 x12 x13 x14 x15 x16 x17 x18 x19) = .nx (ρ20 sc d Gd2 (sl (.int 2)) x4 x5 x6 x7 x8 x9 x10 x11 x12 (so (.lst orderL)) (so (.lst rightL)) x15 x16 x17 x18 x19) := by kernel_rfl
def Gd3 : List (PV × PV) := gg3 3 Gd2
theorem tl3 {sc d : PV} {x4 x5 x6 x7 x8 x9 x10 x11 x12 x13 x14 x15 x16 x17 x18 x19 : Option (PV × Bool)} : exSs D.g clq D.W [U2, U3, U4] (ρ20 sc d Gd3 (sl (.int 3)) x4 x5 x6 x7 x8 x9 x10 x11 x12 x13 x14 x15 x16 x17 x18 x19) = .nx (ρ20 sc d Gd3 (sl (.int 3)) x4 x5 x6 x7 x8 x9 x10 x11 x12 (so (.lst orderL)) (so (.lst rightL)) x15 x16 x17 x18 x19) := by kernel_rfl
def Gd4 : List (PV × PV) := gg3 4 Gd3
theorem tl4 {sc d : PV} {x4 x5 x6 x7 x8 x9 x10 x11 x12 x13 x14 x15 x16 x17 x18 x19 : Option (PV × Bool)} : exSs D.g clq D.W [U2, U3, U4] (ρ20 sc d Gd4 (sl (.int 4)) x4 x5 x6 x7 x8 x9 x10 x11 x12 x13 x14 x15 x16 x17 x18 x19) = .nx (ρ20 sc d Gd4 (sl (.int 4)) x4 x5 x6 x7 x8 x9 x10 x11 x12 (so (.lst orderL)) (so (.lst rightL)) x15 x16 x17 x18 x19) := by kernel_rfl

theorem fin_ok {sc d : PV} {G : List (PV × PV)} {x3 x4 x5 x6 x7 x8 x9 x10 x11 x12 x13 x14 x15 x16 x17 x18 x19 : Option (PV × Bool)} : endF [] (exSs D.g (callD pgL 6) D.W [FB, TR] (ρ20 sc d G x3 x4 x5 x6 x7 x8 x9 x10 x11 x12 x13 x14 x15 x16 x17 x18 x19)) = .rt (.bl true) false [] := by kernel_rfl
end K45

set_option Elab.async false
set_option linter.all false
set_option maxRecDepth 100000
set_option maxHeartbeats 1000000
open Ev
namespace K45
theorem so1 : ∀ h m w : Bool, spOk 1 h m w = true ∧ liOk 1 h m w = true := by decide +kernel
theorem in1 (h m w : Bool) : callD pgL 6 21 [.ins 0 [], .int 1, .bl h, .bl m, .bl w] = .rt .non false [hnd 1 h m w] := by kernel_rfl
theorem so2 : ∀ h m w : Bool, spOk 2 h m w = true ∧ liOk 2 h m w = true := by decide +kernel
theorem in2 (h m w : Bool) : callD pgL 6 21 [.ins 0 [], .int 2, .bl h, .bl m, .bl w] = .rt .non false [hnd 2 h m w] := by kernel_rfl
theorem so3 : ∀ h m w : Bool, spOk 3 h m w = true ∧ liOk 3 h m w = true := by decide +kernel
theorem in3 (h m w : Bool) : callD pgL 6 21 [.ins 0 [], .int 3, .bl h, .bl m, .bl w] = .rt .non false [hnd 3 h m w] := by kernel_rfl
theorem so4 : ∀ h m w : Bool, spOk 4 h m w = true ∧ liOk 4 h m w = true := by decide +kernel
theorem in4 (h m w : Bool) : callD pgL 6 21 [.ins 0 [], .int 4, .bl h, .bl m, .bl w] = .rt .non false [hnd 4 h m w] := by kernel_rfl
theorem rdAll (u : Int) (h1 : 1 ≤ u) (h2 : u ≤ 4) (h m w : Bool) : ∃ fd, RD (callD pgL 10) u h m w fd (Wrf h m w) (Jf h m w fd.length) (Ffr u h m w) (rgF u h m w) := by
  have hu : u = 1 ∨ u = 2 ∨ u = 3 ∨ u = 4 := by omega
  rcases hu with rfl | rfl | rfl | rfl
  · cases h with
    | false => cases m with
      | false => cases w with
        | false => exact wkd_ok r1fff q1fff
        | true => exact wkd_ok r1fft q1fft
      | true => cases w with
        | false => exact wkd_ok r1ftf q1ftf
        | true => exact wkd_ok r1ftt q1ftt
    | true => cases m with
      | false => cases w with
        | false => exact wkd_ok r1tff q1tff
        | true => exact wkd_ok r1tft q1tft
      | true => cases w with
        | false => exact wkd_ok r1ttf q1ttf
        | true => exact wkd_ok r1ttt q1ttt
  · cases h with
    | false => cases m with
      | false => cases w with
        | false => exact wkd_ok r2fff q2fff
        | true => exact wkd_ok r2fft q2fft
      | true => cases w with
        | false => exact wkd_ok r2ftf q2ftf
        | true => exact wkd_ok r2ftt q2ftt
    | true => cases m with
      | false => cases w with
        | false => exact wkd_ok r2tff q2tff
        | true => exact wkd_ok r2tft q2tft
      | true => cases w with
        | false => exact wkd_ok r2ttf q2ttf
        | true => exact wkd_ok r2ttt q2ttt
  · cases h with
    | false => cases m with
      | false => cases w with
        | false => exact wkd_ok r3fff q3fff
        | true => exact wkd_ok r3fft q3fft
      | true => cases w with
        | false => exact wkd_ok r3ftf q3ftf
        | true => exact wkd_ok r3ftt q3ftt
    | true => cases m with
      | false => cases w with
        | false => exact wkd_ok r3tff q3tff
        | true => exact wkd_ok r3tft q3tft
      | true => cases w with
        | false => exact wkd_ok r3ttf q3ttf
        | true => exact wkd_ok r3ttt q3ttt
  · cases h with
    | false => cases m with
      | false => cases w with
        | false => exact wkd_ok r4fff q4fff
        | true => exact wkd_ok r4fft q4fft
      | true => cases w with
        | false => exact wkd_ok r4ftf q4ftf
        | true => exact wkd_ok r4ftt q4ftt
    | true => cases m with
      | false => cases w with
        | false => exact wkd_ok r4tff q4tff
        | true => exact wkd_ok r4tft q4tft
      | true => cases w with
        | false => exact wkd_ok r4ttf q4ttf
        | true => exact wkd_ok r4ttt q4ttt
theorem ok1 (h m w : Bool) : OK 1 h m w := ⟨rdAll 1 (by decide) (by decide) h m w, (so1 h m w).1, (so1 h m w).2, callD_up (in1 h m w) (fun h => by cases h) (by decide)⟩
theorem ok2 (h m w : Bool) : OK 2 h m w := ⟨rdAll 2 (by decide) (by decide) h m w, (so2 h m w).1, (so2 h m w).2, callD_up (in2 h m w) (fun h => by cases h) (by decide)⟩
theorem ok3 (h m w : Bool) : OK 3 h m w := ⟨rdAll 3 (by decide) (by decide) h m w, (so3 h m w).1, (so3 h m w).2, callD_up (in3 h m w) (fun h => by cases h) (by decide)⟩
theorem ok4 (h m w : Bool) : OK 4 h m w := ⟨rdAll 4 (by decide) (by decide) h m w, (so4 h m w).1, (so4 h m w).2, callD_up (in4 h m w) (fun h => by cases h) (by decide)⟩

theorem exN : ∃ N : Int → Bool → Bool → Bool → Int, ∀ u h m w, 1 ≤ u → u ≤ 4 → callD pgL 13 3 [hnd u h m w] = .rt (Jf h m w (N u h m w)) true [] ∧ callD pgL 13 5 [hnd u h m w] = .rt (Ffr u h m w) true [] := by
  refine ⟨fun u h m w => if hx : 1 ≤ u ∧ u ≤ 4 then ((Classical.choose (rdAll u hx.1 hx.2 h m w)).length : Int) else 0, fun u h m w h1 h2 => ?_⟩
  have R := (Classical.choose_spec (rdAll u h1 h2 h m w)).up (d := 13) (by decide)
  show callD pgL 13 3 [hnd u h m w] = .rt (Jf h m w (if hx : 1 ≤ u ∧ u ≤ 4 then ((Classical.choose (rdAll u hx.1 hx.2 h m w)).length : Int) else 0)) true [] ∧ _
  rw [dif_pos ⟨h1, h2⟩]
  exact ⟨R.h3, R.h5⟩
theorem st14' (f : Nat) (vs : List PV) : callD pgL 14 f vs = runF pgL (callD pgL 13) f vs := rfl
theorem h7 (u : Int) (h1 : 1 ≤ u) (h2 : u ≤ 4) : callD pgL 14 7 [.int u] = .rt (.lst LR) true [] := by
  obtain ⟨N, hN⟩ := exN
  have hc := clo_le hN
  have hu : u = 1 ∨ u = 2 ∨ u = 3 ∨ u = 4 := by omega
  refine (st14' _ _).trans ?_
  rcases hu with rfl | rfl | rfl | rfl
  · exact LF.eq (runF_le hc 7 [.int 1]) (lr1 N) (fun h => by cases h)
  · exact LF.eq (runF_le hc 7 [.int 2]) (lr2 N) (fun h => by cases h)
  · exact LF.eq (runF_le hc 7 [.int 3]) (lr3 N) (fun h => by cases h)
  · exact LF.eq (runF_le hc 7 [.int 4]) (lr4 N) (fun h => by cases h)
theorem clq_le : LC clq (callD pgL 14) := by
  intro f vs
  unfold clq
  split
  · rename_i hf
    subst hf
    split
    · rename_i u
      split
      · rename_i hu
        exact .inr (h7 u hu.1 hu.2).symm
      · exact .inl rfl
    · exact .inl rfl
  · exact .inl rfl
theorem LS.nx {r r' : SO} {ρ : Sl} (h : LS r r') (e : r = .nx ρ) : r' = .nx ρ := by
  rcases h with h | h
  · rw [e] at h
    cases h
  · exact h ▸ e
section
variable {ns : List Int} (hn : ns.length ≤ 63) {u : Int} {sc : PV}
include hn
theorem ub_ok {G G' : List (PV × PV)} (K : ∀ h m w, OK u h m w) (hG : G.length < 16777000) (hG' : gg3 u G = G')
    (tl : ∀ {d : PV} {x4 x5 x6 x7 x8 x9 x10 x11 x12 x13 x14 x15 x16 x17 x18 x19 : Option (PV × Bool)}, exSs D.g clq D.W [U2, U3, U4] (ρ20 sc d G' (sl (.int u)) x4 x5 x6 x7 x8 x9 x10 x11 x12 x13 x14 x15 x16 x17 x18 x19) = .nx (ρ20 sc d G' (sl (.int u)) x4 x5 x6 x7 x8 x9 x10 x11 x12 (so (.lst orderL)) (so (.lst rightL)) x15 x16 x17 x18 x19))
    {x3 x4 x5 x6 : Option (PV × Bool)} {ρ : Sl} (hρ : St sc ns G x3 x4 x5 x6 ρ) :
    ∃ ρ', turn D.g (callD pgL 14) D.W (.nm 3) UB (.int u) ρ = .nx ρ' ∧ St sc ns G' (sl (.int u)) (sl (.bl true)) (sl (.bl true)) (sl (.bl true)) ρ' := by
  obtain ⟨k, x7, x8, x9, x10, x11, x12, x13, x14, x15, x16, x17, x18, x19, rfl⟩ := hρ
  obtain ⟨ρ1, e1, h1⟩ := l4_ok hn K hG (ρ := ρ20 sc (dr ns k) G (sl (.int u)) x4 x5 x6 x7 x8 x9 x10 x11 x12 x13 x14 x15 x16 x17 x18 x19) ⟨k, _, _, _, _, _, _, _, _, _, _, _, _, _, rfl⟩
  rw [hG'] at h1
  obtain ⟨k2, y7, y8, y9, y10, y11, y12, y13, y14, y15, y16, y17, y18, y19, rfl⟩ := h1
  have e2 := LS.nx (exSs_le clq_le [U2, U3, U4] _) (tl (d := dr ns k2) (x4 := sl (.bl true)) (x5 := sl (.bl true)) (x6 := sl (.bl true)) (x7 := y7) (x8 := y8) (x9 := y9) (x10 := y10) (x11 := y11) (x12 := y12) (x13 := y13) (x14 := y14) (x15 := y15) (x16 := y16) (x17 := y17) (x18 := y18) (x19 := y19))
  have e0 : turn D.g (callD pgL 14) D.W (.nm 3) UB (.int u) (ρ20 sc (dr ns k) G x3 x4 x5 x6 x7 x8 x9 x10 x11 x12 x13 x14 x15 x16 x17 x18 x19) = exSs D.g (callD pgL 14) D.W (L4 :: [U2, U3, U4]) (ρ20 sc (dr ns k) G (sl (.int u)) x4 x5 x6 x7 x8 x9 x10 x11 x12 x13 x14 x15 x16 x17 x18 x19) := rfl
  exact ⟨_, e0.trans ((exSs_nx e1).trans e2), k2, _, _, _, _, _, _, _, _, _, _, _, _, _, rfl⟩
end
theorem a1_ok {cl : FC} {W : Nat} {sc : PV} : exS D.g cl W A1 [sl sc, none, none, none, none, none, none, none, none, none, none, none, none, none, none, none, none, none, none, none] = .nx [sl sc, so (.lst [sc, .int 0]), none, none, none, none, none, none, none, none, none, none, none, none, none, none, none, none, none, none] := by kernel_rfl
theorem a2_ok {cl : FC} {W : Nat} {sc d : PV} : exS D.g cl W A2 [sl sc, so d, none, none, none, none, none, none, none, none, none, none, none, none, none, none, none, none, none, none] = .nx (ρ20 sc d [] none none none none none none none none none none none none none none none none none) := by kernel_rfl
theorem rng_ok {cl : FC} {ρ : Sl} : evI D.g cl (It.rng [E.cst (PV.int 1), E.cst (PV.int 5)]) ρ = .ok [.int 1, .int 2, .int 3, .int 4] ρ := by kernel_rfl
theorem run20 {cl : FC} {a : PV} : runF pgL cl 20 [a] = endF [] (exSs D.g cl D.W fn20.body [sl a, none, none, none, none, none, none, none, none, none, none, none, none, none, none, none, none, none, none, none]) := by kernel_rfl
theorem st15 (f : Nat) (vs : List PV) : callD pgL 15 f vs = runF pgL (callD pgL 14) f vs := rfl
theorem endF_step {cl : FC} {ss ss' : List S} {ρ ρ' : Sl} (h : exSs D.g cl D.W ss ρ = exSs D.g cl D.W ss' ρ') : endF [] (exSs D.g cl D.W ss ρ) = endF [] (exSs D.g cl D.W ss' ρ') := congrArg _ h
theorem pureL (ns : List Int) (hn : ns.length ≤ 63) : callD pgL 15 20 [.lst (ns.map .int)] = .rt (.bl true) false [] := by
  obtain ⟨ρ1, e1, h1⟩ := ub_ok hn (G' := Gd1) ok1 (by decide) rfl tl1 (ρ := ρ20 (.lst (ns.map .int)) (dr ns 0) [] none none none none none none none none none none none none none none none none none) ⟨0, _, _, _, _, _, _, _, _, _, _, _, _, _, rfl⟩
  have n1 : Gd1.length ≤ 8 := gg3_len 1 []
  have n2 : Gd2.length ≤ 16 := Nat.le_trans (gg3_len 2 Gd1) (by omega)
  have n3 : Gd3.length ≤ 24 := Nat.le_trans (gg3_len 3 Gd2) (by omega)
  obtain ⟨ρ2, e2, h2⟩ := ub_ok hn (G' := Gd2) ok2 (by omega) rfl tl2 h1
  obtain ⟨ρ3, e3, h3⟩ := ub_ok hn (G' := Gd3) ok3 (by omega) rfl tl3 h2
  obtain ⟨ρ4, e4, h4⟩ := ub_ok hn (G' := Gd4) ok4 (by omega) rfl tl4 h3
  obtain ⟨k, x7, x8, x9, x10, x11, x12, x13, x14, x15, x16, x17, x18, x19, rfl⟩ := h4
  have w3 : exS D.g (callD pgL 14) D.W F3 (ρ20 (.lst (ns.map .int)) (dr ns 0) [] none none none none none none none none none none none none none none none none none) = .nx _ := (exS_for rng_ok).trans ((forL_nx e1).trans ((forL_nx e2).trans ((forL_nx e3).trans ((forL_nx e4).trans forL_nil))))
  have wf := LF.eq (endF_le (exSs_le (callD_le 6 8) [FB, TR] _)) (fin_ok (sc := .lst (ns.map .int)) (d := dr ns k) (G := Gd4) (x3 := sl (.int 4)) (x4 := sl (.bl true)) (x5 := sl (.bl true)) (x6 := sl (.bl true)) (x7 := x7) (x8 := x8) (x9 := x9) (x10 := x10) (x11 := x11) (x12 := x12) (x13 := x13) (x14 := x14) (x15 := x15) (x16 := x16) (x17 := x17) (x18 := x18) (x19 := x19)) (fun h => by cases h)
  refine (st15 _ _).trans (run20.trans ?_)
  rw [body20, exSs_nx a1_ok]
  refine (endF_step (exSs_nx (a2_ok (d := dr ns 0)))).trans ?_
  exact (endF_step (exSs_nx w3)).trans wf
theorem pure_law : ∀ ns : List Int, ns.length ≤ 63 → ∃ o, callD D.pg 15 20 [.lst (ns.map .int)] = .rt (.bl true) o [] := fun ns hn => ⟨false, by rw [pg_eq]; exact pureL ns hn⟩
end K45

set_option Elab.async false
set_option linter.all false
set_option maxRecDepth 100000
set_option maxHeartbeats 0
namespace K45
open PySem PySem.Spec PyProof.Rows L2 Ev
theorem txt : D.txtB = true := by decide +kernel
theorem bd0 : PD.Bd e0.d e0.ps := fun _ _ _ _ _ _ us hl => match us, hl with | [_], _ => rfl
theorem bd1 : PD.Bd e1.d e1.ps := fun _ _ _ _ _ _ us hl => match us, hl with | [_, _, _], _ => rfl
theorem bd2 : PD.Bd e2.d e2.ps := fun _ _ _ _ _ _ us hl => match us, hl with | [_], _ => rfl
theorem bd3 : PD.Bd e3.d e3.ps := fun _ _ _ _ _ _ us hl => match us, hl with | [_], _ => rfl
theorem bd4 : PD.Bd e4.d e4.ps := fun _ _ _ _ _ _ us hl => match us, hl with | [_, _], _ => rfl
theorem bd5 : PD.Bd e5.d e5.ps := fun _ _ _ _ _ _ us hl => match us, hl with | [_], _ => rfl
theorem bd6 : PD.Bd e6.d e6.ps := fun _ _ _ _ _ _ us hl => match us, hl with | [_, _], _ => rfl
theorem bd7 : PD.Bd e7.d e7.ps := fun _ _ _ _ _ _ us hl => match us, hl with | [_], _ => rfl
theorem bd8 : PD.Bd e8.d e8.ps := fun _ _ _ _ _ _ us hl => match us, hl with | [_], _ => rfl
theorem bd9 : PD.Bd e9.d e9.ps := fun _ _ _ _ _ _ us hl => match us, hl with | [_], _ => rfl
theorem bd10 : PD.Bd e10.d e10.ps := fun _ _ _ _ _ _ us hl => match us, hl with | [_, _], _ => rfl
theorem bd11 : PD.Bd e11.d e11.ps := fun _ _ _ _ _ _ us hl => match us, hl with | [_, _], _ => rfl
theorem bd12 : PD.Bd e12.d e12.ps := fun _ _ _ _ _ _ us hl => match us, hl with | [_, _], _ => rfl
theorem bd13 : PD.Bd e13.d e13.ps := fun _ _ _ _ _ _ us hl => match us, hl with | [_, _], _ => rfl
theorem bd14 : PD.Bd e14.d e14.ps := fun _ _ _ _ _ _ us hl => match us, hl with | [_, _], _ => rfl
theorem bd15 : PD.Bd e15.d e15.ps := fun _ _ _ _ _ _ us hl => match us, hl with | [_, _], _ => rfl
theorem bd16 : PD.Bd e16.d e16.ps := fun _ _ _ _ _ _ us hl => match us, hl with | [_], _ => rfl
theorem bd17 : PD.Bd e17.d e17.ps := fun _ _ _ _ _ _ us hl => match us, hl with | [_, _], _ => rfl
theorem bd18 : PD.Bd e18.d e18.ps := fun _ _ _ _ _ _ us hl => match us, hl with | [_, _, _], _ => rfl
theorem bd19 : PD.Bd e19.d e19.ps := fun _ _ _ _ _ _ us hl => match us, hl with | [_, _, _], _ => rfl
theorem bd20 : PD.Bd e20.d e20.ps := fun _ _ _ _ _ _ us hl => match us, hl with | [_], _ => rfl
theorem bd21 : PD.Bd e21.d e21.ps := fun _ _ _ _ _ _ us hl => match us, hl with | [_, _, _, _, _], _ => rfl
theorem bd22 : PD.Bd e22.d e22.ps := fun _ _ _ _ _ _ us hl => match us, hl with | [_, _], _ => rfl
theorem bd23 : PD.Bd e23.d e23.ps := fun _ _ _ _ _ _ us hl => match us, hl with | [_], _ => rfl
theorem bd24 : PD.Bd e24.d e24.ps := fun _ _ _ _ _ _ us hl => match us, hl with | [_, _], _ => rfl
theorem bd25 : PD.Bd e25.d e25.ps := fun _ _ _ _ _ _ us hl => match us, hl with | [_, _], _ => rfl
theorem bd26 : PD.Bd e26.d e26.ps := fun _ _ _ _ _ _ us hl => match us, hl with | [_, _, _], _ => rfl
theorem bd27 : PD.Bd e27.d e27.ps := fun _ _ _ _ _ _ us hl => match us, hl with | [_, _], _ => rfl
theorem bd28 : PD.Bd e28.d e28.ps := fun _ _ _ _ _ _ us hl => match us, hl with | [_, _], _ => rfl
theorem bd29 : PD.Bd e29.d e29.ps := fun _ _ _ _ _ _ us hl => match us, hl with | [_], _ => rfl
theorem bd30 : PD.Bd e30.d e30.ps := fun _ _ _ _ _ _ us hl => match us, hl with | [_, _], _ => rfl
theorem bd31 : PD.Bd e31.d e31.ps := fun _ _ _ _ _ _ us hl => match us, hl with | [_, _], _ => rfl
theorem bd32 : PD.Bd e32.d e32.ps := fun _ _ _ _ _ _ us hl => match us, hl with | [_, _], _ => rfl
theorem bd33 : PD.Bd e33.d e33.ps := fun _ _ _ _ _ _ us hl => match us, hl with | [_], _ => rfl
theorem bd34 : PD.Bd e34.d e34.ps := fun _ _ _ _ _ _ us hl => match us, hl with | [_, _], _ => rfl
theorem bd35 : PD.Bd e35.d e35.ps := fun _ _ _ _ _ _ us hl => match us, hl with | [_, _], _ => rfl
theorem bd36 : PD.Bd e36.d e36.ps := fun _ _ _ _ _ _ us hl => match us, hl with | [_], _ => rfl
theorem bd37 : PD.Bd e37.d e37.ps := fun _ _ _ _ _ _ us hl => match us, hl with | [_, _], _ => rfl
theorem bd38 : PD.Bd e38.d e38.ps := fun _ _ _ _ _ _ us hl => match us, hl with | [_, _], _ => rfl
theorem bd39 : PD.Bd e39.d e39.ps := fun _ _ _ _ _ _ us hl => match us, hl with | [_, _, _], _ => rfl
theorem bd40 : PD.Bd e40.d e40.ps := fun _ _ _ _ _ _ us hl => match us, hl with | [_], _ => rfl
theorem bd41 : PD.Bd e41.d e41.ps := fun _ _ _ _ _ _ us hl => match us, hl with | [_, _], _ => rfl
theorem bd42 : PD.Bd e42.d e42.ps := fun _ _ _ _ _ _ us hl => match us, hl with | [_, _], _ => rfl
theorem bx0 : PD.Bd x0.d (PD.xps x0) := fun _ _ _ _ _ _ us hl => match us, hl with | [_, _], _ => rfl
theorem bds : ∀ e ∈ D.fns, PD.Bd e.d e.ps := List.forall_mem_cons.mpr ⟨bd0, List.forall_mem_cons.mpr ⟨bd1, List.forall_mem_cons.mpr ⟨bd2, List.forall_mem_cons.mpr ⟨bd3, List.forall_mem_cons.mpr ⟨bd4, List.forall_mem_cons.mpr ⟨bd5, List.forall_mem_cons.mpr ⟨bd6, List.forall_mem_cons.mpr ⟨bd7, List.forall_mem_cons.mpr ⟨bd8, List.forall_mem_cons.mpr ⟨bd9, List.forall_mem_cons.mpr ⟨bd10, List.forall_mem_cons.mpr ⟨bd11, List.forall_mem_cons.mpr ⟨bd12, List.forall_mem_cons.mpr ⟨bd13, List.forall_mem_cons.mpr ⟨bd14, List.forall_mem_cons.mpr ⟨bd15, List.forall_mem_cons.mpr ⟨bd16, List.forall_mem_cons.mpr ⟨bd17, List.forall_mem_cons.mpr ⟨bd18, List.forall_mem_cons.mpr ⟨bd19, List.forall_mem_cons.mpr ⟨bd20, List.forall_mem_cons.mpr ⟨bd21, List.forall_mem_cons.mpr ⟨bd22, List.forall_mem_cons.mpr ⟨bd23, List.forall_mem_cons.mpr ⟨bd24, List.forall_mem_cons.mpr ⟨bd25, List.forall_mem_cons.mpr ⟨bd26, List.forall_mem_cons.mpr ⟨bd27, List.forall_mem_cons.mpr ⟨bd28, List.forall_mem_cons.mpr ⟨bd29, List.forall_mem_cons.mpr ⟨bd30, List.forall_mem_cons.mpr ⟨bd31, List.forall_mem_cons.mpr ⟨bd32, List.forall_mem_cons.mpr ⟨bd33, List.forall_mem_cons.mpr ⟨bd34, List.forall_mem_cons.mpr ⟨bd35, List.forall_mem_cons.mpr ⟨bd36, List.forall_mem_cons.mpr ⟨bd37, List.forall_mem_cons.mpr ⟨bd38, List.forall_mem_cons.mpr ⟨bd39, List.forall_mem_cons.mpr ⟨bd40, List.forall_mem_cons.mpr ⟨bd41, List.forall_mem_cons.mpr ⟨bd42, fun _ h => nomatch h⟩⟩⟩⟩⟩⟩⟩⟩⟩⟩⟩⟩⟩⟩⟩⟩⟩⟩⟩⟩⟩⟩⟩⟩⟩⟩⟩⟩⟩⟩⟩⟩⟩⟩⟩⟩⟩⟩⟩⟩⟩⟩⟩
theorem bxs : ∀ e ∈ D.exc, PD.Bd e.d (PD.xps e) := List.forall_mem_cons.mpr ⟨bx0, fun _ h => nomatch h⟩
def loose0 : List Str := ["__name__", "PlugError", "is_integer", "is_number", "RULES", "BadHandles", "Handles", "check_handles", "Safe", "Spent", "judge_handles", "Freed", "Lingers", "is_kept", "judge_freed", "ring_of", "least_rules", "subsets", "first_of", "_law_number", "_law_take", "_law_pick", "_law_may_end", "_law_moves", "_law_behind", "_law_walk", "_law_rings", "_law_lingers", "_law_rules_right"]
def loose : List Str := loose0
abbrev R : PySem.W.OpenRow := PySem.W.OpenLaw.row PySem.Challenge.rw_plugbooks_k45_handles_of_users
abbrev hk : PySem.W.Hook := PD.hook 6 D
def ob (s : PySem.W.SharedT) : He.AlD := PD.obsG 6 D (HandSHeadRun.getT s)
theorem ob_eq (s : PySem.W.SharedT) : ob s = hk.obs s.abs := PD.obsG_eq (HandSHeadRun.getT_eq s)
theorem run (w : World) : HandSHeadRun.RunEq R (PySem.W.view R.prog [32]) hk ob 6000 loose w := by
  intro os
  kernel_rfl
end K45
open PySem PySem.W PySem.Calls PyProof.Rows
theorem PySem.Challenge.cw_plugbooks_k45_handles_of_users_holds : PySem.Challenge.rw_plugbooks_k45_handles_of_users.Holds := by
  w_on; o_law
  refine HandSHeadRun.head_any (r := OpenLaw.row PySem.Challenge.rw_plugbooks_k45_handles_of_users) (q := view (OpenLaw.row PySem.Challenge.rw_plugbooks_k45_handles_of_users).prog [32]) (H := K45.hk) (ob := K45.ob) (M := 6000) (loose := K45.loose) (d := HandSHeadRun.topDef (OpenLaw.row PySem.Challenge.rw_plugbooks_k45_handles_of_users).prog 32) (kwd := []) K45.ob_eq
    (by kernel_rfl) (fun s => by kernel_rfl) K45.run (by kernel_rfl) (by kernel_rfl) (by kernel_rfl) (by rfl) (by first | assumption | decide +kernel) (by decide +kernel) ⟨rfl, rfl, rfl, rfl, rfl, by decide +kernel⟩ ?hw ?hc
  case hw => w_witness2
  case hc =>
    refine L2.walk_ofE (l := PySem.Challenge.rw_plugbooks_k45_handles_of_users) (n := 63) (k := 2 * 15 + 1) (x := "script") (CX := Ev.CXe) rfl (by decide) (by kernel_rfl) ⟨rfl, by decide, by decide⟩ ?F (fun _ _ _ _ z => by obtain ⟨_, _, _, z⟩ := z; exact z)
    intro w mg fa h Y G hmg0
    obtain ⟨K, KX, S, nl⟩ := Y
    have hnm : (HandSHeadRun.topDef (OpenLaw.row PySem.Challenge.rw_plugbooks_k45_handles_of_users).prog 32).name = "law" := by kernel_rfl
    have hmg : mg "law" = some (.ref fa) := hnm ▸ hmg0
    obtain ⟨fd, sp, hb, hsp, hF⟩ := Ev.PD.lawOk (P := (PySem.Challenge.rw_plugbooks_k45_handles_of_users).prog) (w := w) K45.txt S nl K45.bds K45.bxs KX G (f := 20) (e := K45.e20) (x := "script") (y := "law") rfl rfl rfl rfl hmg (by kernel_rfl) (m := 63) (d := 15) K45.pure_law
    exact ⟨K, fd, sp, KX, hb, hsp, fun base hK hN => Ev.fnOk_cx (hF base hK hN)⟩

