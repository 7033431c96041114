import PyProof.Rows.All
import PySem.Challenge.RW_keptnear_k36_chains_and_steps_up
import Wide.All
import OpenK.AllK
import Wide.FinOn
import HandS.ForMost
import HandS.Flow
import HandS.IsInst
import HandS.Zip
import HandS.Deep
import HandS.TupAny
import HandS.TupLe
import HandS.TupMul
import HandS.Star
import HandS.SortInts
import HandS.Style
import KE.GoesEnum
set_option Elab.async false
set_option linter.all false
set_option maxRecDepth 100000
namespace KN
open PySem L2

/-! ### the texts: expressions, statements (a def's own names by their slots) -/
abbrev D := PyData

inductive Bi where
  | len | list | tuple | int | abs | sum | max | min | all | any | sorted
  deriving DecidableEq

/-- what a for walks: a value, a range, enumerate, zip -/
inductive IK where
  | ex | range | enum | zip
  deriving DecidableEq

/-- a target: one name, a tuple of names -/
inductive Tg where
  | nm (i : Nat) | tup (is : List Nat)
  deriving DecidableEq

inductive E where
  | var (i : Nat) | peek (i : Nat)
  | non | bl (b : Bool) | int (i : Int) | str (x : Str)
  | glob (x : Str) (z : Str)
  | bin (op : Operator) (a b : E) | cmp (op : CmpOp) (a b : E) | chain (o1 o2 : CmpOp) (a b c : E)
  | neg (a : E) | not (a : E) | and (a b : E) | or (a b : E)
  | ite (c a b : E)
  | bi (f : Bi) (es : List E)
  | isi (a : E) (ts : List String) (tup : Bool)
  | tget (i : Nat) (b : E) | get (a b : E) | slice (a lo hi : E) | rev (a : E)
  | lst (es : List E) | tup (es : List E) | star (e : E)
  | call (f : Nat) (es : List E)
  | callN (f : Nat) (es : List E)
  | callK (f : Nat) (perm : List Nat) (es ks : List E)
  | callT (f : Nat) (i : Nat) (es : List E)
  | callR (f : Nat) (e : E) (es : List E)
  | comp (elt : E) (tg : Tg) (ik : IK) (src : List E) (cond : E)
  | absent

inductive S where
  | asg (i : Nat) (e : E) | asgO (i : Nat) (e : E)
  | unp (is : List Nat) (e : E) | par (i j : Nat) (a b : E)
  | sto (i : Nat) (ix e : E) | stoT (i : Nat) (ix e : E)
  | app (i : Nat) (e : E)
  | expr (e : E) | ret (e : E)
  | ite (c : E) (a b : List S)
  | loop (tg : Tg) (ik : IK) (src : List E) (body : List S)
  | while (n : Nat) (c : E) (body : List S)
  | cont | pass | frz (i : Nat)

/-- what a slot holds: data that stays, a list of the def's own, the box of draws -/
inductive Ent where
  | dat (d : D) | own (ds : List D) | tin

abbrev En := List (Option Ent)
/-- a step: the box's content goes through -/
abbrev M (α : Type) := List D → Option (α × List D)
def M.ret {α : Type} (a : α) : M α := fun τ => some (a, τ)
def M.bnd {α β : Type} (x : M α) (f : α → M β) : M β := fun τ => match x τ with
  | none => none
  | some (a, τ') => f a τ'
def M.of {α : Type} (o : Option α) : M α := fun τ => match o with
  | none => none
  | some a => some (a, τ)
def M.fail {α : Type} : M α := fun _ => none

/-! ### operations on data -/
def lineOk (n : Nat) : Bool := decide (n ≤ 16777216)
def mulOk (i j : Int) : Bool := (decide (-(2 ^ 64) < i) && decide (i < 2 ^ 64)) || (decide (-(2 ^ 64) < j) && decide (j < 2 ^ 64))

def binD : Operator → D → D → Option D
  | .Add, .int a, .int b => some (.int (a + b))
  | .Add, .str a, .str b => if lineOk (a.length + b.length) then some (.str (a ++ b)) else none
  | .Add, .list a, .list b => if lineOk (a.length + b.length) then some (.list (a ++ b)) else none
  | .Add, .tuple a, .tuple b => if lineOk (a.length + b.length) then some (.tuple (a ++ b)) else none
  | .Sub, .int a, .int b => some (.int (a - b))
  | .Mult, .int a, .int b => if mulOk a b then some (.int (a * b)) else none
  | .Mult, .list a, .int k => if decide (-(2 ^ 63) ≤ k) && decide (k < 2 ^ 63) && lineOk (a.length * k.toNat) then some (.list (List.replicate k.toNat a).flatten) else none
  | .Mult, .tuple a, .int k => if !a.isEmpty && decide (2 ≤ k) && decide (k ≤ 1000) && decide (a.length ≤ 1000) then some (.tuple (List.replicate k.toNat a).flatten) else none
  | .Mod, .int a, .int b => if 0 < b then some (.int (a % b)) else none
  | .FloorDiv, .int a, .int b => if decide (0 < b) && decide (b < 1073741824) then some (.int (a / b)) else none
  | .Pow, .int a, .int b => if decide (0 ≤ b) && decide (b ≤ 1000000) && decide (a.natAbs < 2 ^ 64) then some (.int (a ^ b.toNat)) else none
  | .LShift, .int a, .int b => if decide (0 ≤ b) && decide (b ≤ 1000000) && decide (a.natAbs < 2 ^ 64) then some (.int (a * 2 ^ b.toNat)) else none
  | .BitAnd, .int a, .int b => some (.int (Builtin.bitAnd a b))
  | .BitOr, .int a, .int b => some (.int (Builtin.bitOr a b))
  | _, _, _ => none

/-- flat: what stands in a list whose members are looked for -/
def flatD : D → Bool
  | .none | .bool _ | .int _ | .str _ => true
  | _ => false
def inD (x : D) (xs : List D) : Bool := xs.any fun y => PyData.eqv y x
def inSeq (neg : Bool) (x : D) (xs : List D) : Option D :=
  if flatD x && xs.all flatD then some (.bool (if neg then !inD x xs else inD x xs)) else none
def strOne (x : Str) : Option Nat := match x.cps.toList with
  | [c] => some c
  | _ => none
def isNone : D → Bool
  | .none => true
  | _ => false
def cmpD : CmpOp → D → D → Option D
  | .Eq, a, b => if SeqAt.shaped a && SeqAt.shaped b then some (.bool (PyData.eqv a b)) else none
  | .NotEq, a, b => if SeqAt.shaped a && SeqAt.shaped b then some (.bool (!PyData.eqv a b)) else none
  | .Lt, .int a, .int b => some (.bool (decide (a < b)))
  | .LtE, .int a, .int b => some (.bool (decide (a ≤ b)))
  | .Gt, .int a, .int b => some (.bool (decide (b < a)))
  | .GtE, .int a, .int b => some (.bool (decide (b ≤ a)))
  | .Lt, .str a, .str b => some (.bool (decide (a.cps.toList < b.cps.toList)))
  | .LtE, .str a, .str b => some (.bool (!decide (b.cps.toList < a.cps.toList)))
  | .Gt, .str a, .str b => some (.bool (decide (b.cps.toList < a.cps.toList)))
  | .GtE, .str a, .str b => some (.bool (!decide (a.cps.toList < b.cps.toList)))
  | .Is, a, .none => some (.bool (isNone a))
  | .IsNot, a, .none => some (.bool (!isNone a))
  | .In, x, .list xs => inSeq false x xs
  | .In, x, .tuple xs => inSeq false x xs
  | .NotIn, x, .list xs => inSeq true x xs
  | .NotIn, x, .tuple xs => inSeq true x xs
  | .In, .str a, .str b => match strOne a with
    | some c => some (.bool (decide (c ∈ b.cps.toList)))
    | none => none
  | .NotIn, .str a, .str b => match strOne a with
    | some c => some (.bool (!decide (c ∈ b.cps.toList)))
    | none => none
  | _, _, _ => none

def truD : D → Option Bool
  | .none => some false
  | .bool b => some b
  | .int i => some (i != 0)
  | .str x => if lineOk x.length then some ((x.length : Int) != 0) else none
  | .list xs => some (!xs.isEmpty)
  | .tuple xs => some (!xs.isEmpty)
  | .dict _ => none

def intsOf : List D → Option (List Int)
  | [] => some []
  | .int i :: r => match intsOf r with
    | some l => some (i :: l)
    | none => none
  | _ :: _ => none
def strsOf : List D → Option (List Str)
  | [] => some []
  | .str i :: r => match strsOf r with
    | some l => some (i :: l)
    | none => none
  | _ :: _ => none
def blsOf : List D → Option (List Bool)
  | [] => some []
  | .bool i :: r => match blsOf r with
    | some l => some (i :: l)
    | none => none
  | _ :: _ => none
def maxL : Int → List Int → Int
  | m, [] => m
  | m, x :: r => maxL (if m < x then x else m) r
def minL : Int → List Int → Int
  | m, [] => m
  | m, x :: r => minL (if x < m then x else m) r
def insI (x : Int) : List Int → List Int
  | [] => [x]
  | y :: r => if x ≤ y then x :: y :: r else y :: insI x r
def sortI : List Int → List Int
  | [] => []
  | x :: r => insI x (sortI r)
def leS (x y : Str) : Bool := !decide (y.cps.toList < x.cps.toList)
def insS (x : Str) : List Str → List Str
  | [] => [x]
  | y :: r => if leS x y then x :: y :: r else y :: insS x r
def sortS : List Str → List Str
  | [] => []
  | x :: r => insS x (sortS r)

def biD : Bi → List D → Option D
  | .len, [.list xs] => some (.int xs.length)
  | .len, [.tuple xs] => some (.int xs.length)
  | .len, [.str x] => if lineOk x.length then some (.int x.length) else none
  | .list, [.list xs] => some (.list xs)
  | .list, [.tuple xs] => some (.list xs)
  | .tuple, [.list xs] => some (.tuple xs)
  | .tuple, [.tuple xs] => some (.tuple xs)
  | .int, [.int i] => some (.int i)
  | .int, [.bool k] => some (.int (if k then 1 else 0))
  | .abs, [.int i] => some (.int (if i < 0 then -i else i))
  | .sum, [.list xs] => match intsOf xs with
    | some ns => some (.int ns.sum)
    | none => none
  | .sum, [.tuple xs] => match intsOf xs with
    | some ns => some (.int ns.sum)
    | none => none
  | .max, [.list xs] => match intsOf xs with
    | some (n :: ns) => some (.int (maxL n ns))
    | _ => none
  | .min, [.list xs] => match intsOf xs with
    | some (n :: ns) => some (.int (minL n ns))
    | _ => none
  | .max, [.int i, .int j] => some (.int (if j > i then j else i))
  | .min, [.int i, .int j] => some (.int (if j < i then j else i))
  | .all, [.list xs] => match blsOf xs with
    | some bs => some (.bool (bs.all id))
    | none => none
  | .any, [.list xs] => match blsOf xs with
    | some bs => some (.bool (bs.any id))
    | none => none
  | .sorted, [.list xs] => if decide (xs.length < 64) then (match intsOf xs with
    | some ns => some (.list ((sortI ns).map .int))
    | none => match strsOf xs with
      | some ns => some (.list ((sortS ns).map .str))
      | none => none) else none
  | _, _ => none

def tyD : D → String
  | .none => "NoneType"
  | .bool _ => "bool"
  | .int _ => "int"
  | .str _ => "str"
  | .list _ => "list"
  | .tuple _ => "tuple"
  | .dict _ => "dict"
def kitAnyB (t : String) : List String → Option Bool
  | [] => some false
  | c :: cs => match kitB t c with
    | some true => some true
    | some false => kitAnyB t cs
    | none => none
def isiD (d : D) (ts : List String) : Option D := match kitAnyB (tyD d) ts with
  | some b => some (.bool b)
  | none => none

def getD : D → D → Option D
  | .list xs, .int i => atI xs i
  | .tuple xs, .int i => atI xs i
  | .str z, .int i => if lineOk z.length then (match atI z.cps.toList i with
    | some c => some (.str ⟨#[c]⟩)
    | none => none) else none
  | _, _ => none
def cutL {α : Type} (xs : List α) (lo hi : Option Int) : List α := (xs.drop (HT.sIx xs.length 0 lo)).take (HT.sIx xs.length xs.length hi - HT.sIx xs.length 0 lo)
def sliceD : D → Option Int → Option Int → Option D
  | .list xs, lo, hi => some (.list (cutL xs lo hi))
  | .tuple xs, lo, hi => some (.tuple (cutL xs lo hi))
  | .str z, lo, hi => if lineOk z.length then some (.str (cutS z lo hi)) else none
  | _, _, _ => none
def revD : D → Option D
  | .list xs => some (.list xs.reverse)
  | _ => none
/-- the members of what a star, a for takes -/
def seqD : D → Option (List D)
  | .list xs => some xs
  | .tuple xs => some xs
  | _ => none
def itemsD : D → Option (List D)
  | .list xs => some xs
  | .tuple xs => some xs
  | .str z => some (z.cps.toList.map fun c => .str ⟨#[c]⟩)
  | _ => none
def enumFrom : Nat → List D → List D
  | _, [] => []
  | n, d :: r => .tuple [.int n, d] :: enumFrom (n + 1) r
def zipD : List D → List D → List D
  | a :: r, b :: q => .tuple [a, b] :: zipD r q
  | _, _ => []
def rangeD (lo : Int) : Nat → List D
  | 0 => []
  | n + 1 => .int lo :: rangeD (lo + 1) n
def near62 (i : Int) : Bool := decide (-(2 ^ 62) ≤ i) && decide (i < 2 ^ 62)
def walkD : IK → List D → Option (List D)
  | .ex, [d] => itemsD d
  | .range, [.int j] => if near62 j && lineOk j.toNat then some (rangeD 0 j.toNat) else none
  | .range, [.int i, .int j] => if near62 i && near62 j && lineOk (j - i).toNat then some (rangeD i (j - i).toNat) else none
  | .enum, [d] => match itemsD d with
    | some xs => some (enumFrom 0 xs)
    | none => none
  | .zip, [.list xs, .list ys] => some (zipD xs ys)
  | .zip, [.tuple xs, .tuple ys] => some (zipD xs ys)
  | _, _ => none

def walkC (ik : IK) (xs : List D) : Option (List D) := match walkD ik xs with
  | some items => if lineOk items.length then some items else none
  | none => none
instance : Inhabited PyData := ⟨.none⟩
/-! ### slots -/
def setDs : List Nat → List D → En → Option En
  | [], [], ρ => some ρ
  | i :: is, d :: ds, ρ => setDs is ds (ρ.set i (some (.dat d)))
  | _, _, _ => none
def setTg : Tg → D → En → Option En
  | .nm i, d, ρ => some (ρ.set i (some (.dat d)))
  | .tup is, .tuple ds, ρ => setDs is ds ρ
  | _, _, _ => none
def Tg.slots : Tg → List Nat
  | .nm i => [i]
  | .tup is => is
def wipeE (ρ : En) : List Nat → En
  | [] => ρ
  | v :: vs => (wipeE ρ vs).set v none

/-! ### the evaluator -/
def E.gone : E → Bool
  | .absent => true
  | _ => false
def intP : D → M (Option Int)
  | .int i => .ret (some i)
  | _ => .fail
def isTin (ρ : En) (i : Nat) : Bool := match ρ[i]? with
  | some (some .tin) => true
  | _ => false
def permL {α : Type} [Inhabited α] (perm : List Nat) (l : List α) : List α := perm.map fun i => l.getD i default
/-- a comprehension's walk -/
def compL (f : D → M (Option D)) : List D → M (List D)
  | [] => .ret []
  | d :: ds => (f d).bnd fun o => (compL f ds).bnd fun r => .ret (match o with
    | some x => x :: r
    | none => r)

section
variable (C : Nat → List D → M D)
mutual
def evE : E → En → M D
  | .var i, ρ => fun τ => match ρ[i]? with
    | some (some (.dat d)) => some (d, τ)
    | _ => none
  | .peek i, ρ => fun τ => match ρ[i]? with
    | some (some (.own ds)) => some (.list ds, τ)
    | _ => none
  | .non, _ => .ret .none
  | .bl b, _ => .ret (.bool b)
  | .int i, _ => .ret (.int i)
  | .str x, _ => .ret (.str x)
  | .glob _ z, _ => .ret (.str z)
  | .bin op a b, ρ => (evE a ρ).bnd fun x => (evE b ρ).bnd fun y => .of (binD op x y)
  | .cmp op a b, ρ => (evE a ρ).bnd fun x => (evE b ρ).bnd fun y => .of (cmpD op x y)
  | .chain o1 o2 a b c, ρ => (evE a ρ).bnd fun x => (evE b ρ).bnd fun y => (M.of (cmpD o1 x y)).bnd fun r => match r with
    | .bool true => (evE c ρ).bnd fun z => .of (cmpD o2 y z)
    | .bool false => .ret (.bool false)
    | _ => .fail
  | .neg a, ρ => (evE a ρ).bnd fun x => match x with
    | .int i => .ret (.int (-i))
    | _ => .fail
  | .not a, ρ => (evE a ρ).bnd fun x => (M.of (truD x)).bnd fun k => .ret (.bool (!k))
  | .and a b, ρ => (evE a ρ).bnd fun x => (M.of (truD x)).bnd fun k => if k then evE b ρ else .ret x
  | .or a b, ρ => (evE a ρ).bnd fun x => (M.of (truD x)).bnd fun k => if k then .ret x else evE b ρ
  | .ite c a b, ρ => (evE c ρ).bnd fun x => (M.of (truD x)).bnd fun k => if k then evE a ρ else evE b ρ
  | .bi f es, ρ => (evEs es ρ).bnd fun ds => .of (biD f ds)
  | .isi a ts _, ρ => (evE a ρ).bnd fun x => .of (isiD x ts)
  | .get a b, ρ => (evE a ρ).bnd fun x => (evE b ρ).bnd fun y => .of (getD x y)
  | .tget i b, ρ => (evE b ρ).bnd fun y τ => if isTin ρ i then (match getD (.list τ) y with
    | some d => some (d, τ)
    | none => none) else none
  | .slice a lo hi, ρ => (evE a ρ).bnd fun x => (if lo.gone then .ret none else (evE lo ρ).bnd intP).bnd fun l => (if hi.gone then .ret none else (evE hi ρ).bnd intP).bnd fun h => .of (sliceD x l h)
  | .rev a, ρ => (evE a ρ).bnd fun x => .of (revD x)
  | .lst es, ρ => (evEs es ρ).bnd fun ds => if lineOk ds.length then .ret (.list ds) else .fail
  | .tup es, ρ => (evEs es ρ).bnd fun ds => if lineOk ds.length then .ret (.tuple ds) else .fail
  | .star _, _ => .fail
  | .call f es, ρ => (evEs es ρ).bnd fun ds τ => match C f ds [] with
    | some (d, _) => some (d, τ)
    | none => none
  | .callN f es, ρ => (evEs es ρ).bnd fun ds τ => match C f ds [] with
    | some (d, _) => some (d, τ)
    | none => none
  | .callK f perm es ks, ρ => (evEs es ρ).bnd fun ds => (evEs ks ρ).bnd fun zs τ => match C f (permL perm (ds ++ zs)) [] with
    | some (d, _) => some (d, τ)
    | none => none
  | .callT f i es, ρ => (evEs es ρ).bnd fun ds τ => if isTin ρ i then C f ds τ else none
  | .callR f e es, ρ => (evE e ρ).bnd fun x => (evEs es ρ).bnd fun ds τ => match x with
    | .list τ0 => match C f ds τ0 with
      | some (d, _) => some (d, τ)
      | none => none
    | _ => none
  | .comp elt tg ik src cond, ρ => (evEs src ρ).bnd fun xs => (M.of (walkC ik xs)).bnd fun items =>
    (compL (fun d => (M.of (setTg tg d (wipeE ρ tg.slots))).bnd fun ρ' => (if cond.gone then .ret true else (evE cond ρ').bnd fun x => .of (truD x)).bnd fun k => if k then (evE elt ρ').bnd fun y => .ret (some y) else .ret none) items).bnd fun ys => .ret (.list ys)
  | .absent, _ => .fail
def evEs : List E → En → M (List D)
  | [], _ => .ret []
  | .star e :: r, ρ => (evE e ρ).bnd fun x => (M.of (seqD x)).bnd fun xs => (evEs r ρ).bnd fun ys => .ret (xs ++ ys)
  | e :: r, ρ => (evE e ρ).bnd fun x => (evEs r ρ).bnd fun ys => .ret (x :: ys)
end
/-! ### statements -/
inductive Out where
  | nx (ρ : En) | ct (ρ : En) | rt (d : D)
def loopL (f : D → En → M Out) : List D → En → M Out
  | [], ρ => .ret (.nx ρ)
  | d :: ds, ρ => (f d ρ).bnd fun o => match o with
    | .nx ρ' => loopL f ds ρ'
    | .ct ρ' => loopL f ds ρ'
    | .rt x => .ret (.rt x)
def whileL (c : En → M Bool) (f : En → M Out) : Nat → En → M Out
  | 0, _ => .fail
  | n + 1, ρ => (c ρ).bnd fun k => if k then (f ρ).bnd fun o => match o with
    | .nx ρ' => whileL c f n ρ'
    | .ct ρ' => whileL c f n ρ'
    | .rt x => .ret (.rt x) else .ret (.nx ρ)
def setO (i : Nat) (o : Ent) (ρ : En) : M Out := .ret (.nx (ρ.set i (some o)))
def ownAt (ρ : En) (i : Nat) : M (List D) := fun τ => match ρ[i]? with
  | some (some (.own ds)) => some (ds, τ)
  | _ => none
def listP : D → M (List D)
  | .list ds => .ret ds
  | _ => .fail
def stoD (ds : List D) : D → D → Option (List D)
  | .int k, d => match ixN ds.length k with
    | some j => some (ds.set j d)
    | none => none
  | _, _ => none
mutual
def evS : S → En → M Out
  | .asg i e, ρ => (evE C e ρ).bnd fun d => setO i (.dat d) ρ
  | .asgO i e, ρ => (evE C e ρ).bnd fun d => (listP d).bnd fun ds => setO i (.own ds) ρ
  | .unp is e, ρ => (evE C e ρ).bnd fun d => match d with
    | .tuple ds => (M.of (setDs is ds ρ)).bnd fun ρ' => .ret (.nx ρ')
    | _ => .fail
  | .par i j a b, ρ => (evE C a ρ).bnd fun x => (evE C b ρ).bnd fun y => .ret (.nx ((ρ.set i (some (.dat x))).set j (some (.dat y))))
  | .sto i ix e, ρ => (evE C e ρ).bnd fun d => (evE C ix ρ).bnd fun k => (ownAt ρ i).bnd fun ds => (M.of (stoD ds k d)).bnd fun ds' => setO i (.own ds') ρ
  | .stoT i ix e, ρ => (evE C e ρ).bnd fun d => (evE C ix ρ).bnd fun k τ => if isTin ρ i then (match stoD τ k d with
    | some τ' => some (.nx ρ, τ')
    | none => none) else none
  | .app i e, ρ => (evE C e ρ).bnd fun d => (ownAt ρ i).bnd fun ds => if lineOk (ds.length + 1) then setO i (.own (ds ++ [d])) ρ else .fail
  | .expr e, ρ => (evE C e ρ).bnd fun _ => .ret (.nx ρ)
  | .ret e, ρ => (evE C e ρ).bnd fun d => .ret (.rt d)
  | .ite c a b, ρ => (evE C c ρ).bnd fun x => (M.of (truD x)).bnd fun k => if k then evSs a ρ else evSs b ρ
  | .loop tg ik src body, ρ => (evEs C src ρ).bnd fun xs => (M.of (walkD ik xs)).bnd fun items =>
    loopL (fun d ρ => (M.of (setTg tg d ρ)).bnd fun ρ' => evSs body ρ') items ρ
  | .while n c body, ρ => whileL (fun ρ => (evE C c ρ).bnd fun x => .of (truD x)) (fun ρ => evSs body ρ) n ρ
  | .cont, ρ => .ret (.ct ρ)
  | .pass, ρ => .ret (.nx ρ)
  | .frz i, ρ => (ownAt ρ i).bnd fun ds => setO i (.dat (.list ds)) ρ
def evSs : List S → En → M Out
  | [], ρ => .ret (.nx ρ)
  | s :: r, ρ => (evS s ρ).bnd fun o => match o with
    | .nx ρ' => evSs r ρ'
    | .ct ρ' => .ret (.ct ρ')
    | .rt x => .ret (.rt x)
end
end
/-! ### defs -/
structure Fn where
  name : Str
  ps : List Str
  N : List Str
  tin : Bool
  fresh : Bool
  body : List S
def env0 (F : Fn) (ds : List D) : En := (if F.tin then [some Ent.tin] else []) ++ ds.map (fun d => some (Ent.dat d)) ++ List.replicate (F.N.length - F.ps.length) none
def outD : Out → Option D
  | .rt d => some d
  | .nx _ => some .none
  | .ct _ => none
def callF (T : List Fn) : Nat → Nat → List D → M D
  | 0, _, _ => .fail
  | n + 1, f, ds => match T[f]? with
    | none => .fail
    | some F => if (if F.tin then ds.length + 1 else ds.length) = F.ps.length then (evSs (callF T n) F.body (env0 F ds)).bnd fun o => .of (outD o) else .fail
end KN

set_option maxRecDepth 100000
set_option maxHeartbeats 1000000
namespace KN
open PySem L2
abbrev Fg := PySem.W.Frag

/-! ### data on the heap -/
def kD : Key → D
  | .inl i => .int i
  | .inr x => .str x
mutual
inductive DR (K : Fg) (G : Hp) : V → D → Prop
  | non : DR K G .non .none
  | bl (b : Bool) : DR K G (.bl b) (.bool b)
  | int (i : Int) : DR K G (.int i) (.int i)
  | str (x : Str) : DR K G (.str x) (.str x)
  | lst {a : Addr} {xs : List V} {ds : List D} : SqL K G a xs → DRs K G xs ds → DR K G (.ref a) (.list ds)
  | tup {a : Addr} {xs : List V} {ds : List D} : SqT K G a xs → DRs K G xs ds → DR K G (.ref a) (.tuple ds)
  | dic {a : Addr} {kvs : List (Key × V)} {ds : List (D × D)} : G a = some (.dK kvs) → DRk K G kvs ds → DR K G (.ref a) (.dict ds)
inductive DRs (K : Fg) (G : Hp) : List V → List D → Prop
  | nil : DRs K G [] []
  | cons {v : V} {vs : List V} {d : D} {ds : List D} : DR K G v d → DRs K G vs ds → DRs K G (v :: vs) (d :: ds)
inductive DRk (K : Fg) (G : Hp) : List (Key × V) → List (D × D) → Prop
  | nil : DRk K G [] []
  | cons {k : Key} {v : V} {vs : List (Key × V)} {d : D} {ds : List (D × D)} : DR K G v d → DRk K G vs ds → DRk K G ((k, v) :: vs) ((kD k, d) :: ds)
end
theorem Rd.same {G H : Hp} (e : Same G H) {a : Addr} {u : HO} (h : Rd G a u) : Rd H a u := by
  rcases h with h | ⟨o, h⟩
  · exact .inl (e _ _ h)
  · exact .inr ⟨o, e _ _ h⟩
theorem SqT.same {K : Fg} {G H : Hp} (e : Same G H) {a : Addr} {xs : List V} (h : SqT K G a xs) : SqT K H a xs := by
  rcases h with h | h
  · exact .inl (Rd.same e h)
  · exact .inr h
mutual
theorem DR.same {K : Fg} {G H : Hp} (e : Same G H) : ∀ {v : V} {d : D}, DR K G v d → DR K H v d
  | _, _, .non => .non
  | _, _, .bl b => .bl b
  | _, _, .int i => .int i
  | _, _, .str x => .str x
  | _, _, .lst h r => .lst (e.seq h) (DRs.same e r)
  | _, _, .tup h r => .tup (SqT.same e h) (DRs.same e r)
  | _, _, .dic h r => .dic (e _ _ h) (DRk.same e r)
theorem DRs.same {K : Fg} {G H : Hp} (e : Same G H) : ∀ {v : List V} {d : List D}, DRs K G v d → DRs K H v d
  | _, _, .nil => .nil
  | _, _, .cons h r => .cons (DR.same e h) (DRs.same e r)
theorem DRk.same {K : Fg} {G H : Hp} (e : Same G H) : ∀ {v : List (Key × V)} {d : List (D × D)}, DRk K G v d → DRk K H v d
  | _, _, .nil => .nil
  | _, _, .cons h r => .cons (DR.same e h) (DRk.same e r)
end
mutual
theorem DR.dp {K : Fg} {G : Hp} : ∀ {v : V} {d : D}, DR K G v d → d.canLay0 = true → Dp K G v d
  | _, _, .non, _ => .non
  | _, _, .bl b, _ => .bl b
  | _, _, .int i, _ => .int i
  | _, _, .str x, _ => .str x
  | _, _, .lst h r, c => .lst h (DRs.dp r (by simpa [PyData.canLay0] using c))
  | _, _, .tup h r, c => .tup h (DRs.dp r (by simpa [PyData.canLay0] using c))
  | _, _, .dic h r, c => by simp [PyData.canLay0] at c
theorem DRs.dp {K : Fg} {G : Hp} : ∀ {v : List V} {d : List D}, DRs K G v d → PyData.canLayAll0 d = true → DpAll K G v d
  | _, _, .nil, _ => .nil
  | _, _, .cons h r, c => by
    simp only [PyData.canLayAll0, Bool.and_eq_true] at c
    exact .cons (DR.dp h c.1) (DRs.dp r c.2)
end
theorem DRs.length {K : Fg} {G : Hp} : ∀ {v : List V} {d : List D}, DRs K G v d → v.length = d.length
  | _, _, .nil => rfl
  | _, _, .cons _ r => by rw [List.length_cons, List.length_cons, DRs.length r]
theorem DRs.append {K : Fg} {G : Hp} : ∀ {v w : List V} {d e : List D}, DRs K G v d → DRs K G w e → DRs K G (v ++ w) (d ++ e)
  | _, _, _, _, .nil, s => s
  | _, _, _, _, .cons h r, s => .cons h (DRs.append r s)
theorem DRs.get {K : Fg} {G : Hp} : ∀ {v : List V} {d : List D} {i : Nat} {x : D}, DRs K G v d → d[i]? = some x → ∃ u, v[i]? = some u ∧ DR K G u x
  | _, _, _, _, .nil, e => by simp at e
  | _, _, 0, _, .cons h _, e => by simp at e; subst e; exact ⟨_, rfl, h⟩
  | _, _, i + 1, x, .cons _ t, e => by
    obtain ⟨u, h1, h2⟩ := DRs.get (i := i) (x := x) t (by simpa using e)
    exact ⟨u, by simpa using h1, h2⟩
theorem DRs.set {K : Fg} {G : Hp} {x : V} {u : D} (r : DR K G x u) : ∀ {xs : List V} {us : List D} (i : Nat), DRs K G xs us → DRs K G (xs.set i x) (us.set i u)
  | _, _, _, .nil => .nil
  | _, _, 0, .cons _ t => .cons r t
  | _, _, i + 1, .cons q t => .cons q (DRs.set r i t)
theorem DRs.take {K : Fg} {G : Hp} : ∀ {xs : List V} {us : List D} (n : Nat), DRs K G xs us → DRs K G (xs.take n) (us.take n)
  | _, _, 0, _ => by simp; exact .nil
  | _, _, _ + 1, .nil => .nil
  | _, _, n + 1, .cons r t => .cons r (DRs.take n t)
theorem DRs.drop {K : Fg} {G : Hp} : ∀ {xs : List V} {us : List D} (n : Nat), DRs K G xs us → DRs K G (xs.drop n) (us.drop n)
  | _, _, 0, r => r
  | _, _, _ + 1, .nil => .nil
  | _, _, n + 1, .cons _ t => DRs.drop n t
theorem DRs.reverse {K : Fg} {G : Hp} : ∀ {xs : List V} {us : List D}, DRs K G xs us → DRs K G xs.reverse us.reverse
  | _, _, .nil => .nil
  | _, _, .cons r t => by
    rw [List.reverse_cons, List.reverse_cons]
    exact (DRs.reverse t).append (.cons r .nil)
theorem DRs.rep {K : Fg} {G : Hp} {xs : List V} {us : List D} (h : DRs K G xs us) : ∀ k : Nat, DRs K G (List.replicate k xs).flatten (List.replicate k us).flatten
  | 0 => .nil
  | k + 1 => by
    rw [List.replicate_succ, List.replicate_succ, List.flatten_cons, List.flatten_cons]
    exact h.append (DRs.rep h k)
theorem DRs.cut {K : Fg} {G : Hp} {xs : List V} {us : List D} (h : DRs K G xs us) (lo hi : Option Int) : DRs K G (cutV xs lo hi) (cutL us lo hi) := by
  unfold cutV cutL
  rw [h.length]
  exact (h.drop _).take _
theorem DRs.atI {K : Fg} {G : Hp} {v : List V} {d : List D} {i : Int} {x : D} (h : DRs K G v d) (e : L2.atI d i = some x) : ∃ u, L2.atI v i = some u ∧ DR K G u x := by
  unfold L2.atI at e ⊢
  rw [h.length]
  cases q : ixN d.length i with
  | none => rw [q] at e; cases e
  | some j =>
    rw [q] at e
    exact h.get e
theorem DRs.ints {K : Fg} {G : Hp} : ∀ {v : List V} {d : List D} {ns : List Int}, DRs K G v d → intsOf d = some ns → v = ns.map V.int
  | _, _, _, .nil, e => by cases e; rfl
  | _, _, ns, .cons (d := d) h r, e => by
    cases h with
    | int i =>
      unfold intsOf at e
      split at e
      · rename_i l hl
        cases e
        rw [DRs.ints r hl]
        rfl
      · cases e
    | _ => unfold intsOf at e; cases e
theorem DRs.strs {K : Fg} {G : Hp} : ∀ {v : List V} {d : List D} {ns : List Str}, DRs K G v d → strsOf d = some ns → v = ns.map V.str
  | _, _, _, .nil, e => by cases e; rfl
  | _, _, ns, .cons (d := d) h r, e => by
    cases h with
    | str i =>
      unfold strsOf at e
      split at e
      · rename_i l hl
        cases e
        rw [DRs.strs r hl]
        rfl
      · cases e
    | _ => unfold strsOf at e; cases e
theorem DRs.bls {K : Fg} {G : Hp} : ∀ {v : List V} {d : List D} {ns : List Bool}, DRs K G v d → blsOf d = some ns → v = ns.map V.bl
  | _, _, _, .nil, e => by cases e; rfl
  | _, _, ns, .cons (d := d) h r, e => by
    cases h with
    | bl i =>
      unfold blsOf at e
      split at e
      · rename_i l hl
        cases e
        rw [DRs.bls r hl]
        rfl
      · cases e
    | _ => unfold blsOf at e; cases e
theorem DRs.ofInts {K : Fg} {G : Hp} : ∀ ns : List Int, DRs K G (ns.map V.int) (ns.map PyData.int)
  | [] => .nil
  | n :: r => .cons (.int n) (DRs.ofInts r)
theorem DRs.ofStrs {K : Fg} {G : Hp} : ∀ ns : List Str, DRs K G (ns.map V.str) (ns.map PyData.str)
  | [] => .nil
  | n :: r => .cons (.str n) (DRs.ofStrs r)

/-! ### states -/
structure Rel (K : Fg) (ta : Option Addr) (G : Hp) (σ : St) (H : Hp) (ρ : En) (τ : List D) : Prop where
  sub : Same G H
  tin : ∀ a, ta = some a → G a = none ∧ ∃ vs, H a = some (.lst vs) ∧ DRs K G vs τ
  dat : ∀ (i : Nat) (d : D), ρ[i]? = some (some (.dat d)) → ∃ v, σ[i]? = some (some v) ∧ DR K G v d
  own : ∀ (i : Nat) (ds : List D), ρ[i]? = some (some (.own ds)) → ∃ a vs, σ[i]? = some (some (.ref a)) ∧ ta ≠ some a ∧ G a = none ∧ H a = some (.lst vs) ∧ DRs K G vs ds
  apart : ∀ (i j : Nat) (ds es : List D) (a : Addr), i ≠ j → ρ[i]? = some (some (.own ds)) → ρ[j]? = some (some (.own es)) → σ[i]? = some (some (.ref a)) → σ[j]? ≠ some (some (.ref a))
  tn : ∀ (i : Nat), ρ[i]? = some (some .tin) → ∃ a, ta = some a ∧ σ[i]? = some (some (.ref a))
  len : ρ.length ≤ σ.length
structure Ext (ta : Option Addr) (G H G' H' : Hp) : Prop where
  g : Same G G'
  new : ∀ b o, G' b = some o → G b = some o ∨ H b = none
  keep : ∀ b o, ta ≠ some b → H b = some o → H' b = some o
  there : ∀ b o, H b = some o → ∃ o', H' b = some o'
theorem Ext.refl {ta : Option Addr} {G H : Hp} : Ext ta G H G H := ⟨fun _ _ h => h, fun _ _ h => .inl h, fun _ _ _ h => h, fun _ o h => ⟨o, h⟩⟩
theorem Ext.trans {ta : Option Addr} {G H G1 H1 G2 H2 : Hp} (a : Ext ta G H G1 H1) (b : Ext ta G1 H1 G2 H2) : Ext ta G H G2 H2 where
  g := a.g.trans b.g
  new := fun c o h => by
    rcases b.new c o h with q | q
    · exact a.new c o q
    · right
      cases r : H c with
      | none => rfl
      | some u =>
        obtain ⟨o', e⟩ := a.there c u r
        rw [q] at e; cases e
  keep := fun c o n h => b.keep c o n (a.keep c o n h)
  there := fun c o h => by
    obtain ⟨o', e⟩ := a.there c o h
    exact b.there c o' e
/-- a new object, of the frozen part -/
theorem Ext.laid {ta : Option Addr} {G H : Hp} {p : Addr} {o : HO} (s : Same G H) (hp : H p = none) : Ext ta G H (upd G p o) (upd H p o) where
  g := fun b u h => by rw [upd_ne (ne_of_none (s _ _ h) hp)]; exact h
  new := fun b u h => by
    by_cases e : b = p
    · subst e; exact .inr hp
    · rw [upd_ne e] at h; exact .inl h
  keep := fun b u _ h => by rw [upd_ne (ne_of_none h hp)]; exact h
  there := fun b u h => ⟨u, by rw [upd_ne (ne_of_none h hp)]; exact h⟩
/-- a new object, not of it -/
theorem Ext.fresh {ta : Option Addr} {G H : Hp} {p : Addr} {o : HO} (hp : H p = none) : Ext ta G H G (upd H p o) where
  g := fun b u h => h
  new := fun b u h => .inl h
  keep := fun b u _ h => by rw [upd_ne (ne_of_none h hp)]; exact h
  there := fun b u h => ⟨u, by rw [upd_ne (ne_of_none h hp)]; exact h⟩
theorem same_laid {G H : Hp} {p : Addr} {o : HO} (s : Same G H) (hp : H p = none) : Same (upd G p o) (upd H p o) := fun b u h => by
  by_cases e : b = p
  · subst e; rw [upd_same] at h ⊢; exact h
  · rw [upd_ne e] at h ⊢; exact s _ _ h
section
variable {K : Fg} {ta : Option Addr} {G H G' H' : Hp} {σ : St} {ρ : En} {τ τ' : List D}
/-- the state goes on: what the box holds then is told -/
theorem Rel.ext (R : Rel K ta G σ H ρ τ) (x : Ext ta G H G' H') (s : Same G' H') (ht : ∀ a, ta = some a → ∃ vs, H' a = some (.lst vs) ∧ DRs K G' vs τ') : Rel K ta G' σ H' ρ τ' where
  sub := s
  tin := fun a e => by
    obtain ⟨n, vs, h, _⟩ := R.tin a e
    refine ⟨?_, ht a e⟩
    cases q : G' a with
    | none => rfl
    | some o =>
      rcases x.new a o q with z | z
      · rw [n] at z; cases z
      · rw [h] at z; cases z
  dat := fun i d e => by
    obtain ⟨v, h1, h2⟩ := R.dat i d e
    exact ⟨v, h1, h2.same x.g⟩
  own := fun i ds e => by
    obtain ⟨a, vs, h1, h2, h3, h4, h5⟩ := R.own i ds e
    refine ⟨a, vs, h1, h2, ?_, x.keep _ _ h2 h4, h5.same x.g⟩
    cases q : G' a with
    | none => rfl
    | some o =>
      rcases x.new a o q with z | z
      · rw [h3] at z; cases z
      · rw [h4] at z; cases z
  apart := R.apart
  tn := R.tn
  len := R.len
/-- .. the box untouched -/
theorem Rel.ext' (R : Rel K ta G σ H ρ τ) (x : Ext ta G H G' H') (s : Same G' H') (hk : ∀ a, ta = some a → H' a = H a) : Rel K ta G' σ H' ρ τ :=
  R.ext x s fun a e => by
    obtain ⟨_, vs, h, r⟩ := R.tin a e
    exact ⟨vs, by rw [hk a e]; exact h, r.same x.g⟩
theorem Rel.laid (R : Rel K ta G σ H ρ τ) {p : Addr} {o : HO} (hp : H p = none) : Rel K ta (upd G p o) σ (upd H p o) ρ τ :=
  R.ext' (Ext.laid R.sub hp) (same_laid R.sub hp) fun a e => by
    obtain ⟨_, vs, h, _⟩ := R.tin a e
    rw [upd_ne (ne_of_none h hp)]
theorem Rel.fresh (R : Rel K ta G σ H ρ τ) {p : Addr} {o : HO} (hp : H p = none) : Rel K ta G σ (upd H p o) ρ τ :=
  R.ext' (Ext.fresh hp) (fun b u h => by rw [upd_ne (ne_of_none (R.sub _ _ h) hp)]; exact R.sub _ _ h) fun a e => by
    obtain ⟨_, vs, h, _⟩ := R.tin a e
    rw [upd_ne (ne_of_none h hp)]
end

/-! ### values -/
inductive Kd where
  | dat | fresh | peek
  deriving DecidableEq
/-- a list that is read: of the frozen part, or one that stands beside -/
def View (K : Fg) (ta : Option Addr) (G H : Hp) (v : V) (d : D) : Prop :=
  DR K G v d ∨ ∃ a vs ds, v = .ref a ∧ d = .list ds ∧ ta ≠ some a ∧ H a = some (.lst vs) ∧ DRs K G vs ds
/-- a list that was just made (it stood not in H₀) -/
def Fresh (K : Fg) (ta : Option Addr) (H₀ G H : Hp) (v : V) (d : D) : Prop :=
  ∃ a vs ds, v = .ref a ∧ d = .list ds ∧ H₀ a = none ∧ ta ≠ some a ∧ G a = none ∧ H a = some (.lst vs) ∧ DRs K G vs ds
def Val (K : Fg) (ta : Option Addr) (H₀ G H : Hp) : Kd → V → D → Prop
  | .dat, v, d => DR K G v d
  | .fresh, v, d => DR K G v d ∧ (∀ ds, d ≠ .list ds) ∨ Fresh K ta H₀ G H v d
  | .peek, v, d => View K ta G H v d
section
variable {K : Fg} {ta : Option Addr} {H₀ G H G' H' : Hp} {v : V} {d : D} {k : Kd}
theorem Fresh.view (h : Fresh K ta H₀ G H v d) : View K ta G H v d := by
  obtain ⟨a, vs, ds, h1, h2, _, h3, _, h4, h5⟩ := h
  exact .inr ⟨a, vs, ds, h1, h2, h3, h4, h5⟩
theorem Val.view (h : Val K ta H₀ G H k v d) : View K ta G H v d := by
  cases k with
  | dat => exact .inl h
  | fresh =>
    rcases h with h | h
    · exact .inl h.1
    · exact h.view
  | peek => exact h
theorem View.ext (h : View K ta G H v d) (x : Ext ta G H G' H') : View K ta G' H' v d := by
  rcases h with h | ⟨a, vs, ds, h1, h2, h3, h4, h5⟩
  · exact .inl (h.same x.g)
  · exact .inr ⟨a, vs, ds, h1, h2, h3, x.keep _ _ h3 h4, h5.same x.g⟩
end
inductive Views (K : Fg) (ta : Option Addr) (G H : Hp) : List V → List D → Prop
  | nil : Views K ta G H [] []
  | cons {v : V} {vs : List V} {d : D} {ds : List D} : View K ta G H v d → Views K ta G H vs ds → Views K ta G H (v :: vs) (d :: ds)
theorem Views.ext {K : Fg} {ta : Option Addr} {G H G' H' : Hp} (x : Ext ta G H G' H') : ∀ {vs : List V} {ds : List D}, Views K ta G H vs ds → Views K ta G' H' vs ds
  | _, _, .nil => .nil
  | _, _, .cons h r => .cons (h.ext x) (Views.ext x r)
/-- what a list, a tuple among the views is on the heap -/
theorem View.lst {K : Fg} {ta : Option Addr} {G H : Hp} {v : V} {ds : List D} (s : Same G H) (h : View K ta G H v (.list ds)) : ∃ a xs, v = .ref a ∧ SqL K H a xs ∧ DRs K G xs ds := by
  rcases h with h | ⟨a, vs, es, h1, h2, h3, h4, h5⟩
  · cases h with
    | lst q r => exact ⟨_, _, rfl, s.seq q, r⟩
  · cases h2
    exact ⟨a, vs, h1, .inl (.inl h4), h5⟩
theorem View.tup {K : Fg} {ta : Option Addr} {G H : Hp} {v : V} {ds : List D} (s : Same G H) (h : View K ta G H v (.tuple ds)) : ∃ a xs, v = .ref a ∧ SqT K H a xs ∧ DRs K G xs ds := by
  rcases h with h | ⟨a, vs, es, h1, h2, _⟩
  · cases h with
    | tup q r => exact ⟨_, _, rfl, SqT.same s q, r⟩
  · cases h2
theorem View.dr {K : Fg} {ta : Option Addr} {G H : Hp} {v : V} {d : D} (h : View K ta G H v d) (n : ∀ ds, d ≠ .list ds) : DR K G v d := by
  rcases h with h | ⟨a, vs, es, h1, h2, _⟩
  · exact h
  · exact absurd h2 (n es)
/-- all of it over H -/
theorem View.at {K : Fg} {ta : Option Addr} {G H : Hp} {v : V} {d : D} (s : Same G H) (h : View K ta G H v d) : DR K H v d := by
  rcases h with h | ⟨a, vs, es, h1, h2, h3, h4, h5⟩
  · exact h.same s
  · subst h1 h2
    exact .lst (.inl (.inl h4)) (h5.same s)
end KN

set_option maxRecDepth 100000
set_option maxHeartbeats 1000000
namespace KN
open PySem L2 PyProof.Rows
section
variable {K : Fg} {ta : Option Addr} {G H G' H' : Hp} {v x : V} {d : D}
theorem View.int {i : Int} (h : View K ta G H x (.int i)) : x = .int i := by
  cases h.dr (fun _ z => nomatch z); rfl
theorem View.str {i : Str} (h : View K ta G H x (.str i)) : x = .str i := by
  cases h.dr (fun _ z => nomatch z); rfl
theorem View.bl {i : Bool} (h : View K ta G H x (.bool i)) : x = .bl i := by
  cases h.dr (fun _ z => nomatch z); rfl
theorem View.non (h : View K ta G H x .none) : x = .non := by
  cases h.dr (fun _ z => nomatch z); rfl
theorem lineOk_le {n : Nat} (h : lineOk n = true) : n ≤ sizeLine := by
  rw [sizeLine_eq]
  exact of_decide_eq_true h
theorem Val.new {o : HO} {p : Addr} {xs : List V} {ds : List D} (s : Same G H) (hp : H p = none) (r : DRs K G xs ds) : Val K none H G (upd H p (.lst xs)) .fresh (.ref p) (.list ds) :=
  .inr ⟨p, xs, ds, rfl, rfl, hp, by simp, s.free hp, upd_same, r⟩
end

/-! ### readings by data -/
def rV2 (K : Fg) (f : D → D → Option D) (k : Kd) : R2 := fun x y H Q => ∃ G a b d, Same G H ∧ View K none G H x a ∧ View K none G H y b ∧ f a b = some d ∧
  ∀ v G' H', Ext none G H G' H' → Same G' H' → Val K none H G' H' k v d → Q v H'
def rV1 (K : Fg) (f : D → Option D) (k : Kd) : V → Hp → VK → Prop := fun x H Q => ∃ G a d, Same G H ∧ View K none G H x a ∧ f a = some d ∧
  ∀ v G' H', Ext none G H G' H' → Same G' H' → Val K none H G' H' k v d → Q v H'
def rVs (K : Fg) (f : List D → Option D) (k : Kd) : List V → Hp → VK → Prop := fun xs H Q => ∃ G as d, Same G H ∧ Views K none G H xs as ∧ f as = some d ∧
  ∀ v G' H', Ext none G H G' H' → Same G' H' → Val K none H G' H' k v d → Q v H'

section
variable {X : Cx}
/-- lists that are read, joined -/
theorem op_catR : OpR X (binaryOp .Add) (fun x y H Q => ∃ l b xs zs, x = .ref l ∧ y = .ref b ∧ SqL X.K H l xs ∧ SqL X.K H b zs ∧ xs.length + zs.length ≤ sizeLine ∧ ∀ p, H p = none → Q (.ref p) (upd H p (.lst (xs ++ zs)))) := by
  intro pins s σ H x y v u Q I rx ry h
  obtain ⟨l, b, xs, zs, rfl, rfl, hH, hB, hz, q⟩ := h
  cases rx
  cases ry
  obtain ⟨its, r, ⟨⟨c1, d1, t1, s1⟩, n, e, k1, k2, k3⟩, z⟩ := I.list hH
  obtain ⟨its2, r2, ⟨⟨c2, d2, t2, s2⟩, n2, e2, k4, k5, k6⟩, z2⟩ := I.list hB
  simp only at k1 k2 k3 k4 k5 k6
  subst k1 k2 k3 k4 k5 k6
  have hl := r.length
  have hl2 := r2.length
  have ea : its.toArray ++ its2.toArray = (its ++ its2).toArray := by simp
  refine concat_meets ⟨_, e, rfl⟩ ⟨_, e2, rfl⟩ noFill_list_add seq_list_add PySem.F.slot_list_add PySem.F.entry_list_add (PySem.F.args_list_add_2 _ _) (list_addW l b its.toArray its2.toArray n n2 none none s1 s2 (by rw [List.size_toArray, List.size_toArray]; omega)) ⟨e, e2, ?_⟩
  rw [ea]
  exact ⟨.ref _, _, I.lnew (t' := s.toks) (r.append r2) (by rw [List.length_append]; omega), rfl, q _ I.fresh⟩
theorem int_rmul_listG (a : Int) (t : Tok) (l : Addr) (items : Array Value) (n : Nat) (dd : Option Addr) (sl : Array (Option Value)) :
    Meets (Builtin.«int.__rmul__» ⟨[.int a t, .ref l], []⟩) (fun _ R s => s.heap.get? l = some { cls := .type "list", dict := dd, data := .seq items n, slots := sl } ∧ R (.ok (.ret Value.notImplemented)) s) :=
  .of_wp fun prog w A R s h => by obtain ⟨hp, g, d, tk, os⟩ := s; obtain ⟨hl, h⟩ := h; wp_walk using AutoSeq1.wpAny_loadPart' hl; exact ⟨_, rfl, h⟩
theorem list_mulG (l : Addr) (items : Array Value) (n : Nat) (dd : Option Addr) (sl : Array (Option Value)) (x : Int) (u : Tok) (hc0 : ¬(!Builtin.List.listFitsIndex x) = true) (hc1 : ¬items.size * x.toNat > (2 ^ 63 - 1) / 8) (hc2 : ¬Builtin.List.listTooLong (items.size * x.toNat) = true) :
    Meets (Builtin.«list.__mul__» ⟨[.ref l, .int x u], []⟩) (fun _ R s => s.heap.get? l = some { cls := .type "list", dict := dd, data := .seq items n, slots := sl } ∧ R (.ok (.ret (Value.ref s.heap.objs.size))) { s with heap := s.heap.push { cls := Value.type "list", data := Data.seq (List.foldl (fun x1 x2 => x1 ++ x2) #[] (List.replicate (if items.isEmpty = true then 0 else x.toNat) items)) }, toks := s.toks }) :=
  .of_wp fun prog w A R s h => by
    obtain ⟨hp, g, d, tk, os⟩ := s; obtain ⟨hl, h⟩ := h
    have hsz := AutoListH.joined_fits hc2
    have f1 := AutoSeq1.idx_int
    wp_walk using AutoSeq1.wpAny_loadPart' hl; refine wpAny_ite_false (decide_eq_false (Nat.not_lt.mpr hsz)) ?_; wp_walk using AutoSeq1.wpAny_loadPart' hl; exact ⟨_, rfl, h⟩
theorem op_repR : OpR X (binaryOp .Mult) (fun x y H Q => ∃ l k xs, x = .ref l ∧ y = .int k ∧ SqL X.K H l xs ∧ -(2 ^ 63) ≤ k ∧ k < 2 ^ 63 ∧ xs.length * k.toNat ≤ sizeLine ∧
    ∀ p, H p = none → Q (.ref p) (upd H p (.lst (List.replicate k.toNat xs).flatten))) := by
  intro pins s σ H x y v u Q I rx ry h
  obtain ⟨l, k, xs, rfl, rfl, hH, h1, h2, hz, q⟩ := h
  cases rx
  obtain ⟨t, rfl⟩ := ry
  obtain ⟨its, r, ⟨⟨c1, d1, t1, s1⟩, n, e, k1, k2, k3⟩, z⟩ := I.list hH
  simp only at k1 k2 k3
  subst k1 k2 k3
  have hl := r.length
  have hlen : its.toArray.size * k.toNat ≤ sizeLine := by rw [List.size_toArray, ← hl]; exact hz
  have hcap : ¬ its.toArray.size * k.toNat > (2 ^ 63 - 1) / 8 := by
    have : (sizeLine : Nat) ≤ (2 ^ 63 - 1) / 8 := by decide
    omega
  have hfit : ¬ (!Builtin.List.listFitsIndex k) = true := by
    rw [fitsIndex_both h1 h2]
    exact Bool.false_ne_true
  have hlong : ¬ Builtin.List.listTooLong (its.toArray.size * k.toNat) = true := by
    rw [notLongL hlen]
    exact Bool.false_ne_true
  have hnew : List.foldl (fun x1 x2 => x1 ++ x2) #[] (List.replicate (if its.toArray.isEmpty = true then 0 else k.toNat) its.toArray) = (List.replicate k.toNat its).flatten.toArray := by
    have f0 : ∀ m : Nat, List.foldl (fun x1 x2 => x1 ++ x2) #[] (List.replicate m its.toArray) = (List.replicate m its).flatten.toArray := fun m => by
      have := foldl_rep its m []
      rw [List.nil_append] at this
      exact this
    rw [f0]
    cases its with
    | nil => simp
    | cons a r' => rw [if_neg (by simp)]
  refine wpAny_binaryOp_repeat_ref (T := "list") (U := "int") (by decide) ⟨_, e, rfl⟩ (fun s' => typeIs_int s' k t) noFill_list_mul F.fills_int_mul F.slot_int_rmul repeat_list F.slot_int_index.lookup
    (call_meets F.slot_int_rmul (typeIs_int s k t) F.entry_int_rmul (F.args_int_rmul_2 _ _) (int_rmul_listG k t l its.toArray n none s1)
      ⟨e, rfl, ⟨_, e, rfl⟩, call_meets F.slot_list_mul ⟨_, e, rfl⟩ F.entry_list_mul (F.args_list_mul_2 _ _) (list_mulG l its.toArray n none s1 k t hfit hcap hlong) ⟨e, ?_⟩⟩)
  rw [hnew]
  exact ⟨.ref _, _, I.lnew (t' := s.toks) (r.rep k.toNat) (by rw [PyProof.Rows.lm_len_rep_flat, Nat.mul_comm]; exact hz), rfl, q _ I.fresh⟩

/-- a scalar comes out -/
theorem scal_out {K : Fg} {G H : Hp} {v : V} {d : D} {k : Kd} {Q : VK} (sm : Same G H) (q : ∀ v G' H', Ext none G H G' H' → Same G' H' → Val K none H G' H' k v d → Q v H') (h : DR K G v d) (n : ∀ ds, d ≠ .list ds) (hk : k ≠ .peek := by decide) : Q v H := by
  refine q v G H Ext.refl sm ?_
  cases k with
  | dat => exact h
  | fresh => exact .inl ⟨h, n⟩
  | peek => exact absurd rfl hk
theorem op_binD (op : Operator) : OpR X (binaryOp op) (rV2 X.K (binD op) .fresh) := by
  intro pins s σ H x y v u Q I rx ry h
  obtain ⟨G, a, b, d, sm, va, vb, e, q⟩ := h
  cases op with
  | Add =>
    cases a with
    | int i =>
      cases b with
      | int j =>
        cases e
        exact op_add pins s σ H x y v u Q I rx ry ⟨i, j, va.int, vb.int, scal_out sm q (.int _) (fun _ z => nomatch z)⟩
      | _ => cases e
    | str i =>
      cases b with
      | str j =>
        simp only [binD] at e
        split at e
        · rename_i hz
          cases e
          exact op_add_str pins s σ H x y v u Q I rx ry ⟨i, j, va.str, vb.str, lineOk_le hz, scal_out sm q (.str _) (fun _ z => nomatch z)⟩
        · cases e
      | _ => cases e
    | list i =>
      cases b with
      | list j =>
        simp only [binD] at e
        split at e
        · rename_i hz
          cases e
          obtain ⟨p1, xs, e1, r1, d1⟩ := va.lst sm
          obtain ⟨p2, ys, e2, r2, d2⟩ := vb.lst sm
          refine op_catR pins s σ H x y v u Q I rx ry ⟨p1, p2, xs, ys, e1, e2, r1, r2, by rw [d1.length, d2.length]; exact lineOk_le hz, fun p hp => ?_⟩
          exact q _ G _ (Ext.fresh hp) (fun b u h => by rw [upd_ne (ne_of_none (sm _ _ h) hp)]; exact sm _ _ h) (Val.new (o := .tup []) sm hp (d1.append d2))
        · cases e
      | _ => cases e
    | tuple i =>
      cases b with
      | tuple j =>
        simp only [binD] at e
        split at e
        · rename_i hz
          cases e
          obtain ⟨p1, xs, e1, r1, d1⟩ := va.tup sm
          obtain ⟨p2, ys, e2, r2, d2⟩ := vb.tup sm
          have w1 : DR X.K G x (.tuple i) := va.dr fun _ z => nomatch z
          have w2 : DR X.K G y (.tuple j) := vb.dr fun _ z => nomatch z
          refine op_catA pins s σ H x y v u Q I rx ry ⟨p1, p2, xs, ys, e1, e2, r1, r2, by rw [d1.length, d2.length]; exact lineOk_le hz, fun z => ?_, fun _ z => ?_, fun _ _ p hp => ?_⟩
          · subst z
            cases d1
            rw [← e2]
            exact scal_out sm q w2 (fun _ z => nomatch z)
          · subst z
            cases d2
            rw [← e1, List.append_nil] at *
            exact scal_out sm q w1 (fun _ z => nomatch z)
          · refine q _ (upd G p (.tup (xs ++ ys))) _ (Ext.laid sm hp) (same_laid sm hp) (.inl ⟨.tup (.inl (.inl upd_same)) ((d1.append d2).same (Ext.laid (ta := none) sm hp).g), fun _ z => nomatch z⟩)
        · cases e
      | _ => cases e
    | _ => cases e
  | Sub =>
    cases a with
    | int i =>
      cases b with
      | int j =>
        cases e
        exact op_sub pins s σ H x y v u Q I rx ry ⟨i, j, va.int, vb.int, scal_out sm q (.int _) (fun _ z => nomatch z)⟩
      | _ => cases e
    | _ => cases e
  | Mult =>
    cases a with
    | int i =>
      cases b with
      | int j =>
        simp only [binD] at e
        split at e
        · rename_i hz
          cases e
          refine op_mul pins s σ H x y v u Q I rx ry ⟨i, j, va.int, vb.int, ?_, scal_out sm q (.int _) (fun _ z => nomatch z)⟩
          simp only [mulOk, Bool.or_eq_true, Bool.and_eq_true, decide_eq_true_eq] at hz
          exact hz
        · cases e
      | _ => cases e
    | list i =>
      cases b with
      | int j =>
        simp only [binD] at e
        split at e
        · rename_i hz
          cases e
          simp only [Bool.and_eq_true, decide_eq_true_eq] at hz
          obtain ⟨⟨h1, h2⟩, h3⟩ := hz
          obtain ⟨p1, xs, e1, r1, d1⟩ := va.lst sm
          refine op_repR pins s σ H x y v u Q I rx ry ⟨p1, j, xs, e1, vb.int, r1, h1, h2, by rw [d1.length]; exact lineOk_le h3, fun p hp => ?_⟩
          exact q _ G _ (Ext.fresh hp) (fun b u h => by rw [upd_ne (ne_of_none (sm _ _ h) hp)]; exact sm _ _ h) (Val.new (o := .tup []) sm hp (d1.rep _))
        · cases e
      | _ => cases e
    | tuple i =>
      cases b with
      | int j =>
        simp only [binD] at e
        split at e
        · rename_i hz
          cases e
          simp only [Bool.and_eq_true, decide_eq_true_eq] at hz
          obtain ⟨⟨⟨h0, h1⟩, h2⟩, h3⟩ := hz
          obtain ⟨p1, xs, e1, r1, d1⟩ := va.tup sm
          refine op_repT pins s σ H x y v u Q I rx ry ⟨p1, j, xs, e1, vb.int, r1, fun z => ?_, h1, h2, by rw [d1.length]; exact h3, fun p hp => ?_⟩
          · subst z; cases d1; simp at h0
          · refine q _ (upd G p (.tup _)) _ (Ext.laid sm hp) (same_laid sm hp) (.inl ⟨.tup (.inl (.inl upd_same)) ((d1.rep _).same (Ext.laid (ta := none) sm hp).g), fun _ z => nomatch z⟩)
        · cases e
      | _ => cases e
    | _ => cases e
  | Mod =>
    cases a with
    | int i =>
      cases b with
      | int j =>
        simp only [binD] at e
        split at e
        · rename_i hz
          cases e
          exact op_mod pins s σ H x y v u Q I rx ry ⟨i, j, va.int, vb.int, hz, scal_out sm q (.int _) (fun _ z => nomatch z)⟩
        · cases e
      | _ => cases e
    | _ => cases e
  | FloorDiv =>
    cases a with
    | int i =>
      cases b with
      | int j =>
        simp only [binD] at e
        split at e
        · rename_i hz
          cases e
          simp only [Bool.and_eq_true, decide_eq_true_eq] at hz
          exact op_fdiv pins s σ H x y v u Q I rx ry ⟨i, j, va.int, vb.int, hz, scal_out sm q (.int _) (fun _ z => nomatch z)⟩
        · cases e
      | _ => cases e
    | _ => cases e
  | Pow =>
    cases a with
    | int i =>
      cases b with
      | int j =>
        simp only [binD] at e
        split at e
        · rename_i hz
          cases e
          simp only [Bool.and_eq_true, decide_eq_true_eq] at hz
          exact op_pow pins s σ H x y v u Q I rx ry ⟨i, j, va.int, vb.int, ⟨hz.1.1, hz.1.2, hz.2⟩, scal_out sm q (.int _) (fun _ z => nomatch z)⟩
        · cases e
      | _ => cases e
    | _ => cases e
  | LShift =>
    cases a with
    | int i =>
      cases b with
      | int j =>
        simp only [binD] at e
        split at e
        · rename_i hz
          cases e
          simp only [Bool.and_eq_true, decide_eq_true_eq] at hz
          exact op_shl pins s σ H x y v u Q I rx ry ⟨i, j, va.int, vb.int, ⟨hz.1.1, hz.1.2, hz.2⟩, scal_out sm q (.int _) (fun _ z => nomatch z)⟩
        · cases e
      | _ => cases e
    | _ => cases e
  | BitAnd =>
    cases a with
    | int i =>
      cases b with
      | int j =>
        cases e
        exact op_and pins s σ H x y v u Q I rx ry ⟨i, j, va.int, vb.int, scal_out sm q (.int _) (fun _ z => nomatch z)⟩
      | _ => cases e
    | _ => cases e
  | BitOr =>
    cases a with
    | int i =>
      cases b with
      | int j =>
        cases e
        exact op_or pins s σ H x y v u Q I rx ry ⟨i, j, va.int, vb.int, scal_out sm q (.int _) (fun _ z => nomatch z)⟩
      | _ => cases e
    | _ => cases e
  | _ => cases a <;> cases b <;> cases e
end
end KN

set_option maxRecDepth 100000
set_option maxHeartbeats 1000000
namespace KN
open PySem L2 PyProof.Rows

/-! ### sorted rows are unique -/
theorem perm_sorted_eq {α : Type} {le : α → α → Prop} (anti : ∀ a b, le a b → le b a → a = b) (rfl' : ∀ a, le a a) : ∀ {l m : List α}, l.Perm m → l.Pairwise le → m.Pairwise le → l = m
  | [], m, p, _, _ => (List.Perm.nil_eq p)
  | a :: r, [], p, _, _ => absurd p.length_eq (by simp)
  | a :: r, b :: q, p, h1, h2 => by
    have hab : a = b := by
      have m1 : a ∈ b :: q := p.subset List.mem_cons_self
      have m2 : b ∈ a :: r := p.symm.subset List.mem_cons_self
      have l1 : le b a := by
        rcases List.mem_cons.mp m1 with z | z
        · rw [z]; exact rfl' _
        · exact List.rel_of_pairwise_cons h2 z
      have l2 : le a b := by
        rcases List.mem_cons.mp m2 with z | z
        · rw [z]; exact rfl' _
        · exact List.rel_of_pairwise_cons h1 z
      exact anti _ _ l2 l1
    subst hab
    rw [perm_sorted_eq anti rfl' p.cons_inv (List.pairwise_cons.mp h1).2 (List.pairwise_cons.mp h2).2]
theorem insI_perm (x : Int) : ∀ l, (insI x l).Perm (x :: l)
  | [] => .refl _
  | y :: r => by
    unfold insI
    split
    · exact .refl _
    · exact ((insI_perm x r).cons y).trans (.swap x y r)
theorem sortI_perm : ∀ l, (sortI l).Perm l
  | [] => .refl _
  | x :: r => (insI_perm x _).trans ((sortI_perm r).cons x)
theorem insI_sorted (x : Int) : ∀ l : List Int, l.Pairwise (· ≤ ·) → (insI x l).Pairwise (· ≤ ·)
  | [], _ => by simp [insI]
  | y :: r, h => by
    unfold insI
    have h2 := List.pairwise_cons.mp h
    split
    · rename_i c
      refine List.pairwise_cons.mpr ⟨fun z hz => ?_, h⟩
      rcases List.mem_cons.mp hz with e | e
      · subst e; exact c
      · exact Int.le_trans c (h2.1 z e)
    · rename_i c
      refine List.pairwise_cons.mpr ⟨fun z hz => ?_, insI_sorted x r h2.2⟩
      rcases List.mem_cons.mp ((insI_perm x r).subset hz) with e | e
      · subst e; omega
      · exact h2.1 z e
theorem sortI_sorted : ∀ l, (sortI l).Pairwise (· ≤ ·)
  | [] => .nil
  | x :: r => insI_sorted x _ (sortI_sorted r)
theorem sortI_eq {l m : List Int} (p : m.Perm l) (h : m.Pairwise (· ≤ ·)) : m = sortI l :=
  perm_sorted_eq (le := fun a b : Int => a ≤ b) (fun _ _ h1 h2 => Int.le_antisymm h1 h2) (fun _ => Int.le_refl _) (p.trans (sortI_perm l).symm) h (sortI_sorted l)
/-! texts by their signs -/
theorem cps_inj {x y : Str} (h : x.cps.toList = y.cps.toList) : x = y := Str.ext' (Array.toList_inj.mp h)
theorem leS_iff {x y : Str} : leS x y = true ↔ x.cps.toList ≤ y.cps.toList := by
  unfold leS
  rw [Bool.not_eq_true', decide_eq_false_iff_not, List.not_lt]
theorem leS_anti {x y : Str} (h1 : leS x y = true) (h2 : leS y x = true) : x = y := cps_inj (List.le_antisymm (leS_iff.mp h1) (leS_iff.mp h2))
theorem leS_refl (x : Str) : leS x x = true := leS_iff.mpr (List.le_refl _)
theorem leS_trans {x y z : Str} (h1 : leS x y = true) (h2 : leS y z = true) : leS x z = true := leS_iff.mpr (List.le_trans (leS_iff.mp h1) (leS_iff.mp h2))
theorem leS_total {x y : Str} (h : ¬ leS x y = true) : leS y x = true := by
  rcases List.le_total x.cps.toList y.cps.toList with c | c
  · exact absurd (leS_iff.mpr c) h
  · exact leS_iff.mpr c
theorem insS_perm (x : Str) : ∀ l, (insS x l).Perm (x :: l)
  | [] => .refl _
  | y :: r => by
    unfold insS
    split
    · exact .refl _
    · exact ((insS_perm x r).cons y).trans (.swap x y r)
theorem sortS_perm : ∀ l, (sortS l).Perm l
  | [] => .refl _
  | x :: r => (insS_perm x _).trans ((sortS_perm r).cons x)
theorem insS_sorted (x : Str) : ∀ l : List Str, l.Pairwise (fun a b => leS a b = true) → (insS x l).Pairwise (fun a b => leS a b = true)
  | [], _ => by simp [insS]
  | y :: r, h => by
    unfold insS
    have h2 := List.pairwise_cons.mp h
    split
    · rename_i c
      refine List.pairwise_cons.mpr ⟨fun z hz => ?_, h⟩
      rcases List.mem_cons.mp hz with e | e
      · subst e; exact c
      · exact leS_trans c (h2.1 z e)
    · rename_i c
      refine List.pairwise_cons.mpr ⟨fun z hz => ?_, insS_sorted x r h2.2⟩
      rcases List.mem_cons.mp ((insS_perm x r).subset hz) with e | e
      · subst e; exact leS_total c
      · exact h2.1 z e
theorem sortS_sorted : ∀ l, (sortS l).Pairwise (fun a b => leS a b = true)
  | [] => .nil
  | x :: r => insS_sorted x _ (sortS_sorted r)
theorem rising_pw : ∀ (p : Str) (l : List Str), risingS p l = true → (p :: l).Pairwise (fun a b => leS a b = true)
  | p, [], _ => by simp
  | p, x :: r, h => by
    have h' : (!PySem.Spec.ltCps x.cps.toList p.cps.toList && risingS x r) = true := h
    simp only [Bool.and_eq_true] at h'
    have ih := rising_pw x r h'.2
    have l1 : leS p x = true := by
      have := h'.1
      rw [ltCps_eq] at this
      exact this
    refine List.pairwise_cons.mpr ⟨fun z hz => ?_, ih⟩
    rcases List.mem_cons.mp hz with e | e
    · subst e; exact l1
    · exact leS_trans l1 (List.rel_of_pairwise_cons ih e)
theorem sortS_eq {l m : List Str} (p : m.Perm l) (h : sortedS m = true) : m = sortS l :=
  perm_sorted_eq (le := fun a b : Str => leS a b = true) (fun _ _ h1 h2 => leS_anti h1 h2) leS_refl (p.trans (sortS_perm l).symm) (by
    cases m with
    | nil => exact .nil
    | cons x r => exact rising_pw x r h) (sortS_sorted l)
theorem maxL_le : ∀ (l : List Int) (m : Int), m ≤ maxL m l ∧ ∀ y ∈ l, y ≤ maxL m l
  | [], m => ⟨Int.le_refl _, fun _ h => nomatch h⟩
  | x :: r, m => by
    have h := maxL_le r (if m < x then x else m)
    unfold maxL
    refine ⟨Int.le_trans ?_ h.1, fun y hy => ?_⟩
    · split <;> omega
    · rcases List.mem_cons.mp hy with e | e
      · subst e
        refine Int.le_trans ?_ h.1
        split <;> omega
      · exact h.2 y e
theorem maxL_mem : ∀ (l : List Int) (m : Int), maxL m l ∈ m :: l
  | [], m => by simp [maxL]
  | x :: r, m => by
    unfold maxL
    have h := maxL_mem r (if m < x then x else m)
    rcases List.mem_cons.mp h with e | e
    · rw [e]
      split
      · exact List.mem_cons_of_mem _ List.mem_cons_self
      · exact List.mem_cons_self
    · exact List.mem_cons_of_mem _ (List.mem_cons_of_mem _ e)
theorem minL_le : ∀ (l : List Int) (m : Int), minL m l ≤ m ∧ ∀ y ∈ l, minL m l ≤ y
  | [], m => ⟨Int.le_refl _, fun _ h => nomatch h⟩
  | x :: r, m => by
    have h := minL_le r (if x < m then x else m)
    unfold minL
    refine ⟨Int.le_trans h.1 ?_, fun y hy => ?_⟩
    · split <;> omega
    · rcases List.mem_cons.mp hy with e | e
      · subst e
        refine Int.le_trans h.1 ?_
        split <;> omega
      · exact h.2 y e
theorem minL_mem : ∀ (l : List Int) (m : Int), minL m l ∈ m :: l
  | [], m => by simp [minL]
  | x :: r, m => by
    unfold minL
    have h := minL_mem r (if x < m then x else m)
    rcases List.mem_cons.mp h with e | e
    · rw [e]
      split
      · exact List.mem_cons_of_mem _ List.mem_cons_self
      · exact List.mem_cons_self
    · exact List.mem_cons_of_mem _ (List.mem_cons_of_mem _ e)

/-! ### flat things -/
theorem flat_of {K : Fg} {G : Hp} {v : V} {d : D} (h : DR K G v d) (f : flatD d = true) : flatV v = true := by
  cases h <;> first | rfl | (simp [flatD] at f; done)
theorem flats_of {K : Fg} {G : Hp} : ∀ {v : List V} {d : List D}, DRs K G v d → d.all flatD = true → v.all flatV = true
  | _, _, .nil, _ => rfl
  | _, _, .cons h r, f => by
    simp only [List.all_cons, Bool.and_eq_true] at f ⊢
    exact ⟨flat_of h f.1, flats_of r f.2⟩
theorem eqv_of {K : Fg} {G : Hp} {v w : V} {d e : D} (h : DR K G v d) (h' : DR K G w e) (f : flatD d = true) (f' : flatD e = true) : eqV v w = PyData.eqv d e := by
  cases h <;> first | (simp [flatD] at f; done) | (cases h' <;> first | (simp [flatD] at f'; done) | simp [eqV, PyData.eqv])
theorem in_of {K : Fg} {G : Hp} {w : V} {e : D} (h' : DR K G w e) (f' : flatD e = true) : ∀ {v : List V} {d : List D}, DRs K G v d → d.all flatD = true → inV w v = inD e d
  | _, _, .nil, _ => rfl
  | _, _, .cons h r, f => by
    simp only [List.all_cons, Bool.and_eq_true] at f
    have ih := in_of h' f' r f.2
    unfold inV inD at ih ⊢
    rw [List.any_cons, List.any_cons, ih, eqv_of h h' f.1 f']

section
variable {X : Cx}
theorem bl_out {K : Fg} {G H : Hp} {b : Bool} {Q : VK} (sm : Same G H) (q : ∀ v G' H', Ext none G H G' H' → Same G' H' → Val K none H G' H' .dat v (.bool b) → Q v H') : Q (.bl b) H := q _ G H Ext.refl sm (.bl b)
theorem op_cmpD (op : CmpOp) (hu : X.A.units + 64 < cLine) : OpR X (compareOp op) (rV2 X.K (cmpD op) .dat) := by
  intro pins s σ H x y v u Q I rx ry h
  obtain ⟨G, a, b, d, sm, va, vb, e, q⟩ := h
  cases op with
  | Eq =>
    simp only [cmpD] at e
    split at e
    · rename_i hz
      cases e
      simp only [Bool.and_eq_true] at hz
      exact op_eqD hu pins s σ H x y v u Q I rx ry ⟨a, b, (va.at sm).dp (SeqAt.canLay_of_shaped hz.1), (vb.at sm).dp (SeqAt.canLay_of_shaped hz.2), hz.1, hz.2, bl_out sm q⟩
    · cases e
  | NotEq =>
    simp only [cmpD] at e
    split at e
    · rename_i hz
      cases e
      simp only [Bool.and_eq_true] at hz
      exact op_neD hu pins s σ H x y v u Q I rx ry ⟨a, b, (va.at sm).dp (SeqAt.canLay_of_shaped hz.1), (vb.at sm).dp (SeqAt.canLay_of_shaped hz.2), hz.1, hz.2, bl_out sm q⟩
    · cases e
  | Lt =>
    cases a with
    | int i =>
      cases b with
      | int j => cases e; exact op_lt pins s σ H x y v u Q I rx ry ⟨i, j, va.int, vb.int, bl_out sm q⟩
      | _ => cases e
    | str i =>
      cases b with
      | str j => cases e; exact op_lt_str pins s σ H x y v u Q I rx ry ⟨i, j, va.str, vb.str, bl_out sm q⟩
      | _ => cases e
    | _ => cases b <;> cases e
  | LtE =>
    cases a with
    | int i =>
      cases b with
      | int j => cases e; exact op_le pins s σ H x y v u Q I rx ry ⟨i, j, va.int, vb.int, bl_out sm q⟩
      | _ => cases e
    | str i =>
      cases b with
      | str j => cases e; exact op_le_str pins s σ H x y v u Q I rx ry ⟨i, j, va.str, vb.str, bl_out sm q⟩
      | _ => cases e
    | _ => cases b <;> cases e
  | Gt =>
    cases a with
    | int i =>
      cases b with
      | int j => cases e; exact op_gt pins s σ H x y v u Q I rx ry ⟨i, j, va.int, vb.int, bl_out sm q⟩
      | _ => cases e
    | str i =>
      cases b with
      | str j => cases e; exact op_gt_str pins s σ H x y v u Q I rx ry ⟨i, j, va.str, vb.str, bl_out sm q⟩
      | _ => cases e
    | _ => cases b <;> cases e
  | GtE =>
    cases a with
    | int i =>
      cases b with
      | int j => cases e; exact op_ge pins s σ H x y v u Q I rx ry ⟨i, j, va.int, vb.int, bl_out sm q⟩
      | _ => cases e
    | str i =>
      cases b with
      | str j => cases e; exact op_ge_str pins s σ H x y v u Q I rx ry ⟨i, j, va.str, vb.str, bl_out sm q⟩
      | _ => cases e
    | _ => cases b <;> cases e
  | Is =>
    cases b with
    | none =>
      cases e
      have hx : decide (x = V.non) = isNone a := by
        cases va.at sm <;> first | rfl | (exact decide_eq_false (fun z => nomatch z))
      exact op_isN pins s σ H x y v u Q I rx ry ⟨vb.non, by rw [hx]; exact bl_out sm q⟩
    | _ => cases a <;> cases e
  | IsNot =>
    cases b with
    | none =>
      cases e
      have hx : decide (x = V.non) = isNone a := by
        cases va.at sm <;> first | rfl | (exact decide_eq_false (fun z => nomatch z))
      exact op_notN pins s σ H x y v u Q I rx ry ⟨vb.non, by rw [hx]; exact bl_out sm q⟩
    | _ => cases a <;> cases e
  | In =>
    cases b with
    | list ys =>
      have e : inSeq false a ys = some d := by cases a <;> exact e
      unfold inSeq at e
      split at e
      · rename_i hz
        cases e
        simp only [Bool.and_eq_true] at hz
        obtain ⟨p, xs, rfl, r, ds⟩ := vb.lst sm
        have hd : DR X.K H x a := va.at sm
        exact op_in_seq pins s σ H x _ v u Q I rx ry ⟨p, xs, rfl, .inl r, flat_of hd hz.1, flats_of ds hz.2, by rw [in_of hd hz.1 (ds.same sm) hz.2]; exact bl_out sm q⟩
      · cases e
    | tuple ys =>
      have e : inSeq false a ys = some d := by cases a <;> exact e
      unfold inSeq at e
      split at e
      · rename_i hz
        cases e
        simp only [Bool.and_eq_true] at hz
        obtain ⟨p, xs, rfl, r, ds⟩ := vb.tup sm
        have hd : DR X.K H x a := va.at sm
        exact op_in_seq pins s σ H x _ v u Q I rx ry ⟨p, xs, rfl, .inr r, flat_of hd hz.1, flats_of ds hz.2, by rw [in_of hd hz.1 (ds.same sm) hz.2]; exact bl_out sm q⟩
      · cases e
    | str z =>
      cases a with
      | str w =>
        simp only [cmpD] at e
        split at e
        · rename_i c hc
          cases e
          have hw : w = ⟨#[c]⟩ := by
            unfold strOne at hc
            split at hc
            · rename_i c' hl
              cases hc
              exact cps_inj hl
            · cases hc
          exact op_in_sign pins s σ H x y v u Q I rx ry ⟨c, z, by rw [va.str, hw], vb.str, bl_out sm q⟩
        · cases e
      | _ => cases e
    | _ => cases a <;> cases e
  | NotIn =>
    cases b with
    | list ys =>
      have e : inSeq true a ys = some d := by cases a <;> exact e
      unfold inSeq at e
      split at e
      · rename_i hz
        cases e
        simp only [Bool.and_eq_true] at hz
        obtain ⟨p, xs, rfl, r, ds⟩ := vb.lst sm
        have hd : DR X.K H x a := va.at sm
        exact op_notIn_seq pins s σ H x _ v u Q I rx ry ⟨p, xs, rfl, .inl r, flat_of hd hz.1, flats_of ds hz.2, by rw [in_of hd hz.1 (ds.same sm) hz.2]; exact bl_out sm q⟩
      · cases e
    | tuple ys =>
      have e : inSeq true a ys = some d := by cases a <;> exact e
      unfold inSeq at e
      split at e
      · rename_i hz
        cases e
        simp only [Bool.and_eq_true] at hz
        obtain ⟨p, xs, rfl, r, ds⟩ := vb.tup sm
        have hd : DR X.K H x a := va.at sm
        exact op_notIn_seq pins s σ H x _ v u Q I rx ry ⟨p, xs, rfl, .inr r, flat_of hd hz.1, flats_of ds hz.2, by rw [in_of hd hz.1 (ds.same sm) hz.2]; exact bl_out sm q⟩
      · cases e
    | str z =>
      cases a with
      | str w =>
        simp only [cmpD] at e
        split at e
        · rename_i c hc
          cases e
          have hw : w = ⟨#[c]⟩ := by
            unfold strOne at hc
            split at hc
            · rename_i c' hl
              cases hc
              exact cps_inj hl
            · cases hc
          exact op_notIn_sign pins s σ H x y v u Q I rx ry ⟨c, z, by rw [va.str, hw], vb.str, bl_out sm q⟩
        · cases e
      | _ => cases e
    | _ => cases a <;> cases e

/-! ### truth -/
theorem tru_of {K : Fg} {G H : Hp} {v : V} {d : D} {k : Bool} (sm : Same G H) (h : View K none G H v d) (e : truD d = some k) : TruV K v H k := by
  cases d with
  | none => rw [h.non]; cases e; rfl
  | bool b => rw [h.bl]; cases e; rfl
  | int i => rw [h.int]; cases e; rfl
  | str z =>
    rw [h.str]
    simp only [truD] at e
    split at e
    · rename_i hz
      cases e
      exact ⟨lineOk_le hz, rfl⟩
    · cases e
  | list xs =>
    cases e
    obtain ⟨a, ys, rfl, r, ds⟩ := h.lst sm
    refine .inl ⟨ys, r, ?_⟩
    cases ds <;> rfl
  | tuple xs =>
    cases e
    obtain ⟨a, ys, rfl, r, ds⟩ := h.tup sm
    refine .inr (.inl ⟨ys, r, ?_⟩)
    cases ds <;> rfl
  | dict _ => cases e

/-! ### builtins -/
def biName : Bi → Str
  | .len => "len" | .list => "list" | .tuple => "tuple" | .int => "int" | .abs => "abs" | .sum => "sum" | .max => "max" | .min => "min" | .all => "all" | .any => "any" | .sorted => "sorted"
def biVal : Bi → Value
  | .len => .builtin "len" | .list => .type "list" | .tuple => .type "tuple" | .int => .type "int" | .abs => .builtin "abs" | .sum => .builtin "sum" | .max => .builtin "max" | .min => .builtin "min" | .all => .builtin "all" | .any => .builtin "any" | .sorted => .builtin "sorted"
theorem bi_boot (f : Bi) : bootBuiltins (biName f) = some (biVal f) := by cases f <;> decide +kernel
theorem sum_tup {prog : Program} {w : World} {A : Around} {E : Value → Shared → Prop} {s : Shared} {l : Addr} {its : List Value} {ns : List Int} {Q : Value → Shared → Prop} (hh : A.handled = none) (hl : s.heap.IsTuple l its.toArray) (hi : IntsAre its ns)
    (h : ∀ h' tk t', (∀ b o, s.heap.get? b = some o → h'.get? b = some o) → Q (.int ns.sum t') { s with heap := h', toks := tk }) : wpAny (model prog w) A (call (.builtin "sum") [.ref l]) Q E s := by
  obtain ⟨xs, e⟩ := hi.allInts.items
  have hn : numsOf (intItems xs).toList = ns := by rw [← e]; exact hi.numsOf
  rw [nums_intItems] at hn
  rw [e] at hl
  have hlt : l < s.heap.objs.size := by obtain ⟨o, ho, _⟩ := hl; exact Heap.lt_size ho
  refine call_sum_walkG (wpAny_pyIter_tuple hl ?_)
  refine ⟨_, _, _, _, _, _, numAt xs, rfl, Walks.tuple (A := A.in1) hh s.heap.objs.size l (Nat.ne_of_lt hlt) (intItems xs), ⟨⟨_, Heap.get?_push_size _ rfl, rfl, rfl⟩, hl.push _⟩, fun b hb => ?_, (fun _ _ => intItems_at), fun h' tk t' hk => ?_⟩
  · rw [Heap.size_push]
    rcases List.mem_cons.mp hb with e | e
    · subst e; exact Nat.lt_succ_self _
    · have e : b = l := by simpa using e
      subst e; exact Nat.lt_succ_of_lt hlt
  · have hs : (intItems xs).size = xs.size := by simp [intItems]
    rw [hs]
    have h2 := h h' tk t' fun b o q => hk b o (fun z => by
      have e : b = s.heap.objs.size := by simpa using z
      subst e
      exact absurd (Heap.lt_size q) (Nat.lt_irrefl _)) (Heap.get?_push_of_some _ q)
    rw [preSum_eq, List.take_of_length_le (by simp), hn]
    exact h2
theorem cr_sumT (hc : X.calm = true) : CallR X (.builtin "sum") (fun vs H Q => ∃ (a : Addr) (ns : List Int), vs = [V.ref a] ∧ SqT X.K H a (ns.map V.int) ∧ Q (.int ns.sum) H) := by
  intro pins s σ H vs us Q I r h
  obtain ⟨a, ns, rfl, hs, q⟩ := h
  obtain ⟨its, rv, hl, _⟩ := I.tuple hs
  rw [Vals.ref1 r]
  exact sum_tup (I.ok.hd hc) hl rv.ints fun h' tk t' hk => ⟨.int _, H, I.kept hk, ⟨_, rfl⟩, q⟩
end
end KN

set_option maxRecDepth 100000
set_option maxHeartbeats 1000000
namespace KN
open PySem L2 PyProof.Rows
section
variable {X : Cx}
theorem fresh_out {K : Fg} {G H : Hp} {xs : List V} {ds : List D} {Q : VK} (sm : Same G H) (q : ∀ v G' H', Ext none G H G' H' → Same G' H' → Val K none H G' H' .fresh v (.list ds) → Q v H') (h : DRs K G xs ds) : ∀ p, H p = none → Q (.ref p) (upd H p (.lst xs)) := fun p hp =>
  q _ G _ (Ext.fresh hp) (fun b u h => by rw [upd_ne (ne_of_none (sm _ _ h) hp)]; exact sm _ _ h) (Val.new (o := .tup []) sm hp h)
theorem tup_out {K : Fg} {G H : Hp} {xs : List V} {ds : List D} {k : Kd} {Q : VK} (sm : Same G H) (q : ∀ v G' H', Ext none G H G' H' → Same G' H' → Val K none H G' H' k v (.tuple ds) → Q v H') (h : DRs K G xs ds) (hk : k ≠ .peek := by decide) : ∀ p, H p = none → Q (.ref p) (upd H p (.tup xs)) := fun p hp => by
  have e := Ext.laid (ta := none) (o := HO.tup xs) sm hp
  refine q _ (upd G p (.tup xs)) _ e (same_laid sm hp) ?_
  have z : DR K (upd G p (.tup xs)) (.ref p) (.tuple ds) := .tup (.inl (.inl upd_same)) (h.same e.g)
  cases k with
  | dat => exact z
  | fresh => exact .inl ⟨z, fun _ z => nomatch z⟩
  | peek => exact absurd rfl hk
theorem cr_bi (f : Bi) (hc : X.calm = true) : CallR X (biVal f) (rVs X.K (biD f) .fresh) := by
  intro pins s σ H xs us Q I r h
  obtain ⟨G, as, d, sm, va, e, q⟩ := h
  cases va with
  | nil => cases f <;> cases e
  | cons v1 vr =>
    cases vr with
    | nil =>
      rename_i x a
      cases f with
      | len =>
        cases a with
        | list ys =>
          cases e
          obtain ⟨p, zs, rfl, rd, ds⟩ := v1.lst sm
          refine call_len_seq pins s σ H _ us Q I r ⟨p, zs, rfl, .inl rd, ?_⟩
          rw [ds.length]
          exact scal_out sm q (.int _) (fun _ z => nomatch z)
        | tuple ys =>
          cases e
          obtain ⟨p, zs, rfl, rd, ds⟩ := v1.tup sm
          refine call_len_seq pins s σ H _ us Q I r ⟨p, zs, rfl, .inr rd, ?_⟩
          rw [ds.length]
          exact scal_out sm q (.int _) (fun _ z => nomatch z)
        | str z =>
          simp only [biD] at e
          split at e
          · rename_i hz
            cases e
            exact call_len_str pins s σ H _ us Q I r ⟨z, by rw [v1.str], lineOk_le hz, scal_out sm q (.int _) (fun _ z => nomatch z)⟩
          · cases e
        | _ => cases e
      | list =>
        cases a with
        | list ys =>
          cases e
          obtain ⟨p, zs, rfl, rd, ds⟩ := v1.lst sm
          exact call_list_of pins s σ H _ us Q I r ⟨p, zs, rfl, .inl rd, fresh_out sm q ds⟩
        | tuple ys =>
          cases e
          obtain ⟨p, zs, rfl, rd, ds⟩ := v1.tup sm
          exact call_list_of pins s σ H _ us Q I r ⟨p, zs, rfl, .inr rd, fresh_out sm q ds⟩
        | _ => cases e
      | tuple =>
        cases a with
        | list ys =>
          cases e
          obtain ⟨p, zs, rfl, rd, ds⟩ := v1.lst sm
          exact call_tuple_of pins s σ H _ us Q I r ⟨p, zs, rfl, .inl ⟨rd, tup_out sm q ds⟩⟩
        | tuple ys =>
          cases e
          have w1 : DR X.K G x (.tuple ys) := v1.dr fun _ z => nomatch z
          obtain ⟨p, zs, rfl, rd, ds⟩ := v1.tup sm
          exact call_tuple_of pins s σ H _ us Q I r ⟨p, zs, rfl, .inr ⟨rd, scal_out sm q w1 (fun _ z => nomatch z)⟩⟩
        | _ => cases e
      | int =>
        cases a with
        | int i => cases e; exact call_int1 pins s σ H _ us Q I r (.inl ⟨i, by rw [v1.int], scal_out sm q (.int _) (fun _ z => nomatch z)⟩)
        | bool i => cases e; exact call_int1 pins s σ H _ us Q I r (.inr ⟨i, by rw [v1.bl], scal_out sm q (.int _) (fun _ z => nomatch z)⟩)
        | _ => cases e
      | abs =>
        cases a with
        | int i => cases e; exact call_abs pins s σ H _ us Q I r ⟨i, by rw [v1.int], scal_out sm q (.int _) (fun _ z => nomatch z)⟩
        | _ => cases e
      | sum =>
        cases a with
        | list ys =>
          simp only [biD] at e
          split at e
          · rename_i ns hn
            cases e
            obtain ⟨p, zs, rfl, rd, ds⟩ := v1.lst sm
            exact cr_sum hc pins s σ H _ us Q I r ⟨p, ns, rfl, (by rw [← ds.ints hn]; exact rd), scal_out sm q (.int _) (fun _ z => nomatch z)⟩
          · cases e
        | tuple ys =>
          simp only [biD] at e
          split at e
          · rename_i ns hn
            cases e
            obtain ⟨p, zs, rfl, rd, ds⟩ := v1.tup sm
            exact cr_sumT hc pins s σ H _ us Q I r ⟨p, ns, rfl, by rw [← ds.ints hn]; exact rd, scal_out sm q (.int _) (fun _ z => nomatch z)⟩
          · cases e
        | _ => cases e
      | max =>
        cases a with
        | list ys =>
          simp only [biD] at e
          split at e
          · rename_i n ns hn
            cases e
            obtain ⟨p, zs, rfl, rd, ds⟩ := v1.lst sm
            refine cr_max hc pins s σ H _ us Q I r ⟨p, n :: ns, rfl, (by rw [← ds.ints hn]; exact rd), by simp, fun m hm hle => ?_⟩
            have e1 : m = maxL n ns := by
              have h1 := hle _ (maxL_mem ns n)
              have h2 := maxL_le ns n
              rcases List.mem_cons.mp hm with z | z
              · have := h2.1; omega
              · have := h2.2 m z; omega
            rw [e1]
            exact scal_out sm q (.int _) (fun _ z => nomatch z)
          · cases e
        | _ => cases e
      | min =>
        cases a with
        | list ys =>
          simp only [biD] at e
          split at e
          · rename_i n ns hn
            cases e
            obtain ⟨p, zs, rfl, rd, ds⟩ := v1.lst sm
            refine cr_min hc pins s σ H _ us Q I r ⟨p, n :: ns, rfl, (by rw [← ds.ints hn]; exact rd), by simp, fun m hm hle => ?_⟩
            have e1 : m = minL n ns := by
              have h1 := hle _ (minL_mem ns n)
              have h2 := minL_le ns n
              rcases List.mem_cons.mp hm with z | z
              · have := h2.1; omega
              · have := h2.2 m z; omega
            rw [e1]
            exact scal_out sm q (.int _) (fun _ z => nomatch z)
          · cases e
        | _ => cases e
      | all =>
        cases a with
        | list ys =>
          simp only [biD] at e
          split at e
          · rename_i ns hn
            cases e
            obtain ⟨p, zs, rfl, rd, ds⟩ := v1.lst sm
            exact cr_all hc pins s σ H _ us Q I r ⟨p, ns, rfl, (by rw [← ds.bls hn]; exact rd), scal_out sm q (.bl _) (fun _ z => nomatch z)⟩
          · cases e
        | _ => cases e
      | any =>
        cases a with
        | list ys =>
          simp only [biD] at e
          split at e
          · rename_i ns hn
            cases e
            obtain ⟨p, zs, rfl, rd, ds⟩ := v1.lst sm
            exact cr_any hc pins s σ H _ us Q I r ⟨p, ns, rfl, (by rw [← ds.bls hn]; exact rd), scal_out sm q (.bl _) (fun _ z => nomatch z)⟩
          · cases e
        | _ => cases e
      | sorted =>
        cases a with
        | list ys =>
          simp only [biD] at e
          split at e
          · rename_i hz
            have hz : ys.length < 64 := of_decide_eq_true hz
            obtain ⟨p, zs, rfl, rd, ds⟩ := v1.lst sm
            split at e
            · rename_i ns hn
              cases e
              have e1 := ds.ints hn
              have hl : ns.length < 64 := by have := ds.length; rw [e1, List.length_map] at this; omega
              refine cr_sorted pins s σ H _ us Q I r ⟨p, ns, rfl, (by rw [← e1]; exact rd), hl, fun ns' l pm sr hl => ?_⟩
              rw [sortI_eq pm sr]
              exact fresh_out sm q (DRs.ofInts _) l hl
            · split at e
              · rename_i ns hn
                cases e
                have e1 := ds.strs hn
                have hl : ns.length < 64 := by have := ds.length; rw [e1, List.length_map] at this; omega
                refine cr_sortedS pins s σ H _ us Q I r ⟨p, ns, rfl, (by rw [← e1]; exact rd), hl, fun ns' l pm sr hl => ?_⟩
                rw [sortS_eq pm sr]
                exact fresh_out sm q (DRs.ofStrs _) l hl
              · cases e
          · cases e
        | _ => cases e
    | cons v2 vr2 =>
      rename_i x a x2 xs2 a2 as2
      cases vr2 with
      | nil =>
        cases f with
        | max =>
          cases a with
          | int i =>
            cases a2 with
            | int j => cases e; exact call_max2 hc pins s σ H _ us Q I r ⟨i, j, by rw [v1.int, v2.int], scal_out sm q (.int _) (fun _ z => nomatch z)⟩
            | _ => cases e
          | _ => cases e
        | min =>
          cases a with
          | int i =>
            cases a2 with
            | int j => cases e; exact call_min2 hc pins s σ H _ us Q I r ⟨i, j, by rw [v1.int, v2.int], scal_out sm q (.int _) (fun _ z => nomatch z)⟩
            | _ => cases e
          | _ => cases e
        | _ => cases a <;> cases e
      | cons _ _ => cases f <;> cases a <;> first | cases e | (cases a2 <;> cases e)

/-! ### isinstance -/
theorem ty_of {K : Fg} {H : Hp} {v : V} {d : D} (h : DR K H v d) : TyX K H v (.type (tyD d)) := by
  cases h with
  | non => exact .base .non
  | bl b => exact .base (.bl b)
  | int i => exact .base (.int i)
  | str x => exact .base (.str x)
  | lst r _ =>
    rcases r with (r | ⟨o, r⟩) | ⟨o, its, n, h1, h2, _⟩
    · exact .base (.lst r)
    · exact .base (.frz r)
    · exact .kList h1 h2
  | tup r _ =>
    rcases r with (r | ⟨o, r⟩) | ⟨o, its, n, h1, h2, _⟩
    · exact .base (.tup r)
    · exact .fTuple r
    · exact .kTuple h1 h2
  | dic r _ => exact .base (.dK r)
theorem kit_any {K : Fg} {t : String} : ∀ {ts : List String} {b : Bool}, kitAnyB t ts = some b → PySem.W.kitAny K (.type t) (ts.map Value.type) = some b
  | [], _, h => by cases h; exact kitAny_nil
  | c :: cs, b, h => by
    unfold kitAnyB at h
    split at h
    · rename_i e
      cases h
      exact kitAny_cons (kit_ty e) (fun z => nomatch z) fun _ => rfl
    · rename_i e
      exact kitAny_cons (kit_ty e) (fun _ => kit_any h) fun z => nomatch z
    · cases h
theorem clsV_all : ∀ ts : List String, Paired ClsV (ts.map V.ty) (ts.map Value.type)
  | [] => .nil
  | t :: r => .cons (.ty t) (clsV_all r)

/-! ### items, slices -/
theorem ix_D : IxR X (rV2 X.K getD .dat) := by
  intro ve se pins s σ H x y v u Q I rx ry h hs
  obtain ⟨G, a, b, d, sm, va, vb, e, q⟩ := h
  cases b with
  | int i =>
    cases a with
    | list xs =>
      obtain ⟨p, ys, rfl, rd, ds⟩ := va.lst sm
      obtain ⟨w, h1, h2⟩ := ds.atI e
      exact ix_list ve se pins s σ H _ y v u Q I rx ry ⟨p, ys, i, w, rfl, vb.int, rd, h1, q _ G H Ext.refl sm h2⟩ hs
    | tuple xs =>
      obtain ⟨p, ys, rfl, rd, ds⟩ := va.tup sm
      obtain ⟨w, h1, h2⟩ := ds.atI e
      exact ix_tup ve se pins s σ H _ y v u Q I rx ry ⟨p, ys, i, w, rfl, vb.int, rd, h1, q _ G H Ext.refl sm h2⟩ hs
    | str z =>
      simp only [getD] at e
      split at e
      · rename_i hz
        split at e
        · rename_i c hc
          cases e
          exact ix_str ve se pins s σ H x y v u Q I rx ry ⟨z, i, c, va.str, vb.int, lineOk_le hz, hc, q _ G H Ext.refl sm (.str _)⟩ hs
        · cases e
      · cases e
    | _ => cases e
  | _ => cases a <;> cases e
def rSlD (K : Fg) : V → Option Int → Option Int → Hp → VK → Prop := fun x lo hi H Q => rV1 K (fun a => sliceD a lo hi) .fresh x H Q
theorem sl_D : SlR X (rSlD X.K) := by
  intro pins s σ H x v vl vu lo hi sl Q I rx hs pl pu h
  obtain ⟨G, a, d, sm, va, e, q⟩ := h
  cases a with
  | list xs =>
    cases e
    obtain ⟨p, ys, rfl, rd, ds⟩ := va.lst sm
    exact sl_list pins s σ H _ v vl vu lo hi sl Q I rx hs pl pu ⟨p, ys, rfl, rd, fresh_out sm q (ds.cut lo hi)⟩
  | tuple xs =>
    cases e
    have w1 : DR X.K G x (.tuple xs) := va.dr fun _ z => nomatch z
    obtain ⟨p, ys, rfl, rd, ds⟩ := va.tup sm
    refine sl_tupA pins s σ H _ v vl vu lo hi sl Q I rx hs pl pu ⟨p, ys, rfl, rd, fun z => ?_, fun _ => tup_out sm q (ds.cut lo hi)⟩
    have e : cutL xs lo hi = xs := by
      unfold cutL
      rw [← ds.length, z.1, z.2, ds.length, List.drop_zero, Nat.sub_zero, List.take_length]
    rw [e] at q
    exact scal_out sm q w1 (fun _ z => nomatch z)
  | str z =>
    simp only [sliceD] at e
    split at e
    · rename_i hz
      cases e
      exact sl_str pins s σ H x v vl vu lo hi sl Q I rx hs pl pu ⟨z, va.str, lineOk_le hz, scal_out sm q (.str _) (fun _ z => nomatch z)⟩
    · cases e
  | _ => cases e
end
end KN

set_option maxRecDepth 100000
set_option maxHeartbeats 1000000
namespace PySem
/-- enumerate(v) of one argument, v a list, a tuple, a text -/
theorem meets_enum1 {v : Value} {o : Obj} {H : Heap → Prop} (B : Begins v o H) :
    Meets (Builtin.«enumerate.__new__» ⟨[.type "enumerate", v], []⟩) (fun _ R s => H s.heap ∧
      R (.ok (.ret (.ref (s.heap.push o).objs.size))) { s with heap := (s.heap.push o).push { cls := .type "enumerate", data := .fields #[.none, .bool false, .ref s.heap.objs.size, rawInt 0, .none, .none] } }) :=
  .of_wp fun prog w A R s h => by
    obtain ⟨hp, g, d, tk, os⟩ := s; obtain ⟨h1, h⟩ := h
    have hsub := sub_enumerate
    have q1 : ∀ {A' : Around} {E : Value → Shared → Prop} {Q : Value → Shared → Prop}, Q (.ref hp.objs.size) ⟨hp.push o, g, d, tk, os⟩ → wpAny (model prog w) A' (pyIter v) Q E ⟨hp, g, d, tk, os⟩ :=
      fun q => B.iter prog w _ _ ⟨hp, g, d, tk, os⟩ _ h1 q
    wp_walk using q1
    refine wpAny_stack_any fun st => wpAny_pure ?_
    split
    · rename_i c _ _ _ _ _
      cases (c == Value.type "enumerate")
      · wp_walk using q1
        exact ⟨_, rfl, h⟩
      · wp_walk using q1
        exact ⟨_, rfl, h⟩
    · wp_walk using q1
      exact ⟨_, rfl, h⟩
theorem enum1_begins {prog : Program} {w : World} {A : Around} {E : Value → Shared → Prop} {s : Shared} {v : Value} {o : Obj} {H : Heap → Prop} {Q : Value → Shared → Prop} (B : Begins v o H) (h1 : H s.heap)
    (h : ∀ h', IsEnum h' (s.heap.objs.size + 1) s.heap.objs.size 0 .none → h'.get? s.heap.objs.size = some o → h'.objs.size = s.heap.objs.size + 2 →
      (∀ b o, s.heap.get? b = some o → h'.get? b = some o) → Q (.ref (s.heap.objs.size + 1)) { s with heap := h' }) :
    wpAny (model prog w) A (call (.type "enumerate") [v]) Q E s := by
  refine callType_new F.called_enumerate (by decide) (F.typeCall_enumerate_1 _) (F.newCall_enumerate_1 _) (fun obj => F.args_object_init_2 obj _) F.entry_enumerate_new
    (meets_enum1 B) ⟨h1, ?_⟩
  have hz : (s.heap.push o).objs.size = s.heap.objs.size + 1 := Heap.size_push ..
  show _ ∧ _
  rw [hz]
  have he : IsEnum ((s.heap.push o).push { cls := .type "enumerate", data := .fields #[.none, .bool false, .ref s.heap.objs.size, rawInt 0, .none, .none] }) (s.heap.objs.size + 1) s.heap.objs.size 0 .none := by
    have := Heap.get?_push_size (s.heap.push o) (o := { cls := .type "enumerate", data := .fields #[.none, .bool false, .ref s.heap.objs.size, rawInt 0, .none, .none] }) rfl
    rw [hz] at this; exact this
  refine ⟨⟨_, he, rfl⟩, h _ he (Heap.get?_push_of_some _ (Heap.get?_push_size _ B.free)) (by rw [Heap.size_push, hz]) fun b o x => Heap.get?_push_of_some _ (Heap.get?_push_of_some _ x)⟩
end PySem
namespace KN
open PySem L2 PyProof.Rows

/-! ### enumerate over a tuple, a text -/
def IteT (K : Fg) (a : Addr) : It :=
  ⟨fun i H => ∃ (xs : List V) (x : V), SqT K H a xs ∧ xs[i]? = some x, fun i H v H' => ∃ T x, v = .ref T ∧ H T = none ∧ H' = upd H T (.tup [.int (i : Nat), x]) ∧ ∀ xs, SqT K H a xs → xs[i]? = some x, fun i H => ∃ xs : List V, SqT K H a xs ∧ xs.length = i⟩
theorem turn_enumT {P : Program} {w : World} {K : Fg} {elts : List Expr} {kk : Nat} {tpos : Pos} (a e it : Addr) :
    Turn P w K (.Tuple elts kk tpos) (IteT K a) [e, it] e (fun i h => (∃ old, IsEnum h e it ((i : Nat) : Int) old) ∧ h.IsTupleIter it a i ∧ e ≠ it ∧ a ≠ it ∧ a ≠ e) where
  mem := by simp
  obj := fun i h st b hb => by
    obtain ⟨⟨old, he⟩, ⟨o, ho, hc, hd⟩, _⟩ := st
    have e' : b = e ∨ b = it := by simpa using hb
    rcases e' with z | z
    · rw [z]; exact ⟨_, he, fun v q => nomatch q⟩
    · rw [z]; exact ⟨o, ho, fun v q => by rw [hd] at q; cases q⟩
  keep := fun i h h' st k => let ⟨⟨old, he⟩, hi, hne⟩ := st; ⟨⟨old, k e (by simp) _ he⟩, hi.at fun o q => k it (by simp) o q, hne⟩
  item := by
    intro X hP hw hK hc i pins s σ H E I hf st hg
    subst hP hw hK
    obtain ⟨⟨old, he⟩, hit, hne, hai, hae⟩ := st
    obtain ⟨xs, x, hq, hx⟩ := hg
    obtain ⟨its, rv, p, hz⟩ := I.tuple hq
    obtain ⟨u, hu, ru⟩ := rv.get hx
    have hel : e < s.heap.objs.size := Heap.lt_size he
    have hil : it < s.heap.objs.size := by obtain ⟨_, q, _⟩ := hit; exact Heap.lt_size q
    have hlt : i < its.toArray.size := by
      have := (List.getElem?_eq_some_iff.mp hu).1
      simpa using this
    refine wpAny_pyNext_enum_itemC (Draws.tuple (A := X.A.in1) (I.ok.hd hc) it a hai its.toArray) he ⟨hit, p⟩ hlt hne (by simp [hne, Ne.symm hae]) fun u' h' tk hu' ho hst' hT hsz hk => ?_
    have eu : u' = u := by
      have q : its.toArray[i]? = some u := by simpa using hu
      exact Option.some.inj (hu'.symm.trans q)
    subst eu
    refine ⟨_, rfl, wpAny_letOwnedTupleGo_enum (s := { s with heap := h', toks := tk + 1 }) ho fun h'' he' sb => ?_⟩
    have hT2 : h''.get? s.heap.objs.size = some { cls := .type "tuple", data := .seq #[.int i tk, u'] } := (sb.2 _ (Nat.ne_of_gt hel)).trans hT
    have new : ObjOk X.prog X.w (upd H s.heap.objs.size (.tup [.int (i : Nat), x])) h'' s.heap.objs.size (.tup [.int (i : Nat), x]) :=
      ⟨by show 2 ≤ sizeLine; decide, [.int i tk, u'], .cons ⟨_, rfl⟩ (.cons ru .nil), ⟨_, hT2, rfl, _, rfl⟩⟩
    have I1 : L2.Inv X pins σ (upd H s.heap.objs.size (.tup [.int (i : Nat), x])) { s with heap := h'', toks := tk + 1 } :=
      I.turnedNew (ch := [e, it]) (fun b ob hb q => (sb.2 b (fun z => hb (by simp [z]))).trans (hk b ob (fun z => hb (by simp [z])) (fun z => hb (by simp [z])) q)) hf (Nat.le_refl _) new
    refine ⟨.ref s.heap.objs.size, _, I1, rfl, ⟨_, x, rfl, I.hok.fresh (Nat.le_refl _), rfl, fun ys hy => by rw [I.tuple_inj hy hq]; exact hx⟩, ⟨⟨u', ?_⟩, hst'.1.at fun o q => (sb.2 it (Ne.symm hne)).trans q, hne, hai, hae⟩, fun b hb => ?_⟩
    · have e1 : ((i + 1 : Nat) : Int) = (i : Int) + 1 := by omega
      rw [e1]; exact he'
    · have hb' : b < s.heap.objs.size := by
        have e' : b = e ∨ b = it := by simpa using hb
        rcases e' with z | z
        · rw [z]; exact hel
        · rw [z]; exact hil
      rw [upd_ne (Nat.ne_of_lt hb')]
      exact (hf b hb).1
  done := by
    intro X hP hw hK hc i pins s σ H E I hf st hg
    subst hP hw hK
    obtain ⟨⟨old, he⟩, hit, hne, hai, hae⟩ := st
    obtain ⟨xs, hq, hx⟩ := hg
    obtain ⟨its, rv, p, hz⟩ := I.tuple hq
    obtain ⟨f0, f1, f2, f3, f4, f5⟩ := hf it (by simp)
    have hl := rv.length
    have hn : its.toArray.size = i := by simp; omega
    refine wpAny_pyNext_enum_endD (Draws.tuple (A := X.A.in1) (I.ok.hd hc) it a hai its.toArray) he (by rw [hn]; exact ⟨hit, p⟩) fun h' eb => ⟨rfl, I.turned (t' := s.toks) (fun b o hb q => eb b o hb q) f0 f1 f3 f4 f5⟩
  self := fun A i s Q E st h => let ⟨⟨_, he⟩, _⟩ := st; wpAny_pyIter_enum he h
def IteS (x : Str) : It :=
  ⟨fun i H => i < x.cps.size, fun i H v H' => ∃ T c, v = .ref T ∧ H T = none ∧ H' = upd H T (.tup [.int (i : Nat), .str ⟨#[c]⟩]) ∧ x.cps[i]? = some c, fun i H => i = x.cps.size⟩
theorem turn_enumS {P : Program} {w : World} {K : Fg} {elts : List Expr} {kk : Nat} {tpos : Pos} (x : Str) (t : Tok) (e it : Addr) :
    Turn P w K (.Tuple elts kk tpos) (IteS x) [e, it] e (fun i h => (∃ old, IsEnum h e it ((i : Nat) : Int) old) ∧ h.IsStrIter it (strIterType x) x t i ∧ e ≠ it) where
  mem := by simp
  obj := fun i h st b hb => by
    obtain ⟨⟨old, he⟩, ⟨o, ho, hc, hd⟩, _⟩ := st
    have e' : b = e ∨ b = it := by simpa using hb
    rcases e' with z | z
    · rw [z]; exact ⟨_, he, fun v q => nomatch q⟩
    · rw [z]; exact ⟨o, ho, fun v q => by rw [hd] at q; cases q⟩
  keep := fun i h h' st k => let ⟨⟨old, he⟩, hi, hne⟩ := st; ⟨⟨old, k e (by simp) _ he⟩, (by obtain ⟨o, ho, hr⟩ := hi; exact ⟨o, k it (by simp) o ho, hr⟩), hne⟩
  item := by
    intro X hP hw hK hc i pins s σ H E I hf st hg
    subst hP hw hK
    obtain ⟨⟨old, he⟩, hit, hne⟩ := st
    have hel : e < s.heap.objs.size := Heap.lt_size he
    have hil : it < s.heap.objs.size := by obtain ⟨_, q, _⟩ := hit; exact Heap.lt_size q
    refine wpAny_pyNext_enum_itemC (Draws.text (A := X.A.in1) (I.ok.hd hc) it x t) he hit hg hne (by simp [hne]) fun u' h' tk hu' ho hst' hT hsz hk => ?_
    obtain ⟨c, u, hc1, rfl⟩ := hu'
    refine ⟨_, rfl, wpAny_letOwnedTupleGo_enum (s := { s with heap := h', toks := tk + 1 }) ho fun h'' he' sb => ?_⟩
    have hT2 : h''.get? s.heap.objs.size = some { cls := .type "tuple", data := .seq #[.int i tk, .str ⟨#[c]⟩ u] } := (sb.2 _ (Nat.ne_of_gt hel)).trans hT
    have new : ObjOk X.prog X.w (upd H s.heap.objs.size (.tup [.int (i : Nat), .str ⟨#[c]⟩])) h'' s.heap.objs.size (.tup [.int (i : Nat), .str ⟨#[c]⟩]) :=
      ⟨by show 2 ≤ sizeLine; decide, [.int i tk, .str ⟨#[c]⟩ u], .cons ⟨_, rfl⟩ (.cons ⟨_, rfl⟩ .nil), ⟨_, hT2, rfl, _, rfl⟩⟩
    have I1 : L2.Inv X pins σ (upd H s.heap.objs.size (.tup [.int (i : Nat), .str ⟨#[c]⟩])) { s with heap := h'', toks := tk + 1 } :=
      I.turnedNew (ch := [e, it]) (fun b ob hb q => (sb.2 b (fun z => hb (by simp [z]))).trans (hk b ob (fun z => hb (by simp [z])) (fun z => hb (by simp [z])) q)) hf (Nat.le_refl _) new
    refine ⟨.ref s.heap.objs.size, _, I1, rfl, ⟨_, c, rfl, I.hok.fresh (Nat.le_refl _), rfl, hc1⟩, ⟨⟨.str ⟨#[c]⟩ u, ?_⟩, (by obtain ⟨o, ho, hr⟩ := hst'; exact ⟨o, (sb.2 it (Ne.symm hne)).trans ho, hr⟩), hne⟩, fun b hb => ?_⟩
    · have e1 : ((i + 1 : Nat) : Int) = (i : Int) + 1 := by omega
      rw [e1]; exact he'
    · have hb' : b < s.heap.objs.size := by
        have e' : b = e ∨ b = it := by simpa using hb
        rcases e' with z | z
        · rw [z]; exact hel
        · rw [z]; exact hil
      rw [upd_ne (Nat.ne_of_lt hb')]
      exact (hf b hb).1
  done := by
    intro X hP hw hK hc i pins s σ H E I hf st hg
    subst hP hw hK
    obtain ⟨⟨old, he⟩, hit, hne⟩ := st
    obtain ⟨f0, f1, f2, f3, f4, f5⟩ := hf it (by simp)
    have hg : i = x.cps.size := hg
    subst hg
    exact wpAny_pyNext_enum_endD (Draws.text (A := X.A.in1) (I.ok.hd hc) it x t) he hit fun h' eb => ⟨rfl, I.turned (t' := s.toks) (fun b o hb q => eb b o hb q) f0 f1 f3 f4 f5⟩
  self := fun A i s Q E st h => let ⟨⟨_, he⟩, _⟩ := st; wpAny_pyIter_enum he h

/-! ### what is walked, by its items -/
structure Wk (K : Fg) (G Gv : Hp) (J : It) (ds : List D) : Prop where
  go : ∀ i H, Same Gv H → i < ds.length → J.go i H
  stop : ∀ H, Same Gv H → J.stop ds.length H
  yld : ∀ i H x H' d, Same Gv H → ds[i]? = some d → J.yld i H x H' → (H' = H ∧ DR K G x d) ∨
    ∃ T a b va vb, x = .ref T ∧ H T = none ∧ H' = upd H T (.tup [va, vb]) ∧ d = .tuple [a, b] ∧ DR K G va a ∧ DR K G vb b
def iD (K : Fg) (ik : IK) (t : TA) : TI := fun σ H R => t σ H fun vs H1 => ∃ G Gv ds items, Same G Gv ∧ Same Gv H1 ∧ Views K none G Gv vs ds ∧ walkD ik ds = some items ∧ ∀ J, Wk K G Gv J items → R J H1
def iDe (K : Fg) (te : TE) : TI := fun σ H R => te σ H fun v H1 => ∃ G Gv d items, Same G Gv ∧ Same Gv H1 ∧ View K none G Gv v d ∧ itemsD d = some items ∧ ∀ J, Wk K G Gv J items → R J H1

theorem rangeD_get : ∀ (n : Nat) (lo : Int) (i : Nat), (rangeD lo n)[i]? = if i < n then some (.int (lo + i)) else none
  | 0, lo, i => by simp [rangeD]
  | n + 1, lo, 0 => by simp [rangeD]
  | n + 1, lo, i + 1 => by
    unfold rangeD
    rw [List.getElem?_cons_succ, rangeD_get n (lo + 1) i]
    by_cases h : i < n
    · rw [if_pos h, if_pos (by omega)]
      have e : lo + 1 + (i : Int) = lo + ((i + 1 : Nat) : Int) := by omega
      rw [e]
    · rw [if_neg h, if_neg (by omega)]
theorem rangeD_len : ∀ (n : Nat) (lo : Int), (rangeD lo n).length = n
  | 0, _ => rfl
  | n + 1, lo => by unfold rangeD; rw [List.length_cons, rangeD_len]
theorem wk_range {K : Fg} {G Gv : Hp} (lo : Int) (n : Nat) : Wk K G Gv (Itr lo n) (rangeD lo n) where
  go := fun i H _ h => by rw [rangeD_len] at h; exact h
  stop := fun H _ => by rw [rangeD_len]; exact Nat.le_refl _
  yld := fun i H x H' d _ e y => by
    obtain ⟨rfl, rfl⟩ := y
    rw [rangeD_get] at e
    split at e
    · cases e; exact .inl ⟨rfl, .int _⟩
    · cases e
/-- the list at a, of the items ds -/
theorem wk_list {K : Fg} {G Gv : Hp} {a : Addr} {xs : List V} {ds : List D} (h : SqL K Gv a xs) (r : DRs K G xs ds) : Wk K G Gv (Itl K a) ds where
  go := fun i H s hi => by
    obtain ⟨u, hu, _⟩ := r.get (List.getElem?_eq_getElem hi)
    exact ⟨xs, u, s.seq h, hu⟩
  stop := fun H s => ⟨xs, s.seq h, by rw [r.length]; exact Nat.le_refl _⟩
  yld := fun i H x H' d s e y => by
    obtain ⟨rfl, y⟩ := y
    obtain ⟨u, hu, hd⟩ := r.get e
    have := y xs (s.seq h)
    rw [hu] at this
    cases this
    exact .inl ⟨rfl, hd⟩
theorem wk_tup {K : Fg} {G Gv : Hp} {a : Addr} {xs : List V} {ds : List D} (h : SqT K Gv a xs) (r : DRs K G xs ds) : Wk K G Gv (Itt K a) ds where
  go := fun i H s hi => by
    obtain ⟨u, hu, _⟩ := r.get (List.getElem?_eq_getElem hi)
    exact ⟨xs, u, SqT.same s h, hu⟩
  stop := fun H s => ⟨xs, SqT.same s h, by rw [r.length]; exact Nat.le_refl _⟩
  yld := fun i H x H' d s e y => by
    obtain ⟨rfl, y⟩ := y
    obtain ⟨u, hu, hd⟩ := r.get e
    have := y xs (SqT.same s h)
    rw [hu] at this
    cases this
    exact .inl ⟨rfl, hd⟩
theorem wk_str {K : Fg} {G Gv : Hp} (z : Str) : Wk K G Gv (Its z) (z.cps.toList.map fun c => .str ⟨#[c]⟩) where
  go := fun i H s hi => by show i < z.cps.size; simpa using hi
  stop := fun H s => by show z.cps.size ≤ _; simp
  yld := fun i H x H' d s e y => by
    obtain ⟨rfl, c, hc, rfl⟩ := y
    rw [List.getElem?_map, Array.getElem?_toList, hc] at e
    cases e
    exact .inl ⟨rfl, .str _⟩
theorem enumFrom_get : ∀ (ds : List D) (n i : Nat), (enumFrom n ds)[i]? = (ds[i]?).map fun d => .tuple [.int ((n + i : Nat) : Int), d]
  | [], n, i => by simp [enumFrom]
  | d :: r, n, 0 => by simp [enumFrom]
  | d :: r, n, i + 1 => by
    unfold enumFrom
    rw [List.getElem?_cons_succ, List.getElem?_cons_succ, enumFrom_get r (n + 1) i]
    have e : n + 1 + i = n + (i + 1) := by omega
    rw [e]
theorem enumFrom_len : ∀ (ds : List D) (n : Nat), (enumFrom n ds).length = ds.length
  | [], _ => rfl
  | d :: r, n => by unfold enumFrom; rw [List.length_cons, List.length_cons, enumFrom_len]
theorem enum_at {ds : List D} {i : Nat} {d : D} (e : (enumFrom 0 ds)[i]? = some d) : ∃ x, ds[i]? = some x ∧ d = .tuple [.int (i : Nat), x] := by
  rw [enumFrom_get] at e
  cases q : ds[i]? with
  | none => rw [q] at e; cases e
  | some x =>
    rw [q] at e
    simp only [Option.map_some, Nat.zero_add, Option.some.injEq] at e
    exact ⟨x, rfl, e.symm⟩
theorem wk_enumL {K : Fg} {G Gv : Hp} {a : Addr} {xs : List V} {ds : List D} (h : SqL K Gv a xs) (r : DRs K G xs ds) : Wk K G Gv (Ite K a) (enumFrom 0 ds) where
  go := fun i H s hi => by
    rw [enumFrom_len] at hi
    obtain ⟨u, hu, _⟩ := r.get (List.getElem?_eq_getElem hi)
    exact ⟨xs, u, s.seq h, hu⟩
  stop := fun H s => ⟨xs, s.seq h, by rw [enumFrom_len, r.length]; exact Nat.le_refl _⟩
  yld := fun i H x H' d s e y => by
    obtain ⟨T, z, rfl, hT, rfl, y⟩ := y
    obtain ⟨d', e', rfl⟩ := enum_at e
    obtain ⟨u, hu, hd⟩ := r.get e'
    have := y xs (s.seq h)
    rw [hu] at this
    cases this
    exact .inr ⟨T, _, _, _, _, rfl, hT, rfl, rfl, .int _, hd⟩
theorem wk_enumT {K : Fg} {G Gv : Hp} {a : Addr} {xs : List V} {ds : List D} (h : SqT K Gv a xs) (r : DRs K G xs ds) : Wk K G Gv (IteT K a) (enumFrom 0 ds) where
  go := fun i H s hi => by
    rw [enumFrom_len] at hi
    obtain ⟨u, hu, _⟩ := r.get (List.getElem?_eq_getElem hi)
    exact ⟨xs, u, SqT.same s h, hu⟩
  stop := fun H s => ⟨xs, SqT.same s h, by rw [enumFrom_len, r.length]⟩
  yld := fun i H x H' d s e y => by
    obtain ⟨T, z, rfl, hT, rfl, y⟩ := y
    obtain ⟨d', e', rfl⟩ := enum_at e
    obtain ⟨u, hu, hd⟩ := r.get e'
    have := y xs (SqT.same s h)
    rw [hu] at this
    cases this
    exact .inr ⟨T, _, _, _, _, rfl, hT, rfl, rfl, .int _, hd⟩
theorem wk_enumS {K : Fg} {G Gv : Hp} (z : Str) : Wk K G Gv (IteS z) (enumFrom 0 (z.cps.toList.map fun c => .str ⟨#[c]⟩)) where
  go := fun i H s hi => by show i < z.cps.size; rw [enumFrom_len] at hi; simpa using hi
  stop := fun H s => by show _ = z.cps.size; rw [enumFrom_len]; simp
  yld := fun i H x H' d s e y => by
    obtain ⟨T, c, rfl, hT, rfl, hc⟩ := y
    obtain ⟨d', e', rfl⟩ := enum_at e
    rw [List.getElem?_map, Array.getElem?_toList, hc] at e'
    cases e'
    exact .inr ⟨T, _, _, _, _, rfl, hT, rfl, rfl, .int _, .str _⟩
end KN

set_option maxRecDepth 100000
set_option maxHeartbeats 1000000
namespace KN
open PySem L2 PyProof.Rows
section
variable {X : Cx} {tg : Expr}
theorem pi_ex {e : Expr} {te : TE} (he : PE X e te) : PI X tg e (iDe X.K te) := by
  refine ⟨fun pins s σ H R I h => ?_⟩
  refine thn (he.run pins s σ H _ I h) fun v s1 ⟨x, H1, I1, r1, G, Gv, d, items, sm, sv, vw, ei, q⟩ => ?_
  cases d with
  | list ds =>
    cases ei
    obtain ⟨a, xs, rfl, rd, dr⟩ := vw.lst sm
    cases r1
    obtain ⟨its, rv, p, hz⟩ := I1.list (sv.seq rd)
    refine wpAny_pyIter_list p.isList ?_
    refine ⟨s1.heap.objs.size, [s1.heap.objs.size], _, _, H1, rfl, I1.kept (t' := s1.toks) fun b o e => Heap.get?_push_of_some _ e, turn_list a _, ⟨_, Heap.get?_push_size _ rfl, rfl, rfl⟩, fun b hb => ?_, q _ (wk_list rd dr)⟩
    have e : b = s1.heap.objs.size := by simpa using hb
    subst e
    exact I1.fpOk (Nat.le_refl _) (I1.hok.fresh (Nat.le_refl _))
  | tuple ds =>
    cases ei
    obtain ⟨a, xs, rfl, rd, dr⟩ := vw.tup sm
    cases r1
    obtain ⟨its, rv, p, hz⟩ := I1.tuple (SqT.same sv rd)
    refine wpAny_pyIter_tuple (show s1.heap.IsTuple a its.toArray from p) ?_
    refine ⟨s1.heap.objs.size, [s1.heap.objs.size], _, _, H1, rfl, I1.kept (t' := s1.toks) fun b o e => Heap.get?_push_of_some _ e, turn_tuple a _, ⟨_, Heap.get?_push_size _ rfl, rfl, rfl⟩, fun b hb => ?_, q _ (wk_tup rd dr)⟩
    have e : b = s1.heap.objs.size := by simpa using hb
    subst e
    exact I1.fpOk (Nat.le_refl _) (I1.hok.fresh (Nat.le_refl _))
  | str z =>
    cases ei
    rw [vw.str] at r1
    obtain ⟨t, rfl⟩ := r1
    have q := q _ (wk_str z)
    cases ha : z.cps.all (· < 128)
    · exact wpAny_pyIter_wide ha (pi_one (tk := s1.toks) I1 _ (turn_str _ z t "str_iterator" (.inr rfl)) ⟨_, Heap.get?_push_size _ rfl, rfl, rfl⟩ q)
    · exact wpAny_pyIter_ascii ha (pi_one (tk := s1.toks) I1 _ (turn_str _ z t "str_ascii_iterator" (.inl rfl)) ⟨_, Heap.get?_push_size _ rfl, rfl, rfl⟩ q)
  | _ => cases ei
theorem pi_enumD {e : Expr} {ta : TA} {p pos tpos : Pos} {elts : List Expr} {kk : Nat} (hg : Gl X "enumerate") (hm : X.mg "enumerate" = none) (ha : PA X [e] ta) (hs : starEach [e] X.env = [(false, eval e X.env)]) :
    PI X (.Tuple elts kk tpos) (.Call (.Name "enumerate" p) [e] [] pos) (iD X.K .enum ta) := by
  refine ⟨fun pins s σ H R I h => ?_⟩
  refine Call_ (ld_blt I hg hm boot_enumerate (PyProof.Rows.callWith_type1 (thn (ha.run pos pins s σ H _ I h) fun us s1 ⟨vs, H1, I1, r1, G, Gv, ds, items, sm, sv, vw, ei, q⟩ => ?_) hs rfl))
  cases vw with
  | nil => cases ei
  | cons v1 vr =>
    cases vr with
    | cons _ _ => cases ei
    | nil =>
      rename_i x d
      simp only [walkD] at ei
      split at ei
      · rename_i its0 hi
        cases ei
        cases r1 with
        | cons r rr =>
          cases rr
          have fp2 : ∀ b, b ∈ [s1.heap.objs.size + 1, s1.heap.objs.size] → FpOk X pins H1 b := fun b hb => by
            have e' : b = s1.heap.objs.size + 1 ∨ b = s1.heap.objs.size := by simpa using hb
            have hle : s1.heap.objs.size ≤ b := by
              rcases e' with z | z
              · rw [z]; exact Nat.le_add_right _ _
              · rw [z]; exact Nat.le_refl _
            exact I1.fpOk hle (I1.hok.fresh hle)
          cases d with
          | list ds =>
            cases hi
            obtain ⟨a, xs, rfl, rd, dr⟩ := v1.lst sm
            cases r
            obtain ⟨its, rv, p', hz⟩ := I1.list (sv.seq rd)
            refine call_enumerate_list p'.isList fun h' he hit hsz hk => wpAny_pyIter_enum he ?_
            have I2 : L2.Inv X pins σ H1 { s1 with heap := h' } := I1.kept (t' := s1.toks) hk
            exact ⟨s1.heap.objs.size + 1, [s1.heap.objs.size + 1, s1.heap.objs.size], _, _, H1, rfl, I2, turn_enum a (s1.heap.objs.size + 1) s1.heap.objs.size, ⟨⟨.none, he⟩, hit, Nat.succ_ne_self _⟩, fp2, q _ (wk_enumL rd dr)⟩
          | tuple ds =>
            cases hi
            obtain ⟨a, xs, rfl, rd, dr⟩ := v1.tup sm
            cases r
            obtain ⟨its, rv, p', hz⟩ := I1.tuple (SqT.same sv rd)
            have hlt : a < s1.heap.objs.size := by obtain ⟨o, ho, _⟩ := id p'; exact Heap.lt_size ho
            refine enum1_begins (begins_tuple a its.toArray) (show s1.heap.IsTuple a its.toArray from p') fun h' he ho hsz hk => wpAny_pyIter_enum he ?_
            have I2 : L2.Inv X pins σ H1 { s1 with heap := h' } := I1.kept (t' := s1.toks) hk
            exact ⟨s1.heap.objs.size + 1, [s1.heap.objs.size + 1, s1.heap.objs.size], _, _, H1, rfl, I2, turn_enumT a (s1.heap.objs.size + 1) s1.heap.objs.size, ⟨⟨.none, he⟩, ⟨_, ho, rfl, rfl⟩, Nat.succ_ne_self _, Nat.ne_of_lt hlt, Nat.ne_of_lt (Nat.lt_succ_of_lt hlt)⟩, fp2, q _ (wk_enumT rd dr)⟩
          | str z =>
            cases hi
            rw [v1.str] at r
            obtain ⟨t, rfl⟩ := r
            refine enum1_begins (begins_text z t) trivial fun h' he ho hsz hk => wpAny_pyIter_enum he ?_
            have I2 : L2.Inv X pins σ H1 { s1 with heap := h' } := I1.kept (t' := s1.toks) hk
            exact ⟨s1.heap.objs.size + 1, [s1.heap.objs.size + 1, s1.heap.objs.size], _, _, H1, rfl, I2, turn_enumS z t (s1.heap.objs.size + 1) s1.heap.objs.size, ⟨⟨.none, he⟩, ⟨_, ho, rfl, rfl⟩, Nat.succ_ne_self _⟩, fp2, q _ (wk_enumS z)⟩
          | _ => cases hi
      · cases ei
end

/-! ### zip -/
theorem zipD_get : ∀ (xs ys : List D) (i : Nat) (d : D), (zipD xs ys)[i]? = some d → ∃ a b, xs[i]? = some a ∧ ys[i]? = some b ∧ d = .tuple [a, b]
  | [], ys, i, d, e => by simp [zipD] at e
  | a :: r, [], i, d, e => by simp [zipD] at e
  | a :: r, b :: q, 0, d, e => by
    simp only [zipD, List.getElem?_cons_zero, Option.some.injEq] at e
    exact ⟨a, b, rfl, rfl, e.symm⟩
  | a :: r, b :: q, i + 1, d, e => by
    simp only [zipD, List.getElem?_cons_succ] at e
    simpa using zipD_get r q i d e
theorem zipD_len : ∀ (xs ys : List D), (zipD xs ys).length = min xs.length ys.length
  | [], ys => by simp [zipD]
  | a :: r, [] => by simp [zipD]
  | a :: r, b :: q => by
    simp only [zipD, List.length_cons, zipD_len r q]
    omega
theorem wk_zipL {K : Fg} {G Gv : Hp} {a b : Addr} {xs ys : List V} {ds es : List D} (h : SqL K Gv a xs) (r : DRs K G xs ds) (h' : SqL K Gv b ys) (r' : DRs K G ys es) : Wk K G Gv (Itz K a b) (zipD ds es) where
  go := fun i H s hi => by
    rw [zipD_len] at hi
    obtain ⟨u, hu, _⟩ := r.get (List.getElem?_eq_getElem (show i < ds.length by omega))
    obtain ⟨w, hw, _⟩ := r'.get (List.getElem?_eq_getElem (show i < es.length by omega))
    exact ⟨xs, ys, u, w, s.seq h, s.seq h', hu, hw⟩
  stop := fun H s => ⟨xs, ys, s.seq h, s.seq h', by rw [zipD_len, r.length, r'.length]; omega⟩
  yld := fun i H x H' d s e y => by
    obtain ⟨T, u, w, rfl, hT, rfl, y1, y2⟩ := y
    obtain ⟨d1, d2, e1, e2, rfl⟩ := zipD_get _ _ _ _ e
    obtain ⟨u', hu, hd⟩ := r.get e1
    obtain ⟨w', hw, hd'⟩ := r'.get e2
    have q1 := y1 xs (s.seq h)
    have q2 := y2 ys (s.seq h')
    rw [hu] at q1
    rw [hw] at q2
    cases q1
    cases q2
    exact .inr ⟨T, _, _, _, _, rfl, hT, rfl, rfl, hd, hd'⟩
theorem wk_zipT {K : Fg} {G Gv : Hp} {a b : Addr} {xs ys : List V} {ds es : List D} (h : SqT K Gv a xs) (r : DRs K G xs ds) (h' : SqT K Gv b ys) (r' : DRs K G ys es) : Wk K G Gv (RZ.ItzT K a b) (zipD ds es) where
  go := fun i H s hi => by
    rw [zipD_len] at hi
    obtain ⟨u, hu, _⟩ := r.get (List.getElem?_eq_getElem (show i < ds.length by omega))
    obtain ⟨w, hw, _⟩ := r'.get (List.getElem?_eq_getElem (show i < es.length by omega))
    exact ⟨xs, ys, u, w, SqT.same s h, SqT.same s h', hu, hw⟩
  stop := fun H s => ⟨xs, ys, SqT.same s h, SqT.same s h', by rw [zipD_len, r.length, r'.length]; omega⟩
  yld := fun i H x H' d s e y => by
    obtain ⟨T, u, w, rfl, hT, rfl, y1, y2⟩ := y
    obtain ⟨d1, d2, e1, e2, rfl⟩ := zipD_get _ _ _ _ e
    obtain ⟨u', hu, hd⟩ := r.get e1
    obtain ⟨w', hw, hd'⟩ := r'.get e2
    have q1 := y1 xs (SqT.same s h)
    have q2 := y2 ys (SqT.same s h')
    rw [hu] at q1
    rw [hw] at q2
    cases q1
    cases q2
    exact .inr ⟨T, _, _, _, _, rfl, hT, rfl, rfl, hd, hd'⟩

/-! ### the readings of texts -/
section
variable (K : Fg) (ta : Option Addr) (C : Nat → List D → M D)
def tE (k : Kd) (t : E) : TE := fun σ H Q => ∃ G ρ τ d τ', Rel K ta G σ H ρ τ ∧ evE C t ρ τ = some (d, τ') ∧
  ∀ v G' H', Ext ta G H G' H' → Rel K ta G' σ H' ρ τ' → Val K ta H G' H' k v d → Q v H'
def tT (t : E) : TT := fun σ H Q => ∃ G ρ τ b τ', Rel K ta G σ H ρ τ ∧ ((evE C t ρ).bnd fun x => M.of (truD x)) τ = some (b, τ') ∧
  ∀ G' H', Ext ta G H G' H' → Rel K ta G' σ H' ρ τ' → Q b H'
def tV (ts : List E) : TA := fun σ H Q => ∃ G ρ τ ds τ', Rel K ta G σ H ρ τ ∧ evEs C ts ρ τ = some (ds, τ') ∧
  ∀ vs G' H', Ext ta G H G' H' → Rel K ta G' σ H' ρ τ' → Views K ta G' H' vs ds → Q vs H'
end
theorem PE.mono {X : Cx} {e : Expr} {t t' : TE} (h : PE X e t) (i : ∀ σ H Q, t' σ H Q → t σ H Q) : PE X e t' := ⟨fun pins s σ H Q I q => h.run pins s σ H Q I (i σ H Q q)⟩
theorem PT.mono {X : Cx} {e : Expr} {t t' : TT} (h : PT X e t) (i : ∀ σ H Q, t' σ H Q → t σ H Q) : PT X e t' := ⟨fun pins s σ H Q I q => h.run pins s σ H Q I (i σ H Q q)⟩
theorem PW.mono {X : Cx} {e : Expr} {t t' : TT} (h : PW X e t) (i : ∀ σ H Q, t' σ H Q → t σ H Q) : PW X e t' := ⟨fun wh pins s σ H Q I q => h.run wh pins s σ H Q I (i σ H Q q)⟩
theorem PA.mono {X : Cx} {es : List Expr} {t t' : TA} (h : PA X es t) (i : ∀ σ H Q, t' σ H Q → t σ H Q) : PA X es t' := ⟨fun p pins s σ H Q I q => h.run p pins s σ H Q I (i σ H Q q)⟩
theorem PS.mono {X : Cx} {st : Stmt} {t t' : TS} (h : PS X st t) (i : ∀ D σ H, t' D σ H → t D σ H) : PS X st t' := ⟨fun pins s σ H D I q => h.run pins s σ H D I (i D σ H q)⟩
theorem PSs.mono {X : Cx} {st : List Stmt} {t t' : TS} (h : PSs X st t) (i : ∀ D σ H, t' D σ H → t D σ H) : PSs X st t' := ⟨fun pins s σ H D I q => h.run pins s σ H D I (i D σ H q)⟩
theorem PI.mono {X : Cx} {tg it : Expr} {t t' : TI} (h : PI X tg it t) (i : ∀ σ H R, t' σ H R → t σ H R) : PI X tg it t' := ⟨fun pins s σ H R I q => h.run pins s σ H R I (i σ H R q)⟩
section
variable {K : Fg} {ta : Option Addr} {C : Nat → List D → M D} {t : E}
/-- a list just made is laid to the frozen part -/
theorem Fresh.freeze {H₀ G G' H' : Hp} {σ : L2.St} {ρ : En} {τ : List D} {v : V} {d : D} (f : Fresh K ta H₀ G' H' v d) (x : Ext ta G H₀ G' H') (r : Rel K ta G' σ H' ρ τ) (r0 : ∀ (i : Nat) ds, ρ[i]? = some (some (.own ds)) → ∀ a, σ[i]? = some (some (.ref a)) → H₀ a ≠ none) :
    ∃ G'', Ext ta G H₀ G'' H' ∧ Rel K ta G'' σ H' ρ τ ∧ DR K G'' v d := by
  obtain ⟨a, vs, ds, rfl, rfl, h0, h1, h2, h3, h4⟩ := f
  have sm : Same G' (upd G' a (.lst vs)) := fun b o h => by rw [upd_ne (ne_of_none h h2)]; exact h
  refine ⟨upd G' a (.lst vs), ⟨x.g.trans sm, fun b o h => ?_, x.keep, x.there⟩, ⟨fun b o h => ?_, fun b e => ?_, fun i d e => ?_, fun i ds' e => ?_, r.apart, r.tn, r.len⟩, .lst (.inl (.inl upd_same)) (h4.same sm)⟩
  · by_cases e : b = a
    · subst e; exact .inr h0
    · rw [upd_ne e] at h; exact x.new b o h
  · by_cases e : b = a
    · subst e; rw [upd_same] at h; cases h; exact h3
    · rw [upd_ne e] at h; exact r.sub b o h
  · obtain ⟨n, ws, q1, q2⟩ := r.tin b e
    have : b ≠ a := fun z => h1 (by rw [e, z])
    exact ⟨by rw [upd_ne this]; exact n, ws, q1, q2.same sm⟩
  · obtain ⟨w, q1, q2⟩ := r.dat i d e
    exact ⟨w, q1, q2.same sm⟩
  · obtain ⟨b, ws, q1, q2, q3, q4, q5⟩ := r.own i ds' e
    have : b ≠ a := fun z => by
      subst z
      exact r0 i ds' e b q1 h0
    exact ⟨b, ws, q1, q2, by rw [upd_ne this]; exact q3, q4, q5.same sm⟩
theorem Rel.ownThere {G : Hp} {σ : L2.St} {H : Hp} {ρ : En} {τ : List D} (r : Rel K ta G σ H ρ τ) : ∀ (i : Nat) ds, ρ[i]? = some (some (.own ds)) → ∀ a, σ[i]? = some (some (.ref a)) → H a ≠ none := fun i ds e a q => by
  obtain ⟨b, ws, q1, q2, q3, q4, q5⟩ := r.own i ds e
  rw [q] at q1
  cases q1
  rw [q4]
  exact fun z => nomatch z
theorem tE_dat {k : Kd} (hk : k ≠ .peek) : ∀ σ H Q, tE K ta C .dat t σ H Q → tE K ta C k t σ H Q := by
  intro σ H Q h
  obtain ⟨G, ρ, τ, d, τ', r, e, q⟩ := h
  refine ⟨G, ρ, τ, d, τ', r, e, fun v G' H' x r' vl => ?_⟩
  cases k with
  | dat => exact q v G' H' x r' vl
  | peek => exact absurd rfl hk
  | fresh =>
    rcases vl with ⟨h, _⟩ | h
    · exact q v G' H' x r' h
    · obtain ⟨G'', x', r'', dr⟩ := h.freeze x r' r.ownThere
      exact q v G'' H' x' r'' dr
end
end KN

set_option maxRecDepth 100000
set_option maxHeartbeats 1000000
namespace KN
open PySem L2 PyProof.Rows

/-! ### a text is the row's -/
structure Kw where
  f : Nat
  np : Nat
  ks : List Str
  perm : List Nat
  deriving DecidableEq
structure Cn where
  N : List Str
  sc : Scope
  blk : Option Scope
  T : List Fn
  gl : List (Str × Str)
  kw : List Kw
def kdOf : E → Kd
  | .peek _ => .peek
  | .bin _ _ _ => .fresh
  | .bi _ _ => .fresh
  | .slice _ _ _ => .fresh
  | .rev _ => .fresh
  | .lst _ => .fresh
  | .comp _ _ _ _ _ => .fresh
  | .callN _ _ => .fresh
  | .or a b => if kdOf a = .fresh ∧ kdOf b = .fresh then .fresh else .dat
  | _ => .dat
def plain (t : E) : Bool := match kdOf t with
  | .peek => false
  | _ => true
def visB (sc : Scope) (x : Str) : Bool := match sc.names.lookup x with
  | some .local => true
  | some .cell => true
  | some .free => true
  | _ => false
def nameOk (Γ : Cn) (i : Nat) (x : Str) : Bool := decide (Γ.N[i]? = some x) && visB Γ.sc x && !(x == ("__debug__" : Str)) && !(x == ("__classdict__" : Str))
def glOk (Γ : Cn) (x : Str) : Bool := (match Γ.sc.names.lookup x with
  | some .globalImplicit => true
  | _ => false) && !(x == ("__debug__" : Str)) && decide (x ≠ "__name__")
def stOk (Γ : Cn) (x : Str) : Bool := match Γ.sc.names.lookup x with
  | some .local => true
  | some .cell => (match Γ.blk with
    | none => true
    | some s => s.names.lookup x == some .cell)
  | _ => false
/-- a target -/
def mNames (Γ : Cn) : List Nat → List Expr → Bool
  | [], [] => true
  | i :: is, .Name x _ :: es => decide (Γ.N[i]? = some x) && stOk Γ x && mNames Γ is es
  | _, _ => false
def mTg (Γ : Cn) : Tg → Expr → Bool
  | .nm i, .Name x _ => decide (Γ.N[i]? = some x) && stOk Γ x
  | .tup is, .Tuple es _ _ => mNames Γ is es
  | _, _ => false
def isTupE : Expr → Bool
  | .Tuple _ _ _ => true
  | _ => false
def notStar : Expr → Bool
  | .Starred _ _ => false
  | _ => true
def notSet : Expr → Bool
  | .Set _ _ _ => false
  | _ => true
def notSlice : Expr → Bool
  | .Slice _ _ _ _ => false
  | _ => true
def fnIs (Γ : Cn) (f : Nat) (x : Str) (tin fresh : Bool) : Bool := match Γ.T[f]? with
  | some F => decide (F.name = x) && (F.tin == tin) && (F.fresh == fresh)
  | none => false
def biL : List Str := ["len", "list", "tuple", "int", "abs", "sum", "max", "min", "all", "any", "sorted", "isinstance", "range", "enumerate", "zip", "bool", "str", "dict"]
def tysOk (Γ : Cn) : List String → List Expr → Bool
  | [], [] => true
  | t :: ts, .Name x _ :: es => decide (x = Str.ofString t) && glOk Γ x && decide (x ∈ biL) && (bootBuiltins x == some (.type t)) && tysOk Γ ts es
  | _, _ => false
def blkOf (Γ : Cn) (tg : Tg) : List (Str × Nat) := tg.slots.map fun i => (Γ.N.getD i "", i)
def Cn.inner (Γ : Cn) (scope : Scope) : Cn := { Γ with sc := relS scope Γ.sc, blk := some scope }
def kwNames : List Keyword → List Str
  | [] => []
  | ⟨some x, _, _⟩ :: r => x :: kwNames r
  | ⟨none, _, _⟩ :: r => kwNames r
def kwAll : List Keyword → Bool
  | [] => true
  | ⟨some _, _, _⟩ :: r => kwAll r
  | ⟨none, _, _⟩ :: _ => false
def kwVals : List Keyword → List Expr
  | [] => []
  | ⟨_, e, _⟩ :: r => e :: kwVals r

mutual
def mE : E → Cn → Expr → Bool
  | .var i, Γ, e => (match e with
    | .Name x _ => nameOk Γ i x
    | _ => false)
  | .peek i, Γ, e => (match e with
    | .Name x _ => nameOk Γ i x
    | _ => false)
  | .non, Γ, e => (match e with
    | .Constant .none _ _ => true
    | _ => false)
  | .bl b, Γ, e => (match e with
    | .Constant (.bool c) _ _ => b == c
    | _ => false)
  | .int i, Γ, e => (match e with
    | .Constant (.int j) _ _ => i == j
    | _ => false)
  | .str x, Γ, e => (match e with
    | .Constant (.str y) _ _ => decide (x = y)
    | _ => false)
  | .glob x z, Γ, e => (match e with
    | .Name y _ => decide (x = y) && glOk Γ x && decide ((x, z) ∈ Γ.gl)
    | _ => false)
  | .bin op a b, Γ, e => (match e with
    | .BinOp l op' r _ => decide (op = op') && mE a Γ l && mE b Γ r
    | _ => false)
  | .cmp op a b, Γ, e => (match e with
    | .Compare l [op'] [r] _ => decide (op = op') && mE a Γ l && mE b Γ r && !behindInMarks op r
    | _ => false)
  | .chain o1 o2 a b c, Γ, e => (match e with
    | .Compare l [p1, p2] [m, r] _ => decide (o1 = p1) && decide (o2 = p2) && mE a Γ l && mE b Γ m && mE c Γ r && !lastMarks [p1, p2] [m, r]
    | _ => false)
  | .neg a, Γ, e => (match e with
    | .UnaryOp .USub x _ => mE a Γ x
    | _ => false)
  | .not a, Γ, e => (match e with
    | .UnaryOp .Not x _ => mE a Γ x
    | _ => false)
  | .and a b, Γ, e => plain a && plain b && (match e with
    | .BoolOp .And (x :: y :: r) pos => mE a Γ x && (match r with
      | [] => mE b Γ y
      | _ :: _ => mE b Γ (.BoolOp .And (y :: r) pos))
    | _ => false)
  | .or a b, Γ, e => plain a && plain b && (match e with
    | .BoolOp .Or (x :: y :: r) pos => mE a Γ x && (match r with
      | [] => mE b Γ y
      | _ :: _ => mE b Γ (.BoolOp .Or (y :: r) pos))
    | _ => false)
  | .ite c a b, Γ, e => plain a && plain b && (match e with
    | .IfExp x y z _ => mE c Γ x && mE a Γ y && mE b Γ z
    | _ => false)
  | .bi f es, Γ, e => (match e with
    | .Call (.Name x _) (y :: r) [] _ => decide (x = biName f) && glOk Γ x && mEs es Γ (y :: r)
    | _ => false)
  | .isi a ts tup, Γ, e => (match e with
    | .Call (.Name x _) [y, c] [] _ => decide (x = "isinstance") && glOk Γ x && notStar y && mE a Γ y && (match tup, c with
      | true, .Tuple cs _ _ => tysOk Γ ts cs && decide (cs.length ≤ 8)
      | false, c => tysOk Γ ts [c]
      | _, _ => false)
    | _ => false)
  | .get a b, Γ, e => (match e with
    | .Subscript x y _ => mE a Γ x && mE b Γ y && notSlice y
    | _ => false)
  | .tget i b, Γ, e => (match e with
    | .Subscript (.Name x _) y _ => nameOk Γ i x && mE b Γ y && notSlice y
    | _ => false)
  | .slice a lo hi, Γ, e => (match e with
    | .Subscript x (.Slice l h none _) _ => mE a Γ x && (match l with
      | none => lo.gone
      | some l => !lo.gone && mE lo Γ l) && (match h with
      | none => hi.gone
      | some h => !hi.gone && mE hi Γ h)
    | _ => false)
  | .rev a, Γ, e => (match e with
    | .Subscript x (.Slice none none (some (.UnaryOp .USub (.Constant (.int 1) _ _) _)) _) _ => mE a Γ x
    | _ => false)
  | .lst es, Γ, e => (match e with
    | .List xs _ => mIs es Γ xs
    | _ => false)
  | .tup es, Γ, e => (match e with
    | .Tuple xs _ _ => mIs es Γ xs
    | _ => false)
  | .star _, _, _ => false
  | .call f es, Γ, e => (match e with
    | .Call (.Name x _) args [] _ => fnIs Γ f x false false && glOk Γ x && mDs es Γ args
    | _ => false)
  | .callN f es, Γ, e => (match e with
    | .Call (.Name x _) args [] _ => fnIs Γ f x false true && glOk Γ x && mDs es Γ args
    | _ => false)
  | .callK f perm es ks, Γ, e => (match e with
    | .Call (.Name x _) args kws _ => fnIs Γ f x false false && glOk Γ x && kwAll kws && mDs es Γ args && mDs ks Γ (kwVals kws) && decide ((⟨f, es.length, kwNames kws, perm⟩ : Kw) ∈ Γ.kw)
    | _ => false)
  | .callT f i es, Γ, e => (match e with
    | .Call (.Name x _) (.Name y _ :: args) [] _ => fnIs Γ f x true false && glOk Γ x && nameOk Γ i y && mDs es Γ args
    | _ => false)
  | .callR f a es, Γ, e => (match e with
    | .Call (.Name x _) (y :: args) [] _ => fnIs Γ f x true false && glOk Γ x && notStar y && decide (kdOf a = .fresh) && mE a Γ y && mDs es Γ args
    | _ => false)
  | .comp elt tg ik src cond, Γ, e => (match e with
    | .ListComp el [⟨t, it, ifs, 0⟩] scope _ => plain elt && blkC Γ.N Γ.sc scope (blkOf Γ tg) && mTg (Γ.inner scope) tg t && notSet it && decide (tg.slots.all (fun i => decide (i < Γ.N.length)) = true) &&
      mE elt (Γ.inner scope) el && (match ifs with
      | [] => cond.gone
      | [c] => !cond.gone && mE cond (Γ.inner scope) c
      | _ => false) && (match ik with
      | .ex => mEs src Γ [it]
      | .range => (match it with
        | .Call (.Name x _) args [] _ => decide (x = "range") && glOk Γ x && mEs src Γ args && decide (args.length = 1 ∨ args.length = 2)
        | _ => false)
      | .enum => isTupE t && (match it with
        | .Call (.Name x _) args [] _ => decide (x = "enumerate") && glOk Γ x && mEs src Γ args && decide (args.length = 1)
        | _ => false)
      | .zip => isTupE t && (match it with
        | .Call (.Name x _) args [] _ => decide (x = "zip") && glOk Γ x && mEs src Γ args && decide (args.length = 2)
        | _ => false))
    | _ => false)
  | .absent, _, _ => false
/-- arguments that are read -/
def mEs : List E → Cn → List Expr → Bool
  | [], _, xs => xs.isEmpty
  | t :: r, Γ, xs => (match xs with
    | x :: q => notStar x && mE t Γ x && mEs r Γ q
    | [] => false)
/-- arguments that are kept -/
def mDs : List E → Cn → List Expr → Bool
  | [], _, xs => xs.isEmpty
  | t :: r, Γ, xs => (match xs with
    | x :: q => notStar x && plain t && mE t Γ x && mDs r Γ q
    | [] => false)
/-- the members of a display -/
def mIs : List E → Cn → List Expr → Bool
  | [], _, xs => xs.isEmpty
  | .star t :: r, Γ, xs => (match xs with
    | .Starred x _ :: q => mE t Γ x && mIs r Γ q
    | _ => false)
  | t :: r, Γ, xs => (match xs with
    | x :: q => notStar x && plain t && mE t Γ x && mIs r Γ q
    | [] => false)
end

/-! ### promises -/
def TinOk (K : Fg) (ta : Option Addr) (G H : Hp) (τ : List D) : Prop := ∀ a, ta = some a → G a = none ∧ ∃ vs, H a = some (.lst vs) ∧ DRs K G vs τ
def spF (K : Fg) (C : Nat → List D → M D) (i : Nat) (tin fr : Bool) : Sp := fun vs H Q _ =>
  ∃ G ta ws ds τ d τ', Same G H ∧ TinOk K ta G H τ ∧ (match tin with
    | true => ∃ a, ta = some a ∧ vs = .ref a :: ws
    | false => ta = none ∧ vs = ws) ∧ DRs K G ws ds ∧ C i ds τ = some (d, τ') ∧
   ∀ v G' H', Ext ta G H G' H' → Same G' H' → TinOk K ta G' H' τ' → Val K ta H G' H' (if fr then .fresh else .dat) v d → Q v H'
instance : Inhabited V := ⟨.non⟩
def gP {α : Type} [Inhabited α] (p : Kw) (us ws : List α) : List α := if us.length = p.np ∧ ws.length = p.ks.length then permL p.perm (us ++ ws) else []
structure XOk (Γ : Cn) (n : Nat) (X : Cx) : Prop where
  N : X.N = Γ.N
  nd : X.N.Nodup
  sc : X.env.scope = Γ.sc
  fn : X.fn = (match Γ.blk with
    | none => fun _ => true
    | some s => fun x => s.names.lookup x == some .cell)
  calm : X.calm = true
  room : Room n X.A
  bi : ∀ x ∈ biL, X.mg x = none
  gl : ∀ p ∈ Γ.gl, ∃ t, X.mg p.1 = some (.str p.2 t)
  fns : ∀ (i : Nat) (F : Fn), Γ.T[i]? = some F → ∃ f fd, X.mg F.name = some (.ref f) ∧ PySem.W.keepIn X.K (.ref f) = true ∧ Binds X.K fd F.ps [] ∧
    FnOk X.prog X.w X.K X.mg X.base CX0 n f fd F.ps (spF X.K (callF Γ.T n) i F.tin F.fresh) ∧ ∀ p ∈ Γ.kw, p.f = i → KBinds X.K fd F.ps p.ks (gP p) (gP p)
end KN

set_option maxRecDepth 100000
set_option maxHeartbeats 1000000
namespace KN
open PySem L2 PyProof.Rows

/-! ### steps of the evaluator, taken apart -/
theorem bnd_some {α β : Type} {x : M α} {f : α → M β} {τ : List D} {r : β × List D} (h : x.bnd f τ = some r) : ∃ a τ1, x τ = some (a, τ1) ∧ f a τ1 = some r := by
  unfold M.bnd at h
  cases e : x τ with
  | none => rw [e] at h; cases h
  | some p =>
    obtain ⟨a, τ1⟩ := p
    rw [e] at h
    exact ⟨a, τ1, rfl, h⟩
theorem of_some {α : Type} {o : Option α} {τ τ' : List D} {a : α} (h : M.of o τ = some (a, τ')) : o = some a ∧ τ' = τ := by
  unfold M.of at h
  cases o with
  | none => cases h
  | some b => cases h; exact ⟨rfl, rfl⟩
theorem ret_some {α : Type} {a b : α} {τ τ' : List D} (h : M.ret a τ = some (b, τ')) : (b, τ') = (a, τ) := by
  cases h; rfl

section
variable {K : Fg} {ta : Option Addr} {C : Nat → List D → M D} {G G1 G2 G3 H H1 H2 H3 H' : Hp} {σ : L2.St} {ρ : En} {τ τ' : List D} {v : V} {d : D} {k : Kd} {Q : VK}
theorem Ext.weak (x : Ext none G H G1 H1) : Ext ta G H G1 H1 := ⟨x.g, x.new, fun b o _ h => x.keep b o (by simp) h, x.there⟩
theorem Ext.none_of (x : Ext ta G H G1 H1) {b : Addr} (h : H1 b = none) : H b = none := by
  cases q : H b with
  | none => rfl
  | some o =>
    obtain ⟨o', e⟩ := x.there b o q
    rw [h] at e; cases e
theorem Rel.step (R : Rel K ta G σ H ρ τ) (x : Ext none G H G1 H1) (s : Same G1 H1) : Rel K ta G1 σ H1 ρ τ :=
  R.ext' x.weak s fun a e => by
    obtain ⟨_, vs, h, _⟩ := R.tin a e
    rw [h, x.keep a _ (by simp) h]
theorem View.weak (h : View K ta G H v d) : View K none G H v d := by
  rcases h with h | ⟨a, vs, ds, h1, h2, h3, h4, h5⟩
  · exact .inl h
  · exact .inr ⟨a, vs, ds, h1, h2, by simp, h4, h5⟩
theorem Views.weak : ∀ {vs : List V} {ds : List D}, Views K ta G H vs ds → Views K none G H vs ds
  | _, _, .nil => .nil
  | _, _, .cons h r => .cons h.weak (Views.weak r)
theorem Val.back (R : Rel K ta G2 σ H2 ρ τ) (x : Ext ta G H G2 H2) (h : Val K none H2 G3 H3 k v d) (hk : k ≠ .peek := by decide) : Val K ta H G3 H3 k v d := by
  cases k with
  | dat => exact h
  | peek => exact absurd rfl hk
  | fresh =>
    rcases h with h | ⟨a, vs, ds, h1, h2, h3, _, h4, h5, h6⟩
    · exact .inl h
    · refine .inr ⟨a, vs, ds, h1, h2, x.none_of h3, fun e => ?_, h4, h5, h6⟩
      obtain ⟨_, ws, q, _⟩ := R.tin a e
      rw [h3] at q; cases q
/-- the end of an operation on values -/
theorem op_end (R : Rel K ta G2 σ H2 ρ τ) (x : Ext ta G H G2 H2) (q : ∀ v G' H', Ext ta G H G' H' → Rel K ta G' σ H' ρ τ → Val K ta H G' H' k v d → Q v H') (hk : k ≠ .peek := by decide) :
    ∀ v G' H', Ext none G2 H2 G' H' → Same G' H' → Val K none H2 G' H' k v d → Q v H' :=
  fun v G' H' x' s' h => q v G' H' (x.trans x'.weak) (R.step x' s') (h.back R x hk)
theorem Val.dr_of (h : DR K G v d) (n : ∀ ds, d ≠ .list ds) (hk : k ≠ .peek := by decide) : Val K ta H₀ G H k v d := by
  cases k with
  | dat => exact h
  | fresh => exact .inl ⟨h, n⟩
  | peek => exact absurd rfl hk

variable {X : Cx} {a b c : E} {l r m : Expr} {pos : Pos}
theorem rd_bin {op : Operator} {ka kb : Kd} (ha : PE X l (tE X.K ta C ka a)) (hb : PE X r (tE X.K ta C kb b)) : PE X (.BinOp l op r pos) (tE X.K ta C .fresh (.bin op a b)) :=
  PE.mono (pe_op (op_binD op) ha hb) fun σ H Q h => by
    obtain ⟨G, ρ, τ, d, τ', R, e, q⟩ := h
    obtain ⟨x, τ1, e1, e_1⟩ := bnd_some (x := evE C a ρ) e
    obtain ⟨y, τ2, e2, e_2⟩ := bnd_some (x := evE C b ρ) e_1
    obtain ⟨e3, rfl⟩ := of_some e_2
    refine ⟨G, ρ, τ, x, τ1, R, e1, fun v1 G1 H1 x1 R1 w1 => ⟨G1, ρ, τ1, y, _, R1, e2, fun v2 G2 H2 x2 R2 w2 => ?_⟩⟩
    exact ⟨G2, x, y, d, R2.sub, ((w1.view).ext x2).weak, w2.view.weak, e3, op_end R2 (x1.trans x2) q⟩
theorem rd_cmp {op : CmpOp} {ka kb : Kd} (hu : X.A.units + 64 < cLine) (ha : PE X l (tE X.K ta C ka a)) (hb : PE X r (tE X.K ta C kb b)) (hm : behindInMarks op r = false) : PE X (.Compare l [op] [r] pos) (tE X.K ta C .dat (.cmp op a b)) :=
  PE.mono (pe_cmpR (op_cmpD op hu) ha hb hm) fun σ H Q h => by
    obtain ⟨G, ρ, τ, d, τ', R, e, q⟩ := h
    obtain ⟨x, τ1, e1, e_1⟩ := bnd_some (x := evE C a ρ) e
    obtain ⟨y, τ2, e2, e_2⟩ := bnd_some (x := evE C b ρ) e_1
    obtain ⟨e3, rfl⟩ := of_some e_2
    refine ⟨G, ρ, τ, x, τ1, R, e1, fun v1 G1 H1 x1 R1 w1 => ⟨G1, ρ, τ1, y, _, R1, e2, fun v2 G2 H2 x2 R2 w2 => ?_⟩⟩
    exact ⟨G2, x, y, d, R2.sub, ((w1.view).ext x2).weak, w2.view.weak, e3, op_end R2 (x1.trans x2) q⟩
theorem cmp_bool {op : CmpOp} {x y d : D} (h : cmpD op x y = some d) : ∃ k, d = .bool k := by
  cases op <;> simp only [cmpD, inSeq] at h <;> repeat' split at h
  all_goals first | (cases h; exact ⟨_, rfl⟩) | cases h
theorem rt_cmp {op : CmpOp} {ka kb : Kd} (hu : X.A.units + 64 < cLine) (ha : PE X l (tE X.K ta C ka a)) (hb : PE X r (tE X.K ta C kb b)) (hm : behindInMarks op r = false) : PT X (.Compare l [op] [r] pos) (tT X.K ta C (.cmp op a b)) :=
  PT.mono (pt_cmpR (op_cmpD op hu) ha hb hm) fun σ H Q h => by
    obtain ⟨G, ρ, τ, d, τ', R, e, q⟩ := h
    obtain ⟨z, τ3, e, et⟩ := bnd_some (x := evE C (.cmp op a b) ρ) e
    obtain ⟨x, τ1, e1, e_1⟩ := bnd_some (x := evE C a ρ) e
    obtain ⟨y, τ2, e2, e_2⟩ := bnd_some (x := evE C b ρ) e_1
    obtain ⟨e3, rfl⟩ := of_some e_2
    obtain ⟨et_3, rfl⟩ := of_some et
    refine ⟨G, ρ, τ, x, τ1, R, e1, fun v1 G1 H1 x1 R1 w1 => ⟨G1, ρ, τ1, y, _, R1, e2, fun v2 G2 H2 x2 R2 w2 => ?_⟩⟩
    obtain ⟨k, rfl⟩ := cmp_bool e3
    refine ⟨G2, x, y, _, R2.sub, ((w1.view).ext x2).weak, w2.view.weak, e3, fun v G' H' x' s' w' => ?_⟩
    cases et_3
    cases w'
    exact ⟨_, rfl, q G' H' ((x1.trans x2).trans x'.weak) (R2.step x' s')⟩
theorem rd_chain {o1 o2 : CmpOp} {ka kb kc : Kd} (hu : X.A.units + 64 < cLine) (ha : PE X l (tE X.K ta C ka a)) (hb : PE X m (tE X.K ta C kb b)) (hc : PE X r (tE X.K ta C kc c)) (hm : lastMarks [o1, o2] [m, r] = false) :
    PE X (.Compare l [o1, o2] [m, r] pos) (tE X.K ta C .dat (.chain o1 o2 a b c)) :=
  PE.mono (pe_chain (op_cmpD o1 hu) (op_cmpD o2 hu) ha hb hc hm) fun σ H Q h => by
    obtain ⟨G, ρ, τ, d, τ', R, e, q⟩ := h
    obtain ⟨x, τ1, e1, e_1⟩ := bnd_some (x := evE C a ρ) e
    obtain ⟨y, τ2, e2, e_2⟩ := bnd_some (x := evE C b ρ) e_1
    obtain ⟨z, τ3, e3, e_3⟩ := bnd_some e_2
    obtain ⟨e3_4, rfl⟩ := of_some e3
    refine ⟨G, ρ, τ, x, τ1, R, e1, fun v1 G1 H1 x1 R1 w1 => ⟨G1, ρ, τ1, y, _, R1, e2, fun v2 G2 H2 x2 R2 w2 => ?_⟩⟩
    obtain ⟨k, rfl⟩ := cmp_bool e3_4
    refine ⟨G2, x, y, _, R2.sub, ((w1.view).ext x2).weak, w2.view.weak, e3_4, fun v G' H' x' s' w' => ?_⟩
    cases w'
    have R3 := R2.step x' s'
    cases k with
    | true =>
      obtain ⟨u, τ4, e4, e_5⟩ := bnd_some (x := evE C c ρ) e_3
      obtain ⟨e5, rfl⟩ := of_some e_5
      refine ⟨true, rfl, iteT ⟨G', ρ, _, u, _, R3, e4, fun v3 G3 H3 x3 R4 w3 => ?_⟩⟩
      exact ⟨G3, y, u, d, R4.sub, ((w2.view.ext x'.weak).ext x3).weak, w3.view.weak, e5, op_end R4 (((x1.trans x2).trans x'.weak).trans x3) q⟩
    | false =>
      cases ret_some e_3
      exact ⟨false, rfl, iteF (q _ G' H' ((x1.trans x2).trans x'.weak) R3 (.bl false))⟩
theorem rd_neg {ka : Kd} (ha : PE X l (tE X.K ta C ka a)) : PE X (.UnaryOp .USub l pos) (tE X.K ta C .dat (.neg a)) :=
  PE.mono (pe_un un_neg ha) fun σ H Q h => by
    obtain ⟨G, ρ, τ, d, τ', R, e, q⟩ := h
    obtain ⟨x, τ1, e1, e_1⟩ := bnd_some (x := evE C a ρ) e
    refine ⟨G, ρ, τ, x, τ1, R, e1, fun v1 G1 H1 x1 R1 w1 => ?_⟩
    cases x with
    | int i =>
      cases ret_some e_1
      exact ⟨i, w1.view.int, q _ G1 H1 x1 R1 (.int _)⟩
    | _ => cases e_1
theorem rd_not {ka : Kd} (ha : PE X l (tE X.K ta C ka a)) : PE X (.UnaryOp .Not l pos) (tE X.K ta C .dat (.not a)) :=
  PE.mono (pe_notT ha) fun σ H Q h => by
    obtain ⟨G, ρ, τ, d, τ', R, e, q⟩ := h
    obtain ⟨x, τ1, e1, e_1⟩ := bnd_some (x := evE C a ρ) e
    obtain ⟨k, τ2, e2, e_2⟩ := bnd_some e_1
    obtain ⟨e2_3, rfl⟩ := of_some e2
    cases ret_some e_2
    refine ⟨G, ρ, τ, x, _, R, e1, fun v1 G1 H1 x1 R1 w1 => ?_⟩
    exact ⟨k, tru_of R1.sub w1.view.weak e2_3, q _ G1 H1 x1 R1 (.bl _)⟩
/-- a test by its value's truth -/
theorem rt_plain {ka : Kd} (ha : PE X l (tE X.K ta C ka a)) (he : ∀ whole, isTrue l X.env whole = (do let v ← whole; standAt l.pos; holding [v] (truthy v))) : PT X l (tT X.K ta C a) :=
  PT.mono (pt_truth ha he) fun σ H Q h => by
    obtain ⟨G, ρ, τ, d, τ', R, e, q⟩ := h
    obtain ⟨x, τ1, e1, e_1⟩ := bnd_some (x := evE C a ρ) e
    obtain ⟨e2, rfl⟩ := of_some e_1
    refine ⟨G, ρ, τ, x, _, R, e1, fun v1 G1 H1 x1 R1 w1 => ?_⟩
    exact ⟨_, tru_of R1.sub w1.view.weak e2, q G1 H1 x1 R1⟩
theorem rt_not (ha : PT X l (tT X.K ta C a)) : PT X (.UnaryOp .Not l pos) (tT X.K ta C (.not a)) :=
  PT.mono (pt_not ha) fun σ H Q h => by
    obtain ⟨G, ρ, τ, d, τ', R, e, q⟩ := h
    obtain ⟨z, τ3, e, et⟩ := bnd_some (x := evE C (.not a) ρ) e
    obtain ⟨x, τ1, e1, e_1⟩ := bnd_some (x := evE C a ρ) e
    obtain ⟨k, τ2, e2, e_2⟩ := bnd_some e_1
    obtain ⟨e2_3, rfl⟩ := of_some e2
    cases ret_some e_2
    obtain ⟨et_4, rfl⟩ := of_some et
    cases et_4
    refine ⟨G, ρ, τ, k, _, R, ?_, fun G1 H1 x1 R1 => q G1 H1 x1 R1⟩
    unfold M.bnd
    rw [e1]
    show (M.of (truD x)) _ = _
    rw [e2_3]
    rfl
theorem tru_bnd {x : M D} {τ τ1 τ2 : List D} {d : D} {k : Bool} (e1 : x τ = some (d, τ1)) (e2 : truD d = some k) : (x.bnd fun x => M.of (truD x)) τ = some (k, τ1) := by
  unfold M.bnd
  rw [e1]
  show (M.of (truD d)) τ1 = _
  rw [e2]
  rfl
theorem rt_and {rest : List Expr} (ha : PT X l (tT X.K ta C a)) (hb : PW X (.BoolOp .And (r :: rest) pos) (tT X.K ta C b)) : PW X (.BoolOp .And (l :: r :: rest) pos) (tT X.K ta C (.and a b)) :=
  PW.mono (pw_and ha hb) fun σ H Q h => by
    obtain ⟨G, ρ, τ, d, τ', R, e, q⟩ := h
    obtain ⟨z, τ3, e, et⟩ := bnd_some (x := evE C (.and a b) ρ) e
    obtain ⟨x, τ1, e1, e_1⟩ := bnd_some (x := evE C a ρ) e
    obtain ⟨k, τ2, e2, e_2⟩ := bnd_some e_1
    obtain ⟨e2_3, rfl⟩ := of_some e2
    refine ⟨G, ρ, τ, k, _, R, tru_bnd (τ2 := τ) e1 e2_3, fun G1 H1 x1 R1 => ?_⟩
    cases k with
    | true =>
      refine iteT ⟨G1, ρ, _, d, τ', R1, ?_, fun G2 H2 x2 R2 => q G2 H2 (x1.trans x2) R2⟩
      obtain ⟨et_4, rfl⟩ := of_some et
      exact tru_bnd (τ2 := τ) e_2 et_4
    | false =>
      cases ret_some e_2
      obtain ⟨et_5, rfl⟩ := of_some et
      rw [e2_3] at et_5
      cases et_5
      exact iteF (q G1 H1 x1 R1)
theorem rt_or {rest : List Expr} (ha : PT X l (tT X.K ta C a)) (hb : PW X (.BoolOp .Or (r :: rest) pos) (tT X.K ta C b)) : PW X (.BoolOp .Or (l :: r :: rest) pos) (tT X.K ta C (.or a b)) :=
  PW.mono (pw_or ha hb) fun σ H Q h => by
    obtain ⟨G, ρ, τ, d, τ', R, e, q⟩ := h
    obtain ⟨z, τ3, e, et⟩ := bnd_some (x := evE C (.or a b) ρ) e
    obtain ⟨x, τ1, e1, e_1⟩ := bnd_some (x := evE C a ρ) e
    obtain ⟨k, τ2, e2, e_2⟩ := bnd_some e_1
    obtain ⟨e2_3, rfl⟩ := of_some e2
    refine ⟨G, ρ, τ, k, _, R, tru_bnd (τ2 := τ) e1 e2_3, fun G1 H1 x1 R1 => ?_⟩
    cases k with
    | false =>
      refine iteF ⟨G1, ρ, _, d, τ', R1, ?_, fun G2 H2 x2 R2 => q G2 H2 (x1.trans x2) R2⟩
      obtain ⟨et_4, rfl⟩ := of_some et
      exact tru_bnd (τ2 := τ) e_2 et_4
    | true =>
      cases ret_some e_2
      obtain ⟨et_5, rfl⟩ := of_some et
      rw [e2_3] at et_5
      cases et_5
      exact iteT (q G1 H1 x1 R1)
/-- a kept value as one that may be new -/
theorem Val.trans_fresh {H0 : Hp} (x : Ext ta G H G1 H1) (h : Val K ta H1 G2 H2 .fresh v d) : Val K ta H G2 H2 .fresh v d := by
  rcases h with h | ⟨p, vs, ds, h1, h2, h3, h4, h5, h6, h7⟩
  · exact .inl h
  · exact .inr ⟨p, vs, ds, h1, h2, x.none_of h3, h4, h5, h6, h7⟩
theorem Val.first (x : Ext ta G H G1 H1) (h : Val K ta H1 G2 H2 k v d) (hk : k ≠ .peek) : Val K ta H G2 H2 k v d := by
  cases k with
  | dat => exact h
  | fresh => exact Val.trans_fresh (H0 := H) x h
  | peek => exact absurd rfl hk
theorem rd_and {rest : List Expr} (ha : PE X l (tE X.K ta C .dat a)) (hb : PE X (.BoolOp .And (r :: rest) pos) (tE X.K ta C .dat b)) : PE X (.BoolOp .And (l :: r :: rest) pos) (tE X.K ta C .dat (.and a b)) :=
  PE.mono (pe_andT ha hb) fun σ H Q h => by
    obtain ⟨G, ρ, τ, d, τ', R, e, q⟩ := h
    obtain ⟨x, τ1, e1, e_1⟩ := bnd_some (x := evE C a ρ) e
    obtain ⟨k, τ2, e2, e_2⟩ := bnd_some e_1
    obtain ⟨e2_3, rfl⟩ := of_some e2
    refine ⟨G, ρ, τ, x, _, R, e1, fun v1 G1 H1 x1 R1 w1 => ⟨k, tru_of R1.sub (.inl w1) e2_3, ?_⟩⟩
    cases k with
    | true => exact iteT ⟨G1, ρ, _, d, τ', R1, e_2, fun v2 G2 H2 x2 R2 w2 => q _ G2 H2 (x1.trans x2) R2 w2⟩
    | false =>
      cases ret_some e_2
      exact iteF (q _ G1 H1 x1 R1 w1)
theorem rd_or {rest : List Expr} {ko : Kd} (hko : ko ≠ .peek) (ha : PE X l (tE X.K ta C ko a)) (hb : PE X (.BoolOp .Or (r :: rest) pos) (tE X.K ta C ko b)) : PE X (.BoolOp .Or (l :: r :: rest) pos) (tE X.K ta C ko (.or a b)) :=
  PE.mono (pe_orT ha hb) fun σ H Q h => by
    obtain ⟨G, ρ, τ, d, τ', R, e, q⟩ := h
    obtain ⟨x, τ1, e1, e_1⟩ := bnd_some (x := evE C a ρ) e
    obtain ⟨k, τ2, e2, e_2⟩ := bnd_some e_1
    obtain ⟨e2_3, rfl⟩ := of_some e2
    refine ⟨G, ρ, τ, x, _, R, e1, fun v1 G1 H1 x1 R1 w1 => ⟨k, tru_of R1.sub w1.view.weak e2_3, ?_⟩⟩
    cases k with
    | false => exact iteF ⟨G1, ρ, _, d, τ', R1, e_2, fun v2 G2 H2 x2 R2 w2 => q _ G2 H2 (x1.trans x2) R2 (w2.first x1 hko)⟩
    | true =>
      cases ret_some e_2
      exact iteT (q _ G1 H1 x1 R1 w1)
theorem rd_ite {c' : Expr} (hc : PT X c' (tT X.K ta C c)) (ha : PE X l (tE X.K ta C .dat a)) (hb : PE X r (tE X.K ta C .dat b)) : PE X (.IfExp c' l r pos) (tE X.K ta C .dat (.ite c a b)) :=
  PE.mono (pe_ifExp hc ha hb) fun σ H Q h => by
    obtain ⟨G, ρ, τ, d, τ', R, e, q⟩ := h
    obtain ⟨x, τ1, e1, e_1⟩ := bnd_some (x := evE C c ρ) e
    obtain ⟨k, τ2, e2, e_2⟩ := bnd_some e_1
    obtain ⟨e2_3, rfl⟩ := of_some e2
    refine ⟨G, ρ, τ, k, _, R, tru_bnd (τ2 := τ) e1 e2_3, fun G1 H1 x1 R1 => ?_⟩
    cases k with
    | true => exact iteT ⟨G1, ρ, _, d, τ', R1, e_2, fun v2 G2 H2 x2 R2 w2 => q _ G2 H2 (x1.trans x2) R2 w2⟩
    | false => exact iteF ⟨G1, ρ, _, d, τ', R1, e_2, fun v2 G2 H2 x2 R2 w2 => q _ G2 H2 (x1.trans x2) R2 w2⟩
theorem rd_get {ka kb : Kd} (ha : PE X l (tE X.K ta C ka a)) (hb : PE X r (tE X.K ta C kb b)) (hs : PlainIx r) : PE X (.Subscript l r pos) (tE X.K ta C .dat (.get a b)) :=
  PE.mono (pe_ix ix_D ha hb hs) fun σ H Q h => by
    obtain ⟨G, ρ, τ, d, τ', R, e, q⟩ := h
    obtain ⟨x, τ1, e1, e_1⟩ := bnd_some (x := evE C a ρ) e
    obtain ⟨y, τ2, e2, e_2⟩ := bnd_some (x := evE C b ρ) e_1
    obtain ⟨e3, rfl⟩ := of_some e_2
    refine ⟨G, ρ, τ, x, τ1, R, e1, fun v1 G1 H1 x1 R1 w1 => ⟨G1, ρ, τ1, y, _, R1, e2, fun v2 G2 H2 x2 R2 w2 => ?_⟩⟩
    exact ⟨G2, x, y, d, R2.sub, ((w1.view).ext x2).weak, w2.view.weak, e3, op_end R2 (x1.trans x2) q⟩
/-- a slice's parts -/
def tP (K : Fg) (ta : Option Addr) (C : Nat → List D → M D) (t : E) : TO := fun σ H Q => ∃ G ρ τ o τ', Rel K ta G σ H ρ τ ∧ (if t.gone then M.ret none else (evE C t ρ).bnd intP) τ = some (o, τ') ∧
  ∀ G' H', Ext ta G H G' H' → Rel K ta G' σ H' ρ τ' → Q o H'
theorem PO.mono {X : Cx} {e : Option Expr} {t t' : TO} (h : PO X e t) (i : ∀ σ H Q, t' σ H Q → t σ H Q) : PO X e t' := ⟨fun pins s σ H Q I q => h.run pins s σ H Q I (i σ H Q q)⟩
theorem rp_none (hg : a.gone = true) : PO X none (tP X.K ta C a) :=
  PO.mono po_none fun σ H Q h => by
    obtain ⟨G, ρ, τ, o, τ', R, e, q⟩ := h
    rw [if_pos hg] at e
    cases ret_some e
    exact q G H Ext.refl R
theorem rp_some {ka : Kd} (hg : a.gone = false) (ha : PE X l (tE X.K ta C ka a)) : PO X (some l) (tP X.K ta C a) :=
  PO.mono (po_some ha) fun σ H Q h => by
    obtain ⟨G, ρ, τ, o, τ', R, e, q⟩ := h
    rw [if_neg (by rw [hg]; simp)] at e
    obtain ⟨x, τ1, e1, e_1⟩ := bnd_some (x := evE C a ρ) e
    refine ⟨G, ρ, τ, x, τ1, R, e1, fun v1 G1 H1 x1 R1 w1 => ?_⟩
    cases x with
    | int i =>
      cases ret_some e_1
      exact ⟨i, w1.view.int, q G1 H1 x1 R1⟩
    | _ => cases e_1
theorem rd_slice {ka : Kd} {lo hi : Option Expr} {p2 : Pos} (ha : PE X l (tE X.K ta C ka a)) (hl : PO X lo (tP X.K ta C b)) (hh : PO X hi (tP X.K ta C c)) : PE X (.Subscript l (.Slice lo hi none p2) pos) (tE X.K ta C .fresh (.slice a b c)) :=
  PE.mono (pe_slice sl_D ha hl hh) fun σ H Q h => by
    obtain ⟨G, ρ, τ, d, τ', R, e, q⟩ := h
    obtain ⟨x, τ1, e1, e_1⟩ := bnd_some (x := evE C a ρ) e
    obtain ⟨y, τ2, e2, e_2⟩ := bnd_some e_1
    obtain ⟨z, τ3, e3, e_3⟩ := bnd_some e_2
    obtain ⟨e4, rfl⟩ := of_some e_3
    refine ⟨G, ρ, τ, x, τ1, R, e1, fun v1 G1 H1 x1 R1 w1 => ⟨G1, ρ, τ1, y, τ2, R1, e2, fun G2 H2 x2 R2 => ⟨G2, ρ, τ2, z, _, R2, e3, fun G3 H3 x3 R3 => ?_⟩⟩⟩
    exact ⟨G3, x, d, R3.sub, (((w1.view).ext x2).ext x3).weak, e4, op_end R3 ((x1.trans x2).trans x3) q⟩
theorem rd_rev {ka : Kd} {kk : Nat} {p1 p2 p3 : Pos} (ha : PE X l (tE X.K ta C ka a)) : PE X (.Subscript l (.Slice none none (some (.UnaryOp .USub (.Constant (.int 1) kk p1) p2)) p3) pos) (tE X.K ta C .fresh (.rev a)) :=
  PE.mono (pe_revL ha) fun σ H Q h => by
    obtain ⟨G, ρ, τ, d, τ', R, e, q⟩ := h
    obtain ⟨x, τ1, e1, e_1⟩ := bnd_some (x := evE C a ρ) e
    obtain ⟨e2, rfl⟩ := of_some e_1
    refine ⟨G, ρ, τ, x, _, R, e1, fun v1 G1 H1 x1 R1 w1 => ?_⟩
    cases x with
    | list ds =>
      cases e2
      obtain ⟨p, xs, rfl, rd, dr⟩ := w1.view.lst R1.sub
      exact ⟨p, xs, rfl, rd, fresh_out R1.sub (op_end R1 x1 q) dr.reverse⟩
    | _ => cases e2
end
end KN

set_option maxRecDepth 100000
set_option maxHeartbeats 1000000
namespace KN
open PySem L2 PyProof.Rows
def notStarE : E → Bool
  | .star _ => false
  | _ => true
theorem evEs_cons {C : Nat → List D → M D} {t : E} {ts : List E} {ρ : En} (h : notStarE t = true) : evEs C (t :: ts) ρ = (evE C t ρ).bnd fun x => (evEs C ts ρ).bnd fun ys => .ret (x :: ys) := by
  cases t <;> first | rfl | cases h
theorem star_no {x : Expr} {xs : List Expr} {env : PySem.Env} (h : notStar x = true) : starEach (x :: xs) env = (false, eval x env) :: starEach xs env := by
  cases x <;> first | rfl | cases h
def noStars : List Expr → Bool
  | [] => true
  | x :: r => notStar x && noStars r
theorem back_no {pos : Pos} {env : PySem.Env} : ∀ {xs : List Expr}, noStars xs = true → (backTo pos (starEach xs env)).any (·.1) = false
  | [], _ => rfl
  | x :: r, h => by
    simp only [noStars, Bool.and_eq_true] at h
    rw [star_no h.1]
    have ih := back_no (pos := pos) (env := env) h.2
    unfold backTo at ih ⊢
    rw [List.map_cons, List.any_cons, ih]
    rfl

/-- the arguments kept -/
def tK (K : Fg) (ta : Option Addr) (C : Nat → List D → M D) (ts : List E) : TA := fun σ H Q => ∃ G ρ τ ds τ', Rel K ta G σ H ρ τ ∧ evEs C ts ρ τ = some (ds, τ') ∧
  ∀ vs G' H', Ext ta G H G' H' → Rel K ta G' σ H' ρ τ' → DRs K G' vs ds → Q vs H'
theorem DRs.views {K : Fg} {ta : Option Addr} {G H : Hp} : ∀ {vs : List V} {ds : List D}, DRs K G vs ds → Views K ta G H vs ds
  | _, _, .nil => .nil
  | _, _, .cons h r => .cons (.inl h) (DRs.views r)
section
variable {ta : Option Addr} {C : Nat → List D → M D} {X : Cx} {t : E} {ts : List E} {x : Expr} {xs : List Expr} {pos p : Pos}
theorem rv_nil : PA X [] (tV X.K ta C []) :=
  PA.mono pa_nil fun σ H Q h => by
    obtain ⟨G, ρ, τ, d, τ', R, e, q⟩ := h
    cases ret_some e
    exact q [] G H Ext.refl R .nil
theorem rv_cons {k : Kd} (ha : PE X x (tE X.K ta C k t)) (hr : PA X xs (tV X.K ta C ts)) (hx : notStar x = true) (ht : notStarE t = true) : PA X (x :: xs) (tV X.K ta C (t :: ts)) :=
  PA.mono (pa_cons ha hr (star_no hx)) fun σ H Q h => by
    obtain ⟨G, ρ, τ, d, τ', R, e, q⟩ := h
    rw [evEs_cons ht] at e
    obtain ⟨y, τ1, e1, f1⟩ := bnd_some (x := evE C t ρ) e
    obtain ⟨ys, τ2, e2, f2⟩ := bnd_some f1
    cases ret_some f2
    refine ⟨G, ρ, τ, y, τ1, R, e1, fun v1 G1 H1 x1 R1 w1 => ⟨G1, ρ, τ1, ys, _, R1, e2, fun vs G2 H2 x2 R2 w2 => ?_⟩⟩
    exact q _ G2 H2 (x1.trans x2) R2 (.cons (w1.view.ext x2) w2)
theorem rk_nil : PA X [] (tK X.K ta C []) :=
  PA.mono pa_nil fun σ H Q h => by
    obtain ⟨G, ρ, τ, d, τ', R, e, q⟩ := h
    cases ret_some e
    exact q [] G H Ext.refl R .nil
theorem rk_cons (ha : PE X x (tE X.K ta C .dat t)) (hr : PA X xs (tK X.K ta C ts)) (hx : notStar x = true) (ht : notStarE t = true) : PA X (x :: xs) (tK X.K ta C (t :: ts)) :=
  PA.mono (pa_cons ha hr (star_no hx)) fun σ H Q h => by
    obtain ⟨G, ρ, τ, d, τ', R, e, q⟩ := h
    rw [evEs_cons ht] at e
    obtain ⟨y, τ1, e1, f1⟩ := bnd_some (x := evE C t ρ) e
    obtain ⟨ys, τ2, e2, f2⟩ := bnd_some f1
    cases ret_some f2
    refine ⟨G, ρ, τ, y, τ1, R, e1, fun v1 G1 H1 x1 R1 w1 => ⟨G1, ρ, τ1, ys, _, R1, e2, fun vs G2 H2 x2 R2 w2 => ?_⟩⟩
    exact q _ G2 H2 (x1.trans x2) R2 (.cons (DR.same x2.g w1) w2)
theorem rk_star {k : Kd} (ha : PE X x (tE X.K ta C k t)) (hr : PA X xs (tK X.K ta C ts)) : PA X (.Starred x p :: xs) (tK X.K ta C (.star t :: ts)) :=
  PA.mono (StX.pa_star ha hr) fun σ H Q h => by
    obtain ⟨G, ρ, τ, d, τ', R, e, q⟩ := h
    obtain ⟨y, τ1, e1, f1⟩ := bnd_some (x := evE C t ρ) e
    obtain ⟨ss, τ2, e2, f2⟩ := bnd_some f1
    obtain ⟨ys, τ3, e3, f3⟩ := bnd_some f2
    obtain ⟨g2, rfl⟩ := of_some e2
    cases ret_some f3
    refine ⟨G, ρ, τ, y, _, R, e1, fun v1 G1 H1 x1 R1 w1 => ?_⟩
    cases y with
    | list ds =>
      cases g2
      obtain ⟨a, zs, rfl, rd, dr⟩ := w1.view.lst R1.sub
      exact ⟨a, zs, rfl, .inr rd, G1, ρ, _, ys, _, R1, e3, fun vs G2 H2 x2 R2 w2 => q _ G2 H2 (x1.trans x2) R2 ((dr.same x2.g).append w2)⟩
    | tuple ds =>
      cases g2
      obtain ⟨a, zs, rfl, rd, dr⟩ := w1.view.tup R1.sub
      exact ⟨a, zs, rfl, .inl rd, G1, ρ, _, ys, _, R1, e3, fun vs G2 H2 x2 R2 w2 => q _ G2 H2 (x1.trans x2) R2 ((dr.same x2.g).append w2)⟩
    | _ => cases g2
theorem rd_lst (hr : PA X xs (tK X.K ta C ts)) : PE X (.List xs pos) (tE X.K ta C .fresh (.lst ts)) :=
  PE.mono (pe_lst hr) fun σ H Q h => by
    obtain ⟨G, ρ, τ, d, τ', R, e, q⟩ := h
    obtain ⟨ds, τ1, e1, f1⟩ := bnd_some (x := evEs C ts ρ) e
    split at f1
    · rename_i hz
      cases ret_some f1
      refine ⟨G, ρ, τ, ds, _, R, e1, fun vs G1 H1 x1 R1 w1 => ⟨by rw [w1.length]; exact lineOk_le hz, fresh_out R1.sub (op_end R1 x1 q) w1⟩⟩
    · cases f1
theorem rd_tup {kk : Nat} (hr : PA X xs (tK X.K ta C ts)) : PE X (.Tuple xs kk pos) (tE X.K ta C .dat (.tup ts)) :=
  PE.mono (pe_tup hr) fun σ H Q h => by
    obtain ⟨G, ρ, τ, d, τ', R, e, q⟩ := h
    obtain ⟨ds, τ1, e1, f1⟩ := bnd_some (x := evEs C ts ρ) e
    split at f1
    · rename_i hz
      cases ret_some f1
      refine ⟨G, ρ, τ, ds, _, R, e1, fun vs G1 H1 x1 R1 w1 => ⟨by rw [w1.length]; exact lineOk_le hz, tup_out R1.sub (op_end R1 x1 q) w1⟩⟩
    · cases f1
/-! ### names, constants -/
theorem rd_var {i : Nat} {x : Str} (hN : X.N[i]? = some x) (hv : Vis X.env.scope x) (hd : (x == ("__debug__" : Str)) = false) (hcd : (x == ("__classdict__" : Str)) = false) : PE X (.Name x pos) (tE X.K ta C .dat (.var i)) :=
  PE.mono (pe_var hN hv hd hcd) fun σ H Q h => by
    obtain ⟨G, ρ, τ, d, τ', R, e, q⟩ := h
    have e : (match ρ[i]? with
      | some (some (.dat d)) => some (d, τ)
      | _ => none) = some (d, τ') := e
    split at e
    · rename_i d' hd'
      cases e
      obtain ⟨v, h1, h2⟩ := R.dat i d hd'
      exact ⟨v, h1, q v G H Ext.refl R h2⟩
    · cases e
theorem rd_peek {i : Nat} {x : Str} (hN : X.N[i]? = some x) (hv : Vis X.env.scope x) (hd : (x == ("__debug__" : Str)) = false) (hcd : (x == ("__classdict__" : Str)) = false) : PE X (.Name x pos) (tE X.K ta C .peek (.peek i)) :=
  PE.mono (pe_var hN hv hd hcd) fun σ H Q h => by
    obtain ⟨G, ρ, τ, d, τ', R, e, q⟩ := h
    have e : (match ρ[i]? with
      | some (some (.own ds)) => some (.list ds, τ)
      | _ => none) = some (d, τ') := e
    split at e
    · rename_i d' hd'
      cases e
      obtain ⟨a, vs, h1, h2, h3, h4, h5⟩ := R.own i _ hd'
      exact ⟨_, h1, q _ G H Ext.refl R (.inr ⟨a, vs, _, rfl, rfl, h2, h4, h5⟩)⟩
    · cases e
theorem rd_const {v : V} {d : D} (hp : PE X x (tC v)) (hd : ∀ G, DR X.K G v d) (ht : ∀ ρ, evE C t ρ = M.ret d) : PE X x (tE X.K ta C .dat t) :=
  PE.mono hp fun σ H Q h => by
    obtain ⟨G, ρ, τ, d', τ', R, e, q⟩ := h
    rw [ht] at e
    cases ret_some e
    exact q v G H Ext.refl R (hd G)
/-! ### the box -/
theorem isTin_at {ρ : En} {i : Nat} (h : isTin ρ i = true) : ρ[i]? = some (some .tin) := by
  unfold isTin at h
  split at h
  · assumption
  · cases h
theorem rd_tget {k : Kd} {i : Nat} {y : Str} (hN : X.N[i]? = some y) (hv : Vis X.env.scope y) (hd : (y == ("__debug__" : Str)) = false) (hcd : (y == ("__classdict__" : Str)) = false) (ha : PE X x (tE X.K ta C k t)) (hs : PlainIx x) :
    PE X (.Subscript (.Name y p) x pos) (tE X.K ta C .dat (.tget i t)) :=
  PE.mono (pe_ix ix_list (pe_var hN hv hd hcd) ha hs) fun σ H Q h => by
    obtain ⟨G, ρ, τ, d, τ', R, e, q⟩ := h
    obtain ⟨w, τ1, e1, f1⟩ := bnd_some (x := evE C t ρ) e
    have f1 : (if isTin ρ i then (match getD (.list τ1) w with
      | some d => some (d, τ1)
      | none => none) else none) = some (d, τ') := f1
    split at f1
    · rename_i ht
      split at f1
      · rename_i d' hd'
        cases f1
        obtain ⟨a, rfl, h1⟩ := R.tn i (isTin_at ht)
        refine ⟨_, h1, G, ρ, τ, w, _, R, e1, fun v1 G1 H1 x1 R1 w1 => ?_⟩
        cases w with
        | int j =>
          obtain ⟨n, vs, h2, h3⟩ := R1.tin a rfl
          obtain ⟨u, h4, h5⟩ := h3.atI hd'
          exact ⟨a, vs, j, u, rfl, w1.view.int, .inl (.inl h2), h4, q _ G1 H1 x1 R1 h5⟩
        | _ => cases hd'
      · cases f1
    · cases f1
end
end KN

set_option maxRecDepth 100000
set_option maxHeartbeats 1000000
namespace KN
open PySem L2 PyProof.Rows
section
variable {ta : Option Addr} {C : Nat → List D → M D} {X : Cx} {t : E} {ts : List E} {x y : Expr} {xs : List Expr} {pos p p2 : Pos}
theorem bi_mem (f : Bi) : biName f ∈ biL := by cases f <;> decide
theorem rd_bi {f : Bi} (hc : X.calm = true) (hb : ∀ x ∈ biL, X.mg x = none) (hg : Gl X (biName f)) (hn : biName f ≠ "__name__") (hd : (biName f == ("__debug__" : Str)) = false) (hr : PA X (y :: xs) (tV X.K ta C ts)) (hs : noStars (y :: xs) = true) :
    PE X (.Call (.Name (biName f) p) (y :: xs) [] pos) (tE X.K ta C .fresh (.bi f ts)) := by
  have hm := hb _ (bi_mem f)
  have hv := bi_boot f
  simp only [noStars, Bool.and_eq_true] at hs
  have main : PE X (.Call (.Name (biName f) p) (y :: xs) [] pos) (tCB (rVs X.K (biD f) .fresh) (tV X.K ta C ts)) := by
    have cr : CallR X (biVal f) (rVs X.K (biD f) .fresh) := cr_bi f hc
    cases f with
    | list => exact pe_callTy cr hg hm hv hr hn hd (star_no hs.1) (back_no hs.2)
    | tuple => exact pe_callTy cr hg hm hv hr hn hd (star_no hs.1) (back_no hs.2)
    | int => exact pe_callTy cr hg hm hv hr hn hd (star_no hs.1) (back_no hs.2)
    | len => exact pe_callB cr hg hm hv hr hn hd (star_no hs.1) (back_no hs.2)
    | abs => exact pe_callB cr hg hm hv hr hn hd (star_no hs.1) (back_no hs.2)
    | sum => exact pe_callB cr hg hm hv hr hn hd (star_no hs.1) (back_no hs.2)
    | max => exact pe_callB cr hg hm hv hr hn hd (star_no hs.1) (back_no hs.2)
    | min => exact pe_callB cr hg hm hv hr hn hd (star_no hs.1) (back_no hs.2)
    | all => exact pe_callB cr hg hm hv hr hn hd (star_no hs.1) (back_no hs.2)
    | any => exact pe_callB cr hg hm hv hr hn hd (star_no hs.1) (back_no hs.2)
    | sorted => exact pe_callB cr hg hm hv hr hn hd (star_no hs.1) (back_no hs.2)
  refine PE.mono main fun σ H Q h => ?_
  obtain ⟨G, ρ, τ, d, τ', R, e, q⟩ := h
  obtain ⟨ds, τ1, e1, f1⟩ := bnd_some (x := evEs C ts ρ) e
  obtain ⟨g1, rfl⟩ := of_some f1
  refine ⟨G, ρ, τ, ds, _, R, e1, fun vs G1 H1 x1 R1 w1 => ⟨G1, ds, d, R1.sub, w1.weak, g1, op_end R1 x1 q⟩⟩

/-! ### isinstance -/
def tTys (ts : List String) : TA := fun _ H Q => Q (ts.map V.ty) H
theorem pa_tys {Γ : Cn} (hb : ∀ x ∈ biL, X.mg x = none) (hg : ∀ x, glOk Γ x = true → Gl X x ∧ x ≠ "__name__" ∧ (x == ("__debug__" : Str)) = false) : ∀ {ts : List String} {cs : List Expr}, tysOk Γ ts cs = true → PA X cs (tTys ts)
  | [], [], _ => PA.mono pa_nil fun σ H Q h => h
  | [], _ :: _, h => by simp [tysOk] at h
  | t :: ts, [], h => by simp [tysOk] at h
  | t :: ts, c :: cs, h => by
    cases c with
    | Name z q =>
      simp only [tysOk, Bool.and_eq_true, decide_eq_true_eq, beq_iff_eq] at h
      obtain ⟨⟨⟨⟨h1, h2⟩, h3⟩, h4⟩, h5⟩ := h
      obtain ⟨g1, g2, g3⟩ := hg z h2
      exact PA.mono (pa_cons (pe_bltn (v := .ty t) g1 (hb z h3) h4 rfl g2 g3) (pa_tys hb hg h5)) fun σ H Q h => h
    | _ => simp [tysOk] at h
theorem rd_isi1 {k : Kd} {T : String} {c : Expr} (hb : ∀ x ∈ biL, X.mg x = none) (hg : Gl X "isinstance") (ha : PE X y (tE X.K ta C k t)) (hy : notStar y = true) (hc : PA X [c] (tTys [T])) (hcs : notStar c = true) :
    PE X (.Call (.Name "isinstance" p) [y, c] [] pos) (tE X.K ta C .dat (.isi t [T] false)) := by
  have hm := hb "isinstance" (by decide)
  have hv : bootBuiltins "isinstance" = some (.builtin "isinstance") := by decide +kernel
  refine PE.mono (pe_callB call_isi hg hm hv (pa_cons ha hc (star_no hy)) (by decide) (by decide) (star_no hy) (back_no (by simp [noStars, hcs]))) fun σ H Q h => ?_
  obtain ⟨G, ρ, τ, d, τ', R, e, q⟩ := h
  obtain ⟨w, τ1, e1, f1⟩ := bnd_some (x := evE C t ρ) e
  obtain ⟨g1, rfl⟩ := of_some f1
  refine ⟨G, ρ, τ, w, _, R, e1, fun v1 G1 H1 x1 R1 w1 => ?_⟩
  unfold isiD at g1
  split at g1
  · rename_i b hb'
    cases g1
    have hk : kitB (tyD w) T = some b := by
      unfold kitAnyB at hb'
      split at hb'
      · rename_i hq; cases hb'; exact hq
      · rename_i hq
        cases hb'
        exact hq
      · cases hb'
    exact ⟨v1, .ty T, .type (tyD w), .type T, b, rfl, .ty T, ty_of (w1.view.at R1.sub), kit_ty hk, q _ G1 H1 x1 R1 (.bl b)⟩
  · cases g1
theorem rd_isiT {k : Kd} {Ts : List String} {cs : List Expr} {kk : Nat} (hb : ∀ x ∈ biL, X.mg x = none) (hg : Gl X "isinstance") (ha : PE X y (tE X.K ta C k t)) (hy : notStar y = true) (hc : PA X cs (tTys Ts)) (hl : Ts.length ≤ 8) :
    PE X (.Call (.Name "isinstance" p) [y, .Tuple cs kk p2] [] pos) (tE X.K ta C .dat (.isi t Ts true)) := by
  have hm := hb "isinstance" (by decide)
  have hv : bootBuiltins "isinstance" = some (.builtin "isinstance") := by decide +kernel
  refine PE.mono (pe_callB call_isiT hg hm hv (pa_cons ha (pa_cons (pe_tup hc) pa_nil) (star_no hy)) (by decide) (by decide) (star_no hy) rfl) fun σ H Q h => ?_
  obtain ⟨G, ρ, τ, d, τ', R, e, q⟩ := h
  obtain ⟨w, τ1, e1, f1⟩ := bnd_some (x := evE C t ρ) e
  obtain ⟨g1, rfl⟩ := of_some f1
  refine ⟨G, ρ, τ, w, _, R, e1, fun v1 G1 H1 x1 R1 w1 => ?_⟩
  refine ⟨by rw [List.length_map, sizeLine_eq]; omega, fun tp hp => ?_⟩
  unfold isiD at g1
  split at g1
  · rename_i b hb'
    cases g1
    have sm : Same H1 (upd H1 tp (.tup (Ts.map V.ty))) := fun b o h => by rw [upd_ne (ne_of_none h hp)]; exact h
    exact ⟨v1, tp, Ts.map V.ty, .type (tyD w), Ts.map Value.type, b, rfl, upd_same, clsV_all Ts, ty_of ((w1.view.at R1.sub).same sm), kit_any hb', q _ G1 _ (x1.trans (Ext.fresh hp)) (R1.fresh hp) (.bl b)⟩
  · cases g1

/-! ### calls of the text's own defs -/
variable {Γ : Cn} {n : Nat}
theorem getT {F : Fn} {f : Nat} {x : Str} {a b : Bool} (h : fnIs Γ f x a b = true) : ∃ F, Γ.T[f]? = some F ∧ F.name = x ∧ F.tin = a ∧ F.fresh = b := by
  unfold fnIs at h
  split at h
  · rename_i F hF
    simp only [Bool.and_eq_true, decide_eq_true_eq, beq_iff_eq] at h
    exact ⟨F, hF, h.1.1, h.1.2, h.2⟩
  · cases h
/-- the call's end: from what the arguments are to the promise -/
theorem call_sp {K : Fg} {G G1 H H1 : Hp} {σ : L2.St} {ρ : En} {τ : List D} {vs : List V} {ds : List D} {f : Nat} {d : D} {τ1 : List D} {fr : Bool} {Q : VK} {E : XK} (R1 : Rel K ta G1 σ H1 ρ τ) (x1 : Ext ta G H G1 H1) (w : DRs K G1 vs ds) (e : C f ds [] = some (d, τ1))
    (q : ∀ v G' H', Ext ta G H G' H' → Rel K ta G' σ H' ρ τ → Val K ta H G' H' (if fr then .fresh else .dat) v d → Q v H') : spF K C f false fr vs H1 Q E := by
  have hk : (if fr then Kd.fresh else Kd.dat) ≠ .peek := by cases fr <;> decide
  exact ⟨G1, none, vs, ds, [], d, τ1, R1.sub, (fun _ z => nomatch z), ⟨rfl, rfl⟩, w, e, fun v G' H' x' s' _ h => op_end R1 x1 q hk v G' H' x' s' h⟩
theorem app_nil {α : Type} (l : List α) : l ++ [] = l := List.append_nil l
theorem call_ev {f : Nat} {ts : List E} {ρ : En} {τ τ' : List D} {d : D} (e : ((evEs C ts ρ).bnd fun ds τ => match C f ds [] with
    | some (d, _) => some (d, τ)
    | none => none) τ = some (d, τ')) : ∃ ds τ1, evEs C ts ρ τ = some (ds, τ') ∧ C f ds [] = some (d, τ1) := by
  obtain ⟨ds, τ2, e1, f1⟩ := bnd_some e
  have f1 : (match C f ds [] with
    | some (d, _) => some (d, τ2)
    | none => none) = some (d, τ') := f1
  split at f1
  · rename_i d' τ3 h
    cases f1
    exact ⟨ds, τ3, e1, h⟩
  · cases f1
theorem rd_call {f : Nat} {z : Str} {fr : Bool} (O : XOk Γ n X) (hf : fnIs Γ f z false fr = true) (hg : Gl X z) (hd : (z == ("__debug__" : Str)) = false) (hr : PA X xs (tK X.K ta (callF Γ.T n) ts)) (hs : noStars xs = true) (hl : xs = [] → ts = []) :
    PE X (.Call (.Name z p) xs [] pos) (tE X.K ta (callF Γ.T n) (if fr then .fresh else .dat) (if fr then .callN f ts else .call f ts)) := by
  obtain ⟨F, hF, rfl, h2, h3⟩ := getT (F := ⟨"", [], [], false, false, []⟩) hf
  obtain ⟨fa, fd, g1, g2, g3, g4, _⟩ := O.fns f F hF
  rw [h2, h3] at g4
  have ev : ∀ {ρ : En} {τ τ' : List D} {d : D}, evE (callF Γ.T n) (if fr then .callN f ts else .call f ts) ρ τ = some (d, τ') → ∃ ds τ1, evEs (callF Γ.T n) ts ρ τ = some (ds, τ') ∧ callF Γ.T n f ds [] = some (d, τ1) := fun {ρ τ τ' d} e => by
    cases fr with
    | true => exact call_ev e
    | false => exact call_ev e
  cases xs with
  | nil =>
    refine PE.mono (pe_call0 g4 O.room hg g1 g2 g3 .nil pass0 hd) fun σ H Q h => ?_
    obtain ⟨G, ρ, τ, d, τ', R, e, q⟩ := h
    obtain ⟨ds, τ1, e1, e2⟩ := ev e
    cases hl rfl
    cases ret_some e1
    exact call_sp (E := E0) R Ext.refl .nil e2 q
  | cons y ys =>
    simp only [noStars, Bool.and_eq_true] at hs
    refine PE.mono (pe_call g4 O.room hg g1 g2 g3 .nil pass0 hr hd (star_no hs.1) (back_no hs.2)) fun σ H Q h => ?_
    obtain ⟨G, ρ, τ, d, τ', R, e, q⟩ := h
    obtain ⟨ds, τ1, e1, e2⟩ := ev e
    refine ⟨G, ρ, τ, ds, τ', R, e1, fun vs G1 H1 x1 R1 w1 => ?_⟩
    show spF X.K (callF Γ.T n) f false fr (vs ++ []) H1 Q E0
    rw [app_nil]
    exact call_sp R1 x1 w1 e2 q
/-- with keywords -/
theorem kw_all {env : PySem.Env} : ∀ {kws : List Keyword}, kwAll kws = true → (backToKw pos (keywordEach kws env)).all (·.1.isSome) = true ∧ (backToKw pos (keywordEach kws env)).filterMap (·.1) = kwNames kws ∧ (backToKw pos (keywordEach kws env)).any (·.1.isNone) = false
  | [], _ => ⟨rfl, rfl, rfl⟩
  | ⟨some z, e, q⟩ :: r, h => by
    obtain ⟨h1, h2, h3⟩ := kw_all (env := env) (kws := r) h
    unfold backToKw at h1 h2 h3 ⊢
    refine ⟨?_, ?_, ?_⟩
    · simp only [keywordEach, List.map_cons, List.all_cons, Option.isSome_some, Bool.true_and]
      exact h1
    · simp only [keywordEach, List.map_cons, kwNames]
      rw [List.filterMap_cons]
      simp only [h2]
    · simp only [keywordEach, List.map_cons, List.any_cons, Option.isNone_some, Bool.false_or]
      exact h3
  | ⟨none, e, q⟩ :: r, h => by cases h
theorem PK.mono {kws : List Keyword} {t t' : TA} (h : PK X kws t) (i : ∀ σ H Q, t' σ H Q → t σ H Q) : PK X kws t' := ⟨fun p pins s σ H Q I q => h.run p pins s σ H Q I (i σ H Q q)⟩
theorem pk_nilK : PK X [] (tK X.K ta C []) :=
  PK.mono pk_nil fun σ H Q h => by
    obtain ⟨G, ρ, τ, d, τ', R, e, q⟩ := h
    cases ret_some e
    exact q [] G H Ext.refl R .nil
theorem pk_consK {nm : Option Str} {kws : List Keyword} {kp : Pos} (ha : PE X x (tE X.K ta C .dat t)) (hr : PK X kws (tK X.K ta C ts)) (ht : notStarE t = true) : PK X (⟨nm, x, kp⟩ :: kws) (tK X.K ta C (t :: ts)) :=
  PK.mono (pk_cons ha hr) fun σ H Q h => by
    obtain ⟨G, ρ, τ, d, τ', R, e, q⟩ := h
    rw [evEs_cons ht] at e
    obtain ⟨y, τ1, e1, f1⟩ := bnd_some (x := evE C t ρ) e
    obtain ⟨ys, τ2, e2, f2⟩ := bnd_some f1
    cases ret_some f2
    refine ⟨G, ρ, τ, y, τ1, R, e1, fun v1 G1 H1 x1 R1 w1 => ⟨G1, ρ, τ1, ys, _, R1, e2, fun vs G2 H2 x2 R2 w2 => ?_⟩⟩
    exact q _ G2 H2 (x1.trans x2) R2 (.cons (DR.same x2.g w1) w2)
theorem DRs.getD {K : Fg} {G : Hp} {vs : List V} {ds : List D} (h : DRs K G vs ds) (i : Nat) : DR K G (vs.getD i default) (ds.getD i default) := by
  rw [List.getD_eq_getElem?_getD, List.getD_eq_getElem?_getD]
  cases e : ds[i]? with
  | none =>
    have : vs[i]? = none := by
      rw [List.getElem?_eq_none_iff] at e ⊢
      rw [h.length]; exact e
    rw [this]
    exact .non
  | some d =>
    obtain ⟨v, e1, e2⟩ := h.get e
    rw [e1]
    exact e2
theorem DRs.perm {K : Fg} {G : Hp} {vs : List V} {ds : List D} (h : DRs K G vs ds) : ∀ perm : List Nat, DRs K G (permL perm vs) (permL perm ds)
  | [] => .nil
  | i :: r => .cons (h.getD i) (DRs.perm h r)
theorem rd_callK {f : Nat} {z : Str} {perm : List Nat} {ks : List E} {kws : List Keyword} (O : XOk Γ n X) (hf : fnIs Γ f z false false = true) (hg : Gl X z) (hd : (z == ("__debug__" : Str)) = false) (hr : PA X xs (tK X.K ta (callF Γ.T n) ts)) (hs : noStars xs = true) (hl : xs.length = ts.length) (hl2 : (kwNames kws).length = ks.length)
    (hk : PK X kws (tK X.K ta (callF Γ.T n) ks)) (ha : kwAll kws = true) (hp : (⟨f, ts.length, kwNames kws, perm⟩ : Kw) ∈ Γ.kw) (hst : ∀ t ∈ ts, notStarE t = true) (hst2 : ∀ t ∈ ks, notStarE t = true) :
    PE X (.Call (.Name z p) xs kws pos) (tE X.K ta (callF Γ.T n) .dat (.callK f perm ts ks)) := by
  obtain ⟨F, hF, rfl, h2, h3⟩ := getT (F := ⟨"", [], [], false, false, []⟩) hf
  obtain ⟨fa, fd, g1, g2, g3, g4, g5⟩ := O.fns f F hF
  rw [h2, h3] at g4
  have kb := g5 _ hp rfl
  obtain ⟨k1, k2, k3⟩ := kw_all (pos := pos) (env := X.env) ha
  have evl : ∀ {us : List E} (_ : ∀ t ∈ us, notStarE t = true) {ρ : En} {τ τ' : List D} {ds : List D}, evEs (callF Γ.T n) us ρ τ = some (ds, τ') → ds.length = us.length := by
    intro us
    induction us with
    | nil => intro _ ρ τ τ' ds e; cases ret_some e; rfl
    | cons u r ih =>
      intro hu ρ τ τ' ds e
      rw [evEs_cons (hu u List.mem_cons_self)] at e
      obtain ⟨y, τ1, e1, f1⟩ := bnd_some (x := evE (callF Γ.T n) u ρ) e
      obtain ⟨ys, τ2, e2, f2⟩ := bnd_some f1
      cases ret_some f2
      rw [List.length_cons, List.length_cons, ih (fun t ht => hu t (List.mem_cons_of_mem _ ht)) e2]
  have fin : ∀ σ H Q, tE X.K ta (callF Γ.T n) .dat (.callK f perm ts ks) σ H Q → tCallK (spF X.K (callF Γ.T n) f false false) (gP ⟨f, ts.length, kwNames kws, perm⟩) E0 (tK X.K ta (callF Γ.T n) ts) (tK X.K ta (callF Γ.T n) ks) σ H Q := by
    intro σ H Q h
    obtain ⟨G, ρ, τ, d, τ', R, e, q⟩ := h
    obtain ⟨ds, τ1, e1, f1⟩ := bnd_some (x := evEs (callF Γ.T n) ts ρ) e
    obtain ⟨zs, τ2, e2, f2⟩ := bnd_some f1
    have f2 : (match callF Γ.T n f (permL perm (ds ++ zs)) [] with
      | some (d, _) => some (d, τ2)
      | none => none) = some (d, τ') := f2
    split at f2
    · rename_i d' τ3 hc
      cases f2
      refine ⟨G, ρ, τ, ds, τ1, R, e1, fun vs G1 H1 x1 R1 w1 => ⟨G1, ρ, τ1, zs, _, R1, e2, fun us G2 H2 x2 R2 w2 => ?_⟩⟩
      have gv : gP ⟨f, ts.length, kwNames kws, perm⟩ vs us = permL perm (vs ++ us) := by
        unfold gP
        rw [if_pos]
        exact ⟨w1.length.trans (evl hst e1), (w2.length.trans (evl hst2 e2)).trans hl2.symm⟩
      show spF X.K (callF Γ.T n) f false false (gP ⟨f, ts.length, kwNames kws, perm⟩ vs us) H2 Q E0
      rw [gv]
      exact call_sp (fr := false) R2 (x1.trans x2) (((w1.same x2.g).append w2).perm perm) hc q
    · cases f2
  cases xs with
  | cons y ys =>
    simp only [noStars, Bool.and_eq_true] at hs
    exact PE.mono (pe_callK g4 O.room hg g1 g2 kb pass0 hr hk k1 k2 hd (star_no hs.1) (by rw [back_no (xs := y :: ys) (by simp [noStars, hs]), k3]; rfl)) fin
  | nil =>
    cases ts with
    | cons _ _ => simp at hl
    | nil =>
      refine PE.mono ?_ fin
      refine ⟨fun pins s σ H Q I h => ?_⟩
      obtain ⟨G, ρ, τ, ds, τ', R, e, q⟩ := h
      cases ret_some e
      have h := q [] G H Ext.refl R .nil
      refine wpAny_Call_Name_kw (ld_glob I hg g1 ?_ hd)
      refine PySem.W.callWith_KW0 (h₀ := X.base) I.ok.mod.kin g2 k1 (thn (hk.run pos pins s σ H _ I h) fun ws s2 ⟨zs, H2, I2, rz, q2⟩ => ⟨I2.kIn, ?_⟩) ?_
      · rw [k2]
        exact run_fnk g4 O.room kb pass0 I2 (us := []) .nil rz q2
      · rw [k3]
        rfl
end
end KN

set_option maxRecDepth 100000
set_option maxHeartbeats 1000000
namespace KN
open PySem L2 PyProof.Rows
section
variable {ta : Option Addr} {C : Nat → List D → M D} {X : Cx} {t : E} {ts : List E} {x y : Expr} {xs : List Expr} {pos p p2 : Pos} {Γ : Cn} {n : Nat}
theorem rd_callT {f i : Nat} {z w : Str} (O : XOk Γ n X) (hf : fnIs Γ f z true false = true) (hg : Gl X z) (hd : (z == ("__debug__" : Str)) = false)
    (hN : X.N[i]? = some w) (hv : Vis X.env.scope w) (hwd : (w == ("__debug__" : Str)) = false) (hcd : (w == ("__classdict__" : Str)) = false)
    (hr : PA X xs (tK X.K ta (callF Γ.T n) ts)) (hs : noStars xs = true) :
    PE X (.Call (.Name z p) (.Name w p2 :: xs) [] pos) (tE X.K ta (callF Γ.T n) .dat (.callT f i ts)) := by
  obtain ⟨F, hF, rfl, h2, h3⟩ := getT (F := ⟨"", [], [], false, false, []⟩) hf
  obtain ⟨fa, fd, g1, g2, g3, g4, _⟩ := O.fns f F hF
  rw [h2, h3] at g4
  refine PE.mono (pe_call g4 O.room hg g1 g2 g3 .nil pass0 (pa_cons (pe_var hN hv hwd hcd) hr (star_no rfl)) hd (star_no rfl) (back_no hs)) fun σ H Q h => ?_
  obtain ⟨G, ρ, τ, d, τ', R, e, q⟩ := h
  obtain ⟨ds, τ1, e1, f1⟩ := bnd_some (x := evEs (callF Γ.T n) ts ρ) e
  have f1 : (if isTin ρ i then callF Γ.T n f ds τ1 else none) = some (d, τ') := f1
  split at f1
  · rename_i ht
    obtain ⟨a, rfl, h1⟩ := R.tn i (isTin_at ht)
    refine ⟨_, h1, G, ρ, τ, ds, τ1, R, e1, fun vs G1 H1 x1 R1 w1 => ?_⟩
    show spF X.K (callF Γ.T n) f true false ((V.ref a :: vs) ++ []) H1 Q E0
    rw [app_nil]
    exact ⟨G1, some a, vs, ds, τ1, d, τ', R1.sub, R1.tin, ⟨a, rfl, rfl⟩, w1, f1, fun v G' H' x' s' ht' h => q v G' H' (x1.trans x') (R1.ext x' s' fun b e => (ht' b e).2) h⟩
  · cases f1
theorem rd_callR {f : Nat} {z : Str} (O : XOk Γ n X) (hf : fnIs Γ f z true false = true) (hg : Gl X z) (hd : (z == ("__debug__" : Str)) = false)
    (ha : PE X y (tE X.K ta (callF Γ.T n) .fresh t)) (hy : notStar y = true) (hr : PA X xs (tK X.K ta (callF Γ.T n) ts)) (hs : noStars xs = true) :
    PE X (.Call (.Name z p) (y :: xs) [] pos) (tE X.K ta (callF Γ.T n) .dat (.callR f t ts)) := by
  obtain ⟨F, hF, rfl, h2, h3⟩ := getT (F := ⟨"", [], [], false, false, []⟩) hf
  obtain ⟨fa, fd, g1, g2, g3, g4, _⟩ := O.fns f F hF
  rw [h2, h3] at g4
  refine PE.mono (pe_call g4 O.room hg g1 g2 g3 .nil pass0 (pa_cons ha hr (star_no hy)) hd (star_no hy) (back_no hs)) fun σ H Q h => ?_
  obtain ⟨G, ρ, τ, d, τ', R, e, q⟩ := h
  obtain ⟨w, τ1, e1, f1⟩ := bnd_some (x := evE (callF Γ.T n) t ρ) e
  obtain ⟨ds, τ2, e2, f2⟩ := bnd_some f1
  cases w with
  | list τ0 =>
    have f2 : (match callF Γ.T n f ds τ0 with
      | some (d, _) => some (d, τ2)
      | none => none) = some (d, τ') := f2
    split at f2
    · rename_i d' τ3 hc
      cases f2
      refine ⟨G, ρ, τ, _, τ1, R, e1, fun v1 G1 H1 x1 R1 w1 => ?_⟩
      rcases w1 with ⟨_, z⟩ | ⟨a, us, es, rfl, hes, h0, hta, hga, hha, hds⟩
      · exact absurd rfl (z _)
      cases hes
      refine ⟨G1, ρ, τ1, ds, _, R1, e2, fun vs G2 H2 x2 R2 w2 => ?_⟩
      show spF X.K (callF Γ.T n) f true false ((V.ref a :: vs) ++ []) H2 Q E0
      rw [app_nil]
      have hh2 : H2 a = some (.lst us) := x2.keep a _ hta hha
      have hg2 : G2 a = none := by
        cases q2 : G2 a with
        | none => rfl
        | some o =>
          rcases x2.new a o q2 with z | z
          · rw [hga] at z; cases z
          · rw [hha] at z; cases z
      refine ⟨G2, some a, vs, ds, τ0, d, τ3, R2.sub, (fun b e => ?_), ⟨a, rfl, rfl⟩, w2, hc, fun v G' H' x' s' ht' h => ?_⟩
      · cases e
        exact ⟨hg2, us, hh2, hds.same x2.g⟩
      · have x12 := x1.trans x2
        have ex : Ext ta G H G' H' := ⟨x12.g.trans x'.g, fun b o hb => by
            rcases x'.new b o hb with z | z
            · exact x12.new b o z
            · exact .inr (x12.none_of z), fun b o nb hb => by
            have nab : some a ≠ some b := fun z => by
              cases z
              rw [h0] at hb; cases hb
            exact x'.keep b o nab (x12.keep b o nb hb), fun b o hb => by
            obtain ⟨o', e'⟩ := x12.there b o hb
            exact x'.there b o' e'⟩
        refine q v G' H' ex ⟨s', fun b e => ?_, fun i d e => ?_, fun i ds e => ?_, R2.apart, R2.tn, R2.len⟩ ?_
        · obtain ⟨k1, ws, k2, k3⟩ := R2.tin b e
          have nab : some a ≠ some b := fun z => hta (e.trans z.symm)
          refine ⟨?_, ws, x'.keep b _ nab k2, k3.same x'.g⟩
          cases q2 : G' b with
          | none => rfl
          | some o =>
            rcases x'.new b o q2 with z | z
            · rw [k1] at z; cases z
            · rw [k2] at z; cases z
        · obtain ⟨w, k1, k2⟩ := R2.dat i d e
          exact ⟨w, k1, k2.same x'.g⟩
        · obtain ⟨b, ws, k1, k2, k3, k4, k5⟩ := R2.own i ds e
          have nab : some a ≠ some b := fun z => by
            cases z
            exact R.ownThere i ds e a k1 h0
          refine ⟨b, ws, k1, k2, ?_, x'.keep b _ nab k4, k5.same x'.g⟩
          cases q2 : G' b with
          | none => rfl
          | some o =>
            rcases x'.new b o q2 with z | z
            · rw [k3] at z; cases z
            · rw [k4] at z; cases z
        · exact h
    · cases f2
  | _ => cases f2

/-! ### what a for walks -/
/-- H without the box -/
def minus (ta : Option Addr) (H : Hp) : Hp := fun b => if ta = some b then none else H b
theorem minus_same {ta : Option Addr} {H : Hp} : Same (minus ta H) H := fun b o h => by
  unfold minus at h
  split at h
  · cases h
  · exact h
theorem minus_ext {ta : Option Addr} {G H G' H' : Hp} (x : Ext ta G H G' H') : Same (minus ta H) H' := fun b o h => by
  unfold minus at h
  split at h
  · cases h
  · rename_i e
    exact x.keep b o e h
theorem Rel.minus {K : Fg} {ta : Option Addr} {G H : Hp} {σ : L2.St} {ρ : En} {τ : List D} (R : Rel K ta G σ H ρ τ) : Same G (minus ta H) := fun b o h => by
  unfold KN.minus
  split
  · rename_i e
    rw [(R.tin b e).1] at h; cases h
  · exact R.sub b o h
theorem View.minus {K : Fg} {ta : Option Addr} {G H : Hp} {v : V} {d : D} (h : View K ta G H v d) : View K none G (minus ta H) v d := by
  rcases h with h | ⟨a, vs, ds, h1, h2, h3, h4, h5⟩
  · exact .inl h
  · refine .inr ⟨a, vs, ds, h1, h2, by simp, ?_, h5⟩
    unfold KN.minus
    rw [if_neg h3]
    exact h4
theorem Views.minus {K : Fg} {ta : Option Addr} {G H : Hp} : ∀ {vs : List V} {ds : List D}, Views K ta G H vs ds → Views K none G (KN.minus ta H) vs ds
  | _, _, .nil => .nil
  | _, _, .cons h r => .cons h.minus (Views.minus r)
/-- what is walked in a comprehension: nothing but the box changes meanwhile -/
def tI (K : Fg) (ta : Option Addr) (C : Nat → List D → M D) (ik : IK) (src : List E) : TI := fun σ H R => ∃ G ρ τ xs τ1 items, Rel K ta G σ H ρ τ ∧ evEs C src ρ τ = some (xs, τ1) ∧ walkD ik xs = some items ∧
  ∀ G1 H1 J, Ext ta G H G1 H1 → Rel K ta G1 σ H1 ρ τ1 → Wk K G1 (minus ta H1) J items → R J H1
/-- .. in a loop: the frozen part alone stays -/
def tIf (K : Fg) (ta : Option Addr) (C : Nat → List D → M D) (ik : IK) (src : List E) : TI := fun σ H R => ∃ G ρ τ xs τ1 items, Rel K ta G σ H ρ τ ∧ evEs C src ρ τ = some (xs, τ1) ∧ walkD ik xs = some items ∧
  ∀ G1 H1 J, Ext ta G H G1 H1 → Rel K ta G1 σ H1 ρ τ1 → Wk K G1 G1 J items → R J H1
variable {tg it : Expr} {elts : List Expr} {kk : Nat} {tp : Pos}
theorem evEs_one {ρ : En} {τ τ1 : List D} {xs : List D} (ht : notStarE t = true) (e : evEs C [t] ρ τ = some (xs, τ1)) : ∃ d, xs = [d] ∧ evE C t ρ τ = some (d, τ1) := by
  rw [evEs_cons ht] at e
  obtain ⟨y, τ2, e1, f1⟩ := bnd_some (x := evE C t ρ) e
  obtain ⟨ys, τ3, e2, f2⟩ := bnd_some f1
  cases ret_some e2
  cases ret_some f2
  exact ⟨y, rfl, e1⟩
theorem ri_ex {k : Kd} (ha : PE X it (tE X.K ta C k t)) (ht : notStarE t = true) : PI X tg it (tI X.K ta C .ex [t]) :=
  PI.mono (pi_ex ha) fun σ H R h => by
    obtain ⟨G, ρ, τ, xs, τ1, items, Re, e, w, q⟩ := h
    obtain ⟨d, rfl, e1⟩ := evEs_one ht e
    refine ⟨G, ρ, τ, d, τ1, Re, e1, fun v G1 H1 x1 R1 w1 => ?_⟩
    exact ⟨G1, minus ta H1, d, items, R1.minus, minus_same, w1.view.minus, w, fun J hJ => q G1 H1 J x1 R1 hJ⟩
theorem rif_ex (ha : PE X it (tE X.K ta C .dat t)) (ht : notStarE t = true) : PI X tg it (tIf X.K ta C .ex [t]) :=
  PI.mono (pi_ex ha) fun σ H R h => by
    obtain ⟨G, ρ, τ, xs, τ1, items, Re, e, w, q⟩ := h
    obtain ⟨d, rfl, e1⟩ := evEs_one ht e
    refine ⟨G, ρ, τ, d, τ1, Re, e1, fun v G1 H1 x1 R1 w1 => ?_⟩
    exact ⟨G1, G1, d, items, fun _ _ h => h, R1.sub, .inl w1, w, fun J hJ => q G1 H1 J x1 R1 hJ⟩
theorem ri_enum (hb : ∀ x ∈ biL, X.mg x = none) (hg : Gl X "enumerate") (ha : PA X [x] (tV X.K ta C ts)) (hx : notStar x = true) : PI X (.Tuple elts kk tp) (.Call (.Name "enumerate" p) [x] [] pos) (tI X.K ta C .enum ts) :=
  PI.mono (pi_enumD hg (hb _ (by decide)) ha (star_no hx)) fun σ H R h => by
    obtain ⟨G, ρ, τ, xs, τ1, items, Re, e, w, q⟩ := h
    refine ⟨G, ρ, τ, xs, τ1, Re, e, fun v G1 H1 x1 R1 w1 => ?_⟩
    exact ⟨G1, minus ta H1, xs, items, R1.minus, minus_same, w1.minus, w, fun J hJ => q G1 H1 J x1 R1 hJ⟩
theorem rif_enum (hb : ∀ x ∈ biL, X.mg x = none) (hg : Gl X "enumerate") (ha : PA X [x] (tK X.K ta C ts)) (hx : notStar x = true) : PI X (.Tuple elts kk tp) (.Call (.Name "enumerate" p) [x] [] pos) (tIf X.K ta C .enum ts) :=
  PI.mono (pi_enumD hg (hb _ (by decide)) ha (star_no hx)) fun σ H R h => by
    obtain ⟨G, ρ, τ, xs, τ1, items, Re, e, w, q⟩ := h
    refine ⟨G, ρ, τ, xs, τ1, Re, e, fun v G1 H1 x1 R1 w1 => ?_⟩
    exact ⟨G1, G1, xs, items, fun _ _ h => h, R1.sub, w1.views, w, fun J hJ => q G1 H1 J x1 R1 hJ⟩
theorem near_of {i : Int} (h : near62 i = true) : -(2 ^ 62) ≤ i ∧ i < 2 ^ 62 := by
  simpa [near62] using h
theorem walk_range1 {K : Fg} {G H : Hp} {vs : List V} {ds items : List D} (w : Views K none G H vs ds) (h : walkD .range ds = some items) (hl : vs.length = 1) : ∃ j : Int, vs = [.int j] ∧ -(2 ^ 62) ≤ j ∧ j < 2 ^ 62 ∧ items = rangeD 0 j.toNat := by
  cases w with
  | nil => cases hl
  | cons v1 vr =>
    cases vr with
    | cons _ _ => simp at hl
    | nil =>
      rename_i v d
      cases d with
      | int j =>
        simp only [walkD] at h
        split at h
        · rename_i hz
          simp only [Bool.and_eq_true] at hz
          cases h
          obtain ⟨h1, h2⟩ := near_of hz.1
          exact ⟨j, by rw [v1.int], h1, h2, rfl⟩
        · cases h
      | _ => cases h
theorem walk_range2 {K : Fg} {G H : Hp} {vs : List V} {ds items : List D} (w : Views K none G H vs ds) (h : walkD .range ds = some items) (hl : vs.length = 2) : ∃ i j : Int, vs = [.int i, .int j] ∧ (-(2 ^ 62) ≤ i ∧ i < 2 ^ 62 ∧ -(2 ^ 62) ≤ j ∧ j < 2 ^ 62) ∧ items = rangeD i (j - i).toNat := by
  cases w with
  | nil => cases hl
  | cons v1 vr =>
    cases vr with
    | nil => simp at hl
    | cons v2 vr =>
      cases vr with
      | cons _ _ => simp at hl
      | nil =>
        rename_i v d v' d'
        cases d with
        | int i =>
          cases d' with
          | int j =>
            simp only [walkD] at h
            split at h
            · rename_i hz
              simp only [Bool.and_eq_true] at hz
              cases h
              obtain ⟨h1, h2⟩ := near_of hz.1.1
              obtain ⟨h3, h4⟩ := near_of hz.1.2
              exact ⟨i, j, by rw [v1.int, v2.int], ⟨h1, h2, h3, h4⟩, rfl⟩
            · cases h
          | _ => cases h
        | _ => cases h
theorem evEs_len : ∀ {us : List E} (_ : ∀ t ∈ us, notStarE t = true) {ρ : En} {τ τ' : List D} {ds : List D}, evEs C us ρ τ = some (ds, τ') → ds.length = us.length := by
  intro us
  induction us with
  | nil => intro _ ρ τ τ' ds e; cases ret_some e; rfl
  | cons u r ih =>
    intro hu ρ τ τ' ds e
    rw [evEs_cons (hu u List.mem_cons_self)] at e
    obtain ⟨y, τ1, e1, f1⟩ := bnd_some (x := evE C u ρ) e
    obtain ⟨ys, τ2, e2, f2⟩ := bnd_some f1
    cases ret_some f2
    rw [List.length_cons, List.length_cons, ih (fun t ht => hu t (List.mem_cons_of_mem _ ht)) e2]
theorem Views.length {K : Fg} {G H : Hp} : ∀ {vs : List V} {ds : List D}, Views K ta G H vs ds → vs.length = ds.length
  | _, _, .nil => rfl
  | _, _, .cons _ r => by rw [List.length_cons, List.length_cons, Views.length r]
theorem ri_range1 (hb : ∀ x ∈ biL, X.mg x = none) (hg : Gl X "range") (ha : PA X [x] (tV X.K ta C ts)) (hx : notStar x = true) (ht : ∀ t ∈ ts, notStarE t = true) (hl : ts.length = 1) : PI X tg (.Call (.Name "range" p) [x] [] pos) (tI X.K ta C .range ts) :=
  PI.mono (pi_range1 hg (hb _ (by decide)) ha (star_no hx)) fun σ H R h => by
    obtain ⟨G, ρ, τ, xs, τ1, items, Re, e, w, q⟩ := h
    refine ⟨G, ρ, τ, xs, τ1, Re, e, fun vs G1 H1 x1 R1 w1 => ?_⟩
    obtain ⟨j, rfl, h1, h2, rfl⟩ := walk_range1 w1.weak w (by rw [w1.length, evEs_len ht e, hl])
    exact ⟨j, rfl, h1, h2, q G1 H1 _ x1 R1 (wk_range _ _)⟩
theorem ri_range2 (hb : ∀ x ∈ biL, X.mg x = none) (hg : Gl X "range") (ha : PA X [x, y] (tV X.K ta C ts)) (hx : notStar x = true) (hy : notStar y = true) (ht : ∀ t ∈ ts, notStarE t = true) (hl : ts.length = 2) : PI X tg (.Call (.Name "range" p) [x, y] [] pos) (tI X.K ta C .range ts) :=
  PI.mono (pi_range2 hg (hb _ (by decide)) ha (by rw [star_no hx, star_no hy]; rfl) (star_no hy)) fun σ H R h => by
    obtain ⟨G, ρ, τ, xs, τ1, items, Re, e, w, q⟩ := h
    refine ⟨G, ρ, τ, xs, τ1, Re, e, fun vs G1 H1 x1 R1 w1 => ?_⟩
    obtain ⟨i, j, rfl, h1, rfl⟩ := walk_range2 w1.weak w (by rw [w1.length, evEs_len ht e, hl])
    exact ⟨i, j, rfl, h1, q G1 H1 _ x1 R1 (wk_range _ _)⟩
theorem rif_range1 (hb : ∀ x ∈ biL, X.mg x = none) (hg : Gl X "range") (ha : PA X [x] (tV X.K ta C ts)) (hx : notStar x = true) (ht : ∀ t ∈ ts, notStarE t = true) (hl : ts.length = 1) : PI X tg (.Call (.Name "range" p) [x] [] pos) (tIf X.K ta C .range ts) :=
  PI.mono (pi_range1 hg (hb _ (by decide)) ha (star_no hx)) fun σ H R h => by
    obtain ⟨G, ρ, τ, xs, τ1, items, Re, e, w, q⟩ := h
    refine ⟨G, ρ, τ, xs, τ1, Re, e, fun vs G1 H1 x1 R1 w1 => ?_⟩
    obtain ⟨j, rfl, h1, h2, rfl⟩ := walk_range1 w1.weak w (by rw [w1.length, evEs_len ht e, hl])
    exact ⟨j, rfl, h1, h2, q G1 H1 _ x1 R1 (wk_range _ _)⟩
theorem rif_range2 (hb : ∀ x ∈ biL, X.mg x = none) (hg : Gl X "range") (ha : PA X [x, y] (tV X.K ta C ts)) (hx : notStar x = true) (hy : notStar y = true) (ht : ∀ t ∈ ts, notStarE t = true) (hl : ts.length = 2) : PI X tg (.Call (.Name "range" p) [x, y] [] pos) (tIf X.K ta C .range ts) :=
  PI.mono (pi_range2 hg (hb _ (by decide)) ha (by rw [star_no hx, star_no hy]; rfl) (star_no hy)) fun σ H R h => by
    obtain ⟨G, ρ, τ, xs, τ1, items, Re, e, w, q⟩ := h
    refine ⟨G, ρ, τ, xs, τ1, Re, e, fun vs G1 H1 x1 R1 w1 => ?_⟩
    obtain ⟨i, j, rfl, h1, rfl⟩ := walk_range2 w1.weak w (by rw [w1.length, evEs_len ht e, hl])
    exact ⟨i, j, rfl, h1, q G1 H1 _ x1 R1 (wk_range _ _)⟩
theorem walk_zip {K : Fg} {G Gv H : Hp} {vs : List V} {ds items : List D} {R : It → Hp → Prop} (s1 : Same G Gv) (s2 : Same Gv H) (w : Views K none G Gv vs ds) (h : walkD .zip ds = some items) (q : ∀ J, Wk K G Gv J items → R J H) :
    ∃ a b xs ys, vs = [V.ref a, V.ref b] ∧ ((SqL K H a xs ∧ SqL K H b ys ∧ R (Itz K a b) H) ∨ (SqT K H a xs ∧ SqT K H b ys ∧ R (RZ.ItzT K a b) H)) := by
  cases w with
  | nil => cases h
  | cons v1 vr =>
    cases vr with
    | nil => rename_i v d; cases d <;> cases h
    | cons v2 vr =>
      cases vr with
      | cons _ _ =>
        rename_i d _ d' _ _ _ _ _ _
        cases d <;> first | cases h | (cases d' <;> cases h)
      | nil =>
        rename_i v d v' d'
        cases d with
        | list l1 =>
          cases d' with
          | list l2 =>
            cases h
            obtain ⟨a, xs, rfl, r1, dr1⟩ := v1.lst s1
            obtain ⟨b, ys, rfl, r2, dr2⟩ := v2.lst s1
            exact ⟨a, b, xs, ys, rfl, .inl ⟨s2.seq r1, s2.seq r2, q _ (wk_zipL r1 dr1 r2 dr2)⟩⟩
          | _ => cases h
        | tuple l1 =>
          cases d' with
          | tuple l2 =>
            cases h
            obtain ⟨a, xs, rfl, r1, dr1⟩ := v1.tup s1
            obtain ⟨b, ys, rfl, r2, dr2⟩ := v2.tup s1
            exact ⟨a, b, xs, ys, rfl, .inr ⟨SqT.same s2 r1, SqT.same s2 r2, q _ (wk_zipT r1 dr1 r2 dr2)⟩⟩
          | _ => cases h
        | _ => cases h
theorem ri_zip (hb : ∀ x ∈ biL, X.mg x = none) (hg : Gl X "zip") (ha : PA X [x, y] (tV X.K ta C ts)) (hx : notStar x = true) (hy : notStar y = true) : PI X (.Tuple elts kk tp) (.Call (.Name "zip" p) [x, y] [] pos) (tI X.K ta C .zip ts) :=
  PI.mono (RZ.pi_zipA hg (hb _ (by decide)) ha (star_no hx) (back_no (by simp [noStars, hy]))) fun σ H R h => by
    obtain ⟨G, ρ, τ, xs, τ1, items, Re, e, w, q⟩ := h
    exact ⟨G, ρ, τ, xs, τ1, Re, e, fun vs G1 H1 x1 R1 w1 => walk_zip R1.minus minus_same w1.minus w fun J hJ => q G1 H1 J x1 R1 hJ⟩
theorem rif_zip (hb : ∀ x ∈ biL, X.mg x = none) (hg : Gl X "zip") (ha : PA X [x, y] (tK X.K ta C ts)) (hx : notStar x = true) (hy : notStar y = true) : PI X (.Tuple elts kk tp) (.Call (.Name "zip" p) [x, y] [] pos) (tIf X.K ta C .zip ts) :=
  PI.mono (RZ.pi_zipA hg (hb _ (by decide)) ha (star_no hx) (back_no (by simp [noStars, hy]))) fun σ H R h => by
    obtain ⟨G, ρ, τ, xs, τ1, items, Re, e, w, q⟩ := h
    exact ⟨G, ρ, τ, xs, τ1, Re, e, fun vs G1 H1 x1 R1 w1 => walk_zip (fun _ _ h => h) R1.sub w1.views w fun J hJ => q G1 H1 J x1 R1 hJ⟩
end
end KN

set_option maxRecDepth 100000
set_option maxHeartbeats 1000000
namespace KN
open PySem L2 PyProof.Rows
/-! ### targets -/
def gNs : List Nat → TGs
  | [] => gNil
  | i :: is => gCons (gName i) (gNs is)
def gT (K : Fg) : Tg → TG
  | .nm i => gName i
  | .tup is => gTup K is.length (gNs is)
section
variable {X : Cx} {Γ : Cn}
structure Sto (Γ : Cn) (X : Cx) : Prop where
  N : X.N = Γ.N
  nd : X.N.Nodup
  sc : X.env.scope = Γ.sc
  fn : X.fn = (match Γ.blk with
    | none => fun _ => true
    | some s => fun x => s.names.lookup x == some .cell)
  calm : X.calm = true
theorem XOk.sto {n : Nat} (O : XOk Γ n X) : Sto Γ X := ⟨O.N, O.nd, O.sc, O.fn, O.calm⟩
theorem Sto.at (O : Sto Γ X) {x : Str} (h : stOk Γ x = true) : Loc X.env.scope x ∧ (X.fn x = true ∨ X.env.scope.names.lookup x = some .local) := by
  unfold stOk at h
  unfold L2.Loc
  rw [O.sc, O.fn]
  split at h
  · rename_i e; exact ⟨.inl e, .inr e⟩
  · rename_i e
    refine ⟨.inr e, .inl ?_⟩
    cases hb : Γ.blk with
    | none => rfl
    | some s0 =>
      rw [hb] at h
      exact h
  · cases h
theorem pg_nm {i : Nat} {x : Str} {pos : Pos} (O : Sto Γ X) (hi : Γ.N[i]? = some x) (h : stOk Γ x = true) : PG X (.Name x pos) (gName i) :=
  pg_name O.nd (by rw [O.N]; exact hi) (O.at h).1 (O.at h).2
theorem pgs_T (O : Sto Γ X) : ∀ {is : List Nat} {es : List Expr}, mNames Γ is es = true → PGs X es (gNs is) ∧ (assignEach es X.env).length = is.length ∧ (assignEach es X.env).findIdx? (·.1) = none
  | [], [], _ => ⟨pgs_nil, rfl, rfl⟩
  | [], _ :: _, h => by simp [mNames] at h
  | _ :: _, [], h => by simp [mNames] at h
  | i :: is, e :: es, h => by
    cases e with
    | Name x p =>
      simp only [mNames, Bool.and_eq_true, decide_eq_true_eq] at h
      obtain ⟨ih1, ih2, ih3⟩ := pgs_T O h.2
      refine ⟨pgs_cons (pg_nm O h.1.1 h.1.2) ih1 rfl, ?_, ?_⟩
      · show (assignEach es X.env).length + 1 = _
        rw [ih2]; rfl
      · show (((false, _) :: assignEach es X.env).findIdx? (·.1)) = none
        rw [List.findIdx?_cons]
        simp only [Bool.false_eq_true, if_false]
        rw [ih3]; rfl
    | _ => simp [mNames] at h
theorem pg_T (O : Sto Γ X) {tg : Tg} {e : Expr} (h : mTg Γ tg e = true) : PG X e (gT X.K tg) := by
  cases tg with
  | nm i =>
    cases e with
    | Name x p =>
      simp only [mTg, Bool.and_eq_true, decide_eq_true_eq] at h
      exact pg_nm O h.1 h.2
    | _ => simp [mTg] at h
  | tup is =>
    cases e with
    | Tuple es k p =>
      simp only [mTg] at h
      obtain ⟨h1, h2, h3⟩ := pgs_T O h
      exact pg_tup O.calm h1 h2 h3
    | _ => simp [mTg] at h
end
section
variable {K : Fg} {ta : Option Addr} {G H : Hp} {σ : L2.St} {ρ ρ' : En} {τ : List D} {v : V} {d : D}
theorem get_set {α : Type} {l : List α} {i j : Nat} {a x : α} (h : (l.set i a)[j]? = some x) : (j = i ∧ i < l.length ∧ x = a) ∨ (j ≠ i ∧ l[j]? = some x) := by
  rw [List.getElem?_set] at h
  split at h
  · rename_i e
    subst e
    split at h
    · rename_i hl
      cases h
      exact .inl ⟨rfl, hl, rfl⟩
    · cases h
  · rename_i e
    exact .inr ⟨fun z => e z.symm, h⟩
/-- data to a slot -/
theorem Rel.setDat (R : Rel K ta G σ H ρ τ) (h : DR K G v d) (i : Nat) : Rel K ta G (σ.set i (some v)) H (ρ.set i (some (.dat d))) τ := by
  have ne : ∀ {j : Nat}, j ≠ i → (σ.set i (some v))[j]? = σ[j]? := fun {j} hj => List.getElem?_set_ne (Ne.symm hj)
  refine ⟨R.sub, R.tin, fun j d' e => ?_, fun j ds e => ?_, fun j k ds es a hjk e1 e2 e3 => ?_, fun j e => ?_, by rw [List.length_set, List.length_set]; exact R.len⟩
  · rcases get_set e with ⟨rfl, hl, z⟩ | ⟨hj, e⟩
    · cases z
      exact ⟨v, List.getElem?_set_self (Nat.lt_of_lt_of_le hl R.len), h⟩
    · rw [ne hj]; exact R.dat j d' e
  · rcases get_set e with ⟨rfl, hl, z⟩ | ⟨hj, e⟩
    · cases z
    · rw [ne hj]; exact R.own j ds e
  · rcases get_set e1 with ⟨rfl, _, z⟩ | ⟨hj, e1⟩
    · cases z
    · rcases get_set e2 with ⟨rfl, _, z⟩ | ⟨hk, e2⟩
      · cases z
      · rw [ne hj] at e3
        rw [ne hk]
        exact R.apart j k ds es a hjk e1 e2 e3
  · rcases get_set e with ⟨rfl, hl, z⟩ | ⟨hj, e⟩
    · cases z
    · rw [ne hj]; exact R.tn j e
theorem wipe_get (vs : List Nat) (σ : L2.St) (j : Nat) : (wipe σ vs)[j]? = if j ∈ vs ∧ j < σ.length then some none else σ[j]? := by
  induction vs with
  | nil => simp [wipe]
  | cons w r ih =>
    unfold wipe
    rw [List.getElem?_set, wipe_length, ih]
    by_cases hj : w = j
    · subst hj
      by_cases hl : w < σ.length
      · simp [hl]
      · simp [hl, List.getElem?_eq_none (Nat.le_of_not_lt hl)]
    · rw [if_neg hj]
      have : j ≠ w := fun z => hj z.symm
      simp [this]
theorem wipeE_some {vs : List Nat} {i : Nat} {x : Ent} (h : (wipeE ρ vs)[i]? = some (some x)) : ρ[i]? = some (some x) ∧ i ∉ vs := by
  induction vs with
  | nil => exact ⟨h, by simp⟩
  | cons w r ih =>
    unfold wipeE at h
    rcases get_set h with ⟨rfl, _, z⟩ | ⟨hj, e⟩
    · cases z
    · obtain ⟨h1, h2⟩ := ih e
      exact ⟨h1, by simp [hj, h2]⟩
theorem wipeE_len {vs : List Nat} : (wipeE ρ vs).length = ρ.length := by
  induction vs with
  | nil => rfl
  | cons w r ih => unfold wipeE; rw [List.length_set, ih]
theorem Rel.wipe (R : Rel K ta G σ H ρ τ) (vs : List Nat) : Rel K ta G (L2.wipe σ vs) H (wipeE ρ vs) τ := by
  have ne : ∀ {j : Nat}, j ∉ vs → (L2.wipe σ vs)[j]? = σ[j]? := fun {j} hj => by rw [wipe_get, if_neg (fun z => hj z.1)]
  refine ⟨R.sub, R.tin, fun j d' e => ?_, fun j ds e => ?_, fun j k ds es a hjk e1 e2 e3 => ?_, fun j e => ?_, by rw [wipeE_len, wipe_length]; exact R.len⟩
  · obtain ⟨h1, h2⟩ := wipeE_some e
    rw [ne h2]; exact R.dat j d' h1
  · obtain ⟨h1, h2⟩ := wipeE_some e
    rw [ne h2]; exact R.own j ds h1
  · obtain ⟨h1, h2⟩ := wipeE_some e1
    obtain ⟨h3, h4⟩ := wipeE_some e2
    rw [ne h2] at e3
    rw [ne h4]
    exact R.apart j k ds es a hjk h1 h3 e3
  · obtain ⟨h1, h2⟩ := wipeE_some e
    rw [ne h2]; exact R.tn j h1
theorem wipe_set {vs : List Nat} {i : Nat} {x : Option V} (h : i ∈ vs) : L2.wipe (σ.set i x) vs = L2.wipe σ vs := by
  apply List.ext_getElem?
  intro j
  rw [wipe_get, wipe_get, List.length_set]
  by_cases hj : j ∈ vs ∧ j < σ.length
  · rw [if_pos hj, if_pos hj]
  · rw [if_neg hj, if_neg hj, List.getElem?_set]
    split
    · rename_i e
      subst e
      have : ¬ i < σ.length := fun z => hj ⟨h, z⟩
      rw [if_neg this, List.getElem?_eq_none (Nat.le_of_not_lt this)]
    · rfl
theorem wipe_wipe {vs : List Nat} : L2.wipe (L2.wipe σ vs) vs = L2.wipe σ vs := by
  apply List.ext_getElem?
  intro j
  rw [wipe_get, wipe_length, wipe_get]
  by_cases hj : j ∈ vs ∧ j < σ.length
  · simp [hj]
  · rw [if_neg hj]
/-- a target takes its value -/
theorem gNs_ok {Q : L2.St → Hp → Prop} : ∀ {is : List Nat} {us : List V} {ds : List D} {σ : L2.St} {ρ : En}, Rel K ta G σ H ρ τ → DRs K G us ds → setDs is ds ρ = some ρ' →
    (∀ σ', Rel K ta G σ' H ρ' τ → (∀ vs : List Nat, (∀ i ∈ is, i ∈ vs) → L2.wipe σ' vs = L2.wipe σ vs) → Q σ' H) → gNs is us σ H Q
  | [], _, _, σ, ρ, R, .nil, e, q => by
    cases e
    exact ⟨rfl, q σ R fun _ _ => rfl⟩
  | [], _, _, σ, ρ, R, .cons _ _, e, q => by cases e
  | i :: is, _, _, σ, ρ, R, .nil, e, q => by cases e
  | i :: is, _, _, σ, ρ, R, .cons h r, e, q => by
    refine ⟨_, _, rfl, gNs_ok (R.setDat h i) r e fun σ' R' w => q σ' R' fun vs hv => ?_⟩
    rw [w vs (fun j hj => hv j (List.mem_cons_of_mem _ hj)), wipe_set (hv i List.mem_cons_self)]
theorem setDs_len : ∀ {is : List Nat} {ds : List D} {ρ : En}, setDs is ds ρ = some ρ' → ds.length = is.length
  | [], [], _, _ => rfl
  | [], _ :: _, _, e => by cases e
  | _ :: _, [], _, e => by cases e
  | i :: is, d :: ds, ρ, e => by
    have := setDs_len (is := is) (ds := ds) e
    simp [this]
theorem gT_ok {Q : L2.St → Hp → Prop} {tg : Tg} (R : Rel K ta G σ H ρ τ) (h : DR K G v d) (e : setTg tg d ρ = some ρ')
    (q : ∀ σ', Rel K ta G σ' H ρ' τ → (∀ vs : List Nat, (∀ i ∈ tg.slots, i ∈ vs) → L2.wipe σ' vs = L2.wipe σ vs) → Q σ' H) : gT K tg v σ H Q := by
  cases tg with
  | nm i =>
    cases e
    exact q _ (R.setDat h i) fun vs hv => wipe_set (hv i (by simp [Tg.slots]))
  | tup is =>
    cases d with
    | tuple ds =>
      cases h with
      | tup hs dr =>
        exact ⟨_, _, rfl, SqT.same R.sub hs, by rw [dr.length]; exact setDs_len e, gNs_ok R dr e q⟩
    | _ => cases e
/-! ### comprehensions -/
theorem Rel.updFree (R : Rel K ta G σ H ρ τ) {D : Addr} {o : HO} (hG : G D = none) (ht : ta ≠ some D) (ho : ∀ (i : Nat) ds, ρ[i]? = some (some (.own ds)) → σ[i]? ≠ some (some (.ref D))) : Rel K ta G σ (upd H D o) ρ τ := by
  refine ⟨fun b u h => ?_, fun a e => ?_, R.dat, fun i ds e => ?_, R.apart, R.tn, R.len⟩
  · rw [upd_ne (fun z => by subst z; rw [hG] at h; cases h)]; exact R.sub b u h
  · obtain ⟨h1, vs, h2, h3⟩ := R.tin a e
    exact ⟨h1, vs, by rw [upd_ne (fun z => ht (by rw [e, z]))]; exact h2, h3⟩
  · obtain ⟨a, vs, h1, h2, h3, h4, h5⟩ := R.own i ds e
    exact ⟨a, vs, h1, h2, h3, by rw [upd_ne (fun z => ho i ds e (by rw [h1, z]))]; exact h4, h5⟩
theorem Ext.updNew {G' H' : Hp} {D : Addr} {o : HO} (x : Ext ta G H G' H') (hD : H D = none) : Ext ta G H G' (upd H' D o) := by
  refine ⟨x.g, x.new, fun b u n h => ?_, fun b u h => ?_⟩
  · rw [upd_ne (ne_of_none h hD)]; exact x.keep b u n h
  · rw [upd_ne (ne_of_none h hD)]; exact x.there b u h
end
def tCond (K : Fg) (ta : Option Addr) (C : Nat → List D → M D) (c : E) : TT := fun σ H Q => ∃ G ρ τ b τ', Rel K ta G σ H ρ τ ∧ (if c.gone then M.ret true else (evE C c ρ).bnd fun x => M.of (truD x)) τ = some (b, τ') ∧
  ∀ G' H', Ext ta G H G' H' → Rel K ta G' σ H' ρ τ' → Q b H'
theorem rd_comp {X : Cx} {ta : Option Addr} {C : Nat → List D → M D} {el tg' it : Expr} {ifs : List Expr} {scope : Scope} {own : List (Str × Nat)} {pos : Pos} {elt cond : E} {tg : Tg} {ik : IK} {src : List E}
    (hc : X.calm = true) (hN : X.N.Nodup) (hi : PI X tg' it (tI X.K ta C ik src)) (ok : BlkOk X.N X.env.scope scope own) (ho : own.map (·.2) = tg.slots)
    (hg : ∀ (s : Shared) (H : Hp) (C' : Addr) (cl : List (Str × Addr)) (fp : List Addr), PG (X.blk s H scope (compEnvC scope cl C' X.env) fp) tg' (gT X.K tg))
    (ht : ∀ (s : Shared) (H : Hp) (C' : Addr) (cl : List (Str × Addr)) (fp : List Addr), PTs (X.blk s H scope (compEnvC scope cl C' X.env) fp) ifs (tCond X.K ta C cond))
    (he : ∀ (s : Shared) (H : Hp) (C' : Addr) (cl : List (Str × Addr)) (fp : List Addr), PE (X.blk s H scope (compEnvC scope cl C' X.env) fp) el (tE X.K ta C .dat elt)) (hs : ∀ x, foldedSetIterable it X.env x = pure x) :
    (∀ σ H Q, tE X.K ta C .fresh (.comp elt tg ik src cond) σ H Q → tLc (tI X.K ta C ik src) (gT X.K tg) (tCond X.K ta C cond) (tE X.K ta C .dat elt) (own.map (·.2)) σ H Q) ∧
    PE X (.ListComp el [⟨tg', it, ifs, 0⟩] scope pos) (tE X.K ta C .fresh (.comp elt tg ik src cond)) := by
  have key : ∀ σ H Q, tE X.K ta C .fresh (.comp elt tg ik src cond) σ H Q → tLc (tI X.K ta C ik src) (gT X.K tg) (tCond X.K ta C cond) (tE X.K ta C .dat elt) (own.map (·.2)) σ H Q := by
    intro σ H Q h
    rw [ho]
    obtain ⟨G, ρ, τ, d, τ', R, e, q⟩ := h
    obtain ⟨xs, τ1, e1, f1⟩ := bnd_some (x := evEs C src ρ) e
    obtain ⟨items, τ2, e2, f2⟩ := bnd_some f1
    obtain ⟨g2, rfl⟩ := of_some e2
    obtain ⟨ys, τ3, e3, f3⟩ := bnd_some f2
    cases ret_some f3
    obtain ⟨wd, hz⟩ : walkD ik xs = some items ∧ items.length ≤ sizeLine := by
      unfold walkC at g2
      split at g2
      · rename_i its hw
        split at g2
        · rename_i hl
          cases g2
          exact ⟨hw, lineOk_le hl⟩
        · cases g2
      · cases g2
    refine ⟨G, ρ, τ, xs, _, items, R, e1, wd, fun G1 H1 J x1 R1 wk Dd hD => ?_⟩
    generalize hf : (fun d => (M.of (setTg tg d (wipeE ρ tg.slots))).bnd fun ρ' => (if cond.gone then .ret true else (evE C cond ρ').bnd fun x => .of (truD x)).bnd fun k => if k then (evE C elt ρ').bnd fun y => .ret (some y) else .ret none : D → M (Option D)) = f at e3
    have htD : ta ≠ some Dd := fun z => by
      obtain ⟨_, vs, h2, _⟩ := R1.tin Dd z
      rw [hD] at h2; cases h2
    have hoD : ∀ (i : Nat) ds, ρ[i]? = some (some (.own ds)) → σ[i]? ≠ some (some (.ref Dd)) := fun i ds e z => R1.ownThere i ds e Dd z hD
    have hg1 : G1 Dd = none := R1.sub.free hD
    refine ⟨fun i m H2 => i ≤ items.length ∧ m = items.length - i ∧ ∃ Gi τi zs us, Ext ta G1 H1 Gi H2 ∧ Rel X.K ta Gi σ H2 ρ τi ∧ H2 Dd = some (.lst us) ∧ Gi Dd = none ∧ DRs X.K Gi us zs ∧ us.length ≤ i ∧ ∃ rest, compL f (items.drop i) τi = some (rest, τ') ∧ ys = zs ++ rest,
      ⟨_, Nat.zero_le _, rfl, G1, _, [], [], Ext.fresh hD, R1.fresh hD, upd_same, hg1, .nil, Nat.le_refl _, ys, e3, rfl⟩, ?_⟩
    rintro i m H2 ⟨hi', rfl, Gi, τi, zs, us, xi, Ri, hDi, hGi, dri, hli, rest, ei, rfl⟩
    have sv : Same (minus ta H1) H2 := minus_ext xi
    by_cases hlt : i < items.length
    · right
      refine ⟨wk.go i H2 sv hlt, fun H' => (i + 1 ≤ items.length ∧ items.length - (i + 1) = items.length - (i + 1) ∧ ∃ Gi τi zs' us, Ext ta G1 H1 Gi H' ∧ Rel X.K ta Gi σ H' ρ τi ∧ H' Dd = some (.lst us) ∧ Gi Dd = none ∧ DRs X.K Gi us zs' ∧ us.length ≤ i + 1 ∧ ∃ rest', compL f (items.drop (i + 1)) τi = some (rest', τ') ∧ zs ++ rest = zs' ++ rest'),
        fun H' h => ⟨items.length - (i + 1), by omega, h⟩, fun x H' y => ?_⟩
      have hd : items[i]? = some items[i] := List.getElem?_eq_getElem hlt
      rw [List.drop_eq_getElem_cons hlt] at ei
      obtain ⟨o, τa, ea, fa⟩ := bnd_some (x := f items[i]) ei
      obtain ⟨r', τb, eb, fb⟩ := bnd_some fa
      cases ret_some fb
      -- the item comes
      obtain ⟨G', x', R', dx, hD', hG'⟩ : ∃ G', Ext ta Gi H2 G' H' ∧ Rel X.K ta G' σ H' ρ τi ∧ DR X.K G' x items[i] ∧ H' Dd = some (.lst us) ∧ G' Dd = none := by
        rcases wk.yld i H2 x H' _ sv hd y with ⟨rfl, dr⟩ | ⟨T, a, b, va, vb, rfl, hT, rfl, hdt, da, db⟩
        · exact ⟨Gi, Ext.refl, Ri, dr.same xi.g, hDi, hGi⟩
        · have e := Ext.laid (ta := ta) (o := HO.tup [va, vb]) Ri.sub hT
          refine ⟨upd Gi T (.tup [va, vb]), e, Ri.laid hT, ?_, ?_, ?_⟩
          · rw [hdt]
            exact .tup (.inl (.inl upd_same)) (.cons ((da.same xi.g).same e.g) (.cons ((db.same xi.g).same e.g) .nil))
          · rw [upd_ne (ne_of_none hDi hT)]; exact hDi
          · rw [upd_ne (ne_of_none hDi hT)]; exact hGi
      rw [← hf] at ea
      obtain ⟨ρ', τc, ec, fc⟩ := bnd_some ea
      obtain ⟨gc, rfl⟩ := of_some ec
      obtain ⟨k, τd, ed, fd⟩ := bnd_some fc
      refine gT_ok (R'.wipe tg.slots) dx gc fun σ2 R2 w2 => ⟨by rw [w2 _ fun _ h => h, wipe_wipe], G', ρ', _, k, τd, R2, ed, fun G3 H3 x3 R3 => ?_⟩
      have hx3 := x'.trans x3
      have hD3 : H3 Dd = some (.lst us) := x3.keep Dd _ htD hD'
      have hG3 : G3 Dd = none := by
        cases q2 : G3 Dd with
        | none => rfl
        | some o =>
          rcases x3.new Dd o q2 with z | z
          · rw [hG'] at z; cases z
          · rw [hD'] at z; cases z
      cases k with
      | false =>
        cases ret_some fd
        refine iteF ⟨hlt, rfl, G3, _, zs, us, xi.trans hx3, R'.ext x3 R3.sub (fun a e => (R3.tin a e).2), hD3, hG3, (dri.same hx3.g), Nat.le_succ_of_le hli, r', eb, rfl⟩
      | true =>
        obtain ⟨y', τe, ee, fe⟩ := bnd_some (x := evE C elt ρ') fd
        cases ret_some fe
        refine iteT ⟨G3, ρ', τd, y', _, R3, ee, fun v G4 H4 x4 R4 w4 => ?_⟩
        have hx4 := hx3.trans x4
        have hD4 : H4 Dd = some (.lst us) := x4.keep Dd _ htD hD3
        have hG4 : G4 Dd = none := by
          cases q2 : G4 Dd with
          | none => rfl
          | some o =>
            rcases x4.new Dd o q2 with z | z
            · rw [hG3] at z; cases z
            · rw [hD3] at z; cases z
        refine ⟨us, hD4, by omega, hlt, rfl, G4, _, zs ++ [y'], us ++ [v], (xi.trans hx4).updNew hD, ?_, upd_same, hG4, (dri.same hx4.g).append (.cons w4 .nil), by rw [List.length_append]; simp; omega, r', eb, by rw [List.append_assoc]; rfl⟩
        exact (R'.ext (x3.trans x4) R4.sub (fun a e => (R4.tin a e).2)).updFree hG4 htD hoD
    · left
      have hn : i = items.length := by omega
      subst hn
      rw [List.drop_length] at ei
      cases ret_some ei
      refine ⟨wk.stop H2 sv, ?_⟩
      rw [List.append_nil] at q
      exact q _ Gi H2 (x1.trans xi) Ri (.inr ⟨Dd, us, zs, rfl, rfl, x1.none_of hD, htD, hGi, hDi, dri⟩)
  exact ⟨key, PE.mono (pe_lc hc hN hi ok hg ht he hs) key⟩
end KN

set_option maxRecDepth 100000
set_option maxHeartbeats 4000000
namespace KN
open PySem L2 PyProof.Rows
/-! ### small things -/
theorem len1 {α : Type} {l : List α} (h : l.length = 1) : ∃ a, l = [a] := by
  match l, h with
  | [a], _ => exact ⟨a, rfl⟩
theorem len2 {α : Type} {l : List α} (h : l.length = 2) : ∃ a b, l = [a, b] := by
  match l, h with
  | [a, b], _ => exact ⟨a, b, rfl⟩
theorem tupE_of {t : Expr} (h : isTupE t = true) : ∃ es k p, t = .Tuple es k p := by
  cases t <;> first | exact ⟨_, _, _, rfl⟩ | cases h
theorem kw_len : ∀ {kws : List Keyword}, kwAll kws = true → (kwNames kws).length = kws.length
  | [], _ => rfl
  | ⟨some x, e, p⟩ :: r, h => by simp [kwNames, kw_len (kws := r) h]
  | ⟨none, e, p⟩ :: r, h => by cases h
theorem tys_len {Γ : Cn} : ∀ {ts : List String} {cs : List Expr}, tysOk Γ ts cs = true → cs.length = ts.length
  | [], [], _ => rfl
  | [], _ :: _, h => by simp [tysOk] at h
  | _ :: _, [], h => by simp [tysOk] at h
  | t :: ts, c :: cs, h => by
    cases c with
    | Name x p =>
      simp only [tysOk, Bool.and_eq_true] at h
      simp [tys_len h.2]
    | _ => simp [tysOk] at h
theorem tys_one {Γ : Cn} {ts : List String} {c : Expr} (h : tysOk Γ ts [c] = true) : ∃ T, ts = [T] ∧ notStar c = true := by
  have hl := tys_len h
  obtain ⟨T, rfl⟩ := len1 hl.symm
  refine ⟨T, rfl, ?_⟩
  cases c <;> first | rfl | simp [tysOk] at h
theorem blkOf_snd (Γ : Cn) (tg : Tg) : (blkOf Γ tg).map (·.2) = tg.slots := by
  unfold blkOf
  rw [List.map_map]
  exact List.map_id' _
theorem mIs_cons {t : E} {r : List E} {Γ : Cn} {xs : List Expr} (h : notStarE t = true) : mIs (t :: r) Γ xs = (match xs with
    | x :: q => notStar x && plain t && mE t Γ x && mIs r Γ q
    | [] => false) := by
  cases t <;> first | rfl | cases h
section
variable {X : Cx} {ta : Option Addr} {C : Nat → List D → M D} {c : E} {x : Expr}
theorem pts_gone (h : c.gone = true) : PTs X [] (tCond X.K ta C c) := by
  refine ⟨fun pins s σ H Q I q => pts_nil.run pins s σ H Q I ?_⟩
  obtain ⟨G, ρ, τ, b, τ', R, e, q⟩ := q
  rw [if_pos h] at e
  cases ret_some e
  exact q G H Ext.refl R
theorem pts_cond (h : c.gone = false) (hc : PT X x (tT X.K ta C c)) : PTs X [x] (tCond X.K ta C c) := by
  refine ⟨fun pins s σ H Q I q => (pts_one hc).run pins s σ H Q I ?_⟩
  obtain ⟨G, ρ, τ, b, τ', R, e, q⟩ := q
  rw [if_neg (by rw [h]; simp)] at e
  exact ⟨G, ρ, τ, b, τ', R, e, q⟩
variable {a b : E} {l m r : Expr} {pos : Pos}
theorem rt_chain {o1 o2 : CmpOp} {ka kb kc : Kd} (hu : X.A.units + 64 < cLine) (ha : PE X l (tE X.K ta C ka a)) (hb : PE X m (tE X.K ta C kb b)) (hc : PE X r (tE X.K ta C kc c)) (hm : lastMarks [o1, o2] [m, r] = false) :
    PT X (.Compare l [o1, o2] [m, r] pos) (tT X.K ta C (.chain o1 o2 a b c)) :=
  PT.mono (pt_chain (op_cmpD o1 hu) (op_cmpD o2 hu) ha hb hc hm) fun σ H Q h => by
    obtain ⟨G, ρ, τ, d, τ', R, e, q⟩ := h
    obtain ⟨z0, τ0, e0, et⟩ := bnd_some (x := evE C (.chain o1 o2 a b c) ρ) e
    obtain ⟨x, τ1, e1, f1⟩ := bnd_some (x := evE C a ρ) e0
    obtain ⟨y, τ2, e2, f2⟩ := bnd_some (x := evE C b ρ) f1
    obtain ⟨z, τ3, e3, f3⟩ := bnd_some f2
    obtain ⟨g3, rfl⟩ := of_some e3
    obtain ⟨gt, rfl⟩ := of_some et
    refine ⟨G, ρ, τ, x, τ1, R, e1, fun v1 G1 H1 x1 R1 w1 => ⟨G1, ρ, τ1, y, _, R1, e2, fun v2 G2 H2 x2 R2 w2 => ?_⟩⟩
    obtain ⟨k, rfl⟩ := cmp_bool g3
    refine ⟨G2, x, y, _, R2.sub, ((w1.view).ext x2).weak, w2.view.weak, g3, fun v G' H' x' s' w' => ?_⟩
    cases w'
    have R3 := R2.step x' s'
    cases k with
    | true =>
      obtain ⟨u, τ4, e4, f4⟩ := bnd_some (x := evE C c ρ) f3
      obtain ⟨g5, rfl⟩ := of_some f4
      obtain ⟨k5, rfl⟩ := cmp_bool g5
      refine ⟨true, rfl, iteT ⟨G', ρ, _, u, _, R3, e4, fun v3 G3 H3 x3 R4 w3 => ?_⟩⟩
      refine ⟨G3, y, u, _, R4.sub, ((w2.view.ext x'.weak).ext x3).weak, w3.view.weak, g5, fun v G5 H5 x5 s5 w5 => ?_⟩
      cases w5
      cases gt
      exact ⟨_, rfl, q G5 H5 ((((x1.trans x2).trans x'.weak).trans x3).trans x5.weak) (R4.step x5 s5)⟩
    | false =>
      cases ret_some f3
      cases gt
      exact ⟨false, rfl, iteF ⟨false, rfl, q G' H' ((x1.trans x2).trans x'.weak) R3⟩⟩
theorem rt_ite {c' : Expr} (hc : PT X c' (tT X.K ta C c)) (ha : PT X l (tT X.K ta C a)) (hb : PT X r (tT X.K ta C b)) : PT X (.IfExp c' l r pos) (tT X.K ta C (.ite c a b)) := by
  refine ⟨fun pins s σ H Q I h => ?_⟩
  obtain ⟨G, ρ, τ, d, τ', R, e, q⟩ := h
  obtain ⟨z, τ3, e, et⟩ := bnd_some (x := evE C (.ite c a b) ρ) e
  obtain ⟨x, τ1, e1, f1⟩ := bnd_some (x := evE C c ρ) e
  obtain ⟨k, τ2, e2, f2⟩ := bnd_some f1
  obtain ⟨g2, rfl⟩ := of_some e2
  obtain ⟨gt, rfl⟩ := of_some et
  have run := hc.run pins s σ H (fun k' H1 => if k' = true then tT X.K ta C a σ H1 Q else tT X.K ta C b σ H1 Q) I ⟨G, ρ, τ, k, _, R, tru_bnd (τ2 := τ) e1 g2, fun G1 H1 x1 R1 => by
    cases k with
    | true => exact iteT ⟨G1, ρ, _, d, _, R1, tru_bnd (τ2 := τ) f2 gt, fun G2 H2 x2 R2 => q G2 H2 (x1.trans x2) R2⟩
    | false => exact iteF ⟨G1, ρ, _, d, _, R1, tru_bnd (τ2 := τ) f2 gt, fun G2 H2 x2 R2 => q G2 H2 (x1.trans x2) R2⟩⟩
  refine wpAny_bind (thn run fun k' s1 hk => ?_)
  obtain ⟨H1, I1, q1⟩ := hk
  cases k' with
  | true =>
    have q1 : tT X.K ta C a σ H1 Q := by simpa using q1
    exact ha.run pins s1 σ H1 Q I1 q1
  | false =>
    have q1 : tT X.K ta C b σ H1 Q := by simpa using q1
    exact hb.run pins s1 σ H1 Q I1 q1
end
theorem mE_comp {elt : E} {tg : Tg} {ik : IK} {src : List E} {cond : E} {Γ : Cn} {e : Expr} : mE (.comp elt tg ik src cond) Γ e = (match e with
    | .ListComp el [⟨t, it, ifs, 0⟩] scope _ => plain elt && blkC Γ.N Γ.sc scope (blkOf Γ tg) && mTg (Γ.inner scope) tg t && notSet it && decide (tg.slots.all (fun i => decide (i < Γ.N.length)) = true) &&
      mE elt (Γ.inner scope) el && (match ifs with
      | [] => cond.gone
      | [c] => !cond.gone && mE cond (Γ.inner scope) c
      | _ => false) && (match ik with
      | .ex => mEs src Γ [it]
      | .range => (match it with
        | .Call (.Name x _) args [] _ => decide (x = "range") && glOk Γ x && mEs src Γ args && decide (args.length = 1 ∨ args.length = 2)
        | _ => false)
      | .enum => isTupE t && (match it with
        | .Call (.Name x _) args [] _ => decide (x = "enumerate") && glOk Γ x && mEs src Γ args && decide (args.length = 1)
        | _ => false)
      | .zip => isTupE t && (match it with
        | .Call (.Name x _) args [] _ => decide (x = "zip") && glOk Γ x && mEs src Γ args && decide (args.length = 2)
        | _ => false))
    | _ => false) := rfl
theorem notStar_of {t : E} {Γ : Cn} {x : Expr} (h : mE t Γ x = true) : notStarE t = true := by
  cases t <;> first | rfl | (simp [mE] at h)
theorem plain_ne {t : E} (h : plain t = true) : kdOf t ≠ .peek := by
  intro z
  unfold plain at h
  rw [z] at h
  cases h
section
variable {Γ : Cn} {n : Nat} {X : Cx} {ta : Option Addr}
theorem XOk.var (O : XOk Γ n X) {i : Nat} {x : Str} (h : nameOk Γ i x = true) : X.N[i]? = some x ∧ Vis X.env.scope x ∧ (x == ("__debug__" : Str)) = false ∧ (x == ("__classdict__" : Str)) = false := by
  simp only [nameOk, Bool.and_eq_true, decide_eq_true_eq, Bool.not_eq_true'] at h
  obtain ⟨⟨⟨h1, h2⟩, h3⟩, h4⟩ := h
  refine ⟨by rw [O.N]; exact h1, ?_, h3, h4⟩
  unfold visB at h2
  unfold Vis
  rw [O.sc]
  split at h2
  · rename_i e; exact .inl e
  · rename_i e; exact .inr (.inl e)
  · rename_i e; exact .inr (.inr e)
  · cases h2
theorem XOk.glob (O : XOk Γ n X) {x : Str} (h : glOk Γ x = true) : Gl X x ∧ x ≠ "__name__" ∧ (x == ("__debug__" : Str)) = false := by
  simp only [glOk, Bool.and_eq_true, decide_eq_true_eq, Bool.not_eq_true'] at h
  obtain ⟨⟨h1, h2⟩, h3⟩ := h
  refine ⟨?_, h3, h2⟩
  show X.env.scope.names.lookup x = some .globalImplicit
  rw [O.sc]
  split at h1
  · rename_i e; exact e
  · cases h1
theorem XOk.units (O : XOk Γ n X) : X.A.units + 64 < cLine := O.room.units
theorem XOk.blk (O : XOk Γ n X) (s : Shared) (H : Hp) (scope : Scope) (cl : List (Str × Addr)) (C : Addr) (fp : List Addr) : XOk (Γ.inner scope) n (X.blk s H scope (compEnvC scope cl C X.env) fp) where
  N := O.N
  nd := O.nd
  sc := by
    show relS scope X.env.scope = relS scope Γ.sc
    rw [O.sc]
  fn := rfl
  calm := O.calm
  room := O.room
  bi := O.bi
  gl := O.gl
  fns := O.fns
theorem plainIx {y : Expr} (h : notSlice y = true) : PlainIx y := by
  intro o i
  cases y <;> first | rfl | cases h
theorem foldSet {it : Expr} {env : PySem.Env} (h : notSet it = true) : ∀ x, foldedSetIterable it env x = pure x := by
  intro x
  cases it <;> first | rfl | cases h
/-- a value and its test -/
def Snd (Γ : Cn) (n : Nat) (X : Cx) (ta : Option Addr) (t : E) (e : Expr) : Prop :=
  PE X e (tE X.K ta (callF Γ.T n) (kdOf t) t) ∧ PT X e (tT X.K ta (callF Γ.T n) t) ∧ ∀ op vs p, e = .BoolOp op vs p → PW X e (tT X.K ta (callF Γ.T n) t)
theorem Snd.of {t : E} {e : Expr} (h : PE X e (tE X.K ta (callF Γ.T n) (kdOf t) t)) (he : ∀ whole, isTrue e X.env whole = (do let v ← whole; standAt e.pos; holding [v] (truthy v))) (hb : ∀ op vs p, e ≠ .BoolOp op vs p) : Snd Γ n X ta t e :=
  ⟨h, rt_plain h he, fun op vs p z => absurd z (hb op vs p)⟩
theorem Snd.dat {t : E} {e : Expr} (h : Snd Γ n X ta t e) (hp : plain t = true) : PE X e (tE X.K ta (callF Γ.T n) .dat t) := PE.mono h.1 (tE_dat (plain_ne hp))
end
section
variable {n : Nat} {ta : Option Addr}
mutual
theorem snd : ∀ (t : E) {Γ : Cn} {X : Cx} {e : Expr} (O : XOk Γ n X), mE t Γ e = true → Snd Γ n X ta t e
  | .var i, Γ, X, e, O, h => by
    simp only [mE] at h
    split at h
    · obtain ⟨h1, h2, h3, h4⟩ := O.var h
      exact .of (rd_var h1 h2 h3 h4) (fun _ => rfl) (fun _ _ _ z => nomatch z)
    · cases h
  | .peek i, Γ, X, e, O, h => by
    simp only [mE] at h
    split at h
    · obtain ⟨h1, h2, h3, h4⟩ := O.var h
      exact .of (rd_peek h1 h2 h3 h4) (fun _ => rfl) (fun _ _ _ z => nomatch z)
    · cases h
  | .non, Γ, X, e, O, h => by
    simp only [mE] at h
    split at h
    · exact .of (rd_const pe_non (fun _ => .non) fun _ => rfl) (fun _ => rfl) (fun _ _ _ z => nomatch z)
    · cases h
  | .bl b, Γ, X, e, O, h => by
    simp only [mE] at h
    split at h
    · have z := beq_iff_eq.mp h
      subst z
      exact .of (rd_const pe_bl (fun _ => .bl _) fun _ => rfl) (fun _ => rfl) (fun _ _ _ z => nomatch z)
    · cases h
  | .int i, Γ, X, e, O, h => by
    simp only [mE] at h
    split at h
    · have z := beq_iff_eq.mp h
      subst z
      exact .of (rd_const pe_int (fun _ => .int _) fun _ => rfl) (fun _ => rfl) (fun _ _ _ z => nomatch z)
    · cases h
  | .str x, Γ, X, e, O, h => by
    simp only [mE] at h
    split at h
    · have z := of_decide_eq_true h
      subst z
      exact .of (rd_const pe_str (fun _ => .str _) fun _ => rfl) (fun _ => rfl) (fun _ _ _ z => nomatch z)
    · cases h
  | .glob x z, Γ, X, e, O, h => by
    simp only [mE] at h
    split at h
    · simp only [Bool.and_eq_true, decide_eq_true_eq] at h
      obtain ⟨⟨rfl, h2⟩, h3⟩ := h
      obtain ⟨g1, g2, g3⟩ := O.glob h2
      obtain ⟨t, ht⟩ := O.gl _ h3
      exact .of (rd_const (pe_glob (v := .str z) g1 ht ⟨t, rfl⟩ g3) (fun _ => .str _) fun _ => rfl) (fun _ => rfl) (fun _ _ _ z => nomatch z)
    · cases h
  | .bin op a b, Γ, X, e, O, h => by
    simp only [mE] at h
    split at h
    · simp only [Bool.and_eq_true, decide_eq_true_eq] at h
      obtain ⟨⟨rfl, h2⟩, h3⟩ := h
      exact .of (rd_bin (snd a O h2).1 (snd b O h3).1) (fun _ => rfl) (fun _ _ _ z => nomatch z)
    · cases h
  | .cmp op a b, Γ, X, e, O, h => by
    simp only [mE] at h
    split at h
    · simp only [Bool.and_eq_true, decide_eq_true_eq, Bool.not_eq_true'] at h
      obtain ⟨⟨⟨rfl, h2⟩, h3⟩, h4⟩ := h
      exact ⟨rd_cmp O.units (snd a O h2).1 (snd b O h3).1 h4, rt_cmp O.units (snd a O h2).1 (snd b O h3).1 h4, fun _ _ _ z => nomatch z⟩
    · cases h
  | .chain o1 o2 a b c, Γ, X, e, O, h => by
    simp only [mE] at h
    split at h
    · simp only [Bool.and_eq_true, decide_eq_true_eq, Bool.not_eq_true'] at h
      obtain ⟨⟨⟨⟨⟨rfl, rfl⟩, h2⟩, h3⟩, h4⟩, h5⟩ := h
      exact ⟨rd_chain O.units (snd a O h2).1 (snd b O h3).1 (snd c O h4).1 h5, rt_chain O.units (snd a O h2).1 (snd b O h3).1 (snd c O h4).1 h5, fun _ _ _ z => nomatch z⟩
    · cases h
  | .neg a, Γ, X, e, O, h => by
    simp only [mE] at h
    split at h
    · exact .of (rd_neg (snd a O h).1) (fun _ => rfl) (fun _ _ _ z => nomatch z)
    · cases h
  | .not a, Γ, X, e, O, h => by
    simp only [mE] at h
    split at h
    · exact ⟨rd_not (snd a O h).1, rt_not (snd a O h).2.1, fun _ _ _ z => nomatch z⟩
    · cases h
  | .and a b, Γ, X, e, O, h => by
    simp only [mE, Bool.and_eq_true] at h
    obtain ⟨⟨pa, pb⟩, h⟩ := h
    split at h
    · simp only [Bool.and_eq_true] at h
      obtain ⟨h1, h2⟩ := h
      have ha := snd a O h1
      split at h2
      · have hb := snd b O h2
        rename_i ps _
        have w := rt_and (pos := ps) ha.2.1 (pw_and1 hb.2.1)
        exact ⟨rd_and (ha.dat pa) (pe_one (hb.dat pb)), w.pt, fun _ _ _ _ => w⟩
      · have hb := snd b O h2
        have w := rt_and ha.2.1 (hb.2.2 _ _ _ rfl)
        exact ⟨rd_and (ha.dat pa) (hb.dat pb), w.pt, fun _ _ _ _ => w⟩
    · cases h
  | .or a b, Γ, X, e, O, h => by
    simp only [mE, Bool.and_eq_true] at h
    obtain ⟨⟨pa, pb⟩, h⟩ := h
    have fr : ∀ {t : E} {e : Expr}, kdOf t = .fresh → Snd Γ n X ta t e → PE X e (tE X.K ta (callF Γ.T n) .fresh t) := fun {t e} hk hs => by have := hs.1; rw [hk] at this; exact this
    split at h
    · simp only [Bool.and_eq_true] at h
      obtain ⟨h1, h2⟩ := h
      have ha := snd a O h1
      split at h2
      · have hb := snd b O h2
        rename_i ps _
        have w := rt_or (pos := ps) ha.2.1 (pw_or1 hb.2.1)
        refine ⟨?_, w.pt, fun _ _ _ _ => w⟩
        show PE X _ (tE X.K ta (callF Γ.T n) (if kdOf a = .fresh ∧ kdOf b = .fresh then .fresh else .dat) (.or a b))
        split
        · rename_i hk
          exact rd_or (by decide) (fr hk.1 ha) (pe_one (fr hk.2 hb))
        · exact rd_or (by decide) (ha.dat pa) (pe_one (hb.dat pb))
      · have hb := snd b O h2
        have w := rt_or ha.2.1 (hb.2.2 _ _ _ rfl)
        refine ⟨?_, w.pt, fun _ _ _ _ => w⟩
        show PE X _ (tE X.K ta (callF Γ.T n) (if kdOf a = .fresh ∧ kdOf b = .fresh then .fresh else .dat) (.or a b))
        split
        · rename_i hk
          exact rd_or (by decide) (fr hk.1 ha) (fr hk.2 hb)
        · exact rd_or (by decide) (ha.dat pa) (hb.dat pb)
    · cases h
  | .ite c a b, Γ, X, e, O, h => by
    simp only [mE, Bool.and_eq_true] at h
    obtain ⟨⟨pa, pb⟩, h⟩ := h
    split at h
    · simp only [Bool.and_eq_true] at h
      obtain ⟨⟨h1, h2⟩, h3⟩ := h
      have hc := snd c O h1
      have ha := snd a O h2
      have hb := snd b O h3
      exact ⟨rd_ite hc.2.1 (ha.dat pa) (hb.dat pb), rt_ite hc.2.1 ha.2.1 hb.2.1, fun _ _ _ z => nomatch z⟩
    · cases h
  | .bi f es, Γ, X, e, O, h => by
    simp only [mE] at h
    split at h
    · simp only [Bool.and_eq_true, decide_eq_true_eq] at h
      obtain ⟨⟨rfl, h2⟩, h3⟩ := h
      obtain ⟨g1, g2, g3⟩ := O.glob h2
      obtain ⟨v1, v2, _⟩ := sndV es O h3
      exact .of (rd_bi O.calm O.bi g1 g2 g3 v1 v2) (fun _ => rfl) (fun _ _ _ z => nomatch z)
    · cases h
  | .isi a ts tup, Γ, X, e, O, h => by
    simp only [mE] at h
    split at h
    · simp only [Bool.and_eq_true, decide_eq_true_eq] at h
      obtain ⟨⟨⟨⟨rfl, h2⟩, h3⟩, h4⟩, h5⟩ := h
      obtain ⟨g1, g2, g3⟩ := O.glob h2
      have ha := snd a O h4
      split at h5
      · simp only [Bool.and_eq_true, decide_eq_true_eq] at h5
        obtain ⟨h5, h6⟩ := h5
        have hl : ts.length ≤ 8 := by
          rw [tys_len h5] at h6; exact h6
        exact .of (rd_isiT O.bi g1 ha.1 h3 (pa_tys O.bi (fun x hx => O.glob hx) h5) hl) (fun _ => rfl) (fun _ _ _ z => nomatch z)
      · obtain ⟨T, rfl, hn⟩ := tys_one h5
        exact .of (rd_isi1 O.bi g1 ha.1 h3 (pa_tys O.bi (fun x hx => O.glob hx) h5) hn) (fun _ => rfl) (fun _ _ _ z => nomatch z)
      · cases h5
    · cases h
  | .tget i b, Γ, X, e, O, h => by
    simp only [mE] at h
    split at h
    · simp only [Bool.and_eq_true] at h
      obtain ⟨⟨h1, h2⟩, h3⟩ := h
      obtain ⟨g1, g2, g3, g4⟩ := O.var h1
      exact .of (rd_tget g1 g2 g3 g4 (snd b O h2).1 (plainIx h3)) (fun _ => rfl) (fun _ _ _ z => nomatch z)
    · cases h
  | .get a b, Γ, X, e, O, h => by
    simp only [mE] at h
    split at h
    · simp only [Bool.and_eq_true] at h
      obtain ⟨⟨h1, h2⟩, h3⟩ := h
      exact .of (rd_get (snd a O h1).1 (snd b O h2).1 (plainIx h3)) (fun _ => rfl) (fun _ _ _ z => nomatch z)
    · cases h
  | .slice a lo hi, Γ, X, e, O, h => by
    simp only [mE] at h
    split at h
    · simp only [Bool.and_eq_true] at h
      obtain ⟨⟨h1, h2⟩, h3⟩ := h
      rename_i l hh _ _
      have q1 : PO X l (tP X.K ta (callF Γ.T n) lo) := by
        split at h2
        · exact rp_none h2
        · simp only [Bool.and_eq_true, Bool.not_eq_true'] at h2
          exact rp_some h2.1 (snd lo O h2.2).1
      have q2 : PO X hh (tP X.K ta (callF Γ.T n) hi) := by
        split at h3
        · exact rp_none h3
        · simp only [Bool.and_eq_true, Bool.not_eq_true'] at h3
          exact rp_some h3.1 (snd hi O h3.2).1
      exact .of (rd_slice (snd a O h1).1 q1 q2) (fun _ => rfl) (fun _ _ _ z => nomatch z)
    · cases h
  | .rev a, Γ, X, e, O, h => by
    simp only [mE] at h
    split at h
    · exact .of (rd_rev (snd a O h).1) (fun _ => rfl) (fun _ _ _ z => nomatch z)
    · cases h
  | .lst es, Γ, X, e, O, h => by
    simp only [mE] at h
    split at h
    · exact .of (rd_lst (sndI es O h)) (fun _ => rfl) (fun _ _ _ z => nomatch z)
    · cases h
  | .tup es, Γ, X, e, O, h => by
    simp only [mE] at h
    split at h
    · exact .of (rd_tup (sndI es O h)) (fun _ => rfl) (fun _ _ _ z => nomatch z)
    · cases h
  | .star _, Γ, X, e, O, h => by simp [mE] at h
  | .call f es, Γ, X, e, O, h => by
    simp only [mE] at h
    split at h
    · simp only [Bool.and_eq_true] at h
      obtain ⟨⟨h1, h2⟩, h3⟩ := h
      obtain ⟨g1, g2, g3⟩ := O.glob h2
      obtain ⟨v1, v2, v3, v4, _⟩ := sndK es O h3
      exact .of (rd_call (fr := false) O h1 g1 g3 v1 v2 fun z => by subst z; cases es with | nil => rfl | cons _ _ => simp at v4) (fun _ => rfl) (fun _ _ _ z => nomatch z)
    · cases h
  | .callN f es, Γ, X, e, O, h => by
    simp only [mE] at h
    split at h
    · simp only [Bool.and_eq_true] at h
      obtain ⟨⟨h1, h2⟩, h3⟩ := h
      obtain ⟨g1, g2, g3⟩ := O.glob h2
      obtain ⟨v1, v2, v3, v4, _⟩ := sndK es O h3
      exact .of (rd_call (fr := true) O h1 g1 g3 v1 v2 fun z => by subst z; cases es with | nil => rfl | cons _ _ => simp at v4) (fun _ => rfl) (fun _ _ _ z => nomatch z)
    · cases h
  | .callK f perm es ks, Γ, X, e, O, h => by
    simp only [mE] at h
    split at h
    · simp only [Bool.and_eq_true, decide_eq_true_eq] at h
      obtain ⟨⟨⟨⟨⟨h1, h2⟩, h3⟩, h4⟩, h5⟩, h6⟩ := h
      obtain ⟨g1, g2, g3⟩ := O.glob h2
      obtain ⟨v1, v2, v3, v4, _⟩ := sndK es O h4
      obtain ⟨w1, w3, w4⟩ := sndP ks O h5
      refine .of (rd_callK O h1 g1 g3 v1 v2 v4 (by rw [kw_len h3]; exact w4) w1 h3 h6 v3 w3) (fun _ => rfl) (fun _ _ _ z => nomatch z)
    · cases h
  | .callT f i es, Γ, X, e, O, h => by
    simp only [mE] at h
    split at h
    · simp only [Bool.and_eq_true] at h
      obtain ⟨⟨⟨h1, h2⟩, h3⟩, h4⟩ := h
      obtain ⟨g1, g2, g3⟩ := O.glob h2
      obtain ⟨k1, k2, k3, k4⟩ := O.var h3
      obtain ⟨v1, v2, v3, v4, _⟩ := sndK es O h4
      exact .of (rd_callT O h1 g1 g3 k1 k2 k3 k4 v1 v2) (fun _ => rfl) (fun _ _ _ z => nomatch z)
    · cases h
  | .callR f a es, Γ, X, e, O, h => by
    simp only [mE] at h
    split at h
    · simp only [Bool.and_eq_true, decide_eq_true_eq] at h
      obtain ⟨⟨⟨⟨⟨h1, h2⟩, h3⟩, h4⟩, h5⟩, h6⟩ := h
      obtain ⟨g1, g2, g3⟩ := O.glob h2
      obtain ⟨v1, v2, v3, v4, _⟩ := sndK es O h6
      have ha := (snd a O h5).1
      rw [h4] at ha
      exact .of (rd_callR O h1 g1 g3 ha h3 v1 v2) (fun _ => rfl) (fun _ _ _ z => nomatch z)
    · cases h
  | .comp elt tg ik src cond, Γ, X, e, O, h => by
    rw [mE_comp] at h
    split at h
    · simp only [Bool.and_eq_true, decide_eq_true_eq] at h
      obtain ⟨⟨⟨⟨⟨⟨⟨pe, h1⟩, h2⟩, h3⟩, _⟩, h4⟩, h5⟩, h6⟩ := h
      rename_i el t it ifs scope pos _
      have bo : BlkOk X.N X.env.scope scope (blkOf Γ tg) := by rw [O.N, O.sc]; exact blkOk_by h1
      have hi : PI X t it (tI X.K ta (callF Γ.T n) ik src) := by
        cases ik with
        | ex =>
          simp only at h6
          obtain ⟨v1, v2, v3, v4, v5⟩ := sndV src O h6
          obtain ⟨s0, hs0⟩ := len1 v4.symm
          have hp := v5 s0 it hs0 rfl
          rw [hs0]
          exact ri_ex hp.1 (v3 s0 (by rw [hs0]; exact List.mem_cons_self))
        | range =>
          simp only at h6
          split at h6
          · simp only [Bool.and_eq_true, decide_eq_true_eq] at h6
            obtain ⟨⟨⟨rfl, k2⟩, k3⟩, k4⟩ := h6
            obtain ⟨g1, _, _⟩ := O.glob k2
            obtain ⟨v1, v2, v3, v4, _⟩ := sndV src O k3
            rcases k4 with k4 | k4
            · obtain ⟨a, rfl⟩ := len1 k4
              simp only [noStars, Bool.and_eq_true] at v2
              exact ri_range1 O.bi g1 v1 v2.1 v3 (v4 ▸ k4)
            · obtain ⟨a, b, rfl⟩ := len2 k4
              simp only [noStars, Bool.and_eq_true] at v2
              exact ri_range2 O.bi g1 v1 v2.1 v2.2.1 v3 (v4 ▸ k4)
          · cases h6
        | enum =>
          simp only [Bool.and_eq_true] at h6
          obtain ⟨ht, h6⟩ := h6
          obtain ⟨es', k', p', rfl⟩ := tupE_of ht
          split at h6
          · simp only [Bool.and_eq_true, decide_eq_true_eq] at h6
            obtain ⟨⟨⟨rfl, k2⟩, k3⟩, k4⟩ := h6
            obtain ⟨g1, _, _⟩ := O.glob k2
            obtain ⟨v1, v2, v3, v4, _⟩ := sndV src O k3
            obtain ⟨a, rfl⟩ := len1 k4
            simp only [noStars, Bool.and_eq_true] at v2
            exact ri_enum O.bi g1 v1 v2.1
          · cases h6
        | zip =>
          simp only [Bool.and_eq_true] at h6
          obtain ⟨ht, h6⟩ := h6
          obtain ⟨es', k', p', rfl⟩ := tupE_of ht
          split at h6
          · simp only [Bool.and_eq_true, decide_eq_true_eq] at h6
            obtain ⟨⟨⟨rfl, k2⟩, k3⟩, k4⟩ := h6
            obtain ⟨g1, _, _⟩ := O.glob k2
            obtain ⟨v1, v2, v3, v4, _⟩ := sndV src O k3
            obtain ⟨a, b, rfl⟩ := len2 k4
            simp only [noStars, Bool.and_eq_true] at v2
            exact ri_zip O.bi g1 v1 v2.1 v2.2.1
          · cases h6
      refine .of (rd_comp O.calm O.nd hi bo (blkOf_snd Γ tg) (fun s H C' cl fp => pg_T (O.blk s H scope cl C' fp).sto h2) (fun s H C' cl fp => ?_) (fun s H C' cl fp => (snd elt (O.blk s H scope cl C' fp) h4).dat pe) (foldSet h3)).2 (fun _ => rfl) (fun _ _ _ z => nomatch z)
      split at h5
      · exact pts_gone h5
      · simp only [Bool.and_eq_true, Bool.not_eq_true'] at h5
        exact pts_cond h5.1 (snd cond (O.blk s H scope cl C' fp) h5.2).2.1
      · cases h5
    · cases h
  | .absent, Γ, X, e, O, h => by simp [mE] at h
theorem sndV : ∀ (ts : List E) {Γ : Cn} {X : Cx} {xs : List Expr} (O : XOk Γ n X), mEs ts Γ xs = true → PA X xs (tV X.K ta (callF Γ.T n) ts) ∧ noStars xs = true ∧ (∀ t ∈ ts, notStarE t = true) ∧ xs.length = ts.length ∧ ∀ t x, ts = [t] → xs = [x] → Snd Γ n X ta t x
  | [], Γ, X, xs, O, h => by
    cases xs with
    | nil => exact ⟨rv_nil, rfl, by simp, rfl, fun _ _ z => nomatch z⟩
    | cons _ _ => simp [mEs] at h
  | t :: r, Γ, X, xs, O, h => by
    cases xs with
    | nil => simp [mEs] at h
    | cons x q =>
      simp only [mEs, Bool.and_eq_true] at h
      obtain ⟨⟨h1, h2⟩, h3⟩ := h
      obtain ⟨v1, v2, v3, v4, _⟩ := sndV r O h3
      have ht := snd t O h2
      refine ⟨rv_cons ht.1 v1 h1 (notStar_of h2), by simp [noStars, h1, v2], fun u hu => ?_, by simp [v4], fun t0 x0 z1 z2 => by cases z1; cases z2; exact ht⟩
      rcases List.mem_cons.mp hu with z | z
      · rw [z]; exact notStar_of h2
      · exact v3 u z
theorem sndK : ∀ (ts : List E) {Γ : Cn} {X : Cx} {xs : List Expr} (O : XOk Γ n X), mDs ts Γ xs = true → PA X xs (tK X.K ta (callF Γ.T n) ts) ∧ noStars xs = true ∧ (∀ t ∈ ts, notStarE t = true) ∧ xs.length = ts.length ∧ ∀ t x, ts = [t] → xs = [x] → PE X x (tE X.K ta (callF Γ.T n) .dat t)
  | [], Γ, X, xs, O, h => by
    cases xs with
    | nil => exact ⟨rk_nil, rfl, by simp, rfl, fun _ _ z => nomatch z⟩
    | cons _ _ => simp [mDs] at h
  | t :: r, Γ, X, xs, O, h => by
    cases xs with
    | nil => simp [mDs] at h
    | cons x q =>
      simp only [mDs, Bool.and_eq_true] at h
      obtain ⟨⟨⟨h1, hp⟩, h2⟩, h3⟩ := h
      obtain ⟨v1, v2, v3, v4, _⟩ := sndK r O h3
      have ht := (snd t O h2).dat hp
      refine ⟨rk_cons ht v1 h1 (notStar_of h2), by simp [noStars, h1, v2], fun u hu => ?_, by simp [v4], fun t0 x0 z1 z2 => by cases z1; cases z2; exact ht⟩
      rcases List.mem_cons.mp hu with z | z
      · rw [z]; exact notStar_of h2
      · exact v3 u z
theorem sndP : ∀ (ts : List E) {Γ : Cn} {X : Cx} {kws : List Keyword} (O : XOk Γ n X), mDs ts Γ (kwVals kws) = true → PK X kws (tK X.K ta (callF Γ.T n) ts) ∧ (∀ t ∈ ts, notStarE t = true) ∧ kws.length = ts.length
  | [], Γ, X, kws, O, h => by
    cases kws with
    | nil => exact ⟨pk_nilK, by simp, rfl⟩
    | cons k _ => cases k; simp [mDs, kwVals] at h
  | t :: r, Γ, X, kws, O, h => by
    cases kws with
    | nil => simp [mDs, kwVals] at h
    | cons k q =>
      obtain ⟨nm, x, kp⟩ := k
      simp only [mDs, kwVals, Bool.and_eq_true] at h
      obtain ⟨⟨⟨h1, hp⟩, h2⟩, h3⟩ := h
      obtain ⟨v1, v3, v4⟩ := sndP r O h3
      refine ⟨pk_consK ((snd t O h2).dat hp) v1 (notStar_of h2), fun u hu => ?_, by simp [v4]⟩
      rcases List.mem_cons.mp hu with z | z
      · rw [z]; exact notStar_of h2
      · exact v3 u z
theorem sndI : ∀ (ts : List E) {Γ : Cn} {X : Cx} {xs : List Expr} (O : XOk Γ n X), mIs ts Γ xs = true → PA X xs (tK X.K ta (callF Γ.T n) ts)
  | [], Γ, X, xs, O, h => by
    cases xs with
    | nil => exact rk_nil
    | cons _ _ => simp [mIs] at h
  | .star t :: r, Γ, X, xs, O, h => by
    simp only [mIs] at h
    split at h
    · simp only [Bool.and_eq_true] at h
      exact rk_star (snd t O h.1).1 (sndI r O h.2)
    · cases h
  | t :: r, Γ, X, xs, O, h => by
    by_cases hs : notStarE t = true
    · rw [mIs_cons hs] at h
      cases xs with
      | nil => simp at h
      | cons x q =>
        simp only [Bool.and_eq_true] at h
        obtain ⟨⟨⟨h1, hp⟩, h2⟩, h3⟩ := h
        exact rk_cons ((snd t O h2).dat hp) (sndI r O h3) h1 hs
    · cases t <;> first | (exact absurd rfl hs) | skip
      rename_i t0
      simp only [mIs] at h
      split at h
      · simp only [Bool.and_eq_true] at h
        exact rk_star (snd t0 O h.1).1 (sndI r O h.2)
      · cases h
end
end
end KN

set_option maxRecDepth 100000
set_option maxHeartbeats 4000000
namespace KN
open PySem L2 PyProof.Rows
/-! ### the text of statements -/
def isStarE : Expr → Bool
  | .Starred .. => true
  | _ => false
/-- how a, b = x, y is stored: some (some names): name by name; some none: by a tuple -/
def swN (sc : Scope) (ts vs : List Expr) : Option (Option (List Str)) :=
  if !(ts.length == 2 || ts.length == 3) || vs.length != ts.length then some none else
  if vs.any fun | .Starred .. => true | _ => false then some none else
  let line := (ts.head?.map (·.pos.line)).getD 0
  let names := ts.filterMap fun
    | .Name id pos => if sc.names.lookup id == some .local && pos.line == line then some id else none
    | _ => none
  if names.length != ts.length || names.eraseDups.length != names.length then some none else
  if vs.all (foldedForSure 8) then some none else
  if vs.all (constantsAlone 8) then none else some (some names)
def isComp : Expr → Bool
  | .ListComp .. => true
  | .SetComp .. => true
  | .DictComp .. => true
  | _ => false
def isTupV : Expr → Bool
  | .Tuple .. => true
  | _ => false
/-- name = value: stored within a comprehension's frame? some true: yes -/
def swC (sc : Scope) (x : Str) (px : Pos) (v : Expr) : Bool := match v with
  | .ListComp _ _ scope p => (sc.names.lookup x == some .local) && (px.line == p.line) && !(scope.names.any fun (n, k) => n == x && (k == .local || k == .cell))
  | _ => false
def isEComp : E → Bool
  | .comp _ _ _ _ _ => true
  | _ => false
def mSrc (ik : IK) (src : List E) (Γ : Cn) (t it : Expr) : Bool := match ik with
  | .ex => mDs src Γ [it]
  | .range => (match it with
    | .Call (.Name x _) args [] _ => decide (x = "range") && glOk Γ x && mEs src Γ args && decide (args.length = 1 ∨ args.length = 2)
    | _ => false)
  | .enum => isTupE t && (match it with
    | .Call (.Name x _) args [] _ => decide (x = "enumerate") && glOk Γ x && mDs src Γ args && decide (args.length = 1)
    | _ => false)
  | .zip => isTupE t && (match it with
    | .Call (.Name x _) args [] _ => decide (x = "zip") && glOk Γ x && mDs src Γ args && decide (args.length = 2)
    | _ => false)
mutual
def mS (fr : Bool) : S → Cn → Stmt → Bool
  | .asg i e, Γ, s => (match s with
    | .Assign [.Name x px] v _ => decide (Γ.N[i]? = some x) && stOk Γ x && plain e && mE e Γ v && (!isComp v || isEComp e)
    | _ => false)
  | .asgO i e, Γ, s => (match s with
    | .Assign [.Name x px] v _ => decide (Γ.N[i]? = some x) && stOk Γ x && decide (kdOf e = .fresh) && mE e Γ v && (!isComp v || isEComp e)
    | _ => false)
  | .unp is e, Γ, s => (match s with
    | .Assign [.Tuple ts k p] v _ => mNames Γ is ts && plain e && mE e Γ v && (match v with
      | .Tuple vs _ _ => decide (swN Γ.sc ts vs = some none)
      | _ => true)
    | _ => false)
  | .par i j a b, Γ, s => (match s with
    | .Assign [.Tuple [.Name x px, .Name y py] k p] (.Tuple [u, v] k2 p2) _ => decide (Γ.N[i]? = some x) && decide (Γ.N[j]? = some y) && decide (i ≠ j) && decide (Γ.sc.names.lookup x = some .local) && decide (Γ.sc.names.lookup y = some .local) &&
      decide (swN Γ.sc [.Name x px, .Name y py] [u, v] = some (some [x, y])) && notStar u && notStar v && plain a && plain b && mE a Γ u && mE b Γ v
    | _ => false)
  | .sto i ix e, Γ, s => (match s with
    | .Assign [.Subscript (.Name x _) k _] v _ => nameOk Γ i x && plain e && mE e Γ v && mE ix Γ k && !isComp v && notSlice k
    | _ => false)
  | .stoT i ix e, Γ, s => (match s with
    | .Assign [.Subscript (.Name x _) k _] v _ => nameOk Γ i x && plain e && mE e Γ v && mE ix Γ k && !isComp v && notSlice k
    | _ => false)
  | .app i e, Γ, s => (match s with
    | .Expr (.Call (.Attribute (.Name x _) m ap) [v] [] cp) _ => decide (m = "append") && nameOk Γ i x && notStar v && plain e && mE e Γ v && (ap.endLine == cp.line)
    | _ => false)
  | .expr e, Γ, s => (match s with
    | .Expr v _ => mE e Γ v && !isComp v
    | _ => false)
  | .ret e, Γ, s => (match s with
    | .Return (some v) _ => mE e Γ v && (if fr then decide (kdOf e = .fresh) else plain e)
    | _ => false)
  | .ite c a b, Γ, s => (match s with
    | .If t p q _ => mE c Γ t && mSs fr a Γ p && mSs fr b Γ q
    | _ => false)
  | .loop tg ik src body, Γ, s => (match s with
    | .For t it p [] _ => mTg Γ tg t && notSet it && mSrc ik src Γ t it && mSs fr body Γ p
    | _ => false)
  | .while _ c body, Γ, s => (match s with
    | .While t p [] _ => mE c Γ t && mSs fr body Γ p
    | _ => false)
  | .cont, Γ, s => (match s with
    | .Continue _ => true
    | _ => false)
  | .pass, Γ, s => (match s with
    | .Pass _ => true
    | _ => false)
  | .frz _, _, _ => false
def mSs (fr : Bool) : List S → Cn → List Stmt → Bool
  | [], _, ss => ss.isEmpty
  | .frz _ :: r, Γ, ss => mSs fr r Γ ss
  | t :: r, Γ, ss => (match ss with
    | s :: q => mS fr t Γ s && mSs fr r Γ q
    | [] => false)
end
/-! ### states of a def's body -/
structure RelS (K : Fg) (ta : Option Addr) (G₀ H₀ G : Hp) (σ : L2.St) (H : Hp) (ρ : En) (τ : List D) : Prop where
  rel : Rel K ta G σ H ρ τ
  ext : Ext ta G₀ H₀ G H
  new : ∀ (i : Nat) ds a, ρ[i]? = some (some (.own ds)) → σ[i]? = some (some (.ref a)) → H₀ a = none
section
variable {K : Fg} {ta : Option Addr} {G₀ H₀ G H G' H' : Hp} {σ : L2.St} {ρ : En} {τ τ' : List D} {v : V} {d : D}
/-- behind an expression -/
theorem RelS.step (S : RelS K ta G₀ H₀ G σ H ρ τ) (x : Ext ta G H G' H') (r : Rel K ta G' σ H' ρ τ') : RelS K ta G₀ H₀ G' σ H' ρ τ' := ⟨r, S.ext.trans x, S.new⟩
theorem RelS.setDat (S : RelS K ta G₀ H₀ G σ H ρ τ) (h : DR K G v d) (i : Nat) : RelS K ta G₀ H₀ G (σ.set i (some v)) H (ρ.set i (some (.dat d))) τ := by
  refine ⟨S.rel.setDat h i, S.ext, fun j ds a e1 e2 => ?_⟩
  rcases get_set e1 with ⟨rfl, _, z⟩ | ⟨hj, e1⟩
  · cases z
  · rw [List.getElem?_set_ne (Ne.symm hj)] at e2
    exact S.new j ds a e1 e2
/-- a list of one's own to a slot -/
theorem RelS.setOwn (S : RelS K ta G₀ H₀ G σ H ρ τ) {a : Addr} {vs : List V} {ds : List D} (h0 : H₀ a = none) (ht : ta ≠ some a) (hG : G a = none) (hH : H a = some (.lst vs)) (dr : DRs K G vs ds) (hn : ∀ (j : Nat) es, ρ[j]? = some (some (.own es)) → σ[j]? ≠ some (some (.ref a))) (i : Nat) :
    RelS K ta G₀ H₀ G (σ.set i (some (.ref a))) H (ρ.set i (some (.own ds))) τ := by
  have R := S.rel
  have ne : ∀ {j : Nat}, j ≠ i → (σ.set i (some (V.ref a)))[j]? = σ[j]? := fun {j} hj => List.getElem?_set_ne (Ne.symm hj)
  refine ⟨⟨R.sub, R.tin, fun j d' e => ?_, fun j es e => ?_, fun j k es fs b hjk e1 e2 e3 => ?_, fun j e => ?_, by rw [List.length_set, List.length_set]; exact R.len⟩, S.ext, fun j es b e1 e2 => ?_⟩
  · rcases get_set e with ⟨rfl, hl, z⟩ | ⟨hj, e⟩
    · cases z
    · rw [ne hj]; exact R.dat j d' e
  · rcases get_set e with ⟨rfl, hl, z⟩ | ⟨hj, e⟩
    · cases z
      exact ⟨a, vs, List.getElem?_set_self (Nat.lt_of_lt_of_le hl R.len), ht, hG, hH, dr⟩
    · rw [ne hj]; exact R.own j es e
  · rcases get_set e1 with ⟨rfl, hl, z⟩ | ⟨hj, e1⟩
    · rcases get_set e2 with ⟨rfl, _, _⟩ | ⟨hk, e2⟩
      · exact absurd rfl hjk
      · rw [List.getElem?_set_self (Nat.lt_of_lt_of_le hl R.len)] at e3
        cases e3
        rw [ne hk]
        exact hn k fs e2
    · have e1' := e1
      rcases get_set e2 with ⟨z0, hl, z⟩ | ⟨hk, e2⟩
      · rw [ne hj] at e3
        rw [z0, List.getElem?_set_self (Nat.lt_of_lt_of_le hl R.len)]
        intro z2
        cases z2
        exact hn j es e1' e3
      · rw [ne hj] at e3
        rw [ne hk]
        exact R.apart j k es fs b hjk e1 e2 e3
  · rcases get_set e with ⟨rfl, hl, z⟩ | ⟨hj, e⟩
    · cases z
    · rw [ne hj]; exact R.tn j e
  · rcases get_set e1 with ⟨rfl, hl, z⟩ | ⟨hj, e1⟩
    · rw [List.getElem?_set_self (Nat.lt_of_lt_of_le hl R.len)] at e2
      cases e2
      exact h0
    · rw [ne hj] at e2
      exact S.new j es b e1 e2
/-- one's own list is changed -/
theorem RelS.write (S : RelS K ta G₀ H₀ G σ H ρ τ) {i : Nat} {a : Addr} {es : List D} {vs : List V} {ds : List D} (ho : ρ[i]? = some (some (.own es))) (hs : σ[i]? = some (some (.ref a))) (dr : DRs K G vs ds) :
    RelS K ta G₀ H₀ G σ (upd H a (.lst vs)) (ρ.set i (some (.own ds))) τ := by
  have R := S.rel
  obtain ⟨a', ws, q1, q2, q3, q4, q5⟩ := R.own i es ho
  rw [hs] at q1
  cases q1
  have h0 : H₀ a = none := S.new i es a ho hs
  have il : i < ρ.length := (List.getElem?_eq_some_iff.mp ho).1
  refine ⟨⟨fun b u h => ?_, fun b e => ?_, fun j d' e => ?_, fun j fs e => ?_, fun j k fs gs b hjk e1 e2 e3 => ?_, fun j e => ?_, by rw [List.length_set]; exact R.len⟩, S.ext.updNew h0, fun j fs b e1 e2 => ?_⟩
  · rw [upd_ne (fun z => by subst z; rw [q3] at h; cases h)]; exact R.sub b u h
  · obtain ⟨h1, us, h2, h3⟩ := R.tin b e
    exact ⟨h1, us, by rw [upd_ne (fun z => q2 (by rw [e, z]))]; exact h2, h3⟩
  · rcases get_set e with ⟨rfl, hl, z⟩ | ⟨hj, e⟩
    · cases z
    · exact R.dat j d' e
  · rcases get_set e with ⟨rfl, hl, z⟩ | ⟨hj, e⟩
    · cases z
      exact ⟨a, vs, hs, q2, q3, upd_same, dr⟩
    · obtain ⟨b, us, h1, h2, h3, h4, h5⟩ := R.own j fs e
      refine ⟨b, us, h1, h2, h3, ?_, h5⟩
      rw [upd_ne (fun z => by subst z; exact R.apart j i fs es b hj e ho h1 hs)]
      exact h4
  · have back : ∀ {j : Nat} {fs : List D}, (ρ.set i (some (.own ds)))[j]? = some (some (.own fs)) → ∃ fs', ρ[j]? = some (some (.own fs')) := fun {j fs} e => by
      rcases get_set e with ⟨rfl, _, _⟩ | ⟨_, e⟩
      · exact ⟨es, ho⟩
      · exact ⟨fs, e⟩
    obtain ⟨f1, k1⟩ := back e1
    obtain ⟨f2, k2⟩ := back e2
    exact R.apart j k f1 f2 b hjk k1 k2 e3
  · rcases get_set e with ⟨rfl, hl, z⟩ | ⟨hj, e⟩
    · cases z
    · exact R.tn j e
  · rcases get_set e1 with ⟨rfl, hl, z⟩ | ⟨hj, e1⟩
    · rw [hs] at e2
      cases e2
      exact h0
    · exact S.new j fs b e1 e2
/-- the box is changed -/
theorem RelS.box (S : RelS K (some a) G₀ H₀ G σ H ρ τ) {vs : List V} {ds : List D} (dr : DRs K G vs ds) : RelS K (some a) G₀ H₀ G σ (upd H a (.lst vs)) ρ ds := by
  have R := S.rel
  obtain ⟨h1, us, h2, h3⟩ := R.tin a rfl
  refine ⟨⟨fun b u h => ?_, fun b e => ?_, R.dat, fun j fs e => ?_, R.apart, R.tn, R.len⟩, ⟨S.ext.g, S.ext.new, fun b u n h => ?_, fun b u h => ?_⟩, S.new⟩
  · rw [upd_ne (fun z => by subst z; rw [h1] at h; cases h)]; exact R.sub b u h
  · cases e
    exact ⟨h1, vs, upd_same, dr⟩
  · obtain ⟨b, us, k1, k2, k3, k4, k5⟩ := R.own j fs e
    exact ⟨b, us, k1, k2, k3, by rw [upd_ne (fun z => k2 (by rw [z]))]; exact k4, k5⟩
  · rw [upd_ne (fun z => n (by rw [z]))]; exact S.ext.keep b u n h
  · obtain ⟨o, e⟩ := S.ext.there b u h
    by_cases z : b = a
    · subst z; exact ⟨_, upd_same⟩
    · exact ⟨o, by rw [upd_ne z]; exact e⟩
/-- one's own list is laid to the frozen part -/
theorem RelS.freeze (S : RelS K ta G₀ H₀ G σ H ρ τ) {i : Nat} {es : List D} (ho : ρ[i]? = some (some (.own es))) : ∃ G', Same G G' ∧ RelS K ta G₀ H₀ G' σ H (ρ.set i (some (.dat (.list es)))) τ := by
  have R := S.rel
  obtain ⟨a, ws, q1, q2, q3, q4, q5⟩ := R.own i es ho
  have h0 : H₀ a = none := S.new i es a ho q1
  have sm : Same G (upd G a (.lst ws)) := fun b o h => by rw [upd_ne (ne_of_none h q3)]; exact h
  refine ⟨upd G a (.lst ws), sm, ⟨fun b u h => ?_, fun b e => ?_, fun j d' e => ?_, fun j fs e => ?_, fun j k fs gs b hjk e1 e2 e3 => ?_, fun j e => ?_, by rw [List.length_set]; exact R.len⟩, ⟨S.ext.g.trans sm, fun b u h => ?_, S.ext.keep, S.ext.there⟩, fun j fs b e1 e2 => ?_⟩
  · by_cases z : b = a
    · subst z; rw [upd_same] at h; cases h; exact q4
    · rw [upd_ne z] at h; exact R.sub b u h
  · obtain ⟨h1, us, h2, h3⟩ := R.tin b e
    exact ⟨by rw [upd_ne (fun z => q2 (by rw [e, z]))]; exact h1, us, h2, h3.same sm⟩
  · rcases get_set e with ⟨rfl, hl, z⟩ | ⟨hj, e⟩
    · cases z
      exact ⟨_, q1, .lst (.inl (.inl upd_same)) (q5.same sm)⟩
    · obtain ⟨w, k1, k2⟩ := R.dat j d' e
      exact ⟨w, k1, k2.same sm⟩
  · rcases get_set e with ⟨rfl, hl, z⟩ | ⟨hj, e⟩
    · cases z
    · obtain ⟨b, us, h1, h2, h3, h4, h5⟩ := R.own j fs e
      exact ⟨b, us, h1, h2, by rw [upd_ne (fun z => by subst z; exact R.apart j i fs es b hj e ho h1 q1)]; exact h3, h4, h5.same sm⟩
  · rcases get_set e1 with ⟨rfl, _, z⟩ | ⟨_, e1⟩
    · cases z
    · rcases get_set e2 with ⟨rfl, _, z⟩ | ⟨_, e2⟩
      · cases z
      · exact R.apart j k fs gs b hjk e1 e2 e3
  · rcases get_set e with ⟨rfl, hl, z⟩ | ⟨hj, e⟩
    · cases z
    · exact R.tn j e
  · by_cases z : b = a
    · subst z; exact .inr h0
    · rw [upd_ne z] at h; exact S.ext.new b u h
  · rcases get_set e1 with ⟨rfl, _, z⟩ | ⟨_, e1⟩
    · cases z
    · exact S.new j fs b e1 e2
end
end KN

set_option maxRecDepth 100000
set_option maxHeartbeats 4000000
namespace KN
open PySem L2 PyProof.Rows
def FinO (K : Fg) (ta : Option Addr) (G₀ H₀ G : Hp) (kr : Kd) (Dn : Ends) (τ' : List D) : Out → Prop
  | .nx ρ' => ∀ σ' G' H', Same G G' → RelS K ta G₀ H₀ G' σ' H' ρ' τ' → Dn.nx σ' H'
  | .ct ρ' => ∀ σ' G' H', Same G G' → RelS K ta G₀ H₀ G' σ' H' ρ' τ' → Dn.ct σ' H'
  | .rt d => ∀ v G' H', Ext ta G₀ H₀ G' H' → Same G' H' → TinOk K ta G' H' τ' → Val K ta H₀ G' H' kr v d → Dn.rt v H'
def tS (K : Fg) (ta : Option Addr) (G₀ H₀ : Hp) (kr : Kd) (run : En → M Out) : TS := fun Dn σ H => ∃ G ρ τ o τ', RelS K ta G₀ H₀ G σ H ρ τ ∧ run ρ τ = some (o, τ') ∧ FinO K ta G₀ H₀ G kr Dn τ' o
section
variable {X : Cx} {ta : Option Addr} {G₀ H₀ : Hp} {kr : Kd} {C : Nat → List D → M D} {st : Stmt}
theorem tE_of {K : Fg} {k : Kd} {e : E} {G H : Hp} {σ : L2.St} {ρ : En} {τ τ1 : List D} {d : D} {Q : VK} (S : RelS K ta G₀ H₀ G σ H ρ τ) (e1 : evE C e ρ τ = some (d, τ1)) (q : ∀ v G1 H1, Same G G1 → RelS K ta G₀ H₀ G1 σ H1 ρ τ1 → Ext ta G H G1 H1 → Val K ta H G1 H1 k v d → Q v H1) : tE K ta C k e σ H Q :=
  ⟨G, ρ, τ, d, τ1, S.rel, e1, fun v G1 H1 x1 R1 w1 => q v G1 H1 x1.g (S.step x1 R1) x1 w1⟩
/-! names -/
theorem rs_asg {i : Nat} {e : E} {k : Kd} {te : TE} (hk : k ≠ .peek) (imp : ∀ σ H Q, tE X.K ta C k e σ H Q → te σ H Q) (h : PS X st (tAsg te (gName i))) : PS X st (tS X.K ta G₀ H₀ kr (evS C (.asg i e))) :=
  PS.mono h fun Dn σ H h => by
    obtain ⟨G, ρ, τ, o, τ', S, e0, fin⟩ := h
    obtain ⟨d, τ1, e1, f1⟩ := bnd_some (x := evE C e ρ) e0
    cases ret_some f1
    refine imp σ H _ (tE_dat hk σ H _ (tE_of (k := .dat) S e1 fun v G1 H1 sm S1 _ w => ?_))
    exact fin _ G1 H1 sm (S1.setDat w i)
theorem rs_asgO {i : Nat} {e : E} {te : TE} (imp : ∀ σ H Q, tE X.K ta C .fresh e σ H Q → te σ H Q) (h : PS X st (tAsg te (gName i))) : PS X st (tS X.K ta G₀ H₀ kr (evS C (.asgO i e))) :=
  PS.mono h fun Dn σ H h => by
    obtain ⟨G, ρ, τ, o, τ', S, e0, fin⟩ := h
    obtain ⟨d, τ1, e1, f1⟩ := bnd_some (x := evE C e ρ) e0
    obtain ⟨ds, τ2, e2, f2⟩ := bnd_some f1
    cases d with
    | list es =>
      cases ret_some e2
      cases ret_some f2
      refine imp σ H _ (tE_of (k := .fresh) S e1 fun v G1 H1 sm S1 x1 w => ?_)
      rcases w with ⟨_, z⟩ | ⟨a, vs, fs, rfl, hfs, h0, hta, hga, hha, dr⟩
      · exact absurd rfl (z _)
      cases hfs
      refine fin _ G1 H1 sm (S1.setOwn (S.ext.none_of h0) hta hga hha dr (fun j es' ej hj => ?_) i)
      exact S.rel.ownThere j es' ej a hj h0
    | _ => cases e2
/-! a target of several names -/
theorem gNsS_ok {K : Fg} {G H : Hp} {τ : List D} {ρ' : En} {Q : L2.St → Hp → Prop} : ∀ {is : List Nat} {us : List V} {ds : List D} {σ : L2.St} {ρ : En}, RelS K ta G₀ H₀ G σ H ρ τ → DRs K G us ds → setDs is ds ρ = some ρ' →
    (∀ σ', RelS K ta G₀ H₀ G σ' H ρ' τ → Q σ' H) → gNs is us σ H Q
  | [], _, _, σ, ρ, R, .nil, e, q => by
    cases e
    exact ⟨rfl, q σ R⟩
  | [], _, _, σ, ρ, R, .cons _ _, e, q => by cases e
  | i :: is, _, _, σ, ρ, R, .nil, e, q => by cases e
  | i :: is, _, _, σ, ρ, R, .cons h r, e, q => ⟨_, _, rfl, gNsS_ok (R.setDat h i) r e q⟩
theorem gTS_ok {K : Fg} {G H : Hp} {σ : L2.St} {ρ ρ' : En} {τ : List D} {v : V} {d : D} {Q : L2.St → Hp → Prop} {tg : Tg} (R : RelS K ta G₀ H₀ G σ H ρ τ) (h : DR K G v d) (e : setTg tg d ρ = some ρ') (q : ∀ σ', RelS K ta G₀ H₀ G σ' H ρ' τ → Q σ' H) : gT K tg v σ H Q := by
  cases tg with
  | nm i =>
    cases e
    exact q _ (R.setDat h i)
  | tup is =>
    cases d with
    | tuple ds =>
      cases h with
      | tup hs dr => exact ⟨_, _, rfl, SqT.same R.rel.sub hs, by rw [dr.length]; exact setDs_len e, gNsS_ok R dr e q⟩
    | _ => cases e
theorem rs_unp {is : List Nat} {e : E} (h : PS X st (tAsg (tE X.K ta C .dat e) (gT X.K (.tup is)))) : PS X st (tS X.K ta G₀ H₀ kr (evS C (.unp is e))) :=
  PS.mono h fun Dn σ H h => by
    obtain ⟨G, ρ, τ, o, τ', S, e0, fin⟩ := h
    obtain ⟨d, τ1, e1, f1⟩ := bnd_some (x := evE C e ρ) e0
    cases d with
    | tuple ds =>
      obtain ⟨ρ', τ2, e2, f2⟩ := bnd_some f1
      obtain ⟨g2, rfl⟩ := of_some e2
      cases ret_some f2
      refine tE_of (k := .dat) S e1 fun v G1 H1 sm S1 _ w => ?_
      exact gTS_ok (tg := .tup is) S1 w g2 fun σ' S' => fin σ' G1 H1 sm S'
    | _ => cases f1
theorem rs_par {i j : Nat} {a b : E} (ha : notStarE a = true) (hb : notStarE b = true) (h : PS X st (tPar i j (tK X.K ta C [a, b]))) : PS X st (tS X.K ta G₀ H₀ kr (evS C (.par i j a b))) :=
  PS.mono h fun Dn σ H h => by
    obtain ⟨G, ρ, τ, o, τ', S, e0, fin⟩ := h
    obtain ⟨x, τ1, e1, f1⟩ := bnd_some (x := evE C a ρ) e0
    obtain ⟨y, τ2, e2, f2⟩ := bnd_some (x := evE C b ρ) f1
    cases ret_some f2
    refine ⟨G, ρ, τ, [x, y], τ', S.rel, ?_, fun vs G1 H1 x1 R1 w1 => ?_⟩
    · rw [evEs_cons ha]
      unfold M.bnd
      rw [e1]
      show (evEs C [b] ρ).bnd (fun ys => M.ret (x :: ys)) τ1 = _
      rw [evEs_cons hb]
      unfold M.bnd
      rw [e2]
      rfl
    · cases w1 with
      | cons d1 r1 =>
        cases r1 with
        | cons d2 r2 =>
          cases r2
          exact ⟨_, _, rfl, fin _ G1 H1 x1.g (((S.step x1 R1).setDat d1 i).setDat d2 j)⟩
/-! stores -/
theorem rs_sto {i : Nat} {ix e : E} {k : Kd} (h : PS X st (tAsg (tE X.K ta C .dat e) (gSub (tVar i) (tE X.K ta C k ix) rSetL))) : PS X st (tS X.K ta G₀ H₀ kr (evS C (.sto i ix e))) :=
  PS.mono h fun Dn σ H h => by
    obtain ⟨G, ρ, τ, o, τ', S, e0, fin⟩ := h
    obtain ⟨d, τ1, e1, f1⟩ := bnd_some (x := evE C e ρ) e0
    obtain ⟨y, τ2, e2, f2⟩ := bnd_some (x := evE C ix ρ) f1
    obtain ⟨ds, τ3, e3, f3⟩ := bnd_some f2
    obtain ⟨ds', τ4, e4, f4⟩ := bnd_some f3
    obtain ⟨g4, rfl⟩ := of_some e4
    cases ret_some f4
    have e3 : (match ρ[i]? with
      | some (some (.own ds)) => some (ds, τ2)
      | _ => none) = some (ds, τ') := e3
    split at e3
    · rename_i es ho
      cases e3
      refine tE_of (k := .dat) S e1 fun v G1 H1 sm S1 _ w => ?_
      obtain ⟨a, ws, q1, q2, q3, q4, q5⟩ := S1.rel.own i _ ho
      refine ⟨_, q1, tE_of (k := k) S1 e2 fun v2 G2 H2 sm2 S2 x2 w2 => ?_⟩
      obtain ⟨a', ws', p1, p2, p3, p4, p5⟩ := S2.rel.own i _ ho
      rw [q1] at p1
      cases p1
      cases y with
      | int kk =>
        have g4 : (match ixN ds.length kk with
          | some j => some (ds.set j d)
          | none => none) = some ds' := g4
        split at g4
        · rename_i j hj
          cases g4
          refine ⟨a, ws', kk, j, rfl, w2.view.int, p4, by rw [p5.length]; exact hj, ?_⟩
          exact fin _ G2 _ (sm.trans sm2) (S2.write ho q1 (DRs.set (DR.same sm2 w) j p5))
        · cases g4
      | _ => cases g4
    · cases e3
theorem rs_stoT {i : Nat} {ix e : E} {k : Kd} (h : PS X st (tAsg (tE X.K ta C .dat e) (gSub (tVar i) (tE X.K ta C k ix) rSetL))) : PS X st (tS X.K ta G₀ H₀ kr (evS C (.stoT i ix e))) :=
  PS.mono h fun Dn σ H h => by
    obtain ⟨G, ρ, τ, o, τ', S, e0, fin⟩ := h
    obtain ⟨d, τ1, e1, f1⟩ := bnd_some (x := evE C e ρ) e0
    obtain ⟨y, τ2, e2, f2⟩ := bnd_some (x := evE C ix ρ) f1
    have f2 : (if isTin ρ i then (match stoD τ2 y d with
      | some τ' => some (Out.nx ρ, τ')
      | none => none) else none) = some (o, τ') := f2
    split at f2
    · rename_i ht
      split at f2
      · rename_i τ3 hs
        cases f2
        obtain ⟨a, rfl, h1⟩ := S.rel.tn i (isTin_at ht)
        refine tE_of (k := .dat) S e1 fun v G1 H1 sm S1 _ w => ?_
        refine ⟨_, h1, tE_of (k := k) S1 e2 fun v2 G2 H2 sm2 S2 x2 w2 => ?_⟩
        obtain ⟨p1, ws, p2, p3⟩ := S2.rel.tin a rfl
        cases y with
        | int kk =>
          have hs : (match ixN τ2.length kk with
            | some j => some (τ2.set j d)
            | none => none) = some τ' := hs
          split at hs
          · rename_i j hj
            cases hs
            refine ⟨a, ws, kk, j, rfl, w2.view.int, p2, by rw [p3.length]; exact hj, ?_⟩
            exact fin _ G2 _ (sm.trans sm2) (S2.box (DRs.set (DR.same sm2 w) j p3))
          · cases hs
        | _ => cases hs
      · cases f2
    · cases f2
theorem rs_app {i : Nat} {e : E} (he : notStarE e = true) (h : PS X st (tDrop (tBM X.K "list" rAppend (tVar i) (tK X.K ta C [e])))) : PS X st (tS X.K ta G₀ H₀ kr (evS C (.app i e))) :=
  PS.mono h fun Dn σ H h => by
    obtain ⟨G, ρ, τ, o, τ', S, e0, fin⟩ := h
    obtain ⟨d, τ1, e1, f1⟩ := bnd_some (x := evE C e ρ) e0
    obtain ⟨ds, τ2, e2, f2⟩ := bnd_some f1
    have e2 : (match ρ[i]? with
      | some (some (.own ds)) => some (ds, τ1)
      | _ => none) = some (ds, τ2) := e2
    split at e2
    · rename_i es ho
      cases e2
      split at f2
      · rename_i hz
        cases ret_some f2
        obtain ⟨a, ws, q1, q2, q3, q4, q5⟩ := S.rel.own i _ ho
        refine ⟨_, q1, .inl ⟨rfl, _, SqL.of q4⟩, G, ρ, τ, [d], τ', S.rel, ?_, fun vs G1 H1 x1 R1 w1 => ?_⟩
        · rw [evEs_cons he]
          unfold M.bnd
          rw [e1]
          rfl
        · cases w1 with
          | cons d1 r1 =>
            cases r1
            obtain ⟨a', ws', p1, p2, p3, p4, p5⟩ := R1.own i _ ho
            rw [q1] at p1
            cases p1
            have hl : ws'.length < sizeLine := by
              have := lineOk_le hz
              rw [p5.length]
              omega
            exact ⟨a, ws', _, rfl, rfl, p4, hl, fin _ G1 _ x1.g ((S.step x1 R1).write ho q1 (p5.append (.cons d1 .nil)))⟩
      · cases f2
    · cases e2
theorem rs_expr {e : E} {k : Kd} (h : PS X st (tDrop (tE X.K ta C k e))) : PS X st (tS X.K ta G₀ H₀ kr (evS C (.expr e))) :=
  PS.mono h fun Dn σ H h => by
    obtain ⟨G, ρ, τ, o, τ', S, e0, fin⟩ := h
    obtain ⟨d, τ1, e1, f1⟩ := bnd_some (x := evE C e ρ) e0
    cases ret_some f1
    exact tE_of (k := k) S e1 fun v G1 H1 sm S1 _ _ => fin _ G1 H1 sm S1
theorem rs_ret {e : E} (hk : kr ≠ .peek) (h : PS X st (tRet (tE X.K ta C kr e))) : PS X st (tS X.K ta G₀ H₀ kr (evS C (.ret e))) :=
  PS.mono h fun Dn σ H h => by
    obtain ⟨G, ρ, τ, o, τ', S, e0, fin⟩ := h
    obtain ⟨d, τ1, e1, f1⟩ := bnd_some (x := evE C e ρ) e0
    cases ret_some f1
    refine tE_of (k := kr) S e1 fun v G1 H1 sm S1 x1 w => fin v G1 H1 S1.ext S1.rel.sub S1.rel.tin ?_
    exact w.first S.ext hk
theorem rs_ite {c : E} {a b : List S} {u v : TS} (h : PS X st (tIfS (tT X.K ta C c) (tS X.K ta G₀ H₀ kr (evSs C a)) (tS X.K ta G₀ H₀ kr (evSs C b)))) : PS X st (tS X.K ta G₀ H₀ kr (evS C (.ite c a b))) :=
  PS.mono h fun Dn σ H h => by
    obtain ⟨G, ρ, τ, o, τ', S, e0, fin⟩ := h
    obtain ⟨x, τ1, e1, f1⟩ := bnd_some (x := evE C c ρ) e0
    obtain ⟨k, τ2, e2, f2⟩ := bnd_some f1
    obtain ⟨g2, rfl⟩ := of_some e2
    refine ⟨G, ρ, τ, k, _, S.rel, tru_bnd (τ2 := τ) e1 g2, fun G1 H1 x1 R1 => ?_⟩
    have fin' : FinO X.K ta G₀ H₀ G1 kr Dn τ' o := by
      cases o with
      | nx ρ' => exact fun σ' G' H' s S' => fin σ' G' H' (x1.g.trans s) S'
      | ct ρ' => exact fun σ' G' H' s S' => fin σ' G' H' (x1.g.trans s) S'
      | rt d => exact fin
    cases k with
    | true => exact iteT ⟨G1, ρ, _, o, τ', S.step x1 R1, f2, fin'⟩
    | false => exact iteF ⟨G1, ρ, _, o, τ', S.step x1 R1, f2, fin'⟩
theorem FinO.up {K : Fg} {G G1 : Hp} {Dn : Ends} {τ' : List D} {o : Out} (s : Same G G1) (f : FinO K ta G₀ H₀ G kr Dn τ' o) : FinO K ta G₀ H₀ G1 kr Dn τ' o := by
  cases o with
  | nx ρ' => exact fun σ' G' H' s' S' => f σ' G' H' (s.trans s') S'
  | ct ρ' => exact fun σ' G' H' s' S' => f σ' G' H' (s.trans s') S'
  | rt d => exact f
/-! loops -/
theorem rs_loop {tg : Tg} {ik : IK} {src : List E} {body : List S} (h : PS X st (tFor (tIf X.K ta C ik src) (gT X.K tg) (tS X.K ta G₀ H₀ kr (evSs C body)))) : PS X st (tS X.K ta G₀ H₀ kr (evS C (.loop tg ik src body))) :=
  PS.mono h fun Dn σ H h => by
    obtain ⟨G, ρ, τ, o, τ', S, e0, fin⟩ := h
    obtain ⟨xs, τ1, e1, f1⟩ := bnd_some (x := evEs C src ρ) e0
    obtain ⟨items, τ2, e2, f2⟩ := bnd_some f1
    obtain ⟨g2, rfl⟩ := of_some e2
    refine ⟨G, ρ, τ, xs, _, items, S.rel, e1, g2, fun G1 H1 J x1 R1 wk => ?_⟩
    generalize hf : (fun d ρ => (M.of (setTg tg d ρ)).bnd fun ρ' => evSs C body ρ' : D → En → M Out) = f at f2
    refine ⟨fun i m σ2 H2 => i ≤ items.length ∧ m = items.length - i ∧ ∃ Gi ρi τi, Same G1 Gi ∧ RelS X.K ta G₀ H₀ Gi σ2 H2 ρi τi ∧ loopL f (items.drop i) ρi τi = some (o, τ'),
      ⟨_, Nat.zero_le _, rfl, G1, ρ, _, fun _ _ h => h, S.step x1 R1, f2⟩, ?_⟩
    rintro i m σ2 H2 ⟨hi, rfl, Gi, ρi, τi, sm, Si, ei⟩
    have sv : Same G1 H2 := sm.trans Si.rel.sub
    by_cases hlt : i < items.length
    · right
      refine ⟨wk.go i H2 sv hlt, fun σ' H' => i + 1 ≤ items.length ∧ items.length - (i + 1) = items.length - (i + 1) ∧ ∃ Gi ρi τi, Same G1 Gi ∧ RelS X.K ta G₀ H₀ Gi σ' H' ρi τi ∧ loopL f (items.drop (i + 1)) ρi τi = some (o, τ'),
        fun σ' H' h => ⟨items.length - (i + 1), by omega, h⟩, fun x H' y => ?_⟩
      have hd : items[i]? = some items[i] := List.getElem?_eq_getElem hlt
      rw [List.drop_eq_getElem_cons hlt] at ei
      obtain ⟨o1, τa, ea, fa⟩ := bnd_some (x := f items[i] ρi) ei
      obtain ⟨G', x', S', dx⟩ : ∃ G', Same Gi G' ∧ RelS X.K ta G₀ H₀ G' σ2 H' ρi τi ∧ DR X.K G' x items[i] := by
        rcases wk.yld i H2 x H' _ sv hd y with ⟨rfl, dr⟩ | ⟨T, a, b, va, vb, rfl, hT, rfl, hdt, da, db⟩
        · exact ⟨Gi, fun _ _ h => h, Si, dr.same sm⟩
        · have e := Ext.laid (ta := ta) (o := HO.tup [va, vb]) Si.rel.sub hT
          refine ⟨upd Gi T (.tup [va, vb]), e.g, Si.step e (Si.rel.laid hT), ?_⟩
          rw [hdt]
          exact .tup (.inl (.inl upd_same)) (.cons ((da.same sm).same e.g) (.cons ((db.same sm).same e.g) .nil))
      rw [← hf] at ea
      obtain ⟨ρ', τc, ec, fc⟩ := bnd_some ea
      obtain ⟨gc, rfl⟩ := of_some ec
      refine gTS_ok S' dx gc fun σ3 S3 => ⟨G', ρ', _, o1, τa, S3, fc, ?_⟩
      cases o1 with
      | nx ρ1 => exact fun σ' G'' H'' s S'' => ⟨hlt, rfl, G'', ρ1, τa, (sm.trans x').trans s, S'', fa⟩
      | ct ρ1 => exact fun σ' G'' H'' s S'' => ⟨hlt, rfl, G'', ρ1, τa, (sm.trans x').trans s, S'', fa⟩
      | rt d1 =>
        cases ret_some fa
        exact fin
    · left
      have hn : i = items.length := by omega
      subst hn
      rw [List.drop_length] at ei
      cases ret_some ei
      exact ⟨wk.stop H2 sv, fin σ2 Gi H2 (x1.g.trans sm) Si⟩
theorem rs_while {n0 : Nat} {c : E} {body : List S} (h : PS X st (tWhile (tT X.K ta C c) (tS X.K ta G₀ H₀ kr (evSs C body)))) : PS X st (tS X.K ta G₀ H₀ kr (evS C (.while n0 c body))) :=
  PS.mono h fun Dn σ H h => by
    obtain ⟨G, ρ, τ, o, τ', S, e0, fin⟩ := h
    refine ⟨fun m σ2 H2 => ∃ Gi ρi τi, Same G Gi ∧ RelS X.K ta G₀ H₀ Gi σ2 H2 ρi τi ∧ whileL (fun ρ => (evE C c ρ).bnd fun x => .of (truD x)) (fun ρ => evSs C body ρ) m ρi τi = some (o, τ'), ⟨n0, G, ρ, τ, fun _ _ h => h, S, e0⟩, ?_⟩
    rintro m σ2 H2 ⟨Gi, ρi, τi, sm, Si, ei⟩
    cases m with
    | zero => cases ei
    | succ m =>
      obtain ⟨k, τa, ea, fa⟩ := bnd_some (x := (evE C c ρi).bnd fun x => .of (truD x)) ei
      refine ⟨Gi, ρi, τi, k, τa, Si.rel, ea, fun G1 H1 x1 R1 => ?_⟩
      cases k with
      | false =>
        cases ret_some fa
        exact iteF (fin σ2 G1 H1 (sm.trans x1.g) (Si.step x1 R1))
      | true =>
        obtain ⟨o1, τb, eb, fb⟩ := bnd_some (x := evSs C body ρi) fa
        refine iteT ⟨fun σ' H' => ∃ Gi ρi τi, Same G Gi ∧ RelS X.K ta G₀ H₀ Gi σ' H' ρi τi ∧ whileL (fun ρ => (evE C c ρ).bnd fun x => .of (truD x)) (fun ρ => evSs C body ρ) m ρi τi = some (o, τ'), fun σ' H' h => ⟨m, Nat.lt_succ_self _, h⟩, G1, ρi, τa, o1, τb, Si.step x1 R1, eb, ?_⟩
        cases o1 with
        | nx ρ1 => exact fun σ' G'' H'' s S'' => ⟨G'', ρ1, τb, (sm.trans x1.g).trans s, S'', fb⟩
        | ct ρ1 => exact fun σ' G'' H'' s S'' => ⟨G'', ρ1, τb, (sm.trans x1.g).trans s, S'', fb⟩
        | rt d1 =>
          cases ret_some fb
          exact fin
theorem rs_cont (h : PS X st tCont) : PS X st (tS X.K ta G₀ H₀ kr (evS C .cont)) :=
  PS.mono h fun Dn σ H h => by
    obtain ⟨G, ρ, τ, o, τ', S, e0, fin⟩ := h
    cases ret_some e0
    exact fin σ G H (fun _ _ h => h) S
theorem rs_pass (h : PS X st tNext) : PS X st (tS X.K ta G₀ H₀ kr (evS C .pass)) :=
  PS.mono h fun Dn σ H h => by
    obtain ⟨G, ρ, τ, o, τ', S, e0, fin⟩ := h
    cases ret_some e0
    exact fin σ G H (fun _ _ h => h) S
/-! blocks -/
theorem rss_nil : PSs X [] (tS X.K ta G₀ H₀ kr (evSs C [])) :=
  PSs.mono pss_nil fun Dn σ H h => by
    obtain ⟨G, ρ, τ, o, τ', S, e0, fin⟩ := h
    cases ret_some e0
    exact fin σ G H (fun _ _ h => h) S
theorem rss_cons {s : S} {r : List S} {sts : List Stmt} (h1 : PS X st (tS X.K ta G₀ H₀ kr (evS C s))) (h2 : PSs X sts (tS X.K ta G₀ H₀ kr (evSs C r))) : PSs X (st :: sts) (tS X.K ta G₀ H₀ kr (evSs C (s :: r))) :=
  PSs.mono (pss_cons h1 h2) fun Dn σ H h => by
    obtain ⟨G, ρ, τ, o, τ', S, e0, fin⟩ := h
    obtain ⟨o1, τ1, e1, f1⟩ := bnd_some (x := evS C s ρ) e0
    refine ⟨G, ρ, τ, o1, τ1, S, e1, ?_⟩
    cases o1 with
    | nx ρ1 => exact fun σ' G' H' sm S' => ⟨G', ρ1, τ1, o, τ', S', f1, fin.up sm⟩
    | ct ρ1 =>
      cases ret_some f1
      exact fin
    | rt d1 =>
      cases ret_some f1
      exact fin
theorem rss_frz {i : Nat} {r : List S} {sts : List Stmt} (h2 : PSs X sts (tS X.K ta G₀ H₀ kr (evSs C r))) : PSs X sts (tS X.K ta G₀ H₀ kr (evSs C (.frz i :: r))) :=
  PSs.mono h2 fun Dn σ H h => by
    obtain ⟨G, ρ, τ, o, τ', S, e0, fin⟩ := h
    obtain ⟨o1, τ1, e1, f1⟩ := bnd_some (x := evS C (.frz i) ρ) e0
    obtain ⟨ds, τ2, e2, f2⟩ := bnd_some e1
    cases ret_some f2
    have e2 : (match ρ[i]? with
      | some (some (.own ds)) => some (ds, τ)
      | _ => none) = some (ds, τ1) := e2
    split at e2
    · rename_i es ho
      cases e2
      obtain ⟨G', sm, S'⟩ := S.freeze ho
      exact ⟨G', _, _, o, τ', S', f1, fin.up sm⟩
    · cases e2
end
end KN

set_option maxRecDepth 100000
set_option maxHeartbeats 4000000
namespace KN
open PySem L2 PyProof.Rows
theorem blk_fun {env : PySem.Env} (hk : env.scope.kind = .function) : env.blockKind = .function := by
  unfold Env.blockKind
  rw [hk]
  rfl
theorem sw_eq {env : PySem.Env} {ts vs : List Expr} {k k2 : Nat} {p p2 : Pos} {r : Option (List Str)} (hk : env.scope.kind = .function) (h : swN env.scope ts vs = some r) : swappedStores [.Tuple ts k p] (.Tuple vs k2 p2) env = pure r := by
  have hb := blk_fun hk
  unfold swappedStores
  unfold swN at h
  simp only [hb]
  have e0 : (ScopeKind.function != ScopeKind.function) = false := by decide
  simp only [e0, Bool.or_false]
  by_cases c1 : (!(ts.length == 2 || ts.length == 3) || vs.length != ts.length) = true
  · rw [if_pos c1] at h
    rw [if_pos c1]
    cases h
    rfl
  · rw [if_neg c1] at h
    rw [if_neg c1]
    split at h
    · rename_i c2
      cases h
      exact if_pos c2
    · rename_i c2
      refine (if_neg c2).trans ?_
      simp only at h
      split at h
      · rename_i c3
        cases h
        exact if_pos c3
      · rename_i c3
        refine (if_neg c3).trans ?_
        split at h
        · rename_i c4
          cases h
          exact if_pos c4
        · rename_i c4
          refine (if_neg c4).trans ?_
          split at h
          · cases h
          · rename_i c5
            cases h
            exact if_neg c5
theorem swap_comp {env : PySem.Env} {el : Expr} {gs : List Comprehension} {scope : Scope} {pos py : Pos} {y : Str} {l : Nat} (hk : env.scope.kind = .function) :
    swapsWith (.ListComp el gs scope pos) (some (.Name y py)) l env = pure (swC env.scope y py (.ListComp el gs scope pos)) := by
  have hb := blk_fun hk
  unfold swapsWith
  simp only [hb, Expr.pos]
  have e0 : (ScopeKind.function == ScopeKind.function) = true := by decide
  simp only [e0, Bool.true_and]
  rfl
section
variable {Γ : Cn} {n : Nat} {X : Cx} {ta : Option Addr}
theorem comp_parts {elt : E} {tg : Tg} {ik : IK} {src : List E} {cond : E} {e : Expr} (O : XOk Γ n X) (h : mE (.comp elt tg ik src cond) Γ e = true) :
    ∃ el t it ifs scope pos, e = .ListComp el [⟨t, it, ifs, 0⟩] scope pos ∧ PI X t it (tI X.K ta (callF Γ.T n) ik src) ∧ BlkOk X.N X.env.scope scope (blkOf Γ tg) ∧
      (∀ (s : Shared) (H : Hp) (C' : Addr) (cl : List (Str × Addr)) (fp : List Addr), PG (X.blk s H scope (compEnvC scope cl C' X.env) fp) t (gT X.K tg)) ∧
      (∀ (s : Shared) (H : Hp) (C' : Addr) (cl : List (Str × Addr)) (fp : List Addr), PTs (X.blk s H scope (compEnvC scope cl C' X.env) fp) ifs (tCond X.K ta (callF Γ.T n) cond)) ∧
      (∀ (s : Shared) (H : Hp) (C' : Addr) (cl : List (Str × Addr)) (fp : List Addr), PE (X.blk s H scope (compEnvC scope cl C' X.env) fp) el (tE X.K ta (callF Γ.T n) .dat elt)) ∧ ∀ x, foldedSetIterable it X.env x = pure x := by
  rw [mE_comp] at h
  split at h
  · simp only [Bool.and_eq_true, decide_eq_true_eq] at h
    obtain ⟨⟨⟨⟨⟨⟨⟨pe, h1⟩, h2⟩, h3⟩, _⟩, h4⟩, h5⟩, h6⟩ := h
    rename_i el t it ifs scope pos _
    have bo : BlkOk X.N X.env.scope scope (blkOf Γ tg) := by rw [O.N, O.sc]; exact blkOk_by h1
    refine ⟨el, t, it, ifs, scope, pos, rfl, ?_, bo, (fun s H C' cl fp => pg_T (O.blk s H scope cl C' fp).sto h2), (fun s H C' cl fp => ?_), (fun s H C' cl fp => (snd elt (O.blk s H scope cl C' fp) h4).dat pe), foldSet h3⟩
    · cases ik with
      | ex =>
        simp only at h6
        obtain ⟨v1, v2, v3, v4, v5⟩ := sndV (ta := ta) src O h6
        obtain ⟨s0, hs0⟩ := len1 v4.symm
        have hp := v5 s0 it hs0 rfl
        rw [hs0]
        exact ri_ex hp.1 (v3 s0 (by rw [hs0]; exact List.mem_cons_self))
      | range =>
        simp only at h6
        split at h6
        · simp only [Bool.and_eq_true, decide_eq_true_eq] at h6
          obtain ⟨⟨⟨rfl, k2⟩, k3⟩, k4⟩ := h6
          obtain ⟨g1, _, _⟩ := O.glob k2
          obtain ⟨v1, v2, v3, v4, _⟩ := sndV (ta := ta) src O k3
          rcases k4 with k4 | k4
          · obtain ⟨a, rfl⟩ := len1 k4
            simp only [noStars, Bool.and_eq_true] at v2
            exact ri_range1 O.bi g1 v1 v2.1 v3 (v4 ▸ k4)
          · obtain ⟨a, b, rfl⟩ := len2 k4
            simp only [noStars, Bool.and_eq_true] at v2
            exact ri_range2 O.bi g1 v1 v2.1 v2.2.1 v3 (v4 ▸ k4)
        · cases h6
      | enum =>
        simp only [Bool.and_eq_true] at h6
        obtain ⟨ht, h6⟩ := h6
        obtain ⟨es', k', p', rfl⟩ := tupE_of ht
        split at h6
        · simp only [Bool.and_eq_true, decide_eq_true_eq] at h6
          obtain ⟨⟨⟨rfl, k2⟩, k3⟩, k4⟩ := h6
          obtain ⟨g1, _, _⟩ := O.glob k2
          obtain ⟨v1, v2, v3, v4, _⟩ := sndV (ta := ta) src O k3
          obtain ⟨a, rfl⟩ := len1 k4
          simp only [noStars, Bool.and_eq_true] at v2
          exact ri_enum O.bi g1 v1 v2.1
        · cases h6
      | zip =>
        simp only [Bool.and_eq_true] at h6
        obtain ⟨ht, h6⟩ := h6
        obtain ⟨es', k', p', rfl⟩ := tupE_of ht
        split at h6
        · simp only [Bool.and_eq_true, decide_eq_true_eq] at h6
          obtain ⟨⟨⟨rfl, k2⟩, k3⟩, k4⟩ := h6
          obtain ⟨g1, _, _⟩ := O.glob k2
          obtain ⟨v1, v2, v3, v4, _⟩ := sndV (ta := ta) src O k3
          obtain ⟨a, b, rfl⟩ := len2 k4
          simp only [noStars, Bool.and_eq_true] at v2
          exact ri_zip O.bi g1 v1 v2.1 v2.2.1
        · cases h6
    · split at h5
      · exact pts_gone h5
      · simp only [Bool.and_eq_true, Bool.not_eq_true'] at h5
        exact pts_cond h5.1 (snd cond (O.blk s H scope cl C' fp) h5.2).2.1
      · cases h5
  · cases h
/-- name = value, whatever the value -/
theorem asg_parts {i : Nat} {x : Str} {px pos : Pos} {v : Expr} {e : E} (O : XOk Γ n X) (hk : X.env.scope.kind = .function) (hi : Γ.N[i]? = some x) (hs : stOk Γ x = true) (he : mE e Γ v = true) (hc : (!isComp v || isEComp e) = true) :
    ∃ te, (∀ σ H Q, tE X.K ta (callF Γ.T n) (kdOf e) e σ H Q → te σ H Q) ∧ PS X (.Assign [.Name x px] v pos) (tAsg te (gName i)) := by
  have hN : X.N[i]? = some x := by rw [O.N]; exact hi
  have st := O.sto.at hs
  by_cases hv : isComp v = true
  · have hec : isEComp e = true := by simpa [hv] using hc
    cases e with
    | comp elt tg ik src cond =>
      obtain ⟨el, t, it, ifs, scope, p, rfl, q1, q2, q3, q4, q5, q6⟩ := comp_parts (ta := ta) O he
      have key := rd_comp (pos := p) O.calm O.nd q1 q2 (blkOf_snd Γ tg) q3 q4 q5 q6
      have sw := swap_comp (env := X.env) (el := el) (gs := [⟨t, it, ifs, 0⟩]) (scope := scope) (pos := p) (py := px) (y := x) (l := pos.line) hk
      cases hw : swC X.env.scope x px (.ListComp el [⟨t, it, ifs, 0⟩] scope p) with
      | true =>
        rw [hw] at sw
        have hyl : X.env.scope.names.lookup x = some .local := by
          simp only [swC, Bool.and_eq_true, beq_iff_eq] at hw
          exact hw.1.1
        exact ⟨_, key.1, ps_setLc O.calm O.nd hN hyl sw q1 q2 q3 q4 q5 q6⟩
      | false =>
        rw [hw] at sw
        exact ⟨_, fun σ H Q h => h, ps_set O.nd hN st.1 key.2 sw st.2⟩
    | _ => cases hec
  · have hs' : swapsWith v (some (.Name x px)) pos.line X.env = pure false := by
      cases v <;> first | rfl | exact absurd rfl hv
    exact ⟨_, fun σ H Q h => h, ps_set O.nd hN st.1 (snd e O he).1 hs' st.2⟩
theorem src_parts {ik : IK} {src : List E} {t it : Expr} (O : XOk Γ n X) (h6 : mSrc ik src Γ t it = true) : PI X t it (tIf X.K ta (callF Γ.T n) ik src) := by
  cases ik with
  | ex =>
    simp only [mSrc] at h6
    obtain ⟨v1, v2, v3, v4, v5⟩ := sndK (ta := ta) src O h6
    obtain ⟨s0, hs0⟩ := len1 v4.symm
    have hp := v5 s0 it hs0 rfl
    rw [hs0]
    exact rif_ex hp (v3 s0 (by rw [hs0]; exact List.mem_cons_self))
  | range =>
    simp only [mSrc] at h6
    split at h6
    · simp only [Bool.and_eq_true, decide_eq_true_eq] at h6
      obtain ⟨⟨⟨rfl, k2⟩, k3⟩, k4⟩ := h6
      obtain ⟨g1, _, _⟩ := O.glob k2
      obtain ⟨v1, v2, v3, v4, _⟩ := sndV (ta := ta) src O k3
      rcases k4 with k4 | k4
      · obtain ⟨a, rfl⟩ := len1 k4
        simp only [noStars, Bool.and_eq_true] at v2
        exact rif_range1 O.bi g1 v1 v2.1 v3 (v4 ▸ k4)
      · obtain ⟨a, b, rfl⟩ := len2 k4
        simp only [noStars, Bool.and_eq_true] at v2
        exact rif_range2 O.bi g1 v1 v2.1 v2.2.1 v3 (v4 ▸ k4)
    · cases h6
  | enum =>
    simp only [mSrc, Bool.and_eq_true] at h6
    obtain ⟨ht, h6⟩ := h6
    obtain ⟨es', k', p', rfl⟩ := tupE_of ht
    split at h6
    · simp only [Bool.and_eq_true, decide_eq_true_eq] at h6
      obtain ⟨⟨⟨rfl, k2⟩, k3⟩, k4⟩ := h6
      obtain ⟨g1, _, _⟩ := O.glob k2
      obtain ⟨v1, v2, v3, v4, _⟩ := sndK (ta := ta) src O k3
      obtain ⟨a, rfl⟩ := len1 k4
      simp only [noStars, Bool.and_eq_true] at v2
      exact rif_enum O.bi g1 v1 v2.1
    · cases h6
  | zip =>
    simp only [mSrc, Bool.and_eq_true] at h6
    obtain ⟨ht, h6⟩ := h6
    obtain ⟨es', k', p', rfl⟩ := tupE_of ht
    split at h6
    · simp only [Bool.and_eq_true, decide_eq_true_eq] at h6
      obtain ⟨⟨⟨rfl, k2⟩, k3⟩, k4⟩ := h6
      obtain ⟨g1, _, _⟩ := O.glob k2
      obtain ⟨v1, v2, v3, v4, _⟩ := sndK (ta := ta) src O k3
      obtain ⟨a, b, rfl⟩ := len2 k4
      simp only [noStars, Bool.and_eq_true] at v2
      exact rif_zip O.bi g1 v1 v2.1 v2.2.1
    · cases h6
end
theorem sub_asg {o k : Expr} {pos : Pos} {env : PySem.Env} (h : notSlice k = true) : ∀ v, assign (.Subscript o k pos) env v = (do
      let ov ← holding [v] (eval o env)
      let iv ← holding [v, ov] (eval k env)
      standAt pos
      holding [v, ov, iv] (setItem ov iv v)
      release [v, ov, iv] []) := by
  intro v
  cases k <;> first | rfl | cases h
section
variable {Γ : Cn} {n : Nat} {X : Cx} {ta : Option Addr} {G₀ H₀ : Hp} {fr : Bool}
def krOf (fr : Bool) : Kd := if fr then .fresh else .dat
theorem krOf_ne : krOf fr ≠ .peek := by cases fr <;> decide
mutual
theorem sndS (O : XOk Γ n X) (hk : X.env.scope.kind = .function) (hx : X.xe = fun _ _ => False) : ∀ (s : S) {st : Stmt}, mS fr s Γ st = true → PS X st (tS X.K ta G₀ H₀ (krOf fr) (evS (callF Γ.T n) s))
  | .asg i e, st, h => by
    simp only [mS] at h
    split at h
    · simp only [Bool.and_eq_true, decide_eq_true_eq] at h
      obtain ⟨⟨⟨⟨h1, h2⟩, h3⟩, h4⟩, h5⟩ := h
      obtain ⟨te, imp, ps⟩ := asg_parts (ta := ta) O hk h1 h2 h4 h5
      exact rs_asg (plain_ne h3) imp ps
    · cases h
  | .asgO i e, st, h => by
    simp only [mS] at h
    split at h
    · simp only [Bool.and_eq_true, decide_eq_true_eq] at h
      obtain ⟨⟨⟨⟨h1, h2⟩, h3⟩, h4⟩, h5⟩ := h
      obtain ⟨te, imp, ps⟩ := asg_parts (ta := ta) O hk h1 h2 h4 h5
      rw [h3] at imp
      exact rs_asgO imp ps
    · cases h
  | .unp is e, st, h => by
    simp only [mS] at h
    split at h
    · simp only [Bool.and_eq_true] at h
      obtain ⟨⟨⟨h1, h2⟩, h3⟩, h4⟩ := h
      rename_i ts k p v pos
      have hw : swappedStores [.Tuple ts k p] v X.env = pure none := by
        cases v <;> first
          | rfl
          | (simp only [decide_eq_true_eq] at h4; exact sw_eq hk (by rw [O.sc]; exact h4))
      refine rs_unp (ps_asg ((snd e O h3).dat h2) (pg_T O.sto (tg := .tup is) (e := .Tuple ts k p) h1) ?_ hw rfl)
      cases v <;> rfl
    · cases h
  | .par i j a b, st, h => by
    simp only [mS] at h
    split at h
    · simp only [Bool.and_eq_true, decide_eq_true_eq] at h
      obtain ⟨⟨⟨⟨⟨⟨⟨⟨⟨⟨⟨h1, h2⟩, h3⟩, h4⟩, h5⟩, h6⟩, h7⟩, h8⟩, h9⟩, h10⟩, h11⟩, h12⟩ := h
      refine rs_par (notStar_of h11) (notStar_of h12) (ps_par O.calm O.nd (by rw [O.N]; exact h1) (by rw [O.N]; exact h2) h3 (by rw [O.sc]; exact h4) (by rw [O.sc]; exact h5)
        (rk_cons ((snd a O h11).dat h9) (rk_cons ((snd b O h12).dat h10) rk_nil h8 (notStar_of h12)) h7 (notStar_of h11)) (sw_eq hk (by rw [O.sc]; exact h6)) rfl)
    · cases h
  | .sto i ix e, st, h => by
    simp only [mS] at h
    split at h
    · simp only [Bool.and_eq_true, Bool.not_eq_true'] at h
      obtain ⟨⟨⟨⟨⟨h1, h2⟩, h3⟩, h4⟩, h5⟩, h6⟩ := h
      obtain ⟨g1, g2, g3, g4⟩ := O.var h1
      rename_i x p1 k p2 v pos
      refine rs_sto (ps_asg ((snd e O h3).dat h2) (pg_sub (pe_var g1 g2 g3 g4) (snd ix O h4).1 set_list (sub_asg h6)) ?_ ?_ rfl)
      · cases v <;> first | rfl | cases h5
      · cases v <;> rfl
    · cases h
  | .stoT i ix e, st, h => by
    simp only [mS] at h
    split at h
    · simp only [Bool.and_eq_true, Bool.not_eq_true'] at h
      obtain ⟨⟨⟨⟨⟨h1, h2⟩, h3⟩, h4⟩, h5⟩, h6⟩ := h
      obtain ⟨g1, g2, g3, g4⟩ := O.var h1
      rename_i x p1 k p2 v pos
      refine rs_stoT (ps_asg ((snd e O h3).dat h2) (pg_sub (pe_var g1 g2 g3 g4) (snd ix O h4).1 set_list (sub_asg h6)) ?_ ?_ rfl)
      · cases v <;> first | rfl | cases h5
      · cases v <;> rfl
    · cases h
  | .app i e, st, h => by
    simp only [mS] at h
    split at h
    · simp only [Bool.and_eq_true, decide_eq_true_eq] at h
      obtain ⟨⟨⟨⟨⟨rfl, h1⟩, h2⟩, h3⟩, h4⟩, h5⟩ := h
      obtain ⟨g1, g2, g3, g4⟩ := O.var h1
      refine rs_app (notStar_of h4) (ps_expr (pe_bm PySem.F.plainAttrs_list PySem.F.slot_list_append PySem.F.type_list_append mt_append (pe_var g1 g2 g3 g4) (rk_cons ((snd e O h4).dat h3) rk_nil h2 (notStar_of h4)) rfl ?_ h5 (star_no h2) rfl) rfl)
      rw [star_no h2]
      rfl
    · cases h
  | .expr e, st, h => by
    simp only [mS] at h
    split at h
    · simp only [Bool.and_eq_true, Bool.not_eq_true'] at h
      obtain ⟨h1, h2⟩ := h
      rename_i v pos
      refine rs_expr (ps_expr (snd e O h1).1 ?_)
      cases v <;> first | rfl | cases h2
    · cases h
  | .ret e, st, h => by
    simp only [mS] at h
    split at h
    · simp only [Bool.and_eq_true] at h
      obtain ⟨h1, h2⟩ := h
      cases fr with
      | true =>
        have h2 : kdOf e = .fresh := by simpa using h2
        have he := (snd (ta := ta) e O h1).1
        rw [h2] at he
        exact rs_ret (by decide) (ps_ret he)
      | false =>
        have h2 : plain e = true := by simpa using h2
        exact rs_ret (by decide) (ps_ret ((snd (ta := ta) e O h1).dat h2))
    · cases h
  | .ite c a b, st, h => by
    simp only [mS] at h
    split at h
    · simp only [Bool.and_eq_true] at h
      obtain ⟨⟨h1, h2⟩, h3⟩ := h
      exact rs_ite (u := tNext) (v := tNext) (ps_if (snd c O h1).2.1 (sndSs O hk hx a h2) (sndSs O hk hx b h3))
    · cases h
  | .loop tg ik src body, st, h => by
    simp only [mS] at h
    split at h
    · simp only [Bool.and_eq_true] at h
      obtain ⟨⟨⟨h1, h2⟩, h3⟩, h4⟩ := h
      exact rs_loop (ps_for (by rw [hx]; exact PassesOwn.never) O.calm (src_parts O h3) (pg_T O.sto h1) (sndSs O hk hx body h4) (foldSet h2))
    · cases h
  | .while m c body, st, h => by
    simp only [mS] at h
    split at h
    · simp only [Bool.and_eq_true] at h
      exact rs_while (ps_while (by rw [hx]; exact PassesOwn.never) (snd c O h.1).2.1 (sndSs O hk hx body h.2))
    · cases h
  | .cont, st, h => by
    simp only [mS] at h
    split at h
    · exact rs_cont ps_continue
    · cases h
  | .pass, st, h => by
    simp only [mS] at h
    split at h
    · exact rs_pass ps_pass
    · cases h
  | .frz _, st, h => by simp [mS] at h
theorem sndSs (O : XOk Γ n X) (hk : X.env.scope.kind = .function) (hx : X.xe = fun _ _ => False) : ∀ (ss : List S) {sts : List Stmt}, mSs fr ss Γ sts = true → PSs X sts (tS X.K ta G₀ H₀ (krOf fr) (evSs (callF Γ.T n) ss))
  | [], sts, h => by
    cases sts with
    | nil => exact rss_nil
    | cons _ _ => simp [mSs] at h
  | s :: r, sts, h => by
    cases s with
    | frz i =>
      simp only [mSs] at h
      exact rss_frz (sndSs O hk hx r h)
    | _ =>
      simp only [mSs] at h
      split at h
      · simp only [Bool.and_eq_true] at h
        exact rss_cons (sndS O hk hx _ h.1) (sndSs O hk hx r h.2)
      · cases h
end
end
end KN

set_option maxRecDepth 100000
set_option maxHeartbeats 4000000
namespace KN
open PySem L2 PyProof.Rows
/-! ### a def's text as a whole -/
def scB (N P : List Str) (sc : Scope) : Bool := (match sc.kind with
  | .function => true
  | _ => false) && !sc.isCoroutine && !sc.isGenerator && decide (N.Nodup) && decide (N.take P.length = P) && (P.all fun x => match sc.names.lookup x with
  | some .local => true
  | some .cell => true
  | _ => false) && (sc.names.all fun y => match y.2 with
  | .free => false
  | _ => true)
theorem scB_of {N P : List Str} {sc : Scope} (h : scB N P sc = true) : FnScope N P sc := by
  simp only [scB, Bool.and_eq_true, Bool.not_eq_true', decide_eq_true_eq, List.all_eq_true] at h
  obtain ⟨⟨⟨⟨⟨⟨h1, h2⟩, h3⟩, h4⟩, h5⟩, h6⟩, h7⟩ := h
  refine ⟨?_, h2, h3, h4, h5, fun x hx => ?_, fun y hy => ?_⟩
  · split at h1
    · assumption
    · cases h1
  · have := h6 x hx
    split at this
    · rename_i e; exact .inl e
    · rename_i e; exact .inr e
    · cases this
  · have := h7 y hy
    split at this
    · cases this
    · rename_i e; exact e
def cnOf (T : List Fn) (gl : List (Str × Str)) (kw : List Kw) (F : Fn) (st : Stmt) : Cn := ⟨F.N, defScope st, none, T, gl, kw⟩
/-- the text of each def is the row's -/
def textOk (T : List Fn) (gl : List (Str × Str)) (kw : List Kw) : List Fn → List Stmt → Bool
  | [], [] => true
  | F :: r, st :: q => scB F.N F.ps (defScope st) && mSs F.fresh F.body (cnOf T gl kw F st) (defBody st) && textOk T gl kw r q
  | _, _ => false
/-- what stands behind the top of a def -/
structure FnAt (K : Fg) (mg : Str → Option Value) (kw : List Kw) (i : Nat) (F : Fn) (st : Stmt) : Prop where
  ex : ∃ f fd, Fun K F.name F.name st f fd ∧ mg F.name = some (.ref f) ∧ Binds K fd F.ps [] ∧ ∀ p ∈ kw, p.f = i → KBinds K fd F.ps p.ks (gP p) (gP p)
def AllAt (K : Fg) (mg : Str → Option Value) (kw : List Kw) : Nat → List Fn → List Stmt → Prop
  | _, [], [] => True
  | i, F :: r, st :: q => FnAt K mg kw i F st ∧ AllAt K mg kw (i + 1) r q
  | _, _, _ => False
theorem all_get {K : Fg} {mg : Str → Option Value} {kw : List Kw} {T : List Fn} {gl : List (Str × Str)} : ∀ {l : List Fn} {sts : List Stmt} {j : Nat}, AllAt K mg kw j l sts → textOk T gl kw l sts = true → ∀ (i : Nat) F, l[i]? = some F →
    ∃ st, FnAt K mg kw (j + i) F st ∧ FnScope F.N F.ps (defScope st) ∧ mSs F.fresh F.body (cnOf T gl kw F st) (defBody st) = true
  | [], _, _, _, _, i, F, e => by simp at e
  | _ :: _, [], _, h, _, _, _, _ => by cases h
  | F0 :: r, st :: q, j, h, c, 0, F, e => by
    simp only [List.getElem?_cons_zero, Option.some.injEq] at e
    subst e
    simp only [textOk, Bool.and_eq_true] at c
    exact ⟨st, h.1, scB_of c.1.1, c.1.2⟩
  | F0 :: r, st :: q, j, h, c, i + 1, F, e => by
    simp only [textOk, Bool.and_eq_true] at c
    obtain ⟨st', h1, h2⟩ := all_get h.2 c.2 i F (by simpa using e)
    exact ⟨st', by rw [show j + (i + 1) = j + 1 + i by omega]; exact h1, h2⟩
/-! ### the start of a def -/
theorem env0_get {F : Fn} {ds : List D} {i : Nat} {x : Ent} (h : (env0 F ds)[i]? = some (some x)) : (F.tin = true ∧ i = 0 ∧ x = .tin) ∨ ∃ k d, i = (if F.tin then k + 1 else k) ∧ ds[k]? = some d ∧ x = .dat d := by
  unfold env0 at h
  have tail : ∀ {j : Nat} {x : Ent}, (ds.map (fun d => some (Ent.dat d)) ++ List.replicate (F.N.length - F.ps.length) none)[j]? = some (some x) → ∃ d, ds[j]? = some d ∧ x = .dat d := fun {j x} h => by
    rw [List.getElem?_append] at h
    split at h
    · rw [List.getElem?_map] at h
      cases e : ds[j]? with
      | none => rw [e] at h; cases h
      | some d =>
        rw [e] at h
        simp only [Option.map_some, Option.some.injEq] at h
        exact ⟨d, rfl, h.symm⟩
    · rw [List.getElem?_replicate] at h
      split at h <;> cases h
  cases ht : F.tin with
  | false =>
    rw [ht] at h
    simp only [Bool.false_eq_true, if_false, List.nil_append] at h
    obtain ⟨d, h1, h2⟩ := tail h
    exact .inr ⟨i, d, by simp, h1, h2⟩
  | true =>
    rw [ht] at h
    simp only [if_true, List.cons_append, List.nil_append] at h
    cases i with
    | zero =>
      simp only [List.getElem?_cons_zero, Option.some.injEq] at h
      exact .inl ⟨rfl, rfl, h.symm⟩
    | succ i =>
      rw [List.getElem?_cons_succ] at h
      obtain ⟨d, h1, h2⟩ := tail h
      exact .inr ⟨i, d, by simp, h1, h2⟩
theorem start_get {N : List Str} {vs : List V} {i : Nat} {v : V} (h : vs[i]? = some v) : (start N vs)[i]? = some (some v) := by
  unfold L2.start
  have hl : i < (vs.map some).length := by
    rw [List.length_map]
    exact (List.getElem?_eq_some_iff.mp h).1
  rw [List.getElem?_append_left hl, List.getElem?_map, h]
  rfl
theorem rel_start {K : Fg} {ta : Option Addr} {G H : Hp} {τ : List D} {F : Fn} {vs ws : List V} {ds : List D} (sm : Same G H) (ht : TinOk K ta G H τ) (hv : match F.tin with
    | true => ∃ a, ta = some a ∧ vs = .ref a :: ws
    | false => ta = none ∧ vs = ws) (dr : DRs K G ws ds) (hl : vs.length = F.ps.length) (hn : F.ps.length ≤ F.N.length) : RelS K ta G H G (start F.N vs) H (env0 F ds) τ := by
  have at_ : ∀ {k : Nat} {d : D}, ds[k]? = some d → ∃ v, vs[if F.tin then k + 1 else k]? = some v ∧ DR K G v d := fun {k d} e => by
    obtain ⟨v, h1, h2⟩ := dr.get e
    cases hF : F.tin with
    | true =>
      rw [hF] at hv
      obtain ⟨a, _, rfl⟩ := hv
      exact ⟨v, by simpa using h1, h2⟩
    | false =>
      rw [hF] at hv
      obtain ⟨_, rfl⟩ := hv
      exact ⟨v, by simpa using h1, h2⟩
  refine ⟨⟨sm, ht, fun i d e => ?_, fun i es e => ?_, fun i j es fs a _ e _ _ => ?_, fun i e => ?_, ?_⟩, Ext.refl, fun i es a e _ => ?_⟩
  · rcases env0_get e with ⟨_, _, z⟩ | ⟨k, d', rfl, h1, h2⟩
    · cases z
    · cases h2
      obtain ⟨v, h3, h4⟩ := at_ h1
      exact ⟨v, start_get h3, h4⟩
  · rcases env0_get e with ⟨_, _, z⟩ | ⟨k, d', _, h1, h2⟩
    · cases z
    · cases h2
  · rcases env0_get e with ⟨_, _, z⟩ | ⟨k, d', _, h1, h2⟩
    · cases z
    · cases h2
  · rcases env0_get e with ⟨hF, rfl, _⟩ | ⟨k, d', _, h1, h2⟩
    · rw [hF] at hv
      obtain ⟨a, h1, rfl⟩ := hv
      exact ⟨a, h1, start_get rfl⟩
    · cases h2
  · have l1 := dr.length
    unfold env0 L2.start
    rw [List.length_append, List.length_append, List.length_append, List.length_map, List.length_map, List.length_replicate, List.length_replicate]
    cases hF : F.tin with
    | true =>
      rw [hF] at hv
      obtain ⟨a, _, rfl⟩ := hv
      simp only [List.length_cons] at hl ⊢
      simp
      omega
    | false =>
      rw [hF] at hv
      obtain ⟨_, rfl⟩ := hv
      simp
      omega
  · rcases env0_get e with ⟨_, _, z⟩ | ⟨k, d', _, h1, h2⟩
    · cases z
    · cases h2
theorem callF_some {T : List Fn} {n f : Nat} {ds : List D} {τ τ' : List D} {d : D} {F : Fn} (hF : T[f]? = some F) (h : callF T (n + 1) f ds τ = some (d, τ')) :
    (if F.tin then ds.length + 1 else ds.length) = F.ps.length ∧ ∃ o, evSs (callF T n) F.body (env0 F ds) τ = some (o, τ') ∧ outD o = some d := by
  have h : (match T[f]? with
    | none => M.fail
    | some F => if (if F.tin then ds.length + 1 else ds.length) = F.ps.length then (evSs (callF T n) F.body (env0 F ds)).bnd fun o => .of (outD o) else .fail) τ = some (d, τ') := h
  rw [hF] at h
  simp only at h
  by_cases hl : (if F.tin then ds.length + 1 else ds.length) = F.ps.length
  · rw [if_pos hl] at h
    obtain ⟨o, τ1, e1, f1⟩ := bnd_some h
    obtain ⟨g1, rfl⟩ := of_some f1
    exact ⟨hl, o, e1, g1⟩
  · rw [if_neg hl] at h
    cases h
/-- one def, by one more than its callees -/
theorem fn_step {P : Program} {w : World} {K : Fg} {mg : Str → Option Value} {base : Heap} {T : List Fn} {gl : List (Str × Str)} {kw : List Kw} (hb : ∀ x ∈ biL, mg x = none) (hg : ∀ p ∈ gl, ∃ t, mg p.1 = some (.str p.2 t)) {n : Nat}
    (ih : ∀ (i : Nat) (F : Fn), T[i]? = some F → ∃ f fd, mg F.name = some (.ref f) ∧ PySem.W.keepIn K (.ref f) = true ∧ Binds K fd F.ps [] ∧ FnOk P w K mg base CX0 n f fd F.ps (spF K (callF T n) i F.tin F.fresh) ∧ ∀ p ∈ kw, p.f = i → KBinds K fd F.ps p.ks (gP p) (gP p))
    {i : Nat} {F : Fn} {st : Stmt} {f : Addr} {fd : FuncData} (hF : T[i]? = some F) (h1 : Fun K F.name F.name st f fd) (h5 : FnScope F.N F.ps (defScope st)) (h6 : mSs F.fresh F.body (cnOf T gl kw F st) (defBody st) = true) :
    FnOk P w K mg base CX0 (n + 1) f fd F.ps (spF K (callF T (n + 1)) i F.tin F.fresh) := by
    have lenOk : ∀ vs H Q E, spF K (callF T (n + 1)) i F.tin F.fresh vs H Q E → vs.length = F.ps.length := fun vs H Q E q => by
      obtain ⟨G, ta, ws, ds, τ, d, τ', sm, ht, hv, dr, ec, q⟩ := q
      obtain ⟨hl, _⟩ := callF_some hF ec
      have l1 := dr.length
      cases ht' : F.tin with
      | true =>
        rw [ht'] at hv hl
        obtain ⟨a, _, rfl⟩ := hv
        simp only [if_true] at hl
        simp only [List.length_cons]
        omega
      | false =>
        rw [ht'] at hv hl
        obtain ⟨_, rfl⟩ := hv
        simp only [Bool.false_eq_true, if_false] at hl
        omega
    refine h1.ok h5 lenOk fun cdv A outer s H vs Q E hr hsp => ?_
    have hl := lenOk vs H Q E hsp
    obtain ⟨G, ta, ws, ds, τ, d, τ', sm, ht, hv, dr, ec, q⟩ := hsp
    obtain ⟨_, o, e1, e2⟩ := callF_some hF ec
    have hn : F.ps.length ≤ F.N.length := by
      have := congrArg List.length h5.pre
      rw [List.length_take] at this
      omega
    have O : XOk (cnOf T gl kw F st) n (cxOf CX0 P w K mg base F.N F.name (defScope st) f cdv A outer s H E).nox :=
      { N := rfl, nd := h5.nd, sc := rfl, fn := rfl, calm := rfl, room := hr, bi := hb, gl := hg, fns := ih }
    refine ⟨_, sndSs (ta := ta) (G₀ := G) (H₀ := H) (fr := F.fresh) O h5.kind rfl F.body h6, G, env0 F ds, τ, o, τ', rel_start sm ht hv dr hl hn, e1, ?_⟩
    cases o with
    | nx ρ' =>
      cases e2
      intro σ' G' H' _ S'
      refine q _ G' H' S'.ext S'.rel.sub S'.rel.tin ?_
      cases F.fresh with
      | true => exact .inl ⟨.non, fun _ z => nomatch z⟩
      | false => exact .non
    | ct ρ' => cases e2
    | rt d' =>
      cases e2
      intro v G' H' x' s' t' w'
      exact q v G' H' x' s' t' w'
/-- THE RULE: every def keeps its promise, by as much as the number says -/
theorem fns_ok {P : Program} {w : World} {K : Fg} {mg : Str → Option Value} {base : Heap} {T : List Fn} {gl : List (Str × Str)} {kw : List Kw} {sts : List Stmt} (hb : ∀ x ∈ biL, mg x = none) (hg : ∀ p ∈ gl, ∃ t, mg p.1 = some (.str p.2 t)) (hc : textOk T gl kw T sts = true) (ha : AllAt K mg kw 0 T sts) :
    ∀ (n i : Nat) (F : Fn), T[i]? = some F → ∃ f fd, mg F.name = some (.ref f) ∧ PySem.W.keepIn K (.ref f) = true ∧ Binds K fd F.ps [] ∧ FnOk P w K mg base CX0 n f fd F.ps (spF K (callF T n) i F.tin F.fresh) ∧ ∀ p ∈ kw, p.f = i → KBinds K fd F.ps p.ks (gP p) (gP p) := by
  intro n
  induction n with
  | zero =>
    intro i F hF
    obtain ⟨st, ⟨f, fd, h1, h2, h3, h4⟩, h5, h6⟩ := all_get ha hc i F hF
    rw [Nat.zero_add] at h4
    refine ⟨f, fd, h2, h1.kp, h3, ⟨fun vs H Q E q => ?_, fun A outer s H args us vs Q E _ _ _ _ q => ?_⟩, h4⟩
    · obtain ⟨_, _, _, _, _, _, _, _, _, _, _, z, _⟩ := q
      cases z
    · obtain ⟨_, _, _, _, _, _, _, _, _, _, _, z, _⟩ := q
      cases z
  | succ n ih =>
    intro i F hF
    obtain ⟨st, ⟨f, fd, h1, h2, h3, h4⟩, h5, h6⟩ := all_get ha hc i F hF
    rw [Nat.zero_add] at h4
    exact ⟨f, fd, h2, h1.kp, h3, fn_step hb hg ih hF h1 h5 h6, h4⟩
theorem text_get {T : List Fn} {gl : List (Str × Str)} {kw : List Kw} : ∀ {l : List Fn} {sts : List Stmt}, textOk T gl kw l sts = true → ∀ (i : Nat) F st, l[i]? = some F → sts[i]? = some st → FnScope F.N F.ps (defScope st) ∧ mSs F.fresh F.body (cnOf T gl kw F st) (defBody st) = true
  | [], _, _, _, _, _, e, _ => by simp at e
  | _ :: _, [], c, _, _, _, _, _ => by cases c
  | F0 :: r, st0 :: q, c, 0, F, st, e, e' => by
    simp only [List.getElem?_cons_zero, Option.some.injEq] at e e'
    subst e
    subst e'
    simp only [textOk, Bool.and_eq_true] at c
    exact ⟨scB_of c.1.1, c.1.2⟩
  | F0 :: r, st0 :: q, c, i + 1, F, st, e, e' => by
    simp only [textOk, Bool.and_eq_true] at c
    exact text_get c.2 i F st (by simpa using e) (by simpa using e')
/-- a def at the top, from what the top has written -/
theorem at_mk {K : Fg} {h : Heap} {mg : Str → Option Value} {kw : List Kw} {i : Nat} {F : Fn} {st : Stmt} {f : Addr} {od an : Option Addr} {sl : Array (Option Value)} {oc kV dc pm cd ct : Value} (X : K.In h) (G : h.Ns mainGlobals mg)
    (a : PySem.W.nsIn K mainGlobals F.name = some (some (.ref f))) (l : K.lookup f = some ⟨oc, od, .func (PySem.W.fnOf F.name F.name (defArgs st) (defBody st) (defScope st) .none kV dc pm an cd ct), sl⟩) (c : PySem.W.codeIn K cd F.name = true) (k : PySem.W.keepIn K (.ref f) = true)
    (hb : ∀ (kV doc pm : Value) (an : Option Addr) (cdv ct : Value) (us : List Value), us.length = F.ps.length → bindArgs (PySem.W.fnOf F.name F.name (defArgs st) (defBody st) (defScope st) .none kV doc pm an cdv ct) ⟨us, []⟩ = pure (F.ps.zip us))
    (hw : ∀ p ∈ kw, p.f = i → KBinds K (PySem.W.fnOf F.name F.name (defArgs st) (defBody st) (defScope st) .none kV dc pm an cd ct) F.ps p.ks (gP p) (gP p)) : FnAt K mg kw i F st :=
  have F1 := fun_mk (st := st) l c k
  ⟨f, _, F1, PySem.W.mg_of X G a, F1.binds hb, hw⟩
/-- the law itself -/
theorem law_mk {P : Program} {w : World} {K : Fg} {h : Heap} {mg : Str → Option Value} {T : List Fn} {gl : List (Str × Str)} {kw : List Kw} {sts : List Stmt} (X : K.In h) (G : h.Ns mainGlobals mg) (hb : ∀ x ∈ biL, mg x = none) (hg : ∀ p ∈ gl, ∃ t, mg p.1 = some (.str p.2 t)) (hc : textOk T gl kw T sts = true) (ha : AllAt K mg kw 0 T sts)
    {i : Nat} {F : Fn} {st : Stmt} {f fa : Addr} {od an : Option Addr} {sl : Array (Option Value)} {oc kV dc pm cd ct : Value} {x : Str} (hfa : mg F.name = some (.ref fa)) (hF : T[i]? = some F) (hs : sts[i]? = some st) (ht : F.tin = false) (hfr : F.fresh = false) (hps : F.ps = [x])
    (a : PySem.W.nsIn K mainGlobals F.name = some (some (.ref f))) (l : K.lookup f = some ⟨oc, od, .func (PySem.W.fnOf F.name F.name (defArgs st) (defBody st) (defScope st) .none kV dc pm an cd ct), sl⟩) (c : PySem.W.codeIn K cd F.name = true) (k : PySem.W.keepIn K (.ref f) = true)
    (hbd : ∀ (kV doc pm : Value) (an : Option Addr) (cdv ct : Value) (us : List Value), us.length = F.ps.length → bindArgs (PySem.W.fnOf F.name F.name (defArgs st) (defBody st) (defScope st) .none kV doc pm an cdv ct) ⟨us, []⟩ = pure (F.ps.zip us)) (n : Nat) :
    ∃ fd : FuncData, (∀ (s : Shared) (v : Value), BindsTo s fd ⟨[v], []⟩ [(x, v)]) ∧ ∀ base : Heap, K.In base → base.Ns mainGlobals mg → FnOk P w K mg base CX0 (n + 1) fa fd [x] (spF K (callF T (n + 1)) i false false) := by
  have e := hfa.symm.trans (PySem.W.mg_of X G a)
  cases e
  obtain ⟨h5, h6⟩ := text_get hc i F st hF hs
  refine ⟨PySem.W.fnOf F.name F.name (defArgs st) (defBody st) (defScope st) .none kV dc pm an cd ct, fun s v => ?_, fun base _ _ => ?_⟩
  rotate_left
  · have := fn_step (P := P) (w := w) (base := base) hb hg (fns_ok hb hg hc ha n) hF (fun_mk (st := st) l c k) h5 h6
    rw [ht, hfr, hps] at this
    exact this
  · have := hbd kV dc pm an cd ct [v] (by rw [hps]; rfl)
    rw [hps] at this
    exact .of_eq this
/-! ### keywords -/
theorem gP_rel {p : Kw} {vs zs : List V} {us ws : List Value} (h1 : Vals vs us) (h2 : Vals zs ws) : Vals (gP p vs zs) (gP (α := Value) p us ws) := by
  unfold gP
  rw [h1.length, h2.length]
  split
  · have ap := h1.append h2
    unfold permL
    generalize p.perm = l
    induction l with
    | nil => exact .nil
    | cons i r ih =>
      refine .cons ?_ ih
      show RelV ((vs ++ zs).getD i default) ((us ++ ws).getD i default)
      rw [List.getD_eq_getElem?_getD, List.getD_eq_getElem?_getD]
      cases e : (vs ++ zs)[i]? with
      | none =>
        rw [ap.none_of e]
        exact rfl
      | some v =>
        obtain ⟨u, e1, e2⟩ := ap.get e
        rw [e1]
        exact e2
  · exact .nil
theorem kw_of {K : Fg} {fd : FuncData} {ps : List Str} {p : Kw} (h : ∀ (s : Shared) (us ws : List Value), us.length = p.np → ws.length = p.ks.length → BindsTo s fd ⟨us, p.ks.zip ws⟩ (ps.zip (permL p.perm (us ++ ws)))) (hne : ps ≠ []) : KBinds K fd ps p.ks (gP p) (gP p) := by
  refine ⟨fun s us ws _ hl => ?_, fun h1 h2 => gP_rel h1 h2⟩
  unfold gP at hl ⊢
  split
  · rename_i c
    exact h s us ws c.1 c.2
  · rename_i c
    rw [if_neg c] at hl
    exact absurd (List.eq_nil_of_length_eq_zero hl.symm) hne
/-! ### the law's end -/
/-- the law's promise: its own run of data says True for every script -/
theorem law_sp {K : Fg} {T : List Fn} {n i : Nat} {H : Hp} {a : Addr} {ns : List Int} (hS : SqL K H a (ns.map V.int)) (h : ∃ τ', callF T n i [.list (ns.map PyData.int)] [] = some (.bool true, τ')) :
    spF K (callF T n) i false false [.ref a] H (fun v _ => v = .bl true) fun _ _ _ => False := by
  obtain ⟨τ', h⟩ := h
  refine ⟨H, none, [.ref a], _, [], _, τ', fun _ _ h => h, (fun _ z => nomatch z), ⟨rfl, rfl⟩, .cons (.lst hS (DRs.ofInts ns)) .nil, h, fun v G' H' _ _ _ w => ?_⟩
  cases w
  rfl
end KN

set_option maxRecDepth 100000
set_option maxHeartbeats 4000000
namespace KN
open PySem L2 PyProof.Rows
/-! ### plain reasoning over runs of data -/
def Ok {α : Type} (m : M α) (τ : List D) (Q : α → List D → Prop) : Prop := ∃ a τ', m τ = some (a, τ') ∧ Q a τ'
theorem Ok.mono {α : Type} {m : M α} {τ : List D} {Q R : α → List D → Prop} (h : Ok m τ Q) (f : ∀ a τ', Q a τ' → R a τ') : Ok m τ R := by
  obtain ⟨a, τ', e, q⟩ := h
  exact ⟨a, τ', e, f _ _ q⟩
@[simp] theorem ok_ret {α : Type} {a : α} {τ : List D} {Q : α → List D → Prop} : Ok (M.ret a) τ Q ↔ Q a τ :=
  ⟨fun ⟨_, _, e, q⟩ => by cases e; exact q, fun q => ⟨_, _, rfl, q⟩⟩
@[simp] theorem ok_fail {α : Type} {τ : List D} {Q : α → List D → Prop} : Ok (M.fail : M α) τ Q ↔ False :=
  ⟨fun ⟨_, _, e, q⟩ => (nomatch e), False.elim⟩
@[simp] theorem ok_bnd {α β : Type} {x : M α} {f : α → M β} {τ : List D} {Q : β → List D → Prop} : Ok (x.bnd f) τ Q ↔ Ok x τ fun a τ' => Ok (f a) τ' Q :=
  ⟨fun ⟨_, _, e, q⟩ => by
    obtain ⟨a, τ1, e1, e2⟩ := bnd_some e
    exact ⟨a, τ1, e1, _, _, e2, q⟩, fun ⟨a, τ1, e1, b, τ2, e2, q⟩ => ⟨b, τ2, by unfold M.bnd; rw [e1]; exact e2, q⟩⟩
theorem ok_of {α : Type} {o : Option α} {τ : List D} {Q : α → List D → Prop} : Ok (M.of o) τ Q ↔ ∃ a, o = some a ∧ Q a τ :=
  ⟨fun ⟨a, _, e, q⟩ => by
    obtain ⟨e1, rfl⟩ := of_some e
    exact ⟨a, e1, q⟩, fun ⟨a, e, q⟩ => ⟨a, τ, by subst e; rfl, q⟩⟩
@[simp] theorem ok_of_some {α : Type} {a : α} {τ : List D} {Q : α → List D → Prop} : Ok (M.of (some a)) τ Q ↔ Q a τ := by
  rw [ok_of]
  exact ⟨fun ⟨_, e, q⟩ => by cases e; exact q, fun q => ⟨_, rfl, q⟩⟩
@[simp] theorem ok_if {α : Type} {c : Prop} [Decidable c] {m m' : M α} {τ : List D} {Q : α → List D → Prop} : Ok (if c then m else m') τ Q ↔ (c → Ok m τ Q) ∧ (¬ c → Ok m' τ Q) := by
  by_cases h : c
  · rw [if_pos h]; exact ⟨fun q => ⟨fun _ => q, fun z => absurd h z⟩, fun q => q.1 h⟩
  · rw [if_neg h]; exact ⟨fun q => ⟨fun z => absurd z h, fun _ => q⟩, fun q => q.2 h⟩
/-- a def's run -/
theorem ok_call {T : List Fn} {n f : Nat} {ds : List D} {τ : List D} {Q : D → List D → Prop} {F : Fn} (hF : T[f]? = some F) (hl : (if F.tin then ds.length + 1 else ds.length) = F.ps.length) :
    Ok (callF T (n + 1) f ds) τ Q ↔ Ok (evSs (callF T n) F.body (env0 F ds)) τ fun o τ' => ∃ d, outD o = some d ∧ Q d τ' := by
  have : callF T (n + 1) f ds = (evSs (callF T n) F.body (env0 F ds)).bnd fun o => .of (outD o) := by
    show (match T[f]? with
      | none => M.fail
      | some F => if (if F.tin then ds.length + 1 else ds.length) = F.ps.length then (evSs (callF T n) F.body (env0 F ds)).bnd fun o => .of (outD o) else .fail) = _
    rw [hF]
    simp only
    rw [if_pos hl]
  rw [this, ok_bnd]
  simp only [ok_of]
def envI (tin : Bool) (k : Nat) (ds : List D) : En := (if tin then [some Ent.tin] else []) ++ ds.map (fun d => some (Ent.dat d)) ++ List.replicate k none
/-- def f of the table: its body, whether it draws, how many parameters and names it has -/
def Is (T : List Fn) (f : Nat) (b : List S) (tin : Bool) (p nn : Nat) : Prop := ∃ F, T[f]? = some F ∧ F.body = b ∧ F.tin = tin ∧ F.ps.length = p ∧ F.N.length = nn
theorem ok_is {T : List Fn} {n f : Nat} {b : List S} {tin : Bool} {p nn : Nat} {ds : List D} {τ : List D} {Q : D → List D → Prop} (h : Is T f b tin p nn) (hl : (if tin then ds.length + 1 else ds.length) = p) :
    Ok (callF T (n + 1) f ds) τ Q ↔ Ok (evSs (callF T n) b (envI tin (nn - p) ds)) τ fun o τ' => ∃ d, outD o = some d ∧ Q d τ' := by
  obtain ⟨F, h1, rfl, rfl, rfl, rfl⟩ := h
  exact ok_call h1 hl
/-- loops: what holds of what is left -/
theorem ok_loop {f : D → En → M Out} {Q : Out → List D → Prop} (I : List D → En → List D → Prop)
    (hs : ∀ d r ρ τ, I (d :: r) ρ τ → Ok (f d ρ) τ fun o τ' => match o with
      | .nx ρ' => I r ρ' τ'
      | .ct ρ' => I r ρ' τ'
      | .rt x => Q (.rt x) τ')
    (he : ∀ ρ τ, I [] ρ τ → Q (.nx ρ) τ) : ∀ (items : List D) (ρ : En) (τ : List D), I items ρ τ → Ok (loopL f items ρ) τ Q
  | [], ρ, τ, h => ok_ret.2 (he ρ τ h)
  | d :: r, ρ, τ, h => by
    show Ok ((f d ρ).bnd _) τ Q
    rw [ok_bnd]
    refine (hs d r ρ τ h).mono fun o τ' q => ?_
    cases o with
    | nx ρ' => exact ok_loop I hs he r ρ' τ' q
    | ct ρ' => exact ok_loop I hs he r ρ' τ' q
    | rt x => exact ok_ret.2 q
/-- comprehensions: a fact of each made value, and what holds of the box -/
theorem ok_comp {f : D → M (Option D)} (I : List D → List D → List D → Prop) {Q : List D → List D → Prop}
    (hs : ∀ d r ys τ, I (d :: r) ys τ → Ok (f d) τ fun o τ' => match o with
      | some y => I r (ys ++ [y]) τ'
      | none => I r ys τ')
    (he : ∀ ys τ, I [] ys τ → Q ys τ) : ∀ (items ys : List D) (τ : List D), I items ys τ → Ok (compL f items) τ fun r τ' => Q (ys ++ r) τ'
  | [], ys, τ, h => ok_ret.2 (by rw [List.append_nil]; exact he ys τ h)
  | d :: r, ys, τ, h => by
    show Ok ((f d).bnd _) τ _
    rw [ok_bnd]
    refine (hs d r ys τ h).mono fun o τ' q => ?_
    rw [ok_bnd]
    cases o with
    | none =>
      refine (ok_comp I hs he r ys τ' q).mono fun r' τ2 q2 => ?_
      exact ok_ret.2 q2
    | some y =>
      refine (ok_comp I hs he r (ys ++ [y]) τ' q).mono fun r' τ2 q2 => ?_
      rw [ok_ret]
      rw [List.append_assoc] at q2
      exact q2
/-- a comprehension that leaves the box alone -/
theorem comp_map {f : D → M (Option D)} {g : D → Option D} {τ : List D} : ∀ (items : List D), (∀ d ∈ items, f d τ = some (g d, τ)) → compL f items τ = some (items.filterMap g, τ)
  | [], _ => rfl
  | d :: r, h => by
    show ((f d).bnd _) τ = _
    unfold M.bnd
    rw [h d List.mem_cons_self]
    simp only
    rw [comp_map r fun d hd => h d (List.mem_cons_of_mem _ hd), List.filterMap_cons]
    cases g d <;> rfl
/-! ### the rules of plain reasoning, as rewriting -/
@[simp] theorem ok_of' {α : Type} {o : Option α} {τ : List D} {Q : α → List D → Prop} : Ok (M.of o) τ Q ↔ ∃ a, o = some a ∧ Q a τ := ok_of
section
variable {C : Nat → List D → M D} {ρ : En} {τ : List D} {Q : D → List D → Prop} {R : List D → List D → Prop} {U : Out → List D → Prop}
@[simp] theorem okE_var {i : Nat} : Ok (evE C (.var i) ρ) τ Q ↔ ∃ d, ρ[i]? = some (some (.dat d)) ∧ Q d τ := by
  show Ok (fun τ => match ρ[i]? with
    | some (some (.dat d)) => some (d, τ)
    | _ => none) τ Q ↔ _
  constructor
  · rintro ⟨d, τ', e, q⟩
    split at e
    · rename_i h
      cases e
      exact ⟨_, h, q⟩
    · cases e
  · rintro ⟨d, e, q⟩
    exact ⟨d, τ, by simp only [e], q⟩
@[simp] theorem okE_peek {i : Nat} : Ok (evE C (.peek i) ρ) τ Q ↔ ∃ ds, ρ[i]? = some (some (.own ds)) ∧ Q (.list ds) τ := by
  show Ok (fun τ => match ρ[i]? with
    | some (some (.own ds)) => some (.list ds, τ)
    | _ => none) τ Q ↔ _
  constructor
  · rintro ⟨d, τ', e, q⟩
    split at e
    · rename_i h
      cases e
      exact ⟨_, h, q⟩
    · cases e
  · rintro ⟨d, e, q⟩
    exact ⟨_, τ, by simp only [e], q⟩
@[simp] theorem okE_non : Ok (evE C .non ρ) τ Q ↔ Q .none τ := ok_ret
@[simp] theorem okE_bl {b : Bool} : Ok (evE C (.bl b) ρ) τ Q ↔ Q (.bool b) τ := ok_ret
@[simp] theorem okE_int {b : Int} : Ok (evE C (.int b) ρ) τ Q ↔ Q (.int b) τ := ok_ret
@[simp] theorem okE_str {b : Str} : Ok (evE C (.str b) ρ) τ Q ↔ Q (.str b) τ := ok_ret
@[simp] theorem okE_glob {b c : Str} : Ok (evE C (.glob b c) ρ) τ Q ↔ Q (.str c) τ := ok_ret
@[simp] theorem okE_bin {op : Operator} {a b : E} : Ok (evE C (.bin op a b) ρ) τ Q ↔ Ok (evE C a ρ) τ fun x τ1 => Ok (evE C b ρ) τ1 fun y τ2 => ∃ d, binD op x y = some d ∧ Q d τ2 := by
  show Ok ((evE C a ρ).bnd fun x => (evE C b ρ).bnd fun y => .of (binD op x y)) τ Q ↔ _
  simp only [ok_bnd, ok_of]
@[simp] theorem okE_cmp {op : CmpOp} {a b : E} : Ok (evE C (.cmp op a b) ρ) τ Q ↔ Ok (evE C a ρ) τ fun x τ1 => Ok (evE C b ρ) τ1 fun y τ2 => ∃ d, cmpD op x y = some d ∧ Q d τ2 := by
  show Ok ((evE C a ρ).bnd fun x => (evE C b ρ).bnd fun y => .of (cmpD op x y)) τ Q ↔ _
  simp only [ok_bnd, ok_of]
@[simp] theorem okE_neg {a : E} : Ok (evE C (.neg a) ρ) τ Q ↔ Ok (evE C a ρ) τ fun x τ1 => ∃ i, x = .int i ∧ Q (.int (-i)) τ1 := by
  show Ok ((evE C a ρ).bnd fun x => match x with
    | .int i => .ret (.int (-i))
    | _ => .fail) τ Q ↔ _
  rw [ok_bnd]
  constructor
  · refine fun h => h.mono fun x τ1 q => ?_
    cases x with
    | int i => exact ⟨i, rfl, ok_ret.1 q⟩
    | _ => exact (ok_fail.1 q).elim
  · refine fun h => h.mono fun x τ1 q => ?_
    obtain ⟨i, rfl, q⟩ := q
    exact ok_ret.2 q
@[simp] theorem okE_not {a : E} : Ok (evE C (.not a) ρ) τ Q ↔ Ok (evE C a ρ) τ fun x τ1 => ∃ k, truD x = some k ∧ Q (.bool (!k)) τ1 := by
  show Ok ((evE C a ρ).bnd fun x => (M.of (truD x)).bnd fun k => .ret (.bool (!k))) τ Q ↔ _
  simp only [ok_bnd, ok_of, ok_ret]
@[simp] theorem okE_and {a b : E} : Ok (evE C (.and a b) ρ) τ Q ↔ Ok (evE C a ρ) τ fun x τ1 => ∃ k, truD x = some k ∧ (k = true → Ok (evE C b ρ) τ1 Q) ∧ (k = false → Q x τ1) := by
  show Ok ((evE C a ρ).bnd fun x => (M.of (truD x)).bnd fun k => if k then evE C b ρ else .ret x) τ Q ↔ _
  simp only [ok_bnd, ok_of, ok_ret, ok_if, Bool.not_eq_true]
@[simp] theorem okE_or {a b : E} : Ok (evE C (.or a b) ρ) τ Q ↔ Ok (evE C a ρ) τ fun x τ1 => ∃ k, truD x = some k ∧ (k = true → Q x τ1) ∧ (k = false → Ok (evE C b ρ) τ1 Q) := by
  show Ok ((evE C a ρ).bnd fun x => (M.of (truD x)).bnd fun k => if k then .ret x else evE C b ρ) τ Q ↔ _
  simp only [ok_bnd, ok_of, ok_ret, ok_if, Bool.not_eq_true]
@[simp] theorem okE_ite {c a b : E} : Ok (evE C (.ite c a b) ρ) τ Q ↔ Ok (evE C c ρ) τ fun x τ1 => ∃ k, truD x = some k ∧ (k = true → Ok (evE C a ρ) τ1 Q) ∧ (k = false → Ok (evE C b ρ) τ1 Q) := by
  show Ok ((evE C c ρ).bnd fun x => (M.of (truD x)).bnd fun k => if k then evE C a ρ else evE C b ρ) τ Q ↔ _
  simp only [ok_bnd, ok_of, ok_ret, ok_if, Bool.not_eq_true]
@[simp] theorem okE_chain {o1 o2 : CmpOp} {a b c : E} : Ok (evE C (.chain o1 o2 a b c) ρ) τ Q ↔ Ok (evE C a ρ) τ fun x τ1 => Ok (evE C b ρ) τ1 fun y τ2 => ∃ k, cmpD o1 x y = some (.bool k) ∧ (k = true → Ok (evE C c ρ) τ2 fun z τ3 => ∃ d, cmpD o2 y z = some d ∧ Q d τ3) ∧ (k = false → Q (.bool false) τ2) := by
  show Ok ((evE C a ρ).bnd fun x => (evE C b ρ).bnd fun y => (M.of (cmpD o1 x y)).bnd fun r => match r with
    | .bool true => (evE C c ρ).bnd fun z => .of (cmpD o2 y z)
    | .bool false => .ret (.bool false)
    | _ => .fail) τ Q ↔ _
  simp only [ok_bnd, ok_of]
  constructor
  · refine fun h => h.mono fun x τ1 q => q.mono fun y τ2 q => ?_
    obtain ⟨r, e, q⟩ := q
    cases r with
    | bool k => cases k with
      | true => exact ⟨true, e, fun _ => by simpa only [ok_bnd, ok_of] using q, fun z => Bool.noConfusion z⟩
      | false => exact ⟨false, e, ⟨fun z => (Bool.noConfusion z), fun _ => ok_ret.1 q⟩⟩
    | _ => exact (ok_fail.1 q).elim
  · refine fun h => h.mono fun x τ1 q => q.mono fun y τ2 q => ?_
    obtain ⟨k, e, q1, q2⟩ := q
    refine ⟨_, e, ?_⟩
    cases k with
    | true => simpa only [ok_bnd, ok_of] using q1 rfl
    | false => exact ok_ret.2 (q2 rfl)
@[simp] theorem okE_bi {f : Bi} {es : List E} : Ok (evE C (.bi f es) ρ) τ Q ↔ Ok (evEs C es ρ) τ fun ds τ1 => ∃ d, biD f ds = some d ∧ Q d τ1 := by
  show Ok ((evEs C es ρ).bnd fun ds => .of (biD f ds)) τ Q ↔ _
  simp only [ok_bnd, ok_of]
@[simp] theorem okE_isi {a : E} {ts : List String} {k : Bool} : Ok (evE C (.isi a ts k) ρ) τ Q ↔ Ok (evE C a ρ) τ fun x τ1 => ∃ d, isiD x ts = some d ∧ Q d τ1 := by
  show Ok ((evE C a ρ).bnd fun ds => .of (isiD ds ts)) τ Q ↔ _
  simp only [ok_bnd, ok_of]
@[simp] theorem okE_get {a b : E} : Ok (evE C (.get a b) ρ) τ Q ↔ Ok (evE C a ρ) τ fun x τ1 => Ok (evE C b ρ) τ1 fun y τ2 => ∃ d, getD x y = some d ∧ Q d τ2 := by
  show Ok ((evE C a ρ).bnd fun x => (evE C b ρ).bnd fun y => .of (getD x y)) τ Q ↔ _
  simp only [ok_bnd, ok_of]
@[simp] theorem okE_tget {i : Nat} {b : E} : Ok (evE C (.tget i b) ρ) τ Q ↔ Ok (evE C b ρ) τ fun y τ1 => isTin ρ i = true ∧ ∃ d, getD (.list τ1) y = some d ∧ Q d τ1 := by
  show Ok ((evE C b ρ).bnd fun y τ => if isTin ρ i then (match getD (.list τ) y with
    | some d => some (d, τ)
    | none => none) else none) τ Q ↔ _
  rw [ok_bnd]
  constructor
  · refine fun h => h.mono fun x τ1 q => ?_
    obtain ⟨d, τ', e, q⟩ := q
    by_cases ht : isTin ρ i = true
    · simp only [if_pos ht] at e
      split at e
      · rename_i h1
        cases e
        exact ⟨ht, _, h1, q⟩
      · cases e
    · simp only [if_neg ht] at e
      cases e
  · refine fun h => h.mono fun x τ1 q => ?_
    obtain ⟨ht, d, e, q⟩ := q
    refine ⟨d, τ1, ?_, q⟩
    simp only [if_pos ht, e]
@[simp] theorem okE_slice {a lo hi : E} : Ok (evE C (.slice a lo hi) ρ) τ Q ↔ Ok (evE C a ρ) τ fun x τ1 => Ok (if lo.gone then .ret none else (evE C lo ρ).bnd intP) τ1 fun l τ2 => Ok (if hi.gone then .ret none else (evE C hi ρ).bnd intP) τ2 fun h τ3 => ∃ d, sliceD x l h = some d ∧ Q d τ3 := by
  show Ok ((evE C a ρ).bnd fun x => (if lo.gone then .ret none else (evE C lo ρ).bnd intP).bnd fun l => (if hi.gone then .ret none else (evE C hi ρ).bnd intP).bnd fun h => .of (sliceD x l h)) τ Q ↔ _
  simp only [ok_bnd, ok_of]
@[simp] theorem ok_intP {d : D} {V : Option Int → List D → Prop} : Ok (intP d) τ V ↔ ∃ i, d = .int i ∧ V (some i) τ := by
  cases d with
  | int i => exact ⟨fun h => ⟨i, rfl, ok_ret.1 h⟩, fun ⟨_, e, h⟩ => by cases e; exact ok_ret.2 h⟩
  | _ => exact ⟨fun h => (ok_fail.1 h).elim, fun ⟨_, e, h⟩ => nomatch e⟩
@[simp] theorem okE_rev {a : E} : Ok (evE C (.rev a) ρ) τ Q ↔ Ok (evE C a ρ) τ fun x τ1 => ∃ d, revD x = some d ∧ Q d τ1 := by
  show Ok ((evE C a ρ).bnd fun ds => .of (revD ds)) τ Q ↔ _
  simp only [ok_bnd, ok_of]
@[simp] theorem okE_lst {es : List E} : Ok (evE C (.lst es) ρ) τ Q ↔ Ok (evEs C es ρ) τ fun ds τ1 => ds.length ≤ 16777216 ∧ Q (.list ds) τ1 := by
  show Ok ((evEs C es ρ).bnd fun ds => if lineOk ds.length then .ret (.list ds) else .fail) τ Q ↔ _
  simp only [ok_bnd, ok_of, ok_if, ok_ret, ok_fail, lineOk, decide_eq_true_eq]
  constructor
  · refine fun h => h.mono fun x τ1 q => ?_
    by_cases h : x.length ≤ 16777216
    · exact ⟨h, q.1 h⟩
    · exact (q.2 h).elim
  · exact fun h => h.mono fun x τ1 q => ⟨fun _ => q.2, fun z => z q.1⟩
@[simp] theorem okE_tup {es : List E} : Ok (evE C (.tup es) ρ) τ Q ↔ Ok (evEs C es ρ) τ fun ds τ1 => ds.length ≤ 16777216 ∧ Q (.tuple ds) τ1 := by
  show Ok ((evEs C es ρ).bnd fun ds => if lineOk ds.length then .ret (.tuple ds) else .fail) τ Q ↔ _
  simp only [ok_bnd, ok_of, ok_if, ok_ret, ok_fail, lineOk, decide_eq_true_eq]
  constructor
  · refine fun h => h.mono fun x τ1 q => ?_
    by_cases h : x.length ≤ 16777216
    · exact ⟨h, q.1 h⟩
    · exact (q.2 h).elim
  · exact fun h => h.mono fun x τ1 q => ⟨fun _ => q.2, fun z => z q.1⟩
/-- a def that draws nothing gives d -/
def Gives (C : Nat → List D → M D) (f : Nat) (ds : List D) (d : D) : Prop := ∃ τ', C f ds [] = some (d, τ')
theorem Gives.one {f : Nat} {ds : List D} {d d' : D} (h : Gives C f ds d) (h' : Gives C f ds d') : d = d' := by
  obtain ⟨_, e⟩ := h
  obtain ⟨_, e'⟩ := h'
  rw [e] at e'
  cases e'
  rfl
theorem ok_pure {f : Nat} {ds : List D} : Ok (fun τ => match C f ds [] with
    | some (d, _) => some (d, τ)
    | none => none) τ Q ↔ ∃ d, Gives C f ds d ∧ Q d τ := by
  constructor
  · rintro ⟨d, τ', e, q⟩
    simp only at e
    split at e
    · rename_i h
      cases e
      exact ⟨_, ⟨_, h⟩, q⟩
    · cases e
  · rintro ⟨d, ⟨t, e⟩, q⟩
    exact ⟨d, τ, by simp only [e], q⟩
@[simp] theorem okE_call {f : Nat} {es : List E} : Ok (evE C (.call f es) ρ) τ Q ↔ Ok (evEs C es ρ) τ fun ds τ1 => ∃ d, Gives C f ds d ∧ Q d τ1 := by
  show Ok ((evEs C es ρ).bnd fun ds τ => match C f ds [] with
    | some (d, _) => some (d, τ)
    | none => none) τ Q ↔ _
  simp only [ok_bnd, ok_pure]
@[simp] theorem okE_callN {f : Nat} {es : List E} : Ok (evE C (.callN f es) ρ) τ Q ↔ Ok (evEs C es ρ) τ fun ds τ1 => ∃ d, Gives C f ds d ∧ Q d τ1 := by
  show Ok ((evEs C es ρ).bnd fun ds τ => match C f ds [] with
    | some (d, _) => some (d, τ)
    | none => none) τ Q ↔ _
  simp only [ok_bnd, ok_pure]
@[simp] theorem okE_callK {f : Nat} {perm : List Nat} {es ks : List E} : Ok (evE C (.callK f perm es ks) ρ) τ Q ↔ Ok (evEs C es ρ) τ fun ds τ1 => Ok (evEs C ks ρ) τ1 fun zs τ2 => ∃ d, Gives C f (permL perm (ds ++ zs)) d ∧ Q d τ2 := by
  show Ok ((evEs C es ρ).bnd fun ds => (evEs C ks ρ).bnd fun zs τ => match C f (permL perm (ds ++ zs)) [] with
    | some (d, _) => some (d, τ)
    | none => none) τ Q ↔ _
  simp only [ok_bnd, ok_pure]
@[simp] theorem okE_callT {f i : Nat} {es : List E} : Ok (evE C (.callT f i es) ρ) τ Q ↔ Ok (evEs C es ρ) τ fun ds τ1 => isTin ρ i = true ∧ Ok (C f ds) τ1 Q := by
  show Ok ((evEs C es ρ).bnd fun ds τ => if isTin ρ i then C f ds τ else none) τ Q ↔ _
  rw [ok_bnd]
  constructor
  · refine fun h => h.mono fun x τ1 q => ?_
    obtain ⟨d, τ', e, q⟩ := q
    by_cases ht : isTin ρ i = true
    · simp only [if_pos ht] at e
      exact ⟨ht, _, _, e, q⟩
    · simp only [if_neg ht] at e
      cases e
  · refine fun h => h.mono fun x τ1 q => ?_
    obtain ⟨ht, d, τ', e, q⟩ := q
    exact ⟨d, τ', by simp only [if_pos ht, e], q⟩
@[simp] theorem okE_callR {f : Nat} {e : E} {es : List E} : Ok (evE C (.callR f e es) ρ) τ Q ↔ Ok (evE C e ρ) τ fun x τ1 => Ok (evEs C es ρ) τ1 fun ds τ2 => ∃ τ0, x = .list τ0 ∧ Ok (C f ds) τ0 fun d _ => Q d τ2 := by
  show Ok ((evE C e ρ).bnd fun x => (evEs C es ρ).bnd fun ds τ => match x with
    | .list τ0 => match C f ds τ0 with
      | some (d, _) => some (d, τ)
      | none => none
    | _ => none) τ Q ↔ _
  simp only [ok_bnd]
  constructor
  · refine fun h => h.mono fun x τ1 q => q.mono fun ds τ2 q => ?_
    obtain ⟨d, τ', e, q⟩ := q
    simp only at e
    split at e
    · rename_i τ0
      split at e
      · rename_i h1
        cases e
        exact ⟨τ0, rfl, _, _, h1, q⟩
      · cases e
    · cases e
  · refine fun h => h.mono fun x τ1 q => q.mono fun ds τ2 q => ?_
    obtain ⟨τ0, rfl, d, τ', e, q⟩ := q
    exact ⟨d, τ2, by simp only [e], q⟩
@[simp] theorem okE_comp {elt : E} {tg : Tg} {ik : IK} {src : List E} {cond : E} : Ok (evE C (.comp elt tg ik src cond) ρ) τ Q ↔ Ok (evEs C src ρ) τ fun xs τ1 => ∃ items, walkC ik xs = some items ∧
    Ok (compL (fun d => (M.of (setTg tg d (wipeE ρ tg.slots))).bnd fun ρ' => (if cond.gone then .ret true else (evE C cond ρ').bnd fun x => .of (truD x)).bnd fun k => if k then (evE C elt ρ').bnd fun y => .ret (some y) else .ret none) items) τ1 fun ys τ2 => Q (.list ys) τ2 := by
  show Ok ((evEs C src ρ).bnd fun xs => (M.of (walkC ik xs)).bnd fun items =>
    (compL (fun d => (M.of (setTg tg d (wipeE ρ tg.slots))).bnd fun ρ' => (if cond.gone then .ret true else (evE C cond ρ').bnd fun x => .of (truD x)).bnd fun k => if k then (evE C elt ρ').bnd fun y => .ret (some y) else .ret none) items).bnd fun ys => .ret (.list ys)) τ Q ↔ _
  rw [ok_bnd]
  simp only [ok_bnd (x := M.of (walkC ik _)), ok_of]
  constructor
  · refine fun h => h.mono fun x τ1 q => ?_
    obtain ⟨it, e, q⟩ := q
    exact ⟨it, e, (ok_bnd.1 q).mono fun ys τ2 q => ok_ret.1 q⟩
  · refine fun h => h.mono fun x τ1 q => ?_
    obtain ⟨it, e, q⟩ := q
    exact ⟨it, e, ok_bnd.2 (q.mono fun ys τ2 q => ok_ret.2 q)⟩
@[simp] theorem okEs_nil : Ok (evEs C [] ρ) τ R ↔ R [] τ := ok_ret
@[simp] theorem okEs_star {e : E} {r : List E} : Ok (evEs C (.star e :: r) ρ) τ R ↔ Ok (evE C e ρ) τ fun x τ1 => ∃ xs, seqD x = some xs ∧ Ok (evEs C r ρ) τ1 fun ys τ2 => R (xs ++ ys) τ2 := by
  show Ok ((evE C e ρ).bnd fun x => (M.of (seqD x)).bnd fun xs => (evEs C r ρ).bnd fun ys => .ret (xs ++ ys)) τ R ↔ _
  simp only [ok_bnd, ok_of, ok_ret]
def E.isStar : E → Bool
  | .star _ => true
  | _ => false
theorem okEs_cons {e : E} {r : List E} (h : e.isStar = false) : Ok (evEs C (e :: r) ρ) τ R ↔ Ok (evE C e ρ) τ fun x τ1 => Ok (evEs C r ρ) τ1 fun ys τ2 => R (x :: ys) τ2 := by
  have : evEs C (e :: r) ρ = (evE C e ρ).bnd fun x => (evEs C r ρ).bnd fun ys => .ret (x :: ys) := by
    cases e <;> first | rfl | cases h
  rw [this]
  simp only [ok_bnd, ok_ret]
@[simp] theorem gone_var {i : Nat} : (E.var i).gone = false := rfl
@[simp] theorem gone_peek {i : Nat} : (E.peek i).gone = false := rfl
@[simp] theorem gone_non  : (E.non).gone = false := rfl
@[simp] theorem gone_bl {b : Bool} : (E.bl b).gone = false := rfl
@[simp] theorem gone_int {k : Int} : (E.int k).gone = false := rfl
@[simp] theorem gone_str {x : Str} : (E.str x).gone = false := rfl
@[simp] theorem gone_glob {x : Str} {z : Str} : (E.glob x z).gone = false := rfl
@[simp] theorem gone_bin {op : Operator} {a : E} {b : E} : (E.bin op a b).gone = false := rfl
@[simp] theorem gone_cmp {cp : CmpOp} {a : E} {b : E} : (E.cmp cp a b).gone = false := rfl
@[simp] theorem gone_chain {cp : CmpOp} {cq : CmpOp} {a : E} {b : E} {c : E} : (E.chain cp cq a b c).gone = false := rfl
@[simp] theorem gone_neg {a : E} : (E.neg a).gone = false := rfl
@[simp] theorem gone_not {a : E} : (E.not a).gone = false := rfl
@[simp] theorem gone_and {a : E} {b : E} : (E.and a b).gone = false := rfl
@[simp] theorem gone_or {a : E} {b : E} : (E.or a b).gone = false := rfl
@[simp] theorem gone_ite {c : E} {a : E} {b : E} : (E.ite c a b).gone = false := rfl
@[simp] theorem gone_bi {f : Bi} {es : List E} : (E.bi f es).gone = false := rfl
@[simp] theorem gone_isi {a : E} {ts : List String} {tu : Bool} : (E.isi a ts tu).gone = false := rfl
@[simp] theorem gone_tget {i : Nat} {b : E} : (E.tget i b).gone = false := rfl
@[simp] theorem gone_get {a : E} {b : E} : (E.get a b).gone = false := rfl
@[simp] theorem gone_slice {a : E} {b : E} {c : E} : (E.slice a b c).gone = false := rfl
@[simp] theorem gone_rev {a : E} : (E.rev a).gone = false := rfl
@[simp] theorem gone_lst {es : List E} : (E.lst es).gone = false := rfl
@[simp] theorem gone_tup {es : List E} : (E.tup es).gone = false := rfl
@[simp] theorem gone_call {i : Nat} {es : List E} : (E.call i es).gone = false := rfl
@[simp] theorem gone_callN {i : Nat} {es : List E} : (E.callN i es).gone = false := rfl
@[simp] theorem gone_callK {i : Nat} {pm : List Nat} {es : List E} {ks : List E} : (E.callK i pm es ks).gone = false := rfl
@[simp] theorem gone_callT {i : Nat} {j : Nat} {es : List E} : (E.callT i j es).gone = false := rfl
@[simp] theorem gone_callR {i : Nat} {a : E} {es : List E} : (E.callR i a es).gone = false := rfl
@[simp] theorem gone_comp {a : E} {tg : Tg} {ik : IK} {es : List E} {b : E} : (E.comp a tg ik es b).gone = false := rfl
@[simp] theorem gone_absent : E.absent.gone = true := rfl
@[simp] theorem okEs_var {i : Nat} {r : List E} : Ok (evEs C (E.var i :: r) ρ) τ R ↔ Ok (evE C (E.var i) ρ) τ fun y τ1 => Ok (evEs C r ρ) τ1 fun ys τ2 => R (y :: ys) τ2 := okEs_cons rfl
@[simp] theorem okEs_peek {i : Nat} {r : List E} : Ok (evEs C (E.peek i :: r) ρ) τ R ↔ Ok (evE C (E.peek i) ρ) τ fun y τ1 => Ok (evEs C r ρ) τ1 fun ys τ2 => R (y :: ys) τ2 := okEs_cons rfl
@[simp] theorem okEs_non  {r : List E} : Ok (evEs C (E.non :: r) ρ) τ R ↔ Ok (evE C (E.non) ρ) τ fun y τ1 => Ok (evEs C r ρ) τ1 fun ys τ2 => R (y :: ys) τ2 := okEs_cons rfl
@[simp] theorem okEs_bl {b : Bool} {r : List E} : Ok (evEs C (E.bl b :: r) ρ) τ R ↔ Ok (evE C (E.bl b) ρ) τ fun y τ1 => Ok (evEs C r ρ) τ1 fun ys τ2 => R (y :: ys) τ2 := okEs_cons rfl
@[simp] theorem okEs_int {k : Int} {r : List E} : Ok (evEs C (E.int k :: r) ρ) τ R ↔ Ok (evE C (E.int k) ρ) τ fun y τ1 => Ok (evEs C r ρ) τ1 fun ys τ2 => R (y :: ys) τ2 := okEs_cons rfl
@[simp] theorem okEs_str {x : Str} {r : List E} : Ok (evEs C (E.str x :: r) ρ) τ R ↔ Ok (evE C (E.str x) ρ) τ fun y τ1 => Ok (evEs C r ρ) τ1 fun ys τ2 => R (y :: ys) τ2 := okEs_cons rfl
@[simp] theorem okEs_glob {x : Str} {z : Str} {r : List E} : Ok (evEs C (E.glob x z :: r) ρ) τ R ↔ Ok (evE C (E.glob x z) ρ) τ fun y τ1 => Ok (evEs C r ρ) τ1 fun ys τ2 => R (y :: ys) τ2 := okEs_cons rfl
@[simp] theorem okEs_bin {op : Operator} {a : E} {b : E} {r : List E} : Ok (evEs C (E.bin op a b :: r) ρ) τ R ↔ Ok (evE C (E.bin op a b) ρ) τ fun y τ1 => Ok (evEs C r ρ) τ1 fun ys τ2 => R (y :: ys) τ2 := okEs_cons rfl
@[simp] theorem okEs_cmp {cp : CmpOp} {a : E} {b : E} {r : List E} : Ok (evEs C (E.cmp cp a b :: r) ρ) τ R ↔ Ok (evE C (E.cmp cp a b) ρ) τ fun y τ1 => Ok (evEs C r ρ) τ1 fun ys τ2 => R (y :: ys) τ2 := okEs_cons rfl
@[simp] theorem okEs_chain {cp : CmpOp} {cq : CmpOp} {a : E} {b : E} {c : E} {r : List E} : Ok (evEs C (E.chain cp cq a b c :: r) ρ) τ R ↔ Ok (evE C (E.chain cp cq a b c) ρ) τ fun y τ1 => Ok (evEs C r ρ) τ1 fun ys τ2 => R (y :: ys) τ2 := okEs_cons rfl
@[simp] theorem okEs_neg {a : E} {r : List E} : Ok (evEs C (E.neg a :: r) ρ) τ R ↔ Ok (evE C (E.neg a) ρ) τ fun y τ1 => Ok (evEs C r ρ) τ1 fun ys τ2 => R (y :: ys) τ2 := okEs_cons rfl
@[simp] theorem okEs_not {a : E} {r : List E} : Ok (evEs C (E.not a :: r) ρ) τ R ↔ Ok (evE C (E.not a) ρ) τ fun y τ1 => Ok (evEs C r ρ) τ1 fun ys τ2 => R (y :: ys) τ2 := okEs_cons rfl
@[simp] theorem okEs_and {a : E} {b : E} {r : List E} : Ok (evEs C (E.and a b :: r) ρ) τ R ↔ Ok (evE C (E.and a b) ρ) τ fun y τ1 => Ok (evEs C r ρ) τ1 fun ys τ2 => R (y :: ys) τ2 := okEs_cons rfl
@[simp] theorem okEs_or {a : E} {b : E} {r : List E} : Ok (evEs C (E.or a b :: r) ρ) τ R ↔ Ok (evE C (E.or a b) ρ) τ fun y τ1 => Ok (evEs C r ρ) τ1 fun ys τ2 => R (y :: ys) τ2 := okEs_cons rfl
@[simp] theorem okEs_ite {c : E} {a : E} {b : E} {r : List E} : Ok (evEs C (E.ite c a b :: r) ρ) τ R ↔ Ok (evE C (E.ite c a b) ρ) τ fun y τ1 => Ok (evEs C r ρ) τ1 fun ys τ2 => R (y :: ys) τ2 := okEs_cons rfl
@[simp] theorem okEs_bi {f : Bi} {es : List E} {r : List E} : Ok (evEs C (E.bi f es :: r) ρ) τ R ↔ Ok (evE C (E.bi f es) ρ) τ fun y τ1 => Ok (evEs C r ρ) τ1 fun ys τ2 => R (y :: ys) τ2 := okEs_cons rfl
@[simp] theorem okEs_isi {a : E} {ts : List String} {tu : Bool} {r : List E} : Ok (evEs C (E.isi a ts tu :: r) ρ) τ R ↔ Ok (evE C (E.isi a ts tu) ρ) τ fun y τ1 => Ok (evEs C r ρ) τ1 fun ys τ2 => R (y :: ys) τ2 := okEs_cons rfl
@[simp] theorem okEs_tget {i : Nat} {b : E} {r : List E} : Ok (evEs C (E.tget i b :: r) ρ) τ R ↔ Ok (evE C (E.tget i b) ρ) τ fun y τ1 => Ok (evEs C r ρ) τ1 fun ys τ2 => R (y :: ys) τ2 := okEs_cons rfl
@[simp] theorem okEs_get {a : E} {b : E} {r : List E} : Ok (evEs C (E.get a b :: r) ρ) τ R ↔ Ok (evE C (E.get a b) ρ) τ fun y τ1 => Ok (evEs C r ρ) τ1 fun ys τ2 => R (y :: ys) τ2 := okEs_cons rfl
@[simp] theorem okEs_slice {a : E} {b : E} {c : E} {r : List E} : Ok (evEs C (E.slice a b c :: r) ρ) τ R ↔ Ok (evE C (E.slice a b c) ρ) τ fun y τ1 => Ok (evEs C r ρ) τ1 fun ys τ2 => R (y :: ys) τ2 := okEs_cons rfl
@[simp] theorem okEs_rev {a : E} {r : List E} : Ok (evEs C (E.rev a :: r) ρ) τ R ↔ Ok (evE C (E.rev a) ρ) τ fun y τ1 => Ok (evEs C r ρ) τ1 fun ys τ2 => R (y :: ys) τ2 := okEs_cons rfl
@[simp] theorem okEs_lst {es : List E} {r : List E} : Ok (evEs C (E.lst es :: r) ρ) τ R ↔ Ok (evE C (E.lst es) ρ) τ fun y τ1 => Ok (evEs C r ρ) τ1 fun ys τ2 => R (y :: ys) τ2 := okEs_cons rfl
@[simp] theorem okEs_tup {es : List E} {r : List E} : Ok (evEs C (E.tup es :: r) ρ) τ R ↔ Ok (evE C (E.tup es) ρ) τ fun y τ1 => Ok (evEs C r ρ) τ1 fun ys τ2 => R (y :: ys) τ2 := okEs_cons rfl
@[simp] theorem okEs_call {i : Nat} {es : List E} {r : List E} : Ok (evEs C (E.call i es :: r) ρ) τ R ↔ Ok (evE C (E.call i es) ρ) τ fun y τ1 => Ok (evEs C r ρ) τ1 fun ys τ2 => R (y :: ys) τ2 := okEs_cons rfl
@[simp] theorem okEs_callN {i : Nat} {es : List E} {r : List E} : Ok (evEs C (E.callN i es :: r) ρ) τ R ↔ Ok (evE C (E.callN i es) ρ) τ fun y τ1 => Ok (evEs C r ρ) τ1 fun ys τ2 => R (y :: ys) τ2 := okEs_cons rfl
@[simp] theorem okEs_callK {i : Nat} {pm : List Nat} {es : List E} {ks : List E} {r : List E} : Ok (evEs C (E.callK i pm es ks :: r) ρ) τ R ↔ Ok (evE C (E.callK i pm es ks) ρ) τ fun y τ1 => Ok (evEs C r ρ) τ1 fun ys τ2 => R (y :: ys) τ2 := okEs_cons rfl
@[simp] theorem okEs_callT {i : Nat} {j : Nat} {es : List E} {r : List E} : Ok (evEs C (E.callT i j es :: r) ρ) τ R ↔ Ok (evE C (E.callT i j es) ρ) τ fun y τ1 => Ok (evEs C r ρ) τ1 fun ys τ2 => R (y :: ys) τ2 := okEs_cons rfl
@[simp] theorem okEs_callR {i : Nat} {a : E} {es : List E} {r : List E} : Ok (evEs C (E.callR i a es :: r) ρ) τ R ↔ Ok (evE C (E.callR i a es) ρ) τ fun y τ1 => Ok (evEs C r ρ) τ1 fun ys τ2 => R (y :: ys) τ2 := okEs_cons rfl
@[simp] theorem okEs_comp {a : E} {tg : Tg} {ik : IK} {es : List E} {b : E} {r : List E} : Ok (evEs C (E.comp a tg ik es b :: r) ρ) τ R ↔ Ok (evE C (E.comp a tg ik es b) ρ) τ fun y τ1 => Ok (evEs C r ρ) τ1 fun ys τ2 => R (y :: ys) τ2 := okEs_cons rfl
/-! statements -/
@[simp] theorem okS_nil : Ok (evSs C [] ρ) τ U ↔ U (.nx ρ) τ := ok_ret
/-- what comes after a statement -/
def thenS (C : Nat → List D → M D) (r : List S) (U : Out → List D → Prop) : Out → List D → Prop := fun o τ => match o with
  | .nx ρ' => Ok (evSs C r ρ') τ U
  | .ct ρ' => U (.ct ρ') τ
  | .rt x => U (.rt x) τ
@[simp] theorem okS_cons {s : S} {r : List S} : Ok (evSs C (s :: r) ρ) τ U ↔ Ok (evS C s ρ) τ (thenS C r U) := by
  show Ok ((evS C s ρ).bnd fun o => match o with
    | .nx ρ' => evSs C r ρ'
    | .ct ρ' => .ret (.ct ρ')
    | .rt x => .ret (.rt x)) τ U ↔ _
  rw [ok_bnd]
  constructor
  · refine fun h => h.mono fun o τ1 q => ?_
    cases o with
    | nx ρ' => exact q
    | ct ρ' => exact (ok_ret (Q := U)).1 q
    | rt x => exact (ok_ret (Q := U)).1 q
  · refine fun h => h.mono fun o τ1 q => ?_
    cases o with
    | nx ρ' => exact q
    | ct ρ' => exact ok_ret.2 q
    | rt x => exact ok_ret.2 q
@[simp] theorem thenS_nx {r : List S} {ρ' : En} : thenS C r U (.nx ρ') τ ↔ Ok (evSs C r ρ') τ U := Iff.rfl
@[simp] theorem thenS_ct {r : List S} {ρ' : En} : thenS C r U (.ct ρ') τ ↔ U (.ct ρ') τ := Iff.rfl
@[simp] theorem thenS_rt {r : List S} {d : D} : thenS C r U (.rt d) τ ↔ U (.rt d) τ := Iff.rfl
@[simp] theorem okS_asg {i : Nat} {e : E} : Ok (evS C (.asg i e) ρ) τ U ↔ Ok (evE C e ρ) τ fun d τ1 => U (.nx (ρ.set i (some (.dat d)))) τ1 := by
  show Ok ((evE C e ρ).bnd fun d => .ret (.nx (ρ.set i (some (.dat d))))) τ U ↔ _
  simp only [ok_bnd, ok_ret]
@[simp] theorem ok_listP {d : D} {V : List D → List D → Prop} : Ok (listP d) τ V ↔ ∃ ds, d = .list ds ∧ V ds τ := by
  cases d with
  | list i => exact ⟨fun h => ⟨i, rfl, ok_ret.1 h⟩, fun ⟨_, e, h⟩ => by cases e; exact ok_ret.2 h⟩
  | _ => exact ⟨fun h => (ok_fail.1 h).elim, fun ⟨_, e, h⟩ => nomatch e⟩
@[simp] theorem ok_ownAt {i : Nat} {V : List D → List D → Prop} : Ok (ownAt ρ i) τ V ↔ ∃ ds, ρ[i]? = some (some (.own ds)) ∧ V ds τ := by
  constructor
  · rintro ⟨d, τ', e, q⟩
    unfold ownAt at e
    split at e
    · rename_i h
      cases e
      exact ⟨_, h, q⟩
    · cases e
  · rintro ⟨d, e, q⟩
    exact ⟨_, τ, by unfold ownAt; simp only [e], q⟩
@[simp] theorem okS_asgO {i : Nat} {e : E} : Ok (evS C (.asgO i e) ρ) τ U ↔ Ok (evE C e ρ) τ fun d τ1 => ∃ ds, d = .list ds ∧ U (.nx (ρ.set i (some (.own ds)))) τ1 := by
  show Ok ((evE C e ρ).bnd fun d => (listP d).bnd fun ds => .ret (.nx (ρ.set i (some (.own ds))))) τ U ↔ _
  simp only [ok_bnd, ok_ret, ok_listP]
@[simp] theorem okS_unp {is : List Nat} {e : E} : Ok (evS C (.unp is e) ρ) τ U ↔ Ok (evE C e ρ) τ fun d τ1 => ∃ ds, d = .tuple ds ∧ ∃ ρ', setDs is ds ρ = some ρ' ∧ U (.nx ρ') τ1 := by
  show Ok ((evE C e ρ).bnd fun d => match d with
    | .tuple ds => (M.of (setDs is ds ρ)).bnd fun ρ' => .ret (.nx ρ')
    | _ => .fail) τ U ↔ _
  rw [ok_bnd]
  constructor
  · refine fun h => h.mono fun d τ1 q => ?_
    cases d with
    | tuple ds => exact ⟨ds, rfl, by simpa only [ok_bnd, ok_of, ok_ret] using q⟩
    | _ => exact (ok_fail.1 q).elim
  · refine fun h => h.mono fun d τ1 q => ?_
    obtain ⟨ds, rfl, q⟩ := q
    simpa only [ok_bnd, ok_of, ok_ret] using q
@[simp] theorem okS_par {i j : Nat} {a b : E} : Ok (evS C (.par i j a b) ρ) τ U ↔ Ok (evE C a ρ) τ fun x τ1 => Ok (evE C b ρ) τ1 fun y τ2 => U (.nx ((ρ.set i (some (.dat x))).set j (some (.dat y)))) τ2 := by
  show Ok ((evE C a ρ).bnd fun x => (evE C b ρ).bnd fun y => .ret (.nx ((ρ.set i (some (.dat x))).set j (some (.dat y))))) τ U ↔ _
  simp only [ok_bnd, ok_ret]
@[simp] theorem okS_sto {i : Nat} {ix e : E} : Ok (evS C (.sto i ix e) ρ) τ U ↔ Ok (evE C e ρ) τ fun d τ1 => Ok (evE C ix ρ) τ1 fun k τ2 => ∃ ds, ρ[i]? = some (some (.own ds)) ∧ ∃ ds', stoD ds k d = some ds' ∧ U (.nx (ρ.set i (some (.own ds')))) τ2 := by
  show Ok ((evE C e ρ).bnd fun d => (evE C ix ρ).bnd fun k => (ownAt ρ i).bnd fun ds => (M.of (stoD ds k d)).bnd fun ds' => .ret (.nx (ρ.set i (some (.own ds'))))) τ U ↔ _
  simp only [ok_bnd, ok_ret, ok_ownAt, ok_of]
@[simp] theorem okS_stoT {i : Nat} {ix e : E} : Ok (evS C (.stoT i ix e) ρ) τ U ↔ Ok (evE C e ρ) τ fun d τ1 => Ok (evE C ix ρ) τ1 fun k τ2 => isTin ρ i = true ∧ ∃ τ', stoD τ2 k d = some τ' ∧ U (.nx ρ) τ' := by
  show Ok ((evE C e ρ).bnd fun d => (evE C ix ρ).bnd fun k τ => if isTin ρ i then (match stoD τ k d with
    | some τ' => some (.nx ρ, τ')
    | none => none) else none) τ U ↔ _
  simp only [ok_bnd]
  constructor
  · refine fun h => h.mono fun x τ1 q => q.mono fun k τ2 q => ?_
    obtain ⟨d, τ', e, q⟩ := q
    by_cases ht : isTin ρ i = true
    · simp only [if_pos ht] at e
      split at e
      · rename_i h1
        cases e
        exact ⟨ht, _, h1, q⟩
      · cases e
    · simp only [if_neg ht] at e
      cases e
  · refine fun h => h.mono fun x τ1 q => q.mono fun k τ2 q => ?_
    obtain ⟨ht, τ', e, q⟩ := q
    exact ⟨.nx ρ, τ', by simp only [if_pos ht, e], q⟩
@[simp] theorem okS_app {i : Nat} {e : E} : Ok (evS C (.app i e) ρ) τ U ↔ Ok (evE C e ρ) τ fun d τ1 => ∃ ds, ρ[i]? = some (some (.own ds)) ∧ ds.length + 1 ≤ 16777216 ∧ U (.nx (ρ.set i (some (.own (ds ++ [d]))))) τ1 := by
  show Ok ((evE C e ρ).bnd fun d => (ownAt ρ i).bnd fun ds => if lineOk (ds.length + 1) then .ret (.nx (ρ.set i (some (.own (ds ++ [d]))))) else .fail) τ U ↔ _
  simp only [ok_bnd, ok_ret, ok_ownAt, ok_if, ok_fail, lineOk, decide_eq_true_eq]
  constructor
  · refine fun h => h.mono fun d τ1 q => ?_
    obtain ⟨ds, e, q1, q2⟩ := q
    by_cases h : ds.length + 1 ≤ 16777216
    · exact ⟨ds, e, h, q1 h⟩
    · exact (q2 h).elim
  · refine fun h => h.mono fun d τ1 q => ?_
    obtain ⟨ds, e, q1, q2⟩ := q
    exact ⟨ds, e, fun _ => q2, fun z => z q1⟩
@[simp] theorem okS_expr {e : E} : Ok (evS C (.expr e) ρ) τ U ↔ Ok (evE C e ρ) τ fun _ τ1 => U (.nx ρ) τ1 := by
  show Ok ((evE C e ρ).bnd fun _ => .ret (.nx ρ)) τ U ↔ _
  simp only [ok_bnd, ok_ret]
@[simp] theorem okS_ret {e : E} : Ok (evS C (.ret e) ρ) τ U ↔ Ok (evE C e ρ) τ fun d τ1 => U (.rt d) τ1 := by
  show Ok ((evE C e ρ).bnd fun d => .ret (.rt d)) τ U ↔ _
  simp only [ok_bnd, ok_ret]
@[simp] theorem okS_ite {c : E} {a b : List S} : Ok (evS C (.ite c a b) ρ) τ U ↔ Ok (evE C c ρ) τ fun x τ1 => ∃ k, truD x = some k ∧ (k = true → Ok (evSs C a ρ) τ1 U) ∧ (k = false → Ok (evSs C b ρ) τ1 U) := by
  show Ok ((evE C c ρ).bnd fun x => (M.of (truD x)).bnd fun k => if k then evSs C a ρ else evSs C b ρ) τ U ↔ _
  simp only [ok_bnd, ok_of, ok_ret, ok_if, Bool.not_eq_true]
@[simp] theorem okS_loop {tg : Tg} {ik : IK} {src : List E} {body : List S} : Ok (evS C (.loop tg ik src body) ρ) τ U ↔ Ok (evEs C src ρ) τ fun xs τ1 => ∃ items, walkD ik xs = some items ∧ Ok (loopL (fun d ρ => (M.of (setTg tg d ρ)).bnd fun ρ' => evSs C body ρ') items ρ) τ1 U := by
  show Ok ((evEs C src ρ).bnd fun xs => (M.of (walkD ik xs)).bnd fun items =>
    loopL (fun d ρ => (M.of (setTg tg d ρ)).bnd fun ρ' => evSs C body ρ') items ρ) τ U ↔ _
  rw [ok_bnd]
  simp only [ok_bnd (x := M.of (walkD ik _)), ok_of]
@[simp] theorem okS_cont : Ok (evS C .cont ρ) τ U ↔ U (.ct ρ) τ := ok_ret
@[simp] theorem okS_pass : Ok (evS C .pass ρ) τ U ↔ U (.nx ρ) τ := ok_ret
@[simp] theorem okS_frz {i : Nat} : Ok (evS C (.frz i) ρ) τ U ↔ ∃ ds, ρ[i]? = some (some (.own ds)) ∧ U (.nx (ρ.set i (some (.dat (.list ds))))) τ := by
  show Ok ((ownAt ρ i).bnd fun ds => .ret (.nx (ρ.set i (some (.dat (.list ds)))))) τ U ↔ _
  simp only [ok_bnd, ok_ret, ok_ownAt]
end
/-! data -/
section
variable {a b : Int} {xs ys : List D}
@[simp] theorem binD_add : binD .Add (.int a) (.int b) = some (.int (a + b)) := rfl
@[simp] theorem binD_sub : binD .Sub (.int a) (.int b) = some (.int (a - b)) := rfl
@[simp] theorem binD_mul (h : mulOk a b = true) : binD .Mult (.int a) (.int b) = some (.int (a * b)) := if_pos h
@[simp] theorem binD_mod (h : 0 < b) : binD .Mod (.int a) (.int b) = some (.int (a % b)) := if_pos h
@[simp] theorem binD_div (h : 0 < b) (h2 : b < 1073741824) : binD .FloorDiv (.int a) (.int b) = some (.int (a / b)) := if_pos (by simp only [Bool.and_eq_true, decide_eq_true_eq]; exact ⟨h, h2⟩)
@[simp] theorem binD_pow (h : 0 ≤ b) (h2 : b ≤ 1000000) (h3 : a.natAbs < 2 ^ 64) : binD .Pow (.int a) (.int b) = some (.int (a ^ b.toNat)) := if_pos (by simp only [Bool.and_eq_true, decide_eq_true_eq]; exact ⟨⟨h, h2⟩, h3⟩)
@[simp] theorem binD_shl (h : 0 ≤ b) (h2 : b ≤ 1000000) (h3 : a.natAbs < 2 ^ 64) : binD .LShift (.int a) (.int b) = some (.int (a * 2 ^ b.toNat)) := if_pos (by simp only [Bool.and_eq_true, decide_eq_true_eq]; exact ⟨⟨h, h2⟩, h3⟩)
@[simp] theorem binD_addL (h : xs.length + ys.length ≤ 16777216) : binD .Add (.list xs) (.list ys) = some (.list (xs ++ ys)) := if_pos (by unfold lineOk; exact decide_eq_true h)
@[simp] theorem binD_addT (h : xs.length + ys.length ≤ 16777216) : binD .Add (.tuple xs) (.tuple ys) = some (.tuple (xs ++ ys)) := if_pos (by unfold lineOk; exact decide_eq_true h)
@[simp] theorem binD_mulL {k : Int} (h : 0 ≤ k) (h2 : k < 2 ^ 20) (h3 : xs.length * k.toNat ≤ 16777216) : binD .Mult (.list xs) (.int k) = some (.list (List.replicate k.toNat xs).flatten) := if_pos (by
  unfold lineOk
  simp only [Bool.and_eq_true, decide_eq_true_eq]
  omega)
@[simp] theorem cmpD_lt : cmpD .Lt (.int a) (.int b) = some (.bool (decide (a < b))) := rfl
@[simp] theorem cmpD_le : cmpD .LtE (.int a) (.int b) = some (.bool (decide (a ≤ b))) := rfl
@[simp] theorem cmpD_gt : cmpD .Gt (.int a) (.int b) = some (.bool (decide (b < a))) := rfl
@[simp] theorem cmpD_ge : cmpD .GtE (.int a) (.int b) = some (.bool (decide (b ≤ a))) := rfl
@[simp] theorem cmpD_eqI : cmpD .Eq (.int a) (.int b) = some (.bool (decide (a = b))) := by
  simp [cmpD, SeqAt.shaped, PyData.canLay0, PyData.depth, PyData.eqv]
  exact (Bool.beq_eq_decide_eq a b)
@[simp] theorem cmpD_neI : cmpD .NotEq (.int a) (.int b) = some (.bool (!decide (a = b))) := by
  simp [cmpD, SeqAt.shaped, PyData.canLay0, PyData.depth, PyData.eqv]
  exact (Bool.beq_eq_decide_eq a b)
@[simp] theorem cmpD_eqB {p q : Bool} : cmpD .Eq (.bool p) (.bool q) = some (.bool (p == q)) := by
  simp [cmpD, SeqAt.shaped, PyData.canLay0, PyData.depth, PyData.eqv]
@[simp] theorem cmpD_neB {p q : Bool} : cmpD .NotEq (.bool p) (.bool q) = some (.bool (!(p == q))) := by
  simp [cmpD, SeqAt.shaped, PyData.canLay0, PyData.depth, PyData.eqv]
theorem cmpD_eq {d d' : D} (h : SeqAt.shaped d = true) (h' : SeqAt.shaped d' = true) : cmpD .Eq d d' = some (.bool (PyData.eqv d d')) := by
  show (if SeqAt.shaped d && SeqAt.shaped d' then _ else _) = _
  rw [h, h']
  rfl
theorem cmpD_ne {d d' : D} (h : SeqAt.shaped d = true) (h' : SeqAt.shaped d' = true) : cmpD .NotEq d d' = some (.bool (!PyData.eqv d d')) := by
  show (if SeqAt.shaped d && SeqAt.shaped d' then _ else _) = _
  rw [h, h']
  rfl
@[simp] theorem cmpD_is {d : D} : cmpD .Is d .none = some (.bool (isNone d)) := by
  cases d <;> rfl
@[simp] theorem cmpD_isnt {d : D} : cmpD .IsNot d .none = some (.bool (!isNone d)) := by
  cases d <;> rfl
@[simp] theorem isNone_none : isNone .none = true := rfl
@[simp] theorem isNone_bool {x : Bool} : isNone (.bool x) = false := rfl
@[simp] theorem isNone_int {x : Int} : isNone (.int x) = false := rfl
@[simp] theorem isNone_str {x : Str} : isNone (.str x) = false := rfl
@[simp] theorem isNone_list {x : List D} : isNone (.list x) = false := rfl
@[simp] theorem isNone_tuple {x : List D} : isNone (.tuple x) = false := rfl
@[simp] theorem truD_bool {k : Bool} : truD (.bool k) = some k := rfl
@[simp] theorem truD_none : truD .none = some false := rfl
@[simp] theorem truD_int : truD (.int a) = some (a != 0) := rfl
@[simp] theorem truD_list : truD (.list xs) = some (!xs.isEmpty) := rfl
@[simp] theorem truD_tuple : truD (.tuple xs) = some (!xs.isEmpty) := rfl
@[simp] theorem biD_lenL : biD .len [.list xs] = some (.int xs.length) := rfl
@[simp] theorem biD_lenT : biD .len [.tuple xs] = some (.int xs.length) := rfl
@[simp] theorem biD_listL : biD .list [.list xs] = some (.list xs) := rfl
@[simp] theorem biD_listT : biD .list [.tuple xs] = some (.list xs) := rfl
@[simp] theorem biD_tupleL : biD .tuple [.list xs] = some (.tuple xs) := rfl
@[simp] theorem biD_tupleT : biD .tuple [.tuple xs] = some (.tuple xs) := rfl
@[simp] theorem biD_int : biD .int [.int a] = some (.int a) := rfl
@[simp] theorem biD_intB {k : Bool} : biD .int [.bool k] = some (.int (if k then 1 else 0)) := rfl
@[simp] theorem biD_abs : biD .abs [.int a] = some (.int (if a < 0 then -a else a)) := rfl
@[simp] theorem getD_list : getD (.list xs) (.int a) = atI xs a := rfl
@[simp] theorem getD_tuple : getD (.tuple xs) (.int a) = atI xs a := rfl
@[simp] theorem atI_nat {α : Type} {l : List α} {k : Nat} : atI l (k : Int) = l[k]? := by
  unfold atI ixN
  rw [if_pos (by omega)]
  by_cases h : (k : Int) < l.length
  · rw [if_pos h]
    rfl
  · rw [if_neg h]
    exact (List.getElem?_eq_none (by omega)).symm
theorem isiD_of {d : D} {ts : List String} {b : Bool} {s : String} (e : tyD d = s) (h : kitAnyB s ts = some b) : isiD d ts = some (.bool b) := by
  subst e
  show (match kitAnyB (tyD d) ts with
    | some b => some (PyData.bool b)
    | none => none) = _
  rw [h]
theorem kit_none_tuple : kitAnyB "NoneType" ["tuple"] = some false := by decide +kernel
@[simp] theorem isi_none_tuple : isiD (.none) ["tuple"] = some (.bool false) := isiD_of rfl kit_none_tuple
theorem kit_none_bool : kitAnyB "NoneType" ["bool"] = some false := by decide +kernel
@[simp] theorem isi_none_bool : isiD (.none) ["bool"] = some (.bool false) := isiD_of rfl kit_none_bool
theorem kit_none_list_tuple : kitAnyB "NoneType" ["list", "tuple"] = some false := by decide +kernel
@[simp] theorem isi_none_list_tuple : isiD (.none) ["list", "tuple"] = some (.bool false) := isiD_of rfl kit_none_list_tuple
theorem kit_none_list : kitAnyB "NoneType" ["list"] = some false := by decide +kernel
@[simp] theorem isi_none_list : isiD (.none) ["list"] = some (.bool false) := isiD_of rfl kit_none_list
theorem kit_none_dict : kitAnyB "NoneType" ["dict"] = some false := by decide +kernel
@[simp] theorem isi_none_dict : isiD (.none) ["dict"] = some (.bool false) := isiD_of rfl kit_none_dict
theorem kit_none_int : kitAnyB "NoneType" ["int"] = some false := by decide +kernel
@[simp] theorem isi_none_int : isiD (.none) ["int"] = some (.bool false) := isiD_of rfl kit_none_int
theorem kit_none_str : kitAnyB "NoneType" ["str"] = some false := by decide +kernel
@[simp] theorem isi_none_str : isiD (.none) ["str"] = some (.bool false) := isiD_of rfl kit_none_str
theorem kit_none_bool_str : kitAnyB "NoneType" ["bool", "str"] = some false := by decide +kernel
@[simp] theorem isi_none_bool_str : isiD (.none) ["bool", "str"] = some (.bool false) := isiD_of rfl kit_none_bool_str
theorem kit_bool_tuple : kitAnyB "bool" ["tuple"] = some false := by decide +kernel
@[simp] theorem isi_bool_tuple {x : Bool} : isiD (.bool x) ["tuple"] = some (.bool false) := isiD_of rfl kit_bool_tuple
theorem kit_bool_bool : kitAnyB "bool" ["bool"] = some true := by decide +kernel
@[simp] theorem isi_bool_bool {x : Bool} : isiD (.bool x) ["bool"] = some (.bool true) := isiD_of rfl kit_bool_bool
theorem kit_bool_list_tuple : kitAnyB "bool" ["list", "tuple"] = some false := by decide +kernel
@[simp] theorem isi_bool_list_tuple {x : Bool} : isiD (.bool x) ["list", "tuple"] = some (.bool false) := isiD_of rfl kit_bool_list_tuple
theorem kit_bool_list : kitAnyB "bool" ["list"] = some false := by decide +kernel
@[simp] theorem isi_bool_list {x : Bool} : isiD (.bool x) ["list"] = some (.bool false) := isiD_of rfl kit_bool_list
theorem kit_bool_dict : kitAnyB "bool" ["dict"] = some false := by decide +kernel
@[simp] theorem isi_bool_dict {x : Bool} : isiD (.bool x) ["dict"] = some (.bool false) := isiD_of rfl kit_bool_dict
theorem kit_bool_int : kitAnyB "bool" ["int"] = some true := by decide +kernel
@[simp] theorem isi_bool_int {x : Bool} : isiD (.bool x) ["int"] = some (.bool true) := isiD_of rfl kit_bool_int
theorem kit_bool_str : kitAnyB "bool" ["str"] = some false := by decide +kernel
@[simp] theorem isi_bool_str {x : Bool} : isiD (.bool x) ["str"] = some (.bool false) := isiD_of rfl kit_bool_str
theorem kit_bool_bool_str : kitAnyB "bool" ["bool", "str"] = some true := by decide +kernel
@[simp] theorem isi_bool_bool_str {x : Bool} : isiD (.bool x) ["bool", "str"] = some (.bool true) := isiD_of rfl kit_bool_bool_str
theorem kit_int_tuple : kitAnyB "int" ["tuple"] = some false := by decide +kernel
@[simp] theorem isi_int_tuple {x : Int} : isiD (.int x) ["tuple"] = some (.bool false) := isiD_of rfl kit_int_tuple
theorem kit_int_bool : kitAnyB "int" ["bool"] = some false := by decide +kernel
@[simp] theorem isi_int_bool {x : Int} : isiD (.int x) ["bool"] = some (.bool false) := isiD_of rfl kit_int_bool
theorem kit_int_list_tuple : kitAnyB "int" ["list", "tuple"] = some false := by decide +kernel
@[simp] theorem isi_int_list_tuple {x : Int} : isiD (.int x) ["list", "tuple"] = some (.bool false) := isiD_of rfl kit_int_list_tuple
theorem kit_int_list : kitAnyB "int" ["list"] = some false := by decide +kernel
@[simp] theorem isi_int_list {x : Int} : isiD (.int x) ["list"] = some (.bool false) := isiD_of rfl kit_int_list
theorem kit_int_dict : kitAnyB "int" ["dict"] = some false := by decide +kernel
@[simp] theorem isi_int_dict {x : Int} : isiD (.int x) ["dict"] = some (.bool false) := isiD_of rfl kit_int_dict
theorem kit_int_int : kitAnyB "int" ["int"] = some true := by decide +kernel
@[simp] theorem isi_int_int {x : Int} : isiD (.int x) ["int"] = some (.bool true) := isiD_of rfl kit_int_int
theorem kit_int_str : kitAnyB "int" ["str"] = some false := by decide +kernel
@[simp] theorem isi_int_str {x : Int} : isiD (.int x) ["str"] = some (.bool false) := isiD_of rfl kit_int_str
theorem kit_int_bool_str : kitAnyB "int" ["bool", "str"] = some false := by decide +kernel
@[simp] theorem isi_int_bool_str {x : Int} : isiD (.int x) ["bool", "str"] = some (.bool false) := isiD_of rfl kit_int_bool_str
theorem kit_str_tuple : kitAnyB "str" ["tuple"] = some false := by decide +kernel
@[simp] theorem isi_str_tuple {x : Str} : isiD (.str x) ["tuple"] = some (.bool false) := isiD_of rfl kit_str_tuple
theorem kit_str_bool : kitAnyB "str" ["bool"] = some false := by decide +kernel
@[simp] theorem isi_str_bool {x : Str} : isiD (.str x) ["bool"] = some (.bool false) := isiD_of rfl kit_str_bool
theorem kit_str_list_tuple : kitAnyB "str" ["list", "tuple"] = some false := by decide +kernel
@[simp] theorem isi_str_list_tuple {x : Str} : isiD (.str x) ["list", "tuple"] = some (.bool false) := isiD_of rfl kit_str_list_tuple
theorem kit_str_list : kitAnyB "str" ["list"] = some false := by decide +kernel
@[simp] theorem isi_str_list {x : Str} : isiD (.str x) ["list"] = some (.bool false) := isiD_of rfl kit_str_list
theorem kit_str_dict : kitAnyB "str" ["dict"] = some false := by decide +kernel
@[simp] theorem isi_str_dict {x : Str} : isiD (.str x) ["dict"] = some (.bool false) := isiD_of rfl kit_str_dict
theorem kit_str_int : kitAnyB "str" ["int"] = some false := by decide +kernel
@[simp] theorem isi_str_int {x : Str} : isiD (.str x) ["int"] = some (.bool false) := isiD_of rfl kit_str_int
theorem kit_str_str : kitAnyB "str" ["str"] = some true := by decide +kernel
@[simp] theorem isi_str_str {x : Str} : isiD (.str x) ["str"] = some (.bool true) := isiD_of rfl kit_str_str
theorem kit_str_bool_str : kitAnyB "str" ["bool", "str"] = some true := by decide +kernel
@[simp] theorem isi_str_bool_str {x : Str} : isiD (.str x) ["bool", "str"] = some (.bool true) := isiD_of rfl kit_str_bool_str
theorem kit_list_tuple : kitAnyB "list" ["tuple"] = some false := by decide +kernel
@[simp] theorem isi_list_tuple {x : List D} : isiD (.list x) ["tuple"] = some (.bool false) := isiD_of rfl kit_list_tuple
theorem kit_list_bool : kitAnyB "list" ["bool"] = some false := by decide +kernel
@[simp] theorem isi_list_bool {x : List D} : isiD (.list x) ["bool"] = some (.bool false) := isiD_of rfl kit_list_bool
theorem kit_list_list_tuple : kitAnyB "list" ["list", "tuple"] = some true := by decide +kernel
@[simp] theorem isi_list_list_tuple {x : List D} : isiD (.list x) ["list", "tuple"] = some (.bool true) := isiD_of rfl kit_list_list_tuple
theorem kit_list_list : kitAnyB "list" ["list"] = some true := by decide +kernel
@[simp] theorem isi_list_list {x : List D} : isiD (.list x) ["list"] = some (.bool true) := isiD_of rfl kit_list_list
theorem kit_list_dict : kitAnyB "list" ["dict"] = some false := by decide +kernel
@[simp] theorem isi_list_dict {x : List D} : isiD (.list x) ["dict"] = some (.bool false) := isiD_of rfl kit_list_dict
theorem kit_list_int : kitAnyB "list" ["int"] = some false := by decide +kernel
@[simp] theorem isi_list_int {x : List D} : isiD (.list x) ["int"] = some (.bool false) := isiD_of rfl kit_list_int
theorem kit_list_str : kitAnyB "list" ["str"] = some false := by decide +kernel
@[simp] theorem isi_list_str {x : List D} : isiD (.list x) ["str"] = some (.bool false) := isiD_of rfl kit_list_str
theorem kit_list_bool_str : kitAnyB "list" ["bool", "str"] = some false := by decide +kernel
@[simp] theorem isi_list_bool_str {x : List D} : isiD (.list x) ["bool", "str"] = some (.bool false) := isiD_of rfl kit_list_bool_str
theorem kit_tuple_tuple : kitAnyB "tuple" ["tuple"] = some true := by decide +kernel
@[simp] theorem isi_tuple_tuple {x : List D} : isiD (.tuple x) ["tuple"] = some (.bool true) := isiD_of rfl kit_tuple_tuple
theorem kit_tuple_bool : kitAnyB "tuple" ["bool"] = some false := by decide +kernel
@[simp] theorem isi_tuple_bool {x : List D} : isiD (.tuple x) ["bool"] = some (.bool false) := isiD_of rfl kit_tuple_bool
theorem kit_tuple_list_tuple : kitAnyB "tuple" ["list", "tuple"] = some true := by decide +kernel
@[simp] theorem isi_tuple_list_tuple {x : List D} : isiD (.tuple x) ["list", "tuple"] = some (.bool true) := isiD_of rfl kit_tuple_list_tuple
theorem kit_tuple_list : kitAnyB "tuple" ["list"] = some false := by decide +kernel
@[simp] theorem isi_tuple_list {x : List D} : isiD (.tuple x) ["list"] = some (.bool false) := isiD_of rfl kit_tuple_list
theorem kit_tuple_dict : kitAnyB "tuple" ["dict"] = some false := by decide +kernel
@[simp] theorem isi_tuple_dict {x : List D} : isiD (.tuple x) ["dict"] = some (.bool false) := isiD_of rfl kit_tuple_dict
theorem kit_tuple_int : kitAnyB "tuple" ["int"] = some false := by decide +kernel
@[simp] theorem isi_tuple_int {x : List D} : isiD (.tuple x) ["int"] = some (.bool false) := isiD_of rfl kit_tuple_int
theorem kit_tuple_str : kitAnyB "tuple" ["str"] = some false := by decide +kernel
@[simp] theorem isi_tuple_str {x : List D} : isiD (.tuple x) ["str"] = some (.bool false) := isiD_of rfl kit_tuple_str
theorem kit_tuple_bool_str : kitAnyB "tuple" ["bool", "str"] = some false := by decide +kernel
@[simp] theorem isi_tuple_bool_str {x : List D} : isiD (.tuple x) ["bool", "str"] = some (.bool false) := isiD_of rfl kit_tuple_bool_str
theorem stoD_nat {k : Nat} {d : D} (h : k < xs.length) : stoD xs (.int (k : Int)) d = some (xs.set k d) := by
  unfold stoD ixN
  simp only
  rw [if_pos (by omega), if_pos (by omega)]
  rfl
@[simp] theorem atI_zero {α : Type} {l : List α} : atI l 0 = l[0]? := atI_nat (k := 0)
@[simp] theorem atI_lit {α : Type} {l : List α} {k : Nat} : atI l (OfNat.ofNat k : Int) = l[k]? := atI_nat (k := k)
@[simp] theorem atI_one {α : Type} {l : List α} : atI l 1 = l[1]? := atI_nat (k := 1)
@[simp] theorem sliceD_list {lo hi : Option Int} : sliceD (.list xs) lo hi = some (.list (cutL xs lo hi)) := rfl
@[simp] theorem sliceD_tuple {lo hi : Option Int} : sliceD (.tuple xs) lo hi = some (.tuple (cutL xs lo hi)) := rfl
@[simp] theorem seqD_list : seqD (.list xs) = some xs := rfl
@[simp] theorem seqD_tuple : seqD (.tuple xs) = some xs := rfl
@[simp] theorem revD_list : revD (.list xs) = some (.list xs.reverse) := rfl
@[simp] theorem walkD_list : walkD .ex [.list xs] = some xs := rfl
@[simp] theorem walkD_tuple : walkD .ex [.tuple xs] = some xs := rfl
@[simp] theorem walkD_enumL : walkD .enum [.list xs] = some (enumFrom 0 xs) := rfl
@[simp] theorem walkD_enumT : walkD .enum [.tuple xs] = some (enumFrom 0 xs) := rfl
@[simp] theorem walkD_zipL : walkD .zip [.list xs, .list ys] = some (zipD xs ys) := rfl
@[simp] theorem walkD_zipT : walkD .zip [.tuple xs, .tuple ys] = some (zipD xs ys) := rfl
theorem walkD_range {j : Int} (h : j ≤ 16777216) (h2 : 0 ≤ j) : walkD .range [.int j] = some (rangeD 0 j.toNat) := if_pos (by
  unfold near62 lineOk
  simp only [Bool.and_eq_true, decide_eq_true_eq]
  omega)
theorem walkC_of {ik : IK} {xs items : List D} (h : walkD ik xs = some items) (hl : items.length ≤ 16777216) : walkC ik xs = some items := by
  unfold walkC
  rw [h]
  exact if_pos (by unfold lineOk; exact decide_eq_true hl)
@[simp] theorem setTg_nm {i : Nat} {d : D} {ρ : En} : setTg (.nm i) d ρ = some (ρ.set i (some (.dat d))) := rfl
@[simp] theorem setTg_tup {is : List Nat} {ds : List D} {ρ : En} : setTg (.tup is) (.tuple ds) ρ = setDs is ds ρ := rfl
@[simp] theorem setDs_nil {ρ : En} : setDs [] [] ρ = some ρ := rfl
@[simp] theorem setDs_cons {i : Nat} {is : List Nat} {d : D} {ds : List D} {ρ : En} : setDs (i :: is) (d :: ds) ρ = setDs is ds (ρ.set i (some (.dat d))) := rfl
@[simp] theorem isTin_zero {ρ : En} : isTin (some .tin :: ρ) 0 = true := rfl
@[simp] theorem slots_nm {i : Nat} : (Tg.nm i).slots = [i] := rfl
@[simp] theorem slots_tup {is : List Nat} : (Tg.tup is).slots = is := rfl
@[simp] theorem wipeE_nil {ρ : En} : wipeE ρ [] = ρ := rfl
@[simp] theorem wipeE_cons {ρ : En} {v : Nat} {vs : List Nat} : wipeE ρ (v :: vs) = (wipeE ρ vs).set v none := rfl
@[simp] theorem outD_rt {d : D} : outD (.rt d) = some d := rfl
@[simp] theorem outD_nx {ρ : En} : outD (.nx ρ) = some .none := rfl
@[simp] theorem outD_ct {ρ : En} : outD (.ct ρ) = none := rfl
@[simp] theorem envI_f {k : Nat} {ds : List D} : envI false k ds = ds.map (fun d => some (Ent.dat d)) ++ List.replicate k none := rfl
@[simp] theorem envI_t {k : Nat} {ds : List D} : envI true k ds = some Ent.tin :: (ds.map (fun d => some (Ent.dat d)) ++ List.replicate k none) := rfl
theorem cut_to {α : Type} (l : List α) (k : Nat) : cutL l none (some (k : Int)) = l.take k := by
  unfold cutL
  rw [HT.sIx_none, HT.sIx_nat, List.drop_zero, Nat.sub_zero]
  rcases Nat.le_total k l.length with hh | hh
  · rw [Nat.min_eq_left hh]
  · rw [Nat.min_eq_right hh, List.take_of_length_le hh, List.take_length]
theorem cut_from {α : Type} (l : List α) (k : Nat) : cutL l (some (k : Int)) none = l.drop k := by
  unfold cutL
  rw [HT.sIx_none, HT.sIx_nat]
  rw [List.take_of_length_le (by rw [List.length_drop]; omega)]
  rcases Nat.le_total k l.length with hh | hh
  · rw [Nat.min_eq_left hh]
  · rw [Nat.min_eq_right hh, List.drop_length, List.drop_eq_nil_of_le hh]
theorem cut_mid {α : Type} (l : List α) (j k : Nat) : cutL l (some (j : Int)) (some (k : Int)) = (l.drop j).take (k - j) := by
  unfold cutL
  rw [HT.sIx_nat, HT.sIx_nat]
  rcases Nat.le_total j l.length with hh | hh
  · rw [Nat.min_eq_left hh]
    rcases Nat.le_total k l.length with h2 | h2
    · rw [Nat.min_eq_left h2]
    · rw [Nat.min_eq_right h2, List.take_of_length_le (by rw [List.length_drop]; omega), List.take_of_length_le (by rw [List.length_drop]; omega)]
  · rw [Nat.min_eq_right hh, List.drop_length, List.drop_eq_nil_of_le hh, List.take_nil, List.take_nil]
end
end KN

set_option maxRecDepth 100000
set_option maxHeartbeats 4000000
namespace KN
open PySem L2 PyProof.Rows
/-! ### the draws -/
def takeB : List S := [
  .ite (.cmp .Gt (.tget 0 (.int 0)) (.int 0)) [.asg 2 (.bin .Mod (.bi .int [.tget 0 (.int 0)]) (.var 1)), .stoT 0 (.int 0) (.bin .FloorDiv (.tget 0 (.int 0)) (.var 1)), .ret (.var 2)] [],
  .stoT 0 (.int 2) (.bin .Add (.tget 0 (.int 2)) (.int 1)),
  .asg 3 (.bin .Mod (.bi .int [.bin .Mult (.bin .Add (.tget 0 (.int 1)) (.bin .Mult (.int 48271) (.tget 0 (.int 2)))) (.bin .Add (.int 39373) (.tget 0 (.int 2)))]) (.int 2147483647)),
  .asg 4 (.bin .Add (.bin .Mod (.bi .int [.var 3]) (.int 40009)) (.int 7)),
  .asg 5 (.bin .Mod (.bi .int [.bin .Mult (.bin .Add (.bin .Add (.var 3) (.tget 0 (.int 2))) (.bin .FloorDiv (.tget 0 (.int 1)) (.int 1000003))) (.var 4)]) (.int 2147483629)),
  .ret (.bin .Mod (.bi .int [.bin .FloorDiv (.bin .Mod (.bi .int [.bin .Add (.bin .Mult (.var 5) (.int 48271)) (.var 3)]) (.int 2147483587)) (.int 64)]) (.var 1))]
/-- the box after at most m draws -/
def Bx (τ : List D) (m : Nat) : Prop := ∃ a b c : Int, τ = [.int a, .int b, .int c] ∧ 0 ≤ a ∧ 0 ≤ c ∧ c ≤ m
theorem Bx.mono {τ : List D} {m k : Nat} (h : Bx τ m) (hk : m ≤ k) : Bx τ k := by
  obtain ⟨a, b, c, e, h1, h2, h3⟩ := h
  exact ⟨a, b, c, e, h1, h2, by omega⟩
theorem take_ok {T : List Fn} {n f : Nat} {top : Int} {τ : List D} {m : Nat} (h : Is T f takeB true 2 6) (hb : Bx τ m) (hm : m < 2 ^ 60) (h0 : 0 < top) (h1 : top < 1073741824) :
    Ok (callF T (n + 1) f [.int top]) τ fun d τ' => ∃ k : Int, d = .int k ∧ 0 ≤ k ∧ k < top ∧ Bx τ' (m + 1) := by
  obtain ⟨a, b, c, rfl, ha, hc, hcm⟩ := hb
  rw [ok_is h rfl]
  by_cases hp : 0 < a
  · refine ⟨.rt (.int (a % top)), [.int (a / top), .int b, .int c], ?_, _, rfl, _, rfl, Int.emod_nonneg _ (by omega), Int.emod_lt_of_pos _ h0, _, _, _, rfl, Int.ediv_nonneg ha (by omega), hc, by omega⟩
    simp [takeB, envI, evSs, evS, evE, evEs, M.bnd, M.ret, M.of, isTin, getD, atI, ixN, cmpD, truD, binD, biD, stoD, setO, hp, h0, h1]
  · have e0 : a = 0 := by omega
    subst e0
    have q1 : mulOk 48271 (c + 1) = true := by simp [mulOk]
    have q2 : mulOk (b + 48271 * (c + 1)) (39373 + (c + 1)) = true := by
      unfold mulOk
      simp only [Bool.or_eq_true, Bool.and_eq_true, decide_eq_true_eq]
      omega
    have q3 : ∀ x y : Int, mulOk x (y % 40009 + 7) = true := fun x y => by
      unfold mulOk
      simp only [Bool.or_eq_true, Bool.and_eq_true, decide_eq_true_eq]
      omega
    have q4 : ∀ x : Int, mulOk x 48271 = true := fun x => by
      unfold mulOk
      simp
    refine ⟨_, [.int 0, .int b, .int (c + 1)], by
      simp [takeB, envI, evSs, evS, evE, evEs, M.bnd, M.ret, M.of, isTin, getD, atI, ixN, cmpD, truD, binD, biD, stoD, setO, h0, q1, q2, q3, q4]
      rfl, _, rfl, _, rfl, Int.emod_nonneg _ (by omega), Int.emod_lt_of_pos _ h0, _, _, _, rfl, by omega, by omega, by omega⟩
end KN

set_option maxRecDepth 100000
set_option maxHeartbeats 4000000
namespace KN
open PySem L2 PyProof.Rows
theorem call_is {T : List Fn} {n f : Nat} {b : List S} {tin : Bool} {p nn : Nat} {ds : List D} {τ τ' : List D} {d : D} (h : Is T f b tin p nn) (hl : (if tin then ds.length + 1 else ds.length) = p)
    (e : evSs (callF T n) b (envI tin (nn - p) ds) τ = some (.rt d, τ')) : callF T (n + 1) f ds τ = some (d, τ') := by
  obtain ⟨d', τ1, e1, rfl, rfl⟩ := (ok_is (n := n) (Q := fun d1 τ1 => d1 = d ∧ τ1 = τ') h hl).2 ⟨_, _, e, _, rfl, rfl, rfl⟩
  exact e1
/-! ### the box -/
def boxB (z : Int) : List S := [
  .asg 2 (.ite (.cmp .Lt (.var 1) (.bi .len [.var 0])) (.get (.var 0) (.var 1)) (.int 0)),
  .ret (.lst [.bin .Mult (.bi .abs [.var 2]) (.bi .int [.cmp .GtE (.bi .abs [.var 2]) (.bin .Pow (.int 10) (.int 18))]), .bin .Add (.bin .Add (.bin .Mod (.bi .int [.var 2]) (.int 2305843009213693951)) (.bin .Mult (.int 39373) (.var 1))) (.int z), .int 0])]
theorem mulOk_left {i j : Int} (h1 : -(2 ^ 64) < i) (h2 : i < 2 ^ 64) : mulOk i j = true := by
  unfold mulOk
  simp only [Bool.or_eq_true, Bool.and_eq_true, decide_eq_true_eq]
  exact .inl ⟨h1, h2⟩
theorem mulOk_right {i j : Int} (h1 : -(2 ^ 64) < j) (h2 : j < 2 ^ 64) : mulOk i j = true := by
  unfold mulOk
  simp only [Bool.or_eq_true, Bool.and_eq_true, decide_eq_true_eq]
  exact .inr ⟨h1, h2⟩
theorem box_ok {T : List Fn} {n f : Nat} {z : Int} {xs : List Int} {k : Nat} (h : Is T f (boxB z) false 2 3) (hk : k < xs.length) {τ : List D} :
    Ok (callF T (n + 1) f [.list (xs.map .int), .int k]) τ fun d _ => ∃ σ, d = .list σ ∧ Bx σ 0 := by
  rw [ok_is h rfl]
  have e1 : ((k : Int) < (xs.length : Int)) := by omega
  have e2 : xs[k]? = some xs[k] := List.getElem?_eq_getElem hk
  have q1 : ∀ j : Int, mulOk 39373 j = true := fun j => mulOk_left (by decide) (by decide)
  have q2 : ∀ (i : Int) (p : Prop) [Decidable p], mulOk i (if p then 1 else 0) = true := fun i p _ => mulOk_right (by split <;> decide) (by split <;> decide)
  generalize xs[k] = x at e2
  simp [boxB, e1, e2, q1, q2]
  refine ⟨_, _, _, rfl, Int.mul_nonneg ?_ ?_, by omega, by omega⟩
  · split <;> omega
  · split <;> omega
/-! ### the cells -/
def cellsB : List S := [
  .asgO 2 (.or (.bi .list [.slice (.var 0) .absent (.var 1)]) (.lst [.int 0])),
  .loop (.tup [3, 4]) .enum [.slice (.var 0) (.var 1) (.int 63)] [.asg 5 (.bin .Mod (.bi .int [.var 3]) (.var 1)), .sto 2 (.var 5) (.bin .Add (.get (.peek 2) (.var 5)) (.bin .Mult (.var 4) (.bin .Add (.var 3) (.int 2))))],
  .frz 2,
  .ret (.var 2)]
theorem cells_ok {T : List Fn} {n f : Nat} {xs : List Int} {s : Nat} (h : Is T f cellsB false 2 6) (hs : 0 < s) (hs2 : s < 63) (hl : xs.length ≤ 63) {τ : List D} :
    Ok (callF T (n + 1) f [.list (xs.map .int), .int s]) τ fun d _ => ∃ ys : List Int, d = .list (ys.map .int) ∧ 0 < ys.length ∧ ys.length ≤ s := by
  rw [ok_is h rfl]
  have c2 : cutL (xs.map PyData.int) (some (s : Int)) (some 63) = ((xs.drop s).take (63 - s)).map .int := by
    rw [show (some (63 : Int)) = some ((63 : Nat) : Int) from rfl, cut_mid, List.map_take, List.map_drop]
  simp [cellsB, cut_to, c2]
  by_cases hx : xs = []
  · subst hx
    refine .inl ⟨.inr rfl, ?_⟩
    simp [enumFrom, loopL]
    exact ⟨[0], by simp, by simp, by simp; omega⟩
  · refine .inr ⟨⟨by omega, hx⟩, ?_⟩
    have hx1 : 0 < xs.length := List.length_pos_iff.mpr hx
    refine ok_loop (fun items ρ _ => ∃ (k : Nat) (zs ys : List Int) (v3 v4 v5 : Option Ent), items = enumFrom k (zs.map .int) ∧ ρ = [some (.dat (.list (xs.map .int))), some (.dat (.int s)), some (.own (ys.map .int)), v3, v4, v5] ∧ 0 < ys.length ∧ ys.length ≤ s ∧ (zs ≠ [] → ys.length = s) ∧ k + zs.length ≤ 63) ?_ ?_ _ _ _ ⟨0, (xs.drop s).take (63 - s), xs.take s, none, none, none, ?_, ?_, ?_, ?_, ?_, ?_⟩
    · rintro d r ρ τ ⟨k, zs, ys, v3, v4, v5, e1, rfl, h1, h2, h3, h4⟩
      cases zs with
      | nil => cases e1
      | cons z zs =>
        simp only [List.map_cons, enumFrom, List.cons.injEq] at e1
        obtain ⟨rfl, rfl⟩ := e1
        have hy := h3 (by simp)
        have h5 : (0 : Int) < s := by omega
        have h6 : ((k : Int) % (s : Int)) = ((k % s : Nat) : Int) := by omega
        have h7 : k % s < ys.length := by rw [hy]; exact Nat.mod_lt _ hs
        have a1 : atI (ys.map PyData.int) ((k : Int) % (s : Int)) = some (.int ys[k % s]) := by
          rw [h6, atI_nat, List.getElem?_map, List.getElem?_eq_getElem h7]
          rfl
        have a2 : ∀ d, stoD (ys.map PyData.int) (.int ((k : Int) % (s : Int))) d = some ((ys.map PyData.int).set (k % s) d) := fun d => by
          rw [h6, stoD_nat (by rw [List.length_map]; exact h7)]
        have q : ∀ i : Int, mulOk i ((k : Int) + 2) = true := fun i => mulOk_right (by omega) (by simp only [List.length_cons] at h4; omega)
        simp [hs, a1, a2, q]
        refine ⟨k + 1, zs, rfl, ys.set (k % s) (ys[k % s] + z * (k + 2)), ?_, by simpa using h1, by simpa using h2, fun _ => by simpa using hy, by simp only [List.length_cons] at h4; omega⟩
        rw [List.map_set]
    · rintro ρ τ ⟨k, zs, ys, v3, v4, v5, e1, rfl, h1, h2, h3, h4⟩
      simp
      exact ⟨ys, rfl, h1, h2⟩
    · simp
    · simp
    · rw [List.length_take]; omega
    · rw [List.length_take]; omega
    · intro hz
      rw [List.length_take]
      have : xs.drop s ≠ [] := fun e => hz (by rw [e, List.take_nil])
      have : s < xs.length := by
        rcases Nat.lt_or_ge s xs.length with h | h
        · exact h
        · exact absurd (List.drop_eq_nil_of_le h) this
      omega
    · rw [List.length_take, List.length_drop]; omega
/-! ### one of a pool -/
def ofB (t : Nat) : List S := [.ret (.get (.var 1) (.callT t 0 [.bi .len [.var 1]]))]
theorem of_ok {T : List Fn} {n f t : Nat} {ds : List D} {τ : List D} {m : Nat} (h : Is T f (ofB t) true 2 2) (ht : Is T t takeB true 2 6) (hb : Bx τ m) (hm : m < 2 ^ 60) (h0 : 0 < ds.length) (h1 : ds.length < 1073741824) :
    Ok (callF T (n + 2) f [.list ds]) τ fun d τ' => d ∈ ds ∧ Bx τ' (m + 1) := by
  rw [ok_is h rfl]
  simp [ofB]
  refine (take_ok ht hb hm (by omega) (by omega)).mono fun d τ' q => ?_
  obtain ⟨k, rfl, k0, k1, b⟩ := q
  obtain ⟨j, rfl⟩ := Int.eq_ofNat_of_zero_le k0
  have hj : j < ds.length := by omega
  refine ⟨ds[j], ?_, List.getElem_mem hj, b⟩
  simp [List.getElem?_eq_getElem hj]
end KN

set_option maxRecDepth 100000
set_option maxHeartbeats 4000000
namespace KN
open PySem L2 PyProof.Rows
/-! ### the likeness of data -/
def sameB (f : Nat) : List S := [
  .ite (.isi (.var 1) ["list", "tuple"] true) [.ite (.or (.cmp .NotEq (.isi (.var 0) ["list"] false) (.isi (.var 1) ["list"] false)) (.cmp .NotEq (.isi (.var 0) ["tuple"] false) (.isi (.var 1) ["tuple"] false))) [.ret (.bl false)] [], .ret (.and (.cmp .Eq (.bi .len [.var 0]) (.bi .len [.var 1])) (.bi .all [.comp (.call f [.var 2, .var 3]) (.tup [2, 3]) .zip [.var 0, .var 1] .absent]))] [],
  .ite (.isi (.var 1) ["dict"] false) [.ite (.or (.not (.isi (.var 0) ["dict"] false)) (.cmp .NotEq (.bi .sorted [.var 0]) (.bi .sorted [.var 1]))) [.ret (.bl false)] [], .ret (.bi .all [.comp (.call f [.get (.var 0) (.var 4), .get (.var 1) (.var 4)]) (.nm 4) .ex [.var 1] .absent])] [],
  .ite (.or (.cmp .Is (.var 1) .non) (.isi (.var 1) ["bool", "str"] true)) [.ret (.and (.cmp .Eq (.var 0) (.var 1)) (.and (.cmp .Eq (.isi (.var 0) ["bool"] false) (.isi (.var 1) ["bool"] false)) (.cmp .Eq (.cmp .Is (.var 0) .non) (.cmp .Is (.var 1) .non))))] [],
  .ret (.and (.isi (.var 0) ["int"] false) (.and (.not (.isi (.var 0) ["bool"] false)) (.cmp .Eq (.var 0) (.var 1))))]
mutual
/-- data that a run may liken: no dict, no long line -/
def okD : D → Bool
  | .none | .bool _ | .int _ => true
  | .str x => PyData.strOk x
  | .list xs | .tuple xs => decide (xs.length ≤ 16777216) && okDs xs
  | .dict _ => false
def okDs : List D → Bool
  | [] => true
  | x :: xs => okD x && okDs xs
end
theorem okDs_mem : ∀ {xs : List D}, okDs xs = true → ∀ x ∈ xs, okD x = true
  | [], _, _, h => by cases h
  | y :: r, h, x, hx => by
    simp only [okDs, Bool.and_eq_true] at h
    rcases List.mem_cons.1 hx with rfl | h2
    · exact h.1
    · exact okDs_mem h.2 x h2
theorem okDs_of : ∀ {xs : List D}, (∀ x ∈ xs, okD x = true) → okDs xs = true
  | [], _ => rfl
  | y :: r, h => by
    simp only [okDs, Bool.and_eq_true]
    exact ⟨h y List.mem_cons_self, okDs_of fun x hx => h x (List.mem_cons_of_mem _ hx)⟩
theorem depthAll_mem : ∀ {xs : List D} {x : D}, x ∈ xs → x.depth ≤ PyData.depthAll xs
  | [], _, h => by cases h
  | y :: r, x, h => by
    simp only [PyData.depthAll]
    rcases List.mem_cons.1 h with rfl | h2
    · exact Nat.le_max_left _ _
    · exact Nat.le_trans (depthAll_mem h2) (Nat.le_max_right _ _)
theorem zip_self {xs : List D} : ∀ d ∈ zipD xs xs, ∃ x ∈ xs, d = .tuple [x, x] := by
  induction xs with
  | nil => intro d h; cases h
  | cons x r ih =>
    intro d h
    rcases List.mem_cons.1 (show d ∈ .tuple [x, x] :: zipD r r from h) with rfl | h2
    · exact ⟨x, List.mem_cons_self, rfl⟩
    · obtain ⟨y, hy, e⟩ := ih d h2
      exact ⟨y, List.mem_cons_of_mem _ hy, e⟩
theorem zip_len : ∀ {xs ys : List D}, (zipD xs ys).length ≤ xs.length
  | [], _ => Nat.le_refl _
  | _ :: _, [] => Nat.zero_le _
  | x :: r, y :: q => Nat.succ_le_succ (zip_len (xs := r) (ys := q))
theorem blsOf_true : ∀ {ys : List D}, (∀ y ∈ ys, y = PyData.bool true) → ∃ bs, blsOf ys = some bs ∧ bs.all id = true
  | [], _ => ⟨[], rfl, rfl⟩
  | y :: r, h => by
    obtain ⟨bs, e, h2⟩ := blsOf_true (ys := r) fun x hx => h x (List.mem_cons_of_mem _ hx)
    have := h y List.mem_cons_self
    subst this
    refine ⟨true :: bs, ?_, by simpa using h2⟩
    show (match blsOf r with
      | some l => some (true :: l)
      | none => none) = _
    rw [e]
theorem all_true {ys : List D} (h : ∀ y ∈ ys, y = PyData.bool true) : biD .all [.list ys] = some (.bool true) := by
  obtain ⟨bs, e, h2⟩ := blsOf_true h
  show (match blsOf ys with
    | some bs => some (PyData.bool (bs.all id))
    | none => none) = _
  rw [e]
  simp only [h2]
/-- a comprehension of truths -/
theorem ok_allC {f : D → M (Option D)} (J : List D → Prop) : ∀ (items : List D) (τ : List D), J τ → (∀ d ∈ items, ∀ τ, J τ → Ok (f d) τ fun o τ' => o = some (PyData.bool true) ∧ J τ') → Ok (compL f items) τ fun ys τ' => (∀ y ∈ ys, y = PyData.bool true) ∧ J τ'
  | [], τ, j, _ => ok_ret.2 ⟨fun _ h => (by cases h), j⟩
  | d :: r, τ, j, h => by
    show Ok ((f d).bnd _) τ _
    rw [ok_bnd]
    refine (h d List.mem_cons_self τ j).mono fun o τ' q => ?_
    obtain ⟨rfl, j'⟩ := q
    rw [ok_bnd]
    refine (ok_allC J r τ' j' fun x hx => h x (List.mem_cons_of_mem _ hx)).mono fun ys τ2 q => ?_
    rw [ok_ret]
    exact ⟨fun y hy => (List.mem_cons.1 hy).elim id (q.1 y), q.2⟩
theorem gives_ok {C : Nat → List D → M D} {f : Nat} {ds : List D} {P : D → Prop} (h : Ok (C f ds) [] fun d _ => P d) : ∃ d, Gives C f ds d ∧ P d := by
  obtain ⟨d, τ', e, p⟩ := h
  exact ⟨d, ⟨τ', e⟩, p⟩
theorem eqv_refl : ∀ (k : Nat) (d : D), d.depth ≤ k → okD d = true → PyData.eqv d d = true := by
  intro k
  have sq : ∀ k, (∀ d : D, d.depth ≤ k → okD d = true → PyData.eqv d d = true) → ∀ xs : List D, PyData.depthAll xs ≤ k → okDs xs = true → PyData.eqvAll xs xs = true := fun k ih xs => by
    induction xs with
    | nil => intros; rfl
    | cons x r ihr =>
      intro h1 h2
      simp only [PyData.depthAll] at h1
      simp only [okDs, Bool.and_eq_true] at h2
      simp only [PyData.eqvAll, Bool.and_eq_true]
      exact ⟨ih x (by omega) h2.1, ihr (by omega) h2.2⟩
  induction k with
  | zero =>
    intro d hd ho
    cases d with
    | none => rfl
    | bool b => simp [PyData.eqv]
    | int b => simp [PyData.eqv]
    | str b => simp [PyData.eqv]
    | list xs => simp only [PyData.depth] at hd; omega
    | tuple xs => simp only [PyData.depth] at hd; omega
    | dict xs => simp [okD] at ho
  | succ k ih =>
    intro d hd ho
    cases d with
    | none => rfl
    | bool b => simp [PyData.eqv]
    | int b => simp [PyData.eqv]
    | str b => simp [PyData.eqv]
    | list xs =>
      simp only [PyData.depth] at hd
      simp only [okD, Bool.and_eq_true] at ho
      simp only [PyData.eqv]
      exact sq k ih xs (by omega) ho.2
    | tuple xs =>
      simp only [PyData.depth] at hd
      simp only [okD, Bool.and_eq_true] at ho
      simp only [PyData.eqv]
      exact sq k ih xs (by omega) ho.2
    | dict xs => simp [okD] at ho
theorem cmpD_none : cmpD .Eq .none .none = some (.bool true) := rfl
theorem cmpD_strR {x : Str} (h : PyData.strOk x = true) : cmpD .Eq (.str x) (.str x) = some (.bool true) := by
  have e : SeqAt.shaped (.str x) = true := by simp [SeqAt.shaped, PyData.canLay0, PyData.depth, h]
  rw [cmpD_eq e e]
  simp [PyData.eqv]
theorem same_refl {T : List Fn} {f : Nat} (h : Is T f (sameB f) false 2 5) : ∀ (n : Nat) (d : D) (τ : List D), d.depth < n → okD d = true → Ok (callF T n f [d, d]) τ fun r _ => r = .bool true := by
  intro n
  induction n with
  | zero => intro d τ h0; omega
  | succ n ih =>
    intro d τ hd ho
    have one : ∀ xs : List D, PyData.depthAll xs + 1 < n + 1 → okDs xs = true → ∀ (d : D), d ∈ zipD xs xs → ∃ x, d = .tuple [x, x] ∧ Gives (callF T n) f [x, x] (.bool true) := fun xs h1 h2 d hd => by
      obtain ⟨x, hx, rfl⟩ := zip_self d hd
      refine ⟨x, rfl, ?_⟩
      obtain ⟨r, g, rfl⟩ := gives_ok (ih x [] (by have := depthAll_mem hx; omega) (okDs_mem h2 x hx))
      exact g
    rw [ok_is h rfl]
    cases d with
    | list xs =>
      simp only [PyData.depth] at hd
      simp only [okD, Bool.and_eq_true, decide_eq_true_eq] at ho
      simp [sameB]
      refine ⟨_, walkC_of walkD_zipL (Nat.le_trans zip_len ho.1), (ok_allC (fun _ => True) _ _ trivial fun d hz τ _ => ?_).mono fun ys _ q => all_true q.1⟩
      obtain ⟨x, rfl, g⟩ := one xs hd ho.2 d hz
      simp
      exact g
    | tuple xs =>
      simp only [PyData.depth] at hd
      simp only [okD, Bool.and_eq_true, decide_eq_true_eq] at ho
      simp [sameB]
      refine ⟨_, walkC_of walkD_zipT (Nat.le_trans zip_len ho.1), (ok_allC (fun _ => True) _ _ trivial fun d hz τ _ => ?_).mono fun ys _ q => all_true q.1⟩
      obtain ⟨x, rfl, g⟩ := one xs hd ho.2 d hz
      simp
      exact g
    | dict xs => simp [okD] at ho
    | none => simp [sameB, cmpD_none]
    | bool b => simp [sameB]
    | int b => simp [sameB]
    | str x =>
      simp only [okD] at ho
      simp [sameB, cmpD_strR ho]
theorem same_gives {T : List Fn} {f n : Nat} (h : Is T f (sameB f) false 2 5) {d : D} (h1 : d.depth < n) (h2 : okD d = true) : Gives (callF T n) f [d, d] (.bool true) := by
  obtain ⟨r, g, rfl⟩ := gives_ok (same_refl h n d [] h1 h2)
  exact g
/-- comprehensions that draw nothing -/
theorem ok_compP {ι : Type} {f : D → M (Option D)} {inj : ι → D} {τ : List D} {Q : List D → List D → Prop} (p : ι → Bool) (v : ι → D) : ∀ (l : List ι), (∀ x ∈ l, ∀ τ, Ok (f (inj x)) τ fun o τ' => o = (if p x then some (v x) else none) ∧ τ' = τ) → Q ((l.filter p).map v) τ → Ok (compL f (l.map inj)) τ Q := by
  intro l hf q
  have : ∀ (l : List ι), (∀ x ∈ l, ∀ τ, Ok (f (inj x)) τ fun o τ' => o = (if p x then some (v x) else none) ∧ τ' = τ) → compL f (l.map inj) τ = some ((l.filter p).map v, τ) := by
    intro l
    induction l with
    | nil => intro _; rfl
    | cons x r ih =>
      intro h
      obtain ⟨o, τ', e, rfl, rfl⟩ := h x List.mem_cons_self τ
      show ((f (inj x)).bnd _) τ' = _
      unfold M.bnd
      rw [e]
      simp only
      rw [ih fun y hy => h y (List.mem_cons_of_mem _ hy), List.filter_cons]
      cases p x <;> rfl
  exact ⟨_, _, this l hf, q⟩
theorem ok_compM {ι : Type} {f : D → M (Option D)} {inj : ι → D} {τ : List D} {Q : List D → List D → Prop} (v : ι → D) (l : List ι) (h : ∀ x ∈ l, ∀ τ, Ok (f (inj x)) τ fun o τ' => o = some (v x) ∧ τ' = τ) (q : Q (l.map v) τ) : Ok (compL f (l.map inj)) τ Q :=
  ok_compP (fun _ => true) v l (fun x hx τ => (h x hx τ).mono fun o τ' q => q) (by rw [List.filter_eq_self.2 (fun _ _ => rfl)]; exact q)
theorem ok_comp0 {f : D → M (Option D)} (I : List D → List D → List D → Prop) {Q : List D → List D → Prop}
    (hs : ∀ d r ys τ, I (d :: r) ys τ → Ok (f d) τ fun o τ' => match o with
      | some y => I r (ys ++ [y]) τ'
      | none => I r ys τ')
    (he : ∀ ys τ, I [] ys τ → Q ys τ) (items : List D) (τ : List D) (h : I items [] τ) : Ok (compL f items) τ Q :=
  (ok_comp I hs he items [] τ h).mono fun _ _ q => q
end KN

set_option maxRecDepth 100000
set_option maxHeartbeats 4000000
namespace KN
open PySem L2 PyProof.Rows
def topS (i : Nat) : Stmt := PySem.Challenge.pw_keptnear_k36_chains_and_steps_up.main.body.getD i (.Pass ⟨0, 0, 0, 0⟩)
def t_is_number : Fn := ⟨"is_number", ["thing"], ["thing"], false, false, [
  .ret (.and (.isi (.var 0) ["int"] false) (.not (.isi (.var 0) ["bool"] false)))]⟩
def t_is_chain : Fn := ⟨"is_chain", ["thing"], ["thing", "span"], false, false, [
  .ite (.or (.not (.isi (.var 0) ["tuple"] false)) (.cmp .Eq (.bi .len [.var 0]) (.int 0))) [.ret (.bl false)] [],
  .ret (.bi .all [.comp (.and (.call 0 [.var 1]) (.cmp .GtE (.var 1) (.int 0))) (.nm 1) .ex [.var 0] .absent])]⟩
def t_steps_up : Fn := ⟨"steps_up", ["chain"], ["chain", "found", "span"], false, false, [
  .asgO 1 (.lst []),
  .loop (.nm 2) .ex [.var 0] [.ite (.cmp .Gt (.var 2) (.bi .max [.lst [.int 0, .star (.peek 1)]])) [.app 1 (.var 2)] []],
  .ret (.bi .tuple [.peek 1])]⟩
def t_same_always : Fn := ⟨"same_always", ["one", "other"], ["one", "other"], false, false, [
  .ret (.cmp .Eq (.call 2 [.var 0]) (.call 2 [.var 1]))]⟩
def t_farthest : Fn := ⟨"farthest", ["chain"], ["chain"], false, false, [
  .ret (.bi .sum [.call 2 [.var 0]])]⟩
def t_law_box : Fn := ⟨"_law_box", ["_law_script", "_law_k"], ["_law_script", "_law_k", "_law_great_so"], false, true, [
  .asg 2 (.ite (.cmp .Lt (.var 1) (.bi .len [.var 0])) (.get (.var 0) (.var 1)) (.int 0)),
  .ret (.lst [.bin .Mult (.bi .abs [.var 2]) (.bi .int [.cmp .GtE (.bi .abs [.var 2]) (.bin .Pow (.int 10) (.int 18))]), .bin .Add (.bin .Add (.bin .Mod (.bi .int [.var 2]) (.int 2305843009213693951)) (.bin .Mult (.int 39373) (.var 1))) (.int 1659), .int 0])]⟩
def t_law_take : Fn := ⟨"_law_take", ["_law_tin", "_law_top_so"], ["_law_tin", "_law_top_so", "_law_digit_so", "_law_once", "_law_far", "_law_twice"], true, false, [
  .ite (.cmp .Gt (.tget 0 (.int 0)) (.int 0)) [.asg 2 (.bin .Mod (.bi .int [.tget 0 (.int 0)]) (.var 1)), .stoT 0 (.int 0) (.bin .FloorDiv (.tget 0 (.int 0)) (.var 1)), .ret (.var 2)] [],
  .stoT 0 (.int 2) (.bin .Add (.tget 0 (.int 2)) (.int 1)),
  .asg 3 (.bin .Mod (.bi .int [.bin .Mult (.bin .Add (.tget 0 (.int 1)) (.bin .Mult (.int 48271) (.tget 0 (.int 2)))) (.bin .Add (.int 39373) (.tget 0 (.int 2)))]) (.int 2147483647)),
  .asg 4 (.bin .Add (.bin .Mod (.bi .int [.var 3]) (.int 40009)) (.int 7)),
  .asg 5 (.bin .Mod (.bi .int [.bin .Mult (.bin .Add (.bin .Add (.var 3) (.tget 0 (.int 2))) (.bin .FloorDiv (.tget 0 (.int 1)) (.int 1000003))) (.var 4)]) (.int 2147483629)),
  .ret (.bin .Mod (.bi .int [.bin .FloorDiv (.bin .Mod (.bi .int [.bin .Add (.bin .Mult (.var 5) (.int 48271)) (.var 3)]) (.int 2147483587)) (.int 64)]) (.var 1))]⟩
def t_law_cells : Fn := ⟨"_law_cells", ["_law_script", "_law_size_so"], ["_law_script", "_law_size_so", "_law_cells_here", "_law_k", "_law_great_so", "_law_at_so"], false, false, [
  .asgO 2 (.or (.bi .list [.slice (.var 0) .absent (.var 1)]) (.lst [.int 0])),
  .loop (.tup [3, 4]) .enum [.slice (.var 0) (.var 1) (.int 63)] [.asg 5 (.bin .Mod (.bi .int [.var 3]) (.var 1)), .sto 2 (.var 5) (.bin .Add (.get (.peek 2) (.var 5)) (.bin .Mult (.var 4) (.bin .Add (.var 3) (.int 2))))],
  .frz 2,
  .ret (.var 2)]⟩
def t_law_of : Fn := ⟨"_law_of", ["_law_tin", "_law_pool"], ["_law_tin", "_law_pool"], true, false, [
  .ret (.get (.var 1) (.callT 6 0 [.bi .len [.var 1]]))]⟩
def t_law_same : Fn := ⟨"_law_same", ["_law_got", "_law_due"], ["_law_got", "_law_due", "_law_mine", "_law_its", "_law_lot_so"], false, false, [
  .ite (.isi (.var 1) ["list", "tuple"] true) [.ite (.or (.cmp .NotEq (.isi (.var 0) ["list"] false) (.isi (.var 1) ["list"] false)) (.cmp .NotEq (.isi (.var 0) ["tuple"] false) (.isi (.var 1) ["tuple"] false))) [.ret (.bl false)] [], .ret (.and (.cmp .Eq (.bi .len [.var 0]) (.bi .len [.var 1])) (.bi .all [.comp (.call 9 [.var 2, .var 3]) (.tup [2, 3]) .zip [.var 0, .var 1] .absent]))] [],
  .ite (.isi (.var 1) ["dict"] false) [.ite (.or (.not (.isi (.var 0) ["dict"] false)) (.cmp .NotEq (.bi .sorted [.var 0]) (.bi .sorted [.var 1]))) [.ret (.bl false)] [], .ret (.bi .all [.comp (.call 9 [.get (.var 0) (.var 4), .get (.var 1) (.var 4)]) (.nm 4) .ex [.var 1] .absent])] [],
  .ite (.or (.cmp .Is (.var 1) .non) (.isi (.var 1) ["bool", "str"] true)) [.ret (.and (.cmp .Eq (.var 0) (.var 1)) (.and (.cmp .Eq (.isi (.var 0) ["bool"] false) (.isi (.var 1) ["bool"] false)) (.cmp .Eq (.cmp .Is (.var 0) .non) (.cmp .Is (.var 1) .non))))] [],
  .ret (.and (.isi (.var 0) ["int"] false) (.and (.not (.isi (.var 0) ["bool"] false)) (.cmp .Eq (.var 0) (.var 1))))]⟩
def t_law_ups : Fn := ⟨"_law_ups", ["_law_chain_so"], ["_law_chain_so", "_law_found", "_law_k", "_law_reach", "_law_own"], false, false, [
  .asgO 1 (.lst []),
  .loop (.tup [2, 3]) .enum [.var 0] [.ite (.and (.cmp .Gt (.var 3) (.int 0)) (.cmp .Eq (.comp (.var 4) (.nm 4) .ex [.slice (.var 0) .absent (.var 2)] (.cmp .GtE (.var 4) (.var 3))) (.lst []))) [.app 1 (.var 3)] []],
  .ret (.bi .tuple [.peek 1])]⟩
def t_law_case_right : Fn := ⟨"_law_case_right", ["_law_one_so", "_law_two_so"], ["_law_one_so", "_law_two_so", "_law_ups_here", "_law_got", "_law_due"], false, false, [
  .asg 2 (.lst [.call 10 [.var 0], .call 10 [.var 1]]),
  .asg 3 (.lst [.call 1 [.var 0], .call 2 [.var 0], .callK 2 [0] [] [.bi .list [.var 0]], .call 4 [.var 0], .callK 4 [0] [] [.bi .list [.var 0]]]),
  .asg 3 (.bin .Add (.var 3) (.lst [.call 3 [.var 0, .var 1], .call 3 [.var 1, .var 0], .callK 3 [1, 0] [] [.bi .list [.var 1], .bi .list [.var 0]], .call 3 [.var 0, .var 0], .call 3 [.var 0, .bin .Add (.var 0) (.slice (.var 0) .absent (.bin .Sub (.int 6) (.bi .len [.var 0])))]])),
  .asg 4 (.lst [.bl true, .get (.var 2) (.int 0), .get (.var 2) (.int 0), .bi .sum [.get (.var 2) (.int 0)], .bi .sum [.get (.var 2) (.int 0)]]),
  .ret (.call 9 [.var 3, .bin .Add (.bin .Add (.var 4) (.bin .Mult (.lst [.cmp .Eq (.get (.var 2) (.int 0)) (.get (.var 2) (.int 1))]) (.int 3))) (.lst [.bl true, .bl true])])]⟩
def t_law_by_hand_right : Fn := ⟨"_law_by_hand_right", [], ["_law_far", "_law_good", "_law_bad", "_law_got", "_law_own", "_law_due"], false, false, [
  .asg 0 (.bin .Pow (.int 10) (.int 40)),
  .asg 1 (.lst [.tup [.int 0], .tup [.int 5], .tup [.int 1, .int 2, .int 3, .int 4, .int 5, .int 6], .tup [.int 0, .int 0], .tup [.var 0, .int 0, .var 0], .bin .Mult (.tup [.int 3]) (.int 9), .tup [.bin .Pow (.int 10) (.int 50)]]),
  .asg 2 (.lst [.tup [], .lst [.int 1, .int 2], .tup [.neg (.int 1)], .tup [.int 1, .neg (.int 2)], .tup [.bl true], .tup [.non], .tup [.str "1"], .tup [.int 1, .tup [.int 2]], .non, .int 0, .int 3, .str "12", .tup [.tup []], .tup [.int 1, .lst [.int 2]], .tup [.int 1, .int 2, .bl false]]),
  .asg 3 (.lst [.comp (.call 1 [.var 4]) (.nm 4) .ex [.bin .Add (.var 1) (.var 2)] .absent, .callK 1 [0] [] [.tup [.int 1]]]),
  .asg 5 (.lst [.bin .Add (.bin .Mult (.lst [.bl true]) (.int 7)) (.bin .Mult (.lst [.bl false]) (.int 15)), .bl true]),
  .asg 3 (.bin .Add (.var 3) (.lst [.call 2 [.tup [.int 2, .int 2, .int 1, .int 5]], .call 2 [.tup [.int 0, .int 0]], .call 2 [.tup [.int 0]], .call 2 [.tup [.int 5, .int 4, .int 3, .int 2]], .call 2 [.tup [.int 0, .int 1, .int 0, .int 2, .int 2, .int 3]], .call 2 [.tup [.var 0, .var 0]], .call 2 [.tup [.int 1, .var 0]]])),
  .asg 5 (.bin .Add (.var 5) (.lst [.tup [.int 2, .int 5], .tup [], .tup [], .tup [.int 5], .tup [.int 1, .int 2, .int 3], .tup [.var 0], .tup [.int 1, .var 0]])),
  .asg 3 (.bin .Add (.var 3) (.lst [.call 3 [.tup [.int 2, .int 2, .int 1, .int 5], .tup [.int 0, .int 2, .int 5]], .call 3 [.tup [.int 1, .int 3], .tup [.int 3]], .call 3 [.tup [.int 0, .int 3], .tup [.int 3]], .call 3 [.tup [.int 3, .int 0], .tup [.int 3, .int 3, .int 3]], .call 3 [.tup [.int 0], .tup [.int 0, .int 0]], .call 3 [.tup [.int 0], .tup [.int 1]], .call 3 [.tup [.int 1, .int 2], .tup [.int 2, .int 1]], .call 3 [.tup [.int 2, .int 5], .tup [.int 2, .int 6]]])),
  .asg 5 (.bin .Add (.var 5) (.lst [.bl true, .bl false, .bl true, .bl true, .bl true, .bl false, .bl false, .bl false])),
  .asg 3 (.bin .Add (.var 3) (.lst [.call 4 [.tup [.int 2, .int 2, .int 1, .int 5]], .call 4 [.tup [.int 0]], .call 4 [.tup [.var 0, .int 1]], .call 4 [.tup [.int 1, .var 0]], .call 4 [.tup [.int 1, .int 2, .int 3, .int 4, .int 5, .int 6]], .call 4 [.lst [.int 3, .int 1, .int 4]]])),
  .ret (.call 9 [.var 3, .bin .Add (.var 5) (.lst [.int 7, .int 0, .var 0, .bin .Add (.var 0) (.int 1), .int 21, .int 7])])]⟩
def t_law_right : Fn := ⟨"_law_right", ["_law_tin"], ["_law_tin", "_law_turn", "_law_rows_so", "_law_lap_so", "_law_spot"], true, false, [
  .loop (.nm 1) .range [.int 10] [.asgO 2 (.lst []), .loop (.nm 3) .range [.int 2] [.app 2 (.bi .tuple [.comp (.callT 6 0 [.callT 8 0 [.lst [.int 3, .int 5, .int 9]]]) (.nm 4) .range [.bin .Add (.int 1) (.callT 6 0 [.int 6])] .absent])], .ite (.not (.call 11 [.get (.peek 2) (.int 0), .get (.peek 2) (.int 1)])) [.ret (.bl false)] []],
  .ret (.bl true)]⟩
def t_law : Fn := ⟨"law", ["_law_script"], ["_law_script", "_law_cells_here", "_law_k"], false, false, [
  .ite (.not (.call 12 [])) [.ret (.bl false)] [],
  .asg 1 (.call 7 [.var 0, .int 3]),
  .ret (.bi .all [.comp (.callR 13 (.callN 5 [.var 1, .var 2]) []) (.nm 2) .range [.bi .len [.var 1]] .absent])]⟩
def T : List Fn := [t_is_number, t_is_chain, t_steps_up, t_same_always, t_farthest, t_law_box, t_law_take, t_law_cells, t_law_of, t_law_same, t_law_ups, t_law_case_right, t_law_by_hand_right, t_law_right, t_law]
def gl : List (Str × Str) := []
def kw : List Kw := [⟨2, 0, ["chain"], [0]⟩, ⟨4, 0, ["chain"], [0]⟩, ⟨3, 0, ["other", "one"], [1, 0]⟩, ⟨1, 0, ["thing"], [0]⟩]
def sts : List Stmt := [topS 1, topS 3, topS 4, topS 5, topS 6, topS 8, topS 9, topS 10, topS 11, topS 12, topS 13, topS 14, topS 15, topS 16, topS 17]
theorem text_ok : textOk T gl kw T sts = true := by decide +kernel
end KN

set_option maxRecDepth 100000
set_option maxHeartbeats 4000000
namespace KN
open PySem L2 PyProof.Rows
theorem intsOf_map : ∀ ns : List Int, intsOf (ns.map .int) = some ns
  | [] => rfl
  | n :: r => by
    show (match intsOf (r.map .int) with
      | some l => some (n :: l)
      | none => none) = _
    rw [intsOf_map r]
theorem sum_tuple (ns : List Int) : biD .sum [.tuple (ns.map .int)] = some (.int ns.sum) := by
  show (match intsOf (ns.map .int) with
    | some ns => some (PyData.int ns.sum)
    | none => none) = _
  rw [intsOf_map]
theorem max_list (n : Int) (ns : List Int) : biD .max [.list (.int n :: ns.map .int)] = some (.int (maxL n ns)) := by
  show (match intsOf ((n :: ns).map .int) with
    | some (n :: ns) => some (PyData.int (maxL n ns))
    | _ => none) = _
  rw [intsOf_map]
theorem maxL_app : ∀ (m : Int) (l : List Int) (z : Int), maxL m (l ++ [z]) = if maxL m l < z then z else maxL m l
  | m, [], z => rfl
  | m, x :: r, z => maxL_app (if m < x then x else m) r z
def upsA : List Int → List Int → List Int
  | acc, [] => acc
  | acc, x :: r => upsA (if maxL 0 acc < x then acc ++ [x] else acc) r
def JU (pre acc : List Int) : Prop := ∀ x, maxL 0 acc < x ↔ (0 < x ∧ ∀ y ∈ pre, y < x)
theorem JU.nil : JU [] [] := fun x => by simp [maxL]
theorem JU.step {pre acc : List Int} (h : JU pre acc) (z : Int) : JU (pre ++ [z]) (if maxL 0 acc < z then acc ++ [z] else acc) := by
  intro x
  by_cases hz : maxL 0 acc < z
  · rw [if_pos hz, maxL_app, if_pos hz]
    have hz' := (h z).1 hz
    constructor
    · intro hx
      refine ⟨by omega, fun y hy => ?_⟩
      rcases List.mem_append.1 hy with h1 | h1
      · have := hz'.2 y h1; omega
      · rw [List.mem_singleton] at h1; omega
    · intro hx
      exact hx.2 z (by simp)
  · rw [if_neg hz]
    rw [h x]
    constructor
    · intro hx
      refine ⟨hx.1, fun y hy => ?_⟩
      rcases List.mem_append.1 hy with h1 | h1
      · exact hx.2 y h1
      · rw [List.mem_singleton] at h1
        have := (h x).2 hx
        omega
    · intro hx
      exact ⟨hx.1, fun y hy => hx.2 y (by simp [hy])⟩
theorem JU.all : ∀ {xs pre acc : List Int}, JU pre acc → JU (pre ++ xs) (upsA acc xs)
  | [], pre, acc, h => by rw [List.append_nil]; exact h
  | x :: r, pre, acc, h => by
    have := JU.all (xs := r) (h.step x)
    rw [List.append_assoc] at this
    exact this
theorem upsA_app : ∀ (xs ys acc : List Int), upsA acc (xs ++ ys) = upsA (upsA acc xs) ys
  | [], ys, acc => rfl
  | x :: r, ys, acc => upsA_app r ys _
theorem upsA_idle : ∀ {zs acc : List Int}, (∀ z ∈ zs, ¬ maxL 0 acc < z) → upsA acc zs = acc
  | [], _, _ => rfl
  | z :: r, acc, h => by
    show upsA (if maxL 0 acc < z then acc ++ [z] else acc) r = acc
    rw [if_neg (h z List.mem_cons_self)]
    exact upsA_idle fun y hy => h y (List.mem_cons_of_mem _ hy)
theorem ups_again {xs zs : List Int} (h : ∀ z ∈ zs, z ∈ xs) : upsA [] (xs ++ zs) = upsA [] xs := by
  rw [upsA_app]
  refine upsA_idle fun z hz hm => ?_
  have j := JU.all (xs := xs) JU.nil
  rw [List.nil_append] at j
  have := ((j z).1 hm).2 z (h z hz)
  omega
theorem eqvAll_ints : ∀ l k : List Int, PyData.eqvAll (l.map .int) (k.map .int) = decide (l = k)
  | [], [] => rfl
  | [], _ :: _ => rfl
  | _ :: _, [] => rfl
  | x :: r, y :: q => by
    simp only [List.map_cons, PyData.eqvAll, PyData.eqv, eqvAll_ints r q, List.cons.injEq, Bool.decide_and]
    congr 1
theorem depth_ints : ∀ l : List Int, PyData.depthAll (l.map .int) = 0
  | [] => rfl
  | x :: r => by simp only [List.map_cons, PyData.depthAll, PyData.depth, depth_ints r]; rfl
theorem lay_ints : ∀ l : List Int, PyData.canLayAll0 (l.map .int) = true
  | [] => rfl
  | x :: r => by simp only [List.map_cons, PyData.canLayAll0, PyData.canLay0, lay_ints r]; rfl
theorem shaped_tints (l : List Int) : SeqAt.shaped (.tuple (l.map .int)) = true := by
  simp only [SeqAt.shaped, PyData.canLay0, lay_ints, PyData.depth, depth_ints]
  rfl
theorem shaped_lints (l : List Int) : SeqAt.shaped (.list (l.map .int)) = true := by
  simp only [SeqAt.shaped, PyData.canLay0, lay_ints, PyData.depth, depth_ints]
  rfl
theorem eq_tints (l k : List Int) : cmpD .Eq (.tuple (l.map .int)) (.tuple (k.map .int)) = some (.bool (decide (l = k))) := by
  rw [cmpD_eq (shaped_tints l) (shaped_tints k)]
  simp only [PyData.eqv, eqvAll_ints]
theorem eq_lints (l k : List Int) : cmpD .Eq (.list (l.map .int)) (.list (k.map .int)) = some (.bool (decide (l = k))) := by
  rw [cmpD_eq (shaped_lints l) (shaped_lints k)]
  simp only [PyData.eqv, eqvAll_ints]
theorem okDs_ints : ∀ l : List Int, okDs (l.map .int) = true
  | [] => rfl
  | x :: r => by simp only [List.map_cons, okDs, okD, okDs_ints r]; rfl
/-! ### the defs -/
theorem is2 : Is T 2 t_steps_up.body false 1 3 := ⟨_, rfl, rfl, rfl, rfl, rfl⟩
theorem steps_up_gives {n : Nat} {d : D} {xs : List Int} (hd : d = .list (xs.map .int) ∨ d = .tuple (xs.map .int)) (hl : xs.length ≤ 1000) : Gives (callF T (n + 1)) 2 [d] (.tuple ((upsA [] xs).map .int)) := by
  have : Ok (callF T (n + 1) 2 [d]) [] fun r _ => r = .tuple ((upsA [] xs).map .int) := by
    rw [ok_is is2 rfl]
    have hw : walkD .ex [d] = some (xs.map .int) := by
      rcases hd with rfl | rfl <;> rfl
    simp [t_steps_up, hw]
    refine ok_loop (fun items ρ _ => ∃ (acc rest : List Int) (v : Option Ent), items = rest.map .int ∧ ρ = [some (.dat d), some (.own (acc.map .int)), v] ∧ upsA acc rest = upsA [] xs ∧ acc.length + rest.length ≤ 1000) ?_ ?_ _ _ _ ⟨[], xs, none, rfl, rfl, rfl, by simpa using hl⟩
    · rintro x r ρ τ ⟨acc, rest, v, e, rfl, h1, h2⟩
      cases rest with
      | nil => cases e
      | cons z rest =>
        simp only [List.map_cons, List.cons.injEq] at e
        obtain ⟨rfl, rfl⟩ := e
        simp only [List.length_cons] at h2
        simp [max_list]
        refine ⟨by omega, ?_⟩
        by_cases hz : maxL 0 acc < z
        · refine .inr ⟨hz, by omega, acc ++ [z], rest, rfl, by simp, ?_, ?_⟩
          · rw [← h1]
            show _ = upsA (if maxL 0 acc < z then acc ++ [z] else acc) rest
            rw [if_pos hz]
          · simp; omega
        · refine .inl ⟨by omega, acc, rest, rfl, rfl, ?_, by omega⟩
          · rw [← h1]
            show _ = upsA (if maxL 0 acc < z then acc ++ [z] else acc) rest
            rw [if_neg hz]
    · rintro ρ τ ⟨acc, rest, v, e, rfl, h1, h2⟩
      cases rest with
      | nil =>
        simp
        rw [← h1]
        rfl
      | cons z rest => cases e
  obtain ⟨r, g, rfl⟩ := gives_ok this
  exact g
theorem is10 : Is T 10 t_law_ups.body false 1 5 := ⟨_, rfl, rfl, rfl, rfl, rfl⟩
theorem enum_cons {k : Nat} {z : D} {r : List D} : enumFrom k (z :: r) = .tuple [.int k, z] :: enumFrom (k + 1) r := rfl
theorem ups_gives {n : Nat} {xs : List Int} (hl : xs.length ≤ 1000) : Gives (callF T (n + 1)) 10 [.tuple (xs.map .int)] (.tuple ((upsA [] xs).map .int)) := by
  have : Ok (callF T (n + 1) 10 [.tuple (xs.map .int)]) [] fun r _ => r = .tuple ((upsA [] xs).map .int) := by
    rw [ok_is is10 rfl]
    simp [t_law_ups]
    refine ok_loop (fun items ρ _ => ∃ (pre acc rest : List Int) (v2 v3 v4 : Option Ent), items = enumFrom pre.length (rest.map .int) ∧ pre ++ rest = xs ∧ JU pre acc ∧ ρ = [some (.dat (.tuple (xs.map .int))), some (.own (acc.map .int)), v2, v3, v4] ∧ upsA acc rest = upsA [] xs ∧ acc.length + rest.length ≤ 1000) ?_ ?_ _ _ _ ⟨[], [], xs, none, none, none, rfl, rfl, JU.nil, rfl, rfl, by simpa using hl⟩
    · rintro x r ρ τ ⟨pre, acc, rest, v2, v3, v4, e, hx, hj, rfl, h1, h2⟩
      cases rest with
      | nil => cases e
      | cons z rest =>
        simp only [List.map_cons, enum_cons, List.cons.injEq] at e
        obtain ⟨rfl, rfl⟩ := e
        simp only [List.length_cons] at h2
        have hcut : cutL (xs.map PyData.int) none (some (pre.length : Int)) = pre.map .int := by
          rw [cut_to, ← hx]
          simp
        have hwk : walkC .ex [.tuple (pre.map .int)] = some (pre.map .int) := walkC_of rfl (by
          have := congrArg List.length hx
          simp at this ⊢
          omega)
        simp [hcut, hwk]
        have fin : ∀ acc', JU (pre ++ [z]) acc' → upsA acc' rest = upsA acc (z :: rest) → acc'.length ≤ acc.length + 1 → ∃ (pre' acc'' rest' : List Int), enumFrom (pre.length + 1) (rest.map .int) = enumFrom pre'.length (rest'.map .int) ∧ pre' ++ rest' = xs ∧ JU pre' acc'' ∧ acc'.map PyData.int = acc''.map .int ∧ upsA acc'' rest' = upsA [] xs ∧ acc''.length + rest'.length ≤ 1000 := fun acc' j' e' l' =>
          ⟨pre ++ [z], acc', rest, by simp, by rw [← hx]; simp, j', rfl, by rw [e', h1], by omega⟩
        have no : ¬ maxL 0 acc < z → ∃ (pre' acc'' rest' : List Int), enumFrom (pre.length + 1) (rest.map .int) = enumFrom pre'.length (rest'.map .int) ∧ pre' ++ rest' = xs ∧ JU pre' acc'' ∧ acc.map PyData.int = acc''.map .int ∧ upsA acc'' rest' = upsA [] xs ∧ acc''.length + rest'.length ≤ 1000 := fun hm => by
          have j := hj.step z
          rw [if_neg hm] at j
          refine fin acc j ?_ (by omega)
          show _ = upsA (if maxL 0 acc < z then acc ++ [z] else acc) rest
          rw [if_neg hm]
        by_cases hz : 0 < z
        · refine .inr ⟨hz, ok_compP (fun x => decide (z ≤ x)) PyData.int _ (fun x hx τ => ?_) ?_⟩
          · simp
            by_cases hq : z ≤ x <;> simp [hq]
            omega
          · rw [show (PyData.list []) = .list (([] : List Int).map .int) from rfl, eq_lints]
            simp
            by_cases hm : maxL 0 acc < z
            · refine .inr ⟨fun y hy => ((hj z).1 hm).2 y hy, by omega, ?_⟩
              have j := hj.step z
              rw [if_pos hm] at j
              obtain ⟨a1, a2, a3, f1, f2, f3, f4, f5⟩ := fin (acc ++ [z]) j (by
                show _ = upsA (if maxL 0 acc < z then acc ++ [z] else acc) rest
                rw [if_pos hm]) (by simp)
              exact ⟨a1, a2, a3, f1, f2, f3, by simpa using f4, f5⟩
            · refine .inl ⟨?_, no hm⟩
              refine Classical.byContradiction fun hc => hm ((hj z).2 ⟨hz, fun y hy => ?_⟩)
              exact Int.not_le.1 fun h => hc ⟨y, hy, h⟩
        · exact .inl ⟨by omega, .inl ⟨by omega, no fun hm => hz ((hj z).1 hm).1⟩⟩
    · rintro ρ τ ⟨pre, acc, rest, v2, v3, v4, e, hx, hj, rfl, h1, h2⟩
      cases rest with
      | nil =>
        simp
        rw [← h1]
        rfl
      | cons z rest => cases e
  obtain ⟨r, g, rfl⟩ := gives_ok this
  exact g
end KN

set_option maxRecDepth 100000
set_option maxHeartbeats 4000000
namespace KN
open PySem L2 PyProof.Rows
theorem is0 : Is T 0 t_is_number.body false 1 1 := ⟨_, rfl, rfl, rfl, rfl, rfl⟩
theorem is1 : Is T 1 t_is_chain.body false 1 2 := ⟨_, rfl, rfl, rfl, rfl, rfl⟩
theorem is3 : Is T 3 t_same_always.body false 2 2 := ⟨_, rfl, rfl, rfl, rfl, rfl⟩
theorem is4 : Is T 4 t_farthest.body false 1 1 := ⟨_, rfl, rfl, rfl, rfl, rfl⟩
theorem is5 : Is T 5 (boxB 1659) false 2 3 := ⟨_, rfl, rfl, rfl, rfl, rfl⟩
theorem is6 : Is T 6 takeB true 2 6 := ⟨_, rfl, rfl, rfl, rfl, rfl⟩
theorem is7 : Is T 7 cellsB false 2 6 := ⟨_, rfl, rfl, rfl, rfl, rfl⟩
theorem is8 : Is T 8 (ofB 6) true 2 2 := ⟨_, rfl, rfl, rfl, rfl, rfl⟩
theorem is9 : Is T 9 (sameB 9) false 2 5 := ⟨_, rfl, rfl, rfl, rfl, rfl⟩
theorem is11 : Is T 11 t_law_case_right.body false 2 5 := ⟨_, rfl, rfl, rfl, rfl, rfl⟩
theorem is13 : Is T 13 t_law_right.body true 1 5 := ⟨_, rfl, rfl, rfl, rfl, rfl⟩
theorem is14 : Is T 14 t_law.body false 1 3 := ⟨_, rfl, rfl, rfl, rfl, rfl⟩
theorem gives_eq {C : Nat → List D → M D} {f : Nat} {ds : List D} {r : D} (h : Ok (C f ds) [] fun d _ => d = r) : Gives C f ds r := by
  obtain ⟨d, g, rfl⟩ := gives_ok h
  exact g
theorem number_gives {n : Nat} {i : Int} : Gives (callF T (n + 1)) 0 [.int i] (.bool true) := by
  refine gives_eq ?_
  rw [ok_is is0 rfl]
  simp [t_is_number]
theorem chain_gives {n : Nat} {xs : List Int} (hl : xs.length ≤ 1000) (h0 : xs ≠ []) (hp : ∀ x ∈ xs, 0 ≤ x) : Gives (callF T (n + 2)) 1 [.tuple (xs.map .int)] (.bool true) := by
  refine gives_eq ?_
  rw [ok_is is1 rfl]
  simp [t_is_chain]
  refine ⟨h0, _, walkC_of walkD_tuple (by rw [List.length_map]; omega), ok_compM (fun _ => .bool true) xs (fun x hx τ => ?_) (all_true fun y hy => ?_)⟩
  · simp
    exact ⟨_, number_gives, .inr ⟨rfl, hp x hx⟩⟩
  · obtain ⟨_, _, rfl⟩ := List.mem_map.1 hy
    rfl
def Sq (d : D) (xs : List Int) : Prop := d = .list (xs.map .int) ∨ d = .tuple (xs.map .int)
theorem always_gives {n : Nat} {d e : D} {xs ys : List Int} (hd : Sq d xs) (he : Sq e ys) (hx : xs.length ≤ 1000) (hy : ys.length ≤ 1000) : Gives (callF T (n + 2)) 3 [d, e] (.bool (decide (upsA [] xs = upsA [] ys))) := by
  refine gives_eq ?_
  rw [ok_is is3 rfl]
  simp [t_same_always]
  exact ⟨_, steps_up_gives hd hx, _, steps_up_gives he hy, eq_tints _ _⟩
theorem farthest_gives {n : Nat} {d : D} {xs : List Int} (hd : Sq d xs) (hx : xs.length ≤ 1000) : Gives (callF T (n + 2)) 4 [d] (.int (upsA [] xs).sum) := by
  refine gives_eq ?_
  rw [ok_is is4 rfl]
  simp [t_farthest]
  exact ⟨_, steps_up_gives hd hx, sum_tuple _⟩
theorem upsA_len : ∀ (xs acc : List Int), (upsA acc xs).length ≤ acc.length + xs.length
  | [], acc => Nat.le_refl _
  | x :: r, acc => by
    show (upsA (if maxL 0 acc < x then acc ++ [x] else acc) r).length ≤ _
    have := upsA_len r (if maxL 0 acc < x then acc ++ [x] else acc)
    simp only [List.length_cons]
    split at this
    · simp at this; rename_i h; rw [if_pos h]; omega
    · rename_i h; rw [if_neg h]; omega
theorem case_gives {n : Nat} {xs ys : List Int} (hx : xs.length ≤ 6) (hy : ys.length ≤ 6) (x0 : xs ≠ []) (y0 : ys ≠ []) (hp : ∀ x ∈ xs, 0 ≤ x) (hq : ∀ y ∈ ys, 0 ≤ y) :
    Gives (callF T (n + 4)) 11 [.tuple (xs.map .int), .tuple (ys.map .int)] (.bool true) := by
  refine gives_eq ?_
  rw [ok_is is11 rfl]
  have sx : Sq (.tuple (xs.map .int)) xs := .inr rfl
  have sy : Sq (.tuple (ys.map .int)) ys := .inr rfl
  have lx : Sq (.list (xs.map .int)) xs := .inl rfl
  have ly : Sq (.list (ys.map .int)) ys := .inl rfl
  have x3 : xs.length ≤ 1000 := by omega
  have y3 : ys.length ≤ 1000 := by omega
  have hc : cutL (xs.map PyData.int) none (some (6 - (xs.length : Int))) = (xs.take (6 - xs.length)).map .int := by
    rw [show (6 - (xs.length : Int)) = ((6 - xs.length : Nat) : Int) by omega, cut_to, List.map_take]
  have sz : Sq (.tuple (xs.map .int ++ (xs.take (6 - xs.length)).map .int)) (xs ++ xs.take (6 - xs.length)) := .inr (by rw [List.map_append])
  have z3 : (xs ++ xs.take (6 - xs.length)).length ≤ 1000 := by rw [List.length_append, List.length_take]; omega
  have ag : upsA [] (xs ++ xs.take (6 - xs.length)) = upsA [] xs := ups_again fun z hz => List.mem_of_mem_take hz
  have u1 := upsA_len xs []
  simp only [List.length_nil, Nat.zero_add] at u1
  simp [t_law_case_right, permL, hc]
  refine ⟨_, ups_gives x3, _, ups_gives y3, _, chain_gives x3 x0 hp, _, steps_up_gives sx x3, _, steps_up_gives lx x3, _, farthest_gives sx x3, _, farthest_gives lx x3, _, always_gives sx sy x3 y3, _, always_gives sy sx y3 x3, _, always_gives lx ly x3 y3, _, always_gives sx sx x3 x3, ?_⟩
  refine ⟨_, binD_addT (by rw [List.length_take, List.length_map]; omega), _, always_gives sx (by rw [← List.map_take]; exact sz) x3 z3, _, sum_tuple _, _, sum_tuple _, _, eq_tints _ _, ?_⟩
  rw [ag]
  have sw : decide (upsA [] ys = upsA [] xs) = decide (upsA [] xs = upsA [] ys) := by
    congr 1
    exact propext ⟨Eq.symm, Eq.symm⟩
  rw [sw, show decide (upsA [] xs = upsA [] xs) = true from decide_eq_true rfl]
  refine same_gives is9 ?_ ?_
  · simp [PyData.depth, PyData.depthAll, depth_ints]
  · simp [okD, okDs, okDs_ints]
    omega
/-- a drawn row -/
def Row (d : D) : Prop := ∃ xs : List Int, d = .tuple (xs.map .int) ∧ xs ≠ [] ∧ xs.length ≤ 6 ∧ ∀ x ∈ xs, 0 ≤ x
theorem range_len : ∀ (n : Nat) (lo : Int), (rangeD lo n).length = n
  | 0, _ => rfl
  | n + 1, lo => congrArg (· + 1) (range_len n (lo + 1))
theorem right_ok {n : Nat} {τ : List D} (hb : Bx τ 0) : Ok (callF T (n + 6) 13 []) τ fun d _ => d = .bool true := by
  rw [ok_is is13 rfl]
  simp [t_law_right, walkD_range]
  refine ok_loop (fun items ρ τ => ∃ (v1 v2 v3 v4 : Option Ent) (m : Nat), ρ = [some .tin, v1, v2, v3, v4] ∧ Bx τ m ∧ m + 100 * items.length ≤ 1000) ?_ ?_ _ _ _ ⟨none, none, none, none, 0, rfl, hb, by rw [range_len]; decide⟩
  · rintro x r ρ τ ⟨v1, v2, v3, v4, m, rfl, hb, hm⟩
    simp only [List.length_cons] at hm
    simp [walkD_range]
    refine ok_loop (fun items ρ τ => ∃ (v1 v3 v4 : Option Ent) (m' : Nat) (rows : List D), ρ = [some .tin, v1, some (.own rows), v3, v4] ∧ (∀ d ∈ rows, Row d) ∧ rows.length + items.length = 2 ∧ Bx τ m' ∧ m' + 20 * items.length ≤ m + 50) ?_ ?_ _ _ _ ⟨_, _, _, m, [], rfl, fun _ h => (by cases h), by rw [range_len]; decide, hb, by rw [range_len]; omega⟩
    · rintro x r ρ τ ⟨v1, v3, v4, m', rows, rfl, hr, hl, hb, hm'⟩
      simp only [List.length_cons] at hl hm'
      simp
      refine (take_ok is6 hb (by omega) (by decide) (by decide)).mono fun d τ1 q => ?_
      obtain ⟨k, rfl, k0, k1, b1⟩ := q
      have e1 : (1 + k).toNat = k.toNat + 1 := by omega
      simp
      refine ⟨_, walkC_of (walkD_range (by omega) (by omega)) (by rw [range_len]; omega), ?_⟩
      have rl := range_len (1 + k).toNat 0
      refine ok_comp0 (fun items ys τ => ∃ (zs : List Int) (m2 : Nat), ys = zs.map .int ∧ (∀ z ∈ zs, 0 ≤ z) ∧ zs.length + items.length = (1 + k).toNat ∧ Bx τ m2 ∧ m2 + 2 * items.length ≤ m' + 13) (fun d r ys τ h => ?_) (fun ys τ h => ?_) _ _ ⟨[], m' + 1, rfl, fun _ h => (by cases h), by rw [rl]; simp, b1, by rw [rl]; omega⟩
      · obtain ⟨zs, m2, rfl, z1, z2, b2, z3⟩ := h
        simp only [List.length_cons] at z2 z3
        simp
        refine (of_ok is8 is6 b2 (by omega) (by decide) (by decide)).mono fun p τ2 q => ?_
        obtain ⟨hp, b3⟩ := q
        obtain ⟨top, rfl, t1, t2⟩ : ∃ top : Int, p = .int top ∧ 0 < top ∧ top < 100 := by
          simp at hp
          rcases hp with rfl | rfl | rfl
          · exact ⟨3, rfl, by decide, by decide⟩
          · exact ⟨5, rfl, by decide, by decide⟩
          · exact ⟨9, rfl, by decide, by decide⟩
        refine (take_ok is6 b3 (by omega) t1 (by omega)).mono fun d τ3 q => ?_
        obtain ⟨j, rfl, j0, j1, b4⟩ := q
        exact ⟨zs ++ [j], by simp, fun z hz => (List.mem_append.1 hz).elim (z1 z) fun h => by rw [List.mem_singleton] at h; omega, by simp; omega, m2 + 2, b4, by omega⟩
      · obtain ⟨zs, m2, rfl, z1, z2, b2, z3⟩ := h
        simp only [List.length_nil, Nat.add_zero, Nat.mul_zero] at z2 z3
        refine ⟨by omega, _, _, _, m2, _, ⟨rfl, rfl, rfl, rfl⟩, fun d hd => ?_, by simp; omega, b2, by omega⟩
        rcases List.mem_append.1 hd with h | h
        · exact hr d h
        · rw [List.mem_singleton] at h
          subst h
          exact ⟨zs, rfl, fun e => by subst e; simp at z2; omega, by omega, z1⟩
    · rintro ρ τ ⟨v1, v3, v4, m', rows, rfl, hr, hl, hb, hm'⟩
      simp only [List.length_nil, Nat.add_zero, Nat.mul_zero] at hl hm'
      obtain ⟨a, b, rfl⟩ : ∃ a b, rows = [a, b] := by
        match rows, hl with
        | [a, b], _ => exact ⟨a, b, rfl⟩
      obtain ⟨xs, rfl, x0, x1, x2⟩ := hr a (by simp)
      obtain ⟨ys, rfl, y0, y1, y2⟩ := hr b (by simp)
      simp
      exact ⟨_, case_gives x1 y1 x0 y0 x2 y2, rfl, m', hb, by omega⟩
  · rintro ρ τ ⟨v1, v2, v3, v4, m, rfl, hb, hm⟩
    simp
theorem hand_gives : Gives (callF T 20) 12 [] (.bool true) := by
  have : (match callF T 20 12 [] [] with
    | some (.bool true, _) => true
    | _ => false) = true := by decide +kernel
  split at this
  · rename_i h; exact ⟨_, h⟩
  · cases this
theorem law_gives {xs : List Int} (hl : xs.length ≤ 63) : Gives (callF T 21) 14 [.list (xs.map .int)] (.bool true) := by
  refine gives_eq ?_
  rw [ok_is is14 rfl]
  simp [t_law]
  refine ⟨_, hand_gives, rfl, ?_⟩
  obtain ⟨d, g, ys, rfl, y1, y2⟩ := gives_ok (cells_ok (n := 19) (s := 3) (xs := xs) is7 (by decide) (by decide) hl (τ := []))
  refine ⟨_, g, ?_⟩
  simp
  have wr : walkC .range [.int (ys.length : Int)] = some ((List.range ys.length).map fun k => .int (k : Int)) := by
    refine walkC_of ?_ (by simp; omega)
    rw [walkD_range (by omega) (by omega)]
    match ys, y1, y2 with
    | [_], _, _ => rfl
    | [_, _], _, _ => rfl
    | [_, _, _], _, _ => rfl
  refine ⟨_, wr, ok_compM (fun _ => .bool true) (List.range ys.length) (fun k hk τ => ?_) (all_true fun y hy => ?_)⟩
  · simp
    obtain ⟨d, g, σ, rfl, bx⟩ := gives_ok (box_ok (n := 19) (xs := ys) (k := k) is5 (List.mem_range.1 hk) (τ := []))
    exact ⟨_, g, σ, rfl, (right_ok (n := 14) bx).mono fun d _ q => q⟩
  · obtain ⟨_, _, rfl⟩ := List.mem_map.1 hy
    rfl
end KN

set_option maxRecDepth 100000
set_option maxHeartbeats 4000000
namespace KN
open PySem L2 PyProof.Rows
theorem hb0 (kV dc pm : Value) (an : Option Addr) (cd ct : Value) (us : List Value) (hl : us.length = 1) : bindArgs (PySem.W.fnOf "is_number" "is_number" (defArgs (topS 1)) (defBody (topS 1)) (defScope (topS 1)) .none kV dc pm an cd ct) ⟨us, []⟩ = pure (List.zip (["thing"] : List Str) us) := match us, hl with | [_], _ => rfl
theorem hw0 {K : PySem.W.Frag} {kV dc pm : Value} {an : Option Addr} {cd ct : Value} (p : Kw) (hp : p ∈ kw) (he : p.f = 0) : KBinds K (PySem.W.fnOf "is_number" "is_number" (defArgs (topS 1)) (defBody (topS 1)) (defScope (topS 1)) .none kV dc pm an cd ct) ["thing"] p.ks (gP p) (gP p) := by
  simp only [kw, List.mem_cons, List.not_mem_nil, or_false] at hp
  rcases hp with rfl | rfl | rfl | rfl
  · cases he
  · cases he
  · cases he
  · cases he
theorem hb1 (kV dc pm : Value) (an : Option Addr) (cd ct : Value) (us : List Value) (hl : us.length = 1) : bindArgs (PySem.W.fnOf "is_chain" "is_chain" (defArgs (topS 3)) (defBody (topS 3)) (defScope (topS 3)) .none kV dc pm an cd ct) ⟨us, []⟩ = pure (List.zip (["thing"] : List Str) us) := match us, hl with | [_], _ => rfl
theorem hw1 {K : PySem.W.Frag} {kV dc pm : Value} {an : Option Addr} {cd ct : Value} (p : Kw) (hp : p ∈ kw) (he : p.f = 1) : KBinds K (PySem.W.fnOf "is_chain" "is_chain" (defArgs (topS 3)) (defBody (topS 3)) (defScope (topS 3)) .none kV dc pm an cd ct) ["thing"] p.ks (gP p) (gP p) := by
  simp only [kw, List.mem_cons, List.not_mem_nil, or_false] at hp
  rcases hp with rfl | rfl | rfl | rfl
  · cases he
  · cases he
  · cases he
  · exact kw_of (fun s us ws h1 h2 => match us, h1, ws, h2 with | [], _, [_], _ => .of_eq rfl) (by decide)
theorem hb2 (kV dc pm : Value) (an : Option Addr) (cd ct : Value) (us : List Value) (hl : us.length = 1) : bindArgs (PySem.W.fnOf "steps_up" "steps_up" (defArgs (topS 4)) (defBody (topS 4)) (defScope (topS 4)) .none kV dc pm an cd ct) ⟨us, []⟩ = pure (List.zip (["chain"] : List Str) us) := match us, hl with | [_], _ => rfl
theorem hw2 {K : PySem.W.Frag} {kV dc pm : Value} {an : Option Addr} {cd ct : Value} (p : Kw) (hp : p ∈ kw) (he : p.f = 2) : KBinds K (PySem.W.fnOf "steps_up" "steps_up" (defArgs (topS 4)) (defBody (topS 4)) (defScope (topS 4)) .none kV dc pm an cd ct) ["chain"] p.ks (gP p) (gP p) := by
  simp only [kw, List.mem_cons, List.not_mem_nil, or_false] at hp
  rcases hp with rfl | rfl | rfl | rfl
  · exact kw_of (fun s us ws h1 h2 => match us, h1, ws, h2 with | [], _, [_], _ => .of_eq rfl) (by decide)
  · cases he
  · cases he
  · cases he
theorem hb3 (kV dc pm : Value) (an : Option Addr) (cd ct : Value) (us : List Value) (hl : us.length = 2) : bindArgs (PySem.W.fnOf "same_always" "same_always" (defArgs (topS 5)) (defBody (topS 5)) (defScope (topS 5)) .none kV dc pm an cd ct) ⟨us, []⟩ = pure (List.zip (["one", "other"] : List Str) us) := match us, hl with | [_, _], _ => rfl
theorem hw3 {K : PySem.W.Frag} {kV dc pm : Value} {an : Option Addr} {cd ct : Value} (p : Kw) (hp : p ∈ kw) (he : p.f = 3) : KBinds K (PySem.W.fnOf "same_always" "same_always" (defArgs (topS 5)) (defBody (topS 5)) (defScope (topS 5)) .none kV dc pm an cd ct) ["one", "other"] p.ks (gP p) (gP p) := by
  simp only [kw, List.mem_cons, List.not_mem_nil, or_false] at hp
  rcases hp with rfl | rfl | rfl | rfl
  · cases he
  · cases he
  · exact kw_of (fun s us ws h1 h2 => match us, h1, ws, h2 with | [], _, [_, _], _ => .of_eq rfl) (by decide)
  · cases he
theorem hb4 (kV dc pm : Value) (an : Option Addr) (cd ct : Value) (us : List Value) (hl : us.length = 1) : bindArgs (PySem.W.fnOf "farthest" "farthest" (defArgs (topS 6)) (defBody (topS 6)) (defScope (topS 6)) .none kV dc pm an cd ct) ⟨us, []⟩ = pure (List.zip (["chain"] : List Str) us) := match us, hl with | [_], _ => rfl
theorem hw4 {K : PySem.W.Frag} {kV dc pm : Value} {an : Option Addr} {cd ct : Value} (p : Kw) (hp : p ∈ kw) (he : p.f = 4) : KBinds K (PySem.W.fnOf "farthest" "farthest" (defArgs (topS 6)) (defBody (topS 6)) (defScope (topS 6)) .none kV dc pm an cd ct) ["chain"] p.ks (gP p) (gP p) := by
  simp only [kw, List.mem_cons, List.not_mem_nil, or_false] at hp
  rcases hp with rfl | rfl | rfl | rfl
  · cases he
  · exact kw_of (fun s us ws h1 h2 => match us, h1, ws, h2 with | [], _, [_], _ => .of_eq rfl) (by decide)
  · cases he
  · cases he
theorem hb5 (kV dc pm : Value) (an : Option Addr) (cd ct : Value) (us : List Value) (hl : us.length = 2) : bindArgs (PySem.W.fnOf "_law_box" "_law_box" (defArgs (topS 8)) (defBody (topS 8)) (defScope (topS 8)) .none kV dc pm an cd ct) ⟨us, []⟩ = pure (List.zip (["_law_script", "_law_k"] : List Str) us) := match us, hl with | [_, _], _ => rfl
theorem hw5 {K : PySem.W.Frag} {kV dc pm : Value} {an : Option Addr} {cd ct : Value} (p : Kw) (hp : p ∈ kw) (he : p.f = 5) : KBinds K (PySem.W.fnOf "_law_box" "_law_box" (defArgs (topS 8)) (defBody (topS 8)) (defScope (topS 8)) .none kV dc pm an cd ct) ["_law_script", "_law_k"] p.ks (gP p) (gP p) := by
  simp only [kw, List.mem_cons, List.not_mem_nil, or_false] at hp
  rcases hp with rfl | rfl | rfl | rfl
  · cases he
  · cases he
  · cases he
  · cases he
theorem hb6 (kV dc pm : Value) (an : Option Addr) (cd ct : Value) (us : List Value) (hl : us.length = 2) : bindArgs (PySem.W.fnOf "_law_take" "_law_take" (defArgs (topS 9)) (defBody (topS 9)) (defScope (topS 9)) .none kV dc pm an cd ct) ⟨us, []⟩ = pure (List.zip (["_law_tin", "_law_top_so"] : List Str) us) := match us, hl with | [_, _], _ => rfl
theorem hw6 {K : PySem.W.Frag} {kV dc pm : Value} {an : Option Addr} {cd ct : Value} (p : Kw) (hp : p ∈ kw) (he : p.f = 6) : KBinds K (PySem.W.fnOf "_law_take" "_law_take" (defArgs (topS 9)) (defBody (topS 9)) (defScope (topS 9)) .none kV dc pm an cd ct) ["_law_tin", "_law_top_so"] p.ks (gP p) (gP p) := by
  simp only [kw, List.mem_cons, List.not_mem_nil, or_false] at hp
  rcases hp with rfl | rfl | rfl | rfl
  · cases he
  · cases he
  · cases he
  · cases he
theorem hb7 (kV dc pm : Value) (an : Option Addr) (cd ct : Value) (us : List Value) (hl : us.length = 2) : bindArgs (PySem.W.fnOf "_law_cells" "_law_cells" (defArgs (topS 10)) (defBody (topS 10)) (defScope (topS 10)) .none kV dc pm an cd ct) ⟨us, []⟩ = pure (List.zip (["_law_script", "_law_size_so"] : List Str) us) := match us, hl with | [_, _], _ => rfl
theorem hw7 {K : PySem.W.Frag} {kV dc pm : Value} {an : Option Addr} {cd ct : Value} (p : Kw) (hp : p ∈ kw) (he : p.f = 7) : KBinds K (PySem.W.fnOf "_law_cells" "_law_cells" (defArgs (topS 10)) (defBody (topS 10)) (defScope (topS 10)) .none kV dc pm an cd ct) ["_law_script", "_law_size_so"] p.ks (gP p) (gP p) := by
  simp only [kw, List.mem_cons, List.not_mem_nil, or_false] at hp
  rcases hp with rfl | rfl | rfl | rfl
  · cases he
  · cases he
  · cases he
  · cases he
theorem hb8 (kV dc pm : Value) (an : Option Addr) (cd ct : Value) (us : List Value) (hl : us.length = 2) : bindArgs (PySem.W.fnOf "_law_of" "_law_of" (defArgs (topS 11)) (defBody (topS 11)) (defScope (topS 11)) .none kV dc pm an cd ct) ⟨us, []⟩ = pure (List.zip (["_law_tin", "_law_pool"] : List Str) us) := match us, hl with | [_, _], _ => rfl
theorem hw8 {K : PySem.W.Frag} {kV dc pm : Value} {an : Option Addr} {cd ct : Value} (p : Kw) (hp : p ∈ kw) (he : p.f = 8) : KBinds K (PySem.W.fnOf "_law_of" "_law_of" (defArgs (topS 11)) (defBody (topS 11)) (defScope (topS 11)) .none kV dc pm an cd ct) ["_law_tin", "_law_pool"] p.ks (gP p) (gP p) := by
  simp only [kw, List.mem_cons, List.not_mem_nil, or_false] at hp
  rcases hp with rfl | rfl | rfl | rfl
  · cases he
  · cases he
  · cases he
  · cases he
theorem hb9 (kV dc pm : Value) (an : Option Addr) (cd ct : Value) (us : List Value) (hl : us.length = 2) : bindArgs (PySem.W.fnOf "_law_same" "_law_same" (defArgs (topS 12)) (defBody (topS 12)) (defScope (topS 12)) .none kV dc pm an cd ct) ⟨us, []⟩ = pure (List.zip (["_law_got", "_law_due"] : List Str) us) := match us, hl with | [_, _], _ => rfl
theorem hw9 {K : PySem.W.Frag} {kV dc pm : Value} {an : Option Addr} {cd ct : Value} (p : Kw) (hp : p ∈ kw) (he : p.f = 9) : KBinds K (PySem.W.fnOf "_law_same" "_law_same" (defArgs (topS 12)) (defBody (topS 12)) (defScope (topS 12)) .none kV dc pm an cd ct) ["_law_got", "_law_due"] p.ks (gP p) (gP p) := by
  simp only [kw, List.mem_cons, List.not_mem_nil, or_false] at hp
  rcases hp with rfl | rfl | rfl | rfl
  · cases he
  · cases he
  · cases he
  · cases he
theorem hb10 (kV dc pm : Value) (an : Option Addr) (cd ct : Value) (us : List Value) (hl : us.length = 1) : bindArgs (PySem.W.fnOf "_law_ups" "_law_ups" (defArgs (topS 13)) (defBody (topS 13)) (defScope (topS 13)) .none kV dc pm an cd ct) ⟨us, []⟩ = pure (List.zip (["_law_chain_so"] : List Str) us) := match us, hl with | [_], _ => rfl
theorem hw10 {K : PySem.W.Frag} {kV dc pm : Value} {an : Option Addr} {cd ct : Value} (p : Kw) (hp : p ∈ kw) (he : p.f = 10) : KBinds K (PySem.W.fnOf "_law_ups" "_law_ups" (defArgs (topS 13)) (defBody (topS 13)) (defScope (topS 13)) .none kV dc pm an cd ct) ["_law_chain_so"] p.ks (gP p) (gP p) := by
  simp only [kw, List.mem_cons, List.not_mem_nil, or_false] at hp
  rcases hp with rfl | rfl | rfl | rfl
  · cases he
  · cases he
  · cases he
  · cases he
theorem hb11 (kV dc pm : Value) (an : Option Addr) (cd ct : Value) (us : List Value) (hl : us.length = 2) : bindArgs (PySem.W.fnOf "_law_case_right" "_law_case_right" (defArgs (topS 14)) (defBody (topS 14)) (defScope (topS 14)) .none kV dc pm an cd ct) ⟨us, []⟩ = pure (List.zip (["_law_one_so", "_law_two_so"] : List Str) us) := match us, hl with | [_, _], _ => rfl
theorem hw11 {K : PySem.W.Frag} {kV dc pm : Value} {an : Option Addr} {cd ct : Value} (p : Kw) (hp : p ∈ kw) (he : p.f = 11) : KBinds K (PySem.W.fnOf "_law_case_right" "_law_case_right" (defArgs (topS 14)) (defBody (topS 14)) (defScope (topS 14)) .none kV dc pm an cd ct) ["_law_one_so", "_law_two_so"] p.ks (gP p) (gP p) := by
  simp only [kw, List.mem_cons, List.not_mem_nil, or_false] at hp
  rcases hp with rfl | rfl | rfl | rfl
  · cases he
  · cases he
  · cases he
  · cases he
theorem hb12 (kV dc pm : Value) (an : Option Addr) (cd ct : Value) (us : List Value) (hl : us.length = 0) : bindArgs (PySem.W.fnOf "_law_by_hand_right" "_law_by_hand_right" (defArgs (topS 15)) (defBody (topS 15)) (defScope (topS 15)) .none kV dc pm an cd ct) ⟨us, []⟩ = pure (List.zip ([] : List Str) us) := match us, hl with | [], _ => rfl
theorem hw12 {K : PySem.W.Frag} {kV dc pm : Value} {an : Option Addr} {cd ct : Value} (p : Kw) (hp : p ∈ kw) (he : p.f = 12) : KBinds K (PySem.W.fnOf "_law_by_hand_right" "_law_by_hand_right" (defArgs (topS 15)) (defBody (topS 15)) (defScope (topS 15)) .none kV dc pm an cd ct) [] p.ks (gP p) (gP p) := by
  simp only [kw, List.mem_cons, List.not_mem_nil, or_false] at hp
  rcases hp with rfl | rfl | rfl | rfl
  · cases he
  · cases he
  · cases he
  · cases he
theorem hb13 (kV dc pm : Value) (an : Option Addr) (cd ct : Value) (us : List Value) (hl : us.length = 1) : bindArgs (PySem.W.fnOf "_law_right" "_law_right" (defArgs (topS 16)) (defBody (topS 16)) (defScope (topS 16)) .none kV dc pm an cd ct) ⟨us, []⟩ = pure (List.zip (["_law_tin"] : List Str) us) := match us, hl with | [_], _ => rfl
theorem hw13 {K : PySem.W.Frag} {kV dc pm : Value} {an : Option Addr} {cd ct : Value} (p : Kw) (hp : p ∈ kw) (he : p.f = 13) : KBinds K (PySem.W.fnOf "_law_right" "_law_right" (defArgs (topS 16)) (defBody (topS 16)) (defScope (topS 16)) .none kV dc pm an cd ct) ["_law_tin"] p.ks (gP p) (gP p) := by
  simp only [kw, List.mem_cons, List.not_mem_nil, or_false] at hp
  rcases hp with rfl | rfl | rfl | rfl
  · cases he
  · cases he
  · cases he
  · cases he
theorem hb14 (kV dc pm : Value) (an : Option Addr) (cd ct : Value) (us : List Value) (hl : us.length = 1) : bindArgs (PySem.W.fnOf "law" "law" (defArgs (topS 17)) (defBody (topS 17)) (defScope (topS 17)) .none kV dc pm an cd ct) ⟨us, []⟩ = pure (List.zip (["_law_script"] : List Str) us) := match us, hl with | [_], _ => rfl
theorem hw14 {K : PySem.W.Frag} {kV dc pm : Value} {an : Option Addr} {cd ct : Value} (p : Kw) (hp : p ∈ kw) (he : p.f = 14) : KBinds K (PySem.W.fnOf "law" "law" (defArgs (topS 17)) (defBody (topS 17)) (defScope (topS 17)) .none kV dc pm an cd ct) ["_law_script"] p.ks (gP p) (gP p) := by
  simp only [kw, List.mem_cons, List.not_mem_nil, or_false] at hp
  rcases hp with rfl | rfl | rfl | rfl
  · cases he
  · cases he
  · cases he
  · cases he
theorem all_mk {l : PySem.W.OpenLaw} {w : World} {K : PySem.W.Frag} {h : Heap} {mg : Str → Option Value} {fa f0 f1 f2 f3 f4 f5 f6 f7 f8 f9 f10 f11 f12 f13 f14 : Addr} (X : K.In h) (G : h.Ns mainGlobals mg) (hfa : mg "law" = some (.ref fa))
    {od0 an0 od1 an1 od2 an2 od3 an3 od4 an4 od5 an5 od6 an6 od7 an7 od8 an8 od9 an9 od10 an10 od11 an11 od12 an12 od13 an13 od14 an14 : Option Addr} {sl0 sl1 sl2 sl3 sl4 sl5 sl6 sl7 sl8 sl9 sl10 sl11 sl12 sl13 sl14 : Array (Option Value)} {oc0 kV0 dc0 pm0 cd0 ct0 oc1 kV1 dc1 pm1 cd1 ct1 oc2 kV2 dc2 pm2 cd2 ct2 oc3 kV3 dc3 pm3 cd3 ct3 oc4 kV4 dc4 pm4 cd4 ct4 oc5 kV5 dc5 pm5 cd5 ct5 oc6 kV6 dc6 pm6 cd6 ct6 oc7 kV7 dc7 pm7 cd7 ct7 oc8 kV8 dc8 pm8 cd8 ct8 oc9 kV9 dc9 pm9 cd9 ct9 oc10 kV10 dc10 pm10 cd10 ct10 oc11 kV11 dc11 pm11 cd11 ct11 oc12 kV12 dc12 pm12 cd12 ct12 oc13 kV13 dc13 pm13 cd13 ct13 oc14 kV14 dc14 pm14 cd14 ct14 : Value}
    (a0 : PySem.W.nsIn K mainGlobals "is_number" = some (some (.ref f0))) (l0 : K.lookup f0 = some ⟨oc0, od0, .func (PySem.W.fnOf "is_number" "is_number" (defArgs (topS 1)) (defBody (topS 1)) (defScope (topS 1)) .none kV0 dc0 pm0 an0 cd0 ct0), sl0⟩) (c0 : PySem.W.codeIn K cd0 "is_number" = true) (k0 : PySem.W.keepIn K (.ref f0) = true)
    (a1 : PySem.W.nsIn K mainGlobals "is_chain" = some (some (.ref f1))) (l1 : K.lookup f1 = some ⟨oc1, od1, .func (PySem.W.fnOf "is_chain" "is_chain" (defArgs (topS 3)) (defBody (topS 3)) (defScope (topS 3)) .none kV1 dc1 pm1 an1 cd1 ct1), sl1⟩) (c1 : PySem.W.codeIn K cd1 "is_chain" = true) (k1 : PySem.W.keepIn K (.ref f1) = true)
    (a2 : PySem.W.nsIn K mainGlobals "steps_up" = some (some (.ref f2))) (l2 : K.lookup f2 = some ⟨oc2, od2, .func (PySem.W.fnOf "steps_up" "steps_up" (defArgs (topS 4)) (defBody (topS 4)) (defScope (topS 4)) .none kV2 dc2 pm2 an2 cd2 ct2), sl2⟩) (c2 : PySem.W.codeIn K cd2 "steps_up" = true) (k2 : PySem.W.keepIn K (.ref f2) = true)
    (a3 : PySem.W.nsIn K mainGlobals "same_always" = some (some (.ref f3))) (l3 : K.lookup f3 = some ⟨oc3, od3, .func (PySem.W.fnOf "same_always" "same_always" (defArgs (topS 5)) (defBody (topS 5)) (defScope (topS 5)) .none kV3 dc3 pm3 an3 cd3 ct3), sl3⟩) (c3 : PySem.W.codeIn K cd3 "same_always" = true) (k3 : PySem.W.keepIn K (.ref f3) = true)
    (a4 : PySem.W.nsIn K mainGlobals "farthest" = some (some (.ref f4))) (l4 : K.lookup f4 = some ⟨oc4, od4, .func (PySem.W.fnOf "farthest" "farthest" (defArgs (topS 6)) (defBody (topS 6)) (defScope (topS 6)) .none kV4 dc4 pm4 an4 cd4 ct4), sl4⟩) (c4 : PySem.W.codeIn K cd4 "farthest" = true) (k4 : PySem.W.keepIn K (.ref f4) = true)
    (a5 : PySem.W.nsIn K mainGlobals "_law_box" = some (some (.ref f5))) (l5 : K.lookup f5 = some ⟨oc5, od5, .func (PySem.W.fnOf "_law_box" "_law_box" (defArgs (topS 8)) (defBody (topS 8)) (defScope (topS 8)) .none kV5 dc5 pm5 an5 cd5 ct5), sl5⟩) (c5 : PySem.W.codeIn K cd5 "_law_box" = true) (k5 : PySem.W.keepIn K (.ref f5) = true)
    (a6 : PySem.W.nsIn K mainGlobals "_law_take" = some (some (.ref f6))) (l6 : K.lookup f6 = some ⟨oc6, od6, .func (PySem.W.fnOf "_law_take" "_law_take" (defArgs (topS 9)) (defBody (topS 9)) (defScope (topS 9)) .none kV6 dc6 pm6 an6 cd6 ct6), sl6⟩) (c6 : PySem.W.codeIn K cd6 "_law_take" = true) (k6 : PySem.W.keepIn K (.ref f6) = true)
    (a7 : PySem.W.nsIn K mainGlobals "_law_cells" = some (some (.ref f7))) (l7 : K.lookup f7 = some ⟨oc7, od7, .func (PySem.W.fnOf "_law_cells" "_law_cells" (defArgs (topS 10)) (defBody (topS 10)) (defScope (topS 10)) .none kV7 dc7 pm7 an7 cd7 ct7), sl7⟩) (c7 : PySem.W.codeIn K cd7 "_law_cells" = true) (k7 : PySem.W.keepIn K (.ref f7) = true)
    (a8 : PySem.W.nsIn K mainGlobals "_law_of" = some (some (.ref f8))) (l8 : K.lookup f8 = some ⟨oc8, od8, .func (PySem.W.fnOf "_law_of" "_law_of" (defArgs (topS 11)) (defBody (topS 11)) (defScope (topS 11)) .none kV8 dc8 pm8 an8 cd8 ct8), sl8⟩) (c8 : PySem.W.codeIn K cd8 "_law_of" = true) (k8 : PySem.W.keepIn K (.ref f8) = true)
    (a9 : PySem.W.nsIn K mainGlobals "_law_same" = some (some (.ref f9))) (l9 : K.lookup f9 = some ⟨oc9, od9, .func (PySem.W.fnOf "_law_same" "_law_same" (defArgs (topS 12)) (defBody (topS 12)) (defScope (topS 12)) .none kV9 dc9 pm9 an9 cd9 ct9), sl9⟩) (c9 : PySem.W.codeIn K cd9 "_law_same" = true) (k9 : PySem.W.keepIn K (.ref f9) = true)
    (a10 : PySem.W.nsIn K mainGlobals "_law_ups" = some (some (.ref f10))) (l10 : K.lookup f10 = some ⟨oc10, od10, .func (PySem.W.fnOf "_law_ups" "_law_ups" (defArgs (topS 13)) (defBody (topS 13)) (defScope (topS 13)) .none kV10 dc10 pm10 an10 cd10 ct10), sl10⟩) (c10 : PySem.W.codeIn K cd10 "_law_ups" = true) (k10 : PySem.W.keepIn K (.ref f10) = true)
    (a11 : PySem.W.nsIn K mainGlobals "_law_case_right" = some (some (.ref f11))) (l11 : K.lookup f11 = some ⟨oc11, od11, .func (PySem.W.fnOf "_law_case_right" "_law_case_right" (defArgs (topS 14)) (defBody (topS 14)) (defScope (topS 14)) .none kV11 dc11 pm11 an11 cd11 ct11), sl11⟩) (c11 : PySem.W.codeIn K cd11 "_law_case_right" = true) (k11 : PySem.W.keepIn K (.ref f11) = true)
    (a12 : PySem.W.nsIn K mainGlobals "_law_by_hand_right" = some (some (.ref f12))) (l12 : K.lookup f12 = some ⟨oc12, od12, .func (PySem.W.fnOf "_law_by_hand_right" "_law_by_hand_right" (defArgs (topS 15)) (defBody (topS 15)) (defScope (topS 15)) .none kV12 dc12 pm12 an12 cd12 ct12), sl12⟩) (c12 : PySem.W.codeIn K cd12 "_law_by_hand_right" = true) (k12 : PySem.W.keepIn K (.ref f12) = true)
    (a13 : PySem.W.nsIn K mainGlobals "_law_right" = some (some (.ref f13))) (l13 : K.lookup f13 = some ⟨oc13, od13, .func (PySem.W.fnOf "_law_right" "_law_right" (defArgs (topS 16)) (defBody (topS 16)) (defScope (topS 16)) .none kV13 dc13 pm13 an13 cd13 ct13), sl13⟩) (c13 : PySem.W.codeIn K cd13 "_law_right" = true) (k13 : PySem.W.keepIn K (.ref f13) = true)
    (a14 : PySem.W.nsIn K mainGlobals "law" = some (some (.ref f14))) (l14 : K.lookup f14 = some ⟨oc14, od14, .func (PySem.W.fnOf "law" "law" (defArgs (topS 17)) (defBody (topS 17)) (defScope (topS 17)) .none kV14 dc14 pm14 an14 cd14 ct14), sl14⟩) (c14 : PySem.W.codeIn K cd14 "law" = true) (k14 : PySem.W.keepIn K (.ref f14) = true)
    (z0 : PySem.W.nsIn K mainGlobals "len" = some none)
    (z1 : PySem.W.nsIn K mainGlobals "list" = some none)
    (z2 : PySem.W.nsIn K mainGlobals "tuple" = some none)
    (z3 : PySem.W.nsIn K mainGlobals "int" = some none)
    (z4 : PySem.W.nsIn K mainGlobals "abs" = some none)
    (z5 : PySem.W.nsIn K mainGlobals "sum" = some none)
    (z6 : PySem.W.nsIn K mainGlobals "max" = some none)
    (z7 : PySem.W.nsIn K mainGlobals "min" = some none)
    (z8 : PySem.W.nsIn K mainGlobals "all" = some none)
    (z9 : PySem.W.nsIn K mainGlobals "any" = some none)
    (z10 : PySem.W.nsIn K mainGlobals "sorted" = some none)
    (z11 : PySem.W.nsIn K mainGlobals "isinstance" = some none)
    (z12 : PySem.W.nsIn K mainGlobals "range" = some none)
    (z13 : PySem.W.nsIn K mainGlobals "enumerate" = some none)
    (z14 : PySem.W.nsIn K mainGlobals "zip" = some none)
    (z15 : PySem.W.nsIn K mainGlobals "bool" = some none)
    (z16 : PySem.W.nsIn K mainGlobals "str" = some none)
    (z17 : PySem.W.nsIn K mainGlobals "dict" = some none)
    : ∃ fd : FuncData, (∀ (s : Shared) (v : Value), BindsTo s fd ⟨[v], []⟩ [("_law_script", v)]) ∧ ∀ base : Heap, K.In base → base.Ns mainGlobals mg → FnOk l.prog w K mg base CX0 21 fa fd ["_law_script"] (spF K (callF T 21) 14 false false) := by
  have hb : ∀ x ∈ biL, mg x = none := fun x hx => by
    simp only [biL, List.mem_cons, List.not_mem_nil, or_false] at hx
    rcases hx with rfl | rfl | rfl | rfl | rfl | rfl | rfl | rfl | rfl | rfl | rfl | rfl | rfl | rfl | rfl | rfl | rfl | rfl
    · exact PySem.W.mg_none_of X G z0
    · exact PySem.W.mg_none_of X G z1
    · exact PySem.W.mg_none_of X G z2
    · exact PySem.W.mg_none_of X G z3
    · exact PySem.W.mg_none_of X G z4
    · exact PySem.W.mg_none_of X G z5
    · exact PySem.W.mg_none_of X G z6
    · exact PySem.W.mg_none_of X G z7
    · exact PySem.W.mg_none_of X G z8
    · exact PySem.W.mg_none_of X G z9
    · exact PySem.W.mg_none_of X G z10
    · exact PySem.W.mg_none_of X G z11
    · exact PySem.W.mg_none_of X G z12
    · exact PySem.W.mg_none_of X G z13
    · exact PySem.W.mg_none_of X G z14
    · exact PySem.W.mg_none_of X G z15
    · exact PySem.W.mg_none_of X G z16
    · exact PySem.W.mg_none_of X G z17
  have hg : ∀ p ∈ gl, ∃ t, mg p.1 = some (.str p.2 t) := fun p hp => by cases hp
  have A0 : FnAt K mg kw 0 t_is_number (topS 1) := at_mk X G a0 l0 c0 k0 hb0 hw0
  have A1 : FnAt K mg kw 1 t_is_chain (topS 3) := at_mk X G a1 l1 c1 k1 hb1 hw1
  have A2 : FnAt K mg kw 2 t_steps_up (topS 4) := at_mk X G a2 l2 c2 k2 hb2 hw2
  have A3 : FnAt K mg kw 3 t_same_always (topS 5) := at_mk X G a3 l3 c3 k3 hb3 hw3
  have A4 : FnAt K mg kw 4 t_farthest (topS 6) := at_mk X G a4 l4 c4 k4 hb4 hw4
  have A5 : FnAt K mg kw 5 t_law_box (topS 8) := at_mk X G a5 l5 c5 k5 hb5 hw5
  have A6 : FnAt K mg kw 6 t_law_take (topS 9) := at_mk X G a6 l6 c6 k6 hb6 hw6
  have A7 : FnAt K mg kw 7 t_law_cells (topS 10) := at_mk X G a7 l7 c7 k7 hb7 hw7
  have A8 : FnAt K mg kw 8 t_law_of (topS 11) := at_mk X G a8 l8 c8 k8 hb8 hw8
  have A9 : FnAt K mg kw 9 t_law_same (topS 12) := at_mk X G a9 l9 c9 k9 hb9 hw9
  have A10 : FnAt K mg kw 10 t_law_ups (topS 13) := at_mk X G a10 l10 c10 k10 hb10 hw10
  have A11 : FnAt K mg kw 11 t_law_case_right (topS 14) := at_mk X G a11 l11 c11 k11 hb11 hw11
  have A12 : FnAt K mg kw 12 t_law_by_hand_right (topS 15) := at_mk X G a12 l12 c12 k12 hb12 hw12
  have A13 : FnAt K mg kw 13 t_law_right (topS 16) := at_mk X G a13 l13 c13 k13 hb13 hw13
  have A14 : FnAt K mg kw 14 t_law (topS 17) := at_mk X G a14 l14 c14 k14 hb14 hw14
  have all : AllAt K mg kw 0 T sts := ⟨A0, A1, A2, A3, A4, A5, A6, A7, A8, A9, A10, A11, A12, A13, A14, trivial⟩
  exact law_mk (F := t_law) X G hb hg text_ok all hfa rfl rfl rfl rfl rfl a14 l14 c14 k14 hb14 20
end KN
open PySem PySem.W PyProof.Rows
set_option maxHeartbeats 0 in
theorem PySem.Challenge.cw_keptnear_k36_chains_and_steps_up_holds : PySem.Challenge.rw_keptnear_k36_chains_and_steps_up.Holds := by
  w_on; o_law; k_head; (case hw => w_witness2)
  k_fill
  refine L2.walk_of (l := PySem.Challenge.rw_keptnear_k36_chains_and_steps_up) (n := 63) (k := 21) (x := "_law_script") (CX := fun _ => L2.CX0) (sp := fun w => KN.spF _ (KN.callF KN.T 21) 14 false false) rfl (by decide) rfl ⟨rfl, by decide, by decide⟩ (fun w h Y => PySem.W.kIn_of Y) ?F (fun _ _ a ns hl _ hS => KN.law_sp hS (KN.law_gives hl)) (fun _ _ _ _ _ h => h)
  case F =>
    intro w mg fa h KX G hmg
    refine' KN.all_mk KX G hmg ?a0 ?l0 ?c0 ?k0 ?a1 ?l1 ?c1 ?k1 ?a2 ?l2 ?c2 ?k2 ?a3 ?l3 ?c3 ?k3 ?a4 ?l4 ?c4 ?k4 ?a5 ?l5 ?c5 ?k5 ?a6 ?l6 ?c6 ?k6 ?a7 ?l7 ?c7 ?k7 ?a8 ?l8 ?c8 ?k8 ?a9 ?l9 ?c9 ?k9 ?a10 ?l10 ?c10 ?k10 ?a11 ?l11 ?c11 ?k11 ?a12 ?l12 ?c12 ?k12 ?a13 ?l13 ?c13 ?k13 ?a14 ?l14 ?c14 ?k14 ?z0 ?z1 ?z2 ?z3 ?z4 ?z5 ?z6 ?z7 ?z8 ?z9 ?z10 ?z11 ?z12 ?z13 ?z14 ?z15 ?z16 ?z17
    (case a0 => k_is); (case l0 => k_is); (case c0 => k_is); (case k0 => k_is); (case a1 => k_is); (case l1 => k_is); (case c1 => k_is); (case k1 => k_is); (case a2 => k_is); (case l2 => k_is); (case c2 => k_is); (case k2 => k_is); (case a3 => k_is); (case l3 => k_is); (case c3 => k_is); (case k3 => k_is); (case a4 => k_is); (case l4 => k_is); (case c4 => k_is); (case k4 => k_is); (case a5 => k_is); (case l5 => k_is); (case c5 => k_is); (case k5 => k_is); (case a6 => k_is); (case l6 => k_is); (case c6 => k_is); (case k6 => k_is); (case a7 => k_is); (case l7 => k_is); (case c7 => k_is); (case k7 => k_is); (case a8 => k_is); (case l8 => k_is); (case c8 => k_is); (case k8 => k_is); (case a9 => k_is); (case l9 => k_is); (case c9 => k_is); (case k9 => k_is); (case a10 => k_is); (case l10 => k_is); (case c10 => k_is); (case k10 => k_is); (case a11 => k_is); (case l11 => k_is); (case c11 => k_is); (case k11 => k_is); (case a12 => k_is); (case l12 => k_is); (case c12 => k_is); (case k12 => k_is); (case a13 => k_is); (case l13 => k_is); (case c13 => k_is); (case k13 => k_is); (case a14 => k_is); (case l14 => k_is); (case c14 => k_is); (case k14 => k_is); (case z0 => k_is); (case z1 => k_is); (case z2 => k_is); (case z3 => k_is); (case z4 => k_is); (case z5 => k_is); (case z6 => k_is); (case z7 => k_is); (case z8 => k_is); (case z9 => k_is); (case z10 => k_is); (case z11 => k_is); (case z12 => k_is); (case z13 => k_is); (case z14 => k_is); (case z15 => k_is); (case z16 => k_is); (case z17 => k_is)

